import PyProof.Rows.All
import Wide.All
import OpenK.AllK
import Wide.FinOn
import HandS.ForMost
import HandS.ForExc
import HandS.ExcInit
import HandS.IsInst
import HandS.Wide
import HandS.Defaults
import HandS.ClsMeth
import HandS.Star
import HandS.SlotsOwn
import KE.KOpsOwn
import HandS.Head0
import HandS.Head1
import HandS.Head2
import HandS.HeadEnd
import HandS.HeadHook1
import HandS.HeadHook2
import HandS.HeadNt
import HandS.ExcField
import HandS.TryOnly
import HandS.TryMany
import HandS.TryElse
import HandS.List
import HandS.MakeKwOnly
import HandS.Comp
import HandS.Ends
import PySem.Challenge.RW_paystreams_k02_ratios
set_option Elab.async false
set_option linter.all false
set_option maxRecDepth 100000
set_option maxHeartbeats 4000000
/-! What must hold so that an expression, a test, an argument list, a statement, a block does what is wanted: the best reading of each. -/
namespace PR
open PySem PySem.Spec PyProof.Rows L2
structure We (X : Cx) (e : Expr) (σ : L2.St) (H : Hp) (Q : VK) : Prop where
  run : ∀ (pins : List (Addr × Obj)) (s : Shared), Inv X pins σ H s → wpAny (model X.prog X.w) X.A (eval e X.env) (EP X pins σ Q) X.xe s
structure Wt (X : Cx) (e : Expr) (σ : L2.St) (H : Hp) (Q : Bool → Hp → Prop) : Prop where
  run : ∀ (pins : List (Addr × Obj)) (s : Shared), Inv X pins σ H s → wpAny (model X.prog X.w) X.A (isTrue e X.env (eval e X.env)) (TP X pins σ Q) X.xe s
structure Ww (X : Cx) (e : Expr) (σ : L2.St) (H : Hp) (Q : Bool → Hp → Prop) : Prop where
  run : ∀ (whole : Sem Value) (pins : List (Addr × Obj)) (s : Shared), Inv X pins σ H s → wpAny (model X.prog X.w) X.A (isTrue e X.env whole) (TP X pins σ Q) X.xe s
structure Wa (X : Cx) (es : List Expr) (σ : L2.St) (H : Hp) (Q : List V → Hp → Prop) : Prop where
  run : ∀ (pos : Pos) (pins : List (Addr × Obj)) (s : Shared), Inv X pins σ H s → wpAny (model X.prog X.w) X.A (spliced (backTo pos (starEach es X.env))) (AP X pins σ Q) X.xe s
structure Wk (X : Cx) (kws : List Keyword) (σ : L2.St) (H : Hp) (Q : List V → Hp → Prop) : Prop where
  run : ∀ (pos : Pos) (pins : List (Addr × Obj)) (s : Shared), Inv X pins σ H s → wpAny (model X.prog X.w) X.A (evalAll ((backToKw pos (keywordEach kws X.env)).map (·.2))) (AP X pins σ Q) X.xe s
structure Ws (X : Cx) (st : Stmt) (D : Ends) (σ : L2.St) (H : Hp) : Prop where
  run : ∀ (pins : List (Addr × Obj)) (s : Shared), Inv X pins σ H s → wpAny (model X.prog X.w) X.A (exec st X.env) (SP X pins D) X.xe s
structure Wb (X : Cx) (sts : List Stmt) (D : Ends) (σ : L2.St) (H : Hp) : Prop where
  run : ∀ (pins : List (Addr × Obj)) (s : Shared), Inv X pins σ H s → wpAny (model X.prog X.w) X.A (execs sts X.env) (SP X pins D) X.xe s
section
variable {X : Cx} {e a b c : Expr} {es rest : List Expr} {σ : L2.St} {H : Hp} {Q : VK} {Qb : Bool → Hp → Prop} {Qa : List V → Hp → Prop} {D : Ends} {pos pos' p : Pos} {st : Stmt} {sts : List Stmt}
theorem peW : PE X e (We X e) := ⟨fun pins s _ _ _ I h => h.run pins s I⟩
theorem ptW : PT X e (Wt X e) := ⟨fun pins s _ _ _ I h => h.run pins s I⟩
theorem pwW : PW X e (Ww X e) := ⟨fun wh pins s _ _ _ I h => h.run wh pins s I⟩
theorem paW : PA X es (Wa X es) := ⟨fun pos pins s _ _ _ I h => h.run pos pins s I⟩
theorem pkW {kws : List Keyword} : PK X kws (Wk X kws) := ⟨fun pos pins s _ _ _ I h => h.run pos pins s I⟩
theorem psW : PS X st (Ws X st) := ⟨fun pins s _ _ _ I h => h.run pins s I⟩
theorem pbW : PSs X sts (Wb X sts) := ⟨fun pins s _ _ _ I h => h.run pins s I⟩
theorem we_of {t : TE} (q : PE X e t) (h : t σ H Q) : We X e σ H Q := ⟨fun pins s I => q.run pins s σ H Q I h⟩
theorem wt_of {t : TT} (q : PT X e t) (h : t σ H Qb) : Wt X e σ H Qb := ⟨fun pins s I => q.run pins s σ H Qb I h⟩
theorem ww_of {t : TT} (q : PW X e t) (h : t σ H Qb) : Ww X e σ H Qb := ⟨fun wh pins s I => q.run wh pins s σ H Qb I h⟩
theorem wa_of {t : TA} (q : PA X es t) (h : t σ H Qa) : Wa X es σ H Qa := ⟨fun pos pins s I => q.run pos pins s σ H Qa I h⟩
theorem wk_of {t : TA} {kws : List Keyword} (q : PK X kws t) (h : t σ H Qa) : Wk X kws σ H Qa := ⟨fun pos pins s I => q.run pos pins s σ H Qa I h⟩
theorem ws_of {t : TS} (q : PS X st t) (h : t D σ H) : Ws X st D σ H := ⟨fun pins s I => q.run pins s σ H D I h⟩
theorem wb_of {t : TS} (q : PSs X sts t) (h : t D σ H) : Wb X sts D σ H := ⟨fun pins s I => q.run pins s σ H D I h⟩
theorem We.mono {Q' : VK} (h : We X e σ H Q) (k : ∀ v H', Q v H' → Q' v H') : We X e σ H Q' := ⟨fun pins s I => thn (h.run pins s I) fun _ _ ⟨v, H', J, r, q⟩ => ⟨v, H', J, r, k v H' q⟩⟩
theorem Wt.mono {Q' : Bool → Hp → Prop} (h : Wt X e σ H Qb) (k : ∀ v H', Qb v H' → Q' v H') : Wt X e σ H Q' := ⟨fun pins s I => thn (h.run pins s I) fun v _ ⟨H', J, q⟩ => ⟨H', J, k v H' q⟩⟩
theorem Wa.mono {Q' : List V → Hp → Prop} (h : Wa X es σ H Qa) (k : ∀ v H', Qa v H' → Q' v H') : Wa X es σ H Q' := ⟨fun pos pins s I => thn (h.run pos pins s I) fun _ _ ⟨v, H', J, r, q⟩ => ⟨v, H', J, r, k v H' q⟩⟩
theorem ifT {k : Bool} {A B : Prop} (e : k = true) (h : A) : if k = true then A else B := by rw [if_pos e]; exact h
theorem ifF {k : Bool} {A B : Prop} (e : k = false) (h : B) : if k = true then A else B := by rw [if_neg (by rw [e]; exact Bool.false_ne_true)]; exact h
/-! ### expressions -/
theorem w_var (i : Nat) {x : Str} {v : V} (h : σ[i]? = some (some v)) (q : Q v H) (hN : X.N[i]? = some x := by rfl) (hv : Vis X.env.scope x := by first | exact Or.inl rfl | exact Or.inr (Or.inl rfl) | exact Or.inr (Or.inr rfl))
    (hd : (x == ("__debug__" : Str)) = false := by decide) (hcd : (x == ("__classdict__" : Str)) = false := by decide) : We X (.Name x pos) σ H Q := we_of (pe_var (i := i) hN hv hd hcd) ⟨v, h, q⟩
theorem w_int {i : Int} {j} (q : Q (.int i) H) : We X (.Constant (.int i) j pos) σ H Q := we_of pe_int q
theorem w_bl {i : Bool} {j} (q : Q (.bl i) H) : We X (.Constant (.bool i) j pos) σ H Q := we_of pe_bl q
theorem w_non {j} (q : Q .non H) : We X (.Constant .none j pos) σ H Q := we_of pe_non q
theorem w_str {x : Str} {j} (q : Q (.str x) H) : We X (.Constant (.str x) j pos) σ H Q := we_of pe_str q
theorem w_glob {x : Str} {v : V} {u : Value} (hm : X.mg x = some u) (r : RelV v u) (q : Q v H) (hg : Gl X x := by rfl) (hd : (x == ("__debug__" : Str)) = false := by decide) : We X (.Name x pos) σ H Q := we_of (pe_glob hg hm r hd) q
theorem w_ref {x : Str} {f : Addr} (hm : X.mg x = some (.ref f)) (q : Q (.ref f) H) (hg : Gl X x := by rfl) (hd : (x == ("__debug__" : Str)) = false := by decide) : We X (.Name x pos) σ H Q := we_of (pe_glob (v := .ref f) hg hm rfl hd) q
theorem w_bltn {x : Str} {v : V} {u : Value} (hm : X.mg x = none) (hv : bootBuiltins x = some u) (r : RelV v u) (q : Q v H) (hg : Gl X x := by rfl) (hn : x ≠ "__name__" := by decide) (hd : (x == ("__debug__" : Str)) = false := by decide) : We X (.Name x pos) σ H Q :=
  we_of (pe_bltn hg hm hv r hn hd) q
theorem w_op {op : Operator} {r : R2} (ho : OpR X (binaryOp op) r) (h : We X a σ H fun x H1 => We X b σ H1 fun y H2 => r x y H2 Q) : We X (.BinOp a op b pos) σ H Q := we_of (pe_op ho peW peW) h
theorem w_un {op : UnaryOp} {r : V → Hp → VK → Prop} (ho : UnR X (unaryOp op) r) (h : We X a σ H fun x H1 => r x H1 Q) : We X (.UnaryOp op a pos) σ H Q := we_of (pe_un ho peW) h
theorem w_cmp {op : CmpOp} {r : R2} (ho : OpR X (compareOp op) r) (h : We X a σ H fun x H1 => We X b σ H1 fun y H2 => r x y H2 Q) (hm : behindInMarks op b = false := by first | exact nomark _ | rfl) : We X (.Compare a [op] [b] pos) σ H Q := we_of (pe_cmpR ho peW peW hm) h
theorem w_ife (h : Wt X c σ H fun k H1 => if k = true then We X a σ H1 Q else We X b σ H1 Q) : We X (.IfExp c a b pos) σ H Q := we_of (pe_ifExp ptW peW peW) h
theorem w_one {op} (h : We X a σ H Q) : We X (.BoolOp op [a] pos) σ H Q := we_of (pe_one peW) h
theorem w_and (h : We X a σ H fun x H1 => ∃ k, x = .bl k ∧ if k = true then We X (.BoolOp .And (b :: rest) pos) σ H1 Q else Q (.bl false) H1) : We X (.BoolOp .And (a :: b :: rest) pos) σ H Q := we_of (pe_and peW peW) h
theorem w_or (h : We X a σ H fun x H1 => ∃ k, x = .bl k ∧ if k = true then Q (.bl true) H1 else We X (.BoolOp .Or (b :: rest) pos) σ H1 Q) : We X (.BoolOp .Or (a :: b :: rest) pos) σ H Q := we_of (pe_or peW peW) h
theorem w_not (h : We X a σ H fun x H1 => ∃ k, x = .bl k ∧ Q (.bl (!k)) H1) : We X (.UnaryOp .Not a pos) σ H Q := we_of (pe_not peW) h
theorem w_tup {k} (h : Wa X es σ H fun xs H1 => xs.length ≤ sizeLine ∧ ∀ p, H1 p = none → Q (.ref p) (upd H1 p (.tup xs))) : We X (.Tuple es k pos) σ H Q := we_of (pe_tup paW) h
theorem w_lst (h : Wa X es σ H fun xs H1 => xs.length ≤ sizeLine ∧ ∀ p, H1 p = none → Q (.ref p) (upd H1 p (.lst xs))) : We X (.List es pos) σ H Q := we_of (pe_lst paW) h
theorem w_fld {f : Str} (h : We X e σ H fun x H1 => ∃ a C dx fs v, x = .ref a ∧ H1 a = some (.ins C dx fs) ∧ Cls X.K C ∧ NoAttr X.K C f ∧ fs.lookup f = some v ∧ Q v H1)
    (hb : attributeBase e f X.env (eval e X.env) = eval e X.env := by rfl) : We X (.Attribute e f pos) σ H Q := we_of (pe_fld peW hb) h
theorem w_ix {r : R2} (hr : IxR X r) (h : We X a σ H fun x H1 => We X b σ H1 fun y H2 => r x y H2 Q) (hs : PlainIx b := by exact fun _ _ => rfl) : We X (.Subscript a b pos) σ H Q := we_of (pe_ix hr peW peW hs) h
/-! ### arguments -/
theorem a_nil (q : Qa [] H) : Wa X [] σ H Qa := wa_of pa_nil q
theorem a_cons (h : We X e σ H fun x H1 => Wa X es σ H1 fun xs H2 => Qa (x :: xs) H2) (hs : starEach (e :: es) X.env = (false, eval e X.env) :: starEach es X.env := by rfl) : Wa X (e :: es) σ H Qa := wa_of (pa_cons peW paW hs) h
theorem k_nil (q : Qa [] H) : Wk X [] σ H Qa := wk_of pk_nil q
theorem k_cons {nm kpos} {kws : List Keyword} (h : We X e σ H fun x H1 => Wk X kws σ H1 fun xs H2 => Qa (x :: xs) H2) : Wk X (⟨nm, e, kpos⟩ :: kws) σ H Qa := wk_of (pk_cons peW pkW) h
/-! ### tests -/
theorem t_val (h : We X e σ H fun x H1 => ∃ k, x = .bl k ∧ Qb k H1) (he : ∀ whole, isTrue e X.env whole = (do let v ← whole; standAt e.pos; holding [v] (truthy v)) := by intro _; rfl) : Wt X e σ H Qb := wt_of (pt_val peW he) h
theorem t_truth (h : We X e σ H fun x H1 => ∃ k, TruV X.K x H1 k ∧ Qb k H1) (he : ∀ whole, isTrue e X.env whole = (do let v ← whole; standAt e.pos; holding [v] (truthy v)) := by intro _; rfl) : Wt X e σ H Qb := wt_of (pt_truth peW he) h
theorem t_cmp {op : CmpOp} {r : R2} (ho : OpR X (compareOp op) r) (h : We X a σ H fun x H1 => We X b σ H1 fun y H2 => r x y H2 fun z H3 => ∃ k, z = .bl k ∧ Qb k H3) (hm : behindInMarks op b = false := by first | exact nomark _ | rfl) : Wt X (.Compare a [op] [b] pos) σ H Qb :=
  wt_of (pt_cmpR ho peW peW hm) h
theorem t_not (h : Wt X a σ H fun k H1 => Qb (!k) H1) : Wt X (.UnaryOp .Not a pos) σ H Qb := wt_of (pt_not ptW) h
theorem t_bool (h : Ww X e σ H Qb) : Wt X e σ H Qb := ⟨fun pins s I => h.run _ pins s I⟩
theorem b_and1 (h : Wt X a σ H Qb) : Ww X (.BoolOp .And [a] pos) σ H Qb := ww_of (pw_and1 ptW) h
theorem b_or1 (h : Wt X a σ H Qb) : Ww X (.BoolOp .Or [a] pos) σ H Qb := ww_of (pw_or1 ptW) h
theorem b_and (h : Wt X a σ H fun k H1 => if k = true then Ww X (.BoolOp .And (b :: rest) pos) σ H1 Qb else Qb false H1) : Ww X (.BoolOp .And (a :: b :: rest) pos) σ H Qb := ww_of (pw_and ptW pwW) h
theorem b_or (h : Wt X a σ H fun k H1 => if k = true then Qb true H1 else Ww X (.BoolOp .Or (b :: rest) pos) σ H1 Qb) : Ww X (.BoolOp .Or (a :: b :: rest) pos) σ H Qb := ww_of (pw_or ptW pwW) h
/-! ### statements -/
theorem s_nil (q : D.nx σ H) : Wb X [] D σ H := wb_of pss_nil q
theorem s_one (h : Ws X st D σ H) : Wb X [st] D σ H := wb_of (pss_one psW) h
theorem s_cons (h : Ws X st { D with nx := fun σ' H' => Wb X sts D σ' H' } σ H) : Wb X (st :: sts) D σ H := wb_of (pss_cons psW pbW) h
theorem s_pass (q : D.nx σ H) : Ws X (.Pass pos) D σ H := ws_of ps_pass q
theorem s_brk (q : D.bk σ H) : Ws X (.Break pos) D σ H := ws_of ps_break q
theorem s_cont (q : D.ct σ H) : Ws X (.Continue pos) D σ H := ws_of ps_continue q
theorem s_expr (h : We X e σ H fun _ H1 => D.nx σ H1) (hs : swapsWith e none pos.line X.env = pure false := by rfl) : Ws X (.Expr e pos) D σ H := ws_of (ps_expr peW hs) h
theorem s_ret (h : We X e σ H D.rt) : Ws X (.Return (some e) pos) D σ H := ws_of (ps_ret peW) h
theorem s_if {u v : List Stmt} (h : Wt X c σ H fun k H1 => if k = true then Wb X u D σ H1 else Wb X v D σ H1) : Ws X (.If c u v pos) D σ H := ws_of (ps_if ptW pbW pbW) h
theorem s_set (i : Nat) {x : Str} (hN : X.N.Nodup) (h : We X e σ H fun v H1 => D.nx (σ.set i (some v)) H1) (hi : X.N[i]? = some x := by rfl) (hx : Loc X.env.scope x := by first | exact Or.inl rfl | exact Or.inr rfl) (hs : swapsWith e (some (.Name x pos')) pos.line X.env = pure false := by rfl)
    (hf : X.fn x = true ∨ X.env.scope.names.lookup x = some .local := by first | exact .inl rfl | exact .inr rfl) : Ws X (.Assign [.Name x pos'] e pos) D σ H := ws_of (ps_set hN hi hx peW hs hf) h
end
end PR
namespace PR
open PySem PySem.Spec PyProof.Rows L2
section
variable {X : Cx} {e : Expr} {es : List Expr} {ta : TA} {p p1 p2 pos : Pos}
/-- S.__init__(self, ..), S a class of the program over ValueError without an own __init__ -/
theorem pe_sinit {S : Str} {C : Addr} {mc : Value} {pl : Sem Bool} (hg : Gl X S) (hm : X.mg S = some (.ref C)) (r : ClX.CRead X.K C mc) (vV : PySem.W.findCls X.K (.ref C) mc "__init__" = some (.val (.builtin "ValueError.__init__"))) (ha : PA X (e :: es) ta)
    (hdb : (S == ("__debug__" : Str)) = false := by decide)
    (hc : eval (.Call (.Attribute (.Name S p1) "__init__" p2) (e :: es) [] pos) X.env = (do
      let ov ← eval (.Name S p1) X.env
      standAt p2.atName
      let (f, first) ← holding [ov] (getMethod ov "__init__" pl)
      callWith pos f first (backTo pos (starEach (e :: es) X.env)) (backToKw pos (keywordEach [] X.env))) := by rfl)
    (he : starEach (e :: es) X.env = (false, eval e X.env) :: starEach es X.env := by rfl) (hpl : (backTo pos (starEach es X.env)).any (·.1) = false := by rfl) :
    PE X (.Call (.Attribute (.Name S p1) "__init__" p2) (e :: es) [] pos) (tVeI X.K ta) := by
  refine ⟨fun pins s σ H Q I h => ?_⟩
  refine PySem.W.methodCall_KW (ld_glob I hg hm ?_ hdb) hc
  refine PySem.W.method_cls I.kIn r.ga (PySem.W.cls_value I.kIn r.rd vV (by decide +kernel) ?_)
  show wpAny _ _ (callWith pos (Value.builtin "ValueError.__init__") [] (backTo pos (starEach (e :: es) X.env)) []) _ _ _
  refine PyProof.Rows.callWith_method1 (thn (ha.run pos pins _ σ H _ (I.tok _) h) fun us s1 ⟨vs, H1, I1, r1, a, C, ws, ev, hl, T, ea, q⟩ => ?_) he hpl
  subst ev
  cases r1 with
  | @cons _ u0 _ ur ra rw' =>
    obtain rfl : u0 = Value.ref a := ra
    have hlen : ur.length ≤ sizeLine := by
      rw [← Paired.length rw', sizeLine_eq]
      omega
    exact oinit_ok T I1 ea hlen fun s' J => ⟨.non, H1, J, rfl, q⟩
/-- the end of C(..) whose __init__ stores nothing: the exception is let go -/
theorem mk_endN {pins : List (Addr × Obj)} {σ : L2.St} {H1 H2 : Hp} {Q : XK} {hp hp2 h2 : Heap} {g1 g2 : Array GenState} {d1 d2 : Drawn} {t1 t2 : Nat} {os1 os2 : OsState} {a C : Addr} (T : Raises X (.ref C)) (I1 : Inv X pins σ H1 ⟨hp, g1, d1, t1, os1⟩)
    (ha : hp.objs.size ≤ a) (k : ∀ b o, hp.get? b = some o → hp2.get? b = some o) (un : Un (frs X.stack) [] (upd H1 a (exo a C none)) H2 hp2 h2) (hok : HOk X.prog X.w H2 h2) (ho : os2 = os1) (hb : AllBare g2)
    (ea : H2 a = some (exo a C none)) (q : Q (.ref C) none (del H2 a)) : MkP X pins σ Q (.ref a) ⟨h2, g2, d2, t2, os2⟩ := by
  obtain ⟨t0, hoe⟩ := exo_at hok ea
  have hn : H1 a = none := I1.hok.fresh ha
  obtain ⟨G, g1', g2'⟩ := restrict h2 fun b => decide (b ≠ a)
  have gk : ∀ b, b ≠ a → G.get? b = h2.get? b := fun b hb => g1' b (decide_eq_true hb)
  have ge : G.get? a = none := g2' a (by simp)
  have nha : ∀ {b : Addr} {o : Obj}, hp.get? b = some o → b ≠ a := fun {b o} z => Nat.ne_of_lt (Nat.lt_of_lt_of_le (Heap.lt_size z) ha)
  have up : ∀ {b : Addr}, b ≠ a → H1 b = none → upd H1 a (exo a C none) b = none := fun {b} hb n => by rw [upd_ne hb]; exact n
  have U : Un (frs X.stack) [] H1 (del H2 a) hp G := {
    keep := fun b o z n hf hx => by
      rw [gk b (nha z)]
      exact un.keep b o (k b o z) (up (nha z) n) hf hx
    slot := fun b o z n hf hx => by
      rw [gk b (nha z)]
      exact un.slot b o (k b o z) (up (nha z) n) hf hx
    free := fun b o z n hx => by
      rw [del_ne (nha z)]
      exact un.free b o (k b o z) (up (nha z) n) hx
    there := fun b o z hx => by
      rw [gk b (nha z)]
      exact un.there b o (k b o z) hx
    tups := fun b xs z => by
      rw [del_ne (ne_of_none z hn)]
      exact un.tups b xs (by rw [upd_ne (ne_of_none z hn)]; exact z)
    frzs := fun b o v z => by
      rw [del_ne (ne_of_none z hn)]
      exact un.frzs b o v (by rw [upd_ne (ne_of_none z hn)]; exact z)
    tbls := fun b ps z => by
      rw [del_ne (ne_of_none z hn)]
      exact un.tbls b ps (by rw [upd_ne (ne_of_none z hn)]; exact z) }
  have hok3 : HOk X.prog X.w (del H2 a) G := fun b o z => by
    have hba : b ≠ a := fun e => by
      rw [e, del_same] at z
      cases z
    rw [del_ne hba] at z
    have noa : ∀ {c : Addr}, H2 c = some (.own b) → c ≠ a := fun {c} hc => at_ne ea hc exo_own
    exact (hok b o z).stay (fun c v hc y => by
        have hca : c ≠ a := by
          rcases hc with hc | hc
          · rw [hc]
            exact hba
          · exact noa hc
        rw [gk c hca]
        exact y)
      (fun c hc => by rw [del_ne (noa hc)]; exact hc) (fun c xs hc => by rw [del_ne (at_ne ea hc exo_tup)]; exact hc)
  have J : Inv X pins σ (del H2 a) ⟨G, g2, d2, t2, os2⟩ := I1.call' (ch := []) ho U hok3 hb (fun b z => absurd z (by simp))
  refine ⟨a, _, _, ⟨G, g2, d2, t2, os2⟩, _, .ref C, none, rfl, J, fun b o z => ?_, ge, hoe, ⟨rfl, rfl⟩, rfl, rfl, del_same, rfl, hb, T, q⟩
  by_cases hba : b = a
  · rw [hba, ge] at z
    cases z
  · exact (gk b hba).symm.trans z
/-- C(), C's own __init__ keeping sp, nothing stored -/
def tMkO0 (C : Addr) (sp : Sp) : L2.St → Hp → XK → Prop := fun _ H Q => ∀ a, H a = none → sp [.ref a] (upd H a (exo a C none)) (fun v H2 => v = .non ∧ H2 a = some (exo a C none) ∧ Q (.ref C) none (del H2 a)) (fun _ _ _ => False)
theorem pmk_oex0 {CX : CXT} {x : Str} {C fI : Addr} {k : Nat} {fd : FuncData} {ps : List Str} {sp : Sp} (T : OexC X.K C) (iC : PySem.W.findIn X.K (.ref C) "__init__" = some (some (.ref fI))) (tI : PySem.W.typeIn X.K (.ref fI) = some (.type "function"))
    (F1 : FnOk X.prog X.w X.K X.mg X.base CX k fI fd ps sp) (hr : Room (k + 1) X.A) (hb : Binds X.K fd ps []) (hx : Passes CX X (fun _ _ _ => False)) (hg : Gl X x) (hm : X.mg x = some (.ref C))
    (hdb : (x == ("__debug__" : Str)) = false := by decide) :
    PMk X (.Call (.Name x p) [] [] pos) (tMkO0 C sp) := by
  intro pins s σ H1 Q I1 q1
  obtain ⟨nm, q, N, bs, bm, sn, sub, ab, col, dd, k0, k1, k2, k3, k5, hC, hbm⟩ := T.cls
  refine wpAny_Call_Name_kw (ld_glob I1 hg hm ?_ hdb)
  refine PySem.W.callWith_K0 I1.kIn T.kC ?_
  show wpAny _ _ (call (.ref C) []) _ _ _
  obtain ⟨hp, g, dr, tk, os⟩ := s
  have hsz : hp.objs.size ≤ hp.objs.size + 1 := Nat.le_succ _
  have hn : H1 (hp.objs.size + 1) = none := I1.hok.fresh hsz
  have hq := q1 (hp.objs.size + 1) hn
  have kk : ∀ b o, hp.get? b = some o → ((hp.push (PySem.W.kdv_tup [])).push (PySem.HandSPX.excO C hp.objs.size)).get? b = some o := fun b o e => Heap.get?_push_of_some _ (Heap.get?_push_of_some _ e)
  have hget : ((hp.push (PySem.W.kdv_tup [])).push (PySem.HandSPX.excO C hp.objs.size)).get? (hp.objs.size + 1) = some (PySem.HandSPX.excO C hp.objs.size) := by heap_get
  have I2 : Inv X pins σ (upd H1 (hp.objs.size + 1) (exo (hp.objs.size + 1) C none)) ⟨(hp.push (PySem.W.kdv_tup [])).push (PySem.HandSPX.excO C hp.objs.size), g, dr, tk, os⟩ :=
    I1.laid (t' := tk) (a := hp.objs.size + 1) (o := exo (hp.objs.size + 1) C none) (h' := (hp.push (PySem.W.kdv_tup [])).push (PySem.HandSPX.excO C hp.objs.size)) kk hsz (exo_ok hget)
  have r2 : Vals [V.ref (hp.objs.size + 1)] [Value.ref (hp.objs.size + 1)] := .cons rfl .nil
  have hl : ([Value.ref (hp.objs.size + 1)] ++ ([] : List Value)).length = ps.length := (F1.len _ _ _ _ hq)
  refine wpAny_call (PySem.HandSPX.call_own F.excBase_ValueError (fun Y => PySem.HandSPX.refsVE_contains Y bm hbm) (I1.kIn _ _ hC) (PySem.W.looks_findIn I1.kIn iC) (fun self => PySem.W.bind_fn I1.kIn self tI) (by simp)
    (codeAny_mono (F1.run _ X.stack _ _ ⟨[Value.ref (hp.objs.size + 1)], []⟩ [Value.ref (hp.objs.size + 1)] _ _ (fun _ _ _ => False) (hr.make C [] []) (I2.env0.make C [] []) (hb _ [Value.ref (hp.objs.size + 1)] I2.kIn hl) r2 hq) fun r s' hq' => ?_))
  cases r with
  | error er => exact hx pins σ _ _ er s' I2 hq'
  | ok fl =>
    cases fl with
    | ret u =>
      obtain ⟨v, H2, os2, bare2, un2, hok2, rv, ev, ea, q2⟩ := hq'
      subst ev
      obtain ⟨h2, g2, d2, t2, os'⟩ := s'
      exact ⟨rv, mk_endN (raises_own T.exC T.tyC) I1 hsz kk un2 hok2 os2 bare2 ea q2⟩
    | next => exact False.elim hq'
    | brk => exact False.elim hq'
    | cont => exact False.elim hq'
end
end PR
namespace PR
open PySem PySem.Spec PyProof.Rows L2
/-! ### calls -/
theorem passX {P : Program} {w : World} {K : PySem.W.Frag} {mg : Str → Option Value} {base : Heap} {N : List Str} {qual : Str} {sc : Scope} {f : Addr} {cdv : Value} {A : Around} {outer : List Env} {s : Shared} {H : Hp} {E : XK} :
    Passes (L2.CX P w) (cxOf (L2.CX P w) P w K mg base N qual sc f cdv A outer s H E) E :=
  passes_call (X := cxOf (L2.CX P w) P w K mg base N qual sc f cdv A outer s H E) (takes_of (E := E) rfl rfl rfl rfl) fun _ _ _ _ h => h
section
variable {X : Cx} {e o a b : Expr} {es : List Expr} {σ : L2.St} {H : Hp} {Q : VK} {p pos apos : Pos} {CX : CXT} {k : Nat} {f C g : Addr} {sp : Sp} {E : XK} {x m : Str}
/-- x(e, ..), x a def of the module -/
theorem w_call (F : FnR X.prog X.w X.K X.mg X.base CX k f sp) (hr : Room k X.A) (hm : X.mg x = some (.ref f)) (hk : PySem.W.keepIn X.K (.ref f) = true) (hx : Passes CX X E)
    (h : Wa X (e :: es) σ H fun vs H1 => sp vs H1 Q E) (hg : Gl X x := by rfl) (hdb : (x == ("__debug__" : Str)) = false := by decide) (he : starEach (e :: es) X.env = (false, eval e X.env) :: starEach es X.env := by rfl) (hpl : (backTo pos (starEach es X.env)).any (·.1) = false := by rfl) :
    We X (.Call (.Name x p) (e :: es) [] pos) σ H Q := by
  refine ⟨fun pins s I => ?_⟩
  refine wpAny_Call_Name_kw (ld_glob I hg hm ?_ hdb)
  refine PySem.W.callWith_K (h₀ := X.base) I.ok.mod.kin hk (thn (h.run pos pins s I) fun us s1 ⟨vs, H1, I1, r, q⟩ => ⟨I1.kIn, ?_⟩) he hpl
  exact wpAny_call (run_fnR F hr hx I1 r q)
theorem w_call0 (F : FnR X.prog X.w X.K X.mg X.base CX k f sp) (hr : Room k X.A) (hm : X.mg x = some (.ref f)) (hk : PySem.W.keepIn X.K (.ref f) = true) (hx : Passes CX X E)
    (h : sp [] H Q E) (hg : Gl X x := by rfl) (hdb : (x == ("__debug__" : Str)) = false := by decide) : We X (.Call (.Name x p) [] [] pos) σ H Q := by
  refine ⟨fun pins s I => ?_⟩
  refine wpAny_Call_Name_kw (ld_glob I hg hm ?_ hdb)
  exact PySem.W.callWith_K0 I.kIn hk (wpAny_call (run_fnR (us := []) F hr hx I .nil h))
/-- o.m(e, ..) -/
theorem w_meth {pl : Sem Bool} (c : Cls X.K C) (hm : Meth X.K C m f) (F : FnR X.prog X.w X.K X.mg X.base CX k f sp) (hr : Room k X.A) (hx : Passes CX X E)
    (h : We X o σ H fun x H1 => ∃ a dx fs, x = .ref a ∧ H1 a = some (.ins C dx fs) ∧ fs.lookup m = none ∧ Wa X (e :: es) σ H1 fun vs H2 => sp (x :: vs) H2 Q E)
    (hst : starEach (e :: es) X.env = (false, eval e X.env) :: starEach es X.env := by rfl) (hpl : (backTo pos (starEach es X.env)).any (·.1) = false := by rfl)
    (ht : eval (.Call (.Attribute o m apos) (e :: es) [] pos) X.env = (do
      let ov ← eval o X.env
      standAt apos.atName
      let (f, first) ← holding [ov] (getMethod ov m pl)
      callWith pos f first (backTo pos (starEach (e :: es) X.env)) (backToKw pos (keywordEach [] X.env))) := by rfl) :
    We X (.Call (.Attribute o m apos) (e :: es) [] pos) σ H Q := we_of (pe_methR peW c hm F hr hx paW hst hpl ht) h
theorem w_meth0 {pl : Sem Bool} (c : Cls X.K C) (hm : Meth X.K C m f) (F : FnR X.prog X.w X.K X.mg X.base CX k f sp) (hr : Room k X.A) (hx : Passes CX X E)
    (h : We X o σ H fun x H1 => ∃ a dx fs, x = .ref a ∧ H1 a = some (.ins C dx fs) ∧ fs.lookup m = none ∧ sp [x] H1 Q E)
    (ht : eval (.Call (.Attribute o m apos) [] [] pos) X.env = (do
      let ov ← eval o X.env
      standAt apos.atName
      let (f, first) ← holding [ov] (getMethod ov m pl)
      callWith pos f first (backTo pos (starEach [] X.env)) (backToKw pos (keywordEach [] X.env))) := by rfl) :
    We X (.Call (.Attribute o m apos) [] [] pos) σ H Q := by
  refine ⟨fun pins s I => ?_⟩
  refine PySem.W.methodCall_KW (pl := pl) (thn (h.run pins s I) fun u s1 ⟨x, H1, I1, rx, a, dx, fs, ex, ea, l, q⟩ => ?_) ht
  subst ex
  obtain rfl : u = Value.ref a := rx
  refine getmeth_ok I1 ea c hm l ?_
  exact PySem.W.callWith_K0 (first := [.ref a]) I1.kIn hm.kp (wpAny_call (run_fnR (us := [.ref a]) (vs := [.ref a]) F hr hx I1 (.cons rfl .nil) q))
/-- C(e, ..) -/
theorem w_make (M : Mk X.K C f) (F : FnR X.prog X.w X.K X.mg X.base CX k f sp) (hr : Room (k + 1) X.A) (hm : X.mg x = some (.ref C)) (hx : Passes CX X E)
    (h : Wa X (e :: es) σ H fun vs H1 => ∀ x dx, H1 x = Option.none → H1 dx = Option.none → dx ≠ x → sp (V.ref x :: vs) (upd (upd H1 dx (.own x)) x (.ins C dx [])) (fun v H2 => v = .non ∧ Q (.ref x) H2) E)
    (hg : Gl X x := by rfl) (hdb : (x == ("__debug__" : Str)) = false := by decide) (he : starEach (e :: es) X.env = (false, eval e X.env) :: starEach es X.env := by rfl) (hpl : (backTo pos (starEach es X.env)).any (·.1) = false := by rfl) :
    We X (.Call (.Name x p) (e :: es) [] pos) σ H Q := we_of (StX.pe_makeR M F hr hg hm hx paW hdb he hpl) h
/-- a builtin -/
theorem w_callB {id : String} {r : List V → Hp → VK → Prop} (hc : CallR X (.builtin id) r) (hm : X.mg x = none) (hv : bootBuiltins x = some (.builtin id)) (h : Wa X (e :: es) σ H fun vs H1 => r vs H1 Q) (hg : Gl X x := by rfl) (hn : x ≠ "__name__" := by decide) (hdb : (x == ("__debug__" : Str)) = false := by decide)
    (he : starEach (e :: es) X.env = (false, eval e X.env) :: starEach es X.env := by rfl) (hpl : (backTo pos (starEach es X.env)).any (·.1) = false := by rfl) : We X (.Call (.Name x p) (e :: es) [] pos) σ H Q :=
  we_of (pe_callB hc hg hm hv paW hn hdb he hpl) h
theorem w_callT {T : String} {r : List V → Hp → VK → Prop} (hc : CallR X (.type T) r) (hm : X.mg x = none) (hv : bootBuiltins x = some (.type T)) (h : Wa X (e :: es) σ H fun vs H1 => r vs H1 Q) (hg : Gl X x := by rfl) (hn : x ≠ "__name__" := by decide) (hdb : (x == ("__debug__" : Str)) = false := by decide)
    (he : starEach (e :: es) X.env = (false, eval e X.env) :: starEach es X.env := by rfl) (hpl : (backTo pos (starEach es X.env)).any (·.1) = false := by rfl) : We X (.Call (.Name x p) (e :: es) [] pos) σ H Q :=
  we_of (pe_callTy hc hg hm hv paW hn hdb he hpl) h
end
/-! ### operators of an own class -/
/-- what of the text x op y asks: C's own def for op; int has one too -/
structure OwnB (K : PySem.W.Frag) (C g : Addr) (op : Operator) : Prop where
  first : PySem.W.selfFirst K C = true
  at_ : PySem.W.findIn K (.ref C) (PySem.dunder op.info.2) = some (some (.ref g))
  fn : PySem.W.isFn K (.ref g) = true
  rev : PySem.W.findIn K (.ref C) (dunderR op.info.2) = some none
  sub : PySem.W.subIn K (.type "int") (.ref C) = some false
  i1 : ∃ fo, PySem.W.findIn K (.type "int") (PySem.dunder op.info.2) = some fo
  i2 : ∃ ro, PySem.W.findIn K (.type "int") (dunderR op.info.2) = some ro
/-- y beside an instance of C: another one, or an int -/
def Mate (C : Addr) (H : Hp) (y : V) : Prop := (∃ b dy gs, y = .ref b ∧ H b = some (.ins C dy gs)) ∨ ∃ i, y = .int i
def rOwnB (C : Addr) (sp : Sp) (E : XK) : R2 := fun x y H Q => ∃ a dx fs, x = .ref a ∧ H a = some (.ins C dx fs) ∧ Mate C H y ∧ sp [x, y] H Q E
section
variable {X : Cx} {CX : CXT} {k : Nat} {C g : Addr} {sp : Sp} {E : XK}
theorem op_ownB {op : Operator} (O : OwnB X.K C g op) (F : FnR X.prog X.w X.K X.mg X.base CX k g sp) (hr : Room k X.A) (hx : Passes CX X E) : OpR X (binaryOp op) (rOwnB C sp E) := by
  intro pins s σ H x y v u Q I rx ry h
  obtain ⟨a, dx, fs, rfl, ha, hy, q⟩ := h
  cases (show v = Value.ref a from rx)
  obtain ⟨mA, OA, _⟩ := ins_get I.hok ha
  obtain ⟨od, J, _⟩ := OA.look
  obtain ⟨m, hF⟩ := I.fr
  rcases hy with ⟨b, dy, gs, rfl, hb⟩ | ⟨i, rfl⟩
  · cases (show u = Value.ref b from ry)
    obtain ⟨mB, OB, _⟩ := ins_get I.hok hb
    obtain ⟨ob, JB, _⟩ := OB.look
    refine PySem.W.binop_K hF I.ok.mod.kin J JB.type O.first O.at_ O.fn ?_
    refine wpAny_mono (wpAny_call (run_fnR (us := [.ref a, .ref b]) (vs := [.ref a, .ref b]) F hr hx I (.cons rfl (.cons rfl .nil)) q)) (fun w s' z => ?_) fun _ _ x => x
    obtain ⟨z', H', I', rz, qz⟩ := z
    exact SlX.cmpback rz ⟨z', H', I', rz, qz⟩
  · obtain ⟨t, rfl⟩ := ry
    obtain ⟨fo, h1⟩ := O.i1
    obtain ⟨ro, h2⟩ := O.i2
    refine PySem.W.ksp_binT hF I.ok.mod.kin J (T := "int") rfl O.first O.at_ O.fn O.rev (Or.inl rfl) h1 h2 O.sub ?_
    refine wpAny_mono (wpAny_call (run_fnR (us := [.ref a, .int i t]) (vs := [.ref a, .int i]) F hr hx I (.cons rfl (.cons ⟨t, rfl⟩ .nil)) q)) (fun w s' z => ?_) fun _ _ x => x
    obtain ⟨z', H', I', rz, qz⟩ := z
    exact SlX.cmpback rz ⟨z', H', I', rz, qz⟩
/-- -x -/
def rOwnU (C : Addr) (sp : Sp) (E : XK) : V → Hp → VK → Prop := fun x H Q => ∃ a dx fs, x = .ref a ∧ H a = some (.ins C dx fs) ∧ sp [x] H Q E
theorem un_own (hs : PySem.W.findIn X.K (.ref C) "__neg__" = some (some (.ref g))) (hf : PySem.W.isFn X.K (.ref g) = true) (F : FnR X.prog X.w X.K X.mg X.base CX k g sp) (hr : Room k X.A) (hx : Passes CX X E) : UnR X (unaryOp .USub) (rOwnU C sp E) := by
  intro pins s σ H x v Q I rx h
  obtain ⟨a, dx, fs, rfl, ha, q⟩ := h
  cases (show v = Value.ref a from rx)
  obtain ⟨mA, OA, _⟩ := ins_get I.hok ha
  obtain ⟨od, J, _⟩ := OA.look
  obtain ⟨m, hF⟩ := I.fr
  exact PySem.W.ksp_neg hF I.ok.mod.kin J hs hf (wpAny_call (run_fnR (us := [.ref a]) (vs := [.ref a]) F hr hx I (.cons rfl .nil) q))
/-- x == y, x < y, x <= y, x of the class at C: y of a type that is not below it -/
def rOwnC (K : PySem.W.Frag) (C : Addr) (sp : Sp) (E : XK) : R2 := fun x y H Q => ∃ a dx fs t, x = .ref a ∧ H a = some (.ins C dx fs) ∧ TyX K H y t ∧ PySem.W.notFirst K C t = true ∧ sp [x, y] H Q E
theorem op_ownC {op : CmpOp} (hop : ∀ a b, compareOp op a b = richCompare op a b) (hs : PySem.W.findIn X.K (.ref C) (cmpInfo op).2.1 = some (some (.ref g))) (hf : PySem.W.isFn X.K (.ref g) = true)
    (F : FnR X.prog X.w X.K X.mg X.base CX k g sp) (hr : Room k X.A) (hx : Passes CX X E) : OpR X (compareOp op) (rOwnC X.K C sp E) := by
  intro pins s σ H x y v u Q I rx ry h
  obtain ⟨a, dx, fs, t, rfl, ha, ty, hn, q⟩ := h
  cases (show v = Value.ref a from rx)
  obtain ⟨mA, OA, _⟩ := ins_get I.hok ha
  obtain ⟨od, J, _⟩ := OA.look
  obtain ⟨m, hF⟩ := I.fr
  obtain ⟨P, Z, hp, _⟩ := kit_of I ry ty
  rw [hop]
  refine PySem.W.cmp_K (op := op) (tb := t) hr.units0 hF I.ok.mod.kin J (Z.ty (model X.prog X.w) _ I.kIn hp) hn hs hf ?_
  refine wpAny_mono (wpAny_call (run_fnR (us := [.ref a, u]) (vs := [.ref a, y]) F hr hx I (.cons rfl (.cons ry .nil)) q)) (fun w s' z => ?_) fun _ _ x => x
  obtain ⟨z', H', I', rz, qz⟩ := z
  exact SlX.cmpback rz ⟨z', H', I', rz, qz⟩
end
end PR
namespace PR
open PySem PySem.Spec PyProof.Rows L2
section
variable {prog : Program} {w : World} {A : Around} {E : Value → Shared → Prop} {s : Shared} {K : PySem.W.Frag} {x C L f : Addr} {h₀ : Heap} {m : Str → Option Value} {ox : Obj} {od : Option Obj} {b tb : Value}
/-- the body of object.__ne__: the own __eq__, turned round -/
theorem objne_K {Q : Fin → Shared → Prop} (hu : A.units < cLine) (X : K.In s.heap) (I : PySem.W.InstAt s.heap x ox C od) (hs : PySem.W.findIn K (.ref C) "__eq__" = some (some (.ref f))) (hf : PySem.W.isFn K (.ref f) = true)
    (h : wpAny (model prog w) A (call (.ref f) [.ref x, b]) (fun v s' => ∃ k, v = .bool k ∧ Q (.done (.ret (.bool (!k)))) s') E s) : wpAny (model prog w) A (Builtin.«object.__ne__» ⟨[.ref x, b], []⟩) Q E s := by
  unfold Builtin.«object.__ne__»
  refine wpAny_bind (wpAny_of_eq (a := (.ref x, [b])) (by first | rfl | kernel_rfl) ?_)
  refine wpAny_bind (wpAny_cRoomFor hu ?_)
  refine wpAny_bind (PySem.W.ifBound_K X I hs hf (wpAny_mono h (fun v s' hv => ?_) fun _ _ e => e))
  obtain ⟨k, rfl, hq⟩ := hv
  refine wpAny_bind (wpAny_truthy_bool ?_)
  exact wpAny_pure hq
theorem ifBound_B {M : Model} {name : Str} {id : String} {B : String} {args : List Value} {Q : Option Value → Shared → Prop} (X : K.In s.heap) (I : PySem.W.InstAt s.heap x ox C od) (hs : PySem.W.findIn K (.ref C) name = some (some (.builtin id))) (S : Slot B name id)
    (h : wpAny M A (call (.builtin id) (.ref x :: args)) (fun v => Q (some v)) E s) : wpAny M A (callSpecialIfBound? (.ref x) name args) Q E s := by
  simp only [callSpecialIfBound?, bindSpecialIfBound?]
  refine wpAny_holding (wpAny_bind (wpAny_bind (wpAny_bind (I.type.here ((PySem.W.looks_findIn X hs).here ?_)))))
  simp only [S.bind]
  refine wpAny_bind (wpAny_askSetting (wpAny_ite ?_))
  have fin : wpAny M A (call (.builtin id) ([.ref x] ++ args) >>= fun v => pure (some v)) Q E s := wpAny_bind (wpAny_mono h (fun v s' h' => wpAny_pure h') fun _ _ h' => h')
  split
  · exact wpAny_bind (wpAny_pure (wpAny_pure fin))
  · exact wpAny_tryCatch (wpAny_bind (wpAny_pure (wpAny_pure fin)))
theorem ne_K {Q : Value → Shared → Prop} (hu : A.units + 1 < cLine) (F : Fr h₀ L s.heap m) (X₀ : K.In h₀) (I : PySem.W.InstAt s.heap x ox C od) (hb : PySem.W.Looks (model prog w) s.heap (typeOf b) tb) (hn : PySem.W.notFirst K C tb = true)
    (hs : PySem.W.findIn K (.ref C) "__eq__" = some (some (.ref f))) (hf : PySem.W.isFn K (.ref f) = true) (hne : PySem.W.findIn K (.ref C) "__ne__" = some (some (.builtin "object.__ne__"))) (hm : PySem.W.mroIn K C (.type "object") = some true)
    (h : wpAny (model prog w) A.in1 (call (.ref f) [.ref x, b]) (fun v s' => ∃ k, v = .bool k ∧ Q (.bool (!k)) s') E s) : wpAny (model prog w) A (richCompare .NotEq (.ref x) b) Q E s := by
  have X := X₀.keeps F.keep
  have FB := PySem.F.cmp_object
  have sub : PySem.W.Looks (model prog w) s.heap (isInstance (.ref x) (.type "object")) true := I.type.andThen (PySem.W.looks_mroIn X hm)
  have one : wpAny (model prog w) A (tryCompare (.ref x) "__ne__" b) (fun r s' => ∃ v, r = some v ∧ Q v s') E s := by
    unfold tryCompare
    refine wpAny_bind (ifBound_B X I hne FB.ne (wpAny_call (codeAny_call_builtin FB.ne.plain PySem.F.cmpEntry_ne
      (PySem.W.check_slot PySem.F.cmpKind_ne PySem.F.cmpSplit_ne sub (PySem.F.cmpArgs_ne _ _) (objne_K (A := A.in1) hu X I hs hf (wpAny_mono h (fun v s' hv => ?_) fun _ _ e => e))))))
    obtain ⟨k, rfl, hq⟩ := hv
    exact ⟨k, rfl, wpAny_pure ⟨_, rfl, hq⟩⟩
  unfold richCompare
  simp only [oneThing_ref]
  refine wpAny_holding (wpAny_bind (wpAny_cRoomFor (Nat.lt_of_succ_lt hu) ?_))
  rw [PySem.cmpInfo_NotEq]
  dsimp only
  refine wpAny_bind (I.type.here (wpAny_bind (hb.here ?_)))
  split
  · rename_i q
    have e : PySem.W.subIn K tb (.ref C) = some false := by
      rcases Bool.or_eq_true_iff.mp hn with e | e
      · rw [beq_iff_eq.mp e] at q; simp at q
      · exact beq_iff_eq.mp e
    refine wpAny_bind ((PySem.W.looks_subIn X e).here ?_)
    simp only [Bool.false_eq_true, if_false]
    refine wpAny_bind (wpAny_mono one (fun r s' z => ?_) fun _ _ e => e)
    obtain ⟨v, rfl, hq⟩ := z
    exact wpAny_pure hq
  · refine wpAny_bind (wpAny_pure ?_)
    simp only [Bool.false_eq_true, if_false]
    refine wpAny_bind (wpAny_mono one (fun r s' z => ?_) fun _ _ e => e)
    obtain ⟨v, rfl, hq⟩ := z
    exact wpAny_pure hq
end
/-- x != y by an own __eq__ -/
def rOwnN (K : PySem.W.Frag) (C : Addr) (sp : Sp) (E : XK) : R2 := fun x y H Q => ∃ a dx fs t, x = .ref a ∧ H a = some (.ins C dx fs) ∧ TyX K H y t ∧ PySem.W.notFirst K C t = true ∧ sp [x, y] H (fun v H' => ∃ k, v = .bl k ∧ Q (.bl (!k)) H') E
section
variable {X : Cx} {CX : CXT} {k : Nat} {C g : Addr} {sp : Sp} {E : XK}
theorem op_ownN (hs : PySem.W.findIn X.K (.ref C) "__eq__" = some (some (.ref g))) (hf : PySem.W.isFn X.K (.ref g) = true) (hne : PySem.W.findIn X.K (.ref C) "__ne__" = some (some (.builtin "object.__ne__"))) (hmr : PySem.W.mroIn X.K C (.type "object") = some true)
    (F : FnR X.prog X.w X.K X.mg X.base CX k g sp) (hr : Room (k + 1) X.A) (hx : Passes CX X E) : OpR X (compareOp .NotEq) (rOwnN X.K C sp E) := by
  intro pins s σ H x y v u Q I rx ry h
  obtain ⟨a, dx, fs, t, rfl, ha, ty, hn, q⟩ := h
  cases (show v = Value.ref a from rx)
  obtain ⟨mA, OA, _⟩ := ins_get I.hok ha
  obtain ⟨od, J, _⟩ := OA.look
  obtain ⟨m, hF⟩ := I.fr
  obtain ⟨P, Z, hp, _⟩ := kit_of I ry ty
  show wpAny _ _ (richCompare .NotEq (.ref a) u) _ _ _
  refine ne_K (tb := t) (hu_of hr) hF I.ok.mod.kin J (Z.ty (model X.prog X.w) _ I.kIn hp) hn hs hf hne hmr ?_
  refine wpAny_mono (wpAny_call (SlX.run_at (us := [.ref a, u]) (ws := [.ref a, y]) F hr.in1 I.env0.in1 hx I (.cons rfl (.cons ry .nil)) q)) (fun w s' z => ?_) fun _ _ x => x
  obtain ⟨z', H', I', rz, kk, ek, qz⟩ := z
  subst ek
  cases rz
  exact ⟨kk, rfl, .bl (!kk), H', I', rfl, qz⟩
end
end PR
/-! The head's facts: any tests of the written part, and the defs. -/
namespace PH
open PySem PySem.Spec PyProof.Rows L2 He5
abbrev Ck : Type := PySem.W.Frag → Bool
def obsP (fa : List Ck) (fn : List DefA) (K : PySem.W.Frag) : He.AlD := ((fa.all fun f => f K) && fn.all fun d => d.ok K, fn.map fun d => fnA K (d.at_ K))
def SaysP (fa : List Ck) (fn : List DefA) (K : PySem.W.Frag) : Prop := obsP fa fn K = valA fn
def obsPG (n : Nat) (fa : List Ck) (fn : List DefA) (g : Addr → Option Obj) : He.AlD := obsP fa fn (He.frG g (asA g n))
def hookP (n : Nat) (fa : List Ck) (fn : List DefA) : PySem.W.Hook where
  α := He.AlD
  obs := fun s => obsPG n fa fn s.heap.get?
  val := fun _ => valA fn
  says := fun _ h => ∃ K : PySem.W.Frag, K.In h ∧ SaysP fa fn K
  of := fun _ _ e => ⟨_, He.frG_in, e⟩
  keeps := fun _ _ _ ⟨K, hK, c⟩ k => ⟨K, PySem.W.Frag.In.keeps hK k, c⟩
theorem obsPG_eq {n : Nat} {fa : List Ck} {fn : List DefA} {g : Addr → Option Obj} {s : Shared} (h : ∀ a, g a = s.heap.get? a) : obsPG n fa fn g = (hookP n fa fn).obs s := by
  have e : g = s.heap.get? := funext h
  rw [e] <;> rfl
section
variable {fa : List Ck} {fn : List DefA} {K : PySem.W.Frag}
theorem SaysP.fact (c : SaysP fa fn K) (i : Nat) {f : Ck} (h : fa[i]? = some f := by rfl) : f K = true := by
  have c1 := (He.ba (show ((fa.all fun f => f K) && fn.all fun d => d.ok K) = true from congrArg (fun z : He.AlD => z.1) c)).1
  exact List.all_eq_true.mp c1 f (List.mem_of_getElem? h)
theorem SaysP.def_ (c : SaysP fa fn K) (i : Nat) {d : DefA} (h : fn[i]? = some d := by rfl) : ∃ fd, L2.FunD K d.name d.qual d.params d.body d.scope (d.dvs K) (d.kws K) (d.at_ K) fd := by
  have c2 := (He.ba (show ((fa.all fun f => f K) && fn.all fun d => d.ok K) = true from congrArg (fun z : He.AlD => z.1) c)).2
  have e : fn.map (fun d => fnA K (d.at_ K)) = fn.map DefA.val := congrArg (fun z : He.AlD => z.2) c
  have e2 : (fn.map fun d => fnA K (d.at_ K))[i]? = (fn.map DefA.val)[i]? := by rw [e]
  rw [List.getElem?_map, List.getElem?_map, h] at e2
  exact DefA.funD (Option.some.inj e2) (List.all_eq_true.mp c2 d (List.mem_of_getElem? h))
end
end PH
/-! Kinds of facts about what the top has left, each a test and what it shows. -/
namespace PH
open PySem PySem.Spec PyProof.Rows L2 He
def eqT (a b : Option Value) : Bool := decide (a = b)
def eqBo (a b : Option Bool) : Bool := decide (a = b)
def ckGlo (x : Str) : Ck := fun K => (Fa.glo x).ok K
def ckFree (x : Str) : Ck := fun K => (Fa.free x).ok K
def ckCls (x : Str) : Ck := fun K => (Fa.cls x).ok K
def ckNoat (x f : Str) : Ck := fun K => (Fa.noat x f).ok K
def ckMeth (x m : Str) : Ck := fun K => (Fa.meth x m).ok K
def ckMkr (x : Str) : Ck := fun K => (Fa.mkr x).ok K
def ckExm (x y : Str) (b : Bool) : Ck := fun K => (Fa.exm x y b).ok K
def ckKeep (x : Str) : Ck := fun K => (Fa.keep x).ok K
/-- the class of an error of the program's own -/
def oexB (K : PySem.W.Frag) (C : Addr) : Bool := match K.lookup C with
  | some ⟨.type t, _, .cls cd, sl⟩ => decide (t = "type") && (match cd.mro, sl.toList with
    | .ref C' :: bm, [_, _, _, _, some (.builtin n), _] => (C' == C) && (decide (n = "ValueError.__new__") && (!cd.hasDel && (cd.hasDict && PySem.HandSPX.refsVE bm)))
    | _, _ => false)
  | _ => false
def ckOex (x : Str) : Ck := fun K => oexB K (ga K x) && (eqO (PySem.W.findIn K (.ref (ga K x)) "__setattr__") (some (some (.builtin "object.__setattr__"))) && (eqBo (PySem.W.subIn K (.ref (ga K x)) (.type "BaseException")) (some true) &&
  (eqT (PySem.W.typeIn K (.ref (ga K x))) (some (.type "type")) && PySem.W.keepIn K (.ref (ga K x)))))
theorem oex_ok {K : PySem.W.Frag} {x : Str} (c : ckOex x K = true) : OexC K (ga K x) := by
  obtain ⟨c1, c⟩ := ba c
  obtain ⟨c2, c⟩ := ba c
  obtain ⟨c3, c⟩ := ba c
  obtain ⟨c4, c5⟩ := ba c
  refine ⟨?_, eqO_ok c2, of_decide_eq_true c3, of_decide_eq_true c4, c5⟩
  generalize ga K x = C at c1 ⊢
  unfold oexB at c1
  split at c1
  · rename_i t dd cd sl ho
    obtain ⟨e0, c1⟩ := ba c1
    split at c1
    · rename_i C' bm k0 k1 k2 k3 n k5 hm hs
      obtain ⟨e1, c1⟩ := ba c1
      obtain ⟨e2, c1⟩ := ba c1
      obtain ⟨e3, c1⟩ := ba c1
      obtain ⟨e4, e5⟩ := ba c1
      have h0 := of_decide_eq_true e0
      have h1 := beq_iff_eq.mp e1
      have h2 := of_decide_eq_true e2
      subst h0 h1 h2
      obtain ⟨nm, bs, mro, ns, qn, hd, sn, sub, ab, col, del⟩ := cd
      dsimp only at hm e3 e4
      have h3 : del = false := by simpa using e3
      subst hm h3 e4
      have hsl : sl = #[k0, k1, k2, k3, some (.builtin "ValueError.__new__"), k5] := by
        obtain ⟨l⟩ := sl
        simp only at hs
        rw [hs]
      subst hsl
      exact ⟨nm, qn, ns, bs, bm, sn, sub, ab, col, dd, k0, k1, k2, k3, k5, ho, e5⟩
    · cases c1
  · cases c1
/-- the fields of such an error are read -/
def ckXf (x : Str) : Ck := fun K => eqO (PySem.W.findIn K (.ref (ga K x)) "__getattribute__") (some (some (.builtin "BaseException.__getattribute__"))) && (eqO (PySem.W.findIn K (.ref (ga K x)) "__getattr__") (some none) && (eqBo (PySem.W.subIn K (.ref (ga K x)) (.type "BaseException")) (some true) && PySem.W.hasDictIn K (ga K x)))
theorem xf_ok {K : PySem.W.Frag} {x : Str} (c : ckXf x K = true) : XfC K (ga K x) := by
  obtain ⟨c1, c⟩ := ba c
  obtain ⟨c2, c⟩ := ba c
  obtain ⟨c3, c4⟩ := ba c
  exact ⟨eqO_ok c1, eqO_ok c2, of_decide_eq_true c3, c4⟩
/-- C's own def m -/
def ckDef (x m : Str) : Ck := fun K => eqO (PySem.W.findIn K (.ref (ga K x)) m) (some (some (.ref (ma K (ga K x) m)))) && eqT (PySem.W.typeIn K (.ref (ma K (ga K x) m))) (some (.type "function"))
structure Df (K : PySem.W.Frag) (C : Addr) (m : Str) : Prop where
  at_ : PySem.W.findIn K (.ref C) m = some (some (.ref (ma K C m)))
  ty : PySem.W.typeIn K (.ref (ma K C m)) = some (.type "function")
theorem Df.fn {K : PySem.W.Frag} {C : Addr} {m : Str} (d : Df K C m) : PySem.W.isFn K (.ref (ma K C m)) = true := by
  unfold PySem.W.isFn
  rw [d.ty]
  rfl
theorem def_ok {K : PySem.W.Frag} {x m : Str} (c : ckDef x m K = true) : Df K (ga K x) m := by
  obtain ⟨c1, c2⟩ := ba c
  exact ⟨eqO_ok c1, of_decide_eq_true c2⟩
/-- an operator of C -/
def ckOwnB (x : Str) (op : Operator) (m : Str) : Ck := fun K => PySem.W.selfFirst K (ga K x) && (eqO (PySem.W.findIn K (.ref (ga K x)) (PySem.dunder op.info.2)) (some (some (.ref (ma K (ga K x) m)))) && (PySem.W.isFn K (.ref (ma K (ga K x) m)) &&
  (eqO (PySem.W.findIn K (.ref (ga K x)) (dunderR op.info.2)) (some none) && (eqBo (PySem.W.subIn K (.type "int") (.ref (ga K x))) (some false) && ((PySem.W.findIn K (.type "int") (PySem.dunder op.info.2)).isSome && (PySem.W.findIn K (.type "int") (dunderR op.info.2)).isSome)))))
theorem ownB_ok {K : PySem.W.Frag} {x m : Str} {op : Operator} (c : ckOwnB x op m K = true) : PR.OwnB K (ga K x) (ma K (ga K x) m) op := by
  obtain ⟨c1, c⟩ := ba c
  obtain ⟨c2, c⟩ := ba c
  obtain ⟨c3, c⟩ := ba c
  obtain ⟨c4, c⟩ := ba c
  obtain ⟨c5, c⟩ := ba c
  obtain ⟨c6, c7⟩ := ba c
  exact ⟨c1, eqO_ok c2, c3, eqO_ok c4, of_decide_eq_true c5, Option.isSome_iff_exists.mp c6, Option.isSome_iff_exists.mp c7⟩
/-- what isinstance asks of C's instances -/
structure Isi (K : PySem.W.Frag) (C : Addr) : Prop where
  ha : PySem.W.findIn K (.ref C) "__class__" = some (some (.builtin "object.__class__"))
  hn : PySem.W.specialIn K (.builtin "object.__class__") "__get__" = some (some (.builtin "getset_descriptor.__get__"))
  htk : PySem.W.takesIn K (.builtin "object.__class__") = some true
  hm : PySem.W.mroIn K C (.type "object") = some true
def ckIsi (x : Str) : Ck := fun K => eqO (PySem.W.findIn K (.ref (ga K x)) "__class__") (some (some (.builtin "object.__class__"))) && (eqO (PySem.W.specialIn K (.builtin "object.__class__") "__get__") (some (some (.builtin "getset_descriptor.__get__"))) &&
  (eqBo (PySem.W.takesIn K (.builtin "object.__class__")) (some true) && eqBo (PySem.W.mroIn K (ga K x) (.type "object")) (some true)))
theorem isi_ok {K : PySem.W.Frag} {x : Str} (c : ckIsi x K = true) : Isi K (ga K x) := by
  obtain ⟨c1, c⟩ := ba c
  obtain ⟨c2, c⟩ := ba c
  obtain ⟨c3, c4⟩ := ba c
  exact ⟨eqO_ok c1, eqO_ok c2, of_decide_eq_true c3, of_decide_eq_true c4⟩
theorem Isi.ty {K : PySem.W.Frag} {C : Addr} {H : Hp} {a dx : Addr} {fs : List (Str × V)} (i : Isi K C) (c : Cls K C) (e : H a = some (.ins C dx fs)) : TyX K H (.ref a) (.ref C) := .base (.ins e c i.ha i.hn i.htk i.hm)
/-- isinstance's answer: of an instance of the class x, of a built-in type, about the class y or a built-in one -/
def ckKitO (x y : Str) (b : Bool) : Ck := fun K => eqBo (PySem.W.kitOne K (.ref (ga K x)) (.ref (ga K y))) (some b)
theorem kitO_ok {K : PySem.W.Frag} {x y : Str} {b : Bool} (c : ckKitO x y b K = true) : PySem.W.kitOne K (.ref (ga K x)) (.ref (ga K y)) = some b := of_decide_eq_true c
def ckKitT (x : Str) (t : String) (b : Bool) : Ck := fun K => eqBo (PySem.W.kitOne K (.ref (ga K x)) (.type t)) (some b)
theorem kitT_ok {K : PySem.W.Frag} {x : Str} {t : String} {b : Bool} (c : ckKitT x t b K = true) : PySem.W.kitOne K (.ref (ga K x)) (.type t) = some b := of_decide_eq_true c
def ckKitB (t : String) (y : Str) (b : Bool) : Ck := fun K => eqBo (PySem.W.kitOne K (.type t) (.ref (ga K y))) (some b)
theorem kitB_ok {K : PySem.W.Frag} {y : Str} {t : String} {b : Bool} (c : ckKitB t y b K = true) : PySem.W.kitOne K (.type t) (.ref (ga K y)) = some b := of_decide_eq_true c
/-- beside C stands a t: C's own def goes first -/
def ckNf (x : Str) (t : String) : Ck := fun K => PySem.W.notFirst K (ga K x) (.type t)
theorem nf_ok {K : PySem.W.Frag} {x : Str} {t : String} (c : ckNf x t K = true) : PySem.W.notFirst K (ga K x) (.type t) = true := c
theorem nf_self (K : PySem.W.Frag) (C : Addr) : PySem.W.notFirst K C (.ref C) = true := by
  unfold PySem.W.notFirst
  simp
/-- != by the own __eq__ -/
def ckNe (x : Str) : Ck := fun K => eqO (PySem.W.findIn K (.ref (ga K x)) "__ne__") (some (some (.builtin "object.__ne__")))
theorem ne_ok {K : PySem.W.Frag} {x : Str} (c : ckNe x K = true) : PySem.W.findIn K (.ref (ga K x)) "__ne__" = some (some (.builtin "object.__ne__")) := eqO_ok c
/-- S.__init__ of a class over ValueError, S a class of the program -/
def ckSin (x : Str) : Ck := fun K => PySem.W.readsIn K (ga K x) (.type "type") && (eqO (PySem.W.specialIn K (.ref (ga K x)) "__getattribute__") (some (some (.builtin "type.__getattribute__"))) && (match PySem.W.findCls K (.ref (ga K x)) (.type "type") "__init__" with
  | some (.val (.builtin n)) => decide (n = "ValueError.__init__")
  | _ => false))
theorem sin_ok {K : PySem.W.Frag} {x : Str} (c : ckSin x K = true) : ClX.CRead K (ga K x) (.type "type") ∧ PySem.W.findCls K (.ref (ga K x)) (.type "type") "__init__" = some (.val (.builtin "ValueError.__init__")) := by
  obtain ⟨c1, c⟩ := ba c
  obtain ⟨c2, c3⟩ := ba c
  refine ⟨⟨c1, eqO_ok c2⟩, ?_⟩
  split at c3
  · rename_i n e
    rw [e, of_decide_eq_true c3]
  · cases c3
/-- a class whose attributes are read as type reads them; a classmethod of it -/
def ckCm (x m : Str) : Ck := fun K => PySem.W.readsIn K (ga K x) (.type "type") && (eqO (PySem.W.specialIn K (.ref (ga K x)) "__getattribute__") (some (some (.builtin "type.__getattribute__"))) && (He5.wrapB K (ga K x) "classmethod" "classmethod.__get__" m && PySem.W.fnIn K (He5.wf K (ga K x) "classmethod" m)))
theorem cm_ok {K : PySem.W.Frag} {x m : Str} (c : ckCm x m K = true) : ClX.CRead K (ga K x) (.type "type") ∧ ClX.CMet K (ga K x) (.type "type") m (ma K (ga K x) m) (He5.wf K (ga K x) "classmethod" m) := by
  obtain ⟨c1, c⟩ := ba c
  obtain ⟨c2, c⟩ := ba c
  obtain ⟨c3, c4⟩ := ba c
  exact ⟨⟨c1, eqO_ok c2⟩, He5.cmet_of c3 c4⟩
end PH
namespace PR
open PySem PySem.Spec PyProof.Rows L2
/-! ### targets and iterables, the best readings -/
section
variable {X : Cx} {e a b c : Expr} {es rest : List Expr} {σ : L2.St} {H : Hp} {Q : VK} {Qb : Bool → Hp → Prop} {Qa : List V → Hp → Prop} {D : Ends} {pos pos' p : Pos} {st : Stmt} {sts : List Stmt}
theorem s_asg {tg : Expr} {g : TG} (hg : PG X tg g) (h : We X e σ H fun x H1 => g x σ H1 D.nx) (hs : swapsWithSole [tg] e pos.line X.env = pure false := by rfl) (hw : swappedStores [tg] e X.env = pure none := by rfl) (h1 : (assignEach [tg] X.env).map (·.2) = [assign tg X.env] := by rfl) : Ws X (.Assign [tg] e pos) D σ H :=
  ws_of (ps_asg peW hg hs hw h1) h
theorem s_par (i j : Nat) {x y : Str} {px py pt : Pos} {kt k2 pt2} (hN : X.N.Nodup) (h : Wa X [a, b] σ H fun vs H1 => ∃ v w, vs = [v, w] ∧ D.nx ((σ.set i (some v)).set j (some w)) H1) (hc : X.calm = true := by rfl) (hi : X.N[i]? = some x := by rfl) (hj : X.N[j]? = some y := by rfl)
    (hij : i ≠ j := by decide) (hx : X.env.scope.names.lookup x = some .local := by rfl) (hy : X.env.scope.names.lookup y = some .local := by rfl)
    (hw : swappedStores [.Tuple [.Name x px, .Name y py] kt pt] (.Tuple [a, b] k2 pt2) X.env = pure (some [x, y]) := by rfl)
    (hs : swapsWithSole [.Tuple [.Name x px, .Name y py] kt pt] (.Tuple [a, b] k2 pt2) pos.line X.env = pure false := by rfl) :
    Ws X (.Assign [.Tuple [.Name x px, .Name y py] kt pt] (.Tuple [a, b] k2 pt2) pos) D σ H := ws_of (ps_par hc hN hi hj hij hx hy paW hw hs) h
/-- self.f = e -/
theorem s_fld {o value : Expr} {f : Str} (h : We X value σ H fun y H1 => We X o σ H1 fun x H2 => ∃ a C dx fs, x = .ref a ∧ H2 a = some (.ins C dx fs) ∧ Cls X.K C ∧ NoAttr X.K C f ∧ fs.length < 1000 ∧ D.nx σ (upd H2 a (.ins C dx (putF f y fs))))
    (hs : swapsWith value (some (.Attribute o f pos')) pos.line X.env = pure false := by rfl) : Ws X (.Assign [.Attribute o f pos'] value pos) D σ H := ws_of (ps_fld peW peW hs) h
theorem s_while {body : List Stmt} (hp : PassesOwn (model X.prog X.w) X.A X.env X.xe) (Pv : L2.St → Hp → Prop) (mu : L2.St → Hp → Nat) (h0 : Pv σ H)
    (hs : ∀ σ H, Pv σ H → Wt X c σ H fun k H1 => if k = true then Wb X body { D with nx := fun σ' H' => Pv σ' H' ∧ mu σ' H' < mu σ H, ct := fun σ' H' => Pv σ' H' ∧ mu σ' H' < mu σ H, bk := D.nx } σ H1 else D.nx σ H1) :
    Ws X (.While c body [] pos) D σ H := ws_of (ps_while hp ptW pbW) (while_by Pv mu h0 hs fun σ H Q Q' k h => Wt.mono h k)
theorem s_raise {W : WX} {t : L2.St → Hp → XK → Prop} (hc : X.calm = true) (tk : Takes X W) (he : PMk X e t) (h : t σ H fun cls d H' => W cls d σ H') : Ws X (.Raise (some e) none pos) D σ H := ws_of (ps_raise hc tk he) h
theorem s_for {tg iter : Expr} {body : List Stmt} {wi : TI} {g : TG} (hp : PassesOwn (model X.prog X.w) X.A X.env X.xe) (hi : PI X tg iter wi) (hg : PG X tg g) (h : tFor wi g (Wb X body) D σ H) (hc : X.calm = true := by rfl) (hs : ∀ x, foldedSetIterable iter X.env x = pure x := by intro _; rfl) :
    Ws X (.For tg iter body [] pos) D σ H := ws_of (ps_for hp hc hi hg pbW hs) h
end
end PR
namespace PR
open PySem PySem.Spec PyProof.Rows L2
section
variable {X : Cx} {e a b c : Expr} {es rest : List Expr} {σ : L2.St} {H : Hp} {Q : VK} {Qb : Bool → Hp → Prop} {Qa : List V → Hp → Prop} {D : Ends} {pos pos' p px : Pos} {st : Stmt} {sts body : List Stmt}
/-- for x in e, e a list that stands still -/
theorem s_forl (i : Nat) {x : Str} (hp : PassesOwn (model X.prog X.w) X.A X.env X.xe) (hN : X.N.Nodup)
    (h : We X e σ H fun v H1 => ∃ (l : Addr) (xs : List V) (Pv : Nat → L2.St → Hp → Prop), v = .ref l ∧ SqL X.K H1 l xs ∧ Pv 0 σ H1 ∧ (∀ j σ' H', j ≤ xs.length → Pv j σ' H' → SqL X.K H' l xs) ∧
      (∀ j y σ' H', xs[j]? = some y → Pv j σ' H' → Wb X body { D with nx := Pv (j + 1), ct := Pv (j + 1), bk := D.nx } (σ'.set i (some y)) H') ∧ ∀ σ' H', Pv xs.length σ' H' → D.nx σ' H')
    (hi : X.N[i]? = some x := by rfl) (hx : Loc X.env.scope x := by first | exact Or.inl rfl | exact Or.inr rfl) (hf : X.fn x = true ∨ X.env.scope.names.lookup x = some .local := by first | exact .inl rfl | exact .inr rfl) (hc : X.calm = true := by rfl)
    (hs : ∀ z, foldedSetIterable e X.env z = pure z := by intro _; rfl) : Ws X (.For (.Name x px) e body [] pos) D σ H := by
  refine s_for hp (pi_list peW) (pg_name (i := i) hN hi hx hf) ?_ hc hs
  refine We.mono h fun v H1 z => ?_
  obtain ⟨l, xs, Pv, rfl, hl, h0, hk, ht, hd⟩ := z
  exact ⟨l, rfl, ⟨xs, hl⟩, for_list (K := X.K) (a := l) (xs := xs) Pv h0 hk (fun j y σ' H' hj hP => ht j y σ' H' hj hP) hd⟩
/-- for x in range(e) -/
theorem s_forr (i : Nat) {x : Str} {pr pc : Pos} (hp : PassesOwn (model X.prog X.w) X.A X.env X.xe) (hN : X.N.Nodup) (hm : X.mg "range" = none)
    (h : We X e σ H fun v H1 => ∃ (n : Nat) (Pv : Nat → L2.St → Hp → Prop), v = .int n ∧ n < 1000000 ∧ Pv 0 σ H1 ∧
      (∀ j σ' H', j < n → Pv j σ' H' → Wb X body { D with nx := Pv (j + 1), ct := Pv (j + 1), bk := D.nx } (σ'.set i (some (.int (j : Int)))) H') ∧ ∀ σ' H', Pv n σ' H' → D.nx σ' H')
    (hg : Gl X "range" := by rfl) (he : starEach [e] X.env = (false, eval e X.env) :: starEach [] X.env := by rfl)
    (hi : X.N[i]? = some x := by rfl) (hx : Loc X.env.scope x := by first | exact Or.inl rfl | exact Or.inr rfl) (hf : X.fn x = true ∨ X.env.scope.names.lookup x = some .local := by first | exact .inl rfl | exact .inr rfl) (hc : X.calm = true := by rfl)
    (hs : ∀ z, foldedSetIterable (.Call (.Name "range" pr) [e] [] pc) X.env z = pure z := by intro _; rfl) : Ws X (.For (.Name x px) (.Call (.Name "range" pr) [e] [] pc) body [] pos) D σ H := by
  refine s_for hp (pi_range1 hg hm paW he) (pg_name (i := i) hN hi hx hf) ?_ hc hs
  refine a_cons (We.mono h fun v H1 z => ?_) he
  obtain ⟨n, Pv, rfl, hn, h0, ht, hd⟩ := z
  refine a_nil ⟨(n : Int), rfl, by omega, by omega, for_range (lo := 0) (n := n) Pv h0 (fun j σ' H' hj hP => ?_) hd⟩
  have z := ht j σ' H' hj hP
  have e0 : (0 : Int) + (j : Int) = (j : Int) := Int.zero_add _
  show Wb X body { D with nx := Pv (j + 1), ct := Pv (j + 1), bk := D.nx } (σ'.set i (some (.int ((0 : Int) + (j : Int))))) H'
  rw [e0]
  exact z
end
end PR
namespace PR
open PySem PySem.Spec PyProof.Rows L2
/-! ### defs that need to know that nothing is being shown -/
/-- as FnR, under no guard -/
def FnG (P : Program) (w : World) (K : PySem.W.Frag) (mg : Str → Option Value) (base : Heap) (CX : CXT) (k : Nat) (f : Addr) (sp : Sp) : Prop :=
  ∀ (A : Around) (outer : List Env) (s : Shared) (H : Hp) (us : List Value) (vs : List V) (Q : VK) (E : XK), A.guards = some [] → Room k A → Env0 P w K mg base A outer s H → Vals vs us → sp vs H Q E →
    codeAny (model P w) A (.call (.ref f) ⟨us, []⟩) (CR CX outer P w H s Q E) s
theorem FnG.of {P : Program} {w : World} {K : PySem.W.Frag} {mg : Str → Option Value} {base : Heap} {CX : CXT} {k : Nat} {f : Addr} {sp : Sp} (F : FnR P w K mg base CX k f sp) : FnG P w K mg base CX k f sp :=
  fun A outer s H us vs Q E _ hr e0 r hs => F A outer s H us vs Q E hr e0 r hs
section
variable {P : Program} {w : World} {K : PySem.W.Frag} {mg : Str → Option Value} {base : Heap}
theorem fng {x q : Str} {st : Stmt} {f : Addr} {N ps : List Str} {k : Nat} {sp : Sp} (D : ∃ fd, FunD K x q (defArgs st) (defBody st) (defScope st) [] [] f fd) (S : FnScope N ps (defScope st)) (len : ∀ vs H Q E, sp vs H Q E → vs.length = ps.length)
    (hb : ∀ (kV doc pm : Value) (an : Option Addr) (cdv ct : Value) (us : List Value), us.length = ps.length → bindArgs (PySem.W.fnOf x q (defArgs st) (defBody st) (defScope st) .none kV doc pm an cdv ct) ⟨us, []⟩ = pure (ps.zip us))
    (body : ∀ (cdv : Value) (A : Around) (outer : List Env) (s : Shared) (H : Hp) (vs : List V) (Q : VK) (E : XK), A.guards = some [] → Room k (A.deeper (envOfC q (defScope st) s.heap.objs.size f cdv)) → sp vs H Q E →
      Wb (cxOf (L2.CX P w) P w K mg base N q (defScope st) f cdv A outer s H E) (defBody st) { nx := fun _ H' => Q .non H', rt := Q } (start N vs) H) : FnG P w K mg base (L2.CX P w) (k + 1) f sp := by
  obtain ⟨fd, F⟩ := D
  intro A outer s H us vs Q E hgd hr e0 r hsp
  have hl : vs.length = ps.length := len _ _ _ _ hsp
  have KI : K.In s.heap := e0.mod.kin.keeps fun b o z => (e0.bs b o z).1
  have BT := F.bindsA hb s us (by rw [← r.length]; exact hl)
  obtain ⟨oc, od, dV, kV, doc, pm, an, cdv, ct, osl, rfl, lk, hcd, _, _⟩ := F.ex
  have noLim : s.heap.NoLimit := e0.mod.nolimit.keeps fun b o z => (e0.bs b o z).1
  have kinds : ∀ y ∈ ps.zip us, (defScope st).names.lookup y.1 = some .local ∨ ((defScope st).names.lookup y.1 = some .cell ∧ ((cellsFrom (s.heap.objs.size + 1) (defScope st).names []).lookup y.1).isSome = true) := by
    rintro ⟨n, v⟩ hy
    exact (S.par n (List.of_mem_zip hy).1).imp id fun c => ⟨c, PySem.W.cellsFrom_some _ _ _ (.inl c)⟩
  refine codeAny_call_function hr.depth (KI _ _ lk) rfl S.co S.gen rfl (PySem.W.codeRec_of KI hcd) (BT _ _ _ _ ?_)
  refine wpAny_newFunctionEnv_cells S.kind kinds fun env ee s1 ic => ?_
  subst ee
  refine ⟨noLim.keeps ic.toInCall.keep, codeAny_func ?_⟩
  have J : Inv (cxOf (L2.CX P w) P w K mg base N q (defScope st) f cdv A outer s H E) [] (start N vs) H s1 := inv_start S hr.hd e0 hl r ic
  refine wpAny_mono ((body cdv A outer s H vs Q E hgd (hr.deeper _) hsp).run [] s1 J) (fun fl s2 z => ?_) fun _ _ z => z
  match fl, z with
  | .ret u, ⟨v, σ', H', J', rv, qv⟩ => exact ⟨v, H', J'.os, J'.bare, J'.base, J'.hok, rv, qv⟩
  | .next, ⟨σ', H', J', qv⟩ => exact ⟨V.non, H', J'.os, J'.bare, J'.base, J'.hok, rfl, qv⟩
  | .brk, ⟨_, _, _, z⟩ => exact False.elim z
  | .cont, ⟨_, _, _, z⟩ => exact False.elim z
end
section
variable {X : Cx} {pins : List (Addr × Obj)} {σ : L2.St} {H : Hp} {s : Shared}
theorem run_fnG {CX : CXT} {k : Nat} {f : Addr} {sp : Sp} {E : XK} {Q : VK} {us : List Value} {vs : List V} (F : FnG X.prog X.w X.K X.mg X.base CX k f sp) (hgd : X.A.guards = some []) (hr : Room k X.A) (hx : Passes CX X E) (I : Inv X pins σ H s) (r : Vals vs us) (h : sp vs H Q E) :
    codeAny (model X.prog X.w) X.A (.call (.ref f) ⟨us, []⟩) (fun r s' => match r with | .ok (.ret v) => EP X pins σ Q v s' | .ok _ => False | .error e => X.xe e s') s := by
  refine codeAny_mono (F X.A X.stack s H us vs Q E hgd hr I.env0 r h) fun r s' z => ?_
  match r, z with
  | .error e, z => exact hx pins σ H s e s' I z
  | .ok (.ret u), z => exact I.after z
  | .ok .next, z => exact z
  | .ok .brk, z => exact z
  | .ok .cont, z => exact z
end
section
variable {X : Cx} {e o a b : Expr} {es : List Expr} {σ : L2.St} {H : Hp} {Q : VK} {p pos apos : Pos} {CX : CXT} {k : Nat} {f C g : Addr} {sp : Sp} {E : XK} {x m : Str}
theorem w_callG (F : FnG X.prog X.w X.K X.mg X.base CX k f sp) (hgd : X.A.guards = some []) (hr : Room k X.A) (hm : X.mg x = some (.ref f)) (hk : PySem.W.keepIn X.K (.ref f) = true) (hx : Passes CX X E)
    (h : Wa X (e :: es) σ H fun vs H1 => sp vs H1 Q E) (hg : Gl X x := by rfl) (hdb : (x == ("__debug__" : Str)) = false := by decide) (he : starEach (e :: es) X.env = (false, eval e X.env) :: starEach es X.env := by rfl) (hpl : (backTo pos (starEach es X.env)).any (·.1) = false := by rfl) :
    We X (.Call (.Name x p) (e :: es) [] pos) σ H Q := by
  refine ⟨fun pins s I => ?_⟩
  refine wpAny_Call_Name_kw (ld_glob I hg hm ?_ hdb)
  refine PySem.W.callWith_K (h₀ := X.base) I.ok.mod.kin hk (thn (h.run pos pins s I) fun us s1 ⟨vs, H1, I1, r, q⟩ => ⟨I1.kIn, ?_⟩) he hpl
  exact wpAny_call (run_fnG F hgd hr hx I1 r q)
theorem w_callG0 (F : FnG X.prog X.w X.K X.mg X.base CX k f sp) (hgd : X.A.guards = some []) (hr : Room k X.A) (hm : X.mg x = some (.ref f)) (hk : PySem.W.keepIn X.K (.ref f) = true) (hx : Passes CX X E)
    (h : sp [] H Q E) (hg : Gl X x := by rfl) (hdb : (x == ("__debug__" : Str)) = false := by decide) : We X (.Call (.Name x p) [] [] pos) σ H Q := by
  refine ⟨fun pins s I => ?_⟩
  refine wpAny_Call_Name_kw (ld_glob I hg hm ?_ hdb)
  exact PySem.W.callWith_K0 I.kIn hk (wpAny_call (run_fnG (us := []) F hgd hr hx I .nil h))
end
/-! ### repr -/
/-- what repr shows -/
inductive Sw (K : PySem.W.Frag) (H : Hp) : V → PyData → Prop
  | dp {v : V} {d : PyData} : Dp K H v d → d.hasDict = false → Sw K H v d
  | dE {a : Addr} : H a = some (.dK []) → Sw K H (.ref a) (.dict [])
  | d1 {a : Addr} {x : Str} {i : Int} : H a = some (.dK [(.inr x, .int i)]) → Sw K H (.ref a) (.dict [(.str x, .int i)])
theorem Sw.reads {X : Cx} {pins : List (Addr × Obj)} {σ : L2.St} {H : Hp} {s : Shared} {v : V} {d : PyData} {u : Value} (I : Inv X pins σ H s) (h : Sw X.K H v d) (r : RelV v u) : ∃ as, Reads s.heap u d as ∧ (d.hasDict = true → sysModules ∉ as) := by
  cases h with
  | dp hd hn =>
    obtain ⟨as, z⟩ := Dp.reads I d v u hd r
    exact ⟨as, z, PyData.noDict_hsm hn⟩
  | @dE a ha =>
    cases (show u = Value.ref a from r)
    obtain ⟨_, hsy, vs, kv, o, es, ep, h1, h2, h3, _, h4, _⟩ := (show ObjOk X.prog X.w H s.heap a (.dK []) from I.hok a _ ha)
    cases kv
    have he : es.toList = [] := by
      generalize es.toList = l at h4
      cases h4
      rfl
    refine ⟨a :: [] ++ [], Reads.dict (kvs := []) h1 h2.1 h3 (by rw [he]; exact .nil) (by rw [he]; exact .nil), fun _ hm => ?_⟩
    have hm' : sysModules = a := by simpa using hm
    rw [← hm'] at hsy
    simp at hsy
  | @d1 a x i ha =>
    cases (show u = Value.ref a from r)
    obtain ⟨_, hsy, vs, kv, o, es, ep, h1, h2, h3, _, h4, _⟩ := (show ObjOk X.prog X.w H s.heap a (.dK [(.inr x, .int i)]) from I.hok a _ ha)
    cases kv with
    | @cons _ q _ qs e1 e2 =>
      cases e2
      obtain ⟨k, y⟩ := q
      obtain ⟨e3, t, e4⟩ := e1
      have e3' : (Sum.inr x : Key) = k := e3
      subst e3'
      have e4' : y = Value.int i t := e4
      subst e4'
      have he : ∃ en : DictEntry, es.toList = [en] ∧ (∃ t', en.key = Value.str x t') ∧ en.val = Value.int i t := by
        generalize es.toList = l at h4
        cases h4 with
        | @cons en _ _ _ g1 g2 g3 =>
          cases g3
          refine ⟨en, rfl, ?_, g2⟩
          rcases keyIs_shape (show keyIs (.inr x) en.key = true from g1) with ⟨_, _, z, _⟩ | ⟨x', t', z, z2⟩
          · cases z
          · cases z
            exact ⟨t', z2⟩
      obtain ⟨en, he, ⟨t', hk⟩, hv⟩ := he
      refine ⟨a :: ([] ++ []) ++ ([] ++ []), Reads.dict (kvs := [(.str x, .int i)]) h1 h2.1 h3 ?_ ?_, fun _ hm => ?_⟩
      · rw [he]
        exact .cons (by show Reads _ en.key _ _; rw [hk]; exact .str x t') .nil
      · rw [he]
        exact .cons (by show Reads _ en.val _ _; rw [hv]; exact .int i t) .nil
      · have hm' : sysModules = a := by simpa using hm
        rw [← hm'] at hsy
        simp at hsy
/-- repr(v) -/
theorem call_repr {X : Cx} (hgd : X.A.guards = some []) (hu : X.A.units + 80 < cLine) : CallR X (.builtin "repr") (fun xs H Q => ∃ v d, xs = [v] ∧ Sw X.K H v d ∧ d.showable = true ∧ d.shown.length ≤ sizeLine ∧ d.depth ≤ 64 ∧ Q (.str d.shown) H) := by
  intro pins s σ H xs us Q I r h
  obtain ⟨v, d, rfl, hd, hs, hz, hdp, q⟩ := h
  obtain ⟨u, rfl, ru⟩ := vals1 r
  obtain ⟨as, rd, hsm⟩ := hd.reads I ru
  have fin : ∀ h' t tk, (∀ b o, s.heap.get? b = some o → h'.get? b = some o) → EP X pins σ Q (.str d.shown t) { s with heap := h', toks := tk } := fun h' t tk k => ⟨.str d.shown, H, I.kept k, ⟨t, rfl⟩, q⟩
  cases rd with
  | none => exact PySem.P.repr_of_none (fin s.heap _ _ fun _ _ e => e)
  | bool b => exact PySem.P.repr_of_bool (fin s.heap _ _ fun _ _ e => e)
  | int i t => exact PySem.P.repr_of_int (of_decide_eq_true hs) (fin s.heap _ _ fun _ _ e => e)
  | str x t => exact PySem.P.repr_of_str (fin s.heap _ _ fun _ _ e => e) hz
  | list h1 h2 h3 h4 => exact repr_of_reads' (.list h1 h2 h3 h4) hs hsm hgd (by omega) (fun _ _ e => e) fin hz
  | tuple h1 h2 h3 h4 => exact repr_of_reads' (.tuple h1 h2 h3 h4) hs hsm hgd (by omega) (fun _ _ e => e) fin hz
  | dict h1 h2 h3 h4 h5 => exact repr_of_reads' (.dict h1 h2 h3 h4 h5) hs hsm hgd (by omega) (fun _ _ e => e) fin hz
end PR
namespace PR
open PySem PySem.Spec PyProof.Rows L2
/-! ### try -/
/-- what a suite must do, whatever exception object it holds -/
def Su (X : Cx) (suite : List Stmt) (a : Addr) (cls : Value) (d : Option Addr) : TS := fun D σ H => ∀ (oe : Obj) (pn : List (Addr × Obj)), Zc cls d oe → (∃ vs, oe.data = .fields vs) → Wb (X.suite a ((a, oe) :: pn)) suite D σ H
theorem su_ok {X : Cx} {suite : List Stmt} (a : Addr) (oe : Obj) (cls : Value) (d : Option Addr) (pn : List (Addr × Obj)) (hz : Zc cls d oe) (hf : ∃ vs, oe.data = .fields vs) : PSs (X.suite a ((a, oe) :: pn)) suite (Su X suite a cls d) :=
  ⟨fun pins s σ H D I h => (h oe pn hz hf).run pins s I⟩
/-- what a try's body must do -/
def Tb (X : Cx) (body : List Stmt) (W : WX) : TS := fun D σ H => ∀ (pn : List (Addr × Obj)) (xe : Value → Shared → Prop), Takes (X.tr pn xe) W → PassesOwn (model X.prog X.w) X.A X.env xe → Wb (X.tr pn xe) body D σ H
theorem tb_ok {X : Cx} {body : List Stmt} (W : WX) (pn : List (Addr × Obj)) (xe : Value → Shared → Prop) (tk : Takes (X.tr pn xe) W) (ps : PassesOwn (model X.prog X.w) X.A X.env xe) : PSs (X.tr pn xe) body (Tb X body W) :=
  ⟨fun pins s σ H D I h => (h pn xe tk ps).run pins s I⟩
section
variable {X : Cx} {x n : Str} {c : Value} {i : Nat} {body suite orelse : List Stmt} {b₀ : Stmt} {np pos pos' : Pos} {Wout : WX} {σ : L2.St} {H : Hp} {D : Ends}
theorem s_try1 (hc : Names X x c) (tk : Takes X Wout) (h : Tb X body (wOnly X.K c (Su X (b₀ :: suite)) Wout D) D σ H) (hs : X.stack = X.env :: X.outer := by rfl) (hf : X.env.frame = some X.env.locals := by rfl) :
    Ws X (.Try body [.ExceptHandler (some (.Name x np)) none (b₀ :: suite) pos'] [] [] pos) D σ H :=
  ws_of (ps_try_only (tb := Tb X body) hs hf hc tk (fun W pn xe t p => tb_ok W pn xe t p) su_ok) h
theorem s_tryAs (i : Nat) (hN : X.N.Nodup) (hc : Names X x c) (tk : Takes X Wout) (h : Tb X body (wAs X.K c i (Su X (b₀ :: suite)) Wout D) D σ H) (hi : X.N[i]? = some n := by rfl) (hln : X.env.kindOf n = some .local := by rfl)
    (hs : X.stack = X.env :: X.outer := by rfl) (hf : X.env.frame = some X.env.locals := by rfl) :
    Ws X (.Try body [.ExceptHandler (some (.Name x np)) (some n) (b₀ :: suite) pos'] [] [] pos) D σ H :=
  ws_of (L2.ps_try_as (tb := Tb X body) hs hf hN hi hln hc tk (fun W pn xe t p => tb_ok W pn xe t p) su_ok) h
/-- the body lets nothing out -/
theorem s_try1E (hc : Names X x c) (tk : Takes X Wout) (h : Tb X body (wOnly X.K c (Su X (b₀ :: suite)) Wout D) { D with nx := fun σ' H' => Wb X orelse D σ' H' } σ H) (hs : X.stack = X.env :: X.outer := by rfl) (hf : X.env.frame = some X.env.locals := by rfl) :
    Ws X (.Try body [.ExceptHandler (some (.Name x np)) none (b₀ :: suite) pos'] orelse [] pos) D σ H :=
  ws_of (ps_try_onlyE (tb := Tb X body) pbW hs hf hc tk (fun W pn xe t p => tb_ok W pn xe t p) su_ok) h
end
section
variable {X : Cx} {body : List Stmt} {h₀ : ExceptHandler} {hds : List ExceptHandler} {l : List (Value × (Addr → Value → Option Addr → TS))} {pos : Pos} {Wout : WX} {σ : L2.St} {H : Hp} {D : Ends}
theorem s_tryN (tk : Takes X Wout) (hh : HdsOk X (h₀ :: hds) l) (h : Tb X body (wMany X.K Wout D l) D σ H) (hs : X.stack = X.env :: X.outer := by rfl) (hf : X.env.frame = some X.env.locals := by rfl) : Ws X (.Try body (h₀ :: hds) [] [] pos) D σ H :=
  ws_of (L2.ps_try_many (tb := Tb X body) hs hf tk (fun W pn xe t p => tb_ok W pn xe t p) hh) h
theorem hds_cons {x : Str} {c : Value} {b₀ : Stmt} {suite : List Stmt} {np pos' : Pos} {hds : List ExceptHandler} {l : List (Value × (Addr → Value → Option Addr → TS))} (hc : Names X x c) (r : HdsOk X hds l) :
    HdsOk X (.ExceptHandler (some (.Name x np)) none (b₀ :: suite) pos' :: hds) ((c, Su X (b₀ :: suite)) :: l) := .cons hc su_ok r
end
/-- what a def lets out, its own E -/
theorem takesX {P : Program} {w : World} {K : PySem.W.Frag} {mg : Str → Option Value} {base : Heap} {N : List Str} {qual : Str} {sc : Scope} {f : Addr} {cdv : Value} {A : Around} {outer : List Env} {s : Shared} {H : Hp} {E : XK} :
    Takes (cxOf (L2.CX P w) P w K mg base N qual sc f cdv A outer s H E) (fun cls d _ H => E cls d H) := takes_of (E := E) rfl rfl rfl rfl
/-- a call within a try's body -/
theorem passT {X : Cx} {W : WX} {E : XK} (tk : Takes X W) (h : ∀ cls d σ H, E cls d H → W cls d σ H) : Passes (L2.CX X.prog X.w) X E := passes_call tk h
/-- what a callee lets out is taken, at these locals -/
def PassAt (CX : CXT) (X : Cx) (σ : L2.St) (E : XK) : Prop := ∀ (pins : List (Addr × Obj)) (H : Hp) (s : Shared) (e : Value) (s' : Shared), Inv X pins σ H s → CX X.stack H s E e s' → X.xe e s'
theorem passAt {X : Cx} {W : WX} {E : XK} {σ : L2.St} (tk : Takes X W) (h : ∀ cls d H, E cls d H → W cls d σ H) : PassAt (L2.CX X.prog X.w) X σ E := fun pins H s e s' I c => tk e s' (XE.of_call I (fun cls d H' q => h cls d H' q) c)
section
variable {X : Cx} {e o a b : Expr} {es : List Expr} {σ : L2.St} {H : Hp} {Q : VK} {p pos apos : Pos} {CX : CXT} {k : Nat} {f C g : Addr} {sp : Sp} {E : XK} {x m : Str}
theorem run_fnA {pins : List (Addr × Obj)} {s : Shared} {us : List Value} {vs : List V} (F : FnR X.prog X.w X.K X.mg X.base CX k f sp) (hr : Room k X.A) (hx : PassAt CX X σ E) (I : Inv X pins σ H s) (r : Vals vs us) (h : sp vs H Q E) :
    codeAny (model X.prog X.w) X.A (.call (.ref f) ⟨us, []⟩) (fun r s' => match r with | .ok (.ret v) => EP X pins σ Q v s' | .ok _ => False | .error e => X.xe e s') s := by
  refine codeAny_mono (F X.A X.stack s H us vs Q E hr I.env0 r h) fun r s' z => ?_
  match r, z with
  | .error e, z => exact hx pins H s e s' I z
  | .ok (.ret u), z => exact I.after z
  | .ok .next, z => exact z
  | .ok .brk, z => exact z
  | .ok .cont, z => exact z
theorem w_callA (F : FnR X.prog X.w X.K X.mg X.base CX k f sp) (hr : Room k X.A) (hm : X.mg x = some (.ref f)) (hk : PySem.W.keepIn X.K (.ref f) = true) (hx : PassAt CX X σ E)
    (h : Wa X (e :: es) σ H fun vs H1 => sp vs H1 Q E) (hg : Gl X x := by rfl) (hdb : (x == ("__debug__" : Str)) = false := by decide) (he : starEach (e :: es) X.env = (false, eval e X.env) :: starEach es X.env := by rfl) (hpl : (backTo pos (starEach es X.env)).any (·.1) = false := by rfl) :
    We X (.Call (.Name x p) (e :: es) [] pos) σ H Q := by
  refine ⟨fun pins s I => ?_⟩
  refine wpAny_Call_Name_kw (ld_glob I hg hm ?_ hdb)
  refine PySem.W.callWith_K (h₀ := X.base) I.ok.mod.kin hk (thn (h.run pos pins s I) fun us s1 ⟨vs, H1, I1, r, q⟩ => ⟨I1.kIn, ?_⟩) he hpl
  exact wpAny_call (run_fnA F hr hx I1 r q)
theorem w_callA0 (F : FnR X.prog X.w X.K X.mg X.base CX k f sp) (hr : Room k X.A) (hm : X.mg x = some (.ref f)) (hk : PySem.W.keepIn X.K (.ref f) = true) (hx : PassAt CX X σ E)
    (h : sp [] H Q E) (hg : Gl X x := by rfl) (hdb : (x == ("__debug__" : Str)) = false := by decide) : We X (.Call (.Name x p) [] [] pos) σ H Q := by
  refine ⟨fun pins s I => ?_⟩
  refine wpAny_Call_Name_kw (ld_glob I hg hm ?_ hdb)
  exact PySem.W.callWith_K0 I.kIn hk (wpAny_call (run_fnA (us := []) F hr hx I .nil h))
theorem w_methA {pl : Sem Bool} (c : Cls X.K C) (hm : Meth X.K C m f) (F : FnR X.prog X.w X.K X.mg X.base CX k f sp) (hr : Room k X.A) (hx : PassAt CX X σ E)
    (h : We X o σ H fun x H1 => ∃ a dx fs, x = .ref a ∧ H1 a = some (.ins C dx fs) ∧ fs.lookup m = none ∧ Wa X (e :: es) σ H1 fun vs H2 => sp (x :: vs) H2 Q E)
    (hst : starEach (e :: es) X.env = (false, eval e X.env) :: starEach es X.env := by rfl) (hpl : (backTo pos (starEach es X.env)).any (·.1) = false := by rfl)
    (ht : eval (.Call (.Attribute o m apos) (e :: es) [] pos) X.env = (do
      let ov ← eval o X.env
      standAt apos.atName
      let (f, first) ← holding [ov] (getMethod ov m pl)
      callWith pos f first (backTo pos (starEach (e :: es) X.env)) (backToKw pos (keywordEach [] X.env))) := by rfl) :
    We X (.Call (.Attribute o m apos) (e :: es) [] pos) σ H Q := by
  refine ⟨fun pins s I => ?_⟩
  refine PySem.W.methodCall_KW (pl := pl) (thn (h.run pins s I) fun u s1 ⟨x, H1, I1, rx, a, dx, fs, ex, ea, l, q⟩ => ?_) ht
  subst ex
  obtain rfl : u = Value.ref a := rx
  refine getmeth_ok I1 ea c hm l ?_
  refine PySem.W.callWith_K (first := [.ref a]) (h₀ := X.base) I1.ok.mod.kin hm.kp (thn (q.run pos pins s1 I1) fun us s2 ⟨vs, H2, I2, r2, q2⟩ => ⟨I2.kIn, ?_⟩) hst hpl
  exact wpAny_call (run_fnA (us := .ref a :: us) (vs := .ref a :: vs) F hr hx I2 (.cons rfl r2) q2)
theorem w_methA0 {pl : Sem Bool} (c : Cls X.K C) (hm : Meth X.K C m f) (F : FnR X.prog X.w X.K X.mg X.base CX k f sp) (hr : Room k X.A) (hx : PassAt CX X σ E)
    (h : We X o σ H fun x H1 => ∃ a dx fs, x = .ref a ∧ H1 a = some (.ins C dx fs) ∧ fs.lookup m = none ∧ sp [x] H1 Q E)
    (ht : eval (.Call (.Attribute o m apos) [] [] pos) X.env = (do
      let ov ← eval o X.env
      standAt apos.atName
      let (f, first) ← holding [ov] (getMethod ov m pl)
      callWith pos f first (backTo pos (starEach [] X.env)) (backToKw pos (keywordEach [] X.env))) := by rfl) :
    We X (.Call (.Attribute o m apos) [] [] pos) σ H Q := by
  refine ⟨fun pins s I => ?_⟩
  refine PySem.W.methodCall_KW (pl := pl) (thn (h.run pins s I) fun u s1 ⟨x, H1, I1, rx, a, dx, fs, ex, ea, l, q⟩ => ?_) ht
  subst ex
  obtain rfl : u = Value.ref a := rx
  refine getmeth_ok I1 ea c hm l ?_
  exact PySem.W.callWith_K0 (first := [.ref a]) I1.kIn hm.kp (wpAny_call (run_fnA (us := [.ref a]) (vs := [.ref a]) F hr hx I1 (.cons rfl .nil) q))
theorem w_makeA (M : Mk X.K C f) (F : FnR X.prog X.w X.K X.mg X.base CX k f sp) (hr : Room (k + 1) X.A) (hm : X.mg x = some (.ref C)) (hx : PassAt CX X σ E)
    (h : Wa X (e :: es) σ H fun vs H1 => ∀ x dx, H1 x = Option.none → H1 dx = Option.none → dx ≠ x → sp (V.ref x :: vs) (upd (upd H1 dx (.own x)) x (.ins C dx [])) (fun v H2 => v = .non ∧ Q (.ref x) H2) E)
    (hg : Gl X x := by rfl) (hdb : (x == ("__debug__" : Str)) = false := by decide) (he : starEach (e :: es) X.env = (false, eval e X.env) :: starEach es X.env := by rfl) (hpl : (backTo pos (starEach es X.env)).any (·.1) = false := by rfl) :
    We X (.Call (.Name x p) (e :: es) [] pos) σ H Q := by
  refine ⟨fun pins s I => ?_⟩
  refine wpAny_Call_Name_kw (ld_glob I hg hm ?_ hdb)
  refine PySem.W.callWith_K (h₀ := X.base) I.ok.mod.kin M.kp (thn (h.run pos pins s I) fun us s1 ⟨vs, H1, I1, r, q⟩ => ⟨I1.kIn, ?_⟩) he hpl
  have J := Inv.made (C := C) I1
  have z := q (s1.heap.objs.size + 1) s1.heap.objs.size (I1.hok.fresh (Nat.le_succ _)) (I1.hok.fresh (Nat.le_refl _)) (Nat.ne_of_lt (Nat.lt_succ_self _))
  have r2 : Vals (V.ref (s1.heap.objs.size + 1) :: vs) (Value.ref (s1.heap.objs.size + 1) :: us) := .cons rfl r
  refine wpAny_call (make_map (f := f) I1.kIn M.makes M.init (beq_iff_eq.mp M.fn) (codeAny_mono (F _ X.stack _ _ _ _ _ E (hr.make C us []) (J.env0.make C us []) r2 z) fun rr s' zz => ?_))
  match rr, zz with
  | .error e, zz => exact hx pins _ _ e s' J zz
  | .ok (.ret u), zz =>
    obtain ⟨v, H', I3, rv, ev, q3⟩ := J.after zz
    subst ev
    exact ⟨rv, ⟨V.ref (s1.heap.objs.size + 1), H', I3, rfl, q3⟩⟩
  | .ok .next, zz => exact zz
  | .ok .brk, zz => exact zz
  | .ok .cont, zz => exact zz
end
/-- e.f of the caught exception -/
theorem w_xf {X : Cx} {a C : Addr} {oe : Obj} {cls : Value} {d : Option Addr} {pn : List (Addr × Obj)} {e : Expr} {pos : Pos} {n : Str} {σ : L2.St} {H : Hp} {Q : VK} (T : XfC X.K C) (hno : PySem.W.findIn X.K (.ref C) n = some none)
    (hz : Zc cls d oe) (hf : ∃ vs, oe.data = .fields vs)
    (h : We (X.suite a ((a, oe) :: pn)) e σ H fun x H1 => x = .ref a ∧ cls = .ref C ∧ ∃ (dd : Addr) (fs : List (Str × V)) (v : V), d = some dd ∧ H1 dd = some (.xd fs) ∧ fs.lookup n = some v ∧ Q v H1)
    (hb : attributeBase e n X.env (eval e X.env) = eval e X.env := by rfl) : We (X.suite a ((a, oe) :: pn)) (.Attribute e n pos) σ H Q := we_of (pe_xf T hno hz hf peW hb) h
/-! ### keywords -/
/-- a promise by n positional values and by keywords named ks -/
def FnQ (P : Program) (w : World) (K : PySem.W.Frag) (mg : Str → Option Value) (base : Heap) (CX : CXT) (k : Nat) (f : Addr) (n : Nat) (ks : List Str) (sp : List V → List V → Hp → VK → XK → Prop) : Prop :=
  ∀ (A : Around) (outer : List Env) (s : Shared) (H : Hp) (us ws : List Value) (vs zs : List V) (Q : VK) (E : XK), Room k A → Env0 P w K mg base A outer s H → Vals vs us → Vals zs ws → vs.length = n → zs.length = ks.length → sp vs zs H Q E →
    codeAny (model P w) A (.call (.ref f) ⟨us, ks.zip ws⟩) (CR CX outer P w H s Q E) s
section
variable {P : Program} {w : World} {K : PySem.W.Frag} {mg : Str → Option Value} {base : Heap} {CX : CXT}
theorem fnq_of {k n : Nat} {f : Addr} {fd : FuncData} {ps ks : List Str} {sp : Sp} {g : List Value → List Value → List Value} {gV : List V → List V → List V} (F : FnOk P w K mg base CX k f fd ps sp) (hb : KBn K fd ps n ks g gV) :
    FnQ P w K mg base CX k f n ks (fun vs zs H Q E => sp (gV vs zs) H Q E) := by
  intro A outer s H us ws vs zs Q E hr e0 rv rz l1 l2 h
  exact F.run A outer s H ⟨us, ks.zip ws⟩ (g us ws) (gV vs zs) Q E hr e0 (hb.to s us ws (e0.mod.kin.keeps fun b o z => (e0.bs b o z).1) (rv.length.symm.trans l1) (rz.length.symm.trans l2)) (hb.rel rv rz) h
/-- every parameter is given, no defaults -/
theorem kbn0 {x q : Str} {params : Arguments} {body : List Stmt} {scope : Scope} {kws : List (Str × V)} {f : Addr} {fd : FuncData} {ps : List Str} (F : FunD K x q params body scope [] kws f fd) (n : Nat) (ks : List Str) (g : {α : Type} → List α → List α → List α)
    (hrel : ∀ {vs zs : List V} {us ws : List Value}, Vals vs us → Vals zs ws → Vals (g vs zs) (g us ws))
    (h : ∀ (kV doc pm : Value) (an : Option Addr) (cdv ct : Value) (us ws : List Value), us.length = n → ws.length = ks.length → bindArgs (PySem.W.fnOf x q params body scope .none kV doc pm an cdv ct) ⟨us, ks.zip ws⟩ = pure (ps.zip (g us ws))) :
    KBn K fd ps n ks (fun us ws => g us ws) (fun vs zs => g vs zs) := by
  obtain ⟨oc, od, dV, kV, doc, pm, an, cdv, ct, osl, rfl, lk, hcd, hD, hK⟩ := F.ex
  rcases hD with ⟨_, rfl⟩ | ⟨e, _⟩
  · exact ⟨fun s us ws _ l1 l2 => .of_eq (h kV doc pm an cdv ct us ws l1 l2), fun r1 r2 => hrel r1 r2⟩
  · exact absurd rfl e
/-- with defaults dvs -/
theorem kbn1 {x q : Str} {params : Arguments} {body : List Stmt} {scope : Scope} {dvs : List V} {kws : List (Str × V)} {f : Addr} {fd : FuncData} {ps : List Str} (F : FunD K x q params body scope dvs kws f fd) (n : Nat) (ks : List Str) (g : {α : Type} → List α → List α → List α → List α) (hd : dvs ≠ [])
    (hrel : ∀ {vs ds zs : List V} {us its ws : List Value}, Vals vs us → Vals ds its → Vals zs ws → Vals (g vs ds zs) (g us its ws))
    (h : ∀ (T : Addr) (kV doc pm : Value) (an : Option Addr) (cdv ct : Value) (us its ws : List Value), us.length = n → its.length = dvs.length → ws.length = ks.length →
      ∃ k, bindArgs (PySem.W.fnOf x q params body scope (.ref T) kV doc pm an cdv ct) ⟨us, ks.zip ws⟩ = seqItems? (.ref T) >>= k ∧ k (some its.toArray) = pure (ps.zip (g us its ws))) :
    ∃ its : List Value, KBn K fd ps n ks (fun us ws => g us its ws) (fun vs zs => g vs dvs zs) := by
  obtain ⟨oc, od, dV, kV, doc, pm, an, cdv, ct, osl, rfl, lk, hcd, hD, hK⟩ := F.ex
  rcases hD with ⟨e, _⟩ | ⟨_, T, o, its, m, rfl, lT, oT, rT⟩
  · exact absurd e hd
  · refine ⟨its, ⟨fun s us ws KI l1 l2 => ?_, fun r1 r2 => hrel r1 rT r2⟩⟩
    obtain ⟨k, e1, e2⟩ := h T kV doc pm an cdv ct us its ws l1 rT.length.symm l2
    refine BindsTo.of_looks fun M => ?_
    rw [e1]
    exact looks_items KI lT oT (.of_pure e2)
end
section
variable {X : Cx} {e o : Expr} {es : List Expr} {σ : L2.St} {H : Hp} {Q : VK} {p pos apos : Pos} {CX : CXT} {k n : Nat} {f C g : Addr} {sp : List V → List V → Hp → VK → XK → Prop} {E : XK} {x m : Str} {ks : List Str} {kws : List Keyword}
theorem run_fnQ {pins : List (Addr × Obj)} {s : Shared} {us ws : List Value} {vs zs : List V} (F : FnQ X.prog X.w X.K X.mg X.base CX k f n ks sp) (hr : Room k X.A) (hx : Passes CX X E) (I : Inv X pins σ H s) (r : Vals vs us) (rz : Vals zs ws) (l1 : vs.length = n) (l2 : zs.length = ks.length) (h : sp vs zs H Q E) :
    wpAny (model X.prog X.w) X.A (call (.ref f) us (ks.zip ws)) (EP X pins σ Q) X.xe s := by
  refine wpAny_call (codeAny_mono (F X.A X.stack s H us ws vs zs Q E hr I.env0 r rz l1 l2 h) fun r s' z => ?_)
  match r, z with
  | .error e, z => exact hx pins σ H s e s' I z
  | .ok (.ret u), z => exact I.after z
  | .ok .next, z => exact z
  | .ok .brk, z => exact z
  | .ok .cont, z => exact z
/-- f(k = v, ..) -/
theorem w_callQ (F : FnQ X.prog X.w X.K X.mg X.base CX k f 0 ks sp) (hr : Room k X.A) (hm : X.mg x = some (.ref f)) (hk : PySem.W.keepIn X.K (.ref f) = true) (hx : Passes CX X E)
    (h : Wk X kws σ H fun zs H1 => zs.length = ks.length ∧ sp [] zs H1 Q E) (hg : Gl X x := by rfl) (hdb : (x == ("__debug__" : Str)) = false := by decide)
    (hall : (backToKw pos (keywordEach kws X.env)).all (·.1.isSome) = true := by rfl) (hks : (backToKw pos (keywordEach kws X.env)).filterMap (·.1) = ks := by rfl)
    (hpl : ((backTo pos (starEach [] X.env)).any (·.1) || (backToKw pos (keywordEach kws X.env)).any (·.1.isNone)) = false := by rfl) : We X (.Call (.Name x p) [] kws pos) σ H Q := by
  refine ⟨fun pins s I => ?_⟩
  refine wpAny_Call_Name_kw (ld_glob I hg hm ?_ hdb)
  refine PySem.W.callWith_KW0 (h₀ := X.base) I.ok.mod.kin hk hall ?_ hpl
  refine thn (h.run pos pins s I) fun ws s2 ⟨zs, H2, I2, rz, l2, q2⟩ => ⟨I2.kIn, ?_⟩
  rw [hks]
  exact run_fnQ (us := []) (vs := []) F hr hx I2 .nil rz rfl l2 q2
/-- f(e, .., k = v, ..) -/
theorem w_callQ1 (F : FnQ X.prog X.w X.K X.mg X.base CX k f n ks sp) (hr : Room k X.A) (hm : X.mg x = some (.ref f)) (hk : PySem.W.keepIn X.K (.ref f) = true) (hx : Passes CX X E)
    (h : Wa X (e :: es) σ H fun vs H1 => Wk X kws σ H1 fun zs H2 => vs.length = n ∧ zs.length = ks.length ∧ sp vs zs H2 Q E) (hg : Gl X x := by rfl) (hdb : (x == ("__debug__" : Str)) = false := by decide)
    (hall : (backToKw pos (keywordEach kws X.env)).all (·.1.isSome) = true := by rfl) (hks : (backToKw pos (keywordEach kws X.env)).filterMap (·.1) = ks := by rfl) (he : starEach (e :: es) X.env = (false, eval e X.env) :: starEach es X.env := by rfl)
    (hpl : ((backTo pos (starEach (e :: es) X.env)).any (·.1) || (backToKw pos (keywordEach kws X.env)).any (·.1.isNone)) = false := by rfl) : We X (.Call (.Name x p) (e :: es) kws pos) σ H Q := by
  refine ⟨fun pins s I => ?_⟩
  refine wpAny_Call_Name_kw (ld_glob I hg hm ?_ hdb)
  refine PySem.W.callWith_KW (h₀ := X.base) I.ok.mod.kin hk hall (thn (h.run pos pins s I) fun us s1 ⟨vs, H1, I1, rv, q⟩ => ?_) hpl he
  refine thn (q.run pos pins s1 I1) fun ws s2 ⟨zs, H2, I2, rz, l1, l2, q2⟩ => ⟨I2.kIn, ?_⟩
  rw [hks]
  exact run_fnQ F hr hx I2 rv rz l1 l2 q2
/-- o.m(k = v, ..) -/
theorem w_methQ {pl : Sem Bool} (c : Cls X.K C) (hm : Meth X.K C m f) (F : FnQ X.prog X.w X.K X.mg X.base CX k f 1 ks sp) (hr : Room k X.A) (hx : Passes CX X E)
    (h : We X o σ H fun x H1 => ∃ a dx fs, x = .ref a ∧ H1 a = some (.ins C dx fs) ∧ fs.lookup m = none ∧ Wk X kws σ H1 fun zs H2 => zs.length = ks.length ∧ sp [x] zs H2 Q E)
    (hall : (backToKw pos (keywordEach kws X.env)).all (·.1.isSome) = true := by rfl) (hks : (backToKw pos (keywordEach kws X.env)).filterMap (·.1) = ks := by rfl)
    (hpl : ((backTo pos (starEach [] X.env)).any (·.1) || (backToKw pos (keywordEach kws X.env)).any (·.1.isNone)) = false := by rfl)
    (ht : eval (.Call (.Attribute o m apos) [] kws pos) X.env = (do
      let ov ← eval o X.env
      standAt apos.atName
      let (f, first) ← holding [ov] (getMethod ov m pl)
      callWith pos f first (backTo pos (starEach [] X.env)) (backToKw pos (keywordEach kws X.env))) := by rfl) :
    We X (.Call (.Attribute o m apos) [] kws pos) σ H Q := by
  refine ⟨fun pins s I => ?_⟩
  refine PySem.W.methodCall_KW (pl := pl) (thn (h.run pins s I) fun u s1 ⟨x, H1, I1, rx, a, dx, fs, ex, ea, l, q⟩ => ?_) ht
  subst ex
  obtain rfl : u = Value.ref a := rx
  refine getmeth_ok I1 ea c hm l ?_
  refine PySem.W.callWith_KW0 (h₀ := X.base) I.ok.mod.kin hm.kp hall ?_ hpl
  refine thn (q.run pos pins s1 I1) fun ws s2 ⟨zs, H2, I2, rz, l2, q2⟩ => ⟨I2.kIn, ?_⟩
  rw [hks]
  exact run_fnQ (us := [.ref a]) (vs := [.ref a]) F hr hx I2 (.cons rfl .nil) rz rfl l2 q2
end
end PR
namespace PR
open PySem PySem.Spec PyProof.Rows L2
/-! ### comprehensions -/
/-- the tests of a clause -/
structure Wi (X : Cx) (ifs : List Expr) (σ : L2.St) (H : Hp) (Q : Bool → Hp → Prop) : Prop where
  run : ∀ (pins : List (Addr × Obj)) (s : Shared), Inv X pins σ H s → wpAny (model X.prog X.w) X.A (forIn ifs true fun c r => if r = true then do let ok ← isTrue c X.env (eval c X.env); pure (ForInStep.yield ok) else pure (ForInStep.yield r)) (TP X pins σ Q) X.xe s
theorem i_nil {X : Cx} {σ : L2.St} {H : Hp} {Q : Bool → Hp → Prop} (h : Q true H) : Wi X [] σ H Q := ⟨fun pins s I => pts_nil.run pins s σ H Q I h⟩
theorem i_one {X : Cx} {c : Expr} {σ : L2.St} {H : Hp} {Q : Bool → Hp → Prop} (h : Wt X c σ H Q) : Wi X [c] σ H Q := ⟨fun pins s I => (pts_one ptW).run pins s σ H Q I h⟩
/-- in whatever block of this scope -/
def Bi (X : Cx) (scope : Scope) (ifs : List Expr) : TT := fun σ H Q => ∀ (s : Shared) (H0 : Hp) (C : Addr) (cl : List (Str × Addr)) (fp : List Addr), Wi (X.blk s H0 scope (compEnvC scope cl C X.env) fp) ifs σ H Q
def Be (X : Cx) (scope : Scope) (e : Expr) : TE := fun σ H Q => ∀ (s : Shared) (H0 : Hp) (C : Addr) (cl : List (Str × Addr)) (fp : List Addr), We (X.blk s H0 scope (compEnvC scope cl C X.env) fp) e σ H Q
section
variable {X : Cx} {elt tg iter : Expr} {ifs : List Expr} {scope : Scope} {pos spos py px : Pos} {wi : TI} {g : TG} {σ : L2.St} {H : Hp} {Q : VK} {D : Ends}
theorem w_lc (own : List (Str × Nat)) (hN : X.N.Nodup) (hi : PI X tg iter wi) (hg : ∀ (s : Shared) (H : Hp) (C : Addr) (cl : List (Str × Addr)) (fp : List Addr), PG (X.blk s H scope (compEnvC scope cl C X.env) fp) tg g)
    (h : tLc wi g (Bi X scope ifs) (Be X scope elt) (own.map (·.2)) σ H Q) (ok : BlkOk X.N X.env.scope scope own := by exact blkOk_by (by kernel_rfl)) (hc : X.calm = true := by rfl) (hs : ∀ x, foldedSetIterable iter X.env x = pure x := by intro _; rfl) :
    We X (.ListComp elt [⟨tg, iter, ifs, 0⟩] scope pos) σ H Q :=
  we_of (pe_lc hc hN hi ok hg (fun s H0 C cl fp => ⟨fun pins s1 σ1 H1 Q1 I z => (z s H0 C cl fp).run pins s1 I⟩) (fun s H0 C cl fp => ⟨fun pins s1 σ1 H1 Q1 I z => (z s H0 C cl fp).run pins s1 I⟩) hs) h
theorem s_setLc (i : Nat) {y : Str} (own : List (Str × Nat)) (hN : X.N.Nodup) (hi : PI X tg iter wi) (hg : ∀ (s : Shared) (H : Hp) (C : Addr) (cl : List (Str × Addr)) (fp : List Addr), PG (X.blk s H scope (compEnvC scope cl C X.env) fp) tg g)
    (h : tLc wi g (Bi X scope ifs) (Be X scope elt) (own.map (·.2)) σ H (fun x H1 => D.nx (σ.set i (some x)) H1)) (ok : BlkOk X.N X.env.scope scope own := by exact blkOk_by (by kernel_rfl)) (hy : X.N[i]? = some y := by rfl) (hyl : X.env.scope.names.lookup y = some .local := by rfl)
    (hsw : swapsWith (.ListComp elt [⟨tg, iter, ifs, 0⟩] scope pos) (some (.Name y py)) spos.line X.env = pure true := by rfl) (hc : X.calm = true := by rfl) (hs : ∀ x, foldedSetIterable iter X.env x = pure x := by intro _; rfl) :
    Ws X (.Assign [.Name y py] (.ListComp elt [⟨tg, iter, ifs, 0⟩] scope pos) spos) D σ H :=
  ws_of (ps_setLc hc hN hy hyl hsw hi ok hg (fun s H0 C cl fp => ⟨fun pins s1 σ1 H1 Q1 I z => (z s H0 C cl fp).run pins s1 I⟩) (fun s H0 C cl fp => ⟨fun pins s1 σ1 H1 Q1 I z => (z s H0 C cl fp).run pins s1 I⟩) hs) h
end
theorem wipe1 (σ : L2.St) (j : Nat) (x : V) : wipe ((wipe σ [j]).set j (some x)) [j] = wipe σ [j] := by
  show ((σ.set j none).set j (some x)).set j none = σ.set j none
  rw [List.set_set, List.set_set]
section
variable {X : Cx} {elt e : Expr} {ifs : List Expr} {scope : Scope} {pos spos py px : Pos} {σ : L2.St} {H : Hp} {Q : VK} {D : Ends} {x : Str}
/-- one turn: x the item, D the list that grows -/
def Turn (X : Cx) (scope : Scope) (elt : Expr) (ifs : List Expr) (j : Nat) (σ : L2.St) (L : Addr) (x : V) (H : Hp) (Nx : Hp → Prop) : Prop :=
  Bi X scope ifs ((wipe σ [j]).set j (some x)) H fun b H3 => if b = true then Be X scope elt ((wipe σ [j]).set j (some x)) H3 fun y H4 => ∃ acc, H4 L = some (.lst acc) ∧ acc.length < sizeLine ∧ Nx (upd H4 L (.lst (acc ++ [y]))) else Nx H3
/-- the loop over a list -/
def LoopL (X : Cx) (scope : Scope) (elt : Expr) (ifs : List Expr) (j : Nat) (σ : L2.St) (v : V) (H1 : Hp) (Q : VK) : Prop := ∃ (l : Addr) (xs : List V), v = .ref l ∧ SqL X.K H1 l xs ∧ ∀ L, H1 L = none → ∃ Pv : Nat → Hp → Prop, Pv 0 (upd H1 L (.lst [])) ∧
  (∀ i H', i ≤ xs.length → Pv i H' → SqL X.K H' l xs) ∧ (∀ i y H', xs[i]? = some y → Pv i H' → Turn X scope elt ifs j σ L y H' (Pv (i + 1))) ∧ ∀ H', Pv xs.length H' → Q (.ref L) H'
theorem loopL_ok {j : Nat} (h : We X e σ H fun v H1 => LoopL X scope elt ifs j σ v H1 Q) : ∃ wi, PI X (.Name x px) e wi ∧ tLc wi (gName j) (Bi X scope ifs) (Be X scope elt) [j] σ H Q := by
  refine ⟨_, pi_list peW, ?_⟩
  refine We.mono h fun v H1 z => ?_
  obtain ⟨l, xs, rfl, hl, z⟩ := z
  refine ⟨l, rfl, ⟨xs, hl⟩, fun L hL => ?_⟩
  obtain ⟨Pv, p0, p1, p2, p3⟩ := z L hL
  exact lc_list (K := X.K) (a := l) (xs := xs) Pv p0 p1 (fun i y H' hi hp => ⟨wipe1 σ j y, p2 i y H' hi hp⟩) p3
/-- [elt for x in e if ..], e a list -/
theorem w_lcl (j : Nat) (hN : X.N.Nodup) (h : We X e σ H fun v H1 => LoopL X scope elt ifs j σ v H1 Q) (hj : X.N[j]? = some x := by rfl) (hx : ∀ (cl : List (Str × Addr)) (C : Addr), Loc (compEnvC scope cl C X.env).scope x := by intro _ _; first | exact Or.inl rfl | exact Or.inr rfl)
    (hf : (scope.names.lookup x == some .cell) = true ∨ ∀ (cl : List (Str × Addr)) (C : Addr), (compEnvC scope cl C X.env).scope.names.lookup x = some .local := by first | exact .inl rfl | exact .inr (fun _ _ => rfl))
    (ok : BlkOk X.N X.env.scope scope [(x, j)] := by exact blkOk_by (by kernel_rfl)) (hc : X.calm = true := by rfl) (hs : ∀ z, foldedSetIterable e X.env z = pure z := by intro _; rfl) :
    We X (.ListComp elt [⟨.Name x px, e, ifs, 0⟩] scope pos) σ H Q := by
  obtain ⟨wi, hi, z⟩ := loopL_ok (x := x) (px := px) h
  exact w_lc [(x, j)] hN hi (fun s H0 C cl fp => pg_name (X := X.blk s H0 scope (compEnvC scope cl C X.env) fp) (i := j) hN hj (hx cl C) (hf.imp id fun q => q cl C)) z ok hc hs
theorem s_lcl (i j : Nat) {y : Str} (hN : X.N.Nodup) (h : We X e σ H fun v H1 => LoopL X scope elt ifs j σ v H1 (fun x H1 => D.nx (σ.set i (some x)) H1)) (hj : X.N[j]? = some x := by rfl) (hx : ∀ (cl : List (Str × Addr)) (C : Addr), Loc (compEnvC scope cl C X.env).scope x := by intro _ _; first | exact Or.inl rfl | exact Or.inr rfl)
    (hf : (scope.names.lookup x == some .cell) = true ∨ ∀ (cl : List (Str × Addr)) (C : Addr), (compEnvC scope cl C X.env).scope.names.lookup x = some .local := by first | exact .inl rfl | exact .inr (fun _ _ => rfl))
    (ok : BlkOk X.N X.env.scope scope [(x, j)] := by exact blkOk_by (by kernel_rfl)) (hy : X.N[i]? = some y := by rfl) (hyl : X.env.scope.names.lookup y = some .local := by rfl)
    (hsw : swapsWith (.ListComp elt [⟨.Name x px, e, ifs, 0⟩] scope pos) (some (.Name y py)) spos.line X.env = pure true := by rfl) (hc : X.calm = true := by rfl) (hs : ∀ z, foldedSetIterable e X.env z = pure z := by intro _; rfl) :
    Ws X (.Assign [.Name y py] (.ListComp elt [⟨.Name x px, e, ifs, 0⟩] scope pos) spos) D σ H := by
  obtain ⟨wi, hi, z⟩ := loopL_ok (x := x) (px := px) h
  exact s_setLc i [(x, j)] hN hi (fun s H0 C cl fp => pg_name (X := X.blk s H0 scope (compEnvC scope cl C X.env) fp) (i := j) hN hj (hx cl C) (hf.imp id fun q => q cl C)) z ok hy hyl hsw hc hs
/-- the loop over range(n) -/
def LoopR (X : Cx) (scope : Scope) (elt : Expr) (ifs : List Expr) (j : Nat) (σ : L2.St) (v : V) (H1 : Hp) (Q : VK) : Prop := ∃ n : Nat, v = .int (n : Int) ∧ n < 1000000 ∧ ∀ L, H1 L = none → ∃ Pv : Nat → Hp → Prop, Pv 0 (upd H1 L (.lst [])) ∧
  (∀ i H', i < n → Pv i H' → Turn X scope elt ifs j σ L (.int (i : Int)) H' (Pv (i + 1))) ∧ ∀ H', Pv n H' → Q (.ref L) H'
theorem loopR_ok {j : Nat} {pr pc : Pos} (hm : X.mg "range" = none) (h : We X e σ H fun v H1 => LoopR X scope elt ifs j σ v H1 Q) (hg : Gl X "range") (he : starEach [e] X.env = (false, eval e X.env) :: starEach [] X.env) :
    ∃ wi, PI X (.Name x px) (.Call (.Name "range" pr) [e] [] pc) wi ∧ tLc wi (gName j) (Bi X scope ifs) (Be X scope elt) [j] σ H Q := by
  refine ⟨_, pi_range1 hg hm paW he, ?_⟩
  refine a_cons (We.mono h fun v H1 z => ?_) he
  obtain ⟨n, rfl, hn, z⟩ := z
  refine a_nil ⟨(n : Int), rfl, by omega, by omega, fun L hL => ?_⟩
  obtain ⟨Pv, p0, p2, p3⟩ := z L hL
  refine lc_range (lo := 0) (n := n) Pv p0 (fun i H' hi hp => ?_) p3
  have zz := p2 i H' hi hp
  have e0 : (0 : Int) + (i : Int) = (i : Int) := Int.zero_add _
  rw [e0]
  exact ⟨wipe1 σ j _, zz⟩
theorem w_lcr (j : Nat) {pr pc : Pos} (hN : X.N.Nodup) (hm : X.mg "range" = none) (h : We X e σ H fun v H1 => LoopR X scope elt ifs j σ v H1 Q) (hg : Gl X "range" := by rfl) (he : starEach [e] X.env = (false, eval e X.env) :: starEach [] X.env := by rfl)
    (hj : X.N[j]? = some x := by rfl) (hx : ∀ (cl : List (Str × Addr)) (C : Addr), Loc (compEnvC scope cl C X.env).scope x := by intro _ _; first | exact Or.inl rfl | exact Or.inr rfl)
    (hf : (scope.names.lookup x == some .cell) = true ∨ ∀ (cl : List (Str × Addr)) (C : Addr), (compEnvC scope cl C X.env).scope.names.lookup x = some .local := by first | exact .inl rfl | exact .inr (fun _ _ => rfl))
    (ok : BlkOk X.N X.env.scope scope [(x, j)] := by exact blkOk_by (by kernel_rfl)) (hc : X.calm = true := by rfl) (hs : ∀ z, foldedSetIterable (.Call (.Name "range" pr) [e] [] pc) X.env z = pure z := by intro _; rfl) :
    We X (.ListComp elt [⟨.Name x px, .Call (.Name "range" pr) [e] [] pc, ifs, 0⟩] scope pos) σ H Q := by
  obtain ⟨wi, hi, z⟩ := loopR_ok (x := x) (px := px) (pr := pr) (pc := pc) hm h hg he
  exact w_lc [(x, j)] hN hi (fun s H0 C cl fp => pg_name (X := X.blk s H0 scope (compEnvC scope cl C X.env) fp) (i := j) hN hj (hx cl C) (hf.imp id fun q => q cl C)) z ok hc hs
theorem s_lcr (i j : Nat) {y : Str} {pr pc : Pos} (hN : X.N.Nodup) (hm : X.mg "range" = none) (h : We X e σ H fun v H1 => LoopR X scope elt ifs j σ v H1 (fun x H1 => D.nx (σ.set i (some x)) H1)) (hg : Gl X "range" := by rfl) (he : starEach [e] X.env = (false, eval e X.env) :: starEach [] X.env := by rfl)
    (hj : X.N[j]? = some x := by rfl) (hx : ∀ (cl : List (Str × Addr)) (C : Addr), Loc (compEnvC scope cl C X.env).scope x := by intro _ _; first | exact Or.inl rfl | exact Or.inr rfl)
    (hf : (scope.names.lookup x == some .cell) = true ∨ ∀ (cl : List (Str × Addr)) (C : Addr), (compEnvC scope cl C X.env).scope.names.lookup x = some .local := by first | exact .inl rfl | exact .inr (fun _ _ => rfl))
    (ok : BlkOk X.N X.env.scope scope [(x, j)] := by exact blkOk_by (by kernel_rfl)) (hy : X.N[i]? = some y := by rfl) (hyl : X.env.scope.names.lookup y = some .local := by rfl)
    (hsw : swapsWith (.ListComp elt [⟨.Name x px, .Call (.Name "range" pr) [e] [] pc, ifs, 0⟩] scope pos) (some (.Name y py)) spos.line X.env = pure true := by rfl) (hc : X.calm = true := by rfl) (hs : ∀ z, foldedSetIterable (.Call (.Name "range" pr) [e] [] pc) X.env z = pure z := by intro _; rfl) :
    Ws X (.Assign [.Name y py] (.ListComp elt [⟨.Name x px, .Call (.Name "range" pr) [e] [] pc, ifs, 0⟩] scope pos) spos) D σ H := by
  obtain ⟨wi, hi, z⟩ := loopR_ok (x := x) (px := px) (pr := pr) (pc := pc) hm h hg he
  exact s_setLc i [(x, j)] hN hi (fun s H0 C cl fp => pg_name (X := X.blk s H0 scope (compEnvC scope cl C X.env) fp) (i := j) hN hj (hx cl C) (hf.imp id fun q => q cl C)) z ok hy hyl hsw hc hs
end
end PR
namespace PR
open PySem PySem.Spec PyProof.Rows L2
/-- the law's promise at the heap that the top has left, where it needs that nothing is being shown -/
theorem law_callG {P : Program} {w : World} {K : PySem.W.Frag} {mg mb : Str → Option Value} {k : Nat} {fa a : Addr} {sp : Sp} {s₁ : Shared} {vs : List Value} {ns : List Int}
    (KI : K.In s₁.heap) (ng : s₁.heap.Ns mainGlobals mg) (nb : s₁.heap.Ns builtinsNs mb) (bb : ∀ x : Str, x ≠ "__name__" → mb x = bootBuiltins x) (nl : s₁.heap.NoLimit) (ge : s₁.gens = #[])
    (at_ : s₁.heap.get? a = some { cls := .type "list", data := .seq vs.toArray }) (isI : IntsAre vs ns) (short : ns.length ≤ sizeLine) (room : Room k callerA)
    (F : ∀ base : Heap, K.In base → base.Ns mainGlobals mg → FnG P w K mg base (L2.CX P w) k fa sp)
    (want : ∀ H : Hp, Only H → SqL K H a (ns.map V.int) → sp [.ref a] H (fun v _ => v = .bl true) fun _ _ _ => False) :
    codeAny (model P w) callerA (.call (.ref fa) ⟨[.ref a], []⟩) (fun r s' => r = .ok (.ret (.bool true)) ∧ OldK s₁.heap s'.heap ∧ s'.os = s₁.os ∧ AllBare s'.gens) s₁ := by
  have go : ∀ H : Hp, Only H → SqL K H a (ns.map V.int) → HOk P w H s₁.heap → (∀ b, H b ≠ none → b = a) → (H a ≠ none → K.lookup a = none) →
      codeAny (model P w) callerA (.call (.ref fa) ⟨[.ref a], []⟩) (fun r s' => r = .ok (.ret (.bool true)) ∧ OldK s₁.heap s'.heap ∧ s'.os = s₁.os ∧ AllBare s'.gens) s₁ := by
    intro H only seq hok one lone
    have free_or : ∀ b, H b = none ∨ b = a := fun b => by
      by_cases z : H b = none
      · exact .inl z
      · exact .inr (one b z)
    have dict_free : ∀ {b : Addr} {o : Obj} {es : Array DictEntry} {ep : Nat}, s₁.heap.get? b = some o → o.data = .dict es ep → H b = none := by
      intro b o es ep e1 e2
      rcases free_or b with z | rfl
      · exact z
      · rw [at_] at e1
        cases e1
        exact nomatch (show Data.seq vs.toArray _ = Data.dict es ep from e2)
    have moved : ∀ {b : Addr} {m : Str → Option Value}, s₁.heap.Ns b m → (hidT s₁.heap H).Ns b m := by
      rintro b m ⟨o, es, ep, e1, e2, r⟩
      exact ⟨o, es, ep, hidT_get e1 (dict_free e1 e2), e2, r⟩
    have KB : K.In (hidT s₁.heap H) := by
      intro b o e
      refine hidT_get (KI b o e) ?_
      by_cases z : H b = none
      · exact z
      · have eb := one b z
        subst eb
        rw [lone z] at e
        cases e
    have mod : Mod K mg (hidT s₁.heap H) := ⟨KB, moved ng, ⟨mb, moved nb, bb⟩, let ⟨mc, g1, g2⟩ := nl; ⟨mc, moved g1, g2⟩⟩
    have E0' : Env0 P w K mg (hidT s₁.heap H) callerA [] s₁ H := ⟨rfl, mod, fun _ _ z => of_hidT z, Nat.le_of_eq (hidT_size _ _), trivial, fun _ z => (nomatch (show _ ∈ ([] : List Addr) from z)), hok, .of_eq ge⟩
    refine codeAny_mono (F _ KB (moved ng) callerA [] s₁ H [.ref a] [.ref a] _ _ rfl room E0' (.cons rfl .nil) (want H only seq)) fun r s2 z => ?_
    match r, z with
    | .error e, ⟨_, _, _, _, _, _, _, _, _, _, _, _, z⟩ => exact False.elim z
    | .ok .next, z => exact False.elim z
    | .ok .brk, z => exact False.elim z
    | .ok .cont, z => exact False.elim z
    | .ok (.ret u), ⟨v, H', g1, g2, g3, g4, g5, g6⟩ =>
      have g6 : v = .bl true := g6
      subst g6
      have g5 : u = Value.bool true := g5
      subst g5
      refine ⟨rfl, OldK.of_keep fun b o e => ?_, g1, g2⟩
      rcases only b with z | ⟨ob, xs, z⟩
      · exact g3.keep b o e z (fun y => nomatch (show b ∈ ([] : List Addr) from y)) (by simp)
      · have y := g3.frzs b ob _ z
        have y1 := (hok b _ z).1
        have y2 := (g4 b _ y).1
        rw [e] at y1
        cases y1
        exact y2
  have rel := vals_ints isI
  have ll := isI.length
  by_cases hk : K.lookup a = none
  · refine go (fun b => if b = a then some (.frz { cls := .type "list", data := .seq vs.toArray } (.lst (ns.map V.int))) else none) (fun b => ?_) (.inl (.inr ⟨_, if_pos rfl⟩)) (fun b u z => ?_) (fun b z => ?_) fun _ => hk
    · by_cases hb : b = a
      · exact .inr ⟨_, _, if_pos hb⟩
      · exact .inl (if_neg hb)
    · by_cases hb : b = a
      · have y := (if_pos hb).symm.trans z
        cases y
        subst hb
        exact ⟨at_, by rw [List.length_map]; exact short, vs, _, rel, at_⟩
      · exact nomatch (if_neg hb).symm.trans z
    · exact Decidable.byContradiction fun hb => z (if_neg hb)
  · obtain ⟨o, ho⟩ := Option.ne_none_iff_exists'.mp hk
    have e := KI a o ho
    rw [at_] at e
    cases e
    exact go (fun _ => none) (fun _ => .inl rfl) (.inr ⟨_, vs.toArray, _, ho, rfl, rfl, rfl, by rw [List.size_toArray, ll]; exact short, by simpa using rel⟩) (fun _ u z => nomatch (show (none : Option HO) = some u from z)) (fun _ z => absurd rfl z) fun z => absurd rfl z
/-- a law's end -/
theorem walk_ofG {l : PySem.W.OpenLaw} {n k : Nat} {q : Program} {loose : List Str} {XP : (Str → Option Value) → Heap → Prop} {YP : World → Heap → Prop} {d : DefRec} (hn : l.most = some n) (hn2 : n ≤ sizeLine) (hdf : d.params.defaults = []) (room : Room k callerA)
    (F : ∀ (w : World) (mg : Str → Option Value) (fa : Addr) (h : Heap), YP w h → h.Ns mainGlobals mg → mg d.name = some (.ref fa) →
      ∃ (K : PySem.W.Frag) (sp : Sp), K.In h ∧ (∀ (H : Hp) (a : Addr) (ns : List Int), ns.length ≤ n → Only H → SqL K H a (ns.map V.int) → sp [.ref a] H (fun v _ => v = .bl true) fun _ _ _ => False) ∧
        ∀ base : Heap, K.In base → base.Ns mainGlobals mg → FnG l.prog w K mg base (L2.CX l.prog w) k fa sp) :
    PySem.W.WalkO q loose XP YP l.row.toRowW d [] (fun f vs => PySem.call f vs) := by
  refine Att.attach_call hn hdf fun w s₀ s₁ mg mb fa o pm cd doc a vs ns G Y ho hd hcd hmg hobj hints hlen hg => ?_
  obtain ⟨K, sp, KI, want, FF⟩ := F w mg fa _ Y G.T.g hmg
  exact law_callG KI G.T.g G.T.b G.T.builtins G.T.nolimit hg hobj hints (Nat.le_trans hlen hn2) room FF fun H hO hS => want H a ns hlen hO hS
end PR
namespace RM
/-- the greatest common divisor with the sign of the bottom -/
def sg (a b : Int) : Int := if b > 0 then (Int.gcd a b : Int) else -(Int.gcd a b : Int)
theorem sg_ne {a b : Int} (h : b ≠ 0) : sg a b ≠ 0 := by
  have := Int.gcd_pos_of_ne_zero_right a h
  unfold sg; split <;> omega
theorem fdiv_neg_of_dvd {a g : Int} (hg : 0 < g) (h : g ∣ a) : a.fdiv (-g) = (-a) / g := by
  obtain ⟨k, rfl⟩ := h
  have e1 : (g * k).fdiv (-g) = -k := by
    have : g * k = (-g) * (-k) := by rw [Int.neg_mul_neg]
    rw [this, Int.mul_fdiv_cancel_left _ (by omega)]
  rw [e1, show -(g * k) = g * (-k) by rw [Int.mul_neg], Int.mul_ediv_cancel_left _ (by omega)]
theorem num_eq {a b : Int} (h : b ≠ 0) : a.fdiv (sg a b) = (Rat.divInt a b).num := by
  have hg := Int.gcd_pos_of_ne_zero_right a h
  rw [Rat.num_divInt, Int.gcd_comm b a]
  unfold sg
  by_cases hb : b > 0
  · rw [if_pos hb, Int.sign_eq_one_of_pos hb, Int.one_mul, Int.fdiv_eq_ediv_of_nonneg _ (by omega)]
  · rw [if_neg hb, Int.sign_eq_neg_one_of_neg (by omega), Int.neg_mul, Int.one_mul]
    exact fdiv_neg_of_dvd (by omega) (Int.gcd_dvd_left ..)
theorem den_eq {a b : Int} (h : b ≠ 0) : b.fdiv (sg a b) = ((Rat.divInt a b).den : Int) := by
  have hg := Int.gcd_pos_of_ne_zero_right a h
  rw [Rat.den_divInt, if_neg h, Int.gcd_comm b a]
  unfold sg
  by_cases hb : b > 0
  · rw [if_pos hb, Int.fdiv_eq_ediv_of_nonneg _ (by omega)]
    have e : ((b.natAbs / a.gcd b : Nat) : Int) = (b.natAbs : Int) / ((a.gcd b : Nat) : Int) := Int.natCast_ediv ..
    rw [e]
    congr 1
    omega
  · rw [if_neg hb, fdiv_neg_of_dvd (by omega) (Int.gcd_dvd_right ..)]
    have e : ((b.natAbs / a.gcd b : Nat) : Int) = (b.natAbs : Int) / ((a.gcd b : Nat) : Int) := Int.natCast_ediv ..
    rw [e]
    congr 1
    omega
/-- one turn of Euclid's loop (Python's %) -/
theorem gcd_turn {a b : Int} (h : b ≠ 0) : Int.gcd b (a.fmod b) = Int.gcd a b := by
  have e : a.fmod b = a - b * a.fdiv b := by have := Int.mul_fdiv_add_fmod a b; omega
  rw [e, Int.gcd_comm a b]
  rw [Int.mul_comm]
  exact Int.gcd_sub_mul_right_right ..
theorem fmod_small {a b : Int} (h : b ≠ 0) : (a.fmod b).natAbs < b.natAbs := by
  rcases Int.lt_or_gt_of_ne h with hb | hb
  · have e1 : (-a).fmod (-b) = -(a.fmod b) := Int.neg_fmod_neg a b
    have h1 := Int.fmod_nonneg_of_pos (-a) (b := -b) (by omega)
    have h2 := Int.fmod_lt_of_pos (-a) (b := -b) (by omega)
    omega
  · have h1 := Int.fmod_nonneg_of_pos a hb
    have h2 := Int.fmod_lt_of_pos a hb
    omega
/-! ### sizes -/
def Lt (q : Rat) (n : Nat) : Prop := q.num.natAbs < 2 ^ n ∧ q.den < 2 ^ n
theorem Lt.mono {q : Rat} {n m : Nat} (h : Lt q n) (k : n ≤ m) : Lt q m :=
  ⟨Nat.lt_of_lt_of_le h.1 (Nat.pow_le_pow_right (by omega) k), Nat.lt_of_lt_of_le h.2 (Nat.pow_le_pow_right (by omega) k)⟩
theorem num_divInt_le (a b : Int) (h : b ≠ 0) : (Rat.divInt a b).num.natAbs ≤ a.natAbs := by
  rw [← num_eq h]
  have hs := sg_ne (a := a) h
  have hd : sg a b ∣ a := by
    unfold sg; split
    · exact Int.gcd_dvd_left ..
    · exact Int.neg_dvd.mpr (Int.gcd_dvd_left ..)
  obtain ⟨k, hk⟩ := hd
  have e : a.fdiv (sg a b) = k := by
    conv => lhs; arg 1; rw [hk]
    exact Int.mul_fdiv_cancel_left _ hs
  rw [e]
  have : a.natAbs = (sg a b).natAbs * k.natAbs := by conv => lhs; rw [hk]; rw [Int.natAbs_mul]
  rw [this]
  exact Nat.le_mul_of_pos_left _ (by omega)
theorem den_divInt_le (a b : Int) (h : b ≠ 0) : (Rat.divInt a b).den ≤ b.natAbs := by
  rw [Rat.den_divInt, if_neg h]
  exact Nat.div_le_self ..
theorem lt_divInt {a b : Int} {n : Nat} (h : b ≠ 0) (ha : a.natAbs < 2 ^ n) (hb : b.natAbs < 2 ^ n) : Lt (Rat.divInt a b) n :=
  ⟨Nat.lt_of_le_of_lt (num_divInt_le a b h) ha, Nat.lt_of_le_of_lt (den_divInt_le a b h) hb⟩
theorem den_ne (q : Rat) : (q.den : Int) ≠ 0 := by have := q.den_nz; omega
theorem add_eq (p q : Rat) : p + q = Rat.divInt (p.num * q.den + q.num * p.den) (p.den * q.den) := by
  conv => lhs; rw [← Rat.num_divInt_den p, ← Rat.num_divInt_den q]
  exact Rat.divInt_add_divInt _ _ (den_ne p) (den_ne q)
theorem sub_eq (p q : Rat) : p - q = Rat.divInt (p.num * q.den - q.num * p.den) (p.den * q.den) := by
  have e : p - q = p + -q := Rat.sub_eq_add_neg p q
  rw [e, add_eq]
  congr 1
  · show p.num * ((-q).den : Int) + (-q).num * p.den = _
    have h1 : (-q).den = q.den := rfl
    have h2 : (-q).num = -q.num := rfl
    rw [h1, h2, Int.neg_mul]
    omega
theorem mul_eq (p q : Rat) : p * q = Rat.divInt (p.num * q.num) (p.den * q.den) := by
  conv => lhs; rw [← Rat.num_divInt_den p, ← Rat.num_divInt_den q]
  exact Rat.divInt_mul_divInt ..
theorem neg_eq (p : Rat) : -p = Rat.divInt (-p.num) p.den := by
  conv => lhs; rw [← Rat.num_divInt_den p]
  exact Rat.neg_divInt ..
theorem div_eq (p q : Rat) : p / q = Rat.divInt (p.num * q.den) (p.den * q.num) := by
  rw [Rat.div_def, Rat.inv_def]
  conv => lhs; rw [← Rat.num_divInt_den p]
  exact Rat.divInt_mul_divInt ..
theorem num_zero_iff {q : Rat} : q.num = 0 ↔ q = 0 := Rat.num_eq_zero
theorem pow_mul_lt {i j : Int} {a b : Nat} (ha : i.natAbs < 2 ^ a) (hb : j.natAbs < 2 ^ b) : (i * j).natAbs < 2 ^ (a + b) := by
  rw [Int.natAbs_mul, Nat.pow_add]
  exact Nat.mul_lt_mul'' ha hb
theorem pow_add_lt {i j : Int} {a : Nat} (ha : i.natAbs < 2 ^ a) (hb : j.natAbs < 2 ^ a) : (i + j).natAbs < 2 ^ (a + 1) := by
  rw [Nat.pow_succ]; omega
theorem pow_sub_lt {i j : Int} {a : Nat} (ha : i.natAbs < 2 ^ a) (hb : j.natAbs < 2 ^ a) : (i - j).natAbs < 2 ^ (a + 1) := by
  rw [Nat.pow_succ]; omega
theorem den_lt {q : Rat} {n : Nat} (h : Lt q n) : ((q.den : Int)).natAbs < 2 ^ n := h.2
theorem pow_le {i : Int} {a b : Nat} (h : i.natAbs < 2 ^ a) (k : a ≤ b) : i.natAbs < 2 ^ b := Nat.lt_of_lt_of_le h (Nat.pow_le_pow_right (by omega) k)
theorem mul_den_ne (p q : Rat) : (p.den * q.den : Int) ≠ 0 := Int.mul_ne_zero (den_ne p) (den_ne q)
theorem lt_add {p q : Rat} {a b : Nat} (hp : Lt p a) (hq : Lt q b) : Lt (p + q) (a + b + 1) := by
  rw [add_eq]
  refine lt_divInt (mul_den_ne p q) (pow_add_lt (pow_mul_lt hp.1 (den_lt hq)) ?_) (pow_le (pow_mul_lt (den_lt hp) (den_lt hq)) (by omega))
  rw [Nat.add_comm a b]
  exact pow_mul_lt hq.1 (den_lt hp)
theorem lt_sub {p q : Rat} {a b : Nat} (hp : Lt p a) (hq : Lt q b) : Lt (p - q) (a + b + 1) := by
  rw [sub_eq]
  refine lt_divInt (mul_den_ne p q) (pow_sub_lt (pow_mul_lt hp.1 (den_lt hq)) ?_) (pow_le (pow_mul_lt (den_lt hp) (den_lt hq)) (by omega))
  rw [Nat.add_comm a b]
  exact pow_mul_lt hq.1 (den_lt hp)
theorem lt_mul {p q : Rat} {a b : Nat} (hp : Lt p a) (hq : Lt q b) : Lt (p * q) (a + b) := by
  rw [mul_eq]
  exact lt_divInt (mul_den_ne p q) (pow_mul_lt hp.1 hq.1) (pow_mul_lt (den_lt hp) (den_lt hq))
theorem lt_neg {p : Rat} {a : Nat} (hp : Lt p a) : Lt (-p) a := ⟨by show (-p.num).natAbs < _; rw [Int.natAbs_neg]; exact hp.1, hp.2⟩
theorem lt_div {p q : Rat} {a b : Nat} (hp : Lt p a) (hq : Lt q b) (h : q ≠ 0) : Lt (p / q) (a + b) := by
  rw [div_eq]
  have hn : q.num ≠ 0 := fun z => h (Rat.num_eq_zero.mp z)
  exact lt_divInt (Int.mul_ne_zero (den_ne p) hn) (pow_mul_lt hp.1 (den_lt hq)) (pow_mul_lt (den_lt hp) hq.1)
theorem lt_int {n : Int} {a : Nat} (h : n.natAbs < 2 ^ a) (h1 : 0 < a) : Lt (n : Rat) a := ⟨h, by
  show 1 < 2 ^ a
  exact Nat.one_lt_two_pow (by omega)⟩
theorem num_int (n : Int) : ((n : Rat)).num = n := rfl
theorem den_int (n : Int) : ((n : Rat)).den = 1 := rfl
theorem int_eq (n : Int) : (n : Rat) = Rat.divInt n 1 := by
  have h := Rat.num_divInt_den (n : Rat)
  exact h.symm
theorem lt_iff (p q : Rat) : p < q ↔ p.num * q.den < q.num * p.den := Rat.lt_iff p q
theorem le_iff (p q : Rat) : p ≤ q ↔ p.num * q.den ≤ q.num * p.den := Rat.le_iff p q
theorem eq_iff (p q : Rat) : p = q ↔ (p.num = q.num ∧ p.den = q.den) := ⟨fun h => by rw [h]; exact ⟨rfl, rfl⟩, fun h => Rat.ext h.1 h.2⟩
end RM
namespace LW
open PySem PySem.Spec PyProof.Rows L2
def top (i : Nat) : Stmt := PySem.Challenge.pw_paystreams_k02_ratios.main.body.getD i (.Pass ⟨0, 0, 0, 0⟩)
abbrev s_ByZero___init__ : Stmt := inClass (top 2) 0
abbrev s_BadNumber___init__ : Stmt := inClass (top 3) 0
abbrev s_BadText___init__ : Stmt := inClass (top 4) 0
abbrev s_is_integer : Stmt := top 6
abbrev s_divisor_of : Stmt := top 7
abbrev s_parts : Stmt := top 8
abbrev s_checked : Stmt := top 9
abbrev s_Ratio___init__ : Stmt := inClass (top 10) 0
abbrev s_Ratio_read : Stmt := inClass (top 10) 1
abbrev s_Ratio___add__ : Stmt := inClass (top 10) 2
abbrev s_Ratio___sub__ : Stmt := inClass (top 10) 3
abbrev s_Ratio___mul__ : Stmt := inClass (top 10) 4
abbrev s_Ratio___neg__ : Stmt := inClass (top 10) 5
abbrev s_Ratio___eq__ : Stmt := inClass (top 10) 6
abbrev s_Ratio___lt__ : Stmt := inClass (top 10) 7
abbrev s_Ratio___le__ : Stmt := inClass (top 10) 8
abbrev s_Ratio_over : Stmt := inClass (top 10) 9
abbrev s_Ratio_text : Stmt := inClass (top 10) 10
abbrev s_integer_of : Stmt := top 11
abbrev s_as_ratio : Stmt := top 12
abbrev s_lesser : Stmt := top 13
abbrev s_greater : Stmt := top 14
abbrev s_total : Stmt := top 15
abbrev s_raised : Stmt := top 16
abbrev s__law_cell : Stmt := top 18
abbrev s__law_box : Stmt := top 19
abbrev s__law_take : Stmt := top 20
abbrev s__law_frac : Stmt := top 21
abbrev s__law_plus : Stmt := top 22
abbrev s__law_times : Stmt := top 23
abbrev s__law_minus : Stmt := top 24
abbrev s__law_less : Stmt := top 25
abbrev s__law_pick : Stmt := top 26
abbrev s__law_is : Stmt := top 27
abbrev s__law_refused : Stmt := top 28
abbrev s__law_zero : Stmt := top 29
abbrev s__law_compared : Stmt := top 30
abbrev s__law_chosen : Stmt := top 31
abbrev s_law : Stmt := top 32
def d_ByZero___init__ : He5.DefA := ⟨fun K => He.ma K (He.ga K "ByZero") "__init__", "__init__", "ByZero.__init__", defArgs s_ByZero___init__, defBody s_ByZero___init__, defScope s_ByZero___init__, [], []⟩
def d_BadNumber___init__ : He5.DefA := ⟨fun K => He.ma K (He.ga K "BadNumber") "__init__", "__init__", "BadNumber.__init__", defArgs s_BadNumber___init__, defBody s_BadNumber___init__, defScope s_BadNumber___init__, [], []⟩
def d_BadText___init__ : He5.DefA := ⟨fun K => He.ma K (He.ga K "BadText") "__init__", "__init__", "BadText.__init__", defArgs s_BadText___init__, defBody s_BadText___init__, defScope s_BadText___init__, [], []⟩
def d_is_integer : He5.DefA := ⟨fun K => He.ga K "is_integer", "is_integer", "is_integer", defArgs s_is_integer, defBody s_is_integer, defScope s_is_integer, [], []⟩
def d_divisor_of : He5.DefA := ⟨fun K => He.ga K "divisor_of", "divisor_of", "divisor_of", defArgs s_divisor_of, defBody s_divisor_of, defScope s_divisor_of, [], []⟩
def d_parts : He5.DefA := ⟨fun K => He.ga K "parts", "parts", "parts", defArgs s_parts, defBody s_parts, defScope s_parts, [], []⟩
def d_checked : He5.DefA := ⟨fun K => He.ga K "checked", "checked", "checked", defArgs s_checked, defBody s_checked, defScope s_checked, [], []⟩
def d_Ratio___init__ : He5.DefA := ⟨fun K => He.ma K (He.ga K "Ratio") "__init__", "__init__", "Ratio.__init__", defArgs s_Ratio___init__, defBody s_Ratio___init__, defScope s_Ratio___init__, [.int 1], []⟩
def d_Ratio_read : He5.DefA := ⟨fun K => He5.wf K (He.ga K "Ratio") "classmethod" "read", "read", "Ratio.read", defArgs s_Ratio_read, defBody s_Ratio_read, defScope s_Ratio_read, [], []⟩
def d_Ratio___add__ : He5.DefA := ⟨fun K => He.ma K (He.ga K "Ratio") "__add__", "__add__", "Ratio.__add__", defArgs s_Ratio___add__, defBody s_Ratio___add__, defScope s_Ratio___add__, [], []⟩
def d_Ratio___sub__ : He5.DefA := ⟨fun K => He.ma K (He.ga K "Ratio") "__sub__", "__sub__", "Ratio.__sub__", defArgs s_Ratio___sub__, defBody s_Ratio___sub__, defScope s_Ratio___sub__, [], []⟩
def d_Ratio___mul__ : He5.DefA := ⟨fun K => He.ma K (He.ga K "Ratio") "__mul__", "__mul__", "Ratio.__mul__", defArgs s_Ratio___mul__, defBody s_Ratio___mul__, defScope s_Ratio___mul__, [], []⟩
def d_Ratio___neg__ : He5.DefA := ⟨fun K => He.ma K (He.ga K "Ratio") "__neg__", "__neg__", "Ratio.__neg__", defArgs s_Ratio___neg__, defBody s_Ratio___neg__, defScope s_Ratio___neg__, [], []⟩
def d_Ratio___eq__ : He5.DefA := ⟨fun K => He.ma K (He.ga K "Ratio") "__eq__", "__eq__", "Ratio.__eq__", defArgs s_Ratio___eq__, defBody s_Ratio___eq__, defScope s_Ratio___eq__, [], []⟩
def d_Ratio___lt__ : He5.DefA := ⟨fun K => He.ma K (He.ga K "Ratio") "__lt__", "__lt__", "Ratio.__lt__", defArgs s_Ratio___lt__, defBody s_Ratio___lt__, defScope s_Ratio___lt__, [], []⟩
def d_Ratio___le__ : He5.DefA := ⟨fun K => He.ma K (He.ga K "Ratio") "__le__", "__le__", "Ratio.__le__", defArgs s_Ratio___le__, defBody s_Ratio___le__, defScope s_Ratio___le__, [], []⟩
def d_Ratio_over : He5.DefA := ⟨fun K => He.ma K (He.ga K "Ratio") "over", "over", "Ratio.over", defArgs s_Ratio_over, defBody s_Ratio_over, defScope s_Ratio_over, [], []⟩
def d_Ratio_text : He5.DefA := ⟨fun K => He.ma K (He.ga K "Ratio") "text", "text", "Ratio.text", defArgs s_Ratio_text, defBody s_Ratio_text, defScope s_Ratio_text, [], []⟩
def d_integer_of : He5.DefA := ⟨fun K => He.ga K "integer_of", "integer_of", "integer_of", defArgs s_integer_of, defBody s_integer_of, defScope s_integer_of, [], []⟩
def d_as_ratio : He5.DefA := ⟨fun K => He.ga K "as_ratio", "as_ratio", "as_ratio", defArgs s_as_ratio, defBody s_as_ratio, defScope s_as_ratio, [], []⟩
def d_lesser : He5.DefA := ⟨fun K => He.ga K "lesser", "lesser", "lesser", defArgs s_lesser, defBody s_lesser, defScope s_lesser, [], []⟩
def d_greater : He5.DefA := ⟨fun K => He.ga K "greater", "greater", "greater", defArgs s_greater, defBody s_greater, defScope s_greater, [], []⟩
def d_total : He5.DefA := ⟨fun K => He.ga K "total", "total", "total", defArgs s_total, defBody s_total, defScope s_total, [], []⟩
def d_raised : He5.DefA := ⟨fun K => He.ga K "raised", "raised", "raised", defArgs s_raised, defBody s_raised, defScope s_raised, [], []⟩
def d__law_cell : He5.DefA := ⟨fun K => He.ga K "_law_cell", "_law_cell", "_law_cell", defArgs s__law_cell, defBody s__law_cell, defScope s__law_cell, [], []⟩
def d__law_box : He5.DefA := ⟨fun K => He.ga K "_law_box", "_law_box", "_law_box", defArgs s__law_box, defBody s__law_box, defScope s__law_box, [], []⟩
def d__law_take : He5.DefA := ⟨fun K => He.ga K "_law_take", "_law_take", "_law_take", defArgs s__law_take, defBody s__law_take, defScope s__law_take, [], []⟩
def d__law_frac : He5.DefA := ⟨fun K => He.ga K "_law_frac", "_law_frac", "_law_frac", defArgs s__law_frac, defBody s__law_frac, defScope s__law_frac, [], []⟩
def d__law_plus : He5.DefA := ⟨fun K => He.ga K "_law_plus", "_law_plus", "_law_plus", defArgs s__law_plus, defBody s__law_plus, defScope s__law_plus, [], []⟩
def d__law_times : He5.DefA := ⟨fun K => He.ga K "_law_times", "_law_times", "_law_times", defArgs s__law_times, defBody s__law_times, defScope s__law_times, [], []⟩
def d__law_minus : He5.DefA := ⟨fun K => He.ga K "_law_minus", "_law_minus", "_law_minus", defArgs s__law_minus, defBody s__law_minus, defScope s__law_minus, [], []⟩
def d__law_less : He5.DefA := ⟨fun K => He.ga K "_law_less", "_law_less", "_law_less", defArgs s__law_less, defBody s__law_less, defScope s__law_less, [], []⟩
def d__law_pick : He5.DefA := ⟨fun K => He.ga K "_law_pick", "_law_pick", "_law_pick", defArgs s__law_pick, defBody s__law_pick, defScope s__law_pick, [], []⟩
def d__law_is : He5.DefA := ⟨fun K => He.ga K "_law_is", "_law_is", "_law_is", defArgs s__law_is, defBody s__law_is, defScope s__law_is, [], []⟩
def d__law_refused : He5.DefA := ⟨fun K => He.ga K "_law_refused", "_law_refused", "_law_refused", defArgs s__law_refused, defBody s__law_refused, defScope s__law_refused, [], []⟩
def d__law_zero : He5.DefA := ⟨fun K => He.ga K "_law_zero", "_law_zero", "_law_zero", defArgs s__law_zero, defBody s__law_zero, defScope s__law_zero, [], []⟩
def d__law_compared : He5.DefA := ⟨fun K => He.ga K "_law_compared", "_law_compared", "_law_compared", defArgs s__law_compared, defBody s__law_compared, defScope s__law_compared, [], []⟩
def d__law_chosen : He5.DefA := ⟨fun K => He.ga K "_law_chosen", "_law_chosen", "_law_chosen", defArgs s__law_chosen, defBody s__law_chosen, defScope s__law_chosen, [], []⟩
def d_law : He5.DefA := ⟨fun K => He.ga K "law", "law", "law", defArgs s_law, defBody s_law, defScope s_law, [], []⟩
def fn : List He5.DefA := [d_ByZero___init__, d_BadNumber___init__, d_BadText___init__, d_is_integer, d_divisor_of, d_parts, d_checked, d_Ratio___init__, d_Ratio_read, d_Ratio___add__, d_Ratio___sub__, d_Ratio___mul__, d_Ratio___neg__, d_Ratio___eq__, d_Ratio___lt__, d_Ratio___le__, d_Ratio_over, d_Ratio_text, d_integer_of, d_as_ratio, d_lesser, d_greater, d_total, d_raised, d__law_cell, d__law_box, d__law_take, d__law_frac, d__law_plus, d__law_times, d__law_minus, d__law_less, d__law_pick, d__law_is, d__law_refused, d__law_zero, d__law_compared, d__law_chosen, d_law]
def nm0 : List PySem.Str := ["StreamError", "ByZero", "BadNumber", "BadText", "is_integer", "divisor_of", "parts", "checked", "Ratio", "integer_of", "as_ratio", "lesser", "greater", "total", "raised", "_law_cell", "_law_box", "_law_take", "_law_frac", "_law_plus", "_law_times", "_law_minus", "_law_less", "_law_pick", "_law_is", "_law_refused", "_law_zero", "_law_compared", "_law_chosen"]
def nms : List PySem.Str := nm0
def fa0 : List PH.Ck := [PH.ckGlo "StreamError", PH.ckGlo "ByZero", PH.ckGlo "BadNumber", PH.ckGlo "BadText", PH.ckGlo "is_integer", PH.ckGlo "divisor_of", PH.ckGlo "parts", PH.ckGlo "checked", PH.ckGlo "Ratio", PH.ckGlo "integer_of", PH.ckGlo "as_ratio", PH.ckGlo "lesser", PH.ckGlo "greater", PH.ckGlo "total", PH.ckGlo "raised", PH.ckGlo "_law_cell", PH.ckGlo "_law_box", PH.ckGlo "_law_take", PH.ckGlo "_law_frac", PH.ckGlo "_law_plus", PH.ckGlo "_law_times", PH.ckGlo "_law_minus", PH.ckGlo "_law_less", PH.ckGlo "_law_pick", PH.ckGlo "_law_is", PH.ckGlo "_law_refused", PH.ckGlo "_law_zero", PH.ckGlo "_law_compared", PH.ckGlo "_law_chosen", PH.ckGlo "law", PH.ckFree "abs", PH.ckFree "all", PH.ckFree "bool", PH.ckFree "int", PH.ckFree "isinstance", PH.ckFree "len", PH.ckFree "max", PH.ckFree "min", PH.ckFree "range", PH.ckFree "repr"]
def fa1 : List PH.Ck := [PH.ckFree "str", PH.ckOex "ByZero", PH.ckDef "ByZero" "__init__", PH.ckExm "ByZero" "ByZero" true, PH.ckOex "BadNumber", PH.ckDef "BadNumber" "__init__", PH.ckXf "BadNumber", PH.ckNoat "BadNumber" "given", PH.ckExm "BadNumber" "BadNumber" true, PH.ckOex "BadText", PH.ckDef "BadText" "__init__", PH.ckExm "BadText" "BadText" true, PH.ckExm "ByZero" "BadNumber" false, PH.ckExm "BadText" "BadNumber" false, PH.ckExm "BadNumber" "ByZero" false, PH.ckExm "BadText" "ByZero" false, PH.ckSin "StreamError", PH.ckCls "Ratio", PH.ckMkr "Ratio", PH.ckIsi "Ratio", PH.ckCm "Ratio" "read", PH.ckOwnB "Ratio" .Add "__add__", PH.ckOwnB "Ratio" .Sub "__sub__", PH.ckOwnB "Ratio" .Mult "__mul__", PH.ckDef "Ratio" "__neg__", PH.ckDef "Ratio" "__eq__", PH.ckNe "Ratio", PH.ckDef "Ratio" "__lt__", PH.ckDef "Ratio" "__le__", PH.ckMeth "Ratio" "over", PH.ckMeth "Ratio" "text", PH.ckNoat "Ratio" "top", PH.ckNoat "Ratio" "bottom", PH.ckKitO "Ratio" "Ratio" true, PH.ckKitT "Ratio" "int" false, PH.ckKitB "int" "Ratio" false, PH.ckNf "Ratio" "int", PH.ckKitT "Ratio" "bool" false, PH.ckKitB "bool" "Ratio" false, PH.ckNf "Ratio" "bool"]
def fa2 : List PH.Ck := [PH.ckKitT "Ratio" "str" false, PH.ckKitB "str" "Ratio" false, PH.ckNf "Ratio" "str", PH.ckKitB "NoneType" "Ratio" false, PH.ckNf "Ratio" "NoneType", PH.ckKitT "Ratio" "list" false, PH.ckKitB "list" "Ratio" false, PH.ckNf "Ratio" "list", PH.ckKitT "Ratio" "tuple" false, PH.ckKitB "tuple" "Ratio" false, PH.ckNf "Ratio" "tuple", PH.ckKitT "Ratio" "dict" false, PH.ckKitB "dict" "Ratio" false, PH.ckNf "Ratio" "dict"]
def fa : List PH.Ck := fa0 ++ fa1 ++ fa2
structure Tx (K : PySem.W.Frag) (mg : Str → Option Value) : Prop where
  g_StreamError : mg "StreamError" = some (.ref (He.ga K "StreamError"))
  g_ByZero : mg "ByZero" = some (.ref (He.ga K "ByZero"))
  g_BadNumber : mg "BadNumber" = some (.ref (He.ga K "BadNumber"))
  g_BadText : mg "BadText" = some (.ref (He.ga K "BadText"))
  g_is_integer : mg "is_integer" = some (.ref (He.ga K "is_integer"))
  g_divisor_of : mg "divisor_of" = some (.ref (He.ga K "divisor_of"))
  g_parts : mg "parts" = some (.ref (He.ga K "parts"))
  g_checked : mg "checked" = some (.ref (He.ga K "checked"))
  g_Ratio : mg "Ratio" = some (.ref (He.ga K "Ratio"))
  g_integer_of : mg "integer_of" = some (.ref (He.ga K "integer_of"))
  g_as_ratio : mg "as_ratio" = some (.ref (He.ga K "as_ratio"))
  g_lesser : mg "lesser" = some (.ref (He.ga K "lesser"))
  g_greater : mg "greater" = some (.ref (He.ga K "greater"))
  g_total : mg "total" = some (.ref (He.ga K "total"))
  g_raised : mg "raised" = some (.ref (He.ga K "raised"))
  g__law_cell : mg "_law_cell" = some (.ref (He.ga K "_law_cell"))
  g__law_box : mg "_law_box" = some (.ref (He.ga K "_law_box"))
  g__law_take : mg "_law_take" = some (.ref (He.ga K "_law_take"))
  g__law_frac : mg "_law_frac" = some (.ref (He.ga K "_law_frac"))
  g__law_plus : mg "_law_plus" = some (.ref (He.ga K "_law_plus"))
  g__law_times : mg "_law_times" = some (.ref (He.ga K "_law_times"))
  g__law_minus : mg "_law_minus" = some (.ref (He.ga K "_law_minus"))
  g__law_less : mg "_law_less" = some (.ref (He.ga K "_law_less"))
  g__law_pick : mg "_law_pick" = some (.ref (He.ga K "_law_pick"))
  g__law_is : mg "_law_is" = some (.ref (He.ga K "_law_is"))
  g__law_refused : mg "_law_refused" = some (.ref (He.ga K "_law_refused"))
  g__law_zero : mg "_law_zero" = some (.ref (He.ga K "_law_zero"))
  g__law_compared : mg "_law_compared" = some (.ref (He.ga K "_law_compared"))
  g__law_chosen : mg "_law_chosen" = some (.ref (He.ga K "_law_chosen"))
  g_law : mg "law" = some (.ref (He.ga K "law"))
  b_abs : mg "abs" = none
  b_all : mg "all" = none
  b_bool : mg "bool" = none
  b_int : mg "int" = none
  b_isinstance : mg "isinstance" = none
  b_len : mg "len" = none
  b_max : mg "max" = none
  b_min : mg "min" = none
  b_range : mg "range" = none
  b_repr : mg "repr" = none
  b_str : mg "str" = none
  x_ByZero : OexC K (He.ga K "ByZero")
  xi_ByZero : PH.Df K (He.ga K "ByZero") "__init__"
  xm_ByZero : PySem.W.exmOne K (.ref (He.ga K "ByZero")) (.ref (He.ga K "ByZero")) = some true
  x_BadNumber : OexC K (He.ga K "BadNumber")
  xi_BadNumber : PH.Df K (He.ga K "BadNumber") "__init__"
  xf_BadNumber : XfC K (He.ga K "BadNumber")
  xn_BadNumber : PySem.W.findIn K (.ref (He.ga K "BadNumber")) "given" = some none
  xm_BadNumber : PySem.W.exmOne K (.ref (He.ga K "BadNumber")) (.ref (He.ga K "BadNumber")) = some true
  x_BadText : OexC K (He.ga K "BadText")
  xi_BadText : PH.Df K (He.ga K "BadText") "__init__"
  xm_BadText : PySem.W.exmOne K (.ref (He.ga K "BadText")) (.ref (He.ga K "BadText")) = some true
  xm_ByZero_BadNumber : PySem.W.exmOne K (.ref (He.ga K "ByZero")) (.ref (He.ga K "BadNumber")) = some false
  xm_BadText_BadNumber : PySem.W.exmOne K (.ref (He.ga K "BadText")) (.ref (He.ga K "BadNumber")) = some false
  xm_BadNumber_ByZero : PySem.W.exmOne K (.ref (He.ga K "BadNumber")) (.ref (He.ga K "ByZero")) = some false
  xm_BadText_ByZero : PySem.W.exmOne K (.ref (He.ga K "BadText")) (.ref (He.ga K "ByZero")) = some false
  sin : ClX.CRead K (He.ga K "StreamError") (.type "type") ∧ PySem.W.findCls K (.ref (He.ga K "StreamError")) (.type "type") "__init__" = some (.val (.builtin "ValueError.__init__"))
  c_Ratio : Cls K (He.ga K "Ratio")
  mk_Ratio : Mk K (He.ga K "Ratio") (He.ma K (He.ga K "Ratio") "__init__")
  isi_Ratio : PH.Isi K (He.ga K "Ratio")
  cm_Ratio_read : ClX.CRead K (He.ga K "Ratio") (.type "type") ∧ ClX.CMet K (He.ga K "Ratio") (.type "type") "read" (He.ma K (He.ga K "Ratio") "read") (He5.wf K (He.ga K "Ratio") "classmethod" "read")
  o_Ratio_add : PR.OwnB K (He.ga K "Ratio") (He.ma K (He.ga K "Ratio") "__add__") .Add
  o_Ratio_sub : PR.OwnB K (He.ga K "Ratio") (He.ma K (He.ga K "Ratio") "__sub__") .Sub
  o_Ratio_mul : PR.OwnB K (He.ga K "Ratio") (He.ma K (He.ga K "Ratio") "__mul__") .Mult
  d_Ratio_neg : PH.Df K (He.ga K "Ratio") "__neg__"
  d_Ratio_eq : PH.Df K (He.ga K "Ratio") "__eq__"
  ne_Ratio : PySem.W.findIn K (.ref (He.ga K "Ratio")) "__ne__" = some (some (.builtin "object.__ne__"))
  d_Ratio_lt : PH.Df K (He.ga K "Ratio") "__lt__"
  d_Ratio_le : PH.Df K (He.ga K "Ratio") "__le__"
  m_Ratio_over : Meth K (He.ga K "Ratio") "over" (He.ma K (He.ga K "Ratio") "over")
  m_Ratio_text : Meth K (He.ga K "Ratio") "text" (He.ma K (He.ga K "Ratio") "text")
  n_Ratio_top : NoAttr K (He.ga K "Ratio") "top"
  n_Ratio_bottom : NoAttr K (He.ga K "Ratio") "bottom"
  k_Ratio_Ratio : PySem.W.kitOne K (.ref (He.ga K "Ratio")) (.ref (He.ga K "Ratio")) = some true
  kt_Ratio_int : PySem.W.kitOne K (.ref (He.ga K "Ratio")) (.type "int") = some false
  kb_int_Ratio : PySem.W.kitOne K (.type "int") (.ref (He.ga K "Ratio")) = some false
  nf_Ratio_int : PySem.W.notFirst K (He.ga K "Ratio") (.type "int") = true
  kt_Ratio_bool : PySem.W.kitOne K (.ref (He.ga K "Ratio")) (.type "bool") = some false
  kb_bool_Ratio : PySem.W.kitOne K (.type "bool") (.ref (He.ga K "Ratio")) = some false
  nf_Ratio_bool : PySem.W.notFirst K (He.ga K "Ratio") (.type "bool") = true
  kt_Ratio_str : PySem.W.kitOne K (.ref (He.ga K "Ratio")) (.type "str") = some false
  kb_str_Ratio : PySem.W.kitOne K (.type "str") (.ref (He.ga K "Ratio")) = some false
  nf_Ratio_str : PySem.W.notFirst K (He.ga K "Ratio") (.type "str") = true
  kb_NoneType_Ratio : PySem.W.kitOne K (.type "NoneType") (.ref (He.ga K "Ratio")) = some false
  nf_Ratio_NoneType : PySem.W.notFirst K (He.ga K "Ratio") (.type "NoneType") = true
  kt_Ratio_list : PySem.W.kitOne K (.ref (He.ga K "Ratio")) (.type "list") = some false
  kb_list_Ratio : PySem.W.kitOne K (.type "list") (.ref (He.ga K "Ratio")) = some false
  nf_Ratio_list : PySem.W.notFirst K (He.ga K "Ratio") (.type "list") = true
  kt_Ratio_tuple : PySem.W.kitOne K (.ref (He.ga K "Ratio")) (.type "tuple") = some false
  kb_tuple_Ratio : PySem.W.kitOne K (.type "tuple") (.ref (He.ga K "Ratio")) = some false
  nf_Ratio_tuple : PySem.W.notFirst K (He.ga K "Ratio") (.type "tuple") = true
  kt_Ratio_dict : PySem.W.kitOne K (.ref (He.ga K "Ratio")) (.type "dict") = some false
  kb_dict_Ratio : PySem.W.kitOne K (.type "dict") (.ref (He.ga K "Ratio")) = some false
  nf_Ratio_dict : PySem.W.notFirst K (He.ga K "Ratio") (.type "dict") = true
  f_ByZero___init__ : ∃ fd, FunD K "__init__" "ByZero.__init__" (defArgs s_ByZero___init__) (defBody s_ByZero___init__) (defScope s_ByZero___init__) (d_ByZero___init__.dvs K) [] (d_ByZero___init__.at_ K) fd
  f_BadNumber___init__ : ∃ fd, FunD K "__init__" "BadNumber.__init__" (defArgs s_BadNumber___init__) (defBody s_BadNumber___init__) (defScope s_BadNumber___init__) (d_BadNumber___init__.dvs K) [] (d_BadNumber___init__.at_ K) fd
  f_BadText___init__ : ∃ fd, FunD K "__init__" "BadText.__init__" (defArgs s_BadText___init__) (defBody s_BadText___init__) (defScope s_BadText___init__) (d_BadText___init__.dvs K) [] (d_BadText___init__.at_ K) fd
  f_is_integer : ∃ fd, FunD K "is_integer" "is_integer" (defArgs s_is_integer) (defBody s_is_integer) (defScope s_is_integer) (d_is_integer.dvs K) [] (d_is_integer.at_ K) fd
  f_divisor_of : ∃ fd, FunD K "divisor_of" "divisor_of" (defArgs s_divisor_of) (defBody s_divisor_of) (defScope s_divisor_of) (d_divisor_of.dvs K) [] (d_divisor_of.at_ K) fd
  f_parts : ∃ fd, FunD K "parts" "parts" (defArgs s_parts) (defBody s_parts) (defScope s_parts) (d_parts.dvs K) [] (d_parts.at_ K) fd
  f_checked : ∃ fd, FunD K "checked" "checked" (defArgs s_checked) (defBody s_checked) (defScope s_checked) (d_checked.dvs K) [] (d_checked.at_ K) fd
  f_Ratio___init__ : ∃ fd, FunD K "__init__" "Ratio.__init__" (defArgs s_Ratio___init__) (defBody s_Ratio___init__) (defScope s_Ratio___init__) (d_Ratio___init__.dvs K) [] (d_Ratio___init__.at_ K) fd
  f_Ratio_read : ∃ fd, FunD K "read" "Ratio.read" (defArgs s_Ratio_read) (defBody s_Ratio_read) (defScope s_Ratio_read) (d_Ratio_read.dvs K) [] (d_Ratio_read.at_ K) fd
  f_Ratio___add__ : ∃ fd, FunD K "__add__" "Ratio.__add__" (defArgs s_Ratio___add__) (defBody s_Ratio___add__) (defScope s_Ratio___add__) (d_Ratio___add__.dvs K) [] (d_Ratio___add__.at_ K) fd
  f_Ratio___sub__ : ∃ fd, FunD K "__sub__" "Ratio.__sub__" (defArgs s_Ratio___sub__) (defBody s_Ratio___sub__) (defScope s_Ratio___sub__) (d_Ratio___sub__.dvs K) [] (d_Ratio___sub__.at_ K) fd
  f_Ratio___mul__ : ∃ fd, FunD K "__mul__" "Ratio.__mul__" (defArgs s_Ratio___mul__) (defBody s_Ratio___mul__) (defScope s_Ratio___mul__) (d_Ratio___mul__.dvs K) [] (d_Ratio___mul__.at_ K) fd
  f_Ratio___neg__ : ∃ fd, FunD K "__neg__" "Ratio.__neg__" (defArgs s_Ratio___neg__) (defBody s_Ratio___neg__) (defScope s_Ratio___neg__) (d_Ratio___neg__.dvs K) [] (d_Ratio___neg__.at_ K) fd
  f_Ratio___eq__ : ∃ fd, FunD K "__eq__" "Ratio.__eq__" (defArgs s_Ratio___eq__) (defBody s_Ratio___eq__) (defScope s_Ratio___eq__) (d_Ratio___eq__.dvs K) [] (d_Ratio___eq__.at_ K) fd
  f_Ratio___lt__ : ∃ fd, FunD K "__lt__" "Ratio.__lt__" (defArgs s_Ratio___lt__) (defBody s_Ratio___lt__) (defScope s_Ratio___lt__) (d_Ratio___lt__.dvs K) [] (d_Ratio___lt__.at_ K) fd
  f_Ratio___le__ : ∃ fd, FunD K "__le__" "Ratio.__le__" (defArgs s_Ratio___le__) (defBody s_Ratio___le__) (defScope s_Ratio___le__) (d_Ratio___le__.dvs K) [] (d_Ratio___le__.at_ K) fd
  f_Ratio_over : ∃ fd, FunD K "over" "Ratio.over" (defArgs s_Ratio_over) (defBody s_Ratio_over) (defScope s_Ratio_over) (d_Ratio_over.dvs K) [] (d_Ratio_over.at_ K) fd
  f_Ratio_text : ∃ fd, FunD K "text" "Ratio.text" (defArgs s_Ratio_text) (defBody s_Ratio_text) (defScope s_Ratio_text) (d_Ratio_text.dvs K) [] (d_Ratio_text.at_ K) fd
  f_integer_of : ∃ fd, FunD K "integer_of" "integer_of" (defArgs s_integer_of) (defBody s_integer_of) (defScope s_integer_of) (d_integer_of.dvs K) [] (d_integer_of.at_ K) fd
  f_as_ratio : ∃ fd, FunD K "as_ratio" "as_ratio" (defArgs s_as_ratio) (defBody s_as_ratio) (defScope s_as_ratio) (d_as_ratio.dvs K) [] (d_as_ratio.at_ K) fd
  f_lesser : ∃ fd, FunD K "lesser" "lesser" (defArgs s_lesser) (defBody s_lesser) (defScope s_lesser) (d_lesser.dvs K) [] (d_lesser.at_ K) fd
  f_greater : ∃ fd, FunD K "greater" "greater" (defArgs s_greater) (defBody s_greater) (defScope s_greater) (d_greater.dvs K) [] (d_greater.at_ K) fd
  f_total : ∃ fd, FunD K "total" "total" (defArgs s_total) (defBody s_total) (defScope s_total) (d_total.dvs K) [] (d_total.at_ K) fd
  f_raised : ∃ fd, FunD K "raised" "raised" (defArgs s_raised) (defBody s_raised) (defScope s_raised) (d_raised.dvs K) [] (d_raised.at_ K) fd
  f__law_cell : ∃ fd, FunD K "_law_cell" "_law_cell" (defArgs s__law_cell) (defBody s__law_cell) (defScope s__law_cell) (d__law_cell.dvs K) [] (d__law_cell.at_ K) fd
  f__law_box : ∃ fd, FunD K "_law_box" "_law_box" (defArgs s__law_box) (defBody s__law_box) (defScope s__law_box) (d__law_box.dvs K) [] (d__law_box.at_ K) fd
  f__law_take : ∃ fd, FunD K "_law_take" "_law_take" (defArgs s__law_take) (defBody s__law_take) (defScope s__law_take) (d__law_take.dvs K) [] (d__law_take.at_ K) fd
  f__law_frac : ∃ fd, FunD K "_law_frac" "_law_frac" (defArgs s__law_frac) (defBody s__law_frac) (defScope s__law_frac) (d__law_frac.dvs K) [] (d__law_frac.at_ K) fd
  f__law_plus : ∃ fd, FunD K "_law_plus" "_law_plus" (defArgs s__law_plus) (defBody s__law_plus) (defScope s__law_plus) (d__law_plus.dvs K) [] (d__law_plus.at_ K) fd
  f__law_times : ∃ fd, FunD K "_law_times" "_law_times" (defArgs s__law_times) (defBody s__law_times) (defScope s__law_times) (d__law_times.dvs K) [] (d__law_times.at_ K) fd
  f__law_minus : ∃ fd, FunD K "_law_minus" "_law_minus" (defArgs s__law_minus) (defBody s__law_minus) (defScope s__law_minus) (d__law_minus.dvs K) [] (d__law_minus.at_ K) fd
  f__law_less : ∃ fd, FunD K "_law_less" "_law_less" (defArgs s__law_less) (defBody s__law_less) (defScope s__law_less) (d__law_less.dvs K) [] (d__law_less.at_ K) fd
  f__law_pick : ∃ fd, FunD K "_law_pick" "_law_pick" (defArgs s__law_pick) (defBody s__law_pick) (defScope s__law_pick) (d__law_pick.dvs K) [] (d__law_pick.at_ K) fd
  f__law_is : ∃ fd, FunD K "_law_is" "_law_is" (defArgs s__law_is) (defBody s__law_is) (defScope s__law_is) (d__law_is.dvs K) [] (d__law_is.at_ K) fd
  f__law_refused : ∃ fd, FunD K "_law_refused" "_law_refused" (defArgs s__law_refused) (defBody s__law_refused) (defScope s__law_refused) (d__law_refused.dvs K) [] (d__law_refused.at_ K) fd
  f__law_zero : ∃ fd, FunD K "_law_zero" "_law_zero" (defArgs s__law_zero) (defBody s__law_zero) (defScope s__law_zero) (d__law_zero.dvs K) [] (d__law_zero.at_ K) fd
  f__law_compared : ∃ fd, FunD K "_law_compared" "_law_compared" (defArgs s__law_compared) (defBody s__law_compared) (defScope s__law_compared) (d__law_compared.dvs K) [] (d__law_compared.at_ K) fd
  f__law_chosen : ∃ fd, FunD K "_law_chosen" "_law_chosen" (defArgs s__law_chosen) (defBody s__law_chosen) (defScope s__law_chosen) (d__law_chosen.dvs K) [] (d__law_chosen.at_ K) fd
  f_law : ∃ fd, FunD K "law" "law" (defArgs s_law) (defBody s_law) (defScope s_law) (d_law.dvs K) [] (d_law.at_ K) fd
theorem tx_of {K : PySem.W.Frag} {h : Heap} {mg : Str → Option Value} (X : K.In h) (G : h.Ns mainGlobals mg) (c : PH.SaysP fa fn K) : Tx K mg where
  g_StreamError := He.glo_ok X G (c.fact 0)
  g_ByZero := He.glo_ok X G (c.fact 1)
  g_BadNumber := He.glo_ok X G (c.fact 2)
  g_BadText := He.glo_ok X G (c.fact 3)
  g_is_integer := He.glo_ok X G (c.fact 4)
  g_divisor_of := He.glo_ok X G (c.fact 5)
  g_parts := He.glo_ok X G (c.fact 6)
  g_checked := He.glo_ok X G (c.fact 7)
  g_Ratio := He.glo_ok X G (c.fact 8)
  g_integer_of := He.glo_ok X G (c.fact 9)
  g_as_ratio := He.glo_ok X G (c.fact 10)
  g_lesser := He.glo_ok X G (c.fact 11)
  g_greater := He.glo_ok X G (c.fact 12)
  g_total := He.glo_ok X G (c.fact 13)
  g_raised := He.glo_ok X G (c.fact 14)
  g__law_cell := He.glo_ok X G (c.fact 15)
  g__law_box := He.glo_ok X G (c.fact 16)
  g__law_take := He.glo_ok X G (c.fact 17)
  g__law_frac := He.glo_ok X G (c.fact 18)
  g__law_plus := He.glo_ok X G (c.fact 19)
  g__law_times := He.glo_ok X G (c.fact 20)
  g__law_minus := He.glo_ok X G (c.fact 21)
  g__law_less := He.glo_ok X G (c.fact 22)
  g__law_pick := He.glo_ok X G (c.fact 23)
  g__law_is := He.glo_ok X G (c.fact 24)
  g__law_refused := He.glo_ok X G (c.fact 25)
  g__law_zero := He.glo_ok X G (c.fact 26)
  g__law_compared := He.glo_ok X G (c.fact 27)
  g__law_chosen := He.glo_ok X G (c.fact 28)
  g_law := He.glo_ok X G (c.fact 29)
  b_abs := He.free_ok X G (c.fact 30)
  b_all := He.free_ok X G (c.fact 31)
  b_bool := He.free_ok X G (c.fact 32)
  b_int := He.free_ok X G (c.fact 33)
  b_isinstance := He.free_ok X G (c.fact 34)
  b_len := He.free_ok X G (c.fact 35)
  b_max := He.free_ok X G (c.fact 36)
  b_min := He.free_ok X G (c.fact 37)
  b_range := He.free_ok X G (c.fact 38)
  b_repr := He.free_ok X G (c.fact 39)
  b_str := He.free_ok X G (c.fact 40)
  x_ByZero := PH.oex_ok (c.fact 41)
  xi_ByZero := PH.def_ok (c.fact 42)
  xm_ByZero := He.exm_ok (c.fact 43)
  x_BadNumber := PH.oex_ok (c.fact 44)
  xi_BadNumber := PH.def_ok (c.fact 45)
  xf_BadNumber := PH.xf_ok (c.fact 46)
  xn_BadNumber := He.noat_ok (c.fact 47)
  xm_BadNumber := He.exm_ok (c.fact 48)
  x_BadText := PH.oex_ok (c.fact 49)
  xi_BadText := PH.def_ok (c.fact 50)
  xm_BadText := He.exm_ok (c.fact 51)
  xm_ByZero_BadNumber := He.exm_ok (c.fact 52)
  xm_BadText_BadNumber := He.exm_ok (c.fact 53)
  xm_BadNumber_ByZero := He.exm_ok (c.fact 54)
  xm_BadText_ByZero := He.exm_ok (c.fact 55)
  sin := PH.sin_ok (c.fact 56)
  c_Ratio := He.cls_ok (c.fact 57)
  mk_Ratio := He.mkr_ok (c.fact 58)
  isi_Ratio := PH.isi_ok (c.fact 59)
  cm_Ratio_read := PH.cm_ok (c.fact 60)
  o_Ratio_add := PH.ownB_ok (c.fact 61)
  o_Ratio_sub := PH.ownB_ok (c.fact 62)
  o_Ratio_mul := PH.ownB_ok (c.fact 63)
  d_Ratio_neg := PH.def_ok (c.fact 64)
  d_Ratio_eq := PH.def_ok (c.fact 65)
  ne_Ratio := PH.ne_ok (c.fact 66)
  d_Ratio_lt := PH.def_ok (c.fact 67)
  d_Ratio_le := PH.def_ok (c.fact 68)
  m_Ratio_over := He.meth_ok (c.fact 69)
  m_Ratio_text := He.meth_ok (c.fact 70)
  n_Ratio_top := He.noat_ok (c.fact 71)
  n_Ratio_bottom := He.noat_ok (c.fact 72)
  k_Ratio_Ratio := PH.kitO_ok (c.fact 73)
  kt_Ratio_int := PH.kitT_ok (c.fact 74)
  kb_int_Ratio := PH.kitB_ok (c.fact 75)
  nf_Ratio_int := PH.nf_ok (c.fact 76)
  kt_Ratio_bool := PH.kitT_ok (c.fact 77)
  kb_bool_Ratio := PH.kitB_ok (c.fact 78)
  nf_Ratio_bool := PH.nf_ok (c.fact 79)
  kt_Ratio_str := PH.kitT_ok (c.fact 80)
  kb_str_Ratio := PH.kitB_ok (c.fact 81)
  nf_Ratio_str := PH.nf_ok (c.fact 82)
  kb_NoneType_Ratio := PH.kitB_ok (c.fact 83)
  nf_Ratio_NoneType := PH.nf_ok (c.fact 84)
  kt_Ratio_list := PH.kitT_ok (c.fact 85)
  kb_list_Ratio := PH.kitB_ok (c.fact 86)
  nf_Ratio_list := PH.nf_ok (c.fact 87)
  kt_Ratio_tuple := PH.kitT_ok (c.fact 88)
  kb_tuple_Ratio := PH.kitB_ok (c.fact 89)
  nf_Ratio_tuple := PH.nf_ok (c.fact 90)
  kt_Ratio_dict := PH.kitT_ok (c.fact 91)
  kb_dict_Ratio := PH.kitB_ok (c.fact 92)
  nf_Ratio_dict := PH.nf_ok (c.fact 93)
  f_ByZero___init__ := c.def_ 0
  f_BadNumber___init__ := c.def_ 1
  f_BadText___init__ := c.def_ 2
  f_is_integer := c.def_ 3
  f_divisor_of := c.def_ 4
  f_parts := c.def_ 5
  f_checked := c.def_ 6
  f_Ratio___init__ := c.def_ 7
  f_Ratio_read := c.def_ 8
  f_Ratio___add__ := c.def_ 9
  f_Ratio___sub__ := c.def_ 10
  f_Ratio___mul__ := c.def_ 11
  f_Ratio___neg__ := c.def_ 12
  f_Ratio___eq__ := c.def_ 13
  f_Ratio___lt__ := c.def_ 14
  f_Ratio___le__ := c.def_ 15
  f_Ratio_over := c.def_ 16
  f_Ratio_text := c.def_ 17
  f_integer_of := c.def_ 18
  f_as_ratio := c.def_ 19
  f_lesser := c.def_ 20
  f_greater := c.def_ 21
  f_total := c.def_ 22
  f_raised := c.def_ 23
  f__law_cell := c.def_ 24
  f__law_box := c.def_ 25
  f__law_take := c.def_ 26
  f__law_frac := c.def_ 27
  f__law_plus := c.def_ 28
  f__law_times := c.def_ 29
  f__law_minus := c.def_ 30
  f__law_less := c.def_ 31
  f__law_pick := c.def_ 32
  f__law_is := c.def_ 33
  f__law_refused := c.def_ 34
  f__law_zero := c.def_ 35
  f__law_compared := c.def_ 36
  f__law_chosen := c.def_ 37
  f_law := c.def_ 38
end LW
namespace LW
open PySem PySem.Spec PyProof.Rows L2 PR
/-! ### a def of the text, by what its body must do -/
section
variable {P : Program} {w : World} {K : PySem.W.Frag} {mg : Str → Option Value} {base : Heap}
theorem fnr {x q : Str} {st : Stmt} {f : Addr} {N ps : List Str} {k : Nat} {sp : Sp} (D : ∃ fd, FunD K x q (defArgs st) (defBody st) (defScope st) [] [] f fd) (S : FnScope N ps (defScope st)) (len : ∀ vs H Q E, sp vs H Q E → vs.length = ps.length)
    (hb : ∀ (kV doc pm : Value) (an : Option Addr) (cdv ct : Value) (us : List Value), us.length = ps.length → bindArgs (PySem.W.fnOf x q (defArgs st) (defBody st) (defScope st) .none kV doc pm an cdv ct) ⟨us, []⟩ = pure (ps.zip us))
    (body : ∀ (cdv : Value) (A : Around) (outer : List Env) (s : Shared) (H : Hp) (vs : List V) (Q : VK) (E : XK), Room k (A.deeper (envOfC q (defScope st) s.heap.objs.size f cdv)) → sp vs H Q E →
      Wb (cxOf (L2.CX P w) P w K mg base N q (defScope st) f cdv A outer s H E) (defBody st) { nx := fun _ H' => Q .non H', rt := Q } (start N vs) H) : FnR P w K mg base (L2.CX P w) (k + 1) f sp := by
  obtain ⟨fd, F⟩ := D
  have F1 : FnOk P w K mg base (L2.CX P w) (k + 1) f fd ps sp := F.ok S len fun cdv A outer s H vs Q E hr h => ⟨_, pbW, body cdv A outer s H vs Q E hr h⟩
  have F2 := F1.raw (F.bindsN hb) .nil
  exact F2.imp fun vs H Q E h => by rw [List.append_nil]; exact h
end
theorem kept {K : PySem.W.Frag} {x q : Str} {ar : Arguments} {bd : List Stmt} {sc : Scope} {dv : List V} {kw : List (Str × V)} {f : Addr} (D : ∃ fd, FunD K x q ar bd sc dv kw f fd) : PySem.W.keepIn K (.ref f) = true := by
  obtain ⟨fd, F⟩ := D
  exact F.kp
theorem upd_back {H : Hp} {a : Addr} {o : HO} (h : H a = none) : del (upd H a o) a = H := by
  funext b
  by_cases e : b = a
  · rw [e, del_same, h]
  · rw [del_ne e, upd_ne e]
/-! ### errors -/
/-- an error without a value -/
def spErr0 (C : Addr) : Sp := fun vs H Q _ => ∃ a, vs = [.ref a] ∧ H a = some (exo a C none) ∧ Q .non H
/-- an error with one value, kept under f -/
def spErr1 (C : Addr) (f : Str) : Sp := fun vs H Q _ => ∃ a g, vs = [.ref a, g] ∧ H a = some (exo a C none) ∧ ∀ dx, H dx = none → dx ≠ a → Q .non (upd (upd H dx (exd dx [(f, g)])) a (exo a C (some dx)))
end LW
namespace LW
open PySem PySem.Spec PyProof.Rows L2 PR
section
variable {P : Program} {w : World} {K : PySem.W.Frag} {mg : Str → Option Value} {base : Heap}
theorem sc_ByZero : FnScope ["self"] ["self"] (defScope s_ByZero___init__) := ⟨rfl, rfl, rfl, by decide +kernel, rfl, by decide +kernel, by decide +kernel⟩
theorem fn_ByZero (T : Tx K mg) : FnR P w K mg base (L2.CX P w) 1 (He.ma K (He.ga K "ByZero") "__init__") (spErr0 (He.ga K "ByZero")) := by
  refine fnr T.f_ByZero___init__ sc_ByZero (fun vs H Q E h => ?_) (fun _ _ _ _ _ _ us hl => match us, hl with | [_], _ => rfl) fun cdv A outer s H vs Q E hr h => ?_
  · obtain ⟨a, rfl, _⟩ := h
    rfl
  · obtain ⟨a, rfl, ha, k⟩ := h
    refine s_one (s_expr (we_of (pe_sinit rfl T.g_StreamError T.sin.1 T.sin.2 paW) ?_))
    exact a_cons (w_var 0 rfl (a_cons (w_str (a_nil ⟨a, _, _, rfl, by show 1 ≤ 1000; decide, T.x_ByZero, ha, k⟩))))
theorem mk_ByZero {X : Cx} {p pos : Pos} (T : Tx X.K X.mg) (hr : Room 2 X.A) (hg : Gl X "ByZero" := by rfl) :
    PMk X (.Call (.Name "ByZero" p) [] [] pos) (fun _ H Q => Q (.ref (He.ga X.K "ByZero")) none H) := by
  intro pins s σ H Q I h
  obtain ⟨fd, F⟩ := T.f_ByZero___init__
  have F1 : FnOk X.prog X.w X.K X.mg X.base (L2.CX X.prog X.w) 1 (He.ma X.K (He.ga X.K "ByZero") "__init__") fd ["self"] (spErr0 (He.ga X.K "ByZero")) := F.ok sc_ByZero (fun vs H Q E h => by obtain ⟨a, rfl, _⟩ := h; rfl) fun cdv A outer s H vs Q E hr h => by
    obtain ⟨a, rfl, ha, k⟩ := h
    refine ⟨_, pbW, ?_⟩
    refine s_one (s_expr (we_of (pe_sinit rfl T.g_StreamError T.sin.1 T.sin.2 paW) ?_))
    exact a_cons (w_var 0 rfl (a_cons (w_str (a_nil ⟨a, _, _, rfl, by show 1 ≤ 1000; decide, T.x_ByZero, ha, k⟩))))
  refine pmk_oex0 T.x_ByZero T.xi_ByZero.at_ T.xi_ByZero.ty F1 hr (F.bindsN fun _ _ _ _ _ _ us hl => match us, hl with | [_], _ => rfl) passL hg T.g_ByZero (by decide) pins s σ H Q I ?_
  intro a ha
  refine ⟨a, rfl, upd_same, rfl, upd_same, ?_⟩
  rw [upd_back ha]
  exact h
theorem sc_BadNumber : FnScope ["self", "given"] ["self", "given"] (defScope s_BadNumber___init__) := ⟨rfl, rfl, rfl, by decide +kernel, rfl, by decide +kernel, by decide +kernel⟩
theorem fn_BadNumber (T : Tx K mg) : FnR P w K mg base (L2.CX P w) 1 (He.ma K (He.ga K "BadNumber") "__init__") (spErr1 (He.ga K "BadNumber") "given") := by
  refine fnr T.f_BadNumber___init__ sc_BadNumber (fun vs H Q E h => ?_) (fun _ _ _ _ _ _ us hl => match us, hl with | [_, _], _ => rfl) fun cdv A outer s H vs Q E hr h => ?_
  · obtain ⟨a, g, rfl, _⟩ := h
    rfl
  · obtain ⟨a, g, rfl, ha, k⟩ := h
    refine s_cons (s_expr (we_of (pe_sinit rfl T.g_StreamError T.sin.1 T.sin.2 paW) ?_))
    refine a_cons (w_var 0 rfl (a_cons (w_str (a_nil ⟨a, _, _, rfl, by show 1 ≤ 1000; decide, T.x_BadNumber, ha, ?_⟩))))
    refine s_one (ws_of (ps_ost peW peW) ?_)
    exact w_var 1 rfl (w_var 0 rfl ⟨a, _, rfl, T.x_BadNumber, T.xn_BadNumber, .inl ⟨ha, fun dx h1 h2 => k dx h1 h2⟩⟩)
theorem mk_BadNumber {X : Cx} {e : Expr} {p pos : Pos} (T : Tx X.K X.mg) (hr : Room 2 X.A) (hg : Gl X "BadNumber" := by rfl) (he : starEach [e] X.env = (false, eval e X.env) :: starEach [] X.env := by rfl) :
    PMk X (.Call (.Name "BadNumber" p) [e] [] pos) (fun σ H Q => We X e σ H fun v H1 => ∀ d, H1 d = none → Q (.ref (He.ga X.K "BadNumber")) (some d) (upd H1 d (.xd [("given", v)]))) := by
  intro pins s σ H Q I h
  obtain ⟨fd, F⟩ := T.f_BadNumber___init__
  have F1 : FnOk X.prog X.w X.K X.mg X.base (L2.CX X.prog X.w) 1 (He.ma X.K (He.ga X.K "BadNumber") "__init__") fd ["self", "given"] (spErr1 (He.ga X.K "BadNumber") "given") := F.ok sc_BadNumber (fun vs H Q E h => by obtain ⟨a, g, rfl, _⟩ := h; rfl) fun cdv A outer s H vs Q E hr h => by
    obtain ⟨a, g, rfl, ha, k⟩ := h
    refine ⟨_, pbW, ?_⟩
    refine s_cons (s_expr (we_of (pe_sinit rfl T.g_StreamError T.sin.1 T.sin.2 paW) ?_))
    refine a_cons (w_var 0 rfl (a_cons (w_str (a_nil ⟨a, _, _, rfl, by show 1 ≤ 1000; decide, T.x_BadNumber, ha, ?_⟩))))
    refine s_one (ws_of (ps_ost peW peW) ?_)
    exact w_var 1 rfl (w_var 0 rfl ⟨a, _, rfl, T.x_BadNumber, T.xn_BadNumber, .inl ⟨ha, fun dx h1 h2 => k dx h1 h2⟩⟩)
  refine pmk_oex (dvs := []) (ds := []) T.x_BadNumber T.xi_BadNumber.at_ T.xi_BadNumber.ty F1 hr (F.bindsN fun _ _ _ _ _ _ us hl => match us, hl with | [_, _], _ => rfl) .nil passL hg T.g_BadNumber (pa_cons peW pa_nil he) (by decide) he (by rfl) pins s σ H Q I ?_
  refine We.mono h fun v H1 k => ⟨by show 1 ≤ 1000; decide, fun a ha => ?_⟩
  refine ⟨a, v, rfl, upd_same, fun dx h1 h2 => ?_⟩
  have hd : H1 dx = none := by rw [upd_ne h2] at h1; exact h1
  refine ⟨rfl, dx, _, upd_same, by rw [upd_ne h2, upd_same], hd, ?_⟩
  have e : upd (del (upd (upd (upd H1 a (exo a (He.ga X.K "BadNumber") none)) dx (exd dx [("given", v)])) a (exo a (He.ga X.K "BadNumber") (some dx))) a) dx (.xd [("given", v)]) = upd H1 dx (.xd [("given", v)]) := by
    funext b
    by_cases e1 : b = dx
    · rw [e1, upd_same, upd_same]
    · rw [upd_ne e1, upd_ne e1]
      by_cases e2 : b = a
      · rw [e2, del_same, ha]
      · rw [del_ne e2, upd_ne e2, upd_ne e1, upd_ne e2]
  rw [e]
  exact k dx hd
theorem sc_BadText : FnScope ["self"] ["self"] (defScope s_BadText___init__) := ⟨rfl, rfl, rfl, by decide +kernel, rfl, by decide +kernel, by decide +kernel⟩
theorem fn_BadText (T : Tx K mg) : FnR P w K mg base (L2.CX P w) 1 (He.ma K (He.ga K "BadText") "__init__") (spErr0 (He.ga K "BadText")) := by
  refine fnr T.f_BadText___init__ sc_BadText (fun vs H Q E h => ?_) (fun _ _ _ _ _ _ us hl => match us, hl with | [_], _ => rfl) fun cdv A outer s H vs Q E hr h => ?_
  · obtain ⟨a, rfl, _⟩ := h
    rfl
  · obtain ⟨a, rfl, ha, k⟩ := h
    refine s_one (s_expr (we_of (pe_sinit rfl T.g_StreamError T.sin.1 T.sin.2 paW) ?_))
    exact a_cons (w_var 0 rfl (a_cons (w_str (a_nil ⟨a, _, _, rfl, by show 1 ≤ 1000; decide, T.x_BadText, ha, k⟩))))
theorem mk_BadText {X : Cx} {p pos : Pos} (T : Tx X.K X.mg) (hr : Room 2 X.A) (hg : Gl X "BadText" := by rfl) :
    PMk X (.Call (.Name "BadText" p) [] [] pos) (fun _ H Q => Q (.ref (He.ga X.K "BadText")) none H) := by
  intro pins s σ H Q I h
  obtain ⟨fd, F⟩ := T.f_BadText___init__
  have F1 : FnOk X.prog X.w X.K X.mg X.base (L2.CX X.prog X.w) 1 (He.ma X.K (He.ga X.K "BadText") "__init__") fd ["self"] (spErr0 (He.ga X.K "BadText")) := F.ok sc_BadText (fun vs H Q E h => by obtain ⟨a, rfl, _⟩ := h; rfl) fun cdv A outer s H vs Q E hr h => by
    obtain ⟨a, rfl, ha, k⟩ := h
    refine ⟨_, pbW, ?_⟩
    refine s_one (s_expr (we_of (pe_sinit rfl T.g_StreamError T.sin.1 T.sin.2 paW) ?_))
    exact a_cons (w_var 0 rfl (a_cons (w_str (a_nil ⟨a, _, _, rfl, by show 1 ≤ 1000; decide, T.x_BadText, ha, k⟩))))
  refine pmk_oex0 T.x_BadText T.xi_BadText.at_ T.xi_BadText.ty F1 hr (F.bindsN fun _ _ _ _ _ _ us hl => match us, hl with | [_], _ => rfl) passL hg T.g_BadText (by decide) pins s σ H Q I ?_
  intro a ha
  refine ⟨a, rfl, upd_same, rfl, upd_same, ?_⟩
  rw [upd_back ha]
  exact h
end
end LW
namespace LW
open PySem PySem.Spec PyProof.Rows L2 PR
/-! ### what a Ratio looks like -/
def rfs (q : Rat) : List (Str × V) := [("top", .int q.num), ("bottom", .int (q.den : Int))]
theorem tb : ¬ (("top" : Str) = "bottom") := by decide +kernel
theorem rfs_top (q : Rat) : (rfs q).lookup ("top" : Str) = some (.int q.num) := by
  unfold rfs
  rw [lookup_put, if_pos rfl]
theorem rfs_bot (q : Rat) : (rfs q).lookup ("bottom" : Str) = some (.int (q.den : Int)) := by
  unfold rfs
  rw [lookup_put, if_neg (fun e => tb e.symm), lookup_put, if_pos rfl]
theorem rfs_no (q : Rat) {m : Str} (h1 : ¬ m = "top") (h2 : ¬ m = "bottom") : (rfs q).lookup m = none := by
  unfold rfs
  rw [lookup_put, if_neg h1, lookup_put, if_neg h2]
  rfl
theorem rfs_put (x y : V) : putF "bottom" y (putF "top" x []) = [(("top" : Str), x), ("bottom", y)] := by
  show (if ("top" : Str) = "bottom" then _ else (("top" : Str), x) :: putF "bottom" y []) = _
  rw [if_neg tb]
  rfl
/-- v is the Ratio q -/
def Rt (K : PySem.W.Frag) (H : Hp) (v : V) (q : Rat) : Prop := ∃ a dx, v = .ref a ∧ H a = some (.ins (He.ga K "Ratio") dx (rfs q))
theorem Rt.same {K : PySem.W.Frag} {H H' : Hp} {v : V} {q : Rat} (h : Rt K H v q) (s : Same H H') : Rt K H' v q := by
  obtain ⟨a, dx, e, h⟩ := h
  exact ⟨a, dx, e, s _ _ h⟩
def kinds : List String := ["bool", "str", "NoneType", "list", "tuple", "dict"]
/-- what is handed in: a number, or another value -/
inductive Arg (K : PySem.W.Frag) (H : Hp) (v : V) : Option Rat → Prop where
  | int (n : Int) (e : v = .int n) : Arg K H v (some (n : Rat))
  | rat (q : Rat) (h : Rt K H v q) : Arg K H v (some q)
  | odd (t : String) (h : TyX K H v (.type t)) (m : t ∈ kinds) : Arg K H v none
theorem same_new {H : Hp} {p : Addr} {o : HO} (h : H p = none) : Same H (upd H p o) := fun b u e => by
  rw [upd_ne (ne_of_none e h)]
  exact e
section
variable {P : Program} {w : World} {K : PySem.W.Frag} {mg : Str → Option Value} {base : Heap}
/-! ### divisor_of -/
def spDiv : Sp := fun vs H Q _ => ∃ a b : Int, vs = [.int a, .int b] ∧ Q (.int (Int.gcd a b : Int)) H
theorem sc_divisor_of : FnScope ["one", "other"] ["one", "other"] (defScope s_divisor_of) := ⟨rfl, rfl, rfl, by decide +kernel, rfl, by decide +kernel, by decide +kernel⟩
theorem fn_divisor_of (T : Tx K mg) : FnR P w K mg base (L2.CX P w) 1 (He.ga K "divisor_of") spDiv := by
  refine fnr T.f_divisor_of sc_divisor_of (fun vs H Q E h => ?_) (fun _ _ _ _ _ _ us hl => match us, hl with | [_, _], _ => rfl) fun cdv A outer s H vs Q E hr h => ?_
  · obtain ⟨a, b, rfl, _⟩ := h
    rfl
  · obtain ⟨a, b, rfl, k⟩ := h
    refine s_cons (s_while (passes_of rfl) (fun σ H' => ∃ x y : Int, σ = [some (.int x), some (.int y)] ∧ H' = H ∧ Int.gcd x y = Int.gcd a b) (fun σ _ => match σ with | [_, some (.int y)] => y.natAbs | _ => 0) ⟨a, b, rfl, rfl, rfl⟩ ?_)
    rintro σ H' ⟨x, y, rfl, rfl, e⟩
    refine t_cmp op_ne (w_var 1 rfl (w_int ⟨rfl, _, rfl, ?_⟩))
    by_cases hy : y = 0
    · subst hy
      show if (!decide (V.int 0 = V.int 0)) = true then _ else _
      rw [decide_eq_true rfl]
      refine iteF ?_
      refine s_one (s_ret (w_callB call_abs T.b_abs (by decide +kernel) (a_cons (w_var 0 rfl (a_nil ⟨x, rfl, ?_⟩)))))
      have e2 : (if x < 0 then -x else x) = (Int.gcd a b : Int) := by
        rw [← e, Int.gcd_zero_right]
        split <;> omega
      rw [e2]
      exact k
    · have hd : decide (V.int y = V.int 0) = false := decide_eq_false fun z => hy (by cases z; rfl)
      show if (!decide (V.int y = V.int 0)) = true then _ else _
      rw [hd]
      refine iteT ?_
      refine s_one (s_par 0 1 sc_divisor_of.nd (a_cons (w_var 1 rfl (a_cons (w_op op_modN (w_var 0 rfl (w_var 1 rfl ⟨x, y, rfl, rfl, hy, a_nil ⟨_, _, rfl, ?_⟩⟩)))))))
      exact ⟨⟨y, x.fmod y, rfl, rfl, (RM.gcd_turn hy).trans e⟩, RM.fmod_small hy⟩
/-! ### is_integer -/
def spIsInt (K : PySem.W.Frag) : Sp := fun vs H Q _ => ∃ (x : V) (t : Value) (b1 b2 : Bool), vs = [x] ∧ TyX K H x t ∧ PySem.W.kitOne K t (.type "int") = some b1 ∧ PySem.W.kitOne K t (.type "bool") = some b2 ∧ Q (.bl (b1 && !b2)) H
theorem sc_is_integer : FnScope ["value"] ["value"] (defScope s_is_integer) := ⟨rfl, rfl, rfl, by decide +kernel, rfl, by decide +kernel, by decide +kernel⟩
theorem fn_is_integer (T : Tx K mg) : FnR P w K mg base (L2.CX P w) 1 (He.ga K "is_integer") (spIsInt K) := by
  refine fnr T.f_is_integer sc_is_integer (fun vs H Q E h => ?_) (fun _ _ _ _ _ _ us hl => match us, hl with | [_], _ => rfl) fun cdv A outer s H vs Q E hr h => ?_
  · obtain ⟨x, t, b1, b2, rfl, _⟩ := h
    rfl
  · obtain ⟨x, t, b1, b2, rfl, ty, k1, k2, q⟩ := h
    refine s_one (s_ret (w_and (w_callB call_isi T.b_isinstance (by decide +kernel) (a_cons (w_var 0 rfl (a_cons (w_bltn (v := .ty "int") T.b_int (by decide +kernel) rfl (a_nil ⟨x, .ty "int", t, .type "int", b1, rfl, .ty _, ty, k1, b1, rfl, ?_⟩))))))))
    cases b1 with
    | false => exact iteF q
    | true =>
      refine iteT (w_one (w_not ?_))
      exact w_callB call_isi T.b_isinstance (by decide +kernel) (a_cons (w_var 0 rfl (a_cons (w_bltn (v := .ty "bool") T.b_bool (by decide +kernel) rfl (a_nil ⟨x, .ty "bool", t, .type "bool", b2, rfl, .ty _, ty, k2, b2, rfl, q⟩)))))
/-! ### parts -/
def spParts (K : PySem.W.Frag) : Sp := fun vs H Q _ => ∃ (x : V) (o : Option Rat), vs = [x] ∧ Arg K H x o ∧ (∀ q, o = some q → ∀ p, H p = none → Q (.ref p) (upd H p (.tup [.int q.num, .int (q.den : Int)]))) ∧ (o = none → Q .non H)
theorem sc_parts : FnScope ["given"] ["given"] (defScope s_parts) := ⟨rfl, rfl, rfl, by decide +kernel, rfl, by decide +kernel, by decide +kernel⟩
theorem kit_kind {K : PySem.W.Frag} {t : String} (m : t ∈ kinds) : ∃ b1 b2, PySem.W.kitOne K (.type t) (.type "int") = some b1 ∧ PySem.W.kitOne K (.type t) (.type "bool") = some b2 ∧ (b1 && !b2) = false := by
  have one : ∀ {t : String} {b1 b2 : Bool}, kitB t "int" = some b1 → kitB t "bool" = some b2 → (b1 && !b2) = false → ∃ b1 b2, PySem.W.kitOne K (.type t) (.type "int") = some b1 ∧ PySem.W.kitOne K (.type t) (.type "bool") = some b2 ∧ (b1 && !b2) = false :=
    fun h1 h2 h3 => ⟨_, _, kit_ty h1, kit_ty h2, h3⟩
  unfold kinds at m
  simp only [List.mem_cons, List.not_mem_nil, or_false] at m
  rcases m with rfl | rfl | rfl | rfl | rfl | rfl
  · exact one (b1 := true) (b2 := true) (by decide +kernel) (by decide +kernel) rfl
  · exact one (b1 := false) (b2 := false) (by decide +kernel) (by decide +kernel) rfl
  · exact one (b1 := false) (b2 := false) (by decide +kernel) (by decide +kernel) rfl
  · exact one (b1 := false) (b2 := false) (by decide +kernel) (by decide +kernel) rfl
  · exact one (b1 := false) (b2 := false) (by decide +kernel) (by decide +kernel) rfl
  · exact one (b1 := false) (b2 := false) (by decide +kernel) (by decide +kernel) rfl
theorem kit_odd (T : Tx K mg) {t : String} (m : t ∈ kinds) : PySem.W.kitOne K (.type t) (.ref (He.ga K "Ratio")) = some false := by
  unfold kinds at m
  simp only [List.mem_cons, List.not_mem_nil, or_false] at m
  rcases m with rfl | rfl | rfl | rfl | rfl | rfl
  · exact T.kb_bool_Ratio
  · exact T.kb_str_Ratio
  · exact T.kb_NoneType_Ratio
  · exact T.kb_list_Ratio
  · exact T.kb_tuple_Ratio
  · exact T.kb_dict_Ratio
theorem Rt.ty (T : Tx K mg) {H : Hp} {v : V} {q : Rat} (h : Rt K H v q) : TyX K H v (.ref (He.ga K "Ratio")) := by
  obtain ⟨a, dx, rfl, h⟩ := h
  exact T.isi_Ratio.ty T.c_Ratio h
theorem fn_parts (T : Tx K mg) : FnR P w K mg base (L2.CX P w) 2 (He.ga K "parts") (spParts K) := by
  refine fnr T.f_parts sc_parts (fun vs H Q E h => ?_) (fun _ _ _ _ _ _ us hl => match us, hl with | [_], _ => rfl) fun cdv A outer s H vs Q E hr h => ?_
  · obtain ⟨x, o, rfl, _⟩ := h
    rfl
  · obtain ⟨x, o, rfl, ha, k1, k2⟩ := h
    refine s_cons (s_if (t_val (w_call (fn_is_integer T) hr T.g_is_integer (kept T.f_is_integer) passX (a_cons (w_var 0 rfl (a_nil ?_))))))
    cases ha with
    | int n e =>
      subst e
      refine ⟨_, _, _, _, rfl, .base (.int n), kit_ty (r := true) (by decide +kernel), kit_ty (r := false) (by decide +kernel), true, rfl, ?_⟩
      refine iteT (s_one (s_ret (w_tup (a_cons (w_var 0 rfl (a_cons (w_int (a_nil ⟨by show 2 ≤ sizeLine; decide, fun p hp => ?_⟩))))))))
      exact k1 _ rfl p hp
    | rat q h =>
      refine ⟨_, _, _, _, rfl, h.ty T, T.kt_Ratio_int, T.kt_Ratio_bool, false, rfl, iteF (s_nil ?_)⟩
      refine s_one (s_ret (w_ife (t_val (w_callB call_isi T.b_isinstance (by decide +kernel) (a_cons (w_var 0 rfl (a_cons (w_ref T.g_Ratio (a_nil ⟨x, .ref (He.ga K "Ratio"), _, .ref (He.ga K "Ratio"), true, rfl, .own _, h.ty T, T.k_Ratio_Ratio, true, rfl, iteT ?_⟩)))))))))
      obtain ⟨a, dx, rfl, h⟩ := h
      refine w_tup (a_cons (w_fld (w_var 0 rfl ⟨a, _, dx, _, _, rfl, h, T.c_Ratio, T.n_Ratio_top, rfs_top q, ?_⟩)))
      refine a_cons (w_fld (w_var 0 rfl ⟨a, _, dx, _, _, rfl, h, T.c_Ratio, T.n_Ratio_bottom, rfs_bot q, ?_⟩))
      exact a_nil ⟨by show 2 ≤ sizeLine; decide, fun p hp => k1 q rfl p hp⟩
    | odd t h m =>
      obtain ⟨b1, b2, e1, e2, e3⟩ := kit_kind (K := K) m
      refine ⟨_, _, _, _, rfl, h, e1, e2, false, by rw [e3], iteF (s_nil ?_)⟩
      refine s_one (s_ret (w_ife (t_val (w_callB call_isi T.b_isinstance (by decide +kernel) (a_cons (w_var 0 rfl (a_cons (w_ref T.g_Ratio (a_nil ⟨x, .ref (He.ga K "Ratio"), _, .ref (He.ga K "Ratio"), false, rfl, .own _, h, kit_odd T m, false, rfl, iteF ?_⟩)))))))))
      exact w_non (k2 rfl)
/-! ### checked -/
def spChecked (K : PySem.W.Frag) : Sp := fun vs H Q E => ∃ (x : V) (o : Option Rat), vs = [x] ∧ Arg K H x o ∧ (∀ q, o = some q → ∀ p, H p = none → Q (.ref p) (upd H p (.tup [.int q.num, .int (q.den : Int)]))) ∧
  (o = none → ∀ d, H d = none → E (.ref (He.ga K "BadNumber")) (some d) (upd H d (.xd [("given", x)])))
theorem sc_checked : FnScope ["given", "found"] ["given"] (defScope s_checked) := ⟨rfl, rfl, rfl, by decide +kernel, rfl, by decide +kernel, by decide +kernel⟩
theorem fn_checked (T : Tx K mg) : FnR P w K mg base (L2.CX P w) 3 (He.ga K "checked") (spChecked K) := by
  refine fnr T.f_checked sc_checked (fun vs H Q E h => ?_) (fun _ _ _ _ _ _ us hl => match us, hl with | [_], _ => rfl) fun cdv A outer s H vs Q E hr h => ?_
  · obtain ⟨x, o, rfl, _⟩ := h
    rfl
  · obtain ⟨x, o, rfl, ha, k1, k2⟩ := h
    refine s_cons (s_set 1 sc_checked.nd (w_call (fn_parts T) hr T.g_parts (kept T.f_parts) passX (a_cons (w_var 0 rfl (a_nil ⟨x, o, rfl, ha, fun q e p hp => ?_, fun e => ?_⟩)))))
    · refine s_cons (s_if (t_cmp op_isN (w_var 1 rfl (w_non ⟨rfl, false, rfl, iteF (s_nil ?_)⟩))))
      exact s_one (s_ret (w_var 1 rfl (k1 q e p hp)))
    · refine s_cons (s_if (t_cmp op_isN (w_var 1 rfl (w_non ⟨rfl, true, rfl, iteT ?_⟩))))
      exact s_one (s_raise rfl (takes_of (E := E) rfl rfl rfl rfl) (mk_BadNumber T hr) (w_var 0 rfl fun d hd => k2 e d hd))
end
end LW
namespace LW
open PySem PySem.Spec PyProof.Rows L2 PR
/-- // by any divisor but 0 below 2 ^ 9000 -/
def CDivA (_ j : Int) : Prop := j ≠ 0 ∧ j.natAbs < 2 ^ 9000
theorem op_fdivA {X : Cx} : OpR X (binaryOp .FloorDiv) (rI CDivA fun i j => .int (i.fdiv j)) := opI fun i j _ _ _ _ _ hc q =>
  floordiv_int hc.1 q (.inl (PyProof.noPylong_of_log2 (PySem.Flt.log2_lt_of (by decide) hc.2)))
theorem s_unp2 {X : Cx} {e : Expr} {σ : L2.St} {H : Hp} {D : Ends} {pos px py pt : Pos} {x y : Str} {kt} (i j : Nat) (hN : X.N.Nodup) (h : We X e σ H fun v H1 => ∃ a u w, v = .ref a ∧ SqT X.K H1 a [u, w] ∧ D.nx ((σ.set i (some u)).set j (some w)) H1)
    (hi : X.N[i]? = some x := by rfl) (hj : X.N[j]? = some y := by rfl) (hx : Loc X.env.scope x := by first | exact Or.inl rfl | exact Or.inr rfl) (hy : Loc X.env.scope y := by first | exact Or.inl rfl | exact Or.inr rfl)
    (fx : X.fn x = true ∨ X.env.scope.names.lookup x = some .local := by first | exact .inl rfl | exact .inr rfl) (fy : X.fn y = true ∨ X.env.scope.names.lookup y = some .local := by first | exact .inl rfl | exact .inr rfl) (hc : X.calm = true := by rfl)
    (hs : swapsWithSole [.Tuple [.Name x px, .Name y py] kt pt] e pos.line X.env = pure false := by rfl) (hw : swappedStores [.Tuple [.Name x px, .Name y py] kt pt] e X.env = pure none := by rfl) (h1 : (assignEach [.Tuple [.Name x px, .Name y py] kt pt] X.env).map (·.2) = [assign (.Tuple [.Name x px, .Name y py] kt pt) X.env] := by rfl) :
    Ws X (.Assign [.Tuple [.Name x px, .Name y py] kt pt] e pos) D σ H := by
  refine s_asg (pg_tup (n := 2) hc (pgs_cons (pg_name (i := i) hN hi hx fx) (pgs_cons (pg_name (i := j) hN hj hy fy) pgs_nil))) (We.mono h fun v H1 z => ?_) hs hw h1
  obtain ⟨a, u, w, rfl, hq, q⟩ := z
  exact ⟨a, _, rfl, hq, rfl, u, [w], rfl, w, [], rfl, rfl, q⟩
section
variable {P : Program} {w : World} {K : PySem.W.Frag} {mg : Str → Option Value} {base : Heap}
/-! ### Ratio.__init__ -/
def spInit (K : PySem.W.Frag) : Sp := fun vs H Q E => ∃ (a dx : Addr) (t b : Int), vs = [.ref a, .int t, .int b] ∧ H a = some (.ins (He.ga K "Ratio") dx []) ∧ b.natAbs < 2 ^ 9000 ∧
  (b ≠ 0 → Q .non (upd H a (.ins (He.ga K "Ratio") dx (rfs (Rat.divInt t b))))) ∧ (b = 0 → E (.ref (He.ga K "ByZero")) none H)
theorem sc_Ratio_init : FnScope ["self", "top", "bottom", "divisor"] ["self", "top", "bottom"] (defScope s_Ratio___init__) := ⟨rfl, rfl, rfl, by decide +kernel, rfl, by decide +kernel, by decide +kernel⟩
theorem ok_Ratio_init (T : Tx K mg) {fd : FuncData} {dv : List V} (F : FunD K "__init__" "Ratio.__init__" (defArgs s_Ratio___init__) (defBody s_Ratio___init__) (defScope s_Ratio___init__) dv [] (He.ma K (He.ga K "Ratio") "__init__") fd) :
    FnOk P w K mg base (L2.CX P w) 3 (He.ma K (He.ga K "Ratio") "__init__") fd ["self", "top", "bottom"] (spInit K) := by
  refine F.ok sc_Ratio_init (fun vs H Q E h => ?_) fun cdv A outer s H vs Q E hr h => ⟨_, pbW, ?_⟩
  · obtain ⟨a, dx, t, b, rfl, _⟩ := h
    rfl
  · obtain ⟨a, dx, t, b, rfl, ha, hb, k1, k2⟩ := h
    refine s_cons (s_if (t_cmp op_eq (w_var 2 rfl (w_int ⟨rfl, _, rfl, ?_⟩))))
    by_cases e : b = 0
    · subst e
      show if decide (V.int 0 = V.int 0) = true then _ else _
      rw [decide_eq_true rfl]
      exact iteT (s_one (s_raise rfl (takes_of (E := E) rfl rfl rfl rfl) (mk_ByZero T hr) (k2 rfl)))
    · have hd : decide (V.int b = V.int 0) = false := decide_eq_false fun z => e (by cases z; rfl)
      show if decide (V.int b = V.int 0) = true then _ else _
      rw [hd]
      refine iteF (s_nil ?_)
      have hs := RM.sg_ne (a := t) e
      have hg : (RM.sg t b).natAbs < 2 ^ 9000 := by
        have h1 : (RM.sg t b).natAbs = Int.gcd t b := by unfold RM.sg; split <;> omega
        rw [h1]
        exact Nat.lt_of_le_of_lt (Int.gcd_le_natAbs_right t e) hb
      have rest : ∀ H1, H1 = H → ∀ v, v = V.int (RM.sg t b) → Wb (cxOf (L2.CX P w) P w K mg base ["self", "top", "bottom", "divisor"] "Ratio.__init__" (defScope s_Ratio___init__) (He.ma K (He.ga K "Ratio") "__init__") cdv A outer s H E) ((defBody s_Ratio___init__).drop 2)
          { nx := fun _ H' => Q .non H', rt := Q } [some (.ref a), some (.int t), some (.int b), some v] H1 := by
        rintro H1 rfl v rfl
        refine s_cons (s_fld (w_op op_fdivA (w_var 1 rfl (w_var 3 rfl ⟨t, _, rfl, rfl, ⟨hs, hg⟩, w_var 0 rfl ⟨a, _, dx, _, rfl, ha, T.c_Ratio, T.n_Ratio_top, by show 0 < 1000; decide, ?_⟩⟩))))
        refine s_one (s_fld (w_op op_fdivA (w_var 2 rfl (w_var 3 rfl ⟨b, _, rfl, rfl, ⟨hs, hg⟩, w_var 0 rfl ⟨a, _, dx, _, rfl, upd_same, T.c_Ratio, T.n_Ratio_bottom, by show 1 < 1000; decide, ?_⟩⟩))))
        have z := k1 e
        rw [upd_upd]
        have e2 : putF "bottom" (V.int (b.fdiv (RM.sg t b))) (putF "top" (V.int (t.fdiv (RM.sg t b))) []) = rfs (Rat.divInt t b) := by
          rw [rfs_put, RM.num_eq e, RM.den_eq e]
          rfl
        show Q .non (upd H1 a (.ins (He.ga K "Ratio") dx (putF "bottom" (V.int (b.fdiv (RM.sg t b))) (putF "top" (V.int (t.fdiv (RM.sg t b))) []))))
        rw [e2]
        exact z
      refine s_cons (s_set 3 sc_Ratio_init.nd (w_ife (t_cmp op_gt (w_var 2 rfl (w_int ⟨b, 0, rfl, rfl, _, rfl, ?_⟩)))))
      have hr1 : Room 1 _ := hr.mono (by decide)
      by_cases hp : 0 < b
      · rw [decide_eq_true hp]
        refine iteT (w_call (fn_divisor_of T) hr1 T.g_divisor_of (kept T.f_divisor_of) passX (a_cons (w_var 1 rfl (a_cons (w_var 2 rfl (a_nil ⟨t, b, rfl, ?_⟩))))))
        exact rest H rfl _ (by unfold RM.sg; rw [if_pos hp])
      · rw [decide_eq_false hp]
        refine iteF (w_un un_neg (w_call (fn_divisor_of T) hr1 T.g_divisor_of (kept T.f_divisor_of) passX (a_cons (w_var 1 rfl (a_cons (w_var 2 rfl (a_nil ⟨t, b, rfl, _, rfl, ?_⟩)))))))
        exact rest H rfl _ (by unfold RM.sg; rw [if_neg hp])
theorem fn_Ratio3 (T : Tx K mg) : FnR P w K mg base (L2.CX P w) 3 (He.ma K (He.ga K "Ratio") "__init__") (spInit K) := by
  obtain ⟨fd, F⟩ := T.f_Ratio___init__
  obtain ⟨ds, hv, hb⟩ := FunD.binds1 (ps := ["self", "top", "bottom"]) F 3 1 (by intro z; cases z) rfl (fun T0 kV doc pm an cdv ct us its h1 h2 => match us, its, h1, h2 with | [_, _, _], [_], _, _ => ⟨_, rfl, rfl⟩)
  have F2 := (ok_Ratio_init (P := P) (w := w) (base := base) T F).raw hb (dvs := []) hv
  exact F2.imp fun vs H Q E h => by rw [List.append_nil]; exact h
theorem fn_Ratio2 (T : Tx K mg) : FnR P w K mg base (L2.CX P w) 3 (He.ma K (He.ga K "Ratio") "__init__") (fun vs H Q E => spInit K (vs ++ [.int 1]) H Q E) := by
  obtain ⟨fd, F⟩ := T.f_Ratio___init__
  obtain ⟨ds, hv, hb⟩ := FunD.binds1 (ps := ["self", "top", "bottom"]) F 2 0 (by intro z; cases z) rfl (fun T0 kV doc pm an cdv ct us its h1 h2 => match us, its, h1, h2 with | [_, _], [_], _, _ => ⟨_, rfl, rfl⟩)
  exact (ok_Ratio_init (P := P) (w := w) (base := base) T F).raw hb (dvs := [.int 1]) hv
end
section
variable {X : Cx} {e e1 e2 : Expr} {σ : L2.St} {H : Hp} {Q : VK} {E : XK} {p pos : Pos}
theorem same_made {H : Hp} {x dx : Addr} {o u : HO} (hx : H x = none) (hd : H dx = none) : Same H (upd (upd H dx o) x u) := fun b v e => by
  rw [upd_ne (ne_of_none e hx), upd_ne (ne_of_none e hd)]
  exact e
theorem same_over {H : Hp} {x dx : Addr} {o u v : HO} (hx : H x = none) (hd : H dx = none) : Same H (upd (upd (upd H dx o) x u) x v) := by
  rw [upd_upd]
  exact same_made hx hd
/-- Ratio(t, b) -/
theorem w_ratio (T : Tx X.K X.mg) (hr : Room 4 X.A) (hx : Passes (L2.CX X.prog X.w) X E)
    (h : Wa X [e1, e2] σ H fun vs H1 => ∃ t b, vs = [.int t, .int b] ∧ b.natAbs < 2 ^ 9000 ∧ (b ≠ 0 → ∀ v H', Same H1 H' → Rt X.K H' v (Rat.divInt t b) → Q v H') ∧ (b = 0 → ∀ H', Same H1 H' → E (.ref (He.ga X.K "ByZero")) none H'))
    (hg : Gl X "Ratio" := by rfl) (he : starEach [e1, e2] X.env = (false, eval e1 X.env) :: starEach [e2] X.env := by rfl) (hpl : (backTo pos (starEach [e2] X.env)).any (·.1) = false := by rfl) : We X (.Call (.Name "Ratio" p) [e1, e2] [] pos) σ H Q := by
  refine w_make T.mk_Ratio (fn_Ratio3 T) hr T.g_Ratio hx (Wa.mono h fun vs H1 z => ?_) hg (by decide) he hpl
  obtain ⟨t, b, rfl, hb, k1, k2⟩ := z
  intro x dx h1 h2 h3
  exact ⟨x, dx, t, b, rfl, upd_same, hb, fun hn => ⟨rfl, k1 hn _ _ (same_over h1 h2) ⟨x, dx, rfl, upd_same⟩⟩, fun hz => k2 hz _ (same_made h1 h2)⟩
/-- Ratio(t) -/
theorem w_ratio1 (T : Tx X.K X.mg) (hr : Room 4 X.A) (hx : Passes (L2.CX X.prog X.w) X E)
    (h : Wa X [e1] σ H fun vs H1 => ∃ t : Int, vs = [.int t] ∧ (∀ v H', Same H1 H' → Rt X.K H' v (t : Rat) → Q v H'))
    (hg : Gl X "Ratio" := by rfl) (he : starEach [e1] X.env = (false, eval e1 X.env) :: starEach [] X.env := by rfl) (hpl : (backTo pos (starEach [] X.env)).any (·.1) = false := by rfl) : We X (.Call (.Name "Ratio" p) [e1] [] pos) σ H Q := by
  refine w_make T.mk_Ratio (fn_Ratio2 T) hr T.g_Ratio hx (Wa.mono h fun vs H1 z => ?_) hg (by decide) he hpl
  obtain ⟨t, rfl, k1⟩ := z
  intro x dx h1 h2 h3
  refine ⟨x, dx, t, 1, rfl, upd_same, by decide +kernel, fun hn => ⟨rfl, k1 _ _ (same_over h1 h2) ⟨x, dx, rfl, ?_⟩⟩, fun hz => absurd hz (by decide)⟩
  rw [upd_same, RM.int_eq]
/-- checked(e) of a number -/
theorem w_checked (T : Tx X.K X.mg) (hr : Room 3 X.A) (hx : Passes (L2.CX X.prog X.w) X E) (h : We X e σ H fun x H1 => ∃ q, Arg X.K H1 x (some q) ∧ ∀ p, H1 p = none → Q (.ref p) (upd H1 p (.tup [.int q.num, .int (q.den : Int)])))
    (hg : Gl X "checked" := by rfl) (he : starEach [e] X.env = (false, eval e X.env) :: starEach [] X.env := by rfl) (hpl : (backTo pos (starEach [] X.env)).any (·.1) = false := by rfl) : We X (.Call (.Name "checked" p) [e] [] pos) σ H Q := by
  refine w_call (fn_checked T) hr T.g_checked (kept T.f_checked) hx (a_cons (We.mono h fun x H1 z => ?_) he) hg (by decide) he hpl
  obtain ⟨q, ha, k⟩ := z
  exact a_nil ⟨x, some q, rfl, ha, fun q' e => by cases e; exact k, fun e => nomatch e⟩
/-- x.top, x.bottom of a Ratio in slot i -/
theorem w_top (T : Tx X.K X.mg) (h : We X e σ H fun x H1 => ∃ q, Rt X.K H1 x q ∧ Q (.int q.num) H1) (hb : attributeBase e "top" X.env (eval e X.env) = eval e X.env := by rfl) : We X (.Attribute e "top" pos) σ H Q :=
  w_fld (We.mono h fun x H1 ⟨q, ⟨a, dx, ex, ha⟩, k⟩ => ⟨a, _, dx, _, _, ex, ha, T.c_Ratio, T.n_Ratio_top, rfs_top q, k⟩) hb
theorem w_bot (T : Tx X.K X.mg) (h : We X e σ H fun x H1 => ∃ q, Rt X.K H1 x q ∧ Q (.int (q.den : Int)) H1) (hb : attributeBase e "bottom" X.env (eval e X.env) = eval e X.env := by rfl) : We X (.Attribute e "bottom" pos) σ H Q :=
  w_fld (We.mono h fun x H1 ⟨q, ⟨a, dx, ex, ha⟩, k⟩ => ⟨a, _, dx, _, _, ex, ha, T.c_Ratio, T.n_Ratio_bottom, rfs_bot q, k⟩) hb
end
end LW
namespace LW
open PySem PySem.Spec PyProof.Rows L2 PR
section
variable {P : Program} {w : World} {K : PySem.W.Frag} {mg : Str → Option Value} {base : Heap}
/-- both numbers below 2 ^ 4000 -/
def spBin (K : PySem.W.Frag) (f : Rat → Rat → Rat) : Sp := fun vs H Q _ => ∃ (x y : V) (p q : Rat), vs = [x, y] ∧ Rt K H x p ∧ Arg K H y (some q) ∧ RM.Lt p 4000 ∧ RM.Lt q 4000 ∧ ∀ v H', Same H H' → Rt K H' v (f p q) → Q v H'
def spCmp (K : PySem.W.Frag) (f : Rat → Rat → Bool) : Sp := fun vs H Q _ => ∃ (x y : V) (p q : Rat), vs = [x, y] ∧ Rt K H x p ∧ Arg K H y (some q) ∧ RM.Lt p 4000 ∧ RM.Lt q 4000 ∧ ∀ H', Same H H' → Q (.bl (f p q)) H'
def spNeg (K : PySem.W.Frag) : Sp := fun vs H Q _ => ∃ (x : V) (p : Rat), vs = [x] ∧ Rt K H x p ∧ RM.Lt p 4000 ∧ ∀ v H', Same H H' → Rt K H' v (-p) → Q v H'
def spEq (K : PySem.W.Frag) : Sp := fun vs H Q _ => ∃ (x y : V) (p : Rat) (o : Option Rat), vs = [x, y] ∧ Rt K H x p ∧ Arg K H y o ∧ ∀ H', Same H H' → Q (.bl (decide (o = some p))) H'
def spOver (K : PySem.W.Frag) : Sp := fun vs H Q E => ∃ (x y : V) (p q : Rat), vs = [x, y] ∧ Rt K H x p ∧ Arg K H y (some q) ∧ RM.Lt p 4000 ∧ RM.Lt q 4000 ∧ (q ≠ 0 → ∀ v H', Same H H' → Rt K H' v (p / q) → Q v H') ∧ (q = 0 → ∀ H', Same H H' → E (.ref (He.ga K "ByZero")) none H')
theorem cmul {i j : Int} (hi : i.natAbs < 2 ^ 4000) (hj : j.natAbs < 2 ^ 4000) : CMulW i j := wide_mul hi hj (by decide) (by decide) (by decide)
theorem bot_lt {i j : Int} (hi : i.natAbs < 2 ^ 4000) (hj : j.natAbs < 2 ^ 4000) : (i * j).natAbs < 2 ^ 9000 := RM.pow_le (RM.pow_mul_lt hi hj) (by decide)
theorem sc_add : FnScope ["self", "other", "top", "bottom"] ["self", "other"] (defScope s_Ratio___add__) := ⟨rfl, rfl, rfl, by decide +kernel, rfl, by decide +kernel, by decide +kernel⟩
theorem fn_add (T : Tx K mg) : FnR P w K mg base (L2.CX P w) 5 (He.ma K (He.ga K "Ratio") "__add__") (spBin K (· + ·)) := by
  refine fnr T.f_Ratio___add__ sc_add (fun vs H Q E h => ?_) (fun _ _ _ _ _ _ us hl => match us, hl with | [_, _], _ => rfl) fun cdv A outer s H vs Q E hr h => ?_
  · obtain ⟨x, y, p, q, rfl, _⟩ := h
    rfl
  · obtain ⟨x, y, p, q, rfl, hx, hy, lp, lq, k⟩ := h
    refine s_cons (s_unp2 2 3 sc_add.nd (w_checked T (hr.mono (by decide)) passX (w_var 1 rfl ⟨q, hy, fun t ht => ⟨t, _, _, rfl, SqT.of upd_same, ?_⟩⟩)))
    have st : Same H _ := same_new (o := .tup [.int q.num, .int (q.den : Int)]) ht
    have hx' := hx.same st
    refine s_one (s_ret (w_ratio T hr passX (a_cons (w_op op_add (w_op op_mulW (w_top T (w_var 0 rfl ⟨p, hx', w_var 3 rfl ⟨_, _, rfl, rfl, cmul lp.1 (RM.den_lt lq), ?_⟩⟩)))))))
    refine w_op op_mulW (w_var 2 rfl (w_bot T (w_var 0 rfl ⟨p, hx', _, _, rfl, rfl, cmul lq.1 (RM.den_lt lp), _, _, rfl, rfl, ?_⟩)))
    refine a_cons (w_op op_mulW (w_bot T (w_var 0 rfl ⟨p, hx', w_var 3 rfl ⟨_, _, rfl, rfl, cmul (RM.den_lt lp) (RM.den_lt lq), ?_⟩⟩)))
    refine a_nil ⟨_, _, rfl, bot_lt (RM.den_lt lp) (RM.den_lt lq), fun _ v H' s2 hv => k v H' (st.trans s2) ?_, fun z => absurd z (RM.mul_den_ne p q)⟩
    show Rt K H' v (p + q)
    rw [RM.add_eq]
    exact hv
theorem sc_sub : FnScope ["self", "other", "top", "bottom"] ["self", "other"] (defScope s_Ratio___sub__) := ⟨rfl, rfl, rfl, by decide +kernel, rfl, by decide +kernel, by decide +kernel⟩
theorem fn_sub (T : Tx K mg) : FnR P w K mg base (L2.CX P w) 5 (He.ma K (He.ga K "Ratio") "__sub__") (spBin K (· - ·)) := by
  refine fnr T.f_Ratio___sub__ sc_sub (fun vs H Q E h => ?_) (fun _ _ _ _ _ _ us hl => match us, hl with | [_, _], _ => rfl) fun cdv A outer s H vs Q E hr h => ?_
  · obtain ⟨x, y, p, q, rfl, _⟩ := h
    rfl
  · obtain ⟨x, y, p, q, rfl, hx, hy, lp, lq, k⟩ := h
    refine s_cons (s_unp2 2 3 sc_sub.nd (w_checked T (hr.mono (by decide)) passX (w_var 1 rfl ⟨q, hy, fun t ht => ⟨t, _, _, rfl, SqT.of upd_same, ?_⟩⟩)))
    have st : Same H _ := same_new (o := .tup [.int q.num, .int (q.den : Int)]) ht
    have hx' := hx.same st
    refine s_one (s_ret (w_ratio T hr passX (a_cons (w_op op_sub (w_op op_mulW (w_top T (w_var 0 rfl ⟨p, hx', w_var 3 rfl ⟨_, _, rfl, rfl, cmul lp.1 (RM.den_lt lq), ?_⟩⟩)))))))
    refine w_op op_mulW (w_var 2 rfl (w_bot T (w_var 0 rfl ⟨p, hx', _, _, rfl, rfl, cmul lq.1 (RM.den_lt lp), _, _, rfl, rfl, ?_⟩)))
    refine a_cons (w_op op_mulW (w_bot T (w_var 0 rfl ⟨p, hx', w_var 3 rfl ⟨_, _, rfl, rfl, cmul (RM.den_lt lp) (RM.den_lt lq), ?_⟩⟩)))
    refine a_nil ⟨_, _, rfl, bot_lt (RM.den_lt lp) (RM.den_lt lq), fun _ v H' s2 hv => k v H' (st.trans s2) ?_, fun z => absurd z (RM.mul_den_ne p q)⟩
    show Rt K H' v (p - q)
    rw [RM.sub_eq]
    exact hv
theorem sc_mul : FnScope ["self", "other", "top", "bottom"] ["self", "other"] (defScope s_Ratio___mul__) := ⟨rfl, rfl, rfl, by decide +kernel, rfl, by decide +kernel, by decide +kernel⟩
theorem fn_mul (T : Tx K mg) : FnR P w K mg base (L2.CX P w) 5 (He.ma K (He.ga K "Ratio") "__mul__") (spBin K (· * ·)) := by
  refine fnr T.f_Ratio___mul__ sc_mul (fun vs H Q E h => ?_) (fun _ _ _ _ _ _ us hl => match us, hl with | [_, _], _ => rfl) fun cdv A outer s H vs Q E hr h => ?_
  · obtain ⟨x, y, p, q, rfl, _⟩ := h
    rfl
  · obtain ⟨x, y, p, q, rfl, hx, hy, lp, lq, k⟩ := h
    refine s_cons (s_unp2 2 3 sc_mul.nd (w_checked T (hr.mono (by decide)) passX (w_var 1 rfl ⟨q, hy, fun t ht => ⟨t, _, _, rfl, SqT.of upd_same, ?_⟩⟩)))
    have st : Same H _ := same_new (o := .tup [.int q.num, .int (q.den : Int)]) ht
    have hx' := hx.same st
    refine s_one (s_ret (w_ratio T hr passX (a_cons (w_op op_mulW (w_top T (w_var 0 rfl ⟨p, hx', w_var 2 rfl ⟨_, _, rfl, rfl, cmul lp.1 lq.1, ?_⟩⟩))))))
    refine a_cons (w_op op_mulW (w_bot T (w_var 0 rfl ⟨p, hx', w_var 3 rfl ⟨_, _, rfl, rfl, cmul (RM.den_lt lp) (RM.den_lt lq), ?_⟩⟩)))
    refine a_nil ⟨_, _, rfl, bot_lt (RM.den_lt lp) (RM.den_lt lq), fun _ v H' s2 hv => k v H' (st.trans s2) ?_, fun z => absurd z (RM.mul_den_ne p q)⟩
    show Rt K H' v (p * q)
    rw [RM.mul_eq]
    exact hv
theorem sc_neg : FnScope ["self"] ["self"] (defScope s_Ratio___neg__) := ⟨rfl, rfl, rfl, by decide +kernel, rfl, by decide +kernel, by decide +kernel⟩
theorem fn_neg (T : Tx K mg) : FnR P w K mg base (L2.CX P w) 5 (He.ma K (He.ga K "Ratio") "__neg__") (spNeg K) := by
  refine fnr T.f_Ratio___neg__ sc_neg (fun vs H Q E h => ?_) (fun _ _ _ _ _ _ us hl => match us, hl with | [_], _ => rfl) fun cdv A outer s H vs Q E hr h => ?_
  · obtain ⟨x, p, rfl, _⟩ := h
    rfl
  · obtain ⟨x, p, rfl, hx, lp, k⟩ := h
    refine s_one (s_ret (w_ratio T hr passX (a_cons (w_un un_neg (w_top T (w_var 0 rfl ⟨p, hx, _, rfl, ?_⟩))))))
    refine a_cons (w_bot T (w_var 0 rfl ⟨p, hx, a_nil ⟨_, _, rfl, RM.pow_le (RM.den_lt lp) (by decide), fun _ v H' s2 hv => k v H' s2 ?_, fun z => absurd z (RM.den_ne p)⟩⟩))
    rw [RM.neg_eq]
    exact hv
theorem eqv_pair (a b c d : Int) : PyData.eqv (.tuple [.int a, .int b]) (.tuple [.int c, .int d]) = decide (a = c ∧ b = d) := by
  show (decide (a = c) && (decide (b = d) && true)) = _
  by_cases h1 : a = c <;> by_cases h2 : b = d <;> simp [h1, h2]
theorem sc_eq : FnScope ["self", "other"] ["self", "other"] (defScope s_Ratio___eq__) := ⟨rfl, rfl, rfl, by decide +kernel, rfl, by decide +kernel, by decide +kernel⟩
theorem fn_eq (T : Tx K mg) : FnR P w K mg base (L2.CX P w) 3 (He.ma K (He.ga K "Ratio") "__eq__") (spEq K) := by
  refine fnr T.f_Ratio___eq__ sc_eq (fun vs H Q E h => ?_) (fun _ _ _ _ _ _ us hl => match us, hl with | [_, _], _ => rfl) fun cdv A outer s H vs Q E hr h => ?_
  · obtain ⟨x, y, p, o, rfl, _⟩ := h
    rfl
  · obtain ⟨x, y, p, o, rfl, hx, hy, k⟩ := h
    refine s_one (s_ret (w_cmp (op_eqD hr.units) (w_call (fn_parts T) hr T.g_parts (kept T.f_parts) passX (a_cons (w_var 1 rfl (a_nil ⟨y, o, rfl, hy, fun q e t ht => ?_, fun e => ?_⟩))))))
    · have st : Same H _ := same_new (o := .tup [.int q.num, .int (q.den : Int)]) ht
      have hx' := hx.same st
      refine w_tup (a_cons (w_top T (w_var 0 rfl ⟨p, hx', a_cons (w_bot T (w_var 0 rfl ⟨p, hx', a_nil ⟨by show 2 ≤ sizeLine; decide, fun u hu => ?_⟩⟩))⟩)))
      have ne : t ≠ u := ne_of_none upd_same hu
      refine ⟨_, _, .tup (SqT.of (by rw [upd_ne ne, upd_same])) (.cons (.int _) (.cons (.int _) .nil)), .tup (SqT.of upd_same) (.cons (.int _) (.cons (.int _) .nil)), rfl, rfl, ?_⟩
      rw [eqv_pair]
      have z := k _ (st.trans (same_new (o := .tup [.int p.num, .int (p.den : Int)]) hu))
      have e2 : decide (o = some p) = decide (q.num = p.num ∧ (q.den : Int) = (p.den : Int)) := by
        subst e
        refine decide_eq_decide.mpr ⟨fun h => by cases h; exact ⟨rfl, rfl⟩, fun h => ?_⟩
        rw [(RM.eq_iff q p).mpr ⟨h.1, by omega⟩]
      rw [e2] at z
      exact z
    · refine w_tup (a_cons (w_top T (w_var 0 rfl ⟨p, hx, a_cons (w_bot T (w_var 0 rfl ⟨p, hx, a_nil ⟨by show 2 ≤ sizeLine; decide, fun u hu => ?_⟩⟩))⟩)))
      refine ⟨_, _, .non, .tup (SqT.of upd_same) (.cons (.int _) (.cons (.int _) .nil)), rfl, rfl, ?_⟩
      have z := k _ (same_new (o := .tup [.int p.num, .int (p.den : Int)]) hu)
      subst e
      exact z
theorem sc_lt : FnScope ["self", "other", "top", "bottom"] ["self", "other"] (defScope s_Ratio___lt__) := ⟨rfl, rfl, rfl, by decide +kernel, rfl, by decide +kernel, by decide +kernel⟩
theorem fn_lt (T : Tx K mg) : FnR P w K mg base (L2.CX P w) 4 (He.ma K (He.ga K "Ratio") "__lt__") (spCmp K fun p q => decide (p < q)) := by
  refine fnr T.f_Ratio___lt__ sc_lt (fun vs H Q E h => ?_) (fun _ _ _ _ _ _ us hl => match us, hl with | [_, _], _ => rfl) fun cdv A outer s H vs Q E hr h => ?_
  · obtain ⟨x, y, p, q, rfl, _⟩ := h
    rfl
  · obtain ⟨x, y, p, q, rfl, hx, hy, lp, lq, k⟩ := h
    refine s_cons (s_unp2 2 3 sc_lt.nd (w_checked T hr passX (w_var 1 rfl ⟨q, hy, fun t ht => ⟨t, _, _, rfl, SqT.of upd_same, ?_⟩⟩)))
    have st : Same H _ := same_new (o := .tup [.int q.num, .int (q.den : Int)]) ht
    have hx' := hx.same st
    refine s_one (s_ret (w_cmp op_lt (w_op op_mulW (w_top T (w_var 0 rfl ⟨p, hx', w_var 3 rfl ⟨_, _, rfl, rfl, cmul lp.1 (RM.den_lt lq), ?_⟩⟩)))))
    refine w_op op_mulW (w_var 2 rfl (w_bot T (w_var 0 rfl ⟨p, hx', _, _, rfl, rfl, cmul lq.1 (RM.den_lt lp), _, _, rfl, rfl, ?_⟩)))
    have z : Q (.bl (decide (p < q))) _ := k _ st
    rw [show decide (p < q) = decide (p.num * (q.den : Int) < q.num * (p.den : Int)) from decide_eq_decide.mpr (RM.lt_iff p q)] at z
    exact z
theorem sc_le : FnScope ["self", "other", "top", "bottom"] ["self", "other"] (defScope s_Ratio___le__) := ⟨rfl, rfl, rfl, by decide +kernel, rfl, by decide +kernel, by decide +kernel⟩
theorem fn_le (T : Tx K mg) : FnR P w K mg base (L2.CX P w) 4 (He.ma K (He.ga K "Ratio") "__le__") (spCmp K fun p q => decide (p ≤ q)) := by
  refine fnr T.f_Ratio___le__ sc_le (fun vs H Q E h => ?_) (fun _ _ _ _ _ _ us hl => match us, hl with | [_, _], _ => rfl) fun cdv A outer s H vs Q E hr h => ?_
  · obtain ⟨x, y, p, q, rfl, _⟩ := h
    rfl
  · obtain ⟨x, y, p, q, rfl, hx, hy, lp, lq, k⟩ := h
    refine s_cons (s_unp2 2 3 sc_le.nd (w_checked T hr passX (w_var 1 rfl ⟨q, hy, fun t ht => ⟨t, _, _, rfl, SqT.of upd_same, ?_⟩⟩)))
    have st : Same H _ := same_new (o := .tup [.int q.num, .int (q.den : Int)]) ht
    have hx' := hx.same st
    refine s_one (s_ret (w_cmp op_le (w_op op_mulW (w_top T (w_var 0 rfl ⟨p, hx', w_var 3 rfl ⟨_, _, rfl, rfl, cmul lp.1 (RM.den_lt lq), ?_⟩⟩)))))
    refine w_op op_mulW (w_var 2 rfl (w_bot T (w_var 0 rfl ⟨p, hx', _, _, rfl, rfl, cmul lq.1 (RM.den_lt lp), _, _, rfl, rfl, ?_⟩)))
    have z : Q (.bl (decide (p ≤ q))) _ := k _ st
    rw [show decide (p ≤ q) = decide (p.num * (q.den : Int) ≤ q.num * (p.den : Int)) from decide_eq_decide.mpr (RM.le_iff p q)] at z
    exact z
end
end LW
namespace LW
open PySem PySem.Spec PyProof.Rows L2 PR
theorem Arg.same {K : PySem.W.Frag} {H H' : Hp} {v : V} {q : Rat} (h : Arg K H v (some q)) (s : Same H H') : Arg K H' v (some q) := by
  generalize ho : some q = o at h
  cases h with
  | int n e => exact .int n e
  | rat p h => exact .rat p (h.same s)
  | odd t h m => cases ho
theorem Arg.mate {K : PySem.W.Frag} {H : Hp} {v : V} {q : Rat} (h : Arg K H v (some q)) : Mate (He.ga K "Ratio") H v := by
  generalize ho : some q = o at h
  cases h with
  | int n e => exact .inr ⟨n, e⟩
  | rat p h => obtain ⟨a, dx, e, h⟩ := h; exact .inl ⟨a, dx, _, e, h⟩
  | odd t h m => cases ho
theorem Arg.ty {K : PySem.W.Frag} {mg : Str → Option Value} {H : Hp} {v : V} {o : Option Rat} (T : Tx K mg) (h : Arg K H v o) : ∃ t, TyX K H v t ∧ PySem.W.notFirst K (He.ga K "Ratio") t = true := by
  cases h with
  | int n e => subst e; exact ⟨_, .base (.int n), T.nf_Ratio_int⟩
  | rat p h => exact ⟨_, h.ty T, PH.nf_self _ _⟩
  | odd t h m =>
    refine ⟨_, h, ?_⟩
    unfold kinds at m
    simp only [List.mem_cons, List.not_mem_nil, or_false] at m
    rcases m with rfl | rfl | rfl | rfl | rfl | rfl
    · exact T.nf_Ratio_bool
    · exact T.nf_Ratio_str
    · exact T.nf_Ratio_NoneType
    · exact T.nf_Ratio_list
    · exact T.nf_Ratio_tuple
    · exact T.nf_Ratio_dict
section
variable {X : Cx} {a b e : Expr} {σ : L2.St} {H : Hp} {Q : VK} {Qb : Bool → Hp → Prop} {E : XK} {p pos apos : Pos}
/-- x + y and its like, x a Ratio, y a number -/
def rNum (K : PySem.W.Frag) (f : Rat → Rat → Rat) : R2 := fun x y H Q => ∃ p q, Rt K H x p ∧ Arg K H y (some q) ∧ RM.Lt p 4000 ∧ RM.Lt q 4000 ∧ ∀ v H', Same H H' → Rt K H' v (f p q) → Q v H'
theorem op_own_imp {f : Value → Value → Sem Value} {r r' : R2} (h : OpR X f r) (k : ∀ x y H Q, r' x y H Q → r x y H Q) : OpR X f r' := fun pins s σ H x y v u Q I rx ry q => h pins s σ H x y v u Q I rx ry (k x y H Q q)
theorem un_imp {f : Value → Sem Value} {r r' : V → Hp → VK → Prop} (h : UnR X f r) (k : ∀ x H Q, r' x H Q → r x H Q) : UnR X f r' := fun pins s σ H x v Q I rx q => h pins s σ H x v Q I rx (k x H Q q)
theorem op_radd (T : Tx X.K X.mg) (hr : Room 5 X.A) : OpR X (binaryOp .Add) (rNum X.K (· + ·)) := op_own_imp (op_ownB T.o_Ratio_add (fn_add T) hr passL) fun x y H Q ⟨p, q, hx, hy, lp, lq, k⟩ => by
  obtain ⟨a, dx, e, h⟩ := id hx
  exact ⟨a, dx, _, e, h, hy.mate, x, y, p, q, rfl, hx, hy, lp, lq, k⟩
theorem op_rsub (T : Tx X.K X.mg) (hr : Room 5 X.A) : OpR X (binaryOp .Sub) (rNum X.K (· - ·)) := op_own_imp (op_ownB T.o_Ratio_sub (fn_sub T) hr passL) fun x y H Q ⟨p, q, hx, hy, lp, lq, k⟩ => by
  obtain ⟨a, dx, e, h⟩ := id hx
  exact ⟨a, dx, _, e, h, hy.mate, x, y, p, q, rfl, hx, hy, lp, lq, k⟩
theorem op_rmul (T : Tx X.K X.mg) (hr : Room 5 X.A) : OpR X (binaryOp .Mult) (rNum X.K (· * ·)) := op_own_imp (op_ownB T.o_Ratio_mul (fn_mul T) hr passL) fun x y H Q ⟨p, q, hx, hy, lp, lq, k⟩ => by
  obtain ⟨a, dx, e, h⟩ := id hx
  exact ⟨a, dx, _, e, h, hy.mate, x, y, p, q, rfl, hx, hy, lp, lq, k⟩
theorem un_rneg (T : Tx X.K X.mg) (hr : Room 5 X.A) : UnR X (unaryOp .USub) (fun x H Q => ∃ p, Rt X.K H x p ∧ RM.Lt p 4000 ∧ ∀ v H', Same H H' → Rt X.K H' v (-p) → Q v H') :=
  un_imp (un_own T.d_Ratio_neg.at_ T.d_Ratio_neg.fn (fn_neg T) hr passL) fun x H Q ⟨p, hx, lp, k⟩ => by
  obtain ⟨a, dx, e, h⟩ := id hx
  exact ⟨a, dx, _, e, h, x, p, rfl, hx, lp, k⟩
def rNumB (K : PySem.W.Frag) (f : Rat → Rat → Bool) : R2 := fun x y H Q => ∃ p q, Rt K H x p ∧ Arg K H y (some q) ∧ RM.Lt p 4000 ∧ RM.Lt q 4000 ∧ ∀ H', Same H H' → Q (.bl (f p q)) H'
def rNumE (K : PySem.W.Frag) (g : Bool → Bool) : R2 := fun x y H Q => ∃ p o, Rt K H x p ∧ Arg K H y o ∧ ∀ H', Same H H' → Q (.bl (g (decide (o = some p)))) H'
theorem op_rlt (T : Tx X.K X.mg) (hr : Room 4 X.A) : OpR X (compareOp .Lt) (rNumB X.K fun p q => decide (p < q)) := op_own_imp (op_ownC (fun _ _ => rfl) T.d_Ratio_lt.at_ T.d_Ratio_lt.fn (fn_lt T) hr passL) fun x y H Q ⟨p, q, hx, hy, lp, lq, k⟩ => by
  obtain ⟨a, dx, e, h⟩ := id hx
  obtain ⟨t, ty, nf⟩ := hy.ty T
  exact ⟨a, dx, _, t, e, h, ty, nf, x, y, p, q, rfl, hx, hy, lp, lq, k⟩
theorem op_rle (T : Tx X.K X.mg) (hr : Room 4 X.A) : OpR X (compareOp .LtE) (rNumB X.K fun p q => decide (p ≤ q)) := op_own_imp (op_ownC (fun _ _ => rfl) T.d_Ratio_le.at_ T.d_Ratio_le.fn (fn_le T) hr passL) fun x y H Q ⟨p, q, hx, hy, lp, lq, k⟩ => by
  obtain ⟨a, dx, e, h⟩ := id hx
  obtain ⟨t, ty, nf⟩ := hy.ty T
  exact ⟨a, dx, _, t, e, h, ty, nf, x, y, p, q, rfl, hx, hy, lp, lq, k⟩
theorem op_req (T : Tx X.K X.mg) (hr : Room 3 X.A) : OpR X (compareOp .Eq) (rNumE X.K fun b => b) := op_own_imp (op_ownC (fun _ _ => rfl) T.d_Ratio_eq.at_ T.d_Ratio_eq.fn (fn_eq T) hr passL) fun x y H Q ⟨p, o, hx, hy, k⟩ => by
  obtain ⟨a, dx, e, h⟩ := id hx
  obtain ⟨t, ty, nf⟩ := hy.ty T
  exact ⟨a, dx, _, t, e, h, ty, nf, x, y, p, o, rfl, hx, hy, k⟩
theorem op_rne (T : Tx X.K X.mg) (hr : Room 4 X.A) : OpR X (compareOp .NotEq) (rNumE X.K fun b => !b) := op_own_imp (op_ownN T.d_Ratio_eq.at_ T.d_Ratio_eq.fn T.ne_Ratio T.isi_Ratio.hm (fn_eq T) hr passL) fun x y H Q ⟨p, o, hx, hy, k⟩ => by
  obtain ⟨a, dx, e, h⟩ := id hx
  obtain ⟨t, ty, nf⟩ := hy.ty T
  exact ⟨a, dx, _, t, e, h, ty, nf, x, y, p, o, rfl, hx, hy, fun H' s => ⟨_, rfl, k H' s⟩⟩
end
section
variable {P : Program} {w : World} {K : PySem.W.Frag} {mg : Str → Option Value} {base : Heap}
/-! ### over -/
theorem sc_over : FnScope ["self", "number", "top", "bottom"] ["self", "number"] (defScope s_Ratio_over) := ⟨rfl, rfl, rfl, by decide +kernel, rfl, by decide +kernel, by decide +kernel⟩
theorem wb_over (T : Tx K mg) {cdv : Value} {A : Around} {outer : List Env} {s : Shared} {H : Hp} {vs : List V} {Q : VK} {E : XK} (hr : Room 4 (A.deeper (envOfC "Ratio.over" (defScope s_Ratio_over) s.heap.objs.size (He.ma K (He.ga K "Ratio") "over") cdv))) (h : spOver K vs H Q E) :
    Wb (cxOf (L2.CX P w) P w K mg base ["self", "number", "top", "bottom"] "Ratio.over" (defScope s_Ratio_over) (He.ma K (He.ga K "Ratio") "over") cdv A outer s H E) (defBody s_Ratio_over) { nx := fun _ H' => Q .non H', rt := Q } (start ["self", "number", "top", "bottom"] vs) H := by
  obtain ⟨x, y, p, q, rfl, hx, hy, lp, lq, k1, k2⟩ := h
  refine s_cons (s_unp2 2 3 sc_over.nd (w_checked T (hr.mono (by decide)) passX (w_var 1 rfl ⟨q, hy, fun t ht => ⟨t, _, _, rfl, SqT.of upd_same, ?_⟩⟩)))
  have st : Same H _ := same_new (o := .tup [.int q.num, .int (q.den : Int)]) ht
  have hx' := hx.same st
  refine s_one (s_ret (w_ratio T hr passX (a_cons (w_op op_mulW (w_top T (w_var 0 rfl ⟨p, hx', w_var 3 rfl ⟨_, _, rfl, rfl, cmul lp.1 (RM.den_lt lq), ?_⟩⟩))))))
  refine a_cons (w_op op_mulW (w_bot T (w_var 0 rfl ⟨p, hx', w_var 2 rfl ⟨_, _, rfl, rfl, cmul (RM.den_lt lp) lq.1, ?_⟩⟩)))
  refine a_nil ⟨_, _, rfl, bot_lt (RM.den_lt lp) lq.1, fun hn v H' s2 hv => k1 ?_ v H' (st.trans s2) ?_, fun z H' s2 => k2 ?_ H' (st.trans s2)⟩
  · intro hq
    subst hq
    exact hn (by show (p.den : Int) * 0 = 0; omega)
  · rw [RM.div_eq]
    exact hv
  · rcases Int.mul_eq_zero.mp z with z | z
    · exact absurd z (RM.den_ne p)
    · exact Rat.num_eq_zero.mp z
theorem len_over : ∀ vs H Q E, spOver K vs H Q E → vs.length = (["self", "number"] : List Str).length := fun vs H Q E h => by
  obtain ⟨x, y, p, q, rfl, _⟩ := h
  rfl
theorem fn_over (T : Tx K mg) : FnR P w K mg base (L2.CX P w) 5 (He.ma K (He.ga K "Ratio") "over") (spOver K) :=
  fnr T.f_Ratio_over sc_over len_over (fun _ _ _ _ _ _ us hl => match us, hl with | [_, _], _ => rfl) fun cdv A outer s H vs Q E hr h => wb_over T hr h
/-! ### as_ratio -/
def spAs (K : PySem.W.Frag) : Sp := fun vs H Q E => ∃ (x : V) (o : Option Rat), vs = [x] ∧ Arg K H x o ∧ (∀ q, o = some q → RM.Lt q 9000 ∧ ∀ v H', Same H H' → Rt K H' v q → Q v H') ∧
  (o = none → ∀ d, H d = none → E (.ref (He.ga K "BadNumber")) (some d) (upd H d (.xd [("given", x)])))
theorem sc_as_ratio : FnScope ["given", "top", "bottom"] ["given"] (defScope s_as_ratio) := ⟨rfl, rfl, rfl, by decide +kernel, rfl, by decide +kernel, by decide +kernel⟩
theorem wb_as_ratio (T : Tx K mg) {cdv : Value} {A : Around} {outer : List Env} {s : Shared} {H : Hp} {vs : List V} {Q : VK} {E : XK} (hr : Room 4 (A.deeper (envOfC "as_ratio" (defScope s_as_ratio) s.heap.objs.size (He.ga K "as_ratio") cdv))) (h : spAs K vs H Q E) :
    Wb (cxOf (L2.CX P w) P w K mg base ["given", "top", "bottom"] "as_ratio" (defScope s_as_ratio) (He.ga K "as_ratio") cdv A outer s H E) (defBody s_as_ratio) { nx := fun _ H' => Q .non H', rt := Q } (start ["given", "top", "bottom"] vs) H := by
  obtain ⟨x, o, rfl, ha, k1, k2⟩ := h
  refine s_cons (s_unp2 1 2 sc_as_ratio.nd (w_call (fn_checked T) (hr.mono (by decide)) T.g_checked (kept T.f_checked) passX (a_cons (w_var 0 rfl (a_nil ⟨x, o, rfl, ha, fun q e t ht => ⟨t, _, _, rfl, SqT.of upd_same, ?_⟩, k2⟩)))))
  obtain ⟨lq, k⟩ := k1 q e
  have st : Same H _ := same_new (o := .tup [.int q.num, .int (q.den : Int)]) ht
  refine s_one (s_ret (w_ratio T hr passX (a_cons (w_var 1 rfl (a_cons (w_var 2 rfl (a_nil ⟨_, _, rfl, lq.2, fun _ v H' s2 hv => k v H' (st.trans s2) ?_, fun z => absurd z (RM.den_ne q)⟩)))))))
  rw [Rat.num_divInt_den] at hv
  exact hv
theorem len_as_ratio : ∀ vs H Q E, spAs K vs H Q E → vs.length = (["given"] : List Str).length := fun vs H Q E h => by
  obtain ⟨x, o, rfl, _⟩ := h
  rfl
theorem fn_as_ratio (T : Tx K mg) : FnR P w K mg base (L2.CX P w) 5 (He.ga K "as_ratio") (spAs K) :=
  fnr T.f_as_ratio sc_as_ratio len_as_ratio (fun _ _ _ _ _ _ us hl => match us, hl with | [_], _ => rfl) fun cdv A outer s H vs Q E hr h => wb_as_ratio T hr h
end
section
variable {X : Cx} {e : Expr} {σ : L2.St} {H : Hp} {Q : VK} {p pos : Pos}
theorem w_as_ratio (T : Tx X.K X.mg) (hr : Room 5 X.A) (h : We X e σ H fun x H1 => ∃ q, Arg X.K H1 x (some q) ∧ RM.Lt q 9000 ∧ ∀ v H', Same H1 H' → Rt X.K H' v q → Q v H')
    (hg : Gl X "as_ratio" := by rfl) (he : starEach [e] X.env = (false, eval e X.env) :: starEach [] X.env := by rfl) (hpl : (backTo pos (starEach [] X.env)).any (·.1) = false := by rfl) : We X (.Call (.Name "as_ratio" p) [e] [] pos) σ H Q := by
  refine w_call (fn_as_ratio T) hr T.g_as_ratio (kept T.f_as_ratio) passL (a_cons (We.mono h fun x H1 z => ?_) he) hg (by decide) he hpl
  obtain ⟨q, ha, lq, k⟩ := z
  exact a_nil ⟨x, some q, rfl, ha, fun q' e => by cases e; exact ⟨lq, k⟩, fun e => nomatch e⟩
end
end LW
namespace LW
open PySem PySem.Spec PyProof.Rows L2 PR
def sumR (qs : List Rat) : Rat := qs.foldl (· + ·) 0
theorem sumR_snoc (qs : List Rat) (q : Rat) : sumR (qs ++ [q]) = sumR qs + q := by
  unfold sumR
  rw [List.foldl_append]
  rfl
theorem take_snoc {α : Type} : ∀ {l : List α} {i : Nat} {x : α}, l[i]? = some x → l.take (i + 1) = l.take i ++ [x]
  | [], i, x, h => by simp at h
  | a :: l, 0, x, h => by
    have e : a = x := Option.some.inj h
    subst e
    rfl
  | a :: l, i + 1, x, h => by
    have ih := take_snoc (l := l) (i := i) (x := x) h
    show a :: l.take (i + 1) = a :: l.take i ++ [x]
    rw [ih]
    rfl
/-- values that are numbers, one by one -/
def Nums (K : PySem.W.Frag) (H : Hp) (xs : List V) (qs : List Rat) : Prop := xs.length = qs.length ∧ ∀ (i : Nat) (x : V), xs[i]? = some x → ∃ q, qs[i]? = some q ∧ Arg K H x (some q)
theorem Nums.nil {K : PySem.W.Frag} {H : Hp} : Nums K H [] [] := ⟨rfl, fun i x h => by simp at h⟩
theorem Nums.cons {K : PySem.W.Frag} {H : Hp} {x : V} {q : Rat} {xs : List V} {qs : List Rat} (h : Arg K H x (some q)) (t : Nums K H xs qs) : Nums K H (x :: xs) (q :: qs) :=
  ⟨congrArg (· + 1) t.1, fun i y e => match i, e with
    | 0, e => ⟨q, rfl, by have z : x = y := Option.some.inj e; subst z; exact h⟩
    | i + 1, e => t.2 i y e⟩
theorem Nums.same {K : PySem.W.Frag} {H H' : Hp} {xs : List V} {qs : List Rat} (h : Nums K H xs qs) (s : Same H H') : Nums K H' xs qs := ⟨h.1, fun i x e => by
  obtain ⟨q, e1, e2⟩ := h.2 i x e
  exact ⟨q, e1, e2.same s⟩⟩
section
variable {P : Program} {w : World} {K : PySem.W.Frag} {mg : Str → Option Value} {base : Heap}
/-! ### lesser, greater -/
def spLess (K : PySem.W.Frag) (f : Rat → Rat → Rat) : Sp := fun vs H Q _ => ∃ (x y : V) (p q : Rat), vs = [x, y] ∧ Arg K H x (some p) ∧ Arg K H y (some q) ∧ RM.Lt p 4000 ∧ RM.Lt q 4000 ∧ ∀ v H', Same H H' → Rt K H' v (f p q) → Q v H'
theorem sc_lesser : FnScope ["one", "other"] ["one", "other"] (defScope s_lesser) := ⟨rfl, rfl, rfl, by decide +kernel, rfl, by decide +kernel, by decide +kernel⟩
theorem fn_lesser (T : Tx K mg) : FnR P w K mg base (L2.CX P w) 6 (He.ga K "lesser") (spLess K fun p q => if p < q then p else q) := by
  refine fnr T.f_lesser sc_lesser (fun vs H Q E h => ?_) (fun _ _ _ _ _ _ us hl => match us, hl with | [_, _], _ => rfl) fun cdv A outer s H vs Q E hr h => ?_
  · obtain ⟨x, y, p, q, rfl, _⟩ := h
    rfl
  · obtain ⟨x, y, p, q, rfl, hx, hy, lp, lq, k⟩ := h
    have lp' : RM.Lt p 9000 := lp.mono (by decide)
    have lq' : RM.Lt q 9000 := lq.mono (by decide)
    refine s_one (s_ret (w_ife (t_cmp (op_rlt T (hr.mono (by decide))) (w_as_ratio T hr (w_var 0 rfl ⟨p, hx, lp', fun v1 H1 s1 h1 => w_var 1 rfl ⟨p, q, h1, hy.same s1, lp, lq, fun H2 s2 => ⟨_, rfl, ?_⟩⟩⟩)))))
    have s12 : Same H H2 := s1.trans s2
    by_cases hlt : p < q
    · replace k : ∀ v H', Same H H' → Rt K H' v (if p < q then p else q) → Q v H' := k
      rw [if_pos hlt] at k
      exact ifT (decide_eq_true hlt) (w_as_ratio T hr (w_var 0 rfl ⟨p, hx.same s12, lp', fun v H3 s3 hv => k v H3 (s12.trans s3) hv⟩))
    · replace k : ∀ v H', Same H H' → Rt K H' v (if p < q then p else q) → Q v H' := k
      rw [if_neg hlt] at k
      exact ifF (decide_eq_false hlt) (w_as_ratio T hr (w_var 1 rfl ⟨q, hy.same s12, lq', fun v H3 s3 hv => k v H3 (s12.trans s3) hv⟩))
theorem sc_greater : FnScope ["one", "other"] ["one", "other"] (defScope s_greater) := ⟨rfl, rfl, rfl, by decide +kernel, rfl, by decide +kernel, by decide +kernel⟩
theorem fn_greater (T : Tx K mg) : FnR P w K mg base (L2.CX P w) 6 (He.ga K "greater") (spLess K fun p q => if p < q then q else p) := by
  refine fnr T.f_greater sc_greater (fun vs H Q E h => ?_) (fun _ _ _ _ _ _ us hl => match us, hl with | [_, _], _ => rfl) fun cdv A outer s H vs Q E hr h => ?_
  · obtain ⟨x, y, p, q, rfl, _⟩ := h
    rfl
  · obtain ⟨x, y, p, q, rfl, hx, hy, lp, lq, k⟩ := h
    have lp' : RM.Lt p 9000 := lp.mono (by decide)
    have lq' : RM.Lt q 9000 := lq.mono (by decide)
    refine s_one (s_ret (w_ife (t_cmp (op_rlt T (hr.mono (by decide))) (w_as_ratio T hr (w_var 0 rfl ⟨p, hx, lp', fun v1 H1 s1 h1 => w_var 1 rfl ⟨p, q, h1, hy.same s1, lp, lq, fun H2 s2 => ⟨_, rfl, ?_⟩⟩⟩)))))
    have s12 : Same H H2 := s1.trans s2
    by_cases hlt : p < q
    · replace k : ∀ v H', Same H H' → Rt K H' v (if p < q then q else p) → Q v H' := k
      rw [if_pos hlt] at k
      exact ifT (decide_eq_true hlt) (w_as_ratio T hr (w_var 1 rfl ⟨q, hy.same s12, lq', fun v H3 s3 hv => k v H3 (s12.trans s3) hv⟩))
    · replace k : ∀ v H', Same H H' → Rt K H' v (if p < q then q else p) → Q v H' := k
      rw [if_neg hlt] at k
      exact ifF (decide_eq_false hlt) (w_as_ratio T hr (w_var 0 rfl ⟨p, hx.same s12, lp', fun v H3 s3 hv => k v H3 (s12.trans s3) hv⟩))
/-! ### total -/
def spTotal (K : PySem.W.Frag) : Sp := fun vs H Q _ => ∃ (a : Addr) (xs : List V) (qs : List Rat), vs = [.ref a] ∧ SqL K H a xs ∧ Nums K H xs qs ∧ (∀ i, i < qs.length → RM.Lt (sumR (qs.take i)) 4000) ∧ (∀ q ∈ qs, RM.Lt q 4000) ∧
  ∀ v H', Same H H' → Rt K H' v (sumR qs) → Q v H'
theorem sc_total : FnScope ["numbers", "found", "number"] ["numbers"] (defScope s_total) := ⟨rfl, rfl, rfl, by decide +kernel, rfl, by decide +kernel, by decide +kernel⟩
theorem len_total : ∀ vs H Q E, spTotal K vs H Q E → vs.length = (["numbers"] : List Str).length := fun vs H Q E h => by
  obtain ⟨a, xs, qs, rfl, _⟩ := h
  rfl
theorem wb_total (T : Tx K mg) {cdv : Value} {A : Around} {outer : List Env} {s : Shared} {H : Hp} {vs : List V} {Q : VK} {E : XK} (hr : Room 5 (A.deeper (envOfC "total" (defScope s_total) s.heap.objs.size (He.ga K "total") cdv))) (h : spTotal K vs H Q E) :
    Wb (cxOf (L2.CX P w) P w K mg base ["numbers", "found", "number"] "total" (defScope s_total) (He.ga K "total") cdv A outer s H E) (defBody s_total) { nx := fun _ H' => Q .non H', rt := Q } (start ["numbers", "found", "number"] vs) H := by
  obtain ⟨a, xs, qs, rfl, hl, hn, lt, lq, k⟩ := h
  refine s_cons (s_set 1 sc_total.nd (w_ratio1 T (hr.mono (by decide)) passL (a_cons (w_int (a_nil ⟨0, rfl, fun v0 H0 s0 h0 => ?_⟩)))))
  refine s_cons (s_forl 2 (passes_of rfl) sc_total.nd (w_var 0 rfl ⟨a, xs, fun i σ H1 => ∃ (v : V) (z : Option V), σ = [some (.ref a), some v, z] ∧ Same H H1 ∧ Rt K H1 v (sumR (qs.take i)), rfl, s0.seq hl, ⟨v0, none, rfl, s0, h0⟩,
    fun j σ H1 _ ⟨_, _, _, s1, _⟩ => s1.seq hl, ?_, ?_⟩))
  · rintro j y σ H1 hj ⟨v, z, rfl, s1, hv⟩
    obtain ⟨q, e1, e2⟩ := hn.2 j y hj
    have hjl : j < qs.length := (List.getElem?_eq_some_iff.mp e1).1
    refine s_one (s_set 1 sc_total.nd (w_op (op_radd T hr) (w_var 1 rfl (w_var 2 rfl ⟨_, q, hv, e2.same s1, lt j hjl, lq q (List.mem_of_getElem? e1), fun v2 H2 s2 h2 => ?_⟩))))
    refine ⟨v2, some y, rfl, s1.trans s2, ?_⟩
    rw [take_snoc e1, sumR_snoc]
    exact h2
  · rintro σ H1 ⟨v, z, rfl, s1, hv⟩
    rw [hn.1, List.take_length] at hv
    exact s_one (s_ret (w_var 1 rfl (k v H1 s1 hv)))
theorem fn_total (T : Tx K mg) : FnR P w K mg base (L2.CX P w) 6 (He.ga K "total") (spTotal K) :=
  fnr T.f_total sc_total len_total (fun _ _ _ _ _ _ us hl => match us, hl with | [_], _ => rfl) fun cdv A outer s H vs Q E hr h => wb_total T hr h
/-! ### raised -/
def spRaised (K : PySem.W.Frag) : Sp := fun vs H Q _ => ∃ (x : V) (q : Rat) (n : Nat), vs = [x, .int n] ∧ n < 1000000 ∧ Arg K H x (some q) ∧ RM.Lt q 4000 ∧ (∀ i, i < n → RM.Lt (q ^ i) 4000) ∧ ∀ v H', Same H H' → Rt K H' v (q ^ n) → Q v H'
theorem sc_raised : FnScope ["number", "exponent", "found", "turn"] ["number", "exponent"] (defScope s_raised) := ⟨rfl, rfl, rfl, by decide +kernel, rfl, by decide +kernel, by decide +kernel⟩
theorem len_raised : ∀ vs H Q E, spRaised K vs H Q E → vs.length = (["number", "exponent"] : List Str).length := fun vs H Q E h => by
  obtain ⟨x, q, n, rfl, _⟩ := h
  rfl
theorem wb_raised (T : Tx K mg) {cdv : Value} {A : Around} {outer : List Env} {s : Shared} {H : Hp} {vs : List V} {Q : VK} {E : XK} (hr : Room 5 (A.deeper (envOfC "raised" (defScope s_raised) s.heap.objs.size (He.ga K "raised") cdv))) (h : spRaised K vs H Q E) :
    Wb (cxOf (L2.CX P w) P w K mg base ["number", "exponent", "found", "turn"] "raised" (defScope s_raised) (He.ga K "raised") cdv A outer s H E) (defBody s_raised) { nx := fun _ H' => Q .non H', rt := Q } (start ["number", "exponent", "found", "turn"] vs) H := by
  obtain ⟨x, q, n, rfl, hn, hx, lq, lt, k⟩ := h
  refine s_cons (s_set 2 sc_raised.nd (w_ratio1 T (hr.mono (by decide)) passL (a_cons (w_int (a_nil ⟨1, rfl, fun v0 H0 s0 h0 => ?_⟩)))))
  refine s_cons (s_forr 3 (passes_of rfl) sc_raised.nd T.b_range (w_var 1 rfl ⟨n, fun i σ H1 => ∃ (v : V) (z : Option V), σ = [some x, some (.int n), some v, z] ∧ Same H H1 ∧ Rt K H1 v (q ^ i), rfl, hn, ⟨v0, none, rfl, s0, by rw [Rat.pow_zero]; exact h0⟩, ?_, ?_⟩))
  · rintro j σ H1 hj ⟨v, z, rfl, s1, hv⟩
    refine s_one (s_set 2 sc_raised.nd (w_op (op_rmul T hr) (w_var 2 rfl (w_var 0 rfl ⟨_, q, hv, hx.same s1, lt j hj, lq, fun v2 H2 s2 h2 => ?_⟩))))
    refine ⟨v2, some (.int j), rfl, s1.trans s2, ?_⟩
    rw [Rat.pow_succ]
    exact h2
  · rintro σ H1 ⟨v, z, rfl, s1, hv⟩
    exact s_one (s_ret (w_var 2 rfl (k v H1 s1 hv)))
theorem fn_raised (T : Tx K mg) : FnR P w K mg base (L2.CX P w) 6 (He.ga K "raised") (spRaised K) :=
  fnr T.f_raised sc_raised len_raised (fun _ _ _ _ _ _ us hl => match us, hl with | [_, _], _ => rfl) fun cdv A outer s H vs Q E hr h => wb_raised T hr h
end
end LW
namespace LW
open PySem PySem.Spec PyProof.Rows L2 PR
def CPowW (i j : Int) : Prop := 0 ≤ j ∧ j ≤ 1000 ∧ i.natAbs < 2 ^ 1000
theorem op_powW {X : Cx} : OpR X (binaryOp .Pow) (rI CPowW fun i j => .int (i ^ j.toNat)) := opI fun i j _ _ _ _ _ hc q => by
  obtain ⟨h0, h1, h2⟩ := hc
  refine pow_int h0 ?_ q
  have hl : i.natAbs.log2 < 1000 := PySem.Flt.log2_lt_of (by decide) h2
  have hb : Builtin.Int.intBits i ≤ 1001 := by
    unfold Builtin.Int.intBits
    split <;> omega
  have h3 : ((Builtin.Int.intBits i : Nat) : Int) ≤ 1001 := by omega
  have h4 : ((Builtin.Int.intBits i : Nat) : Int) * j ≤ 1001 * 1000 := Int.mul_le_mul h3 h1 h0 (by decide)
  exact Int.le_trans h4 (by decide)
/-- the box: digits, a count of at most N draws, a start -/
def Bx (H : Hp) (b : Addr) (N : Nat) : Prop := ∃ n c d : Int, H b = some (.lst [.int n, .int c, .int d]) ∧ 0 ≤ n ∧ 0 ≤ c ∧ c ≤ N ∧ 0 ≤ d ∧ d ≤ 4000000
/-- all but what stands at b is as it was -/
def Kp (b : Addr) (H H' : Hp) : Prop := ∀ a o, a ≠ b → H a = some o → H' a = some o
theorem Kp.refl (b : Addr) (H : Hp) : Kp b H H := fun _ _ _ h => h
theorem Kp.trans {b : Addr} {H H1 H2 : Hp} (h : Kp b H H1) (k : Kp b H1 H2) : Kp b H H2 := fun a o n e => k a o n (h a o n e)
theorem _root_.L2.Same.kp {b : Addr} {H H' : Hp} (s : Same H H') : Kp b H H' := fun a o _ e => s a o e
theorem kp_upd {b : Addr} {H : Hp} {o : HO} : Kp b H (upd H b o) := fun a u n e => by rw [upd_ne n]; exact e
theorem Bx.same {H H' : Hp} {b : Addr} {N : Nat} (h : Bx H b N) (s : Same H H') : Bx H' b N := by
  obtain ⟨n, c, d, e, r⟩ := h
  exact ⟨n, c, d, s _ _ e, r⟩
theorem Bx.ne {H : Hp} {a b : Addr} {N : Nat} {o : HO} (h : Bx H b N) (e : H a = some o) (n : ∀ xs, o ≠ .lst xs) : a ≠ b := by
  obtain ⟨_, _, _, e2, _⟩ := h
  exact ne_of e e2 (n _)
section
variable {P : Program} {w : World} {K : PySem.W.Frag} {mg : Str → Option Value} {base : Heap}
/-! ### cell, box -/
def spCell (K : PySem.W.Frag) : Sp := fun vs H Q _ => ∃ (a : Addr) (ns : List Int) (k : Nat), vs = [.ref a, .int k] ∧ SqL K H a (ns.map V.int) ∧ Q (.int (ns.getD k 0)) H
theorem sc_cell : FnScope ["_law_script", "_law_k"] ["_law_script", "_law_k"] (defScope s__law_cell) := ⟨rfl, rfl, rfl, by decide +kernel, rfl, by decide +kernel, by decide +kernel⟩
theorem fn_cell (T : Tx K mg) : FnR P w K mg base (L2.CX P w) 1 (He.ga K "_law_cell") (spCell K) := by
  refine fnr T.f__law_cell sc_cell (fun vs H Q E h => ?_) (fun _ _ _ _ _ _ us hl => match us, hl with | [_, _], _ => rfl) fun cdv A outer s H vs Q E hr h => ?_
  · obtain ⟨a, ns, k, rfl, _⟩ := h
    rfl
  · obtain ⟨a, ns, k, rfl, hl, q⟩ := h
    refine s_one (s_ret (w_ife (t_cmp op_lt (w_var 1 rfl (w_callB call_len T.b_len (by decide +kernel) (a_cons (w_var 0 rfl (a_nil ⟨_, (ns.map V.int).length, rfl, .inl ⟨_, hl, rfl⟩, _, _, rfl, rfl, _, rfl, ?_⟩))))))))
    by_cases hk : k < ns.length
    · refine ifT (decide_eq_true (by rw [List.length_map]; omega)) ?_
      refine w_ix ix_list (w_var 0 rfl (w_var 1 rfl ⟨a, _, _, .int (ns.getD k 0), rfl, rfl, hl, ?_, q⟩))
      refine atI_nat ?_
      rw [List.getElem?_map, List.getElem?_eq_getElem hk, List.getD_eq_getElem?_getD, List.getElem?_eq_getElem hk]
      rfl
    · refine ifF (decide_eq_false (by rw [List.length_map]; omega)) (w_int ?_)
      have e : ns.getD k 0 = 0 := by rw [List.getD_eq_getElem?_getD, List.getElem?_eq_none (by omega)]; rfl
      rw [e] at q
      exact q
def spBox (K : PySem.W.Frag) : Sp := fun vs H Q _ => ∃ (a : Addr) (ns : List Int) (k : Nat), vs = [.ref a, .int k] ∧ k ≤ 63 ∧ SqL K H a (ns.map V.int) ∧ ∀ b H', H b = none → Same H H' → Bx H' b 0 → Q (.ref b) H'
theorem sc_box : FnScope ["_law_script", "_law_k"] ["_law_script", "_law_k"] (defScope s__law_box) := ⟨rfl, rfl, rfl, by decide +kernel, rfl, by decide +kernel, by decide +kernel⟩
theorem fn_box (T : Tx K mg) : FnR P w K mg base (L2.CX P w) 2 (He.ga K "_law_box") (spBox K) := by
  refine fnr T.f__law_box sc_box (fun vs H Q E h => ?_) (fun _ _ _ _ _ _ us hl => match us, hl with | [_, _], _ => rfl) fun cdv A outer s H vs Q E hr h => ?_
  · obtain ⟨a, ns, k, rfl, _⟩ := h
    rfl
  · obtain ⟨a, ns, k, rfl, hk, hl, q⟩ := h
    refine s_one (s_ret (w_lst (a_cons (w_callB call_abs T.b_abs (by decide +kernel) (a_cons (w_callT call_int1 T.b_int (by decide +kernel) (a_cons (w_call (fn_cell T) hr T.g__law_cell (kept T.f__law_cell) passL
      (a_cons (w_var 0 rfl (a_cons (w_var 1 rfl (a_nil ⟨a, ns, k, rfl, hl, a_nil (.inl ⟨_, rfl, a_nil ⟨_, rfl, ?_⟩⟩)⟩)))))))))))))
    refine a_cons (w_int (a_cons (w_op op_add (w_op op_mul (w_int (w_var 1 rfl ⟨_, _, rfl, rfl, .inl ⟨by decide, by decide⟩, w_int ⟨_, _, rfl, rfl, a_nil ⟨by show 3 ≤ sizeLine; decide, fun b hb => ?_⟩⟩⟩))))))
    refine q b _ hb (same_new hb) ⟨_, _, _, upd_same, ?_, by decide, by decide, by omega, by omega⟩
    split <;> omega
/-! ### take: any number from 0 to below many -/
def spTake : Sp := fun vs H Q _ => ∃ (b : Addr) (m : Int) (N : Nat), vs = [.ref b, .int m] ∧ Bx H b N ∧ N ≤ 1000000 ∧ 0 < m ∧ m.natAbs < 2 ^ 9000 ∧ ∀ r H', 0 ≤ r → r < m → Bx H' b (N + 1) → Kp b H H' → Q (.int r) H'
theorem sc_take : FnScope ["_law_box_here", "_law_many", "_law_digit", "_law_mixed"] ["_law_box_here", "_law_many"] (defScope s__law_take) := ⟨rfl, rfl, rfl, by decide +kernel, rfl, by decide +kernel, by decide +kernel⟩
theorem pow3_lt {i : Int} {n : Nat} (h : i.natAbs < 2 ^ n) : i.natAbs < 2 ^ n := h
theorem fn_take (T : Tx K mg) : FnR P w K mg base (L2.CX P w) 1 (He.ga K "_law_take") spTake := by
  refine fnr T.f__law_take sc_take (fun vs H Q E h => ?_) (fun _ _ _ _ _ _ us hl => match us, hl with | [_, _], _ => rfl) fun cdv A outer s H vs Q E hr h => ?_
  · obtain ⟨b, m, N, rfl, _⟩ := h
    rfl
  · obtain ⟨b, m, N, rfl, ⟨n, c, d, hb, hn, hc0, hcN, hd0, hd1⟩, hN, hm, hm2, q⟩ := h
    have it : ∀ {H : Hp} {n c d : Int}, H b = some (.lst [.int n, .int c, .int d]) → SqL K H b [.int n, .int c, .int d] := fun h => SqL.of h
    refine s_cons (s_if (t_cmp op_ge (w_ix ix_list (w_var 0 rfl (w_int ⟨b, _, 0, _, rfl, rfl, it hb, rfl, w_op op_powW (w_int (w_int ⟨10, 18, rfl, rfl, ⟨by decide, by decide, by decide +kernel⟩, n, _, rfl, rfl, _, rfl, ?_⟩))⟩)))))
    have nd := sc_take.nd
    by_cases hbig : (10 : Int) ^ (18 : Int).toNat ≤ n
    · refine ifT (decide_eq_true hbig) ?_
      refine s_cons (s_set 2 nd (w_op op_mod (w_callT call_int1 T.b_int (by decide +kernel) (a_cons (w_ix ix_list (w_var 0 rfl (w_int ⟨b, _, 0, _, rfl, rfl, it hb, rfl, a_nil (.inl ⟨_, rfl, w_var 1 rfl ⟨_, _, rfl, rfl, hm, ?_⟩⟩)⟩)))))))
      refine s_cons (s_asg (pg_sub peW peW set_list) (w_op op_fdivA (w_ix ix_list (w_var 0 rfl (w_int ⟨b, _, 0, _, rfl, rfl, it hb, rfl, w_var 1 rfl ⟨_, _, rfl, rfl, ⟨by omega, hm2⟩, w_var 0 rfl (w_int ⟨b, _, 0, 0, rfl, rfl, hb, rfl, ?_⟩)⟩⟩)))))
      refine s_one (s_ret (w_var 2 rfl ?_))
      refine q _ _ (Int.emod_nonneg _ (by omega)) (Int.emod_lt_of_pos _ hm) ⟨_, _, _, upd_same, ?_, hc0, by omega, hd0, hd1⟩ kp_upd
      rw [Int.fdiv_eq_ediv_of_nonneg _ (by omega)]
      exact Int.ediv_nonneg hn (by omega)
    · refine ifF (decide_eq_false hbig) (s_nil ?_)
      have hsm : n < 1000000000000000000 := by
        have e : (10 : Int) ^ (18 : Int).toNat = 1000000000000000000 := by decide +kernel
        omega
      refine s_cons (s_asg (pg_sub peW peW set_list) (w_op op_add (w_ix ix_list (w_var 0 rfl (w_int ⟨b, _, 1, _, rfl, rfl, it hb, rfl, w_int ⟨_, _, rfl, rfl, w_var 0 rfl (w_int ⟨b, _, 1, 1, rfl, rfl, hb, rfl, ?_⟩)⟩⟩)))))
      have hb2 : upd H b (.lst (([.int n, .int c, .int d] : List V).set 1 (.int (c + 1)))) b = some (.lst [.int n, .int (c + 1), .int d]) := upd_same
      generalize hH2 : upd H b (.lst (([.int n, .int c, .int d] : List V).set 1 (.int (c + 1)))) = H2 at hb2
      have kp2 : Kp b H H2 := by rw [← hH2]; exact kp_upd
      have done : ∀ r, 0 ≤ r → r < m → Q (.int r) H2 := fun r h1 h2 => q r H2 h1 h2 ⟨n, c + 1, d, hb2, hn, by omega, by omega, hd0, hd1⟩ kp2
      have big1 : ((n + 7) * 69069 + (c + 1) * 40692 + d).natAbs < 2 ^ 1000 := Nat.lt_of_lt_of_le (show _ < 2 ^ 100 by omega) (Nat.pow_le_pow_right (by decide) (by decide))
      refine s_cons (s_set 3 nd (w_op op_mod (w_op op_powW (w_callT call_int1 T.b_int (by decide +kernel) (a_cons (w_op op_add (w_op op_add (w_op op_mul (w_op op_add (w_ix ix_list (w_var 0 rfl (w_int ⟨b, _, 0, _, rfl, rfl, it hb2, rfl, w_int ⟨_, _, rfl, rfl, w_int ⟨_, _, rfl, rfl, .inr ⟨by decide, by decide⟩, ?_⟩⟩⟩))))))))))))
      refine w_op op_mul (w_ix ix_list (w_var 0 rfl (w_int ⟨b, _, 1, _, rfl, rfl, it hb2, rfl, w_int ⟨_, _, rfl, rfl, .inr ⟨by decide, by decide⟩, _, _, rfl, rfl, ?_⟩⟩)))
      refine w_ix ix_list (w_var 0 rfl (w_int ⟨b, _, 2, _, rfl, rfl, it hb2, rfl, _, _, rfl, rfl, a_nil (.inl ⟨_, rfl, w_int ⟨_, _, rfl, rfl, ⟨by decide, by decide, big1⟩, w_int ⟨_, _, rfl, rfl, by show (0 : Int) < 2147483647; decide, ?_⟩⟩⟩)⟩))
      have big2 : ∀ z : Int, 0 ≤ z → z < 2147483647 → (z + (c + 1) * 17389).natAbs < 2 ^ 1000 := fun z h1 h2 => Nat.lt_of_lt_of_le (show _ < 2 ^ 100 by omega) (Nat.pow_le_pow_right (by decide) (by decide))
      refine s_cons (s_set 3 nd (w_op op_mod (w_op op_powW (w_callT call_int1 T.b_int (by decide +kernel) (a_cons (w_op op_add (w_var 3 rfl (w_op op_mul (w_ix ix_list (w_var 0 rfl (w_int ⟨b, _, 1, _, rfl, rfl, it hb2, rfl, w_int ⟨_, _, rfl, rfl, .inr ⟨by decide, by decide⟩, _, _, rfl, rfl, ?_⟩⟩)))))))))))
      refine a_nil (.inl ⟨_, rfl, w_int ⟨_, _, rfl, rfl, ⟨by decide, by decide, big2 _ (Int.emod_nonneg _ (by decide)) (Int.emod_lt_of_pos _ (by decide))⟩, w_int ⟨_, _, rfl, rfl, by show (0 : Int) < 2147483399; decide, ?_⟩⟩⟩)
      refine s_one (s_ret (w_op op_mod (w_callT call_int1 T.b_int (by decide +kernel) (a_cons (w_op op_fdiv (w_var 3 rfl (w_int ⟨_, _, rfl, rfl, ⟨by decide, by decide⟩, a_nil (.inl ⟨_, rfl, w_var 1 rfl ⟨_, _, rfl, rfl, hm, ?_⟩⟩)⟩)))))))
      exact done _ (Int.emod_nonneg _ (by omega)) (Int.emod_lt_of_pos _ hm)
end
section
variable {X : Cx} {e1 e2 : Expr} {σ : L2.St} {H : Hp} {Q : VK} {p pos : Pos}
theorem w_take (T : Tx X.K X.mg) (hr : Room 1 X.A) (h : We X e1 σ H fun x H1 => We X e2 σ H1 fun y H2 => ∃ (b : Addr) (m : Int) (N : Nat), x = .ref b ∧ y = .int m ∧ Bx H2 b N ∧ N ≤ 1000000 ∧ 0 < m ∧ m.natAbs < 2 ^ 9000 ∧ ∀ r H', 0 ≤ r → r < m → Bx H' b (N + 1) → Kp b H2 H' → Q (.int r) H')
    (hg : Gl X "_law_take" := by rfl) (he : starEach [e1, e2] X.env = (false, eval e1 X.env) :: starEach [e2] X.env := by rfl) (he2 : starEach [e2] X.env = (false, eval e2 X.env) :: starEach [] X.env := by rfl) (hpl : (backTo pos (starEach [e2] X.env)).any (·.1) = false := by rfl) : We X (.Call (.Name "_law_take" p) [e1, e2] [] pos) σ H Q := by
  refine w_call (fn_take T) hr T.g__law_take (kept T.f__law_take) passL (a_cons (We.mono h fun x H1 z => a_cons (We.mono z fun y H2 z2 => a_nil ?_) he2) he) hg (by decide) he hpl
  obtain ⟨b, m, N, rfl, rfl, r⟩ := z2
  exact ⟨b, m, N, rfl, r⟩
end
end LW
namespace LW
open PySem PySem.Spec PyProof.Rows L2 PR
/-- v is the pair (top, bottom) of q -/
def Tq (K : PySem.W.Frag) (H : Hp) (v : V) (q : Rat) : Prop := ∃ a, v = .ref a ∧ H a = some (.tup [.int q.num, .int (q.den : Int)])
theorem Tq.same {K : PySem.W.Frag} {H H' : Hp} {v : V} {q : Rat} (h : Tq K H v q) (s : Same H H') : Tq K H' v q := by
  obtain ⟨a, e, h⟩ := h
  exact ⟨a, e, s _ _ h⟩
theorem Tq.kp {K : PySem.W.Frag} {H H' : Hp} {v : V} {q : Rat} {b : Addr} {N : Nat} (h : Tq K H v q) (x : Bx H b N) (s : Kp b H H') : Tq K H' v q := by
  obtain ⟨a, e, h⟩ := h
  exact ⟨a, e, s _ _ (x.ne h (fun _ z => nomatch z)) h⟩
theorem Rt.kp {K : PySem.W.Frag} {H H' : Hp} {v : V} {q : Rat} {b : Addr} {N : Nat} (h : Rt K H v q) (x : Bx H b N) (s : Kp b H H') : Rt K H' v q := by
  obtain ⟨a, dx, e, h⟩ := h
  exact ⟨a, dx, e, s _ _ (x.ne h (fun _ z => nomatch z)) h⟩
theorem tq_new {K : PySem.W.Frag} {H : Hp} {p : Addr} {q : Rat} : Tq K (upd H p (.tup [.int q.num, .int (q.den : Int)])) (.ref p) q := ⟨p, rfl, upd_same⟩
section
variable {X : Cx} {e e1 e2 : Expr} {σ : L2.St} {H : Hp} {Q : VK} {p pos pi : Pos} {ji : Nat}
theorem w_tq0 (h : We X e σ H fun x H1 => ∃ q, Tq X.K H1 x q ∧ Q (.int q.num) H1) : We X (.Subscript e (.Constant (.int 0) ji pi) pos) σ H Q :=
  w_ix ix_tup (We.mono h fun x H1 ⟨q, ⟨a, e, h⟩, k⟩ => w_int ⟨a, _, 0, _, e, rfl, SqT.of h, rfl, k⟩)
theorem w_tq1 (h : We X e σ H fun x H1 => ∃ q, Tq X.K H1 x q ∧ Q (.int (q.den : Int)) H1) : We X (.Subscript e (.Constant (.int 1) ji pi) pos) σ H Q :=
  w_ix ix_tup (We.mono h fun x H1 ⟨q, ⟨a, e, h⟩, k⟩ => w_int ⟨a, _, 1, _, e, rfl, SqT.of h, rfl, k⟩)
end
section
variable {P : Program} {w : World} {K : PySem.W.Frag} {mg : Str → Option Value} {base : Heap}
def spFrac (K : PySem.W.Frag) : Sp := fun vs H Q _ => ∃ a b : Int, vs = [.int a, .int b] ∧ b ≠ 0 ∧ b.natAbs < 2 ^ 9000 ∧ ∀ v H', Same H H' → Tq K H' v (Rat.divInt a b) → Q v H'
theorem sc_frac : FnScope ["_law_up", "_law_down", "_law_one", "_law_other"] ["_law_up", "_law_down"] (defScope s__law_frac) := ⟨rfl, rfl, rfl, by decide +kernel, rfl, by decide +kernel, by decide +kernel⟩
theorem fn_frac (T : Tx K mg) : FnR P w K mg base (L2.CX P w) 1 (He.ga K "_law_frac") (spFrac K) := by
  refine fnr T.f__law_frac sc_frac (fun vs H Q E h => ?_) (fun _ _ _ _ _ _ us hl => match us, hl with | [_, _], _ => rfl) fun cdv A outer s H vs Q E hr h => ?_
  · obtain ⟨a, b, rfl, _⟩ := h
    rfl
  · obtain ⟨a, b, rfl, hb, hb2, q⟩ := h
    refine s_cons (s_par 2 3 sc_frac.nd (a_cons (w_callB call_abs T.b_abs (by decide +kernel) (a_cons (w_var 0 rfl (a_nil ⟨a, rfl, a_cons (w_callB call_abs T.b_abs (by decide +kernel) (a_cons (w_var 1 rfl (a_nil ⟨b, rfl, a_nil ⟨_, _, rfl, ?_⟩⟩))))⟩))))))
    have abse : ∀ z : Int, (if z < 0 then -z else z) = (z.natAbs : Int) := fun z => by split <;> omega
    rw [abse, abse]
    refine s_cons (s_while (passes_of rfl) (fun σ H' => ∃ x y : Int, σ = [some (.int a), some (.int b), some (.int x), some (.int y)] ∧ H' = H ∧ 0 ≤ x ∧ 0 ≤ y ∧ Int.gcd x y = Int.gcd a b) (fun σ _ => match σ with | [_, _, _, some (.int y)] => y.natAbs | _ => 0)
      ⟨_, _, rfl, rfl, by omega, by omega, by show Nat.gcd _ _ = Nat.gcd _ _; simp⟩ ?_)
    rintro σ H' ⟨x, y, rfl, rfl, hx0, hy0, e⟩
    refine t_cmp op_gt (w_var 3 rfl (w_int ⟨_, _, rfl, rfl, _, rfl, ?_⟩))
    by_cases hy : 0 < y
    · refine ifT (decide_eq_true hy) ?_
      refine s_one (s_par 2 3 sc_frac.nd (a_cons (w_var 3 rfl (a_cons (w_op op_modN (w_var 2 rfl (w_var 3 rfl ⟨x, y, rfl, rfl, by omega, a_nil ⟨_, _, rfl, ?_⟩⟩)))))))
      exact ⟨⟨y, x.fmod y, rfl, rfl, hy0, Int.fmod_nonneg_of_pos x hy, (RM.gcd_turn (by omega)).trans e⟩, RM.fmod_small (by omega)⟩
    · refine ifF (decide_eq_false hy) ?_
      have ey : y = 0 := by omega
      subst ey
      have ex : x = (Int.gcd a b : Int) := by rw [← e, Int.gcd_zero_right]; omega
      subst ex
      have hs := RM.sg_ne (a := a) hb
      have hg : (RM.sg a b).natAbs < 2 ^ 9000 := by
        have h1 : (RM.sg a b).natAbs = Int.gcd a b := by unfold RM.sg; split <;> omega
        rw [h1]
        exact Nat.lt_of_le_of_lt (Int.gcd_le_natAbs_right a hb) hb2
      have rest : ∀ v, v = V.int (RM.sg a b) → Wb (cxOf (L2.CX P w) P w K mg base ["_law_up", "_law_down", "_law_one", "_law_other"] "_law_frac" (defScope s__law_frac) (He.ga K "_law_frac") cdv A outer s H' E) ((defBody s__law_frac).drop 3)
          { nx := fun _ H' => Q .non H', rt := Q } [some (.int a), some (.int b), some v, some (.int 0)] H' := by
        rintro v rfl
        refine s_one (s_ret (w_tup (a_cons (w_op op_fdivA (w_var 0 rfl (w_var 2 rfl ⟨_, _, rfl, rfl, ⟨hs, hg⟩, a_cons (w_op op_fdivA (w_var 1 rfl (w_var 2 rfl ⟨_, _, rfl, rfl, ⟨hs, hg⟩, a_nil ⟨by show 2 ≤ sizeLine; decide, fun p hp => ?_⟩⟩)))⟩))))))
        refine q _ _ (same_new hp) ⟨p, rfl, ?_⟩
        rw [upd_same, ← RM.num_eq hb, ← RM.den_eq hb]
      refine s_cons (s_if (t_cmp op_lt (w_var 1 rfl (w_int ⟨_, _, rfl, rfl, _, rfl, ?_⟩))))
      by_cases hn : b < 0
      · refine ifT (decide_eq_true hn) (s_one (s_set 2 sc_frac.nd (w_op op_sub (w_int (w_var 2 rfl ⟨_, _, rfl, rfl, ?_⟩)))))
        exact rest _ (by unfold RM.sg; rw [if_neg (by omega)]; show V.int (0 - _) = _; congr 1; omega)
      · refine ifF (decide_eq_false hn) (s_nil ?_)
        exact rest _ (by unfold RM.sg; rw [if_pos (by omega)])
/-- two pairs -/
def spTq2 (K : PySem.W.Frag) (f : Rat → Rat → Rat) : Sp := fun vs H Q _ => ∃ (x y : V) (p q : Rat), vs = [x, y] ∧ Tq K H x p ∧ Tq K H y q ∧ RM.Lt p 4000 ∧ RM.Lt q 4000 ∧ ∀ v H', Same H H' → Tq K H' v (f p q) → Q v H'
def spTqB (K : PySem.W.Frag) (f : Rat → Rat → Bool) : Sp := fun vs H Q _ => ∃ (x y : V) (p q : Rat), vs = [x, y] ∧ Tq K H x p ∧ Tq K H y q ∧ RM.Lt p 4000 ∧ RM.Lt q 4000 ∧ Q (.bl (f p q)) H
theorem sc_plus : FnScope ["_law_x", "_law_y"] ["_law_x", "_law_y"] (defScope s__law_plus) := ⟨rfl, rfl, rfl, by decide +kernel, rfl, by decide +kernel, by decide +kernel⟩
theorem fn_plus (T : Tx K mg) : FnR P w K mg base (L2.CX P w) 2 (He.ga K "_law_plus") (spTq2 K (· + ·)) := by
  refine fnr T.f__law_plus sc_plus (fun vs H Q E h => ?_) (fun _ _ _ _ _ _ us hl => match us, hl with | [_, _], _ => rfl) fun cdv A outer s H vs Q E hr h => ?_
  · obtain ⟨x, y, p, q, rfl, _⟩ := h
    rfl
  · obtain ⟨x, y, p, q, rfl, hx, hy, lp, lq, k⟩ := h
    refine s_one (s_ret (w_call (fn_frac T) hr T.g__law_frac (kept T.f__law_frac) passL ?_))
    refine a_cons (w_op op_add (w_op op_mulW (w_tq0 (w_var 0 rfl ⟨p, hx, w_tq1 (w_var 1 rfl ⟨q, hy, _, _, rfl, rfl, cmul lp.1 (RM.den_lt lq), ?_⟩)⟩))))
    refine w_op op_mulW (w_tq0 (w_var 1 rfl ⟨q, hy, w_tq1 (w_var 0 rfl ⟨p, hx, _, _, rfl, rfl, cmul lq.1 (RM.den_lt lp), _, _, rfl, rfl, ?_⟩)⟩))
    refine a_cons (w_op op_mulW (w_tq1 (w_var 0 rfl ⟨p, hx, w_tq1 (w_var 1 rfl ⟨q, hy, _, _, rfl, rfl, cmul (RM.den_lt lp) (RM.den_lt lq), ?_⟩)⟩)))
    refine a_nil ⟨_, _, rfl, RM.mul_den_ne p q, bot_lt (RM.den_lt lp) (RM.den_lt lq), fun v H' s2 hv => k v H' s2 ?_⟩
    show Tq K H' v (p + q)
    rw [RM.add_eq]
    exact hv
theorem sc_times : FnScope ["_law_x", "_law_y"] ["_law_x", "_law_y"] (defScope s__law_times) := ⟨rfl, rfl, rfl, by decide +kernel, rfl, by decide +kernel, by decide +kernel⟩
theorem fn_times (T : Tx K mg) : FnR P w K mg base (L2.CX P w) 2 (He.ga K "_law_times") (spTq2 K (· * ·)) := by
  refine fnr T.f__law_times sc_times (fun vs H Q E h => ?_) (fun _ _ _ _ _ _ us hl => match us, hl with | [_, _], _ => rfl) fun cdv A outer s H vs Q E hr h => ?_
  · obtain ⟨x, y, p, q, rfl, _⟩ := h
    rfl
  · obtain ⟨x, y, p, q, rfl, hx, hy, lp, lq, k⟩ := h
    refine s_one (s_ret (w_call (fn_frac T) hr T.g__law_frac (kept T.f__law_frac) passL ?_))
    refine a_cons (w_op op_mulW (w_tq0 (w_var 0 rfl ⟨p, hx, w_tq0 (w_var 1 rfl ⟨q, hy, _, _, rfl, rfl, cmul lp.1 lq.1, ?_⟩)⟩)))
    refine a_cons (w_op op_mulW (w_tq1 (w_var 0 rfl ⟨p, hx, w_tq1 (w_var 1 rfl ⟨q, hy, _, _, rfl, rfl, cmul (RM.den_lt lp) (RM.den_lt lq), ?_⟩)⟩)))
    refine a_nil ⟨_, _, rfl, RM.mul_den_ne p q, bot_lt (RM.den_lt lp) (RM.den_lt lq), fun v H' s2 hv => k v H' s2 ?_⟩
    show Tq K H' v (p * q)
    rw [RM.mul_eq]
    exact hv
theorem sc_less : FnScope ["_law_x", "_law_y"] ["_law_x", "_law_y"] (defScope s__law_less) := ⟨rfl, rfl, rfl, by decide +kernel, rfl, by decide +kernel, by decide +kernel⟩
theorem fn_less (T : Tx K mg) : FnR P w K mg base (L2.CX P w) 1 (He.ga K "_law_less") (spTqB K fun p q => decide (p < q)) := by
  refine fnr T.f__law_less sc_less (fun vs H Q E h => ?_) (fun _ _ _ _ _ _ us hl => match us, hl with | [_, _], _ => rfl) fun cdv A outer s H vs Q E hr h => ?_
  · obtain ⟨x, y, p, q, rfl, _⟩ := h
    rfl
  · obtain ⟨x, y, p, q, rfl, hx, hy, lp, lq, k⟩ := h
    refine s_one (s_ret (w_cmp op_lt (w_op op_mulW (w_tq0 (w_var 0 rfl ⟨p, hx, w_tq1 (w_var 1 rfl ⟨q, hy, _, _, rfl, rfl, cmul lp.1 (RM.den_lt lq), ?_⟩)⟩)))))
    refine w_op op_mulW (w_tq0 (w_var 1 rfl ⟨q, hy, w_tq1 (w_var 0 rfl ⟨p, hx, _, _, rfl, rfl, cmul lq.1 (RM.den_lt lp), _, _, rfl, rfl, ?_⟩)⟩))
    have z : Q (.bl (decide (p < q))) _ := k
    rw [show decide (p < q) = decide (p.num * (q.den : Int) < q.num * (p.den : Int)) from decide_eq_decide.mpr (RM.lt_iff p q)] at z
    exact z
end
end LW
namespace LW
open PySem PySem.Spec PyProof.Rows L2 PR
section
variable {P : Program} {w : World} {K : PySem.W.Frag} {mg : Str → Option Value} {base : Heap}
theorem sc_minus : FnScope ["_law_x", "_law_y"] ["_law_x", "_law_y"] (defScope s__law_minus) := ⟨rfl, rfl, rfl, by decide +kernel, rfl, by decide +kernel, by decide +kernel⟩
theorem fn_minus (T : Tx K mg) : FnR P w K mg base (L2.CX P w) 2 (He.ga K "_law_minus") (spTq2 K (· - ·)) := by
  refine fnr T.f__law_minus sc_minus (fun vs H Q E h => ?_) (fun _ _ _ _ _ _ us hl => match us, hl with | [_, _], _ => rfl) fun cdv A outer s H vs Q E hr h => ?_
  · obtain ⟨x, y, p, q, rfl, _⟩ := h
    rfl
  · obtain ⟨x, y, p, q, rfl, hx, hy, lp, lq, k⟩ := h
    refine s_one (s_ret (w_call (fn_frac T) hr T.g__law_frac (kept T.f__law_frac) passL ?_))
    refine a_cons (w_op op_sub (w_op op_mulW (w_tq0 (w_var 0 rfl ⟨p, hx, w_tq1 (w_var 1 rfl ⟨q, hy, _, _, rfl, rfl, cmul lp.1 (RM.den_lt lq), ?_⟩)⟩))))
    refine w_op op_mulW (w_tq0 (w_var 1 rfl ⟨q, hy, w_tq1 (w_var 0 rfl ⟨p, hx, _, _, rfl, rfl, cmul lq.1 (RM.den_lt lp), _, _, rfl, rfl, ?_⟩)⟩))
    refine a_cons (w_op op_mulW (w_tq1 (w_var 0 rfl ⟨p, hx, w_tq1 (w_var 1 rfl ⟨q, hy, _, _, rfl, rfl, cmul (RM.den_lt lp) (RM.den_lt lq), ?_⟩)⟩)))
    refine a_nil ⟨_, _, rfl, RM.mul_den_ne p q, bot_lt (RM.den_lt lp) (RM.den_lt lq), fun v H' s2 hv => k v H' s2 ?_⟩
    show Tq K H' v (p - q)
    rw [RM.sub_eq]
    exact hv
end
end LW
namespace LW
open PySem PySem.Spec PyProof.Rows L2 PR
theorem Kp.new {b p : Addr} {H H' : Hp} {o : HO} (hp : H p = none) (k : Kp b (upd H p o) H') : Kp b H H' := fun a u n e => k a u n (by rw [upd_ne (ne_of_none e hp)]; exact e)
theorem Bx.at_ {H : Hp} {b : Addr} {N : Nat} (h : Bx H b N) : ∃ o, H b = some o := by
  obtain ⟨_, _, _, e, _⟩ := h
  exact ⟨_, e⟩
theorem Bx.ne_new {H : Hp} {b p : Addr} {N : Nat} (h : Bx H b N) (hp : H p = none) : p ≠ b := fun e => by
  obtain ⟨o, z⟩ := h.at_
  rw [← e, hp] at z
  cases z
theorem Bx.mono {H : Hp} {b : Addr} {N M : Nat} (h : Bx H b N) (k : N ≤ M) : Bx H b M := by
  obtain ⟨n, c, d, e, h1, h2, h3, h4, h5⟩ := h
  exact ⟨n, c, d, e, h1, h2, by omega, h4, h5⟩
theorem small9 {z : Int} (h : z.natAbs < 2 ^ 500) : z.natAbs < 2 ^ 9000 := Nat.lt_of_lt_of_le h (Nat.pow_le_pow_right (by decide) (by decide))
theorem small4 {z : Int} (h : z.natAbs < 2 ^ 500) : z.natAbs < 2 ^ 4000 := Nat.lt_of_lt_of_le h (Nat.pow_le_pow_right (by decide) (by decide))
theorem len_line {n : Nat} (h : n ≤ 1000) : n ≤ sizeLine := by rw [sizeLine_eq]; omega
section
variable {X : Cx} {bx : Expr} {es : List Expr} {σ : L2.St} {H : Hp} {Q : VK} {p pos pl pm ps : Pos} {m : Int} {j : Option Nat}
/-- [..][take(box, m)] -/
theorem w_menu {jj} (T : Tx X.K X.mg) (hr : Room 1 X.A) (h : Wa X es σ H fun xs H1 => (xs.length : Int) = m ∧ 0 < xs.length ∧ xs.length ≤ 1000 ∧ ∀ p, H1 p = none → We X bx σ (upd H1 p (.lst xs)) fun y H2 => H2 = upd H1 p (.lst xs) ∧ ∃ b N, y = .ref b ∧ Bx H1 b N ∧ N ≤ 1000000 ∧
      ∀ x ∈ xs, ∀ H', Bx H' b (N + 1) → Kp b H1 H' → Q x H')
    (hg : Gl X "_law_take" := by rfl) (he : starEach [bx, .Constant (.int m) jj pm] X.env = (false, eval bx X.env) :: starEach [.Constant (.int m) jj pm] X.env := by rfl) (he2 : starEach [.Constant (.int m) jj pm] X.env = (false, eval (.Constant (.int m) jj pm) X.env) :: starEach [] X.env := by rfl) (hpl : (backTo pos (starEach [.Constant (.int m) jj pm] X.env)).any (·.1) = false := by rfl) :
    We X (.Subscript (.List es pl) (.Call (.Name "_law_take" p) [bx, .Constant (.int m) jj pm] [] pos) ps) σ H Q := by
  refine w_ix ix_list (w_lst (Wa.mono h fun xs H1 z => ?_)) (fun _ _ => rfl)
  obtain ⟨hm, h0, hl, z⟩ := z
  refine ⟨len_line hl, fun p hp => ?_⟩
  refine w_take T hr (We.mono (z p hp) fun y H2 z2 => ?_) hg he he2 hpl
  obtain ⟨rfl, b, N, rfl, hB, hN, k⟩ := z2
  refine w_int ⟨b, m, N, rfl, rfl, hB.same (same_new hp), hN, by omega, small9 (Nat.lt_of_le_of_lt (show m.natAbs ≤ 1000 by omega) (by decide +kernel)), fun r H' r0 r1 hB' hk => ?_⟩
  have hr1 : r.toNat < xs.length := by omega
  refine ⟨p, xs, r, xs[r.toNat], rfl, rfl, SqL.of (hk p _ (hB.ne_new hp) upd_same), ?_, k _ (List.getElem_mem hr1) H' hB' (hk.new hp)⟩
  have e : r = (r.toNat : Int) := by omega
  have z3 : atI xs ((r.toNat : Nat) : Int) = some xs[r.toNat] := atI_nat (List.getElem?_eq_getElem hr1)
  rw [← e] at z3
  exact z3
end
section
variable {P : Program} {w : World} {K : PySem.W.Frag} {mg : Str → Option Value} {base : Heap}
/-! ### pick -/
def spPick : Sp := fun vs H Q _ => ∃ (b : Addr) (N : Nat), vs = [.ref b] ∧ Bx H b N ∧ N ≤ 1000 ∧ ∀ (l : Addr) (u d : Int) (H' : Hp), Bx H' b (N + 5) → Kp b H H' → l ≠ b → H' l = some (.lst [.int u, .int d]) → d ≠ 0 → u.natAbs ≤ 1000000000000000000000000000000 → d.natAbs ≤ 1000000000000000000000000000000 → Q (.ref l) H'
theorem sc_pick : FnScope ["_law_box_here", "_law_wide", "_law_up", "_law_down"] ["_law_box_here"] (defScope s__law_pick) := ⟨rfl, rfl, rfl, by decide +kernel, rfl, by decide +kernel, by decide +kernel⟩
theorem fn_pick (T : Tx K mg) : FnR P w K mg base (L2.CX P w) 2 (He.ga K "_law_pick") spPick := by
  refine fnr T.f__law_pick sc_pick (fun vs H Q E h => ?_) (fun _ _ _ _ _ _ us hl => match us, hl with | [_], _ => rfl) fun cdv A outer s H vs Q E hr h => ?_
  · obtain ⟨b, N, rfl, _⟩ := h
    rfl
  · obtain ⟨b, N, rfl, hB, hN, k⟩ := h
    have nd := sc_pick.nd
    refine s_cons (s_set 1 nd ?_ rfl (.inl rfl) (by kernel_rfl))
    refine w_menu T hr <| a_cons <| w_int <| a_cons <| w_int <| a_cons <| w_int <| a_cons <| w_op op_mulW <| w_int <| w_op op_powW <| w_int <| w_int ⟨10, 8, rfl, rfl, ⟨by decide, by decide, by decide +kernel⟩, _, _, rfl, rfl, cmul (by decide +kernel) (by decide +kernel), ?_⟩
    refine a_cons (w_op op_powW (w_int (w_int ⟨10, 30, rfl, rfl, ⟨by decide, by decide, by decide +kernel⟩, a_nil ⟨rfl, by decide, by decide, fun p hp => w_var 0 rfl ⟨rfl, b, N, rfl, hB, by omega, fun x hx H1 hB1 k1 => ?_⟩⟩⟩)))
    obtain ⟨z, rfl, z1, z2⟩ : ∃ z : Int, x = .int z ∧ 3 ≤ z ∧ z ≤ 1000000000000000000000000000000 := by
      simp only [List.mem_cons, List.not_mem_nil, or_false] at hx
      rcases hx with rfl | rfl | rfl | rfl | rfl
      · exact ⟨_, rfl, by decide, by decide⟩
      · exact ⟨_, rfl, by decide, by decide⟩
      · exact ⟨_, rfl, by decide, by decide⟩
      · exact ⟨_, rfl, by decide +kernel, by decide +kernel⟩
      · exact ⟨_, rfl, by decide +kernel, by decide +kernel⟩
    refine s_cons (s_set 2 nd (w_op op_sub (w_take T hr (w_var 0 rfl (w_op op_add (w_op op_mul (w_int (w_var 1 rfl ⟨_, _, rfl, rfl, .inl ⟨by decide, by decide⟩, w_int ⟨_, _, rfl, rfl, b, _, N + 1, rfl, rfl, hB1, by omega, by omega, small9 ?_, fun r2 H2 r20 r21 hB2 k2 => w_var 1 rfl ⟨_, _, rfl, rfl, ?_⟩⟩⟩))))))))
    · exact Nat.lt_of_lt_of_le (show _ < 2 ^ 200 by omega) (Nat.pow_le_pow_right (by decide) (by decide))
    refine s_cons (s_set 3 nd (w_op op_mulW (w_op op_add (w_int (w_take T hr (w_var 0 rfl (w_var 1 rfl ⟨b, _, N + 2, rfl, rfl, hB2, by omega, by omega, small9 ?_, fun r3 H3 r30 r31 hB3 k3 => ⟨_, _, rfl, rfl, ?_⟩⟩)))))))
    · exact Nat.lt_of_lt_of_le (show _ < 2 ^ 200 by omega) (Nat.pow_le_pow_right (by decide) (by decide))
    refine w_menu T hr (a_cons (w_int (a_cons (w_un un_neg (w_int ⟨_, rfl, a_nil ⟨rfl, by decide, by decide, fun p hp => w_var 0 rfl ⟨rfl, b, N + 3, rfl, hB3, by omega, fun x hx H4 hB4 k4 => ?_⟩⟩⟩)))))
    obtain ⟨y, rfl, hy⟩ : ∃ y : Int, x = .int y ∧ (y = 1 ∨ y = -1) := by
      simp only [List.mem_cons, List.not_mem_nil, or_false] at hx
      rcases hx with rfl | rfl
      · exact ⟨_, rfl, .inl rfl⟩
      · exact ⟨_, rfl, .inr rfl⟩
    have hd1 : (1 + r3) * y ≠ 0 := by rcases hy with rfl | rfl <;> omega
    have hd2 : ((1 + r3) * y).natAbs ≤ 1000000000000000000000000000000 := by rcases hy with rfl | rfl <;> omega
    refine ⟨_, _, rfl, rfl, cmul (small4 ?_) (small4 ?_), ?_⟩
    · exact Nat.lt_of_lt_of_le (show _ < 2 ^ 200 by omega) (Nat.pow_le_pow_right (by decide) (by decide))
    · exact Nat.lt_of_lt_of_le (show y.natAbs < 2 by omega) (by decide +kernel)
    refine s_one <| s_ret <| w_lst <| a_cons <| w_var 2 rfl <| a_cons <| w_menu T hr <| a_cons <| w_var 3 rfl <| a_cons <| w_int <| a_cons <| w_int <| a_nil ⟨rfl, Nat.succ_pos _, (show 3 ≤ 1000 by decide), fun p hp => w_var 0 rfl ⟨rfl, b, N + 4, rfl, hB4, by omega, fun x hx H5 hB5 k5 => ?_⟩⟩
    obtain ⟨d, rfl, e1, e2⟩ : ∃ d : Int, x = .int d ∧ d ≠ 0 ∧ d.natAbs ≤ 1000000000000000000000000000000 := by
      simp only [List.mem_cons, List.not_mem_nil, or_false] at hx
      rcases hx with rfl | rfl | rfl
      · exact ⟨_, rfl, hd1, hd2⟩
      · exact ⟨_, rfl, by decide, by decide⟩
      · exact ⟨_, rfl, by decide, by decide⟩
    refine a_nil ⟨by show 2 ≤ sizeLine; decide, fun l hl => ?_⟩
    have kk : Kp b H H5 := k1.trans (k2.trans (k3.trans (k4.trans k5)))
    exact k l _ d _ (hB5.same (same_new hl)) (kk.trans (same_new hl).kp) (hB5.ne_new hl) upd_same e1 (by omega) e2
/-! ### is -/
/-- isinstance(v, Ratio) -/
def spIs (K : PySem.W.Frag) : Sp := fun vs H Q _ => ∃ (x y : V) (q : Rat), vs = [x, y] ∧ Rt K H x q ∧ Tq K H y q ∧ ∀ H', Same H H' → Q (.bl true) H'
theorem sc_is : FnScope ["_law_amount", "_law_due"] ["_law_amount", "_law_due"] (defScope s__law_is) := ⟨rfl, rfl, rfl, by decide +kernel, rfl, by decide +kernel, by decide +kernel⟩
theorem fn_is (T : Tx K mg) : FnR P w K mg base (L2.CX P w) 1 (He.ga K "_law_is") (spIs K) := by
  refine fnr T.f__law_is sc_is (fun vs H Q E h => ?_) (fun _ _ _ _ _ _ us hl => match us, hl with | [_, _], _ => rfl) fun cdv A outer s H vs Q E hr h => ?_
  · obtain ⟨x, y, q, rfl, _⟩ := h
    rfl
  · obtain ⟨x, y, q, rfl, hx, ⟨a, rfl, hy⟩, k⟩ := h
    refine s_one (s_ret (w_and (w_callB call_isi T.b_isinstance (by decide +kernel) (a_cons (w_var 0 rfl (a_cons (w_ref T.g_Ratio (a_nil ⟨x, .ref (He.ga K "Ratio"), _, .ref (He.ga K "Ratio"), true, rfl, .own _, hx.ty T, T.k_Ratio_Ratio, true, rfl, ?_⟩))))))))
    refine ifT rfl (w_one ?_)
    refine w_cmp (op_eqD hr.units) (w_tup (a_cons (w_top T (w_var 0 rfl ⟨q, hx, a_cons (w_bot T (w_var 0 rfl ⟨q, hx, a_nil ⟨by show 2 ≤ sizeLine; decide, fun u hu => w_var 1 rfl ?_⟩⟩))⟩))))
    have sm : Same H _ := same_new (o := .tup [.int q.num, .int (q.den : Int)]) hu
    refine ⟨_, _, .tup (SqT.of upd_same) (.cons (.int _) (.cons (.int _) .nil)), .tup (SqT.of (sm _ _ hy)) (.cons (.int _) (.cons (.int _) .nil)), rfl, rfl, ?_⟩
    rw [eqv_pair, decide_eq_true (And.intro rfl rfl)]
    exact k _ sm
/-! ### refused -/
end
end LW
namespace LW
open PySem PySem.Spec PyProof.Rows L2 PR
section
variable {P : Program} {w : World} {K : PySem.W.Frag} {mg : Str → Option Value} {base : Heap}
/-! ### refused -/
def spRefused (K : PySem.W.Frag) : Sp := fun vs H Q _ => ∃ (x : V) (d : PyData), vs = [x] ∧ Arg K H x none ∧ Sw K H x d ∧ d.showable = true ∧ d.shown.length ≤ sizeLine ∧ d.depth ≤ 64 ∧ ∀ H', Same H H' → Q (.bl true) H'
theorem sc_refused : FnScope ["_law_strange", "e"] ["_law_strange"] (defScope s__law_refused) := ⟨rfl, rfl, rfl, by decide +kernel, rfl, by decide +kernel, by decide +kernel⟩
theorem sqt_same {K : PySem.W.Frag} {H H' : Hp} {a : Addr} {xs : List V} (e : Same H H') (h : SqT K H a xs) : SqT K H' a xs := by
  rcases h with h | h
  · exact .inl (h.imp (fun z => e _ _ z) fun ⟨o, z⟩ => ⟨o, e _ _ z⟩)
  · exact .inr h
mutual
theorem dp_same {K : PySem.W.Frag} {H H' : Hp} (s : Same H H') : ∀ (d : PyData) (v : V), Dp K H v d → Dp K H' v d
  | .none, _, h => by cases h; exact .non
  | .bool _, _, h => by cases h; exact .bl _
  | .int _, _, h => by cases h; exact .int _
  | .str _, _, h => by cases h; exact .str _
  | .list ds, _, h => by
    cases h with
    | lst h1 h2 => exact .lst (s.seq h1) (dps_same s ds _ h2)
  | .tuple ds, _, h => by
    cases h with
    | tup h1 h2 => exact .tup (sqt_same s h1) (dps_same s ds _ h2)
  | .dict _, _, h => by cases h
theorem dps_same {K : PySem.W.Frag} {H H' : Hp} (s : Same H H') : ∀ (ds : List PyData) (vs : List V), DpAll K H vs ds → DpAll K H' vs ds
  | [], _, h => by cases h; exact .nil
  | d :: ds, _, h => by
    cases h with
    | cons h1 h2 => exact .cons (dp_same s d _ h1) (dps_same s ds _ h2)
end
theorem _root_.PR.Sw.same {K : PySem.W.Frag} {H H' : Hp} {v : V} {d : PyData} (h : Sw K H v d) (s : Same H H') : Sw K H' v d := by
  cases h with
  | dp h n => exact .dp (dp_same s _ _ h) n
  | dE h => exact .dE (s _ _ h)
  | d1 h => exact .d1 (s _ _ h)
theorem fn_refused (T : Tx K mg) : FnG P w K mg base (L2.CX P w) 6 (He.ga K "_law_refused") (spRefused K) := by
  refine fng T.f__law_refused sc_refused (fun vs H Q E h => ?_) (fun _ _ _ _ _ _ us hl => match us, hl with | [_], _ => rfl) fun cdv A outer s H vs Q E hgd hr h => ?_
  · obtain ⟨x, d, rfl, _⟩ := h
    rfl
  · obtain ⟨x, d, rfl, ha, hs, h1, h2, h3, k⟩ := h
    refine s_cons (s_tryAs 1 sc_refused.nd ⟨rfl, by decide, .inl T.g_BadNumber⟩ takesX fun pn xe tk ps => ?_)
    refine s_one (s_expr (w_callA (E := fun cls dd H' => cls = .ref (He.ga K "BadNumber") ∧ ∃ d', dd = some d' ∧ H d' = none ∧ H' = upd H d' (.xd [("given", x)])) (fn_as_ratio T) hr T.g_as_ratio (kept T.f_as_ratio) (passAt tk ?_) (a_cons (w_var 0 rfl (a_nil ⟨x, none, rfl, ha, fun q e => (by cases e), fun _ d' hd => ⟨rfl, d', rfl, hd, rfl⟩⟩)))))
    rintro cls dd H' ⟨rfl, d', rfl, hd, rfl⟩
    refine ⟨true, T.xm_BadNumber, fun _ a hn oe pn hz hf => ?_, fun e => nomatch e⟩
    have sm : Same H _ := same_new (o := .xd [("given", x)]) hd
    have hu : A.units + 80 < cLine := by have := hr.un; show A.units + 80 < _; have e : A.units + 3 + 16 * 5 + 200 < cLine := this; omega
    refine s_one (s_ret (w_cmp op_eq (w_callB (call_repr hgd ?_) T.b_repr (by decide +kernel) (a_cons (w_xf T.xf_BadNumber T.xn_BadNumber hz hf (w_var 1 rfl ⟨rfl, rfl, d', _, x, rfl, upd_same, rfl, a_nil ⟨x, d, rfl, hs.same sm, h1, h2, h3, ?_⟩⟩))))))
    · have e : A.units + 3 + 16 * 5 + 200 < cLine := hr.un
      show A.units + 3 + 80 < cLine
      omega
    refine w_callB (call_repr hgd ?_) T.b_repr (by decide +kernel) (a_cons (w_var 0 rfl (a_nil ⟨x, d, rfl, hs.same sm, h1, h2, h3, ⟨rfl, ?_⟩⟩)))
    · have e : A.units + 3 + 16 * 5 + 200 < cLine := hr.un
      show A.units + 3 + 80 < cLine
      omega
    rw [decide_eq_true rfl]
    exact k _ sm
/-! ### zero -/
def spZero (K : PySem.W.Frag) : Sp := fun vs H Q _ => ∃ (x y : V) (q : Rat), vs = [x, y] ∧ Rt K H x q ∧ RM.Lt q 4000 ∧ Arg K H y (some 0) ∧ ∀ H', Same H H' → Q (.bl true) H'
theorem sc_zero : FnScope ["_law_amount", "_law_nought", "_law_caught"] ["_law_amount", "_law_nought"] (defScope s__law_zero) := ⟨rfl, rfl, rfl, by decide +kernel, rfl, by decide +kernel, by decide +kernel⟩
theorem fn_zero (T : Tx K mg) : FnR P w K mg base (L2.CX P w) 6 (He.ga K "_law_zero") (spZero K) := by
  refine fnr T.f__law_zero sc_zero (fun vs H Q E h => ?_) (fun _ _ _ _ _ _ us hl => match us, hl with | [_, _], _ => rfl) fun cdv A outer s H vs Q E hr h => ?_
  · obtain ⟨x, y, q, rfl, _⟩ := h
    rfl
  · obtain ⟨x, y, q, rfl, hx, lq, hy, k⟩ := h
    have nd := sc_zero.nd
    refine s_cons (s_set 2 nd (w_int ?_))
    obtain ⟨a, dx, ea, ha⟩ := id hx
    refine s_cons (s_try1 ⟨rfl, by decide, .inl T.g_ByZero⟩ takesX fun pn xe tk ps => ?_)
    refine s_one (s_expr (w_methA (E := fun cls dd H' => cls = .ref (He.ga K "ByZero") ∧ Same H H') T.c_Ratio T.m_Ratio_over (fn_over T) hr (passAt tk ?_) (w_var 0 rfl ⟨a, dx, _, ea, ha, rfs_no q (by decide +kernel) (by decide +kernel), a_cons (w_var 1 rfl (a_nil ⟨x, y, q, 0, rfl, hx, hy, lq, (by exact RM.lt_int (n := 0) (a := 4000) (by decide +kernel) (by decide)), fun z => absurd rfl z, fun _ H' sm => ⟨rfl, sm⟩⟩))⟩)))
    rintro cls dd H1 ⟨rfl, sm⟩
    refine ⟨true, T.xm_ByZero, fun _ aa hn oe pn hz hf => ?_, fun e => nomatch e⟩
    refine s_one (s_set 2 nd (w_op op_add (w_var 2 rfl (w_int ⟨_, _, rfl, rfl, ?_⟩))))
    refine s_cons (s_try1 ⟨rfl, by decide, .inl T.g_ByZero⟩ takesX fun pn xe tk ps => ?_)
    refine s_one (s_expr (w_makeA (E := fun cls dd H' => cls = .ref (He.ga K "ByZero") ∧ Same H H') T.mk_Ratio (fn_Ratio3 T) (hr.mono (by decide)) T.g_Ratio (passAt tk ?_) (a_cons (w_top T (w_var 0 rfl ⟨q, hx.same sm, a_cons (w_int (a_nil fun z dz h1 h2 h3 => ?_))⟩)))))
    · rintro cls dd H2 ⟨rfl, sm2⟩
      refine ⟨true, T.xm_ByZero, fun _ aa hn oe pn hz hf => ?_, fun e => nomatch e⟩
      refine s_one (s_set 2 nd (w_op op_add (w_var 2 rfl (w_int ⟨_, _, rfl, rfl, ?_⟩))))
      refine s_one (s_ret (w_cmp op_eq (w_var 2 rfl (w_int ⟨rfl, ?_⟩))))
      exact k _ sm2
    · exact ⟨z, dz, q.num, 0, rfl, upd_same, by decide +kernel, fun e => absurd rfl e, fun _ => ⟨rfl, sm.trans (same_made h1 h2)⟩⟩
/-! ### compared -/
/-- one a Ratio p, other a number q -/
def spCompared (K : PySem.W.Frag) : Sp := fun vs H Q _ => ∃ (a b x y : V) (p q : Rat), vs = [a, b, x, y] ∧ Rt K H a p ∧ Arg K H b (some q) ∧ Tq K H x p ∧ Tq K H y q ∧ RM.Lt p 4000 ∧ RM.Lt q 4000 ∧ ∀ H', Same H H' → Q (.bl true) H'
theorem sc_compared : FnScope ["_law_one", "_law_other", "_law_x", "_law_y"] ["_law_one", "_law_other", "_law_x", "_law_y"] (defScope s__law_compared) := ⟨rfl, rfl, rfl, by decide +kernel, rfl, by decide +kernel, by decide +kernel⟩
theorem fn_compared (T : Tx K mg) : FnR P w K mg base (L2.CX P w) 5 (He.ga K "_law_compared") (spCompared K) := by
  refine fnr T.f__law_compared sc_compared (fun vs H Q E h => ?_) (fun _ _ _ _ _ _ us hl => match us, hl with | [_, _, _, _], _ => rfl) fun cdv A outer s H vs Q E hr h => ?_
  · obtain ⟨a, b, x, y, p, q, rfl, _⟩ := h
    rfl
  · obtain ⟨a, b, x, y, p, q, rfl, ha, hb, ⟨ax, rfl, hx⟩, ⟨ay, rfl, hy⟩, lp, lq, k⟩ := h
    refine s_cons (s_if (t_bool (b_or (t_cmp op_ne (w_cmp (op_req T (hr.mono (by decide))) (w_var 0 rfl (w_var 1 rfl ⟨p, some q, ha, hb, fun H1 s1 => ?_⟩)))))))
    refine w_cmp (op_eqD hr.units) (w_var 2 rfl (w_var 3 rfl ⟨_, _, .tup (SqT.of (s1 _ _ hx)) (.cons (.int _) (.cons (.int _) .nil)), .tup (SqT.of (s1 _ _ hy)) (.cons (.int _) (.cons (.int _) .nil)), rfl, rfl, ⟨rfl, _, rfl, ?_⟩⟩))
    have e1 : PyData.eqv (.tuple [.int p.num, .int (p.den : Int)]) (.tuple [.int q.num, .int (q.den : Int)]) = decide (some q = some p) := by
      rw [eqv_pair]
      refine decide_eq_decide.mpr ⟨fun h => ?_, fun h => by cases h; exact ⟨rfl, rfl⟩⟩
      rw [(RM.eq_iff p q).mpr ⟨h.1, by omega⟩]
    rw [e1]
    refine ifF (by rw [decide_eq_true rfl]; rfl) ?_
    refine b_or1 (t_cmp op_ne (w_cmp (op_rlt T (hr.mono (by decide))) (w_var 0 rfl (w_var 1 rfl ⟨p, q, ha.same s1, hb.same s1, lp, lq, fun H2 s2 => ?_⟩))))
    have s12 := s1.trans s2
    refine w_call (fn_less T) (hr.mono (by decide)) T.g__law_less (kept T.f__law_less) passL (a_cons (w_var 2 rfl (a_cons (w_var 3 rfl (a_nil ⟨_, _, p, q, rfl, ⟨ax, rfl, s12 _ _ hx⟩, ⟨ay, rfl, s12 _ _ hy⟩, lp, lq, rfl, _, rfl, ?_⟩)))))
    refine ifF (by rw [decide_eq_true rfl]; rfl) (s_nil ?_)
    refine s_one (s_ret (w_cmp op_eq (w_cmp (op_rle T (hr.mono (by decide))) (w_var 0 rfl (w_var 1 rfl ⟨p, q, ha.same s12, hb.same s12, lp, lq, fun H3 s3 => ?_⟩)))))
    have s13 := s12.trans s3
    refine w_not (w_call (fn_less T) (hr.mono (by decide)) T.g__law_less (kept T.f__law_less) passL (a_cons (w_var 3 rfl (a_cons (w_var 2 rfl (a_nil ⟨_, _, q, p, rfl, ⟨ay, rfl, s13 _ _ hy⟩, ⟨ax, rfl, s13 _ _ hx⟩, lq, lp, _, rfl, rfl, ?_⟩))))))
    have e2 : decide (p ≤ q) = !decide (q < p) := by
      by_cases h : p ≤ q
      · rw [decide_eq_true h, decide_eq_false (Rat.not_lt.mpr h)]; rfl
      · rw [decide_eq_false h, decide_eq_true (Rat.not_le.mp h)]; rfl
    show Q (V.bl (decide (V.bl (decide (p ≤ q)) = V.bl (!decide (q < p))))) H3
    rw [e2, decide_eq_true rfl]
    exact k _ s13
end
end LW
namespace LW
open PySem PySem.Spec PyProof.Rows L2 PR
section
variable {X : Cx} {e e1 e2 : Expr} {σ : L2.St} {H : Hp} {Q : VK} {p pos : Pos}
/-- _law_is(e1, e2), as it should be -/
theorem w_is (T : Tx X.K X.mg) (hr : Room 1 X.A) (h : We X e1 σ H fun v H1 => We X e2 σ H1 fun t H2 => ∃ q, Rt X.K H2 v q ∧ Tq X.K H2 t q ∧ ∀ H3, Same H2 H3 → Q (.bl true) H3)
    (hg : Gl X "_law_is" := by rfl) (he : starEach [e1, e2] X.env = (false, eval e1 X.env) :: starEach [e2] X.env := by rfl) (he2 : starEach [e2] X.env = (false, eval e2 X.env) :: starEach [] X.env := by rfl) (hpl : (backTo pos (starEach [e2] X.env)).any (·.1) = false := by rfl) : We X (.Call (.Name "_law_is" p) [e1, e2] [] pos) σ H Q := by
  refine w_call (fn_is T) hr T.g__law_is (kept T.f__law_is) passL (a_cons (We.mono h fun x H1 z => a_cons (We.mono z fun y H2 z2 => a_nil ?_) he2) he) hg (by decide) he hpl
  obtain ⟨q, h1, h2, k⟩ := z2
  exact ⟨x, y, q, rfl, h1, h2, k⟩
/-- plus, minus, times -/
theorem w_f2 {x : Str} {f : Addr} {op : Rat → Rat → Rat} (F : FnR X.prog X.w X.K X.mg X.base (L2.CX X.prog X.w) 2 f (spTq2 X.K op)) (hm : X.mg x = some (.ref f)) (hk : PySem.W.keepIn X.K (.ref f) = true) (hr : Room 2 X.A)
    (h : We X e1 σ H fun v H1 => We X e2 σ H1 fun t H2 => ∃ p q, Tq X.K H2 v p ∧ Tq X.K H2 t q ∧ RM.Lt p 4000 ∧ RM.Lt q 4000 ∧ ∀ v H3, Same H2 H3 → Tq X.K H3 v (op p q) → Q v H3)
    (hg : Gl X x := by rfl) (hdb : (x == ("__debug__" : Str)) = false := by decide) (he : starEach [e1, e2] X.env = (false, eval e1 X.env) :: starEach [e2] X.env := by rfl) (he2 : starEach [e2] X.env = (false, eval e2 X.env) :: starEach [] X.env := by rfl) (hpl : (backTo pos (starEach [e2] X.env)).any (·.1) = false := by rfl) : We X (.Call (.Name x p) [e1, e2] [] pos) σ H Q := by
  refine w_call F hr hm hk passL (a_cons (We.mono h fun x H1 z => a_cons (We.mono z fun y H2 z2 => a_nil ?_) he2) he) hg hdb he hpl
  obtain ⟨p, q, h1, h2, l1, l2, k⟩ := z2
  exact ⟨x, y, p, q, rfl, h1, h2, l1, l2, k⟩
theorem w_frac (T : Tx X.K X.mg) (hr : Room 1 X.A) (h : We X e1 σ H fun v H1 => We X e2 σ H1 fun t H2 => ∃ a b : Int, v = .int a ∧ t = .int b ∧ b ≠ 0 ∧ b.natAbs < 2 ^ 9000 ∧ ∀ v H', Same H2 H' → Tq X.K H' v (Rat.divInt a b) → Q v H')
    (hg : Gl X "_law_frac" := by rfl) (he : starEach [e1, e2] X.env = (false, eval e1 X.env) :: starEach [e2] X.env := by rfl) (he2 : starEach [e2] X.env = (false, eval e2 X.env) :: starEach [] X.env := by rfl) (hpl : (backTo pos (starEach [e2] X.env)).any (·.1) = false := by rfl) : We X (.Call (.Name "_law_frac" p) [e1, e2] [] pos) σ H Q := by
  refine w_call (fn_frac T) hr T.g__law_frac (kept T.f__law_frac) passL (a_cons (We.mono h fun x H1 z => a_cons (We.mono z fun y H2 z2 => a_nil ?_) he2) he) hg (by decide) he hpl
  obtain ⟨a, b, rfl, rfl, r⟩ := z2
  exact ⟨a, b, rfl, r⟩
/-- (n, 1) -/
theorem w_pair1 {k jj} {p1 : Pos} (h : We X e σ H fun v H1 => ∃ n : Int, v = .int n ∧ ∀ t H', Same H1 H' → Tq X.K H' t (n : Rat) → Q t H') (he : starEach [e, .Constant (.int 1) jj p1] X.env = (false, eval e X.env) :: starEach [.Constant (.int 1) jj p1] X.env := by rfl)
    (he2 : starEach [.Constant (.int 1) jj p1] X.env = (false, eval (.Constant (.int 1) jj p1) X.env) :: starEach [] X.env := by rfl) : We X (.Tuple [e, .Constant (.int 1) jj p1] k pos) σ H Q := by
  refine w_tup (a_cons (We.mono h fun v H1 z => ?_) he)
  obtain ⟨n, rfl, z⟩ := z
  exact a_cons (w_int (a_nil ⟨by show 2 ≤ sizeLine; decide, fun t ht => z (.ref t) _ (same_new ht) ⟨t, rfl, upd_same⟩⟩)) he2
/-- numbers that are called by their names -/
theorem w_lesser {x : Str} {f : Addr} {op : Rat → Rat → Rat} (F : FnR X.prog X.w X.K X.mg X.base (L2.CX X.prog X.w) 6 f (spLess X.K op)) (hm : X.mg x = some (.ref f)) (hk : PySem.W.keepIn X.K (.ref f) = true) (hr : Room 6 X.A)
    (h : We X e1 σ H fun v H1 => We X e2 σ H1 fun t H2 => ∃ p q, Arg X.K H2 v (some p) ∧ Arg X.K H2 t (some q) ∧ RM.Lt p 4000 ∧ RM.Lt q 4000 ∧ ∀ v H3, Same H2 H3 → Rt X.K H3 v (op p q) → Q v H3)
    (hg : Gl X x := by rfl) (hdb : (x == ("__debug__" : Str)) = false := by decide) (he : starEach [e1, e2] X.env = (false, eval e1 X.env) :: starEach [e2] X.env := by rfl) (he2 : starEach [e2] X.env = (false, eval e2 X.env) :: starEach [] X.env := by rfl) (hpl : (backTo pos (starEach [e2] X.env)).any (·.1) = false := by rfl) : We X (.Call (.Name x p) [e1, e2] [] pos) σ H Q := by
  refine w_call F hr hm hk passL (a_cons (We.mono h fun x H1 z => a_cons (We.mono z fun y H2 z2 => a_nil ?_) he2) he) hg hdb he hpl
  obtain ⟨p, q, h1, h2, l1, l2, k⟩ := z2
  exact ⟨x, y, p, q, rfl, h1, h2, l1, l2, k⟩
theorem w_total (T : Tx X.K X.mg) (hr : Room 6 X.A) (h : We X e σ H fun v H1 => ∃ a xs qs, v = .ref a ∧ SqL X.K H1 a xs ∧ Nums X.K H1 xs qs ∧ (∀ i, i < qs.length → RM.Lt (sumR (qs.take i)) 4000) ∧ (∀ q ∈ qs, RM.Lt q 4000) ∧ ∀ v H', Same H1 H' → Rt X.K H' v (sumR qs) → Q v H')
    (hg : Gl X "total" := by rfl) (he : starEach [e] X.env = (false, eval e X.env) :: starEach [] X.env := by rfl) (hpl : (backTo pos (starEach [] X.env)).any (·.1) = false := by rfl) : We X (.Call (.Name "total" p) [e] [] pos) σ H Q := by
  refine w_call (fn_total T) hr T.g_total (kept T.f_total) passL (a_cons (We.mono h fun x H1 z => a_nil ?_) he) hg (by decide) he hpl
  obtain ⟨a, xs, qs, rfl, r⟩ := z
  exact ⟨a, xs, qs, rfl, r⟩
theorem w_raised (T : Tx X.K X.mg) (hr : Room 6 X.A) (h : We X e1 σ H fun v H1 => We X e2 σ H1 fun t H2 => ∃ (q : Rat) (n : Nat), t = .int n ∧ n < 1000000 ∧ Arg X.K H2 v (some q) ∧ RM.Lt q 4000 ∧ (∀ i, i < n → RM.Lt (q ^ i) 4000) ∧ ∀ v H', Same H2 H' → Rt X.K H' v (q ^ n) → Q v H')
    (hg : Gl X "raised" := by rfl) (he : starEach [e1, e2] X.env = (false, eval e1 X.env) :: starEach [e2] X.env := by rfl) (he2 : starEach [e2] X.env = (false, eval e2 X.env) :: starEach [] X.env := by rfl) (hpl : (backTo pos (starEach [e2] X.env)).any (·.1) = false := by rfl) : We X (.Call (.Name "raised" p) [e1, e2] [] pos) σ H Q := by
  refine w_call (fn_raised T) hr T.g_raised (kept T.f_raised) passL (a_cons (We.mono h fun x H1 z => a_cons (We.mono z fun y H2 z2 => a_nil ?_) he2) he) hg (by decide) he hpl
  obtain ⟨q, n, rfl, r⟩ := z2
  exact ⟨x, q, n, rfl, r⟩
end
theorem lt_pow {q : Rat} {a : Nat} (h : RM.Lt q a) (ha : 0 < a) : ∀ i, RM.Lt (q ^ i) (a * i + 1)
  | 0 => by rw [Rat.pow_zero]; exact RM.lt_int (n := 1) (a := a * 0 + 1) (by rw [Nat.mul_zero]; decide) (by omega)
  | i + 1 => by rw [Rat.pow_succ]; exact (RM.lt_mul (lt_pow h ha i) h).mono (by rw [Nat.mul_succ]; omega)
section
variable {P : Program} {w : World} {K : PySem.W.Frag} {mg : Str → Option Value} {base : Heap}
/-! ### calls by names -/
theorem fq_raised (T : Tx K mg) : FnQ P w K mg base (L2.CX P w) 6 (He.ga K "raised") 0 ["exponent", "number"] (fun _ zs H Q E => spRaised K (zs.drop 1 ++ zs.take 1) H Q E) := by
  obtain ⟨fd, F⟩ := T.f_raised
  have F1 : FnOk P w K mg base (L2.CX P w) 6 (He.ga K "raised") fd ["number", "exponent"] (spRaised K) := F.ok sc_raised len_raised fun cdv A outer s H vs Q E hr h => ⟨_, pbW, wb_raised T hr h⟩
  exact fnq_of F1 (kbn0 F 0 ["exponent", "number"] (fun _ zs => zs.drop 1 ++ zs.take 1) (fun _ r => (r.drop 1).append (r.take 1)) fun _ _ _ _ _ _ us ws h1 h2 => match us, ws, h1, h2 with | [], [_, _], _, _ => rfl)
theorem fq_total (T : Tx K mg) : FnQ P w K mg base (L2.CX P w) 6 (He.ga K "total") 0 ["numbers"] (fun _ zs H Q E => spTotal K zs H Q E) := by
  obtain ⟨fd, F⟩ := T.f_total
  have F1 : FnOk P w K mg base (L2.CX P w) 6 (He.ga K "total") fd ["numbers"] (spTotal K) := F.ok sc_total len_total fun cdv A outer s H vs Q E hr h => ⟨_, pbW, wb_total T hr h⟩
  exact fnq_of F1 (kbn0 F 0 ["numbers"] (fun _ zs => zs) (fun _ r => r) fun _ _ _ _ _ _ us ws h1 h2 => match us, ws, h1, h2 with | [], [_], _, _ => rfl)
theorem fq_as_ratio (T : Tx K mg) : FnQ P w K mg base (L2.CX P w) 5 (He.ga K "as_ratio") 0 ["given"] (fun _ zs H Q E => spAs K zs H Q E) := by
  obtain ⟨fd, F⟩ := T.f_as_ratio
  have F1 : FnOk P w K mg base (L2.CX P w) 5 (He.ga K "as_ratio") fd ["given"] (spAs K) := F.ok sc_as_ratio len_as_ratio fun cdv A outer s H vs Q E hr h => ⟨_, pbW, wb_as_ratio T hr h⟩
  exact fnq_of F1 (kbn0 F 0 ["given"] (fun _ zs => zs) (fun _ r => r) fun _ _ _ _ _ _ us ws h1 h2 => match us, ws, h1, h2 with | [], [_], _, _ => rfl)
theorem fq_over (T : Tx K mg) : FnQ P w K mg base (L2.CX P w) 5 (He.ma K (He.ga K "Ratio") "over") 1 ["number"] (fun vs zs H Q E => spOver K (vs ++ zs) H Q E) := by
  obtain ⟨fd, F⟩ := T.f_Ratio_over
  have F1 : FnOk P w K mg base (L2.CX P w) 5 (He.ma K (He.ga K "Ratio") "over") fd ["self", "number"] (spOver K) := F.ok sc_over len_over fun cdv A outer s H vs Q E hr h => ⟨_, pbW, wb_over T hr h⟩
  exact fnq_of F1 (kbn0 F 1 ["number"] (fun vs zs => vs ++ zs) (fun r1 r2 => r1.append r2) fun _ _ _ _ _ _ us ws h1 h2 => match us, ws, h1, h2 with | [_], [_], _, _ => rfl)
/-- Ratio(bottom = .., top = ..) -/
theorem kb_Ratio (T : Tx K mg) : ∃ fd g, FnOk P w K mg base (L2.CX P w) 3 (He.ma K (He.ga K "Ratio") "__init__") fd ["self", "top", "bottom"] (spInit K) ∧ KBn K fd ["self", "top", "bottom"] 1 ["bottom", "top"] g (fun vs zs => vs ++ (zs.drop 1 ++ zs.take 1)) := by
  obtain ⟨fd, F⟩ := T.f_Ratio___init__
  obtain ⟨its, hb⟩ := kbn1 (ps := ["self", "top", "bottom"]) F 1 ["bottom", "top"] (fun vs _ zs => vs ++ (zs.drop 1 ++ zs.take 1)) (by intro z; cases z) (fun r1 _ r2 => r1.append ((r2.drop 1).append (r2.take 1))) (fun T0 kV doc pm an cdv ct us its ws h1 h2 h3 => match us, its, ws, h1, h2, h3 with | [_], [_], [_, _], _, _, _ => ⟨_, rfl, rfl⟩)
  exact ⟨fd, _, ok_Ratio_init (P := P) (w := w) (base := base) T F, hb⟩
end
end LW
namespace LW
open PySem PySem.Spec PyProof.Rows L2 PR
section
variable {P : Program} {w : World} {K : PySem.W.Frag} {mg : Str → Option Value} {base : Heap}
/-! ### chosen -/
def spChosen (K : PySem.W.Frag) : Sp := fun vs H Q _ => ∃ (a b x : V) (n : Int) (p q : Rat), vs = [a, b, x, .int n] ∧ Rt K H a p ∧ Rt K H b q ∧ Tq K H x p ∧ RM.Lt p 200 ∧ RM.Lt q 200 ∧ n.natAbs < 2 ^ 200 ∧ ∀ H', Same H H' → Q (.bl true) H'
theorem sc_chosen : FnScope ["_law_one", "_law_other", "_law_x", "_law_n", "_law_due", "_law_made"] ["_law_one", "_law_other", "_law_x", "_law_n"] (defScope s__law_chosen) := ⟨rfl, rfl, rfl, by decide +kernel, rfl, by decide +kernel, by decide +kernel⟩
theorem sum4 (p q n : Rat) : sumR [p, n, q, n] = p + q + 2 * n := by
  show 0 + p + n + q + n = _
  grind
theorem lt_fold {a : Nat} : ∀ (qs : List Rat) (acc : Rat) (m : Nat), RM.Lt acc m → (∀ q ∈ qs, RM.Lt q a) → RM.Lt (qs.foldl (· + ·) acc) (m + (a + 1) * qs.length)
  | [], acc, m, h, _ => by show RM.Lt acc _; exact h.mono (by omega)
  | q :: qs, acc, m, h, hq => by
    show RM.Lt (qs.foldl (· + ·) (acc + q)) _
    refine (lt_fold qs (acc + q) (m + a + 1) (RM.lt_add h (hq q List.mem_cons_self)) fun r hr => hq r (List.mem_cons_of_mem _ hr)).mono ?_
    rw [List.length_cons, Nat.mul_succ]
    omega
theorem lt_sums {a : Nat} {qs : List Rat} (h : ∀ q ∈ qs, RM.Lt q a) (i n : Nat) (hn : (a + 1) * qs.length + 1 ≤ n) : RM.Lt (sumR (qs.take i)) n := by
  refine (lt_fold (qs.take i) 0 1 (RM.lt_int (n := 0) (by decide) (by decide)) fun q hq => h q (List.mem_of_mem_take hq)).mono ?_
  have h1 : (qs.take i).length ≤ qs.length := by rw [List.length_take]; omega
  have h2 : (a + 1) * (qs.take i).length ≤ (a + 1) * qs.length := Nat.mul_le_mul_left _ h1
  omega
theorem fn_chosen (T : Tx K mg) : FnR P w K mg base (L2.CX P w) 7 (He.ga K "_law_chosen") (spChosen K) := by
  refine fnr T.f__law_chosen sc_chosen (fun vs H Q E h => ?_) (fun _ _ _ _ _ _ us hl => match us, hl with | [_, _, _, _], _ => rfl) fun cdv A outer s H vs Q E hr h => ?_
  · obtain ⟨a, b, x, n, p, q, rfl, _⟩ := h
    rfl
  · obtain ⟨a, b, x, n, p, q, rfl, ha, hb, hx, lp, lq, ln, k⟩ := h
    have nd := sc_chosen.nd
    have hr5 := hr.mono (show 5 ≤ 6 by decide)
    have hr4 := hr.mono (show 4 ≤ 6 by decide)
    have hr1 := hr.mono (show 1 ≤ 6 by decide)
    have wp : RM.Lt p 4000 := lp.mono (by decide)
    have wq : RM.Lt q 4000 := lq.mono (by decide)
    have lnr : RM.Lt (n : Rat) 200 := RM.lt_int ln (by decide)
    have wn : RM.Lt (n : Rat) 4000 := lnr.mono (by decide)
    -- due
    refine s_cons (s_set 4 nd (w_lst (a_cons (We.mono (Q := fun v H1 => Same H H1 ∧ Rt K H1 v (if p < n then p else n)) ?_ ?_))))
    · refine w_ife (t_val (w_call (fn_less T) hr1 T.g__law_less (kept T.f__law_less) passL (a_cons (w_var 2 rfl (a_cons (w_pair1 (w_var 3 rfl ⟨n, rfl, fun t H' st ht => a_nil ⟨_, _, p, n, rfl, hx.same st, ht, wp, wn, _, rfl, ?_⟩⟩)))))))
      by_cases h : p < n
      · exact ifT (decide_eq_true h) (w_var 0 rfl ⟨st, by rw [if_pos h]; exact ha.same st⟩)
      · exact ifF (decide_eq_false h) (w_ratio1 T hr4 passL (a_cons (w_var 3 rfl (a_nil ⟨n, rfl, fun v H2 s2 hv => ⟨st.trans s2, by rw [if_neg h]; exact hv⟩⟩))))
    rintro v0 H1 ⟨s1, h0⟩
    refine a_cons (We.mono (Q := fun v H2 => Same H1 H2 ∧ Rt K H2 v (if p < n then (n : Rat) else p)) ?_ ?_)
    · refine w_ife (t_val (w_call (fn_less T) hr1 T.g__law_less (kept T.f__law_less) passL (a_cons (w_var 2 rfl (a_cons (w_pair1 (w_var 3 rfl ⟨n, rfl, fun t H' st ht => a_nil ⟨_, _, p, n, rfl, hx.same (s1.trans st), ht, wp, wn, _, rfl, ?_⟩⟩)))))))
      by_cases h : p < n
      · exact ifT (decide_eq_true h) (w_ratio1 T hr4 passL (a_cons (w_var 3 rfl (a_nil ⟨n, rfl, fun v H2 s2 hv => ⟨st.trans s2, by rw [if_pos h]; exact hv⟩⟩))))
      · exact ifF (decide_eq_false h) (w_var 0 rfl ⟨st, by rw [if_neg h]; exact ha.same (s1.trans st)⟩)
    rintro v1 H2 ⟨s2, h1⟩
    refine a_nil ⟨by show 2 ≤ sizeLine; decide, fun d hd => ?_⟩
    have sd : Same H (upd H2 d (.lst [v0, v1])) := s1.trans (s2.trans (same_new hd))
    have hdu : upd H2 d (.lst [v0, v1]) d = some (.lst [v0, v1]) := upd_same
    have h0' : Rt K (upd H2 d (.lst [v0, v1])) v0 (if p < n then p else n) := h0.same (s2.trans (same_new hd))
    have h1' : Rt K (upd H2 d (.lst [v0, v1])) v1 (if p < n then (n : Rat) else p) := h1.same (same_new hd)
    generalize upd H2 d (.lst [v0, v1]) = H3 at sd hdu h0' h1'
    replace ha := ha.same sd
    replace hb := hb.same sd
    replace hx := hx.same sd
    replace k : ∀ H', Same H3 H' → Q (.bl true) H' := fun H' z => k H' (sd.trans z)
    clear h0 h1 s1 s2 sd hd
    -- the first test
    have ne0 : ∀ {o : Option Rat} {r : Rat}, o = some r → (!decide (o = some r)) = false := fun e => by rw [decide_eq_true e]; rfl
    have e_les : (if p < n then p else (n : Rat)) = if p < n then p else (n : Rat) := rfl
    refine s_cons (s_if (t_bool (b_or (t_cmp (op_rne T hr4) (w_ratio1 T hr4 passL (a_cons (w_var 3 rfl (a_nil ⟨n, rfl, fun v H4 s4 hv => w_var 3 rfl ⟨n, some (n : Rat), hv, .int n rfl, fun H5 s5 => ⟨_, rfl, ifF (ne0 rfl) ?_⟩⟩⟩))))))))
    have s45 := s4.trans s5
    refine b_or (t_cmp (op_rne T hr4) (w_lesser (fn_lesser T) T.g_lesser (kept T.f_lesser) hr (w_var 0 rfl (w_var 3 rfl ⟨p, n, .rat p (ha.same s45), .int n rfl, wp, wn, fun v H6 s6 hv => w_ix ix_list (w_var 4 rfl (w_int ⟨d, _, 0, v0, rfl, rfl, SqL.of (s6 _ _ (s45 _ _ hdu)), rfl, _, _, hv, .rat _ (h0'.same (s45.trans s6)), fun H7 s7 => ⟨_, rfl, ifF (ne0 rfl) ?_⟩⟩))⟩))))
    have s67 := s45.trans (s6.trans s7)
    have e1 : (if p < n then (n : Rat) else p) = if (n : Rat) < p then p else (n : Rat) := by
      by_cases h : p < n
      · rw [if_pos h, if_neg (Rat.not_lt.mpr (Rat.le_of_lt h))]
      · rw [if_neg h]
        by_cases h2 : (n : Rat) < p
        · rw [if_pos h2]
        · rw [if_neg h2]; exact Rat.le_antisymm (Rat.not_lt.mp h2) (Rat.not_lt.mp h)
    have e0 : (if p < n then p else (n : Rat)) = if (n : Rat) < p then (n : Rat) else p := by
      by_cases h : p < n
      · rw [if_pos h, if_neg (Rat.not_lt.mpr (Rat.le_of_lt h))]
      · rw [if_neg h]
        by_cases h2 : (n : Rat) < p
        · rw [if_pos h2]
        · rw [if_neg h2]; exact (Rat.le_antisymm (Rat.not_lt.mp h2) (Rat.not_lt.mp h)).symm
    refine b_or1 (t_cmp (op_rne T hr4) (w_lesser (fn_greater T) T.g_greater (kept T.f_greater) hr (w_var 3 rfl (w_var 0 rfl ⟨n, p, .int n rfl, .rat p (ha.same s67), wn, wp, fun v H8 s8 hv => w_ix ix_list (w_var 4 rfl (w_int ⟨d, _, 1, v1, rfl, rfl, SqL.of (s8 _ _ (s67 _ _ hdu)), rfl, _, _, hv, .rat _ (h1'.same (s67.trans s8)), fun H9 s9 => ⟨_, rfl, ifF (ne0 (by rw [e1])) (s_nil ?_)⟩⟩))⟩))))
    have s89 := s67.trans (s8.trans s9)
    clear s45 s67
    replace ha := ha.same s89
    replace hb := hb.same s89
    replace hx := hx.same s89
    replace h0' := h0'.same s89
    replace h1' := h1'.same s89
    replace hdu := s89 _ _ hdu
    replace k : ∀ H', Same H9 H' → Q (.bl true) H' := fun H' z => k H' (s89.trans z)
    clear s89
    -- the second test
    refine s_cons (s_if (t_bool (b_or (t_cmp (op_rne T hr4) (w_lesser (fn_lesser T) T.g_lesser (kept T.f_lesser) hr (w_var 3 rfl (w_var 0 rfl ⟨n, p, .int n rfl, .rat p ha, wn, wp, fun v H6 s6 hv => w_ix ix_list (w_var 4 rfl (w_int ⟨d, _, 0, v0, rfl, rfl, SqL.of (s6 _ _ hdu), rfl, _, _, hv, .rat _ (h0'.same s6), fun H7 s7 => ⟨_, rfl, ifF (ne0 (by rw [e0])) ?_⟩⟩))⟩)))))))
    have s67 := s6.trans s7
    refine b_or1 (t_cmp (op_rne T hr4) (w_lesser (fn_greater T) T.g_greater (kept T.f_greater) hr (w_var 0 rfl (w_var 3 rfl ⟨p, n, .rat p (ha.same s67), .int n rfl, wp, wn, fun v H8 s8 hv => w_ix ix_list (w_var 4 rfl (w_int ⟨d, _, 1, v1, rfl, rfl, SqL.of (s8 _ _ (s67 _ _ hdu)), rfl, _, _, hv, .rat _ (h1'.same (s67.trans s8)), fun H10 s9 => ⟨_, rfl, ifF (ne0 rfl) (s_nil ?_)⟩⟩))⟩))))
    have s10 := s67.trans (s8.trans s9)
    replace ha := ha.same s10
    replace hb := hb.same s10
    replace k : ∀ H', Same H10 H' → Q (.bl true) H' := fun H' z => k H' (s10.trans z)
    clear s10 s67 hdu h0' h1' hx
    -- made
    have ln1 : (n + 1).natAbs < 2 ^ 201 := by
      have e : (2 : Nat) ^ 201 = 2 ^ 200 * 2 := Nat.pow_succ ..
      omega
    have wn1 : RM.Lt ((n + 1 : Int) : Rat) 4000 := (RM.lt_int ln1 (by decide)).mono (by decide)
    have l2 : ∀ q ∈ [(n : Rat), ((3 : Int) : Rat)], RM.Lt q 200 := fun q hq => by
      simp only [List.mem_cons, List.not_mem_nil, or_false] at hq
      rcases hq with rfl | rfl
      · exact lnr
      · exact RM.lt_int (by decide +kernel) (by decide)
    have tot : RM.Lt (n : Rat) 200 → ∀ i, RM.Lt ((n : Rat) ^ i) (200 * i + 1) := fun h => lt_pow h (by decide)
    refine s_cons (s_set 5 nd (w_lst (a_cons (w_lesser (fn_lesser T) T.g_lesser (kept T.f_lesser) hr (w_var 3 rfl (w_var 3 rfl ⟨n, n, .int n rfl, .int n rfl, wn, wn, fun m1 K1 t1 r1 => ?_⟩))))))
    refine a_cons (w_lesser (fn_greater T) T.g_greater (kept T.f_greater) hr (w_var 3 rfl (w_var 3 rfl ⟨n, n, .int n rfl, .int n rfl, wn, wn, fun m2 K2 t2 r2 => ?_⟩)))
    refine a_cons (w_lesser (fn_lesser T) T.g_lesser (kept T.f_lesser) hr (w_var 3 rfl (w_op op_add (w_var 3 rfl (w_int ⟨_, _, rfl, rfl, n, _, .int n rfl, .int (n + 1) rfl, wn, wn1, fun m3 K3 t3 r3 => ?_⟩)))))
    refine a_cons (w_lesser (fn_greater T) T.g_greater (kept T.f_greater) hr (w_op op_add (w_var 3 rfl (w_int ⟨_, _, rfl, rfl, w_var 3 rfl ⟨_, n, .int (n + 1) rfl, .int n rfl, wn1, wn, fun m4 K4 t4 r4 => ?_⟩⟩))))
    refine a_cons (w_total T hr (w_lst (a_nil ⟨Nat.zero_le _, fun l hl => ⟨l, [], [], rfl, SqL.of upd_same, .nil, fun i h => absurd h (Nat.not_lt_zero _), fun q h => absurd h List.not_mem_nil, fun m5 K5 t5 r5 => ?_⟩⟩)))
    replace t5 : Same K4 K5 := (same_new hl).trans t5
    refine a_cons (w_total T hr (w_lst (a_cons (w_var 3 rfl (a_cons (w_int (a_nil ⟨by show 2 ≤ sizeLine; decide, fun l hl => ⟨l, _, [(n : Rat), ((3 : Int) : Rat)], rfl, SqL.of upd_same, .cons (.int n rfl) (.cons (.int 3 rfl) .nil), fun i _ => lt_sums l2 i 4000 (show (200 + 1) * 2 + 1 ≤ 4000 by decide), fun q h => (l2 q h).mono (by decide), fun m6 K6 t6 r6 => ?_⟩⟩)))))))
    replace t6 : Same K5 K6 := (same_new hl).trans t6
    refine a_nil ⟨by show 6 ≤ sizeLine; decide, fun m hm => ?_⟩
    have all6 : ∀ y ∈ [m1, m2, m3, m4, m5, m6], ∃ r, Rt K (upd K6 m (.lst [m1, m2, m3, m4, m5, m6])) y r := fun y hy => by
      have sm := same_new (o := .lst [m1, m2, m3, m4, m5, m6]) hm
      simp only [List.mem_cons, List.not_mem_nil, or_false] at hy
      rcases hy with rfl | rfl | rfl | rfl | rfl | rfl
      · exact ⟨_, r1.same (t2.trans (t3.trans (t4.trans (t5.trans (t6.trans sm)))))⟩
      · exact ⟨_, r2.same (t3.trans (t4.trans (t5.trans (t6.trans sm))))⟩
      · exact ⟨_, r3.same (t4.trans (t5.trans (t6.trans sm)))⟩
      · exact ⟨_, r4.same (t5.trans (t6.trans sm))⟩
      · exact ⟨_, r5.same (t6.trans sm)⟩
      · exact ⟨_, r6.same sm⟩
    have s11 : Same H10 (upd K6 m (.lst [m1, m2, m3, m4, m5, m6])) := t1.trans (t2.trans (t3.trans (t4.trans (t5.trans (t6.trans (same_new hm))))))
    have hmm : upd K6 m (.lst [m1, m2, m3, m4, m5, m6]) m = some (.lst [m1, m2, m3, m4, m5, m6]) := upd_same
    generalize upd K6 m (.lst [m1, m2, m3, m4, m5, m6]) = H11 at all6 s11 hmm
    generalize hxs : [m1, m2, m3, m4, m5, m6] = xs at all6 hmm
    have hxl : xs.length = 6 := by rw [← hxs]; rfl
    clear r1 r2 r3 r4 r5 r6 t1 t2 t3 t4 t5 t6 hxs hl hm
    refine s_cons (s_set 5 nd (w_op op_cat (w_var 5 rfl (w_lst (a_cons (w_raised T hr (w_var 3 rfl (w_int ⟨n, 2, rfl, by decide, .int n rfl, wn, fun i hi => (tot lnr i).mono (by omega), fun m7 K7 t7 r7 => ?_⟩))))))))
    refine a_cons (w_raised T hr (w_var 3 rfl (w_int ⟨n, 0, rfl, by decide, .int n rfl, wn, fun i hi => absurd hi (Nat.not_lt_zero _), fun m8 K8 t8 r8 => ?_⟩)))
    refine a_nil ⟨by show 2 ≤ sizeLine; decide, fun l hl => ⟨m, l, xs, [m7, m8], rfl, rfl, same_new hl _ _ (t8 _ _ (t7 _ _ hmm)), upd_same, by rw [hxl]; exact len_line (show 6 + 2 ≤ 1000 by decide), fun m' hm' => ?_⟩⟩
    have t9 := (same_new (o := .lst [m7, m8]) hl).trans (same_new (o := .lst (xs ++ [m7, m8])) hm')
    have all8 : ∀ y ∈ xs ++ [m7, m8], ∃ r, Rt K (upd (upd K8 l (.lst [m7, m8])) m' (.lst (xs ++ [m7, m8]))) y r := fun y hy => by
      rcases List.mem_append.mp hy with hy | hy
      · obtain ⟨r, z⟩ := all6 y hy
        exact ⟨r, z.same (t7.trans (t8.trans t9))⟩
      · simp only [List.mem_cons, List.not_mem_nil, or_false] at hy
        rcases hy with rfl | rfl
        · exact ⟨_, r7.same (t8.trans t9)⟩
        · exact ⟨_, r8.same t9⟩
    have s12 : Same H10 (upd (upd K8 l (.lst [m7, m8])) m' (.lst (xs ++ [m7, m8]))) := s11.trans (t7.trans (t8.trans t9))
    have hm8 : upd (upd K8 l (.lst [m7, m8])) m' (.lst (xs ++ [m7, m8])) m' = some (.lst (xs ++ [m7, m8])) := upd_same
    generalize upd (upd K8 l (.lst [m7, m8])) m' (.lst (xs ++ [m7, m8])) = H12 at all8 s12 hm8
    generalize xs ++ [m7, m8] = ys at all8 hm8
    clear t7 t8 t9 r7 r8 all6 hmm s11 hl hm' hxl
    refine s_cons (s_if (t_cmp (op_neD hr.units) (w_lcl 2 nd (w_var 5 rfl ⟨m', ys, rfl, SqL.of hm8, fun L hL => ⟨fun _ H' => Same H12 H' ∧ H' L = some (.lst []), ⟨same_new hL, upd_same⟩, fun i H' _ z => SqL.of (z.1 _ _ hm8), fun i y H' hi z => ?_, fun H' z => ?_⟩⟩))))
    · obtain ⟨r, hy⟩ := all8 y (List.mem_of_getElem? hi)
      exact fun s0 H0 C cl fp => i_one (t_not (t_val (w_callB call_isi T.b_isinstance (by decide +kernel) (a_cons (w_var 2 rfl (a_cons (w_ref T.g_Ratio (a_nil ⟨y, .ref (He.ga K "Ratio"), _, .ref (He.ga K "Ratio"), true, rfl, .own _, (hy.same z.1).ty T, T.k_Ratio_Ratio, true, rfl, ifF rfl z⟩))))))))
    obtain ⟨s13, hL⟩ := z
    refine w_lst (a_nil ⟨Nat.zero_le _, fun e he => ⟨_, _, .lst (SqL.of (same_new he _ _ hL)) .nil, .lst (SqL.of upd_same) .nil, rfl, rfl, _, rfl, ifF rfl (s_nil ?_)⟩⟩)
    have s14 : Same H10 (upd H' e (.lst [])) := s12.trans (s13.trans (same_new he))
    generalize upd H' e (.lst []) = H14 at s14
    replace ha := ha.same s14
    replace hb := hb.same s14
    replace k : ∀ H', Same H14 H' → Q (.bl true) H' := fun H' z => k H' (s14.trans z)
    clear s12 s13 s14 all8 hm8 hL he
    -- raised
    have tp := lt_pow lp (by decide)
    refine s_cons (s_if (t_bool (b_or (t_cmp (op_rne T hr4) (w_raised T hr (w_var 0 rfl (w_int ⟨p, 3, rfl, by decide, .rat p ha, wp, fun i hi => (tp i).mono (by omega), fun v1 J1 t1 r1 => ?_⟩)))))))
    refine w_op (op_rmul T hr5) (w_op (op_rmul T hr5) (w_var 0 rfl (w_var 0 rfl ⟨p, p, ha.same t1, .rat p (ha.same t1), wp, wp, fun v2 J2 t2 r2 => w_var 0 rfl ⟨p * p, p, r2, .rat p (ha.same (t1.trans t2)), (RM.lt_mul lp lp).mono (by decide), wp, fun v3 J3 t3 r3 => ⟨p ^ 3, some (p * p * p), r1.same (t2.trans t3), .rat _ r3, fun J4 t4 => ⟨_, rfl, ifF (ne0 (by grind)) ?_⟩⟩⟩⟩)))
    have t14 := t1.trans (t2.trans (t3.trans t4))
    refine b_or (t_cmp (op_rne T hr4) (w_raised T hr (w_var 3 rfl (w_int ⟨n, 2, rfl, by decide, .int n rfl, wn, fun i hi => (tot lnr i).mono (by omega), fun v1 J5 t5 r1 => w_op op_mulW (w_var 3 rfl (w_var 3 rfl ⟨_, _, rfl, rfl, cmul wn.1 wn.1, _, some ((n * n : Int) : Rat), r1, .int (n * n) rfl, fun J6 t6 => ⟨_, rfl, ifF (ne0 (by rw [Rat.intCast_mul]; grind)) ?_⟩⟩))⟩))))
    have t16 := t14.trans (t5.trans t6)
    refine b_or1 (t_cmp (op_rne T hr4) (w_callQ (fq_raised T) hr T.g_raised (kept T.f_raised) passL (k_cons (w_int (k_cons (w_var 1 rfl (k_nil ⟨rfl, b, q, 0, rfl, by decide, .rat q (hb.same t16), wq, fun i hi => absurd hi (Nat.not_lt_zero _), fun v J7 t7 r7 => w_int ⟨_, some ((1 : Int) : Rat), r7, .int 1 rfl, fun J8 t8 => ⟨_, rfl, ifF (ne0 (by rw [Rat.pow_zero]; rfl)) (s_nil ?_)⟩⟩⟩)))))))
    have t18 := t16.trans (t7.trans t8)
    replace ha := ha.same t18
    replace hb := hb.same t18
    replace k : ∀ H', Same J8 H' → Q (.bl true) H' := fun H' z => k H' (t18.trans z)
    clear t14 t16 t18
    -- total
    have l4 : ∀ r ∈ [p, (n : Rat), q, (n : Rat)], RM.Lt r 200 := fun r hq => by
      simp only [List.mem_cons, List.not_mem_nil, or_false] at hq
      rcases hq with rfl | rfl | rfl | rfl <;> assumption
    refine s_one <| s_ret <| w_and <| w_cmp (op_req T (hr.mono (by decide))) <| w_callQ (fq_total T) hr T.g_total (kept T.f_total) passL <| k_cons <| w_lst <| a_cons <| w_var 0 rfl <| a_cons <| w_var 3 rfl <| a_cons <| w_var 1 rfl <| a_cons <| w_var 3 rfl <| a_nil ⟨by show 4 ≤ sizeLine; decide, fun l hl => ?_⟩
    have g0 := same_new (o := .lst [a, .int n, b, .int n]) hl
    refine k_nil ⟨rfl, l, _, [p, (n : Rat), q, (n : Rat)], rfl, SqL.of upd_same, .cons (.rat p (ha.same g0)) (.cons (.int n rfl) (.cons (.rat q (hb.same g0)) (.cons (.int n rfl) .nil))), fun i _ => lt_sums l4 i 4000 (show (200 + 1) * 4 + 1 ≤ 4000 by decide), fun q h => (l4 q h).mono (by decide), fun v1 G1 g1 r1 => ?_⟩
    replace g1 := g0.trans g1
    have ln2 : (2 * n).natAbs < 2 ^ 201 := by
      have e : (2 : Nat) ^ 201 = 2 ^ 200 * 2 := Nat.pow_succ ..
      omega
    have wn2 : RM.Lt ((2 * n : Int) : Rat) 4000 := (RM.lt_int ln2 (by decide)).mono (by decide)
    refine w_op (op_radd T hr5) (w_op (op_radd T hr5) (w_var 0 rfl (w_var 1 rfl ⟨p, q, ha.same g1, .rat q (hb.same g1), wp, wq, fun v2 G2 g2 r2 => w_op op_mul (w_int (w_var 3 rfl ⟨_, _, rfl, rfl, .inl ⟨by decide, by decide⟩, ?_⟩))⟩)))
    refine ⟨p + q, ((2 * n : Int) : Rat), r2, .int (2 * n) rfl, (RM.lt_add lp lq).mono (by decide), wn2, fun v3 G3 g3 r3 => ⟨_, some (p + q + ((2 * n : Int) : Rat)), r1.same (g2.trans g3), .rat _ r3, fun G4 g4 => ⟨_, rfl, ?_⟩⟩⟩
    rw [sum4, Rat.intCast_mul]
    refine ifT (decide_eq_true rfl) (w_one ?_)
    refine w_cmp (op_req T (hr.mono (by decide))) (w_total T hr (w_lst (a_nil ⟨Nat.zero_le _, fun l hl => ⟨l, [], [], rfl, SqL.of upd_same, .nil, fun i h => absurd h (Nat.not_lt_zero _), fun q h => absurd h List.not_mem_nil, fun v5 G5 g5 r5 => w_int ⟨_, some ((0 : Int) : Rat), r5, .int 0 rfl, fun G6 g6 => ?_⟩⟩⟩)))
    have e5 : decide (some ((0 : Int) : Rat) = some (sumR [])) = true := decide_eq_true rfl
    rw [e5]
    exact k _ (g1.trans (g2.trans (g3.trans (g4.trans (((same_new hl).trans g5).trans g6)))))
end
end LW
namespace LW
open PySem PySem.Spec PyProof.Rows L2 PR
section
variable {X : Cx} {e : Expr} {σ : L2.St} {H : Hp} {Q : VK} {pos pi : Pos} {ji : Nat}
theorem w_l0 (h : We X e σ H fun x H1 => ∃ l y z, x = .ref l ∧ H1 l = some (.lst [y, z]) ∧ Q y H1) : We X (.Subscript e (.Constant (.int 0) ji pi) pos) σ H Q :=
  w_ix ix_list (We.mono h fun x H1 ⟨l, y, z, e, h, k⟩ => w_int ⟨l, _, 0, _, e, rfl, SqL.of h, rfl, k⟩)
theorem w_l1 (h : We X e σ H fun x H1 => ∃ l y z, x = .ref l ∧ H1 l = some (.lst [y, z]) ∧ Q z H1) : We X (.Subscript e (.Constant (.int 1) ji pi) pos) σ H Q :=
  w_ix ix_list (We.mono h fun x H1 ⟨l, y, z, e, h, k⟩ => w_int ⟨l, _, 1, _, e, rfl, SqL.of h, rfl, k⟩)
end
theorem same_kp {b : Addr} {H0 H1 H2 : Hp} (hb : H0 b = none) (s : Same H0 H1) (k : Kp b H1 H2) : Same H0 H2 := fun a o e => k a o (ne_of_none e hb) (s a o e)
theorem lt_pick {u d : Int} (hd : d ≠ 0) (hu : u.natAbs ≤ 3000000000000000000000000000000) (h : d.natAbs ≤ 3000000000000000000000000000000) : RM.Lt (Rat.divInt u d) 200 :=
  RM.lt_divInt hd (by omega) (by omega)
/-- what as_ratio refuses here -/
def Odd (H : Hp) (x : V) : Prop := (∃ b, x = .bl b) ∨ x = .non ∨ x = .str "1" ∨ (∃ p, x = .ref p ∧ H p = some (.lst [.int 1])) ∨ (∃ p, x = .ref p ∧ H p = some (.tup [.int 2, .int 1])) ∨ ∃ p, x = .ref p ∧ H p = some (.dK [])
theorem Odd.same {H H' : Hp} {x : V} (h : Odd H x) (s : Same H H') : Odd H' x := by
  rcases h with h | h | h | ⟨p, e, h⟩ | ⟨p, e, h⟩ | ⟨p, e, h⟩
  · exact .inl h
  · exact .inr (.inl h)
  · exact .inr (.inr (.inl h))
  · exact .inr (.inr (.inr (.inl ⟨p, e, s _ _ h⟩)))
  · exact .inr (.inr (.inr (.inr (.inl ⟨p, e, s _ _ h⟩))))
  · exact .inr (.inr (.inr (.inr (.inr ⟨p, e, s _ _ h⟩))))
theorem Odd.arg {K : PySem.W.Frag} {H : Hp} {x : V} (h : Odd H x) : Arg K H x none := by
  rcases h with ⟨b, rfl⟩ | rfl | rfl | ⟨p, rfl, h⟩ | ⟨p, rfl, h⟩ | ⟨p, rfl, h⟩
  · exact .odd "bool" (.base (.bl b)) (by decide)
  · exact .odd "NoneType" (.base .non) (by decide)
  · exact .odd "str" (.base (.str _)) (by decide)
  · exact .odd "list" (.base (.lst h)) (by decide)
  · exact .odd "tuple" (.base (.tup h)) (by decide)
  · exact .odd "dict" (.base (.dK h)) (by decide)
theorem Odd.shows {K : PySem.W.Frag} {H : Hp} {x : V} (h : Odd H x) : ∃ d : PyData, Sw K H x d ∧ d.showable = true ∧ d.shown.length ≤ sizeLine ∧ d.depth ≤ 64 := by
  have go : ∀ {d : PyData}, Sw K H x d → d.showable = true → d.shown.length ≤ 1000 → d.depth ≤ 64 → ∃ d : PyData, Sw K H x d ∧ d.showable = true ∧ d.shown.length ≤ sizeLine ∧ d.depth ≤ 64 := fun {d} h1 h2 h3 h4 => ⟨d, h1, h2, len_line h3, h4⟩
  rcases h with ⟨b, rfl⟩ | rfl | rfl | ⟨p, rfl, h⟩ | ⟨p, rfl, h⟩ | ⟨p, rfl, h⟩
  · exact go (.dp (.bl b) rfl) rfl (by cases b <;> decide +kernel) (by cases b <;> decide +kernel)
  · exact go (.dp .non rfl) rfl (by decide +kernel) (by decide)
  · exact go (.dp (.str _) rfl) rfl (by decide +kernel) (by decide)
  · exact go (.dp (.lst (SqL.of h) (.cons (.int 1) .nil)) rfl) (by decide +kernel) (by decide +kernel) (by decide +kernel)
  · exact go (.dp (.tup (SqT.of h) (.cons (.int 2) (.cons (.int 1) .nil))) rfl) (by decide +kernel) (by decide +kernel) (by decide +kernel)
  · exact go (.dE h) rfl (by decide +kernel) (by decide +kernel)
theorem div_eq2 (p q : Rat) : p / q = p * Rat.divInt (q.den : Int) q.num := by
  rw [Rat.div_def, Rat.inv_def]
section
variable {P : Program} {w : World} {K : PySem.W.Frag} {mg : Str → Option Value} {base : Heap}
def spLaw (K : PySem.W.Frag) : Sp := fun vs H Q _ => ∃ (a : Addr) (ns : List Int), vs = [.ref a] ∧ SqL K H a (ns.map V.int) ∧ ∀ H', Q (.bl true) H'
theorem sc_law : FnScope ["_law_script", "_law_k", "_law_box_here", "_law_first", "_law_second", "_law_x", "_law_y", "_law_one", "_law_other", "_law_sums", "_law_n", "_law_odd"] ["_law_script"] (defScope s_law) := ⟨rfl, rfl, rfl, by decide +kernel, rfl, by decide +kernel, by decide +kernel⟩
theorem fn_law (T : Tx K mg) : FnG P w K mg base (L2.CX P w) 8 (He.ga K "law") (spLaw K) := by
  refine fng T.f_law sc_law (fun vs H Q E h => ?_) (fun _ _ _ _ _ _ us hl => match us, hl with | [_], _ => rfl) fun cdv A outer s H vs Q E hgd hr h => ?_
  · obtain ⟨a, ns, rfl, _⟩ := h
    rfl
  · obtain ⟨a, ns, rfl, hl, kk⟩ := h
    have nd := sc_law.nd
    have hr6 := hr.mono (show 6 ≤ 7 by decide)
    have hr5 := hr.mono (show 5 ≤ 7 by decide)
    have hr4 := hr.mono (show 4 ≤ 7 by decide)
    have hr3 := hr.mono (show 3 ≤ 7 by decide)
    have hr2 := hr.mono (show 2 ≤ 7 by decide)
    have hr1 := hr.mono (show 1 ≤ 7 by decide)
    refine s_cons <| s_forr 1 (passes_of rfl) nd T.b_range <| w_callB (call_max2 rfl) T.b_max (by decide +kernel) <| a_cons <| w_int <| a_cons <| w_callB (call_min2 rfl) T.b_min (by decide +kernel) <| a_cons <| w_int <| a_cons <|
      w_callB call_len T.b_len (by decide +kernel) <| a_cons <| w_var 0 rfl <| a_nil ⟨_, (ns.map V.int).length, rfl, .inl ⟨_, hl, rfl⟩, a_nil ⟨2, _, rfl, a_nil ⟨1, _, rfl, ?_⟩⟩⟩
    obtain ⟨m, hm, hm2⟩ : ∃ m : Nat, (if (if ((ns.map V.int).length : Int) < 2 then ((ns.map V.int).length : Int) else 2) > 1 then (if ((ns.map V.int).length : Int) < 2 then ((ns.map V.int).length : Int) else 2) else 1) = (m : Int) ∧ m ≤ 2 :=
      ⟨((if (if ((ns.map V.int).length : Int) < 2 then ((ns.map V.int).length : Int) else 2) > 1 then (if ((ns.map V.int).length : Int) < 2 then ((ns.map V.int).length : Int) else 2) else 1) : Int).toNat, by split <;> split <;> omega, by split <;> split <;> omega⟩
    refine ⟨m, fun _ σ H' => ∃ z1 z2 z3 z4 z5 z6 z7 z8 z9 z10 z11, σ = [some (.ref a), z1, z2, z3, z4, z5, z6, z7, z8, z9, z10, z11] ∧ Same H H', congrArg V.int hm, by omega, ⟨_, _, _, _, _, _, _, _, _, _, _, rfl, Same.refl H⟩, ?_, ?_⟩
    · rintro j σ H0 hj ⟨z1, z2, z3, z4, z5, z6, z7, z8, z9, z10, z11, rfl, s0⟩
      refine s_cons <| s_set 2 nd <| w_call (fn_box T) hr2 T.g__law_box (kept T.f__law_box) passL <| a_cons <| w_var 0 rfl <| a_cons <| w_var 1 rfl <| a_nil ⟨a, ns, j, rfl, by omega, s0.seq hl, fun b H1 hb s1 hB => ?_⟩
      refine s_cons <| s_set 3 nd <| w_call (fn_pick T) hr2 T.g__law_pick (kept T.f__law_pick) passL <| a_cons <| w_var 2 rfl <| a_nil ⟨b, 0, rfl, hB, by omega, fun l1 u1 d1 H2 hB2 k2 n1 hl1 hd1 bu1 bd1 => ?_⟩
      refine s_cons <| s_set 4 nd <| We.mono (Q := fun v H3 => ∃ l2 u2 d2, v = .ref l2 ∧ Bx H3 b 11 ∧ Kp b H2 H3 ∧ l2 ≠ b ∧ H3 l2 = some (.lst [.int u2, .int d2]) ∧ d2 ≠ 0 ∧ u2.natAbs ≤ 3000000000000000000000000000000 ∧ d2.natAbs ≤ 3000000000000000000000000000000) ?_ ?_
      · refine w_ife <| t_cmp op_eq <| w_take T hr1 <| w_var 2 rfl <| w_int ⟨b, 5, 5, rfl, rfl, hB2, by decide, by decide, by decide +kernel, fun r H3 r0 r1 hB3 k3 => w_int ⟨rfl, _, rfl, ?_⟩⟩
        have hl1' := k3 l1 _ n1 hl1
        by_cases hr0 : r = 0
        · refine ifT (decide_eq_true (by rw [hr0])) ?_
          refine w_lst <| a_cons <| w_op op_mul <| w_l0 <| w_var 3 rfl ⟨l1, _, _, rfl, hl1', w_int ⟨_, _, rfl, rfl, .inr ⟨by decide, by decide⟩, a_cons <| w_op op_mul <| w_l1 <| w_var 3 rfl ⟨l1, _, _, rfl, hl1', w_int ⟨_, _, rfl, rfl, .inr ⟨by decide, by decide⟩, a_nil ⟨by show 2 ≤ sizeLine; decide, fun l2 h2 => ?_⟩⟩⟩⟩⟩
          exact ⟨l2, u1 * 3, d1 * 3, rfl, (hB3.same (same_new h2)).mono (by decide), k3.trans (same_new h2).kp, hB3.ne_new h2, upd_same, by omega, by omega, by omega⟩
        · refine ifF (decide_eq_false (fun z => hr0 (by cases z; rfl))) ?_
          refine w_call (fn_pick T) hr2 T.g__law_pick (kept T.f__law_pick) passL <| a_cons <| w_var 2 rfl <| a_nil ⟨b, 6, rfl, hB3, by omega, fun l2 u2 d2 H4 hB4 k4 n2 hl2 hd2 bu2 bd2 => ?_⟩
          exact ⟨l2, u2, d2, rfl, hB4, k3.trans k4, n2, hl2, hd2, by omega, by omega⟩
      rintro v H3 ⟨l2, u2, d2, rfl, hB3, k3, n2, hl2, hd2, bu2, bd2⟩
      replace hl1 := k3 l1 _ n1 hl1
      replace k2 := k2.trans k3
      clear k3 hB2
      refine s_cons <| s_set 5 nd <| w_frac T hr1 <| w_l0 <| w_var 3 rfl ⟨l1, _, _, rfl, hl1, w_l1 <| w_var 3 rfl ⟨l1, _, _, rfl, hl1, u1, d1, rfl, rfl, hd1, small9 (by omega), fun x H4 s4 hx => ?_⟩⟩
      refine s_cons <| s_set 6 nd <| w_frac T hr1 <| w_l0 <| w_var 4 rfl ⟨l2, _, _, rfl, s4 _ _ hl2, w_l1 <| w_var 4 rfl ⟨l2, _, _, rfl, s4 _ _ hl2, u2, d2, rfl, rfl, hd2, small9 (by omega), fun y H5 s5 hy => ?_⟩⟩
      have s45 := s4.trans s5
      refine s_cons <| s_set 7 nd <| w_ratio T hr4 passL <| a_cons <| w_l0 <| w_var 3 rfl ⟨l1, _, _, rfl, s45 _ _ hl1, a_cons <| w_l1 <| w_var 3 rfl ⟨l1, _, _, rfl, s45 _ _ hl1, a_nil ⟨u1, d1, rfl, small9 (by omega), fun _ one H6 s6 h1 => ?_, fun z => absurd z hd1⟩⟩⟩
      have s46 := s45.trans s6
      obtain ⟨fd, g, FR, KB⟩ := kb_Ratio (P := P) (w := w) (base := base) T
      refine s_cons <| s_set 8 nd <| we_of (pe_makeK0 T.mk_Ratio FR hr4 rfl T.g_Ratio KB passL pkW) ?_
      refine k_cons <| w_l1 <| w_var 4 rfl ⟨l2, _, _, rfl, s46 _ _ hl2, k_cons <| w_l0 <| w_var 4 rfl ⟨l2, _, _, rfl, s46 _ _ hl2, k_nil ⟨rfl, rfl, fun z dz g1 g2 g3 => ⟨z, dz, u2, d2, rfl, upd_same, small9 (by omega), fun hn => ⟨rfl, ?_⟩, fun z => absurd z hd2⟩⟩⟩⟩
      have s67 := same_over (u := .ins (He.ga K "Ratio") dz []) (o := .own z) (v := .ins (He.ga K "Ratio") dz (rfs (Rat.divInt u2 d2))) g1 g2
      have h2 : Rt K (upd (upd (upd H6 dz (.own z)) z (.ins (He.ga K "Ratio") dz [])) z (.ins (He.ga K "Ratio") dz (rfs (Rat.divInt u2 d2)))) (.ref z) (Rat.divInt u2 d2) := ⟨z, dz, rfl, upd_same⟩
      have s37 : Same H3 (upd (upd (upd H6 dz (.own z)) z (.ins (He.ga K "Ratio") dz [])) z (.ins (He.ga K "Ratio") dz (rfs (Rat.divInt u2 d2)))) := s46.trans s67
      have h1' := h1.same s67
      have hx' := hx.same (s5.trans (s6.trans s67))
      have hy' := hy.same (s6.trans s67)
      change Wb _ _ _ _ (upd (upd (upd H6 dz (.own z)) z (.ins (He.ga K "Ratio") dz [])) z (.ins (He.ga K "Ratio") dz (rfs (Rat.divInt u2 d2))))
      generalize upd (upd (upd H6 dz (.own z)) z (.ins (He.ga K "Ratio") dz [])) z (.ins (He.ga K "Ratio") dz (rfs (Rat.divInt u2 d2))) = H7 at h2 s37 h1' hx' hy' ⊢
      clear h1 hx hy s4 s5 s6 s45 s46 s67 hl2 n2 g1 g2 g3
      have lp : RM.Lt (Rat.divInt u1 d1) 200 := lt_pick hd1 (by omega) (by omega)
      have lq : RM.Lt (Rat.divInt u2 d2) 200 := lt_pick hd2 (by omega) (by omega)
      generalize Rat.divInt u1 d1 = p at h1' hx' lp
      generalize Rat.divInt u2 d2 = q at h2 hy' lq
      generalize V.ref z = other at h2
      replace hB3 := hB3.same s37
      replace hl1 := s37 _ _ hl1
      replace k2 := k2.trans s37.kp
      clear s37 H3
      have wp : RM.Lt p 4000 := lp.mono (by decide)
      have wq : RM.Lt q 4000 := lq.mono (by decide)
      -- one, other, -one
      refine s_cons <| s_if <| t_bool <| b_or <| t_not <| t_val <| w_is T hr1 <| w_var 7 rfl <| w_var 5 rfl ⟨p, h1', hx', fun H8 t8 => ⟨true, rfl, ifF rfl ?_⟩⟩
      refine b_or <| t_not <| t_val <| w_is T hr1 <| w_var 8 rfl <| w_var 6 rfl ⟨q, h2.same t8, hy'.same t8, fun H9 t9 => ⟨true, rfl, ifF rfl ?_⟩⟩
      replace t9 := t8.trans t9
      refine b_or1 <| t_not <| t_val <| w_is T hr1 <| w_un (un_rneg T hr5) <| w_var 7 rfl ⟨p, h1'.same t9, wp, fun v H10 t10 hv => ?_⟩
      replace t10 := t9.trans t10
      refine w_frac T hr1 <| w_op op_sub <| w_int <| w_tq0 <| w_var 5 rfl ⟨p, hx'.same t10, _, _, rfl, rfl, w_tq1 <| w_var 5 rfl ⟨p, hx'.same t10, _, _, rfl, rfl, RM.den_ne p, RM.pow_le (RM.den_lt wp) (by decide), fun t H11 t11 ht => ⟨-p, hv.same t11, ?_, fun H12 t12 => ⟨true, rfl, ifF rfl (s_nil ?_)⟩⟩⟩⟩
      · rw [RM.neg_eq]
        rw [Int.zero_sub] at ht
        exact ht
      replace t12 := t10.trans (t11.trans t12)
      replace h1' := h1'.same t12
      replace h2 := h2.same t12
      replace hx' := hx'.same t12
      replace hy' := hy'.same t12
      replace hB3 := hB3.same t12
      replace hl1 := t12 _ _ hl1
      replace k2 := k2.trans t12.kp
      clear t8 t9 t10 t11 t12 hv ht H7 H8 H9 H10 H11
      -- sums
      refine s_cons <| s_set 9 nd <| w_lst <| a_cons <| w_is T hr1 <| w_op (op_radd T hr5) <| w_var 7 rfl <| w_var 8 rfl ⟨p, q, h1', .rat q h2, wp, wq, fun v H8 t8 hv => w_f2 (fn_plus T) T.g__law_plus (kept T.f__law_plus) hr2 <| w_var 5 rfl <| w_var 6 rfl ⟨p, q, hx'.same t8, hy'.same t8, wp, wq, fun t H9 t9 ht => ⟨p + q, hv.same t9, ht, fun H10 t10 => ?_⟩⟩⟩
      replace t10 := t8.trans (t9.trans t10)
      refine a_cons <| w_is T hr1 <| w_op (op_rsub T hr5) <| w_var 7 rfl <| w_var 8 rfl ⟨p, q, h1'.same t10, .rat q (h2.same t10), wp, wq, fun v H8 t8 hv => w_f2 (fn_minus T) T.g__law_minus (kept T.f__law_minus) hr2 <| w_var 5 rfl <| w_var 6 rfl ⟨p, q, hx'.same (t10.trans t8), hy'.same (t10.trans t8), wp, wq, fun t H9 t9 ht => ⟨p - q, hv.same t9, ht, fun H11 t11 => ?_⟩⟩⟩
      replace t11 := t10.trans (t8.trans (t9.trans t11))
      refine a_nil ⟨by show 2 ≤ sizeLine; decide, fun l hl9 => ?_⟩
      have t12 := t11.trans (same_new (o := .lst [.bl true, .bl true]) hl9)
      refine s_cons <| s_if <| t_bool <| b_or <| t_cmp (op_neD hr.units) <| w_var 9 rfl <| w_lst <| a_cons <| w_bl <| a_cons <| w_bl <| a_nil ⟨by show 2 ≤ sizeLine; decide, fun l' hl' => ⟨_, _, .lst (SqL.of (same_new hl' _ _ upd_same)) (.cons (.bl _) (.cons (.bl _) .nil)), .lst (SqL.of upd_same) (.cons (.bl _) (.cons (.bl _) .nil)), rfl, rfl, _, rfl, ifF rfl ?_⟩⟩
      replace t12 := t12.trans (same_new (o := .lst [.bl true, .bl true]) hl')
      refine b_or <| t_not <| t_val <| w_is T hr1 <| w_op (op_rmul T hr5) <| w_var 7 rfl <| w_var 8 rfl ⟨p, q, h1'.same t12, .rat q (h2.same t12), wp, wq, fun v H13 t13 hv => w_f2 (fn_times T) T.g__law_times (kept T.f__law_times) hr2 <| w_var 5 rfl <| w_var 6 rfl ⟨p, q, hx'.same (t12.trans t13), hy'.same (t12.trans t13), wp, wq, fun t H14 t14 ht => ⟨p * q, hv.same t14, ht, fun H15 t15 => ⟨true, rfl, ifF rfl ?_⟩⟩⟩⟩
      replace t15 := t12.trans (t13.trans (t14.trans t15))
      refine b_or1 <| t_not <| t_val <| w_call (fn_compared T) hr5 T.g__law_compared (kept T.f__law_compared) passL <| a_cons <| w_var 7 rfl <| a_cons <| w_var 8 rfl <| a_cons <| w_var 5 rfl <| a_cons <| w_var 6 rfl <| a_nil ⟨_, _, _, _, p, q, rfl, h1'.same t15, .rat q (h2.same t15), hx'.same t15, hy'.same t15, wp, wq, fun H16 t16 => ⟨true, rfl, ifF rfl (s_nil ?_)⟩⟩
      replace t16 := t15.trans t16
      replace h1' := h1'.same t16
      replace h2 := h2.same t16
      replace hx' := hx'.same t16
      replace hy' := hy'.same t16
      replace hB3 := hB3.same t16
      replace hl1 := t16 _ _ hl1
      replace k2 := k2.trans t16.kp
      clear t8 t9 t10 t11 t12 t13 t14 t15 t16 hv ht
      -- over
      refine s_cons <| s_if <| Wt.mono (Qb := fun k H' => k = false ∧ Same H16 H') ?_ ?_
      · refine t_bool <| b_and <| t_cmp op_ne <| w_tq0 <| w_var 6 rfl ⟨q, hy', w_int ⟨rfl, _, rfl, ?_⟩⟩
        by_cases hq : q.num = 0
        · exact ifF (by rw [decide_eq_true (by rw [hq])]; rfl) ⟨rfl, Same.refl _⟩
        · refine ifT (by rw [decide_eq_false (fun z => hq (V.int.inj z))]; rfl) ?_
          obtain ⟨a1, dx1, e1, hA⟩ := id h1'
          refine b_and1 <| t_not <| t_val <| w_is T hr1 <| w_meth T.c_Ratio T.m_Ratio_over (fn_over T) hr5 passL <| w_var 7 rfl ⟨a1, dx1, _, e1, hA, rfs_no p (by decide +kernel) (by decide +kernel), a_cons <| w_var 8 rfl <| a_nil ⟨_, _, p, q, rfl, h1', .rat q h2, wp, wq, fun _ v H17 t17 hv => ?_, fun z => absurd (by rw [z]; rfl) hq⟩⟩
          refine w_f2 (fn_times T) T.g__law_times (kept T.f__law_times) hr2 <| w_var 5 rfl <| w_frac T hr1 <| w_tq1 <| w_var 6 rfl ⟨q, hy'.same t17, w_tq0 <| w_var 6 rfl ⟨q, hy'.same t17, _, _, rfl, rfl, hq, RM.pow_le wq.1 (by decide), fun t H18 t18 ht => ⟨p, _, hx'.same (t17.trans t18), ht, wp, RM.lt_divInt hq (RM.den_lt wq) wq.1, fun t' H19 t19 ht' => ⟨p / q, hv.same (t18.trans t19), by rw [div_eq2]; exact ht', fun H20 t20 => ⟨true, rfl, rfl, t17.trans (t18.trans (t19.trans t20))⟩⟩⟩⟩⟩
      rintro kb H17 ⟨rfl, t17⟩
      refine ifF rfl (s_nil ?_)
      replace h1' := h1'.same t17
      replace h2 := h2.same t17
      replace hx' := hx'.same t17
      replace hy' := hy'.same t17
      replace hB3 := hB3.same t17
      replace hl1 := t17 _ _ hl1
      replace k2 := k2.trans t17.kp
      clear t17
      -- n
      refine s_cons <| s_set 10 nd <| We.mono (Q := fun v H' => ∃ n : Int, v = .int n ∧ n.natAbs ≤ 1000000000000000000000000000000 ∧ Bx H' b 13 ∧ Kp b H17 H') ?_ ?_
      · refine w_ife <| t_cmp op_eq <| w_take T hr1 <| w_var 2 rfl <| w_int ⟨b, 4, 11, rfl, rfl, hB3, by decide, by decide, by decide +kernel, fun r H18 r0 r1 hB4 k4 => w_int ⟨rfl, _, rfl, ?_⟩⟩
        by_cases hr0 : r = 0
        · exact ifT (decide_eq_true (by rw [hr0])) (w_l0 <| w_var 3 rfl ⟨l1, _, _, rfl, k4 _ _ n1 hl1, u1, rfl, bu1, hB4.mono (by decide), k4⟩)
        · refine ifF (decide_eq_false (fun z => hr0 (by cases z; rfl))) ?_
          exact w_op op_sub <| w_take T hr1 <| w_var 2 rfl <| w_int ⟨b, 2001, 12, rfl, rfl, hB4, by decide, by decide, by decide +kernel, fun r' H19 r0' r1' hB5 k5 => w_int ⟨_, _, rfl, rfl, r' - 1000, rfl, by omega, hB5, k4.trans k5⟩⟩
      rintro vn H18 ⟨n, rfl, hn, hB4, k4⟩
      replace h1' := h1'.kp hB3 k4
      replace h2 := h2.kp hB3 k4
      replace hx' := hx'.kp hB3 k4
      replace hy' := hy'.kp hB3 k4
      replace k2 := k2.trans k4
      clear k4 hB3 hl1
      have ln : n.natAbs < 2 ^ 200 := by omega
      have wn : RM.Lt (n : Rat) 4000 := (RM.lt_int ln (by decide)).mono (by decide)
      refine s_cons <| s_set 9 nd <| w_lst <| a_cons <| w_is T hr1 <| w_op (op_radd T hr5) <| w_var 7 rfl <| w_var 10 rfl ⟨p, n, h1', .int n rfl, wp, wn, fun v H8 t8 hv => w_f2 (fn_plus T) T.g__law_plus (kept T.f__law_plus) hr2 <| w_var 5 rfl <| w_pair1 <| w_var 10 rfl ⟨n, rfl, fun tt Ht st htt => ⟨p, n, hx'.same (t8.trans st), htt, wp, wn, fun t H9 t9 ht => ⟨p + n, hv.same (st.trans t9), ht, fun H10 t10 => ?_⟩⟩⟩⟩
      replace t10 := t8.trans (st.trans (t9.trans t10))
      refine a_cons <| w_is T hr1 <| w_op (op_rsub T hr5) <| w_var 7 rfl <| w_var 10 rfl ⟨p, n, h1'.same t10, .int n rfl, wp, wn, fun v H8 t8 hv => w_f2 (fn_minus T) T.g__law_minus (kept T.f__law_minus) hr2 <| w_var 5 rfl <| w_pair1 <| w_var 10 rfl ⟨n, rfl, fun tt Ht st htt => ⟨p, n, hx'.same (t10.trans (t8.trans st)), htt, wp, wn, fun t H9 t9 ht => ⟨p - n, hv.same (st.trans t9), ht, fun H11 t11 => ?_⟩⟩⟩⟩
      replace t11 := t10.trans (t8.trans (st.trans (t9.trans t11)))
      refine a_nil ⟨by show 2 ≤ sizeLine; decide, fun l hl9 => ?_⟩
      have t12 := t11.trans (same_new (o := .lst [.bl true, .bl true]) hl9)
      refine s_cons <| s_if <| t_bool <| b_or <| t_cmp (op_neD hr.units) <| w_var 9 rfl <| w_lst <| a_cons <| w_bl <| a_cons <| w_bl <| a_nil ⟨by show 2 ≤ sizeLine; decide, fun l' hl' => ⟨_, _, .lst (SqL.of (same_new hl' _ _ upd_same)) (.cons (.bl _) (.cons (.bl _) .nil)), .lst (SqL.of upd_same) (.cons (.bl _) (.cons (.bl _) .nil)), rfl, rfl, _, rfl, ifF rfl ?_⟩⟩
      replace t12 := t12.trans (same_new (o := .lst [.bl true, .bl true]) hl')
      refine b_or <| t_not <| t_val <| w_is T hr1 <| w_op (op_rmul T hr5) <| w_var 7 rfl <| w_var 10 rfl ⟨p, n, h1'.same t12, .int n rfl, wp, wn, fun v H13 t13 hv => w_f2 (fn_times T) T.g__law_times (kept T.f__law_times) hr2 <| w_var 5 rfl <| w_pair1 <| w_var 10 rfl ⟨n, rfl, fun tt Ht st htt => ⟨p, n, hx'.same (t12.trans (t13.trans st)), htt, wp, wn, fun t H14 t14 ht => ⟨p * n, hv.same (st.trans t14), ht, fun H15 t15 => ⟨true, rfl, ifF rfl ?_⟩⟩⟩⟩⟩
      replace t15 := t12.trans (t13.trans (st.trans (t14.trans t15)))
      refine b_or1 <| t_not <| t_val <| w_call (fn_compared T) hr5 T.g__law_compared (kept T.f__law_compared) passL <| a_cons <| w_var 7 rfl <| a_cons <| w_var 10 rfl <| a_cons <| w_var 5 rfl <| a_cons <| w_pair1 <| w_var 10 rfl ⟨n, rfl, fun tt Ht st htt => a_nil ⟨_, _, _, _, p, n, rfl, h1'.same (t15.trans st), .int n rfl, hx'.same (t15.trans st), htt, wp, wn, fun H16 t16 => ⟨true, rfl, ifF rfl (s_nil ?_)⟩⟩⟩
      replace t16 := t15.trans (st.trans t16)
      replace h1' := h1'.same t16
      replace h2 := h2.same t16
      replace hx' := hx'.same t16
      replace hB4 := hB4.same t16
      replace k2 := k2.trans t16.kp
      clear t8 t9 t10 t11 t12 t13 t14 t15 t16 hv ht st htt hy'
      refine s_cons <| s_if <| Wt.mono (Qb := fun k H' => k = false ∧ Same H16 H') ?_ ?_
      · refine t_bool <| b_and <| t_cmp op_ne <| w_var 10 rfl <| w_int ⟨rfl, _, rfl, ?_⟩
        by_cases hq : n = 0
        · exact ifF (by rw [decide_eq_true (by rw [hq])]; rfl) ⟨rfl, Same.refl _⟩
        · refine ifT (by rw [decide_eq_false (fun z => hq (V.int.inj z))]; rfl) ?_
          obtain ⟨a1, dx1, e1, hA⟩ := id h1'
          have hqr : (n : Rat) ≠ 0 := fun z => hq (Rat.intCast_eq_zero_iff.mp z)
          refine b_and1 <| t_not <| t_val <| w_is T hr1 <| w_methQ T.c_Ratio T.m_Ratio_over (fq_over T) hr5 passL <| w_var 7 rfl ⟨a1, dx1, _, e1, hA, rfs_no p (by decide +kernel) (by decide +kernel), k_cons <| w_var 10 rfl <| k_nil ⟨rfl, _, _, p, n, rfl, h1', .int n rfl, wp, wn, fun _ v H17 t17 hv => ?_, fun z => absurd z hqr⟩⟩
          refine w_f2 (fn_times T) T.g__law_times (kept T.f__law_times) hr2 <| w_var 5 rfl <| w_frac T hr1 <| w_int <| w_var 10 rfl ⟨1, n, rfl, rfl, hq, RM.pow_le ln (by decide), fun t H18 t18 ht => ⟨p, _, hx'.same (t17.trans t18), ht, wp, RM.lt_divInt hq (by decide +kernel) (RM.pow_le ln (by decide)), fun t' H19 t19 ht' => ⟨p / n, hv.same (t18.trans t19), by rw [div_eq2]; exact ht', fun H20 t20 => ⟨true, rfl, rfl, t17.trans (t18.trans (t19.trans t20))⟩⟩⟩⟩
      rintro kb H17 ⟨rfl, t17⟩
      refine ifF rfl (s_nil ?_)
      refine s_cons <| s_if <| t_bool <| b_or <| t_not <| t_val <| w_is T hr1 <| w_as_ratio T hr5 <| w_var 7 rfl ⟨p, .rat p (h1'.same t17), wp.mono (by decide), fun v H18 t18 hv => w_var 5 rfl ⟨p, hv, hx'.same (t17.trans t18), fun H19 t19 => ⟨true, rfl, ifF rfl ?_⟩⟩⟩
      replace t19 := t17.trans (t18.trans t19)
      refine b_or <| t_not <| t_val <| w_is T hr1 <| w_callQ (fq_as_ratio T) hr5 T.g_as_ratio (kept T.f_as_ratio) passL <| k_cons <| w_var 10 rfl <| k_nil ⟨rfl, _, some (n : Rat), rfl, .int n rfl, fun q' e => ?_, fun e => nomatch e⟩
      cases e
      refine ⟨wn.mono (by decide), fun v H20 t20 hv => w_pair1 <| w_var 10 rfl ⟨n, rfl, fun tt Ht st htt => ⟨n, hv.same st, htt, fun H21 t21 => ⟨true, rfl, ifF rfl ?_⟩⟩⟩⟩
      replace t21 := t19.trans (t20.trans (st.trans t21))
      refine b_or1 <| t_not <| t_val <| w_call (fn_chosen T) hr T.g__law_chosen (kept T.f__law_chosen) passL <| a_cons <| w_var 7 rfl <| a_cons <| w_var 8 rfl <| a_cons <| w_var 5 rfl <| a_cons <| w_var 10 rfl <| a_nil ⟨_, _, _, n, p, q, rfl, h1'.same t21, h2.same t21, hx'.same t21, lp, lq, ln, fun H22 t22 => ⟨true, rfl, ifF rfl (s_nil ?_)⟩⟩
      replace t22 := t21.trans t22
      replace h1' := h1'.same t22
      replace hB4 := hB4.same t22
      replace k2 := k2.trans t22.kp
      clear t17 t18 t19 t20 t21 t22 h2 hx' hv st htt
      -- odd
      refine s_cons <| s_set 11 nd <| w_menu T hr1 <| a_cons <| w_bl <| a_cons <| w_bl <| a_cons <| w_non <| a_cons <| w_str <| a_cons <| w_lst <| a_cons <| w_int <| a_nil ⟨by show 1 ≤ sizeLine; decide, fun p1 hp1 => ?_⟩
      refine a_cons <| w_tup <| a_cons <| w_int <| a_cons <| w_int <| a_nil ⟨by show 2 ≤ sizeLine; decide, fun p2 hp2 => a_cons <| we_of pe_dnewK fun p3 hp3 => ?_⟩
      have u1 := same_new (o := .lst [.int 1]) hp1
      have u2 := same_new (o := .tup [.int 2, .int 1]) hp2
      have u3 := same_new (o := .dK []) hp3
      have u13 := u1.trans (u2.trans u3)
      refine a_nil ⟨rfl, by show 0 < 7; decide, by show 7 ≤ 1000; decide, fun p4 hp4 => w_var 2 rfl ⟨rfl, b, 13, rfl, hB4.same u13, by decide, fun x hx H23 hB5 k5 => ?_⟩⟩
      have hodd : Odd H23 x := by
        have e1 : upd (upd (upd H22 p1 (.lst [.int 1])) p2 (.tup [.int 2, .int 1])) p3 (.dK []) p1 = some (.lst [.int 1]) := u3 _ _ (u2 _ _ upd_same)
        have e2 : upd (upd (upd H22 p1 (.lst [.int 1])) p2 (.tup [.int 2, .int 1])) p3 (.dK []) p2 = some (.tup [.int 2, .int 1]) := u3 _ _ upd_same
        have n1 : p1 ≠ b := hB4.ne_new hp1
        have n2 : p2 ≠ b := (hB4.same u1).ne_new hp2
        have n3 : p3 ≠ b := ((hB4.same u1).same u2).ne_new hp3
        simp only [List.mem_cons, List.not_mem_nil, or_false] at hx
        rcases hx with rfl | rfl | rfl | rfl | rfl | rfl | rfl
        · exact .inl ⟨_, rfl⟩
        · exact .inl ⟨_, rfl⟩
        · exact .inr (.inl rfl)
        · exact .inr (.inr (.inl rfl))
        · exact .inr (.inr (.inr (.inl ⟨p1, rfl, k5 _ _ n1 e1⟩)))
        · exact .inr (.inr (.inr (.inr (.inl ⟨p2, rfl, k5 _ _ n2 e2⟩))))
        · exact .inr (.inr (.inr (.inr (.inr ⟨p3, rfl, k5 _ _ n3 upd_same⟩))))
      replace h1' := (h1'.same u13).kp (hB4.same u13) k5
      replace k2 := k2.trans (u13.kp.trans k5)
      clear u1 u2 u3 u13 hB4 k5 hx hp1 hp2 hp3
      refine s_cons <| s_if <| t_bool <| b_or <| t_cmp (op_req T hr3) <| w_ratio1 T hr4 passL <| a_cons <| w_int <| a_nil ⟨1, rfl, fun v H24 t24 hv => w_var 11 rfl ⟨_, none, hv, (hodd.same t24).arg, fun H25 t25 => ⟨_, rfl, ifF (decide_eq_false fun z => nomatch z) ?_⟩⟩⟩
      replace t25 := t24.trans t25
      refine b_or <| t_cmp (op_req T hr3) <| w_ratio1 T hr4 passL <| a_cons <| w_int <| a_nil ⟨0, rfl, fun v H26 t26 hv => w_var 11 rfl ⟨_, none, hv, (hodd.same (t25.trans t26)).arg, fun H27 t27 => ⟨_, rfl, ifF (decide_eq_false fun z => nomatch z) ?_⟩⟩⟩
      replace t27 := t25.trans (t26.trans t27)
      obtain ⟨d, hd, g1, g2, g3⟩ := (hodd.same t27).shows (K := K)
      refine b_or <| t_not <| t_val <| w_callG (fn_refused T) hgd hr6 T.g__law_refused (kept T.f__law_refused) passL <| a_cons <| w_var 11 rfl <| a_nil ⟨x, d, rfl, (hodd.same t27).arg, hd, g1, g2, g3, fun H28 t28 => ⟨true, rfl, ifF rfl ?_⟩⟩
      replace t28 := t27.trans t28
      refine b_or1 <| t_not <| t_val <| w_call (fn_zero T) hr6 T.g__law_zero (kept T.f__law_zero) passL <| a_cons <| w_var 7 rfl <| a_cons <| w_ix ix_list <| w_lst <| a_cons <| w_int <| a_cons <| w_ratio1 T hr4 passL <| a_cons <| w_int <| a_nil ⟨0, rfl, fun v H29 t29 hv => a_nil ⟨by show 2 ≤ sizeLine; decide, fun l hl0 => w_op op_mod <| w_var 1 rfl <| w_int ⟨_, _, rfl, rfl, by show (0 : Int) < 2; decide, ?_⟩⟩⟩
      replace t29 := t28.trans (t29.trans (same_new (o := .lst [.int 0, v]) hl0))
      have sH : ∀ {H30 : Hp}, Same (upd H29 l (.lst [.int 0, v])) H30 → Same H H30 := fun z => s0.trans (same_kp hb s1 (k2.trans (t29.trans z).kp))
      have hz0 : Arg K (upd H29 l (.lst [.int 0, v])) v (some 0) := .rat 0 (hv.same (same_new hl0))
      rcases (show j = 0 ∨ j = 1 by omega) with rfl | rfl
      · refine ⟨l, _, _, .int 0, rfl, rfl, SqL.of upd_same, rfl, a_nil ⟨_, _, p, rfl, h1'.same t29, wp, .int 0 rfl, fun H30 t30 => ⟨true, rfl, ifF rfl (s_nil (s_nil ⟨_, _, _, _, _, _, _, _, _, _, _, rfl, sH t30⟩))⟩⟩⟩
      · refine ⟨l, _, _, v, rfl, rfl, SqL.of upd_same, rfl, a_nil ⟨_, _, p, rfl, h1'.same t29, wp, hz0, fun H30 t30 => ⟨true, rfl, ifF rfl (s_nil (s_nil ⟨_, _, _, _, _, _, _, _, _, _, _, rfl, sH t30⟩))⟩⟩⟩
    · rintro σ H' ⟨z1, z2, z3, z4, z5, z6, z7, z8, z9, z10, z11, rfl, s0⟩
      refine s_one <| s_ret <| w_and <| w_cmp op_eq <| w_bot T <| w_ratio1 T hr4 passL <| a_cons <| w_int <| a_nil ⟨7, rfl, fun v H1 s1 hv => ⟨_, hv, w_int ⟨rfl, _, rfl, ifT rfl (w_one ?_)⟩⟩⟩
      refine w_cmp op_eq <| w_bot T <| w_ratio T hr4 passL <| a_cons <| w_int <| a_cons <| w_un un_neg <| w_int ⟨_, rfl, a_nil ⟨0, -5, rfl, by decide +kernel, fun _ v H2 s2 hv => ⟨_, hv, w_int ⟨rfl, ?_⟩⟩, fun z => absurd z (by decide)⟩⟩
      have e : decide (V.int ((Rat.divInt 0 (-5)).den : Int) = V.int 1) = true := by decide +kernel
      rw [e]
      exact kk _
end
end LW
namespace LW
open PySem PySem.Spec PyProof.Rows L2
abbrev R : PySem.W.OpenRow := PySem.W.OpenLaw.row PySem.Challenge.rw_paystreams_k02_ratios
abbrev hk : PySem.W.Hook := PH.hookP 5 fa fn
def ob (s : PySem.W.SharedT) : He.AlD := PH.obsPG 5 fa fn (HandSHeadRun.getT s)
theorem ob_eq (s : PySem.W.SharedT) : ob s = hk.obs s.abs := PH.obsPG_eq (HandSHeadRun.getT_eq s)
set_option maxHeartbeats 0 in
theorem run (w : World) : HandSHeadRun.RunEq R (PySem.W.view R.prog [32]) hk ob 8000 nms w := by
  intro os
  kernel_rfl
theorem law_name : (HandSHeadRun.topDef R.prog 32).name = ("law" : PySem.Str) := by kernel_rfl
end LW
open PySem PySem.W PySem.Calls PyProof.Rows
set_option maxHeartbeats 0
theorem PySem.Challenge.cw_paystreams_k02_ratios_holds : PySem.Challenge.rw_paystreams_k02_ratios.Holds := by
  w_on; o_law
  refine HandSHeadRun.head_any (r := OpenLaw.row PySem.Challenge.rw_paystreams_k02_ratios) (q := view (OpenLaw.row PySem.Challenge.rw_paystreams_k02_ratios).prog [32]) (H := LW.hk) (ob := LW.ob) (M := 8000) (loose := LW.nms) (d := HandSHeadRun.topDef (OpenLaw.row PySem.Challenge.rw_paystreams_k02_ratios).prog 32) (kwd := [])
    LW.ob_eq (by kernel_rfl) (fun s => by kernel_rfl) LW.run (by kernel_rfl) (by kernel_rfl) (by kernel_rfl) (by rfl) (by first | assumption | decide +kernel) (by decide +kernel) ⟨rfl, rfl, rfl, rfl, rfl, by decide +kernel⟩ ?hw ?hc
  case hw => w_witness2
  case hc =>
    refine PR.walk_ofG (l := PySem.Challenge.rw_paystreams_k02_ratios) (n := 63) (k := 8) rfl (by decide) (by kernel_rfl) ⟨rfl, by decide, by decide⟩ ?F
    intro w mg f h Y G hm
    obtain ⟨K, KI, c⟩ := Y
    have T := LW.tx_of KI G c
    rw [LW.law_name] at hm
    have e := hm.symm.trans T.g_law
    cases e
    exact ⟨K, LW.spLaw K, KI, fun H a ns _ _ hS => ⟨a, ns, rfl, hS, fun _ => rfl⟩, fun base _ _ => LW.fn_law T⟩
