import PyProof.Rows.All
import Wide.All
import OpenK.AllK
import Wide.FinOn
import HandS.ForMost
import HandS.ForExc
import HandS.ExcInit
import HandS.IsInst
import HandS.Wide
import HandS.Defaults
import HandS.ClsMeth
import HandS.Star
import HandS.SlotsOwn
import KE.KOpsOwn
import HandS.Head0
import HandS.Head1
import HandS.Head2
import HandS.HeadEnd
import HandS.HeadHook1
import HandS.HeadHook2
import HandS.HeadNt
import HandS.ExcField
import HandS.TryOnly
import HandS.TryMany
import HandS.TryElse
import HandS.List
import HandS.MakeKwOnly
import HandS.Comp
import HandS.Ends
import HandS.Iter
import HandS.Text
import HandS.FStr
import HandS.Codes
import HandS.Walk
import HandS.Words
import PyProof.Rows.ReprOcc
import PySem.Challenge.RW_paystreams_k03_texts_of_ratios
set_option Elab.async false
set_option linter.all false
set_option maxRecDepth 100000
set_option maxHeartbeats 4000000
/-! What must hold so that an expression, a test, an argument list, a statement, a block does what is wanted: the best reading of each. -/
namespace PR
open PySem PySem.Spec PyProof.Rows L2
structure We (X : Cx) (e : Expr) (σ : L2.St) (H : Hp) (Q : VK) : Prop where
  run : ∀ (pins : List (Addr × Obj)) (s : Shared), Inv X pins σ H s → wpAny (model X.prog X.w) X.A (eval e X.env) (EP X pins σ Q) X.xe s
structure Wt (X : Cx) (e : Expr) (σ : L2.St) (H : Hp) (Q : Bool → Hp → Prop) : Prop where
  run : ∀ (pins : List (Addr × Obj)) (s : Shared), Inv X pins σ H s → wpAny (model X.prog X.w) X.A (isTrue e X.env (eval e X.env)) (TP X pins σ Q) X.xe s
structure Ww (X : Cx) (e : Expr) (σ : L2.St) (H : Hp) (Q : Bool → Hp → Prop) : Prop where
  run : ∀ (whole : Sem Value) (pins : List (Addr × Obj)) (s : Shared), Inv X pins σ H s → wpAny (model X.prog X.w) X.A (isTrue e X.env whole) (TP X pins σ Q) X.xe s
structure Wa (X : Cx) (es : List Expr) (σ : L2.St) (H : Hp) (Q : List V → Hp → Prop) : Prop where
  run : ∀ (pos : Pos) (pins : List (Addr × Obj)) (s : Shared), Inv X pins σ H s → wpAny (model X.prog X.w) X.A (spliced (backTo pos (starEach es X.env))) (AP X pins σ Q) X.xe s
structure Wk (X : Cx) (kws : List Keyword) (σ : L2.St) (H : Hp) (Q : List V → Hp → Prop) : Prop where
  run : ∀ (pos : Pos) (pins : List (Addr × Obj)) (s : Shared), Inv X pins σ H s → wpAny (model X.prog X.w) X.A (evalAll ((backToKw pos (keywordEach kws X.env)).map (·.2))) (AP X pins σ Q) X.xe s
structure Ws (X : Cx) (st : Stmt) (D : Ends) (σ : L2.St) (H : Hp) : Prop where
  run : ∀ (pins : List (Addr × Obj)) (s : Shared), Inv X pins σ H s → wpAny (model X.prog X.w) X.A (exec st X.env) (SP X pins D) X.xe s
structure Wb (X : Cx) (sts : List Stmt) (D : Ends) (σ : L2.St) (H : Hp) : Prop where
  run : ∀ (pins : List (Addr × Obj)) (s : Shared), Inv X pins σ H s → wpAny (model X.prog X.w) X.A (execs sts X.env) (SP X pins D) X.xe s
section
variable {X : Cx} {e a b c : Expr} {es rest : List Expr} {σ : L2.St} {H : Hp} {Q : VK} {Qb : Bool → Hp → Prop} {Qa : List V → Hp → Prop} {D : Ends} {pos pos' p : Pos} {st : Stmt} {sts : List Stmt}
theorem peW : PE X e (We X e) := ⟨fun pins s _ _ _ I h => h.run pins s I⟩
theorem ptW : PT X e (Wt X e) := ⟨fun pins s _ _ _ I h => h.run pins s I⟩
theorem pwW : PW X e (Ww X e) := ⟨fun wh pins s _ _ _ I h => h.run wh pins s I⟩
theorem paW : PA X es (Wa X es) := ⟨fun pos pins s _ _ _ I h => h.run pos pins s I⟩
theorem pkW {kws : List Keyword} : PK X kws (Wk X kws) := ⟨fun pos pins s _ _ _ I h => h.run pos pins s I⟩
theorem psW : PS X st (Ws X st) := ⟨fun pins s _ _ _ I h => h.run pins s I⟩
theorem pbW : PSs X sts (Wb X sts) := ⟨fun pins s _ _ _ I h => h.run pins s I⟩
theorem we_of {t : TE} (q : PE X e t) (h : t σ H Q) : We X e σ H Q := ⟨fun pins s I => q.run pins s σ H Q I h⟩
theorem wt_of {t : TT} (q : PT X e t) (h : t σ H Qb) : Wt X e σ H Qb := ⟨fun pins s I => q.run pins s σ H Qb I h⟩
theorem ww_of {t : TT} (q : PW X e t) (h : t σ H Qb) : Ww X e σ H Qb := ⟨fun wh pins s I => q.run wh pins s σ H Qb I h⟩
theorem wa_of {t : TA} (q : PA X es t) (h : t σ H Qa) : Wa X es σ H Qa := ⟨fun pos pins s I => q.run pos pins s σ H Qa I h⟩
theorem wk_of {t : TA} {kws : List Keyword} (q : PK X kws t) (h : t σ H Qa) : Wk X kws σ H Qa := ⟨fun pos pins s I => q.run pos pins s σ H Qa I h⟩
theorem ws_of {t : TS} (q : PS X st t) (h : t D σ H) : Ws X st D σ H := ⟨fun pins s I => q.run pins s σ H D I h⟩
theorem wb_of {t : TS} (q : PSs X sts t) (h : t D σ H) : Wb X sts D σ H := ⟨fun pins s I => q.run pins s σ H D I h⟩
theorem We.mono {Q' : VK} (h : We X e σ H Q) (k : ∀ v H', Q v H' → Q' v H') : We X e σ H Q' := ⟨fun pins s I => thn (h.run pins s I) fun _ _ ⟨v, H', J, r, q⟩ => ⟨v, H', J, r, k v H' q⟩⟩
theorem Wt.mono {Q' : Bool → Hp → Prop} (h : Wt X e σ H Qb) (k : ∀ v H', Qb v H' → Q' v H') : Wt X e σ H Q' := ⟨fun pins s I => thn (h.run pins s I) fun v _ ⟨H', J, q⟩ => ⟨H', J, k v H' q⟩⟩
theorem Wa.mono {Q' : List V → Hp → Prop} (h : Wa X es σ H Qa) (k : ∀ v H', Qa v H' → Q' v H') : Wa X es σ H Q' := ⟨fun pos pins s I => thn (h.run pos pins s I) fun _ _ ⟨v, H', J, r, q⟩ => ⟨v, H', J, r, k v H' q⟩⟩
theorem ifT {k : Bool} {A B : Prop} (e : k = true) (h : A) : if k = true then A else B := by rw [if_pos e]; exact h
theorem ifF {k : Bool} {A B : Prop} (e : k = false) (h : B) : if k = true then A else B := by rw [if_neg (by rw [e]; exact Bool.false_ne_true)]; exact h
/-! ### expressions -/
theorem w_var (i : Nat) {x : Str} {v : V} (h : σ[i]? = some (some v)) (q : Q v H) (hN : X.N[i]? = some x := by rfl) (hv : Vis X.env.scope x := by first | exact Or.inl rfl | exact Or.inr (Or.inl rfl) | exact Or.inr (Or.inr rfl))
    (hd : (x == ("__debug__" : Str)) = false := by decide) (hcd : (x == ("__classdict__" : Str)) = false := by decide) : We X (.Name x pos) σ H Q := we_of (pe_var (i := i) hN hv hd hcd) ⟨v, h, q⟩
theorem w_int {i : Int} {j} (q : Q (.int i) H) : We X (.Constant (.int i) j pos) σ H Q := we_of pe_int q
theorem w_bl {i : Bool} {j} (q : Q (.bl i) H) : We X (.Constant (.bool i) j pos) σ H Q := we_of pe_bl q
theorem w_non {j} (q : Q .non H) : We X (.Constant .none j pos) σ H Q := we_of pe_non q
theorem w_str {x : Str} {j} (q : Q (.str x) H) : We X (.Constant (.str x) j pos) σ H Q := we_of pe_str q
theorem w_glob {x : Str} {v : V} {u : Value} (hm : X.mg x = some u) (r : RelV v u) (q : Q v H) (hg : Gl X x := by rfl) (hd : (x == ("__debug__" : Str)) = false := by decide) : We X (.Name x pos) σ H Q := we_of (pe_glob hg hm r hd) q
theorem w_ref {x : Str} {f : Addr} (hm : X.mg x = some (.ref f)) (q : Q (.ref f) H) (hg : Gl X x := by rfl) (hd : (x == ("__debug__" : Str)) = false := by decide) : We X (.Name x pos) σ H Q := we_of (pe_glob (v := .ref f) hg hm rfl hd) q
theorem w_bltn {x : Str} {v : V} {u : Value} (hm : X.mg x = none) (hv : bootBuiltins x = some u) (r : RelV v u) (q : Q v H) (hg : Gl X x := by rfl) (hn : x ≠ "__name__" := by decide) (hd : (x == ("__debug__" : Str)) = false := by decide) : We X (.Name x pos) σ H Q :=
  we_of (pe_bltn hg hm hv r hn hd) q
theorem w_op {op : Operator} {r : R2} (ho : OpR X (binaryOp op) r) (h : We X a σ H fun x H1 => We X b σ H1 fun y H2 => r x y H2 Q) : We X (.BinOp a op b pos) σ H Q := we_of (pe_op ho peW peW) h
theorem w_un {op : UnaryOp} {r : V → Hp → VK → Prop} (ho : UnR X (unaryOp op) r) (h : We X a σ H fun x H1 => r x H1 Q) : We X (.UnaryOp op a pos) σ H Q := we_of (pe_un ho peW) h
theorem w_cmp {op : CmpOp} {r : R2} (ho : OpR X (compareOp op) r) (h : We X a σ H fun x H1 => We X b σ H1 fun y H2 => r x y H2 Q) (hm : behindInMarks op b = false := by first | exact nomark _ | rfl) : We X (.Compare a [op] [b] pos) σ H Q := we_of (pe_cmpR ho peW peW hm) h
theorem w_ife (h : Wt X c σ H fun k H1 => if k = true then We X a σ H1 Q else We X b σ H1 Q) : We X (.IfExp c a b pos) σ H Q := we_of (pe_ifExp ptW peW peW) h
theorem w_one {op} (h : We X a σ H Q) : We X (.BoolOp op [a] pos) σ H Q := we_of (pe_one peW) h
theorem w_and (h : We X a σ H fun x H1 => ∃ k, x = .bl k ∧ if k = true then We X (.BoolOp .And (b :: rest) pos) σ H1 Q else Q (.bl false) H1) : We X (.BoolOp .And (a :: b :: rest) pos) σ H Q := we_of (pe_and peW peW) h
theorem w_or (h : We X a σ H fun x H1 => ∃ k, x = .bl k ∧ if k = true then Q (.bl true) H1 else We X (.BoolOp .Or (b :: rest) pos) σ H1 Q) : We X (.BoolOp .Or (a :: b :: rest) pos) σ H Q := we_of (pe_or peW peW) h
theorem w_not (h : We X a σ H fun x H1 => ∃ k, x = .bl k ∧ Q (.bl (!k)) H1) : We X (.UnaryOp .Not a pos) σ H Q := we_of (pe_not peW) h
theorem w_tup {k} (h : Wa X es σ H fun xs H1 => xs.length ≤ sizeLine ∧ ∀ p, H1 p = none → Q (.ref p) (upd H1 p (.tup xs))) : We X (.Tuple es k pos) σ H Q := we_of (pe_tup paW) h
theorem w_lst (h : Wa X es σ H fun xs H1 => xs.length ≤ sizeLine ∧ ∀ p, H1 p = none → Q (.ref p) (upd H1 p (.lst xs))) : We X (.List es pos) σ H Q := we_of (pe_lst paW) h
theorem w_fld {f : Str} (h : We X e σ H fun x H1 => ∃ a C dx fs v, x = .ref a ∧ H1 a = some (.ins C dx fs) ∧ Cls X.K C ∧ NoAttr X.K C f ∧ fs.lookup f = some v ∧ Q v H1)
    (hb : attributeBase e f X.env (eval e X.env) = eval e X.env := by rfl) : We X (.Attribute e f pos) σ H Q := we_of (pe_fld peW hb) h
theorem w_ix {r : R2} (hr : IxR X r) (h : We X a σ H fun x H1 => We X b σ H1 fun y H2 => r x y H2 Q) (hs : PlainIx b := by exact fun _ _ => rfl) : We X (.Subscript a b pos) σ H Q := we_of (pe_ix hr peW peW hs) h
/-! ### arguments -/
theorem a_nil (q : Qa [] H) : Wa X [] σ H Qa := wa_of pa_nil q
theorem a_cons (h : We X e σ H fun x H1 => Wa X es σ H1 fun xs H2 => Qa (x :: xs) H2) (hs : starEach (e :: es) X.env = (false, eval e X.env) :: starEach es X.env := by rfl) : Wa X (e :: es) σ H Qa := wa_of (pa_cons peW paW hs) h
theorem k_nil (q : Qa [] H) : Wk X [] σ H Qa := wk_of pk_nil q
theorem k_cons {nm kpos} {kws : List Keyword} (h : We X e σ H fun x H1 => Wk X kws σ H1 fun xs H2 => Qa (x :: xs) H2) : Wk X (⟨nm, e, kpos⟩ :: kws) σ H Qa := wk_of (pk_cons peW pkW) h
/-! ### tests -/
theorem t_val (h : We X e σ H fun x H1 => ∃ k, x = .bl k ∧ Qb k H1) (he : ∀ whole, isTrue e X.env whole = (do let v ← whole; standAt e.pos; holding [v] (truthy v)) := by intro _; rfl) : Wt X e σ H Qb := wt_of (pt_val peW he) h
theorem t_truth (h : We X e σ H fun x H1 => ∃ k, TruV X.K x H1 k ∧ Qb k H1) (he : ∀ whole, isTrue e X.env whole = (do let v ← whole; standAt e.pos; holding [v] (truthy v)) := by intro _; rfl) : Wt X e σ H Qb := wt_of (pt_truth peW he) h
theorem t_cmp {op : CmpOp} {r : R2} (ho : OpR X (compareOp op) r) (h : We X a σ H fun x H1 => We X b σ H1 fun y H2 => r x y H2 fun z H3 => ∃ k, z = .bl k ∧ Qb k H3) (hm : behindInMarks op b = false := by first | exact nomark _ | rfl) : Wt X (.Compare a [op] [b] pos) σ H Qb :=
  wt_of (pt_cmpR ho peW peW hm) h
theorem t_not (h : Wt X a σ H fun k H1 => Qb (!k) H1) : Wt X (.UnaryOp .Not a pos) σ H Qb := wt_of (pt_not ptW) h
theorem t_bool (h : Ww X e σ H Qb) : Wt X e σ H Qb := ⟨fun pins s I => h.run _ pins s I⟩
theorem b_and1 (h : Wt X a σ H Qb) : Ww X (.BoolOp .And [a] pos) σ H Qb := ww_of (pw_and1 ptW) h
theorem b_or1 (h : Wt X a σ H Qb) : Ww X (.BoolOp .Or [a] pos) σ H Qb := ww_of (pw_or1 ptW) h
theorem b_and (h : Wt X a σ H fun k H1 => if k = true then Ww X (.BoolOp .And (b :: rest) pos) σ H1 Qb else Qb false H1) : Ww X (.BoolOp .And (a :: b :: rest) pos) σ H Qb := ww_of (pw_and ptW pwW) h
theorem b_or (h : Wt X a σ H fun k H1 => if k = true then Qb true H1 else Ww X (.BoolOp .Or (b :: rest) pos) σ H1 Qb) : Ww X (.BoolOp .Or (a :: b :: rest) pos) σ H Qb := ww_of (pw_or ptW pwW) h
/-! ### statements -/
theorem s_nil (q : D.nx σ H) : Wb X [] D σ H := wb_of pss_nil q
theorem s_one (h : Ws X st D σ H) : Wb X [st] D σ H := wb_of (pss_one psW) h
theorem s_cons (h : Ws X st { D with nx := fun σ' H' => Wb X sts D σ' H' } σ H) : Wb X (st :: sts) D σ H := wb_of (pss_cons psW pbW) h
theorem s_pass (q : D.nx σ H) : Ws X (.Pass pos) D σ H := ws_of ps_pass q
theorem s_brk (q : D.bk σ H) : Ws X (.Break pos) D σ H := ws_of ps_break q
theorem s_cont (q : D.ct σ H) : Ws X (.Continue pos) D σ H := ws_of ps_continue q
theorem s_expr (h : We X e σ H fun _ H1 => D.nx σ H1) (hs : swapsWith e none pos.line X.env = pure false := by rfl) : Ws X (.Expr e pos) D σ H := ws_of (ps_expr peW hs) h
theorem s_ret (h : We X e σ H D.rt) : Ws X (.Return (some e) pos) D σ H := ws_of (ps_ret peW) h
theorem s_if {u v : List Stmt} (h : Wt X c σ H fun k H1 => if k = true then Wb X u D σ H1 else Wb X v D σ H1) : Ws X (.If c u v pos) D σ H := ws_of (ps_if ptW pbW pbW) h
theorem s_set (i : Nat) {x : Str} (hN : X.N.Nodup) (h : We X e σ H fun v H1 => D.nx (σ.set i (some v)) H1) (hi : X.N[i]? = some x := by rfl) (hx : Loc X.env.scope x := by first | exact Or.inl rfl | exact Or.inr rfl) (hs : swapsWith e (some (.Name x pos')) pos.line X.env = pure false := by rfl)
    (hf : X.fn x = true ∨ X.env.scope.names.lookup x = some .local := by first | exact .inl rfl | exact .inr rfl) : Ws X (.Assign [.Name x pos'] e pos) D σ H := ws_of (ps_set hN hi hx peW hs hf) h
end
end PR
namespace PR
open PySem PySem.Spec PyProof.Rows L2
section
variable {X : Cx} {e : Expr} {es : List Expr} {ta : TA} {p p1 p2 pos : Pos}
/-- S.__init__(self, ..), S a class of the program over ValueError without an own __init__ -/
theorem pe_sinit {S : Str} {C : Addr} {mc : Value} {pl : Sem Bool} (hg : Gl X S) (hm : X.mg S = some (.ref C)) (r : ClX.CRead X.K C mc) (vV : PySem.W.findCls X.K (.ref C) mc "__init__" = some (.val (.builtin "ValueError.__init__"))) (ha : PA X (e :: es) ta)
    (hdb : (S == ("__debug__" : Str)) = false := by decide)
    (hc : eval (.Call (.Attribute (.Name S p1) "__init__" p2) (e :: es) [] pos) X.env = (do
      let ov ← eval (.Name S p1) X.env
      standAt p2.atName
      let (f, first) ← holding [ov] (getMethod ov "__init__" pl)
      callWith pos f first (backTo pos (starEach (e :: es) X.env)) (backToKw pos (keywordEach [] X.env))) := by rfl)
    (he : starEach (e :: es) X.env = (false, eval e X.env) :: starEach es X.env := by rfl) (hpl : (backTo pos (starEach es X.env)).any (·.1) = false := by rfl) :
    PE X (.Call (.Attribute (.Name S p1) "__init__" p2) (e :: es) [] pos) (tVeI X.K ta) := by
  refine ⟨fun pins s σ H Q I h => ?_⟩
  refine PySem.W.methodCall_KW (ld_glob I hg hm ?_ hdb) hc
  refine PySem.W.method_cls I.kIn r.ga (PySem.W.cls_value I.kIn r.rd vV (by decide +kernel) ?_)
  show wpAny _ _ (callWith pos (Value.builtin "ValueError.__init__") [] (backTo pos (starEach (e :: es) X.env)) []) _ _ _
  refine PyProof.Rows.callWith_method1 (thn (ha.run pos pins _ σ H _ (I.tok _) h) fun us s1 ⟨vs, H1, I1, r1, a, C, ws, ev, hl, T, ea, q⟩ => ?_) he hpl
  subst ev
  cases r1 with
  | @cons _ u0 _ ur ra rw' =>
    obtain rfl : u0 = Value.ref a := ra
    have hlen : ur.length ≤ sizeLine := by
      rw [← Paired.length rw', sizeLine_eq]
      omega
    exact oinit_ok T I1 ea hlen fun s' J => ⟨.non, H1, J, rfl, q⟩
/-- the end of C(..) whose __init__ stores nothing: the exception is let go -/
theorem mk_endN {pins : List (Addr × Obj)} {σ : L2.St} {H1 H2 : Hp} {Q : XK} {hp hp2 h2 : Heap} {g1 g2 : Array GenState} {d1 d2 : Drawn} {t1 t2 : Nat} {os1 os2 : OsState} {a C : Addr} (T : Raises X (.ref C)) (I1 : Inv X pins σ H1 ⟨hp, g1, d1, t1, os1⟩)
    (ha : hp.objs.size ≤ a) (k : ∀ b o, hp.get? b = some o → hp2.get? b = some o) (un : Un (frs X.stack) [] (upd H1 a (exo a C none)) H2 hp2 h2) (hok : HOk X.prog X.w H2 h2) (ho : os2 = os1) (hb : AllBare g2)
    (ea : H2 a = some (exo a C none)) (q : Q (.ref C) none (del H2 a)) : MkP X pins σ Q (.ref a) ⟨h2, g2, d2, t2, os2⟩ := by
  obtain ⟨t0, hoe⟩ := exo_at hok ea
  have hn : H1 a = none := I1.hok.fresh ha
  obtain ⟨G, g1', g2'⟩ := restrict h2 fun b => decide (b ≠ a)
  have gk : ∀ b, b ≠ a → G.get? b = h2.get? b := fun b hb => g1' b (decide_eq_true hb)
  have ge : G.get? a = none := g2' a (by simp)
  have nha : ∀ {b : Addr} {o : Obj}, hp.get? b = some o → b ≠ a := fun {b o} z => Nat.ne_of_lt (Nat.lt_of_lt_of_le (Heap.lt_size z) ha)
  have up : ∀ {b : Addr}, b ≠ a → H1 b = none → upd H1 a (exo a C none) b = none := fun {b} hb n => by rw [upd_ne hb]; exact n
  have U : Un (frs X.stack) [] H1 (del H2 a) hp G := {
    keep := fun b o z n hf hx => by
      rw [gk b (nha z)]
      exact un.keep b o (k b o z) (up (nha z) n) hf hx
    slot := fun b o z n hf hx => by
      rw [gk b (nha z)]
      exact un.slot b o (k b o z) (up (nha z) n) hf hx
    free := fun b o z n hx => by
      rw [del_ne (nha z)]
      exact un.free b o (k b o z) (up (nha z) n) hx
    there := fun b o z hx => by
      rw [gk b (nha z)]
      exact un.there b o (k b o z) hx
    tups := fun b xs z => by
      rw [del_ne (ne_of_none z hn)]
      exact un.tups b xs (by rw [upd_ne (ne_of_none z hn)]; exact z)
    frzs := fun b o v z => by
      rw [del_ne (ne_of_none z hn)]
      exact un.frzs b o v (by rw [upd_ne (ne_of_none z hn)]; exact z)
    tbls := fun b ps z => by
      rw [del_ne (ne_of_none z hn)]
      exact un.tbls b ps (by rw [upd_ne (ne_of_none z hn)]; exact z) }
  have hok3 : HOk X.prog X.w (del H2 a) G := fun b o z => by
    have hba : b ≠ a := fun e => by
      rw [e, del_same] at z
      cases z
    rw [del_ne hba] at z
    have noa : ∀ {c : Addr}, H2 c = some (.own b) → c ≠ a := fun {c} hc => at_ne ea hc exo_own
    exact (hok b o z).stay (fun c v hc y => by
        have hca : c ≠ a := by
          rcases hc with hc | hc
          · rw [hc]
            exact hba
          · exact noa hc
        rw [gk c hca]
        exact y)
      (fun c hc => by rw [del_ne (noa hc)]; exact hc) (fun c xs hc => by rw [del_ne (at_ne ea hc exo_tup)]; exact hc)
  have J : Inv X pins σ (del H2 a) ⟨G, g2, d2, t2, os2⟩ := I1.call' (ch := []) ho U hok3 hb (fun b z => absurd z (by simp))
  refine ⟨a, _, _, ⟨G, g2, d2, t2, os2⟩, _, .ref C, none, rfl, J, fun b o z => ?_, ge, hoe, ⟨rfl, rfl⟩, rfl, rfl, del_same, rfl, hb, T, q⟩
  by_cases hba : b = a
  · rw [hba, ge] at z
    cases z
  · exact (gk b hba).symm.trans z
/-- C(), C's own __init__ keeping sp, nothing stored -/
def tMkO0 (C : Addr) (sp : Sp) : L2.St → Hp → XK → Prop := fun _ H Q => ∀ a, H a = none → sp [.ref a] (upd H a (exo a C none)) (fun v H2 => v = .non ∧ H2 a = some (exo a C none) ∧ Q (.ref C) none (del H2 a)) (fun _ _ _ => False)
theorem pmk_oex0 {CX : CXT} {x : Str} {C fI : Addr} {k : Nat} {fd : FuncData} {ps : List Str} {sp : Sp} (T : OexC X.K C) (iC : PySem.W.findIn X.K (.ref C) "__init__" = some (some (.ref fI))) (tI : PySem.W.typeIn X.K (.ref fI) = some (.type "function"))
    (F1 : FnOk X.prog X.w X.K X.mg X.base CX k fI fd ps sp) (hr : Room (k + 1) X.A) (hb : Binds X.K fd ps []) (hx : Passes CX X (fun _ _ _ => False)) (hg : Gl X x) (hm : X.mg x = some (.ref C))
    (hdb : (x == ("__debug__" : Str)) = false := by decide) :
    PMk X (.Call (.Name x p) [] [] pos) (tMkO0 C sp) := by
  intro pins s σ H1 Q I1 q1
  obtain ⟨nm, q, N, bs, bm, sn, sub, ab, col, dd, k0, k1, k2, k3, k5, hC, hbm⟩ := T.cls
  refine wpAny_Call_Name_kw (ld_glob I1 hg hm ?_ hdb)
  refine PySem.W.callWith_K0 I1.kIn T.kC ?_
  show wpAny _ _ (call (.ref C) []) _ _ _
  obtain ⟨hp, g, dr, tk, os⟩ := s
  have hsz : hp.objs.size ≤ hp.objs.size + 1 := Nat.le_succ _
  have hn : H1 (hp.objs.size + 1) = none := I1.hok.fresh hsz
  have hq := q1 (hp.objs.size + 1) hn
  have kk : ∀ b o, hp.get? b = some o → ((hp.push (PySem.W.kdv_tup [])).push (PySem.HandSPX.excO C hp.objs.size)).get? b = some o := fun b o e => Heap.get?_push_of_some _ (Heap.get?_push_of_some _ e)
  have hget : ((hp.push (PySem.W.kdv_tup [])).push (PySem.HandSPX.excO C hp.objs.size)).get? (hp.objs.size + 1) = some (PySem.HandSPX.excO C hp.objs.size) := by heap_get
  have I2 : Inv X pins σ (upd H1 (hp.objs.size + 1) (exo (hp.objs.size + 1) C none)) ⟨(hp.push (PySem.W.kdv_tup [])).push (PySem.HandSPX.excO C hp.objs.size), g, dr, tk, os⟩ :=
    I1.laid (t' := tk) (a := hp.objs.size + 1) (o := exo (hp.objs.size + 1) C none) (h' := (hp.push (PySem.W.kdv_tup [])).push (PySem.HandSPX.excO C hp.objs.size)) kk hsz (exo_ok hget)
  have r2 : Vals [V.ref (hp.objs.size + 1)] [Value.ref (hp.objs.size + 1)] := .cons rfl .nil
  have hl : ([Value.ref (hp.objs.size + 1)] ++ ([] : List Value)).length = ps.length := (F1.len _ _ _ _ hq)
  refine wpAny_call (PySem.HandSPX.call_own F.excBase_ValueError (fun Y => PySem.HandSPX.refsVE_contains Y bm hbm) (I1.kIn _ _ hC) (PySem.W.looks_findIn I1.kIn iC) (fun self => PySem.W.bind_fn I1.kIn self tI) (by simp)
    (codeAny_mono (F1.run _ X.stack _ _ ⟨[Value.ref (hp.objs.size + 1)], []⟩ [Value.ref (hp.objs.size + 1)] _ _ (fun _ _ _ => False) (hr.make C [] []) (I2.env0.make C [] []) (hb _ [Value.ref (hp.objs.size + 1)] I2.kIn hl) r2 hq) fun r s' hq' => ?_))
  cases r with
  | error er => exact hx pins σ _ _ er s' I2 hq'
  | ok fl =>
    cases fl with
    | ret u =>
      obtain ⟨v, H2, os2, bare2, un2, hok2, rv, ev, ea, q2⟩ := hq'
      subst ev
      obtain ⟨h2, g2, d2, t2, os'⟩ := s'
      exact ⟨rv, mk_endN (raises_own T.exC T.tyC) I1 hsz kk un2 hok2 os2 bare2 ea q2⟩
    | next => exact False.elim hq'
    | brk => exact False.elim hq'
    | cont => exact False.elim hq'
end
end PR
namespace PR
open PySem PySem.Spec PyProof.Rows L2
/-! ### calls -/
theorem passX {P : Program} {w : World} {K : PySem.W.Frag} {mg : Str → Option Value} {base : Heap} {N : List Str} {qual : Str} {sc : Scope} {f : Addr} {cdv : Value} {A : Around} {outer : List Env} {s : Shared} {H : Hp} {E : XK} :
    Passes (L2.CX P w) (cxOf (L2.CX P w) P w K mg base N qual sc f cdv A outer s H E) E :=
  passes_call (X := cxOf (L2.CX P w) P w K mg base N qual sc f cdv A outer s H E) (takes_of (E := E) rfl rfl rfl rfl) fun _ _ _ _ h => h
section
variable {X : Cx} {e o a b : Expr} {es : List Expr} {σ : L2.St} {H : Hp} {Q : VK} {p pos apos : Pos} {CX : CXT} {k : Nat} {f C g : Addr} {sp : Sp} {E : XK} {x m : Str}
/-- x(e, ..), x a def of the module -/
theorem w_call (F : FnR X.prog X.w X.K X.mg X.base CX k f sp) (hr : Room k X.A) (hm : X.mg x = some (.ref f)) (hk : PySem.W.keepIn X.K (.ref f) = true) (hx : Passes CX X E)
    (h : Wa X (e :: es) σ H fun vs H1 => sp vs H1 Q E) (hg : Gl X x := by rfl) (hdb : (x == ("__debug__" : Str)) = false := by decide) (he : starEach (e :: es) X.env = (false, eval e X.env) :: starEach es X.env := by rfl) (hpl : (backTo pos (starEach es X.env)).any (·.1) = false := by rfl) :
    We X (.Call (.Name x p) (e :: es) [] pos) σ H Q := by
  refine ⟨fun pins s I => ?_⟩
  refine wpAny_Call_Name_kw (ld_glob I hg hm ?_ hdb)
  refine PySem.W.callWith_K (h₀ := X.base) I.ok.mod.kin hk (thn (h.run pos pins s I) fun us s1 ⟨vs, H1, I1, r, q⟩ => ⟨I1.kIn, ?_⟩) he hpl
  exact wpAny_call (run_fnR F hr hx I1 r q)
theorem w_call0 (F : FnR X.prog X.w X.K X.mg X.base CX k f sp) (hr : Room k X.A) (hm : X.mg x = some (.ref f)) (hk : PySem.W.keepIn X.K (.ref f) = true) (hx : Passes CX X E)
    (h : sp [] H Q E) (hg : Gl X x := by rfl) (hdb : (x == ("__debug__" : Str)) = false := by decide) : We X (.Call (.Name x p) [] [] pos) σ H Q := by
  refine ⟨fun pins s I => ?_⟩
  refine wpAny_Call_Name_kw (ld_glob I hg hm ?_ hdb)
  exact PySem.W.callWith_K0 I.kIn hk (wpAny_call (run_fnR (us := []) F hr hx I .nil h))
/-- o.m(e, ..) -/
theorem w_meth {pl : Sem Bool} (c : Cls X.K C) (hm : Meth X.K C m f) (F : FnR X.prog X.w X.K X.mg X.base CX k f sp) (hr : Room k X.A) (hx : Passes CX X E)
    (h : We X o σ H fun x H1 => ∃ a dx fs, x = .ref a ∧ H1 a = some (.ins C dx fs) ∧ fs.lookup m = none ∧ Wa X (e :: es) σ H1 fun vs H2 => sp (x :: vs) H2 Q E)
    (hst : starEach (e :: es) X.env = (false, eval e X.env) :: starEach es X.env := by rfl) (hpl : (backTo pos (starEach es X.env)).any (·.1) = false := by rfl)
    (ht : eval (.Call (.Attribute o m apos) (e :: es) [] pos) X.env = (do
      let ov ← eval o X.env
      standAt apos.atName
      let (f, first) ← holding [ov] (getMethod ov m pl)
      callWith pos f first (backTo pos (starEach (e :: es) X.env)) (backToKw pos (keywordEach [] X.env))) := by rfl) :
    We X (.Call (.Attribute o m apos) (e :: es) [] pos) σ H Q := we_of (pe_methR peW c hm F hr hx paW hst hpl ht) h
theorem w_meth0 {pl : Sem Bool} (c : Cls X.K C) (hm : Meth X.K C m f) (F : FnR X.prog X.w X.K X.mg X.base CX k f sp) (hr : Room k X.A) (hx : Passes CX X E)
    (h : We X o σ H fun x H1 => ∃ a dx fs, x = .ref a ∧ H1 a = some (.ins C dx fs) ∧ fs.lookup m = none ∧ sp [x] H1 Q E)
    (ht : eval (.Call (.Attribute o m apos) [] [] pos) X.env = (do
      let ov ← eval o X.env
      standAt apos.atName
      let (f, first) ← holding [ov] (getMethod ov m pl)
      callWith pos f first (backTo pos (starEach [] X.env)) (backToKw pos (keywordEach [] X.env))) := by rfl) :
    We X (.Call (.Attribute o m apos) [] [] pos) σ H Q := by
  refine ⟨fun pins s I => ?_⟩
  refine PySem.W.methodCall_KW (pl := pl) (thn (h.run pins s I) fun u s1 ⟨x, H1, I1, rx, a, dx, fs, ex, ea, l, q⟩ => ?_) ht
  subst ex
  obtain rfl : u = Value.ref a := rx
  refine getmeth_ok I1 ea c hm l ?_
  exact PySem.W.callWith_K0 (first := [.ref a]) I1.kIn hm.kp (wpAny_call (run_fnR (us := [.ref a]) (vs := [.ref a]) F hr hx I1 (.cons rfl .nil) q))
/-- C(e, ..) -/
theorem w_make (M : Mk X.K C f) (F : FnR X.prog X.w X.K X.mg X.base CX k f sp) (hr : Room (k + 1) X.A) (hm : X.mg x = some (.ref C)) (hx : Passes CX X E)
    (h : Wa X (e :: es) σ H fun vs H1 => ∀ x dx, H1 x = Option.none → H1 dx = Option.none → dx ≠ x → sp (V.ref x :: vs) (upd (upd H1 dx (.own x)) x (.ins C dx [])) (fun v H2 => v = .non ∧ Q (.ref x) H2) E)
    (hg : Gl X x := by rfl) (hdb : (x == ("__debug__" : Str)) = false := by decide) (he : starEach (e :: es) X.env = (false, eval e X.env) :: starEach es X.env := by rfl) (hpl : (backTo pos (starEach es X.env)).any (·.1) = false := by rfl) :
    We X (.Call (.Name x p) (e :: es) [] pos) σ H Q := we_of (StX.pe_makeR M F hr hg hm hx paW hdb he hpl) h
/-- a builtin -/
theorem w_callB {id : String} {r : List V → Hp → VK → Prop} (hc : CallR X (.builtin id) r) (hm : X.mg x = none) (hv : bootBuiltins x = some (.builtin id)) (h : Wa X (e :: es) σ H fun vs H1 => r vs H1 Q) (hg : Gl X x := by rfl) (hn : x ≠ "__name__" := by decide) (hdb : (x == ("__debug__" : Str)) = false := by decide)
    (he : starEach (e :: es) X.env = (false, eval e X.env) :: starEach es X.env := by rfl) (hpl : (backTo pos (starEach es X.env)).any (·.1) = false := by rfl) : We X (.Call (.Name x p) (e :: es) [] pos) σ H Q :=
  we_of (pe_callB hc hg hm hv paW hn hdb he hpl) h
theorem w_callT {T : String} {r : List V → Hp → VK → Prop} (hc : CallR X (.type T) r) (hm : X.mg x = none) (hv : bootBuiltins x = some (.type T)) (h : Wa X (e :: es) σ H fun vs H1 => r vs H1 Q) (hg : Gl X x := by rfl) (hn : x ≠ "__name__" := by decide) (hdb : (x == ("__debug__" : Str)) = false := by decide)
    (he : starEach (e :: es) X.env = (false, eval e X.env) :: starEach es X.env := by rfl) (hpl : (backTo pos (starEach es X.env)).any (·.1) = false := by rfl) : We X (.Call (.Name x p) (e :: es) [] pos) σ H Q :=
  we_of (pe_callTy hc hg hm hv paW hn hdb he hpl) h
end
/-! ### operators of an own class -/
/-- what of the text x op y asks: C's own def for op; int has one too -/
structure OwnB (K : PySem.W.Frag) (C g : Addr) (op : Operator) : Prop where
  first : PySem.W.selfFirst K C = true
  at_ : PySem.W.findIn K (.ref C) (PySem.dunder op.info.2) = some (some (.ref g))
  fn : PySem.W.isFn K (.ref g) = true
  rev : PySem.W.findIn K (.ref C) (dunderR op.info.2) = some none
  sub : PySem.W.subIn K (.type "int") (.ref C) = some false
  i1 : ∃ fo, PySem.W.findIn K (.type "int") (PySem.dunder op.info.2) = some fo
  i2 : ∃ ro, PySem.W.findIn K (.type "int") (dunderR op.info.2) = some ro
/-- y beside an instance of C: another one, or an int -/
def Mate (C : Addr) (H : Hp) (y : V) : Prop := (∃ b dy gs, y = .ref b ∧ H b = some (.ins C dy gs)) ∨ ∃ i, y = .int i
def rOwnB (C : Addr) (sp : Sp) (E : XK) : R2 := fun x y H Q => ∃ a dx fs, x = .ref a ∧ H a = some (.ins C dx fs) ∧ Mate C H y ∧ sp [x, y] H Q E
section
variable {X : Cx} {CX : CXT} {k : Nat} {C g : Addr} {sp : Sp} {E : XK}
theorem op_ownB {op : Operator} (O : OwnB X.K C g op) (F : FnR X.prog X.w X.K X.mg X.base CX k g sp) (hr : Room k X.A) (hx : Passes CX X E) : OpR X (binaryOp op) (rOwnB C sp E) := by
  intro pins s σ H x y v u Q I rx ry h
  obtain ⟨a, dx, fs, rfl, ha, hy, q⟩ := h
  cases (show v = Value.ref a from rx)
  obtain ⟨mA, OA, _⟩ := ins_get I.hok ha
  obtain ⟨od, J, _⟩ := OA.look
  obtain ⟨m, hF⟩ := I.fr
  rcases hy with ⟨b, dy, gs, rfl, hb⟩ | ⟨i, rfl⟩
  · cases (show u = Value.ref b from ry)
    obtain ⟨mB, OB, _⟩ := ins_get I.hok hb
    obtain ⟨ob, JB, _⟩ := OB.look
    refine PySem.W.binop_K hF I.ok.mod.kin J JB.type O.first O.at_ O.fn ?_
    refine wpAny_mono (wpAny_call (run_fnR (us := [.ref a, .ref b]) (vs := [.ref a, .ref b]) F hr hx I (.cons rfl (.cons rfl .nil)) q)) (fun w s' z => ?_) fun _ _ x => x
    obtain ⟨z', H', I', rz, qz⟩ := z
    exact SlX.cmpback rz ⟨z', H', I', rz, qz⟩
  · obtain ⟨t, rfl⟩ := ry
    obtain ⟨fo, h1⟩ := O.i1
    obtain ⟨ro, h2⟩ := O.i2
    refine PySem.W.ksp_binT hF I.ok.mod.kin J (T := "int") rfl O.first O.at_ O.fn O.rev (Or.inl rfl) h1 h2 O.sub ?_
    refine wpAny_mono (wpAny_call (run_fnR (us := [.ref a, .int i t]) (vs := [.ref a, .int i]) F hr hx I (.cons rfl (.cons ⟨t, rfl⟩ .nil)) q)) (fun w s' z => ?_) fun _ _ x => x
    obtain ⟨z', H', I', rz, qz⟩ := z
    exact SlX.cmpback rz ⟨z', H', I', rz, qz⟩
/-- -x -/
def rOwnU (C : Addr) (sp : Sp) (E : XK) : V → Hp → VK → Prop := fun x H Q => ∃ a dx fs, x = .ref a ∧ H a = some (.ins C dx fs) ∧ sp [x] H Q E
theorem un_own (hs : PySem.W.findIn X.K (.ref C) "__neg__" = some (some (.ref g))) (hf : PySem.W.isFn X.K (.ref g) = true) (F : FnR X.prog X.w X.K X.mg X.base CX k g sp) (hr : Room k X.A) (hx : Passes CX X E) : UnR X (unaryOp .USub) (rOwnU C sp E) := by
  intro pins s σ H x v Q I rx h
  obtain ⟨a, dx, fs, rfl, ha, q⟩ := h
  cases (show v = Value.ref a from rx)
  obtain ⟨mA, OA, _⟩ := ins_get I.hok ha
  obtain ⟨od, J, _⟩ := OA.look
  obtain ⟨m, hF⟩ := I.fr
  exact PySem.W.ksp_neg hF I.ok.mod.kin J hs hf (wpAny_call (run_fnR (us := [.ref a]) (vs := [.ref a]) F hr hx I (.cons rfl .nil) q))
/-- x == y, x < y, x <= y, x of the class at C: y of a type that is not below it -/
def rOwnC (K : PySem.W.Frag) (C : Addr) (sp : Sp) (E : XK) : R2 := fun x y H Q => ∃ a dx fs t, x = .ref a ∧ H a = some (.ins C dx fs) ∧ TyX K H y t ∧ PySem.W.notFirst K C t = true ∧ sp [x, y] H Q E
theorem op_ownC {op : CmpOp} (hop : ∀ a b, compareOp op a b = richCompare op a b) (hs : PySem.W.findIn X.K (.ref C) (cmpInfo op).2.1 = some (some (.ref g))) (hf : PySem.W.isFn X.K (.ref g) = true)
    (F : FnR X.prog X.w X.K X.mg X.base CX k g sp) (hr : Room k X.A) (hx : Passes CX X E) : OpR X (compareOp op) (rOwnC X.K C sp E) := by
  intro pins s σ H x y v u Q I rx ry h
  obtain ⟨a, dx, fs, t, rfl, ha, ty, hn, q⟩ := h
  cases (show v = Value.ref a from rx)
  obtain ⟨mA, OA, _⟩ := ins_get I.hok ha
  obtain ⟨od, J, _⟩ := OA.look
  obtain ⟨m, hF⟩ := I.fr
  obtain ⟨P, Z, hp, _⟩ := kit_of I ry ty
  rw [hop]
  refine PySem.W.cmp_K (op := op) (tb := t) hr.units0 hF I.ok.mod.kin J (Z.ty (model X.prog X.w) _ I.kIn hp) hn hs hf ?_
  refine wpAny_mono (wpAny_call (run_fnR (us := [.ref a, u]) (vs := [.ref a, y]) F hr hx I (.cons rfl (.cons ry .nil)) q)) (fun w s' z => ?_) fun _ _ x => x
  obtain ⟨z', H', I', rz, qz⟩ := z
  exact SlX.cmpback rz ⟨z', H', I', rz, qz⟩
end
end PR
namespace PR
open PySem PySem.Spec PyProof.Rows L2
section
variable {prog : Program} {w : World} {A : Around} {E : Value → Shared → Prop} {s : Shared} {K : PySem.W.Frag} {x C L f : Addr} {h₀ : Heap} {m : Str → Option Value} {ox : Obj} {od : Option Obj} {b tb : Value}
/-- the body of object.__ne__: the own __eq__, turned round -/
theorem objne_K {Q : Fin → Shared → Prop} (hu : A.units < cLine) (X : K.In s.heap) (I : PySem.W.InstAt s.heap x ox C od) (hs : PySem.W.findIn K (.ref C) "__eq__" = some (some (.ref f))) (hf : PySem.W.isFn K (.ref f) = true)
    (h : wpAny (model prog w) A (call (.ref f) [.ref x, b]) (fun v s' => ∃ k, v = .bool k ∧ Q (.done (.ret (.bool (!k)))) s') E s) : wpAny (model prog w) A (Builtin.«object.__ne__» ⟨[.ref x, b], []⟩) Q E s := by
  unfold Builtin.«object.__ne__»
  refine wpAny_bind (wpAny_of_eq (a := (.ref x, [b])) (by first | rfl | kernel_rfl) ?_)
  refine wpAny_bind (wpAny_cRoomFor hu ?_)
  refine wpAny_bind (PySem.W.ifBound_K X I hs hf (wpAny_mono h (fun v s' hv => ?_) fun _ _ e => e))
  obtain ⟨k, rfl, hq⟩ := hv
  refine wpAny_bind (wpAny_truthy_bool ?_)
  exact wpAny_pure hq
theorem ifBound_B {M : Model} {name : Str} {id : String} {B : String} {args : List Value} {Q : Option Value → Shared → Prop} (X : K.In s.heap) (I : PySem.W.InstAt s.heap x ox C od) (hs : PySem.W.findIn K (.ref C) name = some (some (.builtin id))) (S : Slot B name id)
    (h : wpAny M A (call (.builtin id) (.ref x :: args)) (fun v => Q (some v)) E s) : wpAny M A (callSpecialIfBound? (.ref x) name args) Q E s := by
  simp only [callSpecialIfBound?, bindSpecialIfBound?]
  refine wpAny_holding (wpAny_bind (wpAny_bind (wpAny_bind (I.type.here ((PySem.W.looks_findIn X hs).here ?_)))))
  simp only [S.bind]
  refine wpAny_bind (wpAny_askSetting (wpAny_ite ?_))
  have fin : wpAny M A (call (.builtin id) ([.ref x] ++ args) >>= fun v => pure (some v)) Q E s := wpAny_bind (wpAny_mono h (fun v s' h' => wpAny_pure h') fun _ _ h' => h')
  split
  · exact wpAny_bind (wpAny_pure (wpAny_pure fin))
  · exact wpAny_tryCatch (wpAny_bind (wpAny_pure (wpAny_pure fin)))
theorem ne_K {Q : Value → Shared → Prop} (hu : A.units + 1 < cLine) (F : Fr h₀ L s.heap m) (X₀ : K.In h₀) (I : PySem.W.InstAt s.heap x ox C od) (hb : PySem.W.Looks (model prog w) s.heap (typeOf b) tb) (hn : PySem.W.notFirst K C tb = true)
    (hs : PySem.W.findIn K (.ref C) "__eq__" = some (some (.ref f))) (hf : PySem.W.isFn K (.ref f) = true) (hne : PySem.W.findIn K (.ref C) "__ne__" = some (some (.builtin "object.__ne__"))) (hm : PySem.W.mroIn K C (.type "object") = some true)
    (h : wpAny (model prog w) A.in1 (call (.ref f) [.ref x, b]) (fun v s' => ∃ k, v = .bool k ∧ Q (.bool (!k)) s') E s) : wpAny (model prog w) A (richCompare .NotEq (.ref x) b) Q E s := by
  have X := X₀.keeps F.keep
  have FB := PySem.F.cmp_object
  have sub : PySem.W.Looks (model prog w) s.heap (isInstance (.ref x) (.type "object")) true := I.type.andThen (PySem.W.looks_mroIn X hm)
  have one : wpAny (model prog w) A (tryCompare (.ref x) "__ne__" b) (fun r s' => ∃ v, r = some v ∧ Q v s') E s := by
    unfold tryCompare
    refine wpAny_bind (ifBound_B X I hne FB.ne (wpAny_call (codeAny_call_builtin FB.ne.plain PySem.F.cmpEntry_ne
      (PySem.W.check_slot PySem.F.cmpKind_ne PySem.F.cmpSplit_ne sub (PySem.F.cmpArgs_ne _ _) (objne_K (A := A.in1) hu X I hs hf (wpAny_mono h (fun v s' hv => ?_) fun _ _ e => e))))))
    obtain ⟨k, rfl, hq⟩ := hv
    exact ⟨k, rfl, wpAny_pure ⟨_, rfl, hq⟩⟩
  unfold richCompare
  simp only [oneThing_ref]
  refine wpAny_holding (wpAny_bind (wpAny_cRoomFor (Nat.lt_of_succ_lt hu) ?_))
  rw [PySem.cmpInfo_NotEq]
  dsimp only
  refine wpAny_bind (I.type.here (wpAny_bind (hb.here ?_)))
  split
  · rename_i q
    have e : PySem.W.subIn K tb (.ref C) = some false := by
      rcases Bool.or_eq_true_iff.mp hn with e | e
      · rw [beq_iff_eq.mp e] at q; simp at q
      · exact beq_iff_eq.mp e
    refine wpAny_bind ((PySem.W.looks_subIn X e).here ?_)
    simp only [Bool.false_eq_true, if_false]
    refine wpAny_bind (wpAny_mono one (fun r s' z => ?_) fun _ _ e => e)
    obtain ⟨v, rfl, hq⟩ := z
    exact wpAny_pure hq
  · refine wpAny_bind (wpAny_pure ?_)
    simp only [Bool.false_eq_true, if_false]
    refine wpAny_bind (wpAny_mono one (fun r s' z => ?_) fun _ _ e => e)
    obtain ⟨v, rfl, hq⟩ := z
    exact wpAny_pure hq
end
/-- x != y by an own __eq__ -/
def rOwnN (K : PySem.W.Frag) (C : Addr) (sp : Sp) (E : XK) : R2 := fun x y H Q => ∃ a dx fs t, x = .ref a ∧ H a = some (.ins C dx fs) ∧ TyX K H y t ∧ PySem.W.notFirst K C t = true ∧ sp [x, y] H (fun v H' => ∃ k, v = .bl k ∧ Q (.bl (!k)) H') E
section
variable {X : Cx} {CX : CXT} {k : Nat} {C g : Addr} {sp : Sp} {E : XK}
theorem op_ownN (hs : PySem.W.findIn X.K (.ref C) "__eq__" = some (some (.ref g))) (hf : PySem.W.isFn X.K (.ref g) = true) (hne : PySem.W.findIn X.K (.ref C) "__ne__" = some (some (.builtin "object.__ne__"))) (hmr : PySem.W.mroIn X.K C (.type "object") = some true)
    (F : FnR X.prog X.w X.K X.mg X.base CX k g sp) (hr : Room (k + 1) X.A) (hx : Passes CX X E) : OpR X (compareOp .NotEq) (rOwnN X.K C sp E) := by
  intro pins s σ H x y v u Q I rx ry h
  obtain ⟨a, dx, fs, t, rfl, ha, ty, hn, q⟩ := h
  cases (show v = Value.ref a from rx)
  obtain ⟨mA, OA, _⟩ := ins_get I.hok ha
  obtain ⟨od, J, _⟩ := OA.look
  obtain ⟨m, hF⟩ := I.fr
  obtain ⟨P, Z, hp, _⟩ := kit_of I ry ty
  show wpAny _ _ (richCompare .NotEq (.ref a) u) _ _ _
  refine ne_K (tb := t) (hu_of hr) hF I.ok.mod.kin J (Z.ty (model X.prog X.w) _ I.kIn hp) hn hs hf hne hmr ?_
  refine wpAny_mono (wpAny_call (SlX.run_at (us := [.ref a, u]) (ws := [.ref a, y]) F hr.in1 I.env0.in1 hx I (.cons rfl (.cons ry .nil)) q)) (fun w s' z => ?_) fun _ _ x => x
  obtain ⟨z', H', I', rz, kk, ek, qz⟩ := z
  subst ek
  cases rz
  exact ⟨kk, rfl, .bl (!kk), H', I', rfl, qz⟩
end
end PR
/-! The head's facts: any tests of the written part, and the defs. -/
namespace PH
open PySem PySem.Spec PyProof.Rows L2 He5
abbrev Ck : Type := PySem.W.Frag → Bool
def obsP (fa : List Ck) (fn : List DefA) (K : PySem.W.Frag) : He.AlD := ((fa.all fun f => f K) && fn.all fun d => d.ok K, fn.map fun d => fnA K (d.at_ K))
def SaysP (fa : List Ck) (fn : List DefA) (K : PySem.W.Frag) : Prop := obsP fa fn K = valA fn
def obsPG (n : Nat) (fa : List Ck) (fn : List DefA) (g : Addr → Option Obj) : He.AlD := obsP fa fn (He.frG g (asA g n))
def hookP (n : Nat) (fa : List Ck) (fn : List DefA) : PySem.W.Hook where
  α := He.AlD
  obs := fun s => obsPG n fa fn s.heap.get?
  val := fun _ => valA fn
  says := fun _ h => ∃ K : PySem.W.Frag, K.In h ∧ SaysP fa fn K
  of := fun _ _ e => ⟨_, He.frG_in, e⟩
  keeps := fun _ _ _ ⟨K, hK, c⟩ k => ⟨K, PySem.W.Frag.In.keeps hK k, c⟩
theorem obsPG_eq {n : Nat} {fa : List Ck} {fn : List DefA} {g : Addr → Option Obj} {s : Shared} (h : ∀ a, g a = s.heap.get? a) : obsPG n fa fn g = (hookP n fa fn).obs s := by
  have e : g = s.heap.get? := funext h
  rw [e] <;> rfl
section
variable {fa : List Ck} {fn : List DefA} {K : PySem.W.Frag}
theorem SaysP.fact (c : SaysP fa fn K) (i : Nat) {f : Ck} (h : fa[i]? = some f := by rfl) : f K = true := by
  have c1 := (He.ba (show ((fa.all fun f => f K) && fn.all fun d => d.ok K) = true from congrArg (fun z : He.AlD => z.1) c)).1
  exact List.all_eq_true.mp c1 f (List.mem_of_getElem? h)
theorem SaysP.def_ (c : SaysP fa fn K) (i : Nat) {d : DefA} (h : fn[i]? = some d := by rfl) : ∃ fd, L2.FunD K d.name d.qual d.params d.body d.scope (d.dvs K) (d.kws K) (d.at_ K) fd := by
  have c2 := (He.ba (show ((fa.all fun f => f K) && fn.all fun d => d.ok K) = true from congrArg (fun z : He.AlD => z.1) c)).2
  have e : fn.map (fun d => fnA K (d.at_ K)) = fn.map DefA.val := congrArg (fun z : He.AlD => z.2) c
  have e2 : (fn.map fun d => fnA K (d.at_ K))[i]? = (fn.map DefA.val)[i]? := by rw [e]
  rw [List.getElem?_map, List.getElem?_map, h] at e2
  exact DefA.funD (Option.some.inj e2) (List.all_eq_true.mp c2 d (List.mem_of_getElem? h))
end
end PH
/-! Kinds of facts about what the top has left, each a test and what it shows. -/
namespace PH
open PySem PySem.Spec PyProof.Rows L2 He
def eqT (a b : Option Value) : Bool := decide (a = b)
def eqBo (a b : Option Bool) : Bool := decide (a = b)
def ckGlo (x : Str) : Ck := fun K => (Fa.glo x).ok K
def ckFree (x : Str) : Ck := fun K => (Fa.free x).ok K
def ckCls (x : Str) : Ck := fun K => (Fa.cls x).ok K
def ckNoat (x f : Str) : Ck := fun K => (Fa.noat x f).ok K
def ckMeth (x m : Str) : Ck := fun K => (Fa.meth x m).ok K
def ckMkr (x : Str) : Ck := fun K => (Fa.mkr x).ok K
def ckExm (x y : Str) (b : Bool) : Ck := fun K => (Fa.exm x y b).ok K
def ckKeep (x : Str) : Ck := fun K => (Fa.keep x).ok K
/-- the class of an error of the program's own -/
def oexB (K : PySem.W.Frag) (C : Addr) : Bool := match K.lookup C with
  | some ⟨.type t, _, .cls cd, sl⟩ => decide (t = "type") && (match cd.mro, sl.toList with
    | .ref C' :: bm, [_, _, _, _, some (.builtin n), _] => (C' == C) && (decide (n = "ValueError.__new__") && (!cd.hasDel && (cd.hasDict && PySem.HandSPX.refsVE bm)))
    | _, _ => false)
  | _ => false
def ckOex (x : Str) : Ck := fun K => oexB K (ga K x) && (eqO (PySem.W.findIn K (.ref (ga K x)) "__setattr__") (some (some (.builtin "object.__setattr__"))) && (eqBo (PySem.W.subIn K (.ref (ga K x)) (.type "BaseException")) (some true) &&
  (eqT (PySem.W.typeIn K (.ref (ga K x))) (some (.type "type")) && PySem.W.keepIn K (.ref (ga K x)))))
theorem oex_ok {K : PySem.W.Frag} {x : Str} (c : ckOex x K = true) : OexC K (ga K x) := by
  obtain ⟨c1, c⟩ := ba c
  obtain ⟨c2, c⟩ := ba c
  obtain ⟨c3, c⟩ := ba c
  obtain ⟨c4, c5⟩ := ba c
  refine ⟨?_, eqO_ok c2, of_decide_eq_true c3, of_decide_eq_true c4, c5⟩
  generalize ga K x = C at c1 ⊢
  unfold oexB at c1
  split at c1
  · rename_i t dd cd sl ho
    obtain ⟨e0, c1⟩ := ba c1
    split at c1
    · rename_i C' bm k0 k1 k2 k3 n k5 hm hs
      obtain ⟨e1, c1⟩ := ba c1
      obtain ⟨e2, c1⟩ := ba c1
      obtain ⟨e3, c1⟩ := ba c1
      obtain ⟨e4, e5⟩ := ba c1
      have h0 := of_decide_eq_true e0
      have h1 := beq_iff_eq.mp e1
      have h2 := of_decide_eq_true e2
      subst h0 h1 h2
      obtain ⟨nm, bs, mro, ns, qn, hd, sn, sub, ab, col, del⟩ := cd
      dsimp only at hm e3 e4
      have h3 : del = false := by simpa using e3
      subst hm h3 e4
      have hsl : sl = #[k0, k1, k2, k3, some (.builtin "ValueError.__new__"), k5] := by
        obtain ⟨l⟩ := sl
        simp only at hs
        rw [hs]
      subst hsl
      exact ⟨nm, qn, ns, bs, bm, sn, sub, ab, col, dd, k0, k1, k2, k3, k5, ho, e5⟩
    · cases c1
  · cases c1
/-- the fields of such an error are read -/
def ckXf (x : Str) : Ck := fun K => eqO (PySem.W.findIn K (.ref (ga K x)) "__getattribute__") (some (some (.builtin "BaseException.__getattribute__"))) && (eqO (PySem.W.findIn K (.ref (ga K x)) "__getattr__") (some none) && (eqBo (PySem.W.subIn K (.ref (ga K x)) (.type "BaseException")) (some true) && PySem.W.hasDictIn K (ga K x)))
theorem xf_ok {K : PySem.W.Frag} {x : Str} (c : ckXf x K = true) : XfC K (ga K x) := by
  obtain ⟨c1, c⟩ := ba c
  obtain ⟨c2, c⟩ := ba c
  obtain ⟨c3, c4⟩ := ba c
  exact ⟨eqO_ok c1, eqO_ok c2, of_decide_eq_true c3, c4⟩
/-- C's own def m -/
def ckDef (x m : Str) : Ck := fun K => eqO (PySem.W.findIn K (.ref (ga K x)) m) (some (some (.ref (ma K (ga K x) m)))) && eqT (PySem.W.typeIn K (.ref (ma K (ga K x) m))) (some (.type "function"))
structure Df (K : PySem.W.Frag) (C : Addr) (m : Str) : Prop where
  at_ : PySem.W.findIn K (.ref C) m = some (some (.ref (ma K C m)))
  ty : PySem.W.typeIn K (.ref (ma K C m)) = some (.type "function")
theorem Df.fn {K : PySem.W.Frag} {C : Addr} {m : Str} (d : Df K C m) : PySem.W.isFn K (.ref (ma K C m)) = true := by
  unfold PySem.W.isFn
  rw [d.ty]
  rfl
theorem def_ok {K : PySem.W.Frag} {x m : Str} (c : ckDef x m K = true) : Df K (ga K x) m := by
  obtain ⟨c1, c2⟩ := ba c
  exact ⟨eqO_ok c1, of_decide_eq_true c2⟩
/-- an operator of C -/
def ckOwnB (x : Str) (op : Operator) (m : Str) : Ck := fun K => PySem.W.selfFirst K (ga K x) && (eqO (PySem.W.findIn K (.ref (ga K x)) (PySem.dunder op.info.2)) (some (some (.ref (ma K (ga K x) m)))) && (PySem.W.isFn K (.ref (ma K (ga K x) m)) &&
  (eqO (PySem.W.findIn K (.ref (ga K x)) (dunderR op.info.2)) (some none) && (eqBo (PySem.W.subIn K (.type "int") (.ref (ga K x))) (some false) && ((PySem.W.findIn K (.type "int") (PySem.dunder op.info.2)).isSome && (PySem.W.findIn K (.type "int") (dunderR op.info.2)).isSome)))))
theorem ownB_ok {K : PySem.W.Frag} {x m : Str} {op : Operator} (c : ckOwnB x op m K = true) : PR.OwnB K (ga K x) (ma K (ga K x) m) op := by
  obtain ⟨c1, c⟩ := ba c
  obtain ⟨c2, c⟩ := ba c
  obtain ⟨c3, c⟩ := ba c
  obtain ⟨c4, c⟩ := ba c
  obtain ⟨c5, c⟩ := ba c
  obtain ⟨c6, c7⟩ := ba c
  exact ⟨c1, eqO_ok c2, c3, eqO_ok c4, of_decide_eq_true c5, Option.isSome_iff_exists.mp c6, Option.isSome_iff_exists.mp c7⟩
/-- what isinstance asks of C's instances -/
structure Isi (K : PySem.W.Frag) (C : Addr) : Prop where
  ha : PySem.W.findIn K (.ref C) "__class__" = some (some (.builtin "object.__class__"))
  hn : PySem.W.specialIn K (.builtin "object.__class__") "__get__" = some (some (.builtin "getset_descriptor.__get__"))
  htk : PySem.W.takesIn K (.builtin "object.__class__") = some true
  hm : PySem.W.mroIn K C (.type "object") = some true
def ckIsi (x : Str) : Ck := fun K => eqO (PySem.W.findIn K (.ref (ga K x)) "__class__") (some (some (.builtin "object.__class__"))) && (eqO (PySem.W.specialIn K (.builtin "object.__class__") "__get__") (some (some (.builtin "getset_descriptor.__get__"))) &&
  (eqBo (PySem.W.takesIn K (.builtin "object.__class__")) (some true) && eqBo (PySem.W.mroIn K (ga K x) (.type "object")) (some true)))
theorem isi_ok {K : PySem.W.Frag} {x : Str} (c : ckIsi x K = true) : Isi K (ga K x) := by
  obtain ⟨c1, c⟩ := ba c
  obtain ⟨c2, c⟩ := ba c
  obtain ⟨c3, c4⟩ := ba c
  exact ⟨eqO_ok c1, eqO_ok c2, of_decide_eq_true c3, of_decide_eq_true c4⟩
theorem Isi.ty {K : PySem.W.Frag} {C : Addr} {H : Hp} {a dx : Addr} {fs : List (Str × V)} (i : Isi K C) (c : Cls K C) (e : H a = some (.ins C dx fs)) : TyX K H (.ref a) (.ref C) := .base (.ins e c i.ha i.hn i.htk i.hm)
/-- isinstance's answer: of an instance of the class x, of a built-in type, about the class y or a built-in one -/
def ckKitO (x y : Str) (b : Bool) : Ck := fun K => eqBo (PySem.W.kitOne K (.ref (ga K x)) (.ref (ga K y))) (some b)
theorem kitO_ok {K : PySem.W.Frag} {x y : Str} {b : Bool} (c : ckKitO x y b K = true) : PySem.W.kitOne K (.ref (ga K x)) (.ref (ga K y)) = some b := of_decide_eq_true c
def ckKitT (x : Str) (t : String) (b : Bool) : Ck := fun K => eqBo (PySem.W.kitOne K (.ref (ga K x)) (.type t)) (some b)
theorem kitT_ok {K : PySem.W.Frag} {x : Str} {t : String} {b : Bool} (c : ckKitT x t b K = true) : PySem.W.kitOne K (.ref (ga K x)) (.type t) = some b := of_decide_eq_true c
def ckKitB (t : String) (y : Str) (b : Bool) : Ck := fun K => eqBo (PySem.W.kitOne K (.type t) (.ref (ga K y))) (some b)
theorem kitB_ok {K : PySem.W.Frag} {y : Str} {t : String} {b : Bool} (c : ckKitB t y b K = true) : PySem.W.kitOne K (.type t) (.ref (ga K y)) = some b := of_decide_eq_true c
/-- beside C stands a t: C's own def goes first -/
def ckNf (x : Str) (t : String) : Ck := fun K => PySem.W.notFirst K (ga K x) (.type t)
theorem nf_ok {K : PySem.W.Frag} {x : Str} {t : String} (c : ckNf x t K = true) : PySem.W.notFirst K (ga K x) (.type t) = true := c
theorem nf_self (K : PySem.W.Frag) (C : Addr) : PySem.W.notFirst K C (.ref C) = true := by
  unfold PySem.W.notFirst
  simp
/-- != by the own __eq__ -/
def ckNe (x : Str) : Ck := fun K => eqO (PySem.W.findIn K (.ref (ga K x)) "__ne__") (some (some (.builtin "object.__ne__")))
theorem ne_ok {K : PySem.W.Frag} {x : Str} (c : ckNe x K = true) : PySem.W.findIn K (.ref (ga K x)) "__ne__" = some (some (.builtin "object.__ne__")) := eqO_ok c
/-- S.__init__ of a class over ValueError, S a class of the program -/
def ckSin (x : Str) : Ck := fun K => PySem.W.readsIn K (ga K x) (.type "type") && (eqO (PySem.W.specialIn K (.ref (ga K x)) "__getattribute__") (some (some (.builtin "type.__getattribute__"))) && (match PySem.W.findCls K (.ref (ga K x)) (.type "type") "__init__" with
  | some (.val (.builtin n)) => decide (n = "ValueError.__init__")
  | _ => false))
theorem sin_ok {K : PySem.W.Frag} {x : Str} (c : ckSin x K = true) : ClX.CRead K (ga K x) (.type "type") ∧ PySem.W.findCls K (.ref (ga K x)) (.type "type") "__init__" = some (.val (.builtin "ValueError.__init__")) := by
  obtain ⟨c1, c⟩ := ba c
  obtain ⟨c2, c3⟩ := ba c
  refine ⟨⟨c1, eqO_ok c2⟩, ?_⟩
  split at c3
  · rename_i n e
    rw [e, of_decide_eq_true c3]
  · cases c3
/-- a class whose attributes are read as type reads them; a classmethod of it -/
def ckCm (x m : Str) : Ck := fun K => PySem.W.readsIn K (ga K x) (.type "type") && (eqO (PySem.W.specialIn K (.ref (ga K x)) "__getattribute__") (some (some (.builtin "type.__getattribute__"))) && (He5.wrapB K (ga K x) "classmethod" "classmethod.__get__" m && PySem.W.fnIn K (He5.wf K (ga K x) "classmethod" m)))
theorem cm_ok {K : PySem.W.Frag} {x m : Str} (c : ckCm x m K = true) : ClX.CRead K (ga K x) (.type "type") ∧ ClX.CMet K (ga K x) (.type "type") m (ma K (ga K x) m) (He5.wf K (ga K x) "classmethod" m) := by
  obtain ⟨c1, c⟩ := ba c
  obtain ⟨c2, c⟩ := ba c
  obtain ⟨c3, c4⟩ := ba c
  exact ⟨⟨c1, eqO_ok c2⟩, He5.cmet_of c3 c4⟩
end PH
namespace PR
open PySem PySem.Spec PyProof.Rows L2
/-! ### targets and iterables, the best readings -/
section
variable {X : Cx} {e a b c : Expr} {es rest : List Expr} {σ : L2.St} {H : Hp} {Q : VK} {Qb : Bool → Hp → Prop} {Qa : List V → Hp → Prop} {D : Ends} {pos pos' p : Pos} {st : Stmt} {sts : List Stmt}
theorem s_asg {tg : Expr} {g : TG} (hg : PG X tg g) (h : We X e σ H fun x H1 => g x σ H1 D.nx) (hs : swapsWithSole [tg] e pos.line X.env = pure false := by rfl) (hw : swappedStores [tg] e X.env = pure none := by rfl) (h1 : (assignEach [tg] X.env).map (·.2) = [assign tg X.env] := by rfl) : Ws X (.Assign [tg] e pos) D σ H :=
  ws_of (ps_asg peW hg hs hw h1) h
theorem s_par (i j : Nat) {x y : Str} {px py pt : Pos} {kt k2 pt2} (hN : X.N.Nodup) (h : Wa X [a, b] σ H fun vs H1 => ∃ v w, vs = [v, w] ∧ D.nx ((σ.set i (some v)).set j (some w)) H1) (hc : X.calm = true := by rfl) (hi : X.N[i]? = some x := by rfl) (hj : X.N[j]? = some y := by rfl)
    (hij : i ≠ j := by decide) (hx : X.env.scope.names.lookup x = some .local := by rfl) (hy : X.env.scope.names.lookup y = some .local := by rfl)
    (hw : swappedStores [.Tuple [.Name x px, .Name y py] kt pt] (.Tuple [a, b] k2 pt2) X.env = pure (some [x, y]) := by rfl)
    (hs : swapsWithSole [.Tuple [.Name x px, .Name y py] kt pt] (.Tuple [a, b] k2 pt2) pos.line X.env = pure false := by rfl) :
    Ws X (.Assign [.Tuple [.Name x px, .Name y py] kt pt] (.Tuple [a, b] k2 pt2) pos) D σ H := ws_of (ps_par hc hN hi hj hij hx hy paW hw hs) h
/-- self.f = e -/
theorem s_fld {o value : Expr} {f : Str} (h : We X value σ H fun y H1 => We X o σ H1 fun x H2 => ∃ a C dx fs, x = .ref a ∧ H2 a = some (.ins C dx fs) ∧ Cls X.K C ∧ NoAttr X.K C f ∧ fs.length < 1000 ∧ D.nx σ (upd H2 a (.ins C dx (putF f y fs))))
    (hs : swapsWith value (some (.Attribute o f pos')) pos.line X.env = pure false := by rfl) : Ws X (.Assign [.Attribute o f pos'] value pos) D σ H := ws_of (ps_fld peW peW hs) h
theorem s_while {body : List Stmt} (hp : PassesOwn (model X.prog X.w) X.A X.env X.xe) (Pv : L2.St → Hp → Prop) (mu : L2.St → Hp → Nat) (h0 : Pv σ H)
    (hs : ∀ σ H, Pv σ H → Wt X c σ H fun k H1 => if k = true then Wb X body { D with nx := fun σ' H' => Pv σ' H' ∧ mu σ' H' < mu σ H, ct := fun σ' H' => Pv σ' H' ∧ mu σ' H' < mu σ H, bk := D.nx } σ H1 else D.nx σ H1) :
    Ws X (.While c body [] pos) D σ H := ws_of (ps_while hp ptW pbW) (while_by Pv mu h0 hs fun σ H Q Q' k h => Wt.mono h k)
theorem s_raise {W : WX} {t : L2.St → Hp → XK → Prop} (hc : X.calm = true) (tk : Takes X W) (he : PMk X e t) (h : t σ H fun cls d H' => W cls d σ H') : Ws X (.Raise (some e) none pos) D σ H := ws_of (ps_raise hc tk he) h
theorem s_for {tg iter : Expr} {body : List Stmt} {wi : TI} {g : TG} (hp : PassesOwn (model X.prog X.w) X.A X.env X.xe) (hi : PI X tg iter wi) (hg : PG X tg g) (h : tFor wi g (Wb X body) D σ H) (hc : X.calm = true := by rfl) (hs : ∀ x, foldedSetIterable iter X.env x = pure x := by intro _; rfl) :
    Ws X (.For tg iter body [] pos) D σ H := ws_of (ps_for hp hc hi hg pbW hs) h
end
end PR
namespace PR
open PySem PySem.Spec PyProof.Rows L2
section
variable {X : Cx} {e a b c : Expr} {es rest : List Expr} {σ : L2.St} {H : Hp} {Q : VK} {Qb : Bool → Hp → Prop} {Qa : List V → Hp → Prop} {D : Ends} {pos pos' p px : Pos} {st : Stmt} {sts body : List Stmt}
/-- for x in e, e a list that stands still -/
theorem s_forl (i : Nat) {x : Str} (hp : PassesOwn (model X.prog X.w) X.A X.env X.xe) (hN : X.N.Nodup)
    (h : We X e σ H fun v H1 => ∃ (l : Addr) (xs : List V) (Pv : Nat → L2.St → Hp → Prop), v = .ref l ∧ SqL X.K H1 l xs ∧ Pv 0 σ H1 ∧ (∀ j σ' H', j ≤ xs.length → Pv j σ' H' → SqL X.K H' l xs) ∧
      (∀ j y σ' H', xs[j]? = some y → Pv j σ' H' → Wb X body { D with nx := Pv (j + 1), ct := Pv (j + 1), bk := D.nx } (σ'.set i (some y)) H') ∧ ∀ σ' H', Pv xs.length σ' H' → D.nx σ' H')
    (hi : X.N[i]? = some x := by rfl) (hx : Loc X.env.scope x := by first | exact Or.inl rfl | exact Or.inr rfl) (hf : X.fn x = true ∨ X.env.scope.names.lookup x = some .local := by first | exact .inl rfl | exact .inr rfl) (hc : X.calm = true := by rfl)
    (hs : ∀ z, foldedSetIterable e X.env z = pure z := by intro _; rfl) : Ws X (.For (.Name x px) e body [] pos) D σ H := by
  refine s_for hp (pi_list peW) (pg_name (i := i) hN hi hx hf) ?_ hc hs
  refine We.mono h fun v H1 z => ?_
  obtain ⟨l, xs, Pv, rfl, hl, h0, hk, ht, hd⟩ := z
  exact ⟨l, rfl, ⟨xs, hl⟩, for_list (K := X.K) (a := l) (xs := xs) Pv h0 hk (fun j y σ' H' hj hP => ht j y σ' H' hj hP) hd⟩
/-- for x in range(e) -/
theorem s_forr (i : Nat) {x : Str} {pr pc : Pos} (hp : PassesOwn (model X.prog X.w) X.A X.env X.xe) (hN : X.N.Nodup) (hm : X.mg "range" = none)
    (h : We X e σ H fun v H1 => ∃ (n : Nat) (Pv : Nat → L2.St → Hp → Prop), v = .int n ∧ n < 1000000 ∧ Pv 0 σ H1 ∧
      (∀ j σ' H', j < n → Pv j σ' H' → Wb X body { D with nx := Pv (j + 1), ct := Pv (j + 1), bk := D.nx } (σ'.set i (some (.int (j : Int)))) H') ∧ ∀ σ' H', Pv n σ' H' → D.nx σ' H')
    (hg : Gl X "range" := by rfl) (he : starEach [e] X.env = (false, eval e X.env) :: starEach [] X.env := by rfl)
    (hi : X.N[i]? = some x := by rfl) (hx : Loc X.env.scope x := by first | exact Or.inl rfl | exact Or.inr rfl) (hf : X.fn x = true ∨ X.env.scope.names.lookup x = some .local := by first | exact .inl rfl | exact .inr rfl) (hc : X.calm = true := by rfl)
    (hs : ∀ z, foldedSetIterable (.Call (.Name "range" pr) [e] [] pc) X.env z = pure z := by intro _; rfl) : Ws X (.For (.Name x px) (.Call (.Name "range" pr) [e] [] pc) body [] pos) D σ H := by
  refine s_for hp (pi_range1 hg hm paW he) (pg_name (i := i) hN hi hx hf) ?_ hc hs
  refine a_cons (We.mono h fun v H1 z => ?_) he
  obtain ⟨n, Pv, rfl, hn, h0, ht, hd⟩ := z
  refine a_nil ⟨(n : Int), rfl, by omega, by omega, for_range (lo := 0) (n := n) Pv h0 (fun j σ' H' hj hP => ?_) hd⟩
  have z := ht j σ' H' hj hP
  have e0 : (0 : Int) + (j : Int) = (j : Int) := Int.zero_add _
  show Wb X body { D with nx := Pv (j + 1), ct := Pv (j + 1), bk := D.nx } (σ'.set i (some (.int ((0 : Int) + (j : Int))))) H'
  rw [e0]
  exact z
end
end PR
namespace PR
open PySem PySem.Spec PyProof.Rows L2
/-! ### defs that need to know that nothing is being shown -/
/-- as FnR, under no guard -/
def FnG (P : Program) (w : World) (K : PySem.W.Frag) (mg : Str → Option Value) (base : Heap) (CX : CXT) (k : Nat) (f : Addr) (sp : Sp) : Prop :=
  ∀ (A : Around) (outer : List Env) (s : Shared) (H : Hp) (us : List Value) (vs : List V) (Q : VK) (E : XK), A.guards = some [] → Room k A → Env0 P w K mg base A outer s H → Vals vs us → sp vs H Q E →
    codeAny (model P w) A (.call (.ref f) ⟨us, []⟩) (CR CX outer P w H s Q E) s
theorem FnG.of {P : Program} {w : World} {K : PySem.W.Frag} {mg : Str → Option Value} {base : Heap} {CX : CXT} {k : Nat} {f : Addr} {sp : Sp} (F : FnR P w K mg base CX k f sp) : FnG P w K mg base CX k f sp :=
  fun A outer s H us vs Q E _ hr e0 r hs => F A outer s H us vs Q E hr e0 r hs
section
variable {P : Program} {w : World} {K : PySem.W.Frag} {mg : Str → Option Value} {base : Heap}
theorem fng {x q : Str} {st : Stmt} {f : Addr} {N ps : List Str} {k : Nat} {sp : Sp} (D : ∃ fd, FunD K x q (defArgs st) (defBody st) (defScope st) [] [] f fd) (S : FnScope N ps (defScope st)) (len : ∀ vs H Q E, sp vs H Q E → vs.length = ps.length)
    (hb : ∀ (kV doc pm : Value) (an : Option Addr) (cdv ct : Value) (us : List Value), us.length = ps.length → bindArgs (PySem.W.fnOf x q (defArgs st) (defBody st) (defScope st) .none kV doc pm an cdv ct) ⟨us, []⟩ = pure (ps.zip us))
    (body : ∀ (cdv : Value) (A : Around) (outer : List Env) (s : Shared) (H : Hp) (vs : List V) (Q : VK) (E : XK), A.guards = some [] → Room k (A.deeper (envOfC q (defScope st) s.heap.objs.size f cdv)) → sp vs H Q E →
      Wb (cxOf (L2.CX P w) P w K mg base N q (defScope st) f cdv A outer s H E) (defBody st) { nx := fun _ H' => Q .non H', rt := Q } (start N vs) H) : FnG P w K mg base (L2.CX P w) (k + 1) f sp := by
  obtain ⟨fd, F⟩ := D
  intro A outer s H us vs Q E hgd hr e0 r hsp
  have hl : vs.length = ps.length := len _ _ _ _ hsp
  have KI : K.In s.heap := e0.mod.kin.keeps fun b o z => (e0.bs b o z).1
  have BT := F.bindsA hb s us (by rw [← r.length]; exact hl)
  obtain ⟨oc, od, dV, kV, doc, pm, an, cdv, ct, osl, rfl, lk, hcd, _, _⟩ := F.ex
  have noLim : s.heap.NoLimit := e0.mod.nolimit.keeps fun b o z => (e0.bs b o z).1
  have kinds : ∀ y ∈ ps.zip us, (defScope st).names.lookup y.1 = some .local ∨ ((defScope st).names.lookup y.1 = some .cell ∧ ((cellsFrom (s.heap.objs.size + 1) (defScope st).names []).lookup y.1).isSome = true) := by
    rintro ⟨n, v⟩ hy
    exact (S.par n (List.of_mem_zip hy).1).imp id fun c => ⟨c, PySem.W.cellsFrom_some _ _ _ (.inl c)⟩
  refine codeAny_call_function hr.depth (KI _ _ lk) rfl S.co S.gen rfl (PySem.W.codeRec_of KI hcd) (BT _ _ _ _ ?_)
  refine wpAny_newFunctionEnv_cells S.kind kinds fun env ee s1 ic => ?_
  subst ee
  refine ⟨noLim.keeps ic.toInCall.keep, codeAny_func ?_⟩
  have J : Inv (cxOf (L2.CX P w) P w K mg base N q (defScope st) f cdv A outer s H E) [] (start N vs) H s1 := inv_start S hr.hd e0 hl r ic
  refine wpAny_mono ((body cdv A outer s H vs Q E hgd (hr.deeper _) hsp).run [] s1 J) (fun fl s2 z => ?_) fun _ _ z => z
  match fl, z with
  | .ret u, ⟨v, σ', H', J', rv, qv⟩ => exact ⟨v, H', J'.os, J'.bare, J'.base, J'.hok, rv, qv⟩
  | .next, ⟨σ', H', J', qv⟩ => exact ⟨V.non, H', J'.os, J'.bare, J'.base, J'.hok, rfl, qv⟩
  | .brk, ⟨_, _, _, z⟩ => exact False.elim z
  | .cont, ⟨_, _, _, z⟩ => exact False.elim z
end
section
variable {X : Cx} {pins : List (Addr × Obj)} {σ : L2.St} {H : Hp} {s : Shared}
theorem run_fnG {CX : CXT} {k : Nat} {f : Addr} {sp : Sp} {E : XK} {Q : VK} {us : List Value} {vs : List V} (F : FnG X.prog X.w X.K X.mg X.base CX k f sp) (hgd : X.A.guards = some []) (hr : Room k X.A) (hx : Passes CX X E) (I : Inv X pins σ H s) (r : Vals vs us) (h : sp vs H Q E) :
    codeAny (model X.prog X.w) X.A (.call (.ref f) ⟨us, []⟩) (fun r s' => match r with | .ok (.ret v) => EP X pins σ Q v s' | .ok _ => False | .error e => X.xe e s') s := by
  refine codeAny_mono (F X.A X.stack s H us vs Q E hgd hr I.env0 r h) fun r s' z => ?_
  match r, z with
  | .error e, z => exact hx pins σ H s e s' I z
  | .ok (.ret u), z => exact I.after z
  | .ok .next, z => exact z
  | .ok .brk, z => exact z
  | .ok .cont, z => exact z
end
section
variable {X : Cx} {e o a b : Expr} {es : List Expr} {σ : L2.St} {H : Hp} {Q : VK} {p pos apos : Pos} {CX : CXT} {k : Nat} {f C g : Addr} {sp : Sp} {E : XK} {x m : Str}
theorem w_callG (F : FnG X.prog X.w X.K X.mg X.base CX k f sp) (hgd : X.A.guards = some []) (hr : Room k X.A) (hm : X.mg x = some (.ref f)) (hk : PySem.W.keepIn X.K (.ref f) = true) (hx : Passes CX X E)
    (h : Wa X (e :: es) σ H fun vs H1 => sp vs H1 Q E) (hg : Gl X x := by rfl) (hdb : (x == ("__debug__" : Str)) = false := by decide) (he : starEach (e :: es) X.env = (false, eval e X.env) :: starEach es X.env := by rfl) (hpl : (backTo pos (starEach es X.env)).any (·.1) = false := by rfl) :
    We X (.Call (.Name x p) (e :: es) [] pos) σ H Q := by
  refine ⟨fun pins s I => ?_⟩
  refine wpAny_Call_Name_kw (ld_glob I hg hm ?_ hdb)
  refine PySem.W.callWith_K (h₀ := X.base) I.ok.mod.kin hk (thn (h.run pos pins s I) fun us s1 ⟨vs, H1, I1, r, q⟩ => ⟨I1.kIn, ?_⟩) he hpl
  exact wpAny_call (run_fnG F hgd hr hx I1 r q)
theorem w_callG0 (F : FnG X.prog X.w X.K X.mg X.base CX k f sp) (hgd : X.A.guards = some []) (hr : Room k X.A) (hm : X.mg x = some (.ref f)) (hk : PySem.W.keepIn X.K (.ref f) = true) (hx : Passes CX X E)
    (h : sp [] H Q E) (hg : Gl X x := by rfl) (hdb : (x == ("__debug__" : Str)) = false := by decide) : We X (.Call (.Name x p) [] [] pos) σ H Q := by
  refine ⟨fun pins s I => ?_⟩
  refine wpAny_Call_Name_kw (ld_glob I hg hm ?_ hdb)
  exact PySem.W.callWith_K0 I.kIn hk (wpAny_call (run_fnG (us := []) F hgd hr hx I .nil h))
end
/-! ### repr -/
/-- what repr shows -/
inductive Sw (K : PySem.W.Frag) (H : Hp) : V → PyData → Prop
  | dp {v : V} {d : PyData} : Dp K H v d → d.hasDict = false → Sw K H v d
  | dE {a : Addr} : H a = some (.dK []) → Sw K H (.ref a) (.dict [])
  | d1 {a : Addr} {x : Str} {i : Int} : H a = some (.dK [(.inr x, .int i)]) → Sw K H (.ref a) (.dict [(.str x, .int i)])
theorem Sw.reads {X : Cx} {pins : List (Addr × Obj)} {σ : L2.St} {H : Hp} {s : Shared} {v : V} {d : PyData} {u : Value} (I : Inv X pins σ H s) (h : Sw X.K H v d) (r : RelV v u) : ∃ as, Reads s.heap u d as ∧ (d.hasDict = true → sysModules ∉ as) := by
  cases h with
  | dp hd hn =>
    obtain ⟨as, z⟩ := Dp.reads I d v u hd r
    exact ⟨as, z, PyData.noDict_hsm hn⟩
  | @dE a ha =>
    cases (show u = Value.ref a from r)
    obtain ⟨_, hsy, vs, kv, o, es, ep, h1, h2, h3, _, h4, _⟩ := (show ObjOk X.prog X.w H s.heap a (.dK []) from I.hok a _ ha)
    cases kv
    have he : es.toList = [] := by
      generalize es.toList = l at h4
      cases h4
      rfl
    refine ⟨a :: [] ++ [], Reads.dict (kvs := []) h1 h2.1 h3 (by rw [he]; exact .nil) (by rw [he]; exact .nil), fun _ hm => ?_⟩
    have hm' : sysModules = a := by simpa using hm
    rw [← hm'] at hsy
    simp at hsy
  | @d1 a x i ha =>
    cases (show u = Value.ref a from r)
    obtain ⟨_, hsy, vs, kv, o, es, ep, h1, h2, h3, _, h4, _⟩ := (show ObjOk X.prog X.w H s.heap a (.dK [(.inr x, .int i)]) from I.hok a _ ha)
    cases kv with
    | @cons _ q _ qs e1 e2 =>
      cases e2
      obtain ⟨k, y⟩ := q
      obtain ⟨e3, t, e4⟩ := e1
      have e3' : (Sum.inr x : Key) = k := e3
      subst e3'
      have e4' : y = Value.int i t := e4
      subst e4'
      have he : ∃ en : DictEntry, es.toList = [en] ∧ (∃ t', en.key = Value.str x t') ∧ en.val = Value.int i t := by
        generalize es.toList = l at h4
        cases h4 with
        | @cons en _ _ _ g1 g2 g3 =>
          cases g3
          refine ⟨en, rfl, ?_, g2⟩
          rcases keyIs_shape (show keyIs (.inr x) en.key = true from g1) with ⟨_, _, z, _⟩ | ⟨x', t', z, z2⟩
          · cases z
          · cases z
            exact ⟨t', z2⟩
      obtain ⟨en, he, ⟨t', hk⟩, hv⟩ := he
      refine ⟨a :: ([] ++ []) ++ ([] ++ []), Reads.dict (kvs := [(.str x, .int i)]) h1 h2.1 h3 ?_ ?_, fun _ hm => ?_⟩
      · rw [he]
        exact .cons (by show Reads _ en.key _ _; rw [hk]; exact .str x t') .nil
      · rw [he]
        exact .cons (by show Reads _ en.val _ _; rw [hv]; exact .int i t) .nil
      · have hm' : sysModules = a := by simpa using hm
        rw [← hm'] at hsy
        simp at hsy
/-- repr(v) -/
theorem call_repr {X : Cx} (hgd : X.A.guards = some []) (hu : X.A.units + 80 < cLine) : CallR X (.builtin "repr") (fun xs H Q => ∃ v d, xs = [v] ∧ Sw X.K H v d ∧ d.showable = true ∧ d.shown.length ≤ sizeLine ∧ d.depth ≤ 64 ∧ Q (.str d.shown) H) := by
  intro pins s σ H xs us Q I r h
  obtain ⟨v, d, rfl, hd, hs, hz, hdp, q⟩ := h
  obtain ⟨u, rfl, ru⟩ := vals1 r
  obtain ⟨as, rd, hsm⟩ := hd.reads I ru
  have fin : ∀ h' t tk, (∀ b o, s.heap.get? b = some o → h'.get? b = some o) → EP X pins σ Q (.str d.shown t) { s with heap := h', toks := tk } := fun h' t tk k => ⟨.str d.shown, H, I.kept k, ⟨t, rfl⟩, q⟩
  cases rd with
  | none => exact PySem.P.repr_of_none (fin s.heap _ _ fun _ _ e => e)
  | bool b => exact PySem.P.repr_of_bool (fin s.heap _ _ fun _ _ e => e)
  | int i t => exact PySem.P.repr_of_int (of_decide_eq_true hs) (fin s.heap _ _ fun _ _ e => e)
  | str x t => exact PySem.P.repr_of_str (fin s.heap _ _ fun _ _ e => e) hz
  | list h1 h2 h3 h4 => exact repr_of_reads' (.list h1 h2 h3 h4) hs hsm hgd (by omega) (fun _ _ e => e) fin hz
  | tuple h1 h2 h3 h4 => exact repr_of_reads' (.tuple h1 h2 h3 h4) hs hsm hgd (by omega) (fun _ _ e => e) fin hz
  | dict h1 h2 h3 h4 h5 => exact repr_of_reads' (.dict h1 h2 h3 h4 h5) hs hsm hgd (by omega) (fun _ _ e => e) fin hz
end PR
namespace PR
open PySem PySem.Spec PyProof.Rows L2
/-! ### try -/
/-- what a suite must do, whatever exception object it holds -/
def Su (X : Cx) (suite : List Stmt) (a : Addr) (cls : Value) (d : Option Addr) : TS := fun D σ H => ∀ (oe : Obj) (pn : List (Addr × Obj)), Zc cls d oe → (∃ vs, oe.data = .fields vs) → Wb (X.suite a ((a, oe) :: pn)) suite D σ H
theorem su_ok {X : Cx} {suite : List Stmt} (a : Addr) (oe : Obj) (cls : Value) (d : Option Addr) (pn : List (Addr × Obj)) (hz : Zc cls d oe) (hf : ∃ vs, oe.data = .fields vs) : PSs (X.suite a ((a, oe) :: pn)) suite (Su X suite a cls d) :=
  ⟨fun pins s σ H D I h => (h oe pn hz hf).run pins s I⟩
/-- what a try's body must do -/
def Tb (X : Cx) (body : List Stmt) (W : WX) : TS := fun D σ H => ∀ (pn : List (Addr × Obj)) (xe : Value → Shared → Prop), Takes (X.tr pn xe) W → PassesOwn (model X.prog X.w) X.A X.env xe → Wb (X.tr pn xe) body D σ H
theorem tb_ok {X : Cx} {body : List Stmt} (W : WX) (pn : List (Addr × Obj)) (xe : Value → Shared → Prop) (tk : Takes (X.tr pn xe) W) (ps : PassesOwn (model X.prog X.w) X.A X.env xe) : PSs (X.tr pn xe) body (Tb X body W) :=
  ⟨fun pins s σ H D I h => (h pn xe tk ps).run pins s I⟩
section
variable {X : Cx} {x n : Str} {c : Value} {i : Nat} {body suite orelse : List Stmt} {b₀ : Stmt} {np pos pos' : Pos} {Wout : WX} {σ : L2.St} {H : Hp} {D : Ends}
theorem s_try1 (hc : Names X x c) (tk : Takes X Wout) (h : Tb X body (wOnly X.K c (Su X (b₀ :: suite)) Wout D) D σ H) (hs : X.stack = X.env :: X.outer := by rfl) (hf : X.env.frame = some X.env.locals := by rfl) :
    Ws X (.Try body [.ExceptHandler (some (.Name x np)) none (b₀ :: suite) pos'] [] [] pos) D σ H :=
  ws_of (ps_try_only (tb := Tb X body) hs hf hc tk (fun W pn xe t p => tb_ok W pn xe t p) su_ok) h
theorem s_tryAs (i : Nat) (hN : X.N.Nodup) (hc : Names X x c) (tk : Takes X Wout) (h : Tb X body (wAs X.K c i (Su X (b₀ :: suite)) Wout D) D σ H) (hi : X.N[i]? = some n := by rfl) (hln : X.env.kindOf n = some .local := by rfl)
    (hs : X.stack = X.env :: X.outer := by rfl) (hf : X.env.frame = some X.env.locals := by rfl) :
    Ws X (.Try body [.ExceptHandler (some (.Name x np)) (some n) (b₀ :: suite) pos'] [] [] pos) D σ H :=
  ws_of (L2.ps_try_as (tb := Tb X body) hs hf hN hi hln hc tk (fun W pn xe t p => tb_ok W pn xe t p) su_ok) h
/-- the body lets nothing out -/
theorem s_try1E (hc : Names X x c) (tk : Takes X Wout) (h : Tb X body (wOnly X.K c (Su X (b₀ :: suite)) Wout D) { D with nx := fun σ' H' => Wb X orelse D σ' H' } σ H) (hs : X.stack = X.env :: X.outer := by rfl) (hf : X.env.frame = some X.env.locals := by rfl) :
    Ws X (.Try body [.ExceptHandler (some (.Name x np)) none (b₀ :: suite) pos'] orelse [] pos) D σ H :=
  ws_of (ps_try_onlyE (tb := Tb X body) pbW hs hf hc tk (fun W pn xe t p => tb_ok W pn xe t p) su_ok) h
end
section
variable {X : Cx} {body : List Stmt} {h₀ : ExceptHandler} {hds : List ExceptHandler} {l : List (Value × (Addr → Value → Option Addr → TS))} {pos : Pos} {Wout : WX} {σ : L2.St} {H : Hp} {D : Ends}
theorem s_tryN (tk : Takes X Wout) (hh : HdsOk X (h₀ :: hds) l) (h : Tb X body (wMany X.K Wout D l) D σ H) (hs : X.stack = X.env :: X.outer := by rfl) (hf : X.env.frame = some X.env.locals := by rfl) : Ws X (.Try body (h₀ :: hds) [] [] pos) D σ H :=
  ws_of (L2.ps_try_many (tb := Tb X body) hs hf tk (fun W pn xe t p => tb_ok W pn xe t p) hh) h
theorem hds_cons {x : Str} {c : Value} {b₀ : Stmt} {suite : List Stmt} {np pos' : Pos} {hds : List ExceptHandler} {l : List (Value × (Addr → Value → Option Addr → TS))} (hc : Names X x c) (r : HdsOk X hds l) :
    HdsOk X (.ExceptHandler (some (.Name x np)) none (b₀ :: suite) pos' :: hds) ((c, Su X (b₀ :: suite)) :: l) := .cons hc su_ok r
end
/-- what a def lets out, its own E -/
theorem takesX {P : Program} {w : World} {K : PySem.W.Frag} {mg : Str → Option Value} {base : Heap} {N : List Str} {qual : Str} {sc : Scope} {f : Addr} {cdv : Value} {A : Around} {outer : List Env} {s : Shared} {H : Hp} {E : XK} :
    Takes (cxOf (L2.CX P w) P w K mg base N qual sc f cdv A outer s H E) (fun cls d _ H => E cls d H) := takes_of (E := E) rfl rfl rfl rfl
/-- a call within a try's body -/
theorem passT {X : Cx} {W : WX} {E : XK} (tk : Takes X W) (h : ∀ cls d σ H, E cls d H → W cls d σ H) : Passes (L2.CX X.prog X.w) X E := passes_call tk h
/-- what a callee lets out is taken, at these locals -/
def PassAt (CX : CXT) (X : Cx) (σ : L2.St) (E : XK) : Prop := ∀ (pins : List (Addr × Obj)) (H : Hp) (s : Shared) (e : Value) (s' : Shared), Inv X pins σ H s → CX X.stack H s E e s' → X.xe e s'
theorem passAt {X : Cx} {W : WX} {E : XK} {σ : L2.St} (tk : Takes X W) (h : ∀ cls d H, E cls d H → W cls d σ H) : PassAt (L2.CX X.prog X.w) X σ E := fun pins H s e s' I c => tk e s' (XE.of_call I (fun cls d H' q => h cls d H' q) c)
section
variable {X : Cx} {e o a b : Expr} {es : List Expr} {σ : L2.St} {H : Hp} {Q : VK} {p pos apos : Pos} {CX : CXT} {k : Nat} {f C g : Addr} {sp : Sp} {E : XK} {x m : Str}
theorem run_fnA {pins : List (Addr × Obj)} {s : Shared} {us : List Value} {vs : List V} (F : FnR X.prog X.w X.K X.mg X.base CX k f sp) (hr : Room k X.A) (hx : PassAt CX X σ E) (I : Inv X pins σ H s) (r : Vals vs us) (h : sp vs H Q E) :
    codeAny (model X.prog X.w) X.A (.call (.ref f) ⟨us, []⟩) (fun r s' => match r with | .ok (.ret v) => EP X pins σ Q v s' | .ok _ => False | .error e => X.xe e s') s := by
  refine codeAny_mono (F X.A X.stack s H us vs Q E hr I.env0 r h) fun r s' z => ?_
  match r, z with
  | .error e, z => exact hx pins H s e s' I z
  | .ok (.ret u), z => exact I.after z
  | .ok .next, z => exact z
  | .ok .brk, z => exact z
  | .ok .cont, z => exact z
theorem w_callA (F : FnR X.prog X.w X.K X.mg X.base CX k f sp) (hr : Room k X.A) (hm : X.mg x = some (.ref f)) (hk : PySem.W.keepIn X.K (.ref f) = true) (hx : PassAt CX X σ E)
    (h : Wa X (e :: es) σ H fun vs H1 => sp vs H1 Q E) (hg : Gl X x := by rfl) (hdb : (x == ("__debug__" : Str)) = false := by decide) (he : starEach (e :: es) X.env = (false, eval e X.env) :: starEach es X.env := by rfl) (hpl : (backTo pos (starEach es X.env)).any (·.1) = false := by rfl) :
    We X (.Call (.Name x p) (e :: es) [] pos) σ H Q := by
  refine ⟨fun pins s I => ?_⟩
  refine wpAny_Call_Name_kw (ld_glob I hg hm ?_ hdb)
  refine PySem.W.callWith_K (h₀ := X.base) I.ok.mod.kin hk (thn (h.run pos pins s I) fun us s1 ⟨vs, H1, I1, r, q⟩ => ⟨I1.kIn, ?_⟩) he hpl
  exact wpAny_call (run_fnA F hr hx I1 r q)
theorem w_callA0 (F : FnR X.prog X.w X.K X.mg X.base CX k f sp) (hr : Room k X.A) (hm : X.mg x = some (.ref f)) (hk : PySem.W.keepIn X.K (.ref f) = true) (hx : PassAt CX X σ E)
    (h : sp [] H Q E) (hg : Gl X x := by rfl) (hdb : (x == ("__debug__" : Str)) = false := by decide) : We X (.Call (.Name x p) [] [] pos) σ H Q := by
  refine ⟨fun pins s I => ?_⟩
  refine wpAny_Call_Name_kw (ld_glob I hg hm ?_ hdb)
  exact PySem.W.callWith_K0 I.kIn hk (wpAny_call (run_fnA (us := []) F hr hx I .nil h))
theorem w_methA {pl : Sem Bool} (c : Cls X.K C) (hm : Meth X.K C m f) (F : FnR X.prog X.w X.K X.mg X.base CX k f sp) (hr : Room k X.A) (hx : PassAt CX X σ E)
    (h : We X o σ H fun x H1 => ∃ a dx fs, x = .ref a ∧ H1 a = some (.ins C dx fs) ∧ fs.lookup m = none ∧ Wa X (e :: es) σ H1 fun vs H2 => sp (x :: vs) H2 Q E)
    (hst : starEach (e :: es) X.env = (false, eval e X.env) :: starEach es X.env := by rfl) (hpl : (backTo pos (starEach es X.env)).any (·.1) = false := by rfl)
    (ht : eval (.Call (.Attribute o m apos) (e :: es) [] pos) X.env = (do
      let ov ← eval o X.env
      standAt apos.atName
      let (f, first) ← holding [ov] (getMethod ov m pl)
      callWith pos f first (backTo pos (starEach (e :: es) X.env)) (backToKw pos (keywordEach [] X.env))) := by rfl) :
    We X (.Call (.Attribute o m apos) (e :: es) [] pos) σ H Q := by
  refine ⟨fun pins s I => ?_⟩
  refine PySem.W.methodCall_KW (pl := pl) (thn (h.run pins s I) fun u s1 ⟨x, H1, I1, rx, a, dx, fs, ex, ea, l, q⟩ => ?_) ht
  subst ex
  obtain rfl : u = Value.ref a := rx
  refine getmeth_ok I1 ea c hm l ?_
  refine PySem.W.callWith_K (first := [.ref a]) (h₀ := X.base) I1.ok.mod.kin hm.kp (thn (q.run pos pins s1 I1) fun us s2 ⟨vs, H2, I2, r2, q2⟩ => ⟨I2.kIn, ?_⟩) hst hpl
  exact wpAny_call (run_fnA (us := .ref a :: us) (vs := .ref a :: vs) F hr hx I2 (.cons rfl r2) q2)
theorem w_methA0 {pl : Sem Bool} (c : Cls X.K C) (hm : Meth X.K C m f) (F : FnR X.prog X.w X.K X.mg X.base CX k f sp) (hr : Room k X.A) (hx : PassAt CX X σ E)
    (h : We X o σ H fun x H1 => ∃ a dx fs, x = .ref a ∧ H1 a = some (.ins C dx fs) ∧ fs.lookup m = none ∧ sp [x] H1 Q E)
    (ht : eval (.Call (.Attribute o m apos) [] [] pos) X.env = (do
      let ov ← eval o X.env
      standAt apos.atName
      let (f, first) ← holding [ov] (getMethod ov m pl)
      callWith pos f first (backTo pos (starEach [] X.env)) (backToKw pos (keywordEach [] X.env))) := by rfl) :
    We X (.Call (.Attribute o m apos) [] [] pos) σ H Q := by
  refine ⟨fun pins s I => ?_⟩
  refine PySem.W.methodCall_KW (pl := pl) (thn (h.run pins s I) fun u s1 ⟨x, H1, I1, rx, a, dx, fs, ex, ea, l, q⟩ => ?_) ht
  subst ex
  obtain rfl : u = Value.ref a := rx
  refine getmeth_ok I1 ea c hm l ?_
  exact PySem.W.callWith_K0 (first := [.ref a]) I1.kIn hm.kp (wpAny_call (run_fnA (us := [.ref a]) (vs := [.ref a]) F hr hx I1 (.cons rfl .nil) q))
theorem w_makeA (M : Mk X.K C f) (F : FnR X.prog X.w X.K X.mg X.base CX k f sp) (hr : Room (k + 1) X.A) (hm : X.mg x = some (.ref C)) (hx : PassAt CX X σ E)
    (h : Wa X (e :: es) σ H fun vs H1 => ∀ x dx, H1 x = Option.none → H1 dx = Option.none → dx ≠ x → sp (V.ref x :: vs) (upd (upd H1 dx (.own x)) x (.ins C dx [])) (fun v H2 => v = .non ∧ Q (.ref x) H2) E)
    (hg : Gl X x := by rfl) (hdb : (x == ("__debug__" : Str)) = false := by decide) (he : starEach (e :: es) X.env = (false, eval e X.env) :: starEach es X.env := by rfl) (hpl : (backTo pos (starEach es X.env)).any (·.1) = false := by rfl) :
    We X (.Call (.Name x p) (e :: es) [] pos) σ H Q := by
  refine ⟨fun pins s I => ?_⟩
  refine wpAny_Call_Name_kw (ld_glob I hg hm ?_ hdb)
  refine PySem.W.callWith_K (h₀ := X.base) I.ok.mod.kin M.kp (thn (h.run pos pins s I) fun us s1 ⟨vs, H1, I1, r, q⟩ => ⟨I1.kIn, ?_⟩) he hpl
  have J := Inv.made (C := C) I1
  have z := q (s1.heap.objs.size + 1) s1.heap.objs.size (I1.hok.fresh (Nat.le_succ _)) (I1.hok.fresh (Nat.le_refl _)) (Nat.ne_of_lt (Nat.lt_succ_self _))
  have r2 : Vals (V.ref (s1.heap.objs.size + 1) :: vs) (Value.ref (s1.heap.objs.size + 1) :: us) := .cons rfl r
  refine wpAny_call (make_map (f := f) I1.kIn M.makes M.init (beq_iff_eq.mp M.fn) (codeAny_mono (F _ X.stack _ _ _ _ _ E (hr.make C us []) (J.env0.make C us []) r2 z) fun rr s' zz => ?_))
  match rr, zz with
  | .error e, zz => exact hx pins _ _ e s' J zz
  | .ok (.ret u), zz =>
    obtain ⟨v, H', I3, rv, ev, q3⟩ := J.after zz
    subst ev
    exact ⟨rv, ⟨V.ref (s1.heap.objs.size + 1), H', I3, rfl, q3⟩⟩
  | .ok .next, zz => exact zz
  | .ok .brk, zz => exact zz
  | .ok .cont, zz => exact zz
end
/-- e.f of the caught exception -/
theorem w_xf {X : Cx} {a C : Addr} {oe : Obj} {cls : Value} {d : Option Addr} {pn : List (Addr × Obj)} {e : Expr} {pos : Pos} {n : Str} {σ : L2.St} {H : Hp} {Q : VK} (T : XfC X.K C) (hno : PySem.W.findIn X.K (.ref C) n = some none)
    (hz : Zc cls d oe) (hf : ∃ vs, oe.data = .fields vs)
    (h : We (X.suite a ((a, oe) :: pn)) e σ H fun x H1 => x = .ref a ∧ cls = .ref C ∧ ∃ (dd : Addr) (fs : List (Str × V)) (v : V), d = some dd ∧ H1 dd = some (.xd fs) ∧ fs.lookup n = some v ∧ Q v H1)
    (hb : attributeBase e n X.env (eval e X.env) = eval e X.env := by rfl) : We (X.suite a ((a, oe) :: pn)) (.Attribute e n pos) σ H Q := we_of (pe_xf T hno hz hf peW hb) h
/-! ### keywords -/
/-- a promise by n positional values and by keywords named ks -/
def FnQ (P : Program) (w : World) (K : PySem.W.Frag) (mg : Str → Option Value) (base : Heap) (CX : CXT) (k : Nat) (f : Addr) (n : Nat) (ks : List Str) (sp : List V → List V → Hp → VK → XK → Prop) : Prop :=
  ∀ (A : Around) (outer : List Env) (s : Shared) (H : Hp) (us ws : List Value) (vs zs : List V) (Q : VK) (E : XK), Room k A → Env0 P w K mg base A outer s H → Vals vs us → Vals zs ws → vs.length = n → zs.length = ks.length → sp vs zs H Q E →
    codeAny (model P w) A (.call (.ref f) ⟨us, ks.zip ws⟩) (CR CX outer P w H s Q E) s
section
variable {P : Program} {w : World} {K : PySem.W.Frag} {mg : Str → Option Value} {base : Heap} {CX : CXT}
theorem fnq_of {k n : Nat} {f : Addr} {fd : FuncData} {ps ks : List Str} {sp : Sp} {g : List Value → List Value → List Value} {gV : List V → List V → List V} (F : FnOk P w K mg base CX k f fd ps sp) (hb : KBn K fd ps n ks g gV) :
    FnQ P w K mg base CX k f n ks (fun vs zs H Q E => sp (gV vs zs) H Q E) := by
  intro A outer s H us ws vs zs Q E hr e0 rv rz l1 l2 h
  exact F.run A outer s H ⟨us, ks.zip ws⟩ (g us ws) (gV vs zs) Q E hr e0 (hb.to s us ws (e0.mod.kin.keeps fun b o z => (e0.bs b o z).1) (rv.length.symm.trans l1) (rz.length.symm.trans l2)) (hb.rel rv rz) h
/-- every parameter is given, no defaults -/
theorem kbn0 {x q : Str} {params : Arguments} {body : List Stmt} {scope : Scope} {kws : List (Str × V)} {f : Addr} {fd : FuncData} {ps : List Str} (F : FunD K x q params body scope [] kws f fd) (n : Nat) (ks : List Str) (g : {α : Type} → List α → List α → List α)
    (hrel : ∀ {vs zs : List V} {us ws : List Value}, Vals vs us → Vals zs ws → Vals (g vs zs) (g us ws))
    (h : ∀ (kV doc pm : Value) (an : Option Addr) (cdv ct : Value) (us ws : List Value), us.length = n → ws.length = ks.length → bindArgs (PySem.W.fnOf x q params body scope .none kV doc pm an cdv ct) ⟨us, ks.zip ws⟩ = pure (ps.zip (g us ws))) :
    KBn K fd ps n ks (fun us ws => g us ws) (fun vs zs => g vs zs) := by
  obtain ⟨oc, od, dV, kV, doc, pm, an, cdv, ct, osl, rfl, lk, hcd, hD, hK⟩ := F.ex
  rcases hD with ⟨_, rfl⟩ | ⟨e, _⟩
  · exact ⟨fun s us ws _ l1 l2 => .of_eq (h kV doc pm an cdv ct us ws l1 l2), fun r1 r2 => hrel r1 r2⟩
  · exact absurd rfl e
/-- with defaults dvs -/
theorem kbn1 {x q : Str} {params : Arguments} {body : List Stmt} {scope : Scope} {dvs : List V} {kws : List (Str × V)} {f : Addr} {fd : FuncData} {ps : List Str} (F : FunD K x q params body scope dvs kws f fd) (n : Nat) (ks : List Str) (g : {α : Type} → List α → List α → List α → List α) (hd : dvs ≠ [])
    (hrel : ∀ {vs ds zs : List V} {us its ws : List Value}, Vals vs us → Vals ds its → Vals zs ws → Vals (g vs ds zs) (g us its ws))
    (h : ∀ (T : Addr) (kV doc pm : Value) (an : Option Addr) (cdv ct : Value) (us its ws : List Value), us.length = n → its.length = dvs.length → ws.length = ks.length →
      ∃ k, bindArgs (PySem.W.fnOf x q params body scope (.ref T) kV doc pm an cdv ct) ⟨us, ks.zip ws⟩ = seqItems? (.ref T) >>= k ∧ k (some its.toArray) = pure (ps.zip (g us its ws))) :
    ∃ its : List Value, KBn K fd ps n ks (fun us ws => g us its ws) (fun vs zs => g vs dvs zs) := by
  obtain ⟨oc, od, dV, kV, doc, pm, an, cdv, ct, osl, rfl, lk, hcd, hD, hK⟩ := F.ex
  rcases hD with ⟨e, _⟩ | ⟨_, T, o, its, m, rfl, lT, oT, rT⟩
  · exact absurd e hd
  · refine ⟨its, ⟨fun s us ws KI l1 l2 => ?_, fun r1 r2 => hrel r1 rT r2⟩⟩
    obtain ⟨k, e1, e2⟩ := h T kV doc pm an cdv ct us its ws l1 rT.length.symm l2
    refine BindsTo.of_looks fun M => ?_
    rw [e1]
    exact looks_items KI lT oT (.of_pure e2)
end
section
variable {X : Cx} {e o : Expr} {es : List Expr} {σ : L2.St} {H : Hp} {Q : VK} {p pos apos : Pos} {CX : CXT} {k n : Nat} {f C g : Addr} {sp : List V → List V → Hp → VK → XK → Prop} {E : XK} {x m : Str} {ks : List Str} {kws : List Keyword}
theorem run_fnQ {pins : List (Addr × Obj)} {s : Shared} {us ws : List Value} {vs zs : List V} (F : FnQ X.prog X.w X.K X.mg X.base CX k f n ks sp) (hr : Room k X.A) (hx : Passes CX X E) (I : Inv X pins σ H s) (r : Vals vs us) (rz : Vals zs ws) (l1 : vs.length = n) (l2 : zs.length = ks.length) (h : sp vs zs H Q E) :
    wpAny (model X.prog X.w) X.A (call (.ref f) us (ks.zip ws)) (EP X pins σ Q) X.xe s := by
  refine wpAny_call (codeAny_mono (F X.A X.stack s H us ws vs zs Q E hr I.env0 r rz l1 l2 h) fun r s' z => ?_)
  match r, z with
  | .error e, z => exact hx pins σ H s e s' I z
  | .ok (.ret u), z => exact I.after z
  | .ok .next, z => exact z
  | .ok .brk, z => exact z
  | .ok .cont, z => exact z
/-- f(k = v, ..) -/
theorem w_callQ (F : FnQ X.prog X.w X.K X.mg X.base CX k f 0 ks sp) (hr : Room k X.A) (hm : X.mg x = some (.ref f)) (hk : PySem.W.keepIn X.K (.ref f) = true) (hx : Passes CX X E)
    (h : Wk X kws σ H fun zs H1 => zs.length = ks.length ∧ sp [] zs H1 Q E) (hg : Gl X x := by rfl) (hdb : (x == ("__debug__" : Str)) = false := by decide)
    (hall : (backToKw pos (keywordEach kws X.env)).all (·.1.isSome) = true := by rfl) (hks : (backToKw pos (keywordEach kws X.env)).filterMap (·.1) = ks := by rfl)
    (hpl : ((backTo pos (starEach [] X.env)).any (·.1) || (backToKw pos (keywordEach kws X.env)).any (·.1.isNone)) = false := by rfl) : We X (.Call (.Name x p) [] kws pos) σ H Q := by
  refine ⟨fun pins s I => ?_⟩
  refine wpAny_Call_Name_kw (ld_glob I hg hm ?_ hdb)
  refine PySem.W.callWith_KW0 (h₀ := X.base) I.ok.mod.kin hk hall ?_ hpl
  refine thn (h.run pos pins s I) fun ws s2 ⟨zs, H2, I2, rz, l2, q2⟩ => ⟨I2.kIn, ?_⟩
  rw [hks]
  exact run_fnQ (us := []) (vs := []) F hr hx I2 .nil rz rfl l2 q2
/-- f(e, .., k = v, ..) -/
theorem w_callQ1 (F : FnQ X.prog X.w X.K X.mg X.base CX k f n ks sp) (hr : Room k X.A) (hm : X.mg x = some (.ref f)) (hk : PySem.W.keepIn X.K (.ref f) = true) (hx : Passes CX X E)
    (h : Wa X (e :: es) σ H fun vs H1 => Wk X kws σ H1 fun zs H2 => vs.length = n ∧ zs.length = ks.length ∧ sp vs zs H2 Q E) (hg : Gl X x := by rfl) (hdb : (x == ("__debug__" : Str)) = false := by decide)
    (hall : (backToKw pos (keywordEach kws X.env)).all (·.1.isSome) = true := by rfl) (hks : (backToKw pos (keywordEach kws X.env)).filterMap (·.1) = ks := by rfl) (he : starEach (e :: es) X.env = (false, eval e X.env) :: starEach es X.env := by rfl)
    (hpl : ((backTo pos (starEach (e :: es) X.env)).any (·.1) || (backToKw pos (keywordEach kws X.env)).any (·.1.isNone)) = false := by rfl) : We X (.Call (.Name x p) (e :: es) kws pos) σ H Q := by
  refine ⟨fun pins s I => ?_⟩
  refine wpAny_Call_Name_kw (ld_glob I hg hm ?_ hdb)
  refine PySem.W.callWith_KW (h₀ := X.base) I.ok.mod.kin hk hall (thn (h.run pos pins s I) fun us s1 ⟨vs, H1, I1, rv, q⟩ => ?_) hpl he
  refine thn (q.run pos pins s1 I1) fun ws s2 ⟨zs, H2, I2, rz, l1, l2, q2⟩ => ⟨I2.kIn, ?_⟩
  rw [hks]
  exact run_fnQ F hr hx I2 rv rz l1 l2 q2
/-- o.m(k = v, ..) -/
theorem w_methQ {pl : Sem Bool} (c : Cls X.K C) (hm : Meth X.K C m f) (F : FnQ X.prog X.w X.K X.mg X.base CX k f 1 ks sp) (hr : Room k X.A) (hx : Passes CX X E)
    (h : We X o σ H fun x H1 => ∃ a dx fs, x = .ref a ∧ H1 a = some (.ins C dx fs) ∧ fs.lookup m = none ∧ Wk X kws σ H1 fun zs H2 => zs.length = ks.length ∧ sp [x] zs H2 Q E)
    (hall : (backToKw pos (keywordEach kws X.env)).all (·.1.isSome) = true := by rfl) (hks : (backToKw pos (keywordEach kws X.env)).filterMap (·.1) = ks := by rfl)
    (hpl : ((backTo pos (starEach [] X.env)).any (·.1) || (backToKw pos (keywordEach kws X.env)).any (·.1.isNone)) = false := by rfl)
    (ht : eval (.Call (.Attribute o m apos) [] kws pos) X.env = (do
      let ov ← eval o X.env
      standAt apos.atName
      let (f, first) ← holding [ov] (getMethod ov m pl)
      callWith pos f first (backTo pos (starEach [] X.env)) (backToKw pos (keywordEach kws X.env))) := by rfl) :
    We X (.Call (.Attribute o m apos) [] kws pos) σ H Q := by
  refine ⟨fun pins s I => ?_⟩
  refine PySem.W.methodCall_KW (pl := pl) (thn (h.run pins s I) fun u s1 ⟨x, H1, I1, rx, a, dx, fs, ex, ea, l, q⟩ => ?_) ht
  subst ex
  obtain rfl : u = Value.ref a := rx
  refine getmeth_ok I1 ea c hm l ?_
  refine PySem.W.callWith_KW0 (h₀ := X.base) I.ok.mod.kin hm.kp hall ?_ hpl
  refine thn (q.run pos pins s1 I1) fun ws s2 ⟨zs, H2, I2, rz, l2, q2⟩ => ⟨I2.kIn, ?_⟩
  rw [hks]
  exact run_fnQ (us := [.ref a]) (vs := [.ref a]) F hr hx I2 (.cons rfl .nil) rz rfl l2 q2
end
end PR
namespace PR
open PySem PySem.Spec PyProof.Rows L2
/-! ### comprehensions -/
/-- the tests of a clause -/
structure Wi (X : Cx) (ifs : List Expr) (σ : L2.St) (H : Hp) (Q : Bool → Hp → Prop) : Prop where
  run : ∀ (pins : List (Addr × Obj)) (s : Shared), Inv X pins σ H s → wpAny (model X.prog X.w) X.A (forIn ifs true fun c r => if r = true then do let ok ← isTrue c X.env (eval c X.env); pure (ForInStep.yield ok) else pure (ForInStep.yield r)) (TP X pins σ Q) X.xe s
theorem i_nil {X : Cx} {σ : L2.St} {H : Hp} {Q : Bool → Hp → Prop} (h : Q true H) : Wi X [] σ H Q := ⟨fun pins s I => pts_nil.run pins s σ H Q I h⟩
theorem i_one {X : Cx} {c : Expr} {σ : L2.St} {H : Hp} {Q : Bool → Hp → Prop} (h : Wt X c σ H Q) : Wi X [c] σ H Q := ⟨fun pins s I => (pts_one ptW).run pins s σ H Q I h⟩
/-- in whatever block of this scope -/
def Bi (X : Cx) (scope : Scope) (ifs : List Expr) : TT := fun σ H Q => ∀ (s : Shared) (H0 : Hp) (C : Addr) (cl : List (Str × Addr)) (fp : List Addr), Wi (X.blk s H0 scope (compEnvC scope cl C X.env) fp) ifs σ H Q
def Be (X : Cx) (scope : Scope) (e : Expr) : TE := fun σ H Q => ∀ (s : Shared) (H0 : Hp) (C : Addr) (cl : List (Str × Addr)) (fp : List Addr), We (X.blk s H0 scope (compEnvC scope cl C X.env) fp) e σ H Q
section
variable {X : Cx} {elt tg iter : Expr} {ifs : List Expr} {scope : Scope} {pos spos py px : Pos} {wi : TI} {g : TG} {σ : L2.St} {H : Hp} {Q : VK} {D : Ends}
theorem w_lc (own : List (Str × Nat)) (hN : X.N.Nodup) (hi : PI X tg iter wi) (hg : ∀ (s : Shared) (H : Hp) (C : Addr) (cl : List (Str × Addr)) (fp : List Addr), PG (X.blk s H scope (compEnvC scope cl C X.env) fp) tg g)
    (h : tLc wi g (Bi X scope ifs) (Be X scope elt) (own.map (·.2)) σ H Q) (ok : BlkOk X.N X.env.scope scope own := by exact blkOk_by (by kernel_rfl)) (hc : X.calm = true := by rfl) (hs : ∀ x, foldedSetIterable iter X.env x = pure x := by intro _; rfl) :
    We X (.ListComp elt [⟨tg, iter, ifs, 0⟩] scope pos) σ H Q :=
  we_of (pe_lc hc hN hi ok hg (fun s H0 C cl fp => ⟨fun pins s1 σ1 H1 Q1 I z => (z s H0 C cl fp).run pins s1 I⟩) (fun s H0 C cl fp => ⟨fun pins s1 σ1 H1 Q1 I z => (z s H0 C cl fp).run pins s1 I⟩) hs) h
theorem s_setLc (i : Nat) {y : Str} (own : List (Str × Nat)) (hN : X.N.Nodup) (hi : PI X tg iter wi) (hg : ∀ (s : Shared) (H : Hp) (C : Addr) (cl : List (Str × Addr)) (fp : List Addr), PG (X.blk s H scope (compEnvC scope cl C X.env) fp) tg g)
    (h : tLc wi g (Bi X scope ifs) (Be X scope elt) (own.map (·.2)) σ H (fun x H1 => D.nx (σ.set i (some x)) H1)) (ok : BlkOk X.N X.env.scope scope own := by exact blkOk_by (by kernel_rfl)) (hy : X.N[i]? = some y := by rfl) (hyl : X.env.scope.names.lookup y = some .local := by rfl)
    (hsw : swapsWith (.ListComp elt [⟨tg, iter, ifs, 0⟩] scope pos) (some (.Name y py)) spos.line X.env = pure true := by rfl) (hc : X.calm = true := by rfl) (hs : ∀ x, foldedSetIterable iter X.env x = pure x := by intro _; rfl) :
    Ws X (.Assign [.Name y py] (.ListComp elt [⟨tg, iter, ifs, 0⟩] scope pos) spos) D σ H :=
  ws_of (ps_setLc hc hN hy hyl hsw hi ok hg (fun s H0 C cl fp => ⟨fun pins s1 σ1 H1 Q1 I z => (z s H0 C cl fp).run pins s1 I⟩) (fun s H0 C cl fp => ⟨fun pins s1 σ1 H1 Q1 I z => (z s H0 C cl fp).run pins s1 I⟩) hs) h
end
theorem wipe1 (σ : L2.St) (j : Nat) (x : V) : wipe ((wipe σ [j]).set j (some x)) [j] = wipe σ [j] := by
  show ((σ.set j none).set j (some x)).set j none = σ.set j none
  rw [List.set_set, List.set_set]
section
variable {X : Cx} {elt e : Expr} {ifs : List Expr} {scope : Scope} {pos spos py px : Pos} {σ : L2.St} {H : Hp} {Q : VK} {D : Ends} {x : Str}
/-- one turn: x the item, D the list that grows -/
def Turn (X : Cx) (scope : Scope) (elt : Expr) (ifs : List Expr) (j : Nat) (σ : L2.St) (L : Addr) (x : V) (H : Hp) (Nx : Hp → Prop) : Prop :=
  Bi X scope ifs ((wipe σ [j]).set j (some x)) H fun b H3 => if b = true then Be X scope elt ((wipe σ [j]).set j (some x)) H3 fun y H4 => ∃ acc, H4 L = some (.lst acc) ∧ acc.length < sizeLine ∧ Nx (upd H4 L (.lst (acc ++ [y]))) else Nx H3
/-- the loop over a list -/
def LoopL (X : Cx) (scope : Scope) (elt : Expr) (ifs : List Expr) (j : Nat) (σ : L2.St) (v : V) (H1 : Hp) (Q : VK) : Prop := ∃ (l : Addr) (xs : List V), v = .ref l ∧ SqL X.K H1 l xs ∧ ∀ L, H1 L = none → ∃ Pv : Nat → Hp → Prop, Pv 0 (upd H1 L (.lst [])) ∧
  (∀ i H', i ≤ xs.length → Pv i H' → SqL X.K H' l xs) ∧ (∀ i y H', xs[i]? = some y → Pv i H' → Turn X scope elt ifs j σ L y H' (Pv (i + 1))) ∧ ∀ H', Pv xs.length H' → Q (.ref L) H'
theorem loopL_ok {j : Nat} (h : We X e σ H fun v H1 => LoopL X scope elt ifs j σ v H1 Q) : ∃ wi, PI X (.Name x px) e wi ∧ tLc wi (gName j) (Bi X scope ifs) (Be X scope elt) [j] σ H Q := by
  refine ⟨_, pi_list peW, ?_⟩
  refine We.mono h fun v H1 z => ?_
  obtain ⟨l, xs, rfl, hl, z⟩ := z
  refine ⟨l, rfl, ⟨xs, hl⟩, fun L hL => ?_⟩
  obtain ⟨Pv, p0, p1, p2, p3⟩ := z L hL
  exact lc_list (K := X.K) (a := l) (xs := xs) Pv p0 p1 (fun i y H' hi hp => ⟨wipe1 σ j y, p2 i y H' hi hp⟩) p3
/-- [elt for x in e if ..], e a list -/
theorem w_lcl (j : Nat) (hN : X.N.Nodup) (h : We X e σ H fun v H1 => LoopL X scope elt ifs j σ v H1 Q) (hj : X.N[j]? = some x := by rfl) (hx : ∀ (cl : List (Str × Addr)) (C : Addr), Loc (compEnvC scope cl C X.env).scope x := by intro _ _; first | exact Or.inl rfl | exact Or.inr rfl)
    (hf : (scope.names.lookup x == some .cell) = true ∨ ∀ (cl : List (Str × Addr)) (C : Addr), (compEnvC scope cl C X.env).scope.names.lookup x = some .local := by first | exact .inl rfl | exact .inr (fun _ _ => rfl))
    (ok : BlkOk X.N X.env.scope scope [(x, j)] := by exact blkOk_by (by kernel_rfl)) (hc : X.calm = true := by rfl) (hs : ∀ z, foldedSetIterable e X.env z = pure z := by intro _; rfl) :
    We X (.ListComp elt [⟨.Name x px, e, ifs, 0⟩] scope pos) σ H Q := by
  obtain ⟨wi, hi, z⟩ := loopL_ok (x := x) (px := px) h
  exact w_lc [(x, j)] hN hi (fun s H0 C cl fp => pg_name (X := X.blk s H0 scope (compEnvC scope cl C X.env) fp) (i := j) hN hj (hx cl C) (hf.imp id fun q => q cl C)) z ok hc hs
theorem s_lcl (i j : Nat) {y : Str} (hN : X.N.Nodup) (h : We X e σ H fun v H1 => LoopL X scope elt ifs j σ v H1 (fun x H1 => D.nx (σ.set i (some x)) H1)) (hj : X.N[j]? = some x := by rfl) (hx : ∀ (cl : List (Str × Addr)) (C : Addr), Loc (compEnvC scope cl C X.env).scope x := by intro _ _; first | exact Or.inl rfl | exact Or.inr rfl)
    (hf : (scope.names.lookup x == some .cell) = true ∨ ∀ (cl : List (Str × Addr)) (C : Addr), (compEnvC scope cl C X.env).scope.names.lookup x = some .local := by first | exact .inl rfl | exact .inr (fun _ _ => rfl))
    (ok : BlkOk X.N X.env.scope scope [(x, j)] := by exact blkOk_by (by kernel_rfl)) (hy : X.N[i]? = some y := by rfl) (hyl : X.env.scope.names.lookup y = some .local := by rfl)
    (hsw : swapsWith (.ListComp elt [⟨.Name x px, e, ifs, 0⟩] scope pos) (some (.Name y py)) spos.line X.env = pure true := by rfl) (hc : X.calm = true := by rfl) (hs : ∀ z, foldedSetIterable e X.env z = pure z := by intro _; rfl) :
    Ws X (.Assign [.Name y py] (.ListComp elt [⟨.Name x px, e, ifs, 0⟩] scope pos) spos) D σ H := by
  obtain ⟨wi, hi, z⟩ := loopL_ok (x := x) (px := px) h
  exact s_setLc i [(x, j)] hN hi (fun s H0 C cl fp => pg_name (X := X.blk s H0 scope (compEnvC scope cl C X.env) fp) (i := j) hN hj (hx cl C) (hf.imp id fun q => q cl C)) z ok hy hyl hsw hc hs
/-- the loop over range(n) -/
def LoopR (X : Cx) (scope : Scope) (elt : Expr) (ifs : List Expr) (j : Nat) (σ : L2.St) (v : V) (H1 : Hp) (Q : VK) : Prop := ∃ n : Nat, v = .int (n : Int) ∧ n < 1000000 ∧ ∀ L, H1 L = none → ∃ Pv : Nat → Hp → Prop, Pv 0 (upd H1 L (.lst [])) ∧
  (∀ i H', i < n → Pv i H' → Turn X scope elt ifs j σ L (.int (i : Int)) H' (Pv (i + 1))) ∧ ∀ H', Pv n H' → Q (.ref L) H'
theorem loopR_ok {j : Nat} {pr pc : Pos} (hm : X.mg "range" = none) (h : We X e σ H fun v H1 => LoopR X scope elt ifs j σ v H1 Q) (hg : Gl X "range") (he : starEach [e] X.env = (false, eval e X.env) :: starEach [] X.env) :
    ∃ wi, PI X (.Name x px) (.Call (.Name "range" pr) [e] [] pc) wi ∧ tLc wi (gName j) (Bi X scope ifs) (Be X scope elt) [j] σ H Q := by
  refine ⟨_, pi_range1 hg hm paW he, ?_⟩
  refine a_cons (We.mono h fun v H1 z => ?_) he
  obtain ⟨n, rfl, hn, z⟩ := z
  refine a_nil ⟨(n : Int), rfl, by omega, by omega, fun L hL => ?_⟩
  obtain ⟨Pv, p0, p2, p3⟩ := z L hL
  refine lc_range (lo := 0) (n := n) Pv p0 (fun i H' hi hp => ?_) p3
  have zz := p2 i H' hi hp
  have e0 : (0 : Int) + (i : Int) = (i : Int) := Int.zero_add _
  rw [e0]
  exact ⟨wipe1 σ j _, zz⟩
theorem w_lcr (j : Nat) {pr pc : Pos} (hN : X.N.Nodup) (hm : X.mg "range" = none) (h : We X e σ H fun v H1 => LoopR X scope elt ifs j σ v H1 Q) (hg : Gl X "range" := by rfl) (he : starEach [e] X.env = (false, eval e X.env) :: starEach [] X.env := by rfl)
    (hj : X.N[j]? = some x := by rfl) (hx : ∀ (cl : List (Str × Addr)) (C : Addr), Loc (compEnvC scope cl C X.env).scope x := by intro _ _; first | exact Or.inl rfl | exact Or.inr rfl)
    (hf : (scope.names.lookup x == some .cell) = true ∨ ∀ (cl : List (Str × Addr)) (C : Addr), (compEnvC scope cl C X.env).scope.names.lookup x = some .local := by first | exact .inl rfl | exact .inr (fun _ _ => rfl))
    (ok : BlkOk X.N X.env.scope scope [(x, j)] := by exact blkOk_by (by kernel_rfl)) (hc : X.calm = true := by rfl) (hs : ∀ z, foldedSetIterable (.Call (.Name "range" pr) [e] [] pc) X.env z = pure z := by intro _; rfl) :
    We X (.ListComp elt [⟨.Name x px, .Call (.Name "range" pr) [e] [] pc, ifs, 0⟩] scope pos) σ H Q := by
  obtain ⟨wi, hi, z⟩ := loopR_ok (x := x) (px := px) (pr := pr) (pc := pc) hm h hg he
  exact w_lc [(x, j)] hN hi (fun s H0 C cl fp => pg_name (X := X.blk s H0 scope (compEnvC scope cl C X.env) fp) (i := j) hN hj (hx cl C) (hf.imp id fun q => q cl C)) z ok hc hs
theorem s_lcr (i j : Nat) {y : Str} {pr pc : Pos} (hN : X.N.Nodup) (hm : X.mg "range" = none) (h : We X e σ H fun v H1 => LoopR X scope elt ifs j σ v H1 (fun x H1 => D.nx (σ.set i (some x)) H1)) (hg : Gl X "range" := by rfl) (he : starEach [e] X.env = (false, eval e X.env) :: starEach [] X.env := by rfl)
    (hj : X.N[j]? = some x := by rfl) (hx : ∀ (cl : List (Str × Addr)) (C : Addr), Loc (compEnvC scope cl C X.env).scope x := by intro _ _; first | exact Or.inl rfl | exact Or.inr rfl)
    (hf : (scope.names.lookup x == some .cell) = true ∨ ∀ (cl : List (Str × Addr)) (C : Addr), (compEnvC scope cl C X.env).scope.names.lookup x = some .local := by first | exact .inl rfl | exact .inr (fun _ _ => rfl))
    (ok : BlkOk X.N X.env.scope scope [(x, j)] := by exact blkOk_by (by kernel_rfl)) (hy : X.N[i]? = some y := by rfl) (hyl : X.env.scope.names.lookup y = some .local := by rfl)
    (hsw : swapsWith (.ListComp elt [⟨.Name x px, .Call (.Name "range" pr) [e] [] pc, ifs, 0⟩] scope pos) (some (.Name y py)) spos.line X.env = pure true := by rfl) (hc : X.calm = true := by rfl) (hs : ∀ z, foldedSetIterable (.Call (.Name "range" pr) [e] [] pc) X.env z = pure z := by intro _; rfl) :
    Ws X (.Assign [.Name y py] (.ListComp elt [⟨.Name x px, .Call (.Name "range" pr) [e] [] pc, ifs, 0⟩] scope pos) spos) D σ H := by
  obtain ⟨wi, hi, z⟩ := loopR_ok (x := x) (px := px) (pr := pr) (pc := pc) hm h hg he
  exact s_setLc i [(x, j)] hN hi (fun s H0 C cl fp => pg_name (X := X.blk s H0 scope (compEnvC scope cl C X.env) fp) (i := j) hN hj (hx cl C) (hf.imp id fun q => q cl C)) z ok hy hyl hsw hc hs
end
end PR
namespace PR
open PySem PySem.Spec PyProof.Rows L2
/-- the law's promise at the heap that the top has left, where it needs that nothing is being shown -/
theorem law_callG {P : Program} {w : World} {K : PySem.W.Frag} {mg mb : Str → Option Value} {k : Nat} {fa a : Addr} {sp : Sp} {s₁ : Shared} {vs : List Value} {ns : List Int}
    (KI : K.In s₁.heap) (ng : s₁.heap.Ns mainGlobals mg) (nb : s₁.heap.Ns builtinsNs mb) (bb : ∀ x : Str, x ≠ "__name__" → mb x = bootBuiltins x) (nl : s₁.heap.NoLimit) (ge : s₁.gens = #[])
    (at_ : s₁.heap.get? a = some { cls := .type "list", data := .seq vs.toArray }) (isI : IntsAre vs ns) (short : ns.length ≤ sizeLine) (room : Room k callerA)
    (F : ∀ base : Heap, K.In base → base.Ns mainGlobals mg → FnG P w K mg base (L2.CX P w) k fa sp)
    (want : ∀ H : Hp, Only H → SqL K H a (ns.map V.int) → sp [.ref a] H (fun v _ => v = .bl true) fun _ _ _ => False) :
    codeAny (model P w) callerA (.call (.ref fa) ⟨[.ref a], []⟩) (fun r s' => r = .ok (.ret (.bool true)) ∧ OldK s₁.heap s'.heap ∧ s'.os = s₁.os ∧ AllBare s'.gens) s₁ := by
  have go : ∀ H : Hp, Only H → SqL K H a (ns.map V.int) → HOk P w H s₁.heap → (∀ b, H b ≠ none → b = a) → (H a ≠ none → K.lookup a = none) →
      codeAny (model P w) callerA (.call (.ref fa) ⟨[.ref a], []⟩) (fun r s' => r = .ok (.ret (.bool true)) ∧ OldK s₁.heap s'.heap ∧ s'.os = s₁.os ∧ AllBare s'.gens) s₁ := by
    intro H only seq hok one lone
    have free_or : ∀ b, H b = none ∨ b = a := fun b => by
      by_cases z : H b = none
      · exact .inl z
      · exact .inr (one b z)
    have dict_free : ∀ {b : Addr} {o : Obj} {es : Array DictEntry} {ep : Nat}, s₁.heap.get? b = some o → o.data = .dict es ep → H b = none := by
      intro b o es ep e1 e2
      rcases free_or b with z | rfl
      · exact z
      · rw [at_] at e1
        cases e1
        exact nomatch (show Data.seq vs.toArray _ = Data.dict es ep from e2)
    have moved : ∀ {b : Addr} {m : Str → Option Value}, s₁.heap.Ns b m → (hidT s₁.heap H).Ns b m := by
      rintro b m ⟨o, es, ep, e1, e2, r⟩
      exact ⟨o, es, ep, hidT_get e1 (dict_free e1 e2), e2, r⟩
    have KB : K.In (hidT s₁.heap H) := by
      intro b o e
      refine hidT_get (KI b o e) ?_
      by_cases z : H b = none
      · exact z
      · have eb := one b z
        subst eb
        rw [lone z] at e
        cases e
    have mod : Mod K mg (hidT s₁.heap H) := ⟨KB, moved ng, ⟨mb, moved nb, bb⟩, let ⟨mc, g1, g2⟩ := nl; ⟨mc, moved g1, g2⟩⟩
    have E0' : Env0 P w K mg (hidT s₁.heap H) callerA [] s₁ H := ⟨rfl, mod, fun _ _ z => of_hidT z, Nat.le_of_eq (hidT_size _ _), trivial, fun _ z => (nomatch (show _ ∈ ([] : List Addr) from z)), hok, .of_eq ge⟩
    refine codeAny_mono (F _ KB (moved ng) callerA [] s₁ H [.ref a] [.ref a] _ _ rfl room E0' (.cons rfl .nil) (want H only seq)) fun r s2 z => ?_
    match r, z with
    | .error e, ⟨_, _, _, _, _, _, _, _, _, _, _, _, z⟩ => exact False.elim z
    | .ok .next, z => exact False.elim z
    | .ok .brk, z => exact False.elim z
    | .ok .cont, z => exact False.elim z
    | .ok (.ret u), ⟨v, H', g1, g2, g3, g4, g5, g6⟩ =>
      have g6 : v = .bl true := g6
      subst g6
      have g5 : u = Value.bool true := g5
      subst g5
      refine ⟨rfl, OldK.of_keep fun b o e => ?_, g1, g2⟩
      rcases only b with z | ⟨ob, xs, z⟩
      · exact g3.keep b o e z (fun y => nomatch (show b ∈ ([] : List Addr) from y)) (by simp)
      · have y := g3.frzs b ob _ z
        have y1 := (hok b _ z).1
        have y2 := (g4 b _ y).1
        rw [e] at y1
        cases y1
        exact y2
  have rel := vals_ints isI
  have ll := isI.length
  by_cases hk : K.lookup a = none
  · refine go (fun b => if b = a then some (.frz { cls := .type "list", data := .seq vs.toArray } (.lst (ns.map V.int))) else none) (fun b => ?_) (.inl (.inr ⟨_, if_pos rfl⟩)) (fun b u z => ?_) (fun b z => ?_) fun _ => hk
    · by_cases hb : b = a
      · exact .inr ⟨_, _, if_pos hb⟩
      · exact .inl (if_neg hb)
    · by_cases hb : b = a
      · have y := (if_pos hb).symm.trans z
        cases y
        subst hb
        exact ⟨at_, by rw [List.length_map]; exact short, vs, _, rel, at_⟩
      · exact nomatch (if_neg hb).symm.trans z
    · exact Decidable.byContradiction fun hb => z (if_neg hb)
  · obtain ⟨o, ho⟩ := Option.ne_none_iff_exists'.mp hk
    have e := KI a o ho
    rw [at_] at e
    cases e
    exact go (fun _ => none) (fun _ => .inl rfl) (.inr ⟨_, vs.toArray, _, ho, rfl, rfl, rfl, by rw [List.size_toArray, ll]; exact short, by simpa using rel⟩) (fun _ u z => nomatch (show (none : Option HO) = some u from z)) (fun _ z => absurd rfl z) fun z => absurd rfl z
/-- a law's end -/
theorem walk_ofG {l : PySem.W.OpenLaw} {n k : Nat} {q : Program} {loose : List Str} {XP : (Str → Option Value) → Heap → Prop} {YP : World → Heap → Prop} {d : DefRec} (hn : l.most = some n) (hn2 : n ≤ sizeLine) (hdf : d.params.defaults = []) (room : Room k callerA)
    (F : ∀ (w : World) (mg : Str → Option Value) (fa : Addr) (h : Heap), YP w h → h.Ns mainGlobals mg → mg d.name = some (.ref fa) →
      ∃ (K : PySem.W.Frag) (sp : Sp), K.In h ∧ (∀ (H : Hp) (a : Addr) (ns : List Int), ns.length ≤ n → Only H → SqL K H a (ns.map V.int) → sp [.ref a] H (fun v _ => v = .bl true) fun _ _ _ => False) ∧
        ∀ base : Heap, K.In base → base.Ns mainGlobals mg → FnG l.prog w K mg base (L2.CX l.prog w) k fa sp) :
    PySem.W.WalkO q loose XP YP l.row.toRowW d [] (fun f vs => PySem.call f vs) := by
  refine Att.attach_call hn hdf fun w s₀ s₁ mg mb fa o pm cd doc a vs ns G Y ho hd hcd hmg hobj hints hlen hg => ?_
  obtain ⟨K, sp, KI, want, FF⟩ := F w mg fa _ Y G.T.g hmg
  exact law_callG KI G.T.g G.T.b G.T.builtins G.T.nolimit hg hobj hints (Nat.le_trans hlen hn2) room FF fun H hO hS => want H a ns hlen hO hS
end PR
namespace PR
open PySem PySem.Spec PyProof.Rows L2
/-! ### slices, chains, texts -/
section
variable {X : Cx} {e a b c : Expr} {σ : L2.St} {H : Hp} {Q : VK} {Qb : Bool → Hp → Prop} {pos p2 : Pos} {r : V → Option Int → Option Int → Hp → VK → Prop}
theorem w_slF (hr : SlR X r) (h : We X e σ H fun x H1 => We X c σ H1 fun y H2 => ∃ i, y = .int i ∧ r x (some i) none H2 Q) : We X (.Subscript e (.Slice (some c) none none p2) pos) σ H Q := we_of (pe_slice hr peW (po_some peW) po_none) h
theorem w_slT (hr : SlR X r) (h : We X e σ H fun x H1 => We X c σ H1 fun y H2 => ∃ i, y = .int i ∧ r x none (some i) H2 Q) : We X (.Subscript e (.Slice none (some c) none p2) pos) σ H Q := we_of (pe_slice hr peW po_none (po_some peW)) h
theorem w_chain {op op' : CmpOp} {r r' : R2} (ho : OpR X (compareOp op) r) (ho' : OpR X (compareOp op') r') (h : We X a σ H fun x H1 => We X b σ H1 fun y H2 => r x y H2 fun z H3 => ∃ k, z = .bl k ∧ (if k = true then We X c σ H3 fun w' H4 => r' y w' H4 Q else Q (.bl false) H3))
    (hm : lastMarks [op, op'] [b, c] = false := by with_unfolding_all rfl) : We X (.Compare a [op, op'] [b, c] pos) σ H Q := we_of (pe_chain ho ho' peW peW peW hm) h
theorem t_chain {op op' : CmpOp} {r r' : R2} (ho : OpR X (compareOp op) r) (ho' : OpR X (compareOp op') r') (h : We X a σ H fun x H1 => We X b σ H1 fun y H2 => r x y H2 fun z H3 => ∃ k, z = .bl k ∧ (if k = true then We X c σ H3 fun w' H4 => r' y w' H4 fun z H5 => ∃ k, z = .bl k ∧ Qb k H5 else ∃ k, V.bl false = .bl k ∧ Qb k H3))
    (hm : lastMarks [op, op'] [b, c] = false := by with_unfolding_all rfl) : Wt X (.Compare a [op, op'] [b, c] pos) σ H Qb := wt_of (pt_chain ho ho' peW peW peW hm) h
theorem w_split {apos : Pos} (h : We X e σ H fun x H1 => ∃ s, x = .str s ∧ We X c σ H1 fun y H2 => ∃ d, y = .str d ∧ (d.length == 0) = false ∧ s.length + 2 ≤ sizeLine ∧ rNewStrs (Txt.split s d) H2 Q)
    (hs : starEach [c] X.env = [(false, eval c X.env)] := by rfl) (hbase : attributeBase e "split" X.env (eval e X.env) = eval e X.env := by rfl) (hline : (apos.endLine == pos.line) = true := by rfl) : We X (.Call (.Attribute e "split" apos) [c] [] pos) σ H Q :=
  we_of (pe_split peW peW hs hbase hline) (We.mono h fun x H1 ⟨s, ex, z⟩ => ⟨⟨s, ex⟩, We.mono z fun y H2 ⟨d, ed, h1, h2, h3⟩ => ⟨s, d, ex, by rw [ed], h1, h2, h3⟩⟩)
theorem w_fmt (h : We X e σ H fun x H1 => (∃ y : Str, x = .str y ∧ y.length ≤ sizeLine ∧ Q (.str y) H1) ∨ ∃ i : Int, x = .int i ∧ i.natAbs.log2 < 1920 ∧ Q (.str (toString i)) H1) : We X (.FormattedValue e (-1) none pos) σ H Q := we_of (pe_fmt peW) h
end
/-! ### comprehensions over a text -/
section
variable {X : Cx} {elt e : Expr} {ifs : List Expr} {scope : Scope} {pos spos py px : Pos} {σ : L2.St} {H : Hp} {Q : VK} {D : Ends} {x : Str}
def LoopS (X : Cx) (scope : Scope) (elt : Expr) (ifs : List Expr) (j : Nat) (σ : L2.St) (v : V) (H1 : Hp) (Q : VK) : Prop := ∃ s : Str, v = .str s ∧ ∀ L, H1 L = none → ∃ Pv : Nat → Hp → Prop, Pv 0 (upd H1 L (.lst [])) ∧
  (∀ i c H', (TL.tl s)[i]? = some c → Pv i H' → Turn X scope elt ifs j σ L (.str ⟨#[c]⟩) H' (Pv (i + 1))) ∧ ∀ H', Pv (TL.tl s).length H' → Q (.ref L) H'
theorem walk_its (s : Str) : Walk (Its s) (TL.tl s).length (fun _ => True) (fun i H v H' => H' = H ∧ ∃ c, (TL.tl s)[i]? = some c ∧ v = .str ⟨#[c]⟩) := by
  have e : (TL.tl s).length = s.cps.size := by simp [TL.tl]
  refine ⟨fun i _ hi _ => by show i < s.cps.size; omega, fun _ _ => by show s.cps.size ≤ _; omega, fun i H v H' _ _ y => ?_⟩
  obtain ⟨e1, c, e2, e3⟩ := y
  exact ⟨e1, c, by rw [← e2]; simp [TL.tl], e3⟩
theorem loopS_ok {j : Nat} (h : We X e σ H fun v H1 => LoopS X scope elt ifs j σ v H1 Q) : ∃ wi, PI X (.Name x px) e wi ∧ tLc wi (gName j) (Bi X scope ifs) (Be X scope elt) [j] σ H Q := by
  refine ⟨_, pi_str peW, ?_⟩
  refine We.mono h fun v H1 z => ?_
  obtain ⟨s, rfl, z⟩ := z
  refine ⟨s, rfl, fun L hL => ?_⟩
  obtain ⟨Pv, p0, p2, p3⟩ := z L hL
  refine lc_it (walk_its s) Pv p0 (fun _ _ _ _ => trivial) (fun i y H0 H' hi hp hy => ?_) p3
  obtain ⟨rfl, c, hc, rfl⟩ := hy
  exact ⟨wipe1 σ j _, p2 i c _ hc hp⟩
theorem w_lcs (j : Nat) (hN : X.N.Nodup) (h : We X e σ H fun v H1 => LoopS X scope elt ifs j σ v H1 Q) (hj : X.N[j]? = some x := by rfl) (hx : ∀ (cl : List (Str × Addr)) (C : Addr), Loc (compEnvC scope cl C X.env).scope x := by intro _ _; first | exact Or.inl rfl | exact Or.inr rfl)
    (hf : (scope.names.lookup x == some .cell) = true ∨ ∀ (cl : List (Str × Addr)) (C : Addr), (compEnvC scope cl C X.env).scope.names.lookup x = some .local := by first | exact .inl rfl | exact .inr (fun _ _ => rfl))
    (ok : BlkOk X.N X.env.scope scope [(x, j)] := by exact blkOk_by (by kernel_rfl)) (hc : X.calm = true := by rfl) (hs : ∀ z, foldedSetIterable e X.env z = pure z := by intro _; rfl) :
    We X (.ListComp elt [⟨.Name x px, e, ifs, 0⟩] scope pos) σ H Q := by
  obtain ⟨wi, hi, z⟩ := loopS_ok (x := x) (px := px) h
  exact w_lc [(x, j)] hN hi (fun s H0 C cl fp => pg_name (X := X.blk s H0 scope (compEnvC scope cl C X.env) fp) (i := j) hN hj (hx cl C) (hf.imp id fun q => q cl C)) z ok hc hs
end
/-! ### classmethods -/
section
variable {X : Cx} {CX : CXT} {k : Nat} {C p g : Addr} {mc : Value} {sp : Sp} {E : XK} {o e : Expr} {es : List Expr} {m : Str} {pos apos : Pos} {σ : L2.St} {H : Hp} {Q : VK}
theorem run_cmA {pins : List (Addr × Obj)} {s : Shared} {q : Addr} {us : List Value} {vs : List V} (F : FnR X.prog X.w X.K X.mg X.base CX k g sp) (hr : Room k X.A) (hx : PassAt CX X σ E) (I : Inv X ((q, PySem.W.methodObj (.ref g) (.ref C)) :: pins) σ H s) (r : Vals vs us) (h : sp (.ref C :: vs) H Q E) :
    wpAny (model X.prog X.w) X.A (call (.ref q) us) (EP X pins σ Q) X.xe s := by
  have z : wpAny (model X.prog X.w) X.A (call (.ref q) us) (EP X ((q, PySem.W.methodObj (.ref g) (.ref C)) :: pins) σ Q) X.xe s :=
    wpAny_call (PySem.W.method_call (ClX.pin_at I) (run_fnA (us := .ref C :: us) (vs := .ref C :: vs) F hr hx I (.cons rfl r) h))
  exact thn z fun _ _ y => ClX.unpinE y
theorem w_cmethA {pl : Sem Bool} (r : ClX.CRead X.K C mc) (c : ClX.CMet X.K C mc m p g) (F : FnR X.prog X.w X.K X.mg X.base CX k g sp) (hr : Room k X.A) (hx : PassAt CX X σ E)
    (h : We X o σ H fun x H1 => x = .ref C ∧ Wa X (e :: es) σ H1 fun vs H2 => sp (.ref C :: vs) H2 Q E)
    (hst : starEach (e :: es) X.env = (false, eval e X.env) :: starEach es X.env := by rfl) (hpl : (backTo pos (starEach es X.env)).any (·.1) = false := by rfl)
    (ht : eval (.Call (.Attribute o m apos) (e :: es) [] pos) X.env = (do
      let ov ← eval o X.env
      standAt apos.atName
      let (f, first) ← holding [ov] (getMethod ov m pl)
      callWith pos f first (backTo pos (starEach (e :: es) X.env)) (backToKw pos (keywordEach [] X.env))) := by rfl) :
    We X (.Call (.Attribute o m apos) (e :: es) [] pos) σ H Q := by
  refine ⟨fun pins s I => ?_⟩
  refine PySem.W.methodCall_KW (pl := pl) (thn (h.run pins s I) fun u s1 ⟨x, H1, I1, rx, ex, q⟩ => ?_) ht
  subst ex
  obtain rfl : u = Value.ref C := rx
  refine ClX.getmethcm_ok I1 r c fun s2 I2 => ?_
  refine ClX.callwith_cm I2 (ClX.base_none I1 (Nat.le_refl _)) c.fi (thn (q.run pos _ s2 I2) fun us s3 ⟨vs, H2, I3, rv, q2⟩ => ⟨⟨ClX.pin_at I3, I3.kIn⟩, ?_⟩) hst hpl
  exact run_cmA F hr hx I3 rv q2
/-- o.m(k = v, ..), o a class, m a classmethod -/
theorem w_cmethQ {pl : Sem Bool} {ks : List Str} {kws : List Keyword} {sq : List V → List V → Hp → VK → XK → Prop} (r : ClX.CRead X.K C mc) (c : ClX.CMet X.K C mc m p g) (F : FnQ X.prog X.w X.K X.mg X.base CX k g 1 ks sq) (hr : Room k X.A) (hx : PassAt CX X σ E)
    (h : We X o σ H fun x H1 => x = .ref C ∧ Wk X kws σ H1 fun zs H2 => zs.length = ks.length ∧ sq [.ref C] zs H2 Q E)
    (hall : (backToKw pos (keywordEach kws X.env)).all (·.1.isSome) = true := by rfl) (hks : (backToKw pos (keywordEach kws X.env)).filterMap (·.1) = ks := by rfl)
    (hpl : ((backTo pos (starEach [] X.env)).any (·.1) || (backToKw pos (keywordEach kws X.env)).any (·.1.isNone)) = false := by rfl)
    (ht : eval (.Call (.Attribute o m apos) [] kws pos) X.env = (do
      let ov ← eval o X.env
      standAt apos.atName
      let (f, first) ← holding [ov] (getMethod ov m pl)
      callWith pos f first (backTo pos (starEach [] X.env)) (backToKw pos (keywordEach kws X.env))) := by rfl) :
    We X (.Call (.Attribute o m apos) [] kws pos) σ H Q := by
  refine ⟨fun pins s I => ?_⟩
  refine PySem.W.methodCall_KW (pl := pl) (thn (h.run pins s I) fun u s1 ⟨x, H1, I1, rx, ex, q⟩ => ?_) ht
  subst ex
  obtain rfl : u = Value.ref C := rx
  refine ClX.getmethcm_ok I1 r c fun s2 I2 => ?_
  refine PySem.W.callWith_of hpl (PySem.W.keeps_M c.fi) (evalArgs_kw2_nil hall (thn (q.run pos _ s2 I2) fun ws s3 ⟨zs, H2, I3, rz, l2, q2⟩ => ⟨⟨ClX.pin_at I3, I3.kIn⟩, ?_⟩))
  rw [hks]
  have zz : wpAny (model X.prog X.w) X.A (call (.ref s1.heap.objs.size) [] (ks.zip ws)) (EP X ((s1.heap.objs.size, PySem.W.methodObj (.ref g) (.ref C)) :: pins) σ Q) X.xe s3 :=
    wpAny_call (PySem.W.method_call (ClX.pin_at I3) (codeAny_mono (F X.A X.stack s3 H2 [.ref C] ws [.ref C] zs Q E hr I3.env0 (.cons rfl .nil) rz rfl l2 q2) fun r s' z => by
      match r, z with
      | .error e, z => exact hx _ H2 s3 e s' I3 z
      | .ok (.ret u), z => exact I3.after z
      | .ok .next, z => exact z
      | .ok .brk, z => exact z
      | .ok .cont, z => exact z))
  exact thn zz fun _ _ y => ClX.unpinE y
/-- C(e, ..), C in a local name -/
theorem w_makeV (i : Nat) {x : Str} {f : Addr} {nm : Pos} (M : Mk X.K C f) (F : FnR X.prog X.w X.K X.mg X.base CX k f sp) (hr : Room (k + 1) X.A) (hx : PassAt CX X σ E) (hv : σ[i]? = some (some (.ref C)))
    (h : Wa X (e :: es) σ H fun vs H1 => ∀ x dx, H1 x = Option.none → H1 dx = Option.none → dx ≠ x → sp (V.ref x :: vs) (upd (upd H1 dx (.own x)) x (.ins C dx [])) (fun v H2 => v = .non ∧ Q (.ref x) H2) E)
    (hN : X.N[i]? = some x := by rfl) (hvis : Vis X.env.scope x := by first | exact Or.inl rfl | exact Or.inr (Or.inl rfl) | exact Or.inr (Or.inr rfl)) (hd : (x == ("__debug__" : Str)) = false := by decide) (hcd : (x == ("__classdict__" : Str)) = false := by decide)
    (he : starEach (e :: es) X.env = (false, eval e X.env) :: starEach es X.env := by rfl) (hpl : (backTo pos (starEach es X.env)).any (·.1) = false := by rfl) : We X (.Call (.Name x nm) (e :: es) [] pos) σ H Q := by
  refine ⟨fun pins s I => ?_⟩
  refine wpAny_Call_Name_kw (thn ((w_var (X := X) (pos := nm) (Q := fun v H1 => v = .ref C ∧ H1 = H) i hv ⟨rfl, rfl⟩ hN hvis hd hcd).run pins s I) fun u s0 ⟨v, H1, I0, r0, ev, eH⟩ => ?_)
  subst ev
  rw [eH] at I0
  obtain rfl : u = Value.ref C := r0
  refine PySem.W.callWith_K (h₀ := X.base) I0.ok.mod.kin M.kp (thn (h.run pos pins s0 I0) fun us s1 ⟨vs, H1, I1, r, q⟩ => ⟨I1.kIn, ?_⟩) he hpl
  have J := Inv.made (C := C) I1
  have z := q (s1.heap.objs.size + 1) s1.heap.objs.size (I1.hok.fresh (Nat.le_succ _)) (I1.hok.fresh (Nat.le_refl _)) (Nat.ne_of_lt (Nat.lt_succ_self _))
  have r2 : Vals (V.ref (s1.heap.objs.size + 1) :: vs) (Value.ref (s1.heap.objs.size + 1) :: us) := .cons rfl r
  refine wpAny_call (make_map (f := f) I1.kIn M.makes M.init (beq_iff_eq.mp M.fn) (codeAny_mono (F _ X.stack _ _ _ _ _ E (hr.make C us []) (J.env0.make C us []) r2 z) fun rr s' zz => ?_))
  match rr, zz with
  | .error e, zz => exact hx pins _ _ e s' J zz
  | .ok (.ret u), zz =>
    obtain ⟨v, H', I3, rv, ev, q3⟩ := J.after zz
    subst ev
    exact ⟨rv, ⟨V.ref (s1.heap.objs.size + 1), H', I3, rfl, q3⟩⟩
  | .ok .next, zz => exact zz
  | .ok .brk, zz => exact zz
  | .ok .cont, zz => exact zz
end
theorem Passes.at_ {CX : CXT} {X : Cx} {E : XK} (h : Passes CX X E) (σ : L2.St) : PassAt CX X σ E := fun pins H s e s' I c => h pins σ H s e s' I c
end PR
namespace RM
/-- the greatest common divisor with the sign of the bottom -/
def sg (a b : Int) : Int := if b > 0 then (Int.gcd a b : Int) else -(Int.gcd a b : Int)
theorem sg_ne {a b : Int} (h : b ≠ 0) : sg a b ≠ 0 := by
  have := Int.gcd_pos_of_ne_zero_right a h
  unfold sg; split <;> omega
theorem fdiv_neg_of_dvd {a g : Int} (hg : 0 < g) (h : g ∣ a) : a.fdiv (-g) = (-a) / g := by
  obtain ⟨k, rfl⟩ := h
  have e1 : (g * k).fdiv (-g) = -k := by
    have : g * k = (-g) * (-k) := by rw [Int.neg_mul_neg]
    rw [this, Int.mul_fdiv_cancel_left _ (by omega)]
  rw [e1, show -(g * k) = g * (-k) by rw [Int.mul_neg], Int.mul_ediv_cancel_left _ (by omega)]
theorem num_eq {a b : Int} (h : b ≠ 0) : a.fdiv (sg a b) = (Rat.divInt a b).num := by
  have hg := Int.gcd_pos_of_ne_zero_right a h
  rw [Rat.num_divInt, Int.gcd_comm b a]
  unfold sg
  by_cases hb : b > 0
  · rw [if_pos hb, Int.sign_eq_one_of_pos hb, Int.one_mul, Int.fdiv_eq_ediv_of_nonneg _ (by omega)]
  · rw [if_neg hb, Int.sign_eq_neg_one_of_neg (by omega), Int.neg_mul, Int.one_mul]
    exact fdiv_neg_of_dvd (by omega) (Int.gcd_dvd_left ..)
theorem den_eq {a b : Int} (h : b ≠ 0) : b.fdiv (sg a b) = ((Rat.divInt a b).den : Int) := by
  have hg := Int.gcd_pos_of_ne_zero_right a h
  rw [Rat.den_divInt, if_neg h, Int.gcd_comm b a]
  unfold sg
  by_cases hb : b > 0
  · rw [if_pos hb, Int.fdiv_eq_ediv_of_nonneg _ (by omega)]
    have e : ((b.natAbs / a.gcd b : Nat) : Int) = (b.natAbs : Int) / ((a.gcd b : Nat) : Int) := Int.natCast_ediv ..
    rw [e]
    congr 1
    omega
  · rw [if_neg hb, fdiv_neg_of_dvd (by omega) (Int.gcd_dvd_right ..)]
    have e : ((b.natAbs / a.gcd b : Nat) : Int) = (b.natAbs : Int) / ((a.gcd b : Nat) : Int) := Int.natCast_ediv ..
    rw [e]
    congr 1
    omega
/-- one turn of Euclid's loop (Python's %) -/
theorem gcd_turn {a b : Int} (h : b ≠ 0) : Int.gcd b (a.fmod b) = Int.gcd a b := by
  have e : a.fmod b = a - b * a.fdiv b := by have := Int.mul_fdiv_add_fmod a b; omega
  rw [e, Int.gcd_comm a b]
  rw [Int.mul_comm]
  exact Int.gcd_sub_mul_right_right ..
theorem fmod_small {a b : Int} (h : b ≠ 0) : (a.fmod b).natAbs < b.natAbs := by
  rcases Int.lt_or_gt_of_ne h with hb | hb
  · have e1 : (-a).fmod (-b) = -(a.fmod b) := Int.neg_fmod_neg a b
    have h1 := Int.fmod_nonneg_of_pos (-a) (b := -b) (by omega)
    have h2 := Int.fmod_lt_of_pos (-a) (b := -b) (by omega)
    omega
  · have h1 := Int.fmod_nonneg_of_pos a hb
    have h2 := Int.fmod_lt_of_pos a hb
    omega
/-! ### sizes -/
def Lt (q : Rat) (n : Nat) : Prop := q.num.natAbs < 2 ^ n ∧ q.den < 2 ^ n
theorem Lt.mono {q : Rat} {n m : Nat} (h : Lt q n) (k : n ≤ m) : Lt q m :=
  ⟨Nat.lt_of_lt_of_le h.1 (Nat.pow_le_pow_right (by omega) k), Nat.lt_of_lt_of_le h.2 (Nat.pow_le_pow_right (by omega) k)⟩
theorem num_divInt_le (a b : Int) (h : b ≠ 0) : (Rat.divInt a b).num.natAbs ≤ a.natAbs := by
  rw [← num_eq h]
  have hs := sg_ne (a := a) h
  have hd : sg a b ∣ a := by
    unfold sg; split
    · exact Int.gcd_dvd_left ..
    · exact Int.neg_dvd.mpr (Int.gcd_dvd_left ..)
  obtain ⟨k, hk⟩ := hd
  have e : a.fdiv (sg a b) = k := by
    conv => lhs; arg 1; rw [hk]
    exact Int.mul_fdiv_cancel_left _ hs
  rw [e]
  have : a.natAbs = (sg a b).natAbs * k.natAbs := by conv => lhs; rw [hk]; rw [Int.natAbs_mul]
  rw [this]
  exact Nat.le_mul_of_pos_left _ (by omega)
theorem den_divInt_le (a b : Int) (h : b ≠ 0) : (Rat.divInt a b).den ≤ b.natAbs := by
  rw [Rat.den_divInt, if_neg h]
  exact Nat.div_le_self ..
theorem lt_divInt {a b : Int} {n : Nat} (h : b ≠ 0) (ha : a.natAbs < 2 ^ n) (hb : b.natAbs < 2 ^ n) : Lt (Rat.divInt a b) n :=
  ⟨Nat.lt_of_le_of_lt (num_divInt_le a b h) ha, Nat.lt_of_le_of_lt (den_divInt_le a b h) hb⟩
theorem den_ne (q : Rat) : (q.den : Int) ≠ 0 := by have := q.den_nz; omega
theorem add_eq (p q : Rat) : p + q = Rat.divInt (p.num * q.den + q.num * p.den) (p.den * q.den) := by
  conv => lhs; rw [← Rat.num_divInt_den p, ← Rat.num_divInt_den q]
  exact Rat.divInt_add_divInt _ _ (den_ne p) (den_ne q)
theorem sub_eq (p q : Rat) : p - q = Rat.divInt (p.num * q.den - q.num * p.den) (p.den * q.den) := by
  have e : p - q = p + -q := Rat.sub_eq_add_neg p q
  rw [e, add_eq]
  congr 1
  · show p.num * ((-q).den : Int) + (-q).num * p.den = _
    have h1 : (-q).den = q.den := rfl
    have h2 : (-q).num = -q.num := rfl
    rw [h1, h2, Int.neg_mul]
    omega
theorem mul_eq (p q : Rat) : p * q = Rat.divInt (p.num * q.num) (p.den * q.den) := by
  conv => lhs; rw [← Rat.num_divInt_den p, ← Rat.num_divInt_den q]
  exact Rat.divInt_mul_divInt ..
theorem neg_eq (p : Rat) : -p = Rat.divInt (-p.num) p.den := by
  conv => lhs; rw [← Rat.num_divInt_den p]
  exact Rat.neg_divInt ..
theorem div_eq (p q : Rat) : p / q = Rat.divInt (p.num * q.den) (p.den * q.num) := by
  rw [Rat.div_def, Rat.inv_def]
  conv => lhs; rw [← Rat.num_divInt_den p]
  exact Rat.divInt_mul_divInt ..
theorem num_zero_iff {q : Rat} : q.num = 0 ↔ q = 0 := Rat.num_eq_zero
theorem pow_mul_lt {i j : Int} {a b : Nat} (ha : i.natAbs < 2 ^ a) (hb : j.natAbs < 2 ^ b) : (i * j).natAbs < 2 ^ (a + b) := by
  rw [Int.natAbs_mul, Nat.pow_add]
  exact Nat.mul_lt_mul'' ha hb
theorem pow_add_lt {i j : Int} {a : Nat} (ha : i.natAbs < 2 ^ a) (hb : j.natAbs < 2 ^ a) : (i + j).natAbs < 2 ^ (a + 1) := by
  rw [Nat.pow_succ]; omega
theorem pow_sub_lt {i j : Int} {a : Nat} (ha : i.natAbs < 2 ^ a) (hb : j.natAbs < 2 ^ a) : (i - j).natAbs < 2 ^ (a + 1) := by
  rw [Nat.pow_succ]; omega
theorem den_lt {q : Rat} {n : Nat} (h : Lt q n) : ((q.den : Int)).natAbs < 2 ^ n := h.2
theorem pow_le {i : Int} {a b : Nat} (h : i.natAbs < 2 ^ a) (k : a ≤ b) : i.natAbs < 2 ^ b := Nat.lt_of_lt_of_le h (Nat.pow_le_pow_right (by omega) k)
theorem mul_den_ne (p q : Rat) : (p.den * q.den : Int) ≠ 0 := Int.mul_ne_zero (den_ne p) (den_ne q)
theorem lt_add {p q : Rat} {a b : Nat} (hp : Lt p a) (hq : Lt q b) : Lt (p + q) (a + b + 1) := by
  rw [add_eq]
  refine lt_divInt (mul_den_ne p q) (pow_add_lt (pow_mul_lt hp.1 (den_lt hq)) ?_) (pow_le (pow_mul_lt (den_lt hp) (den_lt hq)) (by omega))
  rw [Nat.add_comm a b]
  exact pow_mul_lt hq.1 (den_lt hp)
theorem lt_sub {p q : Rat} {a b : Nat} (hp : Lt p a) (hq : Lt q b) : Lt (p - q) (a + b + 1) := by
  rw [sub_eq]
  refine lt_divInt (mul_den_ne p q) (pow_sub_lt (pow_mul_lt hp.1 (den_lt hq)) ?_) (pow_le (pow_mul_lt (den_lt hp) (den_lt hq)) (by omega))
  rw [Nat.add_comm a b]
  exact pow_mul_lt hq.1 (den_lt hp)
theorem lt_mul {p q : Rat} {a b : Nat} (hp : Lt p a) (hq : Lt q b) : Lt (p * q) (a + b) := by
  rw [mul_eq]
  exact lt_divInt (mul_den_ne p q) (pow_mul_lt hp.1 hq.1) (pow_mul_lt (den_lt hp) (den_lt hq))
theorem lt_neg {p : Rat} {a : Nat} (hp : Lt p a) : Lt (-p) a := ⟨by show (-p.num).natAbs < _; rw [Int.natAbs_neg]; exact hp.1, hp.2⟩
theorem lt_div {p q : Rat} {a b : Nat} (hp : Lt p a) (hq : Lt q b) (h : q ≠ 0) : Lt (p / q) (a + b) := by
  rw [div_eq]
  have hn : q.num ≠ 0 := fun z => h (Rat.num_eq_zero.mp z)
  exact lt_divInt (Int.mul_ne_zero (den_ne p) hn) (pow_mul_lt hp.1 (den_lt hq)) (pow_mul_lt (den_lt hp) hq.1)
theorem lt_int {n : Int} {a : Nat} (h : n.natAbs < 2 ^ a) (h1 : 0 < a) : Lt (n : Rat) a := ⟨h, by
  show 1 < 2 ^ a
  exact Nat.one_lt_two_pow (by omega)⟩
theorem num_int (n : Int) : ((n : Rat)).num = n := rfl
theorem den_int (n : Int) : ((n : Rat)).den = 1 := rfl
theorem int_eq (n : Int) : (n : Rat) = Rat.divInt n 1 := by
  have h := Rat.num_divInt_den (n : Rat)
  exact h.symm
theorem lt_iff (p q : Rat) : p < q ↔ p.num * q.den < q.num * p.den := Rat.lt_iff p q
theorem le_iff (p q : Rat) : p ≤ q ↔ p.num * q.den ≤ q.num * p.den := Rat.le_iff p q
theorem eq_iff (p q : Rat) : p = q ↔ (p.num = q.num ∧ p.den = q.den) := ⟨fun h => by rw [h]; exact ⟨rfl, rfl⟩, fun h => Rat.ext h.1 h.2⟩
end RM
/-! Texts of whole numbers and of quotients, without any program. -/
namespace TM
open PySem L2 TL
/-- the text of a whole number -/
abbrev sT (i : Int) : Str := Str.ofString (toString i)
theorem sT_nat (n : Nat) : tl (sT (n : Int)) = numL n := tl_num n
theorem sT_neg (m : Nat) : tl (sT (Int.negSucc m)) = 45 :: numL (m + 1) := by
  have e : toString (Int.negSucc m) = "-" ++ Nat.repr (m + 1) := rfl
  show tl (Str.ofString (toString (Int.negSucc m))) = _
  rw [e, tl_ofString, String.toList_append, List.map_append]
  have e2 : ("-" : String).toList.map Char.toNat = [45] := by decide
  rw [e2, Nat.toList_repr]
  rfl
theorem sT_free {c : Nat} (h : c ≠ 45 ∧ (c < 48 ∨ 57 < c)) (i : Int) : c ∉ tl (sT i) := PyProof.Rows.int_text_free' c h i
theorem sT_inj {i j : Int} (h : sT i = sT j) : i = j := by
  have e := congrArg tl h
  have no : ∀ (n m : Nat), numL n ≠ 45 :: numL m := fun n m z => by
    have := numL_digits n 45 (by rw [z]; exact List.mem_cons_self)
    omega
  cases i with
  | ofNat n =>
    cases j with
    | ofNat m =>
      have e' : numL n = numL m := by rw [← sT_nat, ← sT_nat]; exact e
      rw [numL_inj e']
    | negSucc m =>
      have e' : numL n = 45 :: numL (m + 1) := by rw [← sT_nat, ← sT_neg]; exact e
      exact absurd e' (no _ _)
  | negSucc n =>
    cases j with
    | ofNat m =>
      have e' : numL m = 45 :: numL (n + 1) := by rw [← sT_nat, ← sT_neg]; exact e.symm
      exact absurd e' (no _ _)
    | negSucc m =>
      have e' : 45 :: numL (n + 1) = 45 :: numL (m + 1) := by rw [← sT_neg, ← sT_neg]; exact e
      have e2 := numL_inj (List.cons.inj e').2
      have e3 : n = m := by omega
      rw [e3]
theorem sT_len {i : Int} {k : Nat} (hk : 0 < k) (h : i.natAbs < 10 ^ k) : (sT i).length ≤ k + 1 := by
  rw [PySem.ofString_length]
  exact PySem.int_text_length_le10 hk h
/-- the digits of a word -/
def dz (l : List Nat) : List Nat := if l.take 1 = [45] then l.drop 1 else l
def okB (l : List Nat) : Bool := !(dz l).isEmpty && (dz l).all fun c => decide (48 ≤ c) && decide (c ≤ 57)
theorem ok_all {l : List Nat} (h : okB l = true) : dz l ≠ [] ∧ NumText.AllDigits (dz l) := by
  unfold okB at h
  simp only [Bool.and_eq_true, Bool.not_eq_true', List.isEmpty_eq_false_iff, List.all_eq_true, decide_eq_true_eq] at h
  exact ⟨h.1, fun c hc => h.2 c hc⟩
theorem all_ok {l : List Nat} (h1 : dz l ≠ []) (h2 : NumText.AllDigits (dz l)) : okB l = true := by
  unfold okB
  simp only [Bool.and_eq_true, Bool.not_eq_true', List.isEmpty_eq_false_iff, List.all_eq_true, decide_eq_true_eq]
  exact ⟨h1, fun c hc => h2 c hc⟩
theorem val_lt : ∀ (l : List Nat) (a k : Nat), NumText.AllDigits l → a < 10 ^ k → l.foldl (fun acc c => acc * 10 + (c - 48)) a < 10 ^ (k + l.length)
  | [], a, k, _, h => h
  | c :: l, a, k, hd, h => by
    have hc := hd c List.mem_cons_self
    have e : 10 ^ (k + 1) = 10 ^ k * 10 := Nat.pow_succ ..
    have := val_lt l (a * 10 + (c - 48)) (k + 1) (fun d hd' => hd d (List.mem_cons_of_mem _ hd')) (by omega)
    rw [List.length_cons, show k + (l.length + 1) = k + 1 + l.length by omega]
    exact this
theorem ten_two (n : Nat) : 10 ^ n ≤ 2 ^ (4 * n) := by
  rw [Nat.pow_mul]
  exact Nat.pow_le_pow_left (by decide) n
theorem ok_int {w : Str} (h : okB (tl w) = true) (hl : w.length ≤ 400) : ∃ n, intText? w = some n ∧ n.natAbs < 2 ^ 1604 := by
  obtain ⟨h1, h2⟩ := ok_all h
  have hl2 : (tl w).length ≤ 400 := by rw [← len_tl]; exact hl
  have fin : ∀ (d : List Nat), NumText.AllDigits d → d.length ≤ 400 → NumText.digitsVal d < 2 ^ 1604 := fun d hd hdl => by
    have := val_lt d 0 0 hd (by decide)
    have e2 : 10 ^ (0 + d.length) ≤ 2 ^ (4 * (0 + d.length)) := ten_two _
    have e3 : (2 : Nat) ^ (4 * (0 + d.length)) ≤ 2 ^ 1604 := Nat.pow_le_pow_right (by decide) (by omega)
    exact Nat.lt_of_lt_of_le this (Nat.le_trans e2 e3)
  unfold dz at h1 h2
  split at h1
  · rename_i hc
    rw [if_pos hc] at h2
    have e : tl w = 45 :: (tl w).drop 1 := by
      have := List.take_append_drop 1 (tl w)
      rw [hc] at this
      exact this.symm
    refine ⟨_, intText_neg e h2 h1 (by omega), ?_⟩
    rw [Int.natAbs_neg, Int.natAbs_natCast]
    exact fin _ h2 (by rw [List.length_drop]; omega)
  · rename_i hc
    rw [if_neg hc] at h2
    refine ⟨_, intText_digits h2 h1 (by omega), ?_⟩
    rw [Int.natAbs_natCast]
    exact fin _ h2 hl2
theorem log_lt {n : Int} (h : n.natAbs < 2 ^ 1604) : n.natAbs.log2 < 1920 := PySem.Flt.log2_lt_of (by decide) (Nat.lt_of_lt_of_le h (Nat.pow_le_pow_right (by decide) (by decide)))
/-- what a word tells -/
def wz (w : Str) : Option Int := if okB (tl w) = true then (match intText? w with | some n => if sT n = w then some n else none | none => none) else none
theorem wz_some {w : Str} {n : Int} (h : wz w = some n) : sT n = w ∧ intText? w = some n := by
  unfold wz at h
  split at h
  · split at h
    · rename_i m e
      split at h
      · rename_i e2
        cases h
        exact ⟨e2, e⟩
      · cases h
    · cases h
  · cases h
theorem dz_free {l : List Nat} (h : l.take 1 ≠ [45]) : dz l = l := if_neg h
theorem wz_sT {n : Int} (h : (sT n).length ≤ 400) : wz (sT n) = some n := by
  have key : okB (tl (sT n)) = true ∧ intText? (sT n) = some n := by
    cases n with
    | ofNat m =>
      have e : tl (sT (Int.ofNat m)) = numL m := sT_nat m
      have hne : (numL m).take 1 ≠ [45] := fun z => by
        have hm : 45 ∈ numL m := List.mem_of_mem_take (i := 1) (by rw [z]; exact List.mem_cons_self)
        have := numL_digits m 45 hm
        omega
      refine ⟨all_ok (by rw [e, dz_free hne]; exact numL_ne m) (by rw [e, dz_free hne]; exact numL_digits m), ?_⟩
      have hl : (numL m).length ≤ 4300 := by rw [← e, ← len_tl]; omega
      exact int_num hl
    | negSucc m =>
      have e := sT_neg m
      have ed : dz (tl (sT (Int.negSucc m))) = numL (m + 1) := by
        rw [e]
        exact if_pos rfl
      refine ⟨all_ok (by rw [ed]; exact numL_ne _) (by rw [ed]; exact numL_digits _), ?_⟩
      have z := intText_neg e (numL_digits _) (numL_ne _) (by omega)
      rw [numL_val] at z
      exact z
  unfold wz
  rw [if_pos key.1, key.2]
  exact if_pos rfl
/-! ### cut at / -/
def sl : Str := ⟨#[47]⟩
theorem join_spl (c : Nat) : ∀ (l acc : List Nat), joinL [c] (spl [c] 0 acc l) = acc ++ l
  | [], acc => by rw [spl_nil]; show acc = _; rw [List.append_nil]
  | d :: l, acc => by
    by_cases h : d = c
    · subst h
      have hp : pre [d] (d :: l) = true := pre_self [d] l
      rw [spl_hit hp]
      have ih := join_spl d l []
      show joinL [d] (acc :: spl [d] 0 [] l) = _
      cases hs : spl [d] 0 [] l with
      | nil =>
        exfalso
        have : ∀ (l acc : List Nat), spl [d] 0 acc l ≠ [] := by
          intro l
          induction l with
          | nil => intro acc; rw [spl_nil]; simp
          | cons x l ih =>
            intro acc
            by_cases hx : pre [d] (x :: l) = true
            · rw [spl_hit hx]; simp
            · rw [spl_miss (by simpa using hx)]; exact ih _
        exact this l [] hs
      | cons p r =>
        rw [hs] at ih
        show acc ++ ([d] ++ joinL [d] (p :: r)) = _
        rw [ih]
        rfl
    · rw [spl_miss (pre_of_head [] l h), join_spl c l (acc ++ [d])]
      simp
/-- the words of a text -/
def words (s : Str) : List Str := Txt.split s sl
theorem words_tl (s : Str) : (words s).map tl = spl [47] 0 [] (tl s) := split_spl s sl (by decide) (kind_ok (by decide +kernel))
theorem words_one {s w : Str} (h : words s = [w]) : w = s := by
  have e := join_spl 47 (tl s) []
  rw [← words_tl, h] at e
  exact ext_tl e
theorem words_two {s w v : Str} (h : words s = [w, v]) : s = w ++ sl ++ v := by
  have e := join_spl 47 (tl s) []
  rw [← words_tl, h] at e
  refine ext_tl ?_
  rw [tl_append, tl_append]
  show tl s = tl w ++ [47] ++ tl v
  have e' : tl w ++ ([47] ++ tl v) = tl s := e
  rw [← e', List.append_assoc]
theorem words_len (s : Str) : ∀ w ∈ words s, w.length ≤ s.length := fun w hw => by
  have hm : tl w ∈ spl [47] 0 [] (tl s) := by rw [← words_tl]; exact List.mem_map_of_mem hw
  have e := join_spl 47 (tl s) []
  have sub : ∀ (ps : List (List Nat)), ∀ p ∈ ps, p.length ≤ (joinL [47] ps).length := by
    intro ps
    induction ps with
    | nil => intro p hp; cases hp
    | cons q r ih =>
      intro p hp
      cases r with
      | nil =>
        simp only [List.mem_singleton] at hp
        rw [hp]
        exact Nat.le_refl _
      | cons q2 r =>
        show p.length ≤ (q ++ ([47] ++ joinL [47] (q2 :: r))).length
        rw [List.length_append, List.length_append]
        rcases List.mem_cons.mp hp with rfl | hp
        · omega
        · have := ih p hp
          omega
  have := sub _ _ hm
  rw [e] at this
  rw [len_tl, len_tl]
  exact this
theorem words_free {s : Str} (h : 47 ∉ tl s) : words s = [s] := by
  refine map_tl_inj ?_
  rw [words_tl, spl_last1 h]
  rfl
theorem words_app {w v : Str} (h1 : 47 ∉ tl w) (h2 : 47 ∉ tl v) : words (w ++ sl ++ v) = [w, v] := by
  refine map_tl_inj ?_
  rw [words_tl, tl_append, tl_append]
  show spl [47] 0 [] (tl w ++ [47] ++ tl v) = [tl w, tl v]
  rw [List.append_assoc]
  have := spl_part1 (s := 47) (S := []) (p := tl w) (rest := tl v) (acc := []) h1
  rw [show ([47] : List Nat) ++ tl v = [47] ++ tl v from rfl]
  rw [this, spl_last1 h2]
  rfl
/-! ### texts of quotients -/
def tx (q : Rat) : Str := if q.den = 1 then sT q.num else sT q.num ++ sl ++ sT q.den
/-- what reading a text gives -/
def rd (s : Str) : Option Rat := match (words s).map wz with
  | [some a] => some (a : Rat)
  | [some a, some b] => if b = 0 then none else if tx (Rat.divInt a b) = s then some (Rat.divInt a b) else none
  | _ => none
/-- what is due, written with pairs -/
def due (s : Str) : Option (Int × Int) := match (words s).map wz with
  | [some a] => some (a, 1)
  | [some a, some b] => if 1 < b ∧ (Rat.divInt a b).num = a ∧ ((Rat.divInt a b).den : Int) = b then some (a, b) else none
  | _ => none
theorem f47 (i : Int) : 47 ∉ tl (sT i) := sT_free (by decide) i
theorem cut_inj {a b c d : Str} (ha : 47 ∉ tl a) (hb : 47 ∉ tl b) (hc : 47 ∉ tl c) (hd : 47 ∉ tl d) (h : a ++ sl ++ b = c ++ sl ++ d) : a = c ∧ b = d := by
  have e := words_app ha hb
  rw [h, words_app hc hd] at e
  cases e
  exact ⟨rfl, rfl⟩
theorem rd_due (s : Str) : due s = (rd s).map fun q => (q.num, (q.den : Int)) := by
  unfold due rd
  generalize hw : (words s).map wz = ws
  match ws, hw with
  | [], _ => rfl
  | [none], _ => rfl
  | [some a], _ => rfl
  | [none, _], _ => rfl
  | [some a, none], _ => rfl
  | [some a, some b], hw =>
    show (if _ then _ else _) = Option.map _ (if b = 0 then none else if tx (Rat.divInt a b) = s then _ else none)
    obtain ⟨w, v, hws, e1, e2⟩ : ∃ w v, words s = [w, v] ∧ wz w = some a ∧ wz v = some b := by
      generalize words s = l at hw
      match l, hw with
      | [w, v], hw =>
        simp only [List.map_cons, List.map_nil, List.cons.injEq, and_true] at hw
        exact ⟨w, v, rfl, hw.1, hw.2⟩
      | [], hw => exact nomatch hw
      | [_], hw => exact nomatch (List.cons.inj hw).2
      | _ :: _ :: _ :: _, hw => exact nomatch (List.cons.inj (List.cons.inj hw).2).2
    have es := words_two hws
    rw [← (wz_some e1).1, ← (wz_some e2).1] at es
    by_cases hb : b = 0
    · rw [if_pos hb, if_neg (by omega)]
      rfl
    rw [if_neg hb]
    have hden := (Rat.divInt a b).den_nz
    by_cases ht : tx (Rat.divInt a b) = s
    · rw [if_pos ht]
      unfold tx at ht
      split at ht
      · rename_i h1
        exfalso
        have z := f47 (Rat.divInt a b).num
        rw [ht, es, tl_append, tl_append] at z
        exact z (List.mem_append_left _ (List.mem_append_right _ (by decide)))
      · rename_i h1
        rw [es] at ht
        obtain ⟨g1, g2⟩ := cut_inj (f47 _) (f47 _) (f47 _) (f47 _) ht
        have g1 := sT_inj g1
        have g2 := sT_inj g2
        rw [if_pos ⟨by omega, g1, g2⟩]
        show some (a, b) = some (_, _)
        rw [g1, g2]
    · rw [if_neg ht]
      refine if_neg fun z => ht ?_
      obtain ⟨z1, z2, z3⟩ := z
      unfold tx
      rw [if_neg (by omega), z2, z3, es]
  | none :: _ :: _ :: _, _ => rfl
  | some _ :: none :: _ :: _, _ => rfl
  | some _ :: some _ :: _ :: _, _ => rfl
theorem rd_tx {q : Rat} (h1 : (sT q.num).length ≤ 400) (h2 : (sT q.den).length ≤ 400) : rd (tx q) = some q := by
  unfold rd
  by_cases h : q.den = 1
  · have e : tx q = sT q.num := if_pos h
    rw [e, words_free (f47 _)]
    show (match [wz (sT q.num)] with | [some a] => some (a : Rat) | [some a, some b] => _ | _ => _) = _
    rw [wz_sT h1]
    show some ((q.num : Int) : Rat) = some q
    congr 1
    exact Rat.ext rfl (by rw [h]; rfl)
  · have e : tx q = sT q.num ++ sl ++ sT q.den := if_neg h
    rw [e, words_app (f47 _) (f47 _)]
    show (match [wz (sT q.num), wz (sT q.den)] with | [some a] => some (a : Rat) | [some a, some b] => _ | _ => _) = _
    rw [wz_sT h1, wz_sT h2]
    show (if (q.den : Int) = 0 then none else if tx (Rat.divInt q.num q.den) = _ then some (Rat.divInt q.num q.den) else none) = some q
    rw [if_neg (RM.den_ne q), Rat.num_divInt_den, if_pos e]
end TM
namespace LW
open PySem PySem.Spec PyProof.Rows L2
def top (i : Nat) : Stmt := PySem.Challenge.pw_paystreams_k03_texts_of_ratios.main.body.getD i (.Pass ⟨0, 0, 0, 0⟩)
abbrev s__wall : Stmt := top 0
abbrev s_ByZero___init__ : Stmt := inClass (top 3) 0
abbrev s_BadNumber___init__ : Stmt := inClass (top 4) 0
abbrev s_BadText___init__ : Stmt := inClass (top 5) 0
abbrev s_is_integer : Stmt := top 7
abbrev s_divisor_of : Stmt := top 8
abbrev s_parts : Stmt := top 9
abbrev s_checked : Stmt := top 10
abbrev s_Ratio___init__ : Stmt := inClass (top 11) 0
abbrev s_Ratio_read : Stmt := inClass (top 11) 1
abbrev s_Ratio___add__ : Stmt := inClass (top 11) 2
abbrev s_Ratio___sub__ : Stmt := inClass (top 11) 3
abbrev s_Ratio___mul__ : Stmt := inClass (top 11) 4
abbrev s_Ratio___neg__ : Stmt := inClass (top 11) 5
abbrev s_Ratio___eq__ : Stmt := inClass (top 11) 6
abbrev s_Ratio___lt__ : Stmt := inClass (top 11) 7
abbrev s_Ratio___le__ : Stmt := inClass (top 11) 8
abbrev s_Ratio_over : Stmt := inClass (top 11) 9
abbrev s_Ratio_text : Stmt := inClass (top 11) 10
abbrev s_integer_of : Stmt := top 12
abbrev s__law_cell : Stmt := top 14
abbrev s__law_box : Stmt := top 15
abbrev s__law_take : Stmt := top 16
abbrev s__law_frac : Stmt := top 17
abbrev s__law_plus : Stmt := top 18
abbrev s__law_times : Stmt := top 19
abbrev s__law_minus : Stmt := top 20
abbrev s__law_less : Stmt := top 21
abbrev s__law_whole : Stmt := top 22
abbrev s__law_due : Stmt := top 23
abbrev s__law_read : Stmt := top 24
abbrev s_law : Stmt := top 25
def d__wall : He5.DefA := ⟨fun K => He.ga K "_wall", "_wall", "_wall", defArgs s__wall, defBody s__wall, defScope s__wall, [], []⟩
def d_ByZero___init__ : He5.DefA := ⟨fun K => He.ma K (He.ga K "ByZero") "__init__", "__init__", "ByZero.__init__", defArgs s_ByZero___init__, defBody s_ByZero___init__, defScope s_ByZero___init__, [], []⟩
def d_BadNumber___init__ : He5.DefA := ⟨fun K => He.ma K (He.ga K "BadNumber") "__init__", "__init__", "BadNumber.__init__", defArgs s_BadNumber___init__, defBody s_BadNumber___init__, defScope s_BadNumber___init__, [], []⟩
def d_BadText___init__ : He5.DefA := ⟨fun K => He.ma K (He.ga K "BadText") "__init__", "__init__", "BadText.__init__", defArgs s_BadText___init__, defBody s_BadText___init__, defScope s_BadText___init__, [], []⟩
def d_is_integer : He5.DefA := ⟨fun K => He.ga K "is_integer", "is_integer", "is_integer", defArgs s_is_integer, defBody s_is_integer, defScope s_is_integer, [], []⟩
def d_divisor_of : He5.DefA := ⟨fun K => He.ga K "divisor_of", "divisor_of", "divisor_of", defArgs s_divisor_of, defBody s_divisor_of, defScope s_divisor_of, [], []⟩
def d_parts : He5.DefA := ⟨fun K => He.ga K "parts", "parts", "parts", defArgs s_parts, defBody s_parts, defScope s_parts, [], []⟩
def d_checked : He5.DefA := ⟨fun K => He.ga K "checked", "checked", "checked", defArgs s_checked, defBody s_checked, defScope s_checked, [], []⟩
def d_Ratio___init__ : He5.DefA := ⟨fun K => He.ma K (He.ga K "Ratio") "__init__", "__init__", "Ratio.__init__", defArgs s_Ratio___init__, defBody s_Ratio___init__, defScope s_Ratio___init__, [.int 1], []⟩
def d_Ratio_read : He5.DefA := ⟨fun K => He5.wf K (He.ga K "Ratio") "classmethod" "read", "read", "Ratio.read", defArgs s_Ratio_read, defBody s_Ratio_read, defScope s_Ratio_read, [], []⟩
def d_Ratio___add__ : He5.DefA := ⟨fun K => He.ma K (He.ga K "Ratio") "__add__", "__add__", "Ratio.__add__", defArgs s_Ratio___add__, defBody s_Ratio___add__, defScope s_Ratio___add__, [], []⟩
def d_Ratio___sub__ : He5.DefA := ⟨fun K => He.ma K (He.ga K "Ratio") "__sub__", "__sub__", "Ratio.__sub__", defArgs s_Ratio___sub__, defBody s_Ratio___sub__, defScope s_Ratio___sub__, [], []⟩
def d_Ratio___mul__ : He5.DefA := ⟨fun K => He.ma K (He.ga K "Ratio") "__mul__", "__mul__", "Ratio.__mul__", defArgs s_Ratio___mul__, defBody s_Ratio___mul__, defScope s_Ratio___mul__, [], []⟩
def d_Ratio___neg__ : He5.DefA := ⟨fun K => He.ma K (He.ga K "Ratio") "__neg__", "__neg__", "Ratio.__neg__", defArgs s_Ratio___neg__, defBody s_Ratio___neg__, defScope s_Ratio___neg__, [], []⟩
def d_Ratio___eq__ : He5.DefA := ⟨fun K => He.ma K (He.ga K "Ratio") "__eq__", "__eq__", "Ratio.__eq__", defArgs s_Ratio___eq__, defBody s_Ratio___eq__, defScope s_Ratio___eq__, [], []⟩
def d_Ratio___lt__ : He5.DefA := ⟨fun K => He.ma K (He.ga K "Ratio") "__lt__", "__lt__", "Ratio.__lt__", defArgs s_Ratio___lt__, defBody s_Ratio___lt__, defScope s_Ratio___lt__, [], []⟩
def d_Ratio___le__ : He5.DefA := ⟨fun K => He.ma K (He.ga K "Ratio") "__le__", "__le__", "Ratio.__le__", defArgs s_Ratio___le__, defBody s_Ratio___le__, defScope s_Ratio___le__, [], []⟩
def d_Ratio_over : He5.DefA := ⟨fun K => He.ma K (He.ga K "Ratio") "over", "over", "Ratio.over", defArgs s_Ratio_over, defBody s_Ratio_over, defScope s_Ratio_over, [], []⟩
def d_Ratio_text : He5.DefA := ⟨fun K => He.ma K (He.ga K "Ratio") "text", "text", "Ratio.text", defArgs s_Ratio_text, defBody s_Ratio_text, defScope s_Ratio_text, [], []⟩
def d_integer_of : He5.DefA := ⟨fun K => He.ga K "integer_of", "integer_of", "integer_of", defArgs s_integer_of, defBody s_integer_of, defScope s_integer_of, [], []⟩
def d__law_cell : He5.DefA := ⟨fun K => He.ga K "_law_cell", "_law_cell", "_law_cell", defArgs s__law_cell, defBody s__law_cell, defScope s__law_cell, [], []⟩
def d__law_box : He5.DefA := ⟨fun K => He.ga K "_law_box", "_law_box", "_law_box", defArgs s__law_box, defBody s__law_box, defScope s__law_box, [], []⟩
def d__law_take : He5.DefA := ⟨fun K => He.ga K "_law_take", "_law_take", "_law_take", defArgs s__law_take, defBody s__law_take, defScope s__law_take, [], []⟩
def d__law_frac : He5.DefA := ⟨fun K => He.ga K "_law_frac", "_law_frac", "_law_frac", defArgs s__law_frac, defBody s__law_frac, defScope s__law_frac, [], []⟩
def d__law_plus : He5.DefA := ⟨fun K => He.ga K "_law_plus", "_law_plus", "_law_plus", defArgs s__law_plus, defBody s__law_plus, defScope s__law_plus, [], []⟩
def d__law_times : He5.DefA := ⟨fun K => He.ga K "_law_times", "_law_times", "_law_times", defArgs s__law_times, defBody s__law_times, defScope s__law_times, [], []⟩
def d__law_minus : He5.DefA := ⟨fun K => He.ga K "_law_minus", "_law_minus", "_law_minus", defArgs s__law_minus, defBody s__law_minus, defScope s__law_minus, [], []⟩
def d__law_less : He5.DefA := ⟨fun K => He.ga K "_law_less", "_law_less", "_law_less", defArgs s__law_less, defBody s__law_less, defScope s__law_less, [], []⟩
def d__law_whole : He5.DefA := ⟨fun K => He.ga K "_law_whole", "_law_whole", "_law_whole", defArgs s__law_whole, defBody s__law_whole, defScope s__law_whole, [], []⟩
def d__law_due : He5.DefA := ⟨fun K => He.ga K "_law_due", "_law_due", "_law_due", defArgs s__law_due, defBody s__law_due, defScope s__law_due, [], []⟩
def d__law_read : He5.DefA := ⟨fun K => He.ga K "_law_read", "_law_read", "_law_read", defArgs s__law_read, defBody s__law_read, defScope s__law_read, [], []⟩
def d_law : He5.DefA := ⟨fun K => He.ga K "law", "law", "law", defArgs s_law, defBody s_law, defScope s_law, [], []⟩
def fn : List He5.DefA := [d__wall, d_ByZero___init__, d_BadNumber___init__, d_BadText___init__, d_is_integer, d_divisor_of, d_parts, d_checked, d_Ratio___init__, d_Ratio_read, d_Ratio___add__, d_Ratio___sub__, d_Ratio___mul__, d_Ratio___neg__, d_Ratio___eq__, d_Ratio___lt__, d_Ratio___le__, d_Ratio_over, d_Ratio_text, d_integer_of, d__law_cell, d__law_box, d__law_take, d__law_frac, d__law_plus, d__law_times, d__law_minus, d__law_less, d__law_whole, d__law_due, d__law_read, d_law]
def nm0 : List PySem.Str := ["_wall", "StreamError", "ByZero", "BadNumber", "BadText", "is_integer", "divisor_of", "parts", "checked", "Ratio", "integer_of", "_law_cell", "_law_box", "_law_take", "_law_frac", "_law_plus", "_law_times", "_law_minus", "_law_less", "_law_whole", "_law_due", "_law_read"]
def nms : List PySem.Str := nm0
def fa0 : List PH.Ck := [PH.ckGlo "_wall", PH.ckGlo "StreamError", PH.ckGlo "ByZero", PH.ckGlo "BadNumber", PH.ckGlo "BadText", PH.ckGlo "is_integer", PH.ckGlo "divisor_of", PH.ckGlo "parts", PH.ckGlo "checked", PH.ckGlo "Ratio", PH.ckGlo "integer_of", PH.ckGlo "_law_cell", PH.ckGlo "_law_box", PH.ckGlo "_law_take", PH.ckGlo "_law_frac", PH.ckGlo "_law_plus", PH.ckGlo "_law_times", PH.ckGlo "_law_minus", PH.ckGlo "_law_less", PH.ckGlo "_law_whole", PH.ckGlo "_law_due", PH.ckGlo "_law_read", PH.ckGlo "law", PH.ckFree "abs", PH.ckFree "all", PH.ckFree "bool", PH.ckFree "int", PH.ckFree "isinstance", PH.ckFree "len", PH.ckFree "max", PH.ckFree "min", PH.ckFree "range", PH.ckFree "str", PH.ckOex "ByZero", PH.ckDef "ByZero" "__init__", PH.ckExm "ByZero" "ByZero" true, PH.ckOex "BadNumber", PH.ckDef "BadNumber" "__init__", PH.ckXf "BadNumber", PH.ckNoat "BadNumber" "given"]
def fa1 : List PH.Ck := [PH.ckExm "BadNumber" "BadNumber" true, PH.ckOex "BadText", PH.ckDef "BadText" "__init__", PH.ckExm "BadText" "BadText" true, PH.ckExm "ByZero" "BadText" false, PH.ckExm "BadNumber" "BadText" false, PH.ckSin "StreamError", PH.ckCls "Ratio", PH.ckMkr "Ratio", PH.ckIsi "Ratio", PH.ckCm "Ratio" "read", PH.ckOwnB "Ratio" .Add "__add__", PH.ckOwnB "Ratio" .Sub "__sub__", PH.ckOwnB "Ratio" .Mult "__mul__", PH.ckDef "Ratio" "__neg__", PH.ckDef "Ratio" "__eq__", PH.ckNe "Ratio", PH.ckDef "Ratio" "__lt__", PH.ckDef "Ratio" "__le__", PH.ckMeth "Ratio" "over", PH.ckMeth "Ratio" "text", PH.ckNoat "Ratio" "top", PH.ckNoat "Ratio" "bottom", PH.ckKitO "Ratio" "Ratio" true, PH.ckKitT "Ratio" "int" false, PH.ckKitB "int" "Ratio" false, PH.ckNf "Ratio" "int", PH.ckKitT "Ratio" "bool" false, PH.ckKitB "bool" "Ratio" false, PH.ckNf "Ratio" "bool", PH.ckKitT "Ratio" "str" false, PH.ckKitB "str" "Ratio" false, PH.ckNf "Ratio" "str", PH.ckKitB "NoneType" "Ratio" false, PH.ckNf "Ratio" "NoneType", PH.ckKitT "Ratio" "list" false, PH.ckKitB "list" "Ratio" false, PH.ckNf "Ratio" "list", PH.ckKitT "Ratio" "tuple" false, PH.ckKitB "tuple" "Ratio" false]
def fa2 : List PH.Ck := [PH.ckNf "Ratio" "tuple", PH.ckKitT "Ratio" "dict" false, PH.ckKitB "dict" "Ratio" false, PH.ckNf "Ratio" "dict"]
def fa : List PH.Ck := fa0 ++ fa1 ++ fa2
structure Tx (K : PySem.W.Frag) (mg : Str → Option Value) : Prop where
  g__wall : mg "_wall" = some (.ref (He.ga K "_wall"))
  g_StreamError : mg "StreamError" = some (.ref (He.ga K "StreamError"))
  g_ByZero : mg "ByZero" = some (.ref (He.ga K "ByZero"))
  g_BadNumber : mg "BadNumber" = some (.ref (He.ga K "BadNumber"))
  g_BadText : mg "BadText" = some (.ref (He.ga K "BadText"))
  g_is_integer : mg "is_integer" = some (.ref (He.ga K "is_integer"))
  g_divisor_of : mg "divisor_of" = some (.ref (He.ga K "divisor_of"))
  g_parts : mg "parts" = some (.ref (He.ga K "parts"))
  g_checked : mg "checked" = some (.ref (He.ga K "checked"))
  g_Ratio : mg "Ratio" = some (.ref (He.ga K "Ratio"))
  g_integer_of : mg "integer_of" = some (.ref (He.ga K "integer_of"))
  g__law_cell : mg "_law_cell" = some (.ref (He.ga K "_law_cell"))
  g__law_box : mg "_law_box" = some (.ref (He.ga K "_law_box"))
  g__law_take : mg "_law_take" = some (.ref (He.ga K "_law_take"))
  g__law_frac : mg "_law_frac" = some (.ref (He.ga K "_law_frac"))
  g__law_plus : mg "_law_plus" = some (.ref (He.ga K "_law_plus"))
  g__law_times : mg "_law_times" = some (.ref (He.ga K "_law_times"))
  g__law_minus : mg "_law_minus" = some (.ref (He.ga K "_law_minus"))
  g__law_less : mg "_law_less" = some (.ref (He.ga K "_law_less"))
  g__law_whole : mg "_law_whole" = some (.ref (He.ga K "_law_whole"))
  g__law_due : mg "_law_due" = some (.ref (He.ga K "_law_due"))
  g__law_read : mg "_law_read" = some (.ref (He.ga K "_law_read"))
  g_law : mg "law" = some (.ref (He.ga K "law"))
  b_abs : mg "abs" = none
  b_all : mg "all" = none
  b_bool : mg "bool" = none
  b_int : mg "int" = none
  b_isinstance : mg "isinstance" = none
  b_len : mg "len" = none
  b_max : mg "max" = none
  b_min : mg "min" = none
  b_range : mg "range" = none
  b_str : mg "str" = none
  x_ByZero : OexC K (He.ga K "ByZero")
  xi_ByZero : PH.Df K (He.ga K "ByZero") "__init__"
  xm_ByZero : PySem.W.exmOne K (.ref (He.ga K "ByZero")) (.ref (He.ga K "ByZero")) = some true
  x_BadNumber : OexC K (He.ga K "BadNumber")
  xi_BadNumber : PH.Df K (He.ga K "BadNumber") "__init__"
  xf_BadNumber : XfC K (He.ga K "BadNumber")
  xn_BadNumber : PySem.W.findIn K (.ref (He.ga K "BadNumber")) "given" = some none
  xm_BadNumber : PySem.W.exmOne K (.ref (He.ga K "BadNumber")) (.ref (He.ga K "BadNumber")) = some true
  x_BadText : OexC K (He.ga K "BadText")
  xi_BadText : PH.Df K (He.ga K "BadText") "__init__"
  xm_BadText : PySem.W.exmOne K (.ref (He.ga K "BadText")) (.ref (He.ga K "BadText")) = some true
  xm_ByZero_BadText : PySem.W.exmOne K (.ref (He.ga K "ByZero")) (.ref (He.ga K "BadText")) = some false
  xm_BadNumber_BadText : PySem.W.exmOne K (.ref (He.ga K "BadNumber")) (.ref (He.ga K "BadText")) = some false
  sin : ClX.CRead K (He.ga K "StreamError") (.type "type") ∧ PySem.W.findCls K (.ref (He.ga K "StreamError")) (.type "type") "__init__" = some (.val (.builtin "ValueError.__init__"))
  c_Ratio : Cls K (He.ga K "Ratio")
  mk_Ratio : Mk K (He.ga K "Ratio") (He.ma K (He.ga K "Ratio") "__init__")
  isi_Ratio : PH.Isi K (He.ga K "Ratio")
  cm_Ratio_read : ClX.CRead K (He.ga K "Ratio") (.type "type") ∧ ClX.CMet K (He.ga K "Ratio") (.type "type") "read" (He.ma K (He.ga K "Ratio") "read") (He5.wf K (He.ga K "Ratio") "classmethod" "read")
  o_Ratio_add : PR.OwnB K (He.ga K "Ratio") (He.ma K (He.ga K "Ratio") "__add__") .Add
  o_Ratio_sub : PR.OwnB K (He.ga K "Ratio") (He.ma K (He.ga K "Ratio") "__sub__") .Sub
  o_Ratio_mul : PR.OwnB K (He.ga K "Ratio") (He.ma K (He.ga K "Ratio") "__mul__") .Mult
  d_Ratio_neg : PH.Df K (He.ga K "Ratio") "__neg__"
  d_Ratio_eq : PH.Df K (He.ga K "Ratio") "__eq__"
  ne_Ratio : PySem.W.findIn K (.ref (He.ga K "Ratio")) "__ne__" = some (some (.builtin "object.__ne__"))
  d_Ratio_lt : PH.Df K (He.ga K "Ratio") "__lt__"
  d_Ratio_le : PH.Df K (He.ga K "Ratio") "__le__"
  m_Ratio_over : Meth K (He.ga K "Ratio") "over" (He.ma K (He.ga K "Ratio") "over")
  m_Ratio_text : Meth K (He.ga K "Ratio") "text" (He.ma K (He.ga K "Ratio") "text")
  n_Ratio_top : NoAttr K (He.ga K "Ratio") "top"
  n_Ratio_bottom : NoAttr K (He.ga K "Ratio") "bottom"
  k_Ratio_Ratio : PySem.W.kitOne K (.ref (He.ga K "Ratio")) (.ref (He.ga K "Ratio")) = some true
  kt_Ratio_int : PySem.W.kitOne K (.ref (He.ga K "Ratio")) (.type "int") = some false
  kb_int_Ratio : PySem.W.kitOne K (.type "int") (.ref (He.ga K "Ratio")) = some false
  nf_Ratio_int : PySem.W.notFirst K (He.ga K "Ratio") (.type "int") = true
  kt_Ratio_bool : PySem.W.kitOne K (.ref (He.ga K "Ratio")) (.type "bool") = some false
  kb_bool_Ratio : PySem.W.kitOne K (.type "bool") (.ref (He.ga K "Ratio")) = some false
  nf_Ratio_bool : PySem.W.notFirst K (He.ga K "Ratio") (.type "bool") = true
  kt_Ratio_str : PySem.W.kitOne K (.ref (He.ga K "Ratio")) (.type "str") = some false
  kb_str_Ratio : PySem.W.kitOne K (.type "str") (.ref (He.ga K "Ratio")) = some false
  nf_Ratio_str : PySem.W.notFirst K (He.ga K "Ratio") (.type "str") = true
  kb_NoneType_Ratio : PySem.W.kitOne K (.type "NoneType") (.ref (He.ga K "Ratio")) = some false
  nf_Ratio_NoneType : PySem.W.notFirst K (He.ga K "Ratio") (.type "NoneType") = true
  kt_Ratio_list : PySem.W.kitOne K (.ref (He.ga K "Ratio")) (.type "list") = some false
  kb_list_Ratio : PySem.W.kitOne K (.type "list") (.ref (He.ga K "Ratio")) = some false
  nf_Ratio_list : PySem.W.notFirst K (He.ga K "Ratio") (.type "list") = true
  kt_Ratio_tuple : PySem.W.kitOne K (.ref (He.ga K "Ratio")) (.type "tuple") = some false
  kb_tuple_Ratio : PySem.W.kitOne K (.type "tuple") (.ref (He.ga K "Ratio")) = some false
  nf_Ratio_tuple : PySem.W.notFirst K (He.ga K "Ratio") (.type "tuple") = true
  kt_Ratio_dict : PySem.W.kitOne K (.ref (He.ga K "Ratio")) (.type "dict") = some false
  kb_dict_Ratio : PySem.W.kitOne K (.type "dict") (.ref (He.ga K "Ratio")) = some false
  nf_Ratio_dict : PySem.W.notFirst K (He.ga K "Ratio") (.type "dict") = true
  f__wall : ∃ fd, FunD K "_wall" "_wall" (defArgs s__wall) (defBody s__wall) (defScope s__wall) (d__wall.dvs K) [] (d__wall.at_ K) fd
  f_ByZero___init__ : ∃ fd, FunD K "__init__" "ByZero.__init__" (defArgs s_ByZero___init__) (defBody s_ByZero___init__) (defScope s_ByZero___init__) (d_ByZero___init__.dvs K) [] (d_ByZero___init__.at_ K) fd
  f_BadNumber___init__ : ∃ fd, FunD K "__init__" "BadNumber.__init__" (defArgs s_BadNumber___init__) (defBody s_BadNumber___init__) (defScope s_BadNumber___init__) (d_BadNumber___init__.dvs K) [] (d_BadNumber___init__.at_ K) fd
  f_BadText___init__ : ∃ fd, FunD K "__init__" "BadText.__init__" (defArgs s_BadText___init__) (defBody s_BadText___init__) (defScope s_BadText___init__) (d_BadText___init__.dvs K) [] (d_BadText___init__.at_ K) fd
  f_is_integer : ∃ fd, FunD K "is_integer" "is_integer" (defArgs s_is_integer) (defBody s_is_integer) (defScope s_is_integer) (d_is_integer.dvs K) [] (d_is_integer.at_ K) fd
  f_divisor_of : ∃ fd, FunD K "divisor_of" "divisor_of" (defArgs s_divisor_of) (defBody s_divisor_of) (defScope s_divisor_of) (d_divisor_of.dvs K) [] (d_divisor_of.at_ K) fd
  f_parts : ∃ fd, FunD K "parts" "parts" (defArgs s_parts) (defBody s_parts) (defScope s_parts) (d_parts.dvs K) [] (d_parts.at_ K) fd
  f_checked : ∃ fd, FunD K "checked" "checked" (defArgs s_checked) (defBody s_checked) (defScope s_checked) (d_checked.dvs K) [] (d_checked.at_ K) fd
  f_Ratio___init__ : ∃ fd, FunD K "__init__" "Ratio.__init__" (defArgs s_Ratio___init__) (defBody s_Ratio___init__) (defScope s_Ratio___init__) (d_Ratio___init__.dvs K) [] (d_Ratio___init__.at_ K) fd
  f_Ratio_read : ∃ fd, FunD K "read" "Ratio.read" (defArgs s_Ratio_read) (defBody s_Ratio_read) (defScope s_Ratio_read) (d_Ratio_read.dvs K) [] (d_Ratio_read.at_ K) fd
  f_Ratio___add__ : ∃ fd, FunD K "__add__" "Ratio.__add__" (defArgs s_Ratio___add__) (defBody s_Ratio___add__) (defScope s_Ratio___add__) (d_Ratio___add__.dvs K) [] (d_Ratio___add__.at_ K) fd
  f_Ratio___sub__ : ∃ fd, FunD K "__sub__" "Ratio.__sub__" (defArgs s_Ratio___sub__) (defBody s_Ratio___sub__) (defScope s_Ratio___sub__) (d_Ratio___sub__.dvs K) [] (d_Ratio___sub__.at_ K) fd
  f_Ratio___mul__ : ∃ fd, FunD K "__mul__" "Ratio.__mul__" (defArgs s_Ratio___mul__) (defBody s_Ratio___mul__) (defScope s_Ratio___mul__) (d_Ratio___mul__.dvs K) [] (d_Ratio___mul__.at_ K) fd
  f_Ratio___neg__ : ∃ fd, FunD K "__neg__" "Ratio.__neg__" (defArgs s_Ratio___neg__) (defBody s_Ratio___neg__) (defScope s_Ratio___neg__) (d_Ratio___neg__.dvs K) [] (d_Ratio___neg__.at_ K) fd
  f_Ratio___eq__ : ∃ fd, FunD K "__eq__" "Ratio.__eq__" (defArgs s_Ratio___eq__) (defBody s_Ratio___eq__) (defScope s_Ratio___eq__) (d_Ratio___eq__.dvs K) [] (d_Ratio___eq__.at_ K) fd
  f_Ratio___lt__ : ∃ fd, FunD K "__lt__" "Ratio.__lt__" (defArgs s_Ratio___lt__) (defBody s_Ratio___lt__) (defScope s_Ratio___lt__) (d_Ratio___lt__.dvs K) [] (d_Ratio___lt__.at_ K) fd
  f_Ratio___le__ : ∃ fd, FunD K "__le__" "Ratio.__le__" (defArgs s_Ratio___le__) (defBody s_Ratio___le__) (defScope s_Ratio___le__) (d_Ratio___le__.dvs K) [] (d_Ratio___le__.at_ K) fd
  f_Ratio_over : ∃ fd, FunD K "over" "Ratio.over" (defArgs s_Ratio_over) (defBody s_Ratio_over) (defScope s_Ratio_over) (d_Ratio_over.dvs K) [] (d_Ratio_over.at_ K) fd
  f_Ratio_text : ∃ fd, FunD K "text" "Ratio.text" (defArgs s_Ratio_text) (defBody s_Ratio_text) (defScope s_Ratio_text) (d_Ratio_text.dvs K) [] (d_Ratio_text.at_ K) fd
  f_integer_of : ∃ fd, FunD K "integer_of" "integer_of" (defArgs s_integer_of) (defBody s_integer_of) (defScope s_integer_of) (d_integer_of.dvs K) [] (d_integer_of.at_ K) fd
  f__law_cell : ∃ fd, FunD K "_law_cell" "_law_cell" (defArgs s__law_cell) (defBody s__law_cell) (defScope s__law_cell) (d__law_cell.dvs K) [] (d__law_cell.at_ K) fd
  f__law_box : ∃ fd, FunD K "_law_box" "_law_box" (defArgs s__law_box) (defBody s__law_box) (defScope s__law_box) (d__law_box.dvs K) [] (d__law_box.at_ K) fd
  f__law_take : ∃ fd, FunD K "_law_take" "_law_take" (defArgs s__law_take) (defBody s__law_take) (defScope s__law_take) (d__law_take.dvs K) [] (d__law_take.at_ K) fd
  f__law_frac : ∃ fd, FunD K "_law_frac" "_law_frac" (defArgs s__law_frac) (defBody s__law_frac) (defScope s__law_frac) (d__law_frac.dvs K) [] (d__law_frac.at_ K) fd
  f__law_plus : ∃ fd, FunD K "_law_plus" "_law_plus" (defArgs s__law_plus) (defBody s__law_plus) (defScope s__law_plus) (d__law_plus.dvs K) [] (d__law_plus.at_ K) fd
  f__law_times : ∃ fd, FunD K "_law_times" "_law_times" (defArgs s__law_times) (defBody s__law_times) (defScope s__law_times) (d__law_times.dvs K) [] (d__law_times.at_ K) fd
  f__law_minus : ∃ fd, FunD K "_law_minus" "_law_minus" (defArgs s__law_minus) (defBody s__law_minus) (defScope s__law_minus) (d__law_minus.dvs K) [] (d__law_minus.at_ K) fd
  f__law_less : ∃ fd, FunD K "_law_less" "_law_less" (defArgs s__law_less) (defBody s__law_less) (defScope s__law_less) (d__law_less.dvs K) [] (d__law_less.at_ K) fd
  f__law_whole : ∃ fd, FunD K "_law_whole" "_law_whole" (defArgs s__law_whole) (defBody s__law_whole) (defScope s__law_whole) (d__law_whole.dvs K) [] (d__law_whole.at_ K) fd
  f__law_due : ∃ fd, FunD K "_law_due" "_law_due" (defArgs s__law_due) (defBody s__law_due) (defScope s__law_due) (d__law_due.dvs K) [] (d__law_due.at_ K) fd
  f__law_read : ∃ fd, FunD K "_law_read" "_law_read" (defArgs s__law_read) (defBody s__law_read) (defScope s__law_read) (d__law_read.dvs K) [] (d__law_read.at_ K) fd
  f_law : ∃ fd, FunD K "law" "law" (defArgs s_law) (defBody s_law) (defScope s_law) (d_law.dvs K) [] (d_law.at_ K) fd
theorem tx_of {K : PySem.W.Frag} {h : Heap} {mg : Str → Option Value} (X : K.In h) (G : h.Ns mainGlobals mg) (c : PH.SaysP fa fn K) : Tx K mg where
  g__wall := He.glo_ok X G (c.fact 0)
  g_StreamError := He.glo_ok X G (c.fact 1)
  g_ByZero := He.glo_ok X G (c.fact 2)
  g_BadNumber := He.glo_ok X G (c.fact 3)
  g_BadText := He.glo_ok X G (c.fact 4)
  g_is_integer := He.glo_ok X G (c.fact 5)
  g_divisor_of := He.glo_ok X G (c.fact 6)
  g_parts := He.glo_ok X G (c.fact 7)
  g_checked := He.glo_ok X G (c.fact 8)
  g_Ratio := He.glo_ok X G (c.fact 9)
  g_integer_of := He.glo_ok X G (c.fact 10)
  g__law_cell := He.glo_ok X G (c.fact 11)
  g__law_box := He.glo_ok X G (c.fact 12)
  g__law_take := He.glo_ok X G (c.fact 13)
  g__law_frac := He.glo_ok X G (c.fact 14)
  g__law_plus := He.glo_ok X G (c.fact 15)
  g__law_times := He.glo_ok X G (c.fact 16)
  g__law_minus := He.glo_ok X G (c.fact 17)
  g__law_less := He.glo_ok X G (c.fact 18)
  g__law_whole := He.glo_ok X G (c.fact 19)
  g__law_due := He.glo_ok X G (c.fact 20)
  g__law_read := He.glo_ok X G (c.fact 21)
  g_law := He.glo_ok X G (c.fact 22)
  b_abs := He.free_ok X G (c.fact 23)
  b_all := He.free_ok X G (c.fact 24)
  b_bool := He.free_ok X G (c.fact 25)
  b_int := He.free_ok X G (c.fact 26)
  b_isinstance := He.free_ok X G (c.fact 27)
  b_len := He.free_ok X G (c.fact 28)
  b_max := He.free_ok X G (c.fact 29)
  b_min := He.free_ok X G (c.fact 30)
  b_range := He.free_ok X G (c.fact 31)
  b_str := He.free_ok X G (c.fact 32)
  x_ByZero := PH.oex_ok (c.fact 33)
  xi_ByZero := PH.def_ok (c.fact 34)
  xm_ByZero := He.exm_ok (c.fact 35)
  x_BadNumber := PH.oex_ok (c.fact 36)
  xi_BadNumber := PH.def_ok (c.fact 37)
  xf_BadNumber := PH.xf_ok (c.fact 38)
  xn_BadNumber := He.noat_ok (c.fact 39)
  xm_BadNumber := He.exm_ok (c.fact 40)
  x_BadText := PH.oex_ok (c.fact 41)
  xi_BadText := PH.def_ok (c.fact 42)
  xm_BadText := He.exm_ok (c.fact 43)
  xm_ByZero_BadText := He.exm_ok (c.fact 44)
  xm_BadNumber_BadText := He.exm_ok (c.fact 45)
  sin := PH.sin_ok (c.fact 46)
  c_Ratio := He.cls_ok (c.fact 47)
  mk_Ratio := He.mkr_ok (c.fact 48)
  isi_Ratio := PH.isi_ok (c.fact 49)
  cm_Ratio_read := PH.cm_ok (c.fact 50)
  o_Ratio_add := PH.ownB_ok (c.fact 51)
  o_Ratio_sub := PH.ownB_ok (c.fact 52)
  o_Ratio_mul := PH.ownB_ok (c.fact 53)
  d_Ratio_neg := PH.def_ok (c.fact 54)
  d_Ratio_eq := PH.def_ok (c.fact 55)
  ne_Ratio := PH.ne_ok (c.fact 56)
  d_Ratio_lt := PH.def_ok (c.fact 57)
  d_Ratio_le := PH.def_ok (c.fact 58)
  m_Ratio_over := He.meth_ok (c.fact 59)
  m_Ratio_text := He.meth_ok (c.fact 60)
  n_Ratio_top := He.noat_ok (c.fact 61)
  n_Ratio_bottom := He.noat_ok (c.fact 62)
  k_Ratio_Ratio := PH.kitO_ok (c.fact 63)
  kt_Ratio_int := PH.kitT_ok (c.fact 64)
  kb_int_Ratio := PH.kitB_ok (c.fact 65)
  nf_Ratio_int := PH.nf_ok (c.fact 66)
  kt_Ratio_bool := PH.kitT_ok (c.fact 67)
  kb_bool_Ratio := PH.kitB_ok (c.fact 68)
  nf_Ratio_bool := PH.nf_ok (c.fact 69)
  kt_Ratio_str := PH.kitT_ok (c.fact 70)
  kb_str_Ratio := PH.kitB_ok (c.fact 71)
  nf_Ratio_str := PH.nf_ok (c.fact 72)
  kb_NoneType_Ratio := PH.kitB_ok (c.fact 73)
  nf_Ratio_NoneType := PH.nf_ok (c.fact 74)
  kt_Ratio_list := PH.kitT_ok (c.fact 75)
  kb_list_Ratio := PH.kitB_ok (c.fact 76)
  nf_Ratio_list := PH.nf_ok (c.fact 77)
  kt_Ratio_tuple := PH.kitT_ok (c.fact 78)
  kb_tuple_Ratio := PH.kitB_ok (c.fact 79)
  nf_Ratio_tuple := PH.nf_ok (c.fact 80)
  kt_Ratio_dict := PH.kitT_ok (c.fact 81)
  kb_dict_Ratio := PH.kitB_ok (c.fact 82)
  nf_Ratio_dict := PH.nf_ok (c.fact 83)
  f__wall := c.def_ 0
  f_ByZero___init__ := c.def_ 1
  f_BadNumber___init__ := c.def_ 2
  f_BadText___init__ := c.def_ 3
  f_is_integer := c.def_ 4
  f_divisor_of := c.def_ 5
  f_parts := c.def_ 6
  f_checked := c.def_ 7
  f_Ratio___init__ := c.def_ 8
  f_Ratio_read := c.def_ 9
  f_Ratio___add__ := c.def_ 10
  f_Ratio___sub__ := c.def_ 11
  f_Ratio___mul__ := c.def_ 12
  f_Ratio___neg__ := c.def_ 13
  f_Ratio___eq__ := c.def_ 14
  f_Ratio___lt__ := c.def_ 15
  f_Ratio___le__ := c.def_ 16
  f_Ratio_over := c.def_ 17
  f_Ratio_text := c.def_ 18
  f_integer_of := c.def_ 19
  f__law_cell := c.def_ 20
  f__law_box := c.def_ 21
  f__law_take := c.def_ 22
  f__law_frac := c.def_ 23
  f__law_plus := c.def_ 24
  f__law_times := c.def_ 25
  f__law_minus := c.def_ 26
  f__law_less := c.def_ 27
  f__law_whole := c.def_ 28
  f__law_due := c.def_ 29
  f__law_read := c.def_ 30
  f_law := c.def_ 31
end LW
namespace LW
open PySem PySem.Spec PyProof.Rows L2 PR
/-! ### a def of the text, by what its body must do -/
section
variable {P : Program} {w : World} {K : PySem.W.Frag} {mg : Str → Option Value} {base : Heap}
theorem fnr {x q : Str} {st : Stmt} {f : Addr} {N ps : List Str} {k : Nat} {sp : Sp} (D : ∃ fd, FunD K x q (defArgs st) (defBody st) (defScope st) [] [] f fd) (S : FnScope N ps (defScope st)) (len : ∀ vs H Q E, sp vs H Q E → vs.length = ps.length)
    (hb : ∀ (kV doc pm : Value) (an : Option Addr) (cdv ct : Value) (us : List Value), us.length = ps.length → bindArgs (PySem.W.fnOf x q (defArgs st) (defBody st) (defScope st) .none kV doc pm an cdv ct) ⟨us, []⟩ = pure (ps.zip us))
    (body : ∀ (cdv : Value) (A : Around) (outer : List Env) (s : Shared) (H : Hp) (vs : List V) (Q : VK) (E : XK), Room k (A.deeper (envOfC q (defScope st) s.heap.objs.size f cdv)) → sp vs H Q E →
      Wb (cxOf (L2.CX P w) P w K mg base N q (defScope st) f cdv A outer s H E) (defBody st) { nx := fun _ H' => Q .non H', rt := Q } (start N vs) H) : FnR P w K mg base (L2.CX P w) (k + 1) f sp := by
  obtain ⟨fd, F⟩ := D
  have F1 : FnOk P w K mg base (L2.CX P w) (k + 1) f fd ps sp := F.ok S len fun cdv A outer s H vs Q E hr h => ⟨_, pbW, body cdv A outer s H vs Q E hr h⟩
  have F2 := F1.raw (F.bindsN hb) .nil
  exact F2.imp fun vs H Q E h => by rw [List.append_nil]; exact h
end
theorem kept {K : PySem.W.Frag} {x q : Str} {ar : Arguments} {bd : List Stmt} {sc : Scope} {dv : List V} {kw : List (Str × V)} {f : Addr} (D : ∃ fd, FunD K x q ar bd sc dv kw f fd) : PySem.W.keepIn K (.ref f) = true := by
  obtain ⟨fd, F⟩ := D
  exact F.kp
theorem upd_back {H : Hp} {a : Addr} {o : HO} (h : H a = none) : del (upd H a o) a = H := by
  funext b
  by_cases e : b = a
  · rw [e, del_same, h]
  · rw [del_ne e, upd_ne e]
/-! ### errors -/
/-- an error without a value -/
def spErr0 (C : Addr) : Sp := fun vs H Q _ => ∃ a, vs = [.ref a] ∧ H a = some (exo a C none) ∧ Q .non H
/-- an error with one value, kept under f -/
def spErr1 (C : Addr) (f : Str) : Sp := fun vs H Q _ => ∃ a g, vs = [.ref a, g] ∧ H a = some (exo a C none) ∧ ∀ dx, H dx = none → dx ≠ a → Q .non (upd (upd H dx (exd dx [(f, g)])) a (exo a C (some dx)))
end LW
namespace LW
open PySem PySem.Spec PyProof.Rows L2 PR
section
variable {P : Program} {w : World} {K : PySem.W.Frag} {mg : Str → Option Value} {base : Heap}
theorem sc_ByZero : FnScope ["self"] ["self"] (defScope s_ByZero___init__) := ⟨rfl, rfl, rfl, by decide +kernel, rfl, by decide +kernel, by decide +kernel⟩
theorem fn_ByZero (T : Tx K mg) : FnR P w K mg base (L2.CX P w) 1 (He.ma K (He.ga K "ByZero") "__init__") (spErr0 (He.ga K "ByZero")) := by
  refine fnr T.f_ByZero___init__ sc_ByZero (fun vs H Q E h => ?_) (fun _ _ _ _ _ _ us hl => match us, hl with | [_], _ => rfl) fun cdv A outer s H vs Q E hr h => ?_
  · obtain ⟨a, rfl, _⟩ := h
    rfl
  · obtain ⟨a, rfl, ha, k⟩ := h
    refine s_one (s_expr (we_of (pe_sinit rfl T.g_StreamError T.sin.1 T.sin.2 paW) ?_))
    exact a_cons (w_var 0 rfl (a_cons (w_str (a_nil ⟨a, _, _, rfl, by show 1 ≤ 1000; decide, T.x_ByZero, ha, k⟩))))
theorem mk_ByZero {X : Cx} {p pos : Pos} (T : Tx X.K X.mg) (hr : Room 2 X.A) (hg : Gl X "ByZero" := by rfl) :
    PMk X (.Call (.Name "ByZero" p) [] [] pos) (fun _ H Q => Q (.ref (He.ga X.K "ByZero")) none H) := by
  intro pins s σ H Q I h
  obtain ⟨fd, F⟩ := T.f_ByZero___init__
  have F1 : FnOk X.prog X.w X.K X.mg X.base (L2.CX X.prog X.w) 1 (He.ma X.K (He.ga X.K "ByZero") "__init__") fd ["self"] (spErr0 (He.ga X.K "ByZero")) := F.ok sc_ByZero (fun vs H Q E h => by obtain ⟨a, rfl, _⟩ := h; rfl) fun cdv A outer s H vs Q E hr h => by
    obtain ⟨a, rfl, ha, k⟩ := h
    refine ⟨_, pbW, ?_⟩
    refine s_one (s_expr (we_of (pe_sinit rfl T.g_StreamError T.sin.1 T.sin.2 paW) ?_))
    exact a_cons (w_var 0 rfl (a_cons (w_str (a_nil ⟨a, _, _, rfl, by show 1 ≤ 1000; decide, T.x_ByZero, ha, k⟩))))
  refine pmk_oex0 T.x_ByZero T.xi_ByZero.at_ T.xi_ByZero.ty F1 hr (F.bindsN fun _ _ _ _ _ _ us hl => match us, hl with | [_], _ => rfl) passL hg T.g_ByZero (by decide) pins s σ H Q I ?_
  intro a ha
  refine ⟨a, rfl, upd_same, rfl, upd_same, ?_⟩
  rw [upd_back ha]
  exact h
theorem sc_BadNumber : FnScope ["self", "given"] ["self", "given"] (defScope s_BadNumber___init__) := ⟨rfl, rfl, rfl, by decide +kernel, rfl, by decide +kernel, by decide +kernel⟩
theorem fn_BadNumber (T : Tx K mg) : FnR P w K mg base (L2.CX P w) 1 (He.ma K (He.ga K "BadNumber") "__init__") (spErr1 (He.ga K "BadNumber") "given") := by
  refine fnr T.f_BadNumber___init__ sc_BadNumber (fun vs H Q E h => ?_) (fun _ _ _ _ _ _ us hl => match us, hl with | [_, _], _ => rfl) fun cdv A outer s H vs Q E hr h => ?_
  · obtain ⟨a, g, rfl, _⟩ := h
    rfl
  · obtain ⟨a, g, rfl, ha, k⟩ := h
    refine s_cons (s_expr (we_of (pe_sinit rfl T.g_StreamError T.sin.1 T.sin.2 paW) ?_))
    refine a_cons (w_var 0 rfl (a_cons (w_str (a_nil ⟨a, _, _, rfl, by show 1 ≤ 1000; decide, T.x_BadNumber, ha, ?_⟩))))
    refine s_one (ws_of (ps_ost peW peW) ?_)
    exact w_var 1 rfl (w_var 0 rfl ⟨a, _, rfl, T.x_BadNumber, T.xn_BadNumber, .inl ⟨ha, fun dx h1 h2 => k dx h1 h2⟩⟩)
theorem mk_BadNumber {X : Cx} {e : Expr} {p pos : Pos} (T : Tx X.K X.mg) (hr : Room 2 X.A) (hg : Gl X "BadNumber" := by rfl) (he : starEach [e] X.env = (false, eval e X.env) :: starEach [] X.env := by rfl) :
    PMk X (.Call (.Name "BadNumber" p) [e] [] pos) (fun σ H Q => We X e σ H fun v H1 => ∀ d, H1 d = none → Q (.ref (He.ga X.K "BadNumber")) (some d) (upd H1 d (.xd [("given", v)]))) := by
  intro pins s σ H Q I h
  obtain ⟨fd, F⟩ := T.f_BadNumber___init__
  have F1 : FnOk X.prog X.w X.K X.mg X.base (L2.CX X.prog X.w) 1 (He.ma X.K (He.ga X.K "BadNumber") "__init__") fd ["self", "given"] (spErr1 (He.ga X.K "BadNumber") "given") := F.ok sc_BadNumber (fun vs H Q E h => by obtain ⟨a, g, rfl, _⟩ := h; rfl) fun cdv A outer s H vs Q E hr h => by
    obtain ⟨a, g, rfl, ha, k⟩ := h
    refine ⟨_, pbW, ?_⟩
    refine s_cons (s_expr (we_of (pe_sinit rfl T.g_StreamError T.sin.1 T.sin.2 paW) ?_))
    refine a_cons (w_var 0 rfl (a_cons (w_str (a_nil ⟨a, _, _, rfl, by show 1 ≤ 1000; decide, T.x_BadNumber, ha, ?_⟩))))
    refine s_one (ws_of (ps_ost peW peW) ?_)
    exact w_var 1 rfl (w_var 0 rfl ⟨a, _, rfl, T.x_BadNumber, T.xn_BadNumber, .inl ⟨ha, fun dx h1 h2 => k dx h1 h2⟩⟩)
  refine pmk_oex (dvs := []) (ds := []) T.x_BadNumber T.xi_BadNumber.at_ T.xi_BadNumber.ty F1 hr (F.bindsN fun _ _ _ _ _ _ us hl => match us, hl with | [_, _], _ => rfl) .nil passL hg T.g_BadNumber (pa_cons peW pa_nil he) (by decide) he (by rfl) pins s σ H Q I ?_
  refine We.mono h fun v H1 k => ⟨by show 1 ≤ 1000; decide, fun a ha => ?_⟩
  refine ⟨a, v, rfl, upd_same, fun dx h1 h2 => ?_⟩
  have hd : H1 dx = none := by rw [upd_ne h2] at h1; exact h1
  refine ⟨rfl, dx, _, upd_same, by rw [upd_ne h2, upd_same], hd, ?_⟩
  have e : upd (del (upd (upd (upd H1 a (exo a (He.ga X.K "BadNumber") none)) dx (exd dx [("given", v)])) a (exo a (He.ga X.K "BadNumber") (some dx))) a) dx (.xd [("given", v)]) = upd H1 dx (.xd [("given", v)]) := by
    funext b
    by_cases e1 : b = dx
    · rw [e1, upd_same, upd_same]
    · rw [upd_ne e1, upd_ne e1]
      by_cases e2 : b = a
      · rw [e2, del_same, ha]
      · rw [del_ne e2, upd_ne e2, upd_ne e1, upd_ne e2]
  rw [e]
  exact k dx hd
theorem sc_BadText : FnScope ["self"] ["self"] (defScope s_BadText___init__) := ⟨rfl, rfl, rfl, by decide +kernel, rfl, by decide +kernel, by decide +kernel⟩
theorem fn_BadText (T : Tx K mg) : FnR P w K mg base (L2.CX P w) 1 (He.ma K (He.ga K "BadText") "__init__") (spErr0 (He.ga K "BadText")) := by
  refine fnr T.f_BadText___init__ sc_BadText (fun vs H Q E h => ?_) (fun _ _ _ _ _ _ us hl => match us, hl with | [_], _ => rfl) fun cdv A outer s H vs Q E hr h => ?_
  · obtain ⟨a, rfl, _⟩ := h
    rfl
  · obtain ⟨a, rfl, ha, k⟩ := h
    refine s_one (s_expr (we_of (pe_sinit rfl T.g_StreamError T.sin.1 T.sin.2 paW) ?_))
    exact a_cons (w_var 0 rfl (a_cons (w_str (a_nil ⟨a, _, _, rfl, by show 1 ≤ 1000; decide, T.x_BadText, ha, k⟩))))
theorem mk_BadText {X : Cx} {p pos : Pos} (T : Tx X.K X.mg) (hr : Room 2 X.A) (hg : Gl X "BadText" := by rfl) :
    PMk X (.Call (.Name "BadText" p) [] [] pos) (fun _ H Q => Q (.ref (He.ga X.K "BadText")) none H) := by
  intro pins s σ H Q I h
  obtain ⟨fd, F⟩ := T.f_BadText___init__
  have F1 : FnOk X.prog X.w X.K X.mg X.base (L2.CX X.prog X.w) 1 (He.ma X.K (He.ga X.K "BadText") "__init__") fd ["self"] (spErr0 (He.ga X.K "BadText")) := F.ok sc_BadText (fun vs H Q E h => by obtain ⟨a, rfl, _⟩ := h; rfl) fun cdv A outer s H vs Q E hr h => by
    obtain ⟨a, rfl, ha, k⟩ := h
    refine ⟨_, pbW, ?_⟩
    refine s_one (s_expr (we_of (pe_sinit rfl T.g_StreamError T.sin.1 T.sin.2 paW) ?_))
    exact a_cons (w_var 0 rfl (a_cons (w_str (a_nil ⟨a, _, _, rfl, by show 1 ≤ 1000; decide, T.x_BadText, ha, k⟩))))
  refine pmk_oex0 T.x_BadText T.xi_BadText.at_ T.xi_BadText.ty F1 hr (F.bindsN fun _ _ _ _ _ _ us hl => match us, hl with | [_], _ => rfl) passL hg T.g_BadText (by decide) pins s σ H Q I ?_
  intro a ha
  refine ⟨a, rfl, upd_same, rfl, upd_same, ?_⟩
  rw [upd_back ha]
  exact h
end
end LW
namespace LW
open PySem PySem.Spec PyProof.Rows L2 PR
/-! ### what a Ratio looks like -/
def rfs (q : Rat) : List (Str × V) := [("top", .int q.num), ("bottom", .int (q.den : Int))]
theorem tb : ¬ (("top" : Str) = "bottom") := by decide +kernel
theorem rfs_top (q : Rat) : (rfs q).lookup ("top" : Str) = some (.int q.num) := by
  unfold rfs
  rw [lookup_put, if_pos rfl]
theorem rfs_bot (q : Rat) : (rfs q).lookup ("bottom" : Str) = some (.int (q.den : Int)) := by
  unfold rfs
  rw [lookup_put, if_neg (fun e => tb e.symm), lookup_put, if_pos rfl]
theorem rfs_no (q : Rat) {m : Str} (h1 : ¬ m = "top") (h2 : ¬ m = "bottom") : (rfs q).lookup m = none := by
  unfold rfs
  rw [lookup_put, if_neg h1, lookup_put, if_neg h2]
  rfl
theorem rfs_put (x y : V) : putF "bottom" y (putF "top" x []) = [(("top" : Str), x), ("bottom", y)] := by
  show (if ("top" : Str) = "bottom" then _ else (("top" : Str), x) :: putF "bottom" y []) = _
  rw [if_neg tb]
  rfl
/-- v is the Ratio q -/
def Rt (K : PySem.W.Frag) (H : Hp) (v : V) (q : Rat) : Prop := ∃ a dx, v = .ref a ∧ H a = some (.ins (He.ga K "Ratio") dx (rfs q))
theorem Rt.same {K : PySem.W.Frag} {H H' : Hp} {v : V} {q : Rat} (h : Rt K H v q) (s : Same H H') : Rt K H' v q := by
  obtain ⟨a, dx, e, h⟩ := h
  exact ⟨a, dx, e, s _ _ h⟩
def kinds : List String := ["bool", "str", "NoneType", "list", "tuple", "dict"]
/-- what is handed in: a number, or another value -/
inductive Arg (K : PySem.W.Frag) (H : Hp) (v : V) : Option Rat → Prop where
  | int (n : Int) (e : v = .int n) : Arg K H v (some (n : Rat))
  | rat (q : Rat) (h : Rt K H v q) : Arg K H v (some q)
  | odd (t : String) (h : TyX K H v (.type t)) (m : t ∈ kinds) : Arg K H v none
theorem same_new {H : Hp} {p : Addr} {o : HO} (h : H p = none) : Same H (upd H p o) := fun b u e => by
  rw [upd_ne (ne_of_none e h)]
  exact e
section
variable {P : Program} {w : World} {K : PySem.W.Frag} {mg : Str → Option Value} {base : Heap}
/-! ### divisor_of -/
def spDiv : Sp := fun vs H Q _ => ∃ a b : Int, vs = [.int a, .int b] ∧ Q (.int (Int.gcd a b : Int)) H
theorem sc_divisor_of : FnScope ["one", "other"] ["one", "other"] (defScope s_divisor_of) := ⟨rfl, rfl, rfl, by decide +kernel, rfl, by decide +kernel, by decide +kernel⟩
theorem fn_divisor_of (T : Tx K mg) : FnR P w K mg base (L2.CX P w) 1 (He.ga K "divisor_of") spDiv := by
  refine fnr T.f_divisor_of sc_divisor_of (fun vs H Q E h => ?_) (fun _ _ _ _ _ _ us hl => match us, hl with | [_, _], _ => rfl) fun cdv A outer s H vs Q E hr h => ?_
  · obtain ⟨a, b, rfl, _⟩ := h
    rfl
  · obtain ⟨a, b, rfl, k⟩ := h
    refine s_cons (s_while (passes_of rfl) (fun σ H' => ∃ x y : Int, σ = [some (.int x), some (.int y)] ∧ H' = H ∧ Int.gcd x y = Int.gcd a b) (fun σ _ => match σ with | [_, some (.int y)] => y.natAbs | _ => 0) ⟨a, b, rfl, rfl, rfl⟩ ?_)
    rintro σ H' ⟨x, y, rfl, rfl, e⟩
    refine t_cmp op_ne (w_var 1 rfl (w_int ⟨rfl, _, rfl, ?_⟩))
    by_cases hy : y = 0
    · subst hy
      show if (!decide (V.int 0 = V.int 0)) = true then _ else _
      rw [decide_eq_true rfl]
      refine iteF ?_
      refine s_one (s_ret (w_callB call_abs T.b_abs (by decide +kernel) (a_cons (w_var 0 rfl (a_nil ⟨x, rfl, ?_⟩)))))
      have e2 : (if x < 0 then -x else x) = (Int.gcd a b : Int) := by
        rw [← e, Int.gcd_zero_right]
        split <;> omega
      rw [e2]
      exact k
    · have hd : decide (V.int y = V.int 0) = false := decide_eq_false fun z => hy (by cases z; rfl)
      show if (!decide (V.int y = V.int 0)) = true then _ else _
      rw [hd]
      refine iteT ?_
      refine s_one (s_par 0 1 sc_divisor_of.nd (a_cons (w_var 1 rfl (a_cons (w_op op_modN (w_var 0 rfl (w_var 1 rfl ⟨x, y, rfl, rfl, hy, a_nil ⟨_, _, rfl, ?_⟩⟩)))))))
      exact ⟨⟨y, x.fmod y, rfl, rfl, (RM.gcd_turn hy).trans e⟩, RM.fmod_small hy⟩
/-! ### is_integer -/
def spIsInt (K : PySem.W.Frag) : Sp := fun vs H Q _ => ∃ (x : V) (t : Value) (b1 b2 : Bool), vs = [x] ∧ TyX K H x t ∧ PySem.W.kitOne K t (.type "int") = some b1 ∧ PySem.W.kitOne K t (.type "bool") = some b2 ∧ Q (.bl (b1 && !b2)) H
theorem sc_is_integer : FnScope ["value"] ["value"] (defScope s_is_integer) := ⟨rfl, rfl, rfl, by decide +kernel, rfl, by decide +kernel, by decide +kernel⟩
theorem fn_is_integer (T : Tx K mg) : FnR P w K mg base (L2.CX P w) 1 (He.ga K "is_integer") (spIsInt K) := by
  refine fnr T.f_is_integer sc_is_integer (fun vs H Q E h => ?_) (fun _ _ _ _ _ _ us hl => match us, hl with | [_], _ => rfl) fun cdv A outer s H vs Q E hr h => ?_
  · obtain ⟨x, t, b1, b2, rfl, _⟩ := h
    rfl
  · obtain ⟨x, t, b1, b2, rfl, ty, k1, k2, q⟩ := h
    refine s_one (s_ret (w_and (w_callB call_isi T.b_isinstance (by decide +kernel) (a_cons (w_var 0 rfl (a_cons (w_bltn (v := .ty "int") T.b_int (by decide +kernel) rfl (a_nil ⟨x, .ty "int", t, .type "int", b1, rfl, .ty _, ty, k1, b1, rfl, ?_⟩))))))))
    cases b1 with
    | false => exact iteF q
    | true =>
      refine iteT (w_one (w_not ?_))
      exact w_callB call_isi T.b_isinstance (by decide +kernel) (a_cons (w_var 0 rfl (a_cons (w_bltn (v := .ty "bool") T.b_bool (by decide +kernel) rfl (a_nil ⟨x, .ty "bool", t, .type "bool", b2, rfl, .ty _, ty, k2, b2, rfl, q⟩)))))
/-! ### parts -/
def spParts (K : PySem.W.Frag) : Sp := fun vs H Q _ => ∃ (x : V) (o : Option Rat), vs = [x] ∧ Arg K H x o ∧ (∀ q, o = some q → ∀ p, H p = none → Q (.ref p) (upd H p (.tup [.int q.num, .int (q.den : Int)]))) ∧ (o = none → Q .non H)
theorem sc_parts : FnScope ["given"] ["given"] (defScope s_parts) := ⟨rfl, rfl, rfl, by decide +kernel, rfl, by decide +kernel, by decide +kernel⟩
theorem kit_kind {K : PySem.W.Frag} {t : String} (m : t ∈ kinds) : ∃ b1 b2, PySem.W.kitOne K (.type t) (.type "int") = some b1 ∧ PySem.W.kitOne K (.type t) (.type "bool") = some b2 ∧ (b1 && !b2) = false := by
  have one : ∀ {t : String} {b1 b2 : Bool}, kitB t "int" = some b1 → kitB t "bool" = some b2 → (b1 && !b2) = false → ∃ b1 b2, PySem.W.kitOne K (.type t) (.type "int") = some b1 ∧ PySem.W.kitOne K (.type t) (.type "bool") = some b2 ∧ (b1 && !b2) = false :=
    fun h1 h2 h3 => ⟨_, _, kit_ty h1, kit_ty h2, h3⟩
  unfold kinds at m
  simp only [List.mem_cons, List.not_mem_nil, or_false] at m
  rcases m with rfl | rfl | rfl | rfl | rfl | rfl
  · exact one (b1 := true) (b2 := true) (by decide +kernel) (by decide +kernel) rfl
  · exact one (b1 := false) (b2 := false) (by decide +kernel) (by decide +kernel) rfl
  · exact one (b1 := false) (b2 := false) (by decide +kernel) (by decide +kernel) rfl
  · exact one (b1 := false) (b2 := false) (by decide +kernel) (by decide +kernel) rfl
  · exact one (b1 := false) (b2 := false) (by decide +kernel) (by decide +kernel) rfl
  · exact one (b1 := false) (b2 := false) (by decide +kernel) (by decide +kernel) rfl
theorem kit_odd (T : Tx K mg) {t : String} (m : t ∈ kinds) : PySem.W.kitOne K (.type t) (.ref (He.ga K "Ratio")) = some false := by
  unfold kinds at m
  simp only [List.mem_cons, List.not_mem_nil, or_false] at m
  rcases m with rfl | rfl | rfl | rfl | rfl | rfl
  · exact T.kb_bool_Ratio
  · exact T.kb_str_Ratio
  · exact T.kb_NoneType_Ratio
  · exact T.kb_list_Ratio
  · exact T.kb_tuple_Ratio
  · exact T.kb_dict_Ratio
theorem Rt.ty (T : Tx K mg) {H : Hp} {v : V} {q : Rat} (h : Rt K H v q) : TyX K H v (.ref (He.ga K "Ratio")) := by
  obtain ⟨a, dx, rfl, h⟩ := h
  exact T.isi_Ratio.ty T.c_Ratio h
theorem fn_parts (T : Tx K mg) : FnR P w K mg base (L2.CX P w) 2 (He.ga K "parts") (spParts K) := by
  refine fnr T.f_parts sc_parts (fun vs H Q E h => ?_) (fun _ _ _ _ _ _ us hl => match us, hl with | [_], _ => rfl) fun cdv A outer s H vs Q E hr h => ?_
  · obtain ⟨x, o, rfl, _⟩ := h
    rfl
  · obtain ⟨x, o, rfl, ha, k1, k2⟩ := h
    refine s_cons (s_if (t_val (w_call (fn_is_integer T) hr T.g_is_integer (kept T.f_is_integer) passX (a_cons (w_var 0 rfl (a_nil ?_))))))
    cases ha with
    | int n e =>
      subst e
      refine ⟨_, _, _, _, rfl, .base (.int n), kit_ty (r := true) (by decide +kernel), kit_ty (r := false) (by decide +kernel), true, rfl, ?_⟩
      refine iteT (s_one (s_ret (w_tup (a_cons (w_var 0 rfl (a_cons (w_int (a_nil ⟨by show 2 ≤ sizeLine; decide, fun p hp => ?_⟩))))))))
      exact k1 _ rfl p hp
    | rat q h =>
      refine ⟨_, _, _, _, rfl, h.ty T, T.kt_Ratio_int, T.kt_Ratio_bool, false, rfl, iteF (s_nil ?_)⟩
      refine s_one (s_ret (w_ife (t_val (w_callB call_isi T.b_isinstance (by decide +kernel) (a_cons (w_var 0 rfl (a_cons (w_ref T.g_Ratio (a_nil ⟨x, .ref (He.ga K "Ratio"), _, .ref (He.ga K "Ratio"), true, rfl, .own _, h.ty T, T.k_Ratio_Ratio, true, rfl, iteT ?_⟩)))))))))
      obtain ⟨a, dx, rfl, h⟩ := h
      refine w_tup (a_cons (w_fld (w_var 0 rfl ⟨a, _, dx, _, _, rfl, h, T.c_Ratio, T.n_Ratio_top, rfs_top q, ?_⟩)))
      refine a_cons (w_fld (w_var 0 rfl ⟨a, _, dx, _, _, rfl, h, T.c_Ratio, T.n_Ratio_bottom, rfs_bot q, ?_⟩))
      exact a_nil ⟨by show 2 ≤ sizeLine; decide, fun p hp => k1 q rfl p hp⟩
    | odd t h m =>
      obtain ⟨b1, b2, e1, e2, e3⟩ := kit_kind (K := K) m
      refine ⟨_, _, _, _, rfl, h, e1, e2, false, by rw [e3], iteF (s_nil ?_)⟩
      refine s_one (s_ret (w_ife (t_val (w_callB call_isi T.b_isinstance (by decide +kernel) (a_cons (w_var 0 rfl (a_cons (w_ref T.g_Ratio (a_nil ⟨x, .ref (He.ga K "Ratio"), _, .ref (He.ga K "Ratio"), false, rfl, .own _, h, kit_odd T m, false, rfl, iteF ?_⟩)))))))))
      exact w_non (k2 rfl)
/-! ### checked -/
def spChecked (K : PySem.W.Frag) : Sp := fun vs H Q E => ∃ (x : V) (o : Option Rat), vs = [x] ∧ Arg K H x o ∧ (∀ q, o = some q → ∀ p, H p = none → Q (.ref p) (upd H p (.tup [.int q.num, .int (q.den : Int)]))) ∧
  (o = none → ∀ d, H d = none → E (.ref (He.ga K "BadNumber")) (some d) (upd H d (.xd [("given", x)])))
theorem sc_checked : FnScope ["given", "found"] ["given"] (defScope s_checked) := ⟨rfl, rfl, rfl, by decide +kernel, rfl, by decide +kernel, by decide +kernel⟩
theorem fn_checked (T : Tx K mg) : FnR P w K mg base (L2.CX P w) 3 (He.ga K "checked") (spChecked K) := by
  refine fnr T.f_checked sc_checked (fun vs H Q E h => ?_) (fun _ _ _ _ _ _ us hl => match us, hl with | [_], _ => rfl) fun cdv A outer s H vs Q E hr h => ?_
  · obtain ⟨x, o, rfl, _⟩ := h
    rfl
  · obtain ⟨x, o, rfl, ha, k1, k2⟩ := h
    refine s_cons (s_set 1 sc_checked.nd (w_call (fn_parts T) hr T.g_parts (kept T.f_parts) passX (a_cons (w_var 0 rfl (a_nil ⟨x, o, rfl, ha, fun q e p hp => ?_, fun e => ?_⟩)))))
    · refine s_cons (s_if (t_cmp op_isN (w_var 1 rfl (w_non ⟨rfl, false, rfl, iteF (s_nil ?_)⟩))))
      exact s_one (s_ret (w_var 1 rfl (k1 q e p hp)))
    · refine s_cons (s_if (t_cmp op_isN (w_var 1 rfl (w_non ⟨rfl, true, rfl, iteT ?_⟩))))
      exact s_one (s_raise rfl (takes_of (E := E) rfl rfl rfl rfl) (mk_BadNumber T hr) (w_var 0 rfl fun d hd => k2 e d hd))
end
end LW
namespace LW
open PySem PySem.Spec PyProof.Rows L2 PR
/-- // by any divisor but 0 below 2 ^ 9000 -/
def CDivA (_ j : Int) : Prop := j ≠ 0 ∧ j.natAbs < 2 ^ 9000
theorem op_fdivA {X : Cx} : OpR X (binaryOp .FloorDiv) (rI CDivA fun i j => .int (i.fdiv j)) := opI fun i j _ _ _ _ _ hc q =>
  floordiv_int hc.1 q (.inl (PyProof.noPylong_of_log2 (PySem.Flt.log2_lt_of (by decide) hc.2)))
theorem s_unp2 {X : Cx} {e : Expr} {σ : L2.St} {H : Hp} {D : Ends} {pos px py pt : Pos} {x y : Str} {kt} (i j : Nat) (hN : X.N.Nodup) (h : We X e σ H fun v H1 => ∃ a u w, v = .ref a ∧ SqT X.K H1 a [u, w] ∧ D.nx ((σ.set i (some u)).set j (some w)) H1)
    (hi : X.N[i]? = some x := by rfl) (hj : X.N[j]? = some y := by rfl) (hx : Loc X.env.scope x := by first | exact Or.inl rfl | exact Or.inr rfl) (hy : Loc X.env.scope y := by first | exact Or.inl rfl | exact Or.inr rfl)
    (fx : X.fn x = true ∨ X.env.scope.names.lookup x = some .local := by first | exact .inl rfl | exact .inr rfl) (fy : X.fn y = true ∨ X.env.scope.names.lookup y = some .local := by first | exact .inl rfl | exact .inr rfl) (hc : X.calm = true := by rfl)
    (hs : swapsWithSole [.Tuple [.Name x px, .Name y py] kt pt] e pos.line X.env = pure false := by rfl) (hw : swappedStores [.Tuple [.Name x px, .Name y py] kt pt] e X.env = pure none := by rfl) (h1 : (assignEach [.Tuple [.Name x px, .Name y py] kt pt] X.env).map (·.2) = [assign (.Tuple [.Name x px, .Name y py] kt pt) X.env] := by rfl) :
    Ws X (.Assign [.Tuple [.Name x px, .Name y py] kt pt] e pos) D σ H := by
  refine s_asg (pg_tup (n := 2) hc (pgs_cons (pg_name (i := i) hN hi hx fx) (pgs_cons (pg_name (i := j) hN hj hy fy) pgs_nil))) (We.mono h fun v H1 z => ?_) hs hw h1
  obtain ⟨a, u, w, rfl, hq, q⟩ := z
  exact ⟨a, _, rfl, hq, rfl, u, [w], rfl, w, [], rfl, rfl, q⟩
section
variable {P : Program} {w : World} {K : PySem.W.Frag} {mg : Str → Option Value} {base : Heap}
/-! ### Ratio.__init__ -/
def spInit (K : PySem.W.Frag) : Sp := fun vs H Q E => ∃ (a dx : Addr) (t b : Int), vs = [.ref a, .int t, .int b] ∧ H a = some (.ins (He.ga K "Ratio") dx []) ∧ b.natAbs < 2 ^ 9000 ∧
  (b ≠ 0 → Q .non (upd H a (.ins (He.ga K "Ratio") dx (rfs (Rat.divInt t b))))) ∧ (b = 0 → E (.ref (He.ga K "ByZero")) none H)
theorem sc_Ratio_init : FnScope ["self", "top", "bottom", "divisor"] ["self", "top", "bottom"] (defScope s_Ratio___init__) := ⟨rfl, rfl, rfl, by decide +kernel, rfl, by decide +kernel, by decide +kernel⟩
theorem ok_Ratio_init (T : Tx K mg) {fd : FuncData} {dv : List V} (F : FunD K "__init__" "Ratio.__init__" (defArgs s_Ratio___init__) (defBody s_Ratio___init__) (defScope s_Ratio___init__) dv [] (He.ma K (He.ga K "Ratio") "__init__") fd) :
    FnOk P w K mg base (L2.CX P w) 3 (He.ma K (He.ga K "Ratio") "__init__") fd ["self", "top", "bottom"] (spInit K) := by
  refine F.ok sc_Ratio_init (fun vs H Q E h => ?_) fun cdv A outer s H vs Q E hr h => ⟨_, pbW, ?_⟩
  · obtain ⟨a, dx, t, b, rfl, _⟩ := h
    rfl
  · obtain ⟨a, dx, t, b, rfl, ha, hb, k1, k2⟩ := h
    refine s_cons (s_if (t_cmp op_eq (w_var 2 rfl (w_int ⟨rfl, _, rfl, ?_⟩))))
    by_cases e : b = 0
    · subst e
      show if decide (V.int 0 = V.int 0) = true then _ else _
      rw [decide_eq_true rfl]
      exact iteT (s_one (s_raise rfl (takes_of (E := E) rfl rfl rfl rfl) (mk_ByZero T hr) (k2 rfl)))
    · have hd : decide (V.int b = V.int 0) = false := decide_eq_false fun z => e (by cases z; rfl)
      show if decide (V.int b = V.int 0) = true then _ else _
      rw [hd]
      refine iteF (s_nil ?_)
      have hs := RM.sg_ne (a := t) e
      have hg : (RM.sg t b).natAbs < 2 ^ 9000 := by
        have h1 : (RM.sg t b).natAbs = Int.gcd t b := by unfold RM.sg; split <;> omega
        rw [h1]
        exact Nat.lt_of_le_of_lt (Int.gcd_le_natAbs_right t e) hb
      have rest : ∀ H1, H1 = H → ∀ v, v = V.int (RM.sg t b) → Wb (cxOf (L2.CX P w) P w K mg base ["self", "top", "bottom", "divisor"] "Ratio.__init__" (defScope s_Ratio___init__) (He.ma K (He.ga K "Ratio") "__init__") cdv A outer s H E) ((defBody s_Ratio___init__).drop 2)
          { nx := fun _ H' => Q .non H', rt := Q } [some (.ref a), some (.int t), some (.int b), some v] H1 := by
        rintro H1 rfl v rfl
        refine s_cons (s_fld (w_op op_fdivA (w_var 1 rfl (w_var 3 rfl ⟨t, _, rfl, rfl, ⟨hs, hg⟩, w_var 0 rfl ⟨a, _, dx, _, rfl, ha, T.c_Ratio, T.n_Ratio_top, by show 0 < 1000; decide, ?_⟩⟩))))
        refine s_one (s_fld (w_op op_fdivA (w_var 2 rfl (w_var 3 rfl ⟨b, _, rfl, rfl, ⟨hs, hg⟩, w_var 0 rfl ⟨a, _, dx, _, rfl, upd_same, T.c_Ratio, T.n_Ratio_bottom, by show 1 < 1000; decide, ?_⟩⟩))))
        have z := k1 e
        rw [upd_upd]
        have e2 : putF "bottom" (V.int (b.fdiv (RM.sg t b))) (putF "top" (V.int (t.fdiv (RM.sg t b))) []) = rfs (Rat.divInt t b) := by
          rw [rfs_put, RM.num_eq e, RM.den_eq e]
          rfl
        show Q .non (upd H1 a (.ins (He.ga K "Ratio") dx (putF "bottom" (V.int (b.fdiv (RM.sg t b))) (putF "top" (V.int (t.fdiv (RM.sg t b))) []))))
        rw [e2]
        exact z
      refine s_cons (s_set 3 sc_Ratio_init.nd (w_ife (t_cmp op_gt (w_var 2 rfl (w_int ⟨b, 0, rfl, rfl, _, rfl, ?_⟩)))))
      have hr1 : Room 1 _ := hr.mono (by decide)
      by_cases hp : 0 < b
      · rw [decide_eq_true hp]
        refine iteT (w_call (fn_divisor_of T) hr1 T.g_divisor_of (kept T.f_divisor_of) passX (a_cons (w_var 1 rfl (a_cons (w_var 2 rfl (a_nil ⟨t, b, rfl, ?_⟩))))))
        exact rest H rfl _ (by unfold RM.sg; rw [if_pos hp])
      · rw [decide_eq_false hp]
        refine iteF (w_un un_neg (w_call (fn_divisor_of T) hr1 T.g_divisor_of (kept T.f_divisor_of) passX (a_cons (w_var 1 rfl (a_cons (w_var 2 rfl (a_nil ⟨t, b, rfl, _, rfl, ?_⟩)))))))
        exact rest H rfl _ (by unfold RM.sg; rw [if_neg hp])
theorem fn_Ratio3 (T : Tx K mg) : FnR P w K mg base (L2.CX P w) 3 (He.ma K (He.ga K "Ratio") "__init__") (spInit K) := by
  obtain ⟨fd, F⟩ := T.f_Ratio___init__
  obtain ⟨ds, hv, hb⟩ := FunD.binds1 (ps := ["self", "top", "bottom"]) F 3 1 (by intro z; cases z) rfl (fun T0 kV doc pm an cdv ct us its h1 h2 => match us, its, h1, h2 with | [_, _, _], [_], _, _ => ⟨_, rfl, rfl⟩)
  have F2 := (ok_Ratio_init (P := P) (w := w) (base := base) T F).raw hb (dvs := []) hv
  exact F2.imp fun vs H Q E h => by rw [List.append_nil]; exact h
theorem fn_Ratio2 (T : Tx K mg) : FnR P w K mg base (L2.CX P w) 3 (He.ma K (He.ga K "Ratio") "__init__") (fun vs H Q E => spInit K (vs ++ [.int 1]) H Q E) := by
  obtain ⟨fd, F⟩ := T.f_Ratio___init__
  obtain ⟨ds, hv, hb⟩ := FunD.binds1 (ps := ["self", "top", "bottom"]) F 2 0 (by intro z; cases z) rfl (fun T0 kV doc pm an cdv ct us its h1 h2 => match us, its, h1, h2 with | [_, _], [_], _, _ => ⟨_, rfl, rfl⟩)
  exact (ok_Ratio_init (P := P) (w := w) (base := base) T F).raw hb (dvs := [.int 1]) hv
end
section
variable {X : Cx} {e e1 e2 : Expr} {σ : L2.St} {H : Hp} {Q : VK} {E : XK} {p pos : Pos}
theorem same_made {H : Hp} {x dx : Addr} {o u : HO} (hx : H x = none) (hd : H dx = none) : Same H (upd (upd H dx o) x u) := fun b v e => by
  rw [upd_ne (ne_of_none e hx), upd_ne (ne_of_none e hd)]
  exact e
theorem same_over {H : Hp} {x dx : Addr} {o u v : HO} (hx : H x = none) (hd : H dx = none) : Same H (upd (upd (upd H dx o) x u) x v) := by
  rw [upd_upd]
  exact same_made hx hd
/-- Ratio(t, b) -/
theorem w_ratio (T : Tx X.K X.mg) (hr : Room 4 X.A) (hx : Passes (L2.CX X.prog X.w) X E)
    (h : Wa X [e1, e2] σ H fun vs H1 => ∃ t b, vs = [.int t, .int b] ∧ b.natAbs < 2 ^ 9000 ∧ (b ≠ 0 → ∀ v H', Same H1 H' → Rt X.K H' v (Rat.divInt t b) → Q v H') ∧ (b = 0 → ∀ H', Same H1 H' → E (.ref (He.ga X.K "ByZero")) none H'))
    (hg : Gl X "Ratio" := by rfl) (he : starEach [e1, e2] X.env = (false, eval e1 X.env) :: starEach [e2] X.env := by rfl) (hpl : (backTo pos (starEach [e2] X.env)).any (·.1) = false := by rfl) : We X (.Call (.Name "Ratio" p) [e1, e2] [] pos) σ H Q := by
  refine w_make T.mk_Ratio (fn_Ratio3 T) hr T.g_Ratio hx (Wa.mono h fun vs H1 z => ?_) hg (by decide) he hpl
  obtain ⟨t, b, rfl, hb, k1, k2⟩ := z
  intro x dx h1 h2 h3
  exact ⟨x, dx, t, b, rfl, upd_same, hb, fun hn => ⟨rfl, k1 hn _ _ (same_over h1 h2) ⟨x, dx, rfl, upd_same⟩⟩, fun hz => k2 hz _ (same_made h1 h2)⟩
/-- Ratio(t) -/
theorem w_ratio1 (T : Tx X.K X.mg) (hr : Room 4 X.A) (hx : Passes (L2.CX X.prog X.w) X E)
    (h : Wa X [e1] σ H fun vs H1 => ∃ t : Int, vs = [.int t] ∧ (∀ v H', Same H1 H' → Rt X.K H' v (t : Rat) → Q v H'))
    (hg : Gl X "Ratio" := by rfl) (he : starEach [e1] X.env = (false, eval e1 X.env) :: starEach [] X.env := by rfl) (hpl : (backTo pos (starEach [] X.env)).any (·.1) = false := by rfl) : We X (.Call (.Name "Ratio" p) [e1] [] pos) σ H Q := by
  refine w_make T.mk_Ratio (fn_Ratio2 T) hr T.g_Ratio hx (Wa.mono h fun vs H1 z => ?_) hg (by decide) he hpl
  obtain ⟨t, rfl, k1⟩ := z
  intro x dx h1 h2 h3
  refine ⟨x, dx, t, 1, rfl, upd_same, by decide +kernel, fun hn => ⟨rfl, k1 _ _ (same_over h1 h2) ⟨x, dx, rfl, ?_⟩⟩, fun hz => absurd hz (by decide)⟩
  rw [upd_same, RM.int_eq]
/-- checked(e) of a number -/
theorem w_checked (T : Tx X.K X.mg) (hr : Room 3 X.A) (hx : Passes (L2.CX X.prog X.w) X E) (h : We X e σ H fun x H1 => ∃ q, Arg X.K H1 x (some q) ∧ ∀ p, H1 p = none → Q (.ref p) (upd H1 p (.tup [.int q.num, .int (q.den : Int)])))
    (hg : Gl X "checked" := by rfl) (he : starEach [e] X.env = (false, eval e X.env) :: starEach [] X.env := by rfl) (hpl : (backTo pos (starEach [] X.env)).any (·.1) = false := by rfl) : We X (.Call (.Name "checked" p) [e] [] pos) σ H Q := by
  refine w_call (fn_checked T) hr T.g_checked (kept T.f_checked) hx (a_cons (We.mono h fun x H1 z => ?_) he) hg (by decide) he hpl
  obtain ⟨q, ha, k⟩ := z
  exact a_nil ⟨x, some q, rfl, ha, fun q' e => by cases e; exact k, fun e => nomatch e⟩
/-- x.top, x.bottom of a Ratio in slot i -/
theorem w_top (T : Tx X.K X.mg) (h : We X e σ H fun x H1 => ∃ q, Rt X.K H1 x q ∧ Q (.int q.num) H1) (hb : attributeBase e "top" X.env (eval e X.env) = eval e X.env := by rfl) : We X (.Attribute e "top" pos) σ H Q :=
  w_fld (We.mono h fun x H1 ⟨q, ⟨a, dx, ex, ha⟩, k⟩ => ⟨a, _, dx, _, _, ex, ha, T.c_Ratio, T.n_Ratio_top, rfs_top q, k⟩) hb
theorem w_bot (T : Tx X.K X.mg) (h : We X e σ H fun x H1 => ∃ q, Rt X.K H1 x q ∧ Q (.int (q.den : Int)) H1) (hb : attributeBase e "bottom" X.env (eval e X.env) = eval e X.env := by rfl) : We X (.Attribute e "bottom" pos) σ H Q :=
  w_fld (We.mono h fun x H1 ⟨q, ⟨a, dx, ex, ha⟩, k⟩ => ⟨a, _, dx, _, _, ex, ha, T.c_Ratio, T.n_Ratio_bottom, rfs_bot q, k⟩) hb
end
end LW
namespace LW
open PySem PySem.Spec PyProof.Rows L2 PR
section
variable {P : Program} {w : World} {K : PySem.W.Frag} {mg : Str → Option Value} {base : Heap}
/-- both numbers below 2 ^ 4000 -/
def spBin (K : PySem.W.Frag) (f : Rat → Rat → Rat) : Sp := fun vs H Q _ => ∃ (x y : V) (p q : Rat), vs = [x, y] ∧ Rt K H x p ∧ Arg K H y (some q) ∧ RM.Lt p 4000 ∧ RM.Lt q 4000 ∧ ∀ v H', Same H H' → Rt K H' v (f p q) → Q v H'
def spCmp (K : PySem.W.Frag) (f : Rat → Rat → Bool) : Sp := fun vs H Q _ => ∃ (x y : V) (p q : Rat), vs = [x, y] ∧ Rt K H x p ∧ Arg K H y (some q) ∧ RM.Lt p 4000 ∧ RM.Lt q 4000 ∧ ∀ H', Same H H' → Q (.bl (f p q)) H'
def spNeg (K : PySem.W.Frag) : Sp := fun vs H Q _ => ∃ (x : V) (p : Rat), vs = [x] ∧ Rt K H x p ∧ RM.Lt p 4000 ∧ ∀ v H', Same H H' → Rt K H' v (-p) → Q v H'
def spEq (K : PySem.W.Frag) : Sp := fun vs H Q _ => ∃ (x y : V) (p : Rat) (o : Option Rat), vs = [x, y] ∧ Rt K H x p ∧ Arg K H y o ∧ ∀ H', Same H H' → Q (.bl (decide (o = some p))) H'
def spOver (K : PySem.W.Frag) : Sp := fun vs H Q E => ∃ (x y : V) (p q : Rat), vs = [x, y] ∧ Rt K H x p ∧ Arg K H y (some q) ∧ RM.Lt p 4000 ∧ RM.Lt q 4000 ∧ (q ≠ 0 → ∀ v H', Same H H' → Rt K H' v (p / q) → Q v H') ∧ (q = 0 → ∀ H', Same H H' → E (.ref (He.ga K "ByZero")) none H')
theorem cmul {i j : Int} (hi : i.natAbs < 2 ^ 4000) (hj : j.natAbs < 2 ^ 4000) : CMulW i j := wide_mul hi hj (by decide) (by decide) (by decide)
theorem bot_lt {i j : Int} (hi : i.natAbs < 2 ^ 4000) (hj : j.natAbs < 2 ^ 4000) : (i * j).natAbs < 2 ^ 9000 := RM.pow_le (RM.pow_mul_lt hi hj) (by decide)
theorem sc_add : FnScope ["self", "other", "top", "bottom"] ["self", "other"] (defScope s_Ratio___add__) := ⟨rfl, rfl, rfl, by decide +kernel, rfl, by decide +kernel, by decide +kernel⟩
theorem fn_add (T : Tx K mg) : FnR P w K mg base (L2.CX P w) 5 (He.ma K (He.ga K "Ratio") "__add__") (spBin K (· + ·)) := by
  refine fnr T.f_Ratio___add__ sc_add (fun vs H Q E h => ?_) (fun _ _ _ _ _ _ us hl => match us, hl with | [_, _], _ => rfl) fun cdv A outer s H vs Q E hr h => ?_
  · obtain ⟨x, y, p, q, rfl, _⟩ := h
    rfl
  · obtain ⟨x, y, p, q, rfl, hx, hy, lp, lq, k⟩ := h
    refine s_cons (s_unp2 2 3 sc_add.nd (w_checked T (hr.mono (by decide)) passX (w_var 1 rfl ⟨q, hy, fun t ht => ⟨t, _, _, rfl, SqT.of upd_same, ?_⟩⟩)))
    have st : Same H _ := same_new (o := .tup [.int q.num, .int (q.den : Int)]) ht
    have hx' := hx.same st
    refine s_one (s_ret (w_ratio T hr passX (a_cons (w_op op_add (w_op op_mulW (w_top T (w_var 0 rfl ⟨p, hx', w_var 3 rfl ⟨_, _, rfl, rfl, cmul lp.1 (RM.den_lt lq), ?_⟩⟩)))))))
    refine w_op op_mulW (w_var 2 rfl (w_bot T (w_var 0 rfl ⟨p, hx', _, _, rfl, rfl, cmul lq.1 (RM.den_lt lp), _, _, rfl, rfl, ?_⟩)))
    refine a_cons (w_op op_mulW (w_bot T (w_var 0 rfl ⟨p, hx', w_var 3 rfl ⟨_, _, rfl, rfl, cmul (RM.den_lt lp) (RM.den_lt lq), ?_⟩⟩)))
    refine a_nil ⟨_, _, rfl, bot_lt (RM.den_lt lp) (RM.den_lt lq), fun _ v H' s2 hv => k v H' (st.trans s2) ?_, fun z => absurd z (RM.mul_den_ne p q)⟩
    show Rt K H' v (p + q)
    rw [RM.add_eq]
    exact hv
theorem sc_sub : FnScope ["self", "other", "top", "bottom"] ["self", "other"] (defScope s_Ratio___sub__) := ⟨rfl, rfl, rfl, by decide +kernel, rfl, by decide +kernel, by decide +kernel⟩
theorem fn_sub (T : Tx K mg) : FnR P w K mg base (L2.CX P w) 5 (He.ma K (He.ga K "Ratio") "__sub__") (spBin K (· - ·)) := by
  refine fnr T.f_Ratio___sub__ sc_sub (fun vs H Q E h => ?_) (fun _ _ _ _ _ _ us hl => match us, hl with | [_, _], _ => rfl) fun cdv A outer s H vs Q E hr h => ?_
  · obtain ⟨x, y, p, q, rfl, _⟩ := h
    rfl
  · obtain ⟨x, y, p, q, rfl, hx, hy, lp, lq, k⟩ := h
    refine s_cons (s_unp2 2 3 sc_sub.nd (w_checked T (hr.mono (by decide)) passX (w_var 1 rfl ⟨q, hy, fun t ht => ⟨t, _, _, rfl, SqT.of upd_same, ?_⟩⟩)))
    have st : Same H _ := same_new (o := .tup [.int q.num, .int (q.den : Int)]) ht
    have hx' := hx.same st
    refine s_one (s_ret (w_ratio T hr passX (a_cons (w_op op_sub (w_op op_mulW (w_top T (w_var 0 rfl ⟨p, hx', w_var 3 rfl ⟨_, _, rfl, rfl, cmul lp.1 (RM.den_lt lq), ?_⟩⟩)))))))
    refine w_op op_mulW (w_var 2 rfl (w_bot T (w_var 0 rfl ⟨p, hx', _, _, rfl, rfl, cmul lq.1 (RM.den_lt lp), _, _, rfl, rfl, ?_⟩)))
    refine a_cons (w_op op_mulW (w_bot T (w_var 0 rfl ⟨p, hx', w_var 3 rfl ⟨_, _, rfl, rfl, cmul (RM.den_lt lp) (RM.den_lt lq), ?_⟩⟩)))
    refine a_nil ⟨_, _, rfl, bot_lt (RM.den_lt lp) (RM.den_lt lq), fun _ v H' s2 hv => k v H' (st.trans s2) ?_, fun z => absurd z (RM.mul_den_ne p q)⟩
    show Rt K H' v (p - q)
    rw [RM.sub_eq]
    exact hv
theorem sc_mul : FnScope ["self", "other", "top", "bottom"] ["self", "other"] (defScope s_Ratio___mul__) := ⟨rfl, rfl, rfl, by decide +kernel, rfl, by decide +kernel, by decide +kernel⟩
theorem fn_mul (T : Tx K mg) : FnR P w K mg base (L2.CX P w) 5 (He.ma K (He.ga K "Ratio") "__mul__") (spBin K (· * ·)) := by
  refine fnr T.f_Ratio___mul__ sc_mul (fun vs H Q E h => ?_) (fun _ _ _ _ _ _ us hl => match us, hl with | [_, _], _ => rfl) fun cdv A outer s H vs Q E hr h => ?_
  · obtain ⟨x, y, p, q, rfl, _⟩ := h
    rfl
  · obtain ⟨x, y, p, q, rfl, hx, hy, lp, lq, k⟩ := h
    refine s_cons (s_unp2 2 3 sc_mul.nd (w_checked T (hr.mono (by decide)) passX (w_var 1 rfl ⟨q, hy, fun t ht => ⟨t, _, _, rfl, SqT.of upd_same, ?_⟩⟩)))
    have st : Same H _ := same_new (o := .tup [.int q.num, .int (q.den : Int)]) ht
    have hx' := hx.same st
    refine s_one (s_ret (w_ratio T hr passX (a_cons (w_op op_mulW (w_top T (w_var 0 rfl ⟨p, hx', w_var 2 rfl ⟨_, _, rfl, rfl, cmul lp.1 lq.1, ?_⟩⟩))))))
    refine a_cons (w_op op_mulW (w_bot T (w_var 0 rfl ⟨p, hx', w_var 3 rfl ⟨_, _, rfl, rfl, cmul (RM.den_lt lp) (RM.den_lt lq), ?_⟩⟩)))
    refine a_nil ⟨_, _, rfl, bot_lt (RM.den_lt lp) (RM.den_lt lq), fun _ v H' s2 hv => k v H' (st.trans s2) ?_, fun z => absurd z (RM.mul_den_ne p q)⟩
    show Rt K H' v (p * q)
    rw [RM.mul_eq]
    exact hv
theorem sc_neg : FnScope ["self"] ["self"] (defScope s_Ratio___neg__) := ⟨rfl, rfl, rfl, by decide +kernel, rfl, by decide +kernel, by decide +kernel⟩
theorem fn_neg (T : Tx K mg) : FnR P w K mg base (L2.CX P w) 5 (He.ma K (He.ga K "Ratio") "__neg__") (spNeg K) := by
  refine fnr T.f_Ratio___neg__ sc_neg (fun vs H Q E h => ?_) (fun _ _ _ _ _ _ us hl => match us, hl with | [_], _ => rfl) fun cdv A outer s H vs Q E hr h => ?_
  · obtain ⟨x, p, rfl, _⟩ := h
    rfl
  · obtain ⟨x, p, rfl, hx, lp, k⟩ := h
    refine s_one (s_ret (w_ratio T hr passX (a_cons (w_un un_neg (w_top T (w_var 0 rfl ⟨p, hx, _, rfl, ?_⟩))))))
    refine a_cons (w_bot T (w_var 0 rfl ⟨p, hx, a_nil ⟨_, _, rfl, RM.pow_le (RM.den_lt lp) (by decide), fun _ v H' s2 hv => k v H' s2 ?_, fun z => absurd z (RM.den_ne p)⟩⟩))
    rw [RM.neg_eq]
    exact hv
theorem eqv_pair (a b c d : Int) : PyData.eqv (.tuple [.int a, .int b]) (.tuple [.int c, .int d]) = decide (a = c ∧ b = d) := by
  show (decide (a = c) && (decide (b = d) && true)) = _
  by_cases h1 : a = c <;> by_cases h2 : b = d <;> simp [h1, h2]
theorem sc_eq : FnScope ["self", "other"] ["self", "other"] (defScope s_Ratio___eq__) := ⟨rfl, rfl, rfl, by decide +kernel, rfl, by decide +kernel, by decide +kernel⟩
theorem fn_eq (T : Tx K mg) : FnR P w K mg base (L2.CX P w) 3 (He.ma K (He.ga K "Ratio") "__eq__") (spEq K) := by
  refine fnr T.f_Ratio___eq__ sc_eq (fun vs H Q E h => ?_) (fun _ _ _ _ _ _ us hl => match us, hl with | [_, _], _ => rfl) fun cdv A outer s H vs Q E hr h => ?_
  · obtain ⟨x, y, p, o, rfl, _⟩ := h
    rfl
  · obtain ⟨x, y, p, o, rfl, hx, hy, k⟩ := h
    refine s_one (s_ret (w_cmp (op_eqD hr.units) (w_call (fn_parts T) hr T.g_parts (kept T.f_parts) passX (a_cons (w_var 1 rfl (a_nil ⟨y, o, rfl, hy, fun q e t ht => ?_, fun e => ?_⟩))))))
    · have st : Same H _ := same_new (o := .tup [.int q.num, .int (q.den : Int)]) ht
      have hx' := hx.same st
      refine w_tup (a_cons (w_top T (w_var 0 rfl ⟨p, hx', a_cons (w_bot T (w_var 0 rfl ⟨p, hx', a_nil ⟨by show 2 ≤ sizeLine; decide, fun u hu => ?_⟩⟩))⟩)))
      have ne : t ≠ u := ne_of_none upd_same hu
      refine ⟨_, _, .tup (SqT.of (by rw [upd_ne ne, upd_same])) (.cons (.int _) (.cons (.int _) .nil)), .tup (SqT.of upd_same) (.cons (.int _) (.cons (.int _) .nil)), rfl, rfl, ?_⟩
      rw [eqv_pair]
      have z := k _ (st.trans (same_new (o := .tup [.int p.num, .int (p.den : Int)]) hu))
      have e2 : decide (o = some p) = decide (q.num = p.num ∧ (q.den : Int) = (p.den : Int)) := by
        subst e
        refine decide_eq_decide.mpr ⟨fun h => by cases h; exact ⟨rfl, rfl⟩, fun h => ?_⟩
        rw [(RM.eq_iff q p).mpr ⟨h.1, by omega⟩]
      rw [e2] at z
      exact z
    · refine w_tup (a_cons (w_top T (w_var 0 rfl ⟨p, hx, a_cons (w_bot T (w_var 0 rfl ⟨p, hx, a_nil ⟨by show 2 ≤ sizeLine; decide, fun u hu => ?_⟩⟩))⟩)))
      refine ⟨_, _, .non, .tup (SqT.of upd_same) (.cons (.int _) (.cons (.int _) .nil)), rfl, rfl, ?_⟩
      have z := k _ (same_new (o := .tup [.int p.num, .int (p.den : Int)]) hu)
      subst e
      exact z
theorem sc_lt : FnScope ["self", "other", "top", "bottom"] ["self", "other"] (defScope s_Ratio___lt__) := ⟨rfl, rfl, rfl, by decide +kernel, rfl, by decide +kernel, by decide +kernel⟩
theorem fn_lt (T : Tx K mg) : FnR P w K mg base (L2.CX P w) 4 (He.ma K (He.ga K "Ratio") "__lt__") (spCmp K fun p q => decide (p < q)) := by
  refine fnr T.f_Ratio___lt__ sc_lt (fun vs H Q E h => ?_) (fun _ _ _ _ _ _ us hl => match us, hl with | [_, _], _ => rfl) fun cdv A outer s H vs Q E hr h => ?_
  · obtain ⟨x, y, p, q, rfl, _⟩ := h
    rfl
  · obtain ⟨x, y, p, q, rfl, hx, hy, lp, lq, k⟩ := h
    refine s_cons (s_unp2 2 3 sc_lt.nd (w_checked T hr passX (w_var 1 rfl ⟨q, hy, fun t ht => ⟨t, _, _, rfl, SqT.of upd_same, ?_⟩⟩)))
    have st : Same H _ := same_new (o := .tup [.int q.num, .int (q.den : Int)]) ht
    have hx' := hx.same st
    refine s_one (s_ret (w_cmp op_lt (w_op op_mulW (w_top T (w_var 0 rfl ⟨p, hx', w_var 3 rfl ⟨_, _, rfl, rfl, cmul lp.1 (RM.den_lt lq), ?_⟩⟩)))))
    refine w_op op_mulW (w_var 2 rfl (w_bot T (w_var 0 rfl ⟨p, hx', _, _, rfl, rfl, cmul lq.1 (RM.den_lt lp), _, _, rfl, rfl, ?_⟩)))
    have z : Q (.bl (decide (p < q))) _ := k _ st
    rw [show decide (p < q) = decide (p.num * (q.den : Int) < q.num * (p.den : Int)) from decide_eq_decide.mpr (RM.lt_iff p q)] at z
    exact z
theorem sc_le : FnScope ["self", "other", "top", "bottom"] ["self", "other"] (defScope s_Ratio___le__) := ⟨rfl, rfl, rfl, by decide +kernel, rfl, by decide +kernel, by decide +kernel⟩
theorem fn_le (T : Tx K mg) : FnR P w K mg base (L2.CX P w) 4 (He.ma K (He.ga K "Ratio") "__le__") (spCmp K fun p q => decide (p ≤ q)) := by
  refine fnr T.f_Ratio___le__ sc_le (fun vs H Q E h => ?_) (fun _ _ _ _ _ _ us hl => match us, hl with | [_, _], _ => rfl) fun cdv A outer s H vs Q E hr h => ?_
  · obtain ⟨x, y, p, q, rfl, _⟩ := h
    rfl
  · obtain ⟨x, y, p, q, rfl, hx, hy, lp, lq, k⟩ := h
    refine s_cons (s_unp2 2 3 sc_le.nd (w_checked T hr passX (w_var 1 rfl ⟨q, hy, fun t ht => ⟨t, _, _, rfl, SqT.of upd_same, ?_⟩⟩)))
    have st : Same H _ := same_new (o := .tup [.int q.num, .int (q.den : Int)]) ht
    have hx' := hx.same st
    refine s_one (s_ret (w_cmp op_le (w_op op_mulW (w_top T (w_var 0 rfl ⟨p, hx', w_var 3 rfl ⟨_, _, rfl, rfl, cmul lp.1 (RM.den_lt lq), ?_⟩⟩)))))
    refine w_op op_mulW (w_var 2 rfl (w_bot T (w_var 0 rfl ⟨p, hx', _, _, rfl, rfl, cmul lq.1 (RM.den_lt lp), _, _, rfl, rfl, ?_⟩)))
    have z : Q (.bl (decide (p ≤ q))) _ := k _ st
    rw [show decide (p ≤ q) = decide (p.num * (q.den : Int) ≤ q.num * (p.den : Int)) from decide_eq_decide.mpr (RM.le_iff p q)] at z
    exact z
end
end LW
namespace LW
open PySem PySem.Spec PyProof.Rows L2 PR
theorem Arg.same {K : PySem.W.Frag} {H H' : Hp} {v : V} {q : Rat} (h : Arg K H v (some q)) (s : Same H H') : Arg K H' v (some q) := by
  generalize ho : some q = o at h
  cases h with
  | int n e => exact .int n e
  | rat p h => exact .rat p (h.same s)
  | odd t h m => cases ho
theorem Arg.mate {K : PySem.W.Frag} {H : Hp} {v : V} {q : Rat} (h : Arg K H v (some q)) : Mate (He.ga K "Ratio") H v := by
  generalize ho : some q = o at h
  cases h with
  | int n e => exact .inr ⟨n, e⟩
  | rat p h => obtain ⟨a, dx, e, h⟩ := h; exact .inl ⟨a, dx, _, e, h⟩
  | odd t h m => cases ho
theorem Arg.ty {K : PySem.W.Frag} {mg : Str → Option Value} {H : Hp} {v : V} {o : Option Rat} (T : Tx K mg) (h : Arg K H v o) : ∃ t, TyX K H v t ∧ PySem.W.notFirst K (He.ga K "Ratio") t = true := by
  cases h with
  | int n e => subst e; exact ⟨_, .base (.int n), T.nf_Ratio_int⟩
  | rat p h => exact ⟨_, h.ty T, PH.nf_self _ _⟩
  | odd t h m =>
    refine ⟨_, h, ?_⟩
    unfold kinds at m
    simp only [List.mem_cons, List.not_mem_nil, or_false] at m
    rcases m with rfl | rfl | rfl | rfl | rfl | rfl
    · exact T.nf_Ratio_bool
    · exact T.nf_Ratio_str
    · exact T.nf_Ratio_NoneType
    · exact T.nf_Ratio_list
    · exact T.nf_Ratio_tuple
    · exact T.nf_Ratio_dict
section
variable {X : Cx} {a b e : Expr} {σ : L2.St} {H : Hp} {Q : VK} {Qb : Bool → Hp → Prop} {E : XK} {p pos apos : Pos}
/-- x + y and its like, x a Ratio, y a number -/
def rNum (K : PySem.W.Frag) (f : Rat → Rat → Rat) : R2 := fun x y H Q => ∃ p q, Rt K H x p ∧ Arg K H y (some q) ∧ RM.Lt p 4000 ∧ RM.Lt q 4000 ∧ ∀ v H', Same H H' → Rt K H' v (f p q) → Q v H'
theorem op_own_imp {f : Value → Value → Sem Value} {r r' : R2} (h : OpR X f r) (k : ∀ x y H Q, r' x y H Q → r x y H Q) : OpR X f r' := fun pins s σ H x y v u Q I rx ry q => h pins s σ H x y v u Q I rx ry (k x y H Q q)
theorem un_imp {f : Value → Sem Value} {r r' : V → Hp → VK → Prop} (h : UnR X f r) (k : ∀ x H Q, r' x H Q → r x H Q) : UnR X f r' := fun pins s σ H x v Q I rx q => h pins s σ H x v Q I rx (k x H Q q)
theorem op_radd (T : Tx X.K X.mg) (hr : Room 5 X.A) : OpR X (binaryOp .Add) (rNum X.K (· + ·)) := op_own_imp (op_ownB T.o_Ratio_add (fn_add T) hr passL) fun x y H Q ⟨p, q, hx, hy, lp, lq, k⟩ => by
  obtain ⟨a, dx, e, h⟩ := id hx
  exact ⟨a, dx, _, e, h, hy.mate, x, y, p, q, rfl, hx, hy, lp, lq, k⟩
theorem op_rsub (T : Tx X.K X.mg) (hr : Room 5 X.A) : OpR X (binaryOp .Sub) (rNum X.K (· - ·)) := op_own_imp (op_ownB T.o_Ratio_sub (fn_sub T) hr passL) fun x y H Q ⟨p, q, hx, hy, lp, lq, k⟩ => by
  obtain ⟨a, dx, e, h⟩ := id hx
  exact ⟨a, dx, _, e, h, hy.mate, x, y, p, q, rfl, hx, hy, lp, lq, k⟩
theorem op_rmul (T : Tx X.K X.mg) (hr : Room 5 X.A) : OpR X (binaryOp .Mult) (rNum X.K (· * ·)) := op_own_imp (op_ownB T.o_Ratio_mul (fn_mul T) hr passL) fun x y H Q ⟨p, q, hx, hy, lp, lq, k⟩ => by
  obtain ⟨a, dx, e, h⟩ := id hx
  exact ⟨a, dx, _, e, h, hy.mate, x, y, p, q, rfl, hx, hy, lp, lq, k⟩
theorem un_rneg (T : Tx X.K X.mg) (hr : Room 5 X.A) : UnR X (unaryOp .USub) (fun x H Q => ∃ p, Rt X.K H x p ∧ RM.Lt p 4000 ∧ ∀ v H', Same H H' → Rt X.K H' v (-p) → Q v H') :=
  un_imp (un_own T.d_Ratio_neg.at_ T.d_Ratio_neg.fn (fn_neg T) hr passL) fun x H Q ⟨p, hx, lp, k⟩ => by
  obtain ⟨a, dx, e, h⟩ := id hx
  exact ⟨a, dx, _, e, h, x, p, rfl, hx, lp, k⟩
def rNumB (K : PySem.W.Frag) (f : Rat → Rat → Bool) : R2 := fun x y H Q => ∃ p q, Rt K H x p ∧ Arg K H y (some q) ∧ RM.Lt p 4000 ∧ RM.Lt q 4000 ∧ ∀ H', Same H H' → Q (.bl (f p q)) H'
def rNumE (K : PySem.W.Frag) (g : Bool → Bool) : R2 := fun x y H Q => ∃ p o, Rt K H x p ∧ Arg K H y o ∧ ∀ H', Same H H' → Q (.bl (g (decide (o = some p)))) H'
theorem op_rlt (T : Tx X.K X.mg) (hr : Room 4 X.A) : OpR X (compareOp .Lt) (rNumB X.K fun p q => decide (p < q)) := op_own_imp (op_ownC (fun _ _ => rfl) T.d_Ratio_lt.at_ T.d_Ratio_lt.fn (fn_lt T) hr passL) fun x y H Q ⟨p, q, hx, hy, lp, lq, k⟩ => by
  obtain ⟨a, dx, e, h⟩ := id hx
  obtain ⟨t, ty, nf⟩ := hy.ty T
  exact ⟨a, dx, _, t, e, h, ty, nf, x, y, p, q, rfl, hx, hy, lp, lq, k⟩
theorem op_rle (T : Tx X.K X.mg) (hr : Room 4 X.A) : OpR X (compareOp .LtE) (rNumB X.K fun p q => decide (p ≤ q)) := op_own_imp (op_ownC (fun _ _ => rfl) T.d_Ratio_le.at_ T.d_Ratio_le.fn (fn_le T) hr passL) fun x y H Q ⟨p, q, hx, hy, lp, lq, k⟩ => by
  obtain ⟨a, dx, e, h⟩ := id hx
  obtain ⟨t, ty, nf⟩ := hy.ty T
  exact ⟨a, dx, _, t, e, h, ty, nf, x, y, p, q, rfl, hx, hy, lp, lq, k⟩
theorem op_req (T : Tx X.K X.mg) (hr : Room 3 X.A) : OpR X (compareOp .Eq) (rNumE X.K fun b => b) := op_own_imp (op_ownC (fun _ _ => rfl) T.d_Ratio_eq.at_ T.d_Ratio_eq.fn (fn_eq T) hr passL) fun x y H Q ⟨p, o, hx, hy, k⟩ => by
  obtain ⟨a, dx, e, h⟩ := id hx
  obtain ⟨t, ty, nf⟩ := hy.ty T
  exact ⟨a, dx, _, t, e, h, ty, nf, x, y, p, o, rfl, hx, hy, k⟩
theorem op_rne (T : Tx X.K X.mg) (hr : Room 4 X.A) : OpR X (compareOp .NotEq) (rNumE X.K fun b => !b) := op_own_imp (op_ownN T.d_Ratio_eq.at_ T.d_Ratio_eq.fn T.ne_Ratio T.isi_Ratio.hm (fn_eq T) hr passL) fun x y H Q ⟨p, o, hx, hy, k⟩ => by
  obtain ⟨a, dx, e, h⟩ := id hx
  obtain ⟨t, ty, nf⟩ := hy.ty T
  exact ⟨a, dx, _, t, e, h, ty, nf, x, y, p, o, rfl, hx, hy, fun H' s => ⟨_, rfl, k H' s⟩⟩
end
end LW
namespace LW
open PySem PySem.Spec PyProof.Rows L2 PR
def sumR (qs : List Rat) : Rat := qs.foldl (· + ·) 0
theorem sumR_snoc (qs : List Rat) (q : Rat) : sumR (qs ++ [q]) = sumR qs + q := by
  unfold sumR
  rw [List.foldl_append]
  rfl
theorem take_snoc {α : Type} : ∀ {l : List α} {i : Nat} {x : α}, l[i]? = some x → l.take (i + 1) = l.take i ++ [x]
  | [], i, x, h => by simp at h
  | a :: l, 0, x, h => by
    have e : a = x := Option.some.inj h
    subst e
    rfl
  | a :: l, i + 1, x, h => by
    have ih := take_snoc (l := l) (i := i) (x := x) h
    show a :: l.take (i + 1) = a :: l.take i ++ [x]
    rw [ih]
    rfl
end LW
namespace LW
open PySem PySem.Spec PyProof.Rows L2 PR
def CPowW (i j : Int) : Prop := 0 ≤ j ∧ j ≤ 1000 ∧ i.natAbs < 2 ^ 1000
theorem op_powW {X : Cx} : OpR X (binaryOp .Pow) (rI CPowW fun i j => .int (i ^ j.toNat)) := opI fun i j _ _ _ _ _ hc q => by
  obtain ⟨h0, h1, h2⟩ := hc
  refine pow_int h0 ?_ q
  have hl : i.natAbs.log2 < 1000 := PySem.Flt.log2_lt_of (by decide) h2
  have hb : Builtin.Int.intBits i ≤ 1001 := by
    unfold Builtin.Int.intBits
    split <;> omega
  have h3 : ((Builtin.Int.intBits i : Nat) : Int) ≤ 1001 := by omega
  have h4 : ((Builtin.Int.intBits i : Nat) : Int) * j ≤ 1001 * 1000 := Int.mul_le_mul h3 h1 h0 (by decide)
  exact Int.le_trans h4 (by decide)
/-- the box: digits, a count of at most N draws, a start -/
def Bx (H : Hp) (b : Addr) (N : Nat) : Prop := ∃ n c d : Int, H b = some (.lst [.int n, .int c, .int d]) ∧ 0 ≤ n ∧ 0 ≤ c ∧ c ≤ N ∧ 0 ≤ d ∧ d ≤ 4000000
/-- all but what stands at b is as it was -/
def Kp (b : Addr) (H H' : Hp) : Prop := ∀ a o, a ≠ b → H a = some o → H' a = some o
theorem Kp.refl (b : Addr) (H : Hp) : Kp b H H := fun _ _ _ h => h
theorem Kp.trans {b : Addr} {H H1 H2 : Hp} (h : Kp b H H1) (k : Kp b H1 H2) : Kp b H H2 := fun a o n e => k a o n (h a o n e)
theorem _root_.L2.Same.kp {b : Addr} {H H' : Hp} (s : Same H H') : Kp b H H' := fun a o _ e => s a o e
theorem kp_upd {b : Addr} {H : Hp} {o : HO} : Kp b H (upd H b o) := fun a u n e => by rw [upd_ne n]; exact e
theorem Bx.same {H H' : Hp} {b : Addr} {N : Nat} (h : Bx H b N) (s : Same H H') : Bx H' b N := by
  obtain ⟨n, c, d, e, r⟩ := h
  exact ⟨n, c, d, s _ _ e, r⟩
theorem Bx.ne {H : Hp} {a b : Addr} {N : Nat} {o : HO} (h : Bx H b N) (e : H a = some o) (n : ∀ xs, o ≠ .lst xs) : a ≠ b := by
  obtain ⟨_, _, _, e2, _⟩ := h
  exact ne_of e e2 (n _)
section
variable {P : Program} {w : World} {K : PySem.W.Frag} {mg : Str → Option Value} {base : Heap}
/-! ### cell, box -/
def spCell (K : PySem.W.Frag) : Sp := fun vs H Q _ => ∃ (a : Addr) (ns : List Int) (k : Nat), vs = [.ref a, .int k] ∧ SqL K H a (ns.map V.int) ∧ Q (.int (ns.getD k 0)) H
theorem sc_cell : FnScope ["_law_script", "_law_k"] ["_law_script", "_law_k"] (defScope s__law_cell) := ⟨rfl, rfl, rfl, by decide +kernel, rfl, by decide +kernel, by decide +kernel⟩
theorem fn_cell (T : Tx K mg) : FnR P w K mg base (L2.CX P w) 1 (He.ga K "_law_cell") (spCell K) := by
  refine fnr T.f__law_cell sc_cell (fun vs H Q E h => ?_) (fun _ _ _ _ _ _ us hl => match us, hl with | [_, _], _ => rfl) fun cdv A outer s H vs Q E hr h => ?_
  · obtain ⟨a, ns, k, rfl, _⟩ := h
    rfl
  · obtain ⟨a, ns, k, rfl, hl, q⟩ := h
    refine s_one (s_ret (w_ife (t_cmp op_lt (w_var 1 rfl (w_callB call_len T.b_len (by decide +kernel) (a_cons (w_var 0 rfl (a_nil ⟨_, (ns.map V.int).length, rfl, .inl ⟨_, hl, rfl⟩, _, _, rfl, rfl, _, rfl, ?_⟩))))))))
    by_cases hk : k < ns.length
    · refine ifT (decide_eq_true (by rw [List.length_map]; omega)) ?_
      refine w_ix ix_list (w_var 0 rfl (w_var 1 rfl ⟨a, _, _, .int (ns.getD k 0), rfl, rfl, hl, ?_, q⟩))
      refine atI_nat ?_
      rw [List.getElem?_map, List.getElem?_eq_getElem hk, List.getD_eq_getElem?_getD, List.getElem?_eq_getElem hk]
      rfl
    · refine ifF (decide_eq_false (by rw [List.length_map]; omega)) (w_int ?_)
      have e : ns.getD k 0 = 0 := by rw [List.getD_eq_getElem?_getD, List.getElem?_eq_none (by omega)]; rfl
      rw [e] at q
      exact q
def spBox (K : PySem.W.Frag) : Sp := fun vs H Q _ => ∃ (a : Addr) (ns : List Int) (k : Nat), vs = [.ref a, .int k] ∧ k ≤ 63 ∧ SqL K H a (ns.map V.int) ∧ ∀ b H', H b = none → Same H H' → Bx H' b 0 → Q (.ref b) H'
theorem sc_box : FnScope ["_law_script", "_law_k"] ["_law_script", "_law_k"] (defScope s__law_box) := ⟨rfl, rfl, rfl, by decide +kernel, rfl, by decide +kernel, by decide +kernel⟩
theorem fn_box (T : Tx K mg) : FnR P w K mg base (L2.CX P w) 2 (He.ga K "_law_box") (spBox K) := by
  refine fnr T.f__law_box sc_box (fun vs H Q E h => ?_) (fun _ _ _ _ _ _ us hl => match us, hl with | [_, _], _ => rfl) fun cdv A outer s H vs Q E hr h => ?_
  · obtain ⟨a, ns, k, rfl, _⟩ := h
    rfl
  · obtain ⟨a, ns, k, rfl, hk, hl, q⟩ := h
    refine s_one (s_ret (w_lst (a_cons (w_callB call_abs T.b_abs (by decide +kernel) (a_cons (w_callT call_int1 T.b_int (by decide +kernel) (a_cons (w_call (fn_cell T) hr T.g__law_cell (kept T.f__law_cell) passL
      (a_cons (w_var 0 rfl (a_cons (w_var 1 rfl (a_nil ⟨a, ns, k, rfl, hl, a_nil (.inl ⟨_, rfl, a_nil ⟨_, rfl, ?_⟩⟩)⟩)))))))))))))
    refine a_cons (w_int (a_cons (w_op op_add (w_op op_mul (w_int (w_var 1 rfl ⟨_, _, rfl, rfl, .inl ⟨by decide, by decide⟩, w_int ⟨_, _, rfl, rfl, a_nil ⟨by show 3 ≤ sizeLine; decide, fun b hb => ?_⟩⟩⟩))))))
    refine q b _ hb (same_new hb) ⟨_, _, _, upd_same, ?_, by decide, by decide, by omega, by omega⟩
    split <;> omega
/-! ### take: any number from 0 to below many -/
def spTake : Sp := fun vs H Q _ => ∃ (b : Addr) (m : Int) (N : Nat), vs = [.ref b, .int m] ∧ Bx H b N ∧ N ≤ 1000000 ∧ 0 < m ∧ m.natAbs < 2 ^ 9000 ∧ ∀ r H', 0 ≤ r → r < m → Bx H' b (N + 1) → Kp b H H' → Q (.int r) H'
theorem sc_take : FnScope ["_law_box_here", "_law_many", "_law_digit", "_law_mixed"] ["_law_box_here", "_law_many"] (defScope s__law_take) := ⟨rfl, rfl, rfl, by decide +kernel, rfl, by decide +kernel, by decide +kernel⟩
theorem pow3_lt {i : Int} {n : Nat} (h : i.natAbs < 2 ^ n) : i.natAbs < 2 ^ n := h
theorem fn_take (T : Tx K mg) : FnR P w K mg base (L2.CX P w) 1 (He.ga K "_law_take") spTake := by
  refine fnr T.f__law_take sc_take (fun vs H Q E h => ?_) (fun _ _ _ _ _ _ us hl => match us, hl with | [_, _], _ => rfl) fun cdv A outer s H vs Q E hr h => ?_
  · obtain ⟨b, m, N, rfl, _⟩ := h
    rfl
  · obtain ⟨b, m, N, rfl, ⟨n, c, d, hb, hn, hc0, hcN, hd0, hd1⟩, hN, hm, hm2, q⟩ := h
    have it : ∀ {H : Hp} {n c d : Int}, H b = some (.lst [.int n, .int c, .int d]) → SqL K H b [.int n, .int c, .int d] := fun h => SqL.of h
    refine s_cons (s_if (t_cmp op_ge (w_ix ix_list (w_var 0 rfl (w_int ⟨b, _, 0, _, rfl, rfl, it hb, rfl, w_op op_powW (w_int (w_int ⟨10, 18, rfl, rfl, ⟨by decide, by decide, by decide +kernel⟩, n, _, rfl, rfl, _, rfl, ?_⟩))⟩)))))
    have nd := sc_take.nd
    by_cases hbig : (10 : Int) ^ (18 : Int).toNat ≤ n
    · refine ifT (decide_eq_true hbig) ?_
      refine s_cons (s_set 2 nd (w_op op_mod (w_callT call_int1 T.b_int (by decide +kernel) (a_cons (w_ix ix_list (w_var 0 rfl (w_int ⟨b, _, 0, _, rfl, rfl, it hb, rfl, a_nil (.inl ⟨_, rfl, w_var 1 rfl ⟨_, _, rfl, rfl, hm, ?_⟩⟩)⟩)))))))
      refine s_cons (s_asg (pg_sub peW peW set_list) (w_op op_fdivA (w_ix ix_list (w_var 0 rfl (w_int ⟨b, _, 0, _, rfl, rfl, it hb, rfl, w_var 1 rfl ⟨_, _, rfl, rfl, ⟨by omega, hm2⟩, w_var 0 rfl (w_int ⟨b, _, 0, 0, rfl, rfl, hb, rfl, ?_⟩)⟩⟩)))))
      refine s_one (s_ret (w_var 2 rfl ?_))
      refine q _ _ (Int.emod_nonneg _ (by omega)) (Int.emod_lt_of_pos _ hm) ⟨_, _, _, upd_same, ?_, hc0, by omega, hd0, hd1⟩ kp_upd
      rw [Int.fdiv_eq_ediv_of_nonneg _ (by omega)]
      exact Int.ediv_nonneg hn (by omega)
    · refine ifF (decide_eq_false hbig) (s_nil ?_)
      have hsm : n < 1000000000000000000 := by
        have e : (10 : Int) ^ (18 : Int).toNat = 1000000000000000000 := by decide +kernel
        omega
      refine s_cons (s_asg (pg_sub peW peW set_list) (w_op op_add (w_ix ix_list (w_var 0 rfl (w_int ⟨b, _, 1, _, rfl, rfl, it hb, rfl, w_int ⟨_, _, rfl, rfl, w_var 0 rfl (w_int ⟨b, _, 1, 1, rfl, rfl, hb, rfl, ?_⟩)⟩⟩)))))
      have hb2 : upd H b (.lst (([.int n, .int c, .int d] : List V).set 1 (.int (c + 1)))) b = some (.lst [.int n, .int (c + 1), .int d]) := upd_same
      generalize hH2 : upd H b (.lst (([.int n, .int c, .int d] : List V).set 1 (.int (c + 1)))) = H2 at hb2
      have kp2 : Kp b H H2 := by rw [← hH2]; exact kp_upd
      have done : ∀ r, 0 ≤ r → r < m → Q (.int r) H2 := fun r h1 h2 => q r H2 h1 h2 ⟨n, c + 1, d, hb2, hn, by omega, by omega, hd0, hd1⟩ kp2
      have big1 : ((n + 7) * 69069 + (c + 1) * 40692 + d).natAbs < 2 ^ 1000 := Nat.lt_of_lt_of_le (show _ < 2 ^ 100 by omega) (Nat.pow_le_pow_right (by decide) (by decide))
      refine s_cons (s_set 3 nd (w_op op_mod (w_op op_powW (w_callT call_int1 T.b_int (by decide +kernel) (a_cons (w_op op_add (w_op op_add (w_op op_mul (w_op op_add (w_ix ix_list (w_var 0 rfl (w_int ⟨b, _, 0, _, rfl, rfl, it hb2, rfl, w_int ⟨_, _, rfl, rfl, w_int ⟨_, _, rfl, rfl, .inr ⟨by decide, by decide⟩, ?_⟩⟩⟩))))))))))))
      refine w_op op_mul (w_ix ix_list (w_var 0 rfl (w_int ⟨b, _, 1, _, rfl, rfl, it hb2, rfl, w_int ⟨_, _, rfl, rfl, .inr ⟨by decide, by decide⟩, _, _, rfl, rfl, ?_⟩⟩)))
      refine w_ix ix_list (w_var 0 rfl (w_int ⟨b, _, 2, _, rfl, rfl, it hb2, rfl, _, _, rfl, rfl, a_nil (.inl ⟨_, rfl, w_int ⟨_, _, rfl, rfl, ⟨by decide, by decide, big1⟩, w_int ⟨_, _, rfl, rfl, by show (0 : Int) < 2147483647; decide, ?_⟩⟩⟩)⟩))
      have big2 : ∀ z : Int, 0 ≤ z → z < 2147483647 → (z + (c + 1) * 17389).natAbs < 2 ^ 1000 := fun z h1 h2 => Nat.lt_of_lt_of_le (show _ < 2 ^ 100 by omega) (Nat.pow_le_pow_right (by decide) (by decide))
      refine s_cons (s_set 3 nd (w_op op_mod (w_op op_powW (w_callT call_int1 T.b_int (by decide +kernel) (a_cons (w_op op_add (w_var 3 rfl (w_op op_mul (w_ix ix_list (w_var 0 rfl (w_int ⟨b, _, 1, _, rfl, rfl, it hb2, rfl, w_int ⟨_, _, rfl, rfl, .inr ⟨by decide, by decide⟩, _, _, rfl, rfl, ?_⟩⟩)))))))))))
      refine a_nil (.inl ⟨_, rfl, w_int ⟨_, _, rfl, rfl, ⟨by decide, by decide, big2 _ (Int.emod_nonneg _ (by decide)) (Int.emod_lt_of_pos _ (by decide))⟩, w_int ⟨_, _, rfl, rfl, by show (0 : Int) < 2147483399; decide, ?_⟩⟩⟩)
      refine s_one (s_ret (w_op op_mod (w_callT call_int1 T.b_int (by decide +kernel) (a_cons (w_op op_fdiv (w_var 3 rfl (w_int ⟨_, _, rfl, rfl, ⟨by decide, by decide⟩, a_nil (.inl ⟨_, rfl, w_var 1 rfl ⟨_, _, rfl, rfl, hm, ?_⟩⟩)⟩)))))))
      exact done _ (Int.emod_nonneg _ (by omega)) (Int.emod_lt_of_pos _ hm)
end
section
variable {X : Cx} {e1 e2 : Expr} {σ : L2.St} {H : Hp} {Q : VK} {p pos : Pos}
theorem w_take (T : Tx X.K X.mg) (hr : Room 1 X.A) (h : We X e1 σ H fun x H1 => We X e2 σ H1 fun y H2 => ∃ (b : Addr) (m : Int) (N : Nat), x = .ref b ∧ y = .int m ∧ Bx H2 b N ∧ N ≤ 1000000 ∧ 0 < m ∧ m.natAbs < 2 ^ 9000 ∧ ∀ r H', 0 ≤ r → r < m → Bx H' b (N + 1) → Kp b H2 H' → Q (.int r) H')
    (hg : Gl X "_law_take" := by rfl) (he : starEach [e1, e2] X.env = (false, eval e1 X.env) :: starEach [e2] X.env := by rfl) (he2 : starEach [e2] X.env = (false, eval e2 X.env) :: starEach [] X.env := by rfl) (hpl : (backTo pos (starEach [e2] X.env)).any (·.1) = false := by rfl) : We X (.Call (.Name "_law_take" p) [e1, e2] [] pos) σ H Q := by
  refine w_call (fn_take T) hr T.g__law_take (kept T.f__law_take) passL (a_cons (We.mono h fun x H1 z => a_cons (We.mono z fun y H2 z2 => a_nil ?_) he2) he) hg (by decide) he hpl
  obtain ⟨b, m, N, rfl, rfl, r⟩ := z2
  exact ⟨b, m, N, rfl, r⟩
end
end LW
namespace LW
open PySem PySem.Spec PyProof.Rows L2 PR
theorem Kp.new {b p : Addr} {H H' : Hp} {o : HO} (hp : H p = none) (k : Kp b (upd H p o) H') : Kp b H H' := fun a u n e => k a u n (by rw [upd_ne (ne_of_none e hp)]; exact e)
theorem Bx.at_ {H : Hp} {b : Addr} {N : Nat} (h : Bx H b N) : ∃ o, H b = some o := by
  obtain ⟨_, _, _, e, _⟩ := h
  exact ⟨_, e⟩
theorem Bx.ne_new {H : Hp} {b p : Addr} {N : Nat} (h : Bx H b N) (hp : H p = none) : p ≠ b := fun e => by
  obtain ⟨o, z⟩ := h.at_
  rw [← e, hp] at z
  cases z
theorem Bx.mono {H : Hp} {b : Addr} {N M : Nat} (h : Bx H b N) (k : N ≤ M) : Bx H b M := by
  obtain ⟨n, c, d, e, h1, h2, h3, h4, h5⟩ := h
  exact ⟨n, c, d, e, h1, h2, by omega, h4, h5⟩
theorem small9 {z : Int} (h : z.natAbs < 2 ^ 500) : z.natAbs < 2 ^ 9000 := Nat.lt_of_lt_of_le h (Nat.pow_le_pow_right (by decide) (by decide))
theorem small4 {z : Int} (h : z.natAbs < 2 ^ 500) : z.natAbs < 2 ^ 4000 := Nat.lt_of_lt_of_le h (Nat.pow_le_pow_right (by decide) (by decide))
theorem len_line {n : Nat} (h : n ≤ 1000) : n ≤ sizeLine := by rw [sizeLine_eq]; omega
section
variable {X : Cx} {bx : Expr} {es : List Expr} {σ : L2.St} {H : Hp} {Q : VK} {p pos pl pm ps : Pos} {m : Int} {j : Option Nat}
/-- [..][take(box, m)] -/
theorem w_menu {jj} (T : Tx X.K X.mg) (hr : Room 1 X.A) (h : Wa X es σ H fun xs H1 => (xs.length : Int) = m ∧ 0 < xs.length ∧ xs.length ≤ 1000 ∧ ∀ p, H1 p = none → We X bx σ (upd H1 p (.lst xs)) fun y H2 => H2 = upd H1 p (.lst xs) ∧ ∃ b N, y = .ref b ∧ Bx H1 b N ∧ N ≤ 1000000 ∧
      ∀ x ∈ xs, ∀ H', Bx H' b (N + 1) → Kp b H1 H' → Q x H')
    (hg : Gl X "_law_take" := by rfl) (he : starEach [bx, .Constant (.int m) jj pm] X.env = (false, eval bx X.env) :: starEach [.Constant (.int m) jj pm] X.env := by rfl) (he2 : starEach [.Constant (.int m) jj pm] X.env = (false, eval (.Constant (.int m) jj pm) X.env) :: starEach [] X.env := by rfl) (hpl : (backTo pos (starEach [.Constant (.int m) jj pm] X.env)).any (·.1) = false := by rfl) :
    We X (.Subscript (.List es pl) (.Call (.Name "_law_take" p) [bx, .Constant (.int m) jj pm] [] pos) ps) σ H Q := by
  refine w_ix ix_list (w_lst (Wa.mono h fun xs H1 z => ?_)) (fun _ _ => rfl)
  obtain ⟨hm, h0, hl, z⟩ := z
  refine ⟨len_line hl, fun p hp => ?_⟩
  refine w_take T hr (We.mono (z p hp) fun y H2 z2 => ?_) hg he he2 hpl
  obtain ⟨rfl, b, N, rfl, hB, hN, k⟩ := z2
  refine w_int ⟨b, m, N, rfl, rfl, hB.same (same_new hp), hN, by omega, small9 (Nat.lt_of_le_of_lt (show m.natAbs ≤ 1000 by omega) (by decide +kernel)), fun r H' r0 r1 hB' hk => ?_⟩
  have hr1 : r.toNat < xs.length := by omega
  refine ⟨p, xs, r, xs[r.toNat], rfl, rfl, SqL.of (hk p _ (hB.ne_new hp) upd_same), ?_, k _ (List.getElem_mem hr1) H' hB' (hk.new hp)⟩
  have e : r = (r.toNat : Int) := by omega
  have z3 : atI xs ((r.toNat : Nat) : Int) = some xs[r.toNat] := atI_nat (List.getElem?_eq_getElem hr1)
  rw [← e] at z3
  exact z3
end
theorem same_kp {b : Addr} {H0 H1 H2 : Hp} (hb : H0 b = none) (s : Same H0 H1) (k : Kp b H1 H2) : Same H0 H2 := fun a o e => k a o (ne_of_none e hb) (s a o e)
section
variable {X : Cx} {e : Expr} {σ : L2.St} {H : Hp} {Q : VK} {pos pi : Pos} {ji : Nat}
theorem w_l0 (h : We X e σ H fun x H1 => ∃ l y z, x = .ref l ∧ H1 l = some (.lst [y, z]) ∧ Q y H1) : We X (.Subscript e (.Constant (.int 0) ji pi) pos) σ H Q :=
  w_ix ix_list (We.mono h fun x H1 ⟨l, y, z, e, h, k⟩ => w_int ⟨l, _, 0, _, e, rfl, SqL.of h, rfl, k⟩)
theorem w_l1 (h : We X e σ H fun x H1 => ∃ l y z, x = .ref l ∧ H1 l = some (.lst [y, z]) ∧ Q z H1) : We X (.Subscript e (.Constant (.int 1) ji pi) pos) σ H Q :=
  w_ix ix_list (We.mono h fun x H1 ⟨l, y, z, e, h, k⟩ => w_int ⟨l, _, 1, _, e, rfl, SqL.of h, rfl, k⟩)
end
end LW
namespace LW
open PySem PySem.Spec PyProof.Rows L2 PR
/-- v is the pair (top, bottom) of q -/
def Tq (K : PySem.W.Frag) (H : Hp) (v : V) (q : Rat) : Prop := ∃ a, v = .ref a ∧ H a = some (.tup [.int q.num, .int (q.den : Int)])
theorem Tq.same {K : PySem.W.Frag} {H H' : Hp} {v : V} {q : Rat} (h : Tq K H v q) (s : Same H H') : Tq K H' v q := by
  obtain ⟨a, e, h⟩ := h
  exact ⟨a, e, s _ _ h⟩
theorem Tq.kp {K : PySem.W.Frag} {H H' : Hp} {v : V} {q : Rat} {b : Addr} {N : Nat} (h : Tq K H v q) (x : Bx H b N) (s : Kp b H H') : Tq K H' v q := by
  obtain ⟨a, e, h⟩ := h
  exact ⟨a, e, s _ _ (x.ne h (fun _ z => nomatch z)) h⟩
theorem Rt.kp {K : PySem.W.Frag} {H H' : Hp} {v : V} {q : Rat} {b : Addr} {N : Nat} (h : Rt K H v q) (x : Bx H b N) (s : Kp b H H') : Rt K H' v q := by
  obtain ⟨a, dx, e, h⟩ := h
  exact ⟨a, dx, e, s _ _ (x.ne h (fun _ z => nomatch z)) h⟩
theorem tq_new {K : PySem.W.Frag} {H : Hp} {p : Addr} {q : Rat} : Tq K (upd H p (.tup [.int q.num, .int (q.den : Int)])) (.ref p) q := ⟨p, rfl, upd_same⟩
section
variable {X : Cx} {e e1 e2 : Expr} {σ : L2.St} {H : Hp} {Q : VK} {p pos pi : Pos} {ji : Nat}
theorem w_tq0 (h : We X e σ H fun x H1 => ∃ q, Tq X.K H1 x q ∧ Q (.int q.num) H1) : We X (.Subscript e (.Constant (.int 0) ji pi) pos) σ H Q :=
  w_ix ix_tup (We.mono h fun x H1 ⟨q, ⟨a, e, h⟩, k⟩ => w_int ⟨a, _, 0, _, e, rfl, SqT.of h, rfl, k⟩)
theorem w_tq1 (h : We X e σ H fun x H1 => ∃ q, Tq X.K H1 x q ∧ Q (.int (q.den : Int)) H1) : We X (.Subscript e (.Constant (.int 1) ji pi) pos) σ H Q :=
  w_ix ix_tup (We.mono h fun x H1 ⟨q, ⟨a, e, h⟩, k⟩ => w_int ⟨a, _, 1, _, e, rfl, SqT.of h, rfl, k⟩)
end
section
variable {P : Program} {w : World} {K : PySem.W.Frag} {mg : Str → Option Value} {base : Heap}
def spFrac (K : PySem.W.Frag) : Sp := fun vs H Q _ => ∃ a b : Int, vs = [.int a, .int b] ∧ b ≠ 0 ∧ b.natAbs < 2 ^ 9000 ∧ ∀ v H', Same H H' → Tq K H' v (Rat.divInt a b) → Q v H'
theorem sc_frac : FnScope ["_law_up", "_law_down", "_law_one", "_law_other"] ["_law_up", "_law_down"] (defScope s__law_frac) := ⟨rfl, rfl, rfl, by decide +kernel, rfl, by decide +kernel, by decide +kernel⟩
theorem fn_frac (T : Tx K mg) : FnR P w K mg base (L2.CX P w) 1 (He.ga K "_law_frac") (spFrac K) := by
  refine fnr T.f__law_frac sc_frac (fun vs H Q E h => ?_) (fun _ _ _ _ _ _ us hl => match us, hl with | [_, _], _ => rfl) fun cdv A outer s H vs Q E hr h => ?_
  · obtain ⟨a, b, rfl, _⟩ := h
    rfl
  · obtain ⟨a, b, rfl, hb, hb2, q⟩ := h
    refine s_cons (s_par 2 3 sc_frac.nd (a_cons (w_callB call_abs T.b_abs (by decide +kernel) (a_cons (w_var 0 rfl (a_nil ⟨a, rfl, a_cons (w_callB call_abs T.b_abs (by decide +kernel) (a_cons (w_var 1 rfl (a_nil ⟨b, rfl, a_nil ⟨_, _, rfl, ?_⟩⟩))))⟩))))))
    have abse : ∀ z : Int, (if z < 0 then -z else z) = (z.natAbs : Int) := fun z => by split <;> omega
    rw [abse, abse]
    refine s_cons (s_while (passes_of rfl) (fun σ H' => ∃ x y : Int, σ = [some (.int a), some (.int b), some (.int x), some (.int y)] ∧ H' = H ∧ 0 ≤ x ∧ 0 ≤ y ∧ Int.gcd x y = Int.gcd a b) (fun σ _ => match σ with | [_, _, _, some (.int y)] => y.natAbs | _ => 0)
      ⟨_, _, rfl, rfl, by omega, by omega, by show Nat.gcd _ _ = Nat.gcd _ _; simp⟩ ?_)
    rintro σ H' ⟨x, y, rfl, rfl, hx0, hy0, e⟩
    refine t_cmp op_gt (w_var 3 rfl (w_int ⟨_, _, rfl, rfl, _, rfl, ?_⟩))
    by_cases hy : 0 < y
    · refine ifT (decide_eq_true hy) ?_
      refine s_one (s_par 2 3 sc_frac.nd (a_cons (w_var 3 rfl (a_cons (w_op op_modN (w_var 2 rfl (w_var 3 rfl ⟨x, y, rfl, rfl, by omega, a_nil ⟨_, _, rfl, ?_⟩⟩)))))))
      exact ⟨⟨y, x.fmod y, rfl, rfl, hy0, Int.fmod_nonneg_of_pos x hy, (RM.gcd_turn (by omega)).trans e⟩, RM.fmod_small (by omega)⟩
    · refine ifF (decide_eq_false hy) ?_
      have ey : y = 0 := by omega
      subst ey
      have ex : x = (Int.gcd a b : Int) := by rw [← e, Int.gcd_zero_right]; omega
      subst ex
      have hs := RM.sg_ne (a := a) hb
      have hg : (RM.sg a b).natAbs < 2 ^ 9000 := by
        have h1 : (RM.sg a b).natAbs = Int.gcd a b := by unfold RM.sg; split <;> omega
        rw [h1]
        exact Nat.lt_of_le_of_lt (Int.gcd_le_natAbs_right a hb) hb2
      have rest : ∀ v, v = V.int (RM.sg a b) → Wb (cxOf (L2.CX P w) P w K mg base ["_law_up", "_law_down", "_law_one", "_law_other"] "_law_frac" (defScope s__law_frac) (He.ga K "_law_frac") cdv A outer s H' E) ((defBody s__law_frac).drop 3)
          { nx := fun _ H' => Q .non H', rt := Q } [some (.int a), some (.int b), some v, some (.int 0)] H' := by
        rintro v rfl
        refine s_one (s_ret (w_tup (a_cons (w_op op_fdivA (w_var 0 rfl (w_var 2 rfl ⟨_, _, rfl, rfl, ⟨hs, hg⟩, a_cons (w_op op_fdivA (w_var 1 rfl (w_var 2 rfl ⟨_, _, rfl, rfl, ⟨hs, hg⟩, a_nil ⟨by show 2 ≤ sizeLine; decide, fun p hp => ?_⟩⟩)))⟩))))))
        refine q _ _ (same_new hp) ⟨p, rfl, ?_⟩
        rw [upd_same, ← RM.num_eq hb, ← RM.den_eq hb]
      refine s_cons (s_if (t_cmp op_lt (w_var 1 rfl (w_int ⟨_, _, rfl, rfl, _, rfl, ?_⟩))))
      by_cases hn : b < 0
      · refine ifT (decide_eq_true hn) (s_one (s_set 2 sc_frac.nd (w_op op_sub (w_int (w_var 2 rfl ⟨_, _, rfl, rfl, ?_⟩)))))
        exact rest _ (by unfold RM.sg; rw [if_neg (by omega)]; show V.int (0 - _) = _; congr 1; omega)
      · refine ifF (decide_eq_false hn) (s_nil ?_)
        exact rest _ (by unfold RM.sg; rw [if_pos (by omega)])
/-- two pairs -/
def spTq2 (K : PySem.W.Frag) (f : Rat → Rat → Rat) : Sp := fun vs H Q _ => ∃ (x y : V) (p q : Rat), vs = [x, y] ∧ Tq K H x p ∧ Tq K H y q ∧ RM.Lt p 4000 ∧ RM.Lt q 4000 ∧ ∀ v H', Same H H' → Tq K H' v (f p q) → Q v H'
def spTqB (K : PySem.W.Frag) (f : Rat → Rat → Bool) : Sp := fun vs H Q _ => ∃ (x y : V) (p q : Rat), vs = [x, y] ∧ Tq K H x p ∧ Tq K H y q ∧ RM.Lt p 4000 ∧ RM.Lt q 4000 ∧ Q (.bl (f p q)) H
theorem sc_plus : FnScope ["_law_x", "_law_y"] ["_law_x", "_law_y"] (defScope s__law_plus) := ⟨rfl, rfl, rfl, by decide +kernel, rfl, by decide +kernel, by decide +kernel⟩
theorem fn_plus (T : Tx K mg) : FnR P w K mg base (L2.CX P w) 2 (He.ga K "_law_plus") (spTq2 K (· + ·)) := by
  refine fnr T.f__law_plus sc_plus (fun vs H Q E h => ?_) (fun _ _ _ _ _ _ us hl => match us, hl with | [_, _], _ => rfl) fun cdv A outer s H vs Q E hr h => ?_
  · obtain ⟨x, y, p, q, rfl, _⟩ := h
    rfl
  · obtain ⟨x, y, p, q, rfl, hx, hy, lp, lq, k⟩ := h
    refine s_one (s_ret (w_call (fn_frac T) hr T.g__law_frac (kept T.f__law_frac) passL ?_))
    refine a_cons (w_op op_add (w_op op_mulW (w_tq0 (w_var 0 rfl ⟨p, hx, w_tq1 (w_var 1 rfl ⟨q, hy, _, _, rfl, rfl, cmul lp.1 (RM.den_lt lq), ?_⟩)⟩))))
    refine w_op op_mulW (w_tq0 (w_var 1 rfl ⟨q, hy, w_tq1 (w_var 0 rfl ⟨p, hx, _, _, rfl, rfl, cmul lq.1 (RM.den_lt lp), _, _, rfl, rfl, ?_⟩)⟩))
    refine a_cons (w_op op_mulW (w_tq1 (w_var 0 rfl ⟨p, hx, w_tq1 (w_var 1 rfl ⟨q, hy, _, _, rfl, rfl, cmul (RM.den_lt lp) (RM.den_lt lq), ?_⟩)⟩)))
    refine a_nil ⟨_, _, rfl, RM.mul_den_ne p q, bot_lt (RM.den_lt lp) (RM.den_lt lq), fun v H' s2 hv => k v H' s2 ?_⟩
    show Tq K H' v (p + q)
    rw [RM.add_eq]
    exact hv
theorem sc_times : FnScope ["_law_x", "_law_y"] ["_law_x", "_law_y"] (defScope s__law_times) := ⟨rfl, rfl, rfl, by decide +kernel, rfl, by decide +kernel, by decide +kernel⟩
theorem fn_times (T : Tx K mg) : FnR P w K mg base (L2.CX P w) 2 (He.ga K "_law_times") (spTq2 K (· * ·)) := by
  refine fnr T.f__law_times sc_times (fun vs H Q E h => ?_) (fun _ _ _ _ _ _ us hl => match us, hl with | [_, _], _ => rfl) fun cdv A outer s H vs Q E hr h => ?_
  · obtain ⟨x, y, p, q, rfl, _⟩ := h
    rfl
  · obtain ⟨x, y, p, q, rfl, hx, hy, lp, lq, k⟩ := h
    refine s_one (s_ret (w_call (fn_frac T) hr T.g__law_frac (kept T.f__law_frac) passL ?_))
    refine a_cons (w_op op_mulW (w_tq0 (w_var 0 rfl ⟨p, hx, w_tq0 (w_var 1 rfl ⟨q, hy, _, _, rfl, rfl, cmul lp.1 lq.1, ?_⟩)⟩)))
    refine a_cons (w_op op_mulW (w_tq1 (w_var 0 rfl ⟨p, hx, w_tq1 (w_var 1 rfl ⟨q, hy, _, _, rfl, rfl, cmul (RM.den_lt lp) (RM.den_lt lq), ?_⟩)⟩)))
    refine a_nil ⟨_, _, rfl, RM.mul_den_ne p q, bot_lt (RM.den_lt lp) (RM.den_lt lq), fun v H' s2 hv => k v H' s2 ?_⟩
    show Tq K H' v (p * q)
    rw [RM.mul_eq]
    exact hv
theorem sc_less : FnScope ["_law_x", "_law_y"] ["_law_x", "_law_y"] (defScope s__law_less) := ⟨rfl, rfl, rfl, by decide +kernel, rfl, by decide +kernel, by decide +kernel⟩
theorem fn_less (T : Tx K mg) : FnR P w K mg base (L2.CX P w) 1 (He.ga K "_law_less") (spTqB K fun p q => decide (p < q)) := by
  refine fnr T.f__law_less sc_less (fun vs H Q E h => ?_) (fun _ _ _ _ _ _ us hl => match us, hl with | [_, _], _ => rfl) fun cdv A outer s H vs Q E hr h => ?_
  · obtain ⟨x, y, p, q, rfl, _⟩ := h
    rfl
  · obtain ⟨x, y, p, q, rfl, hx, hy, lp, lq, k⟩ := h
    refine s_one (s_ret (w_cmp op_lt (w_op op_mulW (w_tq0 (w_var 0 rfl ⟨p, hx, w_tq1 (w_var 1 rfl ⟨q, hy, _, _, rfl, rfl, cmul lp.1 (RM.den_lt lq), ?_⟩)⟩)))))
    refine w_op op_mulW (w_tq0 (w_var 1 rfl ⟨q, hy, w_tq1 (w_var 0 rfl ⟨p, hx, _, _, rfl, rfl, cmul lq.1 (RM.den_lt lp), _, _, rfl, rfl, ?_⟩)⟩))
    have z : Q (.bl (decide (p < q))) _ := k
    rw [show decide (p < q) = decide (p.num * (q.den : Int) < q.num * (p.den : Int)) from decide_eq_decide.mpr (RM.lt_iff p q)] at z
    exact z
end
end LW
namespace LW
open PySem PySem.Spec PyProof.Rows L2 PR
section
variable {X : Cx} {e e1 e2 : Expr} {σ : L2.St} {H : Hp} {Q : VK} {p pos : Pos}
/-- plus, minus, times -/
theorem w_f2 {x : Str} {f : Addr} {op : Rat → Rat → Rat} (F : FnR X.prog X.w X.K X.mg X.base (L2.CX X.prog X.w) 2 f (spTq2 X.K op)) (hm : X.mg x = some (.ref f)) (hk : PySem.W.keepIn X.K (.ref f) = true) (hr : Room 2 X.A)
    (h : We X e1 σ H fun v H1 => We X e2 σ H1 fun t H2 => ∃ p q, Tq X.K H2 v p ∧ Tq X.K H2 t q ∧ RM.Lt p 4000 ∧ RM.Lt q 4000 ∧ ∀ v H3, Same H2 H3 → Tq X.K H3 v (op p q) → Q v H3)
    (hg : Gl X x := by rfl) (hdb : (x == ("__debug__" : Str)) = false := by decide) (he : starEach [e1, e2] X.env = (false, eval e1 X.env) :: starEach [e2] X.env := by rfl) (he2 : starEach [e2] X.env = (false, eval e2 X.env) :: starEach [] X.env := by rfl) (hpl : (backTo pos (starEach [e2] X.env)).any (·.1) = false := by rfl) : We X (.Call (.Name x p) [e1, e2] [] pos) σ H Q := by
  refine w_call F hr hm hk passL (a_cons (We.mono h fun x H1 z => a_cons (We.mono z fun y H2 z2 => a_nil ?_) he2) he) hg hdb he hpl
  obtain ⟨p, q, h1, h2, l1, l2, k⟩ := z2
  exact ⟨x, y, p, q, rfl, h1, h2, l1, l2, k⟩
theorem w_frac (T : Tx X.K X.mg) (hr : Room 1 X.A) (h : We X e1 σ H fun v H1 => We X e2 σ H1 fun t H2 => ∃ a b : Int, v = .int a ∧ t = .int b ∧ b ≠ 0 ∧ b.natAbs < 2 ^ 9000 ∧ ∀ v H', Same H2 H' → Tq X.K H' v (Rat.divInt a b) → Q v H')
    (hg : Gl X "_law_frac" := by rfl) (he : starEach [e1, e2] X.env = (false, eval e1 X.env) :: starEach [e2] X.env := by rfl) (he2 : starEach [e2] X.env = (false, eval e2 X.env) :: starEach [] X.env := by rfl) (hpl : (backTo pos (starEach [e2] X.env)).any (·.1) = false := by rfl) : We X (.Call (.Name "_law_frac" p) [e1, e2] [] pos) σ H Q := by
  refine w_call (fn_frac T) hr T.g__law_frac (kept T.f__law_frac) passL (a_cons (We.mono h fun x H1 z => a_cons (We.mono z fun y H2 z2 => a_nil ?_) he2) he) hg (by decide) he hpl
  obtain ⟨a, b, rfl, rfl, r⟩ := z2
  exact ⟨a, b, rfl, r⟩
/-- (n, 1) -/
theorem w_pair1 {k jj} {p1 : Pos} (h : We X e σ H fun v H1 => ∃ n : Int, v = .int n ∧ ∀ t H', Same H1 H' → Tq X.K H' t (n : Rat) → Q t H') (he : starEach [e, .Constant (.int 1) jj p1] X.env = (false, eval e X.env) :: starEach [.Constant (.int 1) jj p1] X.env := by rfl)
    (he2 : starEach [.Constant (.int 1) jj p1] X.env = (false, eval (.Constant (.int 1) jj p1) X.env) :: starEach [] X.env := by rfl) : We X (.Tuple [e, .Constant (.int 1) jj p1] k pos) σ H Q := by
  refine w_tup (a_cons (We.mono h fun v H1 z => ?_) he)
  obtain ⟨n, rfl, z⟩ := z
  exact a_cons (w_int (a_nil ⟨by show 2 ≤ sizeLine; decide, fun t ht => z (.ref t) _ (same_new ht) ⟨t, rfl, upd_same⟩⟩)) he2
end
end LW
namespace LW
open PySem PySem.Spec PyProof.Rows L2 PR
def oV : Option Int → V
  | some n => .int n
  | none => .non
theorem str_minus : (Str.ofString "-") = SX.S [45] := TL.ext_tl (by decide +kernel)
theorem str_slash : (Str.ofString "/") = TM.sl := TL.ext_tl (by decide +kernel)
theorem dig_mem (c : Nat) : decide (c ∈ (Str.ofString "0123456789").cps.toList) = (decide (48 ≤ c) && decide (c ≤ 57)) := by
  have e : (Str.ofString "0123456789").cps.toList = [48, 49, 50, 51, 52, 53, 54, 55, 56, 57] := by decide +kernel
  rw [e]
  simp only [List.mem_cons, List.not_mem_nil, or_false]
  rw [Bool.eq_iff_iff]
  simp only [decide_eq_true_eq, Bool.and_eq_true]
  omega
theorem str_len {w : Str} {n : Nat} (h : w.length ≤ n) (hn : n ≤ 1000) : w.length ≤ sizeLine := len_line (Nat.le_trans h hn)
theorem S_line {l : List Nat} (h : l.length ≤ 1000) : (SX.S l).length ≤ sizeLine := by rw [SX.S_len]; exact len_line h
section
variable {P : Program} {w : World} {K : PySem.W.Frag} {mg : Str → Option Value} {base : Heap}
theorem dz_len (l : List Nat) : (TM.dz l).length ≤ l.length := by
  unfold TM.dz
  split
  · rw [List.length_drop]; omega
  · exact Nat.le_refl _
def spWz : Sp := fun vs H Q _ => ∃ t : Str, vs = [.str t] ∧ t.length ≤ 400 ∧ ∀ H', Same H H' → Q (oV (TM.wz t)) H'
theorem sc_integer_of : FnScope ["word", "digits", "char"] ["word"] (defScope s_integer_of) := ⟨rfl, rfl, rfl, by decide +kernel, rfl, by decide +kernel, by decide +kernel⟩
/-- the digits of a word -/
theorem w_digs {X : Cx} {σ : L2.St} {H : Hp} {Q : VK} {x : Str} {q1 q2 q3 q4 q5 q6 q7 q8 q9 q10 q11 q12 : Pos} {j1 j2 j3 : Nat} {t : Str} (i : Nat) (ht : t.length ≤ 400) (h : σ[i]? = some (some (.str t))) (k : Q (.str (SX.S (TM.dz (TL.tl t)))) H) (hN : X.N[i]? = some x := by rfl)
    (hv : Vis X.env.scope x := by first | exact Or.inl rfl | exact Or.inr (Or.inl rfl) | exact Or.inr (Or.inr rfl)) (hd : (x == ("__debug__" : Str)) = false := by decide) (hcd : (x == ("__classdict__" : Str)) = false := by decide) :
    We X (.IfExp (.Compare (.Subscript (.Name x q1) (.Slice none (some (.Constant (.int 1) j1 q2)) none q3) q4) [.Eq] [.Constant (.str "-") j2 q5] q6) (.Subscript (.Name x q7) (.Slice (some (.Constant (.int 1) j3 q8)) none none q9) q10) (.Name x q11) q12) σ H Q := by
  refine w_ife (t_cmp op_eq (w_slT C8.sl_txt (w_var i h (w_int ⟨1, rfl, t, rfl, str_len ht (by decide), w_str ⟨rfl, _, rfl, ?_⟩⟩) hN hv hd hcd)))
  have e : Txt.slice t none (some 1) = SX.S ((TL.tl t).take 1) := by
    have := SX.slice_to (a := TL.tl t) (i := 1) (by decide)
    rw [SX.S_tl] at this
    exact this
  rw [e, str_minus]
  by_cases hc : (TL.tl t).take 1 = [45]
  · refine ifT (decide_eq_true (by rw [hc])) ?_
    refine w_slF C8.sl_txt (w_var i h (w_int ⟨1, rfl, t, rfl, str_len ht (by decide), ?_⟩) hN hv hd hcd)
    have e2 : Txt.slice t (some 1) none = SX.S ((TL.tl t).drop 1) := by
      have := SX.slice_from (a := TL.tl t) (i := 1) (by decide)
      rw [SX.S_tl] at this
      exact this
    rw [e2]
    unfold TM.dz at k
    rw [if_pos hc] at k
    exact k
  · refine ifF (decide_eq_false fun z => hc (SX.S_inj (V.str.inj z))) (w_var i h ?_ hN hv hd hcd)
    unfold TM.dz at k
    rw [if_neg hc, SX.S_tl] at k
    exact k
/-- int(w) if str(int(w)) == w else None, w of digits -/
theorem w_back {X : Cx} {σ : L2.St} {H : Hp} {Q : VK} {x : Str} {q1 q2 q3 q4 q5 q6 q7 q8 q9 q10 q11 q12 : Pos} {j : Nat} {t : Str} (T : X.mg "int" = none ∧ X.mg "str" = none) (i : Nat) (ht : t.length ≤ 400) (ok : TM.okB (TL.tl t) = true) (h : σ[i]? = some (some (.str t))) (k : Q (oV (TM.wz t)) H) (hN : X.N[i]? = some x := by rfl)
    (hg : Gl X "int" := by rfl) (hg2 : Gl X "str" := by rfl) (hv : Vis X.env.scope x := by first | exact Or.inl rfl | exact Or.inr (Or.inl rfl) | exact Or.inr (Or.inr rfl)) (hd : (x == ("__debug__" : Str)) = false := by decide) (hcd : (x == ("__classdict__" : Str)) = false := by decide)
    (s1 : starEach [.Name x q1] X.env = (false, eval (.Name x q1) X.env) :: starEach [] X.env := by rfl) (s2 : starEach [.Call (.Name "int" q2) [.Name x q3] [] q4] X.env = (false, eval (.Call (.Name "int" q2) [.Name x q3] [] q4) X.env) :: starEach [] X.env := by rfl) (s3 : starEach [.Name x q3] X.env = (false, eval (.Name x q3) X.env) :: starEach [] X.env := by rfl)
    (b1 : (backTo q4 (starEach [] X.env)).any (·.1) = false := by rfl) (b2 : (backTo q5 (starEach [] X.env)).any (·.1) = false := by rfl) (b3 : (backTo q6 (starEach [] X.env)).any (·.1) = false := by rfl) :
    We X (.IfExp (.Compare (.Call (.Name "str" q7) [.Call (.Name "int" q2) [.Name x q3] [] q4] [] q5) [.Eq] [.Name x q8] q9) (.Call (.Name "int" q10) [.Name x q1] [] q6) (.Constant .none j q11) q12) σ H Q := by
  obtain ⟨n, hn, hs⟩ := TM.ok_int ok ht
  refine w_ife (t_cmp op_eq (w_callT call_str_int T.2 (by decide +kernel) (a_cons (w_callT call_int_str T.1 (by decide +kernel) (a_cons (w_var i h (a_nil ⟨t, n, rfl, hn, by omega, a_nil ⟨n, rfl, TM.log_lt hs, w_var i h ⟨rfl, _, rfl, ?_⟩ hN hv hd hcd⟩⟩) hN hv hd hcd) s3) hg (by decide) (by decide) s3 b1) s2) hg2 (by decide) (by decide) s2 b2))
  unfold TM.wz at k
  rw [if_pos ok, hn] at k
  by_cases e : TM.sT n = t
  · refine ifT (decide_eq_true (congrArg V.str e)) ?_
    have k2 : Q (oV (if TM.sT n = t then some n else none)) H := k
    rw [if_pos e] at k2
    exact w_callT call_int_str T.1 (by decide +kernel) (a_cons (w_var i h (a_nil ⟨t, n, rfl, hn, by omega, k2⟩) hN hv hd hcd) s1) hg (by decide) (by decide) s1 b3
  · refine ifF (decide_eq_false fun z => e (V.str.inj z)) (w_non ?_)
    have k2 : Q (oV (if TM.sT n = t then some n else none)) H := k
    rw [if_neg e] at k2
    exact k2
theorem wz_no {t : Str} (h : TM.okB (TL.tl t) = false) : TM.wz t = none := if_neg (by rw [h]; exact Bool.false_ne_true)
theorem fn_integer_of (T : Tx K mg) : FnR P w K mg base (L2.CX P w) 1 (He.ga K "integer_of") spWz := by
  refine fnr T.f_integer_of sc_integer_of (fun vs H Q E h => ?_) (fun _ _ _ _ _ _ us hl => match us, hl with | [_], _ => rfl) fun cdv A outer s H vs Q E hr h => ?_
  · obtain ⟨t, rfl, _⟩ := h
    rfl
  · obtain ⟨t, rfl, ht, k⟩ := h
    have nd := sc_integer_of.nd
    have htl : (TL.tl t).length ≤ 400 := by rw [← TL.len_tl]; exact ht
    have hdl : (TM.dz (TL.tl t)).length ≤ 400 := Nat.le_trans (dz_len _) htl
    refine s_cons <| s_set 1 nd <| w_digs 0 ht rfl ?_
    have okd : TM.okB (TL.tl t) = (!(TM.dz (TL.tl t)).isEmpty && (TM.dz (TL.tl t)).all fun c => decide (48 ≤ c) && decide (c ≤ 57)) := rfl
    generalize hdd : TM.dz (TL.tl t) = d at hdl okd
    refine s_cons <| s_if <| t_bool <| b_or <| t_not <| t_chain op_le op_le <| w_int <| w_callB call_len T.b_len (by decide +kernel) <| a_cons <| w_var 1 rfl <| a_nil ⟨_, (SX.S d).length, rfl, ⟨S_line (by omega), rfl⟩, _, _, rfl, rfl, _, rfl, ?_⟩
    rw [SX.S_len]
    by_cases h0 : d = []
    · refine ifF (decide_eq_false (by rw [h0]; decide)) ⟨_, rfl, ifT rfl (s_one (s_ret (w_non ?_)))⟩
      have z := k H (Same.refl H)
      rw [wz_no (by rw [okd, h0]; rfl)] at z
      exact z
    have hd1 : 1 ≤ d.length := by
      cases d with
      | nil => exact absurd rfl h0
      | cons a l => rw [List.length_cons]; omega
    refine ifT (decide_eq_true (by omega)) (w_int ⟨_, _, rfl, rfl, _, rfl, ifF (by rw [decide_eq_true (by omega)]; rfl) ?_⟩)
    refine b_or1 <| t_not <| t_val <| w_callB (cr_all rfl) T.b_all (by decide +kernel) <| a_cons <| w_lcs 2 nd <| w_var 1 rfl ⟨SX.S d, rfl, fun L hL => ⟨fun i H' => Same H H' ∧ H' L = some (.lst (((d.take i).map fun c => decide (48 ≤ c) && decide (c ≤ 57)).map V.bl)), ⟨same_new hL, upd_same⟩, fun i c H' hc z => ?_, fun H' z => ?_⟩⟩
    · obtain ⟨z1, z2⟩ := z
      have hc' : d[i]? = some c := hc
      refine fun s0 H0 C cl fp => i_nil (ifT rfl fun s0 H0 C cl fp => ?_)
      refine w_cmp op_in_sign <| w_var 2 rfl <| w_str ⟨c, _, rfl, rfl, _, z2, ?_, ?_, ?_⟩
      · rw [List.length_map, List.length_map, List.length_take]
        have : sizeLine = sizeLine := rfl
        have h3 : d.length < sizeLine := Nat.lt_of_le_of_lt hdl (by rw [sizeLine_eq]; decide)
        omega
      · intro b o e
        rw [upd_ne (ne_of_none e hL)]
        exact z1 b o e
      · rw [upd_same, take_snoc hc', dig_mem]
        simp
    · obtain ⟨z1, z2⟩ := z
      have e2 : d.take (TL.tl (SX.S d)).length = d := List.take_length
      rw [e2] at z2
      refine a_nil ⟨L, _, rfl, SqL.of z2, _, rfl, ?_⟩
      have e3 : (d.map fun c => decide (48 ≤ c) && decide (c ≤ 57)).all id = TM.okB (TL.tl t) := by
        rw [okd, List.all_map]
        have : d.isEmpty = false := by simpa using h0
        rw [this]
        rfl
      rw [e3]
      cases hok : TM.okB (TL.tl t) with
      | false =>
        refine ifT rfl (s_one (s_ret (w_non ?_)))
        have z := k H' z1
        rw [wz_no hok] at z
        exact z
      | true =>
        refine ifF rfl (s_nil ?_)
        exact s_one <| s_ret <| w_back ⟨T.b_int, T.b_str⟩ 0 ht hok rfl (k H' z1)
end
end LW
namespace LW
open PySem PySem.Spec PyProof.Rows L2 PR
theorem dps_chr {K : PySem.W.Frag} {H : Hp} : ∀ l : List Nat, DpAll K H (l.map fun c => V.str ⟨#[c]⟩) (l.map fun c => PyData.str ⟨#[c]⟩)
  | [] => .nil
  | c :: l => .cons (.str _) (dps_chr l)
theorem lay_chr : ∀ l : List Nat, (∀ c ∈ l, c < 0x110000) → PyData.canLayAll0 (l.map fun c => PyData.str ⟨#[c]⟩) = true
  | [], _ => rfl
  | c :: l, h => by
    show (PyData.strOk ⟨#[c]⟩ && PyData.canLayAll0 (l.map fun c => PyData.str ⟨#[c]⟩)) = true
    rw [lay_chr l fun d hd => h d (List.mem_cons_of_mem _ hd)]
    have : PyData.strOk ⟨#[c]⟩ = true := by
      unfold PyData.strOk
      have := h c List.mem_cons_self
      simp [this]
    rw [this]
    rfl
theorem dep_chr : ∀ l : List Nat, PyData.depthAll (l.map fun c => PyData.str ⟨#[c]⟩) = 0
  | [] => rfl
  | c :: l => by
    show max 0 (PyData.depthAll (l.map fun c => PyData.str ⟨#[c]⟩)) = 0
    rw [dep_chr l]
    rfl
theorem shp_chr {l : List Nat} (h : ∀ c ∈ l, c < 0x110000) : SeqAt.shaped (.list (l.map fun c => PyData.str ⟨#[c]⟩)) = true := by
  unfold SeqAt.shaped
  show (PyData.canLayAll0 (l.map fun c => PyData.str ⟨#[c]⟩) && decide (PyData.depthAll (l.map fun c => PyData.str ⟨#[c]⟩) + 1 ≤ 64)) = true
  rw [lay_chr l h, dep_chr]
  rfl
theorem dz_mem {l : List Nat} {c : Nat} (h : c ∈ TM.dz l) : c ∈ l := by
  unfold TM.dz at h
  split at h
  · exact List.mem_of_mem_drop h
  · exact h
section
variable {P : Program} {w : World} {K : PySem.W.Frag} {mg : Str → Option Value} {base : Heap}
def spWhole : Sp := fun vs H Q _ => ∃ t : Str, vs = [.str t] ∧ t.length ≤ 400 ∧ (∀ c ∈ TL.tl t, c < 0x110000) ∧ ∀ H', Same H H' → Q (oV (TM.wz t)) H'
theorem sc_whole : FnScope ["_law_word", "_law_digits", "_law_char"] ["_law_word"] (defScope s__law_whole) := ⟨rfl, rfl, rfl, by decide +kernel, rfl, by decide +kernel, by decide +kernel⟩
def dg (c : Nat) : Bool := decide (48 ≤ c) && decide (c ≤ 57)
theorem fn_whole (T : Tx K mg) : FnR P w K mg base (L2.CX P w) 1 (He.ga K "_law_whole") spWhole := by
  refine fnr T.f__law_whole sc_whole (fun vs H Q E h => ?_) (fun _ _ _ _ _ _ us hl => match us, hl with | [_], _ => rfl) fun cdv A outer s H vs Q E hr h => ?_
  · obtain ⟨t, rfl, _⟩ := h
    rfl
  · obtain ⟨t, rfl, ht, hch, k⟩ := h
    have nd := sc_whole.nd
    have htl : (TL.tl t).length ≤ 400 := by rw [← TL.len_tl]; exact ht
    have hdl : (TM.dz (TL.tl t)).length ≤ 400 := Nat.le_trans (dz_len _) htl
    have hdc : ∀ c ∈ TM.dz (TL.tl t), c < 0x110000 := fun c hc => hch c (dz_mem hc)
    refine s_cons <| s_set 1 nd <| w_digs 0 ht rfl ?_
    have okd : TM.okB (TL.tl t) = (!(TM.dz (TL.tl t)).isEmpty && (TM.dz (TL.tl t)).all dg) := rfl
    generalize TM.dz (TL.tl t) = d at hdl okd hdc
    refine s_cons <| s_if <| t_bool <| b_or <| t_cmp op_eq <| w_var 1 rfl <| w_str ⟨rfl, _, rfl, ?_⟩
    have eE : (Str.ofString "") = SX.S [] := TL.ext_tl (by decide +kernel)
    rw [eE]
    by_cases h0 : d = []
    · refine ifT (decide_eq_true (by rw [h0])) (s_one (s_ret (w_non ?_)))
      have z := k H (Same.refl H)
      rw [wz_no (by rw [okd, h0]; rfl)] at z
      exact z
    refine ifF (decide_eq_false fun z => h0 (SX.S_inj (V.str.inj z))) ?_
    refine b_or1 <| t_cmp (op_neD hr.units) <| w_lcs 2 nd <| w_var 1 rfl ⟨SX.S d, rfl, fun L hL => ⟨fun i H' => Same H H' ∧ H' L = some (.lst (((d.take i).filter fun c => !dg c).map fun c => V.str ⟨#[c]⟩)), ⟨same_new hL, upd_same⟩, fun i c H' hc z => ?_, fun H' z => ?_⟩⟩
    · obtain ⟨z1, z2⟩ := z
      have hc' : d[i]? = some c := hc
      refine fun s0 H0 C cl fp => i_one (t_cmp op_notIn_sign (w_var 2 rfl (w_str ⟨c, _, rfl, rfl, _, rfl, ?_⟩)))
      rw [dig_mem]
      cases hdg : dg c with
      | true =>
        refine ifF (by show (!dg c) = false; rw [hdg]; rfl) ⟨z1, ?_⟩
        rw [z2, take_snoc hc', List.filter_append]
        simp [hdg]
      | false =>
        refine ifT (by show (!dg c) = true; rw [hdg]; rfl) fun s0 H0 C cl fp => w_var 2 rfl ⟨_, z2, ?_, ?_, ?_⟩
        · rw [List.length_map]
          have h1 : ((d.take i).filter fun c => !dg c).length ≤ (d.take i).length := List.length_filter_le _ _
          rw [List.length_take] at h1
          have h3 : d.length < sizeLine := Nat.lt_of_le_of_lt hdl (by rw [sizeLine_eq]; decide)
          omega
        · intro b o e
          rw [upd_ne (ne_of_none e hL)]
          exact z1 b o e
        · rw [upd_same, take_snoc hc', List.filter_append]
          simp [hdg]
    · obtain ⟨z1, z2⟩ := z
      have e2 : d.take (TL.tl (SX.S d)).length = d := List.take_length
      rw [e2] at z2
      refine w_lst <| a_nil ⟨Nat.zero_le _, fun e he => ⟨_, _, .lst (SqL.of (same_new he _ _ z2)) (dps_chr _), .lst (SqL.of upd_same) .nil, shp_chr (fun c hc => hdc c (List.mem_filter.mp hc).1), rfl, _, rfl, ?_⟩⟩
      have z3 : Same H (upd H' e (.lst [])) := z1.trans (same_new he)
      have hne : d.isEmpty = false := by simpa using h0
      cases hf : (d.filter fun c => !dg c) with
      | nil =>
        have hok : TM.okB (TL.tl t) = true := by
          rw [okd, hne]
          show (true && d.all dg) = true
          rw [Bool.true_and, List.all_eq_true]
          intro c hc
          have := (List.filter_eq_nil_iff.mp hf) c hc
          simpa using this
        refine ifF rfl (s_nil ?_)
        exact s_one <| s_ret <| w_back ⟨T.b_int, T.b_str⟩ 0 ht hok rfl (k _ z3)
      | cons c l =>
        have hok : TM.okB (TL.tl t) = false := by
          rw [okd, hne]
          show (true && d.all dg) = false
          rw [Bool.true_and, List.all_eq_false]
          have hm : c ∈ d.filter fun c => !dg c := by rw [hf]; exact List.mem_cons_self
          obtain ⟨m1, m2⟩ := List.mem_filter.mp hm
          exact ⟨c, m1, by simpa using m2⟩
        refine ifT rfl (s_one (s_ret (w_non ?_)))
        have z := k _ z3
        rw [wz_no hok] at z
        exact z
/-! ### text -/
def spText (K : PySem.W.Frag) : Sp := fun vs H Q _ => ∃ (x : V) (q : Rat), vs = [x] ∧ Rt K H x q ∧ RM.Lt q 1604 ∧ Q (.str (TM.tx q)) H
theorem sc_text : FnScope ["self"] ["self"] (defScope s_Ratio_text) := ⟨rfl, rfl, rfl, by decide +kernel, rfl, by decide +kernel, by decide +kernel⟩
theorem tlen {i : Int} (h : i.natAbs < 2 ^ 1604) : (TM.sT i).length ≤ 1605 := by
  rw [PySem.ofString_length]
  exact PySem.int_text_length_le (k := 1604) (by decide) (PySem.Flt.log2_lt_of (by decide) h)
theorem fn_text (T : Tx K mg) : FnR P w K mg base (L2.CX P w) 1 (He.ma K (He.ga K "Ratio") "text") (spText K) := by
  refine fnr T.f_Ratio_text sc_text (fun vs H Q E h => ?_) (fun _ _ _ _ _ _ us hl => match us, hl with | [_], _ => rfl) fun cdv A outer s H vs Q E hr h => ?_
  · obtain ⟨x, q, rfl, _⟩ := h
    rfl
  · obtain ⟨x, q, rfl, hx, lq, k⟩ := h
    refine s_one <| s_ret <| w_ife <| t_cmp op_eq <| w_bot T <| w_var 0 rfl ⟨q, hx, w_int ⟨rfl, _, rfl, ?_⟩⟩
    unfold TM.tx at k
    have l1 := tlen lq.1
    have l2 := tlen (i := (q.den : Int)) lq.2
    have big : ∀ n, n ≤ 4000 → n ≤ sizeLine := fun n hn => by rw [sizeLine_eq]; omega
    by_cases h : q.den = 1
    · rw [if_pos h] at k
      exact ifT (decide_eq_true (by rw [h]; rfl)) (w_callT call_str_int T.b_str (by decide +kernel) <| a_cons <| w_top T <| w_var 0 rfl ⟨q, hx, a_nil ⟨q.num, rfl, TM.log_lt lq.1, k⟩⟩)
    · rw [if_neg h] at k
      refine ifF (decide_eq_false fun z => h (by have := V.int.inj z; omega)) (we_of (pe_joined (.cons peW (.cons peW (.cons peW .nil)))) ?_)
      refine w_fmt <| w_top T <| w_var 0 rfl ⟨q, hx, .inr ⟨q.num, rfl, TM.log_lt lq.1, _, rfl, ?_, ?_⟩⟩
      · rw [TL.len_tl, TL.tl_append, List.length_append, ← TL.len_tl, ← TL.len_tl]
        exact big _ (by show 0 + (TM.sT q.num).length ≤ 4000; omega)
      have e0 : Str.empty ++ TM.sT q.num = TM.sT q.num := TL.ext_tl (by rw [TL.tl_append]; rfl)
      rw [e0]
      refine w_str ⟨_, rfl, ?_, ?_⟩
      · rw [TL.len_tl, TL.tl_append, List.length_append, ← TL.len_tl, ← TL.len_tl]
        exact big _ (by show (TM.sT q.num).length + (Str.ofString "/").length ≤ 4000; have : (Str.ofString "/").length = 1 := by decide +kernel
                        omega)
      rw [str_slash]
      refine w_fmt <| w_bot T <| w_var 0 rfl ⟨q, hx, .inr ⟨(q.den : Int), rfl, TM.log_lt (n := (q.den : Int)) lq.2, _, rfl, ?_, k⟩⟩
      rw [TL.len_tl, TL.tl_append, TL.tl_append, List.length_append, List.length_append, ← TL.len_tl, ← TL.len_tl, ← TL.len_tl]
      exact big _ (by show (TM.sT q.num).length + TM.sl.length + (TM.sT (q.den : Int)).length ≤ 4000; have : TM.sl.length = 1 := by decide +kernel
                      omega)
end
end LW
namespace LW
open PySem PySem.Spec PyProof.Rows L2 PR
theorem wz_lt {t : Str} {a : Int} (h : TM.wz t = some a) (hl : t.length ≤ 400) : a.natAbs < 2 ^ 1604 := by
  have ok : TM.okB (TL.tl t) = true := by
    cases e : TM.okB (TL.tl t) with
    | true => rfl
    | false => rw [wz_no e] at h; cases h
  obtain ⟨n, e, b⟩ := TM.ok_int ok hl
  have e2 := (TM.wz_some h).2
  rw [e] at e2
  cases e2
  exact b
theorem spl_ne (c : Nat) : ∀ (l acc : List Nat), TL.spl [c] 0 acc l ≠ []
  | [], acc => by rw [TL.spl_nil]; simp
  | x :: l, acc => by
    by_cases hx : TL.pre [c] (x :: l) = true
    · rw [TL.spl_hit hx]; simp
    · rw [TL.spl_miss (by simpa using hx)]; exact spl_ne c l _
theorem words_ne (s : Str) : TM.words s ≠ [] := fun h => by
  have e := TM.words_tl s
  rw [h] at e
  exact spl_ne 47 _ _ e.symm
/-- what the words tell -/
def wsz (s : Str) : List (Option Int) := (TM.words s).map TM.wz
theorem wsz_ne (s : Str) : wsz s ≠ [] := fun h => words_ne s (List.map_eq_nil_iff.mp h)
theorem wsz_mem {s : Str} {a : Int} (h : some a ∈ wsz s) (hl : s.length ≤ 400) : a.natAbs < 2 ^ 1604 := by
  obtain ⟨t, h1, h2⟩ := List.mem_map.mp h
  exact wz_lt h2 (Nat.le_trans (TM.words_len s t h1) hl)
theorem rd_eq (s : Str) : TM.rd s = match wsz s with
  | [some a] => some (a : Rat)
  | [some a, some b] => if b = 0 then none else if TM.tx (Rat.divInt a b) = s then some (Rat.divInt a b) else none
  | _ => none := rfl
theorem due_eq (s : Str) : TM.due s = match wsz s with
  | [some a] => some (a, 1)
  | [some a, some b] => if 1 < b ∧ (Rat.divInt a b).num = a ∧ ((Rat.divInt a b).den : Int) = b then some (a, b) else none
  | _ => none := rfl
theorem in_none (l : List (Option Int)) : inV .non (l.map oV) = decide (none ∈ l) := by
  unfold inV
  induction l with
  | nil => rfl
  | cons o l ih =>
    rw [List.map_cons, List.any_cons, ih]
    cases o with
    | none =>
      show (true || _) = _
      rw [decide_eq_true List.mem_cons_self]
      rfl
    | some n =>
      show (false || _) = _
      rw [Bool.false_or, decide_eq_decide]
      simp
theorem flat_oV (l : List (Option Int)) : (l.map oV).all flatV = true := by
  rw [List.all_eq_true]
  intro v hv
  obtain ⟨o, _, rfl⟩ := List.mem_map.mp hv
  cases o <;> rfl
theorem rd_of_none {ws : List (Option Int)} {t : Str} (hw : wsz t = ws) (h : none ∈ ws) : TM.rd t = none := by
  rw [rd_eq, hw]
  match ws, h with
  | [none], _ => rfl
  | [some a], h => simp at h
  | [none, _], _ => rfl
  | [some a, none], _ => rfl
  | [some a, some b], h => simp at h
  | none :: _ :: _ :: _, _ => rfl
  | some _ :: none :: _ :: _, _ => rfl
  | some _ :: some _ :: _ :: _, _ => rfl
theorem rd_of_len {ws : List (Option Int)} {t : Str} (hw : wsz t = ws) (h : 2 < ws.length) : TM.rd t = none := by
  rw [rd_eq, hw]
  match ws, h with
  | [], h => exact absurd h (by decide)
  | [_], h => exact absurd h (by simp)
  | [_, _], h => exact absurd h (by simp)
  | none :: _ :: _ :: _, _ => rfl
  | some _ :: none :: _ :: _, _ => rfl
  | some _ :: some _ :: _ :: _, _ => rfl
theorem ws_cases {ws : List (Option Int)} (h0 : ws ≠ []) (h1 : none ∉ ws) (h2 : ¬ 2 < ws.length) : (∃ a, ws = [some a]) ∨ ∃ a b, ws = [some a, some b] := by
  match ws, h0, h1, h2 with
  | [], h0, _, _ => exact absurd rfl h0
  | [none], _, h1, _ => exact absurd List.mem_cons_self h1
  | [some a], _, _, _ => exact .inl ⟨a, rfl⟩
  | [none, _], _, h1, _ => exact absurd List.mem_cons_self h1
  | [some a, none], _, h1, _ => exact absurd (List.mem_cons_of_mem _ List.mem_cons_self) h1
  | [some a, some b], _, _, _ => exact .inr ⟨a, b, rfl⟩
  | _ :: _ :: _ :: _, _, _, h2 => exact absurd (by simp only [List.length_cons]; omega) h2
theorem ws_one {t : Str} {a : Int} (h : wsz t = [some a]) : TM.sT a = t := by
  unfold wsz at h
  generalize hl : TM.words t = l at h
  match l, h, hl with
  | [], h, _ => exact nomatch h
  | [u], h, hl =>
    have e : TM.wz u = some a := (List.cons.inj h).1
    rw [(TM.wz_some e).1]
    exact TM.words_one hl
  | _ :: _ :: _, h, _ => exact nomatch (List.cons.inj h).2
theorem split_eq (s : Str) : Txt.split s (Str.ofString "/") = TM.words s := by rw [str_slash]; rfl
section
variable {X : Cx} {e1 e2 : Expr} {σ : L2.St} {H : Hp} {Q : VK} {E : XK} {p pos : Pos} {x : Str}
/-- cls(t, b), cls the class Ratio -/
theorem w_ratioV (i : Nat) (T : Tx X.K X.mg) (hr : Room 4 X.A) (hx : PassAt (L2.CX X.prog X.w) X σ E) (hv : σ[i]? = some (some (.ref (He.ga X.K "Ratio"))))
    (h : Wa X [e1, e2] σ H fun vs H1 => ∃ t b, vs = [.int t, .int b] ∧ b.natAbs < 2 ^ 9000 ∧ b ≠ 0 ∧ ∀ v H', Same H1 H' → Rt X.K H' v (Rat.divInt t b) → Q v H')
    (hN : X.N[i]? = some x := by rfl) (hvis : Vis X.env.scope x := by first | exact Or.inl rfl | exact Or.inr (Or.inl rfl) | exact Or.inr (Or.inr rfl)) (hd : (x == ("__debug__" : Str)) = false := by decide) (hcd : (x == ("__classdict__" : Str)) = false := by decide)
    (he : starEach [e1, e2] X.env = (false, eval e1 X.env) :: starEach [e2] X.env := by rfl) (hpl : (backTo pos (starEach [e2] X.env)).any (·.1) = false := by rfl) : We X (.Call (.Name x p) [e1, e2] [] pos) σ H Q := by
  refine w_makeV i T.mk_Ratio (fn_Ratio3 T) hr hx hv (Wa.mono h fun vs H1 z => ?_) hN hvis hd hcd he hpl
  obtain ⟨t, b, rfl, hb, hne, k1⟩ := z
  intro x dx h1 h2 h3
  exact ⟨x, dx, t, b, rfl, upd_same, hb, fun hn => ⟨rfl, k1 _ _ (same_over h1 h2) ⟨x, dx, rfl, upd_same⟩⟩, fun hz => absurd hz hne⟩
theorem w_ratioV1 (i : Nat) (T : Tx X.K X.mg) (hr : Room 4 X.A) (hx : PassAt (L2.CX X.prog X.w) X σ E) (hv : σ[i]? = some (some (.ref (He.ga X.K "Ratio"))))
    (h : Wa X [e1] σ H fun vs H1 => ∃ t : Int, vs = [.int t] ∧ (∀ v H', Same H1 H' → Rt X.K H' v (t : Rat) → Q v H'))
    (hN : X.N[i]? = some x := by rfl) (hvis : Vis X.env.scope x := by first | exact Or.inl rfl | exact Or.inr (Or.inl rfl) | exact Or.inr (Or.inr rfl)) (hd : (x == ("__debug__" : Str)) = false := by decide) (hcd : (x == ("__classdict__" : Str)) = false := by decide)
    (he : starEach [e1] X.env = (false, eval e1 X.env) :: starEach [] X.env := by rfl) (hpl : (backTo pos (starEach [] X.env)).any (·.1) = false := by rfl) : We X (.Call (.Name x p) [e1] [] pos) σ H Q := by
  refine w_makeV i T.mk_Ratio (fn_Ratio2 T) hr hx hv (Wa.mono h fun vs H1 z => ?_) hN hvis hd hcd he hpl
  obtain ⟨t, rfl, k1⟩ := z
  intro x dx h1 h2 h3
  refine ⟨x, dx, t, 1, rfl, upd_same, by decide +kernel, fun hn => ⟨rfl, k1 _ _ (same_over h1 h2) ⟨x, dx, rfl, ?_⟩⟩, fun hz => absurd hz (by decide)⟩
  rw [upd_same, RM.int_eq]
end
section
variable {P : Program} {w : World} {K : PySem.W.Frag} {mg : Str → Option Value} {base : Heap}
def spRead (K : PySem.W.Frag) : Sp := fun vs H Q E => ∃ s : Str, vs = [.ref (He.ga K "Ratio"), .str s] ∧ s.length ≤ 400 ∧ (∀ q, TM.rd s = some q → ∀ v H', Same H H' → Rt K H' v q → Q v H') ∧ (TM.rd s = none → ∀ H', Same H H' → E (.ref (He.ga K "BadText")) none H')
theorem sc_read : FnScope ["cls", "text", "words", "ratio", "word"] ["cls", "text"] (defScope s_Ratio_read) := ⟨rfl, rfl, rfl, by decide +kernel, rfl, by decide +kernel, by decide +kernel⟩
theorem len_read : ∀ vs H Q E, spRead K vs H Q E → vs.length = (["cls", "text"] : List Str).length := fun vs H Q E h => by
  obtain ⟨s, rfl, _⟩ := h
  rfl
theorem wb_read (T : Tx K mg) {cdv : Value} {A : Around} {outer : List Env} {s : Shared} {H : Hp} {vs : List V} {Q : VK} {E : XK} (hr : Room 4 (A.deeper (envOfC "Ratio.read" (defScope s_Ratio_read) s.heap.objs.size (He5.wf K (He.ga K "Ratio") "classmethod" "read") cdv))) (h : spRead K vs H Q E) :
    Wb (cxOf (L2.CX P w) P w K mg base ["cls", "text", "words", "ratio", "word"] "Ratio.read" (defScope s_Ratio_read) (He5.wf K (He.ga K "Ratio") "classmethod" "read") cdv A outer s H E) (defBody s_Ratio_read) { nx := fun _ H' => Q .non H', rt := Q } (start ["cls", "text", "words", "ratio", "word"] vs) H := by
  obtain ⟨t, rfl, ht, k1, k2⟩ := h
  have nd := sc_read.nd
  have hr1 := hr.mono (show 1 ≤ 4 by decide)
  have hr2 := hr.mono (show 2 ≤ 4 by decide)
  refine s_cons <| s_lcl 2 4 nd <| w_split <| w_var 1 rfl ⟨t, rfl, w_str ⟨_, rfl, by decide +kernel, by rw [sizeLine_eq]; omega, ?_⟩⟩
  rw [split_eq]
  intro p hp
  refine ⟨p, (TM.words t).map V.str, rfl, SqL.of upd_same, fun L hL => ⟨fun i H' => Same H H' ∧ H' p = some (.lst ((TM.words t).map V.str)) ∧ H' L = some (.lst (((wsz t).take i).map oV)), ⟨(same_new hp).trans (same_new hL), same_new hL _ _ upd_same, upd_same⟩, fun i H' _ z => SqL.of z.2.1, fun i y H' hy z => ?_, fun H' z => ?_⟩⟩
  · obtain ⟨z1, z2, z3⟩ := z
    rw [List.getElem?_map] at hy
    cases hw : (TM.words t)[i]? with
    | none => rw [hw] at hy; cases hy
    | some wd =>
      rw [hw] at hy
      cases hy
      have hwz : (wsz t)[i]? = some (TM.wz wd) := by unfold wsz; rw [List.getElem?_map, hw]; rfl
      refine fun s0 H0 C cl fp => i_nil (ifT rfl fun s0 H0 C cl fp => ?_)
      refine w_call (fn_integer_of T) hr1 T.g_integer_of (kept T.f_integer_of) passL <| a_cons <| w_var 4 rfl <| a_nil ⟨wd, rfl, Nat.le_trans (TM.words_len t wd (List.mem_of_getElem? hw)) ht, fun H2 s2 => ⟨_, s2 _ _ z3, ?_, ?_, ?_, ?_⟩⟩
      · rw [List.length_map, List.length_take]
        have h1 : i < (wsz t).length := (List.getElem?_eq_some_iff.mp hwz).1
        have h2 : (wsz t).length ≤ t.length + 2 := by unfold wsz; rw [List.length_map]; exact PyProof.Rows.split_le t TM.sl
        rw [sizeLine_eq]
        omega
      · intro b o e
        rw [upd_ne (fun e2 => by rw [e2] at e; rw [(same_new hp).free hL] at e; cases e)]
        exact s2 _ _ (z1 b o e)
      · rw [upd_ne (ne_of_none (show upd H p (.lst ((TM.words t).map V.str)) p = some _ from upd_same) hL)]
        exact s2 _ _ z2
      · rw [upd_same, take_snoc hwz, List.map_append]
        rfl
  · obtain ⟨z1, _, z3⟩ := z
    have e2 : (wsz t).take ((TM.words t).map V.str).length = wsz t := by
      rw [List.length_map]
      unfold wsz
      exact List.take_of_length_le (by rw [List.length_map]; exact Nat.le_refl _)
    rw [e2] at z3
    have hmem : ∀ a, some a ∈ wsz t → a.natAbs < 2 ^ 1604 := fun a ha => wsz_mem ha ht
    have hne := wsz_ne t
    have hrd := rd_eq t
    generalize hws : wsz t = ws at z3 hmem hne hrd
    refine s_cons <| s_if <| t_bool <| b_or <| t_cmp op_in_seq <| w_non <| w_var 2 rfl ⟨L, _, rfl, .inl (SqL.of z3), rfl, flat_oV ws, _, rfl, ?_⟩
    show if inV .non (ws.map oV) = true then _ else _
    rw [in_none]
    by_cases hn : none ∈ ws
    · exact ifT (decide_eq_true hn) (s_one (s_raise rfl takesX (mk_BadText T hr2) (k2 (rd_of_none hws hn) H' z1)))
    refine ifF (decide_eq_false hn) ?_
    refine b_or <| t_cmp op_gt <| w_callB call_len T.b_len (by decide +kernel) <| a_cons <| w_var 2 rfl <| a_nil ⟨_, (ws.map oV).length, rfl, .inl ⟨_, SqL.of z3, rfl⟩, w_int ⟨_, _, rfl, rfl, _, rfl, ?_⟩⟩
    rw [List.length_map]
    by_cases h2 : 2 < ws.length
    · exact ifT (decide_eq_true (by omega)) (s_one (s_raise rfl takesX (mk_BadText T hr2) (k2 (rd_of_len hws h2) H' z1)))
    refine ifF (decide_eq_false (by omega)) ?_
    rcases ws_cases hne hn h2 with ⟨a, rfl⟩ | ⟨a, b, rfl⟩
    · refine b_or1 <| t_cmp op_in_seq <| w_int <| w_slF sl_list <| w_var 2 rfl <| w_int ⟨1, rfl, L, _, rfl, SqL.of z3, fun p3 hp3 => ⟨p3, _, rfl, .inl (SqL.of upd_same), rfl, rfl, _, rfl, ifF rfl (s_nil ?_)⟩⟩
      have z4 := same_new (o := .lst (cutV ([some a].map oV) (some 1) none)) hp3
      replace z3 := z4 _ _ z3
      have zz := z1.trans z4
      refine s_cons <| s_set 3 nd <| w_ife <| t_cmp op_eq <| w_callB call_len T.b_len (by decide +kernel) <| a_cons <| w_var 2 rfl <| a_nil ⟨_, 1, rfl, .inl ⟨_, SqL.of z3, rfl⟩, w_int ⟨rfl, _, rfl, ifF (by decide) ?_⟩⟩
      refine w_ratioV1 0 T hr (Passes.at_ passX _) rfl <| a_cons <| w_ix ix_list <| w_var 2 rfl <| w_int ⟨L, _, 0, _, rfl, rfl, SqL.of z3, rfl, a_nil ⟨a, rfl, fun v H3 s3 hv => ?_⟩⟩
      obtain ⟨a1, dx1, e1, hA⟩ := id hv
      have la : RM.Lt (a : Rat) 1604 := RM.lt_int (hmem a List.mem_cons_self) (by decide)
      refine s_cons <| s_if <| t_cmp op_ne <| w_meth0 T.c_Ratio T.m_Ratio_text (fn_text T) hr1 passX <| w_var 3 rfl ⟨a1, dx1, _, e1, hA, rfs_no _ (by decide +kernel) (by decide +kernel), v, _, rfl, hv, la, w_var 1 rfl ⟨rfl, _, rfl, ?_⟩⟩
      have et : TM.tx (a : Rat) = t := (if_pos rfl).trans (ws_one hws)
      refine ifF (by rw [et, decide_eq_true rfl]; rfl) (s_nil ?_)
      exact s_one <| s_ret <| w_var 3 rfl <| k1 a hrd v H3 (zz.trans s3) hv
    · refine b_or1 <| t_cmp op_in_seq <| w_int <| w_slF sl_list <| w_var 2 rfl <| w_int ⟨1, rfl, L, _, rfl, SqL.of z3, fun p3 hp3 => ⟨p3, _, rfl, .inl (SqL.of upd_same), rfl, rfl, _, rfl, ?_⟩⟩
      have z4 := same_new (o := .lst (cutV ([some a, some b].map oV) (some 1) none)) hp3
      replace z3 := z4 _ _ z3
      have zz := z1.trans z4
      have ein : inV (.int 0) (cutV ([some a, some b].map oV) (some 1) none) = (b == 0) := by
        show ((b == 0) || false) = _
        rw [Bool.or_false]
      show if inV (.int 0) (cutV ([some a, some b].map oV) (some 1) none) = true then _ else _
      rw [ein]
      have hrd2 : TM.rd t = if b = 0 then none else if TM.tx (Rat.divInt a b) = t then some (Rat.divInt a b) else none := hrd
      by_cases hb : b = 0
      · rw [if_pos hb] at hrd2
        exact ifT (beq_iff_eq.mpr hb) (s_one (s_raise rfl takesX (mk_BadText T hr2) (k2 hrd2 _ zz)))
      rw [if_neg hb] at hrd2
      refine ifF (beq_eq_false_iff_ne.mpr hb) (s_nil ?_)
      have ba := hmem a List.mem_cons_self
      have bb := hmem b (List.mem_cons_of_mem _ List.mem_cons_self)
      refine s_cons <| s_set 3 nd <| w_ife <| t_cmp op_eq <| w_callB call_len T.b_len (by decide +kernel) <| a_cons <| w_var 2 rfl <| a_nil ⟨_, 2, rfl, .inl ⟨_, SqL.of z3, rfl⟩, w_int ⟨rfl, _, rfl, ifT (by decide) ?_⟩⟩
      refine w_ratioV 0 T hr (Passes.at_ passX _) rfl <| a_cons <| w_ix ix_list <| w_var 2 rfl <| w_int ⟨L, _, 0, _, rfl, rfl, SqL.of z3, rfl, a_cons <| w_ix ix_list <| w_var 2 rfl <| w_int ⟨L, _, 1, _, rfl, rfl, SqL.of z3, rfl, a_nil ⟨a, b, rfl, RM.pow_le bb (by decide), hb, fun v H3 s3 hv => ?_⟩⟩⟩
      obtain ⟨a1, dx1, e1, hA⟩ := id hv
      have la : RM.Lt (Rat.divInt a b) 1604 := RM.lt_divInt hb ba bb
      refine s_cons <| s_if <| t_cmp op_ne <| w_meth0 T.c_Ratio T.m_Ratio_text (fn_text T) hr1 passX <| w_var 3 rfl ⟨a1, dx1, _, e1, hA, rfs_no _ (by decide +kernel) (by decide +kernel), v, _, rfl, hv, la, w_var 1 rfl ⟨rfl, _, rfl, ?_⟩⟩
      by_cases ht2 : TM.tx (Rat.divInt a b) = t
      · rw [if_pos ht2] at hrd2
        refine ifF (by rw [ht2, decide_eq_true rfl]; rfl) (s_nil ?_)
        exact s_one <| s_ret <| w_var 3 rfl <| k1 _ hrd2 v H3 (zz.trans s3) hv
      · rw [if_neg ht2] at hrd2
        exact ifT (by rw [decide_eq_false fun z => ht2 (V.str.inj z)]; rfl) (s_one (s_raise rfl takesX (mk_BadText T hr2) (k2 hrd2 H3 (zz.trans s3))))
theorem fn_read (T : Tx K mg) : FnR P w K mg base (L2.CX P w) 5 (He5.wf K (He.ga K "Ratio") "classmethod" "read") (spRead K) :=
  fnr T.f_Ratio_read sc_read len_read (fun _ _ _ _ _ _ us hl => match us, hl with | [_, _], _ => rfl) fun cdv A outer s H vs Q E hr h => wb_read T hr h
end
end LW
namespace LW
open PySem PySem.Spec PyProof.Rows L2 PR
/-- v is the pair, or None -/
def Pq (H : Hp) (v : V) : Option (Int × Int) → Prop
  | some (a, b) => ∃ p, v = .ref p ∧ H p = some (.tup [.int a, .int b])
  | none => v = .non
theorem due_of_none {ws : List (Option Int)} {t : Str} (hw : wsz t = ws) (h : none ∈ ws ∨ 2 < ws.length) : TM.due t = none := by
  rw [TM.rd_due]
  rcases h with h | h
  · rw [rd_of_none hw h]; rfl
  · rw [rd_of_len hw h]; rfl
theorem words_mem (s : Str) : ∀ t ∈ TM.words s, ∀ c ∈ TL.tl t, c ∈ TL.tl s := fun t ht c hc => by
  have hm : TL.tl t ∈ TL.spl [47] 0 [] (TL.tl s) := by rw [← TM.words_tl]; exact List.mem_map_of_mem ht
  have e := TM.join_spl 47 (TL.tl s) []
  have sub : ∀ (ps : List (List Nat)), ∀ p ∈ ps, ∀ c ∈ p, c ∈ TL.joinL [47] ps := by
    intro ps
    induction ps with
    | nil => intro p hp; cases hp
    | cons q r ih =>
      intro p hp c hc
      cases r with
      | nil =>
        simp only [List.mem_singleton] at hp
        rw [← hp]
        exact hc
      | cons q2 r =>
        show c ∈ q ++ ([47] ++ TL.joinL [47] (q2 :: r))
        rcases List.mem_cons.mp hp with rfl | hp
        · exact List.mem_append_left _ hc
        · exact List.mem_append_right _ (List.mem_append_right _ (ih p hp c hc))
  have := sub _ _ hm c hc
  rw [e] at this
  exact this
section
variable {P : Program} {w : World} {K : PySem.W.Frag} {mg : Str → Option Value} {base : Heap}
def spDue : Sp := fun vs H Q _ => ∃ t : Str, vs = [.str t] ∧ t.length ≤ 400 ∧ (∀ c ∈ TL.tl t, c < 0x110000) ∧ ∀ v H', Same H H' → Pq H' v (TM.due t) → Q v H'
theorem sc_due : FnScope ["_law_phrase", "_law_words", "_law_word"] ["_law_phrase"] (defScope s__law_due) := ⟨rfl, rfl, rfl, by decide +kernel, rfl, by decide +kernel, by decide +kernel⟩
theorem fn_due (T : Tx K mg) : FnR P w K mg base (L2.CX P w) 2 (He.ga K "_law_due") spDue := by
  refine fnr T.f__law_due sc_due (fun vs H Q E h => ?_) (fun _ _ _ _ _ _ us hl => match us, hl with | [_], _ => rfl) fun cdv A outer s H vs Q E hr h => ?_
  · obtain ⟨t, rfl, _⟩ := h
    rfl
  obtain ⟨t, rfl, ht, hch, k⟩ := h
  have nd := sc_due.nd
  refine s_cons <| s_lcl 1 2 nd <| w_split <| w_var 0 rfl ⟨t, rfl, w_str ⟨_, rfl, by decide +kernel, by rw [sizeLine_eq]; omega, ?_⟩⟩
  rw [split_eq]
  intro p hp
  refine ⟨p, (TM.words t).map V.str, rfl, SqL.of upd_same, fun L hL => ⟨fun i H' => Same H H' ∧ H' p = some (.lst ((TM.words t).map V.str)) ∧ H' L = some (.lst (((wsz t).take i).map oV)), ⟨(same_new hp).trans (same_new hL), same_new hL _ _ upd_same, upd_same⟩, fun i H' _ z => SqL.of z.2.1, fun i y H' hy z => ?_, fun H' z => ?_⟩⟩
  · obtain ⟨z1, z2, z3⟩ := z
    rw [List.getElem?_map] at hy
    cases hw : (TM.words t)[i]? with
    | none => rw [hw] at hy; cases hy
    | some wd =>
      rw [hw] at hy
      cases hy
      have hwz : (wsz t)[i]? = some (TM.wz wd) := by unfold wsz; rw [List.getElem?_map, hw]; rfl
      have hwm := List.mem_of_getElem? hw
      refine fun s0 H0 C cl fp => i_nil (ifT rfl fun s0 H0 C cl fp => ?_)
      refine w_call (fn_whole T) hr T.g__law_whole (kept T.f__law_whole) passL <| a_cons <| w_var 2 rfl <| a_nil ⟨wd, rfl, Nat.le_trans (TM.words_len t wd hwm) ht, fun c hc => hch c (words_mem t wd hwm c hc), fun H2 s2 => ⟨_, s2 _ _ z3, ?_, ?_, ?_, ?_⟩⟩
      · rw [List.length_map, List.length_take]
        have h1 : i < (wsz t).length := (List.getElem?_eq_some_iff.mp hwz).1
        have h2 : (wsz t).length ≤ t.length + 2 := by unfold wsz; rw [List.length_map]; exact PyProof.Rows.split_le t TM.sl
        rw [sizeLine_eq]
        omega
      · intro b o e
        rw [upd_ne (fun e2 => by rw [e2] at e; rw [(same_new hp).free hL] at e; cases e)]
        exact s2 _ _ (z1 b o e)
      · rw [upd_ne (ne_of_none (show upd H p (.lst ((TM.words t).map V.str)) p = some _ from upd_same) hL)]
        exact s2 _ _ z2
      · rw [upd_same, take_snoc hwz, List.map_append]
        rfl
  · obtain ⟨z1, _, z3⟩ := z
    have e2 : (wsz t).take ((TM.words t).map V.str).length = wsz t := by
      rw [List.length_map]
      unfold wsz
      exact List.take_of_length_le (by rw [List.length_map]; exact Nat.le_refl _)
    rw [e2] at z3
    have hmem : ∀ a, some a ∈ wsz t → a.natAbs < 2 ^ 1604 := fun a ha => wsz_mem ha ht
    have hne := wsz_ne t
    have hdu := due_eq t
    generalize hws : wsz t = ws at z3 hmem hne hdu
    refine s_cons <| s_if <| t_bool <| b_or <| t_cmp op_in_seq <| w_non <| w_var 1 rfl ⟨L, _, rfl, .inl (SqL.of z3), rfl, flat_oV ws, _, rfl, ?_⟩
    show if inV .non (ws.map oV) = true then _ else _
    rw [in_none]
    by_cases hn : none ∈ ws
    · refine ifT (decide_eq_true hn) (s_one (s_ret (w_non (k _ _ z1 ?_))))
      rw [due_of_none hws (.inl hn)]
      rfl
    refine ifF (decide_eq_false hn) ?_
    refine b_or1 <| t_cmp op_gt <| w_callB call_len T.b_len (by decide +kernel) <| a_cons <| w_var 1 rfl <| a_nil ⟨_, (ws.map oV).length, rfl, .inl ⟨_, SqL.of z3, rfl⟩, w_int ⟨_, _, rfl, rfl, _, rfl, ?_⟩⟩
    rw [List.length_map]
    by_cases h2 : 2 < ws.length
    · refine ifT (decide_eq_true (by omega)) (s_one (s_ret (w_non (k _ _ z1 ?_))))
      rw [due_of_none hws (.inr h2)]
      rfl
    refine ifF (decide_eq_false (by omega)) (s_nil ?_)
    rcases ws_cases hne hn h2 with ⟨a, rfl⟩ | ⟨a, b, rfl⟩
    · refine s_cons <| s_if <| t_cmp op_eq <| w_callB call_len T.b_len (by decide +kernel) <| a_cons <| w_var 1 rfl <| a_nil ⟨_, 1, rfl, .inl ⟨_, SqL.of z3, rfl⟩, w_int ⟨rfl, _, rfl, ifT (by decide) ?_⟩⟩
      refine s_one <| s_ret <| w_tup <| a_cons <| w_ix ix_list <| w_var 1 rfl <| w_int ⟨L, _, 0, _, rfl, rfl, SqL.of z3, rfl, a_cons <| w_int <| a_nil ⟨by show 2 ≤ sizeLine; decide, fun p3 hp3 => k _ _ (z1.trans (same_new hp3)) ?_⟩⟩
      rw [hdu]
      exact ⟨p3, rfl, upd_same⟩
    · refine s_cons <| s_if <| t_cmp op_eq <| w_callB call_len T.b_len (by decide +kernel) <| a_cons <| w_var 1 rfl <| a_nil ⟨_, 2, rfl, .inl ⟨_, SqL.of z3, rfl⟩, w_int ⟨rfl, _, rfl, ifF (by decide) (s_nil ?_)⟩⟩
      have hdu2 : TM.due t = if 1 < b ∧ (Rat.divInt a b).num = a ∧ ((Rat.divInt a b).den : Int) = b then some (a, b) else none := hdu
      have ba := hmem a List.mem_cons_self
      have bb := hmem b (List.mem_cons_of_mem _ List.mem_cons_self)
      refine s_one <| s_ret <| w_ife <| t_bool <| b_and <| t_cmp op_gt <| w_ix ix_list <| w_var 1 rfl <| w_int ⟨L, _, 1, _, rfl, rfl, SqL.of z3, rfl, w_int ⟨_, _, rfl, rfl, _, rfl, ?_⟩⟩
      by_cases h1 : 1 < b
      · refine ifT (decide_eq_true h1) ?_
        refine b_and1 <| t_cmp (op_eqD hr.units) <| w_frac T hr <| w_ix ix_list <| w_var 1 rfl <| w_int ⟨L, _, 0, _, rfl, rfl, SqL.of z3, rfl, w_ix ix_list <| w_var 1 rfl <| w_int ⟨L, _, 1, _, rfl, rfl, SqL.of z3, rfl, a, b, rfl, rfl, by omega, RM.pow_le bb (by decide), fun v H4 s4 hv => ?_⟩⟩
        obtain ⟨pv, rfl, hv⟩ := hv
        replace z3 := s4 _ _ z3
        refine w_tup <| a_cons <| w_ix ix_list <| w_var 1 rfl <| w_int ⟨L, _, 0, _, rfl, rfl, SqL.of z3, rfl, a_cons <| w_ix ix_list <| w_var 1 rfl <| w_int ⟨L, _, 1, _, rfl, rfl, SqL.of z3, rfl, a_nil ⟨by show 2 ≤ sizeLine; decide, fun p4 hp4 => ⟨_, _, .tup (SqT.of (same_new hp4 _ _ hv)) (.cons (.int _) (.cons (.int _) .nil)), .tup (SqT.of upd_same) (.cons (.int _) (.cons (.int _) .nil)), rfl, rfl, _, rfl, ?_⟩⟩⟩⟩
        rw [eqv_pair]
        have z5 := z1.trans (s4.trans (same_new (o := .tup [oV (some a), oV (some b)]) hp4))
        replace z3 := same_new (o := .tup [oV (some a), oV (some b)]) hp4 _ _ z3
        by_cases hq : (Rat.divInt a b).num = a ∧ ((Rat.divInt a b).den : Int) = b
        · refine ifT (decide_eq_true hq) ?_
          refine w_tup <| a_cons <| w_ix ix_list <| w_var 1 rfl <| w_int ⟨L, _, 0, _, rfl, rfl, SqL.of z3, rfl, a_cons <| w_ix ix_list <| w_var 1 rfl <| w_int ⟨L, _, 1, _, rfl, rfl, SqL.of z3, rfl, a_nil ⟨by show 2 ≤ sizeLine; decide, fun p5 hp5 => k _ _ (z5.trans (same_new hp5)) ?_⟩⟩⟩
          rw [hdu2, if_pos ⟨h1, hq⟩]
          exact ⟨p5, rfl, upd_same⟩
        · refine ifF (decide_eq_false hq) (w_non (k _ _ z5 ?_))
          rw [hdu2, if_neg fun z => hq z.2]
          rfl
      · refine ifF (decide_eq_false h1) (ifF rfl (w_non (k _ _ z1 ?_)))
        rw [hdu2, if_neg fun z => h1 z.1]
        rfl
/-! ### read, a text that is none caught -/
def spLread : Sp := fun vs H Q _ => ∃ t : Str, vs = [.str t] ∧ t.length ≤ 400 ∧ ∀ v H', Same H H' → Pq H' v (TM.due t) → Q v H'
theorem sc_lread : FnScope ["_law_phrase", "_law_amount"] ["_law_phrase"] (defScope s__law_read) := ⟨rfl, rfl, rfl, by decide +kernel, rfl, by decide +kernel, by decide +kernel⟩
theorem fn_lread (T : Tx K mg) : FnR P w K mg base (L2.CX P w) 6 (He.ga K "_law_read") spLread := by
  refine fnr T.f__law_read sc_lread (fun vs H Q E h => ?_) (fun _ _ _ _ _ _ us hl => match us, hl with | [_], _ => rfl) fun cdv A outer s H vs Q E hr h => ?_
  · obtain ⟨t, rfl, _⟩ := h
    rfl
  obtain ⟨t, rfl, ht, k⟩ := h
  have nd := sc_lread.nd
  have hd := TM.rd_due t
  refine s_cons <| s_try1 ⟨rfl, by decide, .inl T.g_BadText⟩ takesX fun pn xe tk ps => ?_
  refine s_one <| s_set 1 nd <| w_cmethA (E := fun cls dd H' => cls = .ref (He.ga K "BadText") ∧ TM.rd t = none ∧ Same H H') T.cm_Ratio_read.1 T.cm_Ratio_read.2 (fn_read T) hr (passAt tk ?_) <| w_ref T.g_Ratio ⟨rfl, a_cons <| w_var 0 rfl <| a_nil ⟨t, rfl, ht, fun q hq v H1 s1 hv => ?_, fun e H1 s1 => ⟨rfl, e, s1⟩⟩⟩
  · rintro cls dd H1 ⟨rfl, e, s1⟩
    refine ⟨true, T.xm_BadText, fun _ aa hn oe pn hz hf => ?_, fun e => nomatch e⟩
    refine s_one (s_ret (w_non (k _ _ s1 ?_)))
    rw [hd, e]
    rfl
  · refine s_one <| s_ret <| w_tup <| a_cons <| w_top T <| w_var 1 rfl ⟨q, hv, a_cons <| w_bot T <| w_var 1 rfl ⟨q, hv, a_nil ⟨by show 2 ≤ sizeLine; decide, fun p3 hp3 => k _ _ (s1.trans (same_new hp3)) ?_⟩⟩⟩
    rw [hd, hq]
    exact ⟨p3, rfl, upd_same⟩
end
end LW
namespace LW
open PySem PySem.Spec PyProof.Rows L2 PR
/-- a short text -/
def Sh (n : Nat) (s : Str) : Prop := s.length ≤ n ∧ ∀ c ∈ TL.tl s, c < 0x110000
theorem Sh.app {n m : Nat} {a b : Str} (h : Sh n a) (k : Sh m b) : Sh (n + m) (a ++ b) := by
  refine ⟨?_, fun c hc => ?_⟩
  · rw [TL.len_tl, TL.tl_append, List.length_append, ← TL.len_tl, ← TL.len_tl]
    have := h.1
    have := k.1
    omega
  · rw [TL.tl_append] at hc
    rcases List.mem_append.mp hc with hc | hc
    · exact h.2 c hc
    · exact k.2 c hc
theorem Sh.mono {n m : Nat} {a : Str} (h : Sh n a) (k : n ≤ m) : Sh m a := ⟨Nat.le_trans h.1 k, h.2⟩
theorem Sh.sub {n : Nat} {a : Str} {l : List Nat} (h : Sh n a) (k : l.length ≤ (TL.tl a).length) (m : ∀ c ∈ l, c ∈ TL.tl a) : Sh n (SX.S l) := ⟨by rw [SX.S_len]; have := h.1; rw [TL.len_tl] at this; omega, fun c hc => h.2 c (m c hc)⟩
theorem sh_sT {i : Int} {k : Nat} (hk : 0 < k) (h : i.natAbs < 10 ^ k) : Sh (k + 1) (TM.sT i) := by
  refine ⟨TM.sT_len hk h, fun c hc => ?_⟩
  cases i with
  | ofNat n =>
    have e : TL.tl (TM.sT (Int.ofNat n)) = TL.numL n := TM.sT_nat n
    rw [e] at hc
    have := TL.numL_digits n c hc
    omega
  | negSucc n =>
    rw [TM.sT_neg] at hc
    rcases List.mem_cons.mp hc with rfl | hc
    · decide
    · have := TL.numL_digits _ c hc
      omega
theorem sh_sl : Sh 1 TM.sl := ⟨by decide +kernel, by decide +kernel⟩
theorem slT (t : Str) (i : Nat) : Txt.slice t none (some (i : Int)) = SX.S ((TL.tl t).take i) := by
  have := SX.slice_to (a := TL.tl t) (i := (i : Int)) (by omega)
  rw [SX.S_tl] at this
  exact this
theorem slF (t : Str) (i : Nat) : Txt.slice t (some (i : Int)) none = SX.S ((TL.tl t).drop i) := by
  have := SX.slice_from (a := TL.tl t) (i := (i : Int)) (by omega)
  rw [SX.S_tl] at this
  exact this
theorem line4 {n : Nat} (h : n ≤ 4000) : n ≤ sizeLine := by rw [sizeLine_eq]; omega
theorem app_len (a b : Str) : (a ++ b).length = a.length + b.length := by rw [TL.len_tl, TL.tl_append, List.length_append, ← TL.len_tl, ← TL.len_tl]
section
variable {P : Program} {w : World} {K : PySem.W.Frag} {mg : Str → Option Value} {base : Heap}
theorem fq_read (T : Tx K mg) : FnQ P w K mg base (L2.CX P w) 5 (He5.wf K (He.ga K "Ratio") "classmethod" "read") 1 ["text"] (fun vs zs H Q E => spRead K (vs ++ zs) H Q E) := by
  obtain ⟨fd, F⟩ := T.f_Ratio_read
  have F1 : FnOk P w K mg base (L2.CX P w) 5 (He5.wf K (He.ga K "Ratio") "classmethod" "read") fd ["cls", "text"] (spRead K) := F.ok sc_read len_read fun cdv A outer s H vs Q E hr h => ⟨_, pbW, wb_read T hr h⟩
  exact fnq_of F1 (kbn0 F 1 ["text"] (fun vs zs => vs ++ zs) (fun r1 r2 => r1.append r2) fun _ _ _ _ _ _ us ws h1 h2 => match us, ws, h1, h2 with | [_], [_], _, _ => rfl)
/-- read against due -/
theorem t_same {X : Cx} {e1 e2 : Expr} {σ : L2.St} {H : Hp} {Qb : Bool → Hp → Prop} {pos : Pos} {d : Option (Int × Int)} (hu : X.A.units + 64 < cLine) (h : We X e1 σ H fun v H1 => Pq H1 v d ∧ We X e2 σ H1 fun v' H2 => Same H1 H2 ∧ Pq H2 v' d ∧ Qb false H2) (hm : behindInMarks .NotEq e2 = false := by first | exact nomark _ | rfl) :
    Wt X (.Compare e1 [.NotEq] [e2] pos) σ H Qb := by
  refine t_cmp (op_neD hu) (We.mono h fun v H1 z => We.mono z.2 fun v' H2 z2 => ?_) hm
  obtain ⟨s, h2, q⟩ := z2
  cases d with
  | none =>
    cases (show v = .non from z.1)
    cases (show v' = .non from h2)
    exact ⟨_, _, .non, .non, rfl, rfl, _, rfl, q⟩
  | some ab =>
    obtain ⟨a, b⟩ := ab
    obtain ⟨p1, rfl, g1⟩ := z.1
    obtain ⟨p2, rfl, g2⟩ := h2
    refine ⟨_, _, .tup (SqT.of (s _ _ g1)) (.cons (.int _) (.cons (.int _) .nil)), .tup (SqT.of g2) (.cons (.int _) (.cons (.int _) .nil)), rfl, rfl, _, rfl, ?_⟩
    rw [eqv_pair, decide_eq_true (And.intro rfl rfl)]
    exact q
def spLaw (K : PySem.W.Frag) : Sp := fun vs H Q _ => ∃ (a : Addr) (ns : List Int), vs = [.ref a] ∧ SqL K H a (ns.map V.int) ∧ ∀ H', Q (.bl true) H'
theorem sc_law : FnScope ["_law_script", "_law_k", "_law_box_here", "_law_wide", "_law_x", "_law_phrase", "_law_turn", "_law_at", "_law_part", "_law_near", "_law_factor", "_law_other"] ["_law_script"] (defScope s_law) := ⟨rfl, rfl, rfl, by decide +kernel, rfl, by decide +kernel, by decide +kernel⟩
theorem fn_law (T : Tx K mg) : FnG P w K mg base (L2.CX P w) 7 (He.ga K "law") (spLaw K) := by
  refine fng T.f_law sc_law (fun vs H Q E h => ?_) (fun _ _ _ _ _ _ us hl => match us, hl with | [_], _ => rfl) fun cdv A outer s H vs Q E hgd hr h => ?_
  · obtain ⟨a, ns, rfl, _⟩ := h
    rfl
  obtain ⟨a, ns, rfl, hl, kk⟩ := h
  have nd := sc_law.nd
  have hr5 := hr.mono (show 5 ≤ 6 by decide)
  have hr4 := hr.mono (show 4 ≤ 6 by decide)
  have hr3 := hr.mono (show 3 ≤ 6 by decide)
  have hr2 := hr.mono (show 2 ≤ 6 by decide)
  have hr1 := hr.mono (show 1 ≤ 6 by decide)
  refine s_cons <| s_forr 1 (passes_of rfl) nd T.b_range <| w_callB (call_max2 rfl) T.b_max (by decide +kernel) <| a_cons <| w_int <| a_cons <| w_callB (call_min2 rfl) T.b_min (by decide +kernel) <| a_cons <| w_int <| a_cons <|
    w_callB call_len T.b_len (by decide +kernel) <| a_cons <| w_var 0 rfl <| a_nil ⟨_, (ns.map V.int).length, rfl, .inl ⟨_, hl, rfl⟩, a_nil ⟨3, _, rfl, a_nil ⟨1, _, rfl, ?_⟩⟩⟩
  obtain ⟨m, hm, hm2⟩ : ∃ m : Nat, (if (if ((ns.map V.int).length : Int) < 3 then ((ns.map V.int).length : Int) else 3) > 1 then (if ((ns.map V.int).length : Int) < 3 then ((ns.map V.int).length : Int) else 3) else 1) = (m : Int) ∧ m ≤ 3 :=
    ⟨((if (if ((ns.map V.int).length : Int) < 3 then ((ns.map V.int).length : Int) else 3) > 1 then (if ((ns.map V.int).length : Int) < 3 then ((ns.map V.int).length : Int) else 3) else 1) : Int).toNat, by split <;> split <;> omega, by split <;> split <;> omega⟩
  refine ⟨m, fun _ σ H' => ∃ z1 z2 z3 z4 z5 z6 z7 z8 z9 z10 z11, σ = [some (.ref a), z1, z2, z3, z4, z5, z6, z7, z8, z9, z10, z11] ∧ Same H H', congrArg V.int hm, by omega, ⟨_, _, _, _, _, _, _, _, _, _, _, rfl, Same.refl H⟩, ?_, ?_⟩
  · rintro j σ H0 hj ⟨z1, z2, z3, z4, z5, z6, z7, z8, z9, z10, z11, rfl, s0⟩
    refine s_cons <| s_set 2 nd <| w_call (fn_box T) hr2 T.g__law_box (kept T.f__law_box) passL <| a_cons <| w_var 0 rfl <| a_cons <| w_var 1 rfl <| a_nil ⟨a, ns, j, rfl, by omega, s0.seq hl, fun b H1 hb s1 hB => ?_⟩
    refine s_cons <| s_set 3 nd <| w_menu T hr1 <| a_cons <| w_int <| a_cons <| w_int <| a_cons <| w_op op_sub <| w_op op_powW <| w_int <| w_int ⟨10, 9, rfl, rfl, ⟨by decide, by decide, by decide +kernel⟩, w_int ⟨_, _, rfl, rfl, a_nil ⟨rfl, by decide, by decide, fun p hp => w_var 2 rfl ⟨rfl, b, 0, rfl, hB, by decide, fun x hx H2 hB2 k2 => ?_⟩⟩⟩⟩
    obtain ⟨wd, rfl, w1, w2⟩ : ∃ z : Int, x = .int z ∧ 9 ≤ z ∧ z ≤ 999999999 := by
      simp only [List.mem_cons, List.not_mem_nil, or_false] at hx
      rcases hx with rfl | rfl | rfl
      · exact ⟨_, rfl, by decide, by decide⟩
      · exact ⟨_, rfl, by decide, by decide⟩
      · exact ⟨_, rfl, by decide +kernel, by decide +kernel⟩
    refine s_cons <| s_set 4 nd <| w_frac T hr1 <| w_op op_sub <| w_take T hr1 <| w_var 2 rfl <| w_op op_add <| w_op op_mul <| w_int <| w_var 3 rfl ⟨_, _, rfl, rfl, .inl ⟨by decide, by decide⟩, w_int ⟨_, _, rfl, rfl, b, _, 1, rfl, rfl, hB2, by decide, by omega, small9 (by omega), fun r3 H3 r30 r31 hB3 k3 => w_var 3 rfl ⟨_, _, rfl, rfl, ?_⟩⟩⟩
    refine w_menu T hr1 <| a_cons <| w_int <| a_cons <| w_op op_add <| w_int <| w_take T hr1 <| w_var 2 rfl <| w_var 3 rfl ⟨b, _, 2, rfl, rfl, hB3, by decide, by omega, small9 (by omega), fun r4 H4 r40 r41 hB4 k4 => ⟨_, _, rfl, rfl, a_nil ⟨rfl, Nat.succ_pos _, (show 2 ≤ 1000 by decide), fun p hp => w_var 2 rfl ⟨rfl, b, 3, rfl, hB4, by decide, fun y hy H5 hB5 k5 => ?_⟩⟩⟩⟩
    obtain ⟨dn, rfl, d1, d2⟩ : ∃ z : Int, y = .int z ∧ 1 ≤ z ∧ z ≤ 999999999 := by
      simp only [List.mem_cons, List.not_mem_nil, or_false] at hy
      rcases hy with rfl | rfl
      · exact ⟨_, rfl, by decide, by decide⟩
      · exact ⟨_, rfl, by omega, by omega⟩
    refine ⟨r3 - wd, dn, rfl, rfl, by omega, small9 (by omega), fun x H6 s6 hx => ?_⟩
    have hdn : dn ≠ 0 := by omega
    have bn : (Rat.divInt (r3 - wd) dn).num.natAbs < 10 ^ 9 := Nat.lt_of_le_of_lt (RM.num_divInt_le _ _ hdn) (by omega)
    have bd : ((Rat.divInt (r3 - wd) dn).den : Int).natAbs < 10 ^ 9 := Nat.lt_of_le_of_lt (RM.den_divInt_le _ _ hdn) (by omega)
    generalize Rat.divInt (r3 - wd) dn = q at hx bn bd
    replace hB5 := hB5.same s6
    have k6 : Kp b H1 H6 := k2.trans (k3.trans (k4.trans (k5.trans s6.kp)))
    clear k2 k3 k4 k5 s6 hB hB2 hB3 hB4 hy
    have g1 : q.num.natAbs < 2 ^ 1604 := Nat.lt_of_lt_of_le bn (Nat.le_trans (TM.ten_two 9) (Nat.pow_le_pow_right (by decide) (by decide)))
    have g2 : (q.den : Int).natAbs < 2 ^ 1604 := Nat.lt_of_lt_of_le bd (Nat.le_trans (TM.ten_two 9) (Nat.pow_le_pow_right (by decide) (by decide)))
    have lq : RM.Lt q 1604 := ⟨g1, g2⟩
    have wq : RM.Lt q 4000 := lq.mono (by decide)
    have shn := sh_sT (k := 9) (by decide) bn
    have shd := sh_sT (k := 9) (i := (q.den : Int)) (by decide) bd
    have hrd : TM.rd (TM.tx q) = some q := TM.rd_tx (Nat.le_trans shn.1 (by decide)) (Nat.le_trans shd.1 (by decide))
    have hdue : TM.due (TM.tx q) = some (q.num, (q.den : Int)) := by rw [TM.rd_due, hrd]; rfl
    have shp : Sh 21 (TM.tx q) := by
      unfold TM.tx
      split
      · exact shn.mono (by decide)
      · exact ((shn.app sh_sl).app shd).mono (by decide)
    -- phrase
    refine s_cons <| s_set 5 nd <| We.mono (Q := fun v H7 => v = .str (TM.tx q) ∧ H7 = H6) ?_ ?_
    · refine w_ife <| t_cmp op_eq <| w_tq1 <| w_var 4 rfl ⟨q, hx, w_int ⟨rfl, _, rfl, ?_⟩⟩
      by_cases h : q.den = 1
      · refine ifT (decide_eq_true (by rw [h]; rfl)) (w_callT call_str_int T.b_str (by decide +kernel) <| a_cons <| w_tq0 <| w_var 4 rfl ⟨q, hx, a_nil ⟨q.num, rfl, TM.log_lt g1, ?_, rfl⟩⟩)
        unfold TM.tx
        rw [if_pos h]
      · refine ifF (decide_eq_false fun z => h (by have := V.int.inj z; omega)) ?_
        refine w_op op_add_str <| w_op op_add_str <| w_callT call_str_int T.b_str (by decide +kernel) <| a_cons <| w_tq0 <| w_var 4 rfl ⟨q, hx, a_nil ⟨q.num, rfl, TM.log_lt g1, w_str ⟨_, _, rfl, rfl, ?_, w_callT call_str_int T.b_str (by decide +kernel) <| a_cons <| w_tq1 <| w_var 4 rfl ⟨q, hx, a_nil ⟨(q.den : Int), rfl, TM.log_lt g2, _, _, rfl, rfl, ?_, ?_, rfl⟩⟩⟩⟩⟩
        · rw [str_slash]
          exact line4 (by have h1 : (Str.ofString (toString q.num)).length ≤ 10 := shn.1; have := sh_sl.1; omega)
        · rw [str_slash, app_len]
          exact line4 (by have h1 : (Str.ofString (toString q.num)).length ≤ 10 := shn.1; have := sh_sl.1; have h2 : (Str.ofString (toString (q.den : Int))).length ≤ 10 := shd.1; omega)
        · rw [str_slash]
          unfold TM.tx
          rw [if_neg h]
    rintro v H7 ⟨rfl, rfl⟩
    -- text, read, due
    refine s_cons <| s_if <| t_bool <| b_or <| t_cmp op_ne <| w_meth0 T.c_Ratio T.m_Ratio_text (fn_text T) hr1 passL <| w_ratio T hr4 passL <| a_cons <| w_tq0 <| w_var 4 rfl ⟨q, hx, a_cons <| w_tq1 <| w_var 4 rfl ⟨q, hx, a_nil ⟨q.num, (q.den : Int), rfl, RM.pow_le g2 (by decide), fun _ v H8 s8 hv => ?_, fun z => absurd z (RM.den_ne q)⟩⟩⟩
    rw [Rat.num_divInt_den] at hv
    obtain ⟨a1, dx1, e1, hA⟩ := id hv
    refine ⟨a1, dx1, _, e1, hA, rfs_no _ (by decide +kernel) (by decide +kernel), v, q, rfl, hv, lq, w_var 5 rfl ⟨rfl, _, rfl, ifF (by rw [decide_eq_true rfl]; rfl) ?_⟩⟩
    have pqx : ∀ {H'}, Same H7 H' → Pq H' x (some (q.num, (q.den : Int))) := fun s' => by
      obtain ⟨px, rfl, gx⟩ := hx
      exact ⟨px, rfl, s' _ _ gx⟩
    refine b_or <| t_same hr.units <| w_call (fn_lread T) hr T.g__law_read (kept T.f__law_read) passL <| a_cons <| w_var 5 rfl <| a_nil ⟨_, rfl, Nat.le_trans shp.1 (by decide), fun v9 H9 s9 h9 => ⟨by rw [hdue] at h9; exact h9, w_var 4 rfl ⟨Same.refl _, pqx (s8.trans s9), ifF rfl ?_⟩⟩⟩
    refine b_or1 <| t_same hr.units <| w_call (fn_due T) hr2 T.g__law_due (kept T.f__law_due) passL <| a_cons <| w_var 5 rfl <| a_nil ⟨_, rfl, Nat.le_trans shp.1 (by decide), shp.2, fun v10 H10 s10 h10 => ⟨by rw [hdue] at h10; exact h10, w_var 4 rfl ⟨Same.refl _, pqx (s8.trans (s9.trans s10)), ifF rfl (s_nil ?_)⟩⟩⟩
    have s7 := s8.trans (s9.trans s10)
    -- read by its name
    refine s_cons <| s_if <| t_not <| t_cmp (op_req T hr3) <| w_cmethQ T.cm_Ratio_read.1 T.cm_Ratio_read.2 (fq_read T) hr5 (Passes.at_ passL _) <| w_ref T.g_Ratio ⟨rfl, k_cons <| w_var 5 rfl <| k_nil ⟨rfl, _, rfl, Nat.le_trans shp.1 (by decide), fun q' hq' v11 H11 s11 hv11 => ?_, fun z => absurd z (by rw [hrd]; exact fun z => nomatch z)⟩⟩
    rw [hrd] at hq'
    cases hq'
    refine w_ratio T hr4 passL <| a_cons <| w_tq0 <| w_var 4 rfl ⟨q, hx.same (s7.trans s11), a_cons <| w_tq1 <| w_var 4 rfl ⟨q, hx.same (s7.trans s11), a_nil ⟨q.num, (q.den : Int), rfl, RM.pow_le g2 (by decide), fun _ v12 H12 s12 hv12 => ?_, fun z => absurd z (RM.den_ne q)⟩⟩⟩
    rw [Rat.num_divInt_den] at hv12
    refine ⟨q, some q, hv11.same s12, .rat q hv12, fun H13 s13 => ⟨_, rfl, ifF (by rw [decide_eq_true rfl]; rfl) (s_nil ?_)⟩⟩
    have s14 := s7.trans (s11.trans (s12.trans s13))
    replace hx := hx.same s14
    replace hB5 := hB5.same s14
    replace k6 := k6.trans s14.kp
    clear pqx s14 s7 s8 s9 s10 s11 s12 s13 hv hv11 hv12 hA
    -- near texts
    refine s_cons <| s_forr 6 (passes_of rfl) nd T.b_range <| w_int ⟨6, fun i σ H' => ∃ y6 y7 y8 y9 y10 y11, σ = [some (.ref a), some (.int j), some (.ref b), some (.int wd), some x, some (.str (TM.tx q)), y6, y7, y8, y9, y10, y11] ∧ Bx H' b (4 + 3 * i) ∧ Kp b H13 H', rfl, by decide, ⟨_, _, _, _, _, _, rfl, hB5, Kp.refl b H13⟩, ?_, ?_⟩
    · rintro i σ H14 hi ⟨y6, y7, y8, y9, y10, y11, rfl, hB, kp⟩
      have hx14 := hx.kp hB5 kp
      refine s_cons <| s_set 7 nd <| w_take T hr1 <| w_var 2 rfl <| w_op op_add <| w_callB call_len T.b_len (by decide +kernel) <| a_cons <| w_var 5 rfl <| a_nil ⟨_, (TM.tx q).length, rfl, ⟨line4 (Nat.le_trans shp.1 (by decide)), rfl⟩, w_int ⟨_, _, rfl, rfl, b, _, 4 + 3 * i, rfl, rfl, hB, by omega, by omega, small9 (by have := shp.1; omega), fun at_ H15 at0 at1 hB15 k15 => ?_⟩⟩
      obtain ⟨an, rfl⟩ := Int.eq_ofNat_of_zero_le at0
      refine s_cons <| s_set 8 nd <| w_menu T hr1 <| a_cons <| w_str <| a_cons <| w_str <| a_cons <| w_str <| a_cons <| w_str <| a_cons <| w_str <| a_cons <| w_str <| a_cons <| w_str <| a_cons <| w_str <| a_cons <| w_str <| a_cons <| w_str <| a_cons <| w_str <| a_cons <| w_str <| a_nil ⟨rfl, by decide, by decide, fun p hp => w_var 2 rfl ⟨rfl, b, 4 + 3 * i + 1, rfl, hB15, by omega, fun pv hpv H16 hB16 k16 => ?_⟩⟩
      obtain ⟨part, rfl, shq⟩ : ∃ z : Str, pv = .str z ∧ Sh 2 z := by
        simp only [List.mem_cons, List.not_mem_nil, or_false] at hpv
        rcases hpv with rfl | rfl | rfl | rfl | rfl | rfl | rfl | rfl | rfl | rfl | rfl | rfl
        all_goals exact ⟨_, rfl, by decide +kernel, by decide +kernel⟩
      refine s_cons <| s_set 9 nd <| We.mono (Q := fun v H17 => ∃ nr, v = .str nr ∧ Sh 50 nr ∧ Bx H17 b (4 + 3 * i + 3) ∧ Kp b H16 H17) ?_ ?_
      · refine w_op op_add_str <| w_op op_add_str <| w_slT C8.sl_txt <| w_var 5 rfl <| w_var 7 rfl ⟨(an : Int), rfl, _, rfl, line4 (Nat.le_trans shp.1 (by decide)), w_var 8 rfl ⟨_, _, rfl, rfl, ?_, ?_⟩⟩
        · rw [slT]
          have h1 := (shp.sub (l := (TL.tl (TM.tx q)).take an) (by rw [List.length_take]; omega) (fun c hc => List.mem_of_mem_take hc)).1
          have h2 := shq.1
          exact line4 (by omega)
        rw [slT]
        have sh1 := shp.sub (l := (TL.tl (TM.tx q)).take an) (by rw [List.length_take]; omega) (fun c hc => List.mem_of_mem_take hc)
        refine w_slF C8.sl_txt <| w_var 5 rfl <| w_op op_add <| w_var 7 rfl <| w_take T hr1 <| w_var 2 rfl <| w_int ⟨b, 2, 4 + 3 * i + 2, rfl, rfl, hB16, by omega, by decide, by decide +kernel, fun r2 H17 r20 r21 hB17 k17 => ⟨_, _, rfl, rfl, _, rfl, _, rfl, line4 (Nat.le_trans shp.1 (by decide)), ?_⟩⟩
        obtain ⟨rn, rfl⟩ := Int.eq_ofNat_of_zero_le r20
        have es : ((an : Int) + (rn : Int)) = ((an + rn : Nat) : Int) := rfl
        rw [es, slF]
        have sh2 := shp.sub (l := (TL.tl (TM.tx q)).drop (an + rn)) (by rw [List.length_drop]; omega) (fun c hc => List.mem_of_mem_drop hc)
        have sh3 := (sh1.app shq).app sh2
        exact ⟨_, _, rfl, rfl, line4 (by have h1 := (sh1.app shq).1; have h2 := sh2.1; omega), _, rfl, sh3.mono (by decide), hB17, k17⟩
      rintro v17 H17 ⟨nr, rfl, shr, hB17, k17⟩
      have k14 : Kp b H14 H17 := k15.trans (k16.trans k17)
      have hx17 := hx14.kp hB k14
      clear k15 k16 k17 hB15 hB16
      have b2n : (q.num * 2).natAbs < 10 ^ 10 := by omega
      have b2d : ((q.den : Int) * 2).natAbs < 10 ^ 10 := by omega
      have c2n : (q.num * 2).natAbs < 2 ^ 1604 := Nat.lt_of_lt_of_le b2n (Nat.le_trans (TM.ten_two 10) (Nat.pow_le_pow_right (by decide) (by decide)))
      have c2d : ((q.den : Int) * 2).natAbs < 2 ^ 1604 := Nat.lt_of_lt_of_le b2d (Nat.le_trans (TM.ten_two 10) (Nat.pow_le_pow_right (by decide) (by decide)))
      have sh2n := sh_sT (k := 10) (by decide) b2n
      have sh2d := sh_sT (k := 10) (by decide) b2d
      refine s_cons <| s_set 10 nd <| w_op op_add_str <| w_op op_add_str <| w_callT call_str_int T.b_str (by decide +kernel) <| a_cons <| w_op op_mul <| w_tq0 <| w_var 4 rfl ⟨q, hx17, w_int ⟨_, _, rfl, rfl, .inr ⟨by decide, by decide⟩, a_nil ⟨_, rfl, TM.log_lt c2n, w_str ⟨_, _, rfl, rfl, ?_, ?_⟩⟩⟩⟩
      · rw [str_slash]
        exact line4 (by have h1 : (Str.ofString (toString (q.num * 2))).length ≤ 11 := sh2n.1; have := sh_sl.1; omega)
      rw [str_slash]
      refine w_callT call_str_int T.b_str (by decide +kernel) <| a_cons <| w_op op_mul <| w_tq1 <| w_var 4 rfl ⟨q, hx17, w_int ⟨_, _, rfl, rfl, .inr ⟨by decide, by decide⟩, a_nil ⟨_, rfl, TM.log_lt c2d, _, _, rfl, rfl, ?_, ?_⟩⟩⟩
      · rw [app_len]
        exact line4 (by have h1 : (Str.ofString (toString (q.num * 2))).length ≤ 11 := sh2n.1; have := sh_sl.1; have h2 : (Str.ofString (toString ((q.den : Int) * 2))).length ≤ 11 := sh2d.1; omega)
      have shf := (sh2n.app sh_sl).app sh2d
      change Wb _ _ _ (List.set _ 10 (some (.str (TM.sT (q.num * 2) ++ TM.sl ++ TM.sT ((q.den : Int) * 2))))) _
      generalize TM.sT (q.num * 2) ++ TM.sl ++ TM.sT ((q.den : Int) * 2) = fc at shf ⊢
      -- each text
      have sh3 := (shp.app sh_sl).app shq
      have sh4 := shq.app shp
      refine s_cons <| s_forl 11 (passes_of rfl) nd <| w_lst <| a_cons <| w_var 9 rfl <| a_cons <| w_var 10 rfl <| a_cons <| w_op op_add_str <| w_op op_add_str <| w_var 5 rfl <| w_str ⟨_, _, rfl, rfl, ?_, w_var 8 rfl ⟨_, _, rfl, rfl, ?_, a_cons <| w_op op_add_str <| w_var 8 rfl <| w_var 5 rfl ⟨_, _, rfl, rfl, ?_, a_nil ⟨by show 4 ≤ sizeLine; decide, fun l hl4 => ?_⟩⟩⟩⟩
      · try rw [str_slash]
        exact line4 (by have h1 := shp.1; have h2 := sh_sl.1; omega)
      · try rw [str_slash]
        exact line4 (by have h1 := (shp.app sh_sl).1; have h2 := shq.1; omega)
      · exact line4 (by have h1 := shp.1; have h2 := shq.1; omega)
      try rw [str_slash]
      refine ⟨l, _, fun n σ H' => ∃ y11, σ = [some (.ref a), some (.int j), some (.ref b), some (.int wd), some x, some (.str (TM.tx q)), some (.int (i : Int)), some (.int (an : Int)), some (.str part), some (.str nr), some (.str fc), y11] ∧ Same (upd H17 l (.lst [.str nr, .str fc, .str (TM.tx q ++ TM.sl ++ part), .str (part ++ TM.tx q)])) H', rfl, SqL.of upd_same, ⟨_, rfl, Same.refl _⟩, fun n σ H' _ ⟨_, _, z⟩ => SqL.of (z _ _ upd_same), ?_, ?_⟩
      · rintro n y σ H18 hy ⟨y11, rfl, s18⟩
        obtain ⟨tt, rfl, sht⟩ : ∃ z : Str, y = .str z ∧ Sh 400 z := by
          have hm := List.mem_of_getElem? hy
          simp only [List.mem_cons, List.not_mem_nil, or_false] at hm
          rcases hm with rfl | rfl | rfl | rfl
          · exact ⟨_, rfl, shr.mono (by decide)⟩
          · exact ⟨_, rfl, shf.mono (by decide)⟩
          · exact ⟨_, rfl, sh3.mono (by decide)⟩
          · exact ⟨_, rfl, sh4.mono (by decide)⟩
        refine s_one <| s_if <| t_same hr.units <| w_call (fn_lread T) hr T.g__law_read (kept T.f__law_read) passL <| a_cons <| w_var 11 rfl <| a_nil ⟨_, rfl, sht.1, fun v19 H19 s19 h19 => ⟨h19, ?_⟩⟩
        exact w_call (fn_due T) hr2 T.g__law_due (kept T.f__law_due) passL <| a_cons <| w_var 11 rfl <| a_nil ⟨_, rfl, sht.1, sht.2, fun v20 H20 s20 h20 => ⟨s20, h20, ifF rfl (s_nil ⟨_, rfl, s18.trans (s19.trans s20)⟩)⟩⟩
      · rintro σ H18 ⟨y11, rfl, s18⟩
        have s17 := (same_new (o := .lst [.str nr, .str fc, .str (TM.tx q ++ TM.sl ++ part), .str (part ++ TM.tx q)]) hl4).trans s18
        exact s_nil ⟨_, _, _, _, _, _, rfl, hB17.same s17, kp.trans (k14.trans s17.kp)⟩
    · rintro σ H14 ⟨y6, y7, y8, y9, y10, y11, rfl, hB, kp⟩
      exact s_nil ⟨_, _, _, _, _, _, _, _, _, _, _, rfl, s0.trans (same_kp hb s1 (k6.trans kp))⟩
  · rintro σ H' ⟨z1, z2, z3, z4, z5, z6, z7, z8, z9, z10, z11, rfl, s0⟩
    have n1 : TM.due (Str.ofString "") = none := by decide +kernel
    have n2 : TM.due (Str.ofString "-0") = none := by decide +kernel
    have n3 : TM.due (Str.ofString "0/3") = none := by decide +kernel
    refine s_one <| s_ret <| w_and <| w_cmp op_isN <| w_call (fn_lread T) hr T.g__law_read (kept T.f__law_read) passL <| a_cons <| w_str <| a_nil ⟨_, rfl, by decide +kernel, fun v1 H1 s1 h1 => ?_⟩
    rw [n1] at h1
    cases (show v1 = .non from h1)
    refine w_non ⟨rfl, true, rfl, ifT rfl ?_⟩
    refine w_and <| w_cmp op_isN <| w_call (fn_lread T) hr T.g__law_read (kept T.f__law_read) passL <| a_cons <| w_str <| a_nil ⟨_, rfl, by decide +kernel, fun v1 H1 s1 h1 => ?_⟩
    rw [n2] at h1
    cases (show v1 = .non from h1)
    refine w_non ⟨rfl, true, rfl, ifT rfl (w_one ?_)⟩
    refine w_cmp op_isN <| w_call (fn_lread T) hr T.g__law_read (kept T.f__law_read) passL <| a_cons <| w_str <| a_nil ⟨_, rfl, by decide +kernel, fun v1 H1 s1 h1 => ?_⟩
    rw [n3] at h1
    cases (show v1 = .non from h1)
    exact w_non ⟨rfl, kk _⟩
end
end LW
namespace LW
open PySem PySem.Spec PyProof.Rows L2
abbrev R : PySem.W.OpenRow := PySem.W.OpenLaw.row PySem.Challenge.rw_paystreams_k03_texts_of_ratios
abbrev hk : PySem.W.Hook := PH.hookP 5 fa fn
def ob (s : PySem.W.SharedT) : He.AlD := PH.obsPG 5 fa fn (HandSHeadRun.getT s)
theorem ob_eq (s : PySem.W.SharedT) : ob s = hk.obs s.abs := PH.obsPG_eq (HandSHeadRun.getT_eq s)
set_option maxHeartbeats 0 in
theorem run (w : World) : HandSHeadRun.RunEq R (PySem.W.view R.prog [25]) hk ob 8000 nms w := by
  intro os
  kernel_rfl
theorem law_name : (HandSHeadRun.topDef R.prog 25).name = ("law" : PySem.Str) := by kernel_rfl
end LW
open PySem PySem.W PySem.Calls PyProof.Rows
set_option maxHeartbeats 0
theorem PySem.Challenge.cw_paystreams_k03_texts_of_ratios_holds : PySem.Challenge.rw_paystreams_k03_texts_of_ratios.Holds := by
  w_on; o_law
  refine HandSHeadRun.head_any (r := OpenLaw.row PySem.Challenge.rw_paystreams_k03_texts_of_ratios) (q := view (OpenLaw.row PySem.Challenge.rw_paystreams_k03_texts_of_ratios).prog [25]) (H := LW.hk) (ob := LW.ob) (M := 8000) (loose := LW.nms) (d := HandSHeadRun.topDef (OpenLaw.row PySem.Challenge.rw_paystreams_k03_texts_of_ratios).prog 25) (kwd := [])
    LW.ob_eq (by kernel_rfl) (fun s => by kernel_rfl) LW.run (by kernel_rfl) (by kernel_rfl) (by kernel_rfl) (by rfl) (by first | assumption | decide +kernel) (by decide +kernel) ⟨rfl, rfl, rfl, rfl, rfl, by decide +kernel⟩ ?hw ?hc
  case hw => w_witness2
  case hc =>
    refine PR.walk_ofG (l := PySem.Challenge.rw_paystreams_k03_texts_of_ratios) (n := 63) (k := 7) rfl (by decide) (by kernel_rfl) ⟨rfl, by decide, by decide⟩ ?F
    intro w mg f h Y G hm
    obtain ⟨K, KI, c⟩ := Y
    have T := LW.tx_of KI G c
    rw [LW.law_name] at hm
    have e := hm.symm.trans T.g_law
    cases e
    exact ⟨K, LW.spLaw K, KI, fun H a ns _ _ hS => ⟨a, ns, rfl, hS, fun _ => rfl⟩, fun base _ _ => LW.fn_law T⟩
