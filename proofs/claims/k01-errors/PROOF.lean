import PyProof.Rows.All
import Wide.All
import OpenK.AllK
import Wide.FinOn
import HandS.ForMost
import HandS.ForExc
import HandS.ExcInit
import HandS.IsInst
import HandS.Wide
import HandS.Defaults
import HandS.ClsMeth
import HandS.Star
import HandS.SlotsOwn
import KE.KOpsOwn
import HandS.Head0
import HandS.Head1
import HandS.Head2
import HandS.HeadEnd
import HandS.HeadHook1
import HandS.HeadHook2
import HandS.HeadNt
import HandS.ExcField
import HandS.TryOnly
import HandS.TryMany
import HandS.TryElse
import HandS.List
import HandS.MakeKwOnly
import HandS.Comp
import HandS.Ends
import HandS.Iter
import HandS.Text
import HandS.FStr
import HandS.Codes
import HandS.Walk
import HandS.Words
import PyProof.Rows.ReprOcc
import HandS.ExcIs
import PySem.Challenge.RW_paystreams_k01_errors
set_option Elab.async false
set_option linter.all false
set_option maxRecDepth 100000
set_option maxHeartbeats 4000000
/-! What must hold so that an expression, a test, an argument list, a statement, a block does what is wanted: the best reading of each. -/
namespace PR
open PySem PySem.Spec PyProof.Rows L2
structure We (X : Cx) (e : Expr) (σ : L2.St) (H : Hp) (Q : VK) : Prop where
  run : ∀ (pins : List (Addr × Obj)) (s : Shared), Inv X pins σ H s → wpAny (model X.prog X.w) X.A (eval e X.env) (EP X pins σ Q) X.xe s
structure Wt (X : Cx) (e : Expr) (σ : L2.St) (H : Hp) (Q : Bool → Hp → Prop) : Prop where
  run : ∀ (pins : List (Addr × Obj)) (s : Shared), Inv X pins σ H s → wpAny (model X.prog X.w) X.A (isTrue e X.env (eval e X.env)) (TP X pins σ Q) X.xe s
structure Ww (X : Cx) (e : Expr) (σ : L2.St) (H : Hp) (Q : Bool → Hp → Prop) : Prop where
  run : ∀ (whole : Sem Value) (pins : List (Addr × Obj)) (s : Shared), Inv X pins σ H s → wpAny (model X.prog X.w) X.A (isTrue e X.env whole) (TP X pins σ Q) X.xe s
structure Wa (X : Cx) (es : List Expr) (σ : L2.St) (H : Hp) (Q : List V → Hp → Prop) : Prop where
  run : ∀ (pos : Pos) (pins : List (Addr × Obj)) (s : Shared), Inv X pins σ H s → wpAny (model X.prog X.w) X.A (spliced (backTo pos (starEach es X.env))) (AP X pins σ Q) X.xe s
structure Wk (X : Cx) (kws : List Keyword) (σ : L2.St) (H : Hp) (Q : List V → Hp → Prop) : Prop where
  run : ∀ (pos : Pos) (pins : List (Addr × Obj)) (s : Shared), Inv X pins σ H s → wpAny (model X.prog X.w) X.A (evalAll ((backToKw pos (keywordEach kws X.env)).map (·.2))) (AP X pins σ Q) X.xe s
structure Ws (X : Cx) (st : Stmt) (D : Ends) (σ : L2.St) (H : Hp) : Prop where
  run : ∀ (pins : List (Addr × Obj)) (s : Shared), Inv X pins σ H s → wpAny (model X.prog X.w) X.A (exec st X.env) (SP X pins D) X.xe s
structure Wb (X : Cx) (sts : List Stmt) (D : Ends) (σ : L2.St) (H : Hp) : Prop where
  run : ∀ (pins : List (Addr × Obj)) (s : Shared), Inv X pins σ H s → wpAny (model X.prog X.w) X.A (execs sts X.env) (SP X pins D) X.xe s
section
variable {X : Cx} {e a b c : Expr} {es rest : List Expr} {σ : L2.St} {H : Hp} {Q : VK} {Qb : Bool → Hp → Prop} {Qa : List V → Hp → Prop} {D : Ends} {pos pos' p : Pos} {st : Stmt} {sts : List Stmt}
theorem peW : PE X e (We X e) := ⟨fun pins s _ _ _ I h => h.run pins s I⟩
theorem ptW : PT X e (Wt X e) := ⟨fun pins s _ _ _ I h => h.run pins s I⟩
theorem pwW : PW X e (Ww X e) := ⟨fun wh pins s _ _ _ I h => h.run wh pins s I⟩
theorem paW : PA X es (Wa X es) := ⟨fun pos pins s _ _ _ I h => h.run pos pins s I⟩
theorem pkW {kws : List Keyword} : PK X kws (Wk X kws) := ⟨fun pos pins s _ _ _ I h => h.run pos pins s I⟩
theorem psW : PS X st (Ws X st) := ⟨fun pins s _ _ _ I h => h.run pins s I⟩
theorem pbW : PSs X sts (Wb X sts) := ⟨fun pins s _ _ _ I h => h.run pins s I⟩
theorem we_of {t : TE} (q : PE X e t) (h : t σ H Q) : We X e σ H Q := ⟨fun pins s I => q.run pins s σ H Q I h⟩
theorem wt_of {t : TT} (q : PT X e t) (h : t σ H Qb) : Wt X e σ H Qb := ⟨fun pins s I => q.run pins s σ H Qb I h⟩
theorem ww_of {t : TT} (q : PW X e t) (h : t σ H Qb) : Ww X e σ H Qb := ⟨fun wh pins s I => q.run wh pins s σ H Qb I h⟩
theorem wa_of {t : TA} (q : PA X es t) (h : t σ H Qa) : Wa X es σ H Qa := ⟨fun pos pins s I => q.run pos pins s σ H Qa I h⟩
theorem wk_of {t : TA} {kws : List Keyword} (q : PK X kws t) (h : t σ H Qa) : Wk X kws σ H Qa := ⟨fun pos pins s I => q.run pos pins s σ H Qa I h⟩
theorem ws_of {t : TS} (q : PS X st t) (h : t D σ H) : Ws X st D σ H := ⟨fun pins s I => q.run pins s σ H D I h⟩
theorem wb_of {t : TS} (q : PSs X sts t) (h : t D σ H) : Wb X sts D σ H := ⟨fun pins s I => q.run pins s σ H D I h⟩
theorem We.mono {Q' : VK} (h : We X e σ H Q) (k : ∀ v H', Q v H' → Q' v H') : We X e σ H Q' := ⟨fun pins s I => thn (h.run pins s I) fun _ _ ⟨v, H', J, r, q⟩ => ⟨v, H', J, r, k v H' q⟩⟩
theorem Wt.mono {Q' : Bool → Hp → Prop} (h : Wt X e σ H Qb) (k : ∀ v H', Qb v H' → Q' v H') : Wt X e σ H Q' := ⟨fun pins s I => thn (h.run pins s I) fun v _ ⟨H', J, q⟩ => ⟨H', J, k v H' q⟩⟩
theorem Wa.mono {Q' : List V → Hp → Prop} (h : Wa X es σ H Qa) (k : ∀ v H', Qa v H' → Q' v H') : Wa X es σ H Q' := ⟨fun pos pins s I => thn (h.run pos pins s I) fun _ _ ⟨v, H', J, r, q⟩ => ⟨v, H', J, r, k v H' q⟩⟩
theorem ifT {k : Bool} {A B : Prop} (e : k = true) (h : A) : if k = true then A else B := by rw [if_pos e]; exact h
theorem ifF {k : Bool} {A B : Prop} (e : k = false) (h : B) : if k = true then A else B := by rw [if_neg (by rw [e]; exact Bool.false_ne_true)]; exact h
/-! ### expressions -/
theorem w_var (i : Nat) {x : Str} {v : V} (h : σ[i]? = some (some v)) (q : Q v H) (hN : X.N[i]? = some x := by rfl) (hv : Vis X.env.scope x := by first | exact Or.inl rfl | exact Or.inr (Or.inl rfl) | exact Or.inr (Or.inr rfl))
    (hd : (x == ("__debug__" : Str)) = false := by decide) (hcd : (x == ("__classdict__" : Str)) = false := by decide) : We X (.Name x pos) σ H Q := we_of (pe_var (i := i) hN hv hd hcd) ⟨v, h, q⟩
theorem w_int {i : Int} {j} (q : Q (.int i) H) : We X (.Constant (.int i) j pos) σ H Q := we_of pe_int q
theorem w_bl {i : Bool} {j} (q : Q (.bl i) H) : We X (.Constant (.bool i) j pos) σ H Q := we_of pe_bl q
theorem w_non {j} (q : Q .non H) : We X (.Constant .none j pos) σ H Q := we_of pe_non q
theorem w_str {x : Str} {j} (q : Q (.str x) H) : We X (.Constant (.str x) j pos) σ H Q := we_of pe_str q
theorem w_glob {x : Str} {v : V} {u : Value} (hm : X.mg x = some u) (r : RelV v u) (q : Q v H) (hg : Gl X x := by rfl) (hd : (x == ("__debug__" : Str)) = false := by decide) : We X (.Name x pos) σ H Q := we_of (pe_glob hg hm r hd) q
theorem w_ref {x : Str} {f : Addr} (hm : X.mg x = some (.ref f)) (q : Q (.ref f) H) (hg : Gl X x := by rfl) (hd : (x == ("__debug__" : Str)) = false := by decide) : We X (.Name x pos) σ H Q := we_of (pe_glob (v := .ref f) hg hm rfl hd) q
theorem w_bltn {x : Str} {v : V} {u : Value} (hm : X.mg x = none) (hv : bootBuiltins x = some u) (r : RelV v u) (q : Q v H) (hg : Gl X x := by rfl) (hn : x ≠ "__name__" := by decide) (hd : (x == ("__debug__" : Str)) = false := by decide) : We X (.Name x pos) σ H Q :=
  we_of (pe_bltn hg hm hv r hn hd) q
theorem w_op {op : Operator} {r : R2} (ho : OpR X (binaryOp op) r) (h : We X a σ H fun x H1 => We X b σ H1 fun y H2 => r x y H2 Q) : We X (.BinOp a op b pos) σ H Q := we_of (pe_op ho peW peW) h
theorem w_un {op : UnaryOp} {r : V → Hp → VK → Prop} (ho : UnR X (unaryOp op) r) (h : We X a σ H fun x H1 => r x H1 Q) : We X (.UnaryOp op a pos) σ H Q := we_of (pe_un ho peW) h
theorem w_cmp {op : CmpOp} {r : R2} (ho : OpR X (compareOp op) r) (h : We X a σ H fun x H1 => We X b σ H1 fun y H2 => r x y H2 Q) (hm : behindInMarks op b = false := by first | exact nomark _ | rfl) : We X (.Compare a [op] [b] pos) σ H Q := we_of (pe_cmpR ho peW peW hm) h
theorem w_ife (h : Wt X c σ H fun k H1 => if k = true then We X a σ H1 Q else We X b σ H1 Q) : We X (.IfExp c a b pos) σ H Q := we_of (pe_ifExp ptW peW peW) h
theorem w_one {op} (h : We X a σ H Q) : We X (.BoolOp op [a] pos) σ H Q := we_of (pe_one peW) h
theorem w_and (h : We X a σ H fun x H1 => ∃ k, x = .bl k ∧ if k = true then We X (.BoolOp .And (b :: rest) pos) σ H1 Q else Q (.bl false) H1) : We X (.BoolOp .And (a :: b :: rest) pos) σ H Q := we_of (pe_and peW peW) h
theorem w_or (h : We X a σ H fun x H1 => ∃ k, x = .bl k ∧ if k = true then Q (.bl true) H1 else We X (.BoolOp .Or (b :: rest) pos) σ H1 Q) : We X (.BoolOp .Or (a :: b :: rest) pos) σ H Q := we_of (pe_or peW peW) h
theorem w_not (h : We X a σ H fun x H1 => ∃ k, x = .bl k ∧ Q (.bl (!k)) H1) : We X (.UnaryOp .Not a pos) σ H Q := we_of (pe_not peW) h
theorem w_tup {k} (h : Wa X es σ H fun xs H1 => xs.length ≤ sizeLine ∧ ∀ p, H1 p = none → Q (.ref p) (upd H1 p (.tup xs))) : We X (.Tuple es k pos) σ H Q := we_of (pe_tup paW) h
theorem w_lst (h : Wa X es σ H fun xs H1 => xs.length ≤ sizeLine ∧ ∀ p, H1 p = none → Q (.ref p) (upd H1 p (.lst xs))) : We X (.List es pos) σ H Q := we_of (pe_lst paW) h
theorem w_fld {f : Str} (h : We X e σ H fun x H1 => ∃ a C dx fs v, x = .ref a ∧ H1 a = some (.ins C dx fs) ∧ Cls X.K C ∧ NoAttr X.K C f ∧ fs.lookup f = some v ∧ Q v H1)
    (hb : attributeBase e f X.env (eval e X.env) = eval e X.env := by rfl) : We X (.Attribute e f pos) σ H Q := we_of (pe_fld peW hb) h
theorem w_ix {r : R2} (hr : IxR X r) (h : We X a σ H fun x H1 => We X b σ H1 fun y H2 => r x y H2 Q) (hs : PlainIx b := by exact fun _ _ => rfl) : We X (.Subscript a b pos) σ H Q := we_of (pe_ix hr peW peW hs) h
/-! ### arguments -/
theorem a_nil (q : Qa [] H) : Wa X [] σ H Qa := wa_of pa_nil q
theorem a_cons (h : We X e σ H fun x H1 => Wa X es σ H1 fun xs H2 => Qa (x :: xs) H2) (hs : starEach (e :: es) X.env = (false, eval e X.env) :: starEach es X.env := by rfl) : Wa X (e :: es) σ H Qa := wa_of (pa_cons peW paW hs) h
theorem k_nil (q : Qa [] H) : Wk X [] σ H Qa := wk_of pk_nil q
theorem k_cons {nm kpos} {kws : List Keyword} (h : We X e σ H fun x H1 => Wk X kws σ H1 fun xs H2 => Qa (x :: xs) H2) : Wk X (⟨nm, e, kpos⟩ :: kws) σ H Qa := wk_of (pk_cons peW pkW) h
/-! ### tests -/
theorem t_val (h : We X e σ H fun x H1 => ∃ k, x = .bl k ∧ Qb k H1) (he : ∀ whole, isTrue e X.env whole = (do let v ← whole; standAt e.pos; holding [v] (truthy v)) := by intro _; rfl) : Wt X e σ H Qb := wt_of (pt_val peW he) h
theorem t_truth (h : We X e σ H fun x H1 => ∃ k, TruV X.K x H1 k ∧ Qb k H1) (he : ∀ whole, isTrue e X.env whole = (do let v ← whole; standAt e.pos; holding [v] (truthy v)) := by intro _; rfl) : Wt X e σ H Qb := wt_of (pt_truth peW he) h
theorem t_cmp {op : CmpOp} {r : R2} (ho : OpR X (compareOp op) r) (h : We X a σ H fun x H1 => We X b σ H1 fun y H2 => r x y H2 fun z H3 => ∃ k, z = .bl k ∧ Qb k H3) (hm : behindInMarks op b = false := by first | exact nomark _ | rfl) : Wt X (.Compare a [op] [b] pos) σ H Qb :=
  wt_of (pt_cmpR ho peW peW hm) h
theorem t_not (h : Wt X a σ H fun k H1 => Qb (!k) H1) : Wt X (.UnaryOp .Not a pos) σ H Qb := wt_of (pt_not ptW) h
theorem t_bool (h : Ww X e σ H Qb) : Wt X e σ H Qb := ⟨fun pins s I => h.run _ pins s I⟩
theorem b_and1 (h : Wt X a σ H Qb) : Ww X (.BoolOp .And [a] pos) σ H Qb := ww_of (pw_and1 ptW) h
theorem b_or1 (h : Wt X a σ H Qb) : Ww X (.BoolOp .Or [a] pos) σ H Qb := ww_of (pw_or1 ptW) h
theorem b_and (h : Wt X a σ H fun k H1 => if k = true then Ww X (.BoolOp .And (b :: rest) pos) σ H1 Qb else Qb false H1) : Ww X (.BoolOp .And (a :: b :: rest) pos) σ H Qb := ww_of (pw_and ptW pwW) h
theorem b_or (h : Wt X a σ H fun k H1 => if k = true then Qb true H1 else Ww X (.BoolOp .Or (b :: rest) pos) σ H1 Qb) : Ww X (.BoolOp .Or (a :: b :: rest) pos) σ H Qb := ww_of (pw_or ptW pwW) h
/-! ### statements -/
theorem s_nil (q : D.nx σ H) : Wb X [] D σ H := wb_of pss_nil q
theorem s_one (h : Ws X st D σ H) : Wb X [st] D σ H := wb_of (pss_one psW) h
theorem s_cons (h : Ws X st { D with nx := fun σ' H' => Wb X sts D σ' H' } σ H) : Wb X (st :: sts) D σ H := wb_of (pss_cons psW pbW) h
theorem s_pass (q : D.nx σ H) : Ws X (.Pass pos) D σ H := ws_of ps_pass q
theorem s_brk (q : D.bk σ H) : Ws X (.Break pos) D σ H := ws_of ps_break q
theorem s_cont (q : D.ct σ H) : Ws X (.Continue pos) D σ H := ws_of ps_continue q
theorem s_expr (h : We X e σ H fun _ H1 => D.nx σ H1) (hs : swapsWith e none pos.line X.env = pure false := by rfl) : Ws X (.Expr e pos) D σ H := ws_of (ps_expr peW hs) h
theorem s_ret (h : We X e σ H D.rt) : Ws X (.Return (some e) pos) D σ H := ws_of (ps_ret peW) h
theorem s_if {u v : List Stmt} (h : Wt X c σ H fun k H1 => if k = true then Wb X u D σ H1 else Wb X v D σ H1) : Ws X (.If c u v pos) D σ H := ws_of (ps_if ptW pbW pbW) h
theorem s_set (i : Nat) {x : Str} (hN : X.N.Nodup) (h : We X e σ H fun v H1 => D.nx (σ.set i (some v)) H1) (hi : X.N[i]? = some x := by rfl) (hx : Loc X.env.scope x := by first | exact Or.inl rfl | exact Or.inr rfl) (hs : swapsWith e (some (.Name x pos')) pos.line X.env = pure false := by rfl)
    (hf : X.fn x = true ∨ X.env.scope.names.lookup x = some .local := by first | exact .inl rfl | exact .inr rfl) : Ws X (.Assign [.Name x pos'] e pos) D σ H := ws_of (ps_set hN hi hx peW hs hf) h
end
end PR
namespace PR
open PySem PySem.Spec PyProof.Rows L2
section
variable {X : Cx} {e : Expr} {es : List Expr} {ta : TA} {p p1 p2 pos : Pos}
/-- S.__init__(self, ..), S a class of the program over ValueError without an own __init__ -/
theorem pe_sinit {S : Str} {C : Addr} {mc : Value} {pl : Sem Bool} (hg : Gl X S) (hm : X.mg S = some (.ref C)) (r : ClX.CRead X.K C mc) (vV : PySem.W.findCls X.K (.ref C) mc "__init__" = some (.val (.builtin "ValueError.__init__"))) (ha : PA X (e :: es) ta)
    (hdb : (S == ("__debug__" : Str)) = false := by decide)
    (hc : eval (.Call (.Attribute (.Name S p1) "__init__" p2) (e :: es) [] pos) X.env = (do
      let ov ← eval (.Name S p1) X.env
      standAt p2.atName
      let (f, first) ← holding [ov] (getMethod ov "__init__" pl)
      callWith pos f first (backTo pos (starEach (e :: es) X.env)) (backToKw pos (keywordEach [] X.env))) := by rfl)
    (he : starEach (e :: es) X.env = (false, eval e X.env) :: starEach es X.env := by rfl) (hpl : (backTo pos (starEach es X.env)).any (·.1) = false := by rfl) :
    PE X (.Call (.Attribute (.Name S p1) "__init__" p2) (e :: es) [] pos) (tVeI X.K ta) := by
  refine ⟨fun pins s σ H Q I h => ?_⟩
  refine PySem.W.methodCall_KW (ld_glob I hg hm ?_ hdb) hc
  refine PySem.W.method_cls I.kIn r.ga (PySem.W.cls_value I.kIn r.rd vV (by decide +kernel) ?_)
  show wpAny _ _ (callWith pos (Value.builtin "ValueError.__init__") [] (backTo pos (starEach (e :: es) X.env)) []) _ _ _
  refine PyProof.Rows.callWith_method1 (thn (ha.run pos pins _ σ H _ (I.tok _) h) fun us s1 ⟨vs, H1, I1, r1, a, C, ws, ev, hl, T, ea, q⟩ => ?_) he hpl
  subst ev
  cases r1 with
  | @cons _ u0 _ ur ra rw' =>
    obtain rfl : u0 = Value.ref a := ra
    have hlen : ur.length ≤ sizeLine := by
      rw [← Paired.length rw', sizeLine_eq]
      omega
    exact oinit_ok T I1 ea hlen fun s' J => ⟨.non, H1, J, rfl, q⟩
/-- the end of C(..) whose __init__ stores nothing: the exception is let go -/
theorem mk_endN {pins : List (Addr × Obj)} {σ : L2.St} {H1 H2 : Hp} {Q : XK} {hp hp2 h2 : Heap} {g1 g2 : Array GenState} {d1 d2 : Drawn} {t1 t2 : Nat} {os1 os2 : OsState} {a C : Addr} (T : Raises X (.ref C)) (I1 : Inv X pins σ H1 ⟨hp, g1, d1, t1, os1⟩)
    (ha : hp.objs.size ≤ a) (k : ∀ b o, hp.get? b = some o → hp2.get? b = some o) (un : Un (frs X.stack) [] (upd H1 a (exo a C none)) H2 hp2 h2) (hok : HOk X.prog X.w H2 h2) (ho : os2 = os1) (hb : AllBare g2)
    (ea : H2 a = some (exo a C none)) (q : Q (.ref C) none (del H2 a)) : MkP X pins σ Q (.ref a) ⟨h2, g2, d2, t2, os2⟩ := by
  obtain ⟨t0, hoe⟩ := exo_at hok ea
  have hn : H1 a = none := I1.hok.fresh ha
  obtain ⟨G, g1', g2'⟩ := restrict h2 fun b => decide (b ≠ a)
  have gk : ∀ b, b ≠ a → G.get? b = h2.get? b := fun b hb => g1' b (decide_eq_true hb)
  have ge : G.get? a = none := g2' a (by simp)
  have nha : ∀ {b : Addr} {o : Obj}, hp.get? b = some o → b ≠ a := fun {b o} z => Nat.ne_of_lt (Nat.lt_of_lt_of_le (Heap.lt_size z) ha)
  have up : ∀ {b : Addr}, b ≠ a → H1 b = none → upd H1 a (exo a C none) b = none := fun {b} hb n => by rw [upd_ne hb]; exact n
  have U : Un (frs X.stack) [] H1 (del H2 a) hp G := {
    keep := fun b o z n hf hx => by
      rw [gk b (nha z)]
      exact un.keep b o (k b o z) (up (nha z) n) hf hx
    slot := fun b o z n hf hx => by
      rw [gk b (nha z)]
      exact un.slot b o (k b o z) (up (nha z) n) hf hx
    free := fun b o z n hx => by
      rw [del_ne (nha z)]
      exact un.free b o (k b o z) (up (nha z) n) hx
    there := fun b o z hx => by
      rw [gk b (nha z)]
      exact un.there b o (k b o z) hx
    tups := fun b xs z => by
      rw [del_ne (ne_of_none z hn)]
      exact un.tups b xs (by rw [upd_ne (ne_of_none z hn)]; exact z)
    frzs := fun b o v z => by
      rw [del_ne (ne_of_none z hn)]
      exact un.frzs b o v (by rw [upd_ne (ne_of_none z hn)]; exact z)
    tbls := fun b ps z => by
      rw [del_ne (ne_of_none z hn)]
      exact un.tbls b ps (by rw [upd_ne (ne_of_none z hn)]; exact z) }
  have hok3 : HOk X.prog X.w (del H2 a) G := fun b o z => by
    have hba : b ≠ a := fun e => by
      rw [e, del_same] at z
      cases z
    rw [del_ne hba] at z
    have noa : ∀ {c : Addr}, H2 c = some (.own b) → c ≠ a := fun {c} hc => at_ne ea hc exo_own
    exact (hok b o z).stay (fun c v hc y => by
        have hca : c ≠ a := by
          rcases hc with hc | hc
          · rw [hc]
            exact hba
          · exact noa hc
        rw [gk c hca]
        exact y)
      (fun c hc => by rw [del_ne (noa hc)]; exact hc) (fun c xs hc => by rw [del_ne (at_ne ea hc exo_tup)]; exact hc)
  have J : Inv X pins σ (del H2 a) ⟨G, g2, d2, t2, os2⟩ := I1.call' (ch := []) ho U hok3 hb (fun b z => absurd z (by simp))
  refine ⟨a, _, _, ⟨G, g2, d2, t2, os2⟩, _, .ref C, none, rfl, J, fun b o z => ?_, ge, hoe, ⟨rfl, rfl⟩, rfl, rfl, del_same, rfl, hb, T, q⟩
  by_cases hba : b = a
  · rw [hba, ge] at z
    cases z
  · exact (gk b hba).symm.trans z
/-- C(), C's own __init__ keeping sp, nothing stored -/
def tMkO0 (C : Addr) (sp : Sp) : L2.St → Hp → XK → Prop := fun _ H Q => ∀ a, H a = none → sp [.ref a] (upd H a (exo a C none)) (fun v H2 => v = .non ∧ H2 a = some (exo a C none) ∧ Q (.ref C) none (del H2 a)) (fun _ _ _ => False)
theorem pmk_oex0 {CX : CXT} {x : Str} {C fI : Addr} {k : Nat} {fd : FuncData} {ps : List Str} {sp : Sp} (T : OexC X.K C) (iC : PySem.W.findIn X.K (.ref C) "__init__" = some (some (.ref fI))) (tI : PySem.W.typeIn X.K (.ref fI) = some (.type "function"))
    (F1 : FnOk X.prog X.w X.K X.mg X.base CX k fI fd ps sp) (hr : Room (k + 1) X.A) (hb : Binds X.K fd ps []) (hx : Passes CX X (fun _ _ _ => False)) (hg : Gl X x) (hm : X.mg x = some (.ref C))
    (hdb : (x == ("__debug__" : Str)) = false := by decide) :
    PMk X (.Call (.Name x p) [] [] pos) (tMkO0 C sp) := by
  intro pins s σ H1 Q I1 q1
  obtain ⟨nm, q, N, bs, bm, sn, sub, ab, col, dd, k0, k1, k2, k3, k5, hC, hbm⟩ := T.cls
  refine wpAny_Call_Name_kw (ld_glob I1 hg hm ?_ hdb)
  refine PySem.W.callWith_K0 I1.kIn T.kC ?_
  show wpAny _ _ (call (.ref C) []) _ _ _
  obtain ⟨hp, g, dr, tk, os⟩ := s
  have hsz : hp.objs.size ≤ hp.objs.size + 1 := Nat.le_succ _
  have hn : H1 (hp.objs.size + 1) = none := I1.hok.fresh hsz
  have hq := q1 (hp.objs.size + 1) hn
  have kk : ∀ b o, hp.get? b = some o → ((hp.push (PySem.W.kdv_tup [])).push (PySem.HandSPX.excO C hp.objs.size)).get? b = some o := fun b o e => Heap.get?_push_of_some _ (Heap.get?_push_of_some _ e)
  have hget : ((hp.push (PySem.W.kdv_tup [])).push (PySem.HandSPX.excO C hp.objs.size)).get? (hp.objs.size + 1) = some (PySem.HandSPX.excO C hp.objs.size) := by heap_get
  have I2 : Inv X pins σ (upd H1 (hp.objs.size + 1) (exo (hp.objs.size + 1) C none)) ⟨(hp.push (PySem.W.kdv_tup [])).push (PySem.HandSPX.excO C hp.objs.size), g, dr, tk, os⟩ :=
    I1.laid (t' := tk) (a := hp.objs.size + 1) (o := exo (hp.objs.size + 1) C none) (h' := (hp.push (PySem.W.kdv_tup [])).push (PySem.HandSPX.excO C hp.objs.size)) kk hsz (exo_ok hget)
  have r2 : Vals [V.ref (hp.objs.size + 1)] [Value.ref (hp.objs.size + 1)] := .cons rfl .nil
  have hl : ([Value.ref (hp.objs.size + 1)] ++ ([] : List Value)).length = ps.length := (F1.len _ _ _ _ hq)
  refine wpAny_call (PySem.HandSPX.call_own F.excBase_ValueError (fun Y => PySem.HandSPX.refsVE_contains Y bm hbm) (I1.kIn _ _ hC) (PySem.W.looks_findIn I1.kIn iC) (fun self => PySem.W.bind_fn I1.kIn self tI) (by simp)
    (codeAny_mono (F1.run _ X.stack _ _ ⟨[Value.ref (hp.objs.size + 1)], []⟩ [Value.ref (hp.objs.size + 1)] _ _ (fun _ _ _ => False) (hr.make C [] []) (I2.env0.make C [] []) (hb _ [Value.ref (hp.objs.size + 1)] I2.kIn hl) r2 hq) fun r s' hq' => ?_))
  cases r with
  | error er => exact hx pins σ _ _ er s' I2 hq'
  | ok fl =>
    cases fl with
    | ret u =>
      obtain ⟨v, H2, os2, bare2, un2, hok2, rv, ev, ea, q2⟩ := hq'
      subst ev
      obtain ⟨h2, g2, d2, t2, os'⟩ := s'
      exact ⟨rv, mk_endN (raises_own T.exC T.tyC) I1 hsz kk un2 hok2 os2 bare2 ea q2⟩
    | next => exact False.elim hq'
    | brk => exact False.elim hq'
    | cont => exact False.elim hq'
end
end PR
namespace PR
open PySem PySem.Spec PyProof.Rows L2
/-! ### calls -/
theorem passX {P : Program} {w : World} {K : PySem.W.Frag} {mg : Str → Option Value} {base : Heap} {N : List Str} {qual : Str} {sc : Scope} {f : Addr} {cdv : Value} {A : Around} {outer : List Env} {s : Shared} {H : Hp} {E : XK} :
    Passes (L2.CX P w) (cxOf (L2.CX P w) P w K mg base N qual sc f cdv A outer s H E) E :=
  passes_call (X := cxOf (L2.CX P w) P w K mg base N qual sc f cdv A outer s H E) (takes_of (E := E) rfl rfl rfl rfl) fun _ _ _ _ h => h
section
variable {X : Cx} {e o a b : Expr} {es : List Expr} {σ : L2.St} {H : Hp} {Q : VK} {p pos apos : Pos} {CX : CXT} {k : Nat} {f C g : Addr} {sp : Sp} {E : XK} {x m : Str}
/-- x(e, ..), x a def of the module -/
theorem w_call (F : FnR X.prog X.w X.K X.mg X.base CX k f sp) (hr : Room k X.A) (hm : X.mg x = some (.ref f)) (hk : PySem.W.keepIn X.K (.ref f) = true) (hx : Passes CX X E)
    (h : Wa X (e :: es) σ H fun vs H1 => sp vs H1 Q E) (hg : Gl X x := by rfl) (hdb : (x == ("__debug__" : Str)) = false := by decide) (he : starEach (e :: es) X.env = (false, eval e X.env) :: starEach es X.env := by rfl) (hpl : (backTo pos (starEach es X.env)).any (·.1) = false := by rfl) :
    We X (.Call (.Name x p) (e :: es) [] pos) σ H Q := by
  refine ⟨fun pins s I => ?_⟩
  refine wpAny_Call_Name_kw (ld_glob I hg hm ?_ hdb)
  refine PySem.W.callWith_K (h₀ := X.base) I.ok.mod.kin hk (thn (h.run pos pins s I) fun us s1 ⟨vs, H1, I1, r, q⟩ => ⟨I1.kIn, ?_⟩) he hpl
  exact wpAny_call (run_fnR F hr hx I1 r q)
theorem w_call0 (F : FnR X.prog X.w X.K X.mg X.base CX k f sp) (hr : Room k X.A) (hm : X.mg x = some (.ref f)) (hk : PySem.W.keepIn X.K (.ref f) = true) (hx : Passes CX X E)
    (h : sp [] H Q E) (hg : Gl X x := by rfl) (hdb : (x == ("__debug__" : Str)) = false := by decide) : We X (.Call (.Name x p) [] [] pos) σ H Q := by
  refine ⟨fun pins s I => ?_⟩
  refine wpAny_Call_Name_kw (ld_glob I hg hm ?_ hdb)
  exact PySem.W.callWith_K0 I.kIn hk (wpAny_call (run_fnR (us := []) F hr hx I .nil h))
/-- o.m(e, ..) -/
theorem w_meth {pl : Sem Bool} (c : Cls X.K C) (hm : Meth X.K C m f) (F : FnR X.prog X.w X.K X.mg X.base CX k f sp) (hr : Room k X.A) (hx : Passes CX X E)
    (h : We X o σ H fun x H1 => ∃ a dx fs, x = .ref a ∧ H1 a = some (.ins C dx fs) ∧ fs.lookup m = none ∧ Wa X (e :: es) σ H1 fun vs H2 => sp (x :: vs) H2 Q E)
    (hst : starEach (e :: es) X.env = (false, eval e X.env) :: starEach es X.env := by rfl) (hpl : (backTo pos (starEach es X.env)).any (·.1) = false := by rfl)
    (ht : eval (.Call (.Attribute o m apos) (e :: es) [] pos) X.env = (do
      let ov ← eval o X.env
      standAt apos.atName
      let (f, first) ← holding [ov] (getMethod ov m pl)
      callWith pos f first (backTo pos (starEach (e :: es) X.env)) (backToKw pos (keywordEach [] X.env))) := by rfl) :
    We X (.Call (.Attribute o m apos) (e :: es) [] pos) σ H Q := we_of (pe_methR peW c hm F hr hx paW hst hpl ht) h
theorem w_meth0 {pl : Sem Bool} (c : Cls X.K C) (hm : Meth X.K C m f) (F : FnR X.prog X.w X.K X.mg X.base CX k f sp) (hr : Room k X.A) (hx : Passes CX X E)
    (h : We X o σ H fun x H1 => ∃ a dx fs, x = .ref a ∧ H1 a = some (.ins C dx fs) ∧ fs.lookup m = none ∧ sp [x] H1 Q E)
    (ht : eval (.Call (.Attribute o m apos) [] [] pos) X.env = (do
      let ov ← eval o X.env
      standAt apos.atName
      let (f, first) ← holding [ov] (getMethod ov m pl)
      callWith pos f first (backTo pos (starEach [] X.env)) (backToKw pos (keywordEach [] X.env))) := by rfl) :
    We X (.Call (.Attribute o m apos) [] [] pos) σ H Q := by
  refine ⟨fun pins s I => ?_⟩
  refine PySem.W.methodCall_KW (pl := pl) (thn (h.run pins s I) fun u s1 ⟨x, H1, I1, rx, a, dx, fs, ex, ea, l, q⟩ => ?_) ht
  subst ex
  obtain rfl : u = Value.ref a := rx
  refine getmeth_ok I1 ea c hm l ?_
  exact PySem.W.callWith_K0 (first := [.ref a]) I1.kIn hm.kp (wpAny_call (run_fnR (us := [.ref a]) (vs := [.ref a]) F hr hx I1 (.cons rfl .nil) q))
/-- C(e, ..) -/
theorem w_make (M : Mk X.K C f) (F : FnR X.prog X.w X.K X.mg X.base CX k f sp) (hr : Room (k + 1) X.A) (hm : X.mg x = some (.ref C)) (hx : Passes CX X E)
    (h : Wa X (e :: es) σ H fun vs H1 => ∀ x dx, H1 x = Option.none → H1 dx = Option.none → dx ≠ x → sp (V.ref x :: vs) (upd (upd H1 dx (.own x)) x (.ins C dx [])) (fun v H2 => v = .non ∧ Q (.ref x) H2) E)
    (hg : Gl X x := by rfl) (hdb : (x == ("__debug__" : Str)) = false := by decide) (he : starEach (e :: es) X.env = (false, eval e X.env) :: starEach es X.env := by rfl) (hpl : (backTo pos (starEach es X.env)).any (·.1) = false := by rfl) :
    We X (.Call (.Name x p) (e :: es) [] pos) σ H Q := we_of (StX.pe_makeR M F hr hg hm hx paW hdb he hpl) h
/-- a builtin -/
theorem w_callB {id : String} {r : List V → Hp → VK → Prop} (hc : CallR X (.builtin id) r) (hm : X.mg x = none) (hv : bootBuiltins x = some (.builtin id)) (h : Wa X (e :: es) σ H fun vs H1 => r vs H1 Q) (hg : Gl X x := by rfl) (hn : x ≠ "__name__" := by decide) (hdb : (x == ("__debug__" : Str)) = false := by decide)
    (he : starEach (e :: es) X.env = (false, eval e X.env) :: starEach es X.env := by rfl) (hpl : (backTo pos (starEach es X.env)).any (·.1) = false := by rfl) : We X (.Call (.Name x p) (e :: es) [] pos) σ H Q :=
  we_of (pe_callB hc hg hm hv paW hn hdb he hpl) h
theorem w_callT {T : String} {r : List V → Hp → VK → Prop} (hc : CallR X (.type T) r) (hm : X.mg x = none) (hv : bootBuiltins x = some (.type T)) (h : Wa X (e :: es) σ H fun vs H1 => r vs H1 Q) (hg : Gl X x := by rfl) (hn : x ≠ "__name__" := by decide) (hdb : (x == ("__debug__" : Str)) = false := by decide)
    (he : starEach (e :: es) X.env = (false, eval e X.env) :: starEach es X.env := by rfl) (hpl : (backTo pos (starEach es X.env)).any (·.1) = false := by rfl) : We X (.Call (.Name x p) (e :: es) [] pos) σ H Q :=
  we_of (pe_callTy hc hg hm hv paW hn hdb he hpl) h
end
/-! ### operators of an own class -/
/-- what of the text x op y asks: C's own def for op; int has one too -/
structure OwnB (K : PySem.W.Frag) (C g : Addr) (op : Operator) : Prop where
  first : PySem.W.selfFirst K C = true
  at_ : PySem.W.findIn K (.ref C) (PySem.dunder op.info.2) = some (some (.ref g))
  fn : PySem.W.isFn K (.ref g) = true
  rev : PySem.W.findIn K (.ref C) (dunderR op.info.2) = some none
  sub : PySem.W.subIn K (.type "int") (.ref C) = some false
  i1 : ∃ fo, PySem.W.findIn K (.type "int") (PySem.dunder op.info.2) = some fo
  i2 : ∃ ro, PySem.W.findIn K (.type "int") (dunderR op.info.2) = some ro
/-- y beside an instance of C: another one, or an int -/
def Mate (C : Addr) (H : Hp) (y : V) : Prop := (∃ b dy gs, y = .ref b ∧ H b = some (.ins C dy gs)) ∨ ∃ i, y = .int i
def rOwnB (C : Addr) (sp : Sp) (E : XK) : R2 := fun x y H Q => ∃ a dx fs, x = .ref a ∧ H a = some (.ins C dx fs) ∧ Mate C H y ∧ sp [x, y] H Q E
section
variable {X : Cx} {CX : CXT} {k : Nat} {C g : Addr} {sp : Sp} {E : XK}
theorem op_ownB {op : Operator} (O : OwnB X.K C g op) (F : FnR X.prog X.w X.K X.mg X.base CX k g sp) (hr : Room k X.A) (hx : Passes CX X E) : OpR X (binaryOp op) (rOwnB C sp E) := by
  intro pins s σ H x y v u Q I rx ry h
  obtain ⟨a, dx, fs, rfl, ha, hy, q⟩ := h
  cases (show v = Value.ref a from rx)
  obtain ⟨mA, OA, _⟩ := ins_get I.hok ha
  obtain ⟨od, J, _⟩ := OA.look
  obtain ⟨m, hF⟩ := I.fr
  rcases hy with ⟨b, dy, gs, rfl, hb⟩ | ⟨i, rfl⟩
  · cases (show u = Value.ref b from ry)
    obtain ⟨mB, OB, _⟩ := ins_get I.hok hb
    obtain ⟨ob, JB, _⟩ := OB.look
    refine PySem.W.binop_K hF I.ok.mod.kin J JB.type O.first O.at_ O.fn ?_
    refine wpAny_mono (wpAny_call (run_fnR (us := [.ref a, .ref b]) (vs := [.ref a, .ref b]) F hr hx I (.cons rfl (.cons rfl .nil)) q)) (fun w s' z => ?_) fun _ _ x => x
    obtain ⟨z', H', I', rz, qz⟩ := z
    exact SlX.cmpback rz ⟨z', H', I', rz, qz⟩
  · obtain ⟨t, rfl⟩ := ry
    obtain ⟨fo, h1⟩ := O.i1
    obtain ⟨ro, h2⟩ := O.i2
    refine PySem.W.ksp_binT hF I.ok.mod.kin J (T := "int") rfl O.first O.at_ O.fn O.rev (Or.inl rfl) h1 h2 O.sub ?_
    refine wpAny_mono (wpAny_call (run_fnR (us := [.ref a, .int i t]) (vs := [.ref a, .int i]) F hr hx I (.cons rfl (.cons ⟨t, rfl⟩ .nil)) q)) (fun w s' z => ?_) fun _ _ x => x
    obtain ⟨z', H', I', rz, qz⟩ := z
    exact SlX.cmpback rz ⟨z', H', I', rz, qz⟩
/-- -x -/
def rOwnU (C : Addr) (sp : Sp) (E : XK) : V → Hp → VK → Prop := fun x H Q => ∃ a dx fs, x = .ref a ∧ H a = some (.ins C dx fs) ∧ sp [x] H Q E
theorem un_own (hs : PySem.W.findIn X.K (.ref C) "__neg__" = some (some (.ref g))) (hf : PySem.W.isFn X.K (.ref g) = true) (F : FnR X.prog X.w X.K X.mg X.base CX k g sp) (hr : Room k X.A) (hx : Passes CX X E) : UnR X (unaryOp .USub) (rOwnU C sp E) := by
  intro pins s σ H x v Q I rx h
  obtain ⟨a, dx, fs, rfl, ha, q⟩ := h
  cases (show v = Value.ref a from rx)
  obtain ⟨mA, OA, _⟩ := ins_get I.hok ha
  obtain ⟨od, J, _⟩ := OA.look
  obtain ⟨m, hF⟩ := I.fr
  exact PySem.W.ksp_neg hF I.ok.mod.kin J hs hf (wpAny_call (run_fnR (us := [.ref a]) (vs := [.ref a]) F hr hx I (.cons rfl .nil) q))
/-- x == y, x < y, x <= y, x of the class at C: y of a type that is not below it -/
def rOwnC (K : PySem.W.Frag) (C : Addr) (sp : Sp) (E : XK) : R2 := fun x y H Q => ∃ a dx fs t, x = .ref a ∧ H a = some (.ins C dx fs) ∧ TyX K H y t ∧ PySem.W.notFirst K C t = true ∧ sp [x, y] H Q E
theorem op_ownC {op : CmpOp} (hop : ∀ a b, compareOp op a b = richCompare op a b) (hs : PySem.W.findIn X.K (.ref C) (cmpInfo op).2.1 = some (some (.ref g))) (hf : PySem.W.isFn X.K (.ref g) = true)
    (F : FnR X.prog X.w X.K X.mg X.base CX k g sp) (hr : Room k X.A) (hx : Passes CX X E) : OpR X (compareOp op) (rOwnC X.K C sp E) := by
  intro pins s σ H x y v u Q I rx ry h
  obtain ⟨a, dx, fs, t, rfl, ha, ty, hn, q⟩ := h
  cases (show v = Value.ref a from rx)
  obtain ⟨mA, OA, _⟩ := ins_get I.hok ha
  obtain ⟨od, J, _⟩ := OA.look
  obtain ⟨m, hF⟩ := I.fr
  obtain ⟨P, Z, hp, _⟩ := kit_of I ry ty
  rw [hop]
  refine PySem.W.cmp_K (op := op) (tb := t) hr.units0 hF I.ok.mod.kin J (Z.ty (model X.prog X.w) _ I.kIn hp) hn hs hf ?_
  refine wpAny_mono (wpAny_call (run_fnR (us := [.ref a, u]) (vs := [.ref a, y]) F hr hx I (.cons rfl (.cons ry .nil)) q)) (fun w s' z => ?_) fun _ _ x => x
  obtain ⟨z', H', I', rz, qz⟩ := z
  exact SlX.cmpback rz ⟨z', H', I', rz, qz⟩
end
end PR
namespace PR
open PySem PySem.Spec PyProof.Rows L2
section
variable {prog : Program} {w : World} {A : Around} {E : Value → Shared → Prop} {s : Shared} {K : PySem.W.Frag} {x C L f : Addr} {h₀ : Heap} {m : Str → Option Value} {ox : Obj} {od : Option Obj} {b tb : Value}
/-- the body of object.__ne__: the own __eq__, turned round -/
theorem objne_K {Q : Fin → Shared → Prop} (hu : A.units < cLine) (X : K.In s.heap) (I : PySem.W.InstAt s.heap x ox C od) (hs : PySem.W.findIn K (.ref C) "__eq__" = some (some (.ref f))) (hf : PySem.W.isFn K (.ref f) = true)
    (h : wpAny (model prog w) A (call (.ref f) [.ref x, b]) (fun v s' => ∃ k, v = .bool k ∧ Q (.done (.ret (.bool (!k)))) s') E s) : wpAny (model prog w) A (Builtin.«object.__ne__» ⟨[.ref x, b], []⟩) Q E s := by
  unfold Builtin.«object.__ne__»
  refine wpAny_bind (wpAny_of_eq (a := (.ref x, [b])) (by first | rfl | kernel_rfl) ?_)
  refine wpAny_bind (wpAny_cRoomFor hu ?_)
  refine wpAny_bind (PySem.W.ifBound_K X I hs hf (wpAny_mono h (fun v s' hv => ?_) fun _ _ e => e))
  obtain ⟨k, rfl, hq⟩ := hv
  refine wpAny_bind (wpAny_truthy_bool ?_)
  exact wpAny_pure hq
theorem ifBound_B {M : Model} {name : Str} {id : String} {B : String} {args : List Value} {Q : Option Value → Shared → Prop} (X : K.In s.heap) (I : PySem.W.InstAt s.heap x ox C od) (hs : PySem.W.findIn K (.ref C) name = some (some (.builtin id))) (S : Slot B name id)
    (h : wpAny M A (call (.builtin id) (.ref x :: args)) (fun v => Q (some v)) E s) : wpAny M A (callSpecialIfBound? (.ref x) name args) Q E s := by
  simp only [callSpecialIfBound?, bindSpecialIfBound?]
  refine wpAny_holding (wpAny_bind (wpAny_bind (wpAny_bind (I.type.here ((PySem.W.looks_findIn X hs).here ?_)))))
  simp only [S.bind]
  refine wpAny_bind (wpAny_askSetting (wpAny_ite ?_))
  have fin : wpAny M A (call (.builtin id) ([.ref x] ++ args) >>= fun v => pure (some v)) Q E s := wpAny_bind (wpAny_mono h (fun v s' h' => wpAny_pure h') fun _ _ h' => h')
  split
  · exact wpAny_bind (wpAny_pure (wpAny_pure fin))
  · exact wpAny_tryCatch (wpAny_bind (wpAny_pure (wpAny_pure fin)))
theorem ne_K {Q : Value → Shared → Prop} (hu : A.units + 1 < cLine) (F : Fr h₀ L s.heap m) (X₀ : K.In h₀) (I : PySem.W.InstAt s.heap x ox C od) (hb : PySem.W.Looks (model prog w) s.heap (typeOf b) tb) (hn : PySem.W.notFirst K C tb = true)
    (hs : PySem.W.findIn K (.ref C) "__eq__" = some (some (.ref f))) (hf : PySem.W.isFn K (.ref f) = true) (hne : PySem.W.findIn K (.ref C) "__ne__" = some (some (.builtin "object.__ne__"))) (hm : PySem.W.mroIn K C (.type "object") = some true)
    (h : wpAny (model prog w) A.in1 (call (.ref f) [.ref x, b]) (fun v s' => ∃ k, v = .bool k ∧ Q (.bool (!k)) s') E s) : wpAny (model prog w) A (richCompare .NotEq (.ref x) b) Q E s := by
  have X := X₀.keeps F.keep
  have FB := PySem.F.cmp_object
  have sub : PySem.W.Looks (model prog w) s.heap (isInstance (.ref x) (.type "object")) true := I.type.andThen (PySem.W.looks_mroIn X hm)
  have one : wpAny (model prog w) A (tryCompare (.ref x) "__ne__" b) (fun r s' => ∃ v, r = some v ∧ Q v s') E s := by
    unfold tryCompare
    refine wpAny_bind (ifBound_B X I hne FB.ne (wpAny_call (codeAny_call_builtin FB.ne.plain PySem.F.cmpEntry_ne
      (PySem.W.check_slot PySem.F.cmpKind_ne PySem.F.cmpSplit_ne sub (PySem.F.cmpArgs_ne _ _) (objne_K (A := A.in1) hu X I hs hf (wpAny_mono h (fun v s' hv => ?_) fun _ _ e => e))))))
    obtain ⟨k, rfl, hq⟩ := hv
    exact ⟨k, rfl, wpAny_pure ⟨_, rfl, hq⟩⟩
  unfold richCompare
  simp only [oneThing_ref]
  refine wpAny_holding (wpAny_bind (wpAny_cRoomFor (Nat.lt_of_succ_lt hu) ?_))
  rw [PySem.cmpInfo_NotEq]
  dsimp only
  refine wpAny_bind (I.type.here (wpAny_bind (hb.here ?_)))
  split
  · rename_i q
    have e : PySem.W.subIn K tb (.ref C) = some false := by
      rcases Bool.or_eq_true_iff.mp hn with e | e
      · rw [beq_iff_eq.mp e] at q; simp at q
      · exact beq_iff_eq.mp e
    refine wpAny_bind ((PySem.W.looks_subIn X e).here ?_)
    simp only [Bool.false_eq_true, if_false]
    refine wpAny_bind (wpAny_mono one (fun r s' z => ?_) fun _ _ e => e)
    obtain ⟨v, rfl, hq⟩ := z
    exact wpAny_pure hq
  · refine wpAny_bind (wpAny_pure ?_)
    simp only [Bool.false_eq_true, if_false]
    refine wpAny_bind (wpAny_mono one (fun r s' z => ?_) fun _ _ e => e)
    obtain ⟨v, rfl, hq⟩ := z
    exact wpAny_pure hq
end
/-- x != y by an own __eq__ -/
def rOwnN (K : PySem.W.Frag) (C : Addr) (sp : Sp) (E : XK) : R2 := fun x y H Q => ∃ a dx fs t, x = .ref a ∧ H a = some (.ins C dx fs) ∧ TyX K H y t ∧ PySem.W.notFirst K C t = true ∧ sp [x, y] H (fun v H' => ∃ k, v = .bl k ∧ Q (.bl (!k)) H') E
section
variable {X : Cx} {CX : CXT} {k : Nat} {C g : Addr} {sp : Sp} {E : XK}
theorem op_ownN (hs : PySem.W.findIn X.K (.ref C) "__eq__" = some (some (.ref g))) (hf : PySem.W.isFn X.K (.ref g) = true) (hne : PySem.W.findIn X.K (.ref C) "__ne__" = some (some (.builtin "object.__ne__"))) (hmr : PySem.W.mroIn X.K C (.type "object") = some true)
    (F : FnR X.prog X.w X.K X.mg X.base CX k g sp) (hr : Room (k + 1) X.A) (hx : Passes CX X E) : OpR X (compareOp .NotEq) (rOwnN X.K C sp E) := by
  intro pins s σ H x y v u Q I rx ry h
  obtain ⟨a, dx, fs, t, rfl, ha, ty, hn, q⟩ := h
  cases (show v = Value.ref a from rx)
  obtain ⟨mA, OA, _⟩ := ins_get I.hok ha
  obtain ⟨od, J, _⟩ := OA.look
  obtain ⟨m, hF⟩ := I.fr
  obtain ⟨P, Z, hp, _⟩ := kit_of I ry ty
  show wpAny _ _ (richCompare .NotEq (.ref a) u) _ _ _
  refine ne_K (tb := t) (hu_of hr) hF I.ok.mod.kin J (Z.ty (model X.prog X.w) _ I.kIn hp) hn hs hf hne hmr ?_
  refine wpAny_mono (wpAny_call (SlX.run_at (us := [.ref a, u]) (ws := [.ref a, y]) F hr.in1 I.env0.in1 hx I (.cons rfl (.cons ry .nil)) q)) (fun w s' z => ?_) fun _ _ x => x
  obtain ⟨z', H', I', rz, kk, ek, qz⟩ := z
  subst ek
  cases rz
  exact ⟨kk, rfl, .bl (!kk), H', I', rfl, qz⟩
end
end PR
/-! The head's facts: any tests of the written part, and the defs. -/
namespace PH
open PySem PySem.Spec PyProof.Rows L2 He5
abbrev Ck : Type := PySem.W.Frag → Bool
def obsP (fa : List Ck) (fn : List DefA) (K : PySem.W.Frag) : He.AlD := ((fa.all fun f => f K) && fn.all fun d => d.ok K, fn.map fun d => fnA K (d.at_ K))
def SaysP (fa : List Ck) (fn : List DefA) (K : PySem.W.Frag) : Prop := obsP fa fn K = valA fn
def obsPG (n : Nat) (fa : List Ck) (fn : List DefA) (g : Addr → Option Obj) : He.AlD := obsP fa fn (He.frG g (asA g n))
def hookP (n : Nat) (fa : List Ck) (fn : List DefA) : PySem.W.Hook where
  α := He.AlD
  obs := fun s => obsPG n fa fn s.heap.get?
  val := fun _ => valA fn
  says := fun _ h => ∃ K : PySem.W.Frag, K.In h ∧ SaysP fa fn K
  of := fun _ _ e => ⟨_, He.frG_in, e⟩
  keeps := fun _ _ _ ⟨K, hK, c⟩ k => ⟨K, PySem.W.Frag.In.keeps hK k, c⟩
theorem obsPG_eq {n : Nat} {fa : List Ck} {fn : List DefA} {g : Addr → Option Obj} {s : Shared} (h : ∀ a, g a = s.heap.get? a) : obsPG n fa fn g = (hookP n fa fn).obs s := by
  have e : g = s.heap.get? := funext h
  rw [e] <;> rfl
section
variable {fa : List Ck} {fn : List DefA} {K : PySem.W.Frag}
theorem SaysP.fact (c : SaysP fa fn K) (i : Nat) {f : Ck} (h : fa[i]? = some f := by rfl) : f K = true := by
  have c1 := (He.ba (show ((fa.all fun f => f K) && fn.all fun d => d.ok K) = true from congrArg (fun z : He.AlD => z.1) c)).1
  exact List.all_eq_true.mp c1 f (List.mem_of_getElem? h)
theorem SaysP.def_ (c : SaysP fa fn K) (i : Nat) {d : DefA} (h : fn[i]? = some d := by rfl) : ∃ fd, L2.FunD K d.name d.qual d.params d.body d.scope (d.dvs K) (d.kws K) (d.at_ K) fd := by
  have c2 := (He.ba (show ((fa.all fun f => f K) && fn.all fun d => d.ok K) = true from congrArg (fun z : He.AlD => z.1) c)).2
  have e : fn.map (fun d => fnA K (d.at_ K)) = fn.map DefA.val := congrArg (fun z : He.AlD => z.2) c
  have e2 : (fn.map fun d => fnA K (d.at_ K))[i]? = (fn.map DefA.val)[i]? := by rw [e]
  rw [List.getElem?_map, List.getElem?_map, h] at e2
  exact DefA.funD (Option.some.inj e2) (List.all_eq_true.mp c2 d (List.mem_of_getElem? h))
end
end PH
/-! Kinds of facts about what the top has left, each a test and what it shows. -/
namespace PH
open PySem PySem.Spec PyProof.Rows L2 He
def eqT (a b : Option Value) : Bool := decide (a = b)
def eqBo (a b : Option Bool) : Bool := decide (a = b)
def ckGlo (x : Str) : Ck := fun K => (Fa.glo x).ok K
def ckFree (x : Str) : Ck := fun K => (Fa.free x).ok K
def ckCls (x : Str) : Ck := fun K => (Fa.cls x).ok K
def ckNoat (x f : Str) : Ck := fun K => (Fa.noat x f).ok K
def ckMeth (x m : Str) : Ck := fun K => (Fa.meth x m).ok K
def ckMkr (x : Str) : Ck := fun K => (Fa.mkr x).ok K
def ckExm (x y : Str) (b : Bool) : Ck := fun K => (Fa.exm x y b).ok K
def ckKeep (x : Str) : Ck := fun K => (Fa.keep x).ok K
/-- the class of an error of the program's own -/
def oexB (K : PySem.W.Frag) (C : Addr) : Bool := match K.lookup C with
  | some ⟨.type t, _, .cls cd, sl⟩ => decide (t = "type") && (match cd.mro, sl.toList with
    | .ref C' :: bm, [_, _, _, _, some (.builtin n), _] => (C' == C) && (decide (n = "ValueError.__new__") && (!cd.hasDel && (cd.hasDict && PySem.HandSPX.refsVE bm)))
    | _, _ => false)
  | _ => false
def ckOex (x : Str) : Ck := fun K => oexB K (ga K x) && (eqO (PySem.W.findIn K (.ref (ga K x)) "__setattr__") (some (some (.builtin "object.__setattr__"))) && (eqBo (PySem.W.subIn K (.ref (ga K x)) (.type "BaseException")) (some true) &&
  (eqT (PySem.W.typeIn K (.ref (ga K x))) (some (.type "type")) && PySem.W.keepIn K (.ref (ga K x)))))
theorem oex_ok {K : PySem.W.Frag} {x : Str} (c : ckOex x K = true) : OexC K (ga K x) := by
  obtain ⟨c1, c⟩ := ba c
  obtain ⟨c2, c⟩ := ba c
  obtain ⟨c3, c⟩ := ba c
  obtain ⟨c4, c5⟩ := ba c
  refine ⟨?_, eqO_ok c2, of_decide_eq_true c3, of_decide_eq_true c4, c5⟩
  generalize ga K x = C at c1 ⊢
  unfold oexB at c1
  split at c1
  · rename_i t dd cd sl ho
    obtain ⟨e0, c1⟩ := ba c1
    split at c1
    · rename_i C' bm k0 k1 k2 k3 n k5 hm hs
      obtain ⟨e1, c1⟩ := ba c1
      obtain ⟨e2, c1⟩ := ba c1
      obtain ⟨e3, c1⟩ := ba c1
      obtain ⟨e4, e5⟩ := ba c1
      have h0 := of_decide_eq_true e0
      have h1 := beq_iff_eq.mp e1
      have h2 := of_decide_eq_true e2
      subst h0 h1 h2
      obtain ⟨nm, bs, mro, ns, qn, hd, sn, sub, ab, col, del⟩ := cd
      dsimp only at hm e3 e4
      have h3 : del = false := by simpa using e3
      subst hm h3 e4
      have hsl : sl = #[k0, k1, k2, k3, some (.builtin "ValueError.__new__"), k5] := by
        obtain ⟨l⟩ := sl
        simp only at hs
        rw [hs]
      subst hsl
      exact ⟨nm, qn, ns, bs, bm, sn, sub, ab, col, dd, k0, k1, k2, k3, k5, ho, e5⟩
    · cases c1
  · cases c1
/-- the fields of such an error are read -/
def ckXf (x : Str) : Ck := fun K => eqO (PySem.W.findIn K (.ref (ga K x)) "__getattribute__") (some (some (.builtin "BaseException.__getattribute__"))) && (eqO (PySem.W.findIn K (.ref (ga K x)) "__getattr__") (some none) && (eqBo (PySem.W.subIn K (.ref (ga K x)) (.type "BaseException")) (some true) && PySem.W.hasDictIn K (ga K x)))
theorem xf_ok {K : PySem.W.Frag} {x : Str} (c : ckXf x K = true) : XfC K (ga K x) := by
  obtain ⟨c1, c⟩ := ba c
  obtain ⟨c2, c⟩ := ba c
  obtain ⟨c3, c4⟩ := ba c
  exact ⟨eqO_ok c1, eqO_ok c2, of_decide_eq_true c3, c4⟩
/-- C's own def m -/
def ckDef (x m : Str) : Ck := fun K => eqO (PySem.W.findIn K (.ref (ga K x)) m) (some (some (.ref (ma K (ga K x) m)))) && eqT (PySem.W.typeIn K (.ref (ma K (ga K x) m))) (some (.type "function"))
structure Df (K : PySem.W.Frag) (C : Addr) (m : Str) : Prop where
  at_ : PySem.W.findIn K (.ref C) m = some (some (.ref (ma K C m)))
  ty : PySem.W.typeIn K (.ref (ma K C m)) = some (.type "function")
theorem Df.fn {K : PySem.W.Frag} {C : Addr} {m : Str} (d : Df K C m) : PySem.W.isFn K (.ref (ma K C m)) = true := by
  unfold PySem.W.isFn
  rw [d.ty]
  rfl
theorem def_ok {K : PySem.W.Frag} {x m : Str} (c : ckDef x m K = true) : Df K (ga K x) m := by
  obtain ⟨c1, c2⟩ := ba c
  exact ⟨eqO_ok c1, of_decide_eq_true c2⟩
/-- an operator of C -/
def ckOwnB (x : Str) (op : Operator) (m : Str) : Ck := fun K => PySem.W.selfFirst K (ga K x) && (eqO (PySem.W.findIn K (.ref (ga K x)) (PySem.dunder op.info.2)) (some (some (.ref (ma K (ga K x) m)))) && (PySem.W.isFn K (.ref (ma K (ga K x) m)) &&
  (eqO (PySem.W.findIn K (.ref (ga K x)) (dunderR op.info.2)) (some none) && (eqBo (PySem.W.subIn K (.type "int") (.ref (ga K x))) (some false) && ((PySem.W.findIn K (.type "int") (PySem.dunder op.info.2)).isSome && (PySem.W.findIn K (.type "int") (dunderR op.info.2)).isSome)))))
theorem ownB_ok {K : PySem.W.Frag} {x m : Str} {op : Operator} (c : ckOwnB x op m K = true) : PR.OwnB K (ga K x) (ma K (ga K x) m) op := by
  obtain ⟨c1, c⟩ := ba c
  obtain ⟨c2, c⟩ := ba c
  obtain ⟨c3, c⟩ := ba c
  obtain ⟨c4, c⟩ := ba c
  obtain ⟨c5, c⟩ := ba c
  obtain ⟨c6, c7⟩ := ba c
  exact ⟨c1, eqO_ok c2, c3, eqO_ok c4, of_decide_eq_true c5, Option.isSome_iff_exists.mp c6, Option.isSome_iff_exists.mp c7⟩
/-- what isinstance asks of C's instances -/
structure Isi (K : PySem.W.Frag) (C : Addr) : Prop where
  ha : PySem.W.findIn K (.ref C) "__class__" = some (some (.builtin "object.__class__"))
  hn : PySem.W.specialIn K (.builtin "object.__class__") "__get__" = some (some (.builtin "getset_descriptor.__get__"))
  htk : PySem.W.takesIn K (.builtin "object.__class__") = some true
  hm : PySem.W.mroIn K C (.type "object") = some true
def ckIsi (x : Str) : Ck := fun K => eqO (PySem.W.findIn K (.ref (ga K x)) "__class__") (some (some (.builtin "object.__class__"))) && (eqO (PySem.W.specialIn K (.builtin "object.__class__") "__get__") (some (some (.builtin "getset_descriptor.__get__"))) &&
  (eqBo (PySem.W.takesIn K (.builtin "object.__class__")) (some true) && eqBo (PySem.W.mroIn K (ga K x) (.type "object")) (some true)))
theorem isi_ok {K : PySem.W.Frag} {x : Str} (c : ckIsi x K = true) : Isi K (ga K x) := by
  obtain ⟨c1, c⟩ := ba c
  obtain ⟨c2, c⟩ := ba c
  obtain ⟨c3, c4⟩ := ba c
  exact ⟨eqO_ok c1, eqO_ok c2, of_decide_eq_true c3, of_decide_eq_true c4⟩
theorem Isi.ty {K : PySem.W.Frag} {C : Addr} {H : Hp} {a dx : Addr} {fs : List (Str × V)} (i : Isi K C) (c : Cls K C) (e : H a = some (.ins C dx fs)) : TyX K H (.ref a) (.ref C) := .base (.ins e c i.ha i.hn i.htk i.hm)
/-- isinstance's answer: of an instance of the class x, of a built-in type, about the class y or a built-in one -/
def ckKitO (x y : Str) (b : Bool) : Ck := fun K => eqBo (PySem.W.kitOne K (.ref (ga K x)) (.ref (ga K y))) (some b)
theorem kitO_ok {K : PySem.W.Frag} {x y : Str} {b : Bool} (c : ckKitO x y b K = true) : PySem.W.kitOne K (.ref (ga K x)) (.ref (ga K y)) = some b := of_decide_eq_true c
def ckKitT (x : Str) (t : String) (b : Bool) : Ck := fun K => eqBo (PySem.W.kitOne K (.ref (ga K x)) (.type t)) (some b)
theorem kitT_ok {K : PySem.W.Frag} {x : Str} {t : String} {b : Bool} (c : ckKitT x t b K = true) : PySem.W.kitOne K (.ref (ga K x)) (.type t) = some b := of_decide_eq_true c
def ckKitB (t : String) (y : Str) (b : Bool) : Ck := fun K => eqBo (PySem.W.kitOne K (.type t) (.ref (ga K y))) (some b)
theorem kitB_ok {K : PySem.W.Frag} {y : Str} {t : String} {b : Bool} (c : ckKitB t y b K = true) : PySem.W.kitOne K (.type t) (.ref (ga K y)) = some b := of_decide_eq_true c
/-- beside C stands a t: C's own def goes first -/
def ckNf (x : Str) (t : String) : Ck := fun K => PySem.W.notFirst K (ga K x) (.type t)
theorem nf_ok {K : PySem.W.Frag} {x : Str} {t : String} (c : ckNf x t K = true) : PySem.W.notFirst K (ga K x) (.type t) = true := c
theorem nf_self (K : PySem.W.Frag) (C : Addr) : PySem.W.notFirst K C (.ref C) = true := by
  unfold PySem.W.notFirst
  simp
/-- != by the own __eq__ -/
def ckNe (x : Str) : Ck := fun K => eqO (PySem.W.findIn K (.ref (ga K x)) "__ne__") (some (some (.builtin "object.__ne__")))
theorem ne_ok {K : PySem.W.Frag} {x : Str} (c : ckNe x K = true) : PySem.W.findIn K (.ref (ga K x)) "__ne__" = some (some (.builtin "object.__ne__")) := eqO_ok c
/-- S.__init__ of a class over ValueError, S a class of the program -/
def ckSin (x : Str) : Ck := fun K => PySem.W.readsIn K (ga K x) (.type "type") && (eqO (PySem.W.specialIn K (.ref (ga K x)) "__getattribute__") (some (some (.builtin "type.__getattribute__"))) && (match PySem.W.findCls K (.ref (ga K x)) (.type "type") "__init__" with
  | some (.val (.builtin n)) => decide (n = "ValueError.__init__")
  | _ => false))
theorem sin_ok {K : PySem.W.Frag} {x : Str} (c : ckSin x K = true) : ClX.CRead K (ga K x) (.type "type") ∧ PySem.W.findCls K (.ref (ga K x)) (.type "type") "__init__" = some (.val (.builtin "ValueError.__init__")) := by
  obtain ⟨c1, c⟩ := ba c
  obtain ⟨c2, c3⟩ := ba c
  refine ⟨⟨c1, eqO_ok c2⟩, ?_⟩
  split at c3
  · rename_i n e
    rw [e, of_decide_eq_true c3]
  · cases c3
/-- a class whose attributes are read as type reads them; a classmethod of it -/
def ckCm (x m : Str) : Ck := fun K => PySem.W.readsIn K (ga K x) (.type "type") && (eqO (PySem.W.specialIn K (.ref (ga K x)) "__getattribute__") (some (some (.builtin "type.__getattribute__"))) && (He5.wrapB K (ga K x) "classmethod" "classmethod.__get__" m && PySem.W.fnIn K (He5.wf K (ga K x) "classmethod" m)))
theorem cm_ok {K : PySem.W.Frag} {x m : Str} (c : ckCm x m K = true) : ClX.CRead K (ga K x) (.type "type") ∧ ClX.CMet K (ga K x) (.type "type") m (ma K (ga K x) m) (He5.wf K (ga K x) "classmethod" m) := by
  obtain ⟨c1, c⟩ := ba c
  obtain ⟨c2, c⟩ := ba c
  obtain ⟨c3, c4⟩ := ba c
  exact ⟨⟨c1, eqO_ok c2⟩, He5.cmet_of c3 c4⟩
end PH
namespace PR
open PySem PySem.Spec PyProof.Rows L2
/-! ### targets and iterables, the best readings -/
section
variable {X : Cx} {e a b c : Expr} {es rest : List Expr} {σ : L2.St} {H : Hp} {Q : VK} {Qb : Bool → Hp → Prop} {Qa : List V → Hp → Prop} {D : Ends} {pos pos' p : Pos} {st : Stmt} {sts : List Stmt}
theorem s_asg {tg : Expr} {g : TG} (hg : PG X tg g) (h : We X e σ H fun x H1 => g x σ H1 D.nx) (hs : swapsWithSole [tg] e pos.line X.env = pure false := by rfl) (hw : swappedStores [tg] e X.env = pure none := by rfl) (h1 : (assignEach [tg] X.env).map (·.2) = [assign tg X.env] := by rfl) : Ws X (.Assign [tg] e pos) D σ H :=
  ws_of (ps_asg peW hg hs hw h1) h
theorem s_par (i j : Nat) {x y : Str} {px py pt : Pos} {kt k2 pt2} (hN : X.N.Nodup) (h : Wa X [a, b] σ H fun vs H1 => ∃ v w, vs = [v, w] ∧ D.nx ((σ.set i (some v)).set j (some w)) H1) (hc : X.calm = true := by rfl) (hi : X.N[i]? = some x := by rfl) (hj : X.N[j]? = some y := by rfl)
    (hij : i ≠ j := by decide) (hx : X.env.scope.names.lookup x = some .local := by rfl) (hy : X.env.scope.names.lookup y = some .local := by rfl)
    (hw : swappedStores [.Tuple [.Name x px, .Name y py] kt pt] (.Tuple [a, b] k2 pt2) X.env = pure (some [x, y]) := by rfl)
    (hs : swapsWithSole [.Tuple [.Name x px, .Name y py] kt pt] (.Tuple [a, b] k2 pt2) pos.line X.env = pure false := by rfl) :
    Ws X (.Assign [.Tuple [.Name x px, .Name y py] kt pt] (.Tuple [a, b] k2 pt2) pos) D σ H := ws_of (ps_par hc hN hi hj hij hx hy paW hw hs) h
/-- self.f = e -/
theorem s_fld {o value : Expr} {f : Str} (h : We X value σ H fun y H1 => We X o σ H1 fun x H2 => ∃ a C dx fs, x = .ref a ∧ H2 a = some (.ins C dx fs) ∧ Cls X.K C ∧ NoAttr X.K C f ∧ fs.length < 1000 ∧ D.nx σ (upd H2 a (.ins C dx (putF f y fs))))
    (hs : swapsWith value (some (.Attribute o f pos')) pos.line X.env = pure false := by rfl) : Ws X (.Assign [.Attribute o f pos'] value pos) D σ H := ws_of (ps_fld peW peW hs) h
theorem s_while {body : List Stmt} (hp : PassesOwn (model X.prog X.w) X.A X.env X.xe) (Pv : L2.St → Hp → Prop) (mu : L2.St → Hp → Nat) (h0 : Pv σ H)
    (hs : ∀ σ H, Pv σ H → Wt X c σ H fun k H1 => if k = true then Wb X body { D with nx := fun σ' H' => Pv σ' H' ∧ mu σ' H' < mu σ H, ct := fun σ' H' => Pv σ' H' ∧ mu σ' H' < mu σ H, bk := D.nx } σ H1 else D.nx σ H1) :
    Ws X (.While c body [] pos) D σ H := ws_of (ps_while hp ptW pbW) (while_by Pv mu h0 hs fun σ H Q Q' k h => Wt.mono h k)
theorem s_raise {W : WX} {t : L2.St → Hp → XK → Prop} (hc : X.calm = true) (tk : Takes X W) (he : PMk X e t) (h : t σ H fun cls d H' => W cls d σ H') : Ws X (.Raise (some e) none pos) D σ H := ws_of (ps_raise hc tk he) h
theorem s_for {tg iter : Expr} {body : List Stmt} {wi : TI} {g : TG} (hp : PassesOwn (model X.prog X.w) X.A X.env X.xe) (hi : PI X tg iter wi) (hg : PG X tg g) (h : tFor wi g (Wb X body) D σ H) (hc : X.calm = true := by rfl) (hs : ∀ x, foldedSetIterable iter X.env x = pure x := by intro _; rfl) :
    Ws X (.For tg iter body [] pos) D σ H := ws_of (ps_for hp hc hi hg pbW hs) h
end
end PR
namespace PR
open PySem PySem.Spec PyProof.Rows L2
section
variable {X : Cx} {e a b c : Expr} {es rest : List Expr} {σ : L2.St} {H : Hp} {Q : VK} {Qb : Bool → Hp → Prop} {Qa : List V → Hp → Prop} {D : Ends} {pos pos' p px : Pos} {st : Stmt} {sts body : List Stmt}
/-- for x in e, e a list that stands still -/
theorem s_forl (i : Nat) {x : Str} (hp : PassesOwn (model X.prog X.w) X.A X.env X.xe) (hN : X.N.Nodup)
    (h : We X e σ H fun v H1 => ∃ (l : Addr) (xs : List V) (Pv : Nat → L2.St → Hp → Prop), v = .ref l ∧ SqL X.K H1 l xs ∧ Pv 0 σ H1 ∧ (∀ j σ' H', j ≤ xs.length → Pv j σ' H' → SqL X.K H' l xs) ∧
      (∀ j y σ' H', xs[j]? = some y → Pv j σ' H' → Wb X body { D with nx := Pv (j + 1), ct := Pv (j + 1), bk := D.nx } (σ'.set i (some y)) H') ∧ ∀ σ' H', Pv xs.length σ' H' → D.nx σ' H')
    (hi : X.N[i]? = some x := by rfl) (hx : Loc X.env.scope x := by first | exact Or.inl rfl | exact Or.inr rfl) (hf : X.fn x = true ∨ X.env.scope.names.lookup x = some .local := by first | exact .inl rfl | exact .inr rfl) (hc : X.calm = true := by rfl)
    (hs : ∀ z, foldedSetIterable e X.env z = pure z := by intro _; rfl) : Ws X (.For (.Name x px) e body [] pos) D σ H := by
  refine s_for hp (pi_list peW) (pg_name (i := i) hN hi hx hf) ?_ hc hs
  refine We.mono h fun v H1 z => ?_
  obtain ⟨l, xs, Pv, rfl, hl, h0, hk, ht, hd⟩ := z
  exact ⟨l, rfl, ⟨xs, hl⟩, for_list (K := X.K) (a := l) (xs := xs) Pv h0 hk (fun j y σ' H' hj hP => ht j y σ' H' hj hP) hd⟩
/-- for x in range(e) -/
theorem s_forr (i : Nat) {x : Str} {pr pc : Pos} (hp : PassesOwn (model X.prog X.w) X.A X.env X.xe) (hN : X.N.Nodup) (hm : X.mg "range" = none)
    (h : We X e σ H fun v H1 => ∃ (n : Nat) (Pv : Nat → L2.St → Hp → Prop), v = .int n ∧ n < 1000000 ∧ Pv 0 σ H1 ∧
      (∀ j σ' H', j < n → Pv j σ' H' → Wb X body { D with nx := Pv (j + 1), ct := Pv (j + 1), bk := D.nx } (σ'.set i (some (.int (j : Int)))) H') ∧ ∀ σ' H', Pv n σ' H' → D.nx σ' H')
    (hg : Gl X "range" := by rfl) (he : starEach [e] X.env = (false, eval e X.env) :: starEach [] X.env := by rfl)
    (hi : X.N[i]? = some x := by rfl) (hx : Loc X.env.scope x := by first | exact Or.inl rfl | exact Or.inr rfl) (hf : X.fn x = true ∨ X.env.scope.names.lookup x = some .local := by first | exact .inl rfl | exact .inr rfl) (hc : X.calm = true := by rfl)
    (hs : ∀ z, foldedSetIterable (.Call (.Name "range" pr) [e] [] pc) X.env z = pure z := by intro _; rfl) : Ws X (.For (.Name x px) (.Call (.Name "range" pr) [e] [] pc) body [] pos) D σ H := by
  refine s_for hp (pi_range1 hg hm paW he) (pg_name (i := i) hN hi hx hf) ?_ hc hs
  refine a_cons (We.mono h fun v H1 z => ?_) he
  obtain ⟨n, Pv, rfl, hn, h0, ht, hd⟩ := z
  refine a_nil ⟨(n : Int), rfl, by omega, by omega, for_range (lo := 0) (n := n) Pv h0 (fun j σ' H' hj hP => ?_) hd⟩
  have z := ht j σ' H' hj hP
  have e0 : (0 : Int) + (j : Int) = (j : Int) := Int.zero_add _
  show Wb X body { D with nx := Pv (j + 1), ct := Pv (j + 1), bk := D.nx } (σ'.set i (some (.int ((0 : Int) + (j : Int))))) H'
  rw [e0]
  exact z
end
end PR
namespace PR
open PySem PySem.Spec PyProof.Rows L2
/-! ### defs that need to know that nothing is being shown -/
/-- as FnR, under no guard -/
def FnG (P : Program) (w : World) (K : PySem.W.Frag) (mg : Str → Option Value) (base : Heap) (CX : CXT) (k : Nat) (f : Addr) (sp : Sp) : Prop :=
  ∀ (A : Around) (outer : List Env) (s : Shared) (H : Hp) (us : List Value) (vs : List V) (Q : VK) (E : XK), A.guards = some [] → Room k A → Env0 P w K mg base A outer s H → Vals vs us → sp vs H Q E →
    codeAny (model P w) A (.call (.ref f) ⟨us, []⟩) (CR CX outer P w H s Q E) s
theorem FnG.of {P : Program} {w : World} {K : PySem.W.Frag} {mg : Str → Option Value} {base : Heap} {CX : CXT} {k : Nat} {f : Addr} {sp : Sp} (F : FnR P w K mg base CX k f sp) : FnG P w K mg base CX k f sp :=
  fun A outer s H us vs Q E _ hr e0 r hs => F A outer s H us vs Q E hr e0 r hs
section
variable {P : Program} {w : World} {K : PySem.W.Frag} {mg : Str → Option Value} {base : Heap}
theorem fng {x q : Str} {st : Stmt} {f : Addr} {N ps : List Str} {k : Nat} {sp : Sp} (D : ∃ fd, FunD K x q (defArgs st) (defBody st) (defScope st) [] [] f fd) (S : FnScope N ps (defScope st)) (len : ∀ vs H Q E, sp vs H Q E → vs.length = ps.length)
    (hb : ∀ (kV doc pm : Value) (an : Option Addr) (cdv ct : Value) (us : List Value), us.length = ps.length → bindArgs (PySem.W.fnOf x q (defArgs st) (defBody st) (defScope st) .none kV doc pm an cdv ct) ⟨us, []⟩ = pure (ps.zip us))
    (body : ∀ (cdv : Value) (A : Around) (outer : List Env) (s : Shared) (H : Hp) (vs : List V) (Q : VK) (E : XK), A.guards = some [] → Room k (A.deeper (envOfC q (defScope st) s.heap.objs.size f cdv)) → sp vs H Q E →
      Wb (cxOf (L2.CX P w) P w K mg base N q (defScope st) f cdv A outer s H E) (defBody st) { nx := fun _ H' => Q .non H', rt := Q } (start N vs) H) : FnG P w K mg base (L2.CX P w) (k + 1) f sp := by
  obtain ⟨fd, F⟩ := D
  intro A outer s H us vs Q E hgd hr e0 r hsp
  have hl : vs.length = ps.length := len _ _ _ _ hsp
  have KI : K.In s.heap := e0.mod.kin.keeps fun b o z => (e0.bs b o z).1
  have BT := F.bindsA hb s us (by rw [← r.length]; exact hl)
  obtain ⟨oc, od, dV, kV, doc, pm, an, cdv, ct, osl, rfl, lk, hcd, _, _⟩ := F.ex
  have noLim : s.heap.NoLimit := e0.mod.nolimit.keeps fun b o z => (e0.bs b o z).1
  have kinds : ∀ y ∈ ps.zip us, (defScope st).names.lookup y.1 = some .local ∨ ((defScope st).names.lookup y.1 = some .cell ∧ ((cellsFrom (s.heap.objs.size + 1) (defScope st).names []).lookup y.1).isSome = true) := by
    rintro ⟨n, v⟩ hy
    exact (S.par n (List.of_mem_zip hy).1).imp id fun c => ⟨c, PySem.W.cellsFrom_some _ _ _ (.inl c)⟩
  refine codeAny_call_function hr.depth (KI _ _ lk) rfl S.co S.gen rfl (PySem.W.codeRec_of KI hcd) (BT _ _ _ _ ?_)
  refine wpAny_newFunctionEnv_cells S.kind kinds fun env ee s1 ic => ?_
  subst ee
  refine ⟨noLim.keeps ic.toInCall.keep, codeAny_func ?_⟩
  have J : Inv (cxOf (L2.CX P w) P w K mg base N q (defScope st) f cdv A outer s H E) [] (start N vs) H s1 := inv_start S hr.hd e0 hl r ic
  refine wpAny_mono ((body cdv A outer s H vs Q E hgd (hr.deeper _) hsp).run [] s1 J) (fun fl s2 z => ?_) fun _ _ z => z
  match fl, z with
  | .ret u, ⟨v, σ', H', J', rv, qv⟩ => exact ⟨v, H', J'.os, J'.bare, J'.base, J'.hok, rv, qv⟩
  | .next, ⟨σ', H', J', qv⟩ => exact ⟨V.non, H', J'.os, J'.bare, J'.base, J'.hok, rfl, qv⟩
  | .brk, ⟨_, _, _, z⟩ => exact False.elim z
  | .cont, ⟨_, _, _, z⟩ => exact False.elim z
end
section
variable {X : Cx} {pins : List (Addr × Obj)} {σ : L2.St} {H : Hp} {s : Shared}
theorem run_fnG {CX : CXT} {k : Nat} {f : Addr} {sp : Sp} {E : XK} {Q : VK} {us : List Value} {vs : List V} (F : FnG X.prog X.w X.K X.mg X.base CX k f sp) (hgd : X.A.guards = some []) (hr : Room k X.A) (hx : Passes CX X E) (I : Inv X pins σ H s) (r : Vals vs us) (h : sp vs H Q E) :
    codeAny (model X.prog X.w) X.A (.call (.ref f) ⟨us, []⟩) (fun r s' => match r with | .ok (.ret v) => EP X pins σ Q v s' | .ok _ => False | .error e => X.xe e s') s := by
  refine codeAny_mono (F X.A X.stack s H us vs Q E hgd hr I.env0 r h) fun r s' z => ?_
  match r, z with
  | .error e, z => exact hx pins σ H s e s' I z
  | .ok (.ret u), z => exact I.after z
  | .ok .next, z => exact z
  | .ok .brk, z => exact z
  | .ok .cont, z => exact z
end
section
variable {X : Cx} {e o a b : Expr} {es : List Expr} {σ : L2.St} {H : Hp} {Q : VK} {p pos apos : Pos} {CX : CXT} {k : Nat} {f C g : Addr} {sp : Sp} {E : XK} {x m : Str}
theorem w_callG (F : FnG X.prog X.w X.K X.mg X.base CX k f sp) (hgd : X.A.guards = some []) (hr : Room k X.A) (hm : X.mg x = some (.ref f)) (hk : PySem.W.keepIn X.K (.ref f) = true) (hx : Passes CX X E)
    (h : Wa X (e :: es) σ H fun vs H1 => sp vs H1 Q E) (hg : Gl X x := by rfl) (hdb : (x == ("__debug__" : Str)) = false := by decide) (he : starEach (e :: es) X.env = (false, eval e X.env) :: starEach es X.env := by rfl) (hpl : (backTo pos (starEach es X.env)).any (·.1) = false := by rfl) :
    We X (.Call (.Name x p) (e :: es) [] pos) σ H Q := by
  refine ⟨fun pins s I => ?_⟩
  refine wpAny_Call_Name_kw (ld_glob I hg hm ?_ hdb)
  refine PySem.W.callWith_K (h₀ := X.base) I.ok.mod.kin hk (thn (h.run pos pins s I) fun us s1 ⟨vs, H1, I1, r, q⟩ => ⟨I1.kIn, ?_⟩) he hpl
  exact wpAny_call (run_fnG F hgd hr hx I1 r q)
theorem w_callG0 (F : FnG X.prog X.w X.K X.mg X.base CX k f sp) (hgd : X.A.guards = some []) (hr : Room k X.A) (hm : X.mg x = some (.ref f)) (hk : PySem.W.keepIn X.K (.ref f) = true) (hx : Passes CX X E)
    (h : sp [] H Q E) (hg : Gl X x := by rfl) (hdb : (x == ("__debug__" : Str)) = false := by decide) : We X (.Call (.Name x p) [] [] pos) σ H Q := by
  refine ⟨fun pins s I => ?_⟩
  refine wpAny_Call_Name_kw (ld_glob I hg hm ?_ hdb)
  exact PySem.W.callWith_K0 I.kIn hk (wpAny_call (run_fnG (us := []) F hgd hr hx I .nil h))
end
/-! ### repr -/
/-- what repr shows -/
inductive Sw (K : PySem.W.Frag) (H : Hp) : V → PyData → Prop
  | dp {v : V} {d : PyData} : Dp K H v d → d.hasDict = false → Sw K H v d
  | dE {a : Addr} : H a = some (.dK []) → Sw K H (.ref a) (.dict [])
  | d1 {a : Addr} {x : Str} {i : Int} : H a = some (.dK [(.inr x, .int i)]) → Sw K H (.ref a) (.dict [(.str x, .int i)])
theorem Sw.reads {X : Cx} {pins : List (Addr × Obj)} {σ : L2.St} {H : Hp} {s : Shared} {v : V} {d : PyData} {u : Value} (I : Inv X pins σ H s) (h : Sw X.K H v d) (r : RelV v u) : ∃ as, Reads s.heap u d as ∧ (d.hasDict = true → sysModules ∉ as) := by
  cases h with
  | dp hd hn =>
    obtain ⟨as, z⟩ := Dp.reads I d v u hd r
    exact ⟨as, z, PyData.noDict_hsm hn⟩
  | @dE a ha =>
    cases (show u = Value.ref a from r)
    obtain ⟨_, hsy, vs, kv, o, es, ep, h1, h2, h3, _, h4, _⟩ := (show ObjOk X.prog X.w H s.heap a (.dK []) from I.hok a _ ha)
    cases kv
    have he : es.toList = [] := by
      generalize es.toList = l at h4
      cases h4
      rfl
    refine ⟨a :: [] ++ [], Reads.dict (kvs := []) h1 h2.1 h3 (by rw [he]; exact .nil) (by rw [he]; exact .nil), fun _ hm => ?_⟩
    have hm' : sysModules = a := by simpa using hm
    rw [← hm'] at hsy
    simp at hsy
  | @d1 a x i ha =>
    cases (show u = Value.ref a from r)
    obtain ⟨_, hsy, vs, kv, o, es, ep, h1, h2, h3, _, h4, _⟩ := (show ObjOk X.prog X.w H s.heap a (.dK [(.inr x, .int i)]) from I.hok a _ ha)
    cases kv with
    | @cons _ q _ qs e1 e2 =>
      cases e2
      obtain ⟨k, y⟩ := q
      obtain ⟨e3, t, e4⟩ := e1
      have e3' : (Sum.inr x : Key) = k := e3
      subst e3'
      have e4' : y = Value.int i t := e4
      subst e4'
      have he : ∃ en : DictEntry, es.toList = [en] ∧ (∃ t', en.key = Value.str x t') ∧ en.val = Value.int i t := by
        generalize es.toList = l at h4
        cases h4 with
        | @cons en _ _ _ g1 g2 g3 =>
          cases g3
          refine ⟨en, rfl, ?_, g2⟩
          rcases keyIs_shape (show keyIs (.inr x) en.key = true from g1) with ⟨_, _, z, _⟩ | ⟨x', t', z, z2⟩
          · cases z
          · cases z
            exact ⟨t', z2⟩
      obtain ⟨en, he, ⟨t', hk⟩, hv⟩ := he
      refine ⟨a :: ([] ++ []) ++ ([] ++ []), Reads.dict (kvs := [(.str x, .int i)]) h1 h2.1 h3 ?_ ?_, fun _ hm => ?_⟩
      · rw [he]
        exact .cons (by show Reads _ en.key _ _; rw [hk]; exact .str x t') .nil
      · rw [he]
        exact .cons (by show Reads _ en.val _ _; rw [hv]; exact .int i t) .nil
      · have hm' : sysModules = a := by simpa using hm
        rw [← hm'] at hsy
        simp at hsy
/-- repr(v) -/
theorem call_repr {X : Cx} (hgd : X.A.guards = some []) (hu : X.A.units + 80 < cLine) : CallR X (.builtin "repr") (fun xs H Q => ∃ v d, xs = [v] ∧ Sw X.K H v d ∧ d.showable = true ∧ d.shown.length ≤ sizeLine ∧ d.depth ≤ 64 ∧ Q (.str d.shown) H) := by
  intro pins s σ H xs us Q I r h
  obtain ⟨v, d, rfl, hd, hs, hz, hdp, q⟩ := h
  obtain ⟨u, rfl, ru⟩ := vals1 r
  obtain ⟨as, rd, hsm⟩ := hd.reads I ru
  have fin : ∀ h' t tk, (∀ b o, s.heap.get? b = some o → h'.get? b = some o) → EP X pins σ Q (.str d.shown t) { s with heap := h', toks := tk } := fun h' t tk k => ⟨.str d.shown, H, I.kept k, ⟨t, rfl⟩, q⟩
  cases rd with
  | none => exact PySem.P.repr_of_none (fin s.heap _ _ fun _ _ e => e)
  | bool b => exact PySem.P.repr_of_bool (fin s.heap _ _ fun _ _ e => e)
  | int i t => exact PySem.P.repr_of_int (of_decide_eq_true hs) (fin s.heap _ _ fun _ _ e => e)
  | str x t => exact PySem.P.repr_of_str (fin s.heap _ _ fun _ _ e => e) hz
  | list h1 h2 h3 h4 => exact repr_of_reads' (.list h1 h2 h3 h4) hs hsm hgd (by omega) (fun _ _ e => e) fin hz
  | tuple h1 h2 h3 h4 => exact repr_of_reads' (.tuple h1 h2 h3 h4) hs hsm hgd (by omega) (fun _ _ e => e) fin hz
  | dict h1 h2 h3 h4 h5 => exact repr_of_reads' (.dict h1 h2 h3 h4 h5) hs hsm hgd (by omega) (fun _ _ e => e) fin hz
end PR
namespace PR
open PySem PySem.Spec PyProof.Rows L2
/-! ### try -/
/-- what a suite must do, whatever exception object it holds -/
def Su (X : Cx) (suite : List Stmt) (a : Addr) (cls : Value) (d : Option Addr) : TS := fun D σ H => ∀ (oe : Obj) (pn : List (Addr × Obj)), Zc cls d oe → (∃ vs, oe.data = .fields vs) → Wb (X.suite a ((a, oe) :: pn)) suite D σ H
theorem su_ok {X : Cx} {suite : List Stmt} (a : Addr) (oe : Obj) (cls : Value) (d : Option Addr) (pn : List (Addr × Obj)) (hz : Zc cls d oe) (hf : ∃ vs, oe.data = .fields vs) : PSs (X.suite a ((a, oe) :: pn)) suite (Su X suite a cls d) :=
  ⟨fun pins s σ H D I h => (h oe pn hz hf).run pins s I⟩
/-- what a try's body must do -/
def Tb (X : Cx) (body : List Stmt) (W : WX) : TS := fun D σ H => ∀ (pn : List (Addr × Obj)) (xe : Value → Shared → Prop), Takes (X.tr pn xe) W → PassesOwn (model X.prog X.w) X.A X.env xe → Wb (X.tr pn xe) body D σ H
theorem tb_ok {X : Cx} {body : List Stmt} (W : WX) (pn : List (Addr × Obj)) (xe : Value → Shared → Prop) (tk : Takes (X.tr pn xe) W) (ps : PassesOwn (model X.prog X.w) X.A X.env xe) : PSs (X.tr pn xe) body (Tb X body W) :=
  ⟨fun pins s σ H D I h => (h pn xe tk ps).run pins s I⟩
section
variable {X : Cx} {x n : Str} {c : Value} {i : Nat} {body suite orelse : List Stmt} {b₀ : Stmt} {np pos pos' : Pos} {Wout : WX} {σ : L2.St} {H : Hp} {D : Ends}
theorem s_try1 (hc : Names X x c) (tk : Takes X Wout) (h : Tb X body (wOnly X.K c (Su X (b₀ :: suite)) Wout D) D σ H) (hs : X.stack = X.env :: X.outer := by rfl) (hf : X.env.frame = some X.env.locals := by rfl) :
    Ws X (.Try body [.ExceptHandler (some (.Name x np)) none (b₀ :: suite) pos'] [] [] pos) D σ H :=
  ws_of (ps_try_only (tb := Tb X body) hs hf hc tk (fun W pn xe t p => tb_ok W pn xe t p) su_ok) h
theorem s_tryAs (i : Nat) (hN : X.N.Nodup) (hc : Names X x c) (tk : Takes X Wout) (h : Tb X body (wAs X.K c i (Su X (b₀ :: suite)) Wout D) D σ H) (hi : X.N[i]? = some n := by rfl) (hln : X.env.kindOf n = some .local := by rfl)
    (hs : X.stack = X.env :: X.outer := by rfl) (hf : X.env.frame = some X.env.locals := by rfl) :
    Ws X (.Try body [.ExceptHandler (some (.Name x np)) (some n) (b₀ :: suite) pos'] [] [] pos) D σ H :=
  ws_of (L2.ps_try_as (tb := Tb X body) hs hf hN hi hln hc tk (fun W pn xe t p => tb_ok W pn xe t p) su_ok) h
/-- the body lets nothing out -/
theorem s_try1E (hc : Names X x c) (tk : Takes X Wout) (h : Tb X body (wOnly X.K c (Su X (b₀ :: suite)) Wout D) { D with nx := fun σ' H' => Wb X orelse D σ' H' } σ H) (hs : X.stack = X.env :: X.outer := by rfl) (hf : X.env.frame = some X.env.locals := by rfl) :
    Ws X (.Try body [.ExceptHandler (some (.Name x np)) none (b₀ :: suite) pos'] orelse [] pos) D σ H :=
  ws_of (ps_try_onlyE (tb := Tb X body) pbW hs hf hc tk (fun W pn xe t p => tb_ok W pn xe t p) su_ok) h
end
section
variable {X : Cx} {body : List Stmt} {h₀ : ExceptHandler} {hds : List ExceptHandler} {l : List (Value × (Addr → Value → Option Addr → TS))} {pos : Pos} {Wout : WX} {σ : L2.St} {H : Hp} {D : Ends}
theorem s_tryN (tk : Takes X Wout) (hh : HdsOk X (h₀ :: hds) l) (h : Tb X body (wMany X.K Wout D l) D σ H) (hs : X.stack = X.env :: X.outer := by rfl) (hf : X.env.frame = some X.env.locals := by rfl) : Ws X (.Try body (h₀ :: hds) [] [] pos) D σ H :=
  ws_of (L2.ps_try_many (tb := Tb X body) hs hf tk (fun W pn xe t p => tb_ok W pn xe t p) hh) h
theorem hds_cons {x : Str} {c : Value} {b₀ : Stmt} {suite : List Stmt} {np pos' : Pos} {hds : List ExceptHandler} {l : List (Value × (Addr → Value → Option Addr → TS))} (hc : Names X x c) (r : HdsOk X hds l) :
    HdsOk X (.ExceptHandler (some (.Name x np)) none (b₀ :: suite) pos' :: hds) ((c, Su X (b₀ :: suite)) :: l) := .cons hc su_ok r
end
/-- what a def lets out, its own E -/
theorem takesX {P : Program} {w : World} {K : PySem.W.Frag} {mg : Str → Option Value} {base : Heap} {N : List Str} {qual : Str} {sc : Scope} {f : Addr} {cdv : Value} {A : Around} {outer : List Env} {s : Shared} {H : Hp} {E : XK} :
    Takes (cxOf (L2.CX P w) P w K mg base N qual sc f cdv A outer s H E) (fun cls d _ H => E cls d H) := takes_of (E := E) rfl rfl rfl rfl
/-- a call within a try's body -/
theorem passT {X : Cx} {W : WX} {E : XK} (tk : Takes X W) (h : ∀ cls d σ H, E cls d H → W cls d σ H) : Passes (L2.CX X.prog X.w) X E := passes_call tk h
/-- what a callee lets out is taken, at these locals -/
def PassAt (CX : CXT) (X : Cx) (σ : L2.St) (E : XK) : Prop := ∀ (pins : List (Addr × Obj)) (H : Hp) (s : Shared) (e : Value) (s' : Shared), Inv X pins σ H s → CX X.stack H s E e s' → X.xe e s'
theorem passAt {X : Cx} {W : WX} {E : XK} {σ : L2.St} (tk : Takes X W) (h : ∀ cls d H, E cls d H → W cls d σ H) : PassAt (L2.CX X.prog X.w) X σ E := fun pins H s e s' I c => tk e s' (XE.of_call I (fun cls d H' q => h cls d H' q) c)
section
variable {X : Cx} {e o a b : Expr} {es : List Expr} {σ : L2.St} {H : Hp} {Q : VK} {p pos apos : Pos} {CX : CXT} {k : Nat} {f C g : Addr} {sp : Sp} {E : XK} {x m : Str}
theorem run_fnA {pins : List (Addr × Obj)} {s : Shared} {us : List Value} {vs : List V} (F : FnR X.prog X.w X.K X.mg X.base CX k f sp) (hr : Room k X.A) (hx : PassAt CX X σ E) (I : Inv X pins σ H s) (r : Vals vs us) (h : sp vs H Q E) :
    codeAny (model X.prog X.w) X.A (.call (.ref f) ⟨us, []⟩) (fun r s' => match r with | .ok (.ret v) => EP X pins σ Q v s' | .ok _ => False | .error e => X.xe e s') s := by
  refine codeAny_mono (F X.A X.stack s H us vs Q E hr I.env0 r h) fun r s' z => ?_
  match r, z with
  | .error e, z => exact hx pins H s e s' I z
  | .ok (.ret u), z => exact I.after z
  | .ok .next, z => exact z
  | .ok .brk, z => exact z
  | .ok .cont, z => exact z
theorem w_callA (F : FnR X.prog X.w X.K X.mg X.base CX k f sp) (hr : Room k X.A) (hm : X.mg x = some (.ref f)) (hk : PySem.W.keepIn X.K (.ref f) = true) (hx : PassAt CX X σ E)
    (h : Wa X (e :: es) σ H fun vs H1 => sp vs H1 Q E) (hg : Gl X x := by rfl) (hdb : (x == ("__debug__" : Str)) = false := by decide) (he : starEach (e :: es) X.env = (false, eval e X.env) :: starEach es X.env := by rfl) (hpl : (backTo pos (starEach es X.env)).any (·.1) = false := by rfl) :
    We X (.Call (.Name x p) (e :: es) [] pos) σ H Q := by
  refine ⟨fun pins s I => ?_⟩
  refine wpAny_Call_Name_kw (ld_glob I hg hm ?_ hdb)
  refine PySem.W.callWith_K (h₀ := X.base) I.ok.mod.kin hk (thn (h.run pos pins s I) fun us s1 ⟨vs, H1, I1, r, q⟩ => ⟨I1.kIn, ?_⟩) he hpl
  exact wpAny_call (run_fnA F hr hx I1 r q)
theorem w_callA0 (F : FnR X.prog X.w X.K X.mg X.base CX k f sp) (hr : Room k X.A) (hm : X.mg x = some (.ref f)) (hk : PySem.W.keepIn X.K (.ref f) = true) (hx : PassAt CX X σ E)
    (h : sp [] H Q E) (hg : Gl X x := by rfl) (hdb : (x == ("__debug__" : Str)) = false := by decide) : We X (.Call (.Name x p) [] [] pos) σ H Q := by
  refine ⟨fun pins s I => ?_⟩
  refine wpAny_Call_Name_kw (ld_glob I hg hm ?_ hdb)
  exact PySem.W.callWith_K0 I.kIn hk (wpAny_call (run_fnA (us := []) F hr hx I .nil h))
theorem w_methA {pl : Sem Bool} (c : Cls X.K C) (hm : Meth X.K C m f) (F : FnR X.prog X.w X.K X.mg X.base CX k f sp) (hr : Room k X.A) (hx : PassAt CX X σ E)
    (h : We X o σ H fun x H1 => ∃ a dx fs, x = .ref a ∧ H1 a = some (.ins C dx fs) ∧ fs.lookup m = none ∧ Wa X (e :: es) σ H1 fun vs H2 => sp (x :: vs) H2 Q E)
    (hst : starEach (e :: es) X.env = (false, eval e X.env) :: starEach es X.env := by rfl) (hpl : (backTo pos (starEach es X.env)).any (·.1) = false := by rfl)
    (ht : eval (.Call (.Attribute o m apos) (e :: es) [] pos) X.env = (do
      let ov ← eval o X.env
      standAt apos.atName
      let (f, first) ← holding [ov] (getMethod ov m pl)
      callWith pos f first (backTo pos (starEach (e :: es) X.env)) (backToKw pos (keywordEach [] X.env))) := by rfl) :
    We X (.Call (.Attribute o m apos) (e :: es) [] pos) σ H Q := by
  refine ⟨fun pins s I => ?_⟩
  refine PySem.W.methodCall_KW (pl := pl) (thn (h.run pins s I) fun u s1 ⟨x, H1, I1, rx, a, dx, fs, ex, ea, l, q⟩ => ?_) ht
  subst ex
  obtain rfl : u = Value.ref a := rx
  refine getmeth_ok I1 ea c hm l ?_
  refine PySem.W.callWith_K (first := [.ref a]) (h₀ := X.base) I1.ok.mod.kin hm.kp (thn (q.run pos pins s1 I1) fun us s2 ⟨vs, H2, I2, r2, q2⟩ => ⟨I2.kIn, ?_⟩) hst hpl
  exact wpAny_call (run_fnA (us := .ref a :: us) (vs := .ref a :: vs) F hr hx I2 (.cons rfl r2) q2)
theorem w_methA0 {pl : Sem Bool} (c : Cls X.K C) (hm : Meth X.K C m f) (F : FnR X.prog X.w X.K X.mg X.base CX k f sp) (hr : Room k X.A) (hx : PassAt CX X σ E)
    (h : We X o σ H fun x H1 => ∃ a dx fs, x = .ref a ∧ H1 a = some (.ins C dx fs) ∧ fs.lookup m = none ∧ sp [x] H1 Q E)
    (ht : eval (.Call (.Attribute o m apos) [] [] pos) X.env = (do
      let ov ← eval o X.env
      standAt apos.atName
      let (f, first) ← holding [ov] (getMethod ov m pl)
      callWith pos f first (backTo pos (starEach [] X.env)) (backToKw pos (keywordEach [] X.env))) := by rfl) :
    We X (.Call (.Attribute o m apos) [] [] pos) σ H Q := by
  refine ⟨fun pins s I => ?_⟩
  refine PySem.W.methodCall_KW (pl := pl) (thn (h.run pins s I) fun u s1 ⟨x, H1, I1, rx, a, dx, fs, ex, ea, l, q⟩ => ?_) ht
  subst ex
  obtain rfl : u = Value.ref a := rx
  refine getmeth_ok I1 ea c hm l ?_
  exact PySem.W.callWith_K0 (first := [.ref a]) I1.kIn hm.kp (wpAny_call (run_fnA (us := [.ref a]) (vs := [.ref a]) F hr hx I1 (.cons rfl .nil) q))
theorem w_makeA (M : Mk X.K C f) (F : FnR X.prog X.w X.K X.mg X.base CX k f sp) (hr : Room (k + 1) X.A) (hm : X.mg x = some (.ref C)) (hx : PassAt CX X σ E)
    (h : Wa X (e :: es) σ H fun vs H1 => ∀ x dx, H1 x = Option.none → H1 dx = Option.none → dx ≠ x → sp (V.ref x :: vs) (upd (upd H1 dx (.own x)) x (.ins C dx [])) (fun v H2 => v = .non ∧ Q (.ref x) H2) E)
    (hg : Gl X x := by rfl) (hdb : (x == ("__debug__" : Str)) = false := by decide) (he : starEach (e :: es) X.env = (false, eval e X.env) :: starEach es X.env := by rfl) (hpl : (backTo pos (starEach es X.env)).any (·.1) = false := by rfl) :
    We X (.Call (.Name x p) (e :: es) [] pos) σ H Q := by
  refine ⟨fun pins s I => ?_⟩
  refine wpAny_Call_Name_kw (ld_glob I hg hm ?_ hdb)
  refine PySem.W.callWith_K (h₀ := X.base) I.ok.mod.kin M.kp (thn (h.run pos pins s I) fun us s1 ⟨vs, H1, I1, r, q⟩ => ⟨I1.kIn, ?_⟩) he hpl
  have J := Inv.made (C := C) I1
  have z := q (s1.heap.objs.size + 1) s1.heap.objs.size (I1.hok.fresh (Nat.le_succ _)) (I1.hok.fresh (Nat.le_refl _)) (Nat.ne_of_lt (Nat.lt_succ_self _))
  have r2 : Vals (V.ref (s1.heap.objs.size + 1) :: vs) (Value.ref (s1.heap.objs.size + 1) :: us) := .cons rfl r
  refine wpAny_call (make_map (f := f) I1.kIn M.makes M.init (beq_iff_eq.mp M.fn) (codeAny_mono (F _ X.stack _ _ _ _ _ E (hr.make C us []) (J.env0.make C us []) r2 z) fun rr s' zz => ?_))
  match rr, zz with
  | .error e, zz => exact hx pins _ _ e s' J zz
  | .ok (.ret u), zz =>
    obtain ⟨v, H', I3, rv, ev, q3⟩ := J.after zz
    subst ev
    exact ⟨rv, ⟨V.ref (s1.heap.objs.size + 1), H', I3, rfl, q3⟩⟩
  | .ok .next, zz => exact zz
  | .ok .brk, zz => exact zz
  | .ok .cont, zz => exact zz
end
/-- e.f of the caught exception -/
theorem w_xf {X : Cx} {a C : Addr} {oe : Obj} {cls : Value} {d : Option Addr} {pn : List (Addr × Obj)} {e : Expr} {pos : Pos} {n : Str} {σ : L2.St} {H : Hp} {Q : VK} (T : XfC X.K C) (hno : PySem.W.findIn X.K (.ref C) n = some none)
    (hz : Zc cls d oe) (hf : ∃ vs, oe.data = .fields vs)
    (h : We (X.suite a ((a, oe) :: pn)) e σ H fun x H1 => x = .ref a ∧ cls = .ref C ∧ ∃ (dd : Addr) (fs : List (Str × V)) (v : V), d = some dd ∧ H1 dd = some (.xd fs) ∧ fs.lookup n = some v ∧ Q v H1)
    (hb : attributeBase e n X.env (eval e X.env) = eval e X.env := by rfl) : We (X.suite a ((a, oe) :: pn)) (.Attribute e n pos) σ H Q := we_of (pe_xf T hno hz hf peW hb) h
/-! ### keywords -/
/-- a promise by n positional values and by keywords named ks -/
def FnQ (P : Program) (w : World) (K : PySem.W.Frag) (mg : Str → Option Value) (base : Heap) (CX : CXT) (k : Nat) (f : Addr) (n : Nat) (ks : List Str) (sp : List V → List V → Hp → VK → XK → Prop) : Prop :=
  ∀ (A : Around) (outer : List Env) (s : Shared) (H : Hp) (us ws : List Value) (vs zs : List V) (Q : VK) (E : XK), Room k A → Env0 P w K mg base A outer s H → Vals vs us → Vals zs ws → vs.length = n → zs.length = ks.length → sp vs zs H Q E →
    codeAny (model P w) A (.call (.ref f) ⟨us, ks.zip ws⟩) (CR CX outer P w H s Q E) s
section
variable {P : Program} {w : World} {K : PySem.W.Frag} {mg : Str → Option Value} {base : Heap} {CX : CXT}
theorem fnq_of {k n : Nat} {f : Addr} {fd : FuncData} {ps ks : List Str} {sp : Sp} {g : List Value → List Value → List Value} {gV : List V → List V → List V} (F : FnOk P w K mg base CX k f fd ps sp) (hb : KBn K fd ps n ks g gV) :
    FnQ P w K mg base CX k f n ks (fun vs zs H Q E => sp (gV vs zs) H Q E) := by
  intro A outer s H us ws vs zs Q E hr e0 rv rz l1 l2 h
  exact F.run A outer s H ⟨us, ks.zip ws⟩ (g us ws) (gV vs zs) Q E hr e0 (hb.to s us ws (e0.mod.kin.keeps fun b o z => (e0.bs b o z).1) (rv.length.symm.trans l1) (rz.length.symm.trans l2)) (hb.rel rv rz) h
/-- every parameter is given, no defaults -/
theorem kbn0 {x q : Str} {params : Arguments} {body : List Stmt} {scope : Scope} {kws : List (Str × V)} {f : Addr} {fd : FuncData} {ps : List Str} (F : FunD K x q params body scope [] kws f fd) (n : Nat) (ks : List Str) (g : {α : Type} → List α → List α → List α)
    (hrel : ∀ {vs zs : List V} {us ws : List Value}, Vals vs us → Vals zs ws → Vals (g vs zs) (g us ws))
    (h : ∀ (kV doc pm : Value) (an : Option Addr) (cdv ct : Value) (us ws : List Value), us.length = n → ws.length = ks.length → bindArgs (PySem.W.fnOf x q params body scope .none kV doc pm an cdv ct) ⟨us, ks.zip ws⟩ = pure (ps.zip (g us ws))) :
    KBn K fd ps n ks (fun us ws => g us ws) (fun vs zs => g vs zs) := by
  obtain ⟨oc, od, dV, kV, doc, pm, an, cdv, ct, osl, rfl, lk, hcd, hD, hK⟩ := F.ex
  rcases hD with ⟨_, rfl⟩ | ⟨e, _⟩
  · exact ⟨fun s us ws _ l1 l2 => .of_eq (h kV doc pm an cdv ct us ws l1 l2), fun r1 r2 => hrel r1 r2⟩
  · exact absurd rfl e
/-- with defaults dvs -/
theorem kbn1 {x q : Str} {params : Arguments} {body : List Stmt} {scope : Scope} {dvs : List V} {kws : List (Str × V)} {f : Addr} {fd : FuncData} {ps : List Str} (F : FunD K x q params body scope dvs kws f fd) (n : Nat) (ks : List Str) (g : {α : Type} → List α → List α → List α → List α) (hd : dvs ≠ [])
    (hrel : ∀ {vs ds zs : List V} {us its ws : List Value}, Vals vs us → Vals ds its → Vals zs ws → Vals (g vs ds zs) (g us its ws))
    (h : ∀ (T : Addr) (kV doc pm : Value) (an : Option Addr) (cdv ct : Value) (us its ws : List Value), us.length = n → its.length = dvs.length → ws.length = ks.length →
      ∃ k, bindArgs (PySem.W.fnOf x q params body scope (.ref T) kV doc pm an cdv ct) ⟨us, ks.zip ws⟩ = seqItems? (.ref T) >>= k ∧ k (some its.toArray) = pure (ps.zip (g us its ws))) :
    ∃ its : List Value, KBn K fd ps n ks (fun us ws => g us its ws) (fun vs zs => g vs dvs zs) := by
  obtain ⟨oc, od, dV, kV, doc, pm, an, cdv, ct, osl, rfl, lk, hcd, hD, hK⟩ := F.ex
  rcases hD with ⟨e, _⟩ | ⟨_, T, o, its, m, rfl, lT, oT, rT⟩
  · exact absurd e hd
  · refine ⟨its, ⟨fun s us ws KI l1 l2 => ?_, fun r1 r2 => hrel r1 rT r2⟩⟩
    obtain ⟨k, e1, e2⟩ := h T kV doc pm an cdv ct us its ws l1 rT.length.symm l2
    refine BindsTo.of_looks fun M => ?_
    rw [e1]
    exact looks_items KI lT oT (.of_pure e2)
end
section
variable {X : Cx} {e o : Expr} {es : List Expr} {σ : L2.St} {H : Hp} {Q : VK} {p pos apos : Pos} {CX : CXT} {k n : Nat} {f C g : Addr} {sp : List V → List V → Hp → VK → XK → Prop} {E : XK} {x m : Str} {ks : List Str} {kws : List Keyword}
theorem run_fnQ {pins : List (Addr × Obj)} {s : Shared} {us ws : List Value} {vs zs : List V} (F : FnQ X.prog X.w X.K X.mg X.base CX k f n ks sp) (hr : Room k X.A) (hx : Passes CX X E) (I : Inv X pins σ H s) (r : Vals vs us) (rz : Vals zs ws) (l1 : vs.length = n) (l2 : zs.length = ks.length) (h : sp vs zs H Q E) :
    wpAny (model X.prog X.w) X.A (call (.ref f) us (ks.zip ws)) (EP X pins σ Q) X.xe s := by
  refine wpAny_call (codeAny_mono (F X.A X.stack s H us ws vs zs Q E hr I.env0 r rz l1 l2 h) fun r s' z => ?_)
  match r, z with
  | .error e, z => exact hx pins σ H s e s' I z
  | .ok (.ret u), z => exact I.after z
  | .ok .next, z => exact z
  | .ok .brk, z => exact z
  | .ok .cont, z => exact z
/-- f(k = v, ..) -/
theorem w_callQ (F : FnQ X.prog X.w X.K X.mg X.base CX k f 0 ks sp) (hr : Room k X.A) (hm : X.mg x = some (.ref f)) (hk : PySem.W.keepIn X.K (.ref f) = true) (hx : Passes CX X E)
    (h : Wk X kws σ H fun zs H1 => zs.length = ks.length ∧ sp [] zs H1 Q E) (hg : Gl X x := by rfl) (hdb : (x == ("__debug__" : Str)) = false := by decide)
    (hall : (backToKw pos (keywordEach kws X.env)).all (·.1.isSome) = true := by rfl) (hks : (backToKw pos (keywordEach kws X.env)).filterMap (·.1) = ks := by rfl)
    (hpl : ((backTo pos (starEach [] X.env)).any (·.1) || (backToKw pos (keywordEach kws X.env)).any (·.1.isNone)) = false := by rfl) : We X (.Call (.Name x p) [] kws pos) σ H Q := by
  refine ⟨fun pins s I => ?_⟩
  refine wpAny_Call_Name_kw (ld_glob I hg hm ?_ hdb)
  refine PySem.W.callWith_KW0 (h₀ := X.base) I.ok.mod.kin hk hall ?_ hpl
  refine thn (h.run pos pins s I) fun ws s2 ⟨zs, H2, I2, rz, l2, q2⟩ => ⟨I2.kIn, ?_⟩
  rw [hks]
  exact run_fnQ (us := []) (vs := []) F hr hx I2 .nil rz rfl l2 q2
/-- f(e, .., k = v, ..) -/
theorem w_callQ1 (F : FnQ X.prog X.w X.K X.mg X.base CX k f n ks sp) (hr : Room k X.A) (hm : X.mg x = some (.ref f)) (hk : PySem.W.keepIn X.K (.ref f) = true) (hx : Passes CX X E)
    (h : Wa X (e :: es) σ H fun vs H1 => Wk X kws σ H1 fun zs H2 => vs.length = n ∧ zs.length = ks.length ∧ sp vs zs H2 Q E) (hg : Gl X x := by rfl) (hdb : (x == ("__debug__" : Str)) = false := by decide)
    (hall : (backToKw pos (keywordEach kws X.env)).all (·.1.isSome) = true := by rfl) (hks : (backToKw pos (keywordEach kws X.env)).filterMap (·.1) = ks := by rfl) (he : starEach (e :: es) X.env = (false, eval e X.env) :: starEach es X.env := by rfl)
    (hpl : ((backTo pos (starEach (e :: es) X.env)).any (·.1) || (backToKw pos (keywordEach kws X.env)).any (·.1.isNone)) = false := by rfl) : We X (.Call (.Name x p) (e :: es) kws pos) σ H Q := by
  refine ⟨fun pins s I => ?_⟩
  refine wpAny_Call_Name_kw (ld_glob I hg hm ?_ hdb)
  refine PySem.W.callWith_KW (h₀ := X.base) I.ok.mod.kin hk hall (thn (h.run pos pins s I) fun us s1 ⟨vs, H1, I1, rv, q⟩ => ?_) hpl he
  refine thn (q.run pos pins s1 I1) fun ws s2 ⟨zs, H2, I2, rz, l1, l2, q2⟩ => ⟨I2.kIn, ?_⟩
  rw [hks]
  exact run_fnQ F hr hx I2 rv rz l1 l2 q2
/-- o.m(k = v, ..) -/
theorem w_methQ {pl : Sem Bool} (c : Cls X.K C) (hm : Meth X.K C m f) (F : FnQ X.prog X.w X.K X.mg X.base CX k f 1 ks sp) (hr : Room k X.A) (hx : Passes CX X E)
    (h : We X o σ H fun x H1 => ∃ a dx fs, x = .ref a ∧ H1 a = some (.ins C dx fs) ∧ fs.lookup m = none ∧ Wk X kws σ H1 fun zs H2 => zs.length = ks.length ∧ sp [x] zs H2 Q E)
    (hall : (backToKw pos (keywordEach kws X.env)).all (·.1.isSome) = true := by rfl) (hks : (backToKw pos (keywordEach kws X.env)).filterMap (·.1) = ks := by rfl)
    (hpl : ((backTo pos (starEach [] X.env)).any (·.1) || (backToKw pos (keywordEach kws X.env)).any (·.1.isNone)) = false := by rfl)
    (ht : eval (.Call (.Attribute o m apos) [] kws pos) X.env = (do
      let ov ← eval o X.env
      standAt apos.atName
      let (f, first) ← holding [ov] (getMethod ov m pl)
      callWith pos f first (backTo pos (starEach [] X.env)) (backToKw pos (keywordEach kws X.env))) := by rfl) :
    We X (.Call (.Attribute o m apos) [] kws pos) σ H Q := by
  refine ⟨fun pins s I => ?_⟩
  refine PySem.W.methodCall_KW (pl := pl) (thn (h.run pins s I) fun u s1 ⟨x, H1, I1, rx, a, dx, fs, ex, ea, l, q⟩ => ?_) ht
  subst ex
  obtain rfl : u = Value.ref a := rx
  refine getmeth_ok I1 ea c hm l ?_
  refine PySem.W.callWith_KW0 (h₀ := X.base) I.ok.mod.kin hm.kp hall ?_ hpl
  refine thn (q.run pos pins s1 I1) fun ws s2 ⟨zs, H2, I2, rz, l2, q2⟩ => ⟨I2.kIn, ?_⟩
  rw [hks]
  exact run_fnQ (us := [.ref a]) (vs := [.ref a]) F hr hx I2 (.cons rfl .nil) rz rfl l2 q2
end
end PR
namespace PR
open PySem PySem.Spec PyProof.Rows L2
/-! ### comprehensions -/
/-- the tests of a clause -/
structure Wi (X : Cx) (ifs : List Expr) (σ : L2.St) (H : Hp) (Q : Bool → Hp → Prop) : Prop where
  run : ∀ (pins : List (Addr × Obj)) (s : Shared), Inv X pins σ H s → wpAny (model X.prog X.w) X.A (forIn ifs true fun c r => if r = true then do let ok ← isTrue c X.env (eval c X.env); pure (ForInStep.yield ok) else pure (ForInStep.yield r)) (TP X pins σ Q) X.xe s
theorem i_nil {X : Cx} {σ : L2.St} {H : Hp} {Q : Bool → Hp → Prop} (h : Q true H) : Wi X [] σ H Q := ⟨fun pins s I => pts_nil.run pins s σ H Q I h⟩
theorem i_one {X : Cx} {c : Expr} {σ : L2.St} {H : Hp} {Q : Bool → Hp → Prop} (h : Wt X c σ H Q) : Wi X [c] σ H Q := ⟨fun pins s I => (pts_one ptW).run pins s σ H Q I h⟩
/-- in whatever block of this scope -/
def Bi (X : Cx) (scope : Scope) (ifs : List Expr) : TT := fun σ H Q => ∀ (s : Shared) (H0 : Hp) (C : Addr) (cl : List (Str × Addr)) (fp : List Addr), Wi (X.blk s H0 scope (compEnvC scope cl C X.env) fp) ifs σ H Q
def Be (X : Cx) (scope : Scope) (e : Expr) : TE := fun σ H Q => ∀ (s : Shared) (H0 : Hp) (C : Addr) (cl : List (Str × Addr)) (fp : List Addr), We (X.blk s H0 scope (compEnvC scope cl C X.env) fp) e σ H Q
section
variable {X : Cx} {elt tg iter : Expr} {ifs : List Expr} {scope : Scope} {pos spos py px : Pos} {wi : TI} {g : TG} {σ : L2.St} {H : Hp} {Q : VK} {D : Ends}
theorem w_lc (own : List (Str × Nat)) (hN : X.N.Nodup) (hi : PI X tg iter wi) (hg : ∀ (s : Shared) (H : Hp) (C : Addr) (cl : List (Str × Addr)) (fp : List Addr), PG (X.blk s H scope (compEnvC scope cl C X.env) fp) tg g)
    (h : tLc wi g (Bi X scope ifs) (Be X scope elt) (own.map (·.2)) σ H Q) (ok : BlkOk X.N X.env.scope scope own := by exact blkOk_by (by kernel_rfl)) (hc : X.calm = true := by rfl) (hs : ∀ x, foldedSetIterable iter X.env x = pure x := by intro _; rfl) :
    We X (.ListComp elt [⟨tg, iter, ifs, 0⟩] scope pos) σ H Q :=
  we_of (pe_lc hc hN hi ok hg (fun s H0 C cl fp => ⟨fun pins s1 σ1 H1 Q1 I z => (z s H0 C cl fp).run pins s1 I⟩) (fun s H0 C cl fp => ⟨fun pins s1 σ1 H1 Q1 I z => (z s H0 C cl fp).run pins s1 I⟩) hs) h
theorem s_setLc (i : Nat) {y : Str} (own : List (Str × Nat)) (hN : X.N.Nodup) (hi : PI X tg iter wi) (hg : ∀ (s : Shared) (H : Hp) (C : Addr) (cl : List (Str × Addr)) (fp : List Addr), PG (X.blk s H scope (compEnvC scope cl C X.env) fp) tg g)
    (h : tLc wi g (Bi X scope ifs) (Be X scope elt) (own.map (·.2)) σ H (fun x H1 => D.nx (σ.set i (some x)) H1)) (ok : BlkOk X.N X.env.scope scope own := by exact blkOk_by (by kernel_rfl)) (hy : X.N[i]? = some y := by rfl) (hyl : X.env.scope.names.lookup y = some .local := by rfl)
    (hsw : swapsWith (.ListComp elt [⟨tg, iter, ifs, 0⟩] scope pos) (some (.Name y py)) spos.line X.env = pure true := by rfl) (hc : X.calm = true := by rfl) (hs : ∀ x, foldedSetIterable iter X.env x = pure x := by intro _; rfl) :
    Ws X (.Assign [.Name y py] (.ListComp elt [⟨tg, iter, ifs, 0⟩] scope pos) spos) D σ H :=
  ws_of (ps_setLc hc hN hy hyl hsw hi ok hg (fun s H0 C cl fp => ⟨fun pins s1 σ1 H1 Q1 I z => (z s H0 C cl fp).run pins s1 I⟩) (fun s H0 C cl fp => ⟨fun pins s1 σ1 H1 Q1 I z => (z s H0 C cl fp).run pins s1 I⟩) hs) h
end
theorem wipe1 (σ : L2.St) (j : Nat) (x : V) : wipe ((wipe σ [j]).set j (some x)) [j] = wipe σ [j] := by
  show ((σ.set j none).set j (some x)).set j none = σ.set j none
  rw [List.set_set, List.set_set]
section
variable {X : Cx} {elt e : Expr} {ifs : List Expr} {scope : Scope} {pos spos py px : Pos} {σ : L2.St} {H : Hp} {Q : VK} {D : Ends} {x : Str}
/-- one turn: x the item, D the list that grows -/
def Turn (X : Cx) (scope : Scope) (elt : Expr) (ifs : List Expr) (j : Nat) (σ : L2.St) (L : Addr) (x : V) (H : Hp) (Nx : Hp → Prop) : Prop :=
  Bi X scope ifs ((wipe σ [j]).set j (some x)) H fun b H3 => if b = true then Be X scope elt ((wipe σ [j]).set j (some x)) H3 fun y H4 => ∃ acc, H4 L = some (.lst acc) ∧ acc.length < sizeLine ∧ Nx (upd H4 L (.lst (acc ++ [y]))) else Nx H3
/-- the loop over a list -/
def LoopL (X : Cx) (scope : Scope) (elt : Expr) (ifs : List Expr) (j : Nat) (σ : L2.St) (v : V) (H1 : Hp) (Q : VK) : Prop := ∃ (l : Addr) (xs : List V), v = .ref l ∧ SqL X.K H1 l xs ∧ ∀ L, H1 L = none → ∃ Pv : Nat → Hp → Prop, Pv 0 (upd H1 L (.lst [])) ∧
  (∀ i H', i ≤ xs.length → Pv i H' → SqL X.K H' l xs) ∧ (∀ i y H', xs[i]? = some y → Pv i H' → Turn X scope elt ifs j σ L y H' (Pv (i + 1))) ∧ ∀ H', Pv xs.length H' → Q (.ref L) H'
theorem loopL_ok {j : Nat} (h : We X e σ H fun v H1 => LoopL X scope elt ifs j σ v H1 Q) : ∃ wi, PI X (.Name x px) e wi ∧ tLc wi (gName j) (Bi X scope ifs) (Be X scope elt) [j] σ H Q := by
  refine ⟨_, pi_list peW, ?_⟩
  refine We.mono h fun v H1 z => ?_
  obtain ⟨l, xs, rfl, hl, z⟩ := z
  refine ⟨l, rfl, ⟨xs, hl⟩, fun L hL => ?_⟩
  obtain ⟨Pv, p0, p1, p2, p3⟩ := z L hL
  exact lc_list (K := X.K) (a := l) (xs := xs) Pv p0 p1 (fun i y H' hi hp => ⟨wipe1 σ j y, p2 i y H' hi hp⟩) p3
/-- [elt for x in e if ..], e a list -/
theorem w_lcl (j : Nat) (hN : X.N.Nodup) (h : We X e σ H fun v H1 => LoopL X scope elt ifs j σ v H1 Q) (hj : X.N[j]? = some x := by rfl) (hx : ∀ (cl : List (Str × Addr)) (C : Addr), Loc (compEnvC scope cl C X.env).scope x := by intro _ _; first | exact Or.inl rfl | exact Or.inr rfl)
    (hf : (scope.names.lookup x == some .cell) = true ∨ ∀ (cl : List (Str × Addr)) (C : Addr), (compEnvC scope cl C X.env).scope.names.lookup x = some .local := by first | exact .inl rfl | exact .inr (fun _ _ => rfl))
    (ok : BlkOk X.N X.env.scope scope [(x, j)] := by exact blkOk_by (by kernel_rfl)) (hc : X.calm = true := by rfl) (hs : ∀ z, foldedSetIterable e X.env z = pure z := by intro _; rfl) :
    We X (.ListComp elt [⟨.Name x px, e, ifs, 0⟩] scope pos) σ H Q := by
  obtain ⟨wi, hi, z⟩ := loopL_ok (x := x) (px := px) h
  exact w_lc [(x, j)] hN hi (fun s H0 C cl fp => pg_name (X := X.blk s H0 scope (compEnvC scope cl C X.env) fp) (i := j) hN hj (hx cl C) (hf.imp id fun q => q cl C)) z ok hc hs
theorem s_lcl (i j : Nat) {y : Str} (hN : X.N.Nodup) (h : We X e σ H fun v H1 => LoopL X scope elt ifs j σ v H1 (fun x H1 => D.nx (σ.set i (some x)) H1)) (hj : X.N[j]? = some x := by rfl) (hx : ∀ (cl : List (Str × Addr)) (C : Addr), Loc (compEnvC scope cl C X.env).scope x := by intro _ _; first | exact Or.inl rfl | exact Or.inr rfl)
    (hf : (scope.names.lookup x == some .cell) = true ∨ ∀ (cl : List (Str × Addr)) (C : Addr), (compEnvC scope cl C X.env).scope.names.lookup x = some .local := by first | exact .inl rfl | exact .inr (fun _ _ => rfl))
    (ok : BlkOk X.N X.env.scope scope [(x, j)] := by exact blkOk_by (by kernel_rfl)) (hy : X.N[i]? = some y := by rfl) (hyl : X.env.scope.names.lookup y = some .local := by rfl)
    (hsw : swapsWith (.ListComp elt [⟨.Name x px, e, ifs, 0⟩] scope pos) (some (.Name y py)) spos.line X.env = pure true := by rfl) (hc : X.calm = true := by rfl) (hs : ∀ z, foldedSetIterable e X.env z = pure z := by intro _; rfl) :
    Ws X (.Assign [.Name y py] (.ListComp elt [⟨.Name x px, e, ifs, 0⟩] scope pos) spos) D σ H := by
  obtain ⟨wi, hi, z⟩ := loopL_ok (x := x) (px := px) h
  exact s_setLc i [(x, j)] hN hi (fun s H0 C cl fp => pg_name (X := X.blk s H0 scope (compEnvC scope cl C X.env) fp) (i := j) hN hj (hx cl C) (hf.imp id fun q => q cl C)) z ok hy hyl hsw hc hs
/-- the loop over range(n) -/
def LoopR (X : Cx) (scope : Scope) (elt : Expr) (ifs : List Expr) (j : Nat) (σ : L2.St) (v : V) (H1 : Hp) (Q : VK) : Prop := ∃ n : Nat, v = .int (n : Int) ∧ n < 1000000 ∧ ∀ L, H1 L = none → ∃ Pv : Nat → Hp → Prop, Pv 0 (upd H1 L (.lst [])) ∧
  (∀ i H', i < n → Pv i H' → Turn X scope elt ifs j σ L (.int (i : Int)) H' (Pv (i + 1))) ∧ ∀ H', Pv n H' → Q (.ref L) H'
theorem loopR_ok {j : Nat} {pr pc : Pos} (hm : X.mg "range" = none) (h : We X e σ H fun v H1 => LoopR X scope elt ifs j σ v H1 Q) (hg : Gl X "range") (he : starEach [e] X.env = (false, eval e X.env) :: starEach [] X.env) :
    ∃ wi, PI X (.Name x px) (.Call (.Name "range" pr) [e] [] pc) wi ∧ tLc wi (gName j) (Bi X scope ifs) (Be X scope elt) [j] σ H Q := by
  refine ⟨_, pi_range1 hg hm paW he, ?_⟩
  refine a_cons (We.mono h fun v H1 z => ?_) he
  obtain ⟨n, rfl, hn, z⟩ := z
  refine a_nil ⟨(n : Int), rfl, by omega, by omega, fun L hL => ?_⟩
  obtain ⟨Pv, p0, p2, p3⟩ := z L hL
  refine lc_range (lo := 0) (n := n) Pv p0 (fun i H' hi hp => ?_) p3
  have zz := p2 i H' hi hp
  have e0 : (0 : Int) + (i : Int) = (i : Int) := Int.zero_add _
  rw [e0]
  exact ⟨wipe1 σ j _, zz⟩
theorem w_lcr (j : Nat) {pr pc : Pos} (hN : X.N.Nodup) (hm : X.mg "range" = none) (h : We X e σ H fun v H1 => LoopR X scope elt ifs j σ v H1 Q) (hg : Gl X "range" := by rfl) (he : starEach [e] X.env = (false, eval e X.env) :: starEach [] X.env := by rfl)
    (hj : X.N[j]? = some x := by rfl) (hx : ∀ (cl : List (Str × Addr)) (C : Addr), Loc (compEnvC scope cl C X.env).scope x := by intro _ _; first | exact Or.inl rfl | exact Or.inr rfl)
    (hf : (scope.names.lookup x == some .cell) = true ∨ ∀ (cl : List (Str × Addr)) (C : Addr), (compEnvC scope cl C X.env).scope.names.lookup x = some .local := by first | exact .inl rfl | exact .inr (fun _ _ => rfl))
    (ok : BlkOk X.N X.env.scope scope [(x, j)] := by exact blkOk_by (by kernel_rfl)) (hc : X.calm = true := by rfl) (hs : ∀ z, foldedSetIterable (.Call (.Name "range" pr) [e] [] pc) X.env z = pure z := by intro _; rfl) :
    We X (.ListComp elt [⟨.Name x px, .Call (.Name "range" pr) [e] [] pc, ifs, 0⟩] scope pos) σ H Q := by
  obtain ⟨wi, hi, z⟩ := loopR_ok (x := x) (px := px) (pr := pr) (pc := pc) hm h hg he
  exact w_lc [(x, j)] hN hi (fun s H0 C cl fp => pg_name (X := X.blk s H0 scope (compEnvC scope cl C X.env) fp) (i := j) hN hj (hx cl C) (hf.imp id fun q => q cl C)) z ok hc hs
theorem s_lcr (i j : Nat) {y : Str} {pr pc : Pos} (hN : X.N.Nodup) (hm : X.mg "range" = none) (h : We X e σ H fun v H1 => LoopR X scope elt ifs j σ v H1 (fun x H1 => D.nx (σ.set i (some x)) H1)) (hg : Gl X "range" := by rfl) (he : starEach [e] X.env = (false, eval e X.env) :: starEach [] X.env := by rfl)
    (hj : X.N[j]? = some x := by rfl) (hx : ∀ (cl : List (Str × Addr)) (C : Addr), Loc (compEnvC scope cl C X.env).scope x := by intro _ _; first | exact Or.inl rfl | exact Or.inr rfl)
    (hf : (scope.names.lookup x == some .cell) = true ∨ ∀ (cl : List (Str × Addr)) (C : Addr), (compEnvC scope cl C X.env).scope.names.lookup x = some .local := by first | exact .inl rfl | exact .inr (fun _ _ => rfl))
    (ok : BlkOk X.N X.env.scope scope [(x, j)] := by exact blkOk_by (by kernel_rfl)) (hy : X.N[i]? = some y := by rfl) (hyl : X.env.scope.names.lookup y = some .local := by rfl)
    (hsw : swapsWith (.ListComp elt [⟨.Name x px, .Call (.Name "range" pr) [e] [] pc, ifs, 0⟩] scope pos) (some (.Name y py)) spos.line X.env = pure true := by rfl) (hc : X.calm = true := by rfl) (hs : ∀ z, foldedSetIterable (.Call (.Name "range" pr) [e] [] pc) X.env z = pure z := by intro _; rfl) :
    Ws X (.Assign [.Name y py] (.ListComp elt [⟨.Name x px, .Call (.Name "range" pr) [e] [] pc, ifs, 0⟩] scope pos) spos) D σ H := by
  obtain ⟨wi, hi, z⟩ := loopR_ok (x := x) (px := px) (pr := pr) (pc := pc) hm h hg he
  exact s_setLc i [(x, j)] hN hi (fun s H0 C cl fp => pg_name (X := X.blk s H0 scope (compEnvC scope cl C X.env) fp) (i := j) hN hj (hx cl C) (hf.imp id fun q => q cl C)) z ok hy hyl hsw hc hs
end
end PR
namespace PR
open PySem PySem.Spec PyProof.Rows L2
/-- the law's promise at the heap that the top has left, where it needs that nothing is being shown -/
theorem law_callG {P : Program} {w : World} {K : PySem.W.Frag} {mg mb : Str → Option Value} {k : Nat} {fa a : Addr} {sp : Sp} {s₁ : Shared} {vs : List Value} {ns : List Int}
    (KI : K.In s₁.heap) (ng : s₁.heap.Ns mainGlobals mg) (nb : s₁.heap.Ns builtinsNs mb) (bb : ∀ x : Str, x ≠ "__name__" → mb x = bootBuiltins x) (nl : s₁.heap.NoLimit) (ge : s₁.gens = #[])
    (at_ : s₁.heap.get? a = some { cls := .type "list", data := .seq vs.toArray }) (isI : IntsAre vs ns) (short : ns.length ≤ sizeLine) (room : Room k callerA)
    (F : ∀ base : Heap, K.In base → base.Ns mainGlobals mg → FnG P w K mg base (L2.CX P w) k fa sp)
    (want : ∀ H : Hp, Only H → SqL K H a (ns.map V.int) → sp [.ref a] H (fun v _ => v = .bl true) fun _ _ _ => False) :
    codeAny (model P w) callerA (.call (.ref fa) ⟨[.ref a], []⟩) (fun r s' => r = .ok (.ret (.bool true)) ∧ OldK s₁.heap s'.heap ∧ s'.os = s₁.os ∧ AllBare s'.gens) s₁ := by
  have go : ∀ H : Hp, Only H → SqL K H a (ns.map V.int) → HOk P w H s₁.heap → (∀ b, H b ≠ none → b = a) → (H a ≠ none → K.lookup a = none) →
      codeAny (model P w) callerA (.call (.ref fa) ⟨[.ref a], []⟩) (fun r s' => r = .ok (.ret (.bool true)) ∧ OldK s₁.heap s'.heap ∧ s'.os = s₁.os ∧ AllBare s'.gens) s₁ := by
    intro H only seq hok one lone
    have free_or : ∀ b, H b = none ∨ b = a := fun b => by
      by_cases z : H b = none
      · exact .inl z
      · exact .inr (one b z)
    have dict_free : ∀ {b : Addr} {o : Obj} {es : Array DictEntry} {ep : Nat}, s₁.heap.get? b = some o → o.data = .dict es ep → H b = none := by
      intro b o es ep e1 e2
      rcases free_or b with z | rfl
      · exact z
      · rw [at_] at e1
        cases e1
        exact nomatch (show Data.seq vs.toArray _ = Data.dict es ep from e2)
    have moved : ∀ {b : Addr} {m : Str → Option Value}, s₁.heap.Ns b m → (hidT s₁.heap H).Ns b m := by
      rintro b m ⟨o, es, ep, e1, e2, r⟩
      exact ⟨o, es, ep, hidT_get e1 (dict_free e1 e2), e2, r⟩
    have KB : K.In (hidT s₁.heap H) := by
      intro b o e
      refine hidT_get (KI b o e) ?_
      by_cases z : H b = none
      · exact z
      · have eb := one b z
        subst eb
        rw [lone z] at e
        cases e
    have mod : Mod K mg (hidT s₁.heap H) := ⟨KB, moved ng, ⟨mb, moved nb, bb⟩, let ⟨mc, g1, g2⟩ := nl; ⟨mc, moved g1, g2⟩⟩
    have E0' : Env0 P w K mg (hidT s₁.heap H) callerA [] s₁ H := ⟨rfl, mod, fun _ _ z => of_hidT z, Nat.le_of_eq (hidT_size _ _), trivial, fun _ z => (nomatch (show _ ∈ ([] : List Addr) from z)), hok, .of_eq ge⟩
    refine codeAny_mono (F _ KB (moved ng) callerA [] s₁ H [.ref a] [.ref a] _ _ rfl room E0' (.cons rfl .nil) (want H only seq)) fun r s2 z => ?_
    match r, z with
    | .error e, ⟨_, _, _, _, _, _, _, _, _, _, _, _, z⟩ => exact False.elim z
    | .ok .next, z => exact False.elim z
    | .ok .brk, z => exact False.elim z
    | .ok .cont, z => exact False.elim z
    | .ok (.ret u), ⟨v, H', g1, g2, g3, g4, g5, g6⟩ =>
      have g6 : v = .bl true := g6
      subst g6
      have g5 : u = Value.bool true := g5
      subst g5
      refine ⟨rfl, OldK.of_keep fun b o e => ?_, g1, g2⟩
      rcases only b with z | ⟨ob, xs, z⟩
      · exact g3.keep b o e z (fun y => nomatch (show b ∈ ([] : List Addr) from y)) (by simp)
      · have y := g3.frzs b ob _ z
        have y1 := (hok b _ z).1
        have y2 := (g4 b _ y).1
        rw [e] at y1
        cases y1
        exact y2
  have rel := vals_ints isI
  have ll := isI.length
  by_cases hk : K.lookup a = none
  · refine go (fun b => if b = a then some (.frz { cls := .type "list", data := .seq vs.toArray } (.lst (ns.map V.int))) else none) (fun b => ?_) (.inl (.inr ⟨_, if_pos rfl⟩)) (fun b u z => ?_) (fun b z => ?_) fun _ => hk
    · by_cases hb : b = a
      · exact .inr ⟨_, _, if_pos hb⟩
      · exact .inl (if_neg hb)
    · by_cases hb : b = a
      · have y := (if_pos hb).symm.trans z
        cases y
        subst hb
        exact ⟨at_, by rw [List.length_map]; exact short, vs, _, rel, at_⟩
      · exact nomatch (if_neg hb).symm.trans z
    · exact Decidable.byContradiction fun hb => z (if_neg hb)
  · obtain ⟨o, ho⟩ := Option.ne_none_iff_exists'.mp hk
    have e := KI a o ho
    rw [at_] at e
    cases e
    exact go (fun _ => none) (fun _ => .inl rfl) (.inr ⟨_, vs.toArray, _, ho, rfl, rfl, rfl, by rw [List.size_toArray, ll]; exact short, by simpa using rel⟩) (fun _ u z => nomatch (show (none : Option HO) = some u from z)) (fun _ z => absurd rfl z) fun z => absurd rfl z
/-- a law's end -/
theorem walk_ofG {l : PySem.W.OpenLaw} {n k : Nat} {q : Program} {loose : List Str} {XP : (Str → Option Value) → Heap → Prop} {YP : World → Heap → Prop} {d : DefRec} (hn : l.most = some n) (hn2 : n ≤ sizeLine) (hdf : d.params.defaults = []) (room : Room k callerA)
    (F : ∀ (w : World) (mg : Str → Option Value) (fa : Addr) (h : Heap), YP w h → h.Ns mainGlobals mg → mg d.name = some (.ref fa) →
      ∃ (K : PySem.W.Frag) (sp : Sp), K.In h ∧ (∀ (H : Hp) (a : Addr) (ns : List Int), ns.length ≤ n → Only H → SqL K H a (ns.map V.int) → sp [.ref a] H (fun v _ => v = .bl true) fun _ _ _ => False) ∧
        ∀ base : Heap, K.In base → base.Ns mainGlobals mg → FnG l.prog w K mg base (L2.CX l.prog w) k fa sp) :
    PySem.W.WalkO q loose XP YP l.row.toRowW d [] (fun f vs => PySem.call f vs) := by
  refine Att.attach_call hn hdf fun w s₀ s₁ mg mb fa o pm cd doc a vs ns G Y ho hd hcd hmg hobj hints hlen hg => ?_
  obtain ⟨K, sp, KI, want, FF⟩ := F w mg fa _ Y G.T.g hmg
  exact law_callG KI G.T.g G.T.b G.T.builtins G.T.nolimit hg hobj hints (Nat.le_trans hlen hn2) room FF fun H hO hS => want H a ns hlen hO hS
end PR
namespace PR
open PySem PySem.Spec PyProof.Rows L2
/-! ### slices, chains, texts -/
section
variable {X : Cx} {e a b c : Expr} {σ : L2.St} {H : Hp} {Q : VK} {Qb : Bool → Hp → Prop} {pos p2 : Pos} {r : V → Option Int → Option Int → Hp → VK → Prop}
theorem w_slF (hr : SlR X r) (h : We X e σ H fun x H1 => We X c σ H1 fun y H2 => ∃ i, y = .int i ∧ r x (some i) none H2 Q) : We X (.Subscript e (.Slice (some c) none none p2) pos) σ H Q := we_of (pe_slice hr peW (po_some peW) po_none) h
theorem w_slT (hr : SlR X r) (h : We X e σ H fun x H1 => We X c σ H1 fun y H2 => ∃ i, y = .int i ∧ r x none (some i) H2 Q) : We X (.Subscript e (.Slice none (some c) none p2) pos) σ H Q := we_of (pe_slice hr peW po_none (po_some peW)) h
theorem w_chain {op op' : CmpOp} {r r' : R2} (ho : OpR X (compareOp op) r) (ho' : OpR X (compareOp op') r') (h : We X a σ H fun x H1 => We X b σ H1 fun y H2 => r x y H2 fun z H3 => ∃ k, z = .bl k ∧ (if k = true then We X c σ H3 fun w' H4 => r' y w' H4 Q else Q (.bl false) H3))
    (hm : lastMarks [op, op'] [b, c] = false := by with_unfolding_all rfl) : We X (.Compare a [op, op'] [b, c] pos) σ H Q := we_of (pe_chain ho ho' peW peW peW hm) h
theorem t_chain {op op' : CmpOp} {r r' : R2} (ho : OpR X (compareOp op) r) (ho' : OpR X (compareOp op') r') (h : We X a σ H fun x H1 => We X b σ H1 fun y H2 => r x y H2 fun z H3 => ∃ k, z = .bl k ∧ (if k = true then We X c σ H3 fun w' H4 => r' y w' H4 fun z H5 => ∃ k, z = .bl k ∧ Qb k H5 else ∃ k, V.bl false = .bl k ∧ Qb k H3))
    (hm : lastMarks [op, op'] [b, c] = false := by with_unfolding_all rfl) : Wt X (.Compare a [op, op'] [b, c] pos) σ H Qb := wt_of (pt_chain ho ho' peW peW peW hm) h
theorem w_split {apos : Pos} (h : We X e σ H fun x H1 => ∃ s, x = .str s ∧ We X c σ H1 fun y H2 => ∃ d, y = .str d ∧ (d.length == 0) = false ∧ s.length + 2 ≤ sizeLine ∧ rNewStrs (Txt.split s d) H2 Q)
    (hs : starEach [c] X.env = [(false, eval c X.env)] := by rfl) (hbase : attributeBase e "split" X.env (eval e X.env) = eval e X.env := by rfl) (hline : (apos.endLine == pos.line) = true := by rfl) : We X (.Call (.Attribute e "split" apos) [c] [] pos) σ H Q :=
  we_of (pe_split peW peW hs hbase hline) (We.mono h fun x H1 ⟨s, ex, z⟩ => ⟨⟨s, ex⟩, We.mono z fun y H2 ⟨d, ed, h1, h2, h3⟩ => ⟨s, d, ex, by rw [ed], h1, h2, h3⟩⟩)
theorem w_fmt (h : We X e σ H fun x H1 => (∃ y : Str, x = .str y ∧ y.length ≤ sizeLine ∧ Q (.str y) H1) ∨ ∃ i : Int, x = .int i ∧ i.natAbs.log2 < 1920 ∧ Q (.str (toString i)) H1) : We X (.FormattedValue e (-1) none pos) σ H Q := we_of (pe_fmt peW) h
end
/-! ### comprehensions over a text -/
section
variable {X : Cx} {elt e : Expr} {ifs : List Expr} {scope : Scope} {pos spos py px : Pos} {σ : L2.St} {H : Hp} {Q : VK} {D : Ends} {x : Str}
def LoopS (X : Cx) (scope : Scope) (elt : Expr) (ifs : List Expr) (j : Nat) (σ : L2.St) (v : V) (H1 : Hp) (Q : VK) : Prop := ∃ s : Str, v = .str s ∧ ∀ L, H1 L = none → ∃ Pv : Nat → Hp → Prop, Pv 0 (upd H1 L (.lst [])) ∧
  (∀ i c H', (TL.tl s)[i]? = some c → Pv i H' → Turn X scope elt ifs j σ L (.str ⟨#[c]⟩) H' (Pv (i + 1))) ∧ ∀ H', Pv (TL.tl s).length H' → Q (.ref L) H'
theorem walk_its (s : Str) : Walk (Its s) (TL.tl s).length (fun _ => True) (fun i H v H' => H' = H ∧ ∃ c, (TL.tl s)[i]? = some c ∧ v = .str ⟨#[c]⟩) := by
  have e : (TL.tl s).length = s.cps.size := by simp [TL.tl]
  refine ⟨fun i _ hi _ => by show i < s.cps.size; omega, fun _ _ => by show s.cps.size ≤ _; omega, fun i H v H' _ _ y => ?_⟩
  obtain ⟨e1, c, e2, e3⟩ := y
  exact ⟨e1, c, by rw [← e2]; simp [TL.tl], e3⟩
theorem loopS_ok {j : Nat} (h : We X e σ H fun v H1 => LoopS X scope elt ifs j σ v H1 Q) : ∃ wi, PI X (.Name x px) e wi ∧ tLc wi (gName j) (Bi X scope ifs) (Be X scope elt) [j] σ H Q := by
  refine ⟨_, pi_str peW, ?_⟩
  refine We.mono h fun v H1 z => ?_
  obtain ⟨s, rfl, z⟩ := z
  refine ⟨s, rfl, fun L hL => ?_⟩
  obtain ⟨Pv, p0, p2, p3⟩ := z L hL
  refine lc_it (walk_its s) Pv p0 (fun _ _ _ _ => trivial) (fun i y H0 H' hi hp hy => ?_) p3
  obtain ⟨rfl, c, hc, rfl⟩ := hy
  exact ⟨wipe1 σ j _, p2 i c _ hc hp⟩
theorem w_lcs (j : Nat) (hN : X.N.Nodup) (h : We X e σ H fun v H1 => LoopS X scope elt ifs j σ v H1 Q) (hj : X.N[j]? = some x := by rfl) (hx : ∀ (cl : List (Str × Addr)) (C : Addr), Loc (compEnvC scope cl C X.env).scope x := by intro _ _; first | exact Or.inl rfl | exact Or.inr rfl)
    (hf : (scope.names.lookup x == some .cell) = true ∨ ∀ (cl : List (Str × Addr)) (C : Addr), (compEnvC scope cl C X.env).scope.names.lookup x = some .local := by first | exact .inl rfl | exact .inr (fun _ _ => rfl))
    (ok : BlkOk X.N X.env.scope scope [(x, j)] := by exact blkOk_by (by kernel_rfl)) (hc : X.calm = true := by rfl) (hs : ∀ z, foldedSetIterable e X.env z = pure z := by intro _; rfl) :
    We X (.ListComp elt [⟨.Name x px, e, ifs, 0⟩] scope pos) σ H Q := by
  obtain ⟨wi, hi, z⟩ := loopS_ok (x := x) (px := px) h
  exact w_lc [(x, j)] hN hi (fun s H0 C cl fp => pg_name (X := X.blk s H0 scope (compEnvC scope cl C X.env) fp) (i := j) hN hj (hx cl C) (hf.imp id fun q => q cl C)) z ok hc hs
end
/-! ### classmethods -/
section
variable {X : Cx} {CX : CXT} {k : Nat} {C p g : Addr} {mc : Value} {sp : Sp} {E : XK} {o e : Expr} {es : List Expr} {m : Str} {pos apos : Pos} {σ : L2.St} {H : Hp} {Q : VK}
theorem run_cmA {pins : List (Addr × Obj)} {s : Shared} {q : Addr} {us : List Value} {vs : List V} (F : FnR X.prog X.w X.K X.mg X.base CX k g sp) (hr : Room k X.A) (hx : PassAt CX X σ E) (I : Inv X ((q, PySem.W.methodObj (.ref g) (.ref C)) :: pins) σ H s) (r : Vals vs us) (h : sp (.ref C :: vs) H Q E) :
    wpAny (model X.prog X.w) X.A (call (.ref q) us) (EP X pins σ Q) X.xe s := by
  have z : wpAny (model X.prog X.w) X.A (call (.ref q) us) (EP X ((q, PySem.W.methodObj (.ref g) (.ref C)) :: pins) σ Q) X.xe s :=
    wpAny_call (PySem.W.method_call (ClX.pin_at I) (run_fnA (us := .ref C :: us) (vs := .ref C :: vs) F hr hx I (.cons rfl r) h))
  exact thn z fun _ _ y => ClX.unpinE y
theorem w_cmethA {pl : Sem Bool} (r : ClX.CRead X.K C mc) (c : ClX.CMet X.K C mc m p g) (F : FnR X.prog X.w X.K X.mg X.base CX k g sp) (hr : Room k X.A) (hx : PassAt CX X σ E)
    (h : We X o σ H fun x H1 => x = .ref C ∧ Wa X (e :: es) σ H1 fun vs H2 => sp (.ref C :: vs) H2 Q E)
    (hst : starEach (e :: es) X.env = (false, eval e X.env) :: starEach es X.env := by rfl) (hpl : (backTo pos (starEach es X.env)).any (·.1) = false := by rfl)
    (ht : eval (.Call (.Attribute o m apos) (e :: es) [] pos) X.env = (do
      let ov ← eval o X.env
      standAt apos.atName
      let (f, first) ← holding [ov] (getMethod ov m pl)
      callWith pos f first (backTo pos (starEach (e :: es) X.env)) (backToKw pos (keywordEach [] X.env))) := by rfl) :
    We X (.Call (.Attribute o m apos) (e :: es) [] pos) σ H Q := by
  refine ⟨fun pins s I => ?_⟩
  refine PySem.W.methodCall_KW (pl := pl) (thn (h.run pins s I) fun u s1 ⟨x, H1, I1, rx, ex, q⟩ => ?_) ht
  subst ex
  obtain rfl : u = Value.ref C := rx
  refine ClX.getmethcm_ok I1 r c fun s2 I2 => ?_
  refine ClX.callwith_cm I2 (ClX.base_none I1 (Nat.le_refl _)) c.fi (thn (q.run pos _ s2 I2) fun us s3 ⟨vs, H2, I3, rv, q2⟩ => ⟨⟨ClX.pin_at I3, I3.kIn⟩, ?_⟩) hst hpl
  exact run_cmA F hr hx I3 rv q2
/-- o.m(k = v, ..), o a class, m a classmethod -/
theorem w_cmethQ {pl : Sem Bool} {ks : List Str} {kws : List Keyword} {sq : List V → List V → Hp → VK → XK → Prop} (r : ClX.CRead X.K C mc) (c : ClX.CMet X.K C mc m p g) (F : FnQ X.prog X.w X.K X.mg X.base CX k g 1 ks sq) (hr : Room k X.A) (hx : PassAt CX X σ E)
    (h : We X o σ H fun x H1 => x = .ref C ∧ Wk X kws σ H1 fun zs H2 => zs.length = ks.length ∧ sq [.ref C] zs H2 Q E)
    (hall : (backToKw pos (keywordEach kws X.env)).all (·.1.isSome) = true := by rfl) (hks : (backToKw pos (keywordEach kws X.env)).filterMap (·.1) = ks := by rfl)
    (hpl : ((backTo pos (starEach [] X.env)).any (·.1) || (backToKw pos (keywordEach kws X.env)).any (·.1.isNone)) = false := by rfl)
    (ht : eval (.Call (.Attribute o m apos) [] kws pos) X.env = (do
      let ov ← eval o X.env
      standAt apos.atName
      let (f, first) ← holding [ov] (getMethod ov m pl)
      callWith pos f first (backTo pos (starEach [] X.env)) (backToKw pos (keywordEach kws X.env))) := by rfl) :
    We X (.Call (.Attribute o m apos) [] kws pos) σ H Q := by
  refine ⟨fun pins s I => ?_⟩
  refine PySem.W.methodCall_KW (pl := pl) (thn (h.run pins s I) fun u s1 ⟨x, H1, I1, rx, ex, q⟩ => ?_) ht
  subst ex
  obtain rfl : u = Value.ref C := rx
  refine ClX.getmethcm_ok I1 r c fun s2 I2 => ?_
  refine PySem.W.callWith_of hpl (PySem.W.keeps_M c.fi) (evalArgs_kw2_nil hall (thn (q.run pos _ s2 I2) fun ws s3 ⟨zs, H2, I3, rz, l2, q2⟩ => ⟨⟨ClX.pin_at I3, I3.kIn⟩, ?_⟩))
  rw [hks]
  have zz : wpAny (model X.prog X.w) X.A (call (.ref s1.heap.objs.size) [] (ks.zip ws)) (EP X ((s1.heap.objs.size, PySem.W.methodObj (.ref g) (.ref C)) :: pins) σ Q) X.xe s3 :=
    wpAny_call (PySem.W.method_call (ClX.pin_at I3) (codeAny_mono (F X.A X.stack s3 H2 [.ref C] ws [.ref C] zs Q E hr I3.env0 (.cons rfl .nil) rz rfl l2 q2) fun r s' z => by
      match r, z with
      | .error e, z => exact hx _ H2 s3 e s' I3 z
      | .ok (.ret u), z => exact I3.after z
      | .ok .next, z => exact z
      | .ok .brk, z => exact z
      | .ok .cont, z => exact z))
  exact thn zz fun _ _ y => ClX.unpinE y
/-- C(e, ..), C in a local name -/
theorem w_makeV (i : Nat) {x : Str} {f : Addr} {nm : Pos} (M : Mk X.K C f) (F : FnR X.prog X.w X.K X.mg X.base CX k f sp) (hr : Room (k + 1) X.A) (hx : PassAt CX X σ E) (hv : σ[i]? = some (some (.ref C)))
    (h : Wa X (e :: es) σ H fun vs H1 => ∀ x dx, H1 x = Option.none → H1 dx = Option.none → dx ≠ x → sp (V.ref x :: vs) (upd (upd H1 dx (.own x)) x (.ins C dx [])) (fun v H2 => v = .non ∧ Q (.ref x) H2) E)
    (hN : X.N[i]? = some x := by rfl) (hvis : Vis X.env.scope x := by first | exact Or.inl rfl | exact Or.inr (Or.inl rfl) | exact Or.inr (Or.inr rfl)) (hd : (x == ("__debug__" : Str)) = false := by decide) (hcd : (x == ("__classdict__" : Str)) = false := by decide)
    (he : starEach (e :: es) X.env = (false, eval e X.env) :: starEach es X.env := by rfl) (hpl : (backTo pos (starEach es X.env)).any (·.1) = false := by rfl) : We X (.Call (.Name x nm) (e :: es) [] pos) σ H Q := by
  refine ⟨fun pins s I => ?_⟩
  refine wpAny_Call_Name_kw (thn ((w_var (X := X) (pos := nm) (Q := fun v H1 => v = .ref C ∧ H1 = H) i hv ⟨rfl, rfl⟩ hN hvis hd hcd).run pins s I) fun u s0 ⟨v, H1, I0, r0, ev, eH⟩ => ?_)
  subst ev
  rw [eH] at I0
  obtain rfl : u = Value.ref C := r0
  refine PySem.W.callWith_K (h₀ := X.base) I0.ok.mod.kin M.kp (thn (h.run pos pins s0 I0) fun us s1 ⟨vs, H1, I1, r, q⟩ => ⟨I1.kIn, ?_⟩) he hpl
  have J := Inv.made (C := C) I1
  have z := q (s1.heap.objs.size + 1) s1.heap.objs.size (I1.hok.fresh (Nat.le_succ _)) (I1.hok.fresh (Nat.le_refl _)) (Nat.ne_of_lt (Nat.lt_succ_self _))
  have r2 : Vals (V.ref (s1.heap.objs.size + 1) :: vs) (Value.ref (s1.heap.objs.size + 1) :: us) := .cons rfl r
  refine wpAny_call (make_map (f := f) I1.kIn M.makes M.init (beq_iff_eq.mp M.fn) (codeAny_mono (F _ X.stack _ _ _ _ _ E (hr.make C us []) (J.env0.make C us []) r2 z) fun rr s' zz => ?_))
  match rr, zz with
  | .error e, zz => exact hx pins _ _ e s' J zz
  | .ok (.ret u), zz =>
    obtain ⟨v, H', I3, rv, ev, q3⟩ := J.after zz
    subst ev
    exact ⟨rv, ⟨V.ref (s1.heap.objs.size + 1), H', I3, rfl, q3⟩⟩
  | .ok .next, zz => exact zz
  | .ok .brk, zz => exact zz
  | .ok .cont, zz => exact zz
end
theorem Passes.at_ {CX : CXT} {X : Cx} {E : XK} (h : Passes CX X E) (σ : L2.St) : PassAt CX X σ E := fun pins H s e s' I c => h pins σ H s e s' I c
end PR
/-! Errors of the program's own as values: made by position, by name; their fields; isinstance. -/
namespace PX
open PySem PySem.Spec PySem.Calls PyProof.Rows PySem.W PySem.HandSPX
section
variable {M : Model} {A : Around} {E : Value → Shared → Prop} {h : Heap} {g : Array GenState} {d : Drawn} {t : Nat} {os : OsState} {nm q : Str} {C N : Addr} {bs bm bmB : List Value} {hdct : Bool} {sn : List Str} {sub : List Value} {ab : Bool} {col : Option Bool} {dd : Option Addr} {k0 k1 k2 k3 k5 : Option Value} {B newId initId : String}
theorem chkK (F : ExcBaseFacts B newId initId bmB) (ct : ∀ Z : String, bm.contains (.type Z) = bmB.contains (.type Z)) {nk : Str} {v : Value} {Q : Unit → Shared → Prop}
    (atC : h.get? C = some (excClassObj nm q C N bs bm hdct sn sub ab col dd k0 k1 k2 k3 k5 newId)) (fin : Q () ⟨h, g, d, t, os⟩) : wpAny M A (checkBuiltinCall newId ⟨[.ref C], [(nk, v)]⟩) Q E ⟨h, g, d, t, os⟩ := by
  have c1 : (Value.ref C :: bm).contains (.type B) = true := by rw [List.contains_cons, ct, F.hasB, Bool.or_true]
  have c2 := F.noStar
  simp only [F.newKind, F.newSplit, checkBuiltinCall, F.newRow]
  repeat (first | refine wpAny_loadPart_at atC ?_ | (refine wpAny_isSubtype_exc atC ?_; rw [c1]) | refine wpAny_staticBase_exc atC ?_ | refine wpAny_madeBy_exc atC ?_ | simp only [bne_self_eq_false, Bool.false_eq_true, if_false] | wp_step)
  exact fin
end
section
variable {prog : Program} {w : World} {A : Around} {E : Value → Shared → Prop} {R : Result → Shared → Prop} {h : Heap} {g : Array GenState} {d : Drawn} {t : Nat} {os : OsState} {nm q : Str} {C N : Addr} {bs bm bmB : List Value} {hdct : Bool} {sn : List Str} {sub : List Value} {ab : Bool} {col : Option Bool} {dd : Option Addr} {k0 k1 k2 k3 k5 : Option Value} {B newId initId : String}
theorem newK (F : ExcBaseFacts B newId initId bmB) (ct : ∀ Z : String, bm.contains (.type Z) = bmB.contains (.type Z)) {nk : Str} {v : Value} (atC : h.get? C = some (excClassObj nm q C N bs bm hdct sn sub ab col dd k0 k1 k2 k3 k5 newId))
    (fin : R (.ok (.ret (.ref (h.objs.size + 1)))) ⟨(h.push (kdv_tup [])).push (excO C h.objs.size), g, d, t, os⟩) : codeAny (model prog w) A (.builtin newId ⟨[.ref C], [(nk, v)]⟩) R ⟨h, g, d, t, os⟩ := by
  have e1 := F.ends
  have c1 : (Value.ref C :: bm).contains (.type B) = true := by rw [List.contains_cons, ct, F.hasB, Bool.or_true]
  have c2 : (Value.ref C :: bm).contains (.type "AttributeError") = false := by rw [List.contains_cons, ct, F.noAttr]; rfl
  have c3 : (Value.ref C :: bm).contains (.type "NameError") = false := by rw [List.contains_cons, ct, F.noName]; rfl
  refine codeAny_builtinAt F.entry ?_
  unfold Builtin.«BaseException.__new__»
  refine PySem.wpAt_bind (id ?_)
  show PySem.wpAt _ _ _ (stack >>= _) _ _ _
  refine PySem.wpAt_bind (PySem.wpAt_stack fun pp bl => PySem.wpAt_of_wpAny ?_)
  wp_walk
  refine PySem.wpAt_of_wpAny (id ?_)
  show wpAny _ _ _ _ _ _
  rw [F.owner]
  repeat (first | with_reducible refine wpAny_madeHere_exc F.canon atC ?_ | with_reducible refine wpAny_loadPart_at atC ?_ | (with_reducible refine wpAny_isSubtype_exc atC ?_; first | rw [c1] | rw [c2] | rw [c3]) | wp_step)
  show R _ _
  rw [Heap.size_push]
  exact fin
theorem typeK (F : ExcBaseFacts B newId initId bmB) (ct : ∀ Z : String, bm.contains (.type Z) = bmB.contains (.type Z)) {nk : Str} {v : Value} {fI : Addr} {Q : Fin → Shared → Prop} (atC : h.get? C = some (excClassObj nm q C N bs bm hdct sn sub ab col dd k0 k1 k2 k3 k5 newId))
    (li : W.Looks (model prog w) h (typeLookup (.ref C) "__init__") (some (.ref fI))) (lb : ∀ self, W.Looks (model prog w) h (bindSpecial (.ref fI) self) (.ref fI, [self]))
    (fin : codeAny (model prog w) A (.call (.ref fI) ⟨[.ref (h.objs.size + 1)], [(nk, v)]⟩) (fun r s' => match r with | .ok (.ret v) => v = .none ∧ Q (.done (.ret (.ref (h.objs.size + 1)))) s' | .ok _ => False | .error e => E e s') ⟨(h.push (kdv_tup [])).push (excO C h.objs.size), g, d, t, os⟩) :
    wpAny (model prog w) A (Builtin.«type.__call__» ⟨[.ref C], [(nk, v)]⟩) Q E ⟨h, g, d, t, os⟩ := by
  repeat (first | with_reducible refine wpAny_loadPart_at atC ?_ | with_reducible refine wpAny_madeBy_exc atC ?_ | wp_step)
  refine codeAny_call_builtin_code (Code.quiet_builtin _ F.quiet) (chkK F ct atC (newK F ct atC ?_))
  show wpAny _ _ _ _ _ _
  have kp : ∀ b o, h.get? b = some o → ((h.push (kdv_tup [])).push (excO C h.objs.size)).get? b = some o := fun b o z => Heap.get?_push_of_some _ (Heap.get?_push_of_some _ z)
  have atC2 := kp _ _ atC
  have atE : ((h.push (kdv_tup [])).push (excO C h.objs.size)).get? (h.objs.size + 1) = some (excO C h.objs.size) := by heap_get
  have cc : (Value.ref C :: bm).contains (.ref C) = true := by simp
  have li2 := li.keeps kp
  have lb2 := (lb (.ref (h.objs.size + 1))).keeps kp
  unfold isInstance
  repeat (first | with_reducible refine wpAny_loadPart_at atE ?_ | (with_reducible refine wpAny_isSubtype_exc atC2 ?_; rw [cc]) | wp_step)
  show wpAny _ _ (typeLookup (.ref C) _) _ _ _
  refine li2.at (wpAny_holding (wpAny_bind (lb2.at (wpAny_bind (wpAny_call (codeAny_mono fin fun r s' z => ?_))))))
  rcases r with e | (v | _ | _ | _) <;> first | exact z | exact z.elim | skip
  obtain ⟨rfl, z⟩ := z
  first
    | exact wpAny_pure (wpAny_pure z)
    | (wp_walk; exact z)
theorem chkT {M : Model} {nk : Str} {v : Value} {Q : Unit → Shared → Prop} (atC : h.get? C = some (excClassObj nm q C N bs bm hdct sn sub ab col dd k0 k1 k2 k3 k5 newId)) (fin : Q () ⟨h, g, d, t, os⟩) : wpAny M A (checkBuiltinCall "type.__call__" ⟨[.ref C], [(nk, v)]⟩) Q E ⟨h, g, d, t, os⟩ := by
  have f3 := tc_sub
  have ty : (⟨h, g, d, t, os⟩ : Shared).TypeIs (.ref C) "type" := ⟨_, atC, rfl⟩
  simp only [tc_kind, tc_split, checkBuiltinCall]
  repeat (any_goals (first | assumption | with_reducible refine wpAny_loadPart_at atC ?_ | with_reducible refine wpAny_onRaise ?_ | with_reducible refine wpAny_map ?_ | wp_step))
theorem callK (F : ExcBaseFacts B newId initId bmB) (ct : ∀ Z : String, bm.contains (.type Z) = bmB.contains (.type Z)) {nk : Str} {v : Value} {fI : Addr} (atC : h.get? C = some (excClassObj nm q C N bs bm hdct sn sub ab col dd k0 k1 k2 k3 k5 newId))
    (li : W.Looks (model prog w) h (typeLookup (.ref C) "__init__") (some (.ref fI))) (lb : ∀ self, W.Looks (model prog w) h (bindSpecial (.ref fI) self) (.ref fI, [self]))
    (fin : codeAny (model prog w) (A.under (.builtin "type.__call__" ⟨[.ref C], [(nk, v)]⟩)) (.call (.ref fI) ⟨[.ref (h.objs.size + 1)], [(nk, v)]⟩) (W.InitBack (h.objs.size + 1) R) ⟨(h.push (kdv_tup [])).push (excO C h.objs.size), g, d, t, os⟩) :
    codeAny (model prog w) A (.call (.ref C) ⟨[], [(nk, v)]⟩) R ⟨h, g, d, t, os⟩ := by
  have f1 := tc_lookup
  have f2 := tc_bind (.ref C)
  have ty : (⟨h, g, d, t, os⟩ : Shared).TypeIs (.ref C) "type" := ⟨_, atC, rfl⟩
  refine codeAny_of_tree (show wpAny _ _ (callAny (.ref C) _) _ _ _ from ?_)
  repeat (any_goals (first | assumption | with_reducible refine wpAny_loadPart_at atC ?_ | wp_step))
  refine ⟨rfl, codeAny_call_builtin_at (Code.quiet_builtin _ (by decide +kernel)) entry_typeCall (chkT atC (typeK F ct atC li lb (codeAny_mono fin fun r s' z => ?_)))⟩
  rcases r with e | (v | _ | _ | _) <;> exact z
end
/-! ### the class of an error, with or without fields -/
section
variable {prog : Program} {w : World} {A : Around} {E : Value → Shared → Prop} {s : Shared} {K : Frag} {x D : Addr} {ox : Obj} {od : Option Obj}
theorem cls_found {C : Addr} {name : Str} {a g : Value} (hc : (clsIn K C).isSome = true) (ha : findIn K (.ref C) name = some (some a)) (hg : specialIn K a "__get__" = some (some g)) (ht : takesIn K a = some true) : findObj K C od name = some (.bind g a) := by
  obtain ⟨cd, e⟩ := Option.isSome_iff_exists.mp hc
  unfold findObj
  rw [e, Option.bind_some, ha, Option.bind_some]
  simp [hg, ht]
theorem cls_of {Q : Option Value → Shared → Prop} (T : L2.ExcC K D) (KI : K.In s.heap) (J : InstAt s.heap x ox D od) (fin : Q (some (.ref D)) { s with toks := s.toks + 1 }) : wpAny (model prog w) A (getAttr? (.ref x) "__class__") Q E s := by
  have fo : findObj K D od "__class__" = some (.bind (.builtin "getset_descriptor.__get__") (.builtin "object.__class__")) := cls_found (by obtain ⟨cd, hc, _⟩ := any_some T.hd; rw [hc]; rfl) T.ha T.hn T.ht
  obtain ⟨hp, g, d, t, os⟩ := s
  have a0 := J.type (M := model prog w)
  have a1 := looks_findIn (M := model prog w) KI T.hg
  have a2 := looks_findIn (M := model prog w) KI T.hk
  have a3 := looks_find (M := model prog w) KI J fo
  have isB : Looks (model prog w) hp (isInstance (.ref x) (.type "BaseException")) true := a0.andThen (looks_subIn KI T.hs)
  have n0 : (false && onTheHeap (Value.builtin "BaseException.__getattribute__")) = false := rfl
  have n2 : (Value.builtin "BaseException.__getattribute__" == Value.builtin "object.__getattribute__") = false := by decide +kernel
  have n1 : (onTheHeap (Value.ref D) && Value.builtin "BaseException.__getattribute__" == Value.builtin "object.__getattribute__") = false := by rw [n2]; rfl
  unfold getAttr? getAttrBy? getAttrBy
  refine wpAny_bind (wpAny_mkText (wpAny_bind (wpAny_attempt (wpAny_holding (wpAny_bind (a0.at (wpAny_bind (a1.at ?_))))))))
  show wpAny _ _ (if (onTheHeap (Value.ref D) && Value.builtin "BaseException.__getattribute__" == Value.builtin "object.__getattribute__") = true then _ else _) _ _ _
  rw [n1, if_neg Bool.false_ne_true]
  unfold getAttrByItsOwn hookBefore
  refine wpAny_bind (id ?_)
  show wpAny _ _ (if onTheHeap (Value.ref D) = true then _ else _) _ _ _
  rw [if_pos (show onTheHeap (Value.ref D) = true from rfl)]
  refine a2.at (wpAny_bind (wpAny_attempt (wpAny_holding ?_)))
  unfold callGetattribute
  rw [n0, if_neg Bool.false_ne_true]
  unfold boundAndCalled
  rw [PySem.F.excAttr_ValueError.ga.bind (.ref x)]
  refine wpAny_bind (wpAny_pure (show wpAny _ _ (call (.builtin "BaseException.__getattribute__") [.ref x, .str "__class__" t]) _ _ _ from ?_))
  refine wpAny_call (codeAny_call_builtin PySem.F.excAttr_ValueError.ga.plain PySem.F.entry_bexc_ga ?_)
  refine @check_slot (model prog w) _ _ ⟨hp, g, d, t + 1, os⟩ "BaseException.__getattribute__" "BaseException" "__getattribute__" (.ref x) [.str "__class__" t] [] _ (by decide +kernel) (by decide +kernel) isB (PySem.F.args_bexc_ga (.ref x) (.str "__class__" t)) ?_
  unfold Builtin.«object.__getattribute__»
  refine wpAny_bind (wpAny_of_eq (a := ((Value.ref x : Value), [Value.str "__class__" t])) (by first | rfl | (simp only [slotArgs]; rfl)) (wpAny_bind (wpAny_pure (wpAny_bind (a0.at (wpAny_bind (a3.at ?_)))))))
  show wpAny _ _ (holding [Value.builtin "object.__class__"] (call (.builtin "getset_descriptor.__get__") [.builtin "object.__class__", .ref x, .ref D]) >>= ret) _ _ _
  refine wpAny_bind (wpAny_holding (wpAny_call (class_get (s := ⟨hp, g, d, t + 1, os⟩) (ox := ox) (od := od) KI J T.hm ?_)))
  refine wpAny_pure (show wpAny _ _ (handedOut (.ref D)) _ _ _ from ?_)
  rw [handedOut_of (v := .ref D) rfl]
  first
    | exact wpAny_pure (wpAny_pure fin)
    | exact wpAny_pure fin
    | exact wpAny_pure (wpAny_bind (wpAny_pure (wpAny_pure fin)))
theorem kitX (T : L2.ExcC K D) : KitX K (.ref x) (.ref D) (fun h => InstAt h x ox D od) where
  ty := fun _ _ _ J => J.type
  it := fun _ _ KI _ => by
    obtain ⟨cd, hc, _⟩ := any_some T.hd
    unfold clsIn at hc
    split at hc
    · rename_i c' d' cd' sl' ho
      intro A' Q' E' s' kp fin
      unfold isType loadHead
      exact wpAny_bind (wpAny_loadPart (kp _ _ (KI _ _ ho)) (wpAny_pure fin))
    · cases hc
  ne := fun h tp dd its n sl KI htp => by
    obtain ⟨cd, hc, _⟩ := any_some T.hd
    refine Bool.eq_false_iff.mpr fun eq => ?_
    have e : D = tp := Value.ref.inj (beq_iff_eq.mp eq)
    subst e
    unfold clsIn at hc
    split at hc
    · rename_i c' d' cd' sl' ho
      exact nomatch (KI _ _ ho).symm.trans htp
    · cases hc
  ca := fun KI J kk => cls_of T KI J kk
end
end PX
namespace PR
open PySem PySem.Spec PyProof.Rows L2
/-- at a: an error of the class at C, not raised, its fields fs -/
def ExV (H : Hp) (a C : Addr) (fs : List (Str × V)) : Prop := (fs = [] ∧ H a = some (exo a C none)) ∨ ∃ dx, H a = some (exo a C (some dx)) ∧ H dx = some (exd dx fs)
theorem ExV.same {H H' : Hp} {a C : Addr} {fs : List (Str × V)} (h : ExV H a C fs) (s : ∀ b o, H b = some o → H' b = some o) : ExV H' a C fs := by
  rcases h with ⟨e, h⟩ | ⟨dx, h1, h2⟩
  · exact .inl ⟨e, s _ _ h⟩
  · exact .inr ⟨dx, s _ _ h1, s _ _ h2⟩
theorem ExV.inst {X : Cx} {pins : List (Addr × Obj)} {σ : L2.St} {H : Hp} {s : Shared} {a C : Addr} {fs : List (Str × V)} (I : Inv X pins σ H s) (h : ExV H a C fs) : ∃ ox od, PySem.W.InstAt s.heap a ox C od ∧ (fs = [] ∨ ∃ (oo : Obj) (mA : Str → Option Value), od = some oo ∧ (∀ f, RelO (fs.lookup f) (mA f)) ∧ ∀ f, PySem.W.lookIn f oo = some (mA f)) := by
  rcases h with ⟨e, h⟩ | ⟨dx, h1, h2⟩
  · obtain ⟨t1, hg⟩ := exo_at I.hok h
    exact ⟨_, none, ⟨hg, rfl, rfl, trivial⟩, .inl e⟩
  · obtain ⟨t1, hg⟩ := exo_at I.hok h1
    obtain ⟨mA, hn, hr⟩ := exd_at I.hok h2
    obtain ⟨od, ho, hl⟩ := lookIn_ns hn
    exact ⟨_, some od, ⟨hg, rfl, rfl, ho⟩, .inr ⟨od, mA, rfl, hr, hl⟩⟩
/-- isinstance(e, c) -/
def rIsX (K : PySem.W.Frag) : List V → Hp → VK → Prop := fun xs H Q => ∃ (a D : Addr) (fs : List (Str × V)) (c : V) (cv : Value) (b : Bool), xs = [.ref a, c] ∧ ExcC K D ∧ ExV H a D fs ∧ (∀ u, RelV c u → u = cv) ∧ PySem.W.kitOne K (.ref D) cv = some b ∧ Q (.bl b) H
theorem call_isX {X : Cx} : CallR X (.builtin "isinstance") (rIsX X.K) := by
  intro pins s σ H xs us Q I r h
  obtain ⟨a, D, fs, c, cv, b, rfl, T, he, hcv, hk, q⟩ := h
  obtain ⟨u, u2, rfl, r1, r2⟩ := vals2 r
  obtain rfl : u = Value.ref a := r1
  obtain rfl := hcv _ r2
  obtain ⟨ox, od, J, _⟩ := ExV.inst I he
  exact PySem.W.kia_one (PX.kitX T) I.kIn J hk (fun z => nomatch z) fun tk => ⟨.bl b, H, I.kept (t' := tk) fun _ _ z => z, rfl, q⟩
section
variable {X : Cx} {e : Expr} {es : List Expr} {σ : L2.St} {H : Hp} {Q : VK} {p pos : Pos} {CX : CXT} {k : Nat} {fI C : Addr} {sp : Sp} {E : XK} {x n : Str}
/-- e.f, e such an error -/
theorem w_ef (h : We X e σ H fun x H1 => ∃ (a C : Addr) (fs : List (Str × V)) (v : V), x = .ref a ∧ XfC X.K C ∧ PySem.W.findIn X.K (.ref C) n = some none ∧ ExV H1 a C fs ∧ fs.lookup n = some v ∧ Q v H1) (hb : attributeBase e n X.env (eval e X.env) = eval e X.env := by rfl) : We X (.Attribute e n pos) σ H Q := by
  refine ⟨fun pins s I => attr_of hb (thn (h.run pins s I) fun u s1 z => ?_)⟩
  obtain ⟨y, H1, I1, ry, a, C, fs, v, rfl, T, hno, he, l, q⟩ := z
  obtain rfl : u = Value.ref a := ry
  obtain ⟨ox, od, J, ef | ⟨oo, mA, rfl, hr, hl⟩⟩ := ExV.inst I1 he
  · rw [ef] at l
    cases l
  · obtain ⟨u, hu, ru⟩ := RelO.some_of (v := v) (o := mA n) (by rw [← l]; exact hr n)
    exact HandSPX.exc_get I1.kIn J T.ga T.gg T.exC (PySem.W.findObj_own T.hdC hno rfl (by rw [hl, hu])) (handed_of ru) ⟨v, H1, I1.tok _, ru, q⟩
theorem run_exc {pins : List (Addr × Obj)} {s1 : Shared} {H1 : Hp} {us : List Value} {vs : List V} (T : OexC X.K C) (iC : PySem.W.findIn X.K (.ref C) "__init__" = some (some (.ref fI))) (tI : PySem.W.typeIn X.K (.ref fI) = some (.type "function")) (F1 : FnR X.prog X.w X.K X.mg X.base CX k fI sp) (hr : Room (k + 1) X.A) (hx : Passes CX X E)
    (I1 : Inv X pins σ H1 s1) (r1 : Vals vs us) (hz : vs.length ≤ 1000) (q1 : ∀ a, H1 a = none → sp (.ref a :: vs) (upd H1 a (exo a C none)) (fun v H2 => v = .non ∧ Q (.ref a) H2) E) : wpAny (model X.prog X.w) X.A (call (.ref C) us) (EP X pins σ Q) X.xe s1 := by
  obtain ⟨nm, qn, N, bs, bm, sn, sub, ab, col, dd, k0, k1, k2, k3, k5, hC, hbm⟩ := T.cls
  obtain ⟨hp, g, dr, tk, os⟩ := s1
  have up : hp.objs.size ≤ hp.objs.size + 1 := Nat.le_succ _
  have hq := q1 (hp.objs.size + 1) (I1.hok.fresh up)
  have kp : ∀ b o, hp.get? b = some o → ((hp.push (PySem.W.kdv_tup us)).push (PySem.HandSPX.excO C hp.objs.size)).get? b = some o := fun b o z => Heap.get?_push_of_some _ (Heap.get?_push_of_some _ z)
  have atE : ((hp.push (PySem.W.kdv_tup us)).push (PySem.HandSPX.excO C hp.objs.size)).get? (hp.objs.size + 1) = some (PySem.HandSPX.excO C hp.objs.size) := by heap_get
  have J : Inv X pins σ (upd H1 (hp.objs.size + 1) (exo (hp.objs.size + 1) C none)) ⟨(hp.push (PySem.W.kdv_tup us)).push (PySem.HandSPX.excO C hp.objs.size), g, dr, tk, os⟩ := I1.laid (t' := tk) kp up (exo_ok atE)
  have r2 : Vals (V.ref (hp.objs.size + 1) :: vs) (Value.ref (hp.objs.size + 1) :: us) := .cons rfl r1
  have hus : us.length ≤ sizeLine := by
    rw [← Paired.length r1, sizeLine_eq]
    omega
  refine wpAny_call (PySem.HandSPX.call_own F.excBase_ValueError (fun Y => PySem.HandSPX.refsVE_contains Y bm hbm) (I1.kIn _ _ hC) (PySem.W.looks_findIn I1.kIn iC) (fun self => PySem.W.bind_fn I1.kIn self tI) hus (codeAny_mono (F1 _ X.stack _ _ _ _ _ E (hr.make C us []) (J.env0.make C us []) r2 hq) fun rr s' zz => ?_))
  match rr, zz with
  | .error e, zz => exact hx pins σ _ _ e s' J zz
  | .ok (.ret u), zz =>
    obtain ⟨v, H', I3, rv, ev, q3⟩ := J.after zz
    subst ev
    exact ⟨rv, ⟨V.ref (hp.objs.size + 1), H', I3, rfl, q3⟩⟩
  | .ok .next, zz => exact zz
  | .ok .brk, zz => exact zz
  | .ok .cont, zz => exact zz
/-- C(e, ..), C a class of errors -/
theorem w_exc (T : OexC X.K C) (iC : PySem.W.findIn X.K (.ref C) "__init__" = some (some (.ref fI))) (tI : PySem.W.typeIn X.K (.ref fI) = some (.type "function")) (F1 : FnR X.prog X.w X.K X.mg X.base CX k fI sp) (hr : Room (k + 1) X.A) (hm : X.mg x = some (.ref C)) (hx : Passes CX X E)
    (h : Wa X (e :: es) σ H fun vs H1 => vs.length ≤ 1000 ∧ ∀ a, H1 a = none → sp (.ref a :: vs) (upd H1 a (exo a C none)) (fun v H2 => v = .non ∧ Q (.ref a) H2) E)
    (hg : Gl X x := by rfl) (hdb : (x == ("__debug__" : Str)) = false := by decide) (he : starEach (e :: es) X.env = (false, eval e X.env) :: starEach es X.env := by rfl) (hpl : (backTo pos (starEach es X.env)).any (·.1) = false := by rfl) : We X (.Call (.Name x p) (e :: es) [] pos) σ H Q := by
  refine ⟨fun pins s I => ?_⟩
  refine wpAny_Call_Name_kw (ld_glob I hg hm ?_ hdb)
  exact PySem.W.callWith_K (h₀ := X.base) I.ok.mod.kin T.kC (thn (h.run pos pins s I) fun us s1 ⟨vs, H1, I1, r1, hz, q1⟩ => ⟨I1.kIn, run_exc T iC tI F1 hr hx I1 r1 hz q1⟩) he hpl
theorem w_exc0 (T : OexC X.K C) (iC : PySem.W.findIn X.K (.ref C) "__init__" = some (some (.ref fI))) (tI : PySem.W.typeIn X.K (.ref fI) = some (.type "function")) (F1 : FnR X.prog X.w X.K X.mg X.base CX k fI sp) (hr : Room (k + 1) X.A) (hm : X.mg x = some (.ref C)) (hx : Passes CX X E)
    (h : ∀ a, H a = none → sp [.ref a] (upd H a (exo a C none)) (fun v H2 => v = .non ∧ Q (.ref a) H2) E) (hg : Gl X x := by rfl) (hdb : (x == ("__debug__" : Str)) = false := by decide) : We X (.Call (.Name x p) [] [] pos) σ H Q := by
  refine ⟨fun pins s I => ?_⟩
  refine wpAny_Call_Name_kw (ld_glob I hg hm ?_ hdb)
  exact PySem.W.callWith_K0 I.kIn T.kC (run_exc (us := []) (vs := []) T iC tI F1 hr hx I .nil (Nat.zero_le _) h)
/-- C(n = e) -/
theorem w_excQ {kpos : Pos} {sq : List V → List V → Hp → VK → XK → Prop} (T : OexC X.K C) (iC : PySem.W.findIn X.K (.ref C) "__init__" = some (some (.ref fI))) (tI : PySem.W.typeIn X.K (.ref fI) = some (.type "function")) (F1 : FnQ X.prog X.w X.K X.mg X.base CX k fI 1 [n] sq) (hr : Room (k + 1) X.A) (hm : X.mg x = some (.ref C)) (hx : Passes CX X E)
    (h : We X e σ H fun v H1 => ∀ a, H1 a = none → sq [.ref a] [v] (upd H1 a (exo a C none)) (fun v H2 => v = .non ∧ Q (.ref a) H2) E) (hg : Gl X x := by rfl) (hdb : (x == ("__debug__" : Str)) = false := by decide)
    (hall : (backToKw pos (keywordEach [⟨some n, e, kpos⟩] X.env)).all (·.1.isSome) = true := by rfl) (hks : (backToKw pos (keywordEach [⟨some n, e, kpos⟩] X.env)).filterMap (·.1) = [n] := by rfl)
    (hpl : ((backTo pos (starEach [] X.env)).any (·.1) || (backToKw pos (keywordEach [⟨some n, e, kpos⟩] X.env)).any (·.1.isNone)) = false := by rfl) : We X (.Call (.Name x p) [] [⟨some n, e, kpos⟩] pos) σ H Q := by
  refine ⟨fun pins s I => ?_⟩
  obtain ⟨nm, qn, N, bs, bm, sn, sub, ab, col, dd, k0, k1, k2, k3, k5, hC, hbm⟩ := T.cls
  refine wpAny_Call_Name_kw (ld_glob I hg hm ?_ hdb)
  refine PySem.W.callWith_KW0 (h₀ := X.base) I.ok.mod.kin T.kC hall (thn ((k_cons (nm := some n) (kpos := kpos) (Qa := fun zs H1 => ∃ v, zs = [v] ∧ ∀ a, H1 a = none → sq [.ref a] [v] (upd H1 a (exo a C none)) (fun v H2 => v = .non ∧ Q (.ref a) H2) E) (We.mono h fun v H1 z => k_nil ⟨v, rfl, z⟩)).run pos pins s I) fun ws s1 ⟨zs, H1, I1, rz, v, ez, q1⟩ => ⟨I1.kIn, ?_⟩) hpl
  subst ez
  obtain ⟨u, rfl, ru⟩ := vals1 rz
  rw [hks]
  show wpAny _ _ (call (.ref C) [] [(n, u)]) _ _ _
  obtain ⟨hp, g, dr, tk, os⟩ := s1
  have up : hp.objs.size ≤ hp.objs.size + 1 := Nat.le_succ _
  have hq := q1 (hp.objs.size + 1) (I1.hok.fresh up)
  have kp : ∀ b o, hp.get? b = some o → ((hp.push (PySem.W.kdv_tup [])).push (PySem.HandSPX.excO C hp.objs.size)).get? b = some o := fun b o z => Heap.get?_push_of_some _ (Heap.get?_push_of_some _ z)
  have atE : ((hp.push (PySem.W.kdv_tup [])).push (PySem.HandSPX.excO C hp.objs.size)).get? (hp.objs.size + 1) = some (PySem.HandSPX.excO C hp.objs.size) := by heap_get
  have J : Inv X pins σ (upd H1 (hp.objs.size + 1) (exo (hp.objs.size + 1) C none)) ⟨(hp.push (PySem.W.kdv_tup [])).push (PySem.HandSPX.excO C hp.objs.size), g, dr, tk, os⟩ := I1.laid (t' := tk) kp up (exo_ok atE)
  refine wpAny_call (PX.callK F.excBase_ValueError (fun Y => PySem.HandSPX.refsVE_contains Y bm hbm) (I1.kIn _ _ hC) (PySem.W.looks_findIn I1.kIn iC) (fun self => PySem.W.bind_fn I1.kIn self tI) (codeAny_mono (F1 _ X.stack _ _ [.ref (hp.objs.size + 1)] [u] [.ref (hp.objs.size + 1)] [v] _ E (hr.make C [] [(n, u)]) (J.env0.make C [] [(n, u)]) (.cons rfl .nil) rz rfl rfl hq) fun rr s' zz => ?_))
  match rr, zz with
  | .error e, zz => exact hx pins σ _ _ e s' J zz
  | .ok (.ret u), zz =>
    obtain ⟨v, H', I3, rv, ev, q3⟩ := J.after zz
    subst ev
    exact ⟨rv, ⟨V.ref (hp.objs.size + 1), H', I3, rfl, q3⟩⟩
  | .ok .next, zz => exact zz
  | .ok .brk, zz => exact zz
  | .ok .cont, zz => exact zz
end
end PR
namespace PH
open PySem PySem.Spec PyProof.Rows L2 He
/-- isinstance asks such errors rightly -/
def ckExC (x : Str) : Ck := fun K => ckXf x K && ckIsi x K
theorem excC_ok {K : PySem.W.Frag} {x : Str} (c : ckExC x K = true) : ExcC K (ga K x) := by
  obtain ⟨c1, c2⟩ := ba c
  have a := xf_ok c1
  have b := isi_ok c2
  exact ⟨a.ga, a.gg, a.exC, a.hdC, b.ha, b.hn, b.htk, b.hm⟩
def ckAllX (xs : List Str) : Ck := fun K => xs.all fun x => ckExC x K
theorem allX_ok {K : PySem.W.Frag} {xs : List Str} (c : ckAllX xs K = true) : ∀ x ∈ xs, ExcC K (ga K x) := fun x hx => excC_ok (List.all_eq_true.mp c x hx)
/-- isinstance of errors of these names, about these names -/
def ckTab (xs ys : List Str) : Ck := fun K => xs.all fun x => ys.all fun y => eqBo (PySem.W.kitOne K (.ref (ga K x)) (.ref (ga K y))) (some (decide (x = y)))
theorem tab_ok {K : PySem.W.Frag} {xs ys : List Str} (c : ckTab xs ys K = true) : ∀ x ∈ xs, ∀ y ∈ ys, PySem.W.kitOne K (.ref (ga K x)) (.ref (ga K y)) = some (decide (x = y)) := fun x hx y hy => of_decide_eq_true (List.all_eq_true.mp (List.all_eq_true.mp c x hx) y hy)
def ckUp (xs : List Str) (y : Str) : Ck := fun K => xs.all fun x => eqBo (PySem.W.kitOne K (.ref (ga K x)) (.ref (ga K y))) (some true)
theorem up_ok {K : PySem.W.Frag} {xs : List Str} {y : Str} (c : ckUp xs y K = true) : ∀ x ∈ xs, PySem.W.kitOne K (.ref (ga K x)) (.ref (ga K y)) = some true := fun x hx => of_decide_eq_true (List.all_eq_true.mp c x hx)
def ckUpT (xs : List Str) (t : String) : Ck := fun K => xs.all fun x => eqBo (PySem.W.kitOne K (.ref (ga K x)) (.type t)) (some true)
theorem upT_ok {K : PySem.W.Frag} {xs : List Str} {t : String} (c : ckUpT xs t K = true) : ∀ x ∈ xs, PySem.W.kitOne K (.ref (ga K x)) (.type t) = some true := fun x hx => of_decide_eq_true (List.all_eq_true.mp c x hx)
end PH
namespace RM
/-- the greatest common divisor with the sign of the bottom -/
def sg (a b : Int) : Int := if b > 0 then (Int.gcd a b : Int) else -(Int.gcd a b : Int)
theorem sg_ne {a b : Int} (h : b ≠ 0) : sg a b ≠ 0 := by
  have := Int.gcd_pos_of_ne_zero_right a h
  unfold sg; split <;> omega
theorem fdiv_neg_of_dvd {a g : Int} (hg : 0 < g) (h : g ∣ a) : a.fdiv (-g) = (-a) / g := by
  obtain ⟨k, rfl⟩ := h
  have e1 : (g * k).fdiv (-g) = -k := by
    have : g * k = (-g) * (-k) := by rw [Int.neg_mul_neg]
    rw [this, Int.mul_fdiv_cancel_left _ (by omega)]
  rw [e1, show -(g * k) = g * (-k) by rw [Int.mul_neg], Int.mul_ediv_cancel_left _ (by omega)]
theorem num_eq {a b : Int} (h : b ≠ 0) : a.fdiv (sg a b) = (Rat.divInt a b).num := by
  have hg := Int.gcd_pos_of_ne_zero_right a h
  rw [Rat.num_divInt, Int.gcd_comm b a]
  unfold sg
  by_cases hb : b > 0
  · rw [if_pos hb, Int.sign_eq_one_of_pos hb, Int.one_mul, Int.fdiv_eq_ediv_of_nonneg _ (by omega)]
  · rw [if_neg hb, Int.sign_eq_neg_one_of_neg (by omega), Int.neg_mul, Int.one_mul]
    exact fdiv_neg_of_dvd (by omega) (Int.gcd_dvd_left ..)
theorem den_eq {a b : Int} (h : b ≠ 0) : b.fdiv (sg a b) = ((Rat.divInt a b).den : Int) := by
  have hg := Int.gcd_pos_of_ne_zero_right a h
  rw [Rat.den_divInt, if_neg h, Int.gcd_comm b a]
  unfold sg
  by_cases hb : b > 0
  · rw [if_pos hb, Int.fdiv_eq_ediv_of_nonneg _ (by omega)]
    have e : ((b.natAbs / a.gcd b : Nat) : Int) = (b.natAbs : Int) / ((a.gcd b : Nat) : Int) := Int.natCast_ediv ..
    rw [e]
    congr 1
    omega
  · rw [if_neg hb, fdiv_neg_of_dvd (by omega) (Int.gcd_dvd_right ..)]
    have e : ((b.natAbs / a.gcd b : Nat) : Int) = (b.natAbs : Int) / ((a.gcd b : Nat) : Int) := Int.natCast_ediv ..
    rw [e]
    congr 1
    omega
/-- one turn of Euclid's loop (Python's %) -/
theorem gcd_turn {a b : Int} (h : b ≠ 0) : Int.gcd b (a.fmod b) = Int.gcd a b := by
  have e : a.fmod b = a - b * a.fdiv b := by have := Int.mul_fdiv_add_fmod a b; omega
  rw [e, Int.gcd_comm a b]
  rw [Int.mul_comm]
  exact Int.gcd_sub_mul_right_right ..
theorem fmod_small {a b : Int} (h : b ≠ 0) : (a.fmod b).natAbs < b.natAbs := by
  rcases Int.lt_or_gt_of_ne h with hb | hb
  · have e1 : (-a).fmod (-b) = -(a.fmod b) := Int.neg_fmod_neg a b
    have h1 := Int.fmod_nonneg_of_pos (-a) (b := -b) (by omega)
    have h2 := Int.fmod_lt_of_pos (-a) (b := -b) (by omega)
    omega
  · have h1 := Int.fmod_nonneg_of_pos a hb
    have h2 := Int.fmod_lt_of_pos a hb
    omega
/-! ### sizes -/
def Lt (q : Rat) (n : Nat) : Prop := q.num.natAbs < 2 ^ n ∧ q.den < 2 ^ n
theorem Lt.mono {q : Rat} {n m : Nat} (h : Lt q n) (k : n ≤ m) : Lt q m :=
  ⟨Nat.lt_of_lt_of_le h.1 (Nat.pow_le_pow_right (by omega) k), Nat.lt_of_lt_of_le h.2 (Nat.pow_le_pow_right (by omega) k)⟩
theorem num_divInt_le (a b : Int) (h : b ≠ 0) : (Rat.divInt a b).num.natAbs ≤ a.natAbs := by
  rw [← num_eq h]
  have hs := sg_ne (a := a) h
  have hd : sg a b ∣ a := by
    unfold sg; split
    · exact Int.gcd_dvd_left ..
    · exact Int.neg_dvd.mpr (Int.gcd_dvd_left ..)
  obtain ⟨k, hk⟩ := hd
  have e : a.fdiv (sg a b) = k := by
    conv => lhs; arg 1; rw [hk]
    exact Int.mul_fdiv_cancel_left _ hs
  rw [e]
  have : a.natAbs = (sg a b).natAbs * k.natAbs := by conv => lhs; rw [hk]; rw [Int.natAbs_mul]
  rw [this]
  exact Nat.le_mul_of_pos_left _ (by omega)
theorem den_divInt_le (a b : Int) (h : b ≠ 0) : (Rat.divInt a b).den ≤ b.natAbs := by
  rw [Rat.den_divInt, if_neg h]
  exact Nat.div_le_self ..
theorem lt_divInt {a b : Int} {n : Nat} (h : b ≠ 0) (ha : a.natAbs < 2 ^ n) (hb : b.natAbs < 2 ^ n) : Lt (Rat.divInt a b) n :=
  ⟨Nat.lt_of_le_of_lt (num_divInt_le a b h) ha, Nat.lt_of_le_of_lt (den_divInt_le a b h) hb⟩
theorem den_ne (q : Rat) : (q.den : Int) ≠ 0 := by have := q.den_nz; omega
theorem add_eq (p q : Rat) : p + q = Rat.divInt (p.num * q.den + q.num * p.den) (p.den * q.den) := by
  conv => lhs; rw [← Rat.num_divInt_den p, ← Rat.num_divInt_den q]
  exact Rat.divInt_add_divInt _ _ (den_ne p) (den_ne q)
theorem sub_eq (p q : Rat) : p - q = Rat.divInt (p.num * q.den - q.num * p.den) (p.den * q.den) := by
  have e : p - q = p + -q := Rat.sub_eq_add_neg p q
  rw [e, add_eq]
  congr 1
  · show p.num * ((-q).den : Int) + (-q).num * p.den = _
    have h1 : (-q).den = q.den := rfl
    have h2 : (-q).num = -q.num := rfl
    rw [h1, h2, Int.neg_mul]
    omega
theorem mul_eq (p q : Rat) : p * q = Rat.divInt (p.num * q.num) (p.den * q.den) := by
  conv => lhs; rw [← Rat.num_divInt_den p, ← Rat.num_divInt_den q]
  exact Rat.divInt_mul_divInt ..
theorem neg_eq (p : Rat) : -p = Rat.divInt (-p.num) p.den := by
  conv => lhs; rw [← Rat.num_divInt_den p]
  exact Rat.neg_divInt ..
theorem div_eq (p q : Rat) : p / q = Rat.divInt (p.num * q.den) (p.den * q.num) := by
  rw [Rat.div_def, Rat.inv_def]
  conv => lhs; rw [← Rat.num_divInt_den p]
  exact Rat.divInt_mul_divInt ..
theorem num_zero_iff {q : Rat} : q.num = 0 ↔ q = 0 := Rat.num_eq_zero
theorem pow_mul_lt {i j : Int} {a b : Nat} (ha : i.natAbs < 2 ^ a) (hb : j.natAbs < 2 ^ b) : (i * j).natAbs < 2 ^ (a + b) := by
  rw [Int.natAbs_mul, Nat.pow_add]
  exact Nat.mul_lt_mul'' ha hb
theorem pow_add_lt {i j : Int} {a : Nat} (ha : i.natAbs < 2 ^ a) (hb : j.natAbs < 2 ^ a) : (i + j).natAbs < 2 ^ (a + 1) := by
  rw [Nat.pow_succ]; omega
theorem pow_sub_lt {i j : Int} {a : Nat} (ha : i.natAbs < 2 ^ a) (hb : j.natAbs < 2 ^ a) : (i - j).natAbs < 2 ^ (a + 1) := by
  rw [Nat.pow_succ]; omega
theorem den_lt {q : Rat} {n : Nat} (h : Lt q n) : ((q.den : Int)).natAbs < 2 ^ n := h.2
theorem pow_le {i : Int} {a b : Nat} (h : i.natAbs < 2 ^ a) (k : a ≤ b) : i.natAbs < 2 ^ b := Nat.lt_of_lt_of_le h (Nat.pow_le_pow_right (by omega) k)
theorem mul_den_ne (p q : Rat) : (p.den * q.den : Int) ≠ 0 := Int.mul_ne_zero (den_ne p) (den_ne q)
theorem lt_add {p q : Rat} {a b : Nat} (hp : Lt p a) (hq : Lt q b) : Lt (p + q) (a + b + 1) := by
  rw [add_eq]
  refine lt_divInt (mul_den_ne p q) (pow_add_lt (pow_mul_lt hp.1 (den_lt hq)) ?_) (pow_le (pow_mul_lt (den_lt hp) (den_lt hq)) (by omega))
  rw [Nat.add_comm a b]
  exact pow_mul_lt hq.1 (den_lt hp)
theorem lt_sub {p q : Rat} {a b : Nat} (hp : Lt p a) (hq : Lt q b) : Lt (p - q) (a + b + 1) := by
  rw [sub_eq]
  refine lt_divInt (mul_den_ne p q) (pow_sub_lt (pow_mul_lt hp.1 (den_lt hq)) ?_) (pow_le (pow_mul_lt (den_lt hp) (den_lt hq)) (by omega))
  rw [Nat.add_comm a b]
  exact pow_mul_lt hq.1 (den_lt hp)
theorem lt_mul {p q : Rat} {a b : Nat} (hp : Lt p a) (hq : Lt q b) : Lt (p * q) (a + b) := by
  rw [mul_eq]
  exact lt_divInt (mul_den_ne p q) (pow_mul_lt hp.1 hq.1) (pow_mul_lt (den_lt hp) (den_lt hq))
theorem lt_neg {p : Rat} {a : Nat} (hp : Lt p a) : Lt (-p) a := ⟨by show (-p.num).natAbs < _; rw [Int.natAbs_neg]; exact hp.1, hp.2⟩
theorem lt_div {p q : Rat} {a b : Nat} (hp : Lt p a) (hq : Lt q b) (h : q ≠ 0) : Lt (p / q) (a + b) := by
  rw [div_eq]
  have hn : q.num ≠ 0 := fun z => h (Rat.num_eq_zero.mp z)
  exact lt_divInt (Int.mul_ne_zero (den_ne p) hn) (pow_mul_lt hp.1 (den_lt hq)) (pow_mul_lt (den_lt hp) hq.1)
theorem lt_int {n : Int} {a : Nat} (h : n.natAbs < 2 ^ a) (h1 : 0 < a) : Lt (n : Rat) a := ⟨h, by
  show 1 < 2 ^ a
  exact Nat.one_lt_two_pow (by omega)⟩
theorem num_int (n : Int) : ((n : Rat)).num = n := rfl
theorem den_int (n : Int) : ((n : Rat)).den = 1 := rfl
theorem int_eq (n : Int) : (n : Rat) = Rat.divInt n 1 := by
  have h := Rat.num_divInt_den (n : Rat)
  exact h.symm
theorem lt_iff (p q : Rat) : p < q ↔ p.num * q.den < q.num * p.den := Rat.lt_iff p q
theorem le_iff (p q : Rat) : p ≤ q ↔ p.num * q.den ≤ q.num * p.den := Rat.le_iff p q
theorem eq_iff (p q : Rat) : p = q ↔ (p.num = q.num ∧ p.den = q.den) := ⟨fun h => by rw [h]; exact ⟨rfl, rfl⟩, fun h => Rat.ext h.1 h.2⟩
end RM
namespace LW
open PySem PySem.Spec PyProof.Rows L2
def top (i : Nat) : Stmt := PySem.Challenge.pw_paystreams_k01_errors.main.body.getD i (.Pass ⟨0, 0, 0, 0⟩)
abbrev s_ByZero___init__ : Stmt := inClass (top 2) 0
abbrev s_BadNumber___init__ : Stmt := inClass (top 3) 0
abbrev s_BadText___init__ : Stmt := inClass (top 4) 0
abbrev s_BadSystem___init__ : Stmt := inClass (top 5) 0
abbrev s_BadName___init__ : Stmt := inClass (top 6) 0
abbrev s_BadAmount___init__ : Stmt := inClass (top 7) 0
abbrev s_BadInlet___init__ : Stmt := inClass (top 8) 0
abbrev s_BadStream___init__ : Stmt := inClass (top 9) 0
abbrev s_BadWish___init__ : Stmt := inClass (top 10) 0
abbrev s_BadDays___init__ : Stmt := inClass (top 11) 0
abbrev s_BadTable___init__ : Stmt := inClass (top 12) 0
abbrev s_BadSight___init__ : Stmt := inClass (top 13) 0
abbrev s_BadDeed___init__ : Stmt := inClass (top 14) 0
abbrev s_NoAccount___init__ : Stmt := inClass (top 15) 0
abbrev s_NoStream___init__ : Stmt := inClass (top 16) 0
abbrev s_InUse___init__ : Stmt := inClass (top 17) 0
abbrev s_TooMuch___init__ : Stmt := inClass (top 18) 0
abbrev s_Clash___init__ : Stmt := inClass (top 19) 0
abbrev s_BadLine___init__ : Stmt := inClass (top 20) 0
abbrev s_NothingToUndo___init__ : Stmt := inClass (top 21) 0
abbrev s_NothingToRedo___init__ : Stmt := inClass (top 22) 0
abbrev s_UnlikeBooks___init__ : Stmt := inClass (top 23) 0
abbrev s__law_cell : Stmt := top 25
abbrev s__law_box : Stmt := top 26
abbrev s__law_take : Stmt := top 27
abbrev s__law_same : Stmt := top 28
abbrev s__law_kinds : Stmt := top 29
abbrev s__law_bases : Stmt := top 30
abbrev s_law : Stmt := top 31
def d_ByZero___init__ : He5.DefA := ⟨fun K => He.ma K (He.ga K "ByZero") "__init__", "__init__", "ByZero.__init__", defArgs s_ByZero___init__, defBody s_ByZero___init__, defScope s_ByZero___init__, [], []⟩
def d_BadNumber___init__ : He5.DefA := ⟨fun K => He.ma K (He.ga K "BadNumber") "__init__", "__init__", "BadNumber.__init__", defArgs s_BadNumber___init__, defBody s_BadNumber___init__, defScope s_BadNumber___init__, [], []⟩
def d_BadText___init__ : He5.DefA := ⟨fun K => He.ma K (He.ga K "BadText") "__init__", "__init__", "BadText.__init__", defArgs s_BadText___init__, defBody s_BadText___init__, defScope s_BadText___init__, [], []⟩
def d_BadSystem___init__ : He5.DefA := ⟨fun K => He.ma K (He.ga K "BadSystem") "__init__", "__init__", "BadSystem.__init__", defArgs s_BadSystem___init__, defBody s_BadSystem___init__, defScope s_BadSystem___init__, [], []⟩
def d_BadName___init__ : He5.DefA := ⟨fun K => He.ma K (He.ga K "BadName") "__init__", "__init__", "BadName.__init__", defArgs s_BadName___init__, defBody s_BadName___init__, defScope s_BadName___init__, [], []⟩
def d_BadAmount___init__ : He5.DefA := ⟨fun K => He.ma K (He.ga K "BadAmount") "__init__", "__init__", "BadAmount.__init__", defArgs s_BadAmount___init__, defBody s_BadAmount___init__, defScope s_BadAmount___init__, [], []⟩
def d_BadInlet___init__ : He5.DefA := ⟨fun K => He.ma K (He.ga K "BadInlet") "__init__", "__init__", "BadInlet.__init__", defArgs s_BadInlet___init__, defBody s_BadInlet___init__, defScope s_BadInlet___init__, [], []⟩
def d_BadStream___init__ : He5.DefA := ⟨fun K => He.ma K (He.ga K "BadStream") "__init__", "__init__", "BadStream.__init__", defArgs s_BadStream___init__, defBody s_BadStream___init__, defScope s_BadStream___init__, [], []⟩
def d_BadWish___init__ : He5.DefA := ⟨fun K => He.ma K (He.ga K "BadWish") "__init__", "__init__", "BadWish.__init__", defArgs s_BadWish___init__, defBody s_BadWish___init__, defScope s_BadWish___init__, [], []⟩
def d_BadDays___init__ : He5.DefA := ⟨fun K => He.ma K (He.ga K "BadDays") "__init__", "__init__", "BadDays.__init__", defArgs s_BadDays___init__, defBody s_BadDays___init__, defScope s_BadDays___init__, [], []⟩
def d_BadTable___init__ : He5.DefA := ⟨fun K => He.ma K (He.ga K "BadTable") "__init__", "__init__", "BadTable.__init__", defArgs s_BadTable___init__, defBody s_BadTable___init__, defScope s_BadTable___init__, [], []⟩
def d_BadSight___init__ : He5.DefA := ⟨fun K => He.ma K (He.ga K "BadSight") "__init__", "__init__", "BadSight.__init__", defArgs s_BadSight___init__, defBody s_BadSight___init__, defScope s_BadSight___init__, [], []⟩
def d_BadDeed___init__ : He5.DefA := ⟨fun K => He.ma K (He.ga K "BadDeed") "__init__", "__init__", "BadDeed.__init__", defArgs s_BadDeed___init__, defBody s_BadDeed___init__, defScope s_BadDeed___init__, [], []⟩
def d_NoAccount___init__ : He5.DefA := ⟨fun K => He.ma K (He.ga K "NoAccount") "__init__", "__init__", "NoAccount.__init__", defArgs s_NoAccount___init__, defBody s_NoAccount___init__, defScope s_NoAccount___init__, [], []⟩
def d_NoStream___init__ : He5.DefA := ⟨fun K => He.ma K (He.ga K "NoStream") "__init__", "__init__", "NoStream.__init__", defArgs s_NoStream___init__, defBody s_NoStream___init__, defScope s_NoStream___init__, [], []⟩
def d_InUse___init__ : He5.DefA := ⟨fun K => He.ma K (He.ga K "InUse") "__init__", "__init__", "InUse.__init__", defArgs s_InUse___init__, defBody s_InUse___init__, defScope s_InUse___init__, [], []⟩
def d_TooMuch___init__ : He5.DefA := ⟨fun K => He.ma K (He.ga K "TooMuch") "__init__", "__init__", "TooMuch.__init__", defArgs s_TooMuch___init__, defBody s_TooMuch___init__, defScope s_TooMuch___init__, [], []⟩
def d_Clash___init__ : He5.DefA := ⟨fun K => He.ma K (He.ga K "Clash") "__init__", "__init__", "Clash.__init__", defArgs s_Clash___init__, defBody s_Clash___init__, defScope s_Clash___init__, [], []⟩
def d_BadLine___init__ : He5.DefA := ⟨fun K => He.ma K (He.ga K "BadLine") "__init__", "__init__", "BadLine.__init__", defArgs s_BadLine___init__, defBody s_BadLine___init__, defScope s_BadLine___init__, [], []⟩
def d_NothingToUndo___init__ : He5.DefA := ⟨fun K => He.ma K (He.ga K "NothingToUndo") "__init__", "__init__", "NothingToUndo.__init__", defArgs s_NothingToUndo___init__, defBody s_NothingToUndo___init__, defScope s_NothingToUndo___init__, [], []⟩
def d_NothingToRedo___init__ : He5.DefA := ⟨fun K => He.ma K (He.ga K "NothingToRedo") "__init__", "__init__", "NothingToRedo.__init__", defArgs s_NothingToRedo___init__, defBody s_NothingToRedo___init__, defScope s_NothingToRedo___init__, [], []⟩
def d_UnlikeBooks___init__ : He5.DefA := ⟨fun K => He.ma K (He.ga K "UnlikeBooks") "__init__", "__init__", "UnlikeBooks.__init__", defArgs s_UnlikeBooks___init__, defBody s_UnlikeBooks___init__, defScope s_UnlikeBooks___init__, [], []⟩
def d__law_cell : He5.DefA := ⟨fun K => He.ga K "_law_cell", "_law_cell", "_law_cell", defArgs s__law_cell, defBody s__law_cell, defScope s__law_cell, [], []⟩
def d__law_box : He5.DefA := ⟨fun K => He.ga K "_law_box", "_law_box", "_law_box", defArgs s__law_box, defBody s__law_box, defScope s__law_box, [], []⟩
def d__law_take : He5.DefA := ⟨fun K => He.ga K "_law_take", "_law_take", "_law_take", defArgs s__law_take, defBody s__law_take, defScope s__law_take, [], []⟩
def d__law_same : He5.DefA := ⟨fun K => He.ga K "_law_same", "_law_same", "_law_same", defArgs s__law_same, defBody s__law_same, defScope s__law_same, [], []⟩
def d__law_kinds : He5.DefA := ⟨fun K => He.ga K "_law_kinds", "_law_kinds", "_law_kinds", defArgs s__law_kinds, defBody s__law_kinds, defScope s__law_kinds, [], []⟩
def d__law_bases : He5.DefA := ⟨fun K => He.ga K "_law_bases", "_law_bases", "_law_bases", defArgs s__law_bases, defBody s__law_bases, defScope s__law_bases, [], []⟩
def d_law : He5.DefA := ⟨fun K => He.ga K "law", "law", "law", defArgs s_law, defBody s_law, defScope s_law, [], []⟩
def fn : List He5.DefA := [d_ByZero___init__, d_BadNumber___init__, d_BadText___init__, d_BadSystem___init__, d_BadName___init__, d_BadAmount___init__, d_BadInlet___init__, d_BadStream___init__, d_BadWish___init__, d_BadDays___init__, d_BadTable___init__, d_BadSight___init__, d_BadDeed___init__, d_NoAccount___init__, d_NoStream___init__, d_InUse___init__, d_TooMuch___init__, d_Clash___init__, d_BadLine___init__, d_NothingToUndo___init__, d_NothingToRedo___init__, d_UnlikeBooks___init__, d__law_cell, d__law_box, d__law_take, d__law_same, d__law_kinds, d__law_bases, d_law]
def nm0 : List PySem.Str := ["StreamError", "ByZero", "BadNumber", "BadText", "BadSystem", "BadName", "BadAmount", "BadInlet", "BadStream", "BadWish", "BadDays", "BadTable", "BadSight", "BadDeed", "NoAccount", "NoStream", "InUse", "TooMuch", "Clash", "BadLine", "NothingToUndo", "NothingToRedo", "UnlikeBooks", "_law_cell", "_law_box", "_law_take", "_law_same", "_law_kinds", "_law_bases"]
def nms : List PySem.Str := nm0
def fa0 : List PH.Ck := [PH.ckGlo "StreamError", PH.ckGlo "ByZero", PH.ckGlo "BadNumber", PH.ckGlo "BadText", PH.ckGlo "BadSystem", PH.ckGlo "BadName", PH.ckGlo "BadAmount", PH.ckGlo "BadInlet", PH.ckGlo "BadStream", PH.ckGlo "BadWish", PH.ckGlo "BadDays", PH.ckGlo "BadTable", PH.ckGlo "BadSight", PH.ckGlo "BadDeed", PH.ckGlo "NoAccount", PH.ckGlo "NoStream", PH.ckGlo "InUse", PH.ckGlo "TooMuch", PH.ckGlo "Clash", PH.ckGlo "BadLine", PH.ckGlo "NothingToUndo", PH.ckGlo "NothingToRedo", PH.ckGlo "UnlikeBooks", PH.ckGlo "_law_cell", PH.ckGlo "_law_box", PH.ckGlo "_law_take", PH.ckGlo "_law_same", PH.ckGlo "_law_kinds", PH.ckGlo "_law_bases", PH.ckGlo "law", PH.ckFree "abs", PH.ckFree "bool", PH.ckFree "int", PH.ckFree "isinstance", PH.ckFree "len", PH.ckFree "range", PH.ckFree "repr", PH.ckOex "ByZero", PH.ckDef "ByZero" "__init__", PH.ckExm "ByZero" "ByZero" true]
def fa1 : List PH.Ck := [PH.ckOex "BadNumber", PH.ckDef "BadNumber" "__init__", PH.ckXf "BadNumber", PH.ckNoat "BadNumber" "given", PH.ckExm "BadNumber" "BadNumber" true, PH.ckOex "BadText", PH.ckDef "BadText" "__init__", PH.ckExm "BadText" "BadText" true, PH.ckOex "BadSystem", PH.ckDef "BadSystem" "__init__", PH.ckExm "BadSystem" "BadSystem" true, PH.ckOex "BadName", PH.ckDef "BadName" "__init__", PH.ckXf "BadName", PH.ckNoat "BadName" "given", PH.ckExm "BadName" "BadName" true, PH.ckOex "BadAmount", PH.ckDef "BadAmount" "__init__", PH.ckXf "BadAmount", PH.ckNoat "BadAmount" "given", PH.ckExm "BadAmount" "BadAmount" true, PH.ckOex "BadInlet", PH.ckDef "BadInlet" "__init__", PH.ckXf "BadInlet", PH.ckNoat "BadInlet" "given", PH.ckExm "BadInlet" "BadInlet" true, PH.ckOex "BadStream", PH.ckDef "BadStream" "__init__", PH.ckXf "BadStream", PH.ckNoat "BadStream" "given", PH.ckExm "BadStream" "BadStream" true, PH.ckOex "BadWish", PH.ckDef "BadWish" "__init__", PH.ckXf "BadWish", PH.ckNoat "BadWish" "given", PH.ckExm "BadWish" "BadWish" true, PH.ckOex "BadDays", PH.ckDef "BadDays" "__init__", PH.ckXf "BadDays", PH.ckNoat "BadDays" "given"]
def fa2 : List PH.Ck := [PH.ckExm "BadDays" "BadDays" true, PH.ckOex "BadTable", PH.ckDef "BadTable" "__init__", PH.ckExm "BadTable" "BadTable" true, PH.ckOex "BadSight", PH.ckDef "BadSight" "__init__", PH.ckXf "BadSight", PH.ckNoat "BadSight" "given", PH.ckExm "BadSight" "BadSight" true, PH.ckOex "BadDeed", PH.ckDef "BadDeed" "__init__", PH.ckXf "BadDeed", PH.ckNoat "BadDeed" "given", PH.ckExm "BadDeed" "BadDeed" true, PH.ckOex "NoAccount", PH.ckDef "NoAccount" "__init__", PH.ckXf "NoAccount", PH.ckNoat "NoAccount" "given", PH.ckExm "NoAccount" "NoAccount" true, PH.ckOex "NoStream", PH.ckDef "NoStream" "__init__", PH.ckXf "NoStream", PH.ckNoat "NoStream" "given", PH.ckExm "NoStream" "NoStream" true, PH.ckOex "InUse", PH.ckDef "InUse" "__init__", PH.ckXf "InUse", PH.ckNoat "InUse" "given", PH.ckExm "InUse" "InUse" true, PH.ckOex "TooMuch", PH.ckDef "TooMuch" "__init__", PH.ckXf "TooMuch", PH.ckNoat "TooMuch" "given", PH.ckExm "TooMuch" "TooMuch" true, PH.ckOex "Clash", PH.ckDef "Clash" "__init__", PH.ckExm "Clash" "Clash" true, PH.ckOex "BadLine", PH.ckDef "BadLine" "__init__", PH.ckXf "BadLine"]
def fa3 : List PH.Ck := [PH.ckNoat "BadLine" "line", PH.ckExm "BadLine" "BadLine" true, PH.ckOex "NothingToUndo", PH.ckDef "NothingToUndo" "__init__", PH.ckExm "NothingToUndo" "NothingToUndo" true, PH.ckOex "NothingToRedo", PH.ckDef "NothingToRedo" "__init__", PH.ckExm "NothingToRedo" "NothingToRedo" true, PH.ckOex "UnlikeBooks", PH.ckDef "UnlikeBooks" "__init__", PH.ckExm "UnlikeBooks" "UnlikeBooks" true, PH.ckSin "StreamError", PH.ckAllX ["ByZero", "BadNumber", "BadText", "BadSystem", "BadName", "BadAmount", "BadInlet", "BadStream", "BadWish", "BadDays", "BadTable", "BadSight", "BadDeed", "NoAccount", "NoStream", "InUse", "TooMuch", "Clash", "BadLine", "NothingToUndo", "NothingToRedo", "UnlikeBooks"], PH.ckTab ["ByZero", "BadNumber", "BadText", "BadSystem", "BadName", "BadAmount", "BadInlet", "BadStream", "BadWish", "BadDays", "BadTable", "BadSight", "BadDeed", "NoAccount", "NoStream", "InUse", "TooMuch", "Clash", "BadLine", "NothingToUndo", "NothingToRedo", "UnlikeBooks"] ["ByZero", "BadNumber", "BadText", "BadSystem", "BadName", "BadAmount", "BadInlet", "BadStream", "BadWish", "BadDays", "BadTable", "BadSight", "BadDeed", "NoAccount", "NoStream", "InUse", "TooMuch", "Clash", "BadLine", "NothingToUndo", "NothingToRedo", "UnlikeBooks"], PH.ckUp ["ByZero", "BadNumber", "BadText", "BadSystem", "BadName", "BadAmount", "BadInlet", "BadStream", "BadWish", "BadDays", "BadTable", "BadSight", "BadDeed", "NoAccount", "NoStream", "InUse", "TooMuch", "Clash", "BadLine", "NothingToUndo", "NothingToRedo", "UnlikeBooks"] "StreamError", PH.ckUpT ["ByZero", "BadNumber", "BadText", "BadSystem", "BadName", "BadAmount", "BadInlet", "BadStream", "BadWish", "BadDays", "BadTable", "BadSight", "BadDeed", "NoAccount", "NoStream", "InUse", "TooMuch", "Clash", "BadLine", "NothingToUndo", "NothingToRedo", "UnlikeBooks"] "ValueError", PH.ckFree "ValueError"]
def fa : List PH.Ck := fa0 ++ fa1 ++ fa2 ++ fa3
structure Tx (K : PySem.W.Frag) (mg : Str → Option Value) : Prop where
  g_StreamError : mg "StreamError" = some (.ref (He.ga K "StreamError"))
  g_ByZero : mg "ByZero" = some (.ref (He.ga K "ByZero"))
  g_BadNumber : mg "BadNumber" = some (.ref (He.ga K "BadNumber"))
  g_BadText : mg "BadText" = some (.ref (He.ga K "BadText"))
  g_BadSystem : mg "BadSystem" = some (.ref (He.ga K "BadSystem"))
  g_BadName : mg "BadName" = some (.ref (He.ga K "BadName"))
  g_BadAmount : mg "BadAmount" = some (.ref (He.ga K "BadAmount"))
  g_BadInlet : mg "BadInlet" = some (.ref (He.ga K "BadInlet"))
  g_BadStream : mg "BadStream" = some (.ref (He.ga K "BadStream"))
  g_BadWish : mg "BadWish" = some (.ref (He.ga K "BadWish"))
  g_BadDays : mg "BadDays" = some (.ref (He.ga K "BadDays"))
  g_BadTable : mg "BadTable" = some (.ref (He.ga K "BadTable"))
  g_BadSight : mg "BadSight" = some (.ref (He.ga K "BadSight"))
  g_BadDeed : mg "BadDeed" = some (.ref (He.ga K "BadDeed"))
  g_NoAccount : mg "NoAccount" = some (.ref (He.ga K "NoAccount"))
  g_NoStream : mg "NoStream" = some (.ref (He.ga K "NoStream"))
  g_InUse : mg "InUse" = some (.ref (He.ga K "InUse"))
  g_TooMuch : mg "TooMuch" = some (.ref (He.ga K "TooMuch"))
  g_Clash : mg "Clash" = some (.ref (He.ga K "Clash"))
  g_BadLine : mg "BadLine" = some (.ref (He.ga K "BadLine"))
  g_NothingToUndo : mg "NothingToUndo" = some (.ref (He.ga K "NothingToUndo"))
  g_NothingToRedo : mg "NothingToRedo" = some (.ref (He.ga K "NothingToRedo"))
  g_UnlikeBooks : mg "UnlikeBooks" = some (.ref (He.ga K "UnlikeBooks"))
  g__law_cell : mg "_law_cell" = some (.ref (He.ga K "_law_cell"))
  g__law_box : mg "_law_box" = some (.ref (He.ga K "_law_box"))
  g__law_take : mg "_law_take" = some (.ref (He.ga K "_law_take"))
  g__law_same : mg "_law_same" = some (.ref (He.ga K "_law_same"))
  g__law_kinds : mg "_law_kinds" = some (.ref (He.ga K "_law_kinds"))
  g__law_bases : mg "_law_bases" = some (.ref (He.ga K "_law_bases"))
  g_law : mg "law" = some (.ref (He.ga K "law"))
  b_abs : mg "abs" = none
  b_bool : mg "bool" = none
  b_int : mg "int" = none
  b_isinstance : mg "isinstance" = none
  b_len : mg "len" = none
  b_range : mg "range" = none
  b_repr : mg "repr" = none
  x_ByZero : OexC K (He.ga K "ByZero")
  xi_ByZero : PH.Df K (He.ga K "ByZero") "__init__"
  xm_ByZero : PySem.W.exmOne K (.ref (He.ga K "ByZero")) (.ref (He.ga K "ByZero")) = some true
  x_BadNumber : OexC K (He.ga K "BadNumber")
  xi_BadNumber : PH.Df K (He.ga K "BadNumber") "__init__"
  xf_BadNumber : XfC K (He.ga K "BadNumber")
  xn_BadNumber : PySem.W.findIn K (.ref (He.ga K "BadNumber")) "given" = some none
  xm_BadNumber : PySem.W.exmOne K (.ref (He.ga K "BadNumber")) (.ref (He.ga K "BadNumber")) = some true
  x_BadText : OexC K (He.ga K "BadText")
  xi_BadText : PH.Df K (He.ga K "BadText") "__init__"
  xm_BadText : PySem.W.exmOne K (.ref (He.ga K "BadText")) (.ref (He.ga K "BadText")) = some true
  x_BadSystem : OexC K (He.ga K "BadSystem")
  xi_BadSystem : PH.Df K (He.ga K "BadSystem") "__init__"
  xm_BadSystem : PySem.W.exmOne K (.ref (He.ga K "BadSystem")) (.ref (He.ga K "BadSystem")) = some true
  x_BadName : OexC K (He.ga K "BadName")
  xi_BadName : PH.Df K (He.ga K "BadName") "__init__"
  xf_BadName : XfC K (He.ga K "BadName")
  xn_BadName : PySem.W.findIn K (.ref (He.ga K "BadName")) "given" = some none
  xm_BadName : PySem.W.exmOne K (.ref (He.ga K "BadName")) (.ref (He.ga K "BadName")) = some true
  x_BadAmount : OexC K (He.ga K "BadAmount")
  xi_BadAmount : PH.Df K (He.ga K "BadAmount") "__init__"
  xf_BadAmount : XfC K (He.ga K "BadAmount")
  xn_BadAmount : PySem.W.findIn K (.ref (He.ga K "BadAmount")) "given" = some none
  xm_BadAmount : PySem.W.exmOne K (.ref (He.ga K "BadAmount")) (.ref (He.ga K "BadAmount")) = some true
  x_BadInlet : OexC K (He.ga K "BadInlet")
  xi_BadInlet : PH.Df K (He.ga K "BadInlet") "__init__"
  xf_BadInlet : XfC K (He.ga K "BadInlet")
  xn_BadInlet : PySem.W.findIn K (.ref (He.ga K "BadInlet")) "given" = some none
  xm_BadInlet : PySem.W.exmOne K (.ref (He.ga K "BadInlet")) (.ref (He.ga K "BadInlet")) = some true
  x_BadStream : OexC K (He.ga K "BadStream")
  xi_BadStream : PH.Df K (He.ga K "BadStream") "__init__"
  xf_BadStream : XfC K (He.ga K "BadStream")
  xn_BadStream : PySem.W.findIn K (.ref (He.ga K "BadStream")) "given" = some none
  xm_BadStream : PySem.W.exmOne K (.ref (He.ga K "BadStream")) (.ref (He.ga K "BadStream")) = some true
  x_BadWish : OexC K (He.ga K "BadWish")
  xi_BadWish : PH.Df K (He.ga K "BadWish") "__init__"
  xf_BadWish : XfC K (He.ga K "BadWish")
  xn_BadWish : PySem.W.findIn K (.ref (He.ga K "BadWish")) "given" = some none
  xm_BadWish : PySem.W.exmOne K (.ref (He.ga K "BadWish")) (.ref (He.ga K "BadWish")) = some true
  x_BadDays : OexC K (He.ga K "BadDays")
  xi_BadDays : PH.Df K (He.ga K "BadDays") "__init__"
  xf_BadDays : XfC K (He.ga K "BadDays")
  xn_BadDays : PySem.W.findIn K (.ref (He.ga K "BadDays")) "given" = some none
  xm_BadDays : PySem.W.exmOne K (.ref (He.ga K "BadDays")) (.ref (He.ga K "BadDays")) = some true
  x_BadTable : OexC K (He.ga K "BadTable")
  xi_BadTable : PH.Df K (He.ga K "BadTable") "__init__"
  xm_BadTable : PySem.W.exmOne K (.ref (He.ga K "BadTable")) (.ref (He.ga K "BadTable")) = some true
  x_BadSight : OexC K (He.ga K "BadSight")
  xi_BadSight : PH.Df K (He.ga K "BadSight") "__init__"
  xf_BadSight : XfC K (He.ga K "BadSight")
  xn_BadSight : PySem.W.findIn K (.ref (He.ga K "BadSight")) "given" = some none
  xm_BadSight : PySem.W.exmOne K (.ref (He.ga K "BadSight")) (.ref (He.ga K "BadSight")) = some true
  x_BadDeed : OexC K (He.ga K "BadDeed")
  xi_BadDeed : PH.Df K (He.ga K "BadDeed") "__init__"
  xf_BadDeed : XfC K (He.ga K "BadDeed")
  xn_BadDeed : PySem.W.findIn K (.ref (He.ga K "BadDeed")) "given" = some none
  xm_BadDeed : PySem.W.exmOne K (.ref (He.ga K "BadDeed")) (.ref (He.ga K "BadDeed")) = some true
  x_NoAccount : OexC K (He.ga K "NoAccount")
  xi_NoAccount : PH.Df K (He.ga K "NoAccount") "__init__"
  xf_NoAccount : XfC K (He.ga K "NoAccount")
  xn_NoAccount : PySem.W.findIn K (.ref (He.ga K "NoAccount")) "given" = some none
  xm_NoAccount : PySem.W.exmOne K (.ref (He.ga K "NoAccount")) (.ref (He.ga K "NoAccount")) = some true
  x_NoStream : OexC K (He.ga K "NoStream")
  xi_NoStream : PH.Df K (He.ga K "NoStream") "__init__"
  xf_NoStream : XfC K (He.ga K "NoStream")
  xn_NoStream : PySem.W.findIn K (.ref (He.ga K "NoStream")) "given" = some none
  xm_NoStream : PySem.W.exmOne K (.ref (He.ga K "NoStream")) (.ref (He.ga K "NoStream")) = some true
  x_InUse : OexC K (He.ga K "InUse")
  xi_InUse : PH.Df K (He.ga K "InUse") "__init__"
  xf_InUse : XfC K (He.ga K "InUse")
  xn_InUse : PySem.W.findIn K (.ref (He.ga K "InUse")) "given" = some none
  xm_InUse : PySem.W.exmOne K (.ref (He.ga K "InUse")) (.ref (He.ga K "InUse")) = some true
  x_TooMuch : OexC K (He.ga K "TooMuch")
  xi_TooMuch : PH.Df K (He.ga K "TooMuch") "__init__"
  xf_TooMuch : XfC K (He.ga K "TooMuch")
  xn_TooMuch : PySem.W.findIn K (.ref (He.ga K "TooMuch")) "given" = some none
  xm_TooMuch : PySem.W.exmOne K (.ref (He.ga K "TooMuch")) (.ref (He.ga K "TooMuch")) = some true
  x_Clash : OexC K (He.ga K "Clash")
  xi_Clash : PH.Df K (He.ga K "Clash") "__init__"
  xm_Clash : PySem.W.exmOne K (.ref (He.ga K "Clash")) (.ref (He.ga K "Clash")) = some true
  x_BadLine : OexC K (He.ga K "BadLine")
  xi_BadLine : PH.Df K (He.ga K "BadLine") "__init__"
  xf_BadLine : XfC K (He.ga K "BadLine")
  xn_BadLine : PySem.W.findIn K (.ref (He.ga K "BadLine")) "line" = some none
  xm_BadLine : PySem.W.exmOne K (.ref (He.ga K "BadLine")) (.ref (He.ga K "BadLine")) = some true
  x_NothingToUndo : OexC K (He.ga K "NothingToUndo")
  xi_NothingToUndo : PH.Df K (He.ga K "NothingToUndo") "__init__"
  xm_NothingToUndo : PySem.W.exmOne K (.ref (He.ga K "NothingToUndo")) (.ref (He.ga K "NothingToUndo")) = some true
  x_NothingToRedo : OexC K (He.ga K "NothingToRedo")
  xi_NothingToRedo : PH.Df K (He.ga K "NothingToRedo") "__init__"
  xm_NothingToRedo : PySem.W.exmOne K (.ref (He.ga K "NothingToRedo")) (.ref (He.ga K "NothingToRedo")) = some true
  x_UnlikeBooks : OexC K (He.ga K "UnlikeBooks")
  xi_UnlikeBooks : PH.Df K (He.ga K "UnlikeBooks") "__init__"
  xm_UnlikeBooks : PySem.W.exmOne K (.ref (He.ga K "UnlikeBooks")) (.ref (He.ga K "UnlikeBooks")) = some true
  sin : ClX.CRead K (He.ga K "StreamError") (.type "type") ∧ PySem.W.findCls K (.ref (He.ga K "StreamError")) (.type "type") "__init__" = some (.val (.builtin "ValueError.__init__"))
  exc_all : ∀ x ∈ (["ByZero", "BadNumber", "BadText", "BadSystem", "BadName", "BadAmount", "BadInlet", "BadStream", "BadWish", "BadDays", "BadTable", "BadSight", "BadDeed", "NoAccount", "NoStream", "InUse", "TooMuch", "Clash", "BadLine", "NothingToUndo", "NothingToRedo", "UnlikeBooks"] : List Str), ExcC K (He.ga K x)
  exc_tab : ∀ x ∈ (["ByZero", "BadNumber", "BadText", "BadSystem", "BadName", "BadAmount", "BadInlet", "BadStream", "BadWish", "BadDays", "BadTable", "BadSight", "BadDeed", "NoAccount", "NoStream", "InUse", "TooMuch", "Clash", "BadLine", "NothingToUndo", "NothingToRedo", "UnlikeBooks"] : List Str), ∀ y ∈ (["ByZero", "BadNumber", "BadText", "BadSystem", "BadName", "BadAmount", "BadInlet", "BadStream", "BadWish", "BadDays", "BadTable", "BadSight", "BadDeed", "NoAccount", "NoStream", "InUse", "TooMuch", "Clash", "BadLine", "NothingToUndo", "NothingToRedo", "UnlikeBooks"] : List Str), PySem.W.kitOne K (.ref (He.ga K x)) (.ref (He.ga K y)) = some (decide (x = y))
  exc_up : ∀ x ∈ (["ByZero", "BadNumber", "BadText", "BadSystem", "BadName", "BadAmount", "BadInlet", "BadStream", "BadWish", "BadDays", "BadTable", "BadSight", "BadDeed", "NoAccount", "NoStream", "InUse", "TooMuch", "Clash", "BadLine", "NothingToUndo", "NothingToRedo", "UnlikeBooks"] : List Str), PySem.W.kitOne K (.ref (He.ga K x)) (.ref (He.ga K "StreamError")) = some true
  exc_upT : ∀ x ∈ (["ByZero", "BadNumber", "BadText", "BadSystem", "BadName", "BadAmount", "BadInlet", "BadStream", "BadWish", "BadDays", "BadTable", "BadSight", "BadDeed", "NoAccount", "NoStream", "InUse", "TooMuch", "Clash", "BadLine", "NothingToUndo", "NothingToRedo", "UnlikeBooks"] : List Str), PySem.W.kitOne K (.ref (He.ga K x)) (.type "ValueError") = some true
  b_ValueError : mg "ValueError" = none
  f_ByZero___init__ : ∃ fd, FunD K "__init__" "ByZero.__init__" (defArgs s_ByZero___init__) (defBody s_ByZero___init__) (defScope s_ByZero___init__) (d_ByZero___init__.dvs K) [] (d_ByZero___init__.at_ K) fd
  f_BadNumber___init__ : ∃ fd, FunD K "__init__" "BadNumber.__init__" (defArgs s_BadNumber___init__) (defBody s_BadNumber___init__) (defScope s_BadNumber___init__) (d_BadNumber___init__.dvs K) [] (d_BadNumber___init__.at_ K) fd
  f_BadText___init__ : ∃ fd, FunD K "__init__" "BadText.__init__" (defArgs s_BadText___init__) (defBody s_BadText___init__) (defScope s_BadText___init__) (d_BadText___init__.dvs K) [] (d_BadText___init__.at_ K) fd
  f_BadSystem___init__ : ∃ fd, FunD K "__init__" "BadSystem.__init__" (defArgs s_BadSystem___init__) (defBody s_BadSystem___init__) (defScope s_BadSystem___init__) (d_BadSystem___init__.dvs K) [] (d_BadSystem___init__.at_ K) fd
  f_BadName___init__ : ∃ fd, FunD K "__init__" "BadName.__init__" (defArgs s_BadName___init__) (defBody s_BadName___init__) (defScope s_BadName___init__) (d_BadName___init__.dvs K) [] (d_BadName___init__.at_ K) fd
  f_BadAmount___init__ : ∃ fd, FunD K "__init__" "BadAmount.__init__" (defArgs s_BadAmount___init__) (defBody s_BadAmount___init__) (defScope s_BadAmount___init__) (d_BadAmount___init__.dvs K) [] (d_BadAmount___init__.at_ K) fd
  f_BadInlet___init__ : ∃ fd, FunD K "__init__" "BadInlet.__init__" (defArgs s_BadInlet___init__) (defBody s_BadInlet___init__) (defScope s_BadInlet___init__) (d_BadInlet___init__.dvs K) [] (d_BadInlet___init__.at_ K) fd
  f_BadStream___init__ : ∃ fd, FunD K "__init__" "BadStream.__init__" (defArgs s_BadStream___init__) (defBody s_BadStream___init__) (defScope s_BadStream___init__) (d_BadStream___init__.dvs K) [] (d_BadStream___init__.at_ K) fd
  f_BadWish___init__ : ∃ fd, FunD K "__init__" "BadWish.__init__" (defArgs s_BadWish___init__) (defBody s_BadWish___init__) (defScope s_BadWish___init__) (d_BadWish___init__.dvs K) [] (d_BadWish___init__.at_ K) fd
  f_BadDays___init__ : ∃ fd, FunD K "__init__" "BadDays.__init__" (defArgs s_BadDays___init__) (defBody s_BadDays___init__) (defScope s_BadDays___init__) (d_BadDays___init__.dvs K) [] (d_BadDays___init__.at_ K) fd
  f_BadTable___init__ : ∃ fd, FunD K "__init__" "BadTable.__init__" (defArgs s_BadTable___init__) (defBody s_BadTable___init__) (defScope s_BadTable___init__) (d_BadTable___init__.dvs K) [] (d_BadTable___init__.at_ K) fd
  f_BadSight___init__ : ∃ fd, FunD K "__init__" "BadSight.__init__" (defArgs s_BadSight___init__) (defBody s_BadSight___init__) (defScope s_BadSight___init__) (d_BadSight___init__.dvs K) [] (d_BadSight___init__.at_ K) fd
  f_BadDeed___init__ : ∃ fd, FunD K "__init__" "BadDeed.__init__" (defArgs s_BadDeed___init__) (defBody s_BadDeed___init__) (defScope s_BadDeed___init__) (d_BadDeed___init__.dvs K) [] (d_BadDeed___init__.at_ K) fd
  f_NoAccount___init__ : ∃ fd, FunD K "__init__" "NoAccount.__init__" (defArgs s_NoAccount___init__) (defBody s_NoAccount___init__) (defScope s_NoAccount___init__) (d_NoAccount___init__.dvs K) [] (d_NoAccount___init__.at_ K) fd
  f_NoStream___init__ : ∃ fd, FunD K "__init__" "NoStream.__init__" (defArgs s_NoStream___init__) (defBody s_NoStream___init__) (defScope s_NoStream___init__) (d_NoStream___init__.dvs K) [] (d_NoStream___init__.at_ K) fd
  f_InUse___init__ : ∃ fd, FunD K "__init__" "InUse.__init__" (defArgs s_InUse___init__) (defBody s_InUse___init__) (defScope s_InUse___init__) (d_InUse___init__.dvs K) [] (d_InUse___init__.at_ K) fd
  f_TooMuch___init__ : ∃ fd, FunD K "__init__" "TooMuch.__init__" (defArgs s_TooMuch___init__) (defBody s_TooMuch___init__) (defScope s_TooMuch___init__) (d_TooMuch___init__.dvs K) [] (d_TooMuch___init__.at_ K) fd
  f_Clash___init__ : ∃ fd, FunD K "__init__" "Clash.__init__" (defArgs s_Clash___init__) (defBody s_Clash___init__) (defScope s_Clash___init__) (d_Clash___init__.dvs K) [] (d_Clash___init__.at_ K) fd
  f_BadLine___init__ : ∃ fd, FunD K "__init__" "BadLine.__init__" (defArgs s_BadLine___init__) (defBody s_BadLine___init__) (defScope s_BadLine___init__) (d_BadLine___init__.dvs K) [] (d_BadLine___init__.at_ K) fd
  f_NothingToUndo___init__ : ∃ fd, FunD K "__init__" "NothingToUndo.__init__" (defArgs s_NothingToUndo___init__) (defBody s_NothingToUndo___init__) (defScope s_NothingToUndo___init__) (d_NothingToUndo___init__.dvs K) [] (d_NothingToUndo___init__.at_ K) fd
  f_NothingToRedo___init__ : ∃ fd, FunD K "__init__" "NothingToRedo.__init__" (defArgs s_NothingToRedo___init__) (defBody s_NothingToRedo___init__) (defScope s_NothingToRedo___init__) (d_NothingToRedo___init__.dvs K) [] (d_NothingToRedo___init__.at_ K) fd
  f_UnlikeBooks___init__ : ∃ fd, FunD K "__init__" "UnlikeBooks.__init__" (defArgs s_UnlikeBooks___init__) (defBody s_UnlikeBooks___init__) (defScope s_UnlikeBooks___init__) (d_UnlikeBooks___init__.dvs K) [] (d_UnlikeBooks___init__.at_ K) fd
  f__law_cell : ∃ fd, FunD K "_law_cell" "_law_cell" (defArgs s__law_cell) (defBody s__law_cell) (defScope s__law_cell) (d__law_cell.dvs K) [] (d__law_cell.at_ K) fd
  f__law_box : ∃ fd, FunD K "_law_box" "_law_box" (defArgs s__law_box) (defBody s__law_box) (defScope s__law_box) (d__law_box.dvs K) [] (d__law_box.at_ K) fd
  f__law_take : ∃ fd, FunD K "_law_take" "_law_take" (defArgs s__law_take) (defBody s__law_take) (defScope s__law_take) (d__law_take.dvs K) [] (d__law_take.at_ K) fd
  f__law_same : ∃ fd, FunD K "_law_same" "_law_same" (defArgs s__law_same) (defBody s__law_same) (defScope s__law_same) (d__law_same.dvs K) [] (d__law_same.at_ K) fd
  f__law_kinds : ∃ fd, FunD K "_law_kinds" "_law_kinds" (defArgs s__law_kinds) (defBody s__law_kinds) (defScope s__law_kinds) (d__law_kinds.dvs K) [] (d__law_kinds.at_ K) fd
  f__law_bases : ∃ fd, FunD K "_law_bases" "_law_bases" (defArgs s__law_bases) (defBody s__law_bases) (defScope s__law_bases) (d__law_bases.dvs K) [] (d__law_bases.at_ K) fd
  f_law : ∃ fd, FunD K "law" "law" (defArgs s_law) (defBody s_law) (defScope s_law) (d_law.dvs K) [] (d_law.at_ K) fd
theorem tx_of {K : PySem.W.Frag} {h : Heap} {mg : Str → Option Value} (X : K.In h) (G : h.Ns mainGlobals mg) (c : PH.SaysP fa fn K) : Tx K mg where
  g_StreamError := He.glo_ok X G (c.fact 0)
  g_ByZero := He.glo_ok X G (c.fact 1)
  g_BadNumber := He.glo_ok X G (c.fact 2)
  g_BadText := He.glo_ok X G (c.fact 3)
  g_BadSystem := He.glo_ok X G (c.fact 4)
  g_BadName := He.glo_ok X G (c.fact 5)
  g_BadAmount := He.glo_ok X G (c.fact 6)
  g_BadInlet := He.glo_ok X G (c.fact 7)
  g_BadStream := He.glo_ok X G (c.fact 8)
  g_BadWish := He.glo_ok X G (c.fact 9)
  g_BadDays := He.glo_ok X G (c.fact 10)
  g_BadTable := He.glo_ok X G (c.fact 11)
  g_BadSight := He.glo_ok X G (c.fact 12)
  g_BadDeed := He.glo_ok X G (c.fact 13)
  g_NoAccount := He.glo_ok X G (c.fact 14)
  g_NoStream := He.glo_ok X G (c.fact 15)
  g_InUse := He.glo_ok X G (c.fact 16)
  g_TooMuch := He.glo_ok X G (c.fact 17)
  g_Clash := He.glo_ok X G (c.fact 18)
  g_BadLine := He.glo_ok X G (c.fact 19)
  g_NothingToUndo := He.glo_ok X G (c.fact 20)
  g_NothingToRedo := He.glo_ok X G (c.fact 21)
  g_UnlikeBooks := He.glo_ok X G (c.fact 22)
  g__law_cell := He.glo_ok X G (c.fact 23)
  g__law_box := He.glo_ok X G (c.fact 24)
  g__law_take := He.glo_ok X G (c.fact 25)
  g__law_same := He.glo_ok X G (c.fact 26)
  g__law_kinds := He.glo_ok X G (c.fact 27)
  g__law_bases := He.glo_ok X G (c.fact 28)
  g_law := He.glo_ok X G (c.fact 29)
  b_abs := He.free_ok X G (c.fact 30)
  b_bool := He.free_ok X G (c.fact 31)
  b_int := He.free_ok X G (c.fact 32)
  b_isinstance := He.free_ok X G (c.fact 33)
  b_len := He.free_ok X G (c.fact 34)
  b_range := He.free_ok X G (c.fact 35)
  b_repr := He.free_ok X G (c.fact 36)
  x_ByZero := PH.oex_ok (c.fact 37)
  xi_ByZero := PH.def_ok (c.fact 38)
  xm_ByZero := He.exm_ok (c.fact 39)
  x_BadNumber := PH.oex_ok (c.fact 40)
  xi_BadNumber := PH.def_ok (c.fact 41)
  xf_BadNumber := PH.xf_ok (c.fact 42)
  xn_BadNumber := He.noat_ok (c.fact 43)
  xm_BadNumber := He.exm_ok (c.fact 44)
  x_BadText := PH.oex_ok (c.fact 45)
  xi_BadText := PH.def_ok (c.fact 46)
  xm_BadText := He.exm_ok (c.fact 47)
  x_BadSystem := PH.oex_ok (c.fact 48)
  xi_BadSystem := PH.def_ok (c.fact 49)
  xm_BadSystem := He.exm_ok (c.fact 50)
  x_BadName := PH.oex_ok (c.fact 51)
  xi_BadName := PH.def_ok (c.fact 52)
  xf_BadName := PH.xf_ok (c.fact 53)
  xn_BadName := He.noat_ok (c.fact 54)
  xm_BadName := He.exm_ok (c.fact 55)
  x_BadAmount := PH.oex_ok (c.fact 56)
  xi_BadAmount := PH.def_ok (c.fact 57)
  xf_BadAmount := PH.xf_ok (c.fact 58)
  xn_BadAmount := He.noat_ok (c.fact 59)
  xm_BadAmount := He.exm_ok (c.fact 60)
  x_BadInlet := PH.oex_ok (c.fact 61)
  xi_BadInlet := PH.def_ok (c.fact 62)
  xf_BadInlet := PH.xf_ok (c.fact 63)
  xn_BadInlet := He.noat_ok (c.fact 64)
  xm_BadInlet := He.exm_ok (c.fact 65)
  x_BadStream := PH.oex_ok (c.fact 66)
  xi_BadStream := PH.def_ok (c.fact 67)
  xf_BadStream := PH.xf_ok (c.fact 68)
  xn_BadStream := He.noat_ok (c.fact 69)
  xm_BadStream := He.exm_ok (c.fact 70)
  x_BadWish := PH.oex_ok (c.fact 71)
  xi_BadWish := PH.def_ok (c.fact 72)
  xf_BadWish := PH.xf_ok (c.fact 73)
  xn_BadWish := He.noat_ok (c.fact 74)
  xm_BadWish := He.exm_ok (c.fact 75)
  x_BadDays := PH.oex_ok (c.fact 76)
  xi_BadDays := PH.def_ok (c.fact 77)
  xf_BadDays := PH.xf_ok (c.fact 78)
  xn_BadDays := He.noat_ok (c.fact 79)
  xm_BadDays := He.exm_ok (c.fact 80)
  x_BadTable := PH.oex_ok (c.fact 81)
  xi_BadTable := PH.def_ok (c.fact 82)
  xm_BadTable := He.exm_ok (c.fact 83)
  x_BadSight := PH.oex_ok (c.fact 84)
  xi_BadSight := PH.def_ok (c.fact 85)
  xf_BadSight := PH.xf_ok (c.fact 86)
  xn_BadSight := He.noat_ok (c.fact 87)
  xm_BadSight := He.exm_ok (c.fact 88)
  x_BadDeed := PH.oex_ok (c.fact 89)
  xi_BadDeed := PH.def_ok (c.fact 90)
  xf_BadDeed := PH.xf_ok (c.fact 91)
  xn_BadDeed := He.noat_ok (c.fact 92)
  xm_BadDeed := He.exm_ok (c.fact 93)
  x_NoAccount := PH.oex_ok (c.fact 94)
  xi_NoAccount := PH.def_ok (c.fact 95)
  xf_NoAccount := PH.xf_ok (c.fact 96)
  xn_NoAccount := He.noat_ok (c.fact 97)
  xm_NoAccount := He.exm_ok (c.fact 98)
  x_NoStream := PH.oex_ok (c.fact 99)
  xi_NoStream := PH.def_ok (c.fact 100)
  xf_NoStream := PH.xf_ok (c.fact 101)
  xn_NoStream := He.noat_ok (c.fact 102)
  xm_NoStream := He.exm_ok (c.fact 103)
  x_InUse := PH.oex_ok (c.fact 104)
  xi_InUse := PH.def_ok (c.fact 105)
  xf_InUse := PH.xf_ok (c.fact 106)
  xn_InUse := He.noat_ok (c.fact 107)
  xm_InUse := He.exm_ok (c.fact 108)
  x_TooMuch := PH.oex_ok (c.fact 109)
  xi_TooMuch := PH.def_ok (c.fact 110)
  xf_TooMuch := PH.xf_ok (c.fact 111)
  xn_TooMuch := He.noat_ok (c.fact 112)
  xm_TooMuch := He.exm_ok (c.fact 113)
  x_Clash := PH.oex_ok (c.fact 114)
  xi_Clash := PH.def_ok (c.fact 115)
  xm_Clash := He.exm_ok (c.fact 116)
  x_BadLine := PH.oex_ok (c.fact 117)
  xi_BadLine := PH.def_ok (c.fact 118)
  xf_BadLine := PH.xf_ok (c.fact 119)
  xn_BadLine := He.noat_ok (c.fact 120)
  xm_BadLine := He.exm_ok (c.fact 121)
  x_NothingToUndo := PH.oex_ok (c.fact 122)
  xi_NothingToUndo := PH.def_ok (c.fact 123)
  xm_NothingToUndo := He.exm_ok (c.fact 124)
  x_NothingToRedo := PH.oex_ok (c.fact 125)
  xi_NothingToRedo := PH.def_ok (c.fact 126)
  xm_NothingToRedo := He.exm_ok (c.fact 127)
  x_UnlikeBooks := PH.oex_ok (c.fact 128)
  xi_UnlikeBooks := PH.def_ok (c.fact 129)
  xm_UnlikeBooks := He.exm_ok (c.fact 130)
  sin := PH.sin_ok (c.fact 131)
  exc_all := PH.allX_ok (c.fact 132)
  exc_tab := PH.tab_ok (c.fact 133)
  exc_up := PH.up_ok (c.fact 134)
  exc_upT := PH.upT_ok (c.fact 135)
  b_ValueError := He.free_ok X G (c.fact 136)
  f_ByZero___init__ := c.def_ 0
  f_BadNumber___init__ := c.def_ 1
  f_BadText___init__ := c.def_ 2
  f_BadSystem___init__ := c.def_ 3
  f_BadName___init__ := c.def_ 4
  f_BadAmount___init__ := c.def_ 5
  f_BadInlet___init__ := c.def_ 6
  f_BadStream___init__ := c.def_ 7
  f_BadWish___init__ := c.def_ 8
  f_BadDays___init__ := c.def_ 9
  f_BadTable___init__ := c.def_ 10
  f_BadSight___init__ := c.def_ 11
  f_BadDeed___init__ := c.def_ 12
  f_NoAccount___init__ := c.def_ 13
  f_NoStream___init__ := c.def_ 14
  f_InUse___init__ := c.def_ 15
  f_TooMuch___init__ := c.def_ 16
  f_Clash___init__ := c.def_ 17
  f_BadLine___init__ := c.def_ 18
  f_NothingToUndo___init__ := c.def_ 19
  f_NothingToRedo___init__ := c.def_ 20
  f_UnlikeBooks___init__ := c.def_ 21
  f__law_cell := c.def_ 22
  f__law_box := c.def_ 23
  f__law_take := c.def_ 24
  f__law_same := c.def_ 25
  f__law_kinds := c.def_ 26
  f__law_bases := c.def_ 27
  f_law := c.def_ 28
end LW
namespace LW
open PySem PySem.Spec PyProof.Rows L2 PR
/-! ### a def of the text, by what its body must do -/
section
variable {P : Program} {w : World} {K : PySem.W.Frag} {mg : Str → Option Value} {base : Heap}
theorem fnr {x q : Str} {st : Stmt} {f : Addr} {N ps : List Str} {k : Nat} {sp : Sp} (D : ∃ fd, FunD K x q (defArgs st) (defBody st) (defScope st) [] [] f fd) (S : FnScope N ps (defScope st)) (len : ∀ vs H Q E, sp vs H Q E → vs.length = ps.length)
    (hb : ∀ (kV doc pm : Value) (an : Option Addr) (cdv ct : Value) (us : List Value), us.length = ps.length → bindArgs (PySem.W.fnOf x q (defArgs st) (defBody st) (defScope st) .none kV doc pm an cdv ct) ⟨us, []⟩ = pure (ps.zip us))
    (body : ∀ (cdv : Value) (A : Around) (outer : List Env) (s : Shared) (H : Hp) (vs : List V) (Q : VK) (E : XK), Room k (A.deeper (envOfC q (defScope st) s.heap.objs.size f cdv)) → sp vs H Q E →
      Wb (cxOf (L2.CX P w) P w K mg base N q (defScope st) f cdv A outer s H E) (defBody st) { nx := fun _ H' => Q .non H', rt := Q } (start N vs) H) : FnR P w K mg base (L2.CX P w) (k + 1) f sp := by
  obtain ⟨fd, F⟩ := D
  have F1 : FnOk P w K mg base (L2.CX P w) (k + 1) f fd ps sp := F.ok S len fun cdv A outer s H vs Q E hr h => ⟨_, pbW, body cdv A outer s H vs Q E hr h⟩
  have F2 := F1.raw (F.bindsN hb) .nil
  exact F2.imp fun vs H Q E h => by rw [List.append_nil]; exact h
end
theorem kept {K : PySem.W.Frag} {x q : Str} {ar : Arguments} {bd : List Stmt} {sc : Scope} {dv : List V} {kw : List (Str × V)} {f : Addr} (D : ∃ fd, FunD K x q ar bd sc dv kw f fd) : PySem.W.keepIn K (.ref f) = true := by
  obtain ⟨fd, F⟩ := D
  exact F.kp
theorem upd_back {H : Hp} {a : Addr} {o : HO} (h : H a = none) : del (upd H a o) a = H := by
  funext b
  by_cases e : b = a
  · rw [e, del_same, h]
  · rw [del_ne e, upd_ne e]
/-! ### errors -/
/-- an error without a value -/
def spErr0 (C : Addr) : Sp := fun vs H Q _ => ∃ a, vs = [.ref a] ∧ H a = some (exo a C none) ∧ Q .non H
/-- an error with one value, kept under f -/
def spErr1 (C : Addr) (f : Str) : Sp := fun vs H Q _ => ∃ a g, vs = [.ref a, g] ∧ H a = some (exo a C none) ∧ ∀ dx, H dx = none → dx ≠ a → Q .non (upd (upd H dx (exd dx [(f, g)])) a (exo a C (some dx)))
theorem same_new {H : Hp} {p : Addr} {o : HO} (h : H p = none) : Same H (upd H p o) := fun b u e => by
  rw [upd_ne (ne_of_none e h)]
  exact e
/-- // by any divisor but 0 below 2 ^ 9000 -/
def CDivA (_ j : Int) : Prop := j ≠ 0 ∧ j.natAbs < 2 ^ 9000
theorem op_fdivA {X : Cx} : OpR X (binaryOp .FloorDiv) (rI CDivA fun i j => .int (i.fdiv j)) := opI fun i j _ _ _ _ _ hc q =>
  floordiv_int hc.1 q (.inl (PyProof.noPylong_of_log2 (PySem.Flt.log2_lt_of (by decide) hc.2)))
end LW
namespace LW
open PySem PySem.Spec PyProof.Rows L2 PR
section
variable {P : Program} {w : World} {K : PySem.W.Frag} {mg : Str → Option Value} {base : Heap}
theorem sc_ByZero : FnScope ["self"] ["self"] (defScope s_ByZero___init__) := ⟨rfl, rfl, rfl, by decide +kernel, rfl, by decide +kernel, by decide +kernel⟩
theorem fn_ByZero (T : Tx K mg) : FnR P w K mg base (L2.CX P w) 1 (He.ma K (He.ga K "ByZero") "__init__") (spErr0 (He.ga K "ByZero")) := by
  refine fnr T.f_ByZero___init__ sc_ByZero (fun vs H Q E h => ?_) (fun _ _ _ _ _ _ us hl => match us, hl with | [_], _ => rfl) fun cdv A outer s H vs Q E hr h => ?_
  · obtain ⟨a, rfl, _⟩ := h
    rfl
  · obtain ⟨a, rfl, ha, k⟩ := h
    refine s_one (s_expr (we_of (pe_sinit rfl T.g_StreamError T.sin.1 T.sin.2 paW) ?_))
    exact a_cons (w_var 0 rfl (a_cons (w_str (a_nil ⟨a, _, _, rfl, by show 1 ≤ 1000; decide, T.x_ByZero, ha, k⟩))))
theorem mk_ByZero {X : Cx} {p pos : Pos} (T : Tx X.K X.mg) (hr : Room 2 X.A) (hg : Gl X "ByZero" := by rfl) :
    PMk X (.Call (.Name "ByZero" p) [] [] pos) (fun _ H Q => Q (.ref (He.ga X.K "ByZero")) none H) := by
  intro pins s σ H Q I h
  obtain ⟨fd, F⟩ := T.f_ByZero___init__
  have F1 : FnOk X.prog X.w X.K X.mg X.base (L2.CX X.prog X.w) 1 (He.ma X.K (He.ga X.K "ByZero") "__init__") fd ["self"] (spErr0 (He.ga X.K "ByZero")) := F.ok sc_ByZero (fun vs H Q E h => by obtain ⟨a, rfl, _⟩ := h; rfl) fun cdv A outer s H vs Q E hr h => by
    obtain ⟨a, rfl, ha, k⟩ := h
    refine ⟨_, pbW, ?_⟩
    refine s_one (s_expr (we_of (pe_sinit rfl T.g_StreamError T.sin.1 T.sin.2 paW) ?_))
    exact a_cons (w_var 0 rfl (a_cons (w_str (a_nil ⟨a, _, _, rfl, by show 1 ≤ 1000; decide, T.x_ByZero, ha, k⟩))))
  refine pmk_oex0 T.x_ByZero T.xi_ByZero.at_ T.xi_ByZero.ty F1 hr (F.bindsN fun _ _ _ _ _ _ us hl => match us, hl with | [_], _ => rfl) passL hg T.g_ByZero (by decide) pins s σ H Q I ?_
  intro a ha
  refine ⟨a, rfl, upd_same, rfl, upd_same, ?_⟩
  rw [upd_back ha]
  exact h
theorem sc_BadNumber : FnScope ["self", "given"] ["self", "given"] (defScope s_BadNumber___init__) := ⟨rfl, rfl, rfl, by decide +kernel, rfl, by decide +kernel, by decide +kernel⟩
theorem fn_BadNumber (T : Tx K mg) : FnR P w K mg base (L2.CX P w) 1 (He.ma K (He.ga K "BadNumber") "__init__") (spErr1 (He.ga K "BadNumber") "given") := by
  refine fnr T.f_BadNumber___init__ sc_BadNumber (fun vs H Q E h => ?_) (fun _ _ _ _ _ _ us hl => match us, hl with | [_, _], _ => rfl) fun cdv A outer s H vs Q E hr h => ?_
  · obtain ⟨a, g, rfl, _⟩ := h
    rfl
  · obtain ⟨a, g, rfl, ha, k⟩ := h
    refine s_cons (s_expr (we_of (pe_sinit rfl T.g_StreamError T.sin.1 T.sin.2 paW) ?_))
    refine a_cons (w_var 0 rfl (a_cons (w_str (a_nil ⟨a, _, _, rfl, by show 1 ≤ 1000; decide, T.x_BadNumber, ha, ?_⟩))))
    refine s_one (ws_of (ps_ost peW peW) ?_)
    exact w_var 1 rfl (w_var 0 rfl ⟨a, _, rfl, T.x_BadNumber, T.xn_BadNumber, .inl ⟨ha, fun dx h1 h2 => k dx h1 h2⟩⟩)
theorem mk_BadNumber {X : Cx} {e : Expr} {p pos : Pos} (T : Tx X.K X.mg) (hr : Room 2 X.A) (hg : Gl X "BadNumber" := by rfl) (he : starEach [e] X.env = (false, eval e X.env) :: starEach [] X.env := by rfl) :
    PMk X (.Call (.Name "BadNumber" p) [e] [] pos) (fun σ H Q => We X e σ H fun v H1 => ∀ d, H1 d = none → Q (.ref (He.ga X.K "BadNumber")) (some d) (upd H1 d (.xd [("given", v)]))) := by
  intro pins s σ H Q I h
  obtain ⟨fd, F⟩ := T.f_BadNumber___init__
  have F1 : FnOk X.prog X.w X.K X.mg X.base (L2.CX X.prog X.w) 1 (He.ma X.K (He.ga X.K "BadNumber") "__init__") fd ["self", "given"] (spErr1 (He.ga X.K "BadNumber") "given") := F.ok sc_BadNumber (fun vs H Q E h => by obtain ⟨a, g, rfl, _⟩ := h; rfl) fun cdv A outer s H vs Q E hr h => by
    obtain ⟨a, g, rfl, ha, k⟩ := h
    refine ⟨_, pbW, ?_⟩
    refine s_cons (s_expr (we_of (pe_sinit rfl T.g_StreamError T.sin.1 T.sin.2 paW) ?_))
    refine a_cons (w_var 0 rfl (a_cons (w_str (a_nil ⟨a, _, _, rfl, by show 1 ≤ 1000; decide, T.x_BadNumber, ha, ?_⟩))))
    refine s_one (ws_of (ps_ost peW peW) ?_)
    exact w_var 1 rfl (w_var 0 rfl ⟨a, _, rfl, T.x_BadNumber, T.xn_BadNumber, .inl ⟨ha, fun dx h1 h2 => k dx h1 h2⟩⟩)
  refine pmk_oex (dvs := []) (ds := []) T.x_BadNumber T.xi_BadNumber.at_ T.xi_BadNumber.ty F1 hr (F.bindsN fun _ _ _ _ _ _ us hl => match us, hl with | [_, _], _ => rfl) .nil passL hg T.g_BadNumber (pa_cons peW pa_nil he) (by decide) he (by rfl) pins s σ H Q I ?_
  refine We.mono h fun v H1 k => ⟨by show 1 ≤ 1000; decide, fun a ha => ?_⟩
  refine ⟨a, v, rfl, upd_same, fun dx h1 h2 => ?_⟩
  have hd : H1 dx = none := by rw [upd_ne h2] at h1; exact h1
  refine ⟨rfl, dx, _, upd_same, by rw [upd_ne h2, upd_same], hd, ?_⟩
  have e : upd (del (upd (upd (upd H1 a (exo a (He.ga X.K "BadNumber") none)) dx (exd dx [("given", v)])) a (exo a (He.ga X.K "BadNumber") (some dx))) a) dx (.xd [("given", v)]) = upd H1 dx (.xd [("given", v)]) := by
    funext b
    by_cases e1 : b = dx
    · rw [e1, upd_same, upd_same]
    · rw [upd_ne e1, upd_ne e1]
      by_cases e2 : b = a
      · rw [e2, del_same, ha]
      · rw [del_ne e2, upd_ne e2, upd_ne e1, upd_ne e2]
  rw [e]
  exact k dx hd
theorem sc_BadText : FnScope ["self"] ["self"] (defScope s_BadText___init__) := ⟨rfl, rfl, rfl, by decide +kernel, rfl, by decide +kernel, by decide +kernel⟩
theorem fn_BadText (T : Tx K mg) : FnR P w K mg base (L2.CX P w) 1 (He.ma K (He.ga K "BadText") "__init__") (spErr0 (He.ga K "BadText")) := by
  refine fnr T.f_BadText___init__ sc_BadText (fun vs H Q E h => ?_) (fun _ _ _ _ _ _ us hl => match us, hl with | [_], _ => rfl) fun cdv A outer s H vs Q E hr h => ?_
  · obtain ⟨a, rfl, _⟩ := h
    rfl
  · obtain ⟨a, rfl, ha, k⟩ := h
    refine s_one (s_expr (we_of (pe_sinit rfl T.g_StreamError T.sin.1 T.sin.2 paW) ?_))
    exact a_cons (w_var 0 rfl (a_cons (w_str (a_nil ⟨a, _, _, rfl, by show 1 ≤ 1000; decide, T.x_BadText, ha, k⟩))))
theorem mk_BadText {X : Cx} {p pos : Pos} (T : Tx X.K X.mg) (hr : Room 2 X.A) (hg : Gl X "BadText" := by rfl) :
    PMk X (.Call (.Name "BadText" p) [] [] pos) (fun _ H Q => Q (.ref (He.ga X.K "BadText")) none H) := by
  intro pins s σ H Q I h
  obtain ⟨fd, F⟩ := T.f_BadText___init__
  have F1 : FnOk X.prog X.w X.K X.mg X.base (L2.CX X.prog X.w) 1 (He.ma X.K (He.ga X.K "BadText") "__init__") fd ["self"] (spErr0 (He.ga X.K "BadText")) := F.ok sc_BadText (fun vs H Q E h => by obtain ⟨a, rfl, _⟩ := h; rfl) fun cdv A outer s H vs Q E hr h => by
    obtain ⟨a, rfl, ha, k⟩ := h
    refine ⟨_, pbW, ?_⟩
    refine s_one (s_expr (we_of (pe_sinit rfl T.g_StreamError T.sin.1 T.sin.2 paW) ?_))
    exact a_cons (w_var 0 rfl (a_cons (w_str (a_nil ⟨a, _, _, rfl, by show 1 ≤ 1000; decide, T.x_BadText, ha, k⟩))))
  refine pmk_oex0 T.x_BadText T.xi_BadText.at_ T.xi_BadText.ty F1 hr (F.bindsN fun _ _ _ _ _ _ us hl => match us, hl with | [_], _ => rfl) passL hg T.g_BadText (by decide) pins s σ H Q I ?_
  intro a ha
  refine ⟨a, rfl, upd_same, rfl, upd_same, ?_⟩
  rw [upd_back ha]
  exact h
theorem sc_BadSystem : FnScope ["self"] ["self"] (defScope s_BadSystem___init__) := ⟨rfl, rfl, rfl, by decide +kernel, rfl, by decide +kernel, by decide +kernel⟩
theorem fn_BadSystem (T : Tx K mg) : FnR P w K mg base (L2.CX P w) 1 (He.ma K (He.ga K "BadSystem") "__init__") (spErr0 (He.ga K "BadSystem")) := by
  refine fnr T.f_BadSystem___init__ sc_BadSystem (fun vs H Q E h => ?_) (fun _ _ _ _ _ _ us hl => match us, hl with | [_], _ => rfl) fun cdv A outer s H vs Q E hr h => ?_
  · obtain ⟨a, rfl, _⟩ := h
    rfl
  · obtain ⟨a, rfl, ha, k⟩ := h
    refine s_one (s_expr (we_of (pe_sinit rfl T.g_StreamError T.sin.1 T.sin.2 paW) ?_))
    exact a_cons (w_var 0 rfl (a_cons (w_str (a_nil ⟨a, _, _, rfl, by show 1 ≤ 1000; decide, T.x_BadSystem, ha, k⟩))))
theorem mk_BadSystem {X : Cx} {p pos : Pos} (T : Tx X.K X.mg) (hr : Room 2 X.A) (hg : Gl X "BadSystem" := by rfl) :
    PMk X (.Call (.Name "BadSystem" p) [] [] pos) (fun _ H Q => Q (.ref (He.ga X.K "BadSystem")) none H) := by
  intro pins s σ H Q I h
  obtain ⟨fd, F⟩ := T.f_BadSystem___init__
  have F1 : FnOk X.prog X.w X.K X.mg X.base (L2.CX X.prog X.w) 1 (He.ma X.K (He.ga X.K "BadSystem") "__init__") fd ["self"] (spErr0 (He.ga X.K "BadSystem")) := F.ok sc_BadSystem (fun vs H Q E h => by obtain ⟨a, rfl, _⟩ := h; rfl) fun cdv A outer s H vs Q E hr h => by
    obtain ⟨a, rfl, ha, k⟩ := h
    refine ⟨_, pbW, ?_⟩
    refine s_one (s_expr (we_of (pe_sinit rfl T.g_StreamError T.sin.1 T.sin.2 paW) ?_))
    exact a_cons (w_var 0 rfl (a_cons (w_str (a_nil ⟨a, _, _, rfl, by show 1 ≤ 1000; decide, T.x_BadSystem, ha, k⟩))))
  refine pmk_oex0 T.x_BadSystem T.xi_BadSystem.at_ T.xi_BadSystem.ty F1 hr (F.bindsN fun _ _ _ _ _ _ us hl => match us, hl with | [_], _ => rfl) passL hg T.g_BadSystem (by decide) pins s σ H Q I ?_
  intro a ha
  refine ⟨a, rfl, upd_same, rfl, upd_same, ?_⟩
  rw [upd_back ha]
  exact h
theorem sc_BadName : FnScope ["self", "given"] ["self", "given"] (defScope s_BadName___init__) := ⟨rfl, rfl, rfl, by decide +kernel, rfl, by decide +kernel, by decide +kernel⟩
theorem fn_BadName (T : Tx K mg) : FnR P w K mg base (L2.CX P w) 1 (He.ma K (He.ga K "BadName") "__init__") (spErr1 (He.ga K "BadName") "given") := by
  refine fnr T.f_BadName___init__ sc_BadName (fun vs H Q E h => ?_) (fun _ _ _ _ _ _ us hl => match us, hl with | [_, _], _ => rfl) fun cdv A outer s H vs Q E hr h => ?_
  · obtain ⟨a, g, rfl, _⟩ := h
    rfl
  · obtain ⟨a, g, rfl, ha, k⟩ := h
    refine s_cons (s_expr (we_of (pe_sinit rfl T.g_StreamError T.sin.1 T.sin.2 paW) ?_))
    refine a_cons (w_var 0 rfl (a_cons (w_str (a_nil ⟨a, _, _, rfl, by show 1 ≤ 1000; decide, T.x_BadName, ha, ?_⟩))))
    refine s_one (ws_of (ps_ost peW peW) ?_)
    exact w_var 1 rfl (w_var 0 rfl ⟨a, _, rfl, T.x_BadName, T.xn_BadName, .inl ⟨ha, fun dx h1 h2 => k dx h1 h2⟩⟩)
theorem mk_BadName {X : Cx} {e : Expr} {p pos : Pos} (T : Tx X.K X.mg) (hr : Room 2 X.A) (hg : Gl X "BadName" := by rfl) (he : starEach [e] X.env = (false, eval e X.env) :: starEach [] X.env := by rfl) :
    PMk X (.Call (.Name "BadName" p) [e] [] pos) (fun σ H Q => We X e σ H fun v H1 => ∀ d, H1 d = none → Q (.ref (He.ga X.K "BadName")) (some d) (upd H1 d (.xd [("given", v)]))) := by
  intro pins s σ H Q I h
  obtain ⟨fd, F⟩ := T.f_BadName___init__
  have F1 : FnOk X.prog X.w X.K X.mg X.base (L2.CX X.prog X.w) 1 (He.ma X.K (He.ga X.K "BadName") "__init__") fd ["self", "given"] (spErr1 (He.ga X.K "BadName") "given") := F.ok sc_BadName (fun vs H Q E h => by obtain ⟨a, g, rfl, _⟩ := h; rfl) fun cdv A outer s H vs Q E hr h => by
    obtain ⟨a, g, rfl, ha, k⟩ := h
    refine ⟨_, pbW, ?_⟩
    refine s_cons (s_expr (we_of (pe_sinit rfl T.g_StreamError T.sin.1 T.sin.2 paW) ?_))
    refine a_cons (w_var 0 rfl (a_cons (w_str (a_nil ⟨a, _, _, rfl, by show 1 ≤ 1000; decide, T.x_BadName, ha, ?_⟩))))
    refine s_one (ws_of (ps_ost peW peW) ?_)
    exact w_var 1 rfl (w_var 0 rfl ⟨a, _, rfl, T.x_BadName, T.xn_BadName, .inl ⟨ha, fun dx h1 h2 => k dx h1 h2⟩⟩)
  refine pmk_oex (dvs := []) (ds := []) T.x_BadName T.xi_BadName.at_ T.xi_BadName.ty F1 hr (F.bindsN fun _ _ _ _ _ _ us hl => match us, hl with | [_, _], _ => rfl) .nil passL hg T.g_BadName (pa_cons peW pa_nil he) (by decide) he (by rfl) pins s σ H Q I ?_
  refine We.mono h fun v H1 k => ⟨by show 1 ≤ 1000; decide, fun a ha => ?_⟩
  refine ⟨a, v, rfl, upd_same, fun dx h1 h2 => ?_⟩
  have hd : H1 dx = none := by rw [upd_ne h2] at h1; exact h1
  refine ⟨rfl, dx, _, upd_same, by rw [upd_ne h2, upd_same], hd, ?_⟩
  have e : upd (del (upd (upd (upd H1 a (exo a (He.ga X.K "BadName") none)) dx (exd dx [("given", v)])) a (exo a (He.ga X.K "BadName") (some dx))) a) dx (.xd [("given", v)]) = upd H1 dx (.xd [("given", v)]) := by
    funext b
    by_cases e1 : b = dx
    · rw [e1, upd_same, upd_same]
    · rw [upd_ne e1, upd_ne e1]
      by_cases e2 : b = a
      · rw [e2, del_same, ha]
      · rw [del_ne e2, upd_ne e2, upd_ne e1, upd_ne e2]
  rw [e]
  exact k dx hd
theorem sc_BadAmount : FnScope ["self", "given"] ["self", "given"] (defScope s_BadAmount___init__) := ⟨rfl, rfl, rfl, by decide +kernel, rfl, by decide +kernel, by decide +kernel⟩
theorem fn_BadAmount (T : Tx K mg) : FnR P w K mg base (L2.CX P w) 1 (He.ma K (He.ga K "BadAmount") "__init__") (spErr1 (He.ga K "BadAmount") "given") := by
  refine fnr T.f_BadAmount___init__ sc_BadAmount (fun vs H Q E h => ?_) (fun _ _ _ _ _ _ us hl => match us, hl with | [_, _], _ => rfl) fun cdv A outer s H vs Q E hr h => ?_
  · obtain ⟨a, g, rfl, _⟩ := h
    rfl
  · obtain ⟨a, g, rfl, ha, k⟩ := h
    refine s_cons (s_expr (we_of (pe_sinit rfl T.g_StreamError T.sin.1 T.sin.2 paW) ?_))
    refine a_cons (w_var 0 rfl (a_cons (w_str (a_nil ⟨a, _, _, rfl, by show 1 ≤ 1000; decide, T.x_BadAmount, ha, ?_⟩))))
    refine s_one (ws_of (ps_ost peW peW) ?_)
    exact w_var 1 rfl (w_var 0 rfl ⟨a, _, rfl, T.x_BadAmount, T.xn_BadAmount, .inl ⟨ha, fun dx h1 h2 => k dx h1 h2⟩⟩)
theorem mk_BadAmount {X : Cx} {e : Expr} {p pos : Pos} (T : Tx X.K X.mg) (hr : Room 2 X.A) (hg : Gl X "BadAmount" := by rfl) (he : starEach [e] X.env = (false, eval e X.env) :: starEach [] X.env := by rfl) :
    PMk X (.Call (.Name "BadAmount" p) [e] [] pos) (fun σ H Q => We X e σ H fun v H1 => ∀ d, H1 d = none → Q (.ref (He.ga X.K "BadAmount")) (some d) (upd H1 d (.xd [("given", v)]))) := by
  intro pins s σ H Q I h
  obtain ⟨fd, F⟩ := T.f_BadAmount___init__
  have F1 : FnOk X.prog X.w X.K X.mg X.base (L2.CX X.prog X.w) 1 (He.ma X.K (He.ga X.K "BadAmount") "__init__") fd ["self", "given"] (spErr1 (He.ga X.K "BadAmount") "given") := F.ok sc_BadAmount (fun vs H Q E h => by obtain ⟨a, g, rfl, _⟩ := h; rfl) fun cdv A outer s H vs Q E hr h => by
    obtain ⟨a, g, rfl, ha, k⟩ := h
    refine ⟨_, pbW, ?_⟩
    refine s_cons (s_expr (we_of (pe_sinit rfl T.g_StreamError T.sin.1 T.sin.2 paW) ?_))
    refine a_cons (w_var 0 rfl (a_cons (w_str (a_nil ⟨a, _, _, rfl, by show 1 ≤ 1000; decide, T.x_BadAmount, ha, ?_⟩))))
    refine s_one (ws_of (ps_ost peW peW) ?_)
    exact w_var 1 rfl (w_var 0 rfl ⟨a, _, rfl, T.x_BadAmount, T.xn_BadAmount, .inl ⟨ha, fun dx h1 h2 => k dx h1 h2⟩⟩)
  refine pmk_oex (dvs := []) (ds := []) T.x_BadAmount T.xi_BadAmount.at_ T.xi_BadAmount.ty F1 hr (F.bindsN fun _ _ _ _ _ _ us hl => match us, hl with | [_, _], _ => rfl) .nil passL hg T.g_BadAmount (pa_cons peW pa_nil he) (by decide) he (by rfl) pins s σ H Q I ?_
  refine We.mono h fun v H1 k => ⟨by show 1 ≤ 1000; decide, fun a ha => ?_⟩
  refine ⟨a, v, rfl, upd_same, fun dx h1 h2 => ?_⟩
  have hd : H1 dx = none := by rw [upd_ne h2] at h1; exact h1
  refine ⟨rfl, dx, _, upd_same, by rw [upd_ne h2, upd_same], hd, ?_⟩
  have e : upd (del (upd (upd (upd H1 a (exo a (He.ga X.K "BadAmount") none)) dx (exd dx [("given", v)])) a (exo a (He.ga X.K "BadAmount") (some dx))) a) dx (.xd [("given", v)]) = upd H1 dx (.xd [("given", v)]) := by
    funext b
    by_cases e1 : b = dx
    · rw [e1, upd_same, upd_same]
    · rw [upd_ne e1, upd_ne e1]
      by_cases e2 : b = a
      · rw [e2, del_same, ha]
      · rw [del_ne e2, upd_ne e2, upd_ne e1, upd_ne e2]
  rw [e]
  exact k dx hd
theorem sc_BadInlet : FnScope ["self", "given"] ["self", "given"] (defScope s_BadInlet___init__) := ⟨rfl, rfl, rfl, by decide +kernel, rfl, by decide +kernel, by decide +kernel⟩
theorem fn_BadInlet (T : Tx K mg) : FnR P w K mg base (L2.CX P w) 1 (He.ma K (He.ga K "BadInlet") "__init__") (spErr1 (He.ga K "BadInlet") "given") := by
  refine fnr T.f_BadInlet___init__ sc_BadInlet (fun vs H Q E h => ?_) (fun _ _ _ _ _ _ us hl => match us, hl with | [_, _], _ => rfl) fun cdv A outer s H vs Q E hr h => ?_
  · obtain ⟨a, g, rfl, _⟩ := h
    rfl
  · obtain ⟨a, g, rfl, ha, k⟩ := h
    refine s_cons (s_expr (we_of (pe_sinit rfl T.g_StreamError T.sin.1 T.sin.2 paW) ?_))
    refine a_cons (w_var 0 rfl (a_cons (w_str (a_nil ⟨a, _, _, rfl, by show 1 ≤ 1000; decide, T.x_BadInlet, ha, ?_⟩))))
    refine s_one (ws_of (ps_ost peW peW) ?_)
    exact w_var 1 rfl (w_var 0 rfl ⟨a, _, rfl, T.x_BadInlet, T.xn_BadInlet, .inl ⟨ha, fun dx h1 h2 => k dx h1 h2⟩⟩)
theorem mk_BadInlet {X : Cx} {e : Expr} {p pos : Pos} (T : Tx X.K X.mg) (hr : Room 2 X.A) (hg : Gl X "BadInlet" := by rfl) (he : starEach [e] X.env = (false, eval e X.env) :: starEach [] X.env := by rfl) :
    PMk X (.Call (.Name "BadInlet" p) [e] [] pos) (fun σ H Q => We X e σ H fun v H1 => ∀ d, H1 d = none → Q (.ref (He.ga X.K "BadInlet")) (some d) (upd H1 d (.xd [("given", v)]))) := by
  intro pins s σ H Q I h
  obtain ⟨fd, F⟩ := T.f_BadInlet___init__
  have F1 : FnOk X.prog X.w X.K X.mg X.base (L2.CX X.prog X.w) 1 (He.ma X.K (He.ga X.K "BadInlet") "__init__") fd ["self", "given"] (spErr1 (He.ga X.K "BadInlet") "given") := F.ok sc_BadInlet (fun vs H Q E h => by obtain ⟨a, g, rfl, _⟩ := h; rfl) fun cdv A outer s H vs Q E hr h => by
    obtain ⟨a, g, rfl, ha, k⟩ := h
    refine ⟨_, pbW, ?_⟩
    refine s_cons (s_expr (we_of (pe_sinit rfl T.g_StreamError T.sin.1 T.sin.2 paW) ?_))
    refine a_cons (w_var 0 rfl (a_cons (w_str (a_nil ⟨a, _, _, rfl, by show 1 ≤ 1000; decide, T.x_BadInlet, ha, ?_⟩))))
    refine s_one (ws_of (ps_ost peW peW) ?_)
    exact w_var 1 rfl (w_var 0 rfl ⟨a, _, rfl, T.x_BadInlet, T.xn_BadInlet, .inl ⟨ha, fun dx h1 h2 => k dx h1 h2⟩⟩)
  refine pmk_oex (dvs := []) (ds := []) T.x_BadInlet T.xi_BadInlet.at_ T.xi_BadInlet.ty F1 hr (F.bindsN fun _ _ _ _ _ _ us hl => match us, hl with | [_, _], _ => rfl) .nil passL hg T.g_BadInlet (pa_cons peW pa_nil he) (by decide) he (by rfl) pins s σ H Q I ?_
  refine We.mono h fun v H1 k => ⟨by show 1 ≤ 1000; decide, fun a ha => ?_⟩
  refine ⟨a, v, rfl, upd_same, fun dx h1 h2 => ?_⟩
  have hd : H1 dx = none := by rw [upd_ne h2] at h1; exact h1
  refine ⟨rfl, dx, _, upd_same, by rw [upd_ne h2, upd_same], hd, ?_⟩
  have e : upd (del (upd (upd (upd H1 a (exo a (He.ga X.K "BadInlet") none)) dx (exd dx [("given", v)])) a (exo a (He.ga X.K "BadInlet") (some dx))) a) dx (.xd [("given", v)]) = upd H1 dx (.xd [("given", v)]) := by
    funext b
    by_cases e1 : b = dx
    · rw [e1, upd_same, upd_same]
    · rw [upd_ne e1, upd_ne e1]
      by_cases e2 : b = a
      · rw [e2, del_same, ha]
      · rw [del_ne e2, upd_ne e2, upd_ne e1, upd_ne e2]
  rw [e]
  exact k dx hd
theorem sc_BadStream : FnScope ["self", "given"] ["self", "given"] (defScope s_BadStream___init__) := ⟨rfl, rfl, rfl, by decide +kernel, rfl, by decide +kernel, by decide +kernel⟩
theorem fn_BadStream (T : Tx K mg) : FnR P w K mg base (L2.CX P w) 1 (He.ma K (He.ga K "BadStream") "__init__") (spErr1 (He.ga K "BadStream") "given") := by
  refine fnr T.f_BadStream___init__ sc_BadStream (fun vs H Q E h => ?_) (fun _ _ _ _ _ _ us hl => match us, hl with | [_, _], _ => rfl) fun cdv A outer s H vs Q E hr h => ?_
  · obtain ⟨a, g, rfl, _⟩ := h
    rfl
  · obtain ⟨a, g, rfl, ha, k⟩ := h
    refine s_cons (s_expr (we_of (pe_sinit rfl T.g_StreamError T.sin.1 T.sin.2 paW) ?_))
    refine a_cons (w_var 0 rfl (a_cons (w_str (a_nil ⟨a, _, _, rfl, by show 1 ≤ 1000; decide, T.x_BadStream, ha, ?_⟩))))
    refine s_one (ws_of (ps_ost peW peW) ?_)
    exact w_var 1 rfl (w_var 0 rfl ⟨a, _, rfl, T.x_BadStream, T.xn_BadStream, .inl ⟨ha, fun dx h1 h2 => k dx h1 h2⟩⟩)
theorem mk_BadStream {X : Cx} {e : Expr} {p pos : Pos} (T : Tx X.K X.mg) (hr : Room 2 X.A) (hg : Gl X "BadStream" := by rfl) (he : starEach [e] X.env = (false, eval e X.env) :: starEach [] X.env := by rfl) :
    PMk X (.Call (.Name "BadStream" p) [e] [] pos) (fun σ H Q => We X e σ H fun v H1 => ∀ d, H1 d = none → Q (.ref (He.ga X.K "BadStream")) (some d) (upd H1 d (.xd [("given", v)]))) := by
  intro pins s σ H Q I h
  obtain ⟨fd, F⟩ := T.f_BadStream___init__
  have F1 : FnOk X.prog X.w X.K X.mg X.base (L2.CX X.prog X.w) 1 (He.ma X.K (He.ga X.K "BadStream") "__init__") fd ["self", "given"] (spErr1 (He.ga X.K "BadStream") "given") := F.ok sc_BadStream (fun vs H Q E h => by obtain ⟨a, g, rfl, _⟩ := h; rfl) fun cdv A outer s H vs Q E hr h => by
    obtain ⟨a, g, rfl, ha, k⟩ := h
    refine ⟨_, pbW, ?_⟩
    refine s_cons (s_expr (we_of (pe_sinit rfl T.g_StreamError T.sin.1 T.sin.2 paW) ?_))
    refine a_cons (w_var 0 rfl (a_cons (w_str (a_nil ⟨a, _, _, rfl, by show 1 ≤ 1000; decide, T.x_BadStream, ha, ?_⟩))))
    refine s_one (ws_of (ps_ost peW peW) ?_)
    exact w_var 1 rfl (w_var 0 rfl ⟨a, _, rfl, T.x_BadStream, T.xn_BadStream, .inl ⟨ha, fun dx h1 h2 => k dx h1 h2⟩⟩)
  refine pmk_oex (dvs := []) (ds := []) T.x_BadStream T.xi_BadStream.at_ T.xi_BadStream.ty F1 hr (F.bindsN fun _ _ _ _ _ _ us hl => match us, hl with | [_, _], _ => rfl) .nil passL hg T.g_BadStream (pa_cons peW pa_nil he) (by decide) he (by rfl) pins s σ H Q I ?_
  refine We.mono h fun v H1 k => ⟨by show 1 ≤ 1000; decide, fun a ha => ?_⟩
  refine ⟨a, v, rfl, upd_same, fun dx h1 h2 => ?_⟩
  have hd : H1 dx = none := by rw [upd_ne h2] at h1; exact h1
  refine ⟨rfl, dx, _, upd_same, by rw [upd_ne h2, upd_same], hd, ?_⟩
  have e : upd (del (upd (upd (upd H1 a (exo a (He.ga X.K "BadStream") none)) dx (exd dx [("given", v)])) a (exo a (He.ga X.K "BadStream") (some dx))) a) dx (.xd [("given", v)]) = upd H1 dx (.xd [("given", v)]) := by
    funext b
    by_cases e1 : b = dx
    · rw [e1, upd_same, upd_same]
    · rw [upd_ne e1, upd_ne e1]
      by_cases e2 : b = a
      · rw [e2, del_same, ha]
      · rw [del_ne e2, upd_ne e2, upd_ne e1, upd_ne e2]
  rw [e]
  exact k dx hd
theorem sc_BadWish : FnScope ["self", "given"] ["self", "given"] (defScope s_BadWish___init__) := ⟨rfl, rfl, rfl, by decide +kernel, rfl, by decide +kernel, by decide +kernel⟩
theorem fn_BadWish (T : Tx K mg) : FnR P w K mg base (L2.CX P w) 1 (He.ma K (He.ga K "BadWish") "__init__") (spErr1 (He.ga K "BadWish") "given") := by
  refine fnr T.f_BadWish___init__ sc_BadWish (fun vs H Q E h => ?_) (fun _ _ _ _ _ _ us hl => match us, hl with | [_, _], _ => rfl) fun cdv A outer s H vs Q E hr h => ?_
  · obtain ⟨a, g, rfl, _⟩ := h
    rfl
  · obtain ⟨a, g, rfl, ha, k⟩ := h
    refine s_cons (s_expr (we_of (pe_sinit rfl T.g_StreamError T.sin.1 T.sin.2 paW) ?_))
    refine a_cons (w_var 0 rfl (a_cons (w_str (a_nil ⟨a, _, _, rfl, by show 1 ≤ 1000; decide, T.x_BadWish, ha, ?_⟩))))
    refine s_one (ws_of (ps_ost peW peW) ?_)
    exact w_var 1 rfl (w_var 0 rfl ⟨a, _, rfl, T.x_BadWish, T.xn_BadWish, .inl ⟨ha, fun dx h1 h2 => k dx h1 h2⟩⟩)
theorem mk_BadWish {X : Cx} {e : Expr} {p pos : Pos} (T : Tx X.K X.mg) (hr : Room 2 X.A) (hg : Gl X "BadWish" := by rfl) (he : starEach [e] X.env = (false, eval e X.env) :: starEach [] X.env := by rfl) :
    PMk X (.Call (.Name "BadWish" p) [e] [] pos) (fun σ H Q => We X e σ H fun v H1 => ∀ d, H1 d = none → Q (.ref (He.ga X.K "BadWish")) (some d) (upd H1 d (.xd [("given", v)]))) := by
  intro pins s σ H Q I h
  obtain ⟨fd, F⟩ := T.f_BadWish___init__
  have F1 : FnOk X.prog X.w X.K X.mg X.base (L2.CX X.prog X.w) 1 (He.ma X.K (He.ga X.K "BadWish") "__init__") fd ["self", "given"] (spErr1 (He.ga X.K "BadWish") "given") := F.ok sc_BadWish (fun vs H Q E h => by obtain ⟨a, g, rfl, _⟩ := h; rfl) fun cdv A outer s H vs Q E hr h => by
    obtain ⟨a, g, rfl, ha, k⟩ := h
    refine ⟨_, pbW, ?_⟩
    refine s_cons (s_expr (we_of (pe_sinit rfl T.g_StreamError T.sin.1 T.sin.2 paW) ?_))
    refine a_cons (w_var 0 rfl (a_cons (w_str (a_nil ⟨a, _, _, rfl, by show 1 ≤ 1000; decide, T.x_BadWish, ha, ?_⟩))))
    refine s_one (ws_of (ps_ost peW peW) ?_)
    exact w_var 1 rfl (w_var 0 rfl ⟨a, _, rfl, T.x_BadWish, T.xn_BadWish, .inl ⟨ha, fun dx h1 h2 => k dx h1 h2⟩⟩)
  refine pmk_oex (dvs := []) (ds := []) T.x_BadWish T.xi_BadWish.at_ T.xi_BadWish.ty F1 hr (F.bindsN fun _ _ _ _ _ _ us hl => match us, hl with | [_, _], _ => rfl) .nil passL hg T.g_BadWish (pa_cons peW pa_nil he) (by decide) he (by rfl) pins s σ H Q I ?_
  refine We.mono h fun v H1 k => ⟨by show 1 ≤ 1000; decide, fun a ha => ?_⟩
  refine ⟨a, v, rfl, upd_same, fun dx h1 h2 => ?_⟩
  have hd : H1 dx = none := by rw [upd_ne h2] at h1; exact h1
  refine ⟨rfl, dx, _, upd_same, by rw [upd_ne h2, upd_same], hd, ?_⟩
  have e : upd (del (upd (upd (upd H1 a (exo a (He.ga X.K "BadWish") none)) dx (exd dx [("given", v)])) a (exo a (He.ga X.K "BadWish") (some dx))) a) dx (.xd [("given", v)]) = upd H1 dx (.xd [("given", v)]) := by
    funext b
    by_cases e1 : b = dx
    · rw [e1, upd_same, upd_same]
    · rw [upd_ne e1, upd_ne e1]
      by_cases e2 : b = a
      · rw [e2, del_same, ha]
      · rw [del_ne e2, upd_ne e2, upd_ne e1, upd_ne e2]
  rw [e]
  exact k dx hd
theorem sc_BadDays : FnScope ["self", "given"] ["self", "given"] (defScope s_BadDays___init__) := ⟨rfl, rfl, rfl, by decide +kernel, rfl, by decide +kernel, by decide +kernel⟩
theorem fn_BadDays (T : Tx K mg) : FnR P w K mg base (L2.CX P w) 1 (He.ma K (He.ga K "BadDays") "__init__") (spErr1 (He.ga K "BadDays") "given") := by
  refine fnr T.f_BadDays___init__ sc_BadDays (fun vs H Q E h => ?_) (fun _ _ _ _ _ _ us hl => match us, hl with | [_, _], _ => rfl) fun cdv A outer s H vs Q E hr h => ?_
  · obtain ⟨a, g, rfl, _⟩ := h
    rfl
  · obtain ⟨a, g, rfl, ha, k⟩ := h
    refine s_cons (s_expr (we_of (pe_sinit rfl T.g_StreamError T.sin.1 T.sin.2 paW) ?_))
    refine a_cons (w_var 0 rfl (a_cons (w_str (a_nil ⟨a, _, _, rfl, by show 1 ≤ 1000; decide, T.x_BadDays, ha, ?_⟩))))
    refine s_one (ws_of (ps_ost peW peW) ?_)
    exact w_var 1 rfl (w_var 0 rfl ⟨a, _, rfl, T.x_BadDays, T.xn_BadDays, .inl ⟨ha, fun dx h1 h2 => k dx h1 h2⟩⟩)
theorem mk_BadDays {X : Cx} {e : Expr} {p pos : Pos} (T : Tx X.K X.mg) (hr : Room 2 X.A) (hg : Gl X "BadDays" := by rfl) (he : starEach [e] X.env = (false, eval e X.env) :: starEach [] X.env := by rfl) :
    PMk X (.Call (.Name "BadDays" p) [e] [] pos) (fun σ H Q => We X e σ H fun v H1 => ∀ d, H1 d = none → Q (.ref (He.ga X.K "BadDays")) (some d) (upd H1 d (.xd [("given", v)]))) := by
  intro pins s σ H Q I h
  obtain ⟨fd, F⟩ := T.f_BadDays___init__
  have F1 : FnOk X.prog X.w X.K X.mg X.base (L2.CX X.prog X.w) 1 (He.ma X.K (He.ga X.K "BadDays") "__init__") fd ["self", "given"] (spErr1 (He.ga X.K "BadDays") "given") := F.ok sc_BadDays (fun vs H Q E h => by obtain ⟨a, g, rfl, _⟩ := h; rfl) fun cdv A outer s H vs Q E hr h => by
    obtain ⟨a, g, rfl, ha, k⟩ := h
    refine ⟨_, pbW, ?_⟩
    refine s_cons (s_expr (we_of (pe_sinit rfl T.g_StreamError T.sin.1 T.sin.2 paW) ?_))
    refine a_cons (w_var 0 rfl (a_cons (w_str (a_nil ⟨a, _, _, rfl, by show 1 ≤ 1000; decide, T.x_BadDays, ha, ?_⟩))))
    refine s_one (ws_of (ps_ost peW peW) ?_)
    exact w_var 1 rfl (w_var 0 rfl ⟨a, _, rfl, T.x_BadDays, T.xn_BadDays, .inl ⟨ha, fun dx h1 h2 => k dx h1 h2⟩⟩)
  refine pmk_oex (dvs := []) (ds := []) T.x_BadDays T.xi_BadDays.at_ T.xi_BadDays.ty F1 hr (F.bindsN fun _ _ _ _ _ _ us hl => match us, hl with | [_, _], _ => rfl) .nil passL hg T.g_BadDays (pa_cons peW pa_nil he) (by decide) he (by rfl) pins s σ H Q I ?_
  refine We.mono h fun v H1 k => ⟨by show 1 ≤ 1000; decide, fun a ha => ?_⟩
  refine ⟨a, v, rfl, upd_same, fun dx h1 h2 => ?_⟩
  have hd : H1 dx = none := by rw [upd_ne h2] at h1; exact h1
  refine ⟨rfl, dx, _, upd_same, by rw [upd_ne h2, upd_same], hd, ?_⟩
  have e : upd (del (upd (upd (upd H1 a (exo a (He.ga X.K "BadDays") none)) dx (exd dx [("given", v)])) a (exo a (He.ga X.K "BadDays") (some dx))) a) dx (.xd [("given", v)]) = upd H1 dx (.xd [("given", v)]) := by
    funext b
    by_cases e1 : b = dx
    · rw [e1, upd_same, upd_same]
    · rw [upd_ne e1, upd_ne e1]
      by_cases e2 : b = a
      · rw [e2, del_same, ha]
      · rw [del_ne e2, upd_ne e2, upd_ne e1, upd_ne e2]
  rw [e]
  exact k dx hd
theorem sc_BadTable : FnScope ["self"] ["self"] (defScope s_BadTable___init__) := ⟨rfl, rfl, rfl, by decide +kernel, rfl, by decide +kernel, by decide +kernel⟩
theorem fn_BadTable (T : Tx K mg) : FnR P w K mg base (L2.CX P w) 1 (He.ma K (He.ga K "BadTable") "__init__") (spErr0 (He.ga K "BadTable")) := by
  refine fnr T.f_BadTable___init__ sc_BadTable (fun vs H Q E h => ?_) (fun _ _ _ _ _ _ us hl => match us, hl with | [_], _ => rfl) fun cdv A outer s H vs Q E hr h => ?_
  · obtain ⟨a, rfl, _⟩ := h
    rfl
  · obtain ⟨a, rfl, ha, k⟩ := h
    refine s_one (s_expr (we_of (pe_sinit rfl T.g_StreamError T.sin.1 T.sin.2 paW) ?_))
    exact a_cons (w_var 0 rfl (a_cons (w_str (a_nil ⟨a, _, _, rfl, by show 1 ≤ 1000; decide, T.x_BadTable, ha, k⟩))))
theorem mk_BadTable {X : Cx} {p pos : Pos} (T : Tx X.K X.mg) (hr : Room 2 X.A) (hg : Gl X "BadTable" := by rfl) :
    PMk X (.Call (.Name "BadTable" p) [] [] pos) (fun _ H Q => Q (.ref (He.ga X.K "BadTable")) none H) := by
  intro pins s σ H Q I h
  obtain ⟨fd, F⟩ := T.f_BadTable___init__
  have F1 : FnOk X.prog X.w X.K X.mg X.base (L2.CX X.prog X.w) 1 (He.ma X.K (He.ga X.K "BadTable") "__init__") fd ["self"] (spErr0 (He.ga X.K "BadTable")) := F.ok sc_BadTable (fun vs H Q E h => by obtain ⟨a, rfl, _⟩ := h; rfl) fun cdv A outer s H vs Q E hr h => by
    obtain ⟨a, rfl, ha, k⟩ := h
    refine ⟨_, pbW, ?_⟩
    refine s_one (s_expr (we_of (pe_sinit rfl T.g_StreamError T.sin.1 T.sin.2 paW) ?_))
    exact a_cons (w_var 0 rfl (a_cons (w_str (a_nil ⟨a, _, _, rfl, by show 1 ≤ 1000; decide, T.x_BadTable, ha, k⟩))))
  refine pmk_oex0 T.x_BadTable T.xi_BadTable.at_ T.xi_BadTable.ty F1 hr (F.bindsN fun _ _ _ _ _ _ us hl => match us, hl with | [_], _ => rfl) passL hg T.g_BadTable (by decide) pins s σ H Q I ?_
  intro a ha
  refine ⟨a, rfl, upd_same, rfl, upd_same, ?_⟩
  rw [upd_back ha]
  exact h
theorem sc_BadSight : FnScope ["self", "given"] ["self", "given"] (defScope s_BadSight___init__) := ⟨rfl, rfl, rfl, by decide +kernel, rfl, by decide +kernel, by decide +kernel⟩
theorem fn_BadSight (T : Tx K mg) : FnR P w K mg base (L2.CX P w) 1 (He.ma K (He.ga K "BadSight") "__init__") (spErr1 (He.ga K "BadSight") "given") := by
  refine fnr T.f_BadSight___init__ sc_BadSight (fun vs H Q E h => ?_) (fun _ _ _ _ _ _ us hl => match us, hl with | [_, _], _ => rfl) fun cdv A outer s H vs Q E hr h => ?_
  · obtain ⟨a, g, rfl, _⟩ := h
    rfl
  · obtain ⟨a, g, rfl, ha, k⟩ := h
    refine s_cons (s_expr (we_of (pe_sinit rfl T.g_StreamError T.sin.1 T.sin.2 paW) ?_))
    refine a_cons (w_var 0 rfl (a_cons (w_str (a_nil ⟨a, _, _, rfl, by show 1 ≤ 1000; decide, T.x_BadSight, ha, ?_⟩))))
    refine s_one (ws_of (ps_ost peW peW) ?_)
    exact w_var 1 rfl (w_var 0 rfl ⟨a, _, rfl, T.x_BadSight, T.xn_BadSight, .inl ⟨ha, fun dx h1 h2 => k dx h1 h2⟩⟩)
theorem mk_BadSight {X : Cx} {e : Expr} {p pos : Pos} (T : Tx X.K X.mg) (hr : Room 2 X.A) (hg : Gl X "BadSight" := by rfl) (he : starEach [e] X.env = (false, eval e X.env) :: starEach [] X.env := by rfl) :
    PMk X (.Call (.Name "BadSight" p) [e] [] pos) (fun σ H Q => We X e σ H fun v H1 => ∀ d, H1 d = none → Q (.ref (He.ga X.K "BadSight")) (some d) (upd H1 d (.xd [("given", v)]))) := by
  intro pins s σ H Q I h
  obtain ⟨fd, F⟩ := T.f_BadSight___init__
  have F1 : FnOk X.prog X.w X.K X.mg X.base (L2.CX X.prog X.w) 1 (He.ma X.K (He.ga X.K "BadSight") "__init__") fd ["self", "given"] (spErr1 (He.ga X.K "BadSight") "given") := F.ok sc_BadSight (fun vs H Q E h => by obtain ⟨a, g, rfl, _⟩ := h; rfl) fun cdv A outer s H vs Q E hr h => by
    obtain ⟨a, g, rfl, ha, k⟩ := h
    refine ⟨_, pbW, ?_⟩
    refine s_cons (s_expr (we_of (pe_sinit rfl T.g_StreamError T.sin.1 T.sin.2 paW) ?_))
    refine a_cons (w_var 0 rfl (a_cons (w_str (a_nil ⟨a, _, _, rfl, by show 1 ≤ 1000; decide, T.x_BadSight, ha, ?_⟩))))
    refine s_one (ws_of (ps_ost peW peW) ?_)
    exact w_var 1 rfl (w_var 0 rfl ⟨a, _, rfl, T.x_BadSight, T.xn_BadSight, .inl ⟨ha, fun dx h1 h2 => k dx h1 h2⟩⟩)
  refine pmk_oex (dvs := []) (ds := []) T.x_BadSight T.xi_BadSight.at_ T.xi_BadSight.ty F1 hr (F.bindsN fun _ _ _ _ _ _ us hl => match us, hl with | [_, _], _ => rfl) .nil passL hg T.g_BadSight (pa_cons peW pa_nil he) (by decide) he (by rfl) pins s σ H Q I ?_
  refine We.mono h fun v H1 k => ⟨by show 1 ≤ 1000; decide, fun a ha => ?_⟩
  refine ⟨a, v, rfl, upd_same, fun dx h1 h2 => ?_⟩
  have hd : H1 dx = none := by rw [upd_ne h2] at h1; exact h1
  refine ⟨rfl, dx, _, upd_same, by rw [upd_ne h2, upd_same], hd, ?_⟩
  have e : upd (del (upd (upd (upd H1 a (exo a (He.ga X.K "BadSight") none)) dx (exd dx [("given", v)])) a (exo a (He.ga X.K "BadSight") (some dx))) a) dx (.xd [("given", v)]) = upd H1 dx (.xd [("given", v)]) := by
    funext b
    by_cases e1 : b = dx
    · rw [e1, upd_same, upd_same]
    · rw [upd_ne e1, upd_ne e1]
      by_cases e2 : b = a
      · rw [e2, del_same, ha]
      · rw [del_ne e2, upd_ne e2, upd_ne e1, upd_ne e2]
  rw [e]
  exact k dx hd
theorem sc_BadDeed : FnScope ["self", "given"] ["self", "given"] (defScope s_BadDeed___init__) := ⟨rfl, rfl, rfl, by decide +kernel, rfl, by decide +kernel, by decide +kernel⟩
theorem fn_BadDeed (T : Tx K mg) : FnR P w K mg base (L2.CX P w) 1 (He.ma K (He.ga K "BadDeed") "__init__") (spErr1 (He.ga K "BadDeed") "given") := by
  refine fnr T.f_BadDeed___init__ sc_BadDeed (fun vs H Q E h => ?_) (fun _ _ _ _ _ _ us hl => match us, hl with | [_, _], _ => rfl) fun cdv A outer s H vs Q E hr h => ?_
  · obtain ⟨a, g, rfl, _⟩ := h
    rfl
  · obtain ⟨a, g, rfl, ha, k⟩ := h
    refine s_cons (s_expr (we_of (pe_sinit rfl T.g_StreamError T.sin.1 T.sin.2 paW) ?_))
    refine a_cons (w_var 0 rfl (a_cons (w_str (a_nil ⟨a, _, _, rfl, by show 1 ≤ 1000; decide, T.x_BadDeed, ha, ?_⟩))))
    refine s_one (ws_of (ps_ost peW peW) ?_)
    exact w_var 1 rfl (w_var 0 rfl ⟨a, _, rfl, T.x_BadDeed, T.xn_BadDeed, .inl ⟨ha, fun dx h1 h2 => k dx h1 h2⟩⟩)
theorem mk_BadDeed {X : Cx} {e : Expr} {p pos : Pos} (T : Tx X.K X.mg) (hr : Room 2 X.A) (hg : Gl X "BadDeed" := by rfl) (he : starEach [e] X.env = (false, eval e X.env) :: starEach [] X.env := by rfl) :
    PMk X (.Call (.Name "BadDeed" p) [e] [] pos) (fun σ H Q => We X e σ H fun v H1 => ∀ d, H1 d = none → Q (.ref (He.ga X.K "BadDeed")) (some d) (upd H1 d (.xd [("given", v)]))) := by
  intro pins s σ H Q I h
  obtain ⟨fd, F⟩ := T.f_BadDeed___init__
  have F1 : FnOk X.prog X.w X.K X.mg X.base (L2.CX X.prog X.w) 1 (He.ma X.K (He.ga X.K "BadDeed") "__init__") fd ["self", "given"] (spErr1 (He.ga X.K "BadDeed") "given") := F.ok sc_BadDeed (fun vs H Q E h => by obtain ⟨a, g, rfl, _⟩ := h; rfl) fun cdv A outer s H vs Q E hr h => by
    obtain ⟨a, g, rfl, ha, k⟩ := h
    refine ⟨_, pbW, ?_⟩
    refine s_cons (s_expr (we_of (pe_sinit rfl T.g_StreamError T.sin.1 T.sin.2 paW) ?_))
    refine a_cons (w_var 0 rfl (a_cons (w_str (a_nil ⟨a, _, _, rfl, by show 1 ≤ 1000; decide, T.x_BadDeed, ha, ?_⟩))))
    refine s_one (ws_of (ps_ost peW peW) ?_)
    exact w_var 1 rfl (w_var 0 rfl ⟨a, _, rfl, T.x_BadDeed, T.xn_BadDeed, .inl ⟨ha, fun dx h1 h2 => k dx h1 h2⟩⟩)
  refine pmk_oex (dvs := []) (ds := []) T.x_BadDeed T.xi_BadDeed.at_ T.xi_BadDeed.ty F1 hr (F.bindsN fun _ _ _ _ _ _ us hl => match us, hl with | [_, _], _ => rfl) .nil passL hg T.g_BadDeed (pa_cons peW pa_nil he) (by decide) he (by rfl) pins s σ H Q I ?_
  refine We.mono h fun v H1 k => ⟨by show 1 ≤ 1000; decide, fun a ha => ?_⟩
  refine ⟨a, v, rfl, upd_same, fun dx h1 h2 => ?_⟩
  have hd : H1 dx = none := by rw [upd_ne h2] at h1; exact h1
  refine ⟨rfl, dx, _, upd_same, by rw [upd_ne h2, upd_same], hd, ?_⟩
  have e : upd (del (upd (upd (upd H1 a (exo a (He.ga X.K "BadDeed") none)) dx (exd dx [("given", v)])) a (exo a (He.ga X.K "BadDeed") (some dx))) a) dx (.xd [("given", v)]) = upd H1 dx (.xd [("given", v)]) := by
    funext b
    by_cases e1 : b = dx
    · rw [e1, upd_same, upd_same]
    · rw [upd_ne e1, upd_ne e1]
      by_cases e2 : b = a
      · rw [e2, del_same, ha]
      · rw [del_ne e2, upd_ne e2, upd_ne e1, upd_ne e2]
  rw [e]
  exact k dx hd
theorem sc_NoAccount : FnScope ["self", "given"] ["self", "given"] (defScope s_NoAccount___init__) := ⟨rfl, rfl, rfl, by decide +kernel, rfl, by decide +kernel, by decide +kernel⟩
theorem fn_NoAccount (T : Tx K mg) : FnR P w K mg base (L2.CX P w) 1 (He.ma K (He.ga K "NoAccount") "__init__") (spErr1 (He.ga K "NoAccount") "given") := by
  refine fnr T.f_NoAccount___init__ sc_NoAccount (fun vs H Q E h => ?_) (fun _ _ _ _ _ _ us hl => match us, hl with | [_, _], _ => rfl) fun cdv A outer s H vs Q E hr h => ?_
  · obtain ⟨a, g, rfl, _⟩ := h
    rfl
  · obtain ⟨a, g, rfl, ha, k⟩ := h
    refine s_cons (s_expr (we_of (pe_sinit rfl T.g_StreamError T.sin.1 T.sin.2 paW) ?_))
    refine a_cons (w_var 0 rfl (a_cons (w_str (a_nil ⟨a, _, _, rfl, by show 1 ≤ 1000; decide, T.x_NoAccount, ha, ?_⟩))))
    refine s_one (ws_of (ps_ost peW peW) ?_)
    exact w_var 1 rfl (w_var 0 rfl ⟨a, _, rfl, T.x_NoAccount, T.xn_NoAccount, .inl ⟨ha, fun dx h1 h2 => k dx h1 h2⟩⟩)
theorem mk_NoAccount {X : Cx} {e : Expr} {p pos : Pos} (T : Tx X.K X.mg) (hr : Room 2 X.A) (hg : Gl X "NoAccount" := by rfl) (he : starEach [e] X.env = (false, eval e X.env) :: starEach [] X.env := by rfl) :
    PMk X (.Call (.Name "NoAccount" p) [e] [] pos) (fun σ H Q => We X e σ H fun v H1 => ∀ d, H1 d = none → Q (.ref (He.ga X.K "NoAccount")) (some d) (upd H1 d (.xd [("given", v)]))) := by
  intro pins s σ H Q I h
  obtain ⟨fd, F⟩ := T.f_NoAccount___init__
  have F1 : FnOk X.prog X.w X.K X.mg X.base (L2.CX X.prog X.w) 1 (He.ma X.K (He.ga X.K "NoAccount") "__init__") fd ["self", "given"] (spErr1 (He.ga X.K "NoAccount") "given") := F.ok sc_NoAccount (fun vs H Q E h => by obtain ⟨a, g, rfl, _⟩ := h; rfl) fun cdv A outer s H vs Q E hr h => by
    obtain ⟨a, g, rfl, ha, k⟩ := h
    refine ⟨_, pbW, ?_⟩
    refine s_cons (s_expr (we_of (pe_sinit rfl T.g_StreamError T.sin.1 T.sin.2 paW) ?_))
    refine a_cons (w_var 0 rfl (a_cons (w_str (a_nil ⟨a, _, _, rfl, by show 1 ≤ 1000; decide, T.x_NoAccount, ha, ?_⟩))))
    refine s_one (ws_of (ps_ost peW peW) ?_)
    exact w_var 1 rfl (w_var 0 rfl ⟨a, _, rfl, T.x_NoAccount, T.xn_NoAccount, .inl ⟨ha, fun dx h1 h2 => k dx h1 h2⟩⟩)
  refine pmk_oex (dvs := []) (ds := []) T.x_NoAccount T.xi_NoAccount.at_ T.xi_NoAccount.ty F1 hr (F.bindsN fun _ _ _ _ _ _ us hl => match us, hl with | [_, _], _ => rfl) .nil passL hg T.g_NoAccount (pa_cons peW pa_nil he) (by decide) he (by rfl) pins s σ H Q I ?_
  refine We.mono h fun v H1 k => ⟨by show 1 ≤ 1000; decide, fun a ha => ?_⟩
  refine ⟨a, v, rfl, upd_same, fun dx h1 h2 => ?_⟩
  have hd : H1 dx = none := by rw [upd_ne h2] at h1; exact h1
  refine ⟨rfl, dx, _, upd_same, by rw [upd_ne h2, upd_same], hd, ?_⟩
  have e : upd (del (upd (upd (upd H1 a (exo a (He.ga X.K "NoAccount") none)) dx (exd dx [("given", v)])) a (exo a (He.ga X.K "NoAccount") (some dx))) a) dx (.xd [("given", v)]) = upd H1 dx (.xd [("given", v)]) := by
    funext b
    by_cases e1 : b = dx
    · rw [e1, upd_same, upd_same]
    · rw [upd_ne e1, upd_ne e1]
      by_cases e2 : b = a
      · rw [e2, del_same, ha]
      · rw [del_ne e2, upd_ne e2, upd_ne e1, upd_ne e2]
  rw [e]
  exact k dx hd
theorem sc_NoStream : FnScope ["self", "given"] ["self", "given"] (defScope s_NoStream___init__) := ⟨rfl, rfl, rfl, by decide +kernel, rfl, by decide +kernel, by decide +kernel⟩
theorem fn_NoStream (T : Tx K mg) : FnR P w K mg base (L2.CX P w) 1 (He.ma K (He.ga K "NoStream") "__init__") (spErr1 (He.ga K "NoStream") "given") := by
  refine fnr T.f_NoStream___init__ sc_NoStream (fun vs H Q E h => ?_) (fun _ _ _ _ _ _ us hl => match us, hl with | [_, _], _ => rfl) fun cdv A outer s H vs Q E hr h => ?_
  · obtain ⟨a, g, rfl, _⟩ := h
    rfl
  · obtain ⟨a, g, rfl, ha, k⟩ := h
    refine s_cons (s_expr (we_of (pe_sinit rfl T.g_StreamError T.sin.1 T.sin.2 paW) ?_))
    refine a_cons (w_var 0 rfl (a_cons (w_str (a_nil ⟨a, _, _, rfl, by show 1 ≤ 1000; decide, T.x_NoStream, ha, ?_⟩))))
    refine s_one (ws_of (ps_ost peW peW) ?_)
    exact w_var 1 rfl (w_var 0 rfl ⟨a, _, rfl, T.x_NoStream, T.xn_NoStream, .inl ⟨ha, fun dx h1 h2 => k dx h1 h2⟩⟩)
theorem mk_NoStream {X : Cx} {e : Expr} {p pos : Pos} (T : Tx X.K X.mg) (hr : Room 2 X.A) (hg : Gl X "NoStream" := by rfl) (he : starEach [e] X.env = (false, eval e X.env) :: starEach [] X.env := by rfl) :
    PMk X (.Call (.Name "NoStream" p) [e] [] pos) (fun σ H Q => We X e σ H fun v H1 => ∀ d, H1 d = none → Q (.ref (He.ga X.K "NoStream")) (some d) (upd H1 d (.xd [("given", v)]))) := by
  intro pins s σ H Q I h
  obtain ⟨fd, F⟩ := T.f_NoStream___init__
  have F1 : FnOk X.prog X.w X.K X.mg X.base (L2.CX X.prog X.w) 1 (He.ma X.K (He.ga X.K "NoStream") "__init__") fd ["self", "given"] (spErr1 (He.ga X.K "NoStream") "given") := F.ok sc_NoStream (fun vs H Q E h => by obtain ⟨a, g, rfl, _⟩ := h; rfl) fun cdv A outer s H vs Q E hr h => by
    obtain ⟨a, g, rfl, ha, k⟩ := h
    refine ⟨_, pbW, ?_⟩
    refine s_cons (s_expr (we_of (pe_sinit rfl T.g_StreamError T.sin.1 T.sin.2 paW) ?_))
    refine a_cons (w_var 0 rfl (a_cons (w_str (a_nil ⟨a, _, _, rfl, by show 1 ≤ 1000; decide, T.x_NoStream, ha, ?_⟩))))
    refine s_one (ws_of (ps_ost peW peW) ?_)
    exact w_var 1 rfl (w_var 0 rfl ⟨a, _, rfl, T.x_NoStream, T.xn_NoStream, .inl ⟨ha, fun dx h1 h2 => k dx h1 h2⟩⟩)
  refine pmk_oex (dvs := []) (ds := []) T.x_NoStream T.xi_NoStream.at_ T.xi_NoStream.ty F1 hr (F.bindsN fun _ _ _ _ _ _ us hl => match us, hl with | [_, _], _ => rfl) .nil passL hg T.g_NoStream (pa_cons peW pa_nil he) (by decide) he (by rfl) pins s σ H Q I ?_
  refine We.mono h fun v H1 k => ⟨by show 1 ≤ 1000; decide, fun a ha => ?_⟩
  refine ⟨a, v, rfl, upd_same, fun dx h1 h2 => ?_⟩
  have hd : H1 dx = none := by rw [upd_ne h2] at h1; exact h1
  refine ⟨rfl, dx, _, upd_same, by rw [upd_ne h2, upd_same], hd, ?_⟩
  have e : upd (del (upd (upd (upd H1 a (exo a (He.ga X.K "NoStream") none)) dx (exd dx [("given", v)])) a (exo a (He.ga X.K "NoStream") (some dx))) a) dx (.xd [("given", v)]) = upd H1 dx (.xd [("given", v)]) := by
    funext b
    by_cases e1 : b = dx
    · rw [e1, upd_same, upd_same]
    · rw [upd_ne e1, upd_ne e1]
      by_cases e2 : b = a
      · rw [e2, del_same, ha]
      · rw [del_ne e2, upd_ne e2, upd_ne e1, upd_ne e2]
  rw [e]
  exact k dx hd
theorem sc_InUse : FnScope ["self", "given"] ["self", "given"] (defScope s_InUse___init__) := ⟨rfl, rfl, rfl, by decide +kernel, rfl, by decide +kernel, by decide +kernel⟩
theorem fn_InUse (T : Tx K mg) : FnR P w K mg base (L2.CX P w) 1 (He.ma K (He.ga K "InUse") "__init__") (spErr1 (He.ga K "InUse") "given") := by
  refine fnr T.f_InUse___init__ sc_InUse (fun vs H Q E h => ?_) (fun _ _ _ _ _ _ us hl => match us, hl with | [_, _], _ => rfl) fun cdv A outer s H vs Q E hr h => ?_
  · obtain ⟨a, g, rfl, _⟩ := h
    rfl
  · obtain ⟨a, g, rfl, ha, k⟩ := h
    refine s_cons (s_expr (we_of (pe_sinit rfl T.g_StreamError T.sin.1 T.sin.2 paW) ?_))
    refine a_cons (w_var 0 rfl (a_cons (w_str (a_nil ⟨a, _, _, rfl, by show 1 ≤ 1000; decide, T.x_InUse, ha, ?_⟩))))
    refine s_one (ws_of (ps_ost peW peW) ?_)
    exact w_var 1 rfl (w_var 0 rfl ⟨a, _, rfl, T.x_InUse, T.xn_InUse, .inl ⟨ha, fun dx h1 h2 => k dx h1 h2⟩⟩)
theorem mk_InUse {X : Cx} {e : Expr} {p pos : Pos} (T : Tx X.K X.mg) (hr : Room 2 X.A) (hg : Gl X "InUse" := by rfl) (he : starEach [e] X.env = (false, eval e X.env) :: starEach [] X.env := by rfl) :
    PMk X (.Call (.Name "InUse" p) [e] [] pos) (fun σ H Q => We X e σ H fun v H1 => ∀ d, H1 d = none → Q (.ref (He.ga X.K "InUse")) (some d) (upd H1 d (.xd [("given", v)]))) := by
  intro pins s σ H Q I h
  obtain ⟨fd, F⟩ := T.f_InUse___init__
  have F1 : FnOk X.prog X.w X.K X.mg X.base (L2.CX X.prog X.w) 1 (He.ma X.K (He.ga X.K "InUse") "__init__") fd ["self", "given"] (spErr1 (He.ga X.K "InUse") "given") := F.ok sc_InUse (fun vs H Q E h => by obtain ⟨a, g, rfl, _⟩ := h; rfl) fun cdv A outer s H vs Q E hr h => by
    obtain ⟨a, g, rfl, ha, k⟩ := h
    refine ⟨_, pbW, ?_⟩
    refine s_cons (s_expr (we_of (pe_sinit rfl T.g_StreamError T.sin.1 T.sin.2 paW) ?_))
    refine a_cons (w_var 0 rfl (a_cons (w_str (a_nil ⟨a, _, _, rfl, by show 1 ≤ 1000; decide, T.x_InUse, ha, ?_⟩))))
    refine s_one (ws_of (ps_ost peW peW) ?_)
    exact w_var 1 rfl (w_var 0 rfl ⟨a, _, rfl, T.x_InUse, T.xn_InUse, .inl ⟨ha, fun dx h1 h2 => k dx h1 h2⟩⟩)
  refine pmk_oex (dvs := []) (ds := []) T.x_InUse T.xi_InUse.at_ T.xi_InUse.ty F1 hr (F.bindsN fun _ _ _ _ _ _ us hl => match us, hl with | [_, _], _ => rfl) .nil passL hg T.g_InUse (pa_cons peW pa_nil he) (by decide) he (by rfl) pins s σ H Q I ?_
  refine We.mono h fun v H1 k => ⟨by show 1 ≤ 1000; decide, fun a ha => ?_⟩
  refine ⟨a, v, rfl, upd_same, fun dx h1 h2 => ?_⟩
  have hd : H1 dx = none := by rw [upd_ne h2] at h1; exact h1
  refine ⟨rfl, dx, _, upd_same, by rw [upd_ne h2, upd_same], hd, ?_⟩
  have e : upd (del (upd (upd (upd H1 a (exo a (He.ga X.K "InUse") none)) dx (exd dx [("given", v)])) a (exo a (He.ga X.K "InUse") (some dx))) a) dx (.xd [("given", v)]) = upd H1 dx (.xd [("given", v)]) := by
    funext b
    by_cases e1 : b = dx
    · rw [e1, upd_same, upd_same]
    · rw [upd_ne e1, upd_ne e1]
      by_cases e2 : b = a
      · rw [e2, del_same, ha]
      · rw [del_ne e2, upd_ne e2, upd_ne e1, upd_ne e2]
  rw [e]
  exact k dx hd
theorem sc_TooMuch : FnScope ["self", "given"] ["self", "given"] (defScope s_TooMuch___init__) := ⟨rfl, rfl, rfl, by decide +kernel, rfl, by decide +kernel, by decide +kernel⟩
theorem fn_TooMuch (T : Tx K mg) : FnR P w K mg base (L2.CX P w) 1 (He.ma K (He.ga K "TooMuch") "__init__") (spErr1 (He.ga K "TooMuch") "given") := by
  refine fnr T.f_TooMuch___init__ sc_TooMuch (fun vs H Q E h => ?_) (fun _ _ _ _ _ _ us hl => match us, hl with | [_, _], _ => rfl) fun cdv A outer s H vs Q E hr h => ?_
  · obtain ⟨a, g, rfl, _⟩ := h
    rfl
  · obtain ⟨a, g, rfl, ha, k⟩ := h
    refine s_cons (s_expr (we_of (pe_sinit rfl T.g_StreamError T.sin.1 T.sin.2 paW) ?_))
    refine a_cons (w_var 0 rfl (a_cons (w_str (a_nil ⟨a, _, _, rfl, by show 1 ≤ 1000; decide, T.x_TooMuch, ha, ?_⟩))))
    refine s_one (ws_of (ps_ost peW peW) ?_)
    exact w_var 1 rfl (w_var 0 rfl ⟨a, _, rfl, T.x_TooMuch, T.xn_TooMuch, .inl ⟨ha, fun dx h1 h2 => k dx h1 h2⟩⟩)
theorem mk_TooMuch {X : Cx} {e : Expr} {p pos : Pos} (T : Tx X.K X.mg) (hr : Room 2 X.A) (hg : Gl X "TooMuch" := by rfl) (he : starEach [e] X.env = (false, eval e X.env) :: starEach [] X.env := by rfl) :
    PMk X (.Call (.Name "TooMuch" p) [e] [] pos) (fun σ H Q => We X e σ H fun v H1 => ∀ d, H1 d = none → Q (.ref (He.ga X.K "TooMuch")) (some d) (upd H1 d (.xd [("given", v)]))) := by
  intro pins s σ H Q I h
  obtain ⟨fd, F⟩ := T.f_TooMuch___init__
  have F1 : FnOk X.prog X.w X.K X.mg X.base (L2.CX X.prog X.w) 1 (He.ma X.K (He.ga X.K "TooMuch") "__init__") fd ["self", "given"] (spErr1 (He.ga X.K "TooMuch") "given") := F.ok sc_TooMuch (fun vs H Q E h => by obtain ⟨a, g, rfl, _⟩ := h; rfl) fun cdv A outer s H vs Q E hr h => by
    obtain ⟨a, g, rfl, ha, k⟩ := h
    refine ⟨_, pbW, ?_⟩
    refine s_cons (s_expr (we_of (pe_sinit rfl T.g_StreamError T.sin.1 T.sin.2 paW) ?_))
    refine a_cons (w_var 0 rfl (a_cons (w_str (a_nil ⟨a, _, _, rfl, by show 1 ≤ 1000; decide, T.x_TooMuch, ha, ?_⟩))))
    refine s_one (ws_of (ps_ost peW peW) ?_)
    exact w_var 1 rfl (w_var 0 rfl ⟨a, _, rfl, T.x_TooMuch, T.xn_TooMuch, .inl ⟨ha, fun dx h1 h2 => k dx h1 h2⟩⟩)
  refine pmk_oex (dvs := []) (ds := []) T.x_TooMuch T.xi_TooMuch.at_ T.xi_TooMuch.ty F1 hr (F.bindsN fun _ _ _ _ _ _ us hl => match us, hl with | [_, _], _ => rfl) .nil passL hg T.g_TooMuch (pa_cons peW pa_nil he) (by decide) he (by rfl) pins s σ H Q I ?_
  refine We.mono h fun v H1 k => ⟨by show 1 ≤ 1000; decide, fun a ha => ?_⟩
  refine ⟨a, v, rfl, upd_same, fun dx h1 h2 => ?_⟩
  have hd : H1 dx = none := by rw [upd_ne h2] at h1; exact h1
  refine ⟨rfl, dx, _, upd_same, by rw [upd_ne h2, upd_same], hd, ?_⟩
  have e : upd (del (upd (upd (upd H1 a (exo a (He.ga X.K "TooMuch") none)) dx (exd dx [("given", v)])) a (exo a (He.ga X.K "TooMuch") (some dx))) a) dx (.xd [("given", v)]) = upd H1 dx (.xd [("given", v)]) := by
    funext b
    by_cases e1 : b = dx
    · rw [e1, upd_same, upd_same]
    · rw [upd_ne e1, upd_ne e1]
      by_cases e2 : b = a
      · rw [e2, del_same, ha]
      · rw [del_ne e2, upd_ne e2, upd_ne e1, upd_ne e2]
  rw [e]
  exact k dx hd
theorem sc_Clash : FnScope ["self"] ["self"] (defScope s_Clash___init__) := ⟨rfl, rfl, rfl, by decide +kernel, rfl, by decide +kernel, by decide +kernel⟩
theorem fn_Clash (T : Tx K mg) : FnR P w K mg base (L2.CX P w) 1 (He.ma K (He.ga K "Clash") "__init__") (spErr0 (He.ga K "Clash")) := by
  refine fnr T.f_Clash___init__ sc_Clash (fun vs H Q E h => ?_) (fun _ _ _ _ _ _ us hl => match us, hl with | [_], _ => rfl) fun cdv A outer s H vs Q E hr h => ?_
  · obtain ⟨a, rfl, _⟩ := h
    rfl
  · obtain ⟨a, rfl, ha, k⟩ := h
    refine s_one (s_expr (we_of (pe_sinit rfl T.g_StreamError T.sin.1 T.sin.2 paW) ?_))
    exact a_cons (w_var 0 rfl (a_cons (w_str (a_nil ⟨a, _, _, rfl, by show 1 ≤ 1000; decide, T.x_Clash, ha, k⟩))))
theorem mk_Clash {X : Cx} {p pos : Pos} (T : Tx X.K X.mg) (hr : Room 2 X.A) (hg : Gl X "Clash" := by rfl) :
    PMk X (.Call (.Name "Clash" p) [] [] pos) (fun _ H Q => Q (.ref (He.ga X.K "Clash")) none H) := by
  intro pins s σ H Q I h
  obtain ⟨fd, F⟩ := T.f_Clash___init__
  have F1 : FnOk X.prog X.w X.K X.mg X.base (L2.CX X.prog X.w) 1 (He.ma X.K (He.ga X.K "Clash") "__init__") fd ["self"] (spErr0 (He.ga X.K "Clash")) := F.ok sc_Clash (fun vs H Q E h => by obtain ⟨a, rfl, _⟩ := h; rfl) fun cdv A outer s H vs Q E hr h => by
    obtain ⟨a, rfl, ha, k⟩ := h
    refine ⟨_, pbW, ?_⟩
    refine s_one (s_expr (we_of (pe_sinit rfl T.g_StreamError T.sin.1 T.sin.2 paW) ?_))
    exact a_cons (w_var 0 rfl (a_cons (w_str (a_nil ⟨a, _, _, rfl, by show 1 ≤ 1000; decide, T.x_Clash, ha, k⟩))))
  refine pmk_oex0 T.x_Clash T.xi_Clash.at_ T.xi_Clash.ty F1 hr (F.bindsN fun _ _ _ _ _ _ us hl => match us, hl with | [_], _ => rfl) passL hg T.g_Clash (by decide) pins s σ H Q I ?_
  intro a ha
  refine ⟨a, rfl, upd_same, rfl, upd_same, ?_⟩
  rw [upd_back ha]
  exact h
theorem sc_BadLine : FnScope ["self", "line"] ["self", "line"] (defScope s_BadLine___init__) := ⟨rfl, rfl, rfl, by decide +kernel, rfl, by decide +kernel, by decide +kernel⟩
theorem fn_BadLine (T : Tx K mg) : FnR P w K mg base (L2.CX P w) 1 (He.ma K (He.ga K "BadLine") "__init__") (spErr1 (He.ga K "BadLine") "line") := by
  refine fnr T.f_BadLine___init__ sc_BadLine (fun vs H Q E h => ?_) (fun _ _ _ _ _ _ us hl => match us, hl with | [_, _], _ => rfl) fun cdv A outer s H vs Q E hr h => ?_
  · obtain ⟨a, g, rfl, _⟩ := h
    rfl
  · obtain ⟨a, g, rfl, ha, k⟩ := h
    refine s_cons (s_expr (we_of (pe_sinit rfl T.g_StreamError T.sin.1 T.sin.2 paW) ?_))
    refine a_cons (w_var 0 rfl (a_cons (w_str (a_nil ⟨a, _, _, rfl, by show 1 ≤ 1000; decide, T.x_BadLine, ha, ?_⟩))))
    refine s_one (ws_of (ps_ost peW peW) ?_)
    exact w_var 1 rfl (w_var 0 rfl ⟨a, _, rfl, T.x_BadLine, T.xn_BadLine, .inl ⟨ha, fun dx h1 h2 => k dx h1 h2⟩⟩)
theorem mk_BadLine {X : Cx} {e : Expr} {p pos : Pos} (T : Tx X.K X.mg) (hr : Room 2 X.A) (hg : Gl X "BadLine" := by rfl) (he : starEach [e] X.env = (false, eval e X.env) :: starEach [] X.env := by rfl) :
    PMk X (.Call (.Name "BadLine" p) [e] [] pos) (fun σ H Q => We X e σ H fun v H1 => ∀ d, H1 d = none → Q (.ref (He.ga X.K "BadLine")) (some d) (upd H1 d (.xd [("line", v)]))) := by
  intro pins s σ H Q I h
  obtain ⟨fd, F⟩ := T.f_BadLine___init__
  have F1 : FnOk X.prog X.w X.K X.mg X.base (L2.CX X.prog X.w) 1 (He.ma X.K (He.ga X.K "BadLine") "__init__") fd ["self", "line"] (spErr1 (He.ga X.K "BadLine") "line") := F.ok sc_BadLine (fun vs H Q E h => by obtain ⟨a, g, rfl, _⟩ := h; rfl) fun cdv A outer s H vs Q E hr h => by
    obtain ⟨a, g, rfl, ha, k⟩ := h
    refine ⟨_, pbW, ?_⟩
    refine s_cons (s_expr (we_of (pe_sinit rfl T.g_StreamError T.sin.1 T.sin.2 paW) ?_))
    refine a_cons (w_var 0 rfl (a_cons (w_str (a_nil ⟨a, _, _, rfl, by show 1 ≤ 1000; decide, T.x_BadLine, ha, ?_⟩))))
    refine s_one (ws_of (ps_ost peW peW) ?_)
    exact w_var 1 rfl (w_var 0 rfl ⟨a, _, rfl, T.x_BadLine, T.xn_BadLine, .inl ⟨ha, fun dx h1 h2 => k dx h1 h2⟩⟩)
  refine pmk_oex (dvs := []) (ds := []) T.x_BadLine T.xi_BadLine.at_ T.xi_BadLine.ty F1 hr (F.bindsN fun _ _ _ _ _ _ us hl => match us, hl with | [_, _], _ => rfl) .nil passL hg T.g_BadLine (pa_cons peW pa_nil he) (by decide) he (by rfl) pins s σ H Q I ?_
  refine We.mono h fun v H1 k => ⟨by show 1 ≤ 1000; decide, fun a ha => ?_⟩
  refine ⟨a, v, rfl, upd_same, fun dx h1 h2 => ?_⟩
  have hd : H1 dx = none := by rw [upd_ne h2] at h1; exact h1
  refine ⟨rfl, dx, _, upd_same, by rw [upd_ne h2, upd_same], hd, ?_⟩
  have e : upd (del (upd (upd (upd H1 a (exo a (He.ga X.K "BadLine") none)) dx (exd dx [("line", v)])) a (exo a (He.ga X.K "BadLine") (some dx))) a) dx (.xd [("line", v)]) = upd H1 dx (.xd [("line", v)]) := by
    funext b
    by_cases e1 : b = dx
    · rw [e1, upd_same, upd_same]
    · rw [upd_ne e1, upd_ne e1]
      by_cases e2 : b = a
      · rw [e2, del_same, ha]
      · rw [del_ne e2, upd_ne e2, upd_ne e1, upd_ne e2]
  rw [e]
  exact k dx hd
theorem sc_NothingToUndo : FnScope ["self"] ["self"] (defScope s_NothingToUndo___init__) := ⟨rfl, rfl, rfl, by decide +kernel, rfl, by decide +kernel, by decide +kernel⟩
theorem fn_NothingToUndo (T : Tx K mg) : FnR P w K mg base (L2.CX P w) 1 (He.ma K (He.ga K "NothingToUndo") "__init__") (spErr0 (He.ga K "NothingToUndo")) := by
  refine fnr T.f_NothingToUndo___init__ sc_NothingToUndo (fun vs H Q E h => ?_) (fun _ _ _ _ _ _ us hl => match us, hl with | [_], _ => rfl) fun cdv A outer s H vs Q E hr h => ?_
  · obtain ⟨a, rfl, _⟩ := h
    rfl
  · obtain ⟨a, rfl, ha, k⟩ := h
    refine s_one (s_expr (we_of (pe_sinit rfl T.g_StreamError T.sin.1 T.sin.2 paW) ?_))
    exact a_cons (w_var 0 rfl (a_cons (w_str (a_nil ⟨a, _, _, rfl, by show 1 ≤ 1000; decide, T.x_NothingToUndo, ha, k⟩))))
theorem mk_NothingToUndo {X : Cx} {p pos : Pos} (T : Tx X.K X.mg) (hr : Room 2 X.A) (hg : Gl X "NothingToUndo" := by rfl) :
    PMk X (.Call (.Name "NothingToUndo" p) [] [] pos) (fun _ H Q => Q (.ref (He.ga X.K "NothingToUndo")) none H) := by
  intro pins s σ H Q I h
  obtain ⟨fd, F⟩ := T.f_NothingToUndo___init__
  have F1 : FnOk X.prog X.w X.K X.mg X.base (L2.CX X.prog X.w) 1 (He.ma X.K (He.ga X.K "NothingToUndo") "__init__") fd ["self"] (spErr0 (He.ga X.K "NothingToUndo")) := F.ok sc_NothingToUndo (fun vs H Q E h => by obtain ⟨a, rfl, _⟩ := h; rfl) fun cdv A outer s H vs Q E hr h => by
    obtain ⟨a, rfl, ha, k⟩ := h
    refine ⟨_, pbW, ?_⟩
    refine s_one (s_expr (we_of (pe_sinit rfl T.g_StreamError T.sin.1 T.sin.2 paW) ?_))
    exact a_cons (w_var 0 rfl (a_cons (w_str (a_nil ⟨a, _, _, rfl, by show 1 ≤ 1000; decide, T.x_NothingToUndo, ha, k⟩))))
  refine pmk_oex0 T.x_NothingToUndo T.xi_NothingToUndo.at_ T.xi_NothingToUndo.ty F1 hr (F.bindsN fun _ _ _ _ _ _ us hl => match us, hl with | [_], _ => rfl) passL hg T.g_NothingToUndo (by decide) pins s σ H Q I ?_
  intro a ha
  refine ⟨a, rfl, upd_same, rfl, upd_same, ?_⟩
  rw [upd_back ha]
  exact h
theorem sc_NothingToRedo : FnScope ["self"] ["self"] (defScope s_NothingToRedo___init__) := ⟨rfl, rfl, rfl, by decide +kernel, rfl, by decide +kernel, by decide +kernel⟩
theorem fn_NothingToRedo (T : Tx K mg) : FnR P w K mg base (L2.CX P w) 1 (He.ma K (He.ga K "NothingToRedo") "__init__") (spErr0 (He.ga K "NothingToRedo")) := by
  refine fnr T.f_NothingToRedo___init__ sc_NothingToRedo (fun vs H Q E h => ?_) (fun _ _ _ _ _ _ us hl => match us, hl with | [_], _ => rfl) fun cdv A outer s H vs Q E hr h => ?_
  · obtain ⟨a, rfl, _⟩ := h
    rfl
  · obtain ⟨a, rfl, ha, k⟩ := h
    refine s_one (s_expr (we_of (pe_sinit rfl T.g_StreamError T.sin.1 T.sin.2 paW) ?_))
    exact a_cons (w_var 0 rfl (a_cons (w_str (a_nil ⟨a, _, _, rfl, by show 1 ≤ 1000; decide, T.x_NothingToRedo, ha, k⟩))))
theorem mk_NothingToRedo {X : Cx} {p pos : Pos} (T : Tx X.K X.mg) (hr : Room 2 X.A) (hg : Gl X "NothingToRedo" := by rfl) :
    PMk X (.Call (.Name "NothingToRedo" p) [] [] pos) (fun _ H Q => Q (.ref (He.ga X.K "NothingToRedo")) none H) := by
  intro pins s σ H Q I h
  obtain ⟨fd, F⟩ := T.f_NothingToRedo___init__
  have F1 : FnOk X.prog X.w X.K X.mg X.base (L2.CX X.prog X.w) 1 (He.ma X.K (He.ga X.K "NothingToRedo") "__init__") fd ["self"] (spErr0 (He.ga X.K "NothingToRedo")) := F.ok sc_NothingToRedo (fun vs H Q E h => by obtain ⟨a, rfl, _⟩ := h; rfl) fun cdv A outer s H vs Q E hr h => by
    obtain ⟨a, rfl, ha, k⟩ := h
    refine ⟨_, pbW, ?_⟩
    refine s_one (s_expr (we_of (pe_sinit rfl T.g_StreamError T.sin.1 T.sin.2 paW) ?_))
    exact a_cons (w_var 0 rfl (a_cons (w_str (a_nil ⟨a, _, _, rfl, by show 1 ≤ 1000; decide, T.x_NothingToRedo, ha, k⟩))))
  refine pmk_oex0 T.x_NothingToRedo T.xi_NothingToRedo.at_ T.xi_NothingToRedo.ty F1 hr (F.bindsN fun _ _ _ _ _ _ us hl => match us, hl with | [_], _ => rfl) passL hg T.g_NothingToRedo (by decide) pins s σ H Q I ?_
  intro a ha
  refine ⟨a, rfl, upd_same, rfl, upd_same, ?_⟩
  rw [upd_back ha]
  exact h
theorem sc_UnlikeBooks : FnScope ["self"] ["self"] (defScope s_UnlikeBooks___init__) := ⟨rfl, rfl, rfl, by decide +kernel, rfl, by decide +kernel, by decide +kernel⟩
theorem fn_UnlikeBooks (T : Tx K mg) : FnR P w K mg base (L2.CX P w) 1 (He.ma K (He.ga K "UnlikeBooks") "__init__") (spErr0 (He.ga K "UnlikeBooks")) := by
  refine fnr T.f_UnlikeBooks___init__ sc_UnlikeBooks (fun vs H Q E h => ?_) (fun _ _ _ _ _ _ us hl => match us, hl with | [_], _ => rfl) fun cdv A outer s H vs Q E hr h => ?_
  · obtain ⟨a, rfl, _⟩ := h
    rfl
  · obtain ⟨a, rfl, ha, k⟩ := h
    refine s_one (s_expr (we_of (pe_sinit rfl T.g_StreamError T.sin.1 T.sin.2 paW) ?_))
    exact a_cons (w_var 0 rfl (a_cons (w_str (a_nil ⟨a, _, _, rfl, by show 1 ≤ 1000; decide, T.x_UnlikeBooks, ha, k⟩))))
theorem mk_UnlikeBooks {X : Cx} {p pos : Pos} (T : Tx X.K X.mg) (hr : Room 2 X.A) (hg : Gl X "UnlikeBooks" := by rfl) :
    PMk X (.Call (.Name "UnlikeBooks" p) [] [] pos) (fun _ H Q => Q (.ref (He.ga X.K "UnlikeBooks")) none H) := by
  intro pins s σ H Q I h
  obtain ⟨fd, F⟩ := T.f_UnlikeBooks___init__
  have F1 : FnOk X.prog X.w X.K X.mg X.base (L2.CX X.prog X.w) 1 (He.ma X.K (He.ga X.K "UnlikeBooks") "__init__") fd ["self"] (spErr0 (He.ga X.K "UnlikeBooks")) := F.ok sc_UnlikeBooks (fun vs H Q E h => by obtain ⟨a, rfl, _⟩ := h; rfl) fun cdv A outer s H vs Q E hr h => by
    obtain ⟨a, rfl, ha, k⟩ := h
    refine ⟨_, pbW, ?_⟩
    refine s_one (s_expr (we_of (pe_sinit rfl T.g_StreamError T.sin.1 T.sin.2 paW) ?_))
    exact a_cons (w_var 0 rfl (a_cons (w_str (a_nil ⟨a, _, _, rfl, by show 1 ≤ 1000; decide, T.x_UnlikeBooks, ha, k⟩))))
  refine pmk_oex0 T.x_UnlikeBooks T.xi_UnlikeBooks.at_ T.xi_UnlikeBooks.ty F1 hr (F.bindsN fun _ _ _ _ _ _ us hl => match us, hl with | [_], _ => rfl) passL hg T.g_UnlikeBooks (by decide) pins s σ H Q I ?_
  intro a ha
  refine ⟨a, rfl, upd_same, rfl, upd_same, ?_⟩
  rw [upd_back ha]
  exact h
end
end LW
namespace LW
open PySem PySem.Spec PyProof.Rows L2 PR
theorem exv_new {H : Hp} {a dx C : Addr} {f : Str} {v : V} (ha : H a = none) (hd : upd H a (exo a C none) dx = none) (hn : dx ≠ a) : Same H (upd (upd (upd H a (exo a C none)) dx (exd dx [(f, v)])) a (exo a C (some dx))) ∧ ExV (upd (upd (upd H a (exo a C none)) dx (exd dx [(f, v)])) a (exo a C (some dx))) a C [(f, v)] := by
  refine ⟨fun b o e => ?_, .inr ⟨dx, upd_same, ?_⟩⟩
  · have h1 : b ≠ a := ne_of_none e ha
    have h2 : b ≠ dx := fun z => by
      rw [upd_ne hn] at hd
      rw [z, hd] at e
      cases e
    rw [upd_ne h1, upd_ne h2, upd_ne h1]
    exact e
  · rw [upd_ne hn, upd_same]
theorem wx_ByZero {X : Cx} {σ : L2.St} {H : Hp} {Q : VK} {p pos : Pos} (T : Tx X.K X.mg) (hr : Room 2 X.A) (h : ∀ a H', Same H H' → ExV H' a (He.ga X.K "ByZero") [] → Q (.ref a) H') (hg : Gl X "ByZero" := by rfl) : We X (.Call (.Name "ByZero" p) [] [] pos) σ H Q :=
  w_exc0 T.x_ByZero T.xi_ByZero.at_ T.xi_ByZero.ty (fn_ByZero T) hr T.g_ByZero passL (fun a ha => ⟨a, rfl, upd_same, rfl, h a _ (fun b o e => by rw [upd_ne (ne_of_none e ha)]; exact e) (.inl ⟨rfl, upd_same⟩)⟩) hg
theorem wx_BadNumber {X : Cx} {e : Expr} {σ : L2.St} {H : Hp} {Q : VK} {p pos : Pos} (T : Tx X.K X.mg) (hr : Room 2 X.A) (h : We X e σ H fun v H1 => ∀ a H', Same H1 H' → ExV H' a (He.ga X.K "BadNumber") [("given", v)] → Q (.ref a) H') (hg : Gl X "BadNumber" := by rfl)
    (he : starEach [e] X.env = (false, eval e X.env) :: starEach [] X.env := by rfl) (hpl : (backTo pos (starEach [] X.env)).any (·.1) = false := by rfl) : We X (.Call (.Name "BadNumber" p) [e] [] pos) σ H Q := by
  refine w_exc T.x_BadNumber T.xi_BadNumber.at_ T.xi_BadNumber.ty (fn_BadNumber T) hr T.g_BadNumber passL (a_cons (We.mono h fun v H1 z => a_nil ⟨by show 1 ≤ 1000; decide, fun a ha => ⟨a, v, rfl, upd_same, fun dx h1 h2 => ⟨rfl, ?_⟩⟩⟩) he) hg (by decide) he hpl
  obtain ⟨g1, g2⟩ := exv_new (v := v) (f := "given") ha h1 h2
  exact z a _ g1 g2
theorem fq_BadNumber {P : Program} {w : World} {K : PySem.W.Frag} {mg : Str → Option Value} {base : Heap} (T : Tx K mg) : FnQ P w K mg base (L2.CX P w) 1 (He.ma K (He.ga K "BadNumber") "__init__") 1 ["given"] (fun vs zs H Q E => spErr1 (He.ga K "BadNumber") "given" (vs ++ zs) H Q E) := by
  obtain ⟨fd, F⟩ := T.f_BadNumber___init__
  have F1 : FnOk P w K mg base (L2.CX P w) 1 (He.ma K (He.ga K "BadNumber") "__init__") fd ["self", "given"] (spErr1 (He.ga K "BadNumber") "given") := F.ok sc_BadNumber (fun vs H Q E h => by obtain ⟨a, g, rfl, _⟩ := h; rfl) fun cdv A outer s H vs Q E hr h => by
    obtain ⟨a, g, rfl, ha, k⟩ := h
    refine ⟨_, pbW, s_cons (s_expr (we_of (pe_sinit rfl T.g_StreamError T.sin.1 T.sin.2 paW) ?_))⟩
    refine a_cons (w_var 0 rfl (a_cons (w_str (a_nil ⟨a, _, _, rfl, by show 1 ≤ 1000; decide, T.x_BadNumber, ha, s_one (ws_of (ps_ost peW peW) ?_)⟩))))
    exact w_var 1 rfl (w_var 0 rfl ⟨a, _, rfl, T.x_BadNumber, T.xn_BadNumber, .inl ⟨ha, fun dx h1 h2 => k dx h1 h2⟩⟩)
  exact fnq_of F1 (kbn0 F 1 ["given"] (fun vs zs => vs ++ zs) (fun r1 r2 => r1.append r2) fun _ _ _ _ _ _ us ws h1 h2 => match us, ws, h1, h2 with | [_], [_], _, _ => rfl)
theorem wk_BadNumber {X : Cx} {e : Expr} {σ : L2.St} {H : Hp} {Q : VK} {p pos kpos : Pos} (T : Tx X.K X.mg) (hr : Room 2 X.A) (h : We X e σ H fun v H1 => ∀ a H', Same H1 H' → ExV H' a (He.ga X.K "BadNumber") [("given", v)] → Q (.ref a) H') (hg : Gl X "BadNumber" := by rfl)
    (hall : (backToKw pos (keywordEach [⟨some "given", e, kpos⟩] X.env)).all (·.1.isSome) = true := by rfl) (hks : (backToKw pos (keywordEach [⟨some "given", e, kpos⟩] X.env)).filterMap (·.1) = (["given"] : List Str) := by rfl)
    (hpl : ((backTo pos (starEach [] X.env)).any (·.1) || (backToKw pos (keywordEach [⟨some "given", e, kpos⟩] X.env)).any (·.1.isNone)) = false := by rfl) : We X (.Call (.Name "BadNumber" p) [] [⟨some "given", e, kpos⟩] pos) σ H Q := by
  refine w_excQ T.x_BadNumber T.xi_BadNumber.at_ T.xi_BadNumber.ty (fq_BadNumber T) hr T.g_BadNumber passL (We.mono h fun v H1 z => fun a ha => ⟨a, v, rfl, upd_same, fun dx h1 h2 => ⟨rfl, ?_⟩⟩) hg (by decide) hall hks hpl
  obtain ⟨g1, g2⟩ := exv_new (v := v) (f := "given") ha h1 h2
  exact z a _ g1 g2
theorem wg_BadNumber {X : Cx} {e : Expr} {σ : L2.St} {H : Hp} {Q : VK} {p pos pos2 : Pos} (T : Tx X.K X.mg) (hr : Room 2 X.A) (h : We X e σ H fun v H1 => ∀ H', Same H1 H' → Q v H') (hg : Gl X "BadNumber" := by rfl)
    (he : starEach [e] X.env = (false, eval e X.env) :: starEach [] X.env := by rfl) (hpl : (backTo pos (starEach [] X.env)).any (·.1) = false := by rfl) (hb : attributeBase (.Call (.Name "BadNumber" p) [e] [] pos) "given" X.env (eval (.Call (.Name "BadNumber" p) [e] [] pos) X.env) = eval (.Call (.Name "BadNumber" p) [e] [] pos) X.env := by rfl) :
    We X (.Attribute (.Call (.Name "BadNumber" p) [e] [] pos) "given" pos2) σ H Q := w_ef (wx_BadNumber T hr (We.mono h fun v H1 z a H' s ev => ⟨a, _, _, v, rfl, T.xf_BadNumber, T.xn_BadNumber, ev, by rw [lookup_put, if_pos rfl], z H' s⟩) hg he hpl) hb
theorem wj_BadNumber {X : Cx} {e : Expr} {σ : L2.St} {H : Hp} {Q : VK} {p pos kpos pos2 : Pos} (T : Tx X.K X.mg) (hr : Room 2 X.A) (h : We X e σ H fun v H1 => ∀ H', Same H1 H' → Q v H') (hg : Gl X "BadNumber" := by rfl)
    (hall : (backToKw pos (keywordEach [⟨some "given", e, kpos⟩] X.env)).all (·.1.isSome) = true := by rfl) (hks : (backToKw pos (keywordEach [⟨some "given", e, kpos⟩] X.env)).filterMap (·.1) = (["given"] : List Str) := by rfl)
    (hpl : ((backTo pos (starEach [] X.env)).any (·.1) || (backToKw pos (keywordEach [⟨some "given", e, kpos⟩] X.env)).any (·.1.isNone)) = false := by rfl) (hb : attributeBase (.Call (.Name "BadNumber" p) [] [⟨some "given", e, kpos⟩] pos) "given" X.env (eval (.Call (.Name "BadNumber" p) [] [⟨some "given", e, kpos⟩] pos) X.env) = eval (.Call (.Name "BadNumber" p) [] [⟨some "given", e, kpos⟩] pos) X.env := by rfl) :
    We X (.Attribute (.Call (.Name "BadNumber" p) [] [⟨some "given", e, kpos⟩] pos) "given" pos2) σ H Q := w_ef (wk_BadNumber T hr (We.mono h fun v H1 z a H' s ev => ⟨a, _, _, v, rfl, T.xf_BadNumber, T.xn_BadNumber, ev, by rw [lookup_put, if_pos rfl], z H' s⟩) hg hall hks hpl) hb
theorem wx_BadText {X : Cx} {σ : L2.St} {H : Hp} {Q : VK} {p pos : Pos} (T : Tx X.K X.mg) (hr : Room 2 X.A) (h : ∀ a H', Same H H' → ExV H' a (He.ga X.K "BadText") [] → Q (.ref a) H') (hg : Gl X "BadText" := by rfl) : We X (.Call (.Name "BadText" p) [] [] pos) σ H Q :=
  w_exc0 T.x_BadText T.xi_BadText.at_ T.xi_BadText.ty (fn_BadText T) hr T.g_BadText passL (fun a ha => ⟨a, rfl, upd_same, rfl, h a _ (fun b o e => by rw [upd_ne (ne_of_none e ha)]; exact e) (.inl ⟨rfl, upd_same⟩)⟩) hg
theorem wx_BadSystem {X : Cx} {σ : L2.St} {H : Hp} {Q : VK} {p pos : Pos} (T : Tx X.K X.mg) (hr : Room 2 X.A) (h : ∀ a H', Same H H' → ExV H' a (He.ga X.K "BadSystem") [] → Q (.ref a) H') (hg : Gl X "BadSystem" := by rfl) : We X (.Call (.Name "BadSystem" p) [] [] pos) σ H Q :=
  w_exc0 T.x_BadSystem T.xi_BadSystem.at_ T.xi_BadSystem.ty (fn_BadSystem T) hr T.g_BadSystem passL (fun a ha => ⟨a, rfl, upd_same, rfl, h a _ (fun b o e => by rw [upd_ne (ne_of_none e ha)]; exact e) (.inl ⟨rfl, upd_same⟩)⟩) hg
theorem wx_BadName {X : Cx} {e : Expr} {σ : L2.St} {H : Hp} {Q : VK} {p pos : Pos} (T : Tx X.K X.mg) (hr : Room 2 X.A) (h : We X e σ H fun v H1 => ∀ a H', Same H1 H' → ExV H' a (He.ga X.K "BadName") [("given", v)] → Q (.ref a) H') (hg : Gl X "BadName" := by rfl)
    (he : starEach [e] X.env = (false, eval e X.env) :: starEach [] X.env := by rfl) (hpl : (backTo pos (starEach [] X.env)).any (·.1) = false := by rfl) : We X (.Call (.Name "BadName" p) [e] [] pos) σ H Q := by
  refine w_exc T.x_BadName T.xi_BadName.at_ T.xi_BadName.ty (fn_BadName T) hr T.g_BadName passL (a_cons (We.mono h fun v H1 z => a_nil ⟨by show 1 ≤ 1000; decide, fun a ha => ⟨a, v, rfl, upd_same, fun dx h1 h2 => ⟨rfl, ?_⟩⟩⟩) he) hg (by decide) he hpl
  obtain ⟨g1, g2⟩ := exv_new (v := v) (f := "given") ha h1 h2
  exact z a _ g1 g2
theorem fq_BadName {P : Program} {w : World} {K : PySem.W.Frag} {mg : Str → Option Value} {base : Heap} (T : Tx K mg) : FnQ P w K mg base (L2.CX P w) 1 (He.ma K (He.ga K "BadName") "__init__") 1 ["given"] (fun vs zs H Q E => spErr1 (He.ga K "BadName") "given" (vs ++ zs) H Q E) := by
  obtain ⟨fd, F⟩ := T.f_BadName___init__
  have F1 : FnOk P w K mg base (L2.CX P w) 1 (He.ma K (He.ga K "BadName") "__init__") fd ["self", "given"] (spErr1 (He.ga K "BadName") "given") := F.ok sc_BadName (fun vs H Q E h => by obtain ⟨a, g, rfl, _⟩ := h; rfl) fun cdv A outer s H vs Q E hr h => by
    obtain ⟨a, g, rfl, ha, k⟩ := h
    refine ⟨_, pbW, s_cons (s_expr (we_of (pe_sinit rfl T.g_StreamError T.sin.1 T.sin.2 paW) ?_))⟩
    refine a_cons (w_var 0 rfl (a_cons (w_str (a_nil ⟨a, _, _, rfl, by show 1 ≤ 1000; decide, T.x_BadName, ha, s_one (ws_of (ps_ost peW peW) ?_)⟩))))
    exact w_var 1 rfl (w_var 0 rfl ⟨a, _, rfl, T.x_BadName, T.xn_BadName, .inl ⟨ha, fun dx h1 h2 => k dx h1 h2⟩⟩)
  exact fnq_of F1 (kbn0 F 1 ["given"] (fun vs zs => vs ++ zs) (fun r1 r2 => r1.append r2) fun _ _ _ _ _ _ us ws h1 h2 => match us, ws, h1, h2 with | [_], [_], _, _ => rfl)
theorem wk_BadName {X : Cx} {e : Expr} {σ : L2.St} {H : Hp} {Q : VK} {p pos kpos : Pos} (T : Tx X.K X.mg) (hr : Room 2 X.A) (h : We X e σ H fun v H1 => ∀ a H', Same H1 H' → ExV H' a (He.ga X.K "BadName") [("given", v)] → Q (.ref a) H') (hg : Gl X "BadName" := by rfl)
    (hall : (backToKw pos (keywordEach [⟨some "given", e, kpos⟩] X.env)).all (·.1.isSome) = true := by rfl) (hks : (backToKw pos (keywordEach [⟨some "given", e, kpos⟩] X.env)).filterMap (·.1) = (["given"] : List Str) := by rfl)
    (hpl : ((backTo pos (starEach [] X.env)).any (·.1) || (backToKw pos (keywordEach [⟨some "given", e, kpos⟩] X.env)).any (·.1.isNone)) = false := by rfl) : We X (.Call (.Name "BadName" p) [] [⟨some "given", e, kpos⟩] pos) σ H Q := by
  refine w_excQ T.x_BadName T.xi_BadName.at_ T.xi_BadName.ty (fq_BadName T) hr T.g_BadName passL (We.mono h fun v H1 z => fun a ha => ⟨a, v, rfl, upd_same, fun dx h1 h2 => ⟨rfl, ?_⟩⟩) hg (by decide) hall hks hpl
  obtain ⟨g1, g2⟩ := exv_new (v := v) (f := "given") ha h1 h2
  exact z a _ g1 g2
theorem wg_BadName {X : Cx} {e : Expr} {σ : L2.St} {H : Hp} {Q : VK} {p pos pos2 : Pos} (T : Tx X.K X.mg) (hr : Room 2 X.A) (h : We X e σ H fun v H1 => ∀ H', Same H1 H' → Q v H') (hg : Gl X "BadName" := by rfl)
    (he : starEach [e] X.env = (false, eval e X.env) :: starEach [] X.env := by rfl) (hpl : (backTo pos (starEach [] X.env)).any (·.1) = false := by rfl) (hb : attributeBase (.Call (.Name "BadName" p) [e] [] pos) "given" X.env (eval (.Call (.Name "BadName" p) [e] [] pos) X.env) = eval (.Call (.Name "BadName" p) [e] [] pos) X.env := by rfl) :
    We X (.Attribute (.Call (.Name "BadName" p) [e] [] pos) "given" pos2) σ H Q := w_ef (wx_BadName T hr (We.mono h fun v H1 z a H' s ev => ⟨a, _, _, v, rfl, T.xf_BadName, T.xn_BadName, ev, by rw [lookup_put, if_pos rfl], z H' s⟩) hg he hpl) hb
theorem wj_BadName {X : Cx} {e : Expr} {σ : L2.St} {H : Hp} {Q : VK} {p pos kpos pos2 : Pos} (T : Tx X.K X.mg) (hr : Room 2 X.A) (h : We X e σ H fun v H1 => ∀ H', Same H1 H' → Q v H') (hg : Gl X "BadName" := by rfl)
    (hall : (backToKw pos (keywordEach [⟨some "given", e, kpos⟩] X.env)).all (·.1.isSome) = true := by rfl) (hks : (backToKw pos (keywordEach [⟨some "given", e, kpos⟩] X.env)).filterMap (·.1) = (["given"] : List Str) := by rfl)
    (hpl : ((backTo pos (starEach [] X.env)).any (·.1) || (backToKw pos (keywordEach [⟨some "given", e, kpos⟩] X.env)).any (·.1.isNone)) = false := by rfl) (hb : attributeBase (.Call (.Name "BadName" p) [] [⟨some "given", e, kpos⟩] pos) "given" X.env (eval (.Call (.Name "BadName" p) [] [⟨some "given", e, kpos⟩] pos) X.env) = eval (.Call (.Name "BadName" p) [] [⟨some "given", e, kpos⟩] pos) X.env := by rfl) :
    We X (.Attribute (.Call (.Name "BadName" p) [] [⟨some "given", e, kpos⟩] pos) "given" pos2) σ H Q := w_ef (wk_BadName T hr (We.mono h fun v H1 z a H' s ev => ⟨a, _, _, v, rfl, T.xf_BadName, T.xn_BadName, ev, by rw [lookup_put, if_pos rfl], z H' s⟩) hg hall hks hpl) hb
theorem wx_BadAmount {X : Cx} {e : Expr} {σ : L2.St} {H : Hp} {Q : VK} {p pos : Pos} (T : Tx X.K X.mg) (hr : Room 2 X.A) (h : We X e σ H fun v H1 => ∀ a H', Same H1 H' → ExV H' a (He.ga X.K "BadAmount") [("given", v)] → Q (.ref a) H') (hg : Gl X "BadAmount" := by rfl)
    (he : starEach [e] X.env = (false, eval e X.env) :: starEach [] X.env := by rfl) (hpl : (backTo pos (starEach [] X.env)).any (·.1) = false := by rfl) : We X (.Call (.Name "BadAmount" p) [e] [] pos) σ H Q := by
  refine w_exc T.x_BadAmount T.xi_BadAmount.at_ T.xi_BadAmount.ty (fn_BadAmount T) hr T.g_BadAmount passL (a_cons (We.mono h fun v H1 z => a_nil ⟨by show 1 ≤ 1000; decide, fun a ha => ⟨a, v, rfl, upd_same, fun dx h1 h2 => ⟨rfl, ?_⟩⟩⟩) he) hg (by decide) he hpl
  obtain ⟨g1, g2⟩ := exv_new (v := v) (f := "given") ha h1 h2
  exact z a _ g1 g2
theorem fq_BadAmount {P : Program} {w : World} {K : PySem.W.Frag} {mg : Str → Option Value} {base : Heap} (T : Tx K mg) : FnQ P w K mg base (L2.CX P w) 1 (He.ma K (He.ga K "BadAmount") "__init__") 1 ["given"] (fun vs zs H Q E => spErr1 (He.ga K "BadAmount") "given" (vs ++ zs) H Q E) := by
  obtain ⟨fd, F⟩ := T.f_BadAmount___init__
  have F1 : FnOk P w K mg base (L2.CX P w) 1 (He.ma K (He.ga K "BadAmount") "__init__") fd ["self", "given"] (spErr1 (He.ga K "BadAmount") "given") := F.ok sc_BadAmount (fun vs H Q E h => by obtain ⟨a, g, rfl, _⟩ := h; rfl) fun cdv A outer s H vs Q E hr h => by
    obtain ⟨a, g, rfl, ha, k⟩ := h
    refine ⟨_, pbW, s_cons (s_expr (we_of (pe_sinit rfl T.g_StreamError T.sin.1 T.sin.2 paW) ?_))⟩
    refine a_cons (w_var 0 rfl (a_cons (w_str (a_nil ⟨a, _, _, rfl, by show 1 ≤ 1000; decide, T.x_BadAmount, ha, s_one (ws_of (ps_ost peW peW) ?_)⟩))))
    exact w_var 1 rfl (w_var 0 rfl ⟨a, _, rfl, T.x_BadAmount, T.xn_BadAmount, .inl ⟨ha, fun dx h1 h2 => k dx h1 h2⟩⟩)
  exact fnq_of F1 (kbn0 F 1 ["given"] (fun vs zs => vs ++ zs) (fun r1 r2 => r1.append r2) fun _ _ _ _ _ _ us ws h1 h2 => match us, ws, h1, h2 with | [_], [_], _, _ => rfl)
theorem wk_BadAmount {X : Cx} {e : Expr} {σ : L2.St} {H : Hp} {Q : VK} {p pos kpos : Pos} (T : Tx X.K X.mg) (hr : Room 2 X.A) (h : We X e σ H fun v H1 => ∀ a H', Same H1 H' → ExV H' a (He.ga X.K "BadAmount") [("given", v)] → Q (.ref a) H') (hg : Gl X "BadAmount" := by rfl)
    (hall : (backToKw pos (keywordEach [⟨some "given", e, kpos⟩] X.env)).all (·.1.isSome) = true := by rfl) (hks : (backToKw pos (keywordEach [⟨some "given", e, kpos⟩] X.env)).filterMap (·.1) = (["given"] : List Str) := by rfl)
    (hpl : ((backTo pos (starEach [] X.env)).any (·.1) || (backToKw pos (keywordEach [⟨some "given", e, kpos⟩] X.env)).any (·.1.isNone)) = false := by rfl) : We X (.Call (.Name "BadAmount" p) [] [⟨some "given", e, kpos⟩] pos) σ H Q := by
  refine w_excQ T.x_BadAmount T.xi_BadAmount.at_ T.xi_BadAmount.ty (fq_BadAmount T) hr T.g_BadAmount passL (We.mono h fun v H1 z => fun a ha => ⟨a, v, rfl, upd_same, fun dx h1 h2 => ⟨rfl, ?_⟩⟩) hg (by decide) hall hks hpl
  obtain ⟨g1, g2⟩ := exv_new (v := v) (f := "given") ha h1 h2
  exact z a _ g1 g2
theorem wg_BadAmount {X : Cx} {e : Expr} {σ : L2.St} {H : Hp} {Q : VK} {p pos pos2 : Pos} (T : Tx X.K X.mg) (hr : Room 2 X.A) (h : We X e σ H fun v H1 => ∀ H', Same H1 H' → Q v H') (hg : Gl X "BadAmount" := by rfl)
    (he : starEach [e] X.env = (false, eval e X.env) :: starEach [] X.env := by rfl) (hpl : (backTo pos (starEach [] X.env)).any (·.1) = false := by rfl) (hb : attributeBase (.Call (.Name "BadAmount" p) [e] [] pos) "given" X.env (eval (.Call (.Name "BadAmount" p) [e] [] pos) X.env) = eval (.Call (.Name "BadAmount" p) [e] [] pos) X.env := by rfl) :
    We X (.Attribute (.Call (.Name "BadAmount" p) [e] [] pos) "given" pos2) σ H Q := w_ef (wx_BadAmount T hr (We.mono h fun v H1 z a H' s ev => ⟨a, _, _, v, rfl, T.xf_BadAmount, T.xn_BadAmount, ev, by rw [lookup_put, if_pos rfl], z H' s⟩) hg he hpl) hb
theorem wj_BadAmount {X : Cx} {e : Expr} {σ : L2.St} {H : Hp} {Q : VK} {p pos kpos pos2 : Pos} (T : Tx X.K X.mg) (hr : Room 2 X.A) (h : We X e σ H fun v H1 => ∀ H', Same H1 H' → Q v H') (hg : Gl X "BadAmount" := by rfl)
    (hall : (backToKw pos (keywordEach [⟨some "given", e, kpos⟩] X.env)).all (·.1.isSome) = true := by rfl) (hks : (backToKw pos (keywordEach [⟨some "given", e, kpos⟩] X.env)).filterMap (·.1) = (["given"] : List Str) := by rfl)
    (hpl : ((backTo pos (starEach [] X.env)).any (·.1) || (backToKw pos (keywordEach [⟨some "given", e, kpos⟩] X.env)).any (·.1.isNone)) = false := by rfl) (hb : attributeBase (.Call (.Name "BadAmount" p) [] [⟨some "given", e, kpos⟩] pos) "given" X.env (eval (.Call (.Name "BadAmount" p) [] [⟨some "given", e, kpos⟩] pos) X.env) = eval (.Call (.Name "BadAmount" p) [] [⟨some "given", e, kpos⟩] pos) X.env := by rfl) :
    We X (.Attribute (.Call (.Name "BadAmount" p) [] [⟨some "given", e, kpos⟩] pos) "given" pos2) σ H Q := w_ef (wk_BadAmount T hr (We.mono h fun v H1 z a H' s ev => ⟨a, _, _, v, rfl, T.xf_BadAmount, T.xn_BadAmount, ev, by rw [lookup_put, if_pos rfl], z H' s⟩) hg hall hks hpl) hb
theorem wx_BadInlet {X : Cx} {e : Expr} {σ : L2.St} {H : Hp} {Q : VK} {p pos : Pos} (T : Tx X.K X.mg) (hr : Room 2 X.A) (h : We X e σ H fun v H1 => ∀ a H', Same H1 H' → ExV H' a (He.ga X.K "BadInlet") [("given", v)] → Q (.ref a) H') (hg : Gl X "BadInlet" := by rfl)
    (he : starEach [e] X.env = (false, eval e X.env) :: starEach [] X.env := by rfl) (hpl : (backTo pos (starEach [] X.env)).any (·.1) = false := by rfl) : We X (.Call (.Name "BadInlet" p) [e] [] pos) σ H Q := by
  refine w_exc T.x_BadInlet T.xi_BadInlet.at_ T.xi_BadInlet.ty (fn_BadInlet T) hr T.g_BadInlet passL (a_cons (We.mono h fun v H1 z => a_nil ⟨by show 1 ≤ 1000; decide, fun a ha => ⟨a, v, rfl, upd_same, fun dx h1 h2 => ⟨rfl, ?_⟩⟩⟩) he) hg (by decide) he hpl
  obtain ⟨g1, g2⟩ := exv_new (v := v) (f := "given") ha h1 h2
  exact z a _ g1 g2
theorem fq_BadInlet {P : Program} {w : World} {K : PySem.W.Frag} {mg : Str → Option Value} {base : Heap} (T : Tx K mg) : FnQ P w K mg base (L2.CX P w) 1 (He.ma K (He.ga K "BadInlet") "__init__") 1 ["given"] (fun vs zs H Q E => spErr1 (He.ga K "BadInlet") "given" (vs ++ zs) H Q E) := by
  obtain ⟨fd, F⟩ := T.f_BadInlet___init__
  have F1 : FnOk P w K mg base (L2.CX P w) 1 (He.ma K (He.ga K "BadInlet") "__init__") fd ["self", "given"] (spErr1 (He.ga K "BadInlet") "given") := F.ok sc_BadInlet (fun vs H Q E h => by obtain ⟨a, g, rfl, _⟩ := h; rfl) fun cdv A outer s H vs Q E hr h => by
    obtain ⟨a, g, rfl, ha, k⟩ := h
    refine ⟨_, pbW, s_cons (s_expr (we_of (pe_sinit rfl T.g_StreamError T.sin.1 T.sin.2 paW) ?_))⟩
    refine a_cons (w_var 0 rfl (a_cons (w_str (a_nil ⟨a, _, _, rfl, by show 1 ≤ 1000; decide, T.x_BadInlet, ha, s_one (ws_of (ps_ost peW peW) ?_)⟩))))
    exact w_var 1 rfl (w_var 0 rfl ⟨a, _, rfl, T.x_BadInlet, T.xn_BadInlet, .inl ⟨ha, fun dx h1 h2 => k dx h1 h2⟩⟩)
  exact fnq_of F1 (kbn0 F 1 ["given"] (fun vs zs => vs ++ zs) (fun r1 r2 => r1.append r2) fun _ _ _ _ _ _ us ws h1 h2 => match us, ws, h1, h2 with | [_], [_], _, _ => rfl)
theorem wk_BadInlet {X : Cx} {e : Expr} {σ : L2.St} {H : Hp} {Q : VK} {p pos kpos : Pos} (T : Tx X.K X.mg) (hr : Room 2 X.A) (h : We X e σ H fun v H1 => ∀ a H', Same H1 H' → ExV H' a (He.ga X.K "BadInlet") [("given", v)] → Q (.ref a) H') (hg : Gl X "BadInlet" := by rfl)
    (hall : (backToKw pos (keywordEach [⟨some "given", e, kpos⟩] X.env)).all (·.1.isSome) = true := by rfl) (hks : (backToKw pos (keywordEach [⟨some "given", e, kpos⟩] X.env)).filterMap (·.1) = (["given"] : List Str) := by rfl)
    (hpl : ((backTo pos (starEach [] X.env)).any (·.1) || (backToKw pos (keywordEach [⟨some "given", e, kpos⟩] X.env)).any (·.1.isNone)) = false := by rfl) : We X (.Call (.Name "BadInlet" p) [] [⟨some "given", e, kpos⟩] pos) σ H Q := by
  refine w_excQ T.x_BadInlet T.xi_BadInlet.at_ T.xi_BadInlet.ty (fq_BadInlet T) hr T.g_BadInlet passL (We.mono h fun v H1 z => fun a ha => ⟨a, v, rfl, upd_same, fun dx h1 h2 => ⟨rfl, ?_⟩⟩) hg (by decide) hall hks hpl
  obtain ⟨g1, g2⟩ := exv_new (v := v) (f := "given") ha h1 h2
  exact z a _ g1 g2
theorem wg_BadInlet {X : Cx} {e : Expr} {σ : L2.St} {H : Hp} {Q : VK} {p pos pos2 : Pos} (T : Tx X.K X.mg) (hr : Room 2 X.A) (h : We X e σ H fun v H1 => ∀ H', Same H1 H' → Q v H') (hg : Gl X "BadInlet" := by rfl)
    (he : starEach [e] X.env = (false, eval e X.env) :: starEach [] X.env := by rfl) (hpl : (backTo pos (starEach [] X.env)).any (·.1) = false := by rfl) (hb : attributeBase (.Call (.Name "BadInlet" p) [e] [] pos) "given" X.env (eval (.Call (.Name "BadInlet" p) [e] [] pos) X.env) = eval (.Call (.Name "BadInlet" p) [e] [] pos) X.env := by rfl) :
    We X (.Attribute (.Call (.Name "BadInlet" p) [e] [] pos) "given" pos2) σ H Q := w_ef (wx_BadInlet T hr (We.mono h fun v H1 z a H' s ev => ⟨a, _, _, v, rfl, T.xf_BadInlet, T.xn_BadInlet, ev, by rw [lookup_put, if_pos rfl], z H' s⟩) hg he hpl) hb
theorem wj_BadInlet {X : Cx} {e : Expr} {σ : L2.St} {H : Hp} {Q : VK} {p pos kpos pos2 : Pos} (T : Tx X.K X.mg) (hr : Room 2 X.A) (h : We X e σ H fun v H1 => ∀ H', Same H1 H' → Q v H') (hg : Gl X "BadInlet" := by rfl)
    (hall : (backToKw pos (keywordEach [⟨some "given", e, kpos⟩] X.env)).all (·.1.isSome) = true := by rfl) (hks : (backToKw pos (keywordEach [⟨some "given", e, kpos⟩] X.env)).filterMap (·.1) = (["given"] : List Str) := by rfl)
    (hpl : ((backTo pos (starEach [] X.env)).any (·.1) || (backToKw pos (keywordEach [⟨some "given", e, kpos⟩] X.env)).any (·.1.isNone)) = false := by rfl) (hb : attributeBase (.Call (.Name "BadInlet" p) [] [⟨some "given", e, kpos⟩] pos) "given" X.env (eval (.Call (.Name "BadInlet" p) [] [⟨some "given", e, kpos⟩] pos) X.env) = eval (.Call (.Name "BadInlet" p) [] [⟨some "given", e, kpos⟩] pos) X.env := by rfl) :
    We X (.Attribute (.Call (.Name "BadInlet" p) [] [⟨some "given", e, kpos⟩] pos) "given" pos2) σ H Q := w_ef (wk_BadInlet T hr (We.mono h fun v H1 z a H' s ev => ⟨a, _, _, v, rfl, T.xf_BadInlet, T.xn_BadInlet, ev, by rw [lookup_put, if_pos rfl], z H' s⟩) hg hall hks hpl) hb
theorem wx_BadStream {X : Cx} {e : Expr} {σ : L2.St} {H : Hp} {Q : VK} {p pos : Pos} (T : Tx X.K X.mg) (hr : Room 2 X.A) (h : We X e σ H fun v H1 => ∀ a H', Same H1 H' → ExV H' a (He.ga X.K "BadStream") [("given", v)] → Q (.ref a) H') (hg : Gl X "BadStream" := by rfl)
    (he : starEach [e] X.env = (false, eval e X.env) :: starEach [] X.env := by rfl) (hpl : (backTo pos (starEach [] X.env)).any (·.1) = false := by rfl) : We X (.Call (.Name "BadStream" p) [e] [] pos) σ H Q := by
  refine w_exc T.x_BadStream T.xi_BadStream.at_ T.xi_BadStream.ty (fn_BadStream T) hr T.g_BadStream passL (a_cons (We.mono h fun v H1 z => a_nil ⟨by show 1 ≤ 1000; decide, fun a ha => ⟨a, v, rfl, upd_same, fun dx h1 h2 => ⟨rfl, ?_⟩⟩⟩) he) hg (by decide) he hpl
  obtain ⟨g1, g2⟩ := exv_new (v := v) (f := "given") ha h1 h2
  exact z a _ g1 g2
theorem fq_BadStream {P : Program} {w : World} {K : PySem.W.Frag} {mg : Str → Option Value} {base : Heap} (T : Tx K mg) : FnQ P w K mg base (L2.CX P w) 1 (He.ma K (He.ga K "BadStream") "__init__") 1 ["given"] (fun vs zs H Q E => spErr1 (He.ga K "BadStream") "given" (vs ++ zs) H Q E) := by
  obtain ⟨fd, F⟩ := T.f_BadStream___init__
  have F1 : FnOk P w K mg base (L2.CX P w) 1 (He.ma K (He.ga K "BadStream") "__init__") fd ["self", "given"] (spErr1 (He.ga K "BadStream") "given") := F.ok sc_BadStream (fun vs H Q E h => by obtain ⟨a, g, rfl, _⟩ := h; rfl) fun cdv A outer s H vs Q E hr h => by
    obtain ⟨a, g, rfl, ha, k⟩ := h
    refine ⟨_, pbW, s_cons (s_expr (we_of (pe_sinit rfl T.g_StreamError T.sin.1 T.sin.2 paW) ?_))⟩
    refine a_cons (w_var 0 rfl (a_cons (w_str (a_nil ⟨a, _, _, rfl, by show 1 ≤ 1000; decide, T.x_BadStream, ha, s_one (ws_of (ps_ost peW peW) ?_)⟩))))
    exact w_var 1 rfl (w_var 0 rfl ⟨a, _, rfl, T.x_BadStream, T.xn_BadStream, .inl ⟨ha, fun dx h1 h2 => k dx h1 h2⟩⟩)
  exact fnq_of F1 (kbn0 F 1 ["given"] (fun vs zs => vs ++ zs) (fun r1 r2 => r1.append r2) fun _ _ _ _ _ _ us ws h1 h2 => match us, ws, h1, h2 with | [_], [_], _, _ => rfl)
theorem wk_BadStream {X : Cx} {e : Expr} {σ : L2.St} {H : Hp} {Q : VK} {p pos kpos : Pos} (T : Tx X.K X.mg) (hr : Room 2 X.A) (h : We X e σ H fun v H1 => ∀ a H', Same H1 H' → ExV H' a (He.ga X.K "BadStream") [("given", v)] → Q (.ref a) H') (hg : Gl X "BadStream" := by rfl)
    (hall : (backToKw pos (keywordEach [⟨some "given", e, kpos⟩] X.env)).all (·.1.isSome) = true := by rfl) (hks : (backToKw pos (keywordEach [⟨some "given", e, kpos⟩] X.env)).filterMap (·.1) = (["given"] : List Str) := by rfl)
    (hpl : ((backTo pos (starEach [] X.env)).any (·.1) || (backToKw pos (keywordEach [⟨some "given", e, kpos⟩] X.env)).any (·.1.isNone)) = false := by rfl) : We X (.Call (.Name "BadStream" p) [] [⟨some "given", e, kpos⟩] pos) σ H Q := by
  refine w_excQ T.x_BadStream T.xi_BadStream.at_ T.xi_BadStream.ty (fq_BadStream T) hr T.g_BadStream passL (We.mono h fun v H1 z => fun a ha => ⟨a, v, rfl, upd_same, fun dx h1 h2 => ⟨rfl, ?_⟩⟩) hg (by decide) hall hks hpl
  obtain ⟨g1, g2⟩ := exv_new (v := v) (f := "given") ha h1 h2
  exact z a _ g1 g2
theorem wg_BadStream {X : Cx} {e : Expr} {σ : L2.St} {H : Hp} {Q : VK} {p pos pos2 : Pos} (T : Tx X.K X.mg) (hr : Room 2 X.A) (h : We X e σ H fun v H1 => ∀ H', Same H1 H' → Q v H') (hg : Gl X "BadStream" := by rfl)
    (he : starEach [e] X.env = (false, eval e X.env) :: starEach [] X.env := by rfl) (hpl : (backTo pos (starEach [] X.env)).any (·.1) = false := by rfl) (hb : attributeBase (.Call (.Name "BadStream" p) [e] [] pos) "given" X.env (eval (.Call (.Name "BadStream" p) [e] [] pos) X.env) = eval (.Call (.Name "BadStream" p) [e] [] pos) X.env := by rfl) :
    We X (.Attribute (.Call (.Name "BadStream" p) [e] [] pos) "given" pos2) σ H Q := w_ef (wx_BadStream T hr (We.mono h fun v H1 z a H' s ev => ⟨a, _, _, v, rfl, T.xf_BadStream, T.xn_BadStream, ev, by rw [lookup_put, if_pos rfl], z H' s⟩) hg he hpl) hb
theorem wj_BadStream {X : Cx} {e : Expr} {σ : L2.St} {H : Hp} {Q : VK} {p pos kpos pos2 : Pos} (T : Tx X.K X.mg) (hr : Room 2 X.A) (h : We X e σ H fun v H1 => ∀ H', Same H1 H' → Q v H') (hg : Gl X "BadStream" := by rfl)
    (hall : (backToKw pos (keywordEach [⟨some "given", e, kpos⟩] X.env)).all (·.1.isSome) = true := by rfl) (hks : (backToKw pos (keywordEach [⟨some "given", e, kpos⟩] X.env)).filterMap (·.1) = (["given"] : List Str) := by rfl)
    (hpl : ((backTo pos (starEach [] X.env)).any (·.1) || (backToKw pos (keywordEach [⟨some "given", e, kpos⟩] X.env)).any (·.1.isNone)) = false := by rfl) (hb : attributeBase (.Call (.Name "BadStream" p) [] [⟨some "given", e, kpos⟩] pos) "given" X.env (eval (.Call (.Name "BadStream" p) [] [⟨some "given", e, kpos⟩] pos) X.env) = eval (.Call (.Name "BadStream" p) [] [⟨some "given", e, kpos⟩] pos) X.env := by rfl) :
    We X (.Attribute (.Call (.Name "BadStream" p) [] [⟨some "given", e, kpos⟩] pos) "given" pos2) σ H Q := w_ef (wk_BadStream T hr (We.mono h fun v H1 z a H' s ev => ⟨a, _, _, v, rfl, T.xf_BadStream, T.xn_BadStream, ev, by rw [lookup_put, if_pos rfl], z H' s⟩) hg hall hks hpl) hb
theorem wx_BadWish {X : Cx} {e : Expr} {σ : L2.St} {H : Hp} {Q : VK} {p pos : Pos} (T : Tx X.K X.mg) (hr : Room 2 X.A) (h : We X e σ H fun v H1 => ∀ a H', Same H1 H' → ExV H' a (He.ga X.K "BadWish") [("given", v)] → Q (.ref a) H') (hg : Gl X "BadWish" := by rfl)
    (he : starEach [e] X.env = (false, eval e X.env) :: starEach [] X.env := by rfl) (hpl : (backTo pos (starEach [] X.env)).any (·.1) = false := by rfl) : We X (.Call (.Name "BadWish" p) [e] [] pos) σ H Q := by
  refine w_exc T.x_BadWish T.xi_BadWish.at_ T.xi_BadWish.ty (fn_BadWish T) hr T.g_BadWish passL (a_cons (We.mono h fun v H1 z => a_nil ⟨by show 1 ≤ 1000; decide, fun a ha => ⟨a, v, rfl, upd_same, fun dx h1 h2 => ⟨rfl, ?_⟩⟩⟩) he) hg (by decide) he hpl
  obtain ⟨g1, g2⟩ := exv_new (v := v) (f := "given") ha h1 h2
  exact z a _ g1 g2
theorem fq_BadWish {P : Program} {w : World} {K : PySem.W.Frag} {mg : Str → Option Value} {base : Heap} (T : Tx K mg) : FnQ P w K mg base (L2.CX P w) 1 (He.ma K (He.ga K "BadWish") "__init__") 1 ["given"] (fun vs zs H Q E => spErr1 (He.ga K "BadWish") "given" (vs ++ zs) H Q E) := by
  obtain ⟨fd, F⟩ := T.f_BadWish___init__
  have F1 : FnOk P w K mg base (L2.CX P w) 1 (He.ma K (He.ga K "BadWish") "__init__") fd ["self", "given"] (spErr1 (He.ga K "BadWish") "given") := F.ok sc_BadWish (fun vs H Q E h => by obtain ⟨a, g, rfl, _⟩ := h; rfl) fun cdv A outer s H vs Q E hr h => by
    obtain ⟨a, g, rfl, ha, k⟩ := h
    refine ⟨_, pbW, s_cons (s_expr (we_of (pe_sinit rfl T.g_StreamError T.sin.1 T.sin.2 paW) ?_))⟩
    refine a_cons (w_var 0 rfl (a_cons (w_str (a_nil ⟨a, _, _, rfl, by show 1 ≤ 1000; decide, T.x_BadWish, ha, s_one (ws_of (ps_ost peW peW) ?_)⟩))))
    exact w_var 1 rfl (w_var 0 rfl ⟨a, _, rfl, T.x_BadWish, T.xn_BadWish, .inl ⟨ha, fun dx h1 h2 => k dx h1 h2⟩⟩)
  exact fnq_of F1 (kbn0 F 1 ["given"] (fun vs zs => vs ++ zs) (fun r1 r2 => r1.append r2) fun _ _ _ _ _ _ us ws h1 h2 => match us, ws, h1, h2 with | [_], [_], _, _ => rfl)
theorem wk_BadWish {X : Cx} {e : Expr} {σ : L2.St} {H : Hp} {Q : VK} {p pos kpos : Pos} (T : Tx X.K X.mg) (hr : Room 2 X.A) (h : We X e σ H fun v H1 => ∀ a H', Same H1 H' → ExV H' a (He.ga X.K "BadWish") [("given", v)] → Q (.ref a) H') (hg : Gl X "BadWish" := by rfl)
    (hall : (backToKw pos (keywordEach [⟨some "given", e, kpos⟩] X.env)).all (·.1.isSome) = true := by rfl) (hks : (backToKw pos (keywordEach [⟨some "given", e, kpos⟩] X.env)).filterMap (·.1) = (["given"] : List Str) := by rfl)
    (hpl : ((backTo pos (starEach [] X.env)).any (·.1) || (backToKw pos (keywordEach [⟨some "given", e, kpos⟩] X.env)).any (·.1.isNone)) = false := by rfl) : We X (.Call (.Name "BadWish" p) [] [⟨some "given", e, kpos⟩] pos) σ H Q := by
  refine w_excQ T.x_BadWish T.xi_BadWish.at_ T.xi_BadWish.ty (fq_BadWish T) hr T.g_BadWish passL (We.mono h fun v H1 z => fun a ha => ⟨a, v, rfl, upd_same, fun dx h1 h2 => ⟨rfl, ?_⟩⟩) hg (by decide) hall hks hpl
  obtain ⟨g1, g2⟩ := exv_new (v := v) (f := "given") ha h1 h2
  exact z a _ g1 g2
theorem wg_BadWish {X : Cx} {e : Expr} {σ : L2.St} {H : Hp} {Q : VK} {p pos pos2 : Pos} (T : Tx X.K X.mg) (hr : Room 2 X.A) (h : We X e σ H fun v H1 => ∀ H', Same H1 H' → Q v H') (hg : Gl X "BadWish" := by rfl)
    (he : starEach [e] X.env = (false, eval e X.env) :: starEach [] X.env := by rfl) (hpl : (backTo pos (starEach [] X.env)).any (·.1) = false := by rfl) (hb : attributeBase (.Call (.Name "BadWish" p) [e] [] pos) "given" X.env (eval (.Call (.Name "BadWish" p) [e] [] pos) X.env) = eval (.Call (.Name "BadWish" p) [e] [] pos) X.env := by rfl) :
    We X (.Attribute (.Call (.Name "BadWish" p) [e] [] pos) "given" pos2) σ H Q := w_ef (wx_BadWish T hr (We.mono h fun v H1 z a H' s ev => ⟨a, _, _, v, rfl, T.xf_BadWish, T.xn_BadWish, ev, by rw [lookup_put, if_pos rfl], z H' s⟩) hg he hpl) hb
theorem wj_BadWish {X : Cx} {e : Expr} {σ : L2.St} {H : Hp} {Q : VK} {p pos kpos pos2 : Pos} (T : Tx X.K X.mg) (hr : Room 2 X.A) (h : We X e σ H fun v H1 => ∀ H', Same H1 H' → Q v H') (hg : Gl X "BadWish" := by rfl)
    (hall : (backToKw pos (keywordEach [⟨some "given", e, kpos⟩] X.env)).all (·.1.isSome) = true := by rfl) (hks : (backToKw pos (keywordEach [⟨some "given", e, kpos⟩] X.env)).filterMap (·.1) = (["given"] : List Str) := by rfl)
    (hpl : ((backTo pos (starEach [] X.env)).any (·.1) || (backToKw pos (keywordEach [⟨some "given", e, kpos⟩] X.env)).any (·.1.isNone)) = false := by rfl) (hb : attributeBase (.Call (.Name "BadWish" p) [] [⟨some "given", e, kpos⟩] pos) "given" X.env (eval (.Call (.Name "BadWish" p) [] [⟨some "given", e, kpos⟩] pos) X.env) = eval (.Call (.Name "BadWish" p) [] [⟨some "given", e, kpos⟩] pos) X.env := by rfl) :
    We X (.Attribute (.Call (.Name "BadWish" p) [] [⟨some "given", e, kpos⟩] pos) "given" pos2) σ H Q := w_ef (wk_BadWish T hr (We.mono h fun v H1 z a H' s ev => ⟨a, _, _, v, rfl, T.xf_BadWish, T.xn_BadWish, ev, by rw [lookup_put, if_pos rfl], z H' s⟩) hg hall hks hpl) hb
theorem wx_BadDays {X : Cx} {e : Expr} {σ : L2.St} {H : Hp} {Q : VK} {p pos : Pos} (T : Tx X.K X.mg) (hr : Room 2 X.A) (h : We X e σ H fun v H1 => ∀ a H', Same H1 H' → ExV H' a (He.ga X.K "BadDays") [("given", v)] → Q (.ref a) H') (hg : Gl X "BadDays" := by rfl)
    (he : starEach [e] X.env = (false, eval e X.env) :: starEach [] X.env := by rfl) (hpl : (backTo pos (starEach [] X.env)).any (·.1) = false := by rfl) : We X (.Call (.Name "BadDays" p) [e] [] pos) σ H Q := by
  refine w_exc T.x_BadDays T.xi_BadDays.at_ T.xi_BadDays.ty (fn_BadDays T) hr T.g_BadDays passL (a_cons (We.mono h fun v H1 z => a_nil ⟨by show 1 ≤ 1000; decide, fun a ha => ⟨a, v, rfl, upd_same, fun dx h1 h2 => ⟨rfl, ?_⟩⟩⟩) he) hg (by decide) he hpl
  obtain ⟨g1, g2⟩ := exv_new (v := v) (f := "given") ha h1 h2
  exact z a _ g1 g2
theorem fq_BadDays {P : Program} {w : World} {K : PySem.W.Frag} {mg : Str → Option Value} {base : Heap} (T : Tx K mg) : FnQ P w K mg base (L2.CX P w) 1 (He.ma K (He.ga K "BadDays") "__init__") 1 ["given"] (fun vs zs H Q E => spErr1 (He.ga K "BadDays") "given" (vs ++ zs) H Q E) := by
  obtain ⟨fd, F⟩ := T.f_BadDays___init__
  have F1 : FnOk P w K mg base (L2.CX P w) 1 (He.ma K (He.ga K "BadDays") "__init__") fd ["self", "given"] (spErr1 (He.ga K "BadDays") "given") := F.ok sc_BadDays (fun vs H Q E h => by obtain ⟨a, g, rfl, _⟩ := h; rfl) fun cdv A outer s H vs Q E hr h => by
    obtain ⟨a, g, rfl, ha, k⟩ := h
    refine ⟨_, pbW, s_cons (s_expr (we_of (pe_sinit rfl T.g_StreamError T.sin.1 T.sin.2 paW) ?_))⟩
    refine a_cons (w_var 0 rfl (a_cons (w_str (a_nil ⟨a, _, _, rfl, by show 1 ≤ 1000; decide, T.x_BadDays, ha, s_one (ws_of (ps_ost peW peW) ?_)⟩))))
    exact w_var 1 rfl (w_var 0 rfl ⟨a, _, rfl, T.x_BadDays, T.xn_BadDays, .inl ⟨ha, fun dx h1 h2 => k dx h1 h2⟩⟩)
  exact fnq_of F1 (kbn0 F 1 ["given"] (fun vs zs => vs ++ zs) (fun r1 r2 => r1.append r2) fun _ _ _ _ _ _ us ws h1 h2 => match us, ws, h1, h2 with | [_], [_], _, _ => rfl)
theorem wk_BadDays {X : Cx} {e : Expr} {σ : L2.St} {H : Hp} {Q : VK} {p pos kpos : Pos} (T : Tx X.K X.mg) (hr : Room 2 X.A) (h : We X e σ H fun v H1 => ∀ a H', Same H1 H' → ExV H' a (He.ga X.K "BadDays") [("given", v)] → Q (.ref a) H') (hg : Gl X "BadDays" := by rfl)
    (hall : (backToKw pos (keywordEach [⟨some "given", e, kpos⟩] X.env)).all (·.1.isSome) = true := by rfl) (hks : (backToKw pos (keywordEach [⟨some "given", e, kpos⟩] X.env)).filterMap (·.1) = (["given"] : List Str) := by rfl)
    (hpl : ((backTo pos (starEach [] X.env)).any (·.1) || (backToKw pos (keywordEach [⟨some "given", e, kpos⟩] X.env)).any (·.1.isNone)) = false := by rfl) : We X (.Call (.Name "BadDays" p) [] [⟨some "given", e, kpos⟩] pos) σ H Q := by
  refine w_excQ T.x_BadDays T.xi_BadDays.at_ T.xi_BadDays.ty (fq_BadDays T) hr T.g_BadDays passL (We.mono h fun v H1 z => fun a ha => ⟨a, v, rfl, upd_same, fun dx h1 h2 => ⟨rfl, ?_⟩⟩) hg (by decide) hall hks hpl
  obtain ⟨g1, g2⟩ := exv_new (v := v) (f := "given") ha h1 h2
  exact z a _ g1 g2
theorem wg_BadDays {X : Cx} {e : Expr} {σ : L2.St} {H : Hp} {Q : VK} {p pos pos2 : Pos} (T : Tx X.K X.mg) (hr : Room 2 X.A) (h : We X e σ H fun v H1 => ∀ H', Same H1 H' → Q v H') (hg : Gl X "BadDays" := by rfl)
    (he : starEach [e] X.env = (false, eval e X.env) :: starEach [] X.env := by rfl) (hpl : (backTo pos (starEach [] X.env)).any (·.1) = false := by rfl) (hb : attributeBase (.Call (.Name "BadDays" p) [e] [] pos) "given" X.env (eval (.Call (.Name "BadDays" p) [e] [] pos) X.env) = eval (.Call (.Name "BadDays" p) [e] [] pos) X.env := by rfl) :
    We X (.Attribute (.Call (.Name "BadDays" p) [e] [] pos) "given" pos2) σ H Q := w_ef (wx_BadDays T hr (We.mono h fun v H1 z a H' s ev => ⟨a, _, _, v, rfl, T.xf_BadDays, T.xn_BadDays, ev, by rw [lookup_put, if_pos rfl], z H' s⟩) hg he hpl) hb
theorem wj_BadDays {X : Cx} {e : Expr} {σ : L2.St} {H : Hp} {Q : VK} {p pos kpos pos2 : Pos} (T : Tx X.K X.mg) (hr : Room 2 X.A) (h : We X e σ H fun v H1 => ∀ H', Same H1 H' → Q v H') (hg : Gl X "BadDays" := by rfl)
    (hall : (backToKw pos (keywordEach [⟨some "given", e, kpos⟩] X.env)).all (·.1.isSome) = true := by rfl) (hks : (backToKw pos (keywordEach [⟨some "given", e, kpos⟩] X.env)).filterMap (·.1) = (["given"] : List Str) := by rfl)
    (hpl : ((backTo pos (starEach [] X.env)).any (·.1) || (backToKw pos (keywordEach [⟨some "given", e, kpos⟩] X.env)).any (·.1.isNone)) = false := by rfl) (hb : attributeBase (.Call (.Name "BadDays" p) [] [⟨some "given", e, kpos⟩] pos) "given" X.env (eval (.Call (.Name "BadDays" p) [] [⟨some "given", e, kpos⟩] pos) X.env) = eval (.Call (.Name "BadDays" p) [] [⟨some "given", e, kpos⟩] pos) X.env := by rfl) :
    We X (.Attribute (.Call (.Name "BadDays" p) [] [⟨some "given", e, kpos⟩] pos) "given" pos2) σ H Q := w_ef (wk_BadDays T hr (We.mono h fun v H1 z a H' s ev => ⟨a, _, _, v, rfl, T.xf_BadDays, T.xn_BadDays, ev, by rw [lookup_put, if_pos rfl], z H' s⟩) hg hall hks hpl) hb
theorem wx_BadTable {X : Cx} {σ : L2.St} {H : Hp} {Q : VK} {p pos : Pos} (T : Tx X.K X.mg) (hr : Room 2 X.A) (h : ∀ a H', Same H H' → ExV H' a (He.ga X.K "BadTable") [] → Q (.ref a) H') (hg : Gl X "BadTable" := by rfl) : We X (.Call (.Name "BadTable" p) [] [] pos) σ H Q :=
  w_exc0 T.x_BadTable T.xi_BadTable.at_ T.xi_BadTable.ty (fn_BadTable T) hr T.g_BadTable passL (fun a ha => ⟨a, rfl, upd_same, rfl, h a _ (fun b o e => by rw [upd_ne (ne_of_none e ha)]; exact e) (.inl ⟨rfl, upd_same⟩)⟩) hg
theorem wx_BadSight {X : Cx} {e : Expr} {σ : L2.St} {H : Hp} {Q : VK} {p pos : Pos} (T : Tx X.K X.mg) (hr : Room 2 X.A) (h : We X e σ H fun v H1 => ∀ a H', Same H1 H' → ExV H' a (He.ga X.K "BadSight") [("given", v)] → Q (.ref a) H') (hg : Gl X "BadSight" := by rfl)
    (he : starEach [e] X.env = (false, eval e X.env) :: starEach [] X.env := by rfl) (hpl : (backTo pos (starEach [] X.env)).any (·.1) = false := by rfl) : We X (.Call (.Name "BadSight" p) [e] [] pos) σ H Q := by
  refine w_exc T.x_BadSight T.xi_BadSight.at_ T.xi_BadSight.ty (fn_BadSight T) hr T.g_BadSight passL (a_cons (We.mono h fun v H1 z => a_nil ⟨by show 1 ≤ 1000; decide, fun a ha => ⟨a, v, rfl, upd_same, fun dx h1 h2 => ⟨rfl, ?_⟩⟩⟩) he) hg (by decide) he hpl
  obtain ⟨g1, g2⟩ := exv_new (v := v) (f := "given") ha h1 h2
  exact z a _ g1 g2
theorem fq_BadSight {P : Program} {w : World} {K : PySem.W.Frag} {mg : Str → Option Value} {base : Heap} (T : Tx K mg) : FnQ P w K mg base (L2.CX P w) 1 (He.ma K (He.ga K "BadSight") "__init__") 1 ["given"] (fun vs zs H Q E => spErr1 (He.ga K "BadSight") "given" (vs ++ zs) H Q E) := by
  obtain ⟨fd, F⟩ := T.f_BadSight___init__
  have F1 : FnOk P w K mg base (L2.CX P w) 1 (He.ma K (He.ga K "BadSight") "__init__") fd ["self", "given"] (spErr1 (He.ga K "BadSight") "given") := F.ok sc_BadSight (fun vs H Q E h => by obtain ⟨a, g, rfl, _⟩ := h; rfl) fun cdv A outer s H vs Q E hr h => by
    obtain ⟨a, g, rfl, ha, k⟩ := h
    refine ⟨_, pbW, s_cons (s_expr (we_of (pe_sinit rfl T.g_StreamError T.sin.1 T.sin.2 paW) ?_))⟩
    refine a_cons (w_var 0 rfl (a_cons (w_str (a_nil ⟨a, _, _, rfl, by show 1 ≤ 1000; decide, T.x_BadSight, ha, s_one (ws_of (ps_ost peW peW) ?_)⟩))))
    exact w_var 1 rfl (w_var 0 rfl ⟨a, _, rfl, T.x_BadSight, T.xn_BadSight, .inl ⟨ha, fun dx h1 h2 => k dx h1 h2⟩⟩)
  exact fnq_of F1 (kbn0 F 1 ["given"] (fun vs zs => vs ++ zs) (fun r1 r2 => r1.append r2) fun _ _ _ _ _ _ us ws h1 h2 => match us, ws, h1, h2 with | [_], [_], _, _ => rfl)
theorem wk_BadSight {X : Cx} {e : Expr} {σ : L2.St} {H : Hp} {Q : VK} {p pos kpos : Pos} (T : Tx X.K X.mg) (hr : Room 2 X.A) (h : We X e σ H fun v H1 => ∀ a H', Same H1 H' → ExV H' a (He.ga X.K "BadSight") [("given", v)] → Q (.ref a) H') (hg : Gl X "BadSight" := by rfl)
    (hall : (backToKw pos (keywordEach [⟨some "given", e, kpos⟩] X.env)).all (·.1.isSome) = true := by rfl) (hks : (backToKw pos (keywordEach [⟨some "given", e, kpos⟩] X.env)).filterMap (·.1) = (["given"] : List Str) := by rfl)
    (hpl : ((backTo pos (starEach [] X.env)).any (·.1) || (backToKw pos (keywordEach [⟨some "given", e, kpos⟩] X.env)).any (·.1.isNone)) = false := by rfl) : We X (.Call (.Name "BadSight" p) [] [⟨some "given", e, kpos⟩] pos) σ H Q := by
  refine w_excQ T.x_BadSight T.xi_BadSight.at_ T.xi_BadSight.ty (fq_BadSight T) hr T.g_BadSight passL (We.mono h fun v H1 z => fun a ha => ⟨a, v, rfl, upd_same, fun dx h1 h2 => ⟨rfl, ?_⟩⟩) hg (by decide) hall hks hpl
  obtain ⟨g1, g2⟩ := exv_new (v := v) (f := "given") ha h1 h2
  exact z a _ g1 g2
theorem wg_BadSight {X : Cx} {e : Expr} {σ : L2.St} {H : Hp} {Q : VK} {p pos pos2 : Pos} (T : Tx X.K X.mg) (hr : Room 2 X.A) (h : We X e σ H fun v H1 => ∀ H', Same H1 H' → Q v H') (hg : Gl X "BadSight" := by rfl)
    (he : starEach [e] X.env = (false, eval e X.env) :: starEach [] X.env := by rfl) (hpl : (backTo pos (starEach [] X.env)).any (·.1) = false := by rfl) (hb : attributeBase (.Call (.Name "BadSight" p) [e] [] pos) "given" X.env (eval (.Call (.Name "BadSight" p) [e] [] pos) X.env) = eval (.Call (.Name "BadSight" p) [e] [] pos) X.env := by rfl) :
    We X (.Attribute (.Call (.Name "BadSight" p) [e] [] pos) "given" pos2) σ H Q := w_ef (wx_BadSight T hr (We.mono h fun v H1 z a H' s ev => ⟨a, _, _, v, rfl, T.xf_BadSight, T.xn_BadSight, ev, by rw [lookup_put, if_pos rfl], z H' s⟩) hg he hpl) hb
theorem wj_BadSight {X : Cx} {e : Expr} {σ : L2.St} {H : Hp} {Q : VK} {p pos kpos pos2 : Pos} (T : Tx X.K X.mg) (hr : Room 2 X.A) (h : We X e σ H fun v H1 => ∀ H', Same H1 H' → Q v H') (hg : Gl X "BadSight" := by rfl)
    (hall : (backToKw pos (keywordEach [⟨some "given", e, kpos⟩] X.env)).all (·.1.isSome) = true := by rfl) (hks : (backToKw pos (keywordEach [⟨some "given", e, kpos⟩] X.env)).filterMap (·.1) = (["given"] : List Str) := by rfl)
    (hpl : ((backTo pos (starEach [] X.env)).any (·.1) || (backToKw pos (keywordEach [⟨some "given", e, kpos⟩] X.env)).any (·.1.isNone)) = false := by rfl) (hb : attributeBase (.Call (.Name "BadSight" p) [] [⟨some "given", e, kpos⟩] pos) "given" X.env (eval (.Call (.Name "BadSight" p) [] [⟨some "given", e, kpos⟩] pos) X.env) = eval (.Call (.Name "BadSight" p) [] [⟨some "given", e, kpos⟩] pos) X.env := by rfl) :
    We X (.Attribute (.Call (.Name "BadSight" p) [] [⟨some "given", e, kpos⟩] pos) "given" pos2) σ H Q := w_ef (wk_BadSight T hr (We.mono h fun v H1 z a H' s ev => ⟨a, _, _, v, rfl, T.xf_BadSight, T.xn_BadSight, ev, by rw [lookup_put, if_pos rfl], z H' s⟩) hg hall hks hpl) hb
theorem wx_BadDeed {X : Cx} {e : Expr} {σ : L2.St} {H : Hp} {Q : VK} {p pos : Pos} (T : Tx X.K X.mg) (hr : Room 2 X.A) (h : We X e σ H fun v H1 => ∀ a H', Same H1 H' → ExV H' a (He.ga X.K "BadDeed") [("given", v)] → Q (.ref a) H') (hg : Gl X "BadDeed" := by rfl)
    (he : starEach [e] X.env = (false, eval e X.env) :: starEach [] X.env := by rfl) (hpl : (backTo pos (starEach [] X.env)).any (·.1) = false := by rfl) : We X (.Call (.Name "BadDeed" p) [e] [] pos) σ H Q := by
  refine w_exc T.x_BadDeed T.xi_BadDeed.at_ T.xi_BadDeed.ty (fn_BadDeed T) hr T.g_BadDeed passL (a_cons (We.mono h fun v H1 z => a_nil ⟨by show 1 ≤ 1000; decide, fun a ha => ⟨a, v, rfl, upd_same, fun dx h1 h2 => ⟨rfl, ?_⟩⟩⟩) he) hg (by decide) he hpl
  obtain ⟨g1, g2⟩ := exv_new (v := v) (f := "given") ha h1 h2
  exact z a _ g1 g2
theorem fq_BadDeed {P : Program} {w : World} {K : PySem.W.Frag} {mg : Str → Option Value} {base : Heap} (T : Tx K mg) : FnQ P w K mg base (L2.CX P w) 1 (He.ma K (He.ga K "BadDeed") "__init__") 1 ["given"] (fun vs zs H Q E => spErr1 (He.ga K "BadDeed") "given" (vs ++ zs) H Q E) := by
  obtain ⟨fd, F⟩ := T.f_BadDeed___init__
  have F1 : FnOk P w K mg base (L2.CX P w) 1 (He.ma K (He.ga K "BadDeed") "__init__") fd ["self", "given"] (spErr1 (He.ga K "BadDeed") "given") := F.ok sc_BadDeed (fun vs H Q E h => by obtain ⟨a, g, rfl, _⟩ := h; rfl) fun cdv A outer s H vs Q E hr h => by
    obtain ⟨a, g, rfl, ha, k⟩ := h
    refine ⟨_, pbW, s_cons (s_expr (we_of (pe_sinit rfl T.g_StreamError T.sin.1 T.sin.2 paW) ?_))⟩
    refine a_cons (w_var 0 rfl (a_cons (w_str (a_nil ⟨a, _, _, rfl, by show 1 ≤ 1000; decide, T.x_BadDeed, ha, s_one (ws_of (ps_ost peW peW) ?_)⟩))))
    exact w_var 1 rfl (w_var 0 rfl ⟨a, _, rfl, T.x_BadDeed, T.xn_BadDeed, .inl ⟨ha, fun dx h1 h2 => k dx h1 h2⟩⟩)
  exact fnq_of F1 (kbn0 F 1 ["given"] (fun vs zs => vs ++ zs) (fun r1 r2 => r1.append r2) fun _ _ _ _ _ _ us ws h1 h2 => match us, ws, h1, h2 with | [_], [_], _, _ => rfl)
theorem wk_BadDeed {X : Cx} {e : Expr} {σ : L2.St} {H : Hp} {Q : VK} {p pos kpos : Pos} (T : Tx X.K X.mg) (hr : Room 2 X.A) (h : We X e σ H fun v H1 => ∀ a H', Same H1 H' → ExV H' a (He.ga X.K "BadDeed") [("given", v)] → Q (.ref a) H') (hg : Gl X "BadDeed" := by rfl)
    (hall : (backToKw pos (keywordEach [⟨some "given", e, kpos⟩] X.env)).all (·.1.isSome) = true := by rfl) (hks : (backToKw pos (keywordEach [⟨some "given", e, kpos⟩] X.env)).filterMap (·.1) = (["given"] : List Str) := by rfl)
    (hpl : ((backTo pos (starEach [] X.env)).any (·.1) || (backToKw pos (keywordEach [⟨some "given", e, kpos⟩] X.env)).any (·.1.isNone)) = false := by rfl) : We X (.Call (.Name "BadDeed" p) [] [⟨some "given", e, kpos⟩] pos) σ H Q := by
  refine w_excQ T.x_BadDeed T.xi_BadDeed.at_ T.xi_BadDeed.ty (fq_BadDeed T) hr T.g_BadDeed passL (We.mono h fun v H1 z => fun a ha => ⟨a, v, rfl, upd_same, fun dx h1 h2 => ⟨rfl, ?_⟩⟩) hg (by decide) hall hks hpl
  obtain ⟨g1, g2⟩ := exv_new (v := v) (f := "given") ha h1 h2
  exact z a _ g1 g2
theorem wg_BadDeed {X : Cx} {e : Expr} {σ : L2.St} {H : Hp} {Q : VK} {p pos pos2 : Pos} (T : Tx X.K X.mg) (hr : Room 2 X.A) (h : We X e σ H fun v H1 => ∀ H', Same H1 H' → Q v H') (hg : Gl X "BadDeed" := by rfl)
    (he : starEach [e] X.env = (false, eval e X.env) :: starEach [] X.env := by rfl) (hpl : (backTo pos (starEach [] X.env)).any (·.1) = false := by rfl) (hb : attributeBase (.Call (.Name "BadDeed" p) [e] [] pos) "given" X.env (eval (.Call (.Name "BadDeed" p) [e] [] pos) X.env) = eval (.Call (.Name "BadDeed" p) [e] [] pos) X.env := by rfl) :
    We X (.Attribute (.Call (.Name "BadDeed" p) [e] [] pos) "given" pos2) σ H Q := w_ef (wx_BadDeed T hr (We.mono h fun v H1 z a H' s ev => ⟨a, _, _, v, rfl, T.xf_BadDeed, T.xn_BadDeed, ev, by rw [lookup_put, if_pos rfl], z H' s⟩) hg he hpl) hb
theorem wj_BadDeed {X : Cx} {e : Expr} {σ : L2.St} {H : Hp} {Q : VK} {p pos kpos pos2 : Pos} (T : Tx X.K X.mg) (hr : Room 2 X.A) (h : We X e σ H fun v H1 => ∀ H', Same H1 H' → Q v H') (hg : Gl X "BadDeed" := by rfl)
    (hall : (backToKw pos (keywordEach [⟨some "given", e, kpos⟩] X.env)).all (·.1.isSome) = true := by rfl) (hks : (backToKw pos (keywordEach [⟨some "given", e, kpos⟩] X.env)).filterMap (·.1) = (["given"] : List Str) := by rfl)
    (hpl : ((backTo pos (starEach [] X.env)).any (·.1) || (backToKw pos (keywordEach [⟨some "given", e, kpos⟩] X.env)).any (·.1.isNone)) = false := by rfl) (hb : attributeBase (.Call (.Name "BadDeed" p) [] [⟨some "given", e, kpos⟩] pos) "given" X.env (eval (.Call (.Name "BadDeed" p) [] [⟨some "given", e, kpos⟩] pos) X.env) = eval (.Call (.Name "BadDeed" p) [] [⟨some "given", e, kpos⟩] pos) X.env := by rfl) :
    We X (.Attribute (.Call (.Name "BadDeed" p) [] [⟨some "given", e, kpos⟩] pos) "given" pos2) σ H Q := w_ef (wk_BadDeed T hr (We.mono h fun v H1 z a H' s ev => ⟨a, _, _, v, rfl, T.xf_BadDeed, T.xn_BadDeed, ev, by rw [lookup_put, if_pos rfl], z H' s⟩) hg hall hks hpl) hb
theorem wx_NoAccount {X : Cx} {e : Expr} {σ : L2.St} {H : Hp} {Q : VK} {p pos : Pos} (T : Tx X.K X.mg) (hr : Room 2 X.A) (h : We X e σ H fun v H1 => ∀ a H', Same H1 H' → ExV H' a (He.ga X.K "NoAccount") [("given", v)] → Q (.ref a) H') (hg : Gl X "NoAccount" := by rfl)
    (he : starEach [e] X.env = (false, eval e X.env) :: starEach [] X.env := by rfl) (hpl : (backTo pos (starEach [] X.env)).any (·.1) = false := by rfl) : We X (.Call (.Name "NoAccount" p) [e] [] pos) σ H Q := by
  refine w_exc T.x_NoAccount T.xi_NoAccount.at_ T.xi_NoAccount.ty (fn_NoAccount T) hr T.g_NoAccount passL (a_cons (We.mono h fun v H1 z => a_nil ⟨by show 1 ≤ 1000; decide, fun a ha => ⟨a, v, rfl, upd_same, fun dx h1 h2 => ⟨rfl, ?_⟩⟩⟩) he) hg (by decide) he hpl
  obtain ⟨g1, g2⟩ := exv_new (v := v) (f := "given") ha h1 h2
  exact z a _ g1 g2
theorem fq_NoAccount {P : Program} {w : World} {K : PySem.W.Frag} {mg : Str → Option Value} {base : Heap} (T : Tx K mg) : FnQ P w K mg base (L2.CX P w) 1 (He.ma K (He.ga K "NoAccount") "__init__") 1 ["given"] (fun vs zs H Q E => spErr1 (He.ga K "NoAccount") "given" (vs ++ zs) H Q E) := by
  obtain ⟨fd, F⟩ := T.f_NoAccount___init__
  have F1 : FnOk P w K mg base (L2.CX P w) 1 (He.ma K (He.ga K "NoAccount") "__init__") fd ["self", "given"] (spErr1 (He.ga K "NoAccount") "given") := F.ok sc_NoAccount (fun vs H Q E h => by obtain ⟨a, g, rfl, _⟩ := h; rfl) fun cdv A outer s H vs Q E hr h => by
    obtain ⟨a, g, rfl, ha, k⟩ := h
    refine ⟨_, pbW, s_cons (s_expr (we_of (pe_sinit rfl T.g_StreamError T.sin.1 T.sin.2 paW) ?_))⟩
    refine a_cons (w_var 0 rfl (a_cons (w_str (a_nil ⟨a, _, _, rfl, by show 1 ≤ 1000; decide, T.x_NoAccount, ha, s_one (ws_of (ps_ost peW peW) ?_)⟩))))
    exact w_var 1 rfl (w_var 0 rfl ⟨a, _, rfl, T.x_NoAccount, T.xn_NoAccount, .inl ⟨ha, fun dx h1 h2 => k dx h1 h2⟩⟩)
  exact fnq_of F1 (kbn0 F 1 ["given"] (fun vs zs => vs ++ zs) (fun r1 r2 => r1.append r2) fun _ _ _ _ _ _ us ws h1 h2 => match us, ws, h1, h2 with | [_], [_], _, _ => rfl)
theorem wk_NoAccount {X : Cx} {e : Expr} {σ : L2.St} {H : Hp} {Q : VK} {p pos kpos : Pos} (T : Tx X.K X.mg) (hr : Room 2 X.A) (h : We X e σ H fun v H1 => ∀ a H', Same H1 H' → ExV H' a (He.ga X.K "NoAccount") [("given", v)] → Q (.ref a) H') (hg : Gl X "NoAccount" := by rfl)
    (hall : (backToKw pos (keywordEach [⟨some "given", e, kpos⟩] X.env)).all (·.1.isSome) = true := by rfl) (hks : (backToKw pos (keywordEach [⟨some "given", e, kpos⟩] X.env)).filterMap (·.1) = (["given"] : List Str) := by rfl)
    (hpl : ((backTo pos (starEach [] X.env)).any (·.1) || (backToKw pos (keywordEach [⟨some "given", e, kpos⟩] X.env)).any (·.1.isNone)) = false := by rfl) : We X (.Call (.Name "NoAccount" p) [] [⟨some "given", e, kpos⟩] pos) σ H Q := by
  refine w_excQ T.x_NoAccount T.xi_NoAccount.at_ T.xi_NoAccount.ty (fq_NoAccount T) hr T.g_NoAccount passL (We.mono h fun v H1 z => fun a ha => ⟨a, v, rfl, upd_same, fun dx h1 h2 => ⟨rfl, ?_⟩⟩) hg (by decide) hall hks hpl
  obtain ⟨g1, g2⟩ := exv_new (v := v) (f := "given") ha h1 h2
  exact z a _ g1 g2
theorem wg_NoAccount {X : Cx} {e : Expr} {σ : L2.St} {H : Hp} {Q : VK} {p pos pos2 : Pos} (T : Tx X.K X.mg) (hr : Room 2 X.A) (h : We X e σ H fun v H1 => ∀ H', Same H1 H' → Q v H') (hg : Gl X "NoAccount" := by rfl)
    (he : starEach [e] X.env = (false, eval e X.env) :: starEach [] X.env := by rfl) (hpl : (backTo pos (starEach [] X.env)).any (·.1) = false := by rfl) (hb : attributeBase (.Call (.Name "NoAccount" p) [e] [] pos) "given" X.env (eval (.Call (.Name "NoAccount" p) [e] [] pos) X.env) = eval (.Call (.Name "NoAccount" p) [e] [] pos) X.env := by rfl) :
    We X (.Attribute (.Call (.Name "NoAccount" p) [e] [] pos) "given" pos2) σ H Q := w_ef (wx_NoAccount T hr (We.mono h fun v H1 z a H' s ev => ⟨a, _, _, v, rfl, T.xf_NoAccount, T.xn_NoAccount, ev, by rw [lookup_put, if_pos rfl], z H' s⟩) hg he hpl) hb
theorem wj_NoAccount {X : Cx} {e : Expr} {σ : L2.St} {H : Hp} {Q : VK} {p pos kpos pos2 : Pos} (T : Tx X.K X.mg) (hr : Room 2 X.A) (h : We X e σ H fun v H1 => ∀ H', Same H1 H' → Q v H') (hg : Gl X "NoAccount" := by rfl)
    (hall : (backToKw pos (keywordEach [⟨some "given", e, kpos⟩] X.env)).all (·.1.isSome) = true := by rfl) (hks : (backToKw pos (keywordEach [⟨some "given", e, kpos⟩] X.env)).filterMap (·.1) = (["given"] : List Str) := by rfl)
    (hpl : ((backTo pos (starEach [] X.env)).any (·.1) || (backToKw pos (keywordEach [⟨some "given", e, kpos⟩] X.env)).any (·.1.isNone)) = false := by rfl) (hb : attributeBase (.Call (.Name "NoAccount" p) [] [⟨some "given", e, kpos⟩] pos) "given" X.env (eval (.Call (.Name "NoAccount" p) [] [⟨some "given", e, kpos⟩] pos) X.env) = eval (.Call (.Name "NoAccount" p) [] [⟨some "given", e, kpos⟩] pos) X.env := by rfl) :
    We X (.Attribute (.Call (.Name "NoAccount" p) [] [⟨some "given", e, kpos⟩] pos) "given" pos2) σ H Q := w_ef (wk_NoAccount T hr (We.mono h fun v H1 z a H' s ev => ⟨a, _, _, v, rfl, T.xf_NoAccount, T.xn_NoAccount, ev, by rw [lookup_put, if_pos rfl], z H' s⟩) hg hall hks hpl) hb
theorem wx_NoStream {X : Cx} {e : Expr} {σ : L2.St} {H : Hp} {Q : VK} {p pos : Pos} (T : Tx X.K X.mg) (hr : Room 2 X.A) (h : We X e σ H fun v H1 => ∀ a H', Same H1 H' → ExV H' a (He.ga X.K "NoStream") [("given", v)] → Q (.ref a) H') (hg : Gl X "NoStream" := by rfl)
    (he : starEach [e] X.env = (false, eval e X.env) :: starEach [] X.env := by rfl) (hpl : (backTo pos (starEach [] X.env)).any (·.1) = false := by rfl) : We X (.Call (.Name "NoStream" p) [e] [] pos) σ H Q := by
  refine w_exc T.x_NoStream T.xi_NoStream.at_ T.xi_NoStream.ty (fn_NoStream T) hr T.g_NoStream passL (a_cons (We.mono h fun v H1 z => a_nil ⟨by show 1 ≤ 1000; decide, fun a ha => ⟨a, v, rfl, upd_same, fun dx h1 h2 => ⟨rfl, ?_⟩⟩⟩) he) hg (by decide) he hpl
  obtain ⟨g1, g2⟩ := exv_new (v := v) (f := "given") ha h1 h2
  exact z a _ g1 g2
theorem fq_NoStream {P : Program} {w : World} {K : PySem.W.Frag} {mg : Str → Option Value} {base : Heap} (T : Tx K mg) : FnQ P w K mg base (L2.CX P w) 1 (He.ma K (He.ga K "NoStream") "__init__") 1 ["given"] (fun vs zs H Q E => spErr1 (He.ga K "NoStream") "given" (vs ++ zs) H Q E) := by
  obtain ⟨fd, F⟩ := T.f_NoStream___init__
  have F1 : FnOk P w K mg base (L2.CX P w) 1 (He.ma K (He.ga K "NoStream") "__init__") fd ["self", "given"] (spErr1 (He.ga K "NoStream") "given") := F.ok sc_NoStream (fun vs H Q E h => by obtain ⟨a, g, rfl, _⟩ := h; rfl) fun cdv A outer s H vs Q E hr h => by
    obtain ⟨a, g, rfl, ha, k⟩ := h
    refine ⟨_, pbW, s_cons (s_expr (we_of (pe_sinit rfl T.g_StreamError T.sin.1 T.sin.2 paW) ?_))⟩
    refine a_cons (w_var 0 rfl (a_cons (w_str (a_nil ⟨a, _, _, rfl, by show 1 ≤ 1000; decide, T.x_NoStream, ha, s_one (ws_of (ps_ost peW peW) ?_)⟩))))
    exact w_var 1 rfl (w_var 0 rfl ⟨a, _, rfl, T.x_NoStream, T.xn_NoStream, .inl ⟨ha, fun dx h1 h2 => k dx h1 h2⟩⟩)
  exact fnq_of F1 (kbn0 F 1 ["given"] (fun vs zs => vs ++ zs) (fun r1 r2 => r1.append r2) fun _ _ _ _ _ _ us ws h1 h2 => match us, ws, h1, h2 with | [_], [_], _, _ => rfl)
theorem wk_NoStream {X : Cx} {e : Expr} {σ : L2.St} {H : Hp} {Q : VK} {p pos kpos : Pos} (T : Tx X.K X.mg) (hr : Room 2 X.A) (h : We X e σ H fun v H1 => ∀ a H', Same H1 H' → ExV H' a (He.ga X.K "NoStream") [("given", v)] → Q (.ref a) H') (hg : Gl X "NoStream" := by rfl)
    (hall : (backToKw pos (keywordEach [⟨some "given", e, kpos⟩] X.env)).all (·.1.isSome) = true := by rfl) (hks : (backToKw pos (keywordEach [⟨some "given", e, kpos⟩] X.env)).filterMap (·.1) = (["given"] : List Str) := by rfl)
    (hpl : ((backTo pos (starEach [] X.env)).any (·.1) || (backToKw pos (keywordEach [⟨some "given", e, kpos⟩] X.env)).any (·.1.isNone)) = false := by rfl) : We X (.Call (.Name "NoStream" p) [] [⟨some "given", e, kpos⟩] pos) σ H Q := by
  refine w_excQ T.x_NoStream T.xi_NoStream.at_ T.xi_NoStream.ty (fq_NoStream T) hr T.g_NoStream passL (We.mono h fun v H1 z => fun a ha => ⟨a, v, rfl, upd_same, fun dx h1 h2 => ⟨rfl, ?_⟩⟩) hg (by decide) hall hks hpl
  obtain ⟨g1, g2⟩ := exv_new (v := v) (f := "given") ha h1 h2
  exact z a _ g1 g2
theorem wg_NoStream {X : Cx} {e : Expr} {σ : L2.St} {H : Hp} {Q : VK} {p pos pos2 : Pos} (T : Tx X.K X.mg) (hr : Room 2 X.A) (h : We X e σ H fun v H1 => ∀ H', Same H1 H' → Q v H') (hg : Gl X "NoStream" := by rfl)
    (he : starEach [e] X.env = (false, eval e X.env) :: starEach [] X.env := by rfl) (hpl : (backTo pos (starEach [] X.env)).any (·.1) = false := by rfl) (hb : attributeBase (.Call (.Name "NoStream" p) [e] [] pos) "given" X.env (eval (.Call (.Name "NoStream" p) [e] [] pos) X.env) = eval (.Call (.Name "NoStream" p) [e] [] pos) X.env := by rfl) :
    We X (.Attribute (.Call (.Name "NoStream" p) [e] [] pos) "given" pos2) σ H Q := w_ef (wx_NoStream T hr (We.mono h fun v H1 z a H' s ev => ⟨a, _, _, v, rfl, T.xf_NoStream, T.xn_NoStream, ev, by rw [lookup_put, if_pos rfl], z H' s⟩) hg he hpl) hb
theorem wj_NoStream {X : Cx} {e : Expr} {σ : L2.St} {H : Hp} {Q : VK} {p pos kpos pos2 : Pos} (T : Tx X.K X.mg) (hr : Room 2 X.A) (h : We X e σ H fun v H1 => ∀ H', Same H1 H' → Q v H') (hg : Gl X "NoStream" := by rfl)
    (hall : (backToKw pos (keywordEach [⟨some "given", e, kpos⟩] X.env)).all (·.1.isSome) = true := by rfl) (hks : (backToKw pos (keywordEach [⟨some "given", e, kpos⟩] X.env)).filterMap (·.1) = (["given"] : List Str) := by rfl)
    (hpl : ((backTo pos (starEach [] X.env)).any (·.1) || (backToKw pos (keywordEach [⟨some "given", e, kpos⟩] X.env)).any (·.1.isNone)) = false := by rfl) (hb : attributeBase (.Call (.Name "NoStream" p) [] [⟨some "given", e, kpos⟩] pos) "given" X.env (eval (.Call (.Name "NoStream" p) [] [⟨some "given", e, kpos⟩] pos) X.env) = eval (.Call (.Name "NoStream" p) [] [⟨some "given", e, kpos⟩] pos) X.env := by rfl) :
    We X (.Attribute (.Call (.Name "NoStream" p) [] [⟨some "given", e, kpos⟩] pos) "given" pos2) σ H Q := w_ef (wk_NoStream T hr (We.mono h fun v H1 z a H' s ev => ⟨a, _, _, v, rfl, T.xf_NoStream, T.xn_NoStream, ev, by rw [lookup_put, if_pos rfl], z H' s⟩) hg hall hks hpl) hb
theorem wx_InUse {X : Cx} {e : Expr} {σ : L2.St} {H : Hp} {Q : VK} {p pos : Pos} (T : Tx X.K X.mg) (hr : Room 2 X.A) (h : We X e σ H fun v H1 => ∀ a H', Same H1 H' → ExV H' a (He.ga X.K "InUse") [("given", v)] → Q (.ref a) H') (hg : Gl X "InUse" := by rfl)
    (he : starEach [e] X.env = (false, eval e X.env) :: starEach [] X.env := by rfl) (hpl : (backTo pos (starEach [] X.env)).any (·.1) = false := by rfl) : We X (.Call (.Name "InUse" p) [e] [] pos) σ H Q := by
  refine w_exc T.x_InUse T.xi_InUse.at_ T.xi_InUse.ty (fn_InUse T) hr T.g_InUse passL (a_cons (We.mono h fun v H1 z => a_nil ⟨by show 1 ≤ 1000; decide, fun a ha => ⟨a, v, rfl, upd_same, fun dx h1 h2 => ⟨rfl, ?_⟩⟩⟩) he) hg (by decide) he hpl
  obtain ⟨g1, g2⟩ := exv_new (v := v) (f := "given") ha h1 h2
  exact z a _ g1 g2
theorem fq_InUse {P : Program} {w : World} {K : PySem.W.Frag} {mg : Str → Option Value} {base : Heap} (T : Tx K mg) : FnQ P w K mg base (L2.CX P w) 1 (He.ma K (He.ga K "InUse") "__init__") 1 ["given"] (fun vs zs H Q E => spErr1 (He.ga K "InUse") "given" (vs ++ zs) H Q E) := by
  obtain ⟨fd, F⟩ := T.f_InUse___init__
  have F1 : FnOk P w K mg base (L2.CX P w) 1 (He.ma K (He.ga K "InUse") "__init__") fd ["self", "given"] (spErr1 (He.ga K "InUse") "given") := F.ok sc_InUse (fun vs H Q E h => by obtain ⟨a, g, rfl, _⟩ := h; rfl) fun cdv A outer s H vs Q E hr h => by
    obtain ⟨a, g, rfl, ha, k⟩ := h
    refine ⟨_, pbW, s_cons (s_expr (we_of (pe_sinit rfl T.g_StreamError T.sin.1 T.sin.2 paW) ?_))⟩
    refine a_cons (w_var 0 rfl (a_cons (w_str (a_nil ⟨a, _, _, rfl, by show 1 ≤ 1000; decide, T.x_InUse, ha, s_one (ws_of (ps_ost peW peW) ?_)⟩))))
    exact w_var 1 rfl (w_var 0 rfl ⟨a, _, rfl, T.x_InUse, T.xn_InUse, .inl ⟨ha, fun dx h1 h2 => k dx h1 h2⟩⟩)
  exact fnq_of F1 (kbn0 F 1 ["given"] (fun vs zs => vs ++ zs) (fun r1 r2 => r1.append r2) fun _ _ _ _ _ _ us ws h1 h2 => match us, ws, h1, h2 with | [_], [_], _, _ => rfl)
theorem wk_InUse {X : Cx} {e : Expr} {σ : L2.St} {H : Hp} {Q : VK} {p pos kpos : Pos} (T : Tx X.K X.mg) (hr : Room 2 X.A) (h : We X e σ H fun v H1 => ∀ a H', Same H1 H' → ExV H' a (He.ga X.K "InUse") [("given", v)] → Q (.ref a) H') (hg : Gl X "InUse" := by rfl)
    (hall : (backToKw pos (keywordEach [⟨some "given", e, kpos⟩] X.env)).all (·.1.isSome) = true := by rfl) (hks : (backToKw pos (keywordEach [⟨some "given", e, kpos⟩] X.env)).filterMap (·.1) = (["given"] : List Str) := by rfl)
    (hpl : ((backTo pos (starEach [] X.env)).any (·.1) || (backToKw pos (keywordEach [⟨some "given", e, kpos⟩] X.env)).any (·.1.isNone)) = false := by rfl) : We X (.Call (.Name "InUse" p) [] [⟨some "given", e, kpos⟩] pos) σ H Q := by
  refine w_excQ T.x_InUse T.xi_InUse.at_ T.xi_InUse.ty (fq_InUse T) hr T.g_InUse passL (We.mono h fun v H1 z => fun a ha => ⟨a, v, rfl, upd_same, fun dx h1 h2 => ⟨rfl, ?_⟩⟩) hg (by decide) hall hks hpl
  obtain ⟨g1, g2⟩ := exv_new (v := v) (f := "given") ha h1 h2
  exact z a _ g1 g2
theorem wg_InUse {X : Cx} {e : Expr} {σ : L2.St} {H : Hp} {Q : VK} {p pos pos2 : Pos} (T : Tx X.K X.mg) (hr : Room 2 X.A) (h : We X e σ H fun v H1 => ∀ H', Same H1 H' → Q v H') (hg : Gl X "InUse" := by rfl)
    (he : starEach [e] X.env = (false, eval e X.env) :: starEach [] X.env := by rfl) (hpl : (backTo pos (starEach [] X.env)).any (·.1) = false := by rfl) (hb : attributeBase (.Call (.Name "InUse" p) [e] [] pos) "given" X.env (eval (.Call (.Name "InUse" p) [e] [] pos) X.env) = eval (.Call (.Name "InUse" p) [e] [] pos) X.env := by rfl) :
    We X (.Attribute (.Call (.Name "InUse" p) [e] [] pos) "given" pos2) σ H Q := w_ef (wx_InUse T hr (We.mono h fun v H1 z a H' s ev => ⟨a, _, _, v, rfl, T.xf_InUse, T.xn_InUse, ev, by rw [lookup_put, if_pos rfl], z H' s⟩) hg he hpl) hb
theorem wj_InUse {X : Cx} {e : Expr} {σ : L2.St} {H : Hp} {Q : VK} {p pos kpos pos2 : Pos} (T : Tx X.K X.mg) (hr : Room 2 X.A) (h : We X e σ H fun v H1 => ∀ H', Same H1 H' → Q v H') (hg : Gl X "InUse" := by rfl)
    (hall : (backToKw pos (keywordEach [⟨some "given", e, kpos⟩] X.env)).all (·.1.isSome) = true := by rfl) (hks : (backToKw pos (keywordEach [⟨some "given", e, kpos⟩] X.env)).filterMap (·.1) = (["given"] : List Str) := by rfl)
    (hpl : ((backTo pos (starEach [] X.env)).any (·.1) || (backToKw pos (keywordEach [⟨some "given", e, kpos⟩] X.env)).any (·.1.isNone)) = false := by rfl) (hb : attributeBase (.Call (.Name "InUse" p) [] [⟨some "given", e, kpos⟩] pos) "given" X.env (eval (.Call (.Name "InUse" p) [] [⟨some "given", e, kpos⟩] pos) X.env) = eval (.Call (.Name "InUse" p) [] [⟨some "given", e, kpos⟩] pos) X.env := by rfl) :
    We X (.Attribute (.Call (.Name "InUse" p) [] [⟨some "given", e, kpos⟩] pos) "given" pos2) σ H Q := w_ef (wk_InUse T hr (We.mono h fun v H1 z a H' s ev => ⟨a, _, _, v, rfl, T.xf_InUse, T.xn_InUse, ev, by rw [lookup_put, if_pos rfl], z H' s⟩) hg hall hks hpl) hb
theorem wx_TooMuch {X : Cx} {e : Expr} {σ : L2.St} {H : Hp} {Q : VK} {p pos : Pos} (T : Tx X.K X.mg) (hr : Room 2 X.A) (h : We X e σ H fun v H1 => ∀ a H', Same H1 H' → ExV H' a (He.ga X.K "TooMuch") [("given", v)] → Q (.ref a) H') (hg : Gl X "TooMuch" := by rfl)
    (he : starEach [e] X.env = (false, eval e X.env) :: starEach [] X.env := by rfl) (hpl : (backTo pos (starEach [] X.env)).any (·.1) = false := by rfl) : We X (.Call (.Name "TooMuch" p) [e] [] pos) σ H Q := by
  refine w_exc T.x_TooMuch T.xi_TooMuch.at_ T.xi_TooMuch.ty (fn_TooMuch T) hr T.g_TooMuch passL (a_cons (We.mono h fun v H1 z => a_nil ⟨by show 1 ≤ 1000; decide, fun a ha => ⟨a, v, rfl, upd_same, fun dx h1 h2 => ⟨rfl, ?_⟩⟩⟩) he) hg (by decide) he hpl
  obtain ⟨g1, g2⟩ := exv_new (v := v) (f := "given") ha h1 h2
  exact z a _ g1 g2
theorem fq_TooMuch {P : Program} {w : World} {K : PySem.W.Frag} {mg : Str → Option Value} {base : Heap} (T : Tx K mg) : FnQ P w K mg base (L2.CX P w) 1 (He.ma K (He.ga K "TooMuch") "__init__") 1 ["given"] (fun vs zs H Q E => spErr1 (He.ga K "TooMuch") "given" (vs ++ zs) H Q E) := by
  obtain ⟨fd, F⟩ := T.f_TooMuch___init__
  have F1 : FnOk P w K mg base (L2.CX P w) 1 (He.ma K (He.ga K "TooMuch") "__init__") fd ["self", "given"] (spErr1 (He.ga K "TooMuch") "given") := F.ok sc_TooMuch (fun vs H Q E h => by obtain ⟨a, g, rfl, _⟩ := h; rfl) fun cdv A outer s H vs Q E hr h => by
    obtain ⟨a, g, rfl, ha, k⟩ := h
    refine ⟨_, pbW, s_cons (s_expr (we_of (pe_sinit rfl T.g_StreamError T.sin.1 T.sin.2 paW) ?_))⟩
    refine a_cons (w_var 0 rfl (a_cons (w_str (a_nil ⟨a, _, _, rfl, by show 1 ≤ 1000; decide, T.x_TooMuch, ha, s_one (ws_of (ps_ost peW peW) ?_)⟩))))
    exact w_var 1 rfl (w_var 0 rfl ⟨a, _, rfl, T.x_TooMuch, T.xn_TooMuch, .inl ⟨ha, fun dx h1 h2 => k dx h1 h2⟩⟩)
  exact fnq_of F1 (kbn0 F 1 ["given"] (fun vs zs => vs ++ zs) (fun r1 r2 => r1.append r2) fun _ _ _ _ _ _ us ws h1 h2 => match us, ws, h1, h2 with | [_], [_], _, _ => rfl)
theorem wk_TooMuch {X : Cx} {e : Expr} {σ : L2.St} {H : Hp} {Q : VK} {p pos kpos : Pos} (T : Tx X.K X.mg) (hr : Room 2 X.A) (h : We X e σ H fun v H1 => ∀ a H', Same H1 H' → ExV H' a (He.ga X.K "TooMuch") [("given", v)] → Q (.ref a) H') (hg : Gl X "TooMuch" := by rfl)
    (hall : (backToKw pos (keywordEach [⟨some "given", e, kpos⟩] X.env)).all (·.1.isSome) = true := by rfl) (hks : (backToKw pos (keywordEach [⟨some "given", e, kpos⟩] X.env)).filterMap (·.1) = (["given"] : List Str) := by rfl)
    (hpl : ((backTo pos (starEach [] X.env)).any (·.1) || (backToKw pos (keywordEach [⟨some "given", e, kpos⟩] X.env)).any (·.1.isNone)) = false := by rfl) : We X (.Call (.Name "TooMuch" p) [] [⟨some "given", e, kpos⟩] pos) σ H Q := by
  refine w_excQ T.x_TooMuch T.xi_TooMuch.at_ T.xi_TooMuch.ty (fq_TooMuch T) hr T.g_TooMuch passL (We.mono h fun v H1 z => fun a ha => ⟨a, v, rfl, upd_same, fun dx h1 h2 => ⟨rfl, ?_⟩⟩) hg (by decide) hall hks hpl
  obtain ⟨g1, g2⟩ := exv_new (v := v) (f := "given") ha h1 h2
  exact z a _ g1 g2
theorem wg_TooMuch {X : Cx} {e : Expr} {σ : L2.St} {H : Hp} {Q : VK} {p pos pos2 : Pos} (T : Tx X.K X.mg) (hr : Room 2 X.A) (h : We X e σ H fun v H1 => ∀ H', Same H1 H' → Q v H') (hg : Gl X "TooMuch" := by rfl)
    (he : starEach [e] X.env = (false, eval e X.env) :: starEach [] X.env := by rfl) (hpl : (backTo pos (starEach [] X.env)).any (·.1) = false := by rfl) (hb : attributeBase (.Call (.Name "TooMuch" p) [e] [] pos) "given" X.env (eval (.Call (.Name "TooMuch" p) [e] [] pos) X.env) = eval (.Call (.Name "TooMuch" p) [e] [] pos) X.env := by rfl) :
    We X (.Attribute (.Call (.Name "TooMuch" p) [e] [] pos) "given" pos2) σ H Q := w_ef (wx_TooMuch T hr (We.mono h fun v H1 z a H' s ev => ⟨a, _, _, v, rfl, T.xf_TooMuch, T.xn_TooMuch, ev, by rw [lookup_put, if_pos rfl], z H' s⟩) hg he hpl) hb
theorem wj_TooMuch {X : Cx} {e : Expr} {σ : L2.St} {H : Hp} {Q : VK} {p pos kpos pos2 : Pos} (T : Tx X.K X.mg) (hr : Room 2 X.A) (h : We X e σ H fun v H1 => ∀ H', Same H1 H' → Q v H') (hg : Gl X "TooMuch" := by rfl)
    (hall : (backToKw pos (keywordEach [⟨some "given", e, kpos⟩] X.env)).all (·.1.isSome) = true := by rfl) (hks : (backToKw pos (keywordEach [⟨some "given", e, kpos⟩] X.env)).filterMap (·.1) = (["given"] : List Str) := by rfl)
    (hpl : ((backTo pos (starEach [] X.env)).any (·.1) || (backToKw pos (keywordEach [⟨some "given", e, kpos⟩] X.env)).any (·.1.isNone)) = false := by rfl) (hb : attributeBase (.Call (.Name "TooMuch" p) [] [⟨some "given", e, kpos⟩] pos) "given" X.env (eval (.Call (.Name "TooMuch" p) [] [⟨some "given", e, kpos⟩] pos) X.env) = eval (.Call (.Name "TooMuch" p) [] [⟨some "given", e, kpos⟩] pos) X.env := by rfl) :
    We X (.Attribute (.Call (.Name "TooMuch" p) [] [⟨some "given", e, kpos⟩] pos) "given" pos2) σ H Q := w_ef (wk_TooMuch T hr (We.mono h fun v H1 z a H' s ev => ⟨a, _, _, v, rfl, T.xf_TooMuch, T.xn_TooMuch, ev, by rw [lookup_put, if_pos rfl], z H' s⟩) hg hall hks hpl) hb
theorem wx_Clash {X : Cx} {σ : L2.St} {H : Hp} {Q : VK} {p pos : Pos} (T : Tx X.K X.mg) (hr : Room 2 X.A) (h : ∀ a H', Same H H' → ExV H' a (He.ga X.K "Clash") [] → Q (.ref a) H') (hg : Gl X "Clash" := by rfl) : We X (.Call (.Name "Clash" p) [] [] pos) σ H Q :=
  w_exc0 T.x_Clash T.xi_Clash.at_ T.xi_Clash.ty (fn_Clash T) hr T.g_Clash passL (fun a ha => ⟨a, rfl, upd_same, rfl, h a _ (fun b o e => by rw [upd_ne (ne_of_none e ha)]; exact e) (.inl ⟨rfl, upd_same⟩)⟩) hg
theorem wx_BadLine {X : Cx} {e : Expr} {σ : L2.St} {H : Hp} {Q : VK} {p pos : Pos} (T : Tx X.K X.mg) (hr : Room 2 X.A) (h : We X e σ H fun v H1 => ∀ a H', Same H1 H' → ExV H' a (He.ga X.K "BadLine") [("line", v)] → Q (.ref a) H') (hg : Gl X "BadLine" := by rfl)
    (he : starEach [e] X.env = (false, eval e X.env) :: starEach [] X.env := by rfl) (hpl : (backTo pos (starEach [] X.env)).any (·.1) = false := by rfl) : We X (.Call (.Name "BadLine" p) [e] [] pos) σ H Q := by
  refine w_exc T.x_BadLine T.xi_BadLine.at_ T.xi_BadLine.ty (fn_BadLine T) hr T.g_BadLine passL (a_cons (We.mono h fun v H1 z => a_nil ⟨by show 1 ≤ 1000; decide, fun a ha => ⟨a, v, rfl, upd_same, fun dx h1 h2 => ⟨rfl, ?_⟩⟩⟩) he) hg (by decide) he hpl
  obtain ⟨g1, g2⟩ := exv_new (v := v) (f := "line") ha h1 h2
  exact z a _ g1 g2
theorem fq_BadLine {P : Program} {w : World} {K : PySem.W.Frag} {mg : Str → Option Value} {base : Heap} (T : Tx K mg) : FnQ P w K mg base (L2.CX P w) 1 (He.ma K (He.ga K "BadLine") "__init__") 1 ["line"] (fun vs zs H Q E => spErr1 (He.ga K "BadLine") "line" (vs ++ zs) H Q E) := by
  obtain ⟨fd, F⟩ := T.f_BadLine___init__
  have F1 : FnOk P w K mg base (L2.CX P w) 1 (He.ma K (He.ga K "BadLine") "__init__") fd ["self", "line"] (spErr1 (He.ga K "BadLine") "line") := F.ok sc_BadLine (fun vs H Q E h => by obtain ⟨a, g, rfl, _⟩ := h; rfl) fun cdv A outer s H vs Q E hr h => by
    obtain ⟨a, g, rfl, ha, k⟩ := h
    refine ⟨_, pbW, s_cons (s_expr (we_of (pe_sinit rfl T.g_StreamError T.sin.1 T.sin.2 paW) ?_))⟩
    refine a_cons (w_var 0 rfl (a_cons (w_str (a_nil ⟨a, _, _, rfl, by show 1 ≤ 1000; decide, T.x_BadLine, ha, s_one (ws_of (ps_ost peW peW) ?_)⟩))))
    exact w_var 1 rfl (w_var 0 rfl ⟨a, _, rfl, T.x_BadLine, T.xn_BadLine, .inl ⟨ha, fun dx h1 h2 => k dx h1 h2⟩⟩)
  exact fnq_of F1 (kbn0 F 1 ["line"] (fun vs zs => vs ++ zs) (fun r1 r2 => r1.append r2) fun _ _ _ _ _ _ us ws h1 h2 => match us, ws, h1, h2 with | [_], [_], _, _ => rfl)
theorem wk_BadLine {X : Cx} {e : Expr} {σ : L2.St} {H : Hp} {Q : VK} {p pos kpos : Pos} (T : Tx X.K X.mg) (hr : Room 2 X.A) (h : We X e σ H fun v H1 => ∀ a H', Same H1 H' → ExV H' a (He.ga X.K "BadLine") [("line", v)] → Q (.ref a) H') (hg : Gl X "BadLine" := by rfl)
    (hall : (backToKw pos (keywordEach [⟨some "line", e, kpos⟩] X.env)).all (·.1.isSome) = true := by rfl) (hks : (backToKw pos (keywordEach [⟨some "line", e, kpos⟩] X.env)).filterMap (·.1) = (["line"] : List Str) := by rfl)
    (hpl : ((backTo pos (starEach [] X.env)).any (·.1) || (backToKw pos (keywordEach [⟨some "line", e, kpos⟩] X.env)).any (·.1.isNone)) = false := by rfl) : We X (.Call (.Name "BadLine" p) [] [⟨some "line", e, kpos⟩] pos) σ H Q := by
  refine w_excQ T.x_BadLine T.xi_BadLine.at_ T.xi_BadLine.ty (fq_BadLine T) hr T.g_BadLine passL (We.mono h fun v H1 z => fun a ha => ⟨a, v, rfl, upd_same, fun dx h1 h2 => ⟨rfl, ?_⟩⟩) hg (by decide) hall hks hpl
  obtain ⟨g1, g2⟩ := exv_new (v := v) (f := "line") ha h1 h2
  exact z a _ g1 g2
theorem wg_BadLine {X : Cx} {e : Expr} {σ : L2.St} {H : Hp} {Q : VK} {p pos pos2 : Pos} (T : Tx X.K X.mg) (hr : Room 2 X.A) (h : We X e σ H fun v H1 => ∀ H', Same H1 H' → Q v H') (hg : Gl X "BadLine" := by rfl)
    (he : starEach [e] X.env = (false, eval e X.env) :: starEach [] X.env := by rfl) (hpl : (backTo pos (starEach [] X.env)).any (·.1) = false := by rfl) (hb : attributeBase (.Call (.Name "BadLine" p) [e] [] pos) "line" X.env (eval (.Call (.Name "BadLine" p) [e] [] pos) X.env) = eval (.Call (.Name "BadLine" p) [e] [] pos) X.env := by rfl) :
    We X (.Attribute (.Call (.Name "BadLine" p) [e] [] pos) "line" pos2) σ H Q := w_ef (wx_BadLine T hr (We.mono h fun v H1 z a H' s ev => ⟨a, _, _, v, rfl, T.xf_BadLine, T.xn_BadLine, ev, by rw [lookup_put, if_pos rfl], z H' s⟩) hg he hpl) hb
theorem wj_BadLine {X : Cx} {e : Expr} {σ : L2.St} {H : Hp} {Q : VK} {p pos kpos pos2 : Pos} (T : Tx X.K X.mg) (hr : Room 2 X.A) (h : We X e σ H fun v H1 => ∀ H', Same H1 H' → Q v H') (hg : Gl X "BadLine" := by rfl)
    (hall : (backToKw pos (keywordEach [⟨some "line", e, kpos⟩] X.env)).all (·.1.isSome) = true := by rfl) (hks : (backToKw pos (keywordEach [⟨some "line", e, kpos⟩] X.env)).filterMap (·.1) = (["line"] : List Str) := by rfl)
    (hpl : ((backTo pos (starEach [] X.env)).any (·.1) || (backToKw pos (keywordEach [⟨some "line", e, kpos⟩] X.env)).any (·.1.isNone)) = false := by rfl) (hb : attributeBase (.Call (.Name "BadLine" p) [] [⟨some "line", e, kpos⟩] pos) "line" X.env (eval (.Call (.Name "BadLine" p) [] [⟨some "line", e, kpos⟩] pos) X.env) = eval (.Call (.Name "BadLine" p) [] [⟨some "line", e, kpos⟩] pos) X.env := by rfl) :
    We X (.Attribute (.Call (.Name "BadLine" p) [] [⟨some "line", e, kpos⟩] pos) "line" pos2) σ H Q := w_ef (wk_BadLine T hr (We.mono h fun v H1 z a H' s ev => ⟨a, _, _, v, rfl, T.xf_BadLine, T.xn_BadLine, ev, by rw [lookup_put, if_pos rfl], z H' s⟩) hg hall hks hpl) hb
theorem wx_NothingToUndo {X : Cx} {σ : L2.St} {H : Hp} {Q : VK} {p pos : Pos} (T : Tx X.K X.mg) (hr : Room 2 X.A) (h : ∀ a H', Same H H' → ExV H' a (He.ga X.K "NothingToUndo") [] → Q (.ref a) H') (hg : Gl X "NothingToUndo" := by rfl) : We X (.Call (.Name "NothingToUndo" p) [] [] pos) σ H Q :=
  w_exc0 T.x_NothingToUndo T.xi_NothingToUndo.at_ T.xi_NothingToUndo.ty (fn_NothingToUndo T) hr T.g_NothingToUndo passL (fun a ha => ⟨a, rfl, upd_same, rfl, h a _ (fun b o e => by rw [upd_ne (ne_of_none e ha)]; exact e) (.inl ⟨rfl, upd_same⟩)⟩) hg
theorem wx_NothingToRedo {X : Cx} {σ : L2.St} {H : Hp} {Q : VK} {p pos : Pos} (T : Tx X.K X.mg) (hr : Room 2 X.A) (h : ∀ a H', Same H H' → ExV H' a (He.ga X.K "NothingToRedo") [] → Q (.ref a) H') (hg : Gl X "NothingToRedo" := by rfl) : We X (.Call (.Name "NothingToRedo" p) [] [] pos) σ H Q :=
  w_exc0 T.x_NothingToRedo T.xi_NothingToRedo.at_ T.xi_NothingToRedo.ty (fn_NothingToRedo T) hr T.g_NothingToRedo passL (fun a ha => ⟨a, rfl, upd_same, rfl, h a _ (fun b o e => by rw [upd_ne (ne_of_none e ha)]; exact e) (.inl ⟨rfl, upd_same⟩)⟩) hg
theorem wx_UnlikeBooks {X : Cx} {σ : L2.St} {H : Hp} {Q : VK} {p pos : Pos} (T : Tx X.K X.mg) (hr : Room 2 X.A) (h : ∀ a H', Same H H' → ExV H' a (He.ga X.K "UnlikeBooks") [] → Q (.ref a) H') (hg : Gl X "UnlikeBooks" := by rfl) : We X (.Call (.Name "UnlikeBooks" p) [] [] pos) σ H Q :=
  w_exc0 T.x_UnlikeBooks T.xi_UnlikeBooks.at_ T.xi_UnlikeBooks.ty (fn_UnlikeBooks T) hr T.g_UnlikeBooks passL (fun a ha => ⟨a, rfl, upd_same, rfl, h a _ (fun b o e => by rw [upd_ne (ne_of_none e ha)]; exact e) (.inl ⟨rfl, upd_same⟩)⟩) hg
end LW
namespace LW
open PySem PySem.Spec PyProof.Rows L2 PR
def sumR (qs : List Rat) : Rat := qs.foldl (· + ·) 0
theorem sumR_snoc (qs : List Rat) (q : Rat) : sumR (qs ++ [q]) = sumR qs + q := by
  unfold sumR
  rw [List.foldl_append]
  rfl
theorem take_snoc {α : Type} : ∀ {l : List α} {i : Nat} {x : α}, l[i]? = some x → l.take (i + 1) = l.take i ++ [x]
  | [], i, x, h => by simp at h
  | a :: l, 0, x, h => by
    have e : a = x := Option.some.inj h
    subst e
    rfl
  | a :: l, i + 1, x, h => by
    have ih := take_snoc (l := l) (i := i) (x := x) h
    show a :: l.take (i + 1) = a :: l.take i ++ [x]
    rw [ih]
    rfl
end LW
namespace LW
open PySem PySem.Spec PyProof.Rows L2 PR
def CPowW (i j : Int) : Prop := 0 ≤ j ∧ j ≤ 1000 ∧ i.natAbs < 2 ^ 1000
theorem op_powW {X : Cx} : OpR X (binaryOp .Pow) (rI CPowW fun i j => .int (i ^ j.toNat)) := opI fun i j _ _ _ _ _ hc q => by
  obtain ⟨h0, h1, h2⟩ := hc
  refine pow_int h0 ?_ q
  have hl : i.natAbs.log2 < 1000 := PySem.Flt.log2_lt_of (by decide) h2
  have hb : Builtin.Int.intBits i ≤ 1001 := by
    unfold Builtin.Int.intBits
    split <;> omega
  have h3 : ((Builtin.Int.intBits i : Nat) : Int) ≤ 1001 := by omega
  have h4 : ((Builtin.Int.intBits i : Nat) : Int) * j ≤ 1001 * 1000 := Int.mul_le_mul h3 h1 h0 (by decide)
  exact Int.le_trans h4 (by decide)
/-- the box: digits, a count of at most N draws, a start -/
def Bx (H : Hp) (b : Addr) (N : Nat) : Prop := ∃ n c d : Int, H b = some (.lst [.int n, .int c, .int d]) ∧ 0 ≤ n ∧ 0 ≤ c ∧ c ≤ N ∧ 0 ≤ d ∧ d ≤ 4000000
/-- all but what stands at b is as it was -/
def Kp (b : Addr) (H H' : Hp) : Prop := ∀ a o, a ≠ b → H a = some o → H' a = some o
theorem Kp.refl (b : Addr) (H : Hp) : Kp b H H := fun _ _ _ h => h
theorem Kp.trans {b : Addr} {H H1 H2 : Hp} (h : Kp b H H1) (k : Kp b H1 H2) : Kp b H H2 := fun a o n e => k a o n (h a o n e)
theorem _root_.L2.Same.kp {b : Addr} {H H' : Hp} (s : Same H H') : Kp b H H' := fun a o _ e => s a o e
theorem kp_upd {b : Addr} {H : Hp} {o : HO} : Kp b H (upd H b o) := fun a u n e => by rw [upd_ne n]; exact e
theorem Bx.same {H H' : Hp} {b : Addr} {N : Nat} (h : Bx H b N) (s : Same H H') : Bx H' b N := by
  obtain ⟨n, c, d, e, r⟩ := h
  exact ⟨n, c, d, s _ _ e, r⟩
theorem Bx.ne {H : Hp} {a b : Addr} {N : Nat} {o : HO} (h : Bx H b N) (e : H a = some o) (n : ∀ xs, o ≠ .lst xs) : a ≠ b := by
  obtain ⟨_, _, _, e2, _⟩ := h
  exact ne_of e e2 (n _)
section
variable {P : Program} {w : World} {K : PySem.W.Frag} {mg : Str → Option Value} {base : Heap}
/-! ### cell, box -/
def spCell (K : PySem.W.Frag) : Sp := fun vs H Q _ => ∃ (a : Addr) (ns : List Int) (k : Nat), vs = [.ref a, .int k] ∧ SqL K H a (ns.map V.int) ∧ Q (.int (ns.getD k 0)) H
theorem sc_cell : FnScope ["_law_script", "_law_k"] ["_law_script", "_law_k"] (defScope s__law_cell) := ⟨rfl, rfl, rfl, by decide +kernel, rfl, by decide +kernel, by decide +kernel⟩
theorem fn_cell (T : Tx K mg) : FnR P w K mg base (L2.CX P w) 1 (He.ga K "_law_cell") (spCell K) := by
  refine fnr T.f__law_cell sc_cell (fun vs H Q E h => ?_) (fun _ _ _ _ _ _ us hl => match us, hl with | [_, _], _ => rfl) fun cdv A outer s H vs Q E hr h => ?_
  · obtain ⟨a, ns, k, rfl, _⟩ := h
    rfl
  · obtain ⟨a, ns, k, rfl, hl, q⟩ := h
    refine s_one (s_ret (w_ife (t_cmp op_lt (w_var 1 rfl (w_callB call_len T.b_len (by decide +kernel) (a_cons (w_var 0 rfl (a_nil ⟨_, (ns.map V.int).length, rfl, .inl ⟨_, hl, rfl⟩, _, _, rfl, rfl, _, rfl, ?_⟩))))))))
    by_cases hk : k < ns.length
    · refine ifT (decide_eq_true (by rw [List.length_map]; omega)) ?_
      refine w_ix ix_list (w_var 0 rfl (w_var 1 rfl ⟨a, _, _, .int (ns.getD k 0), rfl, rfl, hl, ?_, q⟩))
      refine atI_nat ?_
      rw [List.getElem?_map, List.getElem?_eq_getElem hk, List.getD_eq_getElem?_getD, List.getElem?_eq_getElem hk]
      rfl
    · refine ifF (decide_eq_false (by rw [List.length_map]; omega)) (w_int ?_)
      have e : ns.getD k 0 = 0 := by rw [List.getD_eq_getElem?_getD, List.getElem?_eq_none (by omega)]; rfl
      rw [e] at q
      exact q
def spBox (K : PySem.W.Frag) : Sp := fun vs H Q _ => ∃ (a : Addr) (ns : List Int) (k : Nat), vs = [.ref a, .int k] ∧ k ≤ 63 ∧ SqL K H a (ns.map V.int) ∧ ∀ b H', H b = none → Same H H' → Bx H' b 0 → Q (.ref b) H'
theorem sc_box : FnScope ["_law_script", "_law_k"] ["_law_script", "_law_k"] (defScope s__law_box) := ⟨rfl, rfl, rfl, by decide +kernel, rfl, by decide +kernel, by decide +kernel⟩
theorem fn_box (T : Tx K mg) : FnR P w K mg base (L2.CX P w) 2 (He.ga K "_law_box") (spBox K) := by
  refine fnr T.f__law_box sc_box (fun vs H Q E h => ?_) (fun _ _ _ _ _ _ us hl => match us, hl with | [_, _], _ => rfl) fun cdv A outer s H vs Q E hr h => ?_
  · obtain ⟨a, ns, k, rfl, _⟩ := h
    rfl
  · obtain ⟨a, ns, k, rfl, hk, hl, q⟩ := h
    refine s_one (s_ret (w_lst (a_cons (w_callB call_abs T.b_abs (by decide +kernel) (a_cons (w_callT call_int1 T.b_int (by decide +kernel) (a_cons (w_call (fn_cell T) hr T.g__law_cell (kept T.f__law_cell) passL
      (a_cons (w_var 0 rfl (a_cons (w_var 1 rfl (a_nil ⟨a, ns, k, rfl, hl, a_nil (.inl ⟨_, rfl, a_nil ⟨_, rfl, ?_⟩⟩)⟩)))))))))))))
    refine a_cons (w_int (a_cons (w_op op_add (w_op op_mul (w_int (w_var 1 rfl ⟨_, _, rfl, rfl, .inl ⟨by decide, by decide⟩, w_int ⟨_, _, rfl, rfl, a_nil ⟨by show 3 ≤ sizeLine; decide, fun b hb => ?_⟩⟩⟩))))))
    refine q b _ hb (same_new hb) ⟨_, _, _, upd_same, ?_, by decide, by decide, by omega, by omega⟩
    split <;> omega
/-! ### take: any number from 0 to below many -/
def spTake : Sp := fun vs H Q _ => ∃ (b : Addr) (m : Int) (N : Nat), vs = [.ref b, .int m] ∧ Bx H b N ∧ N ≤ 1000000 ∧ 0 < m ∧ m.natAbs < 2 ^ 9000 ∧ ∀ r H', 0 ≤ r → r < m → Bx H' b (N + 1) → Kp b H H' → Q (.int r) H'
theorem sc_take : FnScope ["_law_box_here", "_law_many", "_law_digit", "_law_mixed"] ["_law_box_here", "_law_many"] (defScope s__law_take) := ⟨rfl, rfl, rfl, by decide +kernel, rfl, by decide +kernel, by decide +kernel⟩
theorem pow3_lt {i : Int} {n : Nat} (h : i.natAbs < 2 ^ n) : i.natAbs < 2 ^ n := h
theorem fn_take (T : Tx K mg) : FnR P w K mg base (L2.CX P w) 1 (He.ga K "_law_take") spTake := by
  refine fnr T.f__law_take sc_take (fun vs H Q E h => ?_) (fun _ _ _ _ _ _ us hl => match us, hl with | [_, _], _ => rfl) fun cdv A outer s H vs Q E hr h => ?_
  · obtain ⟨b, m, N, rfl, _⟩ := h
    rfl
  · obtain ⟨b, m, N, rfl, ⟨n, c, d, hb, hn, hc0, hcN, hd0, hd1⟩, hN, hm, hm2, q⟩ := h
    have it : ∀ {H : Hp} {n c d : Int}, H b = some (.lst [.int n, .int c, .int d]) → SqL K H b [.int n, .int c, .int d] := fun h => SqL.of h
    refine s_cons (s_if (t_cmp op_ge (w_ix ix_list (w_var 0 rfl (w_int ⟨b, _, 0, _, rfl, rfl, it hb, rfl, w_op op_powW (w_int (w_int ⟨10, 18, rfl, rfl, ⟨by decide, by decide, by decide +kernel⟩, n, _, rfl, rfl, _, rfl, ?_⟩))⟩)))))
    have nd := sc_take.nd
    by_cases hbig : (10 : Int) ^ (18 : Int).toNat ≤ n
    · refine ifT (decide_eq_true hbig) ?_
      refine s_cons (s_set 2 nd (w_op op_mod (w_callT call_int1 T.b_int (by decide +kernel) (a_cons (w_ix ix_list (w_var 0 rfl (w_int ⟨b, _, 0, _, rfl, rfl, it hb, rfl, a_nil (.inl ⟨_, rfl, w_var 1 rfl ⟨_, _, rfl, rfl, hm, ?_⟩⟩)⟩)))))))
      refine s_cons (s_asg (pg_sub peW peW set_list) (w_op op_fdivA (w_ix ix_list (w_var 0 rfl (w_int ⟨b, _, 0, _, rfl, rfl, it hb, rfl, w_var 1 rfl ⟨_, _, rfl, rfl, ⟨by omega, hm2⟩, w_var 0 rfl (w_int ⟨b, _, 0, 0, rfl, rfl, hb, rfl, ?_⟩)⟩⟩)))))
      refine s_one (s_ret (w_var 2 rfl ?_))
      refine q _ _ (Int.emod_nonneg _ (by omega)) (Int.emod_lt_of_pos _ hm) ⟨_, _, _, upd_same, ?_, hc0, by omega, hd0, hd1⟩ kp_upd
      rw [Int.fdiv_eq_ediv_of_nonneg _ (by omega)]
      exact Int.ediv_nonneg hn (by omega)
    · refine ifF (decide_eq_false hbig) (s_nil ?_)
      have hsm : n < 1000000000000000000 := by
        have e : (10 : Int) ^ (18 : Int).toNat = 1000000000000000000 := by decide +kernel
        omega
      refine s_cons (s_asg (pg_sub peW peW set_list) (w_op op_add (w_ix ix_list (w_var 0 rfl (w_int ⟨b, _, 1, _, rfl, rfl, it hb, rfl, w_int ⟨_, _, rfl, rfl, w_var 0 rfl (w_int ⟨b, _, 1, 1, rfl, rfl, hb, rfl, ?_⟩)⟩⟩)))))
      have hb2 : upd H b (.lst (([.int n, .int c, .int d] : List V).set 1 (.int (c + 1)))) b = some (.lst [.int n, .int (c + 1), .int d]) := upd_same
      generalize hH2 : upd H b (.lst (([.int n, .int c, .int d] : List V).set 1 (.int (c + 1)))) = H2 at hb2
      have kp2 : Kp b H H2 := by rw [← hH2]; exact kp_upd
      have done : ∀ r, 0 ≤ r → r < m → Q (.int r) H2 := fun r h1 h2 => q r H2 h1 h2 ⟨n, c + 1, d, hb2, hn, by omega, by omega, hd0, hd1⟩ kp2
      have big1 : ((n + 7) * 69069 + (c + 1) * 40692 + d).natAbs < 2 ^ 1000 := Nat.lt_of_lt_of_le (show _ < 2 ^ 100 by omega) (Nat.pow_le_pow_right (by decide) (by decide))
      refine s_cons (s_set 3 nd (w_op op_mod (w_op op_powW (w_callT call_int1 T.b_int (by decide +kernel) (a_cons (w_op op_add (w_op op_add (w_op op_mul (w_op op_add (w_ix ix_list (w_var 0 rfl (w_int ⟨b, _, 0, _, rfl, rfl, it hb2, rfl, w_int ⟨_, _, rfl, rfl, w_int ⟨_, _, rfl, rfl, .inr ⟨by decide, by decide⟩, ?_⟩⟩⟩))))))))))))
      refine w_op op_mul (w_ix ix_list (w_var 0 rfl (w_int ⟨b, _, 1, _, rfl, rfl, it hb2, rfl, w_int ⟨_, _, rfl, rfl, .inr ⟨by decide, by decide⟩, _, _, rfl, rfl, ?_⟩⟩)))
      refine w_ix ix_list (w_var 0 rfl (w_int ⟨b, _, 2, _, rfl, rfl, it hb2, rfl, _, _, rfl, rfl, a_nil (.inl ⟨_, rfl, w_int ⟨_, _, rfl, rfl, ⟨by decide, by decide, big1⟩, w_int ⟨_, _, rfl, rfl, by show (0 : Int) < 2147483647; decide, ?_⟩⟩⟩)⟩))
      have big2 : ∀ z : Int, 0 ≤ z → z < 2147483647 → (z + (c + 1) * 17389).natAbs < 2 ^ 1000 := fun z h1 h2 => Nat.lt_of_lt_of_le (show _ < 2 ^ 100 by omega) (Nat.pow_le_pow_right (by decide) (by decide))
      refine s_cons (s_set 3 nd (w_op op_mod (w_op op_powW (w_callT call_int1 T.b_int (by decide +kernel) (a_cons (w_op op_add (w_var 3 rfl (w_op op_mul (w_ix ix_list (w_var 0 rfl (w_int ⟨b, _, 1, _, rfl, rfl, it hb2, rfl, w_int ⟨_, _, rfl, rfl, .inr ⟨by decide, by decide⟩, _, _, rfl, rfl, ?_⟩⟩)))))))))))
      refine a_nil (.inl ⟨_, rfl, w_int ⟨_, _, rfl, rfl, ⟨by decide, by decide, big2 _ (Int.emod_nonneg _ (by decide)) (Int.emod_lt_of_pos _ (by decide))⟩, w_int ⟨_, _, rfl, rfl, by show (0 : Int) < 2147483399; decide, ?_⟩⟩⟩)
      refine s_one (s_ret (w_op op_mod (w_callT call_int1 T.b_int (by decide +kernel) (a_cons (w_op op_fdiv (w_var 3 rfl (w_int ⟨_, _, rfl, rfl, ⟨by decide, by decide⟩, a_nil (.inl ⟨_, rfl, w_var 1 rfl ⟨_, _, rfl, rfl, hm, ?_⟩⟩)⟩)))))))
      exact done _ (Int.emod_nonneg _ (by omega)) (Int.emod_lt_of_pos _ hm)
end
section
variable {X : Cx} {e1 e2 : Expr} {σ : L2.St} {H : Hp} {Q : VK} {p pos : Pos}
theorem w_take (T : Tx X.K X.mg) (hr : Room 1 X.A) (h : We X e1 σ H fun x H1 => We X e2 σ H1 fun y H2 => ∃ (b : Addr) (m : Int) (N : Nat), x = .ref b ∧ y = .int m ∧ Bx H2 b N ∧ N ≤ 1000000 ∧ 0 < m ∧ m.natAbs < 2 ^ 9000 ∧ ∀ r H', 0 ≤ r → r < m → Bx H' b (N + 1) → Kp b H2 H' → Q (.int r) H')
    (hg : Gl X "_law_take" := by rfl) (he : starEach [e1, e2] X.env = (false, eval e1 X.env) :: starEach [e2] X.env := by rfl) (he2 : starEach [e2] X.env = (false, eval e2 X.env) :: starEach [] X.env := by rfl) (hpl : (backTo pos (starEach [e2] X.env)).any (·.1) = false := by rfl) : We X (.Call (.Name "_law_take" p) [e1, e2] [] pos) σ H Q := by
  refine w_call (fn_take T) hr T.g__law_take (kept T.f__law_take) passL (a_cons (We.mono h fun x H1 z => a_cons (We.mono z fun y H2 z2 => a_nil ?_) he2) he) hg (by decide) he hpl
  obtain ⟨b, m, N, rfl, rfl, r⟩ := z2
  exact ⟨b, m, N, rfl, r⟩
end
end LW
namespace LW
open PySem PySem.Spec PyProof.Rows L2 PR
theorem Kp.new {b p : Addr} {H H' : Hp} {o : HO} (hp : H p = none) (k : Kp b (upd H p o) H') : Kp b H H' := fun a u n e => k a u n (by rw [upd_ne (ne_of_none e hp)]; exact e)
theorem Bx.at_ {H : Hp} {b : Addr} {N : Nat} (h : Bx H b N) : ∃ o, H b = some o := by
  obtain ⟨_, _, _, e, _⟩ := h
  exact ⟨_, e⟩
theorem Bx.ne_new {H : Hp} {b p : Addr} {N : Nat} (h : Bx H b N) (hp : H p = none) : p ≠ b := fun e => by
  obtain ⟨o, z⟩ := h.at_
  rw [← e, hp] at z
  cases z
theorem Bx.mono {H : Hp} {b : Addr} {N M : Nat} (h : Bx H b N) (k : N ≤ M) : Bx H b M := by
  obtain ⟨n, c, d, e, h1, h2, h3, h4, h5⟩ := h
  exact ⟨n, c, d, e, h1, h2, by omega, h4, h5⟩
theorem small9 {z : Int} (h : z.natAbs < 2 ^ 500) : z.natAbs < 2 ^ 9000 := Nat.lt_of_lt_of_le h (Nat.pow_le_pow_right (by decide) (by decide))
theorem small4 {z : Int} (h : z.natAbs < 2 ^ 500) : z.natAbs < 2 ^ 4000 := Nat.lt_of_lt_of_le h (Nat.pow_le_pow_right (by decide) (by decide))
theorem len_line {n : Nat} (h : n ≤ 1000) : n ≤ sizeLine := by rw [sizeLine_eq]; omega
section
variable {X : Cx} {bx : Expr} {es : List Expr} {σ : L2.St} {H : Hp} {Q : VK} {p pos pl pm ps : Pos} {m : Int} {j : Option Nat}
/-- [..][take(box, m)] -/
theorem w_menu {jj} (T : Tx X.K X.mg) (hr : Room 1 X.A) (h : Wa X es σ H fun xs H1 => (xs.length : Int) = m ∧ 0 < xs.length ∧ xs.length ≤ 1000 ∧ ∀ p, H1 p = none → We X bx σ (upd H1 p (.lst xs)) fun y H2 => H2 = upd H1 p (.lst xs) ∧ ∃ b N, y = .ref b ∧ Bx H1 b N ∧ N ≤ 1000000 ∧
      ∀ x ∈ xs, ∀ H', Bx H' b (N + 1) → Kp b H1 H' → Q x H')
    (hg : Gl X "_law_take" := by rfl) (he : starEach [bx, .Constant (.int m) jj pm] X.env = (false, eval bx X.env) :: starEach [.Constant (.int m) jj pm] X.env := by rfl) (he2 : starEach [.Constant (.int m) jj pm] X.env = (false, eval (.Constant (.int m) jj pm) X.env) :: starEach [] X.env := by rfl) (hpl : (backTo pos (starEach [.Constant (.int m) jj pm] X.env)).any (·.1) = false := by rfl) :
    We X (.Subscript (.List es pl) (.Call (.Name "_law_take" p) [bx, .Constant (.int m) jj pm] [] pos) ps) σ H Q := by
  refine w_ix ix_list (w_lst (Wa.mono h fun xs H1 z => ?_)) (fun _ _ => rfl)
  obtain ⟨hm, h0, hl, z⟩ := z
  refine ⟨len_line hl, fun p hp => ?_⟩
  refine w_take T hr (We.mono (z p hp) fun y H2 z2 => ?_) hg he he2 hpl
  obtain ⟨rfl, b, N, rfl, hB, hN, k⟩ := z2
  refine w_int ⟨b, m, N, rfl, rfl, hB.same (same_new hp), hN, by omega, small9 (Nat.lt_of_le_of_lt (show m.natAbs ≤ 1000 by omega) (by decide +kernel)), fun r H' r0 r1 hB' hk => ?_⟩
  have hr1 : r.toNat < xs.length := by omega
  refine ⟨p, xs, r, xs[r.toNat], rfl, rfl, SqL.of (hk p _ (hB.ne_new hp) upd_same), ?_, k _ (List.getElem_mem hr1) H' hB' (hk.new hp)⟩
  have e : r = (r.toNat : Int) := by omega
  have z3 : atI xs ((r.toNat : Nat) : Int) = some xs[r.toNat] := atI_nat (List.getElem?_eq_getElem hr1)
  rw [← e] at z3
  exact z3
end
theorem same_kp {b : Addr} {H0 H1 H2 : Hp} (hb : H0 b = none) (s : Same H0 H1) (k : Kp b H1 H2) : Same H0 H2 := fun a o e => k a o (ne_of_none e hb) (s a o e)
section
variable {X : Cx} {e : Expr} {σ : L2.St} {H : Hp} {Q : VK} {pos pi : Pos} {ji : Nat}
theorem w_l0 (h : We X e σ H fun x H1 => ∃ l y z, x = .ref l ∧ H1 l = some (.lst [y, z]) ∧ Q y H1) : We X (.Subscript e (.Constant (.int 0) ji pi) pos) σ H Q :=
  w_ix ix_list (We.mono h fun x H1 ⟨l, y, z, e, h, k⟩ => w_int ⟨l, _, 0, _, e, rfl, SqL.of h, rfl, k⟩)
theorem w_l1 (h : We X e σ H fun x H1 => ∃ l y z, x = .ref l ∧ H1 l = some (.lst [y, z]) ∧ Q z H1) : We X (.Subscript e (.Constant (.int 1) ji pi) pos) σ H Q :=
  w_ix ix_list (We.mono h fun x H1 ⟨l, y, z, e, h, k⟩ => w_int ⟨l, _, 1, _, e, rfl, SqL.of h, rfl, k⟩)
end
end LW
namespace LW
open PySem PySem.Spec PyProof.Rows L2 PR
/-- the names of the errors, as they are defined -/
def En : List Str := ["ByZero", "BadNumber", "BadText", "BadSystem", "BadName", "BadAmount", "BadInlet", "BadStream", "BadWish", "BadDays", "BadTable", "BadSight", "BadDeed", "NoAccount", "NoStream", "InUse", "TooMuch", "Clash", "BadLine", "NothingToUndo", "NothingToRedo", "UnlikeBooks"]
/-- the same, as the law asks for them -/
def Eo : List Str := ["BadNumber", "BadName", "BadAmount", "BadInlet", "BadStream", "BadWish", "BadDays", "NoAccount", "NoStream", "InUse", "TooMuch", "BadSight", "BadDeed", "ByZero", "BadText", "BadSystem", "BadTable", "Clash", "UnlikeBooks", "NothingToUndo", "NothingToRedo", "BadLine"]
theorem eo_one : ∀ D ∈ En, (Eo.filter fun y => decide (D = y)).length = 1 := by decide +kernel
def fb (D y : Str) : V := .bl (decide (D = y))
section
variable {X : Cx} {σ : L2.St} {H : Hp} {Q : VK} {p p1 p2 pos : Pos} {x y : Str}
/-- isinstance(e, Y), e an error of the name D -/
theorem w_isx {D : Str} {a : Addr} {fs : List (Str × V)} (i : Nat) (T : Tx X.K X.mg) (hm : X.mg y = some (.ref (He.ga X.K y))) (hD : D ∈ En) (hy : y ∈ En) (hv : σ[i]? = some (some (.ref a))) (he : ExV H a (He.ga X.K D) fs) (q : Q (.bl (decide (D = y))) H)
    (hg : Gl X "isinstance" := by rfl) (hg2 : Gl X y := by rfl) (hd2 : (y == ("__debug__" : Str)) = false := by decide) (hN : X.N[i]? = some x := by rfl) (hvis : Vis X.env.scope x := by first | exact Or.inl rfl | exact Or.inr (Or.inl rfl) | exact Or.inr (Or.inr rfl)) (hd : (x == ("__debug__" : Str)) = false := by decide) (hcd : (x == ("__classdict__" : Str)) = false := by decide)
    (s1 : starEach [.Name x p1, .Name y p2] X.env = (false, eval (.Name x p1) X.env) :: starEach [.Name y p2] X.env := by rfl) (s2 : starEach [.Name y p2] X.env = (false, eval (.Name y p2) X.env) :: starEach [] X.env := by rfl) (hpl : (backTo pos (starEach [.Name y p2] X.env)).any (·.1) = false := by rfl) :
    We X (.Call (.Name "isinstance" p) [.Name x p1, .Name y p2] [] pos) σ H Q :=
  w_callB call_isX T.b_isinstance (by decide +kernel) (a_cons (w_var i hv (a_cons (w_ref hm (a_nil ⟨a, _, fs, .ref (He.ga X.K y), .ref (He.ga X.K y), _, rfl, T.exc_all D hD, he, fun u r => r, T.exc_tab D hD y hy, q⟩) hg2 hd2) s2) hN hvis hd hcd) s1) hg (by decide) (by decide) s1 hpl
end
section
variable {P : Program} {w : World} {K : PySem.W.Frag} {mg : Str → Option Value} {base : Heap}
/-! ### same -/
def spSame (K : PySem.W.Frag) : Sp := fun vs H Q _ => ∃ (v : V) (d : PyData) (t : String) (b : Bool), vs = [v, v] ∧ Sw K H v d ∧ d.showable = true ∧ d.shown.length ≤ sizeLine ∧ d.depth ≤ 64 ∧ TyX K H v (.type t) ∧ PySem.W.kitOne K (.type t) (.type "bool") = some b ∧ Q (.bl true) H
theorem sc_same : FnScope ["_law_one", "_law_other"] ["_law_one", "_law_other"] (defScope s__law_same) := ⟨rfl, rfl, rfl, by decide +kernel, rfl, by decide +kernel, by decide +kernel⟩
theorem fn_same (T : Tx K mg) : FnG P w K mg base (L2.CX P w) 1 (He.ga K "_law_same") (spSame K) := by
  refine fng T.f__law_same sc_same (fun vs H Q E h => ?_) (fun _ _ _ _ _ _ us hl => match us, hl with | [_, _], _ => rfl) fun cdv A outer s H vs Q E hgd hr h => ?_
  · obtain ⟨v, d, t, b, rfl, _⟩ := h
    rfl
  obtain ⟨v, d, t, b, rfl, hs, h1, h2, h3, ty, hk, q⟩ := h
  have hu : (A.deeper (envOfC "_law_same" (defScope s__law_same) s.heap.objs.size (He.ga K "_law_same") cdv)).units + 80 < cLine := by have := hr.un; omega
  refine s_one <| s_ret <| w_and <| w_cmp op_eq <| w_callB (call_repr hgd hu) T.b_repr (by decide +kernel) <| a_cons <| w_var 0 rfl <| a_nil ⟨v, d, rfl, hs, h1, h2, h3, w_callB (call_repr hgd hu) T.b_repr (by decide +kernel) <| a_cons <| w_var 1 rfl <| a_nil ⟨v, d, rfl, hs, h1, h2, h3, rfl, _, rfl, ifT (decide_eq_true rfl) (w_one ?_)⟩⟩
  refine w_cmp op_eq <| w_callB call_isi T.b_isinstance (by decide +kernel) <| a_cons <| w_var 0 rfl <| a_cons <| w_bltn (v := .ty "bool") T.b_bool (by decide +kernel) rfl <| a_nil ⟨v, .ty "bool", _, .type "bool", b, rfl, .ty _, ty, hk, ?_⟩
  refine w_callB call_isi T.b_isinstance (by decide +kernel) <| a_cons <| w_var 1 rfl <| a_cons <| w_bltn (v := .ty "bool") T.b_bool (by decide +kernel) rfl <| a_nil ⟨v, .ty "bool", _, .type "bool", b, rfl, .ty _, ty, hk, rfl, ?_⟩
  rw [decide_eq_true rfl]
  exact q
/-! ### kinds -/
def spKinds (K : PySem.W.Frag) : Sp := fun vs H Q _ => ∃ (a : Addr) (D : Str) (fs : List (Str × V)), vs = [.ref a] ∧ D ∈ En ∧ ExV H a (He.ga K D) fs ∧ ∀ H', Same H H' → Q (.int 1) H'
theorem sc_kinds : FnScope ["_law_e", "_law_found", "_law_bit"] ["_law_e"] (defScope s__law_kinds) := ⟨rfl, rfl, rfl, by decide +kernel, rfl, by decide +kernel, by decide +kernel⟩
/-- found = found + [..] of three -/
theorem fn_kinds (T : Tx K mg) : FnR P w K mg base (L2.CX P w) 1 (He.ga K "_law_kinds") (spKinds K) := by
  refine fnr T.f__law_kinds sc_kinds (fun vs H Q E h => ?_) (fun _ _ _ _ _ _ us hl => match us, hl with | [_], _ => rfl) fun cdv A outer s H vs Q E hr h => ?_
  · obtain ⟨a, D, fs, rfl, _⟩ := h
    rfl
  obtain ⟨a, D, fs, rfl, hD, he, k⟩ := h
  have nd := sc_kinds.nd
  refine s_cons <| s_set 1 nd <| w_lst <| a_cons <| w_isx 0 T T.g_BadNumber hD (by decide +kernel) rfl he <| a_cons <| w_isx 0 T T.g_BadName hD (by decide +kernel) rfl he <| a_cons <| w_isx 0 T T.g_BadAmount hD (by decide +kernel) rfl he <| a_nil ⟨by show 3 ≤ sizeLine; decide, fun l1 h1 => ?_⟩
  have e1 : upd H l1 (.lst [fb D "BadNumber", fb D "BadName", fb D "BadAmount"]) l1 = some (.lst ((["BadNumber", "BadName", "BadAmount"] : List Str).map (fb D))) := upd_same
  have s1 : Same H (upd H l1 (.lst [fb D "BadNumber", fb D "BadName", fb D "BadAmount"])) := same_new h1
  change Wb _ _ _ _ (upd H l1 (.lst [fb D "BadNumber", fb D "BadName", fb D "BadAmount"]))
  generalize upd H l1 (.lst [fb D "BadNumber", fb D "BadName", fb D "BadAmount"]) = G1 at e1 s1 ⊢
  refine s_cons <| s_set 1 nd <| w_op op_cat <| w_var 1 rfl <| w_lst <| a_cons <| w_isx 0 T T.g_BadInlet hD (by decide +kernel) rfl (he.same s1) <| a_cons <| w_isx 0 T T.g_BadStream hD (by decide +kernel) rfl (he.same s1) <| a_cons <| w_isx 0 T T.g_BadWish hD (by decide +kernel) rfl (he.same s1) <| a_nil ⟨by show 3 ≤ sizeLine; decide, fun m1 g1 => ⟨l1, m1, _, _, rfl, rfl, same_new g1 _ _ e1, upd_same, by show 3 + 3 ≤ sizeLine; decide, fun l2 h2 => ?_⟩⟩
  have e2 : upd (upd G1 m1 (.lst [fb D "BadInlet", fb D "BadStream", fb D "BadWish"])) l2 (.lst ((["BadNumber", "BadName", "BadAmount"] : List Str).map (fb D) ++ [fb D "BadInlet", fb D "BadStream", fb D "BadWish"])) l2 = some (.lst ((["BadNumber", "BadName", "BadAmount", "BadInlet", "BadStream", "BadWish"] : List Str).map (fb D))) := upd_same
  have s2 : Same H (upd (upd G1 m1 (.lst [fb D "BadInlet", fb D "BadStream", fb D "BadWish"])) l2 (.lst ((["BadNumber", "BadName", "BadAmount"] : List Str).map (fb D) ++ [fb D "BadInlet", fb D "BadStream", fb D "BadWish"]))) := s1.trans ((same_new g1).trans (same_new h2))
  change Wb _ _ _ _ (upd (upd G1 m1 (.lst [fb D "BadInlet", fb D "BadStream", fb D "BadWish"])) l2 (.lst ((["BadNumber", "BadName", "BadAmount"] : List Str).map (fb D) ++ [fb D "BadInlet", fb D "BadStream", fb D "BadWish"])))
  generalize upd (upd G1 m1 (.lst [fb D "BadInlet", fb D "BadStream", fb D "BadWish"])) l2 (.lst ((["BadNumber", "BadName", "BadAmount"] : List Str).map (fb D) ++ [fb D "BadInlet", fb D "BadStream", fb D "BadWish"])) = G2 at e2 s2 ⊢
  refine s_cons <| s_set 1 nd <| w_op op_cat <| w_var 1 rfl <| w_lst <| a_cons <| w_isx 0 T T.g_BadDays hD (by decide +kernel) rfl (he.same s2) <| a_cons <| w_isx 0 T T.g_NoAccount hD (by decide +kernel) rfl (he.same s2) <| a_cons <| w_isx 0 T T.g_NoStream hD (by decide +kernel) rfl (he.same s2) <| a_nil ⟨by show 3 ≤ sizeLine; decide, fun m2 g2 => ⟨l2, m2, _, _, rfl, rfl, same_new g2 _ _ e2, upd_same, by show 6 + 3 ≤ sizeLine; decide, fun l3 h3 => ?_⟩⟩
  have e3 : upd (upd G2 m2 (.lst [fb D "BadDays", fb D "NoAccount", fb D "NoStream"])) l3 (.lst ((["BadNumber", "BadName", "BadAmount", "BadInlet", "BadStream", "BadWish"] : List Str).map (fb D) ++ [fb D "BadDays", fb D "NoAccount", fb D "NoStream"])) l3 = some (.lst ((["BadNumber", "BadName", "BadAmount", "BadInlet", "BadStream", "BadWish", "BadDays", "NoAccount", "NoStream"] : List Str).map (fb D))) := upd_same
  have s3 : Same H (upd (upd G2 m2 (.lst [fb D "BadDays", fb D "NoAccount", fb D "NoStream"])) l3 (.lst ((["BadNumber", "BadName", "BadAmount", "BadInlet", "BadStream", "BadWish"] : List Str).map (fb D) ++ [fb D "BadDays", fb D "NoAccount", fb D "NoStream"]))) := s2.trans ((same_new g2).trans (same_new h3))
  change Wb _ _ _ _ (upd (upd G2 m2 (.lst [fb D "BadDays", fb D "NoAccount", fb D "NoStream"])) l3 (.lst ((["BadNumber", "BadName", "BadAmount", "BadInlet", "BadStream", "BadWish"] : List Str).map (fb D) ++ [fb D "BadDays", fb D "NoAccount", fb D "NoStream"])))
  generalize upd (upd G2 m2 (.lst [fb D "BadDays", fb D "NoAccount", fb D "NoStream"])) l3 (.lst ((["BadNumber", "BadName", "BadAmount", "BadInlet", "BadStream", "BadWish"] : List Str).map (fb D) ++ [fb D "BadDays", fb D "NoAccount", fb D "NoStream"])) = G3 at e3 s3 ⊢
  refine s_cons <| s_set 1 nd <| w_op op_cat <| w_var 1 rfl <| w_lst <| a_cons <| w_isx 0 T T.g_InUse hD (by decide +kernel) rfl (he.same s3) <| a_cons <| w_isx 0 T T.g_TooMuch hD (by decide +kernel) rfl (he.same s3) <| a_cons <| w_isx 0 T T.g_BadSight hD (by decide +kernel) rfl (he.same s3) <| a_nil ⟨by show 3 ≤ sizeLine; decide, fun m3 g3 => ⟨l3, m3, _, _, rfl, rfl, same_new g3 _ _ e3, upd_same, by show 9 + 3 ≤ sizeLine; decide, fun l4 h4 => ?_⟩⟩
  have e4 : upd (upd G3 m3 (.lst [fb D "InUse", fb D "TooMuch", fb D "BadSight"])) l4 (.lst ((["BadNumber", "BadName", "BadAmount", "BadInlet", "BadStream", "BadWish", "BadDays", "NoAccount", "NoStream"] : List Str).map (fb D) ++ [fb D "InUse", fb D "TooMuch", fb D "BadSight"])) l4 = some (.lst ((["BadNumber", "BadName", "BadAmount", "BadInlet", "BadStream", "BadWish", "BadDays", "NoAccount", "NoStream", "InUse", "TooMuch", "BadSight"] : List Str).map (fb D))) := upd_same
  have s4 : Same H (upd (upd G3 m3 (.lst [fb D "InUse", fb D "TooMuch", fb D "BadSight"])) l4 (.lst ((["BadNumber", "BadName", "BadAmount", "BadInlet", "BadStream", "BadWish", "BadDays", "NoAccount", "NoStream"] : List Str).map (fb D) ++ [fb D "InUse", fb D "TooMuch", fb D "BadSight"]))) := s3.trans ((same_new g3).trans (same_new h4))
  change Wb _ _ _ _ (upd (upd G3 m3 (.lst [fb D "InUse", fb D "TooMuch", fb D "BadSight"])) l4 (.lst ((["BadNumber", "BadName", "BadAmount", "BadInlet", "BadStream", "BadWish", "BadDays", "NoAccount", "NoStream"] : List Str).map (fb D) ++ [fb D "InUse", fb D "TooMuch", fb D "BadSight"])))
  generalize upd (upd G3 m3 (.lst [fb D "InUse", fb D "TooMuch", fb D "BadSight"])) l4 (.lst ((["BadNumber", "BadName", "BadAmount", "BadInlet", "BadStream", "BadWish", "BadDays", "NoAccount", "NoStream"] : List Str).map (fb D) ++ [fb D "InUse", fb D "TooMuch", fb D "BadSight"])) = G4 at e4 s4 ⊢
  refine s_cons <| s_set 1 nd <| w_op op_cat <| w_var 1 rfl <| w_lst <| a_cons <| w_isx 0 T T.g_BadDeed hD (by decide +kernel) rfl (he.same s4) <| a_cons <| w_isx 0 T T.g_ByZero hD (by decide +kernel) rfl (he.same s4) <| a_cons <| w_isx 0 T T.g_BadText hD (by decide +kernel) rfl (he.same s4) <| a_nil ⟨by show 3 ≤ sizeLine; decide, fun m4 g4 => ⟨l4, m4, _, _, rfl, rfl, same_new g4 _ _ e4, upd_same, by show 12 + 3 ≤ sizeLine; decide, fun l5 h5 => ?_⟩⟩
  have e5 : upd (upd G4 m4 (.lst [fb D "BadDeed", fb D "ByZero", fb D "BadText"])) l5 (.lst ((["BadNumber", "BadName", "BadAmount", "BadInlet", "BadStream", "BadWish", "BadDays", "NoAccount", "NoStream", "InUse", "TooMuch", "BadSight"] : List Str).map (fb D) ++ [fb D "BadDeed", fb D "ByZero", fb D "BadText"])) l5 = some (.lst ((["BadNumber", "BadName", "BadAmount", "BadInlet", "BadStream", "BadWish", "BadDays", "NoAccount", "NoStream", "InUse", "TooMuch", "BadSight", "BadDeed", "ByZero", "BadText"] : List Str).map (fb D))) := upd_same
  have s5 : Same H (upd (upd G4 m4 (.lst [fb D "BadDeed", fb D "ByZero", fb D "BadText"])) l5 (.lst ((["BadNumber", "BadName", "BadAmount", "BadInlet", "BadStream", "BadWish", "BadDays", "NoAccount", "NoStream", "InUse", "TooMuch", "BadSight"] : List Str).map (fb D) ++ [fb D "BadDeed", fb D "ByZero", fb D "BadText"]))) := s4.trans ((same_new g4).trans (same_new h5))
  change Wb _ _ _ _ (upd (upd G4 m4 (.lst [fb D "BadDeed", fb D "ByZero", fb D "BadText"])) l5 (.lst ((["BadNumber", "BadName", "BadAmount", "BadInlet", "BadStream", "BadWish", "BadDays", "NoAccount", "NoStream", "InUse", "TooMuch", "BadSight"] : List Str).map (fb D) ++ [fb D "BadDeed", fb D "ByZero", fb D "BadText"])))
  generalize upd (upd G4 m4 (.lst [fb D "BadDeed", fb D "ByZero", fb D "BadText"])) l5 (.lst ((["BadNumber", "BadName", "BadAmount", "BadInlet", "BadStream", "BadWish", "BadDays", "NoAccount", "NoStream", "InUse", "TooMuch", "BadSight"] : List Str).map (fb D) ++ [fb D "BadDeed", fb D "ByZero", fb D "BadText"])) = G5 at e5 s5 ⊢
  refine s_cons <| s_set 1 nd <| w_op op_cat <| w_var 1 rfl <| w_lst <| a_cons <| w_isx 0 T T.g_BadSystem hD (by decide +kernel) rfl (he.same s5) <| a_cons <| w_isx 0 T T.g_BadTable hD (by decide +kernel) rfl (he.same s5) <| a_cons <| w_isx 0 T T.g_Clash hD (by decide +kernel) rfl (he.same s5) <| a_nil ⟨by show 3 ≤ sizeLine; decide, fun m5 g5 => ⟨l5, m5, _, _, rfl, rfl, same_new g5 _ _ e5, upd_same, by show 15 + 3 ≤ sizeLine; decide, fun l6 h6 => ?_⟩⟩
  have e6 : upd (upd G5 m5 (.lst [fb D "BadSystem", fb D "BadTable", fb D "Clash"])) l6 (.lst ((["BadNumber", "BadName", "BadAmount", "BadInlet", "BadStream", "BadWish", "BadDays", "NoAccount", "NoStream", "InUse", "TooMuch", "BadSight", "BadDeed", "ByZero", "BadText"] : List Str).map (fb D) ++ [fb D "BadSystem", fb D "BadTable", fb D "Clash"])) l6 = some (.lst ((["BadNumber", "BadName", "BadAmount", "BadInlet", "BadStream", "BadWish", "BadDays", "NoAccount", "NoStream", "InUse", "TooMuch", "BadSight", "BadDeed", "ByZero", "BadText", "BadSystem", "BadTable", "Clash"] : List Str).map (fb D))) := upd_same
  have s6 : Same H (upd (upd G5 m5 (.lst [fb D "BadSystem", fb D "BadTable", fb D "Clash"])) l6 (.lst ((["BadNumber", "BadName", "BadAmount", "BadInlet", "BadStream", "BadWish", "BadDays", "NoAccount", "NoStream", "InUse", "TooMuch", "BadSight", "BadDeed", "ByZero", "BadText"] : List Str).map (fb D) ++ [fb D "BadSystem", fb D "BadTable", fb D "Clash"]))) := s5.trans ((same_new g5).trans (same_new h6))
  change Wb _ _ _ _ (upd (upd G5 m5 (.lst [fb D "BadSystem", fb D "BadTable", fb D "Clash"])) l6 (.lst ((["BadNumber", "BadName", "BadAmount", "BadInlet", "BadStream", "BadWish", "BadDays", "NoAccount", "NoStream", "InUse", "TooMuch", "BadSight", "BadDeed", "ByZero", "BadText"] : List Str).map (fb D) ++ [fb D "BadSystem", fb D "BadTable", fb D "Clash"])))
  generalize upd (upd G5 m5 (.lst [fb D "BadSystem", fb D "BadTable", fb D "Clash"])) l6 (.lst ((["BadNumber", "BadName", "BadAmount", "BadInlet", "BadStream", "BadWish", "BadDays", "NoAccount", "NoStream", "InUse", "TooMuch", "BadSight", "BadDeed", "ByZero", "BadText"] : List Str).map (fb D) ++ [fb D "BadSystem", fb D "BadTable", fb D "Clash"])) = G6 at e6 s6 ⊢
  refine s_cons <| s_set 1 nd <| w_op op_cat <| w_var 1 rfl <| w_lst <| a_cons <| w_isx 0 T T.g_UnlikeBooks hD (by decide +kernel) rfl (he.same s6) <| a_cons <| w_isx 0 T T.g_NothingToUndo hD (by decide +kernel) rfl (he.same s6) <| a_cons <| w_isx 0 T T.g_NothingToRedo hD (by decide +kernel) rfl (he.same s6) <| a_nil ⟨by show 3 ≤ sizeLine; decide, fun m6 g6 => ⟨l6, m6, _, _, rfl, rfl, same_new g6 _ _ e6, upd_same, by show 18 + 3 ≤ sizeLine; decide, fun l7 h7 => ?_⟩⟩
  have e7 : upd (upd G6 m6 (.lst [fb D "UnlikeBooks", fb D "NothingToUndo", fb D "NothingToRedo"])) l7 (.lst ((["BadNumber", "BadName", "BadAmount", "BadInlet", "BadStream", "BadWish", "BadDays", "NoAccount", "NoStream", "InUse", "TooMuch", "BadSight", "BadDeed", "ByZero", "BadText", "BadSystem", "BadTable", "Clash"] : List Str).map (fb D) ++ [fb D "UnlikeBooks", fb D "NothingToUndo", fb D "NothingToRedo"])) l7 = some (.lst ((["BadNumber", "BadName", "BadAmount", "BadInlet", "BadStream", "BadWish", "BadDays", "NoAccount", "NoStream", "InUse", "TooMuch", "BadSight", "BadDeed", "ByZero", "BadText", "BadSystem", "BadTable", "Clash", "UnlikeBooks", "NothingToUndo", "NothingToRedo"] : List Str).map (fb D))) := upd_same
  have s7 : Same H (upd (upd G6 m6 (.lst [fb D "UnlikeBooks", fb D "NothingToUndo", fb D "NothingToRedo"])) l7 (.lst ((["BadNumber", "BadName", "BadAmount", "BadInlet", "BadStream", "BadWish", "BadDays", "NoAccount", "NoStream", "InUse", "TooMuch", "BadSight", "BadDeed", "ByZero", "BadText", "BadSystem", "BadTable", "Clash"] : List Str).map (fb D) ++ [fb D "UnlikeBooks", fb D "NothingToUndo", fb D "NothingToRedo"]))) := s6.trans ((same_new g6).trans (same_new h7))
  change Wb _ _ _ _ (upd (upd G6 m6 (.lst [fb D "UnlikeBooks", fb D "NothingToUndo", fb D "NothingToRedo"])) l7 (.lst ((["BadNumber", "BadName", "BadAmount", "BadInlet", "BadStream", "BadWish", "BadDays", "NoAccount", "NoStream", "InUse", "TooMuch", "BadSight", "BadDeed", "ByZero", "BadText", "BadSystem", "BadTable", "Clash"] : List Str).map (fb D) ++ [fb D "UnlikeBooks", fb D "NothingToUndo", fb D "NothingToRedo"])))
  generalize upd (upd G6 m6 (.lst [fb D "UnlikeBooks", fb D "NothingToUndo", fb D "NothingToRedo"])) l7 (.lst ((["BadNumber", "BadName", "BadAmount", "BadInlet", "BadStream", "BadWish", "BadDays", "NoAccount", "NoStream", "InUse", "TooMuch", "BadSight", "BadDeed", "ByZero", "BadText", "BadSystem", "BadTable", "Clash"] : List Str).map (fb D) ++ [fb D "UnlikeBooks", fb D "NothingToUndo", fb D "NothingToRedo"])) = G7 at e7 s7 ⊢
  refine s_cons <| s_set 1 nd <| w_op op_cat <| w_var 1 rfl <| w_lst <| a_cons <| w_isx 0 T T.g_BadLine hD (by decide +kernel) rfl (he.same s7) <| a_nil ⟨by show 1 ≤ sizeLine; decide, fun m7 g7 => ⟨l7, m7, _, _, rfl, rfl, same_new g7 _ _ e7, upd_same, by show 21 + 1 ≤ sizeLine; decide, fun l8 h8 => ?_⟩⟩
  have e8 : upd (upd G7 m7 (.lst [fb D "BadLine"])) l8 (.lst ((["BadNumber", "BadName", "BadAmount", "BadInlet", "BadStream", "BadWish", "BadDays", "NoAccount", "NoStream", "InUse", "TooMuch", "BadSight", "BadDeed", "ByZero", "BadText", "BadSystem", "BadTable", "Clash", "UnlikeBooks", "NothingToUndo", "NothingToRedo"] : List Str).map (fb D) ++ [fb D "BadLine"])) l8 = some (.lst ((["BadNumber", "BadName", "BadAmount", "BadInlet", "BadStream", "BadWish", "BadDays", "NoAccount", "NoStream", "InUse", "TooMuch", "BadSight", "BadDeed", "ByZero", "BadText", "BadSystem", "BadTable", "Clash", "UnlikeBooks", "NothingToUndo", "NothingToRedo", "BadLine"] : List Str).map (fb D))) := upd_same
  have s8 : Same H (upd (upd G7 m7 (.lst [fb D "BadLine"])) l8 (.lst ((["BadNumber", "BadName", "BadAmount", "BadInlet", "BadStream", "BadWish", "BadDays", "NoAccount", "NoStream", "InUse", "TooMuch", "BadSight", "BadDeed", "ByZero", "BadText", "BadSystem", "BadTable", "Clash", "UnlikeBooks", "NothingToUndo", "NothingToRedo"] : List Str).map (fb D) ++ [fb D "BadLine"]))) := s7.trans ((same_new g7).trans (same_new h8))
  change Wb _ _ _ _ (upd (upd G7 m7 (.lst [fb D "BadLine"])) l8 (.lst ((["BadNumber", "BadName", "BadAmount", "BadInlet", "BadStream", "BadWish", "BadDays", "NoAccount", "NoStream", "InUse", "TooMuch", "BadSight", "BadDeed", "ByZero", "BadText", "BadSystem", "BadTable", "Clash", "UnlikeBooks", "NothingToUndo", "NothingToRedo"] : List Str).map (fb D) ++ [fb D "BadLine"])))
  generalize upd (upd G7 m7 (.lst [fb D "BadLine"])) l8 (.lst ((["BadNumber", "BadName", "BadAmount", "BadInlet", "BadStream", "BadWish", "BadDays", "NoAccount", "NoStream", "InUse", "TooMuch", "BadSight", "BadDeed", "ByZero", "BadText", "BadSystem", "BadTable", "Clash", "UnlikeBooks", "NothingToUndo", "NothingToRedo"] : List Str).map (fb D) ++ [fb D "BadLine"])) = G8 at e8 s8 ⊢
  change G8 l8 = some (.lst (Eo.map (fb D))) at e8
  refine s_one <| s_ret <| w_callB call_len T.b_len (by decide +kernel) <| a_cons <| w_lcl 2 nd <| w_var 1 rfl ⟨l8, _, rfl, SqL.of e8, fun L hL => ⟨fun i H' => Same G8 H' ∧ H' L = some (.lst (((Eo.take i).filter fun y => decide (D = y)).map (fb D))), ⟨same_new hL, upd_same⟩, fun i H' _ z => SqL.of (z.1 _ _ e8), fun i y H' hy z => ?_, fun H' z => ?_⟩⟩
  · obtain ⟨z1, z2⟩ := z
    rw [List.getElem?_map] at hy
    cases hw : Eo[i]? with
    | none => rw [hw] at hy; cases hy
    | some nm =>
      rw [hw] at hy
      cases hy
      refine fun s0 H0 C cl fp => i_one (t_val (w_var 2 rfl ⟨_, rfl, ?_⟩))
      by_cases hd : D = nm
      · refine ifT (decide_eq_true hd) fun s0 H0 C cl fp => w_var 2 rfl ⟨_, z2, ?_, ?_, ?_⟩
        · rw [List.length_map]
          have h1 : ((Eo.take i).filter fun y => decide (D = y)).length ≤ (Eo.take i).length := List.length_filter_le _ _
          rw [List.length_take] at h1
          have h2 : Eo.length = 22 := rfl
          rw [sizeLine_eq]
          omega
        · intro b o e
          rw [upd_ne (ne_of_none e hL)]
          exact z1 b o e
        · rw [upd_same, take_snoc hw, List.filter_append]
          simp [hd]
      · refine ifF (decide_eq_false hd) ⟨z1, ?_⟩
        rw [z2, take_snoc hw, List.filter_append]
        simp [hd]
  · obtain ⟨z1, z2⟩ := z
    have e2 : Eo.take (Eo.map (fb D)).length = Eo := by rw [List.length_map]; exact List.take_length
    rw [e2] at z2
    refine a_nil ⟨_, 1, rfl, .inl ⟨_, SqL.of z2, ?_⟩, k _ (s8.trans z1)⟩
    rw [List.length_map]
    exact (eo_one D hD).symm
end
end LW
namespace LW
open PySem PySem.Spec PyProof.Rows L2 PR
/-- an error of one of the names -/
def Er (K : PySem.W.Frag) (H : Hp) (v : V) : Prop := ∃ (a : Addr) (D : Str) (fs : List (Str × V)), v = .ref a ∧ D ∈ En ∧ ExV H a (He.ga K D) fs
theorem Er.same {K : PySem.W.Frag} {H H' : Hp} {v : V} (h : Er K H v) (s : Same H H') : Er K H' v := by
  obtain ⟨a, D, fs, e, hD, he⟩ := h
  exact ⟨a, D, fs, e, hD, he.same s⟩
def Ers (K : PySem.W.Frag) (H : Hp) (vs : List V) : Prop := ∀ v ∈ vs, Er K H v
theorem Ers.nil {K : PySem.W.Frag} {H : Hp} : Ers K H [] := fun _ h => absurd h List.not_mem_nil
theorem Ers.cons {K : PySem.W.Frag} {H : Hp} {v : V} {vs : List V} (h : Er K H v) (t : Ers K H vs) : Ers K H (v :: vs) := fun u hu => by
  rcases List.mem_cons.mp hu with rfl | hu
  · exact h
  · exact t u hu
theorem Ers.same {K : PySem.W.Frag} {H H' : Hp} {vs : List V} (h : Ers K H vs) (s : Same H H') : Ers K H' vs := fun v hv => (h v hv).same s
theorem Ers.app {K : PySem.W.Frag} {H : Hp} {vs us : List V} (h : Ers K H vs) (t : Ers K H us) : Ers K H (vs ++ us) := fun u hu => by
  rcases List.mem_append.mp hu with hu | hu
  · exact h u hu
  · exact t u hu
section
variable {P : Program} {w : World} {K : PySem.W.Frag} {mg : Str → Option Value} {base : Heap}
def spBases (K : PySem.W.Frag) : Sp := fun vs H Q _ => vs = [] ∧ ∀ H', Same H H' → Q (.bl true) H'
theorem sc_bases : FnScope ["_law_made", "_law_bad", "_law_e"] [] (defScope s__law_bases) := ⟨rfl, rfl, rfl, by decide +kernel, rfl, by decide +kernel, by decide +kernel⟩
theorem fn_bases (T : Tx K mg) : FnR P w K mg base (L2.CX P w) 3 (He.ga K "_law_bases") (spBases K) := by
  refine fnr T.f__law_bases sc_bases (fun vs H Q E h => ?_) (fun _ _ _ _ _ _ us hl => match us, hl with | [], _ => rfl) fun cdv A outer s H vs Q E hr h => ?_
  · rw [h.1]
    rfl
  obtain ⟨rfl, k⟩ := h
  have nd := sc_bases.nd
  have hr1 := hr.mono (show 1 ≤ 2 by decide)
  refine s_cons <| s_set 0 nd <| w_lst <| a_cons <| wx_BadNumber T hr <| w_str fun a1 K1 t1 r1 => a_cons <| wx_BadName T hr <| w_str fun a2 K2 t2 r2 => a_cons <| wx_BadAmount T hr <| w_str fun a3 K3 t3 r3 => a_cons <| wx_BadInlet T hr <| w_str fun a4 K4 t4 r4 => a_cons <| wx_BadStream T hr <| w_str fun a5 K5 t5 r5 => a_cons <| wx_BadWish T hr <| w_str fun a6 K6 t6 r6 => a_nil ⟨by show 6 ≤ sizeLine; decide, fun m0 g0 => ?_⟩
  have n0' : Ers K K6 [.ref a1, .ref a2, .ref a3, .ref a4, .ref a5, .ref a6] := .cons ⟨_, "BadNumber", _, rfl, by decide +kernel, r1.same (t2.trans (t3.trans (t4.trans (t5.trans (t6)))))⟩ (.cons ⟨_, "BadName", _, rfl, by decide +kernel, r2.same (t3.trans (t4.trans (t5.trans (t6))))⟩ (.cons ⟨_, "BadAmount", _, rfl, by decide +kernel, r3.same (t4.trans (t5.trans (t6)))⟩ (.cons ⟨_, "BadInlet", _, rfl, by decide +kernel, r4.same (t5.trans (t6))⟩ (.cons ⟨_, "BadStream", _, rfl, by decide +kernel, r5.same (t6)⟩ (.cons ⟨_, "BadWish", _, rfl, by decide +kernel, r6.same (Same.refl _)⟩ (Ers.nil))))))
  have s0 : Same H (upd K6 m0 (.lst [.ref a1, .ref a2, .ref a3, .ref a4, .ref a5, .ref a6])) := (t1.trans (t2.trans (t3.trans (t4.trans (t5.trans (t6)))))).trans (same_new g0)
  have e0 : upd K6 m0 (.lst [.ref a1, .ref a2, .ref a3, .ref a4, .ref a5, .ref a6]) m0 = some (.lst [.ref a1, .ref a2, .ref a3, .ref a4, .ref a5, .ref a6]) := upd_same
  have a0' : Ers K (upd K6 m0 (.lst [.ref a1, .ref a2, .ref a3, .ref a4, .ref a5, .ref a6])) [.ref a1, .ref a2, .ref a3, .ref a4, .ref a5, .ref a6] := n0'.same (same_new g0)
  have hl0 : ([.ref a1, .ref a2, .ref a3, .ref a4, .ref a5, .ref a6] : List V).length = 6 := rfl
  generalize upd K6 m0 (.lst [.ref a1, .ref a2, .ref a3, .ref a4, .ref a5, .ref a6]) = G0 at s0 e0 a0' ⊢
  generalize ([.ref a1, .ref a2, .ref a3, .ref a4, .ref a5, .ref a6] : List V) = x0 at e0 a0' hl0
  clear n0' t1 r1 t2 r2 t3 r3 t4 r4 t5 r5 t6 r6
  refine s_cons <| s_set 0 nd <| w_op op_cat <| w_var 0 rfl <| w_lst <| a_cons <| wx_BadDays T hr <| w_str fun a7 K7 t7 r7 => a_cons <| wx_NoAccount T hr <| w_str fun a8 K8 t8 r8 => a_cons <| wx_NoStream T hr <| w_str fun a9 K9 t9 r9 => a_cons <| wx_InUse T hr <| w_str fun a10 K10 t10 r10 => a_cons <| wx_TooMuch T hr <| w_str fun a11 K11 t11 r11 => a_cons <| wx_BadSight T hr <| w_str fun a12 K12 t12 r12 => a_nil ⟨by show 6 ≤ sizeLine; decide, fun n1 j1 => ⟨m0, n1, _, _, rfl, rfl, same_new j1 _ _ (t12 _ _ <| t11 _ _ <| t10 _ _ <| t9 _ _ <| t8 _ _ <| t7 _ _ e0), upd_same, by rw [hl0]; exact len_line (show 6 + 6 ≤ 1000 by decide), fun m1 g1 => ?_⟩⟩
  have n1' : Ers K K12 [.ref a7, .ref a8, .ref a9, .ref a10, .ref a11, .ref a12] := .cons ⟨_, "BadDays", _, rfl, by decide +kernel, r7.same (t8.trans (t9.trans (t10.trans (t11.trans (t12)))))⟩ (.cons ⟨_, "NoAccount", _, rfl, by decide +kernel, r8.same (t9.trans (t10.trans (t11.trans (t12))))⟩ (.cons ⟨_, "NoStream", _, rfl, by decide +kernel, r9.same (t10.trans (t11.trans (t12)))⟩ (.cons ⟨_, "InUse", _, rfl, by decide +kernel, r10.same (t11.trans (t12))⟩ (.cons ⟨_, "TooMuch", _, rfl, by decide +kernel, r11.same (t12)⟩ (.cons ⟨_, "BadSight", _, rfl, by decide +kernel, r12.same (Same.refl _)⟩ (Ers.nil))))))
  have q1 : Same K12 (upd (upd K12 n1 (.lst [.ref a7, .ref a8, .ref a9, .ref a10, .ref a11, .ref a12])) m1 (.lst (x0 ++ [.ref a7, .ref a8, .ref a9, .ref a10, .ref a11, .ref a12]))) := (same_new j1).trans (same_new g1)
  have s1 : Same H (upd (upd K12 n1 (.lst [.ref a7, .ref a8, .ref a9, .ref a10, .ref a11, .ref a12])) m1 (.lst (x0 ++ [.ref a7, .ref a8, .ref a9, .ref a10, .ref a11, .ref a12]))) := s0.trans ((t7.trans (t8.trans (t9.trans (t10.trans (t11.trans (t12)))))).trans q1)
  have e1 : upd (upd K12 n1 (.lst [.ref a7, .ref a8, .ref a9, .ref a10, .ref a11, .ref a12])) m1 (.lst (x0 ++ [.ref a7, .ref a8, .ref a9, .ref a10, .ref a11, .ref a12])) m1 = some (.lst (x0 ++ [.ref a7, .ref a8, .ref a9, .ref a10, .ref a11, .ref a12])) := upd_same
  have a1' : Ers K (upd (upd K12 n1 (.lst [.ref a7, .ref a8, .ref a9, .ref a10, .ref a11, .ref a12])) m1 (.lst (x0 ++ [.ref a7, .ref a8, .ref a9, .ref a10, .ref a11, .ref a12]))) (x0 ++ [.ref a7, .ref a8, .ref a9, .ref a10, .ref a11, .ref a12]) := (a0'.same ((t7.trans (t8.trans (t9.trans (t10.trans (t11.trans (t12)))))).trans q1)).app (n1'.same q1)
  have hl1 : (x0 ++ [.ref a7, .ref a8, .ref a9, .ref a10, .ref a11, .ref a12] : List V).length = 12 := by rw [List.length_append, hl0]; rfl
  generalize upd (upd K12 n1 (.lst [.ref a7, .ref a8, .ref a9, .ref a10, .ref a11, .ref a12])) m1 (.lst (x0 ++ [.ref a7, .ref a8, .ref a9, .ref a10, .ref a11, .ref a12])) = G1 at s1 e1 a1' ⊢
  generalize (x0 ++ [.ref a7, .ref a8, .ref a9, .ref a10, .ref a11, .ref a12] : List V) = x1 at e1 a1' hl1
  clear n1' q1 t7 r7 t8 r8 t9 r9 t10 r10 t11 r11 t12 r12
  refine s_cons <| s_set 0 nd <| w_op op_cat <| w_var 0 rfl <| w_lst <| a_cons <| wx_BadDeed T hr <| w_str fun a13 K13 t13 r13 => a_cons <| wx_ByZero T hr fun a14 K14 t14 r14 => a_cons <| wx_BadText T hr fun a15 K15 t15 r15 => a_cons <| wx_BadSystem T hr fun a16 K16 t16 r16 => a_cons <| wx_BadTable T hr fun a17 K17 t17 r17 => a_cons <| wx_Clash T hr fun a18 K18 t18 r18 => a_nil ⟨by show 6 ≤ sizeLine; decide, fun n2 j2 => ⟨m1, n2, _, _, rfl, rfl, same_new j2 _ _ (t18 _ _ <| t17 _ _ <| t16 _ _ <| t15 _ _ <| t14 _ _ <| t13 _ _ e1), upd_same, by rw [hl1]; exact len_line (show 12 + 6 ≤ 1000 by decide), fun m2 g2 => ?_⟩⟩
  have n2' : Ers K K18 [.ref a13, .ref a14, .ref a15, .ref a16, .ref a17, .ref a18] := .cons ⟨_, "BadDeed", _, rfl, by decide +kernel, r13.same (t14.trans (t15.trans (t16.trans (t17.trans (t18)))))⟩ (.cons ⟨_, "ByZero", _, rfl, by decide +kernel, r14.same (t15.trans (t16.trans (t17.trans (t18))))⟩ (.cons ⟨_, "BadText", _, rfl, by decide +kernel, r15.same (t16.trans (t17.trans (t18)))⟩ (.cons ⟨_, "BadSystem", _, rfl, by decide +kernel, r16.same (t17.trans (t18))⟩ (.cons ⟨_, "BadTable", _, rfl, by decide +kernel, r17.same (t18)⟩ (.cons ⟨_, "Clash", _, rfl, by decide +kernel, r18.same (Same.refl _)⟩ (Ers.nil))))))
  have q2 : Same K18 (upd (upd K18 n2 (.lst [.ref a13, .ref a14, .ref a15, .ref a16, .ref a17, .ref a18])) m2 (.lst (x1 ++ [.ref a13, .ref a14, .ref a15, .ref a16, .ref a17, .ref a18]))) := (same_new j2).trans (same_new g2)
  have s2 : Same H (upd (upd K18 n2 (.lst [.ref a13, .ref a14, .ref a15, .ref a16, .ref a17, .ref a18])) m2 (.lst (x1 ++ [.ref a13, .ref a14, .ref a15, .ref a16, .ref a17, .ref a18]))) := s1.trans ((t13.trans (t14.trans (t15.trans (t16.trans (t17.trans (t18)))))).trans q2)
  have e2 : upd (upd K18 n2 (.lst [.ref a13, .ref a14, .ref a15, .ref a16, .ref a17, .ref a18])) m2 (.lst (x1 ++ [.ref a13, .ref a14, .ref a15, .ref a16, .ref a17, .ref a18])) m2 = some (.lst (x1 ++ [.ref a13, .ref a14, .ref a15, .ref a16, .ref a17, .ref a18])) := upd_same
  have a2' : Ers K (upd (upd K18 n2 (.lst [.ref a13, .ref a14, .ref a15, .ref a16, .ref a17, .ref a18])) m2 (.lst (x1 ++ [.ref a13, .ref a14, .ref a15, .ref a16, .ref a17, .ref a18]))) (x1 ++ [.ref a13, .ref a14, .ref a15, .ref a16, .ref a17, .ref a18]) := (a1'.same ((t13.trans (t14.trans (t15.trans (t16.trans (t17.trans (t18)))))).trans q2)).app (n2'.same q2)
  have hl2 : (x1 ++ [.ref a13, .ref a14, .ref a15, .ref a16, .ref a17, .ref a18] : List V).length = 18 := by rw [List.length_append, hl1]; rfl
  generalize upd (upd K18 n2 (.lst [.ref a13, .ref a14, .ref a15, .ref a16, .ref a17, .ref a18])) m2 (.lst (x1 ++ [.ref a13, .ref a14, .ref a15, .ref a16, .ref a17, .ref a18])) = G2 at s2 e2 a2' ⊢
  generalize (x1 ++ [.ref a13, .ref a14, .ref a15, .ref a16, .ref a17, .ref a18] : List V) = x2 at e2 a2' hl2
  clear n2' q2 t13 r13 t14 r14 t15 r15 t16 r16 t17 r17 t18 r18
  refine s_cons <| s_set 0 nd <| w_op op_cat <| w_var 0 rfl <| w_lst <| a_cons <| wx_UnlikeBooks T hr fun a19 K19 t19 r19 => a_cons <| wx_NothingToUndo T hr fun a20 K20 t20 r20 => a_cons <| wx_NothingToRedo T hr fun a21 K21 t21 r21 => a_cons <| wx_BadLine T hr <| w_int fun a22 K22 t22 r22 => a_nil ⟨by show 4 ≤ sizeLine; decide, fun n3 j3 => ⟨m2, n3, _, _, rfl, rfl, same_new j3 _ _ (t22 _ _ <| t21 _ _ <| t20 _ _ <| t19 _ _ e2), upd_same, by rw [hl2]; exact len_line (show 18 + 4 ≤ 1000 by decide), fun m3 g3 => ?_⟩⟩
  have n3' : Ers K K22 [.ref a19, .ref a20, .ref a21, .ref a22] := .cons ⟨_, "UnlikeBooks", _, rfl, by decide +kernel, r19.same (t20.trans (t21.trans (t22)))⟩ (.cons ⟨_, "NothingToUndo", _, rfl, by decide +kernel, r20.same (t21.trans (t22))⟩ (.cons ⟨_, "NothingToRedo", _, rfl, by decide +kernel, r21.same (t22)⟩ (.cons ⟨_, "BadLine", _, rfl, by decide +kernel, r22.same (Same.refl _)⟩ (Ers.nil))))
  have q3 : Same K22 (upd (upd K22 n3 (.lst [.ref a19, .ref a20, .ref a21, .ref a22])) m3 (.lst (x2 ++ [.ref a19, .ref a20, .ref a21, .ref a22]))) := (same_new j3).trans (same_new g3)
  have s3 : Same H (upd (upd K22 n3 (.lst [.ref a19, .ref a20, .ref a21, .ref a22])) m3 (.lst (x2 ++ [.ref a19, .ref a20, .ref a21, .ref a22]))) := s2.trans ((t19.trans (t20.trans (t21.trans (t22)))).trans q3)
  have e3 : upd (upd K22 n3 (.lst [.ref a19, .ref a20, .ref a21, .ref a22])) m3 (.lst (x2 ++ [.ref a19, .ref a20, .ref a21, .ref a22])) m3 = some (.lst (x2 ++ [.ref a19, .ref a20, .ref a21, .ref a22])) := upd_same
  have a3' : Ers K (upd (upd K22 n3 (.lst [.ref a19, .ref a20, .ref a21, .ref a22])) m3 (.lst (x2 ++ [.ref a19, .ref a20, .ref a21, .ref a22]))) (x2 ++ [.ref a19, .ref a20, .ref a21, .ref a22]) := (a2'.same ((t19.trans (t20.trans (t21.trans (t22)))).trans q3)).app (n3'.same q3)
  have hl3 : (x2 ++ [.ref a19, .ref a20, .ref a21, .ref a22] : List V).length = 22 := by rw [List.length_append, hl2]; rfl
  generalize upd (upd K22 n3 (.lst [.ref a19, .ref a20, .ref a21, .ref a22])) m3 (.lst (x2 ++ [.ref a19, .ref a20, .ref a21, .ref a22])) = G3 at s3 e3 a3' ⊢
  generalize (x2 ++ [.ref a19, .ref a20, .ref a21, .ref a22] : List V) = x3 at e3 a3' hl3
  clear n3' q3 t19 r19 t20 r20 t21 r21 t22 r22
  refine s_cons <| s_lcl 1 2 nd <| w_var 0 rfl ⟨m3, x3, rfl, SqL.of e3, fun L hL => ⟨fun _ H' => Same G3 H' ∧ H' L = some (.lst []), ⟨same_new hL, upd_same⟩, fun i H' _ z => SqL.of (z.1 _ _ e3), fun i y H' hy z => ?_, fun H' z => ?_⟩⟩
  · obtain ⟨a, D, fs, rfl, hD, he⟩ := (a3' y (List.mem_of_getElem? hy)).same z.1
    refine fun s0 H0 C cl fp => i_one <| t_bool <| b_or <| t_not <| t_val <| w_callB call_isX T.b_isinstance (by decide +kernel) <| a_cons <| w_var 2 rfl <| a_cons <| w_ref T.g_StreamError <| a_nil ⟨a, _, fs, .ref (He.ga K "StreamError"), .ref (He.ga K "StreamError"), _, rfl, T.exc_all D hD, he, fun u r => r, T.exc_up D hD, _, rfl, ifF rfl ?_⟩
    exact b_or1 <| t_not <| t_val <| w_callB call_isX T.b_isinstance (by decide +kernel) <| a_cons <| w_var 2 rfl <| a_cons <| w_bltn (v := .ty "ValueError") T.b_ValueError (by decide +kernel) rfl <| a_nil ⟨a, _, fs, .ty "ValueError", .type "ValueError", _, rfl, T.exc_all D hD, he, fun u r => r, T.exc_upT D hD, _, rfl, ifF rfl z⟩
  obtain ⟨z1, z2⟩ := z
  refine s_one <| s_ret <| w_and <| w_cmp (op_eqD hr.units) <| w_var 1 rfl <| w_lst <| a_nil ⟨Nat.zero_le _, fun e he => ⟨_, _, .lst (SqL.of (same_new he _ _ z2)) .nil, .lst (SqL.of upd_same) .nil, rfl, rfl, _, rfl, ifT rfl (w_one ?_)⟩⟩
  have z3 := z1.trans (same_new (o := .lst []) he)
  refine w_cmp (op_eqD hr.units) <| w_lcl 2 nd <| w_var 0 rfl ⟨m3, x3, rfl, SqL.of (z3 _ _ e3), fun L2' hL2 => ⟨fun _ H'' => Same (upd H' e (.lst [])) H'' ∧ H'' L2' = some (.lst []), ⟨same_new hL2, upd_same⟩, fun i H'' _ z => SqL.of (z.1 _ _ (z3 _ _ e3)), fun i y H'' hy z => ?_, fun H'' z => ?_⟩⟩
  · obtain ⟨a, D, fs, rfl, hD, he'⟩ := (a3' y (List.mem_of_getElem? hy)).same (z3.trans z.1)
    refine fun s0 H0 C cl fp => i_one <| t_cmp op_ne <| w_call (fn_kinds T) hr1 T.g__law_kinds (kept T.f__law_kinds) passL <| a_cons <| w_var 2 rfl <| a_nil ⟨a, D, fs, rfl, hD, he', fun H3 s3 => w_int ⟨rfl, _, rfl, ifF (by rw [decide_eq_true rfl]; rfl) ⟨z.1.trans s3, s3 _ _ z.2⟩⟩⟩
  · obtain ⟨z4, z5⟩ := z
    refine w_lst <| a_nil ⟨Nat.zero_le _, fun e' he' => ⟨_, _, .lst (SqL.of (same_new he' _ _ z5)) .nil, .lst (SqL.of upd_same) .nil, rfl, rfl, ?_⟩⟩
    exact k _ (s3.trans (z3.trans (z4.trans (same_new he'))))
end
end LW
namespace LW
open PySem PySem.Spec PyProof.Rows L2 PR
/-- the values that are handed to the errors; b: the box, another object -/
inductive Av (b : Addr) (H : Hp) : V → Prop
  | str (x : Str) (h : x = "p" ∨ x = "") : Av b H (.str x)
  | int (i : Int) (h : i = 0 ∨ i = -3 ∨ i = 1000000000000000000000000000000) : Av b H (.int i)
  | non : Av b H .non
  | bl (x : Bool) : Av b H (.bl x)
  | t2 {p : Addr} (n : p ≠ b) (h : H p = some (.tup [.int 1, .int 2])) : Av b H (.ref p)
  | l1 {p : Addr} (n : p ≠ b) (h : H p = some (.lst [.str "x"])) : Av b H (.ref p)
  | dk {p : Addr} (n : p ≠ b) (h : H p = some (.dK [(.inr "k", .int 1)])) : Av b H (.ref p)
  | t1 {p : Addr} (n : p ≠ b) (h : H p = some (.tup [.str "q"])) : Av b H (.ref p)
theorem Av.kp {b : Addr} {H H' : Hp} {v : V} (h : Av b H v) (k : Kp b H H') : Av b H' v := by
  cases h with
  | str x h => exact .str x h
  | int i h => exact .int i h
  | non => exact .non
  | bl x => exact .bl x
  | t2 n h => exact .t2 n (k _ _ n h)
  | l1 n h => exact .l1 n (k _ _ n h)
  | dk n h => exact .dk n (k _ _ n h)
  | t1 n h => exact .t1 n (k _ _ n h)
theorem Av.same {b : Addr} {H H' : Hp} {v : V} (h : Av b H v) (s : Same H H') : Av b H' v := h.kp s.kp
theorem kb {K : PySem.W.Frag} {t : String} {r : Bool} (h : kitB t "bool" = some r) : PySem.W.kitOne K (.type t) (.type "bool") = some r := kit_ty h
theorem Av.ok {K : PySem.W.Frag} {b : Addr} {H : Hp} {v : V} (h : Av b H v) : ∃ (d : PyData) (t : String) (r : Bool), Sw K H v d ∧ d.showable = true ∧ d.shown.length ≤ sizeLine ∧ d.depth ≤ 64 ∧ TyX K H v (.type t) ∧ PySem.W.kitOne K (.type t) (.type "bool") = some r := by
  cases h with
  | str x h =>
    rcases h with rfl | rfl
    · exact ⟨_, "str", false, .dp (.str _) rfl, rfl, len_line (by decide +kernel), by decide +kernel, .base (.str _), kb (by decide +kernel)⟩
    · exact ⟨_, "str", false, .dp (.str _) rfl, rfl, len_line (by decide +kernel), by decide +kernel, .base (.str _), kb (by decide +kernel)⟩
  | int i h =>
    rcases h with rfl | rfl | rfl
    · exact ⟨_, "int", false, .dp (.int _) rfl, by decide +kernel, len_line (by decide +kernel), by decide +kernel, .base (.int _), kb (by decide +kernel)⟩
    · exact ⟨_, "int", false, .dp (.int _) rfl, by decide +kernel, len_line (by decide +kernel), by decide +kernel, .base (.int _), kb (by decide +kernel)⟩
    · exact ⟨_, "int", false, .dp (.int _) rfl, by decide +kernel, len_line (by decide +kernel), by decide +kernel, .base (.int _), kb (by decide +kernel)⟩
  | non => exact ⟨_, "NoneType", false, .dp .non rfl, rfl, len_line (by decide +kernel), by decide, .base .non, kb (by decide +kernel)⟩
  | bl x => exact ⟨_, "bool", true, .dp (.bl x) rfl, rfl, len_line (by cases x <;> decide +kernel), by cases x <;> decide +kernel, .base (.bl x), kb (by decide +kernel)⟩
  | t2 n h => exact ⟨_, "tuple", false, .dp (.tup (SqT.of h) (.cons (.int 1) (.cons (.int 2) .nil))) rfl, by decide +kernel, len_line (by decide +kernel), by decide +kernel, .base (.tup h), kb (by decide +kernel)⟩
  | l1 n h => exact ⟨_, "list", false, .dp (.lst (SqL.of h) (.cons (.str _) .nil)) rfl, by decide +kernel, len_line (by decide +kernel), by decide +kernel, .base (.lst h), kb (by decide +kernel)⟩
  | dk n h => exact ⟨_, "dict", false, .d1 h, by decide +kernel, len_line (by decide +kernel), by decide +kernel, .base (.dK h), kb (by decide +kernel)⟩
  | t1 n h => exact ⟨_, "tuple", false, .dp (.tup (SqT.of h) (.cons (.str _) .nil)) rfl, by decide +kernel, len_line (by decide +kernel), by decide +kernel, .base (.tup h), kb (by decide +kernel)⟩
section
variable {P : Program} {w : World} {K : PySem.W.Frag} {mg : Str → Option Value} {base : Heap}
def spLaw (K : PySem.W.Frag) : Sp := fun vs H Q _ => ∃ (a : Addr) (ns : List Int), vs = [.ref a] ∧ SqL K H a (ns.map V.int) ∧ ∀ H', Q (.bl true) H'
theorem sc_law : FnScope ["_law_script", "_law_box_here", "_law_a", "_law_b", "_law_made", "_law_more", "_law_k", "_law_passed"] ["_law_script"] (defScope s_law) := ⟨rfl, rfl, rfl, by decide +kernel, rfl, by decide +kernel, by decide +kernel⟩
theorem fn_law (T : Tx K mg) : FnG P w K mg base (L2.CX P w) 4 (He.ga K "law") (spLaw K) := by
  refine fng T.f_law sc_law (fun vs H Q E h => ?_) (fun _ _ _ _ _ _ us hl => match us, hl with | [_], _ => rfl) fun cdv A outer s H vs Q E hgd hr h => ?_
  · obtain ⟨a, ns, rfl, _⟩ := h
    rfl
  obtain ⟨a, ns, rfl, hl, kk⟩ := h
  have nd := sc_law.nd
  have hr2 := hr.mono (show 2 ≤ 3 by decide)
  have hr1 := hr.mono (show 1 ≤ 3 by decide)
  refine s_cons <| s_set 1 nd <| w_call (fn_box T) hr2 T.g__law_box (kept T.f__law_box) passL <| a_cons <| w_var 0 rfl <| a_cons <| w_int <| a_nil ⟨a, ns, 0, rfl, by decide, hl, fun b H0 hb s0 hB => ?_⟩
  refine s_cons <| s_set 2 nd <| w_menu T hr1 <| a_cons <| w_str <| a_cons <| w_int <| a_cons <| w_non <| a_cons <| w_un un_neg <| w_int ⟨_, rfl, a_cons <| w_tup <| a_cons <| w_int <| a_cons <| w_int <| a_nil ⟨by show 2 ≤ sizeLine; decide, fun p1 hp1 => a_cons <| w_lst <| a_cons <| w_str <| a_nil ⟨by show 1 ≤ sizeLine; decide, fun p2 hp2 => a_cons <| w_bl <| a_nil ?_⟩⟩⟩
  have u1 := same_new (o := .tup [.int 1, .int 2]) hp1
  have u2 := same_new (o := .lst [.str "x"]) hp2
  refine ⟨rfl, by show 0 < 7; decide, by show 7 ≤ 1000; decide, fun p4 hp4 => w_var 1 rfl ⟨rfl, b, 0, rfl, hB.same (u1.trans u2), by decide, fun va hva H1 hB1 k1 => ?_⟩⟩
  have av : Av b H1 va := by
    refine Av.kp (H := upd (upd H0 p1 (.tup [.int 1, .int 2])) p2 (.lst [.str "x"])) ?_ k1
    simp only [List.mem_cons, List.not_mem_nil, or_false] at hva
    rcases hva with rfl | rfl | rfl | rfl | rfl | rfl | rfl
    · exact .str _ (.inl rfl)
    · exact .int _ (.inl rfl)
    · exact .non
    · exact .int _ (.inr (.inl rfl))
    · exact .t2 (hB.ne_new hp1) (u2 _ _ upd_same)
    · exact .l1 ((hB.same u1).ne_new hp2) upd_same
    · exact .bl _
  clear hva u1 u2 hp1 hp2 hB
  refine s_cons <| s_set 3 nd <| w_menu T hr1 <| a_cons <| we_of (pe_disp (pps_cons peW peW pps_nil) rfl rfl (by simp) (by decide)) fun p1 hp1 => w_str <| w_int ⟨upd_same, [(.inr "k", .int 1)], rfl, by decide, ?_⟩
  have u1 : Same H1 (upd (upd H1 p1 (.dK [])) p1 (.dK (mergeK [] [(.inr "k", .int 1)]))) := by rw [upd_upd]; exact same_new hp1
  refine a_cons <| w_op op_powW <| w_int <| w_int ⟨10, 30, rfl, rfl, ⟨by decide, by decide, by decide +kernel⟩, a_cons <| w_str <| a_cons <| w_tup <| a_cons <| w_str <| a_nil ⟨by show 1 ≤ sizeLine; decide, fun p2 hp2 => a_cons <| w_bl <| a_nil ?_⟩⟩
  have u2 := same_new (o := .tup [.str "q"]) hp2
  refine ⟨rfl, by show 0 < 5; decide, by show 5 ≤ 1000; decide, fun p4 hp4 => w_var 1 rfl ⟨rfl, b, 1, rfl, hB1.same (u1.trans u2), by decide, fun vb hvb H2 hB2 k2 => ?_⟩⟩
  have bv : Av b H2 vb := by
    refine Av.kp (H := upd (upd (upd H1 p1 (.dK [])) p1 (.dK (mergeK [] [(.inr "k", .int 1)]))) p2 (.tup [.str "q"])) ?_ k2
    simp only [List.mem_cons, List.not_mem_nil, or_false] at hvb
    rcases hvb with rfl | rfl | rfl | rfl | rfl
    · exact .dk (hB1.ne_new hp1) (u2 _ _ upd_same)
    · exact .int _ (.inr (.inr (by decide +kernel)))
    · exact .str _ (.inr rfl)
    · exact .t1 ((hB1.same u1).ne_new hp2) upd_same
    · exact .bl _
  replace av : Av b H2 va := (av.same (u1.trans u2)).kp k2
  clear hvb u1 u2 hp1 hp2 hB1 k1 k2 hB2
  refine s_cons <| s_set 4 nd <| w_lst <| a_cons <| wg_BadNumber T hr2 <| w_var 2 rfl fun pK0 pt0 => a_cons <| wg_BadName T hr2 <| w_var 3 rfl fun pK1 pt1 => a_cons <| wg_BadAmount T hr2 <| w_var 2 rfl fun pK2 pt2 => a_cons <| wg_BadInlet T hr2 <| w_var 3 rfl fun pK3 pt3 => a_cons <| wg_BadStream T hr2 <| w_var 2 rfl fun pK4 pt4 => a_nil ⟨by show 5 ≤ sizeLine; decide, fun pm0 pg0 => ?_⟩
  have ps0 : Same H2 (upd pK4 pm0 (.lst [va, vb, va, vb, va])) := (pt0.trans (pt1.trans (pt2.trans (pt3.trans (pt4))))).trans (same_new pg0)
  have pe0 : upd pK4 pm0 (.lst [va, vb, va, vb, va]) pm0 = some (.lst [va, vb, va, vb, va]) := upd_same
  generalize upd pK4 pm0 (.lst [va, vb, va, vb, va]) = pG0 at ps0 pe0 ⊢
  refine s_cons <| s_set 4 nd <| w_op op_cat <| w_var 4 rfl <| w_lst <| a_cons <| wg_BadWish T hr2 <| w_var 3 rfl fun pK5 pt5 => a_cons <| wg_BadDays T hr2 <| w_var 2 rfl fun pK6 pt6 => a_cons <| wg_NoAccount T hr2 <| w_var 3 rfl fun pK7 pt7 => a_cons <| wg_NoStream T hr2 <| w_var 2 rfl fun pK8 pt8 => a_cons <| wg_InUse T hr2 <| w_var 3 rfl fun pK9 pt9 => a_nil ⟨by show 5 ≤ sizeLine; decide, fun pn1 pj1 => ⟨pm0, pn1, _, _, rfl, rfl, same_new pj1 _ _ (pt9 _ _ <| pt8 _ _ <| pt7 _ _ <| pt6 _ _ <| pt5 _ _ pe0), upd_same, by show 5 + 5 ≤ sizeLine; decide, fun pm1 pg1 => ?_⟩⟩
  have ps1 : Same H2 (upd (upd pK9 pn1 (.lst [vb, va, vb, va, vb])) pm1 (.lst ([va, vb, va, vb, va] ++ [vb, va, vb, va, vb]))) := ps0.trans ((pt5.trans (pt6.trans (pt7.trans (pt8.trans (pt9))))).trans ((same_new pj1).trans (same_new pg1)))
  have pe1 : upd (upd pK9 pn1 (.lst [vb, va, vb, va, vb])) pm1 (.lst ([va, vb, va, vb, va] ++ [vb, va, vb, va, vb])) pm1 = some (.lst [va, vb, va, vb, va, vb, va, vb, va, vb]) := upd_same
  change Wb _ _ _ _ (upd (upd pK9 pn1 (.lst [vb, va, vb, va, vb])) pm1 (.lst ([va, vb, va, vb, va] ++ [vb, va, vb, va, vb])))
  generalize upd (upd pK9 pn1 (.lst [vb, va, vb, va, vb])) pm1 (.lst ([va, vb, va, vb, va] ++ [vb, va, vb, va, vb])) = pG1 at ps1 pe1 ⊢
  refine s_cons <| s_set 4 nd <| w_op op_cat <| w_var 4 rfl <| w_lst <| a_cons <| wg_TooMuch T hr2 <| w_var 2 rfl fun pK10 pt10 => a_cons <| wg_BadSight T hr2 <| w_var 3 rfl fun pK11 pt11 => a_cons <| wg_BadDeed T hr2 <| w_var 2 rfl fun pK12 pt12 => a_nil ⟨by show 3 ≤ sizeLine; decide, fun pn2 pj2 => ⟨pm1, pn2, _, _, rfl, rfl, same_new pj2 _ _ (pt12 _ _ <| pt11 _ _ <| pt10 _ _ pe1), upd_same, by show 10 + 3 ≤ sizeLine; decide, fun pm2 pg2 => ?_⟩⟩
  have ps2 : Same H2 (upd (upd pK12 pn2 (.lst [va, vb, va])) pm2 (.lst ([va, vb, va, vb, va, vb, va, vb, va, vb] ++ [va, vb, va]))) := ps1.trans ((pt10.trans (pt11.trans (pt12))).trans ((same_new pj2).trans (same_new pg2)))
  have pe2 : upd (upd pK12 pn2 (.lst [va, vb, va])) pm2 (.lst ([va, vb, va, vb, va, vb, va, vb, va, vb] ++ [va, vb, va])) pm2 = some (.lst [va, vb, va, vb, va, vb, va, vb, va, vb, va, vb, va]) := upd_same
  change Wb _ _ _ _ (upd (upd pK12 pn2 (.lst [va, vb, va])) pm2 (.lst ([va, vb, va, vb, va, vb, va, vb, va, vb] ++ [va, vb, va])))
  generalize upd (upd pK12 pn2 (.lst [va, vb, va])) pm2 (.lst ([va, vb, va, vb, va, vb, va, vb, va, vb] ++ [va, vb, va])) = pG2 at ps2 pe2 ⊢
  refine s_cons <| s_set 5 nd <| w_lst <| a_cons <| wj_BadNumber T hr2 <| w_var 2 rfl fun qK0 qt0 => a_cons <| wj_BadName T hr2 <| w_var 3 rfl fun qK1 qt1 => a_cons <| wj_BadAmount T hr2 <| w_var 2 rfl fun qK2 qt2 => a_cons <| wj_BadInlet T hr2 <| w_var 3 rfl fun qK3 qt3 => a_nil ⟨by show 4 ≤ sizeLine; decide, fun qm0 qg0 => ?_⟩
  have qs0 : Same pG2 (upd qK3 qm0 (.lst [va, vb, va, vb])) := (qt0.trans (qt1.trans (qt2.trans (qt3)))).trans (same_new qg0)
  have qe0 : upd qK3 qm0 (.lst [va, vb, va, vb]) qm0 = some (.lst [va, vb, va, vb]) := upd_same
  generalize upd qK3 qm0 (.lst [va, vb, va, vb]) = qG0 at qs0 qe0 ⊢
  refine s_cons <| s_set 5 nd <| w_op op_cat <| w_var 5 rfl <| w_lst <| a_cons <| wj_BadStream T hr2 <| w_var 2 rfl fun qK4 qt4 => a_cons <| wj_BadWish T hr2 <| w_var 3 rfl fun qK5 qt5 => a_cons <| wj_BadDays T hr2 <| w_var 2 rfl fun qK6 qt6 => a_cons <| wj_NoAccount T hr2 <| w_var 3 rfl fun qK7 qt7 => a_nil ⟨by show 4 ≤ sizeLine; decide, fun qn1 qj1 => ⟨qm0, qn1, _, _, rfl, rfl, same_new qj1 _ _ (qt7 _ _ <| qt6 _ _ <| qt5 _ _ <| qt4 _ _ qe0), upd_same, by show 4 + 4 ≤ sizeLine; decide, fun qm1 qg1 => ?_⟩⟩
  have qs1 : Same pG2 (upd (upd qK7 qn1 (.lst [va, vb, va, vb])) qm1 (.lst ([va, vb, va, vb] ++ [va, vb, va, vb]))) := qs0.trans ((qt4.trans (qt5.trans (qt6.trans (qt7)))).trans ((same_new qj1).trans (same_new qg1)))
  have qe1 : upd (upd qK7 qn1 (.lst [va, vb, va, vb])) qm1 (.lst ([va, vb, va, vb] ++ [va, vb, va, vb])) qm1 = some (.lst [va, vb, va, vb, va, vb, va, vb]) := upd_same
  change Wb _ _ _ _ (upd (upd qK7 qn1 (.lst [va, vb, va, vb])) qm1 (.lst ([va, vb, va, vb] ++ [va, vb, va, vb])))
  generalize upd (upd qK7 qn1 (.lst [va, vb, va, vb])) qm1 (.lst ([va, vb, va, vb] ++ [va, vb, va, vb])) = qG1 at qs1 qe1 ⊢
  refine s_cons <| s_set 5 nd <| w_op op_cat <| w_var 5 rfl <| w_lst <| a_cons <| wj_NoStream T hr2 <| w_var 2 rfl fun qK8 qt8 => a_cons <| wj_InUse T hr2 <| w_var 3 rfl fun qK9 qt9 => a_cons <| wj_TooMuch T hr2 <| w_var 2 rfl fun qK10 qt10 => a_cons <| wj_BadSight T hr2 <| w_var 3 rfl fun qK11 qt11 => a_nil ⟨by show 4 ≤ sizeLine; decide, fun qn2 qj2 => ⟨qm1, qn2, _, _, rfl, rfl, same_new qj2 _ _ (qt11 _ _ <| qt10 _ _ <| qt9 _ _ <| qt8 _ _ qe1), upd_same, by show 8 + 4 ≤ sizeLine; decide, fun qm2 qg2 => ?_⟩⟩
  have qs2 : Same pG2 (upd (upd qK11 qn2 (.lst [va, vb, va, vb])) qm2 (.lst ([va, vb, va, vb, va, vb, va, vb] ++ [va, vb, va, vb]))) := qs1.trans ((qt8.trans (qt9.trans (qt10.trans (qt11)))).trans ((same_new qj2).trans (same_new qg2)))
  have qe2 : upd (upd qK11 qn2 (.lst [va, vb, va, vb])) qm2 (.lst ([va, vb, va, vb, va, vb, va, vb] ++ [va, vb, va, vb])) qm2 = some (.lst [va, vb, va, vb, va, vb, va, vb, va, vb, va, vb]) := upd_same
  change Wb _ _ _ _ (upd (upd qK11 qn2 (.lst [va, vb, va, vb])) qm2 (.lst ([va, vb, va, vb, va, vb, va, vb] ++ [va, vb, va, vb])))
  generalize upd (upd qK11 qn2 (.lst [va, vb, va, vb])) qm2 (.lst ([va, vb, va, vb, va, vb, va, vb] ++ [va, vb, va, vb])) = qG2 at qs2 qe2 ⊢
  refine s_cons <| s_set 5 nd <| w_op op_cat <| w_var 5 rfl <| w_lst <| a_cons <| wj_BadDeed T hr2 <| w_var 2 rfl fun qK12 qt12 => a_nil ⟨by show 1 ≤ sizeLine; decide, fun qn3 qj3 => ⟨qm2, qn3, _, _, rfl, rfl, same_new qj3 _ _ (qt12 _ _ qe2), upd_same, by show 12 + 1 ≤ sizeLine; decide, fun qm3 qg3 => ?_⟩⟩
  have qs3 : Same pG2 (upd (upd qK12 qn3 (.lst [va])) qm3 (.lst ([va, vb, va, vb, va, vb, va, vb, va, vb, va, vb] ++ [va]))) := qs2.trans ((qt12).trans ((same_new qj3).trans (same_new qg3)))
  have qe3 : upd (upd qK12 qn3 (.lst [va])) qm3 (.lst ([va, vb, va, vb, va, vb, va, vb, va, vb, va, vb] ++ [va])) qm3 = some (.lst [va, vb, va, vb, va, vb, va, vb, va, vb, va, vb, va]) := upd_same
  change Wb _ _ _ _ (upd (upd qK12 qn3 (.lst [va])) qm3 (.lst ([va, vb, va, vb, va, vb, va, vb, va, vb, va, vb] ++ [va])))
  generalize upd (upd qK12 qn3 (.lst [va])) qm3 (.lst ([va, vb, va, vb, va, vb, va, vb, va, vb, va, vb] ++ [va])) = qG3 at qs3 qe3 ⊢
  have hit : ∀ j : Nat, j < 13 → ([va, vb, va, vb, va, vb, va, vb, va, vb, va, vb, va] : List V)[j]? = some (if j % 2 = 0 then va else vb) := fun j hj => match j, hj with
    | 0, _ => rfl | 1, _ => rfl | 2, _ => rfl | 3, _ => rfl | 4, _ => rfl | 5, _ => rfl | 6, _ => rfl | 7, _ => rfl | 8, _ => rfl | 9, _ => rfl | 10, _ => rfl | 11, _ => rfl | 12, _ => rfl | n + 13, h => absurd h (by omega)
  have pe3 := qs3 _ _ pe2
  have av3 : Av b qG3 va := av.same (ps2.trans qs3)
  have bv3 : Av b qG3 vb := bv.same (ps2.trans qs3)
  refine s_cons <| s_forr 6 (passes_of rfl) nd T.b_range <| w_int ⟨13, fun i σ H' => ∃ y6 y7, σ = [some (.ref a), some (.ref b), some va, some vb, some (.ref pm2), some (.ref qm3), y6, y7] ∧ Same qG3 H', rfl, by decide, ⟨_, _, rfl, fun _ _ h => h⟩, ?_, ?_⟩
  · rintro j σ' H' hj ⟨y6, y7, rfl, s0⟩
    have hx := hit j hj
    refine s_cons <| s_set 7 nd <| w_ife <| t_cmp op_eq <| w_op op_mod <| w_var 6 rfl <| w_int ⟨_, _, rfl, rfl, by show (0 : Int) < 2; decide, w_int ⟨rfl, _, rfl, ?_⟩⟩
    by_cases hj2 : j % 2 = 0
    · rw [if_pos hj2] at hx
      refine ifT (decide_eq_true (congrArg V.int (show (j : Int) % 2 = 0 by omega))) (w_var 2 rfl ?_)
      obtain ⟨d, t, r, g1, g2, g3, g4, g5, g6⟩ := (av3.same s0).ok (K := K)
      refine s_one <| s_if <| t_bool <| b_or <| t_not <| t_val <| w_callG (fn_same T) hgd hr1 T.g__law_same (kept T.f__law_same) passL <| a_cons <| w_ix ix_list <| w_var 4 rfl <| w_var 6 rfl ⟨pm2, _, _, va, rfl, rfl, SqL.of (s0 _ _ pe3), atI_nat hx, a_cons <| w_var 7 rfl <| a_nil ⟨va, d, t, r, rfl, g1, g2, g3, g4, g5, g6, true, rfl, ifF rfl ?_⟩⟩
      refine b_or1 <| t_not <| t_val <| w_callG (fn_same T) hgd hr1 T.g__law_same (kept T.f__law_same) passL <| a_cons <| w_ix ix_list <| w_var 5 rfl <| w_var 6 rfl ⟨qm3, _, _, va, rfl, rfl, SqL.of (s0 _ _ qe3), atI_nat hx, a_cons <| w_var 7 rfl <| a_nil ⟨va, d, t, r, rfl, g1, g2, g3, g4, g5, g6, true, rfl, ifF rfl ?_⟩⟩
      exact s_nil ⟨_, _, rfl, s0⟩
    · rw [if_neg hj2] at hx
      refine ifF (decide_eq_false (fun z => hj2 (by injection z with z; omega))) (w_var 3 rfl ?_)
      obtain ⟨d, t, r, g1, g2, g3, g4, g5, g6⟩ := (bv3.same s0).ok (K := K)
      refine s_one <| s_if <| t_bool <| b_or <| t_not <| t_val <| w_callG (fn_same T) hgd hr1 T.g__law_same (kept T.f__law_same) passL <| a_cons <| w_ix ix_list <| w_var 4 rfl <| w_var 6 rfl ⟨pm2, _, _, vb, rfl, rfl, SqL.of (s0 _ _ pe3), atI_nat hx, a_cons <| w_var 7 rfl <| a_nil ⟨vb, d, t, r, rfl, g1, g2, g3, g4, g5, g6, true, rfl, ifF rfl ?_⟩⟩
      refine b_or1 <| t_not <| t_val <| w_callG (fn_same T) hgd hr1 T.g__law_same (kept T.f__law_same) passL <| a_cons <| w_ix ix_list <| w_var 5 rfl <| w_var 6 rfl ⟨qm3, _, _, vb, rfl, rfl, SqL.of (s0 _ _ qe3), atI_nat hx, a_cons <| w_var 7 rfl <| a_nil ⟨vb, d, t, r, rfl, g1, g2, g3, g4, g5, g6, true, rfl, ifF rfl ?_⟩⟩
      exact s_nil ⟨_, _, rfl, s0⟩
  · rintro σ' H' ⟨y6, y7, rfl, s0⟩
    refine s_cons <| s_if <| t_bool <| b_or <| t_not <| t_val <| w_callG (fn_same T) hgd hr1 T.g__law_same (kept T.f__law_same) passL <| a_cons <| wg_BadLine T hr2 <| w_var 2 rfl fun K1 t1 => a_cons <| w_var 2 rfl <| a_nil ?_
    obtain ⟨d, t, r, g1, g2, g3, g4, g5, g6⟩ := (av3.same (s0.trans t1)).ok (K := K)
    refine ⟨va, d, t, r, rfl, g1, g2, g3, g4, g5, g6, true, rfl, ifF rfl ?_⟩
    refine b_or1 <| t_not <| t_val <| w_callG (fn_same T) hgd hr1 T.g__law_same (kept T.f__law_same) passL <| a_cons <| wj_BadLine T hr2 <| w_var 3 rfl fun K2 t2 => a_cons <| w_var 3 rfl <| a_nil ?_
    obtain ⟨d, t, r, g1, g2, g3, g4, g5, g6⟩ := (bv3.same (s0.trans (t1.trans t2))).ok (K := K)
    refine ⟨vb, d, t, r, rfl, g1, g2, g3, g4, g5, g6, true, rfl, ifF rfl (s_nil ?_)⟩
    exact s_one <| s_ret <| w_call0 (fn_bases T) hr T.g__law_bases (kept T.f__law_bases) passL ⟨rfl, fun H' _ => kk H'⟩
end
end LW

namespace LW
open PySem PySem.Spec PyProof.Rows L2
abbrev R : PySem.W.OpenRow := PySem.W.OpenLaw.row PySem.Challenge.rw_paystreams_k01_errors
abbrev hk : PySem.W.Hook := PH.hookP 5 fa fn
def ob (s : PySem.W.SharedT) : He.AlD := PH.obsPG 5 fa fn (HandSHeadRun.getT s)
theorem ob_eq (s : PySem.W.SharedT) : ob s = hk.obs s.abs := PH.obsPG_eq (HandSHeadRun.getT_eq s)
set_option maxHeartbeats 0 in
theorem run (w : World) : HandSHeadRun.RunEq R (PySem.W.view R.prog [31]) hk ob 8000 nms w := by
  intro os
  kernel_rfl
theorem law_name : (HandSHeadRun.topDef R.prog 31).name = ("law" : PySem.Str) := by kernel_rfl
end LW
open PySem PySem.W PySem.Calls PyProof.Rows
set_option maxHeartbeats 0
theorem PySem.Challenge.cw_paystreams_k01_errors_holds : PySem.Challenge.rw_paystreams_k01_errors.Holds := by
  w_on; o_law
  refine HandSHeadRun.head_any (r := OpenLaw.row PySem.Challenge.rw_paystreams_k01_errors) (q := view (OpenLaw.row PySem.Challenge.rw_paystreams_k01_errors).prog [31]) (H := LW.hk) (ob := LW.ob) (M := 8000) (loose := LW.nms) (d := HandSHeadRun.topDef (OpenLaw.row PySem.Challenge.rw_paystreams_k01_errors).prog 31) (kwd := [])
    LW.ob_eq (by kernel_rfl) (fun s => by kernel_rfl) LW.run (by kernel_rfl) (by kernel_rfl) (by kernel_rfl) (by rfl) (by first | assumption | decide +kernel) (by decide +kernel) ⟨rfl, rfl, rfl, rfl, rfl, by decide +kernel⟩ ?hw ?hc
  case hw => w_witness2
  case hc =>
    refine PR.walk_ofG (l := PySem.Challenge.rw_paystreams_k01_errors) (n := 63) (k := 4) rfl (by decide) (by kernel_rfl) ⟨rfl, by decide, by decide⟩ ?F
    intro w mg f h Y G hm
    obtain ⟨K, KI, c⟩ := Y
    have T := LW.tx_of KI G c
    rw [LW.law_name] at hm
    have e := hm.symm.trans T.g_law
    cases e
    exact ⟨K, LW.spLaw K, KI, fun H a ns _ _ hS => ⟨a, ns, rfl, hS, fun _ => rfl⟩, fun base _ _ => LW.fn_law T⟩
