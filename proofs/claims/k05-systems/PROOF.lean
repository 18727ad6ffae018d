import PyProof.Rows.All
import Wide.All
import OpenK.AllK
import Wide.FinOn
import HandS.ForMost
import HandS.ForExc
import HandS.ExcInit
import HandS.IsInst
import HandS.Wide
import HandS.Defaults
import HandS.ClsMeth
import HandS.Star
import HandS.SlotsOwn
import KE.KOpsOwn
import HandS.Head0
import HandS.Head1
import HandS.Head2
import HandS.HeadEnd
import HandS.HeadHook1
import HandS.HeadHook2
import HandS.HeadNt
import HandS.ExcField
import HandS.TryOnly
import HandS.TryMany
import HandS.TryElse
import HandS.List
import HandS.MakeKwOnly
import HandS.Comp
import HandS.Ends
import HandS.Iter
import HandS.Text
import HandS.FStr
import HandS.Codes
import HandS.Walk
import HandS.Words
import PyProof.Rows.ReprOcc
import HandS.Zip
import HandS.OwnEq
import KE.GoesMore
import PySem.Challenge.RW_paystreams_k05_systems
set_option Elab.async false
set_option linter.all false
set_option maxRecDepth 100000
set_option maxHeartbeats 4000000
/-! What must hold so that an expression, a test, an argument list, a statement, a block does what is wanted: the best reading of each. -/
namespace PR
open PySem PySem.Spec PyProof.Rows L2
structure We (X : Cx) (e : Expr) (σ : L2.St) (H : Hp) (Q : VK) : Prop where
  run : ∀ (pins : List (Addr × Obj)) (s : Shared), Inv X pins σ H s → wpAny (model X.prog X.w) X.A (eval e X.env) (EP X pins σ Q) X.xe s
structure Wt (X : Cx) (e : Expr) (σ : L2.St) (H : Hp) (Q : Bool → Hp → Prop) : Prop where
  run : ∀ (pins : List (Addr × Obj)) (s : Shared), Inv X pins σ H s → wpAny (model X.prog X.w) X.A (isTrue e X.env (eval e X.env)) (TP X pins σ Q) X.xe s
structure Ww (X : Cx) (e : Expr) (σ : L2.St) (H : Hp) (Q : Bool → Hp → Prop) : Prop where
  run : ∀ (whole : Sem Value) (pins : List (Addr × Obj)) (s : Shared), Inv X pins σ H s → wpAny (model X.prog X.w) X.A (isTrue e X.env whole) (TP X pins σ Q) X.xe s
structure Wa (X : Cx) (es : List Expr) (σ : L2.St) (H : Hp) (Q : List V → Hp → Prop) : Prop where
  run : ∀ (pos : Pos) (pins : List (Addr × Obj)) (s : Shared), Inv X pins σ H s → wpAny (model X.prog X.w) X.A (spliced (backTo pos (starEach es X.env))) (AP X pins σ Q) X.xe s
structure Wk (X : Cx) (kws : List Keyword) (σ : L2.St) (H : Hp) (Q : List V → Hp → Prop) : Prop where
  run : ∀ (pos : Pos) (pins : List (Addr × Obj)) (s : Shared), Inv X pins σ H s → wpAny (model X.prog X.w) X.A (evalAll ((backToKw pos (keywordEach kws X.env)).map (·.2))) (AP X pins σ Q) X.xe s
structure Ws (X : Cx) (st : Stmt) (D : Ends) (σ : L2.St) (H : Hp) : Prop where
  run : ∀ (pins : List (Addr × Obj)) (s : Shared), Inv X pins σ H s → wpAny (model X.prog X.w) X.A (exec st X.env) (SP X pins D) X.xe s
structure Wb (X : Cx) (sts : List Stmt) (D : Ends) (σ : L2.St) (H : Hp) : Prop where
  run : ∀ (pins : List (Addr × Obj)) (s : Shared), Inv X pins σ H s → wpAny (model X.prog X.w) X.A (execs sts X.env) (SP X pins D) X.xe s
section
variable {X : Cx} {e a b c : Expr} {es rest : List Expr} {σ : L2.St} {H : Hp} {Q : VK} {Qb : Bool → Hp → Prop} {Qa : List V → Hp → Prop} {D : Ends} {pos pos' p : Pos} {st : Stmt} {sts : List Stmt}
theorem peW : PE X e (We X e) := ⟨fun pins s _ _ _ I h => h.run pins s I⟩
theorem ptW : PT X e (Wt X e) := ⟨fun pins s _ _ _ I h => h.run pins s I⟩
theorem pwW : PW X e (Ww X e) := ⟨fun wh pins s _ _ _ I h => h.run wh pins s I⟩
theorem paW : PA X es (Wa X es) := ⟨fun pos pins s _ _ _ I h => h.run pos pins s I⟩
theorem pkW {kws : List Keyword} : PK X kws (Wk X kws) := ⟨fun pos pins s _ _ _ I h => h.run pos pins s I⟩
theorem psW : PS X st (Ws X st) := ⟨fun pins s _ _ _ I h => h.run pins s I⟩
theorem pbW : PSs X sts (Wb X sts) := ⟨fun pins s _ _ _ I h => h.run pins s I⟩
theorem we_of {t : TE} (q : PE X e t) (h : t σ H Q) : We X e σ H Q := ⟨fun pins s I => q.run pins s σ H Q I h⟩
theorem wt_of {t : TT} (q : PT X e t) (h : t σ H Qb) : Wt X e σ H Qb := ⟨fun pins s I => q.run pins s σ H Qb I h⟩
theorem ww_of {t : TT} (q : PW X e t) (h : t σ H Qb) : Ww X e σ H Qb := ⟨fun wh pins s I => q.run wh pins s σ H Qb I h⟩
theorem wa_of {t : TA} (q : PA X es t) (h : t σ H Qa) : Wa X es σ H Qa := ⟨fun pos pins s I => q.run pos pins s σ H Qa I h⟩
theorem wk_of {t : TA} {kws : List Keyword} (q : PK X kws t) (h : t σ H Qa) : Wk X kws σ H Qa := ⟨fun pos pins s I => q.run pos pins s σ H Qa I h⟩
theorem ws_of {t : TS} (q : PS X st t) (h : t D σ H) : Ws X st D σ H := ⟨fun pins s I => q.run pins s σ H D I h⟩
theorem wb_of {t : TS} (q : PSs X sts t) (h : t D σ H) : Wb X sts D σ H := ⟨fun pins s I => q.run pins s σ H D I h⟩
theorem We.mono {Q' : VK} (h : We X e σ H Q) (k : ∀ v H', Q v H' → Q' v H') : We X e σ H Q' := ⟨fun pins s I => thn (h.run pins s I) fun _ _ ⟨v, H', J, r, q⟩ => ⟨v, H', J, r, k v H' q⟩⟩
theorem Wt.mono {Q' : Bool → Hp → Prop} (h : Wt X e σ H Qb) (k : ∀ v H', Qb v H' → Q' v H') : Wt X e σ H Q' := ⟨fun pins s I => thn (h.run pins s I) fun v _ ⟨H', J, q⟩ => ⟨H', J, k v H' q⟩⟩
theorem Wa.mono {Q' : List V → Hp → Prop} (h : Wa X es σ H Qa) (k : ∀ v H', Qa v H' → Q' v H') : Wa X es σ H Q' := ⟨fun pos pins s I => thn (h.run pos pins s I) fun _ _ ⟨v, H', J, r, q⟩ => ⟨v, H', J, r, k v H' q⟩⟩
theorem ifT {k : Bool} {A B : Prop} (e : k = true) (h : A) : if k = true then A else B := by rw [if_pos e]; exact h
theorem ifF {k : Bool} {A B : Prop} (e : k = false) (h : B) : if k = true then A else B := by rw [if_neg (by rw [e]; exact Bool.false_ne_true)]; exact h
/-! ### expressions -/
theorem w_var (i : Nat) {x : Str} {v : V} (h : σ[i]? = some (some v)) (q : Q v H) (hN : X.N[i]? = some x := by rfl) (hv : Vis X.env.scope x := by first | exact Or.inl rfl | exact Or.inr (Or.inl rfl) | exact Or.inr (Or.inr rfl))
    (hd : (x == ("__debug__" : Str)) = false := by decide) (hcd : (x == ("__classdict__" : Str)) = false := by decide) : We X (.Name x pos) σ H Q := we_of (pe_var (i := i) hN hv hd hcd) ⟨v, h, q⟩
theorem w_int {i : Int} {j} (q : Q (.int i) H) : We X (.Constant (.int i) j pos) σ H Q := we_of pe_int q
theorem w_bl {i : Bool} {j} (q : Q (.bl i) H) : We X (.Constant (.bool i) j pos) σ H Q := we_of pe_bl q
theorem w_non {j} (q : Q .non H) : We X (.Constant .none j pos) σ H Q := we_of pe_non q
theorem w_str {x : Str} {j} (q : Q (.str x) H) : We X (.Constant (.str x) j pos) σ H Q := we_of pe_str q
theorem w_glob {x : Str} {v : V} {u : Value} (hm : X.mg x = some u) (r : RelV v u) (q : Q v H) (hg : Gl X x := by rfl) (hd : (x == ("__debug__" : Str)) = false := by decide) : We X (.Name x pos) σ H Q := we_of (pe_glob hg hm r hd) q
theorem w_ref {x : Str} {f : Addr} (hm : X.mg x = some (.ref f)) (q : Q (.ref f) H) (hg : Gl X x := by rfl) (hd : (x == ("__debug__" : Str)) = false := by decide) : We X (.Name x pos) σ H Q := we_of (pe_glob (v := .ref f) hg hm rfl hd) q
theorem w_bltn {x : Str} {v : V} {u : Value} (hm : X.mg x = none) (hv : bootBuiltins x = some u) (r : RelV v u) (q : Q v H) (hg : Gl X x := by rfl) (hn : x ≠ "__name__" := by decide) (hd : (x == ("__debug__" : Str)) = false := by decide) : We X (.Name x pos) σ H Q :=
  we_of (pe_bltn hg hm hv r hn hd) q
theorem w_op {op : Operator} {r : R2} (ho : OpR X (binaryOp op) r) (h : We X a σ H fun x H1 => We X b σ H1 fun y H2 => r x y H2 Q) : We X (.BinOp a op b pos) σ H Q := we_of (pe_op ho peW peW) h
theorem w_un {op : UnaryOp} {r : V → Hp → VK → Prop} (ho : UnR X (unaryOp op) r) (h : We X a σ H fun x H1 => r x H1 Q) : We X (.UnaryOp op a pos) σ H Q := we_of (pe_un ho peW) h
theorem w_cmp {op : CmpOp} {r : R2} (ho : OpR X (compareOp op) r) (h : We X a σ H fun x H1 => We X b σ H1 fun y H2 => r x y H2 Q) (hm : behindInMarks op b = false := by first | exact nomark _ | rfl) : We X (.Compare a [op] [b] pos) σ H Q := we_of (pe_cmpR ho peW peW hm) h
theorem w_ife (h : Wt X c σ H fun k H1 => if k = true then We X a σ H1 Q else We X b σ H1 Q) : We X (.IfExp c a b pos) σ H Q := we_of (pe_ifExp ptW peW peW) h
theorem w_one {op} (h : We X a σ H Q) : We X (.BoolOp op [a] pos) σ H Q := we_of (pe_one peW) h
theorem w_and (h : We X a σ H fun x H1 => ∃ k, x = .bl k ∧ if k = true then We X (.BoolOp .And (b :: rest) pos) σ H1 Q else Q (.bl false) H1) : We X (.BoolOp .And (a :: b :: rest) pos) σ H Q := we_of (pe_and peW peW) h
theorem w_or (h : We X a σ H fun x H1 => ∃ k, x = .bl k ∧ if k = true then Q (.bl true) H1 else We X (.BoolOp .Or (b :: rest) pos) σ H1 Q) : We X (.BoolOp .Or (a :: b :: rest) pos) σ H Q := we_of (pe_or peW peW) h
theorem w_not (h : We X a σ H fun x H1 => ∃ k, x = .bl k ∧ Q (.bl (!k)) H1) : We X (.UnaryOp .Not a pos) σ H Q := we_of (pe_not peW) h
theorem w_tup {k} (h : Wa X es σ H fun xs H1 => xs.length ≤ sizeLine ∧ ∀ p, H1 p = none → Q (.ref p) (upd H1 p (.tup xs))) : We X (.Tuple es k pos) σ H Q := we_of (pe_tup paW) h
theorem w_lst (h : Wa X es σ H fun xs H1 => xs.length ≤ sizeLine ∧ ∀ p, H1 p = none → Q (.ref p) (upd H1 p (.lst xs))) : We X (.List es pos) σ H Q := we_of (pe_lst paW) h
theorem w_fld {f : Str} (h : We X e σ H fun x H1 => ∃ a C dx fs v, x = .ref a ∧ H1 a = some (.ins C dx fs) ∧ Cls X.K C ∧ NoAttr X.K C f ∧ fs.lookup f = some v ∧ Q v H1)
    (hb : attributeBase e f X.env (eval e X.env) = eval e X.env := by rfl) : We X (.Attribute e f pos) σ H Q := we_of (pe_fld peW hb) h
theorem w_ix {r : R2} (hr : IxR X r) (h : We X a σ H fun x H1 => We X b σ H1 fun y H2 => r x y H2 Q) (hs : PlainIx b := by exact fun _ _ => rfl) : We X (.Subscript a b pos) σ H Q := we_of (pe_ix hr peW peW hs) h
/-! ### arguments -/
theorem a_nil (q : Qa [] H) : Wa X [] σ H Qa := wa_of pa_nil q
theorem a_cons (h : We X e σ H fun x H1 => Wa X es σ H1 fun xs H2 => Qa (x :: xs) H2) (hs : starEach (e :: es) X.env = (false, eval e X.env) :: starEach es X.env := by rfl) : Wa X (e :: es) σ H Qa := wa_of (pa_cons peW paW hs) h
theorem k_nil (q : Qa [] H) : Wk X [] σ H Qa := wk_of pk_nil q
theorem k_cons {nm kpos} {kws : List Keyword} (h : We X e σ H fun x H1 => Wk X kws σ H1 fun xs H2 => Qa (x :: xs) H2) : Wk X (⟨nm, e, kpos⟩ :: kws) σ H Qa := wk_of (pk_cons peW pkW) h
/-! ### tests -/
theorem t_val (h : We X e σ H fun x H1 => ∃ k, x = .bl k ∧ Qb k H1) (he : ∀ whole, isTrue e X.env whole = (do let v ← whole; standAt e.pos; holding [v] (truthy v)) := by intro _; rfl) : Wt X e σ H Qb := wt_of (pt_val peW he) h
theorem t_truth (h : We X e σ H fun x H1 => ∃ k, TruV X.K x H1 k ∧ Qb k H1) (he : ∀ whole, isTrue e X.env whole = (do let v ← whole; standAt e.pos; holding [v] (truthy v)) := by intro _; rfl) : Wt X e σ H Qb := wt_of (pt_truth peW he) h
theorem t_cmp {op : CmpOp} {r : R2} (ho : OpR X (compareOp op) r) (h : We X a σ H fun x H1 => We X b σ H1 fun y H2 => r x y H2 fun z H3 => ∃ k, z = .bl k ∧ Qb k H3) (hm : behindInMarks op b = false := by first | exact nomark _ | rfl) : Wt X (.Compare a [op] [b] pos) σ H Qb :=
  wt_of (pt_cmpR ho peW peW hm) h
theorem t_not (h : Wt X a σ H fun k H1 => Qb (!k) H1) : Wt X (.UnaryOp .Not a pos) σ H Qb := wt_of (pt_not ptW) h
theorem t_bool (h : Ww X e σ H Qb) : Wt X e σ H Qb := ⟨fun pins s I => h.run _ pins s I⟩
theorem b_and1 (h : Wt X a σ H Qb) : Ww X (.BoolOp .And [a] pos) σ H Qb := ww_of (pw_and1 ptW) h
theorem b_or1 (h : Wt X a σ H Qb) : Ww X (.BoolOp .Or [a] pos) σ H Qb := ww_of (pw_or1 ptW) h
theorem b_and (h : Wt X a σ H fun k H1 => if k = true then Ww X (.BoolOp .And (b :: rest) pos) σ H1 Qb else Qb false H1) : Ww X (.BoolOp .And (a :: b :: rest) pos) σ H Qb := ww_of (pw_and ptW pwW) h
theorem b_or (h : Wt X a σ H fun k H1 => if k = true then Qb true H1 else Ww X (.BoolOp .Or (b :: rest) pos) σ H1 Qb) : Ww X (.BoolOp .Or (a :: b :: rest) pos) σ H Qb := ww_of (pw_or ptW pwW) h
/-! ### statements -/
theorem s_nil (q : D.nx σ H) : Wb X [] D σ H := wb_of pss_nil q
theorem s_one (h : Ws X st D σ H) : Wb X [st] D σ H := wb_of (pss_one psW) h
theorem s_cons (h : Ws X st { D with nx := fun σ' H' => Wb X sts D σ' H' } σ H) : Wb X (st :: sts) D σ H := wb_of (pss_cons psW pbW) h
theorem s_pass (q : D.nx σ H) : Ws X (.Pass pos) D σ H := ws_of ps_pass q
theorem s_brk (q : D.bk σ H) : Ws X (.Break pos) D σ H := ws_of ps_break q
theorem s_cont (q : D.ct σ H) : Ws X (.Continue pos) D σ H := ws_of ps_continue q
theorem s_expr (h : We X e σ H fun _ H1 => D.nx σ H1) (hs : swapsWith e none pos.line X.env = pure false := by rfl) : Ws X (.Expr e pos) D σ H := ws_of (ps_expr peW hs) h
theorem s_ret (h : We X e σ H D.rt) : Ws X (.Return (some e) pos) D σ H := ws_of (ps_ret peW) h
theorem s_if {u v : List Stmt} (h : Wt X c σ H fun k H1 => if k = true then Wb X u D σ H1 else Wb X v D σ H1) : Ws X (.If c u v pos) D σ H := ws_of (ps_if ptW pbW pbW) h
theorem s_set (i : Nat) {x : Str} (hN : X.N.Nodup) (h : We X e σ H fun v H1 => D.nx (σ.set i (some v)) H1) (hi : X.N[i]? = some x := by rfl) (hx : Loc X.env.scope x := by first | exact Or.inl rfl | exact Or.inr rfl) (hs : swapsWith e (some (.Name x pos')) pos.line X.env = pure false := by rfl)
    (hf : X.fn x = true ∨ X.env.scope.names.lookup x = some .local := by first | exact .inl rfl | exact .inr rfl) : Ws X (.Assign [.Name x pos'] e pos) D σ H := ws_of (ps_set hN hi hx peW hs hf) h
end
end PR
namespace PR
open PySem PySem.Spec PyProof.Rows L2
section
variable {X : Cx} {e : Expr} {es : List Expr} {ta : TA} {p p1 p2 pos : Pos}
/-- S.__init__(self, ..), S a class of the program over ValueError without an own __init__ -/
theorem pe_sinit {S : Str} {C : Addr} {mc : Value} {pl : Sem Bool} (hg : Gl X S) (hm : X.mg S = some (.ref C)) (r : ClX.CRead X.K C mc) (vV : PySem.W.findCls X.K (.ref C) mc "__init__" = some (.val (.builtin "ValueError.__init__"))) (ha : PA X (e :: es) ta)
    (hdb : (S == ("__debug__" : Str)) = false := by decide)
    (hc : eval (.Call (.Attribute (.Name S p1) "__init__" p2) (e :: es) [] pos) X.env = (do
      let ov ← eval (.Name S p1) X.env
      standAt p2.atName
      let (f, first) ← holding [ov] (getMethod ov "__init__" pl)
      callWith pos f first (backTo pos (starEach (e :: es) X.env)) (backToKw pos (keywordEach [] X.env))) := by rfl)
    (he : starEach (e :: es) X.env = (false, eval e X.env) :: starEach es X.env := by rfl) (hpl : (backTo pos (starEach es X.env)).any (·.1) = false := by rfl) :
    PE X (.Call (.Attribute (.Name S p1) "__init__" p2) (e :: es) [] pos) (tVeI X.K ta) := by
  refine ⟨fun pins s σ H Q I h => ?_⟩
  refine PySem.W.methodCall_KW (ld_glob I hg hm ?_ hdb) hc
  refine PySem.W.method_cls I.kIn r.ga (PySem.W.cls_value I.kIn r.rd vV (by decide +kernel) ?_)
  show wpAny _ _ (callWith pos (Value.builtin "ValueError.__init__") [] (backTo pos (starEach (e :: es) X.env)) []) _ _ _
  refine PyProof.Rows.callWith_method1 (thn (ha.run pos pins _ σ H _ (I.tok _) h) fun us s1 ⟨vs, H1, I1, r1, a, C, ws, ev, hl, T, ea, q⟩ => ?_) he hpl
  subst ev
  cases r1 with
  | @cons _ u0 _ ur ra rw' =>
    obtain rfl : u0 = Value.ref a := ra
    have hlen : ur.length ≤ sizeLine := by
      rw [← Paired.length rw', sizeLine_eq]
      omega
    exact oinit_ok T I1 ea hlen fun s' J => ⟨.non, H1, J, rfl, q⟩
/-- the end of C(..) whose __init__ stores nothing: the exception is let go -/
theorem mk_endN {pins : List (Addr × Obj)} {σ : L2.St} {H1 H2 : Hp} {Q : XK} {hp hp2 h2 : Heap} {g1 g2 : Array GenState} {d1 d2 : Drawn} {t1 t2 : Nat} {os1 os2 : OsState} {a C : Addr} (T : Raises X (.ref C)) (I1 : Inv X pins σ H1 ⟨hp, g1, d1, t1, os1⟩)
    (ha : hp.objs.size ≤ a) (k : ∀ b o, hp.get? b = some o → hp2.get? b = some o) (un : Un (frs X.stack) [] (upd H1 a (exo a C none)) H2 hp2 h2) (hok : HOk X.prog X.w H2 h2) (ho : os2 = os1) (hb : AllBare g2)
    (ea : H2 a = some (exo a C none)) (q : Q (.ref C) none (del H2 a)) : MkP X pins σ Q (.ref a) ⟨h2, g2, d2, t2, os2⟩ := by
  obtain ⟨t0, hoe⟩ := exo_at hok ea
  have hn : H1 a = none := I1.hok.fresh ha
  obtain ⟨G, g1', g2'⟩ := restrict h2 fun b => decide (b ≠ a)
  have gk : ∀ b, b ≠ a → G.get? b = h2.get? b := fun b hb => g1' b (decide_eq_true hb)
  have ge : G.get? a = none := g2' a (by simp)
  have nha : ∀ {b : Addr} {o : Obj}, hp.get? b = some o → b ≠ a := fun {b o} z => Nat.ne_of_lt (Nat.lt_of_lt_of_le (Heap.lt_size z) ha)
  have up : ∀ {b : Addr}, b ≠ a → H1 b = none → upd H1 a (exo a C none) b = none := fun {b} hb n => by rw [upd_ne hb]; exact n
  have U : Un (frs X.stack) [] H1 (del H2 a) hp G := {
    keep := fun b o z n hf hx => by
      rw [gk b (nha z)]
      exact un.keep b o (k b o z) (up (nha z) n) hf hx
    slot := fun b o z n hf hx => by
      rw [gk b (nha z)]
      exact un.slot b o (k b o z) (up (nha z) n) hf hx
    free := fun b o z n hx => by
      rw [del_ne (nha z)]
      exact un.free b o (k b o z) (up (nha z) n) hx
    there := fun b o z hx => by
      rw [gk b (nha z)]
      exact un.there b o (k b o z) hx
    tups := fun b xs z => by
      rw [del_ne (ne_of_none z hn)]
      exact un.tups b xs (by rw [upd_ne (ne_of_none z hn)]; exact z)
    frzs := fun b o v z => by
      rw [del_ne (ne_of_none z hn)]
      exact un.frzs b o v (by rw [upd_ne (ne_of_none z hn)]; exact z)
    tbls := fun b ps z => by
      rw [del_ne (ne_of_none z hn)]
      exact un.tbls b ps (by rw [upd_ne (ne_of_none z hn)]; exact z) }
  have hok3 : HOk X.prog X.w (del H2 a) G := fun b o z => by
    have hba : b ≠ a := fun e => by
      rw [e, del_same] at z
      cases z
    rw [del_ne hba] at z
    have noa : ∀ {c : Addr}, H2 c = some (.own b) → c ≠ a := fun {c} hc => at_ne ea hc exo_own
    exact (hok b o z).stay (fun c v hc y => by
        have hca : c ≠ a := by
          rcases hc with hc | hc
          · rw [hc]
            exact hba
          · exact noa hc
        rw [gk c hca]
        exact y)
      (fun c hc => by rw [del_ne (noa hc)]; exact hc) (fun c xs hc => by rw [del_ne (at_ne ea hc exo_tup)]; exact hc)
  have J : Inv X pins σ (del H2 a) ⟨G, g2, d2, t2, os2⟩ := I1.call' (ch := []) ho U hok3 hb (fun b z => absurd z (by simp))
  refine ⟨a, _, _, ⟨G, g2, d2, t2, os2⟩, _, .ref C, none, rfl, J, fun b o z => ?_, ge, hoe, ⟨rfl, rfl⟩, rfl, rfl, del_same, rfl, hb, T, q⟩
  by_cases hba : b = a
  · rw [hba, ge] at z
    cases z
  · exact (gk b hba).symm.trans z
/-- C(), C's own __init__ keeping sp, nothing stored -/
def tMkO0 (C : Addr) (sp : Sp) : L2.St → Hp → XK → Prop := fun _ H Q => ∀ a, H a = none → sp [.ref a] (upd H a (exo a C none)) (fun v H2 => v = .non ∧ H2 a = some (exo a C none) ∧ Q (.ref C) none (del H2 a)) (fun _ _ _ => False)
theorem pmk_oex0 {CX : CXT} {x : Str} {C fI : Addr} {k : Nat} {fd : FuncData} {ps : List Str} {sp : Sp} (T : OexC X.K C) (iC : PySem.W.findIn X.K (.ref C) "__init__" = some (some (.ref fI))) (tI : PySem.W.typeIn X.K (.ref fI) = some (.type "function"))
    (F1 : FnOk X.prog X.w X.K X.mg X.base CX k fI fd ps sp) (hr : Room (k + 1) X.A) (hb : Binds X.K fd ps []) (hx : Passes CX X (fun _ _ _ => False)) (hg : Gl X x) (hm : X.mg x = some (.ref C))
    (hdb : (x == ("__debug__" : Str)) = false := by decide) :
    PMk X (.Call (.Name x p) [] [] pos) (tMkO0 C sp) := by
  intro pins s σ H1 Q I1 q1
  obtain ⟨nm, q, N, bs, bm, sn, sub, ab, col, dd, k0, k1, k2, k3, k5, hC, hbm⟩ := T.cls
  refine wpAny_Call_Name_kw (ld_glob I1 hg hm ?_ hdb)
  refine PySem.W.callWith_K0 I1.kIn T.kC ?_
  show wpAny _ _ (call (.ref C) []) _ _ _
  obtain ⟨hp, g, dr, tk, os⟩ := s
  have hsz : hp.objs.size ≤ hp.objs.size + 1 := Nat.le_succ _
  have hn : H1 (hp.objs.size + 1) = none := I1.hok.fresh hsz
  have hq := q1 (hp.objs.size + 1) hn
  have kk : ∀ b o, hp.get? b = some o → ((hp.push (PySem.W.kdv_tup [])).push (PySem.HandSPX.excO C hp.objs.size)).get? b = some o := fun b o e => Heap.get?_push_of_some _ (Heap.get?_push_of_some _ e)
  have hget : ((hp.push (PySem.W.kdv_tup [])).push (PySem.HandSPX.excO C hp.objs.size)).get? (hp.objs.size + 1) = some (PySem.HandSPX.excO C hp.objs.size) := by heap_get
  have I2 : Inv X pins σ (upd H1 (hp.objs.size + 1) (exo (hp.objs.size + 1) C none)) ⟨(hp.push (PySem.W.kdv_tup [])).push (PySem.HandSPX.excO C hp.objs.size), g, dr, tk, os⟩ :=
    I1.laid (t' := tk) (a := hp.objs.size + 1) (o := exo (hp.objs.size + 1) C none) (h' := (hp.push (PySem.W.kdv_tup [])).push (PySem.HandSPX.excO C hp.objs.size)) kk hsz (exo_ok hget)
  have r2 : Vals [V.ref (hp.objs.size + 1)] [Value.ref (hp.objs.size + 1)] := .cons rfl .nil
  have hl : ([Value.ref (hp.objs.size + 1)] ++ ([] : List Value)).length = ps.length := (F1.len _ _ _ _ hq)
  refine wpAny_call (PySem.HandSPX.call_own F.excBase_ValueError (fun Y => PySem.HandSPX.refsVE_contains Y bm hbm) (I1.kIn _ _ hC) (PySem.W.looks_findIn I1.kIn iC) (fun self => PySem.W.bind_fn I1.kIn self tI) (by simp)
    (codeAny_mono (F1.run _ X.stack _ _ ⟨[Value.ref (hp.objs.size + 1)], []⟩ [Value.ref (hp.objs.size + 1)] _ _ (fun _ _ _ => False) (hr.make C [] []) (I2.env0.make C [] []) (hb _ [Value.ref (hp.objs.size + 1)] I2.kIn hl) r2 hq) fun r s' hq' => ?_))
  cases r with
  | error er => exact hx pins σ _ _ er s' I2 hq'
  | ok fl =>
    cases fl with
    | ret u =>
      obtain ⟨v, H2, os2, bare2, un2, hok2, rv, ev, ea, q2⟩ := hq'
      subst ev
      obtain ⟨h2, g2, d2, t2, os'⟩ := s'
      exact ⟨rv, mk_endN (raises_own T.exC T.tyC) I1 hsz kk un2 hok2 os2 bare2 ea q2⟩
    | next => exact False.elim hq'
    | brk => exact False.elim hq'
    | cont => exact False.elim hq'
end
end PR
namespace PR
open PySem PySem.Spec PyProof.Rows L2
/-! ### calls -/
theorem passX {P : Program} {w : World} {K : PySem.W.Frag} {mg : Str → Option Value} {base : Heap} {N : List Str} {qual : Str} {sc : Scope} {f : Addr} {cdv : Value} {A : Around} {outer : List Env} {s : Shared} {H : Hp} {E : XK} :
    Passes (L2.CX P w) (cxOf (L2.CX P w) P w K mg base N qual sc f cdv A outer s H E) E :=
  passes_call (X := cxOf (L2.CX P w) P w K mg base N qual sc f cdv A outer s H E) (takes_of (E := E) rfl rfl rfl rfl) fun _ _ _ _ h => h
section
variable {X : Cx} {e o a b : Expr} {es : List Expr} {σ : L2.St} {H : Hp} {Q : VK} {p pos apos : Pos} {CX : CXT} {k : Nat} {f C g : Addr} {sp : Sp} {E : XK} {x m : Str}
/-- x(e, ..), x a def of the module -/
theorem w_call (F : FnR X.prog X.w X.K X.mg X.base CX k f sp) (hr : Room k X.A) (hm : X.mg x = some (.ref f)) (hk : PySem.W.keepIn X.K (.ref f) = true) (hx : Passes CX X E)
    (h : Wa X (e :: es) σ H fun vs H1 => sp vs H1 Q E) (hg : Gl X x := by rfl) (hdb : (x == ("__debug__" : Str)) = false := by decide) (he : starEach (e :: es) X.env = (false, eval e X.env) :: starEach es X.env := by rfl) (hpl : (backTo pos (starEach es X.env)).any (·.1) = false := by rfl) :
    We X (.Call (.Name x p) (e :: es) [] pos) σ H Q := by
  refine ⟨fun pins s I => ?_⟩
  refine wpAny_Call_Name_kw (ld_glob I hg hm ?_ hdb)
  refine PySem.W.callWith_K (h₀ := X.base) I.ok.mod.kin hk (thn (h.run pos pins s I) fun us s1 ⟨vs, H1, I1, r, q⟩ => ⟨I1.kIn, ?_⟩) he hpl
  exact wpAny_call (run_fnR F hr hx I1 r q)
theorem w_call0 (F : FnR X.prog X.w X.K X.mg X.base CX k f sp) (hr : Room k X.A) (hm : X.mg x = some (.ref f)) (hk : PySem.W.keepIn X.K (.ref f) = true) (hx : Passes CX X E)
    (h : sp [] H Q E) (hg : Gl X x := by rfl) (hdb : (x == ("__debug__" : Str)) = false := by decide) : We X (.Call (.Name x p) [] [] pos) σ H Q := by
  refine ⟨fun pins s I => ?_⟩
  refine wpAny_Call_Name_kw (ld_glob I hg hm ?_ hdb)
  exact PySem.W.callWith_K0 I.kIn hk (wpAny_call (run_fnR (us := []) F hr hx I .nil h))
/-- o.m(e, ..) -/
theorem w_meth {pl : Sem Bool} (c : Cls X.K C) (hm : Meth X.K C m f) (F : FnR X.prog X.w X.K X.mg X.base CX k f sp) (hr : Room k X.A) (hx : Passes CX X E)
    (h : We X o σ H fun x H1 => ∃ a dx fs, x = .ref a ∧ H1 a = some (.ins C dx fs) ∧ fs.lookup m = none ∧ Wa X (e :: es) σ H1 fun vs H2 => sp (x :: vs) H2 Q E)
    (hst : starEach (e :: es) X.env = (false, eval e X.env) :: starEach es X.env := by rfl) (hpl : (backTo pos (starEach es X.env)).any (·.1) = false := by rfl)
    (ht : eval (.Call (.Attribute o m apos) (e :: es) [] pos) X.env = (do
      let ov ← eval o X.env
      standAt apos.atName
      let (f, first) ← holding [ov] (getMethod ov m pl)
      callWith pos f first (backTo pos (starEach (e :: es) X.env)) (backToKw pos (keywordEach [] X.env))) := by rfl) :
    We X (.Call (.Attribute o m apos) (e :: es) [] pos) σ H Q := we_of (pe_methR peW c hm F hr hx paW hst hpl ht) h
theorem w_meth0 {pl : Sem Bool} (c : Cls X.K C) (hm : Meth X.K C m f) (F : FnR X.prog X.w X.K X.mg X.base CX k f sp) (hr : Room k X.A) (hx : Passes CX X E)
    (h : We X o σ H fun x H1 => ∃ a dx fs, x = .ref a ∧ H1 a = some (.ins C dx fs) ∧ fs.lookup m = none ∧ sp [x] H1 Q E)
    (ht : eval (.Call (.Attribute o m apos) [] [] pos) X.env = (do
      let ov ← eval o X.env
      standAt apos.atName
      let (f, first) ← holding [ov] (getMethod ov m pl)
      callWith pos f first (backTo pos (starEach [] X.env)) (backToKw pos (keywordEach [] X.env))) := by rfl) :
    We X (.Call (.Attribute o m apos) [] [] pos) σ H Q := by
  refine ⟨fun pins s I => ?_⟩
  refine PySem.W.methodCall_KW (pl := pl) (thn (h.run pins s I) fun u s1 ⟨x, H1, I1, rx, a, dx, fs, ex, ea, l, q⟩ => ?_) ht
  subst ex
  obtain rfl : u = Value.ref a := rx
  refine getmeth_ok I1 ea c hm l ?_
  exact PySem.W.callWith_K0 (first := [.ref a]) I1.kIn hm.kp (wpAny_call (run_fnR (us := [.ref a]) (vs := [.ref a]) F hr hx I1 (.cons rfl .nil) q))
/-- C(e, ..) -/
theorem w_make (M : Mk X.K C f) (F : FnR X.prog X.w X.K X.mg X.base CX k f sp) (hr : Room (k + 1) X.A) (hm : X.mg x = some (.ref C)) (hx : Passes CX X E)
    (h : Wa X (e :: es) σ H fun vs H1 => ∀ x dx, H1 x = Option.none → H1 dx = Option.none → dx ≠ x → sp (V.ref x :: vs) (upd (upd H1 dx (.own x)) x (.ins C dx [])) (fun v H2 => v = .non ∧ Q (.ref x) H2) E)
    (hg : Gl X x := by rfl) (hdb : (x == ("__debug__" : Str)) = false := by decide) (he : starEach (e :: es) X.env = (false, eval e X.env) :: starEach es X.env := by rfl) (hpl : (backTo pos (starEach es X.env)).any (·.1) = false := by rfl) :
    We X (.Call (.Name x p) (e :: es) [] pos) σ H Q := we_of (StX.pe_makeR M F hr hg hm hx paW hdb he hpl) h
/-- a builtin -/
theorem w_callB {id : String} {r : List V → Hp → VK → Prop} (hc : CallR X (.builtin id) r) (hm : X.mg x = none) (hv : bootBuiltins x = some (.builtin id)) (h : Wa X (e :: es) σ H fun vs H1 => r vs H1 Q) (hg : Gl X x := by rfl) (hn : x ≠ "__name__" := by decide) (hdb : (x == ("__debug__" : Str)) = false := by decide)
    (he : starEach (e :: es) X.env = (false, eval e X.env) :: starEach es X.env := by rfl) (hpl : (backTo pos (starEach es X.env)).any (·.1) = false := by rfl) : We X (.Call (.Name x p) (e :: es) [] pos) σ H Q :=
  we_of (pe_callB hc hg hm hv paW hn hdb he hpl) h
theorem w_callT {T : String} {r : List V → Hp → VK → Prop} (hc : CallR X (.type T) r) (hm : X.mg x = none) (hv : bootBuiltins x = some (.type T)) (h : Wa X (e :: es) σ H fun vs H1 => r vs H1 Q) (hg : Gl X x := by rfl) (hn : x ≠ "__name__" := by decide) (hdb : (x == ("__debug__" : Str)) = false := by decide)
    (he : starEach (e :: es) X.env = (false, eval e X.env) :: starEach es X.env := by rfl) (hpl : (backTo pos (starEach es X.env)).any (·.1) = false := by rfl) : We X (.Call (.Name x p) (e :: es) [] pos) σ H Q :=
  we_of (pe_callTy hc hg hm hv paW hn hdb he hpl) h
end
/-! ### operators of an own class -/
/-- what of the text x op y asks: C's own def for op; int has one too -/
structure OwnB (K : PySem.W.Frag) (C g : Addr) (op : Operator) : Prop where
  first : PySem.W.selfFirst K C = true
  at_ : PySem.W.findIn K (.ref C) (PySem.dunder op.info.2) = some (some (.ref g))
  fn : PySem.W.isFn K (.ref g) = true
  rev : PySem.W.findIn K (.ref C) (dunderR op.info.2) = some none
  sub : PySem.W.subIn K (.type "int") (.ref C) = some false
  i1 : ∃ fo, PySem.W.findIn K (.type "int") (PySem.dunder op.info.2) = some fo
  i2 : ∃ ro, PySem.W.findIn K (.type "int") (dunderR op.info.2) = some ro
/-- y beside an instance of C: another one, or an int -/
def Mate (C : Addr) (H : Hp) (y : V) : Prop := (∃ b dy gs, y = .ref b ∧ H b = some (.ins C dy gs)) ∨ ∃ i, y = .int i
def rOwnB (C : Addr) (sp : Sp) (E : XK) : R2 := fun x y H Q => ∃ a dx fs, x = .ref a ∧ H a = some (.ins C dx fs) ∧ Mate C H y ∧ sp [x, y] H Q E
section
variable {X : Cx} {CX : CXT} {k : Nat} {C g : Addr} {sp : Sp} {E : XK}
theorem op_ownB {op : Operator} (O : OwnB X.K C g op) (F : FnR X.prog X.w X.K X.mg X.base CX k g sp) (hr : Room k X.A) (hx : Passes CX X E) : OpR X (binaryOp op) (rOwnB C sp E) := by
  intro pins s σ H x y v u Q I rx ry h
  obtain ⟨a, dx, fs, rfl, ha, hy, q⟩ := h
  cases (show v = Value.ref a from rx)
  obtain ⟨mA, OA, _⟩ := ins_get I.hok ha
  obtain ⟨od, J, _⟩ := OA.look
  obtain ⟨m, hF⟩ := I.fr
  rcases hy with ⟨b, dy, gs, rfl, hb⟩ | ⟨i, rfl⟩
  · cases (show u = Value.ref b from ry)
    obtain ⟨mB, OB, _⟩ := ins_get I.hok hb
    obtain ⟨ob, JB, _⟩ := OB.look
    refine PySem.W.binop_K hF I.ok.mod.kin J JB.type O.first O.at_ O.fn ?_
    refine wpAny_mono (wpAny_call (run_fnR (us := [.ref a, .ref b]) (vs := [.ref a, .ref b]) F hr hx I (.cons rfl (.cons rfl .nil)) q)) (fun w s' z => ?_) fun _ _ x => x
    obtain ⟨z', H', I', rz, qz⟩ := z
    exact SlX.cmpback rz ⟨z', H', I', rz, qz⟩
  · obtain ⟨t, rfl⟩ := ry
    obtain ⟨fo, h1⟩ := O.i1
    obtain ⟨ro, h2⟩ := O.i2
    refine PySem.W.ksp_binT hF I.ok.mod.kin J (T := "int") rfl O.first O.at_ O.fn O.rev (Or.inl rfl) h1 h2 O.sub ?_
    refine wpAny_mono (wpAny_call (run_fnR (us := [.ref a, .int i t]) (vs := [.ref a, .int i]) F hr hx I (.cons rfl (.cons ⟨t, rfl⟩ .nil)) q)) (fun w s' z => ?_) fun _ _ x => x
    obtain ⟨z', H', I', rz, qz⟩ := z
    exact SlX.cmpback rz ⟨z', H', I', rz, qz⟩
/-- -x -/
def rOwnU (C : Addr) (sp : Sp) (E : XK) : V → Hp → VK → Prop := fun x H Q => ∃ a dx fs, x = .ref a ∧ H a = some (.ins C dx fs) ∧ sp [x] H Q E
theorem un_own (hs : PySem.W.findIn X.K (.ref C) "__neg__" = some (some (.ref g))) (hf : PySem.W.isFn X.K (.ref g) = true) (F : FnR X.prog X.w X.K X.mg X.base CX k g sp) (hr : Room k X.A) (hx : Passes CX X E) : UnR X (unaryOp .USub) (rOwnU C sp E) := by
  intro pins s σ H x v Q I rx h
  obtain ⟨a, dx, fs, rfl, ha, q⟩ := h
  cases (show v = Value.ref a from rx)
  obtain ⟨mA, OA, _⟩ := ins_get I.hok ha
  obtain ⟨od, J, _⟩ := OA.look
  obtain ⟨m, hF⟩ := I.fr
  exact PySem.W.ksp_neg hF I.ok.mod.kin J hs hf (wpAny_call (run_fnR (us := [.ref a]) (vs := [.ref a]) F hr hx I (.cons rfl .nil) q))
/-- x == y, x < y, x <= y, x of the class at C: y of a type that is not below it -/
def rOwnC (K : PySem.W.Frag) (C : Addr) (sp : Sp) (E : XK) : R2 := fun x y H Q => ∃ a dx fs t, x = .ref a ∧ H a = some (.ins C dx fs) ∧ TyX K H y t ∧ PySem.W.notFirst K C t = true ∧ sp [x, y] H Q E
theorem op_ownC {op : CmpOp} (hop : ∀ a b, compareOp op a b = richCompare op a b) (hs : PySem.W.findIn X.K (.ref C) (cmpInfo op).2.1 = some (some (.ref g))) (hf : PySem.W.isFn X.K (.ref g) = true)
    (F : FnR X.prog X.w X.K X.mg X.base CX k g sp) (hr : Room k X.A) (hx : Passes CX X E) : OpR X (compareOp op) (rOwnC X.K C sp E) := by
  intro pins s σ H x y v u Q I rx ry h
  obtain ⟨a, dx, fs, t, rfl, ha, ty, hn, q⟩ := h
  cases (show v = Value.ref a from rx)
  obtain ⟨mA, OA, _⟩ := ins_get I.hok ha
  obtain ⟨od, J, _⟩ := OA.look
  obtain ⟨m, hF⟩ := I.fr
  obtain ⟨P, Z, hp, _⟩ := kit_of I ry ty
  rw [hop]
  refine PySem.W.cmp_K (op := op) (tb := t) hr.units0 hF I.ok.mod.kin J (Z.ty (model X.prog X.w) _ I.kIn hp) hn hs hf ?_
  refine wpAny_mono (wpAny_call (run_fnR (us := [.ref a, u]) (vs := [.ref a, y]) F hr hx I (.cons rfl (.cons ry .nil)) q)) (fun w s' z => ?_) fun _ _ x => x
  obtain ⟨z', H', I', rz, qz⟩ := z
  exact SlX.cmpback rz ⟨z', H', I', rz, qz⟩
end
end PR
namespace PR
open PySem PySem.Spec PyProof.Rows L2
section
variable {prog : Program} {w : World} {A : Around} {E : Value → Shared → Prop} {s : Shared} {K : PySem.W.Frag} {x C L f : Addr} {h₀ : Heap} {m : Str → Option Value} {ox : Obj} {od : Option Obj} {b tb : Value}
/-- the body of object.__ne__: the own __eq__, turned round -/
theorem objne_K {Q : Fin → Shared → Prop} (hu : A.units < cLine) (X : K.In s.heap) (I : PySem.W.InstAt s.heap x ox C od) (hs : PySem.W.findIn K (.ref C) "__eq__" = some (some (.ref f))) (hf : PySem.W.isFn K (.ref f) = true)
    (h : wpAny (model prog w) A (call (.ref f) [.ref x, b]) (fun v s' => ∃ k, v = .bool k ∧ Q (.done (.ret (.bool (!k)))) s') E s) : wpAny (model prog w) A (Builtin.«object.__ne__» ⟨[.ref x, b], []⟩) Q E s := by
  unfold Builtin.«object.__ne__»
  refine wpAny_bind (wpAny_of_eq (a := (.ref x, [b])) (by first | rfl | kernel_rfl) ?_)
  refine wpAny_bind (wpAny_cRoomFor hu ?_)
  refine wpAny_bind (PySem.W.ifBound_K X I hs hf (wpAny_mono h (fun v s' hv => ?_) fun _ _ e => e))
  obtain ⟨k, rfl, hq⟩ := hv
  refine wpAny_bind (wpAny_truthy_bool ?_)
  exact wpAny_pure hq
theorem ifBound_B {M : Model} {name : Str} {id : String} {B : String} {args : List Value} {Q : Option Value → Shared → Prop} (X : K.In s.heap) (I : PySem.W.InstAt s.heap x ox C od) (hs : PySem.W.findIn K (.ref C) name = some (some (.builtin id))) (S : Slot B name id)
    (h : wpAny M A (call (.builtin id) (.ref x :: args)) (fun v => Q (some v)) E s) : wpAny M A (callSpecialIfBound? (.ref x) name args) Q E s := by
  simp only [callSpecialIfBound?, bindSpecialIfBound?]
  refine wpAny_holding (wpAny_bind (wpAny_bind (wpAny_bind (I.type.here ((PySem.W.looks_findIn X hs).here ?_)))))
  simp only [S.bind]
  refine wpAny_bind (wpAny_askSetting (wpAny_ite ?_))
  have fin : wpAny M A (call (.builtin id) ([.ref x] ++ args) >>= fun v => pure (some v)) Q E s := wpAny_bind (wpAny_mono h (fun v s' h' => wpAny_pure h') fun _ _ h' => h')
  split
  · exact wpAny_bind (wpAny_pure (wpAny_pure fin))
  · exact wpAny_tryCatch (wpAny_bind (wpAny_pure (wpAny_pure fin)))
theorem ne_K {Q : Value → Shared → Prop} (hu : A.units + 1 < cLine) (F : Fr h₀ L s.heap m) (X₀ : K.In h₀) (I : PySem.W.InstAt s.heap x ox C od) (hb : PySem.W.Looks (model prog w) s.heap (typeOf b) tb) (hn : PySem.W.notFirst K C tb = true)
    (hs : PySem.W.findIn K (.ref C) "__eq__" = some (some (.ref f))) (hf : PySem.W.isFn K (.ref f) = true) (hne : PySem.W.findIn K (.ref C) "__ne__" = some (some (.builtin "object.__ne__"))) (hm : PySem.W.mroIn K C (.type "object") = some true)
    (h : wpAny (model prog w) A.in1 (call (.ref f) [.ref x, b]) (fun v s' => ∃ k, v = .bool k ∧ Q (.bool (!k)) s') E s) : wpAny (model prog w) A (richCompare .NotEq (.ref x) b) Q E s := by
  have X := X₀.keeps F.keep
  have FB := PySem.F.cmp_object
  have sub : PySem.W.Looks (model prog w) s.heap (isInstance (.ref x) (.type "object")) true := I.type.andThen (PySem.W.looks_mroIn X hm)
  have one : wpAny (model prog w) A (tryCompare (.ref x) "__ne__" b) (fun r s' => ∃ v, r = some v ∧ Q v s') E s := by
    unfold tryCompare
    refine wpAny_bind (ifBound_B X I hne FB.ne (wpAny_call (codeAny_call_builtin FB.ne.plain PySem.F.cmpEntry_ne
      (PySem.W.check_slot PySem.F.cmpKind_ne PySem.F.cmpSplit_ne sub (PySem.F.cmpArgs_ne _ _) (objne_K (A := A.in1) hu X I hs hf (wpAny_mono h (fun v s' hv => ?_) fun _ _ e => e))))))
    obtain ⟨k, rfl, hq⟩ := hv
    exact ⟨k, rfl, wpAny_pure ⟨_, rfl, hq⟩⟩
  unfold richCompare
  simp only [oneThing_ref]
  refine wpAny_holding (wpAny_bind (wpAny_cRoomFor (Nat.lt_of_succ_lt hu) ?_))
  rw [PySem.cmpInfo_NotEq]
  dsimp only
  refine wpAny_bind (I.type.here (wpAny_bind (hb.here ?_)))
  split
  · rename_i q
    have e : PySem.W.subIn K tb (.ref C) = some false := by
      rcases Bool.or_eq_true_iff.mp hn with e | e
      · rw [beq_iff_eq.mp e] at q; simp at q
      · exact beq_iff_eq.mp e
    refine wpAny_bind ((PySem.W.looks_subIn X e).here ?_)
    simp only [Bool.false_eq_true, if_false]
    refine wpAny_bind (wpAny_mono one (fun r s' z => ?_) fun _ _ e => e)
    obtain ⟨v, rfl, hq⟩ := z
    exact wpAny_pure hq
  · refine wpAny_bind (wpAny_pure ?_)
    simp only [Bool.false_eq_true, if_false]
    refine wpAny_bind (wpAny_mono one (fun r s' z => ?_) fun _ _ e => e)
    obtain ⟨v, rfl, hq⟩ := z
    exact wpAny_pure hq
end
/-- x != y by an own __eq__ -/
def rOwnN (K : PySem.W.Frag) (C : Addr) (sp : Sp) (E : XK) : R2 := fun x y H Q => ∃ a dx fs t, x = .ref a ∧ H a = some (.ins C dx fs) ∧ TyX K H y t ∧ PySem.W.notFirst K C t = true ∧ sp [x, y] H (fun v H' => ∃ k, v = .bl k ∧ Q (.bl (!k)) H') E
section
variable {X : Cx} {CX : CXT} {k : Nat} {C g : Addr} {sp : Sp} {E : XK}
theorem op_ownN (hs : PySem.W.findIn X.K (.ref C) "__eq__" = some (some (.ref g))) (hf : PySem.W.isFn X.K (.ref g) = true) (hne : PySem.W.findIn X.K (.ref C) "__ne__" = some (some (.builtin "object.__ne__"))) (hmr : PySem.W.mroIn X.K C (.type "object") = some true)
    (F : FnR X.prog X.w X.K X.mg X.base CX k g sp) (hr : Room (k + 1) X.A) (hx : Passes CX X E) : OpR X (compareOp .NotEq) (rOwnN X.K C sp E) := by
  intro pins s σ H x y v u Q I rx ry h
  obtain ⟨a, dx, fs, t, rfl, ha, ty, hn, q⟩ := h
  cases (show v = Value.ref a from rx)
  obtain ⟨mA, OA, _⟩ := ins_get I.hok ha
  obtain ⟨od, J, _⟩ := OA.look
  obtain ⟨m, hF⟩ := I.fr
  obtain ⟨P, Z, hp, _⟩ := kit_of I ry ty
  show wpAny _ _ (richCompare .NotEq (.ref a) u) _ _ _
  refine ne_K (tb := t) (hu_of hr) hF I.ok.mod.kin J (Z.ty (model X.prog X.w) _ I.kIn hp) hn hs hf hne hmr ?_
  refine wpAny_mono (wpAny_call (SlX.run_at (us := [.ref a, u]) (ws := [.ref a, y]) F hr.in1 I.env0.in1 hx I (.cons rfl (.cons ry .nil)) q)) (fun w s' z => ?_) fun _ _ x => x
  obtain ⟨z', H', I', rz, kk, ek, qz⟩ := z
  subst ek
  cases rz
  exact ⟨kk, rfl, .bl (!kk), H', I', rfl, qz⟩
end
end PR
/-! The head's facts: any tests of the written part, and the defs. -/
namespace PH
open PySem PySem.Spec PyProof.Rows L2 He5
abbrev Ck : Type := PySem.W.Frag → Bool
def obsP (fa : List Ck) (fn : List DefA) (K : PySem.W.Frag) : He.AlD := ((fa.all fun f => f K) && fn.all fun d => d.ok K, fn.map fun d => fnA K (d.at_ K))
def SaysP (fa : List Ck) (fn : List DefA) (K : PySem.W.Frag) : Prop := obsP fa fn K = valA fn
def obsPG (n : Nat) (fa : List Ck) (fn : List DefA) (g : Addr → Option Obj) : He.AlD := obsP fa fn (He.frG g (asA g n))
def hookP (n : Nat) (fa : List Ck) (fn : List DefA) : PySem.W.Hook where
  α := He.AlD
  obs := fun s => obsPG n fa fn s.heap.get?
  val := fun _ => valA fn
  says := fun _ h => ∃ K : PySem.W.Frag, K.In h ∧ SaysP fa fn K
  of := fun _ _ e => ⟨_, He.frG_in, e⟩
  keeps := fun _ _ _ ⟨K, hK, c⟩ k => ⟨K, PySem.W.Frag.In.keeps hK k, c⟩
theorem obsPG_eq {n : Nat} {fa : List Ck} {fn : List DefA} {g : Addr → Option Obj} {s : Shared} (h : ∀ a, g a = s.heap.get? a) : obsPG n fa fn g = (hookP n fa fn).obs s := by
  have e : g = s.heap.get? := funext h
  rw [e] <;> rfl
section
variable {fa : List Ck} {fn : List DefA} {K : PySem.W.Frag}
theorem SaysP.fact (c : SaysP fa fn K) (i : Nat) {f : Ck} (h : fa[i]? = some f := by rfl) : f K = true := by
  have c1 := (He.ba (show ((fa.all fun f => f K) && fn.all fun d => d.ok K) = true from congrArg (fun z : He.AlD => z.1) c)).1
  exact List.all_eq_true.mp c1 f (List.mem_of_getElem? h)
theorem SaysP.def_ (c : SaysP fa fn K) (i : Nat) {d : DefA} (h : fn[i]? = some d := by rfl) : ∃ fd, L2.FunD K d.name d.qual d.params d.body d.scope (d.dvs K) (d.kws K) (d.at_ K) fd := by
  have c2 := (He.ba (show ((fa.all fun f => f K) && fn.all fun d => d.ok K) = true from congrArg (fun z : He.AlD => z.1) c)).2
  have e : fn.map (fun d => fnA K (d.at_ K)) = fn.map DefA.val := congrArg (fun z : He.AlD => z.2) c
  have e2 : (fn.map fun d => fnA K (d.at_ K))[i]? = (fn.map DefA.val)[i]? := by rw [e]
  rw [List.getElem?_map, List.getElem?_map, h] at e2
  exact DefA.funD (Option.some.inj e2) (List.all_eq_true.mp c2 d (List.mem_of_getElem? h))
end
end PH
/-! Kinds of facts about what the top has left, each a test and what it shows. -/
namespace PH
open PySem PySem.Spec PyProof.Rows L2 He
def eqT (a b : Option Value) : Bool := decide (a = b)
def eqBo (a b : Option Bool) : Bool := decide (a = b)
def ckGlo (x : Str) : Ck := fun K => (Fa.glo x).ok K
def ckFree (x : Str) : Ck := fun K => (Fa.free x).ok K
def ckCls (x : Str) : Ck := fun K => (Fa.cls x).ok K
def ckNoat (x f : Str) : Ck := fun K => (Fa.noat x f).ok K
def ckMeth (x m : Str) : Ck := fun K => (Fa.meth x m).ok K
def ckMkr (x : Str) : Ck := fun K => (Fa.mkr x).ok K
def ckExm (x y : Str) (b : Bool) : Ck := fun K => (Fa.exm x y b).ok K
def ckKeep (x : Str) : Ck := fun K => (Fa.keep x).ok K
/-- the class of an error of the program's own -/
def oexB (K : PySem.W.Frag) (C : Addr) : Bool := match K.lookup C with
  | some ⟨.type t, _, .cls cd, sl⟩ => decide (t = "type") && (match cd.mro, sl.toList with
    | .ref C' :: bm, [_, _, _, _, some (.builtin n), _] => (C' == C) && (decide (n = "ValueError.__new__") && (!cd.hasDel && (cd.hasDict && PySem.HandSPX.refsVE bm)))
    | _, _ => false)
  | _ => false
def ckOex (x : Str) : Ck := fun K => oexB K (ga K x) && (eqO (PySem.W.findIn K (.ref (ga K x)) "__setattr__") (some (some (.builtin "object.__setattr__"))) && (eqBo (PySem.W.subIn K (.ref (ga K x)) (.type "BaseException")) (some true) &&
  (eqT (PySem.W.typeIn K (.ref (ga K x))) (some (.type "type")) && PySem.W.keepIn K (.ref (ga K x)))))
theorem oex_ok {K : PySem.W.Frag} {x : Str} (c : ckOex x K = true) : OexC K (ga K x) := by
  obtain ⟨c1, c⟩ := ba c
  obtain ⟨c2, c⟩ := ba c
  obtain ⟨c3, c⟩ := ba c
  obtain ⟨c4, c5⟩ := ba c
  refine ⟨?_, eqO_ok c2, of_decide_eq_true c3, of_decide_eq_true c4, c5⟩
  generalize ga K x = C at c1 ⊢
  unfold oexB at c1
  split at c1
  · rename_i t dd cd sl ho
    obtain ⟨e0, c1⟩ := ba c1
    split at c1
    · rename_i C' bm k0 k1 k2 k3 n k5 hm hs
      obtain ⟨e1, c1⟩ := ba c1
      obtain ⟨e2, c1⟩ := ba c1
      obtain ⟨e3, c1⟩ := ba c1
      obtain ⟨e4, e5⟩ := ba c1
      have h0 := of_decide_eq_true e0
      have h1 := beq_iff_eq.mp e1
      have h2 := of_decide_eq_true e2
      subst h0 h1 h2
      obtain ⟨nm, bs, mro, ns, qn, hd, sn, sub, ab, col, del⟩ := cd
      dsimp only at hm e3 e4
      have h3 : del = false := by simpa using e3
      subst hm h3 e4
      have hsl : sl = #[k0, k1, k2, k3, some (.builtin "ValueError.__new__"), k5] := by
        obtain ⟨l⟩ := sl
        simp only at hs
        rw [hs]
      subst hsl
      exact ⟨nm, qn, ns, bs, bm, sn, sub, ab, col, dd, k0, k1, k2, k3, k5, ho, e5⟩
    · cases c1
  · cases c1
/-- the fields of such an error are read -/
def ckXf (x : Str) : Ck := fun K => eqO (PySem.W.findIn K (.ref (ga K x)) "__getattribute__") (some (some (.builtin "BaseException.__getattribute__"))) && (eqO (PySem.W.findIn K (.ref (ga K x)) "__getattr__") (some none) && (eqBo (PySem.W.subIn K (.ref (ga K x)) (.type "BaseException")) (some true) && PySem.W.hasDictIn K (ga K x)))
theorem xf_ok {K : PySem.W.Frag} {x : Str} (c : ckXf x K = true) : XfC K (ga K x) := by
  obtain ⟨c1, c⟩ := ba c
  obtain ⟨c2, c⟩ := ba c
  obtain ⟨c3, c4⟩ := ba c
  exact ⟨eqO_ok c1, eqO_ok c2, of_decide_eq_true c3, c4⟩
/-- C's own def m -/
def ckDef (x m : Str) : Ck := fun K => eqO (PySem.W.findIn K (.ref (ga K x)) m) (some (some (.ref (ma K (ga K x) m)))) && eqT (PySem.W.typeIn K (.ref (ma K (ga K x) m))) (some (.type "function"))
structure Df (K : PySem.W.Frag) (C : Addr) (m : Str) : Prop where
  at_ : PySem.W.findIn K (.ref C) m = some (some (.ref (ma K C m)))
  ty : PySem.W.typeIn K (.ref (ma K C m)) = some (.type "function")
theorem Df.fn {K : PySem.W.Frag} {C : Addr} {m : Str} (d : Df K C m) : PySem.W.isFn K (.ref (ma K C m)) = true := by
  unfold PySem.W.isFn
  rw [d.ty]
  rfl
theorem def_ok {K : PySem.W.Frag} {x m : Str} (c : ckDef x m K = true) : Df K (ga K x) m := by
  obtain ⟨c1, c2⟩ := ba c
  exact ⟨eqO_ok c1, of_decide_eq_true c2⟩
/-- an operator of C -/
def ckOwnB (x : Str) (op : Operator) (m : Str) : Ck := fun K => PySem.W.selfFirst K (ga K x) && (eqO (PySem.W.findIn K (.ref (ga K x)) (PySem.dunder op.info.2)) (some (some (.ref (ma K (ga K x) m)))) && (PySem.W.isFn K (.ref (ma K (ga K x) m)) &&
  (eqO (PySem.W.findIn K (.ref (ga K x)) (dunderR op.info.2)) (some none) && (eqBo (PySem.W.subIn K (.type "int") (.ref (ga K x))) (some false) && ((PySem.W.findIn K (.type "int") (PySem.dunder op.info.2)).isSome && (PySem.W.findIn K (.type "int") (dunderR op.info.2)).isSome)))))
theorem ownB_ok {K : PySem.W.Frag} {x m : Str} {op : Operator} (c : ckOwnB x op m K = true) : PR.OwnB K (ga K x) (ma K (ga K x) m) op := by
  obtain ⟨c1, c⟩ := ba c
  obtain ⟨c2, c⟩ := ba c
  obtain ⟨c3, c⟩ := ba c
  obtain ⟨c4, c⟩ := ba c
  obtain ⟨c5, c⟩ := ba c
  obtain ⟨c6, c7⟩ := ba c
  exact ⟨c1, eqO_ok c2, c3, eqO_ok c4, of_decide_eq_true c5, Option.isSome_iff_exists.mp c6, Option.isSome_iff_exists.mp c7⟩
/-- what isinstance asks of C's instances -/
structure Isi (K : PySem.W.Frag) (C : Addr) : Prop where
  ha : PySem.W.findIn K (.ref C) "__class__" = some (some (.builtin "object.__class__"))
  hn : PySem.W.specialIn K (.builtin "object.__class__") "__get__" = some (some (.builtin "getset_descriptor.__get__"))
  htk : PySem.W.takesIn K (.builtin "object.__class__") = some true
  hm : PySem.W.mroIn K C (.type "object") = some true
def ckIsi (x : Str) : Ck := fun K => eqO (PySem.W.findIn K (.ref (ga K x)) "__class__") (some (some (.builtin "object.__class__"))) && (eqO (PySem.W.specialIn K (.builtin "object.__class__") "__get__") (some (some (.builtin "getset_descriptor.__get__"))) &&
  (eqBo (PySem.W.takesIn K (.builtin "object.__class__")) (some true) && eqBo (PySem.W.mroIn K (ga K x) (.type "object")) (some true)))
theorem isi_ok {K : PySem.W.Frag} {x : Str} (c : ckIsi x K = true) : Isi K (ga K x) := by
  obtain ⟨c1, c⟩ := ba c
  obtain ⟨c2, c⟩ := ba c
  obtain ⟨c3, c4⟩ := ba c
  exact ⟨eqO_ok c1, eqO_ok c2, of_decide_eq_true c3, of_decide_eq_true c4⟩
theorem Isi.ty {K : PySem.W.Frag} {C : Addr} {H : Hp} {a dx : Addr} {fs : List (Str × V)} (i : Isi K C) (c : Cls K C) (e : H a = some (.ins C dx fs)) : TyX K H (.ref a) (.ref C) := .base (.ins e c i.ha i.hn i.htk i.hm)
/-- isinstance's answer: of an instance of the class x, of a built-in type, about the class y or a built-in one -/
def ckKitO (x y : Str) (b : Bool) : Ck := fun K => eqBo (PySem.W.kitOne K (.ref (ga K x)) (.ref (ga K y))) (some b)
theorem kitO_ok {K : PySem.W.Frag} {x y : Str} {b : Bool} (c : ckKitO x y b K = true) : PySem.W.kitOne K (.ref (ga K x)) (.ref (ga K y)) = some b := of_decide_eq_true c
def ckKitT (x : Str) (t : String) (b : Bool) : Ck := fun K => eqBo (PySem.W.kitOne K (.ref (ga K x)) (.type t)) (some b)
theorem kitT_ok {K : PySem.W.Frag} {x : Str} {t : String} {b : Bool} (c : ckKitT x t b K = true) : PySem.W.kitOne K (.ref (ga K x)) (.type t) = some b := of_decide_eq_true c
def ckKitB (t : String) (y : Str) (b : Bool) : Ck := fun K => eqBo (PySem.W.kitOne K (.type t) (.ref (ga K y))) (some b)
theorem kitB_ok {K : PySem.W.Frag} {y : Str} {t : String} {b : Bool} (c : ckKitB t y b K = true) : PySem.W.kitOne K (.type t) (.ref (ga K y)) = some b := of_decide_eq_true c
/-- beside C stands a t: C's own def goes first -/
def ckNf (x : Str) (t : String) : Ck := fun K => PySem.W.notFirst K (ga K x) (.type t)
theorem nf_ok {K : PySem.W.Frag} {x : Str} {t : String} (c : ckNf x t K = true) : PySem.W.notFirst K (ga K x) (.type t) = true := c
theorem nf_self (K : PySem.W.Frag) (C : Addr) : PySem.W.notFirst K C (.ref C) = true := by
  unfold PySem.W.notFirst
  simp
/-- != by the own __eq__ -/
def ckNe (x : Str) : Ck := fun K => eqO (PySem.W.findIn K (.ref (ga K x)) "__ne__") (some (some (.builtin "object.__ne__")))
theorem ne_ok {K : PySem.W.Frag} {x : Str} (c : ckNe x K = true) : PySem.W.findIn K (.ref (ga K x)) "__ne__" = some (some (.builtin "object.__ne__")) := eqO_ok c
/-- S.__init__ of a class over ValueError, S a class of the program -/
def ckSin (x : Str) : Ck := fun K => PySem.W.readsIn K (ga K x) (.type "type") && (eqO (PySem.W.specialIn K (.ref (ga K x)) "__getattribute__") (some (some (.builtin "type.__getattribute__"))) && (match PySem.W.findCls K (.ref (ga K x)) (.type "type") "__init__" with
  | some (.val (.builtin n)) => decide (n = "ValueError.__init__")
  | _ => false))
theorem sin_ok {K : PySem.W.Frag} {x : Str} (c : ckSin x K = true) : ClX.CRead K (ga K x) (.type "type") ∧ PySem.W.findCls K (.ref (ga K x)) (.type "type") "__init__" = some (.val (.builtin "ValueError.__init__")) := by
  obtain ⟨c1, c⟩ := ba c
  obtain ⟨c2, c3⟩ := ba c
  refine ⟨⟨c1, eqO_ok c2⟩, ?_⟩
  split at c3
  · rename_i n e
    rw [e, of_decide_eq_true c3]
  · cases c3
/-- a class whose attributes are read as type reads them; a classmethod of it -/
def ckCm (x m : Str) : Ck := fun K => PySem.W.readsIn K (ga K x) (.type "type") && (eqO (PySem.W.specialIn K (.ref (ga K x)) "__getattribute__") (some (some (.builtin "type.__getattribute__"))) && (He5.wrapB K (ga K x) "classmethod" "classmethod.__get__" m && PySem.W.fnIn K (He5.wf K (ga K x) "classmethod" m)))
theorem cm_ok {K : PySem.W.Frag} {x m : Str} (c : ckCm x m K = true) : ClX.CRead K (ga K x) (.type "type") ∧ ClX.CMet K (ga K x) (.type "type") m (ma K (ga K x) m) (He5.wf K (ga K x) "classmethod" m) := by
  obtain ⟨c1, c⟩ := ba c
  obtain ⟨c2, c⟩ := ba c
  obtain ⟨c3, c4⟩ := ba c
  exact ⟨⟨c1, eqO_ok c2⟩, He5.cmet_of c3 c4⟩
end PH
namespace PR
open PySem PySem.Spec PyProof.Rows L2
/-! ### targets and iterables, the best readings -/
section
variable {X : Cx} {e a b c : Expr} {es rest : List Expr} {σ : L2.St} {H : Hp} {Q : VK} {Qb : Bool → Hp → Prop} {Qa : List V → Hp → Prop} {D : Ends} {pos pos' p : Pos} {st : Stmt} {sts : List Stmt}
theorem s_asg {tg : Expr} {g : TG} (hg : PG X tg g) (h : We X e σ H fun x H1 => g x σ H1 D.nx) (hs : swapsWithSole [tg] e pos.line X.env = pure false := by rfl) (hw : swappedStores [tg] e X.env = pure none := by rfl) (h1 : (assignEach [tg] X.env).map (·.2) = [assign tg X.env] := by rfl) : Ws X (.Assign [tg] e pos) D σ H :=
  ws_of (ps_asg peW hg hs hw h1) h
theorem s_par (i j : Nat) {x y : Str} {px py pt : Pos} {kt k2 pt2} (hN : X.N.Nodup) (h : Wa X [a, b] σ H fun vs H1 => ∃ v w, vs = [v, w] ∧ D.nx ((σ.set i (some v)).set j (some w)) H1) (hc : X.calm = true := by rfl) (hi : X.N[i]? = some x := by rfl) (hj : X.N[j]? = some y := by rfl)
    (hij : i ≠ j := by decide) (hx : X.env.scope.names.lookup x = some .local := by rfl) (hy : X.env.scope.names.lookup y = some .local := by rfl)
    (hw : swappedStores [.Tuple [.Name x px, .Name y py] kt pt] (.Tuple [a, b] k2 pt2) X.env = pure (some [x, y]) := by rfl)
    (hs : swapsWithSole [.Tuple [.Name x px, .Name y py] kt pt] (.Tuple [a, b] k2 pt2) pos.line X.env = pure false := by rfl) :
    Ws X (.Assign [.Tuple [.Name x px, .Name y py] kt pt] (.Tuple [a, b] k2 pt2) pos) D σ H := ws_of (ps_par hc hN hi hj hij hx hy paW hw hs) h
/-- self.f = e -/
theorem s_fld {o value : Expr} {f : Str} (h : We X value σ H fun y H1 => We X o σ H1 fun x H2 => ∃ a C dx fs, x = .ref a ∧ H2 a = some (.ins C dx fs) ∧ Cls X.K C ∧ NoAttr X.K C f ∧ fs.length < 1000 ∧ D.nx σ (upd H2 a (.ins C dx (putF f y fs))))
    (hs : swapsWith value (some (.Attribute o f pos')) pos.line X.env = pure false := by rfl) : Ws X (.Assign [.Attribute o f pos'] value pos) D σ H := ws_of (ps_fld peW peW hs) h
theorem s_while {body : List Stmt} (hp : PassesOwn (model X.prog X.w) X.A X.env X.xe) (Pv : L2.St → Hp → Prop) (mu : L2.St → Hp → Nat) (h0 : Pv σ H)
    (hs : ∀ σ H, Pv σ H → Wt X c σ H fun k H1 => if k = true then Wb X body { D with nx := fun σ' H' => Pv σ' H' ∧ mu σ' H' < mu σ H, ct := fun σ' H' => Pv σ' H' ∧ mu σ' H' < mu σ H, bk := D.nx } σ H1 else D.nx σ H1) :
    Ws X (.While c body [] pos) D σ H := ws_of (ps_while hp ptW pbW) (while_by Pv mu h0 hs fun σ H Q Q' k h => Wt.mono h k)
theorem s_raise {W : WX} {t : L2.St → Hp → XK → Prop} (hc : X.calm = true) (tk : Takes X W) (he : PMk X e t) (h : t σ H fun cls d H' => W cls d σ H') : Ws X (.Raise (some e) none pos) D σ H := ws_of (ps_raise hc tk he) h
theorem s_for {tg iter : Expr} {body : List Stmt} {wi : TI} {g : TG} (hp : PassesOwn (model X.prog X.w) X.A X.env X.xe) (hi : PI X tg iter wi) (hg : PG X tg g) (h : tFor wi g (Wb X body) D σ H) (hc : X.calm = true := by rfl) (hs : ∀ x, foldedSetIterable iter X.env x = pure x := by intro _; rfl) :
    Ws X (.For tg iter body [] pos) D σ H := ws_of (ps_for hp hc hi hg pbW hs) h
end
end PR
namespace PR
open PySem PySem.Spec PyProof.Rows L2
section
variable {X : Cx} {e a b c : Expr} {es rest : List Expr} {σ : L2.St} {H : Hp} {Q : VK} {Qb : Bool → Hp → Prop} {Qa : List V → Hp → Prop} {D : Ends} {pos pos' p px : Pos} {st : Stmt} {sts body : List Stmt}
/-- for x in e, e a list that stands still -/
theorem s_forl (i : Nat) {x : Str} (hp : PassesOwn (model X.prog X.w) X.A X.env X.xe) (hN : X.N.Nodup)
    (h : We X e σ H fun v H1 => ∃ (l : Addr) (xs : List V) (Pv : Nat → L2.St → Hp → Prop), v = .ref l ∧ SqL X.K H1 l xs ∧ Pv 0 σ H1 ∧ (∀ j σ' H', j ≤ xs.length → Pv j σ' H' → SqL X.K H' l xs) ∧
      (∀ j y σ' H', xs[j]? = some y → Pv j σ' H' → Wb X body { D with nx := Pv (j + 1), ct := Pv (j + 1), bk := D.nx } (σ'.set i (some y)) H') ∧ ∀ σ' H', Pv xs.length σ' H' → D.nx σ' H')
    (hi : X.N[i]? = some x := by rfl) (hx : Loc X.env.scope x := by first | exact Or.inl rfl | exact Or.inr rfl) (hf : X.fn x = true ∨ X.env.scope.names.lookup x = some .local := by first | exact .inl rfl | exact .inr rfl) (hc : X.calm = true := by rfl)
    (hs : ∀ z, foldedSetIterable e X.env z = pure z := by intro _; rfl) : Ws X (.For (.Name x px) e body [] pos) D σ H := by
  refine s_for hp (pi_list peW) (pg_name (i := i) hN hi hx hf) ?_ hc hs
  refine We.mono h fun v H1 z => ?_
  obtain ⟨l, xs, Pv, rfl, hl, h0, hk, ht, hd⟩ := z
  exact ⟨l, rfl, ⟨xs, hl⟩, for_list (K := X.K) (a := l) (xs := xs) Pv h0 hk (fun j y σ' H' hj hP => ht j y σ' H' hj hP) hd⟩
/-- for x in range(e) -/
theorem s_forr (i : Nat) {x : Str} {pr pc : Pos} (hp : PassesOwn (model X.prog X.w) X.A X.env X.xe) (hN : X.N.Nodup) (hm : X.mg "range" = none)
    (h : We X e σ H fun v H1 => ∃ (n : Nat) (Pv : Nat → L2.St → Hp → Prop), v = .int n ∧ n < 1000000 ∧ Pv 0 σ H1 ∧
      (∀ j σ' H', j < n → Pv j σ' H' → Wb X body { D with nx := Pv (j + 1), ct := Pv (j + 1), bk := D.nx } (σ'.set i (some (.int (j : Int)))) H') ∧ ∀ σ' H', Pv n σ' H' → D.nx σ' H')
    (hg : Gl X "range" := by rfl) (he : starEach [e] X.env = (false, eval e X.env) :: starEach [] X.env := by rfl)
    (hi : X.N[i]? = some x := by rfl) (hx : Loc X.env.scope x := by first | exact Or.inl rfl | exact Or.inr rfl) (hf : X.fn x = true ∨ X.env.scope.names.lookup x = some .local := by first | exact .inl rfl | exact .inr rfl) (hc : X.calm = true := by rfl)
    (hs : ∀ z, foldedSetIterable (.Call (.Name "range" pr) [e] [] pc) X.env z = pure z := by intro _; rfl) : Ws X (.For (.Name x px) (.Call (.Name "range" pr) [e] [] pc) body [] pos) D σ H := by
  refine s_for hp (pi_range1 hg hm paW he) (pg_name (i := i) hN hi hx hf) ?_ hc hs
  refine a_cons (We.mono h fun v H1 z => ?_) he
  obtain ⟨n, Pv, rfl, hn, h0, ht, hd⟩ := z
  refine a_nil ⟨(n : Int), rfl, by omega, by omega, for_range (lo := 0) (n := n) Pv h0 (fun j σ' H' hj hP => ?_) hd⟩
  have z := ht j σ' H' hj hP
  have e0 : (0 : Int) + (j : Int) = (j : Int) := Int.zero_add _
  show Wb X body { D with nx := Pv (j + 1), ct := Pv (j + 1), bk := D.nx } (σ'.set i (some (.int ((0 : Int) + (j : Int))))) H'
  rw [e0]
  exact z
end
end PR
namespace PR
open PySem PySem.Spec PyProof.Rows L2
/-! ### defs that need to know that nothing is being shown -/
/-- as FnR, under no guard -/
def FnG (P : Program) (w : World) (K : PySem.W.Frag) (mg : Str → Option Value) (base : Heap) (CX : CXT) (k : Nat) (f : Addr) (sp : Sp) : Prop :=
  ∀ (A : Around) (outer : List Env) (s : Shared) (H : Hp) (us : List Value) (vs : List V) (Q : VK) (E : XK), A.guards = some [] → Room k A → Env0 P w K mg base A outer s H → Vals vs us → sp vs H Q E →
    codeAny (model P w) A (.call (.ref f) ⟨us, []⟩) (CR CX outer P w H s Q E) s
theorem FnG.of {P : Program} {w : World} {K : PySem.W.Frag} {mg : Str → Option Value} {base : Heap} {CX : CXT} {k : Nat} {f : Addr} {sp : Sp} (F : FnR P w K mg base CX k f sp) : FnG P w K mg base CX k f sp :=
  fun A outer s H us vs Q E _ hr e0 r hs => F A outer s H us vs Q E hr e0 r hs
section
variable {P : Program} {w : World} {K : PySem.W.Frag} {mg : Str → Option Value} {base : Heap}
theorem fng {x q : Str} {st : Stmt} {f : Addr} {N ps : List Str} {k : Nat} {sp : Sp} (D : ∃ fd, FunD K x q (defArgs st) (defBody st) (defScope st) [] [] f fd) (S : FnScope N ps (defScope st)) (len : ∀ vs H Q E, sp vs H Q E → vs.length = ps.length)
    (hb : ∀ (kV doc pm : Value) (an : Option Addr) (cdv ct : Value) (us : List Value), us.length = ps.length → bindArgs (PySem.W.fnOf x q (defArgs st) (defBody st) (defScope st) .none kV doc pm an cdv ct) ⟨us, []⟩ = pure (ps.zip us))
    (body : ∀ (cdv : Value) (A : Around) (outer : List Env) (s : Shared) (H : Hp) (vs : List V) (Q : VK) (E : XK), A.guards = some [] → Room k (A.deeper (envOfC q (defScope st) s.heap.objs.size f cdv)) → sp vs H Q E →
      Wb (cxOf (L2.CX P w) P w K mg base N q (defScope st) f cdv A outer s H E) (defBody st) { nx := fun _ H' => Q .non H', rt := Q } (start N vs) H) : FnG P w K mg base (L2.CX P w) (k + 1) f sp := by
  obtain ⟨fd, F⟩ := D
  intro A outer s H us vs Q E hgd hr e0 r hsp
  have hl : vs.length = ps.length := len _ _ _ _ hsp
  have KI : K.In s.heap := e0.mod.kin.keeps fun b o z => (e0.bs b o z).1
  have BT := F.bindsA hb s us (by rw [← r.length]; exact hl)
  obtain ⟨oc, od, dV, kV, doc, pm, an, cdv, ct, osl, rfl, lk, hcd, _, _⟩ := F.ex
  have noLim : s.heap.NoLimit := e0.mod.nolimit.keeps fun b o z => (e0.bs b o z).1
  have kinds : ∀ y ∈ ps.zip us, (defScope st).names.lookup y.1 = some .local ∨ ((defScope st).names.lookup y.1 = some .cell ∧ ((cellsFrom (s.heap.objs.size + 1) (defScope st).names []).lookup y.1).isSome = true) := by
    rintro ⟨n, v⟩ hy
    exact (S.par n (List.of_mem_zip hy).1).imp id fun c => ⟨c, PySem.W.cellsFrom_some _ _ _ (.inl c)⟩
  refine codeAny_call_function hr.depth (KI _ _ lk) rfl S.co S.gen rfl (PySem.W.codeRec_of KI hcd) (BT _ _ _ _ ?_)
  refine wpAny_newFunctionEnv_cells S.kind kinds fun env ee s1 ic => ?_
  subst ee
  refine ⟨noLim.keeps ic.toInCall.keep, codeAny_func ?_⟩
  have J : Inv (cxOf (L2.CX P w) P w K mg base N q (defScope st) f cdv A outer s H E) [] (start N vs) H s1 := inv_start S hr.hd e0 hl r ic
  refine wpAny_mono ((body cdv A outer s H vs Q E hgd (hr.deeper _) hsp).run [] s1 J) (fun fl s2 z => ?_) fun _ _ z => z
  match fl, z with
  | .ret u, ⟨v, σ', H', J', rv, qv⟩ => exact ⟨v, H', J'.os, J'.bare, J'.base, J'.hok, rv, qv⟩
  | .next, ⟨σ', H', J', qv⟩ => exact ⟨V.non, H', J'.os, J'.bare, J'.base, J'.hok, rfl, qv⟩
  | .brk, ⟨_, _, _, z⟩ => exact False.elim z
  | .cont, ⟨_, _, _, z⟩ => exact False.elim z
end
section
variable {X : Cx} {pins : List (Addr × Obj)} {σ : L2.St} {H : Hp} {s : Shared}
theorem run_fnG {CX : CXT} {k : Nat} {f : Addr} {sp : Sp} {E : XK} {Q : VK} {us : List Value} {vs : List V} (F : FnG X.prog X.w X.K X.mg X.base CX k f sp) (hgd : X.A.guards = some []) (hr : Room k X.A) (hx : Passes CX X E) (I : Inv X pins σ H s) (r : Vals vs us) (h : sp vs H Q E) :
    codeAny (model X.prog X.w) X.A (.call (.ref f) ⟨us, []⟩) (fun r s' => match r with | .ok (.ret v) => EP X pins σ Q v s' | .ok _ => False | .error e => X.xe e s') s := by
  refine codeAny_mono (F X.A X.stack s H us vs Q E hgd hr I.env0 r h) fun r s' z => ?_
  match r, z with
  | .error e, z => exact hx pins σ H s e s' I z
  | .ok (.ret u), z => exact I.after z
  | .ok .next, z => exact z
  | .ok .brk, z => exact z
  | .ok .cont, z => exact z
end
section
variable {X : Cx} {e o a b : Expr} {es : List Expr} {σ : L2.St} {H : Hp} {Q : VK} {p pos apos : Pos} {CX : CXT} {k : Nat} {f C g : Addr} {sp : Sp} {E : XK} {x m : Str}
theorem w_callG (F : FnG X.prog X.w X.K X.mg X.base CX k f sp) (hgd : X.A.guards = some []) (hr : Room k X.A) (hm : X.mg x = some (.ref f)) (hk : PySem.W.keepIn X.K (.ref f) = true) (hx : Passes CX X E)
    (h : Wa X (e :: es) σ H fun vs H1 => sp vs H1 Q E) (hg : Gl X x := by rfl) (hdb : (x == ("__debug__" : Str)) = false := by decide) (he : starEach (e :: es) X.env = (false, eval e X.env) :: starEach es X.env := by rfl) (hpl : (backTo pos (starEach es X.env)).any (·.1) = false := by rfl) :
    We X (.Call (.Name x p) (e :: es) [] pos) σ H Q := by
  refine ⟨fun pins s I => ?_⟩
  refine wpAny_Call_Name_kw (ld_glob I hg hm ?_ hdb)
  refine PySem.W.callWith_K (h₀ := X.base) I.ok.mod.kin hk (thn (h.run pos pins s I) fun us s1 ⟨vs, H1, I1, r, q⟩ => ⟨I1.kIn, ?_⟩) he hpl
  exact wpAny_call (run_fnG F hgd hr hx I1 r q)
theorem w_callG0 (F : FnG X.prog X.w X.K X.mg X.base CX k f sp) (hgd : X.A.guards = some []) (hr : Room k X.A) (hm : X.mg x = some (.ref f)) (hk : PySem.W.keepIn X.K (.ref f) = true) (hx : Passes CX X E)
    (h : sp [] H Q E) (hg : Gl X x := by rfl) (hdb : (x == ("__debug__" : Str)) = false := by decide) : We X (.Call (.Name x p) [] [] pos) σ H Q := by
  refine ⟨fun pins s I => ?_⟩
  refine wpAny_Call_Name_kw (ld_glob I hg hm ?_ hdb)
  exact PySem.W.callWith_K0 I.kIn hk (wpAny_call (run_fnG (us := []) F hgd hr hx I .nil h))
end
/-! ### repr -/
/-- what repr shows -/
inductive Sw (K : PySem.W.Frag) (H : Hp) : V → PyData → Prop
  | dp {v : V} {d : PyData} : Dp K H v d → d.hasDict = false → Sw K H v d
  | dE {a : Addr} : H a = some (.dK []) → Sw K H (.ref a) (.dict [])
  | d1 {a : Addr} {x : Str} {i : Int} : H a = some (.dK [(.inr x, .int i)]) → Sw K H (.ref a) (.dict [(.str x, .int i)])
theorem Sw.reads {X : Cx} {pins : List (Addr × Obj)} {σ : L2.St} {H : Hp} {s : Shared} {v : V} {d : PyData} {u : Value} (I : Inv X pins σ H s) (h : Sw X.K H v d) (r : RelV v u) : ∃ as, Reads s.heap u d as ∧ (d.hasDict = true → sysModules ∉ as) := by
  cases h with
  | dp hd hn =>
    obtain ⟨as, z⟩ := Dp.reads I d v u hd r
    exact ⟨as, z, PyData.noDict_hsm hn⟩
  | @dE a ha =>
    cases (show u = Value.ref a from r)
    obtain ⟨_, hsy, vs, kv, o, es, ep, h1, h2, h3, _, h4, _⟩ := (show ObjOk X.prog X.w H s.heap a (.dK []) from I.hok a _ ha)
    cases kv
    have he : es.toList = [] := by
      generalize es.toList = l at h4
      cases h4
      rfl
    refine ⟨a :: [] ++ [], Reads.dict (kvs := []) h1 h2.1 h3 (by rw [he]; exact .nil) (by rw [he]; exact .nil), fun _ hm => ?_⟩
    have hm' : sysModules = a := by simpa using hm
    rw [← hm'] at hsy
    simp at hsy
  | @d1 a x i ha =>
    cases (show u = Value.ref a from r)
    obtain ⟨_, hsy, vs, kv, o, es, ep, h1, h2, h3, _, h4, _⟩ := (show ObjOk X.prog X.w H s.heap a (.dK [(.inr x, .int i)]) from I.hok a _ ha)
    cases kv with
    | @cons _ q _ qs e1 e2 =>
      cases e2
      obtain ⟨k, y⟩ := q
      obtain ⟨e3, t, e4⟩ := e1
      have e3' : (Sum.inr x : Key) = k := e3
      subst e3'
      have e4' : y = Value.int i t := e4
      subst e4'
      have he : ∃ en : DictEntry, es.toList = [en] ∧ (∃ t', en.key = Value.str x t') ∧ en.val = Value.int i t := by
        generalize es.toList = l at h4
        cases h4 with
        | @cons en _ _ _ g1 g2 g3 =>
          cases g3
          refine ⟨en, rfl, ?_, g2⟩
          rcases keyIs_shape (show keyIs (.inr x) en.key = true from g1) with ⟨_, _, z, _⟩ | ⟨x', t', z, z2⟩
          · cases z
          · cases z
            exact ⟨t', z2⟩
      obtain ⟨en, he, ⟨t', hk⟩, hv⟩ := he
      refine ⟨a :: ([] ++ []) ++ ([] ++ []), Reads.dict (kvs := [(.str x, .int i)]) h1 h2.1 h3 ?_ ?_, fun _ hm => ?_⟩
      · rw [he]
        exact .cons (by show Reads _ en.key _ _; rw [hk]; exact .str x t') .nil
      · rw [he]
        exact .cons (by show Reads _ en.val _ _; rw [hv]; exact .int i t) .nil
      · have hm' : sysModules = a := by simpa using hm
        rw [← hm'] at hsy
        simp at hsy
/-- repr(v) -/
theorem call_repr {X : Cx} (hgd : X.A.guards = some []) (hu : X.A.units + 80 < cLine) : CallR X (.builtin "repr") (fun xs H Q => ∃ v d, xs = [v] ∧ Sw X.K H v d ∧ d.showable = true ∧ d.shown.length ≤ sizeLine ∧ d.depth ≤ 64 ∧ Q (.str d.shown) H) := by
  intro pins s σ H xs us Q I r h
  obtain ⟨v, d, rfl, hd, hs, hz, hdp, q⟩ := h
  obtain ⟨u, rfl, ru⟩ := vals1 r
  obtain ⟨as, rd, hsm⟩ := hd.reads I ru
  have fin : ∀ h' t tk, (∀ b o, s.heap.get? b = some o → h'.get? b = some o) → EP X pins σ Q (.str d.shown t) { s with heap := h', toks := tk } := fun h' t tk k => ⟨.str d.shown, H, I.kept k, ⟨t, rfl⟩, q⟩
  cases rd with
  | none => exact PySem.P.repr_of_none (fin s.heap _ _ fun _ _ e => e)
  | bool b => exact PySem.P.repr_of_bool (fin s.heap _ _ fun _ _ e => e)
  | int i t => exact PySem.P.repr_of_int (of_decide_eq_true hs) (fin s.heap _ _ fun _ _ e => e)
  | str x t => exact PySem.P.repr_of_str (fin s.heap _ _ fun _ _ e => e) hz
  | list h1 h2 h3 h4 => exact repr_of_reads' (.list h1 h2 h3 h4) hs hsm hgd (by omega) (fun _ _ e => e) fin hz
  | tuple h1 h2 h3 h4 => exact repr_of_reads' (.tuple h1 h2 h3 h4) hs hsm hgd (by omega) (fun _ _ e => e) fin hz
  | dict h1 h2 h3 h4 h5 => exact repr_of_reads' (.dict h1 h2 h3 h4 h5) hs hsm hgd (by omega) (fun _ _ e => e) fin hz
end PR
namespace PR
open PySem PySem.Spec PyProof.Rows L2
/-! ### try -/
/-- what a suite must do, whatever exception object it holds -/
def Su (X : Cx) (suite : List Stmt) (a : Addr) (cls : Value) (d : Option Addr) : TS := fun D σ H => ∀ (oe : Obj) (pn : List (Addr × Obj)), Zc cls d oe → (∃ vs, oe.data = .fields vs) → Wb (X.suite a ((a, oe) :: pn)) suite D σ H
theorem su_ok {X : Cx} {suite : List Stmt} (a : Addr) (oe : Obj) (cls : Value) (d : Option Addr) (pn : List (Addr × Obj)) (hz : Zc cls d oe) (hf : ∃ vs, oe.data = .fields vs) : PSs (X.suite a ((a, oe) :: pn)) suite (Su X suite a cls d) :=
  ⟨fun pins s σ H D I h => (h oe pn hz hf).run pins s I⟩
/-- what a try's body must do -/
def Tb (X : Cx) (body : List Stmt) (W : WX) : TS := fun D σ H => ∀ (pn : List (Addr × Obj)) (xe : Value → Shared → Prop), Takes (X.tr pn xe) W → PassesOwn (model X.prog X.w) X.A X.env xe → Wb (X.tr pn xe) body D σ H
theorem tb_ok {X : Cx} {body : List Stmt} (W : WX) (pn : List (Addr × Obj)) (xe : Value → Shared → Prop) (tk : Takes (X.tr pn xe) W) (ps : PassesOwn (model X.prog X.w) X.A X.env xe) : PSs (X.tr pn xe) body (Tb X body W) :=
  ⟨fun pins s σ H D I h => (h pn xe tk ps).run pins s I⟩
section
variable {X : Cx} {x n : Str} {c : Value} {i : Nat} {body suite orelse : List Stmt} {b₀ : Stmt} {np pos pos' : Pos} {Wout : WX} {σ : L2.St} {H : Hp} {D : Ends}
theorem s_try1 (hc : Names X x c) (tk : Takes X Wout) (h : Tb X body (wOnly X.K c (Su X (b₀ :: suite)) Wout D) D σ H) (hs : X.stack = X.env :: X.outer := by rfl) (hf : X.env.frame = some X.env.locals := by rfl) :
    Ws X (.Try body [.ExceptHandler (some (.Name x np)) none (b₀ :: suite) pos'] [] [] pos) D σ H :=
  ws_of (ps_try_only (tb := Tb X body) hs hf hc tk (fun W pn xe t p => tb_ok W pn xe t p) su_ok) h
theorem s_tryAs (i : Nat) (hN : X.N.Nodup) (hc : Names X x c) (tk : Takes X Wout) (h : Tb X body (wAs X.K c i (Su X (b₀ :: suite)) Wout D) D σ H) (hi : X.N[i]? = some n := by rfl) (hln : X.env.kindOf n = some .local := by rfl)
    (hs : X.stack = X.env :: X.outer := by rfl) (hf : X.env.frame = some X.env.locals := by rfl) :
    Ws X (.Try body [.ExceptHandler (some (.Name x np)) (some n) (b₀ :: suite) pos'] [] [] pos) D σ H :=
  ws_of (L2.ps_try_as (tb := Tb X body) hs hf hN hi hln hc tk (fun W pn xe t p => tb_ok W pn xe t p) su_ok) h
/-- the body lets nothing out -/
theorem s_try1E (hc : Names X x c) (tk : Takes X Wout) (h : Tb X body (wOnly X.K c (Su X (b₀ :: suite)) Wout D) { D with nx := fun σ' H' => Wb X orelse D σ' H' } σ H) (hs : X.stack = X.env :: X.outer := by rfl) (hf : X.env.frame = some X.env.locals := by rfl) :
    Ws X (.Try body [.ExceptHandler (some (.Name x np)) none (b₀ :: suite) pos'] orelse [] pos) D σ H :=
  ws_of (ps_try_onlyE (tb := Tb X body) pbW hs hf hc tk (fun W pn xe t p => tb_ok W pn xe t p) su_ok) h
end
section
variable {X : Cx} {body : List Stmt} {h₀ : ExceptHandler} {hds : List ExceptHandler} {l : List (Value × (Addr → Value → Option Addr → TS))} {pos : Pos} {Wout : WX} {σ : L2.St} {H : Hp} {D : Ends}
theorem s_tryN (tk : Takes X Wout) (hh : HdsOk X (h₀ :: hds) l) (h : Tb X body (wMany X.K Wout D l) D σ H) (hs : X.stack = X.env :: X.outer := by rfl) (hf : X.env.frame = some X.env.locals := by rfl) : Ws X (.Try body (h₀ :: hds) [] [] pos) D σ H :=
  ws_of (L2.ps_try_many (tb := Tb X body) hs hf tk (fun W pn xe t p => tb_ok W pn xe t p) hh) h
theorem hds_cons {x : Str} {c : Value} {b₀ : Stmt} {suite : List Stmt} {np pos' : Pos} {hds : List ExceptHandler} {l : List (Value × (Addr → Value → Option Addr → TS))} (hc : Names X x c) (r : HdsOk X hds l) :
    HdsOk X (.ExceptHandler (some (.Name x np)) none (b₀ :: suite) pos' :: hds) ((c, Su X (b₀ :: suite)) :: l) := .cons hc su_ok r
end
/-- what a def lets out, its own E -/
theorem takesX {P : Program} {w : World} {K : PySem.W.Frag} {mg : Str → Option Value} {base : Heap} {N : List Str} {qual : Str} {sc : Scope} {f : Addr} {cdv : Value} {A : Around} {outer : List Env} {s : Shared} {H : Hp} {E : XK} :
    Takes (cxOf (L2.CX P w) P w K mg base N qual sc f cdv A outer s H E) (fun cls d _ H => E cls d H) := takes_of (E := E) rfl rfl rfl rfl
/-- a call within a try's body -/
theorem passT {X : Cx} {W : WX} {E : XK} (tk : Takes X W) (h : ∀ cls d σ H, E cls d H → W cls d σ H) : Passes (L2.CX X.prog X.w) X E := passes_call tk h
/-- what a callee lets out is taken, at these locals -/
def PassAt (CX : CXT) (X : Cx) (σ : L2.St) (E : XK) : Prop := ∀ (pins : List (Addr × Obj)) (H : Hp) (s : Shared) (e : Value) (s' : Shared), Inv X pins σ H s → CX X.stack H s E e s' → X.xe e s'
theorem passAt {X : Cx} {W : WX} {E : XK} {σ : L2.St} (tk : Takes X W) (h : ∀ cls d H, E cls d H → W cls d σ H) : PassAt (L2.CX X.prog X.w) X σ E := fun pins H s e s' I c => tk e s' (XE.of_call I (fun cls d H' q => h cls d H' q) c)
section
variable {X : Cx} {e o a b : Expr} {es : List Expr} {σ : L2.St} {H : Hp} {Q : VK} {p pos apos : Pos} {CX : CXT} {k : Nat} {f C g : Addr} {sp : Sp} {E : XK} {x m : Str}
theorem run_fnA {pins : List (Addr × Obj)} {s : Shared} {us : List Value} {vs : List V} (F : FnR X.prog X.w X.K X.mg X.base CX k f sp) (hr : Room k X.A) (hx : PassAt CX X σ E) (I : Inv X pins σ H s) (r : Vals vs us) (h : sp vs H Q E) :
    codeAny (model X.prog X.w) X.A (.call (.ref f) ⟨us, []⟩) (fun r s' => match r with | .ok (.ret v) => EP X pins σ Q v s' | .ok _ => False | .error e => X.xe e s') s := by
  refine codeAny_mono (F X.A X.stack s H us vs Q E hr I.env0 r h) fun r s' z => ?_
  match r, z with
  | .error e, z => exact hx pins H s e s' I z
  | .ok (.ret u), z => exact I.after z
  | .ok .next, z => exact z
  | .ok .brk, z => exact z
  | .ok .cont, z => exact z
theorem w_callA (F : FnR X.prog X.w X.K X.mg X.base CX k f sp) (hr : Room k X.A) (hm : X.mg x = some (.ref f)) (hk : PySem.W.keepIn X.K (.ref f) = true) (hx : PassAt CX X σ E)
    (h : Wa X (e :: es) σ H fun vs H1 => sp vs H1 Q E) (hg : Gl X x := by rfl) (hdb : (x == ("__debug__" : Str)) = false := by decide) (he : starEach (e :: es) X.env = (false, eval e X.env) :: starEach es X.env := by rfl) (hpl : (backTo pos (starEach es X.env)).any (·.1) = false := by rfl) :
    We X (.Call (.Name x p) (e :: es) [] pos) σ H Q := by
  refine ⟨fun pins s I => ?_⟩
  refine wpAny_Call_Name_kw (ld_glob I hg hm ?_ hdb)
  refine PySem.W.callWith_K (h₀ := X.base) I.ok.mod.kin hk (thn (h.run pos pins s I) fun us s1 ⟨vs, H1, I1, r, q⟩ => ⟨I1.kIn, ?_⟩) he hpl
  exact wpAny_call (run_fnA F hr hx I1 r q)
theorem w_callA0 (F : FnR X.prog X.w X.K X.mg X.base CX k f sp) (hr : Room k X.A) (hm : X.mg x = some (.ref f)) (hk : PySem.W.keepIn X.K (.ref f) = true) (hx : PassAt CX X σ E)
    (h : sp [] H Q E) (hg : Gl X x := by rfl) (hdb : (x == ("__debug__" : Str)) = false := by decide) : We X (.Call (.Name x p) [] [] pos) σ H Q := by
  refine ⟨fun pins s I => ?_⟩
  refine wpAny_Call_Name_kw (ld_glob I hg hm ?_ hdb)
  exact PySem.W.callWith_K0 I.kIn hk (wpAny_call (run_fnA (us := []) F hr hx I .nil h))
theorem w_methA {pl : Sem Bool} (c : Cls X.K C) (hm : Meth X.K C m f) (F : FnR X.prog X.w X.K X.mg X.base CX k f sp) (hr : Room k X.A) (hx : PassAt CX X σ E)
    (h : We X o σ H fun x H1 => ∃ a dx fs, x = .ref a ∧ H1 a = some (.ins C dx fs) ∧ fs.lookup m = none ∧ Wa X (e :: es) σ H1 fun vs H2 => sp (x :: vs) H2 Q E)
    (hst : starEach (e :: es) X.env = (false, eval e X.env) :: starEach es X.env := by rfl) (hpl : (backTo pos (starEach es X.env)).any (·.1) = false := by rfl)
    (ht : eval (.Call (.Attribute o m apos) (e :: es) [] pos) X.env = (do
      let ov ← eval o X.env
      standAt apos.atName
      let (f, first) ← holding [ov] (getMethod ov m pl)
      callWith pos f first (backTo pos (starEach (e :: es) X.env)) (backToKw pos (keywordEach [] X.env))) := by rfl) :
    We X (.Call (.Attribute o m apos) (e :: es) [] pos) σ H Q := by
  refine ⟨fun pins s I => ?_⟩
  refine PySem.W.methodCall_KW (pl := pl) (thn (h.run pins s I) fun u s1 ⟨x, H1, I1, rx, a, dx, fs, ex, ea, l, q⟩ => ?_) ht
  subst ex
  obtain rfl : u = Value.ref a := rx
  refine getmeth_ok I1 ea c hm l ?_
  refine PySem.W.callWith_K (first := [.ref a]) (h₀ := X.base) I1.ok.mod.kin hm.kp (thn (q.run pos pins s1 I1) fun us s2 ⟨vs, H2, I2, r2, q2⟩ => ⟨I2.kIn, ?_⟩) hst hpl
  exact wpAny_call (run_fnA (us := .ref a :: us) (vs := .ref a :: vs) F hr hx I2 (.cons rfl r2) q2)
theorem w_methA0 {pl : Sem Bool} (c : Cls X.K C) (hm : Meth X.K C m f) (F : FnR X.prog X.w X.K X.mg X.base CX k f sp) (hr : Room k X.A) (hx : PassAt CX X σ E)
    (h : We X o σ H fun x H1 => ∃ a dx fs, x = .ref a ∧ H1 a = some (.ins C dx fs) ∧ fs.lookup m = none ∧ sp [x] H1 Q E)
    (ht : eval (.Call (.Attribute o m apos) [] [] pos) X.env = (do
      let ov ← eval o X.env
      standAt apos.atName
      let (f, first) ← holding [ov] (getMethod ov m pl)
      callWith pos f first (backTo pos (starEach [] X.env)) (backToKw pos (keywordEach [] X.env))) := by rfl) :
    We X (.Call (.Attribute o m apos) [] [] pos) σ H Q := by
  refine ⟨fun pins s I => ?_⟩
  refine PySem.W.methodCall_KW (pl := pl) (thn (h.run pins s I) fun u s1 ⟨x, H1, I1, rx, a, dx, fs, ex, ea, l, q⟩ => ?_) ht
  subst ex
  obtain rfl : u = Value.ref a := rx
  refine getmeth_ok I1 ea c hm l ?_
  exact PySem.W.callWith_K0 (first := [.ref a]) I1.kIn hm.kp (wpAny_call (run_fnA (us := [.ref a]) (vs := [.ref a]) F hr hx I1 (.cons rfl .nil) q))
theorem w_makeA (M : Mk X.K C f) (F : FnR X.prog X.w X.K X.mg X.base CX k f sp) (hr : Room (k + 1) X.A) (hm : X.mg x = some (.ref C)) (hx : PassAt CX X σ E)
    (h : Wa X (e :: es) σ H fun vs H1 => ∀ x dx, H1 x = Option.none → H1 dx = Option.none → dx ≠ x → sp (V.ref x :: vs) (upd (upd H1 dx (.own x)) x (.ins C dx [])) (fun v H2 => v = .non ∧ Q (.ref x) H2) E)
    (hg : Gl X x := by rfl) (hdb : (x == ("__debug__" : Str)) = false := by decide) (he : starEach (e :: es) X.env = (false, eval e X.env) :: starEach es X.env := by rfl) (hpl : (backTo pos (starEach es X.env)).any (·.1) = false := by rfl) :
    We X (.Call (.Name x p) (e :: es) [] pos) σ H Q := by
  refine ⟨fun pins s I => ?_⟩
  refine wpAny_Call_Name_kw (ld_glob I hg hm ?_ hdb)
  refine PySem.W.callWith_K (h₀ := X.base) I.ok.mod.kin M.kp (thn (h.run pos pins s I) fun us s1 ⟨vs, H1, I1, r, q⟩ => ⟨I1.kIn, ?_⟩) he hpl
  have J := Inv.made (C := C) I1
  have z := q (s1.heap.objs.size + 1) s1.heap.objs.size (I1.hok.fresh (Nat.le_succ _)) (I1.hok.fresh (Nat.le_refl _)) (Nat.ne_of_lt (Nat.lt_succ_self _))
  have r2 : Vals (V.ref (s1.heap.objs.size + 1) :: vs) (Value.ref (s1.heap.objs.size + 1) :: us) := .cons rfl r
  refine wpAny_call (make_map (f := f) I1.kIn M.makes M.init (beq_iff_eq.mp M.fn) (codeAny_mono (F _ X.stack _ _ _ _ _ E (hr.make C us []) (J.env0.make C us []) r2 z) fun rr s' zz => ?_))
  match rr, zz with
  | .error e, zz => exact hx pins _ _ e s' J zz
  | .ok (.ret u), zz =>
    obtain ⟨v, H', I3, rv, ev, q3⟩ := J.after zz
    subst ev
    exact ⟨rv, ⟨V.ref (s1.heap.objs.size + 1), H', I3, rfl, q3⟩⟩
  | .ok .next, zz => exact zz
  | .ok .brk, zz => exact zz
  | .ok .cont, zz => exact zz
end
/-- e.f of the caught exception -/
theorem w_xf {X : Cx} {a C : Addr} {oe : Obj} {cls : Value} {d : Option Addr} {pn : List (Addr × Obj)} {e : Expr} {pos : Pos} {n : Str} {σ : L2.St} {H : Hp} {Q : VK} (T : XfC X.K C) (hno : PySem.W.findIn X.K (.ref C) n = some none)
    (hz : Zc cls d oe) (hf : ∃ vs, oe.data = .fields vs)
    (h : We (X.suite a ((a, oe) :: pn)) e σ H fun x H1 => x = .ref a ∧ cls = .ref C ∧ ∃ (dd : Addr) (fs : List (Str × V)) (v : V), d = some dd ∧ H1 dd = some (.xd fs) ∧ fs.lookup n = some v ∧ Q v H1)
    (hb : attributeBase e n X.env (eval e X.env) = eval e X.env := by rfl) : We (X.suite a ((a, oe) :: pn)) (.Attribute e n pos) σ H Q := we_of (pe_xf T hno hz hf peW hb) h
/-! ### keywords -/
/-- a promise by n positional values and by keywords named ks -/
def FnQ (P : Program) (w : World) (K : PySem.W.Frag) (mg : Str → Option Value) (base : Heap) (CX : CXT) (k : Nat) (f : Addr) (n : Nat) (ks : List Str) (sp : List V → List V → Hp → VK → XK → Prop) : Prop :=
  ∀ (A : Around) (outer : List Env) (s : Shared) (H : Hp) (us ws : List Value) (vs zs : List V) (Q : VK) (E : XK), Room k A → Env0 P w K mg base A outer s H → Vals vs us → Vals zs ws → vs.length = n → zs.length = ks.length → sp vs zs H Q E →
    codeAny (model P w) A (.call (.ref f) ⟨us, ks.zip ws⟩) (CR CX outer P w H s Q E) s
section
variable {P : Program} {w : World} {K : PySem.W.Frag} {mg : Str → Option Value} {base : Heap} {CX : CXT}
theorem fnq_of {k n : Nat} {f : Addr} {fd : FuncData} {ps ks : List Str} {sp : Sp} {g : List Value → List Value → List Value} {gV : List V → List V → List V} (F : FnOk P w K mg base CX k f fd ps sp) (hb : KBn K fd ps n ks g gV) :
    FnQ P w K mg base CX k f n ks (fun vs zs H Q E => sp (gV vs zs) H Q E) := by
  intro A outer s H us ws vs zs Q E hr e0 rv rz l1 l2 h
  exact F.run A outer s H ⟨us, ks.zip ws⟩ (g us ws) (gV vs zs) Q E hr e0 (hb.to s us ws (e0.mod.kin.keeps fun b o z => (e0.bs b o z).1) (rv.length.symm.trans l1) (rz.length.symm.trans l2)) (hb.rel rv rz) h
/-- every parameter is given, no defaults -/
theorem kbn0 {x q : Str} {params : Arguments} {body : List Stmt} {scope : Scope} {kws : List (Str × V)} {f : Addr} {fd : FuncData} {ps : List Str} (F : FunD K x q params body scope [] kws f fd) (n : Nat) (ks : List Str) (g : {α : Type} → List α → List α → List α)
    (hrel : ∀ {vs zs : List V} {us ws : List Value}, Vals vs us → Vals zs ws → Vals (g vs zs) (g us ws))
    (h : ∀ (kV doc pm : Value) (an : Option Addr) (cdv ct : Value) (us ws : List Value), us.length = n → ws.length = ks.length → bindArgs (PySem.W.fnOf x q params body scope .none kV doc pm an cdv ct) ⟨us, ks.zip ws⟩ = pure (ps.zip (g us ws))) :
    KBn K fd ps n ks (fun us ws => g us ws) (fun vs zs => g vs zs) := by
  obtain ⟨oc, od, dV, kV, doc, pm, an, cdv, ct, osl, rfl, lk, hcd, hD, hK⟩ := F.ex
  rcases hD with ⟨_, rfl⟩ | ⟨e, _⟩
  · exact ⟨fun s us ws _ l1 l2 => .of_eq (h kV doc pm an cdv ct us ws l1 l2), fun r1 r2 => hrel r1 r2⟩
  · exact absurd rfl e
/-- with defaults dvs -/
theorem kbn1 {x q : Str} {params : Arguments} {body : List Stmt} {scope : Scope} {dvs : List V} {kws : List (Str × V)} {f : Addr} {fd : FuncData} {ps : List Str} (F : FunD K x q params body scope dvs kws f fd) (n : Nat) (ks : List Str) (g : {α : Type} → List α → List α → List α → List α) (hd : dvs ≠ [])
    (hrel : ∀ {vs ds zs : List V} {us its ws : List Value}, Vals vs us → Vals ds its → Vals zs ws → Vals (g vs ds zs) (g us its ws))
    (h : ∀ (T : Addr) (kV doc pm : Value) (an : Option Addr) (cdv ct : Value) (us its ws : List Value), us.length = n → its.length = dvs.length → ws.length = ks.length →
      ∃ k, bindArgs (PySem.W.fnOf x q params body scope (.ref T) kV doc pm an cdv ct) ⟨us, ks.zip ws⟩ = seqItems? (.ref T) >>= k ∧ k (some its.toArray) = pure (ps.zip (g us its ws))) :
    ∃ its : List Value, KBn K fd ps n ks (fun us ws => g us its ws) (fun vs zs => g vs dvs zs) := by
  obtain ⟨oc, od, dV, kV, doc, pm, an, cdv, ct, osl, rfl, lk, hcd, hD, hK⟩ := F.ex
  rcases hD with ⟨e, _⟩ | ⟨_, T, o, its, m, rfl, lT, oT, rT⟩
  · exact absurd e hd
  · refine ⟨its, ⟨fun s us ws KI l1 l2 => ?_, fun r1 r2 => hrel r1 rT r2⟩⟩
    obtain ⟨k, e1, e2⟩ := h T kV doc pm an cdv ct us its ws l1 rT.length.symm l2
    refine BindsTo.of_looks fun M => ?_
    rw [e1]
    exact looks_items KI lT oT (.of_pure e2)
end
section
variable {X : Cx} {e o : Expr} {es : List Expr} {σ : L2.St} {H : Hp} {Q : VK} {p pos apos : Pos} {CX : CXT} {k n : Nat} {f C g : Addr} {sp : List V → List V → Hp → VK → XK → Prop} {E : XK} {x m : Str} {ks : List Str} {kws : List Keyword}
theorem run_fnQ {pins : List (Addr × Obj)} {s : Shared} {us ws : List Value} {vs zs : List V} (F : FnQ X.prog X.w X.K X.mg X.base CX k f n ks sp) (hr : Room k X.A) (hx : Passes CX X E) (I : Inv X pins σ H s) (r : Vals vs us) (rz : Vals zs ws) (l1 : vs.length = n) (l2 : zs.length = ks.length) (h : sp vs zs H Q E) :
    wpAny (model X.prog X.w) X.A (call (.ref f) us (ks.zip ws)) (EP X pins σ Q) X.xe s := by
  refine wpAny_call (codeAny_mono (F X.A X.stack s H us ws vs zs Q E hr I.env0 r rz l1 l2 h) fun r s' z => ?_)
  match r, z with
  | .error e, z => exact hx pins σ H s e s' I z
  | .ok (.ret u), z => exact I.after z
  | .ok .next, z => exact z
  | .ok .brk, z => exact z
  | .ok .cont, z => exact z
/-- f(k = v, ..) -/
theorem w_callQ (F : FnQ X.prog X.w X.K X.mg X.base CX k f 0 ks sp) (hr : Room k X.A) (hm : X.mg x = some (.ref f)) (hk : PySem.W.keepIn X.K (.ref f) = true) (hx : Passes CX X E)
    (h : Wk X kws σ H fun zs H1 => zs.length = ks.length ∧ sp [] zs H1 Q E) (hg : Gl X x := by rfl) (hdb : (x == ("__debug__" : Str)) = false := by decide)
    (hall : (backToKw pos (keywordEach kws X.env)).all (·.1.isSome) = true := by rfl) (hks : (backToKw pos (keywordEach kws X.env)).filterMap (·.1) = ks := by rfl)
    (hpl : ((backTo pos (starEach [] X.env)).any (·.1) || (backToKw pos (keywordEach kws X.env)).any (·.1.isNone)) = false := by rfl) : We X (.Call (.Name x p) [] kws pos) σ H Q := by
  refine ⟨fun pins s I => ?_⟩
  refine wpAny_Call_Name_kw (ld_glob I hg hm ?_ hdb)
  refine PySem.W.callWith_KW0 (h₀ := X.base) I.ok.mod.kin hk hall ?_ hpl
  refine thn (h.run pos pins s I) fun ws s2 ⟨zs, H2, I2, rz, l2, q2⟩ => ⟨I2.kIn, ?_⟩
  rw [hks]
  exact run_fnQ (us := []) (vs := []) F hr hx I2 .nil rz rfl l2 q2
/-- f(e, .., k = v, ..) -/
theorem w_callQ1 (F : FnQ X.prog X.w X.K X.mg X.base CX k f n ks sp) (hr : Room k X.A) (hm : X.mg x = some (.ref f)) (hk : PySem.W.keepIn X.K (.ref f) = true) (hx : Passes CX X E)
    (h : Wa X (e :: es) σ H fun vs H1 => Wk X kws σ H1 fun zs H2 => vs.length = n ∧ zs.length = ks.length ∧ sp vs zs H2 Q E) (hg : Gl X x := by rfl) (hdb : (x == ("__debug__" : Str)) = false := by decide)
    (hall : (backToKw pos (keywordEach kws X.env)).all (·.1.isSome) = true := by rfl) (hks : (backToKw pos (keywordEach kws X.env)).filterMap (·.1) = ks := by rfl) (he : starEach (e :: es) X.env = (false, eval e X.env) :: starEach es X.env := by rfl)
    (hpl : ((backTo pos (starEach (e :: es) X.env)).any (·.1) || (backToKw pos (keywordEach kws X.env)).any (·.1.isNone)) = false := by rfl) : We X (.Call (.Name x p) (e :: es) kws pos) σ H Q := by
  refine ⟨fun pins s I => ?_⟩
  refine wpAny_Call_Name_kw (ld_glob I hg hm ?_ hdb)
  refine PySem.W.callWith_KW (h₀ := X.base) I.ok.mod.kin hk hall (thn (h.run pos pins s I) fun us s1 ⟨vs, H1, I1, rv, q⟩ => ?_) hpl he
  refine thn (q.run pos pins s1 I1) fun ws s2 ⟨zs, H2, I2, rz, l1, l2, q2⟩ => ⟨I2.kIn, ?_⟩
  rw [hks]
  exact run_fnQ F hr hx I2 rv rz l1 l2 q2
/-- o.m(k = v, ..) -/
theorem w_methQ {pl : Sem Bool} (c : Cls X.K C) (hm : Meth X.K C m f) (F : FnQ X.prog X.w X.K X.mg X.base CX k f 1 ks sp) (hr : Room k X.A) (hx : Passes CX X E)
    (h : We X o σ H fun x H1 => ∃ a dx fs, x = .ref a ∧ H1 a = some (.ins C dx fs) ∧ fs.lookup m = none ∧ Wk X kws σ H1 fun zs H2 => zs.length = ks.length ∧ sp [x] zs H2 Q E)
    (hall : (backToKw pos (keywordEach kws X.env)).all (·.1.isSome) = true := by rfl) (hks : (backToKw pos (keywordEach kws X.env)).filterMap (·.1) = ks := by rfl)
    (hpl : ((backTo pos (starEach [] X.env)).any (·.1) || (backToKw pos (keywordEach kws X.env)).any (·.1.isNone)) = false := by rfl)
    (ht : eval (.Call (.Attribute o m apos) [] kws pos) X.env = (do
      let ov ← eval o X.env
      standAt apos.atName
      let (f, first) ← holding [ov] (getMethod ov m pl)
      callWith pos f first (backTo pos (starEach [] X.env)) (backToKw pos (keywordEach kws X.env))) := by rfl) :
    We X (.Call (.Attribute o m apos) [] kws pos) σ H Q := by
  refine ⟨fun pins s I => ?_⟩
  refine PySem.W.methodCall_KW (pl := pl) (thn (h.run pins s I) fun u s1 ⟨x, H1, I1, rx, a, dx, fs, ex, ea, l, q⟩ => ?_) ht
  subst ex
  obtain rfl : u = Value.ref a := rx
  refine getmeth_ok I1 ea c hm l ?_
  refine PySem.W.callWith_KW0 (h₀ := X.base) I.ok.mod.kin hm.kp hall ?_ hpl
  refine thn (q.run pos pins s1 I1) fun ws s2 ⟨zs, H2, I2, rz, l2, q2⟩ => ⟨I2.kIn, ?_⟩
  rw [hks]
  exact run_fnQ (us := [.ref a]) (vs := [.ref a]) F hr hx I2 (.cons rfl .nil) rz rfl l2 q2
end
end PR
namespace PR
open PySem PySem.Spec PyProof.Rows L2
/-! ### comprehensions -/
/-- the tests of a clause -/
structure Wi (X : Cx) (ifs : List Expr) (σ : L2.St) (H : Hp) (Q : Bool → Hp → Prop) : Prop where
  run : ∀ (pins : List (Addr × Obj)) (s : Shared), Inv X pins σ H s → wpAny (model X.prog X.w) X.A (forIn ifs true fun c r => if r = true then do let ok ← isTrue c X.env (eval c X.env); pure (ForInStep.yield ok) else pure (ForInStep.yield r)) (TP X pins σ Q) X.xe s
theorem i_nil {X : Cx} {σ : L2.St} {H : Hp} {Q : Bool → Hp → Prop} (h : Q true H) : Wi X [] σ H Q := ⟨fun pins s I => pts_nil.run pins s σ H Q I h⟩
theorem i_one {X : Cx} {c : Expr} {σ : L2.St} {H : Hp} {Q : Bool → Hp → Prop} (h : Wt X c σ H Q) : Wi X [c] σ H Q := ⟨fun pins s I => (pts_one ptW).run pins s σ H Q I h⟩
/-- in whatever block of this scope -/
def Bi (X : Cx) (scope : Scope) (ifs : List Expr) : TT := fun σ H Q => ∀ (s : Shared) (H0 : Hp) (C : Addr) (cl : List (Str × Addr)) (fp : List Addr), Wi (X.blk s H0 scope (compEnvC scope cl C X.env) fp) ifs σ H Q
def Be (X : Cx) (scope : Scope) (e : Expr) : TE := fun σ H Q => ∀ (s : Shared) (H0 : Hp) (C : Addr) (cl : List (Str × Addr)) (fp : List Addr), We (X.blk s H0 scope (compEnvC scope cl C X.env) fp) e σ H Q
section
variable {X : Cx} {elt tg iter : Expr} {ifs : List Expr} {scope : Scope} {pos spos py px : Pos} {wi : TI} {g : TG} {σ : L2.St} {H : Hp} {Q : VK} {D : Ends}
theorem w_lc (own : List (Str × Nat)) (hN : X.N.Nodup) (hi : PI X tg iter wi) (hg : ∀ (s : Shared) (H : Hp) (C : Addr) (cl : List (Str × Addr)) (fp : List Addr), PG (X.blk s H scope (compEnvC scope cl C X.env) fp) tg g)
    (h : tLc wi g (Bi X scope ifs) (Be X scope elt) (own.map (·.2)) σ H Q) (ok : BlkOk X.N X.env.scope scope own := by exact blkOk_by (by kernel_rfl)) (hc : X.calm = true := by rfl) (hs : ∀ x, foldedSetIterable iter X.env x = pure x := by intro _; rfl) :
    We X (.ListComp elt [⟨tg, iter, ifs, 0⟩] scope pos) σ H Q :=
  we_of (pe_lc hc hN hi ok hg (fun s H0 C cl fp => ⟨fun pins s1 σ1 H1 Q1 I z => (z s H0 C cl fp).run pins s1 I⟩) (fun s H0 C cl fp => ⟨fun pins s1 σ1 H1 Q1 I z => (z s H0 C cl fp).run pins s1 I⟩) hs) h
theorem s_setLc (i : Nat) {y : Str} (own : List (Str × Nat)) (hN : X.N.Nodup) (hi : PI X tg iter wi) (hg : ∀ (s : Shared) (H : Hp) (C : Addr) (cl : List (Str × Addr)) (fp : List Addr), PG (X.blk s H scope (compEnvC scope cl C X.env) fp) tg g)
    (h : tLc wi g (Bi X scope ifs) (Be X scope elt) (own.map (·.2)) σ H (fun x H1 => D.nx (σ.set i (some x)) H1)) (ok : BlkOk X.N X.env.scope scope own := by exact blkOk_by (by kernel_rfl)) (hy : X.N[i]? = some y := by rfl) (hyl : X.env.scope.names.lookup y = some .local := by rfl)
    (hsw : swapsWith (.ListComp elt [⟨tg, iter, ifs, 0⟩] scope pos) (some (.Name y py)) spos.line X.env = pure true := by rfl) (hc : X.calm = true := by rfl) (hs : ∀ x, foldedSetIterable iter X.env x = pure x := by intro _; rfl) :
    Ws X (.Assign [.Name y py] (.ListComp elt [⟨tg, iter, ifs, 0⟩] scope pos) spos) D σ H :=
  ws_of (ps_setLc hc hN hy hyl hsw hi ok hg (fun s H0 C cl fp => ⟨fun pins s1 σ1 H1 Q1 I z => (z s H0 C cl fp).run pins s1 I⟩) (fun s H0 C cl fp => ⟨fun pins s1 σ1 H1 Q1 I z => (z s H0 C cl fp).run pins s1 I⟩) hs) h
end
theorem wipe1 (σ : L2.St) (j : Nat) (x : V) : wipe ((wipe σ [j]).set j (some x)) [j] = wipe σ [j] := by
  show ((σ.set j none).set j (some x)).set j none = σ.set j none
  rw [List.set_set, List.set_set]
section
variable {X : Cx} {elt e : Expr} {ifs : List Expr} {scope : Scope} {pos spos py px : Pos} {σ : L2.St} {H : Hp} {Q : VK} {D : Ends} {x : Str}
/-- one turn: x the item, D the list that grows -/
def Turn (X : Cx) (scope : Scope) (elt : Expr) (ifs : List Expr) (j : Nat) (σ : L2.St) (L : Addr) (x : V) (H : Hp) (Nx : Hp → Prop) : Prop :=
  Bi X scope ifs ((wipe σ [j]).set j (some x)) H fun b H3 => if b = true then Be X scope elt ((wipe σ [j]).set j (some x)) H3 fun y H4 => ∃ acc, H4 L = some (.lst acc) ∧ acc.length < sizeLine ∧ Nx (upd H4 L (.lst (acc ++ [y]))) else Nx H3
/-- the loop over a list -/
def LoopL (X : Cx) (scope : Scope) (elt : Expr) (ifs : List Expr) (j : Nat) (σ : L2.St) (v : V) (H1 : Hp) (Q : VK) : Prop := ∃ (l : Addr) (xs : List V), v = .ref l ∧ SqL X.K H1 l xs ∧ ∀ L, H1 L = none → ∃ Pv : Nat → Hp → Prop, Pv 0 (upd H1 L (.lst [])) ∧
  (∀ i H', i ≤ xs.length → Pv i H' → SqL X.K H' l xs) ∧ (∀ i y H', xs[i]? = some y → Pv i H' → Turn X scope elt ifs j σ L y H' (Pv (i + 1))) ∧ ∀ H', Pv xs.length H' → Q (.ref L) H'
theorem loopL_ok {j : Nat} (h : We X e σ H fun v H1 => LoopL X scope elt ifs j σ v H1 Q) : ∃ wi, PI X (.Name x px) e wi ∧ tLc wi (gName j) (Bi X scope ifs) (Be X scope elt) [j] σ H Q := by
  refine ⟨_, pi_list peW, ?_⟩
  refine We.mono h fun v H1 z => ?_
  obtain ⟨l, xs, rfl, hl, z⟩ := z
  refine ⟨l, rfl, ⟨xs, hl⟩, fun L hL => ?_⟩
  obtain ⟨Pv, p0, p1, p2, p3⟩ := z L hL
  exact lc_list (K := X.K) (a := l) (xs := xs) Pv p0 p1 (fun i y H' hi hp => ⟨wipe1 σ j y, p2 i y H' hi hp⟩) p3
/-- [elt for x in e if ..], e a list -/
theorem w_lcl (j : Nat) (hN : X.N.Nodup) (h : We X e σ H fun v H1 => LoopL X scope elt ifs j σ v H1 Q) (hj : X.N[j]? = some x := by rfl) (hx : ∀ (cl : List (Str × Addr)) (C : Addr), Loc (compEnvC scope cl C X.env).scope x := by intro _ _; first | exact Or.inl rfl | exact Or.inr rfl)
    (hf : (scope.names.lookup x == some .cell) = true ∨ ∀ (cl : List (Str × Addr)) (C : Addr), (compEnvC scope cl C X.env).scope.names.lookup x = some .local := by first | exact .inl rfl | exact .inr (fun _ _ => rfl))
    (ok : BlkOk X.N X.env.scope scope [(x, j)] := by exact blkOk_by (by kernel_rfl)) (hc : X.calm = true := by rfl) (hs : ∀ z, foldedSetIterable e X.env z = pure z := by intro _; rfl) :
    We X (.ListComp elt [⟨.Name x px, e, ifs, 0⟩] scope pos) σ H Q := by
  obtain ⟨wi, hi, z⟩ := loopL_ok (x := x) (px := px) h
  exact w_lc [(x, j)] hN hi (fun s H0 C cl fp => pg_name (X := X.blk s H0 scope (compEnvC scope cl C X.env) fp) (i := j) hN hj (hx cl C) (hf.imp id fun q => q cl C)) z ok hc hs
theorem s_lcl (i j : Nat) {y : Str} (hN : X.N.Nodup) (h : We X e σ H fun v H1 => LoopL X scope elt ifs j σ v H1 (fun x H1 => D.nx (σ.set i (some x)) H1)) (hj : X.N[j]? = some x := by rfl) (hx : ∀ (cl : List (Str × Addr)) (C : Addr), Loc (compEnvC scope cl C X.env).scope x := by intro _ _; first | exact Or.inl rfl | exact Or.inr rfl)
    (hf : (scope.names.lookup x == some .cell) = true ∨ ∀ (cl : List (Str × Addr)) (C : Addr), (compEnvC scope cl C X.env).scope.names.lookup x = some .local := by first | exact .inl rfl | exact .inr (fun _ _ => rfl))
    (ok : BlkOk X.N X.env.scope scope [(x, j)] := by exact blkOk_by (by kernel_rfl)) (hy : X.N[i]? = some y := by rfl) (hyl : X.env.scope.names.lookup y = some .local := by rfl)
    (hsw : swapsWith (.ListComp elt [⟨.Name x px, e, ifs, 0⟩] scope pos) (some (.Name y py)) spos.line X.env = pure true := by rfl) (hc : X.calm = true := by rfl) (hs : ∀ z, foldedSetIterable e X.env z = pure z := by intro _; rfl) :
    Ws X (.Assign [.Name y py] (.ListComp elt [⟨.Name x px, e, ifs, 0⟩] scope pos) spos) D σ H := by
  obtain ⟨wi, hi, z⟩ := loopL_ok (x := x) (px := px) h
  exact s_setLc i [(x, j)] hN hi (fun s H0 C cl fp => pg_name (X := X.blk s H0 scope (compEnvC scope cl C X.env) fp) (i := j) hN hj (hx cl C) (hf.imp id fun q => q cl C)) z ok hy hyl hsw hc hs
/-- the loop over range(n) -/
def LoopR (X : Cx) (scope : Scope) (elt : Expr) (ifs : List Expr) (j : Nat) (σ : L2.St) (v : V) (H1 : Hp) (Q : VK) : Prop := ∃ n : Nat, v = .int (n : Int) ∧ n < 1000000 ∧ ∀ L, H1 L = none → ∃ Pv : Nat → Hp → Prop, Pv 0 (upd H1 L (.lst [])) ∧
  (∀ i H', i < n → Pv i H' → Turn X scope elt ifs j σ L (.int (i : Int)) H' (Pv (i + 1))) ∧ ∀ H', Pv n H' → Q (.ref L) H'
theorem loopR_ok {j : Nat} {pr pc : Pos} (hm : X.mg "range" = none) (h : We X e σ H fun v H1 => LoopR X scope elt ifs j σ v H1 Q) (hg : Gl X "range") (he : starEach [e] X.env = (false, eval e X.env) :: starEach [] X.env) :
    ∃ wi, PI X (.Name x px) (.Call (.Name "range" pr) [e] [] pc) wi ∧ tLc wi (gName j) (Bi X scope ifs) (Be X scope elt) [j] σ H Q := by
  refine ⟨_, pi_range1 hg hm paW he, ?_⟩
  refine a_cons (We.mono h fun v H1 z => ?_) he
  obtain ⟨n, rfl, hn, z⟩ := z
  refine a_nil ⟨(n : Int), rfl, by omega, by omega, fun L hL => ?_⟩
  obtain ⟨Pv, p0, p2, p3⟩ := z L hL
  refine lc_range (lo := 0) (n := n) Pv p0 (fun i H' hi hp => ?_) p3
  have zz := p2 i H' hi hp
  have e0 : (0 : Int) + (i : Int) = (i : Int) := Int.zero_add _
  rw [e0]
  exact ⟨wipe1 σ j _, zz⟩
theorem w_lcr (j : Nat) {pr pc : Pos} (hN : X.N.Nodup) (hm : X.mg "range" = none) (h : We X e σ H fun v H1 => LoopR X scope elt ifs j σ v H1 Q) (hg : Gl X "range" := by rfl) (he : starEach [e] X.env = (false, eval e X.env) :: starEach [] X.env := by rfl)
    (hj : X.N[j]? = some x := by rfl) (hx : ∀ (cl : List (Str × Addr)) (C : Addr), Loc (compEnvC scope cl C X.env).scope x := by intro _ _; first | exact Or.inl rfl | exact Or.inr rfl)
    (hf : (scope.names.lookup x == some .cell) = true ∨ ∀ (cl : List (Str × Addr)) (C : Addr), (compEnvC scope cl C X.env).scope.names.lookup x = some .local := by first | exact .inl rfl | exact .inr (fun _ _ => rfl))
    (ok : BlkOk X.N X.env.scope scope [(x, j)] := by exact blkOk_by (by kernel_rfl)) (hc : X.calm = true := by rfl) (hs : ∀ z, foldedSetIterable (.Call (.Name "range" pr) [e] [] pc) X.env z = pure z := by intro _; rfl) :
    We X (.ListComp elt [⟨.Name x px, .Call (.Name "range" pr) [e] [] pc, ifs, 0⟩] scope pos) σ H Q := by
  obtain ⟨wi, hi, z⟩ := loopR_ok (x := x) (px := px) (pr := pr) (pc := pc) hm h hg he
  exact w_lc [(x, j)] hN hi (fun s H0 C cl fp => pg_name (X := X.blk s H0 scope (compEnvC scope cl C X.env) fp) (i := j) hN hj (hx cl C) (hf.imp id fun q => q cl C)) z ok hc hs
theorem s_lcr (i j : Nat) {y : Str} {pr pc : Pos} (hN : X.N.Nodup) (hm : X.mg "range" = none) (h : We X e σ H fun v H1 => LoopR X scope elt ifs j σ v H1 (fun x H1 => D.nx (σ.set i (some x)) H1)) (hg : Gl X "range" := by rfl) (he : starEach [e] X.env = (false, eval e X.env) :: starEach [] X.env := by rfl)
    (hj : X.N[j]? = some x := by rfl) (hx : ∀ (cl : List (Str × Addr)) (C : Addr), Loc (compEnvC scope cl C X.env).scope x := by intro _ _; first | exact Or.inl rfl | exact Or.inr rfl)
    (hf : (scope.names.lookup x == some .cell) = true ∨ ∀ (cl : List (Str × Addr)) (C : Addr), (compEnvC scope cl C X.env).scope.names.lookup x = some .local := by first | exact .inl rfl | exact .inr (fun _ _ => rfl))
    (ok : BlkOk X.N X.env.scope scope [(x, j)] := by exact blkOk_by (by kernel_rfl)) (hy : X.N[i]? = some y := by rfl) (hyl : X.env.scope.names.lookup y = some .local := by rfl)
    (hsw : swapsWith (.ListComp elt [⟨.Name x px, .Call (.Name "range" pr) [e] [] pc, ifs, 0⟩] scope pos) (some (.Name y py)) spos.line X.env = pure true := by rfl) (hc : X.calm = true := by rfl) (hs : ∀ z, foldedSetIterable (.Call (.Name "range" pr) [e] [] pc) X.env z = pure z := by intro _; rfl) :
    Ws X (.Assign [.Name y py] (.ListComp elt [⟨.Name x px, .Call (.Name "range" pr) [e] [] pc, ifs, 0⟩] scope pos) spos) D σ H := by
  obtain ⟨wi, hi, z⟩ := loopR_ok (x := x) (px := px) (pr := pr) (pc := pc) hm h hg he
  exact s_setLc i [(x, j)] hN hi (fun s H0 C cl fp => pg_name (X := X.blk s H0 scope (compEnvC scope cl C X.env) fp) (i := j) hN hj (hx cl C) (hf.imp id fun q => q cl C)) z ok hy hyl hsw hc hs
end
end PR
namespace PR
open PySem PySem.Spec PyProof.Rows L2
/-- the law's promise at the heap that the top has left, where it needs that nothing is being shown -/
theorem law_callG {P : Program} {w : World} {K : PySem.W.Frag} {mg mb : Str → Option Value} {k : Nat} {fa a : Addr} {sp : Sp} {s₁ : Shared} {vs : List Value} {ns : List Int}
    (KI : K.In s₁.heap) (ng : s₁.heap.Ns mainGlobals mg) (nb : s₁.heap.Ns builtinsNs mb) (bb : ∀ x : Str, x ≠ "__name__" → mb x = bootBuiltins x) (nl : s₁.heap.NoLimit) (ge : s₁.gens = #[])
    (at_ : s₁.heap.get? a = some { cls := .type "list", data := .seq vs.toArray }) (isI : IntsAre vs ns) (short : ns.length ≤ sizeLine) (room : Room k callerA)
    (F : ∀ base : Heap, K.In base → base.Ns mainGlobals mg → FnG P w K mg base (L2.CX P w) k fa sp)
    (want : ∀ H : Hp, Only H → SqL K H a (ns.map V.int) → sp [.ref a] H (fun v _ => v = .bl true) fun _ _ _ => False) :
    codeAny (model P w) callerA (.call (.ref fa) ⟨[.ref a], []⟩) (fun r s' => r = .ok (.ret (.bool true)) ∧ OldK s₁.heap s'.heap ∧ s'.os = s₁.os ∧ AllBare s'.gens) s₁ := by
  have go : ∀ H : Hp, Only H → SqL K H a (ns.map V.int) → HOk P w H s₁.heap → (∀ b, H b ≠ none → b = a) → (H a ≠ none → K.lookup a = none) →
      codeAny (model P w) callerA (.call (.ref fa) ⟨[.ref a], []⟩) (fun r s' => r = .ok (.ret (.bool true)) ∧ OldK s₁.heap s'.heap ∧ s'.os = s₁.os ∧ AllBare s'.gens) s₁ := by
    intro H only seq hok one lone
    have free_or : ∀ b, H b = none ∨ b = a := fun b => by
      by_cases z : H b = none
      · exact .inl z
      · exact .inr (one b z)
    have dict_free : ∀ {b : Addr} {o : Obj} {es : Array DictEntry} {ep : Nat}, s₁.heap.get? b = some o → o.data = .dict es ep → H b = none := by
      intro b o es ep e1 e2
      rcases free_or b with z | rfl
      · exact z
      · rw [at_] at e1
        cases e1
        exact nomatch (show Data.seq vs.toArray _ = Data.dict es ep from e2)
    have moved : ∀ {b : Addr} {m : Str → Option Value}, s₁.heap.Ns b m → (hidT s₁.heap H).Ns b m := by
      rintro b m ⟨o, es, ep, e1, e2, r⟩
      exact ⟨o, es, ep, hidT_get e1 (dict_free e1 e2), e2, r⟩
    have KB : K.In (hidT s₁.heap H) := by
      intro b o e
      refine hidT_get (KI b o e) ?_
      by_cases z : H b = none
      · exact z
      · have eb := one b z
        subst eb
        rw [lone z] at e
        cases e
    have mod : Mod K mg (hidT s₁.heap H) := ⟨KB, moved ng, ⟨mb, moved nb, bb⟩, let ⟨mc, g1, g2⟩ := nl; ⟨mc, moved g1, g2⟩⟩
    have E0' : Env0 P w K mg (hidT s₁.heap H) callerA [] s₁ H := ⟨rfl, mod, fun _ _ z => of_hidT z, Nat.le_of_eq (hidT_size _ _), trivial, fun _ z => (nomatch (show _ ∈ ([] : List Addr) from z)), hok, .of_eq ge⟩
    refine codeAny_mono (F _ KB (moved ng) callerA [] s₁ H [.ref a] [.ref a] _ _ rfl room E0' (.cons rfl .nil) (want H only seq)) fun r s2 z => ?_
    match r, z with
    | .error e, ⟨_, _, _, _, _, _, _, _, _, _, _, _, z⟩ => exact False.elim z
    | .ok .next, z => exact False.elim z
    | .ok .brk, z => exact False.elim z
    | .ok .cont, z => exact False.elim z
    | .ok (.ret u), ⟨v, H', g1, g2, g3, g4, g5, g6⟩ =>
      have g6 : v = .bl true := g6
      subst g6
      have g5 : u = Value.bool true := g5
      subst g5
      refine ⟨rfl, OldK.of_keep fun b o e => ?_, g1, g2⟩
      rcases only b with z | ⟨ob, xs, z⟩
      · exact g3.keep b o e z (fun y => nomatch (show b ∈ ([] : List Addr) from y)) (by simp)
      · have y := g3.frzs b ob _ z
        have y1 := (hok b _ z).1
        have y2 := (g4 b _ y).1
        rw [e] at y1
        cases y1
        exact y2
  have rel := vals_ints isI
  have ll := isI.length
  by_cases hk : K.lookup a = none
  · refine go (fun b => if b = a then some (.frz { cls := .type "list", data := .seq vs.toArray } (.lst (ns.map V.int))) else none) (fun b => ?_) (.inl (.inr ⟨_, if_pos rfl⟩)) (fun b u z => ?_) (fun b z => ?_) fun _ => hk
    · by_cases hb : b = a
      · exact .inr ⟨_, _, if_pos hb⟩
      · exact .inl (if_neg hb)
    · by_cases hb : b = a
      · have y := (if_pos hb).symm.trans z
        cases y
        subst hb
        exact ⟨at_, by rw [List.length_map]; exact short, vs, _, rel, at_⟩
      · exact nomatch (if_neg hb).symm.trans z
    · exact Decidable.byContradiction fun hb => z (if_neg hb)
  · obtain ⟨o, ho⟩ := Option.ne_none_iff_exists'.mp hk
    have e := KI a o ho
    rw [at_] at e
    cases e
    exact go (fun _ => none) (fun _ => .inl rfl) (.inr ⟨_, vs.toArray, _, ho, rfl, rfl, rfl, by rw [List.size_toArray, ll]; exact short, by simpa using rel⟩) (fun _ u z => nomatch (show (none : Option HO) = some u from z)) (fun _ z => absurd rfl z) fun z => absurd rfl z
/-- a law's end -/
theorem walk_ofG {l : PySem.W.OpenLaw} {n k : Nat} {q : Program} {loose : List Str} {XP : (Str → Option Value) → Heap → Prop} {YP : World → Heap → Prop} {d : DefRec} (hn : l.most = some n) (hn2 : n ≤ sizeLine) (hdf : d.params.defaults = []) (room : Room k callerA)
    (F : ∀ (w : World) (mg : Str → Option Value) (fa : Addr) (h : Heap), YP w h → h.Ns mainGlobals mg → mg d.name = some (.ref fa) →
      ∃ (K : PySem.W.Frag) (sp : Sp), K.In h ∧ (∀ (H : Hp) (a : Addr) (ns : List Int), ns.length ≤ n → Only H → SqL K H a (ns.map V.int) → sp [.ref a] H (fun v _ => v = .bl true) fun _ _ _ => False) ∧
        ∀ base : Heap, K.In base → base.Ns mainGlobals mg → FnG l.prog w K mg base (L2.CX l.prog w) k fa sp) :
    PySem.W.WalkO q loose XP YP l.row.toRowW d [] (fun f vs => PySem.call f vs) := by
  refine Att.attach_call hn hdf fun w s₀ s₁ mg mb fa o pm cd doc a vs ns G Y ho hd hcd hmg hobj hints hlen hg => ?_
  obtain ⟨K, sp, KI, want, FF⟩ := F w mg fa _ Y G.T.g hmg
  exact law_callG KI G.T.g G.T.b G.T.builtins G.T.nolimit hg hobj hints (Nat.le_trans hlen hn2) room FF fun H hO hS => want H a ns hlen hO hS
end PR
namespace PR
open PySem PySem.Spec PyProof.Rows L2
/-! ### slices, chains, texts -/
section
variable {X : Cx} {e a b c : Expr} {σ : L2.St} {H : Hp} {Q : VK} {Qb : Bool → Hp → Prop} {pos p2 : Pos} {r : V → Option Int → Option Int → Hp → VK → Prop}
theorem w_slF (hr : SlR X r) (h : We X e σ H fun x H1 => We X c σ H1 fun y H2 => ∃ i, y = .int i ∧ r x (some i) none H2 Q) : We X (.Subscript e (.Slice (some c) none none p2) pos) σ H Q := we_of (pe_slice hr peW (po_some peW) po_none) h
theorem w_slT (hr : SlR X r) (h : We X e σ H fun x H1 => We X c σ H1 fun y H2 => ∃ i, y = .int i ∧ r x none (some i) H2 Q) : We X (.Subscript e (.Slice none (some c) none p2) pos) σ H Q := we_of (pe_slice hr peW po_none (po_some peW)) h
theorem w_chain {op op' : CmpOp} {r r' : R2} (ho : OpR X (compareOp op) r) (ho' : OpR X (compareOp op') r') (h : We X a σ H fun x H1 => We X b σ H1 fun y H2 => r x y H2 fun z H3 => ∃ k, z = .bl k ∧ (if k = true then We X c σ H3 fun w' H4 => r' y w' H4 Q else Q (.bl false) H3))
    (hm : lastMarks [op, op'] [b, c] = false := by with_unfolding_all rfl) : We X (.Compare a [op, op'] [b, c] pos) σ H Q := we_of (pe_chain ho ho' peW peW peW hm) h
theorem t_chain {op op' : CmpOp} {r r' : R2} (ho : OpR X (compareOp op) r) (ho' : OpR X (compareOp op') r') (h : We X a σ H fun x H1 => We X b σ H1 fun y H2 => r x y H2 fun z H3 => ∃ k, z = .bl k ∧ (if k = true then We X c σ H3 fun w' H4 => r' y w' H4 fun z H5 => ∃ k, z = .bl k ∧ Qb k H5 else ∃ k, V.bl false = .bl k ∧ Qb k H3))
    (hm : lastMarks [op, op'] [b, c] = false := by with_unfolding_all rfl) : Wt X (.Compare a [op, op'] [b, c] pos) σ H Qb := wt_of (pt_chain ho ho' peW peW peW hm) h
theorem w_split {apos : Pos} (h : We X e σ H fun x H1 => ∃ s, x = .str s ∧ We X c σ H1 fun y H2 => ∃ d, y = .str d ∧ (d.length == 0) = false ∧ s.length + 2 ≤ sizeLine ∧ rNewStrs (Txt.split s d) H2 Q)
    (hs : starEach [c] X.env = [(false, eval c X.env)] := by rfl) (hbase : attributeBase e "split" X.env (eval e X.env) = eval e X.env := by rfl) (hline : (apos.endLine == pos.line) = true := by rfl) : We X (.Call (.Attribute e "split" apos) [c] [] pos) σ H Q :=
  we_of (pe_split peW peW hs hbase hline) (We.mono h fun x H1 ⟨s, ex, z⟩ => ⟨⟨s, ex⟩, We.mono z fun y H2 ⟨d, ed, h1, h2, h3⟩ => ⟨s, d, ex, by rw [ed], h1, h2, h3⟩⟩)
theorem w_fmt (h : We X e σ H fun x H1 => (∃ y : Str, x = .str y ∧ y.length ≤ sizeLine ∧ Q (.str y) H1) ∨ ∃ i : Int, x = .int i ∧ i.natAbs.log2 < 1920 ∧ Q (.str (toString i)) H1) : We X (.FormattedValue e (-1) none pos) σ H Q := we_of (pe_fmt peW) h
end
/-! ### comprehensions over a text -/
section
variable {X : Cx} {elt e : Expr} {ifs : List Expr} {scope : Scope} {pos spos py px : Pos} {σ : L2.St} {H : Hp} {Q : VK} {D : Ends} {x : Str}
def LoopS (X : Cx) (scope : Scope) (elt : Expr) (ifs : List Expr) (j : Nat) (σ : L2.St) (v : V) (H1 : Hp) (Q : VK) : Prop := ∃ s : Str, v = .str s ∧ ∀ L, H1 L = none → ∃ Pv : Nat → Hp → Prop, Pv 0 (upd H1 L (.lst [])) ∧
  (∀ i c H', (TL.tl s)[i]? = some c → Pv i H' → Turn X scope elt ifs j σ L (.str ⟨#[c]⟩) H' (Pv (i + 1))) ∧ ∀ H', Pv (TL.tl s).length H' → Q (.ref L) H'
theorem walk_its (s : Str) : Walk (Its s) (TL.tl s).length (fun _ => True) (fun i H v H' => H' = H ∧ ∃ c, (TL.tl s)[i]? = some c ∧ v = .str ⟨#[c]⟩) := by
  have e : (TL.tl s).length = s.cps.size := by simp [TL.tl]
  refine ⟨fun i _ hi _ => by show i < s.cps.size; omega, fun _ _ => by show s.cps.size ≤ _; omega, fun i H v H' _ _ y => ?_⟩
  obtain ⟨e1, c, e2, e3⟩ := y
  exact ⟨e1, c, by rw [← e2]; simp [TL.tl], e3⟩
theorem loopS_ok {j : Nat} (h : We X e σ H fun v H1 => LoopS X scope elt ifs j σ v H1 Q) : ∃ wi, PI X (.Name x px) e wi ∧ tLc wi (gName j) (Bi X scope ifs) (Be X scope elt) [j] σ H Q := by
  refine ⟨_, pi_str peW, ?_⟩
  refine We.mono h fun v H1 z => ?_
  obtain ⟨s, rfl, z⟩ := z
  refine ⟨s, rfl, fun L hL => ?_⟩
  obtain ⟨Pv, p0, p2, p3⟩ := z L hL
  refine lc_it (walk_its s) Pv p0 (fun _ _ _ _ => trivial) (fun i y H0 H' hi hp hy => ?_) p3
  obtain ⟨rfl, c, hc, rfl⟩ := hy
  exact ⟨wipe1 σ j _, p2 i c _ hc hp⟩
theorem w_lcs (j : Nat) (hN : X.N.Nodup) (h : We X e σ H fun v H1 => LoopS X scope elt ifs j σ v H1 Q) (hj : X.N[j]? = some x := by rfl) (hx : ∀ (cl : List (Str × Addr)) (C : Addr), Loc (compEnvC scope cl C X.env).scope x := by intro _ _; first | exact Or.inl rfl | exact Or.inr rfl)
    (hf : (scope.names.lookup x == some .cell) = true ∨ ∀ (cl : List (Str × Addr)) (C : Addr), (compEnvC scope cl C X.env).scope.names.lookup x = some .local := by first | exact .inl rfl | exact .inr (fun _ _ => rfl))
    (ok : BlkOk X.N X.env.scope scope [(x, j)] := by exact blkOk_by (by kernel_rfl)) (hc : X.calm = true := by rfl) (hs : ∀ z, foldedSetIterable e X.env z = pure z := by intro _; rfl) :
    We X (.ListComp elt [⟨.Name x px, e, ifs, 0⟩] scope pos) σ H Q := by
  obtain ⟨wi, hi, z⟩ := loopS_ok (x := x) (px := px) h
  exact w_lc [(x, j)] hN hi (fun s H0 C cl fp => pg_name (X := X.blk s H0 scope (compEnvC scope cl C X.env) fp) (i := j) hN hj (hx cl C) (hf.imp id fun q => q cl C)) z ok hc hs
end
/-! ### classmethods -/
section
variable {X : Cx} {CX : CXT} {k : Nat} {C p g : Addr} {mc : Value} {sp : Sp} {E : XK} {o e : Expr} {es : List Expr} {m : Str} {pos apos : Pos} {σ : L2.St} {H : Hp} {Q : VK}
theorem run_cmA {pins : List (Addr × Obj)} {s : Shared} {q : Addr} {us : List Value} {vs : List V} (F : FnR X.prog X.w X.K X.mg X.base CX k g sp) (hr : Room k X.A) (hx : PassAt CX X σ E) (I : Inv X ((q, PySem.W.methodObj (.ref g) (.ref C)) :: pins) σ H s) (r : Vals vs us) (h : sp (.ref C :: vs) H Q E) :
    wpAny (model X.prog X.w) X.A (call (.ref q) us) (EP X pins σ Q) X.xe s := by
  have z : wpAny (model X.prog X.w) X.A (call (.ref q) us) (EP X ((q, PySem.W.methodObj (.ref g) (.ref C)) :: pins) σ Q) X.xe s :=
    wpAny_call (PySem.W.method_call (ClX.pin_at I) (run_fnA (us := .ref C :: us) (vs := .ref C :: vs) F hr hx I (.cons rfl r) h))
  exact thn z fun _ _ y => ClX.unpinE y
theorem w_cmethA {pl : Sem Bool} (r : ClX.CRead X.K C mc) (c : ClX.CMet X.K C mc m p g) (F : FnR X.prog X.w X.K X.mg X.base CX k g sp) (hr : Room k X.A) (hx : PassAt CX X σ E)
    (h : We X o σ H fun x H1 => x = .ref C ∧ Wa X (e :: es) σ H1 fun vs H2 => sp (.ref C :: vs) H2 Q E)
    (hst : starEach (e :: es) X.env = (false, eval e X.env) :: starEach es X.env := by rfl) (hpl : (backTo pos (starEach es X.env)).any (·.1) = false := by rfl)
    (ht : eval (.Call (.Attribute o m apos) (e :: es) [] pos) X.env = (do
      let ov ← eval o X.env
      standAt apos.atName
      let (f, first) ← holding [ov] (getMethod ov m pl)
      callWith pos f first (backTo pos (starEach (e :: es) X.env)) (backToKw pos (keywordEach [] X.env))) := by rfl) :
    We X (.Call (.Attribute o m apos) (e :: es) [] pos) σ H Q := by
  refine ⟨fun pins s I => ?_⟩
  refine PySem.W.methodCall_KW (pl := pl) (thn (h.run pins s I) fun u s1 ⟨x, H1, I1, rx, ex, q⟩ => ?_) ht
  subst ex
  obtain rfl : u = Value.ref C := rx
  refine ClX.getmethcm_ok I1 r c fun s2 I2 => ?_
  refine ClX.callwith_cm I2 (ClX.base_none I1 (Nat.le_refl _)) c.fi (thn (q.run pos _ s2 I2) fun us s3 ⟨vs, H2, I3, rv, q2⟩ => ⟨⟨ClX.pin_at I3, I3.kIn⟩, ?_⟩) hst hpl
  exact run_cmA F hr hx I3 rv q2
/-- o.m(k = v, ..), o a class, m a classmethod -/
theorem w_cmethQ {pl : Sem Bool} {ks : List Str} {kws : List Keyword} {sq : List V → List V → Hp → VK → XK → Prop} (r : ClX.CRead X.K C mc) (c : ClX.CMet X.K C mc m p g) (F : FnQ X.prog X.w X.K X.mg X.base CX k g 1 ks sq) (hr : Room k X.A) (hx : PassAt CX X σ E)
    (h : We X o σ H fun x H1 => x = .ref C ∧ Wk X kws σ H1 fun zs H2 => zs.length = ks.length ∧ sq [.ref C] zs H2 Q E)
    (hall : (backToKw pos (keywordEach kws X.env)).all (·.1.isSome) = true := by rfl) (hks : (backToKw pos (keywordEach kws X.env)).filterMap (·.1) = ks := by rfl)
    (hpl : ((backTo pos (starEach [] X.env)).any (·.1) || (backToKw pos (keywordEach kws X.env)).any (·.1.isNone)) = false := by rfl)
    (ht : eval (.Call (.Attribute o m apos) [] kws pos) X.env = (do
      let ov ← eval o X.env
      standAt apos.atName
      let (f, first) ← holding [ov] (getMethod ov m pl)
      callWith pos f first (backTo pos (starEach [] X.env)) (backToKw pos (keywordEach kws X.env))) := by rfl) :
    We X (.Call (.Attribute o m apos) [] kws pos) σ H Q := by
  refine ⟨fun pins s I => ?_⟩
  refine PySem.W.methodCall_KW (pl := pl) (thn (h.run pins s I) fun u s1 ⟨x, H1, I1, rx, ex, q⟩ => ?_) ht
  subst ex
  obtain rfl : u = Value.ref C := rx
  refine ClX.getmethcm_ok I1 r c fun s2 I2 => ?_
  refine PySem.W.callWith_of hpl (PySem.W.keeps_M c.fi) (evalArgs_kw2_nil hall (thn (q.run pos _ s2 I2) fun ws s3 ⟨zs, H2, I3, rz, l2, q2⟩ => ⟨⟨ClX.pin_at I3, I3.kIn⟩, ?_⟩))
  rw [hks]
  have zz : wpAny (model X.prog X.w) X.A (call (.ref s1.heap.objs.size) [] (ks.zip ws)) (EP X ((s1.heap.objs.size, PySem.W.methodObj (.ref g) (.ref C)) :: pins) σ Q) X.xe s3 :=
    wpAny_call (PySem.W.method_call (ClX.pin_at I3) (codeAny_mono (F X.A X.stack s3 H2 [.ref C] ws [.ref C] zs Q E hr I3.env0 (.cons rfl .nil) rz rfl l2 q2) fun r s' z => by
      match r, z with
      | .error e, z => exact hx _ H2 s3 e s' I3 z
      | .ok (.ret u), z => exact I3.after z
      | .ok .next, z => exact z
      | .ok .brk, z => exact z
      | .ok .cont, z => exact z))
  exact thn zz fun _ _ y => ClX.unpinE y
/-- C(e, ..), C in a local name -/
theorem w_makeV (i : Nat) {x : Str} {f : Addr} {nm : Pos} (M : Mk X.K C f) (F : FnR X.prog X.w X.K X.mg X.base CX k f sp) (hr : Room (k + 1) X.A) (hx : PassAt CX X σ E) (hv : σ[i]? = some (some (.ref C)))
    (h : Wa X (e :: es) σ H fun vs H1 => ∀ x dx, H1 x = Option.none → H1 dx = Option.none → dx ≠ x → sp (V.ref x :: vs) (upd (upd H1 dx (.own x)) x (.ins C dx [])) (fun v H2 => v = .non ∧ Q (.ref x) H2) E)
    (hN : X.N[i]? = some x := by rfl) (hvis : Vis X.env.scope x := by first | exact Or.inl rfl | exact Or.inr (Or.inl rfl) | exact Or.inr (Or.inr rfl)) (hd : (x == ("__debug__" : Str)) = false := by decide) (hcd : (x == ("__classdict__" : Str)) = false := by decide)
    (he : starEach (e :: es) X.env = (false, eval e X.env) :: starEach es X.env := by rfl) (hpl : (backTo pos (starEach es X.env)).any (·.1) = false := by rfl) : We X (.Call (.Name x nm) (e :: es) [] pos) σ H Q := by
  refine ⟨fun pins s I => ?_⟩
  refine wpAny_Call_Name_kw (thn ((w_var (X := X) (pos := nm) (Q := fun v H1 => v = .ref C ∧ H1 = H) i hv ⟨rfl, rfl⟩ hN hvis hd hcd).run pins s I) fun u s0 ⟨v, H1, I0, r0, ev, eH⟩ => ?_)
  subst ev
  rw [eH] at I0
  obtain rfl : u = Value.ref C := r0
  refine PySem.W.callWith_K (h₀ := X.base) I0.ok.mod.kin M.kp (thn (h.run pos pins s0 I0) fun us s1 ⟨vs, H1, I1, r, q⟩ => ⟨I1.kIn, ?_⟩) he hpl
  have J := Inv.made (C := C) I1
  have z := q (s1.heap.objs.size + 1) s1.heap.objs.size (I1.hok.fresh (Nat.le_succ _)) (I1.hok.fresh (Nat.le_refl _)) (Nat.ne_of_lt (Nat.lt_succ_self _))
  have r2 : Vals (V.ref (s1.heap.objs.size + 1) :: vs) (Value.ref (s1.heap.objs.size + 1) :: us) := .cons rfl r
  refine wpAny_call (make_map (f := f) I1.kIn M.makes M.init (beq_iff_eq.mp M.fn) (codeAny_mono (F _ X.stack _ _ _ _ _ E (hr.make C us []) (J.env0.make C us []) r2 z) fun rr s' zz => ?_))
  match rr, zz with
  | .error e, zz => exact hx pins _ _ e s' J zz
  | .ok (.ret u), zz =>
    obtain ⟨v, H', I3, rv, ev, q3⟩ := J.after zz
    subst ev
    exact ⟨rv, ⟨V.ref (s1.heap.objs.size + 1), H', I3, rfl, q3⟩⟩
  | .ok .next, zz => exact zz
  | .ok .brk, zz => exact zz
  | .ok .cont, zz => exact zz
end
theorem Passes.at_ {CX : CXT} {X : Cx} {E : XK} (h : Passes CX X E) (σ : L2.St) : PassAt CX X σ E := fun pins H s e s' I c => h pins σ H s e s' I c
end PR
namespace PR
open PySem PySem.Spec PyProof.Rows L2
/-! ### comprehensions that map and choose -/
/-- a list at D changes, all else that stood stands -/
def KD (D : Addr) (H H' : Hp) : Prop := (∃ acc, H D = some (.lst acc)) ∧ ∀ a o, a ≠ D → H a = some o → H' a = some o
theorem KD.of_same {D : Addr} {H H' : Hp} {acc : List V} (h : H D = some (.lst acc)) (s : Same H H') : KD D H H' := ⟨⟨acc, h⟩, fun a o _ e => s a o e⟩
theorem KD.upd {D : Addr} {H : Hp} {acc : List V} {o : HO} (h : H D = some (.lst acc)) : KD D H (upd H D o) := ⟨⟨acc, h⟩, fun a u n e => by rw [upd_ne n]; exact e⟩
theorem KD.ne {D : Addr} {H H' : Hp} (k : KD D H H') {a : Addr} {o : HO} (e : H a = some o) (n : ∀ xs, o ≠ .lst xs) : a ≠ D := fun z => by
  obtain ⟨acc, h⟩ := k.1
  rw [z, h] at e
  exact n _ (Option.some.inj e).symm
/-- the values of the turns that are kept -/
def Got (keep : Nat → Bool) (n : Nat) (R : Nat → V → Hp → Prop) (ys : List V) (H : Hp) : Prop := ys.length = ((List.range n).filter keep).length ∧ ∀ (j i : Nat) (y : V), ((List.range n).filter keep)[j]? = some i → ys[j]? = some y → R i y H
theorem Got.nil {keep : Nat → Bool} {R : Nat → V → Hp → Prop} {H : Hp} : Got keep 0 R [] H := ⟨rfl, fun j i y h _ => by simp at h⟩
theorem Got.skip {keep : Nat → Bool} {n : Nat} {R : Nat → V → Hp → Prop} {ys : List V} {H : Hp} (g : Got keep n R ys H) (h : keep n = false) : Got keep (n + 1) R ys H := by
  have e : (List.range (n + 1)).filter keep = (List.range n).filter keep := by rw [List.range_succ, List.filter_append]; simp [h]
  unfold Got
  rw [e]
  exact g
theorem Got.snoc {keep : Nat → Bool} {n : Nat} {R : Nat → V → Hp → Prop} {ys : List V} {y : V} {H : Hp} (g : Got keep n R ys H) (h : keep n = true) (r : R n y H) : Got keep (n + 1) R (ys ++ [y]) H := by
  have e : (List.range (n + 1)).filter keep = (List.range n).filter keep ++ [n] := by rw [List.range_succ, List.filter_append]; simp [h]
  unfold Got
  rw [e]
  refine ⟨by rw [List.length_append, List.length_append, g.1]; rfl, fun j i z h1 h2 => ?_⟩
  by_cases hj : j < ys.length
  · rw [List.getElem?_append_left (by rw [← g.1]; exact hj)] at h1
    rw [List.getElem?_append_left hj] at h2
    exact g.2 j i z h1 h2
  · rw [List.getElem?_append_right (by rw [← g.1]; omega)] at h1
    rw [List.getElem?_append_right (by omega)] at h2
    have z1 : j - ys.length = 0 := by
      rcases Nat.eq_zero_or_pos (j - ys.length) with q | q
      · exact q
      · rw [List.getElem?_eq_none (by simp; omega)] at h2
        cases h2
    rw [← g.1, z1] at h1
    rw [z1] at h2
    have a1 : n = i := by simpa using h1
    have a2 : y = z := by simpa using h2
    subst a1
    subst a2
    exact r
theorem Got.mono {keep : Nat → Bool} {n : Nat} {R R' : Nat → V → Hp → Prop} {ys : List V} {H H' : Hp} (g : Got keep n R ys H) (h : ∀ i y, i < n → R i y H → R' i y H') : Got keep n R' ys H' :=
  ⟨g.1, fun j i y h1 h2 => h i y (List.mem_range.mp (List.mem_filter.mp (List.mem_of_getElem? h1)).1) (g.2 j i y h1 h2)⟩
theorem Got.all {n : Nat} {R : Nat → V → Hp → Prop} {ys : List V} {H : Hp} (g : Got (fun _ => true) n R ys H) : ys.length = n ∧ ∀ (i : Nat) (y : V), ys[i]? = some y → R i y H := by
  have e : (List.range n).filter (fun _ => true) = List.range n := List.filter_eq_self.mpr fun _ _ => rfl
  have g1 := g.1
  rw [e, List.length_range] at g1
  refine ⟨g1, fun i y h => g.2 i i y ?_ h⟩
  have hi : i < n := by rw [← g1]; exact (List.getElem?_eq_some_iff.mp h).1
  rw [e, List.getElem?_range hi]
theorem Wi.mono {X : Cx} {ifs : List Expr} {σ : L2.St} {H : Hp} {Q Q' : Bool → Hp → Prop} (h : Wi X ifs σ H Q) (k : ∀ b H', Q b H' → Q' b H') : Wi X ifs σ H Q' := ⟨fun pins s I => thn (h.run pins s I) fun v _ ⟨H', J, q⟩ => ⟨H', J, k v H' q⟩⟩
/-- each turn gives one value, or is left out; n turns, the slots at turn i are st i -/
def Mapd (X : Cx) (scope : Scope) (elt : Expr) (ifs : List Expr) (n : Nat) (st : Nat → L2.St) (H1 : Hp) (Q : VK) : Prop :=
  n ≤ 1000 ∧ ∀ D, H1 D = none → ∃ (keep : Nat → Bool) (R : Nat → V → Hp → Prop), (∀ i y H H', KD D H H' → R i y H → R i y H') ∧
    (∀ i H' acc, i < n → Same H1 H' → H' D = some (.lst acc) → Bi X scope ifs (st i) H' fun b H2 => b = keep i ∧ Same H' H2 ∧ (b = true → Be X scope elt (st i) H2 fun y H3 => Same H2 H3 ∧ R i y H3)) ∧
    ∀ ys H', Same H1 H' → H' D = some (.lst ys) → Got keep n R ys H' → Q (.ref D) H'
/-- the same without tests -/
def MapA (X : Cx) (scope : Scope) (elt : Expr) (n : Nat) (st : Nat → L2.St) (H1 : Hp) (Q : VK) : Prop :=
  n ≤ 1000 ∧ ∀ D, H1 D = none → ∃ (R : Nat → V → Hp → Prop), (∀ i y H H', KD D H H' → R i y H → R i y H') ∧
    (∀ i H' acc, i < n → Same H1 H' → H' D = some (.lst acc) → Be X scope elt (st i) H' fun y H3 => Same H' H3 ∧ R i y H3) ∧
    ∀ ys H', Same H1 H' → H' D = some (.lst ys) → ys.length = n → (∀ (i : Nat) (y : V), ys[i]? = some y → R i y H') → Q (.ref D) H'
theorem MapA.mapd {X : Cx} {scope : Scope} {elt : Expr} {n : Nat} {st : Nat → L2.St} {H1 : Hp} {Q : VK} (h : MapA X scope elt n st H1 Q) : Mapd X scope elt [] n st H1 Q := by
  refine ⟨h.1, fun D hD => ?_⟩
  obtain ⟨R, r1, r2, r3⟩ := h.2 D hD
  refine ⟨fun _ => true, R, r1, fun i H' acc hi s hd => fun s0 H0 C cl fp => i_nil ⟨rfl, fun _ _ e => e, fun _ => r2 i H' acc hi s hd⟩, fun ys H' s hd g => ?_⟩
  obtain ⟨g1, g2⟩ := g.all
  exact r3 ys H' s hd g1 g2
theorem lc_map {J : It} {n : Nat} {G : Hp → Prop} {Y : Nat → Hp → V → Hp → Prop} {X : Cx} {scope : Scope} {elt : Expr} {ifs : List Expr} {st : Nat → L2.St} {g : TG} {vs : List Nat} {σ : L2.St} {H1 : Hp} {D : Addr} {Q : VK} (w : Walk J n G Y) (hG : ∀ H', Same H1 H' → G H')
    (hw : ∀ i, i < n → wipe (st i) vs = wipe σ vs) (hY : ∀ i H' x H'' (N : L2.St → Hp → Prop), i < n → Same H1 H' → Y i H' x H'' → (∀ H2, Same H' H2 → N (st i) H2) → g x (wipe σ vs) H'' N) (h : Mapd X scope elt ifs n st H1 Q) (hD : H1 D = none) :
    ∃ W : Nat → Nat → Hp → Prop, (∃ m, W 0 m (upd H1 D (.lst []))) ∧ ∀ i m H, W i m H →
      (J.stop i H ∧ Q (.ref D) H) ∨ (J.go i H ∧ ∃ Nx : Hp → Prop, (∀ H', Nx H' → ∃ m', m' < m ∧ W (i + 1) m' H') ∧ ∀ x H', J.yld i H x H' → g x (wipe σ vs) H' fun σ2 H2 => wipe σ2 vs = wipe σ vs ∧ Bi X scope ifs σ2 H2 fun b H3 =>
        if b = true then Be X scope elt σ2 H3 fun y H4 => ∃ acc, H4 D = some (.lst acc) ∧ acc.length < sizeLine ∧ Nx (upd H4 D (.lst (acc ++ [y]))) else Nx H3) := by
  obtain ⟨hn, h⟩ := h
  obtain ⟨keep, R, r1, r2, r3⟩ := h D hD
  have new : Same H1 (upd H1 D (.lst [])) := fun b o e => by rw [upd_ne (ne_of_none e hD)]; exact e
  refine lc_it w (Qd := fun H => Q (.ref D) H) (fun i H => Same H1 H ∧ ∃ acc, H D = some (.lst acc) ∧ acc.length ≤ i ∧ Got keep i R acc H) ⟨new, [], upd_same, Nat.le_refl _, .nil⟩ (fun i H _ p => hG H p.1) (fun i x H H' hi p y => ?_) fun H p => ?_
  · obtain ⟨s0, acc, hd, hl, g0⟩ := p
    refine hY i H x H' _ hi s0 y fun H2 s2 => ⟨hw i hi, ?_⟩
    have z := r2 i H2 acc hi (s0.trans s2) (s2 _ _ hd)
    have g2 : Got keep i R acc H2 := g0.mono fun j y _ r => r1 j y H H2 (KD.of_same hd s2) r
    refine fun s' H0 C cl fp => Wi.mono (z s' H0 C cl fp) fun b H3 q => ?_
    obtain ⟨e, s3, q⟩ := q
    have d3 := s3 _ _ (s2 _ _ hd)
    have g3 : Got keep i R acc H3 := g2.mono fun j y _ r => r1 j y H2 H3 (KD.of_same (s2 _ _ hd) s3) r
    cases b with
    | true =>
      rw [if_pos rfl]
      refine fun s' H0 C cl fp => We.mono (q rfl s' H0 C cl fp) fun y H4 q => ?_
      obtain ⟨s4, ry⟩ := q
      have d4 := s4 _ _ d3
      have g4 : Got keep i R acc H4 := g3.mono fun j y _ r => r1 j y H3 H4 (KD.of_same d3 s4) r
      refine ⟨acc, d4, by rw [sizeLine_eq]; omega, fun b o e => ?_, acc ++ [y], upd_same, by rw [List.length_append]; exact Nat.succ_le_succ hl, ?_⟩
      · rw [upd_ne (ne_of_none e hD)]
        exact s4 _ _ (s3 _ _ (s2 _ _ (s0 _ _ e)))
      · exact (g4.snoc e.symm ry).mono fun j z _ r => r1 j z H4 _ (KD.upd d4) r
    | false =>
      rw [if_neg Bool.false_ne_true]
      exact ⟨s0.trans (s2.trans s3), acc, d3, Nat.le_succ_of_le hl, g3.skip e.symm⟩
  · obtain ⟨s0, acc, hd, _, g0⟩ := p
    exact r3 acc H s0 hd g0
theorem wipe2 (σ : L2.St) (i j : Nat) (x y : V) : wipe (((wipe σ [i, j]).set i (some x)).set j (some y)) [i, j] = wipe σ [i, j] := by
  refine List.ext_getElem? fun k => ?_
  simp only [wipe, List.getElem?_set, List.length_set]
  by_cases h1 : i = k <;> by_cases h2 : j = k <;> simp [h1, h2]
section
variable {X : Cx} {elt e e2 : Expr} {ifs : List Expr} {scope : Scope} {pos spos py px : Pos} {σ : L2.St} {H : Hp} {Q : VK} {D : Ends} {x y : Str}
/-- over a list -/
def LoopM (X : Cx) (scope : Scope) (elt : Expr) (ifs : List Expr) (j : Nat) (σ : L2.St) (v : V) (H1 : Hp) (Q : VK) : Prop := ∃ (l : Addr) (xs : List V), v = .ref l ∧ SqL X.K H1 l xs ∧ Mapd X scope elt ifs xs.length (fun i => (wipe σ [j]).set j xs[i]?) H1 Q
theorem sq_same {K : PySem.W.Frag} {H H' : Hp} {l : Addr} {xs : List V} (s : Same H H') (h : SqL K H l xs) : SqL K H' l xs := s.seq h
theorem loopM_ok {j : Nat} (h : We X e σ H fun v H1 => LoopM X scope elt ifs j σ v H1 Q) : ∃ wi, PI X (.Name x px) e wi ∧ tLc wi (gName j) (Bi X scope ifs) (Be X scope elt) [j] σ H Q := by
  refine ⟨_, pi_list peW, ?_⟩
  refine We.mono h fun v H1 z => ?_
  obtain ⟨l, xs, rfl, hl, z⟩ := z
  refine ⟨l, rfl, ⟨xs, hl⟩, fun L hL => ?_⟩
  refine lc_map (walk_list (xs := xs)) (fun H' s => sq_same s hl) (fun i hi => ?_) (fun i H' v H'' N hi s yy k => ?_) z hL
  · show wipe ((wipe σ [j]).set j xs[i]?) [j] = wipe σ [j]
    rw [List.getElem?_eq_getElem hi]
    exact wipe1 σ j _
  · obtain ⟨rfl, ex⟩ := yy
    show N ((wipe σ [j]).set j (some v)) H''
    rw [← ex]
    exact k _ fun _ _ e => e
theorem w_mapl (j : Nat) (hN : X.N.Nodup) (h : We X e σ H fun v H1 => LoopM X scope elt ifs j σ v H1 Q) (hj : X.N[j]? = some x := by rfl) (hx : ∀ (cl : List (Str × Addr)) (C : Addr), Loc (compEnvC scope cl C X.env).scope x := by intro _ _; first | exact Or.inl rfl | exact Or.inr rfl)
    (hf : (scope.names.lookup x == some .cell) = true ∨ ∀ (cl : List (Str × Addr)) (C : Addr), (compEnvC scope cl C X.env).scope.names.lookup x = some .local := by first | exact .inl rfl | exact .inr (fun _ _ => rfl))
    (ok : BlkOk X.N X.env.scope scope [(x, j)] := by exact blkOk_by (by kernel_rfl)) (hc : X.calm = true := by rfl) (hs : ∀ z, foldedSetIterable e X.env z = pure z := by intro _; rfl) :
    We X (.ListComp elt [⟨.Name x px, e, ifs, 0⟩] scope pos) σ H Q := by
  obtain ⟨wi, hi, z⟩ := loopM_ok (x := x) (px := px) h
  exact w_lc [(x, j)] hN hi (fun s H0 C cl fp => pg_name (X := X.blk s H0 scope (compEnvC scope cl C X.env) fp) (i := j) hN hj (hx cl C) (hf.imp id fun q => q cl C)) z ok hc hs
theorem s_mapl (i j : Nat) (hN : X.N.Nodup) (h : We X e σ H fun v H1 => LoopM X scope elt ifs j σ v H1 (fun x H1 => D.nx (σ.set i (some x)) H1)) (hj : X.N[j]? = some x := by rfl) (hx : ∀ (cl : List (Str × Addr)) (C : Addr), Loc (compEnvC scope cl C X.env).scope x := by intro _ _; first | exact Or.inl rfl | exact Or.inr rfl)
    (hf : (scope.names.lookup x == some .cell) = true ∨ ∀ (cl : List (Str × Addr)) (C : Addr), (compEnvC scope cl C X.env).scope.names.lookup x = some .local := by first | exact .inl rfl | exact .inr (fun _ _ => rfl))
    (ok : BlkOk X.N X.env.scope scope [(x, j)] := by exact blkOk_by (by kernel_rfl)) (hy : X.N[i]? = some y := by rfl) (hyl : X.env.scope.names.lookup y = some .local := by rfl)
    (hsw : swapsWith (.ListComp elt [⟨.Name x px, e, ifs, 0⟩] scope pos) (some (.Name y py)) spos.line X.env = pure true := by rfl) (hc : X.calm = true := by rfl) (hs : ∀ z, foldedSetIterable e X.env z = pure z := by intro _; rfl) :
    Ws X (.Assign [.Name y py] (.ListComp elt [⟨.Name x px, e, ifs, 0⟩] scope pos) spos) D σ H := by
  obtain ⟨wi, hi, z⟩ := loopM_ok (x := x) (px := px) h
  exact s_setLc i [(x, j)] hN hi (fun s H0 C cl fp => pg_name (X := X.blk s H0 scope (compEnvC scope cl C X.env) fp) (i := j) hN hj (hx cl C) (hf.imp id fun q => q cl C)) z ok hy hyl hsw hc hs
/-- over range(n) -/
def LoopN (X : Cx) (scope : Scope) (elt : Expr) (ifs : List Expr) (j : Nat) (σ : L2.St) (lo : Int) (n : Nat) (H1 : Hp) (Q : VK) : Prop := Mapd X scope elt ifs n (fun i => (wipe σ [j]).set j (some (.int (lo + (i : Int))))) H1 Q
theorem lc_rng {j : Nat} {lo : Int} {n : Nat} {H1 : Hp} (z : LoopN X scope elt ifs j σ lo n H1 Q) : ∀ L, H1 L = none → ∃ W : Nat → Nat → Hp → Prop, (∃ m, W 0 m (upd H1 L (.lst []))) ∧ ∀ i m H, W i m H →
      ((Itr lo n).stop i H ∧ Q (.ref L) H) ∨ ((Itr lo n).go i H ∧ ∃ Nx : Hp → Prop, (∀ H', Nx H' → ∃ m', m' < m ∧ W (i + 1) m' H') ∧ ∀ x H', (Itr lo n).yld i H x H' → gName j x (wipe σ [j]) H' fun σ2 H2 => wipe σ2 [j] = wipe σ [j] ∧ Bi X scope ifs σ2 H2 fun b H3 =>
        if b = true then Be X scope elt σ2 H3 fun y H4 => ∃ acc, H4 L = some (.lst acc) ∧ acc.length < sizeLine ∧ Nx (upd H4 L (.lst (acc ++ [y]))) else Nx H3) := fun L hL =>
  lc_map walk_range (fun _ _ => trivial) (fun i _ => wipe1 σ j _) (fun i H' v H'' N hi s yy k => by
    obtain ⟨rfl, rfl⟩ := yy
    exact k _ fun _ _ e => e) z hL
theorem loopN_ok {j : Nat} {pr pc : Pos} (hm : X.mg "range" = none) (h : We X e σ H fun v H1 => ∃ n : Nat, v = .int (n : Int) ∧ LoopN X scope elt ifs j σ 0 n H1 Q) (hg : Gl X "range") (he : starEach [e] X.env = (false, eval e X.env) :: starEach [] X.env) :
    ∃ wi, PI X (.Name x px) (.Call (.Name "range" pr) [e] [] pc) wi ∧ tLc wi (gName j) (Bi X scope ifs) (Be X scope elt) [j] σ H Q := by
  refine ⟨_, pi_range1 hg hm paW he, ?_⟩
  refine a_cons (We.mono h fun v H1 z => ?_) he
  obtain ⟨n, rfl, z⟩ := z
  have hn := z.1
  exact a_nil ⟨(n : Int), rfl, by omega, by omega, lc_rng z⟩
theorem loopN2_ok {j : Nat} {pr pc : Pos} (hm : X.mg "range" = none) (h : We X e σ H fun v H1 => We X e2 σ H1 fun u H2 => ∃ lo n : Nat, v = .int (lo : Int) ∧ u = .int ((lo + n : Nat) : Int) ∧ lo ≤ 1000 ∧ LoopN X scope elt ifs j σ lo n H2 Q) (hg : Gl X "range") (he : starEach [e, e2] X.env = (false, eval e X.env) :: starEach [e2] X.env) (he2 : starEach [e2] X.env = (false, eval e2 X.env) :: starEach [] X.env) :
    ∃ wi, PI X (.Name x px) (.Call (.Name "range" pr) [e, e2] [] pc) wi ∧ tLc wi (gName j) (Bi X scope ifs) (Be X scope elt) [j] σ H Q := by
  refine ⟨_, pi_range2 hg hm paW (by rw [he, he2]; rfl) he2, ?_⟩
  refine a_cons (We.mono h fun v H1 z => a_cons (We.mono z fun u H2 z => ?_) he2) he
  obtain ⟨lo, n, rfl, rfl, hl, z⟩ := z
  have hn := z.1
  refine a_nil ⟨(lo : Int), ((lo + n : Nat) : Int), rfl, ⟨by omega, by omega, by omega, by omega⟩, ?_⟩
  rw [show (((lo + n : Nat) : Int) - (lo : Int)).toNat = n by omega]
  exact lc_rng z
theorem w_mapr (j : Nat) {pr pc : Pos} (hN : X.N.Nodup) (hm : X.mg "range" = none) (h : We X e σ H fun v H1 => ∃ n : Nat, v = .int (n : Int) ∧ LoopN X scope elt ifs j σ 0 n H1 Q) (hg : Gl X "range" := by rfl) (he : starEach [e] X.env = (false, eval e X.env) :: starEach [] X.env := by rfl)
    (hj : X.N[j]? = some x := by rfl) (hx : ∀ (cl : List (Str × Addr)) (C : Addr), Loc (compEnvC scope cl C X.env).scope x := by intro _ _; first | exact Or.inl rfl | exact Or.inr rfl)
    (hf : (scope.names.lookup x == some .cell) = true ∨ ∀ (cl : List (Str × Addr)) (C : Addr), (compEnvC scope cl C X.env).scope.names.lookup x = some .local := by first | exact .inl rfl | exact .inr (fun _ _ => rfl))
    (ok : BlkOk X.N X.env.scope scope [(x, j)] := by exact blkOk_by (by kernel_rfl)) (hc : X.calm = true := by rfl) (hs : ∀ z, foldedSetIterable (.Call (.Name "range" pr) [e] [] pc) X.env z = pure z := by intro _; rfl) :
    We X (.ListComp elt [⟨.Name x px, .Call (.Name "range" pr) [e] [] pc, ifs, 0⟩] scope pos) σ H Q := by
  obtain ⟨wi, hi, z⟩ := loopN_ok (x := x) (px := px) (pr := pr) (pc := pc) hm h hg he
  exact w_lc [(x, j)] hN hi (fun s H0 C cl fp => pg_name (X := X.blk s H0 scope (compEnvC scope cl C X.env) fp) (i := j) hN hj (hx cl C) (hf.imp id fun q => q cl C)) z ok hc hs
theorem s_mapr (i j : Nat) {pr pc : Pos} (hN : X.N.Nodup) (hm : X.mg "range" = none) (h : We X e σ H fun v H1 => ∃ n : Nat, v = .int (n : Int) ∧ LoopN X scope elt ifs j σ 0 n H1 (fun x H1 => D.nx (σ.set i (some x)) H1)) (hg : Gl X "range" := by rfl) (he : starEach [e] X.env = (false, eval e X.env) :: starEach [] X.env := by rfl)
    (hj : X.N[j]? = some x := by rfl) (hx : ∀ (cl : List (Str × Addr)) (C : Addr), Loc (compEnvC scope cl C X.env).scope x := by intro _ _; first | exact Or.inl rfl | exact Or.inr rfl)
    (hf : (scope.names.lookup x == some .cell) = true ∨ ∀ (cl : List (Str × Addr)) (C : Addr), (compEnvC scope cl C X.env).scope.names.lookup x = some .local := by first | exact .inl rfl | exact .inr (fun _ _ => rfl))
    (ok : BlkOk X.N X.env.scope scope [(x, j)] := by exact blkOk_by (by kernel_rfl)) (hy : X.N[i]? = some y := by rfl) (hyl : X.env.scope.names.lookup y = some .local := by rfl)
    (hsw : swapsWith (.ListComp elt [⟨.Name x px, .Call (.Name "range" pr) [e] [] pc, ifs, 0⟩] scope pos) (some (.Name y py)) spos.line X.env = pure true := by rfl) (hc : X.calm = true := by rfl) (hs : ∀ z, foldedSetIterable (.Call (.Name "range" pr) [e] [] pc) X.env z = pure z := by intro _; rfl) :
    Ws X (.Assign [.Name y py] (.ListComp elt [⟨.Name x px, .Call (.Name "range" pr) [e] [] pc, ifs, 0⟩] scope pos) spos) D σ H := by
  obtain ⟨wi, hi, z⟩ := loopN_ok (x := x) (px := px) (pr := pr) (pc := pc) hm h hg he
  exact s_setLc i [(x, j)] hN hi (fun s H0 C cl fp => pg_name (X := X.blk s H0 scope (compEnvC scope cl C X.env) fp) (i := j) hN hj (hx cl C) (hf.imp id fun q => q cl C)) z ok hy hyl hsw hc hs
theorem w_mapr2 (j : Nat) {pr pc : Pos} (hN : X.N.Nodup) (hm : X.mg "range" = none) (h : We X e σ H fun v H1 => We X e2 σ H1 fun u H2 => ∃ lo n : Nat, v = .int (lo : Int) ∧ u = .int ((lo + n : Nat) : Int) ∧ lo ≤ 1000 ∧ LoopN X scope elt ifs j σ lo n H2 Q) (hg : Gl X "range" := by rfl) (he : starEach [e, e2] X.env = (false, eval e X.env) :: starEach [e2] X.env := by rfl) (he2 : starEach [e2] X.env = (false, eval e2 X.env) :: starEach [] X.env := by rfl)
    (hj : X.N[j]? = some x := by rfl) (hx : ∀ (cl : List (Str × Addr)) (C : Addr), Loc (compEnvC scope cl C X.env).scope x := by intro _ _; first | exact Or.inl rfl | exact Or.inr rfl)
    (hf : (scope.names.lookup x == some .cell) = true ∨ ∀ (cl : List (Str × Addr)) (C : Addr), (compEnvC scope cl C X.env).scope.names.lookup x = some .local := by first | exact .inl rfl | exact .inr (fun _ _ => rfl))
    (ok : BlkOk X.N X.env.scope scope [(x, j)] := by exact blkOk_by (by kernel_rfl)) (hc : X.calm = true := by rfl) (hs : ∀ z, foldedSetIterable (.Call (.Name "range" pr) [e, e2] [] pc) X.env z = pure z := by intro _; rfl) :
    We X (.ListComp elt [⟨.Name x px, .Call (.Name "range" pr) [e, e2] [] pc, ifs, 0⟩] scope pos) σ H Q := by
  obtain ⟨wi, hi, z⟩ := loopN2_ok (x := x) (px := px) (pr := pr) (pc := pc) hm h hg he he2
  exact w_lc [(x, j)] hN hi (fun s H0 C cl fp => pg_name (X := X.blk s H0 scope (compEnvC scope cl C X.env) fp) (i := j) hN hj (hx cl C) (hf.imp id fun q => q cl C)) z ok hc hs
theorem s_mapr2 (i j : Nat) {pr pc : Pos} (hN : X.N.Nodup) (hm : X.mg "range" = none) (h : We X e σ H fun v H1 => We X e2 σ H1 fun u H2 => ∃ lo n : Nat, v = .int (lo : Int) ∧ u = .int ((lo + n : Nat) : Int) ∧ lo ≤ 1000 ∧ LoopN X scope elt ifs j σ lo n H2 (fun x H1 => D.nx (σ.set i (some x)) H1)) (hg : Gl X "range" := by rfl) (he : starEach [e, e2] X.env = (false, eval e X.env) :: starEach [e2] X.env := by rfl) (he2 : starEach [e2] X.env = (false, eval e2 X.env) :: starEach [] X.env := by rfl)
    (hj : X.N[j]? = some x := by rfl) (hx : ∀ (cl : List (Str × Addr)) (C : Addr), Loc (compEnvC scope cl C X.env).scope x := by intro _ _; first | exact Or.inl rfl | exact Or.inr rfl)
    (hf : (scope.names.lookup x == some .cell) = true ∨ ∀ (cl : List (Str × Addr)) (C : Addr), (compEnvC scope cl C X.env).scope.names.lookup x = some .local := by first | exact .inl rfl | exact .inr (fun _ _ => rfl))
    (ok : BlkOk X.N X.env.scope scope [(x, j)] := by exact blkOk_by (by kernel_rfl)) (hy : X.N[i]? = some y := by rfl) (hyl : X.env.scope.names.lookup y = some .local := by rfl)
    (hsw : swapsWith (.ListComp elt [⟨.Name x px, .Call (.Name "range" pr) [e, e2] [] pc, ifs, 0⟩] scope pos) (some (.Name y py)) spos.line X.env = pure true := by rfl) (hc : X.calm = true := by rfl) (hs : ∀ z, foldedSetIterable (.Call (.Name "range" pr) [e, e2] [] pc) X.env z = pure z := by intro _; rfl) :
    Ws X (.Assign [.Name y py] (.ListComp elt [⟨.Name x px, .Call (.Name "range" pr) [e, e2] [] pc, ifs, 0⟩] scope pos) spos) D σ H := by
  obtain ⟨wi, hi, z⟩ := loopN2_ok (x := x) (px := px) (pr := pr) (pc := pc) hm h hg he he2
  exact s_setLc i [(x, j)] hN hi (fun s H0 C cl fp => pg_name (X := X.blk s H0 scope (compEnvC scope cl C X.env) fp) (i := j) hN hj (hx cl C) (hf.imp id fun q => q cl C)) z ok hy hyl hsw hc hs
/-- starred items of a display or a call -/
theorem a_star {es : List Expr} {Qa : List V → Hp → Prop} {p : Pos} (h : We X e σ H fun v H1 => ∃ a xs, v = .ref a ∧ (SqT X.K H1 a xs ∨ SqL X.K H1 a xs) ∧ Wa X es σ H1 fun ys H2 => Qa (xs ++ ys) H2)
    (hs : starEach (.Starred e p :: es) X.env = (true, eval e X.env) :: starEach es X.env := by rfl) : Wa X (.Starred e p :: es) σ H Qa := wa_of (StX.pa_star peW paW hs) h
end
end PR
namespace PR
open PySem PySem.Spec PyProof.Rows L2
/-! ### zip of a list or a tuple with a list or a tuple -/
/-- true: a tuple; false: a list -/
def SqK (k : Bool) (K : PySem.W.Frag) (H : Hp) (a : Addr) (xs : List V) : Prop := if k = true then SqT K H a xs else SqL K H a xs
def ItK (k : Bool) (h : Heap) (it a : Addr) (i : Nat) : Prop := if k = true then h.IsTupleIter it a i else h.IsListIter it a i
def SeK (k : Bool) (h : Heap) (a : Addr) (its : Array Value) : Prop := if k = true then h.IsTuple a its else h.IsList a its
def obK (k : Bool) (a : Addr) : Obj := if k = true then { cls := .type "tuple_iterator", data := .fields #[.ref a, .int 0 0] } else { cls := .type "list_iterator", data := .fields #[.ref a, .int 0 0] }
theorem SqK.same {k : Bool} {K : PySem.W.Frag} {H H' : Hp} {a : Addr} {xs : List V} (h : SqK k K H a xs) (s : Same H H') : SqK k K H' a xs := by
  cases k with
  | true => exact SqT.ext (show SqT K H a xs from h) s
  | false => exact SqL.ext (show SqL K H a xs from h) s
theorem drawsK {prog : Program} {w : World} {A : Around} (k : Bool) (hh : A.handled = none) {it a : Addr} (hne : a ≠ it) (its : Array Value) : Draws prog w A it [it, a] its.size (fun i v => its[i]? = some v) (fun i h => ItK k h it a i ∧ SeK k h a its) := by
  cases k with
  | true => exact Draws.tuple hh it a hne its
  | false => exact Draws.list hh it a hne its
theorem begK (k : Bool) (a : Addr) (its : Array Value) : Begins (.ref a) (obK k a) (fun h => SeK k h a its) := by
  cases k with
  | true => exact begins_tuple a its
  | false => exact begins_list a its
theorem itK_of {k : Bool} {h : Heap} {it a : Addr} (e : h.get? it = some (obK k a)) : ItK k h it a 0 := by
  cases k with
  | true => exact ⟨_, e, rfl, rfl⟩
  | false => exact ⟨_, e, rfl, rfl⟩
theorem ItK.obj {k : Bool} {h : Heap} {it a : Addr} {i : Nat} (z : ItK k h it a i) : ∃ o, h.get? it = some o ∧ ∀ v, o.data ≠ .cell v := by
  cases k with
  | true => obtain ⟨o, e, _, d⟩ := z; exact ⟨o, e, fun v q => by rw [d] at q; cases q⟩
  | false => obtain ⟨o, e, _, d⟩ := z; exact ⟨o, e, fun v q => by rw [d] at q; cases q⟩
theorem ItK.keep {k : Bool} {h h' : Heap} {it a : Addr} {i : Nat} (z : ItK k h it a i) (q : ∀ o, h.get? it = some o → h'.get? it = some o) : ItK k h' it a i := by
  cases k with
  | true => exact Heap.IsTupleIter.at (show h.IsTupleIter it a i from z) q
  | false => exact Heap.IsListIter.at (show h.IsListIter it a i from z) q
theorem seK_of {X : Cx} {pins : List (Addr × Obj)} {σ : L2.St} {H : Hp} {s : Shared} {k : Bool} {a : Addr} {xs : List V} (I : Inv X pins σ H s) (h : SqK k X.K H a xs) : ∃ its : List Value, Vals xs its ∧ SeK k s.heap a its.toArray ∧ a < s.heap.objs.size := by
  cases k with
  | true =>
    obtain ⟨its, rv, p, _⟩ := I.tuple (show SqT X.K H a xs from h)
    obtain ⟨o, e, _⟩ := id p
    exact ⟨its, rv, p, Heap.lt_size e⟩
  | false =>
    obtain ⟨its, rv, p, _⟩ := I.list (show SqL X.K H a xs from h)
    exact ⟨its, rv, p.isList, p.lt⟩
theorem sqK_inj {X : Cx} {pins : List (Addr × Obj)} {σ : L2.St} {H : Hp} {s : Shared} {k : Bool} {a : Addr} {xs ys : List V} (I : Inv X pins σ H s) (h : SqK k X.K H a xs) (h' : SqK k X.K H a ys) : xs = ys := by
  cases k with
  | true => exact I.tuple_inj h h'
  | false => exact I.list_inj h h'
theorem SeK.keep {k : Bool} {h h' : Heap} {a : Addr} {its : Array Value} (z : SeK k h a its) (q : ∀ o, h.get? a = some o → h'.get? a = some o) : SeK k h' a its := by
  cases k with
  | true => exact Heap.IsTuple.at (show h.IsTuple a its from z) q
  | false => exact Heap.IsList.at (show h.IsList a its from z) q
def ItzK (k1 k2 : Bool) (K : PySem.W.Frag) (a b : Addr) : It :=
  ⟨fun i H => ∃ (xs ys : List V) (x y : V), SqK k1 K H a xs ∧ SqK k2 K H b ys ∧ xs[i]? = some x ∧ ys[i]? = some y,
   fun i H v H' => ∃ T x y, v = .ref T ∧ H T = none ∧ H' = upd H T (.tup [x, y]) ∧ (∀ xs, SqK k1 K H a xs → xs[i]? = some x) ∧ ∀ ys, SqK k2 K H b ys → ys[i]? = some y,
   fun i H => ∃ xs ys : List V, SqK k1 K H a xs ∧ SqK k2 K H b ys ∧ i ≤ xs.length ∧ i ≤ ys.length ∧ (i = xs.length ∨ i = ys.length)⟩
theorem nin {x a b : Nat} (h1 : x ≠ a) (h2 : x ≠ b) : x ∉ [a, b] := fun z => by
  rcases List.mem_cons.mp z with z | z
  · exact h1 z
  · rcases List.mem_cons.mp z with z | z
    · exact h2 z
    · cases z
theorem sep_new {I a b : Nat} (ha : a < I) (hb : b < I) : ZipSep2 (I + 4) (I + 2) (I + 3) I (I + 1) [I, a] [I + 1, b] :=
  have h (x y : Nat) (z : x ≠ y) : x ≠ y := z
  { TIz := h (I + 2) (I + 4) (by omega), TOz := h (I + 3) (I + 4) (by omega), TITO := h (I + 2) (I + 3) (by omega), TIi1 := h (I + 2) I (by omega), mem1 := List.mem_cons_self, zf1 := nin (x := I + 4) (a := I) (b := a) (by omega) (by omega), Tf1 := nin (x := I + 3) (a := I) (b := a) (by omega) (by omega),
    TIi2 := h (I + 2) (I + 1) (by omega), mem2 := List.mem_cons_self, zf2 := nin (x := I + 4) (a := I + 1) (b := b) (by omega) (by omega), Tf2 := nin (x := I + 3) (a := I + 1) (b := b) (by omega) (by omega), sep1_2 := nin (x := I) (a := I + 1) (b := b) (by omega) (by omega), sep2_1 := nin (x := I + 1) (a := I) (b := a) (by omega) (by omega) }
theorem turn_zipK {P : Program} {w : World} {K : PySem.W.Frag} {elts : List Expr} {kk : Nat} {tpos : Pos} {k1 k2 : Bool} {a b z TI TO i1 i2 : Addr} (S : ZipSep2 z TI TO i1 i2 [i1, a] [i2, b]) (ai : a ≠ i1) (bi : b ≠ i2) :
    L2.Turn P w K (.Tuple elts kk tpos) (ItzK k1 k2 K a b) [z, TI, TO, i1, i2] z (fun i h => IsZip h z TI TO .none ∧ IsTupOf2 h TI (.ref i1) (.ref i2) ∧ (∃ x y, IsTupOf2 h TO x y) ∧ ItK k1 h i1 a i ∧ ItK k2 h i2 b i) := by
  have five : ∀ c, c ∈ [z, TI, TO, i1, i2] → c = z ∨ c = TI ∨ c = TO ∨ c = i1 ∨ c = i2 := fun c hc => by simpa using hc
  have off : ∀ c, c ∉ [z, TI, TO, i1, i2] → c ≠ z ∧ c ≠ TO ∧ c ≠ i1 ∧ c ≠ i2 := fun c hc => ⟨fun e => hc (by simp [e]), fun e => hc (by simp [e]), fun e => hc (by simp [e]), fun e => hc (by simp [e])⟩
  exact {
    mem := by simp
    obj := fun i h st c hc => by
      obtain ⟨hz, hTI, ⟨x, y, hTO⟩, h1, h2⟩ := st
      rcases five c hc with rfl | rfl | rfl | rfl | rfl
      · exact ⟨_, hz, fun v q => nomatch q⟩
      · exact ⟨_, hTI, fun v q => nomatch q⟩
      · exact ⟨_, hTO, fun v q => nomatch q⟩
      · exact h1.obj
      · exact h2.obj
    keep := fun i h h' st k => by
      obtain ⟨hz, hTI, ⟨x, y, hTO⟩, h1, h2⟩ := st
      exact ⟨k _ (by simp) _ hz, k _ (by simp) _ hTI, ⟨x, y, k _ (by simp) _ hTO⟩, h1.keep (k _ (by simp)), h2.keep (k _ (by simp))⟩
    item := fun X hP hw hK hc i pins s σ H E I hf st hg => by
      subst hP hw hK
      obtain ⟨hz, hTI, ⟨x0, y0, hTO⟩, h1, h2⟩ := st
      obtain ⟨xs, ys, x, y, hqx, hqy, hx, hy⟩ := hg
      obtain ⟨its, rv, p1, _⟩ := seK_of I hqx
      obtain ⟨its2, rv2, p2, _⟩ := seK_of I hqy
      obtain ⟨u, hu, ru⟩ := rv.get hx
      obtain ⟨u2, hu2, ru2⟩ := rv2.get hy
      have l1 : i < its.toArray.size := by have := (List.getElem?_eq_some_iff.mp hu).1; simpa using this
      have l2 : i < its2.toArray.size := by have := (List.getElem?_eq_some_iff.mp hu2).1; simpa using this
      have zl : z < s.heap.objs.size := Heap.lt_size hz
      have low : ∀ c, c ∈ [z, TI, TO, i1, i2] → c < s.heap.objs.size := fun c hm => by
        rcases five c hm with rfl | rfl | rfl | rfl | rfl
        · exact zl
        · exact Heap.lt_size hTI
        · exact Heap.lt_size hTO
        · obtain ⟨o, e, _⟩ := h1.obj; exact Heap.lt_size e
        · obtain ⟨o, e, _⟩ := h2.obj; exact Heap.lt_size e
      have D1 := drawsK (prog := X.prog) (w := X.w) (A := X.A.in1) k1 (I.ok.hd hc) ai its.toArray
      have D2 := drawsK (prog := X.prog) (w := X.w) (A := X.A.in1) k2 (I.ok.hd hc) bi its2.toArray
      refine wpAny_pyNext_zipD2_item S D1 D2 hz hTI hTO ⟨h1, p1⟩ ⟨h2, p2⟩ l1 l2 fun w1 w2 h' tk e1 e2 z' TO' g1 g2 hT hsz hk => ?_
      have e1' : w1 = u := by
        have q : its.toArray[i]? = some u := by simpa using hu
        rw [q] at e1
        exact (Option.some.inj e1).symm
      have e2' : w2 = u2 := by
        have q : its2.toArray[i]? = some u2 := by simpa using hu2
        rw [q] at e2
        exact (Option.some.inj e2).symm
      subst e1' e2'
      refine ⟨_, rfl, wpAny_letOwnedTupleGo_zip (s := { s with heap := h', toks := tk }) z' fun h'' z'' sb => ?_⟩
      have up : ∀ c, c ≠ z → h''.get? c = h'.get? c := fun c n => sb.2 c n
      have hT2 : h''.get? s.heap.objs.size = some { cls := .type "tuple", data := .seq #[w1, w2] } := (up _ (Nat.ne_of_gt zl)).trans hT
      have made : ObjOk X.prog X.w (upd H s.heap.objs.size (.tup [x, y])) h'' s.heap.objs.size (.tup [x, y]) := ⟨by show 2 ≤ sizeLine; decide, [w1, w2], .cons ru (.cons ru2 .nil), ⟨_, hT2, rfl, _, rfl⟩⟩
      have J := I.turnedNew (t' := tk) (ch := [z, TI, TO, i1, i2]) (fun c o n q => by
        obtain ⟨n1, n2, n3, n4⟩ := off c n
        exact (up c n1).trans (hk c o n1 n2 n3 n4 q)) hf (Nat.le_refl _) made
      have zi1 : i1 ≠ z := S.zi1.symm
      have zi2 : i2 ≠ z := S.zi2.symm
      refine ⟨.ref s.heap.objs.size, _, J, rfl, ⟨_, x, y, rfl, I.hok.fresh (Nat.le_refl _), rfl, fun l hl => by rw [sqK_inj I hl hqx]; exact hx, fun l hl => by rw [sqK_inj I hl hqy]; exact hy⟩, ⟨z'', ?_, ⟨w1, w2, (up _ S.TOz).trans TO'⟩, ?_, ?_⟩, fun c hm => ?_⟩
      · exact (up _ S.TIz).trans (hk _ _ S.TIz S.TITO S.TIi1 S.TIi2 hTI)
      · exact g1.1.keep fun o q => (up _ zi1).trans q
      · exact g2.1.keep fun o q => (up _ zi2).trans q
      · rw [upd_ne (Nat.ne_of_lt (low c hm))]
        exact (hf c hm).1
    done := fun X hP hw hK hc i pins s σ H E I hf st hg => by
      subst hP hw hK
      obtain ⟨hz, hTI, ⟨x0, y0, hTO⟩, h1, h2⟩ := st
      obtain ⟨xs, ys, hqx, hqy, l1, l2, hend⟩ := hg
      obtain ⟨its, rv, p1, _⟩ := seK_of I hqx
      obtain ⟨its2, rv2, p2, _⟩ := seK_of I hqy
      have m1 := rv.length
      have m2 := rv2.length
      have D1 := drawsK (prog := X.prog) (w := X.w) (A := X.A.in1) k1 (I.ok.hd hc) ai its.toArray
      have D2 := drawsK (prog := X.prog) (w := X.w) (A := X.A.in1) k2 (I.ok.hd hc) bi its2.toArray
      refine wpAny_pyNext_zipD2_end S D1 D2 hz hTI hTO ⟨h1, p1⟩ ⟨h2, p2⟩ (by rw [List.size_toArray]; omega) (by rw [List.size_toArray]; omega) (by rw [List.size_toArray, List.size_toArray]; omega) fun h' tk hk => ⟨rfl, ?_⟩
      exact I.turnedL (t' := tk) (ch := [z, TI, TO, i1, i2]) (fun c o n q => by
        obtain ⟨n1, n2, n3, n4⟩ := off c n
        exact hk c o n1 n2 n3 n4 q) hf
    self := fun A i s Q E st h => wpAny_pyIter_zip st.1 h }
def iZipK (k1 k2 : Bool) (K : PySem.W.Frag) (ta : TA) : TI := fun σ H R => ta σ H fun vs H1 => ∃ a b xs ys, vs = [.ref a, .ref b] ∧ SqK k1 K H1 a xs ∧ SqK k2 K H1 b ys ∧ R (ItzK k1 k2 K a b) H1
theorem pi_zipK (k1 k2 : Bool) {X : Cx} {e e2 : Expr} {ta : TA} {p pos tpos : Pos} {elts : List Expr} {kk : Nat} (hg : Gl X "zip") (hm : X.mg "zip" = none) (ha : PA X [e, e2] ta)
    (hs : starEach [e, e2] X.env = (false, eval e X.env) :: starEach [e2] X.env := by rfl) (hpl : (backTo pos (starEach [e2] X.env)).any (·.1) = false := by rfl) : PI X (.Tuple elts kk tpos) (.Call (.Name "zip" p) [e, e2] [] pos) (iZipK k1 k2 X.K ta) := by
  refine ⟨fun pins s σ H R I h => Call_ (ld_blt I hg hm PyProof.Rows.boot_zip (PyProof.Rows.callWith_type1 (thn (ha.run pos pins s σ H _ I h) fun us s1 z => ?_) hs hpl))⟩
  obtain ⟨vs, H1, I1, r1, a, b, xs, ys, rfl, hqx, hqy, q⟩ := z
  match us, r1 with
  | [_, _], .cons rfl (.cons rfl .nil) =>
    obtain ⟨its, rv, p1, la⟩ := seK_of I1 hqx
    obtain ⟨its2, rv2, p2, lb⟩ := seK_of I1 hqy
    refine zip_begins2 (begK k1 a its.toArray) (begK k2 b its2.toArray) p1 p2 fun h' hz hTI hTO o1 o2 hsz hk => wpAny_pyIter_zip hz ?_
    have ne1 : ∀ n m : Nat, n < m → n ≠ m := fun n m h => Nat.ne_of_lt h
    refine ⟨_, _, _, _, H1, rfl, I1.kept (t' := s1.toks) hk, turn_zipK (k1 := k1) (k2 := k2) (sep_new la lb) (ne1 a _ la) (ne1 b _ (Nat.lt_succ_of_lt lb)), ⟨hz, hTI, ⟨_, _, hTO⟩, itK_of o1, itK_of o2⟩, fun c hcm => ?_, q⟩
    have e' : c = s1.heap.objs.size + 4 ∨ c = s1.heap.objs.size + 2 ∨ c = s1.heap.objs.size + 3 ∨ c = s1.heap.objs.size ∨ c = s1.heap.objs.size + 1 := by simpa using hcm
    have hle : s1.heap.objs.size ≤ c := by
      rcases e' with rfl | rfl | rfl | rfl | rfl
      all_goals first | exact Nat.le_refl _ | exact Nat.le_add_right _ _
    exact I1.fpOk hle (I1.hok.fresh hle)
theorem walk_zipK {k1 k2 : Bool} {K : PySem.W.Frag} {a b : Addr} {xs ys : List V} {n : Nat} (hn : n = min xs.length ys.length) : Walk (ItzK k1 k2 K a b) n (fun H => SqK k1 K H a xs ∧ SqK k2 K H b ys) (YPair (fun i => xs[i]?) (fun i => ys[i]?)) := by
  subst hn
  refine ⟨fun i _ hi q => ?_, fun _ q => ⟨xs, ys, q.1, q.2, by omega, by omega, by omega⟩, fun i H v H' _ q ⟨T, x, z, h1, h2, h3, h4, h5⟩ => ⟨T, x, z, h1, h2, h3, h4 xs q.1, h5 ys q.2⟩⟩
  have h1 : i < xs.length := by omega
  have h2 : i < ys.length := by omega
  exact ⟨xs, ys, xs[i], ys[i], q.1, q.2, by simp [h1], by simp [h2]⟩
/-! ### comprehensions over pairs -/
section
variable {X : Cx} {elt e e2 : Expr} {ifs : List Expr} {scope : Scope} {pos spos py px pz pt pp pc : Pos} {σ : L2.St} {H : Hp} {Q : VK} {D : Ends} {x y z : Str} {kk : Nat}
def gPair (K : PySem.W.Frag) (i j : Nat) : TG := gTup K 2 (gCons (gName i) (gCons (gName j) gNil))
theorem gPair_ok {K : PySem.W.Frag} {i j : Nat} {n : Nat} {f g : Nat → Option V} {H' H'' : Hp} {v : V} {N : L2.St → Hp → Prop} {k : Nat} (yy : YPair f g k H' v H'') (h : ∀ H2, Same H' H2 → N (((wipe σ [i, j]).set i (f k)).set j (g k)) H2) : gPair K i j v (wipe σ [i, j]) H'' N := by
  obtain ⟨T, x, y, rfl, hT, rfl, e1, e2⟩ := yy
  refine ⟨T, [x, y], rfl, SqT.of upd_same, rfl, x, [y], rfl, y, [], rfl, rfl, ?_⟩
  rw [e1, e2] at h
  exact h _ fun b o e => by rw [upd_ne (ne_of_none e hT)]; exact e
theorem pg_pair {i j : Nat} (hN : X.N.Nodup) (hc : X.calm = true) (hi : X.N[i]? = some x) (hj : X.N[j]? = some y) (hx : Loc X.env.scope x) (hy : Loc X.env.scope y) (fx : X.fn x = true ∨ X.env.scope.names.lookup x = some .local) (fy : X.fn y = true ∨ X.env.scope.names.lookup y = some .local)
    (a1 : (assignEach [.Name x px, .Name y py] X.env).map (·.2) = assign (.Name x px) X.env :: (assignEach [.Name y py] X.env).map (·.2) := by rfl) (a2 : (assignEach [.Name y py] X.env).map (·.2) = assign (.Name y py) X.env :: (assignEach [] X.env).map (·.2) := by rfl)
    (hn : (assignEach [.Name x px, .Name y py] X.env).length = 2 := by rfl) (hst : (assignEach [.Name x px, .Name y py] X.env).findIdx? (·.1) = none := by rfl) : PG X (.Tuple [.Name x px, .Name y py] kk pt) (gPair X.K i j) :=
  pg_tup hc (pgs_cons (pg_name hN hi hx fx) (pgs_cons (pg_name hN hj hy fy) pgs_nil a2) a1) hn hst
def LoopZ (X : Cx) (scope : Scope) (elt : Expr) (ifs : List Expr) (k1 k2 : Bool) (i j : Nat) (σ : L2.St) (v u : V) (H1 : Hp) (Q : VK) : Prop := ∃ (a b : Addr) (xs ys : List V), v = .ref a ∧ u = .ref b ∧ SqK k1 X.K H1 a xs ∧ SqK k2 X.K H1 b ys ∧
  Mapd X scope elt ifs (min xs.length ys.length) (fun k => ((wipe σ [i, j]).set i xs[k]?).set j ys[k]?) H1 Q
theorem wipeP {i j : Nat} {f g : Option V} {a b : V} (h1 : f = some a) (h2 : g = some b) : wipe (((wipe σ [i, j]).set i f).set j g) [i, j] = wipe σ [i, j] := by
  subst h1 h2
  exact wipe2 σ i j a b
theorem loopZ_ok (k1 k2 : Bool) {i j : Nat} (hm : X.mg "zip" = none) (h : We X e σ H fun v H1 => We X e2 σ H1 fun u H2 => LoopZ X scope elt ifs k1 k2 i j σ v u H2 Q) (hg : Gl X "zip") (he : starEach [e, e2] X.env = (false, eval e X.env) :: starEach [e2] X.env) (he2 : starEach [e2] X.env = (false, eval e2 X.env) :: starEach [] X.env) (hpl : (backTo pc (starEach [e2] X.env)).any (·.1) = false) :
    ∃ wi, PI X (.Tuple [.Name x px, .Name y py] kk pt) (.Call (.Name "zip" pp) [e, e2] [] pc) wi ∧ tLc wi (gPair X.K i j) (Bi X scope ifs) (Be X scope elt) [i, j] σ H Q := by
  refine ⟨_, pi_zipK k1 k2 hg hm paW he hpl, a_cons (We.mono h fun v H1 z => a_cons (We.mono z fun u H2 z => a_nil ?_) he2) he⟩
  obtain ⟨a, b, xs, ys, rfl, rfl, hx, hy, z⟩ := z
  refine ⟨a, b, xs, ys, rfl, hx, hy, fun L hL => lc_map (walk_zipK rfl) (fun H' s => ⟨hx.same s, hy.same s⟩) (fun k hk => ?_) (fun k H' v H'' N hk s yy q => gPair_ok (n := 0) yy q) z hL⟩
  have l1 : k < xs.length := by omega
  have l2 : k < ys.length := by omega
  exact wipeP (List.getElem?_eq_getElem l1) (List.getElem?_eq_getElem l2)
theorem w_mapz (k1 k2 : Bool) (i j : Nat) (hN : X.N.Nodup) (hm : X.mg "zip" = none) (h : We X e σ H fun v H1 => We X e2 σ H1 fun u H2 => LoopZ X scope elt ifs k1 k2 i j σ v u H2 Q) (hi : X.N[i]? = some x := by rfl) (hj : X.N[j]? = some y := by rfl)
    (hx : ∀ (cl : List (Str × Addr)) (C : Addr), Loc (compEnvC scope cl C X.env).scope x := by intro _ _; first | exact Or.inl rfl | exact Or.inr rfl) (hy : ∀ (cl : List (Str × Addr)) (C : Addr), Loc (compEnvC scope cl C X.env).scope y := by intro _ _; first | exact Or.inl rfl | exact Or.inr rfl)
    (fx : (scope.names.lookup x == some .cell) = true ∨ ∀ (cl : List (Str × Addr)) (C : Addr), (compEnvC scope cl C X.env).scope.names.lookup x = some .local := by first | exact .inl rfl | exact .inr (fun _ _ => rfl))
    (fy : (scope.names.lookup y == some .cell) = true ∨ ∀ (cl : List (Str × Addr)) (C : Addr), (compEnvC scope cl C X.env).scope.names.lookup y = some .local := by first | exact .inl rfl | exact .inr (fun _ _ => rfl))
    (hg : Gl X "zip" := by rfl) (he : starEach [e, e2] X.env = (false, eval e X.env) :: starEach [e2] X.env := by rfl) (he2 : starEach [e2] X.env = (false, eval e2 X.env) :: starEach [] X.env := by rfl) (hpl : (backTo pc (starEach [e2] X.env)).any (·.1) = false := by rfl)
    (ok : BlkOk X.N X.env.scope scope [(x, i), (y, j)] := by exact blkOk_by (by kernel_rfl)) (hc : X.calm = true := by rfl) (hs : ∀ z, foldedSetIterable (.Call (.Name "zip" pp) [e, e2] [] pc) X.env z = pure z := by intro _; rfl) :
    We X (.ListComp elt [⟨.Tuple [.Name x px, .Name y py] kk pt, .Call (.Name "zip" pp) [e, e2] [] pc, ifs, 0⟩] scope pos) σ H Q := by
  obtain ⟨wi, hw, q⟩ := loopZ_ok (x := x) (y := y) (px := px) (py := py) (kk := kk) (pt := pt) (pp := pp) (pc := pc) k1 k2 hm h hg he he2 hpl
  exact w_lc [(x, i), (y, j)] hN hw (fun s H0 C cl fp => pg_pair (X := X.blk s H0 scope (compEnvC scope cl C X.env) fp) hN hc hi hj (hx cl C) (hy cl C) (fx.imp id fun q => q cl C) (fy.imp id fun q => q cl C)) q ok hc hs
/-- over enumerate(list) -/
def LoopE (X : Cx) (scope : Scope) (elt : Expr) (ifs : List Expr) (i j : Nat) (σ : L2.St) (v : V) (H1 : Hp) (Q : VK) : Prop := ∃ (a : Addr) (xs : List V), v = .ref a ∧ SqL X.K H1 a xs ∧ Mapd X scope elt ifs xs.length (fun k => ((wipe σ [i, j]).set i (some (.int (k : Nat)))).set j xs[k]?) H1 Q
theorem loopE_ok {i j : Nat} (hm : X.mg "enumerate" = none) (h : We X e σ H fun v H1 => LoopE X scope elt ifs i j σ v H1 Q) (hg : Gl X "enumerate") (he : starEach [e] X.env = (false, eval e X.env) :: starEach [] X.env) :
    ∃ wi, PI X (.Tuple [.Name x px, .Name y py] kk pt) (.Call (.Name "enumerate" pp) [e] [] pc) wi ∧ tLc wi (gPair X.K i j) (Bi X scope ifs) (Be X scope elt) [i, j] σ H Q := by
  refine ⟨_, pi_enum hg hm paW he, a_cons (We.mono h fun v H1 z => a_nil ?_) he⟩
  obtain ⟨a, xs, rfl, hx, z⟩ := z
  exact ⟨a, xs, rfl, hx, fun L hL => lc_map walk_enum (fun H' s => sq_same s hx) (fun k hk => wipeP rfl (List.getElem?_eq_getElem hk)) (fun k H' v H'' N hk s yy q => gPair_ok (n := 0) yy q) z hL⟩
theorem s_mape (l i j : Nat) (hN : X.N.Nodup) (hm : X.mg "enumerate" = none) (h : We X e σ H fun v H1 => LoopE X scope elt ifs i j σ v H1 (fun x H1 => D.nx (σ.set l (some x)) H1)) (hi : X.N[i]? = some x := by rfl) (hj : X.N[j]? = some y := by rfl)
    (hx : ∀ (cl : List (Str × Addr)) (C : Addr), Loc (compEnvC scope cl C X.env).scope x := by intro _ _; first | exact Or.inl rfl | exact Or.inr rfl) (hy : ∀ (cl : List (Str × Addr)) (C : Addr), Loc (compEnvC scope cl C X.env).scope y := by intro _ _; first | exact Or.inl rfl | exact Or.inr rfl)
    (fx : (scope.names.lookup x == some .cell) = true ∨ ∀ (cl : List (Str × Addr)) (C : Addr), (compEnvC scope cl C X.env).scope.names.lookup x = some .local := by first | exact .inl rfl | exact .inr (fun _ _ => rfl))
    (fy : (scope.names.lookup y == some .cell) = true ∨ ∀ (cl : List (Str × Addr)) (C : Addr), (compEnvC scope cl C X.env).scope.names.lookup y = some .local := by first | exact .inl rfl | exact .inr (fun _ _ => rfl))
    (hg : Gl X "enumerate" := by rfl) (he : starEach [e] X.env = (false, eval e X.env) :: starEach [] X.env := by rfl) (hz : X.N[l]? = some z := by rfl) (hzl : X.env.scope.names.lookup z = some .local := by rfl)
    (ok : BlkOk X.N X.env.scope scope [(x, i), (y, j)] := by exact blkOk_by (by kernel_rfl))
    (hsw : swapsWith (.ListComp elt [⟨.Tuple [.Name x px, .Name y py] kk pt, .Call (.Name "enumerate" pp) [e] [] pc, ifs, 0⟩] scope pos) (some (.Name z pz)) spos.line X.env = pure true := by rfl) (hc : X.calm = true := by rfl) (hs : ∀ z, foldedSetIterable (.Call (.Name "enumerate" pp) [e] [] pc) X.env z = pure z := by intro _; rfl) :
    Ws X (.Assign [.Name z pz] (.ListComp elt [⟨.Tuple [.Name x px, .Name y py] kk pt, .Call (.Name "enumerate" pp) [e] [] pc, ifs, 0⟩] scope pos) spos) D σ H := by
  obtain ⟨wi, hw, q⟩ := loopE_ok (x := x) (y := y) (px := px) (py := py) (kk := kk) (pt := pt) (pp := pp) (pc := pc) hm h hg he
  exact s_setLc l [(x, i), (y, j)] hN hw (fun s H0 C cl fp => pg_pair (X := X.blk s H0 scope (compEnvC scope cl C X.env) fp) hN hc hi hj (hx cl C) (hy cl C) (fx.imp id fun q => q cl C) (fy.imp id fun q => q cl C)) q ok hz hzl hsw hc hs
theorem w_mape (i j : Nat) (hN : X.N.Nodup) (hm : X.mg "enumerate" = none) (h : We X e σ H fun v H1 => LoopE X scope elt ifs i j σ v H1 Q) (hi : X.N[i]? = some x := by rfl) (hj : X.N[j]? = some y := by rfl)
    (hx : ∀ (cl : List (Str × Addr)) (C : Addr), Loc (compEnvC scope cl C X.env).scope x := by intro _ _; first | exact Or.inl rfl | exact Or.inr rfl) (hy : ∀ (cl : List (Str × Addr)) (C : Addr), Loc (compEnvC scope cl C X.env).scope y := by intro _ _; first | exact Or.inl rfl | exact Or.inr rfl)
    (fx : (scope.names.lookup x == some .cell) = true ∨ ∀ (cl : List (Str × Addr)) (C : Addr), (compEnvC scope cl C X.env).scope.names.lookup x = some .local := by first | exact .inl rfl | exact .inr (fun _ _ => rfl))
    (fy : (scope.names.lookup y == some .cell) = true ∨ ∀ (cl : List (Str × Addr)) (C : Addr), (compEnvC scope cl C X.env).scope.names.lookup y = some .local := by first | exact .inl rfl | exact .inr (fun _ _ => rfl))
    (hg : Gl X "enumerate" := by rfl) (he : starEach [e] X.env = (false, eval e X.env) :: starEach [] X.env := by rfl) (ok : BlkOk X.N X.env.scope scope [(x, i), (y, j)] := by exact blkOk_by (by kernel_rfl)) (hc : X.calm = true := by rfl)
    (hs : ∀ z, foldedSetIterable (.Call (.Name "enumerate" pp) [e] [] pc) X.env z = pure z := by intro _; rfl) : We X (.ListComp elt [⟨.Tuple [.Name x px, .Name y py] kk pt, .Call (.Name "enumerate" pp) [e] [] pc, ifs, 0⟩] scope pos) σ H Q := by
  obtain ⟨wi, hw, q⟩ := loopE_ok (x := x) (y := y) (px := px) (py := py) (kk := kk) (pt := pt) (pp := pp) (pc := pc) hm h hg he
  exact w_lc [(x, i), (y, j)] hN hw (fun s H0 C cl fp => pg_pair (X := X.blk s H0 scope (compEnvC scope cl C X.env) fp) hN hc hi hj (hx cl C) (hy cl C) (fx.imp id fun q => q cl C) (fy.imp id fun q => q cl C)) q ok hc hs
/-- for x, y in enumerate(list) -/
theorem s_fore (i j : Nat) {body : List Stmt} (hp : PassesOwn (model X.prog X.w) X.A X.env X.xe) (hN : X.N.Nodup) (hm : X.mg "enumerate" = none)
    (h : We X e σ H fun v H1 => ∃ (l : Addr) (xs : List V) (Pv : Nat → L2.St → Hp → Prop), v = .ref l ∧ SqL X.K H1 l xs ∧ Pv 0 σ H1 ∧ (∀ k σ' H', k ≤ xs.length → Pv k σ' H' → SqL X.K H' l xs) ∧
      (∀ k y σ' H' H'', xs[k]? = some y → Pv k σ' H' → Same H' H'' → Wb X body { D with nx := Pv (k + 1), ct := Pv (k + 1), bk := D.nx } ((σ'.set i (some (.int (k : Nat)))).set j (some y)) H'') ∧ ∀ σ' H', Pv xs.length σ' H' → D.nx σ' H')
    (hi : X.N[i]? = some x := by rfl) (hj : X.N[j]? = some y := by rfl) (hx : Loc X.env.scope x := by first | exact Or.inl rfl | exact Or.inr rfl) (hy : Loc X.env.scope y := by first | exact Or.inl rfl | exact Or.inr rfl)
    (fx : X.fn x = true ∨ X.env.scope.names.lookup x = some .local := by first | exact .inl rfl | exact .inr rfl) (fy : X.fn y = true ∨ X.env.scope.names.lookup y = some .local := by first | exact .inl rfl | exact .inr rfl)
    (hg : Gl X "enumerate" := by rfl) (he : starEach [e] X.env = (false, eval e X.env) :: starEach [] X.env := by rfl) (hc : X.calm = true := by rfl) (hs : ∀ z, foldedSetIterable (.Call (.Name "enumerate" pp) [e] [] pc) X.env z = pure z := by intro _; rfl) :
    Ws X (.For (.Tuple [.Name x px, .Name y py] kk pt) (.Call (.Name "enumerate" pp) [e] [] pc) body [] pos) D σ H := by
  refine s_for hp (pi_enum hg hm paW he) (pg_pair hN hc hi hj hx hy fx fy) (a_cons (We.mono h fun v H1 z => a_nil ?_) he) hc hs
  obtain ⟨l, xs, Pv, rfl, hl, h0, hk, ht, hd⟩ := z
  refine ⟨l, xs, rfl, hl, for_it walk_enum Pv h0 hk (fun k v σ' H' H'' hlt hP yy => ?_) hd⟩
  obtain ⟨T, x, y, rfl, hT, rfl, e1, e2⟩ := yy
  cases e1
  exact ⟨T, _, rfl, SqT.of upd_same, rfl, _, _, rfl, _, _, rfl, rfl, ht k y σ' H' _ e2 hP fun b o e => by rw [upd_ne (ne_of_none e hT)]; exact e⟩
end
end PR
/-! != of lists whose items are equal by their own == -/
namespace PN
open PySem PySem.SeqAt
open AutoSeq1 (wpAny_loadPart')
open MeetsSeq MeetsSeq2 MeetsSeq3 SeqRoads2
section
variable {prog : Program} {w : World} {A : Around} {R : Result → Shared → Prop}
theorem loopNe {l b : Addr} {N : Nat} {I : Nat → Shared → Prop} (hl : GQ.ListI prog w A (fun e s' => R (.error e) s') l b N I) (fin : ∀ s, I N s → R (.ok (.ret (.bool false))) s) :
    ∀ k i : Nat, N - i = k → i ≤ N → ∀ s, I i s → wpAny (model prog w) A.in1 (Builtin.«list.__eq__.loop» ⟨[.ref l, .ref b, rawInt i, rawInt 3], []⟩) (GQ.FinOf prog w A R) (fun e s' => R (.error e) s') s
  | 0, i, hk, hi, s, h => by
    obtain ⟨us, vs, n, n2, g1, g2, s1, s2, _⟩ := hl i s h
    obtain rfl : i = N := by omega
    have done := fin s h
    have o1 : us[((i : Nat) : Int).toNat]? = none := by simp; omega
    have o2 : vs[((i : Nat) : Int).toNat]? = none := by simp; omega
    obtain ⟨hp, g, d, tk, os⟩ := s
    wp_walk using wpAny_loadPart' g1, wpAny_loadPart' g2
    rw [o1, o2]
    wp_walk using wpAny_loadPart' g1, wpAny_loadPart' g2
    show R (.ok (.ret (.bool (us.size != vs.size)))) _
    rw [s1, s2]
    simpa using done
  | k + 1, i, hk, hi, s, h => by
    obtain ⟨us, vs, n, n2, g1, g2, s1, s2, turn⟩ := hl i s h
    have l1 : i < us.size := by omega
    have l2 : i < vs.size := by omega
    have go := turn l1 l2
    have o1 : us[((i : Nat) : Int).toNat]? = some us[i] := by simp [l1]
    have o2 : vs[((i : Nat) : Int).toNat]? = some vs[i] := by simp [l2]
    have up : (i : Int) + 1 = ((i + 1 : Nat) : Int) := by omega
    obtain ⟨hp, g, d, tk, os⟩ := s
    wp_walk using wpAny_loadPart' g1, wpAny_loadPart' g2
    rw [o1, o2]
    refine wpAny_bind (wpAny_mono go (fun r s2 ⟨hr, z⟩ => ?_) fun _ _ x => x)
    subst hr
    have again := loopNe hl fin k (i + 1) (by omega) (by omega) s2 z
    obtain ⟨hp2, gg2, d2, tk2, os2⟩ := s2
    wp_walk
    rw [up]
    refine ⟨plainId_quiet plain_eq_loop _, codeAny_builtin entry_eq_loop ?_⟩
    rw [Around.under_plainId plain_eq_loop _]
    exact again
theorem list_ne {l b : Addr} {N : Nat} {I : Nat → Shared → Prop} (hl : GQ.ListI prog w A (fun e s' => R (.error e) s') l b N I) (fin : ∀ s, I N s → R (.ok (.ret (.bool false))) s) {s : Shared} (h : I 0 s) :
    wpAny (model prog w) A.in1 (Builtin.«list.__ne__» ⟨[.ref l, .ref b], []⟩) (GQ.FinOf prog w A R) (fun e s' => R (.error e) s') s := by
  obtain ⟨us, vs, n, n2, g1, g2, s1, s2, _⟩ := hl 0 s h
  have start := loopNe hl fin _ 0 rfl (Nat.zero_le _) s h
  have sub := AutoSeq1.sub_list_list
  have eqn : ¬ (us.size != vs.size) = true := by simp [s1, s2]
  obtain ⟨hp, g, d, tk, os⟩ := s
  wp_walk using wpAny_loadPart' g1, wpAny_loadPart' g2
  refine ⟨plainId_quiet plain_eq_loop _, codeAny_builtin entry_eq_loop ?_⟩
  rw [Around.under_plainId plain_eq_loop _]
  exact start
end
end PN
namespace PR
open PySem PySem.Spec PyProof.Rows L2
section
variable {X : Cx} {n : Nat} {D : Eqv}
/-- x != y is False -/
theorem op_neG (hD : Mon D) (h : EqG X n D) (hr : Room (n + 1) X.A) : OpR X (compareOp .NotEq) (fun x y H Q => DList D x y H ∧ ∀ H', Same H H' → Q (.bl false) H') := by
  intro pins s σ H x y v u Q I rx ry ⟨⟨a, b, xs, ys, ex, ey, ha, hb, p⟩, q⟩
  subst ex ey
  cases rx
  cases ry
  obtain ⟨z, its, k, r, e⟩ := I.hok a _ ha
  obtain ⟨z2, its2, k2, r2, e2⟩ := I.hok b _ hb
  show wpAny (model X.prog X.w) X.A (richCompare .NotEq (.ref a) (.ref b)) (EP X pins σ Q) X.xe s
  have sb : Sub X (n + 1) X.A := ⟨hr, rfl⟩
  refine wpAny_richCompare_same_room (op := .NotEq) ⟨_, e, rfl⟩ ⟨_, e2, rfl⟩ PySem.F.slot_list_ne (GQ.call_here PySem.F.slot_list_ne ⟨_, e, rfl⟩ PySem.F.entry_list_ne (PySem.F.args_list_ne_2 _ _) ?_) sb.room.units0
  refine PN.list_ne (N := xs.length) (I := fun _ s' => LoopI X pins σ H s') (R := wants (fun v s' => v ≠ .notImplemented ∧ EP X pins σ Q v s') X.xe) (fun i s' l => ?_) (fun s' l => ?_) ⟨H, I, Ext.rfl'⟩
  · obtain ⟨H1, I1, e1⟩ := id l
    obtain ⟨_, us, k, r, g⟩ := I1.hok a _ (e1 _ _ ha)
    obtain ⟨_, vs, k2, r2, g2⟩ := I1.hok b _ (e1 _ _ hb)
    refine ⟨us.toArray, vs.toArray, k, k2, g, g2, by rw [List.size_toArray, ← r.length], by rw [List.size_toArray, ← r2.length, ← p.1], fun h1 h2 => turnG hD h sb p r r2 i h1 h2 s' l⟩
  · obtain ⟨H1, I1, e1⟩ := l
    exact ⟨(fun z => nomatch z), V.bl false, H1, I1, rfl, q H1 e1⟩
/-- two instances that their own == calls equal -/
theorem eqG_insR {CX : CXT} {C f : Addr} {sp : Sp} {R : Addr → Addr → Hp → Prop} {E : XK} (F : FnR X.prog X.w X.K X.mg X.base CX n f sp) (hsp : ∀ a b H, R a b H → sp [.ref a, .ref b] H (fun v H' => v = .bl true ∧ Same H H') E)
    (hs : PySem.W.findIn X.K (.ref C) "__eq__" = some (some (.ref f))) (hf : PySem.W.isFn X.K (.ref f) = true) (hx : Passes CX X E) : EqG X n (DIns C R) := by
  refine RcG.eqG (fun A pins s σ H x y u v sb I rx ry d => ?_) fun _ _ _ ⟨a, b, _, _, _, _, ex, ey, _⟩ => ⟨a, b, ex, ey⟩
  obtain ⟨a, b, dx, dy, fs, gs, ex, ey, ha, hb, hr⟩ := d
  subst ex ey
  cases rx
  cases ry
  obtain ⟨_, oa, _⟩ := ins_get I.hok ha
  obtain ⟨_, ob, _⟩ := ins_get I.hok hb
  obtain ⟨_, ja, _⟩ := oa.look
  obtain ⟨_, jb, _⟩ := ob.look
  obtain ⟨_, fr⟩ := I.fr
  refine PySem.W.cmp_K (op := .Eq) (tb := .ref C) sb.room.units0 fr I.ok.mod.kin ja jb.type (by simp [PySem.W.notFirst]) hs hf ?_
  have e0 : Env0 X.prog X.w X.K X.mg X.base A X.stack s H := { I.env0 with frames := by rw [sb.fr]; exact I.env0.frames }
  refine wpAny_call (codeAny_mono (F A X.stack s H [.ref a, .ref b] [.ref a, .ref b] _ E sb.room e0 (.cons rfl (.cons rfl .nil)) (hsp a b H hr)) fun r s' hq => ?_)
  match r with
  | .error e => exact hx pins σ H s e s' I hq
  | .ok (.ret w) =>
    obtain ⟨z, H', I', rz, ez, ext⟩ := I.after hq
    subst ez
    cases rz
    exact ⟨rfl, H', I', ext⟩
  | .ok .next => exact False.elim hq
  | .ok .brk => exact False.elim hq
  | .ok .cont => exact False.elim hq
end
end PR
namespace PR
open PySem PySem.Spec PyProof.Rows L2
section
variable {X : Cx} {scope : Scope} {elt c : Expr} {σ : L2.St} {H1 : Hp} {Q : VK}
/-- what the values of a comprehension's turns are: R, kept while the new list at D grows -/
def MpA (X : Cx) (scope : Scope) (elt : Expr) (n : Nat) (go : Nat → L2.St → Prop) (H1 : Hp) (Q : VK) : Prop :=
  n ≤ 1000 ∧ ∀ D, H1 D = none → ∃ (R : Nat → V → Hp → Prop), (∀ i y H H', KD D H H' → R i y H → R i y H') ∧
    (∀ i τ H' acc, i < n → go i τ → Same H1 H' → H' D = some (.lst acc) → Be X scope elt τ H' fun y H3 => Same H' H3 ∧ R i y H3) ∧
    ∀ ys H', Same H1 H' → H' D = some (.lst ys) → ys.length = n → (∀ (i : Nat) (y : V), ys[i]? = some y → R i y H') → Q (.ref D) H'
theorem MpA.mapd {n : Nat} {go : Nat → L2.St → Prop} {st : Nat → L2.St} (h : MpA X scope elt n go H1 Q) (hg : ∀ i, i < n → go i (st i)) : Mapd X scope elt [] n st H1 Q := by
  refine MapA.mapd ⟨h.1, fun D hD => ?_⟩
  obtain ⟨R, r1, r2, r3⟩ := h.2 D hD
  exact ⟨R, r1, fun i H' acc hi s hd => r2 i _ H' acc hi (hg i hi) s hd, r3⟩
/-- with one test -/
def MpF (X : Cx) (scope : Scope) (elt c : Expr) (n : Nat) (go : Nat → L2.St → Prop) (H1 : Hp) (Q : VK) : Prop :=
  n ≤ 1000 ∧ ∀ D, H1 D = none → ∃ (keep : Nat → Bool) (R : Nat → V → Hp → Prop), (∀ i y H H', KD D H H' → R i y H → R i y H') ∧
    (∀ i τ H' acc, i < n → go i τ → Same H1 H' → H' D = some (.lst acc) → Bi X scope [c] τ H' fun b H2 => b = keep i ∧ Same H' H2 ∧ (b = true → Be X scope elt τ H2 fun y H3 => Same H2 H3 ∧ R i y H3)) ∧
    ∀ ys H', Same H1 H' → H' D = some (.lst ys) → Got keep n R ys H' → Q (.ref D) H'
theorem MpF.mapd {n : Nat} {go : Nat → L2.St → Prop} {st : Nat → L2.St} (h : MpF X scope elt c n go H1 Q) (hg : ∀ i, i < n → go i (st i)) : Mapd X scope elt [c] n st H1 Q := by
  refine ⟨h.1, fun D hD => ?_⟩
  obtain ⟨keep, R, r1, r2, r3⟩ := h.2 D hD
  exact ⟨keep, R, r1, fun i H' acc hi s hd => r2 i _ H' acc hi (hg i hi) s hd, r3⟩
/-- the slots at a turn over a list, a range, two lists, a list with its places -/
def goL (j : Nat) (σ : L2.St) (xs : List V) : Nat → L2.St → Prop := fun i τ => ∃ x, xs[i]? = some x ∧ τ = (wipe σ [j]).set j (some x)
def goN (j : Nat) (σ : L2.St) (lo : Nat) : Nat → L2.St → Prop := fun i τ => τ = (wipe σ [j]).set j (some (.int ((lo + i : Nat) : Int)))
def goZ (i j : Nat) (σ : L2.St) (xs ys : List V) : Nat → L2.St → Prop := fun k τ => ∃ x y, xs[k]? = some x ∧ ys[k]? = some y ∧ τ = ((wipe σ [i, j]).set i (some x)).set j (some y)
def goE (i j : Nat) (σ : L2.St) (xs : List V) : Nat → L2.St → Prop := fun k τ => ∃ x, xs[k]? = some x ∧ τ = ((wipe σ [i, j]).set i (some (.int (k : Nat)))).set j (some x)
theorem goL_ok {j : Nat} {xs : List V} : ∀ i, i < xs.length → goL j σ xs i ((wipe σ [j]).set j xs[i]?) := fun i hi => ⟨xs[i], List.getElem?_eq_getElem hi, by rw [List.getElem?_eq_getElem hi]⟩
theorem goZ_ok {i j : Nat} {xs ys : List V} : ∀ k, k < min xs.length ys.length → goZ i j σ xs ys k (((wipe σ [i, j]).set i xs[k]?).set j ys[k]?) := fun k hk => by
  have l1 : k < xs.length := by omega
  have l2 : k < ys.length := by omega
  exact ⟨xs[k], ys[k], List.getElem?_eq_getElem l1, List.getElem?_eq_getElem l2, by rw [List.getElem?_eq_getElem l1, List.getElem?_eq_getElem l2]⟩
theorem goE_ok {i j : Nat} {xs : List V} : ∀ k, k < xs.length → goE i j σ xs k (((wipe σ [i, j]).set i (some (.int (k : Nat)))).set j xs[k]?) := fun k hk => ⟨xs[k], List.getElem?_eq_getElem hk, by rw [List.getElem?_eq_getElem hk]⟩
theorem goN_ok {j lo n : Nat} : ∀ i, i < n → goN j σ lo i ((wipe σ [j]).set j (some (.int ((lo : Int) + (i : Int))))) := fun i _ => by
  show _ = _
  congr 3
theorem lpL {j : Nat} {v : V} (h : ∃ (l : Addr) (xs : List V), v = .ref l ∧ SqL X.K H1 l xs ∧ MpA X scope elt xs.length (goL j σ xs) H1 Q) : LoopM X scope elt [] j σ v H1 Q := by
  obtain ⟨l, xs, e, hl, h⟩ := h
  exact ⟨l, xs, e, hl, h.mapd goL_ok⟩
theorem lpLF {j : Nat} {v : V} (h : ∃ (l : Addr) (xs : List V), v = .ref l ∧ SqL X.K H1 l xs ∧ MpF X scope elt c xs.length (goL j σ xs) H1 Q) : LoopM X scope elt [c] j σ v H1 Q := by
  obtain ⟨l, xs, e, hl, h⟩ := h
  exact ⟨l, xs, e, hl, h.mapd goL_ok⟩
theorem lpN {j n : Nat} {lo : Nat} (h : MpA X scope elt n (goN j σ lo) H1 Q) : LoopN X scope elt [] j σ (lo : Int) n H1 Q := h.mapd goN_ok
theorem lpNF {j n : Nat} {lo : Nat} (h : MpF X scope elt c n (goN j σ lo) H1 Q) : LoopN X scope elt [c] j σ (lo : Int) n H1 Q := h.mapd goN_ok
theorem lpZ {k1 k2 : Bool} {i j : Nat} {v u : V} (h : ∃ (a b : Addr) (xs ys : List V), v = .ref a ∧ u = .ref b ∧ SqK k1 X.K H1 a xs ∧ SqK k2 X.K H1 b ys ∧ MpA X scope elt (min xs.length ys.length) (goZ i j σ xs ys) H1 Q) : LoopZ X scope elt [] k1 k2 i j σ v u H1 Q := by
  obtain ⟨a, b, xs, ys, e, e2, hx, hy, h⟩ := h
  exact ⟨a, b, xs, ys, e, e2, hx, hy, h.mapd goZ_ok⟩
theorem lpE {i j : Nat} {v : V} (h : ∃ (a : Addr) (xs : List V), v = .ref a ∧ SqL X.K H1 a xs ∧ MpA X scope elt xs.length (goE i j σ xs) H1 Q) : LoopE X scope elt [] i j σ v H1 Q := by
  obtain ⟨a, xs, e, hx, h⟩ := h
  exact ⟨a, xs, e, hx, h.mapd goE_ok⟩
end
theorem cut_from (xs : List V) (k : Nat) : cutV xs (some (k : Int)) none = xs.drop k := by
  unfold cutV
  rw [HT.sIx_nat, HT.sIx_none]
  by_cases h : k ≤ xs.length
  · rw [Nat.min_eq_left h, List.take_of_length_le (by rw [List.length_drop]; omega)]
  · rw [Nat.min_eq_right (by omega), List.drop_length, List.drop_of_length_le (by omega), List.take_nil]
theorem cut_to (xs : List V) (k : Nat) : cutV xs none (some (k : Int)) = xs.take k := by
  unfold cutV
  rw [HT.sIx_nat, HT.sIx_none, List.drop_zero]
  by_cases h : k ≤ xs.length
  · rw [Nat.min_eq_left h]; rfl
  · rw [Nat.min_eq_right (by omega), List.take_of_length_le (by omega), List.take_of_length_le (by omega)]
/-! ### values one by one, lists of such -/
section
variable {α : Type}
def Els (R : V → α → Prop) (xs : List V) (as : List α) : Prop := xs.length = as.length ∧ ∀ (i : Nat) (x : V) (a : α), xs[i]? = some x → as[i]? = some a → R x a
theorem Els.nil {R : V → α → Prop} : Els R [] [] := ⟨rfl, fun i x a h => by simp at h⟩
theorem Els.cons {R : V → α → Prop} {x : V} {a : α} {xs : List V} {as : List α} (h : R x a) (t : Els R xs as) : Els R (x :: xs) (a :: as) :=
  ⟨congrArg (· + 1) t.1, fun i y b e e2 => match i, e, e2 with
    | 0, e, e2 => by cases e; cases e2; exact h
    | i + 1, e, e2 => t.2 i y b e e2⟩
theorem Els.mono {R R' : V → α → Prop} {xs : List V} {as : List α} (h : Els R xs as) (k : ∀ x a, R x a → R' x a) : Els R' xs as := ⟨h.1, fun i x a e e2 => k x a (h.2 i x a e e2)⟩
theorem Els.get {R : V → α → Prop} {xs : List V} {as : List α} (h : Els R xs as) {i : Nat} {x : V} (e : xs[i]? = some x) : ∃ a, as[i]? = some a ∧ R x a := by
  have hi : i < as.length := by rw [← h.1]; exact (List.getElem?_eq_some_iff.mp e).1
  exact ⟨as[i], List.getElem?_eq_getElem hi, h.2 i x _ e (List.getElem?_eq_getElem hi)⟩
theorem Els.at_ {R : V → α → Prop} {xs : List V} {as : List α} (h : Els R xs as) {i : Nat} {a : α} (e : as[i]? = some a) : ∃ x, xs[i]? = some x ∧ R x a := by
  have hi : i < xs.length := by rw [h.1]; exact (List.getElem?_eq_some_iff.mp e).1
  exact ⟨xs[i], List.getElem?_eq_getElem hi, h.2 i _ a (List.getElem?_eq_getElem hi) e⟩
theorem Els.append {R : V → α → Prop} {xs ys : List V} {as bs : List α} (h : Els R xs as) (k : Els R ys bs) : Els R (xs ++ ys) (as ++ bs) := by
  refine ⟨by rw [List.length_append, List.length_append, h.1, k.1], fun i x a e e2 => ?_⟩
  by_cases hi : i < xs.length
  · rw [List.getElem?_append_left hi] at e
    rw [List.getElem?_append_left (by rw [← h.1]; exact hi)] at e2
    exact h.2 i x a e e2
  · rw [List.getElem?_append_right (by omega)] at e
    rw [List.getElem?_append_right (by rw [← h.1]; omega)] at e2
    rw [← h.1] at e2
    exact k.2 _ x a e e2
theorem Els.take {R : V → α → Prop} {xs : List V} {as : List α} (h : Els R xs as) (n : Nat) : Els R (xs.take n) (as.take n) := by
  refine ⟨by rw [List.length_take, List.length_take, h.1], fun i x a e e2 => ?_⟩
  have hi : i < n := by
    have := (List.getElem?_eq_some_iff.mp e).1
    rw [List.length_take] at this
    omega
  rw [List.getElem?_take_of_lt hi] at e e2
  exact h.2 i x a e e2
theorem Els.drop {R : V → α → Prop} {xs : List V} {as : List α} (h : Els R xs as) (n : Nat) : Els R (xs.drop n) (as.drop n) := by
  refine ⟨by rw [List.length_drop, List.length_drop, h.1], fun i x a e e2 => ?_⟩
  rw [List.getElem?_drop] at e e2
  exact h.2 _ x a e e2
theorem Els.of {R : V → α → Prop} {xs : List V} {as : List α} (h : xs.length = as.length) (k : ∀ (i : Nat) (x : V), xs[i]? = some x → ∀ a, as[i]? = some a → R x a) : Els R xs as := ⟨h, fun i x a e e2 => k i x e a e2⟩
def LsAt (R : Hp → V → α → Prop) (H : Hp) (l : Addr) (as : List α) : Prop := ∃ xs, H l = some (.lst xs) ∧ Els (R H) xs as
def Ls (R : Hp → V → α → Prop) (H : Hp) (v : V) (as : List α) : Prop := ∃ l, v = .ref l ∧ LsAt R H l as
/-- another list than that at D -/
def LsO (D : Addr) (R : Hp → V → α → Prop) (H : Hp) (v : V) (as : List α) : Prop := ∃ l, v = .ref l ∧ l ≠ D ∧ LsAt R H l as
def MonS (R : Hp → V → α → Prop) : Prop := ∀ H H' v a, Same H H' → R H v a → R H' v a
def MonD (D : Addr) (R : Hp → V → α → Prop) : Prop := ∀ H H' v a, KD D H H' → R H v a → R H' v a
theorem LsAt.same {R : Hp → V → α → Prop} (hR : MonS R) {H H' : Hp} {l : Addr} {as : List α} (h : LsAt R H l as) (s : Same H H') : LsAt R H' l as := by
  obtain ⟨xs, e, h⟩ := h
  exact ⟨xs, s _ _ e, h.mono fun x a r => hR H H' x a s r⟩
theorem monS_ls {R : Hp → V → α → Prop} (hR : MonS R) : MonS (Ls R) := fun H H' v as s ⟨l, e, h⟩ => ⟨l, e, h.same hR s⟩
theorem monS_lsO {D : Addr} {R : Hp → V → α → Prop} (hR : MonS R) : MonS (LsO D R) := fun H H' v as s ⟨l, e, n, h⟩ => ⟨l, e, n, h.same hR s⟩
theorem monD_lsO {D : Addr} {R : Hp → V → α → Prop} (hR : MonD D R) : MonD D (LsO D R) := fun H H' v as s ⟨l, e, n, xs, h1, h2⟩ => ⟨l, e, n, xs, s.2 _ _ n h1, h2.mono fun x a r => hR H H' x a s r⟩
theorem LsO.ls {D : Addr} {R : Hp → V → α → Prop} {H : Hp} {v : V} {as : List α} (h : LsO D R H v as) : Ls R H v as := by
  obtain ⟨l, e, _, h⟩ := h
  exact ⟨l, e, h⟩
theorem Ls.off {D : Addr} {R : Hp → V → α → Prop} {H : Hp} {v : V} {as : List α} (h : Ls R H v as) (hD : H D = none) : LsO D R H v as := by
  obtain ⟨l, e, xs, h1, h2⟩ := h
  exact ⟨l, e, fun z => (by rw [z, hD] at h1; cases h1), xs, h1, h2⟩
end
end PR
namespace RM
/-- the greatest common divisor with the sign of the bottom -/
def sg (a b : Int) : Int := if b > 0 then (Int.gcd a b : Int) else -(Int.gcd a b : Int)
theorem sg_ne {a b : Int} (h : b ≠ 0) : sg a b ≠ 0 := by
  have := Int.gcd_pos_of_ne_zero_right a h
  unfold sg; split <;> omega
theorem fdiv_neg_of_dvd {a g : Int} (hg : 0 < g) (h : g ∣ a) : a.fdiv (-g) = (-a) / g := by
  obtain ⟨k, rfl⟩ := h
  have e1 : (g * k).fdiv (-g) = -k := by
    have : g * k = (-g) * (-k) := by rw [Int.neg_mul_neg]
    rw [this, Int.mul_fdiv_cancel_left _ (by omega)]
  rw [e1, show -(g * k) = g * (-k) by rw [Int.mul_neg], Int.mul_ediv_cancel_left _ (by omega)]
theorem num_eq {a b : Int} (h : b ≠ 0) : a.fdiv (sg a b) = (Rat.divInt a b).num := by
  have hg := Int.gcd_pos_of_ne_zero_right a h
  rw [Rat.num_divInt, Int.gcd_comm b a]
  unfold sg
  by_cases hb : b > 0
  · rw [if_pos hb, Int.sign_eq_one_of_pos hb, Int.one_mul, Int.fdiv_eq_ediv_of_nonneg _ (by omega)]
  · rw [if_neg hb, Int.sign_eq_neg_one_of_neg (by omega), Int.neg_mul, Int.one_mul]
    exact fdiv_neg_of_dvd (by omega) (Int.gcd_dvd_left ..)
theorem den_eq {a b : Int} (h : b ≠ 0) : b.fdiv (sg a b) = ((Rat.divInt a b).den : Int) := by
  have hg := Int.gcd_pos_of_ne_zero_right a h
  rw [Rat.den_divInt, if_neg h, Int.gcd_comm b a]
  unfold sg
  by_cases hb : b > 0
  · rw [if_pos hb, Int.fdiv_eq_ediv_of_nonneg _ (by omega)]
    have e : ((b.natAbs / a.gcd b : Nat) : Int) = (b.natAbs : Int) / ((a.gcd b : Nat) : Int) := Int.natCast_ediv ..
    rw [e]
    congr 1
    omega
  · rw [if_neg hb, fdiv_neg_of_dvd (by omega) (Int.gcd_dvd_right ..)]
    have e : ((b.natAbs / a.gcd b : Nat) : Int) = (b.natAbs : Int) / ((a.gcd b : Nat) : Int) := Int.natCast_ediv ..
    rw [e]
    congr 1
    omega
/-- one turn of Euclid's loop (Python's %) -/
theorem gcd_turn {a b : Int} (h : b ≠ 0) : Int.gcd b (a.fmod b) = Int.gcd a b := by
  have e : a.fmod b = a - b * a.fdiv b := by have := Int.mul_fdiv_add_fmod a b; omega
  rw [e, Int.gcd_comm a b]
  rw [Int.mul_comm]
  exact Int.gcd_sub_mul_right_right ..
theorem fmod_small {a b : Int} (h : b ≠ 0) : (a.fmod b).natAbs < b.natAbs := by
  rcases Int.lt_or_gt_of_ne h with hb | hb
  · have e1 : (-a).fmod (-b) = -(a.fmod b) := Int.neg_fmod_neg a b
    have h1 := Int.fmod_nonneg_of_pos (-a) (b := -b) (by omega)
    have h2 := Int.fmod_lt_of_pos (-a) (b := -b) (by omega)
    omega
  · have h1 := Int.fmod_nonneg_of_pos a hb
    have h2 := Int.fmod_lt_of_pos a hb
    omega
/-! ### sizes -/
def Lt (q : Rat) (n : Nat) : Prop := q.num.natAbs < 2 ^ n ∧ q.den < 2 ^ n
theorem Lt.mono {q : Rat} {n m : Nat} (h : Lt q n) (k : n ≤ m) : Lt q m :=
  ⟨Nat.lt_of_lt_of_le h.1 (Nat.pow_le_pow_right (by omega) k), Nat.lt_of_lt_of_le h.2 (Nat.pow_le_pow_right (by omega) k)⟩
theorem num_divInt_le (a b : Int) (h : b ≠ 0) : (Rat.divInt a b).num.natAbs ≤ a.natAbs := by
  rw [← num_eq h]
  have hs := sg_ne (a := a) h
  have hd : sg a b ∣ a := by
    unfold sg; split
    · exact Int.gcd_dvd_left ..
    · exact Int.neg_dvd.mpr (Int.gcd_dvd_left ..)
  obtain ⟨k, hk⟩ := hd
  have e : a.fdiv (sg a b) = k := by
    conv => lhs; arg 1; rw [hk]
    exact Int.mul_fdiv_cancel_left _ hs
  rw [e]
  have : a.natAbs = (sg a b).natAbs * k.natAbs := by conv => lhs; rw [hk]; rw [Int.natAbs_mul]
  rw [this]
  exact Nat.le_mul_of_pos_left _ (by omega)
theorem den_divInt_le (a b : Int) (h : b ≠ 0) : (Rat.divInt a b).den ≤ b.natAbs := by
  rw [Rat.den_divInt, if_neg h]
  exact Nat.div_le_self ..
theorem lt_divInt {a b : Int} {n : Nat} (h : b ≠ 0) (ha : a.natAbs < 2 ^ n) (hb : b.natAbs < 2 ^ n) : Lt (Rat.divInt a b) n :=
  ⟨Nat.lt_of_le_of_lt (num_divInt_le a b h) ha, Nat.lt_of_le_of_lt (den_divInt_le a b h) hb⟩
/-- both together below 2 ^ 9000 -/
def Fit (p q : Rat) : Prop := ∃ a b, Lt p a ∧ Lt q b ∧ a + b ≤ 9000
theorem fit_of {p q : Rat} {a b : Nat} (h : Lt p a) (k : Lt q b) (l : a + b ≤ 9000) : Fit p q := ⟨a, b, h, k, l⟩
theorem den_ne (q : Rat) : (q.den : Int) ≠ 0 := by have := q.den_nz; omega
theorem add_eq (p q : Rat) : p + q = Rat.divInt (p.num * q.den + q.num * p.den) (p.den * q.den) := by
  conv => lhs; rw [← Rat.num_divInt_den p, ← Rat.num_divInt_den q]
  exact Rat.divInt_add_divInt _ _ (den_ne p) (den_ne q)
theorem sub_eq (p q : Rat) : p - q = Rat.divInt (p.num * q.den - q.num * p.den) (p.den * q.den) := by
  have e : p - q = p + -q := Rat.sub_eq_add_neg p q
  rw [e, add_eq]
  congr 1
  · show p.num * ((-q).den : Int) + (-q).num * p.den = _
    have h1 : (-q).den = q.den := rfl
    have h2 : (-q).num = -q.num := rfl
    rw [h1, h2, Int.neg_mul]
    omega
theorem mul_eq (p q : Rat) : p * q = Rat.divInt (p.num * q.num) (p.den * q.den) := by
  conv => lhs; rw [← Rat.num_divInt_den p, ← Rat.num_divInt_den q]
  exact Rat.divInt_mul_divInt ..
theorem neg_eq (p : Rat) : -p = Rat.divInt (-p.num) p.den := by
  conv => lhs; rw [← Rat.num_divInt_den p]
  exact Rat.neg_divInt ..
theorem div_eq (p q : Rat) : p / q = Rat.divInt (p.num * q.den) (p.den * q.num) := by
  rw [Rat.div_def, Rat.inv_def]
  conv => lhs; rw [← Rat.num_divInt_den p]
  exact Rat.divInt_mul_divInt ..
theorem num_zero_iff {q : Rat} : q.num = 0 ↔ q = 0 := Rat.num_eq_zero
theorem pow_mul_lt {i j : Int} {a b : Nat} (ha : i.natAbs < 2 ^ a) (hb : j.natAbs < 2 ^ b) : (i * j).natAbs < 2 ^ (a + b) := by
  rw [Int.natAbs_mul, Nat.pow_add]
  exact Nat.mul_lt_mul'' ha hb
theorem pow_add_lt {i j : Int} {a : Nat} (ha : i.natAbs < 2 ^ a) (hb : j.natAbs < 2 ^ a) : (i + j).natAbs < 2 ^ (a + 1) := by
  rw [Nat.pow_succ]; omega
theorem pow_sub_lt {i j : Int} {a : Nat} (ha : i.natAbs < 2 ^ a) (hb : j.natAbs < 2 ^ a) : (i - j).natAbs < 2 ^ (a + 1) := by
  rw [Nat.pow_succ]; omega
theorem den_lt {q : Rat} {n : Nat} (h : Lt q n) : ((q.den : Int)).natAbs < 2 ^ n := h.2
theorem pow_le {i : Int} {a b : Nat} (h : i.natAbs < 2 ^ a) (k : a ≤ b) : i.natAbs < 2 ^ b := Nat.lt_of_lt_of_le h (Nat.pow_le_pow_right (by omega) k)
theorem mul_den_ne (p q : Rat) : (p.den * q.den : Int) ≠ 0 := Int.mul_ne_zero (den_ne p) (den_ne q)
theorem lt_add {p q : Rat} {a b : Nat} (hp : Lt p a) (hq : Lt q b) : Lt (p + q) (a + b + 1) := by
  rw [add_eq]
  refine lt_divInt (mul_den_ne p q) (pow_add_lt (pow_mul_lt hp.1 (den_lt hq)) ?_) (pow_le (pow_mul_lt (den_lt hp) (den_lt hq)) (by omega))
  rw [Nat.add_comm a b]
  exact pow_mul_lt hq.1 (den_lt hp)
theorem lt_sub {p q : Rat} {a b : Nat} (hp : Lt p a) (hq : Lt q b) : Lt (p - q) (a + b + 1) := by
  rw [sub_eq]
  refine lt_divInt (mul_den_ne p q) (pow_sub_lt (pow_mul_lt hp.1 (den_lt hq)) ?_) (pow_le (pow_mul_lt (den_lt hp) (den_lt hq)) (by omega))
  rw [Nat.add_comm a b]
  exact pow_mul_lt hq.1 (den_lt hp)
theorem lt_mul {p q : Rat} {a b : Nat} (hp : Lt p a) (hq : Lt q b) : Lt (p * q) (a + b) := by
  rw [mul_eq]
  exact lt_divInt (mul_den_ne p q) (pow_mul_lt hp.1 hq.1) (pow_mul_lt (den_lt hp) (den_lt hq))
theorem lt_neg {p : Rat} {a : Nat} (hp : Lt p a) : Lt (-p) a := ⟨by show (-p.num).natAbs < _; rw [Int.natAbs_neg]; exact hp.1, hp.2⟩
theorem lt_div {p q : Rat} {a b : Nat} (hp : Lt p a) (hq : Lt q b) (h : q ≠ 0) : Lt (p / q) (a + b) := by
  rw [div_eq]
  have hn : q.num ≠ 0 := fun z => h (Rat.num_eq_zero.mp z)
  exact lt_divInt (Int.mul_ne_zero (den_ne p) hn) (pow_mul_lt hp.1 (den_lt hq)) (pow_mul_lt (den_lt hp) hq.1)
theorem lt_int {n : Int} {a : Nat} (h : n.natAbs < 2 ^ a) (h1 : 0 < a) : Lt (n : Rat) a := ⟨h, by
  show 1 < 2 ^ a
  exact Nat.one_lt_two_pow (by omega)⟩
theorem num_int (n : Int) : ((n : Rat)).num = n := rfl
theorem den_int (n : Int) : ((n : Rat)).den = 1 := rfl
theorem int_eq (n : Int) : (n : Rat) = Rat.divInt n 1 := by
  have h := Rat.num_divInt_den (n : Rat)
  exact h.symm
theorem lt_iff (p q : Rat) : p < q ↔ p.num * q.den < q.num * p.den := Rat.lt_iff p q
theorem le_iff (p q : Rat) : p ≤ q ↔ p.num * q.den ≤ q.num * p.den := Rat.le_iff p q
theorem eq_iff (p q : Rat) : p = q ↔ (p.num = q.num ∧ p.den = q.den) := ⟨fun h => by rw [h]; exact ⟨rfl, rfl⟩, fun h => Rat.ext h.1 h.2⟩
end RM
/-! Elimination on lists of rows, plain. -/
namespace GM
abbrev Row := List Rat
def dot : Row → (Nat → Rat) → Rat
  | [], _ => 0
  | a :: r, v => a * v 0 + dot r (fun c => v (c + 1))
def less (r o : Row) (f : Rat) : Row := List.zipWith (fun a b => a - b * f) r o
def over (r : Row) (p : Rat) : Row := r.map (· / p)
theorem dot_less : ∀ {r o : Row} {f : Rat} {v : Nat → Rat}, r.length = o.length → dot (less r o f) v = dot r v - f * dot o v
  | [], [], f, v, _ => by show (0 : Rat) = 0 - f * 0; grind
  | a :: r, b :: o, f, v, h => by
    have e : dot (less (a :: r) (b :: o) f) v = (a - b * f) * v 0 + dot (less r o f) (fun c => v (c + 1)) := rfl
    rw [e, dot_less (r := r) (o := o) (by simpa using h)]
    show _ = (a * v 0 + dot r _) - f * (b * v 0 + dot o _)
    grind
theorem dot_over : ∀ {r : Row} {p : Rat} {v : Nat → Rat}, dot (over r p) v = dot r v / p
  | [], p, v => by show (0 : Rat) = 0 / p; rw [Rat.div_def, Rat.zero_mul]
  | a :: r, p, v => by
    have e : dot (over (a :: r) p) v = (a / p) * v 0 + dot (over r p) (fun c => v (c + 1)) := rfl
    rw [e, dot_over]
    show _ = (a * v 0 + dot r _) / p
    rw [Rat.div_def, Rat.div_def, Rat.div_def]
    grind
theorem len_less {r o : Row} {f : Rat} (h : r.length = o.length) : (less r o f).length = r.length := by
  unfold less; rw [List.length_zipWith]; omega
theorem less_at {r o : Row} {f : Rat} {c : Nat} (h : r.length = o.length) : (less r o f).getD c 0 = r.getD c 0 - o.getD c 0 * f := by
  unfold less
  rw [List.getD_eq_getElem?_getD, List.getD_eq_getElem?_getD, List.getD_eq_getElem?_getD, List.getElem?_zipWith]
  by_cases hc : c < r.length
  · rw [List.getElem?_eq_getElem hc, List.getElem?_eq_getElem (h ▸ hc)]; rfl
  · rw [List.getElem?_eq_none (by omega), List.getElem?_eq_none (by omega)]
    show (0 : Rat) = 0 - 0 * f
    grind
theorem over_at {r : Row} {p : Rat} {c : Nat} : (over r p).getD c 0 = r.getD c 0 / p := by
  unfold over
  rw [List.getD_eq_getElem?_getD, List.getD_eq_getElem?_getD, List.getElem?_map]
  cases r[c]? with
  | none => show (0 : Rat) = 0 / p; rw [Rat.div_def, Rat.zero_mul]
  | some x => rfl
/-! ### the steps -/
def at2 (L : List Row) (k c : Nat) : Rat := (L.getD k []).getD c 0
def pivs (L : List Row) (p : Nat) : List Nat := (List.range (L.length - p)).filter fun i => decide (at2 L (p + i) p ≠ 0)
def piv (L : List Row) (p : Nat) : Option Nat := (pivs L p).head?.map (p + ·)
def rest (L : List Row) (p q : Nat) : List Nat := ((List.range (L.length - p)).filter fun i => decide (p + i ≠ q)).map (p + ·)
def order (L : List Row) (p q : Nat) : List Nat := q :: rest L p q
def perm (L : List Row) (p q : Nat) : List Row := L.take p ++ (order L p q).map fun k => L.getD k []
def own (M : List Row) (p : Nat) : Row := over (M.getD p []) (at2 M p p)
def clear (M : List Row) (p : Nat) : List Row := M.mapIdx fun k r => if k = p then own M p else less r (own M p) (r.getD p 0)
def stp (L : List Row) (p : Nat) : Option (List Row) := (piv L p).map fun q => clear (perm L p q) p
def redN (L : List Row) : Nat → Option (List Row)
  | 0 => some L
  | j + 1 => (redN L j).bind fun M => stp M j
def red (L : List Row) : Option (List Row) := redN L L.length
theorem redN_none {L : List Row} {j k : Nat} (h : redN L j = none) (hk : j ≤ k) : redN L k = none := by
  induction hk with
  | refl => exact h
  | step _ ih => show (redN L _).bind _ = none; rw [ih]; rfl
theorem getD_mem {L : List Row} {k : Nat} (h : k < L.length) : L.getD k [] ∈ L := by
  rw [List.getD_eq_getElem?_getD, List.getElem?_eq_getElem h]; exact List.getElem_mem h
theorem pivs_spec {L : List Row} {p i : Nat} (h : i ∈ pivs L p) : i < L.length - p ∧ at2 L (p + i) p ≠ 0 := by
  have z := List.mem_filter.mp h
  exact ⟨List.mem_range.mp z.1, of_decide_eq_true z.2⟩
theorem piv_spec {L : List Row} {p q : Nat} (h : piv L p = some q) : p ≤ q ∧ q < L.length ∧ at2 L q p ≠ 0 := by
  unfold piv at h
  cases e : (pivs L p).head? with
  | none => rw [e] at h; cases h
  | some i =>
    rw [e] at h
    cases h
    obtain ⟨h1, h2⟩ := pivs_spec (List.mem_of_mem_head? e)
    exact ⟨by show p ≤ p + i; omega, by show p + i < L.length; omega, h2⟩
theorem piv_none {L : List Row} {p : Nat} (h : piv L p = none) : ∀ k, p ≤ k → k < L.length → at2 L k p = 0 := by
  intro k h1 h2
  unfold piv at h
  have e : pivs L p = [] := by
    cases e : pivs L p with
    | nil => rfl
    | cons a r => rw [e] at h; cases h
  refine Classical.byContradiction fun hn => ?_
  have m : (k - p) ∈ pivs L p := List.mem_filter.mpr ⟨List.mem_range.mpr (by omega), decide_eq_true (by rw [show p + (k - p) = k by omega]; exact hn)⟩
  rw [e] at m
  cases m
theorem filter_ne_len (n q : Nat) : ∀ p, p ≤ q → q < p + n → ((List.range n).filter fun i => decide (p + i ≠ q)).length = n - 1 := by
  induction n with
  | zero => intro p h1 h2; omega
  | succ n ih =>
    intro p h1 h2
    rw [List.range_succ, List.filter_append, List.length_append]
    by_cases hq : p + n = q
    · have e1 : ((List.range n).filter fun i => decide (p + i ≠ q)) = List.range n := List.filter_eq_self.mpr fun i hi => decide_eq_true (by have := List.mem_range.mp hi; omega)
      rw [e1, List.length_range]
      simp [hq]
    · rw [ih p h1 (by omega)]
      simp [hq]
      omega
theorem len_perm {L : List Row} {p q : Nat} (h1 : p ≤ q) (h2 : q < L.length) : (perm L p q).length = L.length := by
  unfold perm order rest
  rw [List.length_append, List.length_take, List.length_map, List.length_cons, List.length_map, filter_ne_len _ q p h1 (by omega)]
  omega
theorem mem_perm {L : List Row} {p q : Nat} {r : Row} (h1 : p ≤ q) (h2 : q < L.length) : r ∈ perm L p q ↔ r ∈ L := by
  unfold perm order rest
  constructor
  · intro h
    rcases List.mem_append.mp h with h | h
    · exact List.mem_of_mem_take h
    · obtain ⟨k, hk, rfl⟩ := List.mem_map.mp h
      rcases List.mem_cons.mp hk with rfl | hk
      · exact getD_mem h2
      · obtain ⟨i, hi, rfl⟩ := List.mem_map.mp hk
        have := List.mem_range.mp (List.mem_filter.mp hi).1
        exact getD_mem (by omega)
  · intro h
    obtain ⟨k, hk, rfl⟩ := List.getElem_of_mem h
    by_cases hp : k < p
    · refine List.mem_append.mpr (.inl ?_)
      rw [List.mem_take_iff_getElem]
      exact ⟨k, by omega, rfl⟩
    · refine List.mem_append.mpr (.inr (List.mem_map.mpr ⟨k, ?_, by rw [List.getD_eq_getElem?_getD, List.getElem?_eq_getElem hk]; rfl⟩))
      by_cases hq : k = q
      · exact List.mem_cons.mpr (.inl hq)
      · refine List.mem_cons.mpr (.inr (List.mem_map.mpr ⟨k - p, List.mem_filter.mpr ⟨List.mem_range.mpr (by omega), decide_eq_true (by omega)⟩, by omega⟩))
theorem perm_low {L : List Row} {p q k : Nat} (hk : k < p) (hp : p ≤ L.length) : (perm L p q).getD k [] = L.getD k [] := by
  unfold perm
  rw [List.getD_eq_getElem?_getD, List.getD_eq_getElem?_getD, List.getElem?_append_left (by rw [List.length_take]; omega), List.getElem?_take_of_lt hk]
theorem perm_at {L : List Row} {p q : Nat} (hp : p ≤ L.length) : (perm L p q).getD p [] = L.getD q [] := by
  unfold perm
  rw [List.getD_eq_getElem?_getD, List.getElem?_append_right (by rw [List.length_take]; omega)]
  rw [List.length_take, show p - min p L.length = 0 by omega]
  rfl
theorem perm_high {L : List Row} {p q k : Nat} (h1 : p ≤ q) (h2 : q < L.length) (hk : p ≤ k) (hl : k < L.length) : ∃ i, p ≤ i ∧ i < L.length ∧ (perm L p q).getD k [] = L.getD i [] := by
  have hlen := len_perm h1 h2
  unfold perm
  rw [List.getD_eq_getElem?_getD, List.getElem?_append_right (by rw [List.length_take]; omega), List.length_take, show min p L.length = p by omega, List.getElem?_map]
  unfold perm at hlen
  rw [List.length_append, List.length_take, List.length_map] at hlen
  have hlt : k - p < (order L p q).length := by omega
  rw [List.getElem?_eq_getElem hlt]
  have hm := List.getElem_mem hlt
  generalize (order L p q)[k - p] = i at hm
  refine ⟨i, ?_, ?_, rfl⟩
  all_goals
    unfold order rest at hm
    rcases List.mem_cons.mp hm with rfl | hm
    · omega
    · obtain ⟨j, hj, rfl⟩ := List.mem_map.mp hm
      have := List.mem_range.mp (List.mem_filter.mp hj).1
      omega
theorem len_clear {M : List Row} {p : Nat} : (clear M p).length = M.length := by unfold clear; rw [List.length_mapIdx]
theorem clear_get {M : List Row} {p k : Nat} (h : k < M.length) : (clear M p)[k]? = some (if k = p then own M p else less (M.getD k []) (own M p) (at2 M k p)) := by
  unfold clear
  rw [List.getElem?_mapIdx, List.getElem?_eq_getElem h]
  have e : M.getD k [] = M[k] := by rw [List.getD_eq_getElem?_getD, List.getElem?_eq_getElem h]; rfl
  unfold at2
  rw [e]
  rfl
theorem clear_at {M : List Row} {p k : Nat} (h : k < M.length) : (clear M p).getD k [] = if k = p then own M p else less (M.getD k []) (own M p) (at2 M k p) := by
  rw [List.getD_eq_getElem?_getD, clear_get h]; rfl
/-! ### what stays -/
def Ker (L : List Row) (v : Nat → Rat) : Prop := ∀ r ∈ L, dot r v = 0
def Wd (m : Nat) (L : List Row) : Prop := ∀ r ∈ L, r.length = m
theorem Wd.at_ {m : Nat} {L : List Row} (h : Wd m L) {k : Nat} (hk : k < L.length) : (L.getD k []).length = m := h _ (getD_mem hk)
theorem wd_perm {m : Nat} {L : List Row} {p q : Nat} (h : Wd m L) (h1 : p ≤ q) (h2 : q < L.length) : Wd m (perm L p q) := fun r hr => h r ((mem_perm h1 h2).mp hr)
theorem len_own {m : Nat} {M : List Row} {p : Nat} (h : Wd m M) (hp : p < M.length) : (own M p).length = m := by
  unfold own over; rw [List.length_map]; exact h.at_ hp
theorem wd_clear {m : Nat} {M : List Row} {p : Nat} (h : Wd m M) (hp : p < M.length) : Wd m (clear M p) := fun r hr => by
  obtain ⟨k, hk, rfl⟩ := List.getElem_of_mem hr
  have hk' : k < M.length := by rw [len_clear] at hk; exact hk
  have e := clear_get (p := p) hk'
  rw [List.getElem?_eq_getElem hk] at e
  rw [Option.some.inj e]
  split
  · exact len_own h hp
  · rw [len_less (by rw [h.at_ hk', len_own h hp])]; exact h.at_ hk'
theorem ker_clear {m : Nat} {M : List Row} {p : Nat} {v : Nat → Rat} (h : Wd m M) (hp : p < M.length) (hn : at2 M p p ≠ 0) : Ker (clear M p) v ↔ Ker M v := by
  have ho : dot (own M p) v = dot (M.getD p []) v / at2 M p p := dot_over
  constructor
  · intro hK
    have own0 : dot (own M p) v = 0 := by
      refine hK _ ?_
      have e := clear_get (p := p) hp
      rw [if_pos rfl] at e
      exact List.mem_of_getElem? e
    have p0 : dot (M.getD p []) v = 0 := by
      rw [own0, Rat.div_def] at ho
      have hi : (at2 M p p)⁻¹ * at2 M p p = 1 := Rat.inv_mul_cancel _ hn
      grind
    intro r hr
    obtain ⟨k, hk, rfl⟩ := List.getElem_of_mem hr
    have ek : M.getD k [] = M[k] := by rw [List.getD_eq_getElem?_getD, List.getElem?_eq_getElem hk]; rfl
    by_cases hkp : k = p
    · subst hkp; rw [← ek]; exact p0
    · have e := clear_get (p := p) hk
      rw [if_neg hkp] at e
      have z := hK _ (List.mem_of_getElem? e)
      rw [dot_less (by rw [h.at_ hk, len_own h hp]), own0, ek] at z
      grind
  · intro hK
    have own0 : dot (own M p) v = 0 := by rw [ho, hK _ (getD_mem hp), Rat.div_def, Rat.zero_mul]
    intro r hr
    obtain ⟨k, hk, rfl⟩ := List.getElem_of_mem hr
    have hk' : k < M.length := by rw [len_clear] at hk; exact hk
    have e := clear_get (p := p) hk'
    rw [List.getElem?_eq_getElem hk] at e
    rw [Option.some.inj e]
    split
    · exact own0
    · rw [dot_less (by rw [h.at_ hk', len_own h hp]), own0, hK _ (getD_mem hk')]
      grind
theorem ker_perm {L : List Row} {p q : Nat} {v : Nat → Rat} (h1 : p ≤ q) (h2 : q < L.length) : Ker (perm L p q) v ↔ Ker L v :=
  ⟨fun h r hr => h r ((mem_perm h1 h2).mpr hr), fun h r hr => h r ((mem_perm h1 h2).mp hr)⟩
/-- after j steps -/
structure Ok (n m : Nat) (L : List Row) (j : Nat) (M : List Row) : Prop where
  len : M.length = n
  wd : Wd m M
  ker : ∀ v, Ker M v ↔ Ker L v
  unit : ∀ k c, k < n → c < j → at2 M k c = if k = c then 1 else 0
theorem ok_step {n m : Nat} {L M N : List Row} {j : Nat} (hm : n ≤ m) (hj : j < n) (h : Ok n m L j M) (e : stp M j = some N) : Ok n m L (j + 1) N := by
  unfold stp at e
  cases hq : piv M j with
  | none => rw [hq] at e; cases e
  | some q =>
    rw [hq] at e
    have eN : clear (perm M j q) j = N := Option.some.inj e
    obtain ⟨q1, q2, q3⟩ := piv_spec hq
    have lp := len_perm q1 q2
    have wp := wd_perm h.wd q1 q2
    have hjp : j < (perm M j q).length := by rw [lp, h.len]; exact hj
    have hjj : at2 (perm M j q) j j ≠ 0 := by unfold at2; rw [perm_at (by rw [h.len]; omega)]; exact q3
    subst eN
    have low : ∀ k c, k < n → c < j → at2 (perm M j q) k c = if k = c then 1 else 0 := fun k c hk hc => by
      by_cases hkj : k < j
      · have e1 : at2 (perm M j q) k c = at2 M k c := by unfold at2; rw [perm_low hkj (by rw [h.len]; omega)]
        rw [e1]; exact h.unit k c hk hc
      · obtain ⟨i, i1, i2, i3⟩ := perm_high (L := M) q1 q2 (k := k) (by omega) (by rw [h.len]; exact hk)
        have e1 : at2 (perm M j q) k c = at2 M i c := by unfold at2; rw [i3]
        rw [e1, h.unit i c (by rw [← h.len]; exact i2) hc, if_neg (by omega), if_neg (by omega)]
    refine ⟨by rw [len_clear, lp, h.len], wd_clear wp hjp, fun v => (ker_clear wp hjp hjj).trans ((ker_perm q1 q2).trans (h.ker v)), fun k c hk hc => ?_⟩
    have hk' : k < (perm M j q).length := by rw [lp, h.len]; exact hk
    have own_c : ∀ c, (own (perm M j q) j).getD c 0 = at2 (perm M j q) j c / at2 (perm M j q) j j := fun c => over_at
    have e0 : at2 (clear (perm M j q) j) k c = (if k = j then own (perm M j q) j else less ((perm M j q).getD k []) (own (perm M j q) j) (at2 (perm M j q) k j)).getD c 0 := by
      conv => lhs; unfold at2
      rw [clear_at hk']
    rw [e0]
    have hl : ((perm M j q).getD k []).length = (own (perm M j q) j).length := by rw [wp.at_ hk', len_own wp hjp]
    by_cases hkj : k = j
    · subst hkj
      rw [if_pos rfl, own_c]
      by_cases hcj : c < k
      · rw [low k c hk hcj, if_neg (by omega), Rat.div_def, Rat.zero_mul]
      · have : c = k := by omega
        subst this
        rw [if_pos rfl, Rat.div_def, Rat.mul_inv_cancel _ hjj]
    · rw [if_neg hkj, less_at hl, own_c]
      have ea : ((perm M j q).getD k []).getD c 0 = at2 (perm M j q) k c := rfl
      rw [ea]
      by_cases hcj : c < j
      · rw [low k c hk hcj, low j c hj hcj, if_neg (show ¬ j = c by omega), Rat.div_def]
        grind
      · have : c = j := by omega
        subst this
        rw [if_neg hkj, Rat.div_def, Rat.mul_inv_cancel _ hjj]
        grind
theorem ok_redN {n m : Nat} {L : List Row} (hm : n ≤ m) (hl : L.length = n) (hw : Wd m L) : ∀ j M, j ≤ n → redN L j = some M → Ok n m L j M
  | 0, M, _, e => by
    cases e
    exact ⟨hl, hw, fun v => Iff.rfl, fun k c _ hc => absurd hc (by omega)⟩
  | j + 1, M, hj, e => by
    have e' : (redN L j).bind (fun M => stp M j) = some M := e
    cases h : redN L j with
    | none => rw [h] at e'; cases e'
    | some N =>
      rw [h] at e'
      exact ok_step hm (by omega) (ok_redN hm hl hw j N (by omega) h) e'
/-! ### sums -/
def sumN : Nat → (Nat → Rat) → Rat
  | 0, _ => 0
  | n + 1, f => sumN n f + f n
theorem sumN_congr {n : Nat} {f g : Nat → Rat} (h : ∀ i, i < n → f i = g i) : sumN n f = sumN n g := by
  induction n with
  | zero => rfl
  | succ n ih => show sumN n f + f n = sumN n g + g n; rw [ih fun i hi => h i (by omega), h n (by omega)]
theorem sumN_front (n : Nat) (f : Nat → Rat) : sumN (n + 1) f = f 0 + sumN n (fun i => f (i + 1)) := by
  induction n with
  | zero => show (0 : Rat) + f 0 = f 0 + 0; grind
  | succ n ih => show sumN (n + 1) f + f (n + 1) = f 0 + (sumN n (fun i => f (i + 1)) + f (n + 1)); rw [ih]; grind
theorem dot_sum : ∀ (r : Row) (v : Nat → Rat), dot r v = sumN r.length fun c => r.getD c 0 * v c
  | [], v => rfl
  | a :: r, v => by
    show a * v 0 + dot r _ = _
    rw [dot_sum r, List.length_cons, sumN_front]
    rfl
theorem sumN_zero {n : Nat} {f : Nat → Rat} (h : ∀ i, i < n → f i = 0) : sumN n f = 0 := by
  induction n with
  | zero => rfl
  | succ n ih => show sumN n f + f n = 0; rw [ih fun i hi => h i (by omega), h n (by omega)]; grind
theorem sumN_one {n a : Nat} {f : Nat → Rat} (ha : a < n) (h : ∀ i, i < n → i ≠ a → f i = 0) : sumN n f = f a := by
  induction n with
  | zero => omega
  | succ n ih =>
    show sumN n f + f n = f a
    by_cases e : a = n
    · subst e
      rw [sumN_zero fun i hi => h i (by omega) (by omega)]; grind
    · rw [ih (by omega) fun i hi hne => h i (by omega) hne, h n (by omega) (fun z => e z.symm)]; grind
theorem sumN_add {n : Nat} {f g : Nat → Rat} : sumN n (fun i => f i + g i) = sumN n f + sumN n g := by
  induction n with
  | zero => show (0 : Rat) = 0 + 0; grind
  | succ n ih => show sumN n _ + (f n + g n) = (sumN n f + f n) + (sumN n g + g n); rw [ih]; grind
theorem sumN_split {n k : Nat} {f : Nat → Rat} : sumN (n + k) f = sumN n f + sumN k (fun i => f (n + i)) := by
  induction k with
  | zero => show sumN n f = sumN n f + 0; grind
  | succ k ih => show sumN (n + k) f + f (n + k) = sumN n f + (sumN k (fun i => f (n + i)) + f (n + k)); rw [ih]; grind
theorem sumN_neg {n : Nat} {f : Nat → Rat} : sumN n (fun i => - f i) = - sumN n f := by
  induction n with
  | zero => show (0 : Rat) = -0; grind
  | succ n ih => show sumN n _ + - f n = - (sumN n f + f n); rw [ih]; grind
/-- no pivot: something but 0 is led to 0 -/
theorem red_none {n m : Nat} {L : List Row} (hm : n ≤ m) (hl : L.length = n) (hw : Wd m L) (h : red L = none) : ∃ v : Nat → Rat, (∃ c, c < n ∧ v c ≠ 0) ∧ (∀ c, n ≤ c → v c = 0) ∧ Ker L v := by
  have find : ∀ j, j ≤ n → redN L j = none → ∃ i M, i < n ∧ redN L i = some M ∧ stp M i = none := by
    intro j
    induction j with
    | zero => intro _ e; cases e
    | succ j ih =>
      intro hj e
      cases hh : redN L j with
      | none => exact ih (by omega) hh
      | some M =>
        have e' : (redN L j).bind (fun M => stp M j) = none := e
        rw [hh] at e'
        exact ⟨j, M, by omega, hh, e'⟩
  unfold red at h
  rw [hl] at h
  obtain ⟨i, M, hi, e, es⟩ := find n (Nat.le_refl n) h
  have O := ok_redN hm hl hw i M (by omega) e
  have hp : piv M i = none := by
    unfold stp at es
    cases hq : piv M i with
    | none => rfl
    | some q => rw [hq] at es; cases es
  have z := piv_none hp
  refine ⟨fun c => if c < i then - at2 M c i else if c = i then 1 else 0, ⟨i, hi, ?_⟩, fun c hc => ?_, ?_⟩
  · show (if i < i then _ else if i = i then (1 : Rat) else 0) ≠ 0
    rw [if_neg (by omega), if_pos rfl]; decide
  · show (if c < i then _ else if c = i then (1 : Rat) else 0) = 0
    rw [if_neg (by omega), if_neg (by omega)]
  · rw [← O.ker]
    intro r hr
    obtain ⟨k, hk, rfl⟩ := List.getElem_of_mem hr
    have hkn : k < n := by rw [← O.len]; exact hk
    have ek : M.getD k [] = M[k] := by rw [List.getD_eq_getElem?_getD, List.getElem?_eq_getElem hk]; rfl
    have wk : M[k].length = m := O.wd _ (List.getElem_mem hk)
    rw [dot_sum, wk]
    have ea : ∀ c, M[k].getD c 0 = at2 M k c := fun c => by unfold at2; rw [ek]
    by_cases hki : k < i
    · have e1 : (sumN m fun c => M[k].getD c 0 * (if c < i then - at2 M c i else if c = i then 1 else 0)) = sumN m (fun c => (if c = k then - at2 M k i else 0) + (if c = i then at2 M k i else 0)) := by
        refine sumN_congr fun c hc => ?_
        rw [ea]
        by_cases c1 : c < i
        · rw [if_pos c1, O.unit k c hkn c1]
          by_cases ck : c = k
          · subst ck
            rw [if_pos rfl, if_pos rfl, if_neg (by omega)]; grind
          · rw [if_neg (fun z => ck z.symm), if_neg ck, if_neg (by omega)]; grind
        · rw [if_neg c1]
          by_cases c2 : c = i
          · subst c2
            rw [if_pos rfl, if_pos rfl, if_neg (by omega)]; grind
          · rw [if_neg c2, if_neg c2, if_neg (by omega)]; grind
      rw [e1, sumN_add, sumN_one (a := k) (by omega) (fun c _ hc => if_neg hc), sumN_one (a := i) (by omega) (fun c _ hc => if_neg hc), if_pos rfl, if_pos rfl]
      grind
    · refine sumN_zero fun c hc => ?_
      rw [ea]
      by_cases c1 : c < i
      · rw [if_pos c1, O.unit k c hkn c1, if_neg (by omega)]; grind
      · rw [if_neg c1]
        by_cases c2 : c = i
        · subst c2
          rw [z k (by omega) hk]; grind
        · rw [if_neg c2]; grind
/-- all pivots: each of the first places is told by the later ones -/
theorem red_some {n m : Nat} {L M : List Row} (hm : n ≤ m) (hl : L.length = n) (hw : Wd m L) (h : red L = some M) : M.length = n ∧ Wd m M ∧ ∀ v, Ker L v ↔ ∀ k, k < n → v k + sumN (m - n) (fun i => at2 M k (n + i) * v (n + i)) = 0 := by
  unfold red at h
  rw [hl] at h
  have O := ok_redN hm hl hw n M (Nat.le_refl n) h
  refine ⟨O.len, O.wd, fun v => ?_⟩
  rw [← O.ker]
  have eq : ∀ k (hk : k < M.length), dot M[k] v = v k + sumN (m - n) (fun i => at2 M k (n + i) * v (n + i)) := fun k hk => by
    have hkn : k < n := by rw [← O.len]; exact hk
    have ek : M.getD k [] = M[k] := by rw [List.getD_eq_getElem?_getD, List.getElem?_eq_getElem hk]; rfl
    have ea : ∀ c, M[k].getD c 0 = at2 M k c := fun c => by unfold at2; rw [ek]
    have wk : M[k].length = m := O.wd _ (List.getElem_mem hk)
    rw [dot_sum, wk]
    conv => lhs; rw [show m = n + (m - n) by omega]
    rw [sumN_split]
    congr 1
    · rw [sumN_one (a := k) hkn]
      · rw [ea, O.unit k k hkn hkn, if_pos rfl]; grind
      · intro c hc hne
        rw [ea, O.unit k c hkn hc, if_neg (fun z => hne z.symm)]; grind
    · exact sumN_congr fun i _ => by rw [ea]
  constructor
  · intro hK k hk
    have hk' : k < M.length := by rw [O.len]; exact hk
    rw [← eq k hk']
    exact hK _ (List.getElem_mem hk')
  · intro hK r hr
    obtain ⟨k, hk, rfl⟩ := List.getElem_of_mem hr
    rw [eq k hk]
    exact hK k (by rw [← O.len]; exact hk)
end GM
/-! Sizes under elimination; determinants by first rows, up to four rows. -/
namespace GM
/-- a row over one bottom -/
def RowB (s : Nat) (r : Row) : Prop := ∃ d : Int, d ≠ 0 ∧ d.natAbs < 2 ^ s ∧ ∀ q ∈ r, ∃ n : Int, n.natAbs < 2 ^ s ∧ q = Rat.divInt n d
def AllB (s : Nat) (L : List Row) : Prop := ∀ r ∈ L, RowB s r
theorem RowB.lt {s : Nat} {r : Row} (h : RowB s r) : ∀ q ∈ r, RM.Lt q s := fun q hq => by
  obtain ⟨d, d0, d1, h⟩ := h
  obtain ⟨n, n1, rfl⟩ := h q hq
  exact RM.lt_divInt d0 n1 d1
theorem RowB.mono {s t : Nat} {r : Row} (h : RowB s r) (k : s ≤ t) : RowB t r := by
  obtain ⟨d, d0, d1, h⟩ := h
  refine ⟨d, d0, RM.pow_le d1 k, fun q hq => ?_⟩
  obtain ⟨n, n1, e⟩ := h q hq
  exact ⟨n, RM.pow_le n1 k, e⟩
theorem RowB.at_ {s : Nat} {r : Row} (h : RowB s r) {c : Nat} (hc : c < r.length) : ∃ q, q ∈ r ∧ q = r.getD c 0 := ⟨r[c], List.getElem_mem hc, by rw [List.getD_eq_getElem?_getD, List.getElem?_eq_getElem hc]; rfl⟩
theorem div_num {n d k : Int} (hd : d ≠ 0) (hk : k ≠ 0) : Rat.divInt n d / Rat.divInt k d = Rat.divInt n k := by
  rw [Rat.div_def, Rat.inv_divInt, Rat.divInt_mul_divInt, Rat.divInt_eq_divInt_iff (Int.mul_ne_zero hd hk) hk]
  grind
theorem rowB_over {s : Nat} {r : Row} {c : Nat} (h : RowB s r) (hc : c < r.length) (hn : r.getD c 0 ≠ 0) : RowB s (over r (r.getD c 0)) := by
  obtain ⟨q0, m0, e0⟩ := h.at_ hc
  obtain ⟨d, d0, d1, h⟩ := h
  obtain ⟨k, k1, ek⟩ := h q0 m0
  have hk : k ≠ 0 := fun z => hn (by rw [← e0, ek, z, Rat.zero_divInt])
  refine ⟨k, hk, k1, fun q hq => ?_⟩
  obtain ⟨a, ha, rfl⟩ := List.mem_map.mp hq
  obtain ⟨n, n1, e⟩ := h a ha
  refine ⟨n, n1, ?_⟩
  rw [← e0, ek, e]
  exact div_num d0 hk
theorem mem_zipWith {α β γ : Type} {f : α → β → γ} : ∀ {l : List α} {k : List β} {z : γ}, z ∈ List.zipWith f l k → ∃ a ∈ l, ∃ b ∈ k, z = f a b
  | [], k, z, h => by simp at h
  | a :: l, [], z, h => by simp at h
  | a :: l, b :: k, z, h => by
    rcases List.mem_cons.mp h with rfl | h
    · exact ⟨a, List.mem_cons_self, b, List.mem_cons_self, rfl⟩
    · obtain ⟨x, hx, y, hy, e⟩ := mem_zipWith h
      exact ⟨x, List.mem_cons_of_mem _ hx, y, List.mem_cons_of_mem _ hy, e⟩
theorem rowB_less {s : Nat} {r o : Row} {c : Nat} (h : RowB s r) (k : RowB s o) (hc : c < r.length) : RowB (2 * s + 1) (less r o (r.getD c 0)) := by
  obtain ⟨q0, m0, e0⟩ := h.at_ hc
  obtain ⟨d, d0, d1, h⟩ := h
  obtain ⟨e, e0', e1, k⟩ := k
  obtain ⟨f, f1, ef⟩ := h q0 m0
  refine ⟨d * e, Int.mul_ne_zero d0 e0', RM.pow_le (RM.pow_mul_lt d1 e1) (by omega), fun q hq => ?_⟩
  obtain ⟨a, ha, b, hb, rfl⟩ := mem_zipWith hq
  obtain ⟨n, n1, en⟩ := h a ha
  obtain ⟨m, m1, em⟩ := k b hb
  refine ⟨n * e - m * f, RM.pow_le (RM.pow_sub_lt (RM.pow_mul_lt n1 e1) (RM.pow_mul_lt m1 f1)) (by omega), ?_⟩
  rw [← e0, ef, en, em, Rat.divInt_mul_divInt]
  have es : ∀ (p q : Rat), p - q = p + -q := fun p q => Rat.sub_eq_add_neg p q
  rw [es, Rat.neg_divInt, Rat.divInt_add_divInt _ _ d0 (Int.mul_ne_zero e0' d0), Rat.divInt_eq_divInt_iff (Int.mul_ne_zero d0 (Int.mul_ne_zero e0' d0)) (Int.mul_ne_zero d0 e0')]
  grind
theorem allB_perm {s : Nat} {L : List Row} {p q : Nat} (h : AllB s L) (h1 : p ≤ q) (h2 : q < L.length) : AllB s (perm L p q) := fun r hr => h r ((mem_perm h1 h2).mp hr)
theorem allB_clear {s m : Nat} {M : List Row} {p : Nat} (h : AllB s M) (w : Wd m M) (hp : p < M.length) (hpm : p < m) (hn : at2 M p p ≠ 0) : RowB s (own M p) ∧ AllB (2 * s + 1) (clear M p) := by
  have ho : RowB s (own M p) := rowB_over (h _ (getD_mem hp)) (by rw [w.at_ hp]; exact hpm) hn
  refine ⟨ho, fun r hr => ?_⟩
  obtain ⟨k, hk, rfl⟩ := List.getElem_of_mem hr
  have hk' : k < M.length := by rw [len_clear] at hk; exact hk
  have e := clear_get (p := p) hk'
  rw [List.getElem?_eq_getElem hk] at e
  rw [Option.some.inj e]
  split
  · exact ho.mono (by omega)
  · exact rowB_less (h _ (getD_mem hk')) ho (by rw [w.at_ hk']; exact hpm)
def gr (s : Nat) : Nat → Nat
  | 0 => s
  | j + 1 => 2 * gr s j + 1
theorem gr_eq (s j : Nat) : gr s j + 1 = 2 ^ j * (s + 1) := by
  induction j with
  | zero => show s + 1 = 1 * (s + 1); omega
  | succ j ih => show 2 * gr s j + 1 + 1 = _; rw [Nat.pow_succ, Nat.mul_right_comm, ← ih]; omega
theorem allB_redN {s n m : Nat} {L : List Row} (hm : n ≤ m) (hl : L.length = n) (hw : Wd m L) (hb : AllB s L) : ∀ j M, j ≤ n → redN L j = some M → AllB (gr s j) M
  | 0, M, _, e => by cases e; exact hb
  | j + 1, M, hj, e => by
    have e' : (redN L j).bind (fun M => stp M j) = some M := e
    cases h : redN L j with
    | none => rw [h] at e'; cases e'
    | some N =>
      rw [h] at e'
      have O := ok_redN hm hl hw j N (by omega) h
      have B := allB_redN hm hl hw hb j N (by omega) h
      have e2 : stp N j = some M := e'
      unfold stp at e2
      cases hq : piv N j with
      | none => rw [hq] at e2; cases e2
      | some q =>
        rw [hq] at e2
        cases e2
        obtain ⟨q1, q2, q3⟩ := piv_spec hq
        refine (allB_clear (allB_perm B q1 q2) (wd_perm O.wd q1 q2) (by rw [len_perm q1 q2, O.len]; omega) (by omega) ?_).2
        unfold at2
        rw [perm_at (by rw [O.len]; omega)]
        exact q3
/-! ### one bottom for many numbers -/
def Cd (D M : Nat) (q : Rat) : Prop := ∃ n : Int, n.natAbs ≤ M ∧ q = Rat.divInt n D
theorem Cd.mono {D M N : Nat} {q : Rat} (h : Cd D M q) (k : M ≤ N) : Cd D N q := by obtain ⟨n, h1, h2⟩ := h; exact ⟨n, by omega, h2⟩
theorem Cd.zero (D M : Nat) : Cd D M 0 := ⟨0, by omega, (Rat.zero_divInt _).symm⟩
theorem Cd.add {D M N : Nat} {p q : Rat} (hD : 0 < D) (h : Cd D M p) (k : Cd D N q) : Cd D (M + N) (p + q) := by
  obtain ⟨n, n1, rfl⟩ := h
  obtain ⟨m, m1, rfl⟩ := k
  have d0 : (D : Int) ≠ 0 := by omega
  refine ⟨n + m, by omega, ?_⟩
  rw [Rat.divInt_add_divInt _ _ d0 d0, Rat.divInt_eq_divInt_iff (Int.mul_ne_zero d0 d0) d0]
  grind
theorem Cd.mul {D E M N : Nat} {p q : Rat} (h : Cd D M p) (k : Cd E N q) : Cd (D * E) (M * N) (p * q) := by
  obtain ⟨n, n1, rfl⟩ := h
  obtain ⟨m, m1, rfl⟩ := k
  refine ⟨n * m, by rw [Int.natAbs_mul]; exact Nat.mul_le_mul n1 m1, ?_⟩
  rw [Rat.divInt_mul_divInt]
  rfl
theorem Cd.lift {D E M : Nat} {p : Rat} (hD : 0 < D) (hE : 0 < E) (h : Cd D M p) : Cd (D * E) (M * E) p := by
  obtain ⟨n, n1, rfl⟩ := h
  refine ⟨n * E, by rw [Int.natAbs_mul]; exact Nat.mul_le_mul n1 (by omega), ?_⟩
  have d0 : (D : Int) ≠ 0 := by omega
  have e0 : (E : Int) ≠ 0 := by omega
  show _ = Rat.divInt (n * E) ((D * E : Nat) : Int)
  rw [show ((D * E : Nat) : Int) = (D : Int) * E by rfl, Rat.divInt_eq_divInt_iff d0 (Int.mul_ne_zero d0 e0)]
  grind
theorem Cd.lt {D M s : Nat} {p : Rat} (hD : 0 < D) (h : Cd D M p) (h1 : D < 2 ^ s) (h2 : M < 2 ^ s) : RM.Lt p s := by
  obtain ⟨n, n1, rfl⟩ := h
  exact RM.lt_divInt (by omega) (by omega) (by omega)
theorem rowB_cd {D M s : Nat} {r : Row} (hD : 0 < D) (h : ∀ q ∈ r, Cd D M q) (h1 : D < 2 ^ s) (h2 : M < 2 ^ s) : RowB s r := by
  refine ⟨D, by omega, by omega, fun q hq => ?_⟩
  obtain ⟨n, n1, e⟩ := h q hq
  exact ⟨n, by omega, e⟩
/-! ### determinants -/
def cut (k : Nat) (L : List Row) : List Row := L.map fun r => r.take k ++ r.drop (k + 1)
def sgn : Nat → Rat
  | 0 => 1
  | k + 1 => - sgn k
def det : Nat → List Row → Rat
  | 0, _ => 1
  | n + 1, L => sumN (n + 1) fun k => sgn k * ((L.getD 0 []).getD k 0 * det n (cut k (L.drop 1)))
theorem len1 {α : Type} {l : List α} (h : l.length = 1) : ∃ a, l = [a] := by
  match l, h with
  | [a], _ => exact ⟨a, rfl⟩
theorem len2 {α : Type} {l : List α} (h : l.length = 2) : ∃ a b, l = [a, b] := by
  match l, h with
  | [a, b], _ => exact ⟨a, b, rfl⟩
theorem len3 {α : Type} {l : List α} (h : l.length = 3) : ∃ a b c, l = [a, b, c] := by
  match l, h with
  | [a, b, c], _ => exact ⟨a, b, c, rfl⟩
theorem len4 {α : Type} {l : List α} (h : l.length = 4) : ∃ a b c d, l = [a, b, c, d] := by
  match l, h with
  | [a, b, c, d], _ => exact ⟨a, b, c, d, rfl⟩
theorem det1 (a : Rat) : det 1 [[a]] = a := by
  show (0 : Rat) + 1 * (a * 1) = a; grind
theorem det2 (a b c d : Rat) : det 2 [[a, b], [c, d]] = a * d - b * c := by
  show (0 + 1 * (a * det 1 [[d]])) + -1 * (b * det 1 [[c]]) = _
  rw [det1, det1]; grind
theorem det3 (a b c d e f g h i : Rat) : det 3 [[a, b, c], [d, e, f], [g, h, i]] = a * (e * i - f * h) - b * (d * i - f * g) + c * (d * h - e * g) := by
  show ((0 + 1 * (a * det 2 [[e, f], [h, i]])) + -1 * (b * det 2 [[d, f], [g, i]])) + - -1 * (c * det 2 [[d, e], [g, h]]) = _
  rw [det2, det2, det2]; grind
theorem det4 (a1 a2 a3 a4 b1 b2 b3 b4 c1 c2 c3 c4 e1 e2 e3 e4 : Rat) : det 4 [[a1, a2, a3, a4], [b1, b2, b3, b4], [c1, c2, c3, c4], [e1, e2, e3, e4]] =
    a1 * det 3 [[b2, b3, b4], [c2, c3, c4], [e2, e3, e4]] - a2 * det 3 [[b1, b3, b4], [c1, c3, c4], [e1, e3, e4]] + a3 * det 3 [[b1, b2, b4], [c1, c2, c4], [e1, e2, e4]] - a4 * det 3 [[b1, b2, b3], [c1, c2, c3], [e1, e2, e3]] := by
  show (((0 + 1 * (a1 * det 3 [[b2, b3, b4], [c2, c3, c4], [e2, e3, e4]])) + -1 * (a2 * det 3 [[b1, b3, b4], [c1, c3, c4], [e1, e3, e4]])) + - -1 * (a3 * det 3 [[b1, b2, b4], [c1, c2, c4], [e1, e2, e4]])) + - - -1 * (a4 * det 3 [[b1, b2, b3], [c1, c2, c3], [e1, e2, e3]]) = _
  grind
end GM
namespace GM
theorem dot_lin : ∀ (r : Row) (a b : Rat) (u v : Nat → Rat), dot r (fun c => a * u c + b * v c) = a * dot r u + b * dot r v
  | [], a, b, u, v => by show (0 : Rat) = a * 0 + b * 0; grind
  | x :: r, a, b, u, v => by
    show x * (a * u 0 + b * v 0) + dot r (fun c => a * u (c + 1) + b * v (c + 1)) = a * (x * u 0 + dot r _) + b * (x * v 0 + dot r _)
    rw [dot_lin r a b]; grind
def ins (j : Nat) (w : Nat → Rat) : Nat → Rat := fun c => if c < j then w c else if c = j then 0 else w (c - 1)
theorem dot_congr : ∀ {r : Row} {u v : Nat → Rat}, (∀ c, c < r.length → u c = v c) → dot r u = dot r v
  | [], u, v, _ => rfl
  | x :: r, u, v, h => by
    show x * u 0 + dot r _ = x * v 0 + dot r _
    rw [h 0 (by rw [List.length_cons]; omega), dot_congr (r := r) (u := fun c => u (c + 1)) (v := fun c => v (c + 1)) fun c hc => h (c + 1) (by rw [List.length_cons]; omega)]
theorem dot_ins : ∀ (j : Nat) (r : Row) (w : Nat → Rat), j < r.length → dot r (ins j w) = dot (r.take j ++ r.drop (j + 1)) w
  | 0, [], w, h => by simp at h
  | 0, x :: r, w, _ => by
    show x * ins 0 w 0 + dot r (fun c => ins 0 w (c + 1)) = dot r w
    have e : ins 0 w 0 = 0 := by unfold ins; rw [if_neg (by omega), if_pos rfl]
    rw [e, dot_congr (v := w) fun c _ => by unfold ins; rw [if_neg (by omega), if_neg (by omega)]; rfl]
    grind
  | j + 1, [], w, h => by simp at h
  | j + 1, x :: r, w, h => by
    show x * ins (j + 1) w 0 + dot r (fun c => ins (j + 1) w (c + 1)) = x * w 0 + dot (r.take j ++ r.drop (j + 1)) (fun c => w (c + 1))
    have e : ins (j + 1) w 0 = w 0 := by unfold ins; rw [if_pos (by omega)]
    rw [e, ← dot_ins j r (fun c => w (c + 1)) (by simpa using h)]
    congr 1
    refine dot_congr fun c _ => ?_
    unfold ins
    by_cases h1 : c < j
    · rw [if_pos (by omega), if_pos h1]
    · rw [if_neg (by omega), if_neg h1]
      by_cases h2 : c = j
      · rw [if_pos (by omega), if_pos h2]
      · rw [if_neg (by omega), if_neg h2]
        show w c = w (c - 1 + 1)
        rw [show c - 1 + 1 = c by omega]
/-- a row twice -/
theorem det_twice {n : Nat} {r : Row} {R : List Row} (hn : n + 1 ≤ 4) (hl : R.length = n) (hw : Wd (n + 1) R) (hr : r ∈ R) : det (n + 1) (r :: R) = 0 := by
  have d2 := det2
  match n, hn with
  | 0, _ =>
    rw [List.length_eq_zero_iff.mp hl] at hr
    cases hr
  | 1, _ =>
    obtain ⟨x, rfl⟩ := len1 hl
    obtain ⟨a, b, rfl⟩ := len2 (hw x (by simp))
    have e : r = [a, b] := by simpa using hr
    subst e
    rw [det2]; grind
  | 2, _ =>
    obtain ⟨x, y, rfl⟩ := len2 hl
    obtain ⟨a, b, c, rfl⟩ := len3 (hw x (by simp))
    obtain ⟨d, e, f, rfl⟩ := len3 (hw y (by simp))
    have h : r = [a, b, c] ∨ r = [d, e, f] := by simpa using hr
    rcases h with rfl | rfl <;> rw [det3] <;> grind
  | 3, _ =>
    obtain ⟨x, y, z, rfl⟩ := len3 hl
    obtain ⟨a1, a2, a3, a4, rfl⟩ := len4 (hw x (by simp))
    obtain ⟨b1, b2, b3, b4, rfl⟩ := len4 (hw y (by simp))
    obtain ⟨c1, c2, c3, c4, rfl⟩ := len4 (hw z (by simp))
    have h : r = [a1, a2, a3, a4] ∨ r = [b1, b2, b3, b4] ∨ r = [c1, c2, c3, c4] := by simpa using hr
    rcases h with rfl | rfl | rfl <;> rw [det4, det3, det3, det3, det3] <;> grind
  | n + 4, h => omega
theorem wd_cut {n k : Nat} {R : List Row} (h : Wd (n + 1) R) (hk : k < n + 1) : Wd n (cut k R) := fun r hr => by
  obtain ⟨x, hx, rfl⟩ := List.mem_map.mp hr
  have := h x hx
  rw [List.length_append, List.length_take, List.length_drop]; omega
theorem det_zero : ∀ (n : Nat) (A : List Row), n ≤ 4 → A.length = n → Wd n A → det n A = 0 → ∃ v : Nat → Rat, (∃ c, c < n ∧ v c ≠ 0) ∧ Ker A v
  | 0, A, _, _, _, h => by
    have : (1 : Rat) = 0 := h
    exact absurd this (by decide)
  | n + 1, A, hn, hl, hw, h => by
    match A, hl with
    | a :: R, hl =>
      have hl' : R.length = n := by simpa using hl
      have hwR : Wd (n + 1) R := fun r hr => hw r (List.mem_cons_of_mem _ hr)
      have ha : a.length = n + 1 := hw a List.mem_cons_self
      have key : ∀ r : Row, r.length = n + 1 → dot r (fun k => sgn k * det n (cut k R)) = det (n + 1) (r :: R) := fun r hr => by
        rw [dot_sum, hr]
        show _ = sumN (n + 1) fun k => sgn k * (r.getD k 0 * det n (cut k R))
        exact sumN_congr fun k _ => by grind
      by_cases hc : ∃ k, k < n + 1 ∧ det n (cut k R) ≠ 0
      · obtain ⟨k, hk, hd⟩ := hc
        refine ⟨fun k => sgn k * det n (cut k R), ⟨k, hk, ?_⟩, fun r hr => ?_⟩
        · have sg : ∀ k, sgn k = 1 ∨ sgn k = -1 := fun k => by
            induction k with
            | zero => exact .inl rfl
            | succ k ih =>
              rcases ih with e | e
              · exact .inr (by show - sgn k = -1; rw [e])
              · exact .inl (by show - sgn k = 1; rw [e]; decide)
          rcases sg k with e | e
          · show sgn k * _ ≠ 0; rw [e]; grind
          · show sgn k * _ ≠ 0; rw [e]; grind
        · rw [key r (hw r hr)]
          rcases List.mem_cons.mp hr with rfl | hr
          · exact h
          · exact det_twice hn hl' hwR hr
      · have hz : ∀ k, k < n + 1 → det n (cut k R) = 0 := fun k hk => Classical.byContradiction fun hd => hc ⟨k, hk, hd⟩
        have lc : ∀ k, (cut k R).length = n := fun k => by unfold cut; rw [List.length_map, hl']
        obtain ⟨u, ⟨j, hj, hu⟩, ku⟩ := det_zero n (cut n R) (by omega) (lc n) (wd_cut hwR (by omega)) (hz n (by omega))
        obtain ⟨w, ⟨i, hi, hwi⟩, kw⟩ := det_zero n (cut j R) (by omega) (lc j) (wd_cut hwR (by omega)) (hz j (by omega))
        have kU : ∀ r ∈ R, dot r (ins n u) = 0 := fun r hr => by
          rw [dot_ins n r u (by rw [hwR r hr]; omega)]
          exact ku _ (List.mem_map.mpr ⟨r, hr, rfl⟩)
        have kW : ∀ r ∈ R, dot r (ins j w) = 0 := fun r hr => by
          rw [dot_ins j r w (by rw [hwR r hr]; omega)]
          exact kw _ (List.mem_map.mpr ⟨r, hr, rfl⟩)
        have uj : ins n u j = u j := by unfold ins; rw [if_pos hj]
        have wj : ins j w j = 0 := by unfold ins; rw [if_neg (by omega), if_pos rfl]
        by_cases h0 : dot a (ins n u) = 0
        · refine ⟨ins n u, ⟨j, by omega, by rw [uj]; exact hu⟩, fun r hr => ?_⟩
          rcases List.mem_cons.mp hr with rfl | hr
          · exact h0
          · exact kU r hr
        · refine ⟨fun c => dot a (ins j w) * ins n u c + (- dot a (ins n u)) * ins j w c, ?_, fun r hr => ?_⟩
          · by_cases h1 : dot a (ins j w) = 0
            · have hW : ∃ c, c < n + 1 ∧ ins j w c ≠ 0 := by
                by_cases hij : i < j
                · exact ⟨i, by omega, by unfold ins; rw [if_pos hij]; exact hwi⟩
                · refine ⟨i + 1, by omega, ?_⟩
                  unfold ins
                  rw [if_neg (by omega), if_neg (by omega)]
                  exact hwi
              obtain ⟨c, hc, hne⟩ := hW
              refine ⟨c, hc, ?_⟩
              show dot a (ins j w) * ins n u c + (- dot a (ins n u)) * ins j w c ≠ 0
              rw [h1]
              intro z
              have z2 : dot a (ins n u) * ins j w c = 0 := by grind
              rcases Rat.mul_eq_zero.mp z2 with z3 | z3
              · exact h0 z3
              · exact hne z3
            · refine ⟨j, by omega, ?_⟩
              show dot a (ins j w) * ins n u j + (- dot a (ins n u)) * ins j w j ≠ 0
              rw [uj, wj]
              intro z
              have z2 : dot a (ins j w) * u j = 0 := by grind
              rcases Rat.mul_eq_zero.mp z2 with z3 | z3
              · exact h1 z3
              · exact hu z3
          · rw [dot_lin]
            rcases List.mem_cons.mp hr with rfl | hr
            · grind
            · rw [kU r hr, kW r hr]; grind
theorem mul_no {a b : Rat} (h : a * b = 0) (hb : b ≠ 0) : a = 0 := by
  rcases Rat.mul_eq_zero.mp h with z | z
  · exact z
  · exact absurd z hb
theorem det_ker {n : Nat} {A : List Row} {v : Nat → Rat} (hn : n ≤ 4) (hl : A.length = n) (hw : Wd n A) (hv : ∃ c, c < n ∧ v c ≠ 0) (hk : Ker A v) : det n A = 0 := by
  obtain ⟨c, hc, hv⟩ := hv
  match n, hn with
  | 0, _ => omega
  | 1, _ =>
    obtain ⟨x, rfl⟩ := len1 hl
    obtain ⟨a, rfl⟩ := len1 (hw x (by simp))
    have e : a * v 0 + 0 = 0 := hk [a] (by simp)
    have : c = 0 := by omega
    subst this
    rw [det1]
    exact mul_no (by grind) hv
  | 2, _ =>
    obtain ⟨x, y, rfl⟩ := len2 hl
    obtain ⟨a, b, rfl⟩ := len2 (hw x (by simp))
    obtain ⟨d, e, rfl⟩ := len2 (hw y (by simp))
    have e1 : a * v 0 + (b * v 1 + 0) = 0 := hk [a, b] (by simp)
    have e2 : d * v 0 + (e * v 1 + 0) = 0 := hk [d, e] (by simp)
    rw [det2]
    match c, hc with
    | 0, _ => exact mul_no (b := v 0) (by grind) hv
    | 1, _ => exact mul_no (b := v 1) (by grind) hv
  | 3, _ =>
    obtain ⟨x, y, z, rfl⟩ := len3 hl
    obtain ⟨a1, a2, a3, rfl⟩ := len3 (hw x (by simp))
    obtain ⟨b1, b2, b3, rfl⟩ := len3 (hw y (by simp))
    obtain ⟨c1, c2, c3, rfl⟩ := len3 (hw z (by simp))
    have e1 : a1 * v 0 + (a2 * v 1 + (a3 * v 2 + 0)) = 0 := hk [a1, a2, a3] (by simp)
    have e2 : b1 * v 0 + (b2 * v 1 + (b3 * v 2 + 0)) = 0 := hk [b1, b2, b3] (by simp)
    have e3 : c1 * v 0 + (c2 * v 1 + (c3 * v 2 + 0)) = 0 := hk [c1, c2, c3] (by simp)
    rw [det3]
    match c, hc with
    | 0, _ =>
      have i0 : (a1 * (b2 * c3 - b3 * c2) - a2 * (b1 * c3 - b3 * c1) + a3 * (b1 * c2 - b2 * c1)) * v 0 = ((b2 * c3 - b3 * c2)) * (a1 * v 0 + (a2 * v 1 + (a3 * v 2 + 0))) + (-(a2 * c3 - a3 * c2)) * (b1 * v 0 + (b2 * v 1 + (b3 * v 2 + 0))) + ((a2 * b3 - a3 * b2)) * (c1 * v 0 + (c2 * v 1 + (c3 * v 2 + 0))) := by grind
      rw [e1, e2, e3] at i0
      exact mul_no (b := v 0) (i0.trans (by grind)) hv
    | 1, _ =>
      have i0 : (a1 * (b2 * c3 - b3 * c2) - a2 * (b1 * c3 - b3 * c1) + a3 * (b1 * c2 - b2 * c1)) * v 1 = (-(b1 * c3 - b3 * c1)) * (a1 * v 0 + (a2 * v 1 + (a3 * v 2 + 0))) + ((a1 * c3 - a3 * c1)) * (b1 * v 0 + (b2 * v 1 + (b3 * v 2 + 0))) + (-(a1 * b3 - a3 * b1)) * (c1 * v 0 + (c2 * v 1 + (c3 * v 2 + 0))) := by grind
      rw [e1, e2, e3] at i0
      exact mul_no (b := v 1) (i0.trans (by grind)) hv
    | 2, _ =>
      have i0 : (a1 * (b2 * c3 - b3 * c2) - a2 * (b1 * c3 - b3 * c1) + a3 * (b1 * c2 - b2 * c1)) * v 2 = ((b1 * c2 - b2 * c1)) * (a1 * v 0 + (a2 * v 1 + (a3 * v 2 + 0))) + (-(a1 * c2 - a2 * c1)) * (b1 * v 0 + (b2 * v 1 + (b3 * v 2 + 0))) + ((a1 * b2 - a2 * b1)) * (c1 * v 0 + (c2 * v 1 + (c3 * v 2 + 0))) := by grind
      rw [e1, e2, e3] at i0
      exact mul_no (b := v 2) (i0.trans (by grind)) hv
  | 4, _ =>
    obtain ⟨x, y, z, w, rfl⟩ := len4 hl
    obtain ⟨a1, a2, a3, a4, rfl⟩ := len4 (hw x (by simp))
    obtain ⟨b1, b2, b3, b4, rfl⟩ := len4 (hw y (by simp))
    obtain ⟨c1, c2, c3, c4, rfl⟩ := len4 (hw z (by simp))
    obtain ⟨d1, d2, d3, d4, rfl⟩ := len4 (hw w (by simp))
    have e1 : a1 * v 0 + (a2 * v 1 + (a3 * v 2 + (a4 * v 3 + 0))) = 0 := hk [a1, a2, a3, a4] (by simp)
    have e2 : b1 * v 0 + (b2 * v 1 + (b3 * v 2 + (b4 * v 3 + 0))) = 0 := hk [b1, b2, b3, b4] (by simp)
    have e3 : c1 * v 0 + (c2 * v 1 + (c3 * v 2 + (c4 * v 3 + 0))) = 0 := hk [c1, c2, c3, c4] (by simp)
    have e4 : d1 * v 0 + (d2 * v 1 + (d3 * v 2 + (d4 * v 3 + 0))) = 0 := hk [d1, d2, d3, d4] (by simp)
    rw [det4, det3, det3, det3, det3]
    match c, hc with
    | 0, _ =>
      have i0 : (a1 * (b2 * (c3 * d4 - c4 * d3) - b3 * (c2 * d4 - c4 * d2) + b4 * (c2 * d3 - c3 * d2)) - a2 * (b1 * (c3 * d4 - c4 * d3) - b3 * (c1 * d4 - c4 * d1) + b4 * (c1 * d3 - c3 * d1)) + a3 * (b1 * (c2 * d4 - c4 * d2) - b2 * (c1 * d4 - c4 * d1) + b4 * (c1 * d2 - c2 * d1)) - a4 * (b1 * (c2 * d3 - c3 * d2) - b2 * (c1 * d3 - c3 * d1) + b3 * (c1 * d2 - c2 * d1))) * v 0 = ((b2 * (c3 * d4 - c4 * d3) - b3 * (c2 * d4 - c4 * d2) + b4 * (c2 * d3 - c3 * d2))) * (a1 * v 0 + (a2 * v 1 + (a3 * v 2 + (a4 * v 3 + 0)))) + (-(a2 * (c3 * d4 - c4 * d3) - a3 * (c2 * d4 - c4 * d2) + a4 * (c2 * d3 - c3 * d2))) * (b1 * v 0 + (b2 * v 1 + (b3 * v 2 + (b4 * v 3 + 0)))) + ((a2 * (b3 * d4 - b4 * d3) - a3 * (b2 * d4 - b4 * d2) + a4 * (b2 * d3 - b3 * d2))) * (c1 * v 0 + (c2 * v 1 + (c3 * v 2 + (c4 * v 3 + 0)))) + (-(a2 * (b3 * c4 - b4 * c3) - a3 * (b2 * c4 - b4 * c2) + a4 * (b2 * c3 - b3 * c2))) * (d1 * v 0 + (d2 * v 1 + (d3 * v 2 + (d4 * v 3 + 0)))) := by grind
      rw [e1, e2, e3, e4] at i0
      exact mul_no (b := v 0) (i0.trans (by grind)) hv
    | 1, _ =>
      have i0 : (a1 * (b2 * (c3 * d4 - c4 * d3) - b3 * (c2 * d4 - c4 * d2) + b4 * (c2 * d3 - c3 * d2)) - a2 * (b1 * (c3 * d4 - c4 * d3) - b3 * (c1 * d4 - c4 * d1) + b4 * (c1 * d3 - c3 * d1)) + a3 * (b1 * (c2 * d4 - c4 * d2) - b2 * (c1 * d4 - c4 * d1) + b4 * (c1 * d2 - c2 * d1)) - a4 * (b1 * (c2 * d3 - c3 * d2) - b2 * (c1 * d3 - c3 * d1) + b3 * (c1 * d2 - c2 * d1))) * v 1 = (-(b1 * (c3 * d4 - c4 * d3) - b3 * (c1 * d4 - c4 * d1) + b4 * (c1 * d3 - c3 * d1))) * (a1 * v 0 + (a2 * v 1 + (a3 * v 2 + (a4 * v 3 + 0)))) + ((a1 * (c3 * d4 - c4 * d3) - a3 * (c1 * d4 - c4 * d1) + a4 * (c1 * d3 - c3 * d1))) * (b1 * v 0 + (b2 * v 1 + (b3 * v 2 + (b4 * v 3 + 0)))) + (-(a1 * (b3 * d4 - b4 * d3) - a3 * (b1 * d4 - b4 * d1) + a4 * (b1 * d3 - b3 * d1))) * (c1 * v 0 + (c2 * v 1 + (c3 * v 2 + (c4 * v 3 + 0)))) + ((a1 * (b3 * c4 - b4 * c3) - a3 * (b1 * c4 - b4 * c1) + a4 * (b1 * c3 - b3 * c1))) * (d1 * v 0 + (d2 * v 1 + (d3 * v 2 + (d4 * v 3 + 0)))) := by grind
      rw [e1, e2, e3, e4] at i0
      exact mul_no (b := v 1) (i0.trans (by grind)) hv
    | 2, _ =>
      have i0 : (a1 * (b2 * (c3 * d4 - c4 * d3) - b3 * (c2 * d4 - c4 * d2) + b4 * (c2 * d3 - c3 * d2)) - a2 * (b1 * (c3 * d4 - c4 * d3) - b3 * (c1 * d4 - c4 * d1) + b4 * (c1 * d3 - c3 * d1)) + a3 * (b1 * (c2 * d4 - c4 * d2) - b2 * (c1 * d4 - c4 * d1) + b4 * (c1 * d2 - c2 * d1)) - a4 * (b1 * (c2 * d3 - c3 * d2) - b2 * (c1 * d3 - c3 * d1) + b3 * (c1 * d2 - c2 * d1))) * v 2 = ((b1 * (c2 * d4 - c4 * d2) - b2 * (c1 * d4 - c4 * d1) + b4 * (c1 * d2 - c2 * d1))) * (a1 * v 0 + (a2 * v 1 + (a3 * v 2 + (a4 * v 3 + 0)))) + (-(a1 * (c2 * d4 - c4 * d2) - a2 * (c1 * d4 - c4 * d1) + a4 * (c1 * d2 - c2 * d1))) * (b1 * v 0 + (b2 * v 1 + (b3 * v 2 + (b4 * v 3 + 0)))) + ((a1 * (b2 * d4 - b4 * d2) - a2 * (b1 * d4 - b4 * d1) + a4 * (b1 * d2 - b2 * d1))) * (c1 * v 0 + (c2 * v 1 + (c3 * v 2 + (c4 * v 3 + 0)))) + (-(a1 * (b2 * c4 - b4 * c2) - a2 * (b1 * c4 - b4 * c1) + a4 * (b1 * c2 - b2 * c1))) * (d1 * v 0 + (d2 * v 1 + (d3 * v 2 + (d4 * v 3 + 0)))) := by grind
      rw [e1, e2, e3, e4] at i0
      exact mul_no (b := v 2) (i0.trans (by grind)) hv
    | 3, _ =>
      have i0 : (a1 * (b2 * (c3 * d4 - c4 * d3) - b3 * (c2 * d4 - c4 * d2) + b4 * (c2 * d3 - c3 * d2)) - a2 * (b1 * (c3 * d4 - c4 * d3) - b3 * (c1 * d4 - c4 * d1) + b4 * (c1 * d3 - c3 * d1)) + a3 * (b1 * (c2 * d4 - c4 * d2) - b2 * (c1 * d4 - c4 * d1) + b4 * (c1 * d2 - c2 * d1)) - a4 * (b1 * (c2 * d3 - c3 * d2) - b2 * (c1 * d3 - c3 * d1) + b3 * (c1 * d2 - c2 * d1))) * v 3 = (-(b1 * (c2 * d3 - c3 * d2) - b2 * (c1 * d3 - c3 * d1) + b3 * (c1 * d2 - c2 * d1))) * (a1 * v 0 + (a2 * v 1 + (a3 * v 2 + (a4 * v 3 + 0)))) + ((a1 * (c2 * d3 - c3 * d2) - a2 * (c1 * d3 - c3 * d1) + a3 * (c1 * d2 - c2 * d1))) * (b1 * v 0 + (b2 * v 1 + (b3 * v 2 + (b4 * v 3 + 0)))) + (-(a1 * (b2 * d3 - b3 * d2) - a2 * (b1 * d3 - b3 * d1) + a3 * (b1 * d2 - b2 * d1))) * (c1 * v 0 + (c2 * v 1 + (c3 * v 2 + (c4 * v 3 + 0)))) + ((a1 * (b2 * c3 - b3 * c2) - a2 * (b1 * c3 - b3 * c1) + a3 * (b1 * c2 - b2 * c1))) * (d1 * v 0 + (d2 * v 1 + (d3 * v 2 + (d4 * v 3 + 0)))) := by grind
      rw [e1, e2, e3, e4] at i0
      exact mul_no (b := v 3) (i0.trans (by grind)) hv
  | n + 5, h => omega
end GM
/-! Solutions and inverses by elimination, plain. -/
namespace GM
def aug (A B : List Row) : List Row := List.zipWith (· ++ ·) A B
def cols (b : Row) : List Row := b.map fun q => [q]
def unit (n : Nat) : List Row := (List.range n).map fun p => (List.range n).map fun k => if k = p then 1 else 0
def vec (x : Row) : Nat → Rat := fun c => x.getD c 0
def mulV (A : List Row) (x : Row) : Row := A.map fun r => dot r (vec x)
def sol (A : List Row) (b : Row) : Option Row := (red (aug A (cols b))).map fun M => M.map fun r => r.getD A.length 0
def inv (A : List Row) : Option (List Row) := (red (aug A (unit A.length))).map fun M => M.map fun r => r.drop A.length
theorem len_aug {A B : List Row} (h : A.length = B.length) : (aug A B).length = A.length := by unfold aug; rw [List.length_zipWith]; omega
theorem wd_aug {n m : Nat} {A B : List Row} (h : Wd n A) (k : Wd m B) : Wd (n + m) (aug A B) := fun r hr => by
  obtain ⟨a, ha, b, hb, rfl⟩ := mem_zipWith hr
  rw [List.length_append, h a ha, k b hb]
theorem len_cols (b : Row) : (cols b).length = b.length := by unfold cols; rw [List.length_map]
theorem wd_cols (b : Row) : Wd 1 (cols b) := fun r hr => by
  obtain ⟨q, _, rfl⟩ := List.mem_map.mp hr
  rfl
theorem len_unit (n : Nat) : (unit n).length = n := by unfold unit; rw [List.length_map, List.length_range]
theorem wd_unit (n : Nat) : Wd n (unit n) := fun r hr => by
  obtain ⟨q, _, rfl⟩ := List.mem_map.mp hr
  rw [List.length_map, List.length_range]
theorem dot_app : ∀ (r m : Row) (v : Nat → Rat), dot (r ++ m) v = dot r v + dot m (fun c => v (r.length + c))
  | [], m, v => by
    show dot m v = 0 + dot m _
    rw [dot_congr (r := m) (u := fun c => v (([] : Row).length + c)) (v := v) fun c _ => by show v (0 + c) = v c; rw [Nat.zero_add]]
    grind
  | a :: r, m, v => by
    show a * v 0 + dot (r ++ m) _ = (a * v 0 + dot r _) + dot m _
    rw [dot_app r m, dot_congr (r := m) (u := fun c => v (r.length + c + 1)) (v := fun c => v ((a :: r).length + c)) fun c _ => by show v (r.length + c + 1) = v (r.length + 1 + c); congr 1; omega]
    grind
/-- the two parts of a row of both, at place i -/
theorem aug_at {A B : List Row} {i : Nat} {r m : Row} (h1 : A[i]? = some r) (h2 : B[i]? = some m) : (aug A B)[i]? = some (r ++ m) := by unfold aug; rw [List.getElem?_zipWith, h1, h2]
theorem ker_aug {A B : List Row} {v : Nat → Rat} (h : A.length = B.length) : Ker (aug A B) v ↔ ∀ (i : Nat) (r m : Row), A[i]? = some r → B[i]? = some m → dot r v + dot m (fun c => v (r.length + c)) = 0 := by
  constructor
  · intro hk i r m h1 h2
    rw [← dot_app]
    exact hk _ (List.mem_of_getElem? (aug_at h1 h2))
  · intro hk r hr
    obtain ⟨i, hi, rfl⟩ := List.getElem_of_mem hr
    have hi' : i < A.length := by rw [← len_aug h]; exact hi
    have e := aug_at (List.getElem?_eq_getElem hi') (List.getElem?_eq_getElem (h ▸ hi'))
    rw [List.getElem?_eq_getElem hi] at e
    rw [Option.some.inj e, dot_app]
    exact hk i _ _ (List.getElem?_eq_getElem hi') (List.getElem?_eq_getElem (h ▸ hi'))
theorem dot_zero {m : Row} {v : Nat → Rat} (h : ∀ c, c < m.length → v c = 0) : dot m v = 0 := by
  rw [dot_sum]
  exact sumN_zero fun c hc => by rw [h c hc]; grind
/-- where no row of noughts can be made, all pivots are found -/
theorem red_ne {n m : Nat} {A B : List Row} (hn : n ≤ 4) (hA : A.length = n) (hB : B.length = n) (wA : Wd n A) (wB : Wd m B) (hd : det n A ≠ 0) : ∃ M, red (aug A B) = some M := by
  cases e : red (aug A B) with
  | some M => exact ⟨M, rfl⟩
  | none =>
    obtain ⟨v, h1, h2, h3⟩ := red_none (n := n) (m := n + m) (by omega) (by rw [len_aug (by omega), hA]) (wd_aug wA wB) e
    refine absurd (det_ker hn hA wA h1 fun r hr => ?_) hd
    obtain ⟨i, hi, rfl⟩ := List.getElem_of_mem hr
    have z := (ker_aug (by omega)).mp h3 i _ _ (List.getElem?_eq_getElem hi) (List.getElem?_eq_getElem (by omega))
    rw [dot_zero (m := B[i]'(by omega)) fun c _ => h2 _ (by rw [wA _ (List.getElem_mem hi)]; omega)] at z
    grind
theorem red_no {n m : Nat} {A B : List Row} (hn : n ≤ 4) (hA : A.length = n) (hB : B.length = n) (wA : Wd n A) (wB : Wd m B) (hd : det n A = 0) : red (aug A B) = none := by
  cases e : red (aug A B) with
  | none => rfl
  | some M =>
    obtain ⟨v, ⟨c, hc, hv⟩, hk⟩ := det_zero n A hn hA wA hd
    obtain ⟨_, _, h3⟩ := red_some (n := n) (m := n + m) (by omega) (by rw [len_aug (by omega), hA]) (wd_aug wA wB) e
    have z := (h3 (fun c => if c < n then v c else 0)).mp ((ker_aug (by omega)).mpr fun i r b h1 h2 => ?_) c hc
    · rw [if_pos hc, sumN_zero fun i _ => by rw [if_neg (by omega)]; grind] at z
      exact absurd (by grind) hv
    · have lr : r.length = n := wA r (List.mem_of_getElem? h1)
      rw [dot_zero (m := b) fun c _ => by rw [if_neg (by omega)], dot_congr (r := r) (v := v) fun c hc => by rw [if_pos (by omega)], hk r (List.mem_of_getElem? h1)]
      grind
theorem sol_no {A : List Row} {b : Row} (hn : A.length ≤ 4) (hb : b.length = A.length) (wA : Wd A.length A) (hd : det A.length A = 0) : sol A b = none := by
  unfold sol
  rw [red_no hn rfl (by rw [len_cols, hb]) wA (wd_cols b) hd]
  rfl
theorem inv_no {A : List Row} (hn : A.length ≤ 4) (wA : Wd A.length A) (hd : det A.length A = 0) : inv A = none := by
  unfold inv
  rw [red_no hn rfl (len_unit _) wA (wd_unit _) hd]
  rfl
theorem len_mulV (A : List Row) (x : Row) : (mulV A x).length = A.length := by unfold mulV; rw [List.length_map]
theorem mulV_at {A : List Row} {x r : Row} {i : Nat} (h : A[i]? = some r) : (mulV A x)[i]? = some (dot r (vec x)) := by unfold mulV; rw [List.getElem?_map, h]; rfl
theorem cols_at {b : Row} {i : Nat} {m : Row} (h : (cols b)[i]? = some m) : ∃ q, b[i]? = some q ∧ m = [q] := by
  unfold cols at h
  rw [List.getElem?_map] at h
  cases e : b[i]? with
  | none => rw [e] at h; cases h
  | some q => rw [e] at h; cases h; exact ⟨q, rfl, rfl⟩
theorem ext_at {a b : Row} (h : a.length = b.length) (k : ∀ i, i < a.length → a.getD i 0 = b.getD i 0) : a = b := by
  refine List.ext_getElem h fun i h1 h2 => ?_
  have z := k i h1
  rw [List.getD_eq_getElem?_getD, List.getD_eq_getElem?_getD, List.getElem?_eq_getElem h1, List.getElem?_eq_getElem h2] at z
  exact z
theorem map_at {M : List Row} {f : Row → Rat} {k : Nat} (h : k < M.length) : (M.map f).getD k 0 = f (M.getD k []) := by
  rw [List.getD_eq_getElem?_getD, List.getElem?_map, List.getElem?_eq_getElem h, List.getD_eq_getElem?_getD, List.getElem?_eq_getElem h]
  rfl
/-- the one solution -/
theorem sol_one {A : List Row} {b : Row} (hn : A.length ≤ 4) (hb : b.length = A.length) (wA : Wd A.length A) (hd : det A.length A ≠ 0) : ∃ x, sol A b = some x ∧ x.length = A.length ∧ mulV A x = b ∧ ∀ y : Row, y.length = A.length → mulV A y = b → y = x := by
  obtain ⟨M, e⟩ := red_ne hn rfl (show (cols b).length = A.length by rw [len_cols, hb]) wA (wd_cols b) hd
  obtain ⟨lM, wM, h3⟩ := red_some (n := A.length) (m := A.length + 1) (by omega) (by rw [len_aug (by rw [len_cols, hb])]) (wd_aug wA (wd_cols b)) e
  have hlc : A.length = (cols b).length := by rw [len_cols, hb]
  have key : ∀ y : Row, y.length = A.length → (Ker (aug A (cols b)) (fun c => if c < A.length then vec y c else -1) ↔ mulV A y = b) := fun y hy => by
    rw [ker_aug hlc]
    have each : ∀ (i : Nat) (r : Row) (q : Rat), A[i]? = some r → dot r (fun c => if c < A.length then vec y c else -1) + dot [q] (fun c => if r.length + c < A.length then vec y (r.length + c) else -1) = dot r (vec y) - q := fun i r q h1 => by
      have lr : r.length = A.length := wA r (List.mem_of_getElem? h1)
      rw [dot_congr (r := r) (v := vec y) fun c hc => by rw [if_pos (by omega)]]
      show _ + (q * (if r.length + 0 < A.length then vec y (r.length + 0) else -1) + 0) = _
      rw [if_neg (by omega)]
      grind
    constructor
    · intro h
      refine ext_at (by rw [len_mulV, hb]) fun i hi => ?_
      rw [len_mulV] at hi
      have hib : i < b.length := by omega
      have z := h i A[i] [b[i]] (List.getElem?_eq_getElem hi) (by unfold cols; rw [List.getElem?_map, List.getElem?_eq_getElem hib]; rfl)
      rw [each i A[i] b[i] (List.getElem?_eq_getElem hi)] at z
      rw [List.getD_eq_getElem?_getD, mulV_at (List.getElem?_eq_getElem hi), List.getD_eq_getElem?_getD, List.getElem?_eq_getElem hib]
      show dot A[i] (vec y) = b[i]
      grind
    · rintro h i r m h1 h2
      obtain ⟨q, h5, rfl⟩ := cols_at h2
      rw [each i r q h1]
      have z := mulV_at (x := y) h1
      rw [h, h5] at z
      rw [Option.some.inj z]
      grind
  have told : ∀ (y : Row), (∀ k, k < A.length → (fun c => if c < A.length then vec y c else (-1 : Rat)) k + sumN (A.length + 1 - A.length) (fun i => at2 M k (A.length + i) * (fun c => if c < A.length then vec y c else (-1 : Rat)) (A.length + i)) = 0) ↔ ∀ k, k < A.length → y.getD k 0 = at2 M k A.length := fun y => by
    have one : ∀ k, k < A.length → ((fun c => if c < A.length then vec y c else (-1 : Rat)) k + sumN (A.length + 1 - A.length) (fun i => at2 M k (A.length + i) * (fun c => if c < A.length then vec y c else (-1 : Rat)) (A.length + i)) = y.getD k 0 - at2 M k A.length) := fun k hk => by
      rw [show A.length + 1 - A.length = 1 by omega]
      show (if k < A.length then vec y k else -1) + (0 + at2 M k (A.length + 0) * (if A.length + 0 < A.length then _ else -1)) = _
      rw [if_pos hk, if_neg (by omega)]
      show y.getD k 0 + _ = _
      grind
    constructor
    · intro h k hk
      have z := h k hk
      rw [one k hk] at z
      grind
    · intro h k hk
      rw [one k hk, h k hk]
      grind
  refine ⟨M.map fun r => r.getD A.length 0, by unfold sol; rw [e]; rfl, by rw [List.length_map, lM], ?_, fun y hy hm => ?_⟩
  · rw [← key _ (by rw [List.length_map, lM]), h3, told]
    exact fun k hk => map_at (by omega)
  · rw [← key y hy, h3, told] at hm
    refine ext_at (by rw [hy, List.length_map, lM]) fun i hi => ?_
    rw [hm i (by omega)]
    exact (map_at (f := fun r => r.getD A.length 0) (by omega)).symm
theorem unit_at {n i : Nat} (h : i < n) : (unit n)[i]? = some ((List.range n).map fun k => if k = i then 1 else 0) := by
  unfold unit
  rw [List.getElem?_map, List.getElem?_range h]
  rfl
theorem dot_drop (r : Row) (n : Nat) (v : Nat → Rat) : dot (r.drop n) v = sumN (r.length - n) fun i => r.getD (n + i) 0 * v i := by
  rw [dot_sum, List.length_drop]
  refine sumN_congr fun c _ => ?_
  rw [List.getD_eq_getElem?_getD, List.getElem?_drop, List.getD_eq_getElem?_getD]
/-- the inverse gives the solution -/
theorem inv_one {A : List Row} (hn : A.length ≤ 4) (wA : Wd A.length A) (hd : det A.length A ≠ 0) : ∃ W, inv A = some W ∧ W.length = A.length ∧ Wd A.length W ∧ ∀ x : Row, x.length = A.length → mulV W (mulV A x) = x := by
  obtain ⟨M, e⟩ := red_ne hn rfl (len_unit A.length) wA (wd_unit A.length) hd
  obtain ⟨lM, wM, h3⟩ := red_some (n := A.length) (m := A.length + A.length) (by omega) (by rw [len_aug (by rw [len_unit])]) (wd_aug wA (wd_unit A.length)) e
  refine ⟨M.map fun r => r.drop A.length, by unfold inv; rw [e]; rfl, by rw [List.length_map, lM], fun r hr => ?_, fun x hx => ?_⟩
  · obtain ⟨m, hm, rfl⟩ := List.mem_map.mp hr
    rw [List.length_drop, wM m hm]
    omega
  · refine ext_at (by rw [len_mulV, List.length_map, lM, hx]) fun k hk => ?_
    rw [len_mulV, List.length_map, lM] at hk
    have hkM : k < M.length := by omega
    have hK : Ker (aug A (unit A.length)) (fun c => if c < A.length then vec x c else - vec (mulV A x) (c - A.length)) := by
      refine (ker_aug (by rw [len_unit])).mpr fun i r m h1 h2 => ?_
      have hi : i < A.length := (List.getElem?_eq_some_iff.mp h1).1
      have lr : r.length = A.length := wA r (List.mem_of_getElem? h1)
      rw [unit_at hi] at h2
      cases h2
      rw [dot_congr (r := r) (v := vec x) fun c hc => by rw [if_pos (by omega)], dot_sum ((List.range A.length).map _), List.length_map, List.length_range, sumN_one (a := i) hi]
      · rw [if_neg (by omega), show r.length + i - A.length = i by omega]
        have e1 : ((List.range A.length).map fun k => if k = i then (1 : Rat) else 0).getD i 0 = 1 := by
          rw [List.getD_eq_getElem?_getD, List.getElem?_map, List.getElem?_range hi]
          show (if i = i then (1 : Rat) else 0) = 1
          rw [if_pos rfl]
        have e2 : vec (mulV A x) i = dot r (vec x) := by
          unfold vec
          rw [List.getD_eq_getElem?_getD, mulV_at h1]
          rfl
        rw [e1, e2]
        grind
      · intro c hc hne
        have e1 : ((List.range A.length).map fun k => if k = i then (1 : Rat) else 0).getD c 0 = 0 := by
          rw [List.getD_eq_getElem?_getD, List.getElem?_map, List.getElem?_range hc]
          show (if c = i then (1 : Rat) else 0) = 0
          rw [if_neg hne]
        rw [e1]
        grind
    have z := (h3 _).mp hK k hk
    rw [if_pos hk, show A.length + A.length - A.length = A.length by omega] at z
    have ek : M[k]? = some M[k] := List.getElem?_eq_getElem hkM
    have e4 : (mulV (M.map fun r => r.drop A.length) (mulV A x)).getD k 0 = dot (M[k].drop A.length) (vec (mulV A x)) := by
      rw [List.getD_eq_getElem?_getD, mulV_at (r := M[k].drop A.length) (by rw [List.getElem?_map, ek]; rfl)]
      rfl
    have wk : M[k].length = A.length + A.length := wM _ (List.getElem_mem hkM)
    rw [e4, dot_drop, wk, show A.length + A.length - A.length = A.length by omega]
    have e5 : sumN A.length (fun i => at2 M k (A.length + i) * (if A.length + i < A.length then vec x (A.length + i) else - vec (mulV A x) (A.length + i - A.length))) = - sumN A.length (fun i => M[k].getD (A.length + i) 0 * vec (mulV A x) i) := by
      rw [← sumN_neg]
      refine sumN_congr fun i _ => ?_
      rw [if_neg (by omega), show A.length + i - A.length = i by omega]
      unfold at2
      rw [show M.getD k [] = M[k] by rw [List.getD_eq_getElem?_getD, ek]; rfl]
      grind
    rw [e5] at z
    show _ = vec x k
    grind
end GM
namespace GM
def Fm (M : Nat) : Nat → Nat
  | 0 => 1
  | n + 1 => (n + 1) * (M * Fm M n)
theorem Cd.neg {D M : Nat} {q : Rat} (h : Cd D M q) : Cd D M (-q) := by
  obtain ⟨n, h1, rfl⟩ := h
  exact ⟨-n, by omega, Rat.neg_divInt ..⟩
theorem sgn_or (k : Nat) : sgn k = 1 ∨ sgn k = -1 := by
  induction k with
  | zero => exact .inl rfl
  | succ k ih =>
    rcases ih with e | e
    · exact .inr (by show - sgn k = -1; rw [e])
    · exact .inl (by show - sgn k = 1; rw [e]; decide)
theorem cd_sg {D M : Nat} {q : Rat} (k : Nat) (h : Cd D M q) : Cd D M (sgn k * q) := by
  rcases sgn_or k with e | e
  · rw [e, Rat.one_mul]; exact h
  · rw [e, show (-1 : Rat) * q = -q by grind]; exact h.neg
theorem cd_sum {D B : Nat} (hD : 0 < D) {f : Nat → Rat} : ∀ n, (∀ i, i < n → Cd D B (f i)) → Cd D (n * B) (sumN n f)
  | 0, _ => Cd.zero _ _
  | n + 1, h => by
    have z := (cd_sum hD n fun i hi => h i (by omega)).add hD (h n (by omega))
    rw [show (n + 1) * B = n * B + B by rw [Nat.add_mul, Nat.one_mul]]
    exact z
def AllCd (D M : Nat) (L : List Row) : Prop := ∀ r ∈ L, ∀ q ∈ r, Cd D M q
theorem cd_at {D M : Nat} {r : Row} (h : ∀ q ∈ r, Cd D M q) (c : Nat) : Cd D M (r.getD c 0) := by
  by_cases hc : c < r.length
  · rw [List.getD_eq_getElem?_getD, List.getElem?_eq_getElem hc]; exact h _ (List.getElem_mem hc)
  · rw [List.getD_eq_getElem?_getD, List.getElem?_eq_none (by omega)]; exact Cd.zero _ _
theorem allCd_cut {D M k : Nat} {R : List Row} (h : AllCd D M R) : AllCd D M (cut k R) := fun r hr q hq => by
  obtain ⟨x, hx, rfl⟩ := List.mem_map.mp hr
  rcases List.mem_append.mp hq with hq | hq
  · exact h x hx q (List.mem_of_mem_take hq)
  · exact h x hx q (List.mem_of_mem_drop hq)
/-- the k-th part of a determinant by the first row -/
def part (n : Nat) (L : List Row) (k : Nat) : Rat := sgn k * ((L.getD 0 []).getD k 0 * det n (cut k (L.drop 1)))
theorem det_succ (n : Nat) (L : List Row) : det (n + 1) L = sumN (n + 1) (part n L) := rfl
theorem cd_det {D M : Nat} (hD : 0 < D) : ∀ (n : Nat) (L : List Row), AllCd D M L → Cd (D ^ n) (Fm M n) (det n L)
  | 0, L, _ => ⟨1, by show 1 ≤ 1; decide, by show (1 : Rat) = Rat.divInt 1 ((1 : Nat) : Int); rfl⟩
  | n + 1, L, h => by
    rw [det_succ]
    refine cd_sum (Nat.pow_pos hD) (n + 1) fun i hi => cd_sg i ?_
    rw [Nat.pow_succ, Nat.mul_comm]
    refine Cd.mul ?_ (cd_det hD n _ (allCd_cut fun r hr => h r (List.mem_of_mem_drop hr)))
    refine cd_at ?_ i
    cases L with
    | nil => intro q hq; cases hq
    | cons a L => exact h a List.mem_cons_self
theorem cd_part {D M : Nat} (hD : 0 < D) (n : Nat) {L : List Row} (h : AllCd D M L) (k : Nat) : Cd (D ^ (n + 1)) (M * Fm M n) ((L.getD 0 []).getD k 0 * det n (cut k (L.drop 1))) := by
  rw [Nat.pow_succ, Nat.mul_comm]
  refine Cd.mul (cd_at ?_ k) (cd_det hD n _ (allCd_cut fun r hr => h r (List.mem_of_mem_drop hr)))
  cases L with
  | nil => intro q hq; cases hq
  | cons a L => exact h a List.mem_cons_self
theorem fm_le {M : Nat} (hM : M < 2 ^ 100) : ∀ n, n ≤ 4 → Fm M n ≤ 2 ^ (102 * n)
  | 0, _ => Nat.le_refl _
  | n + 1, h => by
    have ih := fm_le hM n (by omega)
    have h1 : M * Fm M n ≤ 2 ^ 100 * 2 ^ (102 * n) := Nat.mul_le_mul (by omega) ih
    have h2 : (n + 1) * (M * Fm M n) ≤ 4 * (2 ^ 100 * 2 ^ (102 * n)) := Nat.mul_le_mul (by omega) h1
    have e : 4 * (2 ^ 100 * 2 ^ (102 * n)) = 2 ^ (102 * (n + 1)) := by
      rw [show 102 * (n + 1) = 2 + (100 + 102 * n) by omega, Nat.pow_add, Nat.pow_add]
    rw [e] at h2
    exact h2
theorem pow_lt {D n : Nat} (hD : D < 2 ^ 100) (hn : n ≤ 5) : D ^ n < 2 ^ 550 := by
  have h1 : D ^ n ≤ (2 ^ 100) ^ n := Nat.pow_le_pow_left (by omega) n
  rw [← Nat.pow_mul] at h1
  exact Nat.lt_of_le_of_lt h1 (Nat.pow_lt_pow_right (by decide) (by omega))
theorem lt_small {D E M N : Nat} {q : Rat} (hE : 0 < E) (h : Cd E N q) (h1 : E < 2 ^ 550) (h2 : N < 2 ^ 550) : RM.Lt q 550 := h.lt hE h1 h2
theorem lt_det {D M n : Nat} {L : List Row} (hD : 0 < D) (hD1 : D < 2 ^ 100) (hM : M < 2 ^ 100) (hn : n ≤ 4) (h : AllCd D M L) : RM.Lt (det n L) 550 :=
  (cd_det hD n L h).lt (Nat.pow_pos hD) (pow_lt hD1 (by omega)) (Nat.lt_of_le_of_lt (fm_le hM n hn) (Nat.pow_lt_pow_right (by decide) (by omega)))
theorem fm_part {M n : Nat} (hM : M < 2 ^ 100) (hn : n + 1 ≤ 4) : M * Fm M n < 2 ^ 550 := by
  have h1 : M * Fm M n ≤ 2 ^ 100 * 2 ^ (102 * n) := Nat.mul_le_mul (by omega) (fm_le hM n (by omega))
  rw [← Nat.pow_add] at h1
  exact Nat.lt_of_le_of_lt h1 (Nat.pow_lt_pow_right (by decide) (by omega))
theorem lt_part {D M n : Nat} {L : List Row} (hD : 0 < D) (hD1 : D < 2 ^ 100) (hM : M < 2 ^ 100) (hn : n + 1 ≤ 4) (h : AllCd D M L) (k : Nat) : RM.Lt ((L.getD 0 []).getD k 0 * det n (cut k (L.drop 1))) 550 :=
  (cd_part hD n h k).lt (Nat.pow_pos hD) (pow_lt hD1 (by omega)) (fm_part hM hn)
theorem lt_parts {D M n : Nat} {L : List Row} (hD : 0 < D) (hD1 : D < 2 ^ 100) (hM : M < 2 ^ 100) (hn : n + 1 ≤ 4) (h : AllCd D M L) (k : Nat) (hk : k ≤ n + 1) : RM.Lt (sumN k (part n L)) 550 := by
  refine (cd_sum (Nat.pow_pos hD) k fun i _ => cd_sg i (cd_part hD n h i)).lt (Nat.pow_pos hD) (pow_lt hD1 (by omega)) ?_
  have h1 : k * (M * Fm M n) ≤ (n + 1) * (M * Fm M n) := Nat.mul_le_mul_right _ hk
  exact Nat.lt_of_le_of_lt (Nat.le_trans h1 (fm_le hM (n + 1) hn)) (Nat.pow_lt_pow_right (by decide) (by omega))
end GM
namespace LW
open PySem PySem.Spec PyProof.Rows L2
def top (i : Nat) : Stmt := PySem.Challenge.pw_paystreams_k05_systems.main.body.getD i (.Pass ⟨0, 0, 0, 0⟩)
abbrev s_ByZero___init__ : Stmt := inClass (top 2) 0
abbrev s_BadNumber___init__ : Stmt := inClass (top 3) 0
abbrev s_BadText___init__ : Stmt := inClass (top 4) 0
abbrev s_BadSystem___init__ : Stmt := inClass (top 5) 0
abbrev s_is_integer : Stmt := top 7
abbrev s_divisor_of : Stmt := top 8
abbrev s_parts : Stmt := top 9
abbrev s_checked : Stmt := top 10
abbrev s_Ratio___init__ : Stmt := inClass (top 11) 0
abbrev s_Ratio_read : Stmt := inClass (top 11) 1
abbrev s_Ratio___add__ : Stmt := inClass (top 11) 2
abbrev s_Ratio___sub__ : Stmt := inClass (top 11) 3
abbrev s_Ratio___mul__ : Stmt := inClass (top 11) 4
abbrev s_Ratio___neg__ : Stmt := inClass (top 11) 5
abbrev s_Ratio___eq__ : Stmt := inClass (top 11) 6
abbrev s_Ratio___lt__ : Stmt := inClass (top 11) 7
abbrev s_Ratio___le__ : Stmt := inClass (top 11) 8
abbrev s_Ratio_over : Stmt := inClass (top 11) 9
abbrev s_Ratio_text : Stmt := inClass (top 11) 10
abbrev s_integer_of : Stmt := top 12
abbrev s_as_ratio : Stmt := top 13
abbrev s_total : Stmt := top 14
abbrev s_widened : Stmt := top 16
abbrev s_less_row : Stmt := top 17
abbrev s_pivot_at : Stmt := top 18
abbrev s_reduced : Stmt := top 19
abbrev s_solved : Stmt := top 20
abbrev s_inverse : Stmt := top 21
abbrev s_weighed : Stmt := top 22
abbrev s_applied : Stmt := top 23
abbrev s_least_place : Stmt := top 24
abbrev s__law_cell : Stmt := top 26
abbrev s__law_box : Stmt := top 27
abbrev s__law_take : Stmt := top 28
abbrev s__law_frac : Stmt := top 29
abbrev s__law_plus : Stmt := top 30
abbrev s__law_times : Stmt := top 31
abbrev s__law_less : Stmt := top 32
abbrev s__law_told : Stmt := top 33
abbrev s__law_row : Stmt := top 34
abbrev s__law_ratio : Stmt := top 35
abbrev s__law_determinant : Stmt := top 36
abbrev s__law_sum : Stmt := top 37
abbrev s__law_drawn : Stmt := top 38
abbrev s__law_rows : Stmt := top 39
abbrev s__law_handed : Stmt := top 40
abbrev s__law_refused : Stmt := top 41
abbrev s__law_least : Stmt := top 42
abbrev s_law : Stmt := top 43
def d_ByZero___init__ : He5.DefA := ⟨fun K => He.ma K (He.ga K "ByZero") "__init__", "__init__", "ByZero.__init__", defArgs s_ByZero___init__, defBody s_ByZero___init__, defScope s_ByZero___init__, [], []⟩
def d_BadNumber___init__ : He5.DefA := ⟨fun K => He.ma K (He.ga K "BadNumber") "__init__", "__init__", "BadNumber.__init__", defArgs s_BadNumber___init__, defBody s_BadNumber___init__, defScope s_BadNumber___init__, [], []⟩
def d_BadText___init__ : He5.DefA := ⟨fun K => He.ma K (He.ga K "BadText") "__init__", "__init__", "BadText.__init__", defArgs s_BadText___init__, defBody s_BadText___init__, defScope s_BadText___init__, [], []⟩
def d_BadSystem___init__ : He5.DefA := ⟨fun K => He.ma K (He.ga K "BadSystem") "__init__", "__init__", "BadSystem.__init__", defArgs s_BadSystem___init__, defBody s_BadSystem___init__, defScope s_BadSystem___init__, [], []⟩
def d_is_integer : He5.DefA := ⟨fun K => He.ga K "is_integer", "is_integer", "is_integer", defArgs s_is_integer, defBody s_is_integer, defScope s_is_integer, [], []⟩
def d_divisor_of : He5.DefA := ⟨fun K => He.ga K "divisor_of", "divisor_of", "divisor_of", defArgs s_divisor_of, defBody s_divisor_of, defScope s_divisor_of, [], []⟩
def d_parts : He5.DefA := ⟨fun K => He.ga K "parts", "parts", "parts", defArgs s_parts, defBody s_parts, defScope s_parts, [], []⟩
def d_checked : He5.DefA := ⟨fun K => He.ga K "checked", "checked", "checked", defArgs s_checked, defBody s_checked, defScope s_checked, [], []⟩
def d_Ratio___init__ : He5.DefA := ⟨fun K => He.ma K (He.ga K "Ratio") "__init__", "__init__", "Ratio.__init__", defArgs s_Ratio___init__, defBody s_Ratio___init__, defScope s_Ratio___init__, [.int 1], []⟩
def d_Ratio_read : He5.DefA := ⟨fun K => He5.wf K (He.ga K "Ratio") "classmethod" "read", "read", "Ratio.read", defArgs s_Ratio_read, defBody s_Ratio_read, defScope s_Ratio_read, [], []⟩
def d_Ratio___add__ : He5.DefA := ⟨fun K => He.ma K (He.ga K "Ratio") "__add__", "__add__", "Ratio.__add__", defArgs s_Ratio___add__, defBody s_Ratio___add__, defScope s_Ratio___add__, [], []⟩
def d_Ratio___sub__ : He5.DefA := ⟨fun K => He.ma K (He.ga K "Ratio") "__sub__", "__sub__", "Ratio.__sub__", defArgs s_Ratio___sub__, defBody s_Ratio___sub__, defScope s_Ratio___sub__, [], []⟩
def d_Ratio___mul__ : He5.DefA := ⟨fun K => He.ma K (He.ga K "Ratio") "__mul__", "__mul__", "Ratio.__mul__", defArgs s_Ratio___mul__, defBody s_Ratio___mul__, defScope s_Ratio___mul__, [], []⟩
def d_Ratio___neg__ : He5.DefA := ⟨fun K => He.ma K (He.ga K "Ratio") "__neg__", "__neg__", "Ratio.__neg__", defArgs s_Ratio___neg__, defBody s_Ratio___neg__, defScope s_Ratio___neg__, [], []⟩
def d_Ratio___eq__ : He5.DefA := ⟨fun K => He.ma K (He.ga K "Ratio") "__eq__", "__eq__", "Ratio.__eq__", defArgs s_Ratio___eq__, defBody s_Ratio___eq__, defScope s_Ratio___eq__, [], []⟩
def d_Ratio___lt__ : He5.DefA := ⟨fun K => He.ma K (He.ga K "Ratio") "__lt__", "__lt__", "Ratio.__lt__", defArgs s_Ratio___lt__, defBody s_Ratio___lt__, defScope s_Ratio___lt__, [], []⟩
def d_Ratio___le__ : He5.DefA := ⟨fun K => He.ma K (He.ga K "Ratio") "__le__", "__le__", "Ratio.__le__", defArgs s_Ratio___le__, defBody s_Ratio___le__, defScope s_Ratio___le__, [], []⟩
def d_Ratio_over : He5.DefA := ⟨fun K => He.ma K (He.ga K "Ratio") "over", "over", "Ratio.over", defArgs s_Ratio_over, defBody s_Ratio_over, defScope s_Ratio_over, [], []⟩
def d_Ratio_text : He5.DefA := ⟨fun K => He.ma K (He.ga K "Ratio") "text", "text", "Ratio.text", defArgs s_Ratio_text, defBody s_Ratio_text, defScope s_Ratio_text, [], []⟩
def d_integer_of : He5.DefA := ⟨fun K => He.ga K "integer_of", "integer_of", "integer_of", defArgs s_integer_of, defBody s_integer_of, defScope s_integer_of, [], []⟩
def d_as_ratio : He5.DefA := ⟨fun K => He.ga K "as_ratio", "as_ratio", "as_ratio", defArgs s_as_ratio, defBody s_as_ratio, defScope s_as_ratio, [], []⟩
def d_total : He5.DefA := ⟨fun K => He.ga K "total", "total", "total", defArgs s_total, defBody s_total, defScope s_total, [], []⟩
def d_widened : He5.DefA := ⟨fun K => He.ga K "widened", "widened", "widened", defArgs s_widened, defBody s_widened, defScope s_widened, [], []⟩
def d_less_row : He5.DefA := ⟨fun K => He.ga K "less_row", "less_row", "less_row", defArgs s_less_row, defBody s_less_row, defScope s_less_row, [], []⟩
def d_pivot_at : He5.DefA := ⟨fun K => He.ga K "pivot_at", "pivot_at", "pivot_at", defArgs s_pivot_at, defBody s_pivot_at, defScope s_pivot_at, [], []⟩
def d_reduced : He5.DefA := ⟨fun K => He.ga K "reduced", "reduced", "reduced", defArgs s_reduced, defBody s_reduced, defScope s_reduced, [], []⟩
def d_solved : He5.DefA := ⟨fun K => He.ga K "solved", "solved", "solved", defArgs s_solved, defBody s_solved, defScope s_solved, [], []⟩
def d_inverse : He5.DefA := ⟨fun K => He.ga K "inverse", "inverse", "inverse", defArgs s_inverse, defBody s_inverse, defScope s_inverse, [], []⟩
def d_weighed : He5.DefA := ⟨fun K => He.ga K "weighed", "weighed", "weighed", defArgs s_weighed, defBody s_weighed, defScope s_weighed, [], []⟩
def d_applied : He5.DefA := ⟨fun K => He.ga K "applied", "applied", "applied", defArgs s_applied, defBody s_applied, defScope s_applied, [], []⟩
def d_least_place : He5.DefA := ⟨fun K => He.ga K "least_place", "least_place", "least_place", defArgs s_least_place, defBody s_least_place, defScope s_least_place, [], []⟩
def d__law_cell : He5.DefA := ⟨fun K => He.ga K "_law_cell", "_law_cell", "_law_cell", defArgs s__law_cell, defBody s__law_cell, defScope s__law_cell, [], []⟩
def d__law_box : He5.DefA := ⟨fun K => He.ga K "_law_box", "_law_box", "_law_box", defArgs s__law_box, defBody s__law_box, defScope s__law_box, [], []⟩
def d__law_take : He5.DefA := ⟨fun K => He.ga K "_law_take", "_law_take", "_law_take", defArgs s__law_take, defBody s__law_take, defScope s__law_take, [], []⟩
def d__law_frac : He5.DefA := ⟨fun K => He.ga K "_law_frac", "_law_frac", "_law_frac", defArgs s__law_frac, defBody s__law_frac, defScope s__law_frac, [], []⟩
def d__law_plus : He5.DefA := ⟨fun K => He.ga K "_law_plus", "_law_plus", "_law_plus", defArgs s__law_plus, defBody s__law_plus, defScope s__law_plus, [], []⟩
def d__law_times : He5.DefA := ⟨fun K => He.ga K "_law_times", "_law_times", "_law_times", defArgs s__law_times, defBody s__law_times, defScope s__law_times, [], []⟩
def d__law_less : He5.DefA := ⟨fun K => He.ga K "_law_less", "_law_less", "_law_less", defArgs s__law_less, defBody s__law_less, defScope s__law_less, [], []⟩
def d__law_told : He5.DefA := ⟨fun K => He.ga K "_law_told", "_law_told", "_law_told", defArgs s__law_told, defBody s__law_told, defScope s__law_told, [], []⟩
def d__law_row : He5.DefA := ⟨fun K => He.ga K "_law_row", "_law_row", "_law_row", defArgs s__law_row, defBody s__law_row, defScope s__law_row, [], []⟩
def d__law_ratio : He5.DefA := ⟨fun K => He.ga K "_law_ratio", "_law_ratio", "_law_ratio", defArgs s__law_ratio, defBody s__law_ratio, defScope s__law_ratio, [], []⟩
def d__law_determinant : He5.DefA := ⟨fun K => He.ga K "_law_determinant", "_law_determinant", "_law_determinant", defArgs s__law_determinant, defBody s__law_determinant, defScope s__law_determinant, [], []⟩
def d__law_sum : He5.DefA := ⟨fun K => He.ga K "_law_sum", "_law_sum", "_law_sum", defArgs s__law_sum, defBody s__law_sum, defScope s__law_sum, [], []⟩
def d__law_drawn : He5.DefA := ⟨fun K => He.ga K "_law_drawn", "_law_drawn", "_law_drawn", defArgs s__law_drawn, defBody s__law_drawn, defScope s__law_drawn, [], []⟩
def d__law_rows : He5.DefA := ⟨fun K => He.ga K "_law_rows", "_law_rows", "_law_rows", defArgs s__law_rows, defBody s__law_rows, defScope s__law_rows, [], []⟩
def d__law_handed : He5.DefA := ⟨fun K => He.ga K "_law_handed", "_law_handed", "_law_handed", defArgs s__law_handed, defBody s__law_handed, defScope s__law_handed, [], []⟩
def d__law_refused : He5.DefA := ⟨fun K => He.ga K "_law_refused", "_law_refused", "_law_refused", defArgs s__law_refused, defBody s__law_refused, defScope s__law_refused, [], []⟩
def d__law_least : He5.DefA := ⟨fun K => He.ga K "_law_least", "_law_least", "_law_least", defArgs s__law_least, defBody s__law_least, defScope s__law_least, [], []⟩
def d_law : He5.DefA := ⟨fun K => He.ga K "law", "law", "law", defArgs s_law, defBody s_law, defScope s_law, [], []⟩
def fn : List He5.DefA := [d_ByZero___init__, d_BadNumber___init__, d_BadText___init__, d_BadSystem___init__, d_is_integer, d_divisor_of, d_parts, d_checked, d_Ratio___init__, d_Ratio_read, d_Ratio___add__, d_Ratio___sub__, d_Ratio___mul__, d_Ratio___neg__, d_Ratio___eq__, d_Ratio___lt__, d_Ratio___le__, d_Ratio_over, d_Ratio_text, d_integer_of, d_as_ratio, d_total, d_widened, d_less_row, d_pivot_at, d_reduced, d_solved, d_inverse, d_weighed, d_applied, d_least_place, d__law_cell, d__law_box, d__law_take, d__law_frac, d__law_plus, d__law_times, d__law_less, d__law_told, d__law_row, d__law_ratio, d__law_determinant, d__law_sum, d__law_drawn, d__law_rows, d__law_handed, d__law_refused, d__law_least, d_law]
def nm0 : List PySem.Str := ["StreamError", "ByZero", "BadNumber", "BadText", "BadSystem", "is_integer", "divisor_of", "parts", "checked", "Ratio", "integer_of", "as_ratio", "total", "widened", "less_row", "pivot_at", "reduced", "solved", "inverse", "weighed", "applied", "least_place", "_law_cell", "_law_box", "_law_take", "_law_frac", "_law_plus", "_law_times", "_law_less", "_law_told"]
def nm1 : List PySem.Str := ["_law_row", "_law_ratio", "_law_determinant", "_law_sum", "_law_drawn", "_law_rows", "_law_handed", "_law_refused", "_law_least"]
def nms : List PySem.Str := nm0 ++ nm1
def fa0 : List PH.Ck := [PH.ckGlo "StreamError", PH.ckGlo "ByZero", PH.ckGlo "BadNumber", PH.ckGlo "BadText", PH.ckGlo "BadSystem", PH.ckGlo "is_integer", PH.ckGlo "divisor_of", PH.ckGlo "parts", PH.ckGlo "checked", PH.ckGlo "Ratio", PH.ckGlo "integer_of", PH.ckGlo "as_ratio", PH.ckGlo "total", PH.ckGlo "widened", PH.ckGlo "less_row", PH.ckGlo "pivot_at", PH.ckGlo "reduced", PH.ckGlo "solved", PH.ckGlo "inverse", PH.ckGlo "weighed", PH.ckGlo "applied", PH.ckGlo "least_place", PH.ckGlo "_law_cell", PH.ckGlo "_law_box", PH.ckGlo "_law_take", PH.ckGlo "_law_frac", PH.ckGlo "_law_plus", PH.ckGlo "_law_times", PH.ckGlo "_law_less", PH.ckGlo "_law_told", PH.ckGlo "_law_row", PH.ckGlo "_law_ratio", PH.ckGlo "_law_determinant", PH.ckGlo "_law_sum", PH.ckGlo "_law_drawn", PH.ckGlo "_law_rows", PH.ckGlo "_law_handed", PH.ckGlo "_law_refused", PH.ckGlo "_law_least", PH.ckGlo "law"]
def fa1 : List PH.Ck := [PH.ckFree "abs", PH.ckFree "all", PH.ckFree "bool", PH.ckFree "enumerate", PH.ckFree "int", PH.ckFree "isinstance", PH.ckFree "len", PH.ckFree "list", PH.ckFree "max", PH.ckFree "min", PH.ckFree "range", PH.ckFree "str", PH.ckFree "tuple", PH.ckFree "zip", PH.ckOex "ByZero", PH.ckDef "ByZero" "__init__", PH.ckExm "ByZero" "ByZero" true, PH.ckOex "BadNumber", PH.ckDef "BadNumber" "__init__", PH.ckXf "BadNumber", PH.ckNoat "BadNumber" "given", PH.ckExm "BadNumber" "BadNumber" true, PH.ckOex "BadText", PH.ckDef "BadText" "__init__", PH.ckExm "BadText" "BadText" true, PH.ckOex "BadSystem", PH.ckDef "BadSystem" "__init__", PH.ckExm "BadSystem" "BadSystem" true, PH.ckExm "ByZero" "BadSystem" false, PH.ckExm "BadNumber" "BadSystem" false, PH.ckExm "BadText" "BadSystem" false, PH.ckSin "StreamError", PH.ckCls "Ratio", PH.ckMkr "Ratio", PH.ckIsi "Ratio", PH.ckCm "Ratio" "read", PH.ckOwnB "Ratio" .Add "__add__", PH.ckOwnB "Ratio" .Sub "__sub__", PH.ckOwnB "Ratio" .Mult "__mul__", PH.ckDef "Ratio" "__neg__"]
def fa2 : List PH.Ck := [PH.ckDef "Ratio" "__eq__", PH.ckNe "Ratio", PH.ckDef "Ratio" "__lt__", PH.ckDef "Ratio" "__le__", PH.ckMeth "Ratio" "over", PH.ckMeth "Ratio" "text", PH.ckNoat "Ratio" "top", PH.ckNoat "Ratio" "bottom", PH.ckKitO "Ratio" "Ratio" true, PH.ckKitT "Ratio" "int" false, PH.ckKitB "int" "Ratio" false, PH.ckNf "Ratio" "int", PH.ckKitT "Ratio" "bool" false, PH.ckKitB "bool" "Ratio" false, PH.ckNf "Ratio" "bool", PH.ckKitT "Ratio" "str" false, PH.ckKitB "str" "Ratio" false, PH.ckNf "Ratio" "str", PH.ckKitB "NoneType" "Ratio" false, PH.ckNf "Ratio" "NoneType", PH.ckKitT "Ratio" "list" false, PH.ckKitB "list" "Ratio" false, PH.ckNf "Ratio" "list", PH.ckKitT "Ratio" "tuple" false, PH.ckKitB "tuple" "Ratio" false, PH.ckNf "Ratio" "tuple", PH.ckKitT "Ratio" "dict" false, PH.ckKitB "dict" "Ratio" false, PH.ckNf "Ratio" "dict"]
def fa : List PH.Ck := fa0 ++ fa1 ++ fa2
structure Tx (K : PySem.W.Frag) (mg : Str → Option Value) : Prop where
  g_StreamError : mg "StreamError" = some (.ref (He.ga K "StreamError"))
  g_ByZero : mg "ByZero" = some (.ref (He.ga K "ByZero"))
  g_BadNumber : mg "BadNumber" = some (.ref (He.ga K "BadNumber"))
  g_BadText : mg "BadText" = some (.ref (He.ga K "BadText"))
  g_BadSystem : mg "BadSystem" = some (.ref (He.ga K "BadSystem"))
  g_is_integer : mg "is_integer" = some (.ref (He.ga K "is_integer"))
  g_divisor_of : mg "divisor_of" = some (.ref (He.ga K "divisor_of"))
  g_parts : mg "parts" = some (.ref (He.ga K "parts"))
  g_checked : mg "checked" = some (.ref (He.ga K "checked"))
  g_Ratio : mg "Ratio" = some (.ref (He.ga K "Ratio"))
  g_integer_of : mg "integer_of" = some (.ref (He.ga K "integer_of"))
  g_as_ratio : mg "as_ratio" = some (.ref (He.ga K "as_ratio"))
  g_total : mg "total" = some (.ref (He.ga K "total"))
  g_widened : mg "widened" = some (.ref (He.ga K "widened"))
  g_less_row : mg "less_row" = some (.ref (He.ga K "less_row"))
  g_pivot_at : mg "pivot_at" = some (.ref (He.ga K "pivot_at"))
  g_reduced : mg "reduced" = some (.ref (He.ga K "reduced"))
  g_solved : mg "solved" = some (.ref (He.ga K "solved"))
  g_inverse : mg "inverse" = some (.ref (He.ga K "inverse"))
  g_weighed : mg "weighed" = some (.ref (He.ga K "weighed"))
  g_applied : mg "applied" = some (.ref (He.ga K "applied"))
  g_least_place : mg "least_place" = some (.ref (He.ga K "least_place"))
  g__law_cell : mg "_law_cell" = some (.ref (He.ga K "_law_cell"))
  g__law_box : mg "_law_box" = some (.ref (He.ga K "_law_box"))
  g__law_take : mg "_law_take" = some (.ref (He.ga K "_law_take"))
  g__law_frac : mg "_law_frac" = some (.ref (He.ga K "_law_frac"))
  g__law_plus : mg "_law_plus" = some (.ref (He.ga K "_law_plus"))
  g__law_times : mg "_law_times" = some (.ref (He.ga K "_law_times"))
  g__law_less : mg "_law_less" = some (.ref (He.ga K "_law_less"))
  g__law_told : mg "_law_told" = some (.ref (He.ga K "_law_told"))
  g__law_row : mg "_law_row" = some (.ref (He.ga K "_law_row"))
  g__law_ratio : mg "_law_ratio" = some (.ref (He.ga K "_law_ratio"))
  g__law_determinant : mg "_law_determinant" = some (.ref (He.ga K "_law_determinant"))
  g__law_sum : mg "_law_sum" = some (.ref (He.ga K "_law_sum"))
  g__law_drawn : mg "_law_drawn" = some (.ref (He.ga K "_law_drawn"))
  g__law_rows : mg "_law_rows" = some (.ref (He.ga K "_law_rows"))
  g__law_handed : mg "_law_handed" = some (.ref (He.ga K "_law_handed"))
  g__law_refused : mg "_law_refused" = some (.ref (He.ga K "_law_refused"))
  g__law_least : mg "_law_least" = some (.ref (He.ga K "_law_least"))
  g_law : mg "law" = some (.ref (He.ga K "law"))
  b_abs : mg "abs" = none
  b_all : mg "all" = none
  b_bool : mg "bool" = none
  b_enumerate : mg "enumerate" = none
  b_int : mg "int" = none
  b_isinstance : mg "isinstance" = none
  b_len : mg "len" = none
  b_list : mg "list" = none
  b_max : mg "max" = none
  b_min : mg "min" = none
  b_range : mg "range" = none
  b_str : mg "str" = none
  b_tuple : mg "tuple" = none
  b_zip : mg "zip" = none
  x_ByZero : OexC K (He.ga K "ByZero")
  xi_ByZero : PH.Df K (He.ga K "ByZero") "__init__"
  xm_ByZero : PySem.W.exmOne K (.ref (He.ga K "ByZero")) (.ref (He.ga K "ByZero")) = some true
  x_BadNumber : OexC K (He.ga K "BadNumber")
  xi_BadNumber : PH.Df K (He.ga K "BadNumber") "__init__"
  xf_BadNumber : XfC K (He.ga K "BadNumber")
  xn_BadNumber : PySem.W.findIn K (.ref (He.ga K "BadNumber")) "given" = some none
  xm_BadNumber : PySem.W.exmOne K (.ref (He.ga K "BadNumber")) (.ref (He.ga K "BadNumber")) = some true
  x_BadText : OexC K (He.ga K "BadText")
  xi_BadText : PH.Df K (He.ga K "BadText") "__init__"
  xm_BadText : PySem.W.exmOne K (.ref (He.ga K "BadText")) (.ref (He.ga K "BadText")) = some true
  x_BadSystem : OexC K (He.ga K "BadSystem")
  xi_BadSystem : PH.Df K (He.ga K "BadSystem") "__init__"
  xm_BadSystem : PySem.W.exmOne K (.ref (He.ga K "BadSystem")) (.ref (He.ga K "BadSystem")) = some true
  xm_ByZero_BadSystem : PySem.W.exmOne K (.ref (He.ga K "ByZero")) (.ref (He.ga K "BadSystem")) = some false
  xm_BadNumber_BadSystem : PySem.W.exmOne K (.ref (He.ga K "BadNumber")) (.ref (He.ga K "BadSystem")) = some false
  xm_BadText_BadSystem : PySem.W.exmOne K (.ref (He.ga K "BadText")) (.ref (He.ga K "BadSystem")) = some false
  sin : ClX.CRead K (He.ga K "StreamError") (.type "type") ∧ PySem.W.findCls K (.ref (He.ga K "StreamError")) (.type "type") "__init__" = some (.val (.builtin "ValueError.__init__"))
  c_Ratio : Cls K (He.ga K "Ratio")
  mk_Ratio : Mk K (He.ga K "Ratio") (He.ma K (He.ga K "Ratio") "__init__")
  isi_Ratio : PH.Isi K (He.ga K "Ratio")
  cm_Ratio_read : ClX.CRead K (He.ga K "Ratio") (.type "type") ∧ ClX.CMet K (He.ga K "Ratio") (.type "type") "read" (He.ma K (He.ga K "Ratio") "read") (He5.wf K (He.ga K "Ratio") "classmethod" "read")
  o_Ratio_add : PR.OwnB K (He.ga K "Ratio") (He.ma K (He.ga K "Ratio") "__add__") .Add
  o_Ratio_sub : PR.OwnB K (He.ga K "Ratio") (He.ma K (He.ga K "Ratio") "__sub__") .Sub
  o_Ratio_mul : PR.OwnB K (He.ga K "Ratio") (He.ma K (He.ga K "Ratio") "__mul__") .Mult
  d_Ratio_neg : PH.Df K (He.ga K "Ratio") "__neg__"
  d_Ratio_eq : PH.Df K (He.ga K "Ratio") "__eq__"
  ne_Ratio : PySem.W.findIn K (.ref (He.ga K "Ratio")) "__ne__" = some (some (.builtin "object.__ne__"))
  d_Ratio_lt : PH.Df K (He.ga K "Ratio") "__lt__"
  d_Ratio_le : PH.Df K (He.ga K "Ratio") "__le__"
  m_Ratio_over : Meth K (He.ga K "Ratio") "over" (He.ma K (He.ga K "Ratio") "over")
  m_Ratio_text : Meth K (He.ga K "Ratio") "text" (He.ma K (He.ga K "Ratio") "text")
  n_Ratio_top : NoAttr K (He.ga K "Ratio") "top"
  n_Ratio_bottom : NoAttr K (He.ga K "Ratio") "bottom"
  k_Ratio_Ratio : PySem.W.kitOne K (.ref (He.ga K "Ratio")) (.ref (He.ga K "Ratio")) = some true
  kt_Ratio_int : PySem.W.kitOne K (.ref (He.ga K "Ratio")) (.type "int") = some false
  kb_int_Ratio : PySem.W.kitOne K (.type "int") (.ref (He.ga K "Ratio")) = some false
  nf_Ratio_int : PySem.W.notFirst K (He.ga K "Ratio") (.type "int") = true
  kt_Ratio_bool : PySem.W.kitOne K (.ref (He.ga K "Ratio")) (.type "bool") = some false
  kb_bool_Ratio : PySem.W.kitOne K (.type "bool") (.ref (He.ga K "Ratio")) = some false
  nf_Ratio_bool : PySem.W.notFirst K (He.ga K "Ratio") (.type "bool") = true
  kt_Ratio_str : PySem.W.kitOne K (.ref (He.ga K "Ratio")) (.type "str") = some false
  kb_str_Ratio : PySem.W.kitOne K (.type "str") (.ref (He.ga K "Ratio")) = some false
  nf_Ratio_str : PySem.W.notFirst K (He.ga K "Ratio") (.type "str") = true
  kb_NoneType_Ratio : PySem.W.kitOne K (.type "NoneType") (.ref (He.ga K "Ratio")) = some false
  nf_Ratio_NoneType : PySem.W.notFirst K (He.ga K "Ratio") (.type "NoneType") = true
  kt_Ratio_list : PySem.W.kitOne K (.ref (He.ga K "Ratio")) (.type "list") = some false
  kb_list_Ratio : PySem.W.kitOne K (.type "list") (.ref (He.ga K "Ratio")) = some false
  nf_Ratio_list : PySem.W.notFirst K (He.ga K "Ratio") (.type "list") = true
  kt_Ratio_tuple : PySem.W.kitOne K (.ref (He.ga K "Ratio")) (.type "tuple") = some false
  kb_tuple_Ratio : PySem.W.kitOne K (.type "tuple") (.ref (He.ga K "Ratio")) = some false
  nf_Ratio_tuple : PySem.W.notFirst K (He.ga K "Ratio") (.type "tuple") = true
  kt_Ratio_dict : PySem.W.kitOne K (.ref (He.ga K "Ratio")) (.type "dict") = some false
  kb_dict_Ratio : PySem.W.kitOne K (.type "dict") (.ref (He.ga K "Ratio")) = some false
  nf_Ratio_dict : PySem.W.notFirst K (He.ga K "Ratio") (.type "dict") = true
  f_ByZero___init__ : ∃ fd, FunD K "__init__" "ByZero.__init__" (defArgs s_ByZero___init__) (defBody s_ByZero___init__) (defScope s_ByZero___init__) (d_ByZero___init__.dvs K) [] (d_ByZero___init__.at_ K) fd
  f_BadNumber___init__ : ∃ fd, FunD K "__init__" "BadNumber.__init__" (defArgs s_BadNumber___init__) (defBody s_BadNumber___init__) (defScope s_BadNumber___init__) (d_BadNumber___init__.dvs K) [] (d_BadNumber___init__.at_ K) fd
  f_BadText___init__ : ∃ fd, FunD K "__init__" "BadText.__init__" (defArgs s_BadText___init__) (defBody s_BadText___init__) (defScope s_BadText___init__) (d_BadText___init__.dvs K) [] (d_BadText___init__.at_ K) fd
  f_BadSystem___init__ : ∃ fd, FunD K "__init__" "BadSystem.__init__" (defArgs s_BadSystem___init__) (defBody s_BadSystem___init__) (defScope s_BadSystem___init__) (d_BadSystem___init__.dvs K) [] (d_BadSystem___init__.at_ K) fd
  f_is_integer : ∃ fd, FunD K "is_integer" "is_integer" (defArgs s_is_integer) (defBody s_is_integer) (defScope s_is_integer) (d_is_integer.dvs K) [] (d_is_integer.at_ K) fd
  f_divisor_of : ∃ fd, FunD K "divisor_of" "divisor_of" (defArgs s_divisor_of) (defBody s_divisor_of) (defScope s_divisor_of) (d_divisor_of.dvs K) [] (d_divisor_of.at_ K) fd
  f_parts : ∃ fd, FunD K "parts" "parts" (defArgs s_parts) (defBody s_parts) (defScope s_parts) (d_parts.dvs K) [] (d_parts.at_ K) fd
  f_checked : ∃ fd, FunD K "checked" "checked" (defArgs s_checked) (defBody s_checked) (defScope s_checked) (d_checked.dvs K) [] (d_checked.at_ K) fd
  f_Ratio___init__ : ∃ fd, FunD K "__init__" "Ratio.__init__" (defArgs s_Ratio___init__) (defBody s_Ratio___init__) (defScope s_Ratio___init__) (d_Ratio___init__.dvs K) [] (d_Ratio___init__.at_ K) fd
  f_Ratio_read : ∃ fd, FunD K "read" "Ratio.read" (defArgs s_Ratio_read) (defBody s_Ratio_read) (defScope s_Ratio_read) (d_Ratio_read.dvs K) [] (d_Ratio_read.at_ K) fd
  f_Ratio___add__ : ∃ fd, FunD K "__add__" "Ratio.__add__" (defArgs s_Ratio___add__) (defBody s_Ratio___add__) (defScope s_Ratio___add__) (d_Ratio___add__.dvs K) [] (d_Ratio___add__.at_ K) fd
  f_Ratio___sub__ : ∃ fd, FunD K "__sub__" "Ratio.__sub__" (defArgs s_Ratio___sub__) (defBody s_Ratio___sub__) (defScope s_Ratio___sub__) (d_Ratio___sub__.dvs K) [] (d_Ratio___sub__.at_ K) fd
  f_Ratio___mul__ : ∃ fd, FunD K "__mul__" "Ratio.__mul__" (defArgs s_Ratio___mul__) (defBody s_Ratio___mul__) (defScope s_Ratio___mul__) (d_Ratio___mul__.dvs K) [] (d_Ratio___mul__.at_ K) fd
  f_Ratio___neg__ : ∃ fd, FunD K "__neg__" "Ratio.__neg__" (defArgs s_Ratio___neg__) (defBody s_Ratio___neg__) (defScope s_Ratio___neg__) (d_Ratio___neg__.dvs K) [] (d_Ratio___neg__.at_ K) fd
  f_Ratio___eq__ : ∃ fd, FunD K "__eq__" "Ratio.__eq__" (defArgs s_Ratio___eq__) (defBody s_Ratio___eq__) (defScope s_Ratio___eq__) (d_Ratio___eq__.dvs K) [] (d_Ratio___eq__.at_ K) fd
  f_Ratio___lt__ : ∃ fd, FunD K "__lt__" "Ratio.__lt__" (defArgs s_Ratio___lt__) (defBody s_Ratio___lt__) (defScope s_Ratio___lt__) (d_Ratio___lt__.dvs K) [] (d_Ratio___lt__.at_ K) fd
  f_Ratio___le__ : ∃ fd, FunD K "__le__" "Ratio.__le__" (defArgs s_Ratio___le__) (defBody s_Ratio___le__) (defScope s_Ratio___le__) (d_Ratio___le__.dvs K) [] (d_Ratio___le__.at_ K) fd
  f_Ratio_over : ∃ fd, FunD K "over" "Ratio.over" (defArgs s_Ratio_over) (defBody s_Ratio_over) (defScope s_Ratio_over) (d_Ratio_over.dvs K) [] (d_Ratio_over.at_ K) fd
  f_Ratio_text : ∃ fd, FunD K "text" "Ratio.text" (defArgs s_Ratio_text) (defBody s_Ratio_text) (defScope s_Ratio_text) (d_Ratio_text.dvs K) [] (d_Ratio_text.at_ K) fd
  f_integer_of : ∃ fd, FunD K "integer_of" "integer_of" (defArgs s_integer_of) (defBody s_integer_of) (defScope s_integer_of) (d_integer_of.dvs K) [] (d_integer_of.at_ K) fd
  f_as_ratio : ∃ fd, FunD K "as_ratio" "as_ratio" (defArgs s_as_ratio) (defBody s_as_ratio) (defScope s_as_ratio) (d_as_ratio.dvs K) [] (d_as_ratio.at_ K) fd
  f_total : ∃ fd, FunD K "total" "total" (defArgs s_total) (defBody s_total) (defScope s_total) (d_total.dvs K) [] (d_total.at_ K) fd
  f_widened : ∃ fd, FunD K "widened" "widened" (defArgs s_widened) (defBody s_widened) (defScope s_widened) (d_widened.dvs K) [] (d_widened.at_ K) fd
  f_less_row : ∃ fd, FunD K "less_row" "less_row" (defArgs s_less_row) (defBody s_less_row) (defScope s_less_row) (d_less_row.dvs K) [] (d_less_row.at_ K) fd
  f_pivot_at : ∃ fd, FunD K "pivot_at" "pivot_at" (defArgs s_pivot_at) (defBody s_pivot_at) (defScope s_pivot_at) (d_pivot_at.dvs K) [] (d_pivot_at.at_ K) fd
  f_reduced : ∃ fd, FunD K "reduced" "reduced" (defArgs s_reduced) (defBody s_reduced) (defScope s_reduced) (d_reduced.dvs K) [] (d_reduced.at_ K) fd
  f_solved : ∃ fd, FunD K "solved" "solved" (defArgs s_solved) (defBody s_solved) (defScope s_solved) (d_solved.dvs K) [] (d_solved.at_ K) fd
  f_inverse : ∃ fd, FunD K "inverse" "inverse" (defArgs s_inverse) (defBody s_inverse) (defScope s_inverse) (d_inverse.dvs K) [] (d_inverse.at_ K) fd
  f_weighed : ∃ fd, FunD K "weighed" "weighed" (defArgs s_weighed) (defBody s_weighed) (defScope s_weighed) (d_weighed.dvs K) [] (d_weighed.at_ K) fd
  f_applied : ∃ fd, FunD K "applied" "applied" (defArgs s_applied) (defBody s_applied) (defScope s_applied) (d_applied.dvs K) [] (d_applied.at_ K) fd
  f_least_place : ∃ fd, FunD K "least_place" "least_place" (defArgs s_least_place) (defBody s_least_place) (defScope s_least_place) (d_least_place.dvs K) [] (d_least_place.at_ K) fd
  f__law_cell : ∃ fd, FunD K "_law_cell" "_law_cell" (defArgs s__law_cell) (defBody s__law_cell) (defScope s__law_cell) (d__law_cell.dvs K) [] (d__law_cell.at_ K) fd
  f__law_box : ∃ fd, FunD K "_law_box" "_law_box" (defArgs s__law_box) (defBody s__law_box) (defScope s__law_box) (d__law_box.dvs K) [] (d__law_box.at_ K) fd
  f__law_take : ∃ fd, FunD K "_law_take" "_law_take" (defArgs s__law_take) (defBody s__law_take) (defScope s__law_take) (d__law_take.dvs K) [] (d__law_take.at_ K) fd
  f__law_frac : ∃ fd, FunD K "_law_frac" "_law_frac" (defArgs s__law_frac) (defBody s__law_frac) (defScope s__law_frac) (d__law_frac.dvs K) [] (d__law_frac.at_ K) fd
  f__law_plus : ∃ fd, FunD K "_law_plus" "_law_plus" (defArgs s__law_plus) (defBody s__law_plus) (defScope s__law_plus) (d__law_plus.dvs K) [] (d__law_plus.at_ K) fd
  f__law_times : ∃ fd, FunD K "_law_times" "_law_times" (defArgs s__law_times) (defBody s__law_times) (defScope s__law_times) (d__law_times.dvs K) [] (d__law_times.at_ K) fd
  f__law_less : ∃ fd, FunD K "_law_less" "_law_less" (defArgs s__law_less) (defBody s__law_less) (defScope s__law_less) (d__law_less.dvs K) [] (d__law_less.at_ K) fd
  f__law_told : ∃ fd, FunD K "_law_told" "_law_told" (defArgs s__law_told) (defBody s__law_told) (defScope s__law_told) (d__law_told.dvs K) [] (d__law_told.at_ K) fd
  f__law_row : ∃ fd, FunD K "_law_row" "_law_row" (defArgs s__law_row) (defBody s__law_row) (defScope s__law_row) (d__law_row.dvs K) [] (d__law_row.at_ K) fd
  f__law_ratio : ∃ fd, FunD K "_law_ratio" "_law_ratio" (defArgs s__law_ratio) (defBody s__law_ratio) (defScope s__law_ratio) (d__law_ratio.dvs K) [] (d__law_ratio.at_ K) fd
  f__law_determinant : ∃ fd, FunD K "_law_determinant" "_law_determinant" (defArgs s__law_determinant) (defBody s__law_determinant) (defScope s__law_determinant) (d__law_determinant.dvs K) [] (d__law_determinant.at_ K) fd
  f__law_sum : ∃ fd, FunD K "_law_sum" "_law_sum" (defArgs s__law_sum) (defBody s__law_sum) (defScope s__law_sum) (d__law_sum.dvs K) [] (d__law_sum.at_ K) fd
  f__law_drawn : ∃ fd, FunD K "_law_drawn" "_law_drawn" (defArgs s__law_drawn) (defBody s__law_drawn) (defScope s__law_drawn) (d__law_drawn.dvs K) [] (d__law_drawn.at_ K) fd
  f__law_rows : ∃ fd, FunD K "_law_rows" "_law_rows" (defArgs s__law_rows) (defBody s__law_rows) (defScope s__law_rows) (d__law_rows.dvs K) [] (d__law_rows.at_ K) fd
  f__law_handed : ∃ fd, FunD K "_law_handed" "_law_handed" (defArgs s__law_handed) (defBody s__law_handed) (defScope s__law_handed) (d__law_handed.dvs K) [] (d__law_handed.at_ K) fd
  f__law_refused : ∃ fd, FunD K "_law_refused" "_law_refused" (defArgs s__law_refused) (defBody s__law_refused) (defScope s__law_refused) (d__law_refused.dvs K) [] (d__law_refused.at_ K) fd
  f__law_least : ∃ fd, FunD K "_law_least" "_law_least" (defArgs s__law_least) (defBody s__law_least) (defScope s__law_least) (d__law_least.dvs K) [] (d__law_least.at_ K) fd
  f_law : ∃ fd, FunD K "law" "law" (defArgs s_law) (defBody s_law) (defScope s_law) (d_law.dvs K) [] (d_law.at_ K) fd
theorem tx_of {K : PySem.W.Frag} {h : Heap} {mg : Str → Option Value} (X : K.In h) (G : h.Ns mainGlobals mg) (c : PH.SaysP fa fn K) : Tx K mg where
  g_StreamError := He.glo_ok X G (c.fact 0)
  g_ByZero := He.glo_ok X G (c.fact 1)
  g_BadNumber := He.glo_ok X G (c.fact 2)
  g_BadText := He.glo_ok X G (c.fact 3)
  g_BadSystem := He.glo_ok X G (c.fact 4)
  g_is_integer := He.glo_ok X G (c.fact 5)
  g_divisor_of := He.glo_ok X G (c.fact 6)
  g_parts := He.glo_ok X G (c.fact 7)
  g_checked := He.glo_ok X G (c.fact 8)
  g_Ratio := He.glo_ok X G (c.fact 9)
  g_integer_of := He.glo_ok X G (c.fact 10)
  g_as_ratio := He.glo_ok X G (c.fact 11)
  g_total := He.glo_ok X G (c.fact 12)
  g_widened := He.glo_ok X G (c.fact 13)
  g_less_row := He.glo_ok X G (c.fact 14)
  g_pivot_at := He.glo_ok X G (c.fact 15)
  g_reduced := He.glo_ok X G (c.fact 16)
  g_solved := He.glo_ok X G (c.fact 17)
  g_inverse := He.glo_ok X G (c.fact 18)
  g_weighed := He.glo_ok X G (c.fact 19)
  g_applied := He.glo_ok X G (c.fact 20)
  g_least_place := He.glo_ok X G (c.fact 21)
  g__law_cell := He.glo_ok X G (c.fact 22)
  g__law_box := He.glo_ok X G (c.fact 23)
  g__law_take := He.glo_ok X G (c.fact 24)
  g__law_frac := He.glo_ok X G (c.fact 25)
  g__law_plus := He.glo_ok X G (c.fact 26)
  g__law_times := He.glo_ok X G (c.fact 27)
  g__law_less := He.glo_ok X G (c.fact 28)
  g__law_told := He.glo_ok X G (c.fact 29)
  g__law_row := He.glo_ok X G (c.fact 30)
  g__law_ratio := He.glo_ok X G (c.fact 31)
  g__law_determinant := He.glo_ok X G (c.fact 32)
  g__law_sum := He.glo_ok X G (c.fact 33)
  g__law_drawn := He.glo_ok X G (c.fact 34)
  g__law_rows := He.glo_ok X G (c.fact 35)
  g__law_handed := He.glo_ok X G (c.fact 36)
  g__law_refused := He.glo_ok X G (c.fact 37)
  g__law_least := He.glo_ok X G (c.fact 38)
  g_law := He.glo_ok X G (c.fact 39)
  b_abs := He.free_ok X G (c.fact 40)
  b_all := He.free_ok X G (c.fact 41)
  b_bool := He.free_ok X G (c.fact 42)
  b_enumerate := He.free_ok X G (c.fact 43)
  b_int := He.free_ok X G (c.fact 44)
  b_isinstance := He.free_ok X G (c.fact 45)
  b_len := He.free_ok X G (c.fact 46)
  b_list := He.free_ok X G (c.fact 47)
  b_max := He.free_ok X G (c.fact 48)
  b_min := He.free_ok X G (c.fact 49)
  b_range := He.free_ok X G (c.fact 50)
  b_str := He.free_ok X G (c.fact 51)
  b_tuple := He.free_ok X G (c.fact 52)
  b_zip := He.free_ok X G (c.fact 53)
  x_ByZero := PH.oex_ok (c.fact 54)
  xi_ByZero := PH.def_ok (c.fact 55)
  xm_ByZero := He.exm_ok (c.fact 56)
  x_BadNumber := PH.oex_ok (c.fact 57)
  xi_BadNumber := PH.def_ok (c.fact 58)
  xf_BadNumber := PH.xf_ok (c.fact 59)
  xn_BadNumber := He.noat_ok (c.fact 60)
  xm_BadNumber := He.exm_ok (c.fact 61)
  x_BadText := PH.oex_ok (c.fact 62)
  xi_BadText := PH.def_ok (c.fact 63)
  xm_BadText := He.exm_ok (c.fact 64)
  x_BadSystem := PH.oex_ok (c.fact 65)
  xi_BadSystem := PH.def_ok (c.fact 66)
  xm_BadSystem := He.exm_ok (c.fact 67)
  xm_ByZero_BadSystem := He.exm_ok (c.fact 68)
  xm_BadNumber_BadSystem := He.exm_ok (c.fact 69)
  xm_BadText_BadSystem := He.exm_ok (c.fact 70)
  sin := PH.sin_ok (c.fact 71)
  c_Ratio := He.cls_ok (c.fact 72)
  mk_Ratio := He.mkr_ok (c.fact 73)
  isi_Ratio := PH.isi_ok (c.fact 74)
  cm_Ratio_read := PH.cm_ok (c.fact 75)
  o_Ratio_add := PH.ownB_ok (c.fact 76)
  o_Ratio_sub := PH.ownB_ok (c.fact 77)
  o_Ratio_mul := PH.ownB_ok (c.fact 78)
  d_Ratio_neg := PH.def_ok (c.fact 79)
  d_Ratio_eq := PH.def_ok (c.fact 80)
  ne_Ratio := PH.ne_ok (c.fact 81)
  d_Ratio_lt := PH.def_ok (c.fact 82)
  d_Ratio_le := PH.def_ok (c.fact 83)
  m_Ratio_over := He.meth_ok (c.fact 84)
  m_Ratio_text := He.meth_ok (c.fact 85)
  n_Ratio_top := He.noat_ok (c.fact 86)
  n_Ratio_bottom := He.noat_ok (c.fact 87)
  k_Ratio_Ratio := PH.kitO_ok (c.fact 88)
  kt_Ratio_int := PH.kitT_ok (c.fact 89)
  kb_int_Ratio := PH.kitB_ok (c.fact 90)
  nf_Ratio_int := PH.nf_ok (c.fact 91)
  kt_Ratio_bool := PH.kitT_ok (c.fact 92)
  kb_bool_Ratio := PH.kitB_ok (c.fact 93)
  nf_Ratio_bool := PH.nf_ok (c.fact 94)
  kt_Ratio_str := PH.kitT_ok (c.fact 95)
  kb_str_Ratio := PH.kitB_ok (c.fact 96)
  nf_Ratio_str := PH.nf_ok (c.fact 97)
  kb_NoneType_Ratio := PH.kitB_ok (c.fact 98)
  nf_Ratio_NoneType := PH.nf_ok (c.fact 99)
  kt_Ratio_list := PH.kitT_ok (c.fact 100)
  kb_list_Ratio := PH.kitB_ok (c.fact 101)
  nf_Ratio_list := PH.nf_ok (c.fact 102)
  kt_Ratio_tuple := PH.kitT_ok (c.fact 103)
  kb_tuple_Ratio := PH.kitB_ok (c.fact 104)
  nf_Ratio_tuple := PH.nf_ok (c.fact 105)
  kt_Ratio_dict := PH.kitT_ok (c.fact 106)
  kb_dict_Ratio := PH.kitB_ok (c.fact 107)
  nf_Ratio_dict := PH.nf_ok (c.fact 108)
  f_ByZero___init__ := c.def_ 0
  f_BadNumber___init__ := c.def_ 1
  f_BadText___init__ := c.def_ 2
  f_BadSystem___init__ := c.def_ 3
  f_is_integer := c.def_ 4
  f_divisor_of := c.def_ 5
  f_parts := c.def_ 6
  f_checked := c.def_ 7
  f_Ratio___init__ := c.def_ 8
  f_Ratio_read := c.def_ 9
  f_Ratio___add__ := c.def_ 10
  f_Ratio___sub__ := c.def_ 11
  f_Ratio___mul__ := c.def_ 12
  f_Ratio___neg__ := c.def_ 13
  f_Ratio___eq__ := c.def_ 14
  f_Ratio___lt__ := c.def_ 15
  f_Ratio___le__ := c.def_ 16
  f_Ratio_over := c.def_ 17
  f_Ratio_text := c.def_ 18
  f_integer_of := c.def_ 19
  f_as_ratio := c.def_ 20
  f_total := c.def_ 21
  f_widened := c.def_ 22
  f_less_row := c.def_ 23
  f_pivot_at := c.def_ 24
  f_reduced := c.def_ 25
  f_solved := c.def_ 26
  f_inverse := c.def_ 27
  f_weighed := c.def_ 28
  f_applied := c.def_ 29
  f_least_place := c.def_ 30
  f__law_cell := c.def_ 31
  f__law_box := c.def_ 32
  f__law_take := c.def_ 33
  f__law_frac := c.def_ 34
  f__law_plus := c.def_ 35
  f__law_times := c.def_ 36
  f__law_less := c.def_ 37
  f__law_told := c.def_ 38
  f__law_row := c.def_ 39
  f__law_ratio := c.def_ 40
  f__law_determinant := c.def_ 41
  f__law_sum := c.def_ 42
  f__law_drawn := c.def_ 43
  f__law_rows := c.def_ 44
  f__law_handed := c.def_ 45
  f__law_refused := c.def_ 46
  f__law_least := c.def_ 47
  f_law := c.def_ 48
end LW
namespace LW
open PySem PySem.Spec PyProof.Rows L2 PR
/-! ### a def of the text, by what its body must do -/
section
variable {P : Program} {w : World} {K : PySem.W.Frag} {mg : Str → Option Value} {base : Heap}
theorem fnr {x q : Str} {st : Stmt} {f : Addr} {N ps : List Str} {k : Nat} {sp : Sp} (D : ∃ fd, FunD K x q (defArgs st) (defBody st) (defScope st) [] [] f fd) (S : FnScope N ps (defScope st)) (len : ∀ vs H Q E, sp vs H Q E → vs.length = ps.length)
    (hb : ∀ (kV doc pm : Value) (an : Option Addr) (cdv ct : Value) (us : List Value), us.length = ps.length → bindArgs (PySem.W.fnOf x q (defArgs st) (defBody st) (defScope st) .none kV doc pm an cdv ct) ⟨us, []⟩ = pure (ps.zip us))
    (body : ∀ (cdv : Value) (A : Around) (outer : List Env) (s : Shared) (H : Hp) (vs : List V) (Q : VK) (E : XK), Room k (A.deeper (envOfC q (defScope st) s.heap.objs.size f cdv)) → sp vs H Q E →
      Wb (cxOf (L2.CX P w) P w K mg base N q (defScope st) f cdv A outer s H E) (defBody st) { nx := fun _ H' => Q .non H', rt := Q } (start N vs) H) : FnR P w K mg base (L2.CX P w) (k + 1) f sp := by
  obtain ⟨fd, F⟩ := D
  have F1 : FnOk P w K mg base (L2.CX P w) (k + 1) f fd ps sp := F.ok S len fun cdv A outer s H vs Q E hr h => ⟨_, pbW, body cdv A outer s H vs Q E hr h⟩
  have F2 := F1.raw (F.bindsN hb) .nil
  exact F2.imp fun vs H Q E h => by rw [List.append_nil]; exact h
end
theorem kept {K : PySem.W.Frag} {x q : Str} {ar : Arguments} {bd : List Stmt} {sc : Scope} {dv : List V} {kw : List (Str × V)} {f : Addr} (D : ∃ fd, FunD K x q ar bd sc dv kw f fd) : PySem.W.keepIn K (.ref f) = true := by
  obtain ⟨fd, F⟩ := D
  exact F.kp
theorem upd_back {H : Hp} {a : Addr} {o : HO} (h : H a = none) : del (upd H a o) a = H := by
  funext b
  by_cases e : b = a
  · rw [e, del_same, h]
  · rw [del_ne e, upd_ne e]
/-! ### errors -/
/-- an error without a value -/
def spErr0 (C : Addr) : Sp := fun vs H Q _ => ∃ a, vs = [.ref a] ∧ H a = some (exo a C none) ∧ Q .non H
/-- an error with one value, kept under f -/
def spErr1 (C : Addr) (f : Str) : Sp := fun vs H Q _ => ∃ a g, vs = [.ref a, g] ∧ H a = some (exo a C none) ∧ ∀ dx, H dx = none → dx ≠ a → Q .non (upd (upd H dx (exd dx [(f, g)])) a (exo a C (some dx)))
theorem same_new {H : Hp} {p : Addr} {o : HO} (h : H p = none) : Same H (upd H p o) := fun b u e => by
  rw [upd_ne (ne_of_none e h)]
  exact e
/-- // by any divisor but 0 below 2 ^ 9000 -/
def CDivA (_ j : Int) : Prop := j ≠ 0 ∧ j.natAbs < 2 ^ 9000
theorem op_fdivA {X : Cx} : OpR X (binaryOp .FloorDiv) (rI CDivA fun i j => .int (i.fdiv j)) := opI fun i j _ _ _ _ _ hc q =>
  floordiv_int hc.1 q (.inl (PyProof.noPylong_of_log2 (PySem.Flt.log2_lt_of (by decide) hc.2)))
end LW
namespace LW
open PySem PySem.Spec PyProof.Rows L2 PR
section
variable {P : Program} {w : World} {K : PySem.W.Frag} {mg : Str → Option Value} {base : Heap}
theorem sc_ByZero : FnScope ["self"] ["self"] (defScope s_ByZero___init__) := ⟨rfl, rfl, rfl, by decide +kernel, rfl, by decide +kernel, by decide +kernel⟩
theorem fn_ByZero (T : Tx K mg) : FnR P w K mg base (L2.CX P w) 1 (He.ma K (He.ga K "ByZero") "__init__") (spErr0 (He.ga K "ByZero")) := by
  refine fnr T.f_ByZero___init__ sc_ByZero (fun vs H Q E h => ?_) (fun _ _ _ _ _ _ us hl => match us, hl with | [_], _ => rfl) fun cdv A outer s H vs Q E hr h => ?_
  · obtain ⟨a, rfl, _⟩ := h
    rfl
  · obtain ⟨a, rfl, ha, k⟩ := h
    refine s_one (s_expr (we_of (pe_sinit rfl T.g_StreamError T.sin.1 T.sin.2 paW) ?_))
    exact a_cons (w_var 0 rfl (a_cons (w_str (a_nil ⟨a, _, _, rfl, by show 1 ≤ 1000; decide, T.x_ByZero, ha, k⟩))))
theorem mk_ByZero {X : Cx} {p pos : Pos} (T : Tx X.K X.mg) (hr : Room 2 X.A) (hg : Gl X "ByZero" := by rfl) :
    PMk X (.Call (.Name "ByZero" p) [] [] pos) (fun _ H Q => Q (.ref (He.ga X.K "ByZero")) none H) := by
  intro pins s σ H Q I h
  obtain ⟨fd, F⟩ := T.f_ByZero___init__
  have F1 : FnOk X.prog X.w X.K X.mg X.base (L2.CX X.prog X.w) 1 (He.ma X.K (He.ga X.K "ByZero") "__init__") fd ["self"] (spErr0 (He.ga X.K "ByZero")) := F.ok sc_ByZero (fun vs H Q E h => by obtain ⟨a, rfl, _⟩ := h; rfl) fun cdv A outer s H vs Q E hr h => by
    obtain ⟨a, rfl, ha, k⟩ := h
    refine ⟨_, pbW, ?_⟩
    refine s_one (s_expr (we_of (pe_sinit rfl T.g_StreamError T.sin.1 T.sin.2 paW) ?_))
    exact a_cons (w_var 0 rfl (a_cons (w_str (a_nil ⟨a, _, _, rfl, by show 1 ≤ 1000; decide, T.x_ByZero, ha, k⟩))))
  refine pmk_oex0 T.x_ByZero T.xi_ByZero.at_ T.xi_ByZero.ty F1 hr (F.bindsN fun _ _ _ _ _ _ us hl => match us, hl with | [_], _ => rfl) passL hg T.g_ByZero (by decide) pins s σ H Q I ?_
  intro a ha
  refine ⟨a, rfl, upd_same, rfl, upd_same, ?_⟩
  rw [upd_back ha]
  exact h
theorem sc_BadNumber : FnScope ["self", "given"] ["self", "given"] (defScope s_BadNumber___init__) := ⟨rfl, rfl, rfl, by decide +kernel, rfl, by decide +kernel, by decide +kernel⟩
theorem fn_BadNumber (T : Tx K mg) : FnR P w K mg base (L2.CX P w) 1 (He.ma K (He.ga K "BadNumber") "__init__") (spErr1 (He.ga K "BadNumber") "given") := by
  refine fnr T.f_BadNumber___init__ sc_BadNumber (fun vs H Q E h => ?_) (fun _ _ _ _ _ _ us hl => match us, hl with | [_, _], _ => rfl) fun cdv A outer s H vs Q E hr h => ?_
  · obtain ⟨a, g, rfl, _⟩ := h
    rfl
  · obtain ⟨a, g, rfl, ha, k⟩ := h
    refine s_cons (s_expr (we_of (pe_sinit rfl T.g_StreamError T.sin.1 T.sin.2 paW) ?_))
    refine a_cons (w_var 0 rfl (a_cons (w_str (a_nil ⟨a, _, _, rfl, by show 1 ≤ 1000; decide, T.x_BadNumber, ha, ?_⟩))))
    refine s_one (ws_of (ps_ost peW peW) ?_)
    exact w_var 1 rfl (w_var 0 rfl ⟨a, _, rfl, T.x_BadNumber, T.xn_BadNumber, .inl ⟨ha, fun dx h1 h2 => k dx h1 h2⟩⟩)
theorem mk_BadNumber {X : Cx} {e : Expr} {p pos : Pos} (T : Tx X.K X.mg) (hr : Room 2 X.A) (hg : Gl X "BadNumber" := by rfl) (he : starEach [e] X.env = (false, eval e X.env) :: starEach [] X.env := by rfl) :
    PMk X (.Call (.Name "BadNumber" p) [e] [] pos) (fun σ H Q => We X e σ H fun v H1 => ∀ d, H1 d = none → Q (.ref (He.ga X.K "BadNumber")) (some d) (upd H1 d (.xd [("given", v)]))) := by
  intro pins s σ H Q I h
  obtain ⟨fd, F⟩ := T.f_BadNumber___init__
  have F1 : FnOk X.prog X.w X.K X.mg X.base (L2.CX X.prog X.w) 1 (He.ma X.K (He.ga X.K "BadNumber") "__init__") fd ["self", "given"] (spErr1 (He.ga X.K "BadNumber") "given") := F.ok sc_BadNumber (fun vs H Q E h => by obtain ⟨a, g, rfl, _⟩ := h; rfl) fun cdv A outer s H vs Q E hr h => by
    obtain ⟨a, g, rfl, ha, k⟩ := h
    refine ⟨_, pbW, ?_⟩
    refine s_cons (s_expr (we_of (pe_sinit rfl T.g_StreamError T.sin.1 T.sin.2 paW) ?_))
    refine a_cons (w_var 0 rfl (a_cons (w_str (a_nil ⟨a, _, _, rfl, by show 1 ≤ 1000; decide, T.x_BadNumber, ha, ?_⟩))))
    refine s_one (ws_of (ps_ost peW peW) ?_)
    exact w_var 1 rfl (w_var 0 rfl ⟨a, _, rfl, T.x_BadNumber, T.xn_BadNumber, .inl ⟨ha, fun dx h1 h2 => k dx h1 h2⟩⟩)
  refine pmk_oex (dvs := []) (ds := []) T.x_BadNumber T.xi_BadNumber.at_ T.xi_BadNumber.ty F1 hr (F.bindsN fun _ _ _ _ _ _ us hl => match us, hl with | [_, _], _ => rfl) .nil passL hg T.g_BadNumber (pa_cons peW pa_nil he) (by decide) he (by rfl) pins s σ H Q I ?_
  refine We.mono h fun v H1 k => ⟨by show 1 ≤ 1000; decide, fun a ha => ?_⟩
  refine ⟨a, v, rfl, upd_same, fun dx h1 h2 => ?_⟩
  have hd : H1 dx = none := by rw [upd_ne h2] at h1; exact h1
  refine ⟨rfl, dx, _, upd_same, by rw [upd_ne h2, upd_same], hd, ?_⟩
  have e : upd (del (upd (upd (upd H1 a (exo a (He.ga X.K "BadNumber") none)) dx (exd dx [("given", v)])) a (exo a (He.ga X.K "BadNumber") (some dx))) a) dx (.xd [("given", v)]) = upd H1 dx (.xd [("given", v)]) := by
    funext b
    by_cases e1 : b = dx
    · rw [e1, upd_same, upd_same]
    · rw [upd_ne e1, upd_ne e1]
      by_cases e2 : b = a
      · rw [e2, del_same, ha]
      · rw [del_ne e2, upd_ne e2, upd_ne e1, upd_ne e2]
  rw [e]
  exact k dx hd
theorem sc_BadText : FnScope ["self"] ["self"] (defScope s_BadText___init__) := ⟨rfl, rfl, rfl, by decide +kernel, rfl, by decide +kernel, by decide +kernel⟩
theorem fn_BadText (T : Tx K mg) : FnR P w K mg base (L2.CX P w) 1 (He.ma K (He.ga K "BadText") "__init__") (spErr0 (He.ga K "BadText")) := by
  refine fnr T.f_BadText___init__ sc_BadText (fun vs H Q E h => ?_) (fun _ _ _ _ _ _ us hl => match us, hl with | [_], _ => rfl) fun cdv A outer s H vs Q E hr h => ?_
  · obtain ⟨a, rfl, _⟩ := h
    rfl
  · obtain ⟨a, rfl, ha, k⟩ := h
    refine s_one (s_expr (we_of (pe_sinit rfl T.g_StreamError T.sin.1 T.sin.2 paW) ?_))
    exact a_cons (w_var 0 rfl (a_cons (w_str (a_nil ⟨a, _, _, rfl, by show 1 ≤ 1000; decide, T.x_BadText, ha, k⟩))))
theorem mk_BadText {X : Cx} {p pos : Pos} (T : Tx X.K X.mg) (hr : Room 2 X.A) (hg : Gl X "BadText" := by rfl) :
    PMk X (.Call (.Name "BadText" p) [] [] pos) (fun _ H Q => Q (.ref (He.ga X.K "BadText")) none H) := by
  intro pins s σ H Q I h
  obtain ⟨fd, F⟩ := T.f_BadText___init__
  have F1 : FnOk X.prog X.w X.K X.mg X.base (L2.CX X.prog X.w) 1 (He.ma X.K (He.ga X.K "BadText") "__init__") fd ["self"] (spErr0 (He.ga X.K "BadText")) := F.ok sc_BadText (fun vs H Q E h => by obtain ⟨a, rfl, _⟩ := h; rfl) fun cdv A outer s H vs Q E hr h => by
    obtain ⟨a, rfl, ha, k⟩ := h
    refine ⟨_, pbW, ?_⟩
    refine s_one (s_expr (we_of (pe_sinit rfl T.g_StreamError T.sin.1 T.sin.2 paW) ?_))
    exact a_cons (w_var 0 rfl (a_cons (w_str (a_nil ⟨a, _, _, rfl, by show 1 ≤ 1000; decide, T.x_BadText, ha, k⟩))))
  refine pmk_oex0 T.x_BadText T.xi_BadText.at_ T.xi_BadText.ty F1 hr (F.bindsN fun _ _ _ _ _ _ us hl => match us, hl with | [_], _ => rfl) passL hg T.g_BadText (by decide) pins s σ H Q I ?_
  intro a ha
  refine ⟨a, rfl, upd_same, rfl, upd_same, ?_⟩
  rw [upd_back ha]
  exact h
theorem sc_BadSystem : FnScope ["self"] ["self"] (defScope s_BadSystem___init__) := ⟨rfl, rfl, rfl, by decide +kernel, rfl, by decide +kernel, by decide +kernel⟩
theorem fn_BadSystem (T : Tx K mg) : FnR P w K mg base (L2.CX P w) 1 (He.ma K (He.ga K "BadSystem") "__init__") (spErr0 (He.ga K "BadSystem")) := by
  refine fnr T.f_BadSystem___init__ sc_BadSystem (fun vs H Q E h => ?_) (fun _ _ _ _ _ _ us hl => match us, hl with | [_], _ => rfl) fun cdv A outer s H vs Q E hr h => ?_
  · obtain ⟨a, rfl, _⟩ := h
    rfl
  · obtain ⟨a, rfl, ha, k⟩ := h
    refine s_one (s_expr (we_of (pe_sinit rfl T.g_StreamError T.sin.1 T.sin.2 paW) ?_))
    exact a_cons (w_var 0 rfl (a_cons (w_str (a_nil ⟨a, _, _, rfl, by show 1 ≤ 1000; decide, T.x_BadSystem, ha, k⟩))))
theorem mk_BadSystem {X : Cx} {p pos : Pos} (T : Tx X.K X.mg) (hr : Room 2 X.A) (hg : Gl X "BadSystem" := by rfl) :
    PMk X (.Call (.Name "BadSystem" p) [] [] pos) (fun _ H Q => Q (.ref (He.ga X.K "BadSystem")) none H) := by
  intro pins s σ H Q I h
  obtain ⟨fd, F⟩ := T.f_BadSystem___init__
  have F1 : FnOk X.prog X.w X.K X.mg X.base (L2.CX X.prog X.w) 1 (He.ma X.K (He.ga X.K "BadSystem") "__init__") fd ["self"] (spErr0 (He.ga X.K "BadSystem")) := F.ok sc_BadSystem (fun vs H Q E h => by obtain ⟨a, rfl, _⟩ := h; rfl) fun cdv A outer s H vs Q E hr h => by
    obtain ⟨a, rfl, ha, k⟩ := h
    refine ⟨_, pbW, ?_⟩
    refine s_one (s_expr (we_of (pe_sinit rfl T.g_StreamError T.sin.1 T.sin.2 paW) ?_))
    exact a_cons (w_var 0 rfl (a_cons (w_str (a_nil ⟨a, _, _, rfl, by show 1 ≤ 1000; decide, T.x_BadSystem, ha, k⟩))))
  refine pmk_oex0 T.x_BadSystem T.xi_BadSystem.at_ T.xi_BadSystem.ty F1 hr (F.bindsN fun _ _ _ _ _ _ us hl => match us, hl with | [_], _ => rfl) passL hg T.g_BadSystem (by decide) pins s σ H Q I ?_
  intro a ha
  refine ⟨a, rfl, upd_same, rfl, upd_same, ?_⟩
  rw [upd_back ha]
  exact h
end
end LW
namespace LW
open PySem PySem.Spec PyProof.Rows L2 PR
/-! ### what a Ratio looks like -/
def rfs (q : Rat) : List (Str × V) := [("top", .int q.num), ("bottom", .int (q.den : Int))]
theorem tb : ¬ (("top" : Str) = "bottom") := by decide +kernel
theorem rfs_top (q : Rat) : (rfs q).lookup ("top" : Str) = some (.int q.num) := by
  unfold rfs
  rw [lookup_put, if_pos rfl]
theorem rfs_bot (q : Rat) : (rfs q).lookup ("bottom" : Str) = some (.int (q.den : Int)) := by
  unfold rfs
  rw [lookup_put, if_neg (fun e => tb e.symm), lookup_put, if_pos rfl]
theorem rfs_no (q : Rat) {m : Str} (h1 : ¬ m = "top") (h2 : ¬ m = "bottom") : (rfs q).lookup m = none := by
  unfold rfs
  rw [lookup_put, if_neg h1, lookup_put, if_neg h2]
  rfl
theorem rfs_put (x y : V) : putF "bottom" y (putF "top" x []) = [(("top" : Str), x), ("bottom", y)] := by
  show (if ("top" : Str) = "bottom" then _ else (("top" : Str), x) :: putF "bottom" y []) = _
  rw [if_neg tb]
  rfl
/-- v is the Ratio q -/
def Rt (K : PySem.W.Frag) (H : Hp) (v : V) (q : Rat) : Prop := ∃ a dx, v = .ref a ∧ H a = some (.ins (He.ga K "Ratio") dx (rfs q))
theorem Rt.same {K : PySem.W.Frag} {H H' : Hp} {v : V} {q : Rat} (h : Rt K H v q) (s : Same H H') : Rt K H' v q := by
  obtain ⟨a, dx, e, h⟩ := h
  exact ⟨a, dx, e, s _ _ h⟩
def kinds : List String := ["bool", "str", "NoneType", "list", "tuple", "dict"]
/-- what is handed in: a number, or another value -/
inductive Arg (K : PySem.W.Frag) (H : Hp) (v : V) : Option Rat → Prop where
  | int (n : Int) (e : v = .int n) : Arg K H v (some (n : Rat))
  | rat (q : Rat) (h : Rt K H v q) : Arg K H v (some q)
  | odd (t : String) (h : TyX K H v (.type t)) (m : t ∈ kinds) : Arg K H v none
section
variable {P : Program} {w : World} {K : PySem.W.Frag} {mg : Str → Option Value} {base : Heap}
/-! ### divisor_of -/
def spDiv : Sp := fun vs H Q _ => ∃ a b : Int, vs = [.int a, .int b] ∧ Q (.int (Int.gcd a b : Int)) H
theorem sc_divisor_of : FnScope ["one", "other"] ["one", "other"] (defScope s_divisor_of) := ⟨rfl, rfl, rfl, by decide +kernel, rfl, by decide +kernel, by decide +kernel⟩
theorem fn_divisor_of (T : Tx K mg) : FnR P w K mg base (L2.CX P w) 1 (He.ga K "divisor_of") spDiv := by
  refine fnr T.f_divisor_of sc_divisor_of (fun vs H Q E h => ?_) (fun _ _ _ _ _ _ us hl => match us, hl with | [_, _], _ => rfl) fun cdv A outer s H vs Q E hr h => ?_
  · obtain ⟨a, b, rfl, _⟩ := h
    rfl
  · obtain ⟨a, b, rfl, k⟩ := h
    refine s_cons (s_while (passes_of rfl) (fun σ H' => ∃ x y : Int, σ = [some (.int x), some (.int y)] ∧ H' = H ∧ Int.gcd x y = Int.gcd a b) (fun σ _ => match σ with | [_, some (.int y)] => y.natAbs | _ => 0) ⟨a, b, rfl, rfl, rfl⟩ ?_)
    rintro σ H' ⟨x, y, rfl, rfl, e⟩
    refine t_cmp op_ne (w_var 1 rfl (w_int ⟨rfl, _, rfl, ?_⟩))
    by_cases hy : y = 0
    · subst hy
      show if (!decide (V.int 0 = V.int 0)) = true then _ else _
      rw [decide_eq_true rfl]
      refine iteF ?_
      refine s_one (s_ret (w_callB call_abs T.b_abs (by decide +kernel) (a_cons (w_var 0 rfl (a_nil ⟨x, rfl, ?_⟩)))))
      have e2 : (if x < 0 then -x else x) = (Int.gcd a b : Int) := by
        rw [← e, Int.gcd_zero_right]
        split <;> omega
      rw [e2]
      exact k
    · have hd : decide (V.int y = V.int 0) = false := decide_eq_false fun z => hy (by cases z; rfl)
      show if (!decide (V.int y = V.int 0)) = true then _ else _
      rw [hd]
      refine iteT ?_
      refine s_one (s_par 0 1 sc_divisor_of.nd (a_cons (w_var 1 rfl (a_cons (w_op op_modN (w_var 0 rfl (w_var 1 rfl ⟨x, y, rfl, rfl, hy, a_nil ⟨_, _, rfl, ?_⟩⟩)))))))
      exact ⟨⟨y, x.fmod y, rfl, rfl, (RM.gcd_turn hy).trans e⟩, RM.fmod_small hy⟩
/-! ### is_integer -/
def spIsInt (K : PySem.W.Frag) : Sp := fun vs H Q _ => ∃ (x : V) (t : Value) (b1 b2 : Bool), vs = [x] ∧ TyX K H x t ∧ PySem.W.kitOne K t (.type "int") = some b1 ∧ PySem.W.kitOne K t (.type "bool") = some b2 ∧ Q (.bl (b1 && !b2)) H
theorem sc_is_integer : FnScope ["value"] ["value"] (defScope s_is_integer) := ⟨rfl, rfl, rfl, by decide +kernel, rfl, by decide +kernel, by decide +kernel⟩
theorem fn_is_integer (T : Tx K mg) : FnR P w K mg base (L2.CX P w) 1 (He.ga K "is_integer") (spIsInt K) := by
  refine fnr T.f_is_integer sc_is_integer (fun vs H Q E h => ?_) (fun _ _ _ _ _ _ us hl => match us, hl with | [_], _ => rfl) fun cdv A outer s H vs Q E hr h => ?_
  · obtain ⟨x, t, b1, b2, rfl, _⟩ := h
    rfl
  · obtain ⟨x, t, b1, b2, rfl, ty, k1, k2, q⟩ := h
    refine s_one (s_ret (w_and (w_callB call_isi T.b_isinstance (by decide +kernel) (a_cons (w_var 0 rfl (a_cons (w_bltn (v := .ty "int") T.b_int (by decide +kernel) rfl (a_nil ⟨x, .ty "int", t, .type "int", b1, rfl, .ty _, ty, k1, b1, rfl, ?_⟩))))))))
    cases b1 with
    | false => exact iteF q
    | true =>
      refine iteT (w_one (w_not ?_))
      exact w_callB call_isi T.b_isinstance (by decide +kernel) (a_cons (w_var 0 rfl (a_cons (w_bltn (v := .ty "bool") T.b_bool (by decide +kernel) rfl (a_nil ⟨x, .ty "bool", t, .type "bool", b2, rfl, .ty _, ty, k2, b2, rfl, q⟩)))))
/-! ### parts -/
def spParts (K : PySem.W.Frag) : Sp := fun vs H Q _ => ∃ (x : V) (o : Option Rat), vs = [x] ∧ Arg K H x o ∧ (∀ q, o = some q → ∀ p, H p = none → Q (.ref p) (upd H p (.tup [.int q.num, .int (q.den : Int)]))) ∧ (o = none → Q .non H)
theorem sc_parts : FnScope ["given"] ["given"] (defScope s_parts) := ⟨rfl, rfl, rfl, by decide +kernel, rfl, by decide +kernel, by decide +kernel⟩
theorem kit_kind {K : PySem.W.Frag} {t : String} (m : t ∈ kinds) : ∃ b1 b2, PySem.W.kitOne K (.type t) (.type "int") = some b1 ∧ PySem.W.kitOne K (.type t) (.type "bool") = some b2 ∧ (b1 && !b2) = false := by
  have one : ∀ {t : String} {b1 b2 : Bool}, kitB t "int" = some b1 → kitB t "bool" = some b2 → (b1 && !b2) = false → ∃ b1 b2, PySem.W.kitOne K (.type t) (.type "int") = some b1 ∧ PySem.W.kitOne K (.type t) (.type "bool") = some b2 ∧ (b1 && !b2) = false :=
    fun h1 h2 h3 => ⟨_, _, kit_ty h1, kit_ty h2, h3⟩
  unfold kinds at m
  simp only [List.mem_cons, List.not_mem_nil, or_false] at m
  rcases m with rfl | rfl | rfl | rfl | rfl | rfl
  · exact one (b1 := true) (b2 := true) (by decide +kernel) (by decide +kernel) rfl
  · exact one (b1 := false) (b2 := false) (by decide +kernel) (by decide +kernel) rfl
  · exact one (b1 := false) (b2 := false) (by decide +kernel) (by decide +kernel) rfl
  · exact one (b1 := false) (b2 := false) (by decide +kernel) (by decide +kernel) rfl
  · exact one (b1 := false) (b2 := false) (by decide +kernel) (by decide +kernel) rfl
  · exact one (b1 := false) (b2 := false) (by decide +kernel) (by decide +kernel) rfl
theorem kit_odd (T : Tx K mg) {t : String} (m : t ∈ kinds) : PySem.W.kitOne K (.type t) (.ref (He.ga K "Ratio")) = some false := by
  unfold kinds at m
  simp only [List.mem_cons, List.not_mem_nil, or_false] at m
  rcases m with rfl | rfl | rfl | rfl | rfl | rfl
  · exact T.kb_bool_Ratio
  · exact T.kb_str_Ratio
  · exact T.kb_NoneType_Ratio
  · exact T.kb_list_Ratio
  · exact T.kb_tuple_Ratio
  · exact T.kb_dict_Ratio
theorem Rt.ty (T : Tx K mg) {H : Hp} {v : V} {q : Rat} (h : Rt K H v q) : TyX K H v (.ref (He.ga K "Ratio")) := by
  obtain ⟨a, dx, rfl, h⟩ := h
  exact T.isi_Ratio.ty T.c_Ratio h
theorem fn_parts (T : Tx K mg) : FnR P w K mg base (L2.CX P w) 2 (He.ga K "parts") (spParts K) := by
  refine fnr T.f_parts sc_parts (fun vs H Q E h => ?_) (fun _ _ _ _ _ _ us hl => match us, hl with | [_], _ => rfl) fun cdv A outer s H vs Q E hr h => ?_
  · obtain ⟨x, o, rfl, _⟩ := h
    rfl
  · obtain ⟨x, o, rfl, ha, k1, k2⟩ := h
    refine s_cons (s_if (t_val (w_call (fn_is_integer T) hr T.g_is_integer (kept T.f_is_integer) passX (a_cons (w_var 0 rfl (a_nil ?_))))))
    cases ha with
    | int n e =>
      subst e
      refine ⟨_, _, _, _, rfl, .base (.int n), kit_ty (r := true) (by decide +kernel), kit_ty (r := false) (by decide +kernel), true, rfl, ?_⟩
      refine iteT (s_one (s_ret (w_tup (a_cons (w_var 0 rfl (a_cons (w_int (a_nil ⟨by show 2 ≤ sizeLine; decide, fun p hp => ?_⟩))))))))
      exact k1 _ rfl p hp
    | rat q h =>
      refine ⟨_, _, _, _, rfl, h.ty T, T.kt_Ratio_int, T.kt_Ratio_bool, false, rfl, iteF (s_nil ?_)⟩
      refine s_one (s_ret (w_ife (t_val (w_callB call_isi T.b_isinstance (by decide +kernel) (a_cons (w_var 0 rfl (a_cons (w_ref T.g_Ratio (a_nil ⟨x, .ref (He.ga K "Ratio"), _, .ref (He.ga K "Ratio"), true, rfl, .own _, h.ty T, T.k_Ratio_Ratio, true, rfl, iteT ?_⟩)))))))))
      obtain ⟨a, dx, rfl, h⟩ := h
      refine w_tup (a_cons (w_fld (w_var 0 rfl ⟨a, _, dx, _, _, rfl, h, T.c_Ratio, T.n_Ratio_top, rfs_top q, ?_⟩)))
      refine a_cons (w_fld (w_var 0 rfl ⟨a, _, dx, _, _, rfl, h, T.c_Ratio, T.n_Ratio_bottom, rfs_bot q, ?_⟩))
      exact a_nil ⟨by show 2 ≤ sizeLine; decide, fun p hp => k1 q rfl p hp⟩
    | odd t h m =>
      obtain ⟨b1, b2, e1, e2, e3⟩ := kit_kind (K := K) m
      refine ⟨_, _, _, _, rfl, h, e1, e2, false, by rw [e3], iteF (s_nil ?_)⟩
      refine s_one (s_ret (w_ife (t_val (w_callB call_isi T.b_isinstance (by decide +kernel) (a_cons (w_var 0 rfl (a_cons (w_ref T.g_Ratio (a_nil ⟨x, .ref (He.ga K "Ratio"), _, .ref (He.ga K "Ratio"), false, rfl, .own _, h, kit_odd T m, false, rfl, iteF ?_⟩)))))))))
      exact w_non (k2 rfl)
/-! ### checked -/
def spChecked (K : PySem.W.Frag) : Sp := fun vs H Q E => ∃ (x : V) (o : Option Rat), vs = [x] ∧ Arg K H x o ∧ (∀ q, o = some q → ∀ p, H p = none → Q (.ref p) (upd H p (.tup [.int q.num, .int (q.den : Int)]))) ∧
  (o = none → ∀ d, H d = none → E (.ref (He.ga K "BadNumber")) (some d) (upd H d (.xd [("given", x)])))
theorem sc_checked : FnScope ["given", "found"] ["given"] (defScope s_checked) := ⟨rfl, rfl, rfl, by decide +kernel, rfl, by decide +kernel, by decide +kernel⟩
theorem fn_checked (T : Tx K mg) : FnR P w K mg base (L2.CX P w) 3 (He.ga K "checked") (spChecked K) := by
  refine fnr T.f_checked sc_checked (fun vs H Q E h => ?_) (fun _ _ _ _ _ _ us hl => match us, hl with | [_], _ => rfl) fun cdv A outer s H vs Q E hr h => ?_
  · obtain ⟨x, o, rfl, _⟩ := h
    rfl
  · obtain ⟨x, o, rfl, ha, k1, k2⟩ := h
    refine s_cons (s_set 1 sc_checked.nd (w_call (fn_parts T) hr T.g_parts (kept T.f_parts) passX (a_cons (w_var 0 rfl (a_nil ⟨x, o, rfl, ha, fun q e p hp => ?_, fun e => ?_⟩)))))
    · refine s_cons (s_if (t_cmp op_isN (w_var 1 rfl (w_non ⟨rfl, false, rfl, iteF (s_nil ?_)⟩))))
      exact s_one (s_ret (w_var 1 rfl (k1 q e p hp)))
    · refine s_cons (s_if (t_cmp op_isN (w_var 1 rfl (w_non ⟨rfl, true, rfl, iteT ?_⟩))))
      exact s_one (s_raise rfl (takes_of (E := E) rfl rfl rfl rfl) (mk_BadNumber T hr) (w_var 0 rfl fun d hd => k2 e d hd))
end
end LW
namespace LW
open PySem PySem.Spec PyProof.Rows L2 PR
theorem s_unp2 {X : Cx} {e : Expr} {σ : L2.St} {H : Hp} {D : Ends} {pos px py pt : Pos} {x y : Str} {kt} (i j : Nat) (hN : X.N.Nodup) (h : We X e σ H fun v H1 => ∃ a u w, v = .ref a ∧ SqT X.K H1 a [u, w] ∧ D.nx ((σ.set i (some u)).set j (some w)) H1)
    (hi : X.N[i]? = some x := by rfl) (hj : X.N[j]? = some y := by rfl) (hx : Loc X.env.scope x := by first | exact Or.inl rfl | exact Or.inr rfl) (hy : Loc X.env.scope y := by first | exact Or.inl rfl | exact Or.inr rfl)
    (fx : X.fn x = true ∨ X.env.scope.names.lookup x = some .local := by first | exact .inl rfl | exact .inr rfl) (fy : X.fn y = true ∨ X.env.scope.names.lookup y = some .local := by first | exact .inl rfl | exact .inr rfl) (hc : X.calm = true := by rfl)
    (hs : swapsWithSole [.Tuple [.Name x px, .Name y py] kt pt] e pos.line X.env = pure false := by rfl) (hw : swappedStores [.Tuple [.Name x px, .Name y py] kt pt] e X.env = pure none := by rfl) (h1 : (assignEach [.Tuple [.Name x px, .Name y py] kt pt] X.env).map (·.2) = [assign (.Tuple [.Name x px, .Name y py] kt pt) X.env] := by rfl) :
    Ws X (.Assign [.Tuple [.Name x px, .Name y py] kt pt] e pos) D σ H := by
  refine s_asg (pg_tup (n := 2) hc (pgs_cons (pg_name (i := i) hN hi hx fx) (pgs_cons (pg_name (i := j) hN hj hy fy) pgs_nil))) (We.mono h fun v H1 z => ?_) hs hw h1
  obtain ⟨a, u, w, rfl, hq, q⟩ := z
  exact ⟨a, _, rfl, hq, rfl, u, [w], rfl, w, [], rfl, rfl, q⟩
section
variable {P : Program} {w : World} {K : PySem.W.Frag} {mg : Str → Option Value} {base : Heap}
/-! ### Ratio.__init__ -/
def spInit (K : PySem.W.Frag) : Sp := fun vs H Q E => ∃ (a dx : Addr) (t b : Int), vs = [.ref a, .int t, .int b] ∧ H a = some (.ins (He.ga K "Ratio") dx []) ∧ b.natAbs < 2 ^ 9000 ∧
  (b ≠ 0 → Q .non (upd H a (.ins (He.ga K "Ratio") dx (rfs (Rat.divInt t b))))) ∧ (b = 0 → E (.ref (He.ga K "ByZero")) none H)
theorem sc_Ratio_init : FnScope ["self", "top", "bottom", "divisor"] ["self", "top", "bottom"] (defScope s_Ratio___init__) := ⟨rfl, rfl, rfl, by decide +kernel, rfl, by decide +kernel, by decide +kernel⟩
theorem ok_Ratio_init (T : Tx K mg) {fd : FuncData} {dv : List V} (F : FunD K "__init__" "Ratio.__init__" (defArgs s_Ratio___init__) (defBody s_Ratio___init__) (defScope s_Ratio___init__) dv [] (He.ma K (He.ga K "Ratio") "__init__") fd) :
    FnOk P w K mg base (L2.CX P w) 3 (He.ma K (He.ga K "Ratio") "__init__") fd ["self", "top", "bottom"] (spInit K) := by
  refine F.ok sc_Ratio_init (fun vs H Q E h => ?_) fun cdv A outer s H vs Q E hr h => ⟨_, pbW, ?_⟩
  · obtain ⟨a, dx, t, b, rfl, _⟩ := h
    rfl
  · obtain ⟨a, dx, t, b, rfl, ha, hb, k1, k2⟩ := h
    refine s_cons (s_if (t_cmp op_eq (w_var 2 rfl (w_int ⟨rfl, _, rfl, ?_⟩))))
    by_cases e : b = 0
    · subst e
      show if decide (V.int 0 = V.int 0) = true then _ else _
      rw [decide_eq_true rfl]
      exact iteT (s_one (s_raise rfl (takes_of (E := E) rfl rfl rfl rfl) (mk_ByZero T hr) (k2 rfl)))
    · have hd : decide (V.int b = V.int 0) = false := decide_eq_false fun z => e (by cases z; rfl)
      show if decide (V.int b = V.int 0) = true then _ else _
      rw [hd]
      refine iteF (s_nil ?_)
      have hs := RM.sg_ne (a := t) e
      have hg : (RM.sg t b).natAbs < 2 ^ 9000 := by
        have h1 : (RM.sg t b).natAbs = Int.gcd t b := by unfold RM.sg; split <;> omega
        rw [h1]
        exact Nat.lt_of_le_of_lt (Int.gcd_le_natAbs_right t e) hb
      have rest : ∀ H1, H1 = H → ∀ v, v = V.int (RM.sg t b) → Wb (cxOf (L2.CX P w) P w K mg base ["self", "top", "bottom", "divisor"] "Ratio.__init__" (defScope s_Ratio___init__) (He.ma K (He.ga K "Ratio") "__init__") cdv A outer s H E) ((defBody s_Ratio___init__).drop 2)
          { nx := fun _ H' => Q .non H', rt := Q } [some (.ref a), some (.int t), some (.int b), some v] H1 := by
        rintro H1 rfl v rfl
        refine s_cons (s_fld (w_op op_fdivA (w_var 1 rfl (w_var 3 rfl ⟨t, _, rfl, rfl, ⟨hs, hg⟩, w_var 0 rfl ⟨a, _, dx, _, rfl, ha, T.c_Ratio, T.n_Ratio_top, by show 0 < 1000; decide, ?_⟩⟩))))
        refine s_one (s_fld (w_op op_fdivA (w_var 2 rfl (w_var 3 rfl ⟨b, _, rfl, rfl, ⟨hs, hg⟩, w_var 0 rfl ⟨a, _, dx, _, rfl, upd_same, T.c_Ratio, T.n_Ratio_bottom, by show 1 < 1000; decide, ?_⟩⟩))))
        have z := k1 e
        rw [upd_upd]
        have e2 : putF "bottom" (V.int (b.fdiv (RM.sg t b))) (putF "top" (V.int (t.fdiv (RM.sg t b))) []) = rfs (Rat.divInt t b) := by
          rw [rfs_put, RM.num_eq e, RM.den_eq e]
          rfl
        show Q .non (upd H1 a (.ins (He.ga K "Ratio") dx (putF "bottom" (V.int (b.fdiv (RM.sg t b))) (putF "top" (V.int (t.fdiv (RM.sg t b))) []))))
        rw [e2]
        exact z
      refine s_cons (s_set 3 sc_Ratio_init.nd (w_ife (t_cmp op_gt (w_var 2 rfl (w_int ⟨b, 0, rfl, rfl, _, rfl, ?_⟩)))))
      have hr1 : Room 1 _ := hr.mono (by decide)
      by_cases hp : 0 < b
      · rw [decide_eq_true hp]
        refine iteT (w_call (fn_divisor_of T) hr1 T.g_divisor_of (kept T.f_divisor_of) passX (a_cons (w_var 1 rfl (a_cons (w_var 2 rfl (a_nil ⟨t, b, rfl, ?_⟩))))))
        exact rest H rfl _ (by unfold RM.sg; rw [if_pos hp])
      · rw [decide_eq_false hp]
        refine iteF (w_un un_neg (w_call (fn_divisor_of T) hr1 T.g_divisor_of (kept T.f_divisor_of) passX (a_cons (w_var 1 rfl (a_cons (w_var 2 rfl (a_nil ⟨t, b, rfl, _, rfl, ?_⟩)))))))
        exact rest H rfl _ (by unfold RM.sg; rw [if_neg hp])
theorem fn_Ratio3 (T : Tx K mg) : FnR P w K mg base (L2.CX P w) 3 (He.ma K (He.ga K "Ratio") "__init__") (spInit K) := by
  obtain ⟨fd, F⟩ := T.f_Ratio___init__
  obtain ⟨ds, hv, hb⟩ := FunD.binds1 (ps := ["self", "top", "bottom"]) F 3 1 (by intro z; cases z) rfl (fun T0 kV doc pm an cdv ct us its h1 h2 => match us, its, h1, h2 with | [_, _, _], [_], _, _ => ⟨_, rfl, rfl⟩)
  have F2 := (ok_Ratio_init (P := P) (w := w) (base := base) T F).raw hb (dvs := []) hv
  exact F2.imp fun vs H Q E h => by rw [List.append_nil]; exact h
theorem fn_Ratio2 (T : Tx K mg) : FnR P w K mg base (L2.CX P w) 3 (He.ma K (He.ga K "Ratio") "__init__") (fun vs H Q E => spInit K (vs ++ [.int 1]) H Q E) := by
  obtain ⟨fd, F⟩ := T.f_Ratio___init__
  obtain ⟨ds, hv, hb⟩ := FunD.binds1 (ps := ["self", "top", "bottom"]) F 2 0 (by intro z; cases z) rfl (fun T0 kV doc pm an cdv ct us its h1 h2 => match us, its, h1, h2 with | [_, _], [_], _, _ => ⟨_, rfl, rfl⟩)
  exact (ok_Ratio_init (P := P) (w := w) (base := base) T F).raw hb (dvs := [.int 1]) hv
end
section
variable {X : Cx} {e e1 e2 : Expr} {σ : L2.St} {H : Hp} {Q : VK} {E : XK} {p pos : Pos}
theorem same_made {H : Hp} {x dx : Addr} {o u : HO} (hx : H x = none) (hd : H dx = none) : Same H (upd (upd H dx o) x u) := fun b v e => by
  rw [upd_ne (ne_of_none e hx), upd_ne (ne_of_none e hd)]
  exact e
theorem same_over {H : Hp} {x dx : Addr} {o u v : HO} (hx : H x = none) (hd : H dx = none) : Same H (upd (upd (upd H dx o) x u) x v) := by
  rw [upd_upd]
  exact same_made hx hd
/-- Ratio(t, b) -/
theorem w_ratio (T : Tx X.K X.mg) (hr : Room 4 X.A) (hx : Passes (L2.CX X.prog X.w) X E)
    (h : Wa X [e1, e2] σ H fun vs H1 => ∃ t b, vs = [.int t, .int b] ∧ b.natAbs < 2 ^ 9000 ∧ (b ≠ 0 → ∀ v H', Same H1 H' → Rt X.K H' v (Rat.divInt t b) → Q v H') ∧ (b = 0 → ∀ H', Same H1 H' → E (.ref (He.ga X.K "ByZero")) none H'))
    (hg : Gl X "Ratio" := by rfl) (he : starEach [e1, e2] X.env = (false, eval e1 X.env) :: starEach [e2] X.env := by rfl) (hpl : (backTo pos (starEach [e2] X.env)).any (·.1) = false := by rfl) : We X (.Call (.Name "Ratio" p) [e1, e2] [] pos) σ H Q := by
  refine w_make T.mk_Ratio (fn_Ratio3 T) hr T.g_Ratio hx (Wa.mono h fun vs H1 z => ?_) hg (by decide) he hpl
  obtain ⟨t, b, rfl, hb, k1, k2⟩ := z
  intro x dx h1 h2 h3
  exact ⟨x, dx, t, b, rfl, upd_same, hb, fun hn => ⟨rfl, k1 hn _ _ (same_over h1 h2) ⟨x, dx, rfl, upd_same⟩⟩, fun hz => k2 hz _ (same_made h1 h2)⟩
/-- Ratio(t) -/
theorem w_ratio1 (T : Tx X.K X.mg) (hr : Room 4 X.A) (hx : Passes (L2.CX X.prog X.w) X E)
    (h : Wa X [e1] σ H fun vs H1 => ∃ t : Int, vs = [.int t] ∧ (∀ v H', Same H1 H' → Rt X.K H' v (t : Rat) → Q v H'))
    (hg : Gl X "Ratio" := by rfl) (he : starEach [e1] X.env = (false, eval e1 X.env) :: starEach [] X.env := by rfl) (hpl : (backTo pos (starEach [] X.env)).any (·.1) = false := by rfl) : We X (.Call (.Name "Ratio" p) [e1] [] pos) σ H Q := by
  refine w_make T.mk_Ratio (fn_Ratio2 T) hr T.g_Ratio hx (Wa.mono h fun vs H1 z => ?_) hg (by decide) he hpl
  obtain ⟨t, rfl, k1⟩ := z
  intro x dx h1 h2 h3
  refine ⟨x, dx, t, 1, rfl, upd_same, by decide +kernel, fun hn => ⟨rfl, k1 _ _ (same_over h1 h2) ⟨x, dx, rfl, ?_⟩⟩, fun hz => absurd hz (by decide)⟩
  rw [upd_same, RM.int_eq]
/-- checked(e) of a number -/
theorem w_checked (T : Tx X.K X.mg) (hr : Room 3 X.A) (hx : Passes (L2.CX X.prog X.w) X E) (h : We X e σ H fun x H1 => ∃ q, Arg X.K H1 x (some q) ∧ ∀ p, H1 p = none → Q (.ref p) (upd H1 p (.tup [.int q.num, .int (q.den : Int)])))
    (hg : Gl X "checked" := by rfl) (he : starEach [e] X.env = (false, eval e X.env) :: starEach [] X.env := by rfl) (hpl : (backTo pos (starEach [] X.env)).any (·.1) = false := by rfl) : We X (.Call (.Name "checked" p) [e] [] pos) σ H Q := by
  refine w_call (fn_checked T) hr T.g_checked (kept T.f_checked) hx (a_cons (We.mono h fun x H1 z => ?_) he) hg (by decide) he hpl
  obtain ⟨q, ha, k⟩ := z
  exact a_nil ⟨x, some q, rfl, ha, fun q' e => by cases e; exact k, fun e => nomatch e⟩
/-- x.top, x.bottom of a Ratio in slot i -/
theorem w_top (T : Tx X.K X.mg) (h : We X e σ H fun x H1 => ∃ q, Rt X.K H1 x q ∧ Q (.int q.num) H1) (hb : attributeBase e "top" X.env (eval e X.env) = eval e X.env := by rfl) : We X (.Attribute e "top" pos) σ H Q :=
  w_fld (We.mono h fun x H1 ⟨q, ⟨a, dx, ex, ha⟩, k⟩ => ⟨a, _, dx, _, _, ex, ha, T.c_Ratio, T.n_Ratio_top, rfs_top q, k⟩) hb
theorem w_bot (T : Tx X.K X.mg) (h : We X e σ H fun x H1 => ∃ q, Rt X.K H1 x q ∧ Q (.int (q.den : Int)) H1) (hb : attributeBase e "bottom" X.env (eval e X.env) = eval e X.env := by rfl) : We X (.Attribute e "bottom" pos) σ H Q :=
  w_fld (We.mono h fun x H1 ⟨q, ⟨a, dx, ex, ha⟩, k⟩ => ⟨a, _, dx, _, _, ex, ha, T.c_Ratio, T.n_Ratio_bottom, rfs_bot q, k⟩) hb
end
end LW
namespace LW
open PySem PySem.Spec PyProof.Rows L2 PR
section
variable {P : Program} {w : World} {K : PySem.W.Frag} {mg : Str → Option Value} {base : Heap}
/-- both numbers together below 2 ^ 9000 -/
def spBin (K : PySem.W.Frag) (f : Rat → Rat → Rat) : Sp := fun vs H Q _ => ∃ (x y : V) (p q : Rat), vs = [x, y] ∧ Rt K H x p ∧ Arg K H y (some q) ∧ RM.Fit p q ∧ ∀ v H', Same H H' → Rt K H' v (f p q) → Q v H'
def spCmp (K : PySem.W.Frag) (f : Rat → Rat → Bool) : Sp := fun vs H Q _ => ∃ (x y : V) (p q : Rat), vs = [x, y] ∧ Rt K H x p ∧ Arg K H y (some q) ∧ RM.Fit p q ∧ ∀ H', Same H H' → Q (.bl (f p q)) H'
def spNeg (K : PySem.W.Frag) : Sp := fun vs H Q _ => ∃ (x : V) (p : Rat), vs = [x] ∧ Rt K H x p ∧ RM.Lt p 9000 ∧ ∀ v H', Same H H' → Rt K H' v (-p) → Q v H'
def spEq (K : PySem.W.Frag) : Sp := fun vs H Q _ => ∃ (x y : V) (p : Rat) (o : Option Rat), vs = [x, y] ∧ Rt K H x p ∧ Arg K H y o ∧ ∀ H', Same H H' → Q (.bl (decide (o = some p))) H'
def spOver (K : PySem.W.Frag) : Sp := fun vs H Q E => ∃ (x y : V) (p q : Rat), vs = [x, y] ∧ Rt K H x p ∧ Arg K H y (some q) ∧ RM.Fit p q ∧ (q ≠ 0 → ∀ v H', Same H H' → Rt K H' v (p / q) → Q v H') ∧ (q = 0 → ∀ H', Same H H' → E (.ref (He.ga K "ByZero")) none H')
theorem cmulF {i j : Int} {a b : Nat} (hi : i.natAbs < 2 ^ a) (hj : j.natAbs < 2 ^ b) (h : a + b ≤ 9000) : CMulW i j := wide_mul (RM.pow_le hi (Nat.le_succ a)) (RM.pow_le hj (Nat.le_succ b)) (Nat.succ_pos a) (Nat.succ_pos b) (by omega)
theorem bot_ltF {i j : Int} {a b : Nat} (hi : i.natAbs < 2 ^ a) (hj : j.natAbs < 2 ^ b) (h : a + b ≤ 9000) : (i * j).natAbs < 2 ^ 9000 := RM.pow_le (RM.pow_mul_lt hi hj) h
theorem sc_add : FnScope ["self", "other", "top", "bottom"] ["self", "other"] (defScope s_Ratio___add__) := ⟨rfl, rfl, rfl, by decide +kernel, rfl, by decide +kernel, by decide +kernel⟩
theorem fn_add (T : Tx K mg) : FnR P w K mg base (L2.CX P w) 5 (He.ma K (He.ga K "Ratio") "__add__") (spBin K (· + ·)) := by
  refine fnr T.f_Ratio___add__ sc_add (fun vs H Q E h => ?_) (fun _ _ _ _ _ _ us hl => match us, hl with | [_, _], _ => rfl) fun cdv A outer s H vs Q E hr h => ?_
  · obtain ⟨x, y, p, q, rfl, _⟩ := h
    rfl
  · obtain ⟨x, y, p, q, rfl, hx, hy, ⟨na, nb, lp, lq, lab⟩, k⟩ := h
    refine s_cons (s_unp2 2 3 sc_add.nd (w_checked T (hr.mono (by decide)) passX (w_var 1 rfl ⟨q, hy, fun t ht => ⟨t, _, _, rfl, SqT.of upd_same, ?_⟩⟩)))
    have st : Same H _ := same_new (o := .tup [.int q.num, .int (q.den : Int)]) ht
    have hx' := hx.same st
    refine s_one (s_ret (w_ratio T hr passX (a_cons (w_op op_add (w_op op_mulW (w_top T (w_var 0 rfl ⟨p, hx', w_var 3 rfl ⟨_, _, rfl, rfl, cmulF lp.1 (RM.den_lt lq) (by omega), ?_⟩⟩)))))))
    refine w_op op_mulW (w_var 2 rfl (w_bot T (w_var 0 rfl ⟨p, hx', _, _, rfl, rfl, cmulF lq.1 (RM.den_lt lp) (by omega), _, _, rfl, rfl, ?_⟩)))
    refine a_cons (w_op op_mulW (w_bot T (w_var 0 rfl ⟨p, hx', w_var 3 rfl ⟨_, _, rfl, rfl, cmulF (RM.den_lt lp) (RM.den_lt lq) (by omega), ?_⟩⟩)))
    refine a_nil ⟨_, _, rfl, bot_ltF (RM.den_lt lp) (RM.den_lt lq) (by omega), fun _ v H' s2 hv => k v H' (st.trans s2) ?_, fun z => absurd z (RM.mul_den_ne p q)⟩
    show Rt K H' v (p + q)
    rw [RM.add_eq]
    exact hv
theorem sc_sub : FnScope ["self", "other", "top", "bottom"] ["self", "other"] (defScope s_Ratio___sub__) := ⟨rfl, rfl, rfl, by decide +kernel, rfl, by decide +kernel, by decide +kernel⟩
theorem fn_sub (T : Tx K mg) : FnR P w K mg base (L2.CX P w) 5 (He.ma K (He.ga K "Ratio") "__sub__") (spBin K (· - ·)) := by
  refine fnr T.f_Ratio___sub__ sc_sub (fun vs H Q E h => ?_) (fun _ _ _ _ _ _ us hl => match us, hl with | [_, _], _ => rfl) fun cdv A outer s H vs Q E hr h => ?_
  · obtain ⟨x, y, p, q, rfl, _⟩ := h
    rfl
  · obtain ⟨x, y, p, q, rfl, hx, hy, ⟨na, nb, lp, lq, lab⟩, k⟩ := h
    refine s_cons (s_unp2 2 3 sc_sub.nd (w_checked T (hr.mono (by decide)) passX (w_var 1 rfl ⟨q, hy, fun t ht => ⟨t, _, _, rfl, SqT.of upd_same, ?_⟩⟩)))
    have st : Same H _ := same_new (o := .tup [.int q.num, .int (q.den : Int)]) ht
    have hx' := hx.same st
    refine s_one (s_ret (w_ratio T hr passX (a_cons (w_op op_sub (w_op op_mulW (w_top T (w_var 0 rfl ⟨p, hx', w_var 3 rfl ⟨_, _, rfl, rfl, cmulF lp.1 (RM.den_lt lq) (by omega), ?_⟩⟩)))))))
    refine w_op op_mulW (w_var 2 rfl (w_bot T (w_var 0 rfl ⟨p, hx', _, _, rfl, rfl, cmulF lq.1 (RM.den_lt lp) (by omega), _, _, rfl, rfl, ?_⟩)))
    refine a_cons (w_op op_mulW (w_bot T (w_var 0 rfl ⟨p, hx', w_var 3 rfl ⟨_, _, rfl, rfl, cmulF (RM.den_lt lp) (RM.den_lt lq) (by omega), ?_⟩⟩)))
    refine a_nil ⟨_, _, rfl, bot_ltF (RM.den_lt lp) (RM.den_lt lq) (by omega), fun _ v H' s2 hv => k v H' (st.trans s2) ?_, fun z => absurd z (RM.mul_den_ne p q)⟩
    show Rt K H' v (p - q)
    rw [RM.sub_eq]
    exact hv
theorem sc_mul : FnScope ["self", "other", "top", "bottom"] ["self", "other"] (defScope s_Ratio___mul__) := ⟨rfl, rfl, rfl, by decide +kernel, rfl, by decide +kernel, by decide +kernel⟩
theorem fn_mul (T : Tx K mg) : FnR P w K mg base (L2.CX P w) 5 (He.ma K (He.ga K "Ratio") "__mul__") (spBin K (· * ·)) := by
  refine fnr T.f_Ratio___mul__ sc_mul (fun vs H Q E h => ?_) (fun _ _ _ _ _ _ us hl => match us, hl with | [_, _], _ => rfl) fun cdv A outer s H vs Q E hr h => ?_
  · obtain ⟨x, y, p, q, rfl, _⟩ := h
    rfl
  · obtain ⟨x, y, p, q, rfl, hx, hy, ⟨na, nb, lp, lq, lab⟩, k⟩ := h
    refine s_cons (s_unp2 2 3 sc_mul.nd (w_checked T (hr.mono (by decide)) passX (w_var 1 rfl ⟨q, hy, fun t ht => ⟨t, _, _, rfl, SqT.of upd_same, ?_⟩⟩)))
    have st : Same H _ := same_new (o := .tup [.int q.num, .int (q.den : Int)]) ht
    have hx' := hx.same st
    refine s_one (s_ret (w_ratio T hr passX (a_cons (w_op op_mulW (w_top T (w_var 0 rfl ⟨p, hx', w_var 2 rfl ⟨_, _, rfl, rfl, cmulF lp.1 lq.1 (by omega), ?_⟩⟩))))))
    refine a_cons (w_op op_mulW (w_bot T (w_var 0 rfl ⟨p, hx', w_var 3 rfl ⟨_, _, rfl, rfl, cmulF (RM.den_lt lp) (RM.den_lt lq) (by omega), ?_⟩⟩)))
    refine a_nil ⟨_, _, rfl, bot_ltF (RM.den_lt lp) (RM.den_lt lq) (by omega), fun _ v H' s2 hv => k v H' (st.trans s2) ?_, fun z => absurd z (RM.mul_den_ne p q)⟩
    show Rt K H' v (p * q)
    rw [RM.mul_eq]
    exact hv
theorem sc_neg : FnScope ["self"] ["self"] (defScope s_Ratio___neg__) := ⟨rfl, rfl, rfl, by decide +kernel, rfl, by decide +kernel, by decide +kernel⟩
theorem fn_neg (T : Tx K mg) : FnR P w K mg base (L2.CX P w) 5 (He.ma K (He.ga K "Ratio") "__neg__") (spNeg K) := by
  refine fnr T.f_Ratio___neg__ sc_neg (fun vs H Q E h => ?_) (fun _ _ _ _ _ _ us hl => match us, hl with | [_], _ => rfl) fun cdv A outer s H vs Q E hr h => ?_
  · obtain ⟨x, p, rfl, _⟩ := h
    rfl
  · obtain ⟨x, p, rfl, hx, lp, k⟩ := h
    refine s_one (s_ret (w_ratio T hr passX (a_cons (w_un un_neg (w_top T (w_var 0 rfl ⟨p, hx, _, rfl, ?_⟩))))))
    refine a_cons (w_bot T (w_var 0 rfl ⟨p, hx, a_nil ⟨_, _, rfl, RM.pow_le (RM.den_lt lp) (by decide), fun _ v H' s2 hv => k v H' s2 ?_, fun z => absurd z (RM.den_ne p)⟩⟩))
    rw [RM.neg_eq]
    exact hv
theorem eqv_pair (a b c d : Int) : PyData.eqv (.tuple [.int a, .int b]) (.tuple [.int c, .int d]) = decide (a = c ∧ b = d) := by
  show (decide (a = c) && (decide (b = d) && true)) = _
  by_cases h1 : a = c <;> by_cases h2 : b = d <;> simp [h1, h2]
theorem sc_eq : FnScope ["self", "other"] ["self", "other"] (defScope s_Ratio___eq__) := ⟨rfl, rfl, rfl, by decide +kernel, rfl, by decide +kernel, by decide +kernel⟩
theorem fn_eq (T : Tx K mg) : FnR P w K mg base (L2.CX P w) 3 (He.ma K (He.ga K "Ratio") "__eq__") (spEq K) := by
  refine fnr T.f_Ratio___eq__ sc_eq (fun vs H Q E h => ?_) (fun _ _ _ _ _ _ us hl => match us, hl with | [_, _], _ => rfl) fun cdv A outer s H vs Q E hr h => ?_
  · obtain ⟨x, y, p, o, rfl, _⟩ := h
    rfl
  · obtain ⟨x, y, p, o, rfl, hx, hy, k⟩ := h
    refine s_one (s_ret (w_cmp (op_eqD hr.units) (w_call (fn_parts T) hr T.g_parts (kept T.f_parts) passX (a_cons (w_var 1 rfl (a_nil ⟨y, o, rfl, hy, fun q e t ht => ?_, fun e => ?_⟩))))))
    · have st : Same H _ := same_new (o := .tup [.int q.num, .int (q.den : Int)]) ht
      have hx' := hx.same st
      refine w_tup (a_cons (w_top T (w_var 0 rfl ⟨p, hx', a_cons (w_bot T (w_var 0 rfl ⟨p, hx', a_nil ⟨by show 2 ≤ sizeLine; decide, fun u hu => ?_⟩⟩))⟩)))
      have ne : t ≠ u := ne_of_none upd_same hu
      refine ⟨_, _, .tup (SqT.of (by rw [upd_ne ne, upd_same])) (.cons (.int _) (.cons (.int _) .nil)), .tup (SqT.of upd_same) (.cons (.int _) (.cons (.int _) .nil)), rfl, rfl, ?_⟩
      rw [eqv_pair]
      have z := k _ (st.trans (same_new (o := .tup [.int p.num, .int (p.den : Int)]) hu))
      have e2 : decide (o = some p) = decide (q.num = p.num ∧ (q.den : Int) = (p.den : Int)) := by
        subst e
        refine decide_eq_decide.mpr ⟨fun h => by cases h; exact ⟨rfl, rfl⟩, fun h => ?_⟩
        rw [(RM.eq_iff q p).mpr ⟨h.1, by omega⟩]
      rw [e2] at z
      exact z
    · refine w_tup (a_cons (w_top T (w_var 0 rfl ⟨p, hx, a_cons (w_bot T (w_var 0 rfl ⟨p, hx, a_nil ⟨by show 2 ≤ sizeLine; decide, fun u hu => ?_⟩⟩))⟩)))
      refine ⟨_, _, .non, .tup (SqT.of upd_same) (.cons (.int _) (.cons (.int _) .nil)), rfl, rfl, ?_⟩
      have z := k _ (same_new (o := .tup [.int p.num, .int (p.den : Int)]) hu)
      subst e
      exact z
theorem sc_lt : FnScope ["self", "other", "top", "bottom"] ["self", "other"] (defScope s_Ratio___lt__) := ⟨rfl, rfl, rfl, by decide +kernel, rfl, by decide +kernel, by decide +kernel⟩
theorem fn_lt (T : Tx K mg) : FnR P w K mg base (L2.CX P w) 4 (He.ma K (He.ga K "Ratio") "__lt__") (spCmp K fun p q => decide (p < q)) := by
  refine fnr T.f_Ratio___lt__ sc_lt (fun vs H Q E h => ?_) (fun _ _ _ _ _ _ us hl => match us, hl with | [_, _], _ => rfl) fun cdv A outer s H vs Q E hr h => ?_
  · obtain ⟨x, y, p, q, rfl, _⟩ := h
    rfl
  · obtain ⟨x, y, p, q, rfl, hx, hy, ⟨na, nb, lp, lq, lab⟩, k⟩ := h
    refine s_cons (s_unp2 2 3 sc_lt.nd (w_checked T hr passX (w_var 1 rfl ⟨q, hy, fun t ht => ⟨t, _, _, rfl, SqT.of upd_same, ?_⟩⟩)))
    have st : Same H _ := same_new (o := .tup [.int q.num, .int (q.den : Int)]) ht
    have hx' := hx.same st
    refine s_one (s_ret (w_cmp op_lt (w_op op_mulW (w_top T (w_var 0 rfl ⟨p, hx', w_var 3 rfl ⟨_, _, rfl, rfl, cmulF lp.1 (RM.den_lt lq) (by omega), ?_⟩⟩)))))
    refine w_op op_mulW (w_var 2 rfl (w_bot T (w_var 0 rfl ⟨p, hx', _, _, rfl, rfl, cmulF lq.1 (RM.den_lt lp) (by omega), _, _, rfl, rfl, ?_⟩)))
    have z : Q (.bl (decide (p < q))) _ := k _ st
    rw [show decide (p < q) = decide (p.num * (q.den : Int) < q.num * (p.den : Int)) from decide_eq_decide.mpr (RM.lt_iff p q)] at z
    exact z
theorem sc_le : FnScope ["self", "other", "top", "bottom"] ["self", "other"] (defScope s_Ratio___le__) := ⟨rfl, rfl, rfl, by decide +kernel, rfl, by decide +kernel, by decide +kernel⟩
theorem fn_le (T : Tx K mg) : FnR P w K mg base (L2.CX P w) 4 (He.ma K (He.ga K "Ratio") "__le__") (spCmp K fun p q => decide (p ≤ q)) := by
  refine fnr T.f_Ratio___le__ sc_le (fun vs H Q E h => ?_) (fun _ _ _ _ _ _ us hl => match us, hl with | [_, _], _ => rfl) fun cdv A outer s H vs Q E hr h => ?_
  · obtain ⟨x, y, p, q, rfl, _⟩ := h
    rfl
  · obtain ⟨x, y, p, q, rfl, hx, hy, ⟨na, nb, lp, lq, lab⟩, k⟩ := h
    refine s_cons (s_unp2 2 3 sc_le.nd (w_checked T hr passX (w_var 1 rfl ⟨q, hy, fun t ht => ⟨t, _, _, rfl, SqT.of upd_same, ?_⟩⟩)))
    have st : Same H _ := same_new (o := .tup [.int q.num, .int (q.den : Int)]) ht
    have hx' := hx.same st
    refine s_one (s_ret (w_cmp op_le (w_op op_mulW (w_top T (w_var 0 rfl ⟨p, hx', w_var 3 rfl ⟨_, _, rfl, rfl, cmulF lp.1 (RM.den_lt lq) (by omega), ?_⟩⟩)))))
    refine w_op op_mulW (w_var 2 rfl (w_bot T (w_var 0 rfl ⟨p, hx', _, _, rfl, rfl, cmulF lq.1 (RM.den_lt lp) (by omega), _, _, rfl, rfl, ?_⟩)))
    have z : Q (.bl (decide (p ≤ q))) _ := k _ st
    rw [show decide (p ≤ q) = decide (p.num * (q.den : Int) ≤ q.num * (p.den : Int)) from decide_eq_decide.mpr (RM.le_iff p q)] at z
    exact z
end
end LW
namespace LW
open PySem PySem.Spec PyProof.Rows L2 PR
theorem Arg.same {K : PySem.W.Frag} {H H' : Hp} {v : V} {q : Rat} (h : Arg K H v (some q)) (s : Same H H') : Arg K H' v (some q) := by
  generalize ho : some q = o at h
  cases h with
  | int n e => exact .int n e
  | rat p h => exact .rat p (h.same s)
  | odd t h m => cases ho
theorem Arg.mate {K : PySem.W.Frag} {H : Hp} {v : V} {q : Rat} (h : Arg K H v (some q)) : Mate (He.ga K "Ratio") H v := by
  generalize ho : some q = o at h
  cases h with
  | int n e => exact .inr ⟨n, e⟩
  | rat p h => obtain ⟨a, dx, e, h⟩ := h; exact .inl ⟨a, dx, _, e, h⟩
  | odd t h m => cases ho
theorem Arg.ty {K : PySem.W.Frag} {mg : Str → Option Value} {H : Hp} {v : V} {o : Option Rat} (T : Tx K mg) (h : Arg K H v o) : ∃ t, TyX K H v t ∧ PySem.W.notFirst K (He.ga K "Ratio") t = true := by
  cases h with
  | int n e => subst e; exact ⟨_, .base (.int n), T.nf_Ratio_int⟩
  | rat p h => exact ⟨_, h.ty T, PH.nf_self _ _⟩
  | odd t h m =>
    refine ⟨_, h, ?_⟩
    unfold kinds at m
    simp only [List.mem_cons, List.not_mem_nil, or_false] at m
    rcases m with rfl | rfl | rfl | rfl | rfl | rfl
    · exact T.nf_Ratio_bool
    · exact T.nf_Ratio_str
    · exact T.nf_Ratio_NoneType
    · exact T.nf_Ratio_list
    · exact T.nf_Ratio_tuple
    · exact T.nf_Ratio_dict
section
variable {X : Cx} {a b e : Expr} {σ : L2.St} {H : Hp} {Q : VK} {Qb : Bool → Hp → Prop} {E : XK} {p pos apos : Pos}
/-- x + y and its like, x a Ratio, y a number -/
def rNum (K : PySem.W.Frag) (f : Rat → Rat → Rat) : R2 := fun x y H Q => ∃ p q, Rt K H x p ∧ Arg K H y (some q) ∧ RM.Fit p q ∧ ∀ v H', Same H H' → Rt K H' v (f p q) → Q v H'
theorem op_own_imp {f : Value → Value → Sem Value} {r r' : R2} (h : OpR X f r) (k : ∀ x y H Q, r' x y H Q → r x y H Q) : OpR X f r' := fun pins s σ H x y v u Q I rx ry q => h pins s σ H x y v u Q I rx ry (k x y H Q q)
theorem un_imp {f : Value → Sem Value} {r r' : V → Hp → VK → Prop} (h : UnR X f r) (k : ∀ x H Q, r' x H Q → r x H Q) : UnR X f r' := fun pins s σ H x v Q I rx q => h pins s σ H x v Q I rx (k x H Q q)
theorem op_radd (T : Tx X.K X.mg) (hr : Room 5 X.A) : OpR X (binaryOp .Add) (rNum X.K (· + ·)) := op_own_imp (op_ownB T.o_Ratio_add (fn_add T) hr passL) fun x y H Q ⟨p, q, hx, hy, lf, k⟩ => by
  obtain ⟨a, dx, e, h⟩ := id hx
  exact ⟨a, dx, _, e, h, hy.mate, x, y, p, q, rfl, hx, hy, lf, k⟩
theorem op_rsub (T : Tx X.K X.mg) (hr : Room 5 X.A) : OpR X (binaryOp .Sub) (rNum X.K (· - ·)) := op_own_imp (op_ownB T.o_Ratio_sub (fn_sub T) hr passL) fun x y H Q ⟨p, q, hx, hy, lf, k⟩ => by
  obtain ⟨a, dx, e, h⟩ := id hx
  exact ⟨a, dx, _, e, h, hy.mate, x, y, p, q, rfl, hx, hy, lf, k⟩
theorem op_rmul (T : Tx X.K X.mg) (hr : Room 5 X.A) : OpR X (binaryOp .Mult) (rNum X.K (· * ·)) := op_own_imp (op_ownB T.o_Ratio_mul (fn_mul T) hr passL) fun x y H Q ⟨p, q, hx, hy, lf, k⟩ => by
  obtain ⟨a, dx, e, h⟩ := id hx
  exact ⟨a, dx, _, e, h, hy.mate, x, y, p, q, rfl, hx, hy, lf, k⟩
theorem un_rneg (T : Tx X.K X.mg) (hr : Room 5 X.A) : UnR X (unaryOp .USub) (fun x H Q => ∃ p, Rt X.K H x p ∧ RM.Lt p 9000 ∧ ∀ v H', Same H H' → Rt X.K H' v (-p) → Q v H') :=
  un_imp (un_own T.d_Ratio_neg.at_ T.d_Ratio_neg.fn (fn_neg T) hr passL) fun x H Q ⟨p, hx, lp, k⟩ => by
  obtain ⟨a, dx, e, h⟩ := id hx
  exact ⟨a, dx, _, e, h, x, p, rfl, hx, lp, k⟩
def rNumB (K : PySem.W.Frag) (f : Rat → Rat → Bool) : R2 := fun x y H Q => ∃ p q, Rt K H x p ∧ Arg K H y (some q) ∧ RM.Fit p q ∧ ∀ H', Same H H' → Q (.bl (f p q)) H'
def rNumE (K : PySem.W.Frag) (g : Bool → Bool) : R2 := fun x y H Q => ∃ p o, Rt K H x p ∧ Arg K H y o ∧ ∀ H', Same H H' → Q (.bl (g (decide (o = some p)))) H'
theorem op_rlt (T : Tx X.K X.mg) (hr : Room 4 X.A) : OpR X (compareOp .Lt) (rNumB X.K fun p q => decide (p < q)) := op_own_imp (op_ownC (fun _ _ => rfl) T.d_Ratio_lt.at_ T.d_Ratio_lt.fn (fn_lt T) hr passL) fun x y H Q ⟨p, q, hx, hy, lf, k⟩ => by
  obtain ⟨a, dx, e, h⟩ := id hx
  obtain ⟨t, ty, nf⟩ := hy.ty T
  exact ⟨a, dx, _, t, e, h, ty, nf, x, y, p, q, rfl, hx, hy, lf, k⟩
theorem op_rle (T : Tx X.K X.mg) (hr : Room 4 X.A) : OpR X (compareOp .LtE) (rNumB X.K fun p q => decide (p ≤ q)) := op_own_imp (op_ownC (fun _ _ => rfl) T.d_Ratio_le.at_ T.d_Ratio_le.fn (fn_le T) hr passL) fun x y H Q ⟨p, q, hx, hy, lf, k⟩ => by
  obtain ⟨a, dx, e, h⟩ := id hx
  obtain ⟨t, ty, nf⟩ := hy.ty T
  exact ⟨a, dx, _, t, e, h, ty, nf, x, y, p, q, rfl, hx, hy, lf, k⟩
theorem op_req (T : Tx X.K X.mg) (hr : Room 3 X.A) : OpR X (compareOp .Eq) (rNumE X.K fun b => b) := op_own_imp (op_ownC (fun _ _ => rfl) T.d_Ratio_eq.at_ T.d_Ratio_eq.fn (fn_eq T) hr passL) fun x y H Q ⟨p, o, hx, hy, k⟩ => by
  obtain ⟨a, dx, e, h⟩ := id hx
  obtain ⟨t, ty, nf⟩ := hy.ty T
  exact ⟨a, dx, _, t, e, h, ty, nf, x, y, p, o, rfl, hx, hy, k⟩
theorem op_rne (T : Tx X.K X.mg) (hr : Room 4 X.A) : OpR X (compareOp .NotEq) (rNumE X.K fun b => !b) := op_own_imp (op_ownN T.d_Ratio_eq.at_ T.d_Ratio_eq.fn T.ne_Ratio T.isi_Ratio.hm (fn_eq T) hr passL) fun x y H Q ⟨p, o, hx, hy, k⟩ => by
  obtain ⟨a, dx, e, h⟩ := id hx
  obtain ⟨t, ty, nf⟩ := hy.ty T
  exact ⟨a, dx, _, t, e, h, ty, nf, x, y, p, o, rfl, hx, hy, fun H' s => ⟨_, rfl, k H' s⟩⟩
end
end LW
namespace LW
open PySem PySem.Spec PyProof.Rows L2 PR
section
variable {P : Program} {w : World} {K : PySem.W.Frag} {mg : Str → Option Value} {base : Heap}
/-! ### over -/
theorem sc_over : FnScope ["self", "number", "top", "bottom"] ["self", "number"] (defScope s_Ratio_over) := ⟨rfl, rfl, rfl, by decide +kernel, rfl, by decide +kernel, by decide +kernel⟩
theorem wb_over (T : Tx K mg) {cdv : Value} {A : Around} {outer : List Env} {s : Shared} {H : Hp} {vs : List V} {Q : VK} {E : XK} (hr : Room 4 (A.deeper (envOfC "Ratio.over" (defScope s_Ratio_over) s.heap.objs.size (He.ma K (He.ga K "Ratio") "over") cdv))) (h : spOver K vs H Q E) :
    Wb (cxOf (L2.CX P w) P w K mg base ["self", "number", "top", "bottom"] "Ratio.over" (defScope s_Ratio_over) (He.ma K (He.ga K "Ratio") "over") cdv A outer s H E) (defBody s_Ratio_over) { nx := fun _ H' => Q .non H', rt := Q } (start ["self", "number", "top", "bottom"] vs) H := by
  obtain ⟨x, y, p, q, rfl, hx, hy, ⟨na, nb, lp, lq, lab⟩, k1, k2⟩ := h
  refine s_cons (s_unp2 2 3 sc_over.nd (w_checked T (hr.mono (by decide)) passX (w_var 1 rfl ⟨q, hy, fun t ht => ⟨t, _, _, rfl, SqT.of upd_same, ?_⟩⟩)))
  have st : Same H _ := same_new (o := .tup [.int q.num, .int (q.den : Int)]) ht
  have hx' := hx.same st
  refine s_one (s_ret (w_ratio T hr passX (a_cons (w_op op_mulW (w_top T (w_var 0 rfl ⟨p, hx', w_var 3 rfl ⟨_, _, rfl, rfl, cmulF lp.1 (RM.den_lt lq) (by omega), ?_⟩⟩))))))
  refine a_cons (w_op op_mulW (w_bot T (w_var 0 rfl ⟨p, hx', w_var 2 rfl ⟨_, _, rfl, rfl, cmulF (RM.den_lt lp) lq.1 (by omega), ?_⟩⟩)))
  refine a_nil ⟨_, _, rfl, bot_ltF (RM.den_lt lp) lq.1 (by omega), fun hn v H' s2 hv => k1 ?_ v H' (st.trans s2) ?_, fun z H' s2 => k2 ?_ H' (st.trans s2)⟩
  · intro hq
    subst hq
    exact hn (by show (p.den : Int) * 0 = 0; omega)
  · rw [RM.div_eq]
    exact hv
  · rcases Int.mul_eq_zero.mp z with z | z
    · exact absurd z (RM.den_ne p)
    · exact Rat.num_eq_zero.mp z
theorem len_over : ∀ vs H Q E, spOver K vs H Q E → vs.length = (["self", "number"] : List Str).length := fun vs H Q E h => by
  obtain ⟨x, y, p, q, rfl, _⟩ := h
  rfl
theorem fn_over (T : Tx K mg) : FnR P w K mg base (L2.CX P w) 5 (He.ma K (He.ga K "Ratio") "over") (spOver K) :=
  fnr T.f_Ratio_over sc_over len_over (fun _ _ _ _ _ _ us hl => match us, hl with | [_, _], _ => rfl) fun cdv A outer s H vs Q E hr h => wb_over T hr h
end
end LW
namespace LW
open PySem PySem.Spec PyProof.Rows L2 PR
section
variable {P : Program} {w : World} {K : PySem.W.Frag} {mg : Str → Option Value} {base : Heap}
/-! ### as_ratio -/
def spAs (K : PySem.W.Frag) : Sp := fun vs H Q E => ∃ (x : V) (o : Option Rat), vs = [x] ∧ Arg K H x o ∧ (∀ q, o = some q → RM.Lt q 9000 ∧ ∀ v H', Same H H' → Rt K H' v q → Q v H') ∧
  (o = none → ∀ d, H d = none → E (.ref (He.ga K "BadNumber")) (some d) (upd H d (.xd [("given", x)])))
theorem sc_as_ratio : FnScope ["given", "top", "bottom"] ["given"] (defScope s_as_ratio) := ⟨rfl, rfl, rfl, by decide +kernel, rfl, by decide +kernel, by decide +kernel⟩
theorem wb_as_ratio (T : Tx K mg) {cdv : Value} {A : Around} {outer : List Env} {s : Shared} {H : Hp} {vs : List V} {Q : VK} {E : XK} (hr : Room 4 (A.deeper (envOfC "as_ratio" (defScope s_as_ratio) s.heap.objs.size (He.ga K "as_ratio") cdv))) (h : spAs K vs H Q E) :
    Wb (cxOf (L2.CX P w) P w K mg base ["given", "top", "bottom"] "as_ratio" (defScope s_as_ratio) (He.ga K "as_ratio") cdv A outer s H E) (defBody s_as_ratio) { nx := fun _ H' => Q .non H', rt := Q } (start ["given", "top", "bottom"] vs) H := by
  obtain ⟨x, o, rfl, ha, k1, k2⟩ := h
  refine s_cons (s_unp2 1 2 sc_as_ratio.nd (w_call (fn_checked T) (hr.mono (by decide)) T.g_checked (kept T.f_checked) passX (a_cons (w_var 0 rfl (a_nil ⟨x, o, rfl, ha, fun q e t ht => ⟨t, _, _, rfl, SqT.of upd_same, ?_⟩, k2⟩)))))
  obtain ⟨lq, k⟩ := k1 q e
  have st : Same H _ := same_new (o := .tup [.int q.num, .int (q.den : Int)]) ht
  refine s_one (s_ret (w_ratio T hr passX (a_cons (w_var 1 rfl (a_cons (w_var 2 rfl (a_nil ⟨_, _, rfl, lq.2, fun _ v H' s2 hv => k v H' (st.trans s2) ?_, fun z => absurd z (RM.den_ne q)⟩)))))))
  rw [Rat.num_divInt_den] at hv
  exact hv
theorem len_as_ratio : ∀ vs H Q E, spAs K vs H Q E → vs.length = (["given"] : List Str).length := fun vs H Q E h => by
  obtain ⟨x, o, rfl, _⟩ := h
  rfl
theorem fn_as_ratio (T : Tx K mg) : FnR P w K mg base (L2.CX P w) 5 (He.ga K "as_ratio") (spAs K) :=
  fnr T.f_as_ratio sc_as_ratio len_as_ratio (fun _ _ _ _ _ _ us hl => match us, hl with | [_], _ => rfl) fun cdv A outer s H vs Q E hr h => wb_as_ratio T hr h
end
section
variable {X : Cx} {e : Expr} {σ : L2.St} {H : Hp} {Q : VK} {p pos : Pos}
theorem w_as_ratio (T : Tx X.K X.mg) (hr : Room 5 X.A) (h : We X e σ H fun x H1 => ∃ q, Arg X.K H1 x (some q) ∧ RM.Lt q 9000 ∧ ∀ v H', Same H1 H' → Rt X.K H' v q → Q v H')
    (hg : Gl X "as_ratio" := by rfl) (he : starEach [e] X.env = (false, eval e X.env) :: starEach [] X.env := by rfl) (hpl : (backTo pos (starEach [] X.env)).any (·.1) = false := by rfl) : We X (.Call (.Name "as_ratio" p) [e] [] pos) σ H Q := by
  refine w_call (fn_as_ratio T) hr T.g_as_ratio (kept T.f_as_ratio) passL (a_cons (We.mono h fun x H1 z => ?_) he) hg (by decide) he hpl
  obtain ⟨q, ha, lq, k⟩ := z
  exact a_nil ⟨x, some q, rfl, ha, fun q' e => by cases e; exact ⟨lq, k⟩, fun e => nomatch e⟩
end
end LW
namespace LW
open PySem PySem.Spec PyProof.Rows L2 PR
def sumR (qs : List Rat) : Rat := qs.foldl (· + ·) 0
theorem sumR_snoc (qs : List Rat) (q : Rat) : sumR (qs ++ [q]) = sumR qs + q := by
  unfold sumR
  rw [List.foldl_append]
  rfl
theorem take_snoc {α : Type} : ∀ {l : List α} {i : Nat} {x : α}, l[i]? = some x → l.take (i + 1) = l.take i ++ [x]
  | [], i, x, h => by simp at h
  | a :: l, 0, x, h => by
    have e : a = x := Option.some.inj h
    subst e
    rfl
  | a :: l, i + 1, x, h => by
    have ih := take_snoc (l := l) (i := i) (x := x) h
    show a :: l.take (i + 1) = a :: l.take i ++ [x]
    rw [ih]
    rfl
end LW
namespace LW
open PySem PySem.Spec PyProof.Rows L2 PR
/-- values that are numbers, one by one -/
def Nums (K : PySem.W.Frag) (H : Hp) (xs : List V) (qs : List Rat) : Prop := xs.length = qs.length ∧ ∀ (i : Nat) (x : V), xs[i]? = some x → ∃ q, qs[i]? = some q ∧ Arg K H x (some q)
theorem Nums.nil {K : PySem.W.Frag} {H : Hp} : Nums K H [] [] := ⟨rfl, fun i x h => by simp at h⟩
theorem Nums.cons {K : PySem.W.Frag} {H : Hp} {x : V} {q : Rat} {xs : List V} {qs : List Rat} (h : Arg K H x (some q)) (t : Nums K H xs qs) : Nums K H (x :: xs) (q :: qs) :=
  ⟨congrArg (· + 1) t.1, fun i y e => match i, e with
    | 0, e => ⟨q, rfl, by have z : x = y := Option.some.inj e; subst z; exact h⟩
    | i + 1, e => t.2 i y e⟩
theorem Nums.same {K : PySem.W.Frag} {H H' : Hp} {xs : List V} {qs : List Rat} (h : Nums K H xs qs) (s : Same H H') : Nums K H' xs qs := ⟨h.1, fun i x e => by
  obtain ⟨q, e1, e2⟩ := h.2 i x e
  exact ⟨q, e1, e2.same s⟩⟩
section
variable {P : Program} {w : World} {K : PySem.W.Frag} {mg : Str → Option Value} {base : Heap}
/-! ### total -/
def spTotal (K : PySem.W.Frag) : Sp := fun vs H Q _ => ∃ (a : Addr) (xs : List V) (qs : List Rat), vs = [.ref a] ∧ SqL K H a xs ∧ Nums K H xs qs ∧ (∀ i q, qs[i]? = some q → RM.Fit (sumR (qs.take i)) q) ∧
  ∀ v H', Same H H' → Rt K H' v (sumR qs) → Q v H'
theorem sc_total : FnScope ["numbers", "found", "number"] ["numbers"] (defScope s_total) := ⟨rfl, rfl, rfl, by decide +kernel, rfl, by decide +kernel, by decide +kernel⟩
theorem len_total : ∀ vs H Q E, spTotal K vs H Q E → vs.length = (["numbers"] : List Str).length := fun vs H Q E h => by
  obtain ⟨a, xs, qs, rfl, _⟩ := h
  rfl
theorem wb_total (T : Tx K mg) {cdv : Value} {A : Around} {outer : List Env} {s : Shared} {H : Hp} {vs : List V} {Q : VK} {E : XK} (hr : Room 5 (A.deeper (envOfC "total" (defScope s_total) s.heap.objs.size (He.ga K "total") cdv))) (h : spTotal K vs H Q E) :
    Wb (cxOf (L2.CX P w) P w K mg base ["numbers", "found", "number"] "total" (defScope s_total) (He.ga K "total") cdv A outer s H E) (defBody s_total) { nx := fun _ H' => Q .non H', rt := Q } (start ["numbers", "found", "number"] vs) H := by
  obtain ⟨a, xs, qs, rfl, hl, hn, lf, k⟩ := h
  refine s_cons (s_set 1 sc_total.nd (w_ratio1 T (hr.mono (by decide)) passL (a_cons (w_int (a_nil ⟨0, rfl, fun v0 H0 s0 h0 => ?_⟩)))))
  refine s_cons (s_forl 2 (passes_of rfl) sc_total.nd (w_var 0 rfl ⟨a, xs, fun i σ H1 => ∃ (v : V) (z : Option V), σ = [some (.ref a), some v, z] ∧ Same H H1 ∧ Rt K H1 v (sumR (qs.take i)), rfl, s0.seq hl, ⟨v0, none, rfl, s0, h0⟩,
    fun j σ H1 _ ⟨_, _, _, s1, _⟩ => s1.seq hl, ?_, ?_⟩))
  · rintro j y σ H1 hj ⟨v, z, rfl, s1, hv⟩
    obtain ⟨q, e1, e2⟩ := hn.2 j y hj
    have hjl : j < qs.length := (List.getElem?_eq_some_iff.mp e1).1
    refine s_one (s_set 1 sc_total.nd (w_op (op_radd T hr) (w_var 1 rfl (w_var 2 rfl ⟨_, q, hv, e2.same s1, lf j q e1, fun v2 H2 s2 h2 => ?_⟩))))
    refine ⟨v2, some y, rfl, s1.trans s2, ?_⟩
    rw [take_snoc e1, sumR_snoc]
    exact h2
  · rintro σ H1 ⟨v, z, rfl, s1, hv⟩
    rw [hn.1, List.take_length] at hv
    exact s_one (s_ret (w_var 1 rfl (k v H1 s1 hv)))
theorem fn_total (T : Tx K mg) : FnR P w K mg base (L2.CX P w) 6 (He.ga K "total") (spTotal K) :=
  fnr T.f_total sc_total len_total (fun _ _ _ _ _ _ us hl => match us, hl with | [_], _ => rfl) fun cdv A outer s H vs Q E hr h => wb_total T hr h
end
end LW
namespace LW
open PySem PySem.Spec PyProof.Rows L2 PR
def CPowW (i j : Int) : Prop := 0 ≤ j ∧ j ≤ 1000 ∧ i.natAbs < 2 ^ 1000
theorem op_powW {X : Cx} : OpR X (binaryOp .Pow) (rI CPowW fun i j => .int (i ^ j.toNat)) := opI fun i j _ _ _ _ _ hc q => by
  obtain ⟨h0, h1, h2⟩ := hc
  refine pow_int h0 ?_ q
  have hl : i.natAbs.log2 < 1000 := PySem.Flt.log2_lt_of (by decide) h2
  have hb : Builtin.Int.intBits i ≤ 1001 := by
    unfold Builtin.Int.intBits
    split <;> omega
  have h3 : ((Builtin.Int.intBits i : Nat) : Int) ≤ 1001 := by omega
  have h4 : ((Builtin.Int.intBits i : Nat) : Int) * j ≤ 1001 * 1000 := Int.mul_le_mul h3 h1 h0 (by decide)
  exact Int.le_trans h4 (by decide)
/-- the box: digits, a count of at most N draws, a start -/
def Bx (H : Hp) (b : Addr) (N : Nat) : Prop := ∃ n c d : Int, H b = some (.lst [.int n, .int c, .int d]) ∧ 0 ≤ n ∧ 0 ≤ c ∧ c ≤ N ∧ 0 ≤ d ∧ d ≤ 4000000
/-- all but what stands at b is as it was -/
def Kp (b : Addr) (H H' : Hp) : Prop := ∀ a o, a ≠ b → H a = some o → H' a = some o
theorem Kp.refl (b : Addr) (H : Hp) : Kp b H H := fun _ _ _ h => h
theorem Kp.trans {b : Addr} {H H1 H2 : Hp} (h : Kp b H H1) (k : Kp b H1 H2) : Kp b H H2 := fun a o n e => k a o n (h a o n e)
theorem _root_.L2.Same.kp {b : Addr} {H H' : Hp} (s : Same H H') : Kp b H H' := fun a o _ e => s a o e
theorem kp_upd {b : Addr} {H : Hp} {o : HO} : Kp b H (upd H b o) := fun a u n e => by rw [upd_ne n]; exact e
theorem Bx.same {H H' : Hp} {b : Addr} {N : Nat} (h : Bx H b N) (s : Same H H') : Bx H' b N := by
  obtain ⟨n, c, d, e, r⟩ := h
  exact ⟨n, c, d, s _ _ e, r⟩
theorem Bx.ne {H : Hp} {a b : Addr} {N : Nat} {o : HO} (h : Bx H b N) (e : H a = some o) (n : ∀ xs, o ≠ .lst xs) : a ≠ b := by
  obtain ⟨_, _, _, e2, _⟩ := h
  exact ne_of e e2 (n _)
section
variable {P : Program} {w : World} {K : PySem.W.Frag} {mg : Str → Option Value} {base : Heap}
/-! ### cell, box -/
def spCell (K : PySem.W.Frag) : Sp := fun vs H Q _ => ∃ (a : Addr) (ns : List Int) (k : Nat), vs = [.ref a, .int k] ∧ SqL K H a (ns.map V.int) ∧ Q (.int (ns.getD k 0)) H
theorem sc_cell : FnScope ["_law_script", "_law_k"] ["_law_script", "_law_k"] (defScope s__law_cell) := ⟨rfl, rfl, rfl, by decide +kernel, rfl, by decide +kernel, by decide +kernel⟩
theorem fn_cell (T : Tx K mg) : FnR P w K mg base (L2.CX P w) 1 (He.ga K "_law_cell") (spCell K) := by
  refine fnr T.f__law_cell sc_cell (fun vs H Q E h => ?_) (fun _ _ _ _ _ _ us hl => match us, hl with | [_, _], _ => rfl) fun cdv A outer s H vs Q E hr h => ?_
  · obtain ⟨a, ns, k, rfl, _⟩ := h
    rfl
  · obtain ⟨a, ns, k, rfl, hl, q⟩ := h
    refine s_one (s_ret (w_ife (t_cmp op_lt (w_var 1 rfl (w_callB call_len T.b_len (by decide +kernel) (a_cons (w_var 0 rfl (a_nil ⟨_, (ns.map V.int).length, rfl, .inl ⟨_, hl, rfl⟩, _, _, rfl, rfl, _, rfl, ?_⟩))))))))
    by_cases hk : k < ns.length
    · refine ifT (decide_eq_true (by rw [List.length_map]; omega)) ?_
      refine w_ix ix_list (w_var 0 rfl (w_var 1 rfl ⟨a, _, _, .int (ns.getD k 0), rfl, rfl, hl, ?_, q⟩))
      refine atI_nat ?_
      rw [List.getElem?_map, List.getElem?_eq_getElem hk, List.getD_eq_getElem?_getD, List.getElem?_eq_getElem hk]
      rfl
    · refine ifF (decide_eq_false (by rw [List.length_map]; omega)) (w_int ?_)
      have e : ns.getD k 0 = 0 := by rw [List.getD_eq_getElem?_getD, List.getElem?_eq_none (by omega)]; rfl
      rw [e] at q
      exact q
def spBox (K : PySem.W.Frag) : Sp := fun vs H Q _ => ∃ (a : Addr) (ns : List Int) (k : Nat), vs = [.ref a, .int k] ∧ k ≤ 63 ∧ SqL K H a (ns.map V.int) ∧ ∀ b H', H b = none → Same H H' → Bx H' b 0 → Q (.ref b) H'
theorem sc_box : FnScope ["_law_script", "_law_k"] ["_law_script", "_law_k"] (defScope s__law_box) := ⟨rfl, rfl, rfl, by decide +kernel, rfl, by decide +kernel, by decide +kernel⟩
theorem fn_box (T : Tx K mg) : FnR P w K mg base (L2.CX P w) 2 (He.ga K "_law_box") (spBox K) := by
  refine fnr T.f__law_box sc_box (fun vs H Q E h => ?_) (fun _ _ _ _ _ _ us hl => match us, hl with | [_, _], _ => rfl) fun cdv A outer s H vs Q E hr h => ?_
  · obtain ⟨a, ns, k, rfl, _⟩ := h
    rfl
  · obtain ⟨a, ns, k, rfl, hk, hl, q⟩ := h
    refine s_one (s_ret (w_lst (a_cons (w_callB call_abs T.b_abs (by decide +kernel) (a_cons (w_callT call_int1 T.b_int (by decide +kernel) (a_cons (w_call (fn_cell T) hr T.g__law_cell (kept T.f__law_cell) passL
      (a_cons (w_var 0 rfl (a_cons (w_var 1 rfl (a_nil ⟨a, ns, k, rfl, hl, a_nil (.inl ⟨_, rfl, a_nil ⟨_, rfl, ?_⟩⟩)⟩)))))))))))))
    refine a_cons (w_int (a_cons (w_op op_add (w_op op_mul (w_int (w_var 1 rfl ⟨_, _, rfl, rfl, .inl ⟨by decide, by decide⟩, w_int ⟨_, _, rfl, rfl, a_nil ⟨by show 3 ≤ sizeLine; decide, fun b hb => ?_⟩⟩⟩))))))
    refine q b _ hb (same_new hb) ⟨_, _, _, upd_same, ?_, by decide, by decide, by omega, by omega⟩
    split <;> omega
/-! ### take: any number from 0 to below many -/
def spTake : Sp := fun vs H Q _ => ∃ (b : Addr) (m : Int) (N : Nat), vs = [.ref b, .int m] ∧ Bx H b N ∧ N ≤ 1000000 ∧ 0 < m ∧ m.natAbs < 2 ^ 9000 ∧ ∀ r H', 0 ≤ r → r < m → Bx H' b (N + 1) → Kp b H H' → Q (.int r) H'
theorem sc_take : FnScope ["_law_box_here", "_law_many", "_law_digit", "_law_mixed"] ["_law_box_here", "_law_many"] (defScope s__law_take) := ⟨rfl, rfl, rfl, by decide +kernel, rfl, by decide +kernel, by decide +kernel⟩
theorem pow3_lt {i : Int} {n : Nat} (h : i.natAbs < 2 ^ n) : i.natAbs < 2 ^ n := h
theorem fn_take (T : Tx K mg) : FnR P w K mg base (L2.CX P w) 1 (He.ga K "_law_take") spTake := by
  refine fnr T.f__law_take sc_take (fun vs H Q E h => ?_) (fun _ _ _ _ _ _ us hl => match us, hl with | [_, _], _ => rfl) fun cdv A outer s H vs Q E hr h => ?_
  · obtain ⟨b, m, N, rfl, _⟩ := h
    rfl
  · obtain ⟨b, m, N, rfl, ⟨n, c, d, hb, hn, hc0, hcN, hd0, hd1⟩, hN, hm, hm2, q⟩ := h
    have it : ∀ {H : Hp} {n c d : Int}, H b = some (.lst [.int n, .int c, .int d]) → SqL K H b [.int n, .int c, .int d] := fun h => SqL.of h
    refine s_cons (s_if (t_cmp op_ge (w_ix ix_list (w_var 0 rfl (w_int ⟨b, _, 0, _, rfl, rfl, it hb, rfl, w_op op_powW (w_int (w_int ⟨10, 18, rfl, rfl, ⟨by decide, by decide, by decide +kernel⟩, n, _, rfl, rfl, _, rfl, ?_⟩))⟩)))))
    have nd := sc_take.nd
    by_cases hbig : (10 : Int) ^ (18 : Int).toNat ≤ n
    · refine ifT (decide_eq_true hbig) ?_
      refine s_cons (s_set 2 nd (w_op op_mod (w_callT call_int1 T.b_int (by decide +kernel) (a_cons (w_ix ix_list (w_var 0 rfl (w_int ⟨b, _, 0, _, rfl, rfl, it hb, rfl, a_nil (.inl ⟨_, rfl, w_var 1 rfl ⟨_, _, rfl, rfl, hm, ?_⟩⟩)⟩)))))))
      refine s_cons (s_asg (pg_sub peW peW set_list) (w_op op_fdivA (w_ix ix_list (w_var 0 rfl (w_int ⟨b, _, 0, _, rfl, rfl, it hb, rfl, w_var 1 rfl ⟨_, _, rfl, rfl, ⟨by omega, hm2⟩, w_var 0 rfl (w_int ⟨b, _, 0, 0, rfl, rfl, hb, rfl, ?_⟩)⟩⟩)))))
      refine s_one (s_ret (w_var 2 rfl ?_))
      refine q _ _ (Int.emod_nonneg _ (by omega)) (Int.emod_lt_of_pos _ hm) ⟨_, _, _, upd_same, ?_, hc0, by omega, hd0, hd1⟩ kp_upd
      rw [Int.fdiv_eq_ediv_of_nonneg _ (by omega)]
      exact Int.ediv_nonneg hn (by omega)
    · refine ifF (decide_eq_false hbig) (s_nil ?_)
      have hsm : n < 1000000000000000000 := by
        have e : (10 : Int) ^ (18 : Int).toNat = 1000000000000000000 := by decide +kernel
        omega
      refine s_cons (s_asg (pg_sub peW peW set_list) (w_op op_add (w_ix ix_list (w_var 0 rfl (w_int ⟨b, _, 1, _, rfl, rfl, it hb, rfl, w_int ⟨_, _, rfl, rfl, w_var 0 rfl (w_int ⟨b, _, 1, 1, rfl, rfl, hb, rfl, ?_⟩)⟩⟩)))))
      have hb2 : upd H b (.lst (([.int n, .int c, .int d] : List V).set 1 (.int (c + 1)))) b = some (.lst [.int n, .int (c + 1), .int d]) := upd_same
      generalize hH2 : upd H b (.lst (([.int n, .int c, .int d] : List V).set 1 (.int (c + 1)))) = H2 at hb2
      have kp2 : Kp b H H2 := by rw [← hH2]; exact kp_upd
      have done : ∀ r, 0 ≤ r → r < m → Q (.int r) H2 := fun r h1 h2 => q r H2 h1 h2 ⟨n, c + 1, d, hb2, hn, by omega, by omega, hd0, hd1⟩ kp2
      have big1 : ((n + 7) * 69069 + (c + 1) * 40692 + d).natAbs < 2 ^ 1000 := Nat.lt_of_lt_of_le (show _ < 2 ^ 100 by omega) (Nat.pow_le_pow_right (by decide) (by decide))
      refine s_cons (s_set 3 nd (w_op op_mod (w_op op_powW (w_callT call_int1 T.b_int (by decide +kernel) (a_cons (w_op op_add (w_op op_add (w_op op_mul (w_op op_add (w_ix ix_list (w_var 0 rfl (w_int ⟨b, _, 0, _, rfl, rfl, it hb2, rfl, w_int ⟨_, _, rfl, rfl, w_int ⟨_, _, rfl, rfl, .inr ⟨by decide, by decide⟩, ?_⟩⟩⟩))))))))))))
      refine w_op op_mul (w_ix ix_list (w_var 0 rfl (w_int ⟨b, _, 1, _, rfl, rfl, it hb2, rfl, w_int ⟨_, _, rfl, rfl, .inr ⟨by decide, by decide⟩, _, _, rfl, rfl, ?_⟩⟩)))
      refine w_ix ix_list (w_var 0 rfl (w_int ⟨b, _, 2, _, rfl, rfl, it hb2, rfl, _, _, rfl, rfl, a_nil (.inl ⟨_, rfl, w_int ⟨_, _, rfl, rfl, ⟨by decide, by decide, big1⟩, w_int ⟨_, _, rfl, rfl, by show (0 : Int) < 2147483647; decide, ?_⟩⟩⟩)⟩))
      have big2 : ∀ z : Int, 0 ≤ z → z < 2147483647 → (z + (c + 1) * 17389).natAbs < 2 ^ 1000 := fun z h1 h2 => Nat.lt_of_lt_of_le (show _ < 2 ^ 100 by omega) (Nat.pow_le_pow_right (by decide) (by decide))
      refine s_cons (s_set 3 nd (w_op op_mod (w_op op_powW (w_callT call_int1 T.b_int (by decide +kernel) (a_cons (w_op op_add (w_var 3 rfl (w_op op_mul (w_ix ix_list (w_var 0 rfl (w_int ⟨b, _, 1, _, rfl, rfl, it hb2, rfl, w_int ⟨_, _, rfl, rfl, .inr ⟨by decide, by decide⟩, _, _, rfl, rfl, ?_⟩⟩)))))))))))
      refine a_nil (.inl ⟨_, rfl, w_int ⟨_, _, rfl, rfl, ⟨by decide, by decide, big2 _ (Int.emod_nonneg _ (by decide)) (Int.emod_lt_of_pos _ (by decide))⟩, w_int ⟨_, _, rfl, rfl, by show (0 : Int) < 2147483399; decide, ?_⟩⟩⟩)
      refine s_one (s_ret (w_op op_mod (w_callT call_int1 T.b_int (by decide +kernel) (a_cons (w_op op_fdiv (w_var 3 rfl (w_int ⟨_, _, rfl, rfl, ⟨by decide, by decide⟩, a_nil (.inl ⟨_, rfl, w_var 1 rfl ⟨_, _, rfl, rfl, hm, ?_⟩⟩)⟩)))))))
      exact done _ (Int.emod_nonneg _ (by omega)) (Int.emod_lt_of_pos _ hm)
end
section
variable {X : Cx} {e1 e2 : Expr} {σ : L2.St} {H : Hp} {Q : VK} {p pos : Pos}
theorem w_take (T : Tx X.K X.mg) (hr : Room 1 X.A) (h : We X e1 σ H fun x H1 => We X e2 σ H1 fun y H2 => ∃ (b : Addr) (m : Int) (N : Nat), x = .ref b ∧ y = .int m ∧ Bx H2 b N ∧ N ≤ 1000000 ∧ 0 < m ∧ m.natAbs < 2 ^ 9000 ∧ ∀ r H', 0 ≤ r → r < m → Bx H' b (N + 1) → Kp b H2 H' → Q (.int r) H')
    (hg : Gl X "_law_take" := by rfl) (he : starEach [e1, e2] X.env = (false, eval e1 X.env) :: starEach [e2] X.env := by rfl) (he2 : starEach [e2] X.env = (false, eval e2 X.env) :: starEach [] X.env := by rfl) (hpl : (backTo pos (starEach [e2] X.env)).any (·.1) = false := by rfl) : We X (.Call (.Name "_law_take" p) [e1, e2] [] pos) σ H Q := by
  refine w_call (fn_take T) hr T.g__law_take (kept T.f__law_take) passL (a_cons (We.mono h fun x H1 z => a_cons (We.mono z fun y H2 z2 => a_nil ?_) he2) he) hg (by decide) he hpl
  obtain ⟨b, m, N, rfl, rfl, r⟩ := z2
  exact ⟨b, m, N, rfl, r⟩
end
end LW
namespace LW
open PySem PySem.Spec PyProof.Rows L2 PR
theorem Kp.new {b p : Addr} {H H' : Hp} {o : HO} (hp : H p = none) (k : Kp b (upd H p o) H') : Kp b H H' := fun a u n e => k a u n (by rw [upd_ne (ne_of_none e hp)]; exact e)
theorem Bx.at_ {H : Hp} {b : Addr} {N : Nat} (h : Bx H b N) : ∃ o, H b = some o := by
  obtain ⟨_, _, _, e, _⟩ := h
  exact ⟨_, e⟩
theorem Bx.ne_new {H : Hp} {b p : Addr} {N : Nat} (h : Bx H b N) (hp : H p = none) : p ≠ b := fun e => by
  obtain ⟨o, z⟩ := h.at_
  rw [← e, hp] at z
  cases z
theorem Bx.mono {H : Hp} {b : Addr} {N M : Nat} (h : Bx H b N) (k : N ≤ M) : Bx H b M := by
  obtain ⟨n, c, d, e, h1, h2, h3, h4, h5⟩ := h
  exact ⟨n, c, d, e, h1, h2, by omega, h4, h5⟩
theorem small9 {z : Int} (h : z.natAbs < 2 ^ 500) : z.natAbs < 2 ^ 9000 := Nat.lt_of_lt_of_le h (Nat.pow_le_pow_right (by decide) (by decide))
theorem small4 {z : Int} (h : z.natAbs < 2 ^ 500) : z.natAbs < 2 ^ 4000 := Nat.lt_of_lt_of_le h (Nat.pow_le_pow_right (by decide) (by decide))
theorem len_line {n : Nat} (h : n ≤ 1000) : n ≤ sizeLine := by rw [sizeLine_eq]; omega
section
variable {X : Cx} {bx : Expr} {es : List Expr} {σ : L2.St} {H : Hp} {Q : VK} {p pos pl pm ps : Pos} {m : Int} {j : Option Nat}
/-- [..][take(box, m)] -/
theorem w_menu {jj} (T : Tx X.K X.mg) (hr : Room 1 X.A) (h : Wa X es σ H fun xs H1 => (xs.length : Int) = m ∧ 0 < xs.length ∧ xs.length ≤ 1000 ∧ ∀ p, H1 p = none → We X bx σ (upd H1 p (.lst xs)) fun y H2 => H2 = upd H1 p (.lst xs) ∧ ∃ b N, y = .ref b ∧ Bx H1 b N ∧ N ≤ 1000000 ∧
      ∀ x ∈ xs, ∀ H', Bx H' b (N + 1) → Kp b H1 H' → Q x H')
    (hg : Gl X "_law_take" := by rfl) (he : starEach [bx, .Constant (.int m) jj pm] X.env = (false, eval bx X.env) :: starEach [.Constant (.int m) jj pm] X.env := by rfl) (he2 : starEach [.Constant (.int m) jj pm] X.env = (false, eval (.Constant (.int m) jj pm) X.env) :: starEach [] X.env := by rfl) (hpl : (backTo pos (starEach [.Constant (.int m) jj pm] X.env)).any (·.1) = false := by rfl) :
    We X (.Subscript (.List es pl) (.Call (.Name "_law_take" p) [bx, .Constant (.int m) jj pm] [] pos) ps) σ H Q := by
  refine w_ix ix_list (w_lst (Wa.mono h fun xs H1 z => ?_)) (fun _ _ => rfl)
  obtain ⟨hm, h0, hl, z⟩ := z
  refine ⟨len_line hl, fun p hp => ?_⟩
  refine w_take T hr (We.mono (z p hp) fun y H2 z2 => ?_) hg he he2 hpl
  obtain ⟨rfl, b, N, rfl, hB, hN, k⟩ := z2
  refine w_int ⟨b, m, N, rfl, rfl, hB.same (same_new hp), hN, by omega, small9 (Nat.lt_of_le_of_lt (show m.natAbs ≤ 1000 by omega) (by decide +kernel)), fun r H' r0 r1 hB' hk => ?_⟩
  have hr1 : r.toNat < xs.length := by omega
  refine ⟨p, xs, r, xs[r.toNat], rfl, rfl, SqL.of (hk p _ (hB.ne_new hp) upd_same), ?_, k _ (List.getElem_mem hr1) H' hB' (hk.new hp)⟩
  have e : r = (r.toNat : Int) := by omega
  have z3 : atI xs ((r.toNat : Nat) : Int) = some xs[r.toNat] := atI_nat (List.getElem?_eq_getElem hr1)
  rw [← e] at z3
  exact z3
end
theorem same_kp {b : Addr} {H0 H1 H2 : Hp} (hb : H0 b = none) (s : Same H0 H1) (k : Kp b H1 H2) : Same H0 H2 := fun a o e => k a o (ne_of_none e hb) (s a o e)
section
variable {X : Cx} {e : Expr} {σ : L2.St} {H : Hp} {Q : VK} {pos pi : Pos} {ji : Nat}
theorem w_l0 (h : We X e σ H fun x H1 => ∃ l y z, x = .ref l ∧ H1 l = some (.lst [y, z]) ∧ Q y H1) : We X (.Subscript e (.Constant (.int 0) ji pi) pos) σ H Q :=
  w_ix ix_list (We.mono h fun x H1 ⟨l, y, z, e, h, k⟩ => w_int ⟨l, _, 0, _, e, rfl, SqL.of h, rfl, k⟩)
theorem w_l1 (h : We X e σ H fun x H1 => ∃ l y z, x = .ref l ∧ H1 l = some (.lst [y, z]) ∧ Q z H1) : We X (.Subscript e (.Constant (.int 1) ji pi) pos) σ H Q :=
  w_ix ix_list (We.mono h fun x H1 ⟨l, y, z, e, h, k⟩ => w_int ⟨l, _, 1, _, e, rfl, SqL.of h, rfl, k⟩)
end
end LW
namespace LW
open PySem PySem.Spec PyProof.Rows L2 PR
/-- v is the pair (top, bottom) of q -/
def Tq (K : PySem.W.Frag) (H : Hp) (v : V) (q : Rat) : Prop := ∃ a, v = .ref a ∧ H a = some (.tup [.int q.num, .int (q.den : Int)])
theorem Tq.same {K : PySem.W.Frag} {H H' : Hp} {v : V} {q : Rat} (h : Tq K H v q) (s : Same H H') : Tq K H' v q := by
  obtain ⟨a, e, h⟩ := h
  exact ⟨a, e, s _ _ h⟩
theorem Tq.kp {K : PySem.W.Frag} {H H' : Hp} {v : V} {q : Rat} {b : Addr} {N : Nat} (h : Tq K H v q) (x : Bx H b N) (s : Kp b H H') : Tq K H' v q := by
  obtain ⟨a, e, h⟩ := h
  exact ⟨a, e, s _ _ (x.ne h (fun _ z => nomatch z)) h⟩
theorem Rt.kp {K : PySem.W.Frag} {H H' : Hp} {v : V} {q : Rat} {b : Addr} {N : Nat} (h : Rt K H v q) (x : Bx H b N) (s : Kp b H H') : Rt K H' v q := by
  obtain ⟨a, dx, e, h⟩ := h
  exact ⟨a, dx, e, s _ _ (x.ne h (fun _ z => nomatch z)) h⟩
theorem tq_new {K : PySem.W.Frag} {H : Hp} {p : Addr} {q : Rat} : Tq K (upd H p (.tup [.int q.num, .int (q.den : Int)])) (.ref p) q := ⟨p, rfl, upd_same⟩
section
variable {X : Cx} {e e1 e2 : Expr} {σ : L2.St} {H : Hp} {Q : VK} {p pos pi : Pos} {ji : Nat}
theorem w_tq0 (h : We X e σ H fun x H1 => ∃ q, Tq X.K H1 x q ∧ Q (.int q.num) H1) : We X (.Subscript e (.Constant (.int 0) ji pi) pos) σ H Q :=
  w_ix ix_tup (We.mono h fun x H1 ⟨q, ⟨a, e, h⟩, k⟩ => w_int ⟨a, _, 0, _, e, rfl, SqT.of h, rfl, k⟩)
theorem w_tq1 (h : We X e σ H fun x H1 => ∃ q, Tq X.K H1 x q ∧ Q (.int (q.den : Int)) H1) : We X (.Subscript e (.Constant (.int 1) ji pi) pos) σ H Q :=
  w_ix ix_tup (We.mono h fun x H1 ⟨q, ⟨a, e, h⟩, k⟩ => w_int ⟨a, _, 1, _, e, rfl, SqT.of h, rfl, k⟩)
end
section
variable {P : Program} {w : World} {K : PySem.W.Frag} {mg : Str → Option Value} {base : Heap}
def spFrac (K : PySem.W.Frag) : Sp := fun vs H Q _ => ∃ a b : Int, vs = [.int a, .int b] ∧ b ≠ 0 ∧ b.natAbs < 2 ^ 9000 ∧ ∀ v H', Same H H' → Tq K H' v (Rat.divInt a b) → Q v H'
theorem sc_frac : FnScope ["_law_up", "_law_down", "_law_one", "_law_other"] ["_law_up", "_law_down"] (defScope s__law_frac) := ⟨rfl, rfl, rfl, by decide +kernel, rfl, by decide +kernel, by decide +kernel⟩
theorem fn_frac (T : Tx K mg) : FnR P w K mg base (L2.CX P w) 1 (He.ga K "_law_frac") (spFrac K) := by
  refine fnr T.f__law_frac sc_frac (fun vs H Q E h => ?_) (fun _ _ _ _ _ _ us hl => match us, hl with | [_, _], _ => rfl) fun cdv A outer s H vs Q E hr h => ?_
  · obtain ⟨a, b, rfl, _⟩ := h
    rfl
  · obtain ⟨a, b, rfl, hb, hb2, q⟩ := h
    refine s_cons (s_par 2 3 sc_frac.nd (a_cons (w_callB call_abs T.b_abs (by decide +kernel) (a_cons (w_var 0 rfl (a_nil ⟨a, rfl, a_cons (w_callB call_abs T.b_abs (by decide +kernel) (a_cons (w_var 1 rfl (a_nil ⟨b, rfl, a_nil ⟨_, _, rfl, ?_⟩⟩))))⟩))))))
    have abse : ∀ z : Int, (if z < 0 then -z else z) = (z.natAbs : Int) := fun z => by split <;> omega
    rw [abse, abse]
    refine s_cons (s_while (passes_of rfl) (fun σ H' => ∃ x y : Int, σ = [some (.int a), some (.int b), some (.int x), some (.int y)] ∧ H' = H ∧ 0 ≤ x ∧ 0 ≤ y ∧ Int.gcd x y = Int.gcd a b) (fun σ _ => match σ with | [_, _, _, some (.int y)] => y.natAbs | _ => 0)
      ⟨_, _, rfl, rfl, by omega, by omega, by show Nat.gcd _ _ = Nat.gcd _ _; simp⟩ ?_)
    rintro σ H' ⟨x, y, rfl, rfl, hx0, hy0, e⟩
    refine t_cmp op_gt (w_var 3 rfl (w_int ⟨_, _, rfl, rfl, _, rfl, ?_⟩))
    by_cases hy : 0 < y
    · refine ifT (decide_eq_true hy) ?_
      refine s_one (s_par 2 3 sc_frac.nd (a_cons (w_var 3 rfl (a_cons (w_op op_modN (w_var 2 rfl (w_var 3 rfl ⟨x, y, rfl, rfl, by omega, a_nil ⟨_, _, rfl, ?_⟩⟩)))))))
      exact ⟨⟨y, x.fmod y, rfl, rfl, hy0, Int.fmod_nonneg_of_pos x hy, (RM.gcd_turn (by omega)).trans e⟩, RM.fmod_small (by omega)⟩
    · refine ifF (decide_eq_false hy) ?_
      have ey : y = 0 := by omega
      subst ey
      have ex : x = (Int.gcd a b : Int) := by rw [← e, Int.gcd_zero_right]; omega
      subst ex
      have hs := RM.sg_ne (a := a) hb
      have hg : (RM.sg a b).natAbs < 2 ^ 9000 := by
        have h1 : (RM.sg a b).natAbs = Int.gcd a b := by unfold RM.sg; split <;> omega
        rw [h1]
        exact Nat.lt_of_le_of_lt (Int.gcd_le_natAbs_right a hb) hb2
      have rest : ∀ v, v = V.int (RM.sg a b) → Wb (cxOf (L2.CX P w) P w K mg base ["_law_up", "_law_down", "_law_one", "_law_other"] "_law_frac" (defScope s__law_frac) (He.ga K "_law_frac") cdv A outer s H' E) ((defBody s__law_frac).drop 3)
          { nx := fun _ H' => Q .non H', rt := Q } [some (.int a), some (.int b), some v, some (.int 0)] H' := by
        rintro v rfl
        refine s_one (s_ret (w_tup (a_cons (w_op op_fdivA (w_var 0 rfl (w_var 2 rfl ⟨_, _, rfl, rfl, ⟨hs, hg⟩, a_cons (w_op op_fdivA (w_var 1 rfl (w_var 2 rfl ⟨_, _, rfl, rfl, ⟨hs, hg⟩, a_nil ⟨by show 2 ≤ sizeLine; decide, fun p hp => ?_⟩⟩)))⟩))))))
        refine q _ _ (same_new hp) ⟨p, rfl, ?_⟩
        rw [upd_same, ← RM.num_eq hb, ← RM.den_eq hb]
      refine s_cons (s_if (t_cmp op_lt (w_var 1 rfl (w_int ⟨_, _, rfl, rfl, _, rfl, ?_⟩))))
      by_cases hn : b < 0
      · refine ifT (decide_eq_true hn) (s_one (s_set 2 sc_frac.nd (w_op op_sub (w_int (w_var 2 rfl ⟨_, _, rfl, rfl, ?_⟩)))))
        exact rest _ (by unfold RM.sg; rw [if_neg (by omega)]; show V.int (0 - _) = _; congr 1; omega)
      · refine ifF (decide_eq_false hn) (s_nil ?_)
        exact rest _ (by unfold RM.sg; rw [if_pos (by omega)])
/-- two pairs -/
def spTq2 (K : PySem.W.Frag) (f : Rat → Rat → Rat) : Sp := fun vs H Q _ => ∃ (x y : V) (p q : Rat), vs = [x, y] ∧ Tq K H x p ∧ Tq K H y q ∧ RM.Fit p q ∧ ∀ v H', Same H H' → Tq K H' v (f p q) → Q v H'
def spTqB (K : PySem.W.Frag) (f : Rat → Rat → Bool) : Sp := fun vs H Q _ => ∃ (x y : V) (p q : Rat), vs = [x, y] ∧ Tq K H x p ∧ Tq K H y q ∧ RM.Fit p q ∧ Q (.bl (f p q)) H
theorem sc_plus : FnScope ["_law_x", "_law_y"] ["_law_x", "_law_y"] (defScope s__law_plus) := ⟨rfl, rfl, rfl, by decide +kernel, rfl, by decide +kernel, by decide +kernel⟩
theorem fn_plus (T : Tx K mg) : FnR P w K mg base (L2.CX P w) 2 (He.ga K "_law_plus") (spTq2 K (· + ·)) := by
  refine fnr T.f__law_plus sc_plus (fun vs H Q E h => ?_) (fun _ _ _ _ _ _ us hl => match us, hl with | [_, _], _ => rfl) fun cdv A outer s H vs Q E hr h => ?_
  · obtain ⟨x, y, p, q, rfl, _⟩ := h
    rfl
  · obtain ⟨x, y, p, q, rfl, hx, hy, ⟨na, nb, lp, lq, lab⟩, k⟩ := h
    refine s_one (s_ret (w_call (fn_frac T) hr T.g__law_frac (kept T.f__law_frac) passL ?_))
    refine a_cons (w_op op_add (w_op op_mulW (w_tq0 (w_var 0 rfl ⟨p, hx, w_tq1 (w_var 1 rfl ⟨q, hy, _, _, rfl, rfl, cmulF lp.1 (RM.den_lt lq) (by omega), ?_⟩)⟩))))
    refine w_op op_mulW (w_tq0 (w_var 1 rfl ⟨q, hy, w_tq1 (w_var 0 rfl ⟨p, hx, _, _, rfl, rfl, cmulF lq.1 (RM.den_lt lp) (by omega), _, _, rfl, rfl, ?_⟩)⟩))
    refine a_cons (w_op op_mulW (w_tq1 (w_var 0 rfl ⟨p, hx, w_tq1 (w_var 1 rfl ⟨q, hy, _, _, rfl, rfl, cmulF (RM.den_lt lp) (RM.den_lt lq) (by omega), ?_⟩)⟩)))
    refine a_nil ⟨_, _, rfl, RM.mul_den_ne p q, bot_ltF (RM.den_lt lp) (RM.den_lt lq) (by omega), fun v H' s2 hv => k v H' s2 ?_⟩
    show Tq K H' v (p + q)
    rw [RM.add_eq]
    exact hv
theorem sc_times : FnScope ["_law_x", "_law_y"] ["_law_x", "_law_y"] (defScope s__law_times) := ⟨rfl, rfl, rfl, by decide +kernel, rfl, by decide +kernel, by decide +kernel⟩
theorem fn_times (T : Tx K mg) : FnR P w K mg base (L2.CX P w) 2 (He.ga K "_law_times") (spTq2 K (· * ·)) := by
  refine fnr T.f__law_times sc_times (fun vs H Q E h => ?_) (fun _ _ _ _ _ _ us hl => match us, hl with | [_, _], _ => rfl) fun cdv A outer s H vs Q E hr h => ?_
  · obtain ⟨x, y, p, q, rfl, _⟩ := h
    rfl
  · obtain ⟨x, y, p, q, rfl, hx, hy, ⟨na, nb, lp, lq, lab⟩, k⟩ := h
    refine s_one (s_ret (w_call (fn_frac T) hr T.g__law_frac (kept T.f__law_frac) passL ?_))
    refine a_cons (w_op op_mulW (w_tq0 (w_var 0 rfl ⟨p, hx, w_tq0 (w_var 1 rfl ⟨q, hy, _, _, rfl, rfl, cmulF lp.1 lq.1 (by omega), ?_⟩)⟩)))
    refine a_cons (w_op op_mulW (w_tq1 (w_var 0 rfl ⟨p, hx, w_tq1 (w_var 1 rfl ⟨q, hy, _, _, rfl, rfl, cmulF (RM.den_lt lp) (RM.den_lt lq) (by omega), ?_⟩)⟩)))
    refine a_nil ⟨_, _, rfl, RM.mul_den_ne p q, bot_ltF (RM.den_lt lp) (RM.den_lt lq) (by omega), fun v H' s2 hv => k v H' s2 ?_⟩
    show Tq K H' v (p * q)
    rw [RM.mul_eq]
    exact hv
theorem sc_less : FnScope ["_law_x", "_law_y"] ["_law_x", "_law_y"] (defScope s__law_less) := ⟨rfl, rfl, rfl, by decide +kernel, rfl, by decide +kernel, by decide +kernel⟩
theorem fn_less (T : Tx K mg) : FnR P w K mg base (L2.CX P w) 1 (He.ga K "_law_less") (spTqB K fun p q => decide (p < q)) := by
  refine fnr T.f__law_less sc_less (fun vs H Q E h => ?_) (fun _ _ _ _ _ _ us hl => match us, hl with | [_, _], _ => rfl) fun cdv A outer s H vs Q E hr h => ?_
  · obtain ⟨x, y, p, q, rfl, _⟩ := h
    rfl
  · obtain ⟨x, y, p, q, rfl, hx, hy, ⟨na, nb, lp, lq, lab⟩, k⟩ := h
    refine s_one (s_ret (w_cmp op_lt (w_op op_mulW (w_tq0 (w_var 0 rfl ⟨p, hx, w_tq1 (w_var 1 rfl ⟨q, hy, _, _, rfl, rfl, cmulF lp.1 (RM.den_lt lq) (by omega), ?_⟩)⟩)))))
    refine w_op op_mulW (w_tq0 (w_var 1 rfl ⟨q, hy, w_tq1 (w_var 0 rfl ⟨p, hx, _, _, rfl, rfl, cmulF lq.1 (RM.den_lt lp) (by omega), _, _, rfl, rfl, ?_⟩)⟩))
    have z : Q (.bl (decide (p < q))) _ := k
    rw [show decide (p < q) = decide (p.num * (q.den : Int) < q.num * (p.den : Int)) from decide_eq_decide.mpr (RM.lt_iff p q)] at z
    exact z
end
end LW
namespace LW
open PySem PySem.Spec PyProof.Rows L2 PR
section
variable {X : Cx} {e e1 e2 : Expr} {σ : L2.St} {H : Hp} {Q : VK} {p pos : Pos}
/-- plus, minus, times -/
theorem w_f2 {x : Str} {f : Addr} {op : Rat → Rat → Rat} (F : FnR X.prog X.w X.K X.mg X.base (L2.CX X.prog X.w) 2 f (spTq2 X.K op)) (hm : X.mg x = some (.ref f)) (hk : PySem.W.keepIn X.K (.ref f) = true) (hr : Room 2 X.A)
    (h : We X e1 σ H fun v H1 => We X e2 σ H1 fun t H2 => ∃ p q, Tq X.K H2 v p ∧ Tq X.K H2 t q ∧ RM.Fit p q ∧ ∀ v H3, Same H2 H3 → Tq X.K H3 v (op p q) → Q v H3)
    (hg : Gl X x := by rfl) (hdb : (x == ("__debug__" : Str)) = false := by decide) (he : starEach [e1, e2] X.env = (false, eval e1 X.env) :: starEach [e2] X.env := by rfl) (he2 : starEach [e2] X.env = (false, eval e2 X.env) :: starEach [] X.env := by rfl) (hpl : (backTo pos (starEach [e2] X.env)).any (·.1) = false := by rfl) : We X (.Call (.Name x p) [e1, e2] [] pos) σ H Q := by
  refine w_call F hr hm hk passL (a_cons (We.mono h fun x H1 z => a_cons (We.mono z fun y H2 z2 => a_nil ?_) he2) he) hg hdb he hpl
  obtain ⟨p, q, h1, h2, l1, k⟩ := z2
  exact ⟨x, y, p, q, rfl, h1, h2, l1, k⟩
theorem w_frac (T : Tx X.K X.mg) (hr : Room 1 X.A) (h : We X e1 σ H fun v H1 => We X e2 σ H1 fun t H2 => ∃ a b : Int, v = .int a ∧ t = .int b ∧ b ≠ 0 ∧ b.natAbs < 2 ^ 9000 ∧ ∀ v H', Same H2 H' → Tq X.K H' v (Rat.divInt a b) → Q v H')
    (hg : Gl X "_law_frac" := by rfl) (he : starEach [e1, e2] X.env = (false, eval e1 X.env) :: starEach [e2] X.env := by rfl) (he2 : starEach [e2] X.env = (false, eval e2 X.env) :: starEach [] X.env := by rfl) (hpl : (backTo pos (starEach [e2] X.env)).any (·.1) = false := by rfl) : We X (.Call (.Name "_law_frac" p) [e1, e2] [] pos) σ H Q := by
  refine w_call (fn_frac T) hr T.g__law_frac (kept T.f__law_frac) passL (a_cons (We.mono h fun x H1 z => a_cons (We.mono z fun y H2 z2 => a_nil ?_) he2) he) hg (by decide) he hpl
  obtain ⟨a, b, rfl, rfl, r⟩ := z2
  exact ⟨a, b, rfl, r⟩
/-- (n, 1) -/
theorem w_pair1 {k jj} {p1 : Pos} (h : We X e σ H fun v H1 => ∃ n : Int, v = .int n ∧ ∀ t H', Same H1 H' → Tq X.K H' t (n : Rat) → Q t H') (he : starEach [e, .Constant (.int 1) jj p1] X.env = (false, eval e X.env) :: starEach [.Constant (.int 1) jj p1] X.env := by rfl)
    (he2 : starEach [.Constant (.int 1) jj p1] X.env = (false, eval (.Constant (.int 1) jj p1) X.env) :: starEach [] X.env := by rfl) : We X (.Tuple [e, .Constant (.int 1) jj p1] k pos) σ H Q := by
  refine w_tup (a_cons (We.mono h fun v H1 z => ?_) he)
  obtain ⟨n, rfl, z⟩ := z
  exact a_cons (w_int (a_nil ⟨by show 2 ≤ sizeLine; decide, fun t ht => z (.ref t) _ (same_new ht) ⟨t, rfl, upd_same⟩⟩)) he2
end
end LW
namespace LW
open PySem PySem.Spec PyProof.Rows L2 PR
/-! ### numbers in lists -/
section
variable {K : PySem.W.Frag}
def Nm (K : PySem.W.Frag) : Hp → V → Rat → Prop := fun H v q => Arg K H v (some q)
theorem monS_rt : MonS (Rt K) := fun _ _ _ _ s h => h.same s
theorem monS_nm : MonS (Nm K) := fun _ _ _ _ s h => Arg.same h s
theorem monS_tq : MonS (Tq K) := fun _ _ _ _ s h => h.same s
theorem monD_rt {D : Addr} : MonD D (Rt K) := fun H H' v q k ⟨a, dx, e, h⟩ => ⟨a, dx, e, k.2 _ _ (k.ne h (fun _ z => nomatch z)) h⟩
theorem monD_nm {D : Addr} : MonD D (Nm K) := fun H H' v q k h => by
  unfold Nm at *
  generalize ho : some q = o at h
  cases h with
  | int n e => exact .int n e
  | rat p h => exact .rat p (monD_rt H H' v p k h)
  | odd t h m => cases ho
theorem monD_tq {D : Addr} : MonD D (Tq K) := fun H H' v q k ⟨a, e, h⟩ => ⟨a, e, k.2 _ _ (k.ne h (fun _ z => nomatch z)) h⟩
theorem nm_rt {H : Hp} {v : V} {q : Rat} (h : Rt K H v q) : Nm K H v q := .rat q h
end
section
variable {P : Program} {w : World} {K : PySem.W.Frag} {mg : Str → Option Value} {base : Heap}
/-! ### less_row -/
def spLessRow (K : PySem.W.Frag) : Sp := fun vs H Q _ => ∃ (a b : Addr) (f : V) (r o : GM.Row) (q : Rat), vs = [.ref a, .ref b, f] ∧ LsAt (Rt K) H a r ∧ LsAt (Rt K) H b o ∧ Rt K H f q ∧ r.length = o.length ∧ r.length ≤ 1000 ∧
  (∀ (i : Nat) (x y : Rat), r[i]? = some x → o[i]? = some y → RM.Fit y q ∧ RM.Fit x (y * q)) ∧ ∀ l H', H l = none → Same H H' → LsAt (Rt K) H' l (GM.less r o q) → Q (.ref l) H'
theorem sc_less_row : FnScope ["row", "other", "factor", "item", "by"] ["row", "other", "factor"] (defScope s_less_row) := ⟨rfl, rfl, rfl, by decide +kernel, rfl, by decide +kernel, by decide +kernel⟩
theorem fn_less_row (T : Tx K mg) : FnR P w K mg base (L2.CX P w) 6 (He.ga K "less_row") (spLessRow K) := by
  refine fnr T.f_less_row sc_less_row (fun vs H Q E h => ?_) (fun _ _ _ _ _ _ us hl => match us, hl with | [_, _, _], _ => rfl) fun cdv A outer s H vs Q E hr h => ?_
  · obtain ⟨a, b, f, r, o, q, rfl, _⟩ := h
    rfl
  obtain ⟨a, b, f, r, o, q, rfl, ⟨xs, ea, hx⟩, ⟨ys, eb, hy⟩, hf, hl, hn, lf, k⟩ := h
  have nd := sc_less_row.nd
  refine s_one <| s_ret <| w_mapz false false 3 4 nd T.b_zip <| w_var 0 rfl <| w_var 1 rfl <| lpZ ⟨a, b, xs, ys, rfl, rfl, SqL.of ea, SqL.of eb, ?_⟩
  have n1 : min xs.length ys.length = r.length := by rw [hx.1, hy.1]; omega
  rw [n1]
  refine ⟨hn, fun D hD => ⟨fun i y H => ∃ q', (GM.less r o q)[i]? = some q' ∧ Rt K H y q', fun i y H H' kd ⟨q', e, h⟩ => ⟨q', e, monD_rt _ _ _ _ kd h⟩, fun i τ H' acc hi ⟨x, y, ex, ey, eτ⟩ s1 hd => ?_, fun zs H' s1 hd hz hR => ?_⟩⟩
  · subst eτ
    obtain ⟨p, ep, hp⟩ := hx.get ex
    obtain ⟨u, eu, hu⟩ := hy.get ey
    obtain ⟨f1, f2⟩ := lf i p u ep eu
    refine fun s0 H0 C cl fp => w_op (op_rsub T hr) <| w_var 3 rfl <| w_op (op_rmul T hr) <| w_var 4 rfl <| w_var 2 rfl ⟨u, q, hu.same s1, .rat _ (hf.same s1), f1, fun v2 H2 s2 h2 => ⟨p, u * q, (hp.same s1).same s2, .rat _ h2, f2, fun v3 H3 s3 h3 => ⟨s2.trans s3, p - u * q, ?_, h3⟩⟩⟩
    unfold GM.less
    rw [List.getElem?_zipWith, ep, eu]
  · refine k D H' hD s1 ⟨zs, hd, Els.of (by rw [hz, GM.len_less hl]) fun i y e a ea => ?_⟩
    obtain ⟨q', e', h'⟩ := hR i y e
    rw [e'] at ea
    cases ea
    exact h'
end
end LW
namespace LW
open PySem PySem.Spec PyProof.Rows L2 PR
section
variable {P : Program} {w : World} {K : PySem.W.Frag} {mg : Str → Option Value} {base : Heap}
/-! ### widened -/
def spWidened (K : PySem.W.Frag) : Sp := fun vs H Q _ => ∃ (k : Bool) (a b : Addr) (xs ys : List V) (A B : List GM.Row), vs = [.ref a, .ref b] ∧ SqK k K H a xs ∧ SqL K H b ys ∧ Els (Ls (Nm K) H) xs A ∧ Els (Ls (Nm K) H) ys B ∧ A.length = B.length ∧ A.length ≤ 1000 ∧
  (∀ (i : Nat) (r m : GM.Row), A[i]? = some r → B[i]? = some m → r.length + m.length ≤ 1000 ∧ ∀ q ∈ r ++ m, RM.Lt q 9000) ∧ ∀ l H', H l = none → Same H H' → LsAt (Ls (Rt K)) H' l (List.zipWith (· ++ ·) A B) → Q (.ref l) H'
theorem sc_widened : FnScope ["rows", "right", "row", "more", "item"] ["rows", "right"] (defScope s_widened) := ⟨rfl, rfl, rfl, by decide +kernel, rfl, by decide +kernel, by decide +kernel⟩
theorem fn_widened (T : Tx K mg) : FnR P w K mg base (L2.CX P w) 6 (He.ga K "widened") (spWidened K) := by
  refine fnr T.f_widened sc_widened (fun vs H Q E h => ?_) (fun _ _ _ _ _ _ us hl => match us, hl with | [_, _], _ => rfl) fun cdv A outer s H vs Q E hr h => ?_
  · obtain ⟨_, a, b, _, _, _, _, rfl, _⟩ := h
    rfl
  obtain ⟨k, a, b, xs, ys, M, N, rfl, ea, eb, hx, hy, hl, hn, lt, q⟩ := h
  have nd := sc_widened.nd
  refine s_one <| s_ret <| w_mapz k false 2 3 nd T.b_zip <| w_var 0 rfl <| w_var 1 rfl <| lpZ ⟨a, b, xs, ys, rfl, rfl, ea, eb, ?_⟩
  have n1 : min xs.length ys.length = M.length := by rw [hx.1, hy.1]; omega
  rw [n1]
  refine ⟨hn, fun D hD => ⟨fun i y H => ∃ r m, M[i]? = some r ∧ N[i]? = some m ∧ LsO D (Rt K) H y (r ++ m), fun i y H H' kd ⟨r, m, e1, e2, h⟩ => ⟨r, m, e1, e2, monD_lsO monD_rt _ _ _ _ kd h⟩, fun i τ H' acc hi ⟨x, y, ex, ey, eτ⟩ s1 hd => ?_, fun zs H' s1 hd hz hR => ?_⟩⟩
  · subst eτ
    obtain ⟨r, er, l1, rfl, us, e1, h1⟩ := hx.get ex
    obtain ⟨m, em, l2, rfl, vs, e2, h2⟩ := hy.get ey
    obtain ⟨lrm, lt⟩ := lt i r m er em
    refine fun s0 H0 C cl fp => w_mapl 4 nd <| w_lst <| a_star <| w_var 2 rfl ⟨l1, us, rfl, .inr (SqL.of (s1 _ _ e1)), a_star <| w_var 3 rfl ⟨l2, vs, rfl, .inr (SqL.of (s1 _ _ e2)), a_nil ?_⟩⟩
    have hl0 : (us ++ (vs ++ [])).length = (r ++ m).length := by rw [List.append_nil, List.length_append, List.length_append, h1.1, h2.1]
    have hlm : (r ++ m).length ≤ 1000 := by rw [List.length_append]; exact lrm
    refine ⟨by rw [hl0, sizeLine_eq]; omega, fun p hp => lpL ⟨p, _, rfl, SqL.of upd_same, by rw [hl0]; exact hlm, fun D2 hD2 => ⟨fun i y H => ∃ q, (r ++ m)[i]? = some q ∧ Rt K H y q, fun i y H H' kd ⟨q, e, h⟩ => ⟨q, e, monD_rt _ _ _ _ kd h⟩, fun i τ H2 acc hi ⟨z, ez, eτ⟩ s2 hd2 => ?_, fun zs H2 s2 hd2 hz hR => ?_⟩⟩⟩
    · subst eτ
      have hz : Els (Nm K H) (us ++ (vs ++ [])) (r ++ m) := by rw [List.append_nil]; exact h1.append h2
      obtain ⟨q, eq, hq⟩ := hz.get ez
      have st : Same H H2 := s1.trans ((same_new hp).trans s2)
      exact fun s0 H0 C cl fp => w_as_ratio T hr <| w_var 4 rfl ⟨q, Arg.same hq st, lt q (List.mem_of_getElem? eq), fun v3 H3 s3 h3 => ⟨s3, q, eq, h3⟩⟩
    · have hpD : p ≠ D := fun z => by rw [z, hd] at hp; cases hp
      have hDD : D2 ≠ D := fun z => by rw [z, upd_ne (Ne.symm hpD), hd] at hD2; cases hD2
      refine ⟨(same_new hp).trans s2, r, m, er, em, D2, rfl, hDD, zs, hd2, Els.of (by rw [hz, hl0]) fun i y e a ea => ?_⟩
      obtain ⟨q', e', h'⟩ := hR i y e
      rw [e'] at ea
      cases ea
      exact h'
  · refine q D H' hD s1 ⟨zs, hd, Els.of (by rw [hz, List.length_zipWith]; omega) fun i y e a ea => ?_⟩
    obtain ⟨r, m, e1, e2, h'⟩ := hR i y e
    rw [List.getElem?_zipWith, e1, e2] at ea
    cases ea
    exact h'.ls
/-! ### pivot_at -/
def spPivot (K : PySem.W.Frag) : Sp := fun vs H Q E => ∃ (a : Addr) (p : Nat) (L : List GM.Row), vs = [.ref a, .int (p : Nat)] ∧ LsAt (Ls (Rt K)) H a L ∧ p ≤ L.length ∧ L.length ≤ 1000 ∧ (∀ r ∈ L, p < r.length) ∧
  (∀ q, GM.piv L p = some q → ∀ H', Same H H' → Q (.int (q : Nat)) H') ∧ (GM.piv L p = none → ∀ H', Same H H' → E (.ref (He.ga K "BadSystem")) none H')
theorem sc_pivot_at : FnScope ["lines", "place", "found", "k"] ["lines", "place"] (defScope s_pivot_at) := ⟨rfl, rfl, rfl, by decide +kernel, rfl, by decide +kernel, by decide +kernel⟩
theorem getD_some {α : Type} {l : List α} {i : Nat} {x d : α} (h : l[i]? = some x) : l.getD i d = x := by rw [List.getD_eq_getElem?_getD, h]; rfl
theorem fn_pivot_at (T : Tx K mg) : FnR P w K mg base (L2.CX P w) 5 (He.ga K "pivot_at") (spPivot K) := by
  refine fnr T.f_pivot_at sc_pivot_at (fun vs H Q E h => ?_) (fun _ _ _ _ _ _ us hl => match us, hl with | [_, _], _ => rfl) fun cdv A outer s H vs Q E hr h => ?_
  · obtain ⟨a, p, L, rfl, _⟩ := h
    rfl
  obtain ⟨a, p, L, rfl, ⟨xs, ea, hx⟩, hp, hn, hw, k1, k2⟩ := h
  have nd := sc_pivot_at.nd
  refine s_cons <| s_mapr2 2 3 nd T.b_range <| w_var 1 rfl <| w_callB call_len T.b_len (by decide +kernel) <| a_cons <| w_var 0 rfl <| a_nil ⟨_, xs.length, rfl, .inl ⟨xs, SqL.of ea, rfl⟩, p, L.length - p, rfl, ?_, by omega, lpNF ?_⟩
  · rw [hx.1, show p + (L.length - p) = L.length by omega]
  refine ⟨by omega, fun D hD => ⟨fun i => decide (GM.at2 L (p + i) p ≠ 0), fun i y H => y = .int ((p + i : Nat) : Int), fun i y H H' kd h => h, fun i τ H' acc hi eτ s1 hd => ?_, fun zs H' s1 hd g => ?_⟩⟩
  · cases eτ
    have hi' : p + i < L.length := by omega
    obtain ⟨x, ex, l, rfl, us, e1, h1⟩ := hx.at_ (List.getElem?_eq_getElem hi')
    have hpr : p < (L[p + i]).length := hw _ (List.getElem_mem hi')
    obtain ⟨y, ey, hy⟩ := h1.at_ (List.getElem?_eq_getElem hpr)
    have e2 : GM.at2 L (p + i) p = (L[p + i])[p] := by
      unfold GM.at2
      rw [getD_some (List.getElem?_eq_getElem hi'), getD_some (List.getElem?_eq_getElem hpr)]
    refine fun s0 H0 C cl fp => i_one <| t_cmp (op_rne T hr) <| w_ix ix_list <| w_ix ix_list <| w_var 0 rfl <| w_var 3 rfl ⟨a, _, _, _, rfl, rfl, SqL.of (s1 _ _ ea), atI_nat ex, w_var 1 rfl ⟨l, _, _, _, rfl, rfl, SqL.of (s1 _ _ e1), atI_nat ey, w_int ⟨_, _, hy.same s1, .int 0 rfl, fun H2 s2 => ⟨_, rfl, ?_, s2, fun _ s0 H0 C cl fp => w_var 3 rfl ⟨fun _ _ e => e, rfl⟩⟩⟩⟩⟩
    show (!decide (some (((0 : Int) : Rat)) = some (L[p + i])[p])) = decide (GM.at2 L (p + i) p ≠ 0)
    rw [e2]
    by_cases z : (L[p + i])[p] = 0
    · rw [z]; rfl
    · have z2 : ¬ (some (((0 : Int) : Rat)) = some (L[p + i])[p]) := fun q => z (Option.some.inj q).symm
      rw [decide_eq_false z2, decide_eq_true z]; rfl
  · have el : ((List.range (L.length - p)).filter fun i => decide (GM.at2 L (p + i) p ≠ 0)) = GM.pivs L p := rfl
    have g1 := g.1
    rw [el] at g1
    refine s_cons <| s_if <| t_cmp op_eq <| w_callB call_len T.b_len (by decide +kernel) <| a_cons <| w_var 2 rfl <| a_nil ⟨_, zs.length, rfl, .inl ⟨zs, SqL.of hd, rfl⟩, w_int ⟨rfl, _, rfl, ?_⟩⟩
    cases hh : GM.pivs L p with
    | nil =>
      rw [hh] at g1
      refine ifT (decide_eq_true (by rw [g1]; rfl)) (s_one (s_raise rfl takesX (mk_BadSystem T (hr.mono (by decide))) ?_))
      exact k2 (by unfold GM.piv; rw [hh]; rfl) H' s1
    | cons i rest =>
      rw [hh] at g1
      have hz : 0 < zs.length := by rw [g1, List.length_cons]; omega
      refine ifF (decide_eq_false (fun z => by injection z with z; omega)) (s_nil ?_)
      have e0 : zs[0]? = some (.int ((p + i : Nat) : Int)) := by
        rw [List.getElem?_eq_getElem hz]
        exact congrArg some (g.2 0 i _ (by rw [el, hh]; rfl) (List.getElem?_eq_getElem hz))
      refine s_one <| s_ret <| w_ix ix_list <| w_var 2 rfl <| w_int ⟨_, zs, 0, _, rfl, rfl, SqL.of hd, atI_nat (j := 0) e0, ?_⟩
      exact k1 (p + i) (by unfold GM.piv; rw [hh]; rfl) H' s1
end
end LW
namespace LW
open PySem PySem.Spec PyProof.Rows L2 PR
section
variable {P : Program} {w : World} {K : PySem.W.Frag} {mg : Str → Option Value} {base : Heap}
/-! ### reduced -/
def spReduced (K : PySem.W.Frag) : Sp := fun vs H Q E => ∃ (a : Addr) (L : List GM.Row) (m z : Nat), vs = [.ref a] ∧ LsAt (Ls (Rt K)) H a L ∧ GM.Wd m L ∧ L.length ≤ m ∧ m ≤ 500 ∧ GM.AllB z L ∧ 2 ^ L.length * (z + 1) ≤ 4000 ∧
  (∀ M, GM.red L = some M → ∀ l H', Same H H' → LsAt (Ls (Rt K)) H' l M → Q (.ref l) H') ∧ (GM.red L = none → ∀ H', Same H H' → E (.ref (He.ga K "BadSystem")) none H')
theorem sc_reduced : FnScope ["lines", "place", "at", "order", "own", "k", "item", "line"] ["lines"] (defScope s_reduced) := ⟨rfl, rfl, rfl, by decide +kernel, rfl, by decide +kernel, by decide +kernel⟩
theorem gr_lt {z n j : Nat} (h : 2 ^ n * (z + 1) ≤ 4000) (hj : j < n) : GM.gr z j + 1 ≤ 2000 := by
  rw [GM.gr_eq]
  have h1 : 2 ^ (j + 1) ≤ 2 ^ n := Nat.pow_le_pow_right (by decide) hj
  have h2 : 2 ^ (j + 1) * (z + 1) ≤ 2 ^ n * (z + 1) := Nat.mul_le_mul_right _ h1
  rw [Nat.pow_succ, Nat.mul_right_comm] at h2
  omega
theorem fn_reduced (T : Tx K mg) : FnR P w K mg base (L2.CX P w) 7 (He.ga K "reduced") (spReduced K) := by
  refine fnr T.f_reduced sc_reduced (fun vs H Q E h => ?_) (fun _ _ _ _ _ _ us hl => match us, hl with | [_], _ => rfl) fun cdv A outer s H vs Q E hr h => ?_
  · obtain ⟨a, L, m, z, rfl, _⟩ := h
    rfl
  obtain ⟨a, L, m, z, rfl, hL, hw, hlm, hm, hb, hz, k1, k2⟩ := h
  have nd := sc_reduced.nd
  have hlen : ∃ xs, H a = some (.lst xs) ∧ xs.length = L.length := by
    obtain ⟨xs, e, h⟩ := hL
    exact ⟨xs, e, h.1⟩
  obtain ⟨xs0, e0, l0⟩ := hlen
  refine s_cons <| s_forr 1 (passes_of rfl) nd T.b_range <| w_callB call_len T.b_len (by decide +kernel) <| a_cons <| w_var 0 rfl <| a_nil ⟨_, xs0.length, rfl, .inl ⟨xs0, SqL.of e0, rfl⟩, ?_⟩
  rw [l0]
  refine ⟨L.length, fun j σ H' => ∃ (M : List GM.Row) (l : Addr) (y1 y2 y3 y4 y5 y6 y7 : Option V), GM.redN L j = some M ∧ σ = [some (.ref l), y1, y2, y3, y4, y5, y6, y7] ∧ Same H H' ∧ LsAt (Ls (Rt K)) H' l M, rfl, by omega, ⟨L, a, _, _, _, _, _, _, _, rfl, rfl, fun _ _ e => e, hL⟩, ?_, ?_⟩
  · rintro j σ' H1 hj ⟨M, l, y1, y2, y3, y4, y5, y6, y7, eM, rfl, s1, hM⟩
    have O := GM.ok_redN hlm rfl hw j M (by omega) eM
    have B := GM.allB_redN hlm rfl hw hb j M (by omega) eM
    have hg := gr_lt hz hj
    have hMl : ∃ xs, H1 l = some (.lst xs) ∧ Els (Ls (Rt K) H1) xs M := hM
    obtain ⟨xs, ex, hx⟩ := hMl
    have lM : M.length = L.length := O.len
    refine s_cons <| s_set 2 nd <| w_call (fn_pivot_at T) (hr.mono (by decide)) T.g_pivot_at (kept T.f_pivot_at) passX <| a_cons <| w_var 0 rfl <| a_cons <| w_var 1 rfl <| a_nil ⟨l, j, M, rfl, hM, by omega, by omega, fun r hr => by rw [O.wd r hr]; omega, fun q hq H2 s2 => ?_, fun hq H2 s2 => ?_⟩
    · obtain ⟨q1, q2, q3⟩ := GM.piv_spec hq
      have ex2 := s2 _ _ ex
      have hx2 : Els (Ls (Rt K) H2) xs M := hx.mono fun v r h => monS_ls monS_rt _ _ _ _ s2 h
      -- order
      refine s_cons <| s_set 3 nd <| w_lst <| a_cons <| w_var 2 rfl <| a_star <| w_mapr2 5 nd T.b_range <| w_var 1 rfl <| w_callB call_len T.b_len (by decide +kernel) <| a_cons <| w_var 0 rfl <| a_nil ⟨_, xs.length, rfl, .inl ⟨xs, SqL.of ex2, rfl⟩, j, M.length - j, rfl, ?_, by omega, lpNF ?_⟩
      · rw [hx.1, show j + (M.length - j) = M.length by omega]
      refine ⟨by omega, fun D hD => ⟨fun i => decide (j + i ≠ q), fun i y H => y = .int ((j + i : Nat) : Int), fun i y H H' kd h => h, fun i τ H' acc hi eτ s3 hd => ?_, fun zs H3 s3 hd g => ?_⟩⟩
      · cases eτ
        refine fun s0 H0 C cl fp => i_one <| t_cmp op_ne <| w_var 5 rfl <| w_var 2 rfl ⟨rfl, _, rfl, ?_, fun _ _ e => e, fun _ s0 H0 C cl fp => w_var 5 rfl ⟨fun _ _ e => e, rfl⟩⟩
        show (!decide (V.int ((j + i : Nat) : Int) = V.int (q : Int))) = decide (j + i ≠ q)
        by_cases hq2 : j + i = q
        · rw [hq2]; simp
        · have z1 : ¬ (V.int ((j + i : Nat) : Int) = V.int (q : Int)) := fun z => hq2 (by injection z with z; omega)
          rw [decide_eq_false z1, decide_eq_true hq2]; rfl
      refine ⟨D, zs, rfl, .inr (SqL.of hd), a_nil ?_⟩
      have gl : zs.length = (GM.rest M j q).length := by rw [g.1]; unfold GM.rest; rw [List.length_map]
      have gz : ∀ (i : Nat) (y : V), zs[i]? = some y → ∃ k, (GM.rest M j q)[i]? = some k ∧ y = .int (k : Nat) := fun i y e => by
        have hi : i < (GM.rest M j q).length := by rw [← gl]; exact (List.getElem?_eq_some_iff.mp e).1
        unfold GM.rest at hi ⊢
        rw [List.length_map] at hi
        have r := g.2 i _ y (List.getElem?_eq_getElem hi) e
        exact ⟨_, by rw [List.getElem?_map, List.getElem?_eq_getElem hi]; rfl, r⟩
      have rl : (GM.rest M j q).length + 1 ≤ 1000 := by
        unfold GM.rest
        rw [List.length_map, GM.filter_ne_len _ q j q1 (by omega)]
        omega
      have ho : ∀ (i : Nat) (y : V), (.int (q : Nat) :: (zs ++ []) : List V)[i]? = some y → ∃ k, (GM.order M j q)[i]? = some k ∧ y = .int (k : Nat) := fun i y e => by
        rw [List.append_nil] at e
        cases i with
        | zero => cases e; exact ⟨q, rfl, rfl⟩
        | succ i => exact gz i y e
      refine ⟨by rw [List.append_nil, List.length_cons, gl, sizeLine_eq]; omega, fun o ho1 => ?_⟩
      have s4 : Same H2 (upd H3 o (.lst (.int (q : Nat) :: (zs ++ [])))) := s3.trans (same_new ho1)
      have eo : upd H3 o (.lst (.int (q : Nat) :: (zs ++ []))) o = some (.lst (.int (q : Nat) :: (zs ++ []))) := upd_same
      have lo : (.int (q : Nat) :: (zs ++ []) : List V).length = (GM.order M j q).length := by rw [List.append_nil, List.length_cons, gl]; rfl
      change Wb _ _ _ _ (upd H3 o (.lst (.int (q : Nat) :: (zs ++ []))))
      generalize upd H3 o (.lst (.int (q : Nat) :: (zs ++ []))) = H4 at s4 eo ⊢
      generalize (.int (q : Nat) :: (zs ++ []) : List V) = os at ho eo lo
      clear hD hd s3 g gl gz ho1 zs D H3
      -- lines in the new order
      refine s_cons <| s_set 0 nd <| w_lst <| a_star <| w_slT sl_list <| w_var 0 rfl <| w_var 1 rfl ⟨(j : Nat), rfl, l, xs, rfl, SqL.of (s4 _ _ ex2), fun p hp => ⟨p, _, rfl, .inr (SqL.of upd_same), ?_⟩⟩
      rw [cut_to]
      have s5 : Same H4 (upd H4 p (.lst (xs.take j))) := same_new hp
      have lp2 : (GM.order M j q).length ≤ 1000 := by show (GM.rest M j q).length + 1 ≤ 1000; exact rl
      refine a_star <| w_mapl 5 nd <| w_var 3 rfl <| lpL ⟨o, os, rfl, SqL.of (s5 _ _ eo), by rw [lo]; exact lp2, fun D hD => ⟨fun i y H => ∃ k r, (GM.order M j q)[i]? = some k ∧ M[k]? = some r ∧ LsO D (Rt K) H y r, fun i y H H' kd ⟨k, r, e1, e2, h⟩ => ⟨k, r, e1, e2, monD_lsO monD_rt _ _ _ _ kd h⟩, fun i τ H' acc hi ⟨x, ex', eτ⟩ s6 hd => ?_, fun zs H6 s6 hd hzl hR => ?_⟩⟩
      · subst eτ
        obtain ⟨k, ek, rfl⟩ := ho i x ex'
        have hkM : k < M.length := by
          have hmem := List.mem_of_getElem? ek
          unfold GM.order GM.rest at hmem
          rcases List.mem_cons.mp hmem with rfl | hmem
          · exact q2
          · obtain ⟨i2, hi2, rfl⟩ := List.mem_map.mp hmem
            have := List.mem_range.mp (List.mem_filter.mp hi2).1
            omega
        obtain ⟨y, ey, hy⟩ := hx2.at_ (List.getElem?_eq_getElem hkM)
        have st : Same H2 (upd H4 p (.lst (xs.take j))) := s4.trans s5
        have hy' : LsO D (Rt K) H' y M[k] := monS_lsO monS_rt _ _ _ _ s6 ((monS_ls monS_rt _ _ _ _ st hy).off hD)
        exact fun s0 H0 C cl fp => w_ix ix_list <| w_var 0 rfl <| w_var 5 rfl ⟨l, xs, _, y, rfl, rfl, SqL.of (s6 _ _ (st _ _ ex2)), atI_nat ey, fun _ _ e => e, k, M[k], ek, List.getElem?_eq_getElem hkM, hy'⟩
      refine ⟨D, zs, rfl, .inr (SqL.of hd), a_nil ⟨by rw [List.append_nil, List.length_append, List.length_take, hzl, lo, sizeLine_eq]; omega, fun o2 ho2 => ?_⟩⟩
      have s7 : Same H2 (upd H6 o2 (.lst (xs.take j ++ (zs ++ [])))) := (s4.trans (s5.trans s6)).trans (same_new ho2)
      have eo2 : upd H6 o2 (.lst (xs.take j ++ (zs ++ []))) o2 = some (.lst (xs.take j ++ zs)) := by rw [upd_same, List.append_nil]
      have s67 : Same H6 (upd H6 o2 (.lst (xs.take j ++ (zs ++ [])))) := same_new ho2
      change Wb _ _ _ _ (upd H6 o2 (.lst (xs.take j ++ (zs ++ []))))
      generalize upd H6 o2 (.lst (xs.take j ++ (zs ++ []))) = H7 at s7 eo2 s67 ⊢
      have hN : LsAt (Ls (Rt K)) H7 o2 (GM.perm M j q) := by
        refine ⟨_, eo2, ?_⟩
        unfold GM.perm
        refine Els.append ((hx2.take j).mono fun v r h => monS_ls monS_rt _ _ _ _ s7 h) (Els.of (by rw [hzl, lo, List.length_map]) fun i y e r er => ?_)
        obtain ⟨k, r', e1, e2, h'⟩ := hR i y e
        rw [List.getElem?_map, e1] at er
        cases er
        show Ls (Rt K) H7 y (M.getD k [])
        rw [getD_some e2]
        exact monS_ls monS_rt _ _ _ _ s67 h'.ls
      clear hR hd hzl ho2 s67 eo2 s6 hD s5 hp s4 eo lo ho
      have wN := GM.wd_perm O.wd q1 q2
      have lN := GM.len_perm (L := M) q1 q2
      have hBN := GM.allB_perm B q1 q2
      have hjN : j < (GM.perm M j q).length := by omega
      have hpn : GM.at2 (GM.perm M j q) j j ≠ 0 := by
        unfold GM.at2
        rw [GM.perm_at (by omega)]
        exact q3
      obtain ⟨oB, cB⟩ := GM.allB_clear (m := m) hBN wN hjN (by omega) hpn
      have eN : GM.stp M j = some (GM.clear (GM.perm M j q) j) := by unfold GM.stp; rw [hq]; rfl
      generalize hNN : GM.perm M j q = N at *
      obtain ⟨ns, en, hn⟩ := hN
      have hjr : N[j]? = some (N.getD j []) := by rw [List.getD_eq_getElem?_getD, List.getElem?_eq_getElem hjN]; rfl
      obtain ⟨vj, evj, lj, rfl, us, eus, hus⟩ := hn.at_ hjr
      have ljm : (N.getD j []).length = m := wN.at_ hjN
      have hjj : (N.getD j [])[j]? = some (GM.at2 N j j) := by
        unfold GM.at2
        rw [List.getD_eq_getElem?_getD (l := N.getD j []), List.getElem?_eq_getElem (by rw [ljm]; omega)]
        rfl
      obtain ⟨vp, evp, hvp⟩ := hus.at_ hjj
      have bj : GM.RowB (GM.gr z j) (N.getD j []) := hBN _ (GM.getD_mem hjN)
      -- own
      refine s_cons <| s_set 4 nd <| w_mapl 6 nd <| w_ix ix_list <| w_var 0 rfl <| w_var 1 rfl ⟨o2, ns, _, .ref lj, rfl, rfl, SqL.of en, atI_nat evj, lpL ⟨lj, us, rfl, SqL.of eus, by rw [hus.1, ljm]; omega, fun D hD => ⟨fun i y H => ∃ x, (N.getD j [])[i]? = some x ∧ Rt K H y (x / GM.at2 N j j), fun i y H H' kd ⟨x, e1, h⟩ => ⟨x, e1, monD_rt _ _ _ _ kd h⟩, fun i τ H' acc hi ⟨x, ex', eτ⟩ s8 hd => ?_, fun ws H8 s8 hd hwl hR => ?_⟩⟩⟩
      · subst eτ
        obtain ⟨p', ep, hp'⟩ := hus.get ex'
        obtain ⟨ax, dx, rfl, hax⟩ := id (hp'.same s8)
        refine fun s0 H0 C cl fp => w_meth T.c_Ratio T.m_Ratio_over (fn_over T) (hr.mono (by decide)) passL <| w_var 6 rfl ⟨ax, dx, _, rfl, hax, rfs_no _ (by decide +kernel) (by decide +kernel), a_cons <| w_ix ix_list <| w_ix ix_list <| w_var 0 rfl <| w_var 1 rfl ⟨o2, ns, _, .ref lj, rfl, rfl, SqL.of (s8 _ _ en), atI_nat evj, w_var 1 rfl ⟨lj, us, _, vp, rfl, rfl, SqL.of (s8 _ _ eus), atI_nat evp, a_nil ⟨.ref ax, vp, p', GM.at2 N j j, rfl, hp'.same s8, .rat _ (hvp.same s8), ?_, fun _ v3 H3 s3 h3 => ⟨s3, p', ep, h3⟩, fun z => absurd z hpn⟩⟩⟩⟩
        exact RM.fit_of (bj.lt p' (List.mem_of_getElem? ep)) (bj.lt _ (List.mem_of_getElem? hjj)) (by omega)
      have hOwn : LsAt (Rt K) H8 D (GM.own N j) := by
        refine ⟨ws, hd, Els.of ?_ fun i y e x ex' => ?_⟩
        · rw [hwl, hus.1]; unfold GM.own GM.over; rw [List.length_map]
        · obtain ⟨x', e1, h'⟩ := hR i y e
          unfold GM.own GM.over at ex'
          rw [List.getElem?_map, e1] at ex'
          cases ex'
          exact h'
      have en8 := s8 _ _ en
      have hn8 : Els (Ls (Rt K) H8) ns N := hn.mono fun v r h => monS_ls monS_rt _ _ _ _ s8 h
      have s9 : Same H H8 := s1.trans (s2.trans (s7.trans s8))
      have lown : (GM.own N j).length = m := GM.len_own wN hjN
      clear hR hwl s8 hD hus evp hvp evj eus hn en s7 hx2 ex2
      -- lines
      refine s_one <| s_set 0 nd <| w_mape 5 7 nd T.b_enumerate <| w_var 0 rfl <| lpE ⟨o2, ns, rfl, SqL.of en8, by rw [hn8.1]; omega, fun D2 hD2 => ⟨fun i y H => LsO D2 (Rt K) H y ((GM.clear N j).getD i []), fun i y H H' kd h => monD_lsO monD_rt _ _ _ _ kd h, fun i τ H' acc hi ⟨x, ex', eτ⟩ s10 hd2 => ?_, fun ws2 H9 s10 hd2 hwl hR => ?_⟩⟩
      · subst eτ
        obtain ⟨r, er, hr'⟩ := hn8.get ex'
        have hiN : i < N.length := (List.getElem?_eq_some_iff.mp er).1
        have ec := GM.clear_at (p := j) hiN
        refine fun s0 H0 C cl fp => w_ife <| t_cmp op_eq <| w_var 5 rfl <| w_var 1 rfl ⟨rfl, _, rfl, ?_⟩
        by_cases hij : i = j
        · refine ifT (decide_eq_true (by rw [hij])) (w_var 4 rfl ⟨fun _ _ e => e, ?_⟩)
          show LsO D2 (Rt K) H' (.ref D) ((GM.clear N j).getD i [])
          rw [ec, if_pos hij]
          exact monS_lsO monS_rt _ _ _ _ s10 (Ls.off ⟨D, rfl, hOwn⟩ hD2)
        · refine ifF (decide_eq_false (fun z => hij (by injection z with z; omega))) ?_
          obtain ⟨lx, rfl, ts, ets, hts⟩ := hr'
          have erD : N.getD i [] = r := getD_some er
          have lr : r.length = m := by rw [← erD]; exact wN.at_ hiN
          have hfj : r[j]? = some (GM.at2 N i j) := by
            unfold GM.at2
            rw [erD, List.getD_eq_getElem?_getD, List.getElem?_eq_getElem (by omega)]
            rfl
          obtain ⟨vf, evf, hvf⟩ := hts.at_ hfj
          have bi : GM.RowB (GM.gr z j) r := hBN _ (List.mem_of_getElem? er)
          refine w_call (fn_less_row T) hr T.g_less_row (kept T.f_less_row) passL <| a_cons <| w_var 7 rfl <| a_cons <| w_var 4 rfl <| a_cons <| w_ix ix_list <| w_var 7 rfl <| w_var 1 rfl ⟨lx, ts, _, vf, rfl, rfl, SqL.of (s10 _ _ ets), atI_nat evf, a_nil ⟨lx, D, vf, r, GM.own N j, GM.at2 N i j, rfl, LsAt.same monS_rt ⟨ts, ets, hts⟩ s10, hOwn.same monS_rt s10, hvf.same s10, by omega, by omega, fun i2 x2 y2 e2 e3 => ?_, fun l3 H3 hl3 s3 h3 => ⟨s3, l3, rfl, (fun z => by rw [z, hd2] at hl3; cases hl3), ?_⟩⟩⟩
          · have t1 := bi.lt x2 (List.mem_of_getElem? e2)
            have t2 := oB.lt y2 (List.mem_of_getElem? e3)
            have t3 := bi.lt _ (List.mem_of_getElem? hfj)
            exact ⟨RM.fit_of t2 t3 (by omega), RM.fit_of t1 (RM.lt_mul t2 t3) (by omega)⟩
          · show LsAt (Rt K) H3 l3 ((GM.clear N j).getD i [])
            rw [ec, if_neg hij, erD]; exact h3
      refine ⟨GM.clear N j, D2, _, _, _, _, _, _, _, ?_, rfl, s9.trans s10, ws2, hd2, Els.of (by rw [hwl, hn8.1, GM.len_clear]) fun i y e r er => ?_⟩
      · show (GM.redN L j).bind _ = _
        rw [eM]
        exact eN
      · have h' : LsO D2 (Rt K) H9 y ((GM.clear N j).getD i []) := hR i y e
        rw [getD_some er] at h'
        exact h'.ls
    · refine k2 ?_ H2 (s1.trans s2)
      refine GM.redN_none (j := j + 1) ?_ (by omega)
      show (GM.redN L j).bind _ = none
      rw [eM]
      show GM.stp M j = none
      unfold GM.stp
      rw [hq]
      rfl
  · rintro σ' H1 ⟨M, l, y1, y2, y3, y4, y5, y6, y7, eM, rfl, s1, hM⟩
    exact s_one <| s_ret <| w_var 0 rfl <| k1 M eM l H1 s1 hM
end
end LW
namespace LW
open PySem PySem.Spec PyProof.Rows L2 PR
/-- lists that were not there in B, another one than at e -/
def LsN {α : Type} (B : Hp) (e : Addr) (R : Hp → V → α → Prop) (H : Hp) (v : V) (as : List α) : Prop := ∃ l, v = .ref l ∧ B l = none ∧ l ≠ e ∧ LsAt R H l as
section
variable {P : Program} {w : World} {K : PySem.W.Frag} {mg : Str → Option Value} {base : Heap}
theorem lt_aug {z : Nat} {A B : List GM.Row} (h : GM.AllB z (GM.aug A B)) (hz : z ≤ 4000) {i : Nat} {r m : GM.Row} (h1 : A[i]? = some r) (h2 : B[i]? = some m) : ∀ q ∈ r ++ m, RM.Lt q 9000 := fun q hq =>
  ((h _ (List.mem_of_getElem? (GM.aug_at h1 h2))).lt q hq).mono (by omega)
theorem z_le {n z : Nat} (h : 2 ^ n * (z + 1) ≤ 4000) : z ≤ 4000 := by
  have h1 : 1 ≤ 2 ^ n := Nat.one_le_two_pow
  have h2 : 1 * (z + 1) ≤ 2 ^ n * (z + 1) := Nat.mul_le_mul_right _ h1
  omega
/-! ### solved -/
def spSolved (K : PySem.W.Frag) : Sp := fun vs H Q E => ∃ (k : Bool) (a b : Addr) (xs : List V) (A : List GM.Row) (rs : GM.Row) (z : Nat), vs = [.ref a, .ref b] ∧ SqK k K H a xs ∧ Els (Ls (Nm K) H) xs A ∧ LsAt (Nm K) H b rs ∧ rs.length = A.length ∧ A.length ≤ 200 ∧ GM.Wd A.length A ∧
  GM.AllB z (GM.aug A (GM.cols rs)) ∧ 2 ^ A.length * (z + 1) ≤ 4000 ∧ (∀ x, GM.sol A rs = some x → ∀ l H', H l = none → Same H H' → LsAt (Rt K) H' l x → Q (.ref l) H') ∧ (GM.sol A rs = none → ∀ H', Same H H' → E (.ref (He.ga K "BadSystem")) none H')
theorem sc_solved : FnScope ["rows", "right", "number", "line"] ["rows", "right"] (defScope s_solved) := ⟨rfl, rfl, rfl, by decide +kernel, rfl, by decide +kernel, by decide +kernel⟩
theorem len_solved : ∀ vs H Q E, spSolved K vs H Q E → vs.length = (["rows", "right"] : List Str).length := fun vs H Q E h => by
  obtain ⟨_, a, b, _, _, _, _, rfl, _⟩ := h
  rfl
theorem wb_solved (T : Tx K mg) {cdv : Value} {A : Around} {outer : List Env} {s : Shared} {H : Hp} {vs : List V} {Q : VK} {E : XK} (hr : Room 7 (A.deeper (envOfC "solved" (defScope s_solved) s.heap.objs.size (He.ga K "solved") cdv))) (h : spSolved K vs H Q E) :
    Wb (cxOf (L2.CX P w) P w K mg base ["rows", "right", "number", "line"] "solved" (defScope s_solved) (He.ga K "solved") cdv A outer s H E) (defBody s_solved) { nx := fun _ H' => Q .non H', rt := Q } (start ["rows", "right", "number", "line"] vs) H := by
  obtain ⟨k, a, b, xs, A, rs, z, rfl, ea, hx, ⟨ys, eb, hy⟩, hl, hn, hw, hB, hz, k1, k2⟩ := h
  have nd := sc_solved.nd
  have zl := z_le hz
  refine s_one <| s_ret <| w_mapl 3 nd <| w_call (fn_reduced T) hr T.g_reduced (kept T.f_reduced) passX <| a_cons <| w_call (fn_widened T) (hr.mono (by decide)) T.g_widened (kept T.f_widened) passL <| a_cons <| w_var 0 rfl <| a_cons <| w_mapl 2 nd <| w_var 1 rfl <| lpL ⟨b, ys, rfl, SqL.of eb, by rw [hy.1]; omega, fun D hD => ⟨fun i y H => ∃ q, rs[i]? = some q ∧ LsO D (Nm K) H y [q], fun i y H H' kd ⟨q, e, h⟩ => ⟨q, e, monD_lsO monD_nm _ _ _ _ kd h⟩, fun i τ H' acc hi ⟨x, ex, eτ⟩ s1 hd => ?_, fun zs H1 s1 hd hzl hR => ?_⟩⟩
  · subst eτ
    obtain ⟨q, eq, hq⟩ := hy.get ex
    refine fun s0 H0 C cl fp => w_lst <| a_cons <| w_var 2 rfl <| a_nil ⟨by show 1 ≤ sizeLine; decide, fun p hp => ⟨same_new hp, q, eq, p, rfl, (fun z => by rw [z, hd] at hp; cases hp), [x], upd_same, .cons ?_ .nil⟩⟩
    exact Arg.same hq (s1.trans (same_new hp))
  have hzs : Els (Ls (Nm K) H1) zs (GM.cols rs) := Els.of (by rw [hzl, hy.1, GM.len_cols]) fun i y e m em => by
    obtain ⟨q, e1, h'⟩ := hR i y e
    obtain ⟨q2, e2, rfl⟩ := GM.cols_at em
    rw [e1] at e2
    cases e2
    exact h'.ls
  have hlc : A.length = (GM.cols rs).length := by rw [GM.len_cols, hl]
  refine a_nil ⟨k, a, D, xs, zs, A, GM.cols rs, rfl, ea.same s1, SqL.of hd, hx.mono fun v r h => monS_ls monS_nm _ _ _ _ s1 h, hzs, hlc, by omega, fun i r m er em => ⟨?_, lt_aug hB zl er em⟩, fun l H2 hl2 s2 hM => ?_⟩
  · obtain ⟨q, _, rfl⟩ := GM.cols_at em
    rw [hw r (List.mem_of_getElem? er)]
    show A.length + 1 ≤ 1000
    omega
  have la : (GM.aug A (GM.cols rs)).length = A.length := GM.len_aug hlc
  refine a_nil ⟨l, GM.aug A (GM.cols rs), A.length + 1, z, rfl, hM, GM.wd_aug hw (GM.wd_cols rs), by omega, by omega, hB, by rw [la]; exact hz, fun M eM l3 H3 s3 h3 => ?_, fun eM H3 s3 => ?_⟩
  · obtain ⟨lM, wM, _⟩ := GM.red_some (n := A.length) (m := A.length + 1) (by omega) la (GM.wd_aug hw (GM.wd_cols rs)) eM
    obtain ⟨us, eu, hu⟩ := h3
    have st : Same H H3 := s1.trans (s2.trans s3)
    refine lpL ⟨l3, us, rfl, SqL.of eu, by rw [hu.1]; omega, fun D2 hD2 => ⟨fun i y H => ∃ r, M[i]? = some r ∧ Rt K H y (r.getD A.length 0), fun i y H H' kd ⟨r, e, h⟩ => ⟨r, e, monD_rt _ _ _ _ kd h⟩, fun i τ H' acc hi ⟨x, ex, eτ⟩ s4 hd4 => ?_, fun ws H4 s4 hd4 hwl hR4 => ?_⟩⟩
    · subst eτ
      obtain ⟨r, er, lr, rfl, ts, et, ht⟩ := hu.get ex
      have hlr : r.length = A.length + 1 := wM r (List.mem_of_getElem? er)
      have hlt : ts.length = A.length + 1 := by rw [ht.1, hlr]
      obtain ⟨y, ey, hyq⟩ := ht.at_ (List.getElem?_eq_getElem (show A.length < r.length by omega))
      have el : ts = ts.take A.length ++ [y] := by
        have e1 := List.take_append_drop A.length ts
        have e2 : ts.drop A.length = [y] := by
          rw [List.drop_eq_getElem_cons (by omega), List.drop_of_length_le (by omega)]
          rw [List.getElem?_eq_getElem (by omega)] at ey
          rw [Option.some.inj ey]
        rw [e2] at e1
        exact e1.symm
      refine fun s0 H0 C cl fp => w_ix ix_list <| w_var 3 rfl <| w_un un_neg <| w_int ⟨_, rfl, lr, ts, _, y, rfl, rfl, SqL.of (s4 _ _ et), ?_, fun _ _ e => e, r, er, ?_⟩
      · rw [el]
        exact atI_last _ y
      · rw [getD_some (List.getElem?_eq_getElem (show A.length < r.length by omega))]
        exact hyq.same s4
    · have es : GM.sol A rs = some (M.map fun r => r.getD A.length 0) := by unfold GM.sol; rw [eM]; rfl
      have hDH : H D2 = none := by
        cases e : H D2 with
        | none => rfl
        | some o => rw [st _ _ e] at hD2; cases hD2
      refine k1 _ es D2 H4 hDH (st.trans s4) ⟨ws, hd4, Els.of (by rw [hwl, hu.1, List.length_map]) fun i y e x ex => ?_⟩
      obtain ⟨r, er, h'⟩ := hR4 i y e
      rw [List.getElem?_map, er] at ex
      cases ex
      exact h'
  · exact k2 (by unfold GM.sol; rw [eM]; rfl) H3 (s1.trans (s2.trans s3))
theorem fn_solved (T : Tx K mg) : FnR P w K mg base (L2.CX P w) 8 (He.ga K "solved") (spSolved K) :=
  fnr T.f_solved sc_solved len_solved (fun _ _ _ _ _ _ us hl => match us, hl with | [_, _], _ => rfl) fun cdv A outer s H vs Q E hr h => wb_solved T hr h
/-! ### inverse -/
def spInverse (K : PySem.W.Frag) : Sp := fun vs H Q E => ∃ (a : Addr) (A : List GM.Row) (z : Nat), vs = [.ref a] ∧ LsAt (Ls (Nm K)) H a A ∧ A.length ≤ 200 ∧ GM.Wd A.length A ∧
  GM.AllB z (GM.aug A (GM.unit A.length)) ∧ 2 ^ A.length * (z + 1) ≤ 4000 ∧ (∀ W, GM.inv A = some W → ∀ l H', H l = none → Same H H' → LsAt (LsN H l (Rt K)) H' l W → Q (.ref l) H') ∧ (GM.inv A = none → ∀ H', Same H H' → E (.ref (He.ga K "BadSystem")) none H')
theorem sc_inverse : FnScope ["rows", "count", "units", "k", "place", "line"] ["rows"] (defScope s_inverse) := ⟨rfl, rfl, rfl, by decide +kernel, rfl, by decide +kernel, by decide +kernel⟩
theorem none_of {H H' : Hp} {D : Addr} (s : Same H H') (h : H' D = none) : H D = none := by
  cases e : H D with
  | none => rfl
  | some o => rw [s _ _ e] at h; cases h
theorem fn_inverse (T : Tx K mg) : FnR P w K mg base (L2.CX P w) 8 (He.ga K "inverse") (spInverse K) := by
  refine fnr T.f_inverse sc_inverse (fun vs H Q E h => ?_) (fun _ _ _ _ _ _ us hl => match us, hl with | [_], _ => rfl) fun cdv A outer s H vs Q E hr h => ?_
  · obtain ⟨a, _, _, rfl, _⟩ := h
    rfl
  obtain ⟨a, A, z, rfl, ⟨xs, ea, hx⟩, hn, hw, hB, hz, k1, k2⟩ := h
  have nd := sc_inverse.nd
  have zl := z_le hz
  refine s_cons <| s_set 1 nd <| w_callB call_len T.b_len (by decide +kernel) <| a_cons <| w_var 0 rfl <| a_nil ⟨_, xs.length, rfl, .inl ⟨xs, SqL.of ea, rfl⟩, ?_⟩
  rw [hx.1]
  refine s_cons <| s_mapr 2 4 nd T.b_range <| w_var 1 rfl ⟨A.length, rfl, lpN (lo := 0) ⟨by omega, fun D hD => ⟨fun i y H => LsO D (Nm K) H y ((List.range A.length).map fun k => if k = i then 1 else 0), fun i y H H' kd h => monD_lsO monD_nm _ _ _ _ kd h, fun i τ H' acc hi eτ s1 hd => ?_, fun zs H1 s1 hd hzl hR => ?_⟩⟩⟩
  · cases eτ
    refine fun s0 H0 C cl fp => w_mapr 3 nd T.b_range <| w_var 1 rfl ⟨A.length, rfl, lpN (lo := 0) ⟨by omega, fun D2 hD2 => ⟨fun j y H => Nm K H y (if j = i then 1 else 0), fun j y H H' kd h => monD_nm _ _ _ _ kd h, fun j τ H2 acc2 hj eτ s2 hd2 => ?_, fun ws H2 s2 hd2 hwl hR2 => ⟨s2, D2, rfl, (fun z => by rw [z, hd] at hD2; cases hD2), ws, hd2, ?_⟩⟩⟩⟩
    · cases eτ
      refine fun s0 H0 C cl fp => w_callT call_int1 T.b_int (by decide +kernel) <| a_cons <| w_cmp op_eq <| w_var 3 rfl <| w_var 4 rfl ⟨rfl, a_nil (.inr ⟨_, rfl, fun _ _ e => e, ?_⟩)⟩
      by_cases hji : j = i
      · rw [decide_eq_true (by rw [hji]), if_pos rfl]
        show Nm K _ (.int 1) (if j = i then 1 else 0)
        rw [if_pos hji]
        exact .int 1 rfl
      · rw [decide_eq_false (fun z => hji (by injection z with z; omega)), if_neg Bool.false_ne_true]
        show Nm K _ (.int 0) (if j = i then 1 else 0)
        rw [if_neg hji]
        exact .int 0 rfl
    · refine Els.of (by rw [hwl, List.length_map, List.length_range]) fun j y e q eq => ?_
      have h' := hR2 j y e
      have hj : j < A.length := by rw [← hwl]; exact (List.getElem?_eq_some_iff.mp e).1
      rw [List.getElem?_map, List.getElem?_range hj] at eq
      cases eq
      exact h'
  have hzs : Els (Ls (Nm K) H1) zs (GM.unit A.length) := Els.of (by rw [hzl, GM.len_unit]) fun i y e m em => by
    have h' := hR i y e
    have hi : i < A.length := by rw [← hzl]; exact (List.getElem?_eq_some_iff.mp e).1
    rw [GM.unit_at hi] at em
    cases em
    exact h'.ls
  have hlc : A.length = (GM.unit A.length).length := by rw [GM.len_unit]
  have la : (GM.aug A (GM.unit A.length)).length = A.length := GM.len_aug hlc
  refine s_one <| s_ret <| w_mapl 5 nd <| w_call (fn_reduced T) hr T.g_reduced (kept T.f_reduced) passX <| a_cons <| w_call (fn_widened T) (hr.mono (by decide)) T.g_widened (kept T.f_widened) passL <| a_cons <| w_var 0 rfl <| a_cons <| w_var 2 rfl <| a_nil ⟨false, a, D, xs, zs, A, GM.unit A.length, rfl, SqL.of (s1 _ _ ea), SqL.of hd, hx.mono fun v r h => monS_ls monS_nm _ _ _ _ s1 h, hzs, hlc, by omega, fun i r m er em => ⟨?_, lt_aug hB zl er em⟩, fun l H2 hl2 s2 hM => ?_⟩
  · rw [hw r (List.mem_of_getElem? er), GM.wd_unit _ m (List.mem_of_getElem? em)]
    omega
  refine a_nil ⟨l, GM.aug A (GM.unit A.length), A.length + A.length, z, rfl, hM, GM.wd_aug hw (GM.wd_unit _), by omega, by omega, hB, by rw [la]; exact hz, fun M eM l3 H3 s3 h3 => ?_, fun eM H3 s3 => ?_⟩
  · obtain ⟨lM, wM, _⟩ := GM.red_some (n := A.length) (m := A.length + A.length) (by omega) la (GM.wd_aug hw (GM.wd_unit _)) eM
    obtain ⟨us, eu, hu⟩ := h3
    have st : Same H H3 := s1.trans (s2.trans s3)
    refine lpL ⟨l3, us, rfl, SqL.of eu, by rw [hu.1]; omega, fun D2 hD2 => ⟨fun i y H' => ∃ r l, M[i]? = some r ∧ y = .ref l ∧ l ≠ D2 ∧ H l = none ∧ LsAt (Rt K) H' l (r.drop A.length), fun i y H H' kd ⟨r, l, e, e2, n, hb, xs, h1, h2⟩ => ⟨r, l, e, e2, n, hb, xs, kd.2 _ _ n h1, h2.mono fun x a r => monD_rt _ _ _ _ kd r⟩, fun i τ H' acc hi ⟨x, ex, eτ⟩ s4 hd4 => ?_, fun ws H4 s4 hd4 hwl hR4 => ?_⟩⟩
    · subst eτ
      obtain ⟨r, er, lr, rfl, ts, et, ht⟩ := hu.get ex
      refine fun s0 H0 C cl fp => w_slF sl_list <| w_var 5 rfl <| w_var 1 rfl ⟨(A.length : Nat), rfl, lr, ts, rfl, SqL.of (s4 _ _ et), fun p hp => ⟨same_new hp, r, p, er, rfl, (fun z => by rw [z, hd4] at hp; cases hp), none_of (st.trans s4) hp, ?_⟩⟩
      rw [cut_from]
      exact ⟨_, upd_same, (ht.drop A.length).mono fun v q h => (h.same s4).same (same_new hp)⟩
    · have es : GM.inv A = some (M.map fun r => r.drop A.length) := by unfold GM.inv; rw [eM]; rfl
      refine k1 _ es D2 H4 (none_of st hD2) (st.trans s4) ⟨ws, hd4, Els.of (by rw [hwl, hu.1, List.length_map]) fun i y e x ex => ?_⟩
      obtain ⟨r, l, er, e2, hne, hb, h'⟩ := hR4 i y e
      rw [List.getElem?_map, er] at ex
      cases ex
      exact ⟨l, e2, hb, hne, h'⟩
  · exact k2 (by unfold GM.inv; rw [eM]; rfl) H3 (s1.trans (s2.trans s3))
end
end LW
namespace LW
open PySem PySem.Spec PyProof.Rows L2 PR
theorem els_nums {K : PySem.W.Frag} {H : Hp} {xs : List V} {qs : List Rat} (h : Els (Nm K H) xs qs) : Nums K H xs qs := ⟨h.1, fun i x e => h.get e⟩
/-- numbers by numbers, place by place -/
def prods (ps qs : GM.Row) : GM.Row := List.zipWith (· * ·) ps qs
theorem sum_dot (ps qs : GM.Row) (h : ps.length = qs.length) : sumR (prods ps qs) = GM.dot ps (GM.vec qs) := by
  have key : ∀ (ps qs : GM.Row) (a : Rat), ps.length = qs.length → (prods ps qs).foldl (· + ·) a = a + GM.dot ps (GM.vec qs) := by
    intro ps
    induction ps with
    | nil => intro qs a _; show a = a + 0; grind
    | cons p ps ih =>
      intro qs a h
      match qs, h with
      | q :: qs, h =>
        show (prods ps qs).foldl (· + ·) (a + p * q) = a + (p * q + GM.dot ps (fun c => GM.vec (q :: qs) (c + 1)))
        rw [ih qs (a + p * q) (by simpa using h), GM.dot_congr (r := ps) (u := fun c => GM.vec (q :: qs) (c + 1)) (v := GM.vec qs) fun c _ => rfl]
        grind
  unfold sumR
  rw [key ps qs 0 h]
  grind
/-- how far the sums of the products of two rows go -/
def Sums (ps qs : GM.Row) : Prop := ∀ (i : Nat) (p q : Rat), ps[i]? = some p → qs[i]? = some q → RM.Fit p q ∧ RM.Lt p 9000 ∧ RM.Fit (sumR ((prods ps qs).take i)) (p * q)
section
variable {P : Program} {w : World} {K : PySem.W.Frag} {mg : Str → Option Value} {base : Heap}
/-! ### weighed -/
def spWeighed (K : PySem.W.Frag) : Sp := fun vs H Q _ => ∃ (a b : Addr) (ps qs : GM.Row), vs = [.ref a, .ref b] ∧ LsAt (Nm K) H a ps ∧ LsAt (Nm K) H b qs ∧ ps.length = qs.length ∧ ps.length ≤ 1000 ∧ Sums ps qs ∧ ∀ v H', Same H H' → Rt K H' v (GM.dot ps (GM.vec qs)) → Q v H'
theorem sc_weighed : FnScope ["numbers", "weights", "number", "weight"] ["numbers", "weights"] (defScope s_weighed) := ⟨rfl, rfl, rfl, by decide +kernel, rfl, by decide +kernel, by decide +kernel⟩
theorem fn_weighed (T : Tx K mg) : FnR P w K mg base (L2.CX P w) 7 (He.ga K "weighed") (spWeighed K) := by
  refine fnr T.f_weighed sc_weighed (fun vs H Q E h => ?_) (fun _ _ _ _ _ _ us hl => match us, hl with | [_, _], _ => rfl) fun cdv A outer s H vs Q E hr h => ?_
  · obtain ⟨a, b, _, _, rfl, _⟩ := h
    rfl
  obtain ⟨a, b, ps, qs, rfl, ⟨xs, ea, hx⟩, ⟨ys, eb, hy⟩, hl, hn, hS, k⟩ := h
  have nd := sc_weighed.nd
  have lp : (prods ps qs).length = ps.length := by unfold prods; rw [List.length_zipWith]; omega
  refine s_one <| s_ret <| w_call (fn_total T) hr T.g_total (kept T.f_total) passL <| a_cons <| w_mapz false false 2 3 nd T.b_zip <| w_var 0 rfl <| w_var 1 rfl <| lpZ ⟨a, b, xs, ys, rfl, rfl, SqL.of ea, SqL.of eb, ?_⟩
  rw [show min xs.length ys.length = ps.length by rw [hx.1, hy.1]; omega]
  refine ⟨hn, fun D hD => ⟨fun i y H => ∃ q, (prods ps qs)[i]? = some q ∧ Rt K H y q, fun i y H H' kd ⟨q', e, h⟩ => ⟨q', e, monD_rt _ _ _ _ kd h⟩, fun i τ H' acc hi ⟨x, y, ex, ey, eτ⟩ s1 hd => ?_, fun zs H' s1 hd hz hR => ?_⟩⟩
  · subst eτ
    obtain ⟨p, ep, hp⟩ := hx.get ex
    obtain ⟨q, eq, hq⟩ := hy.get ey
    obtain ⟨f1, f2, _⟩ := hS i p q ep eq
    refine fun s0 H0 C cl fp => w_op (op_rmul T (hr.mono (by decide))) <| w_as_ratio T (hr.mono (by decide)) <| w_var 2 rfl ⟨p, Arg.same hp s1, f2, fun v2 H2 s2 h2 => w_var 3 rfl ⟨p, q, h2, Arg.same hq (s1.trans s2), f1, fun v3 H3 s3 h3 => ⟨s2.trans s3, p * q, ?_, h3⟩⟩⟩
    unfold prods
    rw [List.getElem?_zipWith, ep, eq]
  · have hzs : Els (Nm K H') zs (prods ps qs) := Els.of (by rw [hz, lp]) fun i y e q eq => by
      obtain ⟨q', e', h'⟩ := hR i y e
      rw [e'] at eq
      cases eq
      exact nm_rt h'
    refine a_nil ⟨D, zs, prods ps qs, rfl, SqL.of hd, els_nums hzs, fun i q e => ?_, fun v H2 s2 h2 => k v H2 (s1.trans s2) ?_⟩
    · have hi : i < ps.length := by rw [← lp]; exact (List.getElem?_eq_some_iff.mp e).1
      have e1 := List.getElem?_eq_getElem hi
      have e2 := List.getElem?_eq_getElem (show i < qs.length by omega)
      unfold prods at e
      rw [List.getElem?_zipWith, e1, e2] at e
      cases e
      exact (hS i _ _ e1 e2).2.2
    · rw [← sum_dot ps qs hl]
      exact h2
/-! ### applied -/
def spApplied (K : PySem.W.Frag) : Sp := fun vs H Q _ => ∃ (a b : Addr) (A : List GM.Row) (qs : GM.Row), vs = [.ref a, .ref b] ∧ LsAt (Ls (Nm K)) H a A ∧ LsAt (Nm K) H b qs ∧ A.length ≤ 1000 ∧ (∀ r ∈ A, r.length = qs.length ∧ r.length ≤ 1000 ∧ Sums r qs) ∧ ∀ l H', H l = none → Same H H' → LsAt (Rt K) H' l (GM.mulV A qs) → Q (.ref l) H'
theorem sc_applied : FnScope ["rows", "numbers", "row"] ["rows", "numbers"] (defScope s_applied) := ⟨rfl, rfl, rfl, by decide +kernel, rfl, by decide +kernel, by decide +kernel⟩
theorem fn_applied (T : Tx K mg) : FnR P w K mg base (L2.CX P w) 8 (He.ga K "applied") (spApplied K) := by
  refine fnr T.f_applied sc_applied (fun vs H Q E h => ?_) (fun _ _ _ _ _ _ us hl => match us, hl with | [_, _], _ => rfl) fun cdv A outer s H vs Q E hr h => ?_
  · obtain ⟨a, b, _, _, rfl, _⟩ := h
    rfl
  obtain ⟨a, b, A, qs, rfl, ⟨xs, ea, hx⟩, hb, hn, hS, k⟩ := h
  have nd := sc_applied.nd
  refine s_one <| s_ret <| w_mapl 2 nd <| w_var 0 rfl <| lpL ⟨a, xs, rfl, SqL.of ea, by rw [hx.1]; exact hn, fun D hD => ⟨fun i y H => ∃ r, A[i]? = some r ∧ Rt K H y (GM.dot r (GM.vec qs)), fun i y H H' kd ⟨q', e, h⟩ => ⟨q', e, monD_rt _ _ _ _ kd h⟩, fun i τ H' acc hi ⟨x, ex, eτ⟩ s1 hd => ?_, fun zs H' s1 hd hz hR => ?_⟩⟩
  · subst eτ
    obtain ⟨r, er, l, rfl, hr'⟩ := hx.get ex
    obtain ⟨h1, h2, h3⟩ := hS r (List.mem_of_getElem? er)
    exact fun s0 H0 C cl fp => w_call (fn_weighed T) hr T.g_weighed (kept T.f_weighed) passL <| a_cons <| w_var 2 rfl <| a_cons <| w_var 1 rfl <| a_nil ⟨l, b, r, qs, rfl, hr'.same monS_nm s1, hb.same monS_nm s1, h1, h2, h3, fun v H2 s2 h => ⟨s2, r, er, h⟩⟩
  · refine k D H' hD s1 ⟨zs, hd, Els.of (by rw [hz, hx.1, GM.len_mulV]) fun i y e q eq => ?_⟩
    obtain ⟨r, er, h'⟩ := hR i y e
    rw [GM.mulV_at er] at eq
    cases eq
    exact h'
/-! ### least_place -/
/-- m is the first place of a least one of the first n -/
def Least (qs : GM.Row) (n m : Nat) : Prop := m < n ∧ (∀ i, i < n → qs.getD m 0 ≤ qs.getD i 0) ∧ ∀ i, i < m → qs.getD m 0 < qs.getD i 0
def spLeast (K : PySem.W.Frag) : Sp := fun vs H Q _ => ∃ (a : Addr) (qs : GM.Row), vs = [.ref a] ∧ LsAt (Nm K) H a qs ∧ qs.length ≤ 1000 ∧ (∀ q ∈ qs, RM.Lt q 4000) ∧ (qs = [] → ∀ H', Same H H' → Q .non H') ∧ (∀ m, Least qs qs.length m → ∀ H', Same H H' → Q (.int (m : Nat)) H')
theorem sc_least_place : FnScope ["numbers", "found", "place", "number"] ["numbers"] (defScope s_least_place) := ⟨rfl, rfl, rfl, by decide +kernel, rfl, by decide +kernel, by decide +kernel⟩
theorem fn_least_place (T : Tx K mg) : FnR P w K mg base (L2.CX P w) 6 (He.ga K "least_place") (spLeast K) := by
  refine fnr T.f_least_place sc_least_place (fun vs H Q E h => ?_) (fun _ _ _ _ _ _ us hl => match us, hl with | [_], _ => rfl) fun cdv A outer s H vs Q E hr h => ?_
  · obtain ⟨a, _, rfl, _⟩ := h
    rfl
  obtain ⟨a, qs, rfl, ⟨xs, ea, hx⟩, hn, lt, k1, k2⟩ := h
  have nd := sc_least_place.nd
  refine s_cons <| s_set 1 nd <| w_non ?_
  refine s_cons <| s_fore 2 3 (passes_of rfl) nd T.b_enumerate <| w_var 0 rfl ⟨a, xs, fun j σ H' => ∃ (f : V) (y2 y3 : Option V), σ = [some (.ref a), some f, y2, y3] ∧ Same H H' ∧ ((j = 0 ∧ f = .non) ∨ ∃ m : Nat, f = .int m ∧ Least qs j m), rfl, SqL.of ea, ⟨_, _, _, rfl, fun _ _ e => e, .inl ⟨rfl, rfl⟩⟩, fun j σ' H' _ ⟨f, y2, y3, _, s1, _⟩ => sq_same s1 (SqL.of ea), ?_, ?_⟩
  · rintro j y σ' H1 H2 ey ⟨f, y2, y3, rfl, s1, hf⟩ s2
    have st := s1.trans s2
    obtain ⟨q, eq, hq⟩ := hx.get ey
    have hj : j < qs.length := (List.getElem?_eq_some_iff.mp eq).1
    have ej : qs.getD j 0 = q := getD_some eq
    refine s_one <| s_if <| t_bool <| b_or <| t_cmp op_isN <| w_var 1 rfl <| w_non ⟨rfl, _, rfl, ?_⟩
    rcases hf with ⟨rfl, rfl⟩ | ⟨m, rfl, hm1, hm2, hm3⟩
    · refine ifT (decide_eq_true rfl) (ifT rfl (s_one (s_set 1 nd (w_var 2 rfl ⟨_, _, _, rfl, st, .inr ⟨0, rfl, by omega, fun i hi => ?_, fun i hi => absurd hi (by omega)⟩⟩))))
      rw [show i = 0 by omega]
      exact Rat.le_refl
    · refine ifF (decide_eq_false (fun z => nomatch z)) ?_
      have hml : m < qs.length := by omega
      obtain ⟨u, eu, hu⟩ := hx.at_ (List.getElem?_eq_getElem hml)
      have em : qs.getD m 0 = qs[m] := getD_some (List.getElem?_eq_getElem hml)
      have l1 : RM.Lt q 4000 := lt q (List.mem_of_getElem? eq)
      have l2 : RM.Lt qs[m] 4000 := lt _ (List.getElem_mem hml)
      refine b_or1 <| t_cmp (op_rlt T (hr.mono (by decide))) <| w_as_ratio T hr <| w_var 3 rfl ⟨q, Arg.same hq st, l1.mono (by decide), fun v3 H3 s3 h3 => w_ix ix_list <| w_var 0 rfl <| w_var 1 rfl ⟨a, xs, _, u, rfl, rfl, SqL.of ((st.trans s3) _ _ ea), atI_nat eu, q, qs[m], h3, Arg.same hu (st.trans s3), RM.fit_of l1 l2 (by decide), fun H4 s4 => ⟨_, rfl, ?_⟩⟩⟩
      by_cases hlt : q < qs[m]
      · refine ifT (decide_eq_true hlt) (s_one (s_set 1 nd (w_var 2 rfl ⟨_, _, _, rfl, st.trans (s3.trans s4), .inr ⟨j, rfl, by omega, fun i hi => ?_, fun i hi => ?_⟩⟩)))
        · by_cases hij : i = j
          · rw [hij]; exact Rat.le_refl
          · rw [ej]
            have z := hm2 i (by omega)
            rw [em] at z
            grind
        · rw [ej]
          have z := hm2 i hi
          rw [em] at z
          grind
      · refine ifF (decide_eq_false hlt) (s_nil ⟨_, _, _, rfl, st.trans (s3.trans s4), .inr ⟨m, rfl, by omega, fun i hi => ?_, hm3⟩⟩)
        by_cases hij : i = j
        · rw [hij, ej, em]
          grind
        · exact hm2 i (by omega)
  · rintro σ' H1 ⟨f, y2, y3, rfl, s1, hf⟩
    refine s_one <| s_ret <| w_var 1 rfl ?_
    rw [hx.1] at hf
    rcases hf with ⟨h0, rfl⟩ | ⟨m, rfl, hm⟩
    · exact k1 (List.length_eq_zero_iff.mp h0) H1 s1
    · exact k2 m hm H1 s1
end
end LW
namespace LW
open PySem PySem.Spec PyProof.Rows L2 PR
/-! ### pairs as data -/
def dq (q : Rat) : PyData := .tuple [.int q.num, .int (q.den : Int)]
def dqs (qs : List Rat) : PyData := .list (qs.map dq)
theorem lay_all {α : Type} {f : α → PyData} (h : ∀ a, (f a).canLay0 = true) : ∀ l : List α, PyData.canLayAll0 (l.map f) = true
  | [] => rfl
  | a :: l => by
    show ((f a).canLay0 && PyData.canLayAll0 (l.map f)) = true
    rw [h a, lay_all h l]
    rfl
theorem deep_all {α : Type} {f : α → PyData} {d : Nat} (h : ∀ a, (f a).depth ≤ d) : ∀ l : List α, PyData.depthAll (l.map f) ≤ d
  | [] => Nat.zero_le _
  | a :: l => by
    show max (f a).depth (PyData.depthAll (l.map f)) ≤ d
    have h1 := h a
    have h2 := deep_all h l
    omega
theorem eqv_same {d : PyData} (h : SeqAt.shaped d = true) : PyData.eqv d d = true := SeqAt.eqv_refl d (SeqAt.canLay_of_shaped h)
theorem shaped_dqs (qs : List Rat) : SeqAt.shaped (dqs qs) = true := by
  unfold SeqAt.shaped
  rw [Bool.and_eq_true_iff]
  refine ⟨lay_all (fun _ => rfl) qs, decide_eq_true ?_⟩
  show PyData.depthAll (qs.map dq) + 1 ≤ 64
  have := deep_all (f := dq) (d := 3) (fun a => by show max 0 (max 0 0) + 1 ≤ 3; decide) qs
  omega
def drw (A : List (List Rat)) : PyData := .list (A.map dqs)
theorem shaped_drw (A : List (List Rat)) : SeqAt.shaped (drw A) = true := by
  unfold SeqAt.shaped
  rw [Bool.and_eq_true_iff]
  refine ⟨lay_all (f := dqs) (fun qs => lay_all (f := dq) (fun _ => rfl) qs) A, decide_eq_true ?_⟩
  show PyData.depthAll (A.map dqs) + 1 ≤ 64
  have := deep_all (f := dqs) (d := 4) (fun qs => by
    show PyData.depthAll (qs.map dq) + 1 ≤ 4
    have := deep_all (f := dq) (d := 3) (fun a => by show max 0 (max 0 0) + 1 ≤ 3; decide) qs
    omega) A
  omega
section
variable {K : PySem.W.Frag} {H : Hp}
theorem dp_tq {v : V} {q : Rat} (h : Tq K H v q) : Dp K H v (dq q) := by
  obtain ⟨a, rfl, h⟩ := h
  exact .tup (SqT.of h) (.cons (.int _) (.cons (.int _) .nil))
theorem dp_all {α : Type} {R : Hp → V → α → Prop} {f : α → PyData} (hR : ∀ v a, R H v a → Dp K H v (f a)) : ∀ {xs : List V} {as : List α}, Els (R H) xs as → DpAll K H xs (as.map f)
  | [], [], _ => .nil
  | [], _ :: _, h => by have := h.1; simp at this
  | _ :: _, [], h => by have := h.1; simp at this
  | x :: xs, a :: as, h => .cons (hR x a (h.2 0 x a rfl rfl)) (dp_all hR ⟨by have := h.1; simpa using this, fun i y b e e2 => h.2 (i + 1) y b e e2⟩)
theorem dp_ls {α : Type} {R : Hp → V → α → Prop} {f : α → PyData} (hR : ∀ v a, R H v a → Dp K H v (f a)) {l : Addr} {as : List α} (h : LsAt R H l as) : Dp K H (.ref l) (.list (as.map f)) := by
  obtain ⟨xs, e, h⟩ := h
  exact .lst (SqL.of e) (dp_all hR h)
theorem dp_tqs {l : Addr} {qs : List Rat} (h : LsAt (Tq K) H l qs) : Dp K H (.ref l) (dqs qs) := dp_ls (fun _ _ => dp_tq) h
theorem dp_rows {l : Addr} {A : List (List Rat)} (h : LsAt (Ls (Tq K)) H l A) : Dp K H (.ref l) (drw A) := dp_ls (fun v qs ⟨a, e, h⟩ => by rw [e]; exact dp_tqs h) h
end
/-! ### told, row, ratio -/
/-- a fraction as the law hands it over: an even whole number as such -/
def ev (q : Rat) : Bool := decide (q.den = 1 ∧ q.num % 2 = 0)
def Hn (K : PySem.W.Frag) : Hp → V → Rat → Prop := fun H v q => if ev q = true then v = .int q.num else Rt K H v q
section
variable {K : PySem.W.Frag}
theorem monS_hn : MonS (Hn K) := fun H H' v q s h => by
  unfold Hn at *
  by_cases e : ev q = true
  · rw [if_pos e] at *; exact h
  · rw [if_neg e] at *; exact h.same s
theorem monD_hn {D : Addr} : MonD D (Hn K) := fun H H' v q s h => by
  unfold Hn at *
  by_cases e : ev q = true
  · rw [if_pos e] at *; exact h
  · rw [if_neg e] at *; exact monD_rt _ _ _ _ s h
theorem nm_hn {H : Hp} {v : V} {q : Rat} (h : Hn K H v q) : Nm K H v q := by
  unfold Hn at h
  by_cases e : ev q = true
  · rw [if_pos e] at h
    have z := (of_decide_eq_true e).1
    have eq : q = ((q.num : Int) : Rat) := Rat.ext rfl z
    show Arg K H v (some q)
    rw [eq]
    exact .int q.num h
  · rw [if_neg e] at h
    exact .rat q h
end
section
variable {P : Program} {w : World} {K : PySem.W.Frag} {mg : Str → Option Value} {base : Heap}
def spTold (K : PySem.W.Frag) : Sp := fun vs H Q _ => ∃ (x : V) (q : Rat), vs = [x] ∧ Rt K H x q ∧ ∀ v H', Same H H' → Tq K H' v q → Q v H'
theorem sc_told : FnScope ["_law_amount"] ["_law_amount"] (defScope s__law_told) := ⟨rfl, rfl, rfl, by decide +kernel, rfl, by decide +kernel, by decide +kernel⟩
theorem fn_told (T : Tx K mg) : FnR P w K mg base (L2.CX P w) 1 (He.ga K "_law_told") (spTold K) := by
  refine fnr T.f__law_told sc_told (fun vs H Q E h => ?_) (fun _ _ _ _ _ _ us hl => match us, hl with | [_], _ => rfl) fun cdv A outer s H vs Q E hr h => ?_
  · obtain ⟨x, q, rfl, _⟩ := h
    rfl
  obtain ⟨x, q, rfl, hx, k⟩ := h
  exact s_one <| s_ret <| w_tup <| a_cons <| w_top T <| w_var 0 rfl ⟨q, hx, a_cons <| w_bot T <| w_var 0 rfl ⟨q, hx, a_nil ⟨by show 2 ≤ sizeLine; decide, fun p hp => k (.ref p) _ (same_new hp) tq_new⟩⟩⟩
def spRow (K : PySem.W.Frag) : Sp := fun vs H Q _ => ∃ (a : Addr) (qs : GM.Row), vs = [.ref a] ∧ LsAt (Rt K) H a qs ∧ qs.length ≤ 1000 ∧ ∀ l H', H l = none → Same H H' → LsAt (Tq K) H' l qs → Q (.ref l) H'
theorem sc_row : FnScope ["_law_numbers", "_law_x"] ["_law_numbers"] (defScope s__law_row) := ⟨rfl, rfl, rfl, by decide +kernel, rfl, by decide +kernel, by decide +kernel⟩
theorem fn_row (T : Tx K mg) : FnR P w K mg base (L2.CX P w) 1 (He.ga K "_law_row") (spRow K) := by
  refine fnr T.f__law_row sc_row (fun vs H Q E h => ?_) (fun _ _ _ _ _ _ us hl => match us, hl with | [_], _ => rfl) fun cdv A outer s H vs Q E hr h => ?_
  · obtain ⟨x, q, rfl, _⟩ := h
    rfl
  obtain ⟨a, qs, rfl, ⟨xs, ea, hx⟩, hn, k⟩ := h
  have nd := sc_row.nd
  refine s_one <| s_ret <| w_mapl 1 nd <| w_var 0 rfl <| lpL ⟨a, xs, rfl, SqL.of ea, by rw [hx.1]; exact hn, fun D hD => ⟨fun i y H => ∃ q, qs[i]? = some q ∧ Tq K H y q, fun i y H H' kd ⟨q', e, h⟩ => ⟨q', e, monD_tq _ _ _ _ kd h⟩, fun i τ H' acc hi ⟨x, ex, eτ⟩ s1 hd => ?_, fun zs H' s1 hd hz hR => ?_⟩⟩
  · subst eτ
    obtain ⟨q, eq, hq⟩ := hx.get ex
    exact fun s0 H0 C cl fp => w_tup <| a_cons <| w_top T <| w_var 1 rfl ⟨q, hq.same s1, a_cons <| w_bot T <| w_var 1 rfl ⟨q, hq.same s1, a_nil ⟨by show 2 ≤ sizeLine; decide, fun p hp => ⟨same_new hp, q, eq, tq_new⟩⟩⟩⟩
  · refine k D H' hD s1 ⟨zs, hd, Els.of (by rw [hz, hx.1]) fun i y e q eq => ?_⟩
    obtain ⟨r, er, h'⟩ := hR i y e
    rw [er] at eq
    cases eq
    exact h'
def spRatio (K : PySem.W.Frag) : Sp := fun vs H Q _ => ∃ (x : V) (q : Rat), vs = [x] ∧ Tq K H x q ∧ RM.Lt q 9000 ∧ ∀ v H', Same H H' → Hn K H' v q → Q v H'
theorem sc_lratio : FnScope ["_law_x"] ["_law_x"] (defScope s__law_ratio) := ⟨rfl, rfl, rfl, by decide +kernel, rfl, by decide +kernel, by decide +kernel⟩
theorem fn_lratio (T : Tx K mg) : FnR P w K mg base (L2.CX P w) 5 (He.ga K "_law_ratio") (spRatio K) := by
  refine fnr T.f__law_ratio sc_lratio (fun vs H Q E h => ?_) (fun _ _ _ _ _ _ us hl => match us, hl with | [_], _ => rfl) fun cdv A outer s H vs Q E hr h => ?_
  · obtain ⟨x, q, rfl, _⟩ := h
    rfl
  obtain ⟨x, q, rfl, hx, lt, k⟩ := h
  have done : ev q = false → ∀ v H', Same H H' → Rt K H' v (Rat.divInt q.num q.den) → Q v H' := fun he v H' s1 h1 => k v H' s1 (by
    unfold Hn
    rw [he, if_neg Bool.false_ne_true]
    rw [Rat.num_divInt_den] at h1
    exact h1)
  refine s_one <| s_ret <| w_ife <| t_bool <| b_and <| t_cmp op_eq <| w_tq1 <| w_var 0 rfl ⟨q, hx, w_int ⟨rfl, _, rfl, ?_⟩⟩
  by_cases h1 : q.den = 1
  · refine ifT (decide_eq_true (by rw [h1]; rfl)) (b_and1 <| t_cmp op_eq <| w_op op_mod <| w_tq0 <| w_var 0 rfl ⟨q, hx, w_int ⟨_, _, rfl, rfl, by show (0 : Int) < 2; decide, w_int ⟨rfl, _, rfl, ?_⟩⟩⟩)
    by_cases h2 : q.num % 2 = 0
    · refine ifT (decide_eq_true (congrArg V.int h2)) (w_tq0 <| w_var 0 rfl ⟨q, hx, k _ _ (fun _ _ e => e) ?_⟩)
      unfold Hn
      have e : ev q = true := decide_eq_true ⟨h1, h2⟩
      rw [if_pos e]
    · exact ifF (decide_eq_false (fun z => h2 (by injection z))) (w_ratio T hr passL <| a_cons <| w_tq0 <| w_var 0 rfl ⟨q, hx, a_cons <| w_tq1 <| w_var 0 rfl ⟨q, hx, a_nil ⟨q.num, (q.den : Int), rfl, lt.2, fun _ v H' s1 g1 => done (decide_eq_false (fun z => h2 z.2)) v H' s1 g1, fun z => absurd z (RM.den_ne q)⟩⟩⟩)
  · exact ifF (decide_eq_false (fun z => h1 (by injection z with z; omega))) (ifF rfl (w_ratio T hr passL <| a_cons <| w_tq0 <| w_var 0 rfl ⟨q, hx, a_cons <| w_tq1 <| w_var 0 rfl ⟨q, hx, a_nil ⟨q.num, (q.den : Int), rfl, lt.2, fun _ v H' s1 g1 => done (decide_eq_false (fun z => h1 z.1)) v H' s1 g1, fun z => absurd z (RM.den_ne q)⟩⟩⟩))
/-! ### sum -/
/-- how far the sums go, told by places -/
def SumsN (r x : GM.Row) : Prop := ∀ i, i < r.length → RM.Fit (r.getD i 0) (x.getD i 0) ∧ RM.Fit (GM.sumN i fun c => r.getD c 0 * GM.vec x c) (r.getD i 0 * x.getD i 0)
def spSum (K : PySem.W.Frag) : Sp := fun vs H Q _ => ∃ (k : Bool) (a b : Addr) (xs : List V) (r x : GM.Row), vs = [.ref a, .ref b] ∧ SqK k K H a xs ∧ Els (Tq K H) xs r ∧ LsAt (Tq K) H b x ∧ r.length = x.length ∧ r.length ≤ 1000 ∧ SumsN r x ∧ ∀ v H', Same H H' → Tq K H' v (GM.dot r (GM.vec x)) → Q v H'
theorem sc_lsum : FnScope ["_law_row_here", "_law_numbers", "_law_found", "_law_k"] ["_law_row_here", "_law_numbers"] (defScope s__law_sum) := ⟨rfl, rfl, rfl, by decide +kernel, rfl, by decide +kernel, by decide +kernel⟩
theorem tq_zero {H : Hp} {p : Addr} : Tq K (upd H p (.tup [.int 0, .int 1])) (.ref p) 0 := ⟨p, rfl, upd_same⟩
theorem w_ixK {X : Cx} {a b : Expr} {σ : L2.St} {H : Hp} {Q : VK} {pos : Pos} (k : Bool) (h : We X a σ H fun x H1 => We X b σ H1 fun y H2 => ∃ p xs i v, x = .ref p ∧ y = .int i ∧ SqK k X.K H2 p xs ∧ atI xs i = some v ∧ Q v H2) (hs : PlainIx b := by exact fun _ _ => rfl) : We X (.Subscript a b pos) σ H Q := by
  cases k with
  | true => exact w_ix ix_tup h hs
  | false => exact w_ix ix_list h hs
theorem fn_lsum (T : Tx K mg) : FnR P w K mg base (L2.CX P w) 3 (He.ga K "_law_sum") (spSum K) := by
  refine fnr T.f__law_sum sc_lsum (fun vs H Q E h => ?_) (fun _ _ _ _ _ _ us hl => match us, hl with | [_, _], _ => rfl) fun cdv A outer s H vs Q E hr h => ?_
  · obtain ⟨_, a, b, _, _, _, rfl, _⟩ := h
    rfl
  obtain ⟨k, a, b, xs, r, x, rfl, ea, hx, ⟨ys, eb, hy⟩, hl, hn, hS, q⟩ := h
  have nd := sc_lsum.nd
  refine s_cons <| s_set 2 nd <| w_tup <| a_cons <| w_int <| a_cons <| w_int <| a_nil ⟨by show 2 ≤ sizeLine; decide, fun p hp => ?_⟩
  have s0 := same_new (o := .tup [.int 0, .int 1]) hp
  refine s_cons <| s_forr 3 (passes_of rfl) nd T.b_range <| w_callB call_len T.b_len (by decide +kernel) <| a_cons <| w_var 0 rfl <| a_nil ⟨_, xs.length, rfl, ?_, ?_⟩
  · cases k with
    | true => exact .inr ⟨xs, SqT.ext (show SqT K H a xs from ea) s0, rfl⟩
    | false => exact .inl ⟨xs, sq_same s0 (show SqL K H a xs from ea), rfl⟩
  rw [hx.1]
  refine ⟨r.length, fun j σ H' => ∃ (v : V) (y : Option V), σ = [some (.ref a), some (.ref b), some v, y] ∧ Same H H' ∧ Tq K H' v (GM.sumN j fun c => r.getD c 0 * GM.vec x c), rfl, by omega, ⟨_, _, rfl, s0, tq_zero⟩, ?_, ?_⟩
  · rintro j σ' H1 hj ⟨v, y, rfl, s1, hv⟩
    obtain ⟨u, eu, hu⟩ := hx.at_ (List.getElem?_eq_getElem hj)
    have hjx : j < x.length := by omega
    obtain ⟨t, et, ht⟩ := hy.at_ (List.getElem?_eq_getElem hjx)
    have e1 : r.getD j 0 = r[j] := getD_some (List.getElem?_eq_getElem hj)
    have e2 : x.getD j 0 = x[j] := getD_some (List.getElem?_eq_getElem hjx)
    obtain ⟨f1, f2⟩ := hS j hj
    rw [e1, e2] at f1 f2
    refine s_one <| s_set 2 nd <| w_f2 (fn_plus T) T.g__law_plus (kept T.f__law_plus) hr <| w_var 2 rfl <| w_f2 (fn_times T) T.g__law_times (kept T.f__law_times) hr <| w_ixK k <| w_var 0 rfl <| w_var 3 rfl ⟨a, xs, _, u, rfl, rfl, ea.same s1, atI_nat eu, w_ix ix_list <| w_var 1 rfl <| w_var 3 rfl ⟨b, ys, _, t, rfl, rfl, SqL.of (s1 _ _ eb), atI_nat et, r[j], x[j], hu.same s1, ht.same s1, f1, fun v2 H2 s2 h2 => ⟨_, r[j] * x[j], hv.same s2, h2, f2, fun v3 H3 s3 h3 => ⟨v3, _, rfl, s1.trans (s2.trans s3), ?_⟩⟩⟩⟩
    show Tq K H3 v3 (GM.sumN j _ + r.getD j 0 * GM.vec x j)
    unfold GM.vec
    rw [e1, e2]
    exact h3
  · rintro σ' H1 ⟨v, y, rfl, s1, hv⟩
    refine s_one <| s_ret <| w_var 2 rfl <| q v H1 s1 ?_
    rw [GM.dot_sum]
    exact hv
end
end LW
namespace LW
open PySem PySem.Spec PyProof.Rows L2 PR
def sgI : Nat → Int
  | 0 => 1
  | k + 1 => - sgI k
theorem sgI_rat (k : Nat) : ((sgI k : Int) : Rat) = GM.sgn k := by
  induction k with
  | zero => rfl
  | succ k ih =>
    show ((- sgI k : Int) : Rat) = - GM.sgn k
    rw [← ih]
    exact Rat.intCast_neg ..
section
variable {P : Program} {w : World} {K : PySem.W.Frag} {mg : Str → Option Value} {base : Heap}
def spDet (K : PySem.W.Frag) (n : Nat) : Sp := fun vs H Q _ => ∃ (a : Addr) (L : List GM.Row) (D M : Nat), vs = [.ref a] ∧ LsAt (Ls (Tq K)) H a L ∧ L.length = n ∧ GM.Wd n L ∧ 0 < D ∧ D < 2 ^ 100 ∧ M < 2 ^ 100 ∧ GM.AllCd D M L ∧ ∀ v H', Same H H' → Tq K H' v (GM.det n L) → Q v H'
theorem sc_det : FnScope ["_law_lines", "_law_found", "_law_sign", "_law_k", "_law_rest", "_law_part", "_law_row_here"] ["_law_lines"] (defScope s__law_determinant) := ⟨rfl, rfl, rfl, by decide +kernel, rfl, by decide +kernel, by decide +kernel⟩
theorem fn_det (T : Tx K mg) : ∀ n, n ≤ 4 → FnR P w K mg base (L2.CX P w) (n + 3) (He.ga K "_law_determinant") (spDet K n) := by
  intro n
  induction n with
  | zero =>
    intro _
    refine fnr T.f__law_determinant sc_det (fun vs H Q E h => ?_) (fun _ _ _ _ _ _ us hl => match us, hl with | [_], _ => rfl) fun cdv A outer s H vs Q E hr h => ?_
    · obtain ⟨a, _, _, _, rfl, _⟩ := h
      rfl
    obtain ⟨a, L, D, M, rfl, hL, hl, _, _, _, _, _, k⟩ := h
    obtain rfl := List.length_eq_zero_iff.mp hl
    refine s_cons <| s_if <| t_cmp (op_eqD hr.units) <| w_var 0 rfl <| w_lst <| a_nil ⟨Nat.zero_le _, fun e he => ⟨_, _, dp_rows (LsAt.same (monS_ls monS_tq) hL (same_new he)), .lst (SqL.of upd_same) .nil, rfl, rfl, _, rfl, ifT rfl ?_⟩⟩
    exact s_one <| s_ret <| w_tup <| a_cons <| w_int <| a_cons <| w_int <| a_nil ⟨by show 2 ≤ sizeLine; decide, fun p hp => k (.ref p) _ ((same_new he).trans (same_new hp)) ⟨p, rfl, upd_same⟩⟩
  | succ n ih =>
    intro hn
    have F := ih (by omega)
    refine fnr T.f__law_determinant sc_det (fun vs H Q E h => ?_) (fun _ _ _ _ _ _ us hl => match us, hl with | [_], _ => rfl) fun cdv A outer s H vs Q E hr h => ?_
    · obtain ⟨a, _, _, _, rfl, _⟩ := h
      rfl
    obtain ⟨a, L, D, M, rfl, hL, hl, hw, d0, d1, m1, hcd, k⟩ := h
    have nd := sc_det.nd
    have hr2 : Room 2 _ := hr.mono (show 2 ≤ n + 3 by omega)
    refine s_cons <| s_if <| t_cmp (op_eqD hr.units) <| w_var 0 rfl <| w_lst <| a_nil ⟨Nat.zero_le _, fun e he => ⟨_, _, dp_rows (LsAt.same (monS_ls monS_tq) hL (same_new he)), .lst (SqL.of upd_same) .nil, shaped_drw L, rfl, _, rfl, ?_⟩⟩
    have ne : PyData.eqv (drw L) (.list []) = false := by
      match L, hl with
      | r :: L, _ => rfl
    refine ifF ne (s_nil ?_)
    have s0 : Same H (upd H e (.lst [])) := same_new he
    generalize upd H e (.lst []) = H0 at s0 ⊢
    refine s_cons <| s_set 1 nd <| w_tup <| a_cons <| w_int <| a_cons <| w_int <| a_nil ⟨by show 2 ≤ sizeLine; decide, fun p hp => ?_⟩
    refine s_cons <| s_set 2 nd <| w_int ?_
    obtain ⟨xs, ea, hx⟩ := hL
    have s1 : Same H (upd H0 p (.tup [.int 0, .int 1])) := s0.trans (same_new hp)
    refine s_cons <| s_forr 3 (passes_of rfl) nd T.b_range <| w_callB call_len T.b_len (by decide +kernel) <| a_cons <| w_var 0 rfl <| a_nil ⟨_, xs.length, rfl, .inl ⟨xs, SqL.of (s1 _ _ ea), rfl⟩, ?_⟩
    rw [hx.1, hl]
    refine ⟨n + 1, fun j σ H' => ∃ (v : V) (y3 y4 y5 y6 : Option V), σ = [some (.ref a), some v, some (.int (sgI j)), y3, y4, y5, y6] ∧ Same H H' ∧ Tq K H' v (GM.sumN j (GM.part n L)), rfl, by omega, ⟨_, _, _, _, _, rfl, s1, tq_zero⟩, ?_, ?_⟩
    · rintro j σ' H1 hj ⟨v, y3, y4, y5, y6, rfl, s2, hv⟩
      have h0L : 0 < L.length := by omega
      obtain ⟨x0, ex0, l0, rfl, us, eus, hus⟩ := hx.at_ (List.getElem?_eq_getElem h0L)
      have r0 : L.getD 0 [] = L[0] := getD_some (List.getElem?_eq_getElem h0L)
      have lr0 : (L[0]).length = n + 1 := hw _ (List.getElem_mem h0L)
      have hj0 : j < (L[0]).length := by omega
      obtain ⟨u, eu, hu⟩ := hus.at_ (List.getElem?_eq_getElem hj0)
      have ej : (L.getD 0 []).getD j 0 = (L[0])[j] := by rw [r0]; exact getD_some (List.getElem?_eq_getElem hj0)
      have step : GM.sumN (j + 1) (GM.part n L) = GM.sumN j (GM.part n L) + GM.sgn j * ((L[0])[j] * GM.det n (GM.cut j (L.drop 1))) := by
        show GM.sumN j (GM.part n L) + GM.part n L j = _
        unfold GM.part
        rw [ej]
      refine s_cons <| s_if <| t_cmp op_ne <| w_tq0 <| w_ix ix_list <| w_ix ix_list <| w_var 0 rfl <| w_int ⟨a, xs, _, _, rfl, rfl, SqL.of (s2 _ _ ea), atI_nat (j := 0) ex0, w_var 3 rfl ⟨l0, us, _, u, rfl, rfl, SqL.of (s2 _ _ eus), atI_nat eu, _, hu.same s2, w_int ⟨rfl, _, rfl, ?_⟩⟩⟩
      by_cases hz : (L[0])[j] = 0
      · refine ifF (by rw [hz]; rfl) (s_nil ?_)
        refine s_one <| s_set 2 nd <| w_un un_neg <| w_var 2 rfl ⟨_, rfl, v, _, _, _, _, rfl, s2, ?_⟩
        rw [step, hz]
        rw [show GM.sumN j (GM.part n L) + GM.sgn j * ((0 : Rat) * GM.det n (GM.cut j (L.drop 1))) = GM.sumN j (GM.part n L) by grind]
        exact hv
      · have hnum : (L[0])[j].num ≠ 0 := fun z => hz (Rat.num_eq_zero.mp z)
        refine ifT (by rw [decide_eq_false (fun z => hnum (by injection z))]; rfl) ?_
        refine s_cons <| s_mapl 4 6 nd <| w_slF sl_list <| w_var 0 rfl <| w_int ⟨1, rfl, a, xs, rfl, SqL.of (s2 _ _ ea), fun p2 hp2 => lpL ⟨p2, _, rfl, SqL.of upd_same, ?_, fun D2 hD2 => ⟨fun i y H => LsO D2 (Tq K) H y ((GM.cut j (L.drop 1)).getD i []), fun i y H H' kd h => monD_lsO monD_tq _ _ _ _ kd h, fun i τ H' acc hi ⟨x, ex, eτ⟩ s3 hd => ?_, fun zs H3 s3 hd hzl hR => ?_⟩⟩⟩
        · rw [show cutV xs (some 1) none = xs.drop 1 from cut_from xs 1, List.length_drop, hx.1]
          omega
        · subst eτ
          rw [show cutV xs (some 1) none = xs.drop 1 from cut_from xs 1] at ex s3
          obtain ⟨r, er, lr, rfl, ts, ets, hts⟩ := (hx.drop 1).get ex
          have st : Same H H' := s2.trans ((same_new hp2).trans s3)
          have lr1 : r.length = n + 1 := hw r (List.mem_of_mem_drop (List.mem_of_getElem? er))
          have ec : (GM.cut j (L.drop 1)).getD i [] = r.take j ++ r.drop (j + 1) := by
            unfold GM.cut
            rw [List.getD_eq_getElem?_getD, List.getElem?_map, er]
            rfl
          refine fun s0 H0 C cl fp => w_op op_cat <| w_slT sl_list <| w_var 6 rfl <| w_var 3 rfl ⟨(j : Nat), rfl, lr, ts, rfl, SqL.of (st _ _ ets), fun p3 hp3 => w_slF sl_list <| w_var 6 rfl <| w_op op_add <| w_var 3 rfl <| w_int ⟨_, _, rfl, rfl, ((j + 1 : Nat) : Int), rfl, lr, ts, rfl, SqL.of (same_new hp3 _ _ (st _ _ ets)), fun p4 hp4 => ⟨p3, p4, _, _, rfl, rfl, same_new hp4 _ _ upd_same, upd_same, ?_, fun p5 hp5 => ?_⟩⟩⟩
          · rw [cut_to, cut_from, List.length_take, List.length_drop, hts.1, sizeLine_eq]
            omega
          · rw [cut_to, cut_from] at *
            have s6 : Same H' _ := (same_new hp3).trans ((same_new hp4).trans (same_new (o := .lst (ts.take j ++ ts.drop (j + 1))) hp5))
            refine ⟨s6, ?_⟩
            show LsO D2 (Tq K) _ (.ref p5) ((GM.cut j (L.drop 1)).getD i [])
            rw [ec]
            refine ⟨p5, rfl, fun z => ?_, _, upd_same, (Els.append (hts.take j) (hts.drop (j + 1))).mono fun x q h => (h.same st).same s6⟩
            rw [z] at hp5
            have := same_new (o := .lst (ts.drop (j + 1))) hp4 _ _ (same_new (o := .lst (ts.take j)) hp3 _ _ hd)
            rw [this] at hp5
            cases hp5
        have lxs : (cutV xs (some 1) none).length = (L.drop 1).length := by rw [show cutV xs (some 1) none = xs.drop 1 from cut_from xs 1, List.length_drop, List.length_drop, hx.1]
        have lcut : (GM.cut j (L.drop 1)).length = n := by unfold GM.cut; rw [List.length_map, List.length_drop]; omega
        have hrest : LsAt (Ls (Tq K)) H3 D2 (GM.cut j (L.drop 1)) := ⟨zs, hd, Els.of (by rw [hzl, lxs, lcut, List.length_drop]; omega) fun i y e r er => by
          have h' : LsO D2 (Tq K) H3 y ((GM.cut j (L.drop 1)).getD i []) := hR i y e
          rw [getD_some er] at h'
          exact h'.ls⟩
        have st : Same H H3 := s2.trans ((same_new hp2).trans s3)
        have cdR : GM.AllCd D M (GM.cut j (L.drop 1)) := GM.allCd_cut fun r hr => hcd r (List.mem_of_mem_drop hr)
        have lq : RM.Lt (L[0])[j] 550 := by
          have z := GM.cd_at (hcd _ (List.getElem_mem h0L)) j
          rw [getD_some (List.getElem?_eq_getElem hj0)] at z
          exact (z.lt d0 d1 m1).mono (by decide)
        have ld := GM.lt_det d0 d1 m1 (show n ≤ 4 by omega) cdR
        have lp := GM.lt_part d0 d1 m1 hn hcd j
        rw [ej] at lp
        have ls := GM.lt_parts d0 d1 m1 hn hcd j (by omega)
        refine s_cons <| s_set 5 nd <| w_f2 (fn_times T) T.g__law_times (kept T.f__law_times) hr2 <| w_ix ix_list <| w_ix ix_list <| w_var 0 rfl <| w_int ⟨a, xs, _, _, rfl, rfl, SqL.of (st _ _ ea), atI_nat (j := 0) ex0, w_var 3 rfl ⟨l0, us, _, u, rfl, rfl, SqL.of (st _ _ eus), atI_nat eu, w_call F hr T.g__law_determinant (kept T.f__law_determinant) passL <| a_cons <| w_var 4 rfl <| a_nil ⟨D2, GM.cut j (L.drop 1), D, M, rfl, hrest, lcut, GM.wd_cut (fun r hr => hw r (List.mem_of_mem_drop hr)) hj, d0, d1, m1, cdR, fun v4 H4 s4 h4 => ⟨_, _, (hu.same st).same s4, h4, RM.fit_of lq ld (by decide), fun v5 H5 s5 h5 => ?_⟩⟩⟩⟩
        refine s_one <| s_set 1 nd <| w_f2 (fn_plus T) T.g__law_plus (kept T.f__law_plus) hr2 <| w_var 1 rfl <| w_f2 (fn_times T) T.g__law_times (kept T.f__law_times) hr2 <| w_pair1 <| w_var 2 rfl ⟨sgI j, rfl, fun t H6 s6 h6 => w_var 5 rfl ⟨_, _, h6, h5.same s6, RM.fit_of (a := 2) ?_ lp (by decide), fun v7 H7 s7 h7 => ?_⟩⟩
        · rw [sgI_rat]
          rcases GM.sgn_or j with z | z <;> rw [z]
          · exact ⟨by decide, by decide⟩
          · exact ⟨by decide, by decide⟩
        have s57 : Same H H7 := st.trans (s4.trans (s5.trans (s6.trans s7)))
        have s27 : Same H1 H7 := (same_new hp2).trans (s3.trans (s4.trans (s5.trans (s6.trans s7))))
        rw [sgI_rat] at h7
        have lsp : RM.Lt (GM.sgn j * ((L[0])[j] * GM.det n (GM.cut j (L.drop 1)))) 550 := by
          rcases GM.sgn_or j with z | z <;> rw [z]
          · rw [Rat.one_mul]; exact lp
          · rw [show (-1 : Rat) * ((L[0])[j] * GM.det n (GM.cut j (L.drop 1))) = - ((L[0])[j] * GM.det n (GM.cut j (L.drop 1))) by grind]
            exact RM.lt_neg lp
        refine ⟨_, _, hv.same s27, h7, RM.fit_of ls lsp (by decide), fun v8 H8 s8 h8 => ?_⟩
        refine s_one <| s_set 2 nd <| w_un un_neg <| w_var 2 rfl ⟨_, rfl, v8, _, _, _, _, rfl, s57.trans s8, ?_⟩
        rw [step]
        exact h8
    · rintro σ' H1 ⟨v, y3, y4, y5, y6, rfl, s2, hv⟩
      exact s_one <| s_ret <| w_var 1 rfl <| k v H1 s2 hv
end
end LW
namespace LW
open PySem PySem.Spec PyProof.Rows L2 PR
/-- a statement led to what is wanted behind it -/
theorem s_cut {X : Cx} {st : Stmt} {D : Ends} {σ : L2.St} {H : Hp} (Mid : L2.St → Hp → Prop) (h : Ws X st { D with nx := Mid } σ H) (k : ∀ σ' H', Mid σ' H' → D.nx σ' H') : Ws X st D σ H := ⟨fun pins s I => thn (h.run pins s I) fun f s' q => by
  cases f with
  | next => obtain ⟨σ', H', J, z⟩ := q; exact ⟨σ', H', J, k σ' H' z⟩
  | brk => exact q
  | cont => exact q
  | ret u => exact q⟩
/-! ### comprehensions that draw -/
theorem Bx.kd {b : Addr} {H H' : Hp} {N : Nat} (h : Bx H b N) (k : Kp b H H') : KD b H H' := by
  obtain ⟨n, c, d, e, _⟩ := h
  exact ⟨⟨_, e⟩, fun a o ne z => k a o ne z⟩
def LoopB (X : Cx) (scope : Scope) (elt : Expr) (j : Nat) (σ : L2.St) (b : Addr) (N c n : Nat) (nd : Prop) (H1 : Hp) (Q : VK) : Prop :=
  n ≤ 1000 ∧ Bx H1 b N ∧ ∀ D, H1 D = none → ∃ (R : Nat → V → Hp → Prop), (∀ i y H H', KD D H H' → R i y H → R i y H') ∧ (∀ i y H H', KD b H H' → R i y H → R i y H') ∧
    (∀ i H' acc, i < n → Kp b H1 H' → Bx H' b (N + c * i) → H' D = some (.lst acc) → (∀ (k : Nat) (y : V), acc[k]? = some y → R k y H') → Be X scope elt ((wipe σ [j]).set j (some (.int (i : Int)))) H' fun y H3 => Kp b H' H3 ∧ Bx H3 b (N + c * (i + 1)) ∧ R i y H3 ∧ (nd → y ∉ acc)) ∧
    ∀ ys H', Kp b H1 H' → Bx H' b (N + c * n) → H' D = some (.lst ys) → ys.length = n → (∀ (i : Nat) (y : V), ys[i]? = some y → R i y H') → (nd → ys.Nodup) → Q (.ref D) H'
theorem loopB_r {X : Cx} {scope : Scope} {elt : Expr} {j : Nat} {σ : L2.St} {b : Addr} {N c n : Nat} {nd : Prop} {H1 : Hp} {Q : VK} (h : LoopB X scope elt j σ b N c n nd H1 Q) : LoopR X scope elt [] j σ (.int (n : Int)) H1 Q := by
  obtain ⟨hn, hB, h⟩ := h
  refine ⟨n, rfl, by omega, fun L hL => ?_⟩
  obtain ⟨R, r1, r2, r3, r4⟩ := h L hL
  have Lb : L ≠ b := hB.ne_new hL
  refine ⟨fun i H' => Kp b H1 H' ∧ Bx H' b (N + c * i) ∧ ∃ acc, H' L = some (.lst acc) ∧ acc.length = i ∧ (∀ (k : Nat) (y : V), acc[k]? = some y → R k y H') ∧ (nd → acc.Nodup), ⟨(same_new hL).kp, hB.same (same_new hL), [], upd_same, rfl, fun k y e => by simp at e, fun _ => List.nodup_nil⟩, fun i H' hi ⟨k1, b1, acc, ea, la, hR, hN⟩ => ?_, fun H' ⟨k1, b1, acc, ea, la, hR, hN⟩ => r4 acc H' k1 b1 ea la hR hN⟩
  refine fun s0 H0 C cl fp => i_nil (ifT rfl fun s0 H0 C cl fp => We.mono (r3 i H' acc hi k1 b1 ea hR s0 H0 C cl fp) fun y H3 ⟨k3, b3, ry, hy⟩ => ?_)
  have e3 : H3 L = some (.lst acc) := k3 L _ Lb ea
  have u : KD L H3 (upd H3 L (.lst (acc ++ [y]))) := KD.upd e3
  refine ⟨acc, e3, by rw [sizeLine_eq]; omega, fun a o na e => ?_, ?_, acc ++ [y], upd_same, by rw [List.length_append, la]; rfl, fun k z e => ?_, fun w => ?_⟩
  · rw [upd_ne (ne_of_none e hL)]
    exact k3 a o na (k1 a o na e)
  · obtain ⟨x1, x2, x3, e, r⟩ := b3
    exact ⟨x1, x2, x3, by rw [upd_ne (Ne.symm Lb)]; exact e, r⟩
  · by_cases hk : k < acc.length
    · rw [List.getElem?_append_left hk] at e
      exact r1 k z _ _ u (r2 k z _ _ (b1.kd k3) (hR k z e))
    · rw [List.getElem?_append_right (by omega)] at e
      have e0 : k - acc.length = 0 := by
        rcases Nat.eq_zero_or_pos (k - acc.length) with q | q
        · exact q
        · rw [List.getElem?_eq_none (by simp; omega)] at e
          cases e
      rw [e0] at e
      cases e
      have : k = i := by omega
      subst this
      exact r1 k y _ _ u ry
  · refine List.nodup_append.mpr ⟨hN w, List.nodup_cons.mpr ⟨List.not_mem_nil, List.nodup_nil⟩, fun a ha b hb => ?_⟩
    rw [List.mem_singleton.mp hb]
    exact fun z => hy w (z ▸ ha)
theorem els_choose {α : Type} {R : V → α → Prop} {P : α → Prop} : ∀ {ys : List V}, (∀ (i : Nat) (y : V), ys[i]? = some y → ∃ a, P a ∧ R y a) → ∃ as, Els R ys as ∧ ∀ a ∈ as, P a
  | [], _ => ⟨[], .nil, fun a h => by cases h⟩
  | y :: ys, h => by
    obtain ⟨a, pa, ra⟩ := h 0 y rfl
    obtain ⟨as, h1, h2⟩ := els_choose (ys := ys) fun i z e => h (i + 1) z e
    refine ⟨a :: as, .cons ra h1, fun b hb => ?_⟩
    rcases List.mem_cons.mp hb with rfl | hb
    · exact pa
    · exact h2 b hb
theorem cd6 {n d : Int} {B : Nat} (h1 : 1 ≤ d) (h3 : d ≤ 3) (hn : n.natAbs ≤ B) : GM.Cd 6 (6 * B) (Rat.divInt n d) := by
  have h : d = 1 ∨ d = 2 ∨ d = 3 := by omega
  rcases h with rfl | rfl | rfl
  · exact ⟨6 * n, by omega, by rw [Rat.divInt_eq_divInt_iff (by decide) (by decide)]; show n * 6 = 6 * n * 1; omega⟩
  · exact ⟨3 * n, by omega, by rw [Rat.divInt_eq_divInt_iff (by decide) (by decide)]; show n * 6 = 3 * n * 2; omega⟩
  · exact ⟨2 * n, by omega, by rw [Rat.divInt_eq_divInt_iff (by decide) (by decide)]; show n * 6 = 2 * n * 3; omega⟩
section
variable {P : Program} {w : World} {K : PySem.W.Frag} {mg : Str → Option Value} {base : Heap}
/-! ### drawn -/
/-- a list of different lists of pairs, all new since B, none of them the box -/
def Rws (K : PySem.W.Frag) (b : Addr) (B H : Hp) (l : Addr) (A : List GM.Row) : Prop := l ≠ b ∧ B l = none ∧ ∃ vs, H l = some (.lst vs) ∧ vs.Nodup ∧ Els (fun v r => ∃ a, v = .ref a ∧ a ≠ b ∧ a ≠ l ∧ B a = none ∧ LsAt (Tq K) H a r) vs A
def spDrawn (K : PySem.W.Frag) : Sp := fun vs H Q _ => ∃ (b : Addr) (N n : Nat), vs = [.ref b, .int (n : Nat)] ∧ Bx H b N ∧ N ≤ 1000 ∧ n ≤ 4 ∧ ∀ l A H', Kp b H H' → Bx H' b (N + 2 * n * n) → Rws K b H H' l A → A.length = n → GM.Wd n A → GM.AllCd 6 30 A → Q (.ref l) H'
theorem sc_drawn : FnScope ["_law_box_here", "_law_size", "_law_k", "_law_row_here"] ["_law_box_here", "_law_size"] (defScope s__law_drawn) := ⟨rfl, rfl, rfl, by decide +kernel, rfl, by decide +kernel, by decide +kernel⟩
theorem fn_drawn (T : Tx K mg) : FnR P w K mg base (L2.CX P w) 2 (He.ga K "_law_drawn") (spDrawn K) := by
  refine fnr T.f__law_drawn sc_drawn (fun vs H Q E h => ?_) (fun _ _ _ _ _ _ us hl => match us, hl with | [_, _], _ => rfl) fun cdv A outer s H vs Q E hr h => ?_
  · obtain ⟨b, N, n, rfl, _⟩ := h
    rfl
  obtain ⟨b, N, n, rfl, hB, hN, hn, k⟩ := h
  have nd := sc_drawn.nd
  refine s_one <| s_ret <| w_lcr 3 nd T.b_range <| w_var 1 rfl <| loopB_r (b := b) (N := N) (c := 2 * n) (nd := True) ⟨by omega, hB, fun D hD => ⟨fun i y H' => ∃ r : GM.Row, (r.length = n ∧ ∀ q ∈ r, GM.Cd 6 30 q) ∧ ∃ a, y = .ref a ∧ a ≠ b ∧ a ≠ D ∧ H a = none ∧ LsAt (Tq K) H' a r, fun i y H1 H2 kd ⟨r, p, a, e1, e2, e3, e4, xs, h1, h2⟩ => ⟨r, p, a, e1, e2, e3, e4, xs, kd.2 _ _ e3 h1, h2.mono fun v q h => monD_tq _ _ _ _ kd h⟩, fun i y H1 H2 kd ⟨r, p, a, e1, e2, e3, e4, xs, h1, h2⟩ => ⟨r, p, a, e1, e2, e3, e4, xs, kd.2 _ _ e2 h1, h2.mono fun v q h => monD_tq _ _ _ _ kd h⟩, fun i H' acc hi k1 b1 hd hR => ?_, fun ys H' k1 b1 hd hl hR hN' => ?_⟩⟩
  · have hi2 : 2 * n * i ≤ 32 := by
      have z := Nat.mul_le_mul (show 2 * n ≤ 8 by omega) (show i ≤ 4 by omega)
      omega
    have Db : D ≠ b := hB.ne_new hD
    refine fun s0 H0 C cl fp => w_lcr 2 nd T.b_range <| w_var 1 rfl <| loopB_r (b := b) (N := N + 2 * n * i) (c := 2) (nd := False) ⟨by omega, b1, fun D2 hD2 => ⟨fun i y H' => ∃ q, GM.Cd 6 30 q ∧ Tq K H' y q, fun i y H1 H2 kd ⟨q, p, h⟩ => ⟨q, p, monD_tq _ _ _ _ kd h⟩, fun i y H1 H2 kd ⟨q, p, h⟩ => ⟨q, p, monD_tq _ _ _ _ kd h⟩, fun j H2 acc2 hj k2 b2 hd2 hR2 => ?_, fun ys H2 k2 b2 hd2 hl2 hR2 _ => ?_⟩⟩
    · refine fun s0 H0 C cl fp => w_frac T hr <| w_op op_sub <| w_take T hr <| w_var 0 rfl <| w_int ⟨b, 11, _, rfl, rfl, b2, by omega, by decide, by decide +kernel, fun t H3 t0 t1 b3 k3 => w_int ⟨_, _, rfl, rfl, w_op op_add <| w_int <| w_take T hr <| w_var 0 rfl <| w_int ⟨b, 3, _, rfl, rfl, b3, by omega, by decide, by decide +kernel, fun u H4 u0 u1 b4 k4 => ⟨_, _, rfl, rfl, _, _, rfl, rfl, by omega, small9 (Nat.lt_of_le_of_lt (show (1 + u).natAbs ≤ 3 by omega) (by decide +kernel)), fun v H5 s5 h5 => ⟨(k3.trans k4).trans s5.kp, ?_, ⟨_, ?_, h5⟩, fun z => z.elim⟩⟩⟩⟩⟩
      · exact (b4.same s5).mono (by omega)
      · exact cd6 (B := 5) (by omega) (by omega) (by omega)
    · obtain ⟨qs, hq, hp⟩ := els_choose hR2
      have e1 : N + 2 * n * i + 2 * n = N + 2 * n * (i + 1) := by rw [Nat.mul_add]; omega
      have D2b : D2 ≠ b := b1.ne_new hD2
      have D2D : D2 ≠ D := fun z => by rw [z, hd] at hD2; cases hD2
      have D2H : H D2 = none := by
        cases e : H D2 with
        | none => rfl
        | some o => rw [k1 D2 o D2b e] at hD2; cases hD2
      refine ⟨k2, by rw [← e1]; exact b2, ⟨qs, ⟨by rw [← hq.1, hl2], hp⟩, D2, rfl, D2b, D2D, D2H, ys, hd2, hq⟩, fun _ hm => ?_⟩
      obtain ⟨k', hk', ek'⟩ := List.getElem_of_mem hm
      obtain ⟨r, _, a, e2, _, _, _, xs, h1, _⟩ := hR k' _ (List.getElem?_eq_getElem hk')
      rw [ek'] at e2
      injection e2 with e2
      rw [← e2, hD2] at h1
      cases h1
  · obtain ⟨A, hA, hp⟩ := els_choose hR
    exact k D A H' k1 b1 ⟨hB.ne_new hD, hD, ys, hd, hN' trivial, hA⟩ (by rw [← hA.1, hl]) (fun r hr => (hp r hr).1) (fun r hr => (hp r hr).2)
end
end LW
namespace LW
open PySem PySem.Spec PyProof.Rows L2 PR
theorem atI_int {α : Type} {xs : List α} {i : Int} {v : α} (h0 : 0 ≤ i) (h : xs[i.toNat]? = some v) : atI xs i = some v := by
  have e : i = (i.toNat : Int) := by omega
  rw [e]
  exact atI_nat h
theorem ixN_int {n : Nat} {i : Int} (h0 : 0 ≤ i) (h : i < n) : ixN n i = some i.toNat := by
  unfold ixN
  rw [if_pos h0, if_pos h]
theorem nodup_set {x : V} : ∀ {vs : List V} {i : Nat}, vs.Nodup → x ∉ vs → (vs.set i x).Nodup
  | [], _, _, _ => List.nodup_nil
  | a :: vs, 0, h, hx => List.nodup_cons.mpr ⟨fun z => hx (List.mem_cons_of_mem _ z), (List.nodup_cons.mp h).2⟩
  | a :: vs, i + 1, h, hx => by
    obtain ⟨h1, h2⟩ := List.nodup_cons.mp h
    refine List.nodup_cons.mpr ⟨fun z => ?_, nodup_set h2 fun z => hx (List.mem_cons_of_mem _ z)⟩
    rcases List.mem_or_eq_of_mem_set z with z | z
    · exact h1 z
    · exact hx (z ▸ List.mem_cons_self)
section
variable {K : PySem.W.Frag} {b l : Addr} {B H H' : Hp} {A : List GM.Row}
theorem Rws.same (h : Rws K b B H l A) (s : Same H H') : Rws K b B H' l A := by
  obtain ⟨h1, h2, vs, e, nd, h⟩ := h
  exact ⟨h1, h2, vs, s _ _ e, nd, h.mono fun v r ⟨a, e1, e2, e3, e4, h⟩ => ⟨a, e1, e2, e3, e4, h.same monS_tq s⟩⟩
theorem Rws.kp {N : Nat} (h : Rws K b B H l A) (x : Bx H b N) (s : Kp b H H') : Rws K b B H' l A := by
  obtain ⟨h1, h2, vs, e, nd, h⟩ := h
  exact ⟨h1, h2, vs, s _ _ h1 e, nd, h.mono fun v r ⟨a, e1, e2, e3, e4, xs, g1, g2⟩ => ⟨a, e1, e2, e3, e4, xs, s _ _ e2 g1, g2.mono fun v q h => monD_tq _ _ _ _ (x.kd s) h⟩⟩
theorem ls_kd {D a : Addr} {r : GM.Row} (kd : KD D H H') (n : a ≠ D) (h : LsAt (Tq K) H a r) : LsAt (Tq K) H' a r := by
  obtain ⟨xs, g1, g2⟩ := h
  exact ⟨xs, kd.2 _ _ n g1, g2.mono fun v q h => monD_tq _ _ _ _ kd h⟩
/-- another list in a place -/
theorem Rws.put {p : Addr} {r : GM.Row} {vs : List V} {i : Nat} (h1 : l ≠ b) (h2 : B l = none) (e : H l = some (.lst vs)) (nd : vs.Nodup) (h : Els (fun v r => ∃ a, v = .ref a ∧ a ≠ b ∧ a ≠ l ∧ B a = none ∧ LsAt (Tq K) H a r) vs A) (np : V.ref p ∉ vs) (pb : p ≠ b) (pl : p ≠ l) (pB : B p = none) (hr : LsAt (Tq K) H p r) :
    Rws K b B (upd H l (.lst (vs.set i (.ref p)))) l (A.set i r) := by
  have kd : KD l H (upd H l (.lst (vs.set i (.ref p)))) := KD.upd e
  refine ⟨h1, h2, _, upd_same, nodup_set nd np, ⟨by rw [List.length_set, List.length_set, h.1], fun k v r' e1 e2 => ?_⟩⟩
  rw [List.getElem?_set] at e1 e2
  by_cases hk : i = k
  · rw [if_pos hk] at e1 e2
    by_cases hl : i < vs.length
    · rw [if_pos hl] at e1
      rw [if_pos (by rw [← h.1]; exact hl)] at e2
      cases e1
      cases e2
      exact ⟨p, rfl, pb, pl, pB, ls_kd kd pl hr⟩
    · rw [if_neg hl] at e1
      cases e1
  · rw [if_neg hk] at e1 e2
    obtain ⟨a, g1, g2, g3, g4, g5⟩ := h.2 k v r' e1 e2
    exact ⟨a, g1, g2, g3, g4, ls_kd kd g3 g5⟩
/-- another item in a row -/
theorem Rws.edit {a : Addr} {r : GM.Row} {vs us : List V} {i c : Nat} {v : V} {q : Rat} (h1 : l ≠ b) (h2 : B l = none) (e : H l = some (.lst vs)) (nd : vs.Nodup) (h : Els (fun v r => ∃ a, v = .ref a ∧ a ≠ b ∧ a ≠ l ∧ B a = none ∧ LsAt (Tq K) H a r) vs A) (ei : vs[i]? = some (.ref a)) (eA : A[i]? = some r) (ea : H a = some (.lst us)) (hu : Els (Tq K H) us r) (hv : Tq K H v q) :
    Rws K b B (upd H a (.lst (us.set c v))) l (A.set i (r.set c q)) := by
  have kd : KD a H (upd H a (.lst (us.set c v))) := KD.upd ea
  obtain ⟨a', g1, g2, g3, g4, g5⟩ := h.2 i _ r ei eA
  cases g1
  have hi : i < vs.length := (List.getElem?_eq_some_iff.mp ei).1
  refine ⟨h1, h2, vs, by rw [upd_ne (Ne.symm g3)]; exact e, nd, ⟨by rw [List.length_set, h.1], fun k v' r' e1 e2 => ?_⟩⟩
  rw [List.getElem?_set] at e2
  by_cases hk : i = k
  · subst hk
    rw [if_pos rfl, if_pos (by rw [← h.1]; exact hi)] at e2
    cases e2
    rw [ei] at e1
    cases e1
    refine ⟨a, rfl, g2, g3, g4, _, upd_same, ⟨by rw [List.length_set, List.length_set, hu.1], fun j x y e3 e4 => ?_⟩⟩
    rw [List.getElem?_set] at e3 e4
    by_cases hj : c = j
    · rw [if_pos hj] at e3 e4
      by_cases hl : c < us.length
      · rw [if_pos hl] at e3
        rw [if_pos (by rw [← hu.1]; exact hl)] at e4
        cases e3
        cases e4
        exact monD_tq _ _ _ _ kd hv
      · rw [if_neg hl] at e3
        cases e3
    · rw [if_neg hj] at e3 e4
      exact monD_tq _ _ _ _ kd (hu.2 j x y e3 e4)
  · rw [if_neg hk] at e2
    obtain ⟨a2, k1, k2, k3, k4, k5⟩ := h.2 k v' r' e1 e2
    refine ⟨a2, k1, k2, k3, k4, ls_kd kd (fun z => hk ?_) k5⟩
    rw [k1, z] at e1
    exact (List.getElem?_inj hi nd).mp (ei.trans e1.symm)
theorem Rws.fresh {vs : List V} {p : Addr} (e : Els (fun v r => ∃ a, v = V.ref a ∧ a ≠ b ∧ a ≠ l ∧ B a = none ∧ LsAt (Tq K) H a r) vs A) (hp : H p = none) : V.ref p ∉ vs := fun hm => by
  obtain ⟨k, hk, ek⟩ := List.getElem_of_mem hm
  obtain ⟨r, _, a, g1, _, _, _, xs, g5, _⟩ := e.get (List.getElem?_eq_getElem hk)
  rw [ek] at g1
  cases g1
  rw [hp] at g5
  cases g5
end
theorem allCd_set {D M i : Nat} {A : List GM.Row} {r : GM.Row} (h : GM.AllCd D M A) (k : ∀ q ∈ r, GM.Cd D M q) : GM.AllCd D M (A.set i r) := fun x hx => by
  rcases List.mem_or_eq_of_mem_set hx with hx | rfl
  · exact h x hx
  · exact k
theorem cd_set {D M c : Nat} {r : GM.Row} {q : Rat} (h : ∀ q ∈ r, GM.Cd D M q) (k : GM.Cd D M q) : ∀ x ∈ r.set c q, GM.Cd D M x := fun x hx => by
  rcases List.mem_or_eq_of_mem_set hx with hx | rfl
  · exact h x hx
  · exact k
theorem wd_set {m i : Nat} {A : List GM.Row} {r : GM.Row} (h : GM.Wd m A) (k : r.length = m) : GM.Wd m (A.set i r) := fun x hx => by
  rcases List.mem_or_eq_of_mem_set hx with hx | rfl
  · exact h x hx
  · exact k
/-- for x in range(e), e below 0 too -/
theorem s_forri {X : Cx} {e : Expr} {σ : L2.St} {H : Hp} {D : Ends} {pos px pr pc : Pos} {body : List Stmt} (i : Nat) {x : Str} (hp : PassesOwn (model X.prog X.w) X.A X.env X.xe) (hN : X.N.Nodup) (hm : X.mg "range" = none)
    (h : We X e σ H fun v H1 => ∃ (n : Int) (Pv : Nat → L2.St → Hp → Prop), v = .int n ∧ -1000 ≤ n ∧ n < 1000000 ∧ Pv 0 σ H1 ∧ (∀ j σ' H', j < n.toNat → Pv j σ' H' → Wb X body { D with nx := Pv (j + 1), ct := Pv (j + 1), bk := D.nx } (σ'.set i (some (.int (j : Int)))) H') ∧ ∀ σ' H', Pv n.toNat σ' H' → D.nx σ' H')
    (hg : Gl X "range" := by rfl) (he : starEach [e] X.env = (false, eval e X.env) :: starEach [] X.env := by rfl) (hi : X.N[i]? = some x := by rfl) (hx : Loc X.env.scope x := by first | exact Or.inl rfl | exact Or.inr rfl) (hf : X.fn x = true ∨ X.env.scope.names.lookup x = some .local := by first | exact .inl rfl | exact .inr rfl) (hc : X.calm = true := by rfl)
    (hs : ∀ z, foldedSetIterable (.Call (.Name "range" pr) [e] [] pc) X.env z = pure z := by intro _; rfl) : Ws X (.For (.Name x px) (.Call (.Name "range" pr) [e] [] pc) body [] pos) D σ H := by
  refine s_for hp (pi_range1 hg hm paW he) (pg_name (i := i) hN hi hx hf) (a_cons (We.mono h fun v H1 z => ?_) he) hc hs
  obtain ⟨n, Pv, rfl, hn0, hn, h0, ht, hd⟩ := z
  refine a_nil ⟨n, rfl, by omega, by omega, for_range (lo := 0) (n := n.toNat) Pv h0 (fun j σ' H' hj hP => ?_) hd⟩
  show Wb X body { D with nx := Pv (j + 1), ct := Pv (j + 1), bk := D.nx } (σ'.set i (some (.int ((0 : Int) + (j : Int))))) H'
  rw [Int.zero_add]
  exact ht j σ' H' hj hP
section
variable {P : Program} {w : World} {K : PySem.W.Frag} {mg : Str → Option Value} {base : Heap}
def D0 : Nat := 6 * 10 ^ 25
def M0 : Nat := 10 ^ 27
def spRows (K : PySem.W.Frag) : Sp := fun vs H Q _ => ∃ (b : Addr) (N n : Nat), vs = [.ref b, .int (n : Nat)] ∧ Bx H b N ∧ N ≤ 500 ∧ n ≤ 4 ∧ ∀ l A H', Kp b H H' → Bx H' b (N + 60) → Rws K b H H' l A → A.length = n → GM.Wd n A → GM.AllCd D0 M0 A → Q (.ref l) H'
theorem sc_rows : FnScope ["_law_box_here", "_law_size", "_law_found", "_law_way", "_law_at", "_law_by", "_law_k", "_law_x"] ["_law_box_here", "_law_size"] (defScope s__law_rows) := ⟨rfl, rfl, rfl, by decide +kernel, rfl, by decide +kernel, by decide +kernel⟩
theorem cd_lift25 {q : Rat} (h : GM.Cd 6 60 q) : GM.Cd D0 (60 * 10 ^ 25) q := h.lift (by decide) (by decide)
theorem fn_rows (T : Tx K mg) : FnR P w K mg base (L2.CX P w) 3 (He.ga K "_law_rows") (spRows K) := by
  refine fnr T.f__law_rows sc_rows (fun vs H Q E h => ?_) (fun _ _ _ _ _ _ us hl => match us, hl with | [_, _], _ => rfl) fun cdv A outer s H vs Q E hr h => ?_
  · obtain ⟨b, N, n, rfl, _⟩ := h
    rfl
  obtain ⟨b, N, n, rfl, hB, hN, hn, k⟩ := h
  have nd := sc_rows.nd
  have hr1 : Room 1 _ := hr.mono (show 1 ≤ 2 by decide)
  have hnn : 2 * n * n ≤ 32 := by
    have z := Nat.mul_le_mul (show 2 * n ≤ 8 by omega) hn
    omega
  refine s_cons <| s_set 2 nd <| w_call (fn_drawn T) hr T.g__law_drawn (kept T.f__law_drawn) passL <| a_cons <| w_var 0 rfl <| a_cons <| w_var 1 rfl <| a_nil ⟨b, N, n, rfl, hB, by omega, hn, fun l A H1 k1 b1 hA lA wA cA => ?_⟩
  refine s_cons <| s_set 3 nd <| w_take T hr1 <| w_var 0 rfl <| w_int ⟨b, 4, _, rfl, rfl, b1, by omega, by decide, by decide +kernel, fun way H2 w0 w1 b2 k2 => ?_⟩
  have hA2 := hA.kp b1 k2
  have k12 := k1.trans k2
  have cA2 : GM.AllCd 6 60 A := fun r hr q hq => (cA r hr q hq).mono (by decide)
  refine s_cons <| s_cut (fun σ' H' => ∃ (A : List GM.Row) (y4 y5 y6 y7 : Option V), σ' = [some (.ref b), some (.int (n : Nat)), some (.ref l), some (.int way), y4, y5, y6, y7] ∧ Kp b H H' ∧ Bx H' b (N + 50) ∧ Rws K b H H' l A ∧ A.length = n ∧ GM.Wd n A ∧ GM.AllCd 6 60 A) (s_if <| t_bool <| b_and <| t_cmp op_gt <| w_var 1 rfl <| w_int ⟨_, _, rfl, rfl, _, rfl, ?_⟩) ?_
  · have no : ∃ (A : List GM.Row) (y4 y5 y6 y7 : Option V), [some (V.ref b), some (.int (n : Nat)), some (.ref l), some (.int way), none, none, none, none] = [some (.ref b), some (.int (n : Nat)), some (.ref l), some (.int way), y4, y5, y6, y7] ∧ Kp b H H2 ∧ Bx H2 b (N + 50) ∧ Rws K b H H2 l A ∧ A.length = n ∧ GM.Wd n A ∧ GM.AllCd 6 60 A := ⟨A, _, _, _, _, rfl, k12, b2.mono (by omega), hA2, lA, wA, cA2⟩
    by_cases hn1 : 1 < n
    · refine ifT (decide_eq_true (by omega)) (b_and1 <| t_cmp op_eq <| w_var 3 rfl <| w_int ⟨rfl, _, rfl, ?_⟩)
      by_cases hw0 : way = 0
      · refine ifT (decide_eq_true (by rw [hw0])) ?_
        refine s_cons <| s_set 4 nd <| w_take T hr1 <| w_var 0 rfl <| w_var 1 rfl ⟨b, (n : Nat), _, rfl, rfl, b2, by omega, by omega, small9 (Nat.lt_of_le_of_lt (show ((n : Nat) : Int).natAbs ≤ 4 by omega) (by decide +kernel)), fun at' H3 a0 a1 b3 k3 => ?_⟩
        refine s_cons <| s_set 5 nd <| w_pair1 <| w_op op_sub <| w_take T hr1 <| w_var 0 rfl <| w_int ⟨b, 5, _, rfl, rfl, b3, by omega, by decide, by decide +kernel, fun t H4 t0 t1 b4 k4 => w_int ⟨_, _, rfl, rfl, t - 2, rfl, fun v5 H5 s5 h5 => ?_⟩⟩
        have k45 := k3.trans (k4.trans s5.kp)
        have hA5 : Rws K b H H5 l A := ((hA2.kp b2 k3).kp b3 k4).same s5
        have b5 := b4.same s5
        obtain ⟨g1, g2, vs, ev, ndv, hvs⟩ := id hA5
        have i0 : 0 ≤ (at' + 1) % (n : Int) := Int.emod_nonneg _ (by omega)
        have i1 : (at' + 1) % (n : Int) < n := Int.emod_lt_of_pos _ (by omega)
        have i2 : ((at' + 1) % (n : Int)).toNat < A.length := by omega
        obtain ⟨x, ex, a, rfl, ab, al, aB, us, eu, hu⟩ := hvs.at_ (List.getElem?_eq_getElem i2)
        have hrw := A[((at' + 1) % (n : Int)).toNat]
        refine s_one <| s_asg (pg_sub peW peW set_list) <| w_mapl 7 nd <| w_ix ix_list <| w_var 2 rfl <| w_op op_mod <| w_op op_add <| w_var 4 rfl <| w_int ⟨_, _, rfl, rfl, w_var 1 rfl ⟨_, _, rfl, rfl, by omega, l, vs, _, .ref a, rfl, rfl, SqL.of ev, atI_int i0 ex, lpL ⟨a, us, rfl, SqL.of eu, ?_, fun D hD => ⟨fun i y H => ∃ q, A[((at' + 1) % (n : Int)).toNat][i]? = some q ∧ Tq K H y (((t - 2 : Int) : Rat) * q), fun i y H H' kd ⟨q, e, h⟩ => ⟨q, e, monD_tq _ _ _ _ kd h⟩, fun i τ H' acc hi ⟨x, ex', eτ⟩ s6 hd => ?_, fun zs H6 s6 hd hzl hR => ?_⟩⟩⟩⟩
        · rw [hu.1, wA _ (List.getElem_mem i2)]
          omega
        · subst eτ
          obtain ⟨q, eq, hq⟩ := hu.get ex'
          have cq := cA _ (List.getElem_mem i2) q (List.mem_of_getElem? eq)
          have lq : RM.Lt q 10 := cq.lt (by decide) (by decide) (by decide)
          have lt : RM.Lt ((t - 2 : Int) : Rat) 10 := RM.lt_int (by omega) (by decide)
          exact fun s0 H0 C cl fp => w_f2 (fn_times T) T.g__law_times (kept T.f__law_times) hr <| w_var 5 rfl <| w_var 7 rfl ⟨_, q, h5.same s6, hq.same s6, RM.fit_of lt lq (by decide), fun v7 H7 s7 h7 => ⟨s7, q, eq, h7⟩⟩
        · have l6 : ixN vs.length at' = some at'.toNat := ixN_int a0 (by rw [hvs.1, lA]; exact a1)
          refine w_var 2 rfl <| w_var 4 rfl ⟨l, vs, at', at'.toNat, rfl, rfl, s6 _ _ ev, l6, A.set at'.toNat (A[((at' + 1) % (n : Int)).toNat].map fun q => ((t - 2 : Int) : Rat) * q), _, _, _, _, rfl, ?_, ?_, ?_, by rw [List.length_set]; exact lA, wd_set wA (by rw [List.length_map]; exact wA _ (List.getElem_mem i2)), allCd_set cA2 fun q hq => ?_⟩
          · intro a o na e
            rw [upd_ne (ne_of_none e g2)]
            exact s6 _ _ (k45 a o na (k12 a o na e))
          · obtain ⟨x1, x2, x3, e, r⟩ := b5
            exact (show Bx _ b _ from ⟨x1, x2, x3, by rw [upd_ne (Ne.symm g1)]; exact s6 _ _ e, r⟩ : Bx _ b _).mono (by omega)
          · refine Rws.put g1 g2 (s6 _ _ ev) ndv (hvs.mono fun v r ⟨a, e1, e2, e3, e4, h⟩ => ⟨a, e1, e2, e3, e4, h.same monS_tq s6⟩) (Rws.fresh hvs hD) (b5.ne_new hD) (fun z => by rw [z, ev] at hD; cases hD) ?_ ⟨zs, hd, Els.of (by rw [hzl, List.length_map, hu.1]) fun i y e q eq => ?_⟩
            · cases e : H D with
              | none => rfl
              | some o => rw [k45 D o (b5.ne_new hD) (k12 D o (b5.ne_new hD) e)] at hD; cases hD
            · obtain ⟨q', e1, h'⟩ := hR i y e
              rw [List.getElem?_map, e1] at eq
              cases eq
              exact h'
          · obtain ⟨q', hq', rfl⟩ := List.mem_map.mp hq
            have z : GM.Cd 1 2 ((t - 2 : Int) : Rat) := ⟨t - 2, by omega, RM.int_eq _⟩
            exact z.mul (cA _ (List.getElem_mem i2) q' hq')
      · exact ifF (decide_eq_false (fun z => hw0 (by injection z))) (s_nil no)
    · exact ifF (decide_eq_false (by omega)) (ifF rfl (s_nil no))
  rintro σ' H3 ⟨A, y4, y5, y6, y7, rfl, k3, b3, hA, lA, wA, cA⟩
  refine s_cons <| s_cut (fun σ' H' => ∃ (A : List GM.Row) (y4 y5 y6 y7 : Option V), σ' = [some (.ref b), some (.int (n : Nat)), some (.ref l), some (.int way), y4, y5, y6, y7] ∧ Kp b H H' ∧ Bx H' b (N + 50) ∧ Rws K b H H' l A ∧ A.length = n ∧ GM.Wd n A ∧ GM.AllCd 6 60 A) (s_if <| t_cmp op_eq <| w_var 3 rfl <| w_int ⟨rfl, _, rfl, ?_⟩) ?_
  · by_cases hw1 : way = 1
    · refine ifT (decide_eq_true (by rw [hw1])) (s_one <| s_forri 6 (passes_of rfl) nd T.b_range <| w_op op_sub <| w_var 1 rfl <| w_int ⟨_, _, rfl, rfl, (n : Int) - 1, fun _ σ' H' => ∃ (A : List GM.Row) (y4 y5 y6 y7 : Option V), σ' = [some (.ref b), some (.int (n : Nat)), some (.ref l), some (.int way), y4, y5, y6, y7] ∧ Kp b H H' ∧ Bx H' b (N + 50) ∧ Rws K b H H' l A ∧ A.length = n ∧ GM.Wd n A ∧ GM.AllCd 6 60 A, rfl, by omega, by omega, ⟨A, _, _, _, _, rfl, k3, b3, hA, lA, wA, cA⟩, ?_, fun σ' H' h => h⟩)
      rintro j σ' H4 hj ⟨A, y4, y5, y6, y7, rfl, k4, b4, hA, lA, wA, cA⟩
      have hjA : j < A.length := by omega
      refine s_one <| s_asg (pg_sub peW peW set_list) <| w_tup <| a_cons <| w_int <| a_cons <| w_int <| a_nil ⟨by show 2 ≤ sizeLine; decide, fun p hp => ?_⟩
      have s5 := same_new (o := .tup [.int 0, .int 1]) hp
      have hv : Tq K (upd H4 p (.tup [.int 0, .int 1])) (.ref p) 0 := tq_zero
      generalize upd H4 p (.tup [.int 0, .int 1]) = H5 at s5 hv ⊢
      obtain ⟨g1, g2, vs, ev, ndv, hvs⟩ := hA.same s5
      obtain ⟨x, ex, a, rfl, ab, al, aB, us, eu, hu⟩ := hvs.at_ (List.getElem?_eq_getElem hjA)
      have hwr : A[j].length = n := wA _ (List.getElem_mem hjA)
      refine w_ix ix_list <| w_var 2 rfl <| w_var 6 rfl ⟨l, vs, _, .ref a, rfl, rfl, SqL.of ev, atI_nat ex, w_var 6 rfl ⟨a, us, _, j, rfl, rfl, eu, ?_, A.set j (A[j].set j 0), _, _, _, _, rfl, ?_, ?_, ?_, by rw [List.length_set]; exact lA, wd_set wA (by rw [List.length_set]; exact hwr), allCd_set cA (cd_set (cA _ (List.getElem_mem hjA)) (GM.Cd.zero _ _))⟩⟩
      · rw [ixN_int (by omega) (by rw [hu.1, hwr]; omega)]
        rfl
      · intro a' o na e
        rw [upd_ne (ne_of_none e aB)]
        exact s5 _ _ (k4 a' o na e)
      · obtain ⟨x1, x2, x3, e, r⟩ := b4
        exact ⟨x1, x2, x3, by rw [upd_ne (Ne.symm ab)]; exact s5 _ _ e, r⟩
      · exact Rws.edit g1 g2 ev ndv hvs ex (List.getElem?_eq_getElem hjA) eu hu hv
    · exact ifF (decide_eq_false (fun z => hw1 (by injection z))) (s_nil ⟨A, _, _, _, _, rfl, k3, b3, hA, lA, wA, cA⟩)
  clear hA lA wA cA b3 k3
  rintro σ' H4 ⟨A, y4, y5, y6, y7, rfl, k4, b4, hA, lA, wA, cA⟩
  have big : GM.AllCd 6 60 A → GM.AllCd D0 M0 A := fun h r hr q hq => (cd_lift25 (h r hr q hq)).mono (by decide)
  refine s_cons <| s_cut (fun σ' H' => ∃ (A : List GM.Row) (y4 y5 y6 y7 : Option V), σ' = [some (.ref b), some (.int (n : Nat)), some (.ref l), some (.int way), y4, y5, y6, y7] ∧ Kp b H H' ∧ Bx H' b (N + 60) ∧ Rws K b H H' l A ∧ A.length = n ∧ GM.Wd n A ∧ GM.AllCd D0 M0 A) (s_if <| t_bool <| b_and <| t_cmp op_gt <| w_var 1 rfl <| w_int ⟨_, _, rfl, rfl, _, rfl, ?_⟩) ?_
  · have no : ∃ (A : List GM.Row) (z4 z5 z6 z7 : Option V), [some (V.ref b), some (.int (n : Nat)), some (.ref l), some (.int way), y4, y5, y6, y7] = [some (.ref b), some (.int (n : Nat)), some (.ref l), some (.int way), z4, z5, z6, z7] ∧ Kp b H H4 ∧ Bx H4 b (N + 60) ∧ Rws K b H H4 l A ∧ A.length = n ∧ GM.Wd n A ∧ GM.AllCd D0 M0 A := ⟨A, _, _, _, _, rfl, k4, b4.mono (by omega), hA, lA, wA, big cA⟩
    by_cases hn1 : 1 < n
    · refine ifT (decide_eq_true (by omega)) (b_and1 <| t_cmp op_eq <| w_var 3 rfl <| w_int ⟨rfl, _, rfl, ?_⟩)
      by_cases hw2 : way = 2
      · refine ifT (decide_eq_true (by rw [hw2])) ?_
        obtain ⟨g1, g2, vs, ev, ndv, hvs⟩ := id hA
        have h1A : 1 < A.length := by omega
        obtain ⟨x, ex, a, rfl, ab, al, aB, us, eu, hu⟩ := hvs.at_ (List.getElem?_eq_getElem h1A)
        refine s_cons <| s_asg (pg_sub peW peW set_list) <| w_callT call_list_of T.b_list (by decide +kernel) <| a_cons <| w_ix ix_list <| w_var 2 rfl <| w_int ⟨l, vs, _, .ref a, rfl, rfl, SqL.of ev, atI_nat (j := 1) ex, a_nil ⟨a, us, rfl, .inl (SqL.of eu), fun p hp => ?_⟩⟩
        have s5 := same_new (o := .lst us) hp
        have ep : upd H4 p (.lst us) p = some (.lst us) := upd_same
        generalize upd H4 p (.lst us) = H5 at s5 ep ⊢
        have pb : p ≠ b := b4.ne_new hp
        have pB : H p = none := by
          cases e : H p with
          | none => rfl
          | some o => rw [k4 p o pb e] at hp; cases hp
        have hw1 : A[1].length = n := wA _ (List.getElem_mem h1A)
        refine w_var 2 rfl <| w_int ⟨l, vs, 0, 0, rfl, rfl, s5 _ _ ev, ixN_int (by decide) (by rw [hvs.1, lA]; omega), ?_⟩
        have hA6 : Rws K b H (upd H5 l (.lst (vs.set 0 (.ref p)))) l (A.set 0 A[1]) := Rws.put g1 g2 (s5 _ _ ev) ndv (hvs.mono fun v r ⟨a, e1, e2, e3, e4, h⟩ => ⟨a, e1, e2, e3, e4, h.same monS_tq s5⟩) (Rws.fresh hvs hp) pb (fun z => by rw [z, ev] at hp; cases hp) pB ⟨us, ep, hu.mono fun v q h => h.same s5⟩
        have k6 : Kp b H (upd H5 l (.lst (vs.set 0 (.ref p)))) := fun a' o na e => by
          rw [upd_ne (ne_of_none e g2)]
          exact s5 _ _ (k4 a' o na e)
        have b6 : Bx (upd H5 l (.lst (vs.set 0 (.ref p)))) b (N + 50) := by
          obtain ⟨x1, x2, x3, e, r⟩ := b4
          exact ⟨x1, x2, x3, by rw [upd_ne (Ne.symm g1)]; exact s5 _ _ e, r⟩
        change Wb _ _ _ _ (upd H5 l (.lst (vs.set 0 (.ref p))))
        generalize upd H5 l (.lst (vs.set 0 (.ref p))) = H6 at hA6 k6 b6 ⊢
        refine s_cons <| s_set 4 nd <| w_take T hr1 <| w_var 0 rfl <| w_var 1 rfl ⟨b, (n : Nat), _, rfl, rfl, b6, by omega, by omega, small9 (Nat.lt_of_le_of_lt (show ((n : Nat) : Int).natAbs ≤ 4 by omega) (by decide +kernel)), fun at' H7 a0 a1 b7 k7 => ?_⟩
        have cB : GM.AllCd 6 60 (A.set 0 A[1]) := allCd_set cA (cA _ (List.getElem_mem h1A))
        have wB : GM.Wd n (A.set 0 A[1]) := wd_set wA hw1
        have lB : (A.set 0 A[1]).length = n := by rw [List.length_set]; exact lA
        have hA7 := hA6.kp b6 k7
        have k77 := k6.trans k7
        generalize A.set 0 A[1] = A' at cB wB lB hA7
        clear hA6 hvs ex eu hu ev ndv
        obtain ⟨_, _, vs, ev, ndv, hvs⟩ := id hA7
        have h0A : 0 < A'.length := by omega
        obtain ⟨x, ex, a, rfl, ab, al, aB, us, eu, hu⟩ := hvs.at_ (List.getElem?_eq_getElem h0A)
        have hw0 : A'[0].length = n := wB _ (List.getElem_mem h0A)
        have hat : at'.toNat < A'[0].length := by omega
        obtain ⟨y, ey, hy⟩ := hu.at_ (List.getElem?_eq_getElem hat)
        have cy := cB _ (List.getElem_mem h0A) _ (List.getElem_mem hat)
        have ly : RM.Lt (A'[0])[at'.toNat] 10 := cy.lt (by decide) (by decide) (by decide)
        refine s_one <| s_asg (pg_sub peW peW set_list) <| w_f2 (fn_plus T) T.g__law_plus (kept T.f__law_plus) hr <| w_ix ix_list <| w_ix ix_list <| w_var 2 rfl <| w_int ⟨l, vs, _, .ref a, rfl, rfl, SqL.of ev, atI_nat (j := 0) ex, w_var 4 rfl ⟨a, us, _, y, rfl, rfl, SqL.of eu, atI_int a0 ey, w_tup <| a_cons <| w_int <| a_cons <| w_op op_powW <| w_int <| w_int ⟨10, 25, rfl, rfl, ⟨by decide, by decide, by decide +kernel⟩, a_nil ⟨by show 2 ≤ sizeLine; decide, fun p2 hp2 => ?_⟩⟩⟩⟩
        have s8 := same_new (o := .tup [.int 1, .int (10 ^ (25 : Int).toNat)]) hp2
        have h8 : Tq K (upd H7 p2 (.tup [.int 1, .int (10 ^ (25 : Int).toNat)])) (.ref p2) (Rat.divInt 1 (10 ^ 25)) := by
          have e1 : (Rat.divInt 1 (10 ^ 25)).num = 1 := by decide +kernel
          have e2 : ((Rat.divInt 1 (10 ^ 25)).den : Int) = 10 ^ (25 : Int).toNat := by decide +kernel
          exact ⟨p2, rfl, by rw [upd_same, e1, e2]⟩
        have l8 : RM.Lt (Rat.divInt 1 (10 ^ 25)) 100 := ⟨by decide +kernel, by decide +kernel⟩
        refine ⟨_, _, hy.same s8, h8, RM.fit_of ly l8 (by decide), fun v9 H9 s9 h9 => ?_⟩
        have s79 := s8.trans s9
        refine w_ix ix_list <| w_var 2 rfl <| w_int ⟨l, vs, _, .ref a, rfl, rfl, SqL.of (s79 _ _ ev), atI_nat (j := 0) ex, w_var 4 rfl ⟨a, us, _, at'.toNat, rfl, rfl, s79 _ _ eu, ixN_int a0 (by rw [hu.1]; omega), A'.set 0 (A'[0].set at'.toNat ((A'[0])[at'.toNat] + Rat.divInt 1 (10 ^ 25))), _, _, _, _, rfl, ?_, ?_, ?_, by rw [List.length_set]; exact lB, wd_set wB (by rw [List.length_set]; exact hw0), allCd_set (fun r hr q hq => (cd_lift25 (cB r hr q hq)).mono (by decide)) (cd_set (fun q hq => (cd_lift25 (cB _ (List.getElem_mem h0A) q hq)).mono (by decide)) ?_)⟩⟩
        · intro a' o na e
          rw [upd_ne (ne_of_none e aB)]
          exact s79 _ _ (k77 a' o na e)
        · obtain ⟨x1, x2, x3, e, r⟩ := b7
          exact (show Bx _ b _ from ⟨x1, x2, x3, by rw [upd_ne (Ne.symm ab)]; exact s79 _ _ e, r⟩ : Bx _ b _).mono (by omega)
        · exact Rws.edit g1 g2 (s79 _ _ ev) ndv (hvs.mono fun v r ⟨a, e1, e2, e3, e4, h⟩ => ⟨a, e1, e2, e3, e4, h.same monS_tq s79⟩) ex (List.getElem?_eq_getElem h0A) (s79 _ _ eu) (hu.mono fun v q h => h.same s79) h9
        · have z : GM.Cd D0 6 (Rat.divInt 1 (10 ^ 25)) := ⟨6, by decide, by decide +kernel⟩
          exact ((cd_lift25 cy).add (by decide) z).mono (by decide)
      · exact ifF (decide_eq_false (fun z => hw2 (by injection z))) (s_nil no)
    · exact ifF (decide_eq_false (by omega)) (ifF rfl (s_nil no))
  rintro σ' H5 ⟨A, y4, y5, y6, y7, rfl, k5, b5, hA, lA, wA, cA⟩
  exact s_one <| s_ret <| w_var 2 rfl <| k l A H5 k5 b5 hA lA wA cA
end
end LW
namespace LW
open PySem PySem.Spec PyProof.Rows L2 PR
/-! ### ratios of a list -/
theorem mpa_hn {X : Cx} {scope : Scope} {elt : Expr} {σ : L2.St} {H1 : Hp} {Q : VK} {j : Nat} {xs : List V} {qs : GM.Row} (hq : Els (Tq X.K H1) xs qs) (hn : qs.length ≤ 1000) (lt : ∀ q ∈ qs, RM.Lt q 9000)
    (el : ∀ (x : V) (H' : Hp) (q : Rat) (Q' : VK), Tq X.K H' x q → RM.Lt q 9000 → (∀ u H3, Same H' H3 → Hn X.K H3 u q → Q' u H3) → Be X scope elt ((wipe σ [j]).set j (some x)) H' Q')
    (k : ∀ l' H', H1 l' = none → Same H1 H' → LsAt (Hn X.K) H' l' qs → Q (.ref l') H') : MpA X scope elt xs.length (goL j σ xs) H1 Q := by
  refine ⟨by rw [hq.1]; exact hn, fun D hD => ⟨fun i y H => ∃ q, qs[i]? = some q ∧ Hn X.K H y q, fun i y H H' kd ⟨q, e, h⟩ => ⟨q, e, monD_hn _ _ _ _ kd h⟩, fun i τ H' acc hi ⟨x, ex, eτ⟩ s1 hd => ?_, fun zs H' s1 hd hz hR => ?_⟩⟩
  · subst eτ
    obtain ⟨q, eq, hq'⟩ := hq.get ex
    exact el x H' q _ (hq'.same s1) (lt q (List.mem_of_getElem? eq)) fun u H3 s3 h3 => ⟨s3, q, eq, h3⟩
  · refine k D H' hD s1 ⟨zs, hd, Els.of (by rw [hz, hq.1]) fun i y e q eq => ?_⟩
    obtain ⟨q', e1, h'⟩ := hR i y e
    rw [e1] at eq
    cases eq
    exact h'
section
variable {P : Program} {w : World} {K : PySem.W.Frag} {mg : Str → Option Value} {base : Heap}
/-! ### handed -/
def spHanded (K : PySem.W.Frag) : Sp := fun vs H Q _ => ∃ (a : Addr) (A : List GM.Row), vs = [.ref a] ∧ LsAt (Ls (Tq K)) H a A ∧ A.length ≤ 1000 ∧ (∀ r ∈ A, r.length ≤ 1000 ∧ ∀ q ∈ r, RM.Lt q 9000) ∧ ∀ l H', H l = none → Same H H' → LsAt (LsN H l (Hn K)) H' l A → Q (.ref l) H'
theorem sc_handed : FnScope ["_law_lines", "_law_x", "_law_row_here"] ["_law_lines"] (defScope s__law_handed) := ⟨rfl, rfl, rfl, by decide +kernel, rfl, by decide +kernel, by decide +kernel⟩
theorem fn_handed (T : Tx K mg) : FnR P w K mg base (L2.CX P w) 6 (He.ga K "_law_handed") (spHanded K) := by
  refine fnr T.f__law_handed sc_handed (fun vs H Q E h => ?_) (fun _ _ _ _ _ _ us hl => match us, hl with | [_], _ => rfl) fun cdv A outer s H vs Q E hr h => ?_
  · obtain ⟨a, _, rfl, _⟩ := h
    rfl
  obtain ⟨a, A, rfl, ⟨xs, ea, hx⟩, hn, lt, k⟩ := h
  have nd := sc_handed.nd
  refine s_one <| s_ret <| w_mapl 2 nd <| w_var 0 rfl <| lpL ⟨a, xs, rfl, SqL.of ea, by rw [hx.1]; exact hn, fun D hD => ⟨fun i y H' => ∃ r l, A[i]? = some r ∧ y = .ref l ∧ H l = none ∧ l ≠ D ∧ LsAt (Hn K) H' l r, fun i y H1 H' kd ⟨r, l, e1, e2, e3, e4, us, h1, h2⟩ => ⟨r, l, e1, e2, e3, e4, us, kd.2 _ _ e4 h1, h2.mono fun v q h => monD_hn _ _ _ _ kd h⟩, fun i τ H' acc hi ⟨x, ex, eτ⟩ s1 hd => ?_, fun zs H' s1 hd hz hR => ?_⟩⟩
  · subst eτ
    obtain ⟨r, er, l, rfl, us, eu, hu⟩ := hx.get ex
    obtain ⟨l1, l2⟩ := lt r (List.mem_of_getElem? er)
    refine fun s0 H0 C cl fp => w_mapl 1 nd <| w_var 2 rfl <| lpL ⟨l, us, rfl, SqL.of (s1 _ _ eu), mpa_hn (hu.mono fun v q h => h.same s1) l1 l2 (fun x _ q _ hq lq kk => fun _ _ _ _ _ => w_call (fn_lratio T) hr T.g__law_ratio (kept T.f__law_ratio) passL <| a_cons <| w_var 1 rfl <| a_nil ⟨x, q, rfl, hq, lq, kk⟩) fun l' H2 hl' s2 h2 => ⟨s2, r, l', er, rfl, none_of s1 hl', (fun z => by rw [z, hd] at hl'; cases hl'), h2⟩⟩
  · refine k D H' hD s1 ⟨zs, hd, Els.of (by rw [hz, hx.1]) fun i y e r er => ?_⟩
    obtain ⟨r', l, e1, e2, e3, e4, h'⟩ := hR i y e
    rw [e1] at er
    cases er
    exact ⟨l, e2, e3, e4, h'⟩
/-! ### refused -/
def spRefused (K : PySem.W.Frag) : Sp := fun vs H Q _ => ∃ (a b : Addr) (A : List GM.Row) (rs : GM.Row) (z : Nat), vs = [.ref a, .ref b] ∧ LsAt (Ls (Nm K)) H a A ∧ LsAt (Nm K) H b rs ∧ rs.length = A.length ∧ A.length ≤ 200 ∧ GM.Wd A.length A ∧
  GM.AllB z (GM.aug A (GM.cols rs)) ∧ GM.AllB z (GM.aug A (GM.unit A.length)) ∧ 2 ^ A.length * (z + 1) ≤ 4000 ∧ GM.sol A rs = none ∧ GM.inv A = none ∧ ∀ l H', Same H H' → H' l = some (.lst [.str "solved", .str "inverse"]) → Q (.ref l) H'
theorem sc_refused : FnScope ["_law_lines", "_law_right_told", "_law_found"] ["_law_lines", "_law_right_told"] (defScope s__law_refused) := ⟨rfl, rfl, rfl, by decide +kernel, rfl, by decide +kernel, by decide +kernel⟩
theorem fn_refused (T : Tx K mg) : FnR P w K mg base (L2.CX P w) 9 (He.ga K "_law_refused") (spRefused K) := by
  refine fnr T.f__law_refused sc_refused (fun vs H Q E h => ?_) (fun _ _ _ _ _ _ us hl => match us, hl with | [_, _], _ => rfl) fun cdv A outer s H vs Q E hr h => ?_
  · obtain ⟨a, b, _, _, _, rfl, _⟩ := h
    rfl
  obtain ⟨a, b, A, rs, z, rfl, ⟨xs, ea, hx⟩, hb, hl, hn, hw, hB, hU, hz, e1, e2, k⟩ := h
  have nd := sc_refused.nd
  refine s_cons <| s_set 2 nd <| w_lst <| a_nil ⟨Nat.zero_le _, fun f hf => ?_⟩
  have s0 : Same H (upd H f (.lst [])) := same_new hf
  have ef : upd H f (.lst []) f = some (.lst []) := upd_same
  generalize upd H f (.lst []) = H0 at s0 ef ⊢
  refine s_cons (s_try1 ⟨rfl, by decide, .inl T.g_BadSystem⟩ takesX fun pn xe tk ps => ?_)
  refine s_one <| s_expr <| w_callA (E := fun cls dd H' => cls = .ref (He.ga K "BadSystem") ∧ Same H0 H') (fn_solved T) hr T.g_solved (kept T.f_solved) (passAt tk ?_) <| a_cons <| w_var 0 rfl <| a_cons <| w_var 1 rfl <| a_nil ⟨false, a, b, xs, A, rs, z, rfl, SqL.of (s0 _ _ ea), hx.mono fun v r h => monS_ls monS_nm _ _ _ _ s0 h, hb.same monS_nm s0, hl, hn, hw, hB, hz, (fun x e => by rw [e1] at e; cases e), fun _ H' s1 => ⟨rfl, s1⟩⟩
  rintro cls dd H1 ⟨rfl, s1⟩
  refine ⟨true, T.xm_BadSystem, fun _ aa hn' oe pn hz' hf' => ?_, fun e => nomatch e⟩
  refine s_one <| s_expr <| we_of (pe_bm PySem.F.plainAttrs_list PySem.F.slot_list_append PySem.F.type_list_append mt_append peW paW) <| w_var 2 rfl ⟨.inl ⟨rfl, _, SqL.of (s1 _ _ ef)⟩, a_cons <| w_str <| a_nil ⟨f, [], _, rfl, rfl, s1 _ _ ef, by decide, ?_⟩⟩
  have s2 : Same H (upd H1 f (.lst ([] ++ [.str "solved"]))) := fun a' o e => by
    rw [upd_ne (ne_of_none e hf)]
    exact s1 _ _ (s0 _ _ e)
  have ef2 : upd H1 f (.lst ([] ++ [.str "solved"])) f = some (.lst [.str "solved"]) := upd_same
  generalize upd H1 f (.lst ([] ++ [.str "solved"])) = H2 at s2 ef2 ⊢
  refine s_cons (s_try1 ⟨rfl, by decide, .inl T.g_BadSystem⟩ takesX fun pn xe tk ps => ?_)
  refine s_one <| s_expr <| w_callA (E := fun cls dd H' => cls = .ref (He.ga K "BadSystem") ∧ Same H2 H') (fn_inverse T) hr T.g_inverse (kept T.f_inverse) (passAt tk ?_) <| a_cons <| w_var 0 rfl <| a_nil ⟨a, A, z, rfl, LsAt.same (monS_ls monS_nm) ⟨xs, ea, hx⟩ s2, hn, hw, hU, hz, (fun x e => by rw [e2] at e; cases e), fun _ H' s1 => ⟨rfl, s1⟩⟩
  rintro cls dd H3 ⟨rfl, s3⟩
  refine ⟨true, T.xm_BadSystem, fun _ aa hn' oe pn hz' hf' => ?_, fun e => nomatch e⟩
  refine s_one <| s_expr <| we_of (pe_bm PySem.F.plainAttrs_list PySem.F.slot_list_append PySem.F.type_list_append mt_append peW paW) <| w_var 2 rfl ⟨.inl ⟨rfl, _, SqL.of (s3 _ _ ef2)⟩, a_cons <| w_str <| a_nil ⟨f, _, _, rfl, rfl, s3 _ _ ef2, by decide, ?_⟩⟩
  refine s_one <| s_ret <| w_var 2 rfl <| k f _ (fun a' o e => ?_) upd_same
  rw [upd_ne (ne_of_none e hf)]
  exact s3 _ _ (s2 _ _ e)
/-! ### least -/
def spLLeast (K : PySem.W.Frag) : Sp := fun vs H Q _ => ∃ (a : Addr) (qs : GM.Row), vs = [.ref a] ∧ LsAt (Tq K) H a qs ∧ qs ≠ [] ∧ qs.length ≤ 1000 ∧ (∀ q ∈ qs, RM.Lt q 4000) ∧ ∀ H', Same H H' → Q (.bl true) H'
theorem sc_lleast : FnScope ["_law_numbers", "_law_at", "_law_x"] ["_law_numbers"] (defScope s__law_least) := ⟨rfl, rfl, rfl, by decide +kernel, rfl, by decide +kernel, by decide +kernel⟩
theorem got_none {keep : Nat → Bool} {n : Nat} {R : Nat → V → Hp → Prop} {ys : List V} {H : Hp} (g : Got keep n R ys H) (h : ∀ i, i < n → keep i = false) : ys = [] := by
  have e : (List.range n).filter keep = [] := List.filter_eq_nil_iff.mpr fun i hi => by rw [h i (List.mem_range.mp hi)]; exact Bool.false_ne_true
  have g1 := g.1
  rw [e] at g1
  exact List.length_eq_zero_iff.mp g1
theorem fn_lleast (T : Tx K mg) : FnR P w K mg base (L2.CX P w) 7 (He.ga K "_law_least") (spLLeast K) := by
  refine fnr T.f__law_least sc_lleast (fun vs H Q E h => ?_) (fun _ _ _ _ _ _ us hl => match us, hl with | [_], _ => rfl) fun cdv A outer s H vs Q E hr h => ?_
  · obtain ⟨a, _, rfl, _⟩ := h
    rfl
  obtain ⟨a, qs, rfl, ⟨xs, ea, hx⟩, hne, hn, lt, k⟩ := h
  have nd := sc_lleast.nd
  have hr1 : Room 1 _ := hr.mono (show 1 ≤ 6 by decide)
  refine s_cons <| s_set 1 nd <| w_call (fn_least_place T) hr T.g_least_place (kept T.f_least_place) passL <| a_cons <| w_mapl 2 nd <| w_var 0 rfl <| lpL ⟨a, xs, rfl, SqL.of ea, mpa_hn hx hn (fun q hq => (lt q hq).mono (by decide)) (fun x _ q _ hq lq kk => fun _ _ _ _ _ => w_call (fn_lratio T) (hr.mono (show 5 ≤ 6 by decide)) T.g__law_ratio (kept T.f__law_ratio) passL <| a_cons <| w_var 2 rfl <| a_nil ⟨x, q, rfl, hq, lq, kk⟩) fun l H1 hl s1 h1 => a_nil ⟨l, qs, rfl, ?_, hn, lt, fun e => absurd e hne, fun m hm H2 s2 => ?_⟩⟩
  · obtain ⟨zs, ez, hz⟩ := h1
    exact ⟨zs, ez, hz.mono fun v q h => nm_hn h⟩
  obtain ⟨m1, m2, m3⟩ := hm
  have st := s1.trans s2
  obtain ⟨u, eu, hu⟩ := hx.at_ (List.getElem?_eq_getElem m1)
  have em : qs.getD m 0 = qs[m] := getD_some (List.getElem?_eq_getElem m1)
  refine s_cons <| s_if <| t_bool <| b_or <| t_cmp op_isN <| w_var 1 rfl <| w_non ⟨rfl, _, rfl, ifF (decide_eq_false (fun z => nomatch z)) ?_⟩
  refine b_or1 <| t_cmp (op_neD hr.units) <| w_mapl 2 nd <| w_slT sl_list <| w_var 0 rfl <| w_var 1 rfl ⟨(m : Nat), rfl, a, xs, rfl, SqL.of (st _ _ ea), fun p hp => lpLF ⟨p, _, rfl, SqL.of upd_same, ?_⟩⟩
  rw [cut_to]
  have s3 := same_new (o := .lst (xs.take m)) hp
  have lm : (xs.take m).length = m := by rw [List.length_take, hx.1]; omega
  refine ⟨by rw [lm]; omega, fun D hD => ⟨fun i => !decide (qs.getD m 0 < qs.getD i 0), fun i y H => True, fun i y H H' kd h => trivial, fun i τ H' acc hi ⟨x, ex, eτ⟩ s4 hd => ?_, fun zs H4 s4 hd g => ?_⟩⟩
  · subst eτ
    rw [lm] at hi
    rw [List.getElem?_take_of_lt hi] at ex
    obtain ⟨q, eq, hq⟩ := hx.get ex
    have s5 := st.trans (s3.trans s4)
    have eqi : qs.getD i 0 = q := getD_some eq
    refine fun s0 H0 C cl fp => i_one <| t_not <| t_val <| w_call (fn_less T) hr1 T.g__law_less (kept T.f__law_less) passL <| a_cons <| w_ix ix_list <| w_var 0 rfl <| w_var 1 rfl ⟨a, xs, _, u, rfl, rfl, SqL.of (s5 _ _ ea), atI_nat eu, a_cons <| w_var 2 rfl <| a_nil ⟨u, x, qs[m], q, rfl, hu.same s5, hq.same s5, RM.fit_of (lt _ (List.getElem_mem m1)) (lt q (List.mem_of_getElem? eq)) (by decide), _, rfl, ?_, fun _ _ e => e, fun _ s0 H0 C cl fp => w_var 2 rfl ⟨fun _ _ e => e, trivial⟩⟩⟩
    show (!decide (qs[m] < q)) = (!decide (qs.getD m 0 < qs.getD i 0))
    rw [eqi, em]
  have ez := got_none g fun i hi => by
    rw [lm] at hi
    rw [decide_eq_true (m3 i hi)]
    rfl
  subst ez
  refine w_lst <| a_nil ⟨Nat.zero_le _, fun e he => ⟨_, _, .lst (SqL.of (same_new he _ _ hd)) .nil, .lst (SqL.of upd_same) .nil, rfl, rfl, _, rfl, ifF rfl (s_nil ?_)⟩⟩
  have s5 : Same H (upd H4 e (.lst [])) := st.trans (s3.trans (s4.trans (same_new he)))
  change Wb _ _ _ _ (upd H4 e (.lst []))
  generalize upd H4 e (.lst []) = H5 at s5 ⊢
  refine s_one <| s_ret <| w_cmp (op_eqD hr.units) <| w_mapl 2 nd <| w_var 0 rfl <| lpLF ⟨a, xs, rfl, SqL.of (s5 _ _ ea), by rw [hx.1]; exact hn, fun D hD => ⟨fun i => decide (qs.getD i 0 < qs.getD m 0), fun i y H => True, fun i y H H' kd h => trivial, fun i τ H' acc hi ⟨x, ex, eτ⟩ s6 hd => ?_, fun zs H6 s6 hd g => ?_⟩⟩
  · subst eτ
    obtain ⟨q, eq, hq⟩ := hx.get ex
    have s7 := s5.trans s6
    have eqi : qs.getD i 0 = q := getD_some eq
    refine fun s0 H0 C cl fp => i_one <| t_val <| w_call (fn_less T) hr1 T.g__law_less (kept T.f__law_less) passL <| a_cons <| w_var 2 rfl <| a_cons <| w_ix ix_list <| w_var 0 rfl <| w_var 1 rfl ⟨a, xs, _, u, rfl, rfl, SqL.of (s7 _ _ ea), atI_nat eu, a_nil ⟨x, u, q, qs[m], rfl, hq.same s7, hu.same s7, RM.fit_of (lt q (List.mem_of_getElem? eq)) (lt _ (List.getElem_mem m1)) (by decide), _, rfl, ?_, fun _ _ e => e, fun _ s0 H0 C cl fp => w_var 2 rfl ⟨fun _ _ e => e, trivial⟩⟩⟩
    show decide (q < qs[m]) = decide (qs.getD i 0 < qs.getD m 0)
    rw [eqi, em]
  have ez := got_none g fun i hi => by
    rw [hx.1] at hi
    have z := m2 i hi
    exact decide_eq_false (by grind)
  subst ez
  exact w_lst <| a_nil ⟨Nat.zero_le _, fun e he => ⟨_, _, .lst (SqL.of (same_new he _ _ hd)) .nil, .lst (SqL.of upd_same) .nil, rfl, rfl, k _ (s5.trans (s6.trans (same_new he)))⟩⟩
end
end LW
namespace LW
open PySem PySem.Spec PyProof.Rows L2 PR
/-! ### how far sums go -/
theorem rowB_cd2 {s : Nat} {r : GM.Row} (h : GM.RowB s r) : ∃ D : Nat, 0 < D ∧ D < 2 ^ s ∧ ∀ q ∈ r, GM.Cd D (2 ^ s) q := by
  obtain ⟨d, d0, d1, h⟩ := h
  refine ⟨d.natAbs, by omega, d1, fun q hq => ?_⟩
  obtain ⟨n, n1, rfl⟩ := h q hq
  by_cases hd : 0 < d
  · exact ⟨n, by omega, by rw [show ((d.natAbs : Nat) : Int) = d by omega]⟩
  · refine ⟨-n, by omega, ?_⟩
    rw [show ((d.natAbs : Nat) : Int) = -d by omega, Rat.divInt_eq_divInt_iff d0 (by omega)]
    grind
theorem sums_cd {D M E N t : Nat} {r x : GM.Row} (hD : 0 < D) (hE : 0 < E) (hr : ∀ q ∈ r, GM.Cd D M q) (hx : ∀ q ∈ x, GM.Cd E N q) (hl : r.length ≤ 4) (d1 : D < 2 ^ t) (m1 : M < 2 ^ t) (e1 : E < 2 ^ t) (n1 : N < 2 ^ t) (h1 : D * E < 2 ^ t) (h2 : 4 * (M * N) < 2 ^ t) (ht : t ≤ 4500) : SumsN r x := fun i hi => by
  have p : ∀ c, GM.Cd (D * E) (M * N) (r.getD c 0 * x.getD c 0) := fun c => (GM.cd_at hr c).mul (GM.cd_at hx c)
  have hDE : 0 < D * E := Nat.mul_pos hD hE
  refine ⟨RM.fit_of ((GM.cd_at hr i).lt hD d1 m1) ((GM.cd_at hx i).lt hE e1 n1) (by omega), RM.fit_of ((GM.cd_sum hDE i fun c _ => p c).lt hDE h1 ?_) ((p i).lt hDE h1 (by omega)) (by omega)⟩
  exact Nat.lt_of_le_of_lt (Nat.mul_le_mul_right _ (by omega)) h2
theorem lt_at {a : Nat} {r : GM.Row} (h : ∀ q ∈ r, RM.Lt q a) {i : Nat} (hi : i < r.length) : RM.Lt (r.getD i 0) a := by
  rw [getD_some (List.getElem?_eq_getElem hi)]
  exact h _ (List.getElem_mem hi)
theorem sums_lt {a b : Nat} {r x : GM.Row} (hr : ∀ q ∈ r, RM.Lt q a) (hx : ∀ q ∈ x, RM.Lt q b) (hl : r.length ≤ 4) (hlx : x.length = r.length) (h : 4 * (a + b + 1) + 1 ≤ 9000) : SumsN r x := fun i hi => by
  have s : ∀ k, k ≤ r.length → RM.Lt (GM.sumN k fun c => r.getD c 0 * GM.vec x c) ((a + b + 1) * k + 1) := by
    intro k
    induction k with
    | zero => intro _; rw [Nat.mul_zero]; show RM.Lt (0 : Rat) (0 + 1); exact ⟨by decide, by decide⟩
    | succ k ih =>
      intro hk
      have z := RM.lt_add (ih (by omega)) (RM.lt_mul (lt_at hr (show k < r.length by omega)) (lt_at hx (show k < x.length by omega)))
      exact z.mono (by rw [Nat.mul_succ]; omega)
  have l1 := lt_at hr hi
  have l2 := lt_at hx (show i < x.length by omega)
  refine ⟨RM.fit_of l1 l2 (by omega), RM.fit_of (s i (by omega)) (RM.lt_mul l1 l2) ?_⟩
  have : (a + b + 1) * i ≤ (a + b + 1) * 3 := Nat.mul_le_mul_left _ (by omega)
  omega
theorem sumR_take {ps qs : GM.Row} (hl : ps.length = qs.length) : ∀ i, i ≤ ps.length → sumR ((prods ps qs).take i) = GM.sumN i fun c => ps.getD c 0 * GM.vec qs c
  | 0, _ => rfl
  | i + 1, hi => by
    have e : (prods ps qs)[i]? = some (ps.getD i 0 * qs.getD i 0) := by
      unfold prods
      rw [List.getElem?_zipWith, List.getElem?_eq_getElem (show i < ps.length by omega), List.getElem?_eq_getElem (show i < qs.length by omega), getD_some (List.getElem?_eq_getElem (show i < ps.length by omega)), getD_some (List.getElem?_eq_getElem (show i < qs.length by omega))]
    rw [take_snoc e, sumR_snoc, sumR_take hl i (by omega)]
    rfl
theorem sums_of {ps qs : GM.Row} (h : SumsN ps qs) (hl : ps.length = qs.length) (lp : ∀ p ∈ ps, RM.Lt p 9000) : Sums ps qs := fun i p q e1 e2 => by
  have hi : i < ps.length := (List.getElem?_eq_some_iff.mp e1).1
  obtain ⟨f1, f2⟩ := h i hi
  rw [getD_some e1, getD_some e2] at f1 f2
  rw [sumR_take hl i (by omega)]
  exact ⟨f1, lp p (List.mem_of_getElem? e1), f2⟩
/-! ### the numbers of the law -/
section
variable {A : List GM.Row} {x o : GM.Row} {n : Nat}
def C6 (x : GM.Row) : Prop := ∀ q ∈ x, GM.Cd 6 60 q
theorem C6.lt (h : C6 x) : ∀ q ∈ x, RM.Lt q 10 := fun q hq => (h q hq).lt (by decide) (by decide) (by decide)
theorem cA_lt (h : GM.AllCd D0 M0 A) : ∀ r ∈ A, ∀ q ∈ r, RM.Lt q 100 := fun r hr q hq => (h r hr q hq).lt (by decide) (by decide +kernel) (by decide +kernel)
theorem sums_A (h : GM.AllCd D0 M0 A) (hx : C6 x) (w : GM.Wd n A) (hn : n ≤ 4) : ∀ r ∈ A, SumsN r x := fun r hr => sums_cd (t := 200) (D := D0) (M := M0) (E := 6) (N := 60) (by decide) (by decide) (h r hr) hx (by rw [w r hr]; exact hn) (by decide +kernel) (by decide +kernel) (by decide) (by decide) (by decide +kernel) (by decide +kernel) (by decide)
theorem sums_66 (hx : C6 x) (ho : C6 o) (hn : x.length ≤ 4) : SumsN x o := sums_cd (t := 200) (D := 6) (M := 60) (E := 6) (N := 60) (by decide) (by decide) hx ho hn (by decide) (by decide) (by decide) (by decide) (by decide) (by decide) (by decide)
def D1 : Nat := D0 * 6
def M1 : Nat := 4 * (M0 * 60)
theorem cd_mul (h : GM.AllCd D0 M0 A) (hx : C6 x) (w : GM.Wd n A) (hn : n ≤ 4) : ∀ q ∈ GM.mulV A x, GM.Cd D1 M1 q := fun q hq => by
  obtain ⟨r, hr, rfl⟩ := List.mem_map.mp hq
  rw [GM.dot_sum]
  refine GM.Cd.mono (GM.cd_sum (D := D1) (B := M0 * 60) (by decide) r.length fun c _ => (GM.cd_at (h r hr) c).mul (GM.cd_at hx c)) ?_
  exact Nat.mul_le_mul_right _ (by rw [w r hr]; exact hn)
theorem mul_lt (h : GM.AllCd D0 M0 A) (hx : C6 x) (w : GM.Wd n A) (hn : n ≤ 4) : ∀ q ∈ GM.mulV A x, RM.Lt q 9000 := fun q hq => ((cd_mul h hx w hn q hq).lt (s := 100) (by decide) (by decide +kernel) (by decide +kernel)).mono (by decide)
theorem allB_cd {D M : Nat} {B : List GM.Row} (hD : 0 < D) (h : GM.AllCd D M A) (k : GM.AllCd D M B) (d1 : D < 2 ^ 100) (m1 : M < 2 ^ 100) : GM.AllB 100 (GM.aug A B) := fun r hr => by
  obtain ⟨a, ha, b, hb, rfl⟩ := GM.mem_zipWith hr
  refine GM.rowB_cd hD (fun q hq => ?_) d1 m1
  rcases List.mem_append.mp hq with hq | hq
  · exact h a ha q hq
  · exact k b hb q hq
theorem cols_cd {D M : Nat} (h : ∀ q ∈ o, GM.Cd D M q) : GM.AllCd D M (GM.cols o) := fun r hr q hq => by
  obtain ⟨y, hy, rfl⟩ := List.mem_map.mp hr
  rw [List.mem_singleton.mp hq]
  exact h y hy
theorem allB_mul (h : GM.AllCd D0 M0 A) (hx : C6 x) (w : GM.Wd n A) (hn : n ≤ 4) : GM.AllB 100 (GM.aug A (GM.cols (GM.mulV A x))) :=
  allB_cd (D := D1) (M := M1) (by decide) (fun r hr q hq => ((h r hr q hq).lift (E := 6) (by decide) (by decide)).mono (by decide +kernel)) (cols_cd (cd_mul h hx w hn)) (by decide +kernel) (by decide +kernel)
theorem allB_c6 (h : GM.AllCd D0 M0 A) (ho : C6 o) : GM.AllB 100 (GM.aug A (GM.cols o)) :=
  allB_cd (D := D0) (M := M0) (by decide) h (cols_cd fun q hq => (cd_lift25 (ho q hq)).mono (by decide +kernel)) (by decide +kernel) (by decide +kernel)
theorem allB_unit (h : GM.AllCd D0 M0 A) (n : Nat) : GM.AllB 100 (GM.aug A (GM.unit n)) := by
  refine allB_cd (D := D0) (M := M0) (by decide) h (fun r hr q hq => ?_) (by decide +kernel) (by decide +kernel)
  obtain ⟨p, _, rfl⟩ := List.mem_map.mp hr
  obtain ⟨k, _, rfl⟩ := List.mem_map.mp hq
  by_cases hk : k = p
  · rw [if_pos hk]
    exact ⟨D0, by decide +kernel, by decide +kernel⟩
  · rw [if_neg hk]
    exact GM.Cd.zero _ _
theorem pow_ok (hn : n ≤ 4) : 2 ^ n * (100 + 1) ≤ 4000 := by
  have h : 2 ^ n ≤ 2 ^ 4 := Nat.pow_le_pow_right (by decide) hn
  omega
theorem gr_ok (hn : n ≤ 4) : GM.gr 100 n ≤ 1615 := by
  have h := GM.gr_eq 100 n
  have h2 : 2 ^ n ≤ 2 ^ 4 := Nat.pow_le_pow_right (by decide) hn
  omega
theorem sol_lt (h : GM.AllCd D0 M0 A) (ho : C6 o) (w : GM.Wd A.length A) (hn : A.length ≤ 4) (hl : o.length = A.length) (e : GM.sol A o = some x) : ∀ q ∈ x, RM.Lt q 1615 := by
  unfold GM.sol at e
  cases hM : GM.red (GM.aug A (GM.cols o)) with
  | none => rw [hM] at e; cases e
  | some M =>
    rw [hM] at e
    cases e
    have la : (GM.aug A (GM.cols o)).length = A.length := GM.len_aug (by rw [GM.len_cols, hl])
    have wa := GM.wd_aug w (GM.wd_cols o)
    have O := GM.ok_redN (n := A.length) (m := A.length + 1) (by omega) la wa A.length M (Nat.le_refl _) (by rw [← hM]; unfold GM.red; rw [la])
    have B := GM.allB_redN (n := A.length) (m := A.length + 1) (by omega) la wa (allB_c6 h ho) A.length M (Nat.le_refl _) (by rw [← hM]; unfold GM.red; rw [la])
    intro q hq
    obtain ⟨r, hr, rfl⟩ := List.mem_map.mp hq
    have lr : r.length = A.length + 1 := O.wd r hr
    rw [getD_some (List.getElem?_eq_getElem (show A.length < r.length by omega))]
    exact ((B r hr).lt _ (List.getElem_mem _)).mono (gr_ok hn)
theorem inv_sums {W : List GM.Row} (h : GM.AllCd D0 M0 A) (ho : C6 o) (w : GM.Wd A.length A) (hn : A.length ≤ 4) (e : GM.inv A = some W) : ∀ r ∈ W, SumsN r o := by
  unfold GM.inv at e
  cases hM : GM.red (GM.aug A (GM.unit A.length)) with
  | none => rw [hM] at e; cases e
  | some M =>
    rw [hM] at e
    cases e
    have la : (GM.aug A (GM.unit A.length)).length = A.length := GM.len_aug (by rw [GM.len_unit])
    have wa := GM.wd_aug w (GM.wd_unit A.length)
    have O := GM.ok_redN (n := A.length) (m := A.length + A.length) (by omega) la wa A.length M (Nat.le_refl _) (by rw [← hM]; unfold GM.red; rw [la])
    have B := GM.allB_redN (n := A.length) (m := A.length + A.length) (by omega) la wa (allB_unit h A.length) A.length M (Nat.le_refl _) (by rw [← hM]; unfold GM.red; rw [la])
    intro r hr
    obtain ⟨r', hr', rfl⟩ := List.mem_map.mp hr
    obtain ⟨D, d0, d1, hc⟩ := rowB_cd2 ((B r' hr').mono (gr_ok hn))
    have lr : r'.length = A.length + A.length := O.wd r' hr'
    have p3 : (2 : Nat) ^ 1700 = 2 ^ 1615 * 2 ^ 85 := by rw [← Nat.pow_add]
    have t85 : (1000 : Nat) ≤ 2 ^ 85 := by decide
    have big : ∀ c, c ≤ 1000 → 2 ^ 1615 * c ≤ 2 ^ 1700 := fun c hc' => by rw [p3]; exact Nat.mul_le_mul_left _ (by omega)
    have big2 : ∀ c, c < 1000 → 2 ^ 1615 * c < 2 ^ 1700 := fun c hc' => by rw [p3]; exact Nat.mul_lt_mul_of_pos_left (by omega) (Nat.pow_pos (by decide))
    refine sums_cd (t := 1700) (D := D) (M := 2 ^ 1615) (E := 6) (N := 60) d0 (by decide) (fun q hq => hc q (List.mem_of_mem_drop hq)) ho (by rw [List.length_drop]; omega) ?_ ?_ ?_ ?_ ?_ ?_ (by decide)
    · exact Nat.lt_of_lt_of_le d1 (by have := big 1 (by decide); omega)
    · have := big2 1 (by decide); omega
    · exact Nat.lt_of_lt_of_le (show 6 < 2 ^ 85 by decide) (Nat.pow_le_pow_right (by decide) (by decide))
    · exact Nat.lt_of_lt_of_le (show 60 < 2 ^ 85 by decide) (Nat.pow_le_pow_right (by decide) (by decide))
    · exact Nat.lt_of_lt_of_le (Nat.mul_lt_mul_of_pos_right d1 (by decide)) (big 6 (by decide))
    · have := big2 240 (by decide)
      omega
end
end LW
namespace LW
open PySem PySem.Spec PyProof.Rows L2 PR
theorem LsAt.kd {α : Type} {D l : Addr} {R : Hp → V → α → Prop} {H H' : Hp} {as : List α} (hR : MonD D R) (h : LsAt R H l as) (n : l ≠ D) (k : KD D H H') : LsAt R H' l as := by
  obtain ⟨xs, e, h⟩ := h
  exact ⟨xs, k.2 _ _ n e, h.mono fun v a r => hR H H' v a k r⟩
/-- what the law holds: lines, numbers, right side, and both as they are handed over -/
structure Sit (K : PySem.W.Frag) (b : Addr) (H : Hp) (l pn pt ph pg : Addr) (A : List GM.Row) (x : GM.Row) : Prop where
  lb : l ≠ b
  nb : pn ≠ b
  tb : pt ≠ b
  hb : ph ≠ b
  gb : pg ≠ b
  hA : LsAt (LsO b (Tq K)) H l A
  hx : LsAt (Tq K) H pn x
  ht : LsAt (Tq K) H pt (GM.mulV A x)
  hh : LsAt (LsO b (Hn K)) H ph A
  hg : LsAt (Hn K) H pg (GM.mulV A x)
section
variable {K : PySem.W.Frag} {b : Addr} {H H' : Hp} {l pn pt ph pg : Addr} {A : List GM.Row} {x : GM.Row}
theorem Sit.same (S : Sit K b H l pn pt ph pg A x) (s : Same H H') : Sit K b H' l pn pt ph pg A x :=
  ⟨S.lb, S.nb, S.tb, S.hb, S.gb, S.hA.same (monS_lsO monS_tq) s, S.hx.same monS_tq s, S.ht.same monS_tq s, S.hh.same (monS_lsO monS_hn) s, S.hg.same monS_hn s⟩
theorem Sit.kp {N : Nat} (S : Sit K b H l pn pt ph pg A x) (y : Bx H b N) (k : Kp b H H') : Sit K b H' l pn pt ph pg A x :=
  have kd := y.kd k
  ⟨S.lb, S.nb, S.tb, S.hb, S.gb, LsAt.kd (monD_lsO monD_tq) S.hA S.lb kd, LsAt.kd monD_tq S.hx S.nb kd, LsAt.kd monD_tq S.ht S.tb kd, LsAt.kd (monD_lsO monD_hn) S.hh S.hb kd, LsAt.kd monD_hn S.hg S.gb kd⟩
theorem els_ls {α : Type} {D : Addr} {R : Hp → V → α → Prop} {l : Addr} {as : List (List α)} (h : LsAt (LsO D R) H l as) : LsAt (Ls R) H l as := by
  obtain ⟨xs, e, h⟩ := h
  exact ⟨xs, e, h.mono fun v a r => r.ls⟩
theorem els_nm {l : Addr} {qs : GM.Row} (h : LsAt (Hn K) H l qs) : LsAt (Nm K) H l qs := by
  obtain ⟨xs, e, h⟩ := h
  exact ⟨xs, e, h.mono fun v a r => nm_hn r⟩
theorem rows_nm {D l : Addr} {A : List GM.Row} (h : LsAt (LsO D (Hn K)) H l A) : LsAt (Ls (Nm K)) H l A := by
  obtain ⟨xs, e, h⟩ := h
  exact ⟨xs, e, h.mono fun v r ⟨a, e, _, g⟩ => ⟨a, e, els_nm g⟩⟩
end
section
variable {P : Program} {w : World} {K : PySem.W.Frag} {mg : Str → Option Value} {base : Heap}
theorem fq_solved (T : Tx K mg) : FnQ P w K mg base (L2.CX P w) 8 (He.ga K "solved") 0 ["rows", "right"] (fun _ zs H Q E => spSolved K zs H Q E) := by
  obtain ⟨fd, F⟩ := T.f_solved
  have F1 : FnOk P w K mg base (L2.CX P w) 8 (He.ga K "solved") fd ["rows", "right"] (spSolved K) := F.ok sc_solved len_solved fun cdv A outer s H vs Q E hr h => ⟨_, pbW, wb_solved T hr h⟩
  exact fnq_of F1 (kbn0 F 0 ["rows", "right"] (fun _ zs => zs) (fun _ r => r) fun _ _ _ _ _ _ us ws h1 h2 => match us, ws, h1, h2 with | [], [_, _], _, _ => rfl)
/-! ### equal handed numbers -/
def RtE (K : PySem.W.Frag) : Addr → Addr → Hp → Prop := fun a b H => ∃ q, Rt K H (.ref a) q ∧ Rt K H (.ref b) q
def DHn (K : PySem.W.Frag) : Eqv := fun x y H => DFlat x y H ∨ DIns (He.ga K "Ratio") (RtE K) x y H
theorem mon_dhn : Mon (DHn K) := Mon.or mon_flat (mon_ins fun a b H H' e ⟨q, h1, h2⟩ => ⟨q, h1.same e, h2.same e⟩)
theorem eqG_dhn {X : Cx} (T : Tx X.K X.mg) : EqG X 3 (DHn X.K) := EqG.or (eqG_flat.mono (by decide)) (eqG_insR (E := fun _ _ _ => False) (fn_eq T) (fun a b H ⟨q, h1, h2⟩ => ⟨.ref a, .ref b, q, some q, rfl, h1, .rat q h2, fun H' s => ⟨by rw [decide_eq_true rfl], s⟩⟩) T.d_Ratio_eq.at_ T.d_Ratio_eq.fn passL)
theorem dhn_of {H : Hp} {u v : V} {q : Rat} (h1 : Hn K H u q) (h2 : Hn K H v q) : DHn K u v H := by
  unfold Hn at h1 h2
  by_cases e : ev q = true
  · rw [if_pos e] at h1 h2
    subst h1 h2
    refine .inl ⟨rfl, rfl, ?_⟩
    show eqV (V.int q.num) (V.int q.num) = true
    unfold eqV
    simp
  · rw [if_neg e] at h1 h2
    obtain ⟨a, dx, rfl, e1⟩ := id h1
    obtain ⟨c, dy, rfl, e2⟩ := id h2
    exact .inr ⟨a, c, dx, dy, _, _, rfl, rfl, e1, e2, q, h1, h2⟩
theorem prs_hn {H : Hp} {xs ys : List V} {qs : GM.Row} (h1 : Els (Hn K H) xs qs) (h2 : Els (Hn K H) ys qs) : Prs (DHn K) xs ys H := ⟨by rw [h1.1, h2.1], fun i u v e1 e2 => by
  obtain ⟨q, eq, g1⟩ := h1.get e1
  exact dhn_of g1 (h2.2 i v q e2 eq)⟩
end
end LW
namespace LW
open PySem PySem.Spec PyProof.Rows L2 PR
section
variable {P : Program} {w : World} {K : PySem.W.Frag} {mg : Str → Option Value} {base : Heap}
/-- a tuple of pairs -/
def Tp (K : PySem.W.Frag) : Hp → V → GM.Row → Prop := fun H v r => ∃ tp us, v = .ref tp ∧ H tp = some (.tup us) ∧ Els (Tq K H) us r
theorem monS_tp {K : PySem.W.Frag} : MonS (Tp K) := fun H H' v r s ⟨tp, us, e1, e2, h⟩ => ⟨tp, us, e1, s _ _ e2, h.mono fun v q h => h.same s⟩
theorem monD_tp {K : PySem.W.Frag} {D : Addr} : MonD D (Tp K) := fun H H' v r k ⟨tp, us, e1, e2, h⟩ => ⟨tp, us, e1, k.2 _ _ (k.ne e2 (fun _ z => nomatch z)) e2, h.mono fun v q h => monD_tq _ _ _ _ k h⟩
theorem ne_dq (q : Rat) : (!PyData.eqv (dq q) (dq q)) = false := by rw [eqv_same (d := dq q) rfl]; rfl
def spLaw (K : PySem.W.Frag) : Sp := fun vs H Q _ => ∃ (a : Addr) (ns : List Int), vs = [.ref a] ∧ SqL K H a (ns.map V.int) ∧ ∀ H', Q (.bl true) H'
theorem sc_law : FnScope ["_law_script", "_law_k", "_law_box_here", "_law_size", "_law_lines", "_law_numbers", "_law_row_here", "_law_right_told", "_law_handed_here", "_law_given", "_law_other", "_law_back", "_law_told_here", "_law_j", "_law_x"] ["_law_script"] (defScope s_law) := ⟨rfl, rfl, rfl, by decide +kernel, rfl, by decide +kernel, by decide +kernel⟩
theorem ne_dqs (qs : GM.Row) : (!PyData.eqv (dqs qs) (dqs qs)) = false := by rw [eqv_same (shaped_dqs qs)]; rfl
theorem fn_law (T : Tx K mg) : FnR P w K mg base (L2.CX P w) 10 (He.ga K "law") (spLaw K) := by
  refine fnr T.f_law sc_law (fun vs H Q E h => ?_) (fun _ _ _ _ _ _ us hl => match us, hl with | [_], _ => rfl) fun cdv A outer s H vs Q E hr h => ?_
  · obtain ⟨a, ns, rfl, _⟩ := h
    rfl
  obtain ⟨a, ns, rfl, hl, kk⟩ := h
  have nd := sc_law.nd
  have hr8 := hr.mono (show 8 ≤ 9 by decide)
  have hr7 := hr.mono (show 7 ≤ 9 by decide)
  have hr6 := hr.mono (show 6 ≤ 9 by decide)
  have hr5 := hr.mono (show 5 ≤ 9 by decide)
  have hr4 := hr.mono (show 4 ≤ 9 by decide)
  have hr3 := hr.mono (show 3 ≤ 9 by decide)
  have hr2 := hr.mono (show 2 ≤ 9 by decide)
  have hr1 := hr.mono (show 1 ≤ 9 by decide)
  refine s_cons <| s_forr 1 (passes_of rfl) nd T.b_range <| w_callB (call_max2 rfl) T.b_max (by decide +kernel) <| a_cons <| w_int <| a_cons <| w_callB (call_min2 rfl) T.b_min (by decide +kernel) <| a_cons <| w_int <| a_cons <|
    w_callB call_len T.b_len (by decide +kernel) <| a_cons <| w_var 0 rfl <| a_nil ⟨_, (ns.map V.int).length, rfl, .inl ⟨_, hl, rfl⟩, a_nil ⟨2, _, rfl, a_nil ⟨1, _, rfl, ?_⟩⟩⟩
  obtain ⟨m, hm, hm2⟩ : ∃ m : Nat, (if (if ((ns.map V.int).length : Int) < 2 then ((ns.map V.int).length : Int) else 2) > 1 then (if ((ns.map V.int).length : Int) < 2 then ((ns.map V.int).length : Int) else 2) else 1) = (m : Int) ∧ m ≤ 2 :=
    ⟨((if (if ((ns.map V.int).length : Int) < 2 then ((ns.map V.int).length : Int) else 2) > 1 then (if ((ns.map V.int).length : Int) < 2 then ((ns.map V.int).length : Int) else 2) else 1) : Int).toNat, by split <;> split <;> omega, by split <;> split <;> omega⟩
  refine ⟨m, fun _ σ H' => ∃ z1 z2 z3 z4 z5 z6 z7 z8 z9 z10 z11 z12 z13 z14, σ = [some (.ref a), z1, z2, z3, z4, z5, z6, z7, z8, z9, z10, z11, z12, z13, z14] ∧ Same H H', congrArg V.int hm, by omega, ⟨_, _, _, _, _, _, _, _, _, _, _, _, _, _, rfl, Same.refl H⟩, ?_, ?_⟩
  · rintro j σ H0 hj ⟨z1, z2, z3, z4, z5, z6, z7, z8, z9, z10, z11, z12, z13, z14, rfl, s0⟩
    refine s_cons <| s_set 2 nd <| w_call (fn_box T) hr2 T.g__law_box (kept T.f__law_box) passL <| a_cons <| w_var 0 rfl <| a_cons <| w_var 1 rfl <| a_nil ⟨a, ns, j, rfl, by omega, s0.seq hl, fun b H1 hb s1 hB => ?_⟩
    refine s_cons <| s_set 3 nd <| w_take T hr1 <| w_var 2 rfl <| w_int ⟨b, 5, 0, rfl, rfl, hB, by decide, by decide, by decide +kernel, fun r H2 r0 r1 b2 k2 => ?_⟩
    obtain ⟨n, rfl⟩ : ∃ n : Nat, r = n := ⟨r.toNat, by omega⟩
    have hn : n ≤ 4 := by omega
    refine s_cons <| s_set 4 nd <| w_call (fn_rows T) hr3 T.g__law_rows (kept T.f__law_rows) passL <| a_cons <| w_var 2 rfl <| a_cons <| w_var 3 rfl <| a_nil ⟨b, 1, n, rfl, b2, by decide, hn, fun l A H3 k3 b3 hA lA wA cA => ?_⟩
    have lb : l ≠ b := hA.1
    have hA3 : LsAt (LsO b (Tq K)) H3 l A := by
      obtain ⟨_, _, vs, e, _, h⟩ := hA
      exact ⟨vs, e, h.mono fun v r ⟨a, e1, e2, _, _, h⟩ => ⟨a, e1, e2, h⟩⟩
    -- numbers
    refine s_cons <| s_set 5 nd <| w_lcr 13 nd T.b_range <| w_var 3 rfl <| loopB_r (b := b) (N := 61) (c := 2) (nd := False) ⟨by omega, b3, fun D hD => ⟨fun i y H' => ∃ q, GM.Cd 6 60 q ∧ Tq K H' y q, fun i y H1 H2 kd ⟨q, p, h⟩ => ⟨q, p, monD_tq _ _ _ _ kd h⟩, fun i y H1 H2 kd ⟨q, p, h⟩ => ⟨q, p, monD_tq _ _ _ _ kd h⟩, fun i H' acc hi k4 b4 hd hR => ?_, fun ys H4 k4 b4 hd hly hR _ => ?_⟩⟩
    · refine fun s0 H0 C cl fp => w_frac T hr1 <| w_op op_sub <| w_take T hr1 <| w_var 2 rfl <| w_int ⟨b, 21, _, rfl, rfl, b4, by omega, by decide, by decide +kernel, fun t H5 t0 t1 b5 k5 => w_int ⟨_, _, rfl, rfl, w_op op_add <| w_int <| w_take T hr1 <| w_var 2 rfl <| w_int ⟨b, 3, _, rfl, rfl, b5, by omega, by decide, by decide +kernel, fun u H6 u0 u1 b6 k6 => ⟨_, _, rfl, rfl, _, _, rfl, rfl, by omega, small9 (Nat.lt_of_le_of_lt (show (1 + u).natAbs ≤ 3 by omega) (by decide +kernel)), fun v H7 s7 h7 => ⟨(k5.trans k6).trans s7.kp, (b6.same s7).mono (by omega), ⟨_, cd6 (B := 10) (by omega) (by omega) (by omega), h7⟩, fun z => z.elim⟩⟩⟩⟩⟩
    obtain ⟨x, hx, cx⟩ := els_choose hR
    have nb : D ≠ b := b3.ne_new hD
    have lx : x.length = n := by rw [← hx.1, hly]
    have hA4 : LsAt (LsO b (Tq K)) H4 l A := LsAt.kd (monD_lsO monD_tq) hA3 lb (b3.kd k4)
    have hx4 : LsAt (Tq K) H4 D x := ⟨ys, hd, hx⟩
    have kc : Kp b H1 H4 := k2.trans (k3.trans k4)
    clear hA hA3 hd hx hR hD
    replace cx : C6 x := cx
    -- right side
    obtain ⟨vs, ev, hvs⟩ := id hA4
    refine s_cons <| s_mapl 7 6 nd <| w_var 4 rfl <| lpL ⟨l, vs, rfl, SqL.of ev, by rw [hvs.1]; omega, fun D5 hD5 => ⟨fun i y H => ∃ r, A[i]? = some r ∧ Tq K H y (GM.dot r (GM.vec x)), fun i y H H' kd ⟨q', e, h⟩ => ⟨q', e, monD_tq _ _ _ _ kd h⟩, fun i τ H' acc hi ⟨v, ev', eτ⟩ s5 hd => ?_, fun zs H5 s5 hd hz hR => ?_⟩⟩
    · subst eτ
      obtain ⟨r, er, lr, rfl, _, us, eu, hu⟩ := hvs.get ev'
      have hrA := List.mem_of_getElem? er
      exact fun s0 H0 C cl fp => w_call (fn_lsum T) hr3 T.g__law_sum (kept T.f__law_sum) passL <| a_cons <| w_var 6 rfl <| a_cons <| w_var 5 rfl <| a_nil ⟨false, lr, D, us, r, x, rfl, SqL.of (s5 _ _ eu), hu.mono fun v q h => h.same s5, hx4.same monS_tq s5, by rw [wA r hrA, lx], by rw [wA r hrA]; omega, sums_A cA cx wA hn r hrA, fun v H6 s6 h6 => ⟨s6, r, er, h6⟩⟩
    have ht5 : LsAt (Tq K) H5 D5 (GM.mulV A x) := ⟨zs, hd, Els.of (by rw [hz, hvs.1, GM.len_mulV]) fun i y e q eq => by
      obtain ⟨r, er, h'⟩ := hR i y e
      rw [GM.mulV_at er] at eq
      cases eq
      exact h'⟩
    have tb : D5 ≠ b := b4.ne_new hD5
    have lv : (GM.mulV A x).length = n := by rw [GM.len_mulV, lA]
    -- handed over
    refine s_cons <| s_par 8 9 nd <| a_cons <| w_call (fn_handed T) hr6 T.g__law_handed (kept T.f__law_handed) passL <| a_cons <| w_var 4 rfl <| a_nil ⟨l, A, rfl, els_ls (hA4.same (monS_lsO monS_tq) s5), by omega, fun r hr => ⟨by rw [wA r hr]; omega, fun q hq => (cA_lt cA r hr q hq).mono (by decide)⟩, fun ph H6 hph s6 h6 => ?_⟩
    have b6 := b4.same (s5.trans s6)
    have hb6 : ph ≠ b := (b4.same s5).ne_new hph
    have hh6 : LsAt (LsO b (Hn K)) H6 ph A := by
      obtain ⟨us, e, h⟩ := h6
      exact ⟨us, e, h.mono fun v r ⟨a, e1, e2, _, h⟩ => ⟨a, e1, (b4.same s5).ne_new e2, h⟩⟩
    obtain ⟨ts, et, hts⟩ := ht5.same monS_tq s6
    refine a_cons <| w_mapl 14 nd <| w_var 7 rfl <| lpL ⟨D5, ts, rfl, SqL.of et, mpa_hn hts (by rw [lv]; omega) (mul_lt cA cx wA hn) (fun x _ q _ hq lq kk => fun _ _ _ _ _ => w_call (fn_lratio T) hr5 T.g__law_ratio (kept T.f__law_ratio) passL <| a_cons <| w_var 14 rfl <| a_nil ⟨x, q, rfl, hq, lq, kk⟩) fun pg H7 hpg s7 h7 => a_nil ⟨_, _, rfl, ?_⟩⟩
    have S : Sit K b H7 l D D5 ph pg A x := ⟨lb, nb, tb, hb6, b6.ne_new hpg, (hA4.same (monS_lsO monS_tq) (s5.trans (s6.trans s7))), hx4.same monS_tq (s5.trans (s6.trans s7)), ht5.same monS_tq (s6.trans s7), hh6.same (monS_lsO monS_hn) s7, h7⟩
    have kc7 : Kp b H1 H7 := kc.trans (s5.trans (s6.trans s7)).kp
    have b7 := b6.same s7
    clear hA4 hx4 ht5 hh6 h7 h6 hts et hvs ev kc b6 hpg hph hR hd hD5 b4 s5 s6 s7
    -- applied
    obtain ⟨xs, ex, hxs⟩ := id S.hx
    refine s_cons <| s_if <| t_cmp (op_neD hr.units) <| w_call (fn_row T) hr1 T.g__law_row (kept T.f__law_row) passL <| a_cons <| w_call (fn_applied T) hr8 T.g_applied (kept T.f_applied) passL <| a_cons <| w_var 8 rfl <| a_cons <| w_mapl 14 nd <| w_var 5 rfl <| lpL ⟨D, xs, rfl, SqL.of ex, mpa_hn hxs (by rw [lx]; omega) (fun q hq => (cx.lt q hq).mono (by decide)) (fun x _ q _ hq lq kk => fun _ _ _ _ _ => w_call (fn_lratio T) hr5 T.g__law_ratio (kept T.f__law_ratio) passL <| a_cons <| w_var 14 rfl <| a_nil ⟨x, q, rfl, hq, lq, kk⟩) fun p8 H8 hp8 s8 h8 => a_nil ⟨ph, p8, A, x, rfl, rows_nm (S.same s8).hh, els_nm h8, by omega, fun r hr => ⟨by rw [wA r hr, lx], by rw [wA r hr]; omega, sums_of (sums_A cA cx wA hn r hr) (by rw [wA r hr, lx]) fun q hq => (cA_lt cA r hr q hq).mono (by decide)⟩, fun p9 H9 hp9 s9 h9 => a_nil ⟨p9, GM.mulV A x, rfl, h9, by rw [lv]; omega, fun p10 H10 hp10 s10 h10 => w_var 7 rfl ⟨_, _, dp_tqs h10, dp_tqs (S.same (s8.trans (s9.trans s10))).ht, shaped_dqs _, shaped_dqs _, _, rfl, ifF (ne_dqs _) (s_nil ?_)⟩⟩⟩⟩
    have S10 := S.same (s8.trans (s9.trans s10))
    have kc10 : Kp b H1 H10 := kc7.trans (s8.trans (s9.trans s10)).kp
    have b10 := b7.same (s8.trans (s9.trans s10))
    clear hxs ex S kc7 b7 h8 h9 h10 hp8 hp9 hp10 s8 s9 s10
    refine s_cons <| s_if <| t_cmp op_eq <| w_tq0 <| w_call (fn_det T n hn) (hr.mono (show n + 3 ≤ 9 by omega)) T.g__law_determinant (kept T.f__law_determinant) passL <| a_cons <| w_var 4 rfl <| a_nil ⟨l, A, D0, M0, rfl, els_ls S10.hA, lA, wA, by decide, by decide +kernel, by decide +kernel, cA, fun v11 H11 s11 h11 => ⟨_, h11, w_int ⟨rfl, _, rfl, ?_⟩⟩⟩
    have S11 := S10.same s11
    have kc11 : Kp b H1 H11 := kc10.trans s11.kp
    have b11 := b10.same s11
    have wA' : GM.Wd A.length A := by rw [lA]; exact wA
    have hn' : A.length ≤ 4 := by omega
    clear S10 kc10 b10 h11 s11
    by_cases hd0 : GM.det n A = 0
    · refine ifT (by rw [hd0]; rfl) ?_
      have hd' : GM.det A.length A = 0 := by rw [lA]; exact hd0
      refine s_cons <| s_if <| t_cmp (op_neD hr.units) <| w_call (fn_refused T) hr T.g__law_refused (kept T.f__law_refused) passL <| a_cons <| w_var 8 rfl <| a_cons <| w_var 9 rfl <| a_nil ⟨ph, pg, A, GM.mulV A x, 100, rfl, rows_nm S11.hh, els_nm S11.hg, GM.len_mulV A x, by omega, wA', allB_mul cA cx wA hn, allB_unit cA _, pow_ok hn', GM.sol_no hn' (GM.len_mulV A x) wA' hd', GM.inv_no hn' wA' hd', fun p12 H12 s12 h12 => w_lst <| a_cons <| w_str <| a_cons <| w_str <| a_nil ⟨by show 2 ≤ sizeLine; decide, fun p13 hp13 => ⟨_, _, .lst (SqL.of (same_new hp13 _ _ h12)) (.cons (.str _) (.cons (.str _) .nil)), .lst (SqL.of upd_same) (.cons (.str _) (.cons (.str _) .nil)), by decide +kernel, by decide +kernel, _, rfl, ifF (by decide +kernel) (s_nil ?_)⟩⟩⟩
      exact s_one <| s_cont ⟨_, _, _, _, _, _, _, _, _, _, _, _, _, _, rfl, s0.trans (same_kp hb s1 (kc11.trans (s12.trans (same_new hp13)).kp))⟩
    refine ifF (decide_eq_false (fun z => hd0 (Rat.num_eq_zero.mp (by injection z)))) (s_nil ?_)
    have hd' : GM.det A.length A ≠ 0 := by rw [lA]; exact hd0
    have esx : GM.sol A (GM.mulV A x) = some x := by
      obtain ⟨y, e1, _, _, e4⟩ := GM.sol_one hn' (GM.len_mulV A x) wA' hd'
      rw [e1, e4 x (by rw [lx, lA]) rfl]
    -- solved by names
    obtain ⟨hs, eh, hhs⟩ := id S11.hh
    refine s_cons <| s_if <| t_cmp (op_neD hr.units) <| w_call (fn_row T) hr1 T.g__law_row (kept T.f__law_row) passL <| a_cons <| w_callQ (fq_solved T) hr8 T.g_solved (kept T.f_solved) passL <| k_cons <| w_var 8 rfl <| k_cons <| w_var 9 rfl <| k_nil ⟨rfl, false, ph, pg, hs, A, GM.mulV A x, 100, rfl, SqL.of eh, hhs.mono (fun v r ⟨a, e, _, g⟩ => ⟨a, e, els_nm g⟩), els_nm S11.hg, GM.len_mulV A x, by omega, wA', allB_mul cA cx wA hn, pow_ok hn', fun y ey p12 H12 hp12 s12 h12 => ?_, (fun e => by rw [esx] at e; cases e)⟩
    obtain rfl : x = y := by rw [esx] at ey; exact Option.some.inj ey
    refine a_nil ⟨p12, x, rfl, h12, by omega, fun p13 H13 hp13 s13 h13 => w_var 5 rfl ⟨_, _, dp_tqs h13, dp_tqs (S11.same (s12.trans s13)).hx, shaped_dqs _, shaped_dqs _, _, rfl, ifF (ne_dqs _) (s_nil ?_)⟩⟩
    have S13 := S11.same (s12.trans s13)
    have kc13 : Kp b H1 H13 := kc11.trans (s12.trans s13).kp
    have b13 := b11.same (s12.trans s13)
    clear S11 kc11 b11 hhs eh h12 h13 hp12 hp13 s12 s13
    -- another right side
    refine s_cons <| s_set 10 nd <| w_lcr 13 nd T.b_range <| w_var 3 rfl <| loopB_r (b := b) (N := 61 + 2 * n) (c := 1) (nd := False) ⟨by omega, b13, fun po hpo => ⟨fun i y H' => ∃ q, GM.Cd 6 60 q ∧ Tq K H' y q, fun i y H1 H2 kd ⟨q, p, h⟩ => ⟨q, p, monD_tq _ _ _ _ kd h⟩, fun i y H1 H2 kd ⟨q, p, h⟩ => ⟨q, p, monD_tq _ _ _ _ kd h⟩, fun i H' acc hi k4 b4 hd hR => ?_, fun ys' H14 k14 b14 hd hly' hR _ => ?_⟩⟩
    · exact fun s0 H0 C cl fp => w_frac T hr1 <| w_op op_sub <| w_take T hr1 <| w_var 2 rfl <| w_int ⟨b, 21, _, rfl, rfl, b4, by omega, by decide, by decide +kernel, fun t H5 t0 t1 b5 k5 => w_int ⟨_, _, rfl, rfl, w_int ⟨_, _, rfl, rfl, by decide, by decide +kernel, fun v H7 s7 h7 => ⟨k5.trans s7.kp, (b5.same s7).mono (by omega), ⟨_, cd6 (B := 10) (by decide) (by decide) (by omega), h7⟩, fun z => z.elim⟩⟩⟩⟩
    obtain ⟨o, ho, co⟩ := els_choose hR
    replace co : C6 o := co
    have lo : o.length = n := by rw [← ho.1, hly']
    have ho14 : LsAt (Tq K) H14 po o := ⟨ys', hd, ho⟩
    have S14 := S13.kp b13 k14
    have kc14 := kc13.trans k14
    clear S13 kc13 b13 hd ho hR hpo b14 k14
    obtain ⟨xo, eso, lxo, mxo, _⟩ := GM.sol_one (b := o) hn' (by omega) wA' hd'
    obtain ⟨W, eW, lW, wW, hW⟩ := GM.inv_one hn' wA' hd'
    have hWo : GM.mulV W o = xo := by
      have z := hW xo lxo
      rw [mxo] at z
      exact z
    have lt1 : ∀ q ∈ xo, RM.Lt q 1615 := sol_lt cA co wA' hn' (by omega) eso
    have sW := inv_sums cA co wA' hn' eW
    -- cleared
    refine s_cons <| s_expr <| we_of (pe_bm0 PySem.F.plainAttrs_list PySem.F.slot_list_clear PySem.F.type_list_clear mt_clear peW) <| w_call (fn_inverse T) hr8 T.g_inverse (kept T.f_inverse) passL <| a_cons <| w_var 8 rfl <| a_nil ⟨ph, A, 100, rfl, rows_nm S14.hh, by omega, wA', allB_unit cA _, pow_ok hn', fun W' eW' p H15 hp s15 ⟨ws, ew, hws⟩ => ⟨.inl ⟨rfl, _, SqL.of ew⟩, p, ws, rfl, rfl, ew, ?_⟩, (fun e => by rw [eW] at e; cases e)⟩
    have s16 : Same H14 (upd H15 p (.lst [])) := fun a' o' e => by
      rw [upd_ne (ne_of_none e hp)]
      exact s15 _ _ e
    generalize upd H15 p (.lst []) = H16 at s16 ⊢
    have S16 := S14.same s16
    clear s15 hp ew hws
    refine s_cons <| s_forl 6 (passes_of rfl) nd <| w_call (fn_inverse T) hr8 T.g_inverse (kept T.f_inverse) passL <| a_cons <| w_var 8 rfl <| a_nil ⟨ph, A, 100, rfl, rows_nm S16.hh, by omega, wA', allB_unit cA _, pow_ok hn', fun W' eW' p H17 hp s17 ⟨ws, ew, hws⟩ => ⟨p, ws, fun _ σ' H'' => (∃ y6, σ' = [some (.ref a), some (.int (j : Int)), some (.ref b), some (.int (n : Nat)), some (.ref l), some (.ref D), y6, some (.ref D5), some (.ref ph), some (.ref pg), some (.ref po), z11, z12, z13, z14]) ∧ Same H16 H'' ∧ H'' p = some (.lst ws) ∧ ∀ v ∈ ws, ∃ a', v = .ref a' ∧ H16 a' = none ∧ a' ≠ p ∧ ∃ us, H'' a' = some (.lst us), rfl, SqL.of ew, ⟨⟨_, rfl⟩, s17, ew, fun v hv => ?_⟩, fun k σ' H'' _ h => SqL.of h.2.2.1, ?_, ?_⟩, (fun e => by rw [eW] at e; cases e)⟩
    · obtain ⟨k, hk, rfl⟩ := List.getElem_of_mem hv
      obtain ⟨r, _, a', e1, e2, e3, us, e4, _⟩ := hws.get (List.getElem?_eq_getElem hk)
      exact ⟨a', e1, e2, e3, us, e4⟩
    · rintro k y σ' H18 ey ⟨⟨y6, rfl⟩, t1, t2, t3⟩
      obtain ⟨a', rfl, n1, n2, us, eu⟩ := t3 y (List.mem_of_getElem? ey)
      refine s_one <| s_expr <| we_of (pe_bm0 PySem.F.plainAttrs_list PySem.F.slot_list_clear PySem.F.type_list_clear mt_clear peW) <| w_var 6 rfl ⟨.inl ⟨rfl, _, SqL.of eu⟩, a', us, rfl, rfl, eu, ⟨_, rfl⟩, fun c o' e => ?_, by rw [upd_ne (Ne.symm n2)]; exact t2, fun v hv => ?_⟩
      · rw [upd_ne (ne_of_none e n1)]
        exact t1 _ _ e
      · obtain ⟨a2, e1, e2, e3, us2, e4⟩ := t3 v hv
        by_cases h2 : a2 = a'
        · exact ⟨a2, e1, e2, e3, [], by rw [h2]; exact upd_same⟩
        · exact ⟨a2, e1, e2, e3, us2, by rw [upd_ne h2]; exact e4⟩
    rintro σ' H19 ⟨⟨y6, rfl⟩, s19, _, _⟩
    have S19 := S16.same s19
    have ho19 : LsAt (Tq K) H19 po o := ho14.same monS_tq (s16.trans s19)
    have kc19 : Kp b H1 H19 := kc14.trans (s16.trans s19).kp
    clear S16 S14 ho14 kc14 hws ew hp s17
    -- back
    refine s_cons <| s_mapl 11 6 nd <| w_call (fn_inverse T) hr8 T.g_inverse (kept T.f_inverse) passL <| a_cons <| w_var 8 rfl <| a_nil ⟨ph, A, 100, rfl, rows_nm S19.hh, by omega, wA', allB_unit cA _, pow_ok hn', fun W' eW' p H20 hp s20 ⟨ws, ew, hws⟩ => lpL ⟨p, ws, rfl, SqL.of ew, ?_, fun pb hpb => ⟨fun i y H => ∃ r, W[i]? = some r ∧ Tp K H y r, fun i y H H' kd ⟨r, e, h⟩ => ⟨r, e, monD_tp _ _ _ _ kd h⟩, fun i τ H' acc hi ⟨v, ev', eτ⟩ s21 hd => ?_, fun zs H21 s21 hd hz hR => ?_⟩⟩, (fun e => by rw [eW] at e; cases e)⟩
    · obtain rfl : W = W' := by rw [eW] at eW'; exact Option.some.inj eW'
      rw [hws.1]
      omega
    · subst eτ
      obtain rfl : W = W' := by rw [eW] at eW'; exact Option.some.inj eW'
      obtain ⟨r, er, lr, rfl, _, _, hr'⟩ := hws.get ev'
      have lr1 : r.length = A.length := wW r (List.mem_of_getElem? er)
      exact fun s0 H0 C cl fp => w_callT call_tuple_of T.b_tuple (by decide +kernel) <| a_cons <| w_call (fn_row T) hr1 T.g__law_row (kept T.f__law_row) passL <| a_cons <| w_var 6 rfl <| a_nil ⟨lr, r, rfl, LsAt.same monS_rt hr' s21, by omega, fun p2 H2 hp2 s2 ⟨us, eu, hu⟩ => a_nil ⟨p2, us, rfl, .inl ⟨SqL.of eu, fun tp htp => ⟨s2.trans (same_new htp), r, er, tp, us, rfl, upd_same, hu.mono fun v q h => h.same (same_new htp)⟩⟩⟩⟩
    have hlw : ws.length = W.length := by
      obtain rfl : W = W' := by rw [eW] at eW'; exact Option.some.inj eW'
      exact hws.1
    have hback : LsAt (Tp K) H21 pb W := ⟨zs, hd, Els.of (by rw [hz, hlw]) fun i y e r er => by
      obtain ⟨r', e1, h'⟩ := hR i y e
      rw [e1] at er
      cases er
      exact h'⟩
    have S21 := S19.same (s20.trans s21)
    have ho21 := LsAt.same monS_tq ho19 (s20.trans s21)
    have kc21 : Kp b H1 H21 := kc19.trans (s20.trans s21).kp
    clear S19 ho19 kc19 hR hd hz hws ew hp hpb hlw s20 s21
    -- told
    obtain ⟨hs, eh, hhs⟩ := id S21.hh
    obtain ⟨os, eo, hos⟩ := id ho21
    refine s_cons <| s_set 12 nd <| w_call (fn_row T) hr1 T.g__law_row (kept T.f__law_row) passL <| a_cons <| w_call (fn_solved T) hr8 T.g_solved (kept T.f_solved) passL <| a_cons <| w_callT call_tuple_of T.b_tuple (by decide +kernel) <| a_cons <| w_var 8 rfl <| a_nil ⟨ph, hs, rfl, .inl ⟨SqL.of eh, fun tp htp => a_cons <| w_mapl 14 nd <| w_var 10 rfl <| lpL ⟨po, os, rfl, SqL.of (same_new htp _ _ eo), mpa_hn (hos.mono fun v q h => h.same (same_new htp)) (by omega) (fun q hq => (co.lt q hq).mono (by decide)) (fun x _ q _ hq lq kk => fun _ _ _ _ _ => w_call (fn_lratio T) hr5 T.g__law_ratio (kept T.f__law_ratio) passL <| a_cons <| w_var 14 rfl <| a_nil ⟨x, q, rfl, hq, lq, kk⟩) fun pr H22 hpr s22 h22 => a_nil ⟨true, tp, pr, hs, A, o, 100, rfl, SqT.of (s22 _ _ upd_same), ?_, els_nm h22, by omega, by omega, wA', allB_c6 cA co, pow_ok hn', fun y ey p23 H23 hp23 s23 h23 => ?_, (fun e => by rw [eso] at e; cases e)⟩⟩⟩⟩
    · exact hhs.mono fun v r ⟨a, e, _, g⟩ => ⟨a, e, els_nm (LsAt.same monS_hn g ((same_new htp).trans s22))⟩
    obtain rfl : xo = y := by rw [eso] at ey; exact Option.some.inj ey
    refine a_nil ⟨p23, xo, rfl, h23, by omega, fun pt H24 hpt s24 h24 => ?_⟩
    have st := (same_new (o := .tup hs) htp).trans (s22.trans (s23.trans s24))
    have S24 := S21.same st
    have ho24 := LsAt.same monS_tq ho21 st
    have kc24 : Kp b H1 H24 := kc21.trans st.kp
    have hb24 : LsAt (Tp K) H24 pb W := LsAt.same monS_tp hback st
    clear S21 ho21 kc21 hback hos eo hhs eh h22 h23 hpr hp23 hpt s22 s23 s24 st htp
    -- told by the inverse, and back
    obtain ⟨bs, eb, hbs⟩ := id hb24
    refine s_cons <| s_if <| t_bool <| b_or <| t_cmp (op_neD hr.units) <| w_var 12 rfl <| w_mapl 6 nd <| w_var 11 rfl <| lpL ⟨pb, bs, rfl, SqL.of eb, by rw [hbs.1]; omega, fun D2 hD2 => ⟨fun i y H => ∃ r, W[i]? = some r ∧ Tq K H y (GM.dot r (GM.vec o)), fun i y H H' kd ⟨q', e, h⟩ => ⟨q', e, monD_tq _ _ _ _ kd h⟩, fun i τ H' acc hi ⟨v, ev', eτ⟩ s25 hd => ?_, fun zs H25 s25 hd hz hR => ?_⟩⟩
    · subst eτ
      obtain ⟨r, er, tp, us, rfl, etp, hu⟩ := hbs.get ev'
      have lr1 : r.length = A.length := wW r (List.mem_of_getElem? er)
      exact fun s0 H0 C cl fp => w_call (fn_lsum T) hr3 T.g__law_sum (kept T.f__law_sum) passL <| a_cons <| w_var 6 rfl <| a_cons <| w_var 10 rfl <| a_nil ⟨true, tp, po, us, r, o, rfl, SqT.of (s25 _ _ etp), hu.mono fun v q h => h.same s25, LsAt.same monS_tq ho24 s25, by omega, by omega, sW r (List.mem_of_getElem? er), fun v H6 s6 h6 => ⟨s6, r, er, h6⟩⟩
    have hb25 : LsAt (Tq K) H25 D2 xo := ⟨zs, hd, Els.of (by rw [hz, hbs.1]; omega) fun i y e q eq => by
      obtain ⟨r, er, h'⟩ := hR i y e
      rw [← hWo, GM.mulV_at er] at eq
      cases eq
      exact h'⟩
    refine ⟨_, _, dp_tqs (LsAt.same monS_tq h24 s25), dp_tqs hb25, shaped_dqs _, shaped_dqs _, _, rfl, ifF (ne_dqs _) ?_⟩
    have S25 := S24.same s25
    obtain ⟨vs, ev, hvs⟩ := id S25.hA
    refine b_or1 <| t_cmp (op_neD hr.units) <| w_mapl 6 nd <| w_var 4 rfl <| lpL ⟨l, vs, rfl, SqL.of ev, by rw [hvs.1]; omega, fun D3 hD3 => ⟨fun i y H => ∃ r, A[i]? = some r ∧ Tq K H y (GM.dot r (GM.vec xo)), fun i y H H' kd ⟨q', e, h⟩ => ⟨q', e, monD_tq _ _ _ _ kd h⟩, fun i τ H' acc hi ⟨v, ev', eτ⟩ s26 hd => ?_, fun zs H26 s26 hd hz hR => ?_⟩⟩
    · subst eτ
      obtain ⟨r, er, lr, rfl, _, us, eu, hu⟩ := hvs.get ev'
      have hrA := List.mem_of_getElem? er
      exact fun s0 H0 C cl fp => w_call (fn_lsum T) hr3 T.g__law_sum (kept T.f__law_sum) passL <| a_cons <| w_var 6 rfl <| a_cons <| w_var 12 rfl <| a_nil ⟨false, lr, pt, us, r, xo, rfl, SqL.of (s26 _ _ eu), hu.mono fun v q h => h.same s26, LsAt.same monS_tq h24 (s25.trans s26), by rw [wA r hrA]; omega, by rw [wA r hrA]; omega, sums_lt (cA_lt cA r hrA) lt1 (by rw [wA r hrA]; exact hn) (by rw [wA r hrA]; omega) (by decide), fun v H6 s6 h6 => ⟨s6, r, er, h6⟩⟩
    have hb26 : LsAt (Tq K) H26 D3 o := ⟨zs, hd, Els.of (by rw [hz, hvs.1]; omega) fun i y e q eq => by
      obtain ⟨r, er, h'⟩ := hR i y e
      rw [← mxo, GM.mulV_at er] at eq
      cases eq
      exact h'⟩
    have s246 := s25.trans s26
    refine w_var 10 rfl ⟨_, _, dp_tqs hb26, dp_tqs (LsAt.same monS_tq ho24 s246), shaped_dqs _, shaped_dqs _, _, rfl, ifF (ne_dqs _) (s_nil ?_)⟩
    have S26 := S24.same s246
    have ho26 := LsAt.same monS_tq ho24 s246
    have kc26 : Kp b H1 H26 := kc24.trans s246.kp
    have eb26 := s246 _ _ eb
    have lbs : bs.length = n := by rw [hbs.1]; omega
    clear S24 S25 ho24 kc24 hb25 hb26 hR hd hz hvs ev h24 hb24 hbs eb hD3 s246
    -- nothing has changed
    obtain ⟨hs, eh, hhs⟩ := id S26.hh
    refine s_cons <| s_if <| t_bool <| b_or <| t_cmp (op_neG (mon_list mon_dhn) (eqG_list mon_dhn (eqG_dhn T)) hr5) <| w_var 8 rfl <| w_call (fn_handed T) hr6 T.g__law_handed (kept T.f__law_handed) passL <| a_cons <| w_var 4 rfl <| a_nil ⟨l, A, rfl, els_ls S26.hA, by omega, fun r hr => ⟨by rw [wA r hr]; omega, fun q hq => (cA_lt cA r hr q hq).mono (by decide)⟩, fun p27 H27 hp27 s27 ⟨us, eu, hu⟩ => ⟨⟨ph, p27, hs, us, rfl, rfl, s27 _ _ eh, eu, by rw [hhs.1, hu.1], fun i v1 v2 e1 e2 => ?_⟩, fun H28 s28 => ⟨false, rfl, ifF rfl ?_⟩⟩⟩
    · obtain ⟨r, er, a1, rfl, _, xs1, g1, g2⟩ := hhs.get e1
      obtain ⟨a2, rfl, _, _, xs2, g3, g4⟩ := hu.2 i v2 r e2 er
      exact ⟨a1, a2, xs1, xs2, rfl, rfl, s27 _ _ g1, g3, prs_hn (g2.mono fun v q h => monS_hn _ _ _ _ s27 h) g4⟩
    have S28 := S26.same (s27.trans s28)
    obtain ⟨ts, et, hts⟩ := id S28.ht
    obtain ⟨gs, eg, hgs⟩ := id S28.hg
    refine b_or <| t_cmp (op_neG mon_dhn (eqG_dhn T) hr4) <| w_var 9 rfl <| w_mapl 14 nd <| w_var 7 rfl <| lpL ⟨D5, ts, rfl, SqL.of et, mpa_hn hts (by rw [lv]; omega) (mul_lt cA cx wA hn) (fun x _ q _ hq lq kk => fun _ _ _ _ _ => w_call (fn_lratio T) hr5 T.g__law_ratio (kept T.f__law_ratio) passL <| a_cons <| w_var 14 rfl <| a_nil ⟨x, q, rfl, hq, lq, kk⟩) fun p29 H29 hp29 s29 ⟨us2, eu2, hu2⟩ => ⟨⟨pg, p29, gs, us2, rfl, rfl, s29 _ _ eg, eu2, prs_hn (hgs.mono fun v q h => monS_hn _ _ _ _ s29 h) hu2⟩, fun H30 s30 => ⟨false, rfl, ifF rfl ?_⟩⟩⟩
    have s2630 := s27.trans (s28.trans (s29.trans s30))
    refine b_or1 <| t_cmp op_ne <| w_callB call_len T.b_len (by decide +kernel) <| a_cons <| w_var 11 rfl <| a_nil ⟨_, bs.length, rfl, .inl ⟨bs, SqL.of (s2630 _ _ eb26), rfl⟩, w_var 3 rfl ⟨rfl, _, rfl, ifF (by rw [lbs, decide_eq_true rfl]; rfl) (s_nil ?_)⟩⟩
    have S30 := S26.same s2630
    have ho30 := LsAt.same monS_tq ho26 s2630
    have kc30 : Kp b H1 H30 := kc26.trans s2630.kp
    clear S26 S28 ho26 kc26 eb26 hhs eh hts et hgs eg hu eu hu2 eu2 hp27 hp29 s27 s28 s29 s30 s2630
    -- weighed
    obtain ⟨xs, ex, hxs⟩ := id S30.hx
    obtain ⟨os, eo, hos⟩ := id ho30
    refine s_cons <| s_set 12 nd <| w_call (fn_weighed T) hr7 T.g_weighed (kept T.f_weighed) passL <| a_cons <| w_mapl 14 nd <| w_var 5 rfl <| lpL ⟨D, xs, rfl, SqL.of ex, mpa_hn hxs (by omega) (fun q hq => (cx.lt q hq).mono (by decide)) (fun x _ q _ hq lq kk => fun _ _ _ _ _ => w_call (fn_lratio T) hr5 T.g__law_ratio (kept T.f__law_ratio) passL <| a_cons <| w_var 14 rfl <| a_nil ⟨x, q, rfl, hq, lq, kk⟩) fun p31 H31 hp31 s31 h31 => a_cons <| w_mapl 14 nd <| w_var 10 rfl <| lpL ⟨po, os, rfl, SqL.of (s31 _ _ eo), mpa_hn (hos.mono fun v q h => h.same s31) (by omega) (fun q hq => (co.lt q hq).mono (by decide)) (fun x _ q _ hq lq kk => fun _ _ _ _ _ => w_call (fn_lratio T) hr5 T.g__law_ratio (kept T.f__law_ratio) passL <| a_cons <| w_var 14 rfl <| a_nil ⟨x, q, rfl, hq, lq, kk⟩) fun p32 H32' hp32 s32' h32' => a_nil ⟨p31, p32, x, o, rfl, LsAt.same monS_nm (els_nm h31) s32', els_nm h32', by omega, by omega, sums_of (sums_66 cx co (by omega)) (by omega) (fun q hq => (cx.lt q hq).mono (by decide)), fun v32 H32 s32 h32 => ?_⟩⟩⟩
    have s3032 := s31.trans (s32'.trans s32)
    have ex32 := s3032 _ _ ex
    have hxs32 : Els (Tq K H32) xs x := hxs.mono fun v q h => h.same s3032
    have ho32 := LsAt.same monS_tq ho30 s3032
    have kc32 : Kp b H1 H32 := kc30.trans s3032.kp
    refine s_one <| s_if <| t_bool <| b_or <| t_bool <| b_and <| t_cmp op_gt <| w_var 3 rfl <| w_int ⟨_, _, rfl, rfl, _, rfl, ?_⟩
    by_cases hn0 : 0 < n
    · refine ifT (decide_eq_true (by omega)) (b_and1 <| t_not <| t_val <| w_call (fn_lleast T) hr7 T.g__law_least (kept T.f__law_least) passL <| a_cons <| w_var 5 rfl <| a_nil ⟨D, x, rfl, ⟨xs, ex32, hxs32⟩, (fun e => by rw [e] at lx; simp at lx; omega), by omega, fun q hq => (cx.lt q hq).mono (by decide), fun H33 s33 => ⟨true, rfl, ifF rfl ?_⟩⟩)
      exact b_or1 <| t_cmp (op_neD hr.units) <| w_call (fn_told T) hr1 T.g__law_told (kept T.f__law_told) passL <| a_cons <| w_var 12 rfl <| a_nil ⟨v32, _, rfl, h32.same s33, fun v34 H34 s34 h34 => w_call (fn_lsum T) hr3 T.g__law_sum (kept T.f__law_sum) passL <| a_cons <| w_var 5 rfl <| a_cons <| w_var 10 rfl <| a_nil ⟨false, D, po, xs, x, o, rfl, SqL.of ((s33.trans s34) _ _ ex32), hxs32.mono fun v q h => h.same (s33.trans s34), LsAt.same monS_tq ho32 (s33.trans s34), by omega, by omega, sums_66 cx co (by omega), fun v35 H35 s35 h35 => ⟨_, _, dp_tq (h34.same s35), dp_tq h35, rfl, rfl, _, rfl, ifF (ne_dq _) (s_nil ⟨_, _, _, _, _, _, _, _, _, _, _, _, _, _, rfl, s0.trans (same_kp hb s1 (kc32.trans (s33.trans (s34.trans s35)).kp))⟩)⟩⟩⟩
    · refine ifF (decide_eq_false (by omega)) (ifF rfl ?_)
      exact b_or1 <| t_cmp (op_neD hr.units) <| w_call (fn_told T) hr1 T.g__law_told (kept T.f__law_told) passL <| a_cons <| w_var 12 rfl <| a_nil ⟨v32, _, rfl, h32.same (Same.refl H32), fun v34 H34 s34 h34 => w_call (fn_lsum T) hr3 T.g__law_sum (kept T.f__law_sum) passL <| a_cons <| w_var 5 rfl <| a_cons <| w_var 10 rfl <| a_nil ⟨false, D, po, xs, x, o, rfl, SqL.of (((Same.refl H32).trans s34) _ _ ex32), hxs32.mono fun v q h => h.same ((Same.refl H32).trans s34), LsAt.same monS_tq ho32 ((Same.refl H32).trans s34), by omega, by omega, sums_66 cx co (by omega), fun v35 H35 s35 h35 => ⟨_, _, dp_tq (h34.same s35), dp_tq h35, rfl, rfl, _, rfl, ifF (ne_dq _) (s_nil ⟨_, _, _, _, _, _, _, _, _, _, _, _, _, _, rfl, s0.trans (same_kp hb s1 (kc32.trans ((Same.refl H32).trans (s34.trans s35)).kp))⟩)⟩⟩⟩
  · rintro σ' H1 ⟨z1, z2, z3, z4, z5, z6, z7, z8, z9, z10, z11, z12, z13, z14, rfl, s1⟩
    refine s_one <| s_ret <| w_and <| w_cmp op_isN <| w_call (fn_least_place T) hr6 T.g_least_place (kept T.f_least_place) passL <| a_cons <| w_lst <| a_nil ⟨Nat.zero_le _, fun p hp => a_nil ⟨p, [], rfl, ⟨[], upd_same, .nil⟩, by decide, (fun q hq => by cases hq), fun _ H2 s2 => w_non ⟨rfl, _, rfl, ifT (decide_eq_true rfl) ?_⟩, fun m hm => absurd hm.1 (Nat.not_lt_zero _)⟩⟩
    refine w_and <| w_cmp (op_eqD hr.units) <| w_call (fn_solved T) hr8 T.g_solved (kept T.f_solved) passL <| a_cons <| w_lst <| a_nil ⟨Nat.zero_le _, fun p1 hp1 => a_cons <| w_lst <| a_nil ⟨Nat.zero_le _, fun p2 hp2 => a_nil ⟨false, p1, p2, [], [], [], 100, rfl, SqL.of (same_new hp2 _ _ upd_same), .nil, ⟨[], upd_same, .nil⟩, rfl, by decide, (fun r hr => by cases hr), (fun r hr => by cases hr), by decide, fun y ey p3 H3 hp3 s3 h3 => ?_, (fun e => by cases e)⟩⟩⟩
    obtain rfl : [] = y := Option.some.inj ey
    obtain ⟨ws, ew, hw⟩ := h3
    obtain rfl := List.length_eq_zero_iff.mp hw.1
    refine w_lst <| a_nil ⟨Nat.zero_le _, fun p4 hp4 => ⟨_, _, .lst (SqL.of (same_new hp4 _ _ ew)) .nil, .lst (SqL.of upd_same) .nil, rfl, rfl, _, rfl, ifT rfl (w_one ?_)⟩⟩
    refine w_cmp (op_eqD hr.units) <| w_call (fn_applied T) hr8 T.g_applied (kept T.f_applied) passL <| a_cons <| w_lst <| a_nil ⟨Nat.zero_le _, fun p5 hp5 => a_cons <| w_lst <| a_nil ⟨Nat.zero_le _, fun p6 hp6 => a_nil ⟨p5, p6, [], [], rfl, ⟨[], same_new hp6 _ _ upd_same, .nil⟩, ⟨[], upd_same, .nil⟩, by decide, (fun r hr => by cases hr), fun p7 H7 hp7 s7 h7 => ?_⟩⟩⟩
    obtain ⟨ws, ew, hw⟩ := h7
    obtain rfl := List.length_eq_zero_iff.mp hw.1
    exact w_lst <| a_nil ⟨Nat.zero_le _, fun p8 hp8 => ⟨_, _, .lst (SqL.of (same_new hp8 _ _ ew)) .nil, .lst (SqL.of upd_same) .nil, rfl, rfl, kk _⟩⟩
end
end LW
namespace LW
open PySem PySem.Spec PyProof.Rows L2
abbrev R : PySem.W.OpenRow := PySem.W.OpenLaw.row PySem.Challenge.rw_paystreams_k05_systems
abbrev hk : PySem.W.Hook := PH.hookP 5 fa fn
def ob (s : PySem.W.SharedT) : He.AlD := PH.obsPG 5 fa fn (HandSHeadRun.getT s)
theorem ob_eq (s : PySem.W.SharedT) : ob s = hk.obs s.abs := PH.obsPG_eq (HandSHeadRun.getT_eq s)
set_option maxHeartbeats 0 in
theorem run (w : World) : HandSHeadRun.RunEq R (PySem.W.view R.prog [43]) hk ob 8000 nms w := by
  intro os
  kernel_rfl
theorem law_name : (HandSHeadRun.topDef R.prog 43).name = ("law" : PySem.Str) := by kernel_rfl
end LW
open PySem PySem.W PySem.Calls PyProof.Rows
set_option maxHeartbeats 0
theorem PySem.Challenge.cw_paystreams_k05_systems_holds : PySem.Challenge.rw_paystreams_k05_systems.Holds := by
  w_on; o_law
  refine HandSHeadRun.head_any (r := OpenLaw.row PySem.Challenge.rw_paystreams_k05_systems) (q := view (OpenLaw.row PySem.Challenge.rw_paystreams_k05_systems).prog [43]) (H := LW.hk) (ob := LW.ob) (M := 8000) (loose := LW.nms) (d := HandSHeadRun.topDef (OpenLaw.row PySem.Challenge.rw_paystreams_k05_systems).prog 43) (kwd := [])
    LW.ob_eq (by kernel_rfl) (fun s => by kernel_rfl) LW.run (by kernel_rfl) (by kernel_rfl) (by kernel_rfl) (by rfl) (by first | assumption | decide +kernel) (by decide +kernel) ⟨rfl, rfl, rfl, rfl, rfl, by decide +kernel⟩ ?hw ?hc
  case hw => w_witness2
  case hc =>
    refine PR.walk_ofG (l := PySem.Challenge.rw_paystreams_k05_systems) (n := 63) (k := 10) rfl (by decide) (by kernel_rfl) ⟨rfl, by decide, by decide⟩ ?F
    intro w mg f h Y G hm
    obtain ⟨K, KI, c⟩ := Y
    have T := LW.tx_of KI G c
    rw [LW.law_name] at hm
    have e := hm.symm.trans T.g_law
    cases e
    exact ⟨K, LW.spLaw K, KI, fun H a ns _ _ hS => ⟨a, ns, rfl, hS, fun _ => rfl⟩, fun base _ _ => PR.FnG.of (LW.fn_law T)⟩
