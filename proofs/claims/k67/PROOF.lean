import PyProof.Rows.All
import Wide.All
import OpenK.AllK
import Wide.FinOn
import HandS.ForMost
import HandS.IsInst
import HandS.Flow
import HandS.Wide
import HandS.Zip
import HandS.Walk
import HandS.Conv
import HandS.TupAny
import HandS.Style
import PyProof.NeKinds
import PyProof.ReprRoads
import PyProof.ReprBulk
import PySem.Challenge.RW_movedamid_k67_schedules_of_any_value
set_option Elab.async false
set_option linter.all false
section Part_G1
set_option maxRecDepth 100000
set_option maxHeartbeats 2000000
/-! G1: weakest readings by values: what must hold so that a piece of syntax comes to an end of which Q holds; rules chosen behind the values. -/
namespace G
open PySem PySem.Spec PyProof.Rows L2

structure wE (X : Cx) (e : Expr)  (σ : L2.St) (H : Hp) (Q : VK) : Prop where
  run : ∀ (pins : List (Addr × Obj)) (s : Shared), Inv X pins σ H s → wpAny (model X.prog X.w) X.A (eval e X.env) (EP X pins σ Q) X.xe s
structure wT (X : Cx) (e : Expr)  (σ : L2.St) (H : Hp) (Q : Bool → Hp → Prop) : Prop where
  run : ∀ (pins : List (Addr × Obj)) (s : Shared), Inv X pins σ H s → wpAny (model X.prog X.w) X.A (isTrue e X.env (eval e X.env)) (TP X pins σ Q) X.xe s
structure wW (X : Cx) (e : Expr)  (σ : L2.St) (H : Hp) (Q : Bool → Hp → Prop) : Prop where
  run : ∀ (whole : Sem Value) (pins : List (Addr × Obj)) (s : Shared), Inv X pins σ H s → wpAny (model X.prog X.w) X.A (isTrue e X.env whole) (TP X pins σ Q) X.xe s
structure wA (X : Cx) (es : List Expr)  (σ : L2.St) (H : Hp) (Q : List V → Hp → Prop) : Prop where
  run : ∀ (pos : Pos) (pins : List (Addr × Obj)) (s : Shared), Inv X pins σ H s → wpAny (model X.prog X.w) X.A (spliced (backTo pos (starEach es X.env))) (AP X pins σ Q) X.xe s
structure wS (X : Cx) (st : Stmt)  (D : Ends) (σ : L2.St) (H : Hp) : Prop where
  run : ∀ (pins : List (Addr × Obj)) (s : Shared), Inv X pins σ H s → wpAny (model X.prog X.w) X.A (exec st X.env) (SP X pins D) X.xe s
structure wSs (X : Cx) (st : List Stmt)  (D : Ends) (σ : L2.St) (H : Hp) : Prop where
  run : ∀ (pins : List (Addr × Obj)) (s : Shared), Inv X pins σ H s → wpAny (model X.prog X.w) X.A (execs st X.env) (SP X pins D) X.xe s
structure wG (X : Cx) (tg : Expr)  (v : V) (σ : L2.St) (H : Hp) (Q : L2.St → Hp → Prop) : Prop where
  run : ∀ (pins : List (Addr × Obj)) (s : Shared) (u : Value), Inv X pins σ H s → RelV v u →
    wpAny (model X.prog X.w) X.A (assign tg X.env u) (fun _ s' => ∃ σ' H', Inv X pins σ' H' s' ∧ Q σ' H') X.xe s
structure wI (X : Cx) (tg iter : Expr)  (σ : L2.St) (H : Hp) (R : It → Hp → Prop) : Prop where
  run : ∀ (pins : List (Addr × Obj)) (s : Shared), Inv X pins σ H s →
    wpAny (model X.prog X.w) X.A (eval iter X.env) (fun v s1 => wpAny (model X.prog X.w) X.A (pyIter v) (PIE X pins σ tg R) X.xe s1) X.xe s
/-- operations by values -/
structure wB (X : Cx) (f : Value → Value → Sem Value)  (x y : V) (H : Hp) (Q : VK) : Prop where
  run : ∀ (pins : List (Addr × Obj)) (s : Shared) (σ : L2.St) (v u : Value), Inv X pins σ H s → RelV x v → RelV y u → wpAny (model X.prog X.w) X.A (f v u) (EP X pins σ Q) X.xe s
structure wU (X : Cx) (f : Value → Sem Value)  (x : V) (H : Hp) (Q : VK) : Prop where
  run : ∀ (pins : List (Addr × Obj)) (s : Shared) (σ : L2.St) (v : Value), Inv X pins σ H s → RelV x v → wpAny (model X.prog X.w) X.A (f v) (EP X pins σ Q) X.xe s
structure wC (X : Cx) (f : Value)  (xs : List V) (H : Hp) (Q : VK) : Prop where
  run : ∀ (pins : List (Addr × Obj)) (s : Shared) (σ : L2.St) (us : List Value), Inv X pins σ H s → Vals xs us → wpAny (model X.prog X.w) X.A (call f us) (EP X pins σ Q) X.xe s
structure wM (X : Cx) (id : String)  (x : V) (xs : List V) (H : Hp) (Q : VK) : Prop where
  run : ∀ (pins : List (Addr × Obj)) (s : Shared) (σ : L2.St) (v : Value) (us : List Value), Inv X pins σ H s → RelV x v → Vals xs us →
    wpAny (model X.prog X.w) X.A (call (.builtin id) (v :: us)) (EP X pins σ Q) X.xe s
structure wX (X : Cx)  (x y : V) (H : Hp) (Q : VK) : Prop where
  run : ∀ (value slice : Expr) (pins : List (Addr × Obj)) (s : Shared) (σ : L2.St) (v u : Value), Inv X pins σ H s → RelV x v → RelV y u →
    subscripted slice false v u = operate [v, u] (getItem v u) → wpAny (model X.prog X.w) X.A (subscriptTail value slice v u) (EP X pins σ Q) X.xe s

section
variable {X : Cx} {e a b c : Expr} {es : List Expr} {σ : L2.St} {H : Hp} {Q Q' : VK} {pos : Pos}
theorem pe_w : PE X e (wE X e) := ⟨fun pins s _ _ _ I h => h.run pins s I⟩
theorem pt_w : PT X e (wT X e) := ⟨fun pins s _ _ _ I h => h.run pins s I⟩
theorem pw_w : PW X e (wW X e) := ⟨fun wh pins s _ _ _ I h => h.run wh pins s I⟩
theorem pa_w : PA X es (wA X es) := ⟨fun pos pins s _ _ _ I h => h.run pos pins s I⟩
theorem ps_w {st : Stmt} : PS X st (wS X st) := ⟨fun pins s _ _ _ I h => h.run pins s I⟩
theorem pss_w {st : List Stmt} : PSs X st (wSs X st) := ⟨fun pins s _ _ _ I h => h.run pins s I⟩
theorem pg_w {tg : Expr} : PG X tg (wG X tg) := ⟨fun pins s _ _ _ u _ I r h => h.run pins s u I r⟩
theorem pi_w {tg iter : Expr} : PI X tg iter (wI X tg iter) := ⟨fun pins s _ _ _ I h => h.run pins s I⟩
theorem op_w {f : Value → Value → Sem Value} : OpR X f (wB X f) := fun pins s σ _ _ _ v u _ I r1 r2 h => h.run pins s σ v u I r1 r2
theorem un_w {f : Value → Sem Value} : UnR X f (wU X f) := fun pins s σ _ _ v _ I r1 h => h.run pins s σ v I r1
theorem call_w {f : Value} : CallR X f (wC X f) := fun pins s σ _ _ us _ I r1 h => h.run pins s σ us I r1
theorem mt_w {id : String} : MtR X id (wM X id) := fun pins s σ _ _ _ v us _ I r1 r2 h => h.run pins s σ v us I r1 r2
theorem ix_w : IxR X (wX X) := fun value slice pins s σ _ _ _ v u _ I r1 r2 h hs => h.run value slice pins s σ v u I r1 r2 hs

theorem of_pe {t : TE} (h : PE X e t) (q : t σ H Q) : wE X e σ H Q := ⟨fun pins s I => h.run pins s σ H Q I q⟩
theorem of_pt {t : TT} {Q : Bool → Hp → Prop} (h : PT X e t) (q : t σ H Q) : wT X e σ H Q := ⟨fun pins s I => h.run pins s σ H Q I q⟩
theorem of_pw {t : TT} {Q : Bool → Hp → Prop} (h : PW X e t) (q : t σ H Q) : wW X e σ H Q := ⟨fun wh pins s I => h.run wh pins s σ H Q I q⟩
theorem of_pa {t : TA} {Q : List V → Hp → Prop} (h : PA X es t) (q : t σ H Q) : wA X es σ H Q := ⟨fun pos pins s I => h.run pos pins s σ H Q I q⟩
theorem of_ps {st : Stmt} {t : TS} {D : Ends} (h : PS X st t) (q : t D σ H) : wS X st D σ H := ⟨fun pins s I => h.run pins s σ H D I q⟩
theorem of_pss {st : List Stmt} {t : TS} {D : Ends} (h : PSs X st t) (q : t D σ H) : wSs X st D σ H := ⟨fun pins s I => h.run pins s σ H D I q⟩
theorem of_pg {tg : Expr} {t : TG} {v : V} {Q : L2.St → Hp → Prop} (h : PG X tg t) (q : t v σ H Q) : wG X tg v σ H Q := ⟨fun pins s u I r => h.run pins s σ H v u Q I r q⟩
theorem of_pi {tg iter : Expr} {t : TI} {R : It → Hp → Prop} (h : PI X tg iter t) (q : t σ H R) : wI X tg iter σ H R := ⟨fun pins s I => h.run pins s σ H R I q⟩
theorem of_op {f : Value → Value → Sem Value} {r : R2} {x y : V} (h : OpR X f r) (q : r x y H Q) : wB X f x y H Q := ⟨fun pins s σ v u I r1 r2 => h pins s σ H x y v u Q I r1 r2 q⟩
theorem of_un {f : Value → Sem Value} {r : V → Hp → VK → Prop} {x : V} (h : UnR X f r) (q : r x H Q) : wU X f x H Q := ⟨fun pins s σ v I r1 => h pins s σ H x v Q I r1 q⟩
theorem of_call {f : Value} {r : List V → Hp → VK → Prop} {xs : List V} (h : CallR X f r) (q : r xs H Q) : wC X f xs H Q := ⟨fun pins s σ us I r1 => h pins s σ H xs us Q I r1 q⟩
theorem of_mt {id : String} {r : V → List V → Hp → VK → Prop} {x : V} {xs : List V} (h : MtR X id r) (q : r x xs H Q) : wM X id x xs H Q := ⟨fun pins s σ v us I r1 r2 => h pins s σ H x xs v us Q I r1 r2 q⟩
theorem of_ix {r : R2} {x y : V} (h : IxR X r) (q : r x y H Q) : wX X x y H Q := ⟨fun value slice pins s σ v u I r1 r2 hs => h value slice pins s σ H x y v u Q I r1 r2 q hs⟩

theorem EP.imp {pins : List (Addr × Obj)} {v : Value} {s : Shared} (h : ∀ x H1, Q x H1 → Q' x H1) (q : EP X pins σ Q v s) : EP X pins σ Q' v s := let ⟨x, H1, I, r, k⟩ := q; ⟨x, H1, I, r, h x H1 k⟩
theorem wE.imp (q : wE X e σ H Q) (h : ∀ x H1, Q x H1 → Q' x H1) : wE X e σ H Q' := ⟨fun pins s I => thn (q.run pins s I) fun _ _ => EP.imp h⟩
theorem wT.imp {Q Q' : Bool → Hp → Prop} (q : wT X e σ H Q) (h : ∀ x H1, Q x H1 → Q' x H1) : wT X e σ H Q' := ⟨fun pins s I => thn (q.run pins s I) fun _ _ ⟨H1, I1, k⟩ => ⟨H1, I1, h _ H1 k⟩⟩
theorem wA.imp {Q Q' : List V → Hp → Prop} (q : wA X es σ H Q) (h : ∀ x H1, Q x H1 → Q' x H1) : wA X es σ H Q' := ⟨fun pos pins s I => thn (q.run pos pins s I) fun _ _ ⟨x, H1, I1, r, k⟩ => ⟨x, H1, I1, r, h x H1 k⟩⟩
theorem wB.imp {f : Value → Value → Sem Value} {x y : V} (q : wB X f x y H Q) (h : ∀ x H1, Q x H1 → Q' x H1) : wB X f x y H Q' := ⟨fun pins s σ v u I r1 r2 => thn (q.run pins s σ v u I r1 r2) fun _ _ => EP.imp h⟩
theorem wC.imp {f : Value} {xs : List V} (q : wC X f xs H Q) (h : ∀ x H1, Q x H1 → Q' x H1) : wC X f xs H Q' := ⟨fun pins s σ us I r1 => thn (q.run pins s σ us I r1) fun _ _ => EP.imp h⟩

/-! ### expressions -/
theorem w_int {i : Int} {j} (k : Q (.int i) H) : wE X (.Constant (.int i) j pos) σ H Q := of_pe pe_int k
theorem w_bl {b : Bool} {j} (k : Q (.bl b) H) : wE X (.Constant (.bool b) j pos) σ H Q := of_pe pe_bl k
theorem w_non {j} (k : Q .non H) : wE X (.Constant .none j pos) σ H Q := of_pe pe_non k
theorem w_str {x : Str} {j} (k : Q (.str x) H) : wE X (.Constant (.str x) j pos) σ H Q := of_pe pe_str k
/-- a name of the def in slot i -/
theorem w_v (i : Nat) {x : Str} {v : V} (hN : X.N[i]? = some x) (hv : Vis X.env.scope x) (hs : σ[i]? = some (some v)) (k : Q v H) (hd : (x == ("__debug__" : Str)) = false := by decide) (hcd : (x == ("__classdict__" : Str)) = false := by decide) : wE X (.Name x pos) σ H Q :=
  of_pe (pe_var hN hv hd hcd) ⟨v, hs, k⟩
theorem w_g {x : Str} {v : V} {u : Value} (hg : Gl X x) (hm : X.mg x = some u) (r : RelV v u) (k : Q v H) (hd : (x == ("__debug__" : Str)) = false := by decide) : wE X (.Name x pos) σ H Q := of_pe (pe_glob hg hm r hd) k
theorem w_bt {x : Str} {v : V} {u : Value} (hg : Gl X x) (hm : X.mg x = none) (hv : bootBuiltins x = some u) (r : RelV v u) (k : Q v H) (hn : x ≠ "__name__" := by decide) (hd : (x == ("__debug__" : Str)) = false := by decide) : wE X (.Name x pos) σ H Q := of_pe (pe_bltn hg hm hv r hn hd) k
theorem w_op {op : Operator} (k : wE X a σ H fun x H1 => wE X b σ H1 fun y H2 => wB X (binaryOp op) x y H2 Q) : wE X (.BinOp a op b pos) σ H Q := of_pe (pe_op op_w pe_w pe_w) k
theorem w_un {op : UnaryOp} (k : wE X a σ H fun x H1 => wU X (unaryOp op) x H1 Q) : wE X (.UnaryOp op a pos) σ H Q := of_pe (pe_un un_w pe_w) k
theorem w_cmp {op : CmpOp} (hm : behindInMarks op b = false) (k : wE X a σ H fun x H1 => wE X b σ H1 fun y H2 => wB X (compareOp op) x y H2 Q) : wE X (.Compare a [op] [b] pos) σ H Q := of_pe (pe_cmpR op_w pe_w pe_w hm) k
theorem w_chain {op op' : CmpOp} (k : wE X a σ H fun x H1 => wE X b σ H1 fun y H2 => wB X (compareOp op) x y H2 fun z H3 => ∃ k, z = .bl k ∧ (if k = true then wE X c σ H3 fun w' H4 => wB X (compareOp op') y w' H4 Q else Q (.bl false) H3))
    (hm : lastMarks [op, op'] [b, c] = false := by with_unfolding_all rfl) : wE X (.Compare a [op, op'] [b, c] pos) σ H Q := of_pe (pe_chain op_w op_w pe_w pe_w pe_w hm) k
theorem w_and {rest : List Expr} (k : wE X a σ H fun x H1 => ∃ c, x = .bl c ∧ if c = true then wE X (.BoolOp .And (b :: rest) pos) σ H1 Q else Q (.bl false) H1) : wE X (.BoolOp .And (a :: b :: rest) pos) σ H Q := of_pe (pe_and pe_w pe_w) k
theorem w_or {rest : List Expr} (k : wE X a σ H fun x H1 => ∃ c, x = .bl c ∧ if c = true then Q (.bl true) H1 else wE X (.BoolOp .Or (b :: rest) pos) σ H1 Q) : wE X (.BoolOp .Or (a :: b :: rest) pos) σ H Q := of_pe (pe_or pe_w pe_w) k
theorem w_one {op} (k : wE X a σ H Q) : wE X (.BoolOp op [a] pos) σ H Q := of_pe (pe_one pe_w) k
theorem w_not (k : wE X a σ H fun x H1 => ∃ c, x = .bl c ∧ Q (.bl (!c)) H1) : wE X (.UnaryOp .Not a pos) σ H Q := of_pe (pe_not pe_w) k
theorem w_ife (k : wT X c σ H fun d H1 => if d = true then wE X a σ H1 Q else wE X b σ H1 Q) : wE X (.IfExp c a b pos) σ H Q := of_pe (pe_ifExp pt_w pe_w pe_w) k
theorem w_tup {j} (k : wA X es σ H fun xs H1 => xs.length ≤ sizeLine ∧ ∀ p, H1 p = none → Q (.ref p) (upd H1 p (.tup xs))) : wE X (.Tuple es j pos) σ H Q := of_pe (pe_tup pa_w) k
theorem w_lst (k : wA X es σ H fun xs H1 => xs.length ≤ sizeLine ∧ ∀ p, H1 p = none → Q (.ref p) (upd H1 p (.lst xs))) : wE X (.List es pos) σ H Q := of_pe (pe_lst pa_w) k
theorem w_ix (hs : PlainIx b) (k : wE X a σ H fun x H1 => wE X b σ H1 fun y H2 => wX X x y H2 Q) : wE X (.Subscript a b pos) σ H Q := of_pe (pe_ix ix_w pe_w pe_w hs) k
theorem w_callB {x : Str} {p : Pos} {id : String} (hg : Gl X x) (hm : X.mg x = none) (hv : bootBuiltins x = some (.builtin id)) (k : wA X (e :: es) σ H fun vs H1 => wC X (.builtin id) vs H1 Q) (hn : x ≠ "__name__" := by decide) (hdb : (x == ("__debug__" : Str)) = false := by decide)
    (he : starEach (e :: es) X.env = (false, eval e X.env) :: starEach es X.env := by rfl) (hpl : (backTo pos (starEach es X.env)).any (·.1) = false := by rfl) : wE X (.Call (.Name x p) (e :: es) [] pos) σ H Q := of_pe (pe_callB call_w hg hm hv pa_w hn hdb he hpl) k
theorem w_callT {x : Str} {p : Pos} {T : String} (hg : Gl X x) (hm : X.mg x = none) (hv : bootBuiltins x = some (.type T)) (k : wA X (e :: es) σ H fun vs H1 => wC X (.type T) vs H1 Q) (hn : x ≠ "__name__" := by decide) (hdb : (x == ("__debug__" : Str)) = false := by decide)
    (he : starEach (e :: es) X.env = (false, eval e X.env) :: starEach es X.env := by rfl) (hpl : (backTo pos (starEach es X.env)).any (·.1) = false := by rfl) : wE X (.Call (.Name x p) (e :: es) [] pos) σ H Q := of_pe (pe_callTy call_w hg hm hv pa_w hn hdb he hpl) k
theorem w_bm {o : Expr} {name : Str} {T id : String} {apos : Pos} (pa : PlainAttrs T) (slot : Slot T name id) (hty : typeOf (.builtin id) = pure (.type "method_descriptor"))
    (k : wE X o σ H fun x H1 => tyV X.K T x H1 ∧ wA X (e :: es) σ H1 fun xs H2 => wM X id x xs H2 Q)
    (hbase : attributeBase o name X.env (eval o X.env) = eval o X.env := by rfl)
    (hfew : ((backTo pos (starEach (e :: es) X.env)).all (fun x => !x.1) && (backToKw pos (keywordEach [] X.env)).all (fun x => x.1.isSome)
      && decide ((e :: es).length + ([] : List Keyword).length + (if ([] : List Keyword).isEmpty then 0 else 1) < 30)) = true := by rfl)
    (hline : (apos.endLine == pos.line) = true := by rfl) (hs : starEach (e :: es) X.env = (false, eval e X.env) :: starEach es X.env := by rfl) (hplain : (backTo pos (starEach es X.env)).any (·.1) = false := by rfl) :
    wE X (.Call (.Attribute o name apos) (e :: es) [] pos) σ H Q := of_pe (pe_bm pa slot hty mt_w pe_w pa_w hbase hfew hline hs hplain) k
theorem w_bm0 {o : Expr} {name : Str} {T id : String} {apos : Pos} (pa : PlainAttrs T) (slot : Slot T name id) (hty : typeOf (.builtin id) = pure (.type "method_descriptor"))
    (k : wE X o σ H fun x H1 => tyV X.K T x H1 ∧ wM X id x [] H1 Q)
    (hbase : attributeBase o name X.env (eval o X.env) = eval o X.env := by rfl) (hline : (apos.endLine == pos.line) = true := by rfl) : wE X (.Call (.Attribute o name apos) [] [] pos) σ H Q := of_pe (pe_bm0 pa slot hty mt_w pe_w hbase hline) k

/-! ### arguments -/
theorem wa_nil {Q : List V → Hp → Prop} (k : Q [] H) : wA X [] σ H Q := of_pa pa_nil k
theorem wa_cons {Q : List V → Hp → Prop} (k : wE X e σ H fun x H1 => wA X es σ H1 fun xs H2 => Q (x :: xs) H2) (hs : starEach (e :: es) X.env = (false, eval e X.env) :: starEach es X.env := by rfl) : wA X (e :: es) σ H Q := of_pa (pa_cons pe_w pa_w hs) k

/-! ### tests -/
section
variable {Q : Bool → Hp → Prop}
/-- a value as a test -/
theorem t_val (k : wE X e σ H fun x H1 => ∃ d, TruV X.K x H1 d ∧ Q d H1) (he : ∀ whole, isTrue e X.env whole = (do let v ← whole; standAt e.pos; holding [v] (truthy v)) := by intro _; rfl) : wT X e σ H Q := of_pt (pt_truth pe_w he) k
theorem t_cmp {op : CmpOp} (hm : behindInMarks op b = false) (k : wE X a σ H fun x H1 => wE X b σ H1 fun y H2 => wB X (compareOp op) x y H2 fun z H3 => ∃ d, z = .bl d ∧ Q d H3) : wT X (.Compare a [op] [b] pos) σ H Q := of_pt (pt_cmpR op_w pe_w pe_w hm) k
theorem t_chain {op op' : CmpOp} (k : wE X a σ H fun x H1 => wE X b σ H1 fun y H2 => wB X (compareOp op) x y H2 fun z H3 => ∃ k, z = .bl k ∧ (if k = true then wE X c σ H3 fun w' H4 => wB X (compareOp op') y w' H4 (fun z H5 => ∃ d, z = .bl d ∧ Q d H5) else ∃ d, V.bl false = .bl d ∧ Q d H3))
    (hm : lastMarks [op, op'] [b, c] = false := by with_unfolding_all rfl) : wT X (.Compare a [op, op'] [b, c] pos) σ H Q := of_pt (pt_chain op_w op_w pe_w pe_w pe_w hm) k
theorem t_not (k : wT X a σ H fun d H1 => Q (!d) H1) : wT X (.UnaryOp .Not a pos) σ H Q := of_pt (pt_not pt_w) k
theorem t_and {rest : List Expr} (k : wT X a σ H fun d H1 => if d = true then wW X (.BoolOp .And (b :: rest) pos) σ H1 Q else Q false H1) : wT X (.BoolOp .And (a :: b :: rest) pos) σ H Q := of_pt (pw_and pt_w pw_w).pt k
theorem t_or {rest : List Expr} (k : wT X a σ H fun d H1 => if d = true then Q true H1 else wW X (.BoolOp .Or (b :: rest) pos) σ H1 Q) : wT X (.BoolOp .Or (a :: b :: rest) pos) σ H Q := of_pt (pw_or pt_w pw_w).pt k
theorem ww_and {rest : List Expr} (k : wT X a σ H fun d H1 => if d = true then wW X (.BoolOp .And (b :: rest) pos) σ H1 Q else Q false H1) : wW X (.BoolOp .And (a :: b :: rest) pos) σ H Q := of_pw (pw_and pt_w pw_w) k
theorem ww_or {rest : List Expr} (k : wT X a σ H fun d H1 => if d = true then Q true H1 else wW X (.BoolOp .Or (b :: rest) pos) σ H1 Q) : wW X (.BoolOp .Or (a :: b :: rest) pos) σ H Q := of_pw (pw_or pt_w pw_w) k
theorem ww_and1 (k : wT X a σ H Q) : wW X (.BoolOp .And [a] pos) σ H Q := of_pw (pw_and1 pt_w) k
theorem ww_or1 (k : wT X a σ H Q) : wW X (.BoolOp .Or [a] pos) σ H Q := of_pw (pw_or1 pt_w) k
end

/-! ### statements -/
section
variable {D : Ends} {st : Stmt} {rest sa sb : List Stmt}
theorem ss_nil (k : D.nx σ H) : wSs X [] D σ H := of_pss pss_nil k
theorem ss_cons (k : wS X st { D with nx := wSs X rest D } σ H) : wSs X (st :: rest) D σ H := of_pss (pss_cons ps_w pss_w) k
theorem ss_one (k : wS X st D σ H) : wSs X [st] D σ H := of_pss (pss_one ps_w) k
theorem s_ret (k : wE X e σ H D.rt) : wS X (.Return (some e) pos) D σ H := of_ps (ps_ret pe_w) k
theorem s_retN (k : D.rt .non H) : wS X (.Return none pos) D σ H := of_ps ps_retN k
theorem s_expr (k : wE X e σ H fun _ H1 => D.nx σ H1) (hs : swapsWith e none pos.line X.env = pure false := by rfl) : wS X (.Expr e pos) D σ H := of_ps (ps_expr pe_w hs) k
theorem s_if (k : wT X c σ H fun d H1 => if d = true then wSs X sa D σ H1 else wSs X sb D σ H1) : wS X (.If c sa sb pos) D σ H := of_ps (ps_if pt_w pss_w pss_w) k
theorem s_set (i : Nat) {x : Str} {pos' : Pos} (hN : X.N.Nodup) (hi : X.N[i]? = some x) (hx : Loc X.env.scope x) (k : wE X e σ H fun v H1 => D.nx (σ.set i (some v)) H1)
    (hs : swapsWith e (some (.Name x pos')) pos.line X.env = pure false := by rfl) (hf : X.fn x = true ∨ X.env.scope.names.lookup x = some .local := by first | exact .inl rfl | exact .inr rfl) : wS X (.Assign [.Name x pos'] e pos) D σ H := of_ps (ps_set hN hi hx pe_w hs hf) k
theorem s_asg {tg : Expr} (k : wE X e σ H fun v H1 => wG X tg v σ H1 D.nx) (hs : swapsWithSole [tg] e pos.line X.env = pure false := by rfl) (hw : swappedStores [tg] e X.env = pure none := by rfl) (h1 : (assignEach [tg] X.env).map (·.2) = [assign tg X.env] := by rfl) :
    wS X (.Assign [tg] e pos) D σ H := of_ps (ps_asg pe_w pg_w hs hw h1) k
theorem s_for {tg iter : Expr} (hp : PassesOwn (model X.prog X.w) X.A X.env X.xe) (hc : X.calm = true)
    (k : wI X tg iter σ H fun J H1 => ∃ W : Nat → Nat → L2.St → Hp → Prop, (∃ m, W 0 m σ H1) ∧ ∀ i m σ H, W i m σ H →
      (J.stop i H ∧ D.nx σ H) ∨ (J.go i H ∧ ∃ N : L2.St → Hp → Prop, (∀ σ' H', N σ' H' → ∃ m', m' < m ∧ W (i + 1) m' σ' H') ∧ ∀ x H', J.yld i H x H' → wG X tg x σ H' fun σ2 H2 => wSs X sa { D with nx := N, ct := N, bk := D.nx } σ2 H2))
    (hs : ∀ x, foldedSetIterable iter X.env x = pure x := by intro _; rfl) : wS X (.For tg iter sa [] pos) D σ H := of_ps (ps_for hp hc pi_w pg_w pss_w hs) k
theorem s_while (hp : PassesOwn (model X.prog X.w) X.A X.env X.xe) (k : ∃ W : Nat → L2.St → Hp → Prop, (∃ m, W m σ H) ∧ ∀ m σ H, W m σ H →
    wT X c σ H fun b H1 => if b = true then ∃ N : L2.St → Hp → Prop, (∀ σ' H', N σ' H' → ∃ m', m' < m ∧ W m' σ' H') ∧ wSs X sa { D with nx := N, ct := N, bk := D.nx } σ H1 else D.nx σ H1) : wS X (.While c sa [] pos) D σ H := of_ps (ps_while hp pt_w pss_w) k
theorem g_name (i : Nat) {x : Str} {v : V} {Q : L2.St → Hp → Prop} (hN : X.N.Nodup) (hi : X.N[i]? = some x) (hx : Loc X.env.scope x) (k : Q (σ.set i (some v)) H) (hf : X.fn x = true ∨ X.env.scope.names.lookup x = some .local := by first | exact .inl rfl | exact .inr rfl) :
    wG X (.Name x pos) v σ H Q := of_pg (pg_name hN hi hx hf) k
end
end
end G

end Part_G1
section Part_G2
set_option maxRecDepth 100000
set_option maxHeartbeats 2000000
/-! G2: defs and their calls, with the guards told (for repr): FnG, CalG; the law's entry. -/
namespace G
open PySem PySem.Spec PyProof.Rows L2

structure RoomG (k : Nat) (A : Around) : Prop where
  r : Room k A
  g : A.guards = some []
theorem RoomG.mono {j k : Nat} {A : Around} (h : RoomG k A) (hj : j ≤ k) : RoomG j A := ⟨h.r.mono hj, h.g⟩
theorem RoomG.deeper {k : Nat} {A : Around} (h : RoomG (k + 1) A) (env : Env) : RoomG k (A.deeper env) := ⟨h.r.deeper env, h.g⟩

/-- a def at f keeps its promise, where nothing is being shown -/
structure FnG (P : Program) (w : World) (K : PySem.W.Frag) (mg : Str → Option Value) (base : Heap) (CX : CXT) (k : Nat) (f : Addr) (fd : FuncData) (ps : List Str) (sp : Sp) : Prop where
  len : ∀ vs H Q E, sp vs H Q E → vs.length = ps.length
  run : ∀ (A : Around) (outer : List Env) (s : Shared) (H : Hp) (args : Args) (us : List Value) (vs : List V) (Q : VK) (E : XK), RoomG k A →
    Env0 P w K mg base A outer s H → BindsTo s fd args (ps.zip us) → Vals vs us → sp vs H Q E → codeAny (model P w) A (.call (.ref f) args) (CR CX outer P w H s Q E) s
section
variable {P : Program} {w : World} {K : PySem.W.Frag} {mg : Str → Option Value} {base : Heap} {CX : CXT} {k : Nat} {f : Addr} {fd : FuncData} {ps : List Str} {sp : Sp}
theorem FnG.mono {j : Nat} (F : FnG P w K mg base CX j f fd ps sp) (h : j ≤ k) : FnG P w K mg base CX k f fd ps sp :=
  ⟨F.len, fun A outer s H args us vs Q E hr => F.run A outer s H args us vs Q E (RoomG.mono hr h)⟩
theorem FnG.imp {sp' : Sp} (F : FnG P w K mg base CX k f fd ps sp) (h : ∀ vs H Q E, sp' vs H Q E → sp vs H Q E) : FnG P w K mg base CX k f fd ps sp' :=
  ⟨fun vs H Q E q => F.len vs H Q E (h vs H Q E q), fun A outer s H args us vs Q E hr he hb hv hs => F.run A outer s H args us vs Q E hr he hb hv (h vs H Q E hs)⟩

/-- a def by its body's weakest reading -/
theorem fnG_of {x qual : Str} {st : Stmt} {N : List Str} (F : Fun K x qual st f fd) (S : FnScope N ps (defScope st)) (len : ∀ vs H Q E, sp vs H Q E → vs.length = ps.length)
    (hb : ∀ (cdv : Value) (A : Around) (outer : List Env) (s : Shared) (H : Hp) (vs : List V) (Q : VK) (E : XK), RoomG k (A.deeper (envOfC qual (defScope st) s.heap.objs.size f cdv)) → sp vs H Q E →
      wSs (cxOf CX P w K mg base N qual (defScope st) f cdv A outer s H E) (defBody st) { nx := fun _ H' => Q .non H', rt := Q } (start N vs) H) :
    FnG P w K mg base CX (k + 1) f fd ps sp := by
  obtain ⟨oc, od, kV, doc, pm, an, cdv, ct, osl, rfl, lk, hcd⟩ := F.ex
  refine ⟨len, fun A outer s H args us vs Q E hr e0 bnd rel hsp => ?_⟩
  have hlen := len vs H Q E hsp
  have old : ∀ b o, base.get? b = some o → s.heap.get? b = some o := fun b o e => (e0.bs b o e).1
  have KX : K.In s.heap := e0.mod.kin.keeps old
  refine codeAny_call_function hr.r.depth (KX f _ lk) rfl S.co S.gen rfl (PySem.W.codeRec_of KX hcd) (bnd _ _ _ _ ?_)
  refine wpAny_newFunctionEnv_cells S.kind (fun y hy => ?_) fun env he s1 x => ?_
  · rcases S.par y.1 (List.of_mem_zip (a := y.1) (b := y.2) hy).1 with q | q
    · exact Or.inl q
    · exact Or.inr ⟨q, PySem.W.cellsFrom_some _ _ _ (Or.inl q)⟩
  · subst he
    refine ⟨(e0.mod.nolimit.keeps old).keeps x.toInCall.keep, codeAny_func ?_⟩
    have body := hb cdv A outer s H vs Q E (hr.deeper _) hsp
    refine wpAny_mono (body.run [] s1 (inv_start S hr.r.hd e0 hlen rel x)) (fun fl s' hs => ?_) fun _ _ he => he
    cases fl with
    | brk => exact hs.elim fun _ h => h.elim fun _ h => False.elim h.2
    | cont => exact hs.elim fun _ h => h.elim fun _ h => False.elim h.2
    | next =>
      obtain ⟨_, H', J, q⟩ := hs
      exact ⟨V.non, H', J.os, J.bare, J.base, J.hok, rfl, q⟩
    | ret u =>
      obtain ⟨v, _, H', J, rv, q⟩ := hs
      exact ⟨v, H', J.os, J.bare, J.base, J.hok, rv, q⟩
/-- .. where nothing is raised -/
theorem fnG0 {x qual : Str} {st : Stmt} {N : List Str} (F : Fun K x qual st f fd) (S : FnScope N ps (defScope st)) (len : ∀ vs H Q E, sp vs H Q E → vs.length = ps.length)
    (hb : ∀ (cdv : Value) (A : Around) (outer : List Env) (s : Shared) (H : Hp) (vs : List V) (Q : VK) (E : XK), RoomG k (A.deeper (envOfC qual (defScope st) s.heap.objs.size f cdv)) → sp vs H Q E →
      wSs (cxOf CX0 P w K mg base N qual (defScope st) f cdv A outer s H E).nox (defBody st) { nx := fun _ H' => Q .non H', rt := Q } (start N vs) H) :
    FnG P w K mg base CX0 (k + 1) f fd ps sp := fnG_of F S len fun cdv A outer s H vs Q E hr hs => of_pss (PSs.nox (pss_w)) (hb cdv A outer s H vs Q E hr hs)
end

/-! ### calls -/
/-- the global name x is a def that keeps sp -/
structure CalG (P : Program) (w : World) (K : PySem.W.Frag) (mg : Str → Option Value) (base : Heap) (k : Nat) (x : Str) (ps : List Str) (sp : Sp) : Prop where
  ex : ∃ (f : Addr) (fd : FuncData), mg x = some (.ref f) ∧ PySem.W.keepIn K (.ref f) = true ∧ Binds K fd ps [] ∧ FnG P w K mg base CX0 k f fd ps sp
/-- .. called by keywords alone, in the parameters' order -/
structure CalW (P : Program) (w : World) (K : PySem.W.Frag) (mg : Str → Option Value) (base : Heap) (k : Nat) (x : Str) (ps ks : List Str) (sp : Sp) : Prop where
  ex : ∃ (f : Addr) (fd : FuncData), mg x = some (.ref f) ∧ PySem.W.keepIn K (.ref f) = true ∧
    (∀ (s : Shared) (ws : List Value), K.In s.heap → ws.length = ps.length → BindsTo s fd ⟨[], ks.zip ws⟩ (ps.zip ws)) ∧ FnG P w K mg base CX0 k f fd ps sp
section
variable {X : Cx} {k j : Nat} {x : Str} {ps : List Str} {sp : Sp} {e : Expr} {es : List Expr} {p pos : Pos} {σ : L2.St} {H : Hp} {Q : VK}
theorem run_fnG {f : Addr} {fd : FuncData} {args : Args} {pins : List (Addr × Obj)} {s : Shared} {us : List Value} {vs : List V} (F : FnG X.prog X.w X.K X.mg X.base CX0 k f fd ps sp) (hr : RoomG k X.A) (bnd : BindsTo s fd args (ps.zip us))
    (I : Inv X pins σ H s) (rel : Vals vs us) (h : sp vs H Q E0) : codeAny (model X.prog X.w) X.A (.call (.ref f) args) (fun r s' => match r with | .ok (.ret u) => EP X pins σ Q u s' | _ => False) s := by
  refine codeAny_mono (F.run X.A X.stack s H args us vs Q E0 hr I.env0 bnd rel h) fun r s' hq => ?_
  cases r with
  | error e => exact hq.elim
  | ok fl => cases fl with
    | ret u => exact I.after hq
    | next => exact hq.elim
    | brk => exact hq.elim
    | cont => exact hq.elim
theorem w_call (c : CalG X.prog X.w X.K X.mg X.base k x ps sp) (hr : RoomG j X.A) (hk : k ≤ j) (hg : Gl X x) (q : wA X (e :: es) σ H fun vs H1 => sp vs H1 Q E0)
    (hdb : (x == ("__debug__" : Str)) = false := by decide) (he : starEach (e :: es) X.env = (false, eval e X.env) :: starEach es X.env := by rfl) (hpl : (backTo pos (starEach es X.env)).any (·.1) = false := by rfl) : wE X (.Call (.Name x p) (e :: es) [] pos) σ H Q := by
  obtain ⟨f, fd, hm, hkp, hb, F⟩ := c.ex
  refine ⟨fun pins s I => ?_⟩
  refine wpAny_Call_Name_kw (ld_glob I hg hm ?_ hdb)
  refine PySem.W.callWith_K (h₀ := X.base) I.mod.kin hkp (thn (q.run pos pins s I) fun us s1 h1 => ?_) he hpl
  obtain ⟨vs, H1, I1, r, h⟩ := h1
  refine ⟨I1.kIn, wpAny_call (codeAny_mono (run_fnG (us := us) F (hr.mono hk) ?_ I1 r h) fun rr s' hq => ?_)⟩
  · have b := hb s1 us I1.kIn (by rw [List.append_nil, ← r.length]; exact F.len _ _ _ _ h)
    rw [List.append_nil] at b
    exact b
  · cases rr with
    | error e => exact hq.elim
    | ok fl => cases fl with
      | ret u => exact hq
      | next => exact hq.elim
      | brk => exact hq.elim
      | cont => exact hq.elim
theorem w_call0 (c : CalG X.prog X.w X.K X.mg X.base k x ps sp) (hr : RoomG j X.A) (hk : k ≤ j) (hg : Gl X x) (q : sp [] H Q E0) (hdb : (x == ("__debug__" : Str)) = false := by decide) : wE X (.Call (.Name x p) [] [] pos) σ H Q := by
  obtain ⟨f, fd, hm, hkp, hb, F⟩ := c.ex
  refine ⟨fun pins s I => ?_⟩
  refine wpAny_Call_Name_kw (ld_glob I hg hm ?_ hdb)
  refine PySem.W.callWith_K0 I.kIn hkp (wpAny_call (codeAny_mono (run_fnG (us := []) (vs := []) F (hr.mono hk) ?_ I .nil q) fun rr s' hq => ?_))
  · have b := hb s [] I.kIn (by have := F.len _ _ _ _ q; simpa using this)
    exact b
  · cases rr with
    | error e => exact hq.elim
    | ok fl => cases fl with
      | ret u => exact hq
      | next => exact hq.elim
      | brk => exact hq.elim
      | cont => exact hq.elim
/-- keywords' values -/
structure wK (X : Cx) (kws : List Keyword)  (σ : L2.St) (H : Hp) (Q : List V → Hp → Prop) : Prop where
  run : ∀ (pos : Pos) (pins : List (Addr × Obj)) (s : Shared), Inv X pins σ H s → wpAny (model X.prog X.w) X.A (evalAll ((backToKw pos (keywordEach kws X.env)).map (·.2))) (AP X pins σ Q) X.xe s
theorem pk_w {kws : List Keyword} : PK X kws (wK X kws) := ⟨fun pos pins s _ _ _ I h => h.run pos pins s I⟩
theorem wk_nil {Q : List V → Hp → Prop} (q : Q [] H) : wK X [] σ H Q := ⟨fun pos pins s I => pk_nil.run pos pins s σ H Q I q⟩
theorem wk_cons {nm : Option Str} {kpos : Pos} {kws : List Keyword} {Q : List V → Hp → Prop} (q : wE X e σ H fun y H1 => wK X kws σ H1 fun ys H2 => Q (y :: ys) H2) : wK X (⟨nm, e, kpos⟩ :: kws) σ H Q :=
  ⟨fun pos pins s I => (pk_cons pe_w pk_w).run pos pins s σ H Q I q⟩
theorem w_callW {ks : List Str} {kws : List Keyword} (c : CalW X.prog X.w X.K X.mg X.base k x ps ks sp) (hr : RoomG j X.A) (hk : k ≤ j) (hg : Gl X x) (q : wK X kws σ H fun vs H1 => sp vs H1 Q E0)
    (hall : (backToKw pos (keywordEach kws X.env)).all (·.1.isSome) = true := by rfl) (hks : (backToKw pos (keywordEach kws X.env)).filterMap (·.1) = ks := by rfl) (hdb : (x == ("__debug__" : Str)) = false := by decide)
    (hpl : ((backTo pos (starEach [] X.env)).any (·.1) || (backToKw pos (keywordEach kws X.env)).any (·.1.isNone)) = false := by rfl) : wE X (.Call (.Name x p) [] kws pos) σ H Q := by
  obtain ⟨f, fd, hm, hkp, hb, F⟩ := c.ex
  refine ⟨fun pins s I => ?_⟩
  refine wpAny_Call_Name_kw (ld_glob I hg hm ?_ hdb)
  refine PySem.W.callWith_KW0 (h₀ := X.base) I.mod.kin hkp hall (thn (q.run pos pins s I) fun us s1 h1 => ?_) hpl
  obtain ⟨vs, H1, I1, r, h⟩ := h1
  refine ⟨I1.kIn, ?_⟩
  rw [hks]
  refine wpAny_call (codeAny_mono (run_fnG (us := us) F (hr.mono hk) (hb s1 us I1.kIn (by rw [← r.length]; exact F.len _ _ _ _ h)) I1 r h) fun rr s' hq => ?_)
  cases rr with
  | error e => exact hq.elim
  | ok fl => cases fl with
    | ret u => exact hq
    | next => exact hq.elim
    | brk => exact hq.elim
    | cont => exact hq.elim
end

/-! ### the law's entry -/
section
variable {P : Program} {w : World} {K : PySem.W.Frag}
/-- the abstract heap in which the script alone stands -/
def scr (a : Addr) (o : Obj) (xs : List V) : Hp := fun b => if b = a then some (.frz o (.lst xs)) else none
theorem scr_same {a : Addr} {o : Obj} {xs : List V} : scr a o xs a = some (.frz o (.lst xs)) := if_pos rfl
theorem scr_ne {a b : Addr} {o : Obj} {xs : List V} (h : b ≠ a) : scr a o xs b = none := if_neg h
end
theorem law_entry {l : PySem.W.OpenLaw} {n k : Nat} {q : Program} {loose : List Str} {XP : (Str → Option Value) → Heap → Prop} {YP : World → Heap → Prop} {d : DefRec} {K : Params → PySem.W.Frag} {x : Str} {sp : PySem.W.Frag → Sp}
    (hn : l.most = some n) (hn2 : n ≤ sizeLine) (hdf : d.params.defaults = []) (hr : RoomG k callerA) (hY : ∀ (w : World) (h : Heap), YP w h → (K w.params).In h)
    (F : ∀ (w : World) (mg : Str → Option Value) (fa : Addr) (h : Heap), (K w.params).In h → h.Ns mainGlobals mg → mg d.name = some (.ref fa) →
      ∃ fd : FuncData, (∀ (s : Shared) (u : Value), BindsTo s fd ⟨[u], []⟩ [(x, u)]) ∧ ∀ base : Heap, (K w.params).In base → base.Ns mainGlobals mg → FnG l.prog w (K w.params) mg base CX0 k fa fd [x] (sp (K w.params)))
    (hsp : ∀ (K : PySem.W.Frag) (H : Hp) (a : Addr) (ns : List Int), ns.length ≤ n → SqL K H a (ns.map V.int) → sp K [.ref a] H (fun v _ => v = .bl true) E0) :
    PySem.W.WalkO q loose XP YP l.row.toRowW d [] (fun f vs => PySem.call f vs) := by
  refine Att.attach_call hn hdf fun w s0 s1 mg mb fa ofn pm cd doc a vs ns G Y hfo hfd hcd hmg hobj hints hlen hgens => ?_
  have KX := hY w _ Y
  obtain ⟨fd, hbind, hF⟩ := F w mg fa _ KX G.T.g hmg
  have rel := vals_ints hints
  have hsz : ns.length ≤ sizeLine := Nat.le_trans hlen hn2
  -- any abstract heap H of which these hold will do
  have core : ∀ H : Hp, HOk l.prog w H s1.heap → SqL (K w.params) H a (ns.map V.int) → (∀ b, H b = none ∨ (b = a ∧ ∃ ob xs, H b = some (.frz ob (.lst xs)))) → (H a ≠ none → (K w.params).lookup a = none) →
      codeAny (model l.prog w) callerA (.call (.ref fa) ⟨[.ref a], []⟩) (fun r s' => r = .ok (.ret (.bool true)) ∧ OldK s1.heap s'.heap ∧ s'.os = s1.os ∧ AllBare s'.gens) s1 := by
    intro H hok hS only hK
    have keepNs : ∀ {b : Addr} {m : Str → Option Value}, s1.heap.Ns b m → (hidT s1.heap H).Ns b m := by
      rintro b m ⟨o, es, ep, ho, hd, rest⟩
      refine ⟨o, es, ep, hidT_get ho ?_, hd, rest⟩
      rcases only b with z | ⟨rfl, _⟩
      · exact z
      · rw [hobj] at ho
        cases ho
        cases hd
    have keepK : (K w.params).In (hidT s1.heap H) := fun b o e => hidT_get (KX b o e) (by
      rcases only b with z | ⟨rfl, ob, xs, z⟩
      · exact z
      · have := hK (by rw [z]; exact fun q => nomatch q)
        rw [this] at e
        cases e)
    have hM : Mod (K w.params) mg (hidT s1.heap H) := ⟨keepK, keepNs G.T.g, ⟨mb, keepNs G.T.b, G.T.builtins⟩, G.T.nolimit.elim fun mc h => ⟨mc, keepNs h.1, h.2⟩⟩
    have e0 : Env0 l.prog w (K w.params) mg (hidT s1.heap H) callerA [] s1 H :=
      ⟨rfl, hM, fun b o e => of_hidT e, Nat.le_of_eq (hidT_size _ _), trivial, fun b hb => absurd (show b ∈ ([] : List Addr) from hb) List.not_mem_nil, hok, .of_eq hgens⟩
    have go := (hF _ keepK (keepNs G.T.g)).run callerA [] s1 H ⟨[.ref a], []⟩ [.ref a] [.ref a] (fun v _ => v = .bl true) E0 hr e0 (hbind s1 (.ref a)) (.cons rfl .nil) (hsp _ H a ns hlen hS)
    refine codeAny_mono go fun r s' h => ?_
    cases r with
    | error e => exact h.elim
    | ok fl => cases fl with
      | next => exact h.elim
      | brk => exact h.elim
      | cont => exact h.elim
      | ret u =>
        obtain ⟨v, H', os, bare, un, hok', rv, z⟩ := h
        have zz : v = .bl true := z
        subst zz
        have eu : u = Value.bool true := rv
        subst eu
        refine ⟨rfl, OldK.of_keep fun b o e => ?_, os, bare⟩
        rcases only b with z | ⟨_, ob, xs, z⟩
        · exact un.keep b o e z (fun q => absurd (show b ∈ ([] : List Addr) from q) List.not_mem_nil) List.not_mem_nil
        · have h1 := (hok b _ z).1
          have h2 := (hok' b _ (un.frzs b ob _ z)).1
          rw [e] at h1
          cases h1
          exact h2
  cases hk : (K w.params).lookup a with
  | none =>
    refine core (scr a { cls := .type "list", data := .seq vs.toArray } (ns.map V.int)) (fun b u z => ?_) (.inl (.inr ⟨_, scr_same⟩)) (fun b => ?_) fun _ => hk
    · by_cases hb : b = a
      · subst hb
        rw [scr_same] at z
        cases z
        exact ⟨hobj, by rw [List.length_map]; exact hsz, vs, _, rel, hobj⟩
      · rw [scr_ne hb] at z
        cases z
    · by_cases hb : b = a
      · exact Or.inr ⟨hb, _, _, by rw [hb]; exact scr_same⟩
      · exact Or.inl (scr_ne hb)
  | some o =>
    have e := KX a o hk
    rw [hobj] at e
    cases e
    refine core (fun _ => none) (fun _ _ z => nomatch z) (.inr ⟨_, vs.toArray, _, hk, rfl, rfl, rfl, ?_, by simpa using rel⟩) (fun _ => Or.inl rfl) fun z => absurd rfl z
    rw [List.size_toArray, hints.length]
    exact hsz
end G

end Part_G2
section Part_G3
set_option maxRecDepth 100000
set_option maxHeartbeats 2000000
/-! G3: data in the abstract heap (Dq), what is kept (Ex), isinstance, repr, empty tuples, slices of tuples. -/
namespace G
open PySem PySem.Spec PyProof.Rows L2

/-! ### what is kept -/
def Ex (H H' : Hp) : Prop := ∀ a o, H a = some o → H' a = some o
theorem Ex.refl {H : Hp} : Ex H H := fun _ _ h => h
theorem Ex.trans {H H1 H2 : Hp} (a : Ex H H1) (b : Ex H1 H2) : Ex H H2 := fun x o h => b x o (a x o h)
theorem Ex.new {H : Hp} {p : Addr} {o : HO} (h : H p = none) : Ex H (upd H p o) := fun a u e => by
  rw [upd_ne (ne_of_none e h)]
  exact e
theorem Ex.free {H H' : Hp} {p : Addr} (e : Ex H H') (h : H' p = none) : H p = none := by
  cases q : H p with
  | none => rfl
  | some o => rw [e p o q] at h; cases h
theorem Ex.put {H H' : Hp} {p : Addr} {o : HO} (e : Ex H H') (h : H p = none) : Ex H (upd H' p o) := fun a u q => by
  rw [upd_ne (ne_of_none q h)]
  exact e a u q
/-- the heap without the object at J -/
def del (H : Hp) (J : Addr) : Hp := fun a => if a = J then none else H a
theorem del_ne {H : Hp} {J a : Addr} (h : a ≠ J) : del H J a = H a := if_neg h
theorem del_same {H : Hp} {J : Addr} : del H J J = none := if_pos rfl
theorem del_ex {H : Hp} {J : Addr} : Ex (del H J) H := fun a o h => by
  by_cases e : a = J
  · rw [e, del_same] at h; cases h
  · rw [del_ne e] at h; exact h
theorem del_some {H : Hp} {J a : Addr} {o : HO} (h : del H J a = some o) : a ≠ J ∧ H a = some o := by
  by_cases e : a = J
  · rw [e, del_same] at h; cases h
  · rw [del_ne e] at h; exact ⟨e, h⟩
theorem del_upd {H : Hp} {J : Addr} {o : HO} : del (upd H J o) J = del H J := by
  funext a
  by_cases e : a = J
  · rw [e, del_same, del_same]
  · rw [del_ne e, del_ne e, upd_ne e]
theorem del_upd_ne {H : Hp} {J a : Addr} {o : HO} (h : a ≠ J) : del (upd H a o) J = upd (del H J) a o := by
  funext b
  by_cases e : b = J
  · rw [e, del_same, upd_ne (Ne.symm h), del_same]
  · rw [del_ne e]
    by_cases e2 : b = a
    · rw [e2, upd_same, upd_same]
    · rw [upd_ne e2, upd_ne e2, del_ne e]
theorem Ex.del {H H' : Hp} {J : Addr} (e : Ex H H') : Ex (del H J) (del H' J) := fun a o h => by
  obtain ⟨n, h⟩ := del_some h
  rw [del_ne n]
  exact e a o h

/-! ### data -/
def keyD : Key → PyData
  | .inl i => .int i
  | .inr x => .str x
mutual
inductive Dq (H : Hp) : V → PyData → Prop
  | non : Dq H .non .none
  | bl (b : Bool) : Dq H (.bl b) (.bool b)
  | int (i : Int) : Dq H (.int i) (.int i)
  | str (x : Str) : Dq H (.str x) (.str x)
  | lst {a : Addr} {xs : List V} {ds : List PyData} : H a = some (.lst xs) → 3 < a → Dqs H xs ds → Dq H (.ref a) (.list ds)
  | tup {a : Addr} {xs : List V} {ds : List PyData} : H a = some (.tup xs) → Dqs H xs ds → Dq H (.ref a) (.tuple ds)
  | dct {a : Addr} {kvs : List (Key × V)} {ds : List (PyData × PyData)} : H a = some (.dK kvs) → Dqk H kvs ds → Dq H (.ref a) (.dict ds)
inductive Dqs (H : Hp) : List V → List PyData → Prop
  | nil : Dqs H [] []
  | cons {v : V} {vs : List V} {d : PyData} {ds : List PyData} : Dq H v d → Dqs H vs ds → Dqs H (v :: vs) (d :: ds)
inductive Dqk (H : Hp) : List (Key × V) → List (PyData × PyData) → Prop
  | nil : Dqk H [] []
  | cons {k : Key} {v : V} {vs : List (Key × V)} {d : PyData} {ds : List (PyData × PyData)} : Dq H v d → Dqk H vs ds → Dqk H ((k, v) :: vs) ((keyD k, d) :: ds)
end
mutual
theorem Dq.mono {H H' : Hp} (e : Ex H H') : ∀ (d : PyData) (v : V), Dq H v d → Dq H' v d
  | .none, _, h => by cases h; exact .non
  | .bool _, _, h => by cases h; exact .bl _
  | .int _, _, h => by cases h; exact .int _
  | .str _, _, h => by cases h; exact .str _
  | .list ds, _, h => by cases h with | lst h1 h2 h3 => exact .lst (e _ _ h1) h2 (Dqs.mono e ds _ h3)
  | .tuple ds, _, h => by cases h with | tup h1 h3 => exact .tup (e _ _ h1) (Dqs.mono e ds _ h3)
  | .dict ds, _, h => by cases h with | dct h1 h3 => exact .dct (e _ _ h1) (Dqk.mono e ds _ h3)
theorem Dqs.mono {H H' : Hp} (e : Ex H H') : ∀ (ds : List PyData) (vs : List V), Dqs H vs ds → Dqs H' vs ds
  | [], _, h => by cases h; exact .nil
  | d :: ds, _, h => by cases h with | cons h1 h2 => exact .cons (Dq.mono e d _ h1) (Dqs.mono e ds _ h2)
theorem Dqk.mono {H H' : Hp} (e : Ex H H') : ∀ (ds : List (PyData × PyData)) (vs : List (Key × V)), Dqk H vs ds → Dqk H' vs ds
  | [], _, h => by cases h; exact .nil
  | (_, d) :: ds, _, h => by cases h with | cons h1 h2 => exact .cons (Dq.mono e d _ h1) (Dqk.mono e ds _ h2)
end
section
variable {H : Hp} {vs ws : List V} {ds es : List PyData}
theorem Dq.ex {H' : Hp} {v : V} {d : PyData} (h : Dq H v d) (e : Ex H H') : Dq H' v d := Dq.mono e d v h
theorem Dqs.ex {H' : Hp} (h : Dqs H vs ds) (e : Ex H H') : Dqs H' vs ds := Dqs.mono e ds vs h
theorem Dqs.length (h : Dqs H vs ds) : vs.length = ds.length := by
  induction vs generalizing ds with
  | nil => cases h; rfl
  | cons v vs ih => cases h with | cons h1 h2 => rw [List.length_cons, List.length_cons, ih h2]
theorem Dqs.get (h : Dqs H vs ds) {i : Nat} {v : V} (e : vs[i]? = some v) : ∃ d, ds[i]? = some d ∧ Dq H v d := by
  induction vs generalizing ds i with
  | nil => cases e
  | cons w vs ih => cases h with
    | cons h1 h2 => cases i with
      | zero => cases e; exact ⟨_, rfl, h1⟩
      | succ i => exact ih h2 e
theorem Dqs.getd (h : Dqs H vs ds) {i : Nat} {d : PyData} (e : ds[i]? = some d) : ∃ v, vs[i]? = some v ∧ Dq H v d := by
  induction vs generalizing ds i with
  | nil => cases h; cases e
  | cons w vs ih => cases h with
    | cons h1 h2 => cases i with
      | zero => cases e; exact ⟨_, rfl, h1⟩
      | succ i => exact ih h2 e
theorem Dqs.append (h : Dqs H vs ds) (h' : Dqs H ws es) : Dqs H (vs ++ ws) (ds ++ es) := by
  induction vs generalizing ds with
  | nil => cases h; exact h'
  | cons v vs ih => cases h with | cons h1 h2 => exact .cons h1 (ih h2)
theorem Dqs.take (h : Dqs H vs ds) (n : Nat) : Dqs H (vs.take n) (ds.take n) := by
  induction vs generalizing ds n with
  | nil => cases h; rw [List.take_nil, List.take_nil]; exact .nil
  | cons v vs ih => cases h with
    | cons h1 h2 => cases n with
      | zero => exact .nil
      | succ n => exact .cons h1 (ih h2 n)
theorem Dqs.drop (h : Dqs H vs ds) (n : Nat) : Dqs H (vs.drop n) (ds.drop n) := by
  induction vs generalizing ds n with
  | nil => cases h; rw [List.drop_nil, List.drop_nil]; exact .nil
  | cons v vs ih => cases h with
    | cons h1 h2 => cases n with
      | zero => exact .cons h1 h2
      | succ n => exact ih h2 n
theorem Dqs.reverse (h : Dqs H vs ds) : Dqs H vs.reverse ds.reverse := by
  induction vs generalizing ds with
  | nil => cases h; exact .nil
  | cons v vs ih => cases h with
    | cons h1 h2 =>
      rw [List.reverse_cons, List.reverse_cons]
      exact (ih h2).append (.cons h1 .nil)
end

section
variable {X : Cx} {pins : List (Addr × Obj)} {σ : L2.St} {H : Hp} {s : Shared}
theorem big_size (I : Inv X pins σ H s) : 3 < s.heap.objs.size := by
  obtain ⟨o, es, ep, e, _⟩ := I.mod.glob
  have h1 : 3 < X.base.objs.size := Heap.lt_size e
  exact Nat.lt_of_lt_of_le h1 (Nat.le_trans I.ok.bsz I.sz)
mutual
theorem Dq.reads (I : Inv X pins σ H s) : ∀ (d : PyData) (v : V) (u : Value), Dq H v d → RelV v u → ∃ as, Reads s.heap u d as ∧ sysModules ∉ as
  | .none, _, _, h, r => by cases h; cases r; exact ⟨_, .none, List.not_mem_nil⟩
  | .bool _, _, _, h, r => by cases h; cases r; exact ⟨_, .bool _, List.not_mem_nil⟩
  | .int _, _, _, h, r => by cases h; obtain ⟨t, rfl⟩ := r; exact ⟨_, .int _ t, List.not_mem_nil⟩
  | .str _, _, _, h, r => by cases h; obtain ⟨t, rfl⟩ := r; exact ⟨_, .str _ t, List.not_mem_nil⟩
  | .list ds, _, _, h, r => by
    cases h with
    | @lst a xs _ h1 h2 h3 =>
      cases r
      obtain ⟨_, its, n, rv, ho⟩ := (show ObjOk X.prog X.w H s.heap a (.lst xs) from I.hok a _ h1)
      obtain ⟨as, hr, hn⟩ := Dqs.reads I ds _ its h3 rv
      refine ⟨a :: as, .list ho rfl rfl hr, fun hm => ?_⟩
      rcases List.mem_cons.mp hm with e | e
      · rw [← e] at h2; exact absurd h2 (by decide)
      · exact hn e
  | .tuple ds, _, _, h, r => by
    cases h with
    | @tup a xs _ h1 h3 =>
      cases r
      obtain ⟨_, its, rv, ⟨o, ho, hc, n, hd⟩⟩ := (show ObjOk X.prog X.w H s.heap a (.tup xs) from I.hok a _ h1)
      obtain ⟨as, hr, hn⟩ := Dqs.reads I ds _ its h3 rv
      exact ⟨as, .tuple ho hc hd hr, hn⟩
  | .dict ds, _, _, h, r => by
    cases h with
    | @dct a kvs _ h1 h3 =>
      cases r
      obtain ⟨_, hne, vs, kv, o, es, ep, ho, ⟨hc, _, _⟩, hd, _, hp, _⟩ := (show ObjOk X.prog X.w H s.heap a (.dK kvs) from I.hok a _ h1)
      obtain ⟨bs, h4, h5, hn⟩ := Dqk.reads I ds _ vs es.toList h3 kv hp
      refine ⟨a :: [] ++ bs, .dict ho hc hd h4 h5, fun hm => ?_⟩
      rcases List.mem_cons.mp hm with e | e
      · rw [← e] at hne; exact absurd hne (by decide)
      · exact hn e
theorem Dqs.reads (I : Inv X pins σ H s) : ∀ (ds : List PyData) (vs : List V) (us : List Value), Dqs H vs ds → Vals vs us → ∃ as, ReadsAll s.heap us ds as ∧ sysModules ∉ as
  | [], _, _, h, r => by cases h; cases r; exact ⟨_, .nil, List.not_mem_nil⟩
  | d :: ds, _, _, h, r => by
    cases h with
    | cons h1 h2 => cases r with
      | cons r1 r2 =>
        obtain ⟨as, q1, n1⟩ := Dq.reads I d _ _ h1 r1
        obtain ⟨bs, q2, n2⟩ := Dqs.reads I ds _ _ h2 r2
        exact ⟨_, .cons q1 q2, fun hm => (List.mem_append.mp hm).elim n1 n2⟩
theorem Dqk.reads (I : Inv X pins σ H s) : ∀ (ds : List (PyData × PyData)) (kvs : List (Key × V)) (vs : List (Key × Value)) (es : List DictEntry), Dqk H kvs ds → KV kvs vs → Pairs (mixKind X.prog X.w) es vs →
    ∃ bs, ReadsAll s.heap (es.map (·.key)) (ds.map (·.1)) [] ∧ ReadsAll s.heap (es.map (·.val)) (ds.map (·.2)) bs ∧ sysModules ∉ bs
  | [], _, _, _, h, r, p => by cases h; cases r; cases p; exact ⟨_, .nil, .nil, List.not_mem_nil⟩
  | (_, d) :: ds, _, _, _, h, r, p => by
    cases h with
    | cons h1 h2 => cases r with
      | cons r1 r2 => cases p with
        | cons p1 p2 p3 =>
          obtain ⟨rk, rv⟩ := r1
          obtain ⟨as, q1, n1⟩ := Dq.reads I d _ _ h1 rv
          obtain ⟨bs, q2, q3, n2⟩ := Dqk.reads I ds _ _ _ h2 r2 p3
          refine ⟨as ++ bs, ?_, ?_, fun hm => (List.mem_append.mp hm).elim n1 n2⟩
          · have rk' : _ = _ := rk
            rw [← rk'] at p1
            rw [List.map_cons, List.map_cons]
            rcases keyIs_shape p1 with ⟨i, t, ek, ev⟩ | ⟨x, t, ek, ev⟩
            · have ek' : _ = Sum.inl i := ek
              subst ek'
              rw [ev]
              exact ReadsAll.cons (as := []) (.int i t) q2
            · have ek' : _ = Sum.inr x := ek
              subst ek'
              rw [ev]
              exact ReadsAll.cons (as := []) (.str x t) q2
          · rw [List.map_cons, List.map_cons]
            simp only [p2]
            exact ReadsAll.cons q1 q3
end
end

/-! ### isinstance -/
def tyD : PyData → String
  | .none => "NoneType"
  | .bool _ => "bool"
  | .int _ => "int"
  | .str _ => "str"
  | .list _ => "list"
  | .tuple _ => "tuple"
  | .dict _ => "dict"
theorem Dq.ty {K : PySem.W.Frag} {H : Hp} {v : V} {d : PyData} (h : Dq H v d) : TyX K H v (.type (tyD d)) := by
  cases h with
  | non => exact .base .non
  | bl b => exact .base (.bl b)
  | int i => exact .base (.int i)
  | str x => exact .base (.str x)
  | lst h1 h2 h3 => exact .base (.lst h1)
  | tup h1 h3 => exact .base (.tup h1)
  | dct h1 h3 => exact .base (.dK h1)
/-- isinstance(x, T), T a written built-in class -/
theorem c_isi {X : Cx} {H : Hp} {Q : VK} {v : V} {d : PyData} {T : String} {b : Bool} (h : Dq H v d) (hk : kitB (tyD d) T = some b) (q : Q (.bl b) H) : wC X (.builtin "isinstance") [v, .ty T] H Q :=
  of_call call_isi ⟨v, .ty T, .type (tyD d), .type T, b, rfl, .ty T, h.ty, kit_ty hk, q⟩

/-! ### repr -/
theorem c_repr {X : Cx} {H : Hp} {Q : VK} {v : V} {d : PyData} (h : Dq H v d) (hs : d.showable = true) (hz : d.shown.length ≤ sizeLine) (hg : X.A.guards = some []) (hu : X.A.units + (d.depth + 1) < cLine) (q : Q (.str d.shown) H) :
    wC X (.builtin "repr") [v] H Q := by
  refine ⟨fun pins s σ us I r => ?_⟩
  obtain ⟨u, rfl, rx⟩ := vals1 r
  cases h with
  | non => cases rx; exact PySem.P.repr_of_none ⟨.str "None", H, I.tok _, ⟨_, rfl⟩, q⟩
  | bl b => cases rx; exact PySem.P.repr_of_bool ⟨.str _, H, I.tok _, ⟨_, rfl⟩, q⟩
  | int i => obtain ⟨t, rfl⟩ := rx; exact PySem.P.repr_of_int (of_decide_eq_true hs) ⟨.str _, H, I.tok _, ⟨_, rfl⟩, q⟩
  | str x => obtain ⟨t, rfl⟩ := rx; exact PySem.P.repr_of_str ⟨.str _, H, I.tok _, ⟨_, rfl⟩, q⟩ hz
  | lst h1 h2 h3 =>
    obtain ⟨as, hr, hn⟩ := Dq.reads I _ _ _ (Dq.lst h1 h2 h3) rx
    cases rx
    exact repr_of_reads' hr hs (fun _ => hn) hg hu (fun _ _ e => e) (fun h' u tk kp => ⟨.str _, H, I.kept kp, ⟨_, rfl⟩, q⟩) hz
  | tup h1 h3 =>
    obtain ⟨as, hr, hn⟩ := Dq.reads I _ _ _ (Dq.tup h1 h3) rx
    cases rx
    exact repr_of_reads' hr hs (fun _ => hn) hg hu (fun _ _ e => e) (fun h' u tk kp => ⟨.str _, H, I.kept kp, ⟨_, rfl⟩, q⟩) hz
  | dct h1 h3 =>
    obtain ⟨as, hr, hn⟩ := Dq.reads I _ _ _ (Dq.dct h1 h3) rx
    cases rx
    exact repr_of_reads' hr hs (fun _ => hn) hg hu (fun _ _ e => e) (fun h' u tk kp => ⟨.str _, H, I.kept kp, ⟨_, rfl⟩, q⟩) hz
end G

end Part_G3
section Part_G4
set_option maxRecDepth 100000
set_option maxHeartbeats 2000000
/-! G4: rules by values. -/
namespace G
open PySem PySem.Spec PyProof.Rows L2
section
variable {X : Cx} {H : Hp} {Q : VK} {σ : L2.St} {pos : Pos}
/-! ### ints -/
theorem b_add {i j : Int} (q : Q (.int (i + j)) H) : wB X (binaryOp .Add) (.int i) (.int j) H Q := of_op op_add ⟨i, j, rfl, rfl, q⟩
theorem b_sub {i j : Int} (q : Q (.int (i - j)) H) : wB X (binaryOp .Sub) (.int i) (.int j) H Q := of_op op_sub ⟨i, j, rfl, rfl, q⟩
theorem b_mul {i j : Int} {a b : Nat} (ha : i.natAbs < 2 ^ a) (hb : j.natAbs < 2 ^ b) (q : Q (.int (i * j)) H) (h0 : 0 < a := by decide) (h1 : 0 < b := by decide) (h : a + b ≤ 1000000 := by decide) : wB X (binaryOp .Mult) (.int i) (.int j) H Q :=
  of_op op_mulW ⟨i, j, rfl, rfl, wide_mul ha hb h0 h1 h, q⟩
theorem b_mod {i j : Int} (hj : 0 < j) (q : Q (.int (i % j)) H) : wB X (binaryOp .Mod) (.int i) (.int j) H Q := of_op op_mod ⟨i, j, rfl, rfl, hj, q⟩
theorem b_div {i j : Int} (hj : 0 < j ∧ j < 1073741824) (q : Q (.int (i / j)) H) : wB X (binaryOp .FloorDiv) (.int i) (.int j) H Q := of_op op_fdiv ⟨i, j, rfl, rfl, hj, q⟩
def CPw (a n : Int) : Prop := 0 ≤ n ∧ (Builtin.Int.intBits a : Int) * n ≤ 2 ^ 27
theorem op_pw : OpR X (binaryOp .Pow) (rI CPw fun i j => .int (i ^ j.toNat)) := opI fun _ _ _ _ _ _ _ hc q => pow_int hc.1 hc.2 q
theorem b_pow {i : Int} {n : Int} (h : CPw i n) (q : Q (.int (i ^ n.toNat)) H) : wB X (binaryOp .Pow) (.int i) (.int n) H Q := of_op op_pw ⟨i, n, rfl, rfl, h, q⟩
theorem b_lt {i j : Int} (q : Q (.bl (decide (i < j))) H) : wB X (compareOp .Lt) (.int i) (.int j) H Q := of_op op_lt ⟨i, j, rfl, rfl, q⟩
theorem b_le {i j : Int} (q : Q (.bl (decide (i ≤ j))) H) : wB X (compareOp .LtE) (.int i) (.int j) H Q := of_op op_le ⟨i, j, rfl, rfl, q⟩
theorem b_gt {i j : Int} (q : Q (.bl (decide (i > j))) H) : wB X (compareOp .Gt) (.int i) (.int j) H Q := of_op op_gt ⟨i, j, rfl, rfl, q⟩
theorem b_ge {i j : Int} (q : Q (.bl (decide (i ≥ j))) H) : wB X (compareOp .GtE) (.int i) (.int j) H Q := of_op op_ge ⟨i, j, rfl, rfl, q⟩
theorem b_eqi {i j : Int} (q : Q (.bl (decide (i = j))) H) : wB X (compareOp .Eq) (.int i) (.int j) H Q := of_op op_eq ⟨rfl, by
  have e : decide (V.int i = V.int j) = decide (i = j) := by simp
  rw [e]; exact q⟩
theorem b_nei {i j : Int} (q : Q (.bl (!decide (i = j))) H) : wB X (compareOp .NotEq) (.int i) (.int j) H Q := of_op op_ne ⟨rfl, by
  have e : decide (V.int i = V.int j) = decide (i = j) := by simp
  rw [e]; exact q⟩
theorem b_eqs {i j : Str} (q : Q (.bl (decide (i = j))) H) : wB X (compareOp .Eq) (.str i) (.str j) H Q := of_op op_eq ⟨rfl, by
  have e : decide (V.str i = V.str j) = decide (i = j) := by simp
  rw [e]; exact q⟩
theorem b_nes {i j : Str} (q : Q (.bl (!decide (i = j))) H) : wB X (compareOp .NotEq) (.str i) (.str j) H Q := of_op op_ne ⟨rfl, by
  have e : decide (V.str i = V.str j) = decide (i = j) := by simp
  rw [e]; exact q⟩
theorem b_neb {i j : Bool} (q : Q (.bl (!decide (i = j))) H) : wB X (compareOp .NotEq) (.bl i) (.bl j) H Q := of_op op_ne ⟨rfl, by
  have e : decide (V.bl i = V.bl j) = decide (i = j) := by simp
  rw [e]; exact q⟩
theorem u_neg {i : Int} (q : Q (.int (-i)) H) : wU X (unaryOp .USub) (.int i) H Q := of_un un_neg ⟨i, rfl, q⟩
theorem c_int {i : Int} (q : Q (.int i) H) : wC X (.type "int") [.int i] H Q := of_call call_int1 (.inl ⟨i, rfl, q⟩)
theorem c_intb {b : Bool} (q : Q (.int (b2i b)) H) : wC X (.type "int") [.bl b] H Q := of_call call_int1 (.inr ⟨b, rfl, q⟩)
theorem c_abs {i : Int} (q : Q (.int (if i < 0 then -i else i)) H) : wC X (.builtin "abs") [.int i] H Q := of_call call_abs ⟨i, rfl, q⟩
theorem c_max2 {i j : Int} (hc : X.calm = true) (q : Q (.int (if j > i then j else i)) H) : wC X (.builtin "max") [.int i, .int j] H Q := of_call (call_max2 hc) ⟨i, j, rfl, q⟩
theorem c_min2 {i j : Int} (hc : X.calm = true) (q : Q (.int (if j < i then j else i)) H) : wC X (.builtin "min") [.int i, .int j] H Q := of_call (call_min2 hc) ⟨i, j, rfl, q⟩
theorem c_str {i : Int} (hi : i.natAbs.log2 < 1920) (q : Q (.str (toString i)) H) : wC X (.type "str") [.int i] H Q := of_call call_str_int ⟨i, rfl, hi, q⟩
/-! ### lists, tuples -/
theorem c_lent {a : Addr} {xs : List V} (h : SqT X.K H a xs) (q : Q (.int xs.length) H) : wC X (.builtin "len") [.ref a] H Q := of_call call_len_seq ⟨a, xs, rfl, .inr h, q⟩
theorem c_lenl {a : Addr} {xs : List V} (h : SqL X.K H a xs) (q : Q (.int xs.length) H) : wC X (.builtin "len") [.ref a] H Q := of_call call_len_seq ⟨a, xs, rfl, .inl h, q⟩
theorem x_lst {a : Addr} {xs : List V} {i : Int} {v : V} (h : SqL X.K H a xs) (hi : atI xs i = some v) (q : Q v H) : wX X (.ref a) (.int i) H Q := of_ix ix_list ⟨a, xs, i, v, rfl, rfl, h, hi, q⟩
theorem x_tup {a : Addr} {xs : List V} {i : Int} {v : V} (h : SqT X.K H a xs) (hi : atI xs i = some v) (q : Q v H) : wX X (.ref a) (.int i) H Q := of_ix ix_tup ⟨a, xs, i, v, rfl, rfl, h, hi, q⟩
theorem b_catt {a b : Addr} {xs ys : List V} (ha : SqT X.K H a xs) (hb : SqT X.K H b ys) (hz : xs.length + ys.length ≤ sizeLine) (q0 : xs = [] → Q (.ref b) H) (q1 : xs ≠ [] → ys = [] → Q (.ref a) H)
    (q2 : xs ≠ [] → ys ≠ [] → ∀ p, H p = none → Q (.ref p) (upd H p (.tup (xs ++ ys)))) : wB X (binaryOp .Add) (.ref a) (.ref b) H Q := of_op op_catA ⟨a, b, xs, ys, rfl, rfl, ha, hb, hz, q0, q1, q2⟩
theorem b_catl {a b : Addr} {xs ys : List V} (ha : H a = some (.lst xs)) (hb : H b = some (.lst ys)) (hz : xs.length + ys.length ≤ sizeLine) (q2 : ∀ p, H p = none → Q (.ref p) (upd H p (.lst (xs ++ ys)))) :
    wB X (binaryOp .Add) (.ref a) (.ref b) H Q := of_op op_cat ⟨a, b, xs, ys, rfl, rfl, ha, hb, hz, q2⟩
theorem c_tupl {a : Addr} {xs : List V} (h : SqL X.K H a xs) (q : ∀ p, H p = none → Q (.ref p) (upd H p (.tup xs))) : wC X (.type "tuple") [.ref a] H Q := of_call call_tuple_of ⟨a, xs, rfl, .inl ⟨h, q⟩⟩
theorem sq_t {K : PySem.W.Frag} {a : Addr} {xs : List V} (h : H a = some (.tup xs)) : SqT K H a xs := .inl (.inl h)
theorem sq_l {K : PySem.W.Frag} {a : Addr} {xs : List V} (h : H a = some (.lst xs)) : SqL K H a xs := .inl (.inl h)
/-- a new list lies behind the first places -/
theorem w_lst3 {es : List Expr} (k : wA X es σ H fun xs H1 => xs.length ≤ sizeLine ∧ ∀ p, H1 p = none → 3 < p → Q (.ref p) (upd H1 p (.lst xs))) : wE X (.List es pos) σ H Q := by
  refine ⟨fun pins s I => ?_⟩
  refine wpAny_List_spliced (thn (k.run pos pins s I) fun us s1 h1 => ?_)
  obtain ⟨xs, H1, I1, r, z, q⟩ := h1
  have hf := I1.hok.fresh (Nat.le_refl s1.heap.objs.size)
  refine ⟨by rw [← r.length]; exact z, .ref s1.heap.objs.size, upd H1 s1.heap.objs.size (.lst xs), ?_, rfl, q _ hf (big_size I1)⟩
  exact I1.laid (t' := s1.toks) (fun b u e => Heap.get?_push_of_some _ e) (Nat.le_refl _) ⟨z, us, 0, r, Heap.get?_push_size _ rfl⟩
theorem c_listt {a : Addr} {xs : List V} (h : SqT X.K H a xs) (q : ∀ p, H p = none → 3 < p → Q (.ref p) (upd H p (.lst xs))) : wC X (.type "list") [.ref a] H Q := by
  refine ⟨fun pins s σ us I r => ?_⟩
  obtain ⟨u, rfl, rx⟩ := vals1 r
  cases rx
  obtain ⟨its, r', pl, hz⟩ := I.tuple h
  obtain ⟨o, ho, hc, n, hd⟩ := id pl
  refine call_list_seq a (.inr rfl) ho hc hd (fun h' c' kp e => ?_) (by rw [List.size_toArray, ← r'.length]; exact hz)
  exact ⟨.ref s.heap.objs.size, _, I.laid (t' := s.toks) kp (Nat.le_refl _) (show ObjOk X.prog X.w _ h' _ (.lst xs) from ⟨hz, its, c', r', e⟩), rfl, q _ (I.hok.fresh (Nat.le_refl _)) (big_size I)⟩
/-! ### == and != with tuples -/
theorem b_ne0 {a b : Addr} {xs : List V} (ha : SqT X.K H a xs) (hb : SqT X.K H b []) (hu : X.A.units < cLine) (q : Q (.bl (!xs.isEmpty)) H) : wB X (compareOp .NotEq) (.ref a) (.ref b) H Q := by
  refine ⟨fun pins s σ v u I ra rb => ?_⟩
  cases ra
  cases rb
  obtain ⟨its, r1, p1, _⟩ := I.tuple ha
  obtain ⟨its2, r2, p2, _⟩ := I.tuple hb
  cases r2
  have go := SeqAt.RcNeAt.tuples (A := X.A) (e := fun _ => true) p1 p2 hu (fun j h1 h2 => absurd h2 (Nat.not_lt_zero _)) X.prog X.w X.xe (EP X pins σ Q)
  refine go ⟨.bl (!xs.isEmpty), H, I, ?_, q⟩
  cases r1 with
  | nil => rfl
  | cons a b => rfl
theorem b_eq0 {a b : Addr} {xs : List V} (ha : SqT X.K H a xs) (hb : SqT X.K H b []) (hu : X.A.units < cLine) (q : Q (.bl xs.isEmpty) H) : wB X (compareOp .Eq) (.ref a) (.ref b) H Q := by
  refine ⟨fun pins s σ v u I ra rb => ?_⟩
  cases ra
  cases rb
  obtain ⟨its, r1, p1, _⟩ := I.tuple ha
  obtain ⟨its2, r2, p2, _⟩ := I.tuple hb
  cases r2
  refine SeqAt.eq_tupleAt (e := fun _ => true) p1 p2 hu (fun j h1 h2 => absurd h2 (Nat.not_lt_zero _)) ⟨.bl xs.isEmpty, H, I, ?_, q⟩
  cases r1 with
  | nil => rfl
  | cons a b => rfl
/-! ### slices -/
structure wO (X : Cx) (e : Option Expr)  (σ : L2.St) (H : Hp) (Q : Option Int → Hp → Prop) : Prop where
  run : ∀ (pins : List (Addr × Obj)) (s : Shared), Inv X pins σ H s → wpAny (model X.prog X.w) X.A (evalPart e X.env) (fun u s' => ∃ o H', Inv X pins σ H' s' ∧ IsPart u o ∧ Q o H') X.xe s
theorem po_w {e : Option Expr} : PO X e (wO X e) := ⟨fun pins s _ _ _ I h => h.run pins s I⟩
theorem o_none {Q : Option Int → Hp → Prop} (q : Q none H) : wO X none σ H Q := ⟨fun pins s I => po_none.run pins s σ H Q I q⟩
theorem o_some {e : Expr} {Q : Option Int → Hp → Prop} (q : wE X e σ H fun x H1 => ∃ i, x = .int i ∧ Q (some i) H1) : wO X (some e) σ H Q := ⟨fun pins s I => (po_some pe_w).run pins s σ H Q I q⟩
/-- t[lo:hi] of a tuple -/
theorem w_slt {e : Expr} {lo hi : Option Expr} {p2 : Pos} (q : wE X e σ H fun x H1 => wO X lo σ H1 fun l H2 => wO X hi σ H2 fun u H3 => rSlA X.K x l u H3 Q) : wE X (.Subscript e (.Slice lo hi none p2) pos) σ H Q :=
  of_pe (pe_slice sl_tupA pe_w po_w po_w) q
theorem w_sls {e : Expr} {lo hi : Option Expr} {p2 : Pos} (q : wE X e σ H fun x H1 => wO X lo σ H1 fun l H2 => wO X hi σ H2 fun u H3 => rSlS x l u H3 Q) : wE X (.Subscript e (.Slice lo hi none p2) pos) σ H Q :=
  of_pe (pe_slice sl_str pe_w po_w po_w) q
/-- what a slice of a tuple is, up to its place -/
theorem slt_any {K : PySem.W.Frag} {a : Addr} {xs : List V} {lo hi : Option Int} (h : SqT K H a xs) (q : ∀ p H', Ex H H' → SqT K H' p (cutV xs lo hi) → Q (.ref p) H') : rSlA K (.ref a) lo hi H Q := by
  refine ⟨a, xs, rfl, h, fun hw => q a H Ex.refl ?_, fun hw p hp => q p _ (Ex.new hp) (sq_t upd_same)⟩
  have e : cutV xs lo hi = xs := by
    unfold cutV
    rw [hw.1, hw.2, List.drop_zero, Nat.sub_zero, List.take_length]
  rw [e]
  exact h
end
end G

end Part_G4
section Part_G5
set_option maxRecDepth 100000
set_option maxHeartbeats 2000000
/-! G5: t[::-1], tuple targets, loops, comprehensions, displays of dicts. -/
namespace G
open PySem PySem.Spec PyProof.Rows L2
theorem rev_pick (xs : Array Value) : ((List.range xs.size).filterMap fun (k : Nat) => xs[((xs.size : Int) - 1 + (k : Int) * -1).toNat]?).toArray = xs.toList.reverse.toArray := by
  have h := PySem.W.krv_pick xs
  unfold slicePick at h
  rw [PySem.W.krv_bounds] at h
  rw [← h]
  show _ = ((sliceRange ((xs.size : Int) - 1) (-1) (-1)).filterMap (xs[·]?)).toArray
  rw [PySem.W.krv_sliceRange, List.filterMap_map]
  have all : ∀ l : List Nat, (∀ k ∈ l, k < xs.size) → l.filterMap (fun (k : Nat) => xs[((xs.size : Int) - 1 + (k : Int) * -1).toNat]?) = l.filterMap ((fun x => xs[x]?) ∘ fun k => xs.size - 1 - k) := by
    intro l
    induction l with
    | nil => intro _; rfl
    | cons k l ih =>
      intro hl
      have hk := hl k List.mem_cons_self
      have e : ((xs.size : Int) - 1 + (k : Int) * -1).toNat = xs.size - 1 - k := by omega
      rw [List.filterMap_cons, List.filterMap_cons, ih fun j hj => hl j (List.mem_cons_of_mem _ hj)]
      rw [e]
      rfl
  rw [all _ fun k hk => List.mem_range.mp hk]
theorem rev_adjust (n : Nat) : Builtin.Slice.sliceAdjust none none (-1) (n : Int) = ((n : Int) - 1, -1) := rfl
theorem rev_places (n : Nat) : Builtin.Slice.slicePlaces ((n : Int) - 1) (-1) (-1) = n := by
  unfold Builtin.Slice.slicePlaces
  rw [if_neg (by decide)]
  split
  · rw [show (- -1 : Int) = 1 by decide, Int.ediv_one]; omega
  · omega
theorem gi_rev {prog : Program} {w : World} {A : Around} {E : Value → Shared → Prop} {s : Shared} {t sl : Addr} {items : Array Value} {vu vl vs : Value} {Q : Value → Shared → Prop} (ht : IsTup s.heap t items) (hs : s.heap.IsSliceOf sl vl vu vs)
    (pl : IsPart vl none) (pu : IsPart vu none) (ps : IsPart vs (some (-1)))
    (h : Q (.ref s.heap.objs.size) { s with heap := s.heap.push { cls := .type "tuple", data := .seq items.toList.reverse.toArray } }) (hsz : items.size ≤ sizeLine) : wpAny (model prog w) A (getItem (.ref t) (.ref sl)) Q E s := by
  have fits : sizeOk (.seq items.toList.reverse.toArray) := by
    show items.toList.reverse.toArray.size ≤ sizeLine
    rw [List.size_toArray, List.length_reverse, Array.length_toList]
    exact hsz
  obtain ⟨os, hos, hcs, hds⟩ := id hs
  have hTs : s.TypeIs (.ref sl) "slice" := ⟨os, hos, hcs⟩
  unfold getItem
  try with_reducible refine wpAny_holding ?_
  first | refine wpAny_bind (wpAny_pure ?_) | skip
  refine wpAny_bind (wpAny_sequenceKey ht.typeIs (by decide) ?_)
  refine wpAny_bind (wpAny_callSpecial?_slot (name := Str.ofString "__getitem__") ht.typeIs PyProof.Rows.slot_tuple_getitem (wpAny_call_entry PyProof.Rows.slot_tuple_getitem ht.typeIs entry_tuple_getitem ?_ (args_tuple_getitem _ _)))
  show wpAny _ _ (Builtin.Tuple.tupleItemsOf (.ref t) >>= _) _ _ s
  refine wpAny_bind (tupleItemsOf_ ht (wpAny_bind (wpAny_typeOf hTs ?_)))
  rw [if_pos (by decide)]
  refine wpAny_bind ?_
  unfold Builtin.Slice.sliceApplied Builtin.Slice.sliceFields
  refine wpAny_bind (wpAny_bind (wpAny_field hos hds (x := vl) rfl (wpAny_bind (wpAny_field hos hds (x := vu) rfl (wpAny_bind (wpAny_field hos hds (x := vs) rfl (wpAny_pure ?_)))))))
  refine wpAny_bind (HT.slicePart_ ps ?_)
  show wpAny _ _ (if ((-1 : Int) == 0) = true then _ else _) _ _ s
  rw [if_neg (by decide)]
  refine wpAny_bind (HT.slicePart_ pl (wpAny_bind (HT.slicePart_ pu (wpAny_bind (wpAny_pure ?_)))))
  show wpAny _ _ (match Builtin.Slice.sliceAdjust none none (-1) (items.size : Int) with | (lo, hi) => pure (lo, (-1 : Int), Builtin.Slice.slicePlaces lo hi (-1))) _ _ s
  rw [rev_adjust]
  show wpAny _ _ (pure ((items.size : Int) - 1, (-1 : Int), Builtin.Slice.slicePlaces ((items.size : Int) - 1) (-1) (-1))) _ _ s
  rw [rev_places]
  refine wpAny_pure ?_
  show wpAny _ _ (if (((items.size : Int) - 1 == 0 && (-1 : Int) == 1 && items.size == items.size) = true) then _ else _) _ _ s
  have no : ¬ (((items.size : Int) - 1 == 0 && (-1 : Int) == 1 && items.size == items.size) = true) := by
    rw [show ((-1 : Int) == 1) = false by decide, Bool.and_false, Bool.false_and]
    exact Bool.false_ne_true
  rw [if_neg no, rev_pick]
  first
    | exact wpAny_bind (m := Builtin.Tuple.tupleExact _) (wpAny_newObj_type (wpAny_pure ⟨_, rfl, wpAny_pure h⟩) fits)
    | exact wpAny_bind (m := Builtin.Tuple.tupleExact _) (wpAny_newObj_type (wpAny_bind (wpAny_pure (wpAny_pure ⟨_, rfl, wpAny_pure h⟩))) fits)
    | exact wpAny_bind (wpAny_bind (m := Builtin.Tuple.tupleExact _) (wpAny_newObj_type (wpAny_pure (wpAny_pure ⟨_, rfl, wpAny_pure h⟩)) fits))
    | exact wpAny_bind (wpAny_bind (m := Builtin.Tuple.tupleExact _) (wpAny_newObj_type (wpAny_pure ⟨_, rfl, wpAny_pure h⟩) fits))
section
variable {X : Cx} {H : Hp} {Q : VK} {σ : L2.St} {pos : Pos}
/-- t[::-1] -/
theorem w_revt {e : Expr} {k : Nat} {p1 p2 p3 : Pos} (q : wE X e σ H fun x H1 => ∃ a xs, x = .ref a ∧ SqT X.K H1 a xs ∧ ∀ p, H1 p = none → Q (.ref p) (upd H1 p (.tup xs.reverse))) :
    wE X (.Subscript e (.Slice none none (some (.UnaryOp .USub (.Constant (.int 1) k p1) p2)) p3) pos) σ H Q := by
  refine ⟨fun pins s I => ?_⟩
  refine Subscript_ (thn (q.run pins s I) fun v s1 h1 => ?_)
  obtain ⟨x, H1, I1, r1, a, xs, ex, hx, q⟩ := h1
  subst ex
  cases r1
  have part : wO X (some (.UnaryOp .USub (.Constant (.int 1) k p1) p2)) σ H1 (fun o H4 => o = some (-1) ∧ H4 = H1) := o_some (w_un (w_int (u_neg ⟨-1, rfl, rfl, rfl⟩)))
  refine wpAny_Slice (thn ((o_none (Q := fun o H2 => o = none ∧ H2 = H1) ⟨rfl, rfl⟩).run pins s1 I1) fun vl s2 h2 => ?_)
  obtain ⟨l, H2, I2, pl, el, e2⟩ := h2
  subst el
  subst e2
  refine thn ((o_none (Q := fun o H3 => o = none ∧ H3 = H2) ⟨rfl, rfl⟩).run pins s2 I2) fun vu s3 h3 => ?_
  obtain ⟨u, H3, I3, pu, eu, e3⟩ := h3
  subst eu
  subst e3
  refine thn (part.run pins s3 I3) fun vs s4 h4 => ?_
  obtain ⟨o, H4, I4, ps, eo, e4⟩ := h4
  subst eo
  subst e4
  have I5 : Inv X pins σ H4 { s4 with heap := s4.heap.push { cls := .type "slice", data := .fields #[vl, vu, vs] } } := I4.kept (t' := s4.toks) fun b ob q => Heap.get?_push_of_some _ q
  obtain ⟨its, r, ht, hz⟩ := I5.tuple hx
  refine tail_any (ops := [.ref a, .ref s4.heap.objs.size]) ht.typeIs PyProof.Rows.slot_tuple_getitem.lookup ?_ (by with_unfolding_all rfl)
  refine gi_rev ht (Heap.IsSliceOf.new _ vl vu vs) pl pu ps ?_ (by rw [List.size_toArray, ← r.length]; exact hz)
  refine ⟨.ref _, _, I5.laid (t' := s4.toks) (o := .tup xs.reverse) (fun b ob q => Heap.get?_push_of_some _ q) (Nat.le_refl _) ?_, rfl, q _ (I5.hok.fresh (Nat.le_refl _))⟩
  exact ⟨by rw [List.length_reverse]; exact hz, _, r.reverse, IsTup.new _ _⟩

/-! ### targets that are tuples -/
structure wGs (X : Cx) (ts : List Expr)  (vs : List V) (σ : L2.St) (H : Hp) (Q : L2.St → Hp → Prop) : Prop where
  run : ∀ (pins : List (Addr × Obj)) (s : Shared) (us : List Value), Inv X pins σ H s → Vals vs us →
    wpAny (model X.prog X.w) X.A (assignInOrder ((assignEach ts X.env).map (·.2)) us) (fun _ s' => ∃ σ' H', Inv X pins σ' H' s' ∧ Q σ' H') X.xe s
theorem pgs_w {ts : List Expr} : PGs X ts (wGs X ts) := ⟨fun pins s _ _ _ us _ I r h => h.run pins s us I r⟩
theorem gs_nil {Q : L2.St → Hp → Prop} (q : Q σ H) : wGs X [] [] σ H Q := ⟨fun pins s us I r => pgs_nil.run pins s σ H [] us Q I r ⟨rfl, q⟩⟩
theorem gs_cons {e : Expr} {es : List Expr} {v : V} {vs : List V} {Q : L2.St → Hp → Prop} (q : wG X e v σ H fun σ1 H1 => wGs X es vs σ1 H1 Q)
    (hs : (assignEach (e :: es) X.env).map (·.2) = assign e X.env :: (assignEach es X.env).map (·.2) := by rfl) : wGs X (e :: es) (v :: vs) σ H Q :=
  ⟨fun pins s us I r => (pgs_cons pg_w pgs_w hs).run pins s σ H (v :: vs) us Q I r ⟨v, vs, rfl, q⟩⟩
theorem g_tup {es : List Expr} {k : Nat} {a : Addr} {xs : List V} {n : Nat} {Q : L2.St → Hp → Prop} (hc : X.calm = true) (h : SqT X.K H a xs) (hl : xs.length = n) (q : wGs X es xs σ H Q)
    (hn : (assignEach es X.env).length = n := by rfl) (hst : (assignEach es X.env).findIdx? (·.1) = none := by rfl) : wG X (.Tuple es k pos) (.ref a) σ H Q :=
  of_pg (pg_tup hc pgs_w hn hst) ⟨a, xs, rfl, h, hl, q⟩

/-! ### what is walked -/
section
variable {tg e : Expr} {R : It → Hp → Prop}
theorem i_tup (q : wE X e σ H fun x H1 => ∃ a, x = .ref a ∧ (∃ xs, SqT X.K H1 a xs) ∧ R (Itt X.K a) H1) : wI X tg e σ H R := of_pi (pi_tup pe_w) q
theorem i_lst (q : wE X e σ H fun x H1 => ∃ a, x = .ref a ∧ (∃ xs, SqL X.K H1 a xs) ∧ R (Itl X.K a) H1) : wI X tg e σ H R := of_pi (pi_list pe_w) q
theorem i_rng {p : Pos} (hg : Gl X "range") (hm : X.mg "range" = none) (q : wA X [e] σ H fun vs H1 => ∃ j : Int, vs = [.int j] ∧ -(2 ^ 62) ≤ j ∧ j < 2 ^ 62 ∧ R (Itr 0 j.toNat) H1) (hs : starEach [e] X.env = [(false, eval e X.env)] := by rfl) :
    wI X tg (.Call (.Name "range" p) [e] [] pos) σ H R := of_pi (pi_range1 hg hm pa_w hs) q
end
end
/-! ### comprehensions -/
/-- the element in the comprehension's own block -/
def wEb (X : Cx) (scope : Scope) (e : Expr) : TE := fun σ H Q => ∀ (s : Shared) (H0 : Hp) (C : Addr) (cl : List (Str × Addr)) (fp : List Addr), wE (X.blk s H0 scope (compEnvC scope cl C X.env) fp) e σ H Q
def wGb (X : Cx) (scope : Scope) (e : Expr) : TG := fun v σ H Q => ∀ (s : Shared) (H0 : Hp) (C : Addr) (cl : List (Str × Addr)) (fp : List Addr), wG (X.blk s H0 scope (compEnvC scope cl C X.env) fp) e v σ H Q
def wTb (X : Cx) (scope : Scope) (e : Expr) : TT := fun σ H Q => ∀ (s : Shared) (H0 : Hp) (C : Addr) (cl : List (Str × Addr)) (fp : List Addr), wT (X.blk s H0 scope (compEnvC scope cl C X.env) fp) e σ H Q
section
variable {X : Cx} {H : Hp} {Q : VK} {σ : L2.St} {pos : Pos}
/-- [elt for tg in iter] -/
theorem w_lc (own : List (Str × Nat)) {elt tg iter : Expr} {scope : Scope} (hc : X.calm = true) (hN : X.N.Nodup) (ok : BlkOk X.N X.env.scope scope own)
    (q : tLc (wI X tg iter) (wGb X scope tg) tYes (wEb X scope elt) (own.map (·.2)) σ H Q) (hs : ∀ x, foldedSetIterable iter X.env x = pure x := by intro _; rfl) : wE X (.ListComp elt [⟨tg, iter, [], 0⟩] scope pos) σ H Q :=
  of_pe (pe_lc hc hN pi_w ok (fun s H0 C cl fp => ⟨fun pins s' σ' H' v u Q' I r h => (h s H0 C cl fp).run pins s' u I r⟩) (fun _ _ _ _ _ => pts_nil) (fun s H0 C cl fp => ⟨fun pins s' σ' H' Q' I h => (h s H0 C cl fp).run pins s' I⟩) hs) q
/-- [elt for tg in iter if c] -/
theorem w_lcif (own : List (Str × Nat)) {elt tg iter c : Expr} {scope : Scope} (hc : X.calm = true) (hN : X.N.Nodup) (ok : BlkOk X.N X.env.scope scope own)
    (q : tLc (wI X tg iter) (wGb X scope tg) (wTb X scope c) (wEb X scope elt) (own.map (·.2)) σ H Q) (hs : ∀ x, foldedSetIterable iter X.env x = pure x := by intro _; rfl) : wE X (.ListComp elt [⟨tg, iter, [c], 0⟩] scope pos) σ H Q :=
  of_pe (pe_lc hc hN pi_w ok (fun s H0 C cl fp => ⟨fun pins s' σ' H' v u Q' I r h => (h s H0 C cl fp).run pins s' u I r⟩) (fun s H0 C cl fp => pts_one ⟨fun pins s' σ' H' Q' I h => (h s H0 C cl fp).run pins s' I⟩)
    (fun s H0 C cl fp => ⟨fun pins s' σ' H' Q' I h => (h s H0 C cl fp).run pins s' I⟩) hs) q
/-- y = [elt for tg in iter] -/
theorem s_lc (i : Nat) (own : List (Str × Nat)) {D : Ends} {y : Str} {py spos : Pos} {elt tg iter : Expr} {scope : Scope} (hc : X.calm = true) (hN : X.N.Nodup) (hy : X.N[i]? = some y) (hyl : X.env.scope.names.lookup y = some .local)
    (hsw : swapsWith (.ListComp elt [⟨tg, iter, [], 0⟩] scope pos) (some (.Name y py)) spos.line X.env = pure true) (ok : BlkOk X.N X.env.scope scope own)
    (q : tLc (wI X tg iter) (wGb X scope tg) tYes (wEb X scope elt) (own.map (·.2)) σ H fun v H1 => D.nx (σ.set i (some v)) H1) (hs : ∀ x, foldedSetIterable iter X.env x = pure x := by intro _; rfl) :
    wS X (.Assign [.Name y py] (.ListComp elt [⟨tg, iter, [], 0⟩] scope pos) spos) D σ H :=
  of_ps (ps_setLc hc hN hy hyl hsw pi_w ok (fun s H0 C cl fp => ⟨fun pins s' σ' H' v u Q' I r h => (h s H0 C cl fp).run pins s' u I r⟩) (fun _ _ _ _ _ => pts_nil) (fun s H0 C cl fp => ⟨fun pins s' σ' H' Q' I h => (h s H0 C cl fp).run pins s' I⟩) hs) q
end
end G

end Part_G5
section Part_G6
set_option maxRecDepth 100000
set_option maxHeartbeats 2000000
/-! G6: isinstance of data; promises of defs that only look; lengths. -/
namespace G
open PySem PySem.Spec PyProof.Rows L2
def isTup : PyData → Bool | .tuple _ => true | _ => false
def isIntB : PyData → Bool | .int _ => true | .bool _ => true | _ => false
def isBoo : PyData → Bool | .bool _ => true | _ => false
def isStr : PyData → Bool | .str _ => true | _ => false
theorem kit_tup (d : PyData) : kitB (tyD d) "tuple" = some (isTup d) := by cases d <;> (first | rfl | (unfold tyD isTup; decide +kernel))
theorem kit_int (d : PyData) : kitB (tyD d) "int" = some (isIntB d) := by cases d <;> (first | rfl | (unfold tyD isIntB; decide +kernel))
theorem kit_boo (d : PyData) : kitB (tyD d) "bool" = some (isBoo d) := by cases d <;> (first | rfl | (unfold tyD isBoo; decide +kernel))
theorem kit_str (d : PyData) : kitB (tyD d) "str" = some (isStr d) := by cases d <;> (first | rfl | (unfold tyD isStr; decide +kernel))
section
variable {X : Cx} {H : Hp} {Q : VK} {σ : L2.St} {pos p p2 : Pos} {e : Expr}
theorem w_isi {T : String} {TN : Str} (f : PyData → Bool) (hk : ∀ d, kitB (tyD d) T = some (f d)) (hg : Gl X "isinstance") (hm : X.mg "isinstance" = none) (hgT : Gl X TN) (hmT : X.mg TN = none) (hvT : bootBuiltins TN = some (.type T)) (hn : TN ≠ "__name__") (hdb : (TN == ("__debug__" : Str)) = false)
    (q : wE X e σ H fun x H1 => ∃ d, Dq H1 x d ∧ Q (.bl (f d)) H1) (hs : starEach [e, .Name TN p2] X.env = (false, eval e X.env) :: starEach [.Name TN p2] X.env := by rfl) :
    wE X (.Call (.Name "isinstance" p) [e, .Name TN p2] [] pos) σ H Q := by
  refine w_callB (id := "isinstance") hg hm (by decide +kernel) (wa_cons (q.imp fun x H1 h => ?_) hs) (he := hs)
  obtain ⟨d, hd, hq⟩ := h
  exact wa_cons (w_bt (v := .ty T) hgT hmT hvT rfl (wa_nil (c_isi hd (hk d) hq)) hn hdb)
theorem w_isT (hg : Gl X "isinstance") (hm : X.mg "isinstance" = none) (hgT : Gl X "tuple") (hmT : X.mg "tuple" = none) (q : wE X e σ H fun x H1 => ∃ d, Dq H1 x d ∧ Q (.bl (isTup d)) H1) (hs : starEach [e, .Name "tuple" p2] X.env = (false, eval e X.env) :: starEach [.Name "tuple" p2] X.env := by rfl) :
    wE X (.Call (.Name "isinstance" p) [e, .Name "tuple" p2] [] pos) σ H Q := w_isi (T := "tuple") isTup kit_tup hg hm hgT hmT (by decide +kernel) (by decide) (by decide) q hs
theorem w_isI (hg : Gl X "isinstance") (hm : X.mg "isinstance" = none) (hgT : Gl X "int") (hmT : X.mg "int" = none) (q : wE X e σ H fun x H1 => ∃ d, Dq H1 x d ∧ Q (.bl (isIntB d)) H1) (hs : starEach [e, .Name "int" p2] X.env = (false, eval e X.env) :: starEach [.Name "int" p2] X.env := by rfl) :
    wE X (.Call (.Name "isinstance" p) [e, .Name "int" p2] [] pos) σ H Q := w_isi (T := "int") isIntB kit_int hg hm hgT hmT (by decide +kernel) (by decide) (by decide) q hs
theorem w_isB (hg : Gl X "isinstance") (hm : X.mg "isinstance" = none) (hgT : Gl X "bool") (hmT : X.mg "bool" = none) (q : wE X e σ H fun x H1 => ∃ d, Dq H1 x d ∧ Q (.bl (isBoo d)) H1) (hs : starEach [e, .Name "bool" p2] X.env = (false, eval e X.env) :: starEach [.Name "bool" p2] X.env := by rfl) :
    wE X (.Call (.Name "isinstance" p) [e, .Name "bool" p2] [] pos) σ H Q := w_isi (T := "bool") isBoo kit_boo hg hm hgT hmT (by decide +kernel) (by decide) (by decide) q hs
theorem w_isS (hg : Gl X "isinstance") (hm : X.mg "isinstance" = none) (hgT : Gl X "str") (hmT : X.mg "str" = none) (q : wE X e σ H fun x H1 => ∃ d, Dq H1 x d ∧ Q (.bl (isStr d)) H1) (hs : starEach [e, .Name "str" p2] X.env = (false, eval e X.env) :: starEach [.Name "str" p2] X.env := by rfl) :
    wE X (.Call (.Name "isinstance" p) [e, .Name "str" p2] [] pos) σ H Q := w_isi (T := "str") isStr kit_str hg hm hgT hmT (by decide +kernel) (by decide) (by decide) q hs
/-- any of these facts of a tuple, a list that stands -/
theorem e_lenT {a : Addr} {xs : List V} (h : SqT X.K H a xs) (q : xs.length ≤ sizeLine → wE X e σ H Q) : wE X e σ H Q := ⟨fun pins s I => (q (I.tuple h).choose_spec.2.2).run pins s I⟩
theorem ss_lenT {a : Addr} {xs : List V} {st : List Stmt} {D : Ends} (h : SqT X.K H a xs) (q : xs.length ≤ sizeLine → wSs X st D σ H) : wSs X st D σ H := ⟨fun pins s I => (q (I.tuple h).choose_spec.2.2).run pins s I⟩
theorem s_lenT {a : Addr} {xs : List V} {st : Stmt} {D : Ends} (h : SqT X.K H a xs) (q : xs.length ≤ sizeLine → wS X st D σ H) : wS X st D σ H := ⟨fun pins s I => (q (I.tuple h).choose_spec.2.2).run pins s I⟩
end
/-- a def that looks at one value and gives a truth -/
def spD (f : PyData → Bool) : Sp := fun vs H Q _ => ∃ v d, vs = [v] ∧ Dq H v d ∧ ∀ H', Ex H H' → Q (.bl (f d)) H'
theorem ite_b {A B : Prop} {c : Bool} (h1 : c = true → A) (h2 : c = false → B) : if c = true then A else B := by
  cases c with
  | true => exact h1 rfl
  | false => exact h2 rfl
end G

end Part_G6
section Part_G7
set_option maxRecDepth 100000
set_option maxHeartbeats 2000000
/-! G7: comprehensions that give a value for each turn; all of them; zip of tuples. -/
namespace G
open PySem PySem.Spec PyProof.Rows L2
theorem wG.imp {X : Cx} {tg : Expr} {v : V} {σ : L2.St} {H : Hp} {Q Q' : L2.St → Hp → Prop} (q : wG X tg v σ H Q) (h : ∀ σ' H', Q σ' H' → Q' σ' H') : wG X tg v σ H Q' :=
  ⟨fun pins s u I r => thn (q.run pins s u I r) fun _ _ ⟨σ', H', I', k⟩ => ⟨σ', H', I', h σ' H' k⟩⟩
theorem wGb.imp {X : Cx} {scope : Scope} {tg : Expr} {v : V} {σ : L2.St} {H : Hp} {Q Q' : L2.St → Hp → Prop} (q : wGb X scope tg v σ H Q) (h : ∀ σ' H', Q σ' H' → Q' σ' H') : wGb X scope tg v σ H Q' := fun s H0 C cl fp => (q s H0 C cl fp).imp h
theorem wEb.imp {X : Cx} {scope : Scope} {e : Expr} {σ : L2.St} {H : Hp} {Q Q' : VK} (q : wEb X scope e σ H Q) (h : ∀ x H', Q x H' → Q' x H') : wEb X scope e σ H Q' := fun s H0 C cl fp => (q s H0 C cl fp).imp h
theorem wI.imp {X : Cx} {tg iter : Expr} {σ : L2.St} {H : Hp} {R R' : It → Hp → Prop} (q : wI X tg iter σ H R) (h : ∀ J H1, R J H1 → R' J H1) : wI X tg iter σ H R' :=
  ⟨fun pins s I => thn (q.run pins s I) fun _ _ q1 => thn q1 fun _ _ ⟨it, fp, tn, J, H', e, I', T, t0, ff, r⟩ => ⟨it, fp, tn, J, H', e, I', T, t0, ff, h J H' r⟩⟩
theorem walk_zipT {K : PySem.W.Frag} {a b : Addr} {xs ys : List V} {n : Nat} (hn : n = min xs.length ys.length) : Walk (RZ.ItzT K a b) n (fun H => SqT K H a xs ∧ SqT K H b ys) (YPair (fun i => xs[i]?) (fun i => ys[i]?)) := by
  subst hn
  refine ⟨fun i H hi q => ?_, fun H q => ⟨xs, ys, q.1, q.2, by omega⟩, fun i H v H' hi q y => ?_⟩
  · exact ⟨xs, ys, xs[i]'(by omega), ys[i]'(by omega), q.1, q.2, List.getElem?_eq_getElem (by omega), List.getElem?_eq_getElem (by omega)⟩
  · obtain ⟨T, x, z, h1, h2, h3, h4, h5⟩ := y
    exact ⟨T, x, z, h1, h2, h3, h4 xs q.1, h5 ys q.2⟩
section
variable {X : Cx} {H : Hp} {Q : VK} {σ : L2.St} {pos p : Pos}
theorem sqt_ex {K : PySem.W.Frag} {H' : Hp} {a : Addr} {xs : List V} (e : Ex H H') (h : SqT K H a xs) : SqT K H' a xs := by
  rcases h with (h | ⟨o, h⟩) | h
  · exact .inl (.inl (e _ _ h))
  · exact .inl (.inr ⟨o, e _ _ h⟩)
  · exact .inr h
theorem sql_ex {K : PySem.W.Frag} {H' : Hp} {a : Addr} {xs : List V} (e : Ex H H') (h : SqL K H a xs) : SqL K H' a xs := by
  rcases h with (h | ⟨o, h⟩) | h
  · exact .inl (.inl (e _ _ h))
  · exact .inl (.inr ⟨o, e _ _ h⟩)
  · exact .inr h
/-- what a comprehension of one value a turn asks -/
def LcQ (X : Cx) (scope : Scope) (tg elt : Expr) (vs : List Nat) (σ : L2.St) (J : It) (H1 : Hp) (Q : VK) : Prop :=
  ∃ (n : Nat) (G : Hp → Prop) (Y : Nat → Hp → V → Hp → Prop) (f : Nat → V), Walk J n G Y ∧ n ≤ sizeLine ∧ (∀ H', Ex H1 H' → G H') ∧
    (∀ i x H' H'', i < n → Ex H1 H' → Y i H' x H'' → wGb X scope tg x (wipe σ vs) H'' fun σ2 H2 => wipe σ2 vs = wipe σ vs ∧ wEb X scope elt σ2 H2 fun y H4 => y = f i ∧ Ex H' H4) ∧
    (∀ D H', H1 D = none → Ex H1 H' → H' D = some (.lst ((List.range n).map f)) → Q (.ref D) H')
theorem lcq {scope : Scope} {tg elt : Expr} {vs : List Nat} {J : It} {H1 : Hp} (h : LcQ X scope tg elt vs σ J H1 Q) : ∀ D, H1 D = none → ∃ W : Nat → Nat → Hp → Prop, (∃ m, W 0 m (upd H1 D (.lst []))) ∧ ∀ i m H, W i m H →
    (J.stop i H ∧ Q (.ref D) H) ∨ (J.go i H ∧ ∃ Nx : Hp → Prop, (∀ H', Nx H' → ∃ m', m' < m ∧ W (i + 1) m' H') ∧ ∀ x H', J.yld i H x H' → wGb X scope tg x (wipe σ vs) H' fun σ2 H2 => wipe σ2 vs = wipe σ vs ∧ tYes σ2 H2 fun b H3 =>
      if b = true then wEb X scope elt σ2 H3 fun y H4 => ∃ acc, H4 D = some (.lst acc) ∧ acc.length < sizeLine ∧ Nx (upd H4 D (.lst (acc ++ [y]))) else Nx H3) := by
  obtain ⟨n, G, Y, f, w, hn, hG, ht, hq⟩ := h
  intro D hD
  refine lc_it w (fun i H' => Ex H1 H' ∧ H' D = some (.lst ((List.range i).map f))) ⟨Ex.new hD, upd_same⟩ (fun i H' _ p => hG H' p.1) (fun i x H' H'' hi p y => ?_) fun H' p => hq D H' hD p.1 p.2
  refine (ht i x H' H'' hi p.1 y).imp fun σ2 H2 h2 => ⟨h2.1, ?_⟩
  have yes : ∀ {R : Bool → Hp → Prop}, R true H2 → tYes σ2 H2 R := fun r => r
  refine yes ?_
  rw [if_pos rfl]
  refine h2.2.imp fun z H4 h4 => ?_
  refine ⟨_, h4.2 D _ p.2, by rw [List.length_map, List.length_range]; omega, (p.1.trans h4.2).put hD, ?_⟩
  rw [h4.1, List.range_succ, List.map_append]
  exact upd_same
/-- [elt for tg in iter], a value for each turn -/
theorem w_lcm (own : List (Str × Nat)) {elt tg iter : Expr} {scope : Scope} (hc : X.calm = true) (hN : X.N.Nodup) (ok : BlkOk X.N X.env.scope scope own)
    (q : wI X tg iter σ H fun J H1 => LcQ X scope tg elt (own.map (·.2)) σ J H1 Q) (hs : ∀ x, foldedSetIterable iter X.env x = pure x := by intro _; rfl) : wE X (.ListComp elt [⟨tg, iter, [], 0⟩] scope pos) σ H Q :=
  w_lc own hc hN ok (q.imp fun J H1 h => lcq h) hs
theorem c_all {a : Addr} {bs : List Bool} (hc : X.calm = true) (h : SqL X.K H a (bs.map V.bl)) (q : Q (.bl (bs.all id)) H) : wC X (.builtin "all") [.ref a] H Q := of_call (cr_all hc) ⟨a, bs, rfl, h, q⟩
theorem range_map_d {β : Type} (f : PyData → β) (ds : List PyData) : (List.range ds.length).map (fun i => f (ds.getD i .none)) = ds.map f := by
  refine List.ext_getElem (by simp) fun i h1 h2 => ?_
  rw [List.length_map] at h2
  simp [List.getD, List.getElem?_eq_getElem h2]
/-- all([elt for tg in iter]) over the items of a tuple of data, elt a truth that hangs on the item alone -/
theorem w_allT (own : List (Str × Nat)) {elt tg iter : Expr} {scope : Scope} {p2 : Pos} (pr : PyData → Bool) (hg : Gl X "all") (hm : X.mg "all" = none) (hc : X.calm = true) (hN : X.N.Nodup) (ok : BlkOk X.N X.env.scope scope own)
    (q : wE X iter σ H fun x H1 => ∃ a xs ds, x = .ref a ∧ SqT X.K H1 a xs ∧ Dqs H1 xs ds ∧
      (∀ v d H', Ex H1 H' → Dq H' v d → d ∈ ds → wGb X scope tg v (wipe σ (own.map (·.2))) H' fun σ2 H2 => wipe σ2 (own.map (·.2)) = wipe σ (own.map (·.2)) ∧ wEb X scope elt σ2 H2 fun y H4 => y = .bl (pr d) ∧ Ex H' H4) ∧
      ∀ H', Ex H1 H' → Q (.bl (ds.all pr)) H') (hs : ∀ x, foldedSetIterable iter X.env x = pure x := by intro _; rfl)
    (he : starEach [.ListComp elt [⟨tg, iter, [], 0⟩] scope p2] X.env = (false, eval (.ListComp elt [⟨tg, iter, [], 0⟩] scope p2) X.env) :: starEach [] X.env := by rfl) :
    wE X (.Call (.Name "all" p) [.ListComp elt [⟨tg, iter, [], 0⟩] scope p2] [] pos) σ H Q := by
  refine w_callB (id := "all") hg hm (by decide +kernel) (wa_cons (w_lcm own hc hN ok (i_tup ?_) hs) he) (he := he)
  refine ⟨fun pins s I => ?_⟩
  refine thn (q.run pins s I) fun u s1 h1 => ?_
  obtain ⟨x, H1, I1, r, a, xs, ds, rfl, ha, hx, ht, hq⟩ := h1
  have hz : xs.length ≤ sizeLine := (I1.tuple ha).choose_spec.2.2
  refine ⟨.ref a, H1, I1, r, a, rfl, ⟨xs, ha⟩, xs.length, _, _, fun i => .bl (pr (ds.getD i .none)), walk_tup (xs := xs), hz, fun H' e => sqt_ex e ha, fun i v H' H'' hi e y => ?_, fun D H' hD e hl => wa_nil (c_all (bs := ds.map pr) hc (sq_l ?_) ?_)⟩
  · obtain ⟨rfl, hv⟩ := y
    obtain ⟨d, hd, dq⟩ := hx.get hv
    have eg : ds.getD i .none = d := by simp [List.getD, hd]
    refine (ht v d H'' e (dq.ex e) (List.mem_of_getElem? hd)).imp fun σ2 H2 h2 => ⟨h2.1, h2.2.imp fun y H4 h4 => ⟨?_, h4.2⟩⟩
    rw [h4.1]
    show V.bl (pr d) = V.bl (pr (ds.getD i .none))
    rw [eg]
  · rw [hl, hx.length, range_map_d (fun d => V.bl (pr d)) ds, List.map_map]
    rfl
  · have e2 : (ds.map pr).all id = ds.all pr := by rw [List.all_map]; rfl
    rw [e2]
    exact hq H' e
theorem e_lenA {es : List Expr} {a : Addr} {xs : List V} {Q : List V → Hp → Prop} (h : SqT X.K H a xs) (q : xs.length ≤ sizeLine → wA X es σ H Q) : wA X es σ H Q := ⟨fun pos pins s I => (q (I.tuple h).choose_spec.2.2).run pos pins s I⟩
end
end G

end Part_G7
section Part_G8
set_option maxRecDepth 100000
set_option maxHeartbeats 2000000
/-! G8: how great data is; so that its repr can be told. -/
namespace G
open PySem PySem.Spec PyProof.Rows L2
mutual
def smD (B : Nat) : PyData → Bool
  | .none => true
  | .bool _ => true
  | .int i => decide (i.natAbs ≤ B)
  | .str x => decide (x.cps.size ≤ 200) && x.cps.toList.all fun c => decide (c < 16 ^ 8)
  | .list xs => smAll B xs
  | .tuple xs => smAll B xs
  | .dict kvs => smKv B kvs
def smAll (B : Nat) : List PyData → Bool
  | [] => true
  | x :: xs => smD B x && smAll B xs
def smKv (B : Nat) : List (PyData × PyData) → Bool
  | [] => true
  | (k, v) :: r => smD B k && smD B v && smKv B r
end
theorem int_log {i : Int} (h : i.natAbs < 2 ^ 64) : i.natAbs.log2 < 1920 := by
  by_cases e : i.natAbs = 0
  · rw [e]; decide
  · have := (Nat.log2_lt e).mpr h
    omega
theorem int_len {i : Int} (h : i.natAbs < 2 ^ 64) : (PyData.shown (.int i)).length ≤ 65 := by
  show (Str.ofString (toString i)).length ≤ 65
  rw [PySem.ofString_length]
  refine int_text_length_le (k := 64) (by decide) ?_
  by_cases e : i.natAbs = 0
  · rw [e]; decide
  · exact (Nat.log2_lt e).mpr h
mutual
theorem sm_short {B : Nat} (hB : B < 2 ^ 64) : ∀ d : PyData, smD B d = true → d.leavesShort 70 = true ∧ d.showable = true
  | .none, _ => ⟨rfl, rfl⟩
  | .bool _, _ => ⟨rfl, rfl⟩
  | .int i, h => by
    have h1 : i.natAbs ≤ B := of_decide_eq_true h
    have h2 : i.natAbs < 2 ^ 64 := Nat.lt_of_le_of_lt h1 hB
    exact ⟨decide_eq_true (Nat.le_trans (int_len h2) (by decide)), decide_eq_true (int_log h2)⟩
  | .str x, h => by
    have h1 : (decide (x.cps.size ≤ 200) && x.cps.toList.all fun c => decide (c < 16 ^ 8)) = true := h
    rw [Bool.and_eq_true] at h1
    exact ⟨h1.2, rfl⟩
  | .list xs, h => by have := smAll_short hB xs h; exact ⟨by simpa only [PyData.leavesShort] using this.1, by simpa only [PyData.showable] using this.2⟩
  | .tuple xs, h => by have := smAll_short hB xs h; exact ⟨by simpa only [PyData.leavesShort] using this.1, by simpa only [PyData.showable] using this.2⟩
  | .dict kvs, h => by have := smKv_short hB kvs h; exact ⟨by simpa only [PyData.leavesShort] using this.1, by simpa only [PyData.showable] using this.2⟩
theorem smAll_short {B : Nat} (hB : B < 2 ^ 64) : ∀ xs : List PyData, smAll B xs = true → PyData.leavesShortAll 70 xs = true ∧ PyData.showableAll xs = true
  | [], _ => ⟨rfl, rfl⟩
  | x :: xs, h => by
    have h1 : (smD B x && smAll B xs) = true := h
    rw [Bool.and_eq_true] at h1
    have a := sm_short hB x h1.1
    have b := smAll_short hB xs h1.2
    exact ⟨by simp only [PyData.leavesShortAll, a.1, b.1, Bool.and_self], by simp only [PyData.showableAll, a.2, b.2, Bool.and_self]⟩
theorem smKv_short {B : Nat} (hB : B < 2 ^ 64) : ∀ xs : List (PyData × PyData), smKv B xs = true → PyData.leavesShortKv 70 xs = true ∧ PyData.showableKv xs = true
  | [], _ => ⟨rfl, rfl⟩
  | (k, v) :: xs, h => by
    have h1 : (smD B k && smD B v && smKv B xs) = true := h
    rw [Bool.and_eq_true, Bool.and_eq_true] at h1
    have a := sm_short hB k h1.1.1
    have c := sm_short hB v h1.1.2
    have b := smKv_short hB xs h1.2
    exact ⟨by simp only [PyData.leavesShortKv, a.1, b.1, c.1, Bool.and_self], by simp only [PyData.showableKv, a.2, b.2, c.2, Bool.and_self]⟩
end
theorem smAll_iff {B : Nat} {xs : List PyData} : smAll B xs = true ↔ ∀ d ∈ xs, smD B d = true := by
  induction xs with
  | nil => exact ⟨fun _ _ h => (nomatch h), fun _ => rfl⟩
  | cons x xs ih =>
    show (smD B x && smAll B xs) = true ↔ _
    rw [Bool.and_eq_true, ih, List.forall_mem_cons]
theorem depthAll_le {n : Nat} {xs : List PyData} : PyData.depthAll xs ≤ n ↔ ∀ d ∈ xs, d.depth ≤ n := by
  induction xs with
  | nil => exact ⟨fun _ _ h => (nomatch h), fun _ => Nat.zero_le _⟩
  | cons x xs ih =>
    show max x.depth (PyData.depthAll xs) ≤ n ↔ _
    rw [Nat.max_le, ih, List.forall_mem_cons]
theorem bulkAll_eq (xs : List PyData) : PyData.bulkAll xs = (xs.map fun d => d.bulk + 1).sum := by
  induction xs with
  | nil => rfl
  | cons x xs ih =>
    show x.bulk + 1 + PyData.bulkAll xs = _
    rw [List.map_cons, List.sum_cons, ih]
theorem bulk_mem {xs : List PyData} {d : PyData} (h : d ∈ xs) : d.bulk + 1 ≤ PyData.bulkAll xs := by
  induction xs with
  | nil => cases h
  | cons x xs ih =>
    show _ ≤ x.bulk + 1 + PyData.bulkAll xs
    rcases List.mem_cons.mp h with e | e
    · rw [e]; omega
    · have := ih e; omega
theorem bulkAll_append (xs ys : List PyData) : PyData.bulkAll (xs ++ ys) = PyData.bulkAll xs + PyData.bulkAll ys := by
  rw [bulkAll_eq, bulkAll_eq, bulkAll_eq, List.map_append, List.sum_append]
/-- ints at most B, at most n deep, at most m great -/
structure Sz (B n m : Nat) (d : PyData) : Prop where
  sm : smD B d = true
  dp : d.depth ≤ n
  bk : d.bulk ≤ m
/-- .. of a row of data -/
structure Szs (B n m : Nat) (ds : List PyData) : Prop where
  sm : ∀ d ∈ ds, smD B d = true
  dp : ∀ d ∈ ds, d.depth ≤ n
  bk : PyData.bulkAll ds ≤ m
section
variable {B n m B' n' m' : Nat} {d : PyData} {ds es : List PyData}
mutual
theorem smD_mono {B B' : Nat} (hB : B ≤ B') : ∀ d : PyData, smD B d = true → smD B' d = true
  | .none, h => h
  | .bool _, h => h
  | .int i, h => decide_eq_true (Nat.le_trans (of_decide_eq_true h) hB)
  | .str _, h => h
  | .list xs, h => smAll_mono hB xs h
  | .tuple xs, h => smAll_mono hB xs h
  | .dict kvs, h => smKv_mono hB kvs h
theorem smAll_mono {B B' : Nat} (hB : B ≤ B') : ∀ xs : List PyData, smAll B xs = true → smAll B' xs = true
  | [], _ => rfl
  | x :: xs, h => by
    have h1 : (smD B x && smAll B xs) = true := h
    rw [Bool.and_eq_true] at h1
    show (smD B' x && smAll B' xs) = true
    rw [Bool.and_eq_true]
    exact ⟨smD_mono hB x h1.1, smAll_mono hB xs h1.2⟩
theorem smKv_mono {B B' : Nat} (hB : B ≤ B') : ∀ xs : List (PyData × PyData), smKv B xs = true → smKv B' xs = true
  | [], _ => rfl
  | (k, v) :: xs, h => by
    have h1 : (smD B k && smD B v && smKv B xs) = true := h
    rw [Bool.and_eq_true, Bool.and_eq_true] at h1
    show (smD B' k && smD B' v && smKv B' xs) = true
    rw [Bool.and_eq_true, Bool.and_eq_true]
    exact ⟨⟨smD_mono hB k h1.1.1, smD_mono hB v h1.1.2⟩, smKv_mono hB xs h1.2⟩
end
theorem Sz.mono (h : Sz B n m d) (h1 : B ≤ B') (h2 : n ≤ n') (h3 : m ≤ m') : Sz B' n' m' d := ⟨smD_mono h1 d h.sm, Nat.le_trans h.dp h2, Nat.le_trans h.bk h3⟩
theorem Szs.mono (h : Szs B n m ds) (h1 : B ≤ B') (h2 : n ≤ n') (h3 : m ≤ m') : Szs B' n' m' ds := ⟨fun d hd => smD_mono h1 d (h.sm d hd), fun d hd => Nat.le_trans (h.dp d hd) h2, Nat.le_trans h.bk h3⟩
theorem Sz.tup (h : Szs B n m ds) : Sz B (n + 1) m (.tuple ds) := ⟨smAll_iff.mpr h.sm, Nat.succ_le_succ (depthAll_le.mpr h.dp), h.bk⟩
theorem Sz.lst (h : Szs B n m ds) : Sz B (n + 1) m (.list ds) := ⟨smAll_iff.mpr h.sm, Nat.succ_le_succ (depthAll_le.mpr h.dp), h.bk⟩
theorem Sz.of_tup (h : Sz B n m (.tuple ds)) : 0 < n ∧ Szs B (n - 1) m ds := by
  have h1 : PyData.depthAll ds + 1 ≤ n := h.dp
  exact ⟨by omega, smAll_iff.mp h.sm, depthAll_le.mp (by omega), h.bk⟩
theorem Szs.nil : Szs B n 0 [] := ⟨fun _ h => (nomatch h), fun _ h => (nomatch h), Nat.le_refl _⟩
theorem Szs.cons (h : Sz B n m d) (hs : Szs B n m' ds) : Szs B n (m + 1 + m') (d :: ds) :=
  ⟨List.forall_mem_cons.mpr ⟨h.sm, hs.sm⟩, List.forall_mem_cons.mpr ⟨h.dp, hs.dp⟩, by show d.bulk + 1 + PyData.bulkAll ds ≤ _; have := h.bk; have := hs.bk; omega⟩
theorem Szs.append (h : Szs B n m ds) (hs : Szs B n m' es) : Szs B n (m + m') (ds ++ es) :=
  ⟨fun d hd => (List.mem_append.mp hd).elim (h.sm d) (hs.sm d), fun d hd => (List.mem_append.mp hd).elim (h.dp d) (hs.dp d), by rw [bulkAll_append]; have := h.bk; have := hs.bk; omega⟩
theorem Szs.get (h : Szs B n m ds) (hd : d ∈ ds) : Sz B n (m - 1) d := ⟨h.sm d hd, h.dp d hd, by have := bulk_mem hd; have := h.bk; omega⟩
theorem Szs.sub (h : Szs B n m ds) (hs : ∀ d ∈ es, d ∈ ds) (hb : PyData.bulkAll es ≤ m') : Szs B n m' es := ⟨fun d hd => h.sm d (hs d hd), fun d hd => h.dp d (hs d hd), hb⟩
theorem bulk_rev (ds : List PyData) : PyData.bulkAll ds.reverse = PyData.bulkAll ds := by
  rw [bulkAll_eq, bulkAll_eq, List.map_reverse, List.sum_reverse]
theorem bulk_split (ds : List PyData) (i : Nat) : PyData.bulkAll (ds.take i) + PyData.bulkAll (ds.drop i) = PyData.bulkAll ds := by
  rw [← bulkAll_append, List.take_append_drop]
theorem Szs.take (h : Szs B n m ds) (i : Nat) : Szs B n m (ds.take i) := h.sub (fun d hd => List.mem_of_mem_take hd) (by have := bulk_split ds i; have := h.bk; omega)
theorem Szs.drop (h : Szs B n m ds) (i : Nat) : Szs B n m (ds.drop i) := h.sub (fun d hd => List.mem_of_mem_drop hd) (by have := bulk_split ds i; have := h.bk; omega)
theorem Szs.rev (h : Szs B n m ds) : Szs B n m ds.reverse := h.sub (fun d hd => List.mem_reverse.mp hd) (by rw [bulk_rev]; exact h.bk)
theorem Sz.fits (h : Sz B n m d) (hB : B < 2 ^ 64) (hm : m ≤ 200000) : d.shown.length ≤ sizeLine := by
  have h1 := PyData.shown_le_bulk 70 (by decide) d (sm_short hB d h.sm).1
  have h2 := h.bk
  have e : sizeLine = 16777216 := rfl
  rw [e]
  omega
theorem Sz.shows (h : Sz B n m d) (hB : B < 2 ^ 64) : d.showable = true := (sm_short hB d h.sm).2
end
end G
namespace G
open PySem PySem.Spec PyProof.Rows L2
section
variable {X : Cx} {H : Hp} {σ : L2.St} {pos : Pos}
/-- xs[i] = v -/
theorem g_setl {o i : Expr} {v : V} {Q : L2.St → Hp → Prop} (q : wE X o σ H fun x H1 => wE X i σ H1 fun y H2 => rSetL x y v H2 fun H3 => Q σ H3) 
    (ha : ∀ u, assign (.Subscript o i pos) X.env u = (do
      let ov ← holding [u] (eval o X.env)
      let iv ← holding [u, ov] (eval i X.env)
      standAt pos
      holding [u, ov, iv] (setItem ov iv u)
      release [u, ov, iv] []) := by intro _; rfl) : wG X (.Subscript o i pos) v σ H Q := of_pg (pg_sub pe_w pe_w set_list ha) q
theorem b_pow3 {Q : VK} {i n : Int} (h0 : 0 ≤ n) (h1 : n ≤ 1000000) (h : i.natAbs < 2 ^ 64) (q : Q (.int (i ^ n.toNat)) H) : wB X (binaryOp .Pow) (.int i) (.int n) H Q := of_op op_pow ⟨i, n, rfl, rfl, ⟨h0, h1, h⟩, q⟩
/-- a, b = e1, e2 -/
theorem s_par (i j : Nat) {D : Ends} {x y : Str} {a b : Expr} {px py pt pos : Pos} {kt k2 pt2} (hc : X.calm = true) (hN : X.N.Nodup) (hi : X.N[i]? = some x) (hj : X.N[j]? = some y) (hij : i ≠ j)
    (hx : X.env.scope.names.lookup x = some .local) (hy : X.env.scope.names.lookup y = some .local) (hw : swappedStores [.Tuple [.Name x px, .Name y py] kt pt] (.Tuple [a, b] k2 pt2) X.env = pure (some [x, y]))
    (q : wA X [a, b] σ H fun vs H1 => ∃ v w', vs = [v, w'] ∧ D.nx ((σ.set i (some v)).set j (some w')) H1)
    (hs : swapsWithSole [.Tuple [.Name x px, .Name y py] kt pt] (.Tuple [a, b] k2 pt2) pos.line X.env = pure false := by rfl) : wS X (.Assign [.Tuple [.Name x px, .Name y py] kt pt] (.Tuple [a, b] k2 pt2) pos) D σ H := of_ps (ps_par hc hN hi hj hij hx hy pa_w hw hs) q
end
end G
namespace G
open PySem
theorem bt_int : bootBuiltins "int" = some (.type "int") := by decide +kernel
theorem bt_len : bootBuiltins "len" = some (.builtin "len") := by decide +kernel
theorem bt_abs : bootBuiltins "abs" = some (.builtin "abs") := by decide +kernel
theorem bt_all : bootBuiltins "all" = some (.builtin "all") := by decide +kernel
theorem bt_tuple : bootBuiltins "tuple" = some (.type "tuple") := by decide +kernel
theorem bt_list : bootBuiltins "list" = some (.type "list") := by decide +kernel
theorem bt_str : bootBuiltins "str" = some (.type "str") := by decide +kernel
theorem bt_repr : bootBuiltins "repr" = some (.builtin "repr") := by decide +kernel
theorem bt_max : bootBuiltins "max" = some (.builtin "max") := by decide +kernel
theorem bt_min : bootBuiltins "min" = some (.builtin "min") := by decide +kernel
theorem bt_isinstance : bootBuiltins "isinstance" = some (.builtin "isinstance") := by decide +kernel
theorem bt_range : bootBuiltins "range" = some (.type "range") := by decide +kernel
theorem bt_sum : bootBuiltins "sum" = some (.builtin "sum") := by decide +kernel
theorem bt_sorted : bootBuiltins "sorted" = some (.builtin "sorted") := by decide +kernel
theorem bt_set : bootBuiltins "set" = some (.type "set") := by decide +kernel
theorem bt_bool : bootBuiltins "bool" = some (.type "bool") := by decide +kernel
theorem bt_zip : bootBuiltins "zip" = some (.type "zip") := by decide +kernel
theorem bt_any : bootBuiltins "any" = some (.builtin "any") := by decide +kernel
theorem bt_enumerate : bootBuiltins "enumerate" = some (.type "enumerate") := by decide +kernel
end G

end Part_G8
section Part_G9
set_option maxRecDepth 100000
set_option maxHeartbeats 2000000
/-! G9: the names of a def, told once. -/
namespace G
open PySem PySem.Spec PyProof.Rows L2
structure NmAt (X : Cx) (i : Nat) (x : Str) : Prop where
  hN : X.N[i]? = some x
  hv : Vis X.env.scope x
  hd : (x == ("__debug__" : Str)) = false
  hcd : (x == ("__classdict__" : Str)) = false
structure StAt (X : Cx) (i : Nat) (x : Str) : Prop where
  hN : X.N[i]? = some x
  hx : X.env.scope.names.lookup x = some .local
def nmOk (N : List Str) (sc : Scope) (i : Nat) (x : Str) : Bool :=
  decide (N[i]? = some x) && (decide (sc.names.lookup x = some .local) || decide (sc.names.lookup x = some .cell) || decide (sc.names.lookup x = some .free)) && !(x == ("__debug__" : Str)) && !(x == ("__classdict__" : Str))
def stOk (N : List Str) (sc : Scope) (i : Nat) (x : Str) : Bool := decide (N[i]? = some x) && decide (sc.names.lookup x = some .local)
def glOk (sc : Scope) (x : Str) : Bool := decide (sc.names.lookup x = some .globalImplicit)
section
variable {X : Cx} {N : List Str} {sc : Scope} {i : Nat} {x : Str}
theorem nm_of (hN : X.N = N) (hs : X.env.scope = sc) (h : nmOk N sc i x = true) : NmAt X i x := by
  unfold nmOk at h
  simp only [Bool.and_eq_true, Bool.or_eq_true, decide_eq_true_eq, Bool.not_eq_true'] at h
  obtain ⟨⟨⟨h1, h2⟩, h3⟩, h4⟩ := h
  refine ⟨by rw [hN]; exact h1, ?_, h3, h4⟩
  unfold Vis
  rw [hs]
  rcases h2 with (h2 | h2) | h2
  · exact .inl h2
  · exact .inr (.inl h2)
  · exact .inr (.inr h2)
theorem st_of (hN : X.N = N) (hs : X.env.scope = sc) (h : stOk N sc i x = true) : StAt X i x := by
  unfold stOk at h
  simp only [Bool.and_eq_true, decide_eq_true_eq] at h
  exact ⟨by rw [hN]; exact h.1, by rw [hs]; exact h.2⟩
/-- what is known of the names within -/
structure Nms (X : Cx) (N : List Str) (sc : Scope) : Prop where
  nd : X.N.Nodup
  nm : ∀ {i : Nat} {x : Str}, nmOk N sc i x = true → NmAt X i x
  st : ∀ {i : Nat} {x : Str}, stOk N sc i x = true → StAt X i x
  gl : ∀ {x : Str}, glOk sc x = true → Gl X x
theorem nms_of (nd : N.Nodup) (hN : X.N = N) (hs : X.env.scope = sc) : Nms X N sc := ⟨by rw [hN]; exact nd, nm_of hN hs, st_of hN hs, fun {x} h => by unfold Gl Env.kindOf; rw [hs]; exact of_decide_eq_true h⟩
variable {σ : L2.St} {H : Hp} {Q : VK} {pos : Pos}
theorem ss_nms (N : List Str) (sc : Scope) {st : List Stmt} {D : Ends} (nd : N.Nodup) (hN : X.N = N) (hs : X.env.scope = sc) (k : Nms X N sc → wSs X st D σ H) : wSs X st D σ H := k (nms_of nd hN hs)
theorem e_nms (N : List Str) (sc : Scope) {e : Expr} (nd : N.Nodup) (hN : X.N = N) (hs : X.env.scope = sc) (k : Nms X N sc → wE X e σ H Q) : wE X e σ H Q := k (nms_of nd hN hs)
theorem t_nms (N : List Str) (sc : Scope) {e : Expr} {Q : Bool → Hp → Prop} (nd : N.Nodup) (hN : X.N = N) (hs : X.env.scope = sc) (k : Nms X N sc → wT X e σ H Q) : wT X e σ H Q := k (nms_of nd hN hs)
theorem g_nms (N : List Str) (sc : Scope) {tg : Expr} {v : V} {Q : L2.St → Hp → Prop} (nd : N.Nodup) (hN : X.N = N) (hs : X.env.scope = sc) (k : Nms X N sc → wG X tg v σ H Q) : wG X tg v σ H Q := k (nms_of nd hN hs)
theorem w_nm {v : V} (n : NmAt X i x) (hs : σ[i]? = some (some v)) (k : Q v H) : wE X (.Name x pos) σ H Q := w_v i n.hN n.hv hs k n.hd n.hcd
theorem s_st {D : Ends} {e : Expr} {pos' : Pos} (nd : X.N.Nodup) (n : StAt X i x) (k : wE X e σ H fun v H1 => D.nx (σ.set i (some v)) H1) (hs : swapsWith e (some (.Name x pos')) pos.line X.env = pure false) : wS X (.Assign [.Name x pos'] e pos) D σ H :=
  s_set i nd n.hN (.inl n.hx) k hs (.inr n.hx)
theorem g_st {v : V} {Q : L2.St → Hp → Prop} (nd : X.N.Nodup) (n : StAt X i x) (k : Q (σ.set i (some v)) H) : wG X (.Name x pos) v σ H Q := g_name i nd n.hN (.inl n.hx) k (.inr n.hx)
end
end G
namespace G
open PySem PySem.Spec PyProof.Rows L2
section
variable {X : Cx} {σ : L2.St} {H : Hp} {Q : VK} {pos apos : Pos} {o e : Expr}
/-- xs.append(e) -/
theorem w_app (q : wE X o σ H fun x H1 => ∃ l ys, x = .ref l ∧ H1 l = some (.lst ys) ∧ wE X e σ H1 fun v H2 => ∃ xs, H2 l = some (.lst xs) ∧ xs.length < sizeLine ∧ Q .non (upd H2 l (.lst (xs ++ [v]))))
    (hbase : attributeBase o "append" X.env (eval o X.env) = eval o X.env := by rfl)
    (hfew : ((backTo pos (starEach [e] X.env)).all (fun x => !x.1) && (backToKw pos (keywordEach [] X.env)).all (fun x => x.1.isSome) && decide ([e].length + ([] : List Keyword).length + (if ([] : List Keyword).isEmpty then 0 else 1) < 30)) = true := by rfl)
    (hline : (apos.endLine == pos.line) = true := by rfl) (hs : starEach [e] X.env = (false, eval e X.env) :: starEach [] X.env := by rfl) : wE X (.Call (.Attribute o "append" apos) [e] [] pos) σ H Q := by
  refine w_bm PySem.F.plainAttrs_list PySem.F.slot_list_append PySem.F.type_list_append (q.imp fun x H1 h => ?_) hbase hfew hline hs rfl
  obtain ⟨l, ys, rfl, hl, q⟩ := h
  refine ⟨.inl ⟨rfl, ys, sq_l hl⟩, wa_cons (q.imp fun v H2 h2 => ?_) hs⟩
  obtain ⟨xs, hx, hz, q⟩ := h2
  exact wa_nil (of_mt mt_append ⟨l, xs, v, rfl, rfl, hx, hz, q⟩)
end
end G
namespace G
theorem iteNF {A B : Prop} (h : A) : if (!false) = true then A else B := h
theorem iteNT {A B : Prop} (h : B) : if (!true) = true then A else B := by
  rw [if_neg (by decide)]
  exact h
end G

end Part_G9
section Part_G10
set_option maxRecDepth 100000
set_option maxHeartbeats 2000000
/-! G10: expressions that make data, beside one object at J that may change. -/
namespace G
open PySem PySem.Spec PyProof.Rows L2
def DE (X : Cx) (e : Expr) (σ : L2.St) (J : Addr) (H0 : Hp) (d : PyData) : Prop := ∀ (H : Hp) (Q : VK), Ex H0 H → H J ≠ none → (∀ v H', Ex H H' → Dq (del H' J) v d → Q v H') → wE X e σ H Q
def DA (X : Cx) (es : List Expr) (σ : L2.St) (J : Addr) (H0 : Hp) (ds : List PyData) : Prop := ∀ (H : Hp) (Q : List V → Hp → Prop), Ex H0 H → H J ≠ none → (∀ vs H', Ex H H' → Dqs (del H' J) vs ds → Q vs H') → wA X es σ H Q
section
variable {X : Cx} {σ : L2.St} {J : Addr} {H0 : Hp} {pos : Pos} {d : PyData} {ds : List PyData} {e : Expr} {es : List Expr}
theorem ne_free {H : Hp} {J p : Addr} (h : H J ≠ none) (np : H p = none) : p ≠ J := fun e => h (by rw [← e]; exact np)
theorem Ex.some {H H' : Hp} {J : Addr} (e : Ex H H') (h : H J ≠ none) : H' J ≠ none := by
  cases q : H J with
  | none => exact absurd q h
  | some o => rw [e J o q]; exact fun z => nomatch z
theorem de_int {i : Int} {j} : DE X (.Constant (.int i) j pos) σ J H0 (.int i) := fun H Q _ _ k => w_int (k _ H Ex.refl (.int i))
theorem de_str {x : Str} {j} : DE X (.Constant (.str x) j pos) σ J H0 (.str x) := fun H Q _ _ k => w_str (k _ H Ex.refl (.str x))
theorem de_bl {b : Bool} {j} : DE X (.Constant (.bool b) j pos) σ J H0 (.bool b) := fun H Q _ _ k => w_bl (k _ H Ex.refl (.bl b))
theorem de_non {j} : DE X (.Constant .none j pos) σ J H0 .none := fun H Q _ _ k => w_non (k _ H Ex.refl .non)
theorem de_neg {i : Int} {j} {p : Pos} : DE X (.UnaryOp .USub (.Constant (.int i) j p) pos) σ J H0 (.int (-i)) := fun H Q _ _ k => w_un (w_int (u_neg (k _ H Ex.refl (.int (-i)))))
theorem de_iv {n : Int} (h : ∀ (H : Hp) (Q : VK), Ex H0 H → Q (.int n) H → wE X e σ H Q) : DE X e σ J H0 (.int n) := fun H Q e0 _ k => h H Q e0 (k _ H Ex.refl (.int n))
theorem de_bv {b : Bool} (h : ∀ (H : Hp) (Q : VK), Ex H0 H → Q (.bl b) H → wE X e σ H Q) : DE X e σ J H0 (.bool b) := fun H Q e0 _ k => h H Q e0 (k _ H Ex.refl (.bl b))
theorem de_sv {z : Str} (h : ∀ (H : Hp) (Q : VK), Ex H0 H → Q (.str z) H → wE X e σ H Q) : DE X e σ J H0 (.str z) := fun H Q e0 _ k => h H Q e0 (k _ H Ex.refl (.str z))
theorem de_nm {i : Nat} {x : Str} {v : V} (n : NmAt X i x) (hs : σ[i]? = some (some v)) (h : Dq (del H0 J) v d) : DE X (.Name x pos) σ J H0 d := fun H Q e0 _ k => w_nm n hs (k v H Ex.refl (h.ex (Ex.del e0)))
theorem da_nil : DA X [] σ J H0 [] := fun H Q _ _ k => wa_nil (k [] H Ex.refl .nil)
theorem da_cons (h : DE X e σ J H0 d) (hs : DA X es σ J H0 ds) (hst : starEach (e :: es) X.env = (false, eval e X.env) :: starEach es X.env := by rfl) : DA X (e :: es) σ J H0 (d :: ds) := fun H Q e0 nJ k =>
  wa_cons (h H _ e0 nJ fun v H1 e1 dv => hs H1 _ (e0.trans e1) (e1.some nJ) fun vs H2 e2 dvs => k (v :: vs) H2 (e1.trans e2) (.cons (dv.ex (Ex.del e2)) dvs)) hst
theorem de_tup {j} (h : DA X es σ J H0 ds) (hz : ds.length ≤ 1000000 := by first | decide | (show _ ≤ _; omega)) : DE X (.Tuple es j pos) σ J H0 (.tuple ds) := fun H Q e0 nJ k =>
  w_tup (h H _ e0 nJ fun vs H1 e1 dv => ⟨by rw [dv.length]; exact Nat.le_trans hz (by decide), fun p np => by
    have pJ : p ≠ J := ne_free (e1.some nJ) np
    have n2 : del H1 J p = none := by rw [del_ne pJ]; exact np
    refine k _ _ (e1.trans (Ex.new np)) ?_
    rw [del_upd_ne pJ]
    exact .tup upd_same (dv.ex (Ex.new n2))⟩)
theorem de_lst (h : DA X es σ J H0 ds) (hz : ds.length ≤ 1000000 := by first | decide | (show _ ≤ _; omega)) : DE X (.List es pos) σ J H0 (.list ds) := fun H Q e0 nJ k =>
  w_lst3 (h H _ e0 nJ fun vs H1 e1 dv => ⟨by rw [dv.length]; exact Nat.le_trans hz (by decide), fun p np p3 => by
    have pJ : p ≠ J := ne_free (e1.some nJ) np
    have n2 : del H1 J p = none := by rw [del_ne pJ]; exact np
    refine k _ _ (e1.trans (Ex.new np)) ?_
    rw [del_upd_ne pJ]
    exact .lst upd_same p3 (dv.ex (Ex.new n2))⟩)
theorem de_dict0 : DE X (.Dict [] [] pos) σ J H0 (.dict []) := fun H Q e0 nJ k => of_pe pe_dnewK fun p np => by
  have pJ : p ≠ J := ne_free nJ np
  refine k _ _ (Ex.new np) ?_
  rw [del_upd_ne pJ]
  exact .dct upd_same .nil
theorem wa_de {H : Hp} {Q : List V → Hp → Prop} (d : PyData) (h : DE X e σ J H d) (nJ : H J ≠ none) (k : ∀ v H', Ex H H' → Dq (del H' J) v d → wA X es σ H' fun vs H2 => Q (v :: vs) H2) (hst : starEach (e :: es) X.env = (false, eval e X.env) :: starEach es X.env := by rfl) : wA X (e :: es) σ H Q :=
  wa_cons (h H _ Ex.refl nJ k) hst
/-- a written list of data -/
theorem w_lstD {Q : VK} {H : Hp} (ds : List PyData) (h : DA X es σ J H ds) (hz : ds.length ≤ 1000000) (nJ : H J ≠ none) (k : ∀ L vs H1, Ex H H1 → Dqs (del H1 J) vs ds → H1 L = none → 3 < L → Q (.ref L) (upd H1 L (.lst vs))) : wE X (.List es pos) σ H Q :=
  w_lst3 (h H _ Ex.refl nJ fun vs H1 e1 dv => ⟨by rw [dv.length]; exact Nat.le_trans hz (by decide), fun L nL l3 => k L vs H1 e1 dv nL l3⟩)
theorem w_tupD {Q : VK} {H : Hp} {j} (ds : List PyData) (h : DA X es σ J H ds) (hz : ds.length ≤ 1000000) (nJ : H J ≠ none) (k : ∀ L vs H1, Ex H H1 → Dqs (del H1 J) vs ds → H1 L = none → Q (.ref L) (upd H1 L (.tup vs))) : wE X (.Tuple es j pos) σ H Q :=
  w_tup (h H _ Ex.refl nJ fun vs H1 e1 dv => ⟨by rw [dv.length]; exact Nat.le_trans hz (by decide), fun L nL => k L vs H1 e1 dv nL⟩)
/-- {"k": name} -/
theorem de_dictN {i : Nat} {x kx : Str} {v : V} {p1 p2 : Pos} {j} (n : NmAt X i x) (hs : σ[i]? = some (some v)) (h : Dq (del H0 J) v d) : DE X (.Dict [some (.Constant (.str kx) j p1)] [.Name x p2] pos) σ J H0 (.dict [(.str kx, d)]) := fun H Q e0 nJ k =>
  of_pe (pe_disp (pps_cons pe_str (pe_w) pps_nil) rfl rfl (by simp) (by show 1 ≤ 15; decide)) fun p np => w_nm n hs ⟨upd_same, [(Sum.inr kx, v)], rfl, by show 1 ≤ 15; decide, by
    have pJ : p ≠ J := ne_free nJ np
    have n2 : del H J p = none := by rw [del_ne pJ]; exact np
    rw [upd_upd]
    refine k _ _ (Ex.new np) ?_
    rw [del_upd_ne pJ]
    exact .dct upd_same (.cons (h.ex ((Ex.del e0).trans (Ex.new n2))) .nil)⟩
end
end G

end Part_G10
section Part_G11
set_option maxRecDepth 100000
set_option maxHeartbeats 2000000
/-! G11: slices and sums of tuples that stand beside J. -/
namespace G
open PySem PySem.Spec PyProof.Rows L2
def cutD (ds : List PyData) (lo hi : Option Int) : List PyData := (ds.drop (HT.sIx ds.length 0 lo)).take (HT.sIx ds.length ds.length hi - HT.sIx ds.length 0 lo)
theorem Dqs.cut {H : Hp} {vs : List V} {ds : List PyData} (h : Dqs H vs ds) (lo hi : Option Int) : Dqs H (cutV vs lo hi) (cutD ds lo hi) := by
  unfold cutV cutD
  rw [h.length]
  exact (h.drop _).take _
theorem Szs.cut {B n m : Nat} {ds : List PyData} (h : Szs B n m ds) (lo hi : Option Int) : Szs B n m (cutD ds lo hi) := (h.drop _).take _
theorem cutD_to (ds : List PyData) (i : Nat) : cutD ds none (some (i : Int)) = ds.take i := by
  unfold cutD
  rw [HT.sIx_nat, HT.sIx_none, List.drop_zero, Nat.sub_zero]
  by_cases h : i ≤ ds.length
  · rw [Nat.min_eq_left h]
  · rw [Nat.min_eq_right (by omega), List.take_length, List.take_of_length_le (by omega)]
theorem cutD_from (ds : List PyData) (i : Nat) : cutD ds (some (i : Int)) none = ds.drop i := by
  unfold cutD
  rw [HT.sIx_nat, HT.sIx_none]
  by_cases h : i ≤ ds.length
  · rw [Nat.min_eq_left h]
    exact List.take_of_length_le (by rw [List.length_drop]; exact Nat.le_refl _)
  · rw [Nat.min_eq_right (by omega), List.drop_length, List.drop_of_length_le (by omega), List.take_nil]
section
variable {X : Cx} {H : Hp} {Q : VK} {J : Addr}
theorem of_del {a : Addr} {o : HO} (h : del H J a = some o) : H a = some o := (del_some h).2
theorem slt_J {K : PySem.W.Frag} {a : Addr} {xs : List V} {lo hi : Option Int} (h : del H J a = some (.tup xs)) (nJ : H J ≠ none) (q : ∀ p H', Ex H H' → del H' J p = some (.tup (cutV xs lo hi)) → Q (.ref p) H') : rSlA K (.ref a) lo hi H Q := by
  refine ⟨a, xs, rfl, sq_t (of_del h), fun hw => q a H Ex.refl ?_, fun hw p hp => q p _ (Ex.new hp) ?_⟩
  · have e : cutV xs lo hi = xs := by
      unfold cutV
      rw [hw.1, hw.2, List.drop_zero, Nat.sub_zero, List.take_length]
    rw [e]
    exact h
  · rw [del_ne (ne_free nJ hp)]
    exact upd_same
theorem catt_J {a b : Addr} {xs ys : List V} (ha : del H J a = some (.tup xs)) (hb : del H J b = some (.tup ys)) (hz : xs.length + ys.length ≤ sizeLine) (nJ : H J ≠ none) (q : ∀ p H', Ex H H' → del H' J p = some (.tup (xs ++ ys)) → Q (.ref p) H') :
    wB X (binaryOp .Add) (.ref a) (.ref b) H Q := by
  refine b_catt (sq_t (of_del ha)) (sq_t (of_del hb)) hz (fun e => q b H Ex.refl ?_) (fun _ e => q a H Ex.refl ?_) fun _ _ p np => q p _ (Ex.new np) ?_
  · rw [e, List.nil_append]; exact hb
  · rw [e, List.append_nil]; exact ha
  · rw [del_ne (ne_free nJ np)]
    exact upd_same
theorem new_J {p : Addr} {o : HO} (np : H p = none) (nJ : H J ≠ none) : del (upd H p o) J p = some o := by
  rw [del_ne (ne_free nJ np)]
  exact upd_same
end
theorem text_sz {i : Int} (h : i.natAbs < 2 ^ 64) {B n : Nat} : Sz B n 70 (.str (Str.ofString (toString i))) := by
  have hl : (Str.ofString (toString i)).length ≤ 65 := int_len h
  have hl2 : (Str.ofString (toString i)).cps.size ≤ 65 := hl
  refine ⟨?_, Nat.zero_le _, Nat.le_trans hl2 (by decide)⟩
  show (decide _ && _) = true
  rw [Bool.and_eq_true]
  refine ⟨decide_eq_true (Nat.le_trans hl2 (by decide)), List.all_eq_true.mpr fun c hc => decide_eq_true ?_⟩
  by_cases hk : c < 16 ^ 8
  · exact hk
  · exact absurd hc (int_text_free' c ⟨fun e => hk (by rw [e]; decide), .inr (by omega)⟩ i)
end G

end Part_G11
section Part_G12
set_option maxRecDepth 100000
set_option maxHeartbeats 2000000
/-! G12: a list that stands aside while an expression is worked out. -/
namespace G
open PySem PySem.Spec PyProof.Rows L2
theorem del_comm {H : Hp} {J L : Addr} : del (del H J) L = del (del H L) J := by
  funext a
  by_cases h1 : a = J
  · by_cases h2 : a = L
    · subst h1; subst h2; rfl
    · rw [del_ne h2, h1, del_same, del_same]
  · by_cases h2 : a = L
    · rw [h2, del_same, del_ne (by rw [← h2]; exact h1), del_same]
    · rw [del_ne h2, del_ne h1, del_ne h1, del_ne h2]
theorem del_put {H : Hp} {L : Addr} {o : HO} (h : H L = none) : del (upd H L o) L = H := by
  funext a
  by_cases e : a = L
  · rw [e, del_same, h]
  · rw [del_ne e, upd_ne e]
section
variable {X : Cx} {pins : List (Addr × Obj)} {σ : L2.St} {H : Hp} {s : Shared} {L : Addr} {xs : List V}
theorem Inv.hidden (I : Inv X pins σ H s) (hL : H L = some (.lst xs)) {o : Obj} (ho : s.heap.get? L = some o) (hd : ∃ its n, o.data = .seq its n) : Inv X ((L, o) :: pins) σ (del H L) s := by
  have ne_of : ∀ {b : Addr}, H b = none → b ≠ L := fun {b} h e => by rw [e, hL] at h; cases h
  have ot : ∀ {b : Addr} {u : HO}, H b = some u → u ≠ .lst xs → b ≠ L := fun {b u} h n e => by rw [e, hL] at h; cases h; exact n rfl
  refine ⟨I.ok, I.os, I.bare, ⟨I.base.keep, I.base.slot, fun b u e n hx => ?_, I.base.there, fun b ys e => ?_, fun b ob u e => ?_, fun b ps e => ?_⟩, I.loc, I.cell, ?_, fun x c e => ?_, fun p hp => ?_, fun b u e => ?_, I.len⟩
  · have := I.base.free b u e n hx
    rw [del_ne (ne_of this)]
    exact this
  · have := I.base.tups b ys e
    rw [del_ne (ot this (fun z => nomatch z))]
    exact this
  · have := I.base.frzs b ob u e
    rw [del_ne (ot this (fun z => nomatch z))]
    exact this
  · obtain ⟨more, this⟩ := I.base.tbls b ps e
    exact ⟨more, by rw [del_ne (ot this (fun z => nomatch z))]; exact this⟩
  · rw [del_ne (ne_of I.free)]
    exact I.free
  · rw [del_ne (ne_of (I.freeC x c e))]
    exact I.freeC x c e
  · have two : p ∈ X.pn ++ pins ∨ p = (L, o) := by
      rcases List.mem_append.mp hp with h | h
      · exact .inl (List.mem_append_left _ h)
      · rcases List.mem_cons.mp h with h | h
        · exact .inr h
        · exact .inl (List.mem_append_right _ h)
    rcases two with h | rfl
    · obtain ⟨h1, h2, h3, h4, h5⟩ := I.pin p h
      exact ⟨h1, by rw [del_ne (ne_of h2)]; exact h2, h3, h4, h5⟩
    · refine ⟨ho, del_same, (ne_of I.free).symm, fun hf => ?_, fun v hv => ?_⟩
      · have : L ∈ frs X.stack := by
          rcases I.ok.stk with e | ⟨e, ef⟩
          · rw [e]; exact hf
          · rw [e]
            unfold frs
            rw [List.filterMap_cons, ef]
            exact List.mem_cons_of_mem _ hf
        have := I.stkFree L this
        rw [hL] at this
        cases this
      · obtain ⟨its, n, hs⟩ := hd
        rw [hs] at hv
        cases hv
  · obtain ⟨n, e⟩ := del_some e
    refine (I.hok b u e).stay (fun _ _ _ q => q) (fun c q => ?_) fun c ys q => ?_
    · rw [del_ne (ot q (fun z => nomatch z))]; exact q
    · rw [del_ne (ot q (fun z => nomatch z))]; exact q
theorem Inv.shown {H0 : Hp} {s0 : Shared} {σ0 : L2.St} (I0 : Inv X pins σ0 H0 s0) (h0 : H0 L = some (.lst xs)) {o : Obj} (I : Inv X ((L, o) :: pins) σ H s) {its : List Value} {n : Nat} (hv : Vals xs its) (hz : xs.length ≤ sizeLine)
    (ho : o = { cls := .type "list", data := .seq its.toArray n }) : Inv X pins σ (upd H L (.lst xs)) s := by
  obtain ⟨p1, p2, p3, p4, _⟩ := I.pin (L, o) (List.mem_append_right _ List.mem_cons_self)
  have tr : ∀ {b : Addr} {u : HO}, H b = some u → b ≠ L := fun {b u} h e => by rw [e, p2] at h; cases h
  have up : ∀ {b : Addr} {u : HO}, H b = some u → upd H L (.lst xs) b = some u := fun {b u} h => by rw [upd_ne (tr h)]; exact h
  refine ⟨I.ok, I.os, I.bare, ⟨I.base.keep, I.base.slot, fun b u e n hx => ?_, I.base.there, fun b ys e => up (I.base.tups b ys e), fun b ob u e => up (I.base.frzs b ob u e), fun b ps e => ?_⟩, I.loc, I.cell, ?_, fun x c e => ?_, fun p hp => ?_, fun b u e => ?_, I.len⟩
  · have nb : b ≠ L := fun z => by
      have := I0.base.free b u e n hx
      rw [z, h0] at this
      cases this
    rw [upd_ne nb]
    exact I.base.free b u e n hx
  · obtain ⟨more, e1⟩ := I.base.tbls b ps e
    exact ⟨more, up e1⟩
  · rw [upd_ne (Ne.symm p3)]
    exact I.free
  · have nc : c ≠ L := fun z => by
      have := I0.freeC x c e
      rw [z, h0] at this
      cases this
    rw [upd_ne nc]
    exact I.freeC x c e
  · have h2 := I.pin p ((List.mem_append.mp hp).elim (fun z => List.mem_append_left _ z) fun z => List.mem_append_right _ (List.mem_cons_of_mem _ z))
    obtain ⟨a1, a2, a3, a4, a5⟩ := h2
    have np : p.1 ≠ L := fun z => by
      have := (I0.pin p hp).2.1
      rw [z, h0] at this
      cases this
    exact ⟨a1, by rw [upd_ne np]; exact a2, a3, a4, a5⟩
  · by_cases hb : b = L
    · subst hb
      rw [upd_same] at e
      cases e
      exact ⟨hz, its, n, hv, by rw [← ho]; exact p1⟩
    · rw [upd_ne hb] at e
      exact (I.hok b u e).stay (fun _ _ _ q => q) (fun c q => up q) fun c ys q => up q
/-- the list at L aside -/
theorem w_hide {e : Expr} {Q : VK} (hL : H L = some (.lst xs)) (q : wE X e σ (del H L) fun v H' => H' L = none → Q v (upd H' L (.lst xs))) : wE X e σ H Q := by
  refine ⟨fun pins s I => ?_⟩
  obtain ⟨hz, its, n, hv, ho⟩ := (show ObjOk X.prog X.w H s.heap L (.lst xs) from I.hok L _ hL)
  refine thn (q.run _ s (Inv.hidden I hL ho ⟨_, _, rfl⟩)) fun u s1 h1 => ?_
  obtain ⟨v, H1, I1, r, k⟩ := h1
  have free : H1 L = none := (I1.pin _ (List.mem_append_right _ List.mem_cons_self)).2.1
  exact ⟨v, _, Inv.shown I hL I1 hv hz rfl, r, k free⟩
end
end G

end Part_G12
section Part_A67
set_option maxRecDepth 100000
set_option maxHeartbeats 4000000
namespace K67
open PySem PySem.Spec PyProof.Rows L2 G
def top (i : Nat) : Stmt := PySem.Challenge.pw_movedamid_k67_schedules_of_any_value.main.body.getD i (.Pass ⟨0, 0, 0, 0⟩)
abbrev sInt : Stmt := top 1
abbrev sTri : Stmt := top 5
abbrev sSch : Stmt := top 6
abbrev sJar : Stmt := top 8
abbrev sTake : Stmt := top 9
abbrev sOf : Stmt := top 10
abbrev sDrawn : Stmt := top 11
abbrev sIs : Stmt := top 12
abbrev sOdd : Stmt := top 13
abbrev sBent : Stmt := top 14
abbrev sRight : Stmt := top 15
abbrev sLaw : Stmt := top 16
/-- what the top leaves of names -/
structure Txt (mg : Str → Option Value) : Prop where
  isi : mg "isinstance" = none
  int : mg "int" = none
  bool : mg "bool" = none
  tuple : mg "tuple" = none
  len : mg "len" = none
  all : mg "all" = none
  zip : mg "zip" = none
  gap : ∃ t, mg "MOST_GAP" = some (.int 1000000 t)
  parts : ∃ t, mg "PARTS" = some (.int 3 t)
  abs : mg "abs" = none
  range : mg "range" = none
  list : mg "list" = none
  str : mg "str" = none
  repr : mg "repr" = none
  max : mg "max" = none
  min : mg "min" = none
def isInt : PyData → Bool | .int _ => true | _ => false
theorem isInt_eq (d : PyData) : (isIntB d && !isBoo d) = isInt d := by cases d <;> rfl
section
variable {P : Program} {w : World} {K : PySem.W.Frag} {mg : Str → Option Value} {base : Heap} {k : Nat} {f : Addr} {fd : FuncData}
theorem scInt : FnScope ["value"] ["value"] (defScope sInt) := ⟨rfl, rfl, rfl, by decide +kernel, rfl, by decide +kernel, by decide +kernel⟩
theorem ok_int (F : Fun K "is_integer" "is_integer" sInt f fd) (T : Txt mg) : FnG P w K mg base CX0 (k + 1) f fd ["value"] (spD isInt) := by
  refine fnG0 F scInt (fun vs H Q E h => ?_) (fun cdv A outer s H vs Q E hr h => ?_)
  · obtain ⟨v, d, rfl, _⟩ := h; rfl
  · obtain ⟨v, d, rfl, hd, q⟩ := h
    refine ss_one (s_ret (w_and (w_isI rfl T.isi rfl T.int (w_v 0 rfl (.inl rfl) rfl ⟨d, hd, _, rfl, ?_⟩))))
    have e := isInt_eq d
    refine ite_b (fun h1 => w_one (w_not (w_isB rfl T.isi rfl T.bool (w_v 0 rfl (.inl rfl) rfl ⟨d, hd, _, rfl, ?_⟩)))) (fun h1 => ?_)
    · rw [h1, Bool.true_and] at e
      rw [e]
      exact q H Ex.refl
    · rw [h1, Bool.false_and] at e
      rw [e]
      exact q H Ex.refl
end
end K67

end Part_A67
section Part_B67
set_option maxRecDepth 100000
set_option maxHeartbeats 4000000
set_option hygiene false in
local macro_rules | `(tactic| walk_at "nm") => `(tactic| first | refine w_v 0 rfl (.inl rfl) rfl ?_ | refine w_v 1 rfl (.inl rfl) rfl ?_ | refine w_v 2 rfl (.inl rfl) rfl ?_ | refine w_v 3 rfl (.inl rfl) rfl ?_ | refine w_v 4 rfl (.inl rfl) rfl ?_ | refine w_v 5 rfl (.inl rfl) rfl ?_ | refine w_v 6 rfl (.inl rfl) rfl ?_ | refine w_v 7 rfl (.inl rfl) rfl ?_ | refine w_v 8 rfl (.inl rfl) rfl ?_)
set_option hygiene false in
local macro_rules | `(tactic| walk_at "nmc") => `(tactic| first | refine w_v 0 rfl (.inr (.inl rfl)) rfl ?_ | refine w_v 1 rfl (.inr (.inl rfl)) rfl ?_ | refine w_v 2 rfl (.inr (.inl rfl)) rfl ?_ | refine w_v 0 rfl (.inr (.inr rfl)) rfl ?_ | refine w_v 1 rfl (.inr (.inr rfl)) rfl ?_ | refine w_v 2 rfl (.inr (.inr rfl)) rfl ?_ | refine w_v 3 rfl (.inr (.inr rfl)) rfl ?_ | refine w_v 4 rfl (.inr (.inr rfl)) rfl ?_)
set_option hygiene false in
local macro_rules | `(tactic| walk_at "gn") => `(tactic| first | refine g_name 0 nd rfl (.inl rfl) ?_ | refine g_name 1 nd rfl (.inl rfl) ?_ | refine g_name 2 nd rfl (.inl rfl) ?_ | refine g_name 3 nd rfl (.inl rfl) ?_ | refine g_name 4 nd rfl (.inl rfl) ?_ | refine g_name 5 nd rfl (.inl rfl) ?_ | refine g_name 6 nd rfl (.inl rfl) ?_ | refine g_name 7 nd rfl (.inl rfl) ?_)
set_option hygiene false in
local macro_rules | `(tactic| walk_at "sn") => `(tactic| first | refine s_set 0 nd rfl (.inl rfl) ?_ | refine s_set 1 nd rfl (.inl rfl) ?_ | refine s_set 2 nd rfl (.inl rfl) ?_ | refine s_set 3 nd rfl (.inl rfl) ?_ | refine s_set 4 nd rfl (.inl rfl) ?_ | refine s_set 5 nd rfl (.inl rfl) ?_ | refine s_set 6 nd rfl (.inl rfl) ?_ | refine s_set 7 nd rfl (.inl rfl) ?_)
set_option hygiene false in
local macro_rules | `(tactic| walk_at "go") => `(tactic| first
  | (with_reducible refine ss_nil ?_)
  | (with_reducible refine ss_one ?_)
  | (with_reducible refine ss_cons ?_)
  | (with_reducible refine s_if ?_)
  | (with_reducible refine s_ret ?_)
  | (with_reducible refine t_not ?_)
  | (with_reducible refine t_and ?_)
  | (with_reducible refine t_or ?_)
  | (with_reducible refine ww_and1 ?_)
  | (with_reducible refine ww_or1 ?_)
  | (with_reducible refine ww_and ?_)
  | (with_reducible refine ww_or ?_)
  | (with_reducible refine w_int ?_)
  | (with_reducible refine w_str ?_)
  | (with_reducible refine w_bl ?_)
  | (with_reducible refine w_non ?_)
  | (with_reducible refine w_one ?_)
  | (with_reducible refine w_and ?_)
  | (with_reducible refine w_or ?_)
  | (with_reducible refine w_not ?_)
  | (with_reducible refine w_op ?_)
  | (with_reducible refine w_un ?_)
  | (with_reducible refine w_ife ?_)
  | (with_reducible refine w_tup ?_)
  | (with_reducible refine w_lst3 ?_)
  | (with_reducible refine wa_nil ?_)
  | (with_reducible refine b_add ?_)
  | (with_reducible refine b_sub ?_)
  | (with_reducible refine b_lt ?_)
  | (with_reducible refine b_le ?_)
  | (with_reducible refine b_gt ?_)
  | (with_reducible refine b_ge ?_)
  | (with_reducible refine b_eqi ?_)
  | (with_reducible refine b_nei ?_)
  | (with_reducible refine b_eqs ?_)
  | (with_reducible refine b_nes ?_)
  | (with_reducible refine u_neg ?_)
  | (with_reducible refine c_int ?_)
  | (with_reducible refine c_intb ?_)
  | (with_reducible refine c_abs ?_)
  | (with_reducible refine iteT ?_)
  | (with_reducible refine iteF ?_)
  | (with_reducible refine gs_nil ?_)
  | ((with_reducible refine wa_cons ?_ ?hs); (case hs => rfl))
  | ((with_reducible refine gs_cons ?_ ?hs); (case hs => rfl))
  | ((with_reducible refine s_expr ?_ ?hs); (case hs => rfl))
  | ((with_reducible refine wk_cons ?_))
  | ((with_reducible refine wk_nil ?_)))
set_option hygiene false in
local macro_rules | `(tactic| walk_at "st") => `(tactic| first | refine ss_one ?_ | refine ss_cons ?_)
set_option hygiene false in
local macro_rules | `(tactic| walk_at "one") => `(tactic| first
  | walk_at "go"
  | (with_reducible refine t_cmp rfl ?_)
  | (with_reducible refine w_cmp rfl ?_)
  | (with_reducible refine ⟨_, rfl, ?_⟩)
  | walk_at "nm"
  | (refine w_ix (fun _ _ => rfl) ?_)
  | (refine w_callT (T := "int") rfl T.int G.bt_int ?_))
set_option hygiene false in
local macro_rules | `(tactic| walk_at "run") => `(tactic| repeat (walk_at "one"))
namespace K67
open PySem PySem.Spec PyProof.Rows L2 G
def isTriple : PyData → Bool
  | .tuple [a, b, c] => match a, b with
    | .int h, .int g => isBoo c && (decide (h ≥ 0) && (decide (1 ≤ g) && decide (g ≤ 1000000)))
    | _, _ => false
  | _ => false
theorem tri_no {ds : List PyData} (h : ds.length ≠ 3) : isTriple (.tuple ds) = false := by
  match ds, h with
  | [], _ => rfl
  | [_], _ => rfl
  | [_, _], _ => rfl
  | [_, _, _], h => exact absurd rfl h
  | _ :: _ :: _ :: _ :: _, _ => rfl
theorem tri_yes (a b c : PyData) : isTriple (.tuple [a, b, c]) = (isInt a && isInt b && isBoo c && (match a, b with | .int h, .int g => decide (h ≥ 0) && (decide (1 ≤ g) && decide (g ≤ 1000000)) | _, _ => false)) := by
  cases a <;> cases b <;> (first | rfl | (simp [isTriple, isInt]))
section
variable {P : Program} {w : World} {K : PySem.W.Frag} {mg : Str → Option Value} {base : Heap} {k : Nat} {f : Addr} {fd : FuncData}
theorem scTri : FnScope ["value", "halt", "gap", "turned"] ["value"] (defScope sTri) := ⟨rfl, rfl, rfl, by decide +kernel, rfl, by decide +kernel, by decide +kernel⟩
theorem ok_tri (F : Fun K "is_triple" "is_triple" sTri f fd) (T : Txt mg) (cI : CalG P w K mg base 1 "is_integer" ["value"] (spD isInt)) : FnG P w K mg base CX0 2 f fd ["value"] (spD isTriple) := by
  refine fnG0 F scTri (fun vs H Q E h => ?_) (fun cdv A outer s H vs Q E hr h => ?_)
  · obtain ⟨v, d, rfl, _⟩ := h; rfl
  · obtain ⟨v, d, rfl, hd, q⟩ := h
    obtain ⟨tg, hg⟩ := T.gap
    obtain ⟨tp, hp⟩ := T.parts
    refine ss_cons (s_if (t_or (t_not (t_val (w_isT rfl T.isi rfl T.tuple (w_v 0 rfl (.inl rfl) rfl ⟨d, hd, _, rfl, ?_⟩))))))
    refine ite_b (fun h1 => iteT (ss_one (s_ret (w_bl ?_)))) (fun h1 => ?_)
    · have e : isTriple d = false := by
        cases d with
        | tuple ds => cases h1
        | _ => rfl
      rw [← e]
      exact q H Ex.refl
    · obtain ⟨ds, rfl⟩ : ∃ ds, d = .tuple ds := by
        cases d with
        | tuple ds => exact ⟨ds, rfl⟩
        | _ => cases h1
      cases hd with
      | @tup a xs _ ha hx =>
      have hl := hx.length
      refine ww_or1 (t_cmp rfl (w_callB (id := "len") rfl T.len (by decide +kernel) (wa_cons (w_v 0 rfl (.inl rfl) rfl (wa_nil (c_lent (sq_t ha) (w_g (v := .int 3) rfl hp ⟨_, rfl⟩ (b_nei ⟨_, rfl, ?_⟩))))))))
      refine ite_b (fun h2 => ss_one (s_ret (w_bl ?_))) (fun h2 => ss_nil ?_)
      · have e : isTriple (.tuple ds) = false := tri_no (by
          intro z
          rw [hl, z] at h2
          simp at h2)
        rw [← e]
        exact q H Ex.refl
      · have e3 : ds.length = 3 := by
          rw [hl] at h2
          simp at h2
          omega
        obtain ⟨a0, b0, c0, rfl⟩ : ∃ a b c, ds = [a, b, c] := by
          match ds, e3 with
          | [a, b, c], _ => exact ⟨a, b, c, rfl⟩
        cases hx with
        | @cons va _ _ _ da hx => cases hx with
          | @cons vb _ _ _ db hx => cases hx with
            | @cons vc _ _ _ dc hx =>
              cases hx
              have ey := tri_yes a0 b0 c0
              have nd := scTri.nd
              walk_at "go"
              refine s_asg ?_
              walk_at "nm"
              refine g_tup rfl (sq_t ha) rfl ?_
              walk_at "go"; walk_at "gn"; walk_at "go"; walk_at "gn"; walk_at "go"; walk_at "gn"; walk_at "go"
              walk_at "go"; walk_at "go"; walk_at "go"; walk_at "go"
              refine t_val (w_call cI hr (by decide) rfl ?_)
              walk_at "go"; walk_at "nm"; walk_at "go"
              refine ⟨va, a0, rfl, da, fun H1 e1 => ⟨_, rfl, ?_⟩⟩
              have no : ∀ H', Ex H H' → isTriple (.tuple [a0, b0, c0]) = false → Q (.bl false) H' := fun H' e z => by
                rw [← z]
                exact q H' e
              refine ite_b (fun h3 => ?_) (fun h3 => ?_)
              · walk_at "go"; walk_at "go"; walk_at "go"; walk_at "go"
                refine no H1 e1 ?_
                rw [ey, show isInt a0 = false by simpa using h3]
                rfl
              · have i1 : isInt a0 = true := by simpa using h3
                walk_at "go"; walk_at "go"
                refine t_val (w_call cI hr (by decide) rfl ?_)
                walk_at "go"; walk_at "nm"; walk_at "go"
                refine ⟨vb, b0, rfl, db.ex e1, fun H2 e2 => ⟨_, rfl, ?_⟩⟩
                refine ite_b (fun h4 => ?_) (fun h4 => ?_)
                · walk_at "go"; walk_at "go"; walk_at "go"; walk_at "go"
                  refine no H2 (e1.trans e2) ?_
                  rw [ey, show isInt b0 = false by simpa using h4, i1]
                  rfl
                · have i2 : isInt b0 = true := by simpa using h4
                  walk_at "go"; walk_at "go"
                  refine t_val (w_isB rfl T.isi rfl T.bool ?_)
                  walk_at "nm"
                  refine ⟨c0, dc.ex (e1.trans e2), _, rfl, ?_⟩
                  refine ite_b (fun h5 => ?_) (fun h5 => ?_)
                  · walk_at "go"; walk_at "go"; walk_at "go"
                    refine no H2 (e1.trans e2) ?_
                    rw [ey, show isBoo c0 = false by simpa using h5, i1, i2]
                    rfl
                  · have i3 : isBoo c0 = true := by simpa using h5
                    obtain ⟨h0, rfl⟩ : ∃ h, a0 = .int h := by
                      cases a0 with
                      | int h => exact ⟨h, rfl⟩
                      | _ => cases i1
                    obtain ⟨g0, rfl⟩ : ∃ h, b0 = .int h := by
                      cases b0 with
                      | int h => exact ⟨h, rfl⟩
                      | _ => cases i2
                    cases da
                    cases db
                    rw [i1, i2, i3] at ey
                    walk_at "go"; walk_at "go"; walk_at "go"; walk_at "go"
                    refine w_cmp rfl ?_
                    walk_at "nm"; walk_at "go"; walk_at "go"
                    refine ⟨_, rfl, ?_⟩
                    refine ite_b (fun h6 => ?_) (fun h6 => ?_)
                    · walk_at "go"
                      refine w_chain ?_
                      walk_at "go"; walk_at "nm"; walk_at "go"
                      refine ⟨_, rfl, ite_b (fun h7 => ?_) (fun h7 => ?_)⟩
                      · refine w_g (v := .int 1000000) rfl hg ⟨_, rfl⟩ ?_
                        walk_at "go"
                        have z := q H2 (e1.trans e2)
                        rw [ey] at z
                        simp only [h6, h7, Bool.true_and] at z
                        exact z
                      · have z := q H2 (e1.trans e2)
                        rw [ey] at z
                        simp only [h6, h7, Bool.true_and, Bool.false_and] at z
                        exact z
                    · have z := q H2 (e1.trans e2)
                      rw [ey] at z
                      simp only [h6, Bool.true_and, Bool.false_and] at z
                      exact z
end
end K67

end Part_B67
section Part_C67
set_option maxRecDepth 100000
set_option maxHeartbeats 4000000
set_option hygiene false in
local macro_rules | `(tactic| walk_at "nm") => `(tactic| first | refine w_v 0 rfl (.inl rfl) rfl ?_ | refine w_v 1 rfl (.inl rfl) rfl ?_ | refine w_v 2 rfl (.inl rfl) rfl ?_ | refine w_v 3 rfl (.inl rfl) rfl ?_ | refine w_v 4 rfl (.inl rfl) rfl ?_ | refine w_v 5 rfl (.inl rfl) rfl ?_ | refine w_v 6 rfl (.inl rfl) rfl ?_ | refine w_v 7 rfl (.inl rfl) rfl ?_ | refine w_v 8 rfl (.inl rfl) rfl ?_)
set_option hygiene false in
local macro_rules | `(tactic| walk_at "nmc") => `(tactic| first | refine w_v 0 rfl (.inr (.inl rfl)) rfl ?_ | refine w_v 1 rfl (.inr (.inl rfl)) rfl ?_ | refine w_v 2 rfl (.inr (.inl rfl)) rfl ?_ | refine w_v 0 rfl (.inr (.inr rfl)) rfl ?_ | refine w_v 1 rfl (.inr (.inr rfl)) rfl ?_ | refine w_v 2 rfl (.inr (.inr rfl)) rfl ?_ | refine w_v 3 rfl (.inr (.inr rfl)) rfl ?_ | refine w_v 4 rfl (.inr (.inr rfl)) rfl ?_)
set_option hygiene false in
local macro_rules | `(tactic| walk_at "gn") => `(tactic| first | refine g_name 0 nd rfl (.inl rfl) ?_ | refine g_name 1 nd rfl (.inl rfl) ?_ | refine g_name 2 nd rfl (.inl rfl) ?_ | refine g_name 3 nd rfl (.inl rfl) ?_ | refine g_name 4 nd rfl (.inl rfl) ?_ | refine g_name 5 nd rfl (.inl rfl) ?_ | refine g_name 6 nd rfl (.inl rfl) ?_ | refine g_name 7 nd rfl (.inl rfl) ?_)
set_option hygiene false in
local macro_rules | `(tactic| walk_at "sn") => `(tactic| first | refine s_set 0 nd rfl (.inl rfl) ?_ | refine s_set 1 nd rfl (.inl rfl) ?_ | refine s_set 2 nd rfl (.inl rfl) ?_ | refine s_set 3 nd rfl (.inl rfl) ?_ | refine s_set 4 nd rfl (.inl rfl) ?_ | refine s_set 5 nd rfl (.inl rfl) ?_ | refine s_set 6 nd rfl (.inl rfl) ?_ | refine s_set 7 nd rfl (.inl rfl) ?_)
set_option hygiene false in
local macro_rules | `(tactic| walk_at "go") => `(tactic| first
  | (with_reducible refine ss_nil ?_)
  | (with_reducible refine ss_one ?_)
  | (with_reducible refine ss_cons ?_)
  | (with_reducible refine s_if ?_)
  | (with_reducible refine s_ret ?_)
  | (with_reducible refine t_not ?_)
  | (with_reducible refine t_and ?_)
  | (with_reducible refine t_or ?_)
  | (with_reducible refine ww_and1 ?_)
  | (with_reducible refine ww_or1 ?_)
  | (with_reducible refine ww_and ?_)
  | (with_reducible refine ww_or ?_)
  | (with_reducible refine w_int ?_)
  | (with_reducible refine w_str ?_)
  | (with_reducible refine w_bl ?_)
  | (with_reducible refine w_non ?_)
  | (with_reducible refine w_one ?_)
  | (with_reducible refine w_and ?_)
  | (with_reducible refine w_or ?_)
  | (with_reducible refine w_not ?_)
  | (with_reducible refine w_op ?_)
  | (with_reducible refine w_un ?_)
  | (with_reducible refine w_ife ?_)
  | (with_reducible refine w_tup ?_)
  | (with_reducible refine w_lst3 ?_)
  | (with_reducible refine wa_nil ?_)
  | (with_reducible refine b_add ?_)
  | (with_reducible refine b_sub ?_)
  | (with_reducible refine b_lt ?_)
  | (with_reducible refine b_le ?_)
  | (with_reducible refine b_gt ?_)
  | (with_reducible refine b_ge ?_)
  | (with_reducible refine b_eqi ?_)
  | (with_reducible refine b_nei ?_)
  | (with_reducible refine b_eqs ?_)
  | (with_reducible refine b_nes ?_)
  | (with_reducible refine u_neg ?_)
  | (with_reducible refine c_int ?_)
  | (with_reducible refine c_intb ?_)
  | (with_reducible refine c_abs ?_)
  | (with_reducible refine iteT ?_)
  | (with_reducible refine iteF ?_)
  | (with_reducible refine gs_nil ?_)
  | ((with_reducible refine wa_cons ?_ ?hs); (case hs => rfl))
  | ((with_reducible refine gs_cons ?_ ?hs); (case hs => rfl))
  | ((with_reducible refine s_expr ?_ ?hs); (case hs => rfl))
  | ((with_reducible refine wk_cons ?_))
  | ((with_reducible refine wk_nil ?_)))
set_option hygiene false in
local macro_rules | `(tactic| walk_at "st") => `(tactic| first | refine ss_one ?_ | refine ss_cons ?_)
set_option hygiene false in
local macro_rules | `(tactic| walk_at "one") => `(tactic| first
  | walk_at "go"
  | (with_reducible refine t_cmp rfl ?_)
  | (with_reducible refine w_cmp rfl ?_)
  | (with_reducible refine ⟨_, rfl, ?_⟩)
  | walk_at "nm"
  | (refine w_ix (fun _ _ => rfl) ?_)
  | (refine w_callT (T := "int") rfl T.int G.bt_int ?_))
set_option hygiene false in
local macro_rules | `(tactic| walk_at "run") => `(tactic| repeat (walk_at "one"))
namespace K67
open PySem PySem.Spec PyProof.Rows L2 G
/-- the first part of a triple -/
def halt : PyData → Int
  | .tuple (.int h :: _) => h
  | _ => 0
def rising : List PyData → Bool
  | a :: b :: r => decide (halt a < halt b) && rising (b :: r)
  | _ => true
def isSched : PyData → Bool
  | .tuple ds => ds.all isTriple && rising ds
  | _ => false
theorem tri_shape {d : PyData} (h : isTriple d = true) : ∃ a b c, d = .tuple [.int a, .int b, .bool c] := by
  cases d with
  | tuple ds =>
    match ds, h with
    | [], h => cases h
    | [_], h => cases h
    | [_, _], h => cases h
    | _ :: _ :: _ :: _ :: _, h => cases h
    | [a, b, c], h =>
      rw [tri_yes] at h
      cases a <;> cases b <;> cases c <;> first | exact ⟨_, _, _, rfl⟩ | (simp [isInt, isBoo] at h)
  | _ => cases h
theorem rising_eq (ds : List PyData) : ((List.range (ds.length - 1)).map fun i => decide (halt (ds.getD i .none) < halt (ds.getD (i + 1) .none))).all id = rising ds := by
  induction ds with
  | nil => rfl
  | cons a r ih => cases r with
    | nil => rfl
    | cons b r =>
      show ((List.range (r.length + 1)).map fun i => decide (halt ((a :: b :: r).getD i .none) < halt ((a :: b :: r).getD (i + 1) .none))).all id = _
      rw [List.range_succ_eq_map, List.map_cons, List.all_cons, List.map_map]
      have ih' : ((List.range r.length).map fun i => decide (halt ((b :: r).getD i .none) < halt ((b :: r).getD (i + 1) .none))).all id = rising (b :: r) := ih
      show (decide (halt a < halt b) && _) = (decide (halt a < halt b) && rising (b :: r))
      rw [← ih']
      rfl
theorem cut1 (xs : List V) : cutV xs (some 1) none = xs.drop 1 := by
  unfold cutV
  rw [show HT.sIx xs.length 0 (some 1) = min 1 xs.length from HT.sIx_nat xs.length 0 1, HT.sIx_none]
  cases xs with
  | nil => rfl
  | cons x r =>
    rw [show min 1 (x :: r).length = 1 by rw [List.length_cons]; omega]
    show (List.take ((x :: r).length - 1) r) = r
    rw [List.length_cons, Nat.add_sub_cancel]
    exact List.take_length
section
variable {P : Program} {w : World} {K : PySem.W.Frag} {mg : Str → Option Value} {base : Heap} {k : Nat} {f : Addr} {fd : FuncData}
theorem scSch : FnScope ["value", "part", "one", "other"] ["value"] (defScope sSch) := ⟨rfl, rfl, rfl, by decide +kernel, rfl, by decide +kernel, by decide +kernel⟩
theorem ok_sch (F : Fun K "is_schedule" "is_schedule" sSch f fd) (T : Txt mg) (cT : CalG P w K mg base 2 "is_triple" ["value"] (spD isTriple)) : FnG P w K mg base CX0 3 f fd ["value"] (spD isSched) := by
  refine fnG0 F scSch (fun vs H Q E h => ?_) (fun cdv A outer s H vs Q E hr h => ?_)
  · obtain ⟨v, d, rfl, _⟩ := h; rfl
  · obtain ⟨v, d, rfl, hd, q⟩ := h
    have nd := scSch.nd
    walk_at "st"; walk_at "go"; walk_at "go"; walk_at "go"
    refine t_val (w_isT rfl T.isi rfl T.tuple ?_)
    walk_at "nm"
    refine ⟨d, hd, _, rfl, ?_⟩
    refine ite_b (fun h1 => ?_) (fun h1 => ?_)
    · walk_at "go"; walk_at "go"; walk_at "go"; walk_at "go"
      have e : isSched d = false := by
        cases d with
        | tuple ds => cases h1
        | _ => rfl
      rw [← e]
      exact q H Ex.refl
    · obtain ⟨ds, rfl⟩ : ∃ ds, d = .tuple ds := by
        cases d with
        | tuple ds => exact ⟨ds, rfl⟩
        | _ => cases h1
      cases hd with
      | @tup a xs _ ha hx =>
      walk_at "go"; walk_at "go"
      refine t_val (w_allT [("part", 1)] isTriple rfl T.all rfl nd (blkOk_by (N := ["value", "part", "one", "other"]) (sc := defScope sSch) (by decide +kernel)) ?_)
      walk_at "nm"
      refine ⟨a, xs, ds, rfl, sq_t ha, hx, fun v d H' e dq hm => ?_, fun H1 e1 => ⟨_, rfl, ?_⟩⟩
      · intro s0 H0 C cl fp
        refine g_name 1 nd rfl (.inl rfl) ⟨rfl, ?_⟩
        intro s0 H0 C cl fp
        refine w_call cT hr (by decide) rfl ?_
        walk_at "go"; walk_at "nm"; walk_at "go"
        exact ⟨v, d, rfl, dq, fun H'' e'' => ⟨rfl, e''⟩⟩
      · refine ite_b (fun h2 => ?_) (fun h2 => ?_)
        · walk_at "go"; walk_at "go"; walk_at "go"
          have e : isSched (.tuple ds) = false := by
            show (ds.all isTriple && rising ds) = false
            rw [show ds.all isTriple = false by simpa using h2]
            rfl
          rw [← e]
          exact q H1 e1
        · have all3 : ds.all isTriple = true := by simpa using h2
          have e : isSched (.tuple ds) = rising ds := by
            show (ds.all isTriple && rising ds) = rising ds
            rw [all3]
            rfl
          rw [e] at q
          have tri : ∀ {i : Nat} {v : V} {H' : Hp}, Ex H1 H' → xs[i]? = some v → ∃ t z r, v = .ref t ∧ H' t = some (.tup (.int z :: r)) ∧ z = halt (ds.getD i .none) := by
            intro i v H' e' hv
            obtain ⟨d, hd, dq⟩ := hx.get hv
            obtain ⟨z, g, c, rfl⟩ := tri_shape (List.all_eq_true.mp all3 d (List.mem_of_getElem? hd))
            cases dq with
            | @tup t ys _ ht hy => cases hy with
              | cons y1 y2 =>
                cases y1
                exact ⟨t, z, _, rfl, (e1.trans e') t _ ht, by simp [List.getD, hd, halt]⟩
          walk_at "go"; walk_at "go"; walk_at "go"
          refine w_callB (id := "all") rfl T.all (by decide +kernel) ?_
          walk_at "go"
          refine w_lcm [("one", 2), ("other", 3)] rfl nd (blkOk_by (N := ["value", "part", "one", "other"]) (sc := defScope sSch) (by decide +kernel)) ?_
          refine of_pi (RZ.pi_zipA rfl T.zip pa_w) ?_
          refine e_lenA (sq_t (e1 a _ ha)) fun hz => ?_
          walk_at "go"; walk_at "nm"; walk_at "go"
          refine w_slt ?_
          walk_at "nm"
          refine o_some ?_
          walk_at "go"
          refine ⟨1, rfl, o_none ?_⟩
          refine slt_any (sq_t (e1 a _ ha)) fun b H2 e2 hb => ?_
          rw [cut1] at hb
          walk_at "go"
          refine ⟨a, b, xs, xs.drop 1, rfl, .inr ⟨sq_t (e2 a _ (e1 a _ ha)), hb, ?_⟩⟩
          refine ⟨ds.length - 1, _, _, fun i => .bl (decide (halt (ds.getD i .none) < halt (ds.getD (i + 1) .none))), walk_zipT (xs := xs) (ys := xs.drop 1) ?_, ?_, fun H3 e3 => ⟨sq_t (e3 a _ (e2 a _ (e1 a _ ha))), sqt_ex e3 hb⟩, fun i x H3 H4 hi e3 y => ?_, fun D H3 hD e3 hl => ?_⟩
          · have := hx.length
            rw [List.length_drop]
            omega
          · have := hx.length
            omega
          · obtain ⟨t, u, v, rfl, nt, rfl, hu, hv⟩ := y
            have hu : xs[i]? = some u := hu
            have hv : (xs.drop 1)[i]? = some v := hv
            rw [List.getElem?_drop, Nat.add_comm] at hv
            obtain ⟨tu, zu, ru, rfl, htu, ezu⟩ := tri (e2.trans e3) hu
            obtain ⟨tv, zv, rv, rfl, htv, ezv⟩ := tri (e2.trans e3) hv
            intro s0 H0 C cl fp
            refine g_tup rfl (sq_t upd_same) rfl ?_
            walk_at "go"
            refine g_name 2 nd rfl (.inl rfl) ?_
            walk_at "go"
            refine g_name 3 nd rfl (.inl rfl) ?_
            walk_at "go"
            refine ⟨rfl, ?_⟩
            intro s0 H0 C cl fp
            refine w_cmp rfl (w_ix (fun _ _ => rfl) ?_)
            walk_at "nm"; walk_at "go"
            refine x_tup (sq_t ((Ex.new nt) tu _ htu)) (v := .int zu) (atI_nat (j := 0) rfl) ?_
            refine w_ix (fun _ _ => rfl) ?_
            walk_at "nm"; walk_at "go"
            refine x_tup (sq_t ((Ex.new nt) tv _ htv)) (v := .int zv) (atI_nat (j := 0) rfl) ?_
            walk_at "go"
            rw [ezu, ezv]
            exact ⟨rfl, Ex.new nt⟩
          · walk_at "go"
            refine c_all (bs := (List.range (ds.length - 1)).map fun i => decide (halt (ds.getD i .none) < halt (ds.getD (i + 1) .none))) rfl (sq_l (by rw [hl, List.map_map]; rfl)) ?_
            rw [rising_eq]
            exact q H3 ((e1.trans e2).trans e3)
end
end K67

end Part_C67
section Part_D67
set_option maxRecDepth 100000
set_option maxHeartbeats 4000000
set_option hygiene false in
local macro_rules | `(tactic| walk_at "go") => `(tactic| first
  | (with_reducible refine ss_nil ?_)
  | (with_reducible refine ss_one ?_)
  | (with_reducible refine ss_cons ?_)
  | (with_reducible refine s_if ?_)
  | (with_reducible refine s_ret ?_)
  | (with_reducible refine t_not ?_)
  | (with_reducible refine t_and ?_)
  | (with_reducible refine t_or ?_)
  | (with_reducible refine ww_and1 ?_)
  | (with_reducible refine ww_or1 ?_)
  | (with_reducible refine ww_and ?_)
  | (with_reducible refine ww_or ?_)
  | (with_reducible refine w_int ?_)
  | (with_reducible refine w_str ?_)
  | (with_reducible refine w_bl ?_)
  | (with_reducible refine w_non ?_)
  | (with_reducible refine w_one ?_)
  | (with_reducible refine w_and ?_)
  | (with_reducible refine w_or ?_)
  | (with_reducible refine w_not ?_)
  | (with_reducible refine w_op ?_)
  | (with_reducible refine w_un ?_)
  | (with_reducible refine w_ife ?_)
  | (with_reducible refine w_tup ?_)
  | (with_reducible refine w_lst3 ?_)
  | (with_reducible refine wa_nil ?_)
  | (with_reducible refine b_add ?_)
  | (with_reducible refine b_sub ?_)
  | (with_reducible refine b_lt ?_)
  | (with_reducible refine b_le ?_)
  | (with_reducible refine b_gt ?_)
  | (with_reducible refine b_ge ?_)
  | (with_reducible refine b_eqi ?_)
  | (with_reducible refine b_nei ?_)
  | (with_reducible refine b_eqs ?_)
  | (with_reducible refine b_nes ?_)
  | (with_reducible refine u_neg ?_)
  | (with_reducible refine c_int ?_)
  | (with_reducible refine c_intb ?_)
  | (with_reducible refine c_abs ?_)
  | (with_reducible refine iteT ?_)
  | (with_reducible refine iteF ?_)
  | (with_reducible refine iteNF ?_)
  | (with_reducible refine iteNT ?_)
  | (with_reducible refine gs_nil ?_)
  | (with_reducible refine wk_nil ?_)
  | (with_reducible refine wk_cons ?_)
  | ((with_reducible refine wa_cons ?_ ?hs); (case hs => rfl))
  | ((with_reducible refine gs_cons ?_ ?hs); (case hs => rfl))
  | ((with_reducible refine s_expr ?_ ?hs); (case hs => rfl))
  | (with_reducible refine t_cmp rfl ?_)
  | (with_reducible refine w_cmp rfl ?_)
  | (with_reducible refine ⟨_, rfl, ?_⟩)
  | ((with_reducible show G.wE _ (PySem.Expr.Name _ _) _ _ _); first | ((with_reducible refine' w_nm n0 ?hs ?_); (case hs => rfl)) | ((with_reducible refine' w_nm n1 ?hs ?_); (case hs => rfl)) | ((with_reducible refine' w_nm n2 ?hs ?_); (case hs => rfl)) | ((with_reducible refine' w_nm n3 ?hs ?_); (case hs => rfl)) | ((with_reducible refine' w_nm n4 ?hs ?_); (case hs => rfl)) | ((with_reducible refine' w_nm n5 ?hs ?_); (case hs => rfl)) | ((with_reducible refine' w_nm n6 ?hs ?_); (case hs => rfl)) | ((with_reducible refine' w_nm n7 ?hs ?_); (case hs => rfl)) | ((with_reducible refine' w_nm n8 ?hs ?_); (case hs => rfl)) | ((with_reducible refine' w_nm n9 ?hs ?_); (case hs => rfl)) | ((with_reducible refine' w_nm n10 ?hs ?_); (case hs => rfl)) | ((with_reducible refine' w_nm n11 ?hs ?_); (case hs => rfl)))
  | ((with_reducible show G.wG _ (PySem.Expr.Name _ _) _ _ _ _); first | (with_reducible refine g_st nm.nd t0 ?_) | (with_reducible refine g_st nm.nd t1 ?_) | (with_reducible refine g_st nm.nd t2 ?_) | (with_reducible refine g_st nm.nd t3 ?_) | (with_reducible refine g_st nm.nd t4 ?_) | (with_reducible refine g_st nm.nd t5 ?_) | (with_reducible refine g_st nm.nd t6 ?_) | (with_reducible refine g_st nm.nd t7 ?_) | (with_reducible refine g_st nm.nd t8 ?_) | (with_reducible refine g_st nm.nd t9 ?_) | (with_reducible refine g_st nm.nd t10 ?_) | (with_reducible refine g_st nm.nd t11 ?_))
  | ((with_reducible show G.wS _ (PySem.Stmt.Assign [PySem.Expr.Name _ _] _ _) _ _ _); first | ((with_reducible refine s_st nm.nd t0 ?_ ?hs); (case hs => rfl)) | ((with_reducible refine s_st nm.nd t1 ?_ ?hs); (case hs => rfl)) | ((with_reducible refine s_st nm.nd t2 ?_ ?hs); (case hs => rfl)) | ((with_reducible refine s_st nm.nd t3 ?_ ?hs); (case hs => rfl)) | ((with_reducible refine s_st nm.nd t4 ?_ ?hs); (case hs => rfl)) | ((with_reducible refine s_st nm.nd t5 ?_ ?hs); (case hs => rfl)) | ((with_reducible refine s_st nm.nd t6 ?_ ?hs); (case hs => rfl)) | ((with_reducible refine s_st nm.nd t7 ?_ ?hs); (case hs => rfl)) | ((with_reducible refine s_st nm.nd t8 ?_ ?hs); (case hs => rfl)) | ((with_reducible refine s_st nm.nd t9 ?_ ?hs); (case hs => rfl)) | ((with_reducible refine s_st nm.nd t10 ?_ ?hs); (case hs => rfl)) | ((with_reducible refine s_st nm.nd t11 ?_ ?hs); (case hs => rfl)))
  | ((with_reducible show G.wE _ (PySem.Expr.Subscript _ _ _) _ _ _); (refine w_ix (fun _ _ => rfl) ?_))
  | ((with_reducible show G.wE _ (PySem.Expr.Call (PySem.Expr.Attribute _ "append" _) _ _ _) _ _ _); (refine w_app ?_))
  | ((with_reducible show G.wE _ (PySem.Expr.Call (PySem.Expr.Name "int" _) _ _ _) _ _ _); (refine w_callT (T := "int") rfl T.int G.bt_int ?_))
  | ((with_reducible show G.wE _ (PySem.Expr.Call (PySem.Expr.Name "len" _) _ _ _) _ _ _); (refine w_callB (id := "len") rfl T.len G.bt_len ?_))
  | ((with_reducible show G.wE _ (PySem.Expr.Call (PySem.Expr.Name "abs" _) _ _ _) _ _ _); (refine w_callB (id := "abs") rfl T.abs G.bt_abs ?_))
  | ((with_reducible show G.wE _ (PySem.Expr.Call (PySem.Expr.Name "repr" _) _ _ _) _ _ _); (refine w_callB (id := "repr") rfl T.repr G.bt_repr ?_))
  | ((with_reducible show G.wE _ (PySem.Expr.Call (PySem.Expr.Name "tuple" _) _ _ _) _ _ _); (refine w_callT (T := "tuple") rfl T.tuple G.bt_tuple ?_))
  | ((with_reducible show G.wE _ (PySem.Expr.Call (PySem.Expr.Name "list" _) _ _ _) _ _ _); (refine w_callT (T := "list") rfl T.list G.bt_list ?_))
  | ((with_reducible show G.wE _ (PySem.Expr.Call (PySem.Expr.Name "str" _) _ _ _) _ _ _); (refine w_callT (T := "str") rfl T.str G.bt_str ?_))
  | ((with_reducible show G.wE _ (PySem.Expr.Call (PySem.Expr.Name "max" _) _ _ _) _ _ _); (refine w_callB (id := "max") rfl T.max G.bt_max ?_))
  | ((with_reducible show G.wE _ (PySem.Expr.Call (PySem.Expr.Name "min" _) _ _ _) _ _ _); (refine w_callB (id := "min") rfl T.min G.bt_min ?_))
  | ((with_reducible show G.wE _ (PySem.Expr.Call (PySem.Expr.Name "all" _) _ _ _) _ _ _); (refine w_callB (id := "all") rfl T.all G.bt_all ?_)))
set_option hygiene false in
local macro_rules | `(tactic| walk_at "st") => `(tactic| first | refine ss_one ?_ | refine ss_cons ?_)
set_option hygiene false in
local macro_rules | `(tactic| walk_at "run") => `(tactic| repeat (walk_at "go"))
set_option hygiene false in
local macro_rules | `(tactic| walk_at "de") => `(tactic| repeat (with_reducible first
  | exact da_nil | exact de_non | exact de_bl | exact de_int | exact de_str | exact de_neg | exact de_dict0
  | ((refine da_cons ?_ ?_ ?hs); (case hs => (with_unfolding_all rfl)))
  | ((refine de_tup ?_ ?hz); (case hz => (simp; done)))
  | ((refine de_lst ?_ ?hz); (case hz => (simp; done)))))
namespace K67
open PySem PySem.Spec PyProof.Rows L2 G
/-- the jar of draws at J, at most c draws made -/
def JarAt (H : Hp) (J : Addr) (c : Nat) : Prop := ∃ o s z : Int, H J = some (.lst [.int o, .int s, .int z]) ∧ 0 ≤ s ∧ s < 2305843009213693921 ∧ 0 ≤ z ∧ z ≤ (c : Int)
theorem JarAt.mono {H : Hp} {J : Addr} {c c' : Nat} (h : JarAt H J c) (e : c ≤ c') : JarAt H J c' := by
  obtain ⟨o, s, z, h1, h2, h3, h4, h5⟩ := h
  exact ⟨o, s, z, h1, h2, h3, h4, by omega⟩
/-- all but the jar is kept -/
def ExJ (J : Addr) (H H' : Hp) : Prop := Ex (del H J) (del H' J)
theorem ExJ.refl {J : Addr} {H : Hp} : ExJ J H H := Ex.refl
theorem ExJ.trans {J : Addr} {H H1 H2 : Hp} (a : ExJ J H H1) (b : ExJ J H1 H2) : ExJ J H H2 := Ex.trans a b
theorem ExJ.of {J : Addr} {H H' : Hp} (e : Ex H H') : ExJ J H H' := Ex.del e
theorem ExJ.get {J a : Addr} {H H' : Hp} {o : HO} (e : ExJ J H H') (n : a ≠ J) (h : H a = some o) : H' a = some o := (del_some (e a o (by rw [del_ne n]; exact h))).2
def spTake : Sp := fun vs H Q _ => ∃ (J : Addr) (c : Nat) (m : Int), vs = [.ref J, .int m] ∧ JarAt H J c ∧ c < 900000 ∧ 1 ≤ m ∧ m ≤ 1000 ∧
  ∀ (n : Int) (H' : Hp), 0 ≤ n → n < m → ExJ J H H' → JarAt H' J (c + 1) → Q (.int n) H'
section
variable {P : Program} {w : World} {K : PySem.W.Frag} {mg : Str → Option Value} {base : Heap} {k : Nat} {f : Addr} {fd : FuncData}
abbrev nTake : List Str := ["_law_jar_here", "_law_many", "_law_digit", "_law_prime", "_law_mixed"]
theorem scTake : FnScope nTake ["_law_jar_here", "_law_many"] (defScope sTake) := ⟨rfl, rfl, rfl, by decide +kernel, rfl, by decide +kernel, by decide +kernel⟩
theorem prime_at {r : Int} (h0 : 0 ≤ r) (h1 : r < 5) : ∃ p : Int, atI [V.int 2147483647, .int 2147483629, .int 2147483587, .int 2147483579, .int 2147483563] r = some (.int p) ∧ 0 < p ∧ p < 2147483648 := by
  have : r = 0 ∨ r = 1 ∨ r = 2 ∨ r = 3 ∨ r = 4 := by omega
  rcases this with e | e | e | e | e <;> subst e
  · exact ⟨_, atI_nat (j := 0) rfl, by decide, by decide⟩
  · exact ⟨_, atI_nat (j := 1) rfl, by decide, by decide⟩
  · exact ⟨_, atI_nat (j := 2) rfl, by decide, by decide⟩
  · exact ⟨_, atI_nat (j := 3) rfl, by decide, by decide⟩
  · exact ⟨_, atI_nat (j := 4) rfl, by decide, by decide⟩
theorem ok_take (F : Fun K "_law_take" "_law_take" sTake f fd) (T : Txt mg) : FnG P w K mg base CX0 1 f fd ["_law_jar_here", "_law_many"] spTake := by
  refine fnG0 F scTake (fun vs H Q E h => ?_) (fun cdv A outer s H vs Q E hr h => ?_)
  · obtain ⟨J, c, m, rfl, _⟩ := h; rfl
  · obtain ⟨J, c, m, rfl, ⟨o, sd, z, hJ, s0, s1, z0, z1⟩, hc, m1, m2, q⟩ := h
    refine ss_nms nTake (defScope sTake) scTake.nd rfl rfl fun nm => ?_
    have n0 := nm.nm (i := 0) (x := "_law_jar_here") (by decide +kernel)
    have n1 := nm.nm (i := 1) (x := "_law_many") (by decide +kernel)
    have n2 := nm.nm (i := 2) (x := "_law_digit") (by decide +kernel)
    have n3 := nm.nm (i := 3) (x := "_law_prime") (by decide +kernel)
    have n4 := nm.nm (i := 4) (x := "_law_mixed") (by decide +kernel)
    have t2 := nm.st (i := 2) (x := "_law_digit") (by decide +kernel)
    have t3 := nm.st (i := 3) (x := "_law_prime") (by decide +kernel)
    have t4 := nm.st (i := 4) (x := "_law_mixed") (by decide +kernel)
    walk_at "st"; walk_at "run"
    refine x_lst (sq_l hJ) (v := .int o) (atI_nat (j := 0) rfl) ?_
    walk_at "run"
    refine ite_b (fun h1 => ?_) (fun h1 => ?_)
    · walk_at "run"
      refine x_lst (sq_l hJ) (v := .int o) (atI_nat (j := 0) rfl) ?_
      walk_at "run"
      refine b_mod (by omega) ?_
      walk_at "run"
      refine s_asg ?_
      walk_at "run"
      refine x_lst (sq_l hJ) (v := .int o) (atI_nat (j := 0) rfl) ?_
      walk_at "run"
      refine b_div ⟨by omega, by omega⟩ ?_
      refine g_setl ?_
      walk_at "run"
      refine ⟨J, _, 0, 0, rfl, rfl, hJ, rfl, ?_⟩
      walk_at "run"
      refine q _ _ (Int.emod_nonneg _ (by omega)) (Int.emod_lt_of_pos _ (by omega)) ?_ ⟨o / m, sd, z, upd_same, s0, s1, z0, by omega⟩
      show Ex _ (del (upd H J _) J)
      rw [del_upd]
      exact Ex.refl
    · walk_at "run"
      refine s_asg ?_
      walk_at "run"
      refine x_lst (sq_l hJ) (v := .int z) (atI_nat (j := 2) rfl) ?_
      walk_at "run"
      refine g_setl ?_
      walk_at "run"
      refine ⟨J, _, 2, 2, rfl, rfl, hJ, rfl, ?_⟩
      generalize hH1 : upd H J (.lst ([V.int o, .int sd, .int z].set 2 (.int (z + 1)))) = H1
      have hJ1 : H1 J = some (.lst [.int o, .int sd, .int (z + 1)]) := by rw [← hH1]; exact upd_same
      have x1 : ExJ J H H1 := by
        show Ex _ (del H1 J)
        rw [← hH1, del_upd]
        exact Ex.refl
      walk_at "run"
      refine ⟨by decide, fun p np _ => ?_⟩
      generalize hH2 : upd H1 p (.lst _) = H2
      have hp2 : H2 p = some (.lst [.int 2147483647, .int 2147483629, .int 2147483587, .int 2147483579, .int 2147483563]) := by rw [← hH2]; exact upd_same
      have e2 : Ex H1 H2 := by rw [← hH2]; exact Ex.new np
      have hJ2 := e2 J _ hJ1
      have x2 : ExJ J H H2 := x1.trans (ExJ.of e2)
      walk_at "run"
      refine x_lst (sq_l hJ2) (v := .int (z + 1)) (atI_nat (j := 2) rfl) ?_
      walk_at "run"
      refine b_mod (by decide) ?_
      obtain ⟨pr, hpr, pr0, pr1⟩ := prime_at (r := (z + 1) % 5) (Int.emod_nonneg _ (by decide)) (Int.emod_lt_of_pos _ (by decide))
      refine x_lst (sq_l hp2) hpr ?_
      walk_at "run"
      refine x_lst (sq_l hJ2) (v := .int sd) (atI_nat (j := 1) rfl) ?_
      walk_at "run"
      refine x_lst (sq_l hJ2) (v := .int (z + 1)) (atI_nat (j := 2) rfl) ?_
      refine b_mul (a := 20) (b := 30) (by decide) (by omega) ?_
      walk_at "run"
      refine x_lst (sq_l hJ2) (v := .int (z + 1)) (atI_nat (j := 2) rfl) ?_
      refine b_mul (a := 40) (b := 30) (by omega) (by omega) ?_
      walk_at "run"
      have sq0 : 0 ≤ 48611 * (z + 1) * (z + 1) := Int.mul_nonneg (by omega) (by omega)
      have sq1 : 48611 * (z + 1) * (z + 1) ≤ 48611 * 900000 * 900000 := Int.mul_le_mul (by omega) (by omega) (by omega) (by omega)
      refine b_pow3 (by decide) (by decide) (by omega) ?_
      walk_at "run"
      refine b_mod pr0 ?_
      generalize hm0 : (sd + 48611 * (z + 1) * (z + 1) + 29) ^ (3 : Int).toNat % pr = m0
      have m00 : 0 ≤ m0 := by rw [← hm0]; exact Int.emod_nonneg _ (by omega)
      have m01 : m0 < 2147483648 := by rw [← hm0]; exact Int.lt_trans (Int.emod_lt_of_pos _ pr0) pr1
      walk_at "run"
      refine b_mod (by decide) ?_
      walk_at "run"
      refine x_lst (sq_l hJ2) (v := .int (z + 1)) (atI_nat (j := 2) rfl) ?_
      refine b_mul (a := 10) (b := 30) (by decide) (by omega) ?_
      walk_at "run"
      have r0 : 0 ≤ m0 % 10009 := Int.emod_nonneg _ (by decide)
      have r1 : m0 % 10009 < 10009 := Int.emod_lt_of_pos _ (by decide)
      refine b_mul (a := 40) (b := 40) (by omega) (by omega) ?_
      walk_at "run"
      refine b_mod (by decide) ?_
      walk_at "run"
      refine b_div ⟨by decide, by decide⟩ ?_
      walk_at "run"
      refine b_mod (by omega) ?_
      exact q _ _ (Int.emod_nonneg _ (by omega)) (Int.emod_lt_of_pos _ (by omega)) x2 ⟨o, sd, z + 1, hJ2, s0, s1, by omega, by omega⟩
/-! ### _law_of -/
def spOf : Sp := fun vs H Q _ => ∃ (J L : Addr) (c : Nat) (xs : List V), vs = [.ref J, .ref L] ∧ JarAt H J c ∧ c < 900000 ∧ L ≠ J ∧ H L = some (.lst xs) ∧ 1 ≤ xs.length ∧ xs.length ≤ 1000 ∧
  ∀ (i : Nat) (v : V) (H' : Hp), xs[i]? = some v → ExJ J H H' → JarAt H' J (c + 1) → Q v H'
abbrev nOf : List Str := ["_law_jar_here", "_law_some"]
theorem scOf : FnScope nOf ["_law_jar_here", "_law_some"] (defScope sOf) := ⟨rfl, rfl, rfl, by decide +kernel, rfl, by decide +kernel, by decide +kernel⟩
theorem ok_of (F : Fun K "_law_of" "_law_of" sOf f fd) (T : Txt mg) (cT : CalG P w K mg base 1 "_law_take" ["_law_jar_here", "_law_many"] spTake) : FnG P w K mg base CX0 2 f fd ["_law_jar_here", "_law_some"] spOf := by
  refine fnG0 F scOf (fun vs H Q E h => ?_) (fun cdv A outer s H vs Q E hr h => ?_)
  · obtain ⟨J, L, c, xs, rfl, _⟩ := h; rfl
  · obtain ⟨J, L, c, xs, rfl, hJ, hc, nL, hL, l1, l2, q⟩ := h
    refine ss_nms nOf (defScope sOf) scOf.nd rfl rfl fun nm => ?_
    have n0 := nm.nm (i := 0) (x := "_law_jar_here") (by decide +kernel)
    have n1 := nm.nm (i := 1) (x := "_law_some") (by decide +kernel)
    walk_at "st"; walk_at "run"
    refine w_call cT hr (by decide) rfl ?_
    walk_at "run"
    refine c_lenl (sq_l hL) ?_
    walk_at "run"
    refine ⟨J, c, _, rfl, hJ, hc, by omega, by omega, fun n H1 h0 h1 e1 j1 => ?_⟩
    have hn : n.toNat < xs.length := by omega
    refine x_lst (sq_l (e1.get nL hL)) (v := xs[n.toNat]) ?_ ?_
    · have key := atI_nat (xs := xs) (j := n.toNat) (List.getElem?_eq_getElem hn)
      rw [Int.toNat_of_nonneg h0] at key
      exact key
    · exact q n.toNat _ H1 (List.getElem?_eq_getElem hn) e1 j1
end
end K67

end Part_D67
section Part_E67
set_option maxRecDepth 100000
set_option maxHeartbeats 4000000
set_option hygiene false in
local macro_rules | `(tactic| walk_at "go") => `(tactic| first
  | (with_reducible refine ss_nil ?_)
  | (with_reducible refine ss_one ?_)
  | (with_reducible refine ss_cons ?_)
  | (with_reducible refine s_if ?_)
  | (with_reducible refine s_ret ?_)
  | (with_reducible refine t_not ?_)
  | (with_reducible refine t_and ?_)
  | (with_reducible refine t_or ?_)
  | (with_reducible refine ww_and1 ?_)
  | (with_reducible refine ww_or1 ?_)
  | (with_reducible refine ww_and ?_)
  | (with_reducible refine ww_or ?_)
  | (with_reducible refine w_int ?_)
  | (with_reducible refine w_str ?_)
  | (with_reducible refine w_bl ?_)
  | (with_reducible refine w_non ?_)
  | (with_reducible refine w_one ?_)
  | (with_reducible refine w_and ?_)
  | (with_reducible refine w_or ?_)
  | (with_reducible refine w_not ?_)
  | (with_reducible refine w_op ?_)
  | (with_reducible refine w_un ?_)
  | (with_reducible refine w_ife ?_)
  | (with_reducible refine w_tup ?_)
  | (with_reducible refine w_lst3 ?_)
  | (with_reducible refine wa_nil ?_)
  | (with_reducible refine b_add ?_)
  | (with_reducible refine b_sub ?_)
  | (with_reducible refine b_lt ?_)
  | (with_reducible refine b_le ?_)
  | (with_reducible refine b_gt ?_)
  | (with_reducible refine b_ge ?_)
  | (with_reducible refine b_eqi ?_)
  | (with_reducible refine b_nei ?_)
  | (with_reducible refine b_eqs ?_)
  | (with_reducible refine b_nes ?_)
  | (with_reducible refine u_neg ?_)
  | (with_reducible refine c_int ?_)
  | (with_reducible refine c_intb ?_)
  | (with_reducible refine c_abs ?_)
  | (with_reducible refine iteT ?_)
  | (with_reducible refine iteF ?_)
  | (with_reducible refine iteNF ?_)
  | (with_reducible refine iteNT ?_)
  | (with_reducible refine gs_nil ?_)
  | (with_reducible refine wk_nil ?_)
  | (with_reducible refine wk_cons ?_)
  | ((with_reducible refine wa_cons ?_ ?hs); (case hs => rfl))
  | ((with_reducible refine gs_cons ?_ ?hs); (case hs => rfl))
  | ((with_reducible refine s_expr ?_ ?hs); (case hs => rfl))
  | (with_reducible refine t_cmp rfl ?_)
  | (with_reducible refine w_cmp rfl ?_)
  | (with_reducible refine ⟨_, rfl, ?_⟩)
  | ((with_reducible show G.wE _ (PySem.Expr.Name _ _) _ _ _); first | ((with_reducible refine' w_nm n0 ?hs ?_); (case hs => rfl)) | ((with_reducible refine' w_nm n1 ?hs ?_); (case hs => rfl)) | ((with_reducible refine' w_nm n2 ?hs ?_); (case hs => rfl)) | ((with_reducible refine' w_nm n3 ?hs ?_); (case hs => rfl)) | ((with_reducible refine' w_nm n4 ?hs ?_); (case hs => rfl)) | ((with_reducible refine' w_nm n5 ?hs ?_); (case hs => rfl)) | ((with_reducible refine' w_nm n6 ?hs ?_); (case hs => rfl)) | ((with_reducible refine' w_nm n7 ?hs ?_); (case hs => rfl)) | ((with_reducible refine' w_nm n8 ?hs ?_); (case hs => rfl)) | ((with_reducible refine' w_nm n9 ?hs ?_); (case hs => rfl)) | ((with_reducible refine' w_nm n10 ?hs ?_); (case hs => rfl)) | ((with_reducible refine' w_nm n11 ?hs ?_); (case hs => rfl)))
  | ((with_reducible show G.wG _ (PySem.Expr.Name _ _) _ _ _ _); first | (with_reducible refine g_st nm.nd t0 ?_) | (with_reducible refine g_st nm.nd t1 ?_) | (with_reducible refine g_st nm.nd t2 ?_) | (with_reducible refine g_st nm.nd t3 ?_) | (with_reducible refine g_st nm.nd t4 ?_) | (with_reducible refine g_st nm.nd t5 ?_) | (with_reducible refine g_st nm.nd t6 ?_) | (with_reducible refine g_st nm.nd t7 ?_) | (with_reducible refine g_st nm.nd t8 ?_) | (with_reducible refine g_st nm.nd t9 ?_) | (with_reducible refine g_st nm.nd t10 ?_) | (with_reducible refine g_st nm.nd t11 ?_))
  | ((with_reducible show G.wS _ (PySem.Stmt.Assign [PySem.Expr.Name _ _] _ _) _ _ _); first | ((with_reducible refine s_st nm.nd t0 ?_ ?hs); (case hs => rfl)) | ((with_reducible refine s_st nm.nd t1 ?_ ?hs); (case hs => rfl)) | ((with_reducible refine s_st nm.nd t2 ?_ ?hs); (case hs => rfl)) | ((with_reducible refine s_st nm.nd t3 ?_ ?hs); (case hs => rfl)) | ((with_reducible refine s_st nm.nd t4 ?_ ?hs); (case hs => rfl)) | ((with_reducible refine s_st nm.nd t5 ?_ ?hs); (case hs => rfl)) | ((with_reducible refine s_st nm.nd t6 ?_ ?hs); (case hs => rfl)) | ((with_reducible refine s_st nm.nd t7 ?_ ?hs); (case hs => rfl)) | ((with_reducible refine s_st nm.nd t8 ?_ ?hs); (case hs => rfl)) | ((with_reducible refine s_st nm.nd t9 ?_ ?hs); (case hs => rfl)) | ((with_reducible refine s_st nm.nd t10 ?_ ?hs); (case hs => rfl)) | ((with_reducible refine s_st nm.nd t11 ?_ ?hs); (case hs => rfl)))
  | ((with_reducible show G.wE _ (PySem.Expr.Subscript _ _ _) _ _ _); (refine w_ix (fun _ _ => rfl) ?_))
  | ((with_reducible show G.wE _ (PySem.Expr.Call (PySem.Expr.Attribute _ "append" _) _ _ _) _ _ _); (refine w_app ?_))
  | ((with_reducible show G.wE _ (PySem.Expr.Call (PySem.Expr.Name "int" _) _ _ _) _ _ _); (refine w_callT (T := "int") rfl T.int G.bt_int ?_))
  | ((with_reducible show G.wE _ (PySem.Expr.Call (PySem.Expr.Name "len" _) _ _ _) _ _ _); (refine w_callB (id := "len") rfl T.len G.bt_len ?_))
  | ((with_reducible show G.wE _ (PySem.Expr.Call (PySem.Expr.Name "abs" _) _ _ _) _ _ _); (refine w_callB (id := "abs") rfl T.abs G.bt_abs ?_))
  | ((with_reducible show G.wE _ (PySem.Expr.Call (PySem.Expr.Name "repr" _) _ _ _) _ _ _); (refine w_callB (id := "repr") rfl T.repr G.bt_repr ?_))
  | ((with_reducible show G.wE _ (PySem.Expr.Call (PySem.Expr.Name "tuple" _) _ _ _) _ _ _); (refine w_callT (T := "tuple") rfl T.tuple G.bt_tuple ?_))
  | ((with_reducible show G.wE _ (PySem.Expr.Call (PySem.Expr.Name "list" _) _ _ _) _ _ _); (refine w_callT (T := "list") rfl T.list G.bt_list ?_))
  | ((with_reducible show G.wE _ (PySem.Expr.Call (PySem.Expr.Name "str" _) _ _ _) _ _ _); (refine w_callT (T := "str") rfl T.str G.bt_str ?_))
  | ((with_reducible show G.wE _ (PySem.Expr.Call (PySem.Expr.Name "max" _) _ _ _) _ _ _); (refine w_callB (id := "max") rfl T.max G.bt_max ?_))
  | ((with_reducible show G.wE _ (PySem.Expr.Call (PySem.Expr.Name "min" _) _ _ _) _ _ _); (refine w_callB (id := "min") rfl T.min G.bt_min ?_))
  | ((with_reducible show G.wE _ (PySem.Expr.Call (PySem.Expr.Name "all" _) _ _ _) _ _ _); (refine w_callB (id := "all") rfl T.all G.bt_all ?_)))
set_option hygiene false in
local macro_rules | `(tactic| walk_at "st") => `(tactic| first | refine ss_one ?_ | refine ss_cons ?_)
set_option hygiene false in
local macro_rules | `(tactic| walk_at "run") => `(tactic| repeat (walk_at "go"))
set_option hygiene false in
local macro_rules | `(tactic| walk_at "de") => `(tactic| repeat (with_reducible first
  | exact da_nil | exact de_non | exact de_bl | exact de_int | exact de_str | exact de_neg | exact de_dict0
  | ((refine da_cons ?_ ?_ ?hs); (case hs => (with_unfolding_all rfl)))
  | ((refine de_tup ?_ ?hz); (case hz => (simp; done)))
  | ((refine de_lst ?_ ?hz); (case hz => (simp; done)))))
namespace K67
open PySem PySem.Spec PyProof.Rows L2 G
/-! ### _law_jar -/
def spJar (K : PySem.W.Frag) : Sp := fun vs H Q _ => ∃ (a : Addr) (ns : List Int) (i : Int), vs = [.ref a, .int i] ∧ SqL K H a (ns.map V.int) ∧ 0 ≤ i ∧ i ≤ 10 ∧
  ∀ (J : Addr) (H' : Hp), H J = none → Ex H H' → JarAt H' J 0 → Q (.ref J) H'
section
variable {P : Program} {w : World} {K : PySem.W.Frag} {mg : Str → Option Value} {base : Heap} {k : Nat} {f : Addr} {fd : FuncData}
abbrev nJar : List Str := ["_law_script", "_law_k", "_law_cell", "_law_own"]
theorem scJar : FnScope nJar ["_law_script", "_law_k"] (defScope sJar) := ⟨rfl, rfl, rfl, by decide +kernel, rfl, by decide +kernel, by decide +kernel⟩
theorem bits200 : CPw 10 60 := ⟨by decide, by decide +kernel⟩
theorem bits800 : CPw ((10 : Int) ^ (60 : Int).toNat) 4 := ⟨by decide, by decide +kernel⟩
theorem bits60 : CPw 10 18 := ⟨by decide, by decide +kernel⟩
theorem ok_jar (F : Fun K "_law_jar" "_law_jar" sJar f fd) (T : Txt mg) : FnG P w K mg base CX0 1 f fd ["_law_script", "_law_k"] (spJar K) := by
  refine fnG0 F scJar (fun vs H Q E h => ?_) (fun cdv A outer s H vs Q E hr h => ?_)
  · obtain ⟨a, ns, i, rfl, _⟩ := h; rfl
  · obtain ⟨a, ns, i, rfl, hS, i0, i1, q⟩ := h
    refine ss_nms nJar (defScope sJar) scJar.nd rfl rfl fun nm => ?_
    have n0 := nm.nm (i := 0) (x := "_law_script") (by decide +kernel)
    have n1 := nm.nm (i := 1) (x := "_law_k") (by decide +kernel)
    have n2 := nm.nm (i := 2) (x := "_law_cell") (by decide +kernel)
    have n3 := nm.nm (i := 3) (x := "_law_own") (by decide +kernel)
    have t2 := nm.st (i := 2) (x := "_law_cell") (by decide +kernel)
    have t3 := nm.st (i := 3) (x := "_law_own") (by decide +kernel)
    walk_at "st"; walk_at "run"
    refine c_lenl hS ?_
    walk_at "run"
    have rest : ∀ c : Int, G.wSs (cxOf CX0 P w K mg base nJar "_law_jar" (defScope sJar) f cdv A outer s H E).nox ((defBody sJar).drop 1) { nx := fun _ H' => Q .non H', rt := Q } ((L2.start nJar [.ref a, .int i]).set 2 (some (.int c))) H := by
      intro c
      walk_at "st"; walk_at "run"
      refine b_pow bits200 ?_
      walk_at "run"
      refine b_pow bits800 ?_
      have big : (0 : Int) < ((10 : Int) ^ (60 : Int).toNat) ^ (4 : Int).toNat := by decide +kernel
      have big2 : ((10 : Int) ^ (60 : Int).toNat) ^ (4 : Int).toNat < 2 ^ 800 := by decide +kernel
      refine b_mod big ?_
      walk_at "run"
      refine b_pow bits60 ?_
      walk_at "run"
      generalize hb : decide ((if c < 0 then -c else c) ≥ (10 : Int) ^ (18 : Int).toNat) = b
      have r0 := Int.emod_nonneg (if c < 0 then -c else c) (Int.ne_of_gt big)
      have r1 := Int.emod_lt_of_pos (if c < 0 then -c else c) big
      generalize (if c < 0 then -c else c) % ((10 : Int) ^ (60 : Int).toNat) ^ (4 : Int).toNat = ow at r0 r1 ⊢
      have r2 : ow.natAbs < 2 ^ 800 := by
        have h3 : ow < 2 ^ 800 := Int.lt_trans r1 big2
        have h4 : ((ow.natAbs : Nat) : Int) = ow := Int.natAbs_of_nonneg r0
        have h5 : ((ow.natAbs : Nat) : Int) < ((2 ^ 800 : Nat) : Int) := by rw [h4]; exact h3
        exact Int.ofNat_lt.mp h5
      refine b_mul (a := 800) (b := 2) r2 (by cases b <;> decide) ?_
      walk_at "run"
      refine b_mod (by decide) ?_
      walk_at "run"
      have c0 : 0 ≤ c % 2305843009213693951 := Int.emod_nonneg _ (by decide)
      have c1 : c % 2305843009213693951 < 2305843009213693951 := Int.emod_lt_of_pos _ (by decide)
      refine b_mul (a := 62) (b := 20) (by omega) (by decide) ?_
      walk_at "run"
      refine b_mul (a := 20) (b := 10) (by decide) (by omega) ?_
      walk_at "run"
      refine b_mul (a := 30) (b := 10) (by omega) (by omega) ?_
      walk_at "run"
      refine b_mod (by decide) ?_
      walk_at "run"
      refine ⟨by show 3 ≤ sizeLine; decide, fun p np _ => q p _ np (Ex.new np) ⟨_, _, 0, upd_same, Int.emod_nonneg _ (by decide), Int.emod_lt_of_pos _ (by decide), by decide, by decide⟩⟩
    refine ite_b (fun h1 => ?_) (fun h1 => ?_)
    · walk_at "run"
      have h2 : i < (ns.length : Int) := by simpa using h1
      have key := atI_nat (xs := ns.map V.int) (j := i.toNat) (v := .int (ns.getD i.toNat 0)) (by
        have hl : i.toNat < ns.length := by omega
        simp [List.getElem?_eq_getElem hl, List.getD])
      rw [Int.toNat_of_nonneg i0] at key
      exact x_lst hS key (rest _)
    · walk_at "run"
      refine b_mul (a := 10) (b := 10) (by decide) (by omega) ?_
      walk_at "go"; walk_at "go"
      exact rest _
end
end K67

end Part_E67
section Part_F67
set_option maxRecDepth 100000
set_option maxHeartbeats 4000000
set_option hygiene false in
local macro_rules | `(tactic| walk_at "go") => `(tactic| first
  | (with_reducible refine ss_nil ?_)
  | (with_reducible refine ss_one ?_)
  | (with_reducible refine ss_cons ?_)
  | (with_reducible refine s_if ?_)
  | (with_reducible refine s_ret ?_)
  | (with_reducible refine t_not ?_)
  | (with_reducible refine t_and ?_)
  | (with_reducible refine t_or ?_)
  | (with_reducible refine ww_and1 ?_)
  | (with_reducible refine ww_or1 ?_)
  | (with_reducible refine ww_and ?_)
  | (with_reducible refine ww_or ?_)
  | (with_reducible refine w_int ?_)
  | (with_reducible refine w_str ?_)
  | (with_reducible refine w_bl ?_)
  | (with_reducible refine w_non ?_)
  | (with_reducible refine w_one ?_)
  | (with_reducible refine w_and ?_)
  | (with_reducible refine w_or ?_)
  | (with_reducible refine w_not ?_)
  | (with_reducible refine w_op ?_)
  | (with_reducible refine w_un ?_)
  | (with_reducible refine w_ife ?_)
  | (with_reducible refine w_tup ?_)
  | (with_reducible refine w_lst3 ?_)
  | (with_reducible refine wa_nil ?_)
  | (with_reducible refine b_add ?_)
  | (with_reducible refine b_sub ?_)
  | (with_reducible refine b_lt ?_)
  | (with_reducible refine b_le ?_)
  | (with_reducible refine b_gt ?_)
  | (with_reducible refine b_ge ?_)
  | (with_reducible refine b_eqi ?_)
  | (with_reducible refine b_nei ?_)
  | (with_reducible refine b_eqs ?_)
  | (with_reducible refine b_nes ?_)
  | (with_reducible refine u_neg ?_)
  | (with_reducible refine c_int ?_)
  | (with_reducible refine c_intb ?_)
  | (with_reducible refine c_abs ?_)
  | (with_reducible refine iteT ?_)
  | (with_reducible refine iteF ?_)
  | (with_reducible refine iteNF ?_)
  | (with_reducible refine iteNT ?_)
  | (with_reducible refine gs_nil ?_)
  | (with_reducible refine wk_nil ?_)
  | (with_reducible refine wk_cons ?_)
  | ((with_reducible refine wa_cons ?_ ?hs); (case hs => rfl))
  | ((with_reducible refine gs_cons ?_ ?hs); (case hs => rfl))
  | ((with_reducible refine s_expr ?_ ?hs); (case hs => rfl))
  | (with_reducible refine t_cmp rfl ?_)
  | (with_reducible refine w_cmp rfl ?_)
  | (with_reducible refine ⟨_, rfl, ?_⟩)
  | ((with_reducible show G.wE _ (PySem.Expr.Name _ _) _ _ _); first | ((with_reducible refine' w_nm n0 ?hs ?_); (case hs => rfl)) | ((with_reducible refine' w_nm n1 ?hs ?_); (case hs => rfl)) | ((with_reducible refine' w_nm n2 ?hs ?_); (case hs => rfl)) | ((with_reducible refine' w_nm n3 ?hs ?_); (case hs => rfl)) | ((with_reducible refine' w_nm n4 ?hs ?_); (case hs => rfl)) | ((with_reducible refine' w_nm n5 ?hs ?_); (case hs => rfl)) | ((with_reducible refine' w_nm n6 ?hs ?_); (case hs => rfl)) | ((with_reducible refine' w_nm n7 ?hs ?_); (case hs => rfl)) | ((with_reducible refine' w_nm n8 ?hs ?_); (case hs => rfl)) | ((with_reducible refine' w_nm n9 ?hs ?_); (case hs => rfl)) | ((with_reducible refine' w_nm n10 ?hs ?_); (case hs => rfl)) | ((with_reducible refine' w_nm n11 ?hs ?_); (case hs => rfl)))
  | ((with_reducible show G.wG _ (PySem.Expr.Name _ _) _ _ _ _); first | (with_reducible refine g_st nm.nd t0 ?_) | (with_reducible refine g_st nm.nd t1 ?_) | (with_reducible refine g_st nm.nd t2 ?_) | (with_reducible refine g_st nm.nd t3 ?_) | (with_reducible refine g_st nm.nd t4 ?_) | (with_reducible refine g_st nm.nd t5 ?_) | (with_reducible refine g_st nm.nd t6 ?_) | (with_reducible refine g_st nm.nd t7 ?_) | (with_reducible refine g_st nm.nd t8 ?_) | (with_reducible refine g_st nm.nd t9 ?_) | (with_reducible refine g_st nm.nd t10 ?_) | (with_reducible refine g_st nm.nd t11 ?_))
  | ((with_reducible show G.wS _ (PySem.Stmt.Assign [PySem.Expr.Name _ _] _ _) _ _ _); first | ((with_reducible refine s_st nm.nd t0 ?_ ?hs); (case hs => rfl)) | ((with_reducible refine s_st nm.nd t1 ?_ ?hs); (case hs => rfl)) | ((with_reducible refine s_st nm.nd t2 ?_ ?hs); (case hs => rfl)) | ((with_reducible refine s_st nm.nd t3 ?_ ?hs); (case hs => rfl)) | ((with_reducible refine s_st nm.nd t4 ?_ ?hs); (case hs => rfl)) | ((with_reducible refine s_st nm.nd t5 ?_ ?hs); (case hs => rfl)) | ((with_reducible refine s_st nm.nd t6 ?_ ?hs); (case hs => rfl)) | ((with_reducible refine s_st nm.nd t7 ?_ ?hs); (case hs => rfl)) | ((with_reducible refine s_st nm.nd t8 ?_ ?hs); (case hs => rfl)) | ((with_reducible refine s_st nm.nd t9 ?_ ?hs); (case hs => rfl)) | ((with_reducible refine s_st nm.nd t10 ?_ ?hs); (case hs => rfl)) | ((with_reducible refine s_st nm.nd t11 ?_ ?hs); (case hs => rfl)))
  | ((with_reducible show G.wE _ (PySem.Expr.Subscript _ _ _) _ _ _); (refine w_ix (fun _ _ => rfl) ?_))
  | ((with_reducible show G.wE _ (PySem.Expr.Call (PySem.Expr.Attribute _ "append" _) _ _ _) _ _ _); (refine w_app ?_))
  | ((with_reducible show G.wE _ (PySem.Expr.Call (PySem.Expr.Name "int" _) _ _ _) _ _ _); (refine w_callT (T := "int") rfl T.int G.bt_int ?_))
  | ((with_reducible show G.wE _ (PySem.Expr.Call (PySem.Expr.Name "len" _) _ _ _) _ _ _); (refine w_callB (id := "len") rfl T.len G.bt_len ?_))
  | ((with_reducible show G.wE _ (PySem.Expr.Call (PySem.Expr.Name "abs" _) _ _ _) _ _ _); (refine w_callB (id := "abs") rfl T.abs G.bt_abs ?_))
  | ((with_reducible show G.wE _ (PySem.Expr.Call (PySem.Expr.Name "repr" _) _ _ _) _ _ _); (refine w_callB (id := "repr") rfl T.repr G.bt_repr ?_))
  | ((with_reducible show G.wE _ (PySem.Expr.Call (PySem.Expr.Name "tuple" _) _ _ _) _ _ _); (refine w_callT (T := "tuple") rfl T.tuple G.bt_tuple ?_))
  | ((with_reducible show G.wE _ (PySem.Expr.Call (PySem.Expr.Name "list" _) _ _ _) _ _ _); (refine w_callT (T := "list") rfl T.list G.bt_list ?_))
  | ((with_reducible show G.wE _ (PySem.Expr.Call (PySem.Expr.Name "str" _) _ _ _) _ _ _); (refine w_callT (T := "str") rfl T.str G.bt_str ?_))
  | ((with_reducible show G.wE _ (PySem.Expr.Call (PySem.Expr.Name "max" _) _ _ _) _ _ _); (refine w_callB (id := "max") rfl T.max G.bt_max ?_))
  | ((with_reducible show G.wE _ (PySem.Expr.Call (PySem.Expr.Name "min" _) _ _ _) _ _ _); (refine w_callB (id := "min") rfl T.min G.bt_min ?_))
  | ((with_reducible show G.wE _ (PySem.Expr.Call (PySem.Expr.Name "all" _) _ _ _) _ _ _); (refine w_callB (id := "all") rfl T.all G.bt_all ?_)))
set_option hygiene false in
local macro_rules | `(tactic| walk_at "st") => `(tactic| first | refine ss_one ?_ | refine ss_cons ?_)
set_option hygiene false in
local macro_rules | `(tactic| walk_at "run") => `(tactic| repeat (walk_at "go"))
set_option hygiene false in
local macro_rules | `(tactic| walk_at "de") => `(tactic| repeat (with_reducible first
  | exact da_nil | exact de_non | exact de_bl | exact de_int | exact de_str | exact de_neg | exact de_dict0
  | ((refine da_cons ?_ ?_ ?hs); (case hs => (with_unfolding_all rfl)))
  | ((refine de_tup ?_ ?hz); (case hz => (simp; done)))
  | ((refine de_lst ?_ ?hz); (case hz => (simp; done)))))
namespace K67
open PySem PySem.Spec PyProof.Rows L2 G
/-! ### _law_drawn -/
theorem JarAt.ex {H H' : Hp} {J : Addr} {c : Nat} (h : JarAt H J c) (e : Ex H H') : JarAt H' J c := by
  obtain ⟨o, s, z, h1, r⟩ := h
  exact ⟨o, s, z, e _ _ h1, r⟩
theorem JarAt.put {H : Hp} {J a : Addr} {c : Nat} {o : HO} (h : JarAt H J c) (n : a ≠ J) : JarAt (upd H a o) J c := by
  obtain ⟨o, s, z, h1, r⟩ := h
  exact ⟨o, s, z, by rw [upd_ne n.symm]; exact h1, r⟩
theorem JarAt.ne {H : Hp} {J p : Addr} {c : Nat} (h : JarAt H J c) (np : H p = none) : p ≠ J := by
  obtain ⟨o, s, z, h1, r⟩ := h
  exact (ne_of_none h1 np).symm
/-- data that is made of new things, beside the jar -/
def NewD (J : Addr) (H' : Hp) (v : V) (n m : Nat) : Prop := ∃ d, Dq (del H' J) v d ∧ Sz (2 ^ 60) n m d
def spDrawn : Sp := fun vs H Q _ => ∃ (J : Addr) (c : Nat), vs = [.ref J] ∧ JarAt H J c ∧ c < 800000 ∧
  ∀ (p : Addr) (H' : Hp) (ds : List PyData), ExJ J H H' → JarAt H' J (c + 60) → Dq (del H' J) (.ref p) (.tuple ds) → Sz (2 ^ 50) 2 40 (.tuple ds) → Q (.ref p) H'
theorem one_of5 {a b c d e : Int} {i : Nat} {v : V} {lo hi : Int} (h : [V.int a, .int b, .int c, .int d, .int e][i]? = some v) (ha : lo ≤ a ∧ a ≤ hi) (hb : lo ≤ b ∧ b ≤ hi) (hc : lo ≤ c ∧ c ≤ hi) (hd : lo ≤ d ∧ d ≤ hi) (he : lo ≤ e ∧ e ≤ hi) :
    ∃ n, v = .int n ∧ lo ≤ n ∧ n ≤ hi := by
  match i, h with
  | 0, h => cases h; exact ⟨_, rfl, ha⟩
  | 1, h => cases h; exact ⟨_, rfl, hb⟩
  | 2, h => cases h; exact ⟨_, rfl, hc⟩
  | 3, h => cases h; exact ⟨_, rfl, hd⟩
  | 4, h => cases h; exact ⟨_, rfl, he⟩
  | n + 5, h => simp at h
section
variable {P : Program} {w : World} {K : PySem.W.Frag} {mg : Str → Option Value} {base : Heap} {k : Nat} {f : Addr} {fd : FuncData}
abbrev nDrawn : List Str := ["_law_jar_here", "_law_found", "_law_halt", "_law_turn", "_law_gap"]
theorem scDrawn : FnScope nDrawn ["_law_jar_here"] (defScope sDrawn) := ⟨rfl, rfl, rfl, by decide +kernel, rfl, by decide +kernel, by decide +kernel⟩
theorem pw12 : CPw 10 12 := ⟨by decide, by decide +kernel⟩
theorem pw6 : CPw 10 6 := ⟨by decide, by decide +kernel⟩
theorem ok_drawn (F : Fun K "_law_drawn" "_law_drawn" sDrawn f fd) (T : Txt mg) (cT : CalG P w K mg base 1 "_law_take" ["_law_jar_here", "_law_many"] spTake) (cO : CalG P w K mg base 2 "_law_of" ["_law_jar_here", "_law_some"] spOf) :
    FnG P w K mg base CX0 3 f fd ["_law_jar_here"] spDrawn := by
  refine fnG0 F scDrawn (fun vs H Q E h => ?_) (fun cdv A outer s H vs Q E hr h => ?_)
  · obtain ⟨J, c, rfl, _⟩ := h; rfl
  · obtain ⟨J, c, rfl, hJ, hc, q⟩ := h
    refine ss_nms nDrawn (defScope sDrawn) scDrawn.nd rfl rfl fun nm => ?_
    have n0 := nm.nm (i := 0) (x := "_law_jar_here") (by decide +kernel)
    have n1 := nm.nm (i := 1) (x := "_law_found") (by decide +kernel)
    have n2 := nm.nm (i := 2) (x := "_law_halt") (by decide +kernel)
    have n4 := nm.nm (i := 4) (x := "_law_gap") (by decide +kernel)
    have t2 := nm.st (i := 2) (x := "_law_halt") (by decide +kernel)
    have t3 := nm.st (i := 3) (x := "_law_turn") (by decide +kernel)
    have t4 := nm.st (i := 4) (x := "_law_gap") (by decide +kernel)
    walk_at "st"
    refine s_par 1 2 rfl nm.nd rfl rfl (by decide) rfl rfl (by rfl) ?_
    walk_at "run"
    refine ⟨Nat.zero_le _, fun F0 nF _ => ?_⟩
    have x0 : ExJ J H (upd H F0 (.lst [])) := ExJ.of (Ex.new nF)
    have nFJ : F0 ≠ J := hJ.ne nF
    walk_at "run"
    refine w_call cT hr (by decide) rfl ?_
    walk_at "run"
    refine ⟨J, c, 3, rfl, hJ.ex (Ex.new nF), by omega, by decide, by decide, fun h0 H1 b0 b1 e1 j1 => ?_⟩
    walk_at "run"
    refine ⟨_, _, rfl, ?_⟩
    walk_at "run"
    refine s_for PassesOwn.never rfl (i_rng rfl T.range ?_)
    walk_at "run"
    refine w_call cT hr (by decide) rfl ?_
    walk_at "run"
    refine ⟨J, _, 10, rfl, j1, by omega, by decide, by decide, fun tn H2 b2 b3 e2 j2 => ?_⟩
    walk_at "run"
    refine ⟨by omega, by omega, ?_⟩
    refine for_range (n := tn.toNat) (fun i σ H' => ∃ (ha : Int) (xs : List V) (ds : List PyData) (y3 y4 : Option V), σ = [some (.ref J), some (.ref F0), some (.int ha), y3, y4] ∧ ExJ J H H' ∧ JarAt H' J (c + 2 + 5 * i) ∧ H' F0 = some (.lst xs) ∧
      Dqs (del (del H' J) F0) xs ds ∧ Szs (2 ^ 50) 1 (4 * i) ds ∧ ds.length = i ∧ -1 ≤ ha ∧ ha ≤ 2 + 1000000000001 * i) ?_ ?_ ?_
    · refine ⟨_, [], [], none, none, rfl, (x0.trans e1).trans e2, j2, ?_, .nil, Szs.nil, rfl, by omega, by omega⟩
      exact e2.get nFJ (e1.get nFJ upd_same)
    · rintro i σ H3 hi ⟨ha, xs, ds, y3, y4, rfl, x3, j3, hF3, hx, hz, hl, a0, a1⟩
      have i9 : i ≤ 8 := by omega
      walk_at "run"
      refine w_call cO hr (by decide) rfl ?_
      walk_at "run"
      refine w_call cT hr (by decide) rfl ?_
      walk_at "run"
      refine ⟨J, _, 9, rfl, j3, by omega, by decide, by decide, fun z1 H4 z0 z2 e4 j4 => ?_⟩
      walk_at "run"
      refine b_pow pw12 ?_
      walk_at "run"
      refine ⟨by show 5 ≤ sizeLine; decide, fun p np _ => ?_⟩
      walk_at "run"
      refine ⟨J, p, _, _, rfl, j4.ex (Ex.new np), by omega, j4.ne np, upd_same, by show 1 ≤ 5; decide, by show 5 ≤ 1000; decide, fun i1 v1 H5 hv1 e5 j5 => ?_⟩
      obtain ⟨s1, rfl, s10, s11⟩ := one_of5 (lo := 0) (hi := 1000000000000) hv1 (by decide) (by decide) (by decide) (by omega) (by decide)
      have x5 : ExJ J H3 H5 := (e4.trans (ExJ.of (Ex.new np))).trans e5
      walk_at "run"
      refine w_call cO hr (by decide) rfl ?_
      walk_at "run"
      refine b_pow pw6 ?_
      walk_at "run"
      refine w_call cT hr (by decide) rfl ?_
      walk_at "run"
      refine ⟨J, _, 99, rfl, j5, by omega, by decide, by decide, fun z3 H6 z4 z5 e6 j6 => ?_⟩
      walk_at "run"
      refine ⟨by show 5 ≤ sizeLine; decide, fun p2 np2 _ => ?_⟩
      walk_at "run"
      refine ⟨J, p2, _, _, rfl, j6.ex (Ex.new np2), by omega, j6.ne np2, upd_same, by show 1 ≤ 5; decide, by show 5 ≤ 1000; decide, fun i2 v2 H7 hv2 e7 j7 => ?_⟩
      obtain ⟨g2, rfl, g20, g21⟩ := one_of5 (lo := 0) (hi := 1000000) hv2 (by decide) (by decide) (by decide) (by decide) (by omega)
      have x7 : ExJ J H3 H7 := x5.trans ((e6.trans (ExJ.of (Ex.new np2))).trans e7)
      walk_at "run"
      refine ⟨F0, xs, rfl, x7.get nFJ hF3, ?_⟩
      walk_at "run"
      refine w_call cT hr (by decide) rfl ?_
      walk_at "run"
      refine ⟨J, _, 2, rfl, j7, by omega, by decide, by decide, fun z6 H8 z7 z8 e8 j8 => ?_⟩
      walk_at "run"
      refine ⟨by show 3 ≤ sizeLine; decide, fun p3 np3 => ?_⟩
      have x8 : ExJ J H3 H8 := x7.trans e8
      have hF8 : H8 F0 = some (.lst xs) := x8.get nFJ hF3
      have p3F : p3 ≠ F0 := (ne_of_none hF8 np3).symm
      have p3J : p3 ≠ J := j8.ne np3
      have lx : xs.length ≤ 8 := by rw [hx.length, hl]; exact i9
      refine ⟨xs, by rw [upd_ne p3F.symm]; exact hF8, by have e : sizeLine = 16777216 := rfl; omega, ?_⟩
      have eD : del (del (upd (upd H8 p3 (.tup [.int (ha + 1 + s1), .int g2, .bl (decide (z6 = 1))])) F0 (.lst (xs ++ [.ref p3]))) J) F0 = upd (del (del H8 J) F0) p3 (.tup [.int (ha + 1 + s1), .int g2, .bl (decide (z6 = 1))]) := by
        rw [del_upd_ne nFJ, del_upd, del_upd_ne p3J, del_upd_ne p3F]
      refine ⟨ha + 1 + s1, xs ++ [.ref p3], ds ++ [.tuple [.int (ha + 1 + s1), .int g2, .bool (decide (z6 = 1))]], _, _, rfl, ?_, ?_, upd_same, ?_, ?_, ?_, by omega, by omega⟩
      · have x9 : ExJ J H (upd H8 p3 (.tup [.int (ha + 1 + s1), .int g2, .bl (decide (z6 = 1))])) := (x3.trans x8).trans (ExJ.of (Ex.new np3))
        show Ex _ (del (upd (upd H8 p3 _) F0 _) J)
        rw [del_upd_ne nFJ]
        exact Ex.put x9 (by rw [del_ne nFJ]; exact nF)
      · exact ((j8.ex (Ex.new np3)).put nFJ).mono (by omega)
      · rw [eD]
        have e38 : Ex (del (del H3 J) F0) (del (del H8 J) F0) := Ex.del x8
        have n3 : del (del H8 J) F0 p3 = none := by rw [del_ne p3F, del_ne p3J]; exact np3
        refine (hx.ex (e38.trans (Ex.new n3))).append (.cons (.tup upd_same (.cons (.int _) (.cons (.int _) (.cons (.bl _) .nil)))) .nil)
      · refine (hz.append (Szs.cons (m := 3) (m' := 0) (Sz.tup (Szs.cons (m := 0) (m' := 2) ⟨?_, Nat.le_refl _, Nat.le_refl _⟩ (Szs.cons (m := 0) (m' := 1) ⟨?_, Nat.le_refl _, Nat.le_refl _⟩ (Szs.cons (m := 0) (m' := 0) ⟨rfl, Nat.le_refl _, Nat.le_refl _⟩ Szs.nil)))) Szs.nil)).mono (Nat.le_refl _) (Nat.le_refl _) (by omega)
        · exact decide_eq_true (by omega)
        · exact decide_eq_true (by omega)
      · rw [List.length_append, hl]; rfl
    · rintro σ H3 ⟨ha, xs, ds, y3, y4, rfl, x3, j3, hF3, hx, hz, hl, a0, a1⟩
      walk_at "run"
      refine c_tupl (sq_l hF3) fun p np => ?_
      have pJ : p ≠ J := j3.ne np
      refine q p _ ds (x3.trans (ExJ.of (Ex.new np))) ((j3.ex (Ex.new np)).mono (by omega)) ?_ ((Sz.tup hz).mono (Nat.le_refl _) (by decide) (by omega))
      rw [del_upd_ne pJ]
      refine .tup upd_same (hx.ex ?_)
      exact del_ex.trans (Ex.new (by rw [del_ne pJ]; exact np))
end
end K67

end Part_F67
section Part_H67
set_option maxRecDepth 100000
set_option maxHeartbeats 4000000
set_option hygiene false in
local macro_rules | `(tactic| walk_at "go") => `(tactic| first
  | (with_reducible refine ss_nil ?_)
  | (with_reducible refine ss_one ?_)
  | (with_reducible refine ss_cons ?_)
  | (with_reducible refine s_if ?_)
  | (with_reducible refine s_ret ?_)
  | (with_reducible refine t_not ?_)
  | (with_reducible refine t_and ?_)
  | (with_reducible refine t_or ?_)
  | (with_reducible refine ww_and1 ?_)
  | (with_reducible refine ww_or1 ?_)
  | (with_reducible refine ww_and ?_)
  | (with_reducible refine ww_or ?_)
  | (with_reducible refine w_int ?_)
  | (with_reducible refine w_str ?_)
  | (with_reducible refine w_bl ?_)
  | (with_reducible refine w_non ?_)
  | (with_reducible refine w_one ?_)
  | (with_reducible refine w_and ?_)
  | (with_reducible refine w_or ?_)
  | (with_reducible refine w_not ?_)
  | (with_reducible refine w_op ?_)
  | (with_reducible refine w_un ?_)
  | (with_reducible refine w_ife ?_)
  | (with_reducible refine w_tup ?_)
  | (with_reducible refine w_lst3 ?_)
  | (with_reducible refine wa_nil ?_)
  | (with_reducible refine b_add ?_)
  | (with_reducible refine b_sub ?_)
  | (with_reducible refine b_lt ?_)
  | (with_reducible refine b_le ?_)
  | (with_reducible refine b_gt ?_)
  | (with_reducible refine b_ge ?_)
  | (with_reducible refine b_eqi ?_)
  | (with_reducible refine b_nei ?_)
  | (with_reducible refine b_eqs ?_)
  | (with_reducible refine b_nes ?_)
  | (with_reducible refine u_neg ?_)
  | (with_reducible refine c_int ?_)
  | (with_reducible refine c_intb ?_)
  | (with_reducible refine c_abs ?_)
  | (with_reducible refine iteT ?_)
  | (with_reducible refine iteF ?_)
  | (with_reducible refine iteNF ?_)
  | (with_reducible refine iteNT ?_)
  | (with_reducible refine gs_nil ?_)
  | (with_reducible refine wk_nil ?_)
  | (with_reducible refine wk_cons ?_)
  | ((with_reducible refine wa_cons ?_ ?hs); (case hs => rfl))
  | ((with_reducible refine gs_cons ?_ ?hs); (case hs => rfl))
  | ((with_reducible refine s_expr ?_ ?hs); (case hs => rfl))
  | (with_reducible refine t_cmp rfl ?_)
  | (with_reducible refine w_cmp rfl ?_)
  | (with_reducible refine ⟨_, rfl, ?_⟩)
  | ((with_reducible show G.wE _ (PySem.Expr.Name _ _) _ _ _); first | ((with_reducible refine' w_nm n0 ?hs ?_); (case hs => rfl)) | ((with_reducible refine' w_nm n1 ?hs ?_); (case hs => rfl)) | ((with_reducible refine' w_nm n2 ?hs ?_); (case hs => rfl)) | ((with_reducible refine' w_nm n3 ?hs ?_); (case hs => rfl)) | ((with_reducible refine' w_nm n4 ?hs ?_); (case hs => rfl)) | ((with_reducible refine' w_nm n5 ?hs ?_); (case hs => rfl)) | ((with_reducible refine' w_nm n6 ?hs ?_); (case hs => rfl)) | ((with_reducible refine' w_nm n7 ?hs ?_); (case hs => rfl)) | ((with_reducible refine' w_nm n8 ?hs ?_); (case hs => rfl)) | ((with_reducible refine' w_nm n9 ?hs ?_); (case hs => rfl)) | ((with_reducible refine' w_nm n10 ?hs ?_); (case hs => rfl)) | ((with_reducible refine' w_nm n11 ?hs ?_); (case hs => rfl)))
  | ((with_reducible show G.wG _ (PySem.Expr.Name _ _) _ _ _ _); first | (with_reducible refine g_st nm.nd t0 ?_) | (with_reducible refine g_st nm.nd t1 ?_) | (with_reducible refine g_st nm.nd t2 ?_) | (with_reducible refine g_st nm.nd t3 ?_) | (with_reducible refine g_st nm.nd t4 ?_) | (with_reducible refine g_st nm.nd t5 ?_) | (with_reducible refine g_st nm.nd t6 ?_) | (with_reducible refine g_st nm.nd t7 ?_) | (with_reducible refine g_st nm.nd t8 ?_) | (with_reducible refine g_st nm.nd t9 ?_) | (with_reducible refine g_st nm.nd t10 ?_) | (with_reducible refine g_st nm.nd t11 ?_))
  | ((with_reducible show G.wS _ (PySem.Stmt.Assign [PySem.Expr.Name _ _] _ _) _ _ _); first | ((with_reducible refine s_st nm.nd t0 ?_ ?hs); (case hs => rfl)) | ((with_reducible refine s_st nm.nd t1 ?_ ?hs); (case hs => rfl)) | ((with_reducible refine s_st nm.nd t2 ?_ ?hs); (case hs => rfl)) | ((with_reducible refine s_st nm.nd t3 ?_ ?hs); (case hs => rfl)) | ((with_reducible refine s_st nm.nd t4 ?_ ?hs); (case hs => rfl)) | ((with_reducible refine s_st nm.nd t5 ?_ ?hs); (case hs => rfl)) | ((with_reducible refine s_st nm.nd t6 ?_ ?hs); (case hs => rfl)) | ((with_reducible refine s_st nm.nd t7 ?_ ?hs); (case hs => rfl)) | ((with_reducible refine s_st nm.nd t8 ?_ ?hs); (case hs => rfl)) | ((with_reducible refine s_st nm.nd t9 ?_ ?hs); (case hs => rfl)) | ((with_reducible refine s_st nm.nd t10 ?_ ?hs); (case hs => rfl)) | ((with_reducible refine s_st nm.nd t11 ?_ ?hs); (case hs => rfl)))
  | ((with_reducible show G.wE _ (PySem.Expr.Subscript _ _ _) _ _ _); (refine w_ix (fun _ _ => rfl) ?_))
  | ((with_reducible show G.wE _ (PySem.Expr.Call (PySem.Expr.Attribute _ "append" _) _ _ _) _ _ _); (refine w_app ?_))
  | ((with_reducible show G.wE _ (PySem.Expr.Call (PySem.Expr.Name "int" _) _ _ _) _ _ _); (refine w_callT (T := "int") rfl T.int G.bt_int ?_))
  | ((with_reducible show G.wE _ (PySem.Expr.Call (PySem.Expr.Name "len" _) _ _ _) _ _ _); (refine w_callB (id := "len") rfl T.len G.bt_len ?_))
  | ((with_reducible show G.wE _ (PySem.Expr.Call (PySem.Expr.Name "abs" _) _ _ _) _ _ _); (refine w_callB (id := "abs") rfl T.abs G.bt_abs ?_))
  | ((with_reducible show G.wE _ (PySem.Expr.Call (PySem.Expr.Name "repr" _) _ _ _) _ _ _); (refine w_callB (id := "repr") rfl T.repr G.bt_repr ?_))
  | ((with_reducible show G.wE _ (PySem.Expr.Call (PySem.Expr.Name "tuple" _) _ _ _) _ _ _); (refine w_callT (T := "tuple") rfl T.tuple G.bt_tuple ?_))
  | ((with_reducible show G.wE _ (PySem.Expr.Call (PySem.Expr.Name "list" _) _ _ _) _ _ _); (refine w_callT (T := "list") rfl T.list G.bt_list ?_))
  | ((with_reducible show G.wE _ (PySem.Expr.Call (PySem.Expr.Name "str" _) _ _ _) _ _ _); (refine w_callT (T := "str") rfl T.str G.bt_str ?_))
  | ((with_reducible show G.wE _ (PySem.Expr.Call (PySem.Expr.Name "max" _) _ _ _) _ _ _); (refine w_callB (id := "max") rfl T.max G.bt_max ?_))
  | ((with_reducible show G.wE _ (PySem.Expr.Call (PySem.Expr.Name "min" _) _ _ _) _ _ _); (refine w_callB (id := "min") rfl T.min G.bt_min ?_))
  | ((with_reducible show G.wE _ (PySem.Expr.Call (PySem.Expr.Name "all" _) _ _ _) _ _ _); (refine w_callB (id := "all") rfl T.all G.bt_all ?_)))
set_option hygiene false in
local macro_rules | `(tactic| walk_at "st") => `(tactic| first | refine ss_one ?_ | refine ss_cons ?_)
set_option hygiene false in
local macro_rules | `(tactic| walk_at "run") => `(tactic| repeat (walk_at "go"))
set_option hygiene false in
local macro_rules | `(tactic| walk_at "de") => `(tactic| repeat (with_reducible first
  | exact da_nil | exact de_non | exact de_bl | exact de_int | exact de_str | exact de_neg | exact de_dict0
  | ((refine da_cons ?_ ?_ ?hs); (case hs => (with_unfolding_all rfl)))
  | ((refine de_tup ?_ ?hz); (case hz => (simp; done)))
  | ((refine de_lst ?_ ?hz); (case hz => (simp; done)))))
namespace K67
open PySem PySem.Spec PyProof.Rows L2 G
/-! ### _law_is_schedule -/
def lawStep (last : Int) : PyData → Option Int
  | .tuple [.int h, .int g, .bool _] => if h ≤ last then none else if 1 ≤ g ∧ g ≤ 1000000 then some h else none
  | _ => none
def lawGo (last : Int) : List PyData → Bool
  | [] => true
  | d :: r => match lawStep last d with
    | some h => lawGo h r
    | none => false
def lawIs : PyData → Bool
  | .tuple ds => lawGo (-1) ds
  | _ => false
def firstOver (last : Int) : List PyData → Bool
  | [] => true
  | d :: _ => decide (last < halt d)
theorem step_iff (last : Int) (hl : -1 ≤ last) (d : PyData) : lawStep last d = if isTriple d && decide (last < halt d) then some (halt d) else none := by
  cases ht : isTriple d with
  | true =>
    obtain ⟨a, b, c, rfl⟩ := tri_shape ht
    rw [tri_yes] at ht
    simp [isInt, isBoo] at ht
    show (if a ≤ last then none else if 1 ≤ b ∧ b ≤ 1000000 then some a else none) = _
    by_cases h1 : a ≤ last
    · rw [if_pos h1]
      have : decide (last < halt (.tuple [.int a, .int b, .bool c])) = false := decide_eq_false (by show ¬ last < a; omega)
      rw [this]
      rfl
    · rw [if_neg h1, if_pos ht.2]
      have : decide (last < halt (.tuple [.int a, .int b, .bool c])) = true := decide_eq_true (by show last < a; omega)
      rw [this]
      rfl
  | false =>
    rw [Bool.false_and]
    show lawStep last d = none
    unfold lawStep
    split
    · rename_i h g b
      by_cases h1 : h ≤ last
      · rw [if_pos h1]
      · rw [if_neg h1]
        by_cases h2 : 1 ≤ g ∧ g ≤ 1000000
        · exfalso
          rw [tri_yes] at ht
          simp [isInt, isBoo] at ht
          omega
        · rw [if_neg h2]
    · rfl
theorem tri_halt {d : PyData} (h : isTriple d = true) : 0 ≤ halt d := by
  obtain ⟨a, b, c, rfl⟩ := tri_shape h
  rw [tri_yes] at h
  simp [isInt, isBoo] at h
  exact h.1
theorem go_eq (ds : List PyData) : ∀ last : Int, -1 ≤ last → lawGo last ds = (ds.all isTriple && rising ds && firstOver last ds) := by
  induction ds with
  | nil => intro _ _; rfl
  | cons d r ih =>
    intro last hl
    show (match lawStep last d with | some h => lawGo h r | none => false) = _
    rw [step_iff last hl d]
    cases ht : isTriple d with
    | false => rw [List.all_cons, ht]; rfl
    | true =>
      have h0 := tri_halt ht
      rw [List.all_cons, ht]
      by_cases h1 : last < halt d
      · have e1 : decide (last < halt d) = true := decide_eq_true h1
        rw [e1]
        show lawGo (halt d) r = _
        rw [ih (halt d) (by omega)]
        have e2 : firstOver last (d :: r) = true := e1
        rw [e2, Bool.and_true, Bool.true_and]
        cases r with
        | nil => rfl
        | cons b r =>
          show (_ && rising (b :: r) && decide (halt d < halt b)) = (_ && (decide (halt d < halt b) && rising (b :: r)))
          rw [Bool.and_assoc, Bool.and_comm (rising (b :: r))]
      · have e1 : decide (last < halt d) = false := decide_eq_false h1
        rw [e1]
        have e2 : firstOver last (d :: r) = false := e1
        rw [e2, Bool.and_false, Bool.and_false]
        rfl
theorem is_same (d : PyData) : lawIs d = isSched d := by
  cases d with
  | tuple ds =>
    show lawGo (-1) ds = (ds.all isTriple && rising ds)
    rw [go_eq ds (-1) (by decide)]
    cases ds with
    | nil => rfl
    | cons d r =>
      cases ht : isTriple d with
      | false => rw [List.all_cons, ht]; rfl
      | true =>
        have h0 := tri_halt ht
        have : firstOver (-1) (d :: r) = true := decide_eq_true (by omega)
        rw [this, Bool.and_true]
  | _ => rfl
section
variable {P : Program} {w : World} {K : PySem.W.Frag} {mg : Str → Option Value} {base : Heap} {k : Nat} {f : Addr} {fd : FuncData}
abbrev nIs : List Str := ["_law_thing", "_law_last", "_law_part", "_law_one"]
theorem scIs : FnScope nIs ["_law_thing"] (defScope sIs) := ⟨rfl, rfl, rfl, by decide +kernel, rfl, by decide +kernel, by decide +kernel⟩
theorem ok_is (F : Fun K "_law_is_schedule" "_law_is_schedule" sIs f fd) (T : Txt mg) : FnG P w K mg base CX0 1 f fd ["_law_thing"] (spD lawIs) := by
  refine fnG0 F scIs (fun vs H Q E h => ?_) (fun cdv A outer s H vs Q E hr h => ?_)
  · obtain ⟨v, d, rfl, _⟩ := h; rfl
  · obtain ⟨v, d, rfl, hd, q⟩ := h
    refine ss_nms nIs (defScope sIs) scIs.nd rfl rfl fun nm => ?_
    have n0 := nm.nm (i := 0) (x := "_law_thing") (by decide +kernel)
    have n1 := nm.nm (i := 1) (x := "_law_last") (by decide +kernel)
    have n2 := nm.nm (i := 2) (x := "_law_part") (by decide +kernel)
    have t1 := nm.st (i := 1) (x := "_law_last") (by decide +kernel)
    have t2 := nm.st (i := 2) (x := "_law_part") (by decide +kernel)
    walk_at "st"; walk_at "run"
    refine t_val (w_isT rfl T.isi rfl T.tuple ?_)
    walk_at "run"
    refine ⟨d, hd, _, rfl, ?_⟩
    refine ite_b (fun h1 => ?_) (fun h1 => ?_)
    · walk_at "run"
      have e : lawIs d = false := by
        cases d with
        | tuple ds => cases h1
        | _ => rfl
      rw [← e]
      exact q H Ex.refl
    · obtain ⟨ds, rfl⟩ : ∃ ds, d = .tuple ds := by
        cases d with
        | tuple ds => exact ⟨ds, rfl⟩
        | _ => cases h1
      cases hd with
      | @tup a xs _ ha hx =>
      walk_at "run"
      refine s_for PassesOwn.never rfl (i_tup ?_)
      walk_at "run"
      refine ⟨⟨xs, sq_t ha⟩, ?_⟩
      refine for_tup (xs := xs) (fun i σ H' => ∃ (la : Int) (y2 y3 : Option V), σ = [some (.ref a), some (.int la), y2, y3] ∧ Ex H H' ∧ -1 ≤ la ∧ lawGo (-1) ds = lawGo la (ds.drop i)) ?_ ?_ ?_ ?_
      · exact ⟨_, none, none, rfl, Ex.refl, by decide, rfl⟩
      · rintro i σ H' _ ⟨_, _, _, _, e, _⟩
        exact sq_t (e a _ ha)
      · rintro i v σ H' hv ⟨la, y2, y3, rfl, e1, l0, hgo⟩
        obtain ⟨d, hd, dq⟩ := hx.get hv
        have hdr : ds.drop i = d :: ds.drop (i + 1) := by
          obtain ⟨hi, rfl⟩ := List.getElem?_eq_some_iff.mp hd
          exact List.drop_eq_getElem_cons hi
        rw [hdr] at hgo
        have hgo : lawGo (-1) ds = match lawStep la d with | some h => lawGo h (ds.drop (i + 1)) | none => false := hgo
        have no : ∀ H'', Ex H' H'' → lawStep la d = none → Q (.bl false) H'' := fun H'' e z => by
          rw [z] at hgo
          have := q H'' (e1.trans e)
          rw [show lawIs (.tuple ds) = false from hgo] at this
          exact this
        have dq1 := dq.ex e1
        walk_at "run"
        refine t_val (w_isT rfl T.isi rfl T.tuple ?_)
        walk_at "run"
        refine ⟨d, dq1, _, rfl, ite_b (fun h2 => ?_) (fun h2 => ?_)⟩
        · walk_at "run"
          refine no H' Ex.refl ?_
          cases d with
          | tuple ds => cases h2
          | _ => rfl
        · obtain ⟨es, rfl⟩ : ∃ es, d = .tuple es := by
            cases d with
            | tuple es => exact ⟨es, rfl⟩
            | _ => cases h2
          cases dq1 with
          | @tup b ys _ hb hy =>
          walk_at "run"
          refine c_lent (sq_t hb) ?_
          walk_at "run"
          refine ite_b (fun h3 => ?_) (fun h3 => ?_)
          · walk_at "run"
            refine no H' Ex.refl ?_
            have : es.length ≠ 3 := by
              intro z
              rw [hy.length, z] at h3
              simp at h3
            rw [step_iff la l0, tri_no this]
            rfl
          · have e3 : es.length = 3 := by
              rw [hy.length] at h3
              simp at h3
              omega
            obtain ⟨a0, b0, c0, rfl⟩ : ∃ a b c, es = [a, b, c] := by
              match es, e3 with
              | [a, b, c], _ => exact ⟨a, b, c, rfl⟩
            cases hy with
            | @cons va _ _ _ da hy => cases hy with
              | @cons vb _ _ _ db hy => cases hy with
                | @cons vc _ _ _ dc hy =>
                  cases hy
                  walk_at "run"
                  refine t_val (w_isB rfl T.isi rfl T.bool ?_)
                  walk_at "run"
                  refine x_tup (sq_t hb) (v := vc) (atI_nat (j := 2) rfl) ⟨c0, dc, _, rfl, ?_⟩
                  refine ite_b (fun h4 => ?_) (fun h4 => ?_)
                  · walk_at "run"
                    refine no H' Ex.refl ?_
                    rw [step_iff la l0, tri_yes, show isBoo c0 = false by simpa using h4]
                    simp
                  · have i3 : isBoo c0 = true := by simpa using h4
                    walk_at "run"
                    refine t_val (w_allT [("_law_one", 3)] isInt rfl T.all rfl nm.nd (blkOk_by (N := nIs) (sc := defScope sIs) (by decide +kernel)) (w_slt ?_))
                    walk_at "go"
                    refine o_none (o_some ?_)
                    walk_at "go"
                    refine ⟨2, rfl, slt_any (sq_t hb) fun p H2 e2 hp => ?_⟩
                    refine ⟨p, [va, vb], [a0, b0], rfl, hp, .cons (da.ex e2) (.cons (db.ex e2) .nil), fun v d H3 e3 dq hm => ?_, fun H3 e3 => ⟨_, rfl, ?_⟩⟩
                    · intro s0 H0 C cl fp
                      refine g_name 3 nm.nd rfl (.inl rfl) ⟨rfl, ?_⟩
                      intro s0 H0 C cl fp
                      have e := isInt_eq d
                      refine w_and (w_isI rfl T.isi rfl T.int (w_v 3 rfl (.inl rfl) rfl ⟨d, dq, _, rfl, ite_b (fun h5 => w_one (w_not (w_isB rfl T.isi rfl T.bool (w_v 3 rfl (.inl rfl) rfl ⟨d, dq, _, rfl, ?_⟩)))) (fun h5 => ?_)⟩))
                      · rw [h5, Bool.true_and] at e
                        rw [e]
                        exact ⟨rfl, Ex.refl⟩
                      · rw [h5, Bool.false_and] at e
                        rw [e]
                        exact ⟨rfl, Ex.refl⟩
                    · have e13 : Ex H' H3 := e2.trans e3
                      have eAll : [a0, b0].all isInt = (isInt a0 && isInt b0) := by simp
                      rw [eAll]
                      refine ite_b (fun h5 => ?_) (fun h5 => ?_)
                      · walk_at "run"
                        refine no H3 e13 ?_
                        have : (isInt a0 && isInt b0) = false := by rw [Bool.not_eq_true'] at h5; exact h5
                        rw [step_iff la l0, tri_yes, this]
                        rfl
                      · have i12 : (isInt a0 && isInt b0) = true := by
                          cases hh : (isInt a0 && isInt b0) with
                          | true => rfl
                          | false => rw [hh] at h5; cases h5
                        rw [Bool.and_eq_true] at i12
                        obtain ⟨h0, rfl⟩ : ∃ h, a0 = .int h := by
                          cases a0 with
                          | int h => exact ⟨h, rfl⟩
                          | _ => cases i12.1
                        obtain ⟨g0, rfl⟩ : ∃ h, b0 = .int h := by
                          cases b0 with
                          | int h => exact ⟨h, rfl⟩
                          | _ => cases i12.2
                        obtain ⟨c1, rfl⟩ : ∃ h, c0 = .bool h := by
                          cases c0 with
                          | bool h => exact ⟨h, rfl⟩
                          | _ => cases i3
                        cases da
                        cases db
                        have hb3 := e13 b _ hb
                        have stp : lawStep la (.tuple [.int h0, .int g0, .bool c1]) = if h0 ≤ la then none else if 1 ≤ g0 ∧ g0 ≤ 1000000 then some h0 else none := rfl
                        rw [stp] at no hgo
                        walk_at "run"
                        refine x_tup (sq_t hb3) (v := .int h0) (atI_nat (j := 0) rfl) ?_
                        walk_at "run"
                        refine ite_b (fun h6 => ?_) (fun h6 => ?_)
                        · walk_at "run"
                          exact no H3 e13 (if_pos (of_decide_eq_true h6))
                        · have h6' : ¬ h0 ≤ la := of_decide_eq_false h6
                          rw [if_neg h6'] at no hgo
                          walk_at "run"
                          refine t_chain ?_
                          walk_at "run"
                          refine x_tup (sq_t hb3) (v := .int g0) (atI_nat (j := 1) rfl) ?_
                          walk_at "run"
                          refine ite_b (fun h7 => ?_) (fun h7 => ?_)
                          · walk_at "run"
                            refine b_pow pw6 ?_
                            walk_at "run"
                            refine ite_b (fun h8 => ?_) (fun h8 => ?_)
                            · walk_at "run"
                              refine no H3 e13 (if_neg ?_)
                              have : ¬ g0 ≤ (10 : Int) ^ (6 : Int).toNat := by simpa using h8
                              intro z
                              exact this (by simpa using z.2)
                            · walk_at "run"
                              have z : g0 ≤ (10 : Int) ^ (6 : Int).toNat := by simpa using h8
                              refine x_tup (sq_t hb3) (v := .int h0) (atI_nat (j := 0) rfl) ?_
                              walk_at "run"
                              refine ⟨h0, _, _, rfl, e1.trans e13, by omega, ?_⟩
                              have z2 : g0 ≤ 1000000 := by simpa using z
                              rw [if_pos ⟨of_decide_eq_true h7, z2⟩] at hgo
                              exact hgo
                          · walk_at "run"
                            refine no H3 e13 (if_neg ?_)
                            have := of_decide_eq_false h7
                            omega
      · rintro σ H' ⟨la, y2, y3, rfl, e1, l0, hgo⟩
        walk_at "run"
        have : lawIs (.tuple ds) = true := by
          show lawGo (-1) ds = true
          rw [hgo, hx.length, List.drop_length]
          rfl
        rw [← this]
        exact q H' e1
end
end K67

end Part_H67
section Part_I67
set_option maxRecDepth 100000
set_option maxHeartbeats 4000000
set_option hygiene false in
local macro_rules | `(tactic| walk_at "go") => `(tactic| first
  | (with_reducible refine ss_nil ?_)
  | (with_reducible refine ss_one ?_)
  | (with_reducible refine ss_cons ?_)
  | (with_reducible refine s_if ?_)
  | (with_reducible refine s_ret ?_)
  | (with_reducible refine t_not ?_)
  | (with_reducible refine t_and ?_)
  | (with_reducible refine t_or ?_)
  | (with_reducible refine ww_and1 ?_)
  | (with_reducible refine ww_or1 ?_)
  | (with_reducible refine ww_and ?_)
  | (with_reducible refine ww_or ?_)
  | (with_reducible refine w_int ?_)
  | (with_reducible refine w_str ?_)
  | (with_reducible refine w_bl ?_)
  | (with_reducible refine w_non ?_)
  | (with_reducible refine w_one ?_)
  | (with_reducible refine w_and ?_)
  | (with_reducible refine w_or ?_)
  | (with_reducible refine w_not ?_)
  | (with_reducible refine w_op ?_)
  | (with_reducible refine w_un ?_)
  | (with_reducible refine w_ife ?_)
  | (with_reducible refine w_tup ?_)
  | (with_reducible refine w_lst3 ?_)
  | (with_reducible refine wa_nil ?_)
  | (with_reducible refine b_add ?_)
  | (with_reducible refine b_sub ?_)
  | (with_reducible refine b_lt ?_)
  | (with_reducible refine b_le ?_)
  | (with_reducible refine b_gt ?_)
  | (with_reducible refine b_ge ?_)
  | (with_reducible refine b_eqi ?_)
  | (with_reducible refine b_nei ?_)
  | (with_reducible refine b_eqs ?_)
  | (with_reducible refine b_nes ?_)
  | (with_reducible refine u_neg ?_)
  | (with_reducible refine c_int ?_)
  | (with_reducible refine c_intb ?_)
  | (with_reducible refine c_abs ?_)
  | (with_reducible refine iteT ?_)
  | (with_reducible refine iteF ?_)
  | (with_reducible refine iteNF ?_)
  | (with_reducible refine iteNT ?_)
  | (with_reducible refine gs_nil ?_)
  | (with_reducible refine wk_nil ?_)
  | (with_reducible refine wk_cons ?_)
  | ((with_reducible refine wa_cons ?_ ?hs); (case hs => rfl))
  | ((with_reducible refine gs_cons ?_ ?hs); (case hs => rfl))
  | ((with_reducible refine s_expr ?_ ?hs); (case hs => rfl))
  | (with_reducible refine t_cmp rfl ?_)
  | (with_reducible refine w_cmp rfl ?_)
  | (with_reducible refine ⟨_, rfl, ?_⟩)
  | ((with_reducible show G.wE _ (PySem.Expr.Name _ _) _ _ _); first | ((with_reducible refine' w_nm n0 ?hs ?_); (case hs => rfl)) | ((with_reducible refine' w_nm n1 ?hs ?_); (case hs => rfl)) | ((with_reducible refine' w_nm n2 ?hs ?_); (case hs => rfl)) | ((with_reducible refine' w_nm n3 ?hs ?_); (case hs => rfl)) | ((with_reducible refine' w_nm n4 ?hs ?_); (case hs => rfl)) | ((with_reducible refine' w_nm n5 ?hs ?_); (case hs => rfl)) | ((with_reducible refine' w_nm n6 ?hs ?_); (case hs => rfl)) | ((with_reducible refine' w_nm n7 ?hs ?_); (case hs => rfl)) | ((with_reducible refine' w_nm n8 ?hs ?_); (case hs => rfl)) | ((with_reducible refine' w_nm n9 ?hs ?_); (case hs => rfl)) | ((with_reducible refine' w_nm n10 ?hs ?_); (case hs => rfl)) | ((with_reducible refine' w_nm n11 ?hs ?_); (case hs => rfl)))
  | ((with_reducible show G.wG _ (PySem.Expr.Name _ _) _ _ _ _); first | (with_reducible refine g_st nm.nd t0 ?_) | (with_reducible refine g_st nm.nd t1 ?_) | (with_reducible refine g_st nm.nd t2 ?_) | (with_reducible refine g_st nm.nd t3 ?_) | (with_reducible refine g_st nm.nd t4 ?_) | (with_reducible refine g_st nm.nd t5 ?_) | (with_reducible refine g_st nm.nd t6 ?_) | (with_reducible refine g_st nm.nd t7 ?_) | (with_reducible refine g_st nm.nd t8 ?_) | (with_reducible refine g_st nm.nd t9 ?_) | (with_reducible refine g_st nm.nd t10 ?_) | (with_reducible refine g_st nm.nd t11 ?_))
  | ((with_reducible show G.wS _ (PySem.Stmt.Assign [PySem.Expr.Name _ _] _ _) _ _ _); first | ((with_reducible refine s_st nm.nd t0 ?_ ?hs); (case hs => rfl)) | ((with_reducible refine s_st nm.nd t1 ?_ ?hs); (case hs => rfl)) | ((with_reducible refine s_st nm.nd t2 ?_ ?hs); (case hs => rfl)) | ((with_reducible refine s_st nm.nd t3 ?_ ?hs); (case hs => rfl)) | ((with_reducible refine s_st nm.nd t4 ?_ ?hs); (case hs => rfl)) | ((with_reducible refine s_st nm.nd t5 ?_ ?hs); (case hs => rfl)) | ((with_reducible refine s_st nm.nd t6 ?_ ?hs); (case hs => rfl)) | ((with_reducible refine s_st nm.nd t7 ?_ ?hs); (case hs => rfl)) | ((with_reducible refine s_st nm.nd t8 ?_ ?hs); (case hs => rfl)) | ((with_reducible refine s_st nm.nd t9 ?_ ?hs); (case hs => rfl)) | ((with_reducible refine s_st nm.nd t10 ?_ ?hs); (case hs => rfl)) | ((with_reducible refine s_st nm.nd t11 ?_ ?hs); (case hs => rfl)))
  | ((with_reducible show G.wE _ (PySem.Expr.Subscript _ _ _) _ _ _); (refine w_ix (fun _ _ => rfl) ?_))
  | ((with_reducible show G.wE _ (PySem.Expr.Call (PySem.Expr.Attribute _ "append" _) _ _ _) _ _ _); (refine w_app ?_))
  | ((with_reducible show G.wE _ (PySem.Expr.Call (PySem.Expr.Name "int" _) _ _ _) _ _ _); (refine w_callT (T := "int") rfl T.int G.bt_int ?_))
  | ((with_reducible show G.wE _ (PySem.Expr.Call (PySem.Expr.Name "len" _) _ _ _) _ _ _); (refine w_callB (id := "len") rfl T.len G.bt_len ?_))
  | ((with_reducible show G.wE _ (PySem.Expr.Call (PySem.Expr.Name "abs" _) _ _ _) _ _ _); (refine w_callB (id := "abs") rfl T.abs G.bt_abs ?_))
  | ((with_reducible show G.wE _ (PySem.Expr.Call (PySem.Expr.Name "repr" _) _ _ _) _ _ _); (refine w_callB (id := "repr") rfl T.repr G.bt_repr ?_))
  | ((with_reducible show G.wE _ (PySem.Expr.Call (PySem.Expr.Name "tuple" _) _ _ _) _ _ _); (refine w_callT (T := "tuple") rfl T.tuple G.bt_tuple ?_))
  | ((with_reducible show G.wE _ (PySem.Expr.Call (PySem.Expr.Name "list" _) _ _ _) _ _ _); (refine w_callT (T := "list") rfl T.list G.bt_list ?_))
  | ((with_reducible show G.wE _ (PySem.Expr.Call (PySem.Expr.Name "str" _) _ _ _) _ _ _); (refine w_callT (T := "str") rfl T.str G.bt_str ?_))
  | ((with_reducible show G.wE _ (PySem.Expr.Call (PySem.Expr.Name "max" _) _ _ _) _ _ _); (refine w_callB (id := "max") rfl T.max G.bt_max ?_))
  | ((with_reducible show G.wE _ (PySem.Expr.Call (PySem.Expr.Name "min" _) _ _ _) _ _ _); (refine w_callB (id := "min") rfl T.min G.bt_min ?_))
  | ((with_reducible show G.wE _ (PySem.Expr.Call (PySem.Expr.Name "all" _) _ _ _) _ _ _); (refine w_callB (id := "all") rfl T.all G.bt_all ?_)))
set_option hygiene false in
local macro_rules | `(tactic| walk_at "gox") => `(tactic| first
  | (with_reducible refine ss_nil ?_)
  | (with_reducible refine ss_one ?_)
  | (with_reducible refine ss_cons ?_)
  | (with_reducible refine s_if ?_)
  | (with_reducible refine s_ret ?_)
  | (with_reducible refine t_not ?_)
  | (with_reducible refine t_and ?_)
  | (with_reducible refine t_or ?_)
  | (with_reducible refine ww_and1 ?_)
  | (with_reducible refine ww_or1 ?_)
  | (with_reducible refine ww_and ?_)
  | (with_reducible refine ww_or ?_)
  | (with_reducible refine w_int ?_)
  | (with_reducible refine w_str ?_)
  | (with_reducible refine w_bl ?_)
  | (with_reducible refine w_non ?_)
  | (with_reducible refine w_one ?_)
  | (with_reducible refine w_and ?_)
  | (with_reducible refine w_or ?_)
  | (with_reducible refine w_not ?_)
  | (with_reducible refine w_op ?_)
  | (with_reducible refine w_un ?_)
  | (with_reducible refine w_ife ?_)
  | (with_reducible refine wa_nil ?_)
  | (with_reducible refine b_add ?_)
  | (with_reducible refine b_sub ?_)
  | (with_reducible refine b_lt ?_)
  | (with_reducible refine b_le ?_)
  | (with_reducible refine b_gt ?_)
  | (with_reducible refine b_ge ?_)
  | (with_reducible refine b_eqi ?_)
  | (with_reducible refine b_nei ?_)
  | (with_reducible refine b_eqs ?_)
  | (with_reducible refine b_nes ?_)
  | (with_reducible refine u_neg ?_)
  | (with_reducible refine c_int ?_)
  | (with_reducible refine c_intb ?_)
  | (with_reducible refine c_abs ?_)
  | (with_reducible refine iteT ?_)
  | (with_reducible refine iteF ?_)
  | (with_reducible refine iteNF ?_)
  | (with_reducible refine iteNT ?_)
  | (with_reducible refine gs_nil ?_)
  | (with_reducible refine wk_nil ?_)
  | (with_reducible refine wk_cons ?_)
  | ((with_reducible refine wa_cons ?_ ?hs); (case hs => rfl))
  | ((with_reducible refine gs_cons ?_ ?hs); (case hs => rfl))
  | ((with_reducible refine s_expr ?_ ?hs); (case hs => rfl))
  | (with_reducible refine t_cmp rfl ?_)
  | (with_reducible refine w_cmp rfl ?_)
  | (with_reducible refine ⟨_, rfl, ?_⟩)
  | ((with_reducible show G.wE _ (PySem.Expr.Name _ _) _ _ _); first | ((with_reducible refine' w_nm n0 ?hs ?_); (case hs => rfl)) | ((with_reducible refine' w_nm n1 ?hs ?_); (case hs => rfl)) | ((with_reducible refine' w_nm n2 ?hs ?_); (case hs => rfl)) | ((with_reducible refine' w_nm n3 ?hs ?_); (case hs => rfl)) | ((with_reducible refine' w_nm n4 ?hs ?_); (case hs => rfl)) | ((with_reducible refine' w_nm n5 ?hs ?_); (case hs => rfl)) | ((with_reducible refine' w_nm n6 ?hs ?_); (case hs => rfl)) | ((with_reducible refine' w_nm n7 ?hs ?_); (case hs => rfl)) | ((with_reducible refine' w_nm n8 ?hs ?_); (case hs => rfl)) | ((with_reducible refine' w_nm n9 ?hs ?_); (case hs => rfl)) | ((with_reducible refine' w_nm n10 ?hs ?_); (case hs => rfl)) | ((with_reducible refine' w_nm n11 ?hs ?_); (case hs => rfl)))
  | ((with_reducible show G.wG _ (PySem.Expr.Name _ _) _ _ _ _); first | (with_reducible refine g_st nm.nd t0 ?_) | (with_reducible refine g_st nm.nd t1 ?_) | (with_reducible refine g_st nm.nd t2 ?_) | (with_reducible refine g_st nm.nd t3 ?_) | (with_reducible refine g_st nm.nd t4 ?_) | (with_reducible refine g_st nm.nd t5 ?_) | (with_reducible refine g_st nm.nd t6 ?_) | (with_reducible refine g_st nm.nd t7 ?_) | (with_reducible refine g_st nm.nd t8 ?_) | (with_reducible refine g_st nm.nd t9 ?_) | (with_reducible refine g_st nm.nd t10 ?_) | (with_reducible refine g_st nm.nd t11 ?_))
  | ((with_reducible show G.wS _ (PySem.Stmt.Assign [PySem.Expr.Name _ _] _ _) _ _ _); first | ((with_reducible refine s_st nm.nd t0 ?_ ?hs); (case hs => rfl)) | ((with_reducible refine s_st nm.nd t1 ?_ ?hs); (case hs => rfl)) | ((with_reducible refine s_st nm.nd t2 ?_ ?hs); (case hs => rfl)) | ((with_reducible refine s_st nm.nd t3 ?_ ?hs); (case hs => rfl)) | ((with_reducible refine s_st nm.nd t4 ?_ ?hs); (case hs => rfl)) | ((with_reducible refine s_st nm.nd t5 ?_ ?hs); (case hs => rfl)) | ((with_reducible refine s_st nm.nd t6 ?_ ?hs); (case hs => rfl)) | ((with_reducible refine s_st nm.nd t7 ?_ ?hs); (case hs => rfl)) | ((with_reducible refine s_st nm.nd t8 ?_ ?hs); (case hs => rfl)) | ((with_reducible refine s_st nm.nd t9 ?_ ?hs); (case hs => rfl)) | ((with_reducible refine s_st nm.nd t10 ?_ ?hs); (case hs => rfl)) | ((with_reducible refine s_st nm.nd t11 ?_ ?hs); (case hs => rfl)))
  | ((with_reducible show G.wE _ (PySem.Expr.Subscript _ _ _) _ _ _); (refine w_ix (fun _ _ => rfl) ?_))
  | ((with_reducible show G.wE _ (PySem.Expr.Call (PySem.Expr.Attribute _ "append" _) _ _ _) _ _ _); (refine w_app ?_))
  | ((with_reducible show G.wE _ (PySem.Expr.Call (PySem.Expr.Name "int" _) _ _ _) _ _ _); (refine w_callT (T := "int") rfl T.int G.bt_int ?_))
  | ((with_reducible show G.wE _ (PySem.Expr.Call (PySem.Expr.Name "len" _) _ _ _) _ _ _); (refine w_callB (id := "len") rfl T.len G.bt_len ?_))
  | ((with_reducible show G.wE _ (PySem.Expr.Call (PySem.Expr.Name "abs" _) _ _ _) _ _ _); (refine w_callB (id := "abs") rfl T.abs G.bt_abs ?_))
  | ((with_reducible show G.wE _ (PySem.Expr.Call (PySem.Expr.Name "repr" _) _ _ _) _ _ _); (refine w_callB (id := "repr") rfl T.repr G.bt_repr ?_))
  | ((with_reducible show G.wE _ (PySem.Expr.Call (PySem.Expr.Name "tuple" _) _ _ _) _ _ _); (refine w_callT (T := "tuple") rfl T.tuple G.bt_tuple ?_))
  | ((with_reducible show G.wE _ (PySem.Expr.Call (PySem.Expr.Name "list" _) _ _ _) _ _ _); (refine w_callT (T := "list") rfl T.list G.bt_list ?_))
  | ((with_reducible show G.wE _ (PySem.Expr.Call (PySem.Expr.Name "str" _) _ _ _) _ _ _); (refine w_callT (T := "str") rfl T.str G.bt_str ?_))
  | ((with_reducible show G.wE _ (PySem.Expr.Call (PySem.Expr.Name "max" _) _ _ _) _ _ _); (refine w_callB (id := "max") rfl T.max G.bt_max ?_))
  | ((with_reducible show G.wE _ (PySem.Expr.Call (PySem.Expr.Name "min" _) _ _ _) _ _ _); (refine w_callB (id := "min") rfl T.min G.bt_min ?_))
  | ((with_reducible show G.wE _ (PySem.Expr.Call (PySem.Expr.Name "all" _) _ _ _) _ _ _); (refine w_callB (id := "all") rfl T.all G.bt_all ?_)))
set_option hygiene false in
local macro_rules | `(tactic| walk_at "st") => `(tactic| first | refine ss_one ?_ | refine ss_cons ?_)
set_option hygiene false in
local macro_rules | `(tactic| walk_at "run") => `(tactic| repeat (walk_at "go"))
set_option hygiene false in
local macro_rules | `(tactic| walk_at "de") => `(tactic| repeat (with_reducible first
  | exact da_nil | exact de_non | exact de_bl | exact de_int | exact de_str | exact de_neg | exact de_dict0
  | ((refine da_cons ?_ ?_ ?hs); (case hs => (with_unfolding_all rfl)))
  | ((refine de_tup ?_ ?hz); (case hz => (simp; done)))
  | ((refine de_lst ?_ ?hz); (case hz => (simp; done)))))
set_option hygiene false in
local macro_rules | `(tactic| walk_at "rux") => `(tactic| repeat (walk_at "gox"))
namespace K67
open PySem PySem.Spec PyProof.Rows L2 G
/-! ### _law_odd -/
theorem JarAt.nn {H : Hp} {J : Addr} {c : Nat} (h : JarAt H J c) : H J ≠ none := by
  obtain ⟨o, s, z, h1, r⟩ := h
  rw [h1]
  exact fun z => nomatch z
def spOdd : Sp := fun vs H Q _ => ∃ (J : Addr) (c : Nat), vs = [.ref J] ∧ JarAt H J c ∧ c < 800000 ∧
  ∀ (v : V) (H' : Hp) (d : PyData), ExJ J H H' → JarAt H' J (c + 20) → Dq (del H' J) v d → Sz (2 ^ 50) 11 60 d → Q v H'
/-- a draw from a row of data -/
def Datas (H : Hp) (J L : Addr) (n m : Nat) : Prop := ∃ xs ds, H L = some (.lst xs) ∧ L ≠ J ∧ Dqs (del (del H J) L) xs ds ∧ (∀ d ∈ ds, Sz (2 ^ 50) n m d) ∧ 1 ≤ ds.length ∧ ds.length ≤ 1000
section
variable {P : Program} {w : World} {K : PySem.W.Frag} {mg : Str → Option Value} {base : Heap} {k : Nat} {f : Addr} {fd : FuncData}
abbrev nOdd : List Str := ["_law_jar_here", "_law_some", "_law_found", "_law_turn"]
theorem scOdd : FnScope nOdd ["_law_jar_here"] (defScope sOdd) := ⟨rfl, rfl, rfl, by decide +kernel, rfl, by decide +kernel, by decide +kernel⟩
abbrev odds : List PyData := [.none, .bool true, .bool false, .int 0, .int 1, .int (-1), .int 1000000, .int 1000001, .str "", .str "1", .tuple [], .tuple [.int 0], .tuple [.int 0, .int 1], .tuple [.int 0, .int 1, .bool true], .list [], .dict []]
theorem b_1e6 {X : Cx} {H : Hp} {Q : VK} (q : Q (.int 1000000) H) : wB X (binaryOp .Pow) (.int 10) (.int 6) H Q := b_pow pw6 (by
  have e : (10 : Int) ^ (6 : Int).toNat = 1000000 := by decide
  rw [e]
  exact q)
theorem odd_sz (d : PyData) (h : d ∈ odds ++ [PyData.list [.tuple [.int 0, .int 1, .bool true]]]) : Sz (2 ^ 50) 2 10 d := by
  have all : (odds ++ [PyData.list [.tuple [.int 0, .int 1, .bool true]]]).all (fun d => smD (2 ^ 50) d && decide (d.depth ≤ 2) && decide (d.bulk ≤ 10)) = true := by decide +kernel
  have z := List.all_eq_true.mp all d h
  simp only [Bool.and_eq_true, decide_eq_true_eq] at z
  exact ⟨z.1.1, z.1.2, z.2⟩
theorem turns_of {i : Nat} {v : V} (h : [V.int 0, .int 0, .int 0, .int 1, .int 2, .int 9][i]? = some v) : ∃ n, v = .int n ∧ 0 ≤ n ∧ n ≤ 9 := by
  match i, h with
  | 0, h => cases h; exact ⟨_, rfl, by decide⟩
  | 1, h => cases h; exact ⟨_, rfl, by decide⟩
  | 2, h => cases h; exact ⟨_, rfl, by decide⟩
  | 3, h => cases h; exact ⟨_, rfl, by decide⟩
  | 4, h => cases h; exact ⟨_, rfl, by decide⟩
  | 5, h => cases h; exact ⟨_, rfl, by decide⟩
  | n + 6, h => simp at h
theorem atom_sz {n : Nat} {d : PyData} (h : d = .int 1 ∨ d = .bool false ∨ d = .str "a") : Sz (2 ^ 50) n 1 d := by
  rcases h with rfl | rfl | rfl
  · exact ⟨by decide, Nat.zero_le _, Nat.zero_le _⟩
  · exact ⟨by decide, Nat.zero_le _, Nat.zero_le _⟩
  · exact ⟨by decide +kernel, Nat.zero_le _, by decide +kernel⟩
theorem wrap_sz {n m i : Nat} {d d2 : PyData} (s : Sz (2 ^ 50) n m d) (h : [PyData.tuple [d], .list [d], .dict [(.str "a", d)], .tuple [d, .int 1, .bool false], .tuple [.int 1, d]][i]? = some d2) : Sz (2 ^ 50) (n + 1) (m + 5) d2 := by
  match i, h with
  | 0, h => cases h; exact (Sz.tup (Szs.cons s Szs.nil)).mono (Nat.le_refl _) (Nat.le_refl _) (by omega)
  | 1, h => cases h; exact (Sz.lst (Szs.cons s Szs.nil)).mono (Nat.le_refl _) (Nat.le_refl _) (by omega)
  | 2, h =>
    cases h
    refine ⟨?_, ?_, ?_⟩
    · show (smD (2 ^ 50) (.str "a") && smD (2 ^ 50) d && true) = true
      rw [s.sm, (atom_sz (n := 0) (.inr (.inr rfl))).sm]
      rfl
    · show max (max 0 d.depth) 0 + 1 ≤ n + 1
      have := s.dp
      omega
    · show (PyData.str "a").bulk + d.bulk + 2 + 0 ≤ m + 5
      have e : (PyData.str "a").bulk = 1 := by decide +kernel
      have := s.bk
      omega
  | 3, h => cases h; exact (Sz.tup (Szs.cons s (Szs.cons (atom_sz (.inl rfl)) (Szs.cons (atom_sz (.inr (.inl rfl))) Szs.nil)))).mono (Nat.le_refl _) (Nat.le_refl _) (by omega)
  | 4, h => cases h; exact (Sz.tup (Szs.cons (atom_sz (.inl rfl)) (Szs.cons s Szs.nil))).mono (Nat.le_refl _) (Nat.le_refl _) (by omega)
  | n + 5, h => simp at h
theorem ok_odd (F : Fun K "_law_odd" "_law_odd" sOdd f fd) (T : Txt mg) (cO : CalG P w K mg base 2 "_law_of" ["_law_jar_here", "_law_some"] spOf) : FnG P w K mg base CX0 3 f fd ["_law_jar_here"] spOdd := by
  refine fnG0 F scOdd (fun vs H Q E h => ?_) (fun cdv A outer s H vs Q E hr h => ?_)
  · obtain ⟨J, c, rfl, _⟩ := h; rfl
  · obtain ⟨J, c, rfl, hJ, hc, q⟩ := h
    refine ss_nms nOdd (defScope sOdd) scOdd.nd rfl rfl fun nm => ?_
    have n0 := nm.nm (i := 0) (x := "_law_jar_here") (by decide +kernel)
    have n1 := nm.nm (i := 1) (x := "_law_some") (by decide +kernel)
    have n2 := nm.nm (i := 2) (x := "_law_found") (by decide +kernel)
    have t1 := nm.st (i := 1) (x := "_law_some") (by decide +kernel)
    have t2 := nm.st (i := 2) (x := "_law_found") (by decide +kernel)
    have t3 := nm.st (i := 3) (x := "_law_turn") (by decide +kernel)
    walk_at "st"
    refine s_st nm.nd t1 ?_ rfl
    refine w_lstD (J := J) odds ?_ (by decide) hJ.nn fun L vs H1 e1 dv nL l3 => ?_
    · walk_at "de"
      · exact de_iv fun H1 Q1 _ k => w_op (w_int (w_int (b_1e6 k)))
      walk_at "de"
      · exact de_iv fun H1 Q1 _ k => w_op (w_op (w_int (w_int (b_1e6 (w_int (b_add k))))))
      walk_at "de"
    have nLJ : L ≠ J := (hJ.ex e1).ne nL
    have j1 : JarAt (upd H1 L (.lst vs)) J c := (hJ.ex e1).put nLJ
    walk_at "run"
    refine w_call cO hr (by decide) rfl ?_
    walk_at "rux"
    refine w_lstD (J := J) [.list [.tuple [.int 0, .int 1, .bool true]]] ?_ (by decide) j1.nn fun L2 vs2 H2 e2 dv2 nL2 _ => ?_
    · walk_at "de"
    have nL2J : L2 ≠ J := (j1.ex e2).ne nL2
    have hL2 : H2 L = some (.lst vs) := e2 L _ upd_same
    have nLL : L ≠ L2 := ne_of_none hL2 nL2
    refine b_catl (by rw [upd_ne nLL]; exact hL2) upd_same (by rw [dv.length, dv2.length]; decide) fun L3 nL3 => ?_
    have j2 : JarAt (upd H2 L2 (.lst vs2)) J c := (j1.ex e2).put nL2J
    have nL3J : L3 ≠ J := j2.ne nL3
    have x12 : ExJ J H1 (upd H2 L2 (.lst vs2)) := (ExJ.of ((Ex.new nL).trans (e2.trans (Ex.new nL2))))
    have dAll : Dqs (del (upd H2 L2 (.lst vs2)) J) (vs ++ vs2) (odds ++ [.list [.tuple [.int 0, .int 1, .bool true]]]) := (dv.ex x12).append (dv2.ex (Ex.del (Ex.new nL2)))
    have x3 : ExJ J (upd H2 L2 (.lst vs2)) (upd (upd H2 L2 (.lst vs2)) L3 (.lst (vs ++ vs2))) := ExJ.of (Ex.new nL3)
    walk_at "run"
    refine ⟨J, L3, c, _, rfl, j2.put nL3J, by omega, nL3J, upd_same, by rw [dAll.length]; decide, by rw [dAll.length]; decide, fun i v H4 hv x4 j4 => ?_⟩
    obtain ⟨d, hd, dq⟩ := dAll.get hv
    have dq4 := dq.ex (x3.trans x4)
    have sz : Sz (2 ^ 50) 2 10 d := odd_sz d (List.mem_of_getElem? hd)
    have xH4 : ExJ J H H4 := ((ExJ.of e1).trans x12).trans (x3.trans x4)
    walk_at "run"
    refine s_for PassesOwn.never rfl (i_rng rfl T.range ?_)
    walk_at "run"
    refine w_call cO hr (by decide) rfl ?_
    walk_at "run"
    refine ⟨by show 6 ≤ sizeLine; decide, fun p np _ => ?_⟩
    walk_at "run"
    refine ⟨J, p, _, _, rfl, j4.ex (Ex.new np), by omega, j4.ne np, upd_same, by show 1 ≤ 6; decide, by show 6 ≤ 1000; decide, fun i1 v1 H5 hv1 e5 j5 => ?_⟩
    obtain ⟨tn, rfl, tn0, tn9⟩ := turns_of hv1
    have x5 : ExJ J H4 H5 := (ExJ.of (Ex.new np)).trans e5
    walk_at "run"
    refine ⟨by omega, by omega, ?_⟩
    refine for_range (n := tn.toNat) (fun i σ H' => ∃ (y3 : Option V) (v : V) (d : PyData), σ = [some (.ref J), some (.ref L), some v, y3] ∧ ExJ J H H' ∧ JarAt H' J (c + 2 + i) ∧ Dq (del H' J) v d ∧ Sz (2 ^ 50) (2 + i) (10 + 5 * i) d) ?_ ?_ ?_
    · exact ⟨none, v, d, rfl, xH4.trans x5, j5, dq4.ex x5, sz⟩
    · rintro i σ H6 hi ⟨y3, v, d, rfl, x6, j6, dq6, sz6⟩
      have i9 : i ≤ 8 := by omega
      walk_at "run"
      refine w_call cO hr (by decide) rfl ?_
      walk_at "rux"
      refine w_lstD (J := J) [.tuple [d], .list [d], .dict [(.str "a", d)], .tuple [d, .int 1, .bool false], .tuple [.int 1, d]] ?_ (by show 5 ≤ 1000000; decide) j6.nn fun L4 vs4 H7 e7 dv4 nL4 _ => ?_
      · refine da_cons (de_tup (da_cons (de_nm n2 rfl dq6) da_nil) (by show 1 ≤ 1000000; decide)) (da_cons (de_lst (da_cons (de_nm n2 rfl dq6) da_nil) (by show 1 ≤ 1000000; decide)) (da_cons (de_dictN n2 rfl dq6) (da_cons (de_tup (da_cons (de_nm n2 rfl dq6) (da_cons de_int (da_cons de_bl da_nil))) (by show 3 ≤ 1000000; decide)) (da_cons (de_tup (da_cons de_int (da_cons (de_nm n2 rfl dq6) da_nil)) (by show 2 ≤ 1000000; decide)) da_nil))))
      walk_at "run"
      have j7 := j6.ex e7
      have nL4J : L4 ≠ J := j7.ne nL4
      refine ⟨J, L4, _, _, rfl, j7.put nL4J, by omega, nL4J, upd_same, by rw [dv4.length]; show 1 ≤ 5; decide, by rw [dv4.length]; show 5 ≤ 1000; decide, fun i2 v2 H8 hv2 x8 j8 => ?_⟩
      obtain ⟨d2, hd2, dq2⟩ := dv4.get hv2
      have x78 : ExJ J H7 H8 := (ExJ.of (Ex.new nL4)).trans x8
      refine ⟨_, v2, d2, rfl, x6.trans ((ExJ.of e7).trans x78), j8, dq2.ex x78, wrap_sz sz6 hd2⟩
    · rintro σ H6 ⟨y3, v, d, rfl, x6, j6, dq6, sz6⟩
      walk_at "run"
      exact q v H6 d x6 (j6.mono (by omega)) dq6 (sz6.mono (Nat.le_refl _) (by omega) (by omega))
end
end K67

end Part_I67
section Part_J67
set_option maxRecDepth 100000
set_option maxHeartbeats 4000000
set_option hygiene false in
local macro_rules | `(tactic| walk_at "go") => `(tactic| first
  | (with_reducible refine ss_nil ?_)
  | (with_reducible refine ss_one ?_)
  | (with_reducible refine ss_cons ?_)
  | (with_reducible refine s_if ?_)
  | (with_reducible refine s_ret ?_)
  | (with_reducible refine t_not ?_)
  | (with_reducible refine t_and ?_)
  | (with_reducible refine t_or ?_)
  | (with_reducible refine ww_and1 ?_)
  | (with_reducible refine ww_or1 ?_)
  | (with_reducible refine ww_and ?_)
  | (with_reducible refine ww_or ?_)
  | (with_reducible refine w_int ?_)
  | (with_reducible refine w_str ?_)
  | (with_reducible refine w_bl ?_)
  | (with_reducible refine w_non ?_)
  | (with_reducible refine w_one ?_)
  | (with_reducible refine w_and ?_)
  | (with_reducible refine w_or ?_)
  | (with_reducible refine w_not ?_)
  | (with_reducible refine w_op ?_)
  | (with_reducible refine w_un ?_)
  | (with_reducible refine w_ife ?_)
  | (with_reducible refine w_tup ?_)
  | (with_reducible refine w_lst3 ?_)
  | (with_reducible refine wa_nil ?_)
  | (with_reducible refine b_add ?_)
  | (with_reducible refine b_sub ?_)
  | (with_reducible refine b_lt ?_)
  | (with_reducible refine b_le ?_)
  | (with_reducible refine b_gt ?_)
  | (with_reducible refine b_ge ?_)
  | (with_reducible refine b_eqi ?_)
  | (with_reducible refine b_nei ?_)
  | (with_reducible refine b_eqs ?_)
  | (with_reducible refine b_nes ?_)
  | (with_reducible refine u_neg ?_)
  | (with_reducible refine c_int ?_)
  | (with_reducible refine c_intb ?_)
  | (with_reducible refine c_abs ?_)
  | (with_reducible refine iteT ?_)
  | (with_reducible refine iteF ?_)
  | (with_reducible refine iteNF ?_)
  | (with_reducible refine iteNT ?_)
  | (with_reducible refine gs_nil ?_)
  | (with_reducible refine wk_nil ?_)
  | (with_reducible refine wk_cons ?_)
  | ((with_reducible refine wa_cons ?_ ?hs); (case hs => rfl))
  | ((with_reducible refine gs_cons ?_ ?hs); (case hs => rfl))
  | ((with_reducible refine s_expr ?_ ?hs); (case hs => rfl))
  | (with_reducible refine t_cmp rfl ?_)
  | (with_reducible refine w_cmp rfl ?_)
  | (with_reducible refine ⟨_, rfl, ?_⟩)
  | ((with_reducible show G.wE _ (PySem.Expr.Name _ _) _ _ _); first | ((with_reducible refine' w_nm n0 ?hs ?_); (case hs => rfl)) | ((with_reducible refine' w_nm n1 ?hs ?_); (case hs => rfl)) | ((with_reducible refine' w_nm n2 ?hs ?_); (case hs => rfl)) | ((with_reducible refine' w_nm n3 ?hs ?_); (case hs => rfl)) | ((with_reducible refine' w_nm n4 ?hs ?_); (case hs => rfl)) | ((with_reducible refine' w_nm n5 ?hs ?_); (case hs => rfl)) | ((with_reducible refine' w_nm n6 ?hs ?_); (case hs => rfl)) | ((with_reducible refine' w_nm n7 ?hs ?_); (case hs => rfl)) | ((with_reducible refine' w_nm n8 ?hs ?_); (case hs => rfl)) | ((with_reducible refine' w_nm n9 ?hs ?_); (case hs => rfl)) | ((with_reducible refine' w_nm n10 ?hs ?_); (case hs => rfl)) | ((with_reducible refine' w_nm n11 ?hs ?_); (case hs => rfl)))
  | ((with_reducible show G.wG _ (PySem.Expr.Name _ _) _ _ _ _); first | (with_reducible refine g_st nm.nd t0 ?_) | (with_reducible refine g_st nm.nd t1 ?_) | (with_reducible refine g_st nm.nd t2 ?_) | (with_reducible refine g_st nm.nd t3 ?_) | (with_reducible refine g_st nm.nd t4 ?_) | (with_reducible refine g_st nm.nd t5 ?_) | (with_reducible refine g_st nm.nd t6 ?_) | (with_reducible refine g_st nm.nd t7 ?_) | (with_reducible refine g_st nm.nd t8 ?_) | (with_reducible refine g_st nm.nd t9 ?_) | (with_reducible refine g_st nm.nd t10 ?_) | (with_reducible refine g_st nm.nd t11 ?_))
  | ((with_reducible show G.wS _ (PySem.Stmt.Assign [PySem.Expr.Name _ _] _ _) _ _ _); first | ((with_reducible refine s_st nm.nd t0 ?_ ?hs); (case hs => rfl)) | ((with_reducible refine s_st nm.nd t1 ?_ ?hs); (case hs => rfl)) | ((with_reducible refine s_st nm.nd t2 ?_ ?hs); (case hs => rfl)) | ((with_reducible refine s_st nm.nd t3 ?_ ?hs); (case hs => rfl)) | ((with_reducible refine s_st nm.nd t4 ?_ ?hs); (case hs => rfl)) | ((with_reducible refine s_st nm.nd t5 ?_ ?hs); (case hs => rfl)) | ((with_reducible refine s_st nm.nd t6 ?_ ?hs); (case hs => rfl)) | ((with_reducible refine s_st nm.nd t7 ?_ ?hs); (case hs => rfl)) | ((with_reducible refine s_st nm.nd t8 ?_ ?hs); (case hs => rfl)) | ((with_reducible refine s_st nm.nd t9 ?_ ?hs); (case hs => rfl)) | ((with_reducible refine s_st nm.nd t10 ?_ ?hs); (case hs => rfl)) | ((with_reducible refine s_st nm.nd t11 ?_ ?hs); (case hs => rfl)))
  | ((with_reducible show G.wE _ (PySem.Expr.Subscript _ _ _) _ _ _); (refine w_ix (fun _ _ => rfl) ?_))
  | ((with_reducible show G.wE _ (PySem.Expr.Call (PySem.Expr.Attribute _ "append" _) _ _ _) _ _ _); (refine w_app ?_))
  | ((with_reducible show G.wE _ (PySem.Expr.Call (PySem.Expr.Name "int" _) _ _ _) _ _ _); (refine w_callT (T := "int") rfl T.int G.bt_int ?_))
  | ((with_reducible show G.wE _ (PySem.Expr.Call (PySem.Expr.Name "len" _) _ _ _) _ _ _); (refine w_callB (id := "len") rfl T.len G.bt_len ?_))
  | ((with_reducible show G.wE _ (PySem.Expr.Call (PySem.Expr.Name "abs" _) _ _ _) _ _ _); (refine w_callB (id := "abs") rfl T.abs G.bt_abs ?_))
  | ((with_reducible show G.wE _ (PySem.Expr.Call (PySem.Expr.Name "repr" _) _ _ _) _ _ _); (refine w_callB (id := "repr") rfl T.repr G.bt_repr ?_))
  | ((with_reducible show G.wE _ (PySem.Expr.Call (PySem.Expr.Name "tuple" _) _ _ _) _ _ _); (refine w_callT (T := "tuple") rfl T.tuple G.bt_tuple ?_))
  | ((with_reducible show G.wE _ (PySem.Expr.Call (PySem.Expr.Name "list" _) _ _ _) _ _ _); (refine w_callT (T := "list") rfl T.list G.bt_list ?_))
  | ((with_reducible show G.wE _ (PySem.Expr.Call (PySem.Expr.Name "str" _) _ _ _) _ _ _); (refine w_callT (T := "str") rfl T.str G.bt_str ?_))
  | ((with_reducible show G.wE _ (PySem.Expr.Call (PySem.Expr.Name "max" _) _ _ _) _ _ _); (refine w_callB (id := "max") rfl T.max G.bt_max ?_))
  | ((with_reducible show G.wE _ (PySem.Expr.Call (PySem.Expr.Name "min" _) _ _ _) _ _ _); (refine w_callB (id := "min") rfl T.min G.bt_min ?_))
  | ((with_reducible show G.wE _ (PySem.Expr.Call (PySem.Expr.Name "all" _) _ _ _) _ _ _); (refine w_callB (id := "all") rfl T.all G.bt_all ?_)))
set_option hygiene false in
local macro_rules | `(tactic| walk_at "gox") => `(tactic| first
  | (with_reducible refine ss_nil ?_)
  | (with_reducible refine ss_one ?_)
  | (with_reducible refine ss_cons ?_)
  | (with_reducible refine s_if ?_)
  | (with_reducible refine s_ret ?_)
  | (with_reducible refine t_not ?_)
  | (with_reducible refine t_and ?_)
  | (with_reducible refine t_or ?_)
  | (with_reducible refine ww_and1 ?_)
  | (with_reducible refine ww_or1 ?_)
  | (with_reducible refine ww_and ?_)
  | (with_reducible refine ww_or ?_)
  | (with_reducible refine w_int ?_)
  | (with_reducible refine w_str ?_)
  | (with_reducible refine w_bl ?_)
  | (with_reducible refine w_non ?_)
  | (with_reducible refine w_one ?_)
  | (with_reducible refine w_and ?_)
  | (with_reducible refine w_or ?_)
  | (with_reducible refine w_not ?_)
  | (with_reducible refine w_op ?_)
  | (with_reducible refine w_un ?_)
  | (with_reducible refine w_ife ?_)
  | (with_reducible refine wa_nil ?_)
  | (with_reducible refine b_add ?_)
  | (with_reducible refine b_sub ?_)
  | (with_reducible refine b_lt ?_)
  | (with_reducible refine b_le ?_)
  | (with_reducible refine b_gt ?_)
  | (with_reducible refine b_ge ?_)
  | (with_reducible refine b_eqi ?_)
  | (with_reducible refine b_nei ?_)
  | (with_reducible refine b_eqs ?_)
  | (with_reducible refine b_nes ?_)
  | (with_reducible refine u_neg ?_)
  | (with_reducible refine c_int ?_)
  | (with_reducible refine c_intb ?_)
  | (with_reducible refine c_abs ?_)
  | (with_reducible refine iteT ?_)
  | (with_reducible refine iteF ?_)
  | (with_reducible refine iteNF ?_)
  | (with_reducible refine iteNT ?_)
  | (with_reducible refine gs_nil ?_)
  | (with_reducible refine wk_nil ?_)
  | (with_reducible refine wk_cons ?_)
  | ((with_reducible refine wa_cons ?_ ?hs); (case hs => rfl))
  | ((with_reducible refine gs_cons ?_ ?hs); (case hs => rfl))
  | ((with_reducible refine s_expr ?_ ?hs); (case hs => rfl))
  | (with_reducible refine t_cmp rfl ?_)
  | (with_reducible refine w_cmp rfl ?_)
  | (with_reducible refine ⟨_, rfl, ?_⟩)
  | ((with_reducible show G.wE _ (PySem.Expr.Name _ _) _ _ _); first | ((with_reducible refine' w_nm n0 ?hs ?_); (case hs => rfl)) | ((with_reducible refine' w_nm n1 ?hs ?_); (case hs => rfl)) | ((with_reducible refine' w_nm n2 ?hs ?_); (case hs => rfl)) | ((with_reducible refine' w_nm n3 ?hs ?_); (case hs => rfl)) | ((with_reducible refine' w_nm n4 ?hs ?_); (case hs => rfl)) | ((with_reducible refine' w_nm n5 ?hs ?_); (case hs => rfl)) | ((with_reducible refine' w_nm n6 ?hs ?_); (case hs => rfl)) | ((with_reducible refine' w_nm n7 ?hs ?_); (case hs => rfl)) | ((with_reducible refine' w_nm n8 ?hs ?_); (case hs => rfl)) | ((with_reducible refine' w_nm n9 ?hs ?_); (case hs => rfl)) | ((with_reducible refine' w_nm n10 ?hs ?_); (case hs => rfl)) | ((with_reducible refine' w_nm n11 ?hs ?_); (case hs => rfl)))
  | ((with_reducible show G.wG _ (PySem.Expr.Name _ _) _ _ _ _); first | (with_reducible refine g_st nm.nd t0 ?_) | (with_reducible refine g_st nm.nd t1 ?_) | (with_reducible refine g_st nm.nd t2 ?_) | (with_reducible refine g_st nm.nd t3 ?_) | (with_reducible refine g_st nm.nd t4 ?_) | (with_reducible refine g_st nm.nd t5 ?_) | (with_reducible refine g_st nm.nd t6 ?_) | (with_reducible refine g_st nm.nd t7 ?_) | (with_reducible refine g_st nm.nd t8 ?_) | (with_reducible refine g_st nm.nd t9 ?_) | (with_reducible refine g_st nm.nd t10 ?_) | (with_reducible refine g_st nm.nd t11 ?_))
  | ((with_reducible show G.wS _ (PySem.Stmt.Assign [PySem.Expr.Name _ _] _ _) _ _ _); first | ((with_reducible refine s_st nm.nd t0 ?_ ?hs); (case hs => rfl)) | ((with_reducible refine s_st nm.nd t1 ?_ ?hs); (case hs => rfl)) | ((with_reducible refine s_st nm.nd t2 ?_ ?hs); (case hs => rfl)) | ((with_reducible refine s_st nm.nd t3 ?_ ?hs); (case hs => rfl)) | ((with_reducible refine s_st nm.nd t4 ?_ ?hs); (case hs => rfl)) | ((with_reducible refine s_st nm.nd t5 ?_ ?hs); (case hs => rfl)) | ((with_reducible refine s_st nm.nd t6 ?_ ?hs); (case hs => rfl)) | ((with_reducible refine s_st nm.nd t7 ?_ ?hs); (case hs => rfl)) | ((with_reducible refine s_st nm.nd t8 ?_ ?hs); (case hs => rfl)) | ((with_reducible refine s_st nm.nd t9 ?_ ?hs); (case hs => rfl)) | ((with_reducible refine s_st nm.nd t10 ?_ ?hs); (case hs => rfl)) | ((with_reducible refine s_st nm.nd t11 ?_ ?hs); (case hs => rfl)))
  | ((with_reducible show G.wE _ (PySem.Expr.Subscript _ _ _) _ _ _); (refine w_ix (fun _ _ => rfl) ?_))
  | ((with_reducible show G.wE _ (PySem.Expr.Call (PySem.Expr.Attribute _ "append" _) _ _ _) _ _ _); (refine w_app ?_))
  | ((with_reducible show G.wE _ (PySem.Expr.Call (PySem.Expr.Name "int" _) _ _ _) _ _ _); (refine w_callT (T := "int") rfl T.int G.bt_int ?_))
  | ((with_reducible show G.wE _ (PySem.Expr.Call (PySem.Expr.Name "len" _) _ _ _) _ _ _); (refine w_callB (id := "len") rfl T.len G.bt_len ?_))
  | ((with_reducible show G.wE _ (PySem.Expr.Call (PySem.Expr.Name "abs" _) _ _ _) _ _ _); (refine w_callB (id := "abs") rfl T.abs G.bt_abs ?_))
  | ((with_reducible show G.wE _ (PySem.Expr.Call (PySem.Expr.Name "repr" _) _ _ _) _ _ _); (refine w_callB (id := "repr") rfl T.repr G.bt_repr ?_))
  | ((with_reducible show G.wE _ (PySem.Expr.Call (PySem.Expr.Name "tuple" _) _ _ _) _ _ _); (refine w_callT (T := "tuple") rfl T.tuple G.bt_tuple ?_))
  | ((with_reducible show G.wE _ (PySem.Expr.Call (PySem.Expr.Name "list" _) _ _ _) _ _ _); (refine w_callT (T := "list") rfl T.list G.bt_list ?_))
  | ((with_reducible show G.wE _ (PySem.Expr.Call (PySem.Expr.Name "str" _) _ _ _) _ _ _); (refine w_callT (T := "str") rfl T.str G.bt_str ?_))
  | ((with_reducible show G.wE _ (PySem.Expr.Call (PySem.Expr.Name "max" _) _ _ _) _ _ _); (refine w_callB (id := "max") rfl T.max G.bt_max ?_))
  | ((with_reducible show G.wE _ (PySem.Expr.Call (PySem.Expr.Name "min" _) _ _ _) _ _ _); (refine w_callB (id := "min") rfl T.min G.bt_min ?_))
  | ((with_reducible show G.wE _ (PySem.Expr.Call (PySem.Expr.Name "all" _) _ _ _) _ _ _); (refine w_callB (id := "all") rfl T.all G.bt_all ?_)))
set_option hygiene false in
local macro_rules | `(tactic| walk_at "st") => `(tactic| first | refine ss_one ?_ | refine ss_cons ?_)
set_option hygiene false in
local macro_rules | `(tactic| walk_at "run") => `(tactic| repeat (walk_at "go"))
set_option hygiene false in
local macro_rules | `(tactic| walk_at "de") => `(tactic| repeat (with_reducible first
  | exact da_nil | exact de_non | exact de_bl | exact de_int | exact de_str | exact de_neg | exact de_dict0
  | ((refine da_cons ?_ ?_ ?hs); (case hs => (with_unfolding_all rfl)))
  | ((refine de_tup ?_ ?hz); (case hz => (simp; done)))
  | ((refine de_lst ?_ ?hz); (case hz => (simp; done)))))
set_option hygiene false in
local macro_rules | `(tactic| walk_at "rux") => `(tactic| repeat (walk_at "gox"))
namespace K67
open PySem PySem.Spec PyProof.Rows L2 G
/-! ### _law_bent -/
def spBent (n : Nat) : Sp := fun vs H Q _ => ∃ (J : Addr) (c : Nat) (v : V) (d : PyData) (B a m : Nat), vs = [.ref J, v, .int (n : Int)] ∧ JarAt H J c ∧ c + 40 * (n + 1) < 700000 ∧ Dq (del H J) v d ∧ Sz B a m d ∧ 2 ^ 50 ≤ B ∧ B < 2 ^ 60 ∧ m ≤ 900 ∧
  ∀ (v' : V) (H' : Hp) (d' : PyData), ExJ J H H' → JarAt H' J (c + 30 * (n + 1)) → Dq (del H' J) v' d' → Sz (B + 1) (a + 12) (2 * m + 80) d' → Q v' H'
section
variable {P : Program} {w : World} {K : PySem.W.Frag} {mg : Str → Option Value} {base : Heap} {k : Nat} {f : Addr} {fd : FuncData}
abbrev nBent : List Str := ["_law_jar_here", "_law_thing", "_law_deep", "_law_at"]
theorem scBent : FnScope nBent ["_law_jar_here", "_law_thing", "_law_deep"] (defScope sBent) := ⟨rfl, rfl, rfl, by decide +kernel, rfl, by decide +kernel, by decide +kernel⟩
theorem bulk_len (ds : List PyData) : ds.length ≤ PyData.bulkAll ds := by
  induction ds with
  | nil => exact Nat.le_refl _
  | cons d ds ih =>
    show ds.length + 1 ≤ d.bulk + 1 + PyData.bulkAll ds
    omega
theorem bent_step (F : Fun K "_law_bent" "_law_bent" sBent f fd) (T : Txt mg) (hm : mg "_law_bent" = some (.ref f)) (hb : Binds K fd ["_law_jar_here", "_law_thing", "_law_deep"] [])
    (cT : CalG P w K mg base 1 "_law_take" ["_law_jar_here", "_law_many"] spTake) (cO : CalG P w K mg base 2 "_law_of" ["_law_jar_here", "_law_some"] spOf) (cD : CalG P w K mg base 3 "_law_odd" ["_law_jar_here"] spOdd)
    (n : Nat) (again : ∀ j, n = j + 1 → FnG P w K mg base CX0 (4 + j) f fd ["_law_jar_here", "_law_thing", "_law_deep"] (spBent j)) :
    FnG P w K mg base CX0 (4 + n) f fd ["_law_jar_here", "_law_thing", "_law_deep"] (spBent n) := by
  have lv : 4 + n = (3 + n) + 1 := by omega
  rw [lv]
  refine fnG0 F scBent (fun vs H Q E h => ?_) (fun cdv A outer s H vs Q E hr h => ?_)
  · obtain ⟨J, c, v, d, B, a, m, rfl, _⟩ := h; rfl
  · obtain ⟨J, c, v, d, B, a, m, rfl, hJ, hc, hd, hz, hB1, hB2, hm9, q⟩ := h
    have r3 : RoomG 3 (A.deeper (envOfC "_law_bent" (defScope sBent) s.heap.objs.size f cdv)) := hr.mono (by omega)
    refine ss_nms nBent (defScope sBent) scBent.nd rfl rfl fun nm => ?_
    have n0 := nm.nm (i := 0) (x := "_law_jar_here") (by decide +kernel)
    have n1 := nm.nm (i := 1) (x := "_law_thing") (by decide +kernel)
    have n2 := nm.nm (i := 2) (x := "_law_deep") (by decide +kernel)
    have n3 := nm.nm (i := 3) (x := "_law_at") (by decide +kernel)
    have t3 := nm.st (i := 3) (x := "_law_at") (by decide +kernel)
    -- return _law_odd(jar)
    have last : ∀ (H1 : Hp) (c1 : Nat), ExJ J H H1 → JarAt H1 J c1 → c1 ≤ c + 5 → G.wSs (cxOf CX0 P w K mg base nBent "_law_bent" (defScope sBent) f cdv A outer s H E).nox ((defBody sBent).drop 3) { nx := fun _ H' => Q .non H', rt := Q } (L2.start nBent [.ref J, v, .int (n : Int)]) H1 := by
      intro H1 c1 x1 j1 l1
      walk_at "st"; walk_at "run"
      refine w_call cD r3 (by decide) rfl ?_
      walk_at "run"
      refine ⟨J, c1, rfl, j1, by omega, fun v2 H2 d2 x2 j2 dq2 sz2 => ?_⟩
      exact q v2 H2 d2 (x1.trans x2) (j2.mono (by omega)) dq2 (sz2.mono (by omega) (by omega) (by omega))
    -- an int
    have third : ∀ (H1 : Hp) (c1 : Nat), ExJ J H H1 → JarAt H1 J c1 → c1 ≤ c + 3 → G.wSs (cxOf CX0 P w K mg base nBent "_law_bent" (defScope sBent) f cdv A outer s H E).nox ((defBody sBent).drop 2) { nx := fun _ H' => Q .non H', rt := Q } (L2.start nBent [.ref J, v, .int (n : Int)]) H1 := by
      intro H1 c1 x1 j1 l1
      have hd1 := hd.ex x1
      walk_at "st"; walk_at "run"
      refine t_val (w_isI rfl T.isi rfl T.int ?_)
      walk_at "run"
      refine ⟨d, hd1.ex del_ex, _, rfl, ite_b (fun h1 => ?_) (fun h1 => ?_)⟩
      · walk_at "run"
        refine t_val (w_isB rfl T.isi rfl T.bool ?_)
        walk_at "run"
        refine ⟨d, hd1.ex del_ex, _, rfl, ite_b (fun h2 => ?_) (fun h2 => ?_)⟩
        · obtain ⟨z, rfl⟩ : ∃ z, d = .int z := by
            cases d with
            | int z => exact ⟨z, rfl⟩
            | bool b => cases h2
            | _ => cases h1
          cases hd
          have hzB : z.natAbs ≤ B := of_decide_eq_true hz.sm
          walk_at "run"
          refine w_call cT r3 (by decide) rfl ?_
          walk_at "run"
          refine ⟨J, c1, 3, rfl, j1, by omega, by decide, by decide, fun k0 H2 k1 k2 x2 j2 => ?_⟩
          walk_at "run"
          refine ite_b (fun h3 => ?_) (fun h3 => ?_)
          · walk_at "run"
            refine w_call cO r3 (by decide) rfl ?_
            walk_at "rux"
            refine w_lstD (J := J) [.int (z + 1), .int (z - 1), .int (0 - z), .str (toString z), .tuple [.int z], .bool (decide (z = 1)), .int 1000001] ?_ (by show 7 ≤ 1000000; decide) j2.nn fun L vs H3 e3 dv nL _ => ?_
            · refine da_cons (de_iv fun _ _ _ k => w_op (w_nm n1 rfl (w_int (b_add k)))) (da_cons (de_iv fun _ _ _ k => w_op (w_nm n1 rfl (w_int (b_sub k)))) (da_cons (de_iv fun _ _ _ k => w_op (w_int (w_nm n1 rfl (b_sub k)))) (da_cons (de_sv fun _ _ _ k => ?_) (da_cons (de_tup (da_cons (de_iv fun _ _ _ k => w_nm n1 rfl k) da_nil) (by show 1 ≤ 1000000; decide))
                (da_cons (de_bv fun _ _ _ k => w_cmp rfl (w_nm n1 rfl (w_int (b_eqi k)))) (da_cons (de_iv fun _ _ _ k => w_op (w_op (w_int (w_int (b_1e6 (w_int (b_add k))))))) da_nil))))))
              exact w_callT (T := "str") rfl T.str G.bt_str (wa_cons (w_nm n1 rfl (wa_nil (c_str (int_log (by omega)) k))))
            have j3 := j2.ex e3
            have nLJ : L ≠ J := j3.ne nL
            walk_at "run"
            refine ⟨J, L, _, _, rfl, j3.put nLJ, by omega, nLJ, upd_same, by rw [dv.length]; show 1 ≤ 7; decide, by rw [dv.length]; show 7 ≤ 1000; decide, fun i v2 H4 hv x4 j4 => ?_⟩
            obtain ⟨d2, hd2, dq2⟩ := dv.get hv
            have x34 : ExJ J H3 H4 := (ExJ.of (Ex.new nL)).trans x4
            refine q v2 H4 d2 (x1.trans (x2.trans ((ExJ.of e3).trans x34))) (j4.mono (by omega)) (dq2.ex x34) ?_
            match i, hd2 with
            | 0, hd2 => cases hd2; exact ⟨decide_eq_true (by omega), Nat.zero_le _, Nat.zero_le _⟩
            | 1, hd2 => cases hd2; exact ⟨decide_eq_true (by omega), Nat.zero_le _, Nat.zero_le _⟩
            | 2, hd2 => cases hd2; exact ⟨decide_eq_true (by omega), Nat.zero_le _, Nat.zero_le _⟩
            | 3, hd2 => cases hd2; exact (text_sz (by omega)).mono (Nat.le_refl _) (Nat.zero_le _) (by omega)
            | 4, hd2 => cases hd2; exact (Sz.tup (n := 0) (Szs.cons (m := 0) (show Sz (B + 1) 0 0 (.int z) from ⟨decide_eq_true (by omega), Nat.zero_le _, Nat.zero_le _⟩) Szs.nil)).mono (Nat.le_refl _) (by omega) (by omega)
            | 5, hd2 => cases hd2; exact ⟨rfl, Nat.zero_le _, Nat.zero_le _⟩
            | 6, hd2 => cases hd2; exact ⟨decide_eq_true (by show (1000001 : Nat) ≤ _; omega), Nat.zero_le _, Nat.zero_le _⟩
            | k + 7, hd2 => simp at hd2
          · walk_at "go"
            exact last H2 _ (x1.trans x2) j2 (by omega)
        · walk_at "go"; walk_at "go"
          exact last H1 c1 x1 j1 (by omega)
      · walk_at "go"; walk_at "go"
        exact last H1 c1 x1 j1 (by omega)
    -- a tuple
    have second : ∀ (H1 : Hp) (c1 : Nat), ExJ J H H1 → JarAt H1 J c1 → c1 ≤ c + 2 → G.wSs (cxOf CX0 P w K mg base nBent "_law_bent" (defScope sBent) f cdv A outer s H E).nox ((defBody sBent).drop 1) { nx := fun _ H' => Q .non H', rt := Q } (L2.start nBent [.ref J, v, .int (n : Int)]) H1 := by
      intro H1 c1 x1 j1 l1
      have hd1 := hd.ex x1
      walk_at "st"; walk_at "run"
      refine t_val (w_isT rfl T.isi rfl T.tuple ?_)
      walk_at "run"
      refine ⟨d, hd1.ex del_ex, _, rfl, ite_b (fun h1 => ?_) (fun h1 => ?_)⟩
      · obtain ⟨ds, rfl⟩ : ∃ ds, d = .tuple ds := by
          cases d with
          | tuple ds => exact ⟨ds, rfl⟩
          | _ => cases h1
        obtain ⟨a0, hzs⟩ := hz.of_tup
        have dl : ds.length ≤ 900 := Nat.le_trans (bulk_len ds) (Nat.le_trans hzs.bk hm9)
        walk_at "run"
        refine w_call cT r3 (by decide) rfl ?_
        walk_at "run"
        refine ⟨J, c1, 3, rfl, j1, by omega, by decide, by decide, fun k0 H2 k1 k2 x2 j2 => ?_⟩
        have hd2 := hd1.ex x2
        cases hd2 with
        | @tup t xs _ ht hx =>
        have lx := hx.length
        walk_at "run"
        refine ite_b (fun h3 => ?_) (fun h3 => ?_)
        · walk_at "run"
          refine w_call cO r3 (by decide) rfl ?_
          walk_at "rux"
          have sl : sizeLine = 16777216 := rfl
          refine w_lstD (J := J) [.list ds, .tuple (ds ++ cutD ds (some (-1)) none), .tuple ds.reverse, .tuple (cutD ds (some 1) none), .tuple (cutD ds none (some (-1))), .tuple [.tuple ds]] ?_ (by show 6 ≤ 1000000; decide) j2.nn fun L vs H3 e3 dv nL _ => ?_
          · refine da_cons ?_ (da_cons ?_ (da_cons ?_ (da_cons ?_ (da_cons ?_ (da_cons (de_tup (da_cons (de_nm n1 rfl (.tup ht hx)) da_nil) (by show 1 ≤ 1000000; decide)) da_nil)))))
            · intro H3 Q3 e3 nJ3 k
              refine w_callT (T := "list") rfl T.list G.bt_list (wa_cons (w_nm n1 rfl (wa_nil (c_listt (sq_t (e3 _ _ (of_del ht))) fun p np p3 => ?_))))
              refine k _ _ (Ex.new np) (.lst (new_J np nJ3) p3 (hx.ex (Ex.del (e3.trans (Ex.new np)))))
            · intro H3 Q3 e3 nJ3 k
              refine w_op (w_nm n1 rfl (w_slt (w_nm n1 rfl (o_some (w_un (w_int (u_neg ⟨_, rfl, o_none (slt_J (Ex.del e3 _ _ ht) nJ3 fun p H4 e4 hp => ?_)⟩)))))))
              refine catt_J (Ex.del (e3.trans e4) _ _ ht) hp (by have := cutV_length xs (some (-1)) none; omega) (e4.some nJ3) fun p2 H5 e5 hp2 => ?_
              exact k _ _ (e4.trans e5) (.tup hp2 ((hx.append (hx.cut _ _)).ex (Ex.del (e3.trans (e4.trans e5)))))
            · intro H3 Q3 e3 nJ3 k
              refine w_revt (w_nm n1 rfl ⟨t, xs, rfl, sq_t (e3 _ _ (of_del ht)), fun p np => ?_⟩)
              exact k _ _ (Ex.new np) (.tup (new_J np nJ3) (hx.reverse.ex (Ex.del (e3.trans (Ex.new np)))))
            · intro H3 Q3 e3 nJ3 k
              refine w_slt (w_nm n1 rfl (o_some (w_int ⟨_, rfl, o_none (slt_J (Ex.del e3 _ _ ht) nJ3 fun p H4 e4 hp => ?_)⟩)))
              exact k _ _ e4 (.tup hp ((hx.cut _ _).ex (Ex.del (e3.trans e4))))
            · intro H3 Q3 e3 nJ3 k
              refine w_slt (w_nm n1 rfl (o_none (o_some (w_un (w_int (u_neg ⟨_, rfl, slt_J (Ex.del e3 _ _ ht) nJ3 fun p H4 e4 hp => ?_⟩))))))
              exact k _ _ e4 (.tup hp ((hx.cut _ _).ex (Ex.del (e3.trans e4))))
          have j3 := j2.ex e3
          have nLJ : L ≠ J := j3.ne nL
          walk_at "run"
          refine ⟨J, L, _, _, rfl, j3.put nLJ, by omega, nLJ, upd_same, by rw [dv.length]; show 1 ≤ 6; decide, by rw [dv.length]; show 6 ≤ 1000; decide, fun i v2 H4 hv x4 j4 => ?_⟩
          obtain ⟨d2, hd2, dq2⟩ := dv.get hv
          have x34 : ExJ J H3 H4 := (ExJ.of (Ex.new nL)).trans x4
          refine q v2 H4 d2 (x1.trans (x2.trans ((ExJ.of e3).trans x34))) (j4.mono (by omega)) (dq2.ex x34) ?_
          match i, hd2 with
          | 0, hd2 => cases hd2; exact (Sz.lst hzs).mono (by omega) (by omega) (by omega)
          | 1, hd2 => cases hd2; exact (Sz.tup (hzs.append (hzs.cut _ _))).mono (by omega) (by omega) (by omega)
          | 2, hd2 => cases hd2; exact (Sz.tup hzs.rev).mono (by omega) (by omega) (by omega)
          | 3, hd2 => cases hd2; exact (Sz.tup (hzs.cut _ _)).mono (by omega) (by omega) (by omega)
          | 4, hd2 => cases hd2; exact (Sz.tup (hzs.cut _ _)).mono (by omega) (by omega) (by omega)
          | 5, hd2 => cases hd2; exact (Sz.tup (Szs.cons (Sz.tup hzs) Szs.nil)).mono (by omega) (by omega) (by omega)
          | k + 6, hd2 => simp at hd2
        · walk_at "go"
          exact third H2 _ (x1.trans x2) j2 (by omega)
      · walk_at "go"; walk_at "go"
        exact third H1 c1 x1 j1 (by omega)
    -- a part of it otherwise
    walk_at "st"; walk_at "run"
    refine ite_b (fun h0 => ?_) (fun h0 => ?_)
    · have n0' : 0 < n := by have := of_decide_eq_true h0; omega
      obtain ⟨j, rfl⟩ : ∃ j, n = j + 1 := ⟨n - 1, by omega⟩
      walk_at "run"
      refine t_val (w_isT rfl T.isi rfl T.tuple ?_)
      walk_at "run"
      refine ⟨d, hd.ex del_ex, _, rfl, ite_b (fun h1 => ?_) (fun h1 => ?_)⟩
      · obtain ⟨ds, rfl⟩ : ∃ ds, d = .tuple ds := by
          cases d with
          | tuple ds => exact ⟨ds, rfl⟩
          | _ => cases h1
        obtain ⟨a0, hzs⟩ := hz.of_tup
        have dl : ds.length ≤ 900 := Nat.le_trans (bulk_len ds) (Nat.le_trans hzs.bk hm9)
        cases hd with
        | @tup t xs _ ht hx =>
        have lx := hx.length
        walk_at "rux"
        refine w_tup (wa_nil ⟨Nat.zero_le _, fun p0 np0 => b_ne0 (sq_t (Ex.new np0 _ _ (of_del ht))) (sq_t upd_same) r3.r.units0 ⟨_, rfl, ?_⟩⟩)
        have x1 : ExJ J H (upd H p0 (.tup [])) := ExJ.of (Ex.new np0)
        have j1 : JarAt (upd H p0 (.tup [])) J c := hJ.ex (Ex.new np0)
        generalize upd H p0 (.tup []) = H1 at x1 j1 ⊢
        refine ite_b (fun h2 => ?_) (fun h2 => ?_)
        · have ds0 : 0 < ds.length := by
            cases xs with
            | nil => cases h2
            | cons _ _ => rw [← lx]; exact Nat.succ_pos _
          walk_at "run"
          refine w_call cT r3 (by decide) rfl ?_
          walk_at "run"
          refine ⟨J, c, 5, rfl, j1, by omega, by decide, by decide, fun k0 H2 k1 k2 x2 j2 => ?_⟩
          walk_at "run"
          refine ite_b (fun h3 => ?_) (fun h3 => ?_)
          · walk_at "run"
            refine w_call cT r3 (by decide) rfl ?_
            walk_at "run"
            have x12 := x1.trans x2
            refine c_lent (sq_t (of_del (x12 _ _ ht))) ?_
            walk_at "run"
            refine ⟨J, c + 1, _, rfl, j2, by omega, by omega, by omega, fun at0 H3 k3 k4 x3 j3 => ?_⟩
            obtain ⟨i, rfl⟩ : ∃ i : Nat, at0 = (i : Int) := ⟨at0.toNat, by omega⟩
            have il : i < ds.length := by omega
            have x13 := x12.trans x3
            have ht3 := x13 _ _ ht
            have hx3 := hx.ex x13
            have sub := List.getElem?_eq_getElem il
            obtain ⟨u, hu, dqu⟩ := hx3.getd sub
            have szu : Sz B (a - 1) (ds[i]).bulk ds[i] := ⟨hzs.sm _ (List.getElem_mem il), hzs.dp _ (List.getElem_mem il), Nat.le_refl _⟩
            have bku := bulk_mem (List.getElem_mem il)
            have bkz := hzs.bk
            have cB : CalG P w K mg base (4 + j) "_law_bent" ["_law_jar_here", "_law_thing", "_law_deep"] (spBent j) := ⟨f, fd, hm, F.kp, hb, again j rfl⟩
            have sl : sizeLine = 16777216 := rfl
            walk_at "rux"
            refine w_slt (w_nm n1 rfl (o_none (o_some (w_nm n3 rfl ⟨_, rfl, slt_J ht3 j3.nn fun p1 H4 e4 hp1 => ?_⟩))))
            have j4 := j3.ex e4
            refine w_tup (wa_cons (w_call cB hr (by omega) rfl ?_))
            walk_at "run"
            refine x_tup (sq_t (e4 _ _ (of_del ht3))) (atI_nat hu) ?_
            walk_at "run"
            have ed : (((j + 1 : Nat) : Int) - 1) = (j : Int) := by omega
            rw [ed]
            refine ⟨J, _, u, ds[i], B, a - 1, (ds[i]).bulk, rfl, j4, by omega, dqu.ex (Ex.del e4), szu, hB1, hB2, by omega, fun v5 H5 d5 x5 j5 dq5 sz5 => ?_⟩
            refine wa_nil ⟨by show 1 ≤ sizeLine; decide, fun p2 np2 => ?_⟩
            have hp2 : del (upd H5 p2 (.tup [v5])) J p2 = some (.tup [v5]) := new_J np2 j5.nn
            have e6 : Ex H5 (upd H5 p2 (.tup [v5])) := Ex.new np2
            have j6 := j5.ex e6
            generalize upd H5 p2 (.tup [v5]) = H6 at hp2 e6 j6 ⊢
            have x46 : ExJ J H4 H6 := x5.trans (ExJ.of e6)
            have l1 := cutV_length xs none (some (i : Int))
            refine catt_J (x46 _ _ hp1) hp2 (by show _ + 1 ≤ _; omega) j6.nn fun p3 H7 e7 hp3 => ?_
            have j7 := j6.ex e7
            refine w_slt (w_nm n1 rfl (o_some (w_op (w_nm n3 rfl (w_int (b_add ⟨_, rfl, o_none (slt_J (((ExJ.of e4).trans (x46.trans (ExJ.of e7))) _ _ ht3) j7.nn fun p4 H8 e8 hp4 => ?_)⟩))))))
            have j8 := j7.ex e8
            have l2 := cutV_length xs (some ((i : Int) + 1)) none
            refine catt_J ((Ex.del e8) _ _ hp3) hp4 (by rw [List.length_append]; show _ + 1 + _ ≤ _; omega) j8.nn fun p5 H9 e9 hp5 => ?_
            have x39 : ExJ J H3 H9 := (ExJ.of e4).trans (x46.trans ((ExJ.of e7).trans ((ExJ.of e8).trans (ExJ.of e9))))
            have x59 : ExJ J H5 H9 := (ExJ.of e6).trans ((ExJ.of e7).trans ((ExJ.of e8).trans (ExJ.of e9)))
            refine q _ H9 (.tuple ((ds.take i ++ [d5]) ++ ds.drop (i + 1))) (x13.trans x39) ((j8.ex e9).mono (by omega)) (.tup hp5 ?_) ?_
            · have c1 := hx3.cut none (some (i : Int))
              rw [cutD_to] at c1
              have c2 := hx3.cut (some ((i : Int) + 1)) none
              have ei : ((i : Int) + 1) = ((i + 1 : Nat) : Int) := by omega
              rw [ei, cutD_from, ← ei] at c2
              exact ((c1.ex x39).append (.cons (dq5.ex x59) .nil)).append (c2.ex x39)
            · have sp := bulk_split ds i
              have dr : ds.drop i = ds[i] :: ds.drop (i + 1) := List.drop_eq_getElem_cons il
              rw [dr] at sp
              have sp2 : PyData.bulkAll (ds[i] :: ds.drop (i + 1)) = ds[i].bulk + 1 + PyData.bulkAll (ds.drop (i + 1)) := rfl
              have z1 : Szs (B + 1) (a + 11) (PyData.bulkAll (ds.take i)) (ds.take i) := (hzs.sub (es := ds.take i) (fun d hd => List.mem_of_mem_take hd) (Nat.le_refl _)).mono (by omega) (by omega) (Nat.le_refl _)
              have z2 : Szs (B + 1) (a + 11) (PyData.bulkAll (ds.drop (i + 1))) (ds.drop (i + 1)) := (hzs.sub (es := ds.drop (i + 1)) (fun d hd => List.mem_of_mem_drop hd) (Nat.le_refl _)).mono (by omega) (by omega) (Nat.le_refl _)
              have z3 := sz5.mono (Nat.le_refl (B + 1)) (show a - 1 + 12 ≤ a + 11 by omega) (Nat.le_refl _)
              exact (Sz.tup ((z1.append (Szs.cons z3 Szs.nil)).append z2)).mono (by omega) (by omega) (by omega)
          · walk_at "go"
            exact second H2 _ (x1.trans x2) j2 (by omega)
        · walk_at "go"; walk_at "go"
          exact second H1 c x1 j1 (by omega)
      · walk_at "go"; walk_at "go"
        exact second H c ExJ.refl hJ (by omega)
    · walk_at "go"; walk_at "go"
      exact second H c ExJ.refl hJ (by omega)
theorem ok_bent (F : Fun K "_law_bent" "_law_bent" sBent f fd) (T : Txt mg) (hm : mg "_law_bent" = some (.ref f)) (hb : Binds K fd ["_law_jar_here", "_law_thing", "_law_deep"] [])
    (cT : CalG P w K mg base 1 "_law_take" ["_law_jar_here", "_law_many"] spTake) (cO : CalG P w K mg base 2 "_law_of" ["_law_jar_here", "_law_some"] spOf) (cD : CalG P w K mg base 3 "_law_odd" ["_law_jar_here"] spOdd) :
    ∀ n : Nat, FnG P w K mg base CX0 (4 + n) f fd ["_law_jar_here", "_law_thing", "_law_deep"] (spBent n) := by
  intro n
  induction n with
  | zero => exact bent_step F T hm hb cT cO cD 0 fun j e => (nomatch e)
  | succ n ih =>
    refine bent_step F T hm hb cT cO cD (n + 1) fun j e => ?_
    have e2 : n = j := by omega
    rw [← e2]
    exact ih
end
end K67

end Part_J67
section Part_L67
set_option maxRecDepth 100000
set_option maxHeartbeats 4000000
set_option hygiene false in
local macro_rules | `(tactic| walk_at "go") => `(tactic| first
  | (with_reducible refine ss_nil ?_)
  | (with_reducible refine ss_one ?_)
  | (with_reducible refine ss_cons ?_)
  | (with_reducible refine s_if ?_)
  | (with_reducible refine s_ret ?_)
  | (with_reducible refine t_not ?_)
  | (with_reducible refine t_and ?_)
  | (with_reducible refine t_or ?_)
  | (with_reducible refine ww_and1 ?_)
  | (with_reducible refine ww_or1 ?_)
  | (with_reducible refine ww_and ?_)
  | (with_reducible refine ww_or ?_)
  | (with_reducible refine w_int ?_)
  | (with_reducible refine w_str ?_)
  | (with_reducible refine w_bl ?_)
  | (with_reducible refine w_non ?_)
  | (with_reducible refine w_one ?_)
  | (with_reducible refine w_and ?_)
  | (with_reducible refine w_or ?_)
  | (with_reducible refine w_not ?_)
  | (with_reducible refine w_op ?_)
  | (with_reducible refine w_un ?_)
  | (with_reducible refine w_ife ?_)
  | (with_reducible refine w_tup ?_)
  | (with_reducible refine w_lst3 ?_)
  | (with_reducible refine wa_nil ?_)
  | (with_reducible refine b_add ?_)
  | (with_reducible refine b_sub ?_)
  | (with_reducible refine b_lt ?_)
  | (with_reducible refine b_le ?_)
  | (with_reducible refine b_gt ?_)
  | (with_reducible refine b_ge ?_)
  | (with_reducible refine b_eqi ?_)
  | (with_reducible refine b_nei ?_)
  | (with_reducible refine b_eqs ?_)
  | (with_reducible refine b_nes ?_)
  | (with_reducible refine u_neg ?_)
  | (with_reducible refine c_int ?_)
  | (with_reducible refine c_intb ?_)
  | (with_reducible refine c_abs ?_)
  | (with_reducible refine iteT ?_)
  | (with_reducible refine iteF ?_)
  | (with_reducible refine iteNF ?_)
  | (with_reducible refine iteNT ?_)
  | (with_reducible refine gs_nil ?_)
  | (with_reducible refine wk_nil ?_)
  | (with_reducible refine wk_cons ?_)
  | ((with_reducible refine wa_cons ?_ ?hs); (case hs => rfl))
  | ((with_reducible refine gs_cons ?_ ?hs); (case hs => rfl))
  | ((with_reducible refine s_expr ?_ ?hs); (case hs => rfl))
  | (with_reducible refine t_cmp rfl ?_)
  | (with_reducible refine w_cmp rfl ?_)
  | (with_reducible refine ⟨_, rfl, ?_⟩)
  | ((with_reducible show G.wE _ (PySem.Expr.Name _ _) _ _ _); first | ((with_reducible refine' w_nm n0 ?hs ?_); (case hs => rfl)) | ((with_reducible refine' w_nm n1 ?hs ?_); (case hs => rfl)) | ((with_reducible refine' w_nm n2 ?hs ?_); (case hs => rfl)) | ((with_reducible refine' w_nm n3 ?hs ?_); (case hs => rfl)) | ((with_reducible refine' w_nm n4 ?hs ?_); (case hs => rfl)) | ((with_reducible refine' w_nm n5 ?hs ?_); (case hs => rfl)) | ((with_reducible refine' w_nm n6 ?hs ?_); (case hs => rfl)) | ((with_reducible refine' w_nm n7 ?hs ?_); (case hs => rfl)) | ((with_reducible refine' w_nm n8 ?hs ?_); (case hs => rfl)) | ((with_reducible refine' w_nm n9 ?hs ?_); (case hs => rfl)) | ((with_reducible refine' w_nm n10 ?hs ?_); (case hs => rfl)) | ((with_reducible refine' w_nm n11 ?hs ?_); (case hs => rfl)))
  | ((with_reducible show G.wG _ (PySem.Expr.Name _ _) _ _ _ _); first | (with_reducible refine g_st nm.nd t0 ?_) | (with_reducible refine g_st nm.nd t1 ?_) | (with_reducible refine g_st nm.nd t2 ?_) | (with_reducible refine g_st nm.nd t3 ?_) | (with_reducible refine g_st nm.nd t4 ?_) | (with_reducible refine g_st nm.nd t5 ?_) | (with_reducible refine g_st nm.nd t6 ?_) | (with_reducible refine g_st nm.nd t7 ?_) | (with_reducible refine g_st nm.nd t8 ?_) | (with_reducible refine g_st nm.nd t9 ?_) | (with_reducible refine g_st nm.nd t10 ?_) | (with_reducible refine g_st nm.nd t11 ?_))
  | ((with_reducible show G.wS _ (PySem.Stmt.Assign [PySem.Expr.Name _ _] _ _) _ _ _); first | ((with_reducible refine s_st nm.nd t0 ?_ ?hs); (case hs => rfl)) | ((with_reducible refine s_st nm.nd t1 ?_ ?hs); (case hs => rfl)) | ((with_reducible refine s_st nm.nd t2 ?_ ?hs); (case hs => rfl)) | ((with_reducible refine s_st nm.nd t3 ?_ ?hs); (case hs => rfl)) | ((with_reducible refine s_st nm.nd t4 ?_ ?hs); (case hs => rfl)) | ((with_reducible refine s_st nm.nd t5 ?_ ?hs); (case hs => rfl)) | ((with_reducible refine s_st nm.nd t6 ?_ ?hs); (case hs => rfl)) | ((with_reducible refine s_st nm.nd t7 ?_ ?hs); (case hs => rfl)) | ((with_reducible refine s_st nm.nd t8 ?_ ?hs); (case hs => rfl)) | ((with_reducible refine s_st nm.nd t9 ?_ ?hs); (case hs => rfl)) | ((with_reducible refine s_st nm.nd t10 ?_ ?hs); (case hs => rfl)) | ((with_reducible refine s_st nm.nd t11 ?_ ?hs); (case hs => rfl)))
  | ((with_reducible show G.wE _ (PySem.Expr.Subscript _ _ _) _ _ _); (refine w_ix (fun _ _ => rfl) ?_))
  | ((with_reducible show G.wE _ (PySem.Expr.Call (PySem.Expr.Attribute _ "append" _) _ _ _) _ _ _); (refine w_app ?_))
  | ((with_reducible show G.wE _ (PySem.Expr.Call (PySem.Expr.Name "int" _) _ _ _) _ _ _); (refine w_callT (T := "int") rfl T.int G.bt_int ?_))
  | ((with_reducible show G.wE _ (PySem.Expr.Call (PySem.Expr.Name "len" _) _ _ _) _ _ _); (refine w_callB (id := "len") rfl T.len G.bt_len ?_))
  | ((with_reducible show G.wE _ (PySem.Expr.Call (PySem.Expr.Name "abs" _) _ _ _) _ _ _); (refine w_callB (id := "abs") rfl T.abs G.bt_abs ?_))
  | ((with_reducible show G.wE _ (PySem.Expr.Call (PySem.Expr.Name "repr" _) _ _ _) _ _ _); (refine w_callB (id := "repr") rfl T.repr G.bt_repr ?_))
  | ((with_reducible show G.wE _ (PySem.Expr.Call (PySem.Expr.Name "tuple" _) _ _ _) _ _ _); (refine w_callT (T := "tuple") rfl T.tuple G.bt_tuple ?_))
  | ((with_reducible show G.wE _ (PySem.Expr.Call (PySem.Expr.Name "list" _) _ _ _) _ _ _); (refine w_callT (T := "list") rfl T.list G.bt_list ?_))
  | ((with_reducible show G.wE _ (PySem.Expr.Call (PySem.Expr.Name "str" _) _ _ _) _ _ _); (refine w_callT (T := "str") rfl T.str G.bt_str ?_))
  | ((with_reducible show G.wE _ (PySem.Expr.Call (PySem.Expr.Name "max" _) _ _ _) _ _ _); (refine w_callB (id := "max") rfl T.max G.bt_max ?_))
  | ((with_reducible show G.wE _ (PySem.Expr.Call (PySem.Expr.Name "min" _) _ _ _) _ _ _); (refine w_callB (id := "min") rfl T.min G.bt_min ?_))
  | ((with_reducible show G.wE _ (PySem.Expr.Call (PySem.Expr.Name "all" _) _ _ _) _ _ _); (refine w_callB (id := "all") rfl T.all G.bt_all ?_)))
set_option hygiene false in
local macro_rules | `(tactic| walk_at "gox") => `(tactic| first
  | (with_reducible refine ss_nil ?_)
  | (with_reducible refine ss_one ?_)
  | (with_reducible refine ss_cons ?_)
  | (with_reducible refine s_if ?_)
  | (with_reducible refine s_ret ?_)
  | (with_reducible refine t_not ?_)
  | (with_reducible refine t_and ?_)
  | (with_reducible refine t_or ?_)
  | (with_reducible refine ww_and1 ?_)
  | (with_reducible refine ww_or1 ?_)
  | (with_reducible refine ww_and ?_)
  | (with_reducible refine ww_or ?_)
  | (with_reducible refine w_int ?_)
  | (with_reducible refine w_str ?_)
  | (with_reducible refine w_bl ?_)
  | (with_reducible refine w_non ?_)
  | (with_reducible refine w_one ?_)
  | (with_reducible refine w_and ?_)
  | (with_reducible refine w_or ?_)
  | (with_reducible refine w_not ?_)
  | (with_reducible refine w_op ?_)
  | (with_reducible refine w_un ?_)
  | (with_reducible refine w_ife ?_)
  | (with_reducible refine wa_nil ?_)
  | (with_reducible refine b_add ?_)
  | (with_reducible refine b_sub ?_)
  | (with_reducible refine b_lt ?_)
  | (with_reducible refine b_le ?_)
  | (with_reducible refine b_gt ?_)
  | (with_reducible refine b_ge ?_)
  | (with_reducible refine b_eqi ?_)
  | (with_reducible refine b_nei ?_)
  | (with_reducible refine b_eqs ?_)
  | (with_reducible refine b_nes ?_)
  | (with_reducible refine u_neg ?_)
  | (with_reducible refine c_int ?_)
  | (with_reducible refine c_intb ?_)
  | (with_reducible refine c_abs ?_)
  | (with_reducible refine iteT ?_)
  | (with_reducible refine iteF ?_)
  | (with_reducible refine iteNF ?_)
  | (with_reducible refine iteNT ?_)
  | (with_reducible refine gs_nil ?_)
  | (with_reducible refine wk_nil ?_)
  | (with_reducible refine wk_cons ?_)
  | ((with_reducible refine wa_cons ?_ ?hs); (case hs => rfl))
  | ((with_reducible refine gs_cons ?_ ?hs); (case hs => rfl))
  | ((with_reducible refine s_expr ?_ ?hs); (case hs => rfl))
  | (with_reducible refine t_cmp rfl ?_)
  | (with_reducible refine w_cmp rfl ?_)
  | (with_reducible refine ⟨_, rfl, ?_⟩)
  | ((with_reducible show G.wE _ (PySem.Expr.Name _ _) _ _ _); first | ((with_reducible refine' w_nm n0 ?hs ?_); (case hs => rfl)) | ((with_reducible refine' w_nm n1 ?hs ?_); (case hs => rfl)) | ((with_reducible refine' w_nm n2 ?hs ?_); (case hs => rfl)) | ((with_reducible refine' w_nm n3 ?hs ?_); (case hs => rfl)) | ((with_reducible refine' w_nm n4 ?hs ?_); (case hs => rfl)) | ((with_reducible refine' w_nm n5 ?hs ?_); (case hs => rfl)) | ((with_reducible refine' w_nm n6 ?hs ?_); (case hs => rfl)) | ((with_reducible refine' w_nm n7 ?hs ?_); (case hs => rfl)) | ((with_reducible refine' w_nm n8 ?hs ?_); (case hs => rfl)) | ((with_reducible refine' w_nm n9 ?hs ?_); (case hs => rfl)) | ((with_reducible refine' w_nm n10 ?hs ?_); (case hs => rfl)) | ((with_reducible refine' w_nm n11 ?hs ?_); (case hs => rfl)))
  | ((with_reducible show G.wG _ (PySem.Expr.Name _ _) _ _ _ _); first | (with_reducible refine g_st nm.nd t0 ?_) | (with_reducible refine g_st nm.nd t1 ?_) | (with_reducible refine g_st nm.nd t2 ?_) | (with_reducible refine g_st nm.nd t3 ?_) | (with_reducible refine g_st nm.nd t4 ?_) | (with_reducible refine g_st nm.nd t5 ?_) | (with_reducible refine g_st nm.nd t6 ?_) | (with_reducible refine g_st nm.nd t7 ?_) | (with_reducible refine g_st nm.nd t8 ?_) | (with_reducible refine g_st nm.nd t9 ?_) | (with_reducible refine g_st nm.nd t10 ?_) | (with_reducible refine g_st nm.nd t11 ?_))
  | ((with_reducible show G.wS _ (PySem.Stmt.Assign [PySem.Expr.Name _ _] _ _) _ _ _); first | ((with_reducible refine s_st nm.nd t0 ?_ ?hs); (case hs => rfl)) | ((with_reducible refine s_st nm.nd t1 ?_ ?hs); (case hs => rfl)) | ((with_reducible refine s_st nm.nd t2 ?_ ?hs); (case hs => rfl)) | ((with_reducible refine s_st nm.nd t3 ?_ ?hs); (case hs => rfl)) | ((with_reducible refine s_st nm.nd t4 ?_ ?hs); (case hs => rfl)) | ((with_reducible refine s_st nm.nd t5 ?_ ?hs); (case hs => rfl)) | ((with_reducible refine s_st nm.nd t6 ?_ ?hs); (case hs => rfl)) | ((with_reducible refine s_st nm.nd t7 ?_ ?hs); (case hs => rfl)) | ((with_reducible refine s_st nm.nd t8 ?_ ?hs); (case hs => rfl)) | ((with_reducible refine s_st nm.nd t9 ?_ ?hs); (case hs => rfl)) | ((with_reducible refine s_st nm.nd t10 ?_ ?hs); (case hs => rfl)) | ((with_reducible refine s_st nm.nd t11 ?_ ?hs); (case hs => rfl)))
  | ((with_reducible show G.wE _ (PySem.Expr.Subscript _ _ _) _ _ _); (refine w_ix (fun _ _ => rfl) ?_))
  | ((with_reducible show G.wE _ (PySem.Expr.Call (PySem.Expr.Attribute _ "append" _) _ _ _) _ _ _); (refine w_app ?_))
  | ((with_reducible show G.wE _ (PySem.Expr.Call (PySem.Expr.Name "int" _) _ _ _) _ _ _); (refine w_callT (T := "int") rfl T.int G.bt_int ?_))
  | ((with_reducible show G.wE _ (PySem.Expr.Call (PySem.Expr.Name "len" _) _ _ _) _ _ _); (refine w_callB (id := "len") rfl T.len G.bt_len ?_))
  | ((with_reducible show G.wE _ (PySem.Expr.Call (PySem.Expr.Name "abs" _) _ _ _) _ _ _); (refine w_callB (id := "abs") rfl T.abs G.bt_abs ?_))
  | ((with_reducible show G.wE _ (PySem.Expr.Call (PySem.Expr.Name "repr" _) _ _ _) _ _ _); (refine w_callB (id := "repr") rfl T.repr G.bt_repr ?_))
  | ((with_reducible show G.wE _ (PySem.Expr.Call (PySem.Expr.Name "tuple" _) _ _ _) _ _ _); (refine w_callT (T := "tuple") rfl T.tuple G.bt_tuple ?_))
  | ((with_reducible show G.wE _ (PySem.Expr.Call (PySem.Expr.Name "list" _) _ _ _) _ _ _); (refine w_callT (T := "list") rfl T.list G.bt_list ?_))
  | ((with_reducible show G.wE _ (PySem.Expr.Call (PySem.Expr.Name "str" _) _ _ _) _ _ _); (refine w_callT (T := "str") rfl T.str G.bt_str ?_))
  | ((with_reducible show G.wE _ (PySem.Expr.Call (PySem.Expr.Name "max" _) _ _ _) _ _ _); (refine w_callB (id := "max") rfl T.max G.bt_max ?_))
  | ((with_reducible show G.wE _ (PySem.Expr.Call (PySem.Expr.Name "min" _) _ _ _) _ _ _); (refine w_callB (id := "min") rfl T.min G.bt_min ?_))
  | ((with_reducible show G.wE _ (PySem.Expr.Call (PySem.Expr.Name "all" _) _ _ _) _ _ _); (refine w_callB (id := "all") rfl T.all G.bt_all ?_)))
set_option hygiene false in
local macro_rules | `(tactic| walk_at "st") => `(tactic| first | refine ss_one ?_ | refine ss_cons ?_)
set_option hygiene false in
local macro_rules | `(tactic| walk_at "run") => `(tactic| repeat (walk_at "go"))
set_option hygiene false in
local macro_rules | `(tactic| walk_at "de") => `(tactic| repeat (with_reducible first
  | exact da_nil | exact de_non | exact de_bl | exact de_int | exact de_str | exact de_neg | exact de_dict0
  | ((refine da_cons ?_ ?_ ?hs); (case hs => (with_unfolding_all rfl)))
  | ((refine de_tup ?_ ?hz); (case hz => (simp; done)))
  | ((refine de_lst ?_ ?hz); (case hz => (simp; done)))))
set_option hygiene false in
local macro_rules | `(tactic| walk_at "rux") => `(tactic| repeat (walk_at "gox"))
namespace K67
open PySem PySem.Spec PyProof.Rows L2 G
/-! ### _law_right -/
def spRight : Sp := fun vs H Q _ => ∃ (J : Addr) (c : Nat), vs = [.ref J] ∧ JarAt H J c ∧ c < 100000 ∧ ∀ (H' : Hp), ExJ J H H' → JarAt H' J (c + 3200) → Q (.bl true) H'
theorem JarAt.del {H : Hp} {J L : Addr} {c : Nat} (h : JarAt H J c) (n : L ≠ J) : JarAt (del H L) J c := by
  obtain ⟨o, s, z, h1, r⟩ := h
  exact ⟨o, s, z, by rw [del_ne n.symm]; exact h1, r⟩
theorem exj_hide {J L : Addr} {H H9 H10 : Hp} {o : HO} (nL0 : G.del H J L = none) (x9 : ExJ J H H9) (x10 : ExJ J (G.del H9 L) H10) : ExJ J H (upd H10 L o) := fun a u ha => by
  have na : a ≠ L := ne_of_none ha nL0
  have h9 := x9 a u ha
  have h10 := x10 a u (by rw [← del_comm, del_ne na]; exact h9)
  obtain ⟨nJ, h10⟩ := del_some h10
  rw [del_ne nJ, upd_ne na]
  exact h10
abbrev tt (a b c : PyData) : PyData := .tuple [.tuple [a, b, c]]
abbrev menuA (ds : List PyData) : List PyData := [.tuple ds, .list ds, .tuple [], .none, tt (.int 0) (.int 1) (.bool true), tt (.int 0) (.int 0) (.bool true), tt (.int (-1)) (.int 1) (.bool false), tt (.int 0) (.int 1000000) (.bool false)]
abbrev menuB : List PyData := [tt (.int 0) (.int 1) (.int 1), tt (.bool true) (.int 1) (.bool true), tt (.int 0) (.bool true) (.bool true), .tuple [.tuple [.int 0, .int 1, .bool true], .tuple [.int 0, .int 1, .bool true]]]
theorem menuB_sz (d : PyData) (h : d ∈ menuB) : Sz (2 ^ 51) 30 500 d := by
  have all : menuB.all (fun d => smD (2 ^ 51) d && decide (d.depth ≤ 30) && decide (d.bulk ≤ 500)) = true := by decide +kernel
  have z := List.all_eq_true.mp all d h
  simp only [Bool.and_eq_true, decide_eq_true_eq] at z
  exact ⟨z.1.1, z.1.2, z.2⟩
theorem menuA_sz {ds : List PyData} (hz : Sz (2 ^ 50) 2 40 (.tuple ds)) (d : PyData) (h : d ∈ menuA ds) : Sz (2 ^ 51) 30 500 d := by
  have all : ((menuA []).drop 2).all (fun d => smD (2 ^ 51) d && decide (d.depth ≤ 30) && decide (d.bulk ≤ 500)) = true := by decide +kernel
  obtain ⟨_, hs⟩ := hz.of_tup
  rcases List.mem_cons.mp h with rfl | h
  · exact hz.mono (by decide) (by decide) (by decide)
  · rcases List.mem_cons.mp h with rfl | h
    · exact (Sz.lst hs).mono (by decide) (by decide) (by decide)
    · have z := List.all_eq_true.mp all d h
      simp only [Bool.and_eq_true, decide_eq_true_eq] at z
      exact ⟨z.1.1, z.1.2, z.2⟩
section
variable {P : Program} {w : World} {K : PySem.W.Frag} {mg : Str → Option Value} {base : Heap} {k : Nat} {f : Addr} {fd : FuncData}
abbrev nRight : List Str := ["_law_jar_here", "_law_drawn_here", "_law_some", "_law_turn", "_law_bent_here", "_law_thing", "_law_kept", "_law_due"]
theorem scRight : FnScope nRight ["_law_jar_here"] (defScope sRight) := ⟨rfl, rfl, rfl, by decide +kernel, rfl, by decide +kernel, by decide +kernel⟩
theorem ok_right (F : Fun K "_law_right" "_law_right" sRight f fd) (T : Txt mg) (cT : CalG P w K mg base 1 "_law_take" ["_law_jar_here", "_law_many"] spTake) (cD : CalG P w K mg base 3 "_law_odd" ["_law_jar_here"] spOdd)
    (cR : CalG P w K mg base 3 "_law_drawn" ["_law_jar_here"] spDrawn) (cB : CalG P w K mg base 7 "_law_bent" ["_law_jar_here", "_law_thing", "_law_deep"] (spBent 3)) (cI : CalG P w K mg base 1 "_law_is_schedule" ["_law_thing"] (spD lawIs))
    (cS : CalG P w K mg base 3 "is_schedule" ["value"] (spD isSched)) (cW : CalW P w K mg base 3 "is_schedule" ["value"] ["value"] (spD isSched)) : FnG P w K mg base CX0 8 f fd ["_law_jar_here"] spRight := by
  refine fnG0 F scRight (fun vs H Q E h => ?_) (fun cdv A outer s H vs Q E hr h => ?_)
  · obtain ⟨J, c, rfl, _⟩ := h; rfl
  · obtain ⟨J, c, rfl, hJ, hc, q⟩ := h
    refine ss_nms nRight (defScope sRight) scRight.nd rfl rfl fun nm => ?_
    have n0 := nm.nm (i := 0) (x := "_law_jar_here") (by decide +kernel)
    have n1 := nm.nm (i := 1) (x := "_law_drawn_here") (by decide +kernel)
    have n2 := nm.nm (i := 2) (x := "_law_some") (by decide +kernel)
    have n4 := nm.nm (i := 4) (x := "_law_bent_here") (by decide +kernel)
    have n5 := nm.nm (i := 5) (x := "_law_thing") (by decide +kernel)
    have n6 := nm.nm (i := 6) (x := "_law_kept") (by decide +kernel)
    have n7 := nm.nm (i := 7) (x := "_law_due") (by decide +kernel)
    have t1 := nm.st (i := 1) (x := "_law_drawn_here") (by decide +kernel)
    have t2 := nm.st (i := 2) (x := "_law_some") (by decide +kernel)
    have t3 := nm.st (i := 3) (x := "_law_turn") (by decide +kernel)
    have t4 := nm.st (i := 4) (x := "_law_bent_here") (by decide +kernel)
    have t5 := nm.st (i := 5) (x := "_law_thing") (by decide +kernel)
    walk_at "st"; walk_at "run"
    refine w_call cR hr (by decide) rfl ?_
    walk_at "run"
    refine ⟨J, c, rfl, hJ, by omega, fun p H1 ds0 x1 j1 dp sz0 => ?_⟩
    walk_at "rux"
    refine w_lstD (J := J) (menuA ds0) ?_ (by show 8 ≤ 1000000; decide) j1.nn fun L1 vs1 H2 e2 dv1 nL1 _ => ?_
    · refine da_cons (de_nm n1 rfl dp) (da_cons ?_ ?_)
      · cases dp with
        | @tup t xs _ ht hx =>
        intro H3 Q3 e3 nJ3 k
        refine w_callT (T := "list") rfl T.list G.bt_list (wa_cons (w_nm n1 rfl (wa_nil (c_listt (sq_t (e3 _ _ (of_del ht))) fun p np p3 => ?_))))
        exact k _ _ (Ex.new np) (.lst (new_J np nJ3) p3 (hx.ex (Ex.del (e3.trans (Ex.new np)))))
      · walk_at "de"
        exact de_iv fun H1 Q1 _ k => w_op (w_int (w_int (b_1e6 k)))
        walk_at "de"
    have j2 := j1.ex e2
    have nL1J : L1 ≠ J := j2.ne nL1
    have x2 : ExJ J H1 (upd H2 L1 (.lst vs1)) := ExJ.of (e2.trans (Ex.new nL1))
    have hL1 : upd H2 L1 (.lst vs1) L1 = some (.lst vs1) := upd_same
    have dv1' := dv1.ex (Ex.del (Ex.new (o := .lst vs1) nL1))
    have j2' : JarAt (upd H2 L1 (.lst vs1)) J (c + 60) := j2.put nL1J
    generalize upd H2 L1 (.lst vs1) = H2' at x2 hL1 dv1' j2' ⊢
    walk_at "rux"
    refine w_lst3 ?_
    refine wa_de (J := J) (tt (.int 0) (.int 1) (.int 1)) ?_ j2'.nn fun v3 H3 e3 dq3 => wa_de (J := J) (tt (.bool true) (.int 1) (.bool true)) ?_ (j2'.ex e3).nn fun v4 H4 e4 dq4 => wa_de (J := J) (tt (.int 0) (.bool true) (.bool true)) ?_ ((j2'.ex e3).ex e4).nn fun v5 H5 e5 dq5 =>
      wa_de (J := J) (.tuple [.tuple [.int 0, .int 1, .bool true], .tuple [.int 0, .int 1, .bool true]]) ?_ (((j2'.ex e3).ex e4).ex e5).nn fun v6 H6 e6 dq6 => ?_
    · walk_at "de"
    · walk_at "de"
    · walk_at "de"
    · walk_at "de"
    have j6 := (((j2'.ex e3).ex e4).ex e5).ex e6
    have e26 : Ex H2' H6 := e3.trans (e4.trans (e5.trans e6))
    have dvB : Dqs (del H6 J) [v3, v4, v5, v6] menuB := .cons (dq3.ex (Ex.del (e4.trans (e5.trans e6)))) (.cons (dq4.ex (Ex.del (e5.trans e6))) (.cons (dq5.ex (Ex.del e6)) (.cons dq6 .nil)))
    walk_at "rux"
    refine w_call cD hr (by decide) rfl ?_
    walk_at "run"
    refine ⟨J, _, rfl, j6, by omega, fun v7 H7 d7 x7 j7 dq7 sz7 => ?_⟩
    walk_at "run"
    refine ⟨by show 5 ≤ sizeLine; decide, fun L2 nL2 _ => ?_⟩
    have nL2J : L2 ≠ J := j7.ne nL2
    have hL17 : H7 L1 = some (.lst vs1) := x7.get nL1J (e26 _ _ hL1)
    have nL12 : L1 ≠ L2 := ne_of_none hL17 nL2
    refine b_catl (by rw [upd_ne nL12]; exact hL17) upd_same (by rw [dv1.length]; show 8 + 5 ≤ sizeLine; decide) fun L nL => ?_
    have j8 : JarAt (upd H7 L2 (.lst [v3, v4, v5, v6, v7])) J (c + 60 + 20) := j7.put nL2J
    have nLJ : L ≠ J := j8.ne nL
    have x28 : ExJ J H2' (upd H7 L2 (.lst [v3, v4, v5, v6, v7])) := (ExJ.of e26).trans (x7.trans (ExJ.of (Ex.new nL2)))
    have x68 : ExJ J H6 (upd H7 L2 (.lst [v3, v4, v5, v6, v7])) := x7.trans (ExJ.of (Ex.new nL2))
    have x78 : ExJ J H7 (upd H7 L2 (.lst [v3, v4, v5, v6, v7])) := ExJ.of (Ex.new nL2)
    have dall : Dqs (del (upd H7 L2 (.lst [v3, v4, v5, v6, v7])) J) (vs1 ++ [v3, v4, v5, v6, v7]) (menuA ds0 ++ (menuB ++ [d7])) := (dv1'.ex x28).append ((dvB.ex x68).append (.cons (dq7.ex x78) .nil))
    have dp8 := dp.ex (x2.trans x28)
    have x08 : ExJ J H (upd H7 L2 (.lst [v3, v4, v5, v6, v7])) := x1.trans (x2.trans x28)
    have szall : ∀ d ∈ menuA ds0 ++ (menuB ++ [d7]), Sz (2 ^ 51) 30 500 d := by
      intro d hd
      rcases List.mem_append.mp hd with h | h
      · exact menuA_sz sz0 d h
      · rcases List.mem_append.mp h with h | h
        · exact menuB_sz d h
        · rw [List.mem_singleton.mp h]
          exact sz7.mono (by decide) (by decide) (by decide)
    have hl8 : (vs1 ++ [v3, v4, v5, v6, v7]).length = 13 := by rw [List.length_append, dv1.length]; rfl
    generalize upd H7 L2 (.lst [v3, v4, v5, v6, v7]) = H8 at nL j8 x28 x68 x78 dall dp8 x08 ⊢
    have nL0 : del H J L = none := x08.free (by rw [del_ne nLJ]; exact nL)
    walk_at "run"
    refine s_for PassesOwn.never rfl (i_rng rfl T.range ?_)
    walk_at "run"
    refine ⟨by decide, by decide, ?_⟩
    refine for_range (n := 12) (fun i σ H' => ∃ (xs : List V) (ds : List PyData) (y3 y4 : Option V), σ = [some (.ref J), some (.ref p), some (.ref L), y3, y4, none, none, none] ∧ ExJ J H H' ∧ JarAt H' J (c + 80 + 250 * i) ∧ H' L = some (.lst xs) ∧
      Dqs (del (del H' J) L) xs ds ∧ Dq (del (del H' J) L) (.ref p) (.tuple ds0) ∧ (∀ d ∈ ds, Sz (2 ^ 51) 30 500 d) ∧ xs.length = 13 + i) ?_ ?_ ?_
    · have eD : del (del (upd H8 L (.lst (vs1 ++ [v3, v4, v5, v6, v7]))) J) L = del H8 J := by
        rw [del_comm, del_put nL]
      refine ⟨_, _, none, none, rfl, x08.trans (ExJ.of (Ex.new nL)), j8.put nLJ, upd_same, ?_, ?_, szall, hl8⟩
      · rw [eD]; exact dall
      · rw [eD]; exact dp8
    · rintro i σ H9 hi ⟨xs, ds, y3, y4, rfl, x9, j9, hL9, hx, hp, hsz, hl⟩
      walk_at "run"
      refine w_hide hL9 (w_call cB hr (by decide) rfl ?_)
      walk_at "run"
      refine ⟨J, _, .ref p, .tuple ds0, 2 ^ 50, 2, 40, rfl, j9.del nLJ, by omega, (by rw [← del_comm]; exact hp), sz0, Nat.le_refl _, by decide, by decide, fun v1 H10 d1 x10 j10 dq1 sz1 nL10 => ?_⟩
      have eD : ∀ o, del (del (upd H10 L o) J) L = del H10 J := fun o => by rw [del_comm, del_put nL10]
      have x11 : ExJ J H (upd H10 L (.lst xs)) := exj_hide nL0 x9 x10
      have x10' : Ex (del (del H9 J) L) (del H10 J) := by rw [del_comm]; exact x10
      have hx11 : Dqs (del (del (upd H10 L (.lst xs)) J) L) xs ds := by rw [eD]; exact hx.ex x10'
      have hp11 : Dq (del (del (upd H10 L (.lst xs)) J) L) (.ref p) (.tuple ds0) := by rw [eD]; exact hp.ex x10'
      have dq11 : Dq (del (del (upd H10 L (.lst xs)) J) L) v1 d1 := by rw [eD]; exact dq1
      have hL11 : upd H10 L (.lst xs) L = some (.lst xs) := upd_same
      have j11 : JarAt (upd H10 L (.lst xs)) J _ := j10.put nLJ
      generalize upd H10 L (.lst xs) = H11 at x11 hx11 hp11 dq11 hL11 j11 ⊢
      walk_at "run"
      refine ⟨L, xs, rfl, hL11, ?_⟩
      walk_at "run"
      refine w_call cT hr (by decide) rfl ?_
      walk_at "run"
      refine ⟨J, _, 4, rfl, j11, by omega, by decide, by decide, fun k0 H12 k1 k2 x12 j12 => ?_⟩
      have hL12 := x12.get nLJ hL11
      have x1112 : Ex (del (del H11 J) L) (del (del H12 J) L) := Ex.del x12
      walk_at "run"
      refine ite_b (fun h1 => ?_) (fun h1 => ?_)
      · refine w_hide hL12 (w_call cB hr (by decide) rfl ?_)
        walk_at "run"
        refine ⟨J, _, v1, d1, 2 ^ 50 + 1, 14, 160, rfl, j12.del nLJ, by omega, (by rw [← del_comm]; exact dq11.ex x1112), sz1, by decide, by decide, by decide, fun v2 H13 d2 x13 j13 dq2 sz2 nL13 => ?_⟩
        have eD3 : ∀ o, del (del (upd H13 L o) J) L = del H13 J := fun o => by rw [del_comm, del_put nL13]
        have x13' : Ex (del (del H12 J) L) (del H13 J) := by rw [del_comm]; exact x13
        refine ⟨xs, upd_same, by have e : sizeLine = 16777216 := rfl; omega, ?_⟩
        rw [upd_upd]
        refine ⟨xs ++ [v2], ds ++ [d2], _, _, rfl, exj_hide nL0 (x11.trans x12) x13, (j13.put nLJ).mono (by omega), upd_same, ?_, ?_, ?_, by rw [List.length_append, hl]; rfl⟩
        · rw [eD3]
          exact (hx11.ex (x1112.trans x13')).append (.cons dq2 .nil)
        · rw [eD3]
          exact hp11.ex (x1112.trans x13')
        · intro d hd
          rcases List.mem_append.mp hd with h | h
          · exact hsz d h
          · rw [List.mem_singleton.mp h]
            exact sz2.mono (by decide) (by decide) (by decide)
      · walk_at "run"
        refine ⟨xs, hL12, by have e : sizeLine = 16777216 := rfl; omega, ?_⟩
        have eD3 : del (del (upd H12 L (.lst (xs ++ [v1]))) J) L = del (del H12 J) L := by rw [del_comm, del_upd, del_comm]
        refine ⟨xs ++ [v1], ds ++ [d1], _, _, rfl, ?_, (j12.put nLJ).mono (by omega), upd_same, ?_, ?_, ?_, by rw [List.length_append, hl]; rfl⟩
        · show Ex _ (del (upd H12 L _) J)
          rw [del_upd_ne nLJ]
          exact Ex.put (x11.trans x12) nL0
        · rw [eD3]
          exact (hx11.ex x1112).append (.cons (dq11.ex x1112) .nil)
        · rw [eD3]
          exact hp11.ex x1112
        · intro d hd
          rcases List.mem_append.mp hd with h | h
          · exact hsz d h
          · rw [List.mem_singleton.mp h]
            exact sz1.mono (by decide) (by decide) (by decide)
    · rintro σ H9 ⟨xs, ds, y3, y4, rfl, x9, j9, hL9, hx, hp, hsz, hl⟩
      walk_at "run"
      refine s_for PassesOwn.never rfl (i_lst ?_)
      walk_at "run"
      refine ⟨⟨xs, sq_l hL9⟩, ?_⟩
      refine for_list (xs := xs) (fun i σ H' => ∃ (y5 y6 y7 : Option V), σ = [some (.ref J), some (.ref p), some (.ref L), y3, y4, y5, y6, y7] ∧ Ex H9 H') ?_ ?_ ?_ ?_
      · exact ⟨none, none, none, rfl, Ex.refl⟩
      · rintro i σ H' _ ⟨_, _, _, _, e⟩
        exact sq_l (e _ _ hL9)
      · rintro i v σ H' hv ⟨y5, y6, y7, rfl, e9⟩
        obtain ⟨d, hd, dq⟩ := hx.get hv
        have sz := hsz d (List.mem_of_getElem? hd)
        have dq' : Dq H' v d := dq.ex (del_ex.trans (del_ex.trans e9))
        have shw := sz.shows (by decide)
        have fit := sz.fits (by decide) (by decide)
        have dep : d.depth ≤ 30 := sz.dp
        have room := hr.r.un
        have rm : ∀ n, n ≤ 100 → (cxOf CX0 P w K mg base nRight "_law_right" (defScope sRight) f cdv A outer s H E).nox.A.units + n < cLine := fun n hn => by
          have : (A.deeper (envOfC "_law_right" (defScope sRight) s.heap.objs.size f cdv)).units + n < cLine := by omega
          exact this
        have boolS : ∀ {b : Bool} {H2 : Hp} {Q2 : VK}, Q2 (.str (PyData.shown (.bool b))) H2 → wC (cxOf CX0 P w K mg base nRight "_law_right" (defScope sRight) f cdv A outer s H E).nox (.builtin "repr") [.bl b] H2 Q2 := fun {b H2 Q2} k =>
          c_repr (.bl b) rfl (by cases b <;> decide +kernel) hr.g (rm 1 (by decide)) k
        walk_at "run"
        refine s_par 6 7 rfl nm.nd rfl rfl (by decide) rfl rfl (by rfl) ?_
        walk_at "run"
        refine c_repr dq' shw fit hr.g (rm _ (by omega)) ?_
        walk_at "run"
        refine w_call cI hr (by decide) rfl ?_
        walk_at "run"
        refine ⟨v, d, rfl, dq', fun H2 e2 => ?_⟩
        walk_at "run"
        refine boolS ?_
        walk_at "run"
        refine ⟨_, _, rfl, ?_⟩
        walk_at "run"
        rw [is_same d]
        refine w_call cS hr (by decide) rfl ?_
        walk_at "run"
        refine ⟨v, d, rfl, dq'.ex e2, fun H3 e3 => ?_⟩
        walk_at "run"
        refine boolS ?_
        walk_at "run"
        rw [decide_eq_true (rfl : PyData.shown (.bool (isSched d)) = PyData.shown (.bool (isSched d)))]
        walk_at "run"
        refine w_callW cW hr (by decide) rfl ?_
        walk_at "run"
        refine ⟨v, d, rfl, dq'.ex (e2.trans e3), fun H4 e4 => ?_⟩
        walk_at "run"
        refine boolS ?_
        walk_at "run"
        rw [decide_eq_true (rfl : PyData.shown (.bool (isSched d)) = PyData.shown (.bool (isSched d)))]
        walk_at "run"
        refine c_repr (dq'.ex (e2.trans (e3.trans e4))) shw fit hr.g (rm _ (by omega)) ?_
        walk_at "run"
        rw [decide_eq_true (rfl : d.shown = d.shown)]
        walk_at "run"
        exact ⟨_, _, _, rfl, e9.trans (e2.trans (e3.trans e4))⟩
      · rintro σ H' ⟨y5, y6, y7, rfl, e9⟩
        walk_at "run"
        exact q H' (x9.trans (ExJ.of e9)) ((j9.ex e9).mono (by omega))
end
end K67

end Part_L67
section Part_M67
set_option maxRecDepth 100000
set_option maxHeartbeats 4000000
set_option hygiene false in
local macro_rules | `(tactic| walk_at "go") => `(tactic| first
  | (with_reducible refine ss_nil ?_)
  | (with_reducible refine ss_one ?_)
  | (with_reducible refine ss_cons ?_)
  | (with_reducible refine s_if ?_)
  | (with_reducible refine s_ret ?_)
  | (with_reducible refine t_not ?_)
  | (with_reducible refine t_and ?_)
  | (with_reducible refine t_or ?_)
  | (with_reducible refine ww_and1 ?_)
  | (with_reducible refine ww_or1 ?_)
  | (with_reducible refine ww_and ?_)
  | (with_reducible refine ww_or ?_)
  | (with_reducible refine w_int ?_)
  | (with_reducible refine w_str ?_)
  | (with_reducible refine w_bl ?_)
  | (with_reducible refine w_non ?_)
  | (with_reducible refine w_one ?_)
  | (with_reducible refine w_and ?_)
  | (with_reducible refine w_or ?_)
  | (with_reducible refine w_not ?_)
  | (with_reducible refine w_op ?_)
  | (with_reducible refine w_un ?_)
  | (with_reducible refine w_ife ?_)
  | (with_reducible refine w_tup ?_)
  | (with_reducible refine w_lst3 ?_)
  | (with_reducible refine wa_nil ?_)
  | (with_reducible refine b_add ?_)
  | (with_reducible refine b_sub ?_)
  | (with_reducible refine b_lt ?_)
  | (with_reducible refine b_le ?_)
  | (with_reducible refine b_gt ?_)
  | (with_reducible refine b_ge ?_)
  | (with_reducible refine b_eqi ?_)
  | (with_reducible refine b_nei ?_)
  | (with_reducible refine b_eqs ?_)
  | (with_reducible refine b_nes ?_)
  | (with_reducible refine u_neg ?_)
  | (with_reducible refine c_int ?_)
  | (with_reducible refine c_intb ?_)
  | (with_reducible refine c_abs ?_)
  | (with_reducible refine iteT ?_)
  | (with_reducible refine iteF ?_)
  | (with_reducible refine iteNF ?_)
  | (with_reducible refine iteNT ?_)
  | (with_reducible refine gs_nil ?_)
  | (with_reducible refine wk_nil ?_)
  | (with_reducible refine wk_cons ?_)
  | ((with_reducible refine wa_cons ?_ ?hs); (case hs => rfl))
  | ((with_reducible refine gs_cons ?_ ?hs); (case hs => rfl))
  | ((with_reducible refine s_expr ?_ ?hs); (case hs => rfl))
  | (with_reducible refine t_cmp rfl ?_)
  | (with_reducible refine w_cmp rfl ?_)
  | (with_reducible refine ⟨_, rfl, ?_⟩)
  | ((with_reducible show G.wE _ (PySem.Expr.Name _ _) _ _ _); first | ((with_reducible refine' w_nm n0 ?hs ?_); (case hs => rfl)) | ((with_reducible refine' w_nm n1 ?hs ?_); (case hs => rfl)) | ((with_reducible refine' w_nm n2 ?hs ?_); (case hs => rfl)) | ((with_reducible refine' w_nm n3 ?hs ?_); (case hs => rfl)) | ((with_reducible refine' w_nm n4 ?hs ?_); (case hs => rfl)) | ((with_reducible refine' w_nm n5 ?hs ?_); (case hs => rfl)) | ((with_reducible refine' w_nm n6 ?hs ?_); (case hs => rfl)) | ((with_reducible refine' w_nm n7 ?hs ?_); (case hs => rfl)) | ((with_reducible refine' w_nm n8 ?hs ?_); (case hs => rfl)) | ((with_reducible refine' w_nm n9 ?hs ?_); (case hs => rfl)) | ((with_reducible refine' w_nm n10 ?hs ?_); (case hs => rfl)) | ((with_reducible refine' w_nm n11 ?hs ?_); (case hs => rfl)))
  | ((with_reducible show G.wG _ (PySem.Expr.Name _ _) _ _ _ _); first | (with_reducible refine g_st nm.nd t0 ?_) | (with_reducible refine g_st nm.nd t1 ?_) | (with_reducible refine g_st nm.nd t2 ?_) | (with_reducible refine g_st nm.nd t3 ?_) | (with_reducible refine g_st nm.nd t4 ?_) | (with_reducible refine g_st nm.nd t5 ?_) | (with_reducible refine g_st nm.nd t6 ?_) | (with_reducible refine g_st nm.nd t7 ?_) | (with_reducible refine g_st nm.nd t8 ?_) | (with_reducible refine g_st nm.nd t9 ?_) | (with_reducible refine g_st nm.nd t10 ?_) | (with_reducible refine g_st nm.nd t11 ?_))
  | ((with_reducible show G.wS _ (PySem.Stmt.Assign [PySem.Expr.Name _ _] _ _) _ _ _); first | ((with_reducible refine s_st nm.nd t0 ?_ ?hs); (case hs => rfl)) | ((with_reducible refine s_st nm.nd t1 ?_ ?hs); (case hs => rfl)) | ((with_reducible refine s_st nm.nd t2 ?_ ?hs); (case hs => rfl)) | ((with_reducible refine s_st nm.nd t3 ?_ ?hs); (case hs => rfl)) | ((with_reducible refine s_st nm.nd t4 ?_ ?hs); (case hs => rfl)) | ((with_reducible refine s_st nm.nd t5 ?_ ?hs); (case hs => rfl)) | ((with_reducible refine s_st nm.nd t6 ?_ ?hs); (case hs => rfl)) | ((with_reducible refine s_st nm.nd t7 ?_ ?hs); (case hs => rfl)) | ((with_reducible refine s_st nm.nd t8 ?_ ?hs); (case hs => rfl)) | ((with_reducible refine s_st nm.nd t9 ?_ ?hs); (case hs => rfl)) | ((with_reducible refine s_st nm.nd t10 ?_ ?hs); (case hs => rfl)) | ((with_reducible refine s_st nm.nd t11 ?_ ?hs); (case hs => rfl)))
  | ((with_reducible show G.wE _ (PySem.Expr.Subscript _ _ _) _ _ _); (refine w_ix (fun _ _ => rfl) ?_))
  | ((with_reducible show G.wE _ (PySem.Expr.Call (PySem.Expr.Attribute _ "append" _) _ _ _) _ _ _); (refine w_app ?_))
  | ((with_reducible show G.wE _ (PySem.Expr.Call (PySem.Expr.Name "int" _) _ _ _) _ _ _); (refine w_callT (T := "int") rfl T.int G.bt_int ?_))
  | ((with_reducible show G.wE _ (PySem.Expr.Call (PySem.Expr.Name "len" _) _ _ _) _ _ _); (refine w_callB (id := "len") rfl T.len G.bt_len ?_))
  | ((with_reducible show G.wE _ (PySem.Expr.Call (PySem.Expr.Name "abs" _) _ _ _) _ _ _); (refine w_callB (id := "abs") rfl T.abs G.bt_abs ?_))
  | ((with_reducible show G.wE _ (PySem.Expr.Call (PySem.Expr.Name "repr" _) _ _ _) _ _ _); (refine w_callB (id := "repr") rfl T.repr G.bt_repr ?_))
  | ((with_reducible show G.wE _ (PySem.Expr.Call (PySem.Expr.Name "tuple" _) _ _ _) _ _ _); (refine w_callT (T := "tuple") rfl T.tuple G.bt_tuple ?_))
  | ((with_reducible show G.wE _ (PySem.Expr.Call (PySem.Expr.Name "list" _) _ _ _) _ _ _); (refine w_callT (T := "list") rfl T.list G.bt_list ?_))
  | ((with_reducible show G.wE _ (PySem.Expr.Call (PySem.Expr.Name "str" _) _ _ _) _ _ _); (refine w_callT (T := "str") rfl T.str G.bt_str ?_))
  | ((with_reducible show G.wE _ (PySem.Expr.Call (PySem.Expr.Name "max" _) _ _ _) _ _ _); (refine w_callB (id := "max") rfl T.max G.bt_max ?_))
  | ((with_reducible show G.wE _ (PySem.Expr.Call (PySem.Expr.Name "min" _) _ _ _) _ _ _); (refine w_callB (id := "min") rfl T.min G.bt_min ?_))
  | ((with_reducible show G.wE _ (PySem.Expr.Call (PySem.Expr.Name "all" _) _ _ _) _ _ _); (refine w_callB (id := "all") rfl T.all G.bt_all ?_)))
set_option hygiene false in
local macro_rules | `(tactic| walk_at "gox") => `(tactic| first
  | (with_reducible refine ss_nil ?_)
  | (with_reducible refine ss_one ?_)
  | (with_reducible refine ss_cons ?_)
  | (with_reducible refine s_if ?_)
  | (with_reducible refine s_ret ?_)
  | (with_reducible refine t_not ?_)
  | (with_reducible refine t_and ?_)
  | (with_reducible refine t_or ?_)
  | (with_reducible refine ww_and1 ?_)
  | (with_reducible refine ww_or1 ?_)
  | (with_reducible refine ww_and ?_)
  | (with_reducible refine ww_or ?_)
  | (with_reducible refine w_int ?_)
  | (with_reducible refine w_str ?_)
  | (with_reducible refine w_bl ?_)
  | (with_reducible refine w_non ?_)
  | (with_reducible refine w_one ?_)
  | (with_reducible refine w_and ?_)
  | (with_reducible refine w_or ?_)
  | (with_reducible refine w_not ?_)
  | (with_reducible refine w_op ?_)
  | (with_reducible refine w_un ?_)
  | (with_reducible refine w_ife ?_)
  | (with_reducible refine wa_nil ?_)
  | (with_reducible refine b_add ?_)
  | (with_reducible refine b_sub ?_)
  | (with_reducible refine b_lt ?_)
  | (with_reducible refine b_le ?_)
  | (with_reducible refine b_gt ?_)
  | (with_reducible refine b_ge ?_)
  | (with_reducible refine b_eqi ?_)
  | (with_reducible refine b_nei ?_)
  | (with_reducible refine b_eqs ?_)
  | (with_reducible refine b_nes ?_)
  | (with_reducible refine u_neg ?_)
  | (with_reducible refine c_int ?_)
  | (with_reducible refine c_intb ?_)
  | (with_reducible refine c_abs ?_)
  | (with_reducible refine iteT ?_)
  | (with_reducible refine iteF ?_)
  | (with_reducible refine iteNF ?_)
  | (with_reducible refine iteNT ?_)
  | (with_reducible refine gs_nil ?_)
  | (with_reducible refine wk_nil ?_)
  | (with_reducible refine wk_cons ?_)
  | ((with_reducible refine wa_cons ?_ ?hs); (case hs => rfl))
  | ((with_reducible refine gs_cons ?_ ?hs); (case hs => rfl))
  | ((with_reducible refine s_expr ?_ ?hs); (case hs => rfl))
  | (with_reducible refine t_cmp rfl ?_)
  | (with_reducible refine w_cmp rfl ?_)
  | (with_reducible refine ⟨_, rfl, ?_⟩)
  | ((with_reducible show G.wE _ (PySem.Expr.Name _ _) _ _ _); first | ((with_reducible refine' w_nm n0 ?hs ?_); (case hs => rfl)) | ((with_reducible refine' w_nm n1 ?hs ?_); (case hs => rfl)) | ((with_reducible refine' w_nm n2 ?hs ?_); (case hs => rfl)) | ((with_reducible refine' w_nm n3 ?hs ?_); (case hs => rfl)) | ((with_reducible refine' w_nm n4 ?hs ?_); (case hs => rfl)) | ((with_reducible refine' w_nm n5 ?hs ?_); (case hs => rfl)) | ((with_reducible refine' w_nm n6 ?hs ?_); (case hs => rfl)) | ((with_reducible refine' w_nm n7 ?hs ?_); (case hs => rfl)) | ((with_reducible refine' w_nm n8 ?hs ?_); (case hs => rfl)) | ((with_reducible refine' w_nm n9 ?hs ?_); (case hs => rfl)) | ((with_reducible refine' w_nm n10 ?hs ?_); (case hs => rfl)) | ((with_reducible refine' w_nm n11 ?hs ?_); (case hs => rfl)))
  | ((with_reducible show G.wG _ (PySem.Expr.Name _ _) _ _ _ _); first | (with_reducible refine g_st nm.nd t0 ?_) | (with_reducible refine g_st nm.nd t1 ?_) | (with_reducible refine g_st nm.nd t2 ?_) | (with_reducible refine g_st nm.nd t3 ?_) | (with_reducible refine g_st nm.nd t4 ?_) | (with_reducible refine g_st nm.nd t5 ?_) | (with_reducible refine g_st nm.nd t6 ?_) | (with_reducible refine g_st nm.nd t7 ?_) | (with_reducible refine g_st nm.nd t8 ?_) | (with_reducible refine g_st nm.nd t9 ?_) | (with_reducible refine g_st nm.nd t10 ?_) | (with_reducible refine g_st nm.nd t11 ?_))
  | ((with_reducible show G.wS _ (PySem.Stmt.Assign [PySem.Expr.Name _ _] _ _) _ _ _); first | ((with_reducible refine s_st nm.nd t0 ?_ ?hs); (case hs => rfl)) | ((with_reducible refine s_st nm.nd t1 ?_ ?hs); (case hs => rfl)) | ((with_reducible refine s_st nm.nd t2 ?_ ?hs); (case hs => rfl)) | ((with_reducible refine s_st nm.nd t3 ?_ ?hs); (case hs => rfl)) | ((with_reducible refine s_st nm.nd t4 ?_ ?hs); (case hs => rfl)) | ((with_reducible refine s_st nm.nd t5 ?_ ?hs); (case hs => rfl)) | ((with_reducible refine s_st nm.nd t6 ?_ ?hs); (case hs => rfl)) | ((with_reducible refine s_st nm.nd t7 ?_ ?hs); (case hs => rfl)) | ((with_reducible refine s_st nm.nd t8 ?_ ?hs); (case hs => rfl)) | ((with_reducible refine s_st nm.nd t9 ?_ ?hs); (case hs => rfl)) | ((with_reducible refine s_st nm.nd t10 ?_ ?hs); (case hs => rfl)) | ((with_reducible refine s_st nm.nd t11 ?_ ?hs); (case hs => rfl)))
  | ((with_reducible show G.wE _ (PySem.Expr.Subscript _ _ _) _ _ _); (refine w_ix (fun _ _ => rfl) ?_))
  | ((with_reducible show G.wE _ (PySem.Expr.Call (PySem.Expr.Attribute _ "append" _) _ _ _) _ _ _); (refine w_app ?_))
  | ((with_reducible show G.wE _ (PySem.Expr.Call (PySem.Expr.Name "int" _) _ _ _) _ _ _); (refine w_callT (T := "int") rfl T.int G.bt_int ?_))
  | ((with_reducible show G.wE _ (PySem.Expr.Call (PySem.Expr.Name "len" _) _ _ _) _ _ _); (refine w_callB (id := "len") rfl T.len G.bt_len ?_))
  | ((with_reducible show G.wE _ (PySem.Expr.Call (PySem.Expr.Name "abs" _) _ _ _) _ _ _); (refine w_callB (id := "abs") rfl T.abs G.bt_abs ?_))
  | ((with_reducible show G.wE _ (PySem.Expr.Call (PySem.Expr.Name "repr" _) _ _ _) _ _ _); (refine w_callB (id := "repr") rfl T.repr G.bt_repr ?_))
  | ((with_reducible show G.wE _ (PySem.Expr.Call (PySem.Expr.Name "tuple" _) _ _ _) _ _ _); (refine w_callT (T := "tuple") rfl T.tuple G.bt_tuple ?_))
  | ((with_reducible show G.wE _ (PySem.Expr.Call (PySem.Expr.Name "list" _) _ _ _) _ _ _); (refine w_callT (T := "list") rfl T.list G.bt_list ?_))
  | ((with_reducible show G.wE _ (PySem.Expr.Call (PySem.Expr.Name "str" _) _ _ _) _ _ _); (refine w_callT (T := "str") rfl T.str G.bt_str ?_))
  | ((with_reducible show G.wE _ (PySem.Expr.Call (PySem.Expr.Name "max" _) _ _ _) _ _ _); (refine w_callB (id := "max") rfl T.max G.bt_max ?_))
  | ((with_reducible show G.wE _ (PySem.Expr.Call (PySem.Expr.Name "min" _) _ _ _) _ _ _); (refine w_callB (id := "min") rfl T.min G.bt_min ?_))
  | ((with_reducible show G.wE _ (PySem.Expr.Call (PySem.Expr.Name "all" _) _ _ _) _ _ _); (refine w_callB (id := "all") rfl T.all G.bt_all ?_)))
set_option hygiene false in
local macro_rules | `(tactic| walk_at "st") => `(tactic| first | refine ss_one ?_ | refine ss_cons ?_)
set_option hygiene false in
local macro_rules | `(tactic| walk_at "run") => `(tactic| repeat (walk_at "go"))
set_option hygiene false in
local macro_rules | `(tactic| walk_at "de") => `(tactic| repeat (with_reducible first
  | exact da_nil | exact de_non | exact de_bl | exact de_int | exact de_str | exact de_neg | exact de_dict0
  | ((refine da_cons ?_ ?_ ?hs); (case hs => (with_unfolding_all rfl)))
  | ((refine de_tup ?_ ?hz); (case hz => (simp; done)))
  | ((refine de_lst ?_ ?hz); (case hz => (simp; done)))))
set_option hygiene false in
local macro_rules | `(tactic| walk_at "rux") => `(tactic| repeat (walk_at "gox"))
namespace K67
open PySem PySem.Spec PyProof.Rows L2 G
/-! ### law -/
def spLaw (K : PySem.W.Frag) : Sp := fun vs H Q _ => ∃ (a : Addr) (ns : List Int), vs = [.ref a] ∧ SqL K H a (ns.map V.int) ∧ ∀ H', Q (.bl true) H'
section
variable {P : Program} {w : World} {K : PySem.W.Frag} {mg : Str → Option Value} {base : Heap} {k : Nat} {f : Addr} {fd : FuncData}
abbrev nLaw : List Str := ["_law_script", "_law_k", "_law_jar_here", "_law_turn"]
theorem scLaw : FnScope nLaw ["_law_script"] (defScope sLaw) := ⟨rfl, rfl, rfl, by decide +kernel, rfl, by decide +kernel, by decide +kernel⟩
theorem exj_new {J : Addr} {H H1 H2 : Hp} (e : Ex H H1) (nJ : H J = none) (x : ExJ J H1 H2) : Ex H H2 := fun a o h => by
  have na : a ≠ J := ne_of_none h nJ
  exact x.get na (e a o h)
theorem ok_law (F : Fun K "law" "law" sLaw f fd) (T : Txt mg) (cJ : CalG P w K mg base 1 "_law_jar" ["_law_script", "_law_k"] (spJar K)) (cR : CalG P w K mg base 8 "_law_right" ["_law_jar_here"] spRight) : FnG P w K mg base CX0 9 f fd ["_law_script"] (spLaw K) := by
  refine fnG0 F scLaw (fun vs H Q E h => ?_) (fun cdv A outer s H vs Q E hr h => ?_)
  · obtain ⟨a, ns, rfl, _⟩ := h; rfl
  · obtain ⟨a, ns, rfl, hS, q⟩ := h
    refine ss_nms nLaw (defScope sLaw) scLaw.nd rfl rfl fun nm => ?_
    have n0 := nm.nm (i := 0) (x := "_law_script") (by decide +kernel)
    have n1 := nm.nm (i := 1) (x := "_law_k") (by decide +kernel)
    have n2 := nm.nm (i := 2) (x := "_law_jar_here") (by decide +kernel)
    have t1 := nm.st (i := 1) (x := "_law_k") (by decide +kernel)
    walk_at "st"
    refine s_for PassesOwn.never rfl (i_rng rfl T.range ?_)
    walk_at "run"
    refine c_lenl hS ?_
    walk_at "run"
    refine c_min2 rfl ?_
    walk_at "run"
    refine c_max2 rfl ?_
    generalize hj : (if (if ((ns.map V.int).length : Int) < 3 then ((ns.map V.int).length : Int) else 3) > 1 then (if ((ns.map V.int).length : Int) < 3 then ((ns.map V.int).length : Int) else 3) else 1) = j
    have j3 : 0 ≤ j ∧ j ≤ 3 := by
      rw [← hj]
      split <;> (try split) <;> omega
    walk_at "run"
    refine ⟨by omega, by omega, ?_⟩
    refine for_range (n := j.toNat) (fun i σ H' => ∃ (y1 y2 y3 : Option V), σ = [some (.ref a), y1, y2, y3] ∧ Ex H H') ?_ ?_ ?_
    · exact ⟨none, none, none, rfl, Ex.refl⟩
    · rintro i σ H1 hi ⟨y1, y2, y3, rfl, e1⟩
      walk_at "run"
      refine s_set 2 nm.nd rfl (.inr rfl) ?_
      refine w_call cJ hr (by decide) rfl ?_
      walk_at "run"
      refine ⟨a, ns, _, rfl, sql_ex e1 hS, by omega, by omega, fun J H2 nJ e2 jar => ?_⟩
      walk_at "run"
      refine t_val (w_callB (id := "all") rfl T.all G.bt_all (wa_cons (w_lc [("_law_turn", 3)] rfl nm.nd (blkOk_by (N := nLaw) (sc := defScope sLaw) (by decide +kernel)) (i_rng rfl T.range ?_))))
      walk_at "run"
      refine ⟨by decide, by decide, fun D hD => ?_⟩
      have DJ : D ≠ J := jar.ne hD
      refine lc_it (walk_range (lo := 0) (n := 8)) (fun i H' => Ex H H' ∧ JarAt H' J (3200 * i) ∧ H' D = some (.lst (List.replicate i (.bl true)))) ?_ (fun _ _ _ _ => trivial) ?_ ?_
      · exact ⟨e1.trans (e2.trans (Ex.new hD)), jar.put DJ, upd_same⟩
      · rintro i x H3 H4 hi ⟨e3, j3, hD3⟩ ⟨rfl, rfl⟩
        intro s0 H0 C cl fp
        refine g_name 3 nm.nd rfl (.inl rfl) ⟨rfl, ?_⟩
        have yes : ∀ {R : Bool → Hp → Prop} {σ2 : L2.St} {H2 : Hp}, R true H2 → tYes σ2 H2 R := fun r => r
        refine yes ?_
        rw [if_pos rfl]
        intro s0 H0 C cl fp
        refine w_call cR hr (by decide) rfl ?_
        walk_at "go"
        refine e_nms nLaw (relS _ (defScope sLaw)) scLaw.nd rfl rfl fun nmb => ?_
        refine w_nm (nmb.nm (i := 2) (x := "_law_jar_here") (by decide +kernel)) rfl ?_
        walk_at "run"
        refine ⟨J, _, rfl, j3, by omega, fun H5 x5 j5 => ?_⟩
        have hD5 := x5.get DJ hD3
        refine ⟨_, hD5, by rw [List.length_replicate]; have e : sizeLine = 16777216 := rfl; omega, ?_, (j5.put DJ).mono (by omega), ?_⟩
        · exact (exj_new e3 (e1.free nJ) x5).put ((e1.trans e2).free hD)
        · rw [upd_same, ← List.replicate_succ']
      · rintro H3 ⟨e3, j3, hD3⟩
        walk_at "run"
        refine c_all (bs := List.replicate 8 true) rfl (sq_l (by rw [hD3, List.map_replicate])) ?_
        refine ⟨true, rfl, ?_⟩
        walk_at "run"
        exact ⟨_, _, _, rfl, e3⟩
    · rintro σ H1 ⟨y1, y2, y3, rfl, e1⟩
      walk_at "run"
      exact q H1
end
end K67

end Part_M67
section Part_N67
set_option maxRecDepth 100000
set_option maxHeartbeats 4000000
namespace K67
open PySem PySem.Spec PyProof.Rows L2 G
theorem all_mk {l : PySem.W.OpenLaw} {w : World} {K : PySem.W.Frag} {h : Heap} {mg : Str → Option Value} {fa f1 f2 f3 f4 f5 f6 f7 f8 f9 f10 f11 f12 : Addr} (X : K.In h) (G0 : h.Ns mainGlobals mg) (hfa : mg "law" = some (.ref fa))
    {od1 od2 od3 od4 od5 od6 od7 od8 od9 od10 od11 od12 an1 an2 an3 an4 an5 an6 an7 an8 an9 an10 an11 an12 : Option Addr} {sl1 sl2 sl3 sl4 sl5 sl6 sl7 sl8 sl9 sl10 sl11 sl12 : Array (Option Value)} {oc1 oc2 oc3 oc4 oc5 oc6 oc7 oc8 oc9 oc10 oc11 oc12 kV1 kV2 kV3 kV4 kV5 kV6 kV7 kV8 kV9 kV10 kV11 kV12 dc1 dc2 dc3 dc4 dc5 dc6 dc7 dc8 dc9 dc10 dc11 dc12 pm1 pm2 pm3 pm4 pm5 pm6 pm7 pm8 pm9 pm10 pm11 pm12 cd1 cd2 cd3 cd4 cd5 cd6 cd7 cd8 cd9 cd10 cd11 cd12 ct1 ct2 ct3 ct4 ct5 ct6 ct7 ct8 ct9 ct10 ct11 ct12 : Value}
    (a1 : PySem.W.nsIn K mainGlobals "is_integer" = some (some (.ref f1))) (l1 : K.lookup f1 = some ⟨oc1, od1, .func (PySem.W.fnOf "is_integer" "is_integer" (defArgs sInt) (defBody sInt) (defScope sInt) .none kV1 dc1 pm1 an1 cd1 ct1), sl1⟩) (c1 : PySem.W.codeIn K cd1 "is_integer" = true) (k1 : PySem.W.keepIn K (.ref f1) = true)
    (a2 : PySem.W.nsIn K mainGlobals "is_triple" = some (some (.ref f2))) (l2 : K.lookup f2 = some ⟨oc2, od2, .func (PySem.W.fnOf "is_triple" "is_triple" (defArgs sTri) (defBody sTri) (defScope sTri) .none kV2 dc2 pm2 an2 cd2 ct2), sl2⟩) (c2 : PySem.W.codeIn K cd2 "is_triple" = true) (k2 : PySem.W.keepIn K (.ref f2) = true)
    (a3 : PySem.W.nsIn K mainGlobals "is_schedule" = some (some (.ref f3))) (l3 : K.lookup f3 = some ⟨oc3, od3, .func (PySem.W.fnOf "is_schedule" "is_schedule" (defArgs sSch) (defBody sSch) (defScope sSch) .none kV3 dc3 pm3 an3 cd3 ct3), sl3⟩) (c3 : PySem.W.codeIn K cd3 "is_schedule" = true) (k3 : PySem.W.keepIn K (.ref f3) = true)
    (a4 : PySem.W.nsIn K mainGlobals "_law_jar" = some (some (.ref f4))) (l4 : K.lookup f4 = some ⟨oc4, od4, .func (PySem.W.fnOf "_law_jar" "_law_jar" (defArgs sJar) (defBody sJar) (defScope sJar) .none kV4 dc4 pm4 an4 cd4 ct4), sl4⟩) (c4 : PySem.W.codeIn K cd4 "_law_jar" = true) (k4 : PySem.W.keepIn K (.ref f4) = true)
    (a5 : PySem.W.nsIn K mainGlobals "_law_take" = some (some (.ref f5))) (l5 : K.lookup f5 = some ⟨oc5, od5, .func (PySem.W.fnOf "_law_take" "_law_take" (defArgs sTake) (defBody sTake) (defScope sTake) .none kV5 dc5 pm5 an5 cd5 ct5), sl5⟩) (c5 : PySem.W.codeIn K cd5 "_law_take" = true) (k5 : PySem.W.keepIn K (.ref f5) = true)
    (a6 : PySem.W.nsIn K mainGlobals "_law_of" = some (some (.ref f6))) (l6 : K.lookup f6 = some ⟨oc6, od6, .func (PySem.W.fnOf "_law_of" "_law_of" (defArgs sOf) (defBody sOf) (defScope sOf) .none kV6 dc6 pm6 an6 cd6 ct6), sl6⟩) (c6 : PySem.W.codeIn K cd6 "_law_of" = true) (k6 : PySem.W.keepIn K (.ref f6) = true)
    (a7 : PySem.W.nsIn K mainGlobals "_law_drawn" = some (some (.ref f7))) (l7 : K.lookup f7 = some ⟨oc7, od7, .func (PySem.W.fnOf "_law_drawn" "_law_drawn" (defArgs sDrawn) (defBody sDrawn) (defScope sDrawn) .none kV7 dc7 pm7 an7 cd7 ct7), sl7⟩) (c7 : PySem.W.codeIn K cd7 "_law_drawn" = true) (k7 : PySem.W.keepIn K (.ref f7) = true)
    (a8 : PySem.W.nsIn K mainGlobals "_law_is_schedule" = some (some (.ref f8))) (l8 : K.lookup f8 = some ⟨oc8, od8, .func (PySem.W.fnOf "_law_is_schedule" "_law_is_schedule" (defArgs sIs) (defBody sIs) (defScope sIs) .none kV8 dc8 pm8 an8 cd8 ct8), sl8⟩) (c8 : PySem.W.codeIn K cd8 "_law_is_schedule" = true) (k8 : PySem.W.keepIn K (.ref f8) = true)
    (a9 : PySem.W.nsIn K mainGlobals "_law_odd" = some (some (.ref f9))) (l9 : K.lookup f9 = some ⟨oc9, od9, .func (PySem.W.fnOf "_law_odd" "_law_odd" (defArgs sOdd) (defBody sOdd) (defScope sOdd) .none kV9 dc9 pm9 an9 cd9 ct9), sl9⟩) (c9 : PySem.W.codeIn K cd9 "_law_odd" = true) (k9 : PySem.W.keepIn K (.ref f9) = true)
    (a10 : PySem.W.nsIn K mainGlobals "_law_bent" = some (some (.ref f10))) (l10 : K.lookup f10 = some ⟨oc10, od10, .func (PySem.W.fnOf "_law_bent" "_law_bent" (defArgs sBent) (defBody sBent) (defScope sBent) .none kV10 dc10 pm10 an10 cd10 ct10), sl10⟩) (c10 : PySem.W.codeIn K cd10 "_law_bent" = true) (k10 : PySem.W.keepIn K (.ref f10) = true)
    (a11 : PySem.W.nsIn K mainGlobals "_law_right" = some (some (.ref f11))) (l11 : K.lookup f11 = some ⟨oc11, od11, .func (PySem.W.fnOf "_law_right" "_law_right" (defArgs sRight) (defBody sRight) (defScope sRight) .none kV11 dc11 pm11 an11 cd11 ct11), sl11⟩) (c11 : PySem.W.codeIn K cd11 "_law_right" = true) (k11 : PySem.W.keepIn K (.ref f11) = true)
    (a12 : PySem.W.nsIn K mainGlobals "law" = some (some (.ref f12))) (l12 : K.lookup f12 = some ⟨oc12, od12, .func (PySem.W.fnOf "law" "law" (defArgs sLaw) (defBody sLaw) (defScope sLaw) .none kV12 dc12 pm12 an12 cd12 ct12), sl12⟩) (c12 : PySem.W.codeIn K cd12 "law" = true) (k12 : PySem.W.keepIn K (.ref f12) = true)
    (z1 : PySem.W.nsIn K mainGlobals "isinstance" = some none)
    (z2 : PySem.W.nsIn K mainGlobals "int" = some none)
    (z3 : PySem.W.nsIn K mainGlobals "bool" = some none)
    (z4 : PySem.W.nsIn K mainGlobals "tuple" = some none)
    (z5 : PySem.W.nsIn K mainGlobals "len" = some none)
    (z6 : PySem.W.nsIn K mainGlobals "all" = some none)
    (z7 : PySem.W.nsIn K mainGlobals "zip" = some none)
    (z8 : PySem.W.nsIn K mainGlobals "abs" = some none)
    (z9 : PySem.W.nsIn K mainGlobals "range" = some none)
    (z10 : PySem.W.nsIn K mainGlobals "list" = some none)
    (z11 : PySem.W.nsIn K mainGlobals "str" = some none)
    (z12 : PySem.W.nsIn K mainGlobals "repr" = some none)
    (z13 : PySem.W.nsIn K mainGlobals "max" = some none)
    (z14 : PySem.W.nsIn K mainGlobals "min" = some none)
    {tk1 : Tok} (g1 : PySem.W.nsIn K mainGlobals "MOST_GAP" = some (some (.int 1000000 tk1)))
    {tk2 : Tok} (g2 : PySem.W.nsIn K mainGlobals "PARTS" = some (some (.int 3 tk2)))
    : ∃ fd : FuncData, (∀ (s : Shared) (v : Value), BindsTo s fd ⟨[v], []⟩ [("_law_script", v)]) ∧ ∀ base : Heap, K.In base → base.Ns mainGlobals mg → FnG l.prog w K mg base CX0 9 fa fd ["_law_script"] (spLaw K) := by
  have e := hfa.symm.trans (PySem.W.mg_of X G0 a12)
  cases e
  have F1 := fun_mk (st := sInt) l1 c1 k1
  have b1 := F1.binds (ps := ["value"]) fun _ _ _ _ _ _ us hl => match us, hl with | [_], _ => rfl
  have m1 := PySem.W.mg_of X G0 a1
  have F2 := fun_mk (st := sTri) l2 c2 k2
  have b2 := F2.binds (ps := ["value"]) fun _ _ _ _ _ _ us hl => match us, hl with | [_], _ => rfl
  have m2 := PySem.W.mg_of X G0 a2
  have F3 := fun_mk (st := sSch) l3 c3 k3
  have b3 := F3.binds (ps := ["value"]) fun _ _ _ _ _ _ us hl => match us, hl with | [_], _ => rfl
  have m3 := PySem.W.mg_of X G0 a3
  have F4 := fun_mk (st := sJar) l4 c4 k4
  have b4 := F4.binds (ps := ["_law_script", "_law_k"]) fun _ _ _ _ _ _ us hl => match us, hl with | [_, _], _ => rfl
  have m4 := PySem.W.mg_of X G0 a4
  have F5 := fun_mk (st := sTake) l5 c5 k5
  have b5 := F5.binds (ps := ["_law_jar_here", "_law_many"]) fun _ _ _ _ _ _ us hl => match us, hl with | [_, _], _ => rfl
  have m5 := PySem.W.mg_of X G0 a5
  have F6 := fun_mk (st := sOf) l6 c6 k6
  have b6 := F6.binds (ps := ["_law_jar_here", "_law_some"]) fun _ _ _ _ _ _ us hl => match us, hl with | [_, _], _ => rfl
  have m6 := PySem.W.mg_of X G0 a6
  have F7 := fun_mk (st := sDrawn) l7 c7 k7
  have b7 := F7.binds (ps := ["_law_jar_here"]) fun _ _ _ _ _ _ us hl => match us, hl with | [_], _ => rfl
  have m7 := PySem.W.mg_of X G0 a7
  have F8 := fun_mk (st := sIs) l8 c8 k8
  have b8 := F8.binds (ps := ["_law_thing"]) fun _ _ _ _ _ _ us hl => match us, hl with | [_], _ => rfl
  have m8 := PySem.W.mg_of X G0 a8
  have F9 := fun_mk (st := sOdd) l9 c9 k9
  have b9 := F9.binds (ps := ["_law_jar_here"]) fun _ _ _ _ _ _ us hl => match us, hl with | [_], _ => rfl
  have m9 := PySem.W.mg_of X G0 a9
  have F10 := fun_mk (st := sBent) l10 c10 k10
  have b10 := F10.binds (ps := ["_law_jar_here", "_law_thing", "_law_deep"]) fun _ _ _ _ _ _ us hl => match us, hl with | [_, _, _], _ => rfl
  have m10 := PySem.W.mg_of X G0 a10
  have F11 := fun_mk (st := sRight) l11 c11 k11
  have b11 := F11.binds (ps := ["_law_jar_here"]) fun _ _ _ _ _ _ us hl => match us, hl with | [_], _ => rfl
  have m11 := PySem.W.mg_of X G0 a11
  have F12 := fun_mk (st := sLaw) l12 c12 k12
  have y1 := PySem.W.mg_none_of X G0 z1
  have y2 := PySem.W.mg_none_of X G0 z2
  have y3 := PySem.W.mg_none_of X G0 z3
  have y4 := PySem.W.mg_none_of X G0 z4
  have y5 := PySem.W.mg_none_of X G0 z5
  have y6 := PySem.W.mg_none_of X G0 z6
  have y7 := PySem.W.mg_none_of X G0 z7
  have y8 := PySem.W.mg_none_of X G0 z8
  have y9 := PySem.W.mg_none_of X G0 z9
  have y10 := PySem.W.mg_none_of X G0 z10
  have y11 := PySem.W.mg_none_of X G0 z11
  have y12 := PySem.W.mg_none_of X G0 z12
  have y13 := PySem.W.mg_none_of X G0 z13
  have y14 := PySem.W.mg_none_of X G0 z14
  have q1 := PySem.W.mg_of X G0 g1
  have q2 := PySem.W.mg_of X G0 g2
  refine ⟨PySem.W.fnOf "law" "law" (defArgs sLaw) (defBody sLaw) (defScope sLaw) .none kV12 dc12 pm12 an12 cd12 ct12, fun s v => .of_eq rfl, fun base _ _ => ?_⟩
  have T : Txt mg := ⟨y1, y2, y3, y4, y5, y6, y7, ⟨_, q1⟩, ⟨_, q2⟩, y8, y9, y10, y11, y12, y13, y14⟩
  have C1 : CalG l.prog w K mg base 1 "is_integer" ["value"] (spD isInt) := ⟨_, _, m1, k1, b1, ok_int (k := 0) F1 T⟩
  have C2 : CalG l.prog w K mg base 2 "is_triple" ["value"] (spD isTriple) := ⟨_, _, m2, k2, b2, ok_tri F2 T C1⟩
  have G3 := ok_sch (P := l.prog) (w := w) (base := base) F3 T C2
  have C3 : CalG l.prog w K mg base 3 "is_schedule" ["value"] (spD isSched) := ⟨_, _, m3, k3, b3, G3⟩
  have W3 : CalW l.prog w K mg base 3 "is_schedule" ["value"] ["value"] (spD isSched) := ⟨_, _, m3, k3, fun s ws _ hl => match ws, hl with | [_], _ => .of_eq rfl, G3⟩
  have C4 : CalG l.prog w K mg base 1 "_law_jar" ["_law_script", "_law_k"] (spJar K) := ⟨_, _, m4, k4, b4, ok_jar F4 T⟩
  have C5 : CalG l.prog w K mg base 1 "_law_take" ["_law_jar_here", "_law_many"] spTake := ⟨_, _, m5, k5, b5, ok_take F5 T⟩
  have C6 : CalG l.prog w K mg base 2 "_law_of" ["_law_jar_here", "_law_some"] spOf := ⟨_, _, m6, k6, b6, ok_of F6 T C5⟩
  have C7 : CalG l.prog w K mg base 3 "_law_drawn" ["_law_jar_here"] spDrawn := ⟨_, _, m7, k7, b7, ok_drawn F7 T C5 C6⟩
  have C8 : CalG l.prog w K mg base 1 "_law_is_schedule" ["_law_thing"] (spD lawIs) := ⟨_, _, m8, k8, b8, ok_is F8 T⟩
  have C9 : CalG l.prog w K mg base 3 "_law_odd" ["_law_jar_here"] spOdd := ⟨_, _, m9, k9, b9, ok_odd F9 T C6⟩
  have C10 : CalG l.prog w K mg base 7 "_law_bent" ["_law_jar_here", "_law_thing", "_law_deep"] (spBent 3) := ⟨_, _, m10, k10, b10, ok_bent F10 T m10 b10 C5 C6 C9 3⟩
  have C11 : CalG l.prog w K mg base 8 "_law_right" ["_law_jar_here"] spRight := ⟨_, _, m11, k11, b11, ok_right F11 T C5 C9 C7 C10 C8 C3 W3⟩
  exact ok_law F12 T C4 C11
theorem walk {l : PySem.W.OpenLaw} {q : Program} {loose : List Str} {XP : (Str → Option Value) → Heap → Prop} {YP : World → Heap → Prop} {d : DefRec} {K : Params → PySem.W.Frag} (hn : l.most = some 63) (hdf : d.params.defaults = [])
    (hY : ∀ (w : World) (h : Heap), YP w h → (K w.params).In h)
    (F : ∀ (w : World) (mg : Str → Option Value) (fa : Addr) (h : Heap), (K w.params).In h → h.Ns mainGlobals mg → mg d.name = some (.ref fa) → ∃ fd : FuncData, (∀ (s : Shared) (u : Value), BindsTo s fd ⟨[u], []⟩ [("_law_script", u)]) ∧
      ∀ base : Heap, (K w.params).In base → base.Ns mainGlobals mg → FnG l.prog w (K w.params) mg base CX0 9 fa fd ["_law_script"] (spLaw (K w.params))) : PySem.W.WalkO q loose XP YP l.row.toRowW d [] (fun f vs => PySem.call f vs) :=
  G.law_entry (n := 63) (k := 9) (x := "_law_script") (sp := spLaw) hn (by decide) hdf ⟨⟨rfl, by decide, by decide⟩, rfl⟩ hY F fun _ _ a ns hl hS => ⟨a, ns, rfl, hS, fun _ => rfl⟩
end K67
open PySem PySem.W PyProof.Rows
set_option maxRecDepth 100000 in
set_option maxHeartbeats 0 in
theorem PySem.Challenge.cw_movedamid_k67_schedules_of_any_value_holds : PySem.Challenge.rw_movedamid_k67_schedules_of_any_value.Holds := by
  w_on; o_law; k_head; (case hw => w_witness2)
  k_fill
  refine K67.walk (l := PySem.Challenge.rw_movedamid_k67_schedules_of_any_value) rfl rfl (fun w h Y => PySem.W.kIn_of Y) ?F
  case F =>
    intro w mg fa h KX G hmg
    refine' K67.all_mk KX G hmg ?a1 ?l1 ?c1 ?k1 ?a2 ?l2 ?c2 ?k2 ?a3 ?l3 ?c3 ?k3 ?a4 ?l4 ?c4 ?k4 ?a5 ?l5 ?c5 ?k5 ?a6 ?l6 ?c6 ?k6 ?a7 ?l7 ?c7 ?k7 ?a8 ?l8 ?c8 ?k8 ?a9 ?l9 ?c9 ?k9 ?a10 ?l10 ?c10 ?k10 ?a11 ?l11 ?c11 ?k11 ?a12 ?l12 ?c12 ?k12 ?z1 ?z2 ?z3 ?z4 ?z5 ?z6 ?z7 ?z8 ?z9 ?z10 ?z11 ?z12 ?z13 ?z14 ?g1 ?g2
    (case a1 => k_is)
    (case l1 => k_is)
    (case c1 => k_is)
    (case k1 => k_is)
    (case a2 => k_is)
    (case l2 => k_is)
    (case c2 => k_is)
    (case k2 => k_is)
    (case a3 => k_is)
    (case l3 => k_is)
    (case c3 => k_is)
    (case k3 => k_is)
    (case a4 => k_is)
    (case l4 => k_is)
    (case c4 => k_is)
    (case k4 => k_is)
    (case a5 => k_is)
    (case l5 => k_is)
    (case c5 => k_is)
    (case k5 => k_is)
    (case a6 => k_is)
    (case l6 => k_is)
    (case c6 => k_is)
    (case k6 => k_is)
    (case a7 => k_is)
    (case l7 => k_is)
    (case c7 => k_is)
    (case k7 => k_is)
    (case a8 => k_is)
    (case l8 => k_is)
    (case c8 => k_is)
    (case k8 => k_is)
    (case a9 => k_is)
    (case l9 => k_is)
    (case c9 => k_is)
    (case k9 => k_is)
    (case a10 => k_is)
    (case l10 => k_is)
    (case c10 => k_is)
    (case k10 => k_is)
    (case a11 => k_is)
    (case l11 => k_is)
    (case c11 => k_is)
    (case k11 => k_is)
    (case a12 => k_is)
    (case l12 => k_is)
    (case c12 => k_is)
    (case k12 => k_is)
    (case z1 => k_is)
    (case z2 => k_is)
    (case z3 => k_is)
    (case z4 => k_is)
    (case z5 => k_is)
    (case z6 => k_is)
    (case z7 => k_is)
    (case z8 => k_is)
    (case z9 => k_is)
    (case z10 => k_is)
    (case z11 => k_is)
    (case z12 => k_is)
    (case z13 => k_is)
    (case z14 => k_is)
    (case g1 => k_is)
    (case g2 => k_is)

end Part_N67
