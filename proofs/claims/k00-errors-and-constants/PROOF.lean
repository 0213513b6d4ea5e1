import PyProof.Rows.All
import Wide.All
import OpenK.AllK
import Wide.FinOn
import PyProof.EqAt
import PyProof.EqKinds
import PyProof.TupleCall
import HandS.ForMost
import HandS.Exc
import HandS.ExcOwn
import HandS.WordsExc
import HandS.TryOnly
import HandS.Walk
import HandS.IsInst
import HandS.Flow
import HandS.Wide
import HandS.Defaults
import KE.KTreeR
import HandS.HeadNt
import HandS.DictComp
import HandS.Lambda
import HandS.TupAny
import HandS.TupMul
import HandS.DictSub
import KE.DatumOrd
import HandS.ExcInit
import HandS.ExcIs
import HandS.ExcField
import HandS.HotCalls
import KE.KExcInit
import KE.KExcIs
import PySem.Challenge.RW_askable_k00_errors_and_constants
import HandS.HeadHook4
import HandS.Head0
import HandS.Head1
import HandS.Head2
import HandS.HeadEnd
import HandS.HeadWalk
import HandS.NestedK
import KE.KStateDown
import KE.KNestM
set_option Elab.async false
set_option linter.all false
set_option maxRecDepth 100000
section
set_option maxHeartbeats 2000000
namespace Ax
open PySem PySem.Spec PyProof.Rows L2

/-! ### the builtins by their names -/
theorem b_len : bootBuiltins (Str.ofString "len") = some (.builtin "len") := by decide +kernel
theorem b_all : bootBuiltins (Str.ofString "all") = some (.builtin "all") := by decide +kernel
theorem b_any : bootBuiltins (Str.ofString "any") = some (.builtin "any") := by decide +kernel
theorem b_sorted : bootBuiltins (Str.ofString "sorted") = some (.builtin "sorted") := by decide +kernel
theorem b_isinstance : bootBuiltins (Str.ofString "isinstance") = some (.builtin "isinstance") := by decide +kernel
theorem b_abs : bootBuiltins (Str.ofString "abs") = some (.builtin "abs") := by decide +kernel
theorem b_max : bootBuiltins (Str.ofString "max") = some (.builtin "max") := by decide +kernel
theorem b_min : bootBuiltins (Str.ofString "min") = some (.builtin "min") := by decide +kernel
theorem b_sum : bootBuiltins (Str.ofString "sum") = some (.builtin "sum") := by decide +kernel
theorem b_repr : bootBuiltins (Str.ofString "repr") = some (.builtin "repr") := by decide +kernel
theorem b_iter : bootBuiltins (Str.ofString "iter") = some (.builtin "iter") := by decide +kernel
theorem b_ord : bootBuiltins (Str.ofString "ord") = some (.builtin "ord") := by decide +kernel
theorem b_chr : bootBuiltins (Str.ofString "chr") = some (.builtin "chr") := by decide +kernel
theorem b_str : bootBuiltins (Str.ofString "str") = some (.type "str") := by decide +kernel
theorem b_int : bootBuiltins (Str.ofString "int") = some (.type "int") := by decide +kernel
theorem b_bool : bootBuiltins (Str.ofString "bool") = some (.type "bool") := by decide +kernel
theorem b_tuple : bootBuiltins (Str.ofString "tuple") = some (.type "tuple") := by decide +kernel
theorem b_list : bootBuiltins (Str.ofString "list") = some (.type "list") := by decide +kernel
theorem b_dict : bootBuiltins (Str.ofString "dict") = some (.type "dict") := by decide +kernel
theorem b_set : bootBuiltins (Str.ofString "set") = some (.type "set") := by decide +kernel
theorem b_range : bootBuiltins (Str.ofString "range") = some (.type "range") := by decide +kernel
theorem b_enumerate : bootBuiltins (Str.ofString "enumerate") = some (.type "enumerate") := by decide +kernel
theorem b_zip : bootBuiltins (Str.ofString "zip") = some (.type "zip") := by decide +kernel
/-! ### the weakest precondition of a piece of syntax -/
structure W (X : Cx) (e : Expr) (σ : L2.St) (H : Hp) (Q : VK) : Prop where
  run : ∀ (pins : List (Addr × Obj)) (s : Shared), Inv X pins σ H s → wpAny (model X.prog X.w) X.A (eval e X.env) (EP X pins σ Q) X.xe s
structure WT (X : Cx) (e : Expr) (σ : L2.St) (H : Hp) (Q : Bool → Hp → Prop) : Prop where
  run : ∀ (pins : List (Addr × Obj)) (s : Shared), Inv X pins σ H s → wpAny (model X.prog X.w) X.A (isTrue e X.env (eval e X.env)) (TP X pins σ Q) X.xe s
structure WW (X : Cx) (e : Expr) (σ : L2.St) (H : Hp) (Q : Bool → Hp → Prop) : Prop where
  run : ∀ (whole : Sem Value) (pins : List (Addr × Obj)) (s : Shared), Inv X pins σ H s → wpAny (model X.prog X.w) X.A (isTrue e X.env whole) (TP X pins σ Q) X.xe s
structure WA (X : Cx) (es : List Expr) (σ : L2.St) (H : Hp) (Q : List V → Hp → Prop) : Prop where
  run : ∀ (pos : Pos) (pins : List (Addr × Obj)) (s : Shared), Inv X pins σ H s → wpAny (model X.prog X.w) X.A (spliced (backTo pos (starEach es X.env))) (AP X pins σ Q) X.xe s
structure WS (X : Cx) (st : Stmt) (D : Ends) (σ : L2.St) (H : Hp) : Prop where
  run : ∀ (pins : List (Addr × Obj)) (s : Shared), Inv X pins σ H s → wpAny (model X.prog X.w) X.A (exec st X.env) (SP X pins D) X.xe s
structure WB (X : Cx) (st : List Stmt) (D : Ends) (σ : L2.St) (H : Hp) : Prop where
  run : ∀ (pins : List (Addr × Obj)) (s : Shared), Inv X pins σ H s → wpAny (model X.prog X.w) X.A (execs st X.env) (SP X pins D) X.xe s
section
variable {X : Cx} {e a b : Expr} {es : List Expr} {st : Stmt} {bl : List Stmt} {te : TE} {tt : TT} {ta : TA} {ts : TS} {σ : L2.St} {H : Hp} {Q : VK} {D : Ends} {pos : Pos}
theorem W.pe : PE X e (W X e) := ⟨fun pins s _ _ _ I h => h.run pins s I⟩
theorem WT.pt : PT X e (WT X e) := ⟨fun pins s _ _ _ I h => h.run pins s I⟩
theorem WW.pw : PW X e (WW X e) := ⟨fun wh pins s _ _ _ I h => h.run wh pins s I⟩
theorem WA.pa : PA X es (WA X es) := ⟨fun pos pins s _ _ _ I h => h.run pos pins s I⟩
theorem WS.ps : PS X st (WS X st) := ⟨fun pins s _ _ _ I h => h.run pins s I⟩
theorem WB.pss : PSs X bl (WB X bl) := ⟨fun pins s _ _ _ I h => h.run pins s I⟩
theorem W.of (h : PE X e te) (q : te σ H Q) : W X e σ H Q := ⟨fun pins s I => h.run pins s σ H Q I q⟩
theorem WT.of {Q : Bool → Hp → Prop} (h : PT X e tt) (q : tt σ H Q) : WT X e σ H Q := ⟨fun pins s I => h.run pins s σ H Q I q⟩
theorem WW.of {Q : Bool → Hp → Prop} (h : PW X e tt) (q : tt σ H Q) : WW X e σ H Q := ⟨fun wh pins s I => h.run wh pins s σ H Q I q⟩
theorem WA.of {Q : List V → Hp → Prop} (h : PA X es ta) (q : ta σ H Q) : WA X es σ H Q := ⟨fun pos pins s I => h.run pos pins s σ H Q I q⟩
theorem WS.of (h : PS X st ts) (q : ts D σ H) : WS X st D σ H := ⟨fun pins s I => h.run pins s σ H D I q⟩
theorem WB.of (h : PSs X bl ts) (q : ts D σ H) : WB X bl D σ H := ⟨fun pins s I => h.run pins s σ H D I q⟩
theorem W.mono {Q' : VK} (h : W X e σ H Q) (k : ∀ v H', Q v H' → Q' v H') : W X e σ H Q' := ⟨fun pins s I => thn (h.run pins s I) fun _ _ ⟨v, H', J, r, q⟩ => ⟨v, H', J, r, k v H' q⟩⟩
theorem WT.mono {Q Q' : Bool → Hp → Prop} (h : WT X e σ H Q) (k : ∀ v H', Q v H' → Q' v H') : WT X e σ H Q' := ⟨fun pins s I => thn (h.run pins s I) fun _ _ ⟨H', J, q⟩ => ⟨H', J, k _ H' q⟩⟩
theorem WA.mono {Q Q' : List V → Hp → Prop} (h : WA X es σ H Q) (k : ∀ v H', Q v H' → Q' v H') : WA X es σ H Q' := ⟨fun pos pins s I => thn (h.run pos pins s I) fun _ _ ⟨v, H', J, r, q⟩ => ⟨v, H', J, r, k v H' q⟩⟩
/-! ### names, constants -/
theorem w_var (i : Nat) {x : Str} {v : V} (hN : X.N[i]? = some x) (hv : Vis X.env.scope x) (hs : σ[i]? = some (some v)) (h : Q v H) (hd : (x == ("__debug__" : Str)) = false := by decide) (hcd : (x == ("__classdict__" : Str)) = false := by decide) :
    W X (.Name x pos) σ H Q := W.of (pe_var hN hv hd hcd) ⟨v, hs, h⟩
theorem w_int {i j} (h : Q (.int i) H) : W X (.Constant (.int i) j pos) σ H Q := W.of pe_int h
theorem w_str {x j} (h : Q (.str x) H) : W X (.Constant (.str x) j pos) σ H Q := W.of pe_str h
theorem w_bl {x j} (h : Q (.bl x) H) : W X (.Constant (.bool x) j pos) σ H Q := W.of pe_bl h
theorem w_non {j} (h : Q .non H) : W X (.Constant .none j pos) σ H Q := W.of pe_non h
theorem w_glob {x : Str} {v : V} (hm : ∃ u, X.mg x = some u ∧ RelV v u) (h : Q v H) (hg : Gl X x := by rfl) (hd : (x == ("__debug__" : Str)) = false := by decide) : W X (.Name x pos) σ H Q := by
  obtain ⟨u, hm, r⟩ := hm
  exact W.of (pe_glob hg hm r hd) h
theorem w_bltT {T : String} (hm : X.mg (Str.ofString T) = none) (h : Q (.ty T) H) (hv : bootBuiltins (Str.ofString T) = some (.type T) := by tbr_iter "boot") (hg : Gl X (Str.ofString T) := by rfl) (hn : (Str.ofString T) ≠ "__name__" := by decide)
    (hd : ((Str.ofString T) == ("__debug__" : Str)) = false := by decide) : W X (.Name (Str.ofString T) pos) σ H Q := W.of (pe_bltn (v := .ty T) hg hm hv rfl hn hd) h
/-! ### operators: the rule is chosen behind the operands -/
structure BinV (X : Cx) (op : Operator) (x y : V) (H : Hp) (Q : VK) : Prop where
  ex : ∃ r : R2, OpR X (binaryOp op) r ∧ r x y H Q
structure CmpV (X : Cx) (op : CmpOp) (x y : V) (H : Hp) (Q : VK) : Prop where
  ex : ∃ r : R2, OpR X (compareOp op) r ∧ r x y H Q
structure UnV (X : Cx) (op : UnaryOp) (x : V) (H : Hp) (Q : VK) : Prop where
  ex : ∃ r : V → Hp → VK → Prop, UnR X (unaryOp op) r ∧ r x H Q
structure IxV (X : Cx) (x y : V) (H : Hp) (Q : VK) : Prop where
  ex : ∃ r : R2, IxR X r ∧ r x y H Q
structure CallV (X : Cx) (f : Value) (vs : List V) (H : Hp) (Q : VK) : Prop where
  ex : ∃ r : List V → Hp → VK → Prop, CallR X f r ∧ r vs H Q
structure MtV (X : Cx) (id : String) (x : V) (vs : List V) (H : Hp) (Q : VK) : Prop where
  ex : ∃ r : V → List V → Hp → VK → Prop, MtR X id r ∧ r x vs H Q
theorem binV_r {op : Operator} : OpR X (binaryOp op) (BinV X op) := fun pins s σ H x y v u Q I rx ry ⟨_, ho, h⟩ => ho pins s σ H x y v u Q I rx ry h
theorem cmpV_r {op : CmpOp} : OpR X (compareOp op) (CmpV X op) := fun pins s σ H x y v u Q I rx ry ⟨_, ho, h⟩ => ho pins s σ H x y v u Q I rx ry h
theorem unV_r {op : UnaryOp} : UnR X (unaryOp op) (UnV X op) := fun pins s σ H x v Q I rx ⟨_, ho, h⟩ => ho pins s σ H x v Q I rx h
theorem ixV_r : IxR X (IxV X) := fun a b pins s σ H x y v u Q I rx ry ⟨_, ho, h⟩ z => ho a b pins s σ H x y v u Q I rx ry h z
theorem callV_r {f : Value} : CallR X f (CallV X f) := fun pins s σ H xs us Q I r ⟨_, ho, h⟩ => ho pins s σ H xs us Q I r h
theorem mtV_r {id : String} : MtR X id (MtV X id) := fun pins s σ H x xs v us Q I rx r ⟨_, ho, h⟩ => ho pins s σ H x xs v us Q I rx r h
theorem w_bin {op : Operator} (h : W X a σ H fun x H1 => W X b σ H1 fun y H2 => BinV X op x y H2 Q) : W X (.BinOp a op b pos) σ H Q := W.of (pe_op binV_r W.pe W.pe) h
theorem w_un {op : UnaryOp} (h : W X a σ H fun x H1 => UnV X op x H1 Q) : W X (.UnaryOp op a pos) σ H Q := W.of (pe_un unV_r W.pe) h
theorem w_cmp {op : CmpOp} (h : W X a σ H fun x H1 => W X b σ H1 fun y H2 => CmpV X op x y H2 Q) (hm : behindInMarks op b = false := by rfl) : W X (.Compare a [op] [b] pos) σ H Q := W.of (pe_cmpR cmpV_r W.pe W.pe hm) h
theorem wt_cmp {op : CmpOp} {Q : Bool → Hp → Prop} (h : W X a σ H fun x H1 => W X b σ H1 fun y H2 => CmpV X op x y H2 fun z H3 => ∃ c, z = .bl c ∧ Q c H3) (hm : behindInMarks op b = false := by rfl) : WT X (.Compare a [op] [b] pos) σ H Q :=
  WT.of (pt_cmpR cmpV_r W.pe W.pe hm) h
theorem w_chain {c : Expr} {op op' : CmpOp} (h : W X a σ H fun x H1 => W X b σ H1 fun y H2 => CmpV X op x y H2 fun z H3 => ∃ k, z = .bl k ∧ (if k = true then W X c σ H3 fun w' H4 => CmpV X op' y w' H4 Q else Q (.bl false) H3))
    (hm : lastMarks [op, op'] [b, c] = false := by with_unfolding_all rfl) : W X (.Compare a [op, op'] [b, c] pos) σ H Q := W.of (pe_chain cmpV_r cmpV_r W.pe W.pe W.pe hm) h
theorem w_ix (h : W X a σ H fun x H1 => W X b σ H1 fun y H2 => IxV X x y H2 Q) (hs : PlainIx b := by exact fun _ _ => rfl) : W X (.Subscript a b pos) σ H Q := W.of (pe_ix ixV_r W.pe W.pe hs) h
theorem w_ifExp {c : Expr} (h : WT X c σ H fun k H1 => if k = true then W X a σ H1 Q else W X b σ H1 Q) : W X (.IfExp c a b pos) σ H Q := W.of (pe_ifExp WT.pt W.pe W.pe) h
theorem w_and {rest : List Expr} (h : W X a σ H fun x H1 => ∃ c, x = .bl c ∧ if c = true then W X (.BoolOp .And (b :: rest) pos) σ H1 Q else Q (.bl false) H1) : W X (.BoolOp .And (a :: b :: rest) pos) σ H Q := W.of (pe_and W.pe W.pe) h
theorem w_or {rest : List Expr} (h : W X a σ H fun x H1 => ∃ c, x = .bl c ∧ if c = true then Q (.bl true) H1 else W X (.BoolOp .Or (b :: rest) pos) σ H1 Q) : W X (.BoolOp .Or (a :: b :: rest) pos) σ H Q := W.of (pe_or W.pe W.pe) h
theorem w_one {op} (h : W X a σ H Q) : W X (.BoolOp op [a] pos) σ H Q := W.of (pe_one W.pe) h
theorem w_not (h : W X a σ H fun x H1 => ∃ c, x = .bl c ∧ Q (.bl (!c)) H1) : W X (.UnaryOp .Not a pos) σ H Q := W.of (pe_not W.pe) h
/-! ### tests -/
section
variable {Q : Bool → Hp → Prop}
theorem wt_val (h : W X e σ H fun x H1 => ∃ c, x = .bl c ∧ Q c H1) (he : ∀ whole, isTrue e X.env whole = (do let v ← whole; standAt e.pos; holding [v] (truthy v)) := by intro _; rfl) : WT X e σ H Q := WT.of (pt_val W.pe he) h
theorem wt_truth (h : W X e σ H fun x H1 => ∃ k, TruV X.K x H1 k ∧ Q k H1) (he : ∀ whole, isTrue e X.env whole = (do let v ← whole; standAt e.pos; holding [v] (truthy v)) := by intro _; rfl) : WT X e σ H Q := WT.of (pt_truth W.pe he) h
theorem wt_not (h : WT X a σ H fun c H1 => Q (!c) H1) : WT X (.UnaryOp .Not a pos) σ H Q := WT.of (pt_not WT.pt) h
theorem wt_bool {op} {es : List Expr} (h : WW X (.BoolOp op es pos) σ H Q) : WT X (.BoolOp op es pos) σ H Q := ⟨fun pins s I => h.run _ pins s I⟩
theorem ww_and {rest : List Expr} (h : WT X a σ H fun c H1 => if c = true then WW X (.BoolOp .And (b :: rest) pos) σ H1 Q else Q false H1) : WW X (.BoolOp .And (a :: b :: rest) pos) σ H Q := WW.of (pw_and WT.pt WW.pw) h
theorem ww_and1 (h : WT X a σ H Q) : WW X (.BoolOp .And [a] pos) σ H Q := WW.of (pw_and1 WT.pt) h
theorem ww_or {rest : List Expr} (h : WT X a σ H fun c H1 => if c = true then Q true H1 else WW X (.BoolOp .Or (b :: rest) pos) σ H1 Q) : WW X (.BoolOp .Or (a :: b :: rest) pos) σ H Q := WW.of (pw_or WT.pt WW.pw) h
theorem ww_or1 (h : WT X a σ H Q) : WW X (.BoolOp .Or [a] pos) σ H Q := WW.of (pw_or1 WT.pt) h
end
/-! ### arguments, displays -/
theorem wa_nil {Q : List V → Hp → Prop} (h : Q [] H) : WA X [] σ H Q := WA.of pa_nil h
theorem wa_cons {Q : List V → Hp → Prop} (h : W X e σ H fun x H1 => WA X es σ H1 fun xs H2 => Q (x :: xs) H2) (hs : starEach (e :: es) X.env = (false, eval e X.env) :: starEach es X.env := by rfl) : WA X (e :: es) σ H Q := WA.of (pa_cons W.pe WA.pa hs) h
theorem w_tup {x1} (h : WA X es σ H fun xs H1 => xs.length ≤ sizeLine ∧ ∀ p H2, Same H1 H2 → H1 p = none → H2 p = some (.tup xs) → Q (.ref p) H2) : W X (.Tuple es x1 pos) σ H Q :=
  W.of (pe_tup WA.pa) (show WA X es σ H _ from WA.mono h fun xs H1 ⟨z, k⟩ => ⟨z, fun p hp => k p _ (fun b o eb => by rw [upd_ne (ne_of_none eb hp)]; exact eb) hp upd_same⟩)
theorem w_lst (h : WA X es σ H fun xs H1 => xs.length ≤ sizeLine ∧ ∀ p H2, Same H1 H2 → H1 p = none → H2 p = some (.lst xs) → Q (.ref p) H2) : W X (.List es pos) σ H Q :=
  W.of (pe_lst WA.pa) (show WA X es σ H _ from WA.mono h fun xs H1 ⟨z, k⟩ => ⟨z, fun p hp => k p _ (fun b o eb => by rw [upd_ne (ne_of_none eb hp)]; exact eb) hp upd_same⟩)
/-! ### calls of builtins by name -/
theorem w_callB {id : String} {p : Pos} (hm : X.mg (Str.ofString id) = none) (h : WA X (e :: es) σ H fun vs H1 => CallV X (.builtin id) vs H1 Q) (hv : bootBuiltins (Str.ofString id) = some (.builtin id) := by tbr_iter "boot") (hg : Gl X (Str.ofString id) := by rfl) (hn : (Str.ofString id) ≠ "__name__" := by decide)
    (hdb : ((Str.ofString id) == ("__debug__" : Str)) = false := by decide) (he : starEach (e :: es) X.env = (false, eval e X.env) :: starEach es X.env := by rfl) (hpl : (backTo pos (starEach es X.env)).any (·.1) = false := by rfl) : W X (.Call (.Name (Str.ofString id) p) (e :: es) [] pos) σ H Q :=
  W.of (pe_callB callV_r hg hm hv WA.pa hn hdb he hpl) h
theorem w_callTy {T : String} {p : Pos} (hm : X.mg (Str.ofString T) = none) (h : WA X (e :: es) σ H fun vs H1 => CallV X (.type T) vs H1 Q) (hv : bootBuiltins (Str.ofString T) = some (.type T) := by tbr_iter "boot") (hg : Gl X (Str.ofString T) := by rfl) (hn : (Str.ofString T) ≠ "__name__" := by decide)
    (hdb : ((Str.ofString T) == ("__debug__" : Str)) = false := by decide) (he : starEach (e :: es) X.env = (false, eval e X.env) :: starEach es X.env := by rfl) (hpl : (backTo pos (starEach es X.env)).any (·.1) = false := by rfl) : W X (.Call (.Name (Str.ofString T) p) (e :: es) [] pos) σ H Q :=
  W.of (pe_callTy callV_r hg hm hv WA.pa hn hdb he hpl) h
end
end Ax
end
section
set_option maxHeartbeats 2000000
namespace Ax
open PySem PySem.Spec PyProof.Rows L2

/-! ### heaps: what stands -/
/-- all but lists, dicts and soft things stand -/
def softO : HO → Bool
  | .lst _ => true
  | .dK _ => true
  | .dT _ => true
  | .set _ _ => true
  | .tbl _ => true
  | .ext _ => true
  | _ => false
def Sl (H H' : Hp) : Prop := ∀ a o, H a = some o → softO o = false → H' a = some o
theorem Sl.refl (H : Hp) : Sl H H := fun _ _ h _ => h
theorem Sl.trans {H H1 H2 : Hp} (a : Sl H H1) (b : Sl H1 H2) : Sl H H2 := fun c o h n => b c o (a c o h n) n
theorem Sl.of {H H' : Hp} (e : Same H H') : Sl H H' := fun b o h _ => e b o h
theorem Sl.lst {H H' : Hp} {p : Addr} {xs ys : List V} (e : Sl H H') (h : H' p = some (.lst xs)) : Sl H (upd H' p (.lst ys)) := fun a o ha hs => by
  have h1 := e a o ha hs
  by_cases z : a = p
  · rw [z, h] at h1
    cases h1
    cases hs
  · rw [upd_ne z]
    exact h1
theorem Sl.upd {H H' : Hp} {p : Addr} {o u : HO} (e : Sl H H') (h : H' p = some o) (hs : softO o = true) : Sl H (upd H' p u) := fun a v ha hv => by
  have h1 := e a v ha hv
  by_cases z : a = p
  · rw [z, h] at h1
    cases h1
    rw [hs] at hv
    cases hv
  · rw [upd_ne z]
    exact h1
theorem Sl.tup {K : PySem.W.Frag} {H H' : Hp} {a : Addr} {xs : List V} (e : Sl H H') (h : SqT K H a xs) : SqT K H' a xs := by
  rcases h with (h | ⟨o, h⟩) | h
  · exact .inl (.inl (e _ _ h rfl))
  · exact .inl (.inr ⟨o, e _ _ h rfl⟩)
  · exact .inr h
theorem same_tup {K : PySem.W.Frag} {H H' : Hp} {a : Addr} {xs : List V} (e : Same H H') (h : SqT K H a xs) : SqT K H' a xs := Sl.tup (Sl.of e) h
theorem same_upd {H H' : Hp} {p : Addr} {o : HO} (e : Same H H') (n : H p = none) : Same H (upd H' p o) := fun a u ha => by
  rw [upd_ne (ne_of_none ha n)]
  exact e a u ha
theorem same_new {H : Hp} {p : Addr} {o : HO} (n : H p = none) : Same H (upd H p o) := same_upd (Same.refl H) n
theorem same_nul {H H' : Hp} {p : Addr} (e : Same H H') (h : H' p = none) : H p = none := Same.free e h
/-! ### data -/
mutual
theorem dp_same {K : PySem.W.Frag} {H H' : Hp} (s : Same H H') : ∀ {d : PyData} {v : V}, Dp K H v d → Dp K H' v d
  | .none, _, h => by cases h; exact .non
  | .bool _, _, h => by cases h; exact .bl _
  | .int _, _, h => by cases h; exact .int _
  | .str _, _, h => by cases h; exact .str _
  | .list ds, _, h => by
    cases h with
    | lst hs ha => exact .lst (s.seq hs) (dpa_same s ha)
  | .tuple ds, _, h => by
    cases h with
    | tup hs ha => exact .tup (same_tup s hs) (dpa_same s ha)
  | .dict _, _, h => by cases h
theorem dpa_same {K : PySem.W.Frag} {H H' : Hp} (s : Same H H') : ∀ {ds : List PyData} {vs : List V}, DpAll K H vs ds → DpAll K H' vs ds
  | [], _, h => by cases h; exact .nil
  | d :: ds, _, h => by
    cases h with
    | cons h1 h2 => exact .cons (dp_same s h1) (dpa_same s h2)
end
mutual
def hard : PyData → Bool
  | .list _ => false
  | .tuple ds => hardAll ds
  | .dict _ => false
  | _ => true
def hardAll : List PyData → Bool
  | [] => true
  | d :: ds => hard d && hardAll ds
end
mutual
theorem dp_sl {K : PySem.W.Frag} {H H' : Hp} (s : Sl H H') : ∀ {d : PyData} {v : V}, hard d = true → Dp K H v d → Dp K H' v d
  | .none, _, _, h => by cases h; exact .non
  | .bool _, _, _, h => by cases h; exact .bl _
  | .int _, _, _, h => by cases h; exact .int _
  | .str _, _, _, h => by cases h; exact .str _
  | .list ds, _, hd, h => by simp [hard] at hd
  | .tuple ds, _, hd, h => by
    cases h with
    | tup hs ha => exact .tup (s.tup hs) (dpa_sl s (by simpa [hard] using hd) ha)
  | .dict _, _, _, h => by cases h
theorem dpa_sl {K : PySem.W.Frag} {H H' : Hp} (s : Sl H H') : ∀ {ds : List PyData} {vs : List V}, hardAll ds = true → DpAll K H vs ds → DpAll K H' vs ds
  | [], _, _, h => by cases h; exact .nil
  | d :: ds, _, hd, h => by
    cases h with
    | cons h1 h2 =>
      have z : hard d = true ∧ hardAll ds = true := by simpa [hardAll] using hd
      exact .cons (dp_sl s z.1 h1) (dpa_sl s z.2 h2)
end
theorem dpa_len {K : PySem.W.Frag} {H : Hp} : ∀ {ds : List PyData} {vs : List V}, DpAll K H vs ds → vs.length = ds.length
  | [], _, h => by cases h; rfl
  | d :: ds, _, h => by
    cases h with
    | cons h1 h2 => simp [dpa_len h2]
theorem dpa_get {K : PySem.W.Frag} {H : Hp} : ∀ {ds : List PyData} {vs : List V} {i : Nat} {v : V}, DpAll K H vs ds → vs[i]? = some v → ∃ d, ds[i]? = some d ∧ Dp K H v d
  | [], _, i, v, h, e => by cases h; simp at e
  | d :: ds, _, i, v, h, e => by
    cases h with
    | cons h1 h2 =>
      cases i with
      | zero => simp at e; subst e; exact ⟨d, rfl, h1⟩
      | succ i =>
        obtain ⟨d', e1, e2⟩ := dpa_get (i := i) h2 (by simpa using e)
        exact ⟨d', by simpa using e1, e2⟩
theorem dpa_getD {K : PySem.W.Frag} {H : Hp} : ∀ {ds : List PyData} {vs : List V} {i : Nat} {d : PyData}, DpAll K H vs ds → ds[i]? = some d → ∃ v, vs[i]? = some v ∧ Dp K H v d
  | [], _, i, v, h, e => by simp at e
  | d :: ds, _, i, v, h, e => by
    cases h with
    | cons h1 h2 =>
      cases i with
      | zero => simp at e; subst e; exact ⟨_, rfl, h1⟩
      | succ i =>
        obtain ⟨d', e1, e2⟩ := dpa_getD (i := i) h2 (by simpa using e)
        exact ⟨d', by simpa using e1, e2⟩
theorem dpa_app {K : PySem.W.Frag} {H : Hp} : ∀ {ds es : List PyData} {vs us : List V}, DpAll K H vs ds → DpAll K H us es → DpAll K H (vs ++ us) (ds ++ es)
  | [], _, _, _, h, g => by cases h; exact g
  | d :: ds, _, _, _, h, g => by
    cases h with
    | cons h1 h2 => exact .cons h1 (dpa_app h2 g)
theorem dpa_one {K : PySem.W.Frag} {H : Hp} {v : V} {d : PyData} (h : Dp K H v d) : DpAll K H [v] [d] := .cons h .nil
/-! ### a def that can be called -/
structure Callee (P : Program) (w : World) (K : PySem.W.Frag) (mg : Str → Option Value) (base : Heap) (x : Str) (k : Nat) (ps : List Str) (sp : Sp) : Prop where
  ex : ∃ f fd, FnOk P w K mg base (L2.CX P w) k f fd ps sp ∧ Binds K fd ps [] ∧ mg x = some (.ref f) ∧ PySem.W.keepIn K (.ref f) = true
section
variable {X : Cx} {e a b : Expr} {es : List Expr} {st : Stmt} {bl rest : List Stmt} {σ : L2.St} {H : Hp} {Q : VK} {D : Ends} {pos : Pos}
theorem w_call {x : Str} {k : Nat} {ps : List Str} {sp : Sp} {p : Pos} {E : XK} (C : Callee X.prog X.w X.K X.mg X.base x k ps sp) (hr : Room k X.A) (hx : Passes (L2.CX X.prog X.w) X E) (h : WA X (e :: es) σ H fun vs H1 => sp vs H1 Q E) (hg : Gl X x := by rfl)
    (hdb : (x == ("__debug__" : Str)) = false := by decide) (he : starEach (e :: es) X.env = (false, eval e X.env) :: starEach es X.env := by rfl) (hpl : (backTo pos (starEach es X.env)).any (·.1) = false := by rfl) : W X (.Call (.Name x p) (e :: es) [] pos) σ H Q := by
  obtain ⟨f, fd, F, B, hm, hk⟩ := C.ex
  refine W.of (pe_call F hr hg hm hk B .nil hx WA.pa hdb he hpl) ?_
  show WA X (e :: es) σ H _
  exact WA.mono h fun vs H1 q => by rw [List.append_nil]; exact q
/-! ### statements -/
theorem wb_nil (h : D.nx σ H) : WB X [] D σ H := WB.of pss_nil h
theorem wb_cons (h : WS X st { D with nx := WB X rest D } σ H) : WB X (st :: rest) D σ H := WB.of (pss_cons WS.ps WB.pss) h
theorem ws_ret (h : W X e σ H D.rt) : WS X (.Return (some e) pos) D σ H := WS.of (ps_ret W.pe) h
theorem ws_retN (h : D.rt .non H) : WS X (.Return none pos) D σ H := WS.of ps_retN h
theorem ws_pass (h : D.nx σ H) : WS X (.Pass pos) D σ H := WS.of ps_pass h
theorem ws_break (h : D.bk σ H) : WS X (.Break pos) D σ H := WS.of ps_break h
theorem ws_continue (h : D.ct σ H) : WS X (.Continue pos) D σ H := WS.of ps_continue h
theorem ws_expr (h : W X e σ H fun _ H1 => D.nx σ H1) (hs : swapsWith e none pos.line X.env = pure false := by rfl) : WS X (.Expr e pos) D σ H := WS.of (ps_expr W.pe hs) h
theorem ws_if {c : Expr} {u v : List Stmt} (h : WT X c σ H fun k H1 => if k = true then WB X u D σ H1 else WB X v D σ H1) : WS X (.If c u v pos) D σ H := WS.of (ps_if WT.pt WB.pss WB.pss) h
theorem ws_set (i : Nat) {x : Str} {p2 : Pos} (h : W X e σ H fun v H1 => D.nx (σ.set i (some v)) H1) (hi : X.N[i]? = some x) (hN : X.N.Nodup) (hx : Loc X.env.scope x := by first | exact Or.inl rfl | exact Or.inr rfl)
    (hs : swapsWith e (some (.Name x p2)) pos.line X.env = pure false := by rfl) (hf : X.fn x = true ∨ X.env.scope.names.lookup x = some .local := by first | exact Or.inl rfl | exact Or.inr rfl) : WS X (.Assign [.Name x p2] e pos) D σ H :=
  WS.of (ps_set hN hi hx W.pe hs hf) h
structure SetV (X : Cx) (o i v : V) (H : Hp) (Q : Hp → Prop) : Prop where
  ex : ∃ r : TSet, PSet X r ∧ r o i v H Q
theorem setV_r : PSet X (SetV X) := fun pins s σ H o i v ov iv u Q I ro ri rv ⟨_, hs, h⟩ => hs pins s σ H o i v ov iv u Q I ro ri rv h
theorem ws_sub {o i : Expr} {p : Pos} (h : W X e σ H fun v H1 => W X o σ H1 fun ov H2 => W X i σ H2 fun iv H3 => SetV X ov iv v H3 fun H4 => D.nx σ H4)
    (hs : swapsWithSole [.Subscript o i p] e pos.line X.env = pure false := by rfl) (hw : swappedStores [.Subscript o i p] e X.env = pure none := by rfl)
    (ha : ∀ v, assign (.Subscript o i p) X.env v = (do
      let ov ← holding [v] (eval o X.env)
      let iv ← holding [v, ov] (eval i X.env)
      standAt p
      holding [v, ov, iv] (setItem ov iv v)
      release [v, ov, iv] []) := by intro _; rfl) : WS X (.Assign [.Subscript o i p] e pos) D σ H :=
  WS.of (ps_asg W.pe (pg_sub W.pe W.pe setV_r ha) hs hw) h
theorem sv_list {p : Addr} {xs : List V} {k : Int} {j : Nat} {v : V} {Q : Hp → Prop} (hp : H p = some (.lst xs)) (hj : ixN xs.length k = some j) (h : Q (upd H p (.lst (xs.set j v)))) : SetV X (.ref p) (.int k) v H Q := ⟨_, set_list, p, xs, k, j, rfl, rfl, hp, hj, h⟩
/-- if by its two ways -/
theorem w_if2 {c : Bool} {A B : Prop} (h1 : c = true → A) (h2 : c = false → B) : if c = true then A else B := by
  cases c with
  | true => rw [if_pos rfl]; exact h1 rfl
  | false => rw [if_neg Bool.false_ne_true]; exact h2 rfl
/-! ### operators by values -/
variable {x y : V}
theorem bv_add {i j : Int} (h : Q (.int (i + j)) H) : BinV X .Add (.int i) (.int j) H Q := ⟨_, op_add, i, j, rfl, rfl, h⟩
theorem bv_sub {i j : Int} (h : Q (.int (i - j)) H) : BinV X .Sub (.int i) (.int j) H Q := ⟨_, op_sub, i, j, rfl, rfl, h⟩
theorem bv_mul {i j : Int} (c : CMul i j) (h : Q (.int (i * j)) H) : BinV X .Mult (.int i) (.int j) H Q := ⟨_, op_mul, i, j, rfl, rfl, c, h⟩
theorem bv_mulW {i j : Int} (c : CMulW i j) (h : Q (.int (i * j)) H) : BinV X .Mult (.int i) (.int j) H Q := ⟨_, op_mulW, i, j, rfl, rfl, c, h⟩
theorem bv_mod {i j : Int} (c : 0 < j) (h : Q (.int (i % j)) H) : BinV X .Mod (.int i) (.int j) H Q := ⟨_, op_mod, i, j, rfl, rfl, c, h⟩
theorem bv_fdiv {i j : Int} (c : CDiv i j) (h : Q (.int (i / j)) H) : BinV X .FloorDiv (.int i) (.int j) H Q := ⟨_, op_fdiv, i, j, rfl, rfl, c, h⟩
def CPowW (i j : Int) : Prop := 0 ≤ j ∧ (Builtin.Int.intBits i : Int) * j ≤ 2 ^ 27
theorem op_powW : OpR X (binaryOp .Pow) (rI CPowW fun i j => .int (i ^ j.toNat)) := opI fun _ _ _ _ _ _ _ hc q => pow_int hc.1 hc.2 q
theorem bv_pow {i j : Int} (c : CPowW i j) (h : Q (.int (i ^ j.toNat)) H) : BinV X .Pow (.int i) (.int j) H Q := ⟨_, op_powW, i, j, rfl, rfl, c, h⟩
theorem bv_cat {p q : Addr} {xs ys : List V} (h1 : H p = some (.lst xs)) (h2 : H q = some (.lst ys)) (hl : xs.length + ys.length ≤ sizeLine) (h : ∀ r H2, Same H H2 → H r = none → H2 r = some (.lst (xs ++ ys)) → Q (.ref r) H2) : BinV X .Add (.ref p) (.ref q) H Q :=
  ⟨_, op_cat, p, q, xs, ys, rfl, rfl, h1, h2, hl, fun r hr => h r _ (same_new hr) hr upd_same⟩
theorem cv_lt {i j : Int} (h : Q (.bl (decide (i < j))) H) : CmpV X .Lt (.int i) (.int j) H Q := ⟨_, op_lt, i, j, rfl, rfl, h⟩
theorem cv_le {i j : Int} (h : Q (.bl (decide (i ≤ j))) H) : CmpV X .LtE (.int i) (.int j) H Q := ⟨_, op_le, i, j, rfl, rfl, h⟩
theorem cv_gt {i j : Int} (h : Q (.bl (decide (j < i))) H) : CmpV X .Gt (.int i) (.int j) H Q := ⟨_, op_gt, i, j, rfl, rfl, h⟩
theorem cv_ge {i j : Int} (h : Q (.bl (decide (j ≤ i))) H) : CmpV X .GtE (.int i) (.int j) H Q := ⟨_, op_ge, i, j, rfl, rfl, h⟩
theorem cv_eq (s : scal x y = true) (h : Q (.bl (decide (x = y))) H) : CmpV X .Eq x y H Q := ⟨_, op_eq, s, h⟩
theorem cv_ne (s : scal x y = true) (h : Q (.bl (!decide (x = y))) H) : CmpV X .NotEq x y H Q := ⟨_, op_ne, s, h⟩
theorem cv_eqD {d d' : PyData} (hu : X.A.units + 64 < cLine) (h1 : Dp X.K H x d) (h2 : Dp X.K H y d') (s1 : SeqAt.shaped d = true) (s2 : SeqAt.shaped d' = true) (h : Q (.bl (PyData.eqv d d')) H) : CmpV X .Eq x y H Q := ⟨_, op_eqD hu, d, d', h1, h2, s1, s2, h⟩
theorem cv_neD {d d' : PyData} (hu : X.A.units + 64 < cLine) (h1 : Dp X.K H x d) (h2 : Dp X.K H y d') (s1 : SeqAt.shaped d = true) (s2 : SeqAt.shaped d' = true) (h : Q (.bl (!PyData.eqv d d')) H) : CmpV X .NotEq x y H Q := ⟨_, op_neD hu, d, d', h1, h2, s1, s2, h⟩
theorem cv_leS {s t : Str} (h : Q (.bl (!decide (t.cps.toList < s.cps.toList))) H) : CmpV X .LtE (.str s) (.str t) H Q := by
  first
    | exact ⟨_, op_le_str, s, t, rfl, rfl, h⟩
    | (refine ⟨_, op_le_str, s, t, rfl, rfl, ?_⟩; simpa using h)
theorem cv_inSign {s : Str} {c : Nat} (h : Q (.bl (decide (c ∈ s.cps.toList))) H) : CmpV X .In (.str ⟨#[c]⟩) (.str s) H Q := ⟨_, op_in_sign, c, s, rfl, rfl, h⟩
theorem cv_inSeq {p : Addr} {xs : List V} (h1 : SqL X.K H p xs ∨ SqT X.K H p xs) (fx : flatV x = true) (fa : xs.all flatV = true) (h : Q (.bl (inV x xs)) H) : CmpV X .In x (.ref p) H Q := ⟨_, op_in_seq, p, xs, rfl, h1, fx, fa, by simpa using h⟩
theorem cv_notInSeq {p : Addr} {xs : List V} (h1 : SqL X.K H p xs ∨ SqT X.K H p xs) (fx : flatV x = true) (fa : xs.all flatV = true) (h : Q (.bl (!inV x xs)) H) : CmpV X .NotIn x (.ref p) H Q := ⟨_, op_notIn_seq, p, xs, rfl, h1, fx, fa, by simpa using h⟩
theorem iv_list {p : Addr} {xs : List V} {i : Int} {v : V} (h1 : SqL X.K H p xs) (h2 : atI xs i = some v) (h : Q v H) : IxV X (.ref p) (.int i) H Q := ⟨_, ix_list, p, xs, i, v, rfl, rfl, h1, h2, h⟩
theorem iv_tup {p : Addr} {xs : List V} {i : Int} {v : V} (h1 : SqT X.K H p xs) (h2 : atI xs i = some v) (h : Q v H) : IxV X (.ref p) (.int i) H Q := ⟨_, ix_tup, p, xs, i, v, rfl, rfl, h1, h2, h⟩
theorem atI_int {α : Type} {xs : List α} {i : Int} (h0 : 0 ≤ i) (h : i.toNat < xs.length) : atI xs i = some xs[i.toNat] := by
  have e : i = ((i.toNat : Nat) : Int) := by omega
  have h1 : atI xs ((i.toNat : Nat) : Int) = some xs[i.toNat] := atI_nat (by simp [h])
  rw [← e] at h1
  exact h1
theorem atI_0 {α : Type} {x : α} {r : List α} : atI (x :: r) 0 = some x := by
  have h : atI (x :: r) ((0 : Nat) : Int) = some x := atI_nat rfl
  exact h
theorem atI_1 {α : Type} {x y : α} {r : List α} : atI (x :: y :: r) 1 = some y := by
  have h : atI (x :: y :: r) ((1 : Nat) : Int) = some y := atI_nat rfl
  exact h
theorem atI_2 {α : Type} {x y z : α} {r : List α} : atI (x :: y :: z :: r) 2 = some z := by
  have h : atI (x :: y :: z :: r) ((2 : Nat) : Int) = some z := atI_nat rfl
  exact h
/-! ### calls of builtins by values -/
theorem kv_len_str {z : Str} (h0 : z.length ≤ sizeLine) (h : Q (.int z.length) H) : CallV X (.builtin "len") [.str z] H Q := ⟨_, call_len_str, z, rfl, h0, h⟩
theorem kv_len_seq {p : Addr} {xs : List V} (h0 : SqL X.K H p xs ∨ SqT X.K H p xs) (h : Q (.int xs.length) H) : CallV X (.builtin "len") [.ref p] H Q := ⟨_, call_len_seq, p, xs, rfl, h0, h⟩
theorem kv_isi {c : V} {t u : Value} {k : Bool} (hc : ClsV c u) (ty : TyX X.K H x t) (hk : PySem.W.kitOne X.K t u = some k) (h : Q (.bl k) H) : CallV X (.builtin "isinstance") [x, c] H Q := ⟨_, call_isi, x, c, t, u, k, rfl, hc, ty, hk, h⟩
theorem kv_all {p : Addr} {bs : List Bool} (hc : X.calm = true) (h0 : SqL X.K H p (bs.map V.bl)) (h : Q (.bl (bs.all id)) H) : CallV X (.builtin "all") [.ref p] H Q := ⟨_, cr_all hc, p, bs, rfl, h0, h⟩
theorem kv_any {p : Addr} {bs : List Bool} (hc : X.calm = true) (h0 : SqL X.K H p (bs.map V.bl)) (h : Q (.bl (bs.any id)) H) : CallV X (.builtin "any") [.ref p] H Q := ⟨_, cr_any hc, p, bs, rfl, h0, h⟩
theorem kv_int {i : Int} (h : Q (.int i) H) : CallV X (.type "int") [.int i] H Q := ⟨_, call_int1, .inl ⟨i, rfl, h⟩⟩
theorem kv_intB {k : Bool} (h : Q (.int (if k then 1 else 0)) H) : CallV X (.type "int") [.bl k] H Q := ⟨_, call_int1, .inr ⟨k, rfl, by first | exact h | simpa using h⟩⟩
theorem kv_abs {i : Int} (h : Q (.int (if i < 0 then -i else i)) H) : CallV X (.builtin "abs") [.int i] H Q := ⟨_, call_abs, i, rfl, h⟩
theorem kv_max2 {i j : Int} (hc : X.calm = true) (h : Q (.int (if j > i then j else i)) H) : CallV X (.builtin "max") [.int i, .int j] H Q := ⟨_, call_max2 hc, i, j, rfl, h⟩
theorem kv_min2 {i j : Int} (hc : X.calm = true) (h : Q (.int (if j < i then j else i)) H) : CallV X (.builtin "min") [.int i, .int j] H Q := ⟨_, call_min2 hc, i, j, rfl, h⟩
end
/-! ### types of data -/
def tyD : PyData → String
  | .none => "NoneType"
  | .bool _ => "bool"
  | .int _ => "int"
  | .str _ => "str"
  | .list _ => "list"
  | .tuple _ => "tuple"
  | .dict _ => "dict"
theorem dp_ty {K : PySem.W.Frag} {H : Hp} {v : V} {d : PyData} (h : Dp K H v d) : TyX K H v (.type (tyD d)) := by
  cases h with
  | non => exact .base .non
  | bl b => exact .base (.bl b)
  | int i => exact .base (.int i)
  | str x => exact .base (.str x)
  | lst hs _ =>
    rcases hs with (h | ⟨o, h⟩) | ⟨o, its, n, hk, hc, _⟩
    · exact .base (.lst h)
    · exact .base (.frz h)
    · exact .kList hk hc
  | tup hs _ =>
    rcases hs with (h | ⟨o, h⟩) | ⟨o, its, n, hk, hc, _⟩
    · exact .base (.tup h)
    · exact .fTuple h
    · exact .kTuple hk hc
end Ax
end
section
set_option maxHeartbeats 2000000
namespace Ax
open PySem PySem.Spec PyProof.Rows L2

/-! ### walks -/
structure WI (X : Cx) (tg iter : Expr) (σ : L2.St) (H : Hp) (R : It → Hp → Prop) : Prop where
  run : ∀ (pins : List (Addr × Obj)) (s : Shared), Inv X pins σ H s → wpAny (model X.prog X.w) X.A (eval iter X.env) (fun v s1 => wpAny (model X.prog X.w) X.A (pyIter v) (PIE X pins σ tg R) X.xe s1) X.xe s
/-- iter(x), by values -/
structure IterV (X : Cx) (tg : Expr) (x : V) (H : Hp) (R : It → Hp → Prop) : Prop where
  run : ∀ (pins : List (Addr × Obj)) (s : Shared) (σ : L2.St) (v : Value), Inv X pins σ H s → RelV x v → wpAny (model X.prog X.w) X.A (pyIter v) (PIE X pins σ tg R) X.xe s
section
variable {X : Cx} {tg iter elt : Expr} {σ : L2.St} {H : Hp} {R : It → Hp → Prop} {Q : VK} {pos : Pos} {D : Ends}
theorem WI.pi : PI X tg iter (WI X tg iter) := ⟨fun pins s _ _ _ I h => h.run pins s I⟩
theorem WI.of {wi : TI} (h : PI X tg iter wi) (q : wi σ H R) : WI X tg iter σ H R := ⟨fun pins s I => h.run pins s σ H R I q⟩
theorem wi_val (h : W X iter σ H fun x H1 => IterV X tg x H1 R) : WI X tg iter σ H R := ⟨fun pins s I =>
  thn (h.run pins s I) fun v s1 ⟨x, H1, I1, r, q⟩ => q.run pins s1 σ v I1 r⟩
theorem itv_list {a : Addr} {xs : List V} (h : SqL X.K H a xs) (q : R (Itl X.K a) H) : IterV X tg (.ref a) H R := by
  constructor
  intro pins s1 σ v I1 r1
  cases r1
  obtain ⟨its, rv, p, hz⟩ := I1.list h
  refine wpAny_pyIter_list p.isList ?_
  refine ⟨s1.heap.objs.size, [s1.heap.objs.size], _, _, H, rfl, I1.kept (t' := s1.toks) fun b o e => Heap.get?_push_of_some _ e, turn_list a _, ⟨_, Heap.get?_push_size _ rfl, rfl, rfl⟩, fun b hb => ?_, q⟩
  have e : b = s1.heap.objs.size := by simpa using hb
  subst e
  exact I1.fpOk (Nat.le_refl _) (I1.hok.fresh (Nat.le_refl _))
theorem itv_tup {a : Addr} {xs : List V} (h : SqT X.K H a xs) (q : R (Itt X.K a) H) : IterV X tg (.ref a) H R := by
  constructor
  intro pins s1 σ v I1 r1
  cases r1
  obtain ⟨its, rv, p, hz⟩ := I1.tuple h
  refine wpAny_pyIter_tuple (show s1.heap.IsTuple a its.toArray from p) ?_
  refine ⟨s1.heap.objs.size, [s1.heap.objs.size], _, _, H, rfl, I1.kept (t' := s1.toks) fun b o e => Heap.get?_push_of_some _ e, turn_tuple a _, ⟨_, Heap.get?_push_size _ rfl, rfl, rfl⟩, fun b hb => ?_, q⟩
  have e : b = s1.heap.objs.size := by simpa using hb
  subst e
  exact I1.fpOk (Nat.le_refl _) (I1.hok.fresh (Nat.le_refl _))
theorem itv_str {z : Str} (q : R (Its z) H) : IterV X tg (.str z) H R := by
  constructor
  intro pins s1 σ v I1 r1
  obtain ⟨t, rfl⟩ := r1
  cases ha : z.cps.all (· < 128)
  · exact wpAny_pyIter_wide ha (pi_one (tk := s1.toks) I1 _ (turn_str _ z t "str_iterator" (.inr rfl)) ⟨_, Heap.get?_push_size _ rfl, rfl, rfl⟩ q)
  · exact wpAny_pyIter_ascii ha (pi_one (tk := s1.toks) I1 _ (turn_str _ z t "str_ascii_iterator" (.inl rfl)) ⟨_, Heap.get?_push_size _ rfl, rfl, rfl⟩ q)
theorem wi_range1 {a : Expr} {p : Pos} (hm : X.mg "range" = none) (h : WA X [a] σ H fun vs H1 => ∃ j : Int, vs = [.int j] ∧ -(2 ^ 62) ≤ j ∧ j < 2 ^ 62 ∧ R (Itr 0 j.toNat) H1) (hg : Gl X "range" := by rfl) (hs : starEach [a] X.env = [(false, eval a X.env)] := by rfl) :
    WI X tg (.Call (.Name "range" p) [a] [] pos) σ H R := WI.of (pi_range1 hg hm WA.pa hs) h
/-- a walk over the fixed items xs that nothing but a change of its source disturbs -/
structure SeqIt (J : It) (H : Hp) (xs : List V) : Prop where
  ex : ∃ G : Hp → Prop, Walk J xs.length G (YAt xs) ∧ G H ∧ ∀ H', Same H H' → G H'
theorem seqIt_list {K : PySem.W.Frag} {a : Addr} {xs : List V} (h : SqL K H a xs) : SeqIt (Itl K a) H xs := ⟨_, walk_list, h, fun _ s => s.seq h⟩
theorem seqIt_tup {K : PySem.W.Frag} {a : Addr} {xs : List V} (h : SqT K H a xs) : SeqIt (Itt K a) H xs := ⟨_, walk_tup, h, fun _ s => same_tup s h⟩
def signsV (z : Str) : List V := z.cps.toList.map fun c => V.str ⟨#[c]⟩
theorem seqIt_str {z : Str} : SeqIt (Its z) H (signsV z) := by
  refine ⟨fun _ => True, ?_, trivial, fun _ _ => trivial⟩
  have w := (walk_str (z := z)).mono (G' := fun _ => True) (Y' := YAt (signsV z)) (fun _ h => h) fun i H x H' hi _ y => by
    obtain ⟨e, c, hc, rfl⟩ := y
    refine ⟨e, ?_⟩
    unfold signsV
    rw [List.getElem?_map]
    simp [hc]
  have e : (signsV z).length = z.cps.size := by simp [signsV]
  rw [e]
  exact w
def intsV (lo : Int) (n : Nat) : List V := (List.range n).map fun (i : Nat) => V.int (lo + (i : Int))
theorem seqIt_range {lo : Int} {n : Nat} : SeqIt (Itr lo n) H (intsV lo n) := by
  refine ⟨fun _ => True, ?_, trivial, fun _ _ => trivial⟩
  have w := (walk_range (lo := lo) (n := n)).mono (G' := fun _ => True) (Y' := YAt (intsV lo n)) (fun _ h => h) fun i H x H' hi _ y => by
    obtain ⟨e, rfl⟩ := y
    refine ⟨e, ?_⟩
    unfold intsV
    rw [List.getElem?_map]
    simp [hi]
  have e : (intsV lo n).length = n := by simp [intsV]
  rw [e]
  exact w
/-! ### [elt for x in iter], one name, pure: each item makes its element, by a relation that stands -/
inductive Rel2 (R : V → V → Prop) : List V → List V → Prop
  | nil : Rel2 R [] []
  | cons {x y xs ys} : R x y → Rel2 R xs ys → Rel2 R (x :: xs) (y :: ys)
theorem Rel2.snoc {R : V → V → Prop} {x y : V} (h : R x y) : ∀ {xs ys : List V}, Rel2 R xs ys → Rel2 R (xs ++ [x]) (ys ++ [y])
  | _, _, .nil => .cons h .nil
  | _, _, .cons r t => .cons r (Rel2.snoc h t)
theorem Rel2.imp {R S : V → V → Prop} (k : ∀ x y, R x y → S x y) : ∀ {xs ys : List V}, Rel2 R xs ys → Rel2 S xs ys
  | _, _, .nil => .nil
  | _, _, .cons r t => .cons (k _ _ r) (Rel2.imp k t)
theorem Rel2.len {R : V → V → Prop} : ∀ {xs ys : List V}, Rel2 R xs ys → xs.length = ys.length
  | _, _, .nil => rfl
  | _, _, .cons _ t => by simp [Rel2.len t]
theorem Rel2.map {f : V → V} : ∀ {xs ys : List V}, Rel2 (fun x y => y = f x) xs ys → ys = xs.map f
  | _, _, .nil => rfl
  | _, _, .cons r t => by rw [r, Rel2.map t]; rfl
theorem w_lc {i : Nat} {x : Str} {px : Pos} {scope : Scope} (own : List (Str × Nat)) (ho : own = [(x, i)]) (hc : X.calm = true) (hN : X.N.Nodup) (ok : BlkOk X.N X.env.scope scope own) (hi : X.N[i]? = some x)
    (hloc : ∀ (s : Shared) (H : Hp) (C : Addr) (cl : List (Str × Addr)) (fp : List Addr), Loc (X.blk s H scope (compEnvC scope cl C X.env) fp).env.scope x ∧ ((X.blk s H scope (compEnvC scope cl C X.env) fp).fn x = true ∨ (X.blk s H scope (compEnvC scope cl C X.env) fp).env.scope.names.lookup x = some .local))
    (h : WI X (.Name x px) iter σ H fun J H1 => ∃ xs, SeqIt J H1 xs ∧ xs.length < sizeLine ∧ ∃ R : V → V → Hp → Prop, (∀ x y Ha Hb, R x y Ha → Sl Ha Hb → R x y Hb) ∧
      (∀ v ∈ xs, ∀ H2, Same H1 H2 → ∀ (s : Shared) (H : Hp) (C : Addr) (cl : List (Str × Addr)) (fp : List Addr), W (X.blk s H scope (compEnvC scope cl C X.env) fp) elt ((wipe σ [i]).set i (some v)) H2 fun y H3 => Same H2 H3 ∧ R v y H3) ∧
      ∀ p ys H2, Same H1 H2 → H1 p = none → H2 p = some (.lst ys) → Rel2 (fun x y => R x y H2) xs ys → Q (.ref p) H2)
    (hs : ∀ x, foldedSetIterable iter X.env x = pure x := by intro _; rfl) (hw : (((wipe σ [i]).set i (some V.non)).set i none) = wipe σ [i] := by rfl) :
    W X (.ListComp elt [⟨.Name x px, iter, [], 0⟩] scope pos) σ H Q := by
  subst ho
  refine W.of (pe_lc (own := [(x, i)]) (g := gName i) (tt := tYes) (te := fun σ2 H2 K => ∀ (s : Shared) (H : Hp) (C : Addr) (cl : List (Str × Addr)) (fp : List Addr), W (X.blk s H scope (compEnvC scope cl C X.env) fp) elt σ2 H2 K) hc hN WI.pi ok (fun s H C cl fp => pg_name hN hi (hloc s H C cl fp).1 (hloc s H C cl fp).2) (fun _ _ _ _ _ => pts_nil)
    (fun s H C cl fp => ⟨fun pins s' σ' H' Q' I' h' => (h' s H C cl fp).run pins s' I'⟩) hs) ?_
  refine ⟨fun pins s I => thn (h.run pins s I) fun v s1 z => thn z fun it s2 q => ?_⟩
  obtain ⟨it', fp, tn, J, H1, e, I2, T, t0, f0, xs, ⟨G, wk, g0, gs⟩, hlen, R, hst, hel, hend⟩ := q
  refine ⟨it', fp, tn, J, H1, e, I2, T, t0, f0, fun Dd nD => ?_⟩
  refine lc_it (H1 := H1) (D := Dd) (g := gName i) (tt := tYes) (te := fun σ2 H2 K => ∀ (s : Shared) (H : Hp) (C : Addr) (cl : List (Str × Addr)) (fp : List Addr), W (X.blk s H scope (compEnvC scope cl C X.env) fp) elt σ2 H2 K) (vs := [i]) (σ := σ) (Qd := fun H2 => Q (.ref Dd) H2) wk (fun j H2 => ∃ ys, Same H1 H2 ∧ H2 Dd = some (.lst ys) ∧ Rel2 (fun x y => R x y H2) (xs.take j) ys) ⟨[], same_new nD, upd_same, .nil⟩ (fun j H2 _ ⟨ys, sm, hD, _⟩ => gs _ sm) ?_ ?_
  · rintro j v H2 H2' hj ⟨ys, s12, hD, rel⟩ ⟨eH, hv⟩
    subst eH
    have hm : v ∈ xs := List.mem_of_getElem? hv
    have hw' : wipe ((wipe σ [i]).set i (some v)) [i] = wipe σ [i] := by
      have e1 : wipe ((wipe σ [i]).set i (some v)) [i] = ((wipe σ [i]).set i (some v)).set i none := rfl
      rw [e1, List.set_set]
      have e2 : ((wipe σ [i]).set i (some V.non)).set i none = wipe σ [i] := hw
      rw [List.set_set] at e2
      exact e2
    refine ⟨hw', ?_⟩
    unfold tYes
    dsimp only
    rw [if_pos rfl]
    intro s H C cl fp
    refine W.mono (e := elt) (X := X.blk s H scope (compEnvC scope cl C X.env) fp) (hel v hm H2' s12 s H C cl fp) fun y H3 ⟨s23, r⟩ => ?_
    have hD3 := s23 _ _ hD
    have hl : ys.length < sizeLine := by
      have e1 := rel.len
      rw [List.length_take] at e1
      omega
    refine ⟨ys, hD3, hl, ys ++ [y], same_upd (s12.trans s23) nD, upd_same, ?_⟩
    have sl : Sl H3 (upd H3 Dd (.lst (ys ++ [y]))) := (Sl.refl H3).lst hD3
    have e : xs.take (j + 1) = xs.take j ++ [v] := by
      rw [List.take_add_one, hv]
      rfl
    rw [e]
    exact (rel.imp fun a b q => hst _ _ _ _ q ((Sl.of s23).trans sl)).snoc (hst _ _ _ _ r sl)
  · rintro H2 ⟨ys, s12, hD, rel⟩
    rw [List.take_length] at rel
    exact hend Dd ys H2 s12 nD hD rel
/-- .. each element a value by a function -/
theorem w_lcF {x : Str} {px : Pos} {scope : Scope} (i : Nat) (f : V → V) (hc : X.calm = true) (hN : X.N.Nodup) (ok : BlkOk X.N X.env.scope scope [(x, i)]) (hi : X.N[i]? = some x)
    (hloc : ∀ (s : Shared) (H : Hp) (C : Addr) (cl : List (Str × Addr)) (fp : List Addr), Loc (X.blk s H scope (compEnvC scope cl C X.env) fp).env.scope x ∧ ((X.blk s H scope (compEnvC scope cl C X.env) fp).fn x = true ∨ (X.blk s H scope (compEnvC scope cl C X.env) fp).env.scope.names.lookup x = some .local))
    (h : WI X (.Name x px) iter σ H fun J H1 => ∃ xs, SeqIt J H1 xs ∧ xs.length < sizeLine ∧
      (∀ v ∈ xs, ∀ H2, Same H1 H2 → ∀ (s : Shared) (H : Hp) (C : Addr) (cl : List (Str × Addr)) (fp : List Addr), W (X.blk s H scope (compEnvC scope cl C X.env) fp) elt ((wipe σ [i]).set i (some v)) H2 fun y H3 => Same H2 H3 ∧ y = f v) ∧
      ∀ p H2, Same H1 H2 → H1 p = none → H2 p = some (.lst (xs.map f)) → Q (.ref p) H2)
    (hs : ∀ x, foldedSetIterable iter X.env x = pure x := by intro _; rfl) (hw : (((wipe σ [i]).set i (some V.non)).set i none) = wipe σ [i] := by rfl) :
    W X (.ListComp elt [⟨.Name x px, iter, [], 0⟩] scope pos) σ H Q := by
  refine w_lc _ rfl hc hN ok hi hloc ?_ hs hw
  refine ⟨fun pins s I => thn (h.run pins s I) fun v s1 z => thn z fun it s2 q => ?_⟩
  obtain ⟨it', fp, tn, J, H1, e, I2, T, t0, f0, xs, h1, h2, h3, h4⟩ := q
  refine ⟨it', fp, tn, J, H1, e, I2, T, t0, f0, xs, h1, h2, fun x y _ => y = f x, fun _ _ _ _ q _ => q, h3, fun p ys H2 s n hp r => ?_⟩
  have e := Rel2.map r
  subst e
  exact h4 p H2 s n hp
/-- all([elt for x in iter]), each element a test -/
theorem w_allLc {x : Str} {px pa pl : Pos} {scope : Scope} (i : Nat) (f : V → Bool) (hm : X.mg "all" = none) (hc : X.calm = true) (hN : X.N.Nodup) (ok : BlkOk X.N X.env.scope scope [(x, i)]) (hi : X.N[i]? = some x)
    (hloc : ∀ (s : Shared) (H : Hp) (C : Addr) (cl : List (Str × Addr)) (fp : List Addr), Loc (X.blk s H scope (compEnvC scope cl C X.env) fp).env.scope x ∧ ((X.blk s H scope (compEnvC scope cl C X.env) fp).fn x = true ∨ (X.blk s H scope (compEnvC scope cl C X.env) fp).env.scope.names.lookup x = some .local))
    (h : WI X (.Name x px) iter σ H fun J H1 => ∃ xs, SeqIt J H1 xs ∧ xs.length < sizeLine ∧
      (∀ v ∈ xs, ∀ H2, Same H1 H2 → ∀ (s : Shared) (H : Hp) (C : Addr) (cl : List (Str × Addr)) (fp : List Addr), W (X.blk s H scope (compEnvC scope cl C X.env) fp) elt ((wipe σ [i]).set i (some v)) H2 fun y H3 => Same H2 H3 ∧ y = .bl (f v)) ∧
      ∀ H2, Same H1 H2 → Q (.bl (xs.all f)) H2)
    (hg : Gl X "all" := by rfl) (hs : ∀ x, foldedSetIterable iter X.env x = pure x := by intro _; rfl) (hw : (((wipe σ [i]).set i (some V.non)).set i none) = wipe σ [i] := by rfl)
    (he : starEach [.ListComp elt [⟨.Name x px, iter, [], 0⟩] scope pl] X.env = (false, eval (.ListComp elt [⟨.Name x px, iter, [], 0⟩] scope pl) X.env) :: starEach [] X.env := by rfl) (hpl : (backTo pos (starEach [] X.env)).any (·.1) = false := by rfl) :
    W X (.Call (.Name "all" pa) [.ListComp elt [⟨.Name x px, iter, [], 0⟩] scope pl] [] pos) σ H Q := by
  refine w_callB (id := "all") hm ?_ b_all hg (by decide) (by decide) he hpl
  refine wa_cons ?_ he
  refine w_lcF i (fun v => .bl (f v)) hc hN ok hi hloc ?_ hs hw
  refine ⟨fun pins s I => thn (h.run pins s I) fun v s1 z => thn z fun it s2 q => ?_⟩
  obtain ⟨it', fp, tn, J, H1, e, I2, T, t0, f0, xs, h1, h2, h3, h4⟩ := q
  refine ⟨it', fp, tn, J, H1, e, I2, T, t0, f0, xs, h1, h2, h3, fun p H2 s n hp => ?_⟩
  refine wa_nil (kv_all (bs := xs.map f) hc (SqL.of ?_) ?_)
  · rw [hp, List.map_map]
    rfl
  · have e : (xs.map f).all id = xs.all f := by rw [List.all_map]; rfl
    rw [e]
    exact h4 H2 s
end
end Ax
end
section
set_option maxHeartbeats 2000000
namespace Ax
open PySem PySem.Spec PyProof.Rows L2
/-- a def of the top -/
def TxtF (K : PySem.W.Frag) (mg : Str → Option Value) (x : Str) (st : Stmt) : Prop := ∃ f fd, FunD K x x (defArgs st) (defBody st) (defScope st) [] [] f fd ∧ mg x = some (.ref f)
theorem txtF_of {K : PySem.W.Frag} {mg : Str → Option Value} {x : Str} {st : Stmt} {f : Addr} (h : ∃ fd, FunD K x x (defArgs st) (defBody st) (defScope st) [] [] f fd) (g : mg x = some (.ref f)) : TxtF K mg x st := by
  obtain ⟨fd, h⟩ := h
  exact ⟨f, fd, h, g⟩
theorem cS_of {mg : Str → Option Value} {x z : Str} (h : ∃ t, mg x = some (.str z t)) : ∃ u, mg x = some u ∧ RelV (.str z) u := by
  obtain ⟨t, h⟩ := h
  exact ⟨_, h, t, rfl⟩
theorem cI_of {mg : Str → Option Value} {x : Str} {i : Int} (h : ∃ t, mg x = some (.int i t)) : ∃ u, mg x = some u ∧ RelV (.int i) u := by
  obtain ⟨t, h⟩ := h
  exact ⟨_, h, t, rfl⟩
section
variable {P : Program} {w : World} {K : PySem.W.Frag} {mg : Str → Option Value} {base : Heap}
theorem def_ok {x : Str} {st : Stmt} {N ps : List Str} {k : Nat} {sp : Sp} (T : TxtF K mg x st) (S : FnScope N ps (defScope st))
    (hb : ∀ (kV doc pm : Value) (an : Option Addr) (cdv ct : Value) (us : List Value), us.length = ps.length → bindArgs (PySem.W.fnOf x x (defArgs st) (defBody st) (defScope st) .none kV doc pm an cdv ct) ⟨us, []⟩ = pure (ps.zip us))
    (len : ∀ vs H Q E, sp vs H Q E → vs.length = ps.length)
    (body : ∀ (f : Addr) (cdv : Value) (A : Around) (outer : List Env) (s : Shared) (H : Hp) (vs : List V) (Q : VK) (E : XK), Room k (A.deeper (envOfC x (defScope st) s.heap.objs.size f cdv)) → sp vs H Q E →
      WB (cxOf (L2.CX P w) P w K mg base N x (defScope st) f cdv A outer s H E) (defBody st) { nx := fun _ H' => Q .non H', rt := Q } (start N vs) H) : Callee P w K mg base x (k + 1) ps sp := by
  obtain ⟨f, fd, F, g⟩ := T
  exact ⟨f, fd, F.ok S len fun cdv A outer s H vs Q E hr h => ⟨_, WB.pss, body f cdv A outer s H vs Q E hr h⟩, F.bindsN hb, g, F.kp⟩
end
end Ax
end
section
set_option maxHeartbeats 2000000
namespace Ax
open PySem PySem.Spec PyProof.Rows L2
theorem qb {Q : VK} {H : Hp} {a b : Bool} (h : Q (.bl a) H) (e : a = b) : Q (.bl b) H := e ▸ h
theorem qi {Q : VK} {H : Hp} {a b : Int} (h : Q (.int a) H) (e : a = b) : Q (.int b) H := e ▸ h
mutual
/-- short texts, nothing but none, bools, ints, texts, lists, tuples -/
def tame : PyData → Bool
  | .str z => PyData.strOk z && decide (z.length ≤ 1000)
  | .list ds => tameAll ds && decide (ds.length ≤ 100000)
  | .tuple ds => tameAll ds && decide (ds.length ≤ 100000)
  | .dict _ => false
  | _ => true
def tameAll : List PyData → Bool
  | [] => true
  | d :: ds => tame d && tameAll ds
end
def okD (d : PyData) : Bool := tame d && decide (d.depth ≤ 60)
mutual
theorem tame_lay : ∀ {d : PyData}, tame d = true → d.canLay0 = true
  | .none, _ => rfl
  | .bool _, _ => rfl
  | .int _, _ => rfl
  | .str z, h => by
    simp only [tame, Bool.and_eq_true] at h
    simpa [PyData.canLay0] using h.1
  | .list ds, h => by simpa [PyData.canLay0] using tameAll_lay (by simp only [tame, Bool.and_eq_true] at h; exact h.1)
  | .tuple ds, h => by simpa [PyData.canLay0] using tameAll_lay (by simp only [tame, Bool.and_eq_true] at h; exact h.1)
  | .dict _, h => by simp [tame] at h
theorem tameAll_lay : ∀ {ds : List PyData}, tameAll ds = true → PyData.canLayAll0 ds = true
  | [], _ => by simp [PyData.canLayAll0]
  | d :: ds, h => by
    simp only [tameAll, Bool.and_eq_true] at h
    simp [PyData.canLayAll0, tame_lay h.1, tameAll_lay h.2]
end
theorem okD.shaped {d : PyData} (h : okD d = true) : SeqAt.shaped d = true := by
  simp only [okD, Bool.and_eq_true, decide_eq_true_eq] at h
  simp only [SeqAt.shaped, Bool.and_eq_true, decide_eq_true_eq]
  exact ⟨tame_lay h.1, by omega⟩
theorem tameAll_mem {ds : List PyData} (h : tameAll ds = true) : ∀ d ∈ ds, tame d = true := by
  induction ds with
  | nil => intro d hd; cases hd
  | cons x xs ih =>
    simp only [tameAll, Bool.and_eq_true] at h
    intro d hd
    rcases List.mem_cons.mp hd with rfl | hd
    · exact h.1
    · exact ih h.2 d hd
theorem depthAll_mem {ds : List PyData} {n : Nat} (h : PyData.depthAll ds ≤ n) : ∀ d ∈ ds, d.depth ≤ n := by
  induction ds with
  | nil => intro d hd; cases hd
  | cons x xs ih =>
    rw [PyData.depthAll] at h
    intro d hd
    rcases List.mem_cons.mp hd with rfl | hd
    · omega
    · exact ih (by omega) d hd
theorem okD.item {ds : List PyData} (h : okD (.tuple ds) = true) : ∀ d ∈ ds, okD d = true := by
  simp only [okD, tame, Bool.and_eq_true, decide_eq_true_eq] at h
  obtain ⟨h1, h2⟩ := h
  rw [PyData.depth] at h2
  intro d hd
  simp only [okD, Bool.and_eq_true, decide_eq_true_eq]
  exact ⟨tameAll_mem h1.1 d hd, by have := depthAll_mem (n := 59) (by omega) d hd; omega⟩
theorem okD.len {ds : List PyData} (h : okD (.tuple ds) = true) : ds.length < sizeLine := by
  simp only [okD, tame, Bool.and_eq_true, decide_eq_true_eq] at h
  exact Nat.lt_of_le_of_lt h.1.2 (by decide)
theorem okD.str {z : Str} (h : okD (.str z) = true) : z.length ≤ sizeLine := by
  simp only [okD, tame, Bool.and_eq_true, decide_eq_true_eq] at h
  exact Nat.le_trans h.1.2 (by decide)
/-- any value: data, or a thing of another type -/
inductive AnyV (K : PySem.W.Frag) (H : Hp) : V → Option PyData → Prop
  | dat {v : V} {d : PyData} (h : Dp K H v d) (ok : okD d = true) : AnyV K H v (some d)
  | oth {v : V} {t : Value} (h : TyX K H v t) (n : ∀ T ∈ ["str", "int", "bool", "tuple", "list"], PySem.W.kitOne K t (.type T) = some false) : AnyV K H v none
def tyNames : List String := ["NoneType", "bool", "int", "str", "list", "tuple", "dict"]
theorem tyD_mem (d : PyData) : tyD d ∈ tyNames := by cases d <;> simp [tyD, tyNames]
theorem kit_all : ∀ T ∈ ["str", "int", "bool", "tuple", "list"], ∀ t ∈ tyNames, (kitB t T).isSome = true := by decide +kernel
def isiO (T : String) : Option PyData → Bool
  | some d => (kitB (tyD d) T).getD false
  | none => false
section
variable {X : Cx} {H : Hp} {Q : VK} {v : V} {o : Option PyData}
theorem kv_isiA {T : String} (a : AnyV X.K H v o) (hT : T ∈ ["str", "int", "bool", "tuple", "list"]) (h : Q (.bl (isiO T o)) H) : CallV X (.builtin "isinstance") [v, .ty T] H Q := by
  cases a with
  | oth ty n => exact kv_isi (.ty T) ty (n T hT) h
  | @dat d hd ok =>
    refine kv_isi (k := isiO T (some d)) (.ty T) (dp_ty hd) (kit_ty ?_) h
    have q := kit_all T hT (tyD d) (tyD_mem d)
    obtain ⟨b, q⟩ := Option.isSome_iff_exists.mp q
    show kitB (tyD d) T = some ((kitB (tyD d) T).getD false)
    rw [q]
    rfl
theorem isiO_str (d : PyData) : isiO "str" (some d) = (match d with | .str _ => true | _ => false) := by
  have k : ∀ t ∈ tyNames, (kitB t "str").getD false = (t == "str") := by decide +kernel
  refine (k _ (tyD_mem d)).trans ?_
  cases d <;> rfl
theorem isiO_tuple (d : PyData) : isiO "tuple" (some d) = (match d with | .tuple _ => true | _ => false) := by
  have k : ∀ t ∈ tyNames, (kitB t "tuple").getD false = (t == "tuple") := by decide +kernel
  refine (k _ (tyD_mem d)).trans ?_
  cases d <;> rfl
theorem isiO_int (d : PyData) : isiO "int" (some d) = (match d with | .int _ => true | .bool _ => true | _ => false) := by
  have k : ∀ t ∈ tyNames, (kitB t "int").getD false = (t == "int" || t == "bool") := by decide +kernel
  refine (k _ (tyD_mem d)).trans ?_
  cases d <;> rfl
theorem isiO_bool (d : PyData) : isiO "bool" (some d) = (match d with | .bool _ => true | _ => false) := by
  have k : ∀ t ∈ tyNames, (kitB t "bool").getD false = (t == "bool") := by decide +kernel
  refine (k _ (tyD_mem d)).trans ?_
  cases d <;> rfl
end
theorem tyX_same {K : PySem.W.Frag} {H H' : Hp} {v : V} {t : Value} (s : Same H H') (h : TyX K H v t) : TyX K H' v t := by
  cases h with
  | base b =>
    cases b with
    | non => exact .base .non
    | bl x => exact .base (.bl x)
    | int x => exact .base (.int x)
    | str x => exact .base (.str x)
    | flt x => exact .base (.flt x)
    | lst e => exact .base (.lst (s _ _ e))
    | frz e => exact .base (.frz (s _ _ e))
    | tup e => exact .base (.tup (s _ _ e))
    | dK e => exact .base (.dK (s _ _ e))
    | dT e => exact .base (.dT (s _ _ e))
    | ins e cl ha hn htk hm => exact .base (.ins (s _ _ e) cl ha hn htk hm)
  | byt b => exact .byt b
  | set e => exact .set (s _ _ e)
  | kList e c => exact .kList e c
  | kTuple e c => exact .kTuple e c
  | kDict e c => exact .kDict e c
  | fTuple e => exact .fTuple (s _ _ e)
  | fDict e => exact .fDict (s _ _ e)
section
variable {K : PySem.W.Frag} {H H' : Hp} {v : V} {o : Option PyData}
theorem anyV_same (s : Same H H') (a : AnyV K H v o) : AnyV K H' v o := by
  cases a with
  | dat h ok => exact .dat (dp_same s h) ok
  | oth h n => exact .oth (tyX_same s h) n
theorem anyV_tuple (a : AnyV K H v o) (c : isiO "tuple" o = true) : ∃ p xs ds, v = .ref p ∧ o = some (.tuple ds) ∧ SqT K H p xs ∧ DpAll K H xs ds ∧ okD (.tuple ds) = true := by
  cases a with
  | oth => cases c
  | @dat d hd ok =>
    rw [isiO_tuple] at c
    cases hd <;> first | cases c | skip
    exact ⟨_, _, _, rfl, rfl, by assumption, by assumption, ok⟩
theorem anyV_str (a : AnyV K H v o) (c : isiO "str" o = true) : ∃ z, v = .str z ∧ o = some (.str z) ∧ okD (.str z) = true := by
  cases a with
  | oth => cases c
  | @dat d hd ok =>
    rw [isiO_str] at c
    cases hd <;> first | cases c | skip
    exact ⟨_, rfl, rfl, ok⟩
theorem any_tupleF {f : PyData → Bool} (c : isiO "tuple" o = false) (hf : ∀ d, (∀ ds, d ≠ .tuple ds) → f d = false) : o.any f = false := by
  cases o with
  | none => rfl
  | some d =>
    rw [isiO_tuple] at c
    refine hf d fun ds e => ?_
    rw [e] at c
    cases c
theorem any_strF {f : PyData → Bool} (c : isiO "str" o = false) (hf : ∀ d, (∀ z, d ≠ .str z) → f d = false) : o.any f = false := by
  cases o with
  | none => rfl
  | some d =>
    rw [isiO_str] at c
    refine hf d fun ds e => ?_
    rw [e] at c
    cases c
end
end Ax
end
section
set_option maxHeartbeats 2000000
namespace Ax
open PySem PySem.Spec PyProof.Rows L2
/-! ### another look at a thing: the abstract heap tells it otherwise, the heap is the same -/
def plainO : HO → Bool
  | .lst _ => true
  | .ext _ => true
  | _ => false
theorem Inv.view {X : Cx} {pins : List (Addr × Obj)} {σ : L2.St} {H : Hp} {s : Shared} {p : Addr} {o o' : HO} (I : Inv X pins σ H s) (hp : H p = some o) (ho : plainO o = true) (new : ObjOk X.prog X.w (upd H p o') s.heap p o') : Inv X pins σ (upd H p o') s := by
  have ne : ∀ b u, H b = some u → plainO u = false → b ≠ p := fun b u e n z => by
    rw [z, hp] at e
    cases e
    rw [ho] at n
    cases n
  have nn : ∀ b, H b = none → b ≠ p := fun b e z => by
    rw [z, hp] at e
    cases e
  have B := I.base
  refine ⟨I.ok, I.os, I.bare, ⟨B.keep, B.slot, fun b u e n hx => ?_, B.there, fun b xs e => ?_, fun b u xs e => ?_, fun b ps e => ?_⟩, I.loc, I.cell, ?_, fun x c e => ?_, fun q hq => ?_, fun b u e => ?_, I.len⟩
  · have z := B.free b u e n hx
    rw [upd_ne (nn b z)]; exact z
  · have z := B.tups b xs e
    rw [upd_ne (ne b _ z rfl)]; exact z
  · have z := B.frzs b u xs e
    rw [upd_ne (ne b _ z rfl)]; exact z
  · obtain ⟨more, z⟩ := B.tbls b ps e
    exact ⟨more, by rw [upd_ne (ne b _ z rfl)]; exact z⟩
  · rw [upd_ne (nn _ I.free)]; exact I.free
  · have z := I.freeC x c e
    rw [upd_ne (nn _ z)]; exact z
  · obtain ⟨h1, h2, h3⟩ := I.pin q hq
    exact ⟨h1, by rw [upd_ne (nn _ h2)]; exact h2, h3⟩
  · by_cases hb : b = p
    · subst hb
      rw [upd_same] at e
      cases e
      exact new
    · rw [upd_ne hb] at e
      exact (I.hok b u e).stay (fun _ _ _ q => q) (fun c q => by rw [upd_ne (ne c _ q rfl)]; exact q) fun c xs q => by rw [upd_ne (ne c _ q rfl)]; exact q
/-! ### the dice: three whole numbers in a list, told by what holds of them; n: how often it was rolled, at most -/
structure DiceN (x y z : Int) (n : Nat) : Prop where
  x0 : 0 ≤ x
  y0 : 0 ≤ y
  y1 : y < 2 ^ 61
  z0 : 0 ≤ z
  z1 : z ≤ n
def DiceO (p : Addr) (n : Nat) : HO := .ext fun h => ∃ (x y z : Int) (its : List Value) (m : Nat), Vals [.int x, .int y, .int z] its ∧ h.get? p = some { cls := .type "list", data := .seq its.toArray m } ∧ DiceN x y z n
theorem three_line : 3 ≤ sizeLine := by decide
theorem two_line : 2 ≤ sizeLine := by decide
theorem one_line : 1 ≤ sizeLine := by decide
theorem zero_line : 0 ≤ sizeLine := by decide
section
variable {X : Cx} {pins : List (Addr × Obj)} {σ : L2.St} {H : Hp} {s : Shared} {p : Addr} {n : Nat} {x y z : Int}
theorem Inv.toDice (I : Inv X pins σ H s) (hp : H p = some (.lst [.int x, .int y, .int z])) (d : DiceN x y z n) : Inv X pins σ (upd H p (DiceO p n)) s := by
  refine Inv.view I hp rfl ?_
  obtain ⟨_, its, m, r, e⟩ := (show ObjOk X.prog X.w H s.heap p (.lst [.int x, .int y, .int z]) from I.hok p _ hp)
  exact ⟨⟨x, y, z, its, m, r, e, d⟩, ⟨_, e⟩, fun h1 h2 ⟨x, y, z, its, m, r, e, d⟩ k => ⟨x, y, z, its, m, r, k _ e, d⟩⟩
theorem Inv.ofDice (I : Inv X pins σ H s) (hp : H p = some (DiceO p n)) : ∃ x y z, DiceN x y z n ∧ Inv X pins σ (upd H p (.lst [.int x, .int y, .int z])) s := by
  obtain ⟨⟨x, y, z, its, m, r, e, d⟩, _⟩ := (show ObjOk X.prog X.w H s.heap p (DiceO p n) from I.hok p _ hp)
  exact ⟨x, y, z, d, Inv.view I hp rfl ⟨three_line, its, m, r, e⟩⟩
theorem wb_dice {b : List Stmt} {D : Ends} (hp : H p = some (DiceO p n)) (h : ∀ x y z, DiceN x y z n → WB X b D σ (upd H p (.lst [.int x, .int y, .int z]))) : WB X b D σ H := ⟨fun pins s I => by
  obtain ⟨x, y, z, d, J⟩ := Inv.ofDice I hp
  exact (h x y z d).run pins s J⟩
theorem w_dice {e : Expr} {Q : VK} (h : W X e σ H fun v H1 => ∃ p x y z n, H1 p = some (.lst [.int x, .int y, .int z]) ∧ DiceN x y z n ∧ Q v (upd H1 p (DiceO p n))) : W X e σ H Q := ⟨fun pins s I =>
  thn (h.run pins s I) fun u s1 ⟨v, H1, J, r, p, x, y, z, n, hp, d, q⟩ => ⟨v, _, Inv.toDice J hp d, r, q⟩⟩
end
/-- all but the dice at p stands -/
structure Sm (p : Addr) (H H' : Hp) : Prop where
  at0 : ∃ n, H p = some (DiceO p n)
  keep : ∀ a o, H a = some o → a ≠ p → H' a = some o
theorem Sm.refl {H : Hp} {p : Addr} {n : Nat} (h : H p = some (DiceO p n)) : Sm p H H := ⟨⟨n, h⟩, fun _ _ h _ => h⟩
theorem Sm.trans {p : Addr} {H H1 H2 : Hp} (a : Sm p H H1) (b : Sm p H1 H2) : Sm p H H2 := ⟨a.at0, fun c o h n => b.keep c o (a.keep c o h n) n⟩
theorem Sm.same {p : Addr} {H H1 H2 : Hp} (a : Sm p H H1) (b : Same H1 H2) : Sm p H H2 := ⟨a.at0, fun c o h n => b c o (a.keep c o h n)⟩
theorem Sm.of {H H' : Hp} {p : Addr} {n : Nat} (h : H p = some (DiceO p n)) (e : Same H H') : Sm p H H' := (Sm.refl h).same e
theorem Sm.sl {p : Addr} {H H' : Hp} (e : Sm p H H') : Sl H H' := fun b o h n => e.keep b o h (by
  rintro rfl
  obtain ⟨m, hm⟩ := e.at0
  rw [hm] at h
  cases h
  cases n)
theorem Sm.upd {p : Addr} {H H' : Hp} {o : HO} (e : Sm p H H') : Sm p H (upd H' p o) := ⟨e.at0, fun a u ha hn => by
  rw [upd_ne hn]
  exact e.keep a u ha hn⟩
theorem Sm.new {p q : Addr} {H H' : Hp} {o : HO} (e : Sm p H H') (n : H q = none) : Sm p H (L2.upd H' q o) := ⟨e.at0, fun a u ha hn => by
  rw [upd_ne (ne_of_none ha n)]
  exact e.keep a u ha hn⟩
/-- what is no dice is elsewhere -/
theorem Sm.lst {p a : Addr} {H H' : Hp} {xs : List V} (e : Sm p H H') (h : H a = some (.lst xs)) : H' a = some (.lst xs) := e.keep a _ h (by
  rintro rfl
  obtain ⟨m, hm⟩ := e.at0
  rw [hm] at h
  cases h)
theorem Sm.tupO {p a : Addr} {H H' : Hp} {xs : List V} (e : Sm p H H') (h : H a = some (.tup xs)) : H' a = some (.tup xs) := e.sl _ _ h rfl
theorem Sm.nul {p q : Addr} {n : Nat} {H H' : Hp} (e : Sm p H H') (hp : H' p = some (DiceO p n)) (h : H' q = none) : H q = none := by
  cases z : H q with
  | none => rfl
  | some o =>
    by_cases hq : q = p
    · rw [hq, hp] at h
      cases h
    · rw [e.keep q o z hq] at h
      cases h
theorem Sm.tup {p : Addr} {K : PySem.W.Frag} {H H' : Hp} {a : Addr} {xs : List V} (e : Sm p H H') (h : SqT K H a xs) : SqT K H' a xs := e.sl.tup h
theorem Sm.seq {p : Addr} {K : PySem.W.Frag} {H H' : Hp} {a : Addr} {xs : List V} (e : Sm p H H') (h : SqL K H a xs) : SqL K H' a xs := by
  rcases h with (h | ⟨o, h⟩) | h
  · exact .inl (.inl (e.lst h))
  · exact .inl (.inr ⟨o, e.sl _ _ h rfl⟩)
  · exact .inr h
mutual
theorem dp_sm {q : Addr} {K : PySem.W.Frag} {H H' : Hp} (s : Sm q H H') : ∀ {d : PyData} {v : V}, Dp K H v d → Dp K H' v d
  | .none, _, h => by cases h; exact .non
  | .bool _, _, h => by cases h; exact .bl _
  | .int _, _, h => by cases h; exact .int _
  | .str _, _, h => by cases h; exact .str _
  | .list ds, _, h => by
    cases h with
    | lst hs ha => exact .lst (s.seq hs) (dpa_sm s ha)
  | .tuple ds, _, h => by
    cases h with
    | tup hs ha => exact .tup (s.tup hs) (dpa_sm s ha)
  | .dict _, _, h => by cases h
theorem dpa_sm {q : Addr} {K : PySem.W.Frag} {H H' : Hp} (s : Sm q H H') : ∀ {ds : List PyData} {vs : List V}, DpAll K H vs ds → DpAll K H' vs ds
  | [], _, h => by cases h; exact .nil
  | d :: ds, _, h => by
    cases h with
    | cons h1 h2 => exact .cons (dp_sm s h1) (dpa_sm s h2)
end
/-! ### what the drawing defs promise; the list of the drawn ones is at most 2 ^ 60 long -/
def spDice (K : PySem.W.Frag) : Sp := fun vs H Q _ => ∃ (a : Addr) (ns : List Int) (j : Nat), vs = [.ref a, .int j] ∧ SqL K H a (ns.map V.int) ∧ ns.length ≤ 63 ∧ j ≤ 100 ∧ ∀ p H', Same H H' → H p = none → H' p = some (DiceO p 0) → Q (.ref p) H'
def spRoll : Sp := fun vs H Q _ => ∃ (p : Addr) (n : Nat) (k : Int), vs = [.ref p, .int k] ∧ H p = some (DiceO p n) ∧ n < 2 ^ 60 ∧ 0 < k ∧ k < 2 ^ 20 ∧ ∀ r H', Sm p H H' → H' p = some (DiceO p (n + 1)) → 0 ≤ r → r < k → Q (.int r) H'
def spPick (K : PySem.W.Frag) : Sp := fun vs H Q _ => ∃ (p l : Addr) (n : Nat) (xs : List V), vs = [.ref p, .ref l] ∧ H p = some (DiceO p n) ∧ n < 2 ^ 60 ∧ SqL K H l xs ∧ xs ≠ [] ∧ xs.length < 2 ^ 20 ∧ ∀ v ∈ xs, ∀ H', Sm p H H' → H' p = some (DiceO p (n + 1)) → Q v H'
end Ax
end
section
set_option maxHeartbeats 2000000
namespace Ax
open PySem PySem.Spec PyProof.Rows L2
section
variable {X : Cx} {e a b o : Expr} {es : List Expr} {st : Stmt} {bl rest : List Stmt} {σ : L2.St} {H : Hp} {Q : VK} {D : Ends} {pos apos : Pos}
/-! ### methods of built-in types, one argument -/
theorem w_bm1 {T id : String} {name : Str} (pa : PlainAttrs T) (slot : Slot T name id) (hty : typeOf (.builtin id) = pure (.type "method_descriptor")) (h : W X o σ H fun x H1 => tyV X.K T x H1 ∧ W X a σ H1 fun y H2 => MtV X id x [y] H2 Q)
    (hbase : attributeBase o name X.env (eval o X.env) = eval o X.env := by rfl)
    (hfew : methodCallForm ([a].length + ([] : List Keyword).length + if ([] : List Keyword).isEmpty = true then 0 else 1) (backTo pos (starEach [a] X.env)) (backToKw pos (keywordEach [] X.env)) = true := by rfl)
    (hline : (apos.endLine == pos.line) = true := by rfl) (hs : starEach [a] X.env = (false, eval a X.env) :: starEach [] X.env := by rfl) (hpl : (backTo pos (starEach [] X.env)).any (·.1) = false := by rfl) :
    W X (.Call (.Attribute o name apos) [a] [] pos) σ H Q := by
  refine W.of (pe_bm pa slot hty mtV_r W.pe WA.pa hbase hfew hline hs hpl) ?_
  show W X o σ H _
  exact W.mono h fun x H1 ⟨t, h2⟩ => ⟨t, wa_cons (W.mono h2 fun y H2 q => wa_nil q) hs⟩
theorem tyV_list {x : V} {K : PySem.W.Frag} (h : ∃ l xs, x = .ref l ∧ SqL K H l xs) : tyV K "list" x H := by
  obtain ⟨l, xs, rfl, hl⟩ := h
  exact .inl ⟨rfl, _, hl⟩
theorem mv_append {l : Addr} {xs : List V} {y : V} (hl : H l = some (.lst xs)) (hz : xs.length < sizeLine) (q : Q .non (upd H l (.lst (xs ++ [y])))) : MtV X "list.append" (.ref l) [y] H Q := ⟨_, mt_append, l, xs, y, rfl, rfl, hl, hz, q⟩
theorem mv_extend {l b : Addr} {xs zs : List V} (hl : H l = some (.lst xs)) (hb : H b = some (.lst zs)) (hz : xs.length + zs.length ≤ sizeLine) (q : Q .non (upd H l (.lst (xs ++ zs)))) : MtV X "list.extend" (.ref l) [.ref b] H Q := ⟨_, mt_extend, l, b, xs, zs, rfl, rfl, hl, hb, hz, q⟩
theorem mv_popAt {l : Addr} {xs : List V} {i : Int} {y : V} (hl : H l = some (.lst xs)) (h0 : 0 ≤ i) (h1 : i.toNat < xs.length) (h2 : i < 2 ^ 62) (hy : xs[i.toNat]? = some y) (q : Q y (upd H l (.lst (xs.eraseIdx i.toNat)))) : MtV X "list.pop" (.ref l) [.int i] H Q :=
  ⟨_, mt_popAt, l, xs, i, i.toNat, y, rfl, rfl, hl, by omega, by omega, seqIndex_of h0 (by omega), hy, q⟩
theorem w_pop0 (h : W X o σ H fun x H1 => ∃ l xs y, x = .ref l ∧ H1 l = some (.lst xs) ∧ xs[xs.length - 1]? = some y ∧ Q y (upd H1 l (.lst xs.dropLast)))
    (hbase : attributeBase o "pop" X.env (eval o X.env) = eval o X.env := by rfl) (hline : (apos.endLine == pos.line) = true := by rfl) : W X (.Call (.Attribute o "pop" apos) [] [] pos) σ H Q := by
  refine W.of (pe_bm0 PySem.F.plainAttrs_list PySem.F.slot_list_pop PySem.F.type_list_pop mt_pop W.pe hbase hline) ?_
  show W X o σ H _
  refine W.mono h fun x H1 ⟨l, xs, y, ex, hl, hy, q⟩ => ⟨?_, l, xs, y, ex, rfl, hl, hy, q⟩
  subst ex
  exact .inl ⟨rfl, _, SqL.of hl⟩
/-! ### statements -/
theorem ws_par (i j : Nat) {x y : Str} {px py pt : Pos} {kt k2 pt2} (h : WA X [a, b] σ H fun vs H1 => ∃ v w, vs = [v, w] ∧ D.nx ((σ.set i (some v)).set j (some w)) H1) (hi : X.N[i]? = some x) (hj : X.N[j]? = some y) (hN : X.N.Nodup) (hc : X.calm = true := by rfl) (hij : i ≠ j := by decide)
    (hx : X.env.scope.names.lookup x = some .local := by rfl) (hy : X.env.scope.names.lookup y = some .local := by rfl)
    (hw : swappedStores [.Tuple [.Name x px, .Name y py] kt pt] (.Tuple [a, b] k2 pt2) X.env = pure (some [x, y]) := by rfl)
    (hs : swapsWithSole [.Tuple [.Name x px, .Name y py] kt pt] (.Tuple [a, b] k2 pt2) pos.line X.env = pure false := by rfl) :
    WS X (.Assign [.Tuple [.Name x px, .Name y py] kt pt] (.Tuple [a, b] k2 pt2) pos) D σ H := WS.of (ps_par hc hN hi hj hij hx hy WA.pa hw hs) h
theorem ws_tup2 (i j : Nat) {x y : Str} {px py pt : Pos} {kt} (h : W X e σ H fun v H1 => ∃ a v1 v2, v = .ref a ∧ SqT X.K H1 a [v1, v2] ∧ D.nx ((σ.set i (some v1)).set j (some v2)) H1) (hi : X.N[i]? = some x) (hj : X.N[j]? = some y) (hN : X.N.Nodup) (hc : X.calm = true := by rfl)
    (hx : Loc X.env.scope x := by first | exact Or.inl rfl | exact Or.inr rfl) (hy : Loc X.env.scope y := by first | exact Or.inl rfl | exact Or.inr rfl)
    (hfx : X.fn x = true ∨ X.env.scope.names.lookup x = some .local := by first | exact Or.inl rfl | exact Or.inr rfl) (hfy : X.fn y = true ∨ X.env.scope.names.lookup y = some .local := by first | exact Or.inl rfl | exact Or.inr rfl)
    (hs : swapsWithSole [.Tuple [.Name x px, .Name y py] kt pt] e pos.line X.env = pure false := by rfl) (hw : swappedStores [.Tuple [.Name x px, .Name y py] kt pt] e X.env = pure none := by rfl)
    (h1 : (assignEach [.Tuple [.Name x px, .Name y py] kt pt] X.env).map (·.2) = [assign (.Tuple [.Name x px, .Name y py] kt pt) X.env] := by rfl)
    (h2 : (assignEach (Expr.Name x px :: [.Name y py]) X.env).map (·.2) = assign (.Name x px) X.env :: (assignEach [.Name y py] X.env).map (·.2) := by rfl)
    (h3 : (assignEach (Expr.Name y py :: []) X.env).map (·.2) = assign (.Name y py) X.env :: (assignEach [] X.env).map (·.2) := by rfl)
    (h4 : (assignEach [.Name x px, .Name y py] X.env).length = 2 := by rfl) (h5 : (assignEach [.Name x px, .Name y py] X.env).findIdx? (·.1) = none := by rfl) :
    WS X (.Assign [.Tuple [.Name x px, .Name y py] kt pt] e pos) D σ H := by
  refine WS.of (ps_asg W.pe (pg_tup (n := 2) hc (pgs_cons (pg_name hN hi hx hfx) (pgs_cons (pg_name hN hj hy hfy) pgs_nil h3) h2) h4 h5) hs hw h1) ?_
  show W X e σ H _
  refine W.mono h fun v H1 ⟨a, v1, v2, ev, ha, q⟩ => ⟨a, [v1, v2], ev, ha, rfl, v1, [v2], rfl, v2, [], rfl, rfl, q⟩
/-- while, by what holds ahead of each turn, with a number that falls -/
theorem ws_while {c : Expr} {body : List Stmt} (I : Nat → L2.St → Hp → Prop) (h0 : ∃ m, I m σ H)
    (hs : ∀ m σ H, I m σ H → WT X c σ H fun k H1 => if k = true then WB X body { D with nx := fun σ' H' => ∃ m', m' < m ∧ I m' σ' H', ct := fun σ' H' => ∃ m', m' < m ∧ I m' σ' H', bk := D.nx } σ H1 else D.nx σ H1)
    (hp : PassesOwn (model X.prog X.w) X.A X.env X.xe) : WS X (.While c body [] pos) D σ H := by
  refine WS.of (ps_while hp WT.pt WB.pss) ⟨I, h0, fun m σ H i => WT.mono (hs m σ H i) fun k H1 q => ?_⟩
  cases k with
  | true => exact ⟨_, fun σ' H' z => z, q⟩
  | false => exact q
/-- for over a walk of fixed items -/
theorem ws_for {iter : Expr} {body : List Stmt} {x : Str} {px : Pos} (i : Nat) (h : WI X (.Name x px) iter σ H fun J H1 => ∃ n G Y, Walk J n G Y ∧ ∃ I : Nat → L2.St → Hp → Prop, I 0 σ H1 ∧ (∀ i σ H, i ≤ n → I i σ H → G H) ∧
      (∀ j v σ H H', j < n → I j σ H → Y j H v H' → WB X body { D with nx := I (j + 1), ct := I (j + 1), bk := D.nx } (σ.set i (some v)) H') ∧ ∀ σ H, I n σ H → D.nx σ H)
    (hi : X.N[i]? = some x) (hN : X.N.Nodup) (hp : PassesOwn (model X.prog X.w) X.A X.env X.xe) (hc : X.calm = true := by rfl) (hx : Loc X.env.scope x := by first | exact Or.inl rfl | exact Or.inr rfl)
    (hf : X.fn x = true ∨ X.env.scope.names.lookup x = some .local := by first | exact Or.inl rfl | exact Or.inr rfl) (hs : ∀ x, foldedSetIterable iter X.env x = pure x := by intro _; rfl) : WS X (.For (.Name x px) iter body [] pos) D σ H := by
  refine WS.of (ps_for hp hc WI.pi (pg_name hN hi hx hf) WB.pss hs) ?_
  refine ⟨fun pins s I => thn (h.run pins s I) fun v s1 z => thn z fun it s2 q => ?_⟩
  obtain ⟨it', fp, tn, J, H1, e, I2, T, t0, f0, n, G, Y, wk, Iv, i0, hG, hst, hd⟩ := q
  exact ⟨it', fp, tn, J, H1, e, I2, T, t0, f0, for_it wk Iv i0 hG (fun j v σ H H' hj hI y => hst j v σ H H' hj hI y) hd⟩
/-! ### raise X('..'), X over ValueError without own __init__ -/
structure ErrC (K : PySem.W.Frag) (mg : Str → Option Value) (x : Str) (C : Addr) : Prop where
  g : mg x = some (.ref C)
  x : PySem.W.excIn K C He.veBase "ValueError.__new__" = true
  k : PySem.W.keepIn K (.ref C) = true
  b : PySem.W.subIn K (.ref C) (.type "BaseException") = some true
  t : PySem.W.typeIn K (.ref C) = some (.type "type")
theorem ws_raise {x m : Str} {C : Addr} {j : Nat} {p p2 cpos : Pos} {Wx : WX} (hC : ErrC X.K X.mg x C) (tk : Takes X Wx) (h : Wx (.ref C) none σ H) (hc : X.calm = true := by rfl) (hg : Gl X x := by rfl) (hdb : (x == ("__debug__" : Str)) = false := by decide) :
    WS X (.Raise (some (.Call (.Name x p) [.Constant (.str m) j p2] [] cpos)) none pos) D σ H :=
  WS.of (ps_raise hc tk (pmk_own PySem.F.excBase_ValueError hC.x hC.g hC.k (raises_own hC.b hC.t) hg hdb)) h
theorem errC_of {K : PySem.W.Frag} {h : Heap} {mg : Str → Option Value} {x : Str} (I : K.In h) (G : h.Ns mainGlobals mg) (c : (He.Fa.glo x).ok K = true) (c2 : (He.Fa.exc x).ok K = true) : ErrC K mg x (He.ga K x) := by
  obtain ⟨h1, h2, h3, h4⟩ := He.exc_ok c2
  exact ⟨He.glo_ok I G c, h1, h2, h3, h4⟩
/-! ### lists of things by a relation -/
inductive All2 {β α : Type} (R : β → α → Prop) : List β → List α → Prop
  | nil : All2 R [] []
  | cons {x a xs as} : R x a → All2 R xs as → All2 R (x :: xs) (a :: as)
theorem All2.imp {β α : Type} {R S : β → α → Prop} (k : ∀ x a, R x a → S x a) : ∀ {xs : List β} {as : List α}, All2 R xs as → All2 S xs as
  | _, _, .nil => .nil
  | _, _, .cons r t => .cons (k _ _ r) (All2.imp k t)
theorem All2.app {β α : Type} {R : β → α → Prop} : ∀ {xs ys : List β} {as bs : List α}, All2 R xs as → All2 R ys bs → All2 R (xs ++ ys) (as ++ bs)
  | _, _, _, _, .nil, h => h
  | _, _, _, _, .cons r t, h => .cons r (All2.app t h)
theorem All2.one {β α : Type} {R : β → α → Prop} {x : β} {a : α} (h : R x a) : All2 R [x] [a] := .cons h .nil
theorem All2.len {β α : Type} {R : β → α → Prop} : ∀ {xs : List β} {as : List α}, All2 R xs as → xs.length = as.length
  | _, _, .nil => rfl
  | _, _, .cons _ t => by simp [All2.len t]
theorem All2.last {β α : Type} {R : β → α → Prop} : ∀ {xs : List β} {as : List α}, All2 R xs as → xs ≠ [] → ∃ x a ys bs, xs = ys ++ [x] ∧ as = bs ++ [a] ∧ R x a ∧ All2 R ys bs
  | _, _, .nil, h => absurd rfl h
  | _, _, .cons (x := x) (a := a) r .nil, _ => ⟨x, a, [], [], rfl, rfl, r, .nil⟩
  | _, _, .cons (x := x) (a := a) r (.cons r' t), _ => by
    obtain ⟨y, b, ys, bs, e1, e2, r2, t2⟩ := All2.last (.cons r' t) (by simp)
    exact ⟨y, b, x :: ys, a :: bs, by rw [e1]; rfl, by rw [e2]; rfl, r2, .cons r t2⟩
/-! ### xs != [] -/
theorem cv_ne_nil {p q : Addr} {xs : List V} (hu : X.A.units < cLine) (hp : SqL X.K H p xs) (hq : SqL X.K H q []) (h : Q (.bl (!xs.isEmpty)) H) : CmpV X .NotEq (.ref p) (.ref q) H Q := by
  refine ⟨fun x y H Q => x = .ref p ∧ y = .ref q ∧ SqL X.K H p xs ∧ SqL X.K H q [] ∧ Q (.bl (!xs.isEmpty)) H, ?_, rfl, rfl, hp, hq, h⟩
  rintro pins s σ H x y v u Q I rx ry ⟨rfl, rfl, h1, h2, q⟩
  cases rx
  cases ry
  obtain ⟨its, r, pl, _⟩ := I.list h1
  obtain ⟨its2, r2, pl2, _⟩ := I.list h2
  cases r2
  have hl := r.length
  cases xs with
  | nil =>
    cases r
    exact SeqAt.RcNeAt.lists (e := fun _ => true) pl.isList pl2.isList rfl hu (fun j h1 _ => absurd h1 (by simp)) _ _ _ _ ⟨.bl _, H, I, rfl, q⟩
  | cons y ys =>
    cases r with
    | cons r1 rt => exact SeqAt.RcNeAt.lists_lengths pl.isList pl2.isList (by simp) hu _ _ _ _ ⟨.bl _, H, I, rfl, q⟩
end
end Ax
end
section
set_option maxHeartbeats 2000000
namespace Ax
open PySem PySem.Spec PyProof.Rows L2
section
variable {X : Cx} {iter elt kx vx tg : Expr} {ifs : List Expr} {σ : L2.St} {H : Hp} {Q : VK} {pos : Pos} {scope : Scope}
/-- all blocks of a comprehension -/
def Blk (X : Cx) (scope : Scope) (P : Cx → Prop) : Prop := ∀ (s : Shared) (H : Hp) (C : Addr) (cl : List (Str × Addr)) (fp : List Addr), P (X.blk s H scope (compEnvC scope cl C X.env) fp)
/-- items by their places, left out or making something -/
inductive RelI {β : Type} (N : Nat → Prop) (R : Nat → β → Prop) : Nat → List β → Prop
  | nil : RelI N R 0 []
  | drop {n ys} : N n → RelI N R n ys → RelI N R (n + 1) ys
  | keep {n y ys} : R n y → RelI N R n ys → RelI N R (n + 1) (ys ++ [y])
namespace RelI
variable {β : Type} {N : Nat → Prop} {R S : Nat → β → Prop}
theorem imp (k : ∀ x y, R x y → S x y) : ∀ {n : Nat} {ys : List β}, RelI N R n ys → RelI N S n ys
  | _, _, .nil => .nil
  | _, _, .drop n t => .drop n (imp k t)
  | _, _, .keep r t => .keep (k _ _ r) (imp k t)
theorem len : ∀ {n : Nat} {ys : List β}, RelI N R n ys → ys.length ≤ n
  | _, _, .nil => Nat.le_refl _
  | _, _, .drop _ t => Nat.le_succ_of_le (len t)
  | _, _, .keep _ t => by
    have := len t
    simp only [List.length_append, List.length_singleton]
    omega
/-- .. over data ds: those that f tells -/
theorem data {α γ : Type} {T : β → γ → Prop} {ds : List α} (f : α → Option γ) (hN : ∀ j d, ds[j]? = some d → N j → f d = none) (hR : ∀ j d y, ds[j]? = some d → R j y → ∃ e, f d = some e ∧ T y e) :
    ∀ {n : Nat} {ys : List β}, n ≤ ds.length → RelI N R n ys → ∃ es, (ds.take n).filterMap f = es ∧ All2 T ys es := by
  intro n ys hn h
  induction h with
  | nil => exact ⟨[], rfl, .nil⟩
  | @drop n ys h _ ih =>
    obtain ⟨es, e, q⟩ := ih (by omega)
    have hd : ds[n]? = some ds[n] := List.getElem?_eq_getElem (by omega)
    refine ⟨es, ?_, q⟩
    rw [List.take_add_one, hd, List.filterMap_append, e]
    simp [hN n _ hd h]
  | @keep n y ys h _ ih =>
    obtain ⟨es, e, q⟩ := ih (by omega)
    have hd : ds[n]? = some ds[n] := List.getElem?_eq_getElem (by omega)
    obtain ⟨e1, h1, h2⟩ := hR n _ y hd h
    refine ⟨es ++ [e1], ?_, ?_⟩
    · rw [List.take_add_one, hd, List.filterMap_append, e]
      simp [h1]
    · exact q.app (.one h2)
end RelI
/-- a list comprehension with any target and tests: N tells who is left out, R what becomes of whom -/
abbrev LcG (X : Cx) (tg iter elt : Expr) (scope : Scope) (own : List (Str × Nat)) (g : TG) (tt : TT) (σ : L2.St) (H : Hp) (Q : VK) : Prop := WI X tg iter σ H fun J H1 => ∃ xs, SeqIt J H1 xs ∧ xs.length < sizeLine ∧ ∃ (N : Nat → Prop) (R : Nat → V → Hp → Prop), (∀ x y Ha Hb, R x y Ha → Sl Ha Hb → R x y Hb) ∧
      (∀ j v, xs[j]? = some v → ∀ H2, Same H1 H2 → ∀ (Kf : Hp → Prop) (Kt : VK), (N j → ∀ H3, Same H2 H3 → Kf H3) → (∀ y H3, Same H2 H3 → R j y H3 → Kt y H3) →
        g v (wipe σ (own.map (·.2))) H2 fun σ2 H3 => wipe σ2 (own.map (·.2)) = wipe σ (own.map (·.2)) ∧ tt σ2 H3 fun b H4 => if b = true then (Blk X scope fun Y => W Y elt σ2 H4 Kt) else Kf H4) ∧
      ∀ q ys H2, Same H1 H2 → H1 q = none → H2 q = some (.lst ys) → RelI N (fun x y => R x y H2) xs.length ys → Q (.ref q) H2
theorem lcG_t {own : List (Str × Nat)} {g : TG} {tt : TT} (h : LcG X tg iter elt scope own g tt σ H Q) : tLc (WI X tg iter) g tt (fun σ2 H2 K => Blk X scope fun Y => W Y elt σ2 H2 K) (own.map (·.2)) σ H Q := by
  refine ⟨fun pins s I => thn (h.run pins s I) fun v s1 z => thn z fun it s2 q => ?_⟩
  obtain ⟨it', fp, tn, J, H1, e, I2, T, t0, f0, xs, ⟨G, wk, g0, gs⟩, hlen, N, R, hst, hel, hend⟩ := q
  refine ⟨it', fp, tn, J, H1, e, I2, T, t0, f0, fun Dd nD => ?_⟩
  refine lc_it (H1 := H1) (D := Dd) (g := g) (tt := tt) (te := fun σ2 H2 K => Blk X scope fun Y => W Y elt σ2 H2 K) (vs := own.map (·.2)) (σ := σ) (Qd := fun H2 => Q (.ref Dd) H2) wk
    (fun j H2 => ∃ ys, Same H1 H2 ∧ H2 Dd = some (.lst ys) ∧ RelI N (fun x y => R x y H2) j ys) ⟨[], same_new nD, upd_same, .nil⟩ (fun j H2 _ ⟨ys, sm, hD, _⟩ => gs _ sm) ?_ ?_
  · rintro j v H2 H2' hj ⟨ys, s12, hD, rel⟩ ⟨eH, hv⟩
    subst eH
    refine hel j v hv _ s12 _ _ (fun c H3 s23 => ?_) (fun y H3 s23 r => ?_)
    · refine ⟨ys, s12.trans s23, s23 _ _ hD, ?_⟩
      exact .drop c (rel.imp fun a b q => hst _ _ _ _ q (Sl.of s23))
    · have hD3 := s23 _ _ hD
      have hl : ys.length < sizeLine := by
        have e1 := rel.len
        omega
      refine ⟨ys, hD3, hl, ys ++ [y], same_upd (s12.trans s23) nD, upd_same, ?_⟩
      have sl : Sl H3 (upd H3 Dd (.lst (ys ++ [y]))) := (Sl.refl H3).lst hD3
      exact .keep (R := fun x y => R x y _) (hst _ _ _ _ r sl) (rel.imp fun a b q => hst _ _ _ _ q ((Sl.of s23).trans sl))
  · rintro H2 ⟨ys, s12, hD, rel⟩
    exact hend Dd ys H2 s12 nD hD rel
theorem w_lcG (own : List (Str × Nat)) (g : TG) (tt : TT) (hg : Blk X scope fun Y => PG Y tg g) (ht : Blk X scope fun Y => PTs Y ifs tt) (hc : X.calm = true) (hN : X.N.Nodup) (ok : BlkOk X.N X.env.scope scope own)
    (h : LcG X tg iter elt scope own g tt σ H Q)
    (hs : ∀ x, foldedSetIterable iter X.env x = pure x := by intro _; rfl) : W X (.ListComp elt [⟨tg, iter, ifs, 0⟩] scope pos) σ H Q := by
  exact W.of (pe_lc (own := own) (g := g) (tt := tt) (te := fun σ2 H2 K => Blk X scope fun Y => W Y elt σ2 H2 K) hc hN WI.pi ok hg ht
    (fun s H C cl fp => ⟨fun pins s' σ' H' Q' I' h' => (h' s H C cl fp).run pins s' I'⟩) hs) (lcG_t h)
theorem ws_setLcG {D : Ends} {y : Str} {py spos : Pos} (i : Nat) (own : List (Str × Nat)) (g : TG) (tt : TT) (hg : Blk X scope fun Y => PG Y tg g) (ht : Blk X scope fun Y => PTs Y ifs tt) (hc : X.calm = true) (hN : X.N.Nodup) (ok : BlkOk X.N X.env.scope scope own) (hy : X.N[i]? = some y)
    (h : LcG X tg iter elt scope own g tt σ H fun v H1 => D.nx (σ.set i (some v)) H1) (hyl : X.env.scope.names.lookup y = some .local := by rfl) (hsw : swapsWith (.ListComp elt [⟨tg, iter, ifs, 0⟩] scope pos) (some (.Name y py)) spos.line X.env = pure true := by exact sw_true rfl rfl rfl rfl)
    (hs : ∀ x, foldedSetIterable iter X.env x = pure x := by intro _; rfl) : WS X (.Assign [.Name y py] (.ListComp elt [⟨tg, iter, ifs, 0⟩] scope pos) spos) D σ H :=
  WS.of (ps_setLc (own := own) (g := g) (tt := tt) (te := fun σ2 H2 K => Blk X scope fun Y => W Y elt σ2 H2 K) hc hN hy hyl hsw WI.pi ok hg ht
    (fun s H C cl fp => ⟨fun pins s' σ' H' Q' I' h' => (h' s H C cl fp).run pins s' I'⟩) hs) (lcG_t h)
/-- places of two lists -/
theorem All2.at {β α : Type} {R : β → α → Prop} {xs : List β} {as : List α} (h : All2 R xs as) : ∀ {j : Nat} {x : β}, xs[j]? = some x → ∃ a, as[j]? = some a ∧ R x a := by
  induction h with
  | nil => intro j x e; simp at e
  | cons r _ ih =>
    intro j x e
    cases j with
    | zero =>
      simp at e
      subst e
      exact ⟨_, rfl, r⟩
    | succ j => exact ih (by simpa using e)
theorem All2.atR {β α : Type} {R : β → α → Prop} {xs : List β} {as : List α} (h : All2 R xs as) : ∀ {j : Nat} {a : α}, as[j]? = some a → ∃ x, xs[j]? = some x ∧ R x a := by
  induction h with
  | nil => intro j x e; simp at e
  | cons r _ ih =>
    intro j x e
    cases j with
    | zero =>
      simp at e
      subst e
      exact ⟨_, rfl, r⟩
    | succ j => exact ih (by simpa using e)
theorem All2.mapL {β γ : Type} {f : γ → β} {xs : List β} {cs : List γ} (h : All2 (fun x c => x = f c) xs cs) : xs = cs.map f := by
  induction h with
  | nil => rfl
  | cons e _ ih => rw [e, ih]; rfl
/-- the keys that were put in -/
theorem putK_keys {d : List (Key × V)} {k : Key} {v : V} : (k ∈ d.map (·.1) ∧ (putK d k v).map (·.1) = d.map (·.1)) ∨ (k ∉ d.map (·.1) ∧ (putK d k v).map (·.1) = d.map (·.1) ++ [k]) := by
  unfold putK
  cases e : d.any fun kv => decide (kv.1 = k) with
  | true =>
    left
    obtain ⟨kv, h1, h2⟩ := List.any_eq_true.mp e
    refine ⟨List.mem_map.mpr ⟨kv, h1, of_decide_eq_true h2⟩, ?_⟩
    rw [if_pos rfl, List.map_map]
    refine List.map_congr_left fun kv _ => ?_
    show (if kv.1 = k then (kv.1, v) else kv).1 = kv.1
    split <;> rfl
  | false =>
    right
    refine ⟨fun h => ?_, ?_⟩
    · obtain ⟨kv, h1, h2⟩ := List.mem_map.mp h
      have h3 := List.any_eq_false.mp e kv h1
      exact h3 (decide_eq_true h2)
    · rw [if_neg Bool.false_ne_true]
      simp
/-- the dict of pairs put in one behind another -/
def putAll (ys : List (Key × V)) : List (Key × V) := ys.foldl (fun d kv => putK d kv.1 kv.2) []
theorem putAll_snoc {ys : List (Key × V)} {k : Key} {v : V} : putAll (ys ++ [(k, v)]) = putK (putAll ys) k v := by
  unfold putAll
  rw [List.foldl_append]
  rfl
theorem putAll_mem (ys : List (Key × V)) : ((putAll ys).map (·.1)).Nodup ∧ ∀ k, k ∈ (putAll ys).map (·.1) ↔ k ∈ ys.map (·.1) := by
  have h : ∀ (zs d : List (Key × V)), (d.map (·.1)).Nodup → ((zs.foldl (fun d kv => putK d kv.1 kv.2) d).map (·.1)).Nodup ∧ ∀ k, k ∈ (zs.foldl (fun d kv => putK d kv.1 kv.2) d).map (·.1) ↔ k ∈ d.map (·.1) ∨ k ∈ zs.map (·.1) := by
    intro zs
    induction zs with
    | nil => intro d n; exact ⟨n, fun k => by simp⟩
    | cons z zs ih =>
      intro d n
      have e := putK_keys (d := d) (k := z.1) (v := z.2)
      have n2 : ((putK d z.1 z.2).map (·.1)).Nodup := by
        rcases e with ⟨_, e⟩ | ⟨c, e⟩
        · rw [e]; exact n
        · rw [e, List.nodup_append]
          refine ⟨n, by simp, fun a ha b hb => ?_⟩
          rw [List.mem_singleton.mp hb]
          rintro rfl
          exact c ha
      obtain ⟨h1, h2⟩ := ih (putK d z.1 z.2) n2
      refine ⟨h1, fun k => ?_⟩
      rw [List.foldl_cons, h2 k, List.map_cons, List.mem_cons]
      rcases e with ⟨c, e⟩ | ⟨c, e⟩
      · rw [e]
        constructor
        · rintro (h | h)
          · exact .inl h
          · exact .inr (.inr h)
        · rintro (h | h | h)
          · exact .inl h
          · rw [h]; exact .inl c
          · exact .inr h
      · rw [e, List.mem_append, List.mem_singleton, or_assoc]
  obtain ⟨h1, h2⟩ := h ys [] (by simp)
  exact ⟨h1, fun k => (h2 k).trans (by simp)⟩
theorem nodup_len {α : Type} [DecidableEq α] : ∀ {xs L : List α}, xs.Nodup → (∀ z ∈ xs, z ∈ L) → xs.length ≤ L.length
  | [], _, _, _ => Nat.zero_le _
  | x :: xs, L, n, h => by
    have n := List.nodup_cons.mp n
    have h1 := nodup_len (xs := xs) (L := L.erase x) n.2 fun z hz => (List.mem_erase_of_ne (by rintro rfl; exact n.1 hz)).mpr (h z (List.mem_cons_of_mem _ hz))
    have h2 := List.length_erase_of_mem (h x List.mem_cons_self)
    have h3 : 0 < L.length := List.length_pos_of_mem (h x List.mem_cons_self)
    simp only [List.length_cons]
    omega
theorem putAll_len : ∀ ys : List (Key × V), (putAll ys).length ≤ ys.length := by
  intro ys
  have h : ∀ (zs d : List (Key × V)), (zs.foldl (fun d kv => putK d kv.1 kv.2) d).length ≤ d.length + zs.length := by
    intro zs
    induction zs with
    | nil => intro d; exact Nat.le_refl _
    | cons z zs ih =>
      intro d
      have h1 := ih (putK d z.1 z.2)
      have h2 := length_putK d z.1 z.2
      show (zs.foldl _ (putK d z.1 z.2)).length ≤ _
      simp only [List.length_cons]
      omega
  have e := h ys []
  rw [List.length_nil, Nat.zero_add] at e
  exact e
/-- a dict comprehension, keys ints or texts -/
theorem w_dcG (own : List (Str × Nat)) (g : TG) (tt : TT) (hg : Blk X scope fun Y => PG Y tg g) (ht : Blk X scope fun Y => PTs Y ifs tt) (hc : X.calm = true) (hN : X.N.Nodup) (ok : BlkOk X.N X.env.scope scope own)
    (h : WI X tg iter σ H fun J H1 => ∃ xs, SeqIt J H1 xs ∧ xs.length < sizeLine ∧ ∃ (N : Nat → Prop) (R : Nat → Key → V → Hp → Prop), (∀ x k y Ha Hb, R x k y Ha → Sl Ha Hb → R x k y Hb) ∧
      (∀ j v, xs[j]? = some v → ∀ H2, Same H1 H2 → ∀ (Kf : Hp → Prop) (Kt : V → V → Hp → Prop), (N j → ∀ H3, Same H2 H3 → Kf H3) → (∀ k y H3, Same H2 H3 → R j k y H3 → Kt (kV k) y H3) →
        g v (wipe σ (own.map (·.2))) H2 fun σ2 H3 => wipe σ2 (own.map (·.2)) = wipe σ (own.map (·.2)) ∧ tt σ2 H3 fun b H4 => if b = true then (Blk X scope fun Y => W Y kx σ2 H4 fun y H5 => Blk X scope fun Y => W Y vx σ2 H5 fun z H6 => Kt y z H6) else Kf H4) ∧
      ∀ q ys H2, H1 q = none → H2 q = some (.dK (putAll ys)) → Same H1 H2 → RelI N (fun x (ky : Key × V) => R x ky.1 ky.2 H2) xs.length ys → Q (.ref q) H2)
    (hs : ∀ x, foldedSetIterable iter X.env x = pure x := by intro _; rfl) : W X (.DictComp kx vx [⟨tg, iter, ifs, 0⟩] scope pos) σ H Q := by
  refine W.of (pe_dc (own := own) (g := g) (tt := tt) (tk := fun σ2 H2 K => Blk X scope fun Y => W Y kx σ2 H2 K) (tv := fun σ2 H2 K => Blk X scope fun Y => W Y vx σ2 H2 K) hc hN WI.pi ok hg ht
    (fun s H C cl fp => ⟨fun pins s' σ' H' Q' I' h' => (h' s H C cl fp).run pins s' I'⟩) (fun s H C cl fp => ⟨fun pins s' σ' H' Q' I' h' => (h' s H C cl fp).run pins s' I'⟩) hs) ?_
  refine ⟨fun pins s I => thn (h.run pins s I) fun v s1 z => thn z fun it s2 q => ?_⟩
  obtain ⟨it', fp, tn, J, H1, e, I2, T, t0, f0, xs, ⟨G, wk, g0, gs⟩, hlen, N, R, hst, hel, hend⟩ := q
  refine ⟨it', fp, tn, J, H1, e, I2, T, t0, f0, fun D nD => ?_⟩
  let Pv : Nat → Hp → Prop := fun j H2 => ∃ ys, Same H1 H2 ∧ H2 D = some (.dK (putAll ys)) ∧ RelI N (fun x (ky : Key × V) => R x ky.1 ky.2 H2) j ys
  refine ⟨fun i m H => m = xs.length - i ∧ i ≤ xs.length ∧ Pv i H, ⟨xs.length, by simp, Nat.zero_le _, [], same_new nD, upd_same, .nil⟩, ?_⟩
  rintro j m H2 ⟨rfl, hi, ys, s12, hD, rel⟩
  have gq := gs _ s12
  by_cases hlt : j < xs.length
  · refine .inr ⟨wk.goes j H2 hlt gq, Pv (j + 1), fun H' p' => ⟨xs.length - (j + 1), by omega, rfl, hlt, p'⟩, fun v H2' y => ?_⟩
    obtain ⟨eH, hv⟩ := wk.yields j H2 v H2' hlt gq y
    subst eH
    refine hel j v hv _ s12 _ (fun y z H4 => ∃ kvs k, y = kV k ∧ H4 D = some (.dK kvs) ∧ kvs.length < sizeLine ∧ Pv (j + 1) (upd H4 D (.dK (putK kvs k z)))) (fun c H3 s23 => ?_) (fun k y H3 s23 r => ?_)
    · refine ⟨ys, s12.trans s23, s23 _ _ hD, ?_⟩
      exact .drop c (rel.imp fun a b q => hst _ _ _ _ _ q (Sl.of s23))
    · have hD3 := s23 _ _ hD
      have hl : (putAll ys).length < sizeLine := by
        have e0 := putAll_len ys
        have e1 := rel.len
        omega
      refine ⟨_, k, rfl, hD3, hl, ys ++ [(k, y)], same_upd (s12.trans s23) nD, ?_, ?_⟩
      · rw [putAll_snoc]
        exact upd_same
      · have sl : Sl H3 (upd H3 D (.dK (putK (putAll ys) k y))) := (Sl.refl H3).upd hD3 rfl
        exact .keep (R := fun x (ky : Key × V) => R x ky.1 ky.2 _) (hst _ _ _ _ _ r sl) (rel.imp fun a b q => hst _ _ _ _ _ q ((Sl.of s23).trans sl))
  · have e : j = xs.length := by omega
    subst e
    exact .inl ⟨wk.stops _ gq, hend D ys H2 nD hD s12 rel⟩
/-! ### calls by values -/
theorem kv_maxL {p : Addr} {ns : List Int} (hc : X.calm = true) (hp : SqL X.K H p (ns.map V.int)) (hn : 0 < ns.length) (h : ∀ m, m ∈ ns → (∀ y, y ∈ ns → y ≤ m) → Q (.int m) H) : CallV X (.builtin "max") [.ref p] H Q := ⟨_, cr_max hc, p, ns, rfl, hp, hn, h⟩
theorem kv_minL {p : Addr} {ns : List Int} (hc : X.calm = true) (hp : SqL X.K H p (ns.map V.int)) (hn : 0 < ns.length) (h : ∀ m, m ∈ ns → (∀ y, y ∈ ns → m ≤ y) → Q (.int m) H) : CallV X (.builtin "min") [.ref p] H Q := ⟨_, cr_min hc, p, ns, rfl, hp, hn, h⟩
theorem kv_sumL {p : Addr} {ns : List Int} (hc : X.calm = true) (hp : SqL X.K H p (ns.map V.int)) (h : Q (.int ns.sum) H) : CallV X (.builtin "sum") [.ref p] H Q := ⟨_, cr_sum hc, p, ns, rfl, hp, h⟩
theorem kv_sortedS {p : Addr} {xs : List Str} (hp : SqL X.K H p (xs.map V.str)) (hn : xs.length < 64) (h : ∀ ys q H2, ys.Perm xs → sortedS ys = true → Same H H2 → H q = none → H2 q = some (.lst (ys.map V.str)) → Q (.ref q) H2) : CallV X (.builtin "sorted") [.ref p] H Q :=
  ⟨_, cr_sortedS, p, xs, rfl, hp, hn, fun ys q h1 h2 h3 => h ys q _ h1 h2 (same_new h3) h3 upd_same⟩
theorem kv_sortedD {p : Addr} {kvs : List (Key × V)} {ks : List Str} (hc : X.calm = true) (hp : H p = some (.dK kvs)) (hk : kvs.map (·.1) = ks.map Sum.inr) (hn : ks.length < 64) (h : ∀ ys q H2, ys.Perm ks → sortedS ys = true → Same H H2 → H q = none → H2 q = some (.lst (ys.map V.str)) → Q (.ref q) H2) : CallV X (.builtin "sorted") [.ref p] H Q :=
  ⟨_, call_sortedD hc, p, kvs, ks, rfl, Rd.of hp, hk, hn, fun ys q h1 h2 h3 => h ys q _ h1 h2 (same_new h3) h3 upd_same⟩
theorem kv_tupleL {p : Addr} {xs : List V} (hp : SqL X.K H p xs) (h : ∀ q H2, Same H H2 → H q = none → H2 q = some (.tup xs) → Q (.ref q) H2) : CallV X (.type "tuple") [.ref p] H Q :=
  ⟨_, call_tuple_of, p, xs, rfl, .inl ⟨hp, fun q h3 => h q _ (same_new h3) h3 upd_same⟩⟩
theorem kv_listS {p : Addr} {xs : List V} (hp : SqL X.K H p xs ∨ SqT X.K H p xs) (h : ∀ q H2, Same H H2 → H q = none → H2 q = some (.lst xs) → Q (.ref q) H2) : CallV X (.type "list") [.ref p] H Q :=
  ⟨_, call_list_of, p, xs, rfl, hp, fun q h3 => h q _ (same_new h3) h3 upd_same⟩
end
end Ax
end
section
set_option maxHeartbeats 2000000
namespace Ax
open PySem PySem.Spec PyProof.Rows L2
/-! ### all but soft things stands -/
def wispO : HO → Bool
  | .ext _ => true
  | .tbl _ => true
  | _ => false
def Sx (H H' : Hp) : Prop := ∀ a o, H a = some o → wispO o = false → H' a = some o
theorem Sx.refl (H : Hp) : Sx H H := fun _ _ h _ => h
theorem Sx.trans {H H1 H2 : Hp} (a : Sx H H1) (b : Sx H1 H2) : Sx H H2 := fun c o h n => b c o (a c o h n) n
theorem Sx.of {H H' : Hp} (e : Same H H') : Sx H H' := fun b o h _ => e b o h
theorem Sm.sx {p : Addr} {H H' : Hp} (e : Sm p H H') : Sx H H' := fun b o h n => e.keep b o h (by
  rintro rfl
  obtain ⟨m, hm⟩ := e.at0
  rw [hm] at h
  cases h
  cases n)
theorem Sx.ofN {H H' : Hp} (e : LamX.ExtN H H') : Sx H H' := fun b o h n => e b o h fun ps z => by
  rw [z] at n
  cases n
theorem Sx.sl {H H' : Hp} (e : Sx H H') : Sl H H' := fun b o h n => e b o h (by cases o <;> first | rfl | cases n)
theorem Sx.tup {K : PySem.W.Frag} {H H' : Hp} {a : Addr} {xs : List V} (e : Sx H H') (h : SqT K H a xs) : SqT K H' a xs := e.sl.tup h
theorem Sx.seq {K : PySem.W.Frag} {H H' : Hp} {a : Addr} {xs : List V} (e : Sx H H') (h : SqL K H a xs) : SqL K H' a xs := by
  rcases h with (h | ⟨o, h⟩) | h
  · exact .inl (.inl (e _ _ h rfl))
  · exact .inl (.inr ⟨o, e _ _ h rfl⟩)
  · exact .inr h
mutual
theorem dp_sx {K : PySem.W.Frag} {H H' : Hp} (s : Sx H H') : ∀ {d : PyData} {v : V}, Dp K H v d → Dp K H' v d
  | .none, _, h => by cases h; exact .non
  | .bool _, _, h => by cases h; exact .bl _
  | .int _, _, h => by cases h; exact .int _
  | .str _, _, h => by cases h; exact .str _
  | .list ds, _, h => by
    cases h with
    | lst hs ha => exact .lst (s.seq hs) (dpa_sx s ha)
  | .tuple ds, _, h => by
    cases h with
    | tup hs ha => exact .tup (s.tup hs) (dpa_sx s ha)
  | .dict _, _, h => by cases h
theorem dpa_sx {K : PySem.W.Frag} {H H' : Hp} (s : Sx H H') : ∀ {ds : List PyData} {vs : List V}, DpAll K H vs ds → DpAll K H' vs ds
  | [], _, h => by cases h; exact .nil
  | d :: ds, _, h => by
    cases h with
    | cons h1 h2 => exact .cons (dp_sx s h1) (dpa_sx s h2)
end
/-- data, or an empty dict -/
inductive AnyX (K : PySem.W.Frag) (H : Hp) : V → Option PyData → Prop
  | dat {v : V} {d : PyData} (h : Dp K H v d) (ok : okD d = true) : AnyX K H v (some d)
  | dct {a : Addr} {kvs : List (Key × V)} (h : H a = some (.dK kvs)) : AnyX K H (.ref a) none
theorem AnyX.sx {K : PySem.W.Frag} {H H' : Hp} {v : V} {o : Option PyData} (s : Sx H H') (a : AnyX K H v o) : AnyX K H' v o := by
  cases a with
  | dat h ok => exact .dat (dp_sx s h) ok
  | dct h => exact .dct (s _ _ h rfl)
theorem AnyX.any {K : PySem.W.Frag} {H : Hp} {v : V} {o : Option PyData} (a : AnyX K H v o) : AnyV K H v o := by
  cases a with
  | dat h ok => exact .dat h ok
  | dct h =>
    refine .oth (.base (.dK h)) fun T hT => kit_ty ?_
    have q : ∀ T ∈ ["str", "int", "bool", "tuple", "list"], kitB "dict" T = some false := by decide +kernel
    exact q T hT
section
variable {X : Cx} {e a b o elt iter tg : Expr} {es : List Expr} {scope : Scope} {σ : L2.St} {H : Hp} {Q : VK} {pos p2 : Pos}
/-! ### least and greatest of texts -/
theorem ltS (a b : Str) : (PySem.W.DatumOrd.lt a b = true) ↔ a.cps.toList < b.cps.toList := decide_eq_true_iff
theorem lt_ofle {a b c : List Nat} (h : a < b) (k : ¬ c < b) : a < c := by
  rcases Classical.em (a < c) with q | q
  · exact q
  · exact absurd h (List.le_trans (show b ≤ c from k) (show c ≤ a from q))
theorem least_str : ∀ (xs : List Str) (x : Str), PySem.W.minOf x xs ∈ x :: xs ∧ ∀ y ∈ x :: xs, ¬ y.cps.toList < (PySem.W.minOf x xs).cps.toList
  | [], x => ⟨List.mem_cons_self, fun y hy => by
    rw [List.mem_singleton.mp hy]
    exact List.lt_irrefl _⟩
  | z :: xs, x => by
    have e : PySem.W.minOf x (z :: xs) = PySem.W.minOf (if PySem.W.DatumOrd.lt z x = true then z else x) xs := rfl
    obtain ⟨h1, h2⟩ := least_str xs (if PySem.W.DatumOrd.lt z x = true then z else x)
    rw [e]
    have hm := h2 _ List.mem_cons_self
    by_cases c : PySem.W.DatumOrd.lt z x = true
    · rw [if_pos c] at h1 h2 hm ⊢
      have c := (ltS z x).mp c
      refine ⟨List.mem_cons_of_mem _ h1, fun y hy => ?_⟩
      rcases List.mem_cons.mp hy with q | q
      · rw [q]
        exact fun hx => hm (List.lt_trans c hx)
      · exact h2 y q
    · rw [if_neg c] at h1 h2 hm ⊢
      have c : ¬ z.cps.toList < x.cps.toList := fun q => c ((ltS z x).mpr q)
      refine ⟨?_, fun y hy => ?_⟩
      · rcases List.mem_cons.mp h1 with q | q
        · rw [q]; exact List.mem_cons_self
        · exact List.mem_cons_of_mem _ (List.mem_cons_of_mem _ q)
      · rcases List.mem_cons.mp hy with q | q
        · rw [q]; exact hm
        · rcases List.mem_cons.mp q with q | q
          · rw [q]
            exact fun hx => c (lt_ofle hx hm)
          · exact h2 y (List.mem_cons_of_mem _ q)
theorem most_str : ∀ (xs : List Str) (x : Str), PySem.W.maxOf x xs ∈ x :: xs ∧ ∀ y ∈ x :: xs, ¬ (PySem.W.maxOf x xs).cps.toList < y.cps.toList
  | [], x => ⟨List.mem_cons_self, fun y hy => by
    rw [List.mem_singleton.mp hy]
    exact List.lt_irrefl _⟩
  | z :: xs, x => by
    have e : PySem.W.maxOf x (z :: xs) = PySem.W.maxOf (if PySem.W.DatumOrd.lt x z = true then z else x) xs := rfl
    obtain ⟨h1, h2⟩ := most_str xs (if PySem.W.DatumOrd.lt x z = true then z else x)
    rw [e]
    have hm := h2 _ List.mem_cons_self
    by_cases c : PySem.W.DatumOrd.lt x z = true
    · rw [if_pos c] at h1 h2 hm ⊢
      have c := (ltS x z).mp c
      refine ⟨List.mem_cons_of_mem _ h1, fun y hy => ?_⟩
      rcases List.mem_cons.mp hy with q | q
      · rw [q]
        exact fun hx => hm (List.lt_trans hx c)
      · exact h2 y q
    · rw [if_neg c] at h1 h2 hm ⊢
      have c : ¬ x.cps.toList < z.cps.toList := fun q => c ((ltS x z).mpr q)
      refine ⟨?_, fun y hy => ?_⟩
      · rcases List.mem_cons.mp h1 with q | q
        · rw [q]; exact List.mem_cons_self
        · exact List.mem_cons_of_mem _ (List.mem_cons_of_mem _ q)
      · rcases List.mem_cons.mp hy with q | q
        · rw [q]; exact hm
        · rcases List.mem_cons.mp q with q | q
          · rw [q]
            exact fun hx => hm (lt_ofle hx c)
          · exact h2 y (List.mem_cons_of_mem _ q)
theorem dps {K : PySem.W.Frag} : ∀ (zs : List Str), DpAll K H (zs.map V.str) (zs.map PyData.str)
  | [] => .nil
  | z :: zs => .cons (.str z) (dps zs)
theorem vals_str {zs : List Str} {us : List Value} {i : Nat} {v : Value} (r : Vals (zs.map V.str) us) (h : us[i]? = some v) : ∃ z, z ∈ zs ∧ RelV (.str z) v := by
  induction zs generalizing us i with
  | nil => cases r; simp at h
  | cons z zs ih =>
    cases r with
    | cons r1 r2 =>
      cases i with
      | zero =>
        simp at h
        subst h
        exact ⟨z, List.mem_cons_self, r1⟩
      | succ i =>
        obtain ⟨z', h1, h2⟩ := ih r2 (by simpa using h)
        exact ⟨z', List.mem_cons_of_mem _ h1, h2⟩
theorem Vals.refl1 {p : Addr} {us : List Value} (r : Vals [.ref p] us) : us = [.ref p] := L2.Vals.ref1 r
theorem kv_minS {p : Addr} {zs : List Str} (hc : X.calm = true) (hu : X.A.units + 64 < cLine) (hp : SqL X.K H p (zs.map V.str)) (hn : zs ≠ []) (h : ∀ m, m ∈ zs → (∀ y ∈ zs, ¬ y.cps.toList < m.cps.toList) → Q (.str m) H) : CallV X (.builtin "min") [.ref p] H Q := by
  refine ⟨fun vs H' Q' => vs = [.ref p] ∧ H' = H ∧ Q' = Q, ?_, rfl, rfl, rfl⟩
  rintro pins s σ H0 vs us Q0 I r ⟨rfl, rfl, rfl⟩
  rw [L2.Vals.ref1 r]
  obtain ⟨its, rv, pl, _⟩ := I.list hp
  cases zs with
  | nil => exact absurd rfl hn
  | cons x xs =>
    refine PySem.W.min_list_datum (x := x) (xs := xs) (I.ok.hd hc) pl.isList ?_ ?_ fun i v h' tk hv hz hk => ?_
    · obtain ⟨as, q⟩ := Dp.readsAll I _ _ _ (dps (K := X.K) (H := H0) (x :: xs)) rv
      rw [List.toList_toArray]
      exact ⟨as, q⟩
    · show X.A.units + 1 + _ < cLine
      have e : (PySem.W.Datum.depth Str) = 0 ∨ (PySem.W.Datum.depth Str) = 1 := by first | exact .inl rfl | exact .inr rfl
      omega
    · obtain ⟨h1, h2⟩ := least_str xs x
      obtain ⟨as, q⟩ := hz
      obtain ⟨t, rfl, _⟩ := PyProof.Rows.reads_str_inv q
      exact ⟨.str _, H0, I.kept (t' := tk) hk, ⟨t, rfl⟩, h _ h1 h2⟩
theorem kv_maxS {p : Addr} {zs : List Str} (hc : X.calm = true) (hu : X.A.units + 64 < cLine) (hp : SqL X.K H p (zs.map V.str)) (hn : zs ≠ []) (h : ∀ m, m ∈ zs → (∀ y ∈ zs, ¬ m.cps.toList < y.cps.toList) → Q (.str m) H) : CallV X (.builtin "max") [.ref p] H Q := by
  refine ⟨fun vs H' Q' => vs = [.ref p] ∧ H' = H ∧ Q' = Q, ?_, rfl, rfl, rfl⟩
  rintro pins s σ H0 vs us Q0 I r ⟨rfl, rfl, rfl⟩
  rw [L2.Vals.ref1 r]
  obtain ⟨its, rv, pl, _⟩ := I.list hp
  cases zs with
  | nil => exact absurd rfl hn
  | cons x xs =>
    refine PySem.W.max_list_datum (x := x) (xs := xs) (I.ok.hd hc) pl.isList ?_ ?_ fun i v h' tk hv hz hk => ?_
    · obtain ⟨as, q⟩ := Dp.readsAll I _ _ _ (dps (K := X.K) (H := H0) (x :: xs)) rv
      rw [List.toList_toArray]
      exact ⟨as, q⟩
    · show X.A.units + 1 + _ < cLine
      have e : (PySem.W.Datum.depth Str) = 0 ∨ (PySem.W.Datum.depth Str) = 1 := by first | exact .inl rfl | exact .inr rfl
      omega
    · obtain ⟨h1, h2⟩ := most_str xs x
      obtain ⟨as, q⟩ := hz
      obtain ⟨t, rfl, _⟩ := PyProof.Rows.reads_str_inv q
      exact ⟨.str _, H0, I.kept (t' := tk) hk, ⟨t, rfl⟩, h _ h1 h2⟩
/-! ### tuples and lists: +, *, slices -/
theorem bv_catT {p q : Addr} {xs ys : List V} (h1 : SqT X.K H p xs) (h2 : SqT X.K H q ys) (hl : xs.length + ys.length ≤ sizeLine) (h : ∀ r H2, Same H H2 → SqT X.K H2 r (xs ++ ys) → Q (.ref r) H2) : BinV X .Add (.ref p) (.ref q) H Q :=
  ⟨_, op_catA, p, q, xs, ys, rfl, rfl, h1, h2, hl, fun e => h q H (Same.refl _) (by rw [e]; exact h2), fun _ e => h p H (Same.refl _) (by rw [e, List.append_nil]; exact h1), fun _ _ r hr => h r _ (same_new hr) (SqT.of upd_same)⟩
theorem bv_repT {p : Addr} {k : Int} {xs : List V} (h1 : SqT X.K H p xs) (hn : xs ≠ []) (k2 : 2 ≤ k) (k3 : k ≤ 1000) (hl : xs.length ≤ 1000) (h : ∀ r H2, Same H H2 → H r = none → H2 r = some (.tup (List.replicate k.toNat xs).flatten) → Q (.ref r) H2) : BinV X .Mult (.ref p) (.int k) H Q :=
  ⟨_, op_repT, p, k, xs, rfl, rfl, h1, hn, k2, k3, hl, fun r hr => h r _ (same_new hr) hr upd_same⟩
theorem bv_rep {p : Addr} {k : Int} {xs : List V} (h1 : H p = some (.lst xs)) (k2 : -(2 ^ 63) ≤ k) (k3 : k < 2 ^ 63) (hl : xs.length * k.toNat ≤ sizeLine) (h : ∀ r H2, Same H H2 → H r = none → H2 r = some (.lst (List.replicate k.toNat xs).flatten) → Q (.ref r) H2) : BinV X .Mult (.ref p) (.int k) H Q :=
  ⟨_, op_rep, p, k, xs, rfl, rfl, h1, k2, k3, hl, fun r hr => h r _ (same_new hr) hr upd_same⟩
theorem sIx_lt {n d k : Nat} (h : k ≤ n) : HT.sIx n d (some (k : Int)) = k := by
  rw [HT.sIx_nat]
  omega
/-- t[:k] -/
theorem w_sliceTo (h : W X a σ H fun x H1 => W X b σ H1 fun y H2 => ∃ (p : Addr) (k : Nat) (xs : List V), x = .ref p ∧ y = .int k ∧ SqT X.K H2 p xs ∧ k ≤ xs.length ∧ ∀ r H3, Same H2 H3 → SqT X.K H3 r (xs.take k) → Q (.ref r) H3) : W X (.Subscript a (.Slice none (some b) none p2) pos) σ H Q := by
  refine W.of (pe_slice sl_tupA W.pe po_none (po_some W.pe)) ?_
  show W X a σ H _
  refine W.mono h fun x H1 q => ?_
  show W X b σ H1 _
  refine W.mono q fun y H2 ⟨p, k, xs, e1, e2, hp, hk, q⟩ => ⟨(k : Int), e2, p, xs, e1, hp, fun ⟨_, z⟩ => ?_, fun _ r hr => ?_⟩
  · rw [sIx_lt hk] at z
    exact q p H2 (Same.refl _) (by rw [z, List.take_length]; exact hp)
  · refine q r _ (same_new hr) (SqT.of ?_)
    rw [upd_same]
    show some (HO.tup ((xs.drop 0).take (HT.sIx xs.length xs.length (some (k : Int)) - 0))) = _
    rw [sIx_lt hk, List.drop_zero, Nat.sub_zero]
/-- t[k:] -/
theorem w_sliceFrom (h : W X a σ H fun x H1 => W X b σ H1 fun y H2 => ∃ (p : Addr) (k : Nat) (xs : List V), x = .ref p ∧ y = .int k ∧ SqT X.K H2 p xs ∧ k ≤ xs.length ∧ ∀ r H3, Same H2 H3 → SqT X.K H3 r (xs.drop k) → Q (.ref r) H3) : W X (.Subscript a (.Slice (some b) none none p2) pos) σ H Q := by
  refine W.of (pe_slice sl_tupA W.pe (po_some W.pe) po_none) ?_
  show W X a σ H _
  refine W.mono h fun x H1 q => ?_
  show W X b σ H1 _
  refine W.mono q fun y H2 ⟨p, k, xs, e1, e2, hp, hk, q⟩ => ⟨(k : Int), e2, p, xs, e1, hp, fun ⟨z, _⟩ => ?_, fun _ r hr => ?_⟩
  · rw [sIx_lt hk] at z
    exact q p H2 (Same.refl _) (by rw [z, List.drop_zero]; exact hp)
  · refine q r _ (same_new hr) (SqT.of ?_)
    rw [upd_same]
    show some (HO.tup ((xs.drop (HT.sIx xs.length 0 (some (k : Int)))).take (xs.length - HT.sIx xs.length 0 (some (k : Int))))) = _
    rw [sIx_lt hk, List.take_of_length_le (by rw [List.length_drop]; exact Nat.le_refl _)]
/-! ### [elt for x in iter], the dice at p rolled on the way -/
structure SeqItM (p : Addr) (J : It) (H : Hp) (xs : List V) : Prop where
  ex : ∃ G : Hp → Prop, Walk J xs.length G (YAt xs) ∧ G H ∧ ∀ H', Sm p H H' → G H'
theorem seqItM_range {lo : Int} {n : Nat} {p : Addr} : SeqItM p (Itr lo n) H (intsV lo n) := by
  obtain ⟨G, w, _, _⟩ := (seqIt_range (H := H) (lo := lo) (n := n)).ex
  refine ⟨fun _ => True, ?_, trivial, fun _ _ => trivial⟩
  have w := (walk_range (lo := lo) (n := n)).mono (G' := fun _ => True) (Y' := YAt (intsV lo n)) (fun _ h => h) fun i H x H' hi _ y => by
    obtain ⟨e, rfl⟩ := y
    refine ⟨e, ?_⟩
    unfold intsV
    rw [List.getElem?_map]
    simp [hi]
  have e : (intsV lo n).length = n := by simp [intsV]
  rw [e]
  exact w
theorem seqItM_tup {a p : Addr} {K : PySem.W.Frag} {xs : List V} (h : SqT K H a xs) : SeqItM p (Itt K a) H xs := ⟨_, walk_tup, h, fun _ s => s.tup h⟩
theorem seqItM_list {a p : Addr} {K : PySem.W.Frag} {xs : List V} (h : SqL K H a xs) : SeqItM p (Itl K a) H xs := ⟨_, walk_list, h, fun _ s => s.seq h⟩
abbrev LcM (X : Cx) (p : Addr) (tg iter elt : Expr) (scope : Scope) (own : List (Str × Nat)) (g : TG) (σ : L2.St) (H : Hp) (Q : VK) : Prop := WI X tg iter σ H fun J H1 => ∃ xs, SeqItM p J H1 xs ∧ xs.length < sizeLine ∧ ∃ (m0 : Nat) (M : Nat → Nat) (R : Nat → V → Hp → Prop), H1 p = some (DiceO p m0) ∧ (∀ x y Ha Hb, R x y Ha → Sl Ha Hb → R x y Hb) ∧
      (∀ j v, xs[j]? = some v → ∀ H2 m, Sm p H1 H2 → H2 p = some (DiceO p m) → m ≤ m0 + M j → ∀ (Kt : VK), (∀ y H3 m', Sm p H2 H3 → H3 p = some (DiceO p m') → m' ≤ m0 + M (j + 1) → R j y H3 → Kt y H3) →
        g v (wipe σ (own.map (·.2))) H2 fun σ2 H3 => wipe σ2 (own.map (·.2)) = wipe σ (own.map (·.2)) ∧ Blk X scope fun Y => W Y elt σ2 H3 Kt) ∧
      ∀ q ys H2 m, Sm p H1 H2 → H2 p = some (DiceO p m) → m ≤ m0 + M xs.length → H1 q = none → H2 q = some (.lst ys) → RelI (fun _ => False) (fun x y => R x y H2) xs.length ys → Q (.ref q) H2
theorem lcM_t {p : Addr} {own : List (Str × Nat)} {g : TG} (h : LcM X p tg iter elt scope own g σ H Q) : tLc (WI X tg iter) g tYes (fun σ2 H2 K => Blk X scope fun Y => W Y elt σ2 H2 K) (own.map (·.2)) σ H Q := by
  refine ⟨fun pins s I => thn (h.run pins s I) fun v s1 z => thn z fun it s2 q => ?_⟩
  obtain ⟨it', fp, tn, J, H1, e, I2, T, t0, f0, xs, ⟨G, wk, g0, gs⟩, hlen, m0, M, R, hp0, hst, hel, hend⟩ := q
  refine ⟨it', fp, tn, J, H1, e, I2, T, t0, f0, fun Dd nD => ?_⟩
  have pD : Dd ≠ p := fun z => by
    rw [z, hp0] at nD
    cases nD
  refine lc_it (H1 := H1) (D := Dd) (g := g) (tt := tYes) (te := fun σ2 H2 K => Blk X scope fun Y => W Y elt σ2 H2 K) (vs := own.map (·.2)) (σ := σ) (Qd := fun H2 => Q (.ref Dd) H2) wk
    (fun j H2 => ∃ ys m, Sm p H1 H2 ∧ H2 p = some (DiceO p m) ∧ m ≤ m0 + M j ∧ H2 Dd = some (.lst ys) ∧ RelI (fun _ => False) (fun x y => R x y H2) j ys)
    ⟨[], m0, (Sm.refl hp0).new nD, by rw [upd_ne pD.symm]; exact hp0, by omega, upd_same, .nil⟩ (fun j H2 _ ⟨ys, m, sm, _⟩ => gs _ sm) ?_ ?_
  · rintro j v H2 H2' hj ⟨ys, m, s12, hp, hm, hD, rel⟩ ⟨eH, hv⟩
    subst eH
    refine hel j v hv _ m s12 hp hm _ fun y H3 m' s23 hp3 hm3 r => ?_
    have hD3 := s23.lst hD
    have hl : ys.length < sizeLine := by
      have e1 := rel.len
      omega
    refine ⟨ys, hD3, hl, ys ++ [y], m', (s12.trans s23).new nD, by rw [upd_ne pD.symm]; exact hp3, hm3, upd_same, ?_⟩
    have sl : Sl H3 (upd H3 Dd (.lst (ys ++ [y]))) := (Sl.refl H3).lst hD3
    exact .keep (R := fun x y => R x y _) (hst _ _ _ _ r sl) (rel.imp fun a b q => hst _ _ _ _ q (s23.sl.trans sl))
  · rintro H2 ⟨ys, m, s12, hp, hm, hD, rel⟩
    exact hend Dd ys H2 m s12 hp hm nD hD rel
theorem w_lcM (p : Addr) (own : List (Str × Nat)) (g : TG) (hg : Blk X scope fun Y => PG Y tg g) (hc : X.calm = true) (hN : X.N.Nodup) (ok : BlkOk X.N X.env.scope scope own)
    (h : LcM X p tg iter elt scope own g σ H Q)
    (hs : ∀ x, foldedSetIterable iter X.env x = pure x := by intro _; rfl) : W X (.ListComp elt [⟨tg, iter, [], 0⟩] scope pos) σ H Q := by
  exact W.of (pe_lc (own := own) (g := g) (tt := tYes) (te := fun σ2 H2 K => Blk X scope fun Y => W Y elt σ2 H2 K) hc hN WI.pi ok hg (fun _ _ _ _ _ => pts_nil)
    (fun s H C cl fp => ⟨fun pins s' σ' H' Q' I' h' => (h' s H C cl fp).run pins s' I'⟩) hs) (lcM_t h)
theorem ws_setLcM {D : Ends} {y : Str} {py spos : Pos} (i : Nat) (p : Addr) (own : List (Str × Nat)) (g : TG) (hg : Blk X scope fun Y => PG Y tg g) (hc : X.calm = true) (hN : X.N.Nodup) (ok : BlkOk X.N X.env.scope scope own) (hy : X.N[i]? = some y)
    (h : LcM X p tg iter elt scope own g σ H fun v H1 => D.nx (σ.set i (some v)) H1) (hyl : X.env.scope.names.lookup y = some .local := by rfl) (hsw : swapsWith (.ListComp elt [⟨tg, iter, [], 0⟩] scope pos) (some (.Name y py)) spos.line X.env = pure true := by exact sw_true rfl rfl rfl rfl)
    (hs : ∀ x, foldedSetIterable iter X.env x = pure x := by intro _; rfl) : WS X (.Assign [.Name y py] (.ListComp elt [⟨tg, iter, [], 0⟩] scope pos) spos) D σ H :=
  WS.of (ps_setLc (own := own) (g := g) (tt := tYes) (te := fun σ2 H2 K => Blk X scope fun Y => W Y elt σ2 H2 K) hc hN hy hyl hsw WI.pi ok hg (fun _ _ _ _ _ => pts_nil)
    (fun s H C cl fp => ⟨fun pins s' σ' H' Q' I' h' => (h' s H C cl fp).run pins s' I'⟩) hs) (lcM_t h)
end
end Ax
end
section
set_option maxHeartbeats 2000000
namespace Ax
open PySem PySem.Spec PyProof.Rows L2
theorem tyX_tup {K : PySem.W.Frag} {H : Hp} {a : Addr} {xs : List V} (hs : SqT K H a xs) : TyX K H (.ref a) (.type "tuple") := by
  rcases hs with (h | ⟨o, h⟩) | ⟨o, its, n, hk, hc, _⟩
  · exact .base (.tup h)
  · exact .fTuple h
  · exact .kTuple hk hc
theorem tyX_lst {K : PySem.W.Frag} {H : Hp} {a : Addr} {xs : List V} (hs : SqL K H a xs) : TyX K H (.ref a) (.type "list") := by
  rcases hs with (h | ⟨o, h⟩) | ⟨o, its, n, hk, hc, _⟩
  · exact .base (.lst h)
  · exact .base (.frz h)
  · exact .kList hk hc
section
variable {X : Cx} {e a b o : Expr} {es : List Expr} {σ : L2.St} {H H0 : Hp} {Q : VK} {pos : Pos}
theorem kv_isiB {v : V} {t T : String} {k : Bool} (ty : TyX X.K H v (.type t)) (hk : kitB t T = some k) (h : Q (.bl k) H) : CallV X (.builtin "isinstance") [v, .ty T] H Q := kv_isi (.ty T) ty (kit_ty hk) h
/-- xs == () -/
theorem cv_eqTup0 {p q : Addr} {xs : List V} (hu : X.A.units < cLine) (hp : SqT X.K H p xs) (hq : SqT X.K H q []) (h : Q (.bl xs.isEmpty) H) : CmpV X .Eq (.ref p) (.ref q) H Q := by
  refine ⟨fun x y H Q => x = .ref p ∧ y = .ref q ∧ SqT X.K H p xs ∧ SqT X.K H q [] ∧ Q (.bl xs.isEmpty) H, ?_, rfl, rfl, hp, hq, h⟩
  rintro pins s σ H x y v u Q I rx ry ⟨rfl, rfl, h1, h2, q⟩
  cases rx
  cases ry
  obtain ⟨its, r, pl, _⟩ := I.tuple h1
  obtain ⟨its2, r2, pl2, _⟩ := I.tuple h2
  cases r2
  refine SeqAt.eq_tupleAt (e := fun _ => true) pl pl2 hu (fun j _ h1 => absurd h1 (by simp)) ?_
  have e : ((List.range (min its.toArray.size ([] : List Value).toArray.size)).all (fun _ => true) && its.toArray.size == ([] : List Value).toArray.size) = xs.isEmpty := by
    cases xs with
    | nil => cases r; rfl
    | cons y ys => cases r; simp
  rw [e]
  exact ⟨.bl _, H, I, rfl, q⟩
/-- {} -/
theorem w_dict0 (h : ∀ p H2, Same H H2 → H p = none → H2 p = some (.dK []) → Q (.ref p) H2) : W X (.Dict [] [] pos) σ H Q := W.of pe_dnewK fun p hp => h p _ (same_new hp) hp upd_same
/-! ### written data -/
structure Lit (X : Cx) (e : Expr) (σ : L2.St) (H0 : Hp) (d : PyData) : Prop where
  run : ∀ H Q, Same H0 H → (∀ v H', Same H H' → Dp X.K H' v d → Q v H') → W X e σ H Q
structure LitA (X : Cx) (es : List Expr) (σ : L2.St) (H0 : Hp) (ds : List PyData) : Prop where
  len : ds.length = es.length
  run : ∀ H Q, Same H0 H → (∀ vs H', Same H H' → DpAll X.K H' vs ds → Q vs H') → WA X es σ H Q
variable {d : PyData} {ds : List PyData}
theorem lit_str {x : Str} {j : Nat} : Lit X (.Constant (.str x) j pos) σ H0 (.str x) := ⟨fun H Q _ h => w_str (h _ H (Same.refl _) (.str _))⟩
theorem lit_int {x : Int} {j : Nat} : Lit X (.Constant (.int x) j pos) σ H0 (.int x) := ⟨fun H Q _ h => w_int (h _ H (Same.refl _) (.int _))⟩
theorem lit_bl {x : Bool} {j : Nat} : Lit X (.Constant (.bool x) j pos) σ H0 (.bool x) := ⟨fun H Q _ h => w_bl (h _ H (Same.refl _) (.bl _))⟩
theorem lit_non {j : Nat} : Lit X (.Constant .none j pos) σ H0 .none := ⟨fun H Q _ h => w_non (h _ H (Same.refl _) .non)⟩
theorem lit_of (h : ∀ H Q, Same H0 H → (∀ v, Dp X.K H v d → Q v H) → W X e σ H Q) : Lit X e σ H0 d := ⟨fun H Q s k => h H Q s fun v hd => k v H (Same.refl _) hd⟩
theorem lita_nil : LitA X [] σ H0 [] := ⟨rfl, fun H Q _ h => wa_nil (h _ H (Same.refl _) .nil)⟩
theorem lita_cons (h1 : Lit X e σ H0 d) (h2 : LitA X es σ H0 ds) (hs : starEach (e :: es) X.env = (false, eval e X.env) :: starEach es X.env := by rfl) : LitA X (e :: es) σ H0 (d :: ds) :=
  ⟨by rw [List.length_cons, List.length_cons, h2.len], fun H Q s h => wa_cons (h1.run H _ s fun v H1 s1 hd => h2.run H1 _ (s.trans s1) fun vs H2 s2 hds => h _ H2 (s1.trans s2) (.cons (dp_same s2 hd) hds)) hs⟩
theorem lit_tup {j : Nat} (h : LitA X es σ H0 ds) (hl : es.length ≤ 100 := by decide) : Lit X (.Tuple es j pos) σ H0 (.tuple ds) :=
  ⟨fun H Q s k => w_tup (h.run H _ s fun vs H1 s1 hd => ⟨by rw [dpa_len hd, h.len]; exact Nat.le_trans hl (by decide), fun p H2 s2 n2 hp => k _ H2 (s1.trans s2) (.tup (SqT.of hp) (dpa_same s2 hd))⟩)⟩
theorem lit_lst (h : LitA X es σ H0 ds) (hl : es.length ≤ 100 := by decide) : Lit X (.List es pos) σ H0 (.list ds) :=
  ⟨fun H Q s k => w_lst (h.run H _ s fun vs H1 s1 hd => ⟨by rw [dpa_len hd, h.len]; exact Nat.le_trans hl (by decide), fun p H2 s2 n2 hp => k _ H2 (s1.trans s2) (.lst (SqL.of hp) (dpa_same s2 hd))⟩)⟩
/-- (..) * k -/
theorem lit_mul {k : Int} {j j2 : Nat} {p2 p3 : Pos} (h : LitA X es σ H0 ds) (k2 : 2 ≤ k) (k3 : k ≤ 1000) (hn : 0 < es.length) (hl : es.length ≤ 100) :
    Lit X (.BinOp (.Tuple es j2 p3) .Mult (.Constant (.int k) j p2) pos) σ H0 (.tuple (List.replicate k.toNat ds).flatten) :=
  ⟨fun H Q s q => w_bin ((lit_tup h hl).run H _ s fun v H1 s1 hd => w_int (by
    cases hd with
    | @tup p xs _ hp ha =>
    have hl2 := dpa_len ha
    have hl3 := h.len
    refine bv_repT hp (by rintro rfl; simp at hl2; omega) (by omega) (by omega) (by omega) fun r H2 s2 n2 hr => q _ H2 (s1.trans s2) (.tup (SqT.of hr) ?_)
    have ha2 := dpa_same s2 ha
    generalize k.toNat = m
    clear hr hl2 q
    induction m with
    | zero => exact .nil
    | succ k ih =>
      rw [List.replicate_succ, List.replicate_succ, List.flatten_cons, List.flatten_cons]
      exact dpa_app ha2 ih))⟩
theorem rep_flat {α : Type} (d : α) : ∀ n : Nat, (List.replicate n [d]).flatten = List.replicate n d
  | 0 => rfl
  | n + 1 => by rw [List.replicate_succ, List.flatten_cons, rep_flat d n, List.replicate_succ]; rfl
/-- (x,) * k, told item by item -/
theorem lit_mulE {k : Int} {j j2 : Nat} {p2 p3 : Pos} (h : LitA X es σ H0 [d]) (he : d :: ds = List.replicate k.toNat d := by rfl) (k2 : 2 ≤ k := by decide) (k3 : k ≤ 1000 := by decide) (hn : 0 < es.length := by decide) (hl : es.length ≤ 100 := by decide) :
    Lit X (.BinOp (.Tuple es j2 p3) .Mult (.Constant (.int k) j p2) pos) σ H0 (.tuple (d :: ds)) := by
  rw [he, ← rep_flat]
  exact lit_mul h k2 k3 hn hl
/-- data, or an empty dict; nothing said of sizes -/
inductive AnyR (K : PySem.W.Frag) (H : Hp) : V → Option PyData → Prop
  | dat {v : V} {d : PyData} (h : Dp K H v d) : AnyR K H v (some d)
  | dct {a : Addr} {kvs : List (Key × V)} (h : H a = some (.dK kvs)) : AnyR K H (.ref a) none
theorem AnyR.sx {K : PySem.W.Frag} {H H' : Hp} {v : V} {o : Option PyData} (s : Sx H H') (a : AnyR K H v o) : AnyR K H' v o := by
  cases a with
  | dat h => exact .dat (dp_sx s h)
  | dct h => exact .dct (s _ _ h rfl)
theorem AnyR.anyX {K : PySem.W.Frag} {H : Hp} {v : V} {o : Option PyData} (a : AnyR K H v o) (ok : o.all okD = true) : AnyX K H v o := by
  cases a with
  | dat h => exact .dat h ok
  | dct h => exact .dct h
structure LitX (X : Cx) (es : List Expr) (σ : L2.St) (H0 : Hp) (os : List (Option PyData)) : Prop where
  len : os.length = es.length
  run : ∀ H Q, Same H0 H → (∀ vs H', Same H H' → All2 (AnyR X.K H') vs os → Q vs H') → WA X es σ H Q
variable {os : List (Option PyData)}
theorem litx_nil : LitX X [] σ H0 [] := ⟨rfl, fun H Q _ h => wa_nil (h _ H (Same.refl _) .nil)⟩
theorem litx_cons (h1 : Lit X e σ H0 d) (h2 : LitX X es σ H0 os) (hs : starEach (e :: es) X.env = (false, eval e X.env) :: starEach es X.env := by rfl) : LitX X (e :: es) σ H0 (some d :: os) :=
  ⟨by rw [List.length_cons, List.length_cons, h2.len], fun H Q s h => wa_cons (h1.run H _ s fun v H1 s1 hd => h2.run H1 _ (s.trans s1) fun vs H2 s2 hds => h _ H2 (s1.trans s2) (.cons (.dat (dp_same s2 hd)) hds)) hs⟩
theorem litx_dict (h2 : LitX X es σ H0 os) (hs : starEach (.Dict [] [] pos :: es) X.env = (false, eval (.Dict [] [] pos) X.env) :: starEach es X.env := by rfl) : LitX X (.Dict [] [] pos :: es) σ H0 (none :: os) :=
  ⟨by rw [List.length_cons, List.length_cons, h2.len], fun H Q s h => wa_cons (w_dict0 fun p H1 s1 n1 hp => h2.run H1 _ (s.trans s1) fun vs H2 s2 hds => h _ H2 (s1.trans s2) (.cons (.dct (s2 _ _ hp)) hds)) hs⟩
/-- a list of such -/
theorem w_listX (os : List (Option PyData)) (h : LitX X es σ H0 os) (s : Same H0 H) (q : ∀ p vs H2, Same H H2 → H p = none → H2 p = some (.lst vs) → All2 (AnyR X.K H2) vs os → Q (.ref p) H2) (hl : es.length ≤ 100 := by decide) : W X (.List es pos) σ H Q :=
  w_lst (h.run H _ s fun vs H1 s1 hd => ⟨by rw [hd.len, h.len]; exact Nat.le_trans hl (by decide), fun p H2 s2 n2 hp => q p vs H2 (s1.trans s2) (same_nul s1 n2) hp (hd.imp fun _ _ a => a.sx (Sx.of s2))⟩)
end
end Ax
end
section
set_option maxHeartbeats 2000000
/-! [elt for x in iter if c], tests and elements values; lists of new lists; slices of lists; str(int); split -/
namespace Ax
open PySem PySem.Spec PyProof.Rows L2
section
variable {X : Cx} {σ : L2.St} {H : Hp} {Q : VK} {elt iter c a b e o : Expr} {scope : Scope} {pos px p2 apos : Pos} {x : Str}
theorem all2_eq {α : Type} : ∀ {xs ys : List α}, All2 Eq xs ys → xs = ys
  | _, _, .nil => rfl
  | _, _, .cons h t => by rw [h, all2_eq t]
theorem w_lcFilt (i : Nat) (t : V → Bool) (f : V → V) (hc : X.calm = true) (hN : X.N.Nodup) (ok : BlkOk X.N X.env.scope scope [(x, i)]) (hi : X.N[i]? = some x)
    (hloc : Blk X scope fun Y => Loc Y.env.scope x ∧ (Y.fn x = true ∨ Y.env.scope.names.lookup x = some .local))
    (h : WI X (.Name x px) iter σ H fun J H1 => ∃ xs, SeqIt J H1 xs ∧ xs.length < sizeLine ∧ (∀ v ∈ xs, ∀ H2, Same H1 H2 → Blk X scope fun Y => WT Y c ((wipe σ [i]).set i (some v)) H2 fun k H3 => k = t v ∧ Same H2 H3) ∧
      (∀ v ∈ xs, t v = true → ∀ H2, Same H1 H2 → Blk X scope fun Y => W Y elt ((wipe σ [i]).set i (some v)) H2 fun y H3 => y = f v ∧ Same H2 H3) ∧ ∀ q H2, Same H1 H2 → H1 q = none → H2 q = some (.lst ((xs.filter t).map f)) → Q (.ref q) H2)
    (hs : ∀ x, foldedSetIterable iter X.env x = pure x := by intro _; rfl) (hw : (((wipe σ [i]).set i (some V.non)).set i none) = wipe σ [i] := by rfl) :
    W X (.ListComp elt [⟨.Name x px, iter, [c], 0⟩] scope pos) σ H Q := by
  refine w_lcG [(x, i)] (gName i) (fun σ2 H2 K => Blk X scope fun Y => WT Y c σ2 H2 K) (fun s H C cl fp => pg_name hN hi (hloc s H C cl fp).1 (hloc s H C cl fp).2)
    (fun s H C cl fp => pts_one ⟨fun pins s' σ' H' Q' I' h' => (h' s H C cl fp).run pins s' I'⟩) hc hN ok ?_ hs
  refine ⟨fun pins s I => thn (h.run pins s I) fun v s1 z => thn z fun it s2 q => ?_⟩
  obtain ⟨it', fp, tn, J, H1, e, I2, T, t0, f0, xs, h1, h2, h3, h4, h5⟩ := q
  refine ⟨it', fp, tn, J, H1, e, I2, T, t0, f0, xs, h1, h2, fun j => ∃ v, xs[j]? = some v ∧ t v = false, fun j y _ => ∃ v, xs[j]? = some v ∧ t v = true ∧ y = f v, fun _ _ _ _ q _ => q, ?_, ?_⟩
  · intro j v hv H2 s12 Kf Kt kf kt
    have hm := List.mem_of_getElem? hv
    have hw' : wipe ((wipe σ [i]).set i (some v)) [i] = wipe σ [i] := by
      have e1 : wipe ((wipe σ [i]).set i (some v)) [i] = ((wipe σ [i]).set i (some v)).set i none := rfl
      rw [e1, List.set_set]
      have e2 : ((wipe σ [i]).set i (some V.non)).set i none = wipe σ [i] := hw
      rw [List.set_set] at e2
      exact e2
    refine ⟨hw', fun s H C cl fp => WT.mono (h3 v hm H2 s12 s H C cl fp) fun k H3 ⟨ek, s23⟩ => ?_⟩
    subst ek
    cases ht : t v with
    | false =>
      rw [if_neg (by decide)]
      exact kf ⟨v, hv, ht⟩ H3 s23
    | true =>
      rw [if_pos rfl]
      exact fun s' H' C' cl' fp' => W.mono (h4 v hm ht H3 (s12.trans s23) s' H' C' cl' fp') fun y H4 ⟨ey, s34⟩ => kt y H4 (s23.trans s34) ⟨v, hv, ht, ey⟩
  · intro q ys H2 s12 n1 hq rel
    obtain ⟨es, e1, e2⟩ := rel.data (T := Eq) (ds := xs) (fun v => if t v = true then some (f v) else none) (fun j d hd ⟨v, hv, ht⟩ => by
      rw [hd] at hv
      cases hv
      simp [ht]) (fun j d y hd ⟨v, hv, ht, ey⟩ => by
      rw [hd] at hv
      cases hv
      exact ⟨f d, by simp [ht], ey⟩) (Nat.le_refl _)
    have e3 := all2_eq e2
    subst e3
    rw [List.take_length] at e1
    refine h5 q H2 s12 n1 (hq.trans ?_)
    rw [← e1]
    congr 2
    clear e1 e2 hq rel h1 h2 h3 h4 h5
    induction xs with
    | nil => rfl
    | cons v xs ih =>
      cases ht : t v <;> simp [List.filterMap_cons, List.filter_cons, ht, ih]
/-- no item passes the test -/
theorem w_lcNo (i : Nat) (hc : X.calm = true) (hN : X.N.Nodup) (ok : BlkOk X.N X.env.scope scope [(x, i)]) (hi : X.N[i]? = some x)
    (hloc : Blk X scope fun Y => Loc Y.env.scope x ∧ (Y.fn x = true ∨ Y.env.scope.names.lookup x = some .local))
    (h : WI X (.Name x px) iter σ H fun J H1 => ∃ xs, SeqIt J H1 xs ∧ xs.length < sizeLine ∧ (∀ v ∈ xs, ∀ H2, Same H1 H2 → Blk X scope fun Y => WT Y c ((wipe σ [i]).set i (some v)) H2 fun k H3 => k = false ∧ Same H2 H3) ∧
      ∀ q H2, Same H1 H2 → H1 q = none → H2 q = some (.lst []) → Q (.ref q) H2)
    (hs : ∀ x, foldedSetIterable iter X.env x = pure x := by intro _; rfl) (hw : (((wipe σ [i]).set i (some V.non)).set i none) = wipe σ [i] := by rfl) :
    W X (.ListComp elt [⟨.Name x px, iter, [c], 0⟩] scope pos) σ H Q := by
  refine w_lcFilt i (fun _ => false) id hc hN ok hi hloc ?_ hs hw
  refine ⟨fun pins s I => thn (h.run pins s I) fun v s1 z => thn z fun it s2 q => ?_⟩
  obtain ⟨it', fp, tn, J, H1, e, I2, T, t0, f0, xs, h1, h2, h3, h5⟩ := q
  refine ⟨it', fp, tn, J, H1, e, I2, T, t0, f0, xs, h1, h2, h3, fun _ _ z => Bool.noConfusion z, fun q H2 s n hq => h5 q H2 s n ?_⟩
  rw [hq, List.filter_eq_nil_iff.mpr fun a _ z => Bool.noConfusion z] <;> rfl
/-- all but the list at d stands -/
def Bt (d : Addr) (H H' : Hp) : Prop := ∀ a o, a ≠ d → H a = some o → H' a = some o
theorem Bt.of {d : Addr} {H H' : Hp} (s : Same H H') : Bt d H H' := fun a o _ h => s a o h
theorem Bt.refl (d : Addr) (H : Hp) : Bt d H H := fun _ _ _ h => h
theorem Bt.trans {d : Addr} {H H1 H2 : Hp} (a : Bt d H H1) (b : Bt d H1 H2) : Bt d H H2 := fun c o n h => b c o n (a c o n h)
theorem Bt.upd {d : Addr} {H H' : Hp} {o : HO} (s : Bt d H H') : Bt d H (upd H' d o) := fun a u n h => (upd_ne n).trans (s a u n h)
/-- [elt for x in iter], each element by a relation that stands though the new list D grows -/
abbrev LcD (X : Cx) (x : Str) (px : Pos) (iter elt : Expr) (scope : Scope) (i : Nat) (σ : L2.St) (H : Hp) (Q : VK) : Prop := WI X (.Name x px) iter σ H fun J H1 => ∃ xs, SeqIt J H1 xs ∧ xs.length < sizeLine ∧ ∃ R : Addr → V → V → Hp → Prop, (∀ D x y Ha Hb, R D x y Ha → Bt D Ha Hb → R D x y Hb) ∧
      (∀ v ∈ xs, ∀ (D : Addr) H2, Same H1 H2 → (∃ ys, H2 D = some (.lst ys)) → Blk X scope fun Y => W Y elt ((wipe σ [i]).set i (some v)) H2 fun y H3 => Same H2 H3 ∧ R D v y H3) ∧
      ∀ p ys H2, Same H1 H2 → H1 p = none → H2 p = some (.lst ys) → Rel2 (fun x y => R p x y H2) xs ys → Q (.ref p) H2
theorem lcD_t {i : Nat} (hw : (((wipe σ [i]).set i (some V.non)).set i none) = wipe σ [i]) (h : LcD X x px iter elt scope i σ H Q) : tLc (WI X (.Name x px) iter) (gName i) tYes (fun σ2 H2 K => Blk X scope fun Y => W Y elt σ2 H2 K) [i] σ H Q := by
  refine ⟨fun pins s I => thn (h.run pins s I) fun v s1 z => thn z fun it s2 q => ?_⟩
  obtain ⟨it', fp, tn, J, H1, e, I2, T, t0, f0, xs, ⟨G, wk, g0, gs⟩, hlen, R, hst, hel, hend⟩ := q
  refine ⟨it', fp, tn, J, H1, e, I2, T, t0, f0, fun Dd nD => ?_⟩
  refine lc_it (H1 := H1) (D := Dd) (g := gName i) (tt := tYes) (te := fun σ2 H2 K => Blk X scope fun Y => W Y elt σ2 H2 K) (vs := [i]) (σ := σ) (Qd := fun H2 => Q (.ref Dd) H2) wk
    (fun j H2 => ∃ ys, Same H1 H2 ∧ H2 Dd = some (.lst ys) ∧ Rel2 (fun x y => R Dd x y H2) (xs.take j) ys) ⟨[], same_new nD, upd_same, .nil⟩ (fun j H2 _ ⟨ys, sm, hD, _⟩ => gs _ sm) ?_ ?_
  · rintro j v H2 H2' hj ⟨ys, s12, hD, rel⟩ ⟨eH, hv⟩
    subst eH
    have hm : v ∈ xs := List.mem_of_getElem? hv
    have hw' : wipe ((wipe σ [i]).set i (some v)) [i] = wipe σ [i] := by
      have e1 : wipe ((wipe σ [i]).set i (some v)) [i] = ((wipe σ [i]).set i (some v)).set i none := rfl
      rw [e1, List.set_set]
      have e2 : ((wipe σ [i]).set i (some V.non)).set i none = wipe σ [i] := hw
      rw [List.set_set] at e2
      exact e2
    refine ⟨hw', ?_⟩
    unfold tYes
    dsimp only
    rw [if_pos rfl]
    intro s H C cl fp
    refine W.mono (e := elt) (X := X.blk s H scope (compEnvC scope cl C X.env) fp) (hel v hm Dd H2' s12 ⟨ys, hD⟩ s H C cl fp) fun y H3 ⟨s23, r⟩ => ?_
    have hD3 := s23 _ _ hD
    have hl : ys.length < sizeLine := by
      have e1 := rel.len
      rw [List.length_take] at e1
      omega
    refine ⟨ys, hD3, hl, ys ++ [y], same_upd (s12.trans s23) nD, upd_same, ?_⟩
    have bt : Bt Dd H3 (upd H3 Dd (.lst (ys ++ [y]))) := (Bt.refl Dd H3).upd
    have e : xs.take (j + 1) = xs.take j ++ [v] := by
      rw [List.take_add_one, hv]
      rfl
    rw [e]
    exact (rel.imp fun a b q => hst _ _ _ _ _ q ((Bt.of s23).trans bt)).snoc (hst _ _ _ _ _ r bt)
  · rintro H2 ⟨ys, s12, hD, rel⟩
    rw [List.take_length] at rel
    exact hend Dd ys H2 s12 nD hD rel
theorem w_lcD (i : Nat) (hc : X.calm = true) (hN : X.N.Nodup) (ok : BlkOk X.N X.env.scope scope [(x, i)]) (hi : X.N[i]? = some x)
    (hloc : Blk X scope fun Y => Loc Y.env.scope x ∧ (Y.fn x = true ∨ Y.env.scope.names.lookup x = some .local)) (h : LcD X x px iter elt scope i σ H Q)
    (hs : ∀ x, foldedSetIterable iter X.env x = pure x := by intro _; rfl) (hw : (((wipe σ [i]).set i (some V.non)).set i none) = wipe σ [i] := by rfl) :
    W X (.ListComp elt [⟨.Name x px, iter, [], 0⟩] scope pos) σ H Q :=
  W.of (pe_lc (own := [(x, i)]) (g := gName i) (tt := tYes) (te := fun σ2 H2 K => Blk X scope fun Y => W Y elt σ2 H2 K) hc hN WI.pi ok (fun s H C cl fp => pg_name hN hi (hloc s H C cl fp).1 (hloc s H C cl fp).2) (fun _ _ _ _ _ => pts_nil)
    (fun s H C cl fp => ⟨fun pins s' σ' H' Q' I' h' => (h' s H C cl fp).run pins s' I'⟩) hs) (lcD_t hw h)
/-- y = [..] on one line -/
theorem ws_setLcD {D : Ends} {y : Str} {py spos : Pos} (j i : Nat) (hc : X.calm = true) (hN : X.N.Nodup) (ok : BlkOk X.N X.env.scope scope [(x, i)]) (hy : X.N[j]? = some y) (hi : X.N[i]? = some x)
    (hloc : Blk X scope fun Y => Loc Y.env.scope x ∧ (Y.fn x = true ∨ Y.env.scope.names.lookup x = some .local)) (h : LcD X x px iter elt scope i σ H fun v H1 => D.nx (σ.set j (some v)) H1)
    (hyl : X.env.scope.names.lookup y = some .local := by rfl) (hsw : swapsWith (.ListComp elt [⟨.Name x px, iter, [], 0⟩] scope pos) (some (.Name y py)) spos.line X.env = pure true := by exact sw_true rfl rfl rfl rfl)
    (hs : ∀ x, foldedSetIterable iter X.env x = pure x := by intro _; rfl) (hw : (((wipe σ [i]).set i (some V.non)).set i none) = wipe σ [i] := by rfl) :
    WS X (.Assign [.Name y py] (.ListComp elt [⟨.Name x px, iter, [], 0⟩] scope pos) spos) D σ H :=
  WS.of (ps_setLc (own := [(x, i)]) (g := gName i) (tt := tYes) (te := fun σ2 H2 K => Blk X scope fun Y => W Y elt σ2 H2 K) hc hN hy hyl hsw WI.pi ok (fun s H C cl fp => pg_name hN hi (hloc s H C cl fp).1 (hloc s H C cl fp).2) (fun _ _ _ _ _ => pts_nil)
    (fun s H C cl fp => ⟨fun pins s' σ' H' Q' I' h' => (h' s H C cl fp).run pins s' I'⟩) hs) (lcD_t hw h)
/-- l[:k] -/
theorem w_cutTo (h : W X a σ H fun x H1 => W X b σ H1 fun y H2 => ∃ (p : Addr) (k : Nat) (xs : List V), x = .ref p ∧ y = .int k ∧ SqL X.K H2 p xs ∧ ∀ r H3, Same H2 H3 → H2 r = none → H3 r = some (.lst (xs.take k)) → Q (.ref r) H3) : W X (.Subscript a (.Slice none (some b) none p2) pos) σ H Q := by
  refine W.of (pe_slice sl_list W.pe po_none (po_some W.pe)) ?_
  show W X a σ H _
  refine W.mono h fun x H1 q => ?_
  show W X b σ H1 _
  refine W.mono q fun y H2 ⟨p, k, xs, e1, e2, hp, q⟩ => ⟨(k : Int), e2, p, xs, e1, hp, fun r hr => q r _ (same_new hr) hr ?_⟩
  rw [upd_same]
  show some (HO.lst ((xs.drop 0).take (HT.sIx xs.length xs.length (some (k : Int)) - 0))) = _
  rw [HT.sIx_nat, List.drop_zero, Nat.sub_zero]
  congr 2
  by_cases hk : k ≤ xs.length
  · rw [Nat.min_eq_left hk]
  · rw [Nat.min_eq_right (by omega), List.take_length, List.take_of_length_le (by omega)]
theorem kv_strI {i : Int} (c : i.natAbs.log2 < 1920) (h : Q (.str (toString i)) H) : CallV X (.type "str") [.int i] H Q := ⟨_, call_str_int, i, rfl, c, h⟩
theorem mv_split {z s : Str} (h0 : (s.length == 0) = false) (hz : z.length + 2 ≤ sizeLine) (h : ∀ p H2, Same H H2 → H p = none → H2 p = some (.lst ((Txt.split z s).map V.str)) → Q (.ref p) H2) : MtV X "str.split" (.str z) [.str s] H Q :=
  ⟨_, mt_split, z, s, rfl, rfl, h0, hz, fun p hp => h p _ (same_new hp) hp upd_same⟩
theorem dpa_ints {K : PySem.W.Frag} {H : Hp} : ∀ ns : List Int, DpAll K H (ns.map V.int) (ns.map PyData.int)
  | [] => .nil
  | n :: ns => .cons (.int n) (dpa_ints ns)
theorem dpa_strs {K : PySem.W.Frag} {H : Hp} : ∀ zs : List Str, DpAll K H (zs.map V.str) (zs.map PyData.str)
  | [] => .nil
  | z :: zs => .cons (.str z) (dpa_strs zs)
end
end Ax
end
section
set_option maxHeartbeats 2000000
/-! own exception classes over any base of the language, whose __init__ calls the base's own and lays one field -/
namespace Ax
open PySem PySem.Spec PyProof.Rows L2 PySem.W
open Builtin Builtin.ObjectAttr
/-- what a base of the language must have: N makes it, I is its __init__ -/
structure XB (B N I : String) (bm : List Value) : Prop where
  own : ∃ (B0 i0 : String) (bm0 : List Value), ExcBaseFacts B0 N i0 bm0 ∧ bm.contains (.type B0) = true
  nA : bm.contains (.type "AttributeError") = false
  nN : bm.contains (.type "NameError") = false
  hB : bm.contains (.type B) = true
  sf : StoreFacts B bm "object.__setattr__" "object"
  ie : entryFor table I = some Builtin.«BaseException.__init__»
  ip : plainId I = true
  ik : builtinKind I = some .slot
  is : splitId I = some (B, "__init__")
  ir : Manifest.signature? I = some ⟨.positional, "*", B, .self, [⟨"args", .varPos, false⟩]⟩
  ns : (B != "*") = true
  ty : typeOf (.type B) = pure (.type "type")
  st : Manifest.isStub B = false
  fi : ∀ K, findCls K (.type B) (.type "type") "__init__" = some (.val (.builtin I))
  hd : handedIn (.builtin I) = true
theorem xb_of {B N I : String} {bm : List Value} (F : ExcBaseFacts B N I bm) (S : StoreFacts B bm "object.__setattr__" "object") (h1 : typeOf (.type B) = pure (.type "type")) (h2 : Manifest.isStub B = false)
    (h3 : ∀ K, findCls K (.type B) (.type "type") "__init__" = some (.val (.builtin I))) (h4 : handedIn (.builtin I) = true) : XB B N I bm :=
  ⟨⟨B, I, bm, F, F.hasB⟩, F.noAttr, F.noName, F.hasB, S, F.initEntry, F.init.plain, F.initKind, F.initSplit, F.initRow, F.noStar, h1, h2, h3, h4⟩
theorem xb_Index : XB "IndexError" "IndexError.__new__" "IndexError.__init__" [.type "IndexError", .type "LookupError", .type "Exception", .type "BaseException", .type "object"] :=
  xb_of F.excBase_IndexError F.store_IndexError (by kernel_rfl) (by decide +kernel) (fun K => by kernel_rfl) (by decide +kernel)
theorem xb_Over : XB "OverflowError" "OverflowError.__new__" "OverflowError.__init__" [.type "OverflowError", .type "ArithmeticError", .type "Exception", .type "BaseException", .type "object"] :=
  xb_of F.excBase_OverflowError F.store_OverflowError (by kernel_rfl) (by decide +kernel) (fun K => by kernel_rfl) (by decide +kernel)
theorem xb_Arith : XB "ArithmeticError" "ArithmeticError.__new__" "ArithmeticError.__init__" [.type "ArithmeticError", .type "Exception", .type "BaseException", .type "object"] :=
  xb_of F.excBase_ArithmeticError F.store_ArithmeticError (by kernel_rfl) (by decide +kernel) (fun K => by kernel_rfl) (by decide +kernel)
theorem xb_Look : XB "LookupError" "LookupError.__new__" "LookupError.__init__" [.type "LookupError", .type "Exception", .type "BaseException", .type "object"] :=
  xb_of F.excBase_LookupError F.store_LookupError (by kernel_rfl) (by decide +kernel) (fun K => by kernel_rfl) (by decide +kernel)
abbrev keyMro : List Value := [.type "KeyError", .type "LookupError", .type "Exception", .type "BaseException", .type "object"]
theorem key_store : StoreFacts "KeyError" keyMro "object.__setattr__" "object" :=
  ⟨by kernel_rfl, .of (owner := "object") (n := "__setattr__") (by rw [typeLookup_type, builtinLookup_eq_fast] <;> kernel_rfl) (by decide +kernel) (by decide +kernel) (by decide +kernel) (.inl (by decide +kernel)) (by rw [isSubtype_type] <;> kernel_rfl),
    F.store_IndexError.entry, F.store_IndexError.kind, F.store_IndexError.split, by decide +kernel, F.store_IndexError.args, fun self => by kernel_rfl⟩
theorem xb_Key : XB "KeyError" "LookupError.__new__" "KeyError.__init__" keyMro :=
  ⟨⟨"LookupError", _, _, F.excBase_LookupError, by decide +kernel⟩, by decide +kernel, by decide +kernel, by decide +kernel, key_store, excClass_KeyError.initEntry, excClass_KeyError.init.plain, excClass_KeyError.initKind, excClass_KeyError.initSplit, excClass_KeyError.initSig,
    excClass_KeyError.notStar, by kernel_rfl, by decide +kernel, fun K => by kernel_rfl, by decide +kernel⟩

section
variable {M : Model} {A : Around} {E : Value → Shared → Prop} {h : Heap} {g : Array GenState} {d : Drawn} {t : Nat} {os : OsState}
variable {nm q : Str} {C N : Addr} {bs bm bmB : List Value} {hdct : Bool} {sn : List Str} {sub : List Value} {ab : Bool} {col : Option Bool} {dd : Option Addr} {k0 k1 k2 k3 k5 : Option Value} {B newId initId I : String}
theorem xg_chkNew (F : ExcBaseFacts B newId initId bmB) (hB : bm.contains (.type B) = true) {rest : List Value} {Q : Unit → Shared → Prop}
    (eC : h.get? C = some (excClassObj nm q C N bs bm hdct sn sub ab col dd k0 k1 k2 k3 k5 newId)) (hq : Q () ⟨h, g, d, t, os⟩) : wpAny M A (checkBuiltinCall newId ⟨.ref C :: rest, []⟩) Q E ⟨h, g, d, t, os⟩ := by
  have hB2 : (Value.ref C :: bm).contains (.type B) = true := by rw [List.contains_cons, hB, Bool.or_true]
  have nostar := F.noStar
  simp only [checkBuiltinCall, F.newKind, F.newSplit, F.newRow]
  repeat (first | (refine wpAny_loadPart_at eC ?_) | (refine wpAny_isSubtype_exc eC ?_ <;> rw [hB2]) | (refine wpAny_staticBase_exc eC ?_) | (refine wpAny_madeBy_exc eC ?_) | (simp only [bne_self_eq_false, Bool.false_eq_true, if_false]) | wp_step)
  exact hq
theorem xg_chkInit (F : XB B newId I bmB) (hB : bm.contains (.type B) = true) {e : Addr} {oe : Obj} {rest : List Value} {Q : Unit → Shared → Prop}
    (eC : h.get? C = some (excClassObj nm q C N bs bm hdct sn sub ab col dd k0 k1 k2 k3 k5 newId)) (he : h.get? e = some oe) (hcls : oe.cls = .ref C) (hq : Q () ⟨h, g, d, t, os⟩) :
    wpAny M A (checkBuiltinCall I ⟨.ref e :: rest, []⟩) Q E ⟨h, g, d, t, os⟩ := by
  have hB2 : (Value.ref C :: bm).contains (.type B) = true := by rw [List.contains_cons, hB, Bool.or_true]
  have nostar := F.ns
  simp only [checkBuiltinCall, F.ik, F.is, F.ir]
  repeat (first | (with_reducible refine wpAny_loadPart_at he ?_ <;> rw [hcls]) | (with_reducible refine wpAny_loadPart_at eC ?_) | (with_reducible refine wpAny_isSubtype_exc eC ?_ <;> rw [hB2]) | wp_step)
  refine wpAny_onRaise ?_
  have z : ∀ (a b : String) (n : Nat), Bind.check ⟨.positional, "*", B, .self, [⟨"args", .varPos, false⟩]⟩ a b n (List.map (fun x => x.fst) ({ pos := Value.ref e :: rest } : Args).kw) = pure () := fun a b n => check_star_args _ _ _ _ _ _
  rw [z]
  exact wpAny_pure hq
end
section
variable {prog : Program} {w : World} {A : Around} {E : Value → Shared → Prop} {R : Result → Shared → Prop} {h : Heap} {g : Array GenState} {d : Drawn} {t : Nat} {os : OsState}
variable {nm q : Str} {C N : Addr} {bs bm bmB bm0 : List Value} {hdct : Bool} {sn : List Str} {sub : List Value} {ab : Bool} {col : Option Bool} {dd : Option Addr} {k0 k1 k2 k3 k5 : Option Value} {B B0 newId initId I : String}
theorem xg_new (F : ExcBaseFacts B newId initId bmB) (hB : bm.contains (.type B) = true) (hA : bm.contains (.type "AttributeError") = false) (hN : bm.contains (.type "NameError") = false) {rest : List Value}
    (eC : h.get? C = some (excClassObj nm q C N bs bm hdct sn sub ab col dd k0 k1 k2 k3 k5 newId))
    (hq : R (.ok (.ret (.ref (h.objs.size + 1)))) ⟨(h.push (kdv_tup rest)).push (HandSPX.excO C h.objs.size), g, d, t, os⟩) (hrest : rest.length ≤ sizeLine) :
    codeAny (model prog w) A (.builtin newId ⟨.ref C :: rest, []⟩) R ⟨h, g, d, t, os⟩ := by
  have ends := F.ends
  have c1 : (Value.ref C :: bm).contains (.type B) = true := by rw [List.contains_cons, hB, Bool.or_true]
  have c2 : (Value.ref C :: bm).contains (.type "AttributeError") = false := by rw [List.contains_cons, hA] <;> rfl
  have c3 : (Value.ref C :: bm).contains (.type "NameError") = false := by rw [List.contains_cons, hN] <;> rfl
  refine codeAny_builtinAt F.entry ?_
  unfold Builtin.«BaseException.__new__»
  refine PySem.wpAt_bind ?_
  show PySem.wpAt _ _ _ (stack >>= _) _ _ _
  refine PySem.wpAt_bind (PySem.wpAt_stack fun p below => PySem.wpAt_of_wpAny ?_)
  wp_walk
  refine PySem.wpAt_of_wpAny ?_
  rw [F.owner]
  repeat (first | (with_reducible refine wpAny_madeHere_exc F.canon eC ?_) | (with_reducible refine wpAny_loadPart_at eC ?_) | (with_reducible refine wpAny_isSubtype_exc eC ?_ <;> first | rw [c1] | rw [c2] | rw [c3]) | wp_step)
  show R _ _
  rw [Heap.size_push]
  exact hq
theorem xg_tcall (F : ExcBaseFacts B newId initId bmB) (hB : bm.contains (.type B) = true) (hA : bm.contains (.type "AttributeError") = false) (hN : bm.contains (.type "NameError") = false) {rest : List Value} {fI : Addr} {Q : Fin → Shared → Prop}
    (eC : h.get? C = some (excClassObj nm q C N bs bm hdct sn sub ab col dd k0 k1 k2 k3 k5 newId)) (hi : Looks (model prog w) h (typeLookup (.ref C) "__init__") (some (.ref fI))) (hb : ∀ self, Looks (model prog w) h (bindSpecial (.ref fI) self) (.ref fI, [self])) (hrest : rest.length ≤ sizeLine)
    (hq : codeAny (model prog w) A (.call (.ref fI) ⟨.ref (h.objs.size + 1) :: rest, []⟩) (fun r s' => match r with
      | .ok (.ret v) => v = .none ∧ Q (.done (.ret (.ref (h.objs.size + 1)))) s'
      | .ok _ => False
      | .error e => E e s') ⟨(h.push (kdv_tup rest)).push (HandSPX.excO C h.objs.size), g, d, t, os⟩) :
    wpAny (model prog w) A (Builtin.«type.__call__» ⟨.ref C :: rest, []⟩) Q E ⟨h, g, d, t, os⟩ := by
  repeat (first | (with_reducible refine wpAny_loadPart_at eC ?_) | (with_reducible refine wpAny_madeBy_exc eC ?_) | wp_step)
  refine codeAny_call_builtin_code (Code.quiet_builtin _ F.quiet) (xg_chkNew F hB eC (xg_new F hB hA hN eC ?_ hrest))
  show wpAny _ _ _ _ _ _
  have k : ∀ b o, h.get? b = some o → ((h.push (kdv_tup rest)).push (HandSPX.excO C h.objs.size)).get? b = some o := fun b o e => Heap.get?_push_of_some _ (Heap.get?_push_of_some _ e)
  have eC1 := k _ _ eC
  have eX : ((h.push (kdv_tup rest)).push (HandSPX.excO C h.objs.size)).get? (h.objs.size + 1) = some (HandSPX.excO C h.objs.size) := by heap_get
  have cC : (Value.ref C :: bm).contains (.ref C) = true := by simp
  have i1 := hi.keeps k
  have b1 := (hb (.ref (h.objs.size + 1))).keeps k
  unfold isInstance
  repeat (first | (with_reducible refine wpAny_loadPart_at eX ?_) | (with_reducible refine wpAny_isSubtype_exc eC1 ?_ <;> rw [cC]) | wp_step)
  show wpAny _ _ (typeLookup (.ref C) _) _ _ _
  refine i1.at (wpAny_holding (wpAny_bind (b1.at (wpAny_bind (wpAny_call (codeAny_mono hq fun r s' z => ?_))))))
  rcases r with e | (v | _ | _ | _) <;> first | exact z | exact z.elim | skip
  obtain ⟨rfl, z⟩ := z
  first
    | exact wpAny_pure (wpAny_pure z)
    | (wp_walk <;> exact z)
theorem xg_call (F : ExcBaseFacts B newId initId bmB) (hB : bm.contains (.type B) = true) (hA : bm.contains (.type "AttributeError") = false) (hN : bm.contains (.type "NameError") = false) {rest : List Value} {fI : Addr}
    (eC : h.get? C = some (excClassObj nm q C N bs bm hdct sn sub ab col dd k0 k1 k2 k3 k5 newId)) (hi : Looks (model prog w) h (typeLookup (.ref C) "__init__") (some (.ref fI))) (hb : ∀ self, Looks (model prog w) h (bindSpecial (.ref fI) self) (.ref fI, [self])) (hrest : rest.length ≤ sizeLine)
    (hq : codeAny (model prog w) (A.under (.builtin "type.__call__" ⟨.ref C :: rest, []⟩)) (.call (.ref fI) ⟨.ref (h.objs.size + 1) :: rest, []⟩) (InitBack (h.objs.size + 1) R) ⟨(h.push (kdv_tup rest)).push (HandSPX.excO C h.objs.size), g, d, t, os⟩) :
    codeAny (model prog w) A (.call (.ref C) ⟨rest, []⟩) R ⟨h, g, d, t, os⟩ := by
  have f1 := tc_lookup
  have f2 := tc_bind (.ref C)
  have hTy : (⟨h, g, d, t, os⟩ : Shared).TypeIs (.ref C) "type" := ⟨_, eC, rfl⟩
  refine codeAny_of_tree ?_
  show wpAny _ _ (callAny (.ref C) _) _ _ _
  repeat (any_goals (first | assumption | (with_reducible refine wpAny_loadPart_at eC ?_) | wp_step))
  refine ⟨rfl, codeAny_call_builtin_at (Code.quiet_builtin _ (by decide +kernel)) entry_typeCall (wpAny_check_type_call_sub eC (xg_tcall F hB hA hN eC hi hb hrest (codeAny_mono hq fun r s' z => ?_)))⟩
  rcases r with e | (v | _ | _ | _) <;> exact z
theorem xg_init (F : XB B newId I bmB) (hB : bm.contains (.type B) = true) {e t0 : Addr} {rest : List Value}
    (eC : h.get? C = some (excClassObj nm q C N bs bm hdct sn sub ab col dd k0 k1 k2 k3 k5 newId)) (he : h.get? e = some (HandSPX.excO C t0)) (hrest : rest.length ≤ sizeLine)
    (hq : ∀ h' t1, (∀ b o, b ≠ e → h.get? b = some o → h'.get? b = some o) → h'.get? e = some (HandSPX.excO C t1) → R (.ok (.ret .none)) ⟨h', g, d, t, os⟩) :
    codeAny (model prog w) A (.call (.builtin I) ⟨.ref e :: rest, []⟩) R ⟨h, g, d, t, os⟩ := by
  refine codeAny_call_builtin F.ip F.ie (xg_chkInit F hB eC he rfl ?_)
  wp_walk
  refine hq _ h.objs.size (fun b o hb ho => (Heap.get?_update_other _ _ (Ne.symm hb)).trans (Heap.get?_push_of_some _ ho)) ?_
  exact Heap.get?_update_self _ (Heap.get?_push_of_some _ he) rfl
/-- the first field -/
theorem xg_osa {K : Frag} {name : Str} {tk : Tok} {v : Value} {x : Addr} {fv : Array Value} (SF : StoreFacts B bmB "object.__setattr__" "object") (X : K.In h) (hx : h.get? x = some { cls := .ref C, data := .fields fv }) (ho : excOver K C bmB = true) (ht : takerIn K C name = some none)
    (hh : hasDictIn K C = true)
    (hq : ∀ h' tk' dx, (∀ b o, b ≠ x → h.get? b = some o → h'.get? b = some o) → h.objs.size ≤ dx → dx ≠ x → h'.get? x = some { cls := .ref C, dict := some dx, data := .fields fv } →
      h'.Ns1 dx (fun y => if y = name then some v else none) → R (.ok (.ret .none)) ⟨h', g, d, tk', os⟩) :
    codeAny (model prog w) A (.call (.builtin "object.__setattr__") ⟨[.ref x, .str name tk, v], []⟩) R ⟨h, g, d, t, os⟩ := by
  have J : InstAt h x { cls := .ref C, data := .fields fv } C none := ⟨hx, rfl, rfl, trivial⟩
  have nx : x ≠ h.objs.size := Nat.ne_of_lt (Heap.lt_size hx)
  obtain ⟨cd, hcd, hd⟩ := any_some hh
  have hcl : Looks (model prog w) h (classData C) cd := looks_clsIn X hcd
  refine osa_openX SF X J ho ht fun b => ?_
  show wpAny _ _ (storeInOwnDict (.ref x) (.ref C) (.str name tk) name v b) _ _ _
  obtain ⟨nm, bs, mro, ns, qn, hd', sn, sb, ab, col, del⟩ := cd
  (try dsimp only at hd)
  subst hd
  unfold storeInOwnDict ownDictForStores
  repeat (first | (with_reducible refine HandSPX.store_in_new ?_ ?_) | (with_reducible refine wpAny_loadPart_at hx ?_) | (with_reducible refine hcl.at ?_) | wp_step)
  · exact ⟨_, #[], _, (Heap.get?_update_ne _ _ _ _ nx.symm).trans (Heap.get?_push_at rfl rfl), rfl, fun e he => absurd he (by simp), fun _ => rfl⟩
  · intro h' tk' hn' hs
    refine hq h' tk' h.objs.size (fun b o hb z => ?_) (Nat.le_refl _) nx.symm ?_ hn'
    · exact (hs.2 b (Nat.ne_of_lt (Heap.lt_size z))).trans ((Heap.get?_update_ne _ _ _ _ hb).trans (Heap.get?_push_of_some _ z))
    · exact (hs.2 x nx).trans (Heap.get?_update_self _ (Heap.get?_push_of_some _ hx) rfl)
end
end Ax
end
section
set_option maxHeartbeats 2000000
/-! such classes in the layer W: the base's __init__, self.f = e, raise C(e) -/
namespace Ax
open PySem PySem.Spec PyProof.Rows L2
/-- what the written part says of such a class -/
structure OxC (K : PySem.W.Frag) (C : Addr) (bm : List Value) (N : String) (f : Str) : Prop where
  ini : PySem.W.excInitIn K C bm N = true
  ov : PySem.W.excOver K C bm = true
  sa : PySem.W.findIn K (.ref C) "__setattr__" = some (some (.builtin "object.__setattr__"))
  ex : PySem.W.subIn K (.ref C) (.type "BaseException") = some true
  ty : PySem.W.typeIn K (.ref C) = some (.type "type")
  kp : PySem.W.keepIn K (.ref C) = true
  hd : PySem.W.hasDictIn K C = true
  tk : PySem.W.takerIn K C f = some none
def oxB (K : PySem.W.Frag) (C : Addr) (bm : List Value) (N : String) (f : Str) : Bool :=
  PySem.W.excInitIn K C bm N && (PySem.W.excOver K C bm && (decide (PySem.W.findIn K (.ref C) "__setattr__" = some (some (.builtin "object.__setattr__"))) && (decide (PySem.W.subIn K (.ref C) (.type "BaseException") = some true) &&
    (decide (PySem.W.typeIn K (.ref C) = some (.type "type")) && (PySem.W.keepIn K (.ref C) && (PySem.W.hasDictIn K C && decide (PySem.W.takerIn K C f = some none)))))))
theorem oxB_ok {K : PySem.W.Frag} {C : Addr} {bm : List Value} {N : String} {f : Str} (h : oxB K C bm N f = true) : OxC K C bm N f := by
  unfold oxB at h
  simp only [Bool.and_eq_true, decide_eq_true_eq] at h
  obtain ⟨h1, h2, h3, h4, h5, h6, h7, h8⟩ := h
  exact ⟨h1, h2, h3, h4, h5, h6, h7, h8⟩
theorem upd_self {H : Hp} {a : Addr} {o : HO} (e : H a = some o) : upd H a o = H := by
  funext b
  by_cases hb : b = a
  · rw [hb, upd_same, e]
  · rw [upd_ne hb]
section
variable {X : Cx} {pins : List (Addr × Obj)} {σ : L2.St} {H : Hp} {s : Shared} {a C dx : Addr} {f : Str} {y : V} {u : Value} {B N I : String} {bm : List Value} {A : Around} {E : Value → Shared → Prop}
theorem ox_init {us : List Value} {Q : Value → Shared → Prop} (F : XB B N I bm) (T : OxC X.K C bm N f) (J : Inv X pins σ H s) (e : H a = some (exo a C none)) (hl : us.length ≤ sizeLine) (h : ∀ s', Inv X pins σ H s' → Q .none s') :
    wpAny (model X.prog X.w) A (call (.builtin I) (.ref a :: us)) Q E s := by
  obtain ⟨nm, N', qn, bs, bm', hdct, sn, sub, ab, col, dd, k0, k1, k2, k3, k5, hC, hT⟩ := PySem.W.excInit_of J.kIn T.ini
  obtain ⟨t1, ho⟩ := exo_at J.hok e
  obtain ⟨hp, g, d, t, os⟩ := s
  refine wpAny_call (xg_init F ((hT _).trans F.hB) hC ho hl fun h' t2 k hx => ?_)
  have J2 := J.write (t' := t) (x := a) (e := a) (o := exo a C none) (by rw [e] <;> exact True.intro) (.inl rfl) k ⟨_, hx⟩ (exo_ok hx)
  rw [upd_self e] at J2
  exact h _ J2
/-- self.f = y, the first field -/
theorem ox_set {Q : Unit → Shared → Prop} (F : XB B N I bm) (T : OxC X.K C bm N f) (J : Inv X pins σ H s) (e : H a = some (exo a C none)) (ry : RelV y u)
    (h : ∀ dx s', H dx = none → dx ≠ a → Inv X pins σ (upd (upd H dx (exd dx [(f, y)])) a (exo a C (some dx))) s' → Q () s') : wpAny (model X.prog X.w) A (setAttr (.ref a) f u) Q E s := by
  obtain ⟨t1, ho⟩ := exo_at J.hok e
  obtain ⟨hp, g, d, t, os⟩ := s
  refine PySem.W.set_plain J.kIn (ox := { cls := .ref C, dict := none, data := .fields #[.ref t1, .none, .none, .none, .bool false, .none] }) (od := none) ⟨ho, rfl, rfl, trivial⟩ T.sa ?_
  refine xg_osa F.sf J.kIn ho T.ov T.tk T.hd fun h' tk' dx k dn dne hx hn => ?_
  have dnone : H dx = none := J.hok.fresh dn
  have old : ∀ {b : Addr} {o : Obj}, hp.get? b = some o → b ≠ dx := fun {b o} q => Nat.ne_of_lt (Nat.lt_of_lt_of_le (Heap.lt_size q) dn)
  have na : ∀ {b : Addr}, H b = none → b ≠ a := fun {b} n z => absurd (z ▸ n) (by rw [e] <;> simp)
  have U : Un X.fs [] H (upd (upd H dx (exd dx [(f, y)])) a (exo a C (some dx))) hp h' :=
    { keep := fun b o q n _ _ => k b o (na n) q, slot := fun b o q n _ _ => ⟨o.slots, k b o (na n) q⟩, free := fun b o q n _ => (upd_ne (na n)).trans ((upd_ne (old q)).trans n),
      there := fun b o q _ => (Decidable.em (b = a)).elim (fun hb => ⟨_, hb ▸ hx⟩) fun hb => ⟨o, k b o hb q⟩,
      tups := fun b xs q => (upd_ne (at_ne e q exo_tup)).trans ((upd_ne (ne_of_none q dnone)).trans q), frzs := fun b o v q => (upd_ne (at_ne e q exo_frz)).trans ((upd_ne (ne_of_none q dnone)).trans q),
      tbls := fun b ps q => ⟨#[], by rw [upd_ne (at_ne e q exo_tbl), upd_ne (ne_of_none q dnone), q] <;> simp⟩ }
  refine h dx _ dnone dne (J.un (t' := tk') U fun b o q => ?_)
  by_cases hb : b = a
  · subst hb
    rw [upd_same] at q
    cases q
    exact exo_ok hx
  rw [upd_ne hb] at q
  by_cases hd : b = dx
  · subst hd
    rw [upd_same] at q
    cases q
    exact exd_ok hn (relO_put (fs := []) ry fun g => True.intro)
  rw [upd_ne hd] at q
  refine (J.hok b o q).stay (fun c v hc z => k c v ?_ z) (fun c hc => (upd_ne (at_ne e hc exo_own)).trans ((upd_ne (ne_of_none hc dnone)).trans hc)) fun c xs hc => (upd_ne (at_ne e hc exo_tup)).trans ((upd_ne (ne_of_none hc dnone)).trans hc)
  rcases hc with hc | hc
  · rw [hc] <;> exact hb
  · exact at_ne e hc exo_own
end
section
variable {X : Cx} {σ : L2.St} {H : Hp} {Q : VK} {D : Ends} {C : Addr} {f : Str} {B N I : String} {bm : List Value} {e o : Expr} {es : List Expr} {p p1 p2 pos : Pos}
/-- B.__init__(self, ..) -/
theorem w_binit {pl : Sem Bool} (F : XB B N I bm) (T : OxC X.K C bm N f) (hm : X.mg (Str.ofString B) = none) (hv : bootBuiltins (Str.ofString B) = some (.type B))
    (h : WA X (e :: es) σ H fun vs H1 => ∃ a ws, vs = .ref a :: ws ∧ ws.length ≤ 1000 ∧ H1 a = some (exo a C none) ∧ Q .non H1) (hg : Gl X (Str.ofString B) := by rfl)
    (hc : eval (.Call (.Attribute (.Name (Str.ofString B) p1) "__init__" p2) (e :: es) [] pos) X.env = (do
      let ov ← eval (.Name (Str.ofString B) p1) X.env
      standAt p2.atName
      let (f, first) ← holding [ov] (getMethod ov "__init__" pl)
      callWith pos f first (backTo pos (starEach (e :: es) X.env)) (backToKw pos (keywordEach [] X.env))) := by rfl)
    (he : starEach (e :: es) X.env = (false, eval e X.env) :: starEach es X.env := by rfl) (hpl : (backTo pos (starEach es X.env)).any (·.1) = false := by rfl)
    (hn : Str.ofString B ≠ "__name__" := by decide) (hd : (Str.ofString B == ("__debug__" : Str)) = false := by decide) :
    W X (.Call (.Attribute (.Name (Str.ofString B) p1) "__init__" p2) (e :: es) [] pos) σ H Q := by
  refine ⟨fun pins s J => PySem.W.methodCall_KW (ld_blt J hg hm hv ?_ hn hd) hc⟩
  obtain ⟨m, fr⟩ := J.fr
  refine PySem.W.method_type fr J.ok.mod.kin F.ty F.st (F.fi _) F.hd ?_
  refine PyProof.Rows.callWith_method1 (thn (h.run pos pins _ (J.tok _)) fun us s1 ⟨vs, H1, J1, r1, a, ws, ev, hl, ea, q⟩ => ?_) he hpl
  subst ev
  cases r1 with
  | @cons _ u0 _ ur ra rw' =>
    obtain rfl : u0 = Value.ref a := ra
    exact ox_init F T J1 ea (by rw [← Paired.length rw', sizeLine_eq] <;> omega) fun s' J' => ⟨.non, H1, J', rfl, q⟩
/-- self.f = e, the first field -/
theorem ws_oxset {p' : Pos} (F : XB B N I bm) (T : OxC X.K C bm N f) (h : W X e σ H fun y H1 => W X o σ H1 fun x H2 => ∃ a, x = .ref a ∧ H2 a = some (exo a C none) ∧ ∀ dx, H2 dx = none → dx ≠ a → D.nx σ (upd (upd H2 dx (exd dx [(f, y)])) a (exo a C (some dx))))
    (hs : swapsWith e (some (.Attribute o f p')) pos.line X.env = pure false := by rfl) : WS X (.Assign [.Attribute o f p'] e pos) D σ H := by
  refine ⟨fun pins s J => plainObj_wpAny_Assign_Attribute (thn (h.run pins s J) fun v s1 ⟨y, H1, J1, r1, q1⟩ => thn (q1.run pins s1 J1) fun u s2 ⟨x, H2, J2, r2, a, ex, ea, q⟩ => ?_) hs⟩
  subst ex
  obtain rfl : u = Value.ref a := r2
  exact ox_set F T J2 ea r1 fun dx s' n ne J' => ⟨σ, _, J', q dx n ne⟩
end
/-- what such a class's __init__ does -/
def spOx (C : Addr) (f : Str) : Sp := fun vs H Q _ => ∃ a y, vs = [.ref a, y] ∧ H a = some (exo a C none) ∧ ∀ dx, H dx = none → dx ≠ a → Q .non (upd (upd H dx (exd dx [(f, y)])) a (exo a C (some dx)))
/-- a class of the top with such an __init__ -/
structure OxOk (P : Program) (w : World) (K : PySem.W.Frag) (mg : Str → Option Value) (base : Heap) (x : Str) (C : Addr) (B N I : String) (bm : List Value) (f : Str) : Prop where
  b : XB B N I bm
  c : OxC K C bm N f
  g : mg x = some (.ref C)
  ex : ∃ fI fd, FnOk P w K mg base (L2.CX P w) 1 fI fd ["self", f] (spOx C f) ∧ Binds K fd ["self", f] [] ∧ PySem.W.findIn K (.ref C) "__init__" = some (some (.ref fI)) ∧ PySem.W.typeIn K (.ref fI) = some (.type "function")
section
variable {X : Cx} {σ : L2.St} {H : Hp} {D : Ends} {C : Addr} {x f : Str} {B N I : String} {bm : List Value} {e : Expr} {p cpos pos : Pos}
theorem ox_make (O : OxOk X.prog X.w X.K X.mg X.base x C B N I bm f) (hr : Room 2 X.A) (hx : Passes (L2.CX X.prog X.w) X (fun _ _ _ => False)) (hg : Gl X x := by rfl) (hdb : (x == ("__debug__" : Str)) = false := by decide)
    (he : starEach [e] X.env = (false, eval e X.env) :: starEach [] X.env := by rfl) :
    PMk X (.Call (.Name x p) [e] [] cpos) (fun σ H Q => W X e σ H fun y H1 => ∀ d, H1 d = none → Q (.ref C) (some d) (upd H1 d (.xd [(f, y)]))) := by
  intro pins s σ H Q J h
  obtain ⟨fI, fd, F1, hb, iC, tI⟩ := O.ex
  obtain ⟨nm, N', qn, bs, bm', hdct, sn, sub, ab, col, dd, k0, k1, k2, k3, k5, hC, hT⟩ := PySem.W.excInit_of J.kIn O.c.ini
  obtain ⟨B0, i0, bm0, F0, hB0⟩ := O.b.own
  have ha : WA X [e] σ H fun vs H1 => ∃ y, vs = [y] ∧ ∀ d, H1 d = none → Q (.ref C) (some d) (upd H1 d (.xd [(f, y)])) := wa_cons (W.mono h fun y H1 q => wa_nil ⟨y, rfl, q⟩) he
  refine wpAny_Call_Name_kw (ld_glob J hg O.g ?_ hdb)
  refine PySem.W.callWith_K (h₀ := X.base) J.ok.mod.kin O.c.kp (thn (ha.run cpos pins s J) fun us s1 ⟨vs, H1, J1, r1, y, ev, q1⟩ => ⟨J1.kIn, ?_⟩) he rfl
  subst ev
  cases r1 with
  | @cons _ u0 _ ur ry rn =>
  cases rn
  show wpAny _ _ (call (.ref C) [u0]) _ _ _
  obtain ⟨nm, N', qn, bs, bm', hdct, sn, sub, ab, col, dd, k0, k1, k2, k3, k5, hC, hT⟩ := PySem.W.excInit_of J1.kIn O.c.ini
  obtain ⟨hp, g, dr, tk, os⟩ := s1
  have le : hp.objs.size ≤ hp.objs.size + 1 := Nat.le_succ _
  have hn : H1 (hp.objs.size + 1) = none := J1.hok.fresh le
  have kk : ∀ b o, hp.get? b = some o → ((hp.push (PySem.W.kdv_tup [u0])).push (PySem.HandSPX.excO C hp.objs.size)).get? b = some o := fun b o z => Heap.get?_push_of_some _ (Heap.get?_push_of_some _ z)
  have eX : ((hp.push (PySem.W.kdv_tup [u0])).push (PySem.HandSPX.excO C hp.objs.size)).get? (hp.objs.size + 1) = some (PySem.HandSPX.excO C hp.objs.size) := by heap_get
  have J2 : Inv X pins σ (upd H1 (hp.objs.size + 1) (exo (hp.objs.size + 1) C none)) ⟨(hp.push (PySem.W.kdv_tup [u0])).push (PySem.HandSPX.excO C hp.objs.size), g, dr, tk, os⟩ := J1.laid (t' := tk) kk le (exo_ok eX)
  have r2 : Vals [V.ref (hp.objs.size + 1), y] [Value.ref (hp.objs.size + 1), u0] := .cons rfl (.cons ry .nil)
  have hq : spOx C f [V.ref (hp.objs.size + 1), y] (upd H1 (hp.objs.size + 1) (exo (hp.objs.size + 1) C none)) (fun v H2 => v = .non ∧ ∃ (d : Addr) (fs : List (Str × V)), H2 (hp.objs.size + 1) = some (exo (hp.objs.size + 1) C (some d)) ∧ H2 d = some (exd d fs) ∧ H1 d = none ∧
      Q (.ref C) (some d) (upd (del H2 (hp.objs.size + 1)) d (.xd fs))) (fun _ _ _ => False) := by
    refine ⟨_, y, rfl, upd_same, fun dx n ne => ⟨rfl, dx, [(f, y)], upd_same, ?_, ?_, ?_⟩⟩
    · rw [upd_ne ne, upd_same]
    · rwa [upd_ne ne] at n
    · have n1 : H1 dx = none := by rwa [upd_ne ne] at n
      have z : upd (del (upd (upd (upd H1 (hp.objs.size + 1) (exo (hp.objs.size + 1) C none)) dx (exd dx [(f, y)])) (hp.objs.size + 1) (exo (hp.objs.size + 1) C (some dx))) (hp.objs.size + 1)) dx (.xd [(f, y)]) = upd H1 dx (.xd [(f, y)]) := by
        funext b
        by_cases hb : b = dx
        · rw [hb, upd_same, upd_same]
        rw [upd_ne hb, upd_ne hb]
        by_cases ha : b = hp.objs.size + 1
        · rw [ha, del_same, hn]
        rw [del_ne ha, upd_ne ha, upd_ne hb, upd_ne ha]
      rw [z]
      exact q1 dx n1
  have b := hb ⟨(hp.push (PySem.W.kdv_tup [u0])).push (PySem.HandSPX.excO C hp.objs.size), g, dr, tk, os⟩ [Value.ref (hp.objs.size + 1), u0] J2.kIn rfl
  refine wpAny_call (xg_call F0 ((hT _).trans hB0) ((hT _).trans O.b.nA) ((hT _).trans O.b.nN) hC (PySem.W.looks_findIn J1.kIn iC) (fun self => PySem.W.bind_fn J1.kIn self tI) (by show 1 ≤ sizeLine; rw [sizeLine_eq] <;> omega)
    (codeAny_mono (F1.run _ X.stack _ _ ⟨[Value.ref (hp.objs.size + 1), u0], []⟩ [Value.ref (hp.objs.size + 1), u0] _ _ (fun _ _ _ => False) (hr.make C [u0] []) (J2.env0.make C [u0] []) b r2 hq) fun r s' z => ?_))
  cases r with
  | error er => exact hx pins σ _ _ er s' J2 z
  | ok fl =>
    cases fl with
    | ret u =>
      obtain ⟨v, H2, os2, bare2, un2, hok2, rv, ev, d, fs, ea, ed, hd1, q2⟩ := z
      subst ev
      obtain ⟨h2, g2, d2, t2, os'⟩ := s'
      exact ⟨rv, mk_end (raises_own O.c.ex O.c.ty) J1 le kk un2 hok2 os2 bare2 ea ed hd1 q2⟩
    | next => exact False.elim z
    | brk => exact False.elim z
    | cont => exact False.elim z
theorem ws_raiseO {Wx : WX} (O : OxOk X.prog X.w X.K X.mg X.base x C B N I bm f) (hr : Room 2 X.A) (tk : Takes X Wx) (hx : Passes (L2.CX X.prog X.w) X (fun _ _ _ => False)) (h : W X e σ H fun y H1 => ∀ d, H1 d = none → Wx (.ref C) (some d) σ (upd H1 d (.xd [(f, y)]))) (hc : X.calm = true := by rfl)
    (hg : Gl X x := by rfl) (hdb : (x == ("__debug__" : Str)) = false := by decide) (he : starEach [e] X.env = (false, eval e X.env) :: starEach [] X.env := by rfl) : WS X (.Raise (some (.Call (.Name x p) [e] [] cpos)) none pos) D σ H :=
  WS.of (ps_raise hc tk (ox_make O hr hx hg hdb he)) h
end
end Ax
end
section
set_option maxHeartbeats 2000000
/-! try: .. except X [as n]: .. except ..: ..; in the layer W -/
namespace Ax
open PySem PySem.Spec PyProof.Rows L2
/-- the name of the clause goes behind the suite -/
def gone (i : Nat) (D : Ends) : Ends := { nx := fun σ' H' => D.nx (σ'.set i none) H', rt := D.rt, bk := fun σ' H' => D.bk (σ'.set i none) H', ct := fun σ' H' => D.ct (σ'.set i none) H' }
/-- the suite of a clause: n its name -/
def Suit (X : Cx) (D : Ends) (n : Option Str) (suite : List Stmt) (a : Addr) (oe : Obj) (pn : List (Addr × Obj)) (σ : L2.St) (H : Hp) : Prop := match n with
  | none => WB (X.suite a ((a, oe) :: pn)) suite D σ H
  | some x => ∃ i, X.N[i]? = some x ∧ X.env.kindOf x = some .local ∧ WB (X.suite a ((a, oe) :: pn)) suite (gone i D) (σ.set i (some (.ref a))) H
/-- what the clauses wish, one after the other -/
def Catch (X : Cx) (Wout : WX) (D : Ends) : List ExceptHandler → WX
  | [] => Wout
  | .ExceptHandler (some (.Name x _)) n (b0 :: suite) _ :: r => fun cls d σ H => ∃ (c : Value) (b : Bool), Names X x c ∧ PySem.W.exmOne X.K cls c = some b ∧
      (b = true → ∀ (a : Addr) (oe : Obj) (pn : List (Addr × Obj)), H a = none → Zc cls d oe → (∃ vs, oe.data = .fields vs) → Suit X D n (b0 :: suite) a oe pn σ H) ∧ (b = false → Catch X Wout D r cls d σ H)
  | _ :: _ => fun _ _ _ _ => False
section
variable {X : Cx} {σ : L2.St} {H : Hp} {D : Ends} {body : List Stmt} {h0 : ExceptHandler} {hds : List ExceptHandler} {pos : Pos} {Wout : WX}
theorem ws_try (hs : X.stack = X.env :: X.outer) (hf : X.env.frame = some X.env.locals) (hN : X.N.Nodup) (tk : Takes X Wout)
    (h : ∀ (pn : List (Addr × Obj)) (xe : Value → Shared → Prop), Takes (X.tr pn xe) (Catch X Wout D (h0 :: hds)) → PassesOwn (model X.prog X.w) X.A X.env xe → WB (X.tr pn xe) body D σ H) :
    WS X (.Try body (h0 :: hds) [] [] pos) D σ H := by
  refine ⟨fun pins s I => wpAny_Try_except ?_⟩
  have ok := I.ok
  have fr : X.A.frames = some (X.env :: X.outer) := by rw [ok.frames, hs]
  refine wpAny_mono ((h (X.pn ++ pins) (fun e s1 => wpAny (model X.prog X.w) X.A (noteFrame e X.env) (fun _ s2 => wpAny (model X.prog X.w) X.A (setFlight e none) (fun _ s3 =>
    wpAny (model X.prog X.w) X.A (handleBy e X.env (h0 :: hds)) (SP X pins D) X.xe s3) X.xe s2) X.xe s1) (fun u s' xx => ?_) PassesOwn.looking).run [] s (I.toTry _)) (fun fl s1 sp => ?_) fun _ _ z => z
  · obtain ⟨a, B, sI, pins', σ', H', cls, d, rfl, J', nb, up, sky, na, os, ag, w⟩ := xx
    have J : Inv X pins σ' H' sI := J'.ofTry ok
    have sky2 : Sky B (X.env :: X.outer) a (Zc cls d) X.env.locals s'.heap := hs ▸ sky
    show wpAny (model X.prog X.w) X.A (noteFrame (.ref a) X.env) _ _ _
    refine Sky.land Zc.steady fr hf sky2 fun h3 fl3 up3 => ?_
    have J3 : Inv X pins σ' H' { s' with heap := h3 } := J.landed nb fl3.1 (up.trans up3) os ag
    obtain ⟨oe3, vs3, he3, hz3, hd3⟩ := fl3.there
    have nofr : a ∉ frs (X.env :: X.outer) := fun hm => by
      obtain ⟨_, o', e', hnf⟩ := fl3.2.2.1.mem hm
      rw [he3] at e'
      cases e'
      exact hnf _ hd3
    have nL : a ≠ X.env.locals := fun z => nofr (List.mem_filterMap.mpr ⟨X.env, List.mem_cons_self, by rw [hf, z]⟩)
    have nF : a ∉ X.fs := fun hm => by
      obtain ⟨e, he, q⟩ := List.mem_filterMap.mp hm
      exact nofr (List.mem_filterMap.mpr ⟨e, List.mem_cons_of_mem _ he, q⟩)
    have S3 := J3.suite he3 hd3 na nL nF
    have LT : PySem.W.Looks (model X.prog X.w) h3 (typeOf (.ref a)) cls := fun A Q E s k q => wpAny_typeOf_ref (k _ _ he3) (by rw [hz3.1] <;> exact q)
    have out : Wout cls d σ' H' → wpAny (model X.prog X.w) X.A (handleBy (.ref a) X.env []) (SP X pins D) X.xe { s' with heap := h3 } := fun w0 => by
      refine wpAny_handleBy_nil ?_
      obtain ⟨k1, k2, k3, oe, vs, T, oT, ts', he, hz, hd, h1, hr⟩ := id fl3
      unfold PySem.passOn
      refine wpAny_bind (wpAny_field he hd h1 ?_)
      rw [if_neg (by simp)]
      have fin : wpAny (model X.prog X.w) X.A (setFlight (.ref a) X.env.frame) (fun _ s4 => wpAny (model X.prog X.w) X.A (throw (.ref a) : Sem Flow) (SP X pins D) X.xe s4) X.xe { s' with heap := h3 } := by
        rw [hf]
        exact HandSPX.setFlight_upZ fl3 fun h4 hh4 up4 => wpAny_throw (tk _ _ ⟨a, B, sI, pins, σ', H', cls, d, rfl, J, nb, (up.trans up3).trans up4, .inr (.inr (hs ▸ hh4)), na, os, ag, w0⟩)
      first
        | exact wpAny_bind (wpAny_pure (wpAny_bind fin))
        | exact wpAny_bind fin
    have go : ∀ l : List ExceptHandler, Catch X Wout D l cls d σ' H' → wpAny (model X.prog X.w) X.A (handleBy (.ref a) X.env l) (SP X pins D) X.xe { s' with heap := h3 } := by
      intro l
      induction l with
      | nil => exact out
      | cons q l ih =>
        intro w
        obtain ⟨x, np, n, b0, suite, pos', rfl⟩ : ∃ x np n b0 suite pos', q = .ExceptHandler (some (.Name x np)) n (b0 :: suite) pos' := by
          obtain ⟨ty, n, st, pos'⟩ := q
          cases ty with
          | none => exact w.elim
          | some e =>
            cases st with
            | nil => cases e <;> exact w.elim
            | cons b0 suite => cases e <;> first | exact w.elim | exact ⟨_, _, _, _, _, _, rfl⟩
        · obtain ⟨c, b, hc, hb, yes, no⟩ := w
          refine wpAny_handleBy_cons (codeAny_handlers_test ?_) (by intro q; cases q)
          have LM := PySem.W.exm_one (M := model X.prog X.w) J3.kIn LT hb
          have test : ∀ {Q E : Value → Shared → Prop}, Q c { s' with heap := h3 } → wpAny (model X.prog X.w) (X.A.mark (some (.ref a))) (eval (.Name x np) X.env) Q E { s' with heap := h3 } := fun {Q E} q => by
            obtain ⟨hg, hdbg, hm | ⟨hm, hv, hnn⟩⟩ := hc
            · exact ld_glob (X := X.suite a ((a, oe3) :: (X.pn ++ pins))) S3 hg hm q hdbg
            · exact ld_blt (X := X.suite a ((a, oe3) :: (X.pn ++ pins))) S3 hg hm hv q hnn hdbg
          refine test (LM.here ?_)
          cases b with
          | false => exact ih (no rfl)
          | true =>
            have land : ∀ (k : Shared → Prop), (∀ h4 (oe4 : Obj), Zc cls d oe4 → (∃ vs, oe4.data = .fields vs) → Inv (X.suite a ((a, oe4) :: (X.pn ++ pins))) [] σ' H' { s' with heap := h4 } → k { s' with heap := h4 }) →
                wpAny (model X.prog X.w) (X.A.mark (some (.ref a))) (setFlight (.ref a) none) (fun _ s4 => k s4) (fun _ _ => False) { s' with heap := h3 } := fun k hk => by
              refine HandSPX.lands_againZ fl3 fun h4 fl4 up4 => ?_
              have J4 : Inv X pins σ' H' { s' with heap := h4 } := J.landed nb fl4.1 ((up.trans up3).trans up4) os ag
              obtain ⟨oe4, vs4, he4, hz4, hd4⟩ := fl4.there
              exact hk h4 oe4 hz4 ⟨_, hd4⟩ (J4.suite he4 hd4 na nL nF)
            cases n with
            | none =>
              refine codeAny_handlers_suite ?_
              refine HandSPX.lands_againZ fl3 fun h4 fl4 up4 => ?_
              have J4 : Inv X pins σ' H' { s' with heap := h4 } := J.landed nb fl4.1 ((up.trans up3).trans up4) os ag
              obtain ⟨oe4, vs4, he4, hz4, hd4⟩ := fl4.there
              have S4 := J4.suite he4 hd4 na nL nF
              have wb : WB (X.suite a ((a, oe4) :: (X.pn ++ pins))) (b0 :: suite) D σ' H' := yes rfl a oe4 (X.pn ++ pins) na hz4 ⟨_, hd4⟩
              refine wpAny_mono (wb.run [] _ S4) (fun f s6 hsp => ?_) fun _ _ z => False.elim z
              cases f with
              | ret u =>
                obtain ⟨v6, σ6, H6, S6, r6, q6⟩ := hsp
                exact ⟨_, _, _, S6.unsuite ok, r6, q6⟩
              | next =>
                obtain ⟨σ6, H6, S6, q6⟩ := hsp
                exact ⟨_, _, S6.unsuite ok, q6⟩
              | brk =>
                obtain ⟨σ6, H6, S6, q6⟩ := hsp
                exact ⟨_, _, S6.unsuite ok, q6⟩
              | cont =>
                obtain ⟨σ6, H6, S6, q6⟩ := hsp
                exact ⟨_, _, S6.unsuite ok, q6⟩
            | some n =>
              refine codeAny_handlers_suite_as ?_
              refine HandSPX.lands_againZ fl3 fun h4 fl4 up4 => ?_
              have J4 : Inv X pins σ' H' { s' with heap := h4 } := J.landed nb fl4.1 ((up.trans up3).trans up4) os ag
              obtain ⟨oe4, vs4, he4, hz4, hd4⟩ := fl4.there
              have S4 := J4.suite he4 hd4 na nL nF
              obtain ⟨i, hi, hln, wb⟩ : ∃ i, X.N[i]? = some n ∧ X.env.kindOf n = some .local ∧ WB (X.suite a ((a, oe4) :: (X.pn ++ pins))) (b0 :: suite) (gone i D) (σ'.set i (some (.ref a))) H' := yes rfl a oe4 (X.pn ++ pins) na hz4 ⟨_, hd4⟩
              refine store_ok (X := X.suite a ((a, oe4) :: (X.pn ++ pins))) (v := .ref a) S4 hN hi (.inl hln) rfl (fun s5 S5 => ?_) (.inr hln)
              refine wpAny_mono (wb.run [] s5 S5) (fun f s6 hsp => ?_) fun _ _ z => False.elim z
              have end_ : ∀ {σ6 : L2.St} {H6 : Hp} {Q : Shared → Prop}, Inv (X.suite a ((a, oe4) :: (X.pn ++ pins))) [] σ6 H6 s6 → (∀ s7, Inv X pins (σ6.set i none) H6 s7 → Q s7) →
                  wpAny (model X.prog X.w) X.A (do bindName X.env n .none; unbindBehindTheSuite X.env n pos') (fun _ s7 => Q s7) X.xe s6 := fun {σ6 H6 Q} S6 hq => gone_ok (S6.unsuite ok) hN hi hln hq
              cases f with
              | ret u =>
                obtain ⟨v6, σ6, H6, S6, r6, q6⟩ := hsp
                exact end_ S6 fun s7 J7 => ⟨_, _, _, J7, r6, q6⟩
              | next =>
                obtain ⟨σ6, H6, S6, q6⟩ := hsp
                exact end_ S6 fun s7 J7 => ⟨_, _, J7, q6⟩
              | brk =>
                obtain ⟨σ6, H6, S6, q6⟩ := hsp
                exact end_ S6 fun s7 J7 => ⟨_, _, J7, q6⟩
              | cont =>
                obtain ⟨σ6, H6, S6, q6⟩ := hsp
                exact end_ S6 fun s7 J7 => ⟨_, _, J7, q6⟩
    exact go _ w
  · cases fl with
    | ret u =>
      obtain ⟨v, σ', H', J', r, q⟩ := sp
      exact ⟨v, σ', H', J'.ofTry ok, r, q⟩
    | next =>
      obtain ⟨σ', H', J', q⟩ := sp
      exact wpAny_execs_nil ⟨σ', H', J'.ofTry ok, q⟩
    | brk =>
      obtain ⟨σ', H', J', q⟩ := sp
      exact ⟨σ', H', J'.ofTry ok, q⟩
    | cont =>
      obtain ⟨σ', H', J', q⟩ := sp
      exact ⟨σ', H', J'.ofTry ok, q⟩
end
end Ax
end
section
set_option maxHeartbeats 2000000
/-! within an except suite: defs that raise where nothing is handled, a def called with the exception, isinstance of it, a comprehension over a range -/
namespace Ax
open PySem PySem.Spec PyProof.Rows L2
/-! ### exceptions whose context is none -/
structure CalleeN (P : Program) (w : World) (K : PySem.W.Frag) (mg : Str → Option Value) (base : Heap) (x : Str) (k : Nat) (ps : List Str) (sp : Sp) : Prop where
  ex : ∃ f fd, FnOk P w K mg base (L2N.CX P w) k f fd ps sp ∧ Binds K fd ps [] ∧ mg x = some (.ref f) ∧ PySem.W.keepIn K (.ref f) = true
section
variable {P : Program} {w : World} {K : PySem.W.Frag} {mg : Str → Option Value} {base : Heap}
theorem def_okN {x : Str} {st : Stmt} {N ps : List Str} {k : Nat} {sp : Sp} (T : TxtF K mg x st) (S : FnScope N ps (defScope st))
    (hb : ∀ (kV doc pm : Value) (an : Option Addr) (cdv ct : Value) (us : List Value), us.length = ps.length → bindArgs (PySem.W.fnOf x x (defArgs st) (defBody st) (defScope st) .none kV doc pm an cdv ct) ⟨us, []⟩ = pure (ps.zip us))
    (len : ∀ vs H Q E, sp vs H Q E → vs.length = ps.length)
    (body : ∀ (f : Addr) (cdv : Value) (A : Around) (outer : List Env) (s : Shared) (H : Hp) (vs : List V) (Q : VK) (E : XK), Room k (A.deeper (envOfC x (defScope st) s.heap.objs.size f cdv)) → sp vs H Q E →
      WB (cxOf (L2N.CX P w) P w K mg base N x (defScope st) f cdv A outer s H E) (defBody st) { nx := fun _ H' => Q .non H', rt := Q } (start N vs) H) : CalleeN P w K mg base x (k + 1) ps sp := by
  obtain ⟨f, fd, F, g⟩ := T
  exact ⟨f, fd, F.ok S len fun cdv A outer s H vs Q E hr h => ⟨_, WB.pss, body f cdv A outer s H vs Q E hr h⟩, F.bindsN hb, g, F.kp⟩
end
section
variable {X : Cx} {σ : L2.St} {H : Hp} {Q : VK} {D : Ends} {C : Addr} {x : Str} {e : Expr} {es : List Expr} {p cpos pos : Pos}
theorem w_callN {k : Nat} {ps : List Str} {sp : Sp} {E : XK} (C : CalleeN X.prog X.w X.K X.mg X.base x k ps sp) (hr : Room k X.A) (hx : Passes (L2N.CX X.prog X.w) X E) (h : WA X (e :: es) σ H fun vs H1 => sp vs H1 Q E) (hg : Gl X x := by rfl)
    (hdb : (x == ("__debug__" : Str)) = false := by decide) (he : starEach (e :: es) X.env = (false, eval e X.env) :: starEach es X.env := by rfl) (hpl : (backTo pos (starEach es X.env)).any (·.1) = false := by rfl) : W X (.Call (.Name x p) (e :: es) [] pos) σ H Q := by
  obtain ⟨f, fd, F, B, hm, hk⟩ := C.ex
  refine W.of (pe_call F hr hg hm hk B .nil hx WA.pa hdb he hpl) ?_
  show WA X (e :: es) σ H _
  exact WA.mono h fun vs H1 q => by rw [List.append_nil] <;> exact q
/-- X(e), X over ValueError without own __init__ -/
theorem mk_argN (hC : ErrC X.K X.mg x C) (hg : Gl X x := by rfl) (hdb : (x == ("__debug__" : Str)) = false := by decide) (he : starEach [e] X.env = (false, eval e X.env) :: starEach [] X.env := by rfl) :
    L2N.PMk X (.Call (.Name x p) [e] [] cpos) (fun σ H Q => W X e σ H fun v H1 => Q (.ref C) none H1) := by
  intro pins s σ H Q I h
  have ha : WA X [e] σ H fun vs H1 => ∃ v, vs = [v] ∧ Q (.ref C) none H1 := wa_cons (W.mono h fun v H1 q => wa_nil ⟨v, rfl, q⟩) he
  refine wpAny_Call_Name_kw (ld_glob I hg hC.g ?_ hdb)
  refine PySem.W.callWith_K (h₀ := X.base) I.ok.mod.kin hC.k (thn (ha.run cpos pins s I) fun us s1 ⟨vs, H1, I1, r1, v, ev, q⟩ => ⟨I1.kIn, ?_⟩) he rfl
  subst ev
  cases r1 with
  | @cons _ u _ ur ry rn =>
  cases rn
  show wpAny _ _ (call (.ref C) [u]) _ _ _
  obtain ⟨bm, N, nm, qn, bs, hdct, sn, sub, ab, col, dd, k0, k1, k2, k3, k5, mN, eC, eN, hni, T⟩ := exc_obj I1.kIn hC.x
  exact wpAny_call_exc_subT PySem.F.excBase_ValueError T eC eN hni (fun h' e hm => L2N.mk_of I1 hm (raises_own hC.b hC.t) q (I1.hok.gone hm.new)) (by show 1 ≤ sizeLine; rw [sizeLine_eq] <;> omega)
theorem ws_raiseN {Wx : WX} (hC : ErrC X.K X.mg x C) (tk : L2N.Takes X Wx) (h : W X e σ H fun v H1 => Wx (.ref C) none σ H1) (hc : X.calm = true := by rfl) (hg : Gl X x := by rfl) (hdb : (x == ("__debug__" : Str)) = false := by decide)
    (he : starEach [e] X.env = (false, eval e X.env) :: starEach [] X.env := by rfl) : WS X (.Raise (some (.Call (.Name x p) [e] [] cpos)) none pos) D σ H :=
  WS.of (L2N.ps_raise hc tk (mk_argN hC hg hdb he)) h
/-- try: .. except x as n: .. -/
theorem ws_tryN {n : Str} {c : Value} {i : Nat} {body suite : List Stmt} {b0 : Stmt} {np pos' : Pos} {Wout : WX} (hs : X.stack = X.env :: X.outer) (hf : X.env.frame = some X.env.locals) (hN : X.N.Nodup) (hi : X.N[i]? = some n) (hln : X.env.kindOf n = some .local) (hc : Names X x c)
    (tk : L2N.Takes X Wout) (h : ∀ (pn : List (Addr × Obj)) (xe : Value → Shared → Prop), L2N.Takes (X.tr pn xe) (wAs X.K c i (fun a cls d D σ H => ∀ (oe : Obj) (pn : List (Addr × Obj)), L2N.Zn cls d oe → (∃ vs, oe.data = .fields vs) → WB (X.suite a ((a, oe) :: pn)) (b0 :: suite) D σ H) Wout D) →
      PassesOwn (model X.prog X.w) X.A X.env xe → WB (X.tr pn xe) body D σ H) :
    WS X (.Try body [.ExceptHandler (some (.Name x np)) (some n) (b0 :: suite) pos'] [] [] pos) D σ H :=
  WS.of (L2N.ps_try_as (tb := fun W0 D σ H => ∀ (pn : List (Addr × Obj)) (xe : Value → Shared → Prop), L2N.Takes (X.tr pn xe) W0 → PassesOwn (model X.prog X.w) X.A X.env xe → WB (X.tr pn xe) body D σ H) hs hf hN hi hln hc tk
    (fun W0 pn xe tk0 po => ⟨fun pins s σ H D I q => (q pn xe tk0 po).run pins s I⟩) fun a oe cls d pn hz hv => ⟨fun pins s σ H D I q => (q oe pn hz hv).run pins s I⟩) h
end
/-! ### a def that is called with the exception -/
structure CalleeP (P : Program) (w : World) (K : PySem.W.Frag) (mg : Str → Option Value) (base : Heap) (x : Str) (k : Nat) (ps : List Str) (sp : Addr × Obj → Sp) : Prop where
  ex : ∃ f fd, (∀ p vs H Q E, sp p vs H Q E → vs.length = ps.length) ∧ Binds K fd ps [] ∧ mg x = some (.ref f) ∧ PySem.W.keepIn K (.ref f) = true ∧
    ∀ (A : Around) (outer : List Env) (s : Shared) (H : Hp) (args : Args) (us : List Value) (vs : List V) (Q : VK) (E : XK) (p : Addr × Obj), L2H.RoomH k A → L2H.Hot1 A p → L2H.PinOk outer H s p → Env0 P w K mg base A outer s H → BindsTo s fd args (ps.zip us) → Vals vs us → sp p vs H Q E →
      codeAny (model P w) A (.call (.ref f) args) (CR (fun _ _ _ _ _ _ => False) outer P w H s Q E) s
section
variable {P : Program} {w : World} {K : PySem.W.Frag} {mg : Str → Option Value} {base : Heap}
theorem def_okP {x : Str} {st : Stmt} {N ps : List Str} {k : Nat} {sp : Addr × Obj → Sp} (T : TxtF K mg x st) (S : FnScope N ps (defScope st))
    (hb : ∀ (kV doc pm : Value) (an : Option Addr) (cdv ct : Value) (us : List Value), us.length = ps.length → bindArgs (PySem.W.fnOf x x (defArgs st) (defBody st) (defScope st) .none kV doc pm an cdv ct) ⟨us, []⟩ = pure (ps.zip us))
    (len : ∀ p vs H Q E, sp p vs H Q E → vs.length = ps.length)
    (body : ∀ (f : Addr) (cdv : Value) (A : Around) (outer : List Env) (s : Shared) (H : Hp) (vs : List V) (Q : VK) (E : XK) (p : Addr × Obj), L2H.Hot1 A p → L2H.RoomH k (A.deeper (envOfC x (defScope st) s.heap.objs.size f cdv)) → sp p vs H Q E →
      WB (L2H.cxH (fun _ _ _ _ _ _ => False) P w K mg base N x (defScope st) f cdv A outer s H E p) (defBody st) { nx := fun _ H' => Q .non H', rt := Q } (start N vs) H) : CalleeP P w K mg base x (k + 1) ps sp := by
  obtain ⟨f, fd, F, g⟩ := T
  refine ⟨f, fd, len, F.bindsN hb, g, F.kp, ?_⟩
  obtain ⟨oc, od, dV, kV, doc, pm, an, cdv, ct, osl, rfl, lk, hcd, _, _⟩ := F.ex
  intro A outer s H args us vs Q E p hr hot hpin e0 hbd r hsp
  have KX : K.In s.heap := e0.mod.kin.keeps fun b o e => (e0.bs b o e).1
  have lim : s.heap.NoLimit := e0.mod.nolimit.keeps fun b o e => (e0.bs b o e).1
  have kinds : ∀ y ∈ ps.zip us, (defScope st).names.lookup y.1 = some .local ∨ ((defScope st).names.lookup y.1 = some .cell ∧ ((cellsFrom (s.heap.objs.size + 1) (defScope st).names []).lookup y.1).isSome = true) := fun ⟨n, v⟩ hy =>
    (S.par n (List.of_mem_zip hy).1).elim .inl fun q => .inr ⟨q, PySem.W.cellsFrom_some _ _ _ (.inl q)⟩
  refine codeAny_call_function hr.depth (KX _ _ lk) rfl S.co S.gen rfl (PySem.W.codeRec_of KX hcd) (hbd _ _ _ _ (wpAny_newFunctionEnv_cells S.kind kinds fun env he s1 x1 => ?_))
  subst he
  refine ⟨lim.keeps x1.toInCall.keep, codeAny_func ?_⟩
  have J := L2H.inv_startH (CX := fun _ _ _ _ _ _ => False) (E := E) (f := f) (cd := cdv) (A := A) S hpin e0 (len _ _ _ _ _ hsp) r x1
  refine wpAny_mono ((body f cdv A outer s H vs Q E p hot (hr.deeper _) hsp).run [] s1 J) (fun fl s' hs => ?_) fun e s' hs => hs
  cases fl with
  | ret u =>
    obtain ⟨v, σ', H', J', rv, q⟩ := hs
    exact ⟨v, H', J'.os, J'.bare, J'.base, J'.hok, rv, q⟩
  | next =>
    obtain ⟨σ', H', J', q⟩ := hs
    exact ⟨V.non, H', J'.os, J'.bare, J'.base, J'.hok, rfl, q⟩
  | brk =>
    obtain ⟨_, _, _, q⟩ := hs
    exact q.elim
  | cont =>
    obtain ⟨_, _, _, q⟩ := hs
    exact q.elim
end
section
variable {X : Cx} {σ : L2.St} {H : Hp} {Q : VK} {x : Str} {e : Expr} {es : List Expr} {p pos : Pos}
theorem w_callP {k : Nat} {ps : List Str} {sp : Addr × Obj → Sp} {q : Addr × Obj} (C : CalleeP X.prog X.w X.K X.mg X.base x k ps sp) (hr : L2H.RoomH k X.A) (hot : L2H.Hot1 X.A q) (hq : q ∈ X.pn) (h : WA X (e :: es) σ H fun vs H1 => sp q vs H1 Q (fun _ _ _ => False)) (hg : Gl X x := by rfl)
    (hdb : (x == ("__debug__" : Str)) = false := by decide) (he : starEach (e :: es) X.env = (false, eval e X.env) :: starEach es X.env := by rfl) (hpl : (backTo pos (starEach es X.env)).any (·.1) = false := by rfl) : W X (.Call (.Name x p) (e :: es) [] pos) σ H Q := by
  obtain ⟨f, fd, len, B, hm, hk, run⟩ := C.ex
  refine ⟨fun pins s I => wpAny_Call_Name_kw (ld_glob I hg hm ?_ hdb)⟩
  refine PySem.W.callWith_K (h₀ := X.base) I.ok.mod.kin hk (thn (h.run pos pins s I) fun us s1 ⟨vs, H1, I1, r, z⟩ => ⟨I1.kIn, ?_⟩) he hpl
  have hl : us.length = ps.length := by rw [← r.length] <;> exact len _ _ _ _ _ z
  have b := B s1 us I1.kIn (by rw [List.append_nil] <;> exact hl)
  rw [List.append_nil] at b
  have P1 := I1.pin q (List.mem_append_left _ hq)
  have pin : L2H.PinOk X.stack H1 s1 q := ⟨P1.1, P1.2.1, fun hm => (List.mem_cons.mp (I1.stkSub q.1 hm)).elim P1.2.2.1 P1.2.2.2.1, P1.2.2.2.2⟩
  refine wpAny_call (codeAny_mono (run X.A X.stack s1 H1 ⟨us, []⟩ us vs Q _ q hr hot pin I1.env0 b r z) fun r s' hq => ?_)
  cases r with
  | error e => exact hq.elim
  | ok fl =>
    cases fl with
    | ret u => exact I1.after hq
    | next => exact hq.elim
    | brk => exact hq.elim
    | cont => exact hq.elim
/-! ### isinstance of the exception, its fields -/
theorem kv_isE {a Dc : Addr} {oe : Obj} {d : Option Addr} {c : V} {cv : Value} {b : Bool} (C : ExcC X.K Dc) (hp : (a, oe) ∈ X.pn) (hz : Zc (.ref Dc) d oe) (hf : ∃ vs, oe.data = .fields vs) (hd : ∀ dd, d = some dd → ∃ fs, H dd = some (.xd fs)) (hcv : ∀ u, RelV c u → u = cv)
    (e : PySem.W.kitOne X.K (.ref Dc) cv = some b) (q : Q (.bl b) H) : CallV X (.builtin "isinstance") [.ref a, c] H Q := by
  refine ⟨fun xs H' Q' => xs = [.ref a, c] ∧ H' = H ∧ Q' (.bl b) H', ?_, rfl, rfl, q⟩
  intro pins s σ H' xs us Q' I r h
  obtain ⟨rfl, rfl, q2⟩ := h
  cases r with
  | cons rx rr =>
    cases rr with
    | cons rt rr =>
      cases rr
      cases rx
      have ec := hcv _ rt
      subst ec
      obtain ⟨hget, _⟩ := I.pin (a, oe) (List.mem_append_left _ hp)
      obtain ⟨vs, hv⟩ := hf
      obtain ⟨oc, od, oda, osl⟩ := oe
      obtain ⟨h1, h2⟩ := hz
      dsimp only at h1 h2 hv
      subst h1 h2 hv
      have hcl : (PySem.W.clsIn X.K Dc).isSome = true := by
        obtain ⟨cd, hc, _⟩ := PySem.W.any_some C.hd
        rw [hc] <;> rfl
      cases od with
      | none =>
        have J : PySem.W.InstAt s.heap a _ Dc none := ⟨hget, rfl, rfl, trivial⟩
        exact PySem.W.kia_one (PySem.W.kitx_exc hcl C.hg C.hk C.hs C.ha C.hn C.ht C.hm) I.kIn J e (fun z => nomatch z) fun tk => ⟨.bl b, H', I.kept (t' := tk) fun _ _ z => z, rfl, q2⟩
      | some dd =>
        obtain ⟨fs, hdd⟩ := hd dd rfl
        have hx : ObjOk X.prog X.w H' s.heap dd (.xd fs) := I.hok dd _ hdd
        obtain ⟨mA, hns, hr⟩ := hx
        obtain ⟨od, ho, hl⟩ := lookIn_ns hns
        have J : PySem.W.InstAt s.heap a _ Dc (some od) := ⟨hget, rfl, rfl, ho⟩
        exact PySem.W.kia_one (PySem.W.kitx_exc hcl C.hg C.hk C.hs C.ha C.hn C.ht C.hm) I.kIn J e (fun z => nomatch z) fun tk => ⟨.bl b, H', I.kept (t' := tk) fun _ _ z => z, rfl, q2⟩
/-- e.f of the exception that the suite holds -/
theorem w_xf {a C dd : Addr} {oe : Obj} {pn : List (Addr × Obj)} {n : Str} (T : XfC X.K C) (hno : PySem.W.findIn X.K (.ref C) n = some none) (hz : Zc (.ref C) (some dd) oe) (hf : ∃ vs, oe.data = .fields vs)
    (h : W (X.suite a ((a, oe) :: pn)) e σ H fun x H1 => x = .ref a ∧ ∃ fs v, H1 dd = some (.xd fs) ∧ fs.lookup n = some v ∧ Q v H1) (hb : attributeBase e n X.env (eval e X.env) = eval e X.env := by rfl) : W (X.suite a ((a, oe) :: pn)) (.Attribute e n pos) σ H Q :=
  W.of (pe_xf T hno hz hf W.pe hb) (W.mono h fun x H1 ⟨ex, fs, v, h1, h2, q⟩ => ⟨ex, rfl, dd, fs, v, rfl, h1, h2, q⟩)
end
end Ax
end
section
set_option maxHeartbeats 2000000
/-! a list comprehension over a range while an exception is handled -/
namespace Ax
open PySem PySem.Spec PyProof.Rows L2
abbrev blkP (X : Cx) (p : Addr × Obj) (s : Shared) (H : Hp) (scope : Scope) (ce : Env) (fp : List Addr) : Cx := { X.blk s H scope ce fp with pn := [p] }
section
variable {X : Cx} {p : Addr × Obj} {s3 s : Shared} {H3 H : Hp} {scope : Scope} {ce : Env} {fp : List Addr} {σ : L2.St} {pins : List (Addr × Obj)}
theorem blk_pin (J : Inv (X.blk s3 H3 scope ce fp) [] σ H s) (g3 : s3.heap.get? p.1 = some p.2) (n3 : H3 p.1 = none) (nfs : p.1 ∉ frs X.stack) (nfp : p.1 ∉ fp) (nL : p.1 ≠ ce.locals) (nc : ∀ v, p.2.data ≠ .cell v) : Inv (blkP X p s3 H3 scope ce fp) [] σ H s :=
  ⟨⟨J.ok.mod, J.ok.kind, J.ok.glob, J.ok.blt, J.ok.above, J.ok.inj, J.ok.has, J.ok.cab, J.ok.hd, J.ok.frames, J.ok.stk, J.ok.exf, J.ok.bs, J.ok.bsz, J.ok.noex, J.ok.exfs, J.ok.funs, J.ok.frf⟩, J.os, J.bare, J.base, J.loc, J.cell, J.free, J.freeC, fun q hq => by
    have e : q = p := by simpa using (show q ∈ [p] ++ ([] : List (Addr × Obj)) from hq)
    rw [e]
    exact ⟨J.base.keep p.1 p.2 g3 n3 nfs nfp, J.base.free p.1 p.2 g3 n3 nfp, nL, nfs, nc⟩, J.hok, J.len⟩
theorem blk_unpin (J : Inv (blkP X p s3 H3 scope ce fp) pins σ H s) : Inv (X.blk s3 H3 scope ce fp) pins σ H s :=
  ⟨⟨J.ok.mod, J.ok.kind, J.ok.glob, J.ok.blt, J.ok.above, J.ok.inj, J.ok.has, J.ok.cab, J.ok.hd, J.ok.frames, J.ok.stk, J.ok.exf, J.ok.bs, J.ok.bsz, J.ok.noex, J.ok.exfs, J.ok.funs, J.ok.frf⟩, J.os, J.bare, J.base, J.loc, J.cell, J.free, J.freeC,
    fun q hq => J.pin q (List.mem_append_right _ (show q ∈ pins from by simpa using hq)), J.hok, J.len⟩
end
section
variable {X : Cx} {σ : L2.St} {H : Hp} {Q : VK} {elt tg iter : Expr} {ifs : List Expr} {scope : Scope} {own : List (Str × Nat)} {pos : Pos} {wi : TI} {g : TG} {tt : TT} {te : TE}
theorem pe_lcH {p : Addr × Obj} (hot : L2H.Hot1 X.A p) (hp : p ∈ X.pn) (hN : X.N.Nodup) (hi : L2H.PIH X tg iter wi) (ok : BlkOk X.N X.env.scope scope own)
    (hg : ∀ (s : Shared) (H : Hp) (C : Addr) (cl : List (Str × Addr)) (fp : List Addr), PG (X.blk s H scope (compEnvC scope cl C X.env) fp) tg g) (ht : ∀ (s : Shared) (H : Hp) (C : Addr) (cl : List (Str × Addr)) (fp : List Addr), PTs (X.blk s H scope (compEnvC scope cl C X.env) fp) ifs tt)
    (he : ∀ (s : Shared) (H : Hp) (C : Addr) (cl : List (Str × Addr)) (fp : List Addr), PE (X.blk s H scope (compEnvC scope cl C X.env) fp) elt te) (hs : ∀ x, foldedSetIterable iter X.env x = pure x := by intro _; rfl) :
    PE X (.ListComp elt [⟨tg, iter, ifs, 0⟩] scope pos) (tLc wi g tt te (own.map (·.2))) := by
  refine ⟨fun pins s σ H Q I h => ?_⟩
  rw [eval_ListComp]
  have free : ∀ y ∈ scope.names, y.2 = .free → ∃ c, X.env.cells.lookup y.1 = some c := fun y hy e => (ok.free y hy e).elim (fun k => I.ok.has _ (.inl k)) fun k => I.ok.has _ (.inr k)
  refine wpAny_comprehension_free (use := none) rfl hs (closure_ok free) ok.kind (fun y hy e => (ok.uniq y hy).trans (by rw [e])) (thn (hi.run pins s σ H _ I h) fun xv s1 hx => thn hx fun itv s2 h2 => ?_)
  obtain ⟨it, fp, tn, J, H2, e, I2, T, st2, f2, q⟩ := h2
  subst e
  refine wpAny_newObj_type (newEnv_comp ?_) (Nat.zero_le _)
  generalize hD : s2.heap.objs.size = D
  have nD : H2 D = none := I2.hok.fresh (Nat.le_of_eq hD)
  obtain ⟨W, ⟨m0, w0⟩, turn⟩ := q D nD
  generalize hs3 : ({ s2 with heap := s2.heap.push { cls := .type "list", data := .seq ([] : List Value).toArray } } : Shared) = s3
  have h3 : s3.heap = s2.heap.push { cls := .type "list", data := .seq ([] : List Value).toArray } := by rw [← hs3]
  have I3 : Inv X pins σ (upd H2 D (.lst [])) s3 := by
    rw [← hs3]
    exact I2.laid (t' := s2.toks) (fun b o z => Heap.get?_push_of_some _ z) (Nat.le_of_eq hD) ⟨Nat.zero_le _, [], 0, .nil, by rw [← hD] <;> exact Heap.get?_push_size _ rfl⟩
  have sz : ∀ b ∈ fp, b < s2.heap.objs.size := fun b hb => by
    obtain ⟨o, z, _⟩ := T.obj _ _ st2 b hb
    exact Heap.lt_size z
  have f3 : ∀ b ∈ fp, FpOk X pins (upd H2 D (.lst [])) b ∧ b < s3.heap.objs.size := fun b hb =>
    ⟨⟨(upd_ne (by rw [← hD] <;> exact Nat.ne_of_lt (sz b hb))).trans (f2 b hb).1, (f2 b hb).2⟩, by rw [h3, Heap.size_push] <;> exact Nat.lt_succ_of_lt (sz b hb)⟩
  have st3 : tn 0 s3.heap := T.keep _ _ _ st2 fun b _ o z => by rw [h3] <;> exact Heap.get?_push_of_some _ z
  have I4 := block_start I3 ok hN f3
  have P3 := I3.pin p (List.mem_append_left _ hp)
  have pfp : p.1 ∉ fp := fun hb => (f2 p.1 hb).2.2.2.2.2 p (List.mem_append_left _ hp) rfl
  have pfs : p.1 ∉ frs X.stack := fun hm => (List.mem_cons.mp (I3.stkSub p.1 hm)).elim P3.2.2.1 P3.2.2.2.1
  have plt : p.1 < s3.heap.objs.size := Heap.lt_size P3.1
  have pg := hg s3 (upd H2 D (.lst [])) s3.heap.objs.size (cellsFrom (s3.heap.objs.size + 1) scope.names (cloFrom X.env.cells scope.names [])) fp
  have pt := ht s3 (upd H2 D (.lst [])) s3.heap.objs.size (cellsFrom (s3.heap.objs.size + 1) scope.names (cloFrom X.env.cells scope.names [])) fp
  have pe := he s3 (upd H2 D (.lst [])) s3.heap.objs.size (cellsFrom (s3.heap.objs.size + 1) scope.names (cloFrom X.env.cells scope.names [])) fp
  show codeAny _ _ (.compStart (.ListComp elt [⟨tg, iter, ifs, 0⟩] scope pos) 0 (.ref it) (.ref D) (compEnvC scope (cellsFrom (s3.heap.objs.size + 1) scope.names (cloFrom X.env.cells scope.names [])) s3.heap.objs.size X.env)) (compPost (model X.prog X.w) X.A X.xe none (EP X pins σ Q) (.ref D) s3.heap.objs.size)
    { s3 with heap := pushCells (s3.heap.push { cls := .type "dict", data := .dict #[] }) scope.names }
  have nfp : ∀ b ∈ fp, (upd H2 D (.lst [])) b = none := fun b hb => (f3 b hb).1.1
  generalize hce : compEnvC scope (cellsFrom (s3.heap.objs.size + 1) scope.names (cloFrom X.env.cells scope.names [])) s3.heap.objs.size X.env = ce at I4 pg pt pe ⊢
  have cL : ce.locals = s3.heap.objs.size := by subst hce <;> rfl
  generalize hH3 : upd H2 D (.lst []) = H3 at I3 I4 P3 pg pt pe w0 nfp f3
  generalize hs4 : ({ s3 with heap := pushCells (s3.heap.push { cls := .type "dict", data := .dict #[] }) scope.names } : Shared) = s4 at I4 ⊢
  have st4 : tn 0 s4.heap := T.keep _ _ _ st3 fun b _ o z => by rw [← hs4] <;> exact pushCells_keeps _ _ _ _ (Heap.get?_push_of_some _ z)
  have pL : p.1 ≠ ce.locals := by rw [cL] <;> exact Nat.ne_of_lt plt
  have hotB : L2H.HotC (blkP X p s3 H3 scope ce fp) := ⟨p, hot, List.mem_singleton.mpr rfl⟩
  have add : ∀ {σ' : L2.St} {H' : Hp} {s' : Shared}, Inv (X.blk s3 H3 scope ce fp) [] σ' H' s' → Inv (blkP X p s3 H3 scope ce fp) [] σ' H' s' := fun J' => blk_pin J' P3.1 P3.2.1 pfs pfp pL P3.2.2.2.2
  have stat : ∀ {σ' : L2.St} {H' : Hp} {s' : Shared}, Inv (X.blk s3 H3 scope ce fp) [] σ' H' s' → (∀ b ∈ fp, H' b = none) → ∀ b ∈ fp, FpOk (X.blk s3 H3 scope ce fp) [] H' b := fun {σ' H' s'} I' hn b hb =>
    ⟨hn b hb, (I'.ok.exf b hb).1, I'.ok.exfs b hb, .inl hb, fun x c e => (I'.ok.exf b hb).2 x c e, fun r hr => absurd (show r ∈ ([] : List (Addr × Obj)) ++ [] from hr) (by simp)⟩
  have statP : ∀ {σ' : L2.St} {H' : Hp} {s' : Shared}, Inv (X.blk s3 H3 scope ce fp) [] σ' H' s' → (∀ b ∈ fp, H' b = none) → ∀ b ∈ fp, FpOk (blkP X p s3 H3 scope ce fp) [] H' b := fun {σ' H' s'} I' hn b hb =>
    ⟨hn b hb, (I'.ok.exf b hb).1, I'.ok.exfs b hb, .inl hb, fun x c e => (I'.ok.exf b hb).2 x c e, fun r hr z => by
      have e : r = p := by simpa using (show r ∈ [p] ++ ([] : List (Addr × Obj)) from hr)
      rw [e] at z
      exact pfp (z ▸ hb)⟩
  have loop : codeAny (model X.prog X.w) X.A (.compLoop (.ListComp elt [⟨tg, iter, ifs, 0⟩] scope pos) 0 (.ref it) (.ref D) ce) (compPost (model X.prog X.w) X.A X.xe none (EP X pins σ Q) (.ref D) s3.heap.objs.size) s4 := by
    refine compLoop_any (fun n s' => ∃ i H', Inv (X.blk s3 H3 scope ce fp) [] (wipe σ (own.map (·.2))) H' s' ∧ tn i s'.heap ∧ (∀ b ∈ fp, H' b = none) ∧ W i n H') ?_ m0 ⟨0, H3, I4, st4, nfp, w0⟩
    rintro n s5 ⟨i, H5, I5, st5, n5, w5⟩
    rcases turn i n H5 w5 with ⟨stop, qq⟩ | ⟨go, Nx, hNx, step⟩
    · refine thnF (T.done (blkP X p s3 H3 scope ce fp) rfl rfl rfl hotB i [] s5 _ H5 (fun _ _ => False) (add I5) (statP I5 n5) st5 stop) fun r s6 ⟨hr, I6'⟩ => ?_
      subst hr
      have I6 := blk_unpin I6'
      have I7 : Inv X pins σ H5 s6 := I3.call' (ch := fp) I6.os I6.base I6.hok I6.bare fun b hb => ⟨(f3 b hb).1.2.2.2.1, (f3 b hb).1.2.1, (f3 b hb).1.2.2.2.2.1, (f3 b hb).1.2.2.2.2.2⟩
      have nC : H5 s3.heap.objs.size = none := cL ▸ I6.free
      obtain ⟨m, hn, _⟩ := I6.loc
      have hn : s6.heap.Ns s3.heap.objs.size m := cL ▸ hn
      obtain ⟨f0, f1, f2', f3', f4, f5⟩ := I3.fpOk (Nat.le_refl _) nC
      exact ⟨m, hn, fun h'' sb => ⟨.ref D, H5, I7.turned (t' := s6.toks) (fun b o hb z => (sb.2 b hb).trans z) f0 f1 f3' f4 f5, rfl, qq⟩⟩
    · refine thnF (T.item (blkP X p s3 H3 scope ce fp) rfl rfl rfl hotB i [] s5 _ H5 (fun _ _ => False) (add I5) (statP I5 n5) st5 go) fun r s6 ⟨u, hr, h6⟩ => ?_
      subst hr
      refine thnF h6 fun _ s7 ⟨x, H7, I7', r7, y7, st7, n7⟩ => ?_
      have I7 := blk_unpin I7'
      have I7p := I7.pinned (stat I7 n7) (T.obj _ _ st7)
      refine thnF (pg.run _ s7 _ H7 x u _ I7p r7 (step x H7 y7)) fun _ s8 ⟨σ8, H8, I8, hw8, q8⟩ => ?_
      refine thnF (pt.run _ s8 σ8 H8 _ I8 q8) fun b s9 ⟨H9, I9, q9⟩ => ?_
      have fin : ∀ {s' : Shared} {H' : Hp}, Inv (X.blk s3 H3 scope ce fp) ([] ++ pinsAt fp s7.heap) σ8 H' s' → Nx H' → ∃ m, m < n ∧ ∃ i H', Inv (X.blk s3 H3 scope ce fp) [] (wipe σ (own.map (·.2))) H' s' ∧ tn i s'.heap ∧ (∀ b ∈ fp, H' b = none) ∧ W i m H' := fun {s' H'} I' nx => by
        obtain ⟨m', hm, w'⟩ := hNx H' nx
        have pin' : ∀ b ∈ fp, ∀ o, s7.heap.get? b = some o → s'.heap.get? b = some o ∧ H' b = none := fun b hb o z =>
          let y := I'.pin (b, o) (List.mem_append_right _ (List.mem_append_right _ (mem_pinsAt hb z)))
          ⟨y.1, y.2.1⟩
        have hl : (wipe σ (own.map (·.2))).length = σ8.length := by rw [← hw8, wipe_length]
        refine ⟨m', hm, i + 1, H', (I'.unpinned (pins := [])).weak hl (fun j v z => (wipe_some (hw8 ▸ z)).1), T.keep _ _ _ st7 fun b hb o z => (pin' b hb o z).1, fun b hb => ?_, w'⟩
        obtain ⟨o, z, _⟩ := T.obj _ _ st7 b hb
        exact (pin' b hb o z).2
      cases b with
      | false =>
        simp only [Bool.false_eq_true, if_false] at q9 ⊢
        exact fin I9 q9
      | true =>
        simp only [if_true] at q9 ⊢
        exact thnF (pe.run _ s9 σ8 H9 _ I9 q9) fun z s10 ⟨yv, H10, I10, r10, acc, hD10, hz10, nx⟩ => app_ok (X := X.blk s3 H3 scope ce fp) I10 hD10 hz10 r10 fun s11 I11 => fin I11 nx
  exact codeAny_compStart_list loop (T.self X.A 0 _ _ _ st4 loop)
/-- [elt for x in range(n)], each element a value by a function -/
theorem w_lcHF {x : Str} {px p1 p2 : Pos} {a : Expr} {p : Addr × Obj} (i : Nat) (f : Int → V) (hot : L2H.Hot1 X.A p) (hp : p ∈ X.pn) (hm : X.mg "range" = none) (hN : X.N.Nodup) (ok : BlkOk X.N X.env.scope scope [(x, i)]) (hi : X.N[i]? = some x)
    (hloc : ∀ (s : Shared) (H : Hp) (C : Addr) (cl : List (Str × Addr)) (fp : List Addr), Loc (X.blk s H scope (compEnvC scope cl C X.env) fp).env.scope x ∧ ((X.blk s H scope (compEnvC scope cl C X.env) fp).fn x = true ∨ (X.blk s H scope (compEnvC scope cl C X.env) fp).env.scope.names.lookup x = some .local))
    (h : WA X [a] σ H fun vs H1 => ∃ n : Nat, vs = [.int n] ∧ n < 1000 ∧ (∀ k : Nat, k < n → ∀ H2, Same H1 H2 → ∀ (s : Shared) (H : Hp) (C : Addr) (cl : List (Str × Addr)) (fp : List Addr), W (X.blk s H scope (compEnvC scope cl C X.env) fp) elt ((wipe σ [i]).set i (some (.int k))) H2 fun y H3 => Same H2 H3 ∧ y = f k) ∧
      ∀ q H2, Same H1 H2 → H1 q = none → H2 q = some (.lst ((List.range n).map fun (k : Nat) => f (k : Int))) → Q (.ref q) H2)
    (hg : Gl X "range" := by rfl) (hst : starEach [a] X.env = [(false, eval a X.env)] := by rfl) (hs : ∀ x, foldedSetIterable (.Call (.Name "range" p1) [a] [] p2) X.env x = pure x := by intro _; rfl) (hw : (((wipe σ [i]).set i (some V.non)).set i none) = wipe σ [i] := by rfl) :
    W X (.ListComp elt [⟨.Name x px, .Call (.Name "range" p1) [a] [] p2, [], 0⟩] scope pos) σ H Q := by
  refine W.of (pe_lcH (own := [(x, i)]) (g := gName i) (tt := tYes) (te := fun σ2 H2 K => ∀ (s : Shared) (H : Hp) (C : Addr) (cl : List (Str × Addr)) (fp : List Addr), W (X.blk s H scope (compEnvC scope cl C X.env) fp) elt σ2 H2 K) hot hp hN (L2H.pi_range1H (ta := WA X [a]) hg hm WA.pa hst) ok
    (fun s H C cl fp => pg_name hN hi (hloc s H C cl fp).1 (hloc s H C cl fp).2) (fun _ _ _ _ _ => pts_nil) (fun s H C cl fp => ⟨fun pins s' σ' H' Q' I' h' => (h' s H C cl fp).run pins s' I'⟩) hs) ?_
  show WA X [a] σ H _
  refine WA.mono h fun vs H1 ⟨n, ev, hn, hel, hend⟩ => ⟨n, ev, by omega, by omega, fun Dd nD => ?_⟩
  have en : ((n : Nat) : Int).toNat = n := by omega
  rw [en]
  refine lc_it (H1 := H1) (D := Dd) (g := gName i) (tt := tYes) (te := fun σ2 H2 K => ∀ (s : Shared) (H : Hp) (C : Addr) (cl : List (Str × Addr)) (fp : List Addr), W (X.blk s H scope (compEnvC scope cl C X.env) fp) elt σ2 H2 K) (vs := [i]) (σ := σ) (Qd := fun H2 => Q (.ref Dd) H2) walk_range
    (fun j H2 => Same H1 H2 ∧ H2 Dd = some (.lst ((List.range j).map fun (k : Nat) => f (k : Int)))) ⟨same_new nD, upd_same⟩ (fun j H2 _ _ => trivial) ?_ ?_
  · rintro j v H2 H2' hj ⟨s12, hD⟩ ⟨eH, hv⟩
    subst eH
    subst hv
    have hw' : wipe ((wipe σ [i]).set i (some (V.int (0 + (j : Int))))) [i] = wipe σ [i] := by
      have e1 : wipe ((wipe σ [i]).set i (some (V.int (0 + (j : Int))))) [i] = ((wipe σ [i]).set i (some (V.int (0 + (j : Int))))).set i none := rfl
      rw [e1, List.set_set]
      have e2 : ((wipe σ [i]).set i (some V.non)).set i none = wipe σ [i] := hw
      rw [List.set_set] at e2
      exact e2
    refine ⟨hw', ?_⟩
    unfold tYes
    dsimp only
    rw [if_pos rfl]
    intro s H C cl fp
    rw [Int.zero_add]
    refine W.mono (e := elt) (X := X.blk s H scope (compEnvC scope cl C X.env) fp) (hel j hj H2' s12 s H C cl fp) fun y H3 ⟨s23, r⟩ => ?_
    subst r
    refine ⟨_, s23 _ _ hD, by rw [List.length_map, List.length_range, sizeLine_eq] <;> omega, same_upd (s12.trans s23) nD, ?_⟩
    rw [upd_same, List.range_succ, List.map_append] <;> rfl
  · rintro H2 ⟨s12, hD⟩
    exact hend Dd H2 s12 nD hD
end
end Ax
end
section
set_option maxHeartbeats 4000000
namespace Ax
open PySem PySem.Spec PyProof.Rows L2
def top (i : Nat) : Stmt := PySem.Challenge.pw_askable_k00_errors_and_constants.main.body.getD i (.Pass ⟨0, 0, 0, 0⟩)
abbrev s__law_raised : Stmt := top 26
abbrev n__law_raised : List Str := ["at", "text"]
theorem sc__law_raised : FnScope n__law_raised ["at", "text"] (defScope s__law_raised) := ⟨rfl, rfl, rfl, by decide +kernel, rfl, by decide +kernel, by decide +kernel⟩
abbrev s__law_kinds : Stmt := top 27
abbrev n__law_kinds : List Str := ["e", "told"]
theorem sc__law_kinds : FnScope n__law_kinds ["e"] (defScope s__law_kinds) := ⟨rfl, rfl, rfl, by decide +kernel, rfl, by decide +kernel, by decide +kernel⟩
abbrev s__law_plain_right : Stmt := top 28
abbrev n__law_plain_right : List Str := ["at", "text", "e", "told", "spot"]
theorem sc__law_plain_right : FnScope n__law_plain_right ["at", "text"] (defScope s__law_plain_right) := ⟨rfl, rfl, rfl, by decide +kernel, rfl, by decide +kernel, by decide +kernel⟩
abbrev s__law_kept : Stmt := top 29
abbrev n__law_kept : List Str := ["at", "value", "e", "told"]
theorem sc__law_kept : FnScope n__law_kept ["at", "value"] (defScope s__law_kept) := ⟨rfl, rfl, rfl, by decide +kernel, rfl, by decide +kernel, by decide +kernel⟩
abbrev s_law : Stmt := top 30
abbrev n_law : List Str := ["script", "cells", "text", "value", "told", "words", "due", "depth", "number", "cell", "at", "language", "word"]
theorem sc_law : FnScope n_law ["script"] (defScope s_law) := ⟨rfl, rfl, rfl, by decide +kernel, rfl, by decide +kernel, by decide +kernel⟩
def meth (s : Stmt) (j : Nat) : Stmt := match s with
  | .ClassDef _ _ _ b _ _ _ _ _ _ _ => b.getD j (.Pass ⟨0, 0, 0, 0⟩)
  | _ => .Pass ⟨0, 0, 0, 0⟩
abbrev s_InvalidNumber___init__ : Stmt := meth (top 12) 0
abbrev n_InvalidNumber___init__ : List Str := ["self", "value"]
theorem sc_InvalidNumber___init__ : FnScope n_InvalidNumber___init__ ["self", "value"] (defScope s_InvalidNumber___init__) := ⟨rfl, rfl, rfl, by decide +kernel, rfl, by decide +kernel, by decide +kernel⟩
abbrev s_UnknownName___init__ : Stmt := meth (top 13) 0
abbrev n_UnknownName___init__ : List Str := ["self", "name"]
theorem sc_UnknownName___init__ : FnScope n_UnknownName___init__ ["self", "name"] (defScope s_UnknownName___init__) := ⟨rfl, rfl, rfl, by decide +kernel, rfl, by decide +kernel, by decide +kernel⟩
abbrev s_TooMany___init__ : Stmt := meth (top 14) 0
abbrev n_TooMany___init__ : List Str := ["self", "limit"]
theorem sc_TooMany___init__ : FnScope n_TooMany___init__ ["self", "limit"] (defScope s_TooMany___init__) := ⟨rfl, rfl, rfl, by decide +kernel, rfl, by decide +kernel, by decide +kernel⟩
abbrev s_NoQuery___init__ : Stmt := meth (top 15) 0
abbrev n_NoQuery___init__ : List Str := ["self", "keeper"]
theorem sc_NoQuery___init__ : FnScope n_NoQuery___init__ ["self", "keeper"] (defScope s_NoQuery___init__) := ⟨rfl, rfl, rfl, by decide +kernel, rfl, by decide +kernel, by decide +kernel⟩
abbrev s_NothingToUndo___init__ : Stmt := meth (top 16) 0
abbrev n_NothingToUndo___init__ : List Str := ["self", "many"]
theorem sc_NothingToUndo___init__ : FnScope n_NothingToUndo___init__ ["self", "many"] (defScope s_NothingToUndo___init__) := ⟨rfl, rfl, rfl, by decide +kernel, rfl, by decide +kernel, by decide +kernel⟩
def exT (K : PySem.W.Frag) : Bool := He.tupB K "LANGUAGES" [.str "flat one plain", .str "flat one unlike", .str "flat one not", .str "flat many plain", .str "flat many unlike", .str "flat many not", .str "deep one plain", .str "deep one unlike", .str "deep one not", .str "deep many plain", .str "deep many unlike", .str "deep many not"]
/-- what the top has written -/
structure Txt (K : PySem.W.Frag) (mg : Str → Option Value) : Prop where
  f__law_raised : TxtF K mg "_law_raised" s__law_raised
  f__law_kinds : TxtF K mg "_law_kinds" s__law_kinds
  f__law_plain_right : TxtF K mg "_law_plain_right" s__law_plain_right
  f__law_kept : TxtF K mg "_law_kept" s__law_kept
  f_law : TxtF K mg "law" s_law
  c_MAX_COLUMNS : ∃ u, mg "MAX_COLUMNS" = some u ∧ RelV (.int 3) u
  c_MAX_VALUES : ∃ u, mg "MAX_VALUES" = some u ∧ RelV (.int 6) u
  c_MAX_TABLES : ∃ u, mg "MAX_TABLES" = some u ∧ RelV (.int 4) u
  c_MAX_VARIABLES : ∃ u, mg "MAX_VARIABLES" = some u ∧ RelV (.int 16) u
  c_MAX_ATOMS : ∃ u, mg "MAX_ATOMS" = some u ∧ RelV (.int 20000) u
  c_MAX_SEARCH : ∃ u, mg "MAX_SEARCH" = some u ∧ RelV (.int 65536) u
  c_MAX_CASES : ∃ u, mg "MAX_CASES" = some u ∧ RelV (.int 4) u
  c_LANGUAGES : mg "LANGUAGES" = some (.ref (He.ga K "LANGUAGES")) ∧ ∀ H, SqT K H (He.ga K "LANGUAGES") [V.str "flat one plain", V.str "flat one unlike", V.str "flat one not", V.str "flat many plain", V.str "flat many unlike", V.str "flat many not", V.str "deep one plain", V.str "deep one unlike", V.str "deep one not", V.str "deep many plain", V.str "deep many unlike", V.str "deep many not"]
  g_AskError : mg "AskError" = some (.ref (He.ga K "AskError"))
  g_InvalidName : mg "InvalidName" = some (.ref (He.ga K "InvalidName"))
  g_InvalidTable : mg "InvalidTable" = some (.ref (He.ga K "InvalidTable"))
  g_InvalidDatabase : mg "InvalidDatabase" = some (.ref (He.ga K "InvalidDatabase"))
  g_InvalidRule : mg "InvalidRule" = some (.ref (He.ga K "InvalidRule"))
  g_InvalidQuery : mg "InvalidQuery" = some (.ref (He.ga K "InvalidQuery"))
  g_InvalidExamples : mg "InvalidExamples" = some (.ref (He.ga K "InvalidExamples"))
  g_InvalidOperation : mg "InvalidOperation" = some (.ref (He.ga K "InvalidOperation"))
  g_InvalidEdit : mg "InvalidEdit" = some (.ref (He.ga K "InvalidEdit"))
  g_ParseError : mg "ParseError" = some (.ref (He.ga K "ParseError"))
  g_InvalidCommand : mg "InvalidCommand" = some (.ref (He.ga K "InvalidCommand"))
  g_InvalidNumber : mg "InvalidNumber" = some (.ref (He.ga K "InvalidNumber"))
  g_UnknownName : mg "UnknownName" = some (.ref (He.ga K "UnknownName"))
  g_TooMany : mg "TooMany" = some (.ref (He.ga K "TooMany"))
  g_NoQuery : mg "NoQuery" = some (.ref (He.ga K "NoQuery"))
  g_NothingToUndo : mg "NothingToUndo" = some (.ref (He.ga K "NothingToUndo"))
  f_InvalidNumber___init__ : ∃ fd, FunD K "__init__" "InvalidNumber.__init__" (defArgs s_InvalidNumber___init__) (defBody s_InvalidNumber___init__) (defScope s_InvalidNumber___init__) [] [] (He.ma K (He.ga K "InvalidNumber") "__init__") fd
  m_InvalidNumber___init__ : Meth K (He.ga K "InvalidNumber") "__init__" (He.ma K (He.ga K "InvalidNumber") "__init__")
  f_UnknownName___init__ : ∃ fd, FunD K "__init__" "UnknownName.__init__" (defArgs s_UnknownName___init__) (defBody s_UnknownName___init__) (defScope s_UnknownName___init__) [] [] (He.ma K (He.ga K "UnknownName") "__init__") fd
  m_UnknownName___init__ : Meth K (He.ga K "UnknownName") "__init__" (He.ma K (He.ga K "UnknownName") "__init__")
  f_TooMany___init__ : ∃ fd, FunD K "__init__" "TooMany.__init__" (defArgs s_TooMany___init__) (defBody s_TooMany___init__) (defScope s_TooMany___init__) [] [] (He.ma K (He.ga K "TooMany") "__init__") fd
  m_TooMany___init__ : Meth K (He.ga K "TooMany") "__init__" (He.ma K (He.ga K "TooMany") "__init__")
  f_NoQuery___init__ : ∃ fd, FunD K "__init__" "NoQuery.__init__" (defArgs s_NoQuery___init__) (defBody s_NoQuery___init__) (defScope s_NoQuery___init__) [] [] (He.ma K (He.ga K "NoQuery") "__init__") fd
  m_NoQuery___init__ : Meth K (He.ga K "NoQuery") "__init__" (He.ma K (He.ga K "NoQuery") "__init__")
  f_NothingToUndo___init__ : ∃ fd, FunD K "__init__" "NothingToUndo.__init__" (defArgs s_NothingToUndo___init__) (defBody s_NothingToUndo___init__) (defScope s_NothingToUndo___init__) [] [] (He.ma K (He.ga K "NothingToUndo") "__init__") fd
  m_NothingToUndo___init__ : Meth K (He.ga K "NothingToUndo") "__init__" (He.ma K (He.ga K "NothingToUndo") "__init__")
  z_ArithmeticError : mg "ArithmeticError" = none
  z_IndexError : mg "IndexError" = none
  z_KeyError : mg "KeyError" = none
  z_LookupError : mg "LookupError" = none
  z_OverflowError : mg "OverflowError" = none
  z_ValueError : mg "ValueError" = none
  z_int : mg "int" = none
  z_isinstance : mg "isinstance" = none
  z_len : mg "len" = none
  z_range : mg "range" = none
  z_str : mg "str" = none
  e_AskError : ErrC K mg "AskError" (He.ga K "AskError")
  e_InvalidName : ErrC K mg "InvalidName" (He.ga K "InvalidName")
  e_InvalidTable : ErrC K mg "InvalidTable" (He.ga K "InvalidTable")
  e_InvalidDatabase : ErrC K mg "InvalidDatabase" (He.ga K "InvalidDatabase")
  e_InvalidRule : ErrC K mg "InvalidRule" (He.ga K "InvalidRule")
  e_InvalidQuery : ErrC K mg "InvalidQuery" (He.ga K "InvalidQuery")
  e_InvalidExamples : ErrC K mg "InvalidExamples" (He.ga K "InvalidExamples")
  e_InvalidOperation : ErrC K mg "InvalidOperation" (He.ga K "InvalidOperation")
  e_InvalidEdit : ErrC K mg "InvalidEdit" (He.ga K "InvalidEdit")
  e_ParseError : ErrC K mg "ParseError" (He.ga K "ParseError")
  e_InvalidCommand : ErrC K mg "InvalidCommand" (He.ga K "InvalidCommand")
  x_AskError_AskError : PySem.W.exmOne K (.ref (He.ga K "AskError")) (.ref (He.ga K "AskError")) = some true
  x_AskError_InvalidNumber : PySem.W.exmOne K (.ref (He.ga K "AskError")) (.ref (He.ga K "InvalidNumber")) = some false
  x_AskError_NoQuery : PySem.W.exmOne K (.ref (He.ga K "AskError")) (.ref (He.ga K "NoQuery")) = some false
  x_AskError_NothingToUndo : PySem.W.exmOne K (.ref (He.ga K "AskError")) (.ref (He.ga K "NothingToUndo")) = some false
  x_AskError_TooMany : PySem.W.exmOne K (.ref (He.ga K "AskError")) (.ref (He.ga K "TooMany")) = some false
  x_AskError_UnknownName : PySem.W.exmOne K (.ref (He.ga K "AskError")) (.ref (He.ga K "UnknownName")) = some false
  x_InvalidName_AskError : PySem.W.exmOne K (.ref (He.ga K "InvalidName")) (.ref (He.ga K "AskError")) = some true
  x_InvalidName_InvalidNumber : PySem.W.exmOne K (.ref (He.ga K "InvalidName")) (.ref (He.ga K "InvalidNumber")) = some false
  x_InvalidName_NoQuery : PySem.W.exmOne K (.ref (He.ga K "InvalidName")) (.ref (He.ga K "NoQuery")) = some false
  x_InvalidName_NothingToUndo : PySem.W.exmOne K (.ref (He.ga K "InvalidName")) (.ref (He.ga K "NothingToUndo")) = some false
  x_InvalidName_TooMany : PySem.W.exmOne K (.ref (He.ga K "InvalidName")) (.ref (He.ga K "TooMany")) = some false
  x_InvalidName_UnknownName : PySem.W.exmOne K (.ref (He.ga K "InvalidName")) (.ref (He.ga K "UnknownName")) = some false
  x_InvalidTable_AskError : PySem.W.exmOne K (.ref (He.ga K "InvalidTable")) (.ref (He.ga K "AskError")) = some true
  x_InvalidTable_InvalidNumber : PySem.W.exmOne K (.ref (He.ga K "InvalidTable")) (.ref (He.ga K "InvalidNumber")) = some false
  x_InvalidTable_NoQuery : PySem.W.exmOne K (.ref (He.ga K "InvalidTable")) (.ref (He.ga K "NoQuery")) = some false
  x_InvalidTable_NothingToUndo : PySem.W.exmOne K (.ref (He.ga K "InvalidTable")) (.ref (He.ga K "NothingToUndo")) = some false
  x_InvalidTable_TooMany : PySem.W.exmOne K (.ref (He.ga K "InvalidTable")) (.ref (He.ga K "TooMany")) = some false
  x_InvalidTable_UnknownName : PySem.W.exmOne K (.ref (He.ga K "InvalidTable")) (.ref (He.ga K "UnknownName")) = some false
  x_InvalidDatabase_AskError : PySem.W.exmOne K (.ref (He.ga K "InvalidDatabase")) (.ref (He.ga K "AskError")) = some true
  x_InvalidDatabase_InvalidNumber : PySem.W.exmOne K (.ref (He.ga K "InvalidDatabase")) (.ref (He.ga K "InvalidNumber")) = some false
  x_InvalidDatabase_NoQuery : PySem.W.exmOne K (.ref (He.ga K "InvalidDatabase")) (.ref (He.ga K "NoQuery")) = some false
  x_InvalidDatabase_NothingToUndo : PySem.W.exmOne K (.ref (He.ga K "InvalidDatabase")) (.ref (He.ga K "NothingToUndo")) = some false
  x_InvalidDatabase_TooMany : PySem.W.exmOne K (.ref (He.ga K "InvalidDatabase")) (.ref (He.ga K "TooMany")) = some false
  x_InvalidDatabase_UnknownName : PySem.W.exmOne K (.ref (He.ga K "InvalidDatabase")) (.ref (He.ga K "UnknownName")) = some false
  x_InvalidRule_AskError : PySem.W.exmOne K (.ref (He.ga K "InvalidRule")) (.ref (He.ga K "AskError")) = some true
  x_InvalidRule_InvalidNumber : PySem.W.exmOne K (.ref (He.ga K "InvalidRule")) (.ref (He.ga K "InvalidNumber")) = some false
  x_InvalidRule_NoQuery : PySem.W.exmOne K (.ref (He.ga K "InvalidRule")) (.ref (He.ga K "NoQuery")) = some false
  x_InvalidRule_NothingToUndo : PySem.W.exmOne K (.ref (He.ga K "InvalidRule")) (.ref (He.ga K "NothingToUndo")) = some false
  x_InvalidRule_TooMany : PySem.W.exmOne K (.ref (He.ga K "InvalidRule")) (.ref (He.ga K "TooMany")) = some false
  x_InvalidRule_UnknownName : PySem.W.exmOne K (.ref (He.ga K "InvalidRule")) (.ref (He.ga K "UnknownName")) = some false
  x_InvalidQuery_AskError : PySem.W.exmOne K (.ref (He.ga K "InvalidQuery")) (.ref (He.ga K "AskError")) = some true
  x_InvalidQuery_InvalidNumber : PySem.W.exmOne K (.ref (He.ga K "InvalidQuery")) (.ref (He.ga K "InvalidNumber")) = some false
  x_InvalidQuery_NoQuery : PySem.W.exmOne K (.ref (He.ga K "InvalidQuery")) (.ref (He.ga K "NoQuery")) = some false
  x_InvalidQuery_NothingToUndo : PySem.W.exmOne K (.ref (He.ga K "InvalidQuery")) (.ref (He.ga K "NothingToUndo")) = some false
  x_InvalidQuery_TooMany : PySem.W.exmOne K (.ref (He.ga K "InvalidQuery")) (.ref (He.ga K "TooMany")) = some false
  x_InvalidQuery_UnknownName : PySem.W.exmOne K (.ref (He.ga K "InvalidQuery")) (.ref (He.ga K "UnknownName")) = some false
  x_InvalidExamples_AskError : PySem.W.exmOne K (.ref (He.ga K "InvalidExamples")) (.ref (He.ga K "AskError")) = some true
  x_InvalidExamples_InvalidNumber : PySem.W.exmOne K (.ref (He.ga K "InvalidExamples")) (.ref (He.ga K "InvalidNumber")) = some false
  x_InvalidExamples_NoQuery : PySem.W.exmOne K (.ref (He.ga K "InvalidExamples")) (.ref (He.ga K "NoQuery")) = some false
  x_InvalidExamples_NothingToUndo : PySem.W.exmOne K (.ref (He.ga K "InvalidExamples")) (.ref (He.ga K "NothingToUndo")) = some false
  x_InvalidExamples_TooMany : PySem.W.exmOne K (.ref (He.ga K "InvalidExamples")) (.ref (He.ga K "TooMany")) = some false
  x_InvalidExamples_UnknownName : PySem.W.exmOne K (.ref (He.ga K "InvalidExamples")) (.ref (He.ga K "UnknownName")) = some false
  x_InvalidOperation_AskError : PySem.W.exmOne K (.ref (He.ga K "InvalidOperation")) (.ref (He.ga K "AskError")) = some true
  x_InvalidOperation_InvalidNumber : PySem.W.exmOne K (.ref (He.ga K "InvalidOperation")) (.ref (He.ga K "InvalidNumber")) = some false
  x_InvalidOperation_NoQuery : PySem.W.exmOne K (.ref (He.ga K "InvalidOperation")) (.ref (He.ga K "NoQuery")) = some false
  x_InvalidOperation_NothingToUndo : PySem.W.exmOne K (.ref (He.ga K "InvalidOperation")) (.ref (He.ga K "NothingToUndo")) = some false
  x_InvalidOperation_TooMany : PySem.W.exmOne K (.ref (He.ga K "InvalidOperation")) (.ref (He.ga K "TooMany")) = some false
  x_InvalidOperation_UnknownName : PySem.W.exmOne K (.ref (He.ga K "InvalidOperation")) (.ref (He.ga K "UnknownName")) = some false
  x_InvalidEdit_AskError : PySem.W.exmOne K (.ref (He.ga K "InvalidEdit")) (.ref (He.ga K "AskError")) = some true
  x_InvalidEdit_InvalidNumber : PySem.W.exmOne K (.ref (He.ga K "InvalidEdit")) (.ref (He.ga K "InvalidNumber")) = some false
  x_InvalidEdit_NoQuery : PySem.W.exmOne K (.ref (He.ga K "InvalidEdit")) (.ref (He.ga K "NoQuery")) = some false
  x_InvalidEdit_NothingToUndo : PySem.W.exmOne K (.ref (He.ga K "InvalidEdit")) (.ref (He.ga K "NothingToUndo")) = some false
  x_InvalidEdit_TooMany : PySem.W.exmOne K (.ref (He.ga K "InvalidEdit")) (.ref (He.ga K "TooMany")) = some false
  x_InvalidEdit_UnknownName : PySem.W.exmOne K (.ref (He.ga K "InvalidEdit")) (.ref (He.ga K "UnknownName")) = some false
  x_ParseError_AskError : PySem.W.exmOne K (.ref (He.ga K "ParseError")) (.ref (He.ga K "AskError")) = some true
  x_ParseError_InvalidNumber : PySem.W.exmOne K (.ref (He.ga K "ParseError")) (.ref (He.ga K "InvalidNumber")) = some false
  x_ParseError_NoQuery : PySem.W.exmOne K (.ref (He.ga K "ParseError")) (.ref (He.ga K "NoQuery")) = some false
  x_ParseError_NothingToUndo : PySem.W.exmOne K (.ref (He.ga K "ParseError")) (.ref (He.ga K "NothingToUndo")) = some false
  x_ParseError_TooMany : PySem.W.exmOne K (.ref (He.ga K "ParseError")) (.ref (He.ga K "TooMany")) = some false
  x_ParseError_UnknownName : PySem.W.exmOne K (.ref (He.ga K "ParseError")) (.ref (He.ga K "UnknownName")) = some false
  x_InvalidCommand_AskError : PySem.W.exmOne K (.ref (He.ga K "InvalidCommand")) (.ref (He.ga K "AskError")) = some true
  x_InvalidCommand_InvalidNumber : PySem.W.exmOne K (.ref (He.ga K "InvalidCommand")) (.ref (He.ga K "InvalidNumber")) = some false
  x_InvalidCommand_NoQuery : PySem.W.exmOne K (.ref (He.ga K "InvalidCommand")) (.ref (He.ga K "NoQuery")) = some false
  x_InvalidCommand_NothingToUndo : PySem.W.exmOne K (.ref (He.ga K "InvalidCommand")) (.ref (He.ga K "NothingToUndo")) = some false
  x_InvalidCommand_TooMany : PySem.W.exmOne K (.ref (He.ga K "InvalidCommand")) (.ref (He.ga K "TooMany")) = some false
  x_InvalidCommand_UnknownName : PySem.W.exmOne K (.ref (He.ga K "InvalidCommand")) (.ref (He.ga K "UnknownName")) = some false
end Ax
namespace Ax
open PySem PySem.Spec PyProof.Rows L2
/-- the plain errors, by the number that raises them -/
def plainL : List PySem.Str := ["InvalidName", "InvalidTable", "InvalidDatabase", "InvalidRule", "InvalidQuery", "InvalidExamples", "InvalidOperation", "InvalidEdit", "ParseError", "InvalidCommand", "AskError"]
def pc (K : PySem.W.Frag) (i : Nat) : Addr := He.ga K (plainL.getD i "AskError")
/-- the errors that keep a value: name, field, base's maker, base's mro, a base with the answer of isinstance -/
def keepL : List (PySem.Str × PySem.Str × String × List Value) :=
  [("InvalidNumber", "value", "IndexError.__new__", [.type "IndexError", .type "LookupError", .type "Exception", .type "BaseException", .type "object"]), ("UnknownName", "name", "LookupError.__new__", keyMro),
   ("TooMany", "limit", "OverflowError.__new__", [.type "OverflowError", .type "ArithmeticError", .type "Exception", .type "BaseException", .type "object"]),
   ("NoQuery", "keeper", "ArithmeticError.__new__", [.type "ArithmeticError", .type "Exception", .type "BaseException", .type "object"]),
   ("NothingToUndo", "many", "LookupError.__new__", [.type "LookupError", .type "Exception", .type "BaseException", .type "object"])]
def isL : List (PySem.Str × String × Bool) := [("InvalidNumber", "IndexError", true), ("UnknownName", "KeyError", true), ("TooMany", "OverflowError", true), ("NoQuery", "ArithmeticError", true), ("NoQuery", "OverflowError", false),
  ("NothingToUndo", "LookupError", true), ("NothingToUndo", "IndexError", false), ("NothingToUndo", "KeyError", false)]
def excB (K : PySem.W.Frag) (D : Addr) : Bool := decide (PySem.W.findIn K (.ref D) "__getattribute__" = some (some (.builtin "BaseException.__getattribute__"))) && (decide (PySem.W.findIn K (.ref D) "__getattr__" = some none) &&
  (decide (PySem.W.subIn K (.ref D) (.type "BaseException") = some true) && (PySem.W.hasDictIn K D && (decide (PySem.W.findIn K (.ref D) "__class__" = some (some (.builtin "object.__class__"))) &&
  (decide (PySem.W.specialIn K (.builtin "object.__class__") "__get__" = some (some (.builtin "getset_descriptor.__get__"))) && (decide (PySem.W.takesIn K (.builtin "object.__class__") = some true) && decide (PySem.W.mroIn K D (.type "object") = some true)))))))
theorem excB_ok {K : PySem.W.Frag} {D : Addr} (h : excB K D = true) : ExcC K D := by
  unfold excB at h
  simp only [Bool.and_eq_true, decide_eq_true_eq] at h
  obtain ⟨h1, h2, h3, h4, h5, h6, h7, h8⟩ := h
  exact ⟨h1, h2, h3, h4, h5, h6, h7, h8⟩
def kitB2 (K : PySem.W.Frag) (C : Addr) (v : Value) (b : Bool) : Bool := decide (PySem.W.kitOne K (.ref C) v = some b)
def exmB (K : PySem.W.Frag) (C D : Addr) (b : Bool) : Bool := decide (PySem.W.exmOne K (.ref C) (.ref D) = some b)
def exU1 (K : PySem.W.Frag) : Bool := (List.range 11).all fun i => excB K (pc K i) && (exmB K (pc K i) (He.ga K "AskError") true && (kitB2 K (pc K i) (.type "ValueError") true && (kitB2 K (pc K i) (.type "LookupError") false && (kitB2 K (pc K i) (.type "ArithmeticError") false &&
  (List.range 10).all fun j => kitB2 K (pc K i) (.ref (pc K j)) (decide (i = j))))))
def exU2 (K : PySem.W.Frag) : Bool := keepL.all fun p => oxB K (He.ga K p.1) p.2.2.2 p.2.2.1 p.2.1 && (excB K (He.ga K p.1) && (xfB K (He.ga K p.1) && (decide (PySem.W.findIn K (.ref (He.ga K p.1)) p.2.1 = some none) && (exmB K (He.ga K p.1) (He.ga K "AskError") false &&
  keepL.all fun r => exmB K (He.ga K p.1) (He.ga K r.1) (decide (p.1 = r.1))))))
def exU3 (K : PySem.W.Frag) : Bool := isL.all fun p => kitB2 K (He.ga K p.1) (.type p.2.1) p.2.2
def exU (K : PySem.W.Frag) : Bool := exU1 K && (exU2 K && exU3 K)
structure Keep (K : PySem.W.Frag) (x f : PySem.Str) (N : String) (bm : List Value) : Prop where
  ox : OxC K (He.ga K x) bm N f
  ec : ExcC K (He.ga K x)
  xf : XfC K (He.ga K x)
  no : PySem.W.findIn K (.ref (He.ga K x)) f = some none
  ask : PySem.W.exmOne K (.ref (He.ga K x)) (.ref (He.ga K "AskError")) = some false
  exm : ∀ r ∈ keepL, PySem.W.exmOne K (.ref (He.ga K x)) (.ref (He.ga K r.1)) = some (decide (x = r.1))
structure TxtU (K : PySem.W.Frag) : Prop where
  p_ec : ∀ i, i < 11 → ExcC K (pc K i)
  p_ask : ∀ i, i < 11 → PySem.W.exmOne K (.ref (pc K i)) (.ref (He.ga K "AskError")) = some true
  p_v : ∀ i, i < 11 → PySem.W.kitOne K (.ref (pc K i)) (.type "ValueError") = some true
  p_l : ∀ i, i < 11 → PySem.W.kitOne K (.ref (pc K i)) (.type "LookupError") = some false
  p_a : ∀ i, i < 11 → PySem.W.kitOne K (.ref (pc K i)) (.type "ArithmeticError") = some false
  p_k : ∀ i, i < 11 → ∀ j, j < 10 → PySem.W.kitOne K (.ref (pc K i)) (.ref (pc K j)) = some (decide (i = j))
  k : ∀ p ∈ keepL, Keep K p.1 p.2.1 p.2.2.1 p.2.2.2
  i : ∀ p ∈ isL, PySem.W.kitOne K (.ref (He.ga K p.1)) (.type p.2.1) = some p.2.2
theorem txtU_of {K : PySem.W.Frag} (h : exU K = true) : TxtU K := by
  obtain ⟨h1, h⟩ := Bool.and_eq_true_iff.mp h
  obtain ⟨h2, h3⟩ := Bool.and_eq_true_iff.mp h
  have q1 : ∀ i, i < 11 → _ := fun i hi => List.all_eq_true.mp h1 i (List.mem_range.mpr hi)
  simp only [Bool.and_eq_true, exmB, kitB2, decide_eq_true_eq, List.all_eq_true, List.mem_range] at q1
  have q2 := List.all_eq_true.mp h2
  simp only [Bool.and_eq_true, exmB, decide_eq_true_eq, List.all_eq_true] at q2
  have q3 := List.all_eq_true.mp h3
  simp only [kitB2, decide_eq_true_eq] at q3
  refine ⟨fun i hi => excB_ok (q1 i hi).1, fun i hi => (q1 i hi).2.1, fun i hi => (q1 i hi).2.2.1, fun i hi => (q1 i hi).2.2.2.1, fun i hi => (q1 i hi).2.2.2.2.1, fun i hi j hj => (q1 i hi).2.2.2.2.2 j hj, fun p hp => ?_, q3⟩
  obtain ⟨a1, a2, a3, a4, a5, a6⟩ := q2 p hp
  exact ⟨oxB_ok a1, excB_ok a2, xfB_ok a3, a4, a5, a6⟩
end Ax
end
section
set_option maxHeartbeats 4000000
open PySem PySem.Spec PyProof.Rows L2 Ax
set_option hygiene false in
local macro_rules | `(tactic| tbr_iter "boot") => `(tactic| with_reducible first | exact Ax.b_len | exact Ax.b_all | exact Ax.b_any | exact Ax.b_sorted | exact Ax.b_isinstance | exact Ax.b_abs | exact Ax.b_max | exact Ax.b_min | exact Ax.b_sum | exact Ax.b_repr | exact Ax.b_iter | exact Ax.b_ord | exact Ax.b_chr | exact Ax.b_str | exact Ax.b_int | exact Ax.b_bool | exact Ax.b_tuple | exact Ax.b_list | exact Ax.b_dict | exact Ax.b_set | exact Ax.b_range | exact Ax.b_enumerate | exact Ax.b_zip)
set_option hygiene false in
local macro_rules | `(tactic| tbr_iter "vis") => `(tactic| first | exact Or.inl rfl | exact Or.inr (Or.inl rfl) | exact Or.inr (Or.inr rfl))
set_option hygiene false in
local macro_rules | `(tactic| tbr_iter "w") => `(tactic| first
  | refine wb_cons ?_
  | refine wb_nil ?_
  | refine ws_ret ?_
  | refine ws_if ?_
  | refine ws_sub ?_
  | refine wa_cons ?_
  | refine wa_nil ?_
  | refine w_int ?_
  | refine w_str ?_
  | refine w_bl ?_
  | refine w_non ?_
  | tbr_iter "var"
  | refine w_bin ?_
  | refine w_cmp ?_
  | refine w_chain ?_
  | refine w_and ?_
  | refine w_or ?_
  | refine w_one ?_
  | refine w_not ?_
  | refine w_ix ?_
  | refine w_ifExp ?_
  | refine w_tup ?_
  | refine w_lst ?_
  | refine wt_not ?_
  | refine wt_bool ?_
  | refine ww_and ?_
  | refine ww_and1 ?_
  | refine ww_or ?_
  | refine ww_or1 ?_
  | refine wt_cmp ?_
  | refine wt_val ?_
  | tbr_iter "call"
  | (refine w_glob (by tbr_iter "mg") ?_)
  | (refine w_callB (by tbr_iter "z") ?_)
  | (refine w_callTy (by tbr_iter "z") ?_)
  | (refine w_bltT (by tbr_iter "z") ?_))
set_option hygiene false in
local macro_rules | `(tactic| tbr_iter "blk") => `(tactic| first | exact blkOk_by (by dsimp only [cxOf, envOfC]; decide +kernel))
set_option hygiene false in
local macro_rules | `(tactic| tbr_iter "iff") => `(tactic| first
  | refine iteT ?_
  | refine iteF ?_
  | refine w_if2 (fun _ => ?_) (fun _ => ?_))
set_option hygiene false in
local macro_rules | `(tactic| tbr_iter "sc") => `(tactic| first | omega | decide)
set_option hygiene false in
local macro_rules | `(tactic| tbr_iter "at") => `(tactic| first | exact atI_0 | exact atI_1 | exact atI_2)
set_option hygiene false in
local macro_rules | `(tactic| tbr_iter "sql") => `(tactic| ((try dsimp only [L2.cxOf, L2.Cx.blk]); with_reducible first | assumption | exact SqL.of (by assumption)))
set_option hygiene false in
local macro_rules | `(tactic| tbr_iter "sqt") => `(tactic| ((try dsimp only [L2.cxOf, L2.Cx.blk]); with_reducible first | assumption | exact SqT.of (by assumption)))
set_option hygiene false in
local macro_rules | `(tactic| tbr_iter "v") => `(tactic| first
  | refine bv_add ?_
  | refine bv_sub ?_
  | ((with_reducible show BinV _ .Mult _ _ _ _); refine bv_mul (Or.inl ⟨by tbr_iter "sc", by tbr_iter "sc"⟩) ?_)
  | ((with_reducible show BinV _ .Mult _ _ _ _); refine bv_mul (Or.inr ⟨by tbr_iter "sc", by tbr_iter "sc"⟩) ?_)
  | ((with_reducible show BinV _ .Mod _ _ _ _); refine bv_mod (by tbr_iter "sc") ?_)
  | ((with_reducible show BinV _ .FloorDiv _ _ _ _); refine bv_fdiv ⟨by tbr_iter "sc", by tbr_iter "sc"⟩ ?_)
  | ((with_reducible show BinV _ .Pow _ _ _ _); refine bv_pow ⟨by decide, by decide +kernel⟩ ?_)
  | refine cv_lt ?_
  | refine cv_le ?_
  | refine cv_gt ?_
  | refine cv_ge ?_
  | ((with_reducible show CmpV _ .Eq _ _ _ _); refine cv_eq rfl ?_)
  | ((with_reducible show CmpV _ .NotEq _ _ _ _); refine cv_ne rfl ?_)
  | refine iv_list (by tbr_iter "sql") (by tbr_iter "at") ?_
  | refine iv_tup (by tbr_iter "sqt") (by tbr_iter "at") ?_
  | refine kv_len_seq (Or.inl (by tbr_iter "sql")) ?_
  | refine kv_len_seq (Or.inr (by tbr_iter "sqt")) ?_
  | refine kv_int ?_
  | refine kv_intB ?_
  | refine kv_abs ?_
  | refine kv_max2 rfl ?_
  | refine kv_min2 rfl ?_)
set_option hygiene false in
local macro_rules | `(tactic| tbr_iter "b") => `(tactic| first
  | refine ⟨_, rfl, iteT ?_⟩
  | refine ⟨_, rfl, iteF ?_⟩
  | refine iteT ?_
  | refine iteF ?_)
set_option hygiene false in
local macro_rules | `(tactic| tbr_iter "go") => `(tactic| repeat (first | tbr_iter "w" | tbr_iter "v" | tbr_iter "b"))
set_option hygiene false in
local macro_rules | `(tactic| tbr_iter "nof") => `(tactic| (intro d hd; cases d <;> first | rfl | exact absurd rfl (hd _)))
set_option hygiene false in
local macro_rules | `(tactic| tbr_iter "e1") => `(tactic| first | ((with_reducible show W _ _ _ _ _); tbr_iter "w") | ((with_reducible show WA _ _ _ _ _); tbr_iter "w") | ((with_reducible show WT _ _ _ _ _); tbr_iter "w") | ((with_reducible show WW _ _ _ _ _); tbr_iter "w") | tbr_iter "v")
set_option hygiene false in
local macro_rules | `(tactic| tbr_iter "ex") => `(tactic| repeat (tbr_iter "e1"))
set_option hygiene false in
local macro_rules | `(tactic| tbr_iter "z") => `(tactic| ((try dsimp only [L2.cxOf]); with_reducible first | exact T.z_ArithmeticError | exact T.z_IndexError | exact T.z_KeyError | exact T.z_LookupError | exact T.z_OverflowError | exact T.z_ValueError | exact T.z_int | exact T.z_isinstance | exact T.z_len | exact T.z_range | exact T.z_str))
set_option hygiene false in
local macro_rules | `(tactic| tbr_iter "mg") => `(tactic| ((try dsimp only [L2.cxOf]); with_reducible first | exact T.c_MAX_COLUMNS | exact T.c_MAX_VALUES | exact T.c_MAX_TABLES | exact T.c_MAX_VARIABLES | exact T.c_MAX_ATOMS | exact T.c_MAX_SEARCH | exact T.c_MAX_CASES))
namespace Ax
section
variable {P : Program} {w : World} {K : PySem.W.Frag} {mg : Str → Option Value} {base : Heap}
theorem meth_ok {x q : Str} {st : Stmt} {N ps : List Str} {k : Nat} {sp : Sp} {f : Addr} (T : ∃ fd, FunD K x q (defArgs st) (defBody st) (defScope st) [] [] f fd) (S : FnScope N ps (defScope st))
    (hb : ∀ (kV doc pm : Value) (an : Option Addr) (cdv ct : Value) (us : List Value), us.length = ps.length → bindArgs (PySem.W.fnOf x q (defArgs st) (defBody st) (defScope st) .none kV doc pm an cdv ct) ⟨us, []⟩ = pure (ps.zip us))
    (len : ∀ vs H Q E, sp vs H Q E → vs.length = ps.length)
    (body : ∀ (cdv : Value) (A : Around) (outer : List Env) (s : Shared) (H : Hp) (vs : List V) (Q : VK) (E : XK), Room k (A.deeper (envOfC q (defScope st) s.heap.objs.size f cdv)) → sp vs H Q E →
      WB (cxOf (L2.CX P w) P w K mg base N q (defScope st) f cdv A outer s H E) (defBody st) { nx := fun _ H' => Q .non H', rt := Q } (start N vs) H) : ∃ fd, FnOk P w K mg base (L2.CX P w) (k + 1) f fd ps sp ∧ Binds K fd ps [] := by
  obtain ⟨fd, F⟩ := T
  exact ⟨fd, F.ok S len fun cdv A outer s H vs Q E hr h => ⟨_, WB.pss, body cdv A outer s H vs Q E hr h⟩, F.bindsN hb⟩
set_option hygiene false in
local macro_rules | `(tactic| tbr_iter "oinit") => `(tactic| (
  obtain ⟨a, y, rfl, ea, q⟩ := h
  refine wb_cons (ws_expr (w_binit kb kc kz kv (wa_cons (w_var 0 rfl (Or.inl rfl) rfl (wa_cons (w_str (wa_nil ⟨a, [_], rfl, by decide, ea, ?_⟩)) rfl)) rfl)))
  refine wb_cons (ws_oxset kb kc (w_var 1 rfl (Or.inl rfl) rfl (w_var 0 rfl (Or.inl rfl) rfl ⟨a, rfl, ea, fun dx n ne => wb_nil (q dx n ne)⟩)))))
theorem ok_Number (T : Txt K mg) (U : TxtU K) : OxOk P w K mg base "InvalidNumber" (He.ga K "InvalidNumber") "IndexError" "IndexError.__new__" "IndexError.__init__" [.type "IndexError", .type "LookupError", .type "Exception", .type "BaseException", .type "object"] "value" := by
  have kb := xb_Index
  have kc := (U.k _ (List.mem_of_getElem? (i := 0) rfl)).ox
  have kz := T.z_IndexError
  have kv : bootBuiltins (Str.ofString "IndexError") = some (.type "IndexError") := by decide +kernel
  obtain ⟨fd, F, B⟩ := meth_ok (P := P) (w := w) (mg := mg) (base := base) (k := 0) (sp := spOx (He.ga K "InvalidNumber") "value") T.f_InvalidNumber___init__ sc_InvalidNumber___init__ (fun _ _ _ _ _ _ us hl => match us, hl with | [_, _], _ => rfl) (fun vs H Q E h => by obtain ⟨a, y, rfl, _⟩ := h; rfl)
    fun cdv A outer s H vs Q E hr h => by tbr_iter "oinit"
  exact ⟨kb, kc, T.g_InvalidNumber, _, fd, F, B, T.m_InvalidNumber___init__.at_, beq_iff_eq.mp T.m_InvalidNumber___init__.fn⟩
theorem ok_Name (T : Txt K mg) (U : TxtU K) : OxOk P w K mg base "UnknownName" (He.ga K "UnknownName") "KeyError" "LookupError.__new__" "KeyError.__init__" keyMro "name" := by
  have kb := xb_Key
  have kc := (U.k _ (List.mem_of_getElem? (i := 1) rfl)).ox
  have kz := T.z_KeyError
  have kv : bootBuiltins (Str.ofString "KeyError") = some (.type "KeyError") := by decide +kernel
  obtain ⟨fd, F, B⟩ := meth_ok (P := P) (w := w) (mg := mg) (base := base) (k := 0) (sp := spOx (He.ga K "UnknownName") "name") T.f_UnknownName___init__ sc_UnknownName___init__ (fun _ _ _ _ _ _ us hl => match us, hl with | [_, _], _ => rfl) (fun vs H Q E h => by obtain ⟨a, y, rfl, _⟩ := h; rfl)
    fun cdv A outer s H vs Q E hr h => by tbr_iter "oinit"
  exact ⟨kb, kc, T.g_UnknownName, _, fd, F, B, T.m_UnknownName___init__.at_, beq_iff_eq.mp T.m_UnknownName___init__.fn⟩
theorem ok_Many (T : Txt K mg) (U : TxtU K) : OxOk P w K mg base "TooMany" (He.ga K "TooMany") "OverflowError" "OverflowError.__new__" "OverflowError.__init__" [.type "OverflowError", .type "ArithmeticError", .type "Exception", .type "BaseException", .type "object"] "limit" := by
  have kb := xb_Over
  have kc := (U.k _ (List.mem_of_getElem? (i := 2) rfl)).ox
  have kz := T.z_OverflowError
  have kv : bootBuiltins (Str.ofString "OverflowError") = some (.type "OverflowError") := by decide +kernel
  obtain ⟨fd, F, B⟩ := meth_ok (P := P) (w := w) (mg := mg) (base := base) (k := 0) (sp := spOx (He.ga K "TooMany") "limit") T.f_TooMany___init__ sc_TooMany___init__ (fun _ _ _ _ _ _ us hl => match us, hl with | [_, _], _ => rfl) (fun vs H Q E h => by obtain ⟨a, y, rfl, _⟩ := h; rfl)
    fun cdv A outer s H vs Q E hr h => by tbr_iter "oinit"
  exact ⟨kb, kc, T.g_TooMany, _, fd, F, B, T.m_TooMany___init__.at_, beq_iff_eq.mp T.m_TooMany___init__.fn⟩
theorem ok_Query (T : Txt K mg) (U : TxtU K) : OxOk P w K mg base "NoQuery" (He.ga K "NoQuery") "ArithmeticError" "ArithmeticError.__new__" "ArithmeticError.__init__" [.type "ArithmeticError", .type "Exception", .type "BaseException", .type "object"] "keeper" := by
  have kb := xb_Arith
  have kc := (U.k _ (List.mem_of_getElem? (i := 3) rfl)).ox
  have kz := T.z_ArithmeticError
  have kv : bootBuiltins (Str.ofString "ArithmeticError") = some (.type "ArithmeticError") := by decide +kernel
  obtain ⟨fd, F, B⟩ := meth_ok (P := P) (w := w) (mg := mg) (base := base) (k := 0) (sp := spOx (He.ga K "NoQuery") "keeper") T.f_NoQuery___init__ sc_NoQuery___init__ (fun _ _ _ _ _ _ us hl => match us, hl with | [_, _], _ => rfl) (fun vs H Q E h => by obtain ⟨a, y, rfl, _⟩ := h; rfl)
    fun cdv A outer s H vs Q E hr h => by tbr_iter "oinit"
  exact ⟨kb, kc, T.g_NoQuery, _, fd, F, B, T.m_NoQuery___init__.at_, beq_iff_eq.mp T.m_NoQuery___init__.fn⟩
theorem ok_Undo (T : Txt K mg) (U : TxtU K) : OxOk P w K mg base "NothingToUndo" (He.ga K "NothingToUndo") "LookupError" "LookupError.__new__" "LookupError.__init__" [.type "LookupError", .type "Exception", .type "BaseException", .type "object"] "many" := by
  have kb := xb_Look
  have kc := (U.k _ (List.mem_of_getElem? (i := 4) rfl)).ox
  have kz := T.z_LookupError
  have kv : bootBuiltins (Str.ofString "LookupError") = some (.type "LookupError") := by decide +kernel
  obtain ⟨fd, F, B⟩ := meth_ok (P := P) (w := w) (mg := mg) (base := base) (k := 0) (sp := spOx (He.ga K "NothingToUndo") "many") T.f_NothingToUndo___init__ sc_NothingToUndo___init__ (fun _ _ _ _ _ _ us hl => match us, hl with | [_, _], _ => rfl) (fun vs H Q E h => by obtain ⟨a, y, rfl, _⟩ := h; rfl)
    fun cdv A outer s H vs Q E hr h => by tbr_iter "oinit"
  exact ⟨kb, kc, T.g_NothingToUndo, _, fd, F, B, T.m_NothingToUndo___init__.at_, beq_iff_eq.mp T.m_NothingToUndo___init__.fn⟩
end
end Ax
end
section
set_option maxHeartbeats 4000000
open PySem PySem.Spec PyProof.Rows L2 Ax
set_option hygiene false in
local macro_rules | `(tactic| tbr_iter "boot") => `(tactic| with_reducible first | exact Ax.b_len | exact Ax.b_all | exact Ax.b_any | exact Ax.b_sorted | exact Ax.b_isinstance | exact Ax.b_abs | exact Ax.b_max | exact Ax.b_min | exact Ax.b_sum | exact Ax.b_repr | exact Ax.b_iter | exact Ax.b_ord | exact Ax.b_chr | exact Ax.b_str | exact Ax.b_int | exact Ax.b_bool | exact Ax.b_tuple | exact Ax.b_list | exact Ax.b_dict | exact Ax.b_set | exact Ax.b_range | exact Ax.b_enumerate | exact Ax.b_zip)
set_option hygiene false in
local macro_rules | `(tactic| tbr_iter "vis") => `(tactic| first | exact Or.inl rfl | exact Or.inr (Or.inl rfl) | exact Or.inr (Or.inr rfl))
set_option hygiene false in
local macro_rules | `(tactic| tbr_iter "w") => `(tactic| first
  | refine wb_cons ?_
  | refine wb_nil ?_
  | refine ws_ret ?_
  | refine ws_if ?_
  | refine ws_sub ?_
  | refine wa_cons ?_
  | refine wa_nil ?_
  | refine w_int ?_
  | refine w_str ?_
  | refine w_bl ?_
  | refine w_non ?_
  | tbr_iter "var"
  | refine w_bin ?_
  | refine w_cmp ?_
  | refine w_chain ?_
  | refine w_and ?_
  | refine w_or ?_
  | refine w_one ?_
  | refine w_not ?_
  | refine w_ix ?_
  | refine w_ifExp ?_
  | refine w_tup ?_
  | refine w_lst ?_
  | refine wt_not ?_
  | refine wt_bool ?_
  | refine ww_and ?_
  | refine ww_and1 ?_
  | refine ww_or ?_
  | refine ww_or1 ?_
  | refine wt_cmp ?_
  | refine wt_val ?_
  | tbr_iter "call"
  | (refine w_glob (by tbr_iter "mg") ?_)
  | (refine w_callB (by tbr_iter "z") ?_)
  | (refine w_callTy (by tbr_iter "z") ?_)
  | (refine w_bltT (by tbr_iter "z") ?_))
set_option hygiene false in
local macro_rules | `(tactic| tbr_iter "blk") => `(tactic| first | exact blkOk_by (by dsimp only [cxOf, envOfC]; decide +kernel))
set_option hygiene false in
local macro_rules | `(tactic| tbr_iter "iff") => `(tactic| first
  | refine iteT ?_
  | refine iteF ?_
  | refine w_if2 (fun _ => ?_) (fun _ => ?_))
set_option hygiene false in
local macro_rules | `(tactic| tbr_iter "sc") => `(tactic| first | omega | decide)
set_option hygiene false in
local macro_rules | `(tactic| tbr_iter "at") => `(tactic| first | exact atI_0 | exact atI_1 | exact atI_2)
set_option hygiene false in
local macro_rules | `(tactic| tbr_iter "sql") => `(tactic| ((try dsimp only [L2.cxOf, L2.Cx.blk]); with_reducible first | assumption | exact SqL.of (by assumption)))
set_option hygiene false in
local macro_rules | `(tactic| tbr_iter "sqt") => `(tactic| ((try dsimp only [L2.cxOf, L2.Cx.blk]); with_reducible first | assumption | exact SqT.of (by assumption)))
set_option hygiene false in
local macro_rules | `(tactic| tbr_iter "v") => `(tactic| first
  | refine bv_add ?_
  | refine bv_sub ?_
  | ((with_reducible show BinV _ .Mult _ _ _ _); refine bv_mul (Or.inl ⟨by tbr_iter "sc", by tbr_iter "sc"⟩) ?_)
  | ((with_reducible show BinV _ .Mult _ _ _ _); refine bv_mul (Or.inr ⟨by tbr_iter "sc", by tbr_iter "sc"⟩) ?_)
  | ((with_reducible show BinV _ .Mod _ _ _ _); refine bv_mod (by tbr_iter "sc") ?_)
  | ((with_reducible show BinV _ .FloorDiv _ _ _ _); refine bv_fdiv ⟨by tbr_iter "sc", by tbr_iter "sc"⟩ ?_)
  | ((with_reducible show BinV _ .Pow _ _ _ _); refine bv_pow ⟨by decide, by decide +kernel⟩ ?_)
  | refine cv_lt ?_
  | refine cv_le ?_
  | refine cv_gt ?_
  | refine cv_ge ?_
  | ((with_reducible show CmpV _ .Eq _ _ _ _); refine cv_eq rfl ?_)
  | ((with_reducible show CmpV _ .NotEq _ _ _ _); refine cv_ne rfl ?_)
  | refine iv_list (by tbr_iter "sql") (by tbr_iter "at") ?_
  | refine iv_tup (by tbr_iter "sqt") (by tbr_iter "at") ?_
  | refine kv_len_seq (Or.inl (by tbr_iter "sql")) ?_
  | refine kv_len_seq (Or.inr (by tbr_iter "sqt")) ?_
  | refine kv_int ?_
  | refine kv_intB ?_
  | refine kv_abs ?_
  | refine kv_max2 rfl ?_
  | refine kv_min2 rfl ?_)
set_option hygiene false in
local macro_rules | `(tactic| tbr_iter "b") => `(tactic| first
  | refine ⟨_, rfl, iteT ?_⟩
  | refine ⟨_, rfl, iteF ?_⟩
  | refine iteT ?_
  | refine iteF ?_)
set_option hygiene false in
local macro_rules | `(tactic| tbr_iter "go") => `(tactic| repeat (first | tbr_iter "w" | tbr_iter "v" | tbr_iter "b"))
set_option hygiene false in
local macro_rules | `(tactic| tbr_iter "nof") => `(tactic| (intro d hd; cases d <;> first | rfl | exact absurd rfl (hd _)))
set_option hygiene false in
local macro_rules | `(tactic| tbr_iter "e1") => `(tactic| first | ((with_reducible show W _ _ _ _ _); tbr_iter "w") | ((with_reducible show WA _ _ _ _ _); tbr_iter "w") | ((with_reducible show WT _ _ _ _ _); tbr_iter "w") | ((with_reducible show WW _ _ _ _ _); tbr_iter "w") | tbr_iter "v")
set_option hygiene false in
local macro_rules | `(tactic| tbr_iter "ex") => `(tactic| repeat (tbr_iter "e1"))
set_option hygiene false in
local macro_rules | `(tactic| tbr_iter "z") => `(tactic| ((try dsimp only [L2.cxOf]); with_reducible first | exact T.z_ArithmeticError | exact T.z_IndexError | exact T.z_KeyError | exact T.z_LookupError | exact T.z_OverflowError | exact T.z_ValueError | exact T.z_int | exact T.z_isinstance | exact T.z_len | exact T.z_range | exact T.z_str))
set_option hygiene false in
local macro_rules | `(tactic| tbr_iter "mg") => `(tactic| ((try dsimp only [L2.cxOf]); with_reducible first | exact T.c_MAX_COLUMNS | exact T.c_MAX_VALUES | exact T.c_MAX_TABLES | exact T.c_MAX_VARIABLES | exact T.c_MAX_ATOMS | exact T.c_MAX_SEARCH | exact T.c_MAX_CASES))
namespace Ax
/-- raises the i-th plain error -/
def spRaised (K : PySem.W.Frag) : Sp := fun vs H _ E => ∃ (i : Nat) (z : Str), i < 11 ∧ vs = [.int i, .str z] ∧ E (.ref (pc K i)) none H
section
variable {P : Program} {w : World} {K : PySem.W.Frag} {mg : Str → Option Value} {base : Heap}
set_option hygiene false in
local macro_rules | `(tactic| tbr_iter "var") => `(tactic| first | ((with_reducible show W _ (.Name "at" _) _ _ _); refine w_var 0 rfl (by tbr_iter "vis") rfl ?_) | ((with_reducible show W _ (.Name "text" _) _ _ _); refine w_var 1 rfl (by tbr_iter "vis") rfl ?_))
set_option hygiene false in
local macro_rules | `(tactic| tbr_iter "set") => `(tactic| first | ((with_reducible show WB _ (.Assign [.Name "at" _] _ _ :: _) _ _ _); refine wb_cons (ws_set 0 ?_ rfl nd)) | ((with_reducible show WB _ (.Assign [.Name "text" _] _ _ :: _) _ _ _); refine wb_cons (ws_set 1 ?_ rfl nd)))
theorem ok_raised (T : Txt K mg) : CalleeN P w K mg base "_law_raised" 1 ["at", "text"] (spRaised K) := by
  refine def_okN T.f__law_raised sc__law_raised (fun _ _ _ _ _ _ us hl => match us, hl with | [_, _], _ => rfl) (fun vs H Q E h => ?_) fun f cdv A outer s H vs Q E hr h => ?_
  · obtain ⟨i, z, _, rfl, _⟩ := h; rfl
  obtain ⟨i, z, hi, rfl, k⟩ := h
  have nd := sc__law_raised.nd
  have tk : L2N.Takes (cxOf (L2N.CX P w) P w K mg base n__law_raised "_law_raised" (defScope s__law_raised) f cdv A outer s H E) (fun cls d _ H => E cls d H) := L2N.takes_of rfl rfl rfl rfl
  tbr_iter "go"
  refine ⟨_, rfl, w_if2 (fun c => ?_) (fun c0 => ?_)⟩
  · have e : i = 0 := by
      have e := of_decide_eq_true c
      injection e with e
      omega
    subst e
    exact wb_cons (ws_raiseN T.e_InvalidName tk (w_var 1 rfl (Or.inl rfl) rfl k))
  tbr_iter "go"
  refine ⟨_, rfl, w_if2 (fun c => ?_) (fun c1 => ?_)⟩
  · have e : i = 1 := by
      have e := of_decide_eq_true c
      injection e with e
      omega
    subst e
    exact wb_cons (ws_raiseN T.e_InvalidTable tk (w_var 1 rfl (Or.inl rfl) rfl k))
  tbr_iter "go"
  refine ⟨_, rfl, w_if2 (fun c => ?_) (fun c2 => ?_)⟩
  · have e : i = 2 := by
      have e := of_decide_eq_true c
      injection e with e
      omega
    subst e
    exact wb_cons (ws_raiseN T.e_InvalidDatabase tk (w_var 1 rfl (Or.inl rfl) rfl k))
  tbr_iter "go"
  refine ⟨_, rfl, w_if2 (fun c => ?_) (fun c3 => ?_)⟩
  · have e : i = 3 := by
      have e := of_decide_eq_true c
      injection e with e
      omega
    subst e
    exact wb_cons (ws_raiseN T.e_InvalidRule tk (w_var 1 rfl (Or.inl rfl) rfl k))
  tbr_iter "go"
  refine ⟨_, rfl, w_if2 (fun c => ?_) (fun c4 => ?_)⟩
  · have e : i = 4 := by
      have e := of_decide_eq_true c
      injection e with e
      omega
    subst e
    exact wb_cons (ws_raiseN T.e_InvalidQuery tk (w_var 1 rfl (Or.inl rfl) rfl k))
  tbr_iter "go"
  refine ⟨_, rfl, w_if2 (fun c => ?_) (fun c5 => ?_)⟩
  · have e : i = 5 := by
      have e := of_decide_eq_true c
      injection e with e
      omega
    subst e
    exact wb_cons (ws_raiseN T.e_InvalidExamples tk (w_var 1 rfl (Or.inl rfl) rfl k))
  tbr_iter "go"
  refine ⟨_, rfl, w_if2 (fun c => ?_) (fun c6 => ?_)⟩
  · have e : i = 6 := by
      have e := of_decide_eq_true c
      injection e with e
      omega
    subst e
    exact wb_cons (ws_raiseN T.e_InvalidOperation tk (w_var 1 rfl (Or.inl rfl) rfl k))
  tbr_iter "go"
  refine ⟨_, rfl, w_if2 (fun c => ?_) (fun c7 => ?_)⟩
  · have e : i = 7 := by
      have e := of_decide_eq_true c
      injection e with e
      omega
    subst e
    exact wb_cons (ws_raiseN T.e_InvalidEdit tk (w_var 1 rfl (Or.inl rfl) rfl k))
  tbr_iter "go"
  refine ⟨_, rfl, w_if2 (fun c => ?_) (fun c8 => ?_)⟩
  · have e : i = 8 := by
      have e := of_decide_eq_true c
      injection e with e
      omega
    subst e
    exact wb_cons (ws_raiseN T.e_ParseError tk (w_var 1 rfl (Or.inl rfl) rfl k))
  tbr_iter "go"
  refine ⟨_, rfl, w_if2 (fun c => ?_) (fun c9 => ?_)⟩
  · have e : i = 9 := by
      have e := of_decide_eq_true c
      injection e with e
      omega
    subst e
    exact wb_cons (ws_raiseN T.e_InvalidCommand tk (w_var 1 rfl (Or.inl rfl) rfl k))
  tbr_iter "go"
  have e : i = 10 := by
    have ne : ∀ j : Nat, decide (V.int (i : Int) = V.int (j : Int)) = false → i ≠ j := fun j h e => by
      subst e
      simp at h
    have := ne 0 c0
    have := ne 1 c1
    have := ne 2 c2
    have := ne 3 c3
    have := ne 4 c4
    have := ne 5 c5
    have := ne 6 c6
    have := ne 7 c7
    have := ne 8 c8
    have := ne 9 c9
    omega
  subst e
  exact ws_raiseN T.e_AskError tk (w_var 1 rfl (Or.inl rfl) rfl k)
end
end Ax
end
section
set_option maxHeartbeats 4000000
open PySem PySem.Spec PyProof.Rows L2 Ax
set_option hygiene false in
local macro_rules | `(tactic| tbr_iter "boot") => `(tactic| with_reducible first | exact Ax.b_len | exact Ax.b_all | exact Ax.b_any | exact Ax.b_sorted | exact Ax.b_isinstance | exact Ax.b_abs | exact Ax.b_max | exact Ax.b_min | exact Ax.b_sum | exact Ax.b_repr | exact Ax.b_iter | exact Ax.b_ord | exact Ax.b_chr | exact Ax.b_str | exact Ax.b_int | exact Ax.b_bool | exact Ax.b_tuple | exact Ax.b_list | exact Ax.b_dict | exact Ax.b_set | exact Ax.b_range | exact Ax.b_enumerate | exact Ax.b_zip)
set_option hygiene false in
local macro_rules | `(tactic| tbr_iter "vis") => `(tactic| first | exact Or.inl rfl | exact Or.inr (Or.inl rfl) | exact Or.inr (Or.inr rfl))
set_option hygiene false in
local macro_rules | `(tactic| tbr_iter "w") => `(tactic| first
  | refine wb_cons ?_
  | refine wb_nil ?_
  | refine ws_ret ?_
  | refine ws_if ?_
  | refine ws_sub ?_
  | refine wa_cons ?_
  | refine wa_nil ?_
  | refine w_int ?_
  | refine w_str ?_
  | refine w_bl ?_
  | refine w_non ?_
  | tbr_iter "var"
  | refine w_bin ?_
  | refine w_cmp ?_
  | refine w_chain ?_
  | refine w_and ?_
  | refine w_or ?_
  | refine w_one ?_
  | refine w_not ?_
  | refine w_ix ?_
  | refine w_ifExp ?_
  | refine w_tup ?_
  | refine w_lst ?_
  | refine wt_not ?_
  | refine wt_bool ?_
  | refine ww_and ?_
  | refine ww_and1 ?_
  | refine ww_or ?_
  | refine ww_or1 ?_
  | refine wt_cmp ?_
  | refine wt_val ?_
  | tbr_iter "call"
  | (refine w_glob (by tbr_iter "mg") ?_)
  | (refine w_callB (by tbr_iter "z") ?_)
  | (refine w_callTy (by tbr_iter "z") ?_)
  | (refine w_bltT (by tbr_iter "z") ?_))
set_option hygiene false in
local macro_rules | `(tactic| tbr_iter "blk") => `(tactic| first | exact blkOk_by (by dsimp only [cxOf, envOfC]; decide +kernel))
set_option hygiene false in
local macro_rules | `(tactic| tbr_iter "iff") => `(tactic| first
  | refine iteT ?_
  | refine iteF ?_
  | refine w_if2 (fun _ => ?_) (fun _ => ?_))
set_option hygiene false in
local macro_rules | `(tactic| tbr_iter "sc") => `(tactic| first | omega | decide)
set_option hygiene false in
local macro_rules | `(tactic| tbr_iter "at") => `(tactic| first | exact atI_0 | exact atI_1 | exact atI_2)
set_option hygiene false in
local macro_rules | `(tactic| tbr_iter "sql") => `(tactic| ((try dsimp only [L2.cxOf, L2.Cx.blk]); with_reducible first | assumption | exact SqL.of (by assumption)))
set_option hygiene false in
local macro_rules | `(tactic| tbr_iter "sqt") => `(tactic| ((try dsimp only [L2.cxOf, L2.Cx.blk]); with_reducible first | assumption | exact SqT.of (by assumption)))
set_option hygiene false in
local macro_rules | `(tactic| tbr_iter "v") => `(tactic| first
  | refine bv_add ?_
  | refine bv_sub ?_
  | ((with_reducible show BinV _ .Mult _ _ _ _); refine bv_mul (Or.inl ⟨by tbr_iter "sc", by tbr_iter "sc"⟩) ?_)
  | ((with_reducible show BinV _ .Mult _ _ _ _); refine bv_mul (Or.inr ⟨by tbr_iter "sc", by tbr_iter "sc"⟩) ?_)
  | ((with_reducible show BinV _ .Mod _ _ _ _); refine bv_mod (by tbr_iter "sc") ?_)
  | ((with_reducible show BinV _ .FloorDiv _ _ _ _); refine bv_fdiv ⟨by tbr_iter "sc", by tbr_iter "sc"⟩ ?_)
  | ((with_reducible show BinV _ .Pow _ _ _ _); refine bv_pow ⟨by decide, by decide +kernel⟩ ?_)
  | refine cv_lt ?_
  | refine cv_le ?_
  | refine cv_gt ?_
  | refine cv_ge ?_
  | ((with_reducible show CmpV _ .Eq _ _ _ _); refine cv_eq rfl ?_)
  | ((with_reducible show CmpV _ .NotEq _ _ _ _); refine cv_ne rfl ?_)
  | refine iv_list (by tbr_iter "sql") (by tbr_iter "at") ?_
  | refine iv_tup (by tbr_iter "sqt") (by tbr_iter "at") ?_
  | refine kv_len_seq (Or.inl (by tbr_iter "sql")) ?_
  | refine kv_len_seq (Or.inr (by tbr_iter "sqt")) ?_
  | refine kv_int ?_
  | refine kv_intB ?_
  | refine kv_abs ?_
  | refine kv_max2 rfl ?_
  | refine kv_min2 rfl ?_)
set_option hygiene false in
local macro_rules | `(tactic| tbr_iter "b") => `(tactic| first
  | refine ⟨_, rfl, iteT ?_⟩
  | refine ⟨_, rfl, iteF ?_⟩
  | refine iteT ?_
  | refine iteF ?_)
set_option hygiene false in
local macro_rules | `(tactic| tbr_iter "go") => `(tactic| repeat (first | tbr_iter "w" | tbr_iter "v" | tbr_iter "b"))
set_option hygiene false in
local macro_rules | `(tactic| tbr_iter "nof") => `(tactic| (intro d hd; cases d <;> first | rfl | exact absurd rfl (hd _)))
set_option hygiene false in
local macro_rules | `(tactic| tbr_iter "e1") => `(tactic| first | ((with_reducible show W _ _ _ _ _); tbr_iter "w") | ((with_reducible show WA _ _ _ _ _); tbr_iter "w") | ((with_reducible show WT _ _ _ _ _); tbr_iter "w") | ((with_reducible show WW _ _ _ _ _); tbr_iter "w") | tbr_iter "v")
set_option hygiene false in
local macro_rules | `(tactic| tbr_iter "ex") => `(tactic| repeat (tbr_iter "e1"))
set_option hygiene false in
local macro_rules | `(tactic| tbr_iter "z") => `(tactic| ((try dsimp only [L2.cxOf]); with_reducible first | exact T.z_ArithmeticError | exact T.z_IndexError | exact T.z_KeyError | exact T.z_LookupError | exact T.z_OverflowError | exact T.z_ValueError | exact T.z_int | exact T.z_isinstance | exact T.z_len | exact T.z_range | exact T.z_str))
set_option hygiene false in
local macro_rules | `(tactic| tbr_iter "mg") => `(tactic| ((try dsimp only [L2.cxOf]); with_reducible first | exact T.c_MAX_COLUMNS | exact T.c_MAX_VALUES | exact T.c_MAX_TABLES | exact T.c_MAX_VARIABLES | exact T.c_MAX_ATOMS | exact T.c_MAX_SEARCH | exact T.c_MAX_CASES))
namespace Ax
theorem glob_ref {mg : Str → Option Value} {x : Str} {a : Addr} (h : mg x = some (.ref a)) : ∃ u, mg x = some u ∧ RelV (.ref a) u := ⟨_, h, rfl⟩
end Ax
set_option hygiene false in
local macro_rules | `(tactic| tbr_iter "mg") => `(tactic| ((try dsimp only [L2H.cxH, L2.cxOf, L2.Cx.suite, L2.Cx.tr]); with_reducible first | exact glob_ref T.g_InvalidName | exact glob_ref T.g_InvalidTable | exact glob_ref T.g_InvalidDatabase | exact glob_ref T.g_InvalidRule | exact glob_ref T.g_InvalidQuery | exact glob_ref T.g_InvalidExamples | exact glob_ref T.g_InvalidOperation | exact glob_ref T.g_InvalidEdit | exact glob_ref T.g_ParseError | exact glob_ref T.g_InvalidCommand))
set_option hygiene false in
local macro_rules | `(tactic| tbr_iter "z") => `(tactic| ((try dsimp only [L2H.cxH, L2.cxOf, L2.Cx.suite, L2.Cx.tr]); with_reducible first | exact T.z_isinstance | exact T.z_range | exact T.z_ValueError | exact T.z_LookupError | exact T.z_ArithmeticError))
namespace Ax
def kindsV (i : Nat) : List V := (List.range 10).map fun j => V.bl (decide (i = j))
/-- tells which of the ten the exception is -/
def spKinds (K : PySem.W.Frag) : Addr × Obj → Sp := fun p vs H Q _ => ∃ i, i < 11 ∧ vs = [.ref p.1] ∧ Zc (.ref (pc K i)) none p.2 ∧ (∃ fs, p.2.data = .fields fs) ∧ ∀ q H', Same H H' → H' q = some (.lst (kindsV i)) → Q (.ref q) H'
section
variable {P : Program} {w : World} {K : PySem.W.Frag} {mg : Str → Option Value} {base : Heap}
set_option hygiene false in
local macro_rules | `(tactic| tbr_iter "var") => `(tactic| first | ((with_reducible show W _ (.Name "e" _) _ _ _); refine w_var 0 rfl (by tbr_iter "vis") rfl ?_) | ((with_reducible show W _ (.Name "told" _) _ _ _); refine w_var 1 rfl (by tbr_iter "vis") rfl ?_))
set_option hygiene false in
local macro_rules | `(tactic| tbr_iter "set") => `(tactic| first | ((with_reducible show WB _ (.Assign [.Name "e" _] _ _ :: _) _ _ _); refine wb_cons (ws_set 0 ?_ rfl nd)) | ((with_reducible show WB _ (.Assign [.Name "told" _] _ _ :: _) _ _ _); refine wb_cons (ws_set 1 ?_ rfl nd)))
theorem ok_kinds (T : Txt K mg) (U : TxtU K) : CalleeP P w K mg base "_law_kinds" 1 ["e"] (spKinds K) := by
  refine def_okP T.f__law_kinds sc__law_kinds (fun _ _ _ _ _ _ us hl => match us, hl with | [_], _ => rfl) (fun p vs H Q E h => ?_) fun f cdv A outer s H vs Q E p hot hr h => ?_
  · obtain ⟨i, _, rfl, _⟩ := h; rfl
  obtain ⟨i, hi, rfl, hz, hf, k⟩ := h
  have nd := sc__law_kinds.nd
  refine wb_cons (ws_set 1 ?_ rfl nd)
  tbr_iter "go"
  refine kv_isE (U.p_ec i hi) (List.mem_singleton.mpr rfl) hz hf (by intro dd z; cases z) (by intro u r; exact r) (by exact U.p_k i hi 0 (by decide)) ?_
  tbr_iter "go"
  refine kv_isE (U.p_ec i hi) (List.mem_singleton.mpr rfl) hz hf (by intro dd z; cases z) (by intro u r; exact r) (by exact U.p_k i hi 1 (by decide)) ?_
  tbr_iter "go"
  refine kv_isE (U.p_ec i hi) (List.mem_singleton.mpr rfl) hz hf (by intro dd z; cases z) (by intro u r; exact r) (by exact U.p_k i hi 2 (by decide)) ?_
  tbr_iter "go"
  refine ⟨show 3 ≤ sizeLine by decide, fun q1 H1 s1 n1 e1 => ?_⟩
  refine wb_cons (ws_set 1 ?_ rfl nd)
  tbr_iter "go"
  refine kv_isE (U.p_ec i hi) (List.mem_singleton.mpr rfl) hz hf (by intro dd z; cases z) (by intro u r; exact r) (by exact U.p_k i hi 3 (by decide)) ?_
  tbr_iter "go"
  refine kv_isE (U.p_ec i hi) (List.mem_singleton.mpr rfl) hz hf (by intro dd z; cases z) (by intro u r; exact r) (by exact U.p_k i hi 4 (by decide)) ?_
  tbr_iter "go"
  refine kv_isE (U.p_ec i hi) (List.mem_singleton.mpr rfl) hz hf (by intro dd z; cases z) (by intro u r; exact r) (by exact U.p_k i hi 5 (by decide)) ?_
  tbr_iter "go"
  refine ⟨show 3 ≤ sizeLine by decide, fun q2 H2 s2 n2 e2 => ?_⟩
  refine bv_cat (s2 _ _ e1) e2 (show 3 + 3 ≤ sizeLine by decide) fun q3 H3 s3 n3 e3 => ?_
  refine wb_cons (ws_set 1 ?_ rfl nd)
  tbr_iter "go"
  refine kv_isE (U.p_ec i hi) (List.mem_singleton.mpr rfl) hz hf (by intro dd z; cases z) (by intro u r; exact r) (by exact U.p_k i hi 6 (by decide)) ?_
  tbr_iter "go"
  refine kv_isE (U.p_ec i hi) (List.mem_singleton.mpr rfl) hz hf (by intro dd z; cases z) (by intro u r; exact r) (by exact U.p_k i hi 7 (by decide)) ?_
  tbr_iter "go"
  refine kv_isE (U.p_ec i hi) (List.mem_singleton.mpr rfl) hz hf (by intro dd z; cases z) (by intro u r; exact r) (by exact U.p_k i hi 8 (by decide)) ?_
  tbr_iter "go"
  refine ⟨show 3 ≤ sizeLine by decide, fun q4 H4 s4 n4 e4 => ?_⟩
  refine bv_cat (s4 _ _ e3) e4 (show 6 + 3 ≤ sizeLine by decide) fun q5 H5 s5 n5 e5 => ?_
  tbr_iter "go"
  refine kv_isE (U.p_ec i hi) (List.mem_singleton.mpr rfl) hz hf (by intro dd z; cases z) (by intro u r; exact r) (by exact U.p_k i hi 9 (by decide)) ?_
  tbr_iter "go"
  refine ⟨show 1 ≤ sizeLine by decide, fun q6 H6 s6 n6 e6 => ?_⟩
  refine bv_cat (s6 _ _ e5) e6 (show 9 + 1 ≤ sizeLine by decide) fun q7 H7 s7 n7 e7 => ?_
  exact k _ _ (s1.trans (s2.trans (s3.trans (s4.trans (s5.trans (s6.trans s7)))))) e7
end
end Ax
end
section
set_option maxHeartbeats 4000000
open PySem PySem.Spec PyProof.Rows L2 Ax
set_option hygiene false in
local macro_rules | `(tactic| tbr_iter "boot") => `(tactic| with_reducible first | exact Ax.b_len | exact Ax.b_all | exact Ax.b_any | exact Ax.b_sorted | exact Ax.b_isinstance | exact Ax.b_abs | exact Ax.b_max | exact Ax.b_min | exact Ax.b_sum | exact Ax.b_repr | exact Ax.b_iter | exact Ax.b_ord | exact Ax.b_chr | exact Ax.b_str | exact Ax.b_int | exact Ax.b_bool | exact Ax.b_tuple | exact Ax.b_list | exact Ax.b_dict | exact Ax.b_set | exact Ax.b_range | exact Ax.b_enumerate | exact Ax.b_zip)
set_option hygiene false in
local macro_rules | `(tactic| tbr_iter "vis") => `(tactic| first | exact Or.inl rfl | exact Or.inr (Or.inl rfl) | exact Or.inr (Or.inr rfl))
set_option hygiene false in
local macro_rules | `(tactic| tbr_iter "w") => `(tactic| first
  | refine wb_cons ?_
  | refine wb_nil ?_
  | refine ws_ret ?_
  | refine ws_if ?_
  | refine ws_sub ?_
  | refine wa_cons ?_
  | refine wa_nil ?_
  | refine w_int ?_
  | refine w_str ?_
  | refine w_bl ?_
  | refine w_non ?_
  | tbr_iter "var"
  | refine w_bin ?_
  | refine w_cmp ?_
  | refine w_chain ?_
  | refine w_and ?_
  | refine w_or ?_
  | refine w_one ?_
  | refine w_not ?_
  | refine w_ix ?_
  | refine w_ifExp ?_
  | refine w_tup ?_
  | refine w_lst ?_
  | refine wt_not ?_
  | refine wt_bool ?_
  | refine ww_and ?_
  | refine ww_and1 ?_
  | refine ww_or ?_
  | refine ww_or1 ?_
  | refine wt_cmp ?_
  | refine wt_val ?_
  | tbr_iter "call"
  | (refine w_glob (by tbr_iter "mg") ?_)
  | (refine w_callB (by tbr_iter "z") ?_)
  | (refine w_callTy (by tbr_iter "z") ?_)
  | (refine w_bltT (by tbr_iter "z") ?_))
set_option hygiene false in
local macro_rules | `(tactic| tbr_iter "blk") => `(tactic| first | exact blkOk_by (by dsimp only [cxOf, envOfC]; decide +kernel))
set_option hygiene false in
local macro_rules | `(tactic| tbr_iter "iff") => `(tactic| first
  | refine iteT ?_
  | refine iteF ?_
  | refine w_if2 (fun _ => ?_) (fun _ => ?_))
set_option hygiene false in
local macro_rules | `(tactic| tbr_iter "sc") => `(tactic| first | omega | decide)
set_option hygiene false in
local macro_rules | `(tactic| tbr_iter "at") => `(tactic| first | exact atI_0 | exact atI_1 | exact atI_2)
set_option hygiene false in
local macro_rules | `(tactic| tbr_iter "sql") => `(tactic| ((try dsimp only [L2.cxOf, L2.Cx.blk]); with_reducible first | assumption | exact SqL.of (by assumption)))
set_option hygiene false in
local macro_rules | `(tactic| tbr_iter "sqt") => `(tactic| ((try dsimp only [L2.cxOf, L2.Cx.blk]); with_reducible first | assumption | exact SqT.of (by assumption)))
set_option hygiene false in
local macro_rules | `(tactic| tbr_iter "v") => `(tactic| first
  | refine bv_add ?_
  | refine bv_sub ?_
  | ((with_reducible show BinV _ .Mult _ _ _ _); refine bv_mul (Or.inl ⟨by tbr_iter "sc", by tbr_iter "sc"⟩) ?_)
  | ((with_reducible show BinV _ .Mult _ _ _ _); refine bv_mul (Or.inr ⟨by tbr_iter "sc", by tbr_iter "sc"⟩) ?_)
  | ((with_reducible show BinV _ .Mod _ _ _ _); refine bv_mod (by tbr_iter "sc") ?_)
  | ((with_reducible show BinV _ .FloorDiv _ _ _ _); refine bv_fdiv ⟨by tbr_iter "sc", by tbr_iter "sc"⟩ ?_)
  | ((with_reducible show BinV _ .Pow _ _ _ _); refine bv_pow ⟨by decide, by decide +kernel⟩ ?_)
  | refine cv_lt ?_
  | refine cv_le ?_
  | refine cv_gt ?_
  | refine cv_ge ?_
  | ((with_reducible show CmpV _ .Eq _ _ _ _); refine cv_eq rfl ?_)
  | ((with_reducible show CmpV _ .NotEq _ _ _ _); refine cv_ne rfl ?_)
  | refine iv_list (by tbr_iter "sql") (by tbr_iter "at") ?_
  | refine iv_tup (by tbr_iter "sqt") (by tbr_iter "at") ?_
  | refine kv_len_seq (Or.inl (by tbr_iter "sql")) ?_
  | refine kv_len_seq (Or.inr (by tbr_iter "sqt")) ?_
  | refine kv_int ?_
  | refine kv_intB ?_
  | refine kv_abs ?_
  | refine kv_max2 rfl ?_
  | refine kv_min2 rfl ?_)
set_option hygiene false in
local macro_rules | `(tactic| tbr_iter "b") => `(tactic| first
  | refine ⟨_, rfl, iteT ?_⟩
  | refine ⟨_, rfl, iteF ?_⟩
  | refine iteT ?_
  | refine iteF ?_)
set_option hygiene false in
local macro_rules | `(tactic| tbr_iter "go") => `(tactic| repeat (first | tbr_iter "w" | tbr_iter "v" | tbr_iter "b"))
set_option hygiene false in
local macro_rules | `(tactic| tbr_iter "nof") => `(tactic| (intro d hd; cases d <;> first | rfl | exact absurd rfl (hd _)))
set_option hygiene false in
local macro_rules | `(tactic| tbr_iter "e1") => `(tactic| first | ((with_reducible show W _ _ _ _ _); tbr_iter "w") | ((with_reducible show WA _ _ _ _ _); tbr_iter "w") | ((with_reducible show WT _ _ _ _ _); tbr_iter "w") | ((with_reducible show WW _ _ _ _ _); tbr_iter "w") | tbr_iter "v")
set_option hygiene false in
local macro_rules | `(tactic| tbr_iter "ex") => `(tactic| repeat (tbr_iter "e1"))
set_option hygiene false in
local macro_rules | `(tactic| tbr_iter "z") => `(tactic| ((try dsimp only [L2.cxOf]); with_reducible first | exact T.z_ArithmeticError | exact T.z_IndexError | exact T.z_KeyError | exact T.z_LookupError | exact T.z_OverflowError | exact T.z_ValueError | exact T.z_int | exact T.z_isinstance | exact T.z_len | exact T.z_range | exact T.z_str))
set_option hygiene false in
local macro_rules | `(tactic| tbr_iter "mg") => `(tactic| ((try dsimp only [L2.cxOf]); with_reducible first | exact T.c_MAX_COLUMNS | exact T.c_MAX_VALUES | exact T.c_MAX_TABLES | exact T.c_MAX_VARIABLES | exact T.c_MAX_ATOMS | exact T.c_MAX_SEARCH | exact T.c_MAX_CASES))
namespace Ax
theorem b_VE : bootBuiltins (Str.ofString "ValueError") = some (.type "ValueError") := by decide +kernel
theorem b_LE : bootBuiltins (Str.ofString "LookupError") = some (.type "LookupError") := by decide +kernel
theorem b_AE : bootBuiltins (Str.ofString "ArithmeticError") = some (.type "ArithmeticError") := by decide +kernel
theorem b_IE : bootBuiltins (Str.ofString "IndexError") = some (.type "IndexError") := by decide +kernel
theorem b_KE : bootBuiltins (Str.ofString "KeyError") = some (.type "KeyError") := by decide +kernel
theorem b_OE : bootBuiltins (Str.ofString "OverflowError") = some (.type "OverflowError") := by decide +kernel
theorem w_callNS {X : Cx} {σ : L2.St} {H : Hp} {Q : VK} {x : Str} {e : Expr} {es : List Expr} {p pos : Pos} {k : Nat} {ps : List Str} {sp : Sp} {W0 : WX} (C : CalleeN X.prog X.w X.K X.mg X.base x k ps sp) (hr : Room k X.A) (tk : L2N.Takes X W0)
    (h : WA X (e :: es) σ H fun vs H1 => sp vs H1 Q (fun cls d H' => W0 cls d σ H')) (hg : Gl X x := by rfl) (hdb : (x == ("__debug__" : Str)) = false := by decide) (he : starEach (e :: es) X.env = (false, eval e X.env) :: starEach es X.env := by rfl) (hpl : (backTo pos (starEach es X.env)).any (·.1) = false := by rfl) :
    W X (.Call (.Name x p) (e :: es) [] pos) σ H Q := by
  obtain ⟨f, fd, F, B, hm, hk⟩ := C.ex
  exact W.of (pe_callS (E := fun σ => WE W0 σ) F hr hg hm hk B (fun σ => L2N.passAt tk σ) WA.pa hdb he hpl) h
end Ax
set_option hygiene false in
local macro_rules | `(tactic| tbr_iter "boot") => `(tactic| with_reducible first | exact Ax.b_VE | exact Ax.b_LE | exact Ax.b_AE | exact Ax.b_IE | exact Ax.b_KE | exact Ax.b_OE)
namespace Ax
theorem dpa_bls {K : PySem.W.Frag} {H : Hp} : ∀ bs : List Bool, DpAll K H (bs.map V.bl) (bs.map PyData.bool)
  | [] => .nil
  | b :: bs => .cons (.bl b) (dpa_bls bs)
def spPlain : Sp := fun vs H Q _ => ∃ (i : Nat) (z : Str), i < 11 ∧ vs = [.int i, .str z] ∧ ∀ H', Same H H' → Q (.bl true) H'
section
variable {P : Program} {w : World} {K : PySem.W.Frag} {mg : Str → Option Value} {base : Heap}
set_option hygiene false in
local macro_rules | `(tactic| tbr_iter "var") => `(tactic| first | ((with_reducible show W _ (.Name "at" _) _ _ _); refine w_var 0 rfl (by tbr_iter "vis") rfl ?_) | ((with_reducible show W _ (.Name "text" _) _ _ _); refine w_var 1 rfl (by tbr_iter "vis") rfl ?_) | ((with_reducible show W _ (.Name "e" _) _ _ _); refine w_var 2 rfl (by tbr_iter "vis") rfl ?_) | ((with_reducible show W _ (.Name "told" _) _ _ _); refine w_var 3 rfl (by tbr_iter "vis") rfl ?_) | ((with_reducible show W _ (.Name "spot" _) _ _ _); refine w_var 4 rfl (by tbr_iter "vis") rfl ?_))
set_option hygiene false in
local macro_rules | `(tactic| tbr_iter "set") => `(tactic| first | ((with_reducible show WB _ (.Assign [.Name "at" _] _ _ :: _) _ _ _); refine wb_cons (ws_set 0 ?_ rfl nd)) | ((with_reducible show WB _ (.Assign [.Name "text" _] _ _ :: _) _ _ _); refine wb_cons (ws_set 1 ?_ rfl nd)) | ((with_reducible show WB _ (.Assign [.Name "e" _] _ _ :: _) _ _ _); refine wb_cons (ws_set 2 ?_ rfl nd)) | ((with_reducible show WB _ (.Assign [.Name "told" _] _ _ :: _) _ _ _); refine wb_cons (ws_set 3 ?_ rfl nd)) | ((with_reducible show WB _ (.Assign [.Name "spot" _] _ _ :: _) _ _ _); refine wb_cons (ws_set 4 ?_ rfl nd)))
theorem ok_plain (T : Txt K mg) (U : TxtU K) : Callee P w K mg base "_law_plain_right" 2 ["at", "text"] spPlain := by
  refine def_ok T.f__law_plain_right sc__law_plain_right (fun _ _ _ _ _ _ us hl => match us, hl with | [_, _], _ => rfl) (fun vs H Q E h => ?_) fun f cdv A outer s H vs Q E hr h => ?_
  · obtain ⟨i, z, _, rfl, _⟩ := h; rfl
  obtain ⟨i, z, hi, rfl, k⟩ := h
  have nd := sc__law_plain_right.nd
  refine wb_cons (ws_tryN (Wout := fun _ _ _ _ => False) rfl rfl nd (i := 2) rfl rfl ⟨rfl, by decide, .inl T.g_AskError⟩ (fun _ _ ⟨_, _, _, _, _, _, _, _, _, _, _, _, _, _, _, _, w⟩ => w.elim) fun pn xe tk po => ?_)
  refine wb_cons (ws_expr (w_callNS (ok_raised T) hr tk ?_))
  tbr_iter "go"
  refine ⟨i, z, hi, rfl, true, U.p_ask i hi, fun _ a na oe pn hz hv => ?_, fun z => by cases z⟩
  have hot : L2H.Hot1 ((cxOf (L2.CX P w) P w K mg base n__law_plain_right "_law_plain_right" (defScope s__law_plain_right) f cdv A outer s H E).suite a ((a, oe) :: pn)).A (a, oe) := by
    obtain ⟨vs, hv⟩ := hv
    exact ⟨rfl, vs, hv, hz.2.2 vs hv⟩
  refine wb_cons (ws_set 3 ?_ rfl nd)
  tbr_iter "go"
  refine kv_isE (U.p_ec i hi) (List.mem_cons_self ..) hz.zc hv (by intro dd z; cases z) (by intro u r; exact r) (by exact U.p_v i hi) ?_
  tbr_iter "go"
  refine kv_isE (U.p_ec i hi) (List.mem_cons_self ..) hz.zc hv (by intro dd z; cases z) (by intro u r; exact r) (by exact U.p_l i hi) ?_
  tbr_iter "go"
  refine kv_isE (U.p_ec i hi) (List.mem_cons_self ..) hz.zc hv (by intro dd z; cases z) (by intro u r; exact r) (by exact U.p_a i hi) ?_
  tbr_iter "go"
  refine ⟨show 3 ≤ sizeLine by decide, fun q1 H1 s1 n1 e1 => ?_⟩
  tbr_iter "go"
  have hu : (A.deeper (envOfC "_law_plain_right" (defScope s__law_plain_right) s.heap.objs.size f cdv)).units + 64 < cLine := by
    have := hr.un
    omega
  refine ⟨show 3 ≤ sizeLine by decide, fun q2 H2 s2 n2 e2 => ?_⟩
  refine cv_eqD hu (.lst (SqL.of (s2 _ _ e1)) (dpa_bls [true, false, false])) (.lst (SqL.of e2) (dpa_bls [true, false, false])) rfl rfl ⟨true, congrArg V.bl (by decide +kernel), ?_⟩
  rw [if_pos rfl]
  refine w_one (w_cmp (w_callP (ok_kinds T U) ⟨hr.dp, hr.un⟩ hot (List.mem_cons_self ..) ?_))
  tbr_iter "go"
  refine ⟨i, hi, rfl, hz.zc, hv, fun q3 H3 s3 e3 => ?_⟩
  refine w_lcHF 4 (fun j => V.bl (decide (V.int j = V.int i))) hot (List.mem_cons_self ..) T.z_range nd (by tbr_iter "blk") rfl (fun _ _ _ _ _ => ⟨Or.inl rfl, Or.inr rfl⟩) ?_
  tbr_iter "go"
  refine ⟨10, rfl, by decide, fun j hj H4 s4 _ _ _ _ _ => ?_, fun q5 H5 s5 n5 e5 => ?_⟩
  · tbr_iter "go"
    exact ⟨Same.refl _, rfl⟩
  · have ek : kindsV i = ((List.range 10).map fun (j : Nat) => decide (i = j)).map V.bl := by
      unfold kindsV
      rw [List.map_map] <;> rfl
    have el : ((List.range 10).map fun (j : Nat) => V.bl (decide (V.int (j : Int) = V.int (i : Int)))) = ((List.range 10).map fun (j : Nat) => decide (i = j)).map V.bl := by
      rw [List.map_map]
      refine List.map_congr_left fun j _ => congrArg V.bl (decide_eq_decide.mpr ⟨fun h => ?_, fun h => by rw [h]⟩)
      injection h with h
      omega
    rw [ek] at e3
    rw [el] at e5
    refine cv_eqD hu (.lst (SqL.of (s5 _ _ e3)) (dpa_bls _)) (.lst (SqL.of e5) (dpa_bls _)) (by rfl) (by rfl) ?_
    have ee : ∀ i, i < 11 → PyData.eqv (.list (((List.range 10).map fun (j : Nat) => decide (i = j)).map PyData.bool)) (.list (((List.range 10).map fun (j : Nat) => decide (i = j)).map PyData.bool)) = true := by decide +kernel
    rw [ee i hi]
    exact k _ (s1.trans (s2.trans (s3.trans s5)))
end
end Ax
end
section
set_option maxHeartbeats 4000000
open PySem PySem.Spec PyProof.Rows L2 Ax
set_option hygiene false in
local macro_rules | `(tactic| tbr_iter "boot") => `(tactic| with_reducible first | exact Ax.b_len | exact Ax.b_all | exact Ax.b_any | exact Ax.b_sorted | exact Ax.b_isinstance | exact Ax.b_abs | exact Ax.b_max | exact Ax.b_min | exact Ax.b_sum | exact Ax.b_repr | exact Ax.b_iter | exact Ax.b_ord | exact Ax.b_chr | exact Ax.b_str | exact Ax.b_int | exact Ax.b_bool | exact Ax.b_tuple | exact Ax.b_list | exact Ax.b_dict | exact Ax.b_set | exact Ax.b_range | exact Ax.b_enumerate | exact Ax.b_zip)
set_option hygiene false in
local macro_rules | `(tactic| tbr_iter "vis") => `(tactic| first | exact Or.inl rfl | exact Or.inr (Or.inl rfl) | exact Or.inr (Or.inr rfl))
set_option hygiene false in
local macro_rules | `(tactic| tbr_iter "w") => `(tactic| first
  | refine wb_cons ?_
  | refine wb_nil ?_
  | refine ws_ret ?_
  | refine ws_if ?_
  | refine ws_sub ?_
  | refine wa_cons ?_
  | refine wa_nil ?_
  | refine w_int ?_
  | refine w_str ?_
  | refine w_bl ?_
  | refine w_non ?_
  | tbr_iter "var"
  | refine w_bin ?_
  | refine w_cmp ?_
  | refine w_chain ?_
  | refine w_and ?_
  | refine w_or ?_
  | refine w_one ?_
  | refine w_not ?_
  | refine w_ix ?_
  | refine w_ifExp ?_
  | refine w_tup ?_
  | refine w_lst ?_
  | refine wt_not ?_
  | refine wt_bool ?_
  | refine ww_and ?_
  | refine ww_and1 ?_
  | refine ww_or ?_
  | refine ww_or1 ?_
  | refine wt_cmp ?_
  | refine wt_val ?_
  | tbr_iter "call"
  | (refine w_glob (by tbr_iter "mg") ?_)
  | (refine w_callB (by tbr_iter "z") ?_)
  | (refine w_callTy (by tbr_iter "z") ?_)
  | (refine w_bltT (by tbr_iter "z") ?_))
set_option hygiene false in
local macro_rules | `(tactic| tbr_iter "blk") => `(tactic| first | exact blkOk_by (by dsimp only [cxOf, envOfC]; decide +kernel))
set_option hygiene false in
local macro_rules | `(tactic| tbr_iter "iff") => `(tactic| first
  | refine iteT ?_
  | refine iteF ?_
  | refine w_if2 (fun _ => ?_) (fun _ => ?_))
set_option hygiene false in
local macro_rules | `(tactic| tbr_iter "sc") => `(tactic| first | omega | decide)
set_option hygiene false in
local macro_rules | `(tactic| tbr_iter "at") => `(tactic| first | exact atI_0 | exact atI_1 | exact atI_2)
set_option hygiene false in
local macro_rules | `(tactic| tbr_iter "sql") => `(tactic| ((try dsimp only [L2.cxOf, L2.Cx.blk]); with_reducible first | assumption | exact SqL.of (by assumption)))
set_option hygiene false in
local macro_rules | `(tactic| tbr_iter "sqt") => `(tactic| ((try dsimp only [L2.cxOf, L2.Cx.blk]); with_reducible first | assumption | exact SqT.of (by assumption)))
set_option hygiene false in
local macro_rules | `(tactic| tbr_iter "v") => `(tactic| first
  | refine bv_add ?_
  | refine bv_sub ?_
  | ((with_reducible show BinV _ .Mult _ _ _ _); refine bv_mul (Or.inl ⟨by tbr_iter "sc", by tbr_iter "sc"⟩) ?_)
  | ((with_reducible show BinV _ .Mult _ _ _ _); refine bv_mul (Or.inr ⟨by tbr_iter "sc", by tbr_iter "sc"⟩) ?_)
  | ((with_reducible show BinV _ .Mod _ _ _ _); refine bv_mod (by tbr_iter "sc") ?_)
  | ((with_reducible show BinV _ .FloorDiv _ _ _ _); refine bv_fdiv ⟨by tbr_iter "sc", by tbr_iter "sc"⟩ ?_)
  | ((with_reducible show BinV _ .Pow _ _ _ _); refine bv_pow ⟨by decide, by decide +kernel⟩ ?_)
  | refine cv_lt ?_
  | refine cv_le ?_
  | refine cv_gt ?_
  | refine cv_ge ?_
  | ((with_reducible show CmpV _ .Eq _ _ _ _); refine cv_eq rfl ?_)
  | ((with_reducible show CmpV _ .NotEq _ _ _ _); refine cv_ne rfl ?_)
  | refine iv_list (by tbr_iter "sql") (by tbr_iter "at") ?_
  | refine iv_tup (by tbr_iter "sqt") (by tbr_iter "at") ?_
  | refine kv_len_seq (Or.inl (by tbr_iter "sql")) ?_
  | refine kv_len_seq (Or.inr (by tbr_iter "sqt")) ?_
  | refine kv_int ?_
  | refine kv_intB ?_
  | refine kv_abs ?_
  | refine kv_max2 rfl ?_
  | refine kv_min2 rfl ?_)
set_option hygiene false in
local macro_rules | `(tactic| tbr_iter "b") => `(tactic| first
  | refine ⟨_, rfl, iteT ?_⟩
  | refine ⟨_, rfl, iteF ?_⟩
  | refine iteT ?_
  | refine iteF ?_)
set_option hygiene false in
local macro_rules | `(tactic| tbr_iter "go") => `(tactic| repeat (first | tbr_iter "w" | tbr_iter "v" | tbr_iter "b"))
set_option hygiene false in
local macro_rules | `(tactic| tbr_iter "nof") => `(tactic| (intro d hd; cases d <;> first | rfl | exact absurd rfl (hd _)))
set_option hygiene false in
local macro_rules | `(tactic| tbr_iter "e1") => `(tactic| first | ((with_reducible show W _ _ _ _ _); tbr_iter "w") | ((with_reducible show WA _ _ _ _ _); tbr_iter "w") | ((with_reducible show WT _ _ _ _ _); tbr_iter "w") | ((with_reducible show WW _ _ _ _ _); tbr_iter "w") | tbr_iter "v")
set_option hygiene false in
local macro_rules | `(tactic| tbr_iter "ex") => `(tactic| repeat (tbr_iter "e1"))
set_option hygiene false in
local macro_rules | `(tactic| tbr_iter "z") => `(tactic| ((try dsimp only [L2.cxOf]); with_reducible first | exact T.z_ArithmeticError | exact T.z_IndexError | exact T.z_KeyError | exact T.z_LookupError | exact T.z_OverflowError | exact T.z_ValueError | exact T.z_int | exact T.z_isinstance | exact T.z_len | exact T.z_range | exact T.z_str))
set_option hygiene false in
local macro_rules | `(tactic| tbr_iter "mg") => `(tactic| ((try dsimp only [L2.cxOf]); with_reducible first | exact T.c_MAX_COLUMNS | exact T.c_MAX_VALUES | exact T.c_MAX_TABLES | exact T.c_MAX_VARIABLES | exact T.c_MAX_ATOMS | exact T.c_MAX_SEARCH | exact T.c_MAX_CASES))
set_option hygiene false in
local macro_rules | `(tactic| tbr_iter "boot") => `(tactic| with_reducible first | exact Ax.b_VE | exact Ax.b_LE | exact Ax.b_AE | exact Ax.b_IE | exact Ax.b_KE | exact Ax.b_OE)
set_option hygiene false in
local macro_rules | `(tactic| tbr_iter "z") => `(tactic| ((try dsimp only [L2.cxOf, L2.Cx.suite, L2.Cx.tr]); with_reducible first | exact T.z_isinstance | exact T.z_IndexError | exact T.z_KeyError | exact T.z_OverflowError | exact T.z_LookupError | exact T.z_ArithmeticError))
namespace Ax
/-- keeps the value: made, raised, caught, looked at -/
def spKept (K : PySem.W.Frag) : Sp := fun vs H Q _ => ∃ (i : Nat) (v : V) (d : PyData), i < 5 ∧ vs = [.int i, v] ∧ Dp K H v d ∧ SeqAt.shaped d = true ∧ PyData.eqv d d = true ∧ ∀ H', Same H H' → Q (.bl true) H'
section
variable {P : Program} {w : World} {K : PySem.W.Frag} {mg : Str → Option Value} {base : Heap}
set_option hygiene false in
local macro_rules | `(tactic| tbr_iter "var") => `(tactic| first | ((with_reducible show W _ (.Name "at" _) _ _ _); refine w_var 0 rfl (by tbr_iter "vis") rfl ?_) | ((with_reducible show W _ (.Name "value" _) _ _ _); refine w_var 1 rfl (by tbr_iter "vis") rfl ?_) | ((with_reducible show W _ (.Name "e" _) _ _ _); refine w_var 2 rfl (by tbr_iter "vis") rfl ?_) | ((with_reducible show W _ (.Name "told" _) _ _ _); refine w_var 3 rfl (by tbr_iter "vis") rfl ?_))
set_option hygiene false in
local macro_rules | `(tactic| tbr_iter "set") => `(tactic| first | ((with_reducible show WB _ (.Assign [.Name "at" _] _ _ :: _) _ _ _); refine wb_cons (ws_set 0 ?_ rfl nd)) | ((with_reducible show WB _ (.Assign [.Name "value" _] _ _ :: _) _ _ _); refine wb_cons (ws_set 1 ?_ rfl nd)) | ((with_reducible show WB _ (.Assign [.Name "e" _] _ _ :: _) _ _ _); refine wb_cons (ws_set 2 ?_ rfl nd)) | ((with_reducible show WB _ (.Assign [.Name "told" _] _ _ :: _) _ _ _); refine wb_cons (ws_set 3 ?_ rfl nd)))
theorem ok_kept (T : Txt K mg) (U : TxtU K) : Callee P w K mg base "_law_kept" 3 ["at", "value"] (spKept K) := by
  refine def_ok T.f__law_kept sc__law_kept (fun _ _ _ _ _ _ us hl => match us, hl with | [_, _], _ => rfl) (fun vs H Q E h => ?_) fun f cdv A outer s H vs Q E hr h => ?_
  · obtain ⟨i, z, d, _, rfl, _⟩ := h; rfl
  obtain ⟨i, v, d, hi, rfl, hd, sh, ev, k⟩ := h
  have nd := sc__law_kept.nd
  have hu : (A.deeper (envOfC "_law_kept" (defScope s__law_kept) s.heap.objs.size f cdv)).units + 64 < cLine := by
    have := hr.un
    omega
  have kp0 : Keep K "InvalidNumber" "value" "IndexError.__new__" [.type "IndexError", .type "LookupError", .type "Exception", .type "BaseException", .type "object"] := U.k _ (List.mem_of_getElem? (i := 0) rfl)
  have nm0 : Names (cxOf (L2.CX P w) P w K mg base n__law_kept "_law_kept" (defScope s__law_kept) f cdv A outer s H E) "InvalidNumber" (.ref (He.ga K "InvalidNumber")) := ⟨rfl, by decide, .inl T.g_InvalidNumber⟩
  have x00 : PySem.W.exmOne K (.ref (He.ga K "InvalidNumber")) (.ref (He.ga K "InvalidNumber")) = some true := (kp0.exm _ (List.mem_of_getElem? (i := 0) rfl)).trans (by decide)
  have kp1 : Keep K "UnknownName" "name" "LookupError.__new__" keyMro := U.k _ (List.mem_of_getElem? (i := 1) rfl)
  have nm1 : Names (cxOf (L2.CX P w) P w K mg base n__law_kept "_law_kept" (defScope s__law_kept) f cdv A outer s H E) "UnknownName" (.ref (He.ga K "UnknownName")) := ⟨rfl, by decide, .inl T.g_UnknownName⟩
  have x10 : PySem.W.exmOne K (.ref (He.ga K "UnknownName")) (.ref (He.ga K "InvalidNumber")) = some false := (kp1.exm _ (List.mem_of_getElem? (i := 0) rfl)).trans (by decide)
  have x11 : PySem.W.exmOne K (.ref (He.ga K "UnknownName")) (.ref (He.ga K "UnknownName")) = some true := (kp1.exm _ (List.mem_of_getElem? (i := 1) rfl)).trans (by decide)
  have kp2 : Keep K "TooMany" "limit" "OverflowError.__new__" [.type "OverflowError", .type "ArithmeticError", .type "Exception", .type "BaseException", .type "object"] := U.k _ (List.mem_of_getElem? (i := 2) rfl)
  have nm2 : Names (cxOf (L2.CX P w) P w K mg base n__law_kept "_law_kept" (defScope s__law_kept) f cdv A outer s H E) "TooMany" (.ref (He.ga K "TooMany")) := ⟨rfl, by decide, .inl T.g_TooMany⟩
  have x20 : PySem.W.exmOne K (.ref (He.ga K "TooMany")) (.ref (He.ga K "InvalidNumber")) = some false := (kp2.exm _ (List.mem_of_getElem? (i := 0) rfl)).trans (by decide)
  have x21 : PySem.W.exmOne K (.ref (He.ga K "TooMany")) (.ref (He.ga K "UnknownName")) = some false := (kp2.exm _ (List.mem_of_getElem? (i := 1) rfl)).trans (by decide)
  have x22 : PySem.W.exmOne K (.ref (He.ga K "TooMany")) (.ref (He.ga K "TooMany")) = some true := (kp2.exm _ (List.mem_of_getElem? (i := 2) rfl)).trans (by decide)
  have kp3 : Keep K "NoQuery" "keeper" "ArithmeticError.__new__" [.type "ArithmeticError", .type "Exception", .type "BaseException", .type "object"] := U.k _ (List.mem_of_getElem? (i := 3) rfl)
  have nm3 : Names (cxOf (L2.CX P w) P w K mg base n__law_kept "_law_kept" (defScope s__law_kept) f cdv A outer s H E) "NoQuery" (.ref (He.ga K "NoQuery")) := ⟨rfl, by decide, .inl T.g_NoQuery⟩
  have x30 : PySem.W.exmOne K (.ref (He.ga K "NoQuery")) (.ref (He.ga K "InvalidNumber")) = some false := (kp3.exm _ (List.mem_of_getElem? (i := 0) rfl)).trans (by decide)
  have x31 : PySem.W.exmOne K (.ref (He.ga K "NoQuery")) (.ref (He.ga K "UnknownName")) = some false := (kp3.exm _ (List.mem_of_getElem? (i := 1) rfl)).trans (by decide)
  have x32 : PySem.W.exmOne K (.ref (He.ga K "NoQuery")) (.ref (He.ga K "TooMany")) = some false := (kp3.exm _ (List.mem_of_getElem? (i := 2) rfl)).trans (by decide)
  have x33 : PySem.W.exmOne K (.ref (He.ga K "NoQuery")) (.ref (He.ga K "NoQuery")) = some true := (kp3.exm _ (List.mem_of_getElem? (i := 3) rfl)).trans (by decide)
  have kp4 : Keep K "NothingToUndo" "many" "LookupError.__new__" [.type "LookupError", .type "Exception", .type "BaseException", .type "object"] := U.k _ (List.mem_of_getElem? (i := 4) rfl)
  have nm4 : Names (cxOf (L2.CX P w) P w K mg base n__law_kept "_law_kept" (defScope s__law_kept) f cdv A outer s H E) "NothingToUndo" (.ref (He.ga K "NothingToUndo")) := ⟨rfl, by decide, .inl T.g_NothingToUndo⟩
  have x40 : PySem.W.exmOne K (.ref (He.ga K "NothingToUndo")) (.ref (He.ga K "InvalidNumber")) = some false := (kp4.exm _ (List.mem_of_getElem? (i := 0) rfl)).trans (by decide)
  have x41 : PySem.W.exmOne K (.ref (He.ga K "NothingToUndo")) (.ref (He.ga K "UnknownName")) = some false := (kp4.exm _ (List.mem_of_getElem? (i := 1) rfl)).trans (by decide)
  have x42 : PySem.W.exmOne K (.ref (He.ga K "NothingToUndo")) (.ref (He.ga K "TooMany")) = some false := (kp4.exm _ (List.mem_of_getElem? (i := 2) rfl)).trans (by decide)
  have x43 : PySem.W.exmOne K (.ref (He.ga K "NothingToUndo")) (.ref (He.ga K "NoQuery")) = some false := (kp4.exm _ (List.mem_of_getElem? (i := 3) rfl)).trans (by decide)
  have x44 : PySem.W.exmOne K (.ref (He.ga K "NothingToUndo")) (.ref (He.ga K "NothingToUndo")) = some true := (kp4.exm _ (List.mem_of_getElem? (i := 4) rfl)).trans (by decide)
  have nmA : Names (cxOf (L2.CX P w) P w K mg base n__law_kept "_law_kept" (defScope s__law_kept) f cdv A outer s H E) "AskError" (.ref (He.ga K "AskError")) := ⟨rfl, by decide, .inl T.g_AskError⟩
  have is0 : PySem.W.kitOne K (.ref (He.ga K "InvalidNumber")) (.type "IndexError") = some true := U.i _ (List.mem_of_getElem? (i := 0) rfl)
  have is1 : PySem.W.kitOne K (.ref (He.ga K "UnknownName")) (.type "KeyError") = some true := U.i _ (List.mem_of_getElem? (i := 1) rfl)
  have is2 : PySem.W.kitOne K (.ref (He.ga K "TooMany")) (.type "OverflowError") = some true := U.i _ (List.mem_of_getElem? (i := 2) rfl)
  have is3 : PySem.W.kitOne K (.ref (He.ga K "NoQuery")) (.type "ArithmeticError") = some true := U.i _ (List.mem_of_getElem? (i := 3) rfl)
  have is4 : PySem.W.kitOne K (.ref (He.ga K "NoQuery")) (.type "OverflowError") = some false := U.i _ (List.mem_of_getElem? (i := 4) rfl)
  have is5 : PySem.W.kitOne K (.ref (He.ga K "NothingToUndo")) (.type "LookupError") = some true := U.i _ (List.mem_of_getElem? (i := 5) rfl)
  have is6 : PySem.W.kitOne K (.ref (He.ga K "NothingToUndo")) (.type "IndexError") = some false := U.i _ (List.mem_of_getElem? (i := 6) rfl)
  have is7 : PySem.W.kitOne K (.ref (He.ga K "NothingToUndo")) (.type "KeyError") = some false := U.i _ (List.mem_of_getElem? (i := 7) rfl)
  refine wb_cons (ws_try (Wout := fun _ _ _ _ => False) rfl rfl nd (fun _ _ ⟨_, _, _, _, _, _, _, _, _, _, _, _, _, _, _, _, w⟩ => w.elim) fun pn xe tk po => ?_)
  tbr_iter "go"
  refine ⟨_, rfl, w_if2 (fun c => ?_) (fun c0 => ?_)⟩
  · have e : i = 0 := by
      have e := of_decide_eq_true c
      injection e with e
      omega
    subst e
    refine wb_cons (ws_raiseO (ok_Number T U) (hr.mono (by decide)) tk (passes_call tk fun _ _ _ _ z => z.elim) (w_var 1 rfl (Or.inl rfl) rfl fun dd n0 => ?_))
    refine ⟨_, false, nmA, kp0.ask, (fun z => by cases z), fun _ => ?_⟩
    refine ⟨_, true, nm0, x00, fun _ a oe pn na hz hf => ⟨2, rfl, rfl, ?_⟩, (fun z => by cases z)⟩
    have sm : Same H (upd H dd (.xd [("value", v)])) := same_new n0
    tbr_iter "go"
    refine w_xf kp0.xf kp0.no hz hf ?_
    tbr_iter "go"
    refine ⟨rfl, _, v, upd_same, by simp [List.lookup], ?_⟩
    tbr_iter "go"
    refine cv_eqD hu (dp_same sm hd) (dp_same sm hd) sh sh ⟨true, congrArg V.bl ev, ?_⟩
    rw [if_pos rfl]
    tbr_iter "go"
    refine kv_isE kp0.ec (List.mem_cons_self ..) hz hf (by intro d2 z; cases z; exact ⟨_, upd_same⟩) (by intro u r; exact r) (by exact is0) ?_
    exact k _ sm
  tbr_iter "go"
  refine ⟨_, rfl, w_if2 (fun c => ?_) (fun c1 => ?_)⟩
  · have e : i = 1 := by
      have e := of_decide_eq_true c
      injection e with e
      omega
    subst e
    refine wb_cons (ws_raiseO (ok_Name T U) (hr.mono (by decide)) tk (passes_call tk fun _ _ _ _ z => z.elim) (w_var 1 rfl (Or.inl rfl) rfl fun dd n0 => ?_))
    refine ⟨_, false, nmA, kp1.ask, (fun z => by cases z), fun _ => ?_⟩
    refine ⟨_, false, nm0, x10, (fun z => by cases z), fun _ => ?_⟩
    refine ⟨_, true, nm1, x11, fun _ a oe pn na hz hf => ⟨2, rfl, rfl, ?_⟩, (fun z => by cases z)⟩
    have sm : Same H (upd H dd (.xd [("name", v)])) := same_new n0
    tbr_iter "go"
    refine w_xf kp1.xf kp1.no hz hf ?_
    tbr_iter "go"
    refine ⟨rfl, _, v, upd_same, by simp [List.lookup], ?_⟩
    tbr_iter "go"
    refine cv_eqD hu (dp_same sm hd) (dp_same sm hd) sh sh ⟨true, congrArg V.bl ev, ?_⟩
    rw [if_pos rfl]
    tbr_iter "go"
    refine kv_isE kp1.ec (List.mem_cons_self ..) hz hf (by intro d2 z; cases z; exact ⟨_, upd_same⟩) (by intro u r; exact r) (by exact is1) ?_
    exact k _ sm
  tbr_iter "go"
  refine ⟨_, rfl, w_if2 (fun c => ?_) (fun c2 => ?_)⟩
  · have e : i = 2 := by
      have e := of_decide_eq_true c
      injection e with e
      omega
    subst e
    refine wb_cons (ws_raiseO (ok_Many T U) (hr.mono (by decide)) tk (passes_call tk fun _ _ _ _ z => z.elim) (w_var 1 rfl (Or.inl rfl) rfl fun dd n0 => ?_))
    refine ⟨_, false, nmA, kp2.ask, (fun z => by cases z), fun _ => ?_⟩
    refine ⟨_, false, nm0, x20, (fun z => by cases z), fun _ => ?_⟩
    refine ⟨_, false, nm1, x21, (fun z => by cases z), fun _ => ?_⟩
    refine ⟨_, true, nm2, x22, fun _ a oe pn na hz hf => ⟨2, rfl, rfl, ?_⟩, (fun z => by cases z)⟩
    have sm : Same H (upd H dd (.xd [("limit", v)])) := same_new n0
    tbr_iter "go"
    refine w_xf kp2.xf kp2.no hz hf ?_
    tbr_iter "go"
    refine ⟨rfl, _, v, upd_same, by simp [List.lookup], ?_⟩
    tbr_iter "go"
    refine cv_eqD hu (dp_same sm hd) (dp_same sm hd) sh sh ⟨true, congrArg V.bl ev, ?_⟩
    rw [if_pos rfl]
    tbr_iter "go"
    refine kv_isE kp2.ec (List.mem_cons_self ..) hz hf (by intro d2 z; cases z; exact ⟨_, upd_same⟩) (by intro u r; exact r) (by exact is2) ?_
    exact k _ sm
  tbr_iter "go"
  refine ⟨_, rfl, w_if2 (fun c => ?_) (fun c3 => ?_)⟩
  · have e : i = 3 := by
      have e := of_decide_eq_true c
      injection e with e
      omega
    subst e
    refine wb_cons (ws_raiseO (ok_Query T U) (hr.mono (by decide)) tk (passes_call tk fun _ _ _ _ z => z.elim) (w_var 1 rfl (Or.inl rfl) rfl fun dd n0 => ?_))
    refine ⟨_, false, nmA, kp3.ask, (fun z => by cases z), fun _ => ?_⟩
    refine ⟨_, false, nm0, x30, (fun z => by cases z), fun _ => ?_⟩
    refine ⟨_, false, nm1, x31, (fun z => by cases z), fun _ => ?_⟩
    refine ⟨_, false, nm2, x32, (fun z => by cases z), fun _ => ?_⟩
    refine ⟨_, true, nm3, x33, fun _ a oe pn na hz hf => ⟨2, rfl, rfl, ?_⟩, (fun z => by cases z)⟩
    have sm : Same H (upd H dd (.xd [("keeper", v)])) := same_new n0
    tbr_iter "go"
    refine w_xf kp3.xf kp3.no hz hf ?_
    tbr_iter "go"
    refine ⟨rfl, _, v, upd_same, by simp [List.lookup], ?_⟩
    tbr_iter "go"
    refine cv_eqD hu (dp_same sm hd) (dp_same sm hd) sh sh ⟨true, congrArg V.bl ev, ?_⟩
    rw [if_pos rfl]
    tbr_iter "go"
    refine kv_isE kp3.ec (List.mem_cons_self ..) hz hf (by intro d2 z; cases z; exact ⟨_, upd_same⟩) (by intro u r; exact r) (by exact is3) ?_
    tbr_iter "go"
    refine kv_isE kp3.ec (List.mem_cons_self ..) hz hf (by intro d2 z; cases z; exact ⟨_, upd_same⟩) (by intro u r; exact r) (by exact is4) ?_
    exact ⟨_, rfl, k _ sm⟩
  tbr_iter "go"
  have e : i = 4 := by
    have ne : ∀ j : Nat, decide (V.int (i : Int) = V.int (j : Int)) = false → i ≠ j := fun j h e => by
      subst e
      simp at h
    have := ne 0 c0
    have := ne 1 c1
    have := ne 2 c2
    have := ne 3 c3
    omega
  subst e
  refine ws_raiseO (ok_Undo T U) (hr.mono (by decide)) tk (passes_call tk fun _ _ _ _ z => z.elim) (w_var 1 rfl (Or.inl rfl) rfl fun dd n0 => ?_)
  refine ⟨_, false, nmA, kp4.ask, (fun z => by cases z), fun _ => ?_⟩
  refine ⟨_, false, nm0, x40, (fun z => by cases z), fun _ => ?_⟩
  refine ⟨_, false, nm1, x41, (fun z => by cases z), fun _ => ?_⟩
  refine ⟨_, false, nm2, x42, (fun z => by cases z), fun _ => ?_⟩
  refine ⟨_, false, nm3, x43, (fun z => by cases z), fun _ => ?_⟩
  refine ⟨_, true, nm4, x44, fun _ a oe pn na hz hf => ⟨2, rfl, rfl, ?_⟩, (fun z => by cases z)⟩
  have sm : Same H (upd H dd (.xd [("many", v)])) := same_new n0
  refine wb_cons (ws_set 3 ?_ rfl nd)
  tbr_iter "go"
  refine kv_isE kp4.ec (List.mem_cons_self ..) hz hf (by intro d2 z; cases z; exact ⟨_, upd_same⟩) (by intro u r; exact r) (by exact is5) ?_
  tbr_iter "go"
  refine kv_isE kp4.ec (List.mem_cons_self ..) hz hf (by intro d2 z; cases z; exact ⟨_, upd_same⟩) (by intro u r; exact r) (by exact is6) ?_
  tbr_iter "go"
  refine kv_isE kp4.ec (List.mem_cons_self ..) hz hf (by intro d2 z; cases z; exact ⟨_, upd_same⟩) (by intro u r; exact r) (by exact is7) ?_
  tbr_iter "go"
  refine ⟨show 3 ≤ sizeLine by decide, fun q1 H1 s1 n1 e1 => ?_⟩
  tbr_iter "go"
  refine w_xf kp4.xf kp4.no hz hf ?_
  tbr_iter "go"
  refine ⟨rfl, _, v, s1 _ _ upd_same, by simp [List.lookup], ?_⟩
  tbr_iter "go"
  refine cv_eqD hu (dp_same (sm.trans s1) hd) (dp_same (sm.trans s1) hd) sh sh ⟨true, congrArg V.bl ev, ?_⟩
  rw [if_pos rfl]
  tbr_iter "go"
  refine ⟨show 3 ≤ sizeLine by decide, fun q2 H2 s2 n2 e2 => ?_⟩
  refine cv_eqD hu (.lst (SqL.of (s2 _ _ e1)) (dpa_bls [true, false, false])) (.lst (SqL.of e2) (dpa_bls [true, false, false])) rfl rfl ?_
  rw [show PyData.eqv (.list ([true, false, false].map PyData.bool)) (.list ([true, false, false].map PyData.bool)) = true from by decide +kernel]
  exact k _ (sm.trans (s1.trans s2))
end
end Ax
end
section
set_option maxHeartbeats 4000000
open PySem PySem.Spec PyProof.Rows L2 Ax
set_option hygiene false in
local macro_rules | `(tactic| tbr_iter "boot") => `(tactic| with_reducible first | exact Ax.b_len | exact Ax.b_all | exact Ax.b_any | exact Ax.b_sorted | exact Ax.b_isinstance | exact Ax.b_abs | exact Ax.b_max | exact Ax.b_min | exact Ax.b_sum | exact Ax.b_repr | exact Ax.b_iter | exact Ax.b_ord | exact Ax.b_chr | exact Ax.b_str | exact Ax.b_int | exact Ax.b_bool | exact Ax.b_tuple | exact Ax.b_list | exact Ax.b_dict | exact Ax.b_set | exact Ax.b_range | exact Ax.b_enumerate | exact Ax.b_zip)
set_option hygiene false in
local macro_rules | `(tactic| tbr_iter "vis") => `(tactic| first | exact Or.inl rfl | exact Or.inr (Or.inl rfl) | exact Or.inr (Or.inr rfl))
set_option hygiene false in
local macro_rules | `(tactic| tbr_iter "w") => `(tactic| first
  | refine wb_cons ?_
  | refine wb_nil ?_
  | refine ws_ret ?_
  | refine ws_if ?_
  | refine ws_sub ?_
  | refine wa_cons ?_
  | refine wa_nil ?_
  | refine w_int ?_
  | refine w_str ?_
  | refine w_bl ?_
  | refine w_non ?_
  | tbr_iter "var"
  | refine w_bin ?_
  | refine w_cmp ?_
  | refine w_chain ?_
  | refine w_and ?_
  | refine w_or ?_
  | refine w_one ?_
  | refine w_not ?_
  | refine w_ix ?_
  | refine w_ifExp ?_
  | refine w_tup ?_
  | refine w_lst ?_
  | refine wt_not ?_
  | refine wt_bool ?_
  | refine ww_and ?_
  | refine ww_and1 ?_
  | refine ww_or ?_
  | refine ww_or1 ?_
  | refine wt_cmp ?_
  | refine wt_val ?_
  | tbr_iter "call"
  | (refine w_glob (by tbr_iter "mg") ?_)
  | (refine w_callB (by tbr_iter "z") ?_)
  | (refine w_callTy (by tbr_iter "z") ?_)
  | (refine w_bltT (by tbr_iter "z") ?_))
set_option hygiene false in
local macro_rules | `(tactic| tbr_iter "blk") => `(tactic| first | exact blkOk_by (by dsimp only [cxOf, envOfC]; decide +kernel))
set_option hygiene false in
local macro_rules | `(tactic| tbr_iter "iff") => `(tactic| first
  | refine iteT ?_
  | refine iteF ?_
  | refine w_if2 (fun _ => ?_) (fun _ => ?_))
set_option hygiene false in
local macro_rules | `(tactic| tbr_iter "sc") => `(tactic| first | omega | decide)
set_option hygiene false in
local macro_rules | `(tactic| tbr_iter "at") => `(tactic| first | exact atI_0 | exact atI_1 | exact atI_2)
set_option hygiene false in
local macro_rules | `(tactic| tbr_iter "sql") => `(tactic| ((try dsimp only [L2.cxOf, L2.Cx.blk]); with_reducible first | assumption | exact SqL.of (by assumption)))
set_option hygiene false in
local macro_rules | `(tactic| tbr_iter "sqt") => `(tactic| ((try dsimp only [L2.cxOf, L2.Cx.blk]); with_reducible first | assumption | exact SqT.of (by assumption)))
set_option hygiene false in
local macro_rules | `(tactic| tbr_iter "v") => `(tactic| first
  | refine bv_add ?_
  | refine bv_sub ?_
  | ((with_reducible show BinV _ .Mult _ _ _ _); refine bv_mul (Or.inl ⟨by tbr_iter "sc", by tbr_iter "sc"⟩) ?_)
  | ((with_reducible show BinV _ .Mult _ _ _ _); refine bv_mul (Or.inr ⟨by tbr_iter "sc", by tbr_iter "sc"⟩) ?_)
  | ((with_reducible show BinV _ .Mod _ _ _ _); refine bv_mod (by tbr_iter "sc") ?_)
  | ((with_reducible show BinV _ .FloorDiv _ _ _ _); refine bv_fdiv ⟨by tbr_iter "sc", by tbr_iter "sc"⟩ ?_)
  | ((with_reducible show BinV _ .Pow _ _ _ _); refine bv_pow ⟨by decide, by decide +kernel⟩ ?_)
  | refine cv_lt ?_
  | refine cv_le ?_
  | refine cv_gt ?_
  | refine cv_ge ?_
  | ((with_reducible show CmpV _ .Eq _ _ _ _); refine cv_eq rfl ?_)
  | ((with_reducible show CmpV _ .NotEq _ _ _ _); refine cv_ne rfl ?_)
  | refine iv_list (by tbr_iter "sql") (by tbr_iter "at") ?_
  | refine iv_tup (by tbr_iter "sqt") (by tbr_iter "at") ?_
  | refine kv_len_seq (Or.inl (by tbr_iter "sql")) ?_
  | refine kv_len_seq (Or.inr (by tbr_iter "sqt")) ?_
  | refine kv_int ?_
  | refine kv_intB ?_
  | refine kv_abs ?_
  | refine kv_max2 rfl ?_
  | refine kv_min2 rfl ?_)
set_option hygiene false in
local macro_rules | `(tactic| tbr_iter "b") => `(tactic| first
  | refine ⟨_, rfl, iteT ?_⟩
  | refine ⟨_, rfl, iteF ?_⟩
  | refine iteT ?_
  | refine iteF ?_)
set_option hygiene false in
local macro_rules | `(tactic| tbr_iter "go") => `(tactic| repeat (first | tbr_iter "w" | tbr_iter "v" | tbr_iter "b"))
set_option hygiene false in
local macro_rules | `(tactic| tbr_iter "nof") => `(tactic| (intro d hd; cases d <;> first | rfl | exact absurd rfl (hd _)))
set_option hygiene false in
local macro_rules | `(tactic| tbr_iter "e1") => `(tactic| first | ((with_reducible show W _ _ _ _ _); tbr_iter "w") | ((with_reducible show WA _ _ _ _ _); tbr_iter "w") | ((with_reducible show WT _ _ _ _ _); tbr_iter "w") | ((with_reducible show WW _ _ _ _ _); tbr_iter "w") | tbr_iter "v")
set_option hygiene false in
local macro_rules | `(tactic| tbr_iter "ex") => `(tactic| repeat (tbr_iter "e1"))
set_option hygiene false in
local macro_rules | `(tactic| tbr_iter "z") => `(tactic| ((try dsimp only [L2.cxOf]); with_reducible first | exact T.z_ArithmeticError | exact T.z_IndexError | exact T.z_KeyError | exact T.z_LookupError | exact T.z_OverflowError | exact T.z_ValueError | exact T.z_int | exact T.z_isinstance | exact T.z_len | exact T.z_range | exact T.z_str))
set_option hygiene false in
local macro_rules | `(tactic| tbr_iter "mg") => `(tactic| ((try dsimp only [L2.cxOf]); with_reducible first | exact T.c_MAX_COLUMNS | exact T.c_MAX_VALUES | exact T.c_MAX_TABLES | exact T.c_MAX_VARIABLES | exact T.c_MAX_ATOMS | exact T.c_MAX_SEARCH | exact T.c_MAX_CASES))
set_option hygiene false in
local macro_rules | `(tactic| tbr_iter "z") => `(tactic| ((try dsimp only [L2.cxOf, L2.Cx.blk]); with_reducible first | exact T.z_int | exact T.z_isinstance | exact T.z_len | exact T.z_range | exact T.z_str))
namespace Ax
def langL : List Str := ["flat one plain", "flat one unlike", "flat one not", "flat many plain", "flat many unlike", "flat many not", "deep one plain", "deep one unlike", "deep one not", "deep many plain", "deep many unlike", "deep many not"]
def rowsL : List (List Str) := langL.map fun z => Txt.split z " "
def dpt (j : Nat) : Str := if j = 0 then "flat" else "deep"
def nmb (k : Nat) : Str := if k = 0 then "one" else "many"
def wrdL : List Str := ["plain", "unlike", "not"]
theorem rows_step : ∀ j, j < 2 → ∀ k, k < 2 → rowsL.take (6 * j + 3 * k) ++ wrdL.map (fun z => [dpt j, nmb k, z]) = rowsL.take (6 * j + 3 * (k + 1)) := by decide +kernel
/-- y is a list of these texts, none of the list at d -/
def Rw (d : Addr) (H : Hp) (y : V) (row : List Str) : Prop := ∃ p, y = .ref p ∧ p ≠ d ∧ H p = some (.lst (row.map V.str))
theorem rw_bt {d : Addr} {H H' : Hp} (b : Bt d H H') {y : V} {row : List Str} (r : Rw d H y row) : Rw d H' y row := by
  obtain ⟨p, e, n, h⟩ := r
  exact ⟨p, e, n, b p _ n h⟩
theorem dpa_rows {K : PySem.W.Frag} {d : Addr} {H : Hp} : ∀ {ys : List V} {rows : List (List Str)}, All2 (Rw d H) ys rows → DpAll K H ys (rows.map fun row => .list (row.map .str))
  | _, _, .nil => .nil
  | _, _, .cons h t => by
    obtain ⟨p, rfl, _, h⟩ := h
    exact .cons (.lst (SqL.of h) (dpa_strs _)) (dpa_rows t)
theorem rows_fine : SeqAt.shaped (.list (rowsL.map fun row => .list (row.map .str))) = true ∧ PyData.eqv (.list (rowsL.map fun row => .list (row.map .str))) (.list (rowsL.map fun row => .list (row.map .str))) = true := by decide +kernel
theorem rel2_all2 {R : V → V → Prop} {S : V → List Str → Prop} (f : Str → List Str) (k : ∀ z y, R (.str z) y → S y (f z)) : ∀ {zs : List Str} {ys : List V}, Rel2 R (zs.map V.str) ys → All2 S ys (zs.map f)
  | [], _, .nil => .nil
  | _ :: _, _, .cons h t => .cons (k _ _ h) (rel2_all2 f k t)
def csOf (ns : List Int) : List Str := (ns.take 8).map (fun i => Str.ofString (toString (i % 999983))) ++ [Str.ofString "w", Str.ofString ""]
theorem strOk_of (s : String) : PyData.strOk (Str.ofString s) = true := by
  unfold PyData.strOk
  rw [Str.ofString_eq_toList, ← Array.all_toList]
  simp only [List.all_eq_true, decide_eq_true_eq]
  intro c hc
  obtain ⟨ch, _, rfl⟩ : ∃ ch : Char, ch ∈ s.toList ∧ ch.toNat = c := by simpa using hc
  have h := ch.valid
  have e : ch.toNat = ch.val.toNat := rfl
  rcases h with h | h
  · rw [e]; omega
  · rw [e]; omega
theorem cs_ok (ns : List Int) : ∀ z ∈ csOf ns, okD (.str z) = true := by
  intro z hz
  have key : ∀ s : String, (Str.ofString s).length ≤ 1000 → okD (.str (Str.ofString s)) = true := fun s h => by
    have e : okD (.str (Str.ofString s)) = ((PyData.strOk (Str.ofString s) && decide ((Str.ofString s).length ≤ 1000)) && true) := rfl
    rw [e, strOk_of, decide_eq_true h] <;> rfl
  unfold csOf at hz
  rcases List.mem_append.mp hz with h | h
  · obtain ⟨i, _, rfl⟩ := List.mem_map.mp h
    exact key _ (Nat.le_trans (toString_length_le (v := i % 999983) (by omega) (k := 6) (by decide) (by omega)) (by decide))
  · rcases List.mem_cons.mp h with rfl | h
    · exact key _ (by decide)
    · rw [List.mem_singleton.mp h]
      exact key _ (by decide)
theorem cs_len (ns : List Int) : (csOf ns).length ≤ 10 := by
  unfold csOf
  simp
  omega
theorem cs_eq (ns : List Int) : List.map (fun v => match v with | V.int i => V.str (Str.ofString (toString (i % 999983))) | v => v) (List.take 8 (List.map V.int ns)) ++ [V.str (Str.ofString "w"), V.str (Str.ofString "")] = (csOf ns).map V.str := by
  unfold csOf
  rw [List.map_append, ← List.map_take, List.map_map, List.map_map] <;> rfl
def spLaw0 (K : PySem.W.Frag) : Sp := fun vs H Q _ => ∃ (a : Addr) (ns : List Int), vs = [.ref a] ∧ SqL K H a (ns.map V.int) ∧ ns.length ≤ 63 ∧ ∀ H', Q (.bl true) H'
section
variable {P : Program} {w : World} {K : PySem.W.Frag} {mg : Str → Option Value} {base : Heap}
set_option hygiene false in
local macro_rules | `(tactic| tbr_iter "var") => `(tactic| first | ((with_reducible show W _ (.Name "script" _) _ _ _); refine w_var 0 rfl (by tbr_iter "vis") rfl ?_) | ((with_reducible show W _ (.Name "cells" _) _ _ _); refine w_var 1 rfl (by tbr_iter "vis") rfl ?_) | ((with_reducible show W _ (.Name "text" _) _ _ _); refine w_var 2 rfl (by tbr_iter "vis") rfl ?_) | ((with_reducible show W _ (.Name "value" _) _ _ _); refine w_var 3 rfl (by tbr_iter "vis") rfl ?_) | ((with_reducible show W _ (.Name "told" _) _ _ _); refine w_var 4 rfl (by tbr_iter "vis") rfl ?_) | ((with_reducible show W _ (.Name "words" _) _ _ _); refine w_var 5 rfl (by tbr_iter "vis") rfl ?_) | ((with_reducible show W _ (.Name "due" _) _ _ _); refine w_var 6 rfl (by tbr_iter "vis") rfl ?_) | ((with_reducible show W _ (.Name "depth" _) _ _ _); refine w_var 7 rfl (by tbr_iter "vis") rfl ?_) | ((with_reducible show W _ (.Name "number" _) _ _ _); refine w_var 8 rfl (by tbr_iter "vis") rfl ?_) | ((with_reducible show W _ (.Name "cell" _) _ _ _); refine w_var 9 rfl (by tbr_iter "vis") rfl ?_) | ((with_reducible show W _ (.Name "at" _) _ _ _); refine w_var 10 rfl (by tbr_iter "vis") rfl ?_) | ((with_reducible show W _ (.Name "language" _) _ _ _); refine w_var 11 rfl (by tbr_iter "vis") rfl ?_) | ((with_reducible show W _ (.Name "word" _) _ _ _); refine w_var 12 rfl (by tbr_iter "vis") rfl ?_))
set_option hygiene false in
local macro_rules | `(tactic| tbr_iter "set") => `(tactic| first | ((with_reducible show WB _ (.Assign [.Name "script" _] _ _ :: _) _ _ _); refine wb_cons (ws_set 0 ?_ rfl nd)) | ((with_reducible show WB _ (.Assign [.Name "cells" _] _ _ :: _) _ _ _); refine wb_cons (ws_set 1 ?_ rfl nd)) | ((with_reducible show WB _ (.Assign [.Name "text" _] _ _ :: _) _ _ _); refine wb_cons (ws_set 2 ?_ rfl nd)) | ((with_reducible show WB _ (.Assign [.Name "value" _] _ _ :: _) _ _ _); refine wb_cons (ws_set 3 ?_ rfl nd)) | ((with_reducible show WB _ (.Assign [.Name "told" _] _ _ :: _) _ _ _); refine wb_cons (ws_set 4 ?_ rfl nd)) | ((with_reducible show WB _ (.Assign [.Name "words" _] _ _ :: _) _ _ _); refine wb_cons (ws_set 5 ?_ rfl nd)) | ((with_reducible show WB _ (.Assign [.Name "due" _] _ _ :: _) _ _ _); refine wb_cons (ws_set 6 ?_ rfl nd)) | ((with_reducible show WB _ (.Assign [.Name "depth" _] _ _ :: _) _ _ _); refine wb_cons (ws_set 7 ?_ rfl nd)) | ((with_reducible show WB _ (.Assign [.Name "number" _] _ _ :: _) _ _ _); refine wb_cons (ws_set 8 ?_ rfl nd)) | ((with_reducible show WB _ (.Assign [.Name "cell" _] _ _ :: _) _ _ _); refine wb_cons (ws_set 9 ?_ rfl nd)) | ((with_reducible show WB _ (.Assign [.Name "at" _] _ _ :: _) _ _ _); refine wb_cons (ws_set 10 ?_ rfl nd)) | ((with_reducible show WB _ (.Assign [.Name "language" _] _ _ :: _) _ _ _); refine wb_cons (ws_set 11 ?_ rfl nd)) | ((with_reducible show WB _ (.Assign [.Name "word" _] _ _ :: _) _ _ _); refine wb_cons (ws_set 12 ?_ rfl nd)))
theorem ok_law {f : Addr} {fd : FuncData} (T : Txt K mg) (U : TxtU K) (F : FunD K "law" "law" (defArgs s_law) (defBody s_law) (defScope s_law) [] [] f fd) : FnOk P w K mg base (L2.CX P w) 5 f fd ["script"] (spLaw0 K) := by
  refine F.ok sc_law (fun vs H Q E h => ?_) fun cdv A outer s H vs Q E hr h => ⟨_, WB.pss, ?_⟩
  · obtain ⟨a, ns, rfl, _⟩ := h; rfl
  obtain ⟨a, ns, rfl, hs, hl, k⟩ := h
  have nd := sc_law.nd
  have hu : (A.deeper (envOfC "law" (defScope s_law) s.heap.objs.size f cdv)).units + 64 < cLine := by
    have := hr.un
    omega
  have hu0 : (A.deeper (envOfC "law" (defScope s_law) s.heap.objs.size f cdv)).units < cLine := by omega
  refine wb_cons (ws_set 1 ?_ rfl nd)
  refine w_bin (w_lcF 9 (fun v => match v with | .int i => .str (Str.ofString (toString (i % 999983))) | v => v) rfl nd (by tbr_iter "blk") rfl (fun _ _ _ _ _ => ⟨Or.inl rfl, Or.inr rfl⟩) (wi_val (w_cutTo ?_)))
  tbr_iter "go"
  refine ⟨a, 8, _, rfl, rfl, hs, fun r1 H1 s1 n1 e1 => itv_list (SqL.of e1) ⟨_, seqIt_list (SqL.of e1), ?_, fun v hv H2 s2 _ _ _ _ _ => ?_, fun p H2 s2 n2 e2 => ?_⟩⟩
  · rw [List.length_take, sizeLine_eq]
    omega
  · obtain ⟨i, _, rfl⟩ := List.mem_map.mp (List.mem_of_mem_take hv)
    tbr_iter "go"
    refine kv_strI ?_ ⟨Same.refl _, rfl⟩
    have h1 : (i % 999983).natAbs < 2 ^ 20 := by omega
    by_cases h0 : (i % 999983).natAbs = 0
    · rw [h0] <;> decide
    · have := (Nat.log2_lt h0).mpr h1
      omega
  tbr_iter "go"
  refine ⟨show 2 ≤ sizeLine by decide, fun p2 H3 s3 n3 e3 => bv_cat (s3 _ _ e2) e3 ?_ fun q H4 s4 n4 e4 => ?_⟩
  · rw [List.length_map, List.length_take, sizeLine_eq]
    simp
    omega
  rw [cs_eq] at e4
  refine wb_cons (ws_for 2 (wi_val ?_) rfl nd (passes_of rfl))
  tbr_iter "go"
  refine itv_list (SqL.of e4) ⟨_, _, _, walk_list, fun j σ Hc => ∃ c2 c3, σ = [some (.ref a), some (.ref q), c2, c3, none, none, none, none, none, none, none, none, none] ∧ Same H4 Hc, ⟨none, none, rfl, Same.refl _⟩, fun _ _ _ _ ⟨_, _, _, s⟩ => s.seq (SqL.of e4), ?_, ?_⟩
  · rintro j v σ Hc Hc' hj ⟨c2, c3, rfl, sc⟩ ⟨e, hv⟩
    subst e
    obtain ⟨z, hz, rfl⟩ := List.mem_map.mp (List.mem_of_getElem? hv)
    have oz := cs_ok ns z hz
    tbr_iter "go"
    refine w_lcNo 10 rfl nd (by tbr_iter "blk") rfl (fun _ _ _ _ _ => ⟨Or.inl rfl, Or.inr rfl⟩) (wi_range1 T.z_range ?_)
    tbr_iter "go"
    refine ⟨11, rfl, by decide, by decide, _, seqIt_range, by decide, fun v hv H2 s2 _ _ _ _ _ => ?_, fun q5 H5 s5 n5 e5 => ?_⟩
    · obtain ⟨i, hi, rfl⟩ := List.mem_map.mp hv
      have hi := List.mem_range.mp hi
      rw [Int.zero_add]
      tbr_iter "go"
      refine w_call (ok_plain T U) (hr.mono (by decide)) passL ?_
      tbr_iter "go"
      exact ⟨i, z, hi, rfl, fun H' s => ⟨_, rfl, rfl, s⟩⟩
    tbr_iter "go"
    refine ⟨Nat.zero_le _, fun q6 H6 s6 n6 e6 => cv_ne_nil hu0 (SqL.of (s6 _ _ e5)) (SqL.of e6) ⟨false, rfl, iteF ?_⟩⟩
    refine wb_nil (wb_cons (ws_for 3 (wi_val ?_) rfl nd (passes_of rfl)))
    tbr_iter "go"
    refine ⟨show 2 ≤ sizeLine by decide, fun p1 H7 s7 n7 e7 => ?_⟩
    tbr_iter "go"
    refine kv_len_str (okD.str oz) ?_
    tbr_iter "go"
    refine ⟨Nat.zero_le _, fun p2 H8 s8 n8 e8 => ?_⟩
    tbr_iter "go"
    refine ⟨show 2 ≤ sizeLine by decide, fun p3 H9 s9 n9 e9 => ?_⟩
    tbr_iter "go"
    refine ⟨show 5 ≤ sizeLine by decide, fun p4 H10 s10 n10 e10 => ?_⟩
    have lay : ∀ d, okD d = true → SeqAt.shaped d = true ∧ PyData.eqv d d = true := fun d h => ⟨okD.shaped h, SeqAt.eqv_refl d (SeqAt.canLay_of_shaped (okD.shaped h))⟩
    have hd : ∀ v ∈ [V.str z, .ref p1, .non, .int z.length, .ref p3], ∃ d, Dp K H10 v d ∧ SeqAt.shaped d = true ∧ PyData.eqv d d = true := by
      intro v hv
      rcases List.mem_cons.mp hv with rfl | hv
      · exact ⟨_, .str z, lay _ oz⟩
      rcases List.mem_cons.mp hv with rfl | hv
      · have o1 : okD (.tuple [.str z, .int 1]) = true := by
          have t : tame (.str z) = true := (Bool.and_eq_true_iff.mp oz).1
          show ((tame (.str z) && (true && true)) && decide (2 ≤ 100000) && decide (1 ≤ 60)) = true
          simp [t]
        exact ⟨_, .tup (SqT.of (s10 _ _ (s9 _ _ (s8 _ _ e7)))) (.cons (.str z) (.cons (.int 1) .nil)), lay _ o1⟩
      rcases List.mem_cons.mp hv with rfl | hv
      · exact ⟨_, .non, rfl, rfl⟩
      rcases List.mem_cons.mp hv with rfl | hv
      · exact ⟨_, .int _, lay _ rfl⟩
      rw [List.mem_singleton.mp hv]
      exact ⟨_, .tup (SqT.of (s10 _ _ e9)) (.cons (.str _) (.cons (.tup (SqT.of (s10 _ _ (s9 _ _ e8))) .nil) .nil)), lay _ (by decide +kernel)⟩
    have s410 : Same H4 H10 := (((((((sc.trans s5).trans s6).trans s7).trans s8).trans s9).trans s10))
    refine itv_tup (SqT.of e10) ⟨_, _, _, walk_tup, fun j σ Hd => ∃ c3, σ = [some (.ref a), some (.ref q), some (.str z), c3, none, none, none, none, none, none, none, none, none] ∧ Same H10 Hd, ⟨_, rfl, Same.refl _⟩, fun _ _ _ _ ⟨_, _, s⟩ => same_tup s (SqT.of e10), ?_, ?_⟩
    · rintro j v σ Hd Hd' hj ⟨c3, rfl, sd⟩ ⟨e, hv⟩
      subst e
      obtain ⟨d, h1, h2, h3⟩ := hd v (List.mem_of_getElem? hv)
      tbr_iter "go"
      refine w_lcNo 10 rfl nd (by tbr_iter "blk") rfl (fun _ _ _ _ _ => ⟨Or.inl rfl, Or.inr rfl⟩) (wi_range1 T.z_range ?_)
      tbr_iter "go"
      refine ⟨5, rfl, by decide, by decide, _, seqIt_range, by decide, fun u hu1 H2 s2 _ _ _ _ _ => ?_, fun q5 H5 s5 n5 e5 => ?_⟩
      · obtain ⟨i, hi, rfl⟩ := List.mem_map.mp hu1
        have hi := List.mem_range.mp hi
        rw [Int.zero_add]
        tbr_iter "go"
        refine w_call (ok_kept T U) (hr.mono (by decide)) passL ?_
        tbr_iter "go"
        exact ⟨i, v, d, hi, rfl, dp_same (sd.trans s2) h1, h2, h3, fun H' s => ⟨_, rfl, rfl, s⟩⟩
      tbr_iter "go"
      refine ⟨Nat.zero_le _, fun q6 H6 s6 n6 e6 => cv_ne_nil hu0 (SqL.of (s6 _ _ e5)) (SqL.of e6) ⟨false, rfl, iteF ?_⟩⟩
      exact wb_nil (wb_nil ⟨_, rfl, (sd.trans s5).trans s6⟩)
    · rintro σ Hd ⟨c3, rfl, sd⟩
      exact wb_nil ⟨_, _, rfl, s410.trans sd⟩
  · rintro σ Hc ⟨c2, c3, rfl, sc⟩
    refine wb_cons (ws_set 4 ?_ rfl nd)
    refine w_lst (wa_cons (w_glob T.c_MAX_COLUMNS (wa_cons (w_glob T.c_MAX_VALUES (wa_cons (w_glob T.c_MAX_TABLES (wa_cons (w_glob T.c_MAX_VARIABLES (wa_cons (w_glob T.c_MAX_ATOMS (wa_cons (w_glob T.c_MAX_CASES (wa_cons (w_glob T.c_MAX_SEARCH (wa_nil ?_)))))))))))))))
    refine ⟨show 7 ≤ sizeLine by decide, fun q1 H1 s1 n1 e1 => ?_⟩
    tbr_iter "go"
    refine ⟨show 7 ≤ sizeLine by decide, fun q2 H2 s2 n2 e2 => ?_⟩
    refine cv_neD hu (.lst (SqL.of (s2 _ _ e1)) (dpa_ints [3, 6, 4, 16, 20000, 4, 65536])) (.lst (SqL.of e2) (dpa_ints [3, 6, 4, 16, 20000, 4, 65536])) (by decide +kernel) (by decide +kernel) ⟨false, congrArg V.bl (by decide +kernel), ?_⟩
    rw [if_neg (by decide)]
    refine ww_or1 (wt_cmp (w_callB T.z_len (wa_cons (w_glob (glob_ref T.c_LANGUAGES.1) (wa_nil (kv_len_seq (Or.inr (T.c_LANGUAGES.2 _)) ?_))))))
    tbr_iter "go"
    refine ws_setLcD 5 11 rfl nd (by tbr_iter "blk") rfl rfl (fun _ _ _ _ _ => ⟨Or.inl rfl, Or.inr rfl⟩) (wi_val (w_glob (glob_ref T.c_LANGUAGES.1) ?_))
    refine itv_tup (T.c_LANGUAGES.2 _) ⟨_, seqIt_tup (T.c_LANGUAGES.2 _), by decide, fun D v y H => ∃ z, v = .str z ∧ Rw D H y (Txt.split z " "), fun D x y Ha Hb ⟨z, e, r⟩ b => ⟨z, e, rw_bt b r⟩, fun v hv D H3 s3 ⟨acc, hD⟩ _ _ _ _ _ => ?_, fun qw ws H3 s3 n3 e3 rel => ?_⟩
    · obtain ⟨z, hz, rfl⟩ : ∃ z, z ∈ langL ∧ v = .str z := by
        have h : v ∈ langL.map V.str := hv
        obtain ⟨z, hz, e⟩ := List.mem_map.mp h
        exact ⟨z, hz, e.symm⟩
      have hl : z.length + 2 ≤ sizeLine := by
        have h : ∀ z ∈ langL, z.length + 2 ≤ 20 := by decide +kernel
        exact Nat.le_trans (h z hz) (by decide)
      refine w_bm1 PySem.F.plainAttrs_str PySem.F.slot_str_split PySem.F.type_str_split ?_
      tbr_iter "go"
      refine ⟨rfl, ?_⟩
      tbr_iter "go"
      refine mv_split rfl hl fun p H4 s4 n4 e4 => ⟨s4, z, rfl, p, rfl, fun e => ?_, e4⟩
      rw [e, hD] at n4
      cases n4
    have hw : All2 (Rw qw H3) ws rowsL := rel2_all2 (zs := langL) (fun z => Txt.split z " ") (fun z y ⟨z', e, r⟩ => by cases e; exact r) rel
    refine wb_cons (ws_set 6 ?_ rfl nd)
    tbr_iter "go"
    refine ⟨Nat.zero_le _, fun qd H4 s4 n4 e4 => ?_⟩
    have hw4 : ∀ Hc, Bt qd H4 Hc → Hc qw = some (.lst ws) ∧ All2 (Rw qw Hc) ws rowsL := fun Hc b => by
      have old : ∀ (p : Addr) o, H3 p = some o → Hc p = some o := fun p o h => b p o (fun e => by rw [e, n4] at h; cases h) (s4 _ _ h)
      exact ⟨old _ _ e3, hw.imp fun y row ⟨p, e, n, h⟩ => ⟨p, e, n, old _ _ h⟩⟩
    refine wb_cons (ws_for 7 (wi_val ?_) rfl nd (passes_of rfl))
    tbr_iter "go"
    refine ⟨show 2 ≤ sizeLine by decide, fun t1 H5 s5 n5 e5 => ?_⟩
    have t1d : t1 ≠ qd := fun e => by rw [e, e4] at n5; cases n5
    refine itv_tup (SqT.of e5) ⟨_, _, _, walk_tup, fun j σ Hc => ∃ c7 c8 ys, σ = [some (.ref a), some (.ref q), c2, c3, some (.ref q1), some (.ref qw), some (.ref qd), c7, c8, none, none, none, none] ∧ Bt qd H5 Hc ∧ Hc qd = some (.lst ys) ∧ All2 (Rw qd Hc) ys (rowsL.take (6 * j)), ⟨none, none, [], rfl, Bt.refl _ _, s5 _ _ e4, .nil⟩,
      fun _ _ _ _ ⟨_, _, _, _, b, _⟩ => SqT.of (b _ _ t1d e5), ?_, ?_⟩
    · rintro j v σ Hc Hc' hj ⟨c7, c8, ys, rfl, bt, hd, hr6⟩ ⟨e, hv⟩
      subst e
      have hj : j < 2 := hj
      have ev : v = .str (dpt j) := by
        rcases (show j = 0 ∨ j = 1 by omega) with rfl | rfl
        · exact (Option.some.inj hv).symm
        · exact (Option.some.inj hv).symm
      subst ev
      refine wb_cons (ws_for 8 (wi_val ?_) rfl nd (passes_of rfl))
      tbr_iter "go"
      refine ⟨show 2 ≤ sizeLine by decide, fun t2 H6 s6 n6 e6 => ?_⟩
      have t2d : t2 ≠ qd := fun e => by rw [e, hd] at n6; cases n6
      refine itv_tup (SqT.of e6) ⟨_, _, _, walk_tup, fun m σ Hd => ∃ c8 ys, σ = [some (.ref a), some (.ref q), c2, c3, some (.ref q1), some (.ref qw), some (.ref qd), some (.str (dpt j)), c8, none, none, none, none] ∧ Bt qd H6 Hd ∧ Hd qd = some (.lst ys) ∧ All2 (Rw qd Hd) ys (rowsL.take (6 * j + 3 * m)),
        ⟨c8, ys, rfl, Bt.refl _ _, s6 _ _ hd, hr6.imp fun y row r => rw_bt (Bt.of s6) r⟩, fun _ _ _ _ ⟨_, _, _, b, _⟩ => SqT.of (b _ _ t2d e6), ?_, ?_⟩
      · rintro m v σ Hd Hd' hm ⟨c8, ys, rfl, bd, hd, hr7⟩ ⟨e, hv⟩
        subst e
        have hm : m < 2 := hm
        have ev : v = .str (nmb m) := by
          rcases (show m = 0 ∨ m = 1 by omega) with rfl | rfl
          · exact (Option.some.inj hv).symm
          · exact (Option.some.inj hv).symm
        subst ev
        refine wb_cons (ws_expr (w_bm1 PySem.F.plainAttrs_list PySem.F.slot_list_extend PySem.F.type_list_extend ?_))
        tbr_iter "go"
        refine ⟨tyV_list ⟨qd, ys, rfl, SqL.of hd⟩, ?_⟩
        refine w_lcD 12 rfl nd (by tbr_iter "blk") rfl (fun _ _ _ _ _ => ⟨Or.inl rfl, Or.inr rfl⟩) (wi_val ?_)
        tbr_iter "go"
        refine ⟨show 3 ≤ sizeLine by decide, fun t3 H7 s7 n7 e7 => ?_⟩
        refine itv_tup (SqT.of e7) ⟨_, seqIt_tup (SqT.of e7), by decide, fun D v y H => ∃ z p, v = .str z ∧ y = .ref p ∧ p ≠ D ∧ p ≠ qd ∧ H p = some (.lst ([dpt j, nmb m, z].map V.str)), fun D x y Ha Hb ⟨z, p, e1, e2, n1, n2, h⟩ b => ⟨z, p, e1, e2, n1, n2, b _ _ n1 h⟩,
          fun v hv D H8 s8 ⟨acc, hD⟩ _ _ _ _ _ => ?_, fun qx zs H8 s8 n8 e8 rel => ?_⟩
        · obtain ⟨z, _, rfl⟩ := List.mem_map.mp (show v ∈ wrdL.map V.str from hv)
          tbr_iter "go"
          refine ⟨show 3 ≤ sizeLine by decide, fun p H9 s9 n9 e9 => ⟨s9, z, p, rfl, rfl, fun e => ?_, fun e => ?_, e9⟩⟩
          · rw [e, hD] at n9
            cases n9
          · rw [e, s8 _ _ (s7 _ _ hd)] at n9
            cases n9
        · have hz : All2 (Rw qd H8) zs (wrdL.map fun z => [dpt j, nmb m, z]) := rel2_all2 (zs := wrdL) (fun z => [dpt j, nmb m, z]) (fun z y ⟨z', p, e1, e2, _, n2, h⟩ => by cases e1; exact ⟨p, e2, n2, h⟩) rel
          have hd8 := s8 _ _ (s7 _ _ hd)
          have hy8 : All2 (Rw qd H8) ys (rowsL.take (6 * j + 3 * m)) := hr7.imp fun y row r => rw_bt (Bt.of (s7.trans s8)) r
          have hall := hy8.app hz
          rw [rows_step j hj m hm] at hall
          refine mv_extend hd8 e8 ?_ (wb_nil ⟨_, _, rfl, (bd.trans (Bt.of (s7.trans s8))).upd, upd_same, hall.imp fun y row r => rw_bt (Bt.refl _ _).upd r⟩)
          have h1 := hall.len
          rw [List.length_append, List.length_take] at h1
          have h2 : rowsL.length = 12 := by decide +kernel
          rw [h2] at h1
          rw [sizeLine_eq]
          omega
      · rintro σ Hd ⟨c8', ys', rfl, bd, hd', hr8⟩
        exact wb_nil ⟨_, _, _, rfl, bt.trans ((Bt.of s6).trans bd), hd', hr8⟩
    · rintro σ Hc ⟨c7, c8, ys, rfl, bt, hd, hr6⟩
      obtain ⟨w1, w2⟩ := hw4 Hc ((Bt.of s5).trans bt)
      have e12 : rowsL.take (6 * [V.str "flat", V.str "deep"].length) = rowsL := by decide +kernel
      have hr6 : All2 (Rw qd Hc) ys rowsL := e12 ▸ hr6
      tbr_iter "go"
      refine cv_eqD hu (.lst (SqL.of w1) (dpa_rows w2)) (.lst (SqL.of hd) (dpa_rows hr6)) rows_fine.1 rows_fine.1 ?_
      rw [rows_fine.2]
      exact k _
end
end Ax
end
section
set_option maxHeartbeats 0
namespace Ax
open PySem PySem.Spec PyProof.Rows L2
def fnL : List He.DefD := [⟨("_law_raised", none), "_law_raised", "_law_raised", defArgs s__law_raised, defBody s__law_raised, defScope s__law_raised, [], []⟩, ⟨("_law_kinds", none), "_law_kinds", "_law_kinds", defArgs s__law_kinds, defBody s__law_kinds, defScope s__law_kinds, [], []⟩, ⟨("_law_plain_right", none), "_law_plain_right", "_law_plain_right", defArgs s__law_plain_right, defBody s__law_plain_right, defScope s__law_plain_right, [], []⟩, ⟨("_law_kept", none), "_law_kept", "_law_kept", defArgs s__law_kept, defBody s__law_kept, defScope s__law_kept, [], []⟩, ⟨("law", none), "law", "law", defArgs s_law, defBody s_law, defScope s_law, [], []⟩, ⟨("InvalidNumber", some "__init__"), "__init__", "InvalidNumber.__init__", defArgs s_InvalidNumber___init__, defBody s_InvalidNumber___init__, defScope s_InvalidNumber___init__, [], []⟩, ⟨("UnknownName", some "__init__"), "__init__", "UnknownName.__init__", defArgs s_UnknownName___init__, defBody s_UnknownName___init__, defScope s_UnknownName___init__, [], []⟩, ⟨("TooMany", some "__init__"), "__init__", "TooMany.__init__", defArgs s_TooMany___init__, defBody s_TooMany___init__, defScope s_TooMany___init__, [], []⟩, ⟨("NoQuery", some "__init__"), "__init__", "NoQuery.__init__", defArgs s_NoQuery___init__, defBody s_NoQuery___init__, defScope s_NoQuery___init__, [], []⟩, ⟨("NothingToUndo", some "__init__"), "__init__", "NothingToUndo.__init__", defArgs s_NothingToUndo___init__, defBody s_NothingToUndo___init__, defScope s_NothingToUndo___init__, [], []⟩]
def faL : List He.Fa := [.glo "_law_raised", .glo "_law_kinds", .glo "_law_plain_right", .glo "_law_kept", .glo "law", .int "MAX_COLUMNS" 3, .int "MAX_VALUES" 6, .int "MAX_TABLES" 4, .int "MAX_VARIABLES" 16, .int "MAX_ATOMS" 20000, .int "MAX_SEARCH" 65536, .int "MAX_CASES" 4, .glo "LANGUAGES", .glo "AskError", .glo "InvalidName", .glo "InvalidTable", .glo "InvalidDatabase", .glo "InvalidRule", .glo "InvalidQuery", .glo "InvalidExamples", .glo "InvalidOperation", .glo "InvalidEdit", .glo "ParseError", .glo "InvalidCommand", .glo "InvalidNumber", .glo "UnknownName", .glo "TooMany", .glo "NoQuery", .glo "NothingToUndo", .meth "InvalidNumber" "__init__", .meth "UnknownName" "__init__", .meth "TooMany" "__init__", .meth "NoQuery" "__init__", .meth "NothingToUndo" "__init__", .free "ArithmeticError", .free "IndexError", .free "KeyError", .free "LookupError", .free "OverflowError", .free "ValueError", .free "int", .free "isinstance", .free "len", .free "range", .free "str", .exc "AskError", .exc "InvalidName", .exc "InvalidTable", .exc "InvalidDatabase", .exc "InvalidRule", .exc "InvalidQuery", .exc "InvalidExamples", .exc "InvalidOperation", .exc "InvalidEdit", .exc "ParseError", .exc "InvalidCommand", .exm "AskError" "AskError" true, .exm "AskError" "InvalidNumber" false, .exm "AskError" "NoQuery" false, .exm "AskError" "NothingToUndo" false, .exm "AskError" "TooMany" false, .exm "AskError" "UnknownName" false, .exm "InvalidName" "AskError" true, .exm "InvalidName" "InvalidNumber" false, .exm "InvalidName" "NoQuery" false, .exm "InvalidName" "NothingToUndo" false, .exm "InvalidName" "TooMany" false, .exm "InvalidName" "UnknownName" false, .exm "InvalidTable" "AskError" true, .exm "InvalidTable" "InvalidNumber" false, .exm "InvalidTable" "NoQuery" false, .exm "InvalidTable" "NothingToUndo" false, .exm "InvalidTable" "TooMany" false, .exm "InvalidTable" "UnknownName" false, .exm "InvalidDatabase" "AskError" true, .exm "InvalidDatabase" "InvalidNumber" false, .exm "InvalidDatabase" "NoQuery" false, .exm "InvalidDatabase" "NothingToUndo" false, .exm "InvalidDatabase" "TooMany" false, .exm "InvalidDatabase" "UnknownName" false, .exm "InvalidRule" "AskError" true, .exm "InvalidRule" "InvalidNumber" false, .exm "InvalidRule" "NoQuery" false, .exm "InvalidRule" "NothingToUndo" false, .exm "InvalidRule" "TooMany" false, .exm "InvalidRule" "UnknownName" false, .exm "InvalidQuery" "AskError" true, .exm "InvalidQuery" "InvalidNumber" false, .exm "InvalidQuery" "NoQuery" false, .exm "InvalidQuery" "NothingToUndo" false, .exm "InvalidQuery" "TooMany" false, .exm "InvalidQuery" "UnknownName" false, .exm "InvalidExamples" "AskError" true, .exm "InvalidExamples" "InvalidNumber" false, .exm "InvalidExamples" "NoQuery" false, .exm "InvalidExamples" "NothingToUndo" false, .exm "InvalidExamples" "TooMany" false, .exm "InvalidExamples" "UnknownName" false, .exm "InvalidOperation" "AskError" true, .exm "InvalidOperation" "InvalidNumber" false, .exm "InvalidOperation" "NoQuery" false, .exm "InvalidOperation" "NothingToUndo" false, .exm "InvalidOperation" "TooMany" false, .exm "InvalidOperation" "UnknownName" false, .exm "InvalidEdit" "AskError" true, .exm "InvalidEdit" "InvalidNumber" false, .exm "InvalidEdit" "NoQuery" false, .exm "InvalidEdit" "NothingToUndo" false, .exm "InvalidEdit" "TooMany" false, .exm "InvalidEdit" "UnknownName" false, .exm "ParseError" "AskError" true, .exm "ParseError" "InvalidNumber" false, .exm "ParseError" "NoQuery" false, .exm "ParseError" "NothingToUndo" false, .exm "ParseError" "TooMany" false, .exm "ParseError" "UnknownName" false, .exm "InvalidCommand" "AskError" true, .exm "InvalidCommand" "InvalidNumber" false, .exm "InvalidCommand" "NoQuery" false, .exm "InvalidCommand" "NothingToUndo" false, .exm "InvalidCommand" "TooMany" false, .exm "InvalidCommand" "UnknownName" false]
def loose0 : List PySem.Str := (["__name__", "AskError", "InvalidName", "InvalidTable", "InvalidDatabase", "InvalidRule", "InvalidQuery", "InvalidExamples", "InvalidOperation", "InvalidEdit", "ParseError", "InvalidCommand", "InvalidNumber", "UnknownName", "TooMany", "NoQuery", "NothingToUndo", "MAX_COLUMNS", "MAX_VALUES", "MAX_TABLES", "LANGUAGES", "MAX_VARIABLES", "MAX_ATOMS", "MAX_SEARCH", "MAX_CASES", "_law_raised", "_law_kinds", "_law_plain_right", "_law_kept"] : List String).map Str.ofString
def loose : List PySem.Str := loose0
abbrev R : PySem.W.OpenRow := PySem.W.OpenLaw.row PySem.Challenge.rw_askable_k00_errors_and_constants
def exA (K : PySem.W.Frag) : Bool := exT K && exU K
abbrev hk : PySem.W.Hook := He.hookX 5 faL fnL [] [] exA
def ob (s : PySem.W.SharedT) : He.AlX := He.obsX 5 faL fnL [] [] exA (HandSHeadRun.getT s)
theorem ob_eq (s : PySem.W.SharedT) : ob s = hk.obs s.abs := He.obsX_eq (HandSHeadRun.getT_eq s)
theorem run (w : World) : HandSHeadRun.RunEq R (PySem.W.view R.prog [30]) hk ob 9000 loose w := by
  intro os
  kernel_rfl
theorem txt_of {K : PySem.W.Frag} {h : Heap} {mg : Str → Option Value} (X : K.In h) (G : h.Ns mainGlobals mg) (c : He.SaysD faL fnL K) (ex : exT K = true) : Txt K mg where
  f__law_raised := txtF_of (c.def_ 0) (He.glo_ok X G (c.fact 0 (f := .glo "_law_raised") rfl))
  f__law_kinds := txtF_of (c.def_ 1) (He.glo_ok X G (c.fact 1 (f := .glo "_law_kinds") rfl))
  f__law_plain_right := txtF_of (c.def_ 2) (He.glo_ok X G (c.fact 2 (f := .glo "_law_plain_right") rfl))
  f__law_kept := txtF_of (c.def_ 3) (He.glo_ok X G (c.fact 3 (f := .glo "_law_kept") rfl))
  f_law := txtF_of (c.def_ 4) (He.glo_ok X G (c.fact 4 (f := .glo "law") rfl))
  c_MAX_COLUMNS := cI_of (He.int_ok X G (c.fact 5 (f := .int "MAX_COLUMNS" 3) rfl))
  c_MAX_VALUES := cI_of (He.int_ok X G (c.fact 6 (f := .int "MAX_VALUES" 6) rfl))
  c_MAX_TABLES := cI_of (He.int_ok X G (c.fact 7 (f := .int "MAX_TABLES" 4) rfl))
  c_MAX_VARIABLES := cI_of (He.int_ok X G (c.fact 8 (f := .int "MAX_VARIABLES" 16) rfl))
  c_MAX_ATOMS := cI_of (He.int_ok X G (c.fact 9 (f := .int "MAX_ATOMS" 20000) rfl))
  c_MAX_SEARCH := cI_of (He.int_ok X G (c.fact 10 (f := .int "MAX_SEARCH" 65536) rfl))
  c_MAX_CASES := cI_of (He.int_ok X G (c.fact 11 (f := .int "MAX_CASES" 4) rfl))
  c_LANGUAGES := ⟨He.glo_ok X G (c.fact 12 (f := .glo "LANGUAGES") rfl), fun H => He.tupB_ok (ex) H⟩
  g_AskError := He.glo_ok X G (c.fact 13 (f := .glo "AskError") rfl)
  g_InvalidName := He.glo_ok X G (c.fact 14 (f := .glo "InvalidName") rfl)
  g_InvalidTable := He.glo_ok X G (c.fact 15 (f := .glo "InvalidTable") rfl)
  g_InvalidDatabase := He.glo_ok X G (c.fact 16 (f := .glo "InvalidDatabase") rfl)
  g_InvalidRule := He.glo_ok X G (c.fact 17 (f := .glo "InvalidRule") rfl)
  g_InvalidQuery := He.glo_ok X G (c.fact 18 (f := .glo "InvalidQuery") rfl)
  g_InvalidExamples := He.glo_ok X G (c.fact 19 (f := .glo "InvalidExamples") rfl)
  g_InvalidOperation := He.glo_ok X G (c.fact 20 (f := .glo "InvalidOperation") rfl)
  g_InvalidEdit := He.glo_ok X G (c.fact 21 (f := .glo "InvalidEdit") rfl)
  g_ParseError := He.glo_ok X G (c.fact 22 (f := .glo "ParseError") rfl)
  g_InvalidCommand := He.glo_ok X G (c.fact 23 (f := .glo "InvalidCommand") rfl)
  g_InvalidNumber := He.glo_ok X G (c.fact 24 (f := .glo "InvalidNumber") rfl)
  g_UnknownName := He.glo_ok X G (c.fact 25 (f := .glo "UnknownName") rfl)
  g_TooMany := He.glo_ok X G (c.fact 26 (f := .glo "TooMany") rfl)
  g_NoQuery := He.glo_ok X G (c.fact 27 (f := .glo "NoQuery") rfl)
  g_NothingToUndo := He.glo_ok X G (c.fact 28 (f := .glo "NothingToUndo") rfl)
  f_InvalidNumber___init__ := c.def_ 5
  m_InvalidNumber___init__ := He.meth_ok (c.fact 29 (f := .meth "InvalidNumber" "__init__") rfl)
  f_UnknownName___init__ := c.def_ 6
  m_UnknownName___init__ := He.meth_ok (c.fact 30 (f := .meth "UnknownName" "__init__") rfl)
  f_TooMany___init__ := c.def_ 7
  m_TooMany___init__ := He.meth_ok (c.fact 31 (f := .meth "TooMany" "__init__") rfl)
  f_NoQuery___init__ := c.def_ 8
  m_NoQuery___init__ := He.meth_ok (c.fact 32 (f := .meth "NoQuery" "__init__") rfl)
  f_NothingToUndo___init__ := c.def_ 9
  m_NothingToUndo___init__ := He.meth_ok (c.fact 33 (f := .meth "NothingToUndo" "__init__") rfl)
  z_ArithmeticError := He.free_ok X G (c.fact 34 (f := .free "ArithmeticError") rfl)
  z_IndexError := He.free_ok X G (c.fact 35 (f := .free "IndexError") rfl)
  z_KeyError := He.free_ok X G (c.fact 36 (f := .free "KeyError") rfl)
  z_LookupError := He.free_ok X G (c.fact 37 (f := .free "LookupError") rfl)
  z_OverflowError := He.free_ok X G (c.fact 38 (f := .free "OverflowError") rfl)
  z_ValueError := He.free_ok X G (c.fact 39 (f := .free "ValueError") rfl)
  z_int := He.free_ok X G (c.fact 40 (f := .free "int") rfl)
  z_isinstance := He.free_ok X G (c.fact 41 (f := .free "isinstance") rfl)
  z_len := He.free_ok X G (c.fact 42 (f := .free "len") rfl)
  z_range := He.free_ok X G (c.fact 43 (f := .free "range") rfl)
  z_str := He.free_ok X G (c.fact 44 (f := .free "str") rfl)
  e_AskError := errC_of X G (c.fact 13 (f := .glo "AskError") rfl) (c.fact 45 (f := .exc "AskError") rfl)
  e_InvalidName := errC_of X G (c.fact 14 (f := .glo "InvalidName") rfl) (c.fact 46 (f := .exc "InvalidName") rfl)
  e_InvalidTable := errC_of X G (c.fact 15 (f := .glo "InvalidTable") rfl) (c.fact 47 (f := .exc "InvalidTable") rfl)
  e_InvalidDatabase := errC_of X G (c.fact 16 (f := .glo "InvalidDatabase") rfl) (c.fact 48 (f := .exc "InvalidDatabase") rfl)
  e_InvalidRule := errC_of X G (c.fact 17 (f := .glo "InvalidRule") rfl) (c.fact 49 (f := .exc "InvalidRule") rfl)
  e_InvalidQuery := errC_of X G (c.fact 18 (f := .glo "InvalidQuery") rfl) (c.fact 50 (f := .exc "InvalidQuery") rfl)
  e_InvalidExamples := errC_of X G (c.fact 19 (f := .glo "InvalidExamples") rfl) (c.fact 51 (f := .exc "InvalidExamples") rfl)
  e_InvalidOperation := errC_of X G (c.fact 20 (f := .glo "InvalidOperation") rfl) (c.fact 52 (f := .exc "InvalidOperation") rfl)
  e_InvalidEdit := errC_of X G (c.fact 21 (f := .glo "InvalidEdit") rfl) (c.fact 53 (f := .exc "InvalidEdit") rfl)
  e_ParseError := errC_of X G (c.fact 22 (f := .glo "ParseError") rfl) (c.fact 54 (f := .exc "ParseError") rfl)
  e_InvalidCommand := errC_of X G (c.fact 23 (f := .glo "InvalidCommand") rfl) (c.fact 55 (f := .exc "InvalidCommand") rfl)
  x_AskError_AskError := He.exm_ok (c.fact 56 (f := .exm "AskError" "AskError" true) rfl)
  x_AskError_InvalidNumber := He.exm_ok (c.fact 57 (f := .exm "AskError" "InvalidNumber" false) rfl)
  x_AskError_NoQuery := He.exm_ok (c.fact 58 (f := .exm "AskError" "NoQuery" false) rfl)
  x_AskError_NothingToUndo := He.exm_ok (c.fact 59 (f := .exm "AskError" "NothingToUndo" false) rfl)
  x_AskError_TooMany := He.exm_ok (c.fact 60 (f := .exm "AskError" "TooMany" false) rfl)
  x_AskError_UnknownName := He.exm_ok (c.fact 61 (f := .exm "AskError" "UnknownName" false) rfl)
  x_InvalidName_AskError := He.exm_ok (c.fact 62 (f := .exm "InvalidName" "AskError" true) rfl)
  x_InvalidName_InvalidNumber := He.exm_ok (c.fact 63 (f := .exm "InvalidName" "InvalidNumber" false) rfl)
  x_InvalidName_NoQuery := He.exm_ok (c.fact 64 (f := .exm "InvalidName" "NoQuery" false) rfl)
  x_InvalidName_NothingToUndo := He.exm_ok (c.fact 65 (f := .exm "InvalidName" "NothingToUndo" false) rfl)
  x_InvalidName_TooMany := He.exm_ok (c.fact 66 (f := .exm "InvalidName" "TooMany" false) rfl)
  x_InvalidName_UnknownName := He.exm_ok (c.fact 67 (f := .exm "InvalidName" "UnknownName" false) rfl)
  x_InvalidTable_AskError := He.exm_ok (c.fact 68 (f := .exm "InvalidTable" "AskError" true) rfl)
  x_InvalidTable_InvalidNumber := He.exm_ok (c.fact 69 (f := .exm "InvalidTable" "InvalidNumber" false) rfl)
  x_InvalidTable_NoQuery := He.exm_ok (c.fact 70 (f := .exm "InvalidTable" "NoQuery" false) rfl)
  x_InvalidTable_NothingToUndo := He.exm_ok (c.fact 71 (f := .exm "InvalidTable" "NothingToUndo" false) rfl)
  x_InvalidTable_TooMany := He.exm_ok (c.fact 72 (f := .exm "InvalidTable" "TooMany" false) rfl)
  x_InvalidTable_UnknownName := He.exm_ok (c.fact 73 (f := .exm "InvalidTable" "UnknownName" false) rfl)
  x_InvalidDatabase_AskError := He.exm_ok (c.fact 74 (f := .exm "InvalidDatabase" "AskError" true) rfl)
  x_InvalidDatabase_InvalidNumber := He.exm_ok (c.fact 75 (f := .exm "InvalidDatabase" "InvalidNumber" false) rfl)
  x_InvalidDatabase_NoQuery := He.exm_ok (c.fact 76 (f := .exm "InvalidDatabase" "NoQuery" false) rfl)
  x_InvalidDatabase_NothingToUndo := He.exm_ok (c.fact 77 (f := .exm "InvalidDatabase" "NothingToUndo" false) rfl)
  x_InvalidDatabase_TooMany := He.exm_ok (c.fact 78 (f := .exm "InvalidDatabase" "TooMany" false) rfl)
  x_InvalidDatabase_UnknownName := He.exm_ok (c.fact 79 (f := .exm "InvalidDatabase" "UnknownName" false) rfl)
  x_InvalidRule_AskError := He.exm_ok (c.fact 80 (f := .exm "InvalidRule" "AskError" true) rfl)
  x_InvalidRule_InvalidNumber := He.exm_ok (c.fact 81 (f := .exm "InvalidRule" "InvalidNumber" false) rfl)
  x_InvalidRule_NoQuery := He.exm_ok (c.fact 82 (f := .exm "InvalidRule" "NoQuery" false) rfl)
  x_InvalidRule_NothingToUndo := He.exm_ok (c.fact 83 (f := .exm "InvalidRule" "NothingToUndo" false) rfl)
  x_InvalidRule_TooMany := He.exm_ok (c.fact 84 (f := .exm "InvalidRule" "TooMany" false) rfl)
  x_InvalidRule_UnknownName := He.exm_ok (c.fact 85 (f := .exm "InvalidRule" "UnknownName" false) rfl)
  x_InvalidQuery_AskError := He.exm_ok (c.fact 86 (f := .exm "InvalidQuery" "AskError" true) rfl)
  x_InvalidQuery_InvalidNumber := He.exm_ok (c.fact 87 (f := .exm "InvalidQuery" "InvalidNumber" false) rfl)
  x_InvalidQuery_NoQuery := He.exm_ok (c.fact 88 (f := .exm "InvalidQuery" "NoQuery" false) rfl)
  x_InvalidQuery_NothingToUndo := He.exm_ok (c.fact 89 (f := .exm "InvalidQuery" "NothingToUndo" false) rfl)
  x_InvalidQuery_TooMany := He.exm_ok (c.fact 90 (f := .exm "InvalidQuery" "TooMany" false) rfl)
  x_InvalidQuery_UnknownName := He.exm_ok (c.fact 91 (f := .exm "InvalidQuery" "UnknownName" false) rfl)
  x_InvalidExamples_AskError := He.exm_ok (c.fact 92 (f := .exm "InvalidExamples" "AskError" true) rfl)
  x_InvalidExamples_InvalidNumber := He.exm_ok (c.fact 93 (f := .exm "InvalidExamples" "InvalidNumber" false) rfl)
  x_InvalidExamples_NoQuery := He.exm_ok (c.fact 94 (f := .exm "InvalidExamples" "NoQuery" false) rfl)
  x_InvalidExamples_NothingToUndo := He.exm_ok (c.fact 95 (f := .exm "InvalidExamples" "NothingToUndo" false) rfl)
  x_InvalidExamples_TooMany := He.exm_ok (c.fact 96 (f := .exm "InvalidExamples" "TooMany" false) rfl)
  x_InvalidExamples_UnknownName := He.exm_ok (c.fact 97 (f := .exm "InvalidExamples" "UnknownName" false) rfl)
  x_InvalidOperation_AskError := He.exm_ok (c.fact 98 (f := .exm "InvalidOperation" "AskError" true) rfl)
  x_InvalidOperation_InvalidNumber := He.exm_ok (c.fact 99 (f := .exm "InvalidOperation" "InvalidNumber" false) rfl)
  x_InvalidOperation_NoQuery := He.exm_ok (c.fact 100 (f := .exm "InvalidOperation" "NoQuery" false) rfl)
  x_InvalidOperation_NothingToUndo := He.exm_ok (c.fact 101 (f := .exm "InvalidOperation" "NothingToUndo" false) rfl)
  x_InvalidOperation_TooMany := He.exm_ok (c.fact 102 (f := .exm "InvalidOperation" "TooMany" false) rfl)
  x_InvalidOperation_UnknownName := He.exm_ok (c.fact 103 (f := .exm "InvalidOperation" "UnknownName" false) rfl)
  x_InvalidEdit_AskError := He.exm_ok (c.fact 104 (f := .exm "InvalidEdit" "AskError" true) rfl)
  x_InvalidEdit_InvalidNumber := He.exm_ok (c.fact 105 (f := .exm "InvalidEdit" "InvalidNumber" false) rfl)
  x_InvalidEdit_NoQuery := He.exm_ok (c.fact 106 (f := .exm "InvalidEdit" "NoQuery" false) rfl)
  x_InvalidEdit_NothingToUndo := He.exm_ok (c.fact 107 (f := .exm "InvalidEdit" "NothingToUndo" false) rfl)
  x_InvalidEdit_TooMany := He.exm_ok (c.fact 108 (f := .exm "InvalidEdit" "TooMany" false) rfl)
  x_InvalidEdit_UnknownName := He.exm_ok (c.fact 109 (f := .exm "InvalidEdit" "UnknownName" false) rfl)
  x_ParseError_AskError := He.exm_ok (c.fact 110 (f := .exm "ParseError" "AskError" true) rfl)
  x_ParseError_InvalidNumber := He.exm_ok (c.fact 111 (f := .exm "ParseError" "InvalidNumber" false) rfl)
  x_ParseError_NoQuery := He.exm_ok (c.fact 112 (f := .exm "ParseError" "NoQuery" false) rfl)
  x_ParseError_NothingToUndo := He.exm_ok (c.fact 113 (f := .exm "ParseError" "NothingToUndo" false) rfl)
  x_ParseError_TooMany := He.exm_ok (c.fact 114 (f := .exm "ParseError" "TooMany" false) rfl)
  x_ParseError_UnknownName := He.exm_ok (c.fact 115 (f := .exm "ParseError" "UnknownName" false) rfl)
  x_InvalidCommand_AskError := He.exm_ok (c.fact 116 (f := .exm "InvalidCommand" "AskError" true) rfl)
  x_InvalidCommand_InvalidNumber := He.exm_ok (c.fact 117 (f := .exm "InvalidCommand" "InvalidNumber" false) rfl)
  x_InvalidCommand_NoQuery := He.exm_ok (c.fact 118 (f := .exm "InvalidCommand" "NoQuery" false) rfl)
  x_InvalidCommand_NothingToUndo := He.exm_ok (c.fact 119 (f := .exm "InvalidCommand" "NothingToUndo" false) rfl)
  x_InvalidCommand_TooMany := He.exm_ok (c.fact 120 (f := .exm "InvalidCommand" "TooMany" false) rfl)
  x_InvalidCommand_UnknownName := He.exm_ok (c.fact 121 (f := .exm "InvalidCommand" "UnknownName" false) rfl)
end Ax
namespace Ax
open PySem PySem.Spec PyProof.Rows L2
theorem law_at {w : World} {K : PySem.W.Frag} {h : Heap} {mg : Str → Option Value} {fa : Addr} (X : K.In h) (G : h.Ns mainGlobals mg) (hfa : mg ("law" : Str) = some (.ref fa)) (c : He.SaysX faL fnL [] [] exA w h K) :
    LamX.LawAtS PySem.Challenge.rw_askable_k00_errors_and_constants w K (L2.CX PySem.Challenge.rw_askable_k00_errors_and_constants.prog w) 5 63 "script" mg fa h := by
  have cd := c.t.d
  obtain ⟨m1, m2⟩ := Bool.and_eq_true_iff.mp c.more
  have T := txt_of X G cd m1
  have U := txtU_of m2
  obtain ⟨fd, F⟩ := cd.def_ 4 (d := fnL[4]) rfl
  have e := hfa.symm.trans (He.glo_ok X G (cd.fact 4 (f := .glo "law") rfl))
  cases e
  have b := FunD.bindsA (ps := ["script"]) F fun _ _ _ _ _ _ us hl => match us, hl with | [_], _ => rfl
  refine ⟨fd, [], spLaw0 K, (fun p hp => absurd hp List.not_mem_nil), (fun p hp => absurd hp List.not_mem_nil), (fun p hp => absurd hp List.not_mem_nil), fun s u => b s [u] rfl, ?_, ?_⟩
  · intro H a ns hl _ ht hs
    exact ⟨a, ns, rfl, hs, hl, fun _ => rfl⟩
  · intro base Kb Gb tb
    exact ok_law T U F
end Ax
open PySem PySem.W PySem.Calls PyProof.Rows
theorem PySem.Challenge.cw_askable_k00_errors_and_constants_holds : PySem.Challenge.rw_askable_k00_errors_and_constants.Holds := by
  w_on; o_law
  refine HandSHeadRun.head_any (r := OpenLaw.row PySem.Challenge.rw_askable_k00_errors_and_constants) (q := view (OpenLaw.row PySem.Challenge.rw_askable_k00_errors_and_constants).prog [30]) (H := Ax.hk) (ob := Ax.ob) (M := 9000) (loose := Ax.loose) (d := HandSHeadRun.topDef (OpenLaw.row PySem.Challenge.rw_askable_k00_errors_and_constants).prog 30) (kwd := []) Ax.ob_eq
    (by kernel_rfl) (fun s => by kernel_rfl) Ax.run (by kernel_rfl) (by kernel_rfl) (by kernel_rfl) (by rfl) (by first | assumption | decide +kernel) (by decide +kernel) ⟨rfl, rfl, rfl, rfl, rfl, by decide +kernel⟩ ?hw ?hc
  case hw => w_witness2
  case hc =>
    refine LamX.walk_ofTsE (l := PySem.Challenge.rw_askable_k00_errors_and_constants) (n := 63) (k := 5) (x := "script") (CX := L2.CX PySem.Challenge.rw_askable_k00_errors_and_constants.prog) rfl (by decide) (by kernel_rfl) ⟨rfl, by decide, by decide⟩ ?F ?hx
    case hx =>
      intro w H s e s' z
      obtain ⟨_, _, _, _, _, _, _, _, _, _, _, _, z⟩ := z
      exact z.elim
    case F =>
      intro w mg fa h Y G hmg0
      obtain ⟨K, KX, c⟩ := Y
      have hmg : mg ("law" : PySem.Str) = some (.ref fa) := by
        have e : (HandSHeadRun.topDef (OpenLaw.row PySem.Challenge.rw_askable_k00_errors_and_constants).prog 30).name = ("law" : PySem.Str) := by kernel_rfl
        rw [← e]
        exact hmg0
      exact ⟨K, KX, Ax.law_at KX G hmg c⟩
end
