import PyProof.Rows.All
import Wide.All
import OpenK.AllK
import Wide.FinOn
import PyProof.EqAt
import PyProof.EqKinds
import PyProof.TupleCall
import HandS.ForMost
import HandS.Exc
import HandS.ExcOwn
import HandS.WordsExc
import HandS.TryOnly
import HandS.Walk
import HandS.IsInst
import HandS.Flow
import HandS.Wide
import HandS.Defaults
import KE.KTreeR
import HandS.HeadNt
import HandS.DictComp
import HandS.Lambda
import HandS.TupAny
import HandS.TupMul
import HandS.DictSub
import KE.DatumOrd
import HandS.SetKeys
import HandS.SetFor
import HandS.Strs
import PySem.Challenge.RW_askable_k19_sizes_of_trees
import HandS.Head0
import HandS.Head1
import HandS.Head2
import HandS.HeadEnd
import HandS.HeadHook4
import HandS.HeadWalk
import HandS.NestedK
import KE.KStateDown
import KE.KNestM
set_option Elab.async false
set_option linter.all false
set_option maxRecDepth 100000
section
set_option maxHeartbeats 2000000
namespace Ax
open PySem PySem.Spec PyProof.Rows L2

/-! ### the builtins by their names -/
theorem b_len : bootBuiltins (Str.ofString "len") = some (.builtin "len") := by decide +kernel
theorem b_all : bootBuiltins (Str.ofString "all") = some (.builtin "all") := by decide +kernel
theorem b_any : bootBuiltins (Str.ofString "any") = some (.builtin "any") := by decide +kernel
theorem b_sorted : bootBuiltins (Str.ofString "sorted") = some (.builtin "sorted") := by decide +kernel
theorem b_isinstance : bootBuiltins (Str.ofString "isinstance") = some (.builtin "isinstance") := by decide +kernel
theorem b_abs : bootBuiltins (Str.ofString "abs") = some (.builtin "abs") := by decide +kernel
theorem b_max : bootBuiltins (Str.ofString "max") = some (.builtin "max") := by decide +kernel
theorem b_min : bootBuiltins (Str.ofString "min") = some (.builtin "min") := by decide +kernel
theorem b_sum : bootBuiltins (Str.ofString "sum") = some (.builtin "sum") := by decide +kernel
theorem b_repr : bootBuiltins (Str.ofString "repr") = some (.builtin "repr") := by decide +kernel
theorem b_iter : bootBuiltins (Str.ofString "iter") = some (.builtin "iter") := by decide +kernel
theorem b_ord : bootBuiltins (Str.ofString "ord") = some (.builtin "ord") := by decide +kernel
theorem b_chr : bootBuiltins (Str.ofString "chr") = some (.builtin "chr") := by decide +kernel
theorem b_str : bootBuiltins (Str.ofString "str") = some (.type "str") := by decide +kernel
theorem b_int : bootBuiltins (Str.ofString "int") = some (.type "int") := by decide +kernel
theorem b_bool : bootBuiltins (Str.ofString "bool") = some (.type "bool") := by decide +kernel
theorem b_tuple : bootBuiltins (Str.ofString "tuple") = some (.type "tuple") := by decide +kernel
theorem b_list : bootBuiltins (Str.ofString "list") = some (.type "list") := by decide +kernel
theorem b_dict : bootBuiltins (Str.ofString "dict") = some (.type "dict") := by decide +kernel
theorem b_set : bootBuiltins (Str.ofString "set") = some (.type "set") := by decide +kernel
theorem b_range : bootBuiltins (Str.ofString "range") = some (.type "range") := by decide +kernel
theorem b_enumerate : bootBuiltins (Str.ofString "enumerate") = some (.type "enumerate") := by decide +kernel
theorem b_zip : bootBuiltins (Str.ofString "zip") = some (.type "zip") := by decide +kernel
/-! ### the weakest precondition of a piece of syntax -/
structure W (X : Cx) (e : Expr) (σ : L2.St) (H : Hp) (Q : VK) : Prop where
  run : ∀ (pins : List (Addr × Obj)) (s : Shared), Inv X pins σ H s → wpAny (model X.prog X.w) X.A (eval e X.env) (EP X pins σ Q) X.xe s
structure WT (X : Cx) (e : Expr) (σ : L2.St) (H : Hp) (Q : Bool → Hp → Prop) : Prop where
  run : ∀ (pins : List (Addr × Obj)) (s : Shared), Inv X pins σ H s → wpAny (model X.prog X.w) X.A (isTrue e X.env (eval e X.env)) (TP X pins σ Q) X.xe s
structure WW (X : Cx) (e : Expr) (σ : L2.St) (H : Hp) (Q : Bool → Hp → Prop) : Prop where
  run : ∀ (whole : Sem Value) (pins : List (Addr × Obj)) (s : Shared), Inv X pins σ H s → wpAny (model X.prog X.w) X.A (isTrue e X.env whole) (TP X pins σ Q) X.xe s
structure WA (X : Cx) (es : List Expr) (σ : L2.St) (H : Hp) (Q : List V → Hp → Prop) : Prop where
  run : ∀ (pos : Pos) (pins : List (Addr × Obj)) (s : Shared), Inv X pins σ H s → wpAny (model X.prog X.w) X.A (spliced (backTo pos (starEach es X.env))) (AP X pins σ Q) X.xe s
structure WS (X : Cx) (st : Stmt) (D : Ends) (σ : L2.St) (H : Hp) : Prop where
  run : ∀ (pins : List (Addr × Obj)) (s : Shared), Inv X pins σ H s → wpAny (model X.prog X.w) X.A (exec st X.env) (SP X pins D) X.xe s
structure WB (X : Cx) (st : List Stmt) (D : Ends) (σ : L2.St) (H : Hp) : Prop where
  run : ∀ (pins : List (Addr × Obj)) (s : Shared), Inv X pins σ H s → wpAny (model X.prog X.w) X.A (execs st X.env) (SP X pins D) X.xe s
section
variable {X : Cx} {e a b : Expr} {es : List Expr} {st : Stmt} {bl : List Stmt} {te : TE} {tt : TT} {ta : TA} {ts : TS} {σ : L2.St} {H : Hp} {Q : VK} {D : Ends} {pos : Pos}
theorem W.pe : PE X e (W X e) := ⟨fun pins s _ _ _ I h => h.run pins s I⟩
theorem WT.pt : PT X e (WT X e) := ⟨fun pins s _ _ _ I h => h.run pins s I⟩
theorem WW.pw : PW X e (WW X e) := ⟨fun wh pins s _ _ _ I h => h.run wh pins s I⟩
theorem WA.pa : PA X es (WA X es) := ⟨fun pos pins s _ _ _ I h => h.run pos pins s I⟩
theorem WS.ps : PS X st (WS X st) := ⟨fun pins s _ _ _ I h => h.run pins s I⟩
theorem WB.pss : PSs X bl (WB X bl) := ⟨fun pins s _ _ _ I h => h.run pins s I⟩
theorem W.of (h : PE X e te) (q : te σ H Q) : W X e σ H Q := ⟨fun pins s I => h.run pins s σ H Q I q⟩
theorem WT.of {Q : Bool → Hp → Prop} (h : PT X e tt) (q : tt σ H Q) : WT X e σ H Q := ⟨fun pins s I => h.run pins s σ H Q I q⟩
theorem WW.of {Q : Bool → Hp → Prop} (h : PW X e tt) (q : tt σ H Q) : WW X e σ H Q := ⟨fun wh pins s I => h.run wh pins s σ H Q I q⟩
theorem WA.of {Q : List V → Hp → Prop} (h : PA X es ta) (q : ta σ H Q) : WA X es σ H Q := ⟨fun pos pins s I => h.run pos pins s σ H Q I q⟩
theorem WS.of (h : PS X st ts) (q : ts D σ H) : WS X st D σ H := ⟨fun pins s I => h.run pins s σ H D I q⟩
theorem WB.of (h : PSs X bl ts) (q : ts D σ H) : WB X bl D σ H := ⟨fun pins s I => h.run pins s σ H D I q⟩
theorem W.mono {Q' : VK} (h : W X e σ H Q) (k : ∀ v H', Q v H' → Q' v H') : W X e σ H Q' := ⟨fun pins s I => thn (h.run pins s I) fun _ _ ⟨v, H', J, r, q⟩ => ⟨v, H', J, r, k v H' q⟩⟩
theorem WT.mono {Q Q' : Bool → Hp → Prop} (h : WT X e σ H Q) (k : ∀ v H', Q v H' → Q' v H') : WT X e σ H Q' := ⟨fun pins s I => thn (h.run pins s I) fun _ _ ⟨H', J, q⟩ => ⟨H', J, k _ H' q⟩⟩
theorem WA.mono {Q Q' : List V → Hp → Prop} (h : WA X es σ H Q) (k : ∀ v H', Q v H' → Q' v H') : WA X es σ H Q' := ⟨fun pos pins s I => thn (h.run pos pins s I) fun _ _ ⟨v, H', J, r, q⟩ => ⟨v, H', J, r, k v H' q⟩⟩
/-! ### names, constants -/
theorem w_var (i : Nat) {x : Str} {v : V} (hN : X.N[i]? = some x) (hv : Vis X.env.scope x) (hs : σ[i]? = some (some v)) (h : Q v H) (hd : (x == ("__debug__" : Str)) = false := by decide) (hcd : (x == ("__classdict__" : Str)) = false := by decide) :
    W X (.Name x pos) σ H Q := W.of (pe_var hN hv hd hcd) ⟨v, hs, h⟩
theorem w_int {i j} (h : Q (.int i) H) : W X (.Constant (.int i) j pos) σ H Q := W.of pe_int h
theorem w_str {x j} (h : Q (.str x) H) : W X (.Constant (.str x) j pos) σ H Q := W.of pe_str h
theorem w_bl {x j} (h : Q (.bl x) H) : W X (.Constant (.bool x) j pos) σ H Q := W.of pe_bl h
theorem w_non {j} (h : Q .non H) : W X (.Constant .none j pos) σ H Q := W.of pe_non h
theorem w_glob {x : Str} {v : V} (hm : ∃ u, X.mg x = some u ∧ RelV v u) (h : Q v H) (hg : Gl X x := by rfl) (hd : (x == ("__debug__" : Str)) = false := by decide) : W X (.Name x pos) σ H Q := by
  obtain ⟨u, hm, r⟩ := hm
  exact W.of (pe_glob hg hm r hd) h
theorem w_bltT {T : String} (hm : X.mg (Str.ofString T) = none) (h : Q (.ty T) H) (hv : bootBuiltins (Str.ofString T) = some (.type T) := by tbr_iter "boot") (hg : Gl X (Str.ofString T) := by rfl) (hn : (Str.ofString T) ≠ "__name__" := by decide)
    (hd : ((Str.ofString T) == ("__debug__" : Str)) = false := by decide) : W X (.Name (Str.ofString T) pos) σ H Q := W.of (pe_bltn (v := .ty T) hg hm hv rfl hn hd) h
/-! ### operators: the rule is chosen behind the operands -/
structure BinV (X : Cx) (op : Operator) (x y : V) (H : Hp) (Q : VK) : Prop where
  ex : ∃ r : R2, OpR X (binaryOp op) r ∧ r x y H Q
structure CmpV (X : Cx) (op : CmpOp) (x y : V) (H : Hp) (Q : VK) : Prop where
  ex : ∃ r : R2, OpR X (compareOp op) r ∧ r x y H Q
structure UnV (X : Cx) (op : UnaryOp) (x : V) (H : Hp) (Q : VK) : Prop where
  ex : ∃ r : V → Hp → VK → Prop, UnR X (unaryOp op) r ∧ r x H Q
structure IxV (X : Cx) (x y : V) (H : Hp) (Q : VK) : Prop where
  ex : ∃ r : R2, IxR X r ∧ r x y H Q
structure CallV (X : Cx) (f : Value) (vs : List V) (H : Hp) (Q : VK) : Prop where
  ex : ∃ r : List V → Hp → VK → Prop, CallR X f r ∧ r vs H Q
structure MtV (X : Cx) (id : String) (x : V) (vs : List V) (H : Hp) (Q : VK) : Prop where
  ex : ∃ r : V → List V → Hp → VK → Prop, MtR X id r ∧ r x vs H Q
theorem binV_r {op : Operator} : OpR X (binaryOp op) (BinV X op) := fun pins s σ H x y v u Q I rx ry ⟨_, ho, h⟩ => ho pins s σ H x y v u Q I rx ry h
theorem cmpV_r {op : CmpOp} : OpR X (compareOp op) (CmpV X op) := fun pins s σ H x y v u Q I rx ry ⟨_, ho, h⟩ => ho pins s σ H x y v u Q I rx ry h
theorem unV_r {op : UnaryOp} : UnR X (unaryOp op) (UnV X op) := fun pins s σ H x v Q I rx ⟨_, ho, h⟩ => ho pins s σ H x v Q I rx h
theorem ixV_r : IxR X (IxV X) := fun a b pins s σ H x y v u Q I rx ry ⟨_, ho, h⟩ z => ho a b pins s σ H x y v u Q I rx ry h z
theorem callV_r {f : Value} : CallR X f (CallV X f) := fun pins s σ H xs us Q I r ⟨_, ho, h⟩ => ho pins s σ H xs us Q I r h
theorem mtV_r {id : String} : MtR X id (MtV X id) := fun pins s σ H x xs v us Q I rx r ⟨_, ho, h⟩ => ho pins s σ H x xs v us Q I rx r h
theorem w_bin {op : Operator} (h : W X a σ H fun x H1 => W X b σ H1 fun y H2 => BinV X op x y H2 Q) : W X (.BinOp a op b pos) σ H Q := W.of (pe_op binV_r W.pe W.pe) h
theorem w_un {op : UnaryOp} (h : W X a σ H fun x H1 => UnV X op x H1 Q) : W X (.UnaryOp op a pos) σ H Q := W.of (pe_un unV_r W.pe) h
theorem w_cmp {op : CmpOp} (h : W X a σ H fun x H1 => W X b σ H1 fun y H2 => CmpV X op x y H2 Q) (hm : behindInMarks op b = false := by rfl) : W X (.Compare a [op] [b] pos) σ H Q := W.of (pe_cmpR cmpV_r W.pe W.pe hm) h
theorem wt_cmp {op : CmpOp} {Q : Bool → Hp → Prop} (h : W X a σ H fun x H1 => W X b σ H1 fun y H2 => CmpV X op x y H2 fun z H3 => ∃ c, z = .bl c ∧ Q c H3) (hm : behindInMarks op b = false := by rfl) : WT X (.Compare a [op] [b] pos) σ H Q :=
  WT.of (pt_cmpR cmpV_r W.pe W.pe hm) h
theorem w_chain {c : Expr} {op op' : CmpOp} (h : W X a σ H fun x H1 => W X b σ H1 fun y H2 => CmpV X op x y H2 fun z H3 => ∃ k, z = .bl k ∧ (if k = true then W X c σ H3 fun w' H4 => CmpV X op' y w' H4 Q else Q (.bl false) H3))
    (hm : lastMarks [op, op'] [b, c] = false := by with_unfolding_all rfl) : W X (.Compare a [op, op'] [b, c] pos) σ H Q := W.of (pe_chain cmpV_r cmpV_r W.pe W.pe W.pe hm) h
theorem w_ix (h : W X a σ H fun x H1 => W X b σ H1 fun y H2 => IxV X x y H2 Q) (hs : PlainIx b := by exact fun _ _ => rfl) : W X (.Subscript a b pos) σ H Q := W.of (pe_ix ixV_r W.pe W.pe hs) h
theorem w_ifExp {c : Expr} (h : WT X c σ H fun k H1 => if k = true then W X a σ H1 Q else W X b σ H1 Q) : W X (.IfExp c a b pos) σ H Q := W.of (pe_ifExp WT.pt W.pe W.pe) h
theorem w_and {rest : List Expr} (h : W X a σ H fun x H1 => ∃ c, x = .bl c ∧ if c = true then W X (.BoolOp .And (b :: rest) pos) σ H1 Q else Q (.bl false) H1) : W X (.BoolOp .And (a :: b :: rest) pos) σ H Q := W.of (pe_and W.pe W.pe) h
theorem w_or {rest : List Expr} (h : W X a σ H fun x H1 => ∃ c, x = .bl c ∧ if c = true then Q (.bl true) H1 else W X (.BoolOp .Or (b :: rest) pos) σ H1 Q) : W X (.BoolOp .Or (a :: b :: rest) pos) σ H Q := W.of (pe_or W.pe W.pe) h
theorem w_one {op} (h : W X a σ H Q) : W X (.BoolOp op [a] pos) σ H Q := W.of (pe_one W.pe) h
theorem w_not (h : W X a σ H fun x H1 => ∃ c, x = .bl c ∧ Q (.bl (!c)) H1) : W X (.UnaryOp .Not a pos) σ H Q := W.of (pe_not W.pe) h
/-! ### tests -/
section
variable {Q : Bool → Hp → Prop}
theorem wt_val (h : W X e σ H fun x H1 => ∃ c, x = .bl c ∧ Q c H1) (he : ∀ whole, isTrue e X.env whole = (do let v ← whole; standAt e.pos; holding [v] (truthy v)) := by intro _; rfl) : WT X e σ H Q := WT.of (pt_val W.pe he) h
theorem wt_truth (h : W X e σ H fun x H1 => ∃ k, TruV X.K x H1 k ∧ Q k H1) (he : ∀ whole, isTrue e X.env whole = (do let v ← whole; standAt e.pos; holding [v] (truthy v)) := by intro _; rfl) : WT X e σ H Q := WT.of (pt_truth W.pe he) h
theorem wt_not (h : WT X a σ H fun c H1 => Q (!c) H1) : WT X (.UnaryOp .Not a pos) σ H Q := WT.of (pt_not WT.pt) h
theorem wt_bool {op} {es : List Expr} (h : WW X (.BoolOp op es pos) σ H Q) : WT X (.BoolOp op es pos) σ H Q := ⟨fun pins s I => h.run _ pins s I⟩
theorem ww_and {rest : List Expr} (h : WT X a σ H fun c H1 => if c = true then WW X (.BoolOp .And (b :: rest) pos) σ H1 Q else Q false H1) : WW X (.BoolOp .And (a :: b :: rest) pos) σ H Q := WW.of (pw_and WT.pt WW.pw) h
theorem ww_and1 (h : WT X a σ H Q) : WW X (.BoolOp .And [a] pos) σ H Q := WW.of (pw_and1 WT.pt) h
theorem ww_or {rest : List Expr} (h : WT X a σ H fun c H1 => if c = true then Q true H1 else WW X (.BoolOp .Or (b :: rest) pos) σ H1 Q) : WW X (.BoolOp .Or (a :: b :: rest) pos) σ H Q := WW.of (pw_or WT.pt WW.pw) h
theorem ww_or1 (h : WT X a σ H Q) : WW X (.BoolOp .Or [a] pos) σ H Q := WW.of (pw_or1 WT.pt) h
end
/-! ### arguments, displays -/
theorem wa_nil {Q : List V → Hp → Prop} (h : Q [] H) : WA X [] σ H Q := WA.of pa_nil h
theorem wa_cons {Q : List V → Hp → Prop} (h : W X e σ H fun x H1 => WA X es σ H1 fun xs H2 => Q (x :: xs) H2) (hs : starEach (e :: es) X.env = (false, eval e X.env) :: starEach es X.env := by rfl) : WA X (e :: es) σ H Q := WA.of (pa_cons W.pe WA.pa hs) h
theorem w_tup {x1} (h : WA X es σ H fun xs H1 => xs.length ≤ sizeLine ∧ ∀ p H2, Same H1 H2 → H1 p = none → H2 p = some (.tup xs) → Q (.ref p) H2) : W X (.Tuple es x1 pos) σ H Q :=
  W.of (pe_tup WA.pa) (show WA X es σ H _ from WA.mono h fun xs H1 ⟨z, k⟩ => ⟨z, fun p hp => k p _ (fun b o eb => by rw [upd_ne (ne_of_none eb hp)]; exact eb) hp upd_same⟩)
theorem w_lst (h : WA X es σ H fun xs H1 => xs.length ≤ sizeLine ∧ ∀ p H2, Same H1 H2 → H1 p = none → H2 p = some (.lst xs) → Q (.ref p) H2) : W X (.List es pos) σ H Q :=
  W.of (pe_lst WA.pa) (show WA X es σ H _ from WA.mono h fun xs H1 ⟨z, k⟩ => ⟨z, fun p hp => k p _ (fun b o eb => by rw [upd_ne (ne_of_none eb hp)]; exact eb) hp upd_same⟩)
/-! ### calls of builtins by name -/
theorem w_callB {id : String} {p : Pos} (hm : X.mg (Str.ofString id) = none) (h : WA X (e :: es) σ H fun vs H1 => CallV X (.builtin id) vs H1 Q) (hv : bootBuiltins (Str.ofString id) = some (.builtin id) := by tbr_iter "boot") (hg : Gl X (Str.ofString id) := by rfl) (hn : (Str.ofString id) ≠ "__name__" := by decide)
    (hdb : ((Str.ofString id) == ("__debug__" : Str)) = false := by decide) (he : starEach (e :: es) X.env = (false, eval e X.env) :: starEach es X.env := by rfl) (hpl : (backTo pos (starEach es X.env)).any (·.1) = false := by rfl) : W X (.Call (.Name (Str.ofString id) p) (e :: es) [] pos) σ H Q :=
  W.of (pe_callB callV_r hg hm hv WA.pa hn hdb he hpl) h
theorem w_callTy {T : String} {p : Pos} (hm : X.mg (Str.ofString T) = none) (h : WA X (e :: es) σ H fun vs H1 => CallV X (.type T) vs H1 Q) (hv : bootBuiltins (Str.ofString T) = some (.type T) := by tbr_iter "boot") (hg : Gl X (Str.ofString T) := by rfl) (hn : (Str.ofString T) ≠ "__name__" := by decide)
    (hdb : ((Str.ofString T) == ("__debug__" : Str)) = false := by decide) (he : starEach (e :: es) X.env = (false, eval e X.env) :: starEach es X.env := by rfl) (hpl : (backTo pos (starEach es X.env)).any (·.1) = false := by rfl) : W X (.Call (.Name (Str.ofString T) p) (e :: es) [] pos) σ H Q :=
  W.of (pe_callTy callV_r hg hm hv WA.pa hn hdb he hpl) h
end
end Ax
end
section
set_option maxHeartbeats 2000000
namespace Ax
open PySem PySem.Spec PyProof.Rows L2

/-! ### heaps: what stands -/
/-- all but lists, dicts and soft things stand -/
def softO : HO → Bool
  | .lst _ => true
  | .dK _ => true
  | .dT _ => true
  | .set _ _ => true
  | .tbl _ => true
  | .ext _ => true
  | _ => false
def Sl (H H' : Hp) : Prop := ∀ a o, H a = some o → softO o = false → H' a = some o
theorem Sl.refl (H : Hp) : Sl H H := fun _ _ h _ => h
theorem Sl.trans {H H1 H2 : Hp} (a : Sl H H1) (b : Sl H1 H2) : Sl H H2 := fun c o h n => b c o (a c o h n) n
theorem Sl.of {H H' : Hp} (e : Same H H') : Sl H H' := fun b o h _ => e b o h
theorem Sl.lst {H H' : Hp} {p : Addr} {xs ys : List V} (e : Sl H H') (h : H' p = some (.lst xs)) : Sl H (upd H' p (.lst ys)) := fun a o ha hs => by
  have h1 := e a o ha hs
  by_cases z : a = p
  · rw [z, h] at h1
    cases h1
    cases hs
  · rw [upd_ne z]
    exact h1
theorem Sl.upd {H H' : Hp} {p : Addr} {o u : HO} (e : Sl H H') (h : H' p = some o) (hs : softO o = true) : Sl H (upd H' p u) := fun a v ha hv => by
  have h1 := e a v ha hv
  by_cases z : a = p
  · rw [z, h] at h1
    cases h1
    rw [hs] at hv
    cases hv
  · rw [upd_ne z]
    exact h1
theorem Sl.tup {K : PySem.W.Frag} {H H' : Hp} {a : Addr} {xs : List V} (e : Sl H H') (h : SqT K H a xs) : SqT K H' a xs := by
  rcases h with (h | ⟨o, h⟩) | h
  · exact .inl (.inl (e _ _ h rfl))
  · exact .inl (.inr ⟨o, e _ _ h rfl⟩)
  · exact .inr h
theorem same_tup {K : PySem.W.Frag} {H H' : Hp} {a : Addr} {xs : List V} (e : Same H H') (h : SqT K H a xs) : SqT K H' a xs := Sl.tup (Sl.of e) h
theorem same_upd {H H' : Hp} {p : Addr} {o : HO} (e : Same H H') (n : H p = none) : Same H (upd H' p o) := fun a u ha => by
  rw [upd_ne (ne_of_none ha n)]
  exact e a u ha
theorem same_new {H : Hp} {p : Addr} {o : HO} (n : H p = none) : Same H (upd H p o) := same_upd (Same.refl H) n
theorem same_nul {H H' : Hp} {p : Addr} (e : Same H H') (h : H' p = none) : H p = none := Same.free e h
/-! ### data -/
mutual
theorem dp_same {K : PySem.W.Frag} {H H' : Hp} (s : Same H H') : ∀ {d : PyData} {v : V}, Dp K H v d → Dp K H' v d
  | .none, _, h => by cases h; exact .non
  | .bool _, _, h => by cases h; exact .bl _
  | .int _, _, h => by cases h; exact .int _
  | .str _, _, h => by cases h; exact .str _
  | .list ds, _, h => by
    cases h with
    | lst hs ha => exact .lst (s.seq hs) (dpa_same s ha)
  | .tuple ds, _, h => by
    cases h with
    | tup hs ha => exact .tup (same_tup s hs) (dpa_same s ha)
  | .dict _, _, h => by cases h
theorem dpa_same {K : PySem.W.Frag} {H H' : Hp} (s : Same H H') : ∀ {ds : List PyData} {vs : List V}, DpAll K H vs ds → DpAll K H' vs ds
  | [], _, h => by cases h; exact .nil
  | d :: ds, _, h => by
    cases h with
    | cons h1 h2 => exact .cons (dp_same s h1) (dpa_same s h2)
end
mutual
def hard : PyData → Bool
  | .list _ => false
  | .tuple ds => hardAll ds
  | .dict _ => false
  | _ => true
def hardAll : List PyData → Bool
  | [] => true
  | d :: ds => hard d && hardAll ds
end
mutual
theorem dp_sl {K : PySem.W.Frag} {H H' : Hp} (s : Sl H H') : ∀ {d : PyData} {v : V}, hard d = true → Dp K H v d → Dp K H' v d
  | .none, _, _, h => by cases h; exact .non
  | .bool _, _, _, h => by cases h; exact .bl _
  | .int _, _, _, h => by cases h; exact .int _
  | .str _, _, _, h => by cases h; exact .str _
  | .list ds, _, hd, h => by simp [hard] at hd
  | .tuple ds, _, hd, h => by
    cases h with
    | tup hs ha => exact .tup (s.tup hs) (dpa_sl s (by simpa [hard] using hd) ha)
  | .dict _, _, _, h => by cases h
theorem dpa_sl {K : PySem.W.Frag} {H H' : Hp} (s : Sl H H') : ∀ {ds : List PyData} {vs : List V}, hardAll ds = true → DpAll K H vs ds → DpAll K H' vs ds
  | [], _, _, h => by cases h; exact .nil
  | d :: ds, _, hd, h => by
    cases h with
    | cons h1 h2 =>
      have z : hard d = true ∧ hardAll ds = true := by simpa [hardAll] using hd
      exact .cons (dp_sl s z.1 h1) (dpa_sl s z.2 h2)
end
theorem dpa_len {K : PySem.W.Frag} {H : Hp} : ∀ {ds : List PyData} {vs : List V}, DpAll K H vs ds → vs.length = ds.length
  | [], _, h => by cases h; rfl
  | d :: ds, _, h => by
    cases h with
    | cons h1 h2 => simp [dpa_len h2]
theorem dpa_get {K : PySem.W.Frag} {H : Hp} : ∀ {ds : List PyData} {vs : List V} {i : Nat} {v : V}, DpAll K H vs ds → vs[i]? = some v → ∃ d, ds[i]? = some d ∧ Dp K H v d
  | [], _, i, v, h, e => by cases h; simp at e
  | d :: ds, _, i, v, h, e => by
    cases h with
    | cons h1 h2 =>
      cases i with
      | zero => simp at e; subst e; exact ⟨d, rfl, h1⟩
      | succ i =>
        obtain ⟨d', e1, e2⟩ := dpa_get (i := i) h2 (by simpa using e)
        exact ⟨d', by simpa using e1, e2⟩
theorem dpa_getD {K : PySem.W.Frag} {H : Hp} : ∀ {ds : List PyData} {vs : List V} {i : Nat} {d : PyData}, DpAll K H vs ds → ds[i]? = some d → ∃ v, vs[i]? = some v ∧ Dp K H v d
  | [], _, i, v, h, e => by simp at e
  | d :: ds, _, i, v, h, e => by
    cases h with
    | cons h1 h2 =>
      cases i with
      | zero => simp at e; subst e; exact ⟨_, rfl, h1⟩
      | succ i =>
        obtain ⟨d', e1, e2⟩ := dpa_getD (i := i) h2 (by simpa using e)
        exact ⟨d', by simpa using e1, e2⟩
theorem dpa_app {K : PySem.W.Frag} {H : Hp} : ∀ {ds es : List PyData} {vs us : List V}, DpAll K H vs ds → DpAll K H us es → DpAll K H (vs ++ us) (ds ++ es)
  | [], _, _, _, h, g => by cases h; exact g
  | d :: ds, _, _, _, h, g => by
    cases h with
    | cons h1 h2 => exact .cons h1 (dpa_app h2 g)
theorem dpa_one {K : PySem.W.Frag} {H : Hp} {v : V} {d : PyData} (h : Dp K H v d) : DpAll K H [v] [d] := .cons h .nil
/-! ### a def that can be called -/
structure Callee (P : Program) (w : World) (K : PySem.W.Frag) (mg : Str → Option Value) (base : Heap) (x : Str) (k : Nat) (ps : List Str) (sp : Sp) : Prop where
  ex : ∃ f fd, FnOk P w K mg base (L2.CX P w) k f fd ps sp ∧ Binds K fd ps [] ∧ mg x = some (.ref f) ∧ PySem.W.keepIn K (.ref f) = true
section
variable {X : Cx} {e a b : Expr} {es : List Expr} {st : Stmt} {bl rest : List Stmt} {σ : L2.St} {H : Hp} {Q : VK} {D : Ends} {pos : Pos}
theorem w_call {x : Str} {k : Nat} {ps : List Str} {sp : Sp} {p : Pos} {E : XK} (C : Callee X.prog X.w X.K X.mg X.base x k ps sp) (hr : Room k X.A) (hx : Passes (L2.CX X.prog X.w) X E) (h : WA X (e :: es) σ H fun vs H1 => sp vs H1 Q E) (hg : Gl X x := by rfl)
    (hdb : (x == ("__debug__" : Str)) = false := by decide) (he : starEach (e :: es) X.env = (false, eval e X.env) :: starEach es X.env := by rfl) (hpl : (backTo pos (starEach es X.env)).any (·.1) = false := by rfl) : W X (.Call (.Name x p) (e :: es) [] pos) σ H Q := by
  obtain ⟨f, fd, F, B, hm, hk⟩ := C.ex
  refine W.of (pe_call F hr hg hm hk B .nil hx WA.pa hdb he hpl) ?_
  show WA X (e :: es) σ H _
  exact WA.mono h fun vs H1 q => by rw [List.append_nil]; exact q
/-! ### statements -/
theorem wb_nil (h : D.nx σ H) : WB X [] D σ H := WB.of pss_nil h
theorem wb_cons (h : WS X st { D with nx := WB X rest D } σ H) : WB X (st :: rest) D σ H := WB.of (pss_cons WS.ps WB.pss) h
theorem ws_ret (h : W X e σ H D.rt) : WS X (.Return (some e) pos) D σ H := WS.of (ps_ret W.pe) h
theorem ws_retN (h : D.rt .non H) : WS X (.Return none pos) D σ H := WS.of ps_retN h
theorem ws_pass (h : D.nx σ H) : WS X (.Pass pos) D σ H := WS.of ps_pass h
theorem ws_break (h : D.bk σ H) : WS X (.Break pos) D σ H := WS.of ps_break h
theorem ws_continue (h : D.ct σ H) : WS X (.Continue pos) D σ H := WS.of ps_continue h
theorem ws_expr (h : W X e σ H fun _ H1 => D.nx σ H1) (hs : swapsWith e none pos.line X.env = pure false := by rfl) : WS X (.Expr e pos) D σ H := WS.of (ps_expr W.pe hs) h
theorem ws_if {c : Expr} {u v : List Stmt} (h : WT X c σ H fun k H1 => if k = true then WB X u D σ H1 else WB X v D σ H1) : WS X (.If c u v pos) D σ H := WS.of (ps_if WT.pt WB.pss WB.pss) h
theorem ws_set (i : Nat) {x : Str} {p2 : Pos} (h : W X e σ H fun v H1 => D.nx (σ.set i (some v)) H1) (hi : X.N[i]? = some x) (hN : X.N.Nodup) (hx : Loc X.env.scope x := by first | exact Or.inl rfl | exact Or.inr rfl)
    (hs : swapsWith e (some (.Name x p2)) pos.line X.env = pure false := by rfl) (hf : X.fn x = true ∨ X.env.scope.names.lookup x = some .local := by first | exact Or.inl rfl | exact Or.inr rfl) : WS X (.Assign [.Name x p2] e pos) D σ H :=
  WS.of (ps_set hN hi hx W.pe hs hf) h
structure SetV (X : Cx) (o i v : V) (H : Hp) (Q : Hp → Prop) : Prop where
  ex : ∃ r : TSet, PSet X r ∧ r o i v H Q
theorem setV_r : PSet X (SetV X) := fun pins s σ H o i v ov iv u Q I ro ri rv ⟨_, hs, h⟩ => hs pins s σ H o i v ov iv u Q I ro ri rv h
theorem ws_sub {o i : Expr} {p : Pos} (h : W X e σ H fun v H1 => W X o σ H1 fun ov H2 => W X i σ H2 fun iv H3 => SetV X ov iv v H3 fun H4 => D.nx σ H4)
    (hs : swapsWithSole [.Subscript o i p] e pos.line X.env = pure false := by rfl) (hw : swappedStores [.Subscript o i p] e X.env = pure none := by rfl)
    (ha : ∀ v, assign (.Subscript o i p) X.env v = (do
      let ov ← holding [v] (eval o X.env)
      let iv ← holding [v, ov] (eval i X.env)
      standAt p
      holding [v, ov, iv] (setItem ov iv v)
      release [v, ov, iv] []) := by intro _; rfl) : WS X (.Assign [.Subscript o i p] e pos) D σ H :=
  WS.of (ps_asg W.pe (pg_sub W.pe W.pe setV_r ha) hs hw) h
theorem sv_list {p : Addr} {xs : List V} {k : Int} {j : Nat} {v : V} {Q : Hp → Prop} (hp : H p = some (.lst xs)) (hj : ixN xs.length k = some j) (h : Q (upd H p (.lst (xs.set j v)))) : SetV X (.ref p) (.int k) v H Q := ⟨_, set_list, p, xs, k, j, rfl, rfl, hp, hj, h⟩
/-- if by its two ways -/
theorem w_if2 {c : Bool} {A B : Prop} (h1 : c = true → A) (h2 : c = false → B) : if c = true then A else B := by
  cases c with
  | true => rw [if_pos rfl]; exact h1 rfl
  | false => rw [if_neg Bool.false_ne_true]; exact h2 rfl
/-! ### operators by values -/
variable {x y : V}
theorem bv_add {i j : Int} (h : Q (.int (i + j)) H) : BinV X .Add (.int i) (.int j) H Q := ⟨_, op_add, i, j, rfl, rfl, h⟩
theorem bv_sub {i j : Int} (h : Q (.int (i - j)) H) : BinV X .Sub (.int i) (.int j) H Q := ⟨_, op_sub, i, j, rfl, rfl, h⟩
theorem bv_mul {i j : Int} (c : CMul i j) (h : Q (.int (i * j)) H) : BinV X .Mult (.int i) (.int j) H Q := ⟨_, op_mul, i, j, rfl, rfl, c, h⟩
theorem bv_mulW {i j : Int} (c : CMulW i j) (h : Q (.int (i * j)) H) : BinV X .Mult (.int i) (.int j) H Q := ⟨_, op_mulW, i, j, rfl, rfl, c, h⟩
theorem bv_mod {i j : Int} (c : 0 < j) (h : Q (.int (i % j)) H) : BinV X .Mod (.int i) (.int j) H Q := ⟨_, op_mod, i, j, rfl, rfl, c, h⟩
theorem bv_fdiv {i j : Int} (c : CDiv i j) (h : Q (.int (i / j)) H) : BinV X .FloorDiv (.int i) (.int j) H Q := ⟨_, op_fdiv, i, j, rfl, rfl, c, h⟩
def CPowW (i j : Int) : Prop := 0 ≤ j ∧ (Builtin.Int.intBits i : Int) * j ≤ 2 ^ 27
theorem op_powW : OpR X (binaryOp .Pow) (rI CPowW fun i j => .int (i ^ j.toNat)) := opI fun _ _ _ _ _ _ _ hc q => pow_int hc.1 hc.2 q
theorem bv_pow {i j : Int} (c : CPowW i j) (h : Q (.int (i ^ j.toNat)) H) : BinV X .Pow (.int i) (.int j) H Q := ⟨_, op_powW, i, j, rfl, rfl, c, h⟩
theorem bv_cat {p q : Addr} {xs ys : List V} (h1 : H p = some (.lst xs)) (h2 : H q = some (.lst ys)) (hl : xs.length + ys.length ≤ sizeLine) (h : ∀ r H2, Same H H2 → H r = none → H2 r = some (.lst (xs ++ ys)) → Q (.ref r) H2) : BinV X .Add (.ref p) (.ref q) H Q :=
  ⟨_, op_cat, p, q, xs, ys, rfl, rfl, h1, h2, hl, fun r hr => h r _ (same_new hr) hr upd_same⟩
theorem cv_lt {i j : Int} (h : Q (.bl (decide (i < j))) H) : CmpV X .Lt (.int i) (.int j) H Q := ⟨_, op_lt, i, j, rfl, rfl, h⟩
theorem cv_le {i j : Int} (h : Q (.bl (decide (i ≤ j))) H) : CmpV X .LtE (.int i) (.int j) H Q := ⟨_, op_le, i, j, rfl, rfl, h⟩
theorem cv_gt {i j : Int} (h : Q (.bl (decide (j < i))) H) : CmpV X .Gt (.int i) (.int j) H Q := ⟨_, op_gt, i, j, rfl, rfl, h⟩
theorem cv_ge {i j : Int} (h : Q (.bl (decide (j ≤ i))) H) : CmpV X .GtE (.int i) (.int j) H Q := ⟨_, op_ge, i, j, rfl, rfl, h⟩
theorem cv_eq (s : scal x y = true) (h : Q (.bl (decide (x = y))) H) : CmpV X .Eq x y H Q := ⟨_, op_eq, s, h⟩
theorem cv_ne (s : scal x y = true) (h : Q (.bl (!decide (x = y))) H) : CmpV X .NotEq x y H Q := ⟨_, op_ne, s, h⟩
theorem cv_eqD {d d' : PyData} (hu : X.A.units + 64 < cLine) (h1 : Dp X.K H x d) (h2 : Dp X.K H y d') (s1 : SeqAt.shaped d = true) (s2 : SeqAt.shaped d' = true) (h : Q (.bl (PyData.eqv d d')) H) : CmpV X .Eq x y H Q := ⟨_, op_eqD hu, d, d', h1, h2, s1, s2, h⟩
theorem cv_neD {d d' : PyData} (hu : X.A.units + 64 < cLine) (h1 : Dp X.K H x d) (h2 : Dp X.K H y d') (s1 : SeqAt.shaped d = true) (s2 : SeqAt.shaped d' = true) (h : Q (.bl (!PyData.eqv d d')) H) : CmpV X .NotEq x y H Q := ⟨_, op_neD hu, d, d', h1, h2, s1, s2, h⟩
theorem cv_leS {s t : Str} (h : Q (.bl (!decide (t.cps.toList < s.cps.toList))) H) : CmpV X .LtE (.str s) (.str t) H Q := by
  first
    | exact ⟨_, op_le_str, s, t, rfl, rfl, h⟩
    | (refine ⟨_, op_le_str, s, t, rfl, rfl, ?_⟩; simpa using h)
theorem cv_inSign {s : Str} {c : Nat} (h : Q (.bl (decide (c ∈ s.cps.toList))) H) : CmpV X .In (.str ⟨#[c]⟩) (.str s) H Q := ⟨_, op_in_sign, c, s, rfl, rfl, h⟩
theorem cv_inSeq {p : Addr} {xs : List V} (h1 : SqL X.K H p xs ∨ SqT X.K H p xs) (fx : flatV x = true) (fa : xs.all flatV = true) (h : Q (.bl (inV x xs)) H) : CmpV X .In x (.ref p) H Q := ⟨_, op_in_seq, p, xs, rfl, h1, fx, fa, by simpa using h⟩
theorem cv_notInSeq {p : Addr} {xs : List V} (h1 : SqL X.K H p xs ∨ SqT X.K H p xs) (fx : flatV x = true) (fa : xs.all flatV = true) (h : Q (.bl (!inV x xs)) H) : CmpV X .NotIn x (.ref p) H Q := ⟨_, op_notIn_seq, p, xs, rfl, h1, fx, fa, by simpa using h⟩
theorem iv_list {p : Addr} {xs : List V} {i : Int} {v : V} (h1 : SqL X.K H p xs) (h2 : atI xs i = some v) (h : Q v H) : IxV X (.ref p) (.int i) H Q := ⟨_, ix_list, p, xs, i, v, rfl, rfl, h1, h2, h⟩
theorem iv_tup {p : Addr} {xs : List V} {i : Int} {v : V} (h1 : SqT X.K H p xs) (h2 : atI xs i = some v) (h : Q v H) : IxV X (.ref p) (.int i) H Q := ⟨_, ix_tup, p, xs, i, v, rfl, rfl, h1, h2, h⟩
theorem atI_int {α : Type} {xs : List α} {i : Int} (h0 : 0 ≤ i) (h : i.toNat < xs.length) : atI xs i = some xs[i.toNat] := by
  have e : i = ((i.toNat : Nat) : Int) := by omega
  have h1 : atI xs ((i.toNat : Nat) : Int) = some xs[i.toNat] := atI_nat (by simp [h])
  rw [← e] at h1
  exact h1
theorem atI_0 {α : Type} {x : α} {r : List α} : atI (x :: r) 0 = some x := by
  have h : atI (x :: r) ((0 : Nat) : Int) = some x := atI_nat rfl
  exact h
theorem atI_1 {α : Type} {x y : α} {r : List α} : atI (x :: y :: r) 1 = some y := by
  have h : atI (x :: y :: r) ((1 : Nat) : Int) = some y := atI_nat rfl
  exact h
theorem atI_2 {α : Type} {x y z : α} {r : List α} : atI (x :: y :: z :: r) 2 = some z := by
  have h : atI (x :: y :: z :: r) ((2 : Nat) : Int) = some z := atI_nat rfl
  exact h
/-! ### calls of builtins by values -/
theorem kv_len_str {z : Str} (h0 : z.length ≤ sizeLine) (h : Q (.int z.length) H) : CallV X (.builtin "len") [.str z] H Q := ⟨_, call_len_str, z, rfl, h0, h⟩
theorem kv_len_seq {p : Addr} {xs : List V} (h0 : SqL X.K H p xs ∨ SqT X.K H p xs) (h : Q (.int xs.length) H) : CallV X (.builtin "len") [.ref p] H Q := ⟨_, call_len_seq, p, xs, rfl, h0, h⟩
theorem kv_isi {c : V} {t u : Value} {k : Bool} (hc : ClsV c u) (ty : TyX X.K H x t) (hk : PySem.W.kitOne X.K t u = some k) (h : Q (.bl k) H) : CallV X (.builtin "isinstance") [x, c] H Q := ⟨_, call_isi, x, c, t, u, k, rfl, hc, ty, hk, h⟩
theorem kv_all {p : Addr} {bs : List Bool} (hc : X.calm = true) (h0 : SqL X.K H p (bs.map V.bl)) (h : Q (.bl (bs.all id)) H) : CallV X (.builtin "all") [.ref p] H Q := ⟨_, cr_all hc, p, bs, rfl, h0, h⟩
theorem kv_any {p : Addr} {bs : List Bool} (hc : X.calm = true) (h0 : SqL X.K H p (bs.map V.bl)) (h : Q (.bl (bs.any id)) H) : CallV X (.builtin "any") [.ref p] H Q := ⟨_, cr_any hc, p, bs, rfl, h0, h⟩
theorem kv_int {i : Int} (h : Q (.int i) H) : CallV X (.type "int") [.int i] H Q := ⟨_, call_int1, .inl ⟨i, rfl, h⟩⟩
theorem kv_intB {k : Bool} (h : Q (.int (if k then 1 else 0)) H) : CallV X (.type "int") [.bl k] H Q := ⟨_, call_int1, .inr ⟨k, rfl, by first | exact h | simpa using h⟩⟩
theorem kv_abs {i : Int} (h : Q (.int (if i < 0 then -i else i)) H) : CallV X (.builtin "abs") [.int i] H Q := ⟨_, call_abs, i, rfl, h⟩
theorem kv_max2 {i j : Int} (hc : X.calm = true) (h : Q (.int (if j > i then j else i)) H) : CallV X (.builtin "max") [.int i, .int j] H Q := ⟨_, call_max2 hc, i, j, rfl, h⟩
theorem kv_min2 {i j : Int} (hc : X.calm = true) (h : Q (.int (if j < i then j else i)) H) : CallV X (.builtin "min") [.int i, .int j] H Q := ⟨_, call_min2 hc, i, j, rfl, h⟩
end
/-! ### types of data -/
def tyD : PyData → String
  | .none => "NoneType"
  | .bool _ => "bool"
  | .int _ => "int"
  | .str _ => "str"
  | .list _ => "list"
  | .tuple _ => "tuple"
  | .dict _ => "dict"
theorem dp_ty {K : PySem.W.Frag} {H : Hp} {v : V} {d : PyData} (h : Dp K H v d) : TyX K H v (.type (tyD d)) := by
  cases h with
  | non => exact .base .non
  | bl b => exact .base (.bl b)
  | int i => exact .base (.int i)
  | str x => exact .base (.str x)
  | lst hs _ =>
    rcases hs with (h | ⟨o, h⟩) | ⟨o, its, n, hk, hc, _⟩
    · exact .base (.lst h)
    · exact .base (.frz h)
    · exact .kList hk hc
  | tup hs _ =>
    rcases hs with (h | ⟨o, h⟩) | ⟨o, its, n, hk, hc, _⟩
    · exact .base (.tup h)
    · exact .fTuple h
    · exact .kTuple hk hc
end Ax
end
section
set_option maxHeartbeats 2000000
namespace Ax
open PySem PySem.Spec PyProof.Rows L2

/-! ### walks -/
structure WI (X : Cx) (tg iter : Expr) (σ : L2.St) (H : Hp) (R : It → Hp → Prop) : Prop where
  run : ∀ (pins : List (Addr × Obj)) (s : Shared), Inv X pins σ H s → wpAny (model X.prog X.w) X.A (eval iter X.env) (fun v s1 => wpAny (model X.prog X.w) X.A (pyIter v) (PIE X pins σ tg R) X.xe s1) X.xe s
/-- iter(x), by values -/
structure IterV (X : Cx) (tg : Expr) (x : V) (H : Hp) (R : It → Hp → Prop) : Prop where
  run : ∀ (pins : List (Addr × Obj)) (s : Shared) (σ : L2.St) (v : Value), Inv X pins σ H s → RelV x v → wpAny (model X.prog X.w) X.A (pyIter v) (PIE X pins σ tg R) X.xe s
section
variable {X : Cx} {tg iter elt : Expr} {σ : L2.St} {H : Hp} {R : It → Hp → Prop} {Q : VK} {pos : Pos} {D : Ends}
theorem WI.pi : PI X tg iter (WI X tg iter) := ⟨fun pins s _ _ _ I h => h.run pins s I⟩
theorem WI.of {wi : TI} (h : PI X tg iter wi) (q : wi σ H R) : WI X tg iter σ H R := ⟨fun pins s I => h.run pins s σ H R I q⟩
theorem wi_val (h : W X iter σ H fun x H1 => IterV X tg x H1 R) : WI X tg iter σ H R := ⟨fun pins s I =>
  thn (h.run pins s I) fun v s1 ⟨x, H1, I1, r, q⟩ => q.run pins s1 σ v I1 r⟩
theorem itv_list {a : Addr} {xs : List V} (h : SqL X.K H a xs) (q : R (Itl X.K a) H) : IterV X tg (.ref a) H R := by
  constructor
  intro pins s1 σ v I1 r1
  cases r1
  obtain ⟨its, rv, p, hz⟩ := I1.list h
  refine wpAny_pyIter_list p.isList ?_
  refine ⟨s1.heap.objs.size, [s1.heap.objs.size], _, _, H, rfl, I1.kept (t' := s1.toks) fun b o e => Heap.get?_push_of_some _ e, turn_list a _, ⟨_, Heap.get?_push_size _ rfl, rfl, rfl⟩, fun b hb => ?_, q⟩
  have e : b = s1.heap.objs.size := by simpa using hb
  subst e
  exact I1.fpOk (Nat.le_refl _) (I1.hok.fresh (Nat.le_refl _))
theorem itv_tup {a : Addr} {xs : List V} (h : SqT X.K H a xs) (q : R (Itt X.K a) H) : IterV X tg (.ref a) H R := by
  constructor
  intro pins s1 σ v I1 r1
  cases r1
  obtain ⟨its, rv, p, hz⟩ := I1.tuple h
  refine wpAny_pyIter_tuple (show s1.heap.IsTuple a its.toArray from p) ?_
  refine ⟨s1.heap.objs.size, [s1.heap.objs.size], _, _, H, rfl, I1.kept (t' := s1.toks) fun b o e => Heap.get?_push_of_some _ e, turn_tuple a _, ⟨_, Heap.get?_push_size _ rfl, rfl, rfl⟩, fun b hb => ?_, q⟩
  have e : b = s1.heap.objs.size := by simpa using hb
  subst e
  exact I1.fpOk (Nat.le_refl _) (I1.hok.fresh (Nat.le_refl _))
theorem itv_str {z : Str} (q : R (Its z) H) : IterV X tg (.str z) H R := by
  constructor
  intro pins s1 σ v I1 r1
  obtain ⟨t, rfl⟩ := r1
  cases ha : z.cps.all (· < 128)
  · exact wpAny_pyIter_wide ha (pi_one (tk := s1.toks) I1 _ (turn_str _ z t "str_iterator" (.inr rfl)) ⟨_, Heap.get?_push_size _ rfl, rfl, rfl⟩ q)
  · exact wpAny_pyIter_ascii ha (pi_one (tk := s1.toks) I1 _ (turn_str _ z t "str_ascii_iterator" (.inl rfl)) ⟨_, Heap.get?_push_size _ rfl, rfl, rfl⟩ q)
theorem wi_range1 {a : Expr} {p : Pos} (hm : X.mg "range" = none) (h : WA X [a] σ H fun vs H1 => ∃ j : Int, vs = [.int j] ∧ -(2 ^ 62) ≤ j ∧ j < 2 ^ 62 ∧ R (Itr 0 j.toNat) H1) (hg : Gl X "range" := by rfl) (hs : starEach [a] X.env = [(false, eval a X.env)] := by rfl) :
    WI X tg (.Call (.Name "range" p) [a] [] pos) σ H R := WI.of (pi_range1 hg hm WA.pa hs) h
/-- a walk over the fixed items xs that nothing but a change of its source disturbs -/
structure SeqIt (J : It) (H : Hp) (xs : List V) : Prop where
  ex : ∃ G : Hp → Prop, Walk J xs.length G (YAt xs) ∧ G H ∧ ∀ H', Same H H' → G H'
theorem seqIt_list {K : PySem.W.Frag} {a : Addr} {xs : List V} (h : SqL K H a xs) : SeqIt (Itl K a) H xs := ⟨_, walk_list, h, fun _ s => s.seq h⟩
theorem seqIt_tup {K : PySem.W.Frag} {a : Addr} {xs : List V} (h : SqT K H a xs) : SeqIt (Itt K a) H xs := ⟨_, walk_tup, h, fun _ s => same_tup s h⟩
def signsV (z : Str) : List V := z.cps.toList.map fun c => V.str ⟨#[c]⟩
theorem seqIt_str {z : Str} : SeqIt (Its z) H (signsV z) := by
  refine ⟨fun _ => True, ?_, trivial, fun _ _ => trivial⟩
  have w := (walk_str (z := z)).mono (G' := fun _ => True) (Y' := YAt (signsV z)) (fun _ h => h) fun i H x H' hi _ y => by
    obtain ⟨e, c, hc, rfl⟩ := y
    refine ⟨e, ?_⟩
    unfold signsV
    rw [List.getElem?_map]
    simp [hc]
  have e : (signsV z).length = z.cps.size := by simp [signsV]
  rw [e]
  exact w
def intsV (lo : Int) (n : Nat) : List V := (List.range n).map fun (i : Nat) => V.int (lo + (i : Int))
theorem seqIt_range {lo : Int} {n : Nat} : SeqIt (Itr lo n) H (intsV lo n) := by
  refine ⟨fun _ => True, ?_, trivial, fun _ _ => trivial⟩
  have w := (walk_range (lo := lo) (n := n)).mono (G' := fun _ => True) (Y' := YAt (intsV lo n)) (fun _ h => h) fun i H x H' hi _ y => by
    obtain ⟨e, rfl⟩ := y
    refine ⟨e, ?_⟩
    unfold intsV
    rw [List.getElem?_map]
    simp [hi]
  have e : (intsV lo n).length = n := by simp [intsV]
  rw [e]
  exact w
/-! ### [elt for x in iter], one name, pure: each item makes its element, by a relation that stands -/
inductive Rel2 (R : V → V → Prop) : List V → List V → Prop
  | nil : Rel2 R [] []
  | cons {x y xs ys} : R x y → Rel2 R xs ys → Rel2 R (x :: xs) (y :: ys)
theorem Rel2.snoc {R : V → V → Prop} {x y : V} (h : R x y) : ∀ {xs ys : List V}, Rel2 R xs ys → Rel2 R (xs ++ [x]) (ys ++ [y])
  | _, _, .nil => .cons h .nil
  | _, _, .cons r t => .cons r (Rel2.snoc h t)
theorem Rel2.imp {R S : V → V → Prop} (k : ∀ x y, R x y → S x y) : ∀ {xs ys : List V}, Rel2 R xs ys → Rel2 S xs ys
  | _, _, .nil => .nil
  | _, _, .cons r t => .cons (k _ _ r) (Rel2.imp k t)
theorem Rel2.len {R : V → V → Prop} : ∀ {xs ys : List V}, Rel2 R xs ys → xs.length = ys.length
  | _, _, .nil => rfl
  | _, _, .cons _ t => by simp [Rel2.len t]
theorem Rel2.map {f : V → V} : ∀ {xs ys : List V}, Rel2 (fun x y => y = f x) xs ys → ys = xs.map f
  | _, _, .nil => rfl
  | _, _, .cons r t => by rw [r, Rel2.map t]; rfl
theorem w_lc {i : Nat} {x : Str} {px : Pos} {scope : Scope} (own : List (Str × Nat)) (ho : own = [(x, i)]) (hc : X.calm = true) (hN : X.N.Nodup) (ok : BlkOk X.N X.env.scope scope own) (hi : X.N[i]? = some x)
    (hloc : ∀ (s : Shared) (H : Hp) (C : Addr) (cl : List (Str × Addr)) (fp : List Addr), Loc (X.blk s H scope (compEnvC scope cl C X.env) fp).env.scope x ∧ ((X.blk s H scope (compEnvC scope cl C X.env) fp).fn x = true ∨ (X.blk s H scope (compEnvC scope cl C X.env) fp).env.scope.names.lookup x = some .local))
    (h : WI X (.Name x px) iter σ H fun J H1 => ∃ xs, SeqIt J H1 xs ∧ xs.length < sizeLine ∧ ∃ R : V → V → Hp → Prop, (∀ x y Ha Hb, R x y Ha → Sl Ha Hb → R x y Hb) ∧
      (∀ v ∈ xs, ∀ H2, Same H1 H2 → ∀ (s : Shared) (H : Hp) (C : Addr) (cl : List (Str × Addr)) (fp : List Addr), W (X.blk s H scope (compEnvC scope cl C X.env) fp) elt ((wipe σ [i]).set i (some v)) H2 fun y H3 => Same H2 H3 ∧ R v y H3) ∧
      ∀ p ys H2, Same H1 H2 → H1 p = none → H2 p = some (.lst ys) → Rel2 (fun x y => R x y H2) xs ys → Q (.ref p) H2)
    (hs : ∀ x, foldedSetIterable iter X.env x = pure x := by intro _; rfl) (hw : (((wipe σ [i]).set i (some V.non)).set i none) = wipe σ [i] := by rfl) :
    W X (.ListComp elt [⟨.Name x px, iter, [], 0⟩] scope pos) σ H Q := by
  subst ho
  refine W.of (pe_lc (own := [(x, i)]) (g := gName i) (tt := tYes) (te := fun σ2 H2 K => ∀ (s : Shared) (H : Hp) (C : Addr) (cl : List (Str × Addr)) (fp : List Addr), W (X.blk s H scope (compEnvC scope cl C X.env) fp) elt σ2 H2 K) hc hN WI.pi ok (fun s H C cl fp => pg_name hN hi (hloc s H C cl fp).1 (hloc s H C cl fp).2) (fun _ _ _ _ _ => pts_nil)
    (fun s H C cl fp => ⟨fun pins s' σ' H' Q' I' h' => (h' s H C cl fp).run pins s' I'⟩) hs) ?_
  refine ⟨fun pins s I => thn (h.run pins s I) fun v s1 z => thn z fun it s2 q => ?_⟩
  obtain ⟨it', fp, tn, J, H1, e, I2, T, t0, f0, xs, ⟨G, wk, g0, gs⟩, hlen, R, hst, hel, hend⟩ := q
  refine ⟨it', fp, tn, J, H1, e, I2, T, t0, f0, fun Dd nD => ?_⟩
  refine lc_it (H1 := H1) (D := Dd) (g := gName i) (tt := tYes) (te := fun σ2 H2 K => ∀ (s : Shared) (H : Hp) (C : Addr) (cl : List (Str × Addr)) (fp : List Addr), W (X.blk s H scope (compEnvC scope cl C X.env) fp) elt σ2 H2 K) (vs := [i]) (σ := σ) (Qd := fun H2 => Q (.ref Dd) H2) wk (fun j H2 => ∃ ys, Same H1 H2 ∧ H2 Dd = some (.lst ys) ∧ Rel2 (fun x y => R x y H2) (xs.take j) ys) ⟨[], same_new nD, upd_same, .nil⟩ (fun j H2 _ ⟨ys, sm, hD, _⟩ => gs _ sm) ?_ ?_
  · rintro j v H2 H2' hj ⟨ys, s12, hD, rel⟩ ⟨eH, hv⟩
    subst eH
    have hm : v ∈ xs := List.mem_of_getElem? hv
    have hw' : wipe ((wipe σ [i]).set i (some v)) [i] = wipe σ [i] := by
      have e1 : wipe ((wipe σ [i]).set i (some v)) [i] = ((wipe σ [i]).set i (some v)).set i none := rfl
      rw [e1, List.set_set]
      have e2 : ((wipe σ [i]).set i (some V.non)).set i none = wipe σ [i] := hw
      rw [List.set_set] at e2
      exact e2
    refine ⟨hw', ?_⟩
    unfold tYes
    dsimp only
    rw [if_pos rfl]
    intro s H C cl fp
    refine W.mono (e := elt) (X := X.blk s H scope (compEnvC scope cl C X.env) fp) (hel v hm H2' s12 s H C cl fp) fun y H3 ⟨s23, r⟩ => ?_
    have hD3 := s23 _ _ hD
    have hl : ys.length < sizeLine := by
      have e1 := rel.len
      rw [List.length_take] at e1
      omega
    refine ⟨ys, hD3, hl, ys ++ [y], same_upd (s12.trans s23) nD, upd_same, ?_⟩
    have sl : Sl H3 (upd H3 Dd (.lst (ys ++ [y]))) := (Sl.refl H3).lst hD3
    have e : xs.take (j + 1) = xs.take j ++ [v] := by
      rw [List.take_add_one, hv]
      rfl
    rw [e]
    exact (rel.imp fun a b q => hst _ _ _ _ q ((Sl.of s23).trans sl)).snoc (hst _ _ _ _ r sl)
  · rintro H2 ⟨ys, s12, hD, rel⟩
    rw [List.take_length] at rel
    exact hend Dd ys H2 s12 nD hD rel
/-- .. each element a value by a function -/
theorem w_lcF {x : Str} {px : Pos} {scope : Scope} (i : Nat) (f : V → V) (hc : X.calm = true) (hN : X.N.Nodup) (ok : BlkOk X.N X.env.scope scope [(x, i)]) (hi : X.N[i]? = some x)
    (hloc : ∀ (s : Shared) (H : Hp) (C : Addr) (cl : List (Str × Addr)) (fp : List Addr), Loc (X.blk s H scope (compEnvC scope cl C X.env) fp).env.scope x ∧ ((X.blk s H scope (compEnvC scope cl C X.env) fp).fn x = true ∨ (X.blk s H scope (compEnvC scope cl C X.env) fp).env.scope.names.lookup x = some .local))
    (h : WI X (.Name x px) iter σ H fun J H1 => ∃ xs, SeqIt J H1 xs ∧ xs.length < sizeLine ∧
      (∀ v ∈ xs, ∀ H2, Same H1 H2 → ∀ (s : Shared) (H : Hp) (C : Addr) (cl : List (Str × Addr)) (fp : List Addr), W (X.blk s H scope (compEnvC scope cl C X.env) fp) elt ((wipe σ [i]).set i (some v)) H2 fun y H3 => Same H2 H3 ∧ y = f v) ∧
      ∀ p H2, Same H1 H2 → H1 p = none → H2 p = some (.lst (xs.map f)) → Q (.ref p) H2)
    (hs : ∀ x, foldedSetIterable iter X.env x = pure x := by intro _; rfl) (hw : (((wipe σ [i]).set i (some V.non)).set i none) = wipe σ [i] := by rfl) :
    W X (.ListComp elt [⟨.Name x px, iter, [], 0⟩] scope pos) σ H Q := by
  refine w_lc _ rfl hc hN ok hi hloc ?_ hs hw
  refine ⟨fun pins s I => thn (h.run pins s I) fun v s1 z => thn z fun it s2 q => ?_⟩
  obtain ⟨it', fp, tn, J, H1, e, I2, T, t0, f0, xs, h1, h2, h3, h4⟩ := q
  refine ⟨it', fp, tn, J, H1, e, I2, T, t0, f0, xs, h1, h2, fun x y _ => y = f x, fun _ _ _ _ q _ => q, h3, fun p ys H2 s n hp r => ?_⟩
  have e := Rel2.map r
  subst e
  exact h4 p H2 s n hp
/-- all([elt for x in iter]), each element a test -/
theorem w_allLc {x : Str} {px pa pl : Pos} {scope : Scope} (i : Nat) (f : V → Bool) (hm : X.mg "all" = none) (hc : X.calm = true) (hN : X.N.Nodup) (ok : BlkOk X.N X.env.scope scope [(x, i)]) (hi : X.N[i]? = some x)
    (hloc : ∀ (s : Shared) (H : Hp) (C : Addr) (cl : List (Str × Addr)) (fp : List Addr), Loc (X.blk s H scope (compEnvC scope cl C X.env) fp).env.scope x ∧ ((X.blk s H scope (compEnvC scope cl C X.env) fp).fn x = true ∨ (X.blk s H scope (compEnvC scope cl C X.env) fp).env.scope.names.lookup x = some .local))
    (h : WI X (.Name x px) iter σ H fun J H1 => ∃ xs, SeqIt J H1 xs ∧ xs.length < sizeLine ∧
      (∀ v ∈ xs, ∀ H2, Same H1 H2 → ∀ (s : Shared) (H : Hp) (C : Addr) (cl : List (Str × Addr)) (fp : List Addr), W (X.blk s H scope (compEnvC scope cl C X.env) fp) elt ((wipe σ [i]).set i (some v)) H2 fun y H3 => Same H2 H3 ∧ y = .bl (f v)) ∧
      ∀ H2, Same H1 H2 → Q (.bl (xs.all f)) H2)
    (hg : Gl X "all" := by rfl) (hs : ∀ x, foldedSetIterable iter X.env x = pure x := by intro _; rfl) (hw : (((wipe σ [i]).set i (some V.non)).set i none) = wipe σ [i] := by rfl)
    (he : starEach [.ListComp elt [⟨.Name x px, iter, [], 0⟩] scope pl] X.env = (false, eval (.ListComp elt [⟨.Name x px, iter, [], 0⟩] scope pl) X.env) :: starEach [] X.env := by rfl) (hpl : (backTo pos (starEach [] X.env)).any (·.1) = false := by rfl) :
    W X (.Call (.Name "all" pa) [.ListComp elt [⟨.Name x px, iter, [], 0⟩] scope pl] [] pos) σ H Q := by
  refine w_callB (id := "all") hm ?_ b_all hg (by decide) (by decide) he hpl
  refine wa_cons ?_ he
  refine w_lcF i (fun v => .bl (f v)) hc hN ok hi hloc ?_ hs hw
  refine ⟨fun pins s I => thn (h.run pins s I) fun v s1 z => thn z fun it s2 q => ?_⟩
  obtain ⟨it', fp, tn, J, H1, e, I2, T, t0, f0, xs, h1, h2, h3, h4⟩ := q
  refine ⟨it', fp, tn, J, H1, e, I2, T, t0, f0, xs, h1, h2, h3, fun p H2 s n hp => ?_⟩
  refine wa_nil (kv_all (bs := xs.map f) hc (SqL.of ?_) ?_)
  · rw [hp, List.map_map]
    rfl
  · have e : (xs.map f).all id = xs.all f := by rw [List.all_map]; rfl
    rw [e]
    exact h4 H2 s
end
end Ax
end
section
set_option maxHeartbeats 2000000
namespace Ax
open PySem PySem.Spec PyProof.Rows L2
/-- a def of the top -/
def TxtF (K : PySem.W.Frag) (mg : Str → Option Value) (x : Str) (st : Stmt) : Prop := ∃ f fd, FunD K x x (defArgs st) (defBody st) (defScope st) [] [] f fd ∧ mg x = some (.ref f)
theorem txtF_of {K : PySem.W.Frag} {mg : Str → Option Value} {x : Str} {st : Stmt} {f : Addr} (h : ∃ fd, FunD K x x (defArgs st) (defBody st) (defScope st) [] [] f fd) (g : mg x = some (.ref f)) : TxtF K mg x st := by
  obtain ⟨fd, h⟩ := h
  exact ⟨f, fd, h, g⟩
theorem cS_of {mg : Str → Option Value} {x z : Str} (h : ∃ t, mg x = some (.str z t)) : ∃ u, mg x = some u ∧ RelV (.str z) u := by
  obtain ⟨t, h⟩ := h
  exact ⟨_, h, t, rfl⟩
theorem cI_of {mg : Str → Option Value} {x : Str} {i : Int} (h : ∃ t, mg x = some (.int i t)) : ∃ u, mg x = some u ∧ RelV (.int i) u := by
  obtain ⟨t, h⟩ := h
  exact ⟨_, h, t, rfl⟩
section
variable {P : Program} {w : World} {K : PySem.W.Frag} {mg : Str → Option Value} {base : Heap}
theorem def_ok {x : Str} {st : Stmt} {N ps : List Str} {k : Nat} {sp : Sp} (T : TxtF K mg x st) (S : FnScope N ps (defScope st))
    (hb : ∀ (kV doc pm : Value) (an : Option Addr) (cdv ct : Value) (us : List Value), us.length = ps.length → bindArgs (PySem.W.fnOf x x (defArgs st) (defBody st) (defScope st) .none kV doc pm an cdv ct) ⟨us, []⟩ = pure (ps.zip us))
    (len : ∀ vs H Q E, sp vs H Q E → vs.length = ps.length)
    (body : ∀ (f : Addr) (cdv : Value) (A : Around) (outer : List Env) (s : Shared) (H : Hp) (vs : List V) (Q : VK) (E : XK), Room k (A.deeper (envOfC x (defScope st) s.heap.objs.size f cdv)) → sp vs H Q E →
      WB (cxOf (L2.CX P w) P w K mg base N x (defScope st) f cdv A outer s H E) (defBody st) { nx := fun _ H' => Q .non H', rt := Q } (start N vs) H) : Callee P w K mg base x (k + 1) ps sp := by
  obtain ⟨f, fd, F, g⟩ := T
  exact ⟨f, fd, F.ok S len fun cdv A outer s H vs Q E hr h => ⟨_, WB.pss, body f cdv A outer s H vs Q E hr h⟩, F.bindsN hb, g, F.kp⟩
end
end Ax
end
section
set_option maxHeartbeats 2000000
namespace Ax
open PySem PySem.Spec PyProof.Rows L2
theorem qb {Q : VK} {H : Hp} {a b : Bool} (h : Q (.bl a) H) (e : a = b) : Q (.bl b) H := e ▸ h
theorem qi {Q : VK} {H : Hp} {a b : Int} (h : Q (.int a) H) (e : a = b) : Q (.int b) H := e ▸ h
mutual
/-- short texts, nothing but none, bools, ints, texts, lists, tuples -/
def tame : PyData → Bool
  | .str z => PyData.strOk z && decide (z.length ≤ 1000)
  | .list ds => tameAll ds && decide (ds.length ≤ 100000)
  | .tuple ds => tameAll ds && decide (ds.length ≤ 100000)
  | .dict _ => false
  | _ => true
def tameAll : List PyData → Bool
  | [] => true
  | d :: ds => tame d && tameAll ds
end
def okD (d : PyData) : Bool := tame d && decide (d.depth ≤ 60)
mutual
theorem tame_lay : ∀ {d : PyData}, tame d = true → d.canLay0 = true
  | .none, _ => rfl
  | .bool _, _ => rfl
  | .int _, _ => rfl
  | .str z, h => by
    simp only [tame, Bool.and_eq_true] at h
    simpa [PyData.canLay0] using h.1
  | .list ds, h => by simpa [PyData.canLay0] using tameAll_lay (by simp only [tame, Bool.and_eq_true] at h; exact h.1)
  | .tuple ds, h => by simpa [PyData.canLay0] using tameAll_lay (by simp only [tame, Bool.and_eq_true] at h; exact h.1)
  | .dict _, h => by simp [tame] at h
theorem tameAll_lay : ∀ {ds : List PyData}, tameAll ds = true → PyData.canLayAll0 ds = true
  | [], _ => by simp [PyData.canLayAll0]
  | d :: ds, h => by
    simp only [tameAll, Bool.and_eq_true] at h
    simp [PyData.canLayAll0, tame_lay h.1, tameAll_lay h.2]
end
theorem okD.shaped {d : PyData} (h : okD d = true) : SeqAt.shaped d = true := by
  simp only [okD, Bool.and_eq_true, decide_eq_true_eq] at h
  simp only [SeqAt.shaped, Bool.and_eq_true, decide_eq_true_eq]
  exact ⟨tame_lay h.1, by omega⟩
theorem tameAll_mem {ds : List PyData} (h : tameAll ds = true) : ∀ d ∈ ds, tame d = true := by
  induction ds with
  | nil => intro d hd; cases hd
  | cons x xs ih =>
    simp only [tameAll, Bool.and_eq_true] at h
    intro d hd
    rcases List.mem_cons.mp hd with rfl | hd
    · exact h.1
    · exact ih h.2 d hd
theorem depthAll_mem {ds : List PyData} {n : Nat} (h : PyData.depthAll ds ≤ n) : ∀ d ∈ ds, d.depth ≤ n := by
  induction ds with
  | nil => intro d hd; cases hd
  | cons x xs ih =>
    rw [PyData.depthAll] at h
    intro d hd
    rcases List.mem_cons.mp hd with rfl | hd
    · omega
    · exact ih (by omega) d hd
theorem okD.item {ds : List PyData} (h : okD (.tuple ds) = true) : ∀ d ∈ ds, okD d = true := by
  simp only [okD, tame, Bool.and_eq_true, decide_eq_true_eq] at h
  obtain ⟨h1, h2⟩ := h
  rw [PyData.depth] at h2
  intro d hd
  simp only [okD, Bool.and_eq_true, decide_eq_true_eq]
  exact ⟨tameAll_mem h1.1 d hd, by have := depthAll_mem (n := 59) (by omega) d hd; omega⟩
theorem okD.len {ds : List PyData} (h : okD (.tuple ds) = true) : ds.length < sizeLine := by
  simp only [okD, tame, Bool.and_eq_true, decide_eq_true_eq] at h
  exact Nat.lt_of_le_of_lt h.1.2 (by decide)
theorem okD.str {z : Str} (h : okD (.str z) = true) : z.length ≤ sizeLine := by
  simp only [okD, tame, Bool.and_eq_true, decide_eq_true_eq] at h
  exact Nat.le_trans h.1.2 (by decide)
/-- any value: data, or a thing of another type -/
inductive AnyV (K : PySem.W.Frag) (H : Hp) : V → Option PyData → Prop
  | dat {v : V} {d : PyData} (h : Dp K H v d) (ok : okD d = true) : AnyV K H v (some d)
  | oth {v : V} {t : Value} (h : TyX K H v t) (n : ∀ T ∈ ["str", "int", "bool", "tuple", "list"], PySem.W.kitOne K t (.type T) = some false) : AnyV K H v none
def tyNames : List String := ["NoneType", "bool", "int", "str", "list", "tuple", "dict"]
theorem tyD_mem (d : PyData) : tyD d ∈ tyNames := by cases d <;> simp [tyD, tyNames]
theorem kit_all : ∀ T ∈ ["str", "int", "bool", "tuple", "list"], ∀ t ∈ tyNames, (kitB t T).isSome = true := by decide +kernel
def isiO (T : String) : Option PyData → Bool
  | some d => (kitB (tyD d) T).getD false
  | none => false
section
variable {X : Cx} {H : Hp} {Q : VK} {v : V} {o : Option PyData}
theorem kv_isiA {T : String} (a : AnyV X.K H v o) (hT : T ∈ ["str", "int", "bool", "tuple", "list"]) (h : Q (.bl (isiO T o)) H) : CallV X (.builtin "isinstance") [v, .ty T] H Q := by
  cases a with
  | oth ty n => exact kv_isi (.ty T) ty (n T hT) h
  | @dat d hd ok =>
    refine kv_isi (k := isiO T (some d)) (.ty T) (dp_ty hd) (kit_ty ?_) h
    have q := kit_all T hT (tyD d) (tyD_mem d)
    obtain ⟨b, q⟩ := Option.isSome_iff_exists.mp q
    show kitB (tyD d) T = some ((kitB (tyD d) T).getD false)
    rw [q]
    rfl
theorem isiO_str (d : PyData) : isiO "str" (some d) = (match d with | .str _ => true | _ => false) := by
  have k : ∀ t ∈ tyNames, (kitB t "str").getD false = (t == "str") := by decide +kernel
  refine (k _ (tyD_mem d)).trans ?_
  cases d <;> rfl
theorem isiO_tuple (d : PyData) : isiO "tuple" (some d) = (match d with | .tuple _ => true | _ => false) := by
  have k : ∀ t ∈ tyNames, (kitB t "tuple").getD false = (t == "tuple") := by decide +kernel
  refine (k _ (tyD_mem d)).trans ?_
  cases d <;> rfl
theorem isiO_int (d : PyData) : isiO "int" (some d) = (match d with | .int _ => true | .bool _ => true | _ => false) := by
  have k : ∀ t ∈ tyNames, (kitB t "int").getD false = (t == "int" || t == "bool") := by decide +kernel
  refine (k _ (tyD_mem d)).trans ?_
  cases d <;> rfl
theorem isiO_bool (d : PyData) : isiO "bool" (some d) = (match d with | .bool _ => true | _ => false) := by
  have k : ∀ t ∈ tyNames, (kitB t "bool").getD false = (t == "bool") := by decide +kernel
  refine (k _ (tyD_mem d)).trans ?_
  cases d <;> rfl
end
theorem tyX_same {K : PySem.W.Frag} {H H' : Hp} {v : V} {t : Value} (s : Same H H') (h : TyX K H v t) : TyX K H' v t := by
  cases h with
  | base b =>
    cases b with
    | non => exact .base .non
    | bl x => exact .base (.bl x)
    | int x => exact .base (.int x)
    | str x => exact .base (.str x)
    | flt x => exact .base (.flt x)
    | lst e => exact .base (.lst (s _ _ e))
    | frz e => exact .base (.frz (s _ _ e))
    | tup e => exact .base (.tup (s _ _ e))
    | dK e => exact .base (.dK (s _ _ e))
    | dT e => exact .base (.dT (s _ _ e))
    | ins e cl ha hn htk hm => exact .base (.ins (s _ _ e) cl ha hn htk hm)
  | byt b => exact .byt b
  | set e => exact .set (s _ _ e)
  | kList e c => exact .kList e c
  | kTuple e c => exact .kTuple e c
  | kDict e c => exact .kDict e c
  | fTuple e => exact .fTuple (s _ _ e)
  | fDict e => exact .fDict (s _ _ e)
section
variable {K : PySem.W.Frag} {H H' : Hp} {v : V} {o : Option PyData}
theorem anyV_same (s : Same H H') (a : AnyV K H v o) : AnyV K H' v o := by
  cases a with
  | dat h ok => exact .dat (dp_same s h) ok
  | oth h n => exact .oth (tyX_same s h) n
theorem anyV_tuple (a : AnyV K H v o) (c : isiO "tuple" o = true) : ∃ p xs ds, v = .ref p ∧ o = some (.tuple ds) ∧ SqT K H p xs ∧ DpAll K H xs ds ∧ okD (.tuple ds) = true := by
  cases a with
  | oth => cases c
  | @dat d hd ok =>
    rw [isiO_tuple] at c
    cases hd <;> first | cases c | skip
    exact ⟨_, _, _, rfl, rfl, by assumption, by assumption, ok⟩
theorem anyV_str (a : AnyV K H v o) (c : isiO "str" o = true) : ∃ z, v = .str z ∧ o = some (.str z) ∧ okD (.str z) = true := by
  cases a with
  | oth => cases c
  | @dat d hd ok =>
    rw [isiO_str] at c
    cases hd <;> first | cases c | skip
    exact ⟨_, rfl, rfl, ok⟩
theorem any_tupleF {f : PyData → Bool} (c : isiO "tuple" o = false) (hf : ∀ d, (∀ ds, d ≠ .tuple ds) → f d = false) : o.any f = false := by
  cases o with
  | none => rfl
  | some d =>
    rw [isiO_tuple] at c
    refine hf d fun ds e => ?_
    rw [e] at c
    cases c
theorem any_strF {f : PyData → Bool} (c : isiO "str" o = false) (hf : ∀ d, (∀ z, d ≠ .str z) → f d = false) : o.any f = false := by
  cases o with
  | none => rfl
  | some d =>
    rw [isiO_str] at c
    refine hf d fun ds e => ?_
    rw [e] at c
    cases c
end
end Ax
end
section
set_option maxHeartbeats 2000000
namespace Ax
open PySem PySem.Spec PyProof.Rows L2
/-! ### another look at a thing: the abstract heap tells it otherwise, the heap is the same -/
def plainO : HO → Bool
  | .lst _ => true
  | .ext _ => true
  | _ => false
theorem Inv.view {X : Cx} {pins : List (Addr × Obj)} {σ : L2.St} {H : Hp} {s : Shared} {p : Addr} {o o' : HO} (I : Inv X pins σ H s) (hp : H p = some o) (ho : plainO o = true) (new : ObjOk X.prog X.w (upd H p o') s.heap p o') : Inv X pins σ (upd H p o') s := by
  have ne : ∀ b u, H b = some u → plainO u = false → b ≠ p := fun b u e n z => by
    rw [z, hp] at e
    cases e
    rw [ho] at n
    cases n
  have nn : ∀ b, H b = none → b ≠ p := fun b e z => by
    rw [z, hp] at e
    cases e
  have B := I.base
  refine ⟨I.ok, I.os, I.bare, ⟨B.keep, B.slot, fun b u e n hx => ?_, B.there, fun b xs e => ?_, fun b u xs e => ?_, fun b ps e => ?_⟩, I.loc, I.cell, ?_, fun x c e => ?_, fun q hq => ?_, fun b u e => ?_, I.len⟩
  · have z := B.free b u e n hx
    rw [upd_ne (nn b z)]; exact z
  · have z := B.tups b xs e
    rw [upd_ne (ne b _ z rfl)]; exact z
  · have z := B.frzs b u xs e
    rw [upd_ne (ne b _ z rfl)]; exact z
  · obtain ⟨more, z⟩ := B.tbls b ps e
    exact ⟨more, by rw [upd_ne (ne b _ z rfl)]; exact z⟩
  · rw [upd_ne (nn _ I.free)]; exact I.free
  · have z := I.freeC x c e
    rw [upd_ne (nn _ z)]; exact z
  · obtain ⟨h1, h2, h3⟩ := I.pin q hq
    exact ⟨h1, by rw [upd_ne (nn _ h2)]; exact h2, h3⟩
  · by_cases hb : b = p
    · subst hb
      rw [upd_same] at e
      cases e
      exact new
    · rw [upd_ne hb] at e
      exact (I.hok b u e).stay (fun _ _ _ q => q) (fun c q => by rw [upd_ne (ne c _ q rfl)]; exact q) fun c xs q => by rw [upd_ne (ne c _ q rfl)]; exact q
/-! ### the dice: three whole numbers in a list, told by what holds of them; n: how often it was rolled, at most -/
structure DiceN (x y z : Int) (n : Nat) : Prop where
  x0 : 0 ≤ x
  y0 : 0 ≤ y
  y1 : y < 2 ^ 61
  z0 : 0 ≤ z
  z1 : z ≤ n
def DiceO (p : Addr) (n : Nat) : HO := .ext fun h => ∃ (x y z : Int) (its : List Value) (m : Nat), Vals [.int x, .int y, .int z] its ∧ h.get? p = some { cls := .type "list", data := .seq its.toArray m } ∧ DiceN x y z n
theorem three_line : 3 ≤ sizeLine := by decide
theorem two_line : 2 ≤ sizeLine := by decide
theorem one_line : 1 ≤ sizeLine := by decide
theorem zero_line : 0 ≤ sizeLine := by decide
section
variable {X : Cx} {pins : List (Addr × Obj)} {σ : L2.St} {H : Hp} {s : Shared} {p : Addr} {n : Nat} {x y z : Int}
theorem Inv.toDice (I : Inv X pins σ H s) (hp : H p = some (.lst [.int x, .int y, .int z])) (d : DiceN x y z n) : Inv X pins σ (upd H p (DiceO p n)) s := by
  refine Inv.view I hp rfl ?_
  obtain ⟨_, its, m, r, e⟩ := (show ObjOk X.prog X.w H s.heap p (.lst [.int x, .int y, .int z]) from I.hok p _ hp)
  exact ⟨⟨x, y, z, its, m, r, e, d⟩, ⟨_, e⟩, fun h1 h2 ⟨x, y, z, its, m, r, e, d⟩ k => ⟨x, y, z, its, m, r, k _ e, d⟩⟩
theorem Inv.ofDice (I : Inv X pins σ H s) (hp : H p = some (DiceO p n)) : ∃ x y z, DiceN x y z n ∧ Inv X pins σ (upd H p (.lst [.int x, .int y, .int z])) s := by
  obtain ⟨⟨x, y, z, its, m, r, e, d⟩, _⟩ := (show ObjOk X.prog X.w H s.heap p (DiceO p n) from I.hok p _ hp)
  exact ⟨x, y, z, d, Inv.view I hp rfl ⟨three_line, its, m, r, e⟩⟩
theorem wb_dice {b : List Stmt} {D : Ends} (hp : H p = some (DiceO p n)) (h : ∀ x y z, DiceN x y z n → WB X b D σ (upd H p (.lst [.int x, .int y, .int z]))) : WB X b D σ H := ⟨fun pins s I => by
  obtain ⟨x, y, z, d, J⟩ := Inv.ofDice I hp
  exact (h x y z d).run pins s J⟩
theorem w_dice {e : Expr} {Q : VK} (h : W X e σ H fun v H1 => ∃ p x y z n, H1 p = some (.lst [.int x, .int y, .int z]) ∧ DiceN x y z n ∧ Q v (upd H1 p (DiceO p n))) : W X e σ H Q := ⟨fun pins s I =>
  thn (h.run pins s I) fun u s1 ⟨v, H1, J, r, p, x, y, z, n, hp, d, q⟩ => ⟨v, _, Inv.toDice J hp d, r, q⟩⟩
end
/-- all but the dice at p stands -/
structure Sm (p : Addr) (H H' : Hp) : Prop where
  at0 : ∃ n, H p = some (DiceO p n)
  keep : ∀ a o, H a = some o → a ≠ p → H' a = some o
theorem Sm.refl {H : Hp} {p : Addr} {n : Nat} (h : H p = some (DiceO p n)) : Sm p H H := ⟨⟨n, h⟩, fun _ _ h _ => h⟩
theorem Sm.trans {p : Addr} {H H1 H2 : Hp} (a : Sm p H H1) (b : Sm p H1 H2) : Sm p H H2 := ⟨a.at0, fun c o h n => b.keep c o (a.keep c o h n) n⟩
theorem Sm.same {p : Addr} {H H1 H2 : Hp} (a : Sm p H H1) (b : Same H1 H2) : Sm p H H2 := ⟨a.at0, fun c o h n => b c o (a.keep c o h n)⟩
theorem Sm.of {H H' : Hp} {p : Addr} {n : Nat} (h : H p = some (DiceO p n)) (e : Same H H') : Sm p H H' := (Sm.refl h).same e
theorem Sm.sl {p : Addr} {H H' : Hp} (e : Sm p H H') : Sl H H' := fun b o h n => e.keep b o h (by
  rintro rfl
  obtain ⟨m, hm⟩ := e.at0
  rw [hm] at h
  cases h
  cases n)
theorem Sm.upd {p : Addr} {H H' : Hp} {o : HO} (e : Sm p H H') : Sm p H (upd H' p o) := ⟨e.at0, fun a u ha hn => by
  rw [upd_ne hn]
  exact e.keep a u ha hn⟩
theorem Sm.new {p q : Addr} {H H' : Hp} {o : HO} (e : Sm p H H') (n : H q = none) : Sm p H (L2.upd H' q o) := ⟨e.at0, fun a u ha hn => by
  rw [upd_ne (ne_of_none ha n)]
  exact e.keep a u ha hn⟩
/-- what is no dice is elsewhere -/
theorem Sm.lst {p a : Addr} {H H' : Hp} {xs : List V} (e : Sm p H H') (h : H a = some (.lst xs)) : H' a = some (.lst xs) := e.keep a _ h (by
  rintro rfl
  obtain ⟨m, hm⟩ := e.at0
  rw [hm] at h
  cases h)
theorem Sm.tupO {p a : Addr} {H H' : Hp} {xs : List V} (e : Sm p H H') (h : H a = some (.tup xs)) : H' a = some (.tup xs) := e.sl _ _ h rfl
theorem Sm.nul {p q : Addr} {n : Nat} {H H' : Hp} (e : Sm p H H') (hp : H' p = some (DiceO p n)) (h : H' q = none) : H q = none := by
  cases z : H q with
  | none => rfl
  | some o =>
    by_cases hq : q = p
    · rw [hq, hp] at h
      cases h
    · rw [e.keep q o z hq] at h
      cases h
theorem Sm.tup {p : Addr} {K : PySem.W.Frag} {H H' : Hp} {a : Addr} {xs : List V} (e : Sm p H H') (h : SqT K H a xs) : SqT K H' a xs := e.sl.tup h
theorem Sm.seq {p : Addr} {K : PySem.W.Frag} {H H' : Hp} {a : Addr} {xs : List V} (e : Sm p H H') (h : SqL K H a xs) : SqL K H' a xs := by
  rcases h with (h | ⟨o, h⟩) | h
  · exact .inl (.inl (e.lst h))
  · exact .inl (.inr ⟨o, e.sl _ _ h rfl⟩)
  · exact .inr h
mutual
theorem dp_sm {q : Addr} {K : PySem.W.Frag} {H H' : Hp} (s : Sm q H H') : ∀ {d : PyData} {v : V}, Dp K H v d → Dp K H' v d
  | .none, _, h => by cases h; exact .non
  | .bool _, _, h => by cases h; exact .bl _
  | .int _, _, h => by cases h; exact .int _
  | .str _, _, h => by cases h; exact .str _
  | .list ds, _, h => by
    cases h with
    | lst hs ha => exact .lst (s.seq hs) (dpa_sm s ha)
  | .tuple ds, _, h => by
    cases h with
    | tup hs ha => exact .tup (s.tup hs) (dpa_sm s ha)
  | .dict _, _, h => by cases h
theorem dpa_sm {q : Addr} {K : PySem.W.Frag} {H H' : Hp} (s : Sm q H H') : ∀ {ds : List PyData} {vs : List V}, DpAll K H vs ds → DpAll K H' vs ds
  | [], _, h => by cases h; exact .nil
  | d :: ds, _, h => by
    cases h with
    | cons h1 h2 => exact .cons (dp_sm s h1) (dpa_sm s h2)
end
/-! ### what the drawing defs promise; the list of the drawn ones is at most 2 ^ 60 long -/
def spDice (K : PySem.W.Frag) : Sp := fun vs H Q _ => ∃ (a : Addr) (ns : List Int) (j : Nat), vs = [.ref a, .int j] ∧ SqL K H a (ns.map V.int) ∧ ns.length ≤ 63 ∧ j ≤ 100 ∧ ∀ p H', Same H H' → H p = none → H' p = some (DiceO p 0) → Q (.ref p) H'
def spRoll : Sp := fun vs H Q _ => ∃ (p : Addr) (n : Nat) (k : Int), vs = [.ref p, .int k] ∧ H p = some (DiceO p n) ∧ n < 2 ^ 60 ∧ 0 < k ∧ k < 2 ^ 20 ∧ ∀ r H', Sm p H H' → H' p = some (DiceO p (n + 1)) → 0 ≤ r → r < k → Q (.int r) H'
def spPick (K : PySem.W.Frag) : Sp := fun vs H Q _ => ∃ (p l : Addr) (n : Nat) (xs : List V), vs = [.ref p, .ref l] ∧ H p = some (DiceO p n) ∧ n < 2 ^ 60 ∧ SqL K H l xs ∧ xs ≠ [] ∧ xs.length < 2 ^ 20 ∧ ∀ v ∈ xs, ∀ H', Sm p H H' → H' p = some (DiceO p (n + 1)) → Q v H'
end Ax
end
section
set_option maxHeartbeats 2000000
namespace Ax
open PySem PySem.Spec PyProof.Rows L2
section
variable {X : Cx} {e a b o : Expr} {es : List Expr} {st : Stmt} {bl rest : List Stmt} {σ : L2.St} {H : Hp} {Q : VK} {D : Ends} {pos apos : Pos}
/-! ### methods of built-in types, one argument -/
theorem w_bm1 {T id : String} {name : Str} (pa : PlainAttrs T) (slot : Slot T name id) (hty : typeOf (.builtin id) = pure (.type "method_descriptor")) (h : W X o σ H fun x H1 => tyV X.K T x H1 ∧ W X a σ H1 fun y H2 => MtV X id x [y] H2 Q)
    (hbase : attributeBase o name X.env (eval o X.env) = eval o X.env := by rfl)
    (hfew : methodCallForm ([a].length + ([] : List Keyword).length + if ([] : List Keyword).isEmpty = true then 0 else 1) (backTo pos (starEach [a] X.env)) (backToKw pos (keywordEach [] X.env)) = true := by rfl)
    (hline : (apos.endLine == pos.line) = true := by rfl) (hs : starEach [a] X.env = (false, eval a X.env) :: starEach [] X.env := by rfl) (hpl : (backTo pos (starEach [] X.env)).any (·.1) = false := by rfl) :
    W X (.Call (.Attribute o name apos) [a] [] pos) σ H Q := by
  refine W.of (pe_bm pa slot hty mtV_r W.pe WA.pa hbase hfew hline hs hpl) ?_
  show W X o σ H _
  exact W.mono h fun x H1 ⟨t, h2⟩ => ⟨t, wa_cons (W.mono h2 fun y H2 q => wa_nil q) hs⟩
theorem tyV_list {x : V} {K : PySem.W.Frag} (h : ∃ l xs, x = .ref l ∧ SqL K H l xs) : tyV K "list" x H := by
  obtain ⟨l, xs, rfl, hl⟩ := h
  exact .inl ⟨rfl, _, hl⟩
theorem mv_append {l : Addr} {xs : List V} {y : V} (hl : H l = some (.lst xs)) (hz : xs.length < sizeLine) (q : Q .non (upd H l (.lst (xs ++ [y])))) : MtV X "list.append" (.ref l) [y] H Q := ⟨_, mt_append, l, xs, y, rfl, rfl, hl, hz, q⟩
theorem mv_extend {l b : Addr} {xs zs : List V} (hl : H l = some (.lst xs)) (hb : H b = some (.lst zs)) (hz : xs.length + zs.length ≤ sizeLine) (q : Q .non (upd H l (.lst (xs ++ zs)))) : MtV X "list.extend" (.ref l) [.ref b] H Q := ⟨_, mt_extend, l, b, xs, zs, rfl, rfl, hl, hb, hz, q⟩
theorem mv_popAt {l : Addr} {xs : List V} {i : Int} {y : V} (hl : H l = some (.lst xs)) (h0 : 0 ≤ i) (h1 : i.toNat < xs.length) (h2 : i < 2 ^ 62) (hy : xs[i.toNat]? = some y) (q : Q y (upd H l (.lst (xs.eraseIdx i.toNat)))) : MtV X "list.pop" (.ref l) [.int i] H Q :=
  ⟨_, mt_popAt, l, xs, i, i.toNat, y, rfl, rfl, hl, by omega, by omega, seqIndex_of h0 (by omega), hy, q⟩
theorem w_pop0 (h : W X o σ H fun x H1 => ∃ l xs y, x = .ref l ∧ H1 l = some (.lst xs) ∧ xs[xs.length - 1]? = some y ∧ Q y (upd H1 l (.lst xs.dropLast)))
    (hbase : attributeBase o "pop" X.env (eval o X.env) = eval o X.env := by rfl) (hline : (apos.endLine == pos.line) = true := by rfl) : W X (.Call (.Attribute o "pop" apos) [] [] pos) σ H Q := by
  refine W.of (pe_bm0 PySem.F.plainAttrs_list PySem.F.slot_list_pop PySem.F.type_list_pop mt_pop W.pe hbase hline) ?_
  show W X o σ H _
  refine W.mono h fun x H1 ⟨l, xs, y, ex, hl, hy, q⟩ => ⟨?_, l, xs, y, ex, rfl, hl, hy, q⟩
  subst ex
  exact .inl ⟨rfl, _, SqL.of hl⟩
/-! ### statements -/
theorem ws_par (i j : Nat) {x y : Str} {px py pt : Pos} {kt k2 pt2} (h : WA X [a, b] σ H fun vs H1 => ∃ v w, vs = [v, w] ∧ D.nx ((σ.set i (some v)).set j (some w)) H1) (hi : X.N[i]? = some x) (hj : X.N[j]? = some y) (hN : X.N.Nodup) (hc : X.calm = true := by rfl) (hij : i ≠ j := by decide)
    (hx : X.env.scope.names.lookup x = some .local := by rfl) (hy : X.env.scope.names.lookup y = some .local := by rfl)
    (hw : swappedStores [.Tuple [.Name x px, .Name y py] kt pt] (.Tuple [a, b] k2 pt2) X.env = pure (some [x, y]) := by rfl)
    (hs : swapsWithSole [.Tuple [.Name x px, .Name y py] kt pt] (.Tuple [a, b] k2 pt2) pos.line X.env = pure false := by rfl) :
    WS X (.Assign [.Tuple [.Name x px, .Name y py] kt pt] (.Tuple [a, b] k2 pt2) pos) D σ H := WS.of (ps_par hc hN hi hj hij hx hy WA.pa hw hs) h
theorem ws_tup2 (i j : Nat) {x y : Str} {px py pt : Pos} {kt} (h : W X e σ H fun v H1 => ∃ a v1 v2, v = .ref a ∧ SqT X.K H1 a [v1, v2] ∧ D.nx ((σ.set i (some v1)).set j (some v2)) H1) (hi : X.N[i]? = some x) (hj : X.N[j]? = some y) (hN : X.N.Nodup) (hc : X.calm = true := by rfl)
    (hx : Loc X.env.scope x := by first | exact Or.inl rfl | exact Or.inr rfl) (hy : Loc X.env.scope y := by first | exact Or.inl rfl | exact Or.inr rfl)
    (hfx : X.fn x = true ∨ X.env.scope.names.lookup x = some .local := by first | exact Or.inl rfl | exact Or.inr rfl) (hfy : X.fn y = true ∨ X.env.scope.names.lookup y = some .local := by first | exact Or.inl rfl | exact Or.inr rfl)
    (hs : swapsWithSole [.Tuple [.Name x px, .Name y py] kt pt] e pos.line X.env = pure false := by rfl) (hw : swappedStores [.Tuple [.Name x px, .Name y py] kt pt] e X.env = pure none := by rfl)
    (h1 : (assignEach [.Tuple [.Name x px, .Name y py] kt pt] X.env).map (·.2) = [assign (.Tuple [.Name x px, .Name y py] kt pt) X.env] := by rfl)
    (h2 : (assignEach (Expr.Name x px :: [.Name y py]) X.env).map (·.2) = assign (.Name x px) X.env :: (assignEach [.Name y py] X.env).map (·.2) := by rfl)
    (h3 : (assignEach (Expr.Name y py :: []) X.env).map (·.2) = assign (.Name y py) X.env :: (assignEach [] X.env).map (·.2) := by rfl)
    (h4 : (assignEach [.Name x px, .Name y py] X.env).length = 2 := by rfl) (h5 : (assignEach [.Name x px, .Name y py] X.env).findIdx? (·.1) = none := by rfl) :
    WS X (.Assign [.Tuple [.Name x px, .Name y py] kt pt] e pos) D σ H := by
  refine WS.of (ps_asg W.pe (pg_tup (n := 2) hc (pgs_cons (pg_name hN hi hx hfx) (pgs_cons (pg_name hN hj hy hfy) pgs_nil h3) h2) h4 h5) hs hw h1) ?_
  show W X e σ H _
  refine W.mono h fun v H1 ⟨a, v1, v2, ev, ha, q⟩ => ⟨a, [v1, v2], ev, ha, rfl, v1, [v2], rfl, v2, [], rfl, rfl, q⟩
/-- while, by what holds ahead of each turn, with a number that falls -/
theorem ws_while {c : Expr} {body : List Stmt} (I : Nat → L2.St → Hp → Prop) (h0 : ∃ m, I m σ H)
    (hs : ∀ m σ H, I m σ H → WT X c σ H fun k H1 => if k = true then WB X body { D with nx := fun σ' H' => ∃ m', m' < m ∧ I m' σ' H', ct := fun σ' H' => ∃ m', m' < m ∧ I m' σ' H', bk := D.nx } σ H1 else D.nx σ H1)
    (hp : PassesOwn (model X.prog X.w) X.A X.env X.xe) : WS X (.While c body [] pos) D σ H := by
  refine WS.of (ps_while hp WT.pt WB.pss) ⟨I, h0, fun m σ H i => WT.mono (hs m σ H i) fun k H1 q => ?_⟩
  cases k with
  | true => exact ⟨_, fun σ' H' z => z, q⟩
  | false => exact q
/-- for over a walk of fixed items -/
theorem ws_for {iter : Expr} {body : List Stmt} {x : Str} {px : Pos} (i : Nat) (h : WI X (.Name x px) iter σ H fun J H1 => ∃ n G Y, Walk J n G Y ∧ ∃ I : Nat → L2.St → Hp → Prop, I 0 σ H1 ∧ (∀ i σ H, i ≤ n → I i σ H → G H) ∧
      (∀ j v σ H H', j < n → I j σ H → Y j H v H' → WB X body { D with nx := I (j + 1), ct := I (j + 1), bk := D.nx } (σ.set i (some v)) H') ∧ ∀ σ H, I n σ H → D.nx σ H)
    (hi : X.N[i]? = some x) (hN : X.N.Nodup) (hp : PassesOwn (model X.prog X.w) X.A X.env X.xe) (hc : X.calm = true := by rfl) (hx : Loc X.env.scope x := by first | exact Or.inl rfl | exact Or.inr rfl)
    (hf : X.fn x = true ∨ X.env.scope.names.lookup x = some .local := by first | exact Or.inl rfl | exact Or.inr rfl) (hs : ∀ x, foldedSetIterable iter X.env x = pure x := by intro _; rfl) : WS X (.For (.Name x px) iter body [] pos) D σ H := by
  refine WS.of (ps_for hp hc WI.pi (pg_name hN hi hx hf) WB.pss hs) ?_
  refine ⟨fun pins s I => thn (h.run pins s I) fun v s1 z => thn z fun it s2 q => ?_⟩
  obtain ⟨it', fp, tn, J, H1, e, I2, T, t0, f0, n, G, Y, wk, Iv, i0, hG, hst, hd⟩ := q
  exact ⟨it', fp, tn, J, H1, e, I2, T, t0, f0, for_it wk Iv i0 hG (fun j v σ H H' hj hI y => hst j v σ H H' hj hI y) hd⟩
/-! ### raise X('..'), X over ValueError without own __init__ -/
structure ErrC (K : PySem.W.Frag) (mg : Str → Option Value) (x : Str) (C : Addr) : Prop where
  g : mg x = some (.ref C)
  x : PySem.W.excIn K C He.veBase "ValueError.__new__" = true
  k : PySem.W.keepIn K (.ref C) = true
  b : PySem.W.subIn K (.ref C) (.type "BaseException") = some true
  t : PySem.W.typeIn K (.ref C) = some (.type "type")
theorem ws_raise {x m : Str} {C : Addr} {j : Nat} {p p2 cpos : Pos} {Wx : WX} (hC : ErrC X.K X.mg x C) (tk : Takes X Wx) (h : Wx (.ref C) none σ H) (hc : X.calm = true := by rfl) (hg : Gl X x := by rfl) (hdb : (x == ("__debug__" : Str)) = false := by decide) :
    WS X (.Raise (some (.Call (.Name x p) [.Constant (.str m) j p2] [] cpos)) none pos) D σ H :=
  WS.of (ps_raise hc tk (pmk_own PySem.F.excBase_ValueError hC.x hC.g hC.k (raises_own hC.b hC.t) hg hdb)) h
theorem errC_of {K : PySem.W.Frag} {h : Heap} {mg : Str → Option Value} {x : Str} (I : K.In h) (G : h.Ns mainGlobals mg) (c : (He.Fa.glo x).ok K = true) (c2 : (He.Fa.exc x).ok K = true) : ErrC K mg x (He.ga K x) := by
  obtain ⟨h1, h2, h3, h4⟩ := He.exc_ok c2
  exact ⟨He.glo_ok I G c, h1, h2, h3, h4⟩
/-! ### lists of things by a relation -/
inductive All2 {β α : Type} (R : β → α → Prop) : List β → List α → Prop
  | nil : All2 R [] []
  | cons {x a xs as} : R x a → All2 R xs as → All2 R (x :: xs) (a :: as)
theorem All2.imp {β α : Type} {R S : β → α → Prop} (k : ∀ x a, R x a → S x a) : ∀ {xs : List β} {as : List α}, All2 R xs as → All2 S xs as
  | _, _, .nil => .nil
  | _, _, .cons r t => .cons (k _ _ r) (All2.imp k t)
theorem All2.app {β α : Type} {R : β → α → Prop} : ∀ {xs ys : List β} {as bs : List α}, All2 R xs as → All2 R ys bs → All2 R (xs ++ ys) (as ++ bs)
  | _, _, _, _, .nil, h => h
  | _, _, _, _, .cons r t, h => .cons r (All2.app t h)
theorem All2.one {β α : Type} {R : β → α → Prop} {x : β} {a : α} (h : R x a) : All2 R [x] [a] := .cons h .nil
theorem All2.len {β α : Type} {R : β → α → Prop} : ∀ {xs : List β} {as : List α}, All2 R xs as → xs.length = as.length
  | _, _, .nil => rfl
  | _, _, .cons _ t => by simp [All2.len t]
theorem All2.last {β α : Type} {R : β → α → Prop} : ∀ {xs : List β} {as : List α}, All2 R xs as → xs ≠ [] → ∃ x a ys bs, xs = ys ++ [x] ∧ as = bs ++ [a] ∧ R x a ∧ All2 R ys bs
  | _, _, .nil, h => absurd rfl h
  | _, _, .cons (x := x) (a := a) r .nil, _ => ⟨x, a, [], [], rfl, rfl, r, .nil⟩
  | _, _, .cons (x := x) (a := a) r (.cons r' t), _ => by
    obtain ⟨y, b, ys, bs, e1, e2, r2, t2⟩ := All2.last (.cons r' t) (by simp)
    exact ⟨y, b, x :: ys, a :: bs, by rw [e1]; rfl, by rw [e2]; rfl, r2, .cons r t2⟩
/-! ### xs != [] -/
theorem cv_ne_nil {p q : Addr} {xs : List V} (hu : X.A.units < cLine) (hp : SqL X.K H p xs) (hq : SqL X.K H q []) (h : Q (.bl (!xs.isEmpty)) H) : CmpV X .NotEq (.ref p) (.ref q) H Q := by
  refine ⟨fun x y H Q => x = .ref p ∧ y = .ref q ∧ SqL X.K H p xs ∧ SqL X.K H q [] ∧ Q (.bl (!xs.isEmpty)) H, ?_, rfl, rfl, hp, hq, h⟩
  rintro pins s σ H x y v u Q I rx ry ⟨rfl, rfl, h1, h2, q⟩
  cases rx
  cases ry
  obtain ⟨its, r, pl, _⟩ := I.list h1
  obtain ⟨its2, r2, pl2, _⟩ := I.list h2
  cases r2
  have hl := r.length
  cases xs with
  | nil =>
    cases r
    exact SeqAt.RcNeAt.lists (e := fun _ => true) pl.isList pl2.isList rfl hu (fun j h1 _ => absurd h1 (by simp)) _ _ _ _ ⟨.bl _, H, I, rfl, q⟩
  | cons y ys =>
    cases r with
    | cons r1 rt => exact SeqAt.RcNeAt.lists_lengths pl.isList pl2.isList (by simp) hu _ _ _ _ ⟨.bl _, H, I, rfl, q⟩
end
end Ax
end
section
set_option maxHeartbeats 2000000
namespace Ax
open PySem PySem.Spec PyProof.Rows L2
section
variable {X : Cx} {iter elt kx vx tg : Expr} {ifs : List Expr} {σ : L2.St} {H : Hp} {Q : VK} {pos : Pos} {scope : Scope}
/-- all blocks of a comprehension -/
def Blk (X : Cx) (scope : Scope) (P : Cx → Prop) : Prop := ∀ (s : Shared) (H : Hp) (C : Addr) (cl : List (Str × Addr)) (fp : List Addr), P (X.blk s H scope (compEnvC scope cl C X.env) fp)
/-- items by their places, left out or making something -/
inductive RelI {β : Type} (N : Nat → Prop) (R : Nat → β → Prop) : Nat → List β → Prop
  | nil : RelI N R 0 []
  | drop {n ys} : N n → RelI N R n ys → RelI N R (n + 1) ys
  | keep {n y ys} : R n y → RelI N R n ys → RelI N R (n + 1) (ys ++ [y])
namespace RelI
variable {β : Type} {N : Nat → Prop} {R S : Nat → β → Prop}
theorem imp (k : ∀ x y, R x y → S x y) : ∀ {n : Nat} {ys : List β}, RelI N R n ys → RelI N S n ys
  | _, _, .nil => .nil
  | _, _, .drop n t => .drop n (imp k t)
  | _, _, .keep r t => .keep (k _ _ r) (imp k t)
theorem len : ∀ {n : Nat} {ys : List β}, RelI N R n ys → ys.length ≤ n
  | _, _, .nil => Nat.le_refl _
  | _, _, .drop _ t => Nat.le_succ_of_le (len t)
  | _, _, .keep _ t => by
    have := len t
    simp only [List.length_append, List.length_singleton]
    omega
/-- .. over data ds: those that f tells -/
theorem data {α γ : Type} {T : β → γ → Prop} {ds : List α} (f : α → Option γ) (hN : ∀ j d, ds[j]? = some d → N j → f d = none) (hR : ∀ j d y, ds[j]? = some d → R j y → ∃ e, f d = some e ∧ T y e) :
    ∀ {n : Nat} {ys : List β}, n ≤ ds.length → RelI N R n ys → ∃ es, (ds.take n).filterMap f = es ∧ All2 T ys es := by
  intro n ys hn h
  induction h with
  | nil => exact ⟨[], rfl, .nil⟩
  | @drop n ys h _ ih =>
    obtain ⟨es, e, q⟩ := ih (by omega)
    have hd : ds[n]? = some ds[n] := List.getElem?_eq_getElem (by omega)
    refine ⟨es, ?_, q⟩
    rw [List.take_add_one, hd, List.filterMap_append, e]
    simp [hN n _ hd h]
  | @keep n y ys h _ ih =>
    obtain ⟨es, e, q⟩ := ih (by omega)
    have hd : ds[n]? = some ds[n] := List.getElem?_eq_getElem (by omega)
    obtain ⟨e1, h1, h2⟩ := hR n _ y hd h
    refine ⟨es ++ [e1], ?_, ?_⟩
    · rw [List.take_add_one, hd, List.filterMap_append, e]
      simp [h1]
    · exact q.app (.one h2)
end RelI
/-- a list comprehension with any target and tests: N tells who is left out, R what becomes of whom -/
abbrev LcG (X : Cx) (tg iter elt : Expr) (scope : Scope) (own : List (Str × Nat)) (g : TG) (tt : TT) (σ : L2.St) (H : Hp) (Q : VK) : Prop := WI X tg iter σ H fun J H1 => ∃ xs, SeqIt J H1 xs ∧ xs.length < sizeLine ∧ ∃ (N : Nat → Prop) (R : Nat → V → Hp → Prop), (∀ x y Ha Hb, R x y Ha → Sl Ha Hb → R x y Hb) ∧
      (∀ j v, xs[j]? = some v → ∀ H2, Same H1 H2 → ∀ (Kf : Hp → Prop) (Kt : VK), (N j → ∀ H3, Same H2 H3 → Kf H3) → (∀ y H3, Same H2 H3 → R j y H3 → Kt y H3) →
        g v (wipe σ (own.map (·.2))) H2 fun σ2 H3 => wipe σ2 (own.map (·.2)) = wipe σ (own.map (·.2)) ∧ tt σ2 H3 fun b H4 => if b = true then (Blk X scope fun Y => W Y elt σ2 H4 Kt) else Kf H4) ∧
      ∀ q ys H2, Same H1 H2 → H1 q = none → H2 q = some (.lst ys) → RelI N (fun x y => R x y H2) xs.length ys → Q (.ref q) H2
theorem lcG_t {own : List (Str × Nat)} {g : TG} {tt : TT} (h : LcG X tg iter elt scope own g tt σ H Q) : tLc (WI X tg iter) g tt (fun σ2 H2 K => Blk X scope fun Y => W Y elt σ2 H2 K) (own.map (·.2)) σ H Q := by
  refine ⟨fun pins s I => thn (h.run pins s I) fun v s1 z => thn z fun it s2 q => ?_⟩
  obtain ⟨it', fp, tn, J, H1, e, I2, T, t0, f0, xs, ⟨G, wk, g0, gs⟩, hlen, N, R, hst, hel, hend⟩ := q
  refine ⟨it', fp, tn, J, H1, e, I2, T, t0, f0, fun Dd nD => ?_⟩
  refine lc_it (H1 := H1) (D := Dd) (g := g) (tt := tt) (te := fun σ2 H2 K => Blk X scope fun Y => W Y elt σ2 H2 K) (vs := own.map (·.2)) (σ := σ) (Qd := fun H2 => Q (.ref Dd) H2) wk
    (fun j H2 => ∃ ys, Same H1 H2 ∧ H2 Dd = some (.lst ys) ∧ RelI N (fun x y => R x y H2) j ys) ⟨[], same_new nD, upd_same, .nil⟩ (fun j H2 _ ⟨ys, sm, hD, _⟩ => gs _ sm) ?_ ?_
  · rintro j v H2 H2' hj ⟨ys, s12, hD, rel⟩ ⟨eH, hv⟩
    subst eH
    refine hel j v hv _ s12 _ _ (fun c H3 s23 => ?_) (fun y H3 s23 r => ?_)
    · refine ⟨ys, s12.trans s23, s23 _ _ hD, ?_⟩
      exact .drop c (rel.imp fun a b q => hst _ _ _ _ q (Sl.of s23))
    · have hD3 := s23 _ _ hD
      have hl : ys.length < sizeLine := by
        have e1 := rel.len
        omega
      refine ⟨ys, hD3, hl, ys ++ [y], same_upd (s12.trans s23) nD, upd_same, ?_⟩
      have sl : Sl H3 (upd H3 Dd (.lst (ys ++ [y]))) := (Sl.refl H3).lst hD3
      exact .keep (R := fun x y => R x y _) (hst _ _ _ _ r sl) (rel.imp fun a b q => hst _ _ _ _ q ((Sl.of s23).trans sl))
  · rintro H2 ⟨ys, s12, hD, rel⟩
    exact hend Dd ys H2 s12 nD hD rel
theorem w_lcG (own : List (Str × Nat)) (g : TG) (tt : TT) (hg : Blk X scope fun Y => PG Y tg g) (ht : Blk X scope fun Y => PTs Y ifs tt) (hc : X.calm = true) (hN : X.N.Nodup) (ok : BlkOk X.N X.env.scope scope own)
    (h : LcG X tg iter elt scope own g tt σ H Q)
    (hs : ∀ x, foldedSetIterable iter X.env x = pure x := by intro _; rfl) : W X (.ListComp elt [⟨tg, iter, ifs, 0⟩] scope pos) σ H Q := by
  exact W.of (pe_lc (own := own) (g := g) (tt := tt) (te := fun σ2 H2 K => Blk X scope fun Y => W Y elt σ2 H2 K) hc hN WI.pi ok hg ht
    (fun s H C cl fp => ⟨fun pins s' σ' H' Q' I' h' => (h' s H C cl fp).run pins s' I'⟩) hs) (lcG_t h)
theorem ws_setLcG {D : Ends} {y : Str} {py spos : Pos} (i : Nat) (own : List (Str × Nat)) (g : TG) (tt : TT) (hg : Blk X scope fun Y => PG Y tg g) (ht : Blk X scope fun Y => PTs Y ifs tt) (hc : X.calm = true) (hN : X.N.Nodup) (ok : BlkOk X.N X.env.scope scope own) (hy : X.N[i]? = some y)
    (h : LcG X tg iter elt scope own g tt σ H fun v H1 => D.nx (σ.set i (some v)) H1) (hyl : X.env.scope.names.lookup y = some .local := by rfl) (hsw : swapsWith (.ListComp elt [⟨tg, iter, ifs, 0⟩] scope pos) (some (.Name y py)) spos.line X.env = pure true := by exact sw_true rfl rfl rfl rfl)
    (hs : ∀ x, foldedSetIterable iter X.env x = pure x := by intro _; rfl) : WS X (.Assign [.Name y py] (.ListComp elt [⟨tg, iter, ifs, 0⟩] scope pos) spos) D σ H :=
  WS.of (ps_setLc (own := own) (g := g) (tt := tt) (te := fun σ2 H2 K => Blk X scope fun Y => W Y elt σ2 H2 K) hc hN hy hyl hsw WI.pi ok hg ht
    (fun s H C cl fp => ⟨fun pins s' σ' H' Q' I' h' => (h' s H C cl fp).run pins s' I'⟩) hs) (lcG_t h)
/-- places of two lists -/
theorem All2.at {β α : Type} {R : β → α → Prop} {xs : List β} {as : List α} (h : All2 R xs as) : ∀ {j : Nat} {x : β}, xs[j]? = some x → ∃ a, as[j]? = some a ∧ R x a := by
  induction h with
  | nil => intro j x e; simp at e
  | cons r _ ih =>
    intro j x e
    cases j with
    | zero =>
      simp at e
      subst e
      exact ⟨_, rfl, r⟩
    | succ j => exact ih (by simpa using e)
theorem All2.atR {β α : Type} {R : β → α → Prop} {xs : List β} {as : List α} (h : All2 R xs as) : ∀ {j : Nat} {a : α}, as[j]? = some a → ∃ x, xs[j]? = some x ∧ R x a := by
  induction h with
  | nil => intro j x e; simp at e
  | cons r _ ih =>
    intro j x e
    cases j with
    | zero =>
      simp at e
      subst e
      exact ⟨_, rfl, r⟩
    | succ j => exact ih (by simpa using e)
theorem All2.mapL {β γ : Type} {f : γ → β} {xs : List β} {cs : List γ} (h : All2 (fun x c => x = f c) xs cs) : xs = cs.map f := by
  induction h with
  | nil => rfl
  | cons e _ ih => rw [e, ih]; rfl
/-- the keys that were put in -/
theorem putK_keys {d : List (Key × V)} {k : Key} {v : V} : (k ∈ d.map (·.1) ∧ (putK d k v).map (·.1) = d.map (·.1)) ∨ (k ∉ d.map (·.1) ∧ (putK d k v).map (·.1) = d.map (·.1) ++ [k]) := by
  unfold putK
  cases e : d.any fun kv => decide (kv.1 = k) with
  | true =>
    left
    obtain ⟨kv, h1, h2⟩ := List.any_eq_true.mp e
    refine ⟨List.mem_map.mpr ⟨kv, h1, of_decide_eq_true h2⟩, ?_⟩
    rw [if_pos rfl, List.map_map]
    refine List.map_congr_left fun kv _ => ?_
    show (if kv.1 = k then (kv.1, v) else kv).1 = kv.1
    split <;> rfl
  | false =>
    right
    refine ⟨fun h => ?_, ?_⟩
    · obtain ⟨kv, h1, h2⟩ := List.mem_map.mp h
      have h3 := List.any_eq_false.mp e kv h1
      exact h3 (decide_eq_true h2)
    · rw [if_neg Bool.false_ne_true]
      simp
/-- the dict of pairs put in one behind another -/
def putAll (ys : List (Key × V)) : List (Key × V) := ys.foldl (fun d kv => putK d kv.1 kv.2) []
theorem putAll_snoc {ys : List (Key × V)} {k : Key} {v : V} : putAll (ys ++ [(k, v)]) = putK (putAll ys) k v := by
  unfold putAll
  rw [List.foldl_append]
  rfl
theorem putAll_mem (ys : List (Key × V)) : ((putAll ys).map (·.1)).Nodup ∧ ∀ k, k ∈ (putAll ys).map (·.1) ↔ k ∈ ys.map (·.1) := by
  have h : ∀ (zs d : List (Key × V)), (d.map (·.1)).Nodup → ((zs.foldl (fun d kv => putK d kv.1 kv.2) d).map (·.1)).Nodup ∧ ∀ k, k ∈ (zs.foldl (fun d kv => putK d kv.1 kv.2) d).map (·.1) ↔ k ∈ d.map (·.1) ∨ k ∈ zs.map (·.1) := by
    intro zs
    induction zs with
    | nil => intro d n; exact ⟨n, fun k => by simp⟩
    | cons z zs ih =>
      intro d n
      have e := putK_keys (d := d) (k := z.1) (v := z.2)
      have n2 : ((putK d z.1 z.2).map (·.1)).Nodup := by
        rcases e with ⟨_, e⟩ | ⟨c, e⟩
        · rw [e]; exact n
        · rw [e, List.nodup_append]
          refine ⟨n, by simp, fun a ha b hb => ?_⟩
          rw [List.mem_singleton.mp hb]
          rintro rfl
          exact c ha
      obtain ⟨h1, h2⟩ := ih (putK d z.1 z.2) n2
      refine ⟨h1, fun k => ?_⟩
      rw [List.foldl_cons, h2 k, List.map_cons, List.mem_cons]
      rcases e with ⟨c, e⟩ | ⟨c, e⟩
      · rw [e]
        constructor
        · rintro (h | h)
          · exact .inl h
          · exact .inr (.inr h)
        · rintro (h | h | h)
          · exact .inl h
          · rw [h]; exact .inl c
          · exact .inr h
      · rw [e, List.mem_append, List.mem_singleton, or_assoc]
  obtain ⟨h1, h2⟩ := h ys [] (by simp)
  exact ⟨h1, fun k => (h2 k).trans (by simp)⟩
theorem nodup_len {α : Type} [DecidableEq α] : ∀ {xs L : List α}, xs.Nodup → (∀ z ∈ xs, z ∈ L) → xs.length ≤ L.length
  | [], _, _, _ => Nat.zero_le _
  | x :: xs, L, n, h => by
    have n := List.nodup_cons.mp n
    have h1 := nodup_len (xs := xs) (L := L.erase x) n.2 fun z hz => (List.mem_erase_of_ne (by rintro rfl; exact n.1 hz)).mpr (h z (List.mem_cons_of_mem _ hz))
    have h2 := List.length_erase_of_mem (h x List.mem_cons_self)
    have h3 : 0 < L.length := List.length_pos_of_mem (h x List.mem_cons_self)
    simp only [List.length_cons]
    omega
theorem putAll_len : ∀ ys : List (Key × V), (putAll ys).length ≤ ys.length := by
  intro ys
  have h : ∀ (zs d : List (Key × V)), (zs.foldl (fun d kv => putK d kv.1 kv.2) d).length ≤ d.length + zs.length := by
    intro zs
    induction zs with
    | nil => intro d; exact Nat.le_refl _
    | cons z zs ih =>
      intro d
      have h1 := ih (putK d z.1 z.2)
      have h2 := length_putK d z.1 z.2
      show (zs.foldl _ (putK d z.1 z.2)).length ≤ _
      simp only [List.length_cons]
      omega
  have e := h ys []
  rw [List.length_nil, Nat.zero_add] at e
  exact e
/-- a dict comprehension, keys ints or texts -/
theorem w_dcG (own : List (Str × Nat)) (g : TG) (tt : TT) (hg : Blk X scope fun Y => PG Y tg g) (ht : Blk X scope fun Y => PTs Y ifs tt) (hc : X.calm = true) (hN : X.N.Nodup) (ok : BlkOk X.N X.env.scope scope own)
    (h : WI X tg iter σ H fun J H1 => ∃ xs, SeqIt J H1 xs ∧ xs.length < sizeLine ∧ ∃ (N : Nat → Prop) (R : Nat → Key → V → Hp → Prop), (∀ x k y Ha Hb, R x k y Ha → Sl Ha Hb → R x k y Hb) ∧
      (∀ j v, xs[j]? = some v → ∀ H2, Same H1 H2 → ∀ (Kf : Hp → Prop) (Kt : V → V → Hp → Prop), (N j → ∀ H3, Same H2 H3 → Kf H3) → (∀ k y H3, Same H2 H3 → R j k y H3 → Kt (kV k) y H3) →
        g v (wipe σ (own.map (·.2))) H2 fun σ2 H3 => wipe σ2 (own.map (·.2)) = wipe σ (own.map (·.2)) ∧ tt σ2 H3 fun b H4 => if b = true then (Blk X scope fun Y => W Y kx σ2 H4 fun y H5 => Blk X scope fun Y => W Y vx σ2 H5 fun z H6 => Kt y z H6) else Kf H4) ∧
      ∀ q ys H2, H1 q = none → H2 q = some (.dK (putAll ys)) → Same H1 H2 → RelI N (fun x (ky : Key × V) => R x ky.1 ky.2 H2) xs.length ys → Q (.ref q) H2)
    (hs : ∀ x, foldedSetIterable iter X.env x = pure x := by intro _; rfl) : W X (.DictComp kx vx [⟨tg, iter, ifs, 0⟩] scope pos) σ H Q := by
  refine W.of (pe_dc (own := own) (g := g) (tt := tt) (tk := fun σ2 H2 K => Blk X scope fun Y => W Y kx σ2 H2 K) (tv := fun σ2 H2 K => Blk X scope fun Y => W Y vx σ2 H2 K) hc hN WI.pi ok hg ht
    (fun s H C cl fp => ⟨fun pins s' σ' H' Q' I' h' => (h' s H C cl fp).run pins s' I'⟩) (fun s H C cl fp => ⟨fun pins s' σ' H' Q' I' h' => (h' s H C cl fp).run pins s' I'⟩) hs) ?_
  refine ⟨fun pins s I => thn (h.run pins s I) fun v s1 z => thn z fun it s2 q => ?_⟩
  obtain ⟨it', fp, tn, J, H1, e, I2, T, t0, f0, xs, ⟨G, wk, g0, gs⟩, hlen, N, R, hst, hel, hend⟩ := q
  refine ⟨it', fp, tn, J, H1, e, I2, T, t0, f0, fun D nD => ?_⟩
  let Pv : Nat → Hp → Prop := fun j H2 => ∃ ys, Same H1 H2 ∧ H2 D = some (.dK (putAll ys)) ∧ RelI N (fun x (ky : Key × V) => R x ky.1 ky.2 H2) j ys
  refine ⟨fun i m H => m = xs.length - i ∧ i ≤ xs.length ∧ Pv i H, ⟨xs.length, by simp, Nat.zero_le _, [], same_new nD, upd_same, .nil⟩, ?_⟩
  rintro j m H2 ⟨rfl, hi, ys, s12, hD, rel⟩
  have gq := gs _ s12
  by_cases hlt : j < xs.length
  · refine .inr ⟨wk.goes j H2 hlt gq, Pv (j + 1), fun H' p' => ⟨xs.length - (j + 1), by omega, rfl, hlt, p'⟩, fun v H2' y => ?_⟩
    obtain ⟨eH, hv⟩ := wk.yields j H2 v H2' hlt gq y
    subst eH
    refine hel j v hv _ s12 _ (fun y z H4 => ∃ kvs k, y = kV k ∧ H4 D = some (.dK kvs) ∧ kvs.length < sizeLine ∧ Pv (j + 1) (upd H4 D (.dK (putK kvs k z)))) (fun c H3 s23 => ?_) (fun k y H3 s23 r => ?_)
    · refine ⟨ys, s12.trans s23, s23 _ _ hD, ?_⟩
      exact .drop c (rel.imp fun a b q => hst _ _ _ _ _ q (Sl.of s23))
    · have hD3 := s23 _ _ hD
      have hl : (putAll ys).length < sizeLine := by
        have e0 := putAll_len ys
        have e1 := rel.len
        omega
      refine ⟨_, k, rfl, hD3, hl, ys ++ [(k, y)], same_upd (s12.trans s23) nD, ?_, ?_⟩
      · rw [putAll_snoc]
        exact upd_same
      · have sl : Sl H3 (upd H3 D (.dK (putK (putAll ys) k y))) := (Sl.refl H3).upd hD3 rfl
        exact .keep (R := fun x (ky : Key × V) => R x ky.1 ky.2 _) (hst _ _ _ _ _ r sl) (rel.imp fun a b q => hst _ _ _ _ _ q ((Sl.of s23).trans sl))
  · have e : j = xs.length := by omega
    subst e
    exact .inl ⟨wk.stops _ gq, hend D ys H2 nD hD s12 rel⟩
/-! ### calls by values -/
theorem kv_maxL {p : Addr} {ns : List Int} (hc : X.calm = true) (hp : SqL X.K H p (ns.map V.int)) (hn : 0 < ns.length) (h : ∀ m, m ∈ ns → (∀ y, y ∈ ns → y ≤ m) → Q (.int m) H) : CallV X (.builtin "max") [.ref p] H Q := ⟨_, cr_max hc, p, ns, rfl, hp, hn, h⟩
theorem kv_minL {p : Addr} {ns : List Int} (hc : X.calm = true) (hp : SqL X.K H p (ns.map V.int)) (hn : 0 < ns.length) (h : ∀ m, m ∈ ns → (∀ y, y ∈ ns → m ≤ y) → Q (.int m) H) : CallV X (.builtin "min") [.ref p] H Q := ⟨_, cr_min hc, p, ns, rfl, hp, hn, h⟩
theorem kv_sumL {p : Addr} {ns : List Int} (hc : X.calm = true) (hp : SqL X.K H p (ns.map V.int)) (h : Q (.int ns.sum) H) : CallV X (.builtin "sum") [.ref p] H Q := ⟨_, cr_sum hc, p, ns, rfl, hp, h⟩
theorem kv_sortedS {p : Addr} {xs : List Str} (hp : SqL X.K H p (xs.map V.str)) (hn : xs.length < 64) (h : ∀ ys q H2, ys.Perm xs → sortedS ys = true → Same H H2 → H q = none → H2 q = some (.lst (ys.map V.str)) → Q (.ref q) H2) : CallV X (.builtin "sorted") [.ref p] H Q :=
  ⟨_, cr_sortedS, p, xs, rfl, hp, hn, fun ys q h1 h2 h3 => h ys q _ h1 h2 (same_new h3) h3 upd_same⟩
theorem kv_sortedD {p : Addr} {kvs : List (Key × V)} {ks : List Str} (hc : X.calm = true) (hp : H p = some (.dK kvs)) (hk : kvs.map (·.1) = ks.map Sum.inr) (hn : ks.length < 64) (h : ∀ ys q H2, ys.Perm ks → sortedS ys = true → Same H H2 → H q = none → H2 q = some (.lst (ys.map V.str)) → Q (.ref q) H2) : CallV X (.builtin "sorted") [.ref p] H Q :=
  ⟨_, call_sortedD hc, p, kvs, ks, rfl, Rd.of hp, hk, hn, fun ys q h1 h2 h3 => h ys q _ h1 h2 (same_new h3) h3 upd_same⟩
theorem kv_tupleL {p : Addr} {xs : List V} (hp : SqL X.K H p xs) (h : ∀ q H2, Same H H2 → H q = none → H2 q = some (.tup xs) → Q (.ref q) H2) : CallV X (.type "tuple") [.ref p] H Q :=
  ⟨_, call_tuple_of, p, xs, rfl, .inl ⟨hp, fun q h3 => h q _ (same_new h3) h3 upd_same⟩⟩
theorem kv_listS {p : Addr} {xs : List V} (hp : SqL X.K H p xs ∨ SqT X.K H p xs) (h : ∀ q H2, Same H H2 → H q = none → H2 q = some (.lst xs) → Q (.ref q) H2) : CallV X (.type "list") [.ref p] H Q :=
  ⟨_, call_list_of, p, xs, rfl, hp, fun q h3 => h q _ (same_new h3) h3 upd_same⟩
end
end Ax
end
section
set_option maxHeartbeats 2000000
namespace Ax
open PySem PySem.Spec PyProof.Rows L2
/-! ### all but soft things stands -/
def wispO : HO → Bool
  | .ext _ => true
  | .tbl _ => true
  | _ => false
def Sx (H H' : Hp) : Prop := ∀ a o, H a = some o → wispO o = false → H' a = some o
theorem Sx.refl (H : Hp) : Sx H H := fun _ _ h _ => h
theorem Sx.trans {H H1 H2 : Hp} (a : Sx H H1) (b : Sx H1 H2) : Sx H H2 := fun c o h n => b c o (a c o h n) n
theorem Sx.of {H H' : Hp} (e : Same H H') : Sx H H' := fun b o h _ => e b o h
theorem Sm.sx {p : Addr} {H H' : Hp} (e : Sm p H H') : Sx H H' := fun b o h n => e.keep b o h (by
  rintro rfl
  obtain ⟨m, hm⟩ := e.at0
  rw [hm] at h
  cases h
  cases n)
theorem Sx.ofN {H H' : Hp} (e : LamX.ExtN H H') : Sx H H' := fun b o h n => e b o h fun ps z => by
  rw [z] at n
  cases n
theorem Sx.sl {H H' : Hp} (e : Sx H H') : Sl H H' := fun b o h n => e b o h (by cases o <;> first | rfl | cases n)
theorem Sx.tup {K : PySem.W.Frag} {H H' : Hp} {a : Addr} {xs : List V} (e : Sx H H') (h : SqT K H a xs) : SqT K H' a xs := e.sl.tup h
theorem Sx.seq {K : PySem.W.Frag} {H H' : Hp} {a : Addr} {xs : List V} (e : Sx H H') (h : SqL K H a xs) : SqL K H' a xs := by
  rcases h with (h | ⟨o, h⟩) | h
  · exact .inl (.inl (e _ _ h rfl))
  · exact .inl (.inr ⟨o, e _ _ h rfl⟩)
  · exact .inr h
mutual
theorem dp_sx {K : PySem.W.Frag} {H H' : Hp} (s : Sx H H') : ∀ {d : PyData} {v : V}, Dp K H v d → Dp K H' v d
  | .none, _, h => by cases h; exact .non
  | .bool _, _, h => by cases h; exact .bl _
  | .int _, _, h => by cases h; exact .int _
  | .str _, _, h => by cases h; exact .str _
  | .list ds, _, h => by
    cases h with
    | lst hs ha => exact .lst (s.seq hs) (dpa_sx s ha)
  | .tuple ds, _, h => by
    cases h with
    | tup hs ha => exact .tup (s.tup hs) (dpa_sx s ha)
  | .dict _, _, h => by cases h
theorem dpa_sx {K : PySem.W.Frag} {H H' : Hp} (s : Sx H H') : ∀ {ds : List PyData} {vs : List V}, DpAll K H vs ds → DpAll K H' vs ds
  | [], _, h => by cases h; exact .nil
  | d :: ds, _, h => by
    cases h with
    | cons h1 h2 => exact .cons (dp_sx s h1) (dpa_sx s h2)
end
/-- data, or an empty dict -/
inductive AnyX (K : PySem.W.Frag) (H : Hp) : V → Option PyData → Prop
  | dat {v : V} {d : PyData} (h : Dp K H v d) (ok : okD d = true) : AnyX K H v (some d)
  | dct {a : Addr} {kvs : List (Key × V)} (h : H a = some (.dK kvs)) : AnyX K H (.ref a) none
theorem AnyX.sx {K : PySem.W.Frag} {H H' : Hp} {v : V} {o : Option PyData} (s : Sx H H') (a : AnyX K H v o) : AnyX K H' v o := by
  cases a with
  | dat h ok => exact .dat (dp_sx s h) ok
  | dct h => exact .dct (s _ _ h rfl)
theorem AnyX.any {K : PySem.W.Frag} {H : Hp} {v : V} {o : Option PyData} (a : AnyX K H v o) : AnyV K H v o := by
  cases a with
  | dat h ok => exact .dat h ok
  | dct h =>
    refine .oth (.base (.dK h)) fun T hT => kit_ty ?_
    have q : ∀ T ∈ ["str", "int", "bool", "tuple", "list"], kitB "dict" T = some false := by decide +kernel
    exact q T hT
section
variable {X : Cx} {e a b o elt iter tg : Expr} {es : List Expr} {scope : Scope} {σ : L2.St} {H : Hp} {Q : VK} {pos p2 : Pos}
/-! ### least and greatest of texts -/
theorem ltS (a b : Str) : (PySem.W.DatumOrd.lt a b = true) ↔ a.cps.toList < b.cps.toList := decide_eq_true_iff
theorem lt_ofle {a b c : List Nat} (h : a < b) (k : ¬ c < b) : a < c := by
  rcases Classical.em (a < c) with q | q
  · exact q
  · exact absurd h (List.le_trans (show b ≤ c from k) (show c ≤ a from q))
theorem least_str : ∀ (xs : List Str) (x : Str), PySem.W.minOf x xs ∈ x :: xs ∧ ∀ y ∈ x :: xs, ¬ y.cps.toList < (PySem.W.minOf x xs).cps.toList
  | [], x => ⟨List.mem_cons_self, fun y hy => by
    rw [List.mem_singleton.mp hy]
    exact List.lt_irrefl _⟩
  | z :: xs, x => by
    have e : PySem.W.minOf x (z :: xs) = PySem.W.minOf (if PySem.W.DatumOrd.lt z x = true then z else x) xs := rfl
    obtain ⟨h1, h2⟩ := least_str xs (if PySem.W.DatumOrd.lt z x = true then z else x)
    rw [e]
    have hm := h2 _ List.mem_cons_self
    by_cases c : PySem.W.DatumOrd.lt z x = true
    · rw [if_pos c] at h1 h2 hm ⊢
      have c := (ltS z x).mp c
      refine ⟨List.mem_cons_of_mem _ h1, fun y hy => ?_⟩
      rcases List.mem_cons.mp hy with q | q
      · rw [q]
        exact fun hx => hm (List.lt_trans c hx)
      · exact h2 y q
    · rw [if_neg c] at h1 h2 hm ⊢
      have c : ¬ z.cps.toList < x.cps.toList := fun q => c ((ltS z x).mpr q)
      refine ⟨?_, fun y hy => ?_⟩
      · rcases List.mem_cons.mp h1 with q | q
        · rw [q]; exact List.mem_cons_self
        · exact List.mem_cons_of_mem _ (List.mem_cons_of_mem _ q)
      · rcases List.mem_cons.mp hy with q | q
        · rw [q]; exact hm
        · rcases List.mem_cons.mp q with q | q
          · rw [q]
            exact fun hx => c (lt_ofle hx hm)
          · exact h2 y (List.mem_cons_of_mem _ q)
theorem most_str : ∀ (xs : List Str) (x : Str), PySem.W.maxOf x xs ∈ x :: xs ∧ ∀ y ∈ x :: xs, ¬ (PySem.W.maxOf x xs).cps.toList < y.cps.toList
  | [], x => ⟨List.mem_cons_self, fun y hy => by
    rw [List.mem_singleton.mp hy]
    exact List.lt_irrefl _⟩
  | z :: xs, x => by
    have e : PySem.W.maxOf x (z :: xs) = PySem.W.maxOf (if PySem.W.DatumOrd.lt x z = true then z else x) xs := rfl
    obtain ⟨h1, h2⟩ := most_str xs (if PySem.W.DatumOrd.lt x z = true then z else x)
    rw [e]
    have hm := h2 _ List.mem_cons_self
    by_cases c : PySem.W.DatumOrd.lt x z = true
    · rw [if_pos c] at h1 h2 hm ⊢
      have c := (ltS x z).mp c
      refine ⟨List.mem_cons_of_mem _ h1, fun y hy => ?_⟩
      rcases List.mem_cons.mp hy with q | q
      · rw [q]
        exact fun hx => hm (List.lt_trans hx c)
      · exact h2 y q
    · rw [if_neg c] at h1 h2 hm ⊢
      have c : ¬ x.cps.toList < z.cps.toList := fun q => c ((ltS x z).mpr q)
      refine ⟨?_, fun y hy => ?_⟩
      · rcases List.mem_cons.mp h1 with q | q
        · rw [q]; exact List.mem_cons_self
        · exact List.mem_cons_of_mem _ (List.mem_cons_of_mem _ q)
      · rcases List.mem_cons.mp hy with q | q
        · rw [q]; exact hm
        · rcases List.mem_cons.mp q with q | q
          · rw [q]
            exact fun hx => hm (lt_ofle hx c)
          · exact h2 y (List.mem_cons_of_mem _ q)
theorem dps {K : PySem.W.Frag} : ∀ (zs : List Str), DpAll K H (zs.map V.str) (zs.map PyData.str)
  | [] => .nil
  | z :: zs => .cons (.str z) (dps zs)
theorem vals_str {zs : List Str} {us : List Value} {i : Nat} {v : Value} (r : Vals (zs.map V.str) us) (h : us[i]? = some v) : ∃ z, z ∈ zs ∧ RelV (.str z) v := by
  induction zs generalizing us i with
  | nil => cases r; simp at h
  | cons z zs ih =>
    cases r with
    | cons r1 r2 =>
      cases i with
      | zero =>
        simp at h
        subst h
        exact ⟨z, List.mem_cons_self, r1⟩
      | succ i =>
        obtain ⟨z', h1, h2⟩ := ih r2 (by simpa using h)
        exact ⟨z', List.mem_cons_of_mem _ h1, h2⟩
theorem Vals.refl1 {p : Addr} {us : List Value} (r : Vals [.ref p] us) : us = [.ref p] := L2.Vals.ref1 r
theorem kv_minS {p : Addr} {zs : List Str} (hc : X.calm = true) (hu : X.A.units + 64 < cLine) (hp : SqL X.K H p (zs.map V.str)) (hn : zs ≠ []) (h : ∀ m, m ∈ zs → (∀ y ∈ zs, ¬ y.cps.toList < m.cps.toList) → Q (.str m) H) : CallV X (.builtin "min") [.ref p] H Q := by
  refine ⟨fun vs H' Q' => vs = [.ref p] ∧ H' = H ∧ Q' = Q, ?_, rfl, rfl, rfl⟩
  rintro pins s σ H0 vs us Q0 I r ⟨rfl, rfl, rfl⟩
  rw [L2.Vals.ref1 r]
  obtain ⟨its, rv, pl, _⟩ := I.list hp
  cases zs with
  | nil => exact absurd rfl hn
  | cons x xs =>
    refine PySem.W.min_list_datum (x := x) (xs := xs) (I.ok.hd hc) pl.isList ?_ ?_ fun i v h' tk hv hz hk => ?_
    · obtain ⟨as, q⟩ := Dp.readsAll I _ _ _ (dps (K := X.K) (H := H0) (x :: xs)) rv
      rw [List.toList_toArray]
      exact ⟨as, q⟩
    · show X.A.units + 1 + _ < cLine
      have e : (PySem.W.Datum.depth Str) = 0 ∨ (PySem.W.Datum.depth Str) = 1 := by first | exact .inl rfl | exact .inr rfl
      omega
    · obtain ⟨h1, h2⟩ := least_str xs x
      obtain ⟨as, q⟩ := hz
      obtain ⟨t, rfl, _⟩ := PyProof.Rows.reads_str_inv q
      exact ⟨.str _, H0, I.kept (t' := tk) hk, ⟨t, rfl⟩, h _ h1 h2⟩
theorem kv_maxS {p : Addr} {zs : List Str} (hc : X.calm = true) (hu : X.A.units + 64 < cLine) (hp : SqL X.K H p (zs.map V.str)) (hn : zs ≠ []) (h : ∀ m, m ∈ zs → (∀ y ∈ zs, ¬ m.cps.toList < y.cps.toList) → Q (.str m) H) : CallV X (.builtin "max") [.ref p] H Q := by
  refine ⟨fun vs H' Q' => vs = [.ref p] ∧ H' = H ∧ Q' = Q, ?_, rfl, rfl, rfl⟩
  rintro pins s σ H0 vs us Q0 I r ⟨rfl, rfl, rfl⟩
  rw [L2.Vals.ref1 r]
  obtain ⟨its, rv, pl, _⟩ := I.list hp
  cases zs with
  | nil => exact absurd rfl hn
  | cons x xs =>
    refine PySem.W.max_list_datum (x := x) (xs := xs) (I.ok.hd hc) pl.isList ?_ ?_ fun i v h' tk hv hz hk => ?_
    · obtain ⟨as, q⟩ := Dp.readsAll I _ _ _ (dps (K := X.K) (H := H0) (x :: xs)) rv
      rw [List.toList_toArray]
      exact ⟨as, q⟩
    · show X.A.units + 1 + _ < cLine
      have e : (PySem.W.Datum.depth Str) = 0 ∨ (PySem.W.Datum.depth Str) = 1 := by first | exact .inl rfl | exact .inr rfl
      omega
    · obtain ⟨h1, h2⟩ := most_str xs x
      obtain ⟨as, q⟩ := hz
      obtain ⟨t, rfl, _⟩ := PyProof.Rows.reads_str_inv q
      exact ⟨.str _, H0, I.kept (t' := tk) hk, ⟨t, rfl⟩, h _ h1 h2⟩
/-! ### tuples and lists: +, *, slices -/
theorem bv_catT {p q : Addr} {xs ys : List V} (h1 : SqT X.K H p xs) (h2 : SqT X.K H q ys) (hl : xs.length + ys.length ≤ sizeLine) (h : ∀ r H2, Same H H2 → SqT X.K H2 r (xs ++ ys) → Q (.ref r) H2) : BinV X .Add (.ref p) (.ref q) H Q :=
  ⟨_, op_catA, p, q, xs, ys, rfl, rfl, h1, h2, hl, fun e => h q H (Same.refl _) (by rw [e]; exact h2), fun _ e => h p H (Same.refl _) (by rw [e, List.append_nil]; exact h1), fun _ _ r hr => h r _ (same_new hr) (SqT.of upd_same)⟩
theorem bv_repT {p : Addr} {k : Int} {xs : List V} (h1 : SqT X.K H p xs) (hn : xs ≠ []) (k2 : 2 ≤ k) (k3 : k ≤ 1000) (hl : xs.length ≤ 1000) (h : ∀ r H2, Same H H2 → H r = none → H2 r = some (.tup (List.replicate k.toNat xs).flatten) → Q (.ref r) H2) : BinV X .Mult (.ref p) (.int k) H Q :=
  ⟨_, op_repT, p, k, xs, rfl, rfl, h1, hn, k2, k3, hl, fun r hr => h r _ (same_new hr) hr upd_same⟩
theorem bv_rep {p : Addr} {k : Int} {xs : List V} (h1 : H p = some (.lst xs)) (k2 : -(2 ^ 63) ≤ k) (k3 : k < 2 ^ 63) (hl : xs.length * k.toNat ≤ sizeLine) (h : ∀ r H2, Same H H2 → H r = none → H2 r = some (.lst (List.replicate k.toNat xs).flatten) → Q (.ref r) H2) : BinV X .Mult (.ref p) (.int k) H Q :=
  ⟨_, op_rep, p, k, xs, rfl, rfl, h1, k2, k3, hl, fun r hr => h r _ (same_new hr) hr upd_same⟩
theorem sIx_lt {n d k : Nat} (h : k ≤ n) : HT.sIx n d (some (k : Int)) = k := by
  rw [HT.sIx_nat]
  omega
/-- t[:k] -/
theorem w_sliceTo (h : W X a σ H fun x H1 => W X b σ H1 fun y H2 => ∃ (p : Addr) (k : Nat) (xs : List V), x = .ref p ∧ y = .int k ∧ SqT X.K H2 p xs ∧ k ≤ xs.length ∧ ∀ r H3, Same H2 H3 → SqT X.K H3 r (xs.take k) → Q (.ref r) H3) : W X (.Subscript a (.Slice none (some b) none p2) pos) σ H Q := by
  refine W.of (pe_slice sl_tupA W.pe po_none (po_some W.pe)) ?_
  show W X a σ H _
  refine W.mono h fun x H1 q => ?_
  show W X b σ H1 _
  refine W.mono q fun y H2 ⟨p, k, xs, e1, e2, hp, hk, q⟩ => ⟨(k : Int), e2, p, xs, e1, hp, fun ⟨_, z⟩ => ?_, fun _ r hr => ?_⟩
  · rw [sIx_lt hk] at z
    exact q p H2 (Same.refl _) (by rw [z, List.take_length]; exact hp)
  · refine q r _ (same_new hr) (SqT.of ?_)
    rw [upd_same]
    show some (HO.tup ((xs.drop 0).take (HT.sIx xs.length xs.length (some (k : Int)) - 0))) = _
    rw [sIx_lt hk, List.drop_zero, Nat.sub_zero]
/-- t[k:] -/
theorem w_sliceFrom (h : W X a σ H fun x H1 => W X b σ H1 fun y H2 => ∃ (p : Addr) (k : Nat) (xs : List V), x = .ref p ∧ y = .int k ∧ SqT X.K H2 p xs ∧ k ≤ xs.length ∧ ∀ r H3, Same H2 H3 → SqT X.K H3 r (xs.drop k) → Q (.ref r) H3) : W X (.Subscript a (.Slice (some b) none none p2) pos) σ H Q := by
  refine W.of (pe_slice sl_tupA W.pe (po_some W.pe) po_none) ?_
  show W X a σ H _
  refine W.mono h fun x H1 q => ?_
  show W X b σ H1 _
  refine W.mono q fun y H2 ⟨p, k, xs, e1, e2, hp, hk, q⟩ => ⟨(k : Int), e2, p, xs, e1, hp, fun ⟨z, _⟩ => ?_, fun _ r hr => ?_⟩
  · rw [sIx_lt hk] at z
    exact q p H2 (Same.refl _) (by rw [z, List.drop_zero]; exact hp)
  · refine q r _ (same_new hr) (SqT.of ?_)
    rw [upd_same]
    show some (HO.tup ((xs.drop (HT.sIx xs.length 0 (some (k : Int)))).take (xs.length - HT.sIx xs.length 0 (some (k : Int))))) = _
    rw [sIx_lt hk, List.take_of_length_le (by rw [List.length_drop]; exact Nat.le_refl _)]
/-! ### [elt for x in iter], the dice at p rolled on the way -/
structure SeqItM (p : Addr) (J : It) (H : Hp) (xs : List V) : Prop where
  ex : ∃ G : Hp → Prop, Walk J xs.length G (YAt xs) ∧ G H ∧ ∀ H', Sm p H H' → G H'
theorem seqItM_range {lo : Int} {n : Nat} {p : Addr} : SeqItM p (Itr lo n) H (intsV lo n) := by
  obtain ⟨G, w, _, _⟩ := (seqIt_range (H := H) (lo := lo) (n := n)).ex
  refine ⟨fun _ => True, ?_, trivial, fun _ _ => trivial⟩
  have w := (walk_range (lo := lo) (n := n)).mono (G' := fun _ => True) (Y' := YAt (intsV lo n)) (fun _ h => h) fun i H x H' hi _ y => by
    obtain ⟨e, rfl⟩ := y
    refine ⟨e, ?_⟩
    unfold intsV
    rw [List.getElem?_map]
    simp [hi]
  have e : (intsV lo n).length = n := by simp [intsV]
  rw [e]
  exact w
theorem seqItM_tup {a p : Addr} {K : PySem.W.Frag} {xs : List V} (h : SqT K H a xs) : SeqItM p (Itt K a) H xs := ⟨_, walk_tup, h, fun _ s => s.tup h⟩
theorem seqItM_list {a p : Addr} {K : PySem.W.Frag} {xs : List V} (h : SqL K H a xs) : SeqItM p (Itl K a) H xs := ⟨_, walk_list, h, fun _ s => s.seq h⟩
abbrev LcM (X : Cx) (p : Addr) (tg iter elt : Expr) (scope : Scope) (own : List (Str × Nat)) (g : TG) (σ : L2.St) (H : Hp) (Q : VK) : Prop := WI X tg iter σ H fun J H1 => ∃ xs, SeqItM p J H1 xs ∧ xs.length < sizeLine ∧ ∃ (m0 : Nat) (M : Nat → Nat) (R : Nat → V → Hp → Prop), H1 p = some (DiceO p m0) ∧ (∀ x y Ha Hb, R x y Ha → Sl Ha Hb → R x y Hb) ∧
      (∀ j v, xs[j]? = some v → ∀ H2 m, Sm p H1 H2 → H2 p = some (DiceO p m) → m ≤ m0 + M j → ∀ (Kt : VK), (∀ y H3 m', Sm p H2 H3 → H3 p = some (DiceO p m') → m' ≤ m0 + M (j + 1) → R j y H3 → Kt y H3) →
        g v (wipe σ (own.map (·.2))) H2 fun σ2 H3 => wipe σ2 (own.map (·.2)) = wipe σ (own.map (·.2)) ∧ Blk X scope fun Y => W Y elt σ2 H3 Kt) ∧
      ∀ q ys H2 m, Sm p H1 H2 → H2 p = some (DiceO p m) → m ≤ m0 + M xs.length → H1 q = none → H2 q = some (.lst ys) → RelI (fun _ => False) (fun x y => R x y H2) xs.length ys → Q (.ref q) H2
theorem lcM_t {p : Addr} {own : List (Str × Nat)} {g : TG} (h : LcM X p tg iter elt scope own g σ H Q) : tLc (WI X tg iter) g tYes (fun σ2 H2 K => Blk X scope fun Y => W Y elt σ2 H2 K) (own.map (·.2)) σ H Q := by
  refine ⟨fun pins s I => thn (h.run pins s I) fun v s1 z => thn z fun it s2 q => ?_⟩
  obtain ⟨it', fp, tn, J, H1, e, I2, T, t0, f0, xs, ⟨G, wk, g0, gs⟩, hlen, m0, M, R, hp0, hst, hel, hend⟩ := q
  refine ⟨it', fp, tn, J, H1, e, I2, T, t0, f0, fun Dd nD => ?_⟩
  have pD : Dd ≠ p := fun z => by
    rw [z, hp0] at nD
    cases nD
  refine lc_it (H1 := H1) (D := Dd) (g := g) (tt := tYes) (te := fun σ2 H2 K => Blk X scope fun Y => W Y elt σ2 H2 K) (vs := own.map (·.2)) (σ := σ) (Qd := fun H2 => Q (.ref Dd) H2) wk
    (fun j H2 => ∃ ys m, Sm p H1 H2 ∧ H2 p = some (DiceO p m) ∧ m ≤ m0 + M j ∧ H2 Dd = some (.lst ys) ∧ RelI (fun _ => False) (fun x y => R x y H2) j ys)
    ⟨[], m0, (Sm.refl hp0).new nD, by rw [upd_ne pD.symm]; exact hp0, by omega, upd_same, .nil⟩ (fun j H2 _ ⟨ys, m, sm, _⟩ => gs _ sm) ?_ ?_
  · rintro j v H2 H2' hj ⟨ys, m, s12, hp, hm, hD, rel⟩ ⟨eH, hv⟩
    subst eH
    refine hel j v hv _ m s12 hp hm _ fun y H3 m' s23 hp3 hm3 r => ?_
    have hD3 := s23.lst hD
    have hl : ys.length < sizeLine := by
      have e1 := rel.len
      omega
    refine ⟨ys, hD3, hl, ys ++ [y], m', (s12.trans s23).new nD, by rw [upd_ne pD.symm]; exact hp3, hm3, upd_same, ?_⟩
    have sl : Sl H3 (upd H3 Dd (.lst (ys ++ [y]))) := (Sl.refl H3).lst hD3
    exact .keep (R := fun x y => R x y _) (hst _ _ _ _ r sl) (rel.imp fun a b q => hst _ _ _ _ q (s23.sl.trans sl))
  · rintro H2 ⟨ys, m, s12, hp, hm, hD, rel⟩
    exact hend Dd ys H2 m s12 hp hm nD hD rel
theorem w_lcM (p : Addr) (own : List (Str × Nat)) (g : TG) (hg : Blk X scope fun Y => PG Y tg g) (hc : X.calm = true) (hN : X.N.Nodup) (ok : BlkOk X.N X.env.scope scope own)
    (h : LcM X p tg iter elt scope own g σ H Q)
    (hs : ∀ x, foldedSetIterable iter X.env x = pure x := by intro _; rfl) : W X (.ListComp elt [⟨tg, iter, [], 0⟩] scope pos) σ H Q := by
  exact W.of (pe_lc (own := own) (g := g) (tt := tYes) (te := fun σ2 H2 K => Blk X scope fun Y => W Y elt σ2 H2 K) hc hN WI.pi ok hg (fun _ _ _ _ _ => pts_nil)
    (fun s H C cl fp => ⟨fun pins s' σ' H' Q' I' h' => (h' s H C cl fp).run pins s' I'⟩) hs) (lcM_t h)
theorem ws_setLcM {D : Ends} {y : Str} {py spos : Pos} (i : Nat) (p : Addr) (own : List (Str × Nat)) (g : TG) (hg : Blk X scope fun Y => PG Y tg g) (hc : X.calm = true) (hN : X.N.Nodup) (ok : BlkOk X.N X.env.scope scope own) (hy : X.N[i]? = some y)
    (h : LcM X p tg iter elt scope own g σ H fun v H1 => D.nx (σ.set i (some v)) H1) (hyl : X.env.scope.names.lookup y = some .local := by rfl) (hsw : swapsWith (.ListComp elt [⟨tg, iter, [], 0⟩] scope pos) (some (.Name y py)) spos.line X.env = pure true := by exact sw_true rfl rfl rfl rfl)
    (hs : ∀ x, foldedSetIterable iter X.env x = pure x := by intro _; rfl) : WS X (.Assign [.Name y py] (.ListComp elt [⟨tg, iter, [], 0⟩] scope pos) spos) D σ H :=
  WS.of (ps_setLc (own := own) (g := g) (tt := tYes) (te := fun σ2 H2 K => Blk X scope fun Y => W Y elt σ2 H2 K) hc hN hy hyl hsw WI.pi ok hg (fun _ _ _ _ _ => pts_nil)
    (fun s H C cl fp => ⟨fun pins s' σ' H' Q' I' h' => (h' s H C cl fp).run pins s' I'⟩) hs) (lcM_t h)
end
end Ax
end
section
set_option maxHeartbeats 2000000
namespace Ax
open PySem PySem.Spec PyProof.Rows L2
theorem tyX_tup {K : PySem.W.Frag} {H : Hp} {a : Addr} {xs : List V} (hs : SqT K H a xs) : TyX K H (.ref a) (.type "tuple") := by
  rcases hs with (h | ⟨o, h⟩) | ⟨o, its, n, hk, hc, _⟩
  · exact .base (.tup h)
  · exact .fTuple h
  · exact .kTuple hk hc
theorem tyX_lst {K : PySem.W.Frag} {H : Hp} {a : Addr} {xs : List V} (hs : SqL K H a xs) : TyX K H (.ref a) (.type "list") := by
  rcases hs with (h | ⟨o, h⟩) | ⟨o, its, n, hk, hc, _⟩
  · exact .base (.lst h)
  · exact .base (.frz h)
  · exact .kList hk hc
section
variable {X : Cx} {e a b o : Expr} {es : List Expr} {σ : L2.St} {H H0 : Hp} {Q : VK} {pos : Pos}
theorem kv_isiB {v : V} {t T : String} {k : Bool} (ty : TyX X.K H v (.type t)) (hk : kitB t T = some k) (h : Q (.bl k) H) : CallV X (.builtin "isinstance") [v, .ty T] H Q := kv_isi (.ty T) ty (kit_ty hk) h
/-- xs == () -/
theorem cv_eqTup0 {p q : Addr} {xs : List V} (hu : X.A.units < cLine) (hp : SqT X.K H p xs) (hq : SqT X.K H q []) (h : Q (.bl xs.isEmpty) H) : CmpV X .Eq (.ref p) (.ref q) H Q := by
  refine ⟨fun x y H Q => x = .ref p ∧ y = .ref q ∧ SqT X.K H p xs ∧ SqT X.K H q [] ∧ Q (.bl xs.isEmpty) H, ?_, rfl, rfl, hp, hq, h⟩
  rintro pins s σ H x y v u Q I rx ry ⟨rfl, rfl, h1, h2, q⟩
  cases rx
  cases ry
  obtain ⟨its, r, pl, _⟩ := I.tuple h1
  obtain ⟨its2, r2, pl2, _⟩ := I.tuple h2
  cases r2
  refine SeqAt.eq_tupleAt (e := fun _ => true) pl pl2 hu (fun j _ h1 => absurd h1 (by simp)) ?_
  have e : ((List.range (min its.toArray.size ([] : List Value).toArray.size)).all (fun _ => true) && its.toArray.size == ([] : List Value).toArray.size) = xs.isEmpty := by
    cases xs with
    | nil => cases r; rfl
    | cons y ys => cases r; simp
  rw [e]
  exact ⟨.bl _, H, I, rfl, q⟩
/-- {} -/
theorem w_dict0 (h : ∀ p H2, Same H H2 → H p = none → H2 p = some (.dK []) → Q (.ref p) H2) : W X (.Dict [] [] pos) σ H Q := W.of pe_dnewK fun p hp => h p _ (same_new hp) hp upd_same
/-! ### written data -/
structure Lit (X : Cx) (e : Expr) (σ : L2.St) (H0 : Hp) (d : PyData) : Prop where
  run : ∀ H Q, Same H0 H → (∀ v H', Same H H' → Dp X.K H' v d → Q v H') → W X e σ H Q
structure LitA (X : Cx) (es : List Expr) (σ : L2.St) (H0 : Hp) (ds : List PyData) : Prop where
  len : ds.length = es.length
  run : ∀ H Q, Same H0 H → (∀ vs H', Same H H' → DpAll X.K H' vs ds → Q vs H') → WA X es σ H Q
variable {d : PyData} {ds : List PyData}
theorem lit_str {x : Str} {j : Nat} : Lit X (.Constant (.str x) j pos) σ H0 (.str x) := ⟨fun H Q _ h => w_str (h _ H (Same.refl _) (.str _))⟩
theorem lit_int {x : Int} {j : Nat} : Lit X (.Constant (.int x) j pos) σ H0 (.int x) := ⟨fun H Q _ h => w_int (h _ H (Same.refl _) (.int _))⟩
theorem lit_bl {x : Bool} {j : Nat} : Lit X (.Constant (.bool x) j pos) σ H0 (.bool x) := ⟨fun H Q _ h => w_bl (h _ H (Same.refl _) (.bl _))⟩
theorem lit_non {j : Nat} : Lit X (.Constant .none j pos) σ H0 .none := ⟨fun H Q _ h => w_non (h _ H (Same.refl _) .non)⟩
theorem lit_of (h : ∀ H Q, Same H0 H → (∀ v, Dp X.K H v d → Q v H) → W X e σ H Q) : Lit X e σ H0 d := ⟨fun H Q s k => h H Q s fun v hd => k v H (Same.refl _) hd⟩
theorem lita_nil : LitA X [] σ H0 [] := ⟨rfl, fun H Q _ h => wa_nil (h _ H (Same.refl _) .nil)⟩
theorem lita_cons (h1 : Lit X e σ H0 d) (h2 : LitA X es σ H0 ds) (hs : starEach (e :: es) X.env = (false, eval e X.env) :: starEach es X.env := by rfl) : LitA X (e :: es) σ H0 (d :: ds) :=
  ⟨by rw [List.length_cons, List.length_cons, h2.len], fun H Q s h => wa_cons (h1.run H _ s fun v H1 s1 hd => h2.run H1 _ (s.trans s1) fun vs H2 s2 hds => h _ H2 (s1.trans s2) (.cons (dp_same s2 hd) hds)) hs⟩
theorem lit_tup {j : Nat} (h : LitA X es σ H0 ds) (hl : es.length ≤ 100 := by decide) : Lit X (.Tuple es j pos) σ H0 (.tuple ds) :=
  ⟨fun H Q s k => w_tup (h.run H _ s fun vs H1 s1 hd => ⟨by rw [dpa_len hd, h.len]; exact Nat.le_trans hl (by decide), fun p H2 s2 n2 hp => k _ H2 (s1.trans s2) (.tup (SqT.of hp) (dpa_same s2 hd))⟩)⟩
theorem lit_lst (h : LitA X es σ H0 ds) (hl : es.length ≤ 100 := by decide) : Lit X (.List es pos) σ H0 (.list ds) :=
  ⟨fun H Q s k => w_lst (h.run H _ s fun vs H1 s1 hd => ⟨by rw [dpa_len hd, h.len]; exact Nat.le_trans hl (by decide), fun p H2 s2 n2 hp => k _ H2 (s1.trans s2) (.lst (SqL.of hp) (dpa_same s2 hd))⟩)⟩
/-- (..) * k -/
theorem lit_mul {k : Int} {j j2 : Nat} {p2 p3 : Pos} (h : LitA X es σ H0 ds) (k2 : 2 ≤ k) (k3 : k ≤ 1000) (hn : 0 < es.length) (hl : es.length ≤ 100) :
    Lit X (.BinOp (.Tuple es j2 p3) .Mult (.Constant (.int k) j p2) pos) σ H0 (.tuple (List.replicate k.toNat ds).flatten) :=
  ⟨fun H Q s q => w_bin ((lit_tup h hl).run H _ s fun v H1 s1 hd => w_int (by
    cases hd with
    | @tup p xs _ hp ha =>
    have hl2 := dpa_len ha
    have hl3 := h.len
    refine bv_repT hp (by rintro rfl; simp at hl2; omega) (by omega) (by omega) (by omega) fun r H2 s2 n2 hr => q _ H2 (s1.trans s2) (.tup (SqT.of hr) ?_)
    have ha2 := dpa_same s2 ha
    generalize k.toNat = m
    clear hr hl2 q
    induction m with
    | zero => exact .nil
    | succ k ih =>
      rw [List.replicate_succ, List.replicate_succ, List.flatten_cons, List.flatten_cons]
      exact dpa_app ha2 ih))⟩
theorem rep_flat {α : Type} (d : α) : ∀ n : Nat, (List.replicate n [d]).flatten = List.replicate n d
  | 0 => rfl
  | n + 1 => by rw [List.replicate_succ, List.flatten_cons, rep_flat d n, List.replicate_succ]; rfl
/-- (x,) * k, told item by item -/
theorem lit_mulE {k : Int} {j j2 : Nat} {p2 p3 : Pos} (h : LitA X es σ H0 [d]) (he : d :: ds = List.replicate k.toNat d := by rfl) (k2 : 2 ≤ k := by decide) (k3 : k ≤ 1000 := by decide) (hn : 0 < es.length := by decide) (hl : es.length ≤ 100 := by decide) :
    Lit X (.BinOp (.Tuple es j2 p3) .Mult (.Constant (.int k) j p2) pos) σ H0 (.tuple (d :: ds)) := by
  rw [he, ← rep_flat]
  exact lit_mul h k2 k3 hn hl
/-- data, or an empty dict; nothing said of sizes -/
inductive AnyR (K : PySem.W.Frag) (H : Hp) : V → Option PyData → Prop
  | dat {v : V} {d : PyData} (h : Dp K H v d) : AnyR K H v (some d)
  | dct {a : Addr} {kvs : List (Key × V)} (h : H a = some (.dK kvs)) : AnyR K H (.ref a) none
theorem AnyR.sx {K : PySem.W.Frag} {H H' : Hp} {v : V} {o : Option PyData} (s : Sx H H') (a : AnyR K H v o) : AnyR K H' v o := by
  cases a with
  | dat h => exact .dat (dp_sx s h)
  | dct h => exact .dct (s _ _ h rfl)
theorem AnyR.anyX {K : PySem.W.Frag} {H : Hp} {v : V} {o : Option PyData} (a : AnyR K H v o) (ok : o.all okD = true) : AnyX K H v o := by
  cases a with
  | dat h => exact .dat h ok
  | dct h => exact .dct h
structure LitX (X : Cx) (es : List Expr) (σ : L2.St) (H0 : Hp) (os : List (Option PyData)) : Prop where
  len : os.length = es.length
  run : ∀ H Q, Same H0 H → (∀ vs H', Same H H' → All2 (AnyR X.K H') vs os → Q vs H') → WA X es σ H Q
variable {os : List (Option PyData)}
theorem litx_nil : LitX X [] σ H0 [] := ⟨rfl, fun H Q _ h => wa_nil (h _ H (Same.refl _) .nil)⟩
theorem litx_cons (h1 : Lit X e σ H0 d) (h2 : LitX X es σ H0 os) (hs : starEach (e :: es) X.env = (false, eval e X.env) :: starEach es X.env := by rfl) : LitX X (e :: es) σ H0 (some d :: os) :=
  ⟨by rw [List.length_cons, List.length_cons, h2.len], fun H Q s h => wa_cons (h1.run H _ s fun v H1 s1 hd => h2.run H1 _ (s.trans s1) fun vs H2 s2 hds => h _ H2 (s1.trans s2) (.cons (.dat (dp_same s2 hd)) hds)) hs⟩
theorem litx_dict (h2 : LitX X es σ H0 os) (hs : starEach (.Dict [] [] pos :: es) X.env = (false, eval (.Dict [] [] pos) X.env) :: starEach es X.env := by rfl) : LitX X (.Dict [] [] pos :: es) σ H0 (none :: os) :=
  ⟨by rw [List.length_cons, List.length_cons, h2.len], fun H Q s h => wa_cons (w_dict0 fun p H1 s1 n1 hp => h2.run H1 _ (s.trans s1) fun vs H2 s2 hds => h _ H2 (s1.trans s2) (.cons (.dct (s2 _ _ hp)) hds)) hs⟩
/-- a list of such -/
theorem w_listX (os : List (Option PyData)) (h : LitX X es σ H0 os) (s : Same H0 H) (q : ∀ p vs H2, Same H H2 → H p = none → H2 p = some (.lst vs) → All2 (AnyR X.K H2) vs os → Q (.ref p) H2) (hl : es.length ≤ 100 := by decide) : W X (.List es pos) σ H Q :=
  w_lst (h.run H _ s fun vs H1 s1 hd => ⟨by rw [hd.len, h.len]; exact Nat.le_trans hl (by decide), fun p H2 s2 n2 hp => q p vs H2 (s1.trans s2) (same_nul s1 n2) hp (hd.imp fun _ _ a => a.sx (Sx.of s2))⟩)
end
end Ax
end
section
set_option maxHeartbeats 2000000
namespace Ax
open PySem PySem.Spec PyProof.Rows L2
/-! ### sets of ints and texts that can be walked -/
def keyM : Value → Option Key
  | .int i _ => some (.inl i)
  | .str x _ => some (.inr x)
  | _ => none
theorem keyM_rel {k : Key} {u : Value} (r : RelV (kV k) u) : keyM u = some k := by
  cases k <;> (obtain ⟨t, rfl⟩ := r; rfl)
def keyE (e : Int × Value) : Option Key := keyM e.2
section
variable {P : Program} {w : World}
def GoodM (P : Program) (w : World) (e : Int × Value) : Prop := ∃ k, RelV (kV k) e.2 ∧ e.1 = (mixKind P w).hash k
/-- the set at a: its members S, their number n; its table rises -/
def SetM (P : Program) (w : World) (h : Heap) (a : Addr) (S : Key → Bool) (n : Nat) : Prop :=
  ∃ o es ep t, h.get? a = some o ∧ o.ExactSet ∧ o.data = .set es ep t ∧ (∀ e ∈ es.toList, GoodM P w e) ∧ ((es.toList.map keyE).Nodup ∧ ∀ k, S k = true ↔ some k ∈ es.toList.map keyE) ∧
    es.size < scanBound ∧ t.fits es.size = true ∧ es.size = n ∧ Ris t.place.toList ∧ (w.params.followText "set-order" = true ∨ t.led = true)
variable {h h' : Heap} {a : Addr} {S : Key → Bool} {n : Nat}
theorem SetM.keep (R : SetM P w h a S n) (k : ∀ o, h.get? a = some o → h'.get? a = some o) : SetM P w h' a S n :=
  let ⟨o, es, ep, t, ho, r⟩ := R
  ⟨o, es, ep, t, k o ho, r⟩
theorem SetM.as {S' : Key → Bool} (R : SetM P w h a S n) (e : ∀ k, S' k = S k) : SetM P w h a S' n := (funext e : S' = S) ▸ R
theorem goodM_elems {l : List (Int × Value)} (g : ∀ e ∈ l, GoodM P w e) : ElemsOf (mixKind P w) l := fun e he =>
  let ⟨k, h1, h2⟩ := g e he
  ⟨⟨k, kV_is h1, h2⟩, key_scan h1⟩
theorem goodM_is {e : Int × Value} (g : GoodM P w e) (k : Key) : (mixKind P w).is k e.2 = true ↔ keyE e = some k := by
  obtain ⟨k0, h1, _⟩ := g
  have e1 : keyE e = some k0 := keyM_rel h1
  rw [e1]
  constructor
  · intro q
    rw [(mixKind P w).inj _ _ _ (kV_is h1) q]
  · intro q
    cases q
    exact kV_is h1
theorem goodM_mem {l : List (Int × Value)} (g : ∀ e ∈ l, GoodM P w e) (k : Key) : some k ∈ l.map keyE ↔ ∃ e ∈ l, (mixKind P w).is k e.2 = true := by
  simp only [List.mem_map]
  exact ⟨fun ⟨e, he, q⟩ => ⟨e, he, (goodM_is (g e he) k).mpr q⟩, fun ⟨e, he, q⟩ => ⟨e, he, (goodM_is (g e he) k).mp q⟩⟩
end
section
variable {P : Program} {w : World} {A : Around} {E : Value → Shared → Prop} {s : Shared} {a : Addr} {S : Key → Bool} {n : Nat}
theorem setM_tail {g : Bool → Sem Unit} (hg : ∀ (b : Bool) (s1 : Shared) (Z : Unit → Shared → Prop), Z () s1 → wpAny (model P w) A (g b) Z E s1)
    {o : Obj} {es : Array (Int × Value)} {ep : Nat} {t : SetTable} (ho : s.heap.get? a = some o) (hex : o.ExactSet) (hd : o.data = .set es ep t)
    {es1 : Array (Int × Value)} {t2 : SetTable} {S1 : Key → Bool} (g1 : ∀ e ∈ es1.toList, GoodM P w e) (m1 : (es1.toList.map keyE).Nodup ∧ ∀ k, S1 k = true ↔ some k ∈ es1.toList.map keyE)
    (hb : es1.size < scanBound) (hf : t2.fits es1.size = true) (hr : Ris t2.place.toList) (hl : w.params.followText "set-order" = true ∨ t2.led = true) {wd : Bool} {R : Option Bool → Shared → Prop}
    (hR : ∀ h', Heap.SameBut a s.heap h' → SetM P w h' a S1 es1.size → R (some true) { s with heap := h' }) :
    wpAny (model P w) A (do storeSet a es1 t2
                            if (!wd && t2.tooFull) = true then do g (relayAll t2 es1 (SetTable.grown es1.size)).2.2
                                                                  storeSet a (relayAll t2 es1 (SetTable.grown es1.size)).1 (relayAll t2 es1 (SetTable.grown es1.size)).2.1
                                                                  pure (some true)
                            else pure (some true)) R E s := by
  have o1 := store_at (es' := es1) (t' := t2) ho hd
  have b1 := Heap.SameBut.update s.heap a (Obj.putSet es1 t2)
  refine wpAny_bind (wpAny_storeSet_of ho hd ?_ (fits_of_scanBound hb))
  split
  · have pm := relayAll_perm t2 es1 (SetTable.grown es1.size)
    have f3 := relayAll_fits t2 es1 (SetTable.grown es1.size)
    have r3 := relayAll_ris t2 es1 (SetTable.grown es1.size)
    have l3 := relayAll_led t2 es1 (SetTable.grown es1.size)
    revert pm f3 r3 l3
    generalize relayAll t2 es1 (SetTable.grown es1.size) = Z
    obtain ⟨es2, t3, gv⟩ := Z
    intro pm f3 r3 l3
    have hz : es2.size = es1.size := by simpa using pm.length_eq
    refine wpAny_bind (hg _ _ _ (wpAny_bind (wpAny_storeSet_of o1 rfl (wpAny_pure (hR _ (b1.trans (Heap.SameBut.update _ a _)) ?_)) (fits_of_scanBound (by rw [hz]; exact hb)))))
    exact ⟨_, es2, _, t3, store_at (es' := es2) (t' := t3) o1 rfl, hex, rfl, fun e he => g1 e (pm.mem_iff.mp he), ⟨(pm.map keyE).nodup_iff.mpr m1.1, fun k => (m1.2 k).trans (pm.map keyE).mem_iff.symm⟩, by rw [hz]; exact hb, f3, hz, r3, hl.imp id fun z => l3.trans z⟩
  · exact wpAny_pure (hR _ b1 ⟨_, es1, _, t2, o1, hex, rfl, g1, m1, hb, hf, rfl, hr, hl⟩)
/-- a key is put in -/
theorem setM_add {k : Key} {u : Value} (hk : RelV (kV k) u) {Q : Bool → Shared → Prop} (R : SetM P w s.heap a S n) (room : n + 1 < scanBound)
    (hQ : ∀ h', Heap.SameBut a s.heap h' → SetM P w h' a (fun j => S j || decide (j = k)) (if S k = true then n else n + 1) → Q (!S k) { s with heap := h' }) :
    wpAny (model P w) A (setAddHashed a u ((mixKind P w).hash k)) Q E s := by
  obtain ⟨o, es, ep, t, ho, hex, hd, g, ⟨nd, hm⟩, hb, hf, hn, hr, hl⟩ := R
  have is1 : (mixKind P w).is k u = true := kV_is hk
  have sc1 : u.scannable = true := key_scan hk
  have el1 : ElemsOf (mixKind P w) es.toList := goodM_elems g
  unfold setAddHashed setAddHashedIn
  refine wpAny_holding (wpAny_bind (wpAny_setState_of ho hd hf ?_))
  dsimp only
  rw [byScan_of sc1 hb el1]
  simp only [↓reduceIte]
  unfold setAddByScan
  refine wpAny_bind (wpAny_bind (wpAny_rule (wpAny_bind (wpAny_setScan_of is1 ho hd hf el1 ?_))))
  cases hfi : List.findIdx? (fun e => (mixKind P w).is k e.2) es.toList with
  | some j =>
    obtain ⟨hj, pj, _⟩ := List.findIdx?_eq_some_iff_getElem.mp hfi
    have hS : S k = true := (hm k).mpr ((goodM_mem g k).mpr ⟨_, List.getElem_mem hj, pj⟩)
    have q := hQ s.heap (Heap.SameBut.refl a s.heap)
    rw [hS, if_pos rfl] at q
    refine wpAny_pure (wpAny_pure (q ⟨o, es, ep, t, ho, hex, hd, g, ⟨nd, fun i => ?_⟩, hb, hf, hn, hr, hl⟩))
    rw [Bool.or_eq_true, decide_eq_true_eq, ← hm i]
    exact ⟨fun z => z.elim id fun e => e ▸ hS, Or.inl⟩
  | none =>
    have hnk : some k ∉ es.toList.map keyE := fun z => by
      obtain ⟨e, he, q⟩ := (goodM_mem g k).mp z
      have c := List.findIdx?_eq_none_iff.mp hfi e he
      rw [c] at q
      cases q
    have hS : S k = false := by
      cases q : S k with
      | true => exact absurd ((hm k).mp q) hnk
      | false => rfl
    have rl : ∀ (b : Bool) {s1 : Shared} {Z : Unit → Shared → Prop}, Z () s1 → wpAny (model P w) A (match b with | true => rule "set.scan.the-table-gave-way" | false => pure ()) Z E s1 := fun b s1 Z q => by
      cases b <;> first | exact wpAny_pure q | exact wpAny_rule q
    have pm := layNew_perm t es ((mixKind P w).hash k) u
    have f1 := layNew_fits t es ((mixKind P w).hash k) u
    have r1 := layNew_ris t es ((mixKind P w).hash k) u hr
    have l1 := layNew_led t es ((mixKind P w).hash k) u
    revert pm f1 r1 l1
    generalize layNew t es ((mixKind P w).hash k) u = Z
    obtain ⟨es1, t1, wd, gv⟩ := Z
    intro pm f1 r1 l1
    dsimp only at pm f1 r1 l1 ⊢
    rw [Array.toList_push] at pm
    have pc : es1.toList.Perm (((mixKind P w).hash k, u) :: es.toList) := pm.trans (List.perm_append_singleton _ _)
    have pk : (es1.toList.map keyE).Perm (some k :: es.toList.map keyE) := by
      have e := pc.map keyE
      rw [List.map_cons, show keyE ((mixKind P w).hash k, u) = some k from keyM_rel hk] at e
      exact e
    have g1 : ∀ e ∈ es1.toList, GoodM P w e := fun e he => by
      rcases List.mem_cons.mp (pc.mem_iff.mp he) with rfl | z
      · exact ⟨k, hk, rfl⟩
      · exact g e z
    have m1 : (es1.toList.map keyE).Nodup ∧ ∀ i, (S i || decide (i = k)) = true ↔ some i ∈ es1.toList.map keyE := by
      refine ⟨pk.nodup_iff.mpr (List.nodup_cons.mpr ⟨hnk, nd⟩), fun i => ?_⟩
      rw [Bool.or_eq_true, decide_eq_true_eq, hm i, pk.mem_iff, List.mem_cons, Option.some_inj]
      exact Or.comm
    have hz : es1.size = n + 1 := by
      have e := pc.length_eq
      simp only [List.length_cons, Array.length_toList] at e
      omega
    have hb1 : es1.size < scanBound := hz ▸ room
    have hl1 : w.params.followText "set-order" = true ∨ t1.led = true := hl.imp id fun z => l1.trans z
    have fin : ∀ h', Heap.SameBut a s.heap h' → SetM P w h' a (fun j => S j || decide (j = k)) es1.size → Q true { s with heap := h' } := fun h' sb r => by
      have q := hQ h' sb
      rw [hS] at q
      exact q (by rw [← hz]; exact r)
    refine wpAny_bind (rl _ ?_)
    split
    · refine wpAny_bind ?_
      rw [hashByValue_scannable 8 sc1]
      refine wpAny_pure (setM_tail (fun b s1 Z q => by cases b <;> first | exact wpAny_pure q | exact wpAny_rule q) ho hex hd g1 m1 hb1 ?_ ?_ ?_ fun h' sb r => wpAny_pure (fin h' sb r))
      · first | exact f1 | (split <;> first | exact f1 | exact SetTable.fits_plain_off f1)
      · first | exact r1 | (split <;> exact r1)
      · first | exact hl1 | (split <;> exact hl1)
    · refine wpAny_bind (wpAny_pure ?_)
      simp only [↓reduceIte]
      exact setM_tail (fun b s1 Z q => by cases b <;> first | exact wpAny_pure q | exact wpAny_rule q) ho hex hd g1 m1 hb1 f1 r1 hl1 fun h' sb r => wpAny_pure (fin h' sb r)
end
end Ax
end
section
set_option maxHeartbeats 4000000
namespace Ax
open PySem PySem.Spec PyProof.Rows L2
section
variable {P : Program} {w : World} {A : Around} {E : Value → Shared → Prop} {s : Shared}
/-- one of the keys -/
def inKs (ks : List Key) (j : Key) : Bool := ks.any fun i => decide (i = j)
theorem inKs_iff {ks : List Key} {j : Key} : inKs ks j = true ↔ j ∈ ks := by
  unfold inKs
  rw [List.any_eq_true]
  exact ⟨fun ⟨x, h1, h2⟩ => of_decide_eq_true h2 ▸ h1, fun h => ⟨j, h, decide_eq_true rfl⟩⟩
theorem setM_start {h : Heap} {a : Addr} {S : Key → Bool} (hS : ∀ k, S k = false) (ho : h.get? a = some { cls := .type "set", dict := none, data := .set #[] 0 (.fresh 0 0 (!w.params.followText "set-order")) }) : SetM P w h a S 0 := by
  refine ⟨_, #[], 0, _, ho, ⟨rfl, rfl, rfl⟩, rfl, fun e he => by simp at he, ⟨by simp, fun k => by simp [hS k]⟩, by decide, rfl, rfl, List.Pairwise.nil, ?_⟩
  cases e : w.params.followText "set-order"
  · exact .inr rfl
  · exact .inl rfl
/-- the items of a walk are put in -/
theorem setM_loop {I : Addr} {fp wr : List Addr} {G : Array GenState → Array GenState → Prop} {n : Nat} {Pv : Nat → Value → Prop} {St : Nat → Shared → Prop} {R : Result → Shared → Prop} (W : WalksS P w A.in1 I fp wr G n Pv St) (S : Addr) (hSf : S ∉ fp) (ks : List Key) (hn : n = ks.length)
    (hb : ks.length + 1 < scanBound) (hval : ∀ (i : Nat) (v : Value), Pv i v → ∃ k, ks[i]? = some k ∧ RelV (kV k) v) : ∀ (m i : Nat) (s : Shared), n - i = m → i ≤ n → St i s → (∃ c, c ≤ i ∧ SetM P w s.heap S (inKs (ks.take i)) c) →
      (∀ s' c, Moved (S :: wr) G s s' → c ≤ n → SetM P w s'.heap S (inKs ks) c → R (.ok (.ret .none)) s') → codeAny (model P w) A (.builtin "set.update.loop" ⟨[.ref S, .ref I], []⟩) R s := by
  have nw : S ∉ wr := fun h => hSf (W.sub _ h)
  have sub : ∀ b ∈ wr, b ∈ S :: wr := fun _ => List.mem_cons_of_mem _
  intro m
  induction m with
  | zero =>
    intro i s hm hi hst ⟨c, hc, hS⟩ hR
    obtain rfl : i = n := by omega
    refine codeAny_builtin F.entry_set_update_loop ?_; rw [Around.under_plainId F.plain_set_update_loop _]
    show wpAny _ A.in1 (pyNext (.ref I) >>= _) _ _ s; refine wpAny_bind (W.done s _ _ hst fun s' mv => ?_)
    show wpAny _ A.in1 (ret Value.none) _ _ s'; refine wpAny_pure (hR s' c (mv.mono sub) hc ?_)
    rw [show ks.take i = ks from List.take_of_length_le (by omega)] at hS
    exact hS.keep fun o e => mv.heap S o nw e
  | succ m ih =>
    intro i s hm hi hst ⟨c, hc, hS⟩ hR
    have lt : i < n := by omega
    refine codeAny_builtin F.entry_set_update_loop ?_; rw [Around.under_plainId F.plain_set_update_loop _]
    show wpAny _ A.in1 (pyNext (.ref I) >>= _) _ _ s; refine wpAny_bind (W.item i s _ _ lt hst fun v s' hP hst' mv => ?_)
    obtain ⟨k, hk, rk⟩ := hval i v hP
    have hS1 : SetM P w s'.heap S (inKs (ks.take i)) c := hS.keep fun o e => mv.heap S o nw e
    show wpAny _ A.in1 (holding [v] (setAdd S v) >>= _) _ _ s'; refine wpAny_bind (wpAny_holding ?_); unfold setAdd
    refine wpAny_holding (wpAny_bind ((mixKind P w).pyHash (k := k) (kV_is rk) ?_))
    refine setM_add (s := { s' with toks := s'.toks + 1 }) rk hS1 (by omega) fun h' sb hS2 => ?_
    have hS3 : SetM P w h' S (inKs (ks.take (i + 1))) (if inKs (ks.take i) k = true then c else c + 1) := hS2.as fun j => by
      rw [List.take_add_one, hk]
      unfold inKs
      rw [List.any_append]
      congr 1
      simp only [Option.toList_some, List.any_cons, List.any_nil, Bool.or_false]
      rw [Bool.eq_iff_iff, decide_eq_true_iff, decide_eq_true_iff]
      exact eq_comm
    refine wpAny_pure ⟨plainId_quiet F.plain_set_update_loop _, ih (i + 1) _ (by omega) lt (W.frame _ s' _ _ hst' (Nat.le_succ _) fun b hb o e => (sb.2 b fun h => hSf (h ▸ hb)).trans e) ⟨_, by split <;> omega, hS3⟩ fun s2 c2 mv2 hc2 hS4 => hR s2 c2 (Moved.trans W.gtrans ((mv.mono sub).then_heap (Nat.le_succ _) fun b o hb e => (sb.2 b fun h => hb (h ▸ List.mem_cons_self)).trans e) mv2) hc2 hS4⟩
/-- set(xs) of a list of ints and texts -/
theorem call_setM {l : Addr} {items : Array Value} (ks : List Key) {Q : Value → Shared → Prop} (hh : A.handled = none) (hl : s.heap.IsList l items) (hsz : items.size = ks.length) (hval : ∀ (i : Nat) (v : Value), items[i]? = some v → ∃ k, ks[i]? = some k ∧ RelV (kV k) v) (hb : ks.length + 1 < scanBound)
    (h : ∀ (h' : Heap) (tk c : Nat), SetM P w h' s.heap.objs.size (inKs ks) c → c ≤ ks.length → (∀ b o, s.heap.get? b = some o → h'.get? b = some o) → Q (.ref s.heap.objs.size) { s with heap := h', toks := tk }) : wpAny (model P w) A (call (.type "set") [.ref l]) Q E s := by
  have mro1 := F.called_set.mro
  obtain ⟨c0, tl, hmro⟩ := mro1
  have made1 := F.called_set.made
  have sub1 := F.called_set.sub
  refine wpAny_call (codeAny_of_tree ?_); show wpAny _ _ (callAny (.type "set") _) _ _ _
  refine wpAny_pure ⟨Code.quiet_builtin _ (by decide +kernel), codeAny_builtin F.entry_type_call ?_⟩; rw [Around.under_plain (weight_type_call_type "set" [.ref l] []) rfl]
  have nt1 := F.called_set.notType; have cc1 := F.called_set.canCreate; have tc1 := F.typeCall_set_1 (.ref l)
  repeat (any_goals (first | assumption | wp_step))
  generalize hO : ({ cls := .type "set", dict := none, data := .set #[] 0 (.fresh 0 0 (!w.params.followText "set-order")) } : Obj) = O
  refine codeAny_mono (code_set_led1 (.ref l) (E := E) (Q₁ := fun obj s1 => obj = .ref s.heap.objs.size ∧ s1 = { s with heap := s.heap.push O }) ⟨rfl, by rw [← hO]⟩) fun r s1 hr => ?_
  cases r with
  | error e => exact hr
  | ok fl =>
    cases fl with
    | ret obj =>
      obtain ⟨rfl, rfl⟩ := hr
      have atS : (s.heap.push O).get? s.heap.objs.size = some O := by rw [← hO]; exact Heap.get?_push_size _ rfl
      have ty1 : Shared.TypeIs { s with heap := s.heap.push O } (.ref s.heap.objs.size) "set" := ⟨_, atS, by rw [← hO]⟩
      have li1 := F.called_set.init.lookup; have bi1 := F.called_set.init.bind (.ref s.heap.objs.size)
      repeat (any_goals (first | assumption | wp_step))
      refine codeAny_mono (codeAny_call_builtin (R := wants (fun r s2 => r = .none ∧ ∃ h' tk c, s2 = { s with heap := h', toks := tk } ∧ SetM P w h' s.heap.objs.size (inKs ks) c ∧ c ≤ ks.length ∧ ∀ b o, s.heap.get? b = some o → h'.get? b = some o) E)
        F.called_set.init.plain F.entry_set_init (check_set_init_1 ty1 ?_)) fun r2 s2 hr2 => ?_
      · obtain ⟨⟨ocls, odict, odata, oslots⟩, hol, hcl, nl, hdl⟩ := hl
        simp only at hcl hdl
        subst hcl hdl
        have hol1 : (s.heap.push O).get? l = some { cls := .type "list", dict := odict, data := .seq items nl, slots := oslots } := Heap.get?_push_of_some _ hol
        have sl1 := F.sub_list_set; have sf1 := F.sub_list_frozenset; have ne1 : (Value.type "list" == Value.type "dict") = false := by decide
        have hl1 : (s.heap.push O).IsList l items := ⟨_, hol1, rfl, nl, rfl⟩
        subst hO; unfold Builtin.«set.__init__» noKeywords Builtin.Frozenset.updateFrom
        generalize hPI : pyIter = PI; wp_walk; subst hPI
        refine wpAny_pyIter_list hl1 ?_; refine wpAny_bind (wpAny_runValue ?_)
        have ltl : l < s.heap.objs.size := Heap.lt_size hol
        have hd3 : A.in1.in1.in1.handled = none := by simpa using hh
        have zI := Heap.size_push s.heap ({ cls := .type "set", dict := none, data := .set #[] 0 (.fresh 0 0 (!w.params.followText "set-order")) } : Obj)
        have neI : l ≠ (s.heap.push ({ cls := .type "set", dict := none, data := .set #[] 0 (.fresh 0 0 (!w.params.followText "set-order")) } : Obj)).objs.size := by rw [zI]; exact Nat.ne_of_lt (Nat.lt_succ_of_lt ltl)
        have nfS : s.heap.objs.size ∉ [(s.heap.push ({ cls := .type "set", dict := none, data := .set #[] 0 (.fresh 0 0 (!w.params.followText "set-order")) } : Obj)).objs.size, l] := by
          intro z; rw [zI] at z
          rcases List.mem_cons.mp z with z | z
          · exact absurd z (Nat.ne_of_lt (Nat.lt_succ_self _))
          · exact absurd (List.mem_singleton.mp z) (Nat.ne_of_gt ltl)
        refine setM_loop ((Walks.list hd3 _ l neI items).toS) s.heap.objs.size nfS ks hsz hb hval (items.size - 0) 0 _ (by omega) (Nat.zero_le _) ⟨⟨_, Heap.get?_push_size _ rfl, rfl, rfl⟩, hl1.push _⟩ ⟨0, Nat.le_refl 0, ?_⟩ ?_
        · exact setM_start (fun k => rfl) (Heap.get?_push_of_some _ atS)
        · intro s' c mv hc hS
          obtain ⟨h', g2, d', tk', os'⟩ := s'
          have e1 : g2 = s.gens := mv.gens; have e2 : d' = s.drawn := mv.drawn; have e3 : os' = s.os := mv.os
          subst e1 e2 e3
          show wpAny _ _ _ _ _ _; refine wpAny_pure ?_; show wpAny _ _ (ret Value.none) _ _ _
          refine wpAny_pure ⟨rfl, h', tk', c, rfl, hS, by omega, fun b o e => ?_⟩
          have b1 : b < s.heap.objs.size := Heap.lt_size e
          refine mv.heap b o (fun z => ?_) (Heap.get?_push_of_some _ (Heap.get?_push_of_some _ e))
          rw [zI] at z
          rcases List.mem_cons.mp z with z | z
          · exact Nat.ne_of_lt b1 z
          · exact Nat.ne_of_lt (Nat.lt_succ_of_lt b1) (List.mem_singleton.mp z)
      · cases r2 with
        | error e => exact hr2
        | ok f2 =>
          cases f2 with
          | ret r =>
            obtain ⟨rfl, h', tk, c, rfl, hS, hc, hk⟩ := hr2
            repeat (any_goals (first | assumption | wp_step))
            exact h _ _ _ hS hc hk
          | _ => exact hr2.elim
    | _ => exact hr.elim
end
end Ax
end
section
set_option maxHeartbeats 4000000
namespace Ax
open PySem PySem.Spec PyProof.Rows L2
/-- the set of texts at a: its members are those of zs -/
def SetSO (P : Program) (w : World) (a : Addr) (zs : List Str) : HO := .ext fun h => ∃ c, SetM P w h a (inKs (zs.map Sum.inr)) c ∧ c ≤ zs.length
theorem setSO_new {P : Program} {w : World} {H : Hp} {h : Heap} {a : Addr} {zs : List Str} {c : Nat} (R : SetM P w h a (inKs (zs.map Sum.inr)) c) (hc : c ≤ zs.length) : ObjOk P w H h a (SetSO P w a zs) := by
  have ⟨o, _, _, _, ho, _⟩ := R
  exact ⟨⟨c, R, hc⟩, ⟨o, ho⟩, fun h1 h2 ⟨c, p, hc⟩ k => ⟨c, p.keep k, hc⟩⟩
theorem valsK {zs : List Str} {us : List Value} (r : Vals (zs.map V.str) us) : ∀ (i : Nat) (v : Value), us[i]? = some v → ∃ k, (zs.map (Sum.inr : Str → Key))[i]? = some k ∧ RelV (kV k) v := by
  induction zs generalizing us with
  | nil => intro i v h; cases r; simp at h
  | cons z zs ih =>
    intro i v h
    cases r with
    | cons r1 r2 =>
      cases i with
      | zero =>
        simp at h
        subst h
        exact ⟨.inr z, rfl, r1⟩
      | succ i =>
        obtain ⟨k, h1, h2⟩ := ih r2 i v (by simpa using h)
        exact ⟨k, by simpa using h1, h2⟩
section
variable {X : Cx} {H : Hp} {Q : VK}
theorem kv_setS {p : Addr} {zs : List Str} (hc : X.calm = true) (hp : SqL X.K H p (zs.map V.str)) (hn : zs.length ≤ 2000) (h : ∀ q H2, Same H H2 → H q = none → H2 q = some (SetSO X.prog X.w q zs) → Q (.ref q) H2) : CallV X (.type "set") [.ref p] H Q := by
  refine ⟨fun vs H' Q' => vs = [.ref p] ∧ H' = H ∧ Q' = Q, ?_, rfl, rfl, rfl⟩
  rintro pins s σ H0 vs us Q0 I r ⟨rfl, rfl, rfl⟩
  rw [L2.Vals.ref1 r]
  obtain ⟨its, rv, pl, _⟩ := I.list hp
  have hl : its.length = zs.length := by rw [← rv.length, List.length_map]
  refine call_setM (P := X.prog) (w := X.w) (zs.map Sum.inr) (I.ok.hd hc) pl.isList (by rw [List.size_toArray, List.length_map]; exact hl) (fun i v e => valsK rv i v (by simpa using e)) (by rw [List.length_map]; exact Nat.lt_of_le_of_lt (show zs.length + 1 ≤ 2001 by omega) (by decide)) fun h' tk c R hc2 k => ?_
  have hn1 := I.hok.fresh (Nat.le_refl s.heap.objs.size)
  rw [List.length_map] at hc2
  exact ⟨.ref s.heap.objs.size, upd H0 s.heap.objs.size (SetSO X.prog X.w s.heap.objs.size zs), I.laid (t' := tk) k (Nat.le_refl _) (setSO_new R hc2), rfl, h _ _ (same_new hn1) hn1 upd_same⟩
theorem strs_list : ∀ (l : List Value), (∀ v ∈ l, ∃ x t, v = Value.str x t) → ∃ ss : List Str, StrsAre l ss ∧ l.map keyM = ss.map fun x => some (.inr x)
  | [], _ => ⟨[], .nil, rfl⟩
  | v :: l, h => by
    obtain ⟨x, t, rfl⟩ := h _ List.mem_cons_self
    obtain ⟨ss, h1, h2⟩ := strs_list l fun v hv => h v (List.mem_cons_of_mem _ hv)
    exact ⟨x :: ss, .cons x t h1, by rw [List.map_cons, List.map_cons, h2]; rfl⟩
theorem sorted_setS {P : Program} {w : World} {A : Around} {E : Value → Shared → Prop} {s : Shared} {a : Addr} {zs : List Str} {n : Nat} {Q : Value → Shared → Prop} (R : SetM P w s.heap a (inKs (zs.map Sum.inr)) n) (hh : A.handled = none) (few : n < 64)
    (hQ : ∀ s' p (out : Array Value) (c : Nat) (ys : List Str), (∀ b o, s.heap.get? b = some o → s'.heap.get? b = some o) → s'.gens = s.gens → s'.os = s.os → s.heap.objs.size ≤ p → s'.heap.get? p = some (seqObj "list" out c) → StrsAre out.toList ys → sortedS ys = true → ys.Nodup → (∀ z, z ∈ ys ↔ z ∈ zs) → ys.length = n → Q (.ref p) s') :
    wpAny (model P w) A (call (.builtin "sorted") [.ref a]) Q E s := by
  obtain ⟨o, es, ep, t, ho, hex, hd, g, ⟨nd, hm⟩, hb, hf, hn, hr, hl⟩ := R
  have gs : ∀ e ∈ es.toList, ∃ x t, e.2 = Value.str x t ∧ x ∈ zs := fun e he => by
    obtain ⟨k, r, _⟩ := g e he
    have e1 : keyE e = some k := keyM_rel r
    have e2 := (hm k).mpr (e1 ▸ List.mem_map_of_mem he)
    obtain ⟨x, hx, rfl⟩ := List.mem_map.mp (inKs_iff.mp e2)
    obtain ⟨t, e3⟩ := r
    exact ⟨x, t, e3, hx⟩
  refine Calls.call_function_entry kind_sorted plain_sorted entry_sorted (args_sorted1 _) ?_; unfold Builtin.«sorted»
  refine wpAny_bind (m := checkCount "sorted" 1 1 _) (wpAny_pure ?_); refine wpAny_bind (collect_set (A := A.in1) hh ⟨o, ho, hex.1, hd⟩ hf hb hr hl fun s1 vs k1 hz g1 o1 pm => ?_)
  have lv : vs.length = n := by rw [pm.length_eq, List.length_map, Array.length_toList, hn]
  obtain ⟨ss, hS, hK⟩ := strs_list vs fun v hv => by
    obtain ⟨e, he, q⟩ := List.mem_map.mp (pm.mem_iff.mp hv)
    obtain ⟨x, t, e1, _⟩ := gs e he
    exact ⟨x, t, by rw [← q]; exact e1⟩
  have pk : (ss.map fun x => some (Sum.inr x : Key)).Perm (es.toList.map keyE) := by
    have q := pm.map keyM
    rw [hK, List.map_map] at q
    exact q
  have mem : ∀ z, z ∈ ss ↔ z ∈ zs := fun z => by
    have e1 : z ∈ ss ↔ some (Sum.inr z : Key) ∈ ss.map fun x => some (Sum.inr x : Key) := by
      rw [List.mem_map]
      exact ⟨fun h => ⟨z, h, rfl⟩, fun ⟨x, h, e⟩ => by cases e; exact h⟩
    rw [e1, pk.mem_iff, ← hm, inKs_iff, List.mem_map]
    exact ⟨fun ⟨x, h, e⟩ => by cases e; exact h, fun h => ⟨z, h, rfl⟩⟩
  have nds : ss.Nodup := List.Pairwise.of_map (fun x => some (Sum.inr x : Key)) (fun a b h e => h (by rw [e])) (pk.nodup_iff.mpr nd)
  refine wpAny_bind (wpAny_newList ?_ (by rw [lv, sizeLine_eq]; omega))
  have atL : (s1.heap.push (seqObj "list" vs.toArray 0)).get? s1.heap.objs.size = some (seqObj "list" vs.toArray 0) := Heap.get?_push_size _ rfl
  refine wpAny_bind (wpAny_holding (wpAny_call_entry slot_list_sort ⟨_, atL, rfl⟩ entry_list_sort (list_sort_treeK strKind_oneLt atL hS.keysOf (fun v1 v2 rest e => keyKind_strs (by rw [← e]; exact hS)) (by rw [lv]; exact few) fun st' hp hs => ⟨_, rfl, ?_⟩) (args_list_sort _)))
  obtain ⟨ys, y1, y2, y3⟩ := sorted_out_str hS hp hs
  obtain ⟨c, hc⟩ := sortedHeap_at (vs := vs) (out := (arrOf st').map (·.2)) atL
  refine wpAny_pure ⟨_, rfl, hQ _ s1.heap.objs.size ((arrOf st').map (·.2)) c ys (fun b u e => ?_) g1 o1 hz hc y1 y3 (y2.nodup_iff.mpr nds) (fun z => y2.mem_iff.trans (mem z)) ?_⟩
  · have lt1 := Heap.lt_size (k1 b u e)
    exact (sortedHeap_old (Nat.ne_of_lt lt1) (by rw [size_push']; exact Nat.lt_succ_of_lt lt1)).trans (Heap.get?_push_of_some _ (k1 b u e))
  · rw [y2.length_eq]
    have e := pk.length_eq
    simp only [List.length_map, Array.length_toList] at e
    exact e.trans hn
theorem kv_sortedSetS {a : Addr} {zs : List Str} (hc : X.calm = true) (ha : H a = some (SetSO X.prog X.w a zs)) (few : ∃ L : List Str, L.length < 64 ∧ ∀ z ∈ zs, z ∈ L)
    (h : ∀ ys q H2, Same H H2 → H q = none → H2 q = some (.lst (ys.map V.str)) → sortedS ys = true → ys.Nodup → (∀ z, z ∈ ys ↔ z ∈ zs) → Q (.ref q) H2) : CallV X (.builtin "sorted") [.ref a] H Q := by
  refine ⟨fun vs H' Q' => vs = [.ref a] ∧ H' = H ∧ Q' = Q, ?_, rfl, rfl, rfl⟩
  rintro pins s σ H0 vs us Q0 I r ⟨rfl, rfl, rfl⟩
  rw [L2.Vals.ref1 r]
  obtain ⟨n, R, hn⟩ := (I.hok a _ ha).1
  obtain ⟨L, l1, l2⟩ := few
  have f64 : n < 64 := by
    obtain ⟨o, es, ep, t, ho, hex, hd, g, ⟨nd, hm⟩, hb, hf, en, _⟩ := R
    have q : (es.toList.map keyE).length ≤ (L.map fun z => some (Sum.inr z : Key)).length := by
      have go : ∀ {xs M : List (Option Key)}, xs.Nodup → (∀ z ∈ xs, z ∈ M) → xs.length ≤ M.length := fun {xs M} a b => by
        classical exact nodup_len a b
      refine go nd fun z hz => ?_
      obtain ⟨e, he, q⟩ := List.mem_map.mp hz
      obtain ⟨k, r, _⟩ := g e he
      have e1 : keyE e = some k := keyM_rel r
      obtain ⟨x, hx, e2⟩ := List.mem_map.mp (inKs_iff.mp ((hm k).mpr (e1 ▸ List.mem_map_of_mem he)))
      rw [← q, e1, ← e2]
      exact List.mem_map.mpr ⟨x, l2 x hx, rfl⟩
    rw [List.length_map, List.length_map, Array.length_toList] at q
    omega
  refine sorted_setS R (I.ok.hd hc) f64 fun s' p out c ys k g o hp hg hi h3 h4 h5 h6 => ?_
  have hlen : (ys.map V.str).length ≤ sizeLine := by rw [List.length_map, h6]; exact Nat.le_trans (Nat.le_of_lt f64) (by decide)
  have nn : H0 p = none := I.hok.fresh hp
  have J : Inv X pins σ (upd H0 p (.lst (ys.map V.str))) { s with heap := s'.heap, gens := s'.gens, drawn := s'.drawn, toks := s'.toks } :=
    I.call (ch := []) (Un.laid k hp nn) (I.hok.laid k hp ⟨hlen, out.toList, c, vals_of_strs hi, hg⟩) (by rw [g]; exact I.bare) (fun _ z => nomatch z)
  have e : s' = { s with heap := s'.heap, gens := s'.gens, drawn := s'.drawn, toks := s'.toks } := by
    obtain ⟨_, _, _, _, _⟩ := s'
    cases o
    rfl
  rw [e]
  exact ⟨.ref p, _, J, rfl, h ys p _ (same_new nn) nn upd_same h3 h4 h5⟩
end
theorem ltCps_iff : ∀ a b : List Nat, ltCps a b = true ↔ a < b
  | [], [] => by simp [ltCps]
  | [], b :: t => by simp [ltCps]
  | a :: r, [] => by simp [ltCps]
  | a :: r, b :: t => by
    rw [ltCps, List.cons_lt_cons_iff, Bool.or_eq_true, Bool.and_eq_true, decide_eq_true_iff, beq_iff_eq, ltCps_iff r t]
def leS (a b : Str) : Prop := ¬ b.cps.toList < a.cps.toList
theorem leS_trans {a b c : Str} (h : leS a b) (k : leS b c) : leS a c := fun q => by
  have h1 : a.cps.toList ≤ b.cps.toList := h
  have h2 : b.cps.toList ≤ c.cps.toList := k
  exact (List.le_trans h1 h2) q
theorem rising_pair : ∀ (p : Str) (l : List Str), risingS p l = true → (p :: l).Pairwise leS
  | p, [], _ => by simp
  | p, x :: r, h => by
    have h : (!ltCps x.cps.toList p.cps.toList && risingS x r) = true := h
    rw [Bool.and_eq_true, Bool.not_eq_true'] at h
    have ih := rising_pair x r h.2
    have px : leS p x := fun q => by
      have := (ltCps_iff _ _).mpr q
      rw [h.1] at this
      cases this
    refine List.pairwise_cons.mpr ⟨fun y hy => ?_, ih⟩
    rcases List.mem_cons.mp hy with e | hy
    · rw [e]; exact px
    · exact leS_trans px ((List.pairwise_cons.mp ih).1 y hy)
theorem sorted_pair : ∀ {l : List Str}, sortedS l = true → l.Pairwise leS
  | [], _ => .nil
  | x :: r, h => rising_pair x r h
theorem leS_anti {a b : Str} (h : leS a b) (k : leS b a) : a = b := by
  have e : a.cps.toList = b.cps.toList := List.le_antisymm (show a.cps.toList ≤ b.cps.toList from h) (show b.cps.toList ≤ a.cps.toList from k)
  obtain ⟨⟨x⟩⟩ := a
  obtain ⟨⟨y⟩⟩ := b
  have e : x = y := e
  rw [e]
/-- two rising lists of the same texts are one -/
theorem sortedS_uniq {ys zs : List Str} (hy : sortedS ys = true) (hz : sortedS zs = true) (ny : ys.Nodup) (nz : zs.Nodup) (h : ∀ z, z ∈ ys ↔ z ∈ zs) : ys = zs :=
  List.Perm.eq_of_pairwise (fun a b _ _ => leS_anti) (sorted_pair hy) (sorted_pair hz) ((List.perm_ext_iff_of_nodup ny nz).mpr h)
end Ax
end
section
set_option maxHeartbeats 4000000
namespace Ax
open PySem PySem.Spec PyProof.Rows L2
/-! ### a def whose code object and table of code objects are known -/
def codeAt (K : PySem.W.Frag) (f : Addr) : Addr := match K.lookup f with
  | some ⟨_, _, .func fd, _⟩ => (match fd.code with | .ref c => c | _ => 0)
  | _ => 0
theorem codeAt_eq {K : PySem.W.Frag} {f : Addr} {oc : Value} {od : Option Addr} {osl : Array (Option Value)} {fd : FuncData} {c : Addr} (lk : K.lookup f = some ⟨oc, od, .func fd, osl⟩) (e : fd.code = .ref c) : codeAt K f = c := by
  unfold codeAt
  rw [lk]
  show (match fd.code with | .ref c => c | _ => 0) = c
  rw [e]
def TxtL (K : PySem.W.Frag) (mg : Str → Option Value) (base : Heap) (P : Addr) (x : Str) (st : Stmt) : Prop := ∃ f fd, FunD K x x (defArgs st) (defBody st) (defScope st) [] [] f fd ∧ mg x = some (.ref f) ∧ LamX.TabB base mg (codeAt K f) P
theorem code_ref {K : PySem.W.Frag} {cd : Value} {q : Str} (h : PySem.W.codeIn K cd q = true) : ∃ c, cd = .ref c := by
  cases cd with
  | ref c => exact ⟨c, rfl⟩
  | _ => cases h
section
variable {P : Program} {w : World} {K : PySem.W.Frag} {mg : Str → Option Value} {base : Heap}
theorem def_okL {x : Str} {st : Stmt} {N ps : List Str} {k : Nat} {sp : Sp} {tb : Addr} (T : TxtL K mg base tb x st) (S : FnScope N ps (defScope st))
    (hb : ∀ (kV doc pm : Value) (an : Option Addr) (cdv ct : Value) (us : List Value), us.length = ps.length → bindArgs (PySem.W.fnOf x x (defArgs st) (defBody st) (defScope st) .none kV doc pm an cdv ct) ⟨us, []⟩ = pure (ps.zip us))
    (len : ∀ vs H Q E, sp vs H Q E → vs.length = ps.length)
    (body : ∀ (f c : Addr) (A : Around) (outer : List Env) (s : Shared) (H : Hp) (vs : List V) (Q : VK) (E : XK), LamX.TabB base mg c tb → Room k (A.deeper (envOfC x (defScope st) s.heap.objs.size f (.ref c))) → sp vs H Q E →
      WB (cxOf (L2.CX P w) P w K mg base N x (defScope st) f (.ref c) A outer s H E) (defBody st) { nx := fun _ H' => Q .non H', rt := Q } (start N vs) H) : Callee P w K mg base x (k + 1) ps sp := by
  obtain ⟨f, fd, F, g, tB⟩ := T
  obtain ⟨oc, od, dV, kV, doc, pm, an, cdv, ct, osl, rfl, lk, hcd, dd, kd⟩ := F.ex
  obtain ⟨c, rfl⟩ := code_ref hcd
  have e : codeAt K f = c := codeAt_eq lk rfl
  rw [e] at tB
  exact ⟨f, _, fn_of lk hcd S len fun A outer s H vs Q E hr hsp => ⟨_, WB.pss, body f c A outer s H vs Q E tB hr hsp⟩, F.bindsN hb, g, F.kp⟩
end
section
variable {X : Cx} {σ : L2.St} {H : Hp} {Q : VK}
/-- x(lambda: body), x a def of one parameter -/
theorem w_lamcall {x a : Str} {st : Stmt} {Ng : List Str} {c tb : Addr} {k : Nat} {TT : (XK → Hp → VK → Prop) → Hp → VK → Prop} {params : Arguments} {body : Expr} {scope : Scope} {p lpos pos : Pos} (R : TxtF X.K X.mg x st) (Sg : FnScope Ng [a] (defScope st))
    (hb : ∀ (kV doc pm : Value) (an : Option Addr) (cdv ct : Value) (us : List Value), us.length = [a].length → bindArgs (PySem.W.fnOf x x (defArgs st) (defBody st) (defScope st) .none kV doc pm an cdv ct) ⟨us, []⟩ = pure ([a].zip us)) (hNg : Ng[0]? = some a) (hva : Vis (defScope st) a)
    (hG : ∀ (g : Addr) (cdg : Value), LamX.GivesTo X Ng x (defScope st) g cdg (defBody st) a (X.env.qual ++ "<lambda>") TT) (TB : LamX.TabB X.base X.mg c tb) (hcode : X.env.code = .ref c) (hr : Room (k + 2) X.A) (L : LamX.LamS X.env.scope scope) (hdef : defaultsOf params X.env = ([], []))
    (hbind : ∀ (q : Str) (cl : List (Str × Addr)) (pm cv ctv : Value), bindArgs (PySem.W.kla_fn "<lambda>" q params body scope cl pm cv ctv) ⟨[], []⟩ = pure [])
    (h : LamX.TabS H tb (X.env.qual ++ "<lambda>") ∧ ∀ H1, LamX.ExtN H H1 → LamX.TabS H1 tb (X.env.qual ++ "<lambda>") → TT (fun E H' Q' => ∀ (A : Around) (outer : List Env) (s : Shared) (H0 : Hp) (f c' : Addr), Room k (A.deeper (LamX.lamEnv X scope s.heap.objs.size f c')) → W (LamX.lamCx X A outer s H0 E scope f c') body σ H' Q') H1 Q)
    (hg : Gl X x := by rfl) (hdb : (x == ("__debug__" : Str)) = false := by decide) (hd : (a == ("__debug__" : Str)) = false := by decide) (hcd : (a == ("__classdict__" : Str)) = false := by decide) : W X (.Call (.Name x p) [.Lambda params body scope lpos] [] pos) σ H Q := by
  obtain ⟨g, fd, F, gm⟩ := R
  have hbd := F.bindsN hb
  obtain ⟨oc, od, dV, kV, doc, pm, an, cdv, ct, osl, rfl, lk, hcg, dd, kd⟩ := F.ex
  refine W.of (LamX.pe_lamcall (T := [(tb, X.env.qual ++ "<lambda>")]) (TT := TT) (t := fun E σ H' Q' => ∀ (A : Around) (outer : List Env) (s : Shared) (H0 : Hp) (f c' : Addr), Room k (A.deeper (LamX.lamEnv X scope s.heap.objs.size f c')) → W (LamX.lamCx X A outer s H0 E scope f c') body σ H' Q')
    hg gm F.kp lk hcg hbd Sg hNg hva (hG g cdv) TB hcode List.mem_cons_self (fun p hp _ => by rw [List.mem_singleton.mp hp]) hr L hdef hbind (fun A outer s H0 E f c' hr' => ⟨fun pins s' σ' H' Q' I' h' => (h' A outer s H0 f c' hr').run pins s' I'⟩) hdb hd hcd) ?_
  refine ⟨fun p hp => ?_, fun H1 e t => h.2 H1 e (t _ List.mem_cons_self)⟩
  rw [List.mem_singleton.mp hp]
  exact h.1
/-- try: a() / except x: return True // return False -/
def TTref (K : PySem.W.Frag) (C : Addr) : (XK → Hp → VK → Prop) → Hp → VK → Prop := fun tl H Q =>
  tl (fun cls _ H' => ∃ b, PySem.W.exmOne K cls (.ref C) = some b ∧ (b = true → Q (.bl true) H') ∧ (b = false → False)) H fun _ H' => Q (.bl false) H'
theorem ref_gives {Ng : List Str} {x a e q : Str} {sg : Scope} {g C : Addr} {cdg : Value} {j j2 : Nat} {p1 p2 p3 p4 p5 p6 p7 p8 p9 p10 : Pos} (hge : sg.names.lookup e = some .globalImplicit) (hme : X.mg e = some (.ref C)) (hde : (e == ("__debug__" : Str)) = false) (h0 : ∀ f : Addr, (L2.start Ng [V.ref f])[0]? = some (some (V.ref f))) :
    LamX.GivesTo X Ng x sg g cdg [.Try [.Expr (.Call (.Name a p1) [] [] p2) p3] [.ExceptHandler (some (.Name e p4)) none [.Return (some (.Constant (.bool true) j p5)) p6] p7] [] [] p8, .Return (some (.Constant (.bool false) j2 p9)) p10] a q (TTref X.K C) := by
  intro f c' s H Q tl act hc h
  have hgl : Gl (cxOf C8.CX0 X.prog X.w X.K X.mg X.base Ng x sg g cdg X.A X.stack s H C8.E0).nox e := hge
  refine ⟨_, pss_cons (ps_try_only (X := (cxOf C8.CX0 X.prog X.w X.K X.mg X.base Ng x sg g cdg X.A X.stack s H C8.E0).nox) (c := .ref C) (tb := fun W D σ H => ∃ Ech : XK, (∀ cls d σ' H', Ech cls d H' → W cls d σ' H') ∧ σ[0]? = some (some (.ref f)) ∧ H c' = some (LamX.CodeO c' q) ∧ tl Ech H fun _ H' => D.nx σ H')
      rfl rfl ⟨hgl, hde, .inl hme⟩ LamX.takes0 (fun W pn xe tk _ => ?_) (fun a oe cls d pn _ _ => pss_one (ps_ret pe_bl))) (pss_one (ps_ret pe_bl)), ?_⟩
  · refine ⟨fun pins s' σ' H' D I h' => ?_⟩
    obtain ⟨Ech, hW, h1, h2, h3⟩ := h'
    exact (pss_one (ps_expr (pos := p3) (act W pn xe Ech p1 p2 tk hW))).run pins s' σ' H' D I ⟨h1, h2, h3⟩
  · exact ⟨fun cls _ H' => ∃ b, PySem.W.exmOne X.K cls (.ref C) = some b ∧ (b = true → Q (.bl true) H') ∧ (b = false → False), fun cls d σ' H' ⟨b, e1, e2, e3⟩ => ⟨b, e1, fun hb a _ => e2 hb, fun hb => e3 hb⟩, h0 f, hc, h⟩
end
/-- the codes that were made are no dice -/
theorem code_ne_dice {H : Hp} {p c : Addr} {q : Str} {n : Nat} (h1 : H c = some (LamX.CodeO c q)) (h2 : H p = some (DiceO p n)) : c ≠ p := by
  rintro rfl
  rw [h1] at h2
  injection h2 with h2
  have e : ∀ h : Heap, (∃ (x y z : Int) (its : List Value) (m : Nat), Vals [.int x, .int y, .int z] its ∧ h.get? c = some { cls := .type "list", data := .seq its.toArray m } ∧ DiceN x y z n) → ∃ (oc : Obj) (vs : Array Value) (t : Tok), h.get? c = some oc ∧ oc.data = .fields vs ∧ vs[1]? = some (.str q t) := fun h k => by
    unfold LamX.CodeO DiceO at h2
    injection h2 with h2
    have := congrFun h2 h
    rw [this]
    exact k
  let ob : Obj := { cls := .type "list", data := .seq [Value.int 0 0, Value.int 0 0, Value.int 0 0].toArray 0 }
  have hg : ({ objs := Array.replicate (c + 1) ob } : Heap).get? c = some ob := by
    unfold Heap.get?
    simp [ob]
  obtain ⟨oc, vs, t, e1, e2, e3⟩ := e { objs := Array.replicate (c + 1) ob } ⟨0, 0, 0, _, 0, .cons ⟨0, rfl⟩ (.cons ⟨0, rfl⟩ (.cons ⟨0, rfl⟩ .nil)), hg, ⟨by omega, by omega, by omega, by omega, by omega⟩⟩
  rw [hg] at e1
  cases e1
  cases e2
theorem tabS_sm {H H' : Hp} {p tb : Addr} {q : Str} {n : Nat} (s : Sm p H H') (hp : H p = some (DiceO p n)) (t : LamX.TabS H tb q) : LamX.TabS H' tb q := by
  obtain ⟨ps, h1, h2, h3⟩ := t
  refine ⟨ps, s.keep _ _ h1 ?_, h2, fun pos cv hc => ?_⟩
  · rintro rfl
    rw [hp] at h1
    cases h1
  · obtain ⟨c, e1, e2⟩ := h3 pos cv hc
    exact ⟨c, e1, s.keep _ _ e2 (code_ne_dice e2 hp)⟩
end Ax
end
section
set_option maxHeartbeats 2000000
namespace Ax
open PySem PySem.Spec PyProof.Rows L2
def top (i : Nat) : Stmt := PySem.Challenge.pw_askable_k19_sizes_of_trees.main.body.getD i (.Pass ⟨0, 0, 0, 0⟩)
abbrev s_is_name : Stmt := top 7
abbrev n_is_name : List Str := ["value", "sign"]
theorem sc_is_name : FnScope n_is_name ["value"] (defScope s_is_name) := ⟨rfl, rfl, rfl, by decide +kernel, rfl, by decide +kernel, by decide +kernel⟩
abbrev s_is_row : Stmt := top 8
abbrev n_is_row : List Str := ["value", "name"]
theorem sc_is_row : FnScope n_is_row ["value"] (defScope s_is_row) := ⟨rfl, rfl, rfl, by decide +kernel, rfl, by decide +kernel, by decide +kernel⟩
abbrev s_is_unlike : Stmt := top 13
abbrev n_is_unlike : List Str := ["value"]
theorem sc_is_unlike : FnScope n_is_unlike ["value"] (defScope s_is_unlike) := ⟨rfl, rfl, rfl, by decide +kernel, rfl, by decide +kernel, by decide +kernel⟩
abbrev s_is_atom : Stmt := top 14
abbrev n_is_atom : List Str := ["value"]
theorem sc_is_atom : FnScope n_is_atom ["value"] (defScope s_is_atom) := ⟨rfl, rfl, rfl, by decide +kernel, rfl, by decide +kernel, by decide +kernel⟩
abbrev s_is_head : Stmt := top 15
abbrev n_is_head : List Str := ["value"]
theorem sc_is_head : FnScope n_is_head ["value"] (defScope s_is_head) := ⟨rfl, rfl, rfl, by decide +kernel, rfl, by decide +kernel, by decide +kernel⟩
abbrev s_is_formed : Stmt := top 21
abbrev n_is_formed : List Str := ["value"]
theorem sc_is_formed : FnScope n_is_formed ["value"] (defScope s_is_formed) := ⟨rfl, rfl, rfl, by decide +kernel, rfl, by decide +kernel, by decide +kernel⟩
abbrev s_parts_of : Stmt := top 22
abbrev n_parts_of : List Str := ["tree", "found", "waiting", "part", "above", "inner"]
theorem sc_parts_of : FnScope n_parts_of ["tree"] (defScope s_parts_of) := ⟨rfl, rfl, rfl, by decide +kernel, rfl, by decide +kernel, by decide +kernel⟩
abbrev s_size_of : Stmt := top 23
abbrev n_size_of : List Str := ["tree"]
theorem sc_size_of : FnScope n_size_of ["tree"] (defScope s_size_of) := ⟨rfl, rfl, rfl, by decide +kernel, rfl, by decide +kernel, by decide +kernel⟩
abbrev s_height_of : Stmt := top 24
abbrev n_height_of : List Str := ["tree", "part", "above"]
theorem sc_height_of : FnScope n_height_of ["tree"] (defScope s_height_of) := ⟨rfl, rfl, rfl, by decide +kernel, rfl, by decide +kernel, by decide +kernel⟩
abbrev s_choices_of : Stmt := top 25
abbrev n_choices_of : List Str := ["tree", "part", "above"]
theorem sc_choices_of : FnScope n_choices_of ["tree"] (defScope s_choices_of) := ⟨rfl, rfl, rfl, by decide +kernel, rfl, by decide +kernel, by decide +kernel⟩
abbrev s__law_dice : Stmt := top 27
abbrev n__law_dice : List Str := ["script", "spot", "cell", "great", "blend"]
theorem sc__law_dice : FnScope n__law_dice ["script", "spot"] (defScope s__law_dice) := ⟨rfl, rfl, rfl, by decide +kernel, rfl, by decide +kernel, by decide +kernel⟩
abbrev s__law_roll : Stmt := top 28
abbrev n__law_roll : List Str := ["dice", "size", "found", "one", "two"]
theorem sc__law_roll : FnScope n__law_roll ["dice", "size"] (defScope s__law_roll) := ⟨rfl, rfl, rfl, by decide +kernel, rfl, by decide +kernel, by decide +kernel⟩
abbrev s__law_pick : Stmt := top 29
abbrev n__law_pick : List Str := ["dice", "items"]
theorem sc__law_pick : FnScope n__law_pick ["dice", "items"] (defScope s__law_pick) := ⟨rfl, rfl, rfl, by decide +kernel, rfl, by decide +kernel, by decide +kernel⟩
abbrev s__law_any_atom : Stmt := top 30
abbrev n__law_any_atom : List Str := ["dice", "names", "place"]
theorem sc__law_any_atom : FnScope n__law_any_atom ["dice"] (defScope s__law_any_atom) := ⟨rfl, rfl, rfl, by decide +kernel, rfl, by decide +kernel, by decide +kernel⟩
abbrev s__law_any_tree : Stmt := top 31
abbrev n__law_any_tree : List Str := ["dice", "high", "trees", "turn"]
theorem sc__law_any_tree : FnScope n__law_any_tree ["dice", "high"] (defScope s__law_any_tree) := ⟨rfl, rfl, rfl, by decide +kernel, rfl, by decide +kernel, by decide +kernel⟩
abbrev s__law_size : Stmt := top 32
abbrev n__law_size : List Str := ["tree", "inner"]
theorem sc__law_size : FnScope n__law_size ["tree"] (defScope s__law_size) := ⟨rfl, rfl, rfl, by decide +kernel, rfl, by decide +kernel, by decide +kernel⟩
abbrev s__law_height : Stmt := top 33
abbrev n__law_height : List Str := ["tree", "inner"]
theorem sc__law_height : FnScope n__law_height ["tree"] (defScope s__law_height) := ⟨rfl, rfl, rfl, by decide +kernel, rfl, by decide +kernel, by decide +kernel⟩
abbrev s__law_chosen : Stmt := top 34
abbrev n__law_chosen : List Str := ["tree", "found", "inner"]
theorem sc__law_chosen : FnScope n__law_chosen ["tree"] (defScope s__law_chosen) := ⟨rfl, rfl, rfl, by decide +kernel, rfl, by decide +kernel, by decide +kernel⟩
abbrev s__law_odd : Stmt := top 35
abbrev n__law_odd : List Str := ["dice", "fine", "some"]
theorem sc__law_odd : FnScope n__law_odd ["dice"] (defScope s__law_odd) := ⟨rfl, rfl, rfl, by decide +kernel, rfl, by decide +kernel, by decide +kernel⟩
abbrev s__law_spoilt : Stmt := top 36
abbrev n__law_spoilt : List Str := ["dice", "tree", "at"]
theorem sc__law_spoilt : FnScope n__law_spoilt ["dice", "tree"] (defScope s__law_spoilt) := ⟨rfl, rfl, rfl, by decide +kernel, rfl, by decide +kernel, by decide +kernel⟩
abbrev s__law_refused : Stmt := top 37
abbrev n__law_refused : List Str := ["call"]
theorem sc__law_refused : FnScope n__law_refused ["call"] (defScope s__law_refused) := ⟨rfl, rfl, rfl, by decide +kernel, rfl, by decide +kernel, by decide +kernel⟩
abbrev s__law_right : Stmt := top 38
abbrev n__law_right : List Str := ["dice", "tree", "told", "value"]
theorem sc__law_right : FnScope n__law_right ["dice"] (defScope s__law_right) := ⟨rfl, rfl, rfl, by decide +kernel, rfl, by decide +kernel, by decide +kernel⟩
abbrev s_law : Stmt := top 39
abbrev n_law : List Str := ["script", "spot", "dice", "turn", "deep", "name", "broken"]
theorem sc_law : FnScope n_law ["script"] (defScope s_law) := ⟨rfl, rfl, rfl, by decide +kernel, rfl, by decide +kernel, by decide +kernel⟩
/-- what the top has written -/
structure Txt (K : PySem.W.Frag) (mg : Str → Option Value) : Prop where
  f_is_name : TxtF K mg "is_name" s_is_name
  f_is_row : TxtF K mg "is_row" s_is_row
  f_is_unlike : TxtF K mg "is_unlike" s_is_unlike
  f_is_atom : TxtF K mg "is_atom" s_is_atom
  f_is_head : TxtF K mg "is_head" s_is_head
  f_is_formed : TxtF K mg "is_formed" s_is_formed
  f_parts_of : TxtF K mg "parts_of" s_parts_of
  f_size_of : TxtF K mg "size_of" s_size_of
  f_height_of : TxtF K mg "height_of" s_height_of
  f_choices_of : TxtF K mg "choices_of" s_choices_of
  f__law_dice : TxtF K mg "_law_dice" s__law_dice
  f__law_roll : TxtF K mg "_law_roll" s__law_roll
  f__law_pick : TxtF K mg "_law_pick" s__law_pick
  f__law_any_atom : TxtF K mg "_law_any_atom" s__law_any_atom
  f__law_any_tree : TxtF K mg "_law_any_tree" s__law_any_tree
  f__law_size : TxtF K mg "_law_size" s__law_size
  f__law_height : TxtF K mg "_law_height" s__law_height
  f__law_chosen : TxtF K mg "_law_chosen" s__law_chosen
  f__law_odd : TxtF K mg "_law_odd" s__law_odd
  f__law_spoilt : TxtF K mg "_law_spoilt" s__law_spoilt
  f__law_refused : TxtF K mg "_law_refused" s__law_refused
  f__law_right : TxtF K mg "_law_right" s__law_right
  f_law : TxtF K mg "law" s_law
  c_ALPHABET : ∃ u, mg "ALPHABET" = some u ∧ RelV (.str "abcdefghijklmnopqrstuvwxyz") u
  c_MAX_LETTERS : ∃ u, mg "MAX_LETTERS" = some u ∧ RelV (.int 8) u
  c_MAX_COLUMNS : ∃ u, mg "MAX_COLUMNS" = some u ∧ RelV (.int 3) u
  c_IN : ∃ u, mg "IN" = some u ∧ RelV (.str "in") u
  c_OUT : ∃ u, mg "OUT" = some u ∧ RelV (.str "out") u
  c_UNLIKE : ∃ u, mg "UNLIKE" = some u ∧ RelV (.str "unlike") u
  c_BROKEN : ∃ u, mg "BROKEN" = some u ∧ RelV (.str "broken") u
  c_FINE : ∃ u, mg "FINE" = some u ∧ RelV (.str "fine") u
  c_CHOOSE : ∃ u, mg "CHOOSE" = some u ∧ RelV (.str "choose") u
  c_MOST_TREES : ∃ u, mg "MOST_TREES" = some u ∧ RelV (.int 6) u
  z_ValueError : mg "ValueError" = none
  z_abs : mg "abs" = none
  z_all : mg "all" = none
  z_int : mg "int" = none
  z_isinstance : mg "isinstance" = none
  z_len : mg "len" = none
  z_max : mg "max" = none
  z_min : mg "min" = none
  z_range : mg "range" = none
  z_set : mg "set" = none
  z_sorted : mg "sorted" = none
  z_str : mg "str" = none
  z_sum : mg "sum" = none
  z_tuple : mg "tuple" = none
  e_AskError : ErrC K mg "AskError" (He.ga K "AskError")
  e_InvalidOperation : ErrC K mg "InvalidOperation" (He.ga K "InvalidOperation")
  x_AskError_InvalidOperation : PySem.W.exmOne K (.ref (He.ga K "AskError")) (.ref (He.ga K "InvalidOperation")) = some false
  x_InvalidOperation_InvalidOperation : PySem.W.exmOne K (.ref (He.ga K "InvalidOperation")) (.ref (He.ga K "InvalidOperation")) = some true
end Ax
end
section
set_option maxHeartbeats 4000000
open PySem PySem.Spec PyProof.Rows L2 Ax
set_option hygiene false in
local macro_rules | `(tactic| tbr_iter "boot") => `(tactic| with_reducible first | exact Ax.b_len | exact Ax.b_all | exact Ax.b_any | exact Ax.b_sorted | exact Ax.b_isinstance | exact Ax.b_abs | exact Ax.b_max | exact Ax.b_min | exact Ax.b_sum | exact Ax.b_repr | exact Ax.b_iter | exact Ax.b_ord | exact Ax.b_chr | exact Ax.b_str | exact Ax.b_int | exact Ax.b_bool | exact Ax.b_tuple | exact Ax.b_list | exact Ax.b_dict | exact Ax.b_set | exact Ax.b_range | exact Ax.b_enumerate | exact Ax.b_zip)
set_option hygiene false in
local macro_rules | `(tactic| tbr_iter "vis") => `(tactic| first | exact Or.inl rfl | exact Or.inr (Or.inl rfl) | exact Or.inr (Or.inr rfl))
set_option hygiene false in
local macro_rules | `(tactic| tbr_iter "w") => `(tactic| first
  | refine wb_cons ?_
  | refine wb_nil ?_
  | refine ws_ret ?_
  | refine ws_if ?_
  | refine ws_sub ?_
  | refine wa_cons ?_
  | refine wa_nil ?_
  | refine w_int ?_
  | refine w_str ?_
  | refine w_bl ?_
  | refine w_non ?_
  | tbr_iter "var"
  | refine w_bin ?_
  | refine w_cmp ?_
  | refine w_chain ?_
  | refine w_and ?_
  | refine w_or ?_
  | refine w_one ?_
  | refine w_not ?_
  | refine w_ix ?_
  | refine w_ifExp ?_
  | refine w_tup ?_
  | refine w_lst ?_
  | refine wt_not ?_
  | refine wt_bool ?_
  | refine ww_and ?_
  | refine ww_and1 ?_
  | refine ww_or ?_
  | refine ww_or1 ?_
  | refine wt_cmp ?_
  | refine wt_val ?_
  | tbr_iter "call"
  | (refine w_glob (by tbr_iter "mg") ?_)
  | (refine w_callB (by tbr_iter "z") ?_)
  | (refine w_callTy (by tbr_iter "z") ?_)
  | (refine w_bltT (by tbr_iter "z") ?_))
set_option hygiene false in
local macro_rules | `(tactic| tbr_iter "blk") => `(tactic| first | exact blkOk_by (by dsimp only [cxOf, envOfC]; decide +kernel))
set_option hygiene false in
local macro_rules | `(tactic| tbr_iter "iff") => `(tactic| first
  | refine iteT ?_
  | refine iteF ?_
  | refine w_if2 (fun _ => ?_) (fun _ => ?_))
set_option hygiene false in
local macro_rules | `(tactic| tbr_iter "sc") => `(tactic| first | omega | decide)
set_option hygiene false in
local macro_rules | `(tactic| tbr_iter "at") => `(tactic| first | exact atI_0 | exact atI_1 | exact atI_2)
set_option hygiene false in
local macro_rules | `(tactic| tbr_iter "sql") => `(tactic| ((try dsimp only [L2.cxOf, L2.Cx.blk]); with_reducible first | assumption | exact SqL.of (by assumption)))
set_option hygiene false in
local macro_rules | `(tactic| tbr_iter "sqt") => `(tactic| ((try dsimp only [L2.cxOf, L2.Cx.blk]); with_reducible first | assumption | exact SqT.of (by assumption)))
set_option hygiene false in
local macro_rules | `(tactic| tbr_iter "v") => `(tactic| first
  | refine bv_add ?_
  | refine bv_sub ?_
  | ((with_reducible show BinV _ .Mult _ _ _ _); refine bv_mul (Or.inl ⟨by tbr_iter "sc", by tbr_iter "sc"⟩) ?_)
  | ((with_reducible show BinV _ .Mult _ _ _ _); refine bv_mul (Or.inr ⟨by tbr_iter "sc", by tbr_iter "sc"⟩) ?_)
  | ((with_reducible show BinV _ .Mod _ _ _ _); refine bv_mod (by tbr_iter "sc") ?_)
  | ((with_reducible show BinV _ .FloorDiv _ _ _ _); refine bv_fdiv ⟨by tbr_iter "sc", by tbr_iter "sc"⟩ ?_)
  | ((with_reducible show BinV _ .Pow _ _ _ _); refine bv_pow ⟨by decide, by decide +kernel⟩ ?_)
  | refine cv_lt ?_
  | refine cv_le ?_
  | refine cv_gt ?_
  | refine cv_ge ?_
  | ((with_reducible show CmpV _ .Eq _ _ _ _); refine cv_eq rfl ?_)
  | ((with_reducible show CmpV _ .NotEq _ _ _ _); refine cv_ne rfl ?_)
  | refine iv_list (by tbr_iter "sql") (by tbr_iter "at") ?_
  | refine iv_tup (by tbr_iter "sqt") (by tbr_iter "at") ?_
  | refine kv_len_seq (Or.inl (by tbr_iter "sql")) ?_
  | refine kv_len_seq (Or.inr (by tbr_iter "sqt")) ?_
  | refine kv_int ?_
  | refine kv_intB ?_
  | refine kv_abs ?_
  | refine kv_max2 rfl ?_
  | refine kv_min2 rfl ?_)
set_option hygiene false in
local macro_rules | `(tactic| tbr_iter "b") => `(tactic| first
  | refine ⟨_, rfl, iteT ?_⟩
  | refine ⟨_, rfl, iteF ?_⟩
  | refine iteT ?_
  | refine iteF ?_)
set_option hygiene false in
local macro_rules | `(tactic| tbr_iter "go") => `(tactic| repeat (first | tbr_iter "w" | tbr_iter "v" | tbr_iter "b"))
set_option hygiene false in
local macro_rules | `(tactic| tbr_iter "nof") => `(tactic| (intro d hd; cases d <;> first | rfl | exact absurd rfl (hd _)))
set_option hygiene false in
local macro_rules | `(tactic| tbr_iter "e1") => `(tactic| first | ((with_reducible show W _ _ _ _ _); tbr_iter "w") | ((with_reducible show WA _ _ _ _ _); tbr_iter "w") | ((with_reducible show WT _ _ _ _ _); tbr_iter "w") | ((with_reducible show WW _ _ _ _ _); tbr_iter "w") | tbr_iter "v")
set_option hygiene false in
local macro_rules | `(tactic| tbr_iter "ex") => `(tactic| repeat (tbr_iter "e1"))
set_option hygiene false in
local macro_rules | `(tactic| tbr_iter "z") => `(tactic| ((try dsimp only [L2.cxOf]); with_reducible first | exact T.z_ValueError | exact T.z_abs | exact T.z_all | exact T.z_int | exact T.z_isinstance | exact T.z_len | exact T.z_max | exact T.z_min | exact T.z_range | exact T.z_set | exact T.z_sorted | exact T.z_str | exact T.z_sum | exact T.z_tuple))
set_option hygiene false in
local macro_rules | `(tactic| tbr_iter "mg") => `(tactic| ((try dsimp only [L2.cxOf]); with_reducible first | exact T.c_ALPHABET | exact T.c_MAX_LETTERS | exact T.c_MAX_COLUMNS | exact T.c_IN | exact T.c_OUT | exact T.c_UNLIKE | exact T.c_BROKEN | exact T.c_FINE | exact T.c_CHOOSE | exact T.c_MOST_TREES))
namespace Ax
section
variable {P : Program} {w : World} {K : PySem.W.Frag} {mg : Str → Option Value} {base : Heap}
set_option hygiene false in
local macro_rules | `(tactic| tbr_iter "var") => `(tactic| first | ((with_reducible show W _ (.Name "script" _) _ _ _); refine w_var 0 rfl (by tbr_iter "vis") rfl ?_) | ((with_reducible show W _ (.Name "spot" _) _ _ _); refine w_var 1 rfl (by tbr_iter "vis") rfl ?_) | ((with_reducible show W _ (.Name "cell" _) _ _ _); refine w_var 2 rfl (by tbr_iter "vis") rfl ?_) | ((with_reducible show W _ (.Name "great" _) _ _ _); refine w_var 3 rfl (by tbr_iter "vis") rfl ?_) | ((with_reducible show W _ (.Name "blend" _) _ _ _); refine w_var 4 rfl (by tbr_iter "vis") rfl ?_))
set_option hygiene false in
local macro_rules | `(tactic| tbr_iter "set") => `(tactic| first | ((with_reducible show WB _ (.Assign [.Name "script" _] _ _ :: _) _ _ _); refine wb_cons (ws_set 0 ?_ rfl nd)) | ((with_reducible show WB _ (.Assign [.Name "spot" _] _ _ :: _) _ _ _); refine wb_cons (ws_set 1 ?_ rfl nd)) | ((with_reducible show WB _ (.Assign [.Name "cell" _] _ _ :: _) _ _ _); refine wb_cons (ws_set 2 ?_ rfl nd)) | ((with_reducible show WB _ (.Assign [.Name "great" _] _ _ :: _) _ _ _); refine wb_cons (ws_set 3 ?_ rfl nd)) | ((with_reducible show WB _ (.Assign [.Name "blend" _] _ _ :: _) _ _ _); refine wb_cons (ws_set 4 ?_ rfl nd)))
theorem ok_law_dice (T : Txt K mg) : Callee P w K mg base "_law_dice" 2 ["script", "spot"] (spDice K) := by
  refine def_ok T.f__law_dice sc__law_dice (fun _ _ _ _ _ _ us hl => match us, hl with | [_, _], _ => rfl) (fun vs H Q E h => ?_) fun f cdv A outer s H vs Q E hr h => ?_
  · obtain ⟨a, ns, j, rfl, _⟩ := h; rfl
  obtain ⟨a, ns, j, rfl, hs, hl, hj, k⟩ := h
  have nd := sc__law_dice.nd
  refine wb_cons (ws_set 2 ?_ rfl nd)
  refine W.mono (Q := fun v H1 => Same H H1 ∧ ∃ c, v = .int c) ?_ ?_
  · refine w_ifExp (wt_cmp ?_)
    tbr_iter "var"
    refine w_callB T.z_len (wa_cons ?_)
    tbr_iter "var"
    refine wa_nil (kv_len_seq (.inl hs) (cv_lt ⟨_, rfl, w_if2 (fun c => ?_) (fun c => ?_)⟩))
    · refine w_ix ?_
      tbr_iter "var"
      tbr_iter "var"
      have lt : j < ns.length := by simpa using c
      refine iv_list hs (v := .int ns[j]) ?_ ⟨Same.refl _, _, rfl⟩
      exact atI_nat (by simp [lt])
    · refine w_bin (w_bin (w_int ?_))
      tbr_iter "var"
      exact bv_mul (.inl ⟨by decide, by decide⟩) (w_int (bv_add ⟨Same.refl _, _, rfl⟩))
  rintro v H1 ⟨s1, c, rfl⟩
  refine wb_cons (ws_set 3 (w_bin (w_callTy T.z_int (wa_cons (w_callB T.z_abs (wa_cons ?_))))) rfl nd)
  tbr_iter "var"
  refine wa_nil (kv_abs (wa_nil (kv_int (w_bin (w_bin (w_int (w_int (bv_pow ⟨by decide, by decide +kernel⟩ (w_int (bv_pow ⟨by decide, by decide +kernel⟩ (bv_mod (by decide +kernel) ?_)))))))))))
  have g0 : 0 ≤ (if c < 0 then -c else c) % ((10 : Int) ^ (57 : Int).toNat) ^ (11 : Int).toNat := Int.emod_nonneg _ (by decide +kernel)
  revert g0
  generalize (if c < 0 then -c else c) % ((10 : Int) ^ (57 : Int).toNat) ^ (11 : Int).toNat = g
  intro g0
  tbr_iter "set"
  tbr_iter "ex"
  refine wb_cons (ws_ret (w_dice ?_))
  tbr_iter "go"
  refine ⟨three_line, fun p H2 s2 n2 hp => ⟨p, _, _, _, 0, hp, ⟨?_, ?_, ?_, ?_, ?_⟩, k p _ ?_ (same_nul s1 n2) upd_same⟩⟩
  · split <;> omega
  · exact Int.emod_nonneg _ (by decide)
  · exact Int.lt_trans (Int.emod_lt_of_pos _ (by decide)) (by decide)
  · exact Int.le_refl _
  · exact Int.le_refl _
  · exact same_upd (s1.trans s2) (same_nul s1 n2)
set_option hygiene false in
local macro_rules | `(tactic| tbr_iter "var") => `(tactic| first | ((with_reducible show W _ (.Name "dice" _) _ _ _); refine w_var 0 rfl (by tbr_iter "vis") rfl ?_) | ((with_reducible show W _ (.Name "size" _) _ _ _); refine w_var 1 rfl (by tbr_iter "vis") rfl ?_) | ((with_reducible show W _ (.Name "found" _) _ _ _); refine w_var 2 rfl (by tbr_iter "vis") rfl ?_) | ((with_reducible show W _ (.Name "one" _) _ _ _); refine w_var 3 rfl (by tbr_iter "vis") rfl ?_) | ((with_reducible show W _ (.Name "two" _) _ _ _); refine w_var 4 rfl (by tbr_iter "vis") rfl ?_))
set_option hygiene false in
local macro_rules | `(tactic| tbr_iter "set") => `(tactic| first | ((with_reducible show WB _ (.Assign [.Name "dice" _] _ _ :: _) _ _ _); refine wb_cons (ws_set 0 ?_ rfl nd)) | ((with_reducible show WB _ (.Assign [.Name "size" _] _ _ :: _) _ _ _); refine wb_cons (ws_set 1 ?_ rfl nd)) | ((with_reducible show WB _ (.Assign [.Name "found" _] _ _ :: _) _ _ _); refine wb_cons (ws_set 2 ?_ rfl nd)) | ((with_reducible show WB _ (.Assign [.Name "one" _] _ _ :: _) _ _ _); refine wb_cons (ws_set 3 ?_ rfl nd)) | ((with_reducible show WB _ (.Assign [.Name "two" _] _ _ :: _) _ _ _); refine wb_cons (ws_set 4 ?_ rfl nd)))
theorem ok_law_roll (T : Txt K mg) : Callee P w K mg base "_law_roll" 2 ["dice", "size"] spRoll := by
  refine def_ok T.f__law_roll sc__law_roll (fun _ _ _ _ _ _ us hl => match us, hl with | [_, _], _ => rfl) (fun vs H Q E h => ?_) fun f cdv A outer s H vs Q E hr h => ?_
  · obtain ⟨p, n, k, rfl, _⟩ := h; rfl
  obtain ⟨p, n, m, rfl, hp, hn, m0, m1, k⟩ := h
  have nd := sc__law_roll.nd
  refine wb_dice hp fun x y z d => ?_
  have d0 := d.x0
  have d1 := d.y0
  have d2 := d.y1
  have d3 := d.z0
  have d4 := d.z1
  have hL : SqL K (upd H p (.lst [.int x, .int y, .int z])) p [.int x, .int y, .int z] := SqL.of upd_same
  tbr_iter "go"
  refine ⟨_, rfl, w_if2 (fun c => ?_) (fun c => ?_)⟩
  · tbr_iter "set"
    tbr_iter "go"
    refine sv_list upd_same rfl ?_
    refine wb_cons (ws_ret (w_dice ?_))
    tbr_iter "go"
    refine ⟨p, _, _, _, n + 1, upd_same, ⟨?_, d1, d2, d3, by omega⟩, ?_⟩
    · exact Int.ediv_nonneg d0 (by omega)
    · rw [upd_upd, upd_upd]
      exact k _ _ (Sm.refl hp).upd upd_same (Int.emod_nonneg _ (by omega)) (Int.emod_lt_of_pos _ m0)
  · tbr_iter "go"
    refine sv_list upd_same rfl ?_
    rw [upd_upd]
    show WB _ _ _ _ (upd H p (.lst [.int x, .int y, .int (z + 1)]))
    clear hL
    have hL : SqL K (upd H p (.lst [.int x, .int y, .int (z + 1)])) p [.int x, .int y, .int (z + 1)] := SqL.of upd_same
    tbr_iter "set"
    tbr_iter "ex"
    have o0 := Int.emod_nonneg (y + 479001599 * (z + 1)) (show (72057594037927931 : Int) ≠ 0 by decide)
    have o1 := Int.emod_lt_of_pos (y + 479001599 * (z + 1)) (show (0 : Int) < 72057594037927931 by decide)
    revert o0 o1
    generalize (y + 479001599 * (z + 1)) % 72057594037927931 = one
    intro o0 o1
    tbr_iter "set"
    tbr_iter "ex"
    have t0 : 0 ≤ one * one % 36028797018963913 * one + 1299709 * (z + 1) := Int.add_nonneg (Int.mul_nonneg (Int.emod_nonneg _ (by decide)) o0) (by omega)
    have t1 : one * one % 36028797018963913 * one + 1299709 * (z + 1) < 2 ^ 130 := by
      have e1 : one * one % 36028797018963913 < 36028797018963913 := Int.emod_lt_of_pos _ (by decide)
      have e2 : one * one % 36028797018963913 * one ≤ 36028797018963913 * 72057594037927931 := Int.mul_le_mul (Int.le_of_lt e1) (Int.le_of_lt o1) o0 (by decide)
      omega
    revert t0 t1
    generalize one * one % 36028797018963913 * one + 1299709 * (z + 1) = two
    intro t0 t1
    have tn : two.natAbs < 2 ^ 130 := by omega
    refine wb_cons (ws_ret (w_dice ?_))
    tbr_iter "go"
    refine bv_mulW (wide_mul tn tn (by decide) (by decide) (by decide)) ?_
    tbr_iter "go"
    refine ⟨p, _, _, _, n + 1, upd_same, ⟨d0, d1, d2, by omega, by omega⟩, ?_⟩
    rw [upd_upd]
    exact k _ _ (Sm.refl hp).upd upd_same (Int.emod_nonneg _ (by omega)) (Int.emod_lt_of_pos _ m0)
set_option hygiene false in
local macro_rules | `(tactic| tbr_iter "var") => `(tactic| first | ((with_reducible show W _ (.Name "dice" _) _ _ _); refine w_var 0 rfl (by tbr_iter "vis") rfl ?_) | ((with_reducible show W _ (.Name "items" _) _ _ _); refine w_var 1 rfl (by tbr_iter "vis") rfl ?_))
set_option hygiene false in
local macro_rules | `(tactic| tbr_iter "set") => `(tactic| first | ((with_reducible show WB _ (.Assign [.Name "dice" _] _ _ :: _) _ _ _); refine wb_cons (ws_set 0 ?_ rfl nd)) | ((with_reducible show WB _ (.Assign [.Name "items" _] _ _ :: _) _ _ _); refine wb_cons (ws_set 1 ?_ rfl nd)))
theorem ok_law_pick (T : Txt K mg) : Callee P w K mg base "_law_pick" 3 ["dice", "items"] (spPick K) := by
  refine def_ok T.f__law_pick sc__law_pick (fun _ _ _ _ _ _ us hl => match us, hl with | [_, _], _ => rfl) (fun vs H Q E h => ?_) fun f cdv A outer s H vs Q E hr h => ?_
  · obtain ⟨p, l, n, xs, rfl, _⟩ := h; rfl
  obtain ⟨p, l, n, xs, rfl, hp, hn, hs, hne, hlen, k⟩ := h
  have nd := sc__law_pick.nd
  refine wb_cons (ws_ret (w_ix ?_))
  tbr_iter "ex"
  refine w_call (ok_law_roll T) hr passL ?_
  tbr_iter "ex"
  have h0 : 0 < xs.length := List.length_pos_iff.mpr hne
  refine ⟨p, n, _, rfl, hp, hn, by omega, by omega, fun r H1 s1 hp1 r0 r1 => ?_⟩
  have hi : r.toNat < xs.length := by omega
  exact iv_list (s1.seq hs) (atI_int r0 hi) (k _ (List.getElem_mem hi) _ s1 hp1)
end
end Ax

namespace Ax
def alpha : Str := "abcdefghijklmnopqrstuvwxyz"
def isNameS (z : Str) : Bool := decide (0 < z.length) && (decide (z.length ≤ 8) && z.cps.toList.all fun c => decide (c ∈ alpha.cps.toList))
def isNameD : PyData → Bool
  | .str z => isNameS z
  | _ => false
def isNameV : V → Bool
  | .str z => isNameS z
  | _ => false
theorem nameDV {K : PySem.W.Frag} {H : Hp} {v : V} {d : PyData} (h : Dp K H v d) : isNameD d = isNameV v := by cases h <;> rfl
theorem nameAll {K : PySem.W.Frag} {H : Hp} : ∀ {ds : List PyData} {vs : List V}, DpAll K H vs ds → vs.all isNameV = ds.all isNameD
  | [], _, h => by cases h; rfl
  | d :: ds, _, h => by
    cases h with
    | cons h1 h2 => rw [List.all_cons, List.all_cons, nameAll h2, nameDV h1]
def isRowD : PyData → Bool
  | .tuple ds => ds.all isNameD
  | _ => false
/-- a def that looks at any value -/
def spAny (K : PySem.W.Frag) (f : PyData → Bool) : Sp := fun vs H Q _ => ∃ v o, vs = [v] ∧ AnyV K H v o ∧ ∀ H', Same H H' → Q (.bl (o.any f)) H'
theorem signs_name (z : Str) : ((signsV z).all fun v => match v with | .str s => s.cps.toList.all fun c => decide (c ∈ alpha.cps.toList) | _ => false) = z.cps.toList.all fun c => decide (c ∈ alpha.cps.toList) := by
  unfold signsV
  rw [List.all_map]
  congr 1
  funext c
  simp
section
variable {P : Program} {w : World} {K : PySem.W.Frag} {mg : Str → Option Value} {base : Heap}
set_option hygiene false in
local macro_rules | `(tactic| tbr_iter "var") => `(tactic| first | ((with_reducible show W _ (.Name "value" _) _ _ _); refine w_var 0 rfl (by tbr_iter "vis") rfl ?_) | ((with_reducible show W _ (.Name "sign" _) _ _ _); refine w_var 1 rfl (by tbr_iter "vis") rfl ?_))
set_option hygiene false in
local macro_rules | `(tactic| tbr_iter "set") => `(tactic| first | ((with_reducible show WB _ (.Assign [.Name "value" _] _ _ :: _) _ _ _); refine wb_cons (ws_set 0 ?_ rfl nd)) | ((with_reducible show WB _ (.Assign [.Name "sign" _] _ _ :: _) _ _ _); refine wb_cons (ws_set 1 ?_ rfl nd)))
theorem ok_is_name (T : Txt K mg) : Callee P w K mg base "is_name" 1 ["value"] (spAny K isNameD) := by
  refine def_ok T.f_is_name sc_is_name (fun _ _ _ _ _ _ us hl => match us, hl with | [_], _ => rfl) (fun vs H Q E h => ?_) fun f cdv A outer s H vs Q E hr h => ?_
  · obtain ⟨v, o, rfl, _⟩ := h; rfl
  obtain ⟨v, o, rfl, a, k⟩ := h
  have nd := sc_is_name.nd
  tbr_iter "go"
  refine kv_isiA a (by decide) ⟨_, rfl, w_if2 (fun c => ?_) (fun c => ?_)⟩
  · cases a with
    | oth => cases c
    | @dat d hd ok =>
      rw [isiO_str] at c
      cases hd <;> first | cases c | skip
      rename_i z
      have hz := okD.str ok
      tbr_iter "go"
      refine kv_len_str hz ?_
      tbr_iter "go"
      refine ⟨_, rfl, w_if2 (fun c1 => ?_) (fun c1 => ?_)⟩
      · tbr_iter "go"
        refine ⟨_, rfl, w_if2 (fun c2 => ?_) (fun c2 => ?_)⟩
        · refine w_one ?_
          refine w_allLc 1 (fun v => match v with | .str s => s.cps.toList.all fun c => decide (c ∈ alpha.cps.toList) | _ => false) T.z_all rfl nd (by tbr_iter "blk") rfl (fun _ _ _ _ _ => ⟨Or.inl rfl, Or.inr rfl⟩) (wi_val ?_)
          tbr_iter "go"
          refine itv_str ⟨_, seqIt_str, ?_, fun v hv H2 s2 _ _ _ _ _ => ?_, fun H2 s2 => ?_⟩
          · have e : (signsV z).length = z.length := by simp [signsV, Str.length]
            have c2 : (z.length : Int) ≤ 8 := of_decide_eq_true c2
            rw [e]
            exact Nat.lt_of_le_of_lt (show z.length ≤ 8 by omega) (by decide)
          · obtain ⟨c, _, rfl⟩ := List.mem_map.mp hv
            tbr_iter "go"
            refine cv_inSign ⟨Same.refl _, ?_⟩
            simp [alpha]
          · have c1 : (0 : Int) < z.length := of_decide_eq_true c1
            have c2 : (z.length : Int) ≤ 8 := of_decide_eq_true c2
            refine qb (k H2 s2) ?_
            rw [signs_name]
            show (decide (0 < z.length) && (decide (z.length ≤ 8) && _)) = _
            rw [decide_eq_true (show 0 < z.length by omega), decide_eq_true (show z.length ≤ 8 by omega)]
            rfl
        · have c2 : ¬ (z.length : Int) ≤ 8 := of_decide_eq_false c2
          refine qb (k H (Same.refl _)) ?_
          show (_ && (decide (z.length ≤ 8) && _)) = _
          rw [decide_eq_false (show ¬ z.length ≤ 8 by omega), Bool.false_and, Bool.and_false]
      · have c1 : ¬ (0 : Int) < z.length := of_decide_eq_false c1
        refine ⟨_, rfl, iteF (qb (k H (Same.refl _)) ?_)⟩
        show (decide (0 < z.length) && _) = _
        rw [decide_eq_false (show ¬ 0 < z.length by omega), Bool.false_and]
  · have e := k H (Same.refl _)
    cases a with
    | oth => exact e
    | @dat d hd ok =>
      rw [isiO_str] at c
      cases hd <;> first | exact e | cases c
set_option hygiene false in
local macro_rules | `(tactic| tbr_iter "var") => `(tactic| first | ((with_reducible show W _ (.Name "value" _) _ _ _); refine w_var 0 rfl (by tbr_iter "vis") rfl ?_) | ((with_reducible show W _ (.Name "name" _) _ _ _); refine w_var 1 rfl (by tbr_iter "vis") rfl ?_))
set_option hygiene false in
local macro_rules | `(tactic| tbr_iter "set") => `(tactic| first | ((with_reducible show WB _ (.Assign [.Name "value" _] _ _ :: _) _ _ _); refine wb_cons (ws_set 0 ?_ rfl nd)) | ((with_reducible show WB _ (.Assign [.Name "name" _] _ _ :: _) _ _ _); refine wb_cons (ws_set 1 ?_ rfl nd)))
theorem ok_is_row (T : Txt K mg) : Callee P w K mg base "is_row" 2 ["value"] (spAny K isRowD) := by
  refine def_ok T.f_is_row sc_is_row (fun _ _ _ _ _ _ us hl => match us, hl with | [_], _ => rfl) (fun vs H Q E h => ?_) fun f cdv A outer s H vs Q E hr h => ?_
  · obtain ⟨v, o, rfl, _⟩ := h; rfl
  obtain ⟨v, o, rfl, a, k⟩ := h
  have nd := sc_is_row.nd
  tbr_iter "go"
  refine kv_isiA a (by decide) ⟨_, rfl, w_if2 (fun c => ?_) (fun c => ?_)⟩
  · cases a with
    | oth => cases c
    | @dat d hd ok =>
      rw [isiO_tuple] at c
      cases hd <;> first | cases c | skip
      rename_i p xs ds hx ha
      refine w_one ?_
      refine w_allLc 1 isNameV T.z_all rfl nd (by tbr_iter "blk") rfl (fun _ _ _ _ _ => ⟨Or.inl rfl, Or.inr rfl⟩) (wi_val ?_)
      tbr_iter "go"
      refine itv_tup hx ⟨_, seqIt_tup hx, ?_, fun v hv H2 s2 _ _ _ _ _ => ?_, fun H2 s2 => ?_⟩
      · rw [dpa_len ha]; exact okD.len ok
      · obtain ⟨i, hi⟩ := List.mem_iff_getElem?.mp hv
        obtain ⟨d, h1, h2⟩ := dpa_get ha hi
        have okd := okD.item ok d (List.mem_of_getElem? h1)
        refine w_call (ok_is_name T) (hr.mono (by decide)) passL ?_
        tbr_iter "go"
        refine ⟨v, some d, rfl, .dat (dp_same s2 h2) okd, fun H3 s3 => ⟨s3, ?_⟩⟩
        rw [← nameDV h2]
        rfl
      · have e := k H2 s2
        rw [nameAll ha]
        exact e
  · have e := k H (Same.refl _)
    cases a with
    | oth => exact e
    | @dat d hd ok =>
      rw [isiO_tuple] at c
      cases hd <;> first | exact e | cases c
set_option hygiene false in
local macro_rules | `(tactic| tbr_iter "var") => `(tactic| first | ((with_reducible show W _ (.Name "value" _) _ _ _); refine w_var 0 rfl (by tbr_iter "vis") rfl ?_))
set_option hygiene false in
local macro_rules | `(tactic| tbr_iter "set") => `(tactic| first | ((with_reducible show WB _ (.Assign [.Name "value" _] _ _ :: _) _ _ _); refine wb_cons (ws_set 0 ?_ rfl nd)))
def isHeadD : PyData → Bool
  | .tuple ds => ds.all isNameD && decide (ds.length ≤ 3)
  | _ => false
theorem ok_is_head (T : Txt K mg) : Callee P w K mg base "is_head" 3 ["value"] (spAny K isHeadD) := by
  refine def_ok T.f_is_head sc_is_head (fun _ _ _ _ _ _ us hl => match us, hl with | [_], _ => rfl) (fun vs H Q E h => ?_) fun f cdv A outer s H vs Q E hr h => ?_
  · obtain ⟨v, o, rfl, _⟩ := h; rfl
  obtain ⟨v, o, rfl, a, k⟩ := h
  have nd := sc_is_head.nd
  tbr_iter "go"
  refine w_call (ok_is_row T) hr passL ?_
  tbr_iter "go"
  refine ⟨v, o, rfl, a, fun H1 s1 => ⟨_, rfl, w_if2 (fun c => ?_) (fun c => ?_)⟩⟩
  · cases a with
    | oth => cases c
    | @dat d hd ok =>
      cases hd <;> first | cases c | skip
      rename_i p xs ds hx ha
      have c : ds.all isNameD = true := c
      have hx1 := same_tup s1 hx
      tbr_iter "go"
      refine qb (k H1 s1) ?_
      show (ds.all isNameD && decide (ds.length ≤ 3)) = _
      rw [c, Bool.true_and, dpa_len ha, Bool.eq_iff_iff, decide_eq_true_iff, decide_eq_true_iff]
      omega
  · refine qb (k H1 s1) ?_
    cases a with
    | oth => rfl
    | @dat d hd ok =>
      cases d <;> first | rfl | skip
      rename_i ds
      have c : ds.all isNameD = false := c
      show (ds.all isNameD && _) = _
      rw [c]
      rfl
set_option hygiene false in
local macro_rules | `(tactic| tbr_iter "var") => `(tactic| first | ((with_reducible show W _ (.Name "value" _) _ _ _); refine w_var 0 rfl (by tbr_iter "vis") rfl ?_))
set_option hygiene false in
local macro_rules | `(tactic| tbr_iter "set") => `(tactic| first | ((with_reducible show WB _ (.Assign [.Name "value" _] _ _ :: _) _ _ _); refine wb_cons (ws_set 0 ?_ rfl nd)))
def isStrD (p : Str → Bool) : PyData → Bool
  | .str z => p z
  | _ => false
def isUnlikeD : PyData → Bool
  | .tuple ds => decide (ds.length = 3) && (ds[0]?.any (isStrD fun z => decide (z = "unlike")) && (ds[1]?.any isNameD && ds[2]?.any isNameD))
  | _ => false
theorem three_of {α : Type} {xs : List α} (h : xs.length = 3) : ∃ a b c, xs = [a, b, c] := by
  match xs, h with
  | [a, b, c], _ => exact ⟨a, b, c, rfl⟩
theorem ok_is_unlike (T : Txt K mg) : Callee P w K mg base "is_unlike" 3 ["value"] (spAny K isUnlikeD) := by
  refine def_ok T.f_is_unlike sc_is_unlike (fun _ _ _ _ _ _ us hl => match us, hl with | [_], _ => rfl) (fun vs H Q E h => ?_) fun f cdv A outer s H vs Q E hr h => ?_
  · obtain ⟨v, o, rfl, _⟩ := h; rfl
  obtain ⟨v, o, rfl, a, k⟩ := h
  have nd := sc_is_unlike.nd
  have e := k H (Same.refl _)
  tbr_iter "go"
  refine kv_isiA a (by decide) ?_
  cases a with
  | oth =>
    refine ⟨_, rfl, iteT ?_⟩
    tbr_iter "go"
    exact e
  | @dat d hd ok =>
    rw [isiO_tuple]
    cases hd <;> first | (refine ⟨_, rfl, iteT ?_⟩; tbr_iter "go"; exact e) | skip
    rename_i p xs ds hx ha
    refine ⟨_, rfl, iteF ?_⟩
    tbr_iter "go"
    have l3 := dpa_len ha
    refine ⟨_, rfl, w_if2 (fun c => ?_) (fun c => ?_)⟩
    · have c : ¬ (xs.length : Int) = 3 := by simpa using c
      tbr_iter "go"
      refine qb e ?_
      show (decide (ds.length = 3) && _) = false
      rw [decide_eq_false (by omega), Bool.false_and]
    · have c : (xs.length : Int) = 3 := by simpa using c
      obtain ⟨x, y, z, rfl⟩ := three_of (xs := xs) (by omega)
      obtain ⟨da, db, dc, rfl⟩ := three_of (xs := ds) (by omega)
      clear c l3
      cases ha with
      | cons h1 ha =>
      cases ha with
      | cons h2 ha =>
      cases ha with
      | cons h3 ha =>
      have o1 := okD.item ok da (by simp)
      have o2 := okD.item ok db (by simp)
      have o3 := okD.item ok dc (by simp)
      tbr_iter "go"
      refine kv_isiA (.dat h1 o1) (by decide) ?_
      rw [isiO_str]
      cases h1 <;> first | (refine ⟨_, rfl, iteT ?_⟩; tbr_iter "go"; exact qb e rfl) | skip
      rename_i sg
      refine ⟨_, rfl, iteF ?_⟩
      tbr_iter "go"
      refine ⟨_, rfl, w_if2 (fun q => ?_) (fun q => ?_)⟩
      · refine w_and ?_
        refine w_call (ok_is_name T) (hr.mono (by decide)) passL ?_
        tbr_iter "go"
        refine ⟨y, some db, rfl, .dat h2 o2, fun H1 s1 => ⟨_, rfl, w_if2 (fun q2 => ?_) (fun q2 => ?_)⟩⟩
        · have hx1 := same_tup s1 hx
          refine w_one ?_
          refine w_call (ok_is_name T) (hr.mono (by decide)) passL ?_
          tbr_iter "go"
          refine ⟨z, some dc, rfl, .dat (dp_same s1 h3) o3, fun H2 s2 => qb (k H2 (s1.trans s2)) ?_⟩
          have q : sg = ("unlike" : Str) := by simpa using q
          have q2 : isNameD db = true := q2
          show (decide (sg = ("unlike" : Str)) && (isNameD db && isNameD dc)) = isNameD dc
          rw [q2, decide_eq_true q]
          rfl
        · have q2 : isNameD db = false := q2
          refine qb (k H1 s1) ?_
          show (_ && (isNameD db && _)) = false
          rw [q2, Bool.false_and, Bool.and_false]
      · have q : ¬ sg = ("unlike" : Str) := by simpa using q
        refine qb e ?_
        show (decide (sg = ("unlike" : Str)) && _) = false
        rw [decide_eq_false q, Bool.false_and]
end
end Ax
end
section
set_option maxHeartbeats 4000000
open PySem PySem.Spec PyProof.Rows L2 Ax
set_option hygiene false in
local macro_rules | `(tactic| tbr_iter "boot") => `(tactic| with_reducible first | exact Ax.b_len | exact Ax.b_all | exact Ax.b_any | exact Ax.b_sorted | exact Ax.b_isinstance | exact Ax.b_abs | exact Ax.b_max | exact Ax.b_min | exact Ax.b_sum | exact Ax.b_repr | exact Ax.b_iter | exact Ax.b_ord | exact Ax.b_chr | exact Ax.b_str | exact Ax.b_int | exact Ax.b_bool | exact Ax.b_tuple | exact Ax.b_list | exact Ax.b_dict | exact Ax.b_set | exact Ax.b_range | exact Ax.b_enumerate | exact Ax.b_zip)
set_option hygiene false in
local macro_rules | `(tactic| tbr_iter "vis") => `(tactic| first | exact Or.inl rfl | exact Or.inr (Or.inl rfl) | exact Or.inr (Or.inr rfl))
set_option hygiene false in
local macro_rules | `(tactic| tbr_iter "w") => `(tactic| first
  | refine wb_cons ?_
  | refine wb_nil ?_
  | refine ws_ret ?_
  | refine ws_if ?_
  | refine ws_sub ?_
  | refine wa_cons ?_
  | refine wa_nil ?_
  | refine w_int ?_
  | refine w_str ?_
  | refine w_bl ?_
  | refine w_non ?_
  | tbr_iter "var"
  | refine w_bin ?_
  | refine w_cmp ?_
  | refine w_chain ?_
  | refine w_and ?_
  | refine w_or ?_
  | refine w_one ?_
  | refine w_not ?_
  | refine w_ix ?_
  | refine w_ifExp ?_
  | refine w_tup ?_
  | refine w_lst ?_
  | refine wt_not ?_
  | refine wt_bool ?_
  | refine ww_and ?_
  | refine ww_and1 ?_
  | refine ww_or ?_
  | refine ww_or1 ?_
  | refine wt_cmp ?_
  | refine wt_val ?_
  | tbr_iter "call"
  | (refine w_glob (by tbr_iter "mg") ?_)
  | (refine w_callB (by tbr_iter "z") ?_)
  | (refine w_callTy (by tbr_iter "z") ?_)
  | (refine w_bltT (by tbr_iter "z") ?_))
set_option hygiene false in
local macro_rules | `(tactic| tbr_iter "blk") => `(tactic| first | exact blkOk_by (by dsimp only [cxOf, envOfC]; decide +kernel))
set_option hygiene false in
local macro_rules | `(tactic| tbr_iter "iff") => `(tactic| first
  | refine iteT ?_
  | refine iteF ?_
  | refine w_if2 (fun _ => ?_) (fun _ => ?_))
set_option hygiene false in
local macro_rules | `(tactic| tbr_iter "sc") => `(tactic| first | omega | decide)
set_option hygiene false in
local macro_rules | `(tactic| tbr_iter "at") => `(tactic| first | exact atI_0 | exact atI_1 | exact atI_2)
set_option hygiene false in
local macro_rules | `(tactic| tbr_iter "sql") => `(tactic| ((try dsimp only [L2.cxOf, L2.Cx.blk]); with_reducible first | assumption | exact SqL.of (by assumption)))
set_option hygiene false in
local macro_rules | `(tactic| tbr_iter "sqt") => `(tactic| ((try dsimp only [L2.cxOf, L2.Cx.blk]); with_reducible first | assumption | exact SqT.of (by assumption)))
set_option hygiene false in
local macro_rules | `(tactic| tbr_iter "v") => `(tactic| first
  | refine bv_add ?_
  | refine bv_sub ?_
  | ((with_reducible show BinV _ .Mult _ _ _ _); refine bv_mul (Or.inl ⟨by tbr_iter "sc", by tbr_iter "sc"⟩) ?_)
  | ((with_reducible show BinV _ .Mult _ _ _ _); refine bv_mul (Or.inr ⟨by tbr_iter "sc", by tbr_iter "sc"⟩) ?_)
  | ((with_reducible show BinV _ .Mod _ _ _ _); refine bv_mod (by tbr_iter "sc") ?_)
  | ((with_reducible show BinV _ .FloorDiv _ _ _ _); refine bv_fdiv ⟨by tbr_iter "sc", by tbr_iter "sc"⟩ ?_)
  | ((with_reducible show BinV _ .Pow _ _ _ _); refine bv_pow ⟨by decide, by decide +kernel⟩ ?_)
  | refine cv_lt ?_
  | refine cv_le ?_
  | refine cv_gt ?_
  | refine cv_ge ?_
  | ((with_reducible show CmpV _ .Eq _ _ _ _); refine cv_eq rfl ?_)
  | ((with_reducible show CmpV _ .NotEq _ _ _ _); refine cv_ne rfl ?_)
  | refine iv_list (by tbr_iter "sql") (by tbr_iter "at") ?_
  | refine iv_tup (by tbr_iter "sqt") (by tbr_iter "at") ?_
  | refine kv_len_seq (Or.inl (by tbr_iter "sql")) ?_
  | refine kv_len_seq (Or.inr (by tbr_iter "sqt")) ?_
  | refine kv_int ?_
  | refine kv_intB ?_
  | refine kv_abs ?_
  | refine kv_max2 rfl ?_
  | refine kv_min2 rfl ?_)
set_option hygiene false in
local macro_rules | `(tactic| tbr_iter "b") => `(tactic| first
  | refine ⟨_, rfl, iteT ?_⟩
  | refine ⟨_, rfl, iteF ?_⟩
  | refine iteT ?_
  | refine iteF ?_)
set_option hygiene false in
local macro_rules | `(tactic| tbr_iter "go") => `(tactic| repeat (first | tbr_iter "w" | tbr_iter "v" | tbr_iter "b"))
set_option hygiene false in
local macro_rules | `(tactic| tbr_iter "nof") => `(tactic| (intro d hd; cases d <;> first | rfl | exact absurd rfl (hd _)))
set_option hygiene false in
local macro_rules | `(tactic| tbr_iter "e1") => `(tactic| first | ((with_reducible show W _ _ _ _ _); tbr_iter "w") | ((with_reducible show WA _ _ _ _ _); tbr_iter "w") | ((with_reducible show WT _ _ _ _ _); tbr_iter "w") | ((with_reducible show WW _ _ _ _ _); tbr_iter "w") | tbr_iter "v")
set_option hygiene false in
local macro_rules | `(tactic| tbr_iter "ex") => `(tactic| repeat (tbr_iter "e1"))
set_option hygiene false in
local macro_rules | `(tactic| tbr_iter "z") => `(tactic| ((try dsimp only [L2.cxOf]); with_reducible first | exact T.z_ValueError | exact T.z_abs | exact T.z_all | exact T.z_int | exact T.z_isinstance | exact T.z_len | exact T.z_max | exact T.z_min | exact T.z_range | exact T.z_set | exact T.z_sorted | exact T.z_str | exact T.z_sum | exact T.z_tuple))
set_option hygiene false in
local macro_rules | `(tactic| tbr_iter "mg") => `(tactic| ((try dsimp only [L2.cxOf]); with_reducible first | exact T.c_ALPHABET | exact T.c_MAX_LETTERS | exact T.c_MAX_COLUMNS | exact T.c_IN | exact T.c_OUT | exact T.c_UNLIKE | exact T.c_BROKEN | exact T.c_FINE | exact T.c_CHOOSE | exact T.c_MOST_TREES))
namespace Ax
section
variable {P : Program} {w : World} {K : PySem.W.Frag} {mg : Str → Option Value} {base : Heap}
def strLe (a b : Str) : Bool := !decide (b.cps.toList < a.cps.toList)
def leD : Option PyData → Option PyData → Bool
  | some (.str a), some (.str b) => strLe a b
  | _, _ => false
def isAtomD : PyData → Bool
  | .tuple ds => bif isUnlikeD (.tuple ds) then leD ds[1]? ds[2]? else
      decide (ds.length = 3) && (ds[0]?.any (isStrD fun z => inV (.str z) [.str "in", .str "out"]) && (ds[1]?.any isNameD && ds[2]?.any isHeadD))
  | _ => false
set_option hygiene false in
local macro_rules | `(tactic| tbr_iter "var") => `(tactic| first | ((with_reducible show W _ (.Name "value" _) _ _ _); refine w_var 0 rfl (by tbr_iter "vis") rfl ?_))
set_option hygiene false in
local macro_rules | `(tactic| tbr_iter "set") => `(tactic| first | ((with_reducible show WB _ (.Assign [.Name "value" _] _ _ :: _) _ _ _); refine wb_cons (ws_set 0 ?_ rfl nd)))
theorem ok_is_atom (T : Txt K mg) : Callee P w K mg base "is_atom" 4 ["value"] (spAny K isAtomD) := by
  refine def_ok T.f_is_atom sc_is_atom (fun _ _ _ _ _ _ us hl => match us, hl with | [_], _ => rfl) (fun vs H Q E h => ?_) fun f cdv A outer s H vs Q E hr h => ?_
  · obtain ⟨v, o, rfl, _⟩ := h; rfl
  obtain ⟨v, o, rfl, a, k⟩ := h
  have nd := sc_is_atom.nd
  tbr_iter "go"
  refine w_call (ok_is_unlike T) hr passL ?_
  tbr_iter "go"
  refine ⟨v, o, rfl, a, fun H1 s1 => ⟨_, rfl, w_if2 (fun q => ?_) (fun q => ?_)⟩⟩
  · cases a with
    | oth => cases q
    | @dat d hd ok =>
      cases hd <;> first | cases q | skip
      rename_i p xs ds hx ha
      have q : isUnlikeD (.tuple ds) = true := q
      have q0 := q
      simp only [isUnlikeD, Bool.and_eq_true, decide_eq_true_eq] at q
      obtain ⟨l, q1, q2, q3⟩ := q
      obtain ⟨da, db, dc, rfl⟩ := three_of l
      obtain ⟨x, y, z, rfl⟩ := three_of (xs := xs) ((dpa_len ha).trans l)
      cases ha with
      | cons h1 ha =>
      cases ha with
      | cons h2 ha =>
      cases ha with
      | cons h3 ha =>
      have q2 : isNameD db = true := q2
      have q3 : isNameD dc = true := q3
      cases h2 <;> first | cases q2 | skip
      cases h3 <;> first | cases q3 | skip
      have hx1 := same_tup s1 hx
      tbr_iter "go"
      refine cv_leS (qb (k H1 s1) ?_)
      show (bif isUnlikeD (.tuple _) then _ else _) = _
      rw [q0]
      rfl
  · tbr_iter "go"
    refine kv_isiA (anyV_same s1 a) (by decide) ⟨_, rfl, w_if2 (fun c => ?_) (fun c => ?_)⟩
    · have c : isiO "tuple" o = false := by simpa using c
      tbr_iter "go"
      exact qb (k H1 s1) (any_tupleF c (by tbr_iter "nof"))
    · obtain ⟨p, xs, ds, rfl, rfl, hx, ha, ok⟩ := anyV_tuple a (by simpa using c)
      have hx1 := same_tup s1 hx
      have q : isUnlikeD (.tuple ds) = false := q
      have l3 := dpa_len ha
      tbr_iter "go"
      refine ⟨_, rfl, w_if2 (fun c => ?_) (fun c => ?_)⟩
      · have c : ¬ (xs.length : Int) = 3 := by simpa using c
        tbr_iter "go"
        refine qb (k H1 s1) ?_
        show (bif isUnlikeD (.tuple _) then _ else decide (ds.length = 3) && _) = _
        rw [q, decide_eq_false (by omega)]
        rfl
      · have c : (xs.length : Int) = 3 := by simpa using c
        obtain ⟨x, y, z, rfl⟩ := three_of (xs := xs) (by omega)
        obtain ⟨da, db, dc, rfl⟩ := three_of (xs := ds) (by omega)
        clear c l3
        cases ha with
        | cons h1 ha =>
        cases ha with
        | cons h2 ha =>
        cases ha with
        | cons h3 ha =>
        have o1 := okD.item ok da (by simp)
        have o2 := okD.item ok db (by simp)
        have o3 := okD.item ok dc (by simp)
        have ks : ∀ (H' : Hp) (b : Bool), Same H1 H' → (isStrD (fun z => inV (.str z) [.str "in", .str "out"]) da && (isNameD db && isHeadD dc)) = b → Q (.bl b) H' := fun H' b s e => by
          refine qb (k H' (s1.trans s)) ?_
          show (bif isUnlikeD (.tuple _) then _ else decide (3 = 3) && _) = _
          rw [q]
          exact e
        tbr_iter "go"
        refine kv_isiA (.dat (dp_same s1 h1) o1) (by decide) ⟨_, rfl, w_if2 (fun c => ?_) (fun c => ?_)⟩
        · have c : isiO "str" (some da) = false := by simpa using c
          tbr_iter "go"
          refine ks _ _ (Same.refl _) ?_
          have e := any_strF (o := some da) (f := isStrD (fun z => inV (.str z) [.str "in", .str "out"])) c (by tbr_iter "nof")
          have e : isStrD (fun z => inV (.str z) [.str "in", .str "out"]) da = false := e
          rw [e]
          rfl
        · obtain ⟨sg, rfl, ed, _⟩ := anyV_str (.dat h1 o1) (by simpa using c)
          cases ed
          tbr_iter "go"
          refine ⟨by decide, fun p2 H2 s2 n2 hp2 => cv_inSeq (.inr (SqT.of hp2)) rfl rfl ⟨_, rfl, w_if2 (fun c1 => ?_) (fun c1 => ?_)⟩⟩
          · refine w_and ?_
            refine w_call (ok_is_name T) (hr.mono (by decide)) passL ?_
            have hx2 := same_tup s2 hx1
            tbr_iter "go"
            refine ⟨y, some db, rfl, .dat (dp_same (s1.trans s2) h2) o2, fun H3 s3 => ⟨_, rfl, w_if2 (fun c2 => ?_) (fun c2 => ?_)⟩⟩
            · refine w_one ?_
              refine w_call (ok_is_head T) hr passL ?_
              have hx3 := same_tup s3 hx2
              tbr_iter "go"
              refine ⟨z, some dc, rfl, .dat (dp_same ((s1.trans s2).trans s3) h3) o3, fun H4 s4 => ks _ _ ((s2.trans s3).trans s4) ?_⟩
              have c2 : isNameD db = true := c2
              show (inV _ _ && (isNameD db && isHeadD dc)) = isHeadD dc
              rw [c1, c2]
              rfl
            · refine ks _ _ (s2.trans s3) ?_
              have c2 : isNameD db = false := c2
              show (inV _ _ && (isNameD db && isHeadD dc)) = false
              rw [c2, Bool.false_and, Bool.and_false]
          · refine ks _ _ s2 ?_
            show (inV _ _ && _) = false
            rw [c1, Bool.false_and]
def isTupD (p : List PyData → Bool) : PyData → Bool
  | .tuple ds => p ds
  | _ => false
def isFormedD : PyData → Bool
  | .tuple ds => !ds.isEmpty && (ds[0]?.any (isStrD fun _ => true) && (bif ds[0]?.any (isStrD fun z => decide (z = "choose")) then
      decide (ds.length = 3) && (ds[1]?.any isNameD && ds[2]?.any (isTupD fun ts => decide (1 ≤ ts.length) && decide (ts.length ≤ 6)))
      else (PyData.eqv (.tuple ds) (.tuple [.str "fine"]) || (ds[0]?.any (isStrD fun z => decide (z = "broken")) && (decide (ds.length = 2) && ds[1]?.any isAtomD)))))
  | _ => false
theorem two_of {α : Type} {xs : List α} (h : xs.length = 2) : ∃ a b, xs = [a, b] := by
  match xs, h with
  | [a, b], _ => exact ⟨a, b, rfl⟩
theorem one_of {α : Type} {xs : List α} (h : xs.length = 1) : ∃ a, xs = [a] := by
  match xs, h with
  | [a], _ => exact ⟨a, rfl⟩
theorem cons_of {α : Type} {xs : List α} (h : xs ≠ []) : ∃ a r, xs = a :: r := by
  cases xs with
  | nil => exact absurd rfl h
  | cons a r => exact ⟨a, r, rfl⟩
/-- a tree that may hold other things than data: where it is no data, it is a choice -/
inductive HTd
  | leaf (o : Option PyData)
  | node (n : Str) (ts : List HTd)
mutual
inductive HV (K : PySem.W.Frag) (H : Hp) : V → HTd → Prop
  | leaf {v : V} {o : Option PyData} (a : AnyV K H v o) : HV K H v (.leaf o)
  | node {p q : Addr} {n : Str} {us : List V} {ts : List HTd} (hp : SqT K H p [.str "choose", .str n, .ref q]) (hq : SqT K H q us) (hn : isNameS n = true) (ok : okD (.str n) = true) (h1 : 1 ≤ ts.length) (h2 : ts.length ≤ 6) (hs : HVs K H us ts) : HV K H (.ref p) (.node n ts)
inductive HVs (K : PySem.W.Frag) (H : Hp) : List V → List HTd → Prop
  | nil : HVs K H [] []
  | cons {v : V} {r : HTd} {vs : List V} {rs : List HTd} (h : HV K H v r) (t : HVs K H vs rs) : HVs K H (v :: vs) (r :: rs)
end
mutual
theorem hv_same {K : PySem.W.Frag} {H H' : Hp} (s : Same H H') : ∀ {r : HTd} {v : V}, HV K H v r → HV K H' v r
  | .leaf o, _, h => by
    cases h with
    | leaf a => exact .leaf (anyV_same s a)
  | .node n ts, _, h => by
    cases h with
    | node hp hq hn ok h1 h2 hs => exact .node (same_tup s hp) (same_tup s hq) hn ok h1 h2 (hvs_same s hs)
theorem hvs_same {K : PySem.W.Frag} {H H' : Hp} (s : Same H H') : ∀ {rs : List HTd} {vs : List V}, HVs K H vs rs → HVs K H' vs rs
  | [], _, h => by
    cases h
    exact .nil
  | r :: rs, _, h => by
    cases h with
    | cons h t => exact .cons (hv_same s h) (hvs_same s t)
end
theorem hvs_len {K : PySem.W.Frag} {H : Hp} : ∀ {rs : List HTd} {vs : List V}, HVs K H vs rs → vs.length = rs.length
  | [], _, h => by cases h; rfl
  | r :: rs, _, h => by
    cases h with
    | cons h t => rw [List.length_cons, List.length_cons, hvs_len t]
def formedH : HTd → Bool
  | .leaf o => o.any isFormedD
  | .node _ _ => true
def spFormed (K : PySem.W.Frag) : Sp := fun vs H Q _ => ∃ v r, vs = [v] ∧ HV K H v r ∧ ∀ H', Same H H' → Q (.bl (formedH r)) H'
set_option hygiene false in
local macro_rules | `(tactic| tbr_iter "var") => `(tactic| first | ((with_reducible show W _ (.Name "value" _) _ _ _); refine w_var 0 rfl (by tbr_iter "vis") rfl ?_))
set_option hygiene false in
local macro_rules | `(tactic| tbr_iter "set") => `(tactic| first | ((with_reducible show WB _ (.Assign [.Name "value" _] _ _ :: _) _ _ _); refine wb_cons (ws_set 0 ?_ rfl nd)))
theorem ok_is_formed (T : Txt K mg) : Callee P w K mg base "is_formed" 6 ["value"] (spFormed K) := by
  refine def_ok T.f_is_formed sc_is_formed (fun _ _ _ _ _ _ us hl => match us, hl with | [_], _ => rfl) (fun vs H Q E h => ?_) fun f cdv A outer s H vs Q E hr h => ?_
  · obtain ⟨v, o, rfl, _⟩ := h; rfl
  obtain ⟨v, r, rfl, a, k⟩ := h
  have nd := sc_is_formed.nd
  have hu := hr.units
  cases a with
  | @node p q n us ts hp hq hn ok h1 h2 hs =>
    have k : ∀ H', Same H H' → Q (.bl true) H' := k
    have lu := hvs_len hs
    tbr_iter "go"
    refine kv_isiB (tyX_tup hp) (k := true) (by decide +kernel) ⟨_, rfl, iteF ?_⟩
    tbr_iter "go"
    refine ⟨by decide, fun p1 H1 s1 n1 hp1 => cv_eqTup0 hr.units0 (same_tup s1 hp) (SqT.of hp1) ⟨_, rfl, iteF ?_⟩⟩
    have hp2 := same_tup s1 hp
    have hq2 := same_tup s1 hq
    tbr_iter "go"
    refine kv_isiB (.base (.str _)) (k := true) (by decide +kernel) ⟨_, rfl, iteF ?_⟩
    tbr_iter "go"
    refine w_call (ok_is_name T) (hr.mono (by decide)) passL ?_
    tbr_iter "go"
    refine ⟨_, some (.str n), rfl, .dat (.str n) ok, fun H2 s2 => ⟨_, rfl, ?_⟩⟩
    have e : (some (PyData.str n)).any isNameD = true := hn
    rw [e]
    have hp3 := same_tup s2 hp2
    have hq3 := same_tup s2 hq2
    refine iteF ?_
    tbr_iter "go"
    refine kv_isiB (tyX_tup hq3) (k := true) (by decide +kernel) ⟨_, rfl, iteT ?_⟩
    tbr_iter "go"
    refine ⟨_, rfl, ?_⟩
    rw [decide_eq_true (show (1 : Int) ≤ us.length by omega)]
    refine iteT ?_
    tbr_iter "go"
    refine qb (k H2 (s1.trans s2)) ?_
    rw [decide_eq_true (show (us.length : Int) ≤ 6 by omega)]
  | @leaf v o a =>
  have k : ∀ H', Same H H' → Q (.bl (o.any isFormedD)) H' := k
  tbr_iter "go"
  refine kv_isiA a (by decide) ⟨_, rfl, w_if2 (fun c => ?_) (fun c => ?_)⟩
  · have c : isiO "tuple" o = false := by simpa using c
    tbr_iter "go"
    exact qb (k H (Same.refl _)) (any_tupleF c (by tbr_iter "nof"))
  obtain ⟨p, xs, ds, rfl, rfl, hx, ha, ok⟩ := anyV_tuple a (by simpa using c)
  have l3 := dpa_len ha
  have sh := okD.shaped ok
  tbr_iter "go"
  refine ⟨by decide, fun p1 H1 s1 n1 hp1 => ?_⟩
  have hx1 := same_tup s1 hx
  refine cv_eqD hu (.tup hx1 (dpa_same s1 ha)) (.tup (SqT.of hp1) .nil) sh (by decide) ⟨_, rfl, w_if2 (fun c => ?_) (fun c => ?_)⟩
  · tbr_iter "go"
    refine qb (k H1 s1) ?_
    cases ds with
    | nil => rfl
    | cons d ds => cases c
  have hne : ds ≠ [] := fun z => by
    subst z
    cases c
  obtain ⟨d0, dr, rfl⟩ := cons_of hne
  obtain ⟨x0, xr, rfl⟩ : ∃ a r, xs = a :: r := cons_of (fun z => by subst z; simp at l3)
  clear c hne
  cases ha with
  | cons h0 ha =>
  have o0 := okD.item ok d0 (by simp)
  tbr_iter "go"
  refine kv_isiA (.dat (dp_same s1 h0) o0) (by decide) ⟨_, rfl, w_if2 (fun c => ?_) (fun c => ?_)⟩
  · have c : isiO "str" (some d0) = false := by simpa using c
    tbr_iter "go"
    refine qb (k H1 s1) ?_
    have e : isStrD (fun _ => true) d0 = false := any_strF (o := some d0) (f := isStrD (fun _ => true)) c (by tbr_iter "nof")
    show (true && (isStrD _ d0 && _)) = false
    rw [e]
    rfl
  obtain ⟨sg, rfl, ed, _⟩ := anyV_str (.dat h0 o0) (by simpa using c)
  cases ed
  clear c
  tbr_iter "go"
  refine ⟨_, rfl, w_if2 (fun c => ?_) (fun c => ?_)⟩
  · have c : sg = "choose" := by simpa using c
    have ks : ∀ (H' : Hp) (b : Bool), Same H1 H' → (decide ((dr.length + 1) = 3) && (dr[0]?.any isNameD && dr[1]?.any (isTupD fun ts => decide (1 ≤ ts.length) && decide (ts.length ≤ 6)))) = b → Q (.bl b) H' := fun H' b s e => by
      refine qb (k H' (s1.trans s)) ?_
      subst c
      exact e
    tbr_iter "go"
    refine ⟨_, rfl, w_if2 (fun c1 => ?_) (fun c1 => ?_)⟩
    · have c1 : ¬ ((((V.str sg :: xr).length : Nat) : Int) = 3) := by simpa using c1
      tbr_iter "go"
      refine ks _ _ (Same.refl _) ?_
      rw [decide_eq_false (by simp only [List.length_cons] at c1 l3; omega), Bool.false_and]
    · have c1 : (((V.str sg :: xr).length : Nat) : Int) = 3 := by simpa using c1
      simp only [List.length_cons] at c1 l3
      obtain ⟨x1, x2, rfl⟩ := two_of (xs := xr) (by omega)
      obtain ⟨d1, d2, rfl⟩ := two_of (xs := dr) (by simp only [List.length_cons, List.length_nil] at l3; omega)
      clear c1 l3
      cases ha with
      | cons h1 ha =>
      cases ha with
      | cons h2 ha =>
      have o1 := okD.item ok d1 (by simp)
      have o2 := okD.item ok d2 (by simp)
      have ks : ∀ (H' : Hp) (b : Bool), Same H1 H' → (isNameD d1 && isTupD (fun ts => decide (1 ≤ ts.length) && decide (ts.length ≤ 6)) d2) = b → Q (.bl b) H' := fun H' b s e => ks H' b s e
      tbr_iter "go"
      refine w_call (ok_is_name T) (hr.mono (by decide)) passL ?_
      tbr_iter "go"
      refine ⟨x1, some d1, rfl, .dat (dp_same s1 h1) o1, fun H2 s2 => ⟨_, rfl, w_if2 (fun c2 => ?_) (fun c2 => ?_)⟩⟩
      · have c2 : isNameD d1 = false := by simpa using c2
        tbr_iter "go"
        exact ks _ _ s2 (by rw [c2]; rfl)
      · have c2 : isNameD d1 = true := by simpa using c2
        have hx2 := same_tup s2 hx1
        have h2' := dp_same (s1.trans s2) h2
        tbr_iter "go"
        refine kv_isiA (.dat h2' o2) (by decide) ⟨_, rfl, w_if2 (fun c3 => ?_) (fun c3 => ?_)⟩
        · obtain ⟨p2, xs2, ds2, rfl, e2, hy, ha2, ok2⟩ := anyV_tuple (.dat h2' o2) c3
          cases e2
          tbr_iter "go"
          refine ⟨_, rfl, w_if2 (fun c4 => ?_) (fun c4 => ?_)⟩
          · have c4 : (1 : Int) ≤ xs2.length := of_decide_eq_true c4
            tbr_iter "go"
            refine ks _ _ s2 ?_
            rw [c2]
            show (true && (decide (1 ≤ ds2.length) && decide (ds2.length ≤ 6))) = _
            rw [← dpa_len ha2, decide_eq_true (show 1 ≤ xs2.length by omega), Bool.true_and, Bool.true_and, Bool.eq_iff_iff, decide_eq_true_iff, decide_eq_true_iff]
            omega
          · have c4 : ¬ (1 : Int) ≤ xs2.length := of_decide_eq_false c4
            refine ks _ _ s2 ?_
            show (_ && (decide (1 ≤ ds2.length) && _)) = _
            rw [← dpa_len ha2, decide_eq_false (show ¬ 1 ≤ xs2.length by omega), Bool.false_and, Bool.and_false]
        · refine ks _ _ s2 ?_
          have e : isTupD (fun ts => decide (1 ≤ ts.length) && decide (ts.length ≤ 6)) d2 = false := any_tupleF (o := some d2) (f := isTupD _) c3 (by tbr_iter "nof")
          rw [e, Bool.and_false]
  · have c : ¬ sg = "choose" := by simpa using c
    have ks : ∀ (H' : Hp) (b : Bool), Same H1 H' → (PyData.eqv (.tuple (.str sg :: dr)) (.tuple [.str "fine"]) || (decide (sg = "broken") && (decide (dr.length + 1 = 2) && dr[0]?.any isAtomD))) = b → Q (.bl b) H' := fun H' b s e => by
      refine qb (k H' (s1.trans s)) ?_
      show (true && (true && bif decide (sg = "choose") then _ else _)) = b
      rw [decide_eq_false c]
      exact e
    tbr_iter "go"
    refine ⟨by decide, fun p3 H3 s3 n3 hp3 => ?_⟩
    have hx3 := same_tup s3 hx1
    refine cv_eqD hu (.tup hx3 (dpa_same (s1.trans s3) (.cons h0 ha))) (.tup (SqT.of hp3) (.cons (.str _) .nil)) sh (by decide +kernel) ⟨_, rfl, w_if2 (fun c2 => ?_) (fun c2 => ?_)⟩
    · exact ks _ _ s3 (by rw [c2]; rfl)
    · refine w_one ?_
      tbr_iter "go"
      refine ⟨_, rfl, w_if2 (fun c3 => ?_) (fun c3 => ?_)⟩
      · have c3 : sg = "broken" := by simpa using c3
        tbr_iter "go"
        refine ⟨_, rfl, w_if2 (fun c4 => ?_) (fun c4 => ?_)⟩
        · have c4 : (((V.str sg :: xr).length : Nat) : Int) = 2 := by simpa using c4
          simp only [List.length_cons] at c4 l3
          obtain ⟨x1, rfl⟩ := one_of (xs := xr) (by omega)
          obtain ⟨d1, rfl⟩ := one_of (xs := dr) (by simp only [List.length_cons, List.length_nil] at l3; omega)
          clear c4 l3
          cases ha with
          | cons h1 ha =>
          have o1 := okD.item ok d1 (by simp)
          refine w_one ?_
          refine w_call (ok_is_atom T) (hr.mono (by decide)) passL ?_
          tbr_iter "go"
          refine ⟨x1, some d1, rfl, .dat (dp_same (s1.trans s3) h1) o1, fun H4 s4 => ks _ _ (s3.trans s4) ?_⟩
          rw [c2, decide_eq_true c3]
          rfl
        · have c4 : ¬ (((V.str sg :: xr).length : Nat) : Int) = 2 := by simpa using c4
          simp only [List.length_cons] at c4 l3
          refine ks _ _ s3 ?_
          rw [c2, decide_eq_false (show ¬ dr.length + 1 = 2 by omega), Bool.false_and, Bool.and_false]
          rfl
      · have c3 : ¬ sg = "broken" := by simpa using c3
        refine ks _ _ s3 ?_
        rw [c2, decide_eq_false c3]
        rfl
end
end Ax
end
section
set_option maxHeartbeats 4000000
open PySem PySem.Spec PyProof.Rows L2 Ax
set_option hygiene false in
local macro_rules | `(tactic| tbr_iter "boot") => `(tactic| with_reducible first | exact Ax.b_len | exact Ax.b_all | exact Ax.b_any | exact Ax.b_sorted | exact Ax.b_isinstance | exact Ax.b_abs | exact Ax.b_max | exact Ax.b_min | exact Ax.b_sum | exact Ax.b_repr | exact Ax.b_iter | exact Ax.b_ord | exact Ax.b_chr | exact Ax.b_str | exact Ax.b_int | exact Ax.b_bool | exact Ax.b_tuple | exact Ax.b_list | exact Ax.b_dict | exact Ax.b_set | exact Ax.b_range | exact Ax.b_enumerate | exact Ax.b_zip)
set_option hygiene false in
local macro_rules | `(tactic| tbr_iter "vis") => `(tactic| first | exact Or.inl rfl | exact Or.inr (Or.inl rfl) | exact Or.inr (Or.inr rfl))
set_option hygiene false in
local macro_rules | `(tactic| tbr_iter "w") => `(tactic| first
  | refine wb_cons ?_
  | refine wb_nil ?_
  | refine ws_ret ?_
  | refine ws_if ?_
  | refine ws_sub ?_
  | refine wa_cons ?_
  | refine wa_nil ?_
  | refine w_int ?_
  | refine w_str ?_
  | refine w_bl ?_
  | refine w_non ?_
  | tbr_iter "var"
  | refine w_bin ?_
  | refine w_cmp ?_
  | refine w_chain ?_
  | refine w_and ?_
  | refine w_or ?_
  | refine w_one ?_
  | refine w_not ?_
  | refine w_ix ?_
  | refine w_ifExp ?_
  | refine w_tup ?_
  | refine w_lst ?_
  | refine wt_not ?_
  | refine wt_bool ?_
  | refine ww_and ?_
  | refine ww_and1 ?_
  | refine ww_or ?_
  | refine ww_or1 ?_
  | refine wt_cmp ?_
  | refine wt_val ?_
  | tbr_iter "call"
  | (refine w_glob (by tbr_iter "mg") ?_)
  | (refine w_callB (by tbr_iter "z") ?_)
  | (refine w_callTy (by tbr_iter "z") ?_)
  | (refine w_bltT (by tbr_iter "z") ?_))
set_option hygiene false in
local macro_rules | `(tactic| tbr_iter "blk") => `(tactic| first | exact blkOk_by (by dsimp only [cxOf, envOfC]; decide +kernel))
set_option hygiene false in
local macro_rules | `(tactic| tbr_iter "iff") => `(tactic| first
  | refine iteT ?_
  | refine iteF ?_
  | refine w_if2 (fun _ => ?_) (fun _ => ?_))
set_option hygiene false in
local macro_rules | `(tactic| tbr_iter "sc") => `(tactic| first | omega | decide)
set_option hygiene false in
local macro_rules | `(tactic| tbr_iter "at") => `(tactic| first | exact atI_0 | exact atI_1 | exact atI_2)
set_option hygiene false in
local macro_rules | `(tactic| tbr_iter "sql") => `(tactic| ((try dsimp only [L2.cxOf, L2.Cx.blk]); with_reducible first | assumption | exact SqL.of (by assumption)))
set_option hygiene false in
local macro_rules | `(tactic| tbr_iter "sqt") => `(tactic| ((try dsimp only [L2.cxOf, L2.Cx.blk]); with_reducible first | assumption | exact SqT.of (by assumption)))
set_option hygiene false in
local macro_rules | `(tactic| tbr_iter "v") => `(tactic| first
  | refine bv_add ?_
  | refine bv_sub ?_
  | ((with_reducible show BinV _ .Mult _ _ _ _); refine bv_mul (Or.inl ⟨by tbr_iter "sc", by tbr_iter "sc"⟩) ?_)
  | ((with_reducible show BinV _ .Mult _ _ _ _); refine bv_mul (Or.inr ⟨by tbr_iter "sc", by tbr_iter "sc"⟩) ?_)
  | ((with_reducible show BinV _ .Mod _ _ _ _); refine bv_mod (by tbr_iter "sc") ?_)
  | ((with_reducible show BinV _ .FloorDiv _ _ _ _); refine bv_fdiv ⟨by tbr_iter "sc", by tbr_iter "sc"⟩ ?_)
  | ((with_reducible show BinV _ .Pow _ _ _ _); refine bv_pow ⟨by decide, by decide +kernel⟩ ?_)
  | refine cv_lt ?_
  | refine cv_le ?_
  | refine cv_gt ?_
  | refine cv_ge ?_
  | ((with_reducible show CmpV _ .Eq _ _ _ _); refine cv_eq rfl ?_)
  | ((with_reducible show CmpV _ .NotEq _ _ _ _); refine cv_ne rfl ?_)
  | refine iv_list (by tbr_iter "sql") (by tbr_iter "at") ?_
  | refine iv_tup (by tbr_iter "sqt") (by tbr_iter "at") ?_
  | refine kv_len_seq (Or.inl (by tbr_iter "sql")) ?_
  | refine kv_len_seq (Or.inr (by tbr_iter "sqt")) ?_
  | refine kv_int ?_
  | refine kv_intB ?_
  | refine kv_abs ?_
  | refine kv_max2 rfl ?_
  | refine kv_min2 rfl ?_)
set_option hygiene false in
local macro_rules | `(tactic| tbr_iter "b") => `(tactic| first
  | refine ⟨_, rfl, iteT ?_⟩
  | refine ⟨_, rfl, iteF ?_⟩
  | refine iteT ?_
  | refine iteF ?_)
set_option hygiene false in
local macro_rules | `(tactic| tbr_iter "go") => `(tactic| repeat (first | tbr_iter "w" | tbr_iter "v" | tbr_iter "b"))
set_option hygiene false in
local macro_rules | `(tactic| tbr_iter "nof") => `(tactic| (intro d hd; cases d <;> first | rfl | exact absurd rfl (hd _)))
set_option hygiene false in
local macro_rules | `(tactic| tbr_iter "e1") => `(tactic| first | ((with_reducible show W _ _ _ _ _); tbr_iter "w") | ((with_reducible show WA _ _ _ _ _); tbr_iter "w") | ((with_reducible show WT _ _ _ _ _); tbr_iter "w") | ((with_reducible show WW _ _ _ _ _); tbr_iter "w") | tbr_iter "v")
set_option hygiene false in
local macro_rules | `(tactic| tbr_iter "ex") => `(tactic| repeat (tbr_iter "e1"))
set_option hygiene false in
local macro_rules | `(tactic| tbr_iter "z") => `(tactic| ((try dsimp only [L2.cxOf]); with_reducible first | exact T.z_ValueError | exact T.z_abs | exact T.z_all | exact T.z_int | exact T.z_isinstance | exact T.z_len | exact T.z_max | exact T.z_min | exact T.z_range | exact T.z_set | exact T.z_sorted | exact T.z_str | exact T.z_sum | exact T.z_tuple))
set_option hygiene false in
local macro_rules | `(tactic| tbr_iter "mg") => `(tactic| ((try dsimp only [L2.cxOf]); with_reducible first | exact T.c_ALPHABET | exact T.c_MAX_LETTERS | exact T.c_MAX_COLUMNS | exact T.c_IN | exact T.c_OUT | exact T.c_UNLIKE | exact T.c_BROKEN | exact T.c_FINE | exact T.c_CHOOSE | exact T.c_MOST_TREES))
namespace Ax
mutual
/-- every part of a tree has the form -/
def wf : PyData → Bool
  | .tuple [.str z, n, .tuple ts] => isFormedD (.tuple [.str z, n, .tuple ts]) && (bif decide (z = "choose") then wfAll ts else true)
  | d => isFormedD d
def wfAll : List PyData → Bool
  | [] => true
  | d :: ds => wf d && wfAll ds
end
mutual
/-- the parts as the stack gives them, with the choices above -/
def parts : PyData → Nat → List (PyData × Nat)
  | .tuple [.str z, n, .tuple ts], k => (.tuple [.str z, n, .tuple ts], k) :: (bif decide (z = "choose") then partsAll ts (k + 1) else [])
  | d, k => [(d, k)]
def partsAll : List PyData → Nat → List (PyData × Nat)
  | [], _ => []
  | d :: ds, k => partsAll ds k ++ parts d k
end
mutual
def nodes : PyData → Nat
  | .tuple [.str z, n, .tuple ts] => 1 + (bif decide (z = "choose") then nodesAll ts else 0)
  | _ => 1
def nodesAll : List PyData → Nat
  | [] => 0
  | d :: ds => nodes d + nodesAll ds
end
def kids : PyData → List PyData
  | .tuple [.str z, _, .tuple ts] => bif decide (z = "choose") then ts else []
  | _ => []
theorem wf_eq (d : PyData) : wf d = (isFormedD d && wfAll (kids d)) := by
  unfold wf kids
  split
  · rename_i z n ts
    cases e : decide (z = "choose") <;> simp [wfAll]
  · simp [wfAll]
theorem parts_eq (d : PyData) (k : Nat) : parts d k = (d, k) :: partsAll (kids d) (k + 1) := by
  unfold parts kids
  split
  · rename_i z n ts
    cases e : decide (z = "choose") <;> simp only [e, cond_true, cond_false, partsAll]
  · simp [partsAll]
theorem nodes_eq (d : PyData) : nodes d = 1 + nodesAll (kids d) := by
  unfold nodes kids
  split
  · rename_i z n ts
    cases e : decide (z = "choose") <;> simp only [e, cond_true, cond_false, nodesAll]
  · simp [nodesAll]
theorem formed_cases {d : PyData} (h : isFormedD d = true) : (∃ n ts, d = .tuple [.str "choose", n, .tuple ts] ∧ kids d = ts ∧ isNameD n = true ∧ 1 ≤ ts.length ∧ ts.length ≤ 6) ∨ (∃ z dr, d = .tuple (.str z :: dr) ∧ z ≠ "choose" ∧ kids d = []) := by
  cases d <;> first | cases h | skip
  rename_i ds
  cases ds with
  | nil => cases h
  | cons a dr =>
    have h : (true && (isStrD (fun _ => true) a && (bif isStrD (fun z => decide (z = "choose")) a then decide ((dr.length + 1) = 3) && (dr[0]?.any isNameD && dr[1]?.any (isTupD fun ts => decide (1 ≤ ts.length) && decide (ts.length ≤ 6))) else _))) = true := h
    obtain ⟨z, rfl⟩ : ∃ z, a = .str z := by cases a <;> first | exact ⟨_, rfl⟩ | (simp [isStrD] at h)
    by_cases e : z = "choose"
    · left
      subst e
      have h : (decide ((dr.length + 1) = 3) && (dr[0]?.any isNameD && dr[1]?.any (isTupD fun ts => decide (1 ≤ ts.length) && decide (ts.length ≤ 6)))) = true := h
      simp only [Bool.and_eq_true, decide_eq_true_eq] at h
      obtain ⟨h1, h2, h3⟩ := h
      obtain ⟨x, y, rfl⟩ := two_of (xs := dr) (by omega)
      have h3 : isTupD (fun ts => decide (1 ≤ ts.length) && decide (ts.length ≤ 6)) y = true := h3
      obtain ⟨ts, rfl⟩ : ∃ ts, y = .tuple ts := by cases y <;> first | exact ⟨_, rfl⟩ | cases h3
      have h3 : (decide (1 ≤ ts.length) && decide (ts.length ≤ 6)) = true := h3
      simp only [Bool.and_eq_true, decide_eq_true_eq] at h3
      exact ⟨x, ts, rfl, rfl, h2, h3.1, h3.2⟩
    · right
      refine ⟨z, dr, rfl, e, ?_⟩
      unfold kids
      split
      · rename_i h2
        injection h2 with h2
        injection h2 with h2 h3
        injection h2 with h2
        subst h2
        rw [decide_eq_false e]
        rfl
      · rfl
theorem wfAll_all : ∀ ts : List PyData, wfAll ts = ts.all wf
  | [] => by simp [wfAll]
  | d :: ds => by rw [wfAll, wfAll_all ds]; rfl
def kidsH : HTd → List HTd
  | .leaf (some d) => (kids d).map fun t => .leaf (some t)
  | .leaf none => []
  | .node _ ts => ts
mutual
def wfH : HTd → Bool
  | .leaf o => o.any wf
  | .node _ ts => wfHs ts
def wfHs : List HTd → Bool
  | [] => true
  | r :: rs => wfH r && wfHs rs
end
mutual
def nodesH : HTd → Nat
  | .leaf (some d) => nodes d
  | .leaf none => 1
  | .node _ ts => 1 + nodesHs ts
def nodesHs : List HTd → Nat
  | [] => 0
  | r :: rs => nodesH r + nodesHs rs
end
def isLeaf : HTd → Bool
  | .leaf _ => true
  | .node _ _ => false
theorem wfHs_leaf : ∀ ts : List PyData, wfHs (ts.map fun t => .leaf (some t)) = wfAll ts
  | [] => by simp [wfHs, wfAll]
  | t :: ts => by rw [List.map_cons, wfHs, wfAll, wfHs_leaf ts, wfH]; rfl
theorem nodesHs_leaf : ∀ ts : List PyData, nodesHs (ts.map fun t => .leaf (some t)) = nodesAll ts
  | [] => by simp [nodesHs, nodesAll]
  | t :: ts => by rw [List.map_cons, nodesHs, nodesAll, nodesHs_leaf ts, nodesH]
theorem wfHs_all : ∀ ts : List HTd, wfHs ts = ts.all wfH
  | [] => by simp [wfHs]
  | d :: ds => by rw [wfHs, wfHs_all ds]; rfl
theorem wfH_eq (r : HTd) : wfH r = (formedH r && wfHs (kidsH r)) := by
  match r with
  | .leaf none => simp [wfH, formedH]
  | .leaf (some d) =>
    rw [wfH, kidsH, wfHs_leaf]
    exact wf_eq d
  | .node n ts => rw [wfH, kidsH]; rfl
theorem nodesH_eq (r : HTd) : nodesH r = 1 + nodesHs (kidsH r) := by
  match r with
  | .leaf none => simp [nodesH, kidsH, nodesHs]
  | .leaf (some d) => rw [nodesH, kidsH, nodesHs_leaf, nodes_eq]
  | .node n ts => rw [nodesH, kidsH]
/-- what a stack (its top last) still gives -/
def flatS : List (HTd × Nat) → List (PyData × Nat)
  | [] => []
  | (.leaf (some d), k) :: r => flatS r ++ parts d k
  | (_, _) :: r => flatS r
def wfS (S : List (HTd × Nat)) : Bool := S.all fun s => wfH s.1
def nodesS : List (HTd × Nat) → Nat
  | [] => 0
  | (o, _) :: r => nodesH o + nodesS r
def partsO : HTd → Nat → List (PyData × Nat)
  | .leaf (some d), k => parts d k
  | _, _ => []
theorem flatS_cons (o : HTd) (k : Nat) (r : List (HTd × Nat)) : flatS ((o, k) :: r) = flatS r ++ partsO o k := by
  match o with
  | .leaf none => simp [flatS, partsO]
  | .leaf (some d) => simp [flatS, partsO]
  | .node n ts => simp [flatS, partsO]
theorem flatS_app (S T : List (HTd × Nat)) : flatS (S ++ T) = flatS T ++ flatS S := by
  induction S with
  | nil => simp [flatS]
  | cons a r ih =>
    obtain ⟨o, k⟩ := a
    rw [List.cons_append, flatS_cons, flatS_cons, ih, List.append_assoc]
theorem nodesS_app (S T : List (HTd × Nat)) : nodesS (S ++ T) = nodesS S + nodesS T := by
  induction S with
  | nil => simp [nodesS]
  | cons a r ih =>
    obtain ⟨o, k⟩ := a
    show _ + nodesS (r ++ T) = _
    rw [ih]
    simp [nodesS, Nat.add_assoc]
def kidsS (ts : List HTd) (k : Nat) : List (HTd × Nat) := ts.map fun t => (t, k)
theorem flatS_kids (ts : List PyData) (k : Nat) : flatS (kidsS (ts.map fun t => .leaf (some t)) k) = partsAll ts k := by
  induction ts with
  | nil => simp [kidsS, flatS, partsAll]
  | cons a r ih =>
    show flatS (kidsS (r.map fun t => .leaf (some t)) k) ++ parts a k = _
    rw [ih, partsAll]
theorem nodesS_kids (ts : List HTd) (k : Nat) : nodesS (kidsS ts k) = nodesHs ts := by
  induction ts with
  | nil => simp [kidsS, nodesS, nodesHs]
  | cons a r ih =>
    show nodesH a + nodesS (kidsS r k) = _
    rw [ih, nodesHs]
theorem wfS_kids (ts : List HTd) (k : Nat) : wfS (kidsS ts k) = wfHs ts := by
  rw [wfHs_all]
  unfold wfS kidsS
  rw [List.all_map]
  rfl
theorem nodesH_pos (o : HTd) : 1 ≤ nodesH o := by
  rw [nodesH_eq]
  omega
theorem nodesS_len : ∀ S : List (HTd × Nat), S.length ≤ nodesS S
  | [] => Nat.le_refl _
  | (o, k) :: r => by
    have h := nodesS_len r
    have h2 := nodesH_pos o
    show r.length + 1 ≤ nodesH o + nodesS r
    omega
/-- a choice, or none -/
theorem choose_view {K : PySem.W.Frag} {H : Hp} {v : V} {r : HTd} (h : HV K H v r) (c : formedH r = true) :
    (∃ p n q us, v = .ref p ∧ SqT K H p [.str "choose", .str n, .ref q] ∧ SqT K H q us ∧ us.length ≤ 6 ∧ HVs K H us (kidsH r)) ∨ (∃ p z zr, v = .ref p ∧ SqT K H p (.str z :: zr) ∧ z ≠ "choose" ∧ kidsH r = []) := by
  cases h with
  | node hp hq hn ok h1 h2 hs => exact .inl ⟨_, _, _, _, rfl, hp, hq, by rw [hvs_len hs]; exact h2, hs⟩
  | leaf a =>
    cases a with
    | oth => cases c
    | @dat d hd ok =>
    rcases formed_cases c with ⟨n, ts, rfl, hk, hn1, hl1, hl2⟩ | ⟨z, dr, rfl, hz, hk⟩
    · left
      cases hd with
      | @tup p zs _ hp ha =>
      obtain ⟨z0, z1, z2, rfl⟩ := three_of (xs := zs) (dpa_len ha)
      cases ha with
      | cons h0 ha =>
      cases ha with
      | cons h1 ha =>
      cases ha with
      | cons h2 ha =>
      cases h0
      cases n <;> first | cases hn1 | skip
      cases h1
      cases h2 with
      | @tup p2 us _ hu hus =>
      refine ⟨_, _, _, us, rfl, hp, hu, by rw [dpa_len hus]; exact hl2, ?_⟩
      show HVs K H us ((kids _).map _)
      rw [hk]
      have okt := okD.item (okD.item ok (.tuple ts) (by simp))
      have go : ∀ {us : List V} {ts : List PyData}, (∀ t ∈ ts, okD t = true) → DpAll K H us ts → HVs K H us (ts.map fun t => .leaf (some t)) := by
        intro us ts
        induction ts generalizing us with
        | nil => intro _ h; cases h; exact .nil
        | cons t ts ih =>
          intro ok h
          cases h with
          | cons h1 h2 => exact .cons (.leaf (.dat h1 (ok t List.mem_cons_self))) (ih (fun t ht => ok t (List.mem_cons_of_mem _ ht)) h2)
      exact go okt hus
    · right
      cases hd with
      | @tup p zs _ hp ha =>
      obtain ⟨z0, zr, rfl⟩ := cons_of (xs := zs) (by rintro rfl; cases ha)
      cases ha with
      | cons h0 ha =>
      cases h0
      refine ⟨_, z, zr, rfl, hp, hz, ?_⟩
      show (kids _).map _ = []
      rw [hk]
      rfl
/-- a pair (thing, number) at x -/
def PairA (K : PySem.W.Frag) (H Hc : Hp) (x : V) (s : HTd × Nat) : Prop := ∃ t v, x = .ref t ∧ Hc t = some (.tup [v, .int s.2]) ∧ HV K H v s.1
def PairD (K : PySem.W.Frag) (H Hc : Hp) (x : V) (s : PyData × Nat) : Prop := ∃ t v, x = .ref t ∧ Hc t = some (.tup [v, .int s.2]) ∧ Dp K H v s.1 ∧ okD s.1 = true
theorem PairA.sl {K : PySem.W.Frag} {H Hc H' : Hp} {x : V} {s : HTd × Nat} (e : Sl Hc H') (h : PairA K H Hc x s) : PairA K H H' x s := by
  obtain ⟨t, v, h1, h2, h3⟩ := h
  exact ⟨t, v, h1, e _ _ h2 rfl, h3⟩
theorem PairD.sl {K : PySem.W.Frag} {H Hc H' : Hp} {x : V} {s : PyData × Nat} (e : Sl Hc H') (h : PairD K H Hc x s) : PairD K H H' x s := by
  obtain ⟨t, v, h1, h2, h3⟩ := h
  exact ⟨t, v, h1, e _ _ h2 rfl, h3⟩
theorem all_kids {K : PySem.W.Frag} {H Hc : Hp} {k : Nat} : ∀ {us : List V} {ts : List HTd} {ys : List V}, HVs K H us ts → Rel2 (fun x y => ∃ t, y = .ref t ∧ Hc t = some (.tup [x, .int (k + 1)])) us ys → All2 (PairA K H Hc) ys (kidsS ts (k + 1))
  | [], [], _, _, .nil => .nil
  | _ :: _, [], _, h, _ => nomatch h
  | [], _ :: _, _, h, _ => nomatch h
  | u :: us, t :: ts, _, .cons h1 h2, .cons (y := y) (ys := ys) ⟨a, e, q⟩ r => .cons ⟨a, u, e, q, h1⟩ (all_kids h2 r)
def spParts (K : PySem.W.Frag) : Sp := fun vs H Q E => ∃ v r, vs = [v] ∧ HV K H v r ∧ nodesH r ≤ 100000 ∧ ((∃ d, r = .leaf (some d)) ∨ wfH r = false) ∧
  (∀ d p H' ys, r = .leaf (some d) → wf d = true → Same H H' → H p = none → H' p = some (.lst ys) → All2 (PairD K H H') ys (parts d 0) → Q (.ref p) H') ∧
  (wfH r = false → ∀ H', Same H H' → E (.ref (He.ga K "InvalidOperation")) none H')
section
variable {P : Program} {w : World} {K : PySem.W.Frag} {mg : Str → Option Value} {base : Heap}
set_option hygiene false in
local macro_rules | `(tactic| tbr_iter "var") => `(tactic| first | ((with_reducible show W _ (.Name "tree" _) _ _ _); refine w_var 0 rfl (by tbr_iter "vis") rfl ?_) | ((with_reducible show W _ (.Name "found" _) _ _ _); refine w_var 1 rfl (by tbr_iter "vis") rfl ?_) | ((with_reducible show W _ (.Name "waiting" _) _ _ _); refine w_var 2 rfl (by tbr_iter "vis") rfl ?_) | ((with_reducible show W _ (.Name "part" _) _ _ _); refine w_var 3 rfl (by tbr_iter "vis") rfl ?_) | ((with_reducible show W _ (.Name "above" _) _ _ _); refine w_var 4 rfl (by tbr_iter "vis") rfl ?_) | ((with_reducible show W _ (.Name "inner" _) _ _ _); refine w_var 5 rfl (by tbr_iter "vis") rfl ?_))
set_option hygiene false in
local macro_rules | `(tactic| tbr_iter "set") => `(tactic| first | ((with_reducible show WB _ (.Assign [.Name "tree" _] _ _ :: _) _ _ _); refine wb_cons (ws_set 0 ?_ rfl nd)) | ((with_reducible show WB _ (.Assign [.Name "found" _] _ _ :: _) _ _ _); refine wb_cons (ws_set 1 ?_ rfl nd)) | ((with_reducible show WB _ (.Assign [.Name "waiting" _] _ _ :: _) _ _ _); refine wb_cons (ws_set 2 ?_ rfl nd)) | ((with_reducible show WB _ (.Assign [.Name "part" _] _ _ :: _) _ _ _); refine wb_cons (ws_set 3 ?_ rfl nd)) | ((with_reducible show WB _ (.Assign [.Name "above" _] _ _ :: _) _ _ _); refine wb_cons (ws_set 4 ?_ rfl nd)) | ((with_reducible show WB _ (.Assign [.Name "inner" _] _ _ :: _) _ _ _); refine wb_cons (ws_set 5 ?_ rfl nd)))
theorem ok_parts_of (T : Txt K mg) : Callee P w K mg base "parts_of" 8 ["tree"] (spParts K) := by
  refine def_ok T.f_parts_of sc_parts_of (fun _ _ _ _ _ _ us hl => match us, hl with | [_], _ => rfl) (fun vs H Q E h => ?_) fun f cdv A outer s H vs Q E hr h => ?_
  · obtain ⟨v, r, rfl, _⟩ := h; rfl
  obtain ⟨v, r, rfl, a, hno, hcl, kq, ke⟩ := h
  have nd := sc_parts_of.nd
  have hu := hr.units0
  refine wb_cons (ws_par 1 2 ?_ rfl rfl nd)
  tbr_iter "go"
  refine ⟨by decide, fun pf H1 s1 n1 hf => ?_⟩
  tbr_iter "go"
  refine ⟨two_line, fun t0 H2 s2 n2 ht => ?_⟩
  tbr_iter "go"
  refine ⟨one_line, fun pw H3 s3 n3 hw => ?_⟩
  tbr_iter "go"
  refine ⟨_, _, rfl, wb_cons (ws_while (fun m σ Hc => ∃ xs ys S a b c, σ = [some v, some (.ref pf), some (.ref pw), a, b, c] ∧ Same H Hc ∧ Hc pf = some (.lst ys) ∧ Hc pw = some (.lst xs) ∧ All2 (PairA K H Hc) xs S ∧
    wfS S = wfH r ∧ ys.length + nodesS S ≤ 100000 ∧ m = nodesS S ∧ ∀ d, r = .leaf (some d) → (∀ s ∈ S, ∃ d, s.1 = .leaf (some d)) ∧ ∃ F, All2 (PairD K H Hc) ys F ∧ (wf d = true → F ++ flatS S = parts d 0)) ?_ (fun m σ Hc i => ?_) (passes_of rfl))⟩
  · refine ⟨_, [.ref t0], [], [(r, 0)], none, none, none, rfl, (s1.trans s2).trans s3, s3 _ _ (s2 _ _ hf), hw, .one ⟨t0, v, rfl, s3 _ _ ht, a⟩, ?_, ?_, rfl, ?_⟩
    · simp [wfS]
    · simpa [nodesS] using hno
    · rintro d rfl
      refine ⟨fun s hs => ?_, [], .nil, fun _ => ?_⟩
      · rw [List.mem_singleton.mp hs]
        exact ⟨d, rfl⟩
      · simp [flatS]
  · obtain ⟨xs, ys, S, a1, b1, c1, rfl, sm, hf', hw', hx, hwf, hle, rfl, hd0⟩ := i
    tbr_iter "go"
    refine ⟨zero_line, fun pe He se ne hpe => cv_ne_nil hu (SqL.of (se _ _ hw')) (SqL.of hpe) ⟨_, rfl, w_if2 (fun c => ?_) (fun c => ?_)⟩⟩
    · obtain ⟨x, ⟨r1, k1⟩, xs', S', rfl, rfl, ⟨t1, v1, rfl, ht1, a1⟩, hx'⟩ := hx.last (by rintro rfl; cases c)
      have npw : H pw = none := same_nul s1 (same_nul s2 n3)
      have npf : H pf = none := n1
      have nfw : pf ≠ pw := ne_of_none (s2 _ _ hf) n3
      refine wb_cons (ws_tup2 3 4 (w_pop0 ?_) rfl rfl nd)
      tbr_iter "go"
      refine ⟨pw, xs' ++ [.ref t1], .ref t1, rfl, se _ _ hw', by simp, ?_⟩
      have hHp : ∃ Hp, Hp = upd He pw (.lst (xs' ++ [V.ref t1]).dropLast) := ⟨_, rfl⟩
      obtain ⟨Hp, hHp⟩ := hHp
      rw [← hHp]
      have sl1 : Sl Hc Hp := by rw [hHp]; exact (Sl.of se).lst (se _ _ hw')
      have sm1 : Same H Hp := by rw [hHp]; exact same_upd (sm.trans se) npw
      have hwp : Hp pw = some (.lst xs') := by rw [hHp, upd_same, List.dropLast_concat]
      have hfp : Hp pf = some (.lst ys) := by rw [hHp, upd_ne nfw]; exact se _ _ hf'
      clear hHp
      have ht1' := sl1 _ _ ht1 rfl
      refine ⟨t1, v1, .int k1, rfl, SqT.of ht1', ?_⟩
      have hwf' : (wfS S' && wfH r1) = wfH r := by rw [← hwf]; simp [wfS]
      have hn : ys.length + (nodesS S' + (1 + nodesHs (kidsH r1))) ≤ 100000 := by
        have e := hle
        rw [nodesS_app] at e
        have e2 : nodesS [(r1, k1)] = 1 + nodesHs (kidsH r1) := by show nodesH r1 + 0 = _; rw [nodesH_eq, Nat.add_zero]
        rw [e2] at e
        exact e
      tbr_iter "go"
      refine w_call (ok_is_formed T) (hr.mono (by decide)) passL ?_
      tbr_iter "go"
      refine ⟨v1, r1, rfl, hv_same sm1 a1, fun H4 s4 => ⟨_, rfl, w_if2 (fun c => ?_) (fun c => ?_)⟩⟩
      · have c : formedH r1 = false := by simpa using c
        refine wb_cons (ws_raise T.e_InvalidOperation (takes_of rfl rfl rfl rfl) (ke ?_ _ (sm1.trans s4)))
        rw [← hwf', wfH_eq r1, c, Bool.false_and, Bool.and_false]
      · have c : formedH r1 = true := by simpa using c
        tbr_iter "go"
        refine ws_expr (w_bm1 PySem.F.plainAttrs_list PySem.F.slot_list_append PySem.F.type_list_append ?_)
        tbr_iter "go"
        refine ⟨tyV_list ⟨_, _, rfl, SqL.of (s4 _ _ hfp)⟩, ?_⟩
        tbr_iter "go"
        refine ⟨two_line, fun t5 H5 s5 n5 ht5 => mv_append (s5 _ _ (s4 _ _ hfp)) (Nat.lt_of_lt_of_le (show ys.length < 100001 by omega) (by decide)) ?_⟩
        have hHp : ∃ H6, H6 = upd H5 pf (.lst (ys ++ [V.ref t5])) := ⟨_, rfl⟩
        obtain ⟨H6, hH6⟩ := hHp
        rw [← hH6]
        have s45 := s4.trans s5
        have sl6 : Sl Hp H6 := by rw [hH6]; exact (Sl.of s45).lst (s45 _ _ hfp)
        have sm6 : Same H H6 := by rw [hH6]; exact same_upd (sm1.trans s45) npf
        have hfp6 : H6 pf = some (.lst (ys ++ [V.ref t5])) := by rw [hH6, upd_same]
        have hwp6 : H6 pw = some (.lst xs') := by rw [hH6, upd_ne nfw.symm]; exact s45 _ _ hwp
        have ht6 : H6 t5 = some (.tup [v1, .int k1]) := by rw [hH6, upd_ne (ne_of ht5 (s45 _ _ hfp) (by intro q; cases q))]; exact ht5
        clear hH6
        have hx6 := hx'.imp fun x a q => q.sl (sl1.trans sl6)
        -- the found ones, for data
        have hd6 : ∀ d, r = .leaf (some d) → (∀ s ∈ S', ∃ d, s.1 = .leaf (some d)) ∧ ∃ d1, r1 = .leaf (some d1) ∧ ∃ F, All2 (PairD K H H6) (ys ++ [V.ref t5]) F ∧ (wf d = true → F ++ (partsAll (kids d1) (k1 + 1) ++ flatS S') = parts d 0) := fun d e => by
          obtain ⟨q1, F, q2, q3⟩ := hd0 d e
          obtain ⟨d1, e1⟩ := q1 (r1, k1) (by simp)
          have e1 : r1 = .leaf (some d1) := e1
          subst e1
          refine ⟨fun s hs => q1 s (List.mem_append_left _ hs), d1, rfl, F ++ [(d1, k1)], ?_, fun w => ?_⟩
          · cases a1 with
            | leaf a1 =>
            cases a1 with
            | dat h1 ok1 => exact (q2.imp fun x a q => q.sl (sl1.trans sl6)).app (.one (⟨t5, v1, rfl, ht6, h1, ok1⟩ : PairD K H H6 (.ref t5) (d1, k1)))
          · rw [← q3 w, flatS_app]
            have e2 : flatS [(HTd.leaf (some d1), k1)] = parts d1 k1 := by simp [flatS]
            rw [e2, parts_eq]
            simp
        rcases choose_view a1 c with ⟨p6, n6, p7, us, rfl, hz6, hu7, hl7, hk7⟩ | ⟨p6, z, zr, rfl, hz6, hz, hk⟩
        · have hz6 : SqT K H6 p6 _ := same_tup sm6 hz6
          have hu7 := same_tup sm6 hu7
          tbr_iter "go"
          refine ws_expr (w_bm1 PySem.F.plainAttrs_list PySem.F.slot_list_extend PySem.F.type_list_extend ?_)
          tbr_iter "go"
          refine ⟨tyV_list ⟨_, _, rfl, SqL.of hwp6⟩, ?_⟩
          refine w_lc [("inner", 5)] rfl rfl nd (by tbr_iter "blk") rfl (fun _ _ _ _ _ => ⟨Or.inl rfl, Or.inr rfl⟩) (wi_val ?_)
          tbr_iter "go"
          refine itv_tup hu7 ⟨us, seqIt_tup hu7, Nat.lt_of_le_of_lt hl7 (by decide), fun x y H => ∃ t, y = .ref t ∧ H t = some (.tup [x, .int (k1 + 1)]), ?_, ?_, ?_⟩
          · rintro x y Ha Hb ⟨t, e, q⟩ sl
            exact ⟨t, e, sl _ _ q rfl⟩
          · intro u hu H8 s8 _ _ _ _ _
            tbr_iter "go"
            exact ⟨two_line, fun t9 H9 s9 n9 ht9 => ⟨s9, t9, rfl, ht9⟩⟩
          · intro pk ks H8 s8 n8 hpk rel
            have hwp8 := s8 _ _ hwp6
            have lk := rel.len
            refine mv_extend hwp8 hpk ?_ ?_
            · have e := hx6.len
              have e2 : S'.length ≤ nodesS S' := nodesS_len S'
              exact Nat.le_trans (show xs'.length + ks.length ≤ 200000 by omega) (by decide)
            · have sl9 : Sl H6 (upd H8 pw (.lst (xs' ++ ks))) := (Sl.of s8).lst hwp8
              refine wb_nil (wb_nil ⟨nodesS S' + nodesHs (kidsH r1), ?_, xs' ++ ks, ys ++ [V.ref t5], S' ++ kidsS (kidsH r1) (k1 + 1), _, _, _, rfl, same_upd (sm6.trans s8) npw, ?_, upd_same, ?_, ?_, ?_, ?_, fun d e => ?_⟩)
              · rw [nodesS_app]
                show _ < _ + (nodesH _ + 0)
                rw [nodesH_eq]
                omega
              · rw [upd_ne nfw]
                exact s8 _ _ hfp6
              · refine (hx6.imp fun x a q => q.sl sl9).app ?_
                exact all_kids hk7 (rel.imp fun x y ⟨t, e, q⟩ => ⟨t, e, ((Sl.refl H8).lst hwp8) _ _ q rfl⟩)
              · rw [← hwf', wfH_eq r1, c, Bool.true_and, ← wfS_kids (kidsH r1) (k1 + 1)]
                simp [wfS]
              · rw [nodesS_app, nodesS_kids, List.length_append]
                simp only [List.length_singleton]
                omega
              · rw [nodesS_app, nodesS_kids]
              · obtain ⟨q1, d1, e1, F, q2, q3⟩ := hd6 d e
                subst e1
                refine ⟨fun s hs => ?_, F, q2.imp fun x a q => q.sl sl9, fun w => ?_⟩
                · rcases List.mem_append.mp hs with hs | hs
                  · exact q1 s hs
                  · obtain ⟨t, ht, e⟩ := List.mem_map.mp hs
                    obtain ⟨d2, hd2, e2⟩ := List.mem_map.mp (show t ∈ (kids d1).map _ from ht)
                    exact ⟨d2, by rw [← e, ← e2]⟩
                · rw [← q3 w, flatS_app]
                  have e2 : flatS (kidsS (kidsH (.leaf (some d1))) (k1 + 1)) = partsAll (kids d1) (k1 + 1) := flatS_kids _ _
                  rw [e2]
        · have hz6 : SqT K H6 p6 _ := same_tup sm6 hz6
          tbr_iter "go"
          refine ⟨_, rfl, w_if2 (fun c2 => absurd (by simpa using c2) hz) (fun c2 => ?_)⟩
          refine wb_nil (wb_nil ⟨nodesS S', ?_, xs', ys ++ [V.ref t5], S', _, _, _, rfl, sm6, hfp6, hwp6, hx6, ?_, ?_, rfl, fun d e => ?_⟩)
          · rw [nodesS_app]
            show _ < _ + (nodesH _ + 0)
            rw [nodesH_eq, hk]
            omega
          · rw [← hwf', wfH_eq r1, c, hk]
            simp [wfHs]
          · rw [hk] at hn
            simp only [List.length_append, List.length_singleton]
            omega
          · obtain ⟨q1, d1, e1, F, q2, q3⟩ := hd6 d e
            subst e1
            refine ⟨q1, F, q2, fun w => ?_⟩
            have ek : kids d1 = [] := by
              have e := hk
              simpa [kidsH] using e
            rw [← q3 w, ek]
            simp [partsAll]
    · have e : xs = [] := by
        cases xs with
        | nil => rfl
        | cons x xs => cases c
      subst e
      cases hx
      have sme := sm.trans se
      tbr_iter "go"
      have wo : wfH r = true := by rw [← hwf]; rfl
      rcases hcl with ⟨d, rfl⟩ | hcl
      · obtain ⟨_, F, q2, q3⟩ := hd0 d rfl
        have wd : wf d = true := wo
        have q3 := q3 wd
        rw [show flatS [] = [] from rfl, List.append_nil] at q3
        subst q3
        exact kq d pf _ ys rfl wd sme n1 (se _ _ hf') (q2.imp fun x a q => q.sl (Sl.of se))
      · rw [wo] at hcl
        cases hcl
end
end Ax
end
section
set_option maxHeartbeats 4000000
open PySem PySem.Spec PyProof.Rows L2 Ax
set_option hygiene false in
local macro_rules | `(tactic| tbr_iter "boot") => `(tactic| with_reducible first | exact Ax.b_len | exact Ax.b_all | exact Ax.b_any | exact Ax.b_sorted | exact Ax.b_isinstance | exact Ax.b_abs | exact Ax.b_max | exact Ax.b_min | exact Ax.b_sum | exact Ax.b_repr | exact Ax.b_iter | exact Ax.b_ord | exact Ax.b_chr | exact Ax.b_str | exact Ax.b_int | exact Ax.b_bool | exact Ax.b_tuple | exact Ax.b_list | exact Ax.b_dict | exact Ax.b_set | exact Ax.b_range | exact Ax.b_enumerate | exact Ax.b_zip)
set_option hygiene false in
local macro_rules | `(tactic| tbr_iter "vis") => `(tactic| first | exact Or.inl rfl | exact Or.inr (Or.inl rfl) | exact Or.inr (Or.inr rfl))
set_option hygiene false in
local macro_rules | `(tactic| tbr_iter "w") => `(tactic| first
  | refine wb_cons ?_
  | refine wb_nil ?_
  | refine ws_ret ?_
  | refine ws_if ?_
  | refine ws_sub ?_
  | refine wa_cons ?_
  | refine wa_nil ?_
  | refine w_int ?_
  | refine w_str ?_
  | refine w_bl ?_
  | refine w_non ?_
  | tbr_iter "var"
  | refine w_bin ?_
  | refine w_cmp ?_
  | refine w_chain ?_
  | refine w_and ?_
  | refine w_or ?_
  | refine w_one ?_
  | refine w_not ?_
  | refine w_ix ?_
  | refine w_ifExp ?_
  | refine w_tup ?_
  | refine w_lst ?_
  | refine wt_not ?_
  | refine wt_bool ?_
  | refine ww_and ?_
  | refine ww_and1 ?_
  | refine ww_or ?_
  | refine ww_or1 ?_
  | refine wt_cmp ?_
  | refine wt_val ?_
  | tbr_iter "call"
  | (refine w_glob (by tbr_iter "mg") ?_)
  | (refine w_callB (by tbr_iter "z") ?_)
  | (refine w_callTy (by tbr_iter "z") ?_)
  | (refine w_bltT (by tbr_iter "z") ?_))
set_option hygiene false in
local macro_rules | `(tactic| tbr_iter "blk") => `(tactic| first | exact blkOk_by (by dsimp only [cxOf, envOfC]; decide +kernel))
set_option hygiene false in
local macro_rules | `(tactic| tbr_iter "iff") => `(tactic| first
  | refine iteT ?_
  | refine iteF ?_
  | refine w_if2 (fun _ => ?_) (fun _ => ?_))
set_option hygiene false in
local macro_rules | `(tactic| tbr_iter "sc") => `(tactic| first | omega | decide)
set_option hygiene false in
local macro_rules | `(tactic| tbr_iter "at") => `(tactic| first | exact atI_0 | exact atI_1 | exact atI_2)
set_option hygiene false in
local macro_rules | `(tactic| tbr_iter "sql") => `(tactic| ((try dsimp only [L2.cxOf, L2.Cx.blk]); with_reducible first | assumption | exact SqL.of (by assumption)))
set_option hygiene false in
local macro_rules | `(tactic| tbr_iter "sqt") => `(tactic| ((try dsimp only [L2.cxOf, L2.Cx.blk]); with_reducible first | assumption | exact SqT.of (by assumption)))
set_option hygiene false in
local macro_rules | `(tactic| tbr_iter "v") => `(tactic| first
  | refine bv_add ?_
  | refine bv_sub ?_
  | ((with_reducible show BinV _ .Mult _ _ _ _); refine bv_mul (Or.inl ⟨by tbr_iter "sc", by tbr_iter "sc"⟩) ?_)
  | ((with_reducible show BinV _ .Mult _ _ _ _); refine bv_mul (Or.inr ⟨by tbr_iter "sc", by tbr_iter "sc"⟩) ?_)
  | ((with_reducible show BinV _ .Mod _ _ _ _); refine bv_mod (by tbr_iter "sc") ?_)
  | ((with_reducible show BinV _ .FloorDiv _ _ _ _); refine bv_fdiv ⟨by tbr_iter "sc", by tbr_iter "sc"⟩ ?_)
  | ((with_reducible show BinV _ .Pow _ _ _ _); refine bv_pow ⟨by decide, by decide +kernel⟩ ?_)
  | refine cv_lt ?_
  | refine cv_le ?_
  | refine cv_gt ?_
  | refine cv_ge ?_
  | ((with_reducible show CmpV _ .Eq _ _ _ _); refine cv_eq rfl ?_)
  | ((with_reducible show CmpV _ .NotEq _ _ _ _); refine cv_ne rfl ?_)
  | refine iv_list (by tbr_iter "sql") (by tbr_iter "at") ?_
  | refine iv_tup (by tbr_iter "sqt") (by tbr_iter "at") ?_
  | refine kv_len_seq (Or.inl (by tbr_iter "sql")) ?_
  | refine kv_len_seq (Or.inr (by tbr_iter "sqt")) ?_
  | refine kv_int ?_
  | refine kv_intB ?_
  | refine kv_abs ?_
  | refine kv_max2 rfl ?_
  | refine kv_min2 rfl ?_)
set_option hygiene false in
local macro_rules | `(tactic| tbr_iter "b") => `(tactic| first
  | refine ⟨_, rfl, iteT ?_⟩
  | refine ⟨_, rfl, iteF ?_⟩
  | refine iteT ?_
  | refine iteF ?_)
set_option hygiene false in
local macro_rules | `(tactic| tbr_iter "go") => `(tactic| repeat (first | tbr_iter "w" | tbr_iter "v" | tbr_iter "b"))
set_option hygiene false in
local macro_rules | `(tactic| tbr_iter "nof") => `(tactic| (intro d hd; cases d <;> first | rfl | exact absurd rfl (hd _)))
set_option hygiene false in
local macro_rules | `(tactic| tbr_iter "e1") => `(tactic| first | ((with_reducible show W _ _ _ _ _); tbr_iter "w") | ((with_reducible show WA _ _ _ _ _); tbr_iter "w") | ((with_reducible show WT _ _ _ _ _); tbr_iter "w") | ((with_reducible show WW _ _ _ _ _); tbr_iter "w") | tbr_iter "v")
set_option hygiene false in
local macro_rules | `(tactic| tbr_iter "ex") => `(tactic| repeat (tbr_iter "e1"))
set_option hygiene false in
local macro_rules | `(tactic| tbr_iter "z") => `(tactic| ((try dsimp only [L2.cxOf]); with_reducible first | exact T.z_ValueError | exact T.z_abs | exact T.z_all | exact T.z_int | exact T.z_isinstance | exact T.z_len | exact T.z_max | exact T.z_min | exact T.z_range | exact T.z_set | exact T.z_sorted | exact T.z_str | exact T.z_sum | exact T.z_tuple))
set_option hygiene false in
local macro_rules | `(tactic| tbr_iter "mg") => `(tactic| ((try dsimp only [L2.cxOf]); with_reducible first | exact T.c_ALPHABET | exact T.c_MAX_LETTERS | exact T.c_MAX_COLUMNS | exact T.c_IN | exact T.c_OUT | exact T.c_UNLIKE | exact T.c_BROKEN | exact T.c_FINE | exact T.c_CHOOSE | exact T.c_MOST_TREES))
namespace Ax
mutual
def heightD : PyData → Nat
  | .tuple [.str z, _, .tuple ts] => bif decide (z = "choose") then 1 + heightAll ts else 0
  | _ => 0
def heightAll : List PyData → Nat
  | [] => 0
  | d :: ds => max (heightD d) (heightAll ds)
end
def strOf : PyData → Str
  | .str z => z
  | _ => ⟨#[]⟩
mutual
/-- the variables of the choices -/
def namesD : PyData → List Str
  | .tuple [.str z, n, .tuple ts] => bif decide (z = "choose") then strOf n :: namesAll ts else []
  | _ => []
def namesAll : List PyData → List Str
  | [] => []
  | d :: ds => namesD d ++ namesAll ds
end
/-- the own variable -/
def ownName : PyData → List Str
  | .tuple [.str z, n, .tuple _] => bif decide (z = "choose") then [strOf n] else []
  | _ => []
theorem namesD_eq (d : PyData) : namesD d = ownName d ++ namesAll (kids d) := by
  unfold namesD ownName kids
  split
  · rename_i z n ts
    cases e : decide (z = "choose") <;> simp only [e, cond_true, cond_false, namesAll, List.nil_append, List.singleton_append]
  · simp [namesAll]
theorem heightD_eq (d : PyData) (h : kids d ≠ []) : heightD d = 1 + heightAll (kids d) := by
  unfold heightD
  unfold kids at h ⊢
  split at h
  · rename_i z n ts
    cases e : decide (z = "choose")
    · rw [e] at h
      exact absurd rfl h
    · simp [e]
  · exact absurd rfl h
theorem heightD_leaf (d : PyData) (h : ∀ n ts, d ≠ .tuple [.str "choose", n, .tuple ts]) : heightD d = 0 := by
  unfold heightD
  split
  · rename_i z n ts
    have e : decide (z = "choose") = false := decide_eq_false fun e => h n ts (by rw [e])
    rw [e, cond_false]
  · rfl
theorem heightD_nil (d : PyData) (w : isFormedD d = true) (h : kids d = []) : heightD d = 0 := by
  rcases formed_cases w with ⟨n, ts, rfl, hk, _, hl, _⟩ | ⟨z, dr, rfl, hz, _⟩
  · rw [h] at hk
    subst hk
    simp at hl
  · refine heightD_leaf _ fun n ts e => ?_
    injection e with e
    injection e with e _
    injection e with e
    exact hz e
mutual
theorem parts_len : ∀ (d : PyData) (k : Nat), (parts d k).length = nodes d
  | .none, k => by simp [parts, nodes]
  | .bool _, k => by simp [parts, nodes]
  | .int _, k => by simp [parts, nodes]
  | .str _, k => by simp [parts, nodes]
  | .list _, k => by simp [parts, nodes]
  | .dict _, k => by simp [parts, nodes]
  | .tuple ds, k => by
    rw [parts_eq, nodes_eq, List.length_cons]
    have e : (partsAll (kids (.tuple ds)) (k + 1)).length = nodesAll (kids (.tuple ds)) := by
      unfold kids
      split
      · rename_i z n ts h
        injection h with h
        cases e : decide (z = "choose")
        · simp [partsAll, nodesAll]
        · subst h
          exact partsAll_len ts (k + 1)
      · simp [partsAll, nodesAll]
    omega
theorem partsAll_len : ∀ (ds : List PyData) (k : Nat), (partsAll ds k).length = nodesAll ds
  | [], k => by simp [partsAll, nodesAll]
  | d :: ds, k => by
    rw [partsAll, nodesAll, List.length_append, parts_len d k, partsAll_len ds k]
    omega
end
/-- what is true of every part, by the parts' own -/
theorem parts_all {P : PyData × Nat → Prop} : ∀ (n : Nat) (d : PyData) (k : Nat), nodes d ≤ n → (∀ e j, P (e, j) → ∀ c ∈ kids e, P (c, j + 1)) → P (d, k) → ∀ q ∈ parts d k, P q := by
  intro n
  induction n with
  | zero =>
    intro d k h
    rw [nodes_eq] at h
    omega
  | succ n ih =>
    intro d k h st p q hq
    rw [parts_eq] at hq
    rw [nodes_eq] at h
    rcases List.mem_cons.mp hq with e | hq
    · rw [e]; exact p
    have go : ∀ ts : List PyData, nodesAll ts ≤ n → (∀ c ∈ ts, P (c, k + 1)) → q ∈ partsAll ts (k + 1) → P q := by
      intro ts
      induction ts with
      | nil => intro _ _ hq; simp [partsAll] at hq
      | cons t ts iht =>
        intro hn hp hq
        rw [partsAll] at hq
        rw [nodesAll] at hn
        rcases List.mem_append.mp hq with hq | hq
        · exact iht (by omega) (fun c hc => hp c (List.mem_cons_of_mem _ hc)) hq
        · exact ih t (k + 1) (by omega) st (hp t List.mem_cons_self) q hq
    exact go _ (by omega) (st d k p) hq
theorem heightAll_le {c : PyData} : ∀ {ts : List PyData}, c ∈ ts → heightD c ≤ heightAll ts
  | t :: ts, h => by
    rw [heightAll]
    rcases List.mem_cons.mp h with e | h
    · rw [e]; exact Nat.le_max_left _ _
    · exact Nat.le_trans (heightAll_le h) (Nat.le_max_right _ _)
theorem kids_height {e c : PyData} (h : c ∈ kids e) : heightD c + 1 ≤ heightD e := by
  have hne : kids e ≠ [] := fun z => by rw [z] at h; cases h
  rw [heightD_eq e hne]
  have := heightAll_le h
  omega
theorem parts_height (d : PyData) (k : Nat) : ∀ q ∈ parts d k, q.2 + heightD q.1 ≤ k + heightD d :=
  parts_all (P := fun q => q.2 + heightD q.1 ≤ k + heightD d) (nodes d) d k (Nat.le_refl _) (fun e j p c hc => by
    have := kids_height hc
    dsimp only at p ⊢
    omega) (Nat.le_refl _)
theorem heightAll_mem : ∀ {ts : List PyData}, ts ≠ [] → ∃ c ∈ ts, heightD c = heightAll ts
  | [t], _ => ⟨t, List.mem_cons_self, by simp [heightAll]⟩
  | t :: u :: ts, _ => by
    obtain ⟨c, h1, h2⟩ := heightAll_mem (ts := u :: ts) (by simp)
    rw [heightAll]
    by_cases z : heightD t ≤ heightAll (u :: ts)
    · exact ⟨c, List.mem_cons_of_mem _ h1, by rw [Nat.max_eq_right z]; exact h2⟩
    · exact ⟨t, List.mem_cons_self, by rw [Nat.max_eq_left (by omega)]⟩
theorem mem_partsAll {c : PyData} {q : PyData × Nat} {k : Nat} : ∀ {ts : List PyData}, c ∈ ts → q ∈ parts c k → q ∈ partsAll ts k
  | t :: ts, h, hq => by
    rw [partsAll]
    rcases List.mem_cons.mp h with e | h
    · rw [← e]; exact List.mem_append_right _ hq
    · exact List.mem_append_left _ (mem_partsAll h hq)
theorem wfAll_mem {c : PyData} {ts : List PyData} (h : wfAll ts = true) (hc : c ∈ ts) : wf c = true := by
  rw [wfAll_all] at h
  exact List.all_eq_true.mp h c hc
theorem nodes_mem {c : PyData} : ∀ {ts : List PyData}, c ∈ ts → nodes c ≤ nodesAll ts
  | t :: ts, h => by
    rw [nodesAll]
    rcases List.mem_cons.mp h with e | h
    · rw [e]; omega
    · have := nodes_mem h
      omega
theorem parts_top : ∀ (n : Nat) (d : PyData) (k : Nat), nodes d ≤ n → wf d = true → ∃ e, (e, k + heightD d) ∈ parts d k := by
  intro n
  induction n with
  | zero =>
    intro d k h
    rw [nodes_eq] at h
    omega
  | succ n ih =>
    intro d k h w
    rw [nodes_eq] at h
    rw [wf_eq, Bool.and_eq_true] at w
    by_cases z : kids d = []
    · rw [heightD_nil d w.1 z, parts_eq]
      exact ⟨d, List.mem_cons_self⟩
    · obtain ⟨c, hc, e⟩ := heightAll_mem z
      have hn := nodes_mem hc
      obtain ⟨e', h'⟩ := ih c (k + 1) (by omega) (wfAll_mem w.2 hc)
      refine ⟨e', ?_⟩
      rw [heightD_eq d z, ← e, parts_eq]
      have e2 : k + (1 + heightD c) = k + 1 + heightD c := by omega
      rw [e2]
      exact List.mem_cons_of_mem _ (mem_partsAll hc h')
/-- the names of the parts -/
theorem parts_names : ∀ (n : Nat) (d : PyData) (k : Nat) (z : Str), nodes d ≤ n → (z ∈ namesD d ↔ ∃ q ∈ parts d k, z ∈ ownName q.1) := by
  intro n
  induction n with
  | zero =>
    intro d k z h
    rw [nodes_eq] at h
    omega
  | succ n ih =>
    intro d k z h
    rw [nodes_eq] at h
    have go : ∀ ts : List PyData, nodesAll ts ≤ n → (z ∈ namesAll ts ↔ ∃ q ∈ partsAll ts (k + 1), z ∈ ownName q.1) := by
      intro ts
      induction ts with
      | nil => intro _; simp [namesAll, partsAll]
      | cons t ts iht =>
        intro hn
        rw [nodesAll] at hn
        rw [namesAll, partsAll, List.mem_append, ih t (k + 1) z (by omega), iht (by omega)]
        constructor
        · rintro (⟨q, h1, h2⟩ | ⟨q, h1, h2⟩)
          · exact ⟨q, List.mem_append_right _ h1, h2⟩
          · exact ⟨q, List.mem_append_left _ h1, h2⟩
        · rintro ⟨q, h1, h2⟩
          rcases List.mem_append.mp h1 with h1 | h1
          · exact .inr ⟨q, h1, h2⟩
          · exact .inl ⟨q, h1, h2⟩
    rw [namesD_eq, parts_eq, List.mem_append, go _ (by omega)]
    constructor
    · rintro (h | ⟨q, h1, h2⟩)
      · exact ⟨_, List.mem_cons_self, h⟩
      · exact ⟨q, List.mem_cons_of_mem _ h1, h2⟩
    · rintro ⟨q, h1, h2⟩
      rcases List.mem_cons.mp h1 with e | h1
      · left; rw [e] at h2; exact h2
      · exact .inr ⟨q, h1, h2⟩
def spTree (K : PySem.W.Frag) (G : PyData → Hp → VK → Prop) : Sp := fun vs H Q E => ∃ v r, vs = [v] ∧ HV K H v r ∧ nodesH r ≤ 100000 ∧ ((∃ d, r = .leaf (some d)) ∨ wfH r = false) ∧ (∀ d, r = .leaf (some d) → wf d = true → G d H Q) ∧ (wfH r = false → ∀ H', Same H H' → E (.ref (He.ga K "InvalidOperation")) none H')
def gSize (d : PyData) (H : Hp) (Q : VK) : Prop := ∀ H', Same H H' → Q (.int (nodes d)) H'
def gHeight (d : PyData) (H : Hp) (Q : VK) : Prop := ∀ H', Same H H' → Q (.int (heightD d)) H'
def gChoices (d : PyData) (H : Hp) (Q : VK) : Prop := (∃ L : List Str, L.length < 64 ∧ ∀ z ∈ namesD d, z ∈ L) ∧ ∀ q ys H', Same H H' → H q = none → H' q = some (.tup (ys.map V.str)) → sortedS ys = true → ys.Nodup → (∀ z, z ∈ ys ↔ z ∈ namesD d) → Q (.ref q) H'
theorem all2_mem {α : Type} {R : V → α → Prop} {v : V} : ∀ {xs : List V} {as : List α}, All2 R xs as → v ∈ xs → ∃ a ∈ as, R v a
  | _, _, .cons r t, h => by
    rcases List.mem_cons.mp h with e | h
    · exact ⟨_, List.mem_cons_self, e ▸ r⟩
    · obtain ⟨a, h1, h2⟩ := all2_mem t h
      exact ⟨a, List.mem_cons_of_mem _ h1, h2⟩
section
variable {P : Program} {w : World} {K : PySem.W.Frag} {mg : Str → Option Value} {base : Heap}
set_option hygiene false in
local macro_rules | `(tactic| tbr_iter "var") => `(tactic| first | ((with_reducible show W _ (.Name "tree" _) _ _ _); refine w_var 0 rfl (by tbr_iter "vis") rfl ?_))
set_option hygiene false in
local macro_rules | `(tactic| tbr_iter "set") => `(tactic| first | ((with_reducible show WB _ (.Assign [.Name "tree" _] _ _ :: _) _ _ _); refine wb_cons (ws_set 0 ?_ rfl nd)))
set_option hygiene false in
local macro_rules | `(tactic| tbr_iter "px") => `(tactic| exact passes_call (takes_of rfl rfl rfl rfl) fun _ _ _ _ h => h)
theorem ok_size_of (T : Txt K mg) : Callee P w K mg base "size_of" 9 ["tree"] (spTree K gSize) := by
  refine def_ok T.f_size_of sc_size_of (fun _ _ _ _ _ _ us hl => match us, hl with | [_], _ => rfl) (fun vs H Q E h => ?_) fun f cdv A outer s H vs Q E hr h => ?_
  · obtain ⟨v, o, rfl, _⟩ := h; rfl
  obtain ⟨v, r0, rfl, a, hno, hcl, kq, ke⟩ := h
  have nd := sc_size_of.nd
  tbr_iter "go"
  refine w_call (ok_parts_of T) hr (passes_call (takes_of rfl rfl rfl rfl) fun _ _ _ _ h => h) ?_
  tbr_iter "go"
  refine ⟨v, r0, rfl, a, hno, hcl, fun d p H1 ys e wd s1 n1 hp r => ?_, ke⟩
  tbr_iter "go"
  have e1 := kq d e wd H1 s1
  rw [← parts_len d 0, ← r.len] at e1
  exact e1
end
end Ax
end
section
set_option maxHeartbeats 4000000
open PySem PySem.Spec PyProof.Rows L2 Ax
set_option hygiene false in
local macro_rules | `(tactic| tbr_iter "boot") => `(tactic| with_reducible first | exact Ax.b_len | exact Ax.b_all | exact Ax.b_any | exact Ax.b_sorted | exact Ax.b_isinstance | exact Ax.b_abs | exact Ax.b_max | exact Ax.b_min | exact Ax.b_sum | exact Ax.b_repr | exact Ax.b_iter | exact Ax.b_ord | exact Ax.b_chr | exact Ax.b_str | exact Ax.b_int | exact Ax.b_bool | exact Ax.b_tuple | exact Ax.b_list | exact Ax.b_dict | exact Ax.b_set | exact Ax.b_range | exact Ax.b_enumerate | exact Ax.b_zip)
set_option hygiene false in
local macro_rules | `(tactic| tbr_iter "vis") => `(tactic| first | exact Or.inl rfl | exact Or.inr (Or.inl rfl) | exact Or.inr (Or.inr rfl))
set_option hygiene false in
local macro_rules | `(tactic| tbr_iter "w") => `(tactic| first
  | refine wb_cons ?_
  | refine wb_nil ?_
  | refine ws_ret ?_
  | refine ws_if ?_
  | refine ws_sub ?_
  | refine wa_cons ?_
  | refine wa_nil ?_
  | refine w_int ?_
  | refine w_str ?_
  | refine w_bl ?_
  | refine w_non ?_
  | tbr_iter "var"
  | refine w_bin ?_
  | refine w_cmp ?_
  | refine w_chain ?_
  | refine w_and ?_
  | refine w_or ?_
  | refine w_one ?_
  | refine w_not ?_
  | refine w_ix ?_
  | refine w_ifExp ?_
  | refine w_tup ?_
  | refine w_lst ?_
  | refine wt_not ?_
  | refine wt_bool ?_
  | refine ww_and ?_
  | refine ww_and1 ?_
  | refine ww_or ?_
  | refine ww_or1 ?_
  | refine wt_cmp ?_
  | refine wt_val ?_
  | tbr_iter "call"
  | (refine w_glob (by tbr_iter "mg") ?_)
  | (refine w_callB (by tbr_iter "z") ?_)
  | (refine w_callTy (by tbr_iter "z") ?_)
  | (refine w_bltT (by tbr_iter "z") ?_))
set_option hygiene false in
local macro_rules | `(tactic| tbr_iter "blk") => `(tactic| first | exact blkOk_by (by dsimp only [cxOf, envOfC]; decide +kernel))
set_option hygiene false in
local macro_rules | `(tactic| tbr_iter "iff") => `(tactic| first
  | refine iteT ?_
  | refine iteF ?_
  | refine w_if2 (fun _ => ?_) (fun _ => ?_))
set_option hygiene false in
local macro_rules | `(tactic| tbr_iter "sc") => `(tactic| first | omega | decide)
set_option hygiene false in
local macro_rules | `(tactic| tbr_iter "at") => `(tactic| first | exact atI_0 | exact atI_1 | exact atI_2)
set_option hygiene false in
local macro_rules | `(tactic| tbr_iter "sql") => `(tactic| ((try dsimp only [L2.cxOf, L2.Cx.blk]); with_reducible first | assumption | exact SqL.of (by assumption)))
set_option hygiene false in
local macro_rules | `(tactic| tbr_iter "sqt") => `(tactic| ((try dsimp only [L2.cxOf, L2.Cx.blk]); with_reducible first | assumption | exact SqT.of (by assumption)))
set_option hygiene false in
local macro_rules | `(tactic| tbr_iter "v") => `(tactic| first
  | refine bv_add ?_
  | refine bv_sub ?_
  | ((with_reducible show BinV _ .Mult _ _ _ _); refine bv_mul (Or.inl ⟨by tbr_iter "sc", by tbr_iter "sc"⟩) ?_)
  | ((with_reducible show BinV _ .Mult _ _ _ _); refine bv_mul (Or.inr ⟨by tbr_iter "sc", by tbr_iter "sc"⟩) ?_)
  | ((with_reducible show BinV _ .Mod _ _ _ _); refine bv_mod (by tbr_iter "sc") ?_)
  | ((with_reducible show BinV _ .FloorDiv _ _ _ _); refine bv_fdiv ⟨by tbr_iter "sc", by tbr_iter "sc"⟩ ?_)
  | ((with_reducible show BinV _ .Pow _ _ _ _); refine bv_pow ⟨by decide, by decide +kernel⟩ ?_)
  | refine cv_lt ?_
  | refine cv_le ?_
  | refine cv_gt ?_
  | refine cv_ge ?_
  | ((with_reducible show CmpV _ .Eq _ _ _ _); refine cv_eq rfl ?_)
  | ((with_reducible show CmpV _ .NotEq _ _ _ _); refine cv_ne rfl ?_)
  | refine iv_list (by tbr_iter "sql") (by tbr_iter "at") ?_
  | refine iv_tup (by tbr_iter "sqt") (by tbr_iter "at") ?_
  | refine kv_len_seq (Or.inl (by tbr_iter "sql")) ?_
  | refine kv_len_seq (Or.inr (by tbr_iter "sqt")) ?_
  | refine kv_int ?_
  | refine kv_intB ?_
  | refine kv_abs ?_
  | refine kv_max2 rfl ?_
  | refine kv_min2 rfl ?_)
set_option hygiene false in
local macro_rules | `(tactic| tbr_iter "b") => `(tactic| first
  | refine ⟨_, rfl, iteT ?_⟩
  | refine ⟨_, rfl, iteF ?_⟩
  | refine iteT ?_
  | refine iteF ?_)
set_option hygiene false in
local macro_rules | `(tactic| tbr_iter "go") => `(tactic| repeat (first | tbr_iter "w" | tbr_iter "v" | tbr_iter "b"))
set_option hygiene false in
local macro_rules | `(tactic| tbr_iter "nof") => `(tactic| (intro d hd; cases d <;> first | rfl | exact absurd rfl (hd _)))
set_option hygiene false in
local macro_rules | `(tactic| tbr_iter "e1") => `(tactic| first | ((with_reducible show W _ _ _ _ _); tbr_iter "w") | ((with_reducible show WA _ _ _ _ _); tbr_iter "w") | ((with_reducible show WT _ _ _ _ _); tbr_iter "w") | ((with_reducible show WW _ _ _ _ _); tbr_iter "w") | tbr_iter "v")
set_option hygiene false in
local macro_rules | `(tactic| tbr_iter "ex") => `(tactic| repeat (tbr_iter "e1"))
set_option hygiene false in
local macro_rules | `(tactic| tbr_iter "z") => `(tactic| ((try dsimp only [L2.cxOf]); with_reducible first | exact T.z_ValueError | exact T.z_abs | exact T.z_all | exact T.z_int | exact T.z_isinstance | exact T.z_len | exact T.z_max | exact T.z_min | exact T.z_range | exact T.z_set | exact T.z_sorted | exact T.z_str | exact T.z_sum | exact T.z_tuple))
set_option hygiene false in
local macro_rules | `(tactic| tbr_iter "mg") => `(tactic| ((try dsimp only [L2.cxOf]); with_reducible first | exact T.c_ALPHABET | exact T.c_MAX_LETTERS | exact T.c_MAX_COLUMNS | exact T.c_IN | exact T.c_OUT | exact T.c_UNLIKE | exact T.c_BROKEN | exact T.c_FINE | exact T.c_CHOOSE | exact T.c_MOST_TREES))
namespace Ax
/-- the pair at a place -/
theorem pairAt {K : PySem.W.Frag} {H H1 : Hp} {ys : List V} {ps : List (PyData × Nat)} {j : Nat} {v : V} (r : All2 (PairD K H H1) ys ps) (h : ys[j]? = some v) :
    ∃ q t v1, ps[j]? = some q ∧ v = .ref t ∧ H1 t = some (.tup [v1, .int q.2]) ∧ Dp K H v1 q.1 ∧ okD q.1 = true := by
  obtain ⟨q, hq, t, v1, e, ht, hd, ok⟩ := r.at h
  exact ⟨q, t, v1, hq, e, ht, hd, ok⟩
theorem ownName_cases {d : PyData} (c : isFormedD d = true) : (∃ n ts, d = .tuple [.str "choose", .str n, .tuple ts] ∧ ownName d = [n]) ∨ (∃ z dr, d = .tuple (.str z :: dr) ∧ z ≠ "choose" ∧ ownName d = []) := by
  rcases formed_cases c with ⟨n, ts, rfl, hk, hn, _⟩ | ⟨z, dr, rfl, hz, hk⟩
  · left
    cases n <;> first | cases hn | skip
    exact ⟨_, ts, rfl, rfl⟩
  · right
    refine ⟨z, dr, rfl, hz, ?_⟩
    unfold ownName
    split
    · rename_i h
      injection h with h
      injection h with h _
      injection h with h
      subst h
      rw [decide_eq_false hz, cond_false]
    · rfl
theorem keys_of {zs : List (Key × V)} {es : List Str} (h : All2 (fun (y : Key × V) (z : Str) => y.1 = .inr z) zs es) : zs.map (·.1) = es.map Sum.inr := by
  induction h with
  | nil => rfl
  | cons h _ ih => rw [List.map_cons, List.map_cons, h, ih]
theorem parts_formed : ∀ (n : Nat) (d : PyData) (k : Nat), nodes d ≤ n → wf d = true → ∀ q ∈ parts d k, isFormedD q.1 = true := by
  intro n d k h w q hq
  have e := parts_all (P := fun q => wf q.1 = true) (nodes d) d k (Nat.le_refl _) (fun e j p c hc => by
    have p : wf e = true := p
    rw [wf_eq, Bool.and_eq_true] at p
    exact wfAll_mem p.2 hc) w q hq
  have e : wf q.1 = true := e
  rw [wf_eq, Bool.and_eq_true] at e
  exact e.1
section
variable {P : Program} {w : World} {K : PySem.W.Frag} {mg : Str → Option Value} {base : Heap}
set_option hygiene false in
local macro_rules | `(tactic| tbr_iter "var") => `(tactic| first | ((with_reducible show W _ (.Name "tree" _) _ _ _); refine w_var 0 rfl (by tbr_iter "vis") rfl ?_) | ((with_reducible show W _ (.Name "part" _) _ _ _); refine w_var 1 rfl (by tbr_iter "vis") rfl ?_) | ((with_reducible show W _ (.Name "above" _) _ _ _); refine w_var 2 rfl (by tbr_iter "vis") rfl ?_))
set_option hygiene false in
local macro_rules | `(tactic| tbr_iter "set") => `(tactic| first | ((with_reducible show WB _ (.Assign [.Name "tree" _] _ _ :: _) _ _ _); refine wb_cons (ws_set 0 ?_ rfl nd)) | ((with_reducible show WB _ (.Assign [.Name "part" _] _ _ :: _) _ _ _); refine wb_cons (ws_set 1 ?_ rfl nd)) | ((with_reducible show WB _ (.Assign [.Name "above" _] _ _ :: _) _ _ _); refine wb_cons (ws_set 2 ?_ rfl nd)))
theorem ok_height_of (T : Txt K mg) : Callee P w K mg base "height_of" 9 ["tree"] (spTree K gHeight) := by
  refine def_ok T.f_height_of sc_height_of (fun _ _ _ _ _ _ us hl => match us, hl with | [_], _ => rfl) (fun vs H Q E h => ?_) fun f cdv A outer s H vs Q E hr h => ?_
  · obtain ⟨v, o, rfl, _⟩ := h; rfl
  obtain ⟨v, r0, rfl, a, hno, hcl, kq, ke⟩ := h
  have nd := sc_height_of.nd
  tbr_iter "go"
  refine w_lcG [("part", 1), ("above", 2)] (gTup K 2 (gCons (gName 1) (gCons (gName 2) gNil))) tYes (fun _ _ _ _ _ => pg_tup rfl (pgs_cons (pg_name nd rfl (Or.inl rfl) (Or.inr rfl)) (pgs_cons (pg_name nd rfl (Or.inl rfl) (Or.inr rfl)) pgs_nil))) (fun _ _ _ _ _ => pts_nil) rfl nd (by tbr_iter "blk") (wi_val ?_)
  refine w_call (ok_parts_of T) hr (passes_call (takes_of rfl rfl rfl rfl) fun _ _ _ _ h => h) ?_
  tbr_iter "go"
  refine ⟨v, r0, rfl, a, hno, hcl, fun d p H1 ys e wd s1 n1 hp r => ?_, ke⟩
  have hl : ys.length = nodes d := by rw [r.len, parts_len]
  have hno : nodes d ≤ 100000 := by subst e; simpa [nodesH] using hno
  refine itv_list (SqL.of hp) ⟨ys, seqIt_list (SqL.of hp), Nat.lt_of_le_of_lt (show ys.length ≤ 100000 by omega) (by decide), fun _ => False, fun j y _ => ∃ q, (parts d 0)[j]? = some q ∧ y = .int q.2, fun _ _ _ _ h _ => h, fun j v hv H2 s2 Kf Kt _ kt => ?_, fun q zs H2 s2 n2 hq rel => ?_⟩
  · obtain ⟨q, t, v1, hq, rfl, ht, _⟩ := pairAt r hv
    refine ⟨t, [v1, .int q.2], rfl, SqT.of (s2 _ _ ht), rfl, v1, [.int q.2], rfl, .int q.2, [], rfl, rfl, rfl, ?_⟩
    unfold tYes
    refine iteT ?_
    intro _ _ _ _ _
    tbr_iter "go"
    exact kt _ _ (Same.refl _) ⟨q, hq, rfl⟩
  · have ez : zs = ((parts d 0).map fun q => (q.2 : Int)).map V.int := by
      obtain ⟨es, e1, e2⟩ := rel.data (T := fun y (i : Int) => y = V.int i) (ds := parts d 0) (fun q => some (q.2 : Int)) (fun _ _ _ h => h.elim) (fun j q y hq ⟨q', h1, h2⟩ => ⟨_, rfl, by rw [hq] at h1; cases h1; exact h2⟩) (by rw [r.len]; exact Nat.le_refl _)
      rw [r.len, List.take_length, List.filterMap_eq_map'] at e1
      rw [e1]
      exact e2.mapL
    subst ez
    tbr_iter "go"
    refine kv_maxL rfl (SqL.of hq) ?_ fun m hm hb => ?_
    · rw [List.length_map, parts_len, nodes_eq]
      omega
    · have em : m = heightD d := by
        obtain ⟨q1, h1, rfl⟩ := List.mem_map.mp hm
        have h2 := parts_height d 0 q1 h1
        obtain ⟨e', h3⟩ := parts_top (nodes d) d 0 (Nat.le_refl _) wd
        have h4 := hb _ (List.mem_map.mpr ⟨_, h3, rfl⟩)
        dsimp only at h4
        omega
      subst em
      exact kq d e wd H2 (s1.trans s2)
set_option hygiene false in
local macro_rules | `(tactic| tbr_iter "var") => `(tactic| first | ((with_reducible show W _ (.Name "tree" _) _ _ _); refine w_var 0 rfl (by tbr_iter "vis") rfl ?_) | ((with_reducible show W _ (.Name "part" _) _ _ _); refine w_var 1 rfl (by tbr_iter "vis") rfl ?_) | ((with_reducible show W _ (.Name "above" _) _ _ _); refine w_var 2 rfl (by tbr_iter "vis") rfl ?_))
set_option hygiene false in
local macro_rules | `(tactic| tbr_iter "set") => `(tactic| first | ((with_reducible show WB _ (.Assign [.Name "tree" _] _ _ :: _) _ _ _); refine wb_cons (ws_set 0 ?_ rfl nd)) | ((with_reducible show WB _ (.Assign [.Name "part" _] _ _ :: _) _ _ _); refine wb_cons (ws_set 1 ?_ rfl nd)) | ((with_reducible show WB _ (.Assign [.Name "above" _] _ _ :: _) _ _ _); refine wb_cons (ws_set 2 ?_ rfl nd)))
theorem ok_choices_of (T : Txt K mg) : Callee P w K mg base "choices_of" 9 ["tree"] (spTree K gChoices) := by
  refine def_ok T.f_choices_of sc_choices_of (fun _ _ _ _ _ _ us hl => match us, hl with | [_], _ => rfl) (fun vs H Q E h => ?_) fun f cdv A outer s H vs Q E hr h => ?_
  · obtain ⟨v, o, rfl, _⟩ := h; rfl
  obtain ⟨v, r0, rfl, a, hno, hcl, kq, ke⟩ := h
  have nd := sc_choices_of.nd
  tbr_iter "go"
  refine w_dcG [("part", 1), ("above", 2)] (gTup K 2 (gCons (gName 1) (gCons (gName 2) gNil))) (fun σ2 H2 Kc => Blk _ _ fun Y => WT Y _ σ2 H2 Kc) (fun _ _ _ _ _ => pg_tup rfl (pgs_cons (pg_name nd rfl (Or.inl rfl) (Or.inr rfl)) (pgs_cons (pg_name nd rfl (Or.inl rfl) (Or.inr rfl)) pgs_nil)))
    (fun s H C cl fp => pts_one ⟨fun pins s' σ' H' Q' I' h' => (h' s H C cl fp).run pins s' I'⟩) rfl nd (by tbr_iter "blk") (wi_val ?_)
  refine w_call (ok_parts_of T) hr (passes_call (takes_of rfl rfl rfl rfl) fun _ _ _ _ h => h) ?_
  tbr_iter "go"
  refine ⟨v, r0, rfl, a, hno, hcl, fun d p H1 ys e wd s1 n1 hp r => ?_, ke⟩
  have hl : ys.length = nodes d := by rw [r.len, parts_len]
  have hno : nodes d ≤ 100000 := by subst e; simpa [nodesH] using hno
  refine itv_list (SqL.of hp) ⟨ys, seqIt_list (SqL.of hp), Nat.lt_of_le_of_lt (show ys.length ≤ 100000 by omega) (by decide), fun j => ∃ q, (parts d 0)[j]? = some q ∧ ownName q.1 = [], fun j k y _ => ∃ q z, (parts d 0)[j]? = some q ∧ ownName q.1 = [z] ∧ k = .inr z, fun _ _ _ _ _ h _ => h, fun j v hv H2 s2 Kf Kt kf kt => ?_, fun q zs H2 n2 hq s2 rel => ?_⟩
  · obtain ⟨q, t, v1, hq, rfl, ht, hd, ok⟩ := pairAt r hv
    have fm := parts_formed (nodes d) d 0 (Nat.le_refl _) wd q (List.mem_of_getElem? hq)
    have hd2 := dp_same (s1.trans s2) hd
    refine ⟨t, [v1, .int q.2], rfl, SqT.of (s2 _ _ ht), rfl, v1, [.int q.2], rfl, .int q.2, [], rfl, rfl, rfl, ?_⟩
    intro _ _ _ _ _
    obtain ⟨d1, k1⟩ := q
    rcases ownName_cases fm with ⟨n, ts, rfl, ho⟩ | ⟨z, dr, rfl, hz, ho⟩
    · cases hd2 with
      | @tup p6 zs _ hz6 ha6 =>
      obtain ⟨z0, z1, z2, rfl⟩ := three_of (xs := zs) (dpa_len ha6)
      cases ha6 with
      | cons h0 ha6 =>
      cases ha6 with
      | cons h1 ha6 =>
      cases h0
      cases h1
      have hz6 : SqT K H2 p6 _ := hz6
      tbr_iter "go"
      intro _ _ _ _ _
      tbr_iter "go"
      intro _ _ _ _ _
      tbr_iter "go"
      exact kt (.inr n) _ _ (Same.refl _) ⟨_, n, hq, ho, rfl⟩
    · cases hd2 with
      | @tup p6 zs _ hz6 ha6 =>
      obtain ⟨z0, zr, rfl⟩ := cons_of (xs := zs) (by rintro rfl; cases ha6)
      cases ha6 with
      | cons h0 ha6 =>
      cases h0
      have hz6 : SqT K H2 p6 _ := hz6
      tbr_iter "go"
      refine ⟨_, rfl, w_if2 (fun c2 => absurd (by simpa using c2) hz) (fun c2 => ?_)⟩
      exact kf ⟨_, hq, ho⟩ _ (Same.refl _)
  · obtain ⟨hL, kq⟩ := kq d e wd
    obtain ⟨es, e1, e2⟩ := rel.data (T := fun (y : Key × V) (z : Str) => y.1 = .inr z) (ds := parts d 0) (fun q => (ownName q.1).head?) (fun j q hq ⟨q', h1, h2⟩ => by rw [hq] at h1; cases h1; rw [h2]; rfl)
      (fun j q y hq ⟨q', z, h1, h2, h3⟩ => by rw [hq] at h1; cases h1; rw [h2]; exact ⟨z, rfl, h3⟩) (by rw [r.len]; exact Nat.le_refl _)
    rw [r.len, List.take_length] at e1
    have ek := keys_of e2
    have hes : ∀ z, z ∈ es ↔ z ∈ namesD d := fun z => by
      rw [parts_names (nodes d) d 0 z (Nat.le_refl _), ← e1, List.mem_filterMap]
      constructor
      · rintro ⟨q, h1, h2⟩
        exact ⟨q, h1, List.mem_of_head? h2⟩
      · rintro ⟨q, h1, h2⟩
        refine ⟨q, h1, ?_⟩
        rcases ownName_cases (parts_formed (nodes d) d 0 (Nat.le_refl _) wd q h1) with ⟨n, ts, _, ho⟩ | ⟨z, dr, _, hz, ho⟩
        · rw [ho] at h2 ⊢
          rw [List.mem_singleton.mp h2]
          rfl
        · rw [ho] at h2
          cases h2
    obtain ⟨m1, m2⟩ := putAll_mem zs
    rw [ek] at m2
    obtain ⟨ks, hks⟩ : ∃ ks : List Str, (putAll zs).map (·.1) = ks.map Sum.inr := by
      have go : ∀ l : List Key, (∀ k ∈ l, ∃ z, k = .inr z) → ∃ ks : List Str, l = ks.map Sum.inr := by
        intro l
        induction l with
        | nil => intro _; exact ⟨[], rfl⟩
        | cons k l ih =>
          intro h
          obtain ⟨z, rfl⟩ := h k List.mem_cons_self
          obtain ⟨ks, rfl⟩ := ih fun k hk => h k (List.mem_cons_of_mem _ hk)
          exact ⟨z :: ks, rfl⟩
      refine go _ fun k hk => ?_
      obtain ⟨z, _, e⟩ := List.mem_map.mp ((m2 k).mp hk)
      exact ⟨z, e.symm⟩
    have nk : ks.Nodup := by
      rw [hks] at m1
      exact List.Pairwise.of_map Sum.inr (fun a b h e => h (by rw [e])) m1
    have mk : ∀ z, z ∈ ks ↔ z ∈ namesD d := fun z => by
      rw [← hes z]
      have e3 := m2 (.inr z)
      rw [hks, List.mem_map, List.mem_map] at e3
      constructor
      · intro h
        obtain ⟨z', h1, h2⟩ := e3.mp ⟨z, h, rfl⟩
        injection h2 with h2
        exact h2 ▸ h1
      · intro h
        obtain ⟨z', h1, h2⟩ := e3.mpr ⟨z, h, rfl⟩
        injection h2 with h2
        exact h2 ▸ h1
    obtain ⟨L, hL1, hL2⟩ := hL
    have lk : ks.length < 64 := Nat.lt_of_le_of_lt (nodup_len nk fun z hz => hL2 z ((mk z).mp hz)) hL1
    tbr_iter "go"
    refine kv_sortedD rfl hq hks lk fun ws q2 H3 h1 h2 s3 n3 hq2 => ?_
    tbr_iter "go"
    refine kv_tupleL (SqL.of hq2) fun q3 H4 s4 n4 hq3 => ?_
    exact kq q3 ws H4 (((s1.trans s2).trans s3).trans s4) (same_nul ((s1.trans s2).trans s3) n4) hq3 h2 (h1.nodup_iff.mpr nk) fun z => (h1.mem_iff).trans (mk z)
end
end Ax
end
section
set_option maxHeartbeats 4000000
open PySem PySem.Spec PyProof.Rows L2 Ax
set_option hygiene false in
local macro_rules | `(tactic| tbr_iter "boot") => `(tactic| with_reducible first | exact Ax.b_len | exact Ax.b_all | exact Ax.b_any | exact Ax.b_sorted | exact Ax.b_isinstance | exact Ax.b_abs | exact Ax.b_max | exact Ax.b_min | exact Ax.b_sum | exact Ax.b_repr | exact Ax.b_iter | exact Ax.b_ord | exact Ax.b_chr | exact Ax.b_str | exact Ax.b_int | exact Ax.b_bool | exact Ax.b_tuple | exact Ax.b_list | exact Ax.b_dict | exact Ax.b_set | exact Ax.b_range | exact Ax.b_enumerate | exact Ax.b_zip)
set_option hygiene false in
local macro_rules | `(tactic| tbr_iter "vis") => `(tactic| first | exact Or.inl rfl | exact Or.inr (Or.inl rfl) | exact Or.inr (Or.inr rfl))
set_option hygiene false in
local macro_rules | `(tactic| tbr_iter "w") => `(tactic| first
  | refine wb_cons ?_
  | refine wb_nil ?_
  | refine ws_ret ?_
  | refine ws_if ?_
  | refine ws_sub ?_
  | refine wa_cons ?_
  | refine wa_nil ?_
  | refine w_int ?_
  | refine w_str ?_
  | refine w_bl ?_
  | refine w_non ?_
  | tbr_iter "var"
  | refine w_bin ?_
  | refine w_cmp ?_
  | refine w_chain ?_
  | refine w_and ?_
  | refine w_or ?_
  | refine w_one ?_
  | refine w_not ?_
  | refine w_ix ?_
  | refine w_ifExp ?_
  | refine w_tup ?_
  | refine w_lst ?_
  | refine wt_not ?_
  | refine wt_bool ?_
  | refine ww_and ?_
  | refine ww_and1 ?_
  | refine ww_or ?_
  | refine ww_or1 ?_
  | refine wt_cmp ?_
  | refine wt_val ?_
  | tbr_iter "call"
  | (refine w_glob (by tbr_iter "mg") ?_)
  | (refine w_callB (by tbr_iter "z") ?_)
  | (refine w_callTy (by tbr_iter "z") ?_)
  | (refine w_bltT (by tbr_iter "z") ?_))
set_option hygiene false in
local macro_rules | `(tactic| tbr_iter "blk") => `(tactic| first | exact blkOk_by (by dsimp only [cxOf, envOfC]; decide +kernel))
set_option hygiene false in
local macro_rules | `(tactic| tbr_iter "iff") => `(tactic| first
  | refine iteT ?_
  | refine iteF ?_
  | refine w_if2 (fun _ => ?_) (fun _ => ?_))
set_option hygiene false in
local macro_rules | `(tactic| tbr_iter "sc") => `(tactic| first | omega | decide)
set_option hygiene false in
local macro_rules | `(tactic| tbr_iter "at") => `(tactic| first | exact atI_0 | exact atI_1 | exact atI_2)
set_option hygiene false in
local macro_rules | `(tactic| tbr_iter "sql") => `(tactic| ((try dsimp only [L2.cxOf, L2.Cx.blk]); with_reducible first | assumption | exact SqL.of (by assumption)))
set_option hygiene false in
local macro_rules | `(tactic| tbr_iter "sqt") => `(tactic| ((try dsimp only [L2.cxOf, L2.Cx.blk]); with_reducible first | assumption | exact SqT.of (by assumption)))
set_option hygiene false in
local macro_rules | `(tactic| tbr_iter "v") => `(tactic| first
  | refine bv_add ?_
  | refine bv_sub ?_
  | ((with_reducible show BinV _ .Mult _ _ _ _); refine bv_mul (Or.inl ⟨by tbr_iter "sc", by tbr_iter "sc"⟩) ?_)
  | ((with_reducible show BinV _ .Mult _ _ _ _); refine bv_mul (Or.inr ⟨by tbr_iter "sc", by tbr_iter "sc"⟩) ?_)
  | ((with_reducible show BinV _ .Mod _ _ _ _); refine bv_mod (by tbr_iter "sc") ?_)
  | ((with_reducible show BinV _ .FloorDiv _ _ _ _); refine bv_fdiv ⟨by tbr_iter "sc", by tbr_iter "sc"⟩ ?_)
  | ((with_reducible show BinV _ .Pow _ _ _ _); refine bv_pow ⟨by decide, by decide +kernel⟩ ?_)
  | refine cv_lt ?_
  | refine cv_le ?_
  | refine cv_gt ?_
  | refine cv_ge ?_
  | ((with_reducible show CmpV _ .Eq _ _ _ _); refine cv_eq rfl ?_)
  | ((with_reducible show CmpV _ .NotEq _ _ _ _); refine cv_ne rfl ?_)
  | refine iv_list (by tbr_iter "sql") (by tbr_iter "at") ?_
  | refine iv_tup (by tbr_iter "sqt") (by tbr_iter "at") ?_
  | refine kv_len_seq (Or.inl (by tbr_iter "sql")) ?_
  | refine kv_len_seq (Or.inr (by tbr_iter "sqt")) ?_
  | refine kv_int ?_
  | refine kv_intB ?_
  | refine kv_abs ?_
  | refine kv_max2 rfl ?_
  | refine kv_min2 rfl ?_)
set_option hygiene false in
local macro_rules | `(tactic| tbr_iter "b") => `(tactic| first
  | refine ⟨_, rfl, iteT ?_⟩
  | refine ⟨_, rfl, iteF ?_⟩
  | refine iteT ?_
  | refine iteF ?_)
set_option hygiene false in
local macro_rules | `(tactic| tbr_iter "go") => `(tactic| repeat (first | tbr_iter "w" | tbr_iter "v" | tbr_iter "b"))
set_option hygiene false in
local macro_rules | `(tactic| tbr_iter "nof") => `(tactic| (intro d hd; cases d <;> first | rfl | exact absurd rfl (hd _)))
set_option hygiene false in
local macro_rules | `(tactic| tbr_iter "e1") => `(tactic| first | ((with_reducible show W _ _ _ _ _); tbr_iter "w") | ((with_reducible show WA _ _ _ _ _); tbr_iter "w") | ((with_reducible show WT _ _ _ _ _); tbr_iter "w") | ((with_reducible show WW _ _ _ _ _); tbr_iter "w") | tbr_iter "v")
set_option hygiene false in
local macro_rules | `(tactic| tbr_iter "ex") => `(tactic| repeat (tbr_iter "e1"))
set_option hygiene false in
local macro_rules | `(tactic| tbr_iter "z") => `(tactic| ((try dsimp only [L2.cxOf]); with_reducible first | exact T.z_ValueError | exact T.z_abs | exact T.z_all | exact T.z_int | exact T.z_isinstance | exact T.z_len | exact T.z_max | exact T.z_min | exact T.z_range | exact T.z_set | exact T.z_sorted | exact T.z_str | exact T.z_sum | exact T.z_tuple))
set_option hygiene false in
local macro_rules | `(tactic| tbr_iter "mg") => `(tactic| ((try dsimp only [L2.cxOf]); with_reducible first | exact T.c_ALPHABET | exact T.c_MAX_LETTERS | exact T.c_MAX_COLUMNS | exact T.c_IN | exact T.c_OUT | exact T.c_UNLIKE | exact T.c_BROKEN | exact T.c_FINE | exact T.c_CHOOSE | exact T.c_MOST_TREES))
namespace Ax
theorem RelI.mem {β : Type} {N : Nat → Prop} {R : Nat → β → Prop} {n : Nat} {ys : List β} (h : RelI N R n ys) : ∀ y ∈ ys, ∃ j, j < n ∧ R j y := by
  induction h with
  | nil => intro y hy; cases hy
  | drop _ _ ih =>
    intro y hy
    obtain ⟨j, h1, h2⟩ := ih y hy
    exact ⟨j, Nat.lt_succ_of_lt h1, h2⟩
  | @keep n z zs r _ ih =>
    intro y hy
    rcases List.mem_append.mp hy with hy | hy
    · obtain ⟨j, h1, h2⟩ := ih y hy
      exact ⟨j, Nat.lt_succ_of_lt h1, h2⟩
    · rw [List.mem_singleton.mp hy]
      exact ⟨n, Nat.lt_succ_self _, r⟩
theorem strs_of {P : Str → Prop} : ∀ {ys : List V}, (∀ y ∈ ys, ∃ z, y = .str z ∧ P z) → ∃ zs : List Str, ys = zs.map V.str ∧ ∀ z ∈ zs, P z
  | [], _ => ⟨[], rfl, fun _ h => nomatch h⟩
  | y :: ys, h => by
    obtain ⟨z, rfl, hz⟩ := h y List.mem_cons_self
    obtain ⟨zs, rfl, hs⟩ := strs_of (ys := ys) fun y hy => h y (List.mem_cons_of_mem _ hy)
    refine ⟨z :: zs, rfl, fun z' hz' => ?_⟩
    rcases List.mem_cons.mp hz' with e | e
    · rw [e]; exact hz
    · exact hs z' e
/-- small texts -/
def isShort (z : Str) : Bool := PyData.strOk z && decide (z.length ≤ 1000)
theorem tameAll_str : ∀ {zs : List Str}, (∀ z ∈ zs, isShort z = true) → tameAll (zs.map PyData.str) = true
  | [], _ => by simp [tameAll]
  | z :: zs, h => by
    have h1 := h z List.mem_cons_self
    rw [List.map_cons, tameAll, tameAll_str fun z hz => h z (List.mem_cons_of_mem _ hz), tame]
    simpa [isShort] using h1
theorem depthAll_str : ∀ zs : List Str, PyData.depthAll (zs.map PyData.str) ≤ 1
  | [] => by simp [PyData.depthAll]
  | z :: zs => by
    have h := depthAll_str zs
    rw [List.map_cons, PyData.depthAll, PyData.depth]
    omega
theorem hardAll_str : ∀ zs : List Str, hardAll (zs.map PyData.str) = true
  | [] => by simp [hardAll]
  | z :: zs => by simp [hardAll, hard, hardAll_str zs]
def spAtom (K : PySem.W.Frag) : Sp := fun vs H Q _ => ∃ (p : Addr) (n : Nat), vs = [.ref p] ∧ H p = some (DiceO p n) ∧ n < 2 ^ 59 ∧ ∀ v d m H', Sm p H H' → H' p = some (DiceO p m) → m ≤ n + 10 → Dp K H' v d → isAtomD d = true → tame d = true → d.depth ≤ 4 → hard d = true → Q v H'
def someNames : List Str := ["x", "y", "z", "in", "zzzzzzzz"]
theorem some_ok : ∀ z ∈ ("m" : Str) :: someNames, isNameS z = true ∧ isShort z = true := by decide +kernel
theorem all_names : ∀ {zs : List Str}, (∀ z ∈ zs, isNameS z = true) → (zs.map PyData.str).all isNameD = true
  | [], _ => rfl
  | z :: zs, h => by
    rw [List.map_cons, List.all_cons, all_names fun z hz => h z (List.mem_cons_of_mem _ hz), Bool.and_true]
    exact h z List.mem_cons_self
section
variable {P : Program} {w : World} {K : PySem.W.Frag} {mg : Str → Option Value} {base : Heap}
set_option hygiene false in
local macro_rules | `(tactic| tbr_iter "var") => `(tactic| first | ((with_reducible show W _ (.Name "dice" _) _ _ _); refine w_var 0 rfl (by tbr_iter "vis") rfl ?_) | ((with_reducible show W _ (.Name "names" _) _ _ _); refine w_var 1 rfl (by tbr_iter "vis") rfl ?_) | ((with_reducible show W _ (.Name "place" _) _ _ _); refine w_var 2 rfl (by tbr_iter "vis") rfl ?_))
set_option hygiene false in
local macro_rules | `(tactic| tbr_iter "set") => `(tactic| first | ((with_reducible show WB _ (.Assign [.Name "dice" _] _ _ :: _) _ _ _); refine wb_cons (ws_set 0 ?_ rfl nd)) | ((with_reducible show WB _ (.Assign [.Name "names" _] _ _ :: _) _ _ _); refine wb_cons (ws_set 1 ?_ rfl nd)) | ((with_reducible show WB _ (.Assign [.Name "place" _] _ _ :: _) _ _ _); refine wb_cons (ws_set 2 ?_ rfl nd)))
theorem ok_law_any_atom (T : Txt K mg) : Callee P w K mg base "_law_any_atom" 4 ["dice"] (spAtom K) := by
  refine def_ok T.f__law_any_atom sc__law_any_atom (fun _ _ _ _ _ _ us hl => match us, hl with | [_], _ => rfl) (fun vs H Q E h => ?_) fun f cdv A outer s H vs Q E hr h => ?_
  · obtain ⟨p, n, rfl, _⟩ := h; rfl
  obtain ⟨p, n, rfl, hp, hn, k⟩ := h
  have nd := sc__law_any_atom.nd
  have hu := hr.units
  refine wb_cons (ws_setLcM 1 p [("place", 2)] (gName 2) (fun _ _ _ _ _ => pg_name nd rfl (Or.inl rfl) (Or.inr rfl)) rfl nd (by tbr_iter "blk") rfl (wi_range1 T.z_range ?_))
  refine wa_cons (w_call (ok_law_roll T) (hr.mono (by decide)) passL ?_)
  tbr_iter "go"
  refine ⟨p, n, _, rfl, hp, by omega, by decide, by decide, fun r H1 s1 hp1 r0 r1 => ?_⟩
  refine wa_nil ⟨r, rfl, by omega, by omega, intsV 0 r.toNat, seqItM_range, ?_, n + 1, fun j => j, fun j y _ => ∃ z ∈ someNames, y = .str z, hp1, fun _ _ _ _ h _ => h, fun j v hv H2 m s2 hp2 hm Kt kt => ?_, fun q ys H2 m s2 hp2 hm hq0 hq rel => ?_⟩
  · have e : (intsV 0 r.toNat).length = r.toNat := by simp [intsV]
    rw [e]
    exact Nat.lt_of_le_of_lt (show r.toNat ≤ 4 by omega) (by decide)
  · have hj : j < r.toNat := by
      have e := (List.getElem?_eq_some_iff.mp hv).1
      simpa [intsV] using e
    have hm : m ≤ n + 1 + j := hm
    refine ⟨rfl, fun _ _ _ _ _ => ?_⟩
    refine w_call (ok_law_pick T) (hr.mono (by decide)) passL ?_
    tbr_iter "go"
    refine ⟨by decide, fun l H3 s3 n3 hl => ?_⟩
    tbr_iter "go"
    refine ⟨p, l, m, _, rfl, s3 _ _ hp2, by omega, SqL.of hl, by simp, by simp, fun v hv H4 s4 hp4 => kt v H4 (m + 1) ((Sm.of hp2 s3).trans s4) hp4 (show m + 1 ≤ n + 1 + (j + 1) by omega) ?_⟩
    obtain ⟨z, hz, rfl⟩ := List.mem_map.mp (show v ∈ someNames.map V.str from hv)
    exact ⟨z, hz, rfl⟩
  · have e : (intsV 0 r.toNat).length = r.toNat := by simp [intsV]
    rw [e] at rel hm
    have hm : m ≤ n + 1 + r.toNat := hm
    have hlen := rel.len
    obtain ⟨zs, rfl, hz⟩ := strs_of (ys := ys) (P := fun z => z ∈ someNames) fun y hy => by
      obtain ⟨j, _, z, h1, h2⟩ := rel.mem y hy
      exact ⟨z, h2, h1⟩
    rw [List.length_map] at hlen
    tbr_iter "go"
    refine w_call (ok_law_roll T) (hr.mono (by decide)) passL ?_
    tbr_iter "go"
    refine ⟨p, m, _, rfl, hp2, by omega, by decide, by decide, fun r2 H3 s3 hp3 _ _ => ?_⟩
    have hq3 := s3.lst hq
    have s13 := (s1.trans s2).trans s3
    tbr_iter "go"
    refine ⟨_, rfl, w_if2 (fun c => ?_) (fun c => ?_)⟩
    · tbr_iter "go"
      refine ⟨by decide, fun l H4 s4 n4 hl => bv_cat (s4 _ _ hq3) hl (Nat.le_trans (show _ ≤ 10 by simp only [List.length_map, List.length_singleton]; omega) (by decide)) fun l5 H5 s5 n5 hl5 => ?_⟩
      have hl5 : H5 l5 = some (.lst ((zs ++ [("m" : Str)]).map V.str)) := by rw [hl5, List.map_append]; rfl
      tbr_iter "go"
      refine kv_minS rfl hu (SqL.of hl5) (by simp) fun m1 hm1 hb1 => ?_
      tbr_iter "go"
      refine ⟨by decide, fun l6 H6 s6 n6 hl6 => bv_cat (s6 _ _ (s5 _ _ (s4 _ _ hq3))) hl6 (Nat.le_trans (show _ ≤ 10 by simp only [List.length_map, List.length_singleton]; omega) (by decide)) fun l7 H7 s7 n7 hl7 => ?_⟩
      have hl7 : H7 l7 = some (.lst ((zs ++ [("m" : Str)]).map V.str)) := by rw [hl7, List.map_append]; rfl
      tbr_iter "go"
      refine kv_maxS rfl hu (SqL.of hl7) (by simp) fun m2 hm2 hb2 => ?_
      tbr_iter "go"
      refine ⟨three_line, fun t H8 s8 n8 ht => ?_⟩
      have s38 := ((s4.trans s5).trans (s6.trans s7)).trans s8
      have mem : ∀ z ∈ zs ++ [("m" : Str)], z ∈ ("m" : Str) :: someNames := fun z h => by
        rcases List.mem_append.mp h with h | h
        · exact List.mem_cons_of_mem _ (hz z h)
        · rw [List.mem_singleton.mp h]; exact List.mem_cons_self
      obtain ⟨a1, b1⟩ := some_ok m1 (mem _ hm1)
      obtain ⟨a2, b2⟩ := some_ok m2 (mem _ hm2)
      refine k _ (.tuple [.str "unlike", .str m1, .str m2]) (m + 1) H8 (s13.same s38) (s38 _ _ hp3) (by omega) (.tup (SqT.of ht) (.cons (.str _) (.cons (.str _) (.cons (.str _) .nil)))) ?_ ?_ ?_ ?_
      · have e1 : isUnlikeD (.tuple [.str "unlike", .str m1, .str m2]) = true := by
          show (true && (true && (isNameS m1 && isNameS m2))) = true
          rw [a1, a2]
          rfl
        show (bif isUnlikeD _ then strLe m1 m2 else _) = true
        rw [e1]
        show (!decide (m2.cps.toList < m1.cps.toList)) = true
        rw [decide_eq_false (hb1 m2 hm2)]
        rfl
      · simp only [isShort] at b1 b2
        simp [tame, tameAll, b1, b2]
        decide +kernel
      · simp [PyData.depth, PyData.depthAll]
      · simp [hard, hardAll]
    · refine wb_nil ?_
      tbr_iter "go"
      refine w_call (ok_law_pick T) (hr.mono (by decide)) passL ?_
      tbr_iter "go"
      refine ⟨by decide, fun l4 H4 s4 n4 hl4 => ?_⟩
      tbr_iter "go"
      refine ⟨p, l4, m + 1, _, rfl, s4 _ _ hp3, by omega, SqL.of hl4, by simp, by simp, fun v1 hv1 H5 s5 hp5 => ?_⟩
      tbr_iter "go"
      refine w_call (ok_law_pick T) (hr.mono (by decide)) passL ?_
      tbr_iter "go"
      refine ⟨by decide, fun l6 H6 s6 n6 hl6 => ?_⟩
      tbr_iter "go"
      refine ⟨p, l6, m + 2, _, rfl, s6 _ _ hp5, by omega, SqL.of hl6, by simp, by simp, fun v2 hv2 H7 s7 hp7 => ?_⟩
      have s37 := (((Sm.of hp3 s4).trans s5).same s6).trans s7
      have hq7 := s37.lst hq3
      tbr_iter "go"
      refine kv_tupleL (SqL.of hq7) fun t8 H8 s8 n8 ht8 => ?_
      tbr_iter "go"
      refine ⟨three_line, fun t9 H9 s9 n9 ht9 => ?_⟩
      obtain ⟨y1, h1, rfl⟩ := List.mem_map.mp (show v1 ∈ (["in", "out"] : List Str).map V.str from hv1)
      obtain ⟨y2, h2, rfl⟩ := List.mem_map.mp (show v2 ∈ (["at", "edge", "unlike"] : List Str).map V.str from hv2)
      have k1 : ∀ z ∈ (["in", "out"] : List Str), isShort z = true ∧ decide (z = "unlike") = false ∧ inV (.str z) [.str "in", .str "out"] = true := by decide +kernel
      have k2 : ∀ z ∈ (["at", "edge", "unlike"] : List Str), isShort z = true ∧ isNameS z = true := by decide +kernel
      obtain ⟨a1, b1, c1⟩ := k1 y1 h1
      obtain ⟨a2, b2⟩ := k2 y2 h2
      refine k _ (.tuple [.str y1, .str y2, .tuple (zs.map PyData.str)]) (m + 3) H9 ((s13.trans s37).same (s8.trans s9)) (s9 _ _ (s8 _ _ hp7)) (by omega) (.tup (SqT.of ht9) (.cons (.str _) (.cons (.str _) (.cons (.tup (SqT.of (s9 _ _ ht8)) (dps zs)) .nil)))) ?_ ?_ ?_ ?_
      · have e1 : isUnlikeD (.tuple [.str y1, .str y2, .tuple (zs.map PyData.str)]) = false := by
          show (true && (decide (y1 = "unlike") && _)) = false
          rw [b1]
          rfl
        show (bif isUnlikeD _ then _ else (true && (inV (.str y1) [.str "in", .str "out"] && (isNameS y2 && ((zs.map PyData.str).all isNameD && decide ((zs.map PyData.str).length ≤ 3)))))) = true
        rw [e1, c1, b2, all_names fun z h => (some_ok z (List.mem_cons_of_mem _ (hz z h))).1, List.length_map, decide_eq_true (show zs.length ≤ 3 by omega)]
        rfl
      · simp only [isShort] at a1 a2
        have e := tameAll_str fun z h => (some_ok z (List.mem_cons_of_mem _ (hz z h))).2
        simp [tame, tameAll, a1, a2, e]
        omega
      · have e := depthAll_str zs
        simp only [PyData.depth, PyData.depthAll]
        omega
      · simp [hard, hardAll, hardAll_str zs]
end
end Ax
end
section
set_option maxHeartbeats 4000000
open PySem PySem.Spec PyProof.Rows L2 Ax
set_option hygiene false in
local macro_rules | `(tactic| tbr_iter "boot") => `(tactic| with_reducible first | exact Ax.b_len | exact Ax.b_all | exact Ax.b_any | exact Ax.b_sorted | exact Ax.b_isinstance | exact Ax.b_abs | exact Ax.b_max | exact Ax.b_min | exact Ax.b_sum | exact Ax.b_repr | exact Ax.b_iter | exact Ax.b_ord | exact Ax.b_chr | exact Ax.b_str | exact Ax.b_int | exact Ax.b_bool | exact Ax.b_tuple | exact Ax.b_list | exact Ax.b_dict | exact Ax.b_set | exact Ax.b_range | exact Ax.b_enumerate | exact Ax.b_zip)
set_option hygiene false in
local macro_rules | `(tactic| tbr_iter "vis") => `(tactic| first | exact Or.inl rfl | exact Or.inr (Or.inl rfl) | exact Or.inr (Or.inr rfl))
set_option hygiene false in
local macro_rules | `(tactic| tbr_iter "w") => `(tactic| first
  | refine wb_cons ?_
  | refine wb_nil ?_
  | refine ws_ret ?_
  | refine ws_if ?_
  | refine ws_sub ?_
  | refine wa_cons ?_
  | refine wa_nil ?_
  | refine w_int ?_
  | refine w_str ?_
  | refine w_bl ?_
  | refine w_non ?_
  | tbr_iter "var"
  | refine w_bin ?_
  | refine w_cmp ?_
  | refine w_chain ?_
  | refine w_and ?_
  | refine w_or ?_
  | refine w_one ?_
  | refine w_not ?_
  | refine w_ix ?_
  | refine w_ifExp ?_
  | refine w_tup ?_
  | refine w_lst ?_
  | refine wt_not ?_
  | refine wt_bool ?_
  | refine ww_and ?_
  | refine ww_and1 ?_
  | refine ww_or ?_
  | refine ww_or1 ?_
  | refine wt_cmp ?_
  | refine wt_val ?_
  | tbr_iter "call"
  | (refine w_glob (by tbr_iter "mg") ?_)
  | (refine w_callB (by tbr_iter "z") ?_)
  | (refine w_callTy (by tbr_iter "z") ?_)
  | (refine w_bltT (by tbr_iter "z") ?_))
set_option hygiene false in
local macro_rules | `(tactic| tbr_iter "blk") => `(tactic| first | exact blkOk_by (by dsimp only [cxOf, envOfC]; decide +kernel))
set_option hygiene false in
local macro_rules | `(tactic| tbr_iter "iff") => `(tactic| first
  | refine iteT ?_
  | refine iteF ?_
  | refine w_if2 (fun _ => ?_) (fun _ => ?_))
set_option hygiene false in
local macro_rules | `(tactic| tbr_iter "sc") => `(tactic| first | omega | decide)
set_option hygiene false in
local macro_rules | `(tactic| tbr_iter "at") => `(tactic| first | exact atI_0 | exact atI_1 | exact atI_2)
set_option hygiene false in
local macro_rules | `(tactic| tbr_iter "sql") => `(tactic| ((try dsimp only [L2.cxOf, L2.Cx.blk]); with_reducible first | assumption | exact SqL.of (by assumption)))
set_option hygiene false in
local macro_rules | `(tactic| tbr_iter "sqt") => `(tactic| ((try dsimp only [L2.cxOf, L2.Cx.blk]); with_reducible first | assumption | exact SqT.of (by assumption)))
set_option hygiene false in
local macro_rules | `(tactic| tbr_iter "v") => `(tactic| first
  | refine bv_add ?_
  | refine bv_sub ?_
  | ((with_reducible show BinV _ .Mult _ _ _ _); refine bv_mul (Or.inl ⟨by tbr_iter "sc", by tbr_iter "sc"⟩) ?_)
  | ((with_reducible show BinV _ .Mult _ _ _ _); refine bv_mul (Or.inr ⟨by tbr_iter "sc", by tbr_iter "sc"⟩) ?_)
  | ((with_reducible show BinV _ .Mod _ _ _ _); refine bv_mod (by tbr_iter "sc") ?_)
  | ((with_reducible show BinV _ .FloorDiv _ _ _ _); refine bv_fdiv ⟨by tbr_iter "sc", by tbr_iter "sc"⟩ ?_)
  | ((with_reducible show BinV _ .Pow _ _ _ _); refine bv_pow ⟨by decide, by decide +kernel⟩ ?_)
  | refine cv_lt ?_
  | refine cv_le ?_
  | refine cv_gt ?_
  | refine cv_ge ?_
  | ((with_reducible show CmpV _ .Eq _ _ _ _); refine cv_eq rfl ?_)
  | ((with_reducible show CmpV _ .NotEq _ _ _ _); refine cv_ne rfl ?_)
  | refine iv_list (by tbr_iter "sql") (by tbr_iter "at") ?_
  | refine iv_tup (by tbr_iter "sqt") (by tbr_iter "at") ?_
  | refine kv_len_seq (Or.inl (by tbr_iter "sql")) ?_
  | refine kv_len_seq (Or.inr (by tbr_iter "sqt")) ?_
  | refine kv_int ?_
  | refine kv_intB ?_
  | refine kv_abs ?_
  | refine kv_max2 rfl ?_
  | refine kv_min2 rfl ?_)
set_option hygiene false in
local macro_rules | `(tactic| tbr_iter "b") => `(tactic| first
  | refine ⟨_, rfl, iteT ?_⟩
  | refine ⟨_, rfl, iteF ?_⟩
  | refine iteT ?_
  | refine iteF ?_)
set_option hygiene false in
local macro_rules | `(tactic| tbr_iter "go") => `(tactic| repeat (first | tbr_iter "w" | tbr_iter "v" | tbr_iter "b"))
set_option hygiene false in
local macro_rules | `(tactic| tbr_iter "nof") => `(tactic| (intro d hd; cases d <;> first | rfl | exact absurd rfl (hd _)))
set_option hygiene false in
local macro_rules | `(tactic| tbr_iter "e1") => `(tactic| first | ((with_reducible show W _ _ _ _ _); tbr_iter "w") | ((with_reducible show WA _ _ _ _ _); tbr_iter "w") | ((with_reducible show WT _ _ _ _ _); tbr_iter "w") | ((with_reducible show WW _ _ _ _ _); tbr_iter "w") | tbr_iter "v")
set_option hygiene false in
local macro_rules | `(tactic| tbr_iter "ex") => `(tactic| repeat (tbr_iter "e1"))
set_option hygiene false in
local macro_rules | `(tactic| tbr_iter "z") => `(tactic| ((try dsimp only [L2.cxOf]); with_reducible first | exact T.z_ValueError | exact T.z_abs | exact T.z_all | exact T.z_int | exact T.z_isinstance | exact T.z_len | exact T.z_max | exact T.z_min | exact T.z_range | exact T.z_set | exact T.z_sorted | exact T.z_str | exact T.z_sum | exact T.z_tuple))
set_option hygiene false in
local macro_rules | `(tactic| tbr_iter "mg") => `(tactic| ((try dsimp only [L2.cxOf]); with_reducible first | exact T.c_ALPHABET | exact T.c_MAX_LETTERS | exact T.c_MAX_COLUMNS | exact T.c_IN | exact T.c_OUT | exact T.c_UNLIKE | exact T.c_BROKEN | exact T.c_FINE | exact T.c_CHOOSE | exact T.c_MOST_TREES))
namespace Ax
theorem RelI.full {β : Type} {R : Nat → β → Prop} {n : Nat} {ys : List β} (h : RelI (fun _ => False) R n ys) : ys.length = n := by
  induction h with
  | nil => rfl
  | drop n _ _ => exact n.elim
  | keep _ _ ih => rw [List.length_append, ih]; rfl
theorem dpa_of {K : PySem.W.Frag} {H : Hp} {G : PyData → Prop} : ∀ {ys : List V}, (∀ y ∈ ys, ∃ d, Dp K H y d ∧ G d) → ∃ ds, DpAll K H ys ds ∧ ∀ d ∈ ds, G d
  | [], _ => ⟨[], .nil, fun _ h => nomatch h⟩
  | y :: ys, h => by
    obtain ⟨d, h1, h2⟩ := h y List.mem_cons_self
    obtain ⟨ds, h3, h4⟩ := dpa_of (ys := ys) fun y hy => h y (List.mem_cons_of_mem _ hy)
    refine ⟨d :: ds, .cons h1 h3, fun d' hd => ?_⟩
    rcases List.mem_cons.mp hd with e | e
    · rw [e]; exact h2
    · exact h4 d' e
def DR : Nat → Nat
  | 0 => 20
  | h + 1 => 20 + 6 * DR h
def NB : Nat → Nat
  | 0 => 1
  | h + 1 => 1 + 6 * NB h
def treeNames : List Str := ["x", "y", "u", "choose", "fine"]
theorem treeNames_ok : ∀ z ∈ treeNames, isNameS z = true ∧ isShort z = true := by decide +kernel
structure GoodT (h : Nat) (d : PyData) : Prop where
  wf : wf d = true
  tm : tame d = true
  dp : d.depth ≤ 5 + 2 * h
  nd : nodes d ≤ NB h
  ht : heightD d ≤ h
  nm : ∀ z ∈ namesD d, z ∈ treeNames
  hd : hard d = true
theorem kids_choose (n : PyData) (ts : List PyData) : kids (.tuple [.str "choose", n, .tuple ts]) = ts := by
  show (bif decide ((("choose" : Str)) = "choose") then ts else []) = ts
  rw [decide_eq_true rfl, cond_true]
theorem namesD_choose (z : Str) (ts : List PyData) : namesD (.tuple [.str "choose", .str z, .tuple ts]) = z :: namesAll ts := by
  rw [namesD_eq, kids_choose]
  show (bif decide ((("choose" : Str)) = "choose") then [z] else []) ++ _ = _
  rw [decide_eq_true rfl, cond_true]
  rfl
theorem formed_choose {z : Str} {ts : List PyData} (hz : isNameS z = true) (h1 : 1 ≤ ts.length) (h2 : ts.length ≤ 6) : isFormedD (.tuple [.str "choose", .str z, .tuple ts]) = true := by
  have e : isFormedD (.tuple [.str "choose", .str z, .tuple ts]) = bif isStrD (fun z => decide (z = "choose")) (.str "choose") then (isNameS z && (decide (1 ≤ ts.length) && decide (ts.length ≤ 6)))
      else (PyData.eqv (.tuple [.str "choose", .str z, .tuple ts]) (.tuple [.str "fine"]) || (isStrD (fun z => decide (z = "broken")) (.str "choose") && (decide (3 = 2) && isAtomD (.str z)))) := rfl
  rw [e, hz, decide_eq_true h1, decide_eq_true h2, show isStrD (fun z => decide (z = "choose")) (.str "choose") = true by decide +kernel]
  rfl
theorem all_mem {f : PyData → Bool} {g : List PyData → Bool} (g0 : g [] = true) (gc : ∀ d ds, g (d :: ds) = (f d && g ds)) : ∀ {ds : List PyData}, (∀ d ∈ ds, f d = true) → g ds = true
  | [], _ => g0
  | d :: ds, h => by
    rw [gc, h d List.mem_cons_self, all_mem g0 gc fun d hd => h d (List.mem_cons_of_mem _ hd)]
    rfl
theorem depthAll_le {n : Nat} : ∀ {ds : List PyData}, (∀ d ∈ ds, d.depth ≤ n) → PyData.depthAll ds ≤ n
  | [], _ => by simp [PyData.depthAll]
  | d :: ds, h => by
    have h1 := h d List.mem_cons_self
    have h2 := depthAll_le fun d hd => h d (List.mem_cons_of_mem _ hd)
    rw [PyData.depthAll]
    omega
theorem nodesAll_le {n : Nat} : ∀ {ds : List PyData}, (∀ d ∈ ds, nodes d ≤ n) → nodesAll ds ≤ ds.length * n
  | [], _ => by simp [nodesAll]
  | d :: ds, h => by
    have h1 := h d List.mem_cons_self
    have h2 := nodesAll_le fun d hd => h d (List.mem_cons_of_mem _ hd)
    rw [nodesAll, List.length_cons, Nat.succ_mul]
    omega
theorem heightAll_bd {n : Nat} : ∀ {ds : List PyData}, (∀ d ∈ ds, heightD d ≤ n) → heightAll ds ≤ n
  | [], _ => by simp [heightAll]
  | d :: ds, h => by
    have h1 := h d List.mem_cons_self
    have h2 := heightAll_bd fun d hd => h d (List.mem_cons_of_mem _ hd)
    rw [heightAll]
    omega
theorem namesAll_mem {P : Str → Prop} : ∀ {ds : List PyData}, (∀ d ∈ ds, ∀ z ∈ namesD d, P z) → ∀ z ∈ namesAll ds, P z
  | [], _ => fun z h => by simp [namesAll] at h
  | d :: ds, h => fun z hz => by
    rw [namesAll] at hz
    rcases List.mem_append.mp hz with hz | hz
    · exact h d List.mem_cons_self z hz
    · exact namesAll_mem (fun d hd => h d (List.mem_cons_of_mem _ hd)) z hz
theorem goodT_fine (h : Nat) : GoodT h (.tuple [.str "fine"]) := by
  have f : isFormedD (.tuple [.str "fine"]) = true := by decide +kernel
  have k : kids (.tuple [.str "fine"]) = [] := by simp [kids]
  refine ⟨?_, by decide +kernel, ?_, ?_, ?_, ?_, by decide +kernel⟩
  · rw [wf_eq, f, k]; simp [wfAll]
  · simp only [PyData.depth, PyData.depthAll]
    omega
  · rw [nodes_eq, k]
    cases h <;> simp [NB, nodesAll]
  · rw [heightD_nil _ f k]
    omega
  · rw [namesD_eq, k]
    simp [namesAll, ownName]
theorem goodT_broken (h : Nat) {d : PyData} (a : isAtomD d = true) (t : tame d = true) (dd : d.depth ≤ 4) (hd : hard d = true) : GoodT h (.tuple [.str "broken", d]) := by
  have f : isFormedD (.tuple [.str "broken", d]) = true := by
    have e : isFormedD (.tuple [.str "broken", d]) = bif isStrD (fun z => decide (z = "choose")) (.str "broken") then (decide (2 = 3) && (isNameD d && false))
      else (PyData.eqv (.tuple [.str "broken", d]) (.tuple [.str "fine"]) || (isStrD (fun z => decide (z = "broken")) (.str "broken") && (decide (2 = 2) && isAtomD d))) := rfl
    rw [e, a, show isStrD (fun z => decide (z = "choose")) (.str "broken") = false by decide +kernel, show isStrD (fun z => decide (z = "broken")) (.str "broken") = true by decide +kernel, cond_false]
    exact Bool.or_true _
  have k : kids (.tuple [.str "broken", d]) = [] := by simp [kids]
  refine ⟨?_, ?_, ?_, ?_, ?_, ?_, ?_⟩
  · rw [wf_eq, f, k]; simp [wfAll]
  · simp [tame, tameAll, t]
    decide +kernel
  · rw [PyData.depth, PyData.depthAll, PyData.depthAll, PyData.depthAll, PyData.depth]
    omega
  · rw [nodes_eq, k]
    cases h <;> simp [NB, nodesAll]
  · rw [heightD_nil _ f k]
    omega
  · rw [namesD_eq, k]
    simp [namesAll, ownName]
  · simp [hard, hardAll, hd]
theorem goodT_choose {h : Nat} {z : Str} {ts : List PyData} (hz : z ∈ treeNames) (h1 : 1 ≤ ts.length) (h2 : ts.length ≤ 6) (g : ∀ d ∈ ts, GoodT h d) : GoodT (h + 1) (.tuple [.str "choose", .str z, .tuple ts]) := by
  obtain ⟨a, b⟩ := treeNames_ok z hz
  have f := formed_choose a h1 h2
  have k := kids_choose (.str z) ts
  refine ⟨?_, ?_, ?_, ?_, ?_, ?_, ?_⟩
  · rw [wf_eq, f, k, wfAll_all, Bool.true_and, List.all_eq_true]
    exact fun d hd => (g d hd).wf
  · have e : tameAll ts = true := all_mem (by simp [tameAll]) (fun d ds => by rw [tameAll]) fun d hd => (g d hd).tm
    simp only [isShort] at b
    simp [tame, tameAll, e, b]
    refine ⟨by decide +kernel, by omega⟩
  · have e := depthAll_le fun d hd => (g d hd).dp
    simp only [PyData.depth, PyData.depthAll]
    omega
  · have e := nodesAll_le fun d hd => (g d hd).nd
    have e2 : ts.length * NB h ≤ 6 * NB h := Nat.mul_le_mul_right _ h2
    rw [nodes_eq, k, NB]
    omega
  · have e := heightAll_bd fun d hd => (g d hd).ht
    rw [heightD_eq _ (by rw [k]; rintro rfl; simp at h1), k]
    omega
  · rw [namesD_choose]
    intro z' hz'
    rcases List.mem_cons.mp hz' with e | e
    · rw [e]; exact hz
    · exact namesAll_mem (fun d hd => (g d hd).nm) z' e
  · have e : hardAll ts = true := all_mem (by simp [hardAll]) (fun d ds => by rw [hardAll]) fun d hd => (g d hd).hd
    simp [hard, hardAll, e]
def spGrow (K : PySem.W.Frag) (h : Nat) : Sp := fun vs H Q _ => ∃ (p : Addr) (n : Nat) (i : Int), vs = [.ref p, .int i] ∧ i = h ∧ H p = some (DiceO p n) ∧ n + DR h < 2 ^ 59 ∧ ∀ v d m H', Sm p H H' → H' p = some (DiceO p m) → m ≤ n + DR h → Dp K H' v d → GoodT h d → Q v H'
section
variable {P : Program} {w : World} {K : PySem.W.Frag} {mg : Str → Option Value} {base : Heap}
set_option hygiene false in
local macro_rules | `(tactic| tbr_iter "var") => `(tactic| first | ((with_reducible show W _ (.Name "dice" _) _ _ _); refine w_var 0 rfl (by tbr_iter "vis") rfl ?_) | ((with_reducible show W _ (.Name "high" _) _ _ _); refine w_var 1 rfl (by tbr_iter "vis") rfl ?_) | ((with_reducible show W _ (.Name "trees" _) _ _ _); refine w_var 2 rfl (by tbr_iter "vis") rfl ?_) | ((with_reducible show W _ (.Name "turn" _) _ _ _); refine w_var 3 rfl (by tbr_iter "vis") rfl ?_))
set_option hygiene false in
local macro_rules | `(tactic| tbr_iter "set") => `(tactic| first | ((with_reducible show WB _ (.Assign [.Name "dice" _] _ _ :: _) _ _ _); refine wb_cons (ws_set 0 ?_ rfl nd)) | ((with_reducible show WB _ (.Assign [.Name "high" _] _ _ :: _) _ _ _); refine wb_cons (ws_set 1 ?_ rfl nd)) | ((with_reducible show WB _ (.Assign [.Name "trees" _] _ _ :: _) _ _ _); refine wb_cons (ws_set 2 ?_ rfl nd)) | ((with_reducible show WB _ (.Assign [.Name "turn" _] _ _ :: _) _ _ _); refine wb_cons (ws_set 3 ?_ rfl nd)))
theorem step_any_tree (T : Txt K mg) (h : Nat) (ih : ∀ h', h = h' + 1 → Callee P w K mg base "_law_any_tree" (5 + h') ["dice", "high"] (spGrow K h')) : Callee P w K mg base "_law_any_tree" (5 + h) ["dice", "high"] (spGrow K h) := by
  have e5 : 5 + h = (4 + h) + 1 := by omega
  rw [e5]
  refine def_ok T.f__law_any_tree sc__law_any_tree (fun _ _ _ _ _ _ us hl => match us, hl with | [_, _], _ => rfl) (fun vs H Q E q => ?_) fun f cdv A outer s H vs Q E hr q => ?_
  · obtain ⟨p, n, i, rfl, _⟩ := q; rfl
  obtain ⟨p, n, i, rfl, rfl, hp, hn, k⟩ := q
  have nd := sc__law_any_tree.nd
  have d0 : 20 ≤ DR h := by cases h <;> simp [DR]
  refine wb_cons (ws_if (WT.mono (Q := fun c H1 => ∃ m, Sm p H H1 ∧ H1 p = some (DiceO p m) ∧ m ≤ n + 1 ∧ (c = false → h ≠ 0)) ?_ ?_))
  · tbr_iter "go"
    refine ⟨_, rfl, w_if2 (fun c => ⟨n, Sm.refl hp, hp, by omega, fun z => by cases z⟩) (fun c => ?_)⟩
    have c : ¬ (h : Int) = 0 := by simpa using c
    refine ww_or1 (wt_cmp ?_)
    refine w_call (ok_law_roll T) (hr.mono (by omega)) passL ?_
    tbr_iter "go"
    refine ⟨p, n, _, rfl, hp, by omega, by decide, by decide, fun r H1 s1 hp1 r0 r1 => ?_⟩
    tbr_iter "go"
    exact ⟨_, rfl, n + 1, s1, hp1, Nat.le_refl _, fun _ z => c (by rw [z]; rfl)⟩
  rintro c H1 ⟨m, s1, hp1, hm, hc⟩
  refine w_if2 (fun c1 => ?_) (fun c1 => ?_)
  · tbr_iter "go"
    refine w_call (ok_law_roll T) (hr.mono (by omega)) passL ?_
    tbr_iter "go"
    refine ⟨p, m, _, rfl, hp1, by omega, by decide, by decide, fun r H2 s2 hp2 _ _ => ?_⟩
    tbr_iter "go"
    refine ⟨_, rfl, w_if2 (fun c2 => ?_) (fun c2 => ?_)⟩
    · tbr_iter "go"
      refine ⟨by decide, fun t H3 s3 n3 ht => ?_⟩
      exact k _ _ (m + 1) H3 ((s1.trans s2).same s3) (s3 _ _ hp2) (by omega) (.tup (SqT.of ht) (.cons (.str _) .nil)) (goodT_fine h)
    · tbr_iter "go"
      refine w_call (ok_law_any_atom T) (hr.mono (by omega)) passL ?_
      tbr_iter "go"
      refine ⟨p, m + 1, rfl, hp2, by omega, fun v d m3 H3 s3 hp3 hm3 hd a1 a2 a3 a4 => ?_⟩
      tbr_iter "go"
      refine ⟨two_line, fun t H4 s4 n4 ht => ?_⟩
      exact k _ _ m3 H4 (((s1.trans s2).trans s3).same s4) (s4 _ _ hp3) (by omega) (.tup (SqT.of ht) (.cons (.str _) (.cons (dp_same s4 hd) .nil))) (goodT_broken h a1 a2 a3 a4)
  · obtain ⟨h', rfl⟩ : ∃ h', h = h' + 1 := ⟨h - 1, by have := hc c1; omega⟩
    have hn : n + (20 + 6 * DR h') < 2 ^ 59 := hn
    refine wb_nil (wb_cons (ws_setLcM 2 p [("turn", 3)] (gName 3) (fun _ _ _ _ _ => pg_name nd rfl (Or.inl rfl) (Or.inr rfl)) rfl nd (by tbr_iter "blk") rfl (wi_range1 T.z_range ?_)))
    refine wa_cons (w_call (ok_law_pick T) (hr.mono (by omega)) passL ?_)
    tbr_iter "go"
    refine ⟨by decide, fun l H2 s2 n2 hl => ?_⟩
    tbr_iter "go"
    refine ⟨p, l, m, _, rfl, s2 _ _ hp1, by omega, SqL.of hl, by simp, by simp, fun v hv H3 s3 hp3 => ?_⟩
    have hv : ∃ r : Nat, v = .int r ∧ 1 ≤ r ∧ r ≤ 6 := by
      simp only [List.mem_cons, List.not_mem_nil, or_false] at hv
      rcases hv with e | e | e | e | e | e
      · exact ⟨1, e, by omega, by omega⟩
      · exact ⟨2, e, by omega, by omega⟩
      · exact ⟨3, e, by omega, by omega⟩
      · exact ⟨2, e, by omega, by omega⟩
      · exact ⟨4, e, by omega, by omega⟩
      · exact ⟨6, e, by omega, by omega⟩
    obtain ⟨r, rfl, r1, r6⟩ := hv
    refine wa_nil ⟨(r : Int), rfl, by omega, by omega, intsV 0 (r : Int).toNat, seqItM_range, ?_, m + 1, fun j => j * DR h', fun j y Hc => ∃ d, Dp K Hc y d ∧ GoodT h' d, hp3, fun _ _ _ _ ⟨d, h1, h2⟩ sl => ⟨d, dp_sl sl h2.hd h1, h2⟩, fun j v hv H4 m4 s4 hp4 hm4 Kt kt => ?_, fun q ys H4 m4 s4 hp4 hm4 hq0 hq rel => ?_⟩
    · have e : (intsV 0 (r : Int).toNat).length = r := by simp [intsV]
      rw [e]
      exact Nat.lt_of_le_of_lt (show r ≤ 6 by omega) (by decide)
    · have hj : j < r := by
        have e := (List.getElem?_eq_some_iff.mp hv).1
        simpa [intsV] using e
      have hm4 : m4 ≤ m + 1 + j * DR h' := hm4
      have ej : j * DR h' ≤ 5 * DR h' := Nat.mul_le_mul_right _ (by omega)
      have ej1 : (j + 1) * DR h' = j * DR h' + DR h' := Nat.succ_mul _ _
      refine ⟨rfl, fun _ _ _ _ _ => ?_⟩
      refine w_call (ih h' rfl) (hr.mono (by omega)) passL ?_
      tbr_iter "go"
      refine ⟨p, m4, _, rfl, by omega, hp4, by omega, fun v d m5 H5 s5 hp5 hm5 hd g => kt v H5 m5 s5 hp5 (show m5 ≤ m + 1 + (j + 1) * DR h' by omega) ⟨d, hd, g⟩⟩
    · have e : (intsV 0 (r : Int).toNat).length = r := by simp [intsV]
      rw [e] at rel hm4
      have hm4 : m4 ≤ m + 1 + r * DR h' := hm4
      have er : r * DR h' ≤ 6 * DR h' := Nat.mul_le_mul_right _ r6
      have hlen := rel.full
      obtain ⟨ds, hds, hg⟩ := dpa_of (K := K) (H := H4) (G := GoodT h') (ys := ys) fun y hy => by
        obtain ⟨j, _, d, h1, h2⟩ := rel.mem y hy
        exact ⟨d, h1, h2⟩
      have hdl := dpa_len hds
      tbr_iter "go"
      refine w_call (ok_law_pick T) (hr.mono (by omega)) passL ?_
      tbr_iter "go"
      refine ⟨by decide, fun l5 H5 s5 n5 hl5 => ?_⟩
      tbr_iter "go"
      refine ⟨p, l5, m4, _, rfl, s5 _ _ hp4, by omega, SqL.of hl5, by simp, by simp, fun v6 hv6 H6 s6 hp6 => ?_⟩
      obtain ⟨z, hz, rfl⟩ := List.mem_map.mp (show v6 ∈ treeNames.map V.str from hv6)
      have s46 := (Sm.of hp4 s5).trans s6
      tbr_iter "go"
      refine kv_tupleL (SqL.of (s46.lst hq)) fun t7 H7 s7 n7 ht7 => ?_
      tbr_iter "go"
      refine ⟨three_line, fun t8 H8 s8 n8 ht8 => ?_⟩
      have s48 := (s46.same s7).same s8
      refine k _ (.tuple [.str "choose", .str z, .tuple ds]) (m4 + 1) H8 ((((s1.same s2).trans s3).trans s4).trans s48) (s8 _ _ (s7 _ _ hp6)) ?_ (.tup (SqT.of ht8) (.cons (.str _) (.cons (.str _) (.cons (.tup (SqT.of (s8 _ _ ht7)) (dpa_sm s48 hds)) .nil)))) (goodT_choose hz (by omega) (by omega) hg)
      show m4 + 1 ≤ n + (20 + 6 * DR h')
      omega
theorem ok_law_any_tree (T : Txt K mg) : ∀ h, Callee P w K mg base "_law_any_tree" (5 + h) ["dice", "high"] (spGrow K h)
  | 0 => step_any_tree T 0 fun h' e => by omega
  | h + 1 => step_any_tree T (h + 1) fun h' e => by
    have e : h = h' := by omega
    subst e
    exact ok_law_any_tree T h
end
end Ax
end
section
set_option maxHeartbeats 4000000
open PySem PySem.Spec PyProof.Rows L2 Ax
set_option hygiene false in
local macro_rules | `(tactic| tbr_iter "boot") => `(tactic| with_reducible first | exact Ax.b_len | exact Ax.b_all | exact Ax.b_any | exact Ax.b_sorted | exact Ax.b_isinstance | exact Ax.b_abs | exact Ax.b_max | exact Ax.b_min | exact Ax.b_sum | exact Ax.b_repr | exact Ax.b_iter | exact Ax.b_ord | exact Ax.b_chr | exact Ax.b_str | exact Ax.b_int | exact Ax.b_bool | exact Ax.b_tuple | exact Ax.b_list | exact Ax.b_dict | exact Ax.b_set | exact Ax.b_range | exact Ax.b_enumerate | exact Ax.b_zip)
set_option hygiene false in
local macro_rules | `(tactic| tbr_iter "vis") => `(tactic| first | exact Or.inl rfl | exact Or.inr (Or.inl rfl) | exact Or.inr (Or.inr rfl))
set_option hygiene false in
local macro_rules | `(tactic| tbr_iter "w") => `(tactic| first
  | refine wb_cons ?_
  | refine wb_nil ?_
  | refine ws_ret ?_
  | refine ws_if ?_
  | refine ws_sub ?_
  | refine wa_cons ?_
  | refine wa_nil ?_
  | refine w_int ?_
  | refine w_str ?_
  | refine w_bl ?_
  | refine w_non ?_
  | tbr_iter "var"
  | refine w_bin ?_
  | refine w_cmp ?_
  | refine w_chain ?_
  | refine w_and ?_
  | refine w_or ?_
  | refine w_one ?_
  | refine w_not ?_
  | refine w_ix ?_
  | refine w_ifExp ?_
  | refine w_tup ?_
  | refine w_lst ?_
  | refine wt_not ?_
  | refine wt_bool ?_
  | refine ww_and ?_
  | refine ww_and1 ?_
  | refine ww_or ?_
  | refine ww_or1 ?_
  | refine wt_cmp ?_
  | refine wt_val ?_
  | tbr_iter "call"
  | (refine w_glob (by tbr_iter "mg") ?_)
  | (refine w_callB (by tbr_iter "z") ?_)
  | (refine w_callTy (by tbr_iter "z") ?_)
  | (refine w_bltT (by tbr_iter "z") ?_))
set_option hygiene false in
local macro_rules | `(tactic| tbr_iter "blk") => `(tactic| first | exact blkOk_by (by dsimp only [cxOf, envOfC]; decide +kernel))
set_option hygiene false in
local macro_rules | `(tactic| tbr_iter "iff") => `(tactic| first
  | refine iteT ?_
  | refine iteF ?_
  | refine w_if2 (fun _ => ?_) (fun _ => ?_))
set_option hygiene false in
local macro_rules | `(tactic| tbr_iter "sc") => `(tactic| first | omega | decide)
set_option hygiene false in
local macro_rules | `(tactic| tbr_iter "at") => `(tactic| first | exact atI_0 | exact atI_1 | exact atI_2)
set_option hygiene false in
local macro_rules | `(tactic| tbr_iter "sql") => `(tactic| ((try dsimp only [L2.cxOf, L2.Cx.blk]); with_reducible first | assumption | exact SqL.of (by assumption)))
set_option hygiene false in
local macro_rules | `(tactic| tbr_iter "sqt") => `(tactic| ((try dsimp only [L2.cxOf, L2.Cx.blk]); with_reducible first | assumption | exact SqT.of (by assumption)))
set_option hygiene false in
local macro_rules | `(tactic| tbr_iter "v") => `(tactic| first
  | refine bv_add ?_
  | refine bv_sub ?_
  | ((with_reducible show BinV _ .Mult _ _ _ _); refine bv_mul (Or.inl ⟨by tbr_iter "sc", by tbr_iter "sc"⟩) ?_)
  | ((with_reducible show BinV _ .Mult _ _ _ _); refine bv_mul (Or.inr ⟨by tbr_iter "sc", by tbr_iter "sc"⟩) ?_)
  | ((with_reducible show BinV _ .Mod _ _ _ _); refine bv_mod (by tbr_iter "sc") ?_)
  | ((with_reducible show BinV _ .FloorDiv _ _ _ _); refine bv_fdiv ⟨by tbr_iter "sc", by tbr_iter "sc"⟩ ?_)
  | ((with_reducible show BinV _ .Pow _ _ _ _); refine bv_pow ⟨by decide, by decide +kernel⟩ ?_)
  | refine cv_lt ?_
  | refine cv_le ?_
  | refine cv_gt ?_
  | refine cv_ge ?_
  | ((with_reducible show CmpV _ .Eq _ _ _ _); refine cv_eq rfl ?_)
  | ((with_reducible show CmpV _ .NotEq _ _ _ _); refine cv_ne rfl ?_)
  | refine iv_list (by tbr_iter "sql") (by tbr_iter "at") ?_
  | refine iv_tup (by tbr_iter "sqt") (by tbr_iter "at") ?_
  | refine kv_len_seq (Or.inl (by tbr_iter "sql")) ?_
  | refine kv_len_seq (Or.inr (by tbr_iter "sqt")) ?_
  | refine kv_int ?_
  | refine kv_intB ?_
  | refine kv_abs ?_
  | refine kv_max2 rfl ?_
  | refine kv_min2 rfl ?_)
set_option hygiene false in
local macro_rules | `(tactic| tbr_iter "b") => `(tactic| first
  | refine ⟨_, rfl, iteT ?_⟩
  | refine ⟨_, rfl, iteF ?_⟩
  | refine iteT ?_
  | refine iteF ?_)
set_option hygiene false in
local macro_rules | `(tactic| tbr_iter "go") => `(tactic| repeat (first | tbr_iter "w" | tbr_iter "v" | tbr_iter "b"))
set_option hygiene false in
local macro_rules | `(tactic| tbr_iter "nof") => `(tactic| (intro d hd; cases d <;> first | rfl | exact absurd rfl (hd _)))
set_option hygiene false in
local macro_rules | `(tactic| tbr_iter "e1") => `(tactic| first | ((with_reducible show W _ _ _ _ _); tbr_iter "w") | ((with_reducible show WA _ _ _ _ _); tbr_iter "w") | ((with_reducible show WT _ _ _ _ _); tbr_iter "w") | ((with_reducible show WW _ _ _ _ _); tbr_iter "w") | tbr_iter "v")
set_option hygiene false in
local macro_rules | `(tactic| tbr_iter "ex") => `(tactic| repeat (tbr_iter "e1"))
set_option hygiene false in
local macro_rules | `(tactic| tbr_iter "z") => `(tactic| ((try dsimp only [L2.cxOf]); with_reducible first | exact T.z_ValueError | exact T.z_abs | exact T.z_all | exact T.z_int | exact T.z_isinstance | exact T.z_len | exact T.z_max | exact T.z_min | exact T.z_range | exact T.z_set | exact T.z_sorted | exact T.z_str | exact T.z_sum | exact T.z_tuple))
set_option hygiene false in
local macro_rules | `(tactic| tbr_iter "mg") => `(tactic| ((try dsimp only [L2.cxOf]); with_reducible first | exact T.c_ALPHABET | exact T.c_MAX_LETTERS | exact T.c_MAX_COLUMNS | exact T.c_IN | exact T.c_OUT | exact T.c_UNLIKE | exact T.c_BROKEN | exact T.c_FINE | exact T.c_CHOOSE | exact T.c_MOST_TREES))
namespace Ax
theorem nodesAll_sum : ∀ ts : List PyData, (ts.map fun t => (nodes t : Int)).sum = nodesAll ts
  | [] => by simp [nodesAll]
  | t :: ts => by
    rw [List.map_cons, List.sum_cons, nodesAll_sum ts, nodesAll]
    omega
/-- ints made of data, one by one -/
theorem ints_of_rel {f : PyData → Int} {ts : List PyData} {ys : List V} {H : Hp} (rel : RelI (fun _ => False) (fun j y => ∃ t, ts[j]? = some t ∧ y = V.int (f t)) ts.length ys) : ys = (ts.map f).map V.int := by
  obtain ⟨es, e1, e2⟩ := rel.data (T := fun y (i : Int) => y = V.int i) (ds := ts) (fun t => some (f t)) (fun _ _ _ h => h.elim) (fun j q y hq ⟨q', h1, h2⟩ => ⟨_, rfl, by rw [hq] at h1; cases h1; exact h2⟩) (Nat.le_refl _)
  rw [List.take_length, List.filterMap_eq_map'] at e1
  rw [e1]
  exact e2.mapL
def spRec (K : PySem.W.Frag) (h : Nat) (G : PyData → Hp → VK → Prop) : Sp := fun vs H Q _ => ∃ v d, vs = [v] ∧ Dp K H v d ∧ wf d = true ∧ heightD d ≤ h ∧ G d H Q
def gNames (d : PyData) (H : Hp) (Q : VK) : Prop := nodes d ≤ 100000 ∧ ∀ q H', Same H H' → H q = none → H' q = some (.lst ((namesD d).map V.str)) → Q (.ref q) H'
mutual
theorem names_nodes : ∀ d : PyData, (namesD d).length ≤ nodes d
  | .none => by simp [namesD]
  | .bool _ => by simp [namesD]
  | .int _ => by simp [namesD]
  | .str _ => by simp [namesD]
  | .list _ => by simp [namesD]
  | .dict _ => by simp [namesD]
  | .tuple ds => by
    rw [namesD_eq, nodes_eq, List.length_append]
    have h1 : (ownName (.tuple ds)).length ≤ 1 := by
      unfold ownName
      split
      · rename_i z n ts _
        cases decide (z = "choose") <;> simp
      · simp
    have h2 : (namesAll (kids (.tuple ds))).length ≤ nodesAll (kids (.tuple ds)) := by
      unfold kids
      split
      · rename_i z n ts h
        injection h with h
        cases e : decide (z = "choose")
        · simp [namesAll, nodesAll]
        · subst h
          exact namesAll_nodes ts
      · simp [namesAll, nodesAll]
    omega
theorem namesAll_nodes : ∀ ds : List PyData, (namesAll ds).length ≤ nodesAll ds
  | [] => by simp [namesAll]
  | d :: ds => by
    rw [namesAll, nodesAll, List.length_append]
    have h1 := names_nodes d
    have h2 := namesAll_nodes ds
    omega
end
theorem namesAll_snoc (t : PyData) : ∀ ts : List PyData, namesAll (ts ++ [t]) = namesAll ts ++ namesD t
  | [] => by simp [namesAll]
  | d :: ds => by
    rw [List.cons_append, namesAll, namesAll, namesAll_snoc t ds, List.append_assoc]
theorem nodesAll_snoc (t : PyData) : ∀ ts : List PyData, nodesAll (ts ++ [t]) = nodesAll ts + nodes t
  | [] => by simp [nodesAll]
  | d :: ds => by
    rw [List.cons_append, nodesAll, nodesAll, nodesAll_snoc t ds, Nat.add_assoc]
theorem nodesAll_take (ts : List PyData) (j : Nat) : nodesAll (ts.take j) ≤ nodesAll ts := by
  induction ts generalizing j with
  | nil => simp [nodesAll]
  | cons t ts ih =>
    cases j with
    | zero => simp [nodesAll]
    | succ j =>
      rw [List.take_succ_cons, nodesAll, nodesAll]
      have := ih j
      omega
theorem wf_kid {d c : PyData} {h : Nat} (w : wf d = true) (hh : heightD d ≤ h) (hc : c ∈ kids d) : wf c = true ∧ heightD c + 1 ≤ h := by
  rw [wf_eq, Bool.and_eq_true] at w
  exact ⟨wfAll_mem w.2 hc, Nat.le_trans (kids_height hc) hh⟩
section
variable {P : Program} {w : World} {K : PySem.W.Frag} {mg : Str → Option Value} {base : Heap}
set_option hygiene false in
local macro_rules | `(tactic| tbr_iter "var") => `(tactic| first | ((with_reducible show W _ (.Name "tree" _) _ _ _); refine w_var 0 rfl (by tbr_iter "vis") rfl ?_) | ((with_reducible show W _ (.Name "inner" _) _ _ _); refine w_var 1 rfl (by tbr_iter "vis") rfl ?_))
set_option hygiene false in
local macro_rules | `(tactic| tbr_iter "set") => `(tactic| first | ((with_reducible show WB _ (.Assign [.Name "tree" _] _ _ :: _) _ _ _); refine wb_cons (ws_set 0 ?_ rfl nd)) | ((with_reducible show WB _ (.Assign [.Name "inner" _] _ _ :: _) _ _ _); refine wb_cons (ws_set 1 ?_ rfl nd)))
theorem step_law_size (T : Txt K mg) (h : Nat) (ih : ∀ h', h = h' + 1 → Callee P w K mg base "_law_size" (1 + h') ["tree"] (spRec K h' gSize)) : Callee P w K mg base "_law_size" (1 + h) ["tree"] (spRec K h gSize) := by
  have e5 : 1 + h = (0 + h) + 1 := by omega
  rw [e5]
  refine def_ok T.f__law_size sc__law_size (fun _ _ _ _ _ _ us hl => match us, hl with | [_], _ => rfl) (fun vs H Q E q => ?_) fun f cdv A outer s H vs Q E hr q => ?_
  · obtain ⟨v, d, rfl, _⟩ := q; rfl
  obtain ⟨v, d, rfl, hd, wd, hh, k⟩ := q
  have nd := sc__law_size.nd
  have fm : isFormedD d = true := by
    have e := wd
    rw [wf_eq, Bool.and_eq_true] at e
    exact e.1
  rcases formed_cases fm with ⟨n, ts, rfl, hk, hn1, hl1, hl2⟩ | ⟨z, dr, rfl, hz, hk⟩
  · cases hd with
    | @tup p zs _ hp ha =>
    obtain ⟨z0, z1, z2, rfl⟩ := three_of (xs := zs) (dpa_len ha)
    cases ha with
    | cons h0 ha =>
    cases ha with
    | cons h1 ha =>
    cases ha with
    | cons h2 ha =>
    cases h0
    cases h2 with
    | @tup p2 us _ hu hus =>
    tbr_iter "go"
    have lu := dpa_len hus
    refine w_lcG [("inner", 1)] (gName 1) tYes (fun _ _ _ _ _ => pg_name nd rfl (Or.inl rfl) (Or.inr rfl)) (fun _ _ _ _ _ => pts_nil) rfl nd (by tbr_iter "blk") (wi_val ?_)
    tbr_iter "go"
    refine itv_tup hu ⟨us, seqIt_tup hu, Nat.lt_of_le_of_lt (show us.length ≤ 6 by omega) (by decide), fun _ => False, fun j y _ => ∃ t, ts[j]? = some t ∧ y = .int (nodes t), fun _ _ _ _ h _ => h, fun j v hv H2 s2 Kf Kt _ kt => ?_, fun q ys H2 s2 n2 hq rel => ?_⟩
    · obtain ⟨t, ht, hdt⟩ := dpa_get hus hv
      have hc : t ∈ kids (.tuple [.str "choose", n, .tuple ts]) := by rw [hk]; exact List.mem_of_getElem? ht
      obtain ⟨w1, h1⟩ := wf_kid wd hh hc
      obtain ⟨h', rfl⟩ : ∃ h', h = h' + 1 := ⟨h - 1, by omega⟩
      refine ⟨rfl, ?_⟩
      unfold tYes
      refine iteT ?_
      intro _ _ _ _ _
      refine w_call (ih h' rfl) (hr.mono (by omega)) passL ?_
      tbr_iter "go"
      exact ⟨v, t, rfl, dp_same s2 hdt, w1, by omega, fun H3 s3 => kt _ _ s3 ⟨t, ht, rfl⟩⟩
    · have rel : RelI (fun _ => False) (fun j y => ∃ t, ts[j]? = some t ∧ y = V.int ((fun t => (nodes t : Int)) t)) ts.length ys := by rw [← lu]; exact rel
      have ez := ints_of_rel (H := H) rel
      subst ez
      tbr_iter "go"
      refine kv_sumL rfl (SqL.of hq) ?_
      tbr_iter "go"
      refine qi (k H2 s2) ?_
      rw [nodesAll_sum, nodes_eq, hk]
      omega
  · cases hd with
    | @tup p zs _ hp ha =>
    obtain ⟨z0, zr, rfl⟩ := cons_of (xs := zs) (by rintro rfl; cases ha)
    cases ha with
    | cons h0 ha =>
    cases h0
    tbr_iter "go"
    refine ⟨_, rfl, w_if2 (fun c => ?_) (fun c => absurd (by simpa using c) hz)⟩
    tbr_iter "go"
    refine qi (k H (Same.refl _)) ?_
    rw [nodes_eq, hk]
    rfl
theorem ok_law_size (T : Txt K mg) : ∀ h, Callee P w K mg base "_law_size" (1 + h) ["tree"] (spRec K h gSize)
  | 0 => step_law_size T 0 fun h' e => by omega
  | h + 1 => step_law_size T (h + 1) fun h' e => by
    have e : h = h' := by omega
    subst e
    exact ok_law_size T h
set_option hygiene false in
local macro_rules | `(tactic| tbr_iter "var") => `(tactic| first | ((with_reducible show W _ (.Name "tree" _) _ _ _); refine w_var 0 rfl (by tbr_iter "vis") rfl ?_) | ((with_reducible show W _ (.Name "inner" _) _ _ _); refine w_var 1 rfl (by tbr_iter "vis") rfl ?_))
set_option hygiene false in
local macro_rules | `(tactic| tbr_iter "set") => `(tactic| first | ((with_reducible show WB _ (.Assign [.Name "tree" _] _ _ :: _) _ _ _); refine wb_cons (ws_set 0 ?_ rfl nd)) | ((with_reducible show WB _ (.Assign [.Name "inner" _] _ _ :: _) _ _ _); refine wb_cons (ws_set 1 ?_ rfl nd)))
theorem step_law_height (T : Txt K mg) (h : Nat) (ih : ∀ h', h = h' + 1 → Callee P w K mg base "_law_height" (1 + h') ["tree"] (spRec K h' gHeight)) : Callee P w K mg base "_law_height" (1 + h) ["tree"] (spRec K h gHeight) := by
  have e5 : 1 + h = (0 + h) + 1 := by omega
  rw [e5]
  refine def_ok T.f__law_height sc__law_height (fun _ _ _ _ _ _ us hl => match us, hl with | [_], _ => rfl) (fun vs H Q E q => ?_) fun f cdv A outer s H vs Q E hr q => ?_
  · obtain ⟨v, d, rfl, _⟩ := q; rfl
  obtain ⟨v, d, rfl, hd, wd, hh, k⟩ := q
  have nd := sc__law_height.nd
  have fm : isFormedD d = true := by
    have e := wd
    rw [wf_eq, Bool.and_eq_true] at e
    exact e.1
  rcases formed_cases fm with ⟨n, ts, rfl, hk, hn1, hl1, hl2⟩ | ⟨z, dr, rfl, hz, hk⟩
  · cases hd with
    | @tup p zs _ hp ha =>
    obtain ⟨z0, z1, z2, rfl⟩ := three_of (xs := zs) (dpa_len ha)
    cases ha with
    | cons h0 ha =>
    cases ha with
    | cons h1 ha =>
    cases ha with
    | cons h2 ha =>
    cases h0
    cases h2 with
    | @tup p2 us _ hu hus =>
    tbr_iter "go"
    have lu := dpa_len hus
    refine w_lcG [("inner", 1)] (gName 1) tYes (fun _ _ _ _ _ => pg_name nd rfl (Or.inl rfl) (Or.inr rfl)) (fun _ _ _ _ _ => pts_nil) rfl nd (by tbr_iter "blk") (wi_val ?_)
    tbr_iter "go"
    refine itv_tup hu ⟨us, seqIt_tup hu, Nat.lt_of_le_of_lt (show us.length ≤ 6 by omega) (by decide), fun _ => False, fun j y _ => ∃ t, ts[j]? = some t ∧ y = .int (heightD t), fun _ _ _ _ h _ => h, fun j v hv H2 s2 Kf Kt _ kt => ?_, fun q ys H2 s2 n2 hq rel => ?_⟩
    · obtain ⟨t, ht, hdt⟩ := dpa_get hus hv
      have hc : t ∈ kids (.tuple [.str "choose", n, .tuple ts]) := by rw [hk]; exact List.mem_of_getElem? ht
      obtain ⟨w1, h1⟩ := wf_kid wd hh hc
      obtain ⟨h', rfl⟩ : ∃ h', h = h' + 1 := ⟨h - 1, by omega⟩
      refine ⟨rfl, ?_⟩
      unfold tYes
      refine iteT ?_
      intro _ _ _ _ _
      refine w_call (ih h' rfl) (hr.mono (by omega)) passL ?_
      tbr_iter "go"
      exact ⟨v, t, rfl, dp_same s2 hdt, w1, by omega, fun H3 s3 => kt _ _ s3 ⟨t, ht, rfl⟩⟩
    · have rel : RelI (fun _ => False) (fun j y => ∃ t, ts[j]? = some t ∧ y = V.int ((fun t => (heightD t : Int)) t)) ts.length ys := by rw [← lu]; exact rel
      have ez := ints_of_rel (H := H) rel
      subst ez
      tbr_iter "go"
      refine kv_maxL rfl (SqL.of hq) (by rw [List.length_map]; omega) fun m hm hb => ?_
      tbr_iter "go"
      refine qi (k H2 s2) ?_
      have hne : kids (.tuple [.str "choose", n, .tuple ts]) ≠ [] := by rw [hk]; rintro rfl; simp at hl1
      rw [heightD_eq _ hne, hk]
      obtain ⟨c, hc, e⟩ := heightAll_mem (ts := ts) (by rintro rfl; simp at hl1)
      have b1 := hb _ (List.mem_map.mpr ⟨c, hc, rfl⟩)
      obtain ⟨c2, hc2, rfl⟩ := List.mem_map.mp hm
      have b2 := heightAll_le hc2
      omega
  · cases hd with
    | @tup p zs _ hp ha =>
    obtain ⟨z0, zr, rfl⟩ := cons_of (xs := zs) (by rintro rfl; cases ha)
    cases ha with
    | cons h0 ha =>
    cases h0
    tbr_iter "go"
    refine ⟨_, rfl, w_if2 (fun c => ?_) (fun c => absurd (by simpa using c) hz)⟩
    tbr_iter "go"
    refine qi (k H (Same.refl _)) ?_
    rw [heightD_nil _ fm hk]
    rfl
theorem ok_law_height (T : Txt K mg) : ∀ h, Callee P w K mg base "_law_height" (1 + h) ["tree"] (spRec K h gHeight)
  | 0 => step_law_height T 0 fun h' e => by omega
  | h + 1 => step_law_height T (h + 1) fun h' e => by
    have e : h = h' := by omega
    subst e
    exact ok_law_height T h
end
end Ax
end
section
set_option maxHeartbeats 4000000
open PySem PySem.Spec PyProof.Rows L2 Ax
set_option hygiene false in
local macro_rules | `(tactic| tbr_iter "boot") => `(tactic| with_reducible first | exact Ax.b_len | exact Ax.b_all | exact Ax.b_any | exact Ax.b_sorted | exact Ax.b_isinstance | exact Ax.b_abs | exact Ax.b_max | exact Ax.b_min | exact Ax.b_sum | exact Ax.b_repr | exact Ax.b_iter | exact Ax.b_ord | exact Ax.b_chr | exact Ax.b_str | exact Ax.b_int | exact Ax.b_bool | exact Ax.b_tuple | exact Ax.b_list | exact Ax.b_dict | exact Ax.b_set | exact Ax.b_range | exact Ax.b_enumerate | exact Ax.b_zip)
set_option hygiene false in
local macro_rules | `(tactic| tbr_iter "vis") => `(tactic| first | exact Or.inl rfl | exact Or.inr (Or.inl rfl) | exact Or.inr (Or.inr rfl))
set_option hygiene false in
local macro_rules | `(tactic| tbr_iter "w") => `(tactic| first
  | refine wb_cons ?_
  | refine wb_nil ?_
  | refine ws_ret ?_
  | refine ws_if ?_
  | refine ws_sub ?_
  | refine wa_cons ?_
  | refine wa_nil ?_
  | refine w_int ?_
  | refine w_str ?_
  | refine w_bl ?_
  | refine w_non ?_
  | tbr_iter "var"
  | refine w_bin ?_
  | refine w_cmp ?_
  | refine w_chain ?_
  | refine w_and ?_
  | refine w_or ?_
  | refine w_one ?_
  | refine w_not ?_
  | refine w_ix ?_
  | refine w_ifExp ?_
  | refine w_tup ?_
  | refine w_lst ?_
  | refine wt_not ?_
  | refine wt_bool ?_
  | refine ww_and ?_
  | refine ww_and1 ?_
  | refine ww_or ?_
  | refine ww_or1 ?_
  | refine wt_cmp ?_
  | refine wt_val ?_
  | tbr_iter "call"
  | (refine w_glob (by tbr_iter "mg") ?_)
  | (refine w_callB (by tbr_iter "z") ?_)
  | (refine w_callTy (by tbr_iter "z") ?_)
  | (refine w_bltT (by tbr_iter "z") ?_))
set_option hygiene false in
local macro_rules | `(tactic| tbr_iter "blk") => `(tactic| first | exact blkOk_by (by dsimp only [cxOf, envOfC]; decide +kernel))
set_option hygiene false in
local macro_rules | `(tactic| tbr_iter "iff") => `(tactic| first
  | refine iteT ?_
  | refine iteF ?_
  | refine w_if2 (fun _ => ?_) (fun _ => ?_))
set_option hygiene false in
local macro_rules | `(tactic| tbr_iter "sc") => `(tactic| first | omega | decide)
set_option hygiene false in
local macro_rules | `(tactic| tbr_iter "at") => `(tactic| first | exact atI_0 | exact atI_1 | exact atI_2)
set_option hygiene false in
local macro_rules | `(tactic| tbr_iter "sql") => `(tactic| ((try dsimp only [L2.cxOf, L2.Cx.blk]); with_reducible first | assumption | exact SqL.of (by assumption)))
set_option hygiene false in
local macro_rules | `(tactic| tbr_iter "sqt") => `(tactic| ((try dsimp only [L2.cxOf, L2.Cx.blk]); with_reducible first | assumption | exact SqT.of (by assumption)))
set_option hygiene false in
local macro_rules | `(tactic| tbr_iter "v") => `(tactic| first
  | refine bv_add ?_
  | refine bv_sub ?_
  | ((with_reducible show BinV _ .Mult _ _ _ _); refine bv_mul (Or.inl ⟨by tbr_iter "sc", by tbr_iter "sc"⟩) ?_)
  | ((with_reducible show BinV _ .Mult _ _ _ _); refine bv_mul (Or.inr ⟨by tbr_iter "sc", by tbr_iter "sc"⟩) ?_)
  | ((with_reducible show BinV _ .Mod _ _ _ _); refine bv_mod (by tbr_iter "sc") ?_)
  | ((with_reducible show BinV _ .FloorDiv _ _ _ _); refine bv_fdiv ⟨by tbr_iter "sc", by tbr_iter "sc"⟩ ?_)
  | ((with_reducible show BinV _ .Pow _ _ _ _); refine bv_pow ⟨by decide, by decide +kernel⟩ ?_)
  | refine cv_lt ?_
  | refine cv_le ?_
  | refine cv_gt ?_
  | refine cv_ge ?_
  | ((with_reducible show CmpV _ .Eq _ _ _ _); refine cv_eq rfl ?_)
  | ((with_reducible show CmpV _ .NotEq _ _ _ _); refine cv_ne rfl ?_)
  | refine iv_list (by tbr_iter "sql") (by tbr_iter "at") ?_
  | refine iv_tup (by tbr_iter "sqt") (by tbr_iter "at") ?_
  | refine kv_len_seq (Or.inl (by tbr_iter "sql")) ?_
  | refine kv_len_seq (Or.inr (by tbr_iter "sqt")) ?_
  | refine kv_int ?_
  | refine kv_intB ?_
  | refine kv_abs ?_
  | refine kv_max2 rfl ?_
  | refine kv_min2 rfl ?_)
set_option hygiene false in
local macro_rules | `(tactic| tbr_iter "b") => `(tactic| first
  | refine ⟨_, rfl, iteT ?_⟩
  | refine ⟨_, rfl, iteF ?_⟩
  | refine iteT ?_
  | refine iteF ?_)
set_option hygiene false in
local macro_rules | `(tactic| tbr_iter "go") => `(tactic| repeat (first | tbr_iter "w" | tbr_iter "v" | tbr_iter "b"))
set_option hygiene false in
local macro_rules | `(tactic| tbr_iter "nof") => `(tactic| (intro d hd; cases d <;> first | rfl | exact absurd rfl (hd _)))
set_option hygiene false in
local macro_rules | `(tactic| tbr_iter "e1") => `(tactic| first | ((with_reducible show W _ _ _ _ _); tbr_iter "w") | ((with_reducible show WA _ _ _ _ _); tbr_iter "w") | ((with_reducible show WT _ _ _ _ _); tbr_iter "w") | ((with_reducible show WW _ _ _ _ _); tbr_iter "w") | tbr_iter "v")
set_option hygiene false in
local macro_rules | `(tactic| tbr_iter "ex") => `(tactic| repeat (tbr_iter "e1"))
set_option hygiene false in
local macro_rules | `(tactic| tbr_iter "z") => `(tactic| ((try dsimp only [L2.cxOf]); with_reducible first | exact T.z_ValueError | exact T.z_abs | exact T.z_all | exact T.z_int | exact T.z_isinstance | exact T.z_len | exact T.z_max | exact T.z_min | exact T.z_range | exact T.z_set | exact T.z_sorted | exact T.z_str | exact T.z_sum | exact T.z_tuple))
set_option hygiene false in
local macro_rules | `(tactic| tbr_iter "mg") => `(tactic| ((try dsimp only [L2.cxOf]); with_reducible first | exact T.c_ALPHABET | exact T.c_MAX_LETTERS | exact T.c_MAX_COLUMNS | exact T.c_IN | exact T.c_OUT | exact T.c_UNLIKE | exact T.c_BROKEN | exact T.c_FINE | exact T.c_CHOOSE | exact T.c_MOST_TREES))
namespace Ax
theorem take_next {α : Type} {xs : List α} {j : Nat} {v : α} (hv : xs[j]? = some v) : xs.take (j + 1) = xs.take j ++ [v] := by
  rw [List.take_add_one, hv]
  rfl
section
variable {P : Program} {w : World} {K : PySem.W.Frag} {mg : Str → Option Value} {base : Heap}
set_option hygiene false in
local macro_rules | `(tactic| tbr_iter "var") => `(tactic| first | ((with_reducible show W _ (.Name "tree" _) _ _ _); refine w_var 0 rfl (by tbr_iter "vis") rfl ?_) | ((with_reducible show W _ (.Name "found" _) _ _ _); refine w_var 1 rfl (by tbr_iter "vis") rfl ?_) | ((with_reducible show W _ (.Name "inner" _) _ _ _); refine w_var 2 rfl (by tbr_iter "vis") rfl ?_))
set_option hygiene false in
local macro_rules | `(tactic| tbr_iter "set") => `(tactic| first | ((with_reducible show WB _ (.Assign [.Name "tree" _] _ _ :: _) _ _ _); refine wb_cons (ws_set 0 ?_ rfl nd)) | ((with_reducible show WB _ (.Assign [.Name "found" _] _ _ :: _) _ _ _); refine wb_cons (ws_set 1 ?_ rfl nd)) | ((with_reducible show WB _ (.Assign [.Name "inner" _] _ _ :: _) _ _ _); refine wb_cons (ws_set 2 ?_ rfl nd)))
theorem step_law_chosen (T : Txt K mg) (h : Nat) (ih : ∀ h', h = h' + 1 → Callee P w K mg base "_law_chosen" (1 + h') ["tree"] (spRec K h' gNames)) : Callee P w K mg base "_law_chosen" (1 + h) ["tree"] (spRec K h gNames) := by
  have e5 : 1 + h = (0 + h) + 1 := by omega
  rw [e5]
  refine def_ok T.f__law_chosen sc__law_chosen (fun _ _ _ _ _ _ us hl => match us, hl with | [_], _ => rfl) (fun vs H Q E q => ?_) fun f cdv A outer s H vs Q E hr q => ?_
  · obtain ⟨v, d, rfl, _⟩ := q; rfl
  obtain ⟨v, d, rfl, hd, wd, hh, hno, k⟩ := q
  have nd := sc__law_chosen.nd
  have fm : isFormedD d = true := by
    have e := wd
    rw [wf_eq, Bool.and_eq_true] at e
    exact e.1
  refine wb_cons (ws_set 1 ?_ rfl nd)
  tbr_iter "go"
  refine ⟨zero_line, fun pf H1 s1 n1 hf => ?_⟩
  rcases formed_cases fm with ⟨n, ts, rfl, hk, hn1, hl1, hl2⟩ | ⟨z, dr, rfl, hz, hk⟩
  · cases hd with
    | @tup p zs _ hp ha =>
    obtain ⟨z0, z1, z2, rfl⟩ := three_of (xs := zs) (dpa_len ha)
    cases ha with
    | cons h0 ha =>
    cases ha with
    | cons h1 ha =>
    cases ha with
    | cons h2 ha =>
    cases h0
    cases n <;> first | cases hn1 | skip
    rename_i n
    cases h1
    cases h2 with
    | @tup p2 us _ hu hus =>
    have lu := dpa_len hus
    have hp1 := same_tup s1 hp
    have hu1 := same_tup s1 hu
    tbr_iter "go"
    refine ws_expr (w_bm1 PySem.F.plainAttrs_list PySem.F.slot_list_append PySem.F.type_list_append ?_)
    tbr_iter "go"
    refine ⟨tyV_list ⟨_, _, rfl, SqL.of hf⟩, ?_⟩
    tbr_iter "go"
    refine mv_append hf (by decide) ?_
    have sm2 : Same H (upd H1 pf (.lst ([] ++ [V.str n]))) := same_upd s1 n1
    have hp2 := same_tup sm2 hp
    have hu2 := same_tup sm2 hu
    refine wb_cons (ws_for 2 (wi_val ?_) rfl nd (passes_of rfl))
    tbr_iter "go"
    refine itv_tup hu2 ⟨us.length, _, _, walk_tup (K := K) (xs := us), fun j σ Hc => ∃ c, σ = [some (.ref p), some (.ref pf), c] ∧ Same H Hc ∧ Hc pf = some (.lst ((n :: namesAll (ts.take j)).map V.str)), ?_, ?_, ?_, ?_⟩
    · exact ⟨none, rfl, sm2, by rw [upd_same, List.take_zero]; simp [namesAll]⟩
    · rintro j σ Hc _ ⟨c, _, sm, _⟩
      exact same_tup sm hu
    · rintro j x σ Hc Hc' hj ⟨c, rfl, sm, hpf⟩ ⟨e, hx⟩
      subst e
      obtain ⟨t, ht, hdt⟩ := dpa_get hus hx
      have hc : t ∈ kids (.tuple [.str "choose", .str n, .tuple ts]) := by rw [hk]; exact List.mem_of_getElem? ht
      obtain ⟨w1, h1⟩ := wf_kid wd hh hc
      obtain ⟨h', rfl⟩ : ∃ h', h = h' + 1 := ⟨h - 1, by omega⟩
      have hnd := hno
      rw [nodes_eq, hk] at hnd
      have et : ts.take (j + 1) = ts.take j ++ [t] := take_next ht
      have hn2 := nodesAll_take ts (j + 1)
      rw [et, nodesAll_snoc] at hn2
      have l1 := namesAll_nodes (ts.take j)
      have l2 := names_nodes t
      tbr_iter "go"
      refine ws_expr (w_bm1 PySem.F.plainAttrs_list PySem.F.slot_list_extend PySem.F.type_list_extend ?_)
      tbr_iter "go"
      refine ⟨tyV_list ⟨_, _, rfl, SqL.of hpf⟩, ?_⟩
      refine w_call (ih h' rfl) (hr.mono (by omega)) passL ?_
      tbr_iter "go"
      refine ⟨x, t, rfl, dp_same sm hdt, w1, by omega, by omega, fun q H3 s3 n3 hq => ?_⟩
      refine mv_extend (s3 _ _ hpf) hq ?_ ?_
      · simp only [List.length_map, List.length_cons]
        exact Nat.le_trans (show _ ≤ 200000 by omega) (by decide)
      · refine wb_nil ⟨_, rfl, same_upd (sm.trans s3) n1, ?_⟩
        rw [upd_same, et, namesAll_snoc, ← List.map_append]
        rfl
    · rintro σ Hc ⟨c, rfl, sm, hpf⟩
      tbr_iter "go"
      refine k pf Hc sm n1 ?_
      rw [hpf, lu, List.take_length, namesD_choose]
  · cases hd with
    | @tup p zs _ hp ha =>
    obtain ⟨z0, zr, rfl⟩ := cons_of (xs := zs) (by rintro rfl; cases ha)
    cases ha with
    | cons h0 ha =>
    cases h0
    have hp1 := same_tup s1 hp
    tbr_iter "go"
    refine ⟨_, rfl, w_if2 (fun c => absurd (by simpa using c) hz) (fun c => ?_)⟩
    tbr_iter "go"
    refine k pf H1 s1 n1 ?_
    rw [hf, namesD_eq, hk]
    rcases ownName_cases fm with ⟨n, ts, e, _⟩ | ⟨_, _, _, _, ho⟩
    · injection e with e
      injection e with e _
      injection e with e
      exact absurd e hz
    · rw [ho]
      rfl
theorem ok_law_chosen (T : Txt K mg) : ∀ h, Callee P w K mg base "_law_chosen" (1 + h) ["tree"] (spRec K h gNames)
  | 0 => step_law_chosen T 0 fun h' e => by omega
  | h + 1 => step_law_chosen T (h + 1) fun h' e => by
    have e : h = h' := by omega
    subst e
    exact ok_law_chosen T h
end
end Ax
end
section
set_option maxHeartbeats 4000000
open PySem PySem.Spec PyProof.Rows L2 Ax
set_option hygiene false in
local macro_rules | `(tactic| tbr_iter "boot") => `(tactic| with_reducible first | exact Ax.b_len | exact Ax.b_all | exact Ax.b_any | exact Ax.b_sorted | exact Ax.b_isinstance | exact Ax.b_abs | exact Ax.b_max | exact Ax.b_min | exact Ax.b_sum | exact Ax.b_repr | exact Ax.b_iter | exact Ax.b_ord | exact Ax.b_chr | exact Ax.b_str | exact Ax.b_int | exact Ax.b_bool | exact Ax.b_tuple | exact Ax.b_list | exact Ax.b_dict | exact Ax.b_set | exact Ax.b_range | exact Ax.b_enumerate | exact Ax.b_zip)
set_option hygiene false in
local macro_rules | `(tactic| tbr_iter "vis") => `(tactic| first | exact Or.inl rfl | exact Or.inr (Or.inl rfl) | exact Or.inr (Or.inr rfl))
set_option hygiene false in
local macro_rules | `(tactic| tbr_iter "w") => `(tactic| first
  | refine wb_cons ?_
  | refine wb_nil ?_
  | refine ws_ret ?_
  | refine ws_if ?_
  | refine ws_sub ?_
  | refine wa_cons ?_
  | refine wa_nil ?_
  | refine w_int ?_
  | refine w_str ?_
  | refine w_bl ?_
  | refine w_non ?_
  | tbr_iter "var"
  | refine w_bin ?_
  | refine w_cmp ?_
  | refine w_chain ?_
  | refine w_and ?_
  | refine w_or ?_
  | refine w_one ?_
  | refine w_not ?_
  | refine w_ix ?_
  | refine w_ifExp ?_
  | refine w_tup ?_
  | refine w_lst ?_
  | refine wt_not ?_
  | refine wt_bool ?_
  | refine ww_and ?_
  | refine ww_and1 ?_
  | refine ww_or ?_
  | refine ww_or1 ?_
  | refine wt_cmp ?_
  | refine wt_val ?_
  | tbr_iter "call"
  | (refine w_glob (by tbr_iter "mg") ?_)
  | (refine w_callB (by tbr_iter "z") ?_)
  | (refine w_callTy (by tbr_iter "z") ?_)
  | (refine w_bltT (by tbr_iter "z") ?_))
set_option hygiene false in
local macro_rules | `(tactic| tbr_iter "blk") => `(tactic| first | exact blkOk_by (by dsimp only [cxOf, envOfC]; decide +kernel))
set_option hygiene false in
local macro_rules | `(tactic| tbr_iter "iff") => `(tactic| first
  | refine iteT ?_
  | refine iteF ?_
  | refine w_if2 (fun _ => ?_) (fun _ => ?_))
set_option hygiene false in
local macro_rules | `(tactic| tbr_iter "sc") => `(tactic| first | omega | decide)
set_option hygiene false in
local macro_rules | `(tactic| tbr_iter "at") => `(tactic| first | exact atI_0 | exact atI_1 | exact atI_2)
set_option hygiene false in
local macro_rules | `(tactic| tbr_iter "sql") => `(tactic| ((try dsimp only [L2.cxOf, L2.Cx.blk]); with_reducible first | assumption | exact SqL.of (by assumption)))
set_option hygiene false in
local macro_rules | `(tactic| tbr_iter "sqt") => `(tactic| ((try dsimp only [L2.cxOf, L2.Cx.blk]); with_reducible first | assumption | exact SqT.of (by assumption)))
set_option hygiene false in
local macro_rules | `(tactic| tbr_iter "v") => `(tactic| first
  | refine bv_add ?_
  | refine bv_sub ?_
  | ((with_reducible show BinV _ .Mult _ _ _ _); refine bv_mul (Or.inl ⟨by tbr_iter "sc", by tbr_iter "sc"⟩) ?_)
  | ((with_reducible show BinV _ .Mult _ _ _ _); refine bv_mul (Or.inr ⟨by tbr_iter "sc", by tbr_iter "sc"⟩) ?_)
  | ((with_reducible show BinV _ .Mod _ _ _ _); refine bv_mod (by tbr_iter "sc") ?_)
  | ((with_reducible show BinV _ .FloorDiv _ _ _ _); refine bv_fdiv ⟨by tbr_iter "sc", by tbr_iter "sc"⟩ ?_)
  | ((with_reducible show BinV _ .Pow _ _ _ _); refine bv_pow ⟨by decide, by decide +kernel⟩ ?_)
  | refine cv_lt ?_
  | refine cv_le ?_
  | refine cv_gt ?_
  | refine cv_ge ?_
  | ((with_reducible show CmpV _ .Eq _ _ _ _); refine cv_eq rfl ?_)
  | ((with_reducible show CmpV _ .NotEq _ _ _ _); refine cv_ne rfl ?_)
  | refine iv_list (by tbr_iter "sql") (by tbr_iter "at") ?_
  | refine iv_tup (by tbr_iter "sqt") (by tbr_iter "at") ?_
  | refine kv_len_seq (Or.inl (by tbr_iter "sql")) ?_
  | refine kv_len_seq (Or.inr (by tbr_iter "sqt")) ?_
  | refine kv_int ?_
  | refine kv_intB ?_
  | refine kv_abs ?_
  | refine kv_max2 rfl ?_
  | refine kv_min2 rfl ?_)
set_option hygiene false in
local macro_rules | `(tactic| tbr_iter "b") => `(tactic| first
  | refine ⟨_, rfl, iteT ?_⟩
  | refine ⟨_, rfl, iteF ?_⟩
  | refine iteT ?_
  | refine iteF ?_)
set_option hygiene false in
local macro_rules | `(tactic| tbr_iter "go") => `(tactic| repeat (first | tbr_iter "w" | tbr_iter "v" | tbr_iter "b"))
set_option hygiene false in
local macro_rules | `(tactic| tbr_iter "nof") => `(tactic| (intro d hd; cases d <;> first | rfl | exact absurd rfl (hd _)))
set_option hygiene false in
local macro_rules | `(tactic| tbr_iter "e1") => `(tactic| first | ((with_reducible show W _ _ _ _ _); tbr_iter "w") | ((with_reducible show WA _ _ _ _ _); tbr_iter "w") | ((with_reducible show WT _ _ _ _ _); tbr_iter "w") | ((with_reducible show WW _ _ _ _ _); tbr_iter "w") | tbr_iter "v")
set_option hygiene false in
local macro_rules | `(tactic| tbr_iter "ex") => `(tactic| repeat (tbr_iter "e1"))
set_option hygiene false in
local macro_rules | `(tactic| tbr_iter "z") => `(tactic| ((try dsimp only [L2.cxOf]); with_reducible first | exact T.z_ValueError | exact T.z_abs | exact T.z_all | exact T.z_int | exact T.z_isinstance | exact T.z_len | exact T.z_max | exact T.z_min | exact T.z_range | exact T.z_set | exact T.z_sorted | exact T.z_str | exact T.z_sum | exact T.z_tuple))
set_option hygiene false in
local macro_rules | `(tactic| tbr_iter "mg") => `(tactic| ((try dsimp only [L2.cxOf]); with_reducible first | exact T.c_ALPHABET | exact T.c_MAX_LETTERS | exact T.c_MAX_COLUMNS | exact T.c_IN | exact T.c_OUT | exact T.c_UNLIKE | exact T.c_BROKEN | exact T.c_FINE | exact T.c_CHOOSE | exact T.c_MOST_TREES))
namespace Ax
def odd0 : List (Option PyData) := [some (.none),
  some (.int (0)),
  some (.tuple []),
  some (.list []),
  none,
  some (.str "fine"),
  some (.list [.str "fine"]),
  some (.tuple [.str "fine", .int (0)]),
  some (.tuple [.str "fine", .tuple []]),
  some (.tuple [.str "broken"]),
  some (.tuple [.str "broken", .none]),
  some (.tuple [.tuple [.str "fine"]])]
def odd1 : List (Option PyData) := [some (.tuple [.str "broken", .tuple [.str "in", .str "at", .tuple [.str "x", .str "x", .str "x", .str "x"]]]),
  some (.tuple [.str "broken", .tuple [.str "unlike", .str "z", .str "x"]]),
  some (.tuple [.str "Fine"]),
  some (.tuple [.str "choose"])]
def odd2 : List (Option PyData) := [some (.tuple [.str "broken", .tuple [.str "near", .str "at", .tuple []]]),
  some (.tuple [.str "broken", .tuple [.str "in", .str "At", .tuple []]]),
  some (.tuple [.str "broken", .tuple [.str "unlike", .str "x"]])]
def odd3 : List (Option PyData) := [some (.tuple [.str "choose", .str "x", .tuple []]),
  some (.tuple [.str "choose", .str "x", .tuple [.tuple [.str "fine"], .tuple [.str "fine"], .tuple [.str "fine"], .tuple [.str "fine"], .tuple [.str "fine"], .tuple [.str "fine"], .tuple [.str "fine"]]]),
  some (.tuple [.str "choose", .str "X", .tuple [.tuple [.str "fine"]]]),
  some (.tuple [.none, .str "x", .tuple []])]
def odd4 : List (Option PyData) := [some (.tuple [.str "choose", .str "x", .list [.tuple [.str "fine"]]]),
  some (.tuple [.str "choose", .str "x", .tuple [.str "fine"]]),
  some (.tuple [.str "choose", .none, .tuple [.tuple [.str "fine"]]])]
def odd5 : List (Option PyData) := [some (.tuple [.str "choose", .str "x", .tuple [.tuple [.str "fine"], .none]]),
  some (.tuple [.str "choose", .str "x", .tuple [.tuple [.str "fine"]], .tuple []])]
def odd6 : List (Option PyData) := [some (.tuple [.str "broken", .tuple [.str "in", .str "at", .list [.str "x"]]]),
  some (.tuple [.str "broken", .tuple [.str "in", .list [.str "at"], .tuple []]]),
  some (.tuple [.str "choose", .list [.str "x"], .tuple [.tuple [.str "fine"]]])]
def odd7 : List (Option PyData) := [some (.tuple [.str "broken", .tuple [.str "in", .str "at", .str "x"]])]
def oddAll : List (Option PyData) := ((((((odd0 ++ odd1) ++ odd2) ++ odd3) ++ odd4) ++ odd5) ++ odd6) ++ odd7
/-- what the odd values keep -/
def oddOk (o : Option PyData) : Bool := o.all okD && (!o.any wf && (decide ((match o with | some d => nodes d | none => 1) ≤ 20) && o.all fun d => decide (d.depth ≤ 8)))
theorem odd_ok : ∀ o ∈ oddAll, oddOk o = true := by decide +kernel
def spOdd (K : PySem.W.Frag) : Sp := fun vs H Q _ => ∃ (p : Addr) (n : Nat), vs = [.ref p] ∧ H p = some (DiceO p n) ∧ n < 2 ^ 60 ∧ ∀ v o H', Sm p H H' → H' p = some (DiceO p (n + 1)) → AnyX K H' v o → o.any wf = false → nodesH (.leaf o) ≤ 20 → Q v H'
set_option hygiene false in
local macro_rules | `(tactic| tbr_iter "lt") => `(tactic| repeat (first
  | exact lit_str | exact lit_int | exact lit_non | exact litx_nil | exact lita_nil
  | refine litx_dict ?_ | refine litx_cons ?_ ?_ | refine lita_cons ?_ ?_ | refine lit_tup ?_ | refine lit_lst ?_ | refine lit_mulE ?_
  | exact lit_of fun H Q s k => w_var 1 rfl (by tbr_iter "vis") rfl (k _ (fD H s))))
theorem bv_catX {X : Cx} {H : Hp} {Q : VK} {p q : Addr} {xs ys : List V} {as bs : List (Option PyData)} (h1 : H p = some (.lst xs)) (h2 : H q = some (.lst ys)) (a : All2 (AnyR X.K H) xs as) (b : All2 (AnyR X.K H) ys bs) (hl : as.length + bs.length ≤ 1000)
    (h : ∀ r H2, Same H H2 → H2 r = some (.lst (xs ++ ys)) → All2 (AnyR X.K H2) (xs ++ ys) (as ++ bs) → Q (.ref r) H2) : BinV X .Add (.ref p) (.ref q) H Q :=
  bv_cat h1 h2 (by rw [a.len, b.len]; exact Nat.le_trans hl (by decide)) fun r H2 s n e => h r H2 s e ((a.imp fun _ _ q => q.sx (Sx.of s)).app (b.imp fun _ _ q => q.sx (Sx.of s)))
section
variable {P : Program} {w : World} {K : PySem.W.Frag} {mg : Str → Option Value} {base : Heap}
set_option hygiene false in
local macro_rules | `(tactic| tbr_iter "var") => `(tactic| first | ((with_reducible show W _ (.Name "dice" _) _ _ _); refine w_var 0 rfl (by tbr_iter "vis") rfl ?_) | ((with_reducible show W _ (.Name "fine" _) _ _ _); refine w_var 1 rfl (by tbr_iter "vis") rfl ?_) | ((with_reducible show W _ (.Name "some" _) _ _ _); refine w_var 2 rfl (by tbr_iter "vis") rfl ?_))
set_option hygiene false in
local macro_rules | `(tactic| tbr_iter "set") => `(tactic| first | ((with_reducible show WB _ (.Assign [.Name "dice" _] _ _ :: _) _ _ _); refine wb_cons (ws_set 0 ?_ rfl nd)) | ((with_reducible show WB _ (.Assign [.Name "fine" _] _ _ :: _) _ _ _); refine wb_cons (ws_set 1 ?_ rfl nd)) | ((with_reducible show WB _ (.Assign [.Name "some" _] _ _ :: _) _ _ _); refine wb_cons (ws_set 2 ?_ rfl nd)))
theorem ok_law_odd (T : Txt K mg) : Callee P w K mg base "_law_odd" 4 ["dice"] (spOdd K) := by
  refine def_ok T.f__law_odd sc__law_odd (fun _ _ _ _ _ _ us hl => match us, hl with | [_], _ => rfl) (fun vs H Q E h => ?_) fun f cdv A outer s H vs Q E hr h => ?_
  · obtain ⟨p, n, rfl, _⟩ := h; rfl
  obtain ⟨p, n, rfl, hp, hn, k⟩ := h
  have nd := sc__law_odd.nd
  refine wb_cons (ws_set 1 ?_ rfl nd)
  tbr_iter "go"
  refine ⟨one_line, fun pf H1 s1 n1 hf => ?_⟩
  have fD : ∀ H2, Same H1 H2 → Dp K H2 (.ref pf) (.tuple [.str "fine"]) := fun H2 s2 => .tup (SqT.of (s2 _ _ hf)) (.cons (.str _) .nil)
  refine wb_cons (ws_set 2 ?_ rfl nd)
  refine w_listX (H0 := H1) odd0 (by unfold odd0; tbr_iter "lt") (Same.refl _) fun l2 xs2 H2 s2 n2 hl2 a2 => ?_
  have fD : ∀ H3, Same H2 H3 → Dp K H3 (.ref pf) (.tuple [.str "fine"]) := fun H3 s3 => fD H3 (s2.trans s3)
  refine wb_cons (ws_set 2 (w_bin ?_) rfl nd)
  tbr_iter "var"
  refine w_listX (H0 := H2) odd1 (by unfold odd1; tbr_iter "lt") (Same.refl _) fun l3 xs3 H3 s3 n3 hl3 a3 => ?_
  refine bv_catX (s3 _ _ hl2) hl3 (a2.imp fun _ _ q => q.sx (Sx.of s3)) a3 (by decide +kernel) fun l4 H4 s4 hl4 a4 => ?_
  have fD : ∀ H', Same H4 H' → Dp K H' (.ref pf) (.tuple [.str "fine"]) := fun H' s => fD H' ((s3.trans s4).trans s)
  refine wb_cons (ws_set 2 (w_bin ?_) rfl nd)
  tbr_iter "var"
  refine w_listX (H0 := H4) odd2 (by unfold odd2; tbr_iter "lt") (Same.refl _) fun l5 xs5 H5 s5 n5 hl5 a5 => ?_
  refine bv_catX (s5 _ _ hl4) hl5 (a4.imp fun _ _ q => q.sx (Sx.of s5)) a5 (by decide +kernel) fun l6 H6 s6 hl6 a6 => ?_
  have fD : ∀ H', Same H6 H' → Dp K H' (.ref pf) (.tuple [.str "fine"]) := fun H' s => fD H' ((s5.trans s6).trans s)
  refine wb_cons (ws_set 2 (w_bin ?_) rfl nd)
  tbr_iter "var"
  refine w_listX (H0 := H6) odd3 (by unfold odd3; tbr_iter "lt") (Same.refl _) fun l7 xs7 H7 s7 n7 hl7 a7 => ?_
  refine bv_catX (s7 _ _ hl6) hl7 (a6.imp fun _ _ q => q.sx (Sx.of s7)) a7 (by decide +kernel) fun l8 H8 s8 hl8 a8 => ?_
  have fD : ∀ H', Same H8 H' → Dp K H' (.ref pf) (.tuple [.str "fine"]) := fun H' s => fD H' ((s7.trans s8).trans s)
  refine wb_cons (ws_set 2 (w_bin ?_) rfl nd)
  tbr_iter "var"
  refine w_listX (H0 := H8) odd4 (by unfold odd4; tbr_iter "lt") (Same.refl _) fun l9 xs9 H9 s9 n9 hl9 a9 => ?_
  refine bv_catX (s9 _ _ hl8) hl9 (a8.imp fun _ _ q => q.sx (Sx.of s9)) a9 (by decide +kernel) fun l10 H10 s10 hl10 a10 => ?_
  have fD : ∀ H', Same H10 H' → Dp K H' (.ref pf) (.tuple [.str "fine"]) := fun H' s => fD H' ((s9.trans s10).trans s)
  refine wb_cons (ws_set 2 (w_bin ?_) rfl nd)
  tbr_iter "var"
  refine w_listX (H0 := H10) odd5 (by unfold odd5; tbr_iter "lt") (Same.refl _) fun l11 xs11 H11 s11 n11 hl11 a11 => ?_
  refine bv_catX (s11 _ _ hl10) hl11 (a10.imp fun _ _ q => q.sx (Sx.of s11)) a11 (by decide +kernel) fun l12 H12 s12 hl12 a12 => ?_
  have fD : ∀ H', Same H12 H' → Dp K H' (.ref pf) (.tuple [.str "fine"]) := fun H' s => fD H' ((s11.trans s12).trans s)
  refine wb_cons (ws_set 2 (w_bin ?_) rfl nd)
  tbr_iter "var"
  refine w_listX (H0 := H12) odd6 (by unfold odd6; tbr_iter "lt") (Same.refl _) fun l13 xs13 H13 s13 n13 hl13 a13 => ?_
  refine bv_catX (s13 _ _ hl12) hl13 (a12.imp fun _ _ q => q.sx (Sx.of s13)) a13 (by decide +kernel) fun l14 H14 s14 hl14 a14 => ?_
  have fD : ∀ H', Same H14 H' → Dp K H' (.ref pf) (.tuple [.str "fine"]) := fun H' s => fD H' ((s13.trans s14).trans s)
  refine wb_cons (ws_ret (w_call (ok_law_pick T) hr passL (wa_cons ?_)))
  tbr_iter "var"
  refine wa_cons (w_bin ?_)
  tbr_iter "var"
  refine w_listX (H0 := H14) odd7 (by unfold odd7; tbr_iter "lt") (Same.refl _) fun l15 xs15 H15 s15 n15 hl15 a15 => ?_
  refine bv_catX (s15 _ _ hl14) hl15 (a14.imp fun _ _ q => q.sx (Sx.of s15)) a15 (by decide +kernel) fun l16 H16 s16 hl16 a16 => ?_
  tbr_iter "go"
  have sA : Same H H16 := s1.trans (s2.trans (s3.trans (s4.trans (s5.trans (s6.trans (s7.trans (s8.trans (s9.trans (s10.trans (s11.trans (s12.trans (s13.trans (s14.trans (s15.trans s16))))))))))))))
  have a16 : All2 (AnyR K H16) _ oddAll := a16
  have hl := a16.len
  have hol : oddAll.length = 32 := by decide +kernel
  refine ⟨p, l16, n, _, rfl, sA _ _ hp, hn, SqL.of hl16, fun e => ?_, by omega, fun v hv H' s' hp' => ?_⟩
  · rw [e] at hl
    simp only [List.length_nil] at hl
    omega
  · obtain ⟨o, ho, av⟩ := all2_mem a16 hv
    have e := odd_ok o ho
    unfold oddOk at e
    simp only [Bool.and_eq_true, Bool.not_eq_true', decide_eq_true_eq] at e
    obtain ⟨e1, e2, e3, e4⟩ := e
    refine k v o H' ((Sm.of hp sA).trans s') hp' ((av.sx s'.sx).anyX e1) e2 ?_
    cases o with
    | none => simp [nodesH]
    | some d => simpa [nodesH] using e3
end
end Ax
end
section
set_option maxHeartbeats 4000000
open PySem PySem.Spec PyProof.Rows L2 Ax
set_option hygiene false in
local macro_rules | `(tactic| tbr_iter "boot") => `(tactic| with_reducible first | exact Ax.b_len | exact Ax.b_all | exact Ax.b_any | exact Ax.b_sorted | exact Ax.b_isinstance | exact Ax.b_abs | exact Ax.b_max | exact Ax.b_min | exact Ax.b_sum | exact Ax.b_repr | exact Ax.b_iter | exact Ax.b_ord | exact Ax.b_chr | exact Ax.b_str | exact Ax.b_int | exact Ax.b_bool | exact Ax.b_tuple | exact Ax.b_list | exact Ax.b_dict | exact Ax.b_set | exact Ax.b_range | exact Ax.b_enumerate | exact Ax.b_zip)
set_option hygiene false in
local macro_rules | `(tactic| tbr_iter "vis") => `(tactic| first | exact Or.inl rfl | exact Or.inr (Or.inl rfl) | exact Or.inr (Or.inr rfl))
set_option hygiene false in
local macro_rules | `(tactic| tbr_iter "w") => `(tactic| first
  | refine wb_cons ?_
  | refine wb_nil ?_
  | refine ws_ret ?_
  | refine ws_if ?_
  | refine ws_sub ?_
  | refine wa_cons ?_
  | refine wa_nil ?_
  | refine w_int ?_
  | refine w_str ?_
  | refine w_bl ?_
  | refine w_non ?_
  | tbr_iter "var"
  | refine w_bin ?_
  | refine w_cmp ?_
  | refine w_chain ?_
  | refine w_and ?_
  | refine w_or ?_
  | refine w_one ?_
  | refine w_not ?_
  | refine w_ix ?_
  | refine w_ifExp ?_
  | refine w_tup ?_
  | refine w_lst ?_
  | refine wt_not ?_
  | refine wt_bool ?_
  | refine ww_and ?_
  | refine ww_and1 ?_
  | refine ww_or ?_
  | refine ww_or1 ?_
  | refine wt_cmp ?_
  | refine wt_val ?_
  | tbr_iter "call"
  | (refine w_glob (by tbr_iter "mg") ?_)
  | (refine w_callB (by tbr_iter "z") ?_)
  | (refine w_callTy (by tbr_iter "z") ?_)
  | (refine w_bltT (by tbr_iter "z") ?_))
set_option hygiene false in
local macro_rules | `(tactic| tbr_iter "blk") => `(tactic| first | exact blkOk_by (by dsimp only [cxOf, envOfC]; decide +kernel))
set_option hygiene false in
local macro_rules | `(tactic| tbr_iter "iff") => `(tactic| first
  | refine iteT ?_
  | refine iteF ?_
  | refine w_if2 (fun _ => ?_) (fun _ => ?_))
set_option hygiene false in
local macro_rules | `(tactic| tbr_iter "sc") => `(tactic| first | omega | decide)
set_option hygiene false in
local macro_rules | `(tactic| tbr_iter "at") => `(tactic| first | exact atI_0 | exact atI_1 | exact atI_2)
set_option hygiene false in
local macro_rules | `(tactic| tbr_iter "sql") => `(tactic| ((try dsimp only [L2.cxOf, L2.Cx.blk]); with_reducible first | assumption | exact SqL.of (by assumption)))
set_option hygiene false in
local macro_rules | `(tactic| tbr_iter "sqt") => `(tactic| ((try dsimp only [L2.cxOf, L2.Cx.blk]); with_reducible first | assumption | exact SqT.of (by assumption)))
set_option hygiene false in
local macro_rules | `(tactic| tbr_iter "v") => `(tactic| first
  | refine bv_add ?_
  | refine bv_sub ?_
  | ((with_reducible show BinV _ .Mult _ _ _ _); refine bv_mul (Or.inl ⟨by tbr_iter "sc", by tbr_iter "sc"⟩) ?_)
  | ((with_reducible show BinV _ .Mult _ _ _ _); refine bv_mul (Or.inr ⟨by tbr_iter "sc", by tbr_iter "sc"⟩) ?_)
  | ((with_reducible show BinV _ .Mod _ _ _ _); refine bv_mod (by tbr_iter "sc") ?_)
  | ((with_reducible show BinV _ .FloorDiv _ _ _ _); refine bv_fdiv ⟨by tbr_iter "sc", by tbr_iter "sc"⟩ ?_)
  | ((with_reducible show BinV _ .Pow _ _ _ _); refine bv_pow ⟨by decide, by decide +kernel⟩ ?_)
  | refine cv_lt ?_
  | refine cv_le ?_
  | refine cv_gt ?_
  | refine cv_ge ?_
  | ((with_reducible show CmpV _ .Eq _ _ _ _); refine cv_eq rfl ?_)
  | ((with_reducible show CmpV _ .NotEq _ _ _ _); refine cv_ne rfl ?_)
  | refine iv_list (by tbr_iter "sql") (by tbr_iter "at") ?_
  | refine iv_tup (by tbr_iter "sqt") (by tbr_iter "at") ?_
  | refine kv_len_seq (Or.inl (by tbr_iter "sql")) ?_
  | refine kv_len_seq (Or.inr (by tbr_iter "sqt")) ?_
  | refine kv_int ?_
  | refine kv_intB ?_
  | refine kv_abs ?_
  | refine kv_max2 rfl ?_
  | refine kv_min2 rfl ?_)
set_option hygiene false in
local macro_rules | `(tactic| tbr_iter "b") => `(tactic| first
  | refine ⟨_, rfl, iteT ?_⟩
  | refine ⟨_, rfl, iteF ?_⟩
  | refine iteT ?_
  | refine iteF ?_)
set_option hygiene false in
local macro_rules | `(tactic| tbr_iter "go") => `(tactic| repeat (first | tbr_iter "w" | tbr_iter "v" | tbr_iter "b"))
set_option hygiene false in
local macro_rules | `(tactic| tbr_iter "nof") => `(tactic| (intro d hd; cases d <;> first | rfl | exact absurd rfl (hd _)))
set_option hygiene false in
local macro_rules | `(tactic| tbr_iter "e1") => `(tactic| first | ((with_reducible show W _ _ _ _ _); tbr_iter "w") | ((with_reducible show WA _ _ _ _ _); tbr_iter "w") | ((with_reducible show WT _ _ _ _ _); tbr_iter "w") | ((with_reducible show WW _ _ _ _ _); tbr_iter "w") | tbr_iter "v")
set_option hygiene false in
local macro_rules | `(tactic| tbr_iter "ex") => `(tactic| repeat (tbr_iter "e1"))
set_option hygiene false in
local macro_rules | `(tactic| tbr_iter "z") => `(tactic| ((try dsimp only [L2.cxOf]); with_reducible first | exact T.z_ValueError | exact T.z_abs | exact T.z_all | exact T.z_int | exact T.z_isinstance | exact T.z_len | exact T.z_max | exact T.z_min | exact T.z_range | exact T.z_set | exact T.z_sorted | exact T.z_str | exact T.z_sum | exact T.z_tuple))
set_option hygiene false in
local macro_rules | `(tactic| tbr_iter "mg") => `(tactic| ((try dsimp only [L2.cxOf]); with_reducible first | exact T.c_ALPHABET | exact T.c_MAX_LETTERS | exact T.c_MAX_COLUMNS | exact T.c_IN | exact T.c_OUT | exact T.c_UNLIKE | exact T.c_BROKEN | exact T.c_FINE | exact T.c_CHOOSE | exact T.c_MOST_TREES))
namespace Ax
mutual
/-- .. whose things that are no data are empty dicts -/
inductive HX (K : PySem.W.Frag) (H : Hp) : V → HTd → Prop
  | leaf {v : V} {o : Option PyData} (a : AnyX K H v o) : HX K H v (.leaf o)
  | node {p q : Addr} {n : Str} {us : List V} {ts : List HTd} (hp : SqT K H p [.str "choose", .str n, .ref q]) (hq : SqT K H q us) (hn : isNameS n = true) (ok : okD (.str n) = true) (h1 : 1 ≤ ts.length) (h2 : ts.length ≤ 6) (hs : HXs K H us ts) : HX K H (.ref p) (.node n ts)
inductive HXs (K : PySem.W.Frag) (H : Hp) : List V → List HTd → Prop
  | nil : HXs K H [] []
  | cons {v : V} {r : HTd} {vs : List V} {rs : List HTd} (h : HX K H v r) (t : HXs K H vs rs) : HXs K H (v :: vs) (r :: rs)
end
mutual
theorem hx_sx {K : PySem.W.Frag} {H H' : Hp} (s : Sx H H') : ∀ {r : HTd} {v : V}, HX K H v r → HX K H' v r
  | .leaf o, _, h => by
    cases h with
    | leaf a => exact .leaf (a.sx s)
  | .node n ts, _, h => by
    cases h with
    | node hp hq hn ok h1 h2 hs => exact .node (s.tup hp) (s.tup hq) hn ok h1 h2 (hxs_sx s hs)
theorem hxs_sx {K : PySem.W.Frag} {H H' : Hp} (s : Sx H H') : ∀ {rs : List HTd} {vs : List V}, HXs K H vs rs → HXs K H' vs rs
  | [], _, h => by
    cases h
    exact .nil
  | r :: rs, _, h => by
    cases h with
    | cons h t => exact .cons (hx_sx s h) (hxs_sx s t)
end
mutual
theorem hx_hv {K : PySem.W.Frag} {H : Hp} : ∀ {r : HTd} {v : V}, HX K H v r → HV K H v r
  | .leaf o, _, h => by
    cases h with
    | leaf a => exact .leaf a.any
  | .node n ts, _, h => by
    cases h with
    | node hp hq hn ok h1 h2 hs => exact .node hp hq hn ok h1 h2 (hxs_hv hs)
theorem hxs_hv {K : PySem.W.Frag} {H : Hp} : ∀ {rs : List HTd} {vs : List V}, HXs K H vs rs → HVs K H vs rs
  | [], _, h => by
    cases h
    exact .nil
  | r :: rs, _, h => by
    cases h with
    | cons h t => exact .cons (hx_hv h) (hxs_hv t)
end
theorem hxs_app {K : PySem.W.Frag} {H : Hp} : ∀ {rs ss : List HTd} {us vs : List V}, HXs K H us rs → HXs K H vs ss → HXs K H (us ++ vs) (rs ++ ss)
  | [], _, _, _, h, g => by cases h; exact g
  | r :: rs, _, _, _, h, g => by
    cases h with
    | cons h t => exact .cons h (hxs_app t g)
theorem hxs_data {K : PySem.W.Frag} {H : Hp} : ∀ {ds : List PyData} {us : List V}, DpAll K H us ds → (∀ d ∈ ds, okD d = true) → HXs K H us (ds.map fun d => .leaf (some d))
  | [], _, h, _ => by cases h; exact .nil
  | d :: ds, _, h, ok => by
    cases h with
    | cons h1 h2 => exact .cons (.leaf (.dat h1 (ok d List.mem_cons_self))) (hxs_data h2 fun d hd => ok d (List.mem_cons_of_mem _ hd))
theorem dpa_take {K : PySem.W.Frag} {H : Hp} : ∀ {ds : List PyData} {us : List V} (k : Nat), DpAll K H us ds → DpAll K H (us.take k) (ds.take k)
  | [], _, k, h => by cases h; simp; exact .nil
  | d :: ds, _, k, h => by
    cases h with
    | cons h1 h2 =>
      cases k with
      | zero => exact .nil
      | succ k => exact .cons h1 (dpa_take k h2)
theorem dpa_drop {K : PySem.W.Frag} {H : Hp} : ∀ {ds : List PyData} {us : List V} (k : Nat), DpAll K H us ds → DpAll K H (us.drop k) (ds.drop k)
  | [], _, k, h => by cases h; simp; exact .nil
  | d :: ds, _, k, h => by
    cases h with
    | cons h1 h2 =>
      cases k with
      | zero => exact .cons h1 h2
      | succ k => exact dpa_drop k h2
theorem nodesHs_app : ∀ rs ss : List HTd, nodesHs (rs ++ ss) = nodesHs rs + nodesHs ss
  | [], ss => by simp [nodesHs]
  | r :: rs, ss => by
    rw [List.cons_append, nodesHs, nodesHs, nodesHs_app rs ss, Nat.add_assoc]
theorem wfHs_app : ∀ rs ss : List HTd, wfHs (rs ++ ss) = (wfHs rs && wfHs ss)
  | [], ss => by simp [wfHs]
  | r :: rs, ss => by
    rw [List.cons_append, wfHs, wfHs, wfHs_app rs ss, Bool.and_assoc]
theorem nodesAll_app : ∀ rs ss : List PyData, nodesAll (rs ++ ss) = nodesAll rs + nodesAll ss
  | [], ss => by simp [nodesAll]
  | r :: rs, ss => by
    rw [List.cons_append, nodesAll, nodesAll, nodesAll_app rs ss, Nat.add_assoc]
def spSpoilt (K : PySem.W.Frag) (h : Nat) : Sp := fun vs H Q _ => ∃ (p : Addr) (n : Nat) (v : V) (d : PyData), vs = [.ref p, v] ∧ H p = some (DiceO p n) ∧ n + 3 * (h + 1) < 2 ^ 60 ∧ Dp K H v d ∧ wf d = true ∧ okD d = true ∧ heightD d ≤ h ∧
  ∀ u r m H', Sm p H H' → H' p = some (DiceO p m) → m ≤ n + 3 * (h + 1) → HX K H' u r → wfH r = false → nodesH r ≤ nodes d + 20 → Q u H'
section
variable {P : Program} {w : World} {K : PySem.W.Frag} {mg : Str → Option Value} {base : Heap}
set_option hygiene false in
local macro_rules | `(tactic| tbr_iter "var") => `(tactic| first | ((with_reducible show W _ (.Name "dice" _) _ _ _); refine w_var 0 rfl (by tbr_iter "vis") rfl ?_) | ((with_reducible show W _ (.Name "tree" _) _ _ _); refine w_var 1 rfl (by tbr_iter "vis") rfl ?_) | ((with_reducible show W _ (.Name "at" _) _ _ _); refine w_var 2 rfl (by tbr_iter "vis") rfl ?_))
set_option hygiene false in
local macro_rules | `(tactic| tbr_iter "set") => `(tactic| first | ((with_reducible show WB _ (.Assign [.Name "dice" _] _ _ :: _) _ _ _); refine wb_cons (ws_set 0 ?_ rfl nd)) | ((with_reducible show WB _ (.Assign [.Name "tree" _] _ _ :: _) _ _ _); refine wb_cons (ws_set 1 ?_ rfl nd)) | ((with_reducible show WB _ (.Assign [.Name "at" _] _ _ :: _) _ _ _); refine wb_cons (ws_set 2 ?_ rfl nd)))
theorem step_law_spoilt (T : Txt K mg) (h : Nat) (ih : ∀ h', h = h' + 1 → Callee P w K mg base "_law_spoilt" (5 + h') ["dice", "tree"] (spSpoilt K h')) : Callee P w K mg base "_law_spoilt" (5 + h) ["dice", "tree"] (spSpoilt K h) := by
  have e5 : 5 + h = (4 + h) + 1 := by omega
  rw [e5]
  refine def_ok T.f__law_spoilt sc__law_spoilt (fun _ _ _ _ _ _ us hl => match us, hl with | [_, _], _ => rfl) (fun vs H Q E q => ?_) fun f cdv A outer s H vs Q E hr q => ?_
  · obtain ⟨p, n, v, d, rfl, _⟩ := q; rfl
  obtain ⟨p, n, v, d, rfl, hp, hn, hd, wd, okd, hh, k⟩ := q
  have nd := sc__law_spoilt.nd
  have fm : isFormedD d = true := by
    have e := wd
    rw [wf_eq, Bool.and_eq_true] at e
    exact e.1
  have nd1 : 1 ≤ nodes d := by rw [nodes_eq]; omega
  -- what an odd value gives
  have ko : ∀ v o m H1 H', Sm p H H1 → Sm p H1 H' → H' p = some (DiceO p (m + 1)) → m ≤ n + 1 → AnyX K H' v o → o.any wf = false → nodesH (.leaf o) ≤ 20 → Q v H' := fun v o m H1 H' s1 s2 hp' hm a b c => k v (.leaf o) (m + 1) H' (s1.trans s2) hp' (by omega) (.leaf a) b (by omega)
  rcases formed_cases fm with ⟨nm, ts, rfl, hk, hn1, hl1, hl2⟩ | ⟨z, dr, rfl, hz, hk⟩
  · cases hd with
    | @tup p6 zs _ hz6 ha =>
    obtain ⟨z0, z1, z2, rfl⟩ := three_of (xs := zs) (dpa_len ha)
    cases ha with
    | cons h0 ha =>
    cases ha with
    | cons h1 ha =>
    cases ha with
    | cons h2 ha =>
    cases h0
    cases nm <;> first | cases hn1 | skip
    rename_i nm
    cases h1
    cases h2 with
    | @tup p7 us _ hu hus =>
    have lu := dpa_len hus
    have okn := okD.item okd (.str nm) (by simp)
    have okt := okD.item (okD.item okd (.tuple ts) (by simp))
    tbr_iter "go"
    refine w_call (ok_law_roll T) (hr.mono (by omega)) passL ?_
    tbr_iter "go"
    refine ⟨p, n, _, rfl, hp, by omega, by decide, by decide, fun r H1 s1 hp1 r0 r1 => ?_⟩
    tbr_iter "go"
    refine ⟨_, rfl, w_if2 (fun c => ?_) (fun c => ?_)⟩
    · have hz1 := s1.tup hz6
      have hu1 := s1.tup hu
      refine wb_cons (ws_set 2 (w_call (ok_law_roll T) (hr.mono (by omega)) passL ?_) rfl nd)
      tbr_iter "go"
      refine ⟨p, n + 1, _, rfl, hp1, by omega, by omega, by omega, fun i H2 s2 hp2 i0 i1 => ?_⟩
      obtain ⟨j, rfl⟩ : ∃ j : Nat, i = j := ⟨i.toNat, by omega⟩
      have hj : j < us.length := by omega
      have hz2 := s2.tup hz1
      have hu2 := s2.tup hu1
      tbr_iter "go"
      refine w_sliceTo ?_
      tbr_iter "go"
      refine ⟨p7, j, us, rfl, rfl, hu2, by omega, fun q3 H3 s3 hq3 => ?_⟩
      have hz3 := same_tup s3 hz2
      have hu3 := same_tup s3 hu2
      have hp3 := s3 _ _ hp2
      have hje : us[j]? = some us[j] := List.getElem?_eq_getElem hj
      obtain ⟨t, ht, hdt⟩ := dpa_get hus hje
      have hc : t ∈ kids (.tuple [.str "choose", .str nm, .tuple ts]) := by rw [hk]; exact List.mem_of_getElem? ht
      obtain ⟨w1, h1⟩ := wf_kid wd hh hc
      obtain ⟨h', rfl⟩ : ∃ h', h = h' + 1 := ⟨h - 1, by omega⟩
      have s13 : Sm p H H3 := (s1.trans s2).same s3
      tbr_iter "go"
      refine w_call (ih h' rfl) (hr.mono (by omega)) passL ?_
      tbr_iter "go"
      refine iv_tup hu3 (atI_nat hje) ?_
      tbr_iter "go"
      refine ⟨p, n + 2, us[j], t, rfl, hp3, by omega, dp_sm s13 hdt, w1, okt t (List.mem_of_getElem? ht), by omega, fun u r m H4 s4 hp4 hm4 hx hw hn4 => ?_⟩
      tbr_iter "go"
      refine ⟨one_line, fun q5 H5 s5 n5 hq5 => ?_⟩
      have hq3' := same_tup s5 (s4.tup hq3)
      refine bv_catT hq3' (SqT.of hq5) (Nat.le_trans (show _ ≤ 100 by simp only [List.length_take, List.length_singleton]; omega) (by decide)) fun q6 H6 s6 hq6 => ?_
      have s36 : Sm p H3 H6 := (s4.same s5).same s6
      have hz6' := s36.tup hz3
      have hu6' := s36.tup hu3
      refine w_sliceFrom ?_
      tbr_iter "go"
      refine ⟨p7, j + 1, us, rfl, rfl, hu6', by omega, fun q7 H7 s7 hq7 => ?_⟩
      refine bv_catT (same_tup s7 hq6) hq7 (Nat.le_trans (show _ ≤ 100 by simp only [List.length_append, List.length_take, List.length_drop, List.length_singleton]; omega) (by decide)) fun q8 H8 s8 hq8 => ?_
      tbr_iter "go"
      refine ⟨three_line, fun q9 H9 s9 n9 hq9 => ?_⟩
      have s49 : Sx H4 H9 := Sx.of (s5.trans (s6.trans (s7.trans (s8.trans s9))))
      have s09 : Sm p H H9 := ((((s13.trans s36).same s7).same s8).same s9)
      have hus9 := dpa_sm s09 hus
      have ets : ts = ts.take j ++ (t :: ts.drop (j + 1)) := by
        obtain ⟨hl, e⟩ := List.getElem?_eq_some_iff.mp ht
        rw [← e, ← List.drop_eq_getElem_cons hl, List.take_append_drop]
      refine k (.ref q9) (.node nm ((ts.take j).map (fun d => HTd.leaf (some d)) ++ ([r] ++ (ts.drop (j + 1)).map fun d => .leaf (some d)))) m H9 s09 ?_ (by omega) ?_ ?_ ?_
      · exact s9 _ _ (s8 _ _ (s7 _ _ (s6 _ _ (s5 _ _ hp4))))
      · refine .node (SqT.of hq9) (same_tup s9 hq8) hn1 okn ?_ ?_ ?_
        · simp only [List.length_append, List.length_singleton]; omega
        · simp only [List.length_append, List.length_singleton, List.length_map, List.length_take, List.length_drop]; omega
        · rw [List.append_assoc]
          exact hxs_app (hxs_data (dpa_take j hus9) fun d hd => okt d (List.mem_of_mem_take hd)) (hxs_app (.cons (hx_sx s49 hx) .nil) (hxs_data (dpa_drop (j + 1) hus9) fun d hd => okt d (List.mem_of_mem_drop hd)))
      · rw [wfH, wfHs_app, wfHs_app, wfHs, hw]
        simp
      · rw [nodesH, nodesHs_app, nodesHs_app, nodesHs_leaf, nodesHs_leaf, nodesHs, nodesHs, nodes_eq, hk]
        have e := congrArg nodesAll ets
        rw [nodesAll_app, nodesAll] at e
        omega
    · refine wb_nil (wb_cons (ws_ret (w_call (ok_law_odd T) (hr.mono (by omega)) passL ?_)))
      tbr_iter "go"
      exact ⟨p, n + 1, rfl, hp1, by omega, fun v o H' s2 hp2 a b c => ko v o (n + 1) H1 H' s1 s2 hp2 (by omega) a b c⟩
  · cases hd with
    | @tup p6 zs _ hz6 ha =>
    obtain ⟨z0, zr, rfl⟩ := cons_of (xs := zs) (by rintro rfl; cases ha)
    cases ha with
    | cons h0 ha =>
    cases h0
    tbr_iter "go"
    refine ⟨_, rfl, w_if2 (fun c => absurd (by simpa using c) hz) (fun c => ?_)⟩
    refine iteF (wb_nil (wb_cons (ws_ret (w_call (ok_law_odd T) (hr.mono (by omega)) passL ?_))))
    tbr_iter "go"
    exact ⟨p, n, rfl, hp, by omega, fun v o H' s2 hp2 a b c => ko v o n H H' (Sm.refl hp) s2 hp2 (by omega) a b c⟩
theorem ok_law_spoilt (T : Txt K mg) : ∀ h, Callee P w K mg base "_law_spoilt" (5 + h) ["dice", "tree"] (spSpoilt K h)
  | 0 => step_law_spoilt T 0 fun h' e => by omega
  | h + 1 => step_law_spoilt T (h + 1) fun h' e => by
    have e : h = h' := by omega
    subst e
    exact ok_law_spoilt T h
end
end Ax
end
section
set_option maxHeartbeats 4000000
open PySem PySem.Spec PyProof.Rows L2 Ax
set_option hygiene false in
local macro_rules | `(tactic| tbr_iter "boot") => `(tactic| with_reducible first | exact Ax.b_len | exact Ax.b_all | exact Ax.b_any | exact Ax.b_sorted | exact Ax.b_isinstance | exact Ax.b_abs | exact Ax.b_max | exact Ax.b_min | exact Ax.b_sum | exact Ax.b_repr | exact Ax.b_iter | exact Ax.b_ord | exact Ax.b_chr | exact Ax.b_str | exact Ax.b_int | exact Ax.b_bool | exact Ax.b_tuple | exact Ax.b_list | exact Ax.b_dict | exact Ax.b_set | exact Ax.b_range | exact Ax.b_enumerate | exact Ax.b_zip)
set_option hygiene false in
local macro_rules | `(tactic| tbr_iter "vis") => `(tactic| first | exact Or.inl rfl | exact Or.inr (Or.inl rfl) | exact Or.inr (Or.inr rfl))
set_option hygiene false in
local macro_rules | `(tactic| tbr_iter "w") => `(tactic| first
  | refine wb_cons ?_
  | refine wb_nil ?_
  | refine ws_ret ?_
  | refine ws_if ?_
  | refine ws_sub ?_
  | refine wa_cons ?_
  | refine wa_nil ?_
  | refine w_int ?_
  | refine w_str ?_
  | refine w_bl ?_
  | refine w_non ?_
  | tbr_iter "var"
  | refine w_bin ?_
  | refine w_cmp ?_
  | refine w_chain ?_
  | refine w_and ?_
  | refine w_or ?_
  | refine w_one ?_
  | refine w_not ?_
  | refine w_ix ?_
  | refine w_ifExp ?_
  | refine w_tup ?_
  | refine w_lst ?_
  | refine wt_not ?_
  | refine wt_bool ?_
  | refine ww_and ?_
  | refine ww_and1 ?_
  | refine ww_or ?_
  | refine ww_or1 ?_
  | refine wt_cmp ?_
  | refine wt_val ?_
  | tbr_iter "call"
  | (refine w_glob (by tbr_iter "mg") ?_)
  | (refine w_callB (by tbr_iter "z") ?_)
  | (refine w_callTy (by tbr_iter "z") ?_)
  | (refine w_bltT (by tbr_iter "z") ?_))
set_option hygiene false in
local macro_rules | `(tactic| tbr_iter "blk") => `(tactic| first | exact blkOk_by (by dsimp only [cxOf, envOfC]; decide +kernel))
set_option hygiene false in
local macro_rules | `(tactic| tbr_iter "iff") => `(tactic| first
  | refine iteT ?_
  | refine iteF ?_
  | refine w_if2 (fun _ => ?_) (fun _ => ?_))
set_option hygiene false in
local macro_rules | `(tactic| tbr_iter "sc") => `(tactic| first | omega | decide)
set_option hygiene false in
local macro_rules | `(tactic| tbr_iter "at") => `(tactic| first | exact atI_0 | exact atI_1 | exact atI_2)
set_option hygiene false in
local macro_rules | `(tactic| tbr_iter "sql") => `(tactic| ((try dsimp only [L2.cxOf, L2.Cx.blk]); with_reducible first | assumption | exact SqL.of (by assumption)))
set_option hygiene false in
local macro_rules | `(tactic| tbr_iter "sqt") => `(tactic| ((try dsimp only [L2.cxOf, L2.Cx.blk]); with_reducible first | assumption | exact SqT.of (by assumption)))
set_option hygiene false in
local macro_rules | `(tactic| tbr_iter "v") => `(tactic| first
  | refine bv_add ?_
  | refine bv_sub ?_
  | ((with_reducible show BinV _ .Mult _ _ _ _); refine bv_mul (Or.inl ⟨by tbr_iter "sc", by tbr_iter "sc"⟩) ?_)
  | ((with_reducible show BinV _ .Mult _ _ _ _); refine bv_mul (Or.inr ⟨by tbr_iter "sc", by tbr_iter "sc"⟩) ?_)
  | ((with_reducible show BinV _ .Mod _ _ _ _); refine bv_mod (by tbr_iter "sc") ?_)
  | ((with_reducible show BinV _ .FloorDiv _ _ _ _); refine bv_fdiv ⟨by tbr_iter "sc", by tbr_iter "sc"⟩ ?_)
  | ((with_reducible show BinV _ .Pow _ _ _ _); refine bv_pow ⟨by decide, by decide +kernel⟩ ?_)
  | refine cv_lt ?_
  | refine cv_le ?_
  | refine cv_gt ?_
  | refine cv_ge ?_
  | ((with_reducible show CmpV _ .Eq _ _ _ _); refine cv_eq rfl ?_)
  | ((with_reducible show CmpV _ .NotEq _ _ _ _); refine cv_ne rfl ?_)
  | refine iv_list (by tbr_iter "sql") (by tbr_iter "at") ?_
  | refine iv_tup (by tbr_iter "sqt") (by tbr_iter "at") ?_
  | refine kv_len_seq (Or.inl (by tbr_iter "sql")) ?_
  | refine kv_len_seq (Or.inr (by tbr_iter "sqt")) ?_
  | refine kv_int ?_
  | refine kv_intB ?_
  | refine kv_abs ?_
  | refine kv_max2 rfl ?_
  | refine kv_min2 rfl ?_)
set_option hygiene false in
local macro_rules | `(tactic| tbr_iter "b") => `(tactic| first
  | refine ⟨_, rfl, iteT ?_⟩
  | refine ⟨_, rfl, iteF ?_⟩
  | refine iteT ?_
  | refine iteF ?_)
set_option hygiene false in
local macro_rules | `(tactic| tbr_iter "go") => `(tactic| repeat (first | tbr_iter "w" | tbr_iter "v" | tbr_iter "b"))
set_option hygiene false in
local macro_rules | `(tactic| tbr_iter "nof") => `(tactic| (intro d hd; cases d <;> first | rfl | exact absurd rfl (hd _)))
set_option hygiene false in
local macro_rules | `(tactic| tbr_iter "e1") => `(tactic| first | ((with_reducible show W _ _ _ _ _); tbr_iter "w") | ((with_reducible show WA _ _ _ _ _); tbr_iter "w") | ((with_reducible show WT _ _ _ _ _); tbr_iter "w") | ((with_reducible show WW _ _ _ _ _); tbr_iter "w") | tbr_iter "v")
set_option hygiene false in
local macro_rules | `(tactic| tbr_iter "ex") => `(tactic| repeat (tbr_iter "e1"))
set_option hygiene false in
local macro_rules | `(tactic| tbr_iter "z") => `(tactic| ((try dsimp only [L2.cxOf]); with_reducible first | exact T.z_ValueError | exact T.z_abs | exact T.z_all | exact T.z_int | exact T.z_isinstance | exact T.z_len | exact T.z_max | exact T.z_min | exact T.z_range | exact T.z_set | exact T.z_sorted | exact T.z_str | exact T.z_sum | exact T.z_tuple))
set_option hygiene false in
local macro_rules | `(tactic| tbr_iter "mg") => `(tactic| ((try dsimp only [L2.cxOf]); with_reducible first | exact T.c_ALPHABET | exact T.c_MAX_LETTERS | exact T.c_MAX_COLUMNS | exact T.c_IN | exact T.c_OUT | exact T.c_UNLIKE | exact T.c_BROKEN | exact T.c_FINE | exact T.c_CHOOSE | exact T.c_MOST_TREES))
namespace Ax
def QL : Str := (envOfC "_law_right" (defScope s__law_right) 0 0 .none).qual ++ "<lambda>"
section
variable {P : Program} {w : World} {K : PySem.W.Frag} {mg : Str → Option Value} {base : Heap}
/-- _law_refused(lambda: fn(value)), the value one that is refused -/
theorem lam_step {X : Cx} {σ : L2.St} {H : Hp} {Q : VK} {fnm : Str} {G : PyData → Hp → VK → Prop} {c tb : Addr} {params : Arguments} {scope : Scope} {p p2 p3 p4 lpos pos : Pos} (T : Txt X.K X.mg) (C : Callee X.prog X.w X.K X.mg X.base fnm 9 ["tree"] (spTree X.K G))
    (hr : Room 12 X.A) (TB : LamX.TabB X.base X.mg c tb) (hcode : X.env.code = .ref c) (L : LamX.LamS X.env.scope scope) (hdef : defaultsOf params X.env = ([], []))
    (hbind : ∀ (q : Str) (cl : List (Str × Addr)) (pm cv ctv : Value), bindArgs (PySem.W.kla_fn "<lambda>" q params (.Call (.Name fnm p2) [.Name "value" p3] [] p4) scope cl pm cv ctv) ⟨[], []⟩ = pure [])
    (hN : X.N[3]? = some ("value" : Str)) (hv : scope.names.lookup ("value" : Str) = some NameKind.free) (hf : scope.names.lookup fnm = some NameKind.globalImplicit) (hfd : (fnm == ("__debug__" : Str)) = false) (hg : Gl X "_law_refused")
    (h : ∃ v r, σ[3]? = some (some v) ∧ HX X.K H v r ∧ wfH r = false ∧ nodesH r ≤ 100000 ∧ LamX.TabS H tb (X.env.qual ++ "<lambda>") ∧ ∀ H1 H', LamX.ExtN H H1 → Same H1 H' → LamX.TabS H' tb (X.env.qual ++ "<lambda>") → Q (.bl true) H') :
    W X (.Call (.Name "_law_refused" p) [.Lambda params (.Call (.Name fnm p2) [.Name "value" p3] [] p4) scope lpos] [] pos) σ H Q := by
  obtain ⟨v, r, hs, hx, hw, hn, ht, k⟩ := h
  refine w_lamcall (k := 10) T.f__law_refused sc__law_refused (fun _ _ _ _ _ _ us hl => match us, hl with | [_], _ => rfl) rfl (Or.inl rfl) (fun g cdg => ref_gives rfl T.e_InvalidOperation.g (by decide) fun f => rfl) TB hcode hr L hdef hbind ?_ hg
  refine ⟨ht, fun H1 eN t1 A outer s H0 f c' hr' => ?_⟩
  refine w_call (X := LamX.lamCx X A outer s H0 _ scope f c') C (hr'.mono (by decide)) (passes_call (takes_of rfl rfl rfl rfl) fun _ _ _ _ h => h) ?_ hf hfd
  refine wa_cons (w_var 3 hN (Or.inr (Or.inr hv)) hs ?_)
  refine wa_nil ⟨v, r, rfl, hx_hv (hx_sx (Sx.ofN eN) hx), hn, .inr hw, fun d e w => ?_, fun _ H' s' => ⟨true, T.x_InvalidOperation_InvalidOperation, fun _ => k H1 H' eN s' (t1.ext s'), fun z => by cases z⟩⟩
  subst e
  have hw : wf d = false := hw
  rw [w] at hw
  cases hw
theorem Sx.new {q : Addr} {o : HO} {H H0 H' : Hp} (e : Sx H H') (e0 : Sx H H0) (n : H0 q = none) : Sx H (upd H' q o) := fun a u ha hu => by
  rw [upd_ne (ne_of_none (e0 a u ha hu) n)]
  exact e a u ha hu
theorem tabS_lst {H : Hp} {q tb : Addr} {z : Str} {xs ys : List V} (t : LamX.TabS H tb z) (h : H q = some (.lst xs)) : LamX.TabS (upd H q (.lst ys)) tb z := by
  obtain ⟨ps, h1, h2, h3⟩ := t
  refine ⟨ps, ?_, h2, fun pos cv hc => ?_⟩
  · rw [upd_ne (ne_of h1 h (by intro z; cases z))]
    exact h1
  · obtain ⟨c, e1, e2⟩ := h3 pos cv hc
    refine ⟨c, e1, ?_⟩
    rw [upd_ne (ne_of e2 h (by intro z; unfold LamX.CodeO at z; cases z))]
    exact e2
def spRight (tb : Addr) : Sp := fun vs H Q _ => ∃ (p : Addr) (n : Nat), vs = [.ref p] ∧ H p = some (DiceO p n) ∧ n + 60000 < 2 ^ 59 ∧ LamX.TabS H tb QL ∧ ∀ m H', H' p = some (DiceO p m) → m ≤ n + 60000 → LamX.TabS H' tb QL → Sx H H' → Q (.bl true) H'
theorem DR4 : DR 4 = 57020 - 57020 + DR 4 := by omega
set_option hygiene false in
local macro_rules | `(tactic| tbr_iter "var") => `(tactic| first | ((with_reducible show W _ (.Name "dice" _) _ _ _); refine w_var 0 rfl (by tbr_iter "vis") rfl ?_) | ((with_reducible show W _ (.Name "tree" _) _ _ _); refine w_var 1 rfl (by tbr_iter "vis") rfl ?_) | ((with_reducible show W _ (.Name "told" _) _ _ _); refine w_var 2 rfl (by tbr_iter "vis") rfl ?_) | ((with_reducible show W _ (.Name "value" _) _ _ _); refine w_var 3 rfl (by tbr_iter "vis") rfl ?_))
set_option hygiene false in
local macro_rules | `(tactic| tbr_iter "set") => `(tactic| first | ((with_reducible show WB _ (.Assign [.Name "dice" _] _ _ :: _) _ _ _); refine wb_cons (ws_set 0 ?_ rfl nd)) | ((with_reducible show WB _ (.Assign [.Name "tree" _] _ _ :: _) _ _ _); refine wb_cons (ws_set 1 ?_ rfl nd)) | ((with_reducible show WB _ (.Assign [.Name "told" _] _ _ :: _) _ _ _); refine wb_cons (ws_set 2 ?_ rfl nd)) | ((with_reducible show WB _ (.Assign [.Name "value" _] _ _ :: _) _ _ _); refine wb_cons (ws_set 3 ?_ rfl nd)))
theorem ok_law_right {tb : Addr} (T : Txt K mg) (TL : TxtL K mg base tb "_law_right" s__law_right) : Callee P w K mg base "_law_right" 13 ["dice"] (spRight tb) := by
  refine def_okL TL sc__law_right (fun _ _ _ _ _ _ us hl => match us, hl with | [_], _ => rfl) (fun vs H Q E h => ?_) fun f c A outer s H vs Q E TB hr h => ?_
  · obtain ⟨p, n, rfl, _⟩ := h; rfl
  obtain ⟨p, n, rfl, hp, hn, ht, k⟩ := h
  have nd := sc__law_right.nd
  have hu := hr.units
  have d4 : DR 4 ≤ 57020 := by decide
  have n4 : NB 4 ≤ 2000 := by decide
  refine wb_cons (ws_set 1 (w_call (ok_law_any_tree T 4) (hr.mono (by decide)) passL ?_) rfl nd)
  tbr_iter "go"
  refine ⟨p, n, _, rfl, rfl, hp, by omega, fun v d m1 H1 s1 hp1 hm1 hd gt => ?_⟩
  have okd : okD d = true := by
    simp only [okD, Bool.and_eq_true, decide_eq_true_eq]
    exact ⟨gt.tm, by have := gt.dp; omega⟩
  have hnd : nodes d ≤ 2000 := Nat.le_trans gt.nd n4
  have lf : wfH (.leaf (some d)) = true := gt.wf
  have hnl : nodesH (.leaf (some d)) ≤ 100000 := by simp only [nodesH]; omega
  have ns : wfH (.leaf (some d)) = false → ∀ {R : Prop}, R := fun z => by rw [lf] at z; cases z
  refine wb_cons (ws_set 2 (w_lst ?_) rfl nd)
  refine wa_cons (w_call (ok_size_of T) (hr.mono (by decide)) (passes_call (takes_of rfl rfl rfl rfl) fun _ _ _ _ h => h) ?_)
  tbr_iter "go"
  refine ⟨v, .leaf (some d), rfl, .leaf (.dat hd okd), hnl, .inl ⟨d, rfl⟩, fun d' e _ => ?_, fun z => ns z⟩
  cases e
  intro H2 s2
  refine wa_cons (w_call (ok_height_of T) (hr.mono (by decide)) (passes_call (takes_of rfl rfl rfl rfl) fun _ _ _ _ h => h) ?_)
  tbr_iter "go"
  refine ⟨v, .leaf (some d), rfl, .leaf (.dat (dp_same s2 hd) okd), hnl, .inl ⟨d, rfl⟩, fun d' e _ => ?_, fun z => ns z⟩
  cases e
  intro H3 s3
  refine wa_cons (w_call (ok_choices_of T) (hr.mono (by decide)) (passes_call (takes_of rfl rfl rfl rfl) fun _ _ _ _ h => h) ?_)
  tbr_iter "go"
  refine ⟨v, .leaf (some d), rfl, .leaf (.dat (dp_same (s2.trans s3) hd) okd), hnl, .inl ⟨d, rfl⟩, fun d' e _ => ?_, fun z => ns z⟩
  cases e
  refine ⟨⟨treeNames, by decide, gt.nm⟩, fun q4 ys H4 s4 n4' hq4 hys hnd4 hmem => ?_⟩
  refine wa_nil ⟨three_line, fun q5 H5 s5 n5 hq5 => ?_⟩
  have s15 : Same H1 H5 := ((s2.trans s3).trans s4).trans s5
  have D1 : Dp K H5 (.ref q5) (.list [.int (nodes d), .int (heightD d), .tuple (ys.map PyData.str)]) := .lst (SqL.of hq5) (.cons (.int _) (.cons (.int _) (.cons (.tup (SqT.of (s5 _ _ hq4)) (dps ys)) .nil)))
  have hd5 := dp_same s15 hd
  refine wb_cons (ws_if ?_)
  refine wt_cmp ?_
  tbr_iter "var"
  refine w_lst ?_
  refine wa_cons (w_call (ok_law_size T 4) (hr.mono (by decide)) passL ?_)
  tbr_iter "go"
  refine ⟨v, d, rfl, hd5, gt.wf, gt.ht, fun H6 s6 => ?_⟩
  refine wa_cons (w_call (ok_law_height T 4) (hr.mono (by decide)) passL ?_)
  tbr_iter "go"
  refine ⟨v, d, rfl, dp_same s6 hd5, gt.wf, gt.ht, fun H7 s7 => ?_⟩
  tbr_iter "go"
  refine w_call (ok_law_chosen T 4) (hr.mono (by decide)) passL ?_
  tbr_iter "go"
  refine ⟨v, d, rfl, dp_same (s6.trans s7) hd5, gt.wf, gt.ht, by omega, fun q8 H8 s8 n8 hq8 => ?_⟩
  tbr_iter "go"
  refine kv_setS rfl (SqL.of hq8) (Nat.le_trans (names_nodes d) hnd) fun q9 H9 s9 n9 hq9 => ?_
  tbr_iter "go"
  refine kv_sortedSetS rfl hq9 ⟨treeNames, by decide, gt.nm⟩ fun zs q10 H10 s10 n10 hq10 hz1 hz2 hz3 => ?_
  tbr_iter "go"
  refine kv_tupleL (SqL.of hq10) fun q11 H11 s11 n11 hq11 => ?_
  tbr_iter "go"
  refine ⟨three_line, fun q12 H12 s12 n12 hq12 => ?_⟩
  have s512 : Same H5 H12 := s6.trans (s7.trans (s8.trans (s9.trans (s10.trans (s11.trans s12)))))
  have e : zs = ys := sortedS_uniq hz1 hys hz2 hnd4 fun z => (hz3 z).trans (hmem z).symm
  subst e
  have D2 : Dp K H12 (.ref q12) (.list [.int (nodes d), .int (heightD d), .tuple (zs.map PyData.str)]) := .lst (SqL.of hq12) (.cons (.int _) (.cons (.int _) (.cons (.tup (SqT.of (s12 _ _ hq11)) (dps zs)) .nil)))
  have hok : okD (.list [.int (nodes d), .int (heightD d), .tuple (zs.map PyData.str)]) = true := by
    have e1 := tameAll_str (zs := zs) fun z h => (treeNames_ok z (gt.nm z ((hz3 z).mp h))).2
    have e2 := depthAll_str zs
    have e3 : zs.length ≤ 100000 := Nat.le_trans (nodup_len hz2 fun z h => gt.nm z ((hz3 z).mp h)) (by decide)
    simp [okD, tame, tameAll, e1, PyData.depth, PyData.depthAll]
    omega
  refine cv_neD hu (dp_same s512 D1) D2 (okD.shaped hok) (okD.shaped hok) ⟨_, rfl, ?_⟩
  rw [SeqAt.eqv_refl _ (tame_lay (by simp only [okD, Bool.and_eq_true] at hok; exact hok.1))]
  refine iteF (wb_nil (wb_cons (ws_for 3 (wi_val ?_) rfl nd (passes_of rfl))))
  have hd12 := dp_same s512 hd5
  have hp12 := s512 _ _ (s15 _ _ hp1)
  tbr_iter "go"
  refine w_call (ok_law_spoilt T 4) (hr.mono (by decide)) passL ?_
  tbr_iter "go"
  refine ⟨p, m1, v, d, rfl, hp12, by omega, hd12, gt.wf, okd, gt.ht, fun u1 r1 m13 H13 s13 hp13 hm13 hx1 hw1 hn1 => ?_⟩
  tbr_iter "go"
  refine w_call (ok_law_odd T) (hr.mono (by decide)) passL ?_
  tbr_iter "go"
  refine ⟨p, m13, rfl, hp13, by omega, fun u2 o2 H14 s14 hp14 ha2 hw2 hn2 => ?_⟩
  tbr_iter "go"
  refine ⟨two_line, fun q15 H15 s16 n15 hq15 => ?_⟩
  have t0 : LamX.TabS H15 tb QL := (tabS_sm s14 hp13 (tabS_sm s13 hp12 ((tabS_sm s1 hp ht).ext (s15.trans s512)))).ext s16
  have x015 : Sx H H15 := (((s1.sx.trans (Sx.of (s15.trans s512))).trans s13.sx).trans s14.sx).trans (Sx.of s16)
  have hit : ∀ (j : Nat) (u : V), [u1, u2][j]? = some u → ∃ r, HX K H15 u r ∧ wfH r = false ∧ nodesH r ≤ 100000 := fun j u h => by
    match j, h with
    | 0, h =>
      simp at h
      subst h
      exact ⟨r1, hx_sx (s14.sx.trans (Sx.of s16)) hx1, hw1, by omega⟩
    | 1, h =>
      simp at h
      subst h
      exact ⟨.leaf o2, .leaf (ha2.sx (Sx.of s16)), hw2, by omega⟩
  refine itv_tup (SqT.of hq15) ⟨2, _, _, walk_tup (K := K) (xs := [u1, u2]), fun j σ Hc => ∃ t3 t4, σ = [some (.ref p), some v, t3, t4] ∧ Sx H15 Hc ∧ Hc p = some (DiceO p (m13 + 1)) ∧ LamX.TabS Hc tb QL, ?_, ?_, ?_, ?_⟩
  · exact ⟨_, _, rfl, Sx.refl _, s16 _ _ hp14, t0⟩
  · rintro j σ Hc _ ⟨_, _, _, sx, _⟩
    exact sx.tup (SqT.of hq15)
  · rintro j u σ Hc Hc' hj ⟨t3, t4, rfl, sx, hpc, tc⟩ ⟨e, hu1⟩
    subst e
    obtain ⟨r, hx, hw, hnr⟩ := hit j u hu1
    have kp : ∀ {Ha Hb Hd : Hp}, LamX.ExtN Ha Hb → Same Hb Hd → Ha p = some (DiceO p (m13 + 1)) → Hd p = some (DiceO p (m13 + 1)) := fun eN sa h => sa _ _ (eN _ _ h fun ps z => by cases z)
    refine wb_cons (ws_set 2 (w_lst (wa_cons (lam_step T (ok_size_of T) (hr.mono (by decide)) TB rfl (LamX.lamS_by (by dsimp only [cxOf, envOfC]; decide +kernel)) rfl (fun _ _ _ _ _ => rfl) rfl rfl rfl (by decide) rfl ⟨u, r, rfl, hx_sx sx hx, hw, hnr, tc, fun Ha Hb eN sa ta => wa_nil ⟨one_line, fun q17 H17 s17 n17 hq17 => ?_⟩⟩))) rfl nd)
    have sx1 : Sx Hc' H17 := (Sx.ofN eN).trans (Sx.of (sa.trans s17))
    have hp17 := s17 _ _ (kp eN sa hpc)
    have ta := ta.ext s17
    refine wb_cons (ws_expr (w_bm1 PySem.F.plainAttrs_list PySem.F.slot_list_append PySem.F.type_list_append ?_))
    tbr_iter "var"
    refine ⟨tyV_list ⟨_, _, rfl, SqL.of hq17⟩, ?_⟩
    refine lam_step T (ok_height_of T) (hr.mono (by decide)) TB rfl (LamX.lamS_by (by dsimp only [cxOf, envOfC]; decide +kernel)) rfl (fun _ _ _ _ _ => rfl) rfl rfl rfl (by decide) rfl ⟨u, r, rfl, hx_sx (sx.trans sx1) hx, hw, hnr, ta, fun Ha2 Hb2 eN2 sa2 ta2 => ?_⟩
    have hq18 := sa2 _ _ (eN2 _ _ hq17 fun ps z => by cases z)
    refine mv_append hq18 (by decide) ?_
    have hp18 := kp eN2 sa2 hp17
    have pq : p ≠ q17 := fun z => by rw [z, hq17] at hp17; cases hp17
    have x0 : Sx H15 Hb := sx.trans ((Sx.ofN eN).trans (Sx.of sa))
    have x18 : Sx H15 Hb2 := (sx.trans sx1).trans ((Sx.ofN eN2).trans (Sx.of sa2))
    obtain ⟨H19, hE⟩ : ∃ H19, H19 = upd Hb2 q17 (.lst ([V.bl true] ++ [V.bl true])) := ⟨_, rfl⟩
    rw [← hE]
    have x19 : Sx H15 H19 := by rw [hE]; exact x18.new x0 n17
    have hp19 : H19 p = some (DiceO p (m13 + 1)) := by rw [hE, upd_ne pq]; exact hp18
    have t19 : LamX.TabS H19 tb QL := by rw [hE]; exact tabS_lst ta2 hq18
    have hq19 : H19 q17 = some (.lst [V.bl true, V.bl true]) := by rw [hE, upd_same]; rfl
    clear hE
    refine wb_cons (ws_expr (w_bm1 PySem.F.plainAttrs_list PySem.F.slot_list_append PySem.F.type_list_append ?_))
    tbr_iter "var"
    refine ⟨tyV_list ⟨_, _, rfl, SqL.of hq19⟩, ?_⟩
    refine lam_step T (ok_choices_of T) (hr.mono (by decide)) TB rfl (LamX.lamS_by (by dsimp only [cxOf, envOfC]; decide +kernel)) rfl (fun _ _ _ _ _ => rfl) rfl rfl rfl (by decide) rfl ⟨u, r, rfl, hx_sx x19 hx, hw, hnr, t19, fun Ha3 Hb3 eN3 sa3 ta3 => ?_⟩
    have hq20 := sa3 _ _ (eN3 _ _ hq19 fun ps z => by cases z)
    refine mv_append hq20 (by decide) ?_
    have x20 : Sx H15 Hb3 := x19.trans ((Sx.ofN eN3).trans (Sx.of sa3))
    obtain ⟨H21, hE⟩ : ∃ H21, H21 = upd Hb3 q17 (.lst ([V.bl true, V.bl true] ++ [V.bl true])) := ⟨_, rfl⟩
    rw [← hE]
    have x21 : Sx H15 H21 := by rw [hE]; exact x20.new x0 n17
    have hp21 : H21 p = some (DiceO p (m13 + 1)) := by rw [hE, upd_ne pq]; exact kp eN3 sa3 hp19
    have t21 : LamX.TabS H21 tb QL := by rw [hE]; exact tabS_lst ta3 hq20
    have hq21 : H21 q17 = some (.lst [V.bl true, V.bl true, V.bl true]) := by rw [hE, upd_same]; rfl
    clear hE
    refine wb_cons (ws_if (wt_cmp ?_))
    tbr_iter "var"
    refine w_bin (w_lst (wa_cons (w_bl (wa_nil ⟨one_line, fun q22 H22 s22 n22 hq22 => w_int (bv_rep hq22 (by decide) (by decide) (by decide) fun q23 H23 s23 n23 hq23 => ?_)⟩))))
    have D3 : ∀ {q : Addr} {Hz : Hp}, Hz q = some (.lst [V.bl true, V.bl true, V.bl true]) → Dp K Hz (.ref q) (.list [.bool true, .bool true, .bool true]) := fun h => .lst (SqL.of h) (.cons (.bl _) (.cons (.bl _) (.cons (.bl _) .nil)))
    refine cv_neD hu (D3 (s23 _ _ (s22 _ _ hq21))) (D3 hq23) (by decide +kernel) (by decide +kernel) ⟨_, rfl, ?_⟩
    rw [SeqAt.eqv_refl _ (by decide +kernel)]
    refine iteF (wb_nil (wb_nil ⟨_, _, rfl, x21.trans (Sx.of (s22.trans s23)), s23 _ _ (s22 _ _ hp21), (t21.ext s22).ext s23⟩))
  · rintro σ Hc ⟨t3, t4, rfl, sx, hpc, tc⟩
    tbr_iter "go"
    exact k (m13 + 1) Hc hpc (by omega) tc (x015.trans sx)
end
end Ax
end
section
set_option maxHeartbeats 4000000
open PySem PySem.Spec PyProof.Rows L2 Ax
set_option hygiene false in
local macro_rules | `(tactic| tbr_iter "boot") => `(tactic| with_reducible first | exact Ax.b_len | exact Ax.b_all | exact Ax.b_any | exact Ax.b_sorted | exact Ax.b_isinstance | exact Ax.b_abs | exact Ax.b_max | exact Ax.b_min | exact Ax.b_sum | exact Ax.b_repr | exact Ax.b_iter | exact Ax.b_ord | exact Ax.b_chr | exact Ax.b_str | exact Ax.b_int | exact Ax.b_bool | exact Ax.b_tuple | exact Ax.b_list | exact Ax.b_dict | exact Ax.b_set | exact Ax.b_range | exact Ax.b_enumerate | exact Ax.b_zip)
set_option hygiene false in
local macro_rules | `(tactic| tbr_iter "vis") => `(tactic| first | exact Or.inl rfl | exact Or.inr (Or.inl rfl) | exact Or.inr (Or.inr rfl))
set_option hygiene false in
local macro_rules | `(tactic| tbr_iter "w") => `(tactic| first
  | refine wb_cons ?_
  | refine wb_nil ?_
  | refine ws_ret ?_
  | refine ws_if ?_
  | refine ws_sub ?_
  | refine wa_cons ?_
  | refine wa_nil ?_
  | refine w_int ?_
  | refine w_str ?_
  | refine w_bl ?_
  | refine w_non ?_
  | tbr_iter "var"
  | refine w_bin ?_
  | refine w_cmp ?_
  | refine w_chain ?_
  | refine w_and ?_
  | refine w_or ?_
  | refine w_one ?_
  | refine w_not ?_
  | refine w_ix ?_
  | refine w_ifExp ?_
  | refine w_tup ?_
  | refine w_lst ?_
  | refine wt_not ?_
  | refine wt_bool ?_
  | refine ww_and ?_
  | refine ww_and1 ?_
  | refine ww_or ?_
  | refine ww_or1 ?_
  | refine wt_cmp ?_
  | refine wt_val ?_
  | tbr_iter "call"
  | (refine w_glob (by tbr_iter "mg") ?_)
  | (refine w_callB (by tbr_iter "z") ?_)
  | (refine w_callTy (by tbr_iter "z") ?_)
  | (refine w_bltT (by tbr_iter "z") ?_))
set_option hygiene false in
local macro_rules | `(tactic| tbr_iter "blk") => `(tactic| first | exact blkOk_by (by dsimp only [cxOf, envOfC]; decide +kernel))
set_option hygiene false in
local macro_rules | `(tactic| tbr_iter "iff") => `(tactic| first
  | refine iteT ?_
  | refine iteF ?_
  | refine w_if2 (fun _ => ?_) (fun _ => ?_))
set_option hygiene false in
local macro_rules | `(tactic| tbr_iter "sc") => `(tactic| first | omega | decide)
set_option hygiene false in
local macro_rules | `(tactic| tbr_iter "at") => `(tactic| first | exact atI_0 | exact atI_1 | exact atI_2)
set_option hygiene false in
local macro_rules | `(tactic| tbr_iter "sql") => `(tactic| ((try dsimp only [L2.cxOf, L2.Cx.blk]); with_reducible first | assumption | exact SqL.of (by assumption)))
set_option hygiene false in
local macro_rules | `(tactic| tbr_iter "sqt") => `(tactic| ((try dsimp only [L2.cxOf, L2.Cx.blk]); with_reducible first | assumption | exact SqT.of (by assumption)))
set_option hygiene false in
local macro_rules | `(tactic| tbr_iter "v") => `(tactic| first
  | refine bv_add ?_
  | refine bv_sub ?_
  | ((with_reducible show BinV _ .Mult _ _ _ _); refine bv_mul (Or.inl ⟨by tbr_iter "sc", by tbr_iter "sc"⟩) ?_)
  | ((with_reducible show BinV _ .Mult _ _ _ _); refine bv_mul (Or.inr ⟨by tbr_iter "sc", by tbr_iter "sc"⟩) ?_)
  | ((with_reducible show BinV _ .Mod _ _ _ _); refine bv_mod (by tbr_iter "sc") ?_)
  | ((with_reducible show BinV _ .FloorDiv _ _ _ _); refine bv_fdiv ⟨by tbr_iter "sc", by tbr_iter "sc"⟩ ?_)
  | ((with_reducible show BinV _ .Pow _ _ _ _); refine bv_pow ⟨by decide, by decide +kernel⟩ ?_)
  | refine cv_lt ?_
  | refine cv_le ?_
  | refine cv_gt ?_
  | refine cv_ge ?_
  | ((with_reducible show CmpV _ .Eq _ _ _ _); refine cv_eq rfl ?_)
  | ((with_reducible show CmpV _ .NotEq _ _ _ _); refine cv_ne rfl ?_)
  | refine iv_list (by tbr_iter "sql") (by tbr_iter "at") ?_
  | refine iv_tup (by tbr_iter "sqt") (by tbr_iter "at") ?_
  | refine kv_len_seq (Or.inl (by tbr_iter "sql")) ?_
  | refine kv_len_seq (Or.inr (by tbr_iter "sqt")) ?_
  | refine kv_int ?_
  | refine kv_intB ?_
  | refine kv_abs ?_
  | refine kv_max2 rfl ?_
  | refine kv_min2 rfl ?_)
set_option hygiene false in
local macro_rules | `(tactic| tbr_iter "b") => `(tactic| first
  | refine ⟨_, rfl, iteT ?_⟩
  | refine ⟨_, rfl, iteF ?_⟩
  | refine iteT ?_
  | refine iteF ?_)
set_option hygiene false in
local macro_rules | `(tactic| tbr_iter "go") => `(tactic| repeat (first | tbr_iter "w" | tbr_iter "v" | tbr_iter "b"))
set_option hygiene false in
local macro_rules | `(tactic| tbr_iter "nof") => `(tactic| (intro d hd; cases d <;> first | rfl | exact absurd rfl (hd _)))
set_option hygiene false in
local macro_rules | `(tactic| tbr_iter "e1") => `(tactic| first | ((with_reducible show W _ _ _ _ _); tbr_iter "w") | ((with_reducible show WA _ _ _ _ _); tbr_iter "w") | ((with_reducible show WT _ _ _ _ _); tbr_iter "w") | ((with_reducible show WW _ _ _ _ _); tbr_iter "w") | tbr_iter "v")
set_option hygiene false in
local macro_rules | `(tactic| tbr_iter "ex") => `(tactic| repeat (tbr_iter "e1"))
set_option hygiene false in
local macro_rules | `(tactic| tbr_iter "z") => `(tactic| ((try dsimp only [L2.cxOf]); with_reducible first | exact T.z_ValueError | exact T.z_abs | exact T.z_all | exact T.z_int | exact T.z_isinstance | exact T.z_len | exact T.z_max | exact T.z_min | exact T.z_range | exact T.z_set | exact T.z_sorted | exact T.z_str | exact T.z_sum | exact T.z_tuple))
set_option hygiene false in
local macro_rules | `(tactic| tbr_iter "mg") => `(tactic| ((try dsimp only [L2.cxOf]); with_reducible first | exact T.c_ALPHABET | exact T.c_MAX_LETTERS | exact T.c_MAX_COLUMNS | exact T.c_IN | exact T.c_OUT | exact T.c_UNLIKE | exact T.c_BROKEN | exact T.c_FINE | exact T.c_CHOOSE | exact T.c_MOST_TREES))
namespace Ax
def xyz (k : Nat) : Str := if k % 3 = 0 then "x" else if k % 3 = 1 then "y" else "z"
def deepN : Nat → Str
  | 0 => "x"
  | k + 1 => xyz k
def deepD : Nat → PyData
  | 0 => .tuple [.str "fine"]
  | k + 1 => .tuple [.str "choose", .str (deepN k), .tuple [deepD k, .tuple [.str "fine"]]]
theorem deep_ok : wf (deepD 15) = true ∧ okD (deepD 15) = true ∧ nodes (deepD 15) = 31 ∧ heightD (deepD 15) = 15 ∧ ((namesD (deepD 15)).all fun z => decide (z = "x" ∨ z = "y" ∨ z = "z")) = true ∧ ((namesD (deepD 15)).any fun z => decide (z = "x")) = true ∧ ((namesD (deepD 15)).any fun z => decide (z = "y")) = true ∧ ((namesD (deepD 15)).any fun z => decide (z = "z")) = true := by decide +kernel
theorem deep_names (z : Str) : z ∈ namesD (deepD 15) ↔ z ∈ (["x", "y", "z"] : List Str) := by
  obtain ⟨_, _, _, _, h1, h2, h3, h4⟩ := deep_ok
  constructor
  · intro h
    have e := of_decide_eq_true (List.all_eq_true.mp h1 z h)
    simpa using e
  · intro h
    have go : ∀ w : Str, ((namesD (deepD 15)).any fun z => decide (z = w)) = true → w ∈ namesD (deepD 15) := fun w h => by
      obtain ⟨y, hy, e⟩ := List.any_eq_true.mp h
      exact of_decide_eq_true e ▸ hy
    rcases List.mem_cons.mp h with e | h
    · rw [e]; exact go _ h2
    · rcases List.mem_cons.mp h with e | h
      · rw [e]; exact go _ h3
      · rw [List.mem_singleton.mp h]; exact go _ h4
theorem at_xyz (k : Nat) : atI [V.str "x", V.str "y", V.str "z"] (((0 : Int) + k) % 3) = some (V.str (xyz k)) := by
  have h : k % 3 = 0 ∨ k % 3 = 1 ∨ k % 3 = 2 := by omega
  unfold xyz
  rcases h with h | h | h
  · have e : ((0 : Int) + k) % 3 = 0 := by omega
    rw [e, h]
    exact atI_0
  · have e : ((0 : Int) + k) % 3 = 1 := by omega
    rw [e, h]
    exact atI_1
  · have e : ((0 : Int) + k) % 3 = 2 := by omega
    rw [e, h]
    exact atI_2
theorem four_line : 4 ≤ sizeLine := by decide
def brokenD : PyData := .tuple [.str "broken", .tuple [.str "out", .str "at", .tuple []]]
def fineD : PyData := .tuple [.str "fine"]
theorem broken_ok : wf brokenD = true ∧ okD brokenD = true ∧ nodes brokenD = 1 ∧ heightD brokenD = 0 ∧ namesD brokenD = [] := by decide +kernel
theorem fine_ok : wf fineD = true ∧ okD fineD = true ∧ nodes fineD = 1 := by decide +kernel
def spLaw19 (K : PySem.W.Frag) (tb : Addr) : Sp := fun vs H Q _ => ∃ (a : Addr) (ns : List Int), vs = [.ref a] ∧ SqL K H a (ns.map V.int) ∧ ns.length ≤ 63 ∧ LamX.TabS H tb QL ∧ ∀ H', Q (.bl true) H'
theorem tabS_same {H H' : Hp} {tb : Addr} {q : Str} (s : Same H H') (t : LamX.TabS H tb q) : LamX.TabS H' tb q := t.ext s
section
variable {P : Program} {w : World} {K : PySem.W.Frag} {mg : Str → Option Value} {base : Heap}
set_option hygiene false in
local macro_rules | `(tactic| tbr_iter "var") => `(tactic| first | ((with_reducible show W _ (.Name "script" _) _ _ _); refine w_var 0 rfl (by tbr_iter "vis") rfl ?_) | ((with_reducible show W _ (.Name "spot" _) _ _ _); refine w_var 1 rfl (by tbr_iter "vis") rfl ?_) | ((with_reducible show W _ (.Name "dice" _) _ _ _); refine w_var 2 rfl (by tbr_iter "vis") rfl ?_) | ((with_reducible show W _ (.Name "turn" _) _ _ _); refine w_var 3 rfl (by tbr_iter "vis") rfl ?_) | ((with_reducible show W _ (.Name "deep" _) _ _ _); refine w_var 4 rfl (by tbr_iter "vis") rfl ?_) | ((with_reducible show W _ (.Name "name" _) _ _ _); refine w_var 5 rfl (by tbr_iter "vis") rfl ?_) | ((with_reducible show W _ (.Name "broken" _) _ _ _); refine w_var 6 rfl (by tbr_iter "vis") rfl ?_))
set_option hygiene false in
local macro_rules | `(tactic| tbr_iter "set") => `(tactic| first | ((with_reducible show WB _ (.Assign [.Name "script" _] _ _ :: _) _ _ _); refine wb_cons (ws_set 0 ?_ rfl nd)) | ((with_reducible show WB _ (.Assign [.Name "spot" _] _ _ :: _) _ _ _); refine wb_cons (ws_set 1 ?_ rfl nd)) | ((with_reducible show WB _ (.Assign [.Name "dice" _] _ _ :: _) _ _ _); refine wb_cons (ws_set 2 ?_ rfl nd)) | ((with_reducible show WB _ (.Assign [.Name "turn" _] _ _ :: _) _ _ _); refine wb_cons (ws_set 3 ?_ rfl nd)) | ((with_reducible show WB _ (.Assign [.Name "deep" _] _ _ :: _) _ _ _); refine wb_cons (ws_set 4 ?_ rfl nd)) | ((with_reducible show WB _ (.Assign [.Name "name" _] _ _ :: _) _ _ _); refine wb_cons (ws_set 5 ?_ rfl nd)) | ((with_reducible show WB _ (.Assign [.Name "broken" _] _ _ :: _) _ _ _); refine wb_cons (ws_set 6 ?_ rfl nd)))
theorem ok_law {tb f : Addr} {fd : FuncData} (T : Txt K mg) (TL : TxtL K mg base tb "_law_right" s__law_right) (F : FunD K "law" "law" (defArgs s_law) (defBody s_law) (defScope s_law) [] [] f fd) : FnOk P w K mg base (L2.CX P w) 14 f fd ["script"] (spLaw19 K tb) := by
  refine F.ok sc_law (fun vs H Q E h => ?_) fun cdv A outer s H vs Q E hr h => ⟨_, WB.pss, ?_⟩
  · obtain ⟨a, ns, rfl, _⟩ := h; rfl
  obtain ⟨a, ns, rfl, hs, hl, ht, k⟩ := h
  have nd := sc_law.nd
  have hu := hr.units
  refine wb_cons (ws_for 1 (wi_range1 T.z_range ?_) rfl nd (passes_of rfl))
  tbr_iter "go"
  refine ⟨_, rfl, by split <;> split <;> omega, by split <;> split <;> omega, ?_⟩
  generalize hN : (if (if ((ns.map V.int).length : Int) < 8 then ((ns.map V.int).length : Int) else 8) > 1 then (if ((ns.map V.int).length : Int) < 8 then ((ns.map V.int).length : Int) else 8) else 1 : Int).toNat = N
  have hN8 : N ≤ 8 := by rw [← hN]; split <;> split <;> omega
  clear hN
  refine ⟨N, _, _, walk_range, fun i σ Hc => ∃ c1 c2 c3, σ = [some (.ref a), c1, c2, c3, none, none, none] ∧ Sx H Hc ∧ LamX.TabS Hc tb QL, ⟨none, none, none, rfl, Sx.refl _, ht⟩, fun _ _ _ _ _ => trivial, ?_, ?_⟩
  · rintro i v σ Hc Hc' hi ⟨c1, c2, c3, rfl, sx, tc⟩ ⟨e, rfl⟩
    subst e
    refine wb_cons (ws_set 2 (w_call (ok_law_dice T) (hr.mono (by decide)) passL ?_) rfl nd)
    tbr_iter "go"
    refine ⟨a, ns, i, by show [V.ref a, V.int (0 + (i : Int))] = _; rw [Int.zero_add], sx.seq hs, hl, by omega, fun p H1 s1 n1 hp1 => ?_⟩
    have sx1 : Sx H H1 := sx.trans (Sx.of s1)
    have t1 := tabS_same s1 tc
    refine wb_cons (ws_for 3 (wi_range1 T.z_range ?_) rfl nd (passes_of rfl))
    tbr_iter "go"
    refine ⟨5, rfl, by decide, by decide, 5, _, _, walk_range, fun j σ Hd => ∃ c3 m, σ = [some (.ref a), some (.int (0 + (i : Int))), some (.ref p), c3, none, none, none] ∧ Sx H Hd ∧ LamX.TabS Hd tb QL ∧ Hd p = some (DiceO p m) ∧ m ≤ j * 60000, ⟨_, 0, rfl, sx1, t1, hp1, by omega⟩, fun _ _ _ _ _ => trivial, ?_, ?_⟩
    · rintro j v σ Hd Hd' hj ⟨c3, m, rfl, sx2, t2, hp2, hm⟩ ⟨e, rfl⟩
      subst e
      tbr_iter "go"
      refine w_call (ok_law_right T TL) (hr.mono (by decide)) passL ?_
      tbr_iter "go"
      refine ⟨p, m, rfl, hp2, by omega, t2, fun m' He hpe hme te se => ⟨_, rfl, iteF (wb_nil (wb_nil ⟨_, m', rfl, sx2.trans se, te, hpe, by omega⟩))⟩⟩
    · rintro σ Hd ⟨c3, m, rfl, sx2, t2, _⟩
      exact wb_nil ⟨_, _, _, rfl, sx2, t2⟩
  · rintro σ Hc ⟨c1, c2, c3, rfl, sx, tc⟩
    refine wb_cons (ws_tup2 4 5 ?_ rfl rfl nd)
    tbr_iter "go"
    refine ⟨one_line, fun q0 H1 s1 n1 hq0 => ?_⟩
    tbr_iter "go"
    refine ⟨two_line, fun q1 H2 s2 n2 hq1 => ?_⟩
    have hq0 := s2 _ _ hq0
    refine ⟨q1, _, _, rfl, SqT.of hq1, wb_cons (ws_for 3 (wi_range1 T.z_range ?_) rfl nd (passes_of rfl))⟩
    tbr_iter "go"
    refine ⟨15, rfl, by decide, by decide, 15, _, _, walk_range, fun j σ Hd => ∃ c3 v, σ = [some (.ref a), c1, c2, c3, some v, some (.str (deepN j)), none] ∧ Dp K Hd v (deepD j), ⟨_, _, rfl, .tup (SqT.of hq0) (.cons (.str _) .nil)⟩, fun _ _ _ _ _ => trivial, ?_, ?_⟩
    · rintro j v σ Hd Hd' hj ⟨c3, dv, rfl, hd⟩ ⟨e, rfl⟩
      subst e
      refine wb_cons (ws_par 4 5 ?_ rfl rfl nd)
      tbr_iter "go"
      refine ⟨one_line, fun q2 H2 s2 n2 hq2 => ?_⟩
      tbr_iter "go"
      refine ⟨two_line, fun q3 H3 s3 n3 hq3 => ?_⟩
      tbr_iter "go"
      refine ⟨three_line, fun q4 H4 s4 n4 hq4 => ?_⟩
      tbr_iter "go"
      refine ⟨three_line, fun q5 H5 s5 n5 hq5 => ?_⟩
      tbr_iter "go"
      refine iv_list (SqL.of hq5) (at_xyz j) ?_
      tbr_iter "go"
      refine ⟨_, _, rfl, wb_nil ⟨_, _, rfl, ?_⟩⟩
      exact .tup (SqT.of (s5 _ _ hq4)) (.cons (.str _) (.cons (.str _) (.cons (.tup (SqT.of (s5 _ _ (s4 _ _ hq3))) (.cons (dp_same (s2.trans (s3.trans (s4.trans s5))) hd) (.cons (.tup (SqT.of (s5 _ _ (s4 _ _ (s3 _ _ hq2)))) (.cons (.str _) .nil)) .nil))) .nil)))
    · rintro σ Hd ⟨c3, dv, rfl, hd⟩
      obtain ⟨wd, okd, e31, e15, _⟩ := deep_ok
      have lf : ∀ {d : PyData}, wf d = true → wfH (.leaf (some d)) = false → ∀ {R : Prop}, R := fun w z => by
        have w : wfH (.leaf (some _)) = true := w
        rw [w] at z
        cases z
      have nl : nodesH (.leaf (some (deepD 15))) ≤ 100000 := by simp only [nodesH]; omega
      refine wb_cons (ws_if (wt_cmp (w_lst ?_)))
      refine wa_cons (w_call (ok_size_of T) (hr.mono (by decide)) (passes_call (takes_of rfl rfl rfl rfl) fun _ _ _ _ h => h) ?_)
      tbr_iter "go"
      refine ⟨dv, .leaf (some (deepD 15)), rfl, .leaf (.dat hd okd), nl, .inl ⟨_, rfl⟩, fun d' e _ => ?_, fun z => lf wd z⟩
      cases e
      intro H2 s2
      rw [e31]
      refine wa_cons (w_call (ok_height_of T) (hr.mono (by decide)) (passes_call (takes_of rfl rfl rfl rfl) fun _ _ _ _ h => h) ?_)
      tbr_iter "go"
      refine ⟨dv, .leaf (some (deepD 15)), rfl, .leaf (.dat (dp_same s2 hd) okd), nl, .inl ⟨_, rfl⟩, fun d' e _ => ?_, fun z => lf wd z⟩
      cases e
      intro H3 s3
      rw [e15]
      refine wa_cons (w_call (ok_choices_of T) (hr.mono (by decide)) (passes_call (takes_of rfl rfl rfl rfl) fun _ _ _ _ h => h) ?_)
      tbr_iter "go"
      refine ⟨dv, .leaf (some (deepD 15)), rfl, .leaf (.dat (dp_same (s2.trans s3) hd) okd), nl, .inl ⟨_, rfl⟩, fun d' e _ => ?_, fun z => lf wd z⟩
      cases e
      refine ⟨⟨(["x", "y", "z"] : List Str), by decide, fun z h => (deep_names z).mp h⟩, fun q4 ys H4 s4 n4 hq4 h1 h2 h3 => ?_⟩
      have ey : ys = (["x", "y", "z"] : List Str) := sortedS_uniq h1 (by decide +kernel) h2 (by decide +kernel) fun z => (h3 z).trans (deep_names z)
      subst ey
      refine wa_nil ⟨three_line, fun q5 H5 s5 n5 hq5 => ?_⟩
      tbr_iter "go"
      refine ⟨three_line, fun q6 H6 s6 n6 hq6 => ?_⟩
      tbr_iter "go"
      refine ⟨three_line, fun q7 H7 s7 n7 hq7 => ?_⟩
      have D1 : Dp K H7 (.ref q5) (.list [.int 31, .int 15, .tuple ((["x", "y", "z"] : List Str).map PyData.str)]) := .lst (SqL.of (s7 _ _ (s6 _ _ hq5))) (.cons (.int _) (.cons (.int _) (.cons (.tup (SqT.of (s7 _ _ (s6 _ _ (s5 _ _ hq4)))) (dps _)) .nil)))
      have D2 : Dp K H7 (.ref q7) (.list [.int 31, .int 15, .tuple ((["x", "y", "z"] : List Str).map PyData.str)]) := .lst (SqL.of hq7) (.cons (.int _) (.cons (.int _) (.cons (.tup (SqT.of (s7 _ _ hq6)) (dps (["x", "y", "z"] : List Str))) .nil)))
      refine cv_neD hu D1 D2 (by decide +kernel) (by decide +kernel) ⟨_, rfl, ?_⟩
      rw [SeqAt.eqv_refl _ (by decide +kernel)]
      refine iteF (wb_nil (wb_cons (ws_set 6 ?_ rfl nd)))
      tbr_iter "go"
      refine ⟨zero_line, fun q8 H8 s8 n8 hq8 => ?_⟩
      tbr_iter "go"
      refine ⟨three_line, fun q9 H9 s9 n9 hq9 => ?_⟩
      tbr_iter "go"
      refine ⟨two_line, fun qb Hb sb nb hqb => ?_⟩
      have hB : Dp K Hb (.ref qb) brokenD := .tup (SqT.of hqb) (.cons (.str _) (.cons (.tup (SqT.of (sb _ _ hq9)) (.cons (.str _) (.cons (.str _) (.cons (.tup (SqT.of (sb _ _ (s9 _ _ hq8))) .nil) .nil)))) .nil))
      obtain ⟨b1, b2, b3, b4, b5⟩ := broken_ok
      obtain ⟨f1, f2, f3⟩ := fine_ok
      have nb2 : nodesH (.leaf (some brokenD)) ≤ 100000 := by simp only [nodesH]; omega
      have nf2 : nodesH (.leaf (some fineD)) ≤ 100000 := by simp only [nodesH]; omega
      refine wb_cons (ws_ret (w_cmp (w_lst ?_)))
      refine wa_cons (w_call (ok_size_of T) (hr.mono (by decide)) (passes_call (takes_of rfl rfl rfl rfl) fun _ _ _ _ h => h) ?_)
      tbr_iter "go"
      refine ⟨one_line, fun qf Hf sf nf hqf => ?_⟩
      tbr_iter "go"
      refine ⟨_, .leaf (some fineD), rfl, .leaf (.dat (.tup (SqT.of hqf) (.cons (.str _) .nil)) f2), nf2, .inl ⟨_, rfl⟩, fun d' e _ => ?_, fun z => lf f1 z⟩
      cases e
      intro Hg sg
      rw [f3]
      refine wa_cons (w_call (ok_height_of T) (hr.mono (by decide)) (passes_call (takes_of rfl rfl rfl rfl) fun _ _ _ _ h => h) ?_)
      tbr_iter "go"
      refine ⟨_, .leaf (some brokenD), rfl, .leaf (.dat (dp_same (sf.trans sg) hB) b2), nb2, .inl ⟨_, rfl⟩, fun d' e _ => ?_, fun z => lf b1 z⟩
      cases e
      intro Hh sh
      rw [b4]
      refine wa_cons (w_call (ok_choices_of T) (hr.mono (by decide)) (passes_call (takes_of rfl rfl rfl rfl) fun _ _ _ _ h => h) ?_)
      tbr_iter "go"
      refine ⟨_, .leaf (some brokenD), rfl, .leaf (.dat (dp_same ((sf.trans sg).trans sh) hB) b2), nb2, .inl ⟨_, rfl⟩, fun d' e _ => ?_, fun z => lf b1 z⟩
      cases e
      refine ⟨⟨[], by decide, fun z h => by rw [b5] at h; exact h⟩, fun qi ys Hi si ni hqi h1 h2 h3 => ?_⟩
      have ey : ys = [] := List.eq_nil_iff_forall_not_mem.mpr fun z h => by
        have e := (h3 z).mp h
        rw [b5] at e
        cases e
      subst ey
      refine wa_cons (w_call (ok_size_of T) (hr.mono (by decide)) (passes_call (takes_of rfl rfl rfl rfl) fun _ _ _ _ h => h) ?_)
      tbr_iter "go"
      refine ⟨_, .leaf (some brokenD), rfl, .leaf (.dat (dp_same (((sf.trans sg).trans sh).trans si) hB) b2), nb2, .inl ⟨_, rfl⟩, fun d' e _ => ?_, fun z => lf b1 z⟩
      cases e
      intro Hj sj
      rw [b3]
      refine wa_nil ⟨four_line, fun qk Hk sk nk hqk => ?_⟩
      tbr_iter "go"
      refine ⟨zero_line, fun ql Hl sl nl' hql => ?_⟩
      tbr_iter "go"
      refine ⟨four_line, fun qm Hm sm nm hqm => ?_⟩
      have D3 : Dp K Hm (.ref qk) (.list [.int 1, .int 0, .tuple [], .int 1]) := .lst (SqL.of (sm _ _ (sl _ _ hqk))) (.cons (.int _) (.cons (.int _) (.cons (.tup (SqT.of (sm _ _ (sl _ _ (sk _ _ (sj _ _ hqi))))) .nil) (.cons (.int _) .nil))))
      have D4 : Dp K Hm (.ref qm) (.list [.int 1, .int 0, .tuple [], .int 1]) := .lst (SqL.of hqm) (.cons (.int _) (.cons (.int _) (.cons (.tup (SqT.of (sm _ _ hql)) .nil) (.cons (.int _) .nil))))
      exact cv_eqD hu D3 D4 (by decide +kernel) (by decide +kernel) (Ax.qb (k Hm) (by decide +kernel))
end
end Ax
end
section
set_option maxHeartbeats 0
namespace Ax
open PySem PySem.Spec PyProof.Rows L2
def fnL : List He.DefD := [⟨("is_name", none), "is_name", "is_name", defArgs s_is_name, defBody s_is_name, defScope s_is_name, [], []⟩, ⟨("is_row", none), "is_row", "is_row", defArgs s_is_row, defBody s_is_row, defScope s_is_row, [], []⟩, ⟨("is_unlike", none), "is_unlike", "is_unlike", defArgs s_is_unlike, defBody s_is_unlike, defScope s_is_unlike, [], []⟩, ⟨("is_atom", none), "is_atom", "is_atom", defArgs s_is_atom, defBody s_is_atom, defScope s_is_atom, [], []⟩, ⟨("is_head", none), "is_head", "is_head", defArgs s_is_head, defBody s_is_head, defScope s_is_head, [], []⟩, ⟨("is_formed", none), "is_formed", "is_formed", defArgs s_is_formed, defBody s_is_formed, defScope s_is_formed, [], []⟩, ⟨("parts_of", none), "parts_of", "parts_of", defArgs s_parts_of, defBody s_parts_of, defScope s_parts_of, [], []⟩, ⟨("size_of", none), "size_of", "size_of", defArgs s_size_of, defBody s_size_of, defScope s_size_of, [], []⟩, ⟨("height_of", none), "height_of", "height_of", defArgs s_height_of, defBody s_height_of, defScope s_height_of, [], []⟩, ⟨("choices_of", none), "choices_of", "choices_of", defArgs s_choices_of, defBody s_choices_of, defScope s_choices_of, [], []⟩, ⟨("_law_dice", none), "_law_dice", "_law_dice", defArgs s__law_dice, defBody s__law_dice, defScope s__law_dice, [], []⟩, ⟨("_law_roll", none), "_law_roll", "_law_roll", defArgs s__law_roll, defBody s__law_roll, defScope s__law_roll, [], []⟩, ⟨("_law_pick", none), "_law_pick", "_law_pick", defArgs s__law_pick, defBody s__law_pick, defScope s__law_pick, [], []⟩, ⟨("_law_any_atom", none), "_law_any_atom", "_law_any_atom", defArgs s__law_any_atom, defBody s__law_any_atom, defScope s__law_any_atom, [], []⟩, ⟨("_law_any_tree", none), "_law_any_tree", "_law_any_tree", defArgs s__law_any_tree, defBody s__law_any_tree, defScope s__law_any_tree, [], []⟩, ⟨("_law_size", none), "_law_size", "_law_size", defArgs s__law_size, defBody s__law_size, defScope s__law_size, [], []⟩, ⟨("_law_height", none), "_law_height", "_law_height", defArgs s__law_height, defBody s__law_height, defScope s__law_height, [], []⟩, ⟨("_law_chosen", none), "_law_chosen", "_law_chosen", defArgs s__law_chosen, defBody s__law_chosen, defScope s__law_chosen, [], []⟩, ⟨("_law_odd", none), "_law_odd", "_law_odd", defArgs s__law_odd, defBody s__law_odd, defScope s__law_odd, [], []⟩, ⟨("_law_spoilt", none), "_law_spoilt", "_law_spoilt", defArgs s__law_spoilt, defBody s__law_spoilt, defScope s__law_spoilt, [], []⟩, ⟨("_law_refused", none), "_law_refused", "_law_refused", defArgs s__law_refused, defBody s__law_refused, defScope s__law_refused, [], []⟩, ⟨("_law_right", none), "_law_right", "_law_right", defArgs s__law_right, defBody s__law_right, defScope s__law_right, [], []⟩, ⟨("law", none), "law", "law", defArgs s_law, defBody s_law, defScope s_law, [], []⟩]
def faL : List He.Fa := [.glo "is_name", .glo "is_row", .glo "is_unlike", .glo "is_atom", .glo "is_head", .glo "is_formed", .glo "parts_of", .glo "size_of", .glo "height_of", .glo "choices_of", .glo "_law_dice", .glo "_law_roll", .glo "_law_pick", .glo "_law_any_atom", .glo "_law_any_tree", .glo "_law_size", .glo "_law_height", .glo "_law_chosen", .glo "_law_odd", .glo "_law_spoilt", .glo "_law_refused", .glo "_law_right", .glo "law", .str "ALPHABET" "abcdefghijklmnopqrstuvwxyz", .int "MAX_LETTERS" 8, .int "MAX_COLUMNS" 3, .str "IN" "in", .str "OUT" "out", .str "UNLIKE" "unlike", .str "BROKEN" "broken", .str "FINE" "fine", .str "CHOOSE" "choose", .int "MOST_TREES" 6, .free "ValueError", .free "abs", .free "all", .free "int", .free "isinstance", .free "len", .free "max", .free "min", .free "range", .free "set", .free "sorted", .free "str", .free "sum", .free "tuple", .glo "AskError", .exc "AskError", .glo "InvalidOperation", .exc "InvalidOperation", .exm "AskError" "InvalidOperation" false, .exm "InvalidOperation" "InvalidOperation" true]
def loose0 : List PySem.Str := (["__name__", "AskError", "InvalidOperation", "ALPHABET", "MAX_LETTERS", "MAX_COLUMNS", "is_name", "is_row", "IN", "OUT", "UNLIKE", "is_unlike", "is_atom", "is_head", "BROKEN", "FINE", "CHOOSE", "MOST_TREES", "is_formed", "parts_of", "size_of", "height_of", "choices_of", "_law_dice", "_law_roll", "_law_pick", "_law_any_atom", "_law_any_tree", "_law_size", "_law_height", "_law_chosen", "_law_odd", "_law_spoilt", "_law_refused", "_law_right"] : List String).map Str.ofString
def loose : List PySem.Str := loose0
abbrev R : PySem.W.OpenRow := PySem.W.OpenLaw.row PySem.Challenge.rw_askable_k19_sizes_of_trees
def tfL : List He.Defn := [("_law_right", none)]
abbrev hk : PySem.W.Hook := He.hookX 4 faL fnL [] tfL fun _ => true
def ob (s : PySem.W.SharedT) : He.AlX := He.obsX 4 faL fnL [] tfL (fun _ => true) (HandSHeadRun.getT s)
theorem ob_eq (s : PySem.W.SharedT) : ob s = hk.obs s.abs := He.obsX_eq (HandSHeadRun.getT_eq s)
theorem run (w : World) : HandSHeadRun.RunEq R (PySem.W.view R.prog [39]) hk ob 9000 loose w := by
  intro os
  kernel_rfl
theorem txt_of {K : PySem.W.Frag} {h : Heap} {mg : Str → Option Value} (X : K.In h) (G : h.Ns mainGlobals mg) (c : He.SaysD faL fnL K) : Txt K mg where
  f_is_name := txtF_of (c.def_ 0) (He.glo_ok X G (c.fact 0 (f := .glo "is_name") rfl))
  f_is_row := txtF_of (c.def_ 1) (He.glo_ok X G (c.fact 1 (f := .glo "is_row") rfl))
  f_is_unlike := txtF_of (c.def_ 2) (He.glo_ok X G (c.fact 2 (f := .glo "is_unlike") rfl))
  f_is_atom := txtF_of (c.def_ 3) (He.glo_ok X G (c.fact 3 (f := .glo "is_atom") rfl))
  f_is_head := txtF_of (c.def_ 4) (He.glo_ok X G (c.fact 4 (f := .glo "is_head") rfl))
  f_is_formed := txtF_of (c.def_ 5) (He.glo_ok X G (c.fact 5 (f := .glo "is_formed") rfl))
  f_parts_of := txtF_of (c.def_ 6) (He.glo_ok X G (c.fact 6 (f := .glo "parts_of") rfl))
  f_size_of := txtF_of (c.def_ 7) (He.glo_ok X G (c.fact 7 (f := .glo "size_of") rfl))
  f_height_of := txtF_of (c.def_ 8) (He.glo_ok X G (c.fact 8 (f := .glo "height_of") rfl))
  f_choices_of := txtF_of (c.def_ 9) (He.glo_ok X G (c.fact 9 (f := .glo "choices_of") rfl))
  f__law_dice := txtF_of (c.def_ 10) (He.glo_ok X G (c.fact 10 (f := .glo "_law_dice") rfl))
  f__law_roll := txtF_of (c.def_ 11) (He.glo_ok X G (c.fact 11 (f := .glo "_law_roll") rfl))
  f__law_pick := txtF_of (c.def_ 12) (He.glo_ok X G (c.fact 12 (f := .glo "_law_pick") rfl))
  f__law_any_atom := txtF_of (c.def_ 13) (He.glo_ok X G (c.fact 13 (f := .glo "_law_any_atom") rfl))
  f__law_any_tree := txtF_of (c.def_ 14) (He.glo_ok X G (c.fact 14 (f := .glo "_law_any_tree") rfl))
  f__law_size := txtF_of (c.def_ 15) (He.glo_ok X G (c.fact 15 (f := .glo "_law_size") rfl))
  f__law_height := txtF_of (c.def_ 16) (He.glo_ok X G (c.fact 16 (f := .glo "_law_height") rfl))
  f__law_chosen := txtF_of (c.def_ 17) (He.glo_ok X G (c.fact 17 (f := .glo "_law_chosen") rfl))
  f__law_odd := txtF_of (c.def_ 18) (He.glo_ok X G (c.fact 18 (f := .glo "_law_odd") rfl))
  f__law_spoilt := txtF_of (c.def_ 19) (He.glo_ok X G (c.fact 19 (f := .glo "_law_spoilt") rfl))
  f__law_refused := txtF_of (c.def_ 20) (He.glo_ok X G (c.fact 20 (f := .glo "_law_refused") rfl))
  f__law_right := txtF_of (c.def_ 21) (He.glo_ok X G (c.fact 21 (f := .glo "_law_right") rfl))
  f_law := txtF_of (c.def_ 22) (He.glo_ok X G (c.fact 22 (f := .glo "law") rfl))
  c_ALPHABET := cS_of (He.str_ok X G (c.fact 23 (f := .str "ALPHABET" "abcdefghijklmnopqrstuvwxyz") rfl))
  c_MAX_LETTERS := cI_of (He.int_ok X G (c.fact 24 (f := .int "MAX_LETTERS" 8) rfl))
  c_MAX_COLUMNS := cI_of (He.int_ok X G (c.fact 25 (f := .int "MAX_COLUMNS" 3) rfl))
  c_IN := cS_of (He.str_ok X G (c.fact 26 (f := .str "IN" "in") rfl))
  c_OUT := cS_of (He.str_ok X G (c.fact 27 (f := .str "OUT" "out") rfl))
  c_UNLIKE := cS_of (He.str_ok X G (c.fact 28 (f := .str "UNLIKE" "unlike") rfl))
  c_BROKEN := cS_of (He.str_ok X G (c.fact 29 (f := .str "BROKEN" "broken") rfl))
  c_FINE := cS_of (He.str_ok X G (c.fact 30 (f := .str "FINE" "fine") rfl))
  c_CHOOSE := cS_of (He.str_ok X G (c.fact 31 (f := .str "CHOOSE" "choose") rfl))
  c_MOST_TREES := cI_of (He.int_ok X G (c.fact 32 (f := .int "MOST_TREES" 6) rfl))
  z_ValueError := He.free_ok X G (c.fact 33 (f := .free "ValueError") rfl)
  z_abs := He.free_ok X G (c.fact 34 (f := .free "abs") rfl)
  z_all := He.free_ok X G (c.fact 35 (f := .free "all") rfl)
  z_int := He.free_ok X G (c.fact 36 (f := .free "int") rfl)
  z_isinstance := He.free_ok X G (c.fact 37 (f := .free "isinstance") rfl)
  z_len := He.free_ok X G (c.fact 38 (f := .free "len") rfl)
  z_max := He.free_ok X G (c.fact 39 (f := .free "max") rfl)
  z_min := He.free_ok X G (c.fact 40 (f := .free "min") rfl)
  z_range := He.free_ok X G (c.fact 41 (f := .free "range") rfl)
  z_set := He.free_ok X G (c.fact 42 (f := .free "set") rfl)
  z_sorted := He.free_ok X G (c.fact 43 (f := .free "sorted") rfl)
  z_str := He.free_ok X G (c.fact 44 (f := .free "str") rfl)
  z_sum := He.free_ok X G (c.fact 45 (f := .free "sum") rfl)
  z_tuple := He.free_ok X G (c.fact 46 (f := .free "tuple") rfl)
  e_AskError := errC_of X G (c.fact 47 (f := .glo "AskError") rfl) (c.fact 48 (f := .exc "AskError") rfl)
  e_InvalidOperation := errC_of X G (c.fact 49 (f := .glo "InvalidOperation") rfl) (c.fact 50 (f := .exc "InvalidOperation") rfl)
  x_AskError_InvalidOperation := He.exm_ok (c.fact 51 (f := .exm "AskError" "InvalidOperation" false) rfl)
  x_InvalidOperation_InvalidOperation := He.exm_ok (c.fact 52 (f := .exm "InvalidOperation" "InvalidOperation" true) rfl)
theorem law_at {w : World} {K : PySem.W.Frag} {h : Heap} {mg : Str → Option Value} {fa : Addr} (X : K.In h) (G : h.Ns mainGlobals mg) (hfa : mg ("law" : Str) = some (.ref fa)) (c : He.SaysX faL fnL [] tfL (fun _ => true) w h K) :
    LamX.LawAtS PySem.Challenge.rw_askable_k19_sizes_of_trees w K (L2.CX PySem.Challenge.rw_askable_k19_sizes_of_trees.prog w) 14 63 "script" mg fa h := by
  have cd := c.t.d
  have T := txt_of X G cd
  have m0 : (("_law_right", none) : He.Defn) ∈ tfL := List.mem_cons_self
  have hh := c.hd _ m0
  obtain ⟨fdR, FR⟩ := cd.def_ 21 (d := fnL[21]) rfl
  have eR : He.codeOf K ("_law_right", none) = codeAt K (He.fAd K ("_law_right", none)) := rfl
  obtain ⟨fd, F⟩ := cd.def_ 22 (d := fnL[22]) rfl
  have e := hfa.symm.trans (He.glo_ok X G (cd.fact 22 (f := .glo "law") rfl))
  cases e
  have b := FunD.bindsA (ps := ["script"]) F fun _ _ _ _ _ _ us hl => match us, hl with | [_], _ => rfl
  refine ⟨fd, [He.cT K ("_law_right", none)], spLaw19 K (He.cT K ("_law_right", none)).2, ?_, ?_, ?_, fun s u => b s [u] rfl, ?_, ?_⟩
  · intro p hp
    rw [List.mem_singleton.mp hp]
    exact c.empty _ m0
  · intro p hp
    rw [List.mem_singleton.mp hp]
    exact c.out _ m0
  · intro p hp
    rw [List.mem_singleton.mp hp]
    exact PySem.W.codeHd_of_K X hh
  · intro H a ns hl _ ht hs
    exact ⟨a, ns, rfl, hs, hl, LamX.TabS.nil (ht _ List.mem_cons_self), fun _ => rfl⟩
  · intro base Kb Gb tb
    have TL : TxtL K mg base (He.cT K ("_law_right", none)).2 "_law_right" s__law_right := ⟨_, fdR, FR, He.glo_ok X G (cd.fact 21 (f := .glo "_law_right") rfl), tb _ List.mem_cons_self⟩
    exact ok_law T TL F
end Ax
open PySem PySem.W PySem.Calls PyProof.Rows
theorem sizes_of_trees_holds : PySem.Challenge.rw_askable_k19_sizes_of_trees.Holds := by
  w_on; o_law
  refine HandSHeadRun.head_any (r := OpenLaw.row PySem.Challenge.rw_askable_k19_sizes_of_trees) (q := view (OpenLaw.row PySem.Challenge.rw_askable_k19_sizes_of_trees).prog [39]) (H := Ax.hk) (ob := Ax.ob) (M := 9000) (loose := Ax.loose) (d := HandSHeadRun.topDef (OpenLaw.row PySem.Challenge.rw_askable_k19_sizes_of_trees).prog 39) (kwd := []) Ax.ob_eq
    (by kernel_rfl) (fun s => by kernel_rfl) Ax.run (by kernel_rfl) (by kernel_rfl) (by kernel_rfl) (by rfl) (by first | assumption | decide +kernel) (by decide +kernel) ⟨rfl, rfl, rfl, rfl, rfl, by decide +kernel⟩ ?hw ?hc
  case hw => w_witness2
  case hc =>
    refine LamX.walk_ofTsE (l := PySem.Challenge.rw_askable_k19_sizes_of_trees) (n := 63) (k := 14) (x := "script") (CX := L2.CX PySem.Challenge.rw_askable_k19_sizes_of_trees.prog) rfl (by decide) (by kernel_rfl) ⟨rfl, by decide, by decide⟩ ?F ?hx
    case hx =>
      intro w H s e s' z
      obtain ⟨_, _, _, _, _, _, _, _, _, _, _, _, z⟩ := z
      exact z.elim
    case F =>
      intro w mg fa h Y G hmg0
      obtain ⟨K, KX, c⟩ := Y
      have hmg : mg ("law" : PySem.Str) = some (.ref fa) := by
        have e : (HandSHeadRun.topDef (OpenLaw.row PySem.Challenge.rw_askable_k19_sizes_of_trees).prog 39).name = ("law" : PySem.Str) := by kernel_rfl
        rw [← e]
        exact hmg0
      exact ⟨K, KX, Ax.law_at KX G hmg c⟩
end
theorem PySem.Challenge.cw_askable_k19_sizes_of_trees_holds : PySem.Challenge.rw_askable_k19_sizes_of_trees.Holds :=
  sizes_of_trees_holds
