import PyProof.Rows.All
import Wide.All
import OpenK.AllK
import Wide.FinOn
import PyProof.EqAt
import PyProof.EqKinds
import PyProof.TupleCall
import HandS.ForMost
import HandS.Exc
import HandS.ExcOwn
import HandS.WordsExc
import HandS.TryOnly
import HandS.Walk
import HandS.IsInst
import HandS.Flow
import HandS.Wide
import HandS.Defaults
import KE.KTreeR
import HandS.HeadNt
import HandS.DictComp
import HandS.Lambda
import HandS.TupAny
import HandS.TupMul
import HandS.DictSub
import KE.DatumOrd
import HandS.Star
import HandS.ClsMeth
import HandS.Property
import KE.SortData
import HandS.Conv
import PyProof.EnumMake
import PyProof.Draws
import HandS.Zip
import HandS.FStr
import HandS.HeadHook4
import HandS.Small
import HandS.Strs
import PyProof.TupleOfSeq
import HandS.Style
import PySem.Challenge.RW_askable_k06_languages
import HandS.Head0
import HandS.Head1
import HandS.Head2
import HandS.HeadEnd
import HandS.HeadWalk
import HandS.NestedK
import KE.KStateDown
import KE.KNestM
set_option Elab.async false
set_option linter.all false
set_option maxRecDepth 100000
section
set_option maxHeartbeats 2000000
namespace Ax
open PySem PySem.Spec PyProof.Rows L2

/-! ### the builtins by their names -/
theorem b_len : bootBuiltins (Str.ofString "len") = some (.builtin "len") := by decide +kernel
theorem b_all : bootBuiltins (Str.ofString "all") = some (.builtin "all") := by decide +kernel
theorem b_any : bootBuiltins (Str.ofString "any") = some (.builtin "any") := by decide +kernel
theorem b_sorted : bootBuiltins (Str.ofString "sorted") = some (.builtin "sorted") := by decide +kernel
theorem b_isinstance : bootBuiltins (Str.ofString "isinstance") = some (.builtin "isinstance") := by decide +kernel
theorem b_abs : bootBuiltins (Str.ofString "abs") = some (.builtin "abs") := by decide +kernel
theorem b_max : bootBuiltins (Str.ofString "max") = some (.builtin "max") := by decide +kernel
theorem b_min : bootBuiltins (Str.ofString "min") = some (.builtin "min") := by decide +kernel
theorem b_sum : bootBuiltins (Str.ofString "sum") = some (.builtin "sum") := by decide +kernel
theorem b_repr : bootBuiltins (Str.ofString "repr") = some (.builtin "repr") := by decide +kernel
theorem b_iter : bootBuiltins (Str.ofString "iter") = some (.builtin "iter") := by decide +kernel
theorem b_ord : bootBuiltins (Str.ofString "ord") = some (.builtin "ord") := by decide +kernel
theorem b_chr : bootBuiltins (Str.ofString "chr") = some (.builtin "chr") := by decide +kernel
theorem b_str : bootBuiltins (Str.ofString "str") = some (.type "str") := by decide +kernel
theorem b_int : bootBuiltins (Str.ofString "int") = some (.type "int") := by decide +kernel
theorem b_bool : bootBuiltins (Str.ofString "bool") = some (.type "bool") := by decide +kernel
theorem b_tuple : bootBuiltins (Str.ofString "tuple") = some (.type "tuple") := by decide +kernel
theorem b_list : bootBuiltins (Str.ofString "list") = some (.type "list") := by decide +kernel
theorem b_dict : bootBuiltins (Str.ofString "dict") = some (.type "dict") := by decide +kernel
theorem b_set : bootBuiltins (Str.ofString "set") = some (.type "set") := by decide +kernel
theorem b_range : bootBuiltins (Str.ofString "range") = some (.type "range") := by decide +kernel
theorem b_enumerate : bootBuiltins (Str.ofString "enumerate") = some (.type "enumerate") := by decide +kernel
theorem b_zip : bootBuiltins (Str.ofString "zip") = some (.type "zip") := by decide +kernel
/-! ### the weakest precondition of a piece of syntax -/
structure W (X : Cx) (e : Expr) (σ : L2.St) (H : Hp) (Q : VK) : Prop where
  run : ∀ (pins : List (Addr × Obj)) (s : Shared), Inv X pins σ H s → wpAny (model X.prog X.w) X.A (eval e X.env) (EP X pins σ Q) X.xe s
structure WT (X : Cx) (e : Expr) (σ : L2.St) (H : Hp) (Q : Bool → Hp → Prop) : Prop where
  run : ∀ (pins : List (Addr × Obj)) (s : Shared), Inv X pins σ H s → wpAny (model X.prog X.w) X.A (isTrue e X.env (eval e X.env)) (TP X pins σ Q) X.xe s
structure WW (X : Cx) (e : Expr) (σ : L2.St) (H : Hp) (Q : Bool → Hp → Prop) : Prop where
  run : ∀ (whole : Sem Value) (pins : List (Addr × Obj)) (s : Shared), Inv X pins σ H s → wpAny (model X.prog X.w) X.A (isTrue e X.env whole) (TP X pins σ Q) X.xe s
structure WA (X : Cx) (es : List Expr) (σ : L2.St) (H : Hp) (Q : List V → Hp → Prop) : Prop where
  run : ∀ (pos : Pos) (pins : List (Addr × Obj)) (s : Shared), Inv X pins σ H s → wpAny (model X.prog X.w) X.A (spliced (backTo pos (starEach es X.env))) (AP X pins σ Q) X.xe s
structure WS (X : Cx) (st : Stmt) (D : Ends) (σ : L2.St) (H : Hp) : Prop where
  run : ∀ (pins : List (Addr × Obj)) (s : Shared), Inv X pins σ H s → wpAny (model X.prog X.w) X.A (exec st X.env) (SP X pins D) X.xe s
structure WB (X : Cx) (st : List Stmt) (D : Ends) (σ : L2.St) (H : Hp) : Prop where
  run : ∀ (pins : List (Addr × Obj)) (s : Shared), Inv X pins σ H s → wpAny (model X.prog X.w) X.A (execs st X.env) (SP X pins D) X.xe s
section
variable {X : Cx} {e a b : Expr} {es : List Expr} {st : Stmt} {bl : List Stmt} {te : TE} {tt : TT} {ta : TA} {ts : TS} {σ : L2.St} {H : Hp} {Q : VK} {D : Ends} {pos : Pos}
theorem W.pe : PE X e (W X e) := ⟨fun pins s _ _ _ I h => h.run pins s I⟩
theorem WT.pt : PT X e (WT X e) := ⟨fun pins s _ _ _ I h => h.run pins s I⟩
theorem WW.pw : PW X e (WW X e) := ⟨fun wh pins s _ _ _ I h => h.run wh pins s I⟩
theorem WA.pa : PA X es (WA X es) := ⟨fun pos pins s _ _ _ I h => h.run pos pins s I⟩
theorem WS.ps : PS X st (WS X st) := ⟨fun pins s _ _ _ I h => h.run pins s I⟩
theorem WB.pss : PSs X bl (WB X bl) := ⟨fun pins s _ _ _ I h => h.run pins s I⟩
theorem W.of (h : PE X e te) (q : te σ H Q) : W X e σ H Q := ⟨fun pins s I => h.run pins s σ H Q I q⟩
theorem WT.of {Q : Bool → Hp → Prop} (h : PT X e tt) (q : tt σ H Q) : WT X e σ H Q := ⟨fun pins s I => h.run pins s σ H Q I q⟩
theorem WW.of {Q : Bool → Hp → Prop} (h : PW X e tt) (q : tt σ H Q) : WW X e σ H Q := ⟨fun wh pins s I => h.run wh pins s σ H Q I q⟩
theorem WA.of {Q : List V → Hp → Prop} (h : PA X es ta) (q : ta σ H Q) : WA X es σ H Q := ⟨fun pos pins s I => h.run pos pins s σ H Q I q⟩
theorem WS.of (h : PS X st ts) (q : ts D σ H) : WS X st D σ H := ⟨fun pins s I => h.run pins s σ H D I q⟩
theorem WB.of (h : PSs X bl ts) (q : ts D σ H) : WB X bl D σ H := ⟨fun pins s I => h.run pins s σ H D I q⟩
theorem W.mono {Q' : VK} (h : W X e σ H Q) (k : ∀ v H', Q v H' → Q' v H') : W X e σ H Q' := ⟨fun pins s I => thn (h.run pins s I) fun _ _ ⟨v, H', J, r, q⟩ => ⟨v, H', J, r, k v H' q⟩⟩
theorem WT.mono {Q Q' : Bool → Hp → Prop} (h : WT X e σ H Q) (k : ∀ v H', Q v H' → Q' v H') : WT X e σ H Q' := ⟨fun pins s I => thn (h.run pins s I) fun _ _ ⟨H', J, q⟩ => ⟨H', J, k _ H' q⟩⟩
theorem WA.mono {Q Q' : List V → Hp → Prop} (h : WA X es σ H Q) (k : ∀ v H', Q v H' → Q' v H') : WA X es σ H Q' := ⟨fun pos pins s I => thn (h.run pos pins s I) fun _ _ ⟨v, H', J, r, q⟩ => ⟨v, H', J, r, k v H' q⟩⟩
/-! ### names, constants -/
theorem w_var (i : Nat) {x : Str} {v : V} (hN : X.N[i]? = some x) (hv : Vis X.env.scope x) (hs : σ[i]? = some (some v)) (h : Q v H) (hd : (x == ("__debug__" : Str)) = false := by decide) (hcd : (x == ("__classdict__" : Str)) = false := by decide) :
    W X (.Name x pos) σ H Q := W.of (pe_var hN hv hd hcd) ⟨v, hs, h⟩
theorem w_int {i j} (h : Q (.int i) H) : W X (.Constant (.int i) j pos) σ H Q := W.of pe_int h
theorem w_str {x j} (h : Q (.str x) H) : W X (.Constant (.str x) j pos) σ H Q := W.of pe_str h
theorem w_bl {x j} (h : Q (.bl x) H) : W X (.Constant (.bool x) j pos) σ H Q := W.of pe_bl h
theorem w_non {j} (h : Q .non H) : W X (.Constant .none j pos) σ H Q := W.of pe_non h
theorem w_glob {x : Str} {v : V} (hm : ∃ u, X.mg x = some u ∧ RelV v u) (h : Q v H) (hg : Gl X x := by rfl) (hd : (x == ("__debug__" : Str)) = false := by decide) : W X (.Name x pos) σ H Q := by
  obtain ⟨u, hm, r⟩ := hm
  exact W.of (pe_glob hg hm r hd) h
theorem w_bltT {T : String} (hm : X.mg (Str.ofString T) = none) (h : Q (.ty T) H) (hv : bootBuiltins (Str.ofString T) = some (.type T) := by tbr_iter "boot") (hg : Gl X (Str.ofString T) := by rfl) (hn : (Str.ofString T) ≠ "__name__" := by decide)
    (hd : ((Str.ofString T) == ("__debug__" : Str)) = false := by decide) : W X (.Name (Str.ofString T) pos) σ H Q := W.of (pe_bltn (v := .ty T) hg hm hv rfl hn hd) h
/-! ### operators: the rule is chosen behind the operands -/
structure BinV (X : Cx) (op : Operator) (x y : V) (H : Hp) (Q : VK) : Prop where
  ex : ∃ r : R2, OpR X (binaryOp op) r ∧ r x y H Q
structure CmpV (X : Cx) (op : CmpOp) (x y : V) (H : Hp) (Q : VK) : Prop where
  ex : ∃ r : R2, OpR X (compareOp op) r ∧ r x y H Q
structure UnV (X : Cx) (op : UnaryOp) (x : V) (H : Hp) (Q : VK) : Prop where
  ex : ∃ r : V → Hp → VK → Prop, UnR X (unaryOp op) r ∧ r x H Q
structure IxV (X : Cx) (x y : V) (H : Hp) (Q : VK) : Prop where
  ex : ∃ r : R2, IxR X r ∧ r x y H Q
structure CallV (X : Cx) (f : Value) (vs : List V) (H : Hp) (Q : VK) : Prop where
  ex : ∃ r : List V → Hp → VK → Prop, CallR X f r ∧ r vs H Q
structure MtV (X : Cx) (id : String) (x : V) (vs : List V) (H : Hp) (Q : VK) : Prop where
  ex : ∃ r : V → List V → Hp → VK → Prop, MtR X id r ∧ r x vs H Q
theorem binV_r {op : Operator} : OpR X (binaryOp op) (BinV X op) := fun pins s σ H x y v u Q I rx ry ⟨_, ho, h⟩ => ho pins s σ H x y v u Q I rx ry h
theorem cmpV_r {op : CmpOp} : OpR X (compareOp op) (CmpV X op) := fun pins s σ H x y v u Q I rx ry ⟨_, ho, h⟩ => ho pins s σ H x y v u Q I rx ry h
theorem unV_r {op : UnaryOp} : UnR X (unaryOp op) (UnV X op) := fun pins s σ H x v Q I rx ⟨_, ho, h⟩ => ho pins s σ H x v Q I rx h
theorem ixV_r : IxR X (IxV X) := fun a b pins s σ H x y v u Q I rx ry ⟨_, ho, h⟩ z => ho a b pins s σ H x y v u Q I rx ry h z
theorem callV_r {f : Value} : CallR X f (CallV X f) := fun pins s σ H xs us Q I r ⟨_, ho, h⟩ => ho pins s σ H xs us Q I r h
theorem mtV_r {id : String} : MtR X id (MtV X id) := fun pins s σ H x xs v us Q I rx r ⟨_, ho, h⟩ => ho pins s σ H x xs v us Q I rx r h
theorem w_bin {op : Operator} (h : W X a σ H fun x H1 => W X b σ H1 fun y H2 => BinV X op x y H2 Q) : W X (.BinOp a op b pos) σ H Q := W.of (pe_op binV_r W.pe W.pe) h
theorem w_un {op : UnaryOp} (h : W X a σ H fun x H1 => UnV X op x H1 Q) : W X (.UnaryOp op a pos) σ H Q := W.of (pe_un unV_r W.pe) h
theorem w_cmp {op : CmpOp} (h : W X a σ H fun x H1 => W X b σ H1 fun y H2 => CmpV X op x y H2 Q) (hm : behindInMarks op b = false := by rfl) : W X (.Compare a [op] [b] pos) σ H Q := W.of (pe_cmpR cmpV_r W.pe W.pe hm) h
theorem wt_cmp {op : CmpOp} {Q : Bool → Hp → Prop} (h : W X a σ H fun x H1 => W X b σ H1 fun y H2 => CmpV X op x y H2 fun z H3 => ∃ c, z = .bl c ∧ Q c H3) (hm : behindInMarks op b = false := by rfl) : WT X (.Compare a [op] [b] pos) σ H Q :=
  WT.of (pt_cmpR cmpV_r W.pe W.pe hm) h
theorem w_chain {c : Expr} {op op' : CmpOp} (h : W X a σ H fun x H1 => W X b σ H1 fun y H2 => CmpV X op x y H2 fun z H3 => ∃ k, z = .bl k ∧ (if k = true then W X c σ H3 fun w' H4 => CmpV X op' y w' H4 Q else Q (.bl false) H3))
    (hm : lastMarks [op, op'] [b, c] = false := by with_unfolding_all rfl) : W X (.Compare a [op, op'] [b, c] pos) σ H Q := W.of (pe_chain cmpV_r cmpV_r W.pe W.pe W.pe hm) h
theorem w_ix (h : W X a σ H fun x H1 => W X b σ H1 fun y H2 => IxV X x y H2 Q) (hs : PlainIx b := by exact fun _ _ => rfl) : W X (.Subscript a b pos) σ H Q := W.of (pe_ix ixV_r W.pe W.pe hs) h
theorem w_ifExp {c : Expr} (h : WT X c σ H fun k H1 => if k = true then W X a σ H1 Q else W X b σ H1 Q) : W X (.IfExp c a b pos) σ H Q := W.of (pe_ifExp WT.pt W.pe W.pe) h
theorem w_and {rest : List Expr} (h : W X a σ H fun x H1 => ∃ c, x = .bl c ∧ if c = true then W X (.BoolOp .And (b :: rest) pos) σ H1 Q else Q (.bl false) H1) : W X (.BoolOp .And (a :: b :: rest) pos) σ H Q := W.of (pe_and W.pe W.pe) h
theorem w_or {rest : List Expr} (h : W X a σ H fun x H1 => ∃ c, x = .bl c ∧ if c = true then Q (.bl true) H1 else W X (.BoolOp .Or (b :: rest) pos) σ H1 Q) : W X (.BoolOp .Or (a :: b :: rest) pos) σ H Q := W.of (pe_or W.pe W.pe) h
theorem w_one {op} (h : W X a σ H Q) : W X (.BoolOp op [a] pos) σ H Q := W.of (pe_one W.pe) h
theorem w_not (h : W X a σ H fun x H1 => ∃ c, x = .bl c ∧ Q (.bl (!c)) H1) : W X (.UnaryOp .Not a pos) σ H Q := W.of (pe_not W.pe) h
/-! ### tests -/
section
variable {Q : Bool → Hp → Prop}
theorem wt_val (h : W X e σ H fun x H1 => ∃ c, x = .bl c ∧ Q c H1) (he : ∀ whole, isTrue e X.env whole = (do let v ← whole; standAt e.pos; holding [v] (truthy v)) := by intro _; rfl) : WT X e σ H Q := WT.of (pt_val W.pe he) h
theorem wt_truth (h : W X e σ H fun x H1 => ∃ k, TruV X.K x H1 k ∧ Q k H1) (he : ∀ whole, isTrue e X.env whole = (do let v ← whole; standAt e.pos; holding [v] (truthy v)) := by intro _; rfl) : WT X e σ H Q := WT.of (pt_truth W.pe he) h
theorem wt_not (h : WT X a σ H fun c H1 => Q (!c) H1) : WT X (.UnaryOp .Not a pos) σ H Q := WT.of (pt_not WT.pt) h
theorem wt_bool {op} {es : List Expr} (h : WW X (.BoolOp op es pos) σ H Q) : WT X (.BoolOp op es pos) σ H Q := ⟨fun pins s I => h.run _ pins s I⟩
theorem ww_and {rest : List Expr} (h : WT X a σ H fun c H1 => if c = true then WW X (.BoolOp .And (b :: rest) pos) σ H1 Q else Q false H1) : WW X (.BoolOp .And (a :: b :: rest) pos) σ H Q := WW.of (pw_and WT.pt WW.pw) h
theorem ww_and1 (h : WT X a σ H Q) : WW X (.BoolOp .And [a] pos) σ H Q := WW.of (pw_and1 WT.pt) h
theorem ww_or {rest : List Expr} (h : WT X a σ H fun c H1 => if c = true then Q true H1 else WW X (.BoolOp .Or (b :: rest) pos) σ H1 Q) : WW X (.BoolOp .Or (a :: b :: rest) pos) σ H Q := WW.of (pw_or WT.pt WW.pw) h
theorem ww_or1 (h : WT X a σ H Q) : WW X (.BoolOp .Or [a] pos) σ H Q := WW.of (pw_or1 WT.pt) h
end
/-! ### arguments, displays -/
theorem wa_nil {Q : List V → Hp → Prop} (h : Q [] H) : WA X [] σ H Q := WA.of pa_nil h
theorem wa_cons {Q : List V → Hp → Prop} (h : W X e σ H fun x H1 => WA X es σ H1 fun xs H2 => Q (x :: xs) H2) (hs : starEach (e :: es) X.env = (false, eval e X.env) :: starEach es X.env := by rfl) : WA X (e :: es) σ H Q := WA.of (pa_cons W.pe WA.pa hs) h
theorem w_tup {x1} (h : WA X es σ H fun xs H1 => xs.length ≤ sizeLine ∧ ∀ p H2, Same H1 H2 → H1 p = none → H2 p = some (.tup xs) → Q (.ref p) H2) : W X (.Tuple es x1 pos) σ H Q :=
  W.of (pe_tup WA.pa) (show WA X es σ H _ from WA.mono h fun xs H1 ⟨z, k⟩ => ⟨z, fun p hp => k p _ (fun b o eb => by rw [upd_ne (ne_of_none eb hp)]; exact eb) hp upd_same⟩)
theorem w_lst (h : WA X es σ H fun xs H1 => xs.length ≤ sizeLine ∧ ∀ p H2, Same H1 H2 → H1 p = none → H2 p = some (.lst xs) → Q (.ref p) H2) : W X (.List es pos) σ H Q :=
  W.of (pe_lst WA.pa) (show WA X es σ H _ from WA.mono h fun xs H1 ⟨z, k⟩ => ⟨z, fun p hp => k p _ (fun b o eb => by rw [upd_ne (ne_of_none eb hp)]; exact eb) hp upd_same⟩)
/-! ### calls of builtins by name -/
theorem w_callB {id : String} {p : Pos} (hm : X.mg (Str.ofString id) = none) (h : WA X (e :: es) σ H fun vs H1 => CallV X (.builtin id) vs H1 Q) (hv : bootBuiltins (Str.ofString id) = some (.builtin id) := by tbr_iter "boot") (hg : Gl X (Str.ofString id) := by rfl) (hn : (Str.ofString id) ≠ "__name__" := by decide)
    (hdb : ((Str.ofString id) == ("__debug__" : Str)) = false := by decide) (he : starEach (e :: es) X.env = (false, eval e X.env) :: starEach es X.env := by rfl) (hpl : (backTo pos (starEach es X.env)).any (·.1) = false := by rfl) : W X (.Call (.Name (Str.ofString id) p) (e :: es) [] pos) σ H Q :=
  W.of (pe_callB callV_r hg hm hv WA.pa hn hdb he hpl) h
theorem w_callTy {T : String} {p : Pos} (hm : X.mg (Str.ofString T) = none) (h : WA X (e :: es) σ H fun vs H1 => CallV X (.type T) vs H1 Q) (hv : bootBuiltins (Str.ofString T) = some (.type T) := by tbr_iter "boot") (hg : Gl X (Str.ofString T) := by rfl) (hn : (Str.ofString T) ≠ "__name__" := by decide)
    (hdb : ((Str.ofString T) == ("__debug__" : Str)) = false := by decide) (he : starEach (e :: es) X.env = (false, eval e X.env) :: starEach es X.env := by rfl) (hpl : (backTo pos (starEach es X.env)).any (·.1) = false := by rfl) : W X (.Call (.Name (Str.ofString T) p) (e :: es) [] pos) σ H Q :=
  W.of (pe_callTy callV_r hg hm hv WA.pa hn hdb he hpl) h
end
end Ax
end
section
set_option maxHeartbeats 2000000
namespace Ax
open PySem PySem.Spec PyProof.Rows L2

/-! ### heaps: what stands -/
/-- all but lists, dicts and soft things stand -/
def softO : HO → Bool
  | .lst _ => true
  | .dK _ => true
  | .dT _ => true
  | .set _ _ => true
  | .tbl _ => true
  | .ext _ => true
  | _ => false
def Sl (H H' : Hp) : Prop := ∀ a o, H a = some o → softO o = false → H' a = some o
theorem Sl.refl (H : Hp) : Sl H H := fun _ _ h _ => h
theorem Sl.trans {H H1 H2 : Hp} (a : Sl H H1) (b : Sl H1 H2) : Sl H H2 := fun c o h n => b c o (a c o h n) n
theorem Sl.of {H H' : Hp} (e : Same H H') : Sl H H' := fun b o h _ => e b o h
theorem Sl.lst {H H' : Hp} {p : Addr} {xs ys : List V} (e : Sl H H') (h : H' p = some (.lst xs)) : Sl H (upd H' p (.lst ys)) := fun a o ha hs => by
  have h1 := e a o ha hs
  by_cases z : a = p
  · rw [z, h] at h1
    cases h1
    cases hs
  · rw [upd_ne z]
    exact h1
theorem Sl.upd {H H' : Hp} {p : Addr} {o u : HO} (e : Sl H H') (h : H' p = some o) (hs : softO o = true) : Sl H (upd H' p u) := fun a v ha hv => by
  have h1 := e a v ha hv
  by_cases z : a = p
  · rw [z, h] at h1
    cases h1
    rw [hs] at hv
    cases hv
  · rw [upd_ne z]
    exact h1
theorem Sl.tup {K : PySem.W.Frag} {H H' : Hp} {a : Addr} {xs : List V} (e : Sl H H') (h : SqT K H a xs) : SqT K H' a xs := by
  rcases h with (h | ⟨o, h⟩) | h
  · exact .inl (.inl (e _ _ h rfl))
  · exact .inl (.inr ⟨o, e _ _ h rfl⟩)
  · exact .inr h
theorem same_tup {K : PySem.W.Frag} {H H' : Hp} {a : Addr} {xs : List V} (e : Same H H') (h : SqT K H a xs) : SqT K H' a xs := Sl.tup (Sl.of e) h
theorem same_upd {H H' : Hp} {p : Addr} {o : HO} (e : Same H H') (n : H p = none) : Same H (upd H' p o) := fun a u ha => by
  rw [upd_ne (ne_of_none ha n)]
  exact e a u ha
theorem same_new {H : Hp} {p : Addr} {o : HO} (n : H p = none) : Same H (upd H p o) := same_upd (Same.refl H) n
theorem same_nul {H H' : Hp} {p : Addr} (e : Same H H') (h : H' p = none) : H p = none := Same.free e h
/-! ### data -/
mutual
theorem dp_same {K : PySem.W.Frag} {H H' : Hp} (s : Same H H') : ∀ {d : PyData} {v : V}, Dp K H v d → Dp K H' v d
  | .none, _, h => by cases h; exact .non
  | .bool _, _, h => by cases h; exact .bl _
  | .int _, _, h => by cases h; exact .int _
  | .str _, _, h => by cases h; exact .str _
  | .list ds, _, h => by
    cases h with
    | lst hs ha => exact .lst (s.seq hs) (dpa_same s ha)
  | .tuple ds, _, h => by
    cases h with
    | tup hs ha => exact .tup (same_tup s hs) (dpa_same s ha)
  | .dict _, _, h => by cases h
theorem dpa_same {K : PySem.W.Frag} {H H' : Hp} (s : Same H H') : ∀ {ds : List PyData} {vs : List V}, DpAll K H vs ds → DpAll K H' vs ds
  | [], _, h => by cases h; exact .nil
  | d :: ds, _, h => by
    cases h with
    | cons h1 h2 => exact .cons (dp_same s h1) (dpa_same s h2)
end
mutual
def hard : PyData → Bool
  | .list _ => false
  | .tuple ds => hardAll ds
  | .dict _ => false
  | _ => true
def hardAll : List PyData → Bool
  | [] => true
  | d :: ds => hard d && hardAll ds
end
mutual
theorem dp_sl {K : PySem.W.Frag} {H H' : Hp} (s : Sl H H') : ∀ {d : PyData} {v : V}, hard d = true → Dp K H v d → Dp K H' v d
  | .none, _, _, h => by cases h; exact .non
  | .bool _, _, _, h => by cases h; exact .bl _
  | .int _, _, _, h => by cases h; exact .int _
  | .str _, _, _, h => by cases h; exact .str _
  | .list ds, _, hd, h => by simp [hard] at hd
  | .tuple ds, _, hd, h => by
    cases h with
    | tup hs ha => exact .tup (s.tup hs) (dpa_sl s (by simpa [hard] using hd) ha)
  | .dict _, _, _, h => by cases h
theorem dpa_sl {K : PySem.W.Frag} {H H' : Hp} (s : Sl H H') : ∀ {ds : List PyData} {vs : List V}, hardAll ds = true → DpAll K H vs ds → DpAll K H' vs ds
  | [], _, _, h => by cases h; exact .nil
  | d :: ds, _, hd, h => by
    cases h with
    | cons h1 h2 =>
      have z : hard d = true ∧ hardAll ds = true := by simpa [hardAll] using hd
      exact .cons (dp_sl s z.1 h1) (dpa_sl s z.2 h2)
end
theorem dpa_len {K : PySem.W.Frag} {H : Hp} : ∀ {ds : List PyData} {vs : List V}, DpAll K H vs ds → vs.length = ds.length
  | [], _, h => by cases h; rfl
  | d :: ds, _, h => by
    cases h with
    | cons h1 h2 => simp [dpa_len h2]
theorem dpa_get {K : PySem.W.Frag} {H : Hp} : ∀ {ds : List PyData} {vs : List V} {i : Nat} {v : V}, DpAll K H vs ds → vs[i]? = some v → ∃ d, ds[i]? = some d ∧ Dp K H v d
  | [], _, i, v, h, e => by cases h; simp at e
  | d :: ds, _, i, v, h, e => by
    cases h with
    | cons h1 h2 =>
      cases i with
      | zero => simp at e; subst e; exact ⟨d, rfl, h1⟩
      | succ i =>
        obtain ⟨d', e1, e2⟩ := dpa_get (i := i) h2 (by simpa using e)
        exact ⟨d', by simpa using e1, e2⟩
theorem dpa_getD {K : PySem.W.Frag} {H : Hp} : ∀ {ds : List PyData} {vs : List V} {i : Nat} {d : PyData}, DpAll K H vs ds → ds[i]? = some d → ∃ v, vs[i]? = some v ∧ Dp K H v d
  | [], _, i, v, h, e => by simp at e
  | d :: ds, _, i, v, h, e => by
    cases h with
    | cons h1 h2 =>
      cases i with
      | zero => simp at e; subst e; exact ⟨_, rfl, h1⟩
      | succ i =>
        obtain ⟨d', e1, e2⟩ := dpa_getD (i := i) h2 (by simpa using e)
        exact ⟨d', by simpa using e1, e2⟩
theorem dpa_app {K : PySem.W.Frag} {H : Hp} : ∀ {ds es : List PyData} {vs us : List V}, DpAll K H vs ds → DpAll K H us es → DpAll K H (vs ++ us) (ds ++ es)
  | [], _, _, _, h, g => by cases h; exact g
  | d :: ds, _, _, _, h, g => by
    cases h with
    | cons h1 h2 => exact .cons h1 (dpa_app h2 g)
theorem dpa_one {K : PySem.W.Frag} {H : Hp} {v : V} {d : PyData} (h : Dp K H v d) : DpAll K H [v] [d] := .cons h .nil
/-! ### a def that can be called -/
structure Callee (P : Program) (w : World) (K : PySem.W.Frag) (mg : Str → Option Value) (base : Heap) (x : Str) (k : Nat) (ps : List Str) (sp : Sp) : Prop where
  ex : ∃ f fd, FnOk P w K mg base (L2.CX P w) k f fd ps sp ∧ Binds K fd ps [] ∧ mg x = some (.ref f) ∧ PySem.W.keepIn K (.ref f) = true
section
variable {X : Cx} {e a b : Expr} {es : List Expr} {st : Stmt} {bl rest : List Stmt} {σ : L2.St} {H : Hp} {Q : VK} {D : Ends} {pos : Pos}
theorem w_call {x : Str} {k : Nat} {ps : List Str} {sp : Sp} {p : Pos} {E : XK} (C : Callee X.prog X.w X.K X.mg X.base x k ps sp) (hr : Room k X.A) (hx : Passes (L2.CX X.prog X.w) X E) (h : WA X (e :: es) σ H fun vs H1 => sp vs H1 Q E) (hg : Gl X x := by rfl)
    (hdb : (x == ("__debug__" : Str)) = false := by decide) (he : starEach (e :: es) X.env = (false, eval e X.env) :: starEach es X.env := by rfl) (hpl : (backTo pos (starEach es X.env)).any (·.1) = false := by rfl) : W X (.Call (.Name x p) (e :: es) [] pos) σ H Q := by
  obtain ⟨f, fd, F, B, hm, hk⟩ := C.ex
  refine W.of (pe_call F hr hg hm hk B .nil hx WA.pa hdb he hpl) ?_
  show WA X (e :: es) σ H _
  exact WA.mono h fun vs H1 q => by rw [List.append_nil]; exact q
/-! ### statements -/
theorem wb_nil (h : D.nx σ H) : WB X [] D σ H := WB.of pss_nil h
theorem wb_cons (h : WS X st { D with nx := WB X rest D } σ H) : WB X (st :: rest) D σ H := WB.of (pss_cons WS.ps WB.pss) h
theorem ws_ret (h : W X e σ H D.rt) : WS X (.Return (some e) pos) D σ H := WS.of (ps_ret W.pe) h
theorem ws_retN (h : D.rt .non H) : WS X (.Return none pos) D σ H := WS.of ps_retN h
theorem ws_pass (h : D.nx σ H) : WS X (.Pass pos) D σ H := WS.of ps_pass h
theorem ws_break (h : D.bk σ H) : WS X (.Break pos) D σ H := WS.of ps_break h
theorem ws_continue (h : D.ct σ H) : WS X (.Continue pos) D σ H := WS.of ps_continue h
theorem ws_expr (h : W X e σ H fun _ H1 => D.nx σ H1) (hs : swapsWith e none pos.line X.env = pure false := by rfl) : WS X (.Expr e pos) D σ H := WS.of (ps_expr W.pe hs) h
theorem ws_if {c : Expr} {u v : List Stmt} (h : WT X c σ H fun k H1 => if k = true then WB X u D σ H1 else WB X v D σ H1) : WS X (.If c u v pos) D σ H := WS.of (ps_if WT.pt WB.pss WB.pss) h
theorem ws_set (i : Nat) {x : Str} {p2 : Pos} (h : W X e σ H fun v H1 => D.nx (σ.set i (some v)) H1) (hi : X.N[i]? = some x) (hN : X.N.Nodup) (hx : Loc X.env.scope x := by first | exact Or.inl rfl | exact Or.inr rfl)
    (hs : swapsWith e (some (.Name x p2)) pos.line X.env = pure false := by rfl) (hf : X.fn x = true ∨ X.env.scope.names.lookup x = some .local := by first | exact Or.inl rfl | exact Or.inr rfl) : WS X (.Assign [.Name x p2] e pos) D σ H :=
  WS.of (ps_set hN hi hx W.pe hs hf) h
structure SetV (X : Cx) (o i v : V) (H : Hp) (Q : Hp → Prop) : Prop where
  ex : ∃ r : TSet, PSet X r ∧ r o i v H Q
theorem setV_r : PSet X (SetV X) := fun pins s σ H o i v ov iv u Q I ro ri rv ⟨_, hs, h⟩ => hs pins s σ H o i v ov iv u Q I ro ri rv h
theorem ws_sub {o i : Expr} {p : Pos} (h : W X e σ H fun v H1 => W X o σ H1 fun ov H2 => W X i σ H2 fun iv H3 => SetV X ov iv v H3 fun H4 => D.nx σ H4)
    (hs : swapsWithSole [.Subscript o i p] e pos.line X.env = pure false := by rfl) (hw : swappedStores [.Subscript o i p] e X.env = pure none := by rfl)
    (ha : ∀ v, assign (.Subscript o i p) X.env v = (do
      let ov ← holding [v] (eval o X.env)
      let iv ← holding [v, ov] (eval i X.env)
      standAt p
      holding [v, ov, iv] (setItem ov iv v)
      release [v, ov, iv] []) := by intro _; rfl) : WS X (.Assign [.Subscript o i p] e pos) D σ H :=
  WS.of (ps_asg W.pe (pg_sub W.pe W.pe setV_r ha) hs hw) h
theorem sv_list {p : Addr} {xs : List V} {k : Int} {j : Nat} {v : V} {Q : Hp → Prop} (hp : H p = some (.lst xs)) (hj : ixN xs.length k = some j) (h : Q (upd H p (.lst (xs.set j v)))) : SetV X (.ref p) (.int k) v H Q := ⟨_, set_list, p, xs, k, j, rfl, rfl, hp, hj, h⟩
/-- if by its two ways -/
theorem w_if2 {c : Bool} {A B : Prop} (h1 : c = true → A) (h2 : c = false → B) : if c = true then A else B := by
  cases c with
  | true => rw [if_pos rfl]; exact h1 rfl
  | false => rw [if_neg Bool.false_ne_true]; exact h2 rfl
/-! ### operators by values -/
variable {x y : V}
theorem bv_add {i j : Int} (h : Q (.int (i + j)) H) : BinV X .Add (.int i) (.int j) H Q := ⟨_, op_add, i, j, rfl, rfl, h⟩
theorem bv_sub {i j : Int} (h : Q (.int (i - j)) H) : BinV X .Sub (.int i) (.int j) H Q := ⟨_, op_sub, i, j, rfl, rfl, h⟩
theorem bv_mul {i j : Int} (c : CMul i j) (h : Q (.int (i * j)) H) : BinV X .Mult (.int i) (.int j) H Q := ⟨_, op_mul, i, j, rfl, rfl, c, h⟩
theorem bv_mulW {i j : Int} (c : CMulW i j) (h : Q (.int (i * j)) H) : BinV X .Mult (.int i) (.int j) H Q := ⟨_, op_mulW, i, j, rfl, rfl, c, h⟩
theorem bv_mod {i j : Int} (c : 0 < j) (h : Q (.int (i % j)) H) : BinV X .Mod (.int i) (.int j) H Q := ⟨_, op_mod, i, j, rfl, rfl, c, h⟩
theorem bv_fdiv {i j : Int} (c : CDiv i j) (h : Q (.int (i / j)) H) : BinV X .FloorDiv (.int i) (.int j) H Q := ⟨_, op_fdiv, i, j, rfl, rfl, c, h⟩
def CPowW (i j : Int) : Prop := 0 ≤ j ∧ (Builtin.Int.intBits i : Int) * j ≤ 2 ^ 27
theorem op_powW : OpR X (binaryOp .Pow) (rI CPowW fun i j => .int (i ^ j.toNat)) := opI fun _ _ _ _ _ _ _ hc q => pow_int hc.1 hc.2 q
theorem bv_pow {i j : Int} (c : CPowW i j) (h : Q (.int (i ^ j.toNat)) H) : BinV X .Pow (.int i) (.int j) H Q := ⟨_, op_powW, i, j, rfl, rfl, c, h⟩
theorem bv_cat {p q : Addr} {xs ys : List V} (h1 : H p = some (.lst xs)) (h2 : H q = some (.lst ys)) (hl : xs.length + ys.length ≤ sizeLine) (h : ∀ r H2, Same H H2 → H r = none → H2 r = some (.lst (xs ++ ys)) → Q (.ref r) H2) : BinV X .Add (.ref p) (.ref q) H Q :=
  ⟨_, op_cat, p, q, xs, ys, rfl, rfl, h1, h2, hl, fun r hr => h r _ (same_new hr) hr upd_same⟩
theorem cv_lt {i j : Int} (h : Q (.bl (decide (i < j))) H) : CmpV X .Lt (.int i) (.int j) H Q := ⟨_, op_lt, i, j, rfl, rfl, h⟩
theorem cv_le {i j : Int} (h : Q (.bl (decide (i ≤ j))) H) : CmpV X .LtE (.int i) (.int j) H Q := ⟨_, op_le, i, j, rfl, rfl, h⟩
theorem cv_gt {i j : Int} (h : Q (.bl (decide (j < i))) H) : CmpV X .Gt (.int i) (.int j) H Q := ⟨_, op_gt, i, j, rfl, rfl, h⟩
theorem cv_ge {i j : Int} (h : Q (.bl (decide (j ≤ i))) H) : CmpV X .GtE (.int i) (.int j) H Q := ⟨_, op_ge, i, j, rfl, rfl, h⟩
theorem cv_eq (s : scal x y = true) (h : Q (.bl (decide (x = y))) H) : CmpV X .Eq x y H Q := ⟨_, op_eq, s, h⟩
theorem cv_ne (s : scal x y = true) (h : Q (.bl (!decide (x = y))) H) : CmpV X .NotEq x y H Q := ⟨_, op_ne, s, h⟩
theorem cv_eqD {d d' : PyData} (hu : X.A.units + 64 < cLine) (h1 : Dp X.K H x d) (h2 : Dp X.K H y d') (s1 : SeqAt.shaped d = true) (s2 : SeqAt.shaped d' = true) (h : Q (.bl (PyData.eqv d d')) H) : CmpV X .Eq x y H Q := ⟨_, op_eqD hu, d, d', h1, h2, s1, s2, h⟩
theorem cv_neD {d d' : PyData} (hu : X.A.units + 64 < cLine) (h1 : Dp X.K H x d) (h2 : Dp X.K H y d') (s1 : SeqAt.shaped d = true) (s2 : SeqAt.shaped d' = true) (h : Q (.bl (!PyData.eqv d d')) H) : CmpV X .NotEq x y H Q := ⟨_, op_neD hu, d, d', h1, h2, s1, s2, h⟩
theorem cv_leS {s t : Str} (h : Q (.bl (!decide (t.cps.toList < s.cps.toList))) H) : CmpV X .LtE (.str s) (.str t) H Q := by
  first
    | exact ⟨_, op_le_str, s, t, rfl, rfl, h⟩
    | (refine ⟨_, op_le_str, s, t, rfl, rfl, ?_⟩; simpa using h)
theorem cv_inSign {s : Str} {c : Nat} (h : Q (.bl (decide (c ∈ s.cps.toList))) H) : CmpV X .In (.str ⟨#[c]⟩) (.str s) H Q := ⟨_, op_in_sign, c, s, rfl, rfl, h⟩
theorem cv_inSeq {p : Addr} {xs : List V} (h1 : SqL X.K H p xs ∨ SqT X.K H p xs) (fx : flatV x = true) (fa : xs.all flatV = true) (h : Q (.bl (inV x xs)) H) : CmpV X .In x (.ref p) H Q := ⟨_, op_in_seq, p, xs, rfl, h1, fx, fa, by simpa using h⟩
theorem cv_notInSeq {p : Addr} {xs : List V} (h1 : SqL X.K H p xs ∨ SqT X.K H p xs) (fx : flatV x = true) (fa : xs.all flatV = true) (h : Q (.bl (!inV x xs)) H) : CmpV X .NotIn x (.ref p) H Q := ⟨_, op_notIn_seq, p, xs, rfl, h1, fx, fa, by simpa using h⟩
theorem iv_list {p : Addr} {xs : List V} {i : Int} {v : V} (h1 : SqL X.K H p xs) (h2 : atI xs i = some v) (h : Q v H) : IxV X (.ref p) (.int i) H Q := ⟨_, ix_list, p, xs, i, v, rfl, rfl, h1, h2, h⟩
theorem iv_tup {p : Addr} {xs : List V} {i : Int} {v : V} (h1 : SqT X.K H p xs) (h2 : atI xs i = some v) (h : Q v H) : IxV X (.ref p) (.int i) H Q := ⟨_, ix_tup, p, xs, i, v, rfl, rfl, h1, h2, h⟩
theorem atI_int {α : Type} {xs : List α} {i : Int} (h0 : 0 ≤ i) (h : i.toNat < xs.length) : atI xs i = some xs[i.toNat] := by
  have e : i = ((i.toNat : Nat) : Int) := by omega
  have h1 : atI xs ((i.toNat : Nat) : Int) = some xs[i.toNat] := atI_nat (by simp [h])
  rw [← e] at h1
  exact h1
theorem atI_0 {α : Type} {x : α} {r : List α} : atI (x :: r) 0 = some x := by
  have h : atI (x :: r) ((0 : Nat) : Int) = some x := atI_nat rfl
  exact h
theorem atI_1 {α : Type} {x y : α} {r : List α} : atI (x :: y :: r) 1 = some y := by
  have h : atI (x :: y :: r) ((1 : Nat) : Int) = some y := atI_nat rfl
  exact h
theorem atI_2 {α : Type} {x y z : α} {r : List α} : atI (x :: y :: z :: r) 2 = some z := by
  have h : atI (x :: y :: z :: r) ((2 : Nat) : Int) = some z := atI_nat rfl
  exact h
/-! ### calls of builtins by values -/
theorem kv_len_str {z : Str} (h0 : z.length ≤ sizeLine) (h : Q (.int z.length) H) : CallV X (.builtin "len") [.str z] H Q := ⟨_, call_len_str, z, rfl, h0, h⟩
theorem kv_len_seq {p : Addr} {xs : List V} (h0 : SqL X.K H p xs ∨ SqT X.K H p xs) (h : Q (.int xs.length) H) : CallV X (.builtin "len") [.ref p] H Q := ⟨_, call_len_seq, p, xs, rfl, h0, h⟩
theorem kv_isi {c : V} {t u : Value} {k : Bool} (hc : ClsV c u) (ty : TyX X.K H x t) (hk : PySem.W.kitOne X.K t u = some k) (h : Q (.bl k) H) : CallV X (.builtin "isinstance") [x, c] H Q := ⟨_, call_isi, x, c, t, u, k, rfl, hc, ty, hk, h⟩
theorem kv_all {p : Addr} {bs : List Bool} (hc : X.calm = true) (h0 : SqL X.K H p (bs.map V.bl)) (h : Q (.bl (bs.all id)) H) : CallV X (.builtin "all") [.ref p] H Q := ⟨_, cr_all hc, p, bs, rfl, h0, h⟩
theorem kv_any {p : Addr} {bs : List Bool} (hc : X.calm = true) (h0 : SqL X.K H p (bs.map V.bl)) (h : Q (.bl (bs.any id)) H) : CallV X (.builtin "any") [.ref p] H Q := ⟨_, cr_any hc, p, bs, rfl, h0, h⟩
theorem kv_int {i : Int} (h : Q (.int i) H) : CallV X (.type "int") [.int i] H Q := ⟨_, call_int1, .inl ⟨i, rfl, h⟩⟩
theorem kv_intB {k : Bool} (h : Q (.int (if k then 1 else 0)) H) : CallV X (.type "int") [.bl k] H Q := ⟨_, call_int1, .inr ⟨k, rfl, by first | exact h | simpa using h⟩⟩
theorem kv_abs {i : Int} (h : Q (.int (if i < 0 then -i else i)) H) : CallV X (.builtin "abs") [.int i] H Q := ⟨_, call_abs, i, rfl, h⟩
theorem kv_max2 {i j : Int} (hc : X.calm = true) (h : Q (.int (if j > i then j else i)) H) : CallV X (.builtin "max") [.int i, .int j] H Q := ⟨_, call_max2 hc, i, j, rfl, h⟩
theorem kv_min2 {i j : Int} (hc : X.calm = true) (h : Q (.int (if j < i then j else i)) H) : CallV X (.builtin "min") [.int i, .int j] H Q := ⟨_, call_min2 hc, i, j, rfl, h⟩
end
/-! ### types of data -/
def tyD : PyData → String
  | .none => "NoneType"
  | .bool _ => "bool"
  | .int _ => "int"
  | .str _ => "str"
  | .list _ => "list"
  | .tuple _ => "tuple"
  | .dict _ => "dict"
theorem dp_ty {K : PySem.W.Frag} {H : Hp} {v : V} {d : PyData} (h : Dp K H v d) : TyX K H v (.type (tyD d)) := by
  cases h with
  | non => exact .base .non
  | bl b => exact .base (.bl b)
  | int i => exact .base (.int i)
  | str x => exact .base (.str x)
  | lst hs _ =>
    rcases hs with (h | ⟨o, h⟩) | ⟨o, its, n, hk, hc, _⟩
    · exact .base (.lst h)
    · exact .base (.frz h)
    · exact .kList hk hc
  | tup hs _ =>
    rcases hs with (h | ⟨o, h⟩) | ⟨o, its, n, hk, hc, _⟩
    · exact .base (.tup h)
    · exact .fTuple h
    · exact .kTuple hk hc
end Ax
end
section
set_option maxHeartbeats 2000000
namespace Ax
open PySem PySem.Spec PyProof.Rows L2

/-! ### walks -/
structure WI (X : Cx) (tg iter : Expr) (σ : L2.St) (H : Hp) (R : It → Hp → Prop) : Prop where
  run : ∀ (pins : List (Addr × Obj)) (s : Shared), Inv X pins σ H s → wpAny (model X.prog X.w) X.A (eval iter X.env) (fun v s1 => wpAny (model X.prog X.w) X.A (pyIter v) (PIE X pins σ tg R) X.xe s1) X.xe s
/-- iter(x), by values -/
structure IterV (X : Cx) (tg : Expr) (x : V) (H : Hp) (R : It → Hp → Prop) : Prop where
  run : ∀ (pins : List (Addr × Obj)) (s : Shared) (σ : L2.St) (v : Value), Inv X pins σ H s → RelV x v → wpAny (model X.prog X.w) X.A (pyIter v) (PIE X pins σ tg R) X.xe s
section
variable {X : Cx} {tg iter elt : Expr} {σ : L2.St} {H : Hp} {R : It → Hp → Prop} {Q : VK} {pos : Pos} {D : Ends}
theorem WI.pi : PI X tg iter (WI X tg iter) := ⟨fun pins s _ _ _ I h => h.run pins s I⟩
theorem WI.of {wi : TI} (h : PI X tg iter wi) (q : wi σ H R) : WI X tg iter σ H R := ⟨fun pins s I => h.run pins s σ H R I q⟩
theorem wi_val (h : W X iter σ H fun x H1 => IterV X tg x H1 R) : WI X tg iter σ H R := ⟨fun pins s I =>
  thn (h.run pins s I) fun v s1 ⟨x, H1, I1, r, q⟩ => q.run pins s1 σ v I1 r⟩
theorem itv_list {a : Addr} {xs : List V} (h : SqL X.K H a xs) (q : R (Itl X.K a) H) : IterV X tg (.ref a) H R := by
  constructor
  intro pins s1 σ v I1 r1
  cases r1
  obtain ⟨its, rv, p, hz⟩ := I1.list h
  refine wpAny_pyIter_list p.isList ?_
  refine ⟨s1.heap.objs.size, [s1.heap.objs.size], _, _, H, rfl, I1.kept (t' := s1.toks) fun b o e => Heap.get?_push_of_some _ e, turn_list a _, ⟨_, Heap.get?_push_size _ rfl, rfl, rfl⟩, fun b hb => ?_, q⟩
  have e : b = s1.heap.objs.size := by simpa using hb
  subst e
  exact I1.fpOk (Nat.le_refl _) (I1.hok.fresh (Nat.le_refl _))
theorem itv_tup {a : Addr} {xs : List V} (h : SqT X.K H a xs) (q : R (Itt X.K a) H) : IterV X tg (.ref a) H R := by
  constructor
  intro pins s1 σ v I1 r1
  cases r1
  obtain ⟨its, rv, p, hz⟩ := I1.tuple h
  refine wpAny_pyIter_tuple (show s1.heap.IsTuple a its.toArray from p) ?_
  refine ⟨s1.heap.objs.size, [s1.heap.objs.size], _, _, H, rfl, I1.kept (t' := s1.toks) fun b o e => Heap.get?_push_of_some _ e, turn_tuple a _, ⟨_, Heap.get?_push_size _ rfl, rfl, rfl⟩, fun b hb => ?_, q⟩
  have e : b = s1.heap.objs.size := by simpa using hb
  subst e
  exact I1.fpOk (Nat.le_refl _) (I1.hok.fresh (Nat.le_refl _))
theorem itv_str {z : Str} (q : R (Its z) H) : IterV X tg (.str z) H R := by
  constructor
  intro pins s1 σ v I1 r1
  obtain ⟨t, rfl⟩ := r1
  cases ha : z.cps.all (· < 128)
  · exact wpAny_pyIter_wide ha (pi_one (tk := s1.toks) I1 _ (turn_str _ z t "str_iterator" (.inr rfl)) ⟨_, Heap.get?_push_size _ rfl, rfl, rfl⟩ q)
  · exact wpAny_pyIter_ascii ha (pi_one (tk := s1.toks) I1 _ (turn_str _ z t "str_ascii_iterator" (.inl rfl)) ⟨_, Heap.get?_push_size _ rfl, rfl, rfl⟩ q)
theorem wi_range1 {a : Expr} {p : Pos} (hm : X.mg "range" = none) (h : WA X [a] σ H fun vs H1 => ∃ j : Int, vs = [.int j] ∧ -(2 ^ 62) ≤ j ∧ j < 2 ^ 62 ∧ R (Itr 0 j.toNat) H1) (hg : Gl X "range" := by rfl) (hs : starEach [a] X.env = [(false, eval a X.env)] := by rfl) :
    WI X tg (.Call (.Name "range" p) [a] [] pos) σ H R := WI.of (pi_range1 hg hm WA.pa hs) h
/-- a walk over the fixed items xs that nothing but a change of its source disturbs -/
structure SeqIt (J : It) (H : Hp) (xs : List V) : Prop where
  ex : ∃ G : Hp → Prop, Walk J xs.length G (YAt xs) ∧ G H ∧ ∀ H', Same H H' → G H'
theorem seqIt_list {K : PySem.W.Frag} {a : Addr} {xs : List V} (h : SqL K H a xs) : SeqIt (Itl K a) H xs := ⟨_, walk_list, h, fun _ s => s.seq h⟩
theorem seqIt_tup {K : PySem.W.Frag} {a : Addr} {xs : List V} (h : SqT K H a xs) : SeqIt (Itt K a) H xs := ⟨_, walk_tup, h, fun _ s => same_tup s h⟩
def signsV (z : Str) : List V := z.cps.toList.map fun c => V.str ⟨#[c]⟩
theorem seqIt_str {z : Str} : SeqIt (Its z) H (signsV z) := by
  refine ⟨fun _ => True, ?_, trivial, fun _ _ => trivial⟩
  have w := (walk_str (z := z)).mono (G' := fun _ => True) (Y' := YAt (signsV z)) (fun _ h => h) fun i H x H' hi _ y => by
    obtain ⟨e, c, hc, rfl⟩ := y
    refine ⟨e, ?_⟩
    unfold signsV
    rw [List.getElem?_map]
    simp [hc]
  have e : (signsV z).length = z.cps.size := by simp [signsV]
  rw [e]
  exact w
def intsV (lo : Int) (n : Nat) : List V := (List.range n).map fun (i : Nat) => V.int (lo + (i : Int))
theorem seqIt_range {lo : Int} {n : Nat} : SeqIt (Itr lo n) H (intsV lo n) := by
  refine ⟨fun _ => True, ?_, trivial, fun _ _ => trivial⟩
  have w := (walk_range (lo := lo) (n := n)).mono (G' := fun _ => True) (Y' := YAt (intsV lo n)) (fun _ h => h) fun i H x H' hi _ y => by
    obtain ⟨e, rfl⟩ := y
    refine ⟨e, ?_⟩
    unfold intsV
    rw [List.getElem?_map]
    simp [hi]
  have e : (intsV lo n).length = n := by simp [intsV]
  rw [e]
  exact w
/-! ### [elt for x in iter], one name, pure: each item makes its element, by a relation that stands -/
inductive Rel2 (R : V → V → Prop) : List V → List V → Prop
  | nil : Rel2 R [] []
  | cons {x y xs ys} : R x y → Rel2 R xs ys → Rel2 R (x :: xs) (y :: ys)
theorem Rel2.snoc {R : V → V → Prop} {x y : V} (h : R x y) : ∀ {xs ys : List V}, Rel2 R xs ys → Rel2 R (xs ++ [x]) (ys ++ [y])
  | _, _, .nil => .cons h .nil
  | _, _, .cons r t => .cons r (Rel2.snoc h t)
theorem Rel2.imp {R S : V → V → Prop} (k : ∀ x y, R x y → S x y) : ∀ {xs ys : List V}, Rel2 R xs ys → Rel2 S xs ys
  | _, _, .nil => .nil
  | _, _, .cons r t => .cons (k _ _ r) (Rel2.imp k t)
theorem Rel2.len {R : V → V → Prop} : ∀ {xs ys : List V}, Rel2 R xs ys → xs.length = ys.length
  | _, _, .nil => rfl
  | _, _, .cons _ t => by simp [Rel2.len t]
theorem Rel2.map {f : V → V} : ∀ {xs ys : List V}, Rel2 (fun x y => y = f x) xs ys → ys = xs.map f
  | _, _, .nil => rfl
  | _, _, .cons r t => by rw [r, Rel2.map t]; rfl
theorem w_lc {i : Nat} {x : Str} {px : Pos} {scope : Scope} (own : List (Str × Nat)) (ho : own = [(x, i)]) (hc : X.calm = true) (hN : X.N.Nodup) (ok : BlkOk X.N X.env.scope scope own) (hi : X.N[i]? = some x)
    (hloc : ∀ (s : Shared) (H : Hp) (C : Addr) (cl : List (Str × Addr)) (fp : List Addr), Loc (X.blk s H scope (compEnvC scope cl C X.env) fp).env.scope x ∧ ((X.blk s H scope (compEnvC scope cl C X.env) fp).fn x = true ∨ (X.blk s H scope (compEnvC scope cl C X.env) fp).env.scope.names.lookup x = some .local))
    (h : WI X (.Name x px) iter σ H fun J H1 => ∃ xs, SeqIt J H1 xs ∧ xs.length < sizeLine ∧ ∃ R : V → V → Hp → Prop, (∀ x y Ha Hb, R x y Ha → Sl Ha Hb → R x y Hb) ∧
      (∀ v ∈ xs, ∀ H2, Same H1 H2 → ∀ (s : Shared) (H : Hp) (C : Addr) (cl : List (Str × Addr)) (fp : List Addr), W (X.blk s H scope (compEnvC scope cl C X.env) fp) elt ((wipe σ [i]).set i (some v)) H2 fun y H3 => Same H2 H3 ∧ R v y H3) ∧
      ∀ p ys H2, Same H1 H2 → H1 p = none → H2 p = some (.lst ys) → Rel2 (fun x y => R x y H2) xs ys → Q (.ref p) H2)
    (hs : ∀ x, foldedSetIterable iter X.env x = pure x := by intro _; rfl) (hw : (((wipe σ [i]).set i (some V.non)).set i none) = wipe σ [i] := by rfl) :
    W X (.ListComp elt [⟨.Name x px, iter, [], 0⟩] scope pos) σ H Q := by
  subst ho
  refine W.of (pe_lc (own := [(x, i)]) (g := gName i) (tt := tYes) (te := fun σ2 H2 K => ∀ (s : Shared) (H : Hp) (C : Addr) (cl : List (Str × Addr)) (fp : List Addr), W (X.blk s H scope (compEnvC scope cl C X.env) fp) elt σ2 H2 K) hc hN WI.pi ok (fun s H C cl fp => pg_name hN hi (hloc s H C cl fp).1 (hloc s H C cl fp).2) (fun _ _ _ _ _ => pts_nil)
    (fun s H C cl fp => ⟨fun pins s' σ' H' Q' I' h' => (h' s H C cl fp).run pins s' I'⟩) hs) ?_
  refine ⟨fun pins s I => thn (h.run pins s I) fun v s1 z => thn z fun it s2 q => ?_⟩
  obtain ⟨it', fp, tn, J, H1, e, I2, T, t0, f0, xs, ⟨G, wk, g0, gs⟩, hlen, R, hst, hel, hend⟩ := q
  refine ⟨it', fp, tn, J, H1, e, I2, T, t0, f0, fun Dd nD => ?_⟩
  refine lc_it (H1 := H1) (D := Dd) (g := gName i) (tt := tYes) (te := fun σ2 H2 K => ∀ (s : Shared) (H : Hp) (C : Addr) (cl : List (Str × Addr)) (fp : List Addr), W (X.blk s H scope (compEnvC scope cl C X.env) fp) elt σ2 H2 K) (vs := [i]) (σ := σ) (Qd := fun H2 => Q (.ref Dd) H2) wk (fun j H2 => ∃ ys, Same H1 H2 ∧ H2 Dd = some (.lst ys) ∧ Rel2 (fun x y => R x y H2) (xs.take j) ys) ⟨[], same_new nD, upd_same, .nil⟩ (fun j H2 _ ⟨ys, sm, hD, _⟩ => gs _ sm) ?_ ?_
  · rintro j v H2 H2' hj ⟨ys, s12, hD, rel⟩ ⟨eH, hv⟩
    subst eH
    have hm : v ∈ xs := List.mem_of_getElem? hv
    have hw' : wipe ((wipe σ [i]).set i (some v)) [i] = wipe σ [i] := by
      have e1 : wipe ((wipe σ [i]).set i (some v)) [i] = ((wipe σ [i]).set i (some v)).set i none := rfl
      rw [e1, List.set_set]
      have e2 : ((wipe σ [i]).set i (some V.non)).set i none = wipe σ [i] := hw
      rw [List.set_set] at e2
      exact e2
    refine ⟨hw', ?_⟩
    unfold tYes
    dsimp only
    rw [if_pos rfl]
    intro s H C cl fp
    refine W.mono (e := elt) (X := X.blk s H scope (compEnvC scope cl C X.env) fp) (hel v hm H2' s12 s H C cl fp) fun y H3 ⟨s23, r⟩ => ?_
    have hD3 := s23 _ _ hD
    have hl : ys.length < sizeLine := by
      have e1 := rel.len
      rw [List.length_take] at e1
      omega
    refine ⟨ys, hD3, hl, ys ++ [y], same_upd (s12.trans s23) nD, upd_same, ?_⟩
    have sl : Sl H3 (upd H3 Dd (.lst (ys ++ [y]))) := (Sl.refl H3).lst hD3
    have e : xs.take (j + 1) = xs.take j ++ [v] := by
      rw [List.take_add_one, hv]
      rfl
    rw [e]
    exact (rel.imp fun a b q => hst _ _ _ _ q ((Sl.of s23).trans sl)).snoc (hst _ _ _ _ r sl)
  · rintro H2 ⟨ys, s12, hD, rel⟩
    rw [List.take_length] at rel
    exact hend Dd ys H2 s12 nD hD rel
/-- .. each element a value by a function -/
theorem w_lcF {x : Str} {px : Pos} {scope : Scope} (i : Nat) (f : V → V) (hc : X.calm = true) (hN : X.N.Nodup) (ok : BlkOk X.N X.env.scope scope [(x, i)]) (hi : X.N[i]? = some x)
    (hloc : ∀ (s : Shared) (H : Hp) (C : Addr) (cl : List (Str × Addr)) (fp : List Addr), Loc (X.blk s H scope (compEnvC scope cl C X.env) fp).env.scope x ∧ ((X.blk s H scope (compEnvC scope cl C X.env) fp).fn x = true ∨ (X.blk s H scope (compEnvC scope cl C X.env) fp).env.scope.names.lookup x = some .local))
    (h : WI X (.Name x px) iter σ H fun J H1 => ∃ xs, SeqIt J H1 xs ∧ xs.length < sizeLine ∧
      (∀ v ∈ xs, ∀ H2, Same H1 H2 → ∀ (s : Shared) (H : Hp) (C : Addr) (cl : List (Str × Addr)) (fp : List Addr), W (X.blk s H scope (compEnvC scope cl C X.env) fp) elt ((wipe σ [i]).set i (some v)) H2 fun y H3 => Same H2 H3 ∧ y = f v) ∧
      ∀ p H2, Same H1 H2 → H1 p = none → H2 p = some (.lst (xs.map f)) → Q (.ref p) H2)
    (hs : ∀ x, foldedSetIterable iter X.env x = pure x := by intro _; rfl) (hw : (((wipe σ [i]).set i (some V.non)).set i none) = wipe σ [i] := by rfl) :
    W X (.ListComp elt [⟨.Name x px, iter, [], 0⟩] scope pos) σ H Q := by
  refine w_lc _ rfl hc hN ok hi hloc ?_ hs hw
  refine ⟨fun pins s I => thn (h.run pins s I) fun v s1 z => thn z fun it s2 q => ?_⟩
  obtain ⟨it', fp, tn, J, H1, e, I2, T, t0, f0, xs, h1, h2, h3, h4⟩ := q
  refine ⟨it', fp, tn, J, H1, e, I2, T, t0, f0, xs, h1, h2, fun x y _ => y = f x, fun _ _ _ _ q _ => q, h3, fun p ys H2 s n hp r => ?_⟩
  have e := Rel2.map r
  subst e
  exact h4 p H2 s n hp
/-- all([elt for x in iter]), each element a test -/
theorem w_allLc {x : Str} {px pa pl : Pos} {scope : Scope} (i : Nat) (f : V → Bool) (hm : X.mg "all" = none) (hc : X.calm = true) (hN : X.N.Nodup) (ok : BlkOk X.N X.env.scope scope [(x, i)]) (hi : X.N[i]? = some x)
    (hloc : ∀ (s : Shared) (H : Hp) (C : Addr) (cl : List (Str × Addr)) (fp : List Addr), Loc (X.blk s H scope (compEnvC scope cl C X.env) fp).env.scope x ∧ ((X.blk s H scope (compEnvC scope cl C X.env) fp).fn x = true ∨ (X.blk s H scope (compEnvC scope cl C X.env) fp).env.scope.names.lookup x = some .local))
    (h : WI X (.Name x px) iter σ H fun J H1 => ∃ xs, SeqIt J H1 xs ∧ xs.length < sizeLine ∧
      (∀ v ∈ xs, ∀ H2, Same H1 H2 → ∀ (s : Shared) (H : Hp) (C : Addr) (cl : List (Str × Addr)) (fp : List Addr), W (X.blk s H scope (compEnvC scope cl C X.env) fp) elt ((wipe σ [i]).set i (some v)) H2 fun y H3 => Same H2 H3 ∧ y = .bl (f v)) ∧
      ∀ H2, Same H1 H2 → Q (.bl (xs.all f)) H2)
    (hg : Gl X "all" := by rfl) (hs : ∀ x, foldedSetIterable iter X.env x = pure x := by intro _; rfl) (hw : (((wipe σ [i]).set i (some V.non)).set i none) = wipe σ [i] := by rfl)
    (he : starEach [.ListComp elt [⟨.Name x px, iter, [], 0⟩] scope pl] X.env = (false, eval (.ListComp elt [⟨.Name x px, iter, [], 0⟩] scope pl) X.env) :: starEach [] X.env := by rfl) (hpl : (backTo pos (starEach [] X.env)).any (·.1) = false := by rfl) :
    W X (.Call (.Name "all" pa) [.ListComp elt [⟨.Name x px, iter, [], 0⟩] scope pl] [] pos) σ H Q := by
  refine w_callB (id := "all") hm ?_ b_all hg (by decide) (by decide) he hpl
  refine wa_cons ?_ he
  refine w_lcF i (fun v => .bl (f v)) hc hN ok hi hloc ?_ hs hw
  refine ⟨fun pins s I => thn (h.run pins s I) fun v s1 z => thn z fun it s2 q => ?_⟩
  obtain ⟨it', fp, tn, J, H1, e, I2, T, t0, f0, xs, h1, h2, h3, h4⟩ := q
  refine ⟨it', fp, tn, J, H1, e, I2, T, t0, f0, xs, h1, h2, h3, fun p H2 s n hp => ?_⟩
  refine wa_nil (kv_all (bs := xs.map f) hc (SqL.of ?_) ?_)
  · rw [hp, List.map_map]
    rfl
  · have e : (xs.map f).all id = xs.all f := by rw [List.all_map]; rfl
    rw [e]
    exact h4 H2 s
end
end Ax
end
section
set_option maxHeartbeats 2000000
namespace Ax
open PySem PySem.Spec PyProof.Rows L2
/-- a def of the top -/
def TxtF (K : PySem.W.Frag) (mg : Str → Option Value) (x : Str) (st : Stmt) : Prop := ∃ f fd, FunD K x x (defArgs st) (defBody st) (defScope st) [] [] f fd ∧ mg x = some (.ref f)
theorem txtF_of {K : PySem.W.Frag} {mg : Str → Option Value} {x : Str} {st : Stmt} {f : Addr} (h : ∃ fd, FunD K x x (defArgs st) (defBody st) (defScope st) [] [] f fd) (g : mg x = some (.ref f)) : TxtF K mg x st := by
  obtain ⟨fd, h⟩ := h
  exact ⟨f, fd, h, g⟩
theorem cS_of {mg : Str → Option Value} {x z : Str} (h : ∃ t, mg x = some (.str z t)) : ∃ u, mg x = some u ∧ RelV (.str z) u := by
  obtain ⟨t, h⟩ := h
  exact ⟨_, h, t, rfl⟩
theorem cI_of {mg : Str → Option Value} {x : Str} {i : Int} (h : ∃ t, mg x = some (.int i t)) : ∃ u, mg x = some u ∧ RelV (.int i) u := by
  obtain ⟨t, h⟩ := h
  exact ⟨_, h, t, rfl⟩
section
variable {P : Program} {w : World} {K : PySem.W.Frag} {mg : Str → Option Value} {base : Heap}
theorem def_ok {x : Str} {st : Stmt} {N ps : List Str} {k : Nat} {sp : Sp} (T : TxtF K mg x st) (S : FnScope N ps (defScope st))
    (hb : ∀ (kV doc pm : Value) (an : Option Addr) (cdv ct : Value) (us : List Value), us.length = ps.length → bindArgs (PySem.W.fnOf x x (defArgs st) (defBody st) (defScope st) .none kV doc pm an cdv ct) ⟨us, []⟩ = pure (ps.zip us))
    (len : ∀ vs H Q E, sp vs H Q E → vs.length = ps.length)
    (body : ∀ (f : Addr) (cdv : Value) (A : Around) (outer : List Env) (s : Shared) (H : Hp) (vs : List V) (Q : VK) (E : XK), Room k (A.deeper (envOfC x (defScope st) s.heap.objs.size f cdv)) → sp vs H Q E →
      WB (cxOf (L2.CX P w) P w K mg base N x (defScope st) f cdv A outer s H E) (defBody st) { nx := fun _ H' => Q .non H', rt := Q } (start N vs) H) : Callee P w K mg base x (k + 1) ps sp := by
  obtain ⟨f, fd, F, g⟩ := T
  exact ⟨f, fd, F.ok S len fun cdv A outer s H vs Q E hr h => ⟨_, WB.pss, body f cdv A outer s H vs Q E hr h⟩, F.bindsN hb, g, F.kp⟩
end
end Ax
end
section
set_option maxHeartbeats 2000000
namespace Ax
open PySem PySem.Spec PyProof.Rows L2
theorem qb {Q : VK} {H : Hp} {a b : Bool} (h : Q (.bl a) H) (e : a = b) : Q (.bl b) H := e ▸ h
theorem qi {Q : VK} {H : Hp} {a b : Int} (h : Q (.int a) H) (e : a = b) : Q (.int b) H := e ▸ h
mutual
/-- short texts, nothing but none, bools, ints, texts, lists, tuples -/
def tame : PyData → Bool
  | .str z => PyData.strOk z && decide (z.length ≤ 1000)
  | .list ds => tameAll ds && decide (ds.length ≤ 100000)
  | .tuple ds => tameAll ds && decide (ds.length ≤ 100000)
  | .dict _ => false
  | _ => true
def tameAll : List PyData → Bool
  | [] => true
  | d :: ds => tame d && tameAll ds
end
def okD (d : PyData) : Bool := tame d && decide (d.depth ≤ 60)
mutual
theorem tame_lay : ∀ {d : PyData}, tame d = true → d.canLay0 = true
  | .none, _ => rfl
  | .bool _, _ => rfl
  | .int _, _ => rfl
  | .str z, h => by
    simp only [tame, Bool.and_eq_true] at h
    simpa [PyData.canLay0] using h.1
  | .list ds, h => by simpa [PyData.canLay0] using tameAll_lay (by simp only [tame, Bool.and_eq_true] at h; exact h.1)
  | .tuple ds, h => by simpa [PyData.canLay0] using tameAll_lay (by simp only [tame, Bool.and_eq_true] at h; exact h.1)
  | .dict _, h => by simp [tame] at h
theorem tameAll_lay : ∀ {ds : List PyData}, tameAll ds = true → PyData.canLayAll0 ds = true
  | [], _ => by simp [PyData.canLayAll0]
  | d :: ds, h => by
    simp only [tameAll, Bool.and_eq_true] at h
    simp [PyData.canLayAll0, tame_lay h.1, tameAll_lay h.2]
end
theorem okD.shaped {d : PyData} (h : okD d = true) : SeqAt.shaped d = true := by
  simp only [okD, Bool.and_eq_true, decide_eq_true_eq] at h
  simp only [SeqAt.shaped, Bool.and_eq_true, decide_eq_true_eq]
  exact ⟨tame_lay h.1, by omega⟩
theorem tameAll_mem {ds : List PyData} (h : tameAll ds = true) : ∀ d ∈ ds, tame d = true := by
  induction ds with
  | nil => intro d hd; cases hd
  | cons x xs ih =>
    simp only [tameAll, Bool.and_eq_true] at h
    intro d hd
    rcases List.mem_cons.mp hd with rfl | hd
    · exact h.1
    · exact ih h.2 d hd
theorem depthAll_mem {ds : List PyData} {n : Nat} (h : PyData.depthAll ds ≤ n) : ∀ d ∈ ds, d.depth ≤ n := by
  induction ds with
  | nil => intro d hd; cases hd
  | cons x xs ih =>
    rw [PyData.depthAll] at h
    intro d hd
    rcases List.mem_cons.mp hd with rfl | hd
    · omega
    · exact ih (by omega) d hd
theorem okD.item {ds : List PyData} (h : okD (.tuple ds) = true) : ∀ d ∈ ds, okD d = true := by
  simp only [okD, tame, Bool.and_eq_true, decide_eq_true_eq] at h
  obtain ⟨h1, h2⟩ := h
  rw [PyData.depth] at h2
  intro d hd
  simp only [okD, Bool.and_eq_true, decide_eq_true_eq]
  exact ⟨tameAll_mem h1.1 d hd, by have := depthAll_mem (n := 59) (by omega) d hd; omega⟩
theorem okD.len {ds : List PyData} (h : okD (.tuple ds) = true) : ds.length < sizeLine := by
  simp only [okD, tame, Bool.and_eq_true, decide_eq_true_eq] at h
  exact Nat.lt_of_le_of_lt h.1.2 (by decide)
theorem okD.str {z : Str} (h : okD (.str z) = true) : z.length ≤ sizeLine := by
  simp only [okD, tame, Bool.and_eq_true, decide_eq_true_eq] at h
  exact Nat.le_trans h.1.2 (by decide)
/-- any value: data, or a thing of another type -/
inductive AnyV (K : PySem.W.Frag) (H : Hp) : V → Option PyData → Prop
  | dat {v : V} {d : PyData} (h : Dp K H v d) (ok : okD d = true) : AnyV K H v (some d)
  | oth {v : V} {t : Value} (h : TyX K H v t) (n : ∀ T ∈ ["str", "int", "bool", "tuple", "list"], PySem.W.kitOne K t (.type T) = some false) : AnyV K H v none
def tyNames : List String := ["NoneType", "bool", "int", "str", "list", "tuple", "dict"]
theorem tyD_mem (d : PyData) : tyD d ∈ tyNames := by cases d <;> simp [tyD, tyNames]
theorem kit_all : ∀ T ∈ ["str", "int", "bool", "tuple", "list"], ∀ t ∈ tyNames, (kitB t T).isSome = true := by decide +kernel
def isiO (T : String) : Option PyData → Bool
  | some d => (kitB (tyD d) T).getD false
  | none => false
section
variable {X : Cx} {H : Hp} {Q : VK} {v : V} {o : Option PyData}
theorem kv_isiA {T : String} (a : AnyV X.K H v o) (hT : T ∈ ["str", "int", "bool", "tuple", "list"]) (h : Q (.bl (isiO T o)) H) : CallV X (.builtin "isinstance") [v, .ty T] H Q := by
  cases a with
  | oth ty n => exact kv_isi (.ty T) ty (n T hT) h
  | @dat d hd ok =>
    refine kv_isi (k := isiO T (some d)) (.ty T) (dp_ty hd) (kit_ty ?_) h
    have q := kit_all T hT (tyD d) (tyD_mem d)
    obtain ⟨b, q⟩ := Option.isSome_iff_exists.mp q
    show kitB (tyD d) T = some ((kitB (tyD d) T).getD false)
    rw [q]
    rfl
theorem isiO_str (d : PyData) : isiO "str" (some d) = (match d with | .str _ => true | _ => false) := by
  have k : ∀ t ∈ tyNames, (kitB t "str").getD false = (t == "str") := by decide +kernel
  refine (k _ (tyD_mem d)).trans ?_
  cases d <;> rfl
theorem isiO_tuple (d : PyData) : isiO "tuple" (some d) = (match d with | .tuple _ => true | _ => false) := by
  have k : ∀ t ∈ tyNames, (kitB t "tuple").getD false = (t == "tuple") := by decide +kernel
  refine (k _ (tyD_mem d)).trans ?_
  cases d <;> rfl
theorem isiO_int (d : PyData) : isiO "int" (some d) = (match d with | .int _ => true | .bool _ => true | _ => false) := by
  have k : ∀ t ∈ tyNames, (kitB t "int").getD false = (t == "int" || t == "bool") := by decide +kernel
  refine (k _ (tyD_mem d)).trans ?_
  cases d <;> rfl
theorem isiO_bool (d : PyData) : isiO "bool" (some d) = (match d with | .bool _ => true | _ => false) := by
  have k : ∀ t ∈ tyNames, (kitB t "bool").getD false = (t == "bool") := by decide +kernel
  refine (k _ (tyD_mem d)).trans ?_
  cases d <;> rfl
end
theorem tyX_same {K : PySem.W.Frag} {H H' : Hp} {v : V} {t : Value} (s : Same H H') (h : TyX K H v t) : TyX K H' v t := by
  cases h with
  | base b =>
    cases b with
    | non => exact .base .non
    | bl x => exact .base (.bl x)
    | int x => exact .base (.int x)
    | str x => exact .base (.str x)
    | flt x => exact .base (.flt x)
    | lst e => exact .base (.lst (s _ _ e))
    | frz e => exact .base (.frz (s _ _ e))
    | tup e => exact .base (.tup (s _ _ e))
    | dK e => exact .base (.dK (s _ _ e))
    | dT e => exact .base (.dT (s _ _ e))
    | ins e cl ha hn htk hm => exact .base (.ins (s _ _ e) cl ha hn htk hm)
  | byt b => exact .byt b
  | set e => exact .set (s _ _ e)
  | kList e c => exact .kList e c
  | kTuple e c => exact .kTuple e c
  | kDict e c => exact .kDict e c
  | fTuple e => exact .fTuple (s _ _ e)
  | fDict e => exact .fDict (s _ _ e)
section
variable {K : PySem.W.Frag} {H H' : Hp} {v : V} {o : Option PyData}
theorem anyV_same (s : Same H H') (a : AnyV K H v o) : AnyV K H' v o := by
  cases a with
  | dat h ok => exact .dat (dp_same s h) ok
  | oth h n => exact .oth (tyX_same s h) n
theorem anyV_tuple (a : AnyV K H v o) (c : isiO "tuple" o = true) : ∃ p xs ds, v = .ref p ∧ o = some (.tuple ds) ∧ SqT K H p xs ∧ DpAll K H xs ds ∧ okD (.tuple ds) = true := by
  cases a with
  | oth => cases c
  | @dat d hd ok =>
    rw [isiO_tuple] at c
    cases hd <;> first | cases c | skip
    exact ⟨_, _, _, rfl, rfl, by assumption, by assumption, ok⟩
theorem anyV_str (a : AnyV K H v o) (c : isiO "str" o = true) : ∃ z, v = .str z ∧ o = some (.str z) ∧ okD (.str z) = true := by
  cases a with
  | oth => cases c
  | @dat d hd ok =>
    rw [isiO_str] at c
    cases hd <;> first | cases c | skip
    exact ⟨_, rfl, rfl, ok⟩
theorem any_tupleF {f : PyData → Bool} (c : isiO "tuple" o = false) (hf : ∀ d, (∀ ds, d ≠ .tuple ds) → f d = false) : o.any f = false := by
  cases o with
  | none => rfl
  | some d =>
    rw [isiO_tuple] at c
    refine hf d fun ds e => ?_
    rw [e] at c
    cases c
theorem any_strF {f : PyData → Bool} (c : isiO "str" o = false) (hf : ∀ d, (∀ z, d ≠ .str z) → f d = false) : o.any f = false := by
  cases o with
  | none => rfl
  | some d =>
    rw [isiO_str] at c
    refine hf d fun ds e => ?_
    rw [e] at c
    cases c
end
end Ax
end
section
set_option maxHeartbeats 2000000
namespace Ax
open PySem PySem.Spec PyProof.Rows L2
/-! ### another look at a thing: the abstract heap tells it otherwise, the heap is the same -/
def plainO : HO → Bool
  | .lst _ => true
  | .ext _ => true
  | _ => false
theorem Inv.view {X : Cx} {pins : List (Addr × Obj)} {σ : L2.St} {H : Hp} {s : Shared} {p : Addr} {o o' : HO} (I : Inv X pins σ H s) (hp : H p = some o) (ho : plainO o = true) (new : ObjOk X.prog X.w (upd H p o') s.heap p o') : Inv X pins σ (upd H p o') s := by
  have ne : ∀ b u, H b = some u → plainO u = false → b ≠ p := fun b u e n z => by
    rw [z, hp] at e
    cases e
    rw [ho] at n
    cases n
  have nn : ∀ b, H b = none → b ≠ p := fun b e z => by
    rw [z, hp] at e
    cases e
  have B := I.base
  refine ⟨I.ok, I.os, I.bare, ⟨B.keep, B.slot, fun b u e n hx => ?_, B.there, fun b xs e => ?_, fun b u xs e => ?_, fun b ps e => ?_⟩, I.loc, I.cell, ?_, fun x c e => ?_, fun q hq => ?_, fun b u e => ?_, I.len⟩
  · have z := B.free b u e n hx
    rw [upd_ne (nn b z)]; exact z
  · have z := B.tups b xs e
    rw [upd_ne (ne b _ z rfl)]; exact z
  · have z := B.frzs b u xs e
    rw [upd_ne (ne b _ z rfl)]; exact z
  · obtain ⟨more, z⟩ := B.tbls b ps e
    exact ⟨more, by rw [upd_ne (ne b _ z rfl)]; exact z⟩
  · rw [upd_ne (nn _ I.free)]; exact I.free
  · have z := I.freeC x c e
    rw [upd_ne (nn _ z)]; exact z
  · obtain ⟨h1, h2, h3⟩ := I.pin q hq
    exact ⟨h1, by rw [upd_ne (nn _ h2)]; exact h2, h3⟩
  · by_cases hb : b = p
    · subst hb
      rw [upd_same] at e
      cases e
      exact new
    · rw [upd_ne hb] at e
      exact (I.hok b u e).stay (fun _ _ _ q => q) (fun c q => by rw [upd_ne (ne c _ q rfl)]; exact q) fun c xs q => by rw [upd_ne (ne c _ q rfl)]; exact q
/-! ### the dice: three whole numbers in a list, told by what holds of them; n: how often it was rolled, at most -/
structure DiceN (x y z : Int) (n : Nat) : Prop where
  x0 : 0 ≤ x
  y0 : 0 ≤ y
  y1 : y < 2 ^ 61
  z0 : 0 ≤ z
  z1 : z ≤ n
def DiceO (p : Addr) (n : Nat) : HO := .ext fun h => ∃ (x y z : Int) (its : List Value) (m : Nat), Vals [.int x, .int y, .int z] its ∧ h.get? p = some { cls := .type "list", data := .seq its.toArray m } ∧ DiceN x y z n
theorem three_line : 3 ≤ sizeLine := by decide
theorem two_line : 2 ≤ sizeLine := by decide
theorem one_line : 1 ≤ sizeLine := by decide
theorem zero_line : 0 ≤ sizeLine := by decide
section
variable {X : Cx} {pins : List (Addr × Obj)} {σ : L2.St} {H : Hp} {s : Shared} {p : Addr} {n : Nat} {x y z : Int}
theorem Inv.toDice (I : Inv X pins σ H s) (hp : H p = some (.lst [.int x, .int y, .int z])) (d : DiceN x y z n) : Inv X pins σ (upd H p (DiceO p n)) s := by
  refine Inv.view I hp rfl ?_
  obtain ⟨_, its, m, r, e⟩ := (show ObjOk X.prog X.w H s.heap p (.lst [.int x, .int y, .int z]) from I.hok p _ hp)
  exact ⟨⟨x, y, z, its, m, r, e, d⟩, ⟨_, e⟩, fun h1 h2 ⟨x, y, z, its, m, r, e, d⟩ k => ⟨x, y, z, its, m, r, k _ e, d⟩⟩
theorem Inv.ofDice (I : Inv X pins σ H s) (hp : H p = some (DiceO p n)) : ∃ x y z, DiceN x y z n ∧ Inv X pins σ (upd H p (.lst [.int x, .int y, .int z])) s := by
  obtain ⟨⟨x, y, z, its, m, r, e, d⟩, _⟩ := (show ObjOk X.prog X.w H s.heap p (DiceO p n) from I.hok p _ hp)
  exact ⟨x, y, z, d, Inv.view I hp rfl ⟨three_line, its, m, r, e⟩⟩
theorem wb_dice {b : List Stmt} {D : Ends} (hp : H p = some (DiceO p n)) (h : ∀ x y z, DiceN x y z n → WB X b D σ (upd H p (.lst [.int x, .int y, .int z]))) : WB X b D σ H := ⟨fun pins s I => by
  obtain ⟨x, y, z, d, J⟩ := Inv.ofDice I hp
  exact (h x y z d).run pins s J⟩
theorem w_dice {e : Expr} {Q : VK} (h : W X e σ H fun v H1 => ∃ p x y z n, H1 p = some (.lst [.int x, .int y, .int z]) ∧ DiceN x y z n ∧ Q v (upd H1 p (DiceO p n))) : W X e σ H Q := ⟨fun pins s I =>
  thn (h.run pins s I) fun u s1 ⟨v, H1, J, r, p, x, y, z, n, hp, d, q⟩ => ⟨v, _, Inv.toDice J hp d, r, q⟩⟩
end
/-- all but the dice at p stands -/
structure Sm (p : Addr) (H H' : Hp) : Prop where
  at0 : ∃ n, H p = some (DiceO p n)
  keep : ∀ a o, H a = some o → a ≠ p → H' a = some o
theorem Sm.refl {H : Hp} {p : Addr} {n : Nat} (h : H p = some (DiceO p n)) : Sm p H H := ⟨⟨n, h⟩, fun _ _ h _ => h⟩
theorem Sm.trans {p : Addr} {H H1 H2 : Hp} (a : Sm p H H1) (b : Sm p H1 H2) : Sm p H H2 := ⟨a.at0, fun c o h n => b.keep c o (a.keep c o h n) n⟩
theorem Sm.same {p : Addr} {H H1 H2 : Hp} (a : Sm p H H1) (b : Same H1 H2) : Sm p H H2 := ⟨a.at0, fun c o h n => b c o (a.keep c o h n)⟩
theorem Sm.of {H H' : Hp} {p : Addr} {n : Nat} (h : H p = some (DiceO p n)) (e : Same H H') : Sm p H H' := (Sm.refl h).same e
theorem Sm.sl {p : Addr} {H H' : Hp} (e : Sm p H H') : Sl H H' := fun b o h n => e.keep b o h (by
  rintro rfl
  obtain ⟨m, hm⟩ := e.at0
  rw [hm] at h
  cases h
  cases n)
theorem Sm.upd {p : Addr} {H H' : Hp} {o : HO} (e : Sm p H H') : Sm p H (upd H' p o) := ⟨e.at0, fun a u ha hn => by
  rw [upd_ne hn]
  exact e.keep a u ha hn⟩
theorem Sm.new {p q : Addr} {H H' : Hp} {o : HO} (e : Sm p H H') (n : H q = none) : Sm p H (L2.upd H' q o) := ⟨e.at0, fun a u ha hn => by
  rw [upd_ne (ne_of_none ha n)]
  exact e.keep a u ha hn⟩
/-- what is no dice is elsewhere -/
theorem Sm.lst {p a : Addr} {H H' : Hp} {xs : List V} (e : Sm p H H') (h : H a = some (.lst xs)) : H' a = some (.lst xs) := e.keep a _ h (by
  rintro rfl
  obtain ⟨m, hm⟩ := e.at0
  rw [hm] at h
  cases h)
theorem Sm.tupO {p a : Addr} {H H' : Hp} {xs : List V} (e : Sm p H H') (h : H a = some (.tup xs)) : H' a = some (.tup xs) := e.sl _ _ h rfl
theorem Sm.nul {p q : Addr} {n : Nat} {H H' : Hp} (e : Sm p H H') (hp : H' p = some (DiceO p n)) (h : H' q = none) : H q = none := by
  cases z : H q with
  | none => rfl
  | some o =>
    by_cases hq : q = p
    · rw [hq, hp] at h
      cases h
    · rw [e.keep q o z hq] at h
      cases h
theorem Sm.tup {p : Addr} {K : PySem.W.Frag} {H H' : Hp} {a : Addr} {xs : List V} (e : Sm p H H') (h : SqT K H a xs) : SqT K H' a xs := e.sl.tup h
theorem Sm.seq {p : Addr} {K : PySem.W.Frag} {H H' : Hp} {a : Addr} {xs : List V} (e : Sm p H H') (h : SqL K H a xs) : SqL K H' a xs := by
  rcases h with (h | ⟨o, h⟩) | h
  · exact .inl (.inl (e.lst h))
  · exact .inl (.inr ⟨o, e.sl _ _ h rfl⟩)
  · exact .inr h
mutual
theorem dp_sm {q : Addr} {K : PySem.W.Frag} {H H' : Hp} (s : Sm q H H') : ∀ {d : PyData} {v : V}, Dp K H v d → Dp K H' v d
  | .none, _, h => by cases h; exact .non
  | .bool _, _, h => by cases h; exact .bl _
  | .int _, _, h => by cases h; exact .int _
  | .str _, _, h => by cases h; exact .str _
  | .list ds, _, h => by
    cases h with
    | lst hs ha => exact .lst (s.seq hs) (dpa_sm s ha)
  | .tuple ds, _, h => by
    cases h with
    | tup hs ha => exact .tup (s.tup hs) (dpa_sm s ha)
  | .dict _, _, h => by cases h
theorem dpa_sm {q : Addr} {K : PySem.W.Frag} {H H' : Hp} (s : Sm q H H') : ∀ {ds : List PyData} {vs : List V}, DpAll K H vs ds → DpAll K H' vs ds
  | [], _, h => by cases h; exact .nil
  | d :: ds, _, h => by
    cases h with
    | cons h1 h2 => exact .cons (dp_sm s h1) (dpa_sm s h2)
end
/-! ### what the drawing defs promise; the list of the drawn ones is at most 2 ^ 60 long -/
def spDice (K : PySem.W.Frag) : Sp := fun vs H Q _ => ∃ (a : Addr) (ns : List Int) (j : Nat), vs = [.ref a, .int j] ∧ SqL K H a (ns.map V.int) ∧ ns.length ≤ 63 ∧ j ≤ 100 ∧ ∀ p H', Same H H' → H p = none → H' p = some (DiceO p 0) → Q (.ref p) H'
def spRoll : Sp := fun vs H Q _ => ∃ (p : Addr) (n : Nat) (k : Int), vs = [.ref p, .int k] ∧ H p = some (DiceO p n) ∧ n < 2 ^ 60 ∧ 0 < k ∧ k < 2 ^ 20 ∧ ∀ r H', Sm p H H' → H' p = some (DiceO p (n + 1)) → 0 ≤ r → r < k → Q (.int r) H'
def spPick (K : PySem.W.Frag) : Sp := fun vs H Q _ => ∃ (p l : Addr) (n : Nat) (xs : List V), vs = [.ref p, .ref l] ∧ H p = some (DiceO p n) ∧ n < 2 ^ 60 ∧ SqL K H l xs ∧ xs ≠ [] ∧ xs.length < 2 ^ 20 ∧ ∀ v ∈ xs, ∀ H', Sm p H H' → H' p = some (DiceO p (n + 1)) → Q v H'
end Ax
end
section
set_option maxHeartbeats 2000000
namespace Ax
open PySem PySem.Spec PyProof.Rows L2
section
variable {X : Cx} {e a b o : Expr} {es : List Expr} {st : Stmt} {bl rest : List Stmt} {σ : L2.St} {H : Hp} {Q : VK} {D : Ends} {pos apos : Pos}
/-! ### methods of built-in types, one argument -/
theorem w_bm1 {T id : String} {name : Str} (pa : PlainAttrs T) (slot : Slot T name id) (hty : typeOf (.builtin id) = pure (.type "method_descriptor")) (h : W X o σ H fun x H1 => tyV X.K T x H1 ∧ W X a σ H1 fun y H2 => MtV X id x [y] H2 Q)
    (hbase : attributeBase o name X.env (eval o X.env) = eval o X.env := by rfl)
    (hfew : methodCallForm ([a].length + ([] : List Keyword).length + if ([] : List Keyword).isEmpty = true then 0 else 1) (backTo pos (starEach [a] X.env)) (backToKw pos (keywordEach [] X.env)) = true := by rfl)
    (hline : (apos.endLine == pos.line) = true := by rfl) (hs : starEach [a] X.env = (false, eval a X.env) :: starEach [] X.env := by rfl) (hpl : (backTo pos (starEach [] X.env)).any (·.1) = false := by rfl) :
    W X (.Call (.Attribute o name apos) [a] [] pos) σ H Q := by
  refine W.of (pe_bm pa slot hty mtV_r W.pe WA.pa hbase hfew hline hs hpl) ?_
  show W X o σ H _
  exact W.mono h fun x H1 ⟨t, h2⟩ => ⟨t, wa_cons (W.mono h2 fun y H2 q => wa_nil q) hs⟩
theorem tyV_list {x : V} {K : PySem.W.Frag} (h : ∃ l xs, x = .ref l ∧ SqL K H l xs) : tyV K "list" x H := by
  obtain ⟨l, xs, rfl, hl⟩ := h
  exact .inl ⟨rfl, _, hl⟩
theorem mv_append {l : Addr} {xs : List V} {y : V} (hl : H l = some (.lst xs)) (hz : xs.length < sizeLine) (q : Q .non (upd H l (.lst (xs ++ [y])))) : MtV X "list.append" (.ref l) [y] H Q := ⟨_, mt_append, l, xs, y, rfl, rfl, hl, hz, q⟩
theorem mv_extend {l b : Addr} {xs zs : List V} (hl : H l = some (.lst xs)) (hb : H b = some (.lst zs)) (hz : xs.length + zs.length ≤ sizeLine) (q : Q .non (upd H l (.lst (xs ++ zs)))) : MtV X "list.extend" (.ref l) [.ref b] H Q := ⟨_, mt_extend, l, b, xs, zs, rfl, rfl, hl, hb, hz, q⟩
theorem mv_popAt {l : Addr} {xs : List V} {i : Int} {y : V} (hl : H l = some (.lst xs)) (h0 : 0 ≤ i) (h1 : i.toNat < xs.length) (h2 : i < 2 ^ 62) (hy : xs[i.toNat]? = some y) (q : Q y (upd H l (.lst (xs.eraseIdx i.toNat)))) : MtV X "list.pop" (.ref l) [.int i] H Q :=
  ⟨_, mt_popAt, l, xs, i, i.toNat, y, rfl, rfl, hl, by omega, by omega, seqIndex_of h0 (by omega), hy, q⟩
theorem w_pop0 (h : W X o σ H fun x H1 => ∃ l xs y, x = .ref l ∧ H1 l = some (.lst xs) ∧ xs[xs.length - 1]? = some y ∧ Q y (upd H1 l (.lst xs.dropLast)))
    (hbase : attributeBase o "pop" X.env (eval o X.env) = eval o X.env := by rfl) (hline : (apos.endLine == pos.line) = true := by rfl) : W X (.Call (.Attribute o "pop" apos) [] [] pos) σ H Q := by
  refine W.of (pe_bm0 PySem.F.plainAttrs_list PySem.F.slot_list_pop PySem.F.type_list_pop mt_pop W.pe hbase hline) ?_
  show W X o σ H _
  refine W.mono h fun x H1 ⟨l, xs, y, ex, hl, hy, q⟩ => ⟨?_, l, xs, y, ex, rfl, hl, hy, q⟩
  subst ex
  exact .inl ⟨rfl, _, SqL.of hl⟩
/-! ### statements -/
theorem ws_par (i j : Nat) {x y : Str} {px py pt : Pos} {kt k2 pt2} (h : WA X [a, b] σ H fun vs H1 => ∃ v w, vs = [v, w] ∧ D.nx ((σ.set i (some v)).set j (some w)) H1) (hi : X.N[i]? = some x) (hj : X.N[j]? = some y) (hN : X.N.Nodup) (hc : X.calm = true := by rfl) (hij : i ≠ j := by decide)
    (hx : X.env.scope.names.lookup x = some .local := by rfl) (hy : X.env.scope.names.lookup y = some .local := by rfl)
    (hw : swappedStores [.Tuple [.Name x px, .Name y py] kt pt] (.Tuple [a, b] k2 pt2) X.env = pure (some [x, y]) := by rfl)
    (hs : swapsWithSole [.Tuple [.Name x px, .Name y py] kt pt] (.Tuple [a, b] k2 pt2) pos.line X.env = pure false := by rfl) :
    WS X (.Assign [.Tuple [.Name x px, .Name y py] kt pt] (.Tuple [a, b] k2 pt2) pos) D σ H := WS.of (ps_par hc hN hi hj hij hx hy WA.pa hw hs) h
theorem ws_tup2 (i j : Nat) {x y : Str} {px py pt : Pos} {kt} (h : W X e σ H fun v H1 => ∃ a v1 v2, v = .ref a ∧ SqT X.K H1 a [v1, v2] ∧ D.nx ((σ.set i (some v1)).set j (some v2)) H1) (hi : X.N[i]? = some x) (hj : X.N[j]? = some y) (hN : X.N.Nodup) (hc : X.calm = true := by rfl)
    (hx : Loc X.env.scope x := by first | exact Or.inl rfl | exact Or.inr rfl) (hy : Loc X.env.scope y := by first | exact Or.inl rfl | exact Or.inr rfl)
    (hfx : X.fn x = true ∨ X.env.scope.names.lookup x = some .local := by first | exact Or.inl rfl | exact Or.inr rfl) (hfy : X.fn y = true ∨ X.env.scope.names.lookup y = some .local := by first | exact Or.inl rfl | exact Or.inr rfl)
    (hs : swapsWithSole [.Tuple [.Name x px, .Name y py] kt pt] e pos.line X.env = pure false := by rfl) (hw : swappedStores [.Tuple [.Name x px, .Name y py] kt pt] e X.env = pure none := by rfl)
    (h1 : (assignEach [.Tuple [.Name x px, .Name y py] kt pt] X.env).map (·.2) = [assign (.Tuple [.Name x px, .Name y py] kt pt) X.env] := by rfl)
    (h2 : (assignEach (Expr.Name x px :: [.Name y py]) X.env).map (·.2) = assign (.Name x px) X.env :: (assignEach [.Name y py] X.env).map (·.2) := by rfl)
    (h3 : (assignEach (Expr.Name y py :: []) X.env).map (·.2) = assign (.Name y py) X.env :: (assignEach [] X.env).map (·.2) := by rfl)
    (h4 : (assignEach [.Name x px, .Name y py] X.env).length = 2 := by rfl) (h5 : (assignEach [.Name x px, .Name y py] X.env).findIdx? (·.1) = none := by rfl) :
    WS X (.Assign [.Tuple [.Name x px, .Name y py] kt pt] e pos) D σ H := by
  refine WS.of (ps_asg W.pe (pg_tup (n := 2) hc (pgs_cons (pg_name hN hi hx hfx) (pgs_cons (pg_name hN hj hy hfy) pgs_nil h3) h2) h4 h5) hs hw h1) ?_
  show W X e σ H _
  refine W.mono h fun v H1 ⟨a, v1, v2, ev, ha, q⟩ => ⟨a, [v1, v2], ev, ha, rfl, v1, [v2], rfl, v2, [], rfl, rfl, q⟩
/-- while, by what holds ahead of each turn, with a number that falls -/
theorem ws_while {c : Expr} {body : List Stmt} (I : Nat → L2.St → Hp → Prop) (h0 : ∃ m, I m σ H)
    (hs : ∀ m σ H, I m σ H → WT X c σ H fun k H1 => if k = true then WB X body { D with nx := fun σ' H' => ∃ m', m' < m ∧ I m' σ' H', ct := fun σ' H' => ∃ m', m' < m ∧ I m' σ' H', bk := D.nx } σ H1 else D.nx σ H1)
    (hp : PassesOwn (model X.prog X.w) X.A X.env X.xe) : WS X (.While c body [] pos) D σ H := by
  refine WS.of (ps_while hp WT.pt WB.pss) ⟨I, h0, fun m σ H i => WT.mono (hs m σ H i) fun k H1 q => ?_⟩
  cases k with
  | true => exact ⟨_, fun σ' H' z => z, q⟩
  | false => exact q
/-- for over a walk of fixed items -/
theorem ws_for {iter : Expr} {body : List Stmt} {x : Str} {px : Pos} (i : Nat) (h : WI X (.Name x px) iter σ H fun J H1 => ∃ n G Y, Walk J n G Y ∧ ∃ I : Nat → L2.St → Hp → Prop, I 0 σ H1 ∧ (∀ i σ H, i ≤ n → I i σ H → G H) ∧
      (∀ j v σ H H', j < n → I j σ H → Y j H v H' → WB X body { D with nx := I (j + 1), ct := I (j + 1), bk := D.nx } (σ.set i (some v)) H') ∧ ∀ σ H, I n σ H → D.nx σ H)
    (hi : X.N[i]? = some x) (hN : X.N.Nodup) (hp : PassesOwn (model X.prog X.w) X.A X.env X.xe) (hc : X.calm = true := by rfl) (hx : Loc X.env.scope x := by first | exact Or.inl rfl | exact Or.inr rfl)
    (hf : X.fn x = true ∨ X.env.scope.names.lookup x = some .local := by first | exact Or.inl rfl | exact Or.inr rfl) (hs : ∀ x, foldedSetIterable iter X.env x = pure x := by intro _; rfl) : WS X (.For (.Name x px) iter body [] pos) D σ H := by
  refine WS.of (ps_for hp hc WI.pi (pg_name hN hi hx hf) WB.pss hs) ?_
  refine ⟨fun pins s I => thn (h.run pins s I) fun v s1 z => thn z fun it s2 q => ?_⟩
  obtain ⟨it', fp, tn, J, H1, e, I2, T, t0, f0, n, G, Y, wk, Iv, i0, hG, hst, hd⟩ := q
  exact ⟨it', fp, tn, J, H1, e, I2, T, t0, f0, for_it wk Iv i0 hG (fun j v σ H H' hj hI y => hst j v σ H H' hj hI y) hd⟩
/-! ### raise X('..'), X over ValueError without own __init__ -/
structure ErrC (K : PySem.W.Frag) (mg : Str → Option Value) (x : Str) (C : Addr) : Prop where
  g : mg x = some (.ref C)
  x : PySem.W.excIn K C He.veBase "ValueError.__new__" = true
  k : PySem.W.keepIn K (.ref C) = true
  b : PySem.W.subIn K (.ref C) (.type "BaseException") = some true
  t : PySem.W.typeIn K (.ref C) = some (.type "type")
theorem ws_raise {x m : Str} {C : Addr} {j : Nat} {p p2 cpos : Pos} {Wx : WX} (hC : ErrC X.K X.mg x C) (tk : Takes X Wx) (h : Wx (.ref C) none σ H) (hc : X.calm = true := by rfl) (hg : Gl X x := by rfl) (hdb : (x == ("__debug__" : Str)) = false := by decide) :
    WS X (.Raise (some (.Call (.Name x p) [.Constant (.str m) j p2] [] cpos)) none pos) D σ H :=
  WS.of (ps_raise hc tk (pmk_own PySem.F.excBase_ValueError hC.x hC.g hC.k (raises_own hC.b hC.t) hg hdb)) h
theorem errC_of {K : PySem.W.Frag} {h : Heap} {mg : Str → Option Value} {x : Str} (I : K.In h) (G : h.Ns mainGlobals mg) (c : (He.Fa.glo x).ok K = true) (c2 : (He.Fa.exc x).ok K = true) : ErrC K mg x (He.ga K x) := by
  obtain ⟨h1, h2, h3, h4⟩ := He.exc_ok c2
  exact ⟨He.glo_ok I G c, h1, h2, h3, h4⟩
/-! ### lists of things by a relation -/
inductive All2 {β α : Type} (R : β → α → Prop) : List β → List α → Prop
  | nil : All2 R [] []
  | cons {x a xs as} : R x a → All2 R xs as → All2 R (x :: xs) (a :: as)
theorem All2.imp {β α : Type} {R S : β → α → Prop} (k : ∀ x a, R x a → S x a) : ∀ {xs : List β} {as : List α}, All2 R xs as → All2 S xs as
  | _, _, .nil => .nil
  | _, _, .cons r t => .cons (k _ _ r) (All2.imp k t)
theorem All2.app {β α : Type} {R : β → α → Prop} : ∀ {xs ys : List β} {as bs : List α}, All2 R xs as → All2 R ys bs → All2 R (xs ++ ys) (as ++ bs)
  | _, _, _, _, .nil, h => h
  | _, _, _, _, .cons r t, h => .cons r (All2.app t h)
theorem All2.one {β α : Type} {R : β → α → Prop} {x : β} {a : α} (h : R x a) : All2 R [x] [a] := .cons h .nil
theorem All2.len {β α : Type} {R : β → α → Prop} : ∀ {xs : List β} {as : List α}, All2 R xs as → xs.length = as.length
  | _, _, .nil => rfl
  | _, _, .cons _ t => by simp [All2.len t]
theorem All2.last {β α : Type} {R : β → α → Prop} : ∀ {xs : List β} {as : List α}, All2 R xs as → xs ≠ [] → ∃ x a ys bs, xs = ys ++ [x] ∧ as = bs ++ [a] ∧ R x a ∧ All2 R ys bs
  | _, _, .nil, h => absurd rfl h
  | _, _, .cons (x := x) (a := a) r .nil, _ => ⟨x, a, [], [], rfl, rfl, r, .nil⟩
  | _, _, .cons (x := x) (a := a) r (.cons r' t), _ => by
    obtain ⟨y, b, ys, bs, e1, e2, r2, t2⟩ := All2.last (.cons r' t) (by simp)
    exact ⟨y, b, x :: ys, a :: bs, by rw [e1]; rfl, by rw [e2]; rfl, r2, .cons r t2⟩
/-! ### xs != [] -/
theorem cv_ne_nil {p q : Addr} {xs : List V} (hu : X.A.units < cLine) (hp : SqL X.K H p xs) (hq : SqL X.K H q []) (h : Q (.bl (!xs.isEmpty)) H) : CmpV X .NotEq (.ref p) (.ref q) H Q := by
  refine ⟨fun x y H Q => x = .ref p ∧ y = .ref q ∧ SqL X.K H p xs ∧ SqL X.K H q [] ∧ Q (.bl (!xs.isEmpty)) H, ?_, rfl, rfl, hp, hq, h⟩
  rintro pins s σ H x y v u Q I rx ry ⟨rfl, rfl, h1, h2, q⟩
  cases rx
  cases ry
  obtain ⟨its, r, pl, _⟩ := I.list h1
  obtain ⟨its2, r2, pl2, _⟩ := I.list h2
  cases r2
  have hl := r.length
  cases xs with
  | nil =>
    cases r
    exact SeqAt.RcNeAt.lists (e := fun _ => true) pl.isList pl2.isList rfl hu (fun j h1 _ => absurd h1 (by simp)) _ _ _ _ ⟨.bl _, H, I, rfl, q⟩
  | cons y ys =>
    cases r with
    | cons r1 rt => exact SeqAt.RcNeAt.lists_lengths pl.isList pl2.isList (by simp) hu _ _ _ _ ⟨.bl _, H, I, rfl, q⟩
end
end Ax
end
section
set_option maxHeartbeats 2000000
namespace Ax
open PySem PySem.Spec PyProof.Rows L2
section
variable {X : Cx} {iter elt kx vx tg : Expr} {ifs : List Expr} {σ : L2.St} {H : Hp} {Q : VK} {pos : Pos} {scope : Scope}
/-- all blocks of a comprehension -/
def Blk (X : Cx) (scope : Scope) (P : Cx → Prop) : Prop := ∀ (s : Shared) (H : Hp) (C : Addr) (cl : List (Str × Addr)) (fp : List Addr), P (X.blk s H scope (compEnvC scope cl C X.env) fp)
/-- items by their places, left out or making something -/
inductive RelI {β : Type} (N : Nat → Prop) (R : Nat → β → Prop) : Nat → List β → Prop
  | nil : RelI N R 0 []
  | drop {n ys} : N n → RelI N R n ys → RelI N R (n + 1) ys
  | keep {n y ys} : R n y → RelI N R n ys → RelI N R (n + 1) (ys ++ [y])
namespace RelI
variable {β : Type} {N : Nat → Prop} {R S : Nat → β → Prop}
theorem imp (k : ∀ x y, R x y → S x y) : ∀ {n : Nat} {ys : List β}, RelI N R n ys → RelI N S n ys
  | _, _, .nil => .nil
  | _, _, .drop n t => .drop n (imp k t)
  | _, _, .keep r t => .keep (k _ _ r) (imp k t)
theorem len : ∀ {n : Nat} {ys : List β}, RelI N R n ys → ys.length ≤ n
  | _, _, .nil => Nat.le_refl _
  | _, _, .drop _ t => Nat.le_succ_of_le (len t)
  | _, _, .keep _ t => by
    have := len t
    simp only [List.length_append, List.length_singleton]
    omega
/-- .. over data ds: those that f tells -/
theorem data {α γ : Type} {T : β → γ → Prop} {ds : List α} (f : α → Option γ) (hN : ∀ j d, ds[j]? = some d → N j → f d = none) (hR : ∀ j d y, ds[j]? = some d → R j y → ∃ e, f d = some e ∧ T y e) :
    ∀ {n : Nat} {ys : List β}, n ≤ ds.length → RelI N R n ys → ∃ es, (ds.take n).filterMap f = es ∧ All2 T ys es := by
  intro n ys hn h
  induction h with
  | nil => exact ⟨[], rfl, .nil⟩
  | @drop n ys h _ ih =>
    obtain ⟨es, e, q⟩ := ih (by omega)
    have hd : ds[n]? = some ds[n] := List.getElem?_eq_getElem (by omega)
    refine ⟨es, ?_, q⟩
    rw [List.take_add_one, hd, List.filterMap_append, e]
    simp [hN n _ hd h]
  | @keep n y ys h _ ih =>
    obtain ⟨es, e, q⟩ := ih (by omega)
    have hd : ds[n]? = some ds[n] := List.getElem?_eq_getElem (by omega)
    obtain ⟨e1, h1, h2⟩ := hR n _ y hd h
    refine ⟨es ++ [e1], ?_, ?_⟩
    · rw [List.take_add_one, hd, List.filterMap_append, e]
      simp [h1]
    · exact q.app (.one h2)
end RelI
/-- a list comprehension with any target and tests: N tells who is left out, R what becomes of whom -/
abbrev LcG (X : Cx) (tg iter elt : Expr) (scope : Scope) (own : List (Str × Nat)) (g : TG) (tt : TT) (σ : L2.St) (H : Hp) (Q : VK) : Prop := WI X tg iter σ H fun J H1 => ∃ xs, SeqIt J H1 xs ∧ xs.length < sizeLine ∧ ∃ (N : Nat → Prop) (R : Nat → V → Hp → Prop), (∀ x y Ha Hb, R x y Ha → Sl Ha Hb → R x y Hb) ∧
      (∀ j v, xs[j]? = some v → ∀ H2, Same H1 H2 → ∀ (Kf : Hp → Prop) (Kt : VK), (N j → ∀ H3, Same H2 H3 → Kf H3) → (∀ y H3, Same H2 H3 → R j y H3 → Kt y H3) →
        g v (wipe σ (own.map (·.2))) H2 fun σ2 H3 => wipe σ2 (own.map (·.2)) = wipe σ (own.map (·.2)) ∧ tt σ2 H3 fun b H4 => if b = true then (Blk X scope fun Y => W Y elt σ2 H4 Kt) else Kf H4) ∧
      ∀ q ys H2, Same H1 H2 → H1 q = none → H2 q = some (.lst ys) → RelI N (fun x y => R x y H2) xs.length ys → Q (.ref q) H2
theorem lcG_t {own : List (Str × Nat)} {g : TG} {tt : TT} (h : LcG X tg iter elt scope own g tt σ H Q) : tLc (WI X tg iter) g tt (fun σ2 H2 K => Blk X scope fun Y => W Y elt σ2 H2 K) (own.map (·.2)) σ H Q := by
  refine ⟨fun pins s I => thn (h.run pins s I) fun v s1 z => thn z fun it s2 q => ?_⟩
  obtain ⟨it', fp, tn, J, H1, e, I2, T, t0, f0, xs, ⟨G, wk, g0, gs⟩, hlen, N, R, hst, hel, hend⟩ := q
  refine ⟨it', fp, tn, J, H1, e, I2, T, t0, f0, fun Dd nD => ?_⟩
  refine lc_it (H1 := H1) (D := Dd) (g := g) (tt := tt) (te := fun σ2 H2 K => Blk X scope fun Y => W Y elt σ2 H2 K) (vs := own.map (·.2)) (σ := σ) (Qd := fun H2 => Q (.ref Dd) H2) wk
    (fun j H2 => ∃ ys, Same H1 H2 ∧ H2 Dd = some (.lst ys) ∧ RelI N (fun x y => R x y H2) j ys) ⟨[], same_new nD, upd_same, .nil⟩ (fun j H2 _ ⟨ys, sm, hD, _⟩ => gs _ sm) ?_ ?_
  · rintro j v H2 H2' hj ⟨ys, s12, hD, rel⟩ ⟨eH, hv⟩
    subst eH
    refine hel j v hv _ s12 _ _ (fun c H3 s23 => ?_) (fun y H3 s23 r => ?_)
    · refine ⟨ys, s12.trans s23, s23 _ _ hD, ?_⟩
      exact .drop c (rel.imp fun a b q => hst _ _ _ _ q (Sl.of s23))
    · have hD3 := s23 _ _ hD
      have hl : ys.length < sizeLine := by
        have e1 := rel.len
        omega
      refine ⟨ys, hD3, hl, ys ++ [y], same_upd (s12.trans s23) nD, upd_same, ?_⟩
      have sl : Sl H3 (upd H3 Dd (.lst (ys ++ [y]))) := (Sl.refl H3).lst hD3
      exact .keep (R := fun x y => R x y _) (hst _ _ _ _ r sl) (rel.imp fun a b q => hst _ _ _ _ q ((Sl.of s23).trans sl))
  · rintro H2 ⟨ys, s12, hD, rel⟩
    exact hend Dd ys H2 s12 nD hD rel
theorem w_lcG (own : List (Str × Nat)) (g : TG) (tt : TT) (hg : Blk X scope fun Y => PG Y tg g) (ht : Blk X scope fun Y => PTs Y ifs tt) (hc : X.calm = true) (hN : X.N.Nodup) (ok : BlkOk X.N X.env.scope scope own)
    (h : LcG X tg iter elt scope own g tt σ H Q)
    (hs : ∀ x, foldedSetIterable iter X.env x = pure x := by intro _; rfl) : W X (.ListComp elt [⟨tg, iter, ifs, 0⟩] scope pos) σ H Q := by
  exact W.of (pe_lc (own := own) (g := g) (tt := tt) (te := fun σ2 H2 K => Blk X scope fun Y => W Y elt σ2 H2 K) hc hN WI.pi ok hg ht
    (fun s H C cl fp => ⟨fun pins s' σ' H' Q' I' h' => (h' s H C cl fp).run pins s' I'⟩) hs) (lcG_t h)
theorem ws_setLcG {D : Ends} {y : Str} {py spos : Pos} (i : Nat) (own : List (Str × Nat)) (g : TG) (tt : TT) (hg : Blk X scope fun Y => PG Y tg g) (ht : Blk X scope fun Y => PTs Y ifs tt) (hc : X.calm = true) (hN : X.N.Nodup) (ok : BlkOk X.N X.env.scope scope own) (hy : X.N[i]? = some y)
    (h : LcG X tg iter elt scope own g tt σ H fun v H1 => D.nx (σ.set i (some v)) H1) (hyl : X.env.scope.names.lookup y = some .local := by rfl) (hsw : swapsWith (.ListComp elt [⟨tg, iter, ifs, 0⟩] scope pos) (some (.Name y py)) spos.line X.env = pure true := by exact sw_true rfl rfl rfl rfl)
    (hs : ∀ x, foldedSetIterable iter X.env x = pure x := by intro _; rfl) : WS X (.Assign [.Name y py] (.ListComp elt [⟨tg, iter, ifs, 0⟩] scope pos) spos) D σ H :=
  WS.of (ps_setLc (own := own) (g := g) (tt := tt) (te := fun σ2 H2 K => Blk X scope fun Y => W Y elt σ2 H2 K) hc hN hy hyl hsw WI.pi ok hg ht
    (fun s H C cl fp => ⟨fun pins s' σ' H' Q' I' h' => (h' s H C cl fp).run pins s' I'⟩) hs) (lcG_t h)
/-- places of two lists -/
theorem All2.at {β α : Type} {R : β → α → Prop} {xs : List β} {as : List α} (h : All2 R xs as) : ∀ {j : Nat} {x : β}, xs[j]? = some x → ∃ a, as[j]? = some a ∧ R x a := by
  induction h with
  | nil => intro j x e; simp at e
  | cons r _ ih =>
    intro j x e
    cases j with
    | zero =>
      simp at e
      subst e
      exact ⟨_, rfl, r⟩
    | succ j => exact ih (by simpa using e)
theorem All2.atR {β α : Type} {R : β → α → Prop} {xs : List β} {as : List α} (h : All2 R xs as) : ∀ {j : Nat} {a : α}, as[j]? = some a → ∃ x, xs[j]? = some x ∧ R x a := by
  induction h with
  | nil => intro j x e; simp at e
  | cons r _ ih =>
    intro j x e
    cases j with
    | zero =>
      simp at e
      subst e
      exact ⟨_, rfl, r⟩
    | succ j => exact ih (by simpa using e)
theorem All2.mapL {β γ : Type} {f : γ → β} {xs : List β} {cs : List γ} (h : All2 (fun x c => x = f c) xs cs) : xs = cs.map f := by
  induction h with
  | nil => rfl
  | cons e _ ih => rw [e, ih]; rfl
/-- the keys that were put in -/
theorem putK_keys {d : List (Key × V)} {k : Key} {v : V} : (k ∈ d.map (·.1) ∧ (putK d k v).map (·.1) = d.map (·.1)) ∨ (k ∉ d.map (·.1) ∧ (putK d k v).map (·.1) = d.map (·.1) ++ [k]) := by
  unfold putK
  cases e : d.any fun kv => decide (kv.1 = k) with
  | true =>
    left
    obtain ⟨kv, h1, h2⟩ := List.any_eq_true.mp e
    refine ⟨List.mem_map.mpr ⟨kv, h1, of_decide_eq_true h2⟩, ?_⟩
    rw [if_pos rfl, List.map_map]
    refine List.map_congr_left fun kv _ => ?_
    show (if kv.1 = k then (kv.1, v) else kv).1 = kv.1
    split <;> rfl
  | false =>
    right
    refine ⟨fun h => ?_, ?_⟩
    · obtain ⟨kv, h1, h2⟩ := List.mem_map.mp h
      have h3 := List.any_eq_false.mp e kv h1
      exact h3 (decide_eq_true h2)
    · rw [if_neg Bool.false_ne_true]
      simp
/-- the dict of pairs put in one behind another -/
def putAll (ys : List (Key × V)) : List (Key × V) := ys.foldl (fun d kv => putK d kv.1 kv.2) []
theorem putAll_snoc {ys : List (Key × V)} {k : Key} {v : V} : putAll (ys ++ [(k, v)]) = putK (putAll ys) k v := by
  unfold putAll
  rw [List.foldl_append]
  rfl
theorem putAll_mem (ys : List (Key × V)) : ((putAll ys).map (·.1)).Nodup ∧ ∀ k, k ∈ (putAll ys).map (·.1) ↔ k ∈ ys.map (·.1) := by
  have h : ∀ (zs d : List (Key × V)), (d.map (·.1)).Nodup → ((zs.foldl (fun d kv => putK d kv.1 kv.2) d).map (·.1)).Nodup ∧ ∀ k, k ∈ (zs.foldl (fun d kv => putK d kv.1 kv.2) d).map (·.1) ↔ k ∈ d.map (·.1) ∨ k ∈ zs.map (·.1) := by
    intro zs
    induction zs with
    | nil => intro d n; exact ⟨n, fun k => by simp⟩
    | cons z zs ih =>
      intro d n
      have e := putK_keys (d := d) (k := z.1) (v := z.2)
      have n2 : ((putK d z.1 z.2).map (·.1)).Nodup := by
        rcases e with ⟨_, e⟩ | ⟨c, e⟩
        · rw [e]; exact n
        · rw [e, List.nodup_append]
          refine ⟨n, by simp, fun a ha b hb => ?_⟩
          rw [List.mem_singleton.mp hb]
          rintro rfl
          exact c ha
      obtain ⟨h1, h2⟩ := ih (putK d z.1 z.2) n2
      refine ⟨h1, fun k => ?_⟩
      rw [List.foldl_cons, h2 k, List.map_cons, List.mem_cons]
      rcases e with ⟨c, e⟩ | ⟨c, e⟩
      · rw [e]
        constructor
        · rintro (h | h)
          · exact .inl h
          · exact .inr (.inr h)
        · rintro (h | h | h)
          · exact .inl h
          · rw [h]; exact .inl c
          · exact .inr h
      · rw [e, List.mem_append, List.mem_singleton, or_assoc]
  obtain ⟨h1, h2⟩ := h ys [] (by simp)
  exact ⟨h1, fun k => (h2 k).trans (by simp)⟩
theorem nodup_len {α : Type} [DecidableEq α] : ∀ {xs L : List α}, xs.Nodup → (∀ z ∈ xs, z ∈ L) → xs.length ≤ L.length
  | [], _, _, _ => Nat.zero_le _
  | x :: xs, L, n, h => by
    have n := List.nodup_cons.mp n
    have h1 := nodup_len (xs := xs) (L := L.erase x) n.2 fun z hz => (List.mem_erase_of_ne (by rintro rfl; exact n.1 hz)).mpr (h z (List.mem_cons_of_mem _ hz))
    have h2 := List.length_erase_of_mem (h x List.mem_cons_self)
    have h3 : 0 < L.length := List.length_pos_of_mem (h x List.mem_cons_self)
    simp only [List.length_cons]
    omega
theorem putAll_len : ∀ ys : List (Key × V), (putAll ys).length ≤ ys.length := by
  intro ys
  have h : ∀ (zs d : List (Key × V)), (zs.foldl (fun d kv => putK d kv.1 kv.2) d).length ≤ d.length + zs.length := by
    intro zs
    induction zs with
    | nil => intro d; exact Nat.le_refl _
    | cons z zs ih =>
      intro d
      have h1 := ih (putK d z.1 z.2)
      have h2 := length_putK d z.1 z.2
      show (zs.foldl _ (putK d z.1 z.2)).length ≤ _
      simp only [List.length_cons]
      omega
  have e := h ys []
  rw [List.length_nil, Nat.zero_add] at e
  exact e
/-- a dict comprehension, keys ints or texts -/
theorem w_dcG (own : List (Str × Nat)) (g : TG) (tt : TT) (hg : Blk X scope fun Y => PG Y tg g) (ht : Blk X scope fun Y => PTs Y ifs tt) (hc : X.calm = true) (hN : X.N.Nodup) (ok : BlkOk X.N X.env.scope scope own)
    (h : WI X tg iter σ H fun J H1 => ∃ xs, SeqIt J H1 xs ∧ xs.length < sizeLine ∧ ∃ (N : Nat → Prop) (R : Nat → Key → V → Hp → Prop), (∀ x k y Ha Hb, R x k y Ha → Sl Ha Hb → R x k y Hb) ∧
      (∀ j v, xs[j]? = some v → ∀ H2, Same H1 H2 → ∀ (Kf : Hp → Prop) (Kt : V → V → Hp → Prop), (N j → ∀ H3, Same H2 H3 → Kf H3) → (∀ k y H3, Same H2 H3 → R j k y H3 → Kt (kV k) y H3) →
        g v (wipe σ (own.map (·.2))) H2 fun σ2 H3 => wipe σ2 (own.map (·.2)) = wipe σ (own.map (·.2)) ∧ tt σ2 H3 fun b H4 => if b = true then (Blk X scope fun Y => W Y kx σ2 H4 fun y H5 => Blk X scope fun Y => W Y vx σ2 H5 fun z H6 => Kt y z H6) else Kf H4) ∧
      ∀ q ys H2, H1 q = none → H2 q = some (.dK (putAll ys)) → Same H1 H2 → RelI N (fun x (ky : Key × V) => R x ky.1 ky.2 H2) xs.length ys → Q (.ref q) H2)
    (hs : ∀ x, foldedSetIterable iter X.env x = pure x := by intro _; rfl) : W X (.DictComp kx vx [⟨tg, iter, ifs, 0⟩] scope pos) σ H Q := by
  refine W.of (pe_dc (own := own) (g := g) (tt := tt) (tk := fun σ2 H2 K => Blk X scope fun Y => W Y kx σ2 H2 K) (tv := fun σ2 H2 K => Blk X scope fun Y => W Y vx σ2 H2 K) hc hN WI.pi ok hg ht
    (fun s H C cl fp => ⟨fun pins s' σ' H' Q' I' h' => (h' s H C cl fp).run pins s' I'⟩) (fun s H C cl fp => ⟨fun pins s' σ' H' Q' I' h' => (h' s H C cl fp).run pins s' I'⟩) hs) ?_
  refine ⟨fun pins s I => thn (h.run pins s I) fun v s1 z => thn z fun it s2 q => ?_⟩
  obtain ⟨it', fp, tn, J, H1, e, I2, T, t0, f0, xs, ⟨G, wk, g0, gs⟩, hlen, N, R, hst, hel, hend⟩ := q
  refine ⟨it', fp, tn, J, H1, e, I2, T, t0, f0, fun D nD => ?_⟩
  let Pv : Nat → Hp → Prop := fun j H2 => ∃ ys, Same H1 H2 ∧ H2 D = some (.dK (putAll ys)) ∧ RelI N (fun x (ky : Key × V) => R x ky.1 ky.2 H2) j ys
  refine ⟨fun i m H => m = xs.length - i ∧ i ≤ xs.length ∧ Pv i H, ⟨xs.length, by simp, Nat.zero_le _, [], same_new nD, upd_same, .nil⟩, ?_⟩
  rintro j m H2 ⟨rfl, hi, ys, s12, hD, rel⟩
  have gq := gs _ s12
  by_cases hlt : j < xs.length
  · refine .inr ⟨wk.goes j H2 hlt gq, Pv (j + 1), fun H' p' => ⟨xs.length - (j + 1), by omega, rfl, hlt, p'⟩, fun v H2' y => ?_⟩
    obtain ⟨eH, hv⟩ := wk.yields j H2 v H2' hlt gq y
    subst eH
    refine hel j v hv _ s12 _ (fun y z H4 => ∃ kvs k, y = kV k ∧ H4 D = some (.dK kvs) ∧ kvs.length < sizeLine ∧ Pv (j + 1) (upd H4 D (.dK (putK kvs k z)))) (fun c H3 s23 => ?_) (fun k y H3 s23 r => ?_)
    · refine ⟨ys, s12.trans s23, s23 _ _ hD, ?_⟩
      exact .drop c (rel.imp fun a b q => hst _ _ _ _ _ q (Sl.of s23))
    · have hD3 := s23 _ _ hD
      have hl : (putAll ys).length < sizeLine := by
        have e0 := putAll_len ys
        have e1 := rel.len
        omega
      refine ⟨_, k, rfl, hD3, hl, ys ++ [(k, y)], same_upd (s12.trans s23) nD, ?_, ?_⟩
      · rw [putAll_snoc]
        exact upd_same
      · have sl : Sl H3 (upd H3 D (.dK (putK (putAll ys) k y))) := (Sl.refl H3).upd hD3 rfl
        exact .keep (R := fun x (ky : Key × V) => R x ky.1 ky.2 _) (hst _ _ _ _ _ r sl) (rel.imp fun a b q => hst _ _ _ _ _ q ((Sl.of s23).trans sl))
  · have e : j = xs.length := by omega
    subst e
    exact .inl ⟨wk.stops _ gq, hend D ys H2 nD hD s12 rel⟩
/-! ### calls by values -/
theorem kv_maxL {p : Addr} {ns : List Int} (hc : X.calm = true) (hp : SqL X.K H p (ns.map V.int)) (hn : 0 < ns.length) (h : ∀ m, m ∈ ns → (∀ y, y ∈ ns → y ≤ m) → Q (.int m) H) : CallV X (.builtin "max") [.ref p] H Q := ⟨_, cr_max hc, p, ns, rfl, hp, hn, h⟩
theorem kv_minL {p : Addr} {ns : List Int} (hc : X.calm = true) (hp : SqL X.K H p (ns.map V.int)) (hn : 0 < ns.length) (h : ∀ m, m ∈ ns → (∀ y, y ∈ ns → m ≤ y) → Q (.int m) H) : CallV X (.builtin "min") [.ref p] H Q := ⟨_, cr_min hc, p, ns, rfl, hp, hn, h⟩
theorem kv_sumL {p : Addr} {ns : List Int} (hc : X.calm = true) (hp : SqL X.K H p (ns.map V.int)) (h : Q (.int ns.sum) H) : CallV X (.builtin "sum") [.ref p] H Q := ⟨_, cr_sum hc, p, ns, rfl, hp, h⟩
theorem kv_sortedS {p : Addr} {xs : List Str} (hp : SqL X.K H p (xs.map V.str)) (hn : xs.length < 64) (h : ∀ ys q H2, ys.Perm xs → sortedS ys = true → Same H H2 → H q = none → H2 q = some (.lst (ys.map V.str)) → Q (.ref q) H2) : CallV X (.builtin "sorted") [.ref p] H Q :=
  ⟨_, cr_sortedS, p, xs, rfl, hp, hn, fun ys q h1 h2 h3 => h ys q _ h1 h2 (same_new h3) h3 upd_same⟩
theorem kv_sortedD {p : Addr} {kvs : List (Key × V)} {ks : List Str} (hc : X.calm = true) (hp : H p = some (.dK kvs)) (hk : kvs.map (·.1) = ks.map Sum.inr) (hn : ks.length < 64) (h : ∀ ys q H2, ys.Perm ks → sortedS ys = true → Same H H2 → H q = none → H2 q = some (.lst (ys.map V.str)) → Q (.ref q) H2) : CallV X (.builtin "sorted") [.ref p] H Q :=
  ⟨_, call_sortedD hc, p, kvs, ks, rfl, Rd.of hp, hk, hn, fun ys q h1 h2 h3 => h ys q _ h1 h2 (same_new h3) h3 upd_same⟩
theorem kv_tupleL {p : Addr} {xs : List V} (hp : SqL X.K H p xs) (h : ∀ q H2, Same H H2 → H q = none → H2 q = some (.tup xs) → Q (.ref q) H2) : CallV X (.type "tuple") [.ref p] H Q :=
  ⟨_, call_tuple_of, p, xs, rfl, .inl ⟨hp, fun q h3 => h q _ (same_new h3) h3 upd_same⟩⟩
theorem kv_listS {p : Addr} {xs : List V} (hp : SqL X.K H p xs ∨ SqT X.K H p xs) (h : ∀ q H2, Same H H2 → H q = none → H2 q = some (.lst xs) → Q (.ref q) H2) : CallV X (.type "list") [.ref p] H Q :=
  ⟨_, call_list_of, p, xs, rfl, hp, fun q h3 => h q _ (same_new h3) h3 upd_same⟩
end
end Ax
end
section
set_option maxHeartbeats 2000000
namespace Ax
open PySem PySem.Spec PyProof.Rows L2
/-! ### all but soft things stands -/
def wispO : HO → Bool
  | .ext _ => true
  | .tbl _ => true
  | _ => false
def Sx (H H' : Hp) : Prop := ∀ a o, H a = some o → wispO o = false → H' a = some o
theorem Sx.refl (H : Hp) : Sx H H := fun _ _ h _ => h
theorem Sx.trans {H H1 H2 : Hp} (a : Sx H H1) (b : Sx H1 H2) : Sx H H2 := fun c o h n => b c o (a c o h n) n
theorem Sx.of {H H' : Hp} (e : Same H H') : Sx H H' := fun b o h _ => e b o h
theorem Sm.sx {p : Addr} {H H' : Hp} (e : Sm p H H') : Sx H H' := fun b o h n => e.keep b o h (by
  rintro rfl
  obtain ⟨m, hm⟩ := e.at0
  rw [hm] at h
  cases h
  cases n)
theorem Sx.ofN {H H' : Hp} (e : LamX.ExtN H H') : Sx H H' := fun b o h n => e b o h fun ps z => by
  rw [z] at n
  cases n
theorem Sx.sl {H H' : Hp} (e : Sx H H') : Sl H H' := fun b o h n => e b o h (by cases o <;> first | rfl | cases n)
theorem Sx.tup {K : PySem.W.Frag} {H H' : Hp} {a : Addr} {xs : List V} (e : Sx H H') (h : SqT K H a xs) : SqT K H' a xs := e.sl.tup h
theorem Sx.seq {K : PySem.W.Frag} {H H' : Hp} {a : Addr} {xs : List V} (e : Sx H H') (h : SqL K H a xs) : SqL K H' a xs := by
  rcases h with (h | ⟨o, h⟩) | h
  · exact .inl (.inl (e _ _ h rfl))
  · exact .inl (.inr ⟨o, e _ _ h rfl⟩)
  · exact .inr h
mutual
theorem dp_sx {K : PySem.W.Frag} {H H' : Hp} (s : Sx H H') : ∀ {d : PyData} {v : V}, Dp K H v d → Dp K H' v d
  | .none, _, h => by cases h; exact .non
  | .bool _, _, h => by cases h; exact .bl _
  | .int _, _, h => by cases h; exact .int _
  | .str _, _, h => by cases h; exact .str _
  | .list ds, _, h => by
    cases h with
    | lst hs ha => exact .lst (s.seq hs) (dpa_sx s ha)
  | .tuple ds, _, h => by
    cases h with
    | tup hs ha => exact .tup (s.tup hs) (dpa_sx s ha)
  | .dict _, _, h => by cases h
theorem dpa_sx {K : PySem.W.Frag} {H H' : Hp} (s : Sx H H') : ∀ {ds : List PyData} {vs : List V}, DpAll K H vs ds → DpAll K H' vs ds
  | [], _, h => by cases h; exact .nil
  | d :: ds, _, h => by
    cases h with
    | cons h1 h2 => exact .cons (dp_sx s h1) (dpa_sx s h2)
end
/-- data, or an empty dict -/
inductive AnyX (K : PySem.W.Frag) (H : Hp) : V → Option PyData → Prop
  | dat {v : V} {d : PyData} (h : Dp K H v d) (ok : okD d = true) : AnyX K H v (some d)
  | dct {a : Addr} {kvs : List (Key × V)} (h : H a = some (.dK kvs)) : AnyX K H (.ref a) none
theorem AnyX.sx {K : PySem.W.Frag} {H H' : Hp} {v : V} {o : Option PyData} (s : Sx H H') (a : AnyX K H v o) : AnyX K H' v o := by
  cases a with
  | dat h ok => exact .dat (dp_sx s h) ok
  | dct h => exact .dct (s _ _ h rfl)
theorem AnyX.any {K : PySem.W.Frag} {H : Hp} {v : V} {o : Option PyData} (a : AnyX K H v o) : AnyV K H v o := by
  cases a with
  | dat h ok => exact .dat h ok
  | dct h =>
    refine .oth (.base (.dK h)) fun T hT => kit_ty ?_
    have q : ∀ T ∈ ["str", "int", "bool", "tuple", "list"], kitB "dict" T = some false := by decide +kernel
    exact q T hT
section
variable {X : Cx} {e a b o elt iter tg : Expr} {es : List Expr} {scope : Scope} {σ : L2.St} {H : Hp} {Q : VK} {pos p2 : Pos}
/-! ### least and greatest of texts -/
theorem ltS (a b : Str) : (PySem.W.DatumOrd.lt a b = true) ↔ a.cps.toList < b.cps.toList := decide_eq_true_iff
theorem lt_ofle {a b c : List Nat} (h : a < b) (k : ¬ c < b) : a < c := by
  rcases Classical.em (a < c) with q | q
  · exact q
  · exact absurd h (List.le_trans (show b ≤ c from k) (show c ≤ a from q))
theorem least_str : ∀ (xs : List Str) (x : Str), PySem.W.minOf x xs ∈ x :: xs ∧ ∀ y ∈ x :: xs, ¬ y.cps.toList < (PySem.W.minOf x xs).cps.toList
  | [], x => ⟨List.mem_cons_self, fun y hy => by
    rw [List.mem_singleton.mp hy]
    exact List.lt_irrefl _⟩
  | z :: xs, x => by
    have e : PySem.W.minOf x (z :: xs) = PySem.W.minOf (if PySem.W.DatumOrd.lt z x = true then z else x) xs := rfl
    obtain ⟨h1, h2⟩ := least_str xs (if PySem.W.DatumOrd.lt z x = true then z else x)
    rw [e]
    have hm := h2 _ List.mem_cons_self
    by_cases c : PySem.W.DatumOrd.lt z x = true
    · rw [if_pos c] at h1 h2 hm ⊢
      have c := (ltS z x).mp c
      refine ⟨List.mem_cons_of_mem _ h1, fun y hy => ?_⟩
      rcases List.mem_cons.mp hy with q | q
      · rw [q]
        exact fun hx => hm (List.lt_trans c hx)
      · exact h2 y q
    · rw [if_neg c] at h1 h2 hm ⊢
      have c : ¬ z.cps.toList < x.cps.toList := fun q => c ((ltS z x).mpr q)
      refine ⟨?_, fun y hy => ?_⟩
      · rcases List.mem_cons.mp h1 with q | q
        · rw [q]; exact List.mem_cons_self
        · exact List.mem_cons_of_mem _ (List.mem_cons_of_mem _ q)
      · rcases List.mem_cons.mp hy with q | q
        · rw [q]; exact hm
        · rcases List.mem_cons.mp q with q | q
          · rw [q]
            exact fun hx => c (lt_ofle hx hm)
          · exact h2 y (List.mem_cons_of_mem _ q)
theorem most_str : ∀ (xs : List Str) (x : Str), PySem.W.maxOf x xs ∈ x :: xs ∧ ∀ y ∈ x :: xs, ¬ (PySem.W.maxOf x xs).cps.toList < y.cps.toList
  | [], x => ⟨List.mem_cons_self, fun y hy => by
    rw [List.mem_singleton.mp hy]
    exact List.lt_irrefl _⟩
  | z :: xs, x => by
    have e : PySem.W.maxOf x (z :: xs) = PySem.W.maxOf (if PySem.W.DatumOrd.lt x z = true then z else x) xs := rfl
    obtain ⟨h1, h2⟩ := most_str xs (if PySem.W.DatumOrd.lt x z = true then z else x)
    rw [e]
    have hm := h2 _ List.mem_cons_self
    by_cases c : PySem.W.DatumOrd.lt x z = true
    · rw [if_pos c] at h1 h2 hm ⊢
      have c := (ltS x z).mp c
      refine ⟨List.mem_cons_of_mem _ h1, fun y hy => ?_⟩
      rcases List.mem_cons.mp hy with q | q
      · rw [q]
        exact fun hx => hm (List.lt_trans hx c)
      · exact h2 y q
    · rw [if_neg c] at h1 h2 hm ⊢
      have c : ¬ x.cps.toList < z.cps.toList := fun q => c ((ltS x z).mpr q)
      refine ⟨?_, fun y hy => ?_⟩
      · rcases List.mem_cons.mp h1 with q | q
        · rw [q]; exact List.mem_cons_self
        · exact List.mem_cons_of_mem _ (List.mem_cons_of_mem _ q)
      · rcases List.mem_cons.mp hy with q | q
        · rw [q]; exact hm
        · rcases List.mem_cons.mp q with q | q
          · rw [q]
            exact fun hx => hm (lt_ofle hx c)
          · exact h2 y (List.mem_cons_of_mem _ q)
theorem dps {K : PySem.W.Frag} : ∀ (zs : List Str), DpAll K H (zs.map V.str) (zs.map PyData.str)
  | [] => .nil
  | z :: zs => .cons (.str z) (dps zs)
theorem vals_str {zs : List Str} {us : List Value} {i : Nat} {v : Value} (r : Vals (zs.map V.str) us) (h : us[i]? = some v) : ∃ z, z ∈ zs ∧ RelV (.str z) v := by
  induction zs generalizing us i with
  | nil => cases r; simp at h
  | cons z zs ih =>
    cases r with
    | cons r1 r2 =>
      cases i with
      | zero =>
        simp at h
        subst h
        exact ⟨z, List.mem_cons_self, r1⟩
      | succ i =>
        obtain ⟨z', h1, h2⟩ := ih r2 (by simpa using h)
        exact ⟨z', List.mem_cons_of_mem _ h1, h2⟩
theorem Vals.refl1 {p : Addr} {us : List Value} (r : Vals [.ref p] us) : us = [.ref p] := L2.Vals.ref1 r
theorem kv_minS {p : Addr} {zs : List Str} (hc : X.calm = true) (hu : X.A.units + 64 < cLine) (hp : SqL X.K H p (zs.map V.str)) (hn : zs ≠ []) (h : ∀ m, m ∈ zs → (∀ y ∈ zs, ¬ y.cps.toList < m.cps.toList) → Q (.str m) H) : CallV X (.builtin "min") [.ref p] H Q := by
  refine ⟨fun vs H' Q' => vs = [.ref p] ∧ H' = H ∧ Q' = Q, ?_, rfl, rfl, rfl⟩
  rintro pins s σ H0 vs us Q0 I r ⟨rfl, rfl, rfl⟩
  rw [L2.Vals.ref1 r]
  obtain ⟨its, rv, pl, _⟩ := I.list hp
  cases zs with
  | nil => exact absurd rfl hn
  | cons x xs =>
    refine PySem.W.min_list_datum (x := x) (xs := xs) (I.ok.hd hc) pl.isList ?_ ?_ fun i v h' tk hv hz hk => ?_
    · obtain ⟨as, q⟩ := Dp.readsAll I _ _ _ (dps (K := X.K) (H := H0) (x :: xs)) rv
      rw [List.toList_toArray]
      exact ⟨as, q⟩
    · show X.A.units + 1 + _ < cLine
      have e : (PySem.W.Datum.depth Str) = 0 ∨ (PySem.W.Datum.depth Str) = 1 := by first | exact .inl rfl | exact .inr rfl
      omega
    · obtain ⟨h1, h2⟩ := least_str xs x
      obtain ⟨as, q⟩ := hz
      obtain ⟨t, rfl, _⟩ := PyProof.Rows.reads_str_inv q
      exact ⟨.str _, H0, I.kept (t' := tk) hk, ⟨t, rfl⟩, h _ h1 h2⟩
theorem kv_maxS {p : Addr} {zs : List Str} (hc : X.calm = true) (hu : X.A.units + 64 < cLine) (hp : SqL X.K H p (zs.map V.str)) (hn : zs ≠ []) (h : ∀ m, m ∈ zs → (∀ y ∈ zs, ¬ m.cps.toList < y.cps.toList) → Q (.str m) H) : CallV X (.builtin "max") [.ref p] H Q := by
  refine ⟨fun vs H' Q' => vs = [.ref p] ∧ H' = H ∧ Q' = Q, ?_, rfl, rfl, rfl⟩
  rintro pins s σ H0 vs us Q0 I r ⟨rfl, rfl, rfl⟩
  rw [L2.Vals.ref1 r]
  obtain ⟨its, rv, pl, _⟩ := I.list hp
  cases zs with
  | nil => exact absurd rfl hn
  | cons x xs =>
    refine PySem.W.max_list_datum (x := x) (xs := xs) (I.ok.hd hc) pl.isList ?_ ?_ fun i v h' tk hv hz hk => ?_
    · obtain ⟨as, q⟩ := Dp.readsAll I _ _ _ (dps (K := X.K) (H := H0) (x :: xs)) rv
      rw [List.toList_toArray]
      exact ⟨as, q⟩
    · show X.A.units + 1 + _ < cLine
      have e : (PySem.W.Datum.depth Str) = 0 ∨ (PySem.W.Datum.depth Str) = 1 := by first | exact .inl rfl | exact .inr rfl
      omega
    · obtain ⟨h1, h2⟩ := most_str xs x
      obtain ⟨as, q⟩ := hz
      obtain ⟨t, rfl, _⟩ := PyProof.Rows.reads_str_inv q
      exact ⟨.str _, H0, I.kept (t' := tk) hk, ⟨t, rfl⟩, h _ h1 h2⟩
/-! ### tuples and lists: +, *, slices -/
theorem bv_catT {p q : Addr} {xs ys : List V} (h1 : SqT X.K H p xs) (h2 : SqT X.K H q ys) (hl : xs.length + ys.length ≤ sizeLine) (h : ∀ r H2, Same H H2 → SqT X.K H2 r (xs ++ ys) → Q (.ref r) H2) : BinV X .Add (.ref p) (.ref q) H Q :=
  ⟨_, op_catA, p, q, xs, ys, rfl, rfl, h1, h2, hl, fun e => h q H (Same.refl _) (by rw [e]; exact h2), fun _ e => h p H (Same.refl _) (by rw [e, List.append_nil]; exact h1), fun _ _ r hr => h r _ (same_new hr) (SqT.of upd_same)⟩
theorem bv_repT {p : Addr} {k : Int} {xs : List V} (h1 : SqT X.K H p xs) (hn : xs ≠ []) (k2 : 2 ≤ k) (k3 : k ≤ 1000) (hl : xs.length ≤ 1000) (h : ∀ r H2, Same H H2 → H r = none → H2 r = some (.tup (List.replicate k.toNat xs).flatten) → Q (.ref r) H2) : BinV X .Mult (.ref p) (.int k) H Q :=
  ⟨_, op_repT, p, k, xs, rfl, rfl, h1, hn, k2, k3, hl, fun r hr => h r _ (same_new hr) hr upd_same⟩
theorem bv_rep {p : Addr} {k : Int} {xs : List V} (h1 : H p = some (.lst xs)) (k2 : -(2 ^ 63) ≤ k) (k3 : k < 2 ^ 63) (hl : xs.length * k.toNat ≤ sizeLine) (h : ∀ r H2, Same H H2 → H r = none → H2 r = some (.lst (List.replicate k.toNat xs).flatten) → Q (.ref r) H2) : BinV X .Mult (.ref p) (.int k) H Q :=
  ⟨_, op_rep, p, k, xs, rfl, rfl, h1, k2, k3, hl, fun r hr => h r _ (same_new hr) hr upd_same⟩
theorem sIx_lt {n d k : Nat} (h : k ≤ n) : HT.sIx n d (some (k : Int)) = k := by
  rw [HT.sIx_nat]
  omega
/-- t[:k] -/
theorem w_sliceTo (h : W X a σ H fun x H1 => W X b σ H1 fun y H2 => ∃ (p : Addr) (k : Nat) (xs : List V), x = .ref p ∧ y = .int k ∧ SqT X.K H2 p xs ∧ k ≤ xs.length ∧ ∀ r H3, Same H2 H3 → SqT X.K H3 r (xs.take k) → Q (.ref r) H3) : W X (.Subscript a (.Slice none (some b) none p2) pos) σ H Q := by
  refine W.of (pe_slice sl_tupA W.pe po_none (po_some W.pe)) ?_
  show W X a σ H _
  refine W.mono h fun x H1 q => ?_
  show W X b σ H1 _
  refine W.mono q fun y H2 ⟨p, k, xs, e1, e2, hp, hk, q⟩ => ⟨(k : Int), e2, p, xs, e1, hp, fun ⟨_, z⟩ => ?_, fun _ r hr => ?_⟩
  · rw [sIx_lt hk] at z
    exact q p H2 (Same.refl _) (by rw [z, List.take_length]; exact hp)
  · refine q r _ (same_new hr) (SqT.of ?_)
    rw [upd_same]
    show some (HO.tup ((xs.drop 0).take (HT.sIx xs.length xs.length (some (k : Int)) - 0))) = _
    rw [sIx_lt hk, List.drop_zero, Nat.sub_zero]
/-- t[k:] -/
theorem w_sliceFrom (h : W X a σ H fun x H1 => W X b σ H1 fun y H2 => ∃ (p : Addr) (k : Nat) (xs : List V), x = .ref p ∧ y = .int k ∧ SqT X.K H2 p xs ∧ k ≤ xs.length ∧ ∀ r H3, Same H2 H3 → SqT X.K H3 r (xs.drop k) → Q (.ref r) H3) : W X (.Subscript a (.Slice (some b) none none p2) pos) σ H Q := by
  refine W.of (pe_slice sl_tupA W.pe (po_some W.pe) po_none) ?_
  show W X a σ H _
  refine W.mono h fun x H1 q => ?_
  show W X b σ H1 _
  refine W.mono q fun y H2 ⟨p, k, xs, e1, e2, hp, hk, q⟩ => ⟨(k : Int), e2, p, xs, e1, hp, fun ⟨z, _⟩ => ?_, fun _ r hr => ?_⟩
  · rw [sIx_lt hk] at z
    exact q p H2 (Same.refl _) (by rw [z, List.drop_zero]; exact hp)
  · refine q r _ (same_new hr) (SqT.of ?_)
    rw [upd_same]
    show some (HO.tup ((xs.drop (HT.sIx xs.length 0 (some (k : Int)))).take (xs.length - HT.sIx xs.length 0 (some (k : Int))))) = _
    rw [sIx_lt hk, List.take_of_length_le (by rw [List.length_drop]; exact Nat.le_refl _)]
/-! ### [elt for x in iter], the dice at p rolled on the way -/
structure SeqItM (p : Addr) (J : It) (H : Hp) (xs : List V) : Prop where
  ex : ∃ G : Hp → Prop, Walk J xs.length G (YAt xs) ∧ G H ∧ ∀ H', Sm p H H' → G H'
theorem seqItM_range {lo : Int} {n : Nat} {p : Addr} : SeqItM p (Itr lo n) H (intsV lo n) := by
  obtain ⟨G, w, _, _⟩ := (seqIt_range (H := H) (lo := lo) (n := n)).ex
  refine ⟨fun _ => True, ?_, trivial, fun _ _ => trivial⟩
  have w := (walk_range (lo := lo) (n := n)).mono (G' := fun _ => True) (Y' := YAt (intsV lo n)) (fun _ h => h) fun i H x H' hi _ y => by
    obtain ⟨e, rfl⟩ := y
    refine ⟨e, ?_⟩
    unfold intsV
    rw [List.getElem?_map]
    simp [hi]
  have e : (intsV lo n).length = n := by simp [intsV]
  rw [e]
  exact w
theorem seqItM_tup {a p : Addr} {K : PySem.W.Frag} {xs : List V} (h : SqT K H a xs) : SeqItM p (Itt K a) H xs := ⟨_, walk_tup, h, fun _ s => s.tup h⟩
theorem seqItM_list {a p : Addr} {K : PySem.W.Frag} {xs : List V} (h : SqL K H a xs) : SeqItM p (Itl K a) H xs := ⟨_, walk_list, h, fun _ s => s.seq h⟩
abbrev LcM (X : Cx) (p : Addr) (tg iter elt : Expr) (scope : Scope) (own : List (Str × Nat)) (g : TG) (σ : L2.St) (H : Hp) (Q : VK) : Prop := WI X tg iter σ H fun J H1 => ∃ xs, SeqItM p J H1 xs ∧ xs.length < sizeLine ∧ ∃ (m0 : Nat) (M : Nat → Nat) (R : Nat → V → Hp → Prop), H1 p = some (DiceO p m0) ∧ (∀ x y Ha Hb, R x y Ha → Sl Ha Hb → R x y Hb) ∧
      (∀ j v, xs[j]? = some v → ∀ H2 m, Sm p H1 H2 → H2 p = some (DiceO p m) → m ≤ m0 + M j → ∀ (Kt : VK), (∀ y H3 m', Sm p H2 H3 → H3 p = some (DiceO p m') → m' ≤ m0 + M (j + 1) → R j y H3 → Kt y H3) →
        g v (wipe σ (own.map (·.2))) H2 fun σ2 H3 => wipe σ2 (own.map (·.2)) = wipe σ (own.map (·.2)) ∧ Blk X scope fun Y => W Y elt σ2 H3 Kt) ∧
      ∀ q ys H2 m, Sm p H1 H2 → H2 p = some (DiceO p m) → m ≤ m0 + M xs.length → H1 q = none → H2 q = some (.lst ys) → RelI (fun _ => False) (fun x y => R x y H2) xs.length ys → Q (.ref q) H2
theorem lcM_t {p : Addr} {own : List (Str × Nat)} {g : TG} (h : LcM X p tg iter elt scope own g σ H Q) : tLc (WI X tg iter) g tYes (fun σ2 H2 K => Blk X scope fun Y => W Y elt σ2 H2 K) (own.map (·.2)) σ H Q := by
  refine ⟨fun pins s I => thn (h.run pins s I) fun v s1 z => thn z fun it s2 q => ?_⟩
  obtain ⟨it', fp, tn, J, H1, e, I2, T, t0, f0, xs, ⟨G, wk, g0, gs⟩, hlen, m0, M, R, hp0, hst, hel, hend⟩ := q
  refine ⟨it', fp, tn, J, H1, e, I2, T, t0, f0, fun Dd nD => ?_⟩
  have pD : Dd ≠ p := fun z => by
    rw [z, hp0] at nD
    cases nD
  refine lc_it (H1 := H1) (D := Dd) (g := g) (tt := tYes) (te := fun σ2 H2 K => Blk X scope fun Y => W Y elt σ2 H2 K) (vs := own.map (·.2)) (σ := σ) (Qd := fun H2 => Q (.ref Dd) H2) wk
    (fun j H2 => ∃ ys m, Sm p H1 H2 ∧ H2 p = some (DiceO p m) ∧ m ≤ m0 + M j ∧ H2 Dd = some (.lst ys) ∧ RelI (fun _ => False) (fun x y => R x y H2) j ys)
    ⟨[], m0, (Sm.refl hp0).new nD, by rw [upd_ne pD.symm]; exact hp0, by omega, upd_same, .nil⟩ (fun j H2 _ ⟨ys, m, sm, _⟩ => gs _ sm) ?_ ?_
  · rintro j v H2 H2' hj ⟨ys, m, s12, hp, hm, hD, rel⟩ ⟨eH, hv⟩
    subst eH
    refine hel j v hv _ m s12 hp hm _ fun y H3 m' s23 hp3 hm3 r => ?_
    have hD3 := s23.lst hD
    have hl : ys.length < sizeLine := by
      have e1 := rel.len
      omega
    refine ⟨ys, hD3, hl, ys ++ [y], m', (s12.trans s23).new nD, by rw [upd_ne pD.symm]; exact hp3, hm3, upd_same, ?_⟩
    have sl : Sl H3 (upd H3 Dd (.lst (ys ++ [y]))) := (Sl.refl H3).lst hD3
    exact .keep (R := fun x y => R x y _) (hst _ _ _ _ r sl) (rel.imp fun a b q => hst _ _ _ _ q (s23.sl.trans sl))
  · rintro H2 ⟨ys, m, s12, hp, hm, hD, rel⟩
    exact hend Dd ys H2 m s12 hp hm nD hD rel
theorem w_lcM (p : Addr) (own : List (Str × Nat)) (g : TG) (hg : Blk X scope fun Y => PG Y tg g) (hc : X.calm = true) (hN : X.N.Nodup) (ok : BlkOk X.N X.env.scope scope own)
    (h : LcM X p tg iter elt scope own g σ H Q)
    (hs : ∀ x, foldedSetIterable iter X.env x = pure x := by intro _; rfl) : W X (.ListComp elt [⟨tg, iter, [], 0⟩] scope pos) σ H Q := by
  exact W.of (pe_lc (own := own) (g := g) (tt := tYes) (te := fun σ2 H2 K => Blk X scope fun Y => W Y elt σ2 H2 K) hc hN WI.pi ok hg (fun _ _ _ _ _ => pts_nil)
    (fun s H C cl fp => ⟨fun pins s' σ' H' Q' I' h' => (h' s H C cl fp).run pins s' I'⟩) hs) (lcM_t h)
theorem ws_setLcM {D : Ends} {y : Str} {py spos : Pos} (i : Nat) (p : Addr) (own : List (Str × Nat)) (g : TG) (hg : Blk X scope fun Y => PG Y tg g) (hc : X.calm = true) (hN : X.N.Nodup) (ok : BlkOk X.N X.env.scope scope own) (hy : X.N[i]? = some y)
    (h : LcM X p tg iter elt scope own g σ H fun v H1 => D.nx (σ.set i (some v)) H1) (hyl : X.env.scope.names.lookup y = some .local := by rfl) (hsw : swapsWith (.ListComp elt [⟨tg, iter, [], 0⟩] scope pos) (some (.Name y py)) spos.line X.env = pure true := by exact sw_true rfl rfl rfl rfl)
    (hs : ∀ x, foldedSetIterable iter X.env x = pure x := by intro _; rfl) : WS X (.Assign [.Name y py] (.ListComp elt [⟨tg, iter, [], 0⟩] scope pos) spos) D σ H :=
  WS.of (ps_setLc (own := own) (g := g) (tt := tYes) (te := fun σ2 H2 K => Blk X scope fun Y => W Y elt σ2 H2 K) hc hN hy hyl hsw WI.pi ok hg (fun _ _ _ _ _ => pts_nil)
    (fun s H C cl fp => ⟨fun pins s' σ' H' Q' I' h' => (h' s H C cl fp).run pins s' I'⟩) hs) (lcM_t h)
end
end Ax
end
section
set_option maxHeartbeats 2000000
namespace Ax
open PySem PySem.Spec PyProof.Rows L2
theorem tyX_tup {K : PySem.W.Frag} {H : Hp} {a : Addr} {xs : List V} (hs : SqT K H a xs) : TyX K H (.ref a) (.type "tuple") := by
  rcases hs with (h | ⟨o, h⟩) | ⟨o, its, n, hk, hc, _⟩
  · exact .base (.tup h)
  · exact .fTuple h
  · exact .kTuple hk hc
theorem tyX_lst {K : PySem.W.Frag} {H : Hp} {a : Addr} {xs : List V} (hs : SqL K H a xs) : TyX K H (.ref a) (.type "list") := by
  rcases hs with (h | ⟨o, h⟩) | ⟨o, its, n, hk, hc, _⟩
  · exact .base (.lst h)
  · exact .base (.frz h)
  · exact .kList hk hc
section
variable {X : Cx} {e a b o : Expr} {es : List Expr} {σ : L2.St} {H H0 : Hp} {Q : VK} {pos : Pos}
theorem kv_isiB {v : V} {t T : String} {k : Bool} (ty : TyX X.K H v (.type t)) (hk : kitB t T = some k) (h : Q (.bl k) H) : CallV X (.builtin "isinstance") [v, .ty T] H Q := kv_isi (.ty T) ty (kit_ty hk) h
/-- xs == () -/
theorem cv_eqTup0 {p q : Addr} {xs : List V} (hu : X.A.units < cLine) (hp : SqT X.K H p xs) (hq : SqT X.K H q []) (h : Q (.bl xs.isEmpty) H) : CmpV X .Eq (.ref p) (.ref q) H Q := by
  refine ⟨fun x y H Q => x = .ref p ∧ y = .ref q ∧ SqT X.K H p xs ∧ SqT X.K H q [] ∧ Q (.bl xs.isEmpty) H, ?_, rfl, rfl, hp, hq, h⟩
  rintro pins s σ H x y v u Q I rx ry ⟨rfl, rfl, h1, h2, q⟩
  cases rx
  cases ry
  obtain ⟨its, r, pl, _⟩ := I.tuple h1
  obtain ⟨its2, r2, pl2, _⟩ := I.tuple h2
  cases r2
  refine SeqAt.eq_tupleAt (e := fun _ => true) pl pl2 hu (fun j _ h1 => absurd h1 (by simp)) ?_
  have e : ((List.range (min its.toArray.size ([] : List Value).toArray.size)).all (fun _ => true) && its.toArray.size == ([] : List Value).toArray.size) = xs.isEmpty := by
    cases xs with
    | nil => cases r; rfl
    | cons y ys => cases r; simp
  rw [e]
  exact ⟨.bl _, H, I, rfl, q⟩
/-- {} -/
theorem w_dict0 (h : ∀ p H2, Same H H2 → H p = none → H2 p = some (.dK []) → Q (.ref p) H2) : W X (.Dict [] [] pos) σ H Q := W.of pe_dnewK fun p hp => h p _ (same_new hp) hp upd_same
/-! ### written data -/
structure Lit (X : Cx) (e : Expr) (σ : L2.St) (H0 : Hp) (d : PyData) : Prop where
  run : ∀ H Q, Same H0 H → (∀ v H', Same H H' → Dp X.K H' v d → Q v H') → W X e σ H Q
structure LitA (X : Cx) (es : List Expr) (σ : L2.St) (H0 : Hp) (ds : List PyData) : Prop where
  len : ds.length = es.length
  run : ∀ H Q, Same H0 H → (∀ vs H', Same H H' → DpAll X.K H' vs ds → Q vs H') → WA X es σ H Q
variable {d : PyData} {ds : List PyData}
theorem lit_str {x : Str} {j : Nat} : Lit X (.Constant (.str x) j pos) σ H0 (.str x) := ⟨fun H Q _ h => w_str (h _ H (Same.refl _) (.str _))⟩
theorem lit_int {x : Int} {j : Nat} : Lit X (.Constant (.int x) j pos) σ H0 (.int x) := ⟨fun H Q _ h => w_int (h _ H (Same.refl _) (.int _))⟩
theorem lit_bl {x : Bool} {j : Nat} : Lit X (.Constant (.bool x) j pos) σ H0 (.bool x) := ⟨fun H Q _ h => w_bl (h _ H (Same.refl _) (.bl _))⟩
theorem lit_non {j : Nat} : Lit X (.Constant .none j pos) σ H0 .none := ⟨fun H Q _ h => w_non (h _ H (Same.refl _) .non)⟩
theorem lit_of (h : ∀ H Q, Same H0 H → (∀ v, Dp X.K H v d → Q v H) → W X e σ H Q) : Lit X e σ H0 d := ⟨fun H Q s k => h H Q s fun v hd => k v H (Same.refl _) hd⟩
theorem lita_nil : LitA X [] σ H0 [] := ⟨rfl, fun H Q _ h => wa_nil (h _ H (Same.refl _) .nil)⟩
theorem lita_cons (h1 : Lit X e σ H0 d) (h2 : LitA X es σ H0 ds) (hs : starEach (e :: es) X.env = (false, eval e X.env) :: starEach es X.env := by rfl) : LitA X (e :: es) σ H0 (d :: ds) :=
  ⟨by rw [List.length_cons, List.length_cons, h2.len], fun H Q s h => wa_cons (h1.run H _ s fun v H1 s1 hd => h2.run H1 _ (s.trans s1) fun vs H2 s2 hds => h _ H2 (s1.trans s2) (.cons (dp_same s2 hd) hds)) hs⟩
theorem lit_tup {j : Nat} (h : LitA X es σ H0 ds) (hl : es.length ≤ 100 := by decide) : Lit X (.Tuple es j pos) σ H0 (.tuple ds) :=
  ⟨fun H Q s k => w_tup (h.run H _ s fun vs H1 s1 hd => ⟨by rw [dpa_len hd, h.len]; exact Nat.le_trans hl (by decide), fun p H2 s2 n2 hp => k _ H2 (s1.trans s2) (.tup (SqT.of hp) (dpa_same s2 hd))⟩)⟩
theorem lit_lst (h : LitA X es σ H0 ds) (hl : es.length ≤ 100 := by decide) : Lit X (.List es pos) σ H0 (.list ds) :=
  ⟨fun H Q s k => w_lst (h.run H _ s fun vs H1 s1 hd => ⟨by rw [dpa_len hd, h.len]; exact Nat.le_trans hl (by decide), fun p H2 s2 n2 hp => k _ H2 (s1.trans s2) (.lst (SqL.of hp) (dpa_same s2 hd))⟩)⟩
/-- (..) * k -/
theorem lit_mul {k : Int} {j j2 : Nat} {p2 p3 : Pos} (h : LitA X es σ H0 ds) (k2 : 2 ≤ k) (k3 : k ≤ 1000) (hn : 0 < es.length) (hl : es.length ≤ 100) :
    Lit X (.BinOp (.Tuple es j2 p3) .Mult (.Constant (.int k) j p2) pos) σ H0 (.tuple (List.replicate k.toNat ds).flatten) :=
  ⟨fun H Q s q => w_bin ((lit_tup h hl).run H _ s fun v H1 s1 hd => w_int (by
    cases hd with
    | @tup p xs _ hp ha =>
    have hl2 := dpa_len ha
    have hl3 := h.len
    refine bv_repT hp (by rintro rfl; simp at hl2; omega) (by omega) (by omega) (by omega) fun r H2 s2 n2 hr => q _ H2 (s1.trans s2) (.tup (SqT.of hr) ?_)
    have ha2 := dpa_same s2 ha
    generalize k.toNat = m
    clear hr hl2 q
    induction m with
    | zero => exact .nil
    | succ k ih =>
      rw [List.replicate_succ, List.replicate_succ, List.flatten_cons, List.flatten_cons]
      exact dpa_app ha2 ih))⟩
theorem rep_flat {α : Type} (d : α) : ∀ n : Nat, (List.replicate n [d]).flatten = List.replicate n d
  | 0 => rfl
  | n + 1 => by rw [List.replicate_succ, List.flatten_cons, rep_flat d n, List.replicate_succ]; rfl
/-- (x,) * k, told item by item -/
theorem lit_mulE {k : Int} {j j2 : Nat} {p2 p3 : Pos} (h : LitA X es σ H0 [d]) (he : d :: ds = List.replicate k.toNat d := by rfl) (k2 : 2 ≤ k := by decide) (k3 : k ≤ 1000 := by decide) (hn : 0 < es.length := by decide) (hl : es.length ≤ 100 := by decide) :
    Lit X (.BinOp (.Tuple es j2 p3) .Mult (.Constant (.int k) j p2) pos) σ H0 (.tuple (d :: ds)) := by
  rw [he, ← rep_flat]
  exact lit_mul h k2 k3 hn hl
/-- data, or an empty dict; nothing said of sizes -/
inductive AnyR (K : PySem.W.Frag) (H : Hp) : V → Option PyData → Prop
  | dat {v : V} {d : PyData} (h : Dp K H v d) : AnyR K H v (some d)
  | dct {a : Addr} {kvs : List (Key × V)} (h : H a = some (.dK kvs)) : AnyR K H (.ref a) none
theorem AnyR.sx {K : PySem.W.Frag} {H H' : Hp} {v : V} {o : Option PyData} (s : Sx H H') (a : AnyR K H v o) : AnyR K H' v o := by
  cases a with
  | dat h => exact .dat (dp_sx s h)
  | dct h => exact .dct (s _ _ h rfl)
theorem AnyR.anyX {K : PySem.W.Frag} {H : Hp} {v : V} {o : Option PyData} (a : AnyR K H v o) (ok : o.all okD = true) : AnyX K H v o := by
  cases a with
  | dat h => exact .dat h ok
  | dct h => exact .dct h
structure LitX (X : Cx) (es : List Expr) (σ : L2.St) (H0 : Hp) (os : List (Option PyData)) : Prop where
  len : os.length = es.length
  run : ∀ H Q, Same H0 H → (∀ vs H', Same H H' → All2 (AnyR X.K H') vs os → Q vs H') → WA X es σ H Q
variable {os : List (Option PyData)}
theorem litx_nil : LitX X [] σ H0 [] := ⟨rfl, fun H Q _ h => wa_nil (h _ H (Same.refl _) .nil)⟩
theorem litx_cons (h1 : Lit X e σ H0 d) (h2 : LitX X es σ H0 os) (hs : starEach (e :: es) X.env = (false, eval e X.env) :: starEach es X.env := by rfl) : LitX X (e :: es) σ H0 (some d :: os) :=
  ⟨by rw [List.length_cons, List.length_cons, h2.len], fun H Q s h => wa_cons (h1.run H _ s fun v H1 s1 hd => h2.run H1 _ (s.trans s1) fun vs H2 s2 hds => h _ H2 (s1.trans s2) (.cons (.dat (dp_same s2 hd)) hds)) hs⟩
theorem litx_dict (h2 : LitX X es σ H0 os) (hs : starEach (.Dict [] [] pos :: es) X.env = (false, eval (.Dict [] [] pos) X.env) :: starEach es X.env := by rfl) : LitX X (.Dict [] [] pos :: es) σ H0 (none :: os) :=
  ⟨by rw [List.length_cons, List.length_cons, h2.len], fun H Q s h => wa_cons (w_dict0 fun p H1 s1 n1 hp => h2.run H1 _ (s.trans s1) fun vs H2 s2 hds => h _ H2 (s1.trans s2) (.cons (.dct (s2 _ _ hp)) hds)) hs⟩
/-- a list of such -/
theorem w_listX (os : List (Option PyData)) (h : LitX X es σ H0 os) (s : Same H0 H) (q : ∀ p vs H2, Same H H2 → H p = none → H2 p = some (.lst vs) → All2 (AnyR X.K H2) vs os → Q (.ref p) H2) (hl : es.length ≤ 100 := by decide) : W X (.List es pos) σ H Q :=
  w_lst (h.run H _ s fun vs H1 s1 hd => ⟨by rw [hd.len, h.len]; exact Nat.le_trans hl (by decide), fun p H2 s2 n2 hp => q p vs H2 (s1.trans s2) (same_nul s1 n2) hp (hd.imp fun _ _ a => a.sx (Sx.of s2))⟩)
end
end Ax
end
section
set_option maxHeartbeats 2000000
/-! [elt for x in iter if c], tests and elements values; lists of new lists; slices of lists; str(int); split -/
namespace Ax
open PySem PySem.Spec PyProof.Rows L2
section
variable {X : Cx} {σ : L2.St} {H : Hp} {Q : VK} {elt iter c a b e o : Expr} {scope : Scope} {pos px p2 apos : Pos} {x : Str}
theorem all2_eq {α : Type} : ∀ {xs ys : List α}, All2 Eq xs ys → xs = ys
  | _, _, .nil => rfl
  | _, _, .cons h t => by rw [h, all2_eq t]
theorem w_lcFilt (i : Nat) (t : V → Bool) (f : V → V) (hc : X.calm = true) (hN : X.N.Nodup) (ok : BlkOk X.N X.env.scope scope [(x, i)]) (hi : X.N[i]? = some x)
    (hloc : Blk X scope fun Y => Loc Y.env.scope x ∧ (Y.fn x = true ∨ Y.env.scope.names.lookup x = some .local))
    (h : WI X (.Name x px) iter σ H fun J H1 => ∃ xs, SeqIt J H1 xs ∧ xs.length < sizeLine ∧ (∀ v ∈ xs, ∀ H2, Same H1 H2 → Blk X scope fun Y => WT Y c ((wipe σ [i]).set i (some v)) H2 fun k H3 => k = t v ∧ Same H2 H3) ∧
      (∀ v ∈ xs, t v = true → ∀ H2, Same H1 H2 → Blk X scope fun Y => W Y elt ((wipe σ [i]).set i (some v)) H2 fun y H3 => y = f v ∧ Same H2 H3) ∧ ∀ q H2, Same H1 H2 → H1 q = none → H2 q = some (.lst ((xs.filter t).map f)) → Q (.ref q) H2)
    (hs : ∀ x, foldedSetIterable iter X.env x = pure x := by intro _; rfl) (hw : (((wipe σ [i]).set i (some V.non)).set i none) = wipe σ [i] := by rfl) :
    W X (.ListComp elt [⟨.Name x px, iter, [c], 0⟩] scope pos) σ H Q := by
  refine w_lcG [(x, i)] (gName i) (fun σ2 H2 K => Blk X scope fun Y => WT Y c σ2 H2 K) (fun s H C cl fp => pg_name hN hi (hloc s H C cl fp).1 (hloc s H C cl fp).2)
    (fun s H C cl fp => pts_one ⟨fun pins s' σ' H' Q' I' h' => (h' s H C cl fp).run pins s' I'⟩) hc hN ok ?_ hs
  refine ⟨fun pins s I => thn (h.run pins s I) fun v s1 z => thn z fun it s2 q => ?_⟩
  obtain ⟨it', fp, tn, J, H1, e, I2, T, t0, f0, xs, h1, h2, h3, h4, h5⟩ := q
  refine ⟨it', fp, tn, J, H1, e, I2, T, t0, f0, xs, h1, h2, fun j => ∃ v, xs[j]? = some v ∧ t v = false, fun j y _ => ∃ v, xs[j]? = some v ∧ t v = true ∧ y = f v, fun _ _ _ _ q _ => q, ?_, ?_⟩
  · intro j v hv H2 s12 Kf Kt kf kt
    have hm := List.mem_of_getElem? hv
    have hw' : wipe ((wipe σ [i]).set i (some v)) [i] = wipe σ [i] := by
      have e1 : wipe ((wipe σ [i]).set i (some v)) [i] = ((wipe σ [i]).set i (some v)).set i none := rfl
      rw [e1, List.set_set]
      have e2 : ((wipe σ [i]).set i (some V.non)).set i none = wipe σ [i] := hw
      rw [List.set_set] at e2
      exact e2
    refine ⟨hw', fun s H C cl fp => WT.mono (h3 v hm H2 s12 s H C cl fp) fun k H3 ⟨ek, s23⟩ => ?_⟩
    subst ek
    cases ht : t v with
    | false =>
      rw [if_neg (by decide)]
      exact kf ⟨v, hv, ht⟩ H3 s23
    | true =>
      rw [if_pos rfl]
      exact fun s' H' C' cl' fp' => W.mono (h4 v hm ht H3 (s12.trans s23) s' H' C' cl' fp') fun y H4 ⟨ey, s34⟩ => kt y H4 (s23.trans s34) ⟨v, hv, ht, ey⟩
  · intro q ys H2 s12 n1 hq rel
    obtain ⟨es, e1, e2⟩ := rel.data (T := Eq) (ds := xs) (fun v => if t v = true then some (f v) else none) (fun j d hd ⟨v, hv, ht⟩ => by
      rw [hd] at hv
      cases hv
      simp [ht]) (fun j d y hd ⟨v, hv, ht, ey⟩ => by
      rw [hd] at hv
      cases hv
      exact ⟨f d, by simp [ht], ey⟩) (Nat.le_refl _)
    have e3 := all2_eq e2
    subst e3
    rw [List.take_length] at e1
    refine h5 q H2 s12 n1 (hq.trans ?_)
    rw [← e1]
    congr 2
    clear e1 e2 hq rel h1 h2 h3 h4 h5
    induction xs with
    | nil => rfl
    | cons v xs ih =>
      cases ht : t v <;> simp [List.filterMap_cons, List.filter_cons, ht, ih]
/-- no item passes the test -/
theorem w_lcNo (i : Nat) (hc : X.calm = true) (hN : X.N.Nodup) (ok : BlkOk X.N X.env.scope scope [(x, i)]) (hi : X.N[i]? = some x)
    (hloc : Blk X scope fun Y => Loc Y.env.scope x ∧ (Y.fn x = true ∨ Y.env.scope.names.lookup x = some .local))
    (h : WI X (.Name x px) iter σ H fun J H1 => ∃ xs, SeqIt J H1 xs ∧ xs.length < sizeLine ∧ (∀ v ∈ xs, ∀ H2, Same H1 H2 → Blk X scope fun Y => WT Y c ((wipe σ [i]).set i (some v)) H2 fun k H3 => k = false ∧ Same H2 H3) ∧
      ∀ q H2, Same H1 H2 → H1 q = none → H2 q = some (.lst []) → Q (.ref q) H2)
    (hs : ∀ x, foldedSetIterable iter X.env x = pure x := by intro _; rfl) (hw : (((wipe σ [i]).set i (some V.non)).set i none) = wipe σ [i] := by rfl) :
    W X (.ListComp elt [⟨.Name x px, iter, [c], 0⟩] scope pos) σ H Q := by
  refine w_lcFilt i (fun _ => false) id hc hN ok hi hloc ?_ hs hw
  refine ⟨fun pins s I => thn (h.run pins s I) fun v s1 z => thn z fun it s2 q => ?_⟩
  obtain ⟨it', fp, tn, J, H1, e, I2, T, t0, f0, xs, h1, h2, h3, h5⟩ := q
  refine ⟨it', fp, tn, J, H1, e, I2, T, t0, f0, xs, h1, h2, h3, fun _ _ z => Bool.noConfusion z, fun q H2 s n hq => h5 q H2 s n ?_⟩
  rw [hq, List.filter_eq_nil_iff.mpr fun a _ z => Bool.noConfusion z] <;> rfl
/-- all but the list at d stands -/
def Bt (d : Addr) (H H' : Hp) : Prop := ∀ a o, a ≠ d → H a = some o → H' a = some o
theorem Bt.of {d : Addr} {H H' : Hp} (s : Same H H') : Bt d H H' := fun a o _ h => s a o h
theorem Bt.refl (d : Addr) (H : Hp) : Bt d H H := fun _ _ _ h => h
theorem Bt.trans {d : Addr} {H H1 H2 : Hp} (a : Bt d H H1) (b : Bt d H1 H2) : Bt d H H2 := fun c o n h => b c o n (a c o n h)
theorem Bt.upd {d : Addr} {H H' : Hp} {o : HO} (s : Bt d H H') : Bt d H (upd H' d o) := fun a u n h => (upd_ne n).trans (s a u n h)
/-- [elt for x in iter], each element by a relation that stands though the new list D grows -/
abbrev LcD (X : Cx) (x : Str) (px : Pos) (iter elt : Expr) (scope : Scope) (i : Nat) (σ : L2.St) (H : Hp) (Q : VK) : Prop := WI X (.Name x px) iter σ H fun J H1 => ∃ xs, SeqIt J H1 xs ∧ xs.length < sizeLine ∧ ∃ R : Addr → V → V → Hp → Prop, (∀ D x y Ha Hb, R D x y Ha → Bt D Ha Hb → R D x y Hb) ∧
      (∀ v ∈ xs, ∀ (D : Addr) H2, Same H1 H2 → (∃ ys, H2 D = some (.lst ys)) → Blk X scope fun Y => W Y elt ((wipe σ [i]).set i (some v)) H2 fun y H3 => Same H2 H3 ∧ R D v y H3) ∧
      ∀ p ys H2, Same H1 H2 → H1 p = none → H2 p = some (.lst ys) → Rel2 (fun x y => R p x y H2) xs ys → Q (.ref p) H2
theorem lcD_t {i : Nat} (hw : (((wipe σ [i]).set i (some V.non)).set i none) = wipe σ [i]) (h : LcD X x px iter elt scope i σ H Q) : tLc (WI X (.Name x px) iter) (gName i) tYes (fun σ2 H2 K => Blk X scope fun Y => W Y elt σ2 H2 K) [i] σ H Q := by
  refine ⟨fun pins s I => thn (h.run pins s I) fun v s1 z => thn z fun it s2 q => ?_⟩
  obtain ⟨it', fp, tn, J, H1, e, I2, T, t0, f0, xs, ⟨G, wk, g0, gs⟩, hlen, R, hst, hel, hend⟩ := q
  refine ⟨it', fp, tn, J, H1, e, I2, T, t0, f0, fun Dd nD => ?_⟩
  refine lc_it (H1 := H1) (D := Dd) (g := gName i) (tt := tYes) (te := fun σ2 H2 K => Blk X scope fun Y => W Y elt σ2 H2 K) (vs := [i]) (σ := σ) (Qd := fun H2 => Q (.ref Dd) H2) wk
    (fun j H2 => ∃ ys, Same H1 H2 ∧ H2 Dd = some (.lst ys) ∧ Rel2 (fun x y => R Dd x y H2) (xs.take j) ys) ⟨[], same_new nD, upd_same, .nil⟩ (fun j H2 _ ⟨ys, sm, hD, _⟩ => gs _ sm) ?_ ?_
  · rintro j v H2 H2' hj ⟨ys, s12, hD, rel⟩ ⟨eH, hv⟩
    subst eH
    have hm : v ∈ xs := List.mem_of_getElem? hv
    have hw' : wipe ((wipe σ [i]).set i (some v)) [i] = wipe σ [i] := by
      have e1 : wipe ((wipe σ [i]).set i (some v)) [i] = ((wipe σ [i]).set i (some v)).set i none := rfl
      rw [e1, List.set_set]
      have e2 : ((wipe σ [i]).set i (some V.non)).set i none = wipe σ [i] := hw
      rw [List.set_set] at e2
      exact e2
    refine ⟨hw', ?_⟩
    unfold tYes
    dsimp only
    rw [if_pos rfl]
    intro s H C cl fp
    refine W.mono (e := elt) (X := X.blk s H scope (compEnvC scope cl C X.env) fp) (hel v hm Dd H2' s12 ⟨ys, hD⟩ s H C cl fp) fun y H3 ⟨s23, r⟩ => ?_
    have hD3 := s23 _ _ hD
    have hl : ys.length < sizeLine := by
      have e1 := rel.len
      rw [List.length_take] at e1
      omega
    refine ⟨ys, hD3, hl, ys ++ [y], same_upd (s12.trans s23) nD, upd_same, ?_⟩
    have bt : Bt Dd H3 (upd H3 Dd (.lst (ys ++ [y]))) := (Bt.refl Dd H3).upd
    have e : xs.take (j + 1) = xs.take j ++ [v] := by
      rw [List.take_add_one, hv]
      rfl
    rw [e]
    exact (rel.imp fun a b q => hst _ _ _ _ _ q ((Bt.of s23).trans bt)).snoc (hst _ _ _ _ _ r bt)
  · rintro H2 ⟨ys, s12, hD, rel⟩
    rw [List.take_length] at rel
    exact hend Dd ys H2 s12 nD hD rel
theorem w_lcD (i : Nat) (hc : X.calm = true) (hN : X.N.Nodup) (ok : BlkOk X.N X.env.scope scope [(x, i)]) (hi : X.N[i]? = some x)
    (hloc : Blk X scope fun Y => Loc Y.env.scope x ∧ (Y.fn x = true ∨ Y.env.scope.names.lookup x = some .local)) (h : LcD X x px iter elt scope i σ H Q)
    (hs : ∀ x, foldedSetIterable iter X.env x = pure x := by intro _; rfl) (hw : (((wipe σ [i]).set i (some V.non)).set i none) = wipe σ [i] := by rfl) :
    W X (.ListComp elt [⟨.Name x px, iter, [], 0⟩] scope pos) σ H Q :=
  W.of (pe_lc (own := [(x, i)]) (g := gName i) (tt := tYes) (te := fun σ2 H2 K => Blk X scope fun Y => W Y elt σ2 H2 K) hc hN WI.pi ok (fun s H C cl fp => pg_name hN hi (hloc s H C cl fp).1 (hloc s H C cl fp).2) (fun _ _ _ _ _ => pts_nil)
    (fun s H C cl fp => ⟨fun pins s' σ' H' Q' I' h' => (h' s H C cl fp).run pins s' I'⟩) hs) (lcD_t hw h)
/-- y = [..] on one line -/
theorem ws_setLcD {D : Ends} {y : Str} {py spos : Pos} (j i : Nat) (hc : X.calm = true) (hN : X.N.Nodup) (ok : BlkOk X.N X.env.scope scope [(x, i)]) (hy : X.N[j]? = some y) (hi : X.N[i]? = some x)
    (hloc : Blk X scope fun Y => Loc Y.env.scope x ∧ (Y.fn x = true ∨ Y.env.scope.names.lookup x = some .local)) (h : LcD X x px iter elt scope i σ H fun v H1 => D.nx (σ.set j (some v)) H1)
    (hyl : X.env.scope.names.lookup y = some .local := by rfl) (hsw : swapsWith (.ListComp elt [⟨.Name x px, iter, [], 0⟩] scope pos) (some (.Name y py)) spos.line X.env = pure true := by exact sw_true rfl rfl rfl rfl)
    (hs : ∀ x, foldedSetIterable iter X.env x = pure x := by intro _; rfl) (hw : (((wipe σ [i]).set i (some V.non)).set i none) = wipe σ [i] := by rfl) :
    WS X (.Assign [.Name y py] (.ListComp elt [⟨.Name x px, iter, [], 0⟩] scope pos) spos) D σ H :=
  WS.of (ps_setLc (own := [(x, i)]) (g := gName i) (tt := tYes) (te := fun σ2 H2 K => Blk X scope fun Y => W Y elt σ2 H2 K) hc hN hy hyl hsw WI.pi ok (fun s H C cl fp => pg_name hN hi (hloc s H C cl fp).1 (hloc s H C cl fp).2) (fun _ _ _ _ _ => pts_nil)
    (fun s H C cl fp => ⟨fun pins s' σ' H' Q' I' h' => (h' s H C cl fp).run pins s' I'⟩) hs) (lcD_t hw h)
/-- l[:k] -/
theorem w_cutTo (h : W X a σ H fun x H1 => W X b σ H1 fun y H2 => ∃ (p : Addr) (k : Nat) (xs : List V), x = .ref p ∧ y = .int k ∧ SqL X.K H2 p xs ∧ ∀ r H3, Same H2 H3 → H2 r = none → H3 r = some (.lst (xs.take k)) → Q (.ref r) H3) : W X (.Subscript a (.Slice none (some b) none p2) pos) σ H Q := by
  refine W.of (pe_slice sl_list W.pe po_none (po_some W.pe)) ?_
  show W X a σ H _
  refine W.mono h fun x H1 q => ?_
  show W X b σ H1 _
  refine W.mono q fun y H2 ⟨p, k, xs, e1, e2, hp, q⟩ => ⟨(k : Int), e2, p, xs, e1, hp, fun r hr => q r _ (same_new hr) hr ?_⟩
  rw [upd_same]
  show some (HO.lst ((xs.drop 0).take (HT.sIx xs.length xs.length (some (k : Int)) - 0))) = _
  rw [HT.sIx_nat, List.drop_zero, Nat.sub_zero]
  congr 2
  by_cases hk : k ≤ xs.length
  · rw [Nat.min_eq_left hk]
  · rw [Nat.min_eq_right (by omega), List.take_length, List.take_of_length_le (by omega)]
theorem kv_strI {i : Int} (c : i.natAbs.log2 < 1920) (h : Q (.str (toString i)) H) : CallV X (.type "str") [.int i] H Q := ⟨_, call_str_int, i, rfl, c, h⟩
theorem mv_split {z s : Str} (h0 : (s.length == 0) = false) (hz : z.length + 2 ≤ sizeLine) (h : ∀ p H2, Same H H2 → H p = none → H2 p = some (.lst ((Txt.split z s).map V.str)) → Q (.ref p) H2) : MtV X "str.split" (.str z) [.str s] H Q :=
  ⟨_, mt_split, z, s, rfl, rfl, h0, hz, fun p hp => h p _ (same_new hp) hp upd_same⟩
theorem dpa_ints {K : PySem.W.Frag} {H : Hp} : ∀ ns : List Int, DpAll K H (ns.map V.int) (ns.map PyData.int)
  | [] => .nil
  | n :: ns => .cons (.int n) (dpa_ints ns)
theorem dpa_strs {K : PySem.W.Frag} {H : Hp} : ∀ zs : List Str, DpAll K H (zs.map V.str) (zs.map PyData.str)
  | [] => .nil
  | z :: zs => .cons (.str z) (dpa_strs zs)
end
end Ax
end
section
set_option maxHeartbeats 2000000
/-! own classes in the layer W: fields, making, classmethods, properties, isinstance, star parameters -/
namespace Ax
open PySem PySem.Spec PyProof.Rows L2 StX ClX
/-- a plain class whose instances isinstance may be asked of -/
structure KC (K : PySem.W.Frag) (C : Addr) : Prop where
  c : Cls K C
  ha : PySem.W.findIn K (.ref C) "__class__" = some (some (.builtin "object.__class__"))
  hn : PySem.W.specialIn K (.builtin "object.__class__") "__get__" = some (some (.builtin "getset_descriptor.__get__"))
  ht : PySem.W.takesIn K (.builtin "object.__class__") = some true
  hm : PySem.W.mroIn K C (.type "object") = some true
theorem KC.ty {K : PySem.W.Frag} {C a dx : Addr} {H : Hp} {fs : List (Str × V)} (k : KC K C) (e : H a = some (.ins C dx fs)) : TyX K H (.ref a) (.ref C) := .base (.ins e k.c k.ha k.hn k.ht k.hm)
/-- a def at f, called by positions -/
abbrev FnP (P : Program) (w : World) (K : PySem.W.Frag) (mg : Str → Option Value) (base : Heap) (k : Nat) (f : Addr) (sp : Sp) : Prop := FnR P w K mg base (L2.CX P w) k f sp
section
variable {X : Cx} {e a b o fe : Expr} {es : List Expr} {σ : L2.St} {H : Hp} {Q : VK} {D : Ends} {C g p : Addr} {f m x : Str} {pos np apos : Pos} {sp : Sp} {k : Nat} {E : XK} {mc : Value}
theorem w_fld (c : Cls X.K C) (n : NoAttr X.K C f) (h : W X e σ H fun x H1 => ∃ a dx fs v, x = .ref a ∧ H1 a = some (.ins C dx fs) ∧ fs.lookup f = some v ∧ Q v H1)
    (hb : attributeBase e f X.env (eval e X.env) = eval e X.env := by rfl) : W X (.Attribute e f pos) σ H Q :=
  W.of (pe_fld W.pe hb) (W.mono h fun x H1 ⟨a, dx, fs, v, ex, ea, l, q⟩ => ⟨a, C, dx, fs, v, ex, ea, c, n, l, q⟩)
theorem ws_fld {p' : Pos} (c : Cls X.K C) (n : NoAttr X.K C f) (h : W X e σ H fun y H1 => W X o σ H1 fun x H2 => ∃ a dx fs, x = .ref a ∧ H2 a = some (.ins C dx fs) ∧ fs.length < 1000 ∧ D.nx σ (upd H2 a (.ins C dx (putF f y fs))))
    (hs : swapsWith e (some (.Attribute o f p')) pos.line X.env = pure false := by rfl) : WS X (.Assign [.Attribute o f p'] e pos) D σ H :=
  WS.of (ps_fld (ta := W X o) (tv := W X e) W.pe W.pe hs) (W.mono h fun y H1 q => W.mono q fun x H2 ⟨a, dx, fs, ex, ea, l, q⟩ => ⟨a, C, dx, fs, ex, ea, c, n, l, q⟩)
/-- C(e, ..), C by a global's or a local's name -/
theorem w_make {n : Str} (M : Mk X.K C g) (F : FnP X.prog X.w X.K X.mg X.base k g sp) (hr : Room (k + 1) X.A) (hx : Passes (L2.CX X.prog X.w) X E)
    (h : W X (.Name n np) σ H fun c H0 => c = .ref C ∧ WA X (e :: es) σ H0 fun vs H1 => ∀ x dx, H1 x = none → H1 dx = none → dx ≠ x → sp (.ref x :: vs) (upd (upd H1 dx (.own x)) x (.ins C dx [])) (fun v H2 => v = .non ∧ Q (.ref x) H2) E)
    (he : starEach (e :: es) X.env = (false, eval e X.env) :: starEach es X.env := by rfl) (hpl : (backTo pos (starEach es X.env)).any (·.1) = false := by rfl) : W X (.Call (.Name n np) (e :: es) [] pos) σ H Q := by
  refine ⟨fun pins s I => wpAny_Call_Name_kw (thn (h.run pins s I) fun u s0 ⟨c, H0, I0, r0, ec, q0⟩ => ?_)⟩
  subst ec
  obtain rfl : u = Value.ref C := r0
  exact PySem.W.callWith_K (h₀ := X.base) I0.ok.mod.kin M.kp (thn (q0.run pos pins s0 I0) fun us s1 ⟨vs, H1, I1, r, q⟩ => ⟨I1.kIn, run_makeR M F hr hx I1 r q⟩) he hpl
/-- .. a star among the arguments behind the first -/
theorem w_makeS {n : Str} (M : Mk X.K C g) (F : FnP X.prog X.w X.K X.mg X.base k g sp) (hr : Room (k + 1) X.A) (hx : Passes (L2.CX X.prog X.w) X E)
    (h : W X (.Name n np) σ H fun c H0 => c = .ref C ∧ WA X (e :: es) σ H0 fun vs H1 => ∀ x dx, H1 x = none → H1 dx = none → dx ≠ x → sp (.ref x :: vs) (upd (upd H1 dx (.own x)) x (.ins C dx [])) (fun v H2 => v = .non ∧ Q (.ref x) H2) E)
    (he : starEach (e :: es) X.env = (false, eval e X.env) :: starEach es X.env := by rfl) (hst : (backTo pos (starEach es X.env)).any (·.1) = true := by rfl) : W X (.Call (.Name n np) (e :: es) [] pos) σ H Q := by
  refine ⟨fun pins s I => wpAny_Call_Name_kw (thn (h.run pins s I) fun u s0 ⟨c, H0, I0, r0, ec, q0⟩ => ?_)⟩
  subst ec
  obtain rfl : u = Value.ref C := r0
  exact PySem.W.callWith_S2 (h₀ := X.base) I0.ok.mod.kin M.kp (thn (q0.run pos pins s0 I0) fun us s1 ⟨vs, H1, I1, r, q⟩ => ⟨I1.kIn, run_makeR M F hr hx I1 r q⟩) he hst
/-- *e among the arguments -/
theorem wa_star {sp_ : Pos} {Q : List V → Hp → Prop} (h : W X e σ H fun x H1 => ∃ p xs, x = .ref p ∧ (SqT X.K H1 p xs ∨ SqL X.K H1 p xs) ∧ WA X es σ H1 fun ys H2 => Q (xs ++ ys) H2)
    (hs : starEach (.Starred e sp_ :: es) X.env = (true, eval e X.env) :: starEach es X.env := by rfl) : WA X (.Starred e sp_ :: es) σ H Q := WA.of (pa_star W.pe WA.pa hs) h
/-- C.m(e, ..), m a classmethod -/
theorem w_cmeth {pl : Sem Bool} (r : CRead X.K C mc) (c : CMet X.K C mc m p g) (F : FnP X.prog X.w X.K X.mg X.base k g sp) (hr : Room k X.A) (hx : Passes (L2.CX X.prog X.w) X E)
    (h : W X o σ H fun x H1 => x = .ref C ∧ WA X (e :: es) σ H1 fun vs H2 => sp (.ref C :: vs) H2 Q E)
    (hst : starEach (e :: es) X.env = (false, eval e X.env) :: starEach es X.env := by rfl) (hpl : (backTo pos (starEach es X.env)).any (·.1) = false := by rfl)
    (ht : eval (.Call (.Attribute o m apos) (e :: es) [] pos) X.env = (do
      let ov ← eval o X.env
      standAt apos.atName
      let (f, first) ← holding [ov] (getMethod ov m pl)
      callWith pos f first (backTo pos (starEach (e :: es) X.env)) (backToKw pos (keywordEach [] X.env))) := by rfl) : W X (.Call (.Attribute o m apos) (e :: es) [] pos) σ H Q :=
  W.of (ClX.pe_cmeth (ta := W X o) (t := WA X (e :: es)) W.pe r c F hr hx WA.pa hst hpl ht) (W.mono h fun x H1 ⟨ex, q⟩ => ⟨ex, q⟩)
/-- e.f, a property -/
theorem w_prop {fd : FuncData} {ps : List Str} (c : Cls X.K C) (hp : PropOf X.K C f p g) (F : FnOk X.prog X.w X.K X.mg X.base (L2.CX X.prog X.w) k g fd ps sp) (hr : Room (k + 1) X.A) (hb : Binds X.K fd ps []) (hx : Passes (L2.CX X.prog X.w) X.nox E)
    (h : W X e σ H fun x H1 => ∃ a dx fs, x = .ref a ∧ H1 a = some (.ins C dx fs) ∧ sp [.ref a] H1 Q E) (hab : attributeBase e f X.env (eval e X.env) = eval e X.env := by rfl) : W X (.Attribute e f pos) σ H Q :=
  W.of (pe_prop (ta := W X e) W.pe c hp F hr hb .nil hx hab) (W.mono h fun x H1 ⟨a, dx, fs, ex, ea, q⟩ => ⟨a, dx, fs, ex, ea, q⟩)
theorem kv_isC {x : V} {t : Value} {b : Bool} {v : V} {u : Value} (ty : TyX X.K H x t) (hu : ClsV v u) (e : PySem.W.kitOne X.K t u = some b) (q : Q (.bl b) H) : CallV X (.builtin "isinstance") [x, v] H Q := kv_isi hu ty e q
end
section
variable {P : Program} {w : World} {K : PySem.W.Frag} {mg : Str → Option Value} {base : Heap}
/-- a method, called by positions -/
theorem meth_okR {x q : Str} {st : Stmt} {N ps : List Str} {k : Nat} {sp : Sp} {f : Addr} (T : ∃ fd, FunD K x q (defArgs st) (defBody st) (defScope st) [] [] f fd) (S : FnScope N ps (defScope st))
    (hb : ∀ (kV doc pm : Value) (an : Option Addr) (cdv ct : Value) (us : List Value), us.length = ps.length → bindArgs (PySem.W.fnOf x q (defArgs st) (defBody st) (defScope st) .none kV doc pm an cdv ct) ⟨us, []⟩ = pure (ps.zip us))
    (len : ∀ vs H Q E, sp vs H Q E → vs.length = ps.length)
    (body : ∀ (cdv : Value) (A : Around) (outer : List Env) (s : Shared) (H : Hp) (vs : List V) (Q : VK) (E : XK), Room k (A.deeper (envOfC q (defScope st) s.heap.objs.size f cdv)) → sp vs H Q E →
      WB (cxOf (L2.CX P w) P w K mg base N q (defScope st) f cdv A outer s H E) (defBody st) { nx := fun _ H' => Q .non H', rt := Q } (start N vs) H) : FnP P w K mg base (k + 1) f sp := by
  obtain ⟨fd, F⟩ := T
  have B := F.bindsN hb
  have F1 := F.ok (CX := L2.CX P w) S len fun cdv A outer s H vs Q E hr h => ⟨_, WB.pss, body cdv A outer s H vs Q E hr h⟩
  intro A outer s H us vs Q E hr e0 r h
  have hl : us.length = ps.length := by rw [← r.length] <;> exact len _ _ _ _ h
  have b := B s us (e0.mod.kin.keeps fun b o e => (e0.bs b o e).1) (by rw [List.append_nil] <;> exact hl)
  rw [List.append_nil] at b
  exact F1.run A outer s H ⟨us, []⟩ us vs Q E hr e0 b r h
/-- a method with two parameters and a star one behind them -/
theorem meth_okS2 {x q p1 p2 pv : Str} {st : Stmt} {N : List Str} {k : Nat} {sp : Sp} {f : Addr} (T : ∃ fd, FunD K x q (defArgs st) (defBody st) (defScope st) [] [] f fd) (S : FnScope N ([p1, p2] ++ [pv]) (defScope st))
    (h0 : ∀ (dV kV doc pm : Value) (an : Option Addr) (cdv ct : Value) (a b : Value), bindArgs (PySem.W.fnOf x q (defArgs st) (defBody st) (defScope st) dV kV doc pm an cdv ct) ⟨[a, b], []⟩ = (newTuple [] >>= fun t => pure [(p1, a), (p2, b), (pv, t)]))
    (h1 : ∀ (dV kV doc pm : Value) (an : Option Addr) (cdv ct : Value) (a b r : Value) (rs : List Value), bindArgs (PySem.W.fnOf x q (defArgs st) (defBody st) (defScope st) dV kV doc pm an cdv ct) ⟨a :: b :: r :: rs, []⟩ = (newTuple (r :: rs) >>= fun t => pure [(p1, a), (p2, b), (pv, t)]))
    (body : ∀ (cdv : Value) (A : Around) (outer : List Env) (s : Shared) (H : Hp) (vs : List V) (Q : VK) (E : XK), Room k (A.deeper (envOfC q (defScope st) s.heap.objs.size f cdv)) → sp vs H Q E →
      WB (cxOf (L2.CX P w) P w K mg base N q (defScope st) f cdv A outer s H E) (defBody st) { nx := fun _ H' => Q .non H', rt := Q } (start N vs) H) :
    FnP P w K mg base (k + 1) f (fun vs H Q E => ∃ a b rest, vs = a :: b :: rest ∧ rest.length ≤ sizeLine ∧ ∀ p, H p = none → sp [a, b, .ref p] (upd H p (.tup rest)) Q E) := by
  obtain ⟨fd, F⟩ := T
  obtain ⟨oc, od, dV, kV, doc, pm, an, cdv, ct, osl, rfl, lk, hcd, _, _⟩ := F.ex
  have Z := fn_star (P := P) (w := w) (mg := mg) (base := base) (ps := [p1, p2]) (pv := pv) (k := k) (sp := sp) lk hcd S cxUp (bind_star2 (B := fun us => bindArgs (PySem.W.fnOf x q (defArgs st) (defBody st) (defScope st) dV kV doc pm an cdv ct) ⟨us, []⟩) (fun a b => h0 dV kV doc pm an cdv ct a b) fun a b r rs => h1 dV kV doc pm an cdv ct a b r rs)
    fun A outer s H vs Q E hr h => ⟨_, WB.pss, body cdv A outer s H vs Q E hr h⟩
  exact Z.imp fun vs H Q E ⟨a, b, rest, e, z, q⟩ => ⟨[a, b], rest, e, rfl, z, q⟩
end
end Ax
end
section
set_option maxHeartbeats 4000000
/-! dict comprehensions with keys of any kind that can be put; with one for and with two -/
namespace Ax
open PySem PySem.Spec PyProof.Rows L2
/-- what a store does to a dict: the new object at D -/
abbrev Put := Hp → Addr → V → V → HO → Prop
def PutOk (pt : Put) : Prop := ∀ (X : Cx) (pins : List (Addr × Obj)) (σ : L2.St) (H : Hp) (s : Shared) (E : Value → Shared → Prop) (D : Addr) (y z : V) (u r : Value) (o : HO) (Q : Unit → Shared → Prop),
  X.A.units + 64 < cLine → Inv X pins σ H s → pt H D y z o → RelV y u → RelV z r → (∀ s', Inv X pins σ (upd H D o) s' → Q () s') → wpAny (model X.prog X.w) X.A (dictSet D u r) Q E s
def putKP : Put := fun H D y z o => ∃ kvs k, y = kV k ∧ H D = some (.dK kvs) ∧ kvs.length < sizeLine ∧ o = .dK (putK kvs k z)
theorem putKP_ok : PutOk putKP := by
  rintro X pins σ H s E D y z u r o Q hu I ⟨kvs, k, rfl, hD, hz, rfl⟩ ry rz h
  exact d_dictSet I hD hz ry rz h
/-- keys tuples of ints and texts -/
def putTP : Put := fun H D y z o => ∃ kvs k b, y = .ref b ∧ H D = some (.dT kvs) ∧ H b = some (.tup (k.map kV)) ∧ kvs.length < sizeLine ∧ o = .dT (putK kvs k z)
theorem putTP_ok : PutOk putTP := by
  rintro X pins σ H s E D y z u r o Q hu I ⟨kvs, k, b, rfl, hD, hb, hz, rfl⟩ ry rz h
  cases (show u = Value.ref b from ry)
  obtain ⟨z1, hd, xs, rel, dd⟩ := dt_of I.hok hD
  have hx : xs.length ≤ sizeLine := by rw [← Paired.length rel] <;> exact z1
  have hl : (putK kvs k z).length ≤ sizeLine := by
    have := length_putK kvs k z
    omega
  refine wpAny_dictSet_heap (hsz := hx) (show X.A.units < cLine by omega) (key_of I.hok hb) dd fun h' dd' hs => h _ ?_
  obtain ⟨q, es, ep, hq, h2, h3, h4, _, h5⟩ := dd'
  refine d_write I (by rw [hD] <;> exact True.intro) hs ⟨q, hq⟩ ⟨hl, hd, _, (rel.put k hb rz).keeps fun c ys ec => ?_, q, es, ep, hq, h2, h3, h4, h5⟩
  exact (upd_ne (ne_of ec hD (fun z => nomatch z))).trans ec
/-! ### the loops -/
section
variable {prog : Program} {w : World} {A : Around} {R : Result → Shared → Prop} {s : Shared} {kx vx t1 t2 i1 i2 : Expr} {ifs1 ifs2 : List Expr} {scope : Scope} {pos : Pos} {it : Value} {D : Addr} {env : Env}
theorem dict2_in : compTurn (.DictComp kx vx [⟨t1, i1, ifs1, 0⟩, ⟨t2, i2, ifs2, 0⟩] scope pos) 1 it (.ref D) env = (do
      standAt i2.pos
      match ← pyNext it with
      | none => pure (.done .next)
      | some v =>
        letOwnedTupleGo t2 it v
        assign t2 env v
        let mut ok := true
        for c in ifs2 do
          if ok then ok ← isTrue c env (eval c env)
        if ok then
          (do
            let kv ← eval kx env
            let vv ← holding [kv] (eval vx env)
            standAt { kx.pos with endLine := vx.pos.endLine, endCol := vx.pos.endCol }
            holding [kv, vv] (dictSet D kv vv))
        again (.compLoop (.DictComp kx vx [⟨t1, i1, ifs1, 0⟩, ⟨t2, i2, ifs2, 0⟩] scope pos) 1 it (.ref D) env)) := by rfl
theorem dict2_out : compTurn (.DictComp kx vx [⟨t1, i1, ifs1, 0⟩, ⟨t2, i2, ifs2, 0⟩] scope pos) 0 it (.ref D) env = (do
      standAt i1.pos
      match ← pyNext it with
      | none => pure (.done .next)
      | some v =>
        letOwnedTupleGo t1 it v
        assign t1 env v
        let mut ok := true
        for c in ifs1 do
          if ok then ok ← isTrue c env (eval c env)
        if ok then
          let x ← eval i2 env
          standAt i2.pos
          let x ← foldedSetIterable i2 env x
          let _ ← runOwn (.compStart (.DictComp kx vx [⟨t1, i1, ifs1, 0⟩, ⟨t2, i2, ifs2, 0⟩] scope pos) 1 (← holding [x] (pyIter x)) (.ref D) env) env
        again (.compLoop (.DictComp kx vx [⟨t1, i1, ifs1, 0⟩, ⟨t2, i2, ifs2, 0⟩] scope pos) 0 it (.ref D) env)) := by rfl
/-- nothing is raised -/
abbrev noE : Value → Shared → Prop := fun _ _ => False
theorem dict2_start (h0 : codeAny (model prog w) A (.compLoop (.DictComp kx vx [⟨t1, i1, ifs1, 0⟩, ⟨t2, i2, ifs2, 0⟩] scope pos) 1 it (.ref D) env) R s)
    (h : wpAny (model prog w) A (pyIter it) (fun it' s' => codeAny (model prog w) A (.compLoop (.DictComp kx vx [⟨t1, i1, ifs1, 0⟩, ⟨t2, i2, ifs2, 0⟩] scope pos) 1 it' (.ref D) env) R s') (notedBy (model prog w) A env fun x s' => R (.error x) s') s) :
    codeAny (model prog w) A (.compStart (.DictComp kx vx [⟨t1, i1, ifs1, 0⟩, ⟨t2, i2, ifs2, 0⟩] scope pos) 1 it (.ref D) env) R s := by
  refine codeAny_of_tree ?_
  show wpAny _ A ((compStart (.DictComp kx vx [⟨t1, i1, ifs1, 0⟩, ⟨t2, i2, ifs2, 0⟩] scope pos) 1 it (.ref D) env).onRaise (fun x => do noteFrame x env; standAt theWindowsPlace)) _ _ s
  refine wpAny_notedAt ?_
  unfold compStart
  show wpAny _ A (ask >>= _) _ _ s
  refine wpAny_bind (wpAny_askSetting (wpAny_ite ?_))
  split
  · first
      | exact wpAny_pure (And.intro rfl h0)
      | exact wpAny_bind (wpAny_pure (wpAny_pure (And.intro rfl h0)))
  · first
      | exact wpAny_bind (wpAny_rule (wpAny_bind (wpAny_standAt (wpAny_bind (wpAny_mono h (fun it' s' z => wpAny_pure (And.intro rfl z)) fun _ _ x => x)))))
      | (refine wpAny_bind (wpAny_rule ?_); show wpAny _ _ (standAt i2.pos >>= _) _ _ s; exact wpAny_bind (wpAny_standAt (wpAny_bind (wpAny_mono h (fun it' s' z => wpAny_pure (And.intro rfl z)) fun _ _ x => x))))
theorem dict2_inner (I : Nat → Shared → Prop)
    (turn : ∀ n s, I n s → wpAny (model prog w) A (pyNext it) (fun r s1 => match r with
      | none => R (.ok .next) s1
      | some v => wpAny (model prog w) A (letOwnedTupleGo t2 it v) (fun _ s2 => wpAny (model prog w) A (assign t2 env v) (fun _ s3 =>
          wpAny (model prog w) A (eval kx env) (fun kv s4 => wpAny (model prog w) A (eval vx env) (fun vv s5 => wpAny (model prog w) A (dictSet D kv vv) (fun _ s6 => ∃ m, m < n ∧ I m s6) noE s5) noE s4) noE s3) noE s2) noE s1) noE s)
    (n : Nat) (h : I n s) : codeAny (model prog w) A (.compLoop (.DictComp kx vx [⟨t1, i1, [], 0⟩, ⟨t2, i2, [], 0⟩] scope pos) 1 it (.ref D) env) R s := by
  refine codeAny_loop rfl I (fun n s hI => ?_) n h
  show wpAny _ A ((compTurn (.DictComp kx vx [⟨t1, i1, [], 0⟩, ⟨t2, i2, [], 0⟩] scope pos) 1 it (.ref D) env).onRaise (fun x => do noteFrame x env; theTreesLotGoes x)) _ _ s
  refine wpAny_noted ?_
  rw [dict2_in]
  refine wpAny_bind (wpAny_standAt (wpAny_bind (thnF (turn n s hI) fun r s1 h1 => ?_)))
  cases r with
  | none => exact wpAny_pure h1
  | some v =>
    refine wpAny_bind (thnF h1 fun _ s2 h2 => ?_)
    refine wpAny_bind (thnF h2 fun _ s3 h3 => wpAny_bind (wpAny_tests_nil ?_))
    exact wpAny_bind (wpAny_bind (thnF h3 fun kv s4 h4 => wpAny_bind (wpAny_holding (thnF h4 fun vv s5 h5 => wpAny_bind (wpAny_standAt (wpAny_holding (thnF h5 fun _ s6 h6 => wpAny_pure ⟨rfl, h6⟩)))))))
theorem dict2_outer (I : Nat → Shared → Prop) (hs : ∀ x, foldedSetIterable i2 env x = pure x)
    (turn : ∀ n s, I n s → wpAny (model prog w) A (pyNext it) (fun r s1 => match r with
      | none => R (.ok .next) s1
      | some v => wpAny (model prog w) A (letOwnedTupleGo t1 it v) (fun _ s2 => wpAny (model prog w) A (assign t1 env v) (fun _ s3 =>
          wpAny (model prog w) A (eval i2 env) (fun x s4 => wpAny (model prog w) A (pyIter x) (fun it2 s5 =>
            codeAny (model prog w) A (.compLoop (.DictComp kx vx [⟨t1, i1, [], 0⟩, ⟨t2, i2, [], 0⟩] scope pos) 1 it2 (.ref D) env) (fun r s6 => r = .ok .next ∧ ∃ m, m < n ∧ I m s6) s5 ∧
            ∀ R' : Result → Shared → Prop, codeAny (model prog w) A (.compLoop (.DictComp kx vx [⟨t1, i1, [], 0⟩, ⟨t2, i2, [], 0⟩] scope pos) 1 it2 (.ref D) env) R' s5 → wpAny (model prog w) A (pyIter it2) (fun it' s' => codeAny (model prog w) A (.compLoop (.DictComp kx vx [⟨t1, i1, [], 0⟩, ⟨t2, i2, [], 0⟩] scope pos) 1 it' (.ref D) env) R' s') noE s5) noE s4) noE s3) noE s2) noE s1) noE s)
    (n : Nat) (h : I n s) : codeAny (model prog w) A (.compLoop (.DictComp kx vx [⟨t1, i1, [], 0⟩, ⟨t2, i2, [], 0⟩] scope pos) 0 it (.ref D) env) R s := by
  refine codeAny_loop rfl I (fun n s hI => ?_) n h
  show wpAny _ A ((compTurn (.DictComp kx vx [⟨t1, i1, [], 0⟩, ⟨t2, i2, [], 0⟩] scope pos) 0 it (.ref D) env).onRaise (fun x => do noteFrame x env; theTreesLotGoes x)) _ _ s
  refine wpAny_noted ?_
  rw [dict2_out]
  refine wpAny_bind (wpAny_standAt (wpAny_bind (thnF (turn n s hI) fun r s1 h1 => ?_)))
  cases r with
  | none => exact wpAny_pure h1
  | some v =>
    refine wpAny_bind (thnF h1 fun _ s2 h2 => ?_)
    refine wpAny_bind (thnF h2 fun _ s3 h3 => wpAny_bind (wpAny_tests_nil ?_))
    refine wpAny_bind (thnF h3 fun x s4 h4 => wpAny_bind (wpAny_standAt (wpAny_bind (wpAny_of_eq (hs x) ?_))))
    refine wpAny_bind (wpAny_holding (thnF h4 fun it2 s5 ⟨h5, h6⟩ => ?_))
    refine wpAny_bind (wpAny_runOwn ?_)
    have lp := codeAny_mono h5 (R' := fun r s' => match r with
      | .ok f => wpAny (model prog w) A (again (.compLoop (.DictComp kx vx [⟨t1, i1, [], 0⟩, ⟨t2, i2, [], 0⟩] scope pos) 0 it (.ref D) env)) (fun fin s' => match fin with
        | .done f => R (.ok f) s'
        | .again c' => c' = .compLoop (.DictComp kx vx [⟨t1, i1, [], 0⟩, ⟨t2, i2, [], 0⟩] scope pos) 0 it (.ref D) env ∧ ∃ m, m < n ∧ I m s') (notedBy (model prog w) A env fun e s' => R (.error e) s') s'
      | .error e => cameBackBy (model prog w) A env (notedBy (model prog w) A env fun e s' => R (.error e) s') e s') (fun r s6 ⟨er, q⟩ => by
        subst er
        exact wpAny_pure ⟨rfl, q⟩)
    exact dict2_start lp (thnF (h6 _ lp) fun _ _ q => q)
end
end Ax
end
section
set_option maxHeartbeats 4000000
/-! {k: v for t1 in i1 for t2 in i2} -/
namespace Ax
open PySem PySem.Spec PyProof.Rows L2
/-- the reading of the inner for -/
def In2 (J2 : It) (g2 : TG) (tk tv : TE) (pt : Put) (D : Addr) (σ2 : L2.St) (H3 : Hp) (Nx : Hp → Prop) : Prop := ∃ n2 G2 Y2, Walk J2 n2 G2 Y2 ∧ ∃ P2 : Nat → Hp → Prop, P2 0 H3 ∧ (∀ j H, j ≤ n2 → P2 j H → G2 H) ∧ (∀ H, P2 n2 H → Nx H) ∧
  ∀ j y H H', j < n2 → P2 j H → Y2 j H y H' → g2 y σ2 H' fun σ3 H4 => (σ2.length = σ3.length ∧ ∀ (k : Nat) (v : V), σ2[k]? = some (some v) → σ3[k]? = some (some v)) ∧ tk σ3 H4 fun u H5 => tv σ3 H5 fun z H6 => ∃ o, pt H6 D u z o ∧ P2 (j + 1) (upd H6 D o)
/-- .. of the whole: emp the empty dict's object -/
def tDc2 (wi1 wi2 : TI) (g1 g2 : TG) (tk tv : TE) (pt : Put) (emp : HO) (vs : List Nat) : TE := fun σ H Q => wi1 σ H fun J1 H1 => ∃ n1 G1 Y1, Walk J1 n1 G1 Y1 ∧ ∀ D, H1 D = none → ∃ P : Nat → Hp → Prop, P 0 (upd H1 D emp) ∧ (∀ i H, i ≤ n1 → P i H → G1 H) ∧ (∀ H, P n1 H → Q (.ref D) H) ∧
  ∀ i x H H', i < n1 → P i H → Y1 i H x H' → g1 x (wipe σ vs) H' fun σ2 H2 => wipe σ2 vs = wipe σ vs ∧ wi2 σ2 H2 fun J2 H3 => In2 J2 g2 tk tv pt D σ2 H3 (P (i + 1))
section
variable {X : Cx} {kx vx t1 t2 i1 i2 : Expr} {scope : Scope} {own : List (Str × Nat)} {pos : Pos} {wi1 wi2 : TI} {g1 g2 : TG} {tk tv : TE} {pt : Put} {emp : HO}
theorem pe_dc2 (hpt : PutOk pt) (hemp : ∀ (P : Program) (w : World) (H : Hp) (h : Heap), sysModules < h.objs.size → ObjOk P w H (h.push { cls := .type "dict", data := .dict #[] }) h.objs.size emp) (hu : X.A.units + 64 < cLine) (hc : X.calm = true) (hN : X.N.Nodup)
    (hi : PI X t1 i1 wi1) (ok : BlkOk X.N X.env.scope scope own) (hg1 : Blk X scope fun Y => PG Y t1 g1) (hg2 : Blk X scope fun Y => PG Y t2 g2) (hi2 : Blk X scope fun Y => PI Y t2 i2 wi2) (hk : Blk X scope fun Y => PE Y kx tk) (hv : Blk X scope fun Y => PE Y vx tv)
    (hs : ∀ x, foldedSetIterable i1 X.env x = pure x := by intro _; rfl) (hs2 : Blk X scope fun Y => ∀ x, foldedSetIterable i2 Y.env x = pure x := by intro _ _ _ _ _ _; rfl) :
    PE X (.DictComp kx vx [⟨t1, i1, [], 0⟩, ⟨t2, i2, [], 0⟩] scope pos) (tDc2 wi1 wi2 g1 g2 tk tv pt emp (own.map (·.2))) := by
  refine ⟨fun pins s σ H Q I h => ?_⟩
  rw [arm_eval_DictComp]
  have free : ∀ y ∈ scope.names, y.2 = .free → ∃ c, X.env.cells.lookup y.1 = some c := fun y hy e => (ok.free y hy e).elim (fun k => I.ok.has _ (.inl k)) fun k => I.ok.has _ (.inr k)
  refine wpAny_comprehension_free (use := none) rfl hs (closure_ok free) ok.kind (fun y hy e => (ok.uniq y hy).trans (by rw [e])) (thn (hi.run pins s σ H _ I h) fun xv s1 hx => thn hx fun itv s2 h2 => ?_)
  obtain ⟨it, fp, tn, J, H2, e, I2, T, st2, f2, n1, G1, Y1, wk, q⟩ := h2
  subst e
  refine wpAny_newObj_type (newEnv_comp ?_)
  generalize hD : s2.heap.objs.size = D
  have nD : H2 D = none := I2.hok.fresh (Nat.le_of_eq hD)
  obtain ⟨P, p0, pG, pQ, pS⟩ := q D nD
  generalize hs3 : ({ s2 with heap := s2.heap.push { cls := .type "dict", data := .dict #[] } } : Shared) = s3
  have h3 : s3.heap = s2.heap.push { cls := .type "dict", data := .dict #[] } := by rw [← hs3]
  have I3 : Inv X pins σ (upd H2 D emp) s3 := by
    rw [← hs3]
    refine I2.laid (t' := s2.toks) (fun b o z => Heap.get?_push_of_some _ z) (Nat.le_of_eq hD) ?_
    rw [← hD]
    exact hemp _ _ _ _ I2.big
  have sz : ∀ b ∈ fp, b < s2.heap.objs.size := fun b hb => by
    obtain ⟨o, z, _⟩ := T.obj _ _ st2 b hb
    exact Heap.lt_size z
  have f3 : ∀ b ∈ fp, FpOk X pins (upd H2 D emp) b ∧ b < s3.heap.objs.size := fun b hb =>
    ⟨⟨(upd_ne (by rw [← hD] <;> exact Nat.ne_of_lt (sz b hb))).trans (f2 b hb).1, (f2 b hb).2⟩, by rw [h3, Heap.size_push] <;> exact Nat.lt_succ_of_lt (sz b hb)⟩
  have st3 : tn 0 s3.heap := T.keep _ _ _ st2 fun b _ o z => by rw [h3] <;> exact Heap.get?_push_of_some _ z
  have I4 := block_start I3 ok hN f3
  have pg1 := hg1 s3 (upd H2 D emp) s3.heap.objs.size (cellsFrom (s3.heap.objs.size + 1) scope.names (cloFrom X.env.cells scope.names [])) fp
  have pg2 := hg2 s3 (upd H2 D emp) s3.heap.objs.size (cellsFrom (s3.heap.objs.size + 1) scope.names (cloFrom X.env.cells scope.names [])) fp
  have pi2 := hi2 s3 (upd H2 D emp) s3.heap.objs.size (cellsFrom (s3.heap.objs.size + 1) scope.names (cloFrom X.env.cells scope.names [])) fp
  have pk := hk s3 (upd H2 D emp) s3.heap.objs.size (cellsFrom (s3.heap.objs.size + 1) scope.names (cloFrom X.env.cells scope.names [])) fp
  have pv := hv s3 (upd H2 D emp) s3.heap.objs.size (cellsFrom (s3.heap.objs.size + 1) scope.names (cloFrom X.env.cells scope.names [])) fp
  have ps2 := hs2 s3 (upd H2 D emp) s3.heap.objs.size (cellsFrom (s3.heap.objs.size + 1) scope.names (cloFrom X.env.cells scope.names [])) fp
  show codeAny _ _ (.compStart (.DictComp kx vx [⟨t1, i1, [], 0⟩, ⟨t2, i2, [], 0⟩] scope pos) 0 (.ref it) (.ref D) (compEnvC scope (cellsFrom (s3.heap.objs.size + 1) scope.names (cloFrom X.env.cells scope.names [])) s3.heap.objs.size X.env)) (compPost (model X.prog X.w) X.A X.xe none (EP X pins σ Q) (.ref D) s3.heap.objs.size)
    { s3 with heap := pushCells (s3.heap.push { cls := .type "dict", data := .dict #[] }) scope.names }
  have nfp : ∀ b ∈ fp, (upd H2 D emp) b = none := fun b hb => (f3 b hb).1.1
  generalize hce : compEnvC scope (cellsFrom (s3.heap.objs.size + 1) scope.names (cloFrom X.env.cells scope.names [])) s3.heap.objs.size X.env = ce at I4 pg1 pg2 pi2 pk pv ps2 ⊢
  have cL : ce.locals = s3.heap.objs.size := by subst hce <;> rfl
  generalize hH3 : upd H2 D emp = H3 at I3 I4 pg1 pg2 pi2 pk pv ps2 p0 nfp f3
  generalize hs4 : ({ s3 with heap := pushCells (s3.heap.push { cls := .type "dict", data := .dict #[] }) scope.names } : Shared) = s4 at I4 ⊢
  have st4 : tn 0 s4.heap := T.keep _ _ _ st3 fun b _ o z => by rw [← hs4] <;> exact pushCells_keeps _ _ _ _ (Heap.get?_push_of_some _ z)
  have stat : ∀ {σ' : L2.St} {H' : Hp} {s' : Shared}, Inv (X.blk s3 H3 scope ce fp) [] σ' H' s' → (∀ b ∈ fp, H' b = none) → ∀ b ∈ fp, FpOk (X.blk s3 H3 scope ce fp) [] H' b := fun {σ' H' s'} I' hn b hb =>
    ⟨hn b hb, (I'.ok.exf b hb).1, I'.ok.exfs b hb, .inl hb, fun x c e => (I'.ok.exf b hb).2 x c e, fun r hr => absurd (show r ∈ ([] : List (Addr × Obj)) ++ [] from hr) (by simp)⟩
  have loop : codeAny (model X.prog X.w) X.A (.compLoop (.DictComp kx vx [⟨t1, i1, [], 0⟩, ⟨t2, i2, [], 0⟩] scope pos) 0 (.ref it) (.ref D) ce) (compPost (model X.prog X.w) X.A X.xe none (EP X pins σ Q) (.ref D) s3.heap.objs.size) s4 := by
    refine dict2_outer (fun n s' => ∃ i H', n = n1 - i ∧ i ≤ n1 ∧ Inv (X.blk s3 H3 scope ce fp) [] (wipe σ (own.map (·.2))) H' s' ∧ tn i s'.heap ∧ (∀ b ∈ fp, H' b = none) ∧ P i H') ps2 ?_ n1 ⟨0, H3, rfl, Nat.zero_le _, I4, st4, nfp, p0⟩
    rintro n s5 ⟨i, H5, en, hin, I5, st5, n5, p5⟩
    by_cases hlt : i < n1
    · refine thnF (T.item (X.blk s3 H3 scope ce fp) rfl rfl rfl hc i [] s5 _ H5 (fun _ _ => False) I5 (stat I5 n5) st5 (wk.goes i H5 hlt (pG i H5 hin p5))) fun r s6 ⟨u, hr, h6⟩ => ?_
      subst hr
      refine thnF h6 fun _ s7 ⟨x, H7, I7, r7, y7, st7, n7⟩ => ?_
      have I7p := I7.pinned (stat I7 n7) (T.obj _ _ st7)
      refine thnF (pg1.run _ s7 _ H7 x u _ I7p r7 (pS i x H5 H7 hlt p5 (wk.yields i H5 x H7 hlt (pG i H5 hin p5) y7))) fun _ s8 ⟨σ8, H8, I8, hw8, q8⟩ => ?_
      refine thnF (pi2.run _ s8 σ8 H8 _ I8 q8) fun xv s9 h9 => thnF h9 fun itv2 s10 h10 => ?_
      obtain ⟨it2, fp2, tn2, J2, H10, e2, I10, T2, st10, f10, n2, G2, Y2, wk2, P2, q0, qG, qN, qS⟩ := h10
      subst e2
      have stat2 : ∀ {H' : Hp}, (∀ b ∈ fp2, H' b = none) → ∀ b ∈ fp2, FpOk (X.blk s3 H3 scope ce fp) ([] ++ pinsAt fp s7.heap) H' b := fun hn b hb => ⟨hn b hb, (f10 b hb).2⟩
      refine ⟨?_, fun R' lp => T2.self X.A 0 _ _ _ st10 lp⟩
      refine dict2_inner (fun m s' => ∃ j H', m = n2 - j ∧ j ≤ n2 ∧ Inv (X.blk s3 H3 scope ce fp) ([] ++ pinsAt fp s7.heap) σ8 H' s' ∧ tn2 j s'.heap ∧ (∀ b ∈ fp2, H' b = none) ∧ P2 j H') ?_ n2 ⟨0, H10, rfl, Nat.zero_le _, I10, st10, fun b hb => (f10 b hb).1, q0⟩
      rintro m s11 ⟨j, H11, em, hjn, I11, st11, n11, p11⟩
      by_cases hjt : j < n2
      · refine thnF (T2.item (X.blk s3 H3 scope ce fp) rfl rfl rfl hc j _ s11 _ H11 (fun _ _ => False) I11 (stat2 n11) st11 (wk2.goes j H11 hjt (qG j H11 hjn p11))) fun r s12 ⟨u2, hr, h12⟩ => ?_
        subst hr
        refine thnF h12 fun _ s13 ⟨x2, H13, I13, r13, y13, st13, n13⟩ => ?_
        have I13p := I13.pinned (stat2 n13) (T2.obj _ _ st13)
        refine thnF (pg2.run _ s13 _ H13 x2 u2 _ I13p r13 (qS j x2 H11 H13 hjt p11 (wk2.yields j H11 x2 H13 hjt (qG j H11 hjn p11) y13))) fun _ s14 ⟨σ14, H14, I14, ⟨hl14, hw14⟩, q14⟩ => ?_
        refine thnF (pk.run _ s14 σ14 H14 _ I14 q14) fun kv s15 ⟨yk, H15, I15, r15, q15⟩ => ?_
        refine thnF (pv.run _ s15 σ14 H15 _ I15 q15) fun vv s16 ⟨yv, H16, I16, r16, o, po, p16⟩ => ?_
        refine hpt (X.blk s3 H3 scope ce fp) _ _ _ _ _ _ _ _ _ _ _ _ hu I16 po r15 r16 fun s17 I17 => ?_
        have pin' : ∀ b ∈ fp2, ∀ ob, s13.heap.get? b = some ob → s17.heap.get? b = some ob ∧ (upd H16 D o) b = none := fun b hb ob z =>
          let y := I17.pin (b, ob) (List.mem_append_right _ (List.mem_append_right _ (mem_pinsAt hb z)))
          ⟨y.1, y.2.1⟩
        refine ⟨n2 - (j + 1), by omega, j + 1, _, rfl, hjt, I17.unpinned.weak hl14 hw14, T2.keep _ _ _ st13 fun b hb ob z => (pin' b hb ob z).1, fun b hb => ?_, p16⟩
        obtain ⟨ob, z, _⟩ := T2.obj _ _ st13 b hb
        exact (pin' b hb ob z).2
      · have ej : j = n2 := by omega
        subst ej
        refine thnF (T2.done (X.blk s3 H3 scope ce fp) rfl rfl rfl hc j _ s11 _ H11 (fun _ _ => False) I11 (stat2 n11) st11 (wk2.stops H11 (qG j H11 (Nat.le_refl _) p11))) fun r s12 ⟨hr, I12⟩ => ?_
        subst hr
        have pin' : ∀ b ∈ fp, ∀ ob, s7.heap.get? b = some ob → s12.heap.get? b = some ob ∧ H11 b = none := fun b hb ob z =>
          let y := I12.pin (b, ob) (List.mem_append_right _ (List.mem_append_right _ (mem_pinsAt hb z)))
          ⟨y.1, y.2.1⟩
        have hl : (wipe σ (own.map (·.2))).length = σ8.length := by rw [← hw8, wipe_length]
        refine ⟨rfl, n1 - (i + 1), by omega, i + 1, H11, rfl, hlt, (I12.unpinned (pins := [])).weak hl (fun k v z => (wipe_some (hw8 ▸ z)).1), T.keep _ _ _ st7 fun b hb ob z => (pin' b hb ob z).1, fun b hb => ?_, qN H11 p11⟩
        obtain ⟨ob, z, _⟩ := T.obj _ _ st7 b hb
        exact (pin' b hb ob z).2
    · have ei : i = n1 := by omega
      subst ei
      refine thnF (T.done (X.blk s3 H3 scope ce fp) rfl rfl rfl hc i [] s5 _ H5 (fun _ _ => False) I5 (stat I5 n5) st5 (wk.stops H5 (pG i H5 (Nat.le_refl _) p5))) fun r s6 ⟨hr, I6⟩ => ?_
      subst hr
      have I7 : Inv X pins σ H5 s6 := I3.call' (ch := fp) I6.os I6.base I6.hok I6.bare fun b hb => ⟨(f3 b hb).1.2.2.2.1, (f3 b hb).1.2.1, (f3 b hb).1.2.2.2.2.1, (f3 b hb).1.2.2.2.2.2⟩
      have nC : H5 s3.heap.objs.size = none := cL ▸ I6.free
      obtain ⟨m, hn, _⟩ := I6.loc
      have hn : s6.heap.Ns s3.heap.objs.size m := cL ▸ hn
      obtain ⟨f0, f1, f2', f3', f4, f5⟩ := I3.fpOk (Nat.le_refl _) nC
      exact ⟨m, hn, fun h'' sb => ⟨.ref D, H5, I7.turned (t' := s6.toks) (fun b o hb z => (sb.2 b hb).trans z) f0 f1 f3' f4 f5, rfl, pQ H5 p5⟩⟩
  exact codeAny_compStart_dict loop (T.self X.A 0 _ _ _ st4 loop)
/-- one for, no test, any kind of key -/
def tDc1 (wi : TI) (g : TG) (tk tv : TE) (pt : Put) (emp : HO) (vs : List Nat) : TE := fun σ H Q => wi σ H fun J H1 => ∃ n G Y, Walk J n G Y ∧ ∀ D, H1 D = none → ∃ P : Nat → Hp → Prop, P 0 (upd H1 D emp) ∧ (∀ i H, i ≤ n → P i H → G H) ∧ (∀ H, P n H → Q (.ref D) H) ∧
  ∀ i x H H', i < n → P i H → Y i H x H' → g x (wipe σ vs) H' fun σ2 H2 => wipe σ2 vs = wipe σ vs ∧ tk σ2 H2 fun u H5 => tv σ2 H5 fun z H6 => ∃ o, pt H6 D u z o ∧ P (i + 1) (upd H6 D o)
theorem pe_dc1 (hpt : PutOk pt) (hemp : ∀ (P : Program) (w : World) (H : Hp) (h : Heap), sysModules < h.objs.size → ObjOk P w H (h.push { cls := .type "dict", data := .dict #[] }) h.objs.size emp) (hu : X.A.units + 64 < cLine) (hc : X.calm = true) (hN : X.N.Nodup)
    (hi : PI X t1 i1 wi1) (ok : BlkOk X.N X.env.scope scope own) (hg1 : Blk X scope fun Y => PG Y t1 g1) (hk : Blk X scope fun Y => PE Y kx tk) (hv : Blk X scope fun Y => PE Y vx tv)
    (hs : ∀ x, foldedSetIterable i1 X.env x = pure x := by intro _; rfl) :
    PE X (.DictComp kx vx [⟨t1, i1, [], 0⟩] scope pos) (tDc1 wi1 g1 tk tv pt emp (own.map (·.2))) := by
  refine ⟨fun pins s σ H Q I h => ?_⟩
  rw [arm_eval_DictComp]
  have free : ∀ y ∈ scope.names, y.2 = .free → ∃ c, X.env.cells.lookup y.1 = some c := fun y hy e => (ok.free y hy e).elim (fun k => I.ok.has _ (.inl k)) fun k => I.ok.has _ (.inr k)
  refine wpAny_comprehension_free (use := none) rfl hs (closure_ok free) ok.kind (fun y hy e => (ok.uniq y hy).trans (by rw [e])) (thn (hi.run pins s σ H _ I h) fun xv s1 hx => thn hx fun itv s2 h2 => ?_)
  obtain ⟨it, fp, tn, J, H2, e, I2, T, st2, f2, n1, G1, Y1, wk, q⟩ := h2
  subst e
  refine wpAny_newObj_type (newEnv_comp ?_)
  generalize hD : s2.heap.objs.size = D
  have nD : H2 D = none := I2.hok.fresh (Nat.le_of_eq hD)
  obtain ⟨P, p0, pG, pQ, pS⟩ := q D nD
  generalize hs3 : ({ s2 with heap := s2.heap.push { cls := .type "dict", data := .dict #[] } } : Shared) = s3
  have h3 : s3.heap = s2.heap.push { cls := .type "dict", data := .dict #[] } := by rw [← hs3]
  have I3 : Inv X pins σ (upd H2 D emp) s3 := by
    rw [← hs3]
    refine I2.laid (t' := s2.toks) (fun b o z => Heap.get?_push_of_some _ z) (Nat.le_of_eq hD) ?_
    rw [← hD]
    exact hemp _ _ _ _ I2.big
  have sz : ∀ b ∈ fp, b < s2.heap.objs.size := fun b hb => by
    obtain ⟨o, z, _⟩ := T.obj _ _ st2 b hb
    exact Heap.lt_size z
  have f3 : ∀ b ∈ fp, FpOk X pins (upd H2 D emp) b ∧ b < s3.heap.objs.size := fun b hb =>
    ⟨⟨(upd_ne (by rw [← hD] <;> exact Nat.ne_of_lt (sz b hb))).trans (f2 b hb).1, (f2 b hb).2⟩, by rw [h3, Heap.size_push] <;> exact Nat.lt_succ_of_lt (sz b hb)⟩
  have st3 : tn 0 s3.heap := T.keep _ _ _ st2 fun b _ o z => by rw [h3] <;> exact Heap.get?_push_of_some _ z
  have I4 := block_start I3 ok hN f3
  have pg1 := hg1 s3 (upd H2 D emp) s3.heap.objs.size (cellsFrom (s3.heap.objs.size + 1) scope.names (cloFrom X.env.cells scope.names [])) fp
  have pk := hk s3 (upd H2 D emp) s3.heap.objs.size (cellsFrom (s3.heap.objs.size + 1) scope.names (cloFrom X.env.cells scope.names [])) fp
  have pv := hv s3 (upd H2 D emp) s3.heap.objs.size (cellsFrom (s3.heap.objs.size + 1) scope.names (cloFrom X.env.cells scope.names [])) fp
  show codeAny _ _ (.compStart (.DictComp kx vx [⟨t1, i1, [], 0⟩] scope pos) 0 (.ref it) (.ref D) (compEnvC scope (cellsFrom (s3.heap.objs.size + 1) scope.names (cloFrom X.env.cells scope.names [])) s3.heap.objs.size X.env)) (compPost (model X.prog X.w) X.A X.xe none (EP X pins σ Q) (.ref D) s3.heap.objs.size)
    { s3 with heap := pushCells (s3.heap.push { cls := .type "dict", data := .dict #[] }) scope.names }
  have nfp : ∀ b ∈ fp, (upd H2 D emp) b = none := fun b hb => (f3 b hb).1.1
  generalize hce : compEnvC scope (cellsFrom (s3.heap.objs.size + 1) scope.names (cloFrom X.env.cells scope.names [])) s3.heap.objs.size X.env = ce at I4 pg1 pk pv ⊢
  have cL : ce.locals = s3.heap.objs.size := by subst hce <;> rfl
  generalize hH3 : upd H2 D emp = H3 at I3 I4 pg1 pk pv p0 nfp f3
  generalize hs4 : ({ s3 with heap := pushCells (s3.heap.push { cls := .type "dict", data := .dict #[] }) scope.names } : Shared) = s4 at I4 ⊢
  have st4 : tn 0 s4.heap := T.keep _ _ _ st3 fun b _ o z => by rw [← hs4] <;> exact pushCells_keeps _ _ _ _ (Heap.get?_push_of_some _ z)
  have stat : ∀ {σ' : L2.St} {H' : Hp} {s' : Shared}, Inv (X.blk s3 H3 scope ce fp) [] σ' H' s' → (∀ b ∈ fp, H' b = none) → ∀ b ∈ fp, FpOk (X.blk s3 H3 scope ce fp) [] H' b := fun {σ' H' s'} I' hn b hb =>
    ⟨hn b hb, (I'.ok.exf b hb).1, I'.ok.exfs b hb, .inl hb, fun x c e => (I'.ok.exf b hb).2 x c e, fun r hr => absurd (show r ∈ ([] : List (Addr × Obj)) ++ [] from hr) (by simp)⟩
  have loop : codeAny (model X.prog X.w) X.A (.compLoop (.DictComp kx vx [⟨t1, i1, [], 0⟩] scope pos) 0 (.ref it) (.ref D) ce) (compPost (model X.prog X.w) X.A X.xe none (EP X pins σ Q) (.ref D) s3.heap.objs.size) s4 := by
    refine compLoop_anyD (fun n s' => ∃ i H', n = n1 - i ∧ i ≤ n1 ∧ Inv (X.blk s3 H3 scope ce fp) [] (wipe σ (own.map (·.2))) H' s' ∧ tn i s'.heap ∧ (∀ b ∈ fp, H' b = none) ∧ P i H') ?_ n1 ⟨0, H3, rfl, Nat.zero_le _, I4, st4, nfp, p0⟩
    rintro n s5 ⟨i, H5, en, hin, I5, st5, n5, p5⟩
    by_cases hlt : i < n1
    · refine thnF (T.item (X.blk s3 H3 scope ce fp) rfl rfl rfl hc i [] s5 _ H5 (fun _ _ => False) I5 (stat I5 n5) st5 (wk.goes i H5 hlt (pG i H5 hin p5))) fun r s6 ⟨u, hr, h6⟩ => ?_
      subst hr
      refine thnF h6 fun _ s7 ⟨x, H7, I7, r7, y7, st7, n7⟩ => ?_
      have I7p := I7.pinned (stat I7 n7) (T.obj _ _ st7)
      refine thnF (pg1.run _ s7 _ H7 x u _ I7p r7 (pS i x H5 H7 hlt p5 (wk.yields i H5 x H7 hlt (pG i H5 hin p5) y7))) fun _ s8 ⟨σ8, H8, I8, hw8, q8⟩ => wpAny_tests_nil ?_
      simp only [if_true]
      refine thnF (pk.run _ s8 σ8 H8 _ I8 q8) fun kv s9 ⟨yk, H9, I9, r9, q9⟩ => ?_
      refine thnF (pv.run _ s9 σ8 H9 _ I9 q9) fun vv s10 ⟨yv, H10, I10, r10, o, po, p10⟩ => ?_
      refine hpt (X.blk s3 H3 scope ce fp) _ _ _ _ _ _ _ _ _ _ _ _ hu I10 po r9 r10 fun s11 I11 => ?_
      have pin' : ∀ b ∈ fp, ∀ ob, s7.heap.get? b = some ob → s11.heap.get? b = some ob ∧ (upd H10 D o) b = none := fun b hb ob z =>
        let y := I11.pin (b, ob) (List.mem_append_right _ (List.mem_append_right _ (mem_pinsAt hb z)))
        ⟨y.1, y.2.1⟩
      have hl : (wipe σ (own.map (·.2))).length = σ8.length := by rw [← hw8, wipe_length]
      refine ⟨n1 - (i + 1), by omega, i + 1, _, rfl, hlt, (I11.unpinned (pins := [])).weak hl (fun k v z => (wipe_some (hw8 ▸ z)).1), T.keep _ _ _ st7 fun b hb ob z => (pin' b hb ob z).1, fun b hb => ?_, p10⟩
      obtain ⟨ob, z, _⟩ := T.obj _ _ st7 b hb
      exact (pin' b hb ob z).2
    · have ei : i = n1 := by omega
      subst ei
      refine thnF (T.done (X.blk s3 H3 scope ce fp) rfl rfl rfl hc i [] s5 _ H5 (fun _ _ => False) I5 (stat I5 n5) st5 (wk.stops H5 (pG i H5 (Nat.le_refl _) p5))) fun r s6 ⟨hr, I6⟩ => ?_
      subst hr
      have I7 : Inv X pins σ H5 s6 := I3.call' (ch := fp) I6.os I6.base I6.hok I6.bare fun b hb => ⟨(f3 b hb).1.2.2.2.1, (f3 b hb).1.2.1, (f3 b hb).1.2.2.2.2.1, (f3 b hb).1.2.2.2.2.2⟩
      have nC : H5 s3.heap.objs.size = none := cL ▸ I6.free
      obtain ⟨m, hn, _⟩ := I6.loc
      have hn : s6.heap.Ns s3.heap.objs.size m := cL ▸ hn
      obtain ⟨f0, f1, f2', f3', f4, f5⟩ := I3.fpOk (Nat.le_refl _) nC
      exact ⟨m, hn, fun h'' sb => ⟨.ref D, H5, I7.turned (t' := s6.toks) (fun b o hb z => (sb.2 b hb).trans z) f0 f1 f3' f4 f5, rfl, pQ H5 p5⟩⟩
  exact codeAny_compStart_dict loop (T.self X.A 0 _ _ _ st4 loop)
end
end Ax
end
section
set_option maxHeartbeats 4000000
/-! sorted(d), d a dict whose keys are tuples of texts, all of one length -/
namespace Ax
open PySem PySem.Spec PyProof.Rows L2
open PySem.W (EachIs SortsAt dataKind AllAlike Sortable dataLe sortVals alike alikeAll alike_all_cons sortingHeap sortingHeap_old dataKind_inv dataKind_some)
def rowD (r : List Str) : PyData := .tuple (r.map .str)
theorem alike_strs : ∀ xs ys : List Str, alikeAll (xs.map .str) (ys.map .str) = true
  | [], [] => rfl
  | [], _ :: _ => rfl
  | _ :: _, [] => rfl
  | x :: xs, y :: ys => by
    have h := alike_strs xs ys
    show (alike (.str x) (.str y) && alikeAll (xs.map .str) (ys.map .str)) = true
    rw [h] <;> rfl
theorem depth_strs : ∀ xs : List Str, PyData.depthAll (xs.map .str) = 0
  | [] => rfl
  | x :: xs => by
    show max (PyData.depth (.str x)) (PyData.depthAll (xs.map .str)) = 0
    rw [depth_strs xs] <;> rfl
theorem alike_rows (rows : List (List Str)) : AllAlike (rows.map rowD) := AllAlike.of fun a b => by
  show alikeAll (a.map .str) (b.map .str) = true
  exact alike_strs a b
theorem depth_row (r : List Str) : (rowD r).depth ≤ 1 := by
  show PyData.depthAll (r.map .str) + 1 ≤ 1
  rw [depth_strs]
  exact Nat.le_refl _
theorem sortsAt_rows {prog : Program} {w : World} {A : Around} {s : Shared} {vs : List Value} {rows : List (List Str)} {n : Nat} (e : EachIs (fun v r => ∃ as, Reads s.heap v (rowD r) as) vs rows) (hn : ∀ r ∈ rows, r.length = n) (h1 : n = 0 → rows.length ≤ 1) (hu : A.units + 2 < cLine) :
    SortsAt prog w A s (dataKind s.heap (rows.map rowD)) vs := by
  have e' := PySem.W.each_map (R := fun v d => ∃ as, Reads s.heap v d as) rowD e
  have room : ∀ d, d ∈ rows.map rowD → A.units + d.depth < cLine := fun d hd => by
    obtain ⟨r, _, rfl⟩ := List.mem_map.mp hd
    have := depth_row r
    omega
  by_cases h0 : n = 0
  · have hl := h1 h0
    have all0 : ∀ d, d ∈ rows.map rowD → d = .tuple [] := fun d hd => by
      obtain ⟨r, hr, rfl⟩ := List.mem_map.mp hd
      have z := hn r hr
      rw [h0] at z
      rw [List.eq_nil_of_length_eq_zero z] <;> rfl
    refine ⟨fun v hv => ?_, tuples' true, fun E x y a b Q ha hb hq => ?_, fun h2 => ?_⟩
    · obtain ⟨d, hd, as, r⟩ := e'.left v hv
      exact ⟨_, dataKind_some (alike_rows rows) hd r⟩
    · obtain ⟨d, as, hd, ra, rfl⟩ := dataKind_inv ha
      obtain ⟨d', as', hd', rb, rfl⟩ := dataKind_inv hb
      obtain rfl := all0 d hd
      obtain rfl := all0 d' hd'
      cases ra with
      | @tuple l o xs m _ _ g1 g2 g3 g4 =>
        cases rb with
        | @tuple l' o' xs' m' _ _ k1 k2 k3 k4 =>
          have n1 : xs.size = 0 := by simpa using SeqAt.ReadsAll.length _ _ _ g4
          have n2 : xs'.size = 0 := by simpa using SeqAt.ReadsAll.length _ _ _ k4
          exact PySem.W.kat_lt g1 g3 k1 k3 (PySem.W.katLex_alike [] [] 0 _ _ _ _ g4 k4 rfl (by show A.units + min 0 0 < cLine; omega) (fun _ _ x r t z => nomatch z) (by rw [n1, n2] <;> rfl) hq)
    · have := e.length
      omega
  · refine PySem.W.SortsAt.data e' (alike_rows rows) (.inl fun d hd => ?_) room
    obtain ⟨r, hr, rfl⟩ := List.mem_map.mp hd
    cases r with
    | nil => exact absurd (hn [] hr).symm h0
    | cons x r => exact ⟨.str x, r.map .str, rfl⟩
/-- v is the tracked tuple of the texts r -/
def RowV (H : Hp) (v : Value) (r : List Str) : Prop := ∃ b, v = .ref b ∧ H b = some (.tup (r.map V.str))
theorem rows_out {H : Hp} : ∀ {vs : List Value} {rows : List (List Str)}, EachIs (RowV H) vs rows → ∃ bs, vs = bs.map Value.ref ∧ All2 (fun b r => H b = some (.tup (r.map V.str))) bs rows
  | _, _, .nil => ⟨[], rfl, .nil⟩
  | _, _, .cons ⟨b, e, h⟩ t => by
    obtain ⟨bs, e2, t2⟩ := rows_out t
    exact ⟨b :: bs, by rw [e, e2] <;> rfl, .cons h t2⟩
theorem paired_rows {H : Hp} : ∀ {kvs : List (List Key × V)} {ks : List (List Key × Addr × Value)} {rows : List (List Str)}, Paired (fun (p : List Key × V) (q : List Key × Addr × Value) => p.1 = q.1 ∧ H q.2.1 = some (.tup (p.1.map kV)) ∧ RelV p.2 q.2.2) kvs ks →
    kvs.map (·.1) = rows.map (fun r => r.map Sum.inr) → EachIs (RowV H) (ks.map fun x => Value.ref x.2.1) rows
  | _, _, [], .nil, _ => .nil
  | _, _, _ :: _, .nil, e => by cases e
  | _, _, [], .cons _ _, e => by cases e
  | _, _, r :: rows, .cons ⟨_, h2, _⟩ t, e => by
    obtain ⟨e1, e2⟩ := List.cons.inj e
    refine .cons ⟨_, rfl, ?_⟩ (paired_rows t e2)
    refine h2.trans ?_
    refine (congrArg (fun z => some (HO.tup (List.map kV z))) e1).trans ?_
    show some (HO.tup (List.map kV (r.map Sum.inr))) = _
    rw [List.map_map] <;> rfl
section
variable {X : Cx}
theorem call_sortedT (hcalm : X.calm = true) (hu : X.A.units + 64 < cLine) : CallR X (.builtin "sorted") (fun xs H Q => ∃ (a : Addr) (kvs : List (List Key × V)) (rows : List (List Str)) (n : Nat), xs = [.ref a] ∧ H a = some (.dT kvs) ∧ kvs.map (·.1) = rows.map (fun r => r.map Sum.inr) ∧
    (∀ r ∈ rows, r.length = n) ∧ ∀ bs p, H p = none → All2 (fun b r => H b = some (.tup (r.map V.str))) bs (rows.mergeSort (dataLe false rowD)) → Q (.ref p) (upd H p (.lst (bs.map V.ref)))) := by
  intro pins s σ H xs us Q I r q
  obtain ⟨a, kvs, rows, n, rfl, hd, hkeys, hn, q⟩ := q
  obtain ⟨u, rfl, rx⟩ := r.one
  cases rx
  obtain ⟨z, hs, ks, pr, o, es, ep, ho, hx, hdt, he, hnd⟩ := (show ObjOk X.prog X.w H s.heap a (.dT kvs) from I.hok a _ hd)
  have l1 : es.size = ks.length := size_of_entries he
  have l2 : kvs.length = ks.length := Paired.length pr
  have l3 : kvs.length = rows.length := by
    have := congrArg List.length hkeys
    simpa using this
  have nd : rows.Nodup := by
    have e1 : kvs.map (·.1) = ks.map (·.1) := by
      clear hd hkeys q he hnd z l1 l2 l3
      induction pr with
      | nil => rfl
      | cons h t ih => rw [List.map_cons, List.map_cons, ih, h.1]
    rw [← e1, hkeys] at hnd
    exact (List.pairwise_map.mp hnd).imp fun {a b} h e => h (by rw [e])
  have h1 : n = 0 → rows.length ≤ 1 := fun h0 => by
    match rows, nd, hn with
    | [], _, _ => exact Nat.zero_le _
    | [_], _, _ => exact Nat.le_refl _
    | x :: y :: r, nd, hn =>
      have ex := List.eq_nil_of_length_eq_zero ((hn x (List.mem_cons_self ..)).trans h0)
      have ey := List.eq_nil_of_length_eq_zero ((hn y (List.mem_cons_of_mem _ (List.mem_cons_self ..))).trans h0)
      rw [ex, ey] at nd
      exact absurd (List.mem_cons_self ..) (List.nodup_cons.mp nd).1
  refine Calls.call_function_entry PyProof.Rows.kind_sorted PyProof.Rows.plain_sorted PyProof.Rows.entry_sorted (PyProof.Rows.args_sorted1 _) ?_
  unfold Builtin.«sorted»
  refine wpAny_bind (m := checkCount "sorted" 1 1 _) (wpAny_pure ?_)
  refine wpAny_bind (PySem.W.kdu_collect (A := X.A.in1) (kdl_raw hs hx hdt) (I.ok.hd hcalm) ho (by omega) fun h' tk acc hk hacc => ?_)
  have ea : acc.toList = ks.map fun x => Value.ref x.2.1 := by
    have hl : acc.toList.length = ks.length := by rw [Array.length_toList, hacc.1] <;> exact l1
    refine List.ext_getElem? fun j => ?_
    rw [List.getElem?_map]
    cases hj : acc.toList[j]? with
    | none => rw [List.getElem?_eq_none (by have := List.getElem?_eq_none_iff.mp hj; omega)] <;> rfl
    | some v =>
      obtain ⟨en, hen, hv⟩ := hacc.2 j v (by rw [← Array.getElem?_toList] <;> exact hj)
      have qe := entry_at he j
      rw [hen] at qe
      cases hb : ks[j]? with
      | none =>
        rw [hb] at qe
        exact nomatch (show some en = none from qe)
      | some b =>
        rw [hb] at qe
        rw [hv, Option.some.inj qe] <;> rfl
  have eR : EachIs (RowV H) acc.toList rows := by rw [ea] <;> exact paired_rows pr hkeys
  have hal : acc.toList.length = rows.length := eR.length
  have I1 : Inv X pins σ H { s with heap := h', toks := tk } := I.kept hk
  refine wpAny_bind (wpAny_newList ?_ (by rw [hal] <;> omega))
  have hoL : (h'.push (seqObj "list" acc.toList.toArray 0)).get? h'.objs.size = some (seqObj "list" acc.toList.toArray 0) := Heap.get?_push_size _ rfl
  show wpAny _ _ _ _ _ { s with heap := h'.push (seqObj "list" acc.toList.toArray 0), toks := tk }
  have keep : ∀ b ob, s.heap.get? b = some ob → (sortingHeap (h'.push (seqObj "list" acc.toList.toArray 0)) h'.objs.size acc.toList).get? b = some ob := fun b ob z =>
    sortingHeap_old (Nat.ne_of_lt (Heap.lt_size (hk _ _ z))) (Heap.get?_push_of_some _ (hk _ _ z))
  have eS : EachIs (fun v r => ∃ as, Reads (sortingHeap (h'.push (seqObj "list" acc.toList.toArray 0)) h'.objs.size acc.toList) v (rowD r) as) acc.toList rows := eR.mono fun v r ⟨b, ev, hb⟩ => by
    subst ev
    obtain ⟨as, rd⟩ := Dp.reads I (rowD r) (.ref b) (.ref b) (.tup (SqT.of hb) (dpa_strs r)) rfl
    exact ⟨as, PyProof.Rows.Reads.keeps keep rd⟩
  refine wpAny_bind (wpAny_holding (wpAny_call_entry PyProof.Rows.slot_list_sort ⟨_, hoL, rfl⟩ PyProof.Rows.entry_list_sort
    (PySem.W.list_sort_vals (s := { s with heap := h'.push (seqObj "list" acc.toList.toArray 0), toks := tk }) hoL (sortsAt_rows (s := { s with heap := sortingHeap (h'.push (seqObj "list" acc.toList.toArray 0)) h'.objs.size acc.toList, toks := tk }) eS hn h1 (by show X.A.units + 1 + 1 + 2 < cLine; omega)) (by omega) ⟨_, rfl, ?_⟩) (PyProof.Rows.args_list_sort _)))
  have eO := PySem.W.sortVals_data (h' := sortingHeap (h'.push (seqObj "list" acc.toList.toArray 0)) h'.objs.size acc.toList) (enc := rowD) false eR eS (alike_rows rows)
  generalize sortVals (dataKind (sortingHeap (h'.push (seqObj "list" acc.toList.toArray 0)) h'.objs.size acc.toList) (rows.map rowD)) false acc.toList acc.toList = out at eO ⊢
  obtain ⟨bs, eb, hbs⟩ := rows_out eO
  obtain ⟨e', he'⟩ := PyProof.Rows.sortedHeap_at (vs := acc.toList) (out := out.toArray) hoL
  have hlen : (bs.map V.ref).length ≤ sizeLine := by
    have h2 := hbs.len
    rw [List.length_mergeSort] at h2
    rw [List.length_map]
    omega
  refine wpAny_pure ⟨_, rfl, .ref h'.objs.size, upd H h'.objs.size (.lst (bs.map V.ref)), I1.laid (t' := tk) (fun b u ez => ?_) (Nat.le_refl _) (show ObjOk X.prog X.w _ _ _ (.lst (bs.map V.ref)) from ⟨hlen, out, e', by rw [eb] <;> exact vals_refs bs, he'⟩), rfl, q bs _ (I1.hok.fresh (Nat.le_refl _)) hbs⟩
  have hb : b < h'.objs.size := Heap.lt_size ez
  rw [PyProof.Rows.sortedHeap_old (Nat.ne_of_lt hb) (by rw [size_push'] <;> exact Nat.lt_succ_of_lt hb)]
  exact Heap.get?_push_of_some _ ez
end
end Ax
end
section
set_option maxHeartbeats 4000000
/-! enumerate of a tuple -/
namespace AxEn
open PySem
open PySem.Sem (wp)
open AutoSeq1 (wpAny_loadPart')
theorem draws_tuple {prog : Program} {w : World} {A : Around} (hh : A.handled = none) (it l : Addr) (hne : l ≠ it) (items : Array Value) :
    Draws prog w A it [it, l] items.size (fun i v => items[i]? = some v) (fun i h => h.IsTupleIter it l i ∧ h.IsTuple l items) where
  live := fun _ _ st => let ⟨o, ho, _⟩ := st.1; ⟨o, ho⟩
  frame := fun _ _ _ st hk => ⟨st.1.at fun o e => hk it (by simp) o e, let ⟨o, ho, r⟩ := st.2; ⟨o, hk l (by simp) o ho, r⟩⟩
  item := fun i s Q E hi st hQ => by
    refine RZ.nextOf_tuple_item st.1 st.2 (x := items[i]) (by simp [hi]) fun h' hit' hs' => ?_
    exact hQ _ h' s.toks (by simp [hi]) ⟨hit', let ⟨o, ho, r⟩ := st.2; ⟨o, hs'.extBut l o hne ho, r⟩⟩ hs'
  done := fun s Q E st hE => RZ.nextOf_tuple_end hh st.1 st.2 (by simp) hE
theorem meets_new (l : Addr) (items : Array Value) :
    Meets (Builtin.«enumerate.__new__» ⟨[.type "enumerate", .ref l], []⟩) (fun _ R s => s.heap.IsTuple l items ∧
      R (.ok (.ret (.ref (s.heap.push { cls := .type "tuple_iterator", data := .fields #[.ref l, .int 0 0] }).objs.size)))
        { s with heap := (s.heap.push { cls := .type "tuple_iterator", data := .fields #[.ref l, .int 0 0] }).push { cls := .type "enumerate", data := .fields #[.none, .bool false, .ref s.heap.objs.size, rawInt 0, .none, .none] } }) :=
  .of_wp fun prog w A R s h => by
    obtain ⟨hp, g, d, tk, os⟩ := s; obtain ⟨hl, h⟩ := h
    have hsub := sub_enumerate
    have hL : Heap.IsTuple (Shared.heap ⟨hp, g, d, tk, os⟩) l items := hl
    obtain ⟨⟨oc, od, dt, sl⟩, ho, hc, n, hd⟩ := id hl
    replace hc : oc = .type "tuple" := hc
    replace hd : dt = .seq items n := hd
    subst hc hd
    wp_walk using wpAny_loadPart' ho
    refine wpAny_stack_any fun st => wpAny_pure ?_
    split
    · rename_i c _ _ _ _ _
      cases (c == Value.type "enumerate")
      · wp_walk using wpAny_loadPart' ho, wpAny_pyIter_tuple hL
        exact ⟨_, rfl, h⟩
      · wp_walk using wpAny_loadPart' ho, wpAny_pyIter_tuple hL
        exact ⟨_, rfl, h⟩
    · wp_walk using wpAny_loadPart' ho, wpAny_pyIter_tuple hL
      exact ⟨_, rfl, h⟩
section
variable {prog : Program} {w : World} {A : Around} {E : Value → Shared → Prop} {s : Shared}
theorem call_enumT {l : Addr} {items : Array Value} {Q : Value → Shared → Prop} (hL : s.heap.IsTuple l items)
    (h : ∀ h', IsEnum h' (s.heap.objs.size + 1) s.heap.objs.size 0 .none → h'.IsTupleIter s.heap.objs.size l 0 → h'.objs.size = s.heap.objs.size + 2 →
      (∀ b o, s.heap.get? b = some o → h'.get? b = some o) → Q (.ref (s.heap.objs.size + 1)) { s with heap := h' }) :
    wpAny (model prog w) A (call (.type "enumerate") [.ref l]) Q E s := by
  refine callType_new F.called_enumerate (by decide) (F.typeCall_enumerate_1 _) (F.newCall_enumerate_1 _) (fun obj => F.args_object_init_2 obj _) F.entry_enumerate_new
    (meets_new l items) ⟨hL, ?_⟩
  have hz : (s.heap.push { cls := .type "tuple_iterator", data := .fields #[.ref l, .int 0 0] }).objs.size = s.heap.objs.size + 1 := Heap.size_push ..
  show _ ∧ _
  rw [hz]
  have he : IsEnum ((s.heap.push { cls := .type "tuple_iterator", data := .fields #[.ref l, .int 0 0] }).push
      { cls := .type "enumerate", data := .fields #[.none, .bool false, .ref s.heap.objs.size, rawInt 0, .none, .none] }) (s.heap.objs.size + 1) s.heap.objs.size 0 .none := by
    have := Heap.get?_push_size (s.heap.push { cls := .type "tuple_iterator", data := .fields #[.ref l, .int 0 0] })
      (o := { cls := .type "enumerate", data := .fields #[.none, .bool false, .ref s.heap.objs.size, rawInt 0, .none, .none] }) rfl
    rw [hz] at this; exact this
  refine ⟨⟨_, he, rfl⟩, h _ he ⟨_, Heap.get?_push_of_some _ (Heap.get?_push_size _ rfl), rfl, rfl⟩ (by rw [Heap.size_push, hz]) fun b o x => Heap.get?_push_of_some _ (Heap.get?_push_of_some _ x)⟩
end
end AxEn
namespace Ax
open PySem PySem.Spec PyProof.Rows L2
/-- the tuple at a, each item in a new pair -/
def IteT (K : PySem.W.Frag) (a : Addr) : It :=
  ⟨fun i H => ∃ (xs : List V) (x : V), SqT K H a xs ∧ xs[i]? = some x, fun i H v H' => ∃ T x, v = .ref T ∧ H T = none ∧ H' = upd H T (.tup [.int (i : Nat), x]) ∧ ∀ xs, SqT K H a xs → xs[i]? = some x, fun i H => ∃ xs : List V, SqT K H a xs ∧ xs.length ≤ i⟩
theorem turn_enumT {P : Program} {w : World} {K : PySem.W.Frag} {elts : List Expr} {kk : Nat} {tpos : Pos} (a e it : Addr) (hne : e ≠ it) (hea : e ≠ a) (hai : a ≠ it) :
    Turn P w K (.Tuple elts kk tpos) (IteT K a) [e, it] e (fun i h => (∃ old, IsEnum h e it ((i : Nat) : Int) old) ∧ h.IsTupleIter it a i) where
  mem := by simp
  obj := fun i h st b hb => by
    obtain ⟨⟨old, he⟩, ⟨o, ho, hc, hd⟩⟩ := st
    have e' : b = e ∨ b = it := by simpa using hb
    rcases e' with z | z
    · rw [z]; exact ⟨_, he, fun v q => nomatch q⟩
    · rw [z]; exact ⟨o, ho, fun v q => by rw [hd] at q; cases q⟩
  keep := fun i h h' st k => let ⟨⟨old, he⟩, hi⟩ := st; ⟨⟨old, k e (by simp) _ he⟩, hi.at fun o q => k it (by simp) o q⟩
  item := by
    intro X hP hw hK hc i pins s σ H E I hf st hg
    subst hP hw hK
    obtain ⟨⟨old, he⟩, hit⟩ := st
    obtain ⟨xs, x, hq, hx⟩ := hg
    obtain ⟨its, rv, p, hz⟩ := I.tuple hq
    obtain ⟨u, hu, ru⟩ := rv.get hx
    have hel : e < s.heap.objs.size := Heap.lt_size he
    have hil : it < s.heap.objs.size := by obtain ⟨_, q, _⟩ := hit; exact Heap.lt_size q
    have D := AxEn.draws_tuple (prog := X.prog) (w := X.w) (A := X.A.in1) (I.ok.hd hc) it a hai its.toArray
    have hlt : i < its.toArray.size := by
      have := (List.getElem?_eq_some_iff.mp hu).1
      simpa using this
    refine wpAny_pyNext_enum_itemD D he ⟨hit, p⟩ hlt hne (by simp [hne, hea]) fun y h' tk hy ho st' hT hsz hk => ?_
    have hy : y = u := by
      have e1 : its.toArray[i]? = some u := by simpa using hu
      rw [e1] at hy
      exact (Option.some.inj hy).symm
    subst hy
    refine ⟨_, rfl, wpAny_letOwnedTupleGo_enum (s := { s with heap := h', toks := tk + 1 }) ho fun h'' he' sb => ?_⟩
    have hT2 : h''.get? s.heap.objs.size = some { cls := .type "tuple", data := .seq #[.int i tk, y] } := (sb.2 _ (Nat.ne_of_gt hel)).trans hT
    have new : ObjOk X.prog X.w (upd H s.heap.objs.size (.tup [.int (i : Nat), x])) h'' s.heap.objs.size (.tup [.int (i : Nat), x]) :=
      ⟨by show 2 ≤ sizeLine; decide, [.int i tk, y], .cons ⟨_, rfl⟩ (.cons ru .nil), ⟨_, hT2, rfl, _, rfl⟩⟩
    have I1 : Inv X pins σ (upd H s.heap.objs.size (.tup [.int (i : Nat), x])) { s with heap := h'', toks := tk + 1 } :=
      I.turnedNew (ch := [e, it]) (fun b ob hb q => (sb.2 b (fun z => hb (by simp [z]))).trans (hk b ob (fun z => hb (by simp [z])) (fun z => hb (by simp [z])) q)) hf (Nat.le_refl _) new
    refine ⟨.ref s.heap.objs.size, _, I1, rfl, ⟨_, x, rfl, I.hok.fresh (Nat.le_refl _), rfl, fun ys hy => by rw [I.tuple_inj hy hq]; exact hx⟩, ⟨⟨y, ?_⟩, st'.1.at fun o q => (sb.2 it (Ne.symm hne)).trans q⟩, fun b hb => ?_⟩
    · have e1 : ((i + 1 : Nat) : Int) = (i : Int) + 1 := by omega
      rw [e1]; exact he'
    · have hb' : b < s.heap.objs.size := by
        have e' : b = e ∨ b = it := by simpa using hb
        rcases e' with z | z
        · rw [z]; exact hel
        · rw [z]; exact hil
      rw [upd_ne (Nat.ne_of_lt hb')]
      exact (hf b hb).1
  done := by
    intro X hP hw hK hc i pins s σ H E I hf st hg
    subst hP hw hK
    obtain ⟨⟨old, he⟩, hit⟩ := st
    obtain ⟨xs, hq, hx⟩ := hg
    obtain ⟨its, rv, p, hz⟩ := I.tuple hq
    obtain ⟨f0, f1, f2, f3, f4, f5⟩ := hf it (by simp)
    have hl := rv.length
    have hT : s.TypeIs (.ref e) "enumerate" := ⟨_, he, rfl⟩
    unfold pyNext
    refine wpAny_bind (wpAny_attempt (wpAny_callSpecial?_slot (name := Str.ofString "__next__") hT F.slot_enumerate_next
      (wpAny_call_entry F.slot_enumerate_next hT F.entry_enumerate_next ?_ (F.args_enumerate_next_1 _))))
    show wpAny _ _ (field (.ref e) 2 >>= _) _ _ _
    refine wpAny_bind (wpAny_field he rfl (x := .ref it) rfl ?_)
    refine wpAny_bind (RZ.nextOf_tuple_end (I.ok.hd hc) hit p (by simp; omega) fun h' x he' hx' => ?_)
    obtain ⟨o, ho, hcc⟩ := hx'
    refine wpAny_bind (wpAny_isInstance (T := "StopIteration") (b := true) ⟨o, ho, hcc⟩ isSubtype_stop ?_)
    exact wpAny_pure ⟨rfl, I.turned (t' := s.toks) (fun b o hb q => he' b o hb q) f0 f1 f3 f4 f5⟩
  self := fun A i s Q E st h => let ⟨⟨_, he⟩, _⟩ := st; wpAny_pyIter_enum he h
def iEnumT (K : PySem.W.Frag) (ta : TA) : TI := fun σ H R => ta σ H fun vs H1 => ∃ a xs, vs = [.ref a] ∧ SqT K H1 a xs ∧ R (IteT K a) H1
theorem pi_enumT {X : Cx} {e : Expr} {ta : TA} {p pos tpos : Pos} {elts : List Expr} {kk : Nat} (hg : Gl X "enumerate") (hm : X.mg "enumerate" = none) (ha : PA X [e] ta) (hs : starEach [e] X.env = [(false, eval e X.env)] := by rfl) :
    PI X (.Tuple elts kk tpos) (.Call (.Name "enumerate" p) [e] [] pos) (iEnumT X.K ta) := by
  refine ⟨fun pins s σ H R I h => ?_⟩
  refine Call_ (ld_blt I hg hm PyProof.Rows.boot_enumerate (PyProof.Rows.callWith_type1 (thn (ha.run pos pins s σ H _ I h) fun us s1 ⟨vs, H1, I1, r1, q1⟩ => ?_) hs rfl))
  obtain ⟨a, xs, ex, hq, q⟩ := q1
  subst ex
  cases r1 with
  | cons r rr =>
    cases rr
    cases r
    obtain ⟨its, rv, p', hz⟩ := I1.tuple hq
    have hal : a < s1.heap.objs.size := by obtain ⟨_, q, _⟩ := id p'; exact Heap.lt_size q
    refine AxEn.call_enumT (show s1.heap.IsTuple a its.toArray from p') fun h' he hit hsz hk => wpAny_pyIter_enum he ?_
    have I2 : Inv X pins σ H1 { s1 with heap := h' } := I1.kept (t' := s1.toks) hk
    refine ⟨s1.heap.objs.size + 1, [s1.heap.objs.size + 1, s1.heap.objs.size], _, _, H1, rfl, I2, turn_enumT a (s1.heap.objs.size + 1) s1.heap.objs.size (Nat.succ_ne_self _) (Nat.ne_of_gt (Nat.lt_succ_of_lt hal)) (Nat.ne_of_lt hal), ⟨⟨.none, he⟩, hit⟩, fun b hb => ?_, q⟩
    have e' : b = s1.heap.objs.size + 1 ∨ b = s1.heap.objs.size := by simpa using hb
    have hle : s1.heap.objs.size ≤ b := by
      rcases e' with z | z
      · rw [z]; exact Nat.le_add_right _ _
      · rw [z]; exact Nat.le_refl _
    exact I1.fpOk hle (I1.hok.fresh hle)
theorem walk_enumT {K : PySem.W.Frag} {a : Addr} {xs : List V} : Walk (IteT K a) xs.length (fun H => SqT K H a xs) (fun i H v H' => ∃ T x, v = .ref T ∧ H T = none ∧ H' = upd H T (.tup [.int (i : Nat), x]) ∧ xs[i]? = some x) where
  goes := fun i H hi h => ⟨xs, xs[i], h, List.getElem?_eq_getElem hi⟩
  stops := fun H h => ⟨xs, h, Nat.le_refl _⟩
  yields := fun i H v H' _ h ⟨T, x, e1, e2, e3, e4⟩ => ⟨T, x, e1, e2, e3, e4 xs h⟩
end Ax
end
section
set_option maxHeartbeats 4000000
/-! comprehensions over walks whose items may be new tuples -/
namespace Ax
open PySem PySem.Spec PyProof.Rows L2
/-- a target of two names -/
abbrev gPair (K : PySem.W.Frag) (i j : Nat) : TG := gTup K 2 (gCons (gName i) (gCons (gName j) gNil))
theorem gPair_of {K : PySem.W.Frag} {i j : Nat} {a : Addr} {v1 v2 : V} {σ : L2.St} {H : Hp} {Q : L2.St → Hp → Prop} (h : SqT K H a [v1, v2]) (q : Q ((σ.set i (some v1)).set j (some v2)) H) : gPair K i j (.ref a) σ H Q :=
  ⟨a, [v1, v2], rfl, h, rfl, v1, [v2], rfl, v2, [], rfl, rfl, q⟩
/-- a walk of n items; nothing but a change of its source disturbs it; items may be new things -/
structure ItN (J : It) (H : Hp) (n : Nat) (Y : Nat → V → Hp → Prop) : Prop where
  ex : ∃ G : Hp → Prop, Walk J n G (fun i Ha v Hb => Same Ha Hb ∧ Y i v Hb) ∧ G H ∧ ∀ H', Same H H' → G H'
/-- the i-th of xs -/
def YNth (xs : List V) : Nat → V → Hp → Prop := fun i v _ => xs[i]? = some v
/-- a tuple of the i-th of f and the i-th of g -/
def YTwo (f g : Nat → Option V) : Nat → V → Hp → Prop := fun i v H => ∃ T x y, v = .ref T ∧ f i = some x ∧ g i = some y ∧ H T = some (.tup [x, y])
section
variable {K : PySem.W.Frag} {J : It} {H : Hp} {xs ys : List V} {a b : Addr}
theorem itN_seq (h : SeqIt J H xs) : ItN J H xs.length (YNth xs) := by
  obtain ⟨G, w, g, s⟩ := h
  exact ⟨G, w.mono (fun _ z => z) fun i Ha v Hb hi _ y => by
    obtain ⟨e, hv⟩ := y
    subst e
    exact ⟨Same.refl _, hv⟩, g, s⟩
theorem itN_enumT (h : SqT K H a xs) : ItN (IteT K a) H xs.length (YTwo (fun i => some (.int (i : Nat))) (fun i => xs[i]?)) :=
  ⟨_, walk_enumT.mono (fun _ z => z) fun i Ha v Hb hi _ ⟨T, x, e1, e2, e3, e4⟩ => by
    subst e3
    exact ⟨same_new e2, T, _, x, e1, rfl, e4, upd_same⟩, h, fun _ s => same_tup s h⟩
theorem itN_zip (h1 : SqL K H a xs) (h2 : SqL K H b ys) (hl : xs.length = ys.length) : ItN (Itz K a b) H xs.length (YTwo (fun i => xs[i]?) (fun i => ys[i]?)) :=
  ⟨_, (walk_zip (xs := xs) (ys := ys) (n := xs.length) (by rw [← hl] <;> simp)).mono (fun _ z => z) fun i Ha v Hb hi _ ⟨T, x, y, e1, e2, e3, e4, e5⟩ => by
    subst e3
    exact ⟨same_new e2, T, x, y, e1, e4, e5, upd_same⟩, ⟨h1, h2⟩, fun _ s => ⟨s.seq h1, s.seq h2⟩⟩
end
section
variable {X : Cx} {iter elt kx vx tg : Expr} {ifs : List Expr} {σ : L2.St} {H : Hp} {Q : VK} {pos : Pos} {scope : Scope}
/-- a list comprehension by an invariant of the list at D -/
abbrev LcI (X : Cx) (tg iter elt : Expr) (scope : Scope) (own : List (Str × Nat)) (g : TG) (tt : TT) (σ : L2.St) (H : Hp) (Q : VK) : Prop := WI X tg iter σ H fun J H1 => ∃ n G Y, Walk J n G Y ∧ n < sizeLine ∧ ∀ D, H1 D = none → ∃ P : Nat → List V → Hp → Prop,
    P 0 [] (upd H1 D (.lst [])) ∧ (∀ i ys H, i ≤ n → H D = some (.lst ys) → P i ys H → G H) ∧ (∀ ys H, H D = some (.lst ys) → P n ys H → Q (.ref D) H) ∧
    ∀ i ys x H H', i < n → H D = some (.lst ys) → P i ys H → Y i H x H' → ∀ (Kf : Hp → Prop) (Kt : VK), (∀ H3, H3 D = some (.lst ys) → P (i + 1) ys H3 → Kf H3) → (∀ y H3, H3 D = some (.lst ys) → P (i + 1) (ys ++ [y]) (upd H3 D (.lst (ys ++ [y]))) → Kt y H3) →
      g x (wipe σ (own.map (·.2))) H' fun σ2 H2 => wipe σ2 (own.map (·.2)) = wipe σ (own.map (·.2)) ∧ tt σ2 H2 fun b H4 => if b = true then (Blk X scope fun Y => W Y elt σ2 H4 Kt) else Kf H4
theorem lcI_t {own : List (Str × Nat)} {g : TG} {tt : TT} (h : LcI X tg iter elt scope own g tt σ H Q) : tLc (WI X tg iter) g tt (fun σ2 H2 K => Blk X scope fun Y => W Y elt σ2 H2 K) (own.map (·.2)) σ H Q := by
  refine ⟨fun pins s I => thn (h.run pins s I) fun v s1 z => thn z fun it s2 q => ?_⟩
  obtain ⟨it', fp, tn, J, H1, e, I2, T, t0, f0, n, G, Y, wk, hn, q⟩ := q
  refine ⟨it', fp, tn, J, H1, e, I2, T, t0, f0, fun D nD => ?_⟩
  obtain ⟨P, p0, pG, pQ, pS⟩ := q D nD
  refine lc_it (H1 := H1) (D := D) (g := g) (tt := tt) (te := fun σ2 H2 K => Blk X scope fun Y => W Y elt σ2 H2 K) (vs := own.map (·.2)) (σ := σ) (Qd := fun H2 => Q (.ref D) H2) wk
    (fun j H2 => ∃ ys : List V, ys.length ≤ j ∧ H2 D = some (.lst ys) ∧ P j ys H2) ⟨[], Nat.le_refl _, upd_same, p0⟩ (fun j H2 hj ⟨ys, _, hD, p⟩ => pG j ys H2 hj hD p) ?_ (fun H2 ⟨ys, _, hD, p⟩ => pQ ys H2 hD p)
  rintro j v H2 H2' hj ⟨ys, hl, hD, p⟩ y
  exact pS j ys v H2 H2' hj hD p y _ (fun y H4 => ∃ acc, H4 D = some (.lst acc) ∧ acc.length < sizeLine ∧ ∃ ys', ys'.length ≤ j + 1 ∧ (upd H4 D (.lst (acc ++ [y]))) D = some (.lst ys') ∧ P (j + 1) ys' (upd H4 D (.lst (acc ++ [y])))) (fun H3 hD3 p3 => ⟨ys, Nat.le_succ_of_le hl, hD3, p3⟩)
    fun y H3 hD3 p3 => ⟨ys, hD3, Nat.lt_of_le_of_lt hl (Nat.lt_trans hj hn), ys ++ [y], by simp; exact hl, upd_same, p3⟩
theorem w_lcI (own : List (Str × Nat)) (g : TG) (tt : TT) (hg : Blk X scope fun Y => PG Y tg g) (ht : Blk X scope fun Y => PTs Y ifs tt) (hc : X.calm = true) (hN : X.N.Nodup) (ok : BlkOk X.N X.env.scope scope own)
    (h : LcI X tg iter elt scope own g tt σ H Q) (hs : ∀ x, foldedSetIterable iter X.env x = pure x := by intro _; rfl) : W X (.ListComp elt [⟨tg, iter, ifs, 0⟩] scope pos) σ H Q :=
  W.of (pe_lc (own := own) (g := g) (tt := tt) (te := fun σ2 H2 K => Blk X scope fun Y => W Y elt σ2 H2 K) hc hN WI.pi ok hg ht
    (fun s H C cl fp => ⟨fun pins s' σ' H' Q' I' h' => (h' s H C cl fp).run pins s' I'⟩) hs) (lcI_t h)
theorem ws_setLcI {D : Ends} {y : Str} {py spos : Pos} (i : Nat) (own : List (Str × Nat)) (g : TG) (tt : TT) (hg : Blk X scope fun Y => PG Y tg g) (ht : Blk X scope fun Y => PTs Y ifs tt) (hc : X.calm = true) (hN : X.N.Nodup) (ok : BlkOk X.N X.env.scope scope own) (hy : X.N[i]? = some y)
    (h : LcI X tg iter elt scope own g tt σ H fun v H1 => D.nx (σ.set i (some v)) H1) (hyl : X.env.scope.names.lookup y = some .local := by rfl) (hsw : swapsWith (.ListComp elt [⟨tg, iter, ifs, 0⟩] scope pos) (some (.Name y py)) spos.line X.env = pure true := by exact sw_true rfl rfl rfl rfl)
    (hs : ∀ x, foldedSetIterable iter X.env x = pure x := by intro _; rfl) : WS X (.Assign [.Name y py] (.ListComp elt [⟨tg, iter, ifs, 0⟩] scope pos) spos) D σ H :=
  WS.of (ps_setLc (own := own) (g := g) (tt := tt) (te := fun σ2 H2 K => Blk X scope fun Y => W Y elt σ2 H2 K) hc hN hy hyl hsw WI.pi ok hg ht
    (fun s H C cl fp => ⟨fun pins s' σ' H' Q' I' h' => (h' s H C cl fp).run pins s' I'⟩) hs) (lcI_t h)
/-- .. each item gives the value c i, or none: by its place -/
abbrev LcC (X : Cx) (tg iter elt : Expr) (scope : Scope) (own : List (Str × Nat)) (g : TG) (tt : TT) (σ : L2.St) (H : Hp) (Q : VK) : Prop := WI X tg iter σ H fun J H1 => ∃ n Y, ItN J H1 n Y ∧ n < sizeLine ∧ ∃ c : Nat → Option V,
    (∀ i x H2, i < n → Same H1 H2 → Y i x H2 → g x (wipe σ (own.map (·.2))) H2 fun σ2 H3 => wipe σ2 (own.map (·.2)) = wipe σ (own.map (·.2)) ∧ tt σ2 H3 fun b H4 => Same H2 H4 ∧ if b = true then (Blk X scope fun Y => W Y elt σ2 H4 fun y H5 => Same H4 H5 ∧ c i = some y) else c i = none) ∧
    ∀ q H2, Same H1 H2 → H1 q = none → H2 q = some (.lst ((List.range n).filterMap c)) → Q (.ref q) H2
theorem lcC_I {own : List (Str × Nat)} {g : TG} {tt : TT} (mg : ∀ v σ H (Q Q' : L2.St → Hp → Prop), (∀ a b, Q a b → Q' a b) → g v σ H Q → g v σ H Q') (mt : ∀ σ H (Q Q' : Bool → Hp → Prop), (∀ a b, Q a b → Q' a b) → tt σ H Q → tt σ H Q') (h : LcC X tg iter elt scope own g tt σ H Q) : LcI X tg iter elt scope own g tt σ H Q := by
  refine ⟨fun pins s I => thn (h.run pins s I) fun v s1 z => thn z fun it s2 q => ?_⟩
  obtain ⟨it', fp, tn, J, H1, e, I2, T, t0, f0, n, Y, ⟨G, wk, g0, gs⟩, hn, c, hel, hend⟩ := q
  refine ⟨it', fp, tn, J, H1, e, I2, T, t0, f0, n, G, _, wk, hn, fun D nD => ⟨fun i ys H => Same H1 H ∧ ys = (List.range i).filterMap c, ⟨same_new nD, rfl⟩, fun i ys H _ _ p => gs _ p.1, fun ys H hD p => hend D H p.1 nD (by rw [hD, p.2]), ?_⟩⟩
  rintro i ys x Ha Hb hi hD ⟨sm, rfl⟩ ⟨sab, y⟩ Kf Kt kf kt
  refine mg _ _ _ _ _ (fun σ2 H3 ⟨z1, z2⟩ => ⟨z1, mt _ _ _ _ (fun b H4 ⟨s24, z⟩ => ?_) z2⟩) (hel i x Hb hi (sm.trans sab) y)
  have sD := sab.trans s24
  cases b with
  | true =>
    rw [if_pos rfl] at z ⊢
    intro s' H' C cl fp'
    refine W.mono (z s' H' C cl fp') fun y H5 ⟨s45, hc⟩ => kt y H5 ((sD.trans s45) _ _ hD) ⟨same_upd (sm.trans (sD.trans s45)) nD, ?_⟩
    rw [List.range_succ, List.filterMap_append]
    simp [hc]
  | false =>
    rw [if_neg Bool.false_ne_true] at z ⊢
    refine kf H4 (sD _ _ hD) ⟨sm.trans sD, ?_⟩
    rw [List.range_succ, List.filterMap_append]
    simp [z]
theorem mono_name {i : Nat} : ∀ v σ H (Q Q' : L2.St → Hp → Prop), (∀ a b, Q a b → Q' a b) → gName i v σ H Q → gName i v σ H Q' := fun _ _ _ _ _ k h => k _ _ h
theorem mono_pair {K : PySem.W.Frag} {i j : Nat} : ∀ v σ H (Q Q' : L2.St → Hp → Prop), (∀ a b, Q a b → Q' a b) → gPair K i j v σ H Q → gPair K i j v σ H Q' := by
  rintro v σ H Q Q' k ⟨a, xs, e, ha, hl, v1, r1, e1, v2, r2, e2, e3, q⟩
  exact ⟨a, xs, e, ha, hl, v1, r1, e1, v2, r2, e2, e3, k _ _ q⟩
theorem mono_yes : ∀ σ H (Q Q' : Bool → Hp → Prop), (∀ a b, Q a b → Q' a b) → tYes σ H Q → tYes σ H Q' := fun _ _ _ _ k h => k _ _ h
/-- a test as a rule of tests -/
abbrev tWT (X : Cx) (scope : Scope) (c : Expr) : TT := fun σ2 H2 Kc => Blk X scope fun Y => WT Y c σ2 H2 Kc
theorem mono_wt {c : Expr} : ∀ σ H (Q Q' : Bool → Hp → Prop), (∀ a b, Q a b → Q' a b) → tWT X scope c σ H Q → tWT X scope c σ H Q' := fun _ _ _ _ k h s H C cl fp => WT.mono (h s H C cl fp) k
theorem pts_wt {c : Expr} : Blk X scope fun Y => PTs Y [c] (tWT X scope c) := fun s H C cl fp => pts_one ⟨fun pins s' σ' H' Q' I' h' => (h' s H C cl fp).run pins s' I'⟩
/-- .. each item a thing by a relation that stands but for changes at the list D itself -/
abbrev LcR (X : Cx) (tg iter elt : Expr) (scope : Scope) (own : List (Str × Nat)) (g : TG) (σ : L2.St) (H : Hp) (Q : VK) : Prop := WI X tg iter σ H fun J H1 => ∃ n Y, ItN J H1 n Y ∧ n < sizeLine ∧ ∃ R : Addr → Nat → V → Hp → Prop, (∀ D i y Ha Hb acc, Ha D = some (.lst acc) → R D i y Ha → Bt D Ha Hb → R D i y Hb) ∧
    (∀ D i x H2, i < n → Same H1 H2 → H1 D = none → (∃ acc, H2 D = some (.lst acc)) → Y i x H2 → g x (wipe σ (own.map (·.2))) H2 fun σ2 H3 => wipe σ2 (own.map (·.2)) = wipe σ (own.map (·.2)) ∧ Blk X scope fun Y => W Y elt σ2 H3 fun y H5 => Same H2 H5 ∧ R D i y H5) ∧
    ∀ q ys H2, Same H1 H2 → H1 q = none → H2 q = some (.lst ys) → ys.length = n → (∀ (i : Nat) y, ys[i]? = some y → R q i y H2) → Q (.ref q) H2
theorem lcR_I {own : List (Str × Nat)} {g : TG} (mg : ∀ v σ H (Q Q' : L2.St → Hp → Prop), (∀ a b, Q a b → Q' a b) → g v σ H Q → g v σ H Q') (h : LcR X tg iter elt scope own g σ H Q) : LcI X tg iter elt scope own g tYes σ H Q := by
  refine ⟨fun pins s I => thn (h.run pins s I) fun v s1 z => thn z fun it s2 q => ?_⟩
  obtain ⟨it', fp, tn, J, H1, e, I2, T, t0, f0, n, Y, ⟨G, wk, g0, gs⟩, hn, R, hst, hel, hend⟩ := q
  refine ⟨it', fp, tn, J, H1, e, I2, T, t0, f0, n, G, _, wk, hn, fun D nD => ⟨fun i ys H => Same H1 H ∧ ys.length = i ∧ ∀ (j : Nat) y, ys[j]? = some y → R D j y H, ⟨same_new nD, rfl, fun j y e => by simp at e⟩, fun i ys H _ _ p => gs _ p.1, fun ys H hD p => hend D ys H p.1 nD hD p.2.1 p.2.2, ?_⟩⟩
  rintro i ys x Ha Hb hi hD ⟨sm, hl, hR⟩ ⟨sab, y⟩ Kf Kt kf kt
  refine mg _ _ _ _ _ (fun σ2 H3 ⟨z1, z2⟩ => ⟨z1, ?_⟩) (hel D i x Hb hi (sm.trans sab) nD ⟨_, sab _ _ hD⟩ y)
  show if true = true then Blk X scope fun Y => W Y elt σ2 H3 Kt else Kf H3
  rw [if_pos rfl]
  intro s' H' C cl fp'
  refine W.mono (z2 s' H' C cl fp') fun y H5 ⟨s35, hr⟩ => ?_
  have s5 : Same Ha H5 := sab.trans s35
  refine kt y H5 (s5 _ _ hD) ⟨same_upd (sm.trans s5) nD, by simp [hl], fun j u e => ?_⟩
  have bt : Bt D H5 (upd H5 D (.lst (ys ++ [y]))) := (Bt.refl D H5).upd
  by_cases hj : j < ys.length
  · rw [List.getElem?_append_left hj] at e
    exact hst _ _ _ _ _ _ hD (hR j u e) ((Bt.of s5).trans bt)
  · rw [List.getElem?_append_right (by omega)] at e
    have ej : j = ys.length := by
      have := (List.getElem?_eq_some_iff.mp e).1
      simp at this
      omega
    subst ej
    simp at e
    subst e
    rw [hl]
    exact hst _ _ _ _ _ _ (s5 _ _ hD) hr bt
/-! ### dicts -/
/-- a kind of keys: how a store puts them, how the dict's object is told, how a value shows a key -/
structure Fam (κ : Type) [DecidableEq κ] where
  pt : Put
  mkO : List (κ × V) → HO
  shows : κ → V → Hp → Prop
  ok : PutOk pt
  put : ∀ H D kvs k v z, H D = some (mkO kvs) → shows k v H → kvs.length < sizeLine → pt H D v z (mkO (putK kvs k z))
  st : ∀ k v H H', shows k v H → Same H H' → shows k v H'
  emp : ∀ (P : Program) (w : World) (H : Hp) (h : Heap), sysModules < h.objs.size → ObjOk P w H (h.push { cls := .type "dict", data := .dict #[] }) h.objs.size (mkO [])
def famK : Fam Key where
  pt := putKP
  mkO := .dK
  shows := fun k v _ => v = kV k
  ok := putKP_ok
  put := fun H D kvs k v z h1 h2 h3 => ⟨kvs, k, h2, h1, h3, rfl⟩
  st := fun k v H H' h _ => h
  emp := fun P w H h hb => dk_empty _ hb
def famT : Fam (List Key) where
  pt := putTP
  mkO := .dT
  shows := fun k v H => ∃ b, v = .ref b ∧ H b = some (.tup (k.map kV))
  ok := putTP_ok
  put := fun H D kvs k v z h1 ⟨b, h2, h4⟩ h3 => ⟨kvs, k, b, h2, h1, h4, h3, rfl⟩
  st := fun k v H H' ⟨b, h, h2⟩ s => ⟨b, h, s _ _ h2⟩
  emp := fun P w H h hb => dt_empty _ hb
/-- pairs put in one behind another -/
def putsL {κ : Type} [DecidableEq κ] (ps : List (κ × V)) : List (κ × V) := ps.foldl (fun d p => putK d p.1 p.2) []
theorem putsL_snoc {κ : Type} [DecidableEq κ] {ps : List (κ × V)} {k : κ} {z : V} : putsL (ps ++ [(k, z)]) = putK (putsL ps) k z := by
  unfold putsL
  rw [List.foldl_append] <;> rfl
theorem putsL_len {κ : Type} [DecidableEq κ] (ps : List (κ × V)) : (putsL ps).length ≤ ps.length := by
  have h : ∀ (zs d : List (κ × V)), (zs.foldl (fun d p => putK d p.1 p.2) d).length ≤ d.length + zs.length := by
    intro zs
    induction zs with
    | nil => intro d; exact Nat.le_refl _
    | cons z zs ih =>
      intro d
      have h1 := ih (putK d z.1 z.2)
      have h2 := length_putK d z.1 z.2
      show (zs.foldl _ (putK d z.1 z.2)).length ≤ _
      simp only [List.length_cons]
      omega
  have e := h ps []
  rw [List.length_nil, Nat.zero_add] at e
  exact e
/-- the keys, each once, in the order of their first coming -/
def onceL {κ : Type} [DecidableEq κ] (ks : List κ) : List κ := ks.foldl (fun d k => if k ∈ d then d else d ++ [k]) []
theorem putK_keysG {κ : Type} [DecidableEq κ] (d : List (κ × V)) (k : κ) (v : V) : (putK d k v).map (·.1) = if k ∈ d.map (·.1) then d.map (·.1) else d.map (·.1) ++ [k] := by
  unfold putK
  cases e : d.any fun kv => decide (kv.1 = k) with
  | true =>
    obtain ⟨kv, h1, h2⟩ := List.any_eq_true.mp e
    rw [if_pos rfl, if_pos (List.mem_map.mpr ⟨kv, h1, of_decide_eq_true h2⟩), List.map_map]
    refine List.map_congr_left fun kv _ => ?_
    show (if kv.1 = k then (kv.1, v) else kv).1 = kv.1
    split <;> rfl
  | false =>
    rw [if_neg Bool.false_ne_true, if_neg]
    · simp
    · intro h
      obtain ⟨kv, h1, h2⟩ := List.mem_map.mp h
      exact List.any_eq_false.mp e kv h1 (decide_eq_true h2)
theorem putsL_keys {κ : Type} [DecidableEq κ] (ps : List (κ × V)) : (putsL ps).map (·.1) = onceL (ps.map (·.1)) := by
  have h : ∀ (zs d : List (κ × V)), (zs.foldl (fun d p => putK d p.1 p.2) d).map (·.1) = (zs.map (·.1)).foldl (fun d k => if k ∈ d then d else d ++ [k]) (d.map (·.1)) := by
    intro zs
    induction zs with
    | nil => intro d; rfl
    | cons z zs ih =>
      intro d
      rw [List.foldl_cons, ih, List.map_cons, List.foldl_cons, putK_keysG]
  exact h ps []
theorem onceL_snoc {κ : Type} [DecidableEq κ] {ks : List κ} {k : κ} : onceL (ks ++ [k]) = if k ∈ onceL ks then onceL ks else onceL ks ++ [k] := by
  unfold onceL
  rw [List.foldl_append] <;> rfl
theorem onceL_mem {κ : Type} [DecidableEq κ] (ks : List κ) : (onceL ks).Nodup ∧ ∀ k, k ∈ onceL ks ↔ k ∈ ks := by
  have h : ∀ (zs d : List κ), d.Nodup → (zs.foldl (fun d k => if k ∈ d then d else d ++ [k]) d).Nodup ∧ ∀ k, k ∈ zs.foldl (fun d k => if k ∈ d then d else d ++ [k]) d ↔ k ∈ d ∨ k ∈ zs := by
    intro zs
    induction zs with
    | nil => intro d n; exact ⟨n, fun k => by simp⟩
    | cons z zs ih =>
      intro d n
      by_cases c : z ∈ d
      · obtain ⟨h1, h2⟩ := ih d n
        rw [List.foldl_cons, if_pos c]
        refine ⟨h1, fun k => ?_⟩
        rw [h2 k, List.mem_cons]
        constructor
        · rintro (h | h)
          · exact .inl h
          · exact .inr (.inr h)
        · rintro (h | h | h)
          · exact .inl h
          · rw [h]; exact .inl c
          · exact .inr h
      · have n2 : (d ++ [z]).Nodup := by
          rw [List.nodup_append]
          refine ⟨n, by simp, fun a ha b hb => ?_⟩
          rw [List.mem_singleton.mp hb]
          rintro rfl
          exact c ha
        obtain ⟨h1, h2⟩ := ih (d ++ [z]) n2
        rw [List.foldl_cons, if_neg c]
        refine ⟨h1, fun k => ?_⟩
        rw [h2 k, List.mem_cons, List.mem_append, List.mem_singleton, or_assoc]
  obtain ⟨h1, h2⟩ := h ks [] (by simp)
  exact ⟨h1, fun k => (h2 k).trans (by simp)⟩
/-- what is of no key twice already -/
theorem onceL_id {κ : Type} [DecidableEq κ] {ks : List κ} (h : ks.Nodup) : onceL ks = ks := by
  have key : ∀ (zs d : List κ), (d ++ zs).Nodup → zs.foldl (fun d k => if k ∈ d then d else d ++ [k]) d = d ++ zs := by
    intro zs
    induction zs with
    | nil => intro d _; simp
    | cons z zs ih =>
      intro d n
      have c : z ∉ d := fun c => by
        have := (List.nodup_append.mp n).2.2 z c z List.mem_cons_self
        exact this rfl
      rw [List.foldl_cons, if_neg c, ih (d ++ [z]) (by simpa using n)]
      simp
  have e := key ks [] (by simpa using h)
  rw [List.nil_append] at e
  exact e
/-- {k: v for t in it}: the i-th item puts the i-th of ps -/
theorem w_dcN {κ : Type} [DecidableEq κ] (F : Fam κ) (own : List (Str × Nat)) (g : TG) (hu : X.A.units + 64 < cLine) (mg : ∀ v σ H (Q Q' : L2.St → Hp → Prop), (∀ a b, Q a b → Q' a b) → g v σ H Q → g v σ H Q') (hg : Blk X scope fun Y => PG Y tg g) (hc : X.calm = true) (hN : X.N.Nodup) (ok : BlkOk X.N X.env.scope scope own)
    (h : WI X tg iter σ H fun J H1 => ∃ n Y, ItN J H1 n Y ∧ ∃ ps : List (κ × V), ps.length = n ∧ n < sizeLine ∧
      (∀ (i : Nat) x H2 k z, ps[i]? = some (k, z) → Same H1 H2 → Y i x H2 → g x (wipe σ (own.map (·.2))) H2 fun σ2 H3 => wipe σ2 (own.map (·.2)) = wipe σ (own.map (·.2)) ∧ Blk X scope fun Y => W Y kx σ2 H3 fun u H4 => Same H2 H4 ∧ F.shows k u H4 ∧ Blk X scope fun Y => W Y vx σ2 H4 fun y H5 => Same H4 H5 ∧ y = z) ∧
      ∀ q H2, Same H1 H2 → H1 q = none → H2 q = some (F.mkO (putsL ps)) → Q (.ref q) H2)
    (hs : ∀ x, foldedSetIterable iter X.env x = pure x := by intro _; rfl) : W X (.DictComp kx vx [⟨tg, iter, [], 0⟩] scope pos) σ H Q := by
  refine W.of (pe_dc1 (wi1 := WI X tg iter) (g1 := g) (tk := fun σ2 H2 K => Blk X scope fun Y => W Y kx σ2 H2 K) (tv := fun σ2 H2 K => Blk X scope fun Y => W Y vx σ2 H2 K) F.ok F.emp hu hc hN WI.pi ok hg
    (fun s H C cl fp => ⟨fun pins s' σ' H' Q' I' h' => (h' s H C cl fp).run pins s' I'⟩) (fun s H C cl fp => ⟨fun pins s' σ' H' Q' I' h' => (h' s H C cl fp).run pins s' I'⟩) hs) ?_
  refine ⟨fun pins s I => thn (h.run pins s I) fun v s1 z => thn z fun it s2 q => ?_⟩
  obtain ⟨it', fp, tn, J, H1, e, I2, T, t0, f0, n, Y, ⟨G, wk, g0, gs⟩, ps, rfl, hn, hel, hend⟩ := q
  refine ⟨it', fp, tn, J, H1, e, I2, T, t0, f0, ps.length, G, _, wk, fun D nD => ⟨fun i H => Same H1 H ∧ H D = some (F.mkO (putsL (ps.take i))), ⟨same_new nD, upd_same⟩, fun i H _ p => gs _ p.1, fun H p => hend D H p.1 nD (by have := p.2; rw [List.take_length] at this; exact this), ?_⟩⟩
  rintro i x Ha Hb hi ⟨sm, hD⟩ ⟨sab, y⟩
  have hp : ps[i]? = some ((ps[i]).1, (ps[i]).2) := List.getElem?_eq_getElem hi
  refine mg _ _ _ _ _ (fun σ2 H3 ⟨z1, z2⟩ => ⟨z1, ?_⟩) (hel i x Hb _ _ hp (sm.trans sab) y)
  intro s' H' C cl fp'
  refine W.mono (z2 s' H' C cl fp') fun u H4 ⟨s4, sh, z3⟩ => ?_
  intro s' H' C cl fp'
  refine W.mono (z3 s' H' C cl fp') fun y H5 ⟨s5, ey⟩ => ?_
  subst ey
  have hD5 : H5 D = some (F.mkO (putsL (ps.take i))) := (sab.trans (s4.trans s5)) _ _ hD
  have hl : (putsL (ps.take i)).length < sizeLine := by
    have h1 := putsL_len (ps.take i)
    rw [List.length_take] at h1
    omega
  refine ⟨_, F.put H5 D _ _ _ _ hD5 (F.st _ _ _ _ sh s5) hl, same_upd (sm.trans (sab.trans (s4.trans s5))) nD, ?_⟩
  rw [List.take_add_one, List.getElem?_eq_getElem hi]
  show (upd H5 D _) D = some (F.mkO (putsL (ps.take i ++ [((ps[i]).1, (ps[i]).2)])))
  rw [putsL_snoc]
  exact upd_same
/-- a walk that stands but for changes at D -/
structure ItD (D : Addr) (J : It) (H : Hp) (n : Nat) (Y : Nat → V → Hp → Prop) : Prop where
  ex : ∃ G : Hp → Prop, Walk J n G (fun i Ha v Hb => Same Ha Hb ∧ Y i v Hb) ∧ G H ∧ ∀ H', Bt D H H' → G H'
theorem itD_tup {K : PySem.W.Frag} {D a : Addr} {xs : List V} (h : SqT K H a xs) (ne : a ≠ D) : ItD D (Itt K a) H xs.length (YNth xs) :=
  ⟨_, walk_tup.mono (fun _ z => z) fun i Ha v Hb hi _ y => by
    obtain ⟨e, hv⟩ := y
    subst e
    exact ⟨Same.refl _, hv⟩, h, fun H' b => by
    rcases h with (h | ⟨o, h⟩) | h
    · exact .inl (.inl (b _ _ ne h))
    · exact .inl (.inr ⟨o, b _ _ ne h⟩)
    · exact .inr h⟩
/-- {k: v for t1 in i1 for t2 in i2} -/
theorem w_dc2N {κ : Type} [DecidableEq κ] {i2 tg2 : Expr} (F : Fam κ) (own : List (Str × Nat)) (g g2 : TG) (hu : X.A.units + 64 < cLine) (mg : ∀ v σ H (Q Q' : L2.St → Hp → Prop), (∀ a b, Q a b → Q' a b) → g v σ H Q → g v σ H Q') (mg2 : ∀ v σ H (Q Q' : L2.St → Hp → Prop), (∀ a b, Q a b → Q' a b) → g2 v σ H Q → g2 v σ H Q')
    (hg : Blk X scope fun Y => PG Y tg g) (hg2 : Blk X scope fun Y => PG Y tg2 g2) (hc : X.calm = true) (hN : X.N.Nodup) (ok : BlkOk X.N X.env.scope scope own)
    (h : WI X tg iter σ H fun J H1 => ∃ n Y, ItN J H1 n Y ∧ ∃ pss : List (List (κ × V)), pss.length = n ∧ pss.flatten.length < sizeLine ∧
      (∀ D (i : Nat) x H2 ps, H1 D = none → pss[i]? = some ps → Same H1 H2 → Y i x H2 → g x (wipe σ (own.map (·.2))) H2 fun σ2 H3 => wipe σ2 (own.map (·.2)) = wipe σ (own.map (·.2)) ∧ Same H2 H3 ∧ Blk X scope fun Y => WI Y tg2 i2 σ2 H3 fun J2 H4 => Same H3 H4 ∧ ∃ Y2, ItD D J2 H4 ps.length Y2 ∧
        ∀ (j : Nat) y H5 k z, ps[j]? = some (k, z) → Bt D H4 H5 → Y2 j y H5 → g2 y σ2 H5 fun σ3 H6 => (σ2.length = σ3.length ∧ ∀ (k : Nat) (v : V), σ2[k]? = some (some v) → σ3[k]? = some (some v)) ∧ Blk X scope fun Y => W Y kx σ3 H6 fun u H7 => Same H5 H7 ∧ F.shows k u H7 ∧ Blk X scope fun Y => W Y vx σ3 H7 fun y H8 => Same H7 H8 ∧ y = z) ∧
      ∀ q H2, Same H1 H2 → H1 q = none → H2 q = some (F.mkO (putsL pss.flatten)) → Q (.ref q) H2)
    (hs : ∀ x, foldedSetIterable iter X.env x = pure x := by intro _; rfl) (hs2 : Blk X scope fun Y => ∀ x, foldedSetIterable i2 Y.env x = pure x := by intro _ _ _ _ _ _; rfl) : W X (.DictComp kx vx [⟨tg, iter, [], 0⟩, ⟨tg2, i2, [], 0⟩] scope pos) σ H Q := by
  refine W.of (pe_dc2 (wi1 := WI X tg iter) (wi2 := fun σ2 H2 R => Blk X scope fun Y => WI Y tg2 i2 σ2 H2 R) (g1 := g) (g2 := g2) (tk := fun σ2 H2 K => Blk X scope fun Y => W Y kx σ2 H2 K) (tv := fun σ2 H2 K => Blk X scope fun Y => W Y vx σ2 H2 K) F.ok F.emp hu hc hN WI.pi ok hg hg2
    (fun s H C cl fp => ⟨fun pins s' σ' H' R' I' h' => (h' s H C cl fp).run pins s' I'⟩)
    (fun s H C cl fp => ⟨fun pins s' σ' H' Q' I' h' => (h' s H C cl fp).run pins s' I'⟩) (fun s H C cl fp => ⟨fun pins s' σ' H' Q' I' h' => (h' s H C cl fp).run pins s' I'⟩) hs hs2) ?_
  refine ⟨fun pins s I => thn (h.run pins s I) fun v s1 z => thn z fun it s2 q => ?_⟩
  obtain ⟨it', fp, tn, J, H1, e, I2, T, t0, f0, n, Y, ⟨G, wk, g0, gs⟩, pss, rfl, hn, hel, hend⟩ := q
  refine ⟨it', fp, tn, J, H1, e, I2, T, t0, f0, pss.length, G, _, wk, fun D nD => ⟨fun i H => Same H1 H ∧ H D = some (F.mkO (putsL (pss.take i).flatten)), ⟨same_new nD, upd_same⟩, fun i H _ p => gs _ p.1, fun H p => hend D H p.1 nD (by have := p.2; rw [List.take_length] at this; exact this), ?_⟩⟩
  rintro i x Ha Hb hi ⟨sm, hD⟩ ⟨sab, y⟩
  have hp : pss[i]? = some pss[i] := List.getElem?_eq_getElem hi
  have etk : pss.take (i + 1) = pss.take i ++ [pss[i]] := by rw [List.take_add_one, hp] <;> rfl
  have hle : (pss.take i).flatten.length + (pss[i]).length < sizeLine := by
    have e1 : (pss.take (i + 1)).flatten.length ≤ pss.flatten.length := by
      have e2 : pss.flatten = (pss.take (i + 1)).flatten ++ (pss.drop (i + 1)).flatten := by rw [← List.flatten_append, List.take_append_drop]
      rw [e2, List.length_append]
      exact Nat.le_add_right _ _
    rw [etk, List.flatten_append, List.length_append] at e1
    simp at e1 hn ⊢
    omega
  refine mg _ _ _ _ _ (fun σ2 H3 ⟨z1, s3, z2⟩ => ⟨z1, ?_⟩) (hel D i x Hb _ nD hp (sm.trans sab) y)
  intro s' H' C cl fp'
  refine ⟨fun pins s I => thn ((z2 s' H' C cl fp').run pins s I) fun v s1 z => thn z fun it s2 q => ?_⟩
  obtain ⟨it2, fp2, tn2, J2, H4, e2, I4, T2, t2, f2, s4, Y2, ⟨G2, wk2, g20, gs2⟩, hel2⟩ := q
  have s14 : Same H1 H4 := sm.trans (sab.trans (s3.trans s4))
  refine ⟨it2, fp2, tn2, J2, H4, e2, I4, T2, t2, f2, (pss[i]).length, G2, _, wk2, fun j H => Same H1 H ∧ Bt D H4 H ∧ H D = some (F.mkO (putsL ((pss.take i).flatten ++ (pss[i]).take j))), ⟨s14, Bt.refl _ _, ?_⟩, fun j H _ p => gs2 _ p.2.1, fun H p => ⟨p.1, ?_⟩, ?_⟩
  · rw [List.take_zero, List.append_nil]
    exact (sab.trans (s3.trans s4)) _ _ hD
  · have e := p.2.2
    rw [List.take_length] at e
    rw [etk, List.flatten_append]
    simpa using e
  rintro j y2 Hc Hd hj ⟨sm2, bt2, hD2⟩ ⟨scd, yy⟩
  have hp2 : (pss[i])[j]? = some (((pss[i])[j]).1, ((pss[i])[j]).2) := List.getElem?_eq_getElem hj
  refine mg2 _ _ _ _ _ (fun σ3 H6 ⟨z1, z2⟩ => ⟨z1, ?_⟩) (hel2 j y2 Hd _ _ hp2 (bt2.trans (Bt.of scd)) yy)
  intro s' H' C cl fp'
  refine W.mono (z2 s' H' C cl fp') fun u H7 ⟨s7, sh, z3⟩ => ?_
  intro s' H' C cl fp'
  refine W.mono (z3 s' H' C cl fp') fun y H8 ⟨s8, ey⟩ => ?_
  subst ey
  have s58 := scd.trans (s7.trans s8)
  have hl : (putsL ((pss.take i).flatten ++ (pss[i]).take j)).length < sizeLine := by
    have h1 := putsL_len ((pss.take i).flatten ++ (pss[i]).take j)
    rw [List.length_append, List.length_take] at h1
    omega
  refine ⟨_, F.put H8 D _ _ _ _ (s58 _ _ hD2) (F.st _ _ _ _ sh s8) hl, same_upd (sm2.trans s58) nD, (bt2.trans (Bt.of s58)).upd, ?_⟩
  rw [List.take_add_one, hp2, ← List.append_assoc]
  show (upd H8 D _) D = some (F.mkO (putsL ((pss.take i).flatten ++ (pss[i]).take j ++ [(((pss[i])[j]).1, ((pss[i])[j]).2)])))
  rw [putsL_snoc]
  exact upd_same
end
end Ax
end
section
set_option maxHeartbeats 4000000
/-! a head's facts about own classes; a hook with them -/
namespace Ax
open PySem PySem.Spec PyProof.Rows L2
/-- C.f is a property -/
def prB (K : PySem.W.Frag) (C : Addr) (f : PySem.Str) : Bool := decide (PySem.W.findIn K (.ref C) f = some (some (.ref (He.ma K C f)))) && (decide (PySem.W.specialIn K (.ref (He.ma K C f)) "__get__" = some (some (.builtin "property.__get__"))) &&
  (decide (PySem.W.takesIn K (.ref (He.ma K C f)) = some true) && (match PySem.W.recIn K (He.ma K C f) "property" with
    | some (.ref _ :: _) => true
    | _ => false)))
theorem prB_ok {K : PySem.W.Frag} {C : Addr} {f : PySem.Str} (h : prB K C f = true) : PropOf K C f (He.ma K C f) (He5.wf K C "property" f) := by
  unfold prB at h
  obtain ⟨h1, h⟩ := Bool.and_eq_true_iff.mp h
  obtain ⟨h2, h⟩ := Bool.and_eq_true_iff.mp h
  obtain ⟨h3, h4⟩ := Bool.and_eq_true_iff.mp h
  refine ⟨of_decide_eq_true h1, of_decide_eq_true h2, of_decide_eq_true h3, ?_⟩
  unfold He5.wf
  split at h4
  · rename_i f r e
    exact ⟨r, by rw [e]⟩
  · cases h4
/-- C.m is a classmethod -/
def cmB (K : PySem.W.Frag) (C : Addr) (m : PySem.Str) : Bool := He5.wrapB K C "classmethod" "classmethod.__get__" m && PySem.W.fnIn K (He5.wf K C "classmethod" m)
theorem cmB_ok {K : PySem.W.Frag} {C : Addr} {m : PySem.Str} (h : cmB K C m = true) : ClX.CMet K C (.type "type") m (He.ma K C m) (He5.wf K C "classmethod" m) := by
  obtain ⟨h1, h2⟩ := Bool.and_eq_true_iff.mp h
  exact He5.cmet_of h1 h2
def crB (K : PySem.W.Frag) (C : Addr) : Bool := PySem.W.readsIn K C (.type "type") && decide (PySem.W.specialIn K (.ref C) "__getattribute__" = some (some (.builtin "type.__getattribute__")))
theorem crB_ok {K : PySem.W.Frag} {C : Addr} (h : crB K C = true) : ClX.CRead K C (.type "type") := by
  obtain ⟨h1, h2⟩ := Bool.and_eq_true_iff.mp h
  exact ⟨h1, of_decide_eq_true h2⟩
/-- a plain class, its __class__ not otherwise -/
def kcB (K : PySem.W.Frag) (C : Addr) : Bool := PySem.W.plainGet K C Str.empty && (PySem.W.hasDictIn K C && (PySem.W.plainOver K C && (decide (PySem.W.findIn K (.ref C) "__setattr__" = some (some (.builtin "object.__setattr__"))) &&
  (decide (PySem.W.findIn K (.ref C) "__class__" = some (some (.builtin "object.__class__"))) && (decide (PySem.W.specialIn K (.builtin "object.__class__") "__get__" = some (some (.builtin "getset_descriptor.__get__"))) &&
  (decide (PySem.W.takesIn K (.builtin "object.__class__") = some true) && decide (PySem.W.mroIn K C (.type "object") = some true)))))))
theorem kcB_ok {K : PySem.W.Frag} {C : Addr} (h : kcB K C = true) : KC K C := by
  unfold kcB at h
  obtain ⟨h1, h⟩ := Bool.and_eq_true_iff.mp h
  obtain ⟨h2, h⟩ := Bool.and_eq_true_iff.mp h
  obtain ⟨h3, h⟩ := Bool.and_eq_true_iff.mp h
  obtain ⟨h4, h⟩ := Bool.and_eq_true_iff.mp h
  obtain ⟨h5, h⟩ := Bool.and_eq_true_iff.mp h
  obtain ⟨h6, h⟩ := Bool.and_eq_true_iff.mp h
  obtain ⟨h7, h8⟩ := Bool.and_eq_true_iff.mp h
  exact ⟨⟨h1, h2, h3, of_decide_eq_true h4⟩, of_decide_eq_true h5, of_decide_eq_true h6, of_decide_eq_true h7, of_decide_eq_true h8⟩
def kitB2 (K : PySem.W.Frag) (C : Value) (v : Value) (b : Bool) : Bool := decide (PySem.W.kitOne K C v = some b)
theorem kitB2_ok {K : PySem.W.Frag} {C v : Value} {b : Bool} (h : kitB2 K C v b = true) : PySem.W.kitOne K C v = some b := of_decide_eq_true h
/-- a tuple of the text without own attributes -/
def tdB (K : PySem.W.Frag) (a : Addr) : Bool := match K.lookup a with
  | some ⟨.type c, none, _, _⟩ => decide (c = "tuple")
  | _ => false
theorem tdB_ok {K : PySem.W.Frag} {a : Addr} (h : tdB K a = true) : ∃ o, K.lookup a = some o ∧ o.cls = .type "tuple" ∧ o.dict = none := by
  unfold tdB at h
  split at h
  · rename_i c dt sl e
    exact ⟨_, e, congrArg Value.type (of_decide_eq_true h), rfl⟩
  · cases h
/-! ### methods with a star parameter, with ** -/
section
open StX
variable {P : Program} {w : World} {K : PySem.W.Frag} {mg : Str → Option Value} {base : Heap}
theorem none_dfl {x q : Str} {st : Stmt} {f : Addr} {fd : FuncData} (F : FunD K x q (defArgs st) (defBody st) (defScope st) [] [] f fd) :
    ∃ (oc : Value) (od : Option Addr) (kV doc pm : Value) (an : Option Addr) (cdv ct : Value) (osl : Array (Option Value)), K.lookup f = some ⟨oc, od, .func (PySem.W.fnOf x q (defArgs st) (defBody st) (defScope st) .none kV doc pm an cdv ct), osl⟩ ∧ PySem.W.codeIn K cdv q = true := by
  obtain ⟨oc, od, dV, kV, doc, pm, an, cdv, ct, osl, e, l, c, hd, _⟩ := F.ex
  rcases hd with ⟨_, e2⟩ | ⟨e2, _⟩
  · subst e2
    subst e
    exact ⟨oc, od, kV, doc, pm, an, cdv, ct, osl, l, c⟩
  · exact absurd rfl e2
theorem meth_okStar {x q p1 p2 pv : Str} {st : Stmt} {N : List Str} {k : Nat} {sp : Sp} {f : Addr} (T : ∃ fd, FunD K x q (defArgs st) (defBody st) (defScope st) [] [] f fd) (S : FnScope N ([p1, p2] ++ [pv]) (defScope st))
    (h0 : ∀ (kV doc pm : Value) (an : Option Addr) (cdv ct : Value) (a b : Value), bindArgs (PySem.W.fnOf x q (defArgs st) (defBody st) (defScope st) .none kV doc pm an cdv ct) ⟨[a, b], []⟩ = (newTuple [] >>= fun t => pure [(p1, a), (p2, b), (pv, t)]))
    (h1 : ∀ (kV doc pm : Value) (an : Option Addr) (cdv ct : Value) (a b r : Value) (rs : List Value), bindArgs (PySem.W.fnOf x q (defArgs st) (defBody st) (defScope st) .none kV doc pm an cdv ct) ⟨a :: b :: r :: rs, []⟩ = (newTuple (r :: rs) >>= fun t => pure [(p1, a), (p2, b), (pv, t)]))
    (body : ∀ (cdv : Value) (A : Around) (outer : List Env) (s : Shared) (H : Hp) (vs : List V) (Q : VK) (E : XK), Room k (A.deeper (envOfC q (defScope st) s.heap.objs.size f cdv)) → sp vs H Q E →
      WB (cxOf (L2.CX P w) P w K mg base N q (defScope st) f cdv A outer s H E) (defBody st) { nx := fun _ H' => Q .non H', rt := Q } (start N vs) H) :
    FnP P w K mg base (k + 1) f (fun vs H Q E => ∃ a b rest, vs = a :: b :: rest ∧ rest.length ≤ sizeLine ∧ ∀ p, H p = none → sp [a, b, .ref p] (upd H p (.tup rest)) Q E) := by
  obtain ⟨fd, F⟩ := T
  obtain ⟨oc, od, kV, doc, pm, an, cdv, ct, osl, lk, hcd⟩ := none_dfl F
  have Z := fn_star (P := P) (w := w) (mg := mg) (base := base) (ps := [p1, p2]) (pv := pv) (k := k) (sp := sp) lk hcd S cxUp (bind_star2 (B := fun us => bindArgs (PySem.W.fnOf x q (defArgs st) (defBody st) (defScope st) .none kV doc pm an cdv ct) ⟨us, []⟩) (fun a b => h0 kV doc pm an cdv ct a b) fun a b r rs => h1 kV doc pm an cdv ct a b r rs)
    fun A outer s H vs Q E hr h => ⟨_, WB.pss, body cdv A outer s H vs Q E hr h⟩
  exact Z.imp fun vs H Q E ⟨a, b, rest, e, z, q⟩ => ⟨[a, b], rest, e, rfl, z, q⟩
/-- def m(self, a, **d), called without keywords -/
theorem meth_okKw {x q pd : Str} {ps : List Str} {st : Stmt} {N : List Str} {k : Nat} {sp : Sp} {f : Addr} (T : ∃ fd, FunD K x q (defArgs st) (defBody st) (defScope st) [] [] f fd) (S : FnScope N (ps ++ [pd]) (defScope st))
    (hb : ∀ (kV doc pm : Value) (an : Option Addr) (cdv ct : Value) (us : List Value), us.length = ps.length → bindArgs (PySem.W.fnOf x q (defArgs st) (defBody st) (defScope st) .none kV doc pm an cdv ct) ⟨us, []⟩ = ((alloc ({ cls := .type "dict", data := .dict #[] } : Obj) : Sem Addr) >>= fun d => pure (ps.zip us ++ [(pd, Value.ref d)])))
    (body : ∀ (cdv : Value) (A : Around) (outer : List Env) (s : Shared) (H : Hp) (vs : List V) (Q : VK) (E : XK), Room k (A.deeper (envOfC q (defScope st) s.heap.objs.size f cdv)) → sp vs H Q E →
      WB (cxOf (L2.CX P w) P w K mg base N q (defScope st) f cdv A outer s H E) (defBody st) { nx := fun _ H' => Q .non H', rt := Q } (start N vs) H) :
    FnP P w K mg base (k + 1) f (fun vs H Q E => vs.length = ps.length ∧ ∀ p, H p = none → sp (vs ++ [.ref p]) (upd H p (.dK [])) Q E) := by
  obtain ⟨fd, F⟩ := T
  obtain ⟨oc, od, kV, doc, pm, an, cdv, ct, osl, lk, hcd⟩ := none_dfl F
  intro A outer s H us vs Q E hr e0 r ⟨hl, hq⟩
  have hn : H s.heap.objs.size = Option.none := e0.hok.fresh (Nat.le_refl _)
  have hl1 : us.length = ps.length := by rw [← r.length]; exact hl
  refine run_bnd lk hcd S hr e0 (G := fun xs H2 => ∃ d, H d = Option.none ∧ xs = vs ++ [V.ref d] ∧ H2 = upd H d (.dK [])) (fun A' Ex Q' h => ?_) fun s2 H2 xs ⟨d, hd, ex, eH⟩ hr' => ?_
  · rw [hb kV doc pm an cdv ct us hl1]
    refine wpAny_bind (wpAny_alloc (wpAny_pure ?_))
    have e2 := env0_laid (u := .dK []) (o := ({ cls := .type "dict", data := .dict #[] } : Obj)) e0 (dk_empty _ (env0_big e0))
    have un := un_laid (fs := frs outer) (s := s) (o := ({ cls := .type "dict", data := .dict #[] } : Obj)) (u := .dK []) hn
    have z := h _ _ (vs ++ [V.ref s.heap.objs.size]) (us ++ [Value.ref s.heap.objs.size]) e2 un rfl (fun e s' => cxUp outer s H _ _ E e s' un (fun b o q => Heap.get?_push_of_some _ q) rfl) (r.append (.cons rfl .nil))
      (by rw [List.length_append, List.length_append, hl] <;> rfl) ⟨_, hn, rfl, rfl⟩
    rw [List.zip_append hl1.symm] at z
    exact z
  · subst ex eH
    exact ⟨_, WB.pss, body cdv A outer s2 _ _ Q E hr' (hq d hd)⟩
end
/-! ### the hook -/
abbrev AlY : Type := He.AlD × Bool
def obsY (n : Nat) (fa : List He.Fa) (fn : List He5.DefA) (ex : PySem.W.Frag → Bool) (g : Addr → Option Obj) : AlY := (He5.obsA fa fn (He.frG g (He5.asA g n)), ex (He.frG g (He5.asA g n)))
def hookY (n : Nat) (fa : List He.Fa) (fn : List He5.DefA) (ex : PySem.W.Frag → Bool) : PySem.W.Hook where
  α := AlY
  obs := fun s => obsY n fa fn ex s.heap.get?
  val := fun _ => (He5.valA fn, true)
  says := fun _ h => ∃ K : PySem.W.Frag, K.In h ∧ He5.SaysA fa fn K ∧ ex K = true
  of := fun _ _ e => ⟨_, He.frG_in, congrArg (fun z : AlY => z.1) e, congrArg (fun z : AlY => z.2) e⟩
  keeps := fun _ _ _ ⟨K, hK, c⟩ k => ⟨K, PySem.W.Frag.In.keeps hK k, c⟩
theorem obsY_eq {n : Nat} {fa : List He.Fa} {fn : List He5.DefA} {ex : PySem.W.Frag → Bool} {g : Addr → Option Obj} {s : Shared} (h : ∀ a, g a = s.heap.get? a) : obsY n fa fn ex g = (hookY n fa fn ex).obs s := by
  have e : g = s.heap.get? := funext h
  rw [e] <;> rfl
end Ax
end
section
set_option maxHeartbeats 4000000
/-! words for dicts; sorted lists of data; parts of texts; making own objects -/
namespace Ax
open PySem PySem.Spec PyProof.Rows L2
open PySem.W (EachIs AllAlike Sortable dataLe)
section
variable {X : Cx} {e a b o tg iter : Expr} {es : List Expr} {σ : L2.St} {H : Hp} {Q : VK} {D : Ends} {pos apos : Pos}
/-! ### dicts -/
theorem ix_dK (hu : X.A.units + 1 < cLine) : IxR X (fun x y H Q => ∃ a kvs k v, x = .ref a ∧ y = kV k ∧ Rd H a (.dK kvs) ∧ valV kvs k = some v ∧ Q v H) := by
  intro value slice pins s σ H x y v u Q I rx ry h hs
  obtain ⟨a, kvs, k, r, rfl, rfl, hr, l, q⟩ := h
  obtain rfl : v = Value.ref a := rx
  obtain ⟨z, hd, vs, rel, dd⟩ := dk_rd I.hok hr
  obtain ⟨w', hw, rw'⟩ := RelO.some_of (v := r) (o := valueAt vs k) (by rw [← l]; exact rel.val k)
  exact tail_any dd.mapOf.typeIs slot_dict_getitem.lookup (wpAny_getItem_of (kV_is ry) dd.mapOf hw ⟨r, H, I.tok _, rw', q⟩) hs
theorem iv_dK {p : Addr} {kvs : List (Key × V)} {k : Key} {v : V} (hu : X.A.units + 64 < cLine) (h1 : Rd H p (.dK kvs)) (h2 : valV kvs k = some v) (h : Q v H) : IxV X (.ref p) (kV k) H Q := ⟨_, ix_dK (by omega), p, kvs, k, v, rfl, rfl, h1, h2, h⟩
theorem kv_lenD {p : Addr} {kvs : List (Key × V)} (h1 : H p = some (.dK kvs)) (h : Q (.int kvs.length) H) : CallV X (.builtin "len") [.ref p] H Q := ⟨_, call_lenD, p, kvs, rfl, h1, h⟩
theorem kv_isDict {p : Addr} {kvs : List (Key × V)} {T : String} {k : Bool} (h1 : H p = some (.dK kvs)) (hk : kitB "dict" T = some k) (h : Q (.bl k) H) : CallV X (.builtin "isinstance") [.ref p, .ty T] H Q := kv_isi (.ty T) (.base (.dK h1)) (kit_ty hk) h
theorem sv_dK {p : Addr} {kvs : List (Key × V)} {k : Key} {v : V} {Q : Hp → Prop} (hu : X.A.units + 64 < cLine) (hp : H p = some (.dK kvs)) (hl : kvs.length < sizeLine) (h : Q (upd H p (.dK (putK kvs k v)))) : SetV X (.ref p) (kV k) v H Q := ⟨_, set_dict (by omega), p, _, rfl, DPut.k hp hl, h⟩
theorem kv_dictP {p : Addr} {ps : List Addr} {kvs : List (Key × V)} (hc : X.calm = true) (h1 : SqL X.K H p (ps.map V.ref)) (h2 : Paired (fun q kv => SqT X.K H q [kV kv.1, kv.2]) ps kvs) (h : ∀ q H2, Same H H2 → H q = none → H2 q = some (.dK (putsL kvs)) → Q (.ref q) H2) : CallV X (.type "dict") [.ref p] H Q :=
  ⟨_, call_dictP hc, p, ps, kvs, rfl, h1, h2, fun q hq => h q _ (same_new hq) hq upd_same⟩
theorem paired_all2 {α β : Type} {R : α → β → Prop} : ∀ {xs : List α} {ys : List β}, All2 R xs ys → Paired R xs ys
  | _, _, .nil => .nil
  | _, _, .cons h t => .cons h (paired_all2 t)
/-- a dict that is read while it stands: locked for the time of the expression -/
theorem w_lock {d : Addr} {u : HO} (hd : H d = some u) (mu : Mut (some u)) (h : ∀ od, W X e σ (upd H d (.frz od u)) fun v H1 => H1 d = some (.frz od u) ∧ Q v (upd H1 d u)) : W X e σ H Q :=
  W.of (pe_lock W.pe) ⟨d, u, hd, mu, h⟩
/-- between: the dict at d locked by od, all else as it was -/
theorem lock_same {d : Addr} {od : Obj} {u : HO} {H1 : Hp} (hd : H d = some u) (s : Same (upd H d (.frz od u)) H1) : Same H (upd H1 d u) := fun b o hb => by
  by_cases z : b = d
  · subst z
    rw [hd] at hb
    rw [upd_same]
    exact hb
  · rw [upd_ne z]
    exact s b o (by rw [upd_ne z]; exact hb)
theorem itN_keys {d : Addr} {od : Obj} {kvs : List (Key × V)} (h : H d = some (.frz od (.dK kvs))) : ItN (Itk d od kvs) H kvs.length (fun i v _ => ∃ k z, kvs[i]? = some (k, z) ∧ v = kV k) :=
  ⟨_, walk_keys.mono (fun _ z => z) fun i Ha v Hb hi _ ⟨e, y⟩ => by
    subst e
    exact ⟨Same.refl _, y⟩, h, fun _ s => s _ _ h⟩
theorem itN_items {d : Addr} {od : Obj} {kvs : List (Key × V)} (h : H d = some (.frz od (.dK kvs))) : ItN (Iti d od kvs) H kvs.length (YTwo (fun i => kvs[i]?.map fun kv => kV kv.1) (fun i => kvs[i]?.map Prod.snd)) :=
  ⟨_, walk_items.mono (fun _ z => z) fun i Ha v Hb hi _ ⟨T, x, y, e1, e2, e3, e4, e5⟩ => by
    subst e3
    exact ⟨same_new e2, T, x, y, e1, e4, e5, upd_same⟩, h, fun _ s => s _ _ h⟩
/-! ### sorted -/
/-- sorted(xs), xs a list of things that read as data -/
theorem call_sortedG {α : Type} (enc : α → PyData) : CallR X (.builtin "sorted") (fun xs H Q => ∃ (l : Addr) (bs : List Addr) (as : List α) (P : Addr → α → Prop), xs = [.ref l] ∧ SqL X.K H l (bs.map V.ref) ∧ All2 P bs as ∧ (∀ b a, P b a → Dp X.K H (.ref b) (enc a)) ∧ AllAlike (as.map enc) ∧ Sortable (as.map enc) ∧ as.length ≤ sizeLine ∧
    (∀ a ∈ as, X.A.units + 2 + (enc a).depth < cLine) ∧ ∀ cs p, H p = none → All2 P cs (as.mergeSort (dataLe false enc)) → Q (.ref p) (upd H p (.lst (cs.map V.ref)))) := by
  intro pins s σ H xs us Q I r q
  obtain ⟨l, bs, as, P, rfl, hl, hp, hdp, hal, hk, hz, hu, q⟩ := q
  obtain ⟨u, rfl, rx⟩ := r.one
  cases rx
  obtain ⟨its, rv, p, hzz⟩ := I.list hl
  have ei := refs_at rv
  subst ei
  have eR : EachIs (fun v a => ∃ b, v = Value.ref b ∧ P b a) (bs.map Value.ref) as := by
    clear rv p hl hal hk hz hu q hzz
    induction hp with
    | nil => exact .nil
    | cons h t ih => exact .cons ⟨_, rfl, h⟩ ih
  have er : EachIs (fun v a => ∃ as, Reads s.heap v (enc a) as) (bs.map Value.ref) as := eR.mono fun v a ⟨b, ev, hb⟩ => by
    subst ev
    exact Dp.reads I (enc a) (.ref b) (.ref b) (hdp b a hb) rfl
  refine PySem.W.sorted_data p.isList eR er hal hk hz hu fun out ho eO => ?_
  obtain ⟨cs, eb, hcs⟩ : ∃ cs, out = cs.map Value.ref ∧ All2 P cs (as.mergeSort (dataLe false enc)) := by
    clear ho
    generalize as.mergeSort (dataLe false enc) = rs at eO
    induction eO with
    | nil => exact ⟨[], rfl, .nil⟩
    | cons h t ih =>
      obtain ⟨b, e, hb⟩ := h
      obtain ⟨cs, e2, t2⟩ := ih
      exact ⟨b :: cs, by rw [e, e2] <;> rfl, .cons hb t2⟩
  obtain ⟨e', he'⟩ := PyProof.Rows.sortedAll_at s.heap (bs.map Value.ref) out.toArray
  have hlen : (cs.map V.ref).length ≤ sizeLine := by
    have h2 := hcs.len
    rw [List.length_mergeSort] at h2
    rw [List.length_map]
    omega
  have n1 : s.heap.objs.size ≤ s.heap.objs.size + 1 := Nat.le_succ _
  exact ⟨.ref (s.heap.objs.size + 1), upd H (s.heap.objs.size + 1) (.lst (cs.map V.ref)), I.laid (t' := s.toks) (fun b u ez => PyProof.Rows.sortedAll_old ez) n1 (show ObjOk X.prog X.w _ _ _ (.lst (cs.map V.ref)) from ⟨hlen, out, e', by rw [eb] <;> exact vals_refs cs, he'⟩), rfl, q cs _ (I.hok.fresh n1) hcs⟩
/-! ### f'..' of names -/
theorem tJs_nil {acc : Str} {Q : Str → Hp → Prop} (h : Q acc H) : tJs [] acc σ H Q := h
theorem glob_ref {mg : Str → Option Value} {x : Str} {a : Addr} (h : mg x = some (.ref a)) : ∃ u, mg x = some u ∧ RelV (.ref a) u := ⟨_, h, rfl⟩
theorem keep_set {σ : L2.St} {i : Nat} {x : V} (h : σ[i]? = some none) : ∀ (k : Nat) (v : V), σ[k]? = some (some v) → (σ.set i (some x))[k]? = some (some v) := fun k v z => by
  by_cases e : i = k
  · subst e
    rw [h] at z
    cases z
  · rw [List.getElem?_set_ne e]
    exact z
theorem inV_str {z : Str} {zs : List Str} : inV (.str z) (zs.map V.str) = decide (z ∈ zs) := by
  unfold inV
  rw [List.any_map]
  induction zs with
  | nil => simp
  | cons y ys ih =>
    rw [List.any_cons, ih]
    have e : ((fun y => eqV y (.str z)) ∘ V.str) y = decide (y = z) := by
      show (y == z) = _
      rw [Bool.eq_iff_iff, decide_eq_true_iff]
      exact beq_iff_eq
    rw [e]
    by_cases h : y = z
    · simp [h]
    · have h2 : ¬ z = y := fun e => h e.symm
      simp [h, h2]
/-- what makes a new object stands by the old ones -/
theorem made_same {C x dx : Addr} {H1 H2 : Hp} (hx : H1 x = none) (hdx : H1 dx = none) (b : Bt x (upd (upd H1 dx (.own x)) x (.ins C dx [])) H2) : Same H1 H2 := fun y o hy => by
  have yx : y ≠ x := ne_of_none hy hx
  have yd : y ≠ dx := ne_of_none hy hdx
  refine b y o yx ?_
  rw [upd_ne yx, upd_ne yd]
  exact hy
end
end Ax
end
section
set_option maxHeartbeats 4000000
/-! sorted(tuple of texts); the order of texts -/
namespace Ax
open PySem PySem.Spec PyProof.Rows L2
open PySem.W (EachIs SortsAt dataKind AllAlike Sortable dataLe sortVals sortingHeap sortingHeap_old)
/-- texts in their order -/
def strLe (a b : Str) : Bool := !decide (b.cps.toList < a.cps.toList)
theorem each_str : ∀ {zs : List Str} {us : List Value}, Vals (zs.map V.str) us → EachIs (fun v z => ∃ t, v = Value.str z t) us zs
  | [], _, h => by cases h; exact .nil
  | z :: zs, _, h => by
    cases h with
    | cons h t =>
      obtain ⟨tk, rfl⟩ := h
      exact .cons ⟨tk, rfl⟩ (each_str t)
theorem vals_each : ∀ {zs : List Str} {us : List Value}, EachIs (fun v z => ∃ t, v = Value.str z t) us zs → Vals (zs.map V.str) us
  | _, _, .nil => .nil
  | _, _, .cons ⟨t, e⟩ r => .cons ⟨t, e⟩ (vals_each r)
section
variable {X : Cx}
theorem call_sortedTS (hcalm : X.calm = true) (hu : X.A.units + 64 < cLine) : CallR X (.builtin "sorted") (fun xs H Q => ∃ (a : Addr) (zs : List Str), xs = [.ref a] ∧ SqT X.K H a (zs.map V.str) ∧
    ∀ p, H p = none → Q (.ref p) (upd H p (.lst ((zs.mergeSort (dataLe false PyData.str)).map V.str)))) := by
  intro pins s σ H xs us Q I r q
  obtain ⟨a, zs, rfl, hd, q⟩ := q
  obtain ⟨u, rfl, rx⟩ := r.one
  cases rx
  obtain ⟨its, rv, pt, hz⟩ := I.tuple hd
  obtain ⟨oo, ho, hc, n, hdat⟩ := pt
  have eR := each_str rv
  have hal : its.length = zs.length := eR.length
  rw [List.length_map] at hz
  refine Calls.call_function_entry PyProof.Rows.kind_sorted PyProof.Rows.plain_sorted PyProof.Rows.entry_sorted (PyProof.Rows.args_sorted1 _) ?_
  unfold Builtin.«sorted»
  refine wpAny_bind (m := checkCount "sorted" 1 1 _) (wpAny_pure ?_)
  refine wpAny_bind (PySem.wpAny_collect_seq (A := X.A.in1) a (.inr rfl) ho hc hdat (fun h' hk => ?_) (by rw [List.size_toArray]; omega))
  have I1 : Inv X pins σ H { s with heap := h' } := I.kept (t' := s.toks) hk
  show wpAny _ _ (newList its >>= _) _ _ { s with heap := h' }
  refine wpAny_bind (wpAny_newList ?_ (by rw [hal]; omega))
  have hoL : (h'.push (seqObj "list" its.toArray 0)).get? h'.objs.size = some (seqObj "list" its.toArray 0) := Heap.get?_push_size _ rfl
  show wpAny _ _ _ _ _ { s with heap := h'.push (seqObj "list" its.toArray 0) }
  have eS : ∀ hh, EachIs (fun v r => ∃ as, Reads hh v (PyData.str r) as) its zs := fun hh => eR.mono fun v r ⟨t, ev⟩ => by
    subst ev
    exact ⟨[], .str _ _⟩
  have hal2 : AllAlike (zs.map PyData.str) := AllAlike.of fun a b => by rfl
  have hso : Sortable (zs.map PyData.str) := Sortable.others fun b => ⟨(fun z => nomatch z), (fun _ z => nomatch z)⟩
  refine wpAny_bind (wpAny_holding (wpAny_call_entry PyProof.Rows.slot_list_sort ⟨_, hoL, rfl⟩ PyProof.Rows.entry_list_sort
    (PySem.W.list_sort_vals (s := { s with heap := h'.push (seqObj "list" its.toArray 0) }) hoL
      (SortsAt.data (s := { s with heap := sortingHeap (h'.push (seqObj "list" its.toArray 0)) h'.objs.size its }) (PySem.W.each_map (R := fun v d => ∃ as, Reads (sortingHeap (h'.push (seqObj "list" its.toArray 0)) h'.objs.size its) v d as) PyData.str (eS _)) hal2 hso fun d hd => ?_) (by omega) ⟨_, rfl, ?_⟩) (PyProof.Rows.args_list_sort _)))
  · obtain ⟨z, _, rfl⟩ := List.mem_map.mp hd
    show X.A.units + 1 + 1 + 0 < cLine
    omega
  have eO := PySem.W.sortVals_data (h' := sortingHeap (h'.push (seqObj "list" its.toArray 0)) h'.objs.size its) (enc := PyData.str) false eR (eS _) hal2
  generalize sortVals (dataKind (sortingHeap (h'.push (seqObj "list" its.toArray 0)) h'.objs.size its) (zs.map PyData.str)) false its its = out at eO ⊢
  have hvo := vals_each eO
  obtain ⟨e', he'⟩ := PyProof.Rows.sortedHeap_at (vs := its) (out := out.toArray) hoL
  have hlen : ((zs.mergeSort (dataLe false PyData.str)).map V.str).length ≤ sizeLine := by
    rw [List.length_map, List.length_mergeSort]
    omega
  refine wpAny_pure ⟨_, rfl, .ref h'.objs.size, upd H h'.objs.size (.lst _), I1.laid (t' := s.toks) (fun b u ez => ?_) (Nat.le_refl _) (show ObjOk X.prog X.w _ _ _ (.lst ((zs.mergeSort (dataLe false PyData.str)).map V.str)) from ⟨hlen, out, e', hvo, he'⟩), rfl, q _ (I1.hok.fresh (Nat.le_refl _))⟩
  have hb : b < h'.objs.size := Heap.lt_size ez
  rw [PyProof.Rows.sortedHeap_old (Nat.ne_of_lt hb) (by rw [size_push'] <;> exact Nat.lt_succ_of_lt hb)]
  exact Heap.get?_push_of_some _ ez
theorem kv_sortedTS {p : Addr} {zs : List Str} {H : Hp} {Q : VK} (hc : X.calm = true) (hu : X.A.units + 64 < cLine) (hp : SqT X.K H p (zs.map V.str)) (h : ∀ q H2, Same H H2 → H q = none → H2 q = some (.lst ((zs.mergeSort (dataLe false PyData.str)).map V.str)) → Q (.ref q) H2) : CallV X (.builtin "sorted") [.ref p] H Q :=
  ⟨_, call_sortedTS hc hu, p, zs, rfl, hp, fun q hq => h q _ (same_new hq) hq upd_same⟩
end
section
variable {X : Cx} {a b c : Expr} {σ : L2.St} {H : Hp} {pos : Pos}
theorem wt_chain {op op' : CmpOp} {Q : Bool → Hp → Prop} (h : W X a σ H fun x H1 => W X b σ H1 fun y H2 => CmpV X op x y H2 fun z H3 => ∃ k, z = .bl k ∧ (if k = true then W X c σ H3 fun w' H4 => CmpV X op' y w' H4 fun v H5 => ∃ d, v = .bl d ∧ Q d H5 else ∃ d, V.bl false = .bl d ∧ Q d H3))
    (hm : lastMarks [op, op'] [b, c] = false := by with_unfolding_all rfl) : WT X (.Compare a [op, op'] [b, c] pos) σ H Q := WT.of (pt_chain cmpV_r cmpV_r W.pe W.pe W.pe hm) h
/-- x, y, z = a list of three -/
theorem ws_lst3 {D : Ends} {e : Expr} (i j l : Nat) {x y z : Str} {px py pz pt : Pos} {kt} (h : W X e σ H fun v H1 => ∃ a v1 v2 v3, v = .ref a ∧ SqL X.K H1 a [v1, v2, v3] ∧ D.nx (((σ.set i (some v1)).set j (some v2)).set l (some v3)) H1) (hi : X.N[i]? = some x) (hj : X.N[j]? = some y) (hk : X.N[l]? = some z) (hN : X.N.Nodup) (hc : X.calm = true := by rfl)
    (hx : Loc X.env.scope x := by first | exact Or.inl rfl | exact Or.inr rfl) (hy : Loc X.env.scope y := by first | exact Or.inl rfl | exact Or.inr rfl) (hz : Loc X.env.scope z := by first | exact Or.inl rfl | exact Or.inr rfl)
    (hfx : X.fn x = true ∨ X.env.scope.names.lookup x = some .local := by first | exact Or.inl rfl | exact Or.inr rfl) (hfy : X.fn y = true ∨ X.env.scope.names.lookup y = some .local := by first | exact Or.inl rfl | exact Or.inr rfl) (hfz : X.fn z = true ∨ X.env.scope.names.lookup z = some .local := by first | exact Or.inl rfl | exact Or.inr rfl)
    (hs : swapsWithSole [.Tuple [.Name x px, .Name y py, .Name z pz] kt pt] e pos.line X.env = pure false := by rfl) (hw : swappedStores [.Tuple [.Name x px, .Name y py, .Name z pz] kt pt] e X.env = pure none := by rfl)
    (h1 : (assignEach [.Tuple [.Name x px, .Name y py, .Name z pz] kt pt] X.env).map (·.2) = [assign (.Tuple [.Name x px, .Name y py, .Name z pz] kt pt) X.env] := by rfl)
    (h2 : (assignEach (Expr.Name x px :: [.Name y py, .Name z pz]) X.env).map (·.2) = assign (.Name x px) X.env :: (assignEach [.Name y py, .Name z pz] X.env).map (·.2) := by rfl)
    (h3 : (assignEach (Expr.Name y py :: [.Name z pz]) X.env).map (·.2) = assign (.Name y py) X.env :: (assignEach [.Name z pz] X.env).map (·.2) := by rfl)
    (h4 : (assignEach (Expr.Name z pz :: []) X.env).map (·.2) = assign (.Name z pz) X.env :: (assignEach [] X.env).map (·.2) := by rfl)
    (h5 : (assignEach [.Name x px, .Name y py, .Name z pz] X.env).length = 3 := by rfl) (h6 : (assignEach [.Name x px, .Name y py, .Name z pz] X.env).findIdx? (·.1) = none := by rfl) :
    WS X (.Assign [.Tuple [.Name x px, .Name y py, .Name z pz] kt pt] e pos) D σ H := by
  refine WS.of (ps_asg W.pe (pg_lst (n := 3) hc (pgs_cons (pg_name hN hi hx hfx) (pgs_cons (pg_name hN hj hy hfy) (pgs_cons (pg_name hN hk hz hfz) pgs_nil h4) h3) h2) h5 h6) hs hw h1) ?_
  show W X e σ H _
  refine W.mono h fun v H1 ⟨a, v1, v2, v3, ev, ha, q⟩ => ⟨a, [v1, v2, v3], ev, ha, rfl, v1, [v2, v3], rfl, v2, [v3], rfl, v3, [], rfl, rfl, q⟩
theorem WS.nxt {D : Ends} {st : Stmt} {I : L2.St → Hp → Prop} (h : WS X st { D with nx := I } σ H) (k : ∀ σ' H', I σ' H' → D.nx σ' H') : WS X st D σ H := ⟨fun pins s inv => thn (h.run pins s inv) fun fl s1 q => by
  cases fl with
  | next =>
    obtain ⟨σ', H', J, q⟩ := q
    exact ⟨σ', H', J, k _ _ q⟩
  | brk => exact q
  | cont => exact q
  | ret u => exact q⟩
theorem bv_catW {Q : VK} {p q : Addr} {xs ys : List V} (h1 : SqT X.K H p xs) (h2 : H q = some (.tup ys)) (hn : ys ≠ []) (hl : xs.length + ys.length ≤ sizeLine) (h : ∀ r H2, Same H H2 → H2 r = some (.tup (xs ++ ys)) → Q (.ref r) H2) : BinV X .Add (.ref p) (.ref q) H Q :=
  ⟨_, op_catA, p, q, xs, ys, rfl, rfl, h1, SqT.of h2, hl, fun e => h q H (Same.refl _) (by rw [e]; exact h2), fun _ e => absurd e hn, fun _ _ r hr => h r _ (same_new hr) upd_same⟩
/-- for, any target -/
theorem ws_forG {D : Ends} {tg iter : Expr} {body : List Stmt} (g : TG) (hg : PG X tg g) (h : WI X tg iter σ H fun J H1 => ∃ n G Y, Walk J n G Y ∧ ∃ I : Nat → L2.St → Hp → Prop, I 0 σ H1 ∧ (∀ i σ H, i ≤ n → I i σ H → G H) ∧
      (∀ j v σ H H', j < n → I j σ H → Y j H v H' → g v σ H' fun σ2 H2 => WB X body { D with nx := I (j + 1), ct := I (j + 1), bk := D.nx } σ2 H2) ∧ ∀ σ H, I n σ H → D.nx σ H)
    (hp : PassesOwn (model X.prog X.w) X.A X.env X.xe) (hc : X.calm = true := by rfl) (hs : ∀ x, foldedSetIterable iter X.env x = pure x := by intro _; rfl) : WS X (.For tg iter body [] pos) D σ H := by
  refine WS.of (ps_for hp hc WI.pi hg WB.pss hs) ?_
  refine ⟨fun pins s I => thn (h.run pins s I) fun v s1 z => thn z fun it s2 q => ?_⟩
  obtain ⟨it', fp, tn, J, H1, e, I2, T, t0, f0, n, G, Y, wk, Iv, i0, hG, hst, hd⟩ := q
  exact ⟨it', fp, tn, J, H1, e, I2, T, t0, f0, for_it wk Iv i0 hG (fun j v σ H H' hj hI y => hst j v σ H H' hj hI y) hd⟩
theorem relI_get {R : Nat → V → Prop} {n : Nat} {ys : List V} (h : RelI (fun _ => False) R n ys) : ys.length = n ∧ ∀ (i : Nat) y, ys[i]? = some y → R i y := by
  induction h with
  | nil => exact ⟨rfl, fun i y e => by simp at e⟩
  | drop f _ _ => exact f.elim
  | @keep n y ys r _ ih =>
    refine ⟨by simp [ih.1], fun i z e => ?_⟩
    by_cases hi : i < ys.length
    · rw [List.getElem?_append_left hi] at e
      exact ih.2 i z e
    · rw [List.getElem?_append_right (by omega)] at e
      have ei : i = ys.length := by
        have := (List.getElem?_eq_some_iff.mp e).1
        simp at this
        omega
      subst ei
      simp at e
      subst e
      rw [ih.1]
      exact r
/-- a statement, then what it leaves -/
theorem wb_cut {D : Ends} {st : Stmt} {rest : List Stmt} (I : L2.St → Hp → Prop) (h : WS X st { D with nx := I } σ H) (k : ∀ σ' H', I σ' H' → WB X rest D σ' H') : WB X (st :: rest) D σ H := wb_cons (WS.nxt h k)
/-- a statement with a thing locked -/
theorem ws_lock {D : Ends} {st : Stmt} {d : Addr} {u : HO} (hd : H d = some u) (mu : Mut (some u)) (h : ∀ od, WS X st ⟨fun σ' H' => H' d = some (.frz od u) ∧ D.nx σ' (upd H' d u), fun v H' => H' d = some (.frz od u) ∧ D.rt v (upd H' d u), fun σ' H' => H' d = some (.frz od u) ∧ D.bk σ' (upd H' d u), fun σ' H' => H' d = some (.frz od u) ∧ D.ct σ' (upd H' d u)⟩ σ (upd H d (.frz od u))) : WS X st D σ H :=
  WS.of (ps_lock WS.ps) ⟨d, u, hd, mu, h⟩
theorem tyV_tup {K : PySem.W.Frag} {a : Addr} {H : Hp} (h : ∃ o, K.lookup a = some o ∧ o.cls = .type "tuple" ∧ o.dict = none) : tyV K "tuple" (.ref a) H := .inr (.inl ⟨rfl, h⟩)
/-! ### walks by values -/
theorem wi_items {e : Expr} {elts : List Expr} {kk : Nat} {tpos apos cpos : Pos} {R : It → Hp → Prop} (h : W X e σ H fun x H1 => ∃ d o kvs, x = .ref d ∧ H1 d = some (.frz o (.dK kvs)) ∧ R (Iti d o kvs) H1)
    (hbase : attributeBase e "items" X.env (eval e X.env) = eval e X.env := by rfl) (hline : (apos.endLine == cpos.line) = true := by rfl) : WI X (.Tuple elts kk tpos) (.Call (.Attribute e "items" apos) [] [] cpos) σ H R :=
  WI.of (pi_items W.pe hbase hline) h
theorem wi_keys {e tg : Expr} {R : It → Hp → Prop} (h : W X e σ H fun x H1 => ∃ d o kvs, x = .ref d ∧ H1 d = some (.frz o (.dK kvs)) ∧ R (Itk d o kvs) H1) : WI X tg e σ H R :=
  WI.of (pi_keys W.pe) (W.mono h fun x H1 ⟨d, o, kvs, e, hd, q⟩ => ⟨d, o, e, .inl ⟨kvs, hd, q⟩⟩)
theorem wi_enumT {e : Expr} {p : Pos} {elts : List Expr} {kk : Nat} {tpos : Pos} {R : It → Hp → Prop} (hm : X.mg "enumerate" = none) (h : WA X [e] σ H fun vs H1 => ∃ a xs, vs = [.ref a] ∧ SqT X.K H1 a xs ∧ R (IteT X.K a) H1) (hg : Gl X "enumerate" := by rfl)
    (hs : starEach [e] X.env = [(false, eval e X.env)] := by rfl) : WI X (.Tuple elts kk tpos) (.Call (.Name "enumerate" p) [e] [] pos) σ H R := WI.of (pi_enumT hg hm WA.pa hs) h
theorem wi_zip {e e2 : Expr} {p : Pos} {elts : List Expr} {kk : Nat} {tpos : Pos} {R : It → Hp → Prop} (hm : X.mg "zip" = none) (h : WA X [e, e2] σ H fun vs H1 => ∃ a b xs ys, vs = [.ref a, .ref b] ∧ SqL X.K H1 a xs ∧ SqL X.K H1 b ys ∧ R (Itz X.K a b) H1) (hg : Gl X "zip" := by rfl)
    (hs : starEach [e, e2] X.env = (false, eval e X.env) :: starEach [e2] X.env := by rfl) (hpl : (backTo pos (starEach [e2] X.env)).any (·.1) = false := by rfl) : WI X (.Tuple elts kk tpos) (.Call (.Name "zip" p) [e, e2] [] pos) σ H R :=
  WI.of (RZ.pi_zipA hg hm WA.pa hs hpl) (WA.mono h fun vs H1 ⟨a, b, xs, ys, e, h1, h2, q⟩ => ⟨a, b, xs, ys, e, .inl ⟨h1, h2, q⟩⟩)
end
/-! ### the order of texts -/
theorem sleS {a b : Str} : strLe a b = true ↔ ¬ b.cps.toList < a.cps.toList := by
  unfold strLe
  simp
theorem str_ext {a b : Str} (h : a.cps.toList = b.cps.toList) : a = b := by
  cases a
  cases b
  simp at h
  simp [h]
theorem sle_anti {a b : Str} (h : strLe a b = true) (k : strLe b a = true) : a = b := by
  have h := sleS.mp h
  have k := sleS.mp k
  exact str_ext (List.le_antisymm (List.not_lt.mp h) (List.not_lt.mp k))
theorem sle_trans {a b c : Str} (h : strLe a b = true) (k : strLe b c = true) : strLe a c = true := by
  have h := sleS.mp h
  have k := sleS.mp k
  exact sleS.mpr (List.not_lt.mpr (List.le_trans (List.not_lt.mp h) (List.not_lt.mp k)))
theorem ltCps_eq : ∀ a b : List Nat, PySem.Spec.ltCps a b = decide (a < b)
  | [], [] => by simp [PySem.Spec.ltCps]
  | _ :: _, [] => by simp [PySem.Spec.ltCps]
  | [], _ :: _ => by simp [PySem.Spec.ltCps]
  | x :: a, y :: b => by
    rw [PySem.Spec.ltCps, ltCps_eq a b, Bool.eq_iff_iff]
    simp [List.cons_lt_cons_iff]
theorem sortedS_pw : ∀ {zs : List Str}, sortedS zs = true → zs.Pairwise fun a b => strLe a b = true := by
  have key : ∀ (zs : List Str) (x : Str), PyProof.Rows.risingS x zs = true → (x :: zs).Pairwise fun a b => strLe a b = true := by
    intro zs
    induction zs with
    | nil => intro x _; exact List.pairwise_singleton _ _
    | cons y zs ih =>
      intro x h
      obtain ⟨h1, h2⟩ := Bool.and_eq_true_iff.mp (show (!PySem.Spec.ltCps y.cps.toList x.cps.toList && PyProof.Rows.risingS y zs) = true from h)
      have p := ih y h2
      rw [ltCps_eq] at h1
      refine List.pairwise_cons.mpr ⟨fun z hz => ?_, p⟩
      rcases List.mem_cons.mp hz with rfl | hz
      · exact h1
      · exact sle_trans h1 ((List.pairwise_cons.mp p).1 z hz)
  intro zs h
  cases zs with
  | nil => exact .nil
  | cons x zs => exact key zs x h
theorem perm_pw_eq {xs ys : List Str} (p : xs.Perm ys) (h : xs.Pairwise fun a b => strLe a b = true) (k : ys.Pairwise fun a b => strLe a b = true) : xs = ys := by
  induction xs generalizing ys with
  | nil => exact p.nil_eq
  | cons x xs ih =>
    cases ys with
    | nil => exact absurd p.symm.nil_eq (by simp)
    | cons y ys =>
      have h' := List.pairwise_cons.mp h
      have k' := List.pairwise_cons.mp k
      have e : x = y := by
        have h1 : x ∈ y :: ys := p.mem_iff.mp List.mem_cons_self
        have h2 : y ∈ x :: xs := p.mem_iff.mpr List.mem_cons_self
        rcases List.mem_cons.mp h1 with e | h1
        · exact e
        rcases List.mem_cons.mp h2 with e | h2
        · exact e.symm
        exact sle_anti (h'.1 y h2) (k'.1 x h1)
      subst e
      rw [ih (p.cons_inv) h'.2 k'.2]
theorem sle_refl (a : Str) : strLe a a = true := sleS.mpr (List.lt_irrefl _)
theorem dataLe_strs : dataLe false PyData.str = strLe := by
  have e := PySem.W.dataLe_str (β := Str) (fun z => z)
  funext a b
  have e2 := congrFun (congrFun e a) b
  show dataLe false (fun b => PyData.str b) a b = _
  rw [e2]
  unfold strLe
  rw [Bool.eq_iff_iff]
  simp [List.not_lt]
theorem sle_total (a b : Str) : (strLe a b || strLe b a) = true := by
  rcases Classical.em (strLe a b = true) with h | h
  · rw [h, Bool.true_or]
  · have e : strLe b a = true := by
      refine sleS.mpr fun c => ?_
      refine h (sleS.mpr fun d => ?_)
      exact List.lt_asymm c d
    rw [e, Bool.or_true]
theorem sortStr_pw (zs : List Str) : (zs.mergeSort (dataLe false PyData.str)).Pairwise fun a b => strLe a b = true := by
  rw [dataLe_strs]
  exact List.pairwise_mergeSort (le := strLe) (fun a b c => sle_trans) sle_total zs
end Ax
end
section
set_option maxHeartbeats 4000000
/-! calls without arguments; texts put together; xs == [] -/
namespace Ax
open PySem PySem.Spec PyProof.Rows L2
section
variable {X : Cx} {σ : L2.St} {H : Hp} {Q : VK} {pos : Pos}
theorem w_call0 {x : Str} {k : Nat} {sp : Sp} {p : Pos} {E : XK} (C : Callee X.prog X.w X.K X.mg X.base x k [] sp) (hr : Room k X.A) (hx : Passes (L2.CX X.prog X.w) X E) (h : sp [] H Q E) (hg : Gl X x := by rfl)
    (hdb : (x == ("__debug__" : Str)) = false := by decide) : W X (.Call (.Name x p) [] [] pos) σ H Q := by
  obtain ⟨f, fd, F, B, hm, hk⟩ := C.ex
  exact W.of (pe_call0 F hr hg hm hk B .nil hx hdb) h
theorem bv_catS {i j : Str} (hl : i.length + j.length ≤ sizeLine) (h : Q (.str (i ++ j)) H) : BinV X .Add (.str i) (.str j) H Q := ⟨_, op_add_str, i, j, rfl, rfl, hl, h⟩
theorem cv_eq_nil {p q : Addr} {xs : List V} (hu : X.A.units < cLine) (hp : SqL X.K H p xs) (hq : SqL X.K H q []) (h : Q (.bl xs.isEmpty) H) : CmpV X .Eq (.ref p) (.ref q) H Q := by
  refine ⟨fun x y H Q => x = .ref p ∧ y = .ref q ∧ SqL X.K H p xs ∧ SqL X.K H q [] ∧ Q (.bl xs.isEmpty) H, ?_, rfl, rfl, hp, hq, h⟩
  rintro pins s σ H x y v u Q I rx ry ⟨rfl, rfl, h1, h2, q⟩
  cases rx
  cases ry
  obtain ⟨its, r, pl, _⟩ := I.list h1
  obtain ⟨its2, r2, pl2, _⟩ := I.list h2
  cases r2
  have hl := r.length
  cases xs with
  | nil =>
    cases r
    exact SeqAt.RcAt.lists (e := fun _ => true) pl.isList pl2.isList rfl hu (fun j h1 _ => absurd h1 (by simp)) _ _ _ _ ⟨.bl _, H, I, rfl, q⟩
  | cons y ys =>
    cases r with
    | cons r1 rt => exact SeqAt.RcAt.lists_lengths pl.isList pl2.isList (by simp) hu _ _ _ _ ⟨.bl _, H, I, rfl, q⟩
end
end Ax
namespace Ax
open PySem PySem.Spec PyProof.Rows L2
section
variable {X : Cx} {σ : L2.St} {H : Hp} {Q : VK}
theorem call_repr_bool : CallR X (.builtin "repr") (fun xs H Q => ∃ b, xs = [.bl b] ∧ Q (.str (if b then "True" else "False")) H) := by
  intro pins s σ H xs us Q I r h
  obtain ⟨b, rfl, q⟩ := h
  obtain ⟨u, rfl, hu⟩ := vals1 r
  cases (show u = Value.bool b from hu)
  exact PySem.P.repr_of_bool ⟨.str _, H, I.tok _, ⟨_, rfl⟩, q⟩
theorem kv_reprB {b : Bool} (h : Q (.str (if b then "True" else "False")) H) : CallV X (.builtin "repr") [.bl b] H Q := ⟨_, call_repr_bool, b, rfl, h⟩
end
end Ax
namespace Ax
open PySem PySem.Spec PyProof.Rows L2
/-- data, an empty dict, or an own object -/
inductive AnyG (K : PySem.W.Frag) (H : Hp) : V → Option PyData → Prop
  | reg {v : V} {o : Option PyData} (h : AnyR K H v o) : AnyG K H v o
  | own {a C dx : Addr} {fs : List (Str × V)} (h : H a = some (.ins C dx fs)) (kc : KC K C) (n : ∀ T ∈ ["str", "int", "bool", "tuple", "list"], PySem.W.kitOne K (.ref C) (.type T) = some false) : AnyG K H (.ref a) none
theorem AnyG.same {K : PySem.W.Frag} {H H' : Hp} {v : V} {o : Option PyData} (a : AnyG K H v o) (s : Same H H') : AnyG K H' v o := by
  cases a with
  | reg h =>
    cases h with
    | dat h => exact .reg (.dat (dp_same s h))
    | dct h => exact .reg (.dct (s _ _ h))
  | own h kc n => exact .own (s _ _ h) kc n
theorem AnyG.any {K : PySem.W.Frag} {H : Hp} {v : V} {o : Option PyData} (a : AnyG K H v o) (ok : o.all okD = true) : AnyV K H v o := by
  cases a with
  | reg h => exact (h.anyX ok).any
  | own h kc n => exact .oth (kc.ty h) n
section
variable {X : Cx} {e : Expr} {es : List Expr} {σ : L2.St} {H H0 : Hp} {Q : VK} {pos : Pos} {d : PyData}
structure LitY (X : Cx) (es : List Expr) (σ : L2.St) (H0 : Hp) (os : List (Option PyData)) : Prop where
  len : os.length = es.length
  run : ∀ H Q, Same H0 H → (∀ vs H', Same H H' → All2 (AnyG X.K H') vs os → Q vs H') → WA X es σ H Q
variable {os : List (Option PyData)}
theorem lity_nil : LitY X [] σ H0 [] := ⟨rfl, fun H Q _ h => wa_nil (h _ H (Same.refl _) .nil)⟩
theorem lity_cons (h1 : Lit X e σ H0 d) (h2 : LitY X es σ H0 os) (hs : starEach (e :: es) X.env = (false, eval e X.env) :: starEach es X.env := by rfl) : LitY X (e :: es) σ H0 (some d :: os) :=
  ⟨by rw [List.length_cons, List.length_cons, h2.len], fun H Q s h => wa_cons (h1.run H _ s fun v H1 s1 hd => h2.run H1 _ (s.trans s1) fun vs H2 s2 hds => h _ H2 (s1.trans s2) (.cons (.reg (.dat (dp_same s2 hd))) hds)) hs⟩
theorem lity_dict (h2 : LitY X es σ H0 os) (hs : starEach (.Dict [] [] pos :: es) X.env = (false, eval (.Dict [] [] pos) X.env) :: starEach es X.env := by rfl) : LitY X (.Dict [] [] pos :: es) σ H0 (none :: os) :=
  ⟨by rw [List.length_cons, List.length_cons, h2.len], fun H Q s h => wa_cons (w_dict0 fun p H1 s1 n1 hp => h2.run H1 _ (s.trans s1) fun vs H2 s2 hds => h _ H2 (s1.trans s2) (.cons (.reg (.dct (s2 _ _ hp))) hds)) hs⟩
/-- a thing by its value -/
theorem lity_val {v : V} {o : Option PyData} (h1 : ∀ H Q, Same H0 H → Q v H → W X e σ H Q) (a : AnyG X.K H0 v o) (h2 : LitY X es σ H0 os) (hs : starEach (e :: es) X.env = (false, eval e X.env) :: starEach es X.env := by rfl) : LitY X (e :: es) σ H0 (o :: os) :=
  ⟨by rw [List.length_cons, List.length_cons, h2.len], fun H Q s h => wa_cons (h1 H _ s (h2.run H _ s fun vs H2 s2 hds => h _ H2 s2 (.cons (a.same (s.trans s2)) hds))) hs⟩
theorem w_listY (os : List (Option PyData)) (h : LitY X es σ H0 os) (s : Same H0 H) (q : ∀ p vs H2, Same H H2 → H p = none → H2 p = some (.lst vs) → All2 (AnyG X.K H2) vs os → Q (.ref p) H2) (hl : es.length ≤ 100 := by decide) : W X (.List es pos) σ H Q :=
  w_lst (h.run H _ s fun vs H1 s1 hd => ⟨by rw [hd.len, h.len]; exact Nat.le_trans hl (by decide), fun p H2 s2 n2 hp => q p vs H2 (s1.trans s2) (same_nul s1 n2) hp (hd.imp fun _ _ a => a.same s2)⟩)
theorem bv_catY {p q : Addr} {xs ys : List V} {as bs : List (Option PyData)} (h1 : H p = some (.lst xs)) (h2 : H q = some (.lst ys)) (a : All2 (AnyG X.K H) xs as) (b : All2 (AnyG X.K H) ys bs) (hl : as.length + bs.length ≤ 1000)
    (h : ∀ r H2, Same H H2 → H r = none → H2 r = some (.lst (xs ++ ys)) → All2 (AnyG X.K H2) (xs ++ ys) (as ++ bs) → Q (.ref r) H2) : BinV X .Add (.ref p) (.ref q) H Q :=
  bv_cat h1 h2 (by rw [a.len, b.len]; exact Nat.le_trans hl (by decide)) fun r H2 s n e => h r H2 s n e ((a.imp fun _ _ q => q.same s).app (b.imp fun _ _ q => q.same s))
theorem cv_notB {a b : Bool} (h : Q (.bl (!decide (a = b))) H) : CmpV X .IsNot (.bl a) (.bl b) H Q := ⟨_, op_notBl, a, b, rfl, rfl, h⟩
end
end Ax
namespace Ax
open PySem PySem.Spec PyProof.Rows L2
section
variable {X : Cx} {σ : L2.St} {H : Hp} {Q : VK} {pos : Pos} {k1 v1 k2 v2 : Expr}
/-- {k1: v1, k2: v2} -/
theorem w_dict2 (h : ∀ p H1, Same H H1 → H p = none → H1 p = some (.dK []) → W X k1 σ H1 fun a1 H2 => W X v1 σ H2 fun b1 H3 => W X k2 σ H3 fun a2 H4 => W X v2 σ H4 fun b2 H5 => H5 p = some (.dK []) ∧ ∃ x1 x2 : Key, a1 = kV x1 ∧ a2 = kV x2 ∧ Q (.ref p) (upd H5 p (.dK (putsL [(x1, b1), (x2, b2)])))) :
    W X (.Dict [some k1, some k2] [v1, v2] pos) σ H Q := by
  refine W.of (pe_disp (trs := [(W X k1, W X v1), (W X k2, W X v2)]) (pps_cons W.pe W.pe (pps_cons W.pe W.pe pps_nil)) rfl rfl (by simp) (by simp)) ?_
  intro p hp
  refine W.mono (h p _ (same_new hp) hp upd_same) fun a1 H2 h => ?_
  refine W.mono h fun b1 H3 h => ?_
  refine W.mono h fun a2 H4 h => ?_
  refine W.mono h fun b2 H5 ⟨h5, x1, x2, e1, e2, q⟩ => ?_
  exact ⟨h5, [(x1, b1), (x2, b2)], by rw [e1, e2] <;> rfl, (show 2 ≤ 15 by decide), q⟩
end
end Ax
end
section
set_option maxHeartbeats 4000000
namespace Ax
open PySem PySem.Spec PyProof.Rows L2
def top (i : Nat) : Stmt := PySem.Challenge.pw_askable_k06_languages.main.body.getD i (.Pass ⟨0, 0, 0, 0⟩)
abbrev s__wall : Stmt := top 0
abbrev n__wall : List Str := ["k"]
theorem sc__wall : FnScope n__wall ["k"] (defScope s__wall) := ⟨rfl, rfl, rfl, by decide +kernel, rfl, by decide +kernel, by decide +kernel⟩
abbrev s_is_integer : Stmt := top 13
abbrev n_is_integer : List Str := ["value"]
theorem sc_is_integer : FnScope n_is_integer ["value"] (defScope s_is_integer) := ⟨rfl, rfl, rfl, by decide +kernel, rfl, by decide +kernel, by decide +kernel⟩
abbrev s_is_between : Stmt := top 14
abbrev n_is_between : List Str := ["value", "least", "most"]
theorem sc_is_between : FnScope n_is_between ["value", "least", "most"] (defScope s_is_between) := ⟨rfl, rfl, rfl, by decide +kernel, rfl, by decide +kernel, by decide +kernel⟩
abbrev s_is_name : Stmt := top 15
abbrev n_is_name : List Str := ["value", "sign"]
theorem sc_is_name : FnScope n_is_name ["value"] (defScope s_is_name) := ⟨rfl, rfl, rfl, by decide +kernel, rfl, by decide +kernel, by decide +kernel⟩
abbrev s_is_row : Stmt := top 16
abbrev n_is_row : List Str := ["value", "name"]
theorem sc_is_row : FnScope n_is_row ["value"] (defScope s_is_row) := ⟨rfl, rfl, rfl, by decide +kernel, rfl, by decide +kernel, by decide +kernel⟩
abbrev s_are_values : Stmt := top 17
abbrev n_are_values : List Str := ["value", "name"]
theorem sc_are_values : FnScope n_are_values ["value"] (defScope s_are_values) := ⟨rfl, rfl, rfl, by decide +kernel, rfl, by decide +kernel, by decide +kernel⟩
abbrev s_require_columns : Stmt := top 18
abbrev n_require_columns : List Str := ["columns"]
theorem sc_require_columns : FnScope n_require_columns ["columns"] (defScope s_require_columns) := ⟨rfl, rfl, rfl, by decide +kernel, rfl, by decide +kernel, by decide +kernel⟩
abbrev s_table_in : Stmt := top 19
abbrev n_table_in : List Str := ["columns", "rows"]
theorem sc_table_in : FnScope n_table_in ["columns", "rows"] (defScope s_table_in) := ⟨rfl, rfl, rfl, by decide +kernel, rfl, by decide +kernel, by decide +kernel⟩
abbrev s_is_table_over : Stmt := top 26
abbrev n_is_table_over : List Str := ["value", "values", "name"]
theorem sc_is_table_over : FnScope n_is_table_over ["value", "values"] (defScope s_is_table_over) := ⟨rfl, rfl, rfl, by decide +kernel, rfl, by decide +kernel, by decide +kernel⟩
abbrev s_are_tables : Stmt := top 27
abbrev n_are_tables : List Str := ["value", "values", "name", "table"]
theorem sc_are_tables : FnScope n_are_tables ["value", "values"] (defScope s_are_tables) := ⟨rfl, rfl, rfl, by decide +kernel, rfl, by decide +kernel, by decide +kernel⟩
abbrev s_require_parts : Stmt := top 28
abbrev n_require_parts : List Str := ["values", "tables"]
theorem sc_require_parts : FnScope n_require_parts ["values", "tables"] (defScope s_require_parts) := ⟨rfl, rfl, rfl, by decide +kernel, rfl, by decide +kernel, by decide +kernel⟩
abbrev s_require_database : Stmt := top 29
abbrev n_require_database : List Str := ["database"]
theorem sc_require_database : FnScope n_require_database ["database"] (defScope s_require_database) := ⟨rfl, rfl, rfl, by decide +kernel, rfl, by decide +kernel, by decide +kernel⟩
abbrev s_is_language : Stmt := top 37
abbrev n_is_language : List Str := ["value"]
theorem sc_is_language : FnScope n_is_language ["value"] (defScope s_is_language) := ⟨rfl, rfl, rfl, by decide +kernel, rfl, by decide +kernel, by decide +kernel⟩
abbrev s_require_language : Stmt := top 38
abbrev n_require_language : List Str := ["language"]
theorem sc_require_language : FnScope n_require_language ["language"] (defScope s_require_language) := ⟨rfl, rfl, rfl, by decide +kernel, rfl, by decide +kernel, by decide +kernel⟩
abbrev s_ranks_of : Stmt := top 39
abbrev n_ranks_of : List Str := ["language", "depth", "number", "word"]
theorem sc_ranks_of : FnScope n_ranks_of ["language"] (defScope s_ranks_of) := ⟨rfl, rfl, rfl, by decide +kernel, rfl, by decide +kernel, by decide +kernel⟩
abbrev s_language_by : Stmt := top 40
abbrev n_language_by : List Str := ["ranks"]
theorem sc_language_by : FnScope n_language_by ["ranks"] (defScope s_language_by) := ⟨rfl, rfl, rfl, by decide +kernel, rfl, by decide +kernel, by decide +kernel⟩
abbrev s_is_within_in : Stmt := top 41
abbrev n_is_within_in : List Str := ["language", "other", "one", "two"]
theorem sc_is_within_in : FnScope n_is_within_in ["language", "other"] (defScope s_is_within_in) := ⟨rfl, rfl, rfl, by decide +kernel, rfl, by decide +kernel, by decide +kernel⟩
abbrev s_is_within : Stmt := top 42
abbrev n_is_within : List Str := ["language", "other"]
theorem sc_is_within : FnScope n_is_within ["language", "other"] (defScope s_is_within) := ⟨rfl, rfl, rfl, by decide +kernel, rfl, by decide +kernel, by decide +kernel⟩
abbrev s_joined : Stmt := top 43
abbrev n_joined : List Str := ["language", "other", "one", "two"]
theorem sc_joined : FnScope n_joined ["language", "other"] (defScope s_joined) := ⟨rfl, rfl, rfl, by decide +kernel, rfl, by decide +kernel, by decide +kernel⟩
abbrev s_signs_in : Stmt := top 44
abbrev n_signs_in : List Str := ["database", "language", "word", "found", "name"]
theorem sc_signs_in : FnScope n_signs_in ["database", "language"] (defScope s_signs_in) := ⟨rfl, rfl, rfl, by decide +kernel, rfl, by decide +kernel, by decide +kernel⟩
abbrev s_signs_of : Stmt := top 45
abbrev n_signs_of : List Str := ["database", "language"]
theorem sc_signs_of : FnScope n_signs_of ["database", "language"] (defScope s_signs_of) := ⟨rfl, rfl, rfl, by decide +kernel, rfl, by decide +kernel, by decide +kernel⟩
abbrev s__law_dice : Stmt := top 47
abbrev n__law_dice : List Str := ["script", "spot", "cell", "great", "blend"]
theorem sc__law_dice : FnScope n__law_dice ["script", "spot"] (defScope s__law_dice) := ⟨rfl, rfl, rfl, by decide +kernel, rfl, by decide +kernel, by decide +kernel⟩
abbrev s__law_roll : Stmt := top 48
abbrev n__law_roll : List Str := ["dice", "size", "found", "one", "two"]
theorem sc__law_roll : FnScope n__law_roll ["dice", "size"] (defScope s__law_roll) := ⟨rfl, rfl, rfl, by decide +kernel, rfl, by decide +kernel, by decide +kernel⟩
abbrev s__law_pick : Stmt := top 49
abbrev n__law_pick : List Str := ["dice", "items"]
theorem sc__law_pick : FnScope n__law_pick ["dice", "items"] (defScope s__law_pick) := ⟨rfl, rfl, rfl, by decide +kernel, rfl, by decide +kernel, by decide +kernel⟩
abbrev s__law_mixed : Stmt := top 50
abbrev n__law_mixed : List Str := ["dice", "items", "left", "found"]
theorem sc__law_mixed : FnScope n__law_mixed ["dice", "items"] (defScope s__law_mixed) := ⟨rfl, rfl, rfl, by decide +kernel, rfl, by decide +kernel, by decide +kernel⟩
abbrev s__law_some : Stmt := top 51
abbrev n__law_some : List Str := ["dice", "items", "few", "item"]
theorem sc__law_some : FnScope n__law_some ["dice", "items", "few"] (defScope s__law_some) := ⟨rfl, rfl, rfl, by decide +kernel, rfl, by decide +kernel, by decide +kernel⟩
abbrev s__law_tuples : Stmt := top 52
abbrev n__law_tuples : List Str := ["items", "columns", "found", "turn", "longer", "one", "item"]
theorem sc__law_tuples : FnScope n__law_tuples ["items", "columns"] (defScope s__law_tuples) := ⟨rfl, rfl, rfl, by decide +kernel, rfl, by decide +kernel, by decide +kernel⟩
abbrev s__law_shape : Stmt := top 53
abbrev n__law_shape : List Str := ["dice", "few", "names", "name"]
theorem sc__law_shape : FnScope n__law_shape ["dice", "few"] (defScope s__law_shape) := ⟨rfl, rfl, rfl, by decide +kernel, rfl, by decide +kernel, by decide +kernel⟩
abbrev s__law_database : Stmt := top 54
abbrev n__law_database : List Str := ["dice", "shape", "most", "pool", "values", "tables", "name", "columns", "few"]
theorem sc__law_database : FnScope n__law_database ["dice", "shape", "most"] (defScope s__law_database) := ⟨rfl, rfl, rfl, by decide +kernel, rfl, by decide +kernel, by decide +kernel⟩
abbrev s__law_made : Stmt := top 55
abbrev n__law_made : List Str := ["database", "tables", "name"]
theorem sc__law_made : FnScope n__law_made ["database"] (defScope s__law_made) := ⟨rfl, rfl, rfl, by decide +kernel, rfl, by decide +kernel, by decide +kernel⟩
abbrev s__law_signs : Stmt := top 56
abbrev n__law_signs : List Str := ["shape", "word", "found", "name", "columns"]
theorem sc__law_signs : FnScope n__law_signs ["shape", "word"] (defScope s__law_signs) := ⟨rfl, rfl, rfl, by decide +kernel, rfl, by decide +kernel, by decide +kernel⟩
abbrev s__law_languages : Stmt := top 57
abbrev n__law_languages : List Str := ["found", "depth", "number", "word"]
theorem sc__law_languages : FnScope n__law_languages [] (defScope s__law_languages) := ⟨rfl, rfl, rfl, by decide +kernel, rfl, by decide +kernel, by decide +kernel⟩
abbrev s__law_ranks : Stmt := top 58
abbrev n__law_ranks : List Str := ["language", "depth", "number", "word"]
theorem sc__law_ranks : FnScope n__law_ranks ["language"] (defScope s__law_ranks) := ⟨rfl, rfl, rfl, by decide +kernel, rfl, by decide +kernel, by decide +kernel⟩
abbrev s__law_is_below : Stmt := top 59
abbrev n__law_is_below : List Str := ["one", "other", "less", "more"]
theorem sc__law_is_below : FnScope n__law_is_below ["one", "other"] (defScope s__law_is_below) := ⟨rfl, rfl, rfl, by decide +kernel, rfl, by decide +kernel, by decide +kernel⟩
abbrev s__law_pairs_right : Stmt := top 60
abbrev n__law_pairs_right : List Str := ["words", "one", "other", "above", "least", "word", "more"]
theorem sc__law_pairs_right : FnScope n__law_pairs_right [] (defScope s__law_pairs_right) := ⟨rfl, rfl, rfl, by decide +kernel, rfl, by decide +kernel, by decide +kernel⟩
abbrev s__law_signs_right : Stmt := top 61
abbrev n__law_signs_right : List Str := ["dice", "shape", "base", "language", "odd", "value"]
theorem sc__law_signs_right : FnScope n__law_signs_right ["dice"] (defScope s__law_signs_right) := ⟨rfl, rfl, rfl, by decide +kernel, rfl, by decide +kernel, by decide +kernel⟩
abbrev s_law : Stmt := top 62
abbrev n_law : List Str := ["script", "words", "spot", "base", "told", "due", "word"]
theorem sc_law : FnScope n_law ["script"] (defScope s_law) := ⟨rfl, rfl, rfl, by decide +kernel, rfl, by decide +kernel, by decide +kernel⟩
def meth (s : Stmt) (j : Nat) : Stmt := match s with
  | .ClassDef _ _ _ b _ _ _ _ _ _ _ => b.getD j (.Pass ⟨0, 0, 0, 0⟩)
  | _ => .Pass ⟨0, 0, 0, 0⟩
abbrev s_Table___init__ : Stmt := meth (top 20) 0
abbrev n_Table___init__ : List Str := ["self", "columns", "rows", "row", "place"]
theorem sc_Table___init__ : FnScope n_Table___init__ ["self", "columns", "rows"] (defScope s_Table___init__) := ⟨rfl, rfl, rfl, by decide +kernel, rfl, by decide +kernel, by decide +kernel⟩
abbrev s_Table_of : Stmt := meth (top 20) 1
abbrev n_Table_of : List Str := ["cls", "columns", "rows"]
theorem sc_Table_of : FnScope n_Table_of ["cls", "columns", "rows"] (defScope s_Table_of) := ⟨rfl, rfl, rfl, by decide +kernel, rfl, by decide +kernel, by decide +kernel⟩
abbrev s_Table_domain : Stmt := meth (top 20) 4
abbrev n_Table_domain : List Str := ["self", "row", "name"]
theorem sc_Table_domain : FnScope n_Table_domain ["self"] (defScope s_Table_domain) := ⟨rfl, rfl, rfl, by decide +kernel, rfl, by decide +kernel, by decide +kernel⟩
abbrev s_Database___init__ : Stmt := meth (top 30) 0
abbrev n_Database___init__ : List Str := ["self", "values", "tables", "name"]
theorem sc_Database___init__ : FnScope n_Database___init__ ["self", "values", "tables"] (defScope s_Database___init__) := ⟨rfl, rfl, rfl, by decide +kernel, rfl, by decide +kernel, by decide +kernel⟩
abbrev s_Database_of : Stmt := meth (top 30) 1
abbrev n_Database_of : List Str := ["cls", "values", "tables"]
theorem sc_Database_of : FnScope n_Database_of ["cls", "values", "tables"] (defScope s_Database_of) := ⟨rfl, rfl, rfl, by decide +kernel, rfl, by decide +kernel, by decide +kernel⟩
abbrev s_MadeDatabase___init__ : Stmt := meth (top 31) 0
abbrev n_MadeDatabase___init__ : List Str := ["self", "values", "tables", "name"]
theorem sc_MadeDatabase___init__ : FnScope n_MadeDatabase___init__ ["self", "values", "tables"] (defScope s_MadeDatabase___init__) := ⟨rfl, rfl, rfl, by decide +kernel, rfl, by decide +kernel, by decide +kernel⟩
def exT (K : PySem.W.Frag) : Bool := He.tupB K "DEPTHS" [.str "flat", .str "deep"] && He.tupB K "NUMBERS" [.str "one", .str "many"] && He.tupB K "WORDS" [.str "plain", .str "unlike", .str "not"] && He.tupB K "LANGUAGES" [.str "flat one plain", .str "flat one unlike", .str "flat one not", .str "flat many plain", .str "flat many unlike", .str "flat many not", .str "deep one plain", .str "deep one unlike", .str "deep one not", .str "deep many plain", .str "deep many unlike", .str "deep many not"]
/-- what the top has written -/
structure Txt (K : PySem.W.Frag) (mg : Str → Option Value) : Prop where
  f__wall : TxtF K mg "_wall" s__wall
  f_is_integer : TxtF K mg "is_integer" s_is_integer
  f_is_between : TxtF K mg "is_between" s_is_between
  f_is_name : TxtF K mg "is_name" s_is_name
  f_is_row : TxtF K mg "is_row" s_is_row
  f_are_values : TxtF K mg "are_values" s_are_values
  f_require_columns : TxtF K mg "require_columns" s_require_columns
  f_table_in : TxtF K mg "table_in" s_table_in
  f_is_table_over : TxtF K mg "is_table_over" s_is_table_over
  f_are_tables : TxtF K mg "are_tables" s_are_tables
  f_require_parts : TxtF K mg "require_parts" s_require_parts
  f_require_database : TxtF K mg "require_database" s_require_database
  f_is_language : TxtF K mg "is_language" s_is_language
  f_require_language : TxtF K mg "require_language" s_require_language
  f_ranks_of : TxtF K mg "ranks_of" s_ranks_of
  f_language_by : TxtF K mg "language_by" s_language_by
  f_is_within_in : TxtF K mg "is_within_in" s_is_within_in
  f_is_within : TxtF K mg "is_within" s_is_within
  f_joined : TxtF K mg "joined" s_joined
  f_signs_in : TxtF K mg "signs_in" s_signs_in
  f_signs_of : TxtF K mg "signs_of" s_signs_of
  f__law_dice : TxtF K mg "_law_dice" s__law_dice
  f__law_roll : TxtF K mg "_law_roll" s__law_roll
  f__law_pick : TxtF K mg "_law_pick" s__law_pick
  f__law_mixed : TxtF K mg "_law_mixed" s__law_mixed
  f__law_some : TxtF K mg "_law_some" s__law_some
  f__law_tuples : TxtF K mg "_law_tuples" s__law_tuples
  f__law_shape : TxtF K mg "_law_shape" s__law_shape
  f__law_database : TxtF K mg "_law_database" s__law_database
  f__law_made : TxtF K mg "_law_made" s__law_made
  f__law_signs : TxtF K mg "_law_signs" s__law_signs
  f__law_languages : TxtF K mg "_law_languages" s__law_languages
  f__law_ranks : TxtF K mg "_law_ranks" s__law_ranks
  f__law_is_below : TxtF K mg "_law_is_below" s__law_is_below
  f__law_pairs_right : TxtF K mg "_law_pairs_right" s__law_pairs_right
  f__law_signs_right : TxtF K mg "_law_signs_right" s__law_signs_right
  f_law : TxtF K mg "law" s_law
  c_ALPHABET : ∃ u, mg "ALPHABET" = some u ∧ RelV (.str "abcdefghijklmnopqrstuvwxyz") u
  c_MAX_LETTERS : ∃ u, mg "MAX_LETTERS" = some u ∧ RelV (.int 8) u
  c_MAX_COLUMNS : ∃ u, mg "MAX_COLUMNS" = some u ∧ RelV (.int 3) u
  c_MOST_VALUES : ∃ u, mg "MOST_VALUES" = some u ∧ RelV (.int 6) u
  c_MAX_TABLES : ∃ u, mg "MAX_TABLES" = some u ∧ RelV (.int 4) u
  c_IN : ∃ u, mg "IN" = some u ∧ RelV (.str "in") u
  c_OUT : ∃ u, mg "OUT" = some u ∧ RelV (.str "out") u
  c_UNLIKE : ∃ u, mg "UNLIKE" = some u ∧ RelV (.str "unlike") u
  c_DEPTHS : mg "DEPTHS" = some (.ref (He.ga K "DEPTHS")) ∧ ∀ H, SqT K H (He.ga K "DEPTHS") [V.str "flat", V.str "deep"]
  c_NUMBERS : mg "NUMBERS" = some (.ref (He.ga K "NUMBERS")) ∧ ∀ H, SqT K H (He.ga K "NUMBERS") [V.str "one", V.str "many"]
  c_WORDS : mg "WORDS" = some (.ref (He.ga K "WORDS")) ∧ ∀ H, SqT K H (He.ga K "WORDS") [V.str "plain", V.str "unlike", V.str "not"]
  c_LANGUAGES : mg "LANGUAGES" = some (.ref (He.ga K "LANGUAGES")) ∧ ∀ H, SqT K H (He.ga K "LANGUAGES") [V.str "flat one plain", V.str "flat one unlike", V.str "flat one not", V.str "flat many plain", V.str "flat many unlike", V.str "flat many not", V.str "deep one plain", V.str "deep one unlike", V.str "deep one not", V.str "deep many plain", V.str "deep many unlike", V.str "deep many not"]
  g_AskError : mg "AskError" = some (.ref (He.ga K "AskError"))
  g_InvalidTable : mg "InvalidTable" = some (.ref (He.ga K "InvalidTable"))
  g_InvalidDatabase : mg "InvalidDatabase" = some (.ref (He.ga K "InvalidDatabase"))
  g_InvalidOperation : mg "InvalidOperation" = some (.ref (He.ga K "InvalidOperation"))
  g_InvalidNumber : mg "InvalidNumber" = some (.ref (He.ga K "InvalidNumber"))
  g_UnknownName : mg "UnknownName" = some (.ref (He.ga K "UnknownName"))
  g_Table : mg "Table" = some (.ref (He.ga K "Table"))
  g_Database : mg "Database" = some (.ref (He.ga K "Database"))
  g_MadeDatabase : mg "MadeDatabase" = some (.ref (He.ga K "MadeDatabase"))
  f_Table___init__ : ∃ fd, FunD K "__init__" "Table.__init__" (defArgs s_Table___init__) (defBody s_Table___init__) (defScope s_Table___init__) [] [] (He.ma K (He.ga K "Table") "__init__") fd
  m_Table___init__ : Meth K (He.ga K "Table") "__init__" (He.ma K (He.ga K "Table") "__init__")
  f_Table_of : ∃ fd, FunD K "of" "Table.of" (defArgs s_Table_of) (defBody s_Table_of) (defScope s_Table_of) [] [] (He5.wf K (He.ga K "Table") "classmethod" "of") fd
  f_Table_domain : ∃ fd, FunD K "domain" "Table.domain" (defArgs s_Table_domain) (defBody s_Table_domain) (defScope s_Table_domain) [] [] (He5.wf K (He.ga K "Table") "property" "domain") fd
  f_Database___init__ : ∃ fd, FunD K "__init__" "Database.__init__" (defArgs s_Database___init__) (defBody s_Database___init__) (defScope s_Database___init__) [] [] (He.ma K (He.ga K "Database") "__init__") fd
  m_Database___init__ : Meth K (He.ga K "Database") "__init__" (He.ma K (He.ga K "Database") "__init__")
  f_Database_of : ∃ fd, FunD K "of" "Database.of" (defArgs s_Database_of) (defBody s_Database_of) (defScope s_Database_of) [] [] (He5.wf K (He.ga K "Database") "classmethod" "of") fd
  f_MadeDatabase___init__ : ∃ fd, FunD K "__init__" "MadeDatabase.__init__" (defArgs s_MadeDatabase___init__) (defBody s_MadeDatabase___init__) (defScope s_MadeDatabase___init__) [] [] (He.ma K (He.ga K "MadeDatabase") "__init__") fd
  m_MadeDatabase___init__ : Meth K (He.ga K "MadeDatabase") "__init__" (He.ma K (He.ga K "MadeDatabase") "__init__")
  k_Table : Mk K (He.ga K "Table") (He.ma K (He.ga K "Table") "__init__")
  k_Database : Mk K (He.ga K "Database") (He.ma K (He.ga K "Database") "__init__")
  k_MadeDatabase : Mk K (He.ga K "MadeDatabase") (He.ma K (He.ga K "MadeDatabase") "__init__")
  a_Table_own_columns : NoAttr K (He.ga K "Table") "own_columns"
  a_Table_own_rows : NoAttr K (He.ga K "Table") "own_rows"
  a_Table_own_places : NoAttr K (He.ga K "Table") "own_places"
  a_Database_own_values : NoAttr K (He.ga K "Database") "own_values"
  a_Database_own_tables : NoAttr K (He.ga K "Database") "own_tables"
  a_MadeDatabase_own_values : NoAttr K (He.ga K "MadeDatabase") "own_values"
  a_MadeDatabase_own_tables : NoAttr K (He.ga K "MadeDatabase") "own_tables"
  kc_Table : KC K (He.ga K "Table")
  kc_Database : KC K (He.ga K "Database")
  kc_MadeDatabase : KC K (He.ga K "MadeDatabase")
  cr_Table : ClX.CRead K (He.ga K "Table") (.type "type")
  cr_Database : ClX.CRead K (He.ga K "Database") (.type "type")
  cm_Table_of : ClX.CMet K (He.ga K "Table") (.type "type") "of" (He.ma K (He.ga K "Table") "of") (He5.wf K (He.ga K "Table") "classmethod" "of")
  p_Table_domain : PropOf K (He.ga K "Table") "domain" (He.ma K (He.ga K "Table") "domain") (He5.wf K (He.ga K "Table") "property" "domain")
  cm_Database_of : ClX.CMet K (He.ga K "Database") (.type "type") "of" (He.ma K (He.ga K "Database") "of") (He5.wf K (He.ga K "Database") "classmethod" "of")
  i_Table_Table : PySem.W.kitOne K (.ref (He.ga K "Table")) (.ref (He.ga K "Table")) = some true
  i_MadeDatabase_Database : PySem.W.kitOne K (.ref (He.ga K "MadeDatabase")) (.ref (He.ga K "Database")) = some true
  i_Database_Database : PySem.W.kitOne K (.ref (He.ga K "Database")) (.ref (He.ga K "Database")) = some true
  i_MadeDatabase_str : PySem.W.kitOne K (.ref (He.ga K "MadeDatabase")) (.type "str") = some false
  i_MadeDatabase_int : PySem.W.kitOne K (.ref (He.ga K "MadeDatabase")) (.type "int") = some false
  i_MadeDatabase_bool : PySem.W.kitOne K (.ref (He.ga K "MadeDatabase")) (.type "bool") = some false
  i_MadeDatabase_tuple : PySem.W.kitOne K (.ref (He.ga K "MadeDatabase")) (.type "tuple") = some false
  i_MadeDatabase_list : PySem.W.kitOne K (.ref (He.ga K "MadeDatabase")) (.type "list") = some false
  d_DEPTHS : Exists fun o => K.lookup (He.ga K "DEPTHS") = some o ∧ o.cls = .type "tuple" ∧ o.dict = none
  d_NUMBERS : Exists fun o => K.lookup (He.ga K "NUMBERS") = some o ∧ o.cls = .type "tuple" ∧ o.dict = none
  d_WORDS : Exists fun o => K.lookup (He.ga K "WORDS") = some o ∧ o.cls = .type "tuple" ∧ o.dict = none
  z_IndexError : mg "IndexError" = none
  z_KeyError : mg "KeyError" = none
  z_ValueError : mg "ValueError" = none
  z_abs : mg "abs" = none
  z_all : mg "all" = none
  z_bool : mg "bool" = none
  z_classmethod : mg "classmethod" = none
  z_dict : mg "dict" = none
  z_enumerate : mg "enumerate" = none
  z_int : mg "int" = none
  z_isinstance : mg "isinstance" = none
  z_iter : mg "iter" = none
  z_len : mg "len" = none
  z_list : mg "list" = none
  z_max : mg "max" = none
  z_min : mg "min" = none
  z_property : mg "property" = none
  z_range : mg "range" = none
  z_repr : mg "repr" = none
  z_sorted : mg "sorted" = none
  z_str : mg "str" = none
  z_tuple : mg "tuple" = none
  z_zip : mg "zip" = none
  e_AskError : ErrC K mg "AskError" (He.ga K "AskError")
  e_InvalidTable : ErrC K mg "InvalidTable" (He.ga K "InvalidTable")
  e_InvalidDatabase : ErrC K mg "InvalidDatabase" (He.ga K "InvalidDatabase")
  e_InvalidOperation : ErrC K mg "InvalidOperation" (He.ga K "InvalidOperation")
end Ax
end
section
set_option maxHeartbeats 0
namespace Ax
open PySem PySem.Spec PyProof.Rows L2
def fnL : List He5.DefA := [⟨fun K => He.fAd K ("_wall", none), "_wall", "_wall", defArgs s__wall, defBody s__wall, defScope s__wall, [], []⟩, ⟨fun K => He.fAd K ("is_integer", none), "is_integer", "is_integer", defArgs s_is_integer, defBody s_is_integer, defScope s_is_integer, [], []⟩, ⟨fun K => He.fAd K ("is_between", none), "is_between", "is_between", defArgs s_is_between, defBody s_is_between, defScope s_is_between, [], []⟩, ⟨fun K => He.fAd K ("is_name", none), "is_name", "is_name", defArgs s_is_name, defBody s_is_name, defScope s_is_name, [], []⟩, ⟨fun K => He.fAd K ("is_row", none), "is_row", "is_row", defArgs s_is_row, defBody s_is_row, defScope s_is_row, [], []⟩, ⟨fun K => He.fAd K ("are_values", none), "are_values", "are_values", defArgs s_are_values, defBody s_are_values, defScope s_are_values, [], []⟩, ⟨fun K => He.fAd K ("require_columns", none), "require_columns", "require_columns", defArgs s_require_columns, defBody s_require_columns, defScope s_require_columns, [], []⟩, ⟨fun K => He.fAd K ("table_in", none), "table_in", "table_in", defArgs s_table_in, defBody s_table_in, defScope s_table_in, [], []⟩, ⟨fun K => He.fAd K ("is_table_over", none), "is_table_over", "is_table_over", defArgs s_is_table_over, defBody s_is_table_over, defScope s_is_table_over, [], []⟩, ⟨fun K => He.fAd K ("are_tables", none), "are_tables", "are_tables", defArgs s_are_tables, defBody s_are_tables, defScope s_are_tables, [], []⟩, ⟨fun K => He.fAd K ("require_parts", none), "require_parts", "require_parts", defArgs s_require_parts, defBody s_require_parts, defScope s_require_parts, [], []⟩, ⟨fun K => He.fAd K ("require_database", none), "require_database", "require_database", defArgs s_require_database, defBody s_require_database, defScope s_require_database, [], []⟩, ⟨fun K => He.fAd K ("is_language", none), "is_language", "is_language", defArgs s_is_language, defBody s_is_language, defScope s_is_language, [], []⟩, ⟨fun K => He.fAd K ("require_language", none), "require_language", "require_language", defArgs s_require_language, defBody s_require_language, defScope s_require_language, [], []⟩, ⟨fun K => He.fAd K ("ranks_of", none), "ranks_of", "ranks_of", defArgs s_ranks_of, defBody s_ranks_of, defScope s_ranks_of, [], []⟩, ⟨fun K => He.fAd K ("language_by", none), "language_by", "language_by", defArgs s_language_by, defBody s_language_by, defScope s_language_by, [], []⟩, ⟨fun K => He.fAd K ("is_within_in", none), "is_within_in", "is_within_in", defArgs s_is_within_in, defBody s_is_within_in, defScope s_is_within_in, [], []⟩, ⟨fun K => He.fAd K ("is_within", none), "is_within", "is_within", defArgs s_is_within, defBody s_is_within, defScope s_is_within, [], []⟩, ⟨fun K => He.fAd K ("joined", none), "joined", "joined", defArgs s_joined, defBody s_joined, defScope s_joined, [], []⟩, ⟨fun K => He.fAd K ("signs_in", none), "signs_in", "signs_in", defArgs s_signs_in, defBody s_signs_in, defScope s_signs_in, [], []⟩, ⟨fun K => He.fAd K ("signs_of", none), "signs_of", "signs_of", defArgs s_signs_of, defBody s_signs_of, defScope s_signs_of, [], []⟩, ⟨fun K => He.fAd K ("_law_dice", none), "_law_dice", "_law_dice", defArgs s__law_dice, defBody s__law_dice, defScope s__law_dice, [], []⟩, ⟨fun K => He.fAd K ("_law_roll", none), "_law_roll", "_law_roll", defArgs s__law_roll, defBody s__law_roll, defScope s__law_roll, [], []⟩, ⟨fun K => He.fAd K ("_law_pick", none), "_law_pick", "_law_pick", defArgs s__law_pick, defBody s__law_pick, defScope s__law_pick, [], []⟩, ⟨fun K => He.fAd K ("_law_mixed", none), "_law_mixed", "_law_mixed", defArgs s__law_mixed, defBody s__law_mixed, defScope s__law_mixed, [], []⟩, ⟨fun K => He.fAd K ("_law_some", none), "_law_some", "_law_some", defArgs s__law_some, defBody s__law_some, defScope s__law_some, [], []⟩, ⟨fun K => He.fAd K ("_law_tuples", none), "_law_tuples", "_law_tuples", defArgs s__law_tuples, defBody s__law_tuples, defScope s__law_tuples, [], []⟩, ⟨fun K => He.fAd K ("_law_shape", none), "_law_shape", "_law_shape", defArgs s__law_shape, defBody s__law_shape, defScope s__law_shape, [], []⟩, ⟨fun K => He.fAd K ("_law_database", none), "_law_database", "_law_database", defArgs s__law_database, defBody s__law_database, defScope s__law_database, [], []⟩, ⟨fun K => He.fAd K ("_law_made", none), "_law_made", "_law_made", defArgs s__law_made, defBody s__law_made, defScope s__law_made, [], []⟩, ⟨fun K => He.fAd K ("_law_signs", none), "_law_signs", "_law_signs", defArgs s__law_signs, defBody s__law_signs, defScope s__law_signs, [], []⟩, ⟨fun K => He.fAd K ("_law_languages", none), "_law_languages", "_law_languages", defArgs s__law_languages, defBody s__law_languages, defScope s__law_languages, [], []⟩, ⟨fun K => He.fAd K ("_law_ranks", none), "_law_ranks", "_law_ranks", defArgs s__law_ranks, defBody s__law_ranks, defScope s__law_ranks, [], []⟩, ⟨fun K => He.fAd K ("_law_is_below", none), "_law_is_below", "_law_is_below", defArgs s__law_is_below, defBody s__law_is_below, defScope s__law_is_below, [], []⟩, ⟨fun K => He.fAd K ("_law_pairs_right", none), "_law_pairs_right", "_law_pairs_right", defArgs s__law_pairs_right, defBody s__law_pairs_right, defScope s__law_pairs_right, [], []⟩, ⟨fun K => He.fAd K ("_law_signs_right", none), "_law_signs_right", "_law_signs_right", defArgs s__law_signs_right, defBody s__law_signs_right, defScope s__law_signs_right, [], []⟩, ⟨fun K => He.fAd K ("law", none), "law", "law", defArgs s_law, defBody s_law, defScope s_law, [], []⟩, ⟨fun K => He.ma K (He.ga K "Table") "__init__", "__init__", "Table.__init__", defArgs s_Table___init__, defBody s_Table___init__, defScope s_Table___init__, [], []⟩, ⟨fun K => He5.wf K (He.ga K "Table") "classmethod" "of", "of", "Table.of", defArgs s_Table_of, defBody s_Table_of, defScope s_Table_of, [], []⟩, ⟨fun K => He5.wf K (He.ga K "Table") "property" "domain", "domain", "Table.domain", defArgs s_Table_domain, defBody s_Table_domain, defScope s_Table_domain, [], []⟩, ⟨fun K => He.ma K (He.ga K "Database") "__init__", "__init__", "Database.__init__", defArgs s_Database___init__, defBody s_Database___init__, defScope s_Database___init__, [], []⟩, ⟨fun K => He5.wf K (He.ga K "Database") "classmethod" "of", "of", "Database.of", defArgs s_Database_of, defBody s_Database_of, defScope s_Database_of, [], []⟩, ⟨fun K => He.ma K (He.ga K "MadeDatabase") "__init__", "__init__", "MadeDatabase.__init__", defArgs s_MadeDatabase___init__, defBody s_MadeDatabase___init__, defScope s_MadeDatabase___init__, [], []⟩]
def faL : List He.Fa := [.glo "_wall", .glo "is_integer", .glo "is_between", .glo "is_name", .glo "is_row", .glo "are_values", .glo "require_columns", .glo "table_in", .glo "is_table_over", .glo "are_tables", .glo "require_parts", .glo "require_database", .glo "is_language", .glo "require_language", .glo "ranks_of", .glo "language_by", .glo "is_within_in", .glo "is_within", .glo "joined", .glo "signs_in", .glo "signs_of", .glo "_law_dice", .glo "_law_roll", .glo "_law_pick", .glo "_law_mixed", .glo "_law_some", .glo "_law_tuples", .glo "_law_shape", .glo "_law_database", .glo "_law_made", .glo "_law_signs", .glo "_law_languages", .glo "_law_ranks", .glo "_law_is_below", .glo "_law_pairs_right", .glo "_law_signs_right", .glo "law", .str "ALPHABET" "abcdefghijklmnopqrstuvwxyz", .int "MAX_LETTERS" 8, .int "MAX_COLUMNS" 3, .int "MOST_VALUES" 6, .int "MAX_TABLES" 4, .str "IN" "in", .str "OUT" "out", .str "UNLIKE" "unlike", .glo "DEPTHS", .glo "NUMBERS", .glo "WORDS", .glo "LANGUAGES", .glo "AskError", .glo "InvalidTable", .glo "InvalidDatabase", .glo "InvalidOperation", .glo "InvalidNumber", .glo "UnknownName", .glo "Table", .glo "Database", .glo "MadeDatabase", .meth "Table" "__init__", .meth "Database" "__init__", .meth "MadeDatabase" "__init__", .mkr "Table", .mkr "Database", .mkr "MadeDatabase", .noat "Table" "own_columns", .noat "Table" "own_rows", .noat "Table" "own_places", .noat "Database" "own_values", .noat "Database" "own_tables", .noat "MadeDatabase" "own_values", .noat "MadeDatabase" "own_tables", .free "IndexError", .free "KeyError", .free "ValueError", .free "abs", .free "all", .free "bool", .free "classmethod", .free "dict", .free "enumerate", .free "int", .free "isinstance", .free "iter", .free "len", .free "list", .free "max", .free "min", .free "property", .free "range", .free "repr", .free "sorted", .free "str", .free "tuple", .free "zip", .exc "AskError", .exc "InvalidTable", .exc "InvalidDatabase", .exc "InvalidOperation"]
def loose0 : List PySem.Str := (["_wall", "__name__", "AskError", "InvalidTable", "InvalidDatabase", "InvalidOperation", "InvalidNumber", "UnknownName", "ALPHABET", "MAX_LETTERS", "MAX_COLUMNS", "MOST_VALUES", "is_integer", "is_between", "is_name", "is_row", "are_values", "require_columns", "table_in", "Table", "MAX_TABLES", "IN", "OUT", "UNLIKE", "is_table_over", "are_tables", "require_parts", "require_database", "Database", "MadeDatabase", "DEPTHS", "NUMBERS", "WORDS", "LANGUAGES", "is_language", "require_language", "ranks_of", "language_by", "is_within_in", "is_within"] : List String).map Str.ofString
def loose1 : List PySem.Str := (["joined", "signs_in", "signs_of", "_law_dice", "_law_roll", "_law_pick", "_law_mixed", "_law_some", "_law_tuples", "_law_shape", "_law_database", "_law_made", "_law_signs", "_law_languages", "_law_ranks", "_law_is_below", "_law_pairs_right", "_law_signs_right"] : List String).map Str.ofString
def loose : List PySem.Str := loose0 ++ loose1
abbrev R : PySem.W.OpenRow := PySem.W.OpenLaw.row PySem.Challenge.rw_askable_k06_languages
def exV (K : PySem.W.Frag) : Bool := kcB K (He.ga K "Table") && (kcB K (He.ga K "Database") && (kcB K (He.ga K "MadeDatabase") && (crB K (He.ga K "Table") && (crB K (He.ga K "Database") && (cmB K (He.ga K "Table") "of" && (prB K (He.ga K "Table") "domain" && (cmB K (He.ga K "Database") "of" && (kitB2 K (.ref (He.ga K "Table")) (.ref (He.ga K "Table")) true && (kitB2 K (.ref (He.ga K "MadeDatabase")) (.ref (He.ga K "Database")) true && (kitB2 K (.ref (He.ga K "Database")) (.ref (He.ga K "Database")) true && (kitB2 K (.ref (He.ga K "MadeDatabase")) (.type "str") false && (kitB2 K (.ref (He.ga K "MadeDatabase")) (.type "int") false && (kitB2 K (.ref (He.ga K "MadeDatabase")) (.type "bool") false && (kitB2 K (.ref (He.ga K "MadeDatabase")) (.type "tuple") false && (kitB2 K (.ref (He.ga K "MadeDatabase")) (.type "list") false && (tdB K (He.ga K "DEPTHS") && (tdB K (He.ga K "NUMBERS") && (tdB K (He.ga K "WORDS") && (true)))))))))))))))))))
def exA (K : PySem.W.Frag) : Bool := exT K && exV K
abbrev hk : PySem.W.Hook := hookY 6 faL fnL exA
def ob (s : PySem.W.SharedT) : AlY := obsY 6 faL fnL exA (HandSHeadRun.getT s)
theorem ob_eq (s : PySem.W.SharedT) : ob s = hk.obs s.abs := obsY_eq (HandSHeadRun.getT_eq s)
theorem run (w : World) : HandSHeadRun.RunEq R (PySem.W.view R.prog [62]) hk ob 9000 loose w := by
  intro os
  kernel_rfl
theorem txt_of {K : PySem.W.Frag} {h : Heap} {mg : Str → Option Value} (X : K.In h) (G : h.Ns mainGlobals mg) (c : He5.SaysA faL fnL K) (ex : exT K = true) (ev : exV K = true) : Txt K mg where
  f__wall := txtF_of (c.def_ 0) (He.glo_ok X G (c.fact 0 (f := .glo "_wall") rfl))
  f_is_integer := txtF_of (c.def_ 1) (He.glo_ok X G (c.fact 1 (f := .glo "is_integer") rfl))
  f_is_between := txtF_of (c.def_ 2) (He.glo_ok X G (c.fact 2 (f := .glo "is_between") rfl))
  f_is_name := txtF_of (c.def_ 3) (He.glo_ok X G (c.fact 3 (f := .glo "is_name") rfl))
  f_is_row := txtF_of (c.def_ 4) (He.glo_ok X G (c.fact 4 (f := .glo "is_row") rfl))
  f_are_values := txtF_of (c.def_ 5) (He.glo_ok X G (c.fact 5 (f := .glo "are_values") rfl))
  f_require_columns := txtF_of (c.def_ 6) (He.glo_ok X G (c.fact 6 (f := .glo "require_columns") rfl))
  f_table_in := txtF_of (c.def_ 7) (He.glo_ok X G (c.fact 7 (f := .glo "table_in") rfl))
  f_is_table_over := txtF_of (c.def_ 8) (He.glo_ok X G (c.fact 8 (f := .glo "is_table_over") rfl))
  f_are_tables := txtF_of (c.def_ 9) (He.glo_ok X G (c.fact 9 (f := .glo "are_tables") rfl))
  f_require_parts := txtF_of (c.def_ 10) (He.glo_ok X G (c.fact 10 (f := .glo "require_parts") rfl))
  f_require_database := txtF_of (c.def_ 11) (He.glo_ok X G (c.fact 11 (f := .glo "require_database") rfl))
  f_is_language := txtF_of (c.def_ 12) (He.glo_ok X G (c.fact 12 (f := .glo "is_language") rfl))
  f_require_language := txtF_of (c.def_ 13) (He.glo_ok X G (c.fact 13 (f := .glo "require_language") rfl))
  f_ranks_of := txtF_of (c.def_ 14) (He.glo_ok X G (c.fact 14 (f := .glo "ranks_of") rfl))
  f_language_by := txtF_of (c.def_ 15) (He.glo_ok X G (c.fact 15 (f := .glo "language_by") rfl))
  f_is_within_in := txtF_of (c.def_ 16) (He.glo_ok X G (c.fact 16 (f := .glo "is_within_in") rfl))
  f_is_within := txtF_of (c.def_ 17) (He.glo_ok X G (c.fact 17 (f := .glo "is_within") rfl))
  f_joined := txtF_of (c.def_ 18) (He.glo_ok X G (c.fact 18 (f := .glo "joined") rfl))
  f_signs_in := txtF_of (c.def_ 19) (He.glo_ok X G (c.fact 19 (f := .glo "signs_in") rfl))
  f_signs_of := txtF_of (c.def_ 20) (He.glo_ok X G (c.fact 20 (f := .glo "signs_of") rfl))
  f__law_dice := txtF_of (c.def_ 21) (He.glo_ok X G (c.fact 21 (f := .glo "_law_dice") rfl))
  f__law_roll := txtF_of (c.def_ 22) (He.glo_ok X G (c.fact 22 (f := .glo "_law_roll") rfl))
  f__law_pick := txtF_of (c.def_ 23) (He.glo_ok X G (c.fact 23 (f := .glo "_law_pick") rfl))
  f__law_mixed := txtF_of (c.def_ 24) (He.glo_ok X G (c.fact 24 (f := .glo "_law_mixed") rfl))
  f__law_some := txtF_of (c.def_ 25) (He.glo_ok X G (c.fact 25 (f := .glo "_law_some") rfl))
  f__law_tuples := txtF_of (c.def_ 26) (He.glo_ok X G (c.fact 26 (f := .glo "_law_tuples") rfl))
  f__law_shape := txtF_of (c.def_ 27) (He.glo_ok X G (c.fact 27 (f := .glo "_law_shape") rfl))
  f__law_database := txtF_of (c.def_ 28) (He.glo_ok X G (c.fact 28 (f := .glo "_law_database") rfl))
  f__law_made := txtF_of (c.def_ 29) (He.glo_ok X G (c.fact 29 (f := .glo "_law_made") rfl))
  f__law_signs := txtF_of (c.def_ 30) (He.glo_ok X G (c.fact 30 (f := .glo "_law_signs") rfl))
  f__law_languages := txtF_of (c.def_ 31) (He.glo_ok X G (c.fact 31 (f := .glo "_law_languages") rfl))
  f__law_ranks := txtF_of (c.def_ 32) (He.glo_ok X G (c.fact 32 (f := .glo "_law_ranks") rfl))
  f__law_is_below := txtF_of (c.def_ 33) (He.glo_ok X G (c.fact 33 (f := .glo "_law_is_below") rfl))
  f__law_pairs_right := txtF_of (c.def_ 34) (He.glo_ok X G (c.fact 34 (f := .glo "_law_pairs_right") rfl))
  f__law_signs_right := txtF_of (c.def_ 35) (He.glo_ok X G (c.fact 35 (f := .glo "_law_signs_right") rfl))
  f_law := txtF_of (c.def_ 36) (He.glo_ok X G (c.fact 36 (f := .glo "law") rfl))
  c_ALPHABET := cS_of (He.str_ok X G (c.fact 37 (f := .str "ALPHABET" "abcdefghijklmnopqrstuvwxyz") rfl))
  c_MAX_LETTERS := cI_of (He.int_ok X G (c.fact 38 (f := .int "MAX_LETTERS" 8) rfl))
  c_MAX_COLUMNS := cI_of (He.int_ok X G (c.fact 39 (f := .int "MAX_COLUMNS" 3) rfl))
  c_MOST_VALUES := cI_of (He.int_ok X G (c.fact 40 (f := .int "MOST_VALUES" 6) rfl))
  c_MAX_TABLES := cI_of (He.int_ok X G (c.fact 41 (f := .int "MAX_TABLES" 4) rfl))
  c_IN := cS_of (He.str_ok X G (c.fact 42 (f := .str "IN" "in") rfl))
  c_OUT := cS_of (He.str_ok X G (c.fact 43 (f := .str "OUT" "out") rfl))
  c_UNLIKE := cS_of (He.str_ok X G (c.fact 44 (f := .str "UNLIKE" "unlike") rfl))
  c_DEPTHS := ⟨He.glo_ok X G (c.fact 45 (f := .glo "DEPTHS") rfl), fun H => He.tupB_ok (by unfold exT at ex; simp only [Bool.and_eq_true] at ex; obtain ⟨⟨⟨h0, h1⟩, h2⟩, h3⟩ := ex; exact h0) H⟩
  c_NUMBERS := ⟨He.glo_ok X G (c.fact 46 (f := .glo "NUMBERS") rfl), fun H => He.tupB_ok (by unfold exT at ex; simp only [Bool.and_eq_true] at ex; obtain ⟨⟨⟨h0, h1⟩, h2⟩, h3⟩ := ex; exact h1) H⟩
  c_WORDS := ⟨He.glo_ok X G (c.fact 47 (f := .glo "WORDS") rfl), fun H => He.tupB_ok (by unfold exT at ex; simp only [Bool.and_eq_true] at ex; obtain ⟨⟨⟨h0, h1⟩, h2⟩, h3⟩ := ex; exact h2) H⟩
  c_LANGUAGES := ⟨He.glo_ok X G (c.fact 48 (f := .glo "LANGUAGES") rfl), fun H => He.tupB_ok (by unfold exT at ex; simp only [Bool.and_eq_true] at ex; obtain ⟨⟨⟨h0, h1⟩, h2⟩, h3⟩ := ex; exact h3) H⟩
  g_AskError := He.glo_ok X G (c.fact 49 (f := .glo "AskError") rfl)
  g_InvalidTable := He.glo_ok X G (c.fact 50 (f := .glo "InvalidTable") rfl)
  g_InvalidDatabase := He.glo_ok X G (c.fact 51 (f := .glo "InvalidDatabase") rfl)
  g_InvalidOperation := He.glo_ok X G (c.fact 52 (f := .glo "InvalidOperation") rfl)
  g_InvalidNumber := He.glo_ok X G (c.fact 53 (f := .glo "InvalidNumber") rfl)
  g_UnknownName := He.glo_ok X G (c.fact 54 (f := .glo "UnknownName") rfl)
  g_Table := He.glo_ok X G (c.fact 55 (f := .glo "Table") rfl)
  g_Database := He.glo_ok X G (c.fact 56 (f := .glo "Database") rfl)
  g_MadeDatabase := He.glo_ok X G (c.fact 57 (f := .glo "MadeDatabase") rfl)
  f_Table___init__ := c.def_ 37
  m_Table___init__ := He.meth_ok (c.fact 58 (f := .meth "Table" "__init__") rfl)
  f_Table_of := c.def_ 38
  f_Table_domain := c.def_ 39
  f_Database___init__ := c.def_ 40
  m_Database___init__ := He.meth_ok (c.fact 59 (f := .meth "Database" "__init__") rfl)
  f_Database_of := c.def_ 41
  f_MadeDatabase___init__ := c.def_ 42
  m_MadeDatabase___init__ := He.meth_ok (c.fact 60 (f := .meth "MadeDatabase" "__init__") rfl)
  k_Table := He.mkr_ok (c.fact 61 (f := .mkr "Table") rfl)
  k_Database := He.mkr_ok (c.fact 62 (f := .mkr "Database") rfl)
  k_MadeDatabase := He.mkr_ok (c.fact 63 (f := .mkr "MadeDatabase") rfl)
  a_Table_own_columns := He.noat_ok (c.fact 64 (f := .noat "Table" "own_columns") rfl)
  a_Table_own_rows := He.noat_ok (c.fact 65 (f := .noat "Table" "own_rows") rfl)
  a_Table_own_places := He.noat_ok (c.fact 66 (f := .noat "Table" "own_places") rfl)
  a_Database_own_values := He.noat_ok (c.fact 67 (f := .noat "Database" "own_values") rfl)
  a_Database_own_tables := He.noat_ok (c.fact 68 (f := .noat "Database" "own_tables") rfl)
  a_MadeDatabase_own_values := He.noat_ok (c.fact 69 (f := .noat "MadeDatabase" "own_values") rfl)
  a_MadeDatabase_own_tables := He.noat_ok (c.fact 70 (f := .noat "MadeDatabase" "own_tables") rfl)
  kc_Table := kcB_ok (Bool.and_eq_true_iff.mp (ev)).1
  kc_Database := kcB_ok (Bool.and_eq_true_iff.mp ((Bool.and_eq_true_iff.mp (ev)).2)).1
  kc_MadeDatabase := kcB_ok (Bool.and_eq_true_iff.mp ((Bool.and_eq_true_iff.mp ((Bool.and_eq_true_iff.mp (ev)).2)).2)).1
  cr_Table := crB_ok (Bool.and_eq_true_iff.mp ((Bool.and_eq_true_iff.mp ((Bool.and_eq_true_iff.mp ((Bool.and_eq_true_iff.mp (ev)).2)).2)).2)).1
  cr_Database := crB_ok (Bool.and_eq_true_iff.mp ((Bool.and_eq_true_iff.mp ((Bool.and_eq_true_iff.mp ((Bool.and_eq_true_iff.mp ((Bool.and_eq_true_iff.mp (ev)).2)).2)).2)).2)).1
  cm_Table_of := cmB_ok (Bool.and_eq_true_iff.mp ((Bool.and_eq_true_iff.mp ((Bool.and_eq_true_iff.mp ((Bool.and_eq_true_iff.mp ((Bool.and_eq_true_iff.mp ((Bool.and_eq_true_iff.mp (ev)).2)).2)).2)).2)).2)).1
  p_Table_domain := prB_ok (Bool.and_eq_true_iff.mp ((Bool.and_eq_true_iff.mp ((Bool.and_eq_true_iff.mp ((Bool.and_eq_true_iff.mp ((Bool.and_eq_true_iff.mp ((Bool.and_eq_true_iff.mp ((Bool.and_eq_true_iff.mp (ev)).2)).2)).2)).2)).2)).2)).1
  cm_Database_of := cmB_ok (Bool.and_eq_true_iff.mp ((Bool.and_eq_true_iff.mp ((Bool.and_eq_true_iff.mp ((Bool.and_eq_true_iff.mp ((Bool.and_eq_true_iff.mp ((Bool.and_eq_true_iff.mp ((Bool.and_eq_true_iff.mp ((Bool.and_eq_true_iff.mp (ev)).2)).2)).2)).2)).2)).2)).2)).1
  i_Table_Table := kitB2_ok (Bool.and_eq_true_iff.mp ((Bool.and_eq_true_iff.mp ((Bool.and_eq_true_iff.mp ((Bool.and_eq_true_iff.mp ((Bool.and_eq_true_iff.mp ((Bool.and_eq_true_iff.mp ((Bool.and_eq_true_iff.mp ((Bool.and_eq_true_iff.mp ((Bool.and_eq_true_iff.mp (ev)).2)).2)).2)).2)).2)).2)).2)).2)).1
  i_MadeDatabase_Database := kitB2_ok (Bool.and_eq_true_iff.mp ((Bool.and_eq_true_iff.mp ((Bool.and_eq_true_iff.mp ((Bool.and_eq_true_iff.mp ((Bool.and_eq_true_iff.mp ((Bool.and_eq_true_iff.mp ((Bool.and_eq_true_iff.mp ((Bool.and_eq_true_iff.mp ((Bool.and_eq_true_iff.mp ((Bool.and_eq_true_iff.mp (ev)).2)).2)).2)).2)).2)).2)).2)).2)).2)).1
  i_Database_Database := kitB2_ok (Bool.and_eq_true_iff.mp ((Bool.and_eq_true_iff.mp ((Bool.and_eq_true_iff.mp ((Bool.and_eq_true_iff.mp ((Bool.and_eq_true_iff.mp ((Bool.and_eq_true_iff.mp ((Bool.and_eq_true_iff.mp ((Bool.and_eq_true_iff.mp ((Bool.and_eq_true_iff.mp ((Bool.and_eq_true_iff.mp ((Bool.and_eq_true_iff.mp (ev)).2)).2)).2)).2)).2)).2)).2)).2)).2)).2)).1
  i_MadeDatabase_str := kitB2_ok (Bool.and_eq_true_iff.mp ((Bool.and_eq_true_iff.mp ((Bool.and_eq_true_iff.mp ((Bool.and_eq_true_iff.mp ((Bool.and_eq_true_iff.mp ((Bool.and_eq_true_iff.mp ((Bool.and_eq_true_iff.mp ((Bool.and_eq_true_iff.mp ((Bool.and_eq_true_iff.mp ((Bool.and_eq_true_iff.mp ((Bool.and_eq_true_iff.mp ((Bool.and_eq_true_iff.mp (ev)).2)).2)).2)).2)).2)).2)).2)).2)).2)).2)).2)).1
  i_MadeDatabase_int := kitB2_ok (Bool.and_eq_true_iff.mp ((Bool.and_eq_true_iff.mp ((Bool.and_eq_true_iff.mp ((Bool.and_eq_true_iff.mp ((Bool.and_eq_true_iff.mp ((Bool.and_eq_true_iff.mp ((Bool.and_eq_true_iff.mp ((Bool.and_eq_true_iff.mp ((Bool.and_eq_true_iff.mp ((Bool.and_eq_true_iff.mp ((Bool.and_eq_true_iff.mp ((Bool.and_eq_true_iff.mp ((Bool.and_eq_true_iff.mp (ev)).2)).2)).2)).2)).2)).2)).2)).2)).2)).2)).2)).2)).1
  i_MadeDatabase_bool := kitB2_ok (Bool.and_eq_true_iff.mp ((Bool.and_eq_true_iff.mp ((Bool.and_eq_true_iff.mp ((Bool.and_eq_true_iff.mp ((Bool.and_eq_true_iff.mp ((Bool.and_eq_true_iff.mp ((Bool.and_eq_true_iff.mp ((Bool.and_eq_true_iff.mp ((Bool.and_eq_true_iff.mp ((Bool.and_eq_true_iff.mp ((Bool.and_eq_true_iff.mp ((Bool.and_eq_true_iff.mp ((Bool.and_eq_true_iff.mp ((Bool.and_eq_true_iff.mp (ev)).2)).2)).2)).2)).2)).2)).2)).2)).2)).2)).2)).2)).2)).1
  i_MadeDatabase_tuple := kitB2_ok (Bool.and_eq_true_iff.mp ((Bool.and_eq_true_iff.mp ((Bool.and_eq_true_iff.mp ((Bool.and_eq_true_iff.mp ((Bool.and_eq_true_iff.mp ((Bool.and_eq_true_iff.mp ((Bool.and_eq_true_iff.mp ((Bool.and_eq_true_iff.mp ((Bool.and_eq_true_iff.mp ((Bool.and_eq_true_iff.mp ((Bool.and_eq_true_iff.mp ((Bool.and_eq_true_iff.mp ((Bool.and_eq_true_iff.mp ((Bool.and_eq_true_iff.mp ((Bool.and_eq_true_iff.mp (ev)).2)).2)).2)).2)).2)).2)).2)).2)).2)).2)).2)).2)).2)).2)).1
  i_MadeDatabase_list := kitB2_ok (Bool.and_eq_true_iff.mp ((Bool.and_eq_true_iff.mp ((Bool.and_eq_true_iff.mp ((Bool.and_eq_true_iff.mp ((Bool.and_eq_true_iff.mp ((Bool.and_eq_true_iff.mp ((Bool.and_eq_true_iff.mp ((Bool.and_eq_true_iff.mp ((Bool.and_eq_true_iff.mp ((Bool.and_eq_true_iff.mp ((Bool.and_eq_true_iff.mp ((Bool.and_eq_true_iff.mp ((Bool.and_eq_true_iff.mp ((Bool.and_eq_true_iff.mp ((Bool.and_eq_true_iff.mp ((Bool.and_eq_true_iff.mp (ev)).2)).2)).2)).2)).2)).2)).2)).2)).2)).2)).2)).2)).2)).2)).2)).1
  d_DEPTHS := tdB_ok (Bool.and_eq_true_iff.mp ((Bool.and_eq_true_iff.mp ((Bool.and_eq_true_iff.mp ((Bool.and_eq_true_iff.mp ((Bool.and_eq_true_iff.mp ((Bool.and_eq_true_iff.mp ((Bool.and_eq_true_iff.mp ((Bool.and_eq_true_iff.mp ((Bool.and_eq_true_iff.mp ((Bool.and_eq_true_iff.mp ((Bool.and_eq_true_iff.mp ((Bool.and_eq_true_iff.mp ((Bool.and_eq_true_iff.mp ((Bool.and_eq_true_iff.mp ((Bool.and_eq_true_iff.mp ((Bool.and_eq_true_iff.mp ((Bool.and_eq_true_iff.mp (ev)).2)).2)).2)).2)).2)).2)).2)).2)).2)).2)).2)).2)).2)).2)).2)).2)).1
  d_NUMBERS := tdB_ok (Bool.and_eq_true_iff.mp ((Bool.and_eq_true_iff.mp ((Bool.and_eq_true_iff.mp ((Bool.and_eq_true_iff.mp ((Bool.and_eq_true_iff.mp ((Bool.and_eq_true_iff.mp ((Bool.and_eq_true_iff.mp ((Bool.and_eq_true_iff.mp ((Bool.and_eq_true_iff.mp ((Bool.and_eq_true_iff.mp ((Bool.and_eq_true_iff.mp ((Bool.and_eq_true_iff.mp ((Bool.and_eq_true_iff.mp ((Bool.and_eq_true_iff.mp ((Bool.and_eq_true_iff.mp ((Bool.and_eq_true_iff.mp ((Bool.and_eq_true_iff.mp ((Bool.and_eq_true_iff.mp (ev)).2)).2)).2)).2)).2)).2)).2)).2)).2)).2)).2)).2)).2)).2)).2)).2)).2)).1
  d_WORDS := tdB_ok (Bool.and_eq_true_iff.mp ((Bool.and_eq_true_iff.mp ((Bool.and_eq_true_iff.mp ((Bool.and_eq_true_iff.mp ((Bool.and_eq_true_iff.mp ((Bool.and_eq_true_iff.mp ((Bool.and_eq_true_iff.mp ((Bool.and_eq_true_iff.mp ((Bool.and_eq_true_iff.mp ((Bool.and_eq_true_iff.mp ((Bool.and_eq_true_iff.mp ((Bool.and_eq_true_iff.mp ((Bool.and_eq_true_iff.mp ((Bool.and_eq_true_iff.mp ((Bool.and_eq_true_iff.mp ((Bool.and_eq_true_iff.mp ((Bool.and_eq_true_iff.mp ((Bool.and_eq_true_iff.mp ((Bool.and_eq_true_iff.mp (ev)).2)).2)).2)).2)).2)).2)).2)).2)).2)).2)).2)).2)).2)).2)).2)).2)).2)).2)).1
  z_IndexError := He.free_ok X G (c.fact 71 (f := .free "IndexError") rfl)
  z_KeyError := He.free_ok X G (c.fact 72 (f := .free "KeyError") rfl)
  z_ValueError := He.free_ok X G (c.fact 73 (f := .free "ValueError") rfl)
  z_abs := He.free_ok X G (c.fact 74 (f := .free "abs") rfl)
  z_all := He.free_ok X G (c.fact 75 (f := .free "all") rfl)
  z_bool := He.free_ok X G (c.fact 76 (f := .free "bool") rfl)
  z_classmethod := He.free_ok X G (c.fact 77 (f := .free "classmethod") rfl)
  z_dict := He.free_ok X G (c.fact 78 (f := .free "dict") rfl)
  z_enumerate := He.free_ok X G (c.fact 79 (f := .free "enumerate") rfl)
  z_int := He.free_ok X G (c.fact 80 (f := .free "int") rfl)
  z_isinstance := He.free_ok X G (c.fact 81 (f := .free "isinstance") rfl)
  z_iter := He.free_ok X G (c.fact 82 (f := .free "iter") rfl)
  z_len := He.free_ok X G (c.fact 83 (f := .free "len") rfl)
  z_list := He.free_ok X G (c.fact 84 (f := .free "list") rfl)
  z_max := He.free_ok X G (c.fact 85 (f := .free "max") rfl)
  z_min := He.free_ok X G (c.fact 86 (f := .free "min") rfl)
  z_property := He.free_ok X G (c.fact 87 (f := .free "property") rfl)
  z_range := He.free_ok X G (c.fact 88 (f := .free "range") rfl)
  z_repr := He.free_ok X G (c.fact 89 (f := .free "repr") rfl)
  z_sorted := He.free_ok X G (c.fact 90 (f := .free "sorted") rfl)
  z_str := He.free_ok X G (c.fact 91 (f := .free "str") rfl)
  z_tuple := He.free_ok X G (c.fact 92 (f := .free "tuple") rfl)
  z_zip := He.free_ok X G (c.fact 93 (f := .free "zip") rfl)
  e_AskError := errC_of X G (c.fact 49 (f := .glo "AskError") rfl) (c.fact 94 (f := .exc "AskError") rfl)
  e_InvalidTable := errC_of X G (c.fact 50 (f := .glo "InvalidTable") rfl) (c.fact 95 (f := .exc "InvalidTable") rfl)
  e_InvalidDatabase := errC_of X G (c.fact 51 (f := .glo "InvalidDatabase") rfl) (c.fact 96 (f := .exc "InvalidDatabase") rfl)
  e_InvalidOperation := errC_of X G (c.fact 52 (f := .glo "InvalidOperation") rfl) (c.fact 97 (f := .exc "InvalidOperation") rfl)
end Ax
end
section
set_option maxHeartbeats 4000000
open PySem PySem.Spec PyProof.Rows L2 Ax
set_option hygiene false in
local macro_rules | `(tactic| tbr_iter "boot") => `(tactic| with_reducible first | exact Ax.b_len | exact Ax.b_all | exact Ax.b_any | exact Ax.b_sorted | exact Ax.b_isinstance | exact Ax.b_abs | exact Ax.b_max | exact Ax.b_min | exact Ax.b_sum | exact Ax.b_repr | exact Ax.b_iter | exact Ax.b_ord | exact Ax.b_chr | exact Ax.b_str | exact Ax.b_int | exact Ax.b_bool | exact Ax.b_tuple | exact Ax.b_list | exact Ax.b_dict | exact Ax.b_set | exact Ax.b_range | exact Ax.b_enumerate | exact Ax.b_zip)
set_option hygiene false in
local macro_rules | `(tactic| tbr_iter "vis") => `(tactic| first | exact Or.inl rfl | exact Or.inr (Or.inl rfl) | exact Or.inr (Or.inr rfl))
set_option hygiene false in
local macro_rules | `(tactic| tbr_iter "w") => `(tactic| first
  | refine wb_cons ?_
  | refine wb_nil ?_
  | refine ws_ret ?_
  | refine ws_if ?_
  | refine ws_sub ?_
  | refine wa_cons ?_
  | refine wa_nil ?_
  | refine w_int ?_
  | refine w_str ?_
  | refine w_bl ?_
  | refine w_non ?_
  | tbr_iter "var"
  | refine w_bin ?_
  | refine w_cmp ?_
  | refine w_chain ?_
  | refine w_and ?_
  | refine w_or ?_
  | refine w_one ?_
  | refine w_not ?_
  | refine w_ix ?_
  | refine w_ifExp ?_
  | refine w_tup ?_
  | refine w_lst ?_
  | refine wt_not ?_
  | refine wt_bool ?_
  | refine ww_and ?_
  | refine ww_and1 ?_
  | refine ww_or ?_
  | refine ww_or1 ?_
  | refine wt_cmp ?_
  | refine wt_val ?_
  | tbr_iter "call"
  | (refine w_glob (by tbr_iter "mg") ?_)
  | (refine w_callB (by tbr_iter "z") ?_)
  | (refine w_callTy (by tbr_iter "z") ?_)
  | (refine w_bltT (by tbr_iter "z") ?_))
set_option hygiene false in
local macro_rules | `(tactic| tbr_iter "blk") => `(tactic| first | exact blkOk_by (by dsimp only [cxOf, envOfC]; decide +kernel))
set_option hygiene false in
local macro_rules | `(tactic| tbr_iter "iff") => `(tactic| first
  | refine iteT ?_
  | refine iteF ?_
  | refine w_if2 (fun _ => ?_) (fun _ => ?_))
set_option hygiene false in
local macro_rules | `(tactic| tbr_iter "sc") => `(tactic| first | omega | decide)
set_option hygiene false in
local macro_rules | `(tactic| tbr_iter "at") => `(tactic| first | exact atI_0 | exact atI_1 | exact atI_2)
set_option hygiene false in
local macro_rules | `(tactic| tbr_iter "sql") => `(tactic| ((try dsimp only [L2.cxOf, L2.Cx.blk]); with_reducible first | assumption | exact SqL.of (by assumption)))
set_option hygiene false in
local macro_rules | `(tactic| tbr_iter "sqt") => `(tactic| ((try dsimp only [L2.cxOf, L2.Cx.blk]); with_reducible first | assumption | exact SqT.of (by assumption)))
set_option hygiene false in
local macro_rules | `(tactic| tbr_iter "v") => `(tactic| first
  | refine bv_add ?_
  | refine bv_sub ?_
  | ((with_reducible show BinV _ .Mult _ _ _ _); refine bv_mul (Or.inl ⟨by tbr_iter "sc", by tbr_iter "sc"⟩) ?_)
  | ((with_reducible show BinV _ .Mult _ _ _ _); refine bv_mul (Or.inr ⟨by tbr_iter "sc", by tbr_iter "sc"⟩) ?_)
  | ((with_reducible show BinV _ .Mod _ _ _ _); refine bv_mod (by tbr_iter "sc") ?_)
  | ((with_reducible show BinV _ .FloorDiv _ _ _ _); refine bv_fdiv ⟨by tbr_iter "sc", by tbr_iter "sc"⟩ ?_)
  | ((with_reducible show BinV _ .Pow _ _ _ _); refine bv_pow ⟨by decide, by decide +kernel⟩ ?_)
  | refine cv_lt ?_
  | refine cv_le ?_
  | refine cv_gt ?_
  | refine cv_ge ?_
  | ((with_reducible show CmpV _ .Eq _ _ _ _); refine cv_eq rfl ?_)
  | ((with_reducible show CmpV _ .NotEq _ _ _ _); refine cv_ne rfl ?_)
  | refine iv_list (by tbr_iter "sql") (by tbr_iter "at") ?_
  | refine iv_tup (by tbr_iter "sqt") (by tbr_iter "at") ?_
  | refine kv_len_seq (Or.inl (by tbr_iter "sql")) ?_
  | refine kv_len_seq (Or.inr (by tbr_iter "sqt")) ?_
  | refine kv_int ?_
  | refine kv_intB ?_
  | refine kv_abs ?_
  | refine kv_max2 rfl ?_
  | refine kv_min2 rfl ?_)
set_option hygiene false in
local macro_rules | `(tactic| tbr_iter "b") => `(tactic| first
  | refine ⟨_, rfl, iteT ?_⟩
  | refine ⟨_, rfl, iteF ?_⟩
  | refine iteT ?_
  | refine iteF ?_)
set_option hygiene false in
local macro_rules | `(tactic| tbr_iter "go") => `(tactic| repeat (first | tbr_iter "w" | tbr_iter "v" | tbr_iter "b"))
set_option hygiene false in
local macro_rules | `(tactic| tbr_iter "nof") => `(tactic| (intro d hd; cases d <;> first | rfl | exact absurd rfl (hd _)))
set_option hygiene false in
local macro_rules | `(tactic| tbr_iter "e1") => `(tactic| first | ((with_reducible show W _ _ _ _ _); tbr_iter "w") | ((with_reducible show WA _ _ _ _ _); tbr_iter "w") | ((with_reducible show WT _ _ _ _ _); tbr_iter "w") | ((with_reducible show WW _ _ _ _ _); tbr_iter "w") | tbr_iter "v")
set_option hygiene false in
local macro_rules | `(tactic| tbr_iter "ex") => `(tactic| repeat (tbr_iter "e1"))
set_option hygiene false in
local macro_rules | `(tactic| tbr_iter "z") => `(tactic| ((try dsimp only [L2.cxOf]); with_reducible first | exact T.z_IndexError | exact T.z_KeyError | exact T.z_ValueError | exact T.z_abs | exact T.z_all | exact T.z_bool | exact T.z_classmethod | exact T.z_dict | exact T.z_enumerate | exact T.z_int | exact T.z_isinstance | exact T.z_iter | exact T.z_len | exact T.z_list | exact T.z_max | exact T.z_min | exact T.z_property | exact T.z_range | exact T.z_repr | exact T.z_sorted | exact T.z_str | exact T.z_tuple | exact T.z_zip))
set_option hygiene false in
local macro_rules | `(tactic| tbr_iter "mg") => `(tactic| ((try dsimp only [L2.cxOf]); with_reducible first | exact T.c_ALPHABET | exact T.c_MAX_LETTERS | exact T.c_MAX_COLUMNS | exact T.c_MOST_VALUES | exact T.c_MAX_TABLES | exact T.c_IN | exact T.c_OUT | exact T.c_UNLIKE))
namespace Ax
section
variable {P : Program} {w : World} {K : PySem.W.Frag} {mg : Str → Option Value} {base : Heap}
set_option hygiene false in
local macro_rules | `(tactic| tbr_iter "var") => `(tactic| first | ((with_reducible show W _ (.Name "script" _) _ _ _); refine w_var 0 rfl (by tbr_iter "vis") rfl ?_) | ((with_reducible show W _ (.Name "spot" _) _ _ _); refine w_var 1 rfl (by tbr_iter "vis") rfl ?_) | ((with_reducible show W _ (.Name "cell" _) _ _ _); refine w_var 2 rfl (by tbr_iter "vis") rfl ?_) | ((with_reducible show W _ (.Name "great" _) _ _ _); refine w_var 3 rfl (by tbr_iter "vis") rfl ?_) | ((with_reducible show W _ (.Name "blend" _) _ _ _); refine w_var 4 rfl (by tbr_iter "vis") rfl ?_))
set_option hygiene false in
local macro_rules | `(tactic| tbr_iter "set") => `(tactic| first | ((with_reducible show WB _ (.Assign [.Name "script" _] _ _ :: _) _ _ _); refine wb_cons (ws_set 0 ?_ rfl nd)) | ((with_reducible show WB _ (.Assign [.Name "spot" _] _ _ :: _) _ _ _); refine wb_cons (ws_set 1 ?_ rfl nd)) | ((with_reducible show WB _ (.Assign [.Name "cell" _] _ _ :: _) _ _ _); refine wb_cons (ws_set 2 ?_ rfl nd)) | ((with_reducible show WB _ (.Assign [.Name "great" _] _ _ :: _) _ _ _); refine wb_cons (ws_set 3 ?_ rfl nd)) | ((with_reducible show WB _ (.Assign [.Name "blend" _] _ _ :: _) _ _ _); refine wb_cons (ws_set 4 ?_ rfl nd)))
theorem ok_law_dice (T : Txt K mg) : Callee P w K mg base "_law_dice" 2 ["script", "spot"] (spDice K) := by
  refine def_ok T.f__law_dice sc__law_dice (fun _ _ _ _ _ _ us hl => match us, hl with | [_, _], _ => rfl) (fun vs H Q E h => ?_) fun f cdv A outer s H vs Q E hr h => ?_
  · obtain ⟨a, ns, j, rfl, _⟩ := h; rfl
  obtain ⟨a, ns, j, rfl, hs, hl, hj, k⟩ := h
  have nd := sc__law_dice.nd
  refine wb_cons (ws_set 2 ?_ rfl nd)
  refine W.mono (Q := fun v H1 => Same H H1 ∧ ∃ c, v = .int c) ?_ ?_
  · refine w_ifExp (wt_cmp ?_)
    tbr_iter "var"
    refine w_callB T.z_len (wa_cons ?_)
    tbr_iter "var"
    refine wa_nil (kv_len_seq (.inl hs) (cv_lt ⟨_, rfl, w_if2 (fun c => ?_) (fun c => ?_)⟩))
    · refine w_ix ?_
      tbr_iter "var"
      tbr_iter "var"
      have lt : j < ns.length := by simpa using c
      refine iv_list hs (v := .int ns[j]) ?_ ⟨Same.refl _, _, rfl⟩
      exact atI_nat (by simp [lt])
    · refine w_bin (w_bin (w_int ?_))
      tbr_iter "var"
      exact bv_mul (.inl ⟨by decide, by decide⟩) (w_int (bv_add ⟨Same.refl _, _, rfl⟩))
  rintro v H1 ⟨s1, c, rfl⟩
  refine wb_cons (ws_set 3 (w_bin (w_callTy T.z_int (wa_cons (w_callB T.z_abs (wa_cons ?_))))) rfl nd)
  tbr_iter "var"
  refine wa_nil (kv_abs (wa_nil (kv_int (w_bin (w_bin (w_int (w_int (bv_pow ⟨by decide, by decide +kernel⟩ (w_int (bv_pow ⟨by decide, by decide +kernel⟩ (bv_mod (by decide +kernel) ?_)))))))))))
  have g0 : 0 ≤ (if c < 0 then -c else c) % ((10 : Int) ^ (57 : Int).toNat) ^ (11 : Int).toNat := Int.emod_nonneg _ (by decide +kernel)
  revert g0
  generalize (if c < 0 then -c else c) % ((10 : Int) ^ (57 : Int).toNat) ^ (11 : Int).toNat = g
  intro g0
  tbr_iter "set"
  tbr_iter "ex"
  refine wb_cons (ws_ret (w_dice ?_))
  tbr_iter "go"
  refine ⟨three_line, fun p H2 s2 n2 hp => ⟨p, _, _, _, 0, hp, ⟨?_, ?_, ?_, ?_, ?_⟩, k p _ ?_ (same_nul s1 n2) upd_same⟩⟩
  · split <;> omega
  · exact Int.emod_nonneg _ (by decide)
  · exact Int.lt_trans (Int.emod_lt_of_pos _ (by decide)) (by decide)
  · exact Int.le_refl _
  · exact Int.le_refl _
  · exact same_upd (s1.trans s2) (same_nul s1 n2)
set_option hygiene false in
local macro_rules | `(tactic| tbr_iter "var") => `(tactic| first | ((with_reducible show W _ (.Name "dice" _) _ _ _); refine w_var 0 rfl (by tbr_iter "vis") rfl ?_) | ((with_reducible show W _ (.Name "size" _) _ _ _); refine w_var 1 rfl (by tbr_iter "vis") rfl ?_) | ((with_reducible show W _ (.Name "found" _) _ _ _); refine w_var 2 rfl (by tbr_iter "vis") rfl ?_) | ((with_reducible show W _ (.Name "one" _) _ _ _); refine w_var 3 rfl (by tbr_iter "vis") rfl ?_) | ((with_reducible show W _ (.Name "two" _) _ _ _); refine w_var 4 rfl (by tbr_iter "vis") rfl ?_))
set_option hygiene false in
local macro_rules | `(tactic| tbr_iter "set") => `(tactic| first | ((with_reducible show WB _ (.Assign [.Name "dice" _] _ _ :: _) _ _ _); refine wb_cons (ws_set 0 ?_ rfl nd)) | ((with_reducible show WB _ (.Assign [.Name "size" _] _ _ :: _) _ _ _); refine wb_cons (ws_set 1 ?_ rfl nd)) | ((with_reducible show WB _ (.Assign [.Name "found" _] _ _ :: _) _ _ _); refine wb_cons (ws_set 2 ?_ rfl nd)) | ((with_reducible show WB _ (.Assign [.Name "one" _] _ _ :: _) _ _ _); refine wb_cons (ws_set 3 ?_ rfl nd)) | ((with_reducible show WB _ (.Assign [.Name "two" _] _ _ :: _) _ _ _); refine wb_cons (ws_set 4 ?_ rfl nd)))
theorem ok_law_roll (T : Txt K mg) : Callee P w K mg base "_law_roll" 2 ["dice", "size"] spRoll := by
  refine def_ok T.f__law_roll sc__law_roll (fun _ _ _ _ _ _ us hl => match us, hl with | [_, _], _ => rfl) (fun vs H Q E h => ?_) fun f cdv A outer s H vs Q E hr h => ?_
  · obtain ⟨p, n, k, rfl, _⟩ := h; rfl
  obtain ⟨p, n, m, rfl, hp, hn, m0, m1, k⟩ := h
  have nd := sc__law_roll.nd
  refine wb_dice hp fun x y z d => ?_
  have d0 := d.x0
  have d1 := d.y0
  have d2 := d.y1
  have d3 := d.z0
  have d4 := d.z1
  have hL : SqL K (upd H p (.lst [.int x, .int y, .int z])) p [.int x, .int y, .int z] := SqL.of upd_same
  tbr_iter "go"
  refine ⟨_, rfl, w_if2 (fun c => ?_) (fun c => ?_)⟩
  · tbr_iter "set"
    tbr_iter "go"
    refine sv_list upd_same rfl ?_
    refine wb_cons (ws_ret (w_dice ?_))
    tbr_iter "go"
    refine ⟨p, _, _, _, n + 1, upd_same, ⟨?_, d1, d2, d3, by omega⟩, ?_⟩
    · exact Int.ediv_nonneg d0 (by omega)
    · rw [upd_upd, upd_upd]
      exact k _ _ (Sm.refl hp).upd upd_same (Int.emod_nonneg _ (by omega)) (Int.emod_lt_of_pos _ m0)
  · tbr_iter "go"
    refine sv_list upd_same rfl ?_
    rw [upd_upd]
    show WB _ _ _ _ (upd H p (.lst [.int x, .int y, .int (z + 1)]))
    clear hL
    have hL : SqL K (upd H p (.lst [.int x, .int y, .int (z + 1)])) p [.int x, .int y, .int (z + 1)] := SqL.of upd_same
    tbr_iter "set"
    tbr_iter "ex"
    have o0 := Int.emod_nonneg (y + 479001599 * (z + 1)) (show (72057594037927931 : Int) ≠ 0 by decide)
    have o1 := Int.emod_lt_of_pos (y + 479001599 * (z + 1)) (show (0 : Int) < 72057594037927931 by decide)
    revert o0 o1
    generalize (y + 479001599 * (z + 1)) % 72057594037927931 = one
    intro o0 o1
    tbr_iter "set"
    tbr_iter "ex"
    have t0 : 0 ≤ one * one % 36028797018963913 * one + 1299709 * (z + 1) := Int.add_nonneg (Int.mul_nonneg (Int.emod_nonneg _ (by decide)) o0) (by omega)
    have t1 : one * one % 36028797018963913 * one + 1299709 * (z + 1) < 2 ^ 130 := by
      have e1 : one * one % 36028797018963913 < 36028797018963913 := Int.emod_lt_of_pos _ (by decide)
      have e2 : one * one % 36028797018963913 * one ≤ 36028797018963913 * 72057594037927931 := Int.mul_le_mul (Int.le_of_lt e1) (Int.le_of_lt o1) o0 (by decide)
      omega
    revert t0 t1
    generalize one * one % 36028797018963913 * one + 1299709 * (z + 1) = two
    intro t0 t1
    have tn : two.natAbs < 2 ^ 130 := by omega
    refine wb_cons (ws_ret (w_dice ?_))
    tbr_iter "go"
    refine bv_mulW (wide_mul tn tn (by decide) (by decide) (by decide)) ?_
    tbr_iter "go"
    refine ⟨p, _, _, _, n + 1, upd_same, ⟨d0, d1, d2, by omega, by omega⟩, ?_⟩
    rw [upd_upd]
    exact k _ _ (Sm.refl hp).upd upd_same (Int.emod_nonneg _ (by omega)) (Int.emod_lt_of_pos _ m0)
set_option hygiene false in
local macro_rules | `(tactic| tbr_iter "var") => `(tactic| first | ((with_reducible show W _ (.Name "dice" _) _ _ _); refine w_var 0 rfl (by tbr_iter "vis") rfl ?_) | ((with_reducible show W _ (.Name "items" _) _ _ _); refine w_var 1 rfl (by tbr_iter "vis") rfl ?_))
set_option hygiene false in
local macro_rules | `(tactic| tbr_iter "set") => `(tactic| first | ((with_reducible show WB _ (.Assign [.Name "dice" _] _ _ :: _) _ _ _); refine wb_cons (ws_set 0 ?_ rfl nd)) | ((with_reducible show WB _ (.Assign [.Name "items" _] _ _ :: _) _ _ _); refine wb_cons (ws_set 1 ?_ rfl nd)))
theorem ok_law_pick (T : Txt K mg) : Callee P w K mg base "_law_pick" 3 ["dice", "items"] (spPick K) := by
  refine def_ok T.f__law_pick sc__law_pick (fun _ _ _ _ _ _ us hl => match us, hl with | [_, _], _ => rfl) (fun vs H Q E h => ?_) fun f cdv A outer s H vs Q E hr h => ?_
  · obtain ⟨p, l, n, xs, rfl, _⟩ := h; rfl
  obtain ⟨p, l, n, xs, rfl, hp, hn, hs, hne, hlen, k⟩ := h
  have nd := sc__law_pick.nd
  refine wb_cons (ws_ret (w_ix ?_))
  tbr_iter "ex"
  refine w_call (ok_law_roll T) hr passL ?_
  tbr_iter "ex"
  have h0 : 0 < xs.length := List.length_pos_iff.mpr hne
  refine ⟨p, n, _, rfl, hp, hn, by omega, by omega, fun r H1 s1 hp1 r0 r1 => ?_⟩
  have hi : r.toNat < xs.length := by omega
  exact iv_list (s1.seq hs) (atI_int r0 hi) (k _ (List.getElem_mem hi) _ s1 hp1)
end
end Ax

namespace Ax
def alpha : Str := "abcdefghijklmnopqrstuvwxyz"
def isNameS (z : Str) : Bool := decide (0 < z.length) && (decide (z.length ≤ 8) && z.cps.toList.all fun c => decide (c ∈ alpha.cps.toList))
def isNameD : PyData → Bool
  | .str z => isNameS z
  | _ => false
def isNameV : V → Bool
  | .str z => isNameS z
  | _ => false
theorem nameDV {K : PySem.W.Frag} {H : Hp} {v : V} {d : PyData} (h : Dp K H v d) : isNameD d = isNameV v := by cases h <;> rfl
theorem nameAll {K : PySem.W.Frag} {H : Hp} : ∀ {ds : List PyData} {vs : List V}, DpAll K H vs ds → vs.all isNameV = ds.all isNameD
  | [], _, h => by cases h; rfl
  | d :: ds, _, h => by
    cases h with
    | cons h1 h2 => rw [List.all_cons, List.all_cons, nameAll h2, nameDV h1]
def isRowD : PyData → Bool
  | .tuple ds => ds.all isNameD
  | _ => false
/-- a def that looks at any value -/
def spAny (K : PySem.W.Frag) (f : PyData → Bool) : Sp := fun vs H Q _ => ∃ v o, vs = [v] ∧ AnyV K H v o ∧ ∀ H', Same H H' → Q (.bl (o.any f)) H'
theorem signs_name (z : Str) : ((signsV z).all fun v => match v with | .str s => s.cps.toList.all fun c => decide (c ∈ alpha.cps.toList) | _ => false) = z.cps.toList.all fun c => decide (c ∈ alpha.cps.toList) := by
  unfold signsV
  rw [List.all_map]
  congr 1
  funext c
  simp
section
variable {P : Program} {w : World} {K : PySem.W.Frag} {mg : Str → Option Value} {base : Heap}
set_option hygiene false in
local macro_rules | `(tactic| tbr_iter "var") => `(tactic| first | ((with_reducible show W _ (.Name "value" _) _ _ _); refine w_var 0 rfl (by tbr_iter "vis") rfl ?_) | ((with_reducible show W _ (.Name "sign" _) _ _ _); refine w_var 1 rfl (by tbr_iter "vis") rfl ?_))
set_option hygiene false in
local macro_rules | `(tactic| tbr_iter "set") => `(tactic| first | ((with_reducible show WB _ (.Assign [.Name "value" _] _ _ :: _) _ _ _); refine wb_cons (ws_set 0 ?_ rfl nd)) | ((with_reducible show WB _ (.Assign [.Name "sign" _] _ _ :: _) _ _ _); refine wb_cons (ws_set 1 ?_ rfl nd)))
theorem ok_is_name (T : Txt K mg) : Callee P w K mg base "is_name" 1 ["value"] (spAny K isNameD) := by
  refine def_ok T.f_is_name sc_is_name (fun _ _ _ _ _ _ us hl => match us, hl with | [_], _ => rfl) (fun vs H Q E h => ?_) fun f cdv A outer s H vs Q E hr h => ?_
  · obtain ⟨v, o, rfl, _⟩ := h; rfl
  obtain ⟨v, o, rfl, a, k⟩ := h
  have nd := sc_is_name.nd
  tbr_iter "go"
  refine kv_isiA a (by decide) ⟨_, rfl, w_if2 (fun c => ?_) (fun c => ?_)⟩
  · cases a with
    | oth => cases c
    | @dat d hd ok =>
      rw [isiO_str] at c
      cases hd <;> first | cases c | skip
      rename_i z
      have hz := okD.str ok
      tbr_iter "go"
      refine kv_len_str hz ?_
      tbr_iter "go"
      refine ⟨_, rfl, w_if2 (fun c1 => ?_) (fun c1 => ?_)⟩
      · tbr_iter "go"
        refine ⟨_, rfl, w_if2 (fun c2 => ?_) (fun c2 => ?_)⟩
        · refine w_one ?_
          refine w_allLc 1 (fun v => match v with | .str s => s.cps.toList.all fun c => decide (c ∈ alpha.cps.toList) | _ => false) T.z_all rfl nd (by tbr_iter "blk") rfl (fun _ _ _ _ _ => ⟨Or.inl rfl, Or.inr rfl⟩) (wi_val ?_)
          tbr_iter "go"
          refine itv_str ⟨_, seqIt_str, ?_, fun v hv H2 s2 _ _ _ _ _ => ?_, fun H2 s2 => ?_⟩
          · have e : (signsV z).length = z.length := by simp [signsV, Str.length]
            have c2 : (z.length : Int) ≤ 8 := of_decide_eq_true c2
            rw [e]
            exact Nat.lt_of_le_of_lt (show z.length ≤ 8 by omega) (by decide)
          · obtain ⟨c, _, rfl⟩ := List.mem_map.mp hv
            tbr_iter "go"
            refine cv_inSign ⟨Same.refl _, ?_⟩
            simp [alpha]
          · have c1 : (0 : Int) < z.length := of_decide_eq_true c1
            have c2 : (z.length : Int) ≤ 8 := of_decide_eq_true c2
            refine qb (k H2 s2) ?_
            rw [signs_name]
            show (decide (0 < z.length) && (decide (z.length ≤ 8) && _)) = _
            rw [decide_eq_true (show 0 < z.length by omega), decide_eq_true (show z.length ≤ 8 by omega)]
            rfl
        · have c2 : ¬ (z.length : Int) ≤ 8 := of_decide_eq_false c2
          refine qb (k H (Same.refl _)) ?_
          show (_ && (decide (z.length ≤ 8) && _)) = _
          rw [decide_eq_false (show ¬ z.length ≤ 8 by omega), Bool.false_and, Bool.and_false]
      · have c1 : ¬ (0 : Int) < z.length := of_decide_eq_false c1
        refine ⟨_, rfl, iteF (qb (k H (Same.refl _)) ?_)⟩
        show (decide (0 < z.length) && _) = _
        rw [decide_eq_false (show ¬ 0 < z.length by omega), Bool.false_and]
  · have e := k H (Same.refl _)
    cases a with
    | oth => exact e
    | @dat d hd ok =>
      rw [isiO_str] at c
      cases hd <;> first | exact e | cases c
set_option hygiene false in
local macro_rules | `(tactic| tbr_iter "var") => `(tactic| first | ((with_reducible show W _ (.Name "value" _) _ _ _); refine w_var 0 rfl (by tbr_iter "vis") rfl ?_) | ((with_reducible show W _ (.Name "name" _) _ _ _); refine w_var 1 rfl (by tbr_iter "vis") rfl ?_))
set_option hygiene false in
local macro_rules | `(tactic| tbr_iter "set") => `(tactic| first | ((with_reducible show WB _ (.Assign [.Name "value" _] _ _ :: _) _ _ _); refine wb_cons (ws_set 0 ?_ rfl nd)) | ((with_reducible show WB _ (.Assign [.Name "name" _] _ _ :: _) _ _ _); refine wb_cons (ws_set 1 ?_ rfl nd)))
theorem ok_is_row (T : Txt K mg) : Callee P w K mg base "is_row" 2 ["value"] (spAny K isRowD) := by
  refine def_ok T.f_is_row sc_is_row (fun _ _ _ _ _ _ us hl => match us, hl with | [_], _ => rfl) (fun vs H Q E h => ?_) fun f cdv A outer s H vs Q E hr h => ?_
  · obtain ⟨v, o, rfl, _⟩ := h; rfl
  obtain ⟨v, o, rfl, a, k⟩ := h
  have nd := sc_is_row.nd
  tbr_iter "go"
  refine kv_isiA a (by decide) ⟨_, rfl, w_if2 (fun c => ?_) (fun c => ?_)⟩
  · cases a with
    | oth => cases c
    | @dat d hd ok =>
      rw [isiO_tuple] at c
      cases hd <;> first | cases c | skip
      rename_i p xs ds hx ha
      refine w_one ?_
      refine w_allLc 1 isNameV T.z_all rfl nd (by tbr_iter "blk") rfl (fun _ _ _ _ _ => ⟨Or.inl rfl, Or.inr rfl⟩) (wi_val ?_)
      tbr_iter "go"
      refine itv_tup hx ⟨_, seqIt_tup hx, ?_, fun v hv H2 s2 _ _ _ _ _ => ?_, fun H2 s2 => ?_⟩
      · rw [dpa_len ha]; exact okD.len ok
      · obtain ⟨i, hi⟩ := List.mem_iff_getElem?.mp hv
        obtain ⟨d, h1, h2⟩ := dpa_get ha hi
        have okd := okD.item ok d (List.mem_of_getElem? h1)
        refine w_call (ok_is_name T) (hr.mono (by decide)) passL ?_
        tbr_iter "go"
        refine ⟨v, some d, rfl, .dat (dp_same s2 h2) okd, fun H3 s3 => ⟨s3, ?_⟩⟩
        rw [← nameDV h2]
        rfl
      · have e := k H2 s2
        rw [nameAll ha]
        exact e
  · have e := k H (Same.refl _)
    cases a with
    | oth => exact e
    | @dat d hd ok =>
      rw [isiO_tuple] at c
      cases hd <;> first | exact e | cases c
/-- whole numbers, no truths -/
def spIsInt : Sp := fun vs H Q _ => ∃ i : Int, vs = [.int i] ∧ Q (.bl true) H
set_option hygiene false in
local macro_rules | `(tactic| tbr_iter "var") => `(tactic| first | ((with_reducible show W _ (.Name "value" _) _ _ _); refine w_var 0 rfl (by tbr_iter "vis") rfl ?_))
set_option hygiene false in
local macro_rules | `(tactic| tbr_iter "set") => `(tactic| first | ((with_reducible show WB _ (.Assign [.Name "value" _] _ _ :: _) _ _ _); refine wb_cons (ws_set 0 ?_ rfl nd)))
theorem ok_is_integer (T : Txt K mg) : Callee P w K mg base "is_integer" 1 ["value"] spIsInt := by
  refine def_ok T.f_is_integer sc_is_integer (fun _ _ _ _ _ _ us hl => match us, hl with | [_], _ => rfl) (fun vs H Q E h => ?_) fun f cdv A outer s H vs Q E hr h => ?_
  · obtain ⟨i, rfl, _⟩ := h; rfl
  obtain ⟨i, rfl, k⟩ := h
  have nd := sc_is_integer.nd
  tbr_iter "go"
  refine kv_isiB (t := "int") (.base (.int i)) (k := true) (by decide +kernel) ?_
  refine ⟨_, rfl, iteT ?_⟩
  tbr_iter "go"
  refine kv_isiB (t := "int") (.base (.int i)) (k := false) (by decide +kernel) ?_
  exact ⟨_, rfl, k⟩
def spBetween : Sp := fun vs H Q _ => ∃ i a b : Int, vs = [.int i, .int a, .int b] ∧ Q (.bl (decide (a ≤ i ∧ i ≤ b))) H
set_option hygiene false in
local macro_rules | `(tactic| tbr_iter "var") => `(tactic| first | ((with_reducible show W _ (.Name "value" _) _ _ _); refine w_var 0 rfl (by tbr_iter "vis") rfl ?_) | ((with_reducible show W _ (.Name "least" _) _ _ _); refine w_var 1 rfl (by tbr_iter "vis") rfl ?_) | ((with_reducible show W _ (.Name "most" _) _ _ _); refine w_var 2 rfl (by tbr_iter "vis") rfl ?_))
set_option hygiene false in
local macro_rules | `(tactic| tbr_iter "set") => `(tactic| first | ((with_reducible show WB _ (.Assign [.Name "value" _] _ _ :: _) _ _ _); refine wb_cons (ws_set 0 ?_ rfl nd)) | ((with_reducible show WB _ (.Assign [.Name "least" _] _ _ :: _) _ _ _); refine wb_cons (ws_set 1 ?_ rfl nd)) | ((with_reducible show WB _ (.Assign [.Name "most" _] _ _ :: _) _ _ _); refine wb_cons (ws_set 2 ?_ rfl nd)))
theorem ok_is_between (T : Txt K mg) : Callee P w K mg base "is_between" 2 ["value", "least", "most"] spBetween := by
  refine def_ok T.f_is_between sc_is_between (fun _ _ _ _ _ _ us hl => match us, hl with | [_, _, _], _ => rfl) (fun vs H Q E h => ?_) fun f cdv A outer s H vs Q E hr h => ?_
  · obtain ⟨i, a, b, rfl, _⟩ := h; rfl
  obtain ⟨i, a, b, rfl, k⟩ := h
  have nd := sc_is_between.nd
  tbr_iter "go"
  refine w_call (ok_is_integer T) (hr.mono (by decide)) passL ?_
  tbr_iter "go"
  refine ⟨i, rfl, ⟨_, rfl, iteT ?_⟩⟩
  tbr_iter "go"
  refine ⟨_, rfl, w_if2 (fun c => ?_) (fun c => ?_)⟩
  · have c : a ≤ i := of_decide_eq_true c
    tbr_iter "go"
    refine qb k ?_
    by_cases h : i ≤ b
    · rw [decide_eq_true h, decide_eq_true ⟨c, h⟩]
    · rw [decide_eq_false h, decide_eq_false fun z => h z.2]
  · have c : ¬ a ≤ i := of_decide_eq_false c
    refine qb k ?_
    rw [decide_eq_false fun z => c z.1]
def spReqCol : Sp := fun vs H Q _ => ∃ i : Int, vs = [.int i] ∧ 0 ≤ i ∧ i ≤ 3 ∧ Q .non H
set_option hygiene false in
local macro_rules | `(tactic| tbr_iter "var") => `(tactic| first | ((with_reducible show W _ (.Name "columns" _) _ _ _); refine w_var 0 rfl (by tbr_iter "vis") rfl ?_))
set_option hygiene false in
local macro_rules | `(tactic| tbr_iter "set") => `(tactic| first | ((with_reducible show WB _ (.Assign [.Name "columns" _] _ _ :: _) _ _ _); refine wb_cons (ws_set 0 ?_ rfl nd)))
theorem ok_require_columns (T : Txt K mg) : Callee P w K mg base "require_columns" 3 ["columns"] spReqCol := by
  refine def_ok T.f_require_columns sc_require_columns (fun _ _ _ _ _ _ us hl => match us, hl with | [_], _ => rfl) (fun vs H Q E h => ?_) fun f cdv A outer s H vs Q E hr h => ?_
  · obtain ⟨i, rfl, _⟩ := h; rfl
  obtain ⟨i, rfl, h0, h1, k⟩ := h
  have nd := sc_require_columns.nd
  refine wb_cons (ws_if (wt_not (wt_val (w_call (ok_is_between T) hr passL ?_))))
  tbr_iter "go"
  refine ⟨i, 0, 3, rfl, ⟨_, rfl, ?_⟩⟩
  rw [decide_eq_true ⟨h0, h1⟩]
  refine iteF (wb_nil (wb_nil k))
end
end Ax
end
section
set_option maxHeartbeats 4000000
open PySem PySem.Spec PyProof.Rows L2 Ax
set_option hygiene false in
local macro_rules | `(tactic| tbr_iter "boot") => `(tactic| with_reducible first | exact Ax.b_len | exact Ax.b_all | exact Ax.b_any | exact Ax.b_sorted | exact Ax.b_isinstance | exact Ax.b_abs | exact Ax.b_max | exact Ax.b_min | exact Ax.b_sum | exact Ax.b_repr | exact Ax.b_iter | exact Ax.b_ord | exact Ax.b_chr | exact Ax.b_str | exact Ax.b_int | exact Ax.b_bool | exact Ax.b_tuple | exact Ax.b_list | exact Ax.b_dict | exact Ax.b_set | exact Ax.b_range | exact Ax.b_enumerate | exact Ax.b_zip)
set_option hygiene false in
local macro_rules | `(tactic| tbr_iter "vis") => `(tactic| first | exact Or.inl rfl | exact Or.inr (Or.inl rfl) | exact Or.inr (Or.inr rfl))
set_option hygiene false in
local macro_rules | `(tactic| tbr_iter "w") => `(tactic| first
  | refine wb_cons ?_
  | refine wb_nil ?_
  | refine ws_ret ?_
  | refine ws_if ?_
  | refine ws_sub ?_
  | refine wa_cons ?_
  | refine wa_nil ?_
  | refine w_int ?_
  | refine w_str ?_
  | refine w_bl ?_
  | refine w_non ?_
  | tbr_iter "var"
  | refine w_bin ?_
  | refine w_cmp ?_
  | refine w_chain ?_
  | refine w_and ?_
  | refine w_or ?_
  | refine w_one ?_
  | refine w_not ?_
  | refine w_ix ?_
  | refine w_ifExp ?_
  | refine w_tup ?_
  | refine w_lst ?_
  | refine wt_not ?_
  | refine wt_bool ?_
  | refine ww_and ?_
  | refine ww_and1 ?_
  | refine ww_or ?_
  | refine ww_or1 ?_
  | refine wt_cmp ?_
  | refine wt_val ?_
  | tbr_iter "call"
  | (refine w_glob (by tbr_iter "mg") ?_)
  | (refine w_callB (by tbr_iter "z") ?_)
  | (refine w_callTy (by tbr_iter "z") ?_)
  | (refine w_bltT (by tbr_iter "z") ?_))
set_option hygiene false in
local macro_rules | `(tactic| tbr_iter "blk") => `(tactic| first | exact blkOk_by (by dsimp only [cxOf, envOfC]; decide +kernel))
set_option hygiene false in
local macro_rules | `(tactic| tbr_iter "iff") => `(tactic| first
  | refine iteT ?_
  | refine iteF ?_
  | refine w_if2 (fun _ => ?_) (fun _ => ?_))
set_option hygiene false in
local macro_rules | `(tactic| tbr_iter "sc") => `(tactic| first | omega | decide)
set_option hygiene false in
local macro_rules | `(tactic| tbr_iter "at") => `(tactic| first | exact atI_0 | exact atI_1 | exact atI_2)
set_option hygiene false in
local macro_rules | `(tactic| tbr_iter "sql") => `(tactic| ((try dsimp only [L2.cxOf, L2.Cx.blk]); with_reducible first | assumption | exact SqL.of (by assumption)))
set_option hygiene false in
local macro_rules | `(tactic| tbr_iter "sqt") => `(tactic| ((try dsimp only [L2.cxOf, L2.Cx.blk]); with_reducible first | assumption | exact SqT.of (by assumption)))
set_option hygiene false in
local macro_rules | `(tactic| tbr_iter "v") => `(tactic| first
  | refine bv_add ?_
  | refine bv_sub ?_
  | ((with_reducible show BinV _ .Mult _ _ _ _); refine bv_mul (Or.inl ⟨by tbr_iter "sc", by tbr_iter "sc"⟩) ?_)
  | ((with_reducible show BinV _ .Mult _ _ _ _); refine bv_mul (Or.inr ⟨by tbr_iter "sc", by tbr_iter "sc"⟩) ?_)
  | ((with_reducible show BinV _ .Mod _ _ _ _); refine bv_mod (by tbr_iter "sc") ?_)
  | ((with_reducible show BinV _ .FloorDiv _ _ _ _); refine bv_fdiv ⟨by tbr_iter "sc", by tbr_iter "sc"⟩ ?_)
  | ((with_reducible show BinV _ .Pow _ _ _ _); refine bv_pow ⟨by decide, by decide +kernel⟩ ?_)
  | refine cv_lt ?_
  | refine cv_le ?_
  | refine cv_gt ?_
  | refine cv_ge ?_
  | ((with_reducible show CmpV _ .Eq _ _ _ _); refine cv_eq rfl ?_)
  | ((with_reducible show CmpV _ .NotEq _ _ _ _); refine cv_ne rfl ?_)
  | refine iv_list (by tbr_iter "sql") (by tbr_iter "at") ?_
  | refine iv_tup (by tbr_iter "sqt") (by tbr_iter "at") ?_
  | refine kv_len_seq (Or.inl (by tbr_iter "sql")) ?_
  | refine kv_len_seq (Or.inr (by tbr_iter "sqt")) ?_
  | refine kv_int ?_
  | refine kv_intB ?_
  | refine kv_abs ?_
  | refine kv_max2 rfl ?_
  | refine kv_min2 rfl ?_)
set_option hygiene false in
local macro_rules | `(tactic| tbr_iter "b") => `(tactic| first
  | refine ⟨_, rfl, iteT ?_⟩
  | refine ⟨_, rfl, iteF ?_⟩
  | refine iteT ?_
  | refine iteF ?_)
set_option hygiene false in
local macro_rules | `(tactic| tbr_iter "go") => `(tactic| repeat (first | tbr_iter "w" | tbr_iter "v" | tbr_iter "b"))
set_option hygiene false in
local macro_rules | `(tactic| tbr_iter "nof") => `(tactic| (intro d hd; cases d <;> first | rfl | exact absurd rfl (hd _)))
set_option hygiene false in
local macro_rules | `(tactic| tbr_iter "e1") => `(tactic| first | ((with_reducible show W _ _ _ _ _); tbr_iter "w") | ((with_reducible show WA _ _ _ _ _); tbr_iter "w") | ((with_reducible show WT _ _ _ _ _); tbr_iter "w") | ((with_reducible show WW _ _ _ _ _); tbr_iter "w") | tbr_iter "v")
set_option hygiene false in
local macro_rules | `(tactic| tbr_iter "ex") => `(tactic| repeat (tbr_iter "e1"))
set_option hygiene false in
local macro_rules | `(tactic| tbr_iter "z") => `(tactic| ((try dsimp only [L2.cxOf]); with_reducible first | exact T.z_IndexError | exact T.z_KeyError | exact T.z_ValueError | exact T.z_abs | exact T.z_all | exact T.z_bool | exact T.z_classmethod | exact T.z_dict | exact T.z_enumerate | exact T.z_int | exact T.z_isinstance | exact T.z_iter | exact T.z_len | exact T.z_list | exact T.z_max | exact T.z_min | exact T.z_property | exact T.z_range | exact T.z_repr | exact T.z_sorted | exact T.z_str | exact T.z_tuple | exact T.z_zip))
set_option hygiene false in
local macro_rules | `(tactic| tbr_iter "mg") => `(tactic| ((try dsimp only [L2.cxOf]); with_reducible first | exact T.c_ALPHABET | exact T.c_MAX_LETTERS | exact T.c_MAX_COLUMNS | exact T.c_MOST_VALUES | exact T.c_MAX_TABLES | exact T.c_IN | exact T.c_OUT | exact T.c_UNLIKE))
namespace Ax
theorem iteT2 {c : Bool} {A B : Prop} (h : c = true) (q : A) : if c = true then A else B := by rw [if_pos h]; exact q
theorem room64 {k : Nat} {A : Around} (r : Room k A) : A.units + 64 < cLine := by
  have := r.un
  omega
theorem alpha_ok : ∀ c ∈ alpha.cps.toList, PyData.strOk ⟨#[c]⟩ = true := by decide +kernel
theorem name_ok {z : Str} (h : isNameS z = true) : okD (.str z) = true := by
  unfold isNameS at h
  simp only [Bool.and_eq_true, decide_eq_true_eq, List.all_eq_true] at h
  obtain ⟨_, h1, h2⟩ := h
  have h3 : PyData.strOk z = true := by
    unfold PyData.strOk
    rw [← Array.all_toList]
    refine List.all_eq_true.mpr fun c hc => ?_
    have e := alpha_ok c (h2 c hc)
    unfold PyData.strOk at e
    simpa using e
  have e : okD (.str z) = ((PyData.strOk z && decide (z.length ≤ 1000)) && true) := rfl
  rw [e, h3, decide_eq_true (by omega)] <;> rfl
theorem tameAll_names : ∀ {r : List Str}, (∀ z ∈ r, isNameS z = true) → tameAll (r.map PyData.str) = true
  | [], _ => by simp [tameAll]
  | z :: r, h => by
    have e := name_ok (h z List.mem_cons_self)
    simp only [okD, Bool.and_eq_true] at e
    have e2 := tameAll_names fun y hy => h y (List.mem_cons_of_mem _ hy)
    simp [tameAll, e.1, e2]
/-- a row of c names -/
def NRow (c : Nat) (r : List Str) : Prop := r.length = c ∧ ∀ z ∈ r, isNameS z = true
theorem row_ok {c : Nat} {r : List Str} (h : NRow c r) (hc : c ≤ 100000) : okD (rowD r) = true := by
  have e := depth_row r
  simp only [okD, rowD, tame, Bool.and_eq_true, decide_eq_true_eq]
  refine ⟨⟨tameAll_names h.2, ?_⟩, ?_⟩
  · rw [List.length_map, h.1]
    exact hc
  · exact decide_eq_true (Nat.le_trans (show (PyData.tuple (r.map PyData.str)).depth ≤ 1 from e) (show 1 ≤ 60 by decide))
theorem row_is {c : Nat} {r : List Str} (h : NRow c r) : isRowD (rowD r) = true := by
  show (r.map PyData.str).all isNameD = true
  rw [List.all_map]
  exact List.all_eq_true.mpr fun z hz => h.2 z hz
/-- v is a tuple of the texts r -/
def RwV (H : Hp) (v : V) (r : List Str) : Prop := ∃ b, v = .ref b ∧ H b = some (.tup (r.map V.str))
theorem RwV.sl {H H' : Hp} {v : V} {r : List Str} (h : RwV H v r) (s : Sl H H') : RwV H' v r := let ⟨b, e, g⟩ := h; ⟨b, e, s _ _ g rfl⟩
theorem RwV.same {H H' : Hp} {v : V} {r : List Str} (h : RwV H v r) (s : Same H H') : RwV H' v r := h.sl (Sl.of s)
theorem RwV.bt {d : Addr} {H H' : Hp} {v : V} {r : List Str} (h : RwV H v r) (s : Bt d H H') (nd : ∀ xs, H d ≠ some (.tup xs)) : RwV H' v r := let ⟨b, e, g⟩ := h; ⟨b, e, s b _ (fun z => nd _ (z ▸ g)) g⟩
theorem rows_sl {H H' : Hp} {vs : List V} {rows : List (List Str)} (h : All2 (RwV H) vs rows) (s : Sl H H') : All2 (RwV H') vs rows := h.imp fun _ _ k => k.sl s
/-- rows in their order -/
def sortR (rows : List (List Str)) : List (List Str) := rows.mergeSort (PySem.W.dataLe false rowD)
/-- a table's rows -/
def tabRows (raw : List (List Str)) : List (List Str) := sortR (onceL raw)
theorem tabRows_mem {raw : List (List Str)} {r : List Str} : r ∈ tabRows raw ↔ r ∈ raw := by
  unfold tabRows sortR
  rw [List.mem_mergeSort]
  exact (onceL_mem raw).2 r
theorem tabRows_len (raw : List (List Str)) : (tabRows raw).length ≤ raw.length := by
  unfold tabRows sortR
  rw [List.length_mergeSort]
  exact nodup_len (onceL_mem raw).1 fun z hz => ((onceL_mem raw).2 z).mp hz
theorem tabRows_nodup (raw : List (List Str)) : (tabRows raw).Nodup := (List.mergeSort_perm _ _).nodup_iff.mpr (onceL_mem raw).1
/-- the table at a: c columns, these rows -/
structure TabIs (K : PySem.W.Frag) (H : Hp) (a : Addr) (c : Nat) (rows : List (List Str)) : Prop where
  ex : ∃ dx q d, H a = some (.ins (He.ga K "Table") dx [("own_columns", .int c), ("own_rows", .ref q), ("own_places", .ref d)]) ∧ (∃ vs, H q = some (.tup vs) ∧ All2 (RwV H) vs rows) ∧ ∃ kvs, H d = some (.dT kvs) ∧ kvs.map (·.1) = rows.map fun r => r.map Sum.inr
theorem TabIs.same {K : PySem.W.Frag} {H H' : Hp} {a : Addr} {c : Nat} {rows : List (List Str)} (h : TabIs K H a c rows) (s : Same H H') : TabIs K H' a c rows := by
  obtain ⟨dx, q, d, h1, ⟨vs, h2, h3⟩, kvs, h4, h5⟩ := h
  exact ⟨dx, q, d, s _ _ h1, ⟨vs, s _ _ h2, rows_sl h3 (Sl.of s)⟩, kvs, s _ _ h4, h5⟩
/-- what Table(c, *rows) does at the new x -/
def spTabI (K : PySem.W.Frag) : Sp := fun vs H Q _ => ∃ (x dx p : Addr) (c : Nat) (us : List V) (raw : List (List Str)), vs = [.ref x, .int c, .ref p] ∧ c ≤ 3 ∧ H x = some (.ins (He.ga K "Table") dx []) ∧ H p = some (.tup us) ∧ us.length < sizeLine ∧ All2 (RwV H) us raw ∧ (∀ r ∈ raw, NRow c r) ∧
  ∀ H', Bt x H H' → TabIs K H' x c (tabRows raw) → Q .non H'
theorem onceL_map {α β : Type} [DecidableEq α] [DecidableEq β] (f : α → β) (hf : ∀ a b, f a = f b → a = b) (l : List α) : onceL (l.map f) = (onceL l).map f := by
  have h : ∀ (zs d : List α), (zs.map f).foldl (fun d k => if k ∈ d then d else d ++ [k]) (d.map f) = (zs.foldl (fun d k => if k ∈ d then d else d ++ [k]) d).map f := by
    intro zs
    induction zs with
    | nil => intro d; rfl
    | cons z zs ih =>
      intro d
      rw [List.map_cons, List.foldl_cons, List.foldl_cons]
      by_cases c : z ∈ d
      · rw [if_pos c, if_pos (List.mem_map_of_mem c)]
        exact ih d
      · rw [if_neg c, if_neg (fun h => by
          obtain ⟨y, hy, e⟩ := List.mem_map.mp h
          rw [hf _ _ e] at hy
          exact c hy)]
        have e := ih (d ++ [z])
        rw [List.map_append] at e
        exact e
  exact h l []
theorem map_inr_inj : ∀ a b : List Str, a.map (Sum.inr (α := Int)) = b.map Sum.inr → a = b
  | [], [], _ => rfl
  | [], _ :: _, e => nomatch e
  | _ :: _, [], e => nomatch e
  | x :: a, y :: b, e => by
    rw [List.map_cons, List.map_cons] at e
    injection e with e1 e2
    injection e1 with e1
    rw [e1, map_inr_inj a b e2]
section
variable {P : Program} {w : World} {K : PySem.W.Frag} {mg : Str → Option Value} {base : Heap}
set_option hygiene false in
local macro_rules | `(tactic| tbr_iter "var") => `(tactic| first | ((with_reducible show W _ (.Name "self" _) _ _ _); refine w_var 0 rfl (by tbr_iter "vis") rfl ?_) | ((with_reducible show W _ (.Name "columns" _) _ _ _); refine w_var 1 rfl (by tbr_iter "vis") rfl ?_) | ((with_reducible show W _ (.Name "rows" _) _ _ _); refine w_var 2 rfl (by tbr_iter "vis") rfl ?_) | ((with_reducible show W _ (.Name "row" _) _ _ _); refine w_var 3 rfl (by tbr_iter "vis") rfl ?_) | ((with_reducible show W _ (.Name "place" _) _ _ _); refine w_var 4 rfl (by tbr_iter "vis") rfl ?_))
set_option hygiene false in
local macro_rules | `(tactic| tbr_iter "set") => `(tactic| first | ((with_reducible show WB _ (.Assign [.Name "self" _] _ _ :: _) _ _ _); refine wb_cons (ws_set 0 ?_ rfl nd)) | ((with_reducible show WB _ (.Assign [.Name "columns" _] _ _ :: _) _ _ _); refine wb_cons (ws_set 1 ?_ rfl nd)) | ((with_reducible show WB _ (.Assign [.Name "rows" _] _ _ :: _) _ _ _); refine wb_cons (ws_set 2 ?_ rfl nd)) | ((with_reducible show WB _ (.Assign [.Name "row" _] _ _ :: _) _ _ _); refine wb_cons (ws_set 3 ?_ rfl nd)) | ((with_reducible show WB _ (.Assign [.Name "place" _] _ _ :: _) _ _ _); refine wb_cons (ws_set 4 ?_ rfl nd)))
theorem ok_tab_init (T : Txt K mg) : FnP P w K mg base 5 (He.ma K (He.ga K "Table") "__init__") (fun vs H Q E => ∃ a b rest, vs = a :: b :: rest ∧ rest.length ≤ sizeLine ∧ ∀ p, H p = none → spTabI K [a, b, .ref p] (upd H p (.tup rest)) Q E) := by
  refine meth_okStar (p1 := "self") (p2 := "columns") (pv := "rows") T.f_Table___init__ sc_Table___init__ (fun _ _ _ _ _ _ _ _ => rfl) (by
    intro kV doc pm an cdv ct a b r rs
    unfold bindArgs
    dsimp only
    generalize decide (List.length (a :: b :: r :: rs) > List.length _) = g
    cases g <;> rfl) fun cdv A outer s H vs Q E hr h => ?_
  obtain ⟨x, dx, p, c, us, raw, rfl, hc, hx, hp, hl, hrs, hn, k⟩ := h
  have nd := sc_Table___init__.nd
  have kc := T.kc_Table
  have px : ∀ xs, H x ≠ some (.tup xs) := fun xs z => by rw [hx] at z; cases z
  refine wb_cons (ws_expr (w_call (ok_require_columns T) (hr.mono (by decide)) passL ?_))
  tbr_iter "go"
  refine ⟨c, rfl, by omega, by omega, ?_⟩
  have hrl := hrs.len
  refine wb_cons (ws_if (wt_not (wt_val (w_allLc 3 (fun _ => true) T.z_all rfl nd (by tbr_iter "blk") rfl (fun _ _ _ _ _ => ⟨Or.inl rfl, Or.inr rfl⟩) (wi_val ?_)))))
  tbr_iter "go"
  refine itv_tup (SqT.of hp) ⟨_, seqIt_tup (SqT.of hp), hl, fun v hv H2 s2 _ _ _ _ _ => ?_, fun H2 s2 => ⟨_, rfl, ?_⟩⟩
  · obtain ⟨i, hi⟩ := List.mem_iff_getElem?.mp hv
    obtain ⟨r, h1, b, rfl, hb⟩ := hrs.at hi
    have hr1 := hn r (List.mem_of_getElem? h1)
    refine w_and (w_call (ok_is_row T) (hr.mono (by decide)) passL ?_)
    tbr_iter "go"
    refine ⟨_, some (rowD r), rfl, .dat (.tup (SqT.of (s2 _ _ hb)) (dpa_strs r)) (row_ok hr1 (by omega)), fun H3 s3 => ⟨_, rfl, iteT2 (row_is hr1) ?_⟩⟩
    tbr_iter "go"
    refine kv_len_seq (Or.inr (SqT.of (s3 _ _ (s2 _ _ hb)))) ?_
    tbr_iter "go"
    refine ⟨s3, ?_⟩
    rw [List.length_map, hr1.1]
    simp
  have eall : us.all (fun _ => true) = true := by simp
  rw [eall]
  refine iteF (wb_nil ?_)
  have hx2 := s2 _ _ hx
  have hp2 := s2 _ _ hp
  have hrs2 := rows_sl hrs (Sl.of s2)
  refine wb_cons (ws_fld kc.c T.a_Table_own_columns ?_)
  tbr_iter "go"
  refine ⟨x, dx, [], rfl, hx2, by decide, ?_⟩
  show WB _ _ _ _ (upd H2 x (.ins (He.ga K "Table") dx [("own_columns", .int c)]))
  have pxx : p ≠ x := fun z => px us (z ▸ hp)
  have b3 : Bt x H2 (upd H2 x (.ins (He.ga K "Table") dx [("own_columns", .int c)])) := (Bt.refl x H2).upd
  have px2 : ∀ xs, H2 x ≠ some (.tup xs) := fun xs z => by rw [hx2] at z; cases z
  have hx3 : (upd H2 x (.ins (He.ga K "Table") dx [("own_columns", .int c)])) x = _ := upd_same
  have hp3 := b3 p _ pxx hp2
  have hrs3 : All2 (RwV (upd H2 x (.ins (He.ga K "Table") dx [("own_columns", .int c)]))) us raw := hrs2.imp fun _ _ z => z.bt b3 px2
  generalize upd H2 x (.ins (He.ga K "Table") dx [("own_columns", .int c)]) = H3 at b3 hx3 hp3 hrs3 ⊢
  refine wb_cons (ws_fld kc.c T.a_Table_own_rows (w_callTy T.z_tuple (wa_cons (w_callB T.z_sorted (wa_cons (w_dcN famT [("row", 3)] (gName 3) (room64 hr) mono_name (fun _ _ _ _ _ => pg_name nd rfl (Or.inl rfl) (Or.inr rfl)) rfl nd (by tbr_iter "blk") (wi_val ?_)))))))
  tbr_iter "go"
  refine itv_tup (SqT.of hp3) ⟨_, _, itN_seq (seqIt_tup (SqT.of hp3)), raw.map fun r => (r.map Sum.inr, V.bl true), by rw [List.length_map, hrl], hl, fun i v H4 k z hk s4 hv => ?_, fun D H4 s4 n4 hD => ?_⟩
  · rw [List.getElem?_map] at hk
    obtain ⟨r, h1, h2⟩ := Option.map_eq_some_iff.mp hk
    cases h2
    obtain ⟨r', h3, b, rfl, hb⟩ := hrs3.at hv
    rw [h1] at h3
    cases h3
    refine ⟨rfl, fun _ _ _ _ _ => ?_⟩
    tbr_iter "go"
    refine ⟨Same.refl _, ⟨b, rfl, ?_⟩, fun _ _ _ _ _ => ?_⟩
    · rw [s4 _ _ hb, List.map_map] <;> rfl
    · tbr_iter "go"
      exact ⟨Same.refl _, rfl⟩
  have hkeys : (putsL (raw.map fun r => (r.map (Sum.inr (α := Int)), V.bl true))).map (·.1) = (onceL raw).map fun r => r.map Sum.inr := by
    rw [putsL_keys, List.map_map]
    exact onceL_map (fun r => r.map (Sum.inr (α := Int))) map_inr_inj raw
  refine wa_nil ⟨_, call_sortedT rfl (room64 hr), D, _, onceL raw, c, rfl, hD, hkeys, fun r h => (hn r (((onceL_mem raw).2 r).mp h)).1, fun bs p5 n5 hbs => wa_nil (kv_tupleL (SqL.of upd_same) fun q H6 s6 n6 hq => ?_)⟩
  have s46 : Same H4 H6 := (same_new n5).trans s6
  have hbs6 : All2 (RwV H6) (bs.map V.ref) (tabRows raw) := by
    have key : ∀ {bs : List Addr} {rows : List (List Str)}, All2 (fun b r => H4 b = some (.tup (r.map V.str))) bs rows → All2 (RwV H6) (bs.map V.ref) rows := by
      intro bs rows h
      induction h with
      | nil => exact .nil
      | cons h t ih => exact .cons ⟨_, rfl, s46 _ _ h⟩ ih
    exact key hbs
  have s36 := s4.trans s46
  have hx6 := s36 _ _ hx3
  tbr_iter "go"
  refine ⟨x, dx, _, rfl, hx6, show 1 < 1000 by decide, ?_⟩
  show WB _ _ _ _ (upd H6 x (.ins (He.ga K "Table") dx [("own_columns", .int c), ("own_rows", .ref q)]))
  have px6 : ∀ xs, H6 x ≠ some (.tup xs) := fun xs z => by rw [hx6] at z; cases z
  have qx : q ≠ x := fun z => px6 _ (z ▸ hq)
  have b7 : Bt x H6 (upd H6 x (.ins (He.ga K "Table") dx [("own_columns", .int c), ("own_rows", .ref q)])) := (Bt.refl x H6).upd
  have hx7 : (upd H6 x (.ins (He.ga K "Table") dx [("own_columns", .int c), ("own_rows", .ref q)])) x = _ := upd_same
  have hq7 := b7 q _ qx hq
  have hbs7 : All2 (RwV (upd H6 x (.ins (He.ga K "Table") dx [("own_columns", .int c), ("own_rows", .ref q)]))) (bs.map V.ref) (tabRows raw) := hbs6.imp fun _ _ z => z.bt b7 px6
  have b37 : Bt x H2 (upd H6 x (.ins (He.ga K "Table") dx [("own_columns", .int c), ("own_rows", .ref q)])) := b3.trans ((Bt.of s36).trans b7)
  generalize upd H6 x (.ins (He.ga K "Table") dx [("own_columns", .int c), ("own_rows", .ref q)]) = H7 at b7 hx7 hq7 hbs7 b37 ⊢
  have hbl : bs.length = (tabRows raw).length := by
    have := hbs7.len
    rwa [List.length_map] at this
  have hrl2 : (tabRows raw).length < sizeLine := Nat.lt_of_le_of_lt (tabRows_len raw) (by omega)
  refine wb_cons (ws_fld kc.c T.a_Table_own_places (w_dcN famT [("row", 3), ("place", 4)] (gPair K 4 3) (room64 hr) mono_pair (fun _ _ _ _ _ => pg_tup rfl (pgs_cons (pg_name nd rfl (Or.inl rfl) (Or.inr rfl)) (pgs_cons (pg_name nd rfl (Or.inl rfl) (Or.inr rfl)) pgs_nil))) rfl nd (by tbr_iter "blk") (WI.of (pi_enumT rfl T.z_enumerate WA.pa) ?_)))
  refine wa_cons (w_fld kc.c T.a_Table_own_rows ?_)
  tbr_iter "go"
  refine ⟨x, dx, _, _, rfl, hx7, rfl, ?_⟩
  refine wa_nil ⟨q, bs.map V.ref, rfl, SqT.of hq7, _, _, itN_enumT (SqT.of hq7), (tabRows raw).zipIdx.map fun p => (p.1.map Sum.inr, V.int (p.2 : Nat)), by simp [hbl], by rw [List.length_map, hbl]; exact hrl2, fun i v H8 k z hk s8 hv => ?_, fun D H8 s8 n8 hD => ?_⟩
  · obtain ⟨t, y1, y2, rfl, e1, e2, ht⟩ := hv
    cases e1
    obtain ⟨r, h3, b, rfl, hb⟩ := hbs7.at e2
    rw [List.getElem?_map, List.getElem?_zipIdx, h3] at hk
    cases hk
    refine gPair_of (SqT.of ht) ⟨rfl, fun _ _ _ _ _ => ?_⟩
    tbr_iter "go"
    refine ⟨Same.refl _, ⟨b, rfl, ?_⟩, fun _ _ _ _ _ => ?_⟩
    · rw [s8 _ _ hb, List.map_map] <;> rfl
    · tbr_iter "go"
      refine ⟨Same.refl _, ?_⟩
      simp
  have hx8 := s8 _ _ hx7
  tbr_iter "go"
  refine ⟨x, dx, _, rfl, hx8, show 2 < 1000 by decide, ?_⟩
  show WB _ _ _ _ (upd H8 x (.ins (He.ga K "Table") dx [("own_columns", .int c), ("own_rows", .ref q), ("own_places", .ref D)]))
  have px8 : ∀ xs, H8 x ≠ some (.tup xs) := fun xs z => by rw [hx8] at z; cases z
  have b9 : Bt x H8 (upd H8 x (.ins (He.ga K "Table") dx [("own_columns", .int c), ("own_rows", .ref q), ("own_places", .ref D)])) := (Bt.refl x H8).upd
  have dne : D ≠ x := fun z => by
    rw [z, hx8] at hD
    cases hD
  refine wb_nil (k _ ((Bt.of s2).trans (b37.trans ((Bt.of s8).trans b9))) ⟨dx, q, D, upd_same, ⟨_, b9 _ _ qx (s8 _ _ hq7), hbs7.imp fun _ _ z => (z.same s8).bt b9 px8⟩, _, b9 _ _ dne hD, ?_⟩)
  have e1 : ((tabRows raw).zipIdx.map fun p => (p.1.map (Sum.inr (α := Int)), V.int (p.2 : Nat))).map (·.1) = (tabRows raw).map fun r => r.map Sum.inr := by
    rw [List.map_map]
    show List.map ((fun r : List Str => r.map (Sum.inr (α := Int))) ∘ Prod.fst) _ = _
    rw [← List.map_map, List.zipIdx_map_fst]
  rw [putsL_keys, e1]
  exact (onceL_map (fun r => r.map (Sum.inr (α := Int))) map_inr_inj (tabRows raw)).trans (by rw [onceL_id (tabRows_nodup raw)])
end
end Ax
end
section
set_option maxHeartbeats 4000000
open PySem PySem.Spec PyProof.Rows L2 Ax
set_option hygiene false in
local macro_rules | `(tactic| tbr_iter "boot") => `(tactic| with_reducible first | exact Ax.b_len | exact Ax.b_all | exact Ax.b_any | exact Ax.b_sorted | exact Ax.b_isinstance | exact Ax.b_abs | exact Ax.b_max | exact Ax.b_min | exact Ax.b_sum | exact Ax.b_repr | exact Ax.b_iter | exact Ax.b_ord | exact Ax.b_chr | exact Ax.b_str | exact Ax.b_int | exact Ax.b_bool | exact Ax.b_tuple | exact Ax.b_list | exact Ax.b_dict | exact Ax.b_set | exact Ax.b_range | exact Ax.b_enumerate | exact Ax.b_zip)
set_option hygiene false in
local macro_rules | `(tactic| tbr_iter "vis") => `(tactic| first | exact Or.inl rfl | exact Or.inr (Or.inl rfl) | exact Or.inr (Or.inr rfl))
set_option hygiene false in
local macro_rules | `(tactic| tbr_iter "w") => `(tactic| first
  | refine wb_cons ?_
  | refine wb_nil ?_
  | refine ws_ret ?_
  | refine ws_if ?_
  | refine ws_sub ?_
  | refine wa_cons ?_
  | refine wa_nil ?_
  | refine w_int ?_
  | refine w_str ?_
  | refine w_bl ?_
  | refine w_non ?_
  | tbr_iter "var"
  | refine w_bin ?_
  | refine w_cmp ?_
  | refine w_chain ?_
  | refine w_and ?_
  | refine w_or ?_
  | refine w_one ?_
  | refine w_not ?_
  | refine w_ix ?_
  | refine w_ifExp ?_
  | refine w_tup ?_
  | refine w_lst ?_
  | refine wt_not ?_
  | refine wt_bool ?_
  | refine ww_and ?_
  | refine ww_and1 ?_
  | refine ww_or ?_
  | refine ww_or1 ?_
  | refine wt_cmp ?_
  | refine wt_val ?_
  | tbr_iter "call"
  | (refine w_glob (by tbr_iter "mg") ?_)
  | (refine w_callB (by tbr_iter "z") ?_)
  | (refine w_callTy (by tbr_iter "z") ?_)
  | (refine w_bltT (by tbr_iter "z") ?_))
set_option hygiene false in
local macro_rules | `(tactic| tbr_iter "blk") => `(tactic| first | exact blkOk_by (by dsimp only [cxOf, envOfC]; decide +kernel))
set_option hygiene false in
local macro_rules | `(tactic| tbr_iter "iff") => `(tactic| first
  | refine iteT ?_
  | refine iteF ?_
  | refine w_if2 (fun _ => ?_) (fun _ => ?_))
set_option hygiene false in
local macro_rules | `(tactic| tbr_iter "sc") => `(tactic| first | omega | decide)
set_option hygiene false in
local macro_rules | `(tactic| tbr_iter "at") => `(tactic| first | exact atI_0 | exact atI_1 | exact atI_2)
set_option hygiene false in
local macro_rules | `(tactic| tbr_iter "sql") => `(tactic| ((try dsimp only [L2.cxOf, L2.Cx.blk]); with_reducible first | assumption | exact SqL.of (by assumption)))
set_option hygiene false in
local macro_rules | `(tactic| tbr_iter "sqt") => `(tactic| ((try dsimp only [L2.cxOf, L2.Cx.blk]); with_reducible first | assumption | exact SqT.of (by assumption)))
set_option hygiene false in
local macro_rules | `(tactic| tbr_iter "v") => `(tactic| first
  | refine bv_add ?_
  | refine bv_sub ?_
  | ((with_reducible show BinV _ .Mult _ _ _ _); refine bv_mul (Or.inl ⟨by tbr_iter "sc", by tbr_iter "sc"⟩) ?_)
  | ((with_reducible show BinV _ .Mult _ _ _ _); refine bv_mul (Or.inr ⟨by tbr_iter "sc", by tbr_iter "sc"⟩) ?_)
  | ((with_reducible show BinV _ .Mod _ _ _ _); refine bv_mod (by tbr_iter "sc") ?_)
  | ((with_reducible show BinV _ .FloorDiv _ _ _ _); refine bv_fdiv ⟨by tbr_iter "sc", by tbr_iter "sc"⟩ ?_)
  | ((with_reducible show BinV _ .Pow _ _ _ _); refine bv_pow ⟨by decide, by decide +kernel⟩ ?_)
  | refine cv_lt ?_
  | refine cv_le ?_
  | refine cv_gt ?_
  | refine cv_ge ?_
  | ((with_reducible show CmpV _ .Eq _ _ _ _); refine cv_eq rfl ?_)
  | ((with_reducible show CmpV _ .NotEq _ _ _ _); refine cv_ne rfl ?_)
  | refine iv_list (by tbr_iter "sql") (by tbr_iter "at") ?_
  | refine iv_tup (by tbr_iter "sqt") (by tbr_iter "at") ?_
  | refine kv_len_seq (Or.inl (by tbr_iter "sql")) ?_
  | refine kv_len_seq (Or.inr (by tbr_iter "sqt")) ?_
  | refine kv_int ?_
  | refine kv_intB ?_
  | refine kv_abs ?_
  | refine kv_max2 rfl ?_
  | refine kv_min2 rfl ?_)
set_option hygiene false in
local macro_rules | `(tactic| tbr_iter "b") => `(tactic| first
  | refine ⟨_, rfl, iteT ?_⟩
  | refine ⟨_, rfl, iteF ?_⟩
  | refine iteT ?_
  | refine iteF ?_)
set_option hygiene false in
local macro_rules | `(tactic| tbr_iter "go") => `(tactic| repeat (first | tbr_iter "w" | tbr_iter "v" | tbr_iter "b"))
set_option hygiene false in
local macro_rules | `(tactic| tbr_iter "nof") => `(tactic| (intro d hd; cases d <;> first | rfl | exact absurd rfl (hd _)))
set_option hygiene false in
local macro_rules | `(tactic| tbr_iter "e1") => `(tactic| first | ((with_reducible show W _ _ _ _ _); tbr_iter "w") | ((with_reducible show WA _ _ _ _ _); tbr_iter "w") | ((with_reducible show WT _ _ _ _ _); tbr_iter "w") | ((with_reducible show WW _ _ _ _ _); tbr_iter "w") | tbr_iter "v")
set_option hygiene false in
local macro_rules | `(tactic| tbr_iter "ex") => `(tactic| repeat (tbr_iter "e1"))
set_option hygiene false in
local macro_rules | `(tactic| tbr_iter "z") => `(tactic| ((try dsimp only [L2.cxOf]); with_reducible first | exact T.z_IndexError | exact T.z_KeyError | exact T.z_ValueError | exact T.z_abs | exact T.z_all | exact T.z_bool | exact T.z_classmethod | exact T.z_dict | exact T.z_enumerate | exact T.z_int | exact T.z_isinstance | exact T.z_iter | exact T.z_len | exact T.z_list | exact T.z_max | exact T.z_min | exact T.z_property | exact T.z_range | exact T.z_repr | exact T.z_sorted | exact T.z_str | exact T.z_tuple | exact T.z_zip))
set_option hygiene false in
local macro_rules | `(tactic| tbr_iter "mg") => `(tactic| ((try dsimp only [L2.cxOf]); with_reducible first | exact T.c_ALPHABET | exact T.c_MAX_LETTERS | exact T.c_MAX_COLUMNS | exact T.c_MOST_VALUES | exact T.c_MAX_TABLES | exact T.c_IN | exact T.c_OUT | exact T.c_UNLIKE))
namespace Ax
section
variable {P : Program} {w : World} {K : PySem.W.Frag} {mg : Str → Option Value} {base : Heap}
theorem tabI_make {H1 : Hp} {c : Nat} {us : List V} {raw : List (List Str)} {Q : VK} {E : XK} (hc : c ≤ 3) (hl : us.length < sizeLine) (hrs : All2 (RwV H1) us raw) (hn : ∀ r ∈ raw, NRow c r) (k : ∀ x H2, Same H1 H2 → H1 x = none → TabIs K H2 x c (tabRows raw) → Q (.ref x) H2) :
    ∀ x dx, H1 x = none → H1 dx = none → dx ≠ x → ∃ a b rest, (V.ref x :: V.int c :: us) = a :: b :: rest ∧ rest.length ≤ sizeLine ∧ ∀ p, (upd (upd H1 dx (.own x)) x (.ins (He.ga K "Table") dx [])) p = none →
      spTabI K [a, b, .ref p] (upd (upd (upd H1 dx (.own x)) x (.ins (He.ga K "Table") dx [])) p (.tup rest)) (fun v H2 => v = .non ∧ Q (.ref x) H2) E := by
  intro x dx hx hdx hne
  refine ⟨_, _, us, rfl, Nat.le_of_lt hl, fun p hp => ?_⟩
  have px : p ≠ x := fun z => by rw [z, upd_same] at hp; cases hp
  have pd : p ≠ dx := fun z => by rw [z, upd_ne hne, upd_same] at hp; cases hp
  have hp1 : H1 p = none := by rw [upd_ne px, upd_ne pd] at hp; exact hp
  have s1 : Same H1 (upd (upd (upd H1 dx (.own x)) x (.ins (He.ga K "Table") dx [])) p (.tup us)) := fun y o hy => by
    rw [upd_ne (ne_of_none hy hp1), upd_ne (ne_of_none hy hx), upd_ne (ne_of_none hy hdx)]
    exact hy
  refine ⟨x, dx, p, c, us, raw, rfl, hc, by rw [upd_ne px.symm, upd_same], upd_same, hl, rows_sl hrs (Sl.of s1), hn, fun H' bt tab => ⟨rfl, k x H' (fun y o hy => ?_) hx tab⟩⟩
  exact bt y o (ne_of_none hy hx) (s1 y o hy)
/-- Table.of(c, rows) -/
def spTabOf (K : PySem.W.Frag) : Sp := fun vs H Q _ => ∃ (p : Addr) (c : Nat) (us : List V) (raw : List (List Str)), vs = [.ref (He.ga K "Table"), .int c, .ref p] ∧ c ≤ 3 ∧ SqT K H p us ∧ us.length < sizeLine ∧ All2 (RwV H) us raw ∧ (∀ r ∈ raw, NRow c r) ∧
  ∀ x H2, Same H H2 → H x = none → TabIs K H2 x c (tabRows raw) → Q (.ref x) H2
set_option hygiene false in
local macro_rules | `(tactic| tbr_iter "var") => `(tactic| first | ((with_reducible show W _ (.Name "cls" _) _ _ _); refine w_var 0 rfl (by tbr_iter "vis") rfl ?_) | ((with_reducible show W _ (.Name "columns" _) _ _ _); refine w_var 1 rfl (by tbr_iter "vis") rfl ?_) | ((with_reducible show W _ (.Name "rows" _) _ _ _); refine w_var 2 rfl (by tbr_iter "vis") rfl ?_))
set_option hygiene false in
local macro_rules | `(tactic| tbr_iter "set") => `(tactic| first | ((with_reducible show WB _ (.Assign [.Name "cls" _] _ _ :: _) _ _ _); refine wb_cons (ws_set 0 ?_ rfl nd)) | ((with_reducible show WB _ (.Assign [.Name "columns" _] _ _ :: _) _ _ _); refine wb_cons (ws_set 1 ?_ rfl nd)) | ((with_reducible show WB _ (.Assign [.Name "rows" _] _ _ :: _) _ _ _); refine wb_cons (ws_set 2 ?_ rfl nd)))
theorem ok_tab_of (T : Txt K mg) : FnP P w K mg base 7 (He5.wf K (He.ga K "Table") "classmethod" "of") (spTabOf K) := by
  refine meth_okR T.f_Table_of sc_Table_of (fun _ _ _ _ _ _ us hl => match us, hl with | [_, _, _], _ => rfl) (fun vs H Q E h => ?_) fun cdv A outer s H vs Q E hr h => ?_
  · obtain ⟨p, c, us, raw, rfl, _⟩ := h; rfl
  obtain ⟨p, c, us, raw, rfl, hc, hp, hl, hrs, hn, k⟩ := h
  have nd := sc_Table_of.nd
  refine wb_cons (ws_expr (w_call (ok_require_columns T) (hr.mono (by decide)) passL ?_))
  tbr_iter "go"
  refine ⟨c, rfl, by omega, by omega, ?_⟩
  tbr_iter "go"
  refine kv_isiB (tyX_tup hp) (k := true) (by decide +kernel) ?_
  refine ⟨_, rfl, iteF (wb_nil ?_)⟩
  refine wb_cons (ws_ret (w_makeS T.k_Table (ok_tab_init T) hr passL ?_))
  tbr_iter "go"
  refine ⟨rfl, ?_⟩
  tbr_iter "go"
  refine wa_star ?_
  tbr_iter "go"
  refine ⟨p, us, rfl, .inl hp, ?_⟩
  tbr_iter "go"
  rw [List.append_nil]
  exact tabI_make hc hl hrs hn k
/-- t.domain -/
def spDomain (K : PySem.W.Frag) : Sp := fun vs H Q _ => ∃ (a : Addr) (c : Nat) (rows : List (List Str)), vs = [.ref a] ∧ TabIs K H a c rows ∧ rows.flatten.length < sizeLine ∧ (onceL rows.flatten).length < 64 ∧
  ∀ ys q H2, ys.Perm (onceL rows.flatten) → sortedS ys = true → Same H H2 → H2 q = some (.tup (ys.map V.str)) → Q (.ref q) H2
set_option hygiene false in
local macro_rules | `(tactic| tbr_iter "var") => `(tactic| first | ((with_reducible show W _ (.Name "self" _) _ _ _); refine w_var 0 rfl (by tbr_iter "vis") rfl ?_) | ((with_reducible show W _ (.Name "row" _) _ _ _); refine w_var 1 rfl (by tbr_iter "vis") rfl ?_) | ((with_reducible show W _ (.Name "name" _) _ _ _); refine w_var 2 rfl (by tbr_iter "vis") rfl ?_))
set_option hygiene false in
local macro_rules | `(tactic| tbr_iter "set") => `(tactic| first | ((with_reducible show WB _ (.Assign [.Name "self" _] _ _ :: _) _ _ _); refine wb_cons (ws_set 0 ?_ rfl nd)) | ((with_reducible show WB _ (.Assign [.Name "row" _] _ _ :: _) _ _ _); refine wb_cons (ws_set 1 ?_ rfl nd)) | ((with_reducible show WB _ (.Assign [.Name "name" _] _ _ :: _) _ _ _); refine wb_cons (ws_set 2 ?_ rfl nd)))
theorem ok_domain (T : Txt K mg) : ∃ fd, FnOk P w K mg base (L2.CX P w) 1 (He5.wf K (He.ga K "Table") "property" "domain") fd ["self"] (spDomain K) ∧ Binds K fd ["self"] [] := by
  obtain ⟨fd, F⟩ := T.f_Table_domain
  refine ⟨fd, F.ok sc_Table_domain (fun vs H Q E h => ?_) fun cdv A outer s H vs Q E hr h => ⟨_, WB.pss, ?_⟩, F.bindsN fun _ _ _ _ _ _ us hl => match us, hl with | [_], _ => rfl⟩
  · obtain ⟨a, c, rows, rfl, _⟩ := h; rfl
  obtain ⟨a, c, rows, rfl, ht, hf, ho, k⟩ := h
  have nd := sc_Table_domain.nd
  obtain ⟨dx, q, d, h1, ⟨vs, h2, h3⟩, kvs, h4, h5⟩ := ht
  have kc := T.kc_Table
  have hvl := h3.len
  refine wb_cons (ws_ret (w_callTy T.z_tuple (wa_cons (w_callB T.z_sorted (wa_cons (w_dc2N famK [("row", 1), ("name", 2)] (gName 1) (gName 2) (room64 hr) mono_name mono_name (fun _ _ _ _ _ => pg_name nd rfl (Or.inl rfl) (Or.inr rfl)) (fun _ _ _ _ _ => pg_name nd rfl (Or.inl rfl) (Or.inr rfl)) rfl nd (by tbr_iter "blk") (wi_val (w_fld kc.c T.a_Table_own_rows ?_))))))))
  tbr_iter "go"
  refine ⟨a, dx, _, _, rfl, h1, rfl, ?_⟩
  refine itv_tup (SqT.of h2) ⟨_, _, itN_seq (seqIt_tup (SqT.of h2)), rows.map fun r => r.map fun z => (Sum.inr z, V.bl true), by rw [List.length_map, hvl], ?_, fun D i v H2 ps nD hk s2 hv => ?_, fun D H2 s2 n2 hD => ?_⟩
  · have e : (rows.map fun r => r.map fun z => ((Sum.inr z : Key), V.bl true)).flatten = rows.flatten.map fun z => (Sum.inr z, V.bl true) := by rw [List.map_flatten]
    rw [e, List.length_map]
    exact hf
  · rw [List.getElem?_map] at hk
    obtain ⟨r, e1, e2⟩ := Option.map_eq_some_iff.mp hk
    subst e2
    obtain ⟨r', e3, b, rfl, hb⟩ := h3.at hv
    rw [e1] at e3
    cases e3
    refine ⟨rfl, Same.refl _, fun _ _ _ _ _ => wi_val ?_⟩
    tbr_iter "go"
    have hbD : b ≠ D := ne_of_none hb nD
    refine itv_tup (SqT.of (s2 _ _ hb)) ⟨Same.refl _, YNth (r.map V.str), by rw [List.length_map, ← List.length_map (f := V.str)]; exact itD_tup (SqT.of (s2 _ _ hb)) hbD, fun j y H5 k z hk2 bt hy => ?_⟩
    rw [List.getElem?_map] at hk2
    obtain ⟨t, e4, e5⟩ := Option.map_eq_some_iff.mp hk2
    cases e5
    have hy : (r.map V.str)[j]? = some y := hy
    rw [List.getElem?_map, e4] at hy
    cases hy
    refine ⟨⟨rfl, keep_set rfl⟩, fun _ _ _ _ _ => ?_⟩
    · tbr_iter "go"
      refine ⟨Same.refl _, rfl, fun _ _ _ _ _ => ?_⟩
      tbr_iter "go"
      exact ⟨Same.refl _, rfl⟩
  · have e : (rows.map fun r => r.map fun z => ((Sum.inr z : Key), V.bl true)).flatten = rows.flatten.map fun z => (Sum.inr z, V.bl true) := by rw [List.map_flatten]
    rw [e] at hD
    have hkeys : (putsL (rows.flatten.map fun z => ((Sum.inr z : Key), V.bl true))).map (·.1) = (onceL rows.flatten).map Sum.inr := by
      rw [putsL_keys, List.map_map]
      exact onceL_map (fun z => (Sum.inr z : Key)) (fun a b e => Sum.inr.inj e) rows.flatten
    refine wa_nil (kv_sortedD rfl hD hkeys ho fun ys q1 H3 p3 so3 s3 n3 h3 => wa_nil (kv_tupleL (SqL.of h3) fun q2 H4 s4 n4 h4 => ?_))
    exact k ys q2 H4 p3 so3 (s2.trans (s3.trans s4)) h4
/-- the names in values -/
def spTabOver (K : PySem.W.Frag) : Sp := fun vs H Q _ => ∃ (a p : Addr) (c : Nat) (rows : List (List Str)) (zs : List Str), vs = [.ref a, .ref p] ∧ TabIs K H a c rows ∧ SqT K H p (zs.map V.str) ∧ rows.flatten.length < sizeLine ∧ zs.length < 64 ∧ (∀ z ∈ rows.flatten, z ∈ zs) ∧ ∀ H2, Same H H2 → Q (.bl true) H2
set_option hygiene false in
local macro_rules | `(tactic| tbr_iter "var") => `(tactic| first | ((with_reducible show W _ (.Name "value" _) _ _ _); refine w_var 0 rfl (by tbr_iter "vis") rfl ?_) | ((with_reducible show W _ (.Name "values" _) _ _ _); refine w_var 1 rfl (by tbr_iter "vis") rfl ?_) | ((with_reducible show W _ (.Name "name" _) _ _ _); refine w_var 2 rfl (by tbr_iter "vis") rfl ?_))
set_option hygiene false in
local macro_rules | `(tactic| tbr_iter "set") => `(tactic| first | ((with_reducible show WB _ (.Assign [.Name "value" _] _ _ :: _) _ _ _); refine wb_cons (ws_set 0 ?_ rfl nd)) | ((with_reducible show WB _ (.Assign [.Name "values" _] _ _ :: _) _ _ _); refine wb_cons (ws_set 1 ?_ rfl nd)) | ((with_reducible show WB _ (.Assign [.Name "name" _] _ _ :: _) _ _ _); refine wb_cons (ws_set 2 ?_ rfl nd)))
theorem ok_table_over (T : Txt K mg) : Callee P w K mg base "is_table_over" 4 ["value", "values"] (spTabOver K) := by
  refine def_ok T.f_is_table_over sc_is_table_over (fun _ _ _ _ _ _ us hl => match us, hl with | [_, _], _ => rfl) (fun vs H Q E h => ?_) fun f cdv A outer s H vs Q E hr h => ?_
  · obtain ⟨a, p, c, rows, zs, rfl, _⟩ := h; rfl
  obtain ⟨a, p, c, rows, zs, rfl, ht, hp, hf, hz, hin, k⟩ := h
  have nd := sc_is_table_over.nd
  obtain ⟨fd, FD, BD⟩ := ok_domain (P := P) (w := w) (base := base) T
  have ho : (onceL rows.flatten).length < 64 := Nat.lt_of_le_of_lt (nodup_len (onceL_mem rows.flatten).1 fun z h => hin z (((onceL_mem rows.flatten).2 z).mp h)) hz
  have ht0 := ht
  obtain ⟨dx, q, d, h1, _⟩ := ht0
  tbr_iter "go"
  refine w_glob (glob_ref T.g_Table) ?_
  tbr_iter "go"
  refine kv_isC (T.kc_Table.ty h1) (.own _) T.i_Table_Table ?_
  refine ⟨_, rfl, iteT ?_⟩
  refine w_one (w_allLc 2 (fun _ => true) T.z_all rfl nd (by tbr_iter "blk") rfl (fun _ _ _ _ _ => ⟨Or.inl rfl, Or.inr rfl⟩) (wi_val ?_))
  refine w_prop T.kc_Table.c T.p_Table_domain FD (hr.mono (by decide)) BD passL ?_
  tbr_iter "go"
  refine ⟨a, dx, _, rfl, h1, a, c, rows, rfl, ht, hf, ho, fun ys q2 H2 py so s2 hq2 => ?_⟩
  have mem : ∀ z ∈ ys, z ∈ zs := fun z h => hin z (((onceL_mem rows.flatten).2 z).mp (py.mem_iff.mp h))
  refine itv_tup (SqT.of hq2) ⟨_, seqIt_tup (SqT.of hq2), ?_, fun v hv H3 s3 _ _ _ _ _ => ?_, fun H3 s3 => qb (k H3 (s2.trans s3)) (by simp)⟩
  · rw [List.length_map, py.length_eq]
    exact Nat.lt_trans ho (by decide)
  · obtain ⟨z, hz, rfl⟩ := List.mem_map.mp hv
    tbr_iter "go"
    refine cv_inSeq (Or.inr (same_tup (s2.trans s3) hp)) rfl (flat_strs _) ⟨Same.refl _, ?_⟩
    have e : inV (.str z) (zs.map V.str) = true := inV_str.trans (decide_eq_true (mem z hz))
    rw [e]
end
end Ax
end
section
set_option maxHeartbeats 4000000
open PySem PySem.Spec PyProof.Rows L2 Ax
set_option hygiene false in
local macro_rules | `(tactic| tbr_iter "boot") => `(tactic| with_reducible first | exact Ax.b_len | exact Ax.b_all | exact Ax.b_any | exact Ax.b_sorted | exact Ax.b_isinstance | exact Ax.b_abs | exact Ax.b_max | exact Ax.b_min | exact Ax.b_sum | exact Ax.b_repr | exact Ax.b_iter | exact Ax.b_ord | exact Ax.b_chr | exact Ax.b_str | exact Ax.b_int | exact Ax.b_bool | exact Ax.b_tuple | exact Ax.b_list | exact Ax.b_dict | exact Ax.b_set | exact Ax.b_range | exact Ax.b_enumerate | exact Ax.b_zip)
set_option hygiene false in
local macro_rules | `(tactic| tbr_iter "vis") => `(tactic| first | exact Or.inl rfl | exact Or.inr (Or.inl rfl) | exact Or.inr (Or.inr rfl))
set_option hygiene false in
local macro_rules | `(tactic| tbr_iter "w") => `(tactic| first
  | refine wb_cons ?_
  | refine wb_nil ?_
  | refine ws_ret ?_
  | refine ws_if ?_
  | refine ws_sub ?_
  | refine wa_cons ?_
  | refine wa_nil ?_
  | refine w_int ?_
  | refine w_str ?_
  | refine w_bl ?_
  | refine w_non ?_
  | tbr_iter "var"
  | refine w_bin ?_
  | refine w_cmp ?_
  | refine w_chain ?_
  | refine w_and ?_
  | refine w_or ?_
  | refine w_one ?_
  | refine w_not ?_
  | refine w_ix ?_
  | refine w_ifExp ?_
  | refine w_tup ?_
  | refine w_lst ?_
  | refine wt_not ?_
  | refine wt_bool ?_
  | refine ww_and ?_
  | refine ww_and1 ?_
  | refine ww_or ?_
  | refine ww_or1 ?_
  | refine wt_cmp ?_
  | refine wt_val ?_
  | tbr_iter "call"
  | (refine w_glob (by tbr_iter "mg") ?_)
  | (refine w_callB (by tbr_iter "z") ?_)
  | (refine w_callTy (by tbr_iter "z") ?_)
  | (refine w_bltT (by tbr_iter "z") ?_))
set_option hygiene false in
local macro_rules | `(tactic| tbr_iter "blk") => `(tactic| first | exact blkOk_by (by dsimp only [cxOf, envOfC]; decide +kernel))
set_option hygiene false in
local macro_rules | `(tactic| tbr_iter "iff") => `(tactic| first
  | refine iteT ?_
  | refine iteF ?_
  | refine w_if2 (fun _ => ?_) (fun _ => ?_))
set_option hygiene false in
local macro_rules | `(tactic| tbr_iter "sc") => `(tactic| first | omega | decide)
set_option hygiene false in
local macro_rules | `(tactic| tbr_iter "at") => `(tactic| first | exact atI_0 | exact atI_1 | exact atI_2)
set_option hygiene false in
local macro_rules | `(tactic| tbr_iter "sql") => `(tactic| ((try dsimp only [L2.cxOf, L2.Cx.blk]); with_reducible first | assumption | exact SqL.of (by assumption)))
set_option hygiene false in
local macro_rules | `(tactic| tbr_iter "sqt") => `(tactic| ((try dsimp only [L2.cxOf, L2.Cx.blk]); with_reducible first | assumption | exact SqT.of (by assumption)))
set_option hygiene false in
local macro_rules | `(tactic| tbr_iter "v") => `(tactic| first
  | refine bv_add ?_
  | refine bv_sub ?_
  | ((with_reducible show BinV _ .Mult _ _ _ _); refine bv_mul (Or.inl ⟨by tbr_iter "sc", by tbr_iter "sc"⟩) ?_)
  | ((with_reducible show BinV _ .Mult _ _ _ _); refine bv_mul (Or.inr ⟨by tbr_iter "sc", by tbr_iter "sc"⟩) ?_)
  | ((with_reducible show BinV _ .Mod _ _ _ _); refine bv_mod (by tbr_iter "sc") ?_)
  | ((with_reducible show BinV _ .FloorDiv _ _ _ _); refine bv_fdiv ⟨by tbr_iter "sc", by tbr_iter "sc"⟩ ?_)
  | ((with_reducible show BinV _ .Pow _ _ _ _); refine bv_pow ⟨by decide, by decide +kernel⟩ ?_)
  | refine cv_lt ?_
  | refine cv_le ?_
  | refine cv_gt ?_
  | refine cv_ge ?_
  | ((with_reducible show CmpV _ .Eq _ _ _ _); refine cv_eq rfl ?_)
  | ((with_reducible show CmpV _ .NotEq _ _ _ _); refine cv_ne rfl ?_)
  | refine iv_list (by tbr_iter "sql") (by tbr_iter "at") ?_
  | refine iv_tup (by tbr_iter "sqt") (by tbr_iter "at") ?_
  | refine kv_len_seq (Or.inl (by tbr_iter "sql")) ?_
  | refine kv_len_seq (Or.inr (by tbr_iter "sqt")) ?_
  | refine kv_int ?_
  | refine kv_intB ?_
  | refine kv_abs ?_
  | refine kv_max2 rfl ?_
  | refine kv_min2 rfl ?_)
set_option hygiene false in
local macro_rules | `(tactic| tbr_iter "b") => `(tactic| first
  | refine ⟨_, rfl, iteT ?_⟩
  | refine ⟨_, rfl, iteF ?_⟩
  | refine iteT ?_
  | refine iteF ?_)
set_option hygiene false in
local macro_rules | `(tactic| tbr_iter "go") => `(tactic| repeat (first | tbr_iter "w" | tbr_iter "v" | tbr_iter "b"))
set_option hygiene false in
local macro_rules | `(tactic| tbr_iter "nof") => `(tactic| (intro d hd; cases d <;> first | rfl | exact absurd rfl (hd _)))
set_option hygiene false in
local macro_rules | `(tactic| tbr_iter "e1") => `(tactic| first | ((with_reducible show W _ _ _ _ _); tbr_iter "w") | ((with_reducible show WA _ _ _ _ _); tbr_iter "w") | ((with_reducible show WT _ _ _ _ _); tbr_iter "w") | ((with_reducible show WW _ _ _ _ _); tbr_iter "w") | tbr_iter "v")
set_option hygiene false in
local macro_rules | `(tactic| tbr_iter "ex") => `(tactic| repeat (tbr_iter "e1"))
set_option hygiene false in
local macro_rules | `(tactic| tbr_iter "z") => `(tactic| ((try dsimp only [L2.cxOf]); with_reducible first | exact T.z_IndexError | exact T.z_KeyError | exact T.z_ValueError | exact T.z_abs | exact T.z_all | exact T.z_bool | exact T.z_classmethod | exact T.z_dict | exact T.z_enumerate | exact T.z_int | exact T.z_isinstance | exact T.z_iter | exact T.z_len | exact T.z_list | exact T.z_max | exact T.z_min | exact T.z_property | exact T.z_range | exact T.z_repr | exact T.z_sorted | exact T.z_str | exact T.z_tuple | exact T.z_zip))
set_option hygiene false in
local macro_rules | `(tactic| tbr_iter "mg") => `(tactic| ((try dsimp only [L2.cxOf]); with_reducible first | exact T.c_ALPHABET | exact T.c_MAX_LETTERS | exact T.c_MAX_COLUMNS | exact T.c_MOST_VALUES | exact T.c_MAX_TABLES | exact T.c_IN | exact T.c_OUT | exact T.c_UNLIKE))
namespace Ax
/-- a new list of the same things in a drawn order -/
def spMixed (K : PySem.W.Frag) : Sp := fun vs H Q _ => ∃ (p l : Addr) (n : Nat) (xs : List V), vs = [.ref p, .ref l] ∧ H p = some (DiceO p n) ∧ n < 2 ^ 50 ∧ SqL K H l xs ∧ xs.length ≤ 1000 ∧
  ∀ ys q m H', ys.Perm xs → Sm p H H' → H' p = some (DiceO p m) → m ≤ n + xs.length → H q = none → H' q = some (.lst ys) → Q (.ref q) H'
/-- some of the things, in their order -/
def spSome (K : PySem.W.Frag) : Sp := fun vs H Q _ => ∃ (p l : Addr) (n : Nat) (few : Int) (xs : List V), vs = [.ref p, .ref l, .int few] ∧ H p = some (DiceO p n) ∧ n < 2 ^ 50 ∧ 0 < few ∧ few < 1000 ∧ SqL K H l xs ∧ xs.length ≤ 1000 ∧
  ∀ ys q m H', ys.Sublist xs → Sm p H H' → H' p = some (DiceO p m) → m ≤ n + xs.length → H q = none → H' q = some (.lst ys) → Q (.ref q) H'
/-- tuples of the texts zs -/
def RowOf (zs : List Str) (c : Nat) (H : Hp) (v : V) : Prop := ∃ r, RwV H v r ∧ r.length = c ∧ ∀ z ∈ r, z ∈ zs
theorem RowOf.sl {zs : List Str} {c : Nat} {H H' : Hp} {v : V} (h : RowOf zs c H v) (s : Sl H H') : RowOf zs c H' v := let ⟨r, a, b⟩ := h; ⟨r, a.sl s, b⟩
def spTuples (K : PySem.W.Frag) : Sp := fun vs H Q _ => ∃ (p : Addr) (c : Nat) (zs : List Str), vs = [.ref p, .int c] ∧ SqT K H p (zs.map V.str) ∧ c ≤ 3 ∧ zs.length ≤ 4 ∧
  ∀ us q H', us.length ≤ 64 → (∀ u ∈ us, RowOf zs c H' u) → Same H H' → H q = none → H' q = some (.lst us) → Q (.ref q) H'
section
variable {P : Program} {w : World} {K : PySem.W.Frag} {mg : Str → Option Value} {base : Heap}
set_option hygiene false in
local macro_rules | `(tactic| tbr_iter "var") => `(tactic| first | ((with_reducible show W _ (.Name "dice" _) _ _ _); refine w_var 0 rfl (by tbr_iter "vis") rfl ?_) | ((with_reducible show W _ (.Name "items" _) _ _ _); refine w_var 1 rfl (by tbr_iter "vis") rfl ?_) | ((with_reducible show W _ (.Name "left" _) _ _ _); refine w_var 2 rfl (by tbr_iter "vis") rfl ?_) | ((with_reducible show W _ (.Name "found" _) _ _ _); refine w_var 3 rfl (by tbr_iter "vis") rfl ?_))
set_option hygiene false in
local macro_rules | `(tactic| tbr_iter "set") => `(tactic| first | ((with_reducible show WB _ (.Assign [.Name "dice" _] _ _ :: _) _ _ _); refine wb_cons (ws_set 0 ?_ rfl nd)) | ((with_reducible show WB _ (.Assign [.Name "items" _] _ _ :: _) _ _ _); refine wb_cons (ws_set 1 ?_ rfl nd)) | ((with_reducible show WB _ (.Assign [.Name "left" _] _ _ :: _) _ _ _); refine wb_cons (ws_set 2 ?_ rfl nd)) | ((with_reducible show WB _ (.Assign [.Name "found" _] _ _ :: _) _ _ _); refine wb_cons (ws_set 3 ?_ rfl nd)))
theorem ok_law_mixed (T : Txt K mg) : Callee P w K mg base "_law_mixed" 3 ["dice", "items"] (spMixed K) := by
  refine def_ok T.f__law_mixed sc__law_mixed (fun _ _ _ _ _ _ us hl => match us, hl with | [_, _], _ => rfl) (fun vs H Q E h => ?_) fun f cdv A outer s H vs Q E hr h => ?_
  · obtain ⟨p, l, n, xs, rfl, _⟩ := h; rfl
  obtain ⟨p, l, n, xs, rfl, hp, hn, hl, hx, k⟩ := h
  have nd := sc__law_mixed.nd
  have hu : (cxOf (L2.CX P w) P w K mg base n__law_mixed "_law_mixed" (defScope s__law_mixed) f cdv A outer s H E).A.units < cLine := by
    have := room64 hr
    show (A.deeper _).units < cLine
    omega
  refine wb_cons (ws_par 2 3 (wa_cons (w_callTy T.z_list (wa_cons ?_))) rfl rfl nd)
  tbr_iter "go"
  refine kv_listS (.inl hl) fun pl H1 s1 n1 h1 => wa_cons ?_
  tbr_iter "go"
  refine ⟨zero_line, fun pf H2 s2 n2 h2 => wa_nil ⟨_, _, rfl, ?_⟩⟩
  have n2' := same_nul s1 n2
  have h12 := s2 _ _ h1
  have plf : pl ≠ pf := fun z => by rw [z, n2] at h1; cases h1
  have ppl : p ≠ pl := ne_of_none hp n1
  have ppf : p ≠ pf := ne_of_none hp n2'
  have s02 := s1.trans s2
  refine wb_cons (ws_while (fun m σ Hc => σ = [some (.ref p), some (.ref l), some (.ref pl), some (.ref pf)] ∧ ∃ left found d, Sm p H Hc ∧ Hc p = some (DiceO p d) ∧ d + left.length ≤ n + xs.length ∧ Hc pl = some (.lst left) ∧ Hc pf = some (.lst found) ∧ (found ++ left).Perm xs ∧ left.length = m) ⟨xs.length, rfl, xs, [], n, Sm.of hp s02, s02 _ _ hp, Nat.le_refl _, h12, h2, by simp, rfl⟩ ?_ (passes_of rfl))
  · rintro m σ Hc ⟨rfl, left, found, d, sm, hd, hdl, hpl, hpf, perm, rfl⟩
    have hll : left.length ≤ xs.length := by
      have := perm.length_eq
      rw [List.length_append] at this
      omega
    refine wt_cmp ?_
    tbr_iter "go"
    refine ⟨zero_line, fun pe He se ne hpe => cv_ne_nil hu (SqL.of (se _ _ hpl)) (SqL.of hpe) ⟨_, rfl, w_if2 (fun c => ?_) (fun c => ?_)⟩⟩
    · have hne : left ≠ [] := by
        rintro rfl
        cases c
      have hpos := List.length_pos_iff.mpr hne
      have sme := sm.same se
      refine wb_cons (ws_expr (w_bm1 PySem.F.plainAttrs_list PySem.F.slot_list_append PySem.F.type_list_append ?_))
      tbr_iter "go"
      refine ⟨tyV_list ⟨pf, _, rfl, SqL.of (se _ _ hpf)⟩, ?_⟩
      refine w_bm1 PySem.F.plainAttrs_list PySem.F.slot_list_pop PySem.F.type_list_pop ?_
      tbr_iter "go"
      refine ⟨tyV_list ⟨pl, _, rfl, SqL.of (se _ _ hpl)⟩, ?_⟩
      refine w_call (ok_law_roll T) hr passL ?_
      tbr_iter "go"
      refine kv_len_seq (Or.inl (SqL.of (se _ _ hpl))) (wa_nil ⟨p, d, _, rfl, se _ _ hd, by omega, by omega, by omega, fun r H3 s3 h3 r0 r1 => ?_⟩)
      have hpl3 := s3.lst (se _ _ hpl)
      have hpf3 := s3.lst (se _ _ hpf)
      have hr3 : r.toNat < left.length := by omega
      refine mv_popAt hpl3 r0 hr3 (by omega) (List.getElem?_eq_getElem hr3) ?_
      refine mv_append ((upd_ne plf.symm).trans hpf3) ?_ ?_
      · have := perm.length_eq
        rw [List.length_append] at this
        exact Nat.lt_of_le_of_lt (show found.length ≤ 1000 by omega) (by decide)
      refine wb_nil ⟨left.length - 1, by omega, rfl, left.eraseIdx r.toNat, found ++ [left[r.toNat]], d + 1, (Sm.new (Sm.new (sme.trans s3) n1) n2'), ?_, ?_, ?_, upd_same, ?_, ?_⟩
      · rw [upd_ne ppf, upd_ne ppl]
        exact h3
      · rw [List.length_eraseIdx_of_lt hr3]
        omega
      · rw [upd_ne plf, upd_same]
      · have e1 : (left[r.toNat] :: left.eraseIdx r.toNat).Perm left := by
          rw [List.eraseIdx_eq_take_drop_succ]
          have e2 : left.take r.toNat ++ left[r.toNat] :: left.drop (r.toNat + 1) = left := by rw [List.getElem_cons_drop, List.take_append_drop]
          exact List.perm_middle.symm.trans (by rw [e2])
        rw [List.append_assoc]
        exact (List.Perm.append_left found e1).trans perm
      · rw [List.length_eraseIdx_of_lt hr3]
    · have hnil : left = [] := by
        cases left with
        | nil => rfl
        | cons _ _ => cases c
      subst hnil
      rw [List.append_nil] at perm
      tbr_iter "go"
      exact k found pf d He perm (sm.same se) (se _ _ hd) hdl n2' (se _ _ hpf)
set_option hygiene false in
local macro_rules | `(tactic| tbr_iter "var") => `(tactic| first | ((with_reducible show W _ (.Name "dice" _) _ _ _); refine w_var 0 rfl (by tbr_iter "vis") rfl ?_) | ((with_reducible show W _ (.Name "items" _) _ _ _); refine w_var 1 rfl (by tbr_iter "vis") rfl ?_) | ((with_reducible show W _ (.Name "few" _) _ _ _); refine w_var 2 rfl (by tbr_iter "vis") rfl ?_) | ((with_reducible show W _ (.Name "item" _) _ _ _); refine w_var 3 rfl (by tbr_iter "vis") rfl ?_))
set_option hygiene false in
local macro_rules | `(tactic| tbr_iter "set") => `(tactic| first | ((with_reducible show WB _ (.Assign [.Name "dice" _] _ _ :: _) _ _ _); refine wb_cons (ws_set 0 ?_ rfl nd)) | ((with_reducible show WB _ (.Assign [.Name "items" _] _ _ :: _) _ _ _); refine wb_cons (ws_set 1 ?_ rfl nd)) | ((with_reducible show WB _ (.Assign [.Name "few" _] _ _ :: _) _ _ _); refine wb_cons (ws_set 2 ?_ rfl nd)) | ((with_reducible show WB _ (.Assign [.Name "item" _] _ _ :: _) _ _ _); refine wb_cons (ws_set 3 ?_ rfl nd)))
theorem ok_law_some (T : Txt K mg) : Callee P w K mg base "_law_some" 3 ["dice", "items", "few"] (spSome K) := by
  refine def_ok T.f__law_some sc__law_some (fun _ _ _ _ _ _ us hl => match us, hl with | [_, _, _], _ => rfl) (fun vs H Q E h => ?_) fun f cdv A outer s H vs Q E hr h => ?_
  · obtain ⟨p, l, n, few, xs, rfl, _⟩ := h; rfl
  obtain ⟨p, l, n, few, xs, rfl, hp, hn, hf0, hf1, hl, hx, k⟩ := h
  have nd := sc__law_some.nd
  refine wb_cons (ws_ret (w_lcI [("item", 3)] (gName 3) (tWT _ _ _) (fun _ _ _ _ _ => pg_name nd rfl (Or.inl rfl) (Or.inr rfl)) pts_wt rfl nd (by tbr_iter "blk") (wi_val ?_)))
  tbr_iter "go"
  obtain ⟨G, wk, g0, gs⟩ := seqItM_list (p := p) hl
  refine itv_list hl ⟨xs.length, G, _, wk, Nat.lt_of_le_of_lt hx (by decide), fun D nD => ⟨fun i ys H' => ∃ m, Sm p H H' ∧ H' p = some (DiceO p m) ∧ m ≤ n + i ∧ ys.Sublist (xs.take i), ⟨n, (Sm.refl hp).new nD, (upd_ne (ne_of_none hp nD)).trans hp, Nat.le_refl _, by simp⟩, fun i ys H' _ _ ⟨m, sm, _⟩ => gs _ sm, fun ys H' hD ⟨m, sm, hm, hb, sub⟩ => k ys D m H' (by rw [List.take_length] at sub; exact sub) sm hm hb nD hD, ?_⟩⟩
  rintro i ys x Ha Hb hi hD ⟨m, sm, hm, hb, sub⟩ ⟨e, hv⟩ Kf Kt kf kt
  subst e
  have etk : xs.take (i + 1) = xs.take i ++ [x] := by rw [List.take_add_one, hv] <;> rfl
  refine ⟨rfl, fun _ _ _ _ _ => wt_cmp (w_call (ok_law_roll T) hr passL ?_)⟩
  tbr_iter "go"
  refine ⟨p, m, few, rfl, hm, by omega, hf0, by omega, fun r H3 s3 h3 r0 r1 => ?_⟩
  tbr_iter "go"
  refine ⟨_, rfl, w_if2 (fun c => ?_) (fun c => ?_)⟩
  · intro _ _ _ _ _
    tbr_iter "go"
    refine kt _ _ (s3.lst hD) ⟨m + 1, (sm.trans s3).new nD, (upd_ne (ne_of_none hp nD)).trans h3, by omega, ?_⟩
    rw [etk]
    exact sub.append (List.Sublist.refl _)
  · refine kf _ (s3.lst hD) ⟨m + 1, sm.trans s3, h3, by omega, ?_⟩
    rw [etk]
    exact sub.trans (List.sublist_append_left _ _)
set_option hygiene false in
local macro_rules | `(tactic| tbr_iter "var") => `(tactic| first | ((with_reducible show W _ (.Name "items" _) _ _ _); refine w_var 0 rfl (by tbr_iter "vis") rfl ?_) | ((with_reducible show W _ (.Name "columns" _) _ _ _); refine w_var 1 rfl (by tbr_iter "vis") rfl ?_) | ((with_reducible show W _ (.Name "found" _) _ _ _); refine w_var 2 rfl (by tbr_iter "vis") rfl ?_) | ((with_reducible show W _ (.Name "turn" _) _ _ _); refine w_var 3 rfl (by tbr_iter "vis") rfl ?_) | ((with_reducible show W _ (.Name "longer" _) _ _ _); refine w_var 4 rfl (by tbr_iter "vis") rfl ?_) | ((with_reducible show W _ (.Name "one" _) _ _ _); refine w_var 5 rfl (by tbr_iter "vis") rfl ?_) | ((with_reducible show W _ (.Name "item" _) _ _ _); refine w_var 6 rfl (by tbr_iter "vis") rfl ?_))
set_option hygiene false in
local macro_rules | `(tactic| tbr_iter "set") => `(tactic| first | ((with_reducible show WB _ (.Assign [.Name "items" _] _ _ :: _) _ _ _); refine wb_cons (ws_set 0 ?_ rfl nd)) | ((with_reducible show WB _ (.Assign [.Name "columns" _] _ _ :: _) _ _ _); refine wb_cons (ws_set 1 ?_ rfl nd)) | ((with_reducible show WB _ (.Assign [.Name "found" _] _ _ :: _) _ _ _); refine wb_cons (ws_set 2 ?_ rfl nd)) | ((with_reducible show WB _ (.Assign [.Name "turn" _] _ _ :: _) _ _ _); refine wb_cons (ws_set 3 ?_ rfl nd)) | ((with_reducible show WB _ (.Assign [.Name "longer" _] _ _ :: _) _ _ _); refine wb_cons (ws_set 4 ?_ rfl nd)) | ((with_reducible show WB _ (.Assign [.Name "one" _] _ _ :: _) _ _ _); refine wb_cons (ws_set 5 ?_ rfl nd)) | ((with_reducible show WB _ (.Assign [.Name "item" _] _ _ :: _) _ _ _); refine wb_cons (ws_set 6 ?_ rfl nd)))
theorem ok_law_tuples (T : Txt K mg) : Callee P w K mg base "_law_tuples" 1 ["items", "columns"] (spTuples K) := by
  refine def_ok T.f__law_tuples sc__law_tuples (fun _ _ _ _ _ _ us hl => match us, hl with | [_, _], _ => rfl) (fun vs H Q E h => ?_) fun f cdv A outer s H vs Q E hr h => ?_
  · obtain ⟨p, c, zs, rfl, _⟩ := h; rfl
  obtain ⟨p, c, zs, rfl, hp, hc, hz, k⟩ := h
  have nd := sc__law_tuples.nd
  refine wb_cons (ws_set 2 (w_lst (wa_cons (w_tup ?_))) rfl nd)
  tbr_iter "go"
  refine ⟨zero_line, fun pe H1 s1 n1 h1 => wa_nil ⟨one_line, fun pf H2 s2 n2 h2 => ?_⟩⟩
  have s02 := s1.trans s2
  refine wb_cons (ws_for 3 (wi_range1 T.z_range ?_) rfl nd (passes_of rfl))
  tbr_iter "go"
  refine ⟨c, rfl, by omega, by omega, c, _, _, walk_range (lo := 0) (n := c), fun i σ Hc => ∃ q us x1 x2 x3 x4, σ = [some (.ref p), some (.int c), some (.ref q), x1, x2, x3, x4] ∧ Same H Hc ∧ H q = none ∧ Hc q = some (.lst us) ∧ us.length ≤ 4 ^ i ∧ ∀ u ∈ us, RowOf zs i Hc u, ?_, fun _ _ _ _ _ => trivial, ?_, ?_⟩
  · refine ⟨pf, _, none, none, none, none, rfl, s02, same_nul s1 n2, h2, Nat.le_refl 1, fun u hu => ?_⟩
    rw [List.mem_singleton.mp hu]
    exact ⟨[], ⟨pe, rfl, s2 _ _ h1⟩, rfl, by simp⟩
  · rintro i v σ Hc Hc' hi ⟨q, us, x1, x2, x3, x4, rfl, sm, nq, hq, hul, hur⟩ ⟨e, rfl⟩
    subst e
    refine wb_cons (ws_set 4 (w_lst (wa_nil ⟨zero_line, fun pl H3 s3 n3 h3 => ?_⟩)) rfl nd)
    refine wb_cons (ws_for 5 (wi_val (w_callTy T.z_list (wa_cons ?_))) rfl nd (passes_of rfl))
    tbr_iter "go"
    refine kv_listS (.inl (SqL.of (s3 _ _ hq))) fun pc H4 s4 n4 h4 => ?_
    have s03 := sm.trans s3
    have s04 := s03.trans s4
    have nl : H pl = none := same_nul sm n3
    have nc : H pc = none := same_nul s03 n4
    have pcl : pc ≠ pl := fun z => by rw [z, h3] at n4; cases n4
    have ul : us.length ≤ 64 := by
      refine Nat.le_trans hul ?_
      have : i = 0 ∨ i = 1 ∨ i = 2 := by omega
      rcases this with rfl | rfl | rfl <;> decide
    refine itv_list (SqL.of h4) ⟨us.length, _, _, walk_list (K := K) (xs := us), fun j σ Hd => ∃ vs y1 y2, σ = [some (.ref p), some (.int c), some (.ref q), some (.int (0 + (i : Nat))), some (.ref pl), y1, y2] ∧ Same H Hd ∧ Hd pc = some (.lst us) ∧ Hd pl = some (.lst vs) ∧ vs.length ≤ 4 * j ∧ (∀ u ∈ us, RowOf zs i Hd u) ∧ ∀ u ∈ vs, RowOf zs (i + 1) Hd u, ?_, fun _ _ _ _ ⟨_, _, _, _, _, h, _⟩ => SqL.of h, ?_, ?_⟩
    · exact ⟨[], x3, x4, rfl, s04, h4, s4 _ _ h3, Nat.le_refl _, fun u hu => (hur u hu).sl (Sl.of (s3.trans s4)), by simp⟩
    · rintro j x σ Hd Hd' hj ⟨vs, y1, y2, rfl, sd, hpc, hpl, hvl, hus, hvs⟩ ⟨e, hx⟩
      subst e
      obtain ⟨r, ⟨b, rfl, hb⟩, hrl, hrz⟩ := hus x (List.mem_of_getElem? hx)
      refine wb_cons (ws_expr (w_bm1 PySem.F.plainAttrs_list PySem.F.slot_list_extend PySem.F.type_list_extend ?_))
      tbr_iter "go"
      refine ⟨tyV_list ⟨pl, _, rfl, SqL.of hpl⟩, ?_⟩
      refine w_lcI [("item", 6)] (gName 6) tYes (fun _ _ _ _ _ => pg_name nd rfl (Or.inl rfl) (Or.inr rfl)) (fun _ _ _ _ _ => pts_nil) rfl nd (by tbr_iter "blk") (lcR_I mono_name (wi_val ?_))
      tbr_iter "go"
      have hp' := same_tup sd hp
      refine itv_tup hp' ⟨_, _, itN_seq (seqIt_tup hp'), ?_, fun D i' y H' => RowOf zs (i + 1) H' y ∧ y ≠ .ref D, fun D i' y Ha Hb _ _ ⟨⟨r', ⟨b', e1, e2⟩, e3⟩, ne⟩ bt => ⟨⟨r', ⟨b', e1, bt _ _ (fun z => ne (by rw [e1, z])) e2⟩, e3⟩, ne⟩, fun D i' v H5 hi5 s5 nD hacc hv => ?_, fun D ws H5 s5 n5 h5 hwl hwR => ?_⟩
      · rw [List.length_map]
        exact Nat.lt_of_le_of_lt hz (by decide)
      · have hv : (zs.map V.str)[i']? = some v := hv
        rw [List.getElem?_map] at hv
        obtain ⟨z, ez, rfl⟩ := Option.map_eq_some_iff.mp hv
        obtain ⟨acc, hacc⟩ := hacc
        refine ⟨rfl, fun _ _ _ _ _ => ?_⟩
        tbr_iter "go"
        refine ⟨one_line, fun pt H6 s6 n6 h6 => bv_catW (SqT.of (s6 _ _ (s5 _ _ hb))) h6 (by simp) ?_ fun t H7 s7 h7 => ⟨s6.trans s7, ⟨r ++ [z], ⟨t, rfl, ?_⟩, ?_, ?_⟩, fun e => ?_⟩⟩
        · rw [List.length_map, hrl]
          exact Nat.le_trans (show i + 1 ≤ 4 by omega) (by decide)
        · rw [h7, List.map_append] <;> rfl
        · rw [List.length_append, hrl] <;> rfl
        · intro z' hz'
          rcases List.mem_append.mp hz' with h | h
          · exact hrz z' h
          · rw [List.mem_singleton.mp h]
            exact List.mem_of_getElem? ez
        · cases e
          rw [(s6.trans s7) _ _ hacc] at h7
          cases h7
      · rw [List.length_map] at hwl
        have hpl5 := s5 _ _ hpl
        refine mv_extend hpl5 h5 (Nat.le_trans (show vs.length + ws.length ≤ 1000 by omega) (by decide)) ?_
        have sl : Sl H5 (upd H5 pl (.lst (vs ++ ws))) := (Sl.refl H5).lst hpl5
        refine wb_nil ⟨vs ++ ws, _, _, rfl, same_upd (sd.trans s5) nl, (upd_ne pcl).trans (s5 _ _ hpc), upd_same, ?_, fun u hu => (hus u hu).sl ((Sl.of s5).trans sl), fun u hu => ?_⟩
        · rw [List.length_append]
          omega
        · rcases List.mem_append.mp hu with h | h
          · exact (hvs u h).sl ((Sl.of s5).trans sl)
          · obtain ⟨i', hi'⟩ := List.mem_iff_getElem?.mp h
            exact (hwR i' u hi').1.sl sl
    · rintro σ Hd ⟨vs, y1, y2, rfl, sd, hpc, hpl, hvl, hus, hvs⟩
      refine wb_cons (ws_set 2 (w_callTy T.z_list (wa_cons ?_)) rfl nd)
      tbr_iter "go"
      refine kv_listS (.inl (SqL.of hpl)) fun q2 H6 s6 n6 h6 => ?_
      refine wb_nil ⟨q2, vs, _, _, _, _, rfl, sd.trans s6, same_nul sd n6, h6, ?_, fun u hu => (hvs u hu).sl (Sl.of s6)⟩
      rw [Nat.pow_succ]
      omega
  · rintro σ Hc ⟨q, us, x1, x2, x3, x4, rfl, sm, nq, hq, hul, hur⟩
    tbr_iter "go"
    refine k us q Hc (Nat.le_trans hul ?_) hur sm nq hq
    have : c = 0 ∨ c = 1 ∨ c = 2 ∨ c = 3 := by omega
    rcases this with rfl | rfl | rfl | rfl <;> decide
end
end Ax
end
section
set_option maxHeartbeats 4000000
open PySem PySem.Spec PyProof.Rows L2 Ax
set_option hygiene false in
local macro_rules | `(tactic| tbr_iter "boot") => `(tactic| with_reducible first | exact Ax.b_len | exact Ax.b_all | exact Ax.b_any | exact Ax.b_sorted | exact Ax.b_isinstance | exact Ax.b_abs | exact Ax.b_max | exact Ax.b_min | exact Ax.b_sum | exact Ax.b_repr | exact Ax.b_iter | exact Ax.b_ord | exact Ax.b_chr | exact Ax.b_str | exact Ax.b_int | exact Ax.b_bool | exact Ax.b_tuple | exact Ax.b_list | exact Ax.b_dict | exact Ax.b_set | exact Ax.b_range | exact Ax.b_enumerate | exact Ax.b_zip)
set_option hygiene false in
local macro_rules | `(tactic| tbr_iter "vis") => `(tactic| first | exact Or.inl rfl | exact Or.inr (Or.inl rfl) | exact Or.inr (Or.inr rfl))
set_option hygiene false in
local macro_rules | `(tactic| tbr_iter "w") => `(tactic| first
  | refine wb_cons ?_
  | refine wb_nil ?_
  | refine ws_ret ?_
  | refine ws_if ?_
  | refine ws_sub ?_
  | refine wa_cons ?_
  | refine wa_nil ?_
  | refine w_int ?_
  | refine w_str ?_
  | refine w_bl ?_
  | refine w_non ?_
  | tbr_iter "var"
  | refine w_bin ?_
  | refine w_cmp ?_
  | refine w_chain ?_
  | refine w_and ?_
  | refine w_or ?_
  | refine w_one ?_
  | refine w_not ?_
  | refine w_ix ?_
  | refine w_ifExp ?_
  | refine w_tup ?_
  | refine w_lst ?_
  | refine wt_not ?_
  | refine wt_bool ?_
  | refine ww_and ?_
  | refine ww_and1 ?_
  | refine ww_or ?_
  | refine ww_or1 ?_
  | refine wt_cmp ?_
  | refine wt_val ?_
  | tbr_iter "call"
  | (refine w_glob (by tbr_iter "mg") ?_)
  | (refine w_callB (by tbr_iter "z") ?_)
  | (refine w_callTy (by tbr_iter "z") ?_)
  | (refine w_bltT (by tbr_iter "z") ?_))
set_option hygiene false in
local macro_rules | `(tactic| tbr_iter "blk") => `(tactic| first | exact blkOk_by (by dsimp only [cxOf, envOfC]; decide +kernel))
set_option hygiene false in
local macro_rules | `(tactic| tbr_iter "iff") => `(tactic| first
  | refine iteT ?_
  | refine iteF ?_
  | refine w_if2 (fun _ => ?_) (fun _ => ?_))
set_option hygiene false in
local macro_rules | `(tactic| tbr_iter "sc") => `(tactic| first | omega | decide)
set_option hygiene false in
local macro_rules | `(tactic| tbr_iter "at") => `(tactic| first | exact atI_0 | exact atI_1 | exact atI_2)
set_option hygiene false in
local macro_rules | `(tactic| tbr_iter "sql") => `(tactic| ((try dsimp only [L2.cxOf, L2.Cx.blk]); with_reducible first | assumption | exact SqL.of (by assumption)))
set_option hygiene false in
local macro_rules | `(tactic| tbr_iter "sqt") => `(tactic| ((try dsimp only [L2.cxOf, L2.Cx.blk]); with_reducible first | assumption | exact SqT.of (by assumption)))
set_option hygiene false in
local macro_rules | `(tactic| tbr_iter "v") => `(tactic| first
  | refine bv_add ?_
  | refine bv_sub ?_
  | ((with_reducible show BinV _ .Mult _ _ _ _); refine bv_mul (Or.inl ⟨by tbr_iter "sc", by tbr_iter "sc"⟩) ?_)
  | ((with_reducible show BinV _ .Mult _ _ _ _); refine bv_mul (Or.inr ⟨by tbr_iter "sc", by tbr_iter "sc"⟩) ?_)
  | ((with_reducible show BinV _ .Mod _ _ _ _); refine bv_mod (by tbr_iter "sc") ?_)
  | ((with_reducible show BinV _ .FloorDiv _ _ _ _); refine bv_fdiv ⟨by tbr_iter "sc", by tbr_iter "sc"⟩ ?_)
  | ((with_reducible show BinV _ .Pow _ _ _ _); refine bv_pow ⟨by decide, by decide +kernel⟩ ?_)
  | refine cv_lt ?_
  | refine cv_le ?_
  | refine cv_gt ?_
  | refine cv_ge ?_
  | ((with_reducible show CmpV _ .Eq _ _ _ _); refine cv_eq rfl ?_)
  | ((with_reducible show CmpV _ .NotEq _ _ _ _); refine cv_ne rfl ?_)
  | refine iv_list (by tbr_iter "sql") (by tbr_iter "at") ?_
  | refine iv_tup (by tbr_iter "sqt") (by tbr_iter "at") ?_
  | refine kv_len_seq (Or.inl (by tbr_iter "sql")) ?_
  | refine kv_len_seq (Or.inr (by tbr_iter "sqt")) ?_
  | refine kv_int ?_
  | refine kv_intB ?_
  | refine kv_abs ?_
  | refine kv_max2 rfl ?_
  | refine kv_min2 rfl ?_)
set_option hygiene false in
local macro_rules | `(tactic| tbr_iter "b") => `(tactic| first
  | refine ⟨_, rfl, iteT ?_⟩
  | refine ⟨_, rfl, iteF ?_⟩
  | refine iteT ?_
  | refine iteF ?_)
set_option hygiene false in
local macro_rules | `(tactic| tbr_iter "go") => `(tactic| repeat (first | tbr_iter "w" | tbr_iter "v" | tbr_iter "b"))
set_option hygiene false in
local macro_rules | `(tactic| tbr_iter "nof") => `(tactic| (intro d hd; cases d <;> first | rfl | exact absurd rfl (hd _)))
set_option hygiene false in
local macro_rules | `(tactic| tbr_iter "e1") => `(tactic| first | ((with_reducible show W _ _ _ _ _); tbr_iter "w") | ((with_reducible show WA _ _ _ _ _); tbr_iter "w") | ((with_reducible show WT _ _ _ _ _); tbr_iter "w") | ((with_reducible show WW _ _ _ _ _); tbr_iter "w") | tbr_iter "v")
set_option hygiene false in
local macro_rules | `(tactic| tbr_iter "ex") => `(tactic| repeat (tbr_iter "e1"))
set_option hygiene false in
local macro_rules | `(tactic| tbr_iter "z") => `(tactic| ((try dsimp only [L2.cxOf]); with_reducible first | exact T.z_IndexError | exact T.z_KeyError | exact T.z_ValueError | exact T.z_abs | exact T.z_all | exact T.z_bool | exact T.z_classmethod | exact T.z_dict | exact T.z_enumerate | exact T.z_int | exact T.z_isinstance | exact T.z_iter | exact T.z_len | exact T.z_list | exact T.z_max | exact T.z_min | exact T.z_property | exact T.z_range | exact T.z_repr | exact T.z_sorted | exact T.z_str | exact T.z_tuple | exact T.z_zip))
set_option hygiene false in
local macro_rules | `(tactic| tbr_iter "mg") => `(tactic| ((try dsimp only [L2.cxOf]); with_reducible first | exact T.c_ALPHABET | exact T.c_MAX_LETTERS | exact T.c_MAX_COLUMNS | exact T.c_MOST_VALUES | exact T.c_MAX_TABLES | exact T.c_IN | exact T.c_OUT | exact T.c_UNLIKE))
namespace Ax
theorem TabIs.bt {K : PySem.W.Frag} {H H' : Hp} {d a : Addr} {c : Nat} {rows : List (List Str)} {kvs : List (Key × V)} (h : TabIs K H a c rows) (hd : H d = some (.dK kvs)) (b : Bt d H H') : TabIs K H' a c rows := by
  have nd : ∀ y o, H y = some o → (∀ k, o ≠ .dK k) → y ≠ d := fun y o hy n z => by
    rw [z, hd] at hy
    cases hy
    exact n _ rfl
  obtain ⟨dx, q, e, h1, ⟨vs, h2, h3⟩, kv, h4, h5⟩ := h
  exact ⟨dx, q, e, b _ _ (nd _ _ h1 (fun _ z => nomatch z)) h1, ⟨vs, b _ _ (nd _ _ h2 (fun _ z => nomatch z)) h2, h3.imp fun _ _ z => z.bt b (fun xs z => by rw [hd] at z; cases z)⟩, kv, b _ _ (nd _ _ h4 (fun _ z => nomatch z)) h4, h5⟩
/-- z is a table over zs -/
def TabFit (K : PySem.W.Frag) (H : Hp) (zs : List Str) (z : V) : Prop := ∃ (a : Addr) (c : Nat) (rows : List (List Str)), z = .ref a ∧ TabIs K H a c rows ∧ rows.flatten.length < sizeLine ∧ ∀ t ∈ rows.flatten, t ∈ zs
theorem TabFit.same {K : PySem.W.Frag} {H H' : Hp} {zs : List Str} {z : V} (h : TabFit K H zs z) (s : Same H H') : TabFit K H' zs z := let ⟨a, c, rows, e, t, f⟩ := h; ⟨a, c, rows, e, t.same s, f⟩
theorem TabFit.bt {K : PySem.W.Frag} {H H' : Hp} {d : Addr} {kvs : List (Key × V)} {zs : List Str} {z : V} (h : TabFit K H zs z) (hd : H d = some (.dK kvs)) (b : Bt d H H') : TabFit K H' zs z := let ⟨a, c, rows, e, t, f⟩ := h; ⟨a, c, rows, e, t.bt hd b, f⟩
/-- names of tables, tables over zs -/
def TabsFit (K : PySem.W.Frag) (H : Hp) (zs : List Str) (kvs : List (Key × V)) : Prop := ∀ kz ∈ kvs, ∃ n, kz.1 = .inr n ∧ isNameS n = true ∧ TabFit K H zs kz.2
theorem TabsFit.same {K : PySem.W.Frag} {H H' : Hp} {zs : List Str} {kvs : List (Key × V)} (h : TabsFit K H zs kvs) (s : Same H H') : TabsFit K H' zs kvs := fun kz m => let ⟨n, a, b, c⟩ := h kz m; ⟨n, a, b, c.same s⟩
/-- names of values -/
def ValsOk (zs : List Str) : Prop := zs.Nodup ∧ 1 ≤ zs.length ∧ zs.length ≤ 6 ∧ ∀ z ∈ zs, isNameS z = true
theorem keys_text {K : PySem.W.Frag} {H : Hp} {zs : List Str} : ∀ {kvs : List (Key × V)}, TabsFit K H zs kvs → ∃ ns : List Str, kvs.map (·.1) = ns.map Sum.inr ∧ ∀ n ∈ ns, isNameS n = true
  | [], _ => ⟨[], rfl, by simp⟩
  | (k, v) :: kvs, h => by
    obtain ⟨n, e, hn, _⟩ := h _ List.mem_cons_self
    obtain ⟨ns, e2, h2⟩ := keys_text (kvs := kvs) fun kz m => h kz (List.mem_cons_of_mem _ m)
    refine ⟨n :: ns, by rw [List.map_cons, e2, List.map_cons, e], fun z hz => ?_⟩
    rcases List.mem_cons.mp hz with rfl | hz
    · exact hn
    · exact h2 z hz
theorem putsL_id {κ : Type} [DecidableEq κ] {ps : List (κ × V)} (h : (ps.map (·.1)).Nodup) : putsL ps = ps := by
  have key : ∀ (zs d : List (κ × V)), ((d ++ zs).map (·.1)).Nodup → zs.foldl (fun d p => putK d p.1 p.2) d = d ++ zs := by
    intro zs
    induction zs with
    | nil => intro d _; simp
    | cons z zs ih =>
      intro d n
      have c : z.1 ∉ d.map (·.1) := fun c => by
        rw [List.map_append] at n
        exact (List.nodup_append.mp n).2.2 z.1 c z.1 (List.mem_map_of_mem List.mem_cons_self) rfl
      have e : putK d z.1 z.2 = d ++ [z] := by
        unfold putK
        have e0 : (d.any fun kv => decide (kv.1 = z.1)) = false := List.any_eq_false.mpr fun kv hkv h => c (List.mem_map.mpr ⟨kv, hkv, of_decide_eq_true h⟩)
        rw [e0, if_neg Bool.false_ne_true]
      rw [List.foldl_cons, e, ih (d ++ [z]) (by simpa using n)]
      simp
  have e := key ps [] (by simpa using h)
  rw [List.nil_append] at e
  exact e
theorem valV_mem {κ : Type} [DecidableEq κ] {kvs : List (κ × V)} {k : κ} (h : k ∈ kvs.map (·.1)) : ∃ v, valV kvs k = some v ∧ (k, v) ∈ kvs := by
  cases e : valV kvs k with
  | none => exact absurd h (valV_not e)
  | some v =>
    refine ⟨v, rfl, ?_⟩
    unfold valV at e
    obtain ⟨p, hp, rfl⟩ := Option.map_eq_some_iff.mp e
    have h1 := List.find?_some hp
    have h2 := List.mem_of_find?_eq_some hp
    have h1 : p.1 = k := of_decide_eq_true h1
    rw [← h1]
    exact h2
/-- the database at a (of the class n): its tables' names in their order -/
structure DbIs (K : PySem.W.Frag) (H : Hp) (n : Str) (a : Addr) (zs ns : List Str) : Prop where
  ex : ∃ dx q d kvs, H a = some (.ins (He.ga K n) dx [("own_values", .ref q), ("own_tables", .ref d)]) ∧ H q = some (.tup (zs.map V.str)) ∧ H d = some (.dK kvs) ∧ kvs.map (·.1) = ns.map Sum.inr ∧ TabsFit K H zs kvs
theorem DbIs.same {K : PySem.W.Frag} {H H' : Hp} {n : Str} {a : Addr} {zs ns : List Str} (h : DbIs K H n a zs ns) (s : Same H H') : DbIs K H' n a zs ns :=
  let ⟨dx, q, d, kvs, h1, h2, h3, h4, h5⟩ := h.ex; ⟨dx, q, d, kvs, s _ _ h1, s _ _ h2, s _ _ h3, h4, h5.same s⟩
/-- texts in their order -/
def sortT (zs : List Str) : List Str := zs.mergeSort (PySem.W.dataLe false PyData.str)
def spAreValues (K : PySem.W.Frag) : Sp := fun vs H Q _ => ∃ (p : Addr) (zs : List Str), vs = [.ref p] ∧ SqT K H p (zs.map V.str) ∧ ValsOk zs ∧ ∀ H2, Same H H2 → Q (.bl true) H2
def spAreTables (K : PySem.W.Frag) : Sp := fun vs H Q _ => ∃ (d p : Addr) (zs : List Str) (kvs : List (Key × V)), vs = [.ref d, .ref p] ∧ H d = some (.dK kvs) ∧ kvs.length ≤ 4 ∧ SqT K H p (zs.map V.str) ∧ ValsOk zs ∧ TabsFit K H zs kvs ∧ ∀ H2, Same H H2 → Q (.bl true) H2
def spParts (K : PySem.W.Frag) : Sp := fun vs H Q _ => ∃ (d p : Addr) (zs : List Str) (kvs : List (Key × V)), vs = [.ref p, .ref d] ∧ H d = some (.dK kvs) ∧ kvs.length ≤ 4 ∧ SqT K H p (zs.map V.str) ∧ ValsOk zs ∧ TabsFit K H zs kvs ∧ ∀ H2, Same H H2 → Q .non H2
/-- what the two makers do at the new x -/
def spDbI (K : PySem.W.Frag) (n : Str) : Sp := fun vs H Q _ => ∃ (x dx d p : Addr) (zs : List Str) (kvs : List (Key × V)), vs = [.ref x, .ref p, .ref d] ∧ H x = some (.ins (He.ga K n) dx []) ∧ H d = some (.dK kvs) ∧ kvs.length ≤ 4 ∧ (kvs.map (·.1)).Nodup ∧ SqT K H p (zs.map V.str) ∧ ValsOk zs ∧ TabsFit K H zs kvs ∧
  ∀ H' ns, Bt x H H' → DbIs K H' n x (sortT zs) ns → (ns.map Sum.inr).Perm (kvs.map (·.1)) → (ns.Pairwise fun a b => strLe a b = true) → Q .non H'
section
variable {P : Program} {w : World} {K : PySem.W.Frag} {mg : Str → Option Value} {base : Heap}
set_option hygiene false in
local macro_rules | `(tactic| tbr_iter "var") => `(tactic| first | ((with_reducible show W _ (.Name "value" _) _ _ _); refine w_var 0 rfl (by tbr_iter "vis") rfl ?_) | ((with_reducible show W _ (.Name "name" _) _ _ _); refine w_var 1 rfl (by tbr_iter "vis") rfl ?_))
set_option hygiene false in
local macro_rules | `(tactic| tbr_iter "set") => `(tactic| first | ((with_reducible show WB _ (.Assign [.Name "value" _] _ _ :: _) _ _ _); refine wb_cons (ws_set 0 ?_ rfl nd)) | ((with_reducible show WB _ (.Assign [.Name "name" _] _ _ :: _) _ _ _); refine wb_cons (ws_set 1 ?_ rfl nd)))
theorem ok_are_values (T : Txt K mg) : Callee P w K mg base "are_values" 3 ["value"] (spAreValues K) := by
  refine def_ok T.f_are_values sc_are_values (fun _ _ _ _ _ _ us hl => match us, hl with | [_], _ => rfl) (fun vs H Q E h => ?_) fun f cdv A outer s H vs Q E hr h => ?_
  · obtain ⟨p, zs, rfl, _⟩ := h; rfl
  obtain ⟨p, zs, rfl, hp, ⟨z1, z2, z3, z4⟩, k⟩ := h
  have nd := sc_are_values.nd
  have hrow : NRow zs.length zs := ⟨rfl, z4⟩
  refine wb_cons (ws_if (wt_bool (ww_or (wt_not (wt_val (w_call (ok_is_row T) (hr.mono (by decide)) passL ?_))))))
  tbr_iter "go"
  refine ⟨_, some (rowD zs), rfl, .dat (.tup hp (dpa_strs zs)) (row_ok hrow (by omega)), fun H2 s2 => ⟨_, rfl, ?_⟩⟩
  have e1 : ((some (rowD zs)).any isRowD) = true := row_is hrow
  rw [e1]
  refine iteF (ww_or1 (wt_not (wt_chain ?_)))
  tbr_iter "go"
  refine kv_len_seq (Or.inr (same_tup s2 hp)) (cv_le ⟨_, rfl, iteT2 (decide_eq_true (by rw [List.length_map]; omega)) ?_⟩)
  tbr_iter "go"
  refine ⟨_, rfl, ?_⟩
  rw [decide_eq_true (show (((zs.map V.str).length : Nat) : Int) ≤ 6 by rw [List.length_map]; omega)]
  refine iteF (wb_nil ?_)
  refine wb_cons (ws_ret (w_cmp (w_callB T.z_len (wa_cons (w_dcN famK [("name", 1)] (gName 1) (room64 hr) mono_name (fun _ _ _ _ _ => pg_name nd rfl (Or.inl rfl) (Or.inr rfl)) rfl nd (by tbr_iter "blk") (wi_val ?_))))))
  tbr_iter "go"
  refine itv_tup (same_tup s2 hp) ⟨_, _, itN_seq (seqIt_tup (same_tup s2 hp)), zs.map fun z => (Sum.inr z, V.bl true), by simp, by rw [List.length_map]; exact Nat.lt_of_le_of_lt z3 (by decide), fun i v H4 k z hk s4 hv => ?_, fun D H4 s4 n4 hD => ?_⟩
  · rw [List.getElem?_map] at hk
    obtain ⟨t, e4, e5⟩ := Option.map_eq_some_iff.mp hk
    cases e5
    have hv : (zs.map V.str)[i]? = some v := hv
    rw [List.getElem?_map, e4] at hv
    cases hv
    refine ⟨rfl, fun _ _ _ _ _ => ?_⟩
    tbr_iter "go"
    refine ⟨Same.refl _, rfl, fun _ _ _ _ _ => ?_⟩
    tbr_iter "go"
    exact ⟨Same.refl _, rfl⟩
  · refine wa_nil (kv_lenD hD ?_)
    tbr_iter "go"
    have e : (putsL (zs.map fun z => ((Sum.inr z : Key), V.bl true))).length = zs.length := by
      rw [putsL_id]
      · simp
      · rw [List.map_map]
        exact List.pairwise_map.mpr (z1.imp fun h e => h (Sum.inr.inj e))
    refine kv_len_seq (Or.inr (same_tup (s2.trans s4) hp)) ?_
    tbr_iter "go"
    refine qb (k H4 (s2.trans s4)) ?_
    rw [e, List.length_map]
    simp
set_option hygiene false in
local macro_rules | `(tactic| tbr_iter "var") => `(tactic| first | ((with_reducible show W _ (.Name "value" _) _ _ _); refine w_var 0 rfl (by tbr_iter "vis") rfl ?_) | ((with_reducible show W _ (.Name "values" _) _ _ _); refine w_var 1 rfl (by tbr_iter "vis") rfl ?_) | ((with_reducible show W _ (.Name "name" _) _ _ _); refine w_var 2 rfl (by tbr_iter "vis") rfl ?_) | ((with_reducible show W _ (.Name "table" _) _ _ _); refine w_var 3 rfl (by tbr_iter "vis") rfl ?_))
set_option hygiene false in
local macro_rules | `(tactic| tbr_iter "set") => `(tactic| first | ((with_reducible show WB _ (.Assign [.Name "value" _] _ _ :: _) _ _ _); refine wb_cons (ws_set 0 ?_ rfl nd)) | ((with_reducible show WB _ (.Assign [.Name "values" _] _ _ :: _) _ _ _); refine wb_cons (ws_set 1 ?_ rfl nd)) | ((with_reducible show WB _ (.Assign [.Name "name" _] _ _ :: _) _ _ _); refine wb_cons (ws_set 2 ?_ rfl nd)) | ((with_reducible show WB _ (.Assign [.Name "table" _] _ _ :: _) _ _ _); refine wb_cons (ws_set 3 ?_ rfl nd)))
theorem ok_are_tables (T : Txt K mg) : Callee P w K mg base "are_tables" 5 ["value", "values"] (spAreTables K) := by
  refine def_ok T.f_are_tables sc_are_tables (fun _ _ _ _ _ _ us hl => match us, hl with | [_, _], _ => rfl) (fun vs H Q E h => ?_) fun f cdv A outer s H vs Q E hr h => ?_
  · obtain ⟨d, p, zs, kvs, rfl, _⟩ := h; rfl
  obtain ⟨d, p, zs, kvs, rfl, hd, hl, hp, hz, ht, k⟩ := h
  have nd := sc_are_tables.nd
  refine wb_cons (ws_if (wt_bool (ww_or (wt_not (wt_val (w_callB T.z_isinstance (wa_cons ?_)))))))
  tbr_iter "go"
  refine kv_isDict hd (k := true) (by decide +kernel) ?_
  refine ⟨_, rfl, iteF (ww_or1 (wt_cmp (w_callB T.z_len (wa_cons ?_))))⟩
  tbr_iter "go"
  refine kv_lenD hd ?_
  tbr_iter "go"
  refine ⟨_, rfl, ?_⟩
  rw [decide_eq_false (show ¬ (4 : Int) < (kvs.length : Int) by omega)]
  refine iteF (wb_nil ?_)
  refine wb_cons (ws_ret (w_lock hd trivial fun od => w_callB T.z_all (wa_cons (w_lcI [("name", 2), ("table", 3)] (gPair K 2 3) tYes (fun _ _ _ _ _ => pg_tup rfl (pgs_cons (pg_name nd rfl (Or.inl rfl) (Or.inr rfl)) (pgs_cons (pg_name nd rfl (Or.inl rfl) (Or.inr rfl)) pgs_nil))) (fun _ _ _ _ _ => pts_nil) rfl nd (by tbr_iter "blk") (lcC_I mono_pair mono_yes (wi_items ?_))))))
  tbr_iter "go"
  have bl : Bt d H (upd H d (.frz od (.dK kvs))) := (Bt.refl d H).upd
  refine ⟨d, od, kvs, rfl, upd_same, kvs.length, _, itN_items upd_same, Nat.lt_of_le_of_lt hl (by decide), fun _ => some (.bl true), fun i x H2 hi s2 hv => ?_, fun q H2 s2 n2 h2 => ?_⟩
  · obtain ⟨t, y1, y2, rfl, e1, e2, hT⟩ := hv
    obtain ⟨⟨k1, v1⟩, h1, rfl⟩ := Option.map_eq_some_iff.mp e1
    have e2 : kvs[i]?.map Prod.snd = some y2 := e2
    rw [h1] at e2
    cases e2
    obtain ⟨n, en, hn, a, c, rows, ea, htab, hf, hin⟩ := ht _ (List.mem_of_getElem? h1)
    have en : k1 = .inr n := en
    have ea : v1 = .ref a := ea
    subst en ea
    refine gPair_of (SqT.of hT) ⟨rfl, Same.refl _, fun _ _ _ _ _ => ?_⟩
    refine w_and (w_call (ok_is_name T) (hr.mono (by decide)) passL ?_)
    tbr_iter "go"
    refine ⟨_, some (.str n), rfl, .dat (.str n) (name_ok hn), fun H3 s3 => ⟨_, rfl, iteT2 hn ?_⟩⟩
    refine w_one (w_call (ok_table_over T) hr passL ?_)
    tbr_iter "go"
    have s13 := s2.trans s3
    have hp3 : SqT K H3 p (zs.map V.str) := by
      rcases hp with (h | ⟨o, h⟩) | h
      · exact .inl (.inl (s13 _ _ (bl _ _ (fun z => by rw [z, hd] at h; cases h) h)))
      · exact .inl (.inr ⟨o, s13 _ _ (bl _ _ (fun z => by rw [z, hd] at h; cases h) h)⟩)
      · exact .inr h
    exact ⟨a, p, c, rows, zs, rfl, (htab.bt hd bl).same s13, hp3, hf, Nat.lt_of_le_of_lt hz.2.2.1 (by decide), hin, fun H4 s4 => ⟨s3.trans s4, rfl⟩⟩
  · have e : (List.range kvs.length).filterMap (fun _ => some (V.bl true)) = (List.replicate kvs.length true).map V.bl := by
      rw [List.map_replicate]
      generalize kvs.length = m
      induction m with
      | zero => rfl
      | succ m ih => rw [List.range_succ, List.filterMap_append, ih, List.replicate_succ'] <;> rfl
    rw [e] at h2
    refine wa_nil (kv_all rfl (SqL.of h2) ⟨s2 _ _ upd_same, ?_⟩)
    refine qb (k _ (lock_same hd s2)) ?_
    simp
set_option hygiene false in
local macro_rules | `(tactic| tbr_iter "var") => `(tactic| first | ((with_reducible show W _ (.Name "values" _) _ _ _); refine w_var 0 rfl (by tbr_iter "vis") rfl ?_) | ((with_reducible show W _ (.Name "tables" _) _ _ _); refine w_var 1 rfl (by tbr_iter "vis") rfl ?_))
set_option hygiene false in
local macro_rules | `(tactic| tbr_iter "set") => `(tactic| first | ((with_reducible show WB _ (.Assign [.Name "values" _] _ _ :: _) _ _ _); refine wb_cons (ws_set 0 ?_ rfl nd)) | ((with_reducible show WB _ (.Assign [.Name "tables" _] _ _ :: _) _ _ _); refine wb_cons (ws_set 1 ?_ rfl nd)))
theorem ok_require_parts (T : Txt K mg) : Callee P w K mg base "require_parts" 6 ["values", "tables"] (spParts K) := by
  refine def_ok T.f_require_parts sc_require_parts (fun _ _ _ _ _ _ us hl => match us, hl with | [_, _], _ => rfl) (fun vs H Q E h => ?_) fun f cdv A outer s H vs Q E hr h => ?_
  · obtain ⟨d, p, zs, kvs, rfl, _⟩ := h; rfl
  obtain ⟨d, p, zs, kvs, rfl, hd, hl, hp, hz, ht, k⟩ := h
  have nd := sc_require_parts.nd
  refine wb_cons (ws_if (wt_bool (ww_or (wt_not (wt_val (w_call (ok_are_values T) (hr.mono (by decide)) passL ?_))))))
  tbr_iter "go"
  refine ⟨p, zs, rfl, hp, hz, fun H2 s2 => ⟨_, rfl, iteF (ww_or1 (wt_not (wt_val (w_call (ok_are_tables T) hr passL ?_))))⟩⟩
  tbr_iter "go"
  exact ⟨d, p, zs, kvs, rfl, s2 _ _ hd, hl, same_tup s2 hp, hz, ht.same s2, fun H3 s3 => ⟨_, rfl, iteF (wb_nil (wb_nil (k H3 (s2.trans s3))))⟩⟩
end
end Ax
end
section
set_option maxHeartbeats 4000000
open PySem PySem.Spec PyProof.Rows L2 Ax
set_option hygiene false in
local macro_rules | `(tactic| tbr_iter "boot") => `(tactic| with_reducible first | exact Ax.b_len | exact Ax.b_all | exact Ax.b_any | exact Ax.b_sorted | exact Ax.b_isinstance | exact Ax.b_abs | exact Ax.b_max | exact Ax.b_min | exact Ax.b_sum | exact Ax.b_repr | exact Ax.b_iter | exact Ax.b_ord | exact Ax.b_chr | exact Ax.b_str | exact Ax.b_int | exact Ax.b_bool | exact Ax.b_tuple | exact Ax.b_list | exact Ax.b_dict | exact Ax.b_set | exact Ax.b_range | exact Ax.b_enumerate | exact Ax.b_zip)
set_option hygiene false in
local macro_rules | `(tactic| tbr_iter "vis") => `(tactic| first | exact Or.inl rfl | exact Or.inr (Or.inl rfl) | exact Or.inr (Or.inr rfl))
set_option hygiene false in
local macro_rules | `(tactic| tbr_iter "w") => `(tactic| first
  | refine wb_cons ?_
  | refine wb_nil ?_
  | refine ws_ret ?_
  | refine ws_if ?_
  | refine ws_sub ?_
  | refine wa_cons ?_
  | refine wa_nil ?_
  | refine w_int ?_
  | refine w_str ?_
  | refine w_bl ?_
  | refine w_non ?_
  | tbr_iter "var"
  | refine w_bin ?_
  | refine w_cmp ?_
  | refine w_chain ?_
  | refine w_and ?_
  | refine w_or ?_
  | refine w_one ?_
  | refine w_not ?_
  | refine w_ix ?_
  | refine w_ifExp ?_
  | refine w_tup ?_
  | refine w_lst ?_
  | refine wt_not ?_
  | refine wt_bool ?_
  | refine ww_and ?_
  | refine ww_and1 ?_
  | refine ww_or ?_
  | refine ww_or1 ?_
  | refine wt_cmp ?_
  | refine wt_val ?_
  | tbr_iter "call"
  | (refine w_glob (by tbr_iter "mg") ?_)
  | (refine w_callB (by tbr_iter "z") ?_)
  | (refine w_callTy (by tbr_iter "z") ?_)
  | (refine w_bltT (by tbr_iter "z") ?_))
set_option hygiene false in
local macro_rules | `(tactic| tbr_iter "blk") => `(tactic| first | exact blkOk_by (by dsimp only [cxOf, envOfC]; decide +kernel))
set_option hygiene false in
local macro_rules | `(tactic| tbr_iter "iff") => `(tactic| first
  | refine iteT ?_
  | refine iteF ?_
  | refine w_if2 (fun _ => ?_) (fun _ => ?_))
set_option hygiene false in
local macro_rules | `(tactic| tbr_iter "sc") => `(tactic| first | omega | decide)
set_option hygiene false in
local macro_rules | `(tactic| tbr_iter "at") => `(tactic| first | exact atI_0 | exact atI_1 | exact atI_2)
set_option hygiene false in
local macro_rules | `(tactic| tbr_iter "sql") => `(tactic| ((try dsimp only [L2.cxOf, L2.Cx.blk]); with_reducible first | assumption | exact SqL.of (by assumption)))
set_option hygiene false in
local macro_rules | `(tactic| tbr_iter "sqt") => `(tactic| ((try dsimp only [L2.cxOf, L2.Cx.blk]); with_reducible first | assumption | exact SqT.of (by assumption)))
set_option hygiene false in
local macro_rules | `(tactic| tbr_iter "v") => `(tactic| first
  | refine bv_add ?_
  | refine bv_sub ?_
  | ((with_reducible show BinV _ .Mult _ _ _ _); refine bv_mul (Or.inl ⟨by tbr_iter "sc", by tbr_iter "sc"⟩) ?_)
  | ((with_reducible show BinV _ .Mult _ _ _ _); refine bv_mul (Or.inr ⟨by tbr_iter "sc", by tbr_iter "sc"⟩) ?_)
  | ((with_reducible show BinV _ .Mod _ _ _ _); refine bv_mod (by tbr_iter "sc") ?_)
  | ((with_reducible show BinV _ .FloorDiv _ _ _ _); refine bv_fdiv ⟨by tbr_iter "sc", by tbr_iter "sc"⟩ ?_)
  | ((with_reducible show BinV _ .Pow _ _ _ _); refine bv_pow ⟨by decide, by decide +kernel⟩ ?_)
  | refine cv_lt ?_
  | refine cv_le ?_
  | refine cv_gt ?_
  | refine cv_ge ?_
  | ((with_reducible show CmpV _ .Eq _ _ _ _); refine cv_eq rfl ?_)
  | ((with_reducible show CmpV _ .NotEq _ _ _ _); refine cv_ne rfl ?_)
  | refine iv_list (by tbr_iter "sql") (by tbr_iter "at") ?_
  | refine iv_tup (by tbr_iter "sqt") (by tbr_iter "at") ?_
  | refine kv_len_seq (Or.inl (by tbr_iter "sql")) ?_
  | refine kv_len_seq (Or.inr (by tbr_iter "sqt")) ?_
  | refine kv_int ?_
  | refine kv_intB ?_
  | refine kv_abs ?_
  | refine kv_max2 rfl ?_
  | refine kv_min2 rfl ?_)
set_option hygiene false in
local macro_rules | `(tactic| tbr_iter "b") => `(tactic| first
  | refine ⟨_, rfl, iteT ?_⟩
  | refine ⟨_, rfl, iteF ?_⟩
  | refine iteT ?_
  | refine iteF ?_)
set_option hygiene false in
local macro_rules | `(tactic| tbr_iter "go") => `(tactic| repeat (first | tbr_iter "w" | tbr_iter "v" | tbr_iter "b"))
set_option hygiene false in
local macro_rules | `(tactic| tbr_iter "nof") => `(tactic| (intro d hd; cases d <;> first | rfl | exact absurd rfl (hd _)))
set_option hygiene false in
local macro_rules | `(tactic| tbr_iter "e1") => `(tactic| first | ((with_reducible show W _ _ _ _ _); tbr_iter "w") | ((with_reducible show WA _ _ _ _ _); tbr_iter "w") | ((with_reducible show WT _ _ _ _ _); tbr_iter "w") | ((with_reducible show WW _ _ _ _ _); tbr_iter "w") | tbr_iter "v")
set_option hygiene false in
local macro_rules | `(tactic| tbr_iter "ex") => `(tactic| repeat (tbr_iter "e1"))
set_option hygiene false in
local macro_rules | `(tactic| tbr_iter "z") => `(tactic| ((try dsimp only [L2.cxOf]); with_reducible first | exact T.z_IndexError | exact T.z_KeyError | exact T.z_ValueError | exact T.z_abs | exact T.z_all | exact T.z_bool | exact T.z_classmethod | exact T.z_dict | exact T.z_enumerate | exact T.z_int | exact T.z_isinstance | exact T.z_iter | exact T.z_len | exact T.z_list | exact T.z_max | exact T.z_min | exact T.z_property | exact T.z_range | exact T.z_repr | exact T.z_sorted | exact T.z_str | exact T.z_tuple | exact T.z_zip))
set_option hygiene false in
local macro_rules | `(tactic| tbr_iter "mg") => `(tactic| ((try dsimp only [L2.cxOf]); with_reducible first | exact T.c_ALPHABET | exact T.c_MAX_LETTERS | exact T.c_MAX_COLUMNS | exact T.c_MOST_VALUES | exact T.c_MAX_TABLES | exact T.c_IN | exact T.c_OUT | exact T.c_UNLIKE))
namespace Ax
section
variable {P : Program} {w : World} {K : PySem.W.Frag} {mg : Str → Option Value} {base : Heap}
set_option hygiene false in
local macro_rules | `(tactic| tbr_iter "var") => `(tactic| first | ((with_reducible show W _ (.Name "self" _) _ _ _); refine w_var 0 rfl (by tbr_iter "vis") rfl ?_) | ((with_reducible show W _ (.Name "values" _) _ _ _); refine w_var 1 rfl (by tbr_iter "vis") rfl ?_) | ((with_reducible show W _ (.Name "tables" _) _ _ _); refine w_var 2 rfl (by tbr_iter "vis") rfl ?_) | ((with_reducible show W _ (.Name "name" _) _ _ _); refine w_var 3 rfl (by tbr_iter "vis") rfl ?_))
set_option hygiene false in
local macro_rules | `(tactic| tbr_iter "set") => `(tactic| first | ((with_reducible show WB _ (.Assign [.Name "self" _] _ _ :: _) _ _ _); refine wb_cons (ws_set 0 ?_ rfl nd)) | ((with_reducible show WB _ (.Assign [.Name "values" _] _ _ :: _) _ _ _); refine wb_cons (ws_set 1 ?_ rfl nd)) | ((with_reducible show WB _ (.Assign [.Name "tables" _] _ _ :: _) _ _ _); refine wb_cons (ws_set 2 ?_ rfl nd)) | ((with_reducible show WB _ (.Assign [.Name "name" _] _ _ :: _) _ _ _); refine wb_cons (ws_set 3 ?_ rfl nd)))
theorem ok_Database_body (T : Txt K mg) {f : Addr} {cdv : Value} {A : Around} {outer : List Env} {s : Shared} {H : Hp} {vs : List V} {Q : VK} {E : XK} (hr : Room 6 (A.deeper (envOfC "Database.__init__" (defScope s_Database___init__) s.heap.objs.size f cdv))) (h : spDbI K "Database" vs H Q E) :
    WB (cxOf (L2.CX P w) P w K mg base n_Database___init__ "Database.__init__" (defScope s_Database___init__) f cdv A outer s H E) (defBody s_Database___init__) { nx := fun _ H' => Q .non H', rt := Q } (start n_Database___init__ vs) H := by
  obtain ⟨x, dx, d, p, zs, kvs, rfl, hx, hd, hl, hnd, hp, hz, ht, k⟩ := h
  have nd := sc_Database___init__.nd
  have kc := T.kc_Database
  obtain ⟨ns, hns, hnn⟩ := keys_text ht
  refine wb_cons (ws_expr (w_call (ok_require_parts T) hr passL ?_))
  tbr_iter "go"
  refine ⟨d, p, zs, kvs, rfl, hd, hl, hp, hz, ht, fun H2 s2 => ?_⟩
  refine wb_cons (ws_fld kc.c T.a_Database_own_values (w_callTy T.z_tuple (wa_cons (w_callB T.z_sorted (wa_cons ?_)))))
  tbr_iter "go"
  refine kv_sortedTS rfl (room64 hr) (same_tup s2 hp) fun q3 H3 s3 n3 h3 => wa_nil (kv_tupleL (SqL.of h3) fun q H4 s4 n4 hq => ?_)
  have s14 := s2.trans (s3.trans s4)
  have hx4 := s14 _ _ hx
  have hd4 := s14 _ _ hd
  tbr_iter "go"
  refine ⟨x, dx, [], rfl, hx4, by decide, ?_⟩
  show WB _ _ _ _ (upd H4 x (.ins (He.ga K "Database") dx [("own_values", .ref q)]))
  have ne : ∀ {H : Hp} {fs : List (Str × V)} {y : Addr} {o : HO}, H x = some (.ins (He.ga K "Database") dx fs) → H y = some o → (∀ C e g, o ≠ .ins C e g) → y ≠ x := fun {H fs y o} hx hy n z => by
    rw [z, hx] at hy
    cases hy
    exact n _ _ _ rfl
  have b5 : Bt x H4 (upd H4 x (.ins (He.ga K "Database") dx [("own_values", .ref q)])) := (Bt.refl x H4).upd
  have hx5 : (upd H4 x (.ins (He.ga K "Database") dx [("own_values", .ref q)])) x = _ := upd_same
  have hd5 := b5 d _ (ne hx4 hd4 (fun _ _ _ z => nomatch z)) hd4
  have hq5 := b5 q _ (ne hx4 hq (fun _ _ _ z => nomatch z)) hq
  have fitx : ∀ {H H' : Hp} {fs : List (Str × V)} {z : V}, H x = some (.ins (He.ga K "Database") dx fs) → Bt x H H' → (∀ a c rows, z = .ref a → TabIs K H a c rows → a ≠ x) → TabFit K H zs z → TabFit K H' zs z := fun {H H' fs z} hx b na ⟨a, c, rows, e, ⟨dx1, q1, d1, h1, ⟨vs1, h2, h3⟩, kv1, h4, h5⟩, hf⟩ => by
    refine ⟨a, c, rows, e, ⟨dx1, q1, d1, b _ _ (na a c rows e ⟨dx1, q1, d1, h1, ⟨vs1, h2, h3⟩, kv1, h4, h5⟩) h1, ⟨vs1, b _ _ (ne hx h2 (fun _ _ _ z => nomatch z)) h2, h3.imp fun _ _ z => z.bt b (fun xs z => by rw [hx] at z; cases z)⟩, kv1, b _ _ (ne hx h4 (fun _ _ _ z => nomatch z)) h4, h5⟩, hf⟩
  have nax : ∀ {H : Hp} {fs : List (Str × V)}, H x = some (.ins (He.ga K "Database") dx fs) → fs.length < 3 → ∀ a c rows, TabIs K H a c rows → a ≠ x := fun {H fs} hx hl a c rows ⟨dx1, q1, d1, h1, _⟩ z => by
    rw [z, hx] at h1
    injection Option.some.inj h1 with e1 e2 e3
    rw [e3] at hl
    exact Nat.lt_irrefl 3 hl
  have ht5 : TabsFit K (upd H4 x (.ins (He.ga K "Database") dx [("own_values", .ref q)])) zs kvs := fun kz m => by
    obtain ⟨n, e1, e2, e3⟩ := ht kz m
    exact ⟨n, e1, e2, fitx hx4 b5 (fun a c rows _ t => nax hx4 (by decide) a c rows t) (e3.same s14)⟩
  have b15 : Bt x H (upd H4 x (.ins (He.ga K "Database") dx [("own_values", .ref q)])) := (Bt.of s14).trans b5
  generalize upd H4 x (.ins (He.ga K "Database") dx [("own_values", .ref q)]) = H5 at b5 hx5 hd5 hq5 ht5 b15 ⊢
  refine wb_cons (ws_fld kc.c T.a_Database_own_tables (w_dcN famK [("name", 3)] (gName 3) (room64 hr) mono_name (fun _ _ _ _ _ => pg_name nd rfl (Or.inl rfl) (Or.inr rfl)) rfl nd (by tbr_iter "blk") (wi_val (w_callB T.z_sorted (wa_cons ?_)))))
  tbr_iter "go"
  have hnl : ns.length ≤ 4 := by
    have := congrArg List.length hns
    rw [List.length_map, List.length_map] at this
    omega
  refine kv_sortedD rfl hd5 hns (by omega) fun ys q6 H6 p6 so6 s6 n6 h6 => ?_
  have hvals : ∃ ps : List (Key × V), ps.map (·.1) = ys.map Sum.inr ∧ ∀ kz ∈ ps, valV kvs kz.1 = some kz.2 ∧ kz ∈ kvs := by
    have mem : ∀ y ∈ ys, (Sum.inr y : Key) ∈ kvs.map (·.1) := fun y hy => by
      rw [hns]
      exact List.mem_map_of_mem (p6.mem_iff.mp hy)
    clear h6 so6 p6
    induction ys with
    | nil => exact ⟨[], rfl, by simp⟩
    | cons y ys ih =>
      obtain ⟨ps, e, h⟩ := ih fun z hz => mem z (List.mem_cons_of_mem _ hz)
      obtain ⟨v, hv, hm⟩ := valV_mem (mem y List.mem_cons_self)
      refine ⟨(.inr y, v) :: ps, by rw [List.map_cons, e, List.map_cons], fun kz hk => ?_⟩
      rcases List.mem_cons.mp hk with rfl | hk
      · exact ⟨hv, hm⟩
      · exact h kz hk
  obtain ⟨ps, hps, hpv⟩ := hvals
  have hpl : ps.length = ys.length := by
    have := congrArg List.length hps
    rwa [List.length_map, List.length_map] at this
  refine itv_list (SqL.of h6) ⟨_, _, itN_seq (seqIt_list (SqL.of h6)), ps, by rw [hpl, List.length_map], ?_, fun i v H7 k z hk s7 hv => ?_, fun D H7 s7 n7 hD => ?_⟩
  · rw [List.length_map, p6.length_eq]
    exact Nat.lt_of_le_of_lt hnl (by decide)
  · have ek : (ps.map (·.1))[i]? = some k := by rw [List.getElem?_map, hk] <;> rfl
    rw [hps, List.getElem?_map] at ek
    obtain ⟨t, e4, rfl⟩ := Option.map_eq_some_iff.mp ek
    have hv : (ys.map V.str)[i]? = some v := hv
    rw [List.getElem?_map, e4] at hv
    cases hv
    refine ⟨rfl, fun _ _ _ _ _ => ?_⟩
    tbr_iter "go"
    refine ⟨Same.refl _, rfl, fun _ _ _ _ _ => ?_⟩
    tbr_iter "go"
    exact iv_dK (k := .inr t) (room64 hr) (.inl ((s6.trans s7) _ _ hd5)) (hpv _ (List.mem_of_getElem? hk)).1 ⟨Same.refl _, rfl⟩
  have s57 := s6.trans s7
  have hx7 := s57 _ _ hx5
  have ynd : (ps.map (·.1)).Nodup := by
    rw [hps]
    have e : (ns.map (Sum.inr (α := Int))).Nodup := hns ▸ hnd
    exact (p6.map Sum.inr).nodup_iff.mpr e
  have hD : H7 D = some (.dK (putsL ps)) := hD
  rw [putsL_id ynd] at hD
  tbr_iter "go"
  refine ⟨x, dx, _, rfl, hx7, show 1 < 1000 by decide, ?_⟩
  show WB _ _ _ _ (upd H7 x (.ins (He.ga K "Database") dx [("own_values", .ref q), ("own_tables", .ref D)]))
  have b8 : Bt x H7 (upd H7 x (.ins (He.ga K "Database") dx [("own_values", .ref q), ("own_tables", .ref D)])) := (Bt.refl x H7).upd
  refine wb_nil (k _ ys (b15.trans ((Bt.of s57).trans b8)) ⟨dx, q, D, ps, upd_same, b8 _ _ (ne hx7 (s57 _ _ hq5) (fun _ _ _ z => nomatch z)) (s57 _ _ hq5), b8 _ _ (ne hx7 hD (fun _ _ _ z => nomatch z)) hD, hps, fun kz m => ?_⟩ ?_ (sortedS_pw so6))
  · obtain ⟨n, e1, e2, a, c, rows, ea, t, hf, hin⟩ := ht5 kz (hpv kz m).2
    obtain ⟨a2, c2, rows2, ea2, t2, hf2, hin2⟩ := fitx hx7 b8 (fun a c rows _ t => nax hx7 (show 1 < 3 by decide) a c rows t) (⟨a, c, rows, ea, t.same s57, hf, hin⟩ : TabFit K H7 zs kz.2)
    exact ⟨n, e1, e2, a2, c2, rows2, ea2, t2, hf2, fun z hz => (List.mem_mergeSort).mpr (hin2 z hz)⟩
  · rw [hns]
    exact p6.map Sum.inr
set_option hygiene false in
local macro_rules | `(tactic| tbr_iter "var") => `(tactic| first | ((with_reducible show W _ (.Name "self" _) _ _ _); refine w_var 0 rfl (by tbr_iter "vis") rfl ?_) | ((with_reducible show W _ (.Name "values" _) _ _ _); refine w_var 1 rfl (by tbr_iter "vis") rfl ?_) | ((with_reducible show W _ (.Name "tables" _) _ _ _); refine w_var 2 rfl (by tbr_iter "vis") rfl ?_) | ((with_reducible show W _ (.Name "name" _) _ _ _); refine w_var 3 rfl (by tbr_iter "vis") rfl ?_))
set_option hygiene false in
local macro_rules | `(tactic| tbr_iter "set") => `(tactic| first | ((with_reducible show WB _ (.Assign [.Name "self" _] _ _ :: _) _ _ _); refine wb_cons (ws_set 0 ?_ rfl nd)) | ((with_reducible show WB _ (.Assign [.Name "values" _] _ _ :: _) _ _ _); refine wb_cons (ws_set 1 ?_ rfl nd)) | ((with_reducible show WB _ (.Assign [.Name "tables" _] _ _ :: _) _ _ _); refine wb_cons (ws_set 2 ?_ rfl nd)) | ((with_reducible show WB _ (.Assign [.Name "name" _] _ _ :: _) _ _ _); refine wb_cons (ws_set 3 ?_ rfl nd)))
theorem ok_MadeDatabase_body (T : Txt K mg) {f : Addr} {cdv : Value} {A : Around} {outer : List Env} {s : Shared} {H : Hp} {vs : List V} {Q : VK} {E : XK} (hr : Room 6 (A.deeper (envOfC "MadeDatabase.__init__" (defScope s_MadeDatabase___init__) s.heap.objs.size f cdv))) (h : spDbI K "MadeDatabase" vs H Q E) :
    WB (cxOf (L2.CX P w) P w K mg base n_MadeDatabase___init__ "MadeDatabase.__init__" (defScope s_MadeDatabase___init__) f cdv A outer s H E) (defBody s_MadeDatabase___init__) { nx := fun _ H' => Q .non H', rt := Q } (start n_MadeDatabase___init__ vs) H := by
  obtain ⟨x, dx, d, p, zs, kvs, rfl, hx, hd, hl, hnd, hp, hz, ht, k⟩ := h
  have nd := sc_MadeDatabase___init__.nd
  have kc := T.kc_MadeDatabase
  obtain ⟨ns, hns, hnn⟩ := keys_text ht
  refine wb_cons (ws_expr (w_call (ok_require_parts T) hr passL ?_))
  tbr_iter "go"
  refine ⟨d, p, zs, kvs, rfl, hd, hl, hp, hz, ht, fun H2 s2 => ?_⟩
  refine wb_cons (ws_fld kc.c T.a_MadeDatabase_own_values (w_callTy T.z_tuple (wa_cons (w_callB T.z_sorted (wa_cons ?_)))))
  tbr_iter "go"
  refine kv_sortedTS rfl (room64 hr) (same_tup s2 hp) fun q3 H3 s3 n3 h3 => wa_nil (kv_tupleL (SqL.of h3) fun q H4 s4 n4 hq => ?_)
  have s14 := s2.trans (s3.trans s4)
  have hx4 := s14 _ _ hx
  have hd4 := s14 _ _ hd
  tbr_iter "go"
  refine ⟨x, dx, [], rfl, hx4, by decide, ?_⟩
  show WB _ _ _ _ (upd H4 x (.ins (He.ga K "MadeDatabase") dx [("own_values", .ref q)]))
  have ne : ∀ {H : Hp} {fs : List (Str × V)} {y : Addr} {o : HO}, H x = some (.ins (He.ga K "MadeDatabase") dx fs) → H y = some o → (∀ C e g, o ≠ .ins C e g) → y ≠ x := fun {H fs y o} hx hy n z => by
    rw [z, hx] at hy
    cases hy
    exact n _ _ _ rfl
  have b5 : Bt x H4 (upd H4 x (.ins (He.ga K "MadeDatabase") dx [("own_values", .ref q)])) := (Bt.refl x H4).upd
  have hx5 : (upd H4 x (.ins (He.ga K "MadeDatabase") dx [("own_values", .ref q)])) x = _ := upd_same
  have hd5 := b5 d _ (ne hx4 hd4 (fun _ _ _ z => nomatch z)) hd4
  have hq5 := b5 q _ (ne hx4 hq (fun _ _ _ z => nomatch z)) hq
  have fitx : ∀ {H H' : Hp} {fs : List (Str × V)} {z : V}, H x = some (.ins (He.ga K "MadeDatabase") dx fs) → Bt x H H' → (∀ a c rows, z = .ref a → TabIs K H a c rows → a ≠ x) → TabFit K H zs z → TabFit K H' zs z := fun {H H' fs z} hx b na ⟨a, c, rows, e, ⟨dx1, q1, d1, h1, ⟨vs1, h2, h3⟩, kv1, h4, h5⟩, hf⟩ => by
    refine ⟨a, c, rows, e, ⟨dx1, q1, d1, b _ _ (na a c rows e ⟨dx1, q1, d1, h1, ⟨vs1, h2, h3⟩, kv1, h4, h5⟩) h1, ⟨vs1, b _ _ (ne hx h2 (fun _ _ _ z => nomatch z)) h2, h3.imp fun _ _ z => z.bt b (fun xs z => by rw [hx] at z; cases z)⟩, kv1, b _ _ (ne hx h4 (fun _ _ _ z => nomatch z)) h4, h5⟩, hf⟩
  have nax : ∀ {H : Hp} {fs : List (Str × V)}, H x = some (.ins (He.ga K "MadeDatabase") dx fs) → fs.length < 3 → ∀ a c rows, TabIs K H a c rows → a ≠ x := fun {H fs} hx hl a c rows ⟨dx1, q1, d1, h1, _⟩ z => by
    rw [z, hx] at h1
    injection Option.some.inj h1 with e1 e2 e3
    rw [e3] at hl
    exact Nat.lt_irrefl 3 hl
  have ht5 : TabsFit K (upd H4 x (.ins (He.ga K "MadeDatabase") dx [("own_values", .ref q)])) zs kvs := fun kz m => by
    obtain ⟨n, e1, e2, e3⟩ := ht kz m
    exact ⟨n, e1, e2, fitx hx4 b5 (fun a c rows _ t => nax hx4 (by decide) a c rows t) (e3.same s14)⟩
  have b15 : Bt x H (upd H4 x (.ins (He.ga K "MadeDatabase") dx [("own_values", .ref q)])) := (Bt.of s14).trans b5
  generalize upd H4 x (.ins (He.ga K "MadeDatabase") dx [("own_values", .ref q)]) = H5 at b5 hx5 hd5 hq5 ht5 b15 ⊢
  refine wb_cons (ws_fld kc.c T.a_MadeDatabase_own_tables (w_dcN famK [("name", 3)] (gName 3) (room64 hr) mono_name (fun _ _ _ _ _ => pg_name nd rfl (Or.inl rfl) (Or.inr rfl)) rfl nd (by tbr_iter "blk") (wi_val (w_callB T.z_sorted (wa_cons ?_)))))
  tbr_iter "go"
  have hnl : ns.length ≤ 4 := by
    have := congrArg List.length hns
    rw [List.length_map, List.length_map] at this
    omega
  refine kv_sortedD rfl hd5 hns (by omega) fun ys q6 H6 p6 so6 s6 n6 h6 => ?_
  have hvals : ∃ ps : List (Key × V), ps.map (·.1) = ys.map Sum.inr ∧ ∀ kz ∈ ps, valV kvs kz.1 = some kz.2 ∧ kz ∈ kvs := by
    have mem : ∀ y ∈ ys, (Sum.inr y : Key) ∈ kvs.map (·.1) := fun y hy => by
      rw [hns]
      exact List.mem_map_of_mem (p6.mem_iff.mp hy)
    clear h6 so6 p6
    induction ys with
    | nil => exact ⟨[], rfl, by simp⟩
    | cons y ys ih =>
      obtain ⟨ps, e, h⟩ := ih fun z hz => mem z (List.mem_cons_of_mem _ hz)
      obtain ⟨v, hv, hm⟩ := valV_mem (mem y List.mem_cons_self)
      refine ⟨(.inr y, v) :: ps, by rw [List.map_cons, e, List.map_cons], fun kz hk => ?_⟩
      rcases List.mem_cons.mp hk with rfl | hk
      · exact ⟨hv, hm⟩
      · exact h kz hk
  obtain ⟨ps, hps, hpv⟩ := hvals
  have hpl : ps.length = ys.length := by
    have := congrArg List.length hps
    rwa [List.length_map, List.length_map] at this
  refine itv_list (SqL.of h6) ⟨_, _, itN_seq (seqIt_list (SqL.of h6)), ps, by rw [hpl, List.length_map], ?_, fun i v H7 k z hk s7 hv => ?_, fun D H7 s7 n7 hD => ?_⟩
  · rw [List.length_map, p6.length_eq]
    exact Nat.lt_of_le_of_lt hnl (by decide)
  · have ek : (ps.map (·.1))[i]? = some k := by rw [List.getElem?_map, hk] <;> rfl
    rw [hps, List.getElem?_map] at ek
    obtain ⟨t, e4, rfl⟩ := Option.map_eq_some_iff.mp ek
    have hv : (ys.map V.str)[i]? = some v := hv
    rw [List.getElem?_map, e4] at hv
    cases hv
    refine ⟨rfl, fun _ _ _ _ _ => ?_⟩
    tbr_iter "go"
    refine ⟨Same.refl _, rfl, fun _ _ _ _ _ => ?_⟩
    tbr_iter "go"
    exact iv_dK (k := .inr t) (room64 hr) (.inl ((s6.trans s7) _ _ hd5)) (hpv _ (List.mem_of_getElem? hk)).1 ⟨Same.refl _, rfl⟩
  have s57 := s6.trans s7
  have hx7 := s57 _ _ hx5
  have ynd : (ps.map (·.1)).Nodup := by
    rw [hps]
    have e : (ns.map (Sum.inr (α := Int))).Nodup := hns ▸ hnd
    exact (p6.map Sum.inr).nodup_iff.mpr e
  have hD : H7 D = some (.dK (putsL ps)) := hD
  rw [putsL_id ynd] at hD
  tbr_iter "go"
  refine ⟨x, dx, _, rfl, hx7, show 1 < 1000 by decide, ?_⟩
  show WB _ _ _ _ (upd H7 x (.ins (He.ga K "MadeDatabase") dx [("own_values", .ref q), ("own_tables", .ref D)]))
  have b8 : Bt x H7 (upd H7 x (.ins (He.ga K "MadeDatabase") dx [("own_values", .ref q), ("own_tables", .ref D)])) := (Bt.refl x H7).upd
  refine wb_nil (k _ ys (b15.trans ((Bt.of s57).trans b8)) ⟨dx, q, D, ps, upd_same, b8 _ _ (ne hx7 (s57 _ _ hq5) (fun _ _ _ z => nomatch z)) (s57 _ _ hq5), b8 _ _ (ne hx7 hD (fun _ _ _ z => nomatch z)) hD, hps, fun kz m => ?_⟩ ?_ (sortedS_pw so6))
  · obtain ⟨n, e1, e2, a, c, rows, ea, t, hf, hin⟩ := ht5 kz (hpv kz m).2
    obtain ⟨a2, c2, rows2, ea2, t2, hf2, hin2⟩ := fitx hx7 b8 (fun a c rows _ t => nax hx7 (show 1 < 3 by decide) a c rows t) (⟨a, c, rows, ea, t.same s57, hf, hin⟩ : TabFit K H7 zs kz.2)
    exact ⟨n, e1, e2, a2, c2, rows2, ea2, t2, hf2, fun z hz => (List.mem_mergeSort).mpr (hin2 z hz)⟩
  · rw [hns]
    exact p6.map Sum.inr
theorem ok_made_init (T : Txt K mg) : FnP P w K mg base 7 (He.ma K (He.ga K "MadeDatabase") "__init__") (spDbI K "MadeDatabase") :=
  meth_okR T.f_MadeDatabase___init__ sc_MadeDatabase___init__ (fun _ _ _ _ _ _ us hl => match us, hl with | [_, _, _], _ => rfl) (fun vs H Q E h => by obtain ⟨x, dx, d, p, zs, kvs, rfl, _⟩ := h; rfl) fun cdv A outer s H vs Q E hr h => ok_MadeDatabase_body T hr h
theorem ok_db_init (T : Txt K mg) : FnP P w K mg base 7 (He.ma K (He.ga K "Database") "__init__") (fun vs H Q E => vs.length = 2 ∧ ∀ p, H p = none → spDbI K "Database" (vs ++ [.ref p]) (upd H p (.dK [])) Q E) :=
  meth_okKw (ps := ["self", "values"]) (pd := "tables") T.f_Database___init__ sc_Database___init__ (fun _ _ _ _ _ _ us hl => match us, hl with | [_, _], _ => rfl) fun cdv A outer s H vs Q E hr h => ok_Database_body T hr h
end
end Ax
end
section
set_option maxHeartbeats 4000000
open PySem PySem.Spec PyProof.Rows L2 Ax
set_option hygiene false in
local macro_rules | `(tactic| tbr_iter "boot") => `(tactic| with_reducible first | exact Ax.b_len | exact Ax.b_all | exact Ax.b_any | exact Ax.b_sorted | exact Ax.b_isinstance | exact Ax.b_abs | exact Ax.b_max | exact Ax.b_min | exact Ax.b_sum | exact Ax.b_repr | exact Ax.b_iter | exact Ax.b_ord | exact Ax.b_chr | exact Ax.b_str | exact Ax.b_int | exact Ax.b_bool | exact Ax.b_tuple | exact Ax.b_list | exact Ax.b_dict | exact Ax.b_set | exact Ax.b_range | exact Ax.b_enumerate | exact Ax.b_zip)
set_option hygiene false in
local macro_rules | `(tactic| tbr_iter "vis") => `(tactic| first | exact Or.inl rfl | exact Or.inr (Or.inl rfl) | exact Or.inr (Or.inr rfl))
set_option hygiene false in
local macro_rules | `(tactic| tbr_iter "w") => `(tactic| first
  | refine wb_cons ?_
  | refine wb_nil ?_
  | refine ws_ret ?_
  | refine ws_if ?_
  | refine ws_sub ?_
  | refine wa_cons ?_
  | refine wa_nil ?_
  | refine w_int ?_
  | refine w_str ?_
  | refine w_bl ?_
  | refine w_non ?_
  | tbr_iter "var"
  | refine w_bin ?_
  | refine w_cmp ?_
  | refine w_chain ?_
  | refine w_and ?_
  | refine w_or ?_
  | refine w_one ?_
  | refine w_not ?_
  | refine w_ix ?_
  | refine w_ifExp ?_
  | refine w_tup ?_
  | refine w_lst ?_
  | refine wt_not ?_
  | refine wt_bool ?_
  | refine ww_and ?_
  | refine ww_and1 ?_
  | refine ww_or ?_
  | refine ww_or1 ?_
  | refine wt_cmp ?_
  | refine wt_val ?_
  | tbr_iter "call"
  | (refine w_glob (by tbr_iter "mg") ?_)
  | (refine w_callB (by tbr_iter "z") ?_)
  | (refine w_callTy (by tbr_iter "z") ?_)
  | (refine w_bltT (by tbr_iter "z") ?_))
set_option hygiene false in
local macro_rules | `(tactic| tbr_iter "blk") => `(tactic| first | exact blkOk_by (by dsimp only [cxOf, envOfC]; decide +kernel))
set_option hygiene false in
local macro_rules | `(tactic| tbr_iter "iff") => `(tactic| first
  | refine iteT ?_
  | refine iteF ?_
  | refine w_if2 (fun _ => ?_) (fun _ => ?_))
set_option hygiene false in
local macro_rules | `(tactic| tbr_iter "sc") => `(tactic| first | omega | decide)
set_option hygiene false in
local macro_rules | `(tactic| tbr_iter "at") => `(tactic| first | exact atI_0 | exact atI_1 | exact atI_2)
set_option hygiene false in
local macro_rules | `(tactic| tbr_iter "sql") => `(tactic| ((try dsimp only [L2.cxOf, L2.Cx.blk]); with_reducible first | assumption | exact SqL.of (by assumption)))
set_option hygiene false in
local macro_rules | `(tactic| tbr_iter "sqt") => `(tactic| ((try dsimp only [L2.cxOf, L2.Cx.blk]); with_reducible first | assumption | exact SqT.of (by assumption)))
set_option hygiene false in
local macro_rules | `(tactic| tbr_iter "v") => `(tactic| first
  | refine bv_add ?_
  | refine bv_sub ?_
  | ((with_reducible show BinV _ .Mult _ _ _ _); refine bv_mul (Or.inl ⟨by tbr_iter "sc", by tbr_iter "sc"⟩) ?_)
  | ((with_reducible show BinV _ .Mult _ _ _ _); refine bv_mul (Or.inr ⟨by tbr_iter "sc", by tbr_iter "sc"⟩) ?_)
  | ((with_reducible show BinV _ .Mod _ _ _ _); refine bv_mod (by tbr_iter "sc") ?_)
  | ((with_reducible show BinV _ .FloorDiv _ _ _ _); refine bv_fdiv ⟨by tbr_iter "sc", by tbr_iter "sc"⟩ ?_)
  | ((with_reducible show BinV _ .Pow _ _ _ _); refine bv_pow ⟨by decide, by decide +kernel⟩ ?_)
  | refine cv_lt ?_
  | refine cv_le ?_
  | refine cv_gt ?_
  | refine cv_ge ?_
  | ((with_reducible show CmpV _ .Eq _ _ _ _); refine cv_eq rfl ?_)
  | ((with_reducible show CmpV _ .NotEq _ _ _ _); refine cv_ne rfl ?_)
  | refine iv_list (by tbr_iter "sql") (by tbr_iter "at") ?_
  | refine iv_tup (by tbr_iter "sqt") (by tbr_iter "at") ?_
  | refine kv_len_seq (Or.inl (by tbr_iter "sql")) ?_
  | refine kv_len_seq (Or.inr (by tbr_iter "sqt")) ?_
  | refine kv_int ?_
  | refine kv_intB ?_
  | refine kv_abs ?_
  | refine kv_max2 rfl ?_
  | refine kv_min2 rfl ?_)
set_option hygiene false in
local macro_rules | `(tactic| tbr_iter "b") => `(tactic| first
  | refine ⟨_, rfl, iteT ?_⟩
  | refine ⟨_, rfl, iteF ?_⟩
  | refine iteT ?_
  | refine iteF ?_)
set_option hygiene false in
local macro_rules | `(tactic| tbr_iter "go") => `(tactic| repeat (first | tbr_iter "w" | tbr_iter "v" | tbr_iter "b"))
set_option hygiene false in
local macro_rules | `(tactic| tbr_iter "nof") => `(tactic| (intro d hd; cases d <;> first | rfl | exact absurd rfl (hd _)))
set_option hygiene false in
local macro_rules | `(tactic| tbr_iter "e1") => `(tactic| first | ((with_reducible show W _ _ _ _ _); tbr_iter "w") | ((with_reducible show WA _ _ _ _ _); tbr_iter "w") | ((with_reducible show WT _ _ _ _ _); tbr_iter "w") | ((with_reducible show WW _ _ _ _ _); tbr_iter "w") | tbr_iter "v")
set_option hygiene false in
local macro_rules | `(tactic| tbr_iter "ex") => `(tactic| repeat (tbr_iter "e1"))
set_option hygiene false in
local macro_rules | `(tactic| tbr_iter "z") => `(tactic| ((try dsimp only [L2.cxOf]); with_reducible first | exact T.z_IndexError | exact T.z_KeyError | exact T.z_ValueError | exact T.z_abs | exact T.z_all | exact T.z_bool | exact T.z_classmethod | exact T.z_dict | exact T.z_enumerate | exact T.z_int | exact T.z_isinstance | exact T.z_iter | exact T.z_len | exact T.z_list | exact T.z_max | exact T.z_min | exact T.z_property | exact T.z_range | exact T.z_repr | exact T.z_sorted | exact T.z_str | exact T.z_tuple | exact T.z_zip))
set_option hygiene false in
local macro_rules | `(tactic| tbr_iter "mg") => `(tactic| ((try dsimp only [L2.cxOf]); with_reducible first | exact T.c_ALPHABET | exact T.c_MAX_LETTERS | exact T.c_MAX_COLUMNS | exact T.c_MOST_VALUES | exact T.c_MAX_TABLES | exact T.c_IN | exact T.c_OUT | exact T.c_UNLIKE))
namespace Ax
def langL : List Str := ["flat one plain", "flat one unlike", "flat one not", "flat many plain", "flat many unlike", "flat many not", "deep one plain", "deep one unlike", "deep one not", "deep many plain", "deep many unlike", "deep many not"]
def lang (i : Nat) : Str := langL.getD i ""
def dptL : List Str := ["flat", "deep"]
def numL : List Str := ["one", "many"]
def wrdL : List Str := ["plain", "unlike", "not"]
theorem lang_split : ∀ i, i < 12 → Txt.split (lang i) " " = [dptL.getD (i / 6) "", numL.getD (i / 3 % 2) "", wrdL.getD (i % 3) ""] := by decide +kernel
theorem lang_len : ∀ i, i < 12 → (lang i).length ≤ 20 := by decide +kernel
theorem lang_join : ∀ a, a < 2 → ∀ b, b < 2 → ∀ c, c < 3 → ((((Str.empty ++ dptL.getD a "") ++ (" " : Str)) ++ numL.getD b "") ++ (" " : Str)) ++ wrdL.getD c "" = lang (6 * a + 3 * b + c) := by decide +kernel
theorem langL_is : langL = (List.range 12).map lang := by decide +kernel
theorem lang_mem (i : Nat) (h : i < 12) : lang i ∈ langL := by
  rw [langL_is]
  exact List.mem_map_of_mem (List.mem_range.mpr h)
theorem index_at {L : List Str} {j : Nat} (h : j < L.length) (n : L.Nodup) : L[j]? = some (L.getD j "") ∧ ∀ m, m < j → L[m]? ≠ some (L.getD j "") := by
  have e : L[j]? = some (L.getD j "") := by
    rw [List.getD_eq_getElem?_getD, List.getElem?_eq_getElem h]
    rfl
  refine ⟨e, fun m hm e2 => ?_⟩
  have := (List.getElem?_inj (i := m) (j := j) (by omega) n).mp (by rw [e, e2])
  omega
def isLangD : PyData → Bool
  | .str z => decide (z ∈ langL)
  | _ => false
/-- ranks of the i-th language -/
def ranksV (i : Nat) : List V := [.int (i / 6 : Nat), .int (i / 3 % 2 : Nat), .int (i % 3 : Nat)]
def spRanks : Sp := fun vs H Q _ => ∃ i, i < 12 ∧ vs = [.str (lang i)] ∧ ∀ q H2, Same H H2 → H q = none → H2 q = some (.lst (ranksV i)) → Q (.ref q) H2
def below (i j : Nat) : Bool := decide (i / 6 ≤ j / 6) && (decide (i / 3 % 2 ≤ j / 3 % 2) && decide (i % 3 ≤ j % 3))
def join2 (i j : Nat) : Nat := 6 * max (i / 6) (j / 6) + 3 * max (i / 3 % 2) (j / 3 % 2) + max (i % 3) (j % 3)
def spBelow : Sp := fun vs H Q _ => ∃ i j, i < 12 ∧ j < 12 ∧ vs = [.str (lang i), .str (lang j)] ∧ ∀ H2, Same H H2 → Q (.bl (below i j)) H2
def spJoined : Sp := fun vs H Q _ => ∃ i j, i < 12 ∧ j < 12 ∧ vs = [.str (lang i), .str (lang j)] ∧ ∀ H2, Same H H2 → Q (.str (lang (join2 i j))) H2
def spReqLang : Sp := fun vs H Q _ => ∃ i, i < 12 ∧ vs = [.str (lang i)] ∧ ∀ H2, Same H H2 → Q .non H2
section
variable {P : Program} {w : World} {K : PySem.W.Frag} {mg : Str → Option Value} {base : Heap}
set_option hygiene false in
local macro_rules | `(tactic| tbr_iter "var") => `(tactic| first | ((with_reducible show W _ (.Name "value" _) _ _ _); refine w_var 0 rfl (by tbr_iter "vis") rfl ?_))
set_option hygiene false in
local macro_rules | `(tactic| tbr_iter "set") => `(tactic| first | ((with_reducible show WB _ (.Assign [.Name "value" _] _ _ :: _) _ _ _); refine wb_cons (ws_set 0 ?_ rfl nd)))
theorem ok_is_language (T : Txt K mg) : Callee P w K mg base "is_language" 1 ["value"] (spAny K isLangD) := by
  refine def_ok T.f_is_language sc_is_language (fun _ _ _ _ _ _ us hl => match us, hl with | [_], _ => rfl) (fun vs H Q E h => ?_) fun f cdv A outer s H vs Q E hr h => ?_
  · obtain ⟨v, o, rfl, _⟩ := h; rfl
  obtain ⟨v, o, rfl, a, k⟩ := h
  have nd := sc_is_language.nd
  tbr_iter "go"
  refine kv_isiA a (by decide) ⟨_, rfl, w_if2 (fun c => ?_) (fun c => ?_)⟩
  · cases a with
    | oth => cases c
    | @dat d hd ok =>
      rw [isiO_str] at c
      cases hd <;> first | cases c | skip
      rename_i z
      tbr_iter "go"
      refine w_glob (glob_ref T.c_LANGUAGES.1) ?_
      refine cv_inSeq (Or.inr (T.c_LANGUAGES.2 _)) rfl (flat_strs langL) (qb (k H (Same.refl _)) ?_)
      show decide (z ∈ langL) = inV (.str z) (langL.map V.str)
      rw [inV_str]
  · have e := k H (Same.refl _)
    cases a with
    | oth => exact e
    | @dat d hd ok =>
      rw [isiO_str] at c
      cases hd <;> first | exact e | cases c
set_option hygiene false in
local macro_rules | `(tactic| tbr_iter "var") => `(tactic| first | ((with_reducible show W _ (.Name "language" _) _ _ _); refine w_var 0 rfl (by tbr_iter "vis") rfl ?_))
set_option hygiene false in
local macro_rules | `(tactic| tbr_iter "set") => `(tactic| first | ((with_reducible show WB _ (.Assign [.Name "language" _] _ _ :: _) _ _ _); refine wb_cons (ws_set 0 ?_ rfl nd)))
theorem ok_require_language (T : Txt K mg) : Callee P w K mg base "require_language" 2 ["language"] spReqLang := by
  refine def_ok T.f_require_language sc_require_language (fun _ _ _ _ _ _ us hl => match us, hl with | [_], _ => rfl) (fun vs H Q E h => ?_) fun f cdv A outer s H vs Q E hr h => ?_
  · obtain ⟨i, _, rfl, _⟩ := h; rfl
  obtain ⟨i, hi, rfl, k⟩ := h
  have nd := sc_require_language.nd
  refine wb_cons (ws_if (wt_not (wt_val (w_call (ok_is_language T) hr passL ?_))))
  tbr_iter "go"
  have ok : okD (.str (lang i)) = true := (by decide +kernel : ∀ i, i < 12 → okD (.str (lang i)) = true) i hi
  refine ⟨_, some (.str (lang i)), rfl, .dat (.str _) ok, fun H2 s2 => ⟨_, rfl, ?_⟩⟩
  have e : ((some (PyData.str (lang i))).any isLangD) = true := decide_eq_true (lang_mem i hi)
  rw [e]
  exact iteF (wb_nil (wb_nil (k H2 s2)))
set_option hygiene false in
local macro_rules | `(tactic| tbr_iter "var") => `(tactic| first | ((with_reducible show W _ (.Name "language" _) _ _ _); refine w_var 0 rfl (by tbr_iter "vis") rfl ?_) | ((with_reducible show W _ (.Name "depth" _) _ _ _); refine w_var 1 rfl (by tbr_iter "vis") rfl ?_) | ((with_reducible show W _ (.Name "number" _) _ _ _); refine w_var 2 rfl (by tbr_iter "vis") rfl ?_) | ((with_reducible show W _ (.Name "word" _) _ _ _); refine w_var 3 rfl (by tbr_iter "vis") rfl ?_))
set_option hygiene false in
local macro_rules | `(tactic| tbr_iter "set") => `(tactic| first | ((with_reducible show WB _ (.Assign [.Name "language" _] _ _ :: _) _ _ _); refine wb_cons (ws_set 0 ?_ rfl nd)) | ((with_reducible show WB _ (.Assign [.Name "depth" _] _ _ :: _) _ _ _); refine wb_cons (ws_set 1 ?_ rfl nd)) | ((with_reducible show WB _ (.Assign [.Name "number" _] _ _ :: _) _ _ _); refine wb_cons (ws_set 2 ?_ rfl nd)) | ((with_reducible show WB _ (.Assign [.Name "word" _] _ _ :: _) _ _ _); refine wb_cons (ws_set 3 ?_ rfl nd)))
theorem ok_ranks_of (T : Txt K mg) : Callee P w K mg base "ranks_of" 1 ["language"] spRanks := by
  refine def_ok T.f_ranks_of sc_ranks_of (fun _ _ _ _ _ _ us hl => match us, hl with | [_], _ => rfl) (fun vs H Q E h => ?_) fun f cdv A outer s H vs Q E hr h => ?_
  · obtain ⟨i, _, rfl, _⟩ := h; rfl
  obtain ⟨i, hi, rfl, k⟩ := h
  have nd := sc_ranks_of.nd
  refine wb_cons (ws_lst3 1 2 3 (w_bm1 PySem.F.plainAttrs_str PySem.F.slot_str_split PySem.F.type_str_split ?_) rfl rfl rfl nd)
  tbr_iter "go"
  refine ⟨rfl, ?_⟩
  tbr_iter "go"
  have hl := lang_len i hi
  refine mv_split rfl (Nat.le_trans (Nat.add_le_add_right hl 2) (by decide)) fun p H4 s4 n4 e4 => ?_
  rw [lang_split i hi] at e4
  refine ⟨p, _, _, _, rfl, SqL.of e4, ?_⟩
  refine wb_cons (ws_ret (w_lst (wa_cons (w_bm1 PySem.F.plainAttrs_tuple PySem.F.slot_tuple_index PySem.F.type_tuple_index (w_glob (glob_ref T.c_DEPTHS.1) ⟨tyV_tup T.d_DEPTHS, ?_⟩)))))
  tbr_iter "go"
  have i1 := index_at (L := dptL) (j := i / 6) (by show i / 6 < 2; omega) (by decide +kernel)
  refine ⟨_, mt_tup_index, _, dptL, _, i / 6, rfl, rfl, T.c_DEPTHS.2 _, i1.1, i1.2, ?_⟩
  refine wa_cons (w_bm1 PySem.F.plainAttrs_tuple PySem.F.slot_tuple_index PySem.F.type_tuple_index (w_glob (glob_ref T.c_NUMBERS.1) ⟨tyV_tup T.d_NUMBERS, ?_⟩))
  tbr_iter "go"
  have i2 := index_at (L := numL) (j := i / 3 % 2) (by show i / 3 % 2 < 2; omega) (by decide +kernel)
  refine ⟨_, mt_tup_index, _, numL, _, i / 3 % 2, rfl, rfl, T.c_NUMBERS.2 _, i2.1, i2.2, ?_⟩
  refine wa_cons (w_bm1 PySem.F.plainAttrs_tuple PySem.F.slot_tuple_index PySem.F.type_tuple_index (w_glob (glob_ref T.c_WORDS.1) ⟨tyV_tup T.d_WORDS, ?_⟩))
  tbr_iter "go"
  have i3 := index_at (L := wrdL) (j := i % 3) (by show i % 3 < 3; omega) (by decide +kernel)
  refine ⟨_, mt_tup_index, _, wrdL, _, i % 3, rfl, rfl, T.c_WORDS.2 _, i3.1, i3.2, ?_⟩
  tbr_iter "go"
  exact ⟨show 3 ≤ sizeLine by decide, fun q H5 s5 n5 h5 => k q H5 (s4.trans s5) (same_nul s4 n5) h5⟩
set_option hygiene false in
local macro_rules | `(tactic| tbr_iter "var") => `(tactic| first | ((with_reducible show W _ (.Name "ranks" _) _ _ _); refine w_var 0 rfl (by tbr_iter "vis") rfl ?_))
set_option hygiene false in
local macro_rules | `(tactic| tbr_iter "set") => `(tactic| first | ((with_reducible show WB _ (.Assign [.Name "ranks" _] _ _ :: _) _ _ _); refine wb_cons (ws_set 0 ?_ rfl nd)))
theorem ok_language_by (T : Txt K mg) : Callee P w K mg base "language_by" 1 ["ranks"] (fun vs H Q _ => ∃ (q : Addr) (a b c : Nat), a < 2 ∧ b < 2 ∧ c < 3 ∧ vs = [.ref q] ∧ H q = some (.lst [.int a, .int b, .int c]) ∧ Q (.str (lang (6 * a + 3 * b + c))) H) := by
  refine def_ok T.f_language_by sc_language_by (fun _ _ _ _ _ _ us hl => match us, hl with | [_], _ => rfl) (fun vs H Q E h => ?_) fun f cdv A outer s H vs Q E hr h => ?_
  · obtain ⟨q, a, b, c, _, _, _, rfl, _⟩ := h; rfl
  obtain ⟨q, a, b, c, ha, hb, hc, rfl, hq, k⟩ := h
  have nd := sc_language_by.nd
  have dl : ∀ j, j < 2 → (dptL.getD j "").length ≤ 20 := by decide +kernel
  have nl : ∀ j, j < 2 → (numL.getD j "").length ≤ 20 := by decide +kernel
  have wl : ∀ j, j < 3 → (wrdL.getD j "").length ≤ 20 := by decide +kernel
  have at2 : ∀ {L : List Str} {j : Nat}, j < L.length → atI (L.map V.str) ((j : Nat) : Int) = some (.str (L.getD j "")) := fun {L j} h => atI_nat (by
    rw [List.getElem?_map, List.getD_eq_getElem?_getD, List.getElem?_eq_getElem h]
    rfl)
  refine wb_cons (ws_ret (W.of (pe_joined (.cons (pe_fmt W.pe) (.cons W.pe (.cons (pe_fmt W.pe) (.cons W.pe (.cons (pe_fmt W.pe) .nil)))))) ?_))
  have step : ∀ {acc y : Str} {n : Nat}, acc.length ≤ n → y.length ≤ 20 → (acc ++ y).length ≤ n + 20 := fun {acc y n} h1 h2 => by
    have e : (acc ++ y).length = acc.length + y.length := by
      show (acc.cps ++ y.cps).size = _
      rw [Array.size_append]
      rfl
    omega
  refine w_ix (w_glob (glob_ref T.c_DEPTHS.1) ?_)
  tbr_iter "go"
  refine iv_tup (T.c_DEPTHS.2 _) (at2 (L := dptL) (by show a < 2; omega)) (.inl ⟨_, rfl, Nat.le_trans (dl a ha) (by decide), _, rfl, Nat.le_trans (step (Nat.le_refl 0) (dl a ha)) (by decide), ?_⟩)
  refine w_str ⟨_, rfl, ?_, ?_⟩
  · exact Nat.le_trans (step (step (Nat.le_refl 0) (dl a ha)) (show (" " : Str).length ≤ 20 by decide)) (by decide)
  refine w_ix (w_glob (glob_ref T.c_NUMBERS.1) ?_)
  tbr_iter "go"
  refine iv_tup (T.c_NUMBERS.2 _) (at2 (L := numL) (by show b < 2; omega)) (.inl ⟨_, rfl, Nat.le_trans (nl b hb) (by decide), _, rfl, ?_, ?_⟩)
  · exact Nat.le_trans (step (step (step (Nat.le_refl 0) (dl a ha)) (show (" " : Str).length ≤ 20 by decide)) (nl b hb)) (by decide)
  refine w_str ⟨_, rfl, ?_, ?_⟩
  · exact Nat.le_trans (step (step (step (step (Nat.le_refl 0) (dl a ha)) (show (" " : Str).length ≤ 20 by decide)) (nl b hb)) (show (" " : Str).length ≤ 20 by decide)) (by decide)
  refine w_ix (w_glob (glob_ref T.c_WORDS.1) ?_)
  tbr_iter "go"
  refine iv_tup (T.c_WORDS.2 _) (at2 (L := wrdL) (by show c < 3; omega)) (.inl ⟨_, rfl, Nat.le_trans (wl c hc) (by decide), _, rfl, ?_, ?_⟩)
  · exact Nat.le_trans (step (step (step (step (step (Nat.le_refl 0) (dl a ha)) (show (" " : Str).length ≤ 20 by decide)) (nl b hb)) (show (" " : Str).length ≤ 20 by decide)) (wl c hc)) (by decide)
  show Q (.str _) H
  rw [lang_join a ha b hb c hc]
  exact k
end
end Ax
end
section
set_option maxHeartbeats 4000000
open PySem PySem.Spec PyProof.Rows L2 Ax
set_option hygiene false in
local macro_rules | `(tactic| tbr_iter "boot") => `(tactic| with_reducible first | exact Ax.b_len | exact Ax.b_all | exact Ax.b_any | exact Ax.b_sorted | exact Ax.b_isinstance | exact Ax.b_abs | exact Ax.b_max | exact Ax.b_min | exact Ax.b_sum | exact Ax.b_repr | exact Ax.b_iter | exact Ax.b_ord | exact Ax.b_chr | exact Ax.b_str | exact Ax.b_int | exact Ax.b_bool | exact Ax.b_tuple | exact Ax.b_list | exact Ax.b_dict | exact Ax.b_set | exact Ax.b_range | exact Ax.b_enumerate | exact Ax.b_zip)
set_option hygiene false in
local macro_rules | `(tactic| tbr_iter "vis") => `(tactic| first | exact Or.inl rfl | exact Or.inr (Or.inl rfl) | exact Or.inr (Or.inr rfl))
set_option hygiene false in
local macro_rules | `(tactic| tbr_iter "w") => `(tactic| first
  | refine wb_cons ?_
  | refine wb_nil ?_
  | refine ws_ret ?_
  | refine ws_if ?_
  | refine ws_sub ?_
  | refine wa_cons ?_
  | refine wa_nil ?_
  | refine w_int ?_
  | refine w_str ?_
  | refine w_bl ?_
  | refine w_non ?_
  | tbr_iter "var"
  | refine w_bin ?_
  | refine w_cmp ?_
  | refine w_chain ?_
  | refine w_and ?_
  | refine w_or ?_
  | refine w_one ?_
  | refine w_not ?_
  | refine w_ix ?_
  | refine w_ifExp ?_
  | refine w_tup ?_
  | refine w_lst ?_
  | refine wt_not ?_
  | refine wt_bool ?_
  | refine ww_and ?_
  | refine ww_and1 ?_
  | refine ww_or ?_
  | refine ww_or1 ?_
  | refine wt_cmp ?_
  | refine wt_val ?_
  | tbr_iter "call"
  | (refine w_glob (by tbr_iter "mg") ?_)
  | (refine w_callB (by tbr_iter "z") ?_)
  | (refine w_callTy (by tbr_iter "z") ?_)
  | (refine w_bltT (by tbr_iter "z") ?_))
set_option hygiene false in
local macro_rules | `(tactic| tbr_iter "blk") => `(tactic| first | exact blkOk_by (by dsimp only [cxOf, envOfC]; decide +kernel))
set_option hygiene false in
local macro_rules | `(tactic| tbr_iter "iff") => `(tactic| first
  | refine iteT ?_
  | refine iteF ?_
  | refine w_if2 (fun _ => ?_) (fun _ => ?_))
set_option hygiene false in
local macro_rules | `(tactic| tbr_iter "sc") => `(tactic| first | omega | decide)
set_option hygiene false in
local macro_rules | `(tactic| tbr_iter "at") => `(tactic| first | exact atI_0 | exact atI_1 | exact atI_2)
set_option hygiene false in
local macro_rules | `(tactic| tbr_iter "sql") => `(tactic| ((try dsimp only [L2.cxOf, L2.Cx.blk]); with_reducible first | assumption | exact SqL.of (by assumption)))
set_option hygiene false in
local macro_rules | `(tactic| tbr_iter "sqt") => `(tactic| ((try dsimp only [L2.cxOf, L2.Cx.blk]); with_reducible first | assumption | exact SqT.of (by assumption)))
set_option hygiene false in
local macro_rules | `(tactic| tbr_iter "v") => `(tactic| first
  | refine bv_add ?_
  | refine bv_sub ?_
  | ((with_reducible show BinV _ .Mult _ _ _ _); refine bv_mul (Or.inl ⟨by tbr_iter "sc", by tbr_iter "sc"⟩) ?_)
  | ((with_reducible show BinV _ .Mult _ _ _ _); refine bv_mul (Or.inr ⟨by tbr_iter "sc", by tbr_iter "sc"⟩) ?_)
  | ((with_reducible show BinV _ .Mod _ _ _ _); refine bv_mod (by tbr_iter "sc") ?_)
  | ((with_reducible show BinV _ .FloorDiv _ _ _ _); refine bv_fdiv ⟨by tbr_iter "sc", by tbr_iter "sc"⟩ ?_)
  | ((with_reducible show BinV _ .Pow _ _ _ _); refine bv_pow ⟨by decide, by decide +kernel⟩ ?_)
  | refine cv_lt ?_
  | refine cv_le ?_
  | refine cv_gt ?_
  | refine cv_ge ?_
  | ((with_reducible show CmpV _ .Eq _ _ _ _); refine cv_eq rfl ?_)
  | ((with_reducible show CmpV _ .NotEq _ _ _ _); refine cv_ne rfl ?_)
  | refine iv_list (by tbr_iter "sql") (by tbr_iter "at") ?_
  | refine iv_tup (by tbr_iter "sqt") (by tbr_iter "at") ?_
  | refine kv_len_seq (Or.inl (by tbr_iter "sql")) ?_
  | refine kv_len_seq (Or.inr (by tbr_iter "sqt")) ?_
  | refine kv_int ?_
  | refine kv_intB ?_
  | refine kv_abs ?_
  | refine kv_max2 rfl ?_
  | refine kv_min2 rfl ?_)
set_option hygiene false in
local macro_rules | `(tactic| tbr_iter "b") => `(tactic| first
  | refine ⟨_, rfl, iteT ?_⟩
  | refine ⟨_, rfl, iteF ?_⟩
  | refine iteT ?_
  | refine iteF ?_)
set_option hygiene false in
local macro_rules | `(tactic| tbr_iter "go") => `(tactic| repeat (first | tbr_iter "w" | tbr_iter "v" | tbr_iter "b"))
set_option hygiene false in
local macro_rules | `(tactic| tbr_iter "nof") => `(tactic| (intro d hd; cases d <;> first | rfl | exact absurd rfl (hd _)))
set_option hygiene false in
local macro_rules | `(tactic| tbr_iter "e1") => `(tactic| first | ((with_reducible show W _ _ _ _ _); tbr_iter "w") | ((with_reducible show WA _ _ _ _ _); tbr_iter "w") | ((with_reducible show WT _ _ _ _ _); tbr_iter "w") | ((with_reducible show WW _ _ _ _ _); tbr_iter "w") | tbr_iter "v")
set_option hygiene false in
local macro_rules | `(tactic| tbr_iter "ex") => `(tactic| repeat (tbr_iter "e1"))
set_option hygiene false in
local macro_rules | `(tactic| tbr_iter "z") => `(tactic| ((try dsimp only [L2.cxOf]); with_reducible first | exact T.z_IndexError | exact T.z_KeyError | exact T.z_ValueError | exact T.z_abs | exact T.z_all | exact T.z_bool | exact T.z_classmethod | exact T.z_dict | exact T.z_enumerate | exact T.z_int | exact T.z_isinstance | exact T.z_iter | exact T.z_len | exact T.z_list | exact T.z_max | exact T.z_min | exact T.z_property | exact T.z_range | exact T.z_repr | exact T.z_sorted | exact T.z_str | exact T.z_tuple | exact T.z_zip))
set_option hygiene false in
local macro_rules | `(tactic| tbr_iter "mg") => `(tactic| ((try dsimp only [L2.cxOf]); with_reducible first | exact T.c_ALPHABET | exact T.c_MAX_LETTERS | exact T.c_MAX_COLUMNS | exact T.c_MOST_VALUES | exact T.c_MAX_TABLES | exact T.c_IN | exact T.c_OUT | exact T.c_UNLIKE))
namespace Ax
theorem ranksV_get {i : Nat} : (ranksV i)[0]? = some (.int (i / 6 : Nat)) ∧ (ranksV i)[1]? = some (.int (i / 3 % 2 : Nat)) ∧ (ranksV i)[2]? = some (.int (i % 3 : Nat)) := ⟨rfl, rfl, rfl⟩
/-- the i-th rank of the j-th language -/
def rk (j i : Nat) : Nat := if i = 0 then j / 6 else if i = 1 then j / 3 % 2 else j % 3
theorem ranksV_rk {j i : Nat} {x : V} (h : (ranksV j)[i]? = some x) : x = .int (rk j i : Nat) := by
  match i, h with
  | 0, h => exact (Option.some.inj h).symm
  | 1, h => exact (Option.some.inj h).symm
  | 2, h => exact (Option.some.inj h).symm
theorem below_all (i j : Nat) : ((List.range 3).map fun n => decide ((rk i n : Int) ≤ (rk j n : Nat))).all id = below i j := by
  show (decide ((rk i 0 : Int) ≤ (rk j 0 : Nat)) && (decide ((rk i 1 : Int) ≤ (rk j 1 : Nat)) && (decide ((rk i 2 : Int) ≤ (rk j 2 : Nat)) && true))) = _
  unfold below rk
  simp only [Bool.and_true, Int.ofNat_le]
  rfl
theorem max_if (a b : Nat) : (if ((b : Nat) : Int) > ((a : Nat) : Int) then ((b : Nat) : Int) else ((a : Nat) : Int)) = ((max a b : Nat) : Int) := by
  split <;> omega
section
variable {P : Program} {w : World} {K : PySem.W.Frag} {mg : Str → Option Value} {base : Heap}
set_option hygiene false in
local macro_rules | `(tactic| tbr_iter "var") => `(tactic| first | ((with_reducible show W _ (.Name "language" _) _ _ _); refine w_var 0 rfl (by tbr_iter "vis") rfl ?_) | ((with_reducible show W _ (.Name "other" _) _ _ _); refine w_var 1 rfl (by tbr_iter "vis") rfl ?_) | ((with_reducible show W _ (.Name "one" _) _ _ _); refine w_var 2 rfl (by tbr_iter "vis") rfl ?_) | ((with_reducible show W _ (.Name "two" _) _ _ _); refine w_var 3 rfl (by tbr_iter "vis") rfl ?_))
set_option hygiene false in
local macro_rules | `(tactic| tbr_iter "set") => `(tactic| first | ((with_reducible show WB _ (.Assign [.Name "language" _] _ _ :: _) _ _ _); refine wb_cons (ws_set 0 ?_ rfl nd)) | ((with_reducible show WB _ (.Assign [.Name "other" _] _ _ :: _) _ _ _); refine wb_cons (ws_set 1 ?_ rfl nd)) | ((with_reducible show WB _ (.Assign [.Name "one" _] _ _ :: _) _ _ _); refine wb_cons (ws_set 2 ?_ rfl nd)) | ((with_reducible show WB _ (.Assign [.Name "two" _] _ _ :: _) _ _ _); refine wb_cons (ws_set 3 ?_ rfl nd)))
theorem ok_is_within_in (T : Txt K mg) : Callee P w K mg base "is_within_in" 2 ["language", "other"] spBelow := by
  refine def_ok T.f_is_within_in sc_is_within_in (fun _ _ _ _ _ _ us hl => match us, hl with | [_, _], _ => rfl) (fun vs H Q E h => ?_) fun f cdv A outer s H vs Q E hr h => ?_
  · obtain ⟨i, j, _, _, rfl, _⟩ := h; rfl
  obtain ⟨i, j, hi, hj, rfl, k⟩ := h
  have nd := sc_is_within_in.nd
  refine wb_cons (ws_ret (w_callB T.z_all (wa_cons (w_lcI [("one", 2), ("two", 3)] (gPair K 2 3) tYes (fun _ _ _ _ _ => pg_tup rfl (pgs_cons (pg_name nd rfl (Or.inl rfl) (Or.inr rfl)) (pgs_cons (pg_name nd rfl (Or.inl rfl) (Or.inr rfl)) pgs_nil))) (fun _ _ _ _ _ => pts_nil) rfl nd (by tbr_iter "blk") (lcC_I mono_pair mono_yes (wi_zip T.z_zip (wa_cons (w_call (ok_ranks_of T) hr passL ?_))))))))
  tbr_iter "go"
  refine ⟨i, hi, rfl, fun p H1 s1 n1 h1 => wa_cons (w_call (ok_ranks_of T) hr passL ?_)⟩
  tbr_iter "go"
  refine ⟨j, hj, rfl, fun q H2 s2 n2 h2 => wa_nil ⟨p, q, ranksV i, ranksV j, rfl, SqL.of (s2 _ _ h1), SqL.of h2, 3, _, itN_zip (SqL.of (s2 _ _ h1)) (SqL.of h2) rfl, by decide, fun n => some (.bl (decide ((rk i n : Int) ≤ (rk j n : Nat)))), fun n x H3 hn s3 hv => ?_, fun D H3 s3 n3 h3 => ?_⟩⟩
  · obtain ⟨t, y1, y2, rfl, e1, e2, hT⟩ := hv
    cases ranksV_rk e1
    cases ranksV_rk e2
    refine gPair_of (SqT.of hT) ⟨rfl, Same.refl _, fun _ _ _ _ _ => ?_⟩
    tbr_iter "go"
    exact ⟨Same.refl _, rfl⟩
  · refine wa_nil (kv_all (bs := (List.range 3).map fun n => decide ((rk i n : Int) ≤ (rk j n : Nat))) rfl (SqL.of h3) ?_)
    rw [below_all]
    exact k _ (s1.trans (s2.trans s3))
set_option hygiene false in
local macro_rules | `(tactic| tbr_iter "var") => `(tactic| first | ((with_reducible show W _ (.Name "language" _) _ _ _); refine w_var 0 rfl (by tbr_iter "vis") rfl ?_) | ((with_reducible show W _ (.Name "other" _) _ _ _); refine w_var 1 rfl (by tbr_iter "vis") rfl ?_))
set_option hygiene false in
local macro_rules | `(tactic| tbr_iter "set") => `(tactic| first | ((with_reducible show WB _ (.Assign [.Name "language" _] _ _ :: _) _ _ _); refine wb_cons (ws_set 0 ?_ rfl nd)) | ((with_reducible show WB _ (.Assign [.Name "other" _] _ _ :: _) _ _ _); refine wb_cons (ws_set 1 ?_ rfl nd)))
theorem ok_is_within (T : Txt K mg) : Callee P w K mg base "is_within" 3 ["language", "other"] spBelow := by
  refine def_ok T.f_is_within sc_is_within (fun _ _ _ _ _ _ us hl => match us, hl with | [_, _], _ => rfl) (fun vs H Q E h => ?_) fun f cdv A outer s H vs Q E hr h => ?_
  · obtain ⟨i, j, _, _, rfl, _⟩ := h; rfl
  obtain ⟨i, j, hi, hj, rfl, k⟩ := h
  have nd := sc_is_within.nd
  refine wb_cons (ws_expr (w_call (ok_require_language T) hr passL ?_))
  tbr_iter "go"
  refine ⟨i, hi, rfl, fun H1 s1 => ?_⟩
  refine wb_cons (ws_expr (w_call (ok_require_language T) hr passL ?_))
  tbr_iter "go"
  refine ⟨j, hj, rfl, fun H2 s2 => ?_⟩
  refine wb_cons (ws_ret (w_call (ok_is_within_in T) hr passL ?_))
  tbr_iter "go"
  exact ⟨i, j, hi, hj, rfl, fun H3 s3 => k H3 (s1.trans (s2.trans s3))⟩
set_option hygiene false in
local macro_rules | `(tactic| tbr_iter "var") => `(tactic| first | ((with_reducible show W _ (.Name "language" _) _ _ _); refine w_var 0 rfl (by tbr_iter "vis") rfl ?_) | ((with_reducible show W _ (.Name "other" _) _ _ _); refine w_var 1 rfl (by tbr_iter "vis") rfl ?_) | ((with_reducible show W _ (.Name "one" _) _ _ _); refine w_var 2 rfl (by tbr_iter "vis") rfl ?_) | ((with_reducible show W _ (.Name "two" _) _ _ _); refine w_var 3 rfl (by tbr_iter "vis") rfl ?_))
set_option hygiene false in
local macro_rules | `(tactic| tbr_iter "set") => `(tactic| first | ((with_reducible show WB _ (.Assign [.Name "language" _] _ _ :: _) _ _ _); refine wb_cons (ws_set 0 ?_ rfl nd)) | ((with_reducible show WB _ (.Assign [.Name "other" _] _ _ :: _) _ _ _); refine wb_cons (ws_set 1 ?_ rfl nd)) | ((with_reducible show WB _ (.Assign [.Name "one" _] _ _ :: _) _ _ _); refine wb_cons (ws_set 2 ?_ rfl nd)) | ((with_reducible show WB _ (.Assign [.Name "two" _] _ _ :: _) _ _ _); refine wb_cons (ws_set 3 ?_ rfl nd)))
theorem ok_joined (T : Txt K mg) : Callee P w K mg base "joined" 3 ["language", "other"] spJoined := by
  refine def_ok T.f_joined sc_joined (fun _ _ _ _ _ _ us hl => match us, hl with | [_, _], _ => rfl) (fun vs H Q E h => ?_) fun f cdv A outer s H vs Q E hr h => ?_
  · obtain ⟨i, j, _, _, rfl, _⟩ := h; rfl
  obtain ⟨i, j, hi, hj, rfl, k⟩ := h
  have nd := sc_joined.nd
  refine wb_cons (ws_expr (w_call (ok_require_language T) hr passL ?_))
  tbr_iter "go"
  refine ⟨i, hi, rfl, fun H1 s1 => ?_⟩
  refine wb_cons (ws_expr (w_call (ok_require_language T) hr passL ?_))
  tbr_iter "go"
  refine ⟨j, hj, rfl, fun H2 s2 => ?_⟩
  refine wb_cons (ws_ret (w_call (ok_language_by T) (hr.mono (by decide)) passL (wa_cons (w_lcI [("one", 2), ("two", 3)] (gPair K 2 3) tYes (fun _ _ _ _ _ => pg_tup rfl (pgs_cons (pg_name nd rfl (Or.inl rfl) (Or.inr rfl)) (pgs_cons (pg_name nd rfl (Or.inl rfl) (Or.inr rfl)) pgs_nil))) (fun _ _ _ _ _ => pts_nil) rfl nd (by tbr_iter "blk") (lcC_I mono_pair mono_yes (wi_zip T.z_zip (wa_cons (w_call (ok_ranks_of T) (hr.mono (by decide)) passL ?_))))))))
  tbr_iter "go"
  refine ⟨i, hi, rfl, fun p H3 s3 n3 h3 => wa_cons (w_call (ok_ranks_of T) (hr.mono (by decide)) passL ?_)⟩
  tbr_iter "go"
  refine ⟨j, hj, rfl, fun q H4 s4 n4 h4 => wa_nil ⟨p, q, ranksV i, ranksV j, rfl, SqL.of (s4 _ _ h3), SqL.of h4, 3, _, itN_zip (SqL.of (s4 _ _ h3)) (SqL.of h4) rfl, by decide, fun n => some (.int (max (rk i n) (rk j n) : Nat)), fun n x H5 hn s5 hv => ?_, fun D H5 s5 n5 h5 => ?_⟩⟩
  · obtain ⟨t, y1, y2, rfl, e1, e2, hT⟩ := hv
    cases ranksV_rk e1
    cases ranksV_rk e2
    refine gPair_of (SqT.of hT) ⟨rfl, Same.refl _, fun _ _ _ _ _ => ?_⟩
    tbr_iter "go"
    refine ⟨Same.refl _, ?_⟩
    rw [max_if]
  · refine wa_nil ⟨D, max (i / 6) (j / 6), max (i / 3 % 2) (j / 3 % 2), max (i % 3) (j % 3), by omega, by omega, by omega, rfl, h5, ?_⟩
    exact k _ (s1.trans (s2.trans (s3.trans (s4.trans s5))))
/-- Database.of(values, tables) -/
def spDbOf (K : PySem.W.Frag) : Sp := fun vs H Q _ => ∃ (d p : Addr) (zs : List Str) (kvs : List (Key × V)), vs = [.ref (He.ga K "Database"), .ref p, .ref d] ∧ H d = some (.dK kvs) ∧ kvs.length ≤ 4 ∧ (kvs.map (·.1)).Nodup ∧ SqT K H p (zs.map V.str) ∧ ValsOk zs ∧ TabsFit K H zs kvs ∧
  ∀ x H' ns, Same H H' → H x = none → DbIs K H' "MadeDatabase" x (sortT zs) ns → (ns.map Sum.inr).Perm (kvs.map (·.1)) → (ns.Pairwise fun a b => strLe a b = true) → Q (.ref x) H'
theorem dbI_make {n : Str} {H1 : Hp} {d p : Addr} {zs : List Str} {kvs : List (Key × V)} {Q : VK} {E : XK} (hd : H1 d = some (.dK kvs)) (hl : kvs.length ≤ 4) (hn : (kvs.map (·.1)).Nodup) (hp : SqT K H1 p (zs.map V.str)) (hz : ValsOk zs) (ht : TabsFit K H1 zs kvs)
    (k : ∀ x H' ns, Same H1 H' → H1 x = none → DbIs K H' n x (sortT zs) ns → (ns.map Sum.inr).Perm (kvs.map (·.1)) → (ns.Pairwise fun a b => strLe a b = true) → Q (.ref x) H') :
    ∀ x dx, H1 x = none → H1 dx = none → dx ≠ x → spDbI K n [.ref x, .ref p, .ref d] (upd (upd H1 dx (.own x)) x (.ins (He.ga K n) dx [])) (fun v H2 => v = .non ∧ Q (.ref x) H2) E := by
  intro x dx hx hdx hne
  have s1 : Same H1 (upd (upd H1 dx (.own x)) x (.ins (He.ga K n) dx [])) := fun y o hy => by
    rw [upd_ne (ne_of_none hy hx), upd_ne (ne_of_none hy hdx)]
    exact hy
  exact ⟨x, dx, d, p, zs, kvs, rfl, upd_same, s1 _ _ hd, hl, hn, same_tup s1 hp, hz, ht.same s1, fun H' ns bt db pm pw => ⟨rfl, k x H' ns (made_same hx hdx bt) hx db pm pw⟩⟩
set_option hygiene false in
local macro_rules | `(tactic| tbr_iter "var") => `(tactic| first | ((with_reducible show W _ (.Name "cls" _) _ _ _); refine w_var 0 rfl (by tbr_iter "vis") rfl ?_) | ((with_reducible show W _ (.Name "values" _) _ _ _); refine w_var 1 rfl (by tbr_iter "vis") rfl ?_) | ((with_reducible show W _ (.Name "tables" _) _ _ _); refine w_var 2 rfl (by tbr_iter "vis") rfl ?_))
set_option hygiene false in
local macro_rules | `(tactic| tbr_iter "set") => `(tactic| first | ((with_reducible show WB _ (.Assign [.Name "cls" _] _ _ :: _) _ _ _); refine wb_cons (ws_set 0 ?_ rfl nd)) | ((with_reducible show WB _ (.Assign [.Name "values" _] _ _ :: _) _ _ _); refine wb_cons (ws_set 1 ?_ rfl nd)) | ((with_reducible show WB _ (.Assign [.Name "tables" _] _ _ :: _) _ _ _); refine wb_cons (ws_set 2 ?_ rfl nd)))
theorem ok_db_of (T : Txt K mg) : FnP P w K mg base 9 (He5.wf K (He.ga K "Database") "classmethod" "of") (spDbOf K) := by
  refine meth_okR T.f_Database_of sc_Database_of (fun _ _ _ _ _ _ us hl => match us, hl with | [_, _, _], _ => rfl) (fun vs H Q E h => ?_) fun cdv A outer s H vs Q E hr h => ?_
  · obtain ⟨d, p, zs, kvs, rfl, _⟩ := h; rfl
  obtain ⟨d, p, zs, kvs, rfl, hd, hl, hn, hp, hz, ht, k⟩ := h
  have nd := sc_Database_of.nd
  refine wb_cons (ws_ret (w_make T.k_MadeDatabase (ok_made_init T) hr passL (w_glob (glob_ref T.g_MadeDatabase) ⟨rfl, ?_⟩)))
  tbr_iter "go"
  exact dbI_make hd hl hn hp hz ht k
end
end Ax
end
section
set_option maxHeartbeats 4000000
open PySem PySem.Spec PyProof.Rows L2 Ax
set_option hygiene false in
local macro_rules | `(tactic| tbr_iter "boot") => `(tactic| with_reducible first | exact Ax.b_len | exact Ax.b_all | exact Ax.b_any | exact Ax.b_sorted | exact Ax.b_isinstance | exact Ax.b_abs | exact Ax.b_max | exact Ax.b_min | exact Ax.b_sum | exact Ax.b_repr | exact Ax.b_iter | exact Ax.b_ord | exact Ax.b_chr | exact Ax.b_str | exact Ax.b_int | exact Ax.b_bool | exact Ax.b_tuple | exact Ax.b_list | exact Ax.b_dict | exact Ax.b_set | exact Ax.b_range | exact Ax.b_enumerate | exact Ax.b_zip)
set_option hygiene false in
local macro_rules | `(tactic| tbr_iter "vis") => `(tactic| first | exact Or.inl rfl | exact Or.inr (Or.inl rfl) | exact Or.inr (Or.inr rfl))
set_option hygiene false in
local macro_rules | `(tactic| tbr_iter "w") => `(tactic| first
  | refine wb_cons ?_
  | refine wb_nil ?_
  | refine ws_ret ?_
  | refine ws_if ?_
  | refine ws_sub ?_
  | refine wa_cons ?_
  | refine wa_nil ?_
  | refine w_int ?_
  | refine w_str ?_
  | refine w_bl ?_
  | refine w_non ?_
  | tbr_iter "var"
  | refine w_bin ?_
  | refine w_cmp ?_
  | refine w_chain ?_
  | refine w_and ?_
  | refine w_or ?_
  | refine w_one ?_
  | refine w_not ?_
  | refine w_ix ?_
  | refine w_ifExp ?_
  | refine w_tup ?_
  | refine w_lst ?_
  | refine wt_not ?_
  | refine wt_bool ?_
  | refine ww_and ?_
  | refine ww_and1 ?_
  | refine ww_or ?_
  | refine ww_or1 ?_
  | refine wt_cmp ?_
  | refine wt_val ?_
  | tbr_iter "call"
  | (refine w_glob (by tbr_iter "mg") ?_)
  | (refine w_callB (by tbr_iter "z") ?_)
  | (refine w_callTy (by tbr_iter "z") ?_)
  | (refine w_bltT (by tbr_iter "z") ?_))
set_option hygiene false in
local macro_rules | `(tactic| tbr_iter "blk") => `(tactic| first | exact blkOk_by (by dsimp only [cxOf, envOfC]; decide +kernel))
set_option hygiene false in
local macro_rules | `(tactic| tbr_iter "iff") => `(tactic| first
  | refine iteT ?_
  | refine iteF ?_
  | refine w_if2 (fun _ => ?_) (fun _ => ?_))
set_option hygiene false in
local macro_rules | `(tactic| tbr_iter "sc") => `(tactic| first | omega | decide)
set_option hygiene false in
local macro_rules | `(tactic| tbr_iter "at") => `(tactic| first | exact atI_0 | exact atI_1 | exact atI_2)
set_option hygiene false in
local macro_rules | `(tactic| tbr_iter "sql") => `(tactic| ((try dsimp only [L2.cxOf, L2.Cx.blk]); with_reducible first | assumption | exact SqL.of (by assumption)))
set_option hygiene false in
local macro_rules | `(tactic| tbr_iter "sqt") => `(tactic| ((try dsimp only [L2.cxOf, L2.Cx.blk]); with_reducible first | assumption | exact SqT.of (by assumption)))
set_option hygiene false in
local macro_rules | `(tactic| tbr_iter "v") => `(tactic| first
  | refine bv_add ?_
  | refine bv_sub ?_
  | ((with_reducible show BinV _ .Mult _ _ _ _); refine bv_mul (Or.inl ⟨by tbr_iter "sc", by tbr_iter "sc"⟩) ?_)
  | ((with_reducible show BinV _ .Mult _ _ _ _); refine bv_mul (Or.inr ⟨by tbr_iter "sc", by tbr_iter "sc"⟩) ?_)
  | ((with_reducible show BinV _ .Mod _ _ _ _); refine bv_mod (by tbr_iter "sc") ?_)
  | ((with_reducible show BinV _ .FloorDiv _ _ _ _); refine bv_fdiv ⟨by tbr_iter "sc", by tbr_iter "sc"⟩ ?_)
  | ((with_reducible show BinV _ .Pow _ _ _ _); refine bv_pow ⟨by decide, by decide +kernel⟩ ?_)
  | refine cv_lt ?_
  | refine cv_le ?_
  | refine cv_gt ?_
  | refine cv_ge ?_
  | ((with_reducible show CmpV _ .Eq _ _ _ _); refine cv_eq rfl ?_)
  | ((with_reducible show CmpV _ .NotEq _ _ _ _); refine cv_ne rfl ?_)
  | refine iv_list (by tbr_iter "sql") (by tbr_iter "at") ?_
  | refine iv_tup (by tbr_iter "sqt") (by tbr_iter "at") ?_
  | refine kv_len_seq (Or.inl (by tbr_iter "sql")) ?_
  | refine kv_len_seq (Or.inr (by tbr_iter "sqt")) ?_
  | refine kv_int ?_
  | refine kv_intB ?_
  | refine kv_abs ?_
  | refine kv_max2 rfl ?_
  | refine kv_min2 rfl ?_)
set_option hygiene false in
local macro_rules | `(tactic| tbr_iter "b") => `(tactic| first
  | refine ⟨_, rfl, iteT ?_⟩
  | refine ⟨_, rfl, iteF ?_⟩
  | refine iteT ?_
  | refine iteF ?_)
set_option hygiene false in
local macro_rules | `(tactic| tbr_iter "go") => `(tactic| repeat (first | tbr_iter "w" | tbr_iter "v" | tbr_iter "b"))
set_option hygiene false in
local macro_rules | `(tactic| tbr_iter "nof") => `(tactic| (intro d hd; cases d <;> first | rfl | exact absurd rfl (hd _)))
set_option hygiene false in
local macro_rules | `(tactic| tbr_iter "e1") => `(tactic| first | ((with_reducible show W _ _ _ _ _); tbr_iter "w") | ((with_reducible show WA _ _ _ _ _); tbr_iter "w") | ((with_reducible show WT _ _ _ _ _); tbr_iter "w") | ((with_reducible show WW _ _ _ _ _); tbr_iter "w") | tbr_iter "v")
set_option hygiene false in
local macro_rules | `(tactic| tbr_iter "ex") => `(tactic| repeat (tbr_iter "e1"))
set_option hygiene false in
local macro_rules | `(tactic| tbr_iter "z") => `(tactic| ((try dsimp only [L2.cxOf]); with_reducible first | exact T.z_IndexError | exact T.z_KeyError | exact T.z_ValueError | exact T.z_abs | exact T.z_all | exact T.z_bool | exact T.z_classmethod | exact T.z_dict | exact T.z_enumerate | exact T.z_int | exact T.z_isinstance | exact T.z_iter | exact T.z_len | exact T.z_list | exact T.z_max | exact T.z_min | exact T.z_property | exact T.z_range | exact T.z_repr | exact T.z_sorted | exact T.z_str | exact T.z_tuple | exact T.z_zip))
set_option hygiene false in
local macro_rules | `(tactic| tbr_iter "mg") => `(tactic| ((try dsimp only [L2.cxOf]); with_reducible first | exact T.c_ALPHABET | exact T.c_MAX_LETTERS | exact T.c_MAX_COLUMNS | exact T.c_MOST_VALUES | exact T.c_MAX_TABLES | exact T.c_IN | exact T.c_OUT | exact T.c_UNLIKE))
namespace Ax
theorem all2_get {β α : Type} {R : β → α → Prop} : ∀ {xs : List β} {as : List α}, xs.length = as.length → (∀ (i : Nat) x, xs[i]? = some x → ∃ a, as[i]? = some a ∧ R x a) → All2 R xs as
  | [], [], _, _ => .nil
  | [], _ :: _, h, _ => nomatch h
  | _ :: _, [], h, _ => nomatch h
  | x :: xs, a :: as, h, k => by
    obtain ⟨b, e, r⟩ := k 0 x rfl
    cases e
    exact .cons r (all2_get (Nat.succ.inj h) fun i y e => k (i + 1) y e)
/-- y is the new pair of t and the i-th name -/
def SgR (t : Str) (ns : List Str) (D : Addr) (i : Nat) (y : V) (H : Hp) : Prop := ∃ b n, ns[i]? = some n ∧ y = .ref b ∧ b ≠ D ∧ H b = some (.tup [.str t, .str n])
theorem SgR.bt {t : Str} {ns : List Str} {D : Addr} {i : Nat} {y : V} {Ha Hb : Hp} (h : SgR t ns D i y Ha) (b : Bt D Ha Hb) : SgR t ns D i y Hb := let ⟨a, n, e1, e2, e3, e4⟩ := h; ⟨a, n, e1, e2, e3, b _ _ e3 e4⟩
theorem sgR_rows {t : Str} {ns : List Str} {D : Addr} {ys : List V} {H : Hp} (hl : ys.length = ns.length) (h : ∀ (i : Nat) y, ys[i]? = some y → SgR t ns D i y H) : All2 (RwV H) ys (ns.map fun n => [t, n]) :=
  all2_get (by rw [List.length_map, hl]) fun i y e => by
    obtain ⟨b, n, e1, e2, _, e4⟩ := h i y e
    exact ⟨[t, n], by rw [List.getElem?_map, e1] <;> rfl, b, e2, e4⟩
/-- the signs' texts -/
def signsR (ns : List Str) (k : Nat) : List (List Str) := (ns.map fun n => [("in" : Str), n]) ++ (if k = 2 then ns.map fun n => [("out" : Str), n] else []) ++ (if 0 < k then [[("unlike" : Str)]] else [])
def DbN (n : Str) : Prop := n = "Database" ∨ n = "MadeDatabase"
def spSigns (K : PySem.W.Frag) : Sp := fun vs H Q _ => ∃ (x : Addr) (i : Nat) (n : Str) (zs ns : List Str), i < 12 ∧ vs = [.ref x, .str (lang i)] ∧ DbN n ∧ DbIs K H n x zs ns ∧ ns.length ≤ 4 ∧ ∀ q us H2, Same H H2 → H2 q = some (.tup us) → All2 (RwV H2) us (signsR ns (i % 3)) → Q (.ref q) H2
section
variable {P : Program} {w : World} {K : PySem.W.Frag} {mg : Str → Option Value} {base : Heap}
theorem db_cls (T : Txt K mg) {n : Str} (h : DbN n) : KC K (He.ga K n) ∧ NoAttr K (He.ga K n) "own_tables" ∧ PySem.W.kitOne K (.ref (He.ga K n)) (.ref (He.ga K "Database")) = some true := by
  rcases h with rfl | rfl
  · exact ⟨T.kc_Database, T.a_Database_own_tables, T.i_Database_Database⟩
  · exact ⟨T.kc_MadeDatabase, T.a_MadeDatabase_own_tables, T.i_MadeDatabase_Database⟩
set_option hygiene false in
local macro_rules | `(tactic| tbr_iter "var") => `(tactic| first | ((with_reducible show W _ (.Name "database" _) _ _ _); refine w_var 0 rfl (by tbr_iter "vis") rfl ?_) | ((with_reducible show W _ (.Name "language" _) _ _ _); refine w_var 1 rfl (by tbr_iter "vis") rfl ?_) | ((with_reducible show W _ (.Name "word" _) _ _ _); refine w_var 2 rfl (by tbr_iter "vis") rfl ?_) | ((with_reducible show W _ (.Name "found" _) _ _ _); refine w_var 3 rfl (by tbr_iter "vis") rfl ?_) | ((with_reducible show W _ (.Name "name" _) _ _ _); refine w_var 4 rfl (by tbr_iter "vis") rfl ?_))
set_option hygiene false in
local macro_rules | `(tactic| tbr_iter "set") => `(tactic| first | ((with_reducible show WB _ (.Assign [.Name "database" _] _ _ :: _) _ _ _); refine wb_cons (ws_set 0 ?_ rfl nd)) | ((with_reducible show WB _ (.Assign [.Name "language" _] _ _ :: _) _ _ _); refine wb_cons (ws_set 1 ?_ rfl nd)) | ((with_reducible show WB _ (.Assign [.Name "word" _] _ _ :: _) _ _ _); refine wb_cons (ws_set 2 ?_ rfl nd)) | ((with_reducible show WB _ (.Assign [.Name "found" _] _ _ :: _) _ _ _); refine wb_cons (ws_set 3 ?_ rfl nd)) | ((with_reducible show WB _ (.Assign [.Name "name" _] _ _ :: _) _ _ _); refine wb_cons (ws_set 4 ?_ rfl nd)))
theorem ok_signs_in (T : Txt K mg) : Callee P w K mg base "signs_in" 2 ["database", "language"] (spSigns K) := by
  refine def_ok T.f_signs_in sc_signs_in (fun _ _ _ _ _ _ us hl => match us, hl with | [_, _], _ => rfl) (fun vs H Q E h => ?_) fun f cdv A outer s H vs Q E hr h => ?_
  · obtain ⟨x, i, n, zs, ns, _, rfl, _⟩ := h; rfl
  obtain ⟨x, i, n, zs, ns, hi, rfl, hdn, hdb, hl, k⟩ := h
  have nd := sc_signs_in.nd
  obtain ⟨kc, na, _⟩ := db_cls T hdn
  obtain ⟨dx, q, d, kvs, h1, h2, h3, h4, h5⟩ := hdb
  have hlen : kvs.length = ns.length := by
    have := congrArg List.length h4
    rwa [List.length_map, List.length_map] at this
  refine wb_cons (ws_set 2 (w_ix (w_call (ok_ranks_of T) hr passL ?_)) rfl nd)
  tbr_iter "go"
  refine ⟨i, hi, rfl, fun p H1 s1 n1 e1 => ?_⟩
  tbr_iter "go"
  have s01 := s1
  have hx1 := s1 _ _ h1
  have hd1 := s1 _ _ h3
  refine ws_lock hd1 trivial fun od => ws_setLcI 3 [("name", 4)] (gName 4) tYes (fun _ _ _ _ _ => pg_name nd rfl (Or.inl rfl) (Or.inr rfl)) (fun _ _ _ _ _ => pts_nil) rfl nd (by tbr_iter "blk") rfl (lcR_I mono_name (wi_keys (w_fld kc.c na ?_)))
  tbr_iter "go"
  have xd : x ≠ d := fun z => by rw [z, hd1] at hx1; cases hx1
  refine ⟨x, dx, _, _, rfl, (upd_ne xd).trans hx1, rfl, d, od, kvs, rfl, upd_same, kvs.length, _, itN_keys upd_same, by rw [hlen]; exact Nat.lt_of_le_of_lt hl (by decide), SgR "in" ns, fun D i y Ha Hb _ _ h b => h.bt b, fun D i v H2 hi2 s2 nD hacc hv => ?_, fun D ys H2 s2 n2 hD hyl hR => ⟨s2 _ _ upd_same, ?_⟩⟩
  · obtain ⟨k0, z0, e2, rfl⟩ := hv
    have ek : (kvs.map (·.1))[i]? = some k0 := by rw [List.getElem?_map, e2] <;> rfl
    rw [h4, List.getElem?_map] at ek
    obtain ⟨nm, en, rfl⟩ := Option.map_eq_some_iff.mp ek
    obtain ⟨acc, hacc⟩ := hacc
    refine ⟨rfl, fun _ _ _ _ _ => ?_⟩
    tbr_iter "go"
    refine ⟨show 2 ≤ sizeLine by decide, fun b H3 s3 n3 h3 => ⟨s3, b, nm, en, rfl, fun z => ?_, h3⟩⟩
    rw [z, hacc] at n3
    cases n3
  have hrows := sgR_rows (hyl.trans hlen) hR
  have s12 := lock_same hd1 s2
  have nDd : D ≠ d := fun z => by rw [z, upd_same] at n2; cases n2
  have hD2 : (upd H2 d (.dK kvs)) D = some (.lst ys) := (upd_ne nDd).trans hD
  have hrows2 : All2 (RwV (upd H2 d (.dK kvs))) ys (ns.map fun n => [("in" : Str), n]) := hrows.imp fun y r ⟨b, e, h⟩ => ⟨b, e, by
    rw [upd_ne (fun z => by
      rw [z, s2 _ _ upd_same] at h
      cases h)]
    exact h⟩
  have fD : H D = none := by
    have e1 : H1 D = none := by
      rw [upd_ne nDd] at n2
      exact n2
    exact same_nul s1 e1
  have s02 : Same H (upd H2 d (.dK kvs)) := s1.trans s12
  generalize upd H2 d (.dK kvs) = H4 at hD2 hrows2 s02 ⊢
  have tail : ∀ {D0 : Ends}, True := fun {_} => trivial
  refine wb_cut (fun σ' H' => σ' = ((start n_signs_in [V.ref x, V.str (lang i)]).set 2 (some (V.int (i % 3 : Nat)))).set 3 (some (V.ref D)) ∧ ∃ ys, Same H H' ∧ H' D = some (.lst ys) ∧ All2 (RwV H') ys ((ns.map fun n => [("in" : Str), n]) ++ (if i % 3 = 2 then ns.map fun n => [("out" : Str), n] else []))) (ws_if (wt_cmp ?_)) ?_
  · tbr_iter "go"
    refine ⟨_, rfl, w_if2 (fun c => ?_) (fun c => ?_)⟩
    · have c : i % 3 = 2 := by
        have := of_decide_eq_true c
        injection this with this
        omega
      refine wb_cons (ws_expr (w_bm1 PySem.F.plainAttrs_list PySem.F.slot_list_extend PySem.F.type_list_extend ?_))
      tbr_iter "go"
      refine ⟨tyV_list ⟨D, _, rfl, SqL.of hD2⟩, ?_⟩
      have hx4 := s02 _ _ h1
      have hd4 := s02 _ _ h3
      refine w_lock hd4 trivial fun od2 => w_lcI [("name", 4)] (gName 4) tYes (fun _ _ _ _ _ => pg_name nd rfl (Or.inl rfl) (Or.inr rfl)) (fun _ _ _ _ _ => pts_nil) rfl nd (by tbr_iter "blk") (lcR_I mono_name (wi_keys (w_fld kc.c na ?_)))
      tbr_iter "go"
      have xd4 : x ≠ d := fun z => by rw [z, hd4] at hx4; cases hx4
      refine ⟨x, dx, _, _, rfl, (upd_ne xd4).trans hx4, rfl, d, od2, kvs, rfl, upd_same, kvs.length, _, itN_keys upd_same, by rw [hlen]; exact Nat.lt_of_le_of_lt hl (by decide), SgR "out" ns, fun D i y Ha Hb _ _ h b => h.bt b, fun D i v H5 hi2 s5 nD hacc hv => ?_, fun D2 ys2 H5 s5 n5 hD5 hyl5 hR5 => ⟨s5 _ _ upd_same, ?_⟩⟩
      · obtain ⟨k0, z0, e2, rfl⟩ := hv
        have ek : (kvs.map (·.1))[i]? = some k0 := by rw [List.getElem?_map, e2] <;> rfl
        rw [h4, List.getElem?_map] at ek
        obtain ⟨nm, en, rfl⟩ := Option.map_eq_some_iff.mp ek
        obtain ⟨acc, hacc⟩ := hacc
        refine ⟨rfl, fun _ _ _ _ _ => ?_⟩
        tbr_iter "go"
        refine ⟨show 2 ≤ sizeLine by decide, fun b H6 s6 n6 h6 => ⟨s6, b, nm, en, rfl, fun z => ?_, h6⟩⟩
        rw [z, hacc] at n6
        cases n6
      have hrows5 := sgR_rows (hyl5.trans hlen) hR5
      have s45 := lock_same hd4 s5
      have nD2d : D2 ≠ d := fun z => by rw [z, upd_same] at n5; cases n5
      have hD25 : (upd H5 d (.dK kvs)) D2 = some (.lst ys2) := (upd_ne nD2d).trans hD5
      have hrows6 : All2 (RwV (upd H5 d (.dK kvs))) ys2 (ns.map fun n => [("out" : Str), n]) := hrows5.imp fun y r ⟨b, e, h⟩ => ⟨b, e, by
        rw [upd_ne (fun z => by
          rw [z, s5 _ _ upd_same] at h
          cases h)]
        exact h⟩
      have hD6 := s45 _ _ hD2
      have hrows7 := rows_sl hrows2 (Sl.of s45)
      generalize upd H5 d (.dK kvs) = H6 at hD25 hrows6 s45 hD6 hrows7 ⊢
      have e1 := hrows7.len
      have e2 := hrows6.len
      rw [List.length_map] at e1 e2
      refine mv_extend hD6 hD25 (by rw [e1, e2]; exact Nat.le_trans (Nat.add_le_add hl hl) (by decide)) ?_
      have sl : Sl H6 (upd H6 D (.lst (ys ++ ys2))) := (Sl.refl H6).lst hD6
      refine wb_nil ⟨rfl, ys ++ ys2, same_upd (s02.trans s45) fD, upd_same, ?_⟩
      rw [if_pos c]
      exact (rows_sl hrows7 sl).app (rows_sl hrows6 sl)
    · have c : i % 3 ≠ 2 := fun z => by
        rw [z] at c
        exact absurd c (by decide)
      refine wb_nil ⟨rfl, ys, s02, hD2, ?_⟩
      rw [if_neg c, List.append_nil]
      exact hrows2
  rintro σ' H5 ⟨rfl, ys5, s05, hD5, hr5⟩
  have hlen5 : ys5.length ≤ 8 := by
    have e1 := hr5.len
    rw [List.length_append, List.length_map] at e1
    split at e1
    · rw [List.length_map] at e1
      omega
    · simp at e1
      omega
  refine wb_cut (fun σ' H' => σ' = ((start n_signs_in [V.ref x, V.str (lang i)]).set 2 (some (V.int (i % 3 : Nat)))).set 3 (some (V.ref D)) ∧ ∃ ys, Same H H' ∧ H' D = some (.lst ys) ∧ All2 (RwV H') ys (signsR ns (i % 3))) (ws_if (wt_cmp ?_)) ?_
  · tbr_iter "go"
    refine ⟨_, rfl, w_if2 (fun c => ?_) (fun c => ?_)⟩
    · have c : 0 < i % 3 := by
        have := of_decide_eq_true c
        omega
      refine wb_cons (ws_expr (w_bm1 PySem.F.plainAttrs_list PySem.F.slot_list_append PySem.F.type_list_append ?_))
      tbr_iter "go"
      refine ⟨tyV_list ⟨D, _, rfl, SqL.of hD5⟩, ?_⟩
      tbr_iter "go"
      refine ⟨show 1 ≤ sizeLine by decide, fun b H6 s6 n6 h6 => ?_⟩
      have hD6 := s6 _ _ hD5
      refine mv_append hD6 (Nat.lt_of_le_of_lt hlen5 (by decide)) ?_
      have sl : Sl H6 (upd H6 D (.lst (ys5 ++ [.ref b]))) := (Sl.refl H6).lst hD6
      refine wb_nil ⟨rfl, ys5 ++ [.ref b], same_upd (s05.trans s6) fD, upd_same, ?_⟩
      unfold signsR
      rw [if_pos c]
      exact (rows_sl (rows_sl hr5 (Sl.of s6)) sl).app (.one ⟨b, rfl, sl _ _ h6 rfl⟩)
    · have c : ¬ 0 < i % 3 := fun z => by
        have := of_decide_eq_false c
        omega
      refine wb_nil ⟨rfl, ys5, s05, hD5, ?_⟩
      unfold signsR
      rw [if_neg c, List.append_nil]
      exact hr5
  rintro σ' H6 ⟨rfl, ys6, s06, hD6, hr6⟩
  refine wb_cons (ws_ret (w_callTy T.z_tuple (wa_cons ?_)))
  tbr_iter "go"
  exact kv_tupleL (SqL.of hD6) fun q H7 s7 n7 h7 => k q ys6 H7 (s06.trans s7) h7 (rows_sl hr6 (Sl.of s7))
set_option hygiene false in
local macro_rules | `(tactic| tbr_iter "var") => `(tactic| first | ((with_reducible show W _ (.Name "database" _) _ _ _); refine w_var 0 rfl (by tbr_iter "vis") rfl ?_))
set_option hygiene false in
local macro_rules | `(tactic| tbr_iter "set") => `(tactic| first | ((with_reducible show WB _ (.Assign [.Name "database" _] _ _ :: _) _ _ _); refine wb_cons (ws_set 0 ?_ rfl nd)))
theorem ok_require_database (T : Txt K mg) : Callee P w K mg base "require_database" 1 ["database"] (fun vs H Q _ => ∃ (x : Addr) (n : Str) (zs ns : List Str), vs = [.ref x] ∧ DbN n ∧ DbIs K H n x zs ns ∧ Q .non H) := by
  refine def_ok T.f_require_database sc_require_database (fun _ _ _ _ _ _ us hl => match us, hl with | [_], _ => rfl) (fun vs H Q E h => ?_) fun f cdv A outer s H vs Q E hr h => ?_
  · obtain ⟨x, n, zs, ns, rfl, _⟩ := h; rfl
  obtain ⟨x, n, zs, ns, rfl, hdn, hdb, k⟩ := h
  have nd := sc_require_database.nd
  obtain ⟨kc, na, ki⟩ := db_cls T hdn
  obtain ⟨dx, q, d, kvs, h1, h2, h3, h4, h5⟩ := hdb
  refine wb_cons (ws_if (wt_not (wt_val (w_callB T.z_isinstance (wa_cons ?_)))))
  tbr_iter "go"
  refine w_glob (glob_ref T.g_Database) ?_
  tbr_iter "go"
  refine kv_isC (kc.ty h1) (.own _) ki ?_
  exact ⟨_, rfl, iteF (wb_nil (wb_nil k))⟩
set_option hygiene false in
local macro_rules | `(tactic| tbr_iter "var") => `(tactic| first | ((with_reducible show W _ (.Name "database" _) _ _ _); refine w_var 0 rfl (by tbr_iter "vis") rfl ?_) | ((with_reducible show W _ (.Name "language" _) _ _ _); refine w_var 1 rfl (by tbr_iter "vis") rfl ?_))
set_option hygiene false in
local macro_rules | `(tactic| tbr_iter "set") => `(tactic| first | ((with_reducible show WB _ (.Assign [.Name "database" _] _ _ :: _) _ _ _); refine wb_cons (ws_set 0 ?_ rfl nd)) | ((with_reducible show WB _ (.Assign [.Name "language" _] _ _ :: _) _ _ _); refine wb_cons (ws_set 1 ?_ rfl nd)))
theorem ok_signs_of (T : Txt K mg) : Callee P w K mg base "signs_of" 3 ["database", "language"] (spSigns K) := by
  refine def_ok T.f_signs_of sc_signs_of (fun _ _ _ _ _ _ us hl => match us, hl with | [_, _], _ => rfl) (fun vs H Q E h => ?_) fun f cdv A outer s H vs Q E hr h => ?_
  · obtain ⟨x, i, n, zs, ns, _, rfl, _⟩ := h; rfl
  obtain ⟨x, i, n, zs, ns, hi, rfl, hdn, hdb, hl, k⟩ := h
  have nd := sc_signs_of.nd
  refine wb_cons (ws_expr (w_call (ok_require_database T) (hr.mono (by decide)) passL ?_))
  tbr_iter "go"
  refine ⟨x, n, zs, ns, rfl, hdn, hdb, ?_⟩
  refine wb_cons (ws_expr (w_call (ok_require_language T) hr passL ?_))
  tbr_iter "go"
  refine ⟨i, hi, rfl, fun H1 s1 => ?_⟩
  refine wb_cons (ws_ret (w_call (ok_signs_in T) hr passL ?_))
  tbr_iter "go"
  exact ⟨x, i, n, zs, ns, hi, rfl, hdn, hdb.same s1, hl, fun q us H2 s2 h2 hr => k q us H2 (s1.trans s2) h2 hr⟩
end
end Ax
end
section
set_option maxHeartbeats 4000000
open PySem PySem.Spec PyProof.Rows L2 Ax
set_option hygiene false in
local macro_rules | `(tactic| tbr_iter "boot") => `(tactic| with_reducible first | exact Ax.b_len | exact Ax.b_all | exact Ax.b_any | exact Ax.b_sorted | exact Ax.b_isinstance | exact Ax.b_abs | exact Ax.b_max | exact Ax.b_min | exact Ax.b_sum | exact Ax.b_repr | exact Ax.b_iter | exact Ax.b_ord | exact Ax.b_chr | exact Ax.b_str | exact Ax.b_int | exact Ax.b_bool | exact Ax.b_tuple | exact Ax.b_list | exact Ax.b_dict | exact Ax.b_set | exact Ax.b_range | exact Ax.b_enumerate | exact Ax.b_zip)
set_option hygiene false in
local macro_rules | `(tactic| tbr_iter "vis") => `(tactic| first | exact Or.inl rfl | exact Or.inr (Or.inl rfl) | exact Or.inr (Or.inr rfl))
set_option hygiene false in
local macro_rules | `(tactic| tbr_iter "w") => `(tactic| first
  | refine wb_cons ?_
  | refine wb_nil ?_
  | refine ws_ret ?_
  | refine ws_if ?_
  | refine ws_sub ?_
  | refine wa_cons ?_
  | refine wa_nil ?_
  | refine w_int ?_
  | refine w_str ?_
  | refine w_bl ?_
  | refine w_non ?_
  | tbr_iter "var"
  | refine w_bin ?_
  | refine w_cmp ?_
  | refine w_chain ?_
  | refine w_and ?_
  | refine w_or ?_
  | refine w_one ?_
  | refine w_not ?_
  | refine w_ix ?_
  | refine w_ifExp ?_
  | refine w_tup ?_
  | refine w_lst ?_
  | refine wt_not ?_
  | refine wt_bool ?_
  | refine ww_and ?_
  | refine ww_and1 ?_
  | refine ww_or ?_
  | refine ww_or1 ?_
  | refine wt_cmp ?_
  | refine wt_val ?_
  | tbr_iter "call"
  | (refine w_glob (by tbr_iter "mg") ?_)
  | (refine w_callB (by tbr_iter "z") ?_)
  | (refine w_callTy (by tbr_iter "z") ?_)
  | (refine w_bltT (by tbr_iter "z") ?_))
set_option hygiene false in
local macro_rules | `(tactic| tbr_iter "blk") => `(tactic| first | exact blkOk_by (by dsimp only [cxOf, envOfC]; decide +kernel))
set_option hygiene false in
local macro_rules | `(tactic| tbr_iter "iff") => `(tactic| first
  | refine iteT ?_
  | refine iteF ?_
  | refine w_if2 (fun _ => ?_) (fun _ => ?_))
set_option hygiene false in
local macro_rules | `(tactic| tbr_iter "sc") => `(tactic| first | omega | decide)
set_option hygiene false in
local macro_rules | `(tactic| tbr_iter "at") => `(tactic| first | exact atI_0 | exact atI_1 | exact atI_2)
set_option hygiene false in
local macro_rules | `(tactic| tbr_iter "sql") => `(tactic| ((try dsimp only [L2.cxOf, L2.Cx.blk]); with_reducible first | assumption | exact SqL.of (by assumption)))
set_option hygiene false in
local macro_rules | `(tactic| tbr_iter "sqt") => `(tactic| ((try dsimp only [L2.cxOf, L2.Cx.blk]); with_reducible first | assumption | exact SqT.of (by assumption)))
set_option hygiene false in
local macro_rules | `(tactic| tbr_iter "v") => `(tactic| first
  | refine bv_add ?_
  | refine bv_sub ?_
  | ((with_reducible show BinV _ .Mult _ _ _ _); refine bv_mul (Or.inl ⟨by tbr_iter "sc", by tbr_iter "sc"⟩) ?_)
  | ((with_reducible show BinV _ .Mult _ _ _ _); refine bv_mul (Or.inr ⟨by tbr_iter "sc", by tbr_iter "sc"⟩) ?_)
  | ((with_reducible show BinV _ .Mod _ _ _ _); refine bv_mod (by tbr_iter "sc") ?_)
  | ((with_reducible show BinV _ .FloorDiv _ _ _ _); refine bv_fdiv ⟨by tbr_iter "sc", by tbr_iter "sc"⟩ ?_)
  | ((with_reducible show BinV _ .Pow _ _ _ _); refine bv_pow ⟨by decide, by decide +kernel⟩ ?_)
  | refine cv_lt ?_
  | refine cv_le ?_
  | refine cv_gt ?_
  | refine cv_ge ?_
  | ((with_reducible show CmpV _ .Eq _ _ _ _); refine cv_eq rfl ?_)
  | ((with_reducible show CmpV _ .NotEq _ _ _ _); refine cv_ne rfl ?_)
  | refine iv_list (by tbr_iter "sql") (by tbr_iter "at") ?_
  | refine iv_tup (by tbr_iter "sqt") (by tbr_iter "at") ?_
  | refine kv_len_seq (Or.inl (by tbr_iter "sql")) ?_
  | refine kv_len_seq (Or.inr (by tbr_iter "sqt")) ?_
  | refine kv_int ?_
  | refine kv_intB ?_
  | refine kv_abs ?_
  | refine kv_max2 rfl ?_
  | refine kv_min2 rfl ?_)
set_option hygiene false in
local macro_rules | `(tactic| tbr_iter "b") => `(tactic| first
  | refine ⟨_, rfl, iteT ?_⟩
  | refine ⟨_, rfl, iteF ?_⟩
  | refine iteT ?_
  | refine iteF ?_)
set_option hygiene false in
local macro_rules | `(tactic| tbr_iter "go") => `(tactic| repeat (first | tbr_iter "w" | tbr_iter "v" | tbr_iter "b"))
set_option hygiene false in
local macro_rules | `(tactic| tbr_iter "nof") => `(tactic| (intro d hd; cases d <;> first | rfl | exact absurd rfl (hd _)))
set_option hygiene false in
local macro_rules | `(tactic| tbr_iter "e1") => `(tactic| first | ((with_reducible show W _ _ _ _ _); tbr_iter "w") | ((with_reducible show WA _ _ _ _ _); tbr_iter "w") | ((with_reducible show WT _ _ _ _ _); tbr_iter "w") | ((with_reducible show WW _ _ _ _ _); tbr_iter "w") | tbr_iter "v")
set_option hygiene false in
local macro_rules | `(tactic| tbr_iter "ex") => `(tactic| repeat (tbr_iter "e1"))
set_option hygiene false in
local macro_rules | `(tactic| tbr_iter "z") => `(tactic| ((try dsimp only [L2.cxOf]); with_reducible first | exact T.z_IndexError | exact T.z_KeyError | exact T.z_ValueError | exact T.z_abs | exact T.z_all | exact T.z_bool | exact T.z_classmethod | exact T.z_dict | exact T.z_enumerate | exact T.z_int | exact T.z_isinstance | exact T.z_iter | exact T.z_len | exact T.z_list | exact T.z_max | exact T.z_min | exact T.z_property | exact T.z_range | exact T.z_repr | exact T.z_sorted | exact T.z_str | exact T.z_tuple | exact T.z_zip))
set_option hygiene false in
local macro_rules | `(tactic| tbr_iter "mg") => `(tactic| ((try dsimp only [L2.cxOf]); with_reducible first | exact T.c_ALPHABET | exact T.c_MAX_LETTERS | exact T.c_MAX_COLUMNS | exact T.c_MOST_VALUES | exact T.c_MAX_TABLES | exact T.c_IN | exact T.c_OUT | exact T.c_UNLIKE))
namespace Ax
/-- a shape: names in their order, numbers of columns -/
def ShapeOk (sh : List (Str × Nat)) : Prop := sh.length ≤ 4 ∧ (sh.map (·.1)).Nodup ∧ ((sh.map (·.1)).Pairwise fun a b => strLe a b = true) ∧ ∀ s ∈ sh, isNameS s.1 = true ∧ s.2 ≤ 3
/-- the pair of a name and a number -/
def ShV (H : Hp) (b : Addr) (s : Str × Nat) : Prop := H b = some (.tup [.str s.1, .int (s.2 : Nat)])
def encSh (s : Str × Nat) : PyData := .tuple [.str s.1, .int (s.2 : Nat)]
def le2 (a b : Str × Nat) : Bool := if a.1 = b.1 then decide (a.2 ≤ b.2) else strLe a.1 b.1
theorem dataLe_sh (a b : Str × Nat) : PySem.W.dataLe false encSh a b = le2 a b := by
  show (!PySem.W.dataLt (.tuple [.str b.1, .int (b.2 : Nat)]) (.tuple [.str a.1, .int (a.2 : Nat)])) = _
  rw [PySem.W.dataLt_pair (by simp [PySem.W.alike]) (by simp [PySem.W.alike]), PySem.W.dataLt_int, PySem.W.dataLt_str]
  simp only [PyData.eqv, beq_iff_eq]
  unfold le2
  by_cases h : a.1 = b.1
  · rw [if_pos h, if_pos h.symm]
    by_cases h2 : a.2 = b.2
    · rw [h2]
      simp
    · have h3 : ¬ ((b.2 : Nat) : Int) = (a.2 : Nat) := by omega
      rw [if_neg h3, Bool.eq_iff_iff]
      simp
  · rw [if_neg h, if_neg (fun e => h e.symm)]
    rfl
theorem le2_fst {a b : Str × Nat} (h : le2 a b = true) : strLe a.1 b.1 = true := by
  unfold le2 at h
  by_cases e : a.1 = b.1
  · rw [e]
    exact sle_refl _
  · rw [if_neg e] at h
    exact h
theorem le2_trans (a b c : Str × Nat) (h : le2 a b = true) (k : le2 b c = true) : le2 a c = true := by
  have t := sle_trans (le2_fst h) (le2_fst k)
  by_cases e : a.1 = c.1
  · have e1 : strLe b.1 a.1 = true := e ▸ le2_fst k
    have e2 := sle_anti (le2_fst h) e1
    unfold le2 at h k ⊢
    rw [if_pos e]
    rw [if_pos e2] at h
    rw [if_pos (e2.symm.trans e)] at k
    have h := of_decide_eq_true h
    have k := of_decide_eq_true k
    exact decide_eq_true (Nat.le_trans h k)
  · unfold le2
    rw [if_neg e]
    exact t
theorem le2_total (a b : Str × Nat) : (le2 a b || le2 b a) = true := by
  unfold le2
  by_cases e : a.1 = b.1
  · rw [if_pos e, if_pos e.symm, Bool.or_eq_true, decide_eq_true_iff, decide_eq_true_iff]
    omega
  · rw [if_neg e, if_neg (fun z => e z.symm)]
    exact sle_total _ _
theorem sort_sh (sh : List (Str × Nat)) : ((sh.mergeSort (PySem.W.dataLe false encSh)).map (·.1)).Pairwise fun a b => strLe a b = true := by
  have e : PySem.W.dataLe false encSh = le2 := by
    funext a b
    exact dataLe_sh a b
  rw [e, List.pairwise_map]
  exact (List.pairwise_mergeSort (le := le2) le2_trans le2_total sh).imp fun h => le2_fst h
def baseNames : List Str := ["at", "edge", "p", "to"]
theorem base_names : ∀ z ∈ baseNames, isNameS z = true := by decide +kernel
theorem shape_ok {sh sh' : List (Str × Nat)} (p : sh'.Perm sh) (hs : sh' = sh.mergeSort (PySem.W.dataLe false encSh)) (hl : sh.length ≤ 4) (hn : (sh.map (·.1)).Nodup) (hm : ∀ s ∈ sh, s.1 ∈ baseNames ∧ s.2 ≤ 3) : ShapeOk sh' := by
  refine ⟨by rw [p.length_eq]; exact hl, (p.map _).nodup_iff.mpr hn, by rw [hs]; exact sort_sh sh, fun s h => ?_⟩
  obtain ⟨h1, h2⟩ := hm s (p.mem_iff.mp h)
  exact ⟨base_names _ h1, h2⟩
def spShape (K : PySem.W.Frag) : Sp := fun vs H Q _ => ∃ (p : Addr) (n : Nat), vs = [.ref p, .int 6] ∧ H p = some (DiceO p n) ∧ n < 2 ^ 40 ∧
  ∀ sh bs q m H', ShapeOk sh → All2 (ShV H') bs sh → Sm p H H' → H' p = some (DiceO p m) → m ≤ n + 20 → H q = none → H' q = some (.lst (bs.map V.ref)) → Q (.ref q) H'
section
variable {P : Program} {w : World} {K : PySem.W.Frag} {mg : Str → Option Value} {base : Heap}
set_option hygiene false in
local macro_rules | `(tactic| tbr_iter "var") => `(tactic| first | ((with_reducible show W _ (.Name "dice" _) _ _ _); refine w_var 0 rfl (by tbr_iter "vis") rfl ?_) | ((with_reducible show W _ (.Name "few" _) _ _ _); refine w_var 1 rfl (by tbr_iter "vis") rfl ?_) | ((with_reducible show W _ (.Name "names" _) _ _ _); refine w_var 2 rfl (by tbr_iter "vis") rfl ?_) | ((with_reducible show W _ (.Name "name" _) _ _ _); refine w_var 3 rfl (by tbr_iter "vis") rfl ?_))
set_option hygiene false in
local macro_rules | `(tactic| tbr_iter "set") => `(tactic| first | ((with_reducible show WB _ (.Assign [.Name "dice" _] _ _ :: _) _ _ _); refine wb_cons (ws_set 0 ?_ rfl nd)) | ((with_reducible show WB _ (.Assign [.Name "few" _] _ _ :: _) _ _ _); refine wb_cons (ws_set 1 ?_ rfl nd)) | ((with_reducible show WB _ (.Assign [.Name "names" _] _ _ :: _) _ _ _); refine wb_cons (ws_set 2 ?_ rfl nd)) | ((with_reducible show WB _ (.Assign [.Name "name" _] _ _ :: _) _ _ _); refine wb_cons (ws_set 3 ?_ rfl nd)))
theorem ok_law_shape (T : Txt K mg) : Callee P w K mg base "_law_shape" 4 ["dice", "few"] (spShape K) := by
  refine def_ok T.f__law_shape sc__law_shape (fun _ _ _ _ _ _ us hl => match us, hl with | [_, _], _ => rfl) (fun vs H Q E h => ?_) fun f cdv A outer s H vs Q E hr h => ?_
  · obtain ⟨p, n, rfl, _⟩ := h; rfl
  obtain ⟨p, n, rfl, hp, hn, k⟩ := h
  have nd := sc__law_shape.nd
  refine wb_cons (ws_set 2 (w_cutTo (w_call (ok_law_mixed T) hr passL ?_)) rfl nd)
  tbr_iter "go"
  refine ⟨show 4 ≤ sizeLine by decide, fun pl H1 s1 n1 h1 => wa_nil ⟨p, pl, n, baseNames.map V.str, rfl, s1 _ _ hp, by omega, SqL.of h1, by decide, fun ys q m H2 py s2 hp2 hm n2 h2 => ?_⟩⟩
  have sm2 : Sm p H H2 := (Sm.of hp s1).trans s2
  refine w_call (ok_law_pick T) hr passL (wa_cons ?_)
  tbr_iter "var"
  refine wa_cons (w_cutTo ?_)
  tbr_iter "go"
  refine ⟨show 8 ≤ sizeLine by decide, fun pc H3 s3 n3 h3 => ?_⟩
  tbr_iter "go"
  refine ⟨pc, 8, _, rfl, rfl, SqL.of h3, fun pd H4 s4 n4 h4 => wa_nil ⟨p, pd, m, _, rfl, (s3.trans s4) _ _ hp2, ?_, SqL.of h4, (fun e => by cases e), (show 8 < 2 ^ 20 by decide), fun v hv H5 s5 hp5 => ?_⟩⟩
  · have : (baseNames.map V.str).length = 4 := rfl
    omega
  obtain ⟨kk, rfl, hk⟩ : ∃ kk : Nat, v = .int kk ∧ kk ≤ 3 := by
    have hv2 : v ∈ [V.int 1, .int 1, .int 1, .int 2, .int 2, .int 2, .int 0, .int 3] := hv
    simp only [List.mem_cons, List.mem_nil_iff, or_false] at hv2
    rcases hv2 with rfl | rfl | rfl | rfl | rfl | rfl | rfl | rfl <;> first | exact ⟨1, rfl, by decide⟩ | exact ⟨2, rfl, by decide⟩ | exact ⟨0, rfl, by decide⟩ | exact ⟨3, rfl, by decide⟩
  have s24 := s3.trans s4
  have sm5 : Sm p H H5 := (sm2.same s24).trans s5
  have h25 := s5.lst (s24 _ _ h2)
  refine ⟨q, kk, ys, rfl, rfl, SqL.of h25, fun qn H6 s6 n6 h6 => ?_⟩
  obtain ⟨nms, en, hnm⟩ : ∃ nms : List Str, ys = nms.map V.str ∧ nms.Perm baseNames := by
    have e1 : ys = (ys.map fun v => match v with | .str z => z | _ => "").map V.str := by
      rw [List.map_map]
      have key : ∀ y ∈ ys, (V.str ∘ fun v => match v with | .str z => z | _ => "") y = y := fun y hy => by
        obtain ⟨z, _, rfl⟩ := List.mem_map.mp (py.mem_iff.mp hy)
        rfl
      exact ((List.map_congr_left key).trans (List.map_id _)).symm
    refine ⟨_, e1, ?_⟩
    have e2 := py.map fun v => match v with | V.str z => z | _ => ("" : Str)
    exact e2
  subst en
  have hp6 : H6 p = some (DiceO p (m + 1)) := s6 _ _ hp5
  have hm2 : m ≤ n + 4 := hm
  rw [← List.map_take] at h6
  have tl : (nms.take kk).length ≤ 4 := by
    have := hnm.length_eq
    rw [List.length_take, this]
    exact Nat.le_trans (Nat.min_le_right _ _) (by decide)
  have tnd : (nms.take kk).Nodup := (List.take_sublist _ _).nodup (hnm.nodup_iff.mpr (by decide +kernel))
  have tmem : ∀ z ∈ nms.take kk, z ∈ baseNames := fun z hz => hnm.mem_iff.mp (List.mem_of_mem_take hz)
  refine wb_cons (ws_ret (w_callB T.z_sorted (wa_cons (w_lcM p [("name", 3)] (gName 3) (fun _ _ _ _ _ => pg_name nd rfl (Or.inl rfl) (Or.inr rfl)) rfl nd (by tbr_iter "blk") (wi_val ?_)))))
  tbr_iter "go"
  refine itv_list (SqL.of h6) ⟨_, seqItM_list (SqL.of h6), by rw [List.length_map]; exact Nat.lt_of_le_of_lt tl (by decide), m + 1, fun j => j, fun j y Hc => ∃ b z c, (nms.take kk)[j]? = some z ∧ y = .ref b ∧ c ≤ 3 ∧ ShV Hc b (z, c), hp6, fun j y Ha Hb ⟨b, z, c, e1, e2, e3, e4⟩ sl => ⟨b, z, c, e1, e2, e3, sl _ _ e4 rfl⟩, fun j v hv H7 m7 s7 h7 hm7 Kt kt => ?_, fun q8 ws H8 m8 s8 h8 hm8 n8 hq8 rel => wa_nil ?_⟩
  · rw [List.getElem?_map] at hv
    obtain ⟨z, ez, rfl⟩ := Option.map_eq_some_iff.mp hv
    have hm7 : m7 ≤ m + 1 + j := hm7
    refine ⟨rfl, fun _ _ _ _ _ => ?_⟩
    refine w_tup (wa_cons ?_)
    tbr_iter "var"
    refine wa_cons (w_call (ok_law_pick T) hr passL ?_)
    tbr_iter "go"
    have hj : j < 4 := Nat.lt_of_lt_of_le (List.getElem?_eq_some_iff.mp ez).1 tl
    refine ⟨show 7 ≤ sizeLine by decide, fun pe H9 s9 n9 h9 => wa_nil ⟨p, pe, m7, _, rfl, s9 _ _ h7, by omega, SqL.of h9, (fun e => by cases e), (show 7 < 2 ^ 20 by decide), fun v hv Ha sa hpa => wa_nil ⟨show 2 ≤ sizeLine by decide, fun b Hb sb nb hb => ?_⟩⟩⟩
    obtain ⟨c, rfl, hc⟩ : ∃ c : Nat, v = .int c ∧ c ≤ 3 := by
      have hv2 : v ∈ [V.int 2, .int 1, .int 2, .int 1, .int 2, .int 3, .int 0] := hv
      simp only [List.mem_cons, List.mem_nil_iff, or_false] at hv2
      rcases hv2 with rfl | rfl | rfl | rfl | rfl | rfl | rfl <;> first | exact ⟨2, rfl, by decide⟩ | exact ⟨1, rfl, by decide⟩ | exact ⟨0, rfl, by decide⟩ | exact ⟨3, rfl, by decide⟩
    exact kt _ Hb (m7 + 1) (((Sm.of h7 s9).trans sa).same sb) (sb _ _ hpa) (show m7 + 1 ≤ m + 1 + (j + 1) by omega) ⟨b, z, c, ez, rfl, hc, hb⟩
  · obtain ⟨hwl, hwr⟩ := relI_get rel
    rw [List.length_map] at hwl
    obtain ⟨sh, bs, ew, hsh, hfst⟩ : ∃ (sh : List (Str × Nat)) (bs : List Addr), ws = bs.map V.ref ∧ All2 (ShV H8) bs sh ∧ sh.map (·.1) = nms.take kk ∧ ∀ s ∈ sh, s.2 ≤ 3 := by
      clear rel hq8 hm8
      generalize nms.take kk = L at hwl hwr
      clear tl tnd tmem h6
      induction ws generalizing L with
      | nil =>
        cases L with
        | nil => exact ⟨[], [], rfl, .nil, rfl, by simp⟩
        | cons _ _ => cases hwl
      | cons y ws ih =>
        cases L with
        | nil => cases hwl
        | cons z L =>
          obtain ⟨b, z', c, e1, rfl, e3, e4⟩ := hwr 0 y rfl
          cases e1
          obtain ⟨sh, bs, e5, e6, e7, e8⟩ := ih L (Nat.succ.inj hwl) fun i y e => hwr (i + 1) y e
          refine ⟨(z, c) :: sh, b :: bs, by rw [e5] <;> rfl, .cons e4 e6, by rw [List.map_cons, e7], fun s hs => ?_⟩
          rcases List.mem_cons.mp hs with rfl | hs
          · exact e3
          · exact e8 s hs
    subst ew
    have shl : sh.length ≤ 4 := by
      have := congrArg List.length hfst.1
      rw [List.length_map] at this
      omega
    have hpp : H8 p = some (DiceO p m8) := h8
    have hpa : m8 ≤ n + 20 := by
      have e : m8 ≤ m + 1 + ((nms.take kk).map V.str).length := hm8
      rw [List.length_map] at e
      omega
    refine ⟨_, call_sortedG encSh, q8, bs, sh, ShV H8, rfl, SqL.of hq8, hsh, fun b s h => .tup (SqT.of h) (.cons (.str _) (.cons (.int _) .nil)), PySem.W.AllAlike.of fun a b => rfl, PySem.W.Sortable.tuples fun b => ⟨_, _, rfl⟩, Nat.le_trans shl (by decide), fun s hs => ?_, fun cs q9 n9 hcs => ?_⟩
    · have := room64 hr
      show (A.deeper _).units + 2 + (encSh s).depth < cLine
      have e : (encSh s).depth = 1 := rfl
      omega
    · have fq : H q9 = none := Sm.nul (sm5.same s6 |>.trans s8) hpp n9
      refine k (sh.mergeSort (PySem.W.dataLe false encSh)) cs q9 m8 _ (shape_ok (List.mergeSort_perm _ _) rfl shl (hfst.1 ▸ tnd) fun s hs => ⟨tmem _ (hfst.1 ▸ List.mem_map_of_mem hs), hfst.2 s hs⟩) (hcs.imp fun b s h => ?_) ?_ ((upd_ne (ne_of_none hpp n9)).trans hpp) hpa fq upd_same
      · exact (upd_ne (ne_of_none h n9)).trans h
      · exact ((sm5.same s6).trans s8).new fq
end
end Ax
end
section
set_option maxHeartbeats 4000000
open PySem PySem.Spec PyProof.Rows L2 Ax
set_option hygiene false in
local macro_rules | `(tactic| tbr_iter "boot") => `(tactic| with_reducible first | exact Ax.b_len | exact Ax.b_all | exact Ax.b_any | exact Ax.b_sorted | exact Ax.b_isinstance | exact Ax.b_abs | exact Ax.b_max | exact Ax.b_min | exact Ax.b_sum | exact Ax.b_repr | exact Ax.b_iter | exact Ax.b_ord | exact Ax.b_chr | exact Ax.b_str | exact Ax.b_int | exact Ax.b_bool | exact Ax.b_tuple | exact Ax.b_list | exact Ax.b_dict | exact Ax.b_set | exact Ax.b_range | exact Ax.b_enumerate | exact Ax.b_zip)
set_option hygiene false in
local macro_rules | `(tactic| tbr_iter "vis") => `(tactic| first | exact Or.inl rfl | exact Or.inr (Or.inl rfl) | exact Or.inr (Or.inr rfl))
set_option hygiene false in
local macro_rules | `(tactic| tbr_iter "w") => `(tactic| first
  | refine wb_cons ?_
  | refine wb_nil ?_
  | refine ws_ret ?_
  | refine ws_if ?_
  | refine ws_sub ?_
  | refine wa_cons ?_
  | refine wa_nil ?_
  | refine w_int ?_
  | refine w_str ?_
  | refine w_bl ?_
  | refine w_non ?_
  | tbr_iter "var"
  | refine w_bin ?_
  | refine w_cmp ?_
  | refine w_chain ?_
  | refine w_and ?_
  | refine w_or ?_
  | refine w_one ?_
  | refine w_not ?_
  | refine w_ix ?_
  | refine w_ifExp ?_
  | refine w_tup ?_
  | refine w_lst ?_
  | refine wt_not ?_
  | refine wt_bool ?_
  | refine ww_and ?_
  | refine ww_and1 ?_
  | refine ww_or ?_
  | refine ww_or1 ?_
  | refine wt_cmp ?_
  | refine wt_val ?_
  | tbr_iter "call"
  | (refine w_glob (by tbr_iter "mg") ?_)
  | (refine w_callB (by tbr_iter "z") ?_)
  | (refine w_callTy (by tbr_iter "z") ?_)
  | (refine w_bltT (by tbr_iter "z") ?_))
set_option hygiene false in
local macro_rules | `(tactic| tbr_iter "blk") => `(tactic| first | exact blkOk_by (by dsimp only [cxOf, envOfC]; decide +kernel))
set_option hygiene false in
local macro_rules | `(tactic| tbr_iter "iff") => `(tactic| first
  | refine iteT ?_
  | refine iteF ?_
  | refine w_if2 (fun _ => ?_) (fun _ => ?_))
set_option hygiene false in
local macro_rules | `(tactic| tbr_iter "sc") => `(tactic| first | omega | decide)
set_option hygiene false in
local macro_rules | `(tactic| tbr_iter "at") => `(tactic| first | exact atI_0 | exact atI_1 | exact atI_2)
set_option hygiene false in
local macro_rules | `(tactic| tbr_iter "sql") => `(tactic| ((try dsimp only [L2.cxOf, L2.Cx.blk]); with_reducible first | assumption | exact SqL.of (by assumption)))
set_option hygiene false in
local macro_rules | `(tactic| tbr_iter "sqt") => `(tactic| ((try dsimp only [L2.cxOf, L2.Cx.blk]); with_reducible first | assumption | exact SqT.of (by assumption)))
set_option hygiene false in
local macro_rules | `(tactic| tbr_iter "v") => `(tactic| first
  | refine bv_add ?_
  | refine bv_sub ?_
  | ((with_reducible show BinV _ .Mult _ _ _ _); refine bv_mul (Or.inl ⟨by tbr_iter "sc", by tbr_iter "sc"⟩) ?_)
  | ((with_reducible show BinV _ .Mult _ _ _ _); refine bv_mul (Or.inr ⟨by tbr_iter "sc", by tbr_iter "sc"⟩) ?_)
  | ((with_reducible show BinV _ .Mod _ _ _ _); refine bv_mod (by tbr_iter "sc") ?_)
  | ((with_reducible show BinV _ .FloorDiv _ _ _ _); refine bv_fdiv ⟨by tbr_iter "sc", by tbr_iter "sc"⟩ ?_)
  | ((with_reducible show BinV _ .Pow _ _ _ _); refine bv_pow ⟨by decide, by decide +kernel⟩ ?_)
  | refine cv_lt ?_
  | refine cv_le ?_
  | refine cv_gt ?_
  | refine cv_ge ?_
  | ((with_reducible show CmpV _ .Eq _ _ _ _); refine cv_eq rfl ?_)
  | ((with_reducible show CmpV _ .NotEq _ _ _ _); refine cv_ne rfl ?_)
  | refine iv_list (by tbr_iter "sql") (by tbr_iter "at") ?_
  | refine iv_tup (by tbr_iter "sqt") (by tbr_iter "at") ?_
  | refine kv_len_seq (Or.inl (by tbr_iter "sql")) ?_
  | refine kv_len_seq (Or.inr (by tbr_iter "sqt")) ?_
  | refine kv_int ?_
  | refine kv_intB ?_
  | refine kv_abs ?_
  | refine kv_max2 rfl ?_
  | refine kv_min2 rfl ?_)
set_option hygiene false in
local macro_rules | `(tactic| tbr_iter "b") => `(tactic| first
  | refine ⟨_, rfl, iteT ?_⟩
  | refine ⟨_, rfl, iteF ?_⟩
  | refine iteT ?_
  | refine iteF ?_)
set_option hygiene false in
local macro_rules | `(tactic| tbr_iter "go") => `(tactic| repeat (first | tbr_iter "w" | tbr_iter "v" | tbr_iter "b"))
set_option hygiene false in
local macro_rules | `(tactic| tbr_iter "nof") => `(tactic| (intro d hd; cases d <;> first | rfl | exact absurd rfl (hd _)))
set_option hygiene false in
local macro_rules | `(tactic| tbr_iter "e1") => `(tactic| first | ((with_reducible show W _ _ _ _ _); tbr_iter "w") | ((with_reducible show WA _ _ _ _ _); tbr_iter "w") | ((with_reducible show WT _ _ _ _ _); tbr_iter "w") | ((with_reducible show WW _ _ _ _ _); tbr_iter "w") | tbr_iter "v")
set_option hygiene false in
local macro_rules | `(tactic| tbr_iter "ex") => `(tactic| repeat (tbr_iter "e1"))
set_option hygiene false in
local macro_rules | `(tactic| tbr_iter "z") => `(tactic| ((try dsimp only [L2.cxOf]); with_reducible first | exact T.z_IndexError | exact T.z_KeyError | exact T.z_ValueError | exact T.z_abs | exact T.z_all | exact T.z_bool | exact T.z_classmethod | exact T.z_dict | exact T.z_enumerate | exact T.z_int | exact T.z_isinstance | exact T.z_iter | exact T.z_len | exact T.z_list | exact T.z_max | exact T.z_min | exact T.z_property | exact T.z_range | exact T.z_repr | exact T.z_sorted | exact T.z_str | exact T.z_tuple | exact T.z_zip))
set_option hygiene false in
local macro_rules | `(tactic| tbr_iter "mg") => `(tactic| ((try dsimp only [L2.cxOf]); with_reducible first | exact T.c_ALPHABET | exact T.c_MAX_LETTERS | exact T.c_MAX_COLUMNS | exact T.c_MOST_VALUES | exact T.c_MAX_TABLES | exact T.c_IN | exact T.c_OUT | exact T.c_UNLIKE))
namespace Ax
theorem TabIs.btL {K : PySem.W.Frag} {H H' : Hp} {d a : Addr} {c : Nat} {rows : List (List Str)} {acc : List V} (h : TabIs K H a c rows) (hd : H d = some (.lst acc)) (b : Bt d H H') : TabIs K H' a c rows := by
  have nd : ∀ y o, H y = some o → (∀ k, o ≠ .lst k) → y ≠ d := fun y o hy n z => by
    rw [z, hd] at hy
    cases hy
    exact n _ rfl
  obtain ⟨dx, q, e, h1, ⟨vs, h2, h3⟩, kv, h4, h5⟩ := h
  exact ⟨dx, q, e, b _ _ (nd _ _ h1 (fun _ z => nomatch z)) h1, ⟨vs, b _ _ (nd _ _ h2 (fun _ z => nomatch z)) h2, h3.imp fun _ _ z => z.bt b (fun xs z => by rw [hd] at z; cases z)⟩, kv, b _ _ (nd _ _ h4 (fun _ z => nomatch z)) h4, h5⟩
theorem flatten_len {rows : List (List Str)} {c : Nat} (h : ∀ r ∈ rows, r.length ≤ c) : rows.flatten.length ≤ rows.length * c := by
  induction rows with
  | nil => simp
  | cons r rows ih =>
    rw [List.flatten_cons, List.length_append, List.length_cons, Nat.succ_mul]
    have h1 := h r List.mem_cons_self
    have h2 := ih fun z hz => h z (List.mem_cons_of_mem _ hz)
    omega
/-- z is a pair of a number of columns and a tuple of rows over zs -/
def RawV (H : Hp) (zs : List Str) (z : V) : Prop := ∃ (b pr : Addr) (c : Nat) (us : List V), z = .ref b ∧ H b = some (.tup [.int (c : Nat), .ref pr]) ∧ H pr = some (.tup us) ∧ c ≤ 3 ∧ us.length ≤ 27 ∧ ∀ u ∈ us, RowOf zs c H u
theorem RawV.sl {H H' : Hp} {zs : List Str} {z : V} (h : RawV H zs z) (s : Sl H H') : RawV H' zs z := let ⟨b, pr, c, us, e, h1, h2, h3, h4, h5⟩ := h; ⟨b, pr, c, us, e, s _ _ h1 rfl, s _ _ h2 rfl, h3, h4, fun u hu => (h5 u hu).sl s⟩
/-- the drawn database at t -/
structure DrawnDb (H : Hp) (t : Addr) (sh : List (Str × Nat)) (zs : List Str) : Prop where
  ex : ∃ pv pd kvs, H t = some (.tup [.ref pv, .ref pd]) ∧ H pv = some (.tup (zs.map V.str)) ∧ H pd = some (.dK kvs) ∧ kvs.map (·.1) = (sh.map (·.1)).map Sum.inr ∧ ∀ kz ∈ kvs, RawV H zs kz.2
def spDatabase (K : PySem.W.Frag) : Sp := fun vs H Q _ => ∃ (p q : Addr) (n : Nat) (bs : List Addr) (sh : List (Str × Nat)), vs = [.ref p, .ref q, .int 4] ∧ H p = some (DiceO p n) ∧ n < 2 ^ 40 ∧ H q = some (.lst (bs.map V.ref)) ∧ All2 (ShV H) bs sh ∧ ShapeOk sh ∧
  ∀ t zs m H', ValsOk zs → DrawnDb H' t sh zs → Sm p H H' → H' p = some (DiceO p m) → m ≤ n + 400 → Q (.ref t) H'
def pools : List (List Str) := [["a", "b", "c", "d"], ["at", "b", "x", "zz"], ["m", "n", "no", "p"]]
theorem pools_ok : ∀ z ∈ pools, z.length = 4 ∧ z.Nodup ∧ ∀ y ∈ z, isNameS y = true := by decide +kernel
theorem strs_perm {ys : List V} {zs : List Str} (p : ys.Perm (zs.map V.str)) : ∃ us : List Str, ys = us.map V.str ∧ us.Perm zs := by
  have e1 : ys = (ys.map fun v => match v with | .str z => z | _ => "").map V.str := by
    rw [List.map_map]
    have key : ∀ y ∈ ys, (V.str ∘ fun v => match v with | .str z => z | _ => "") y = y := fun y hy => by
      obtain ⟨z, _, rfl⟩ := List.mem_map.mp (p.mem_iff.mp hy)
      rfl
    exact ((List.map_congr_left key).trans (List.map_id _)).symm
  refine ⟨_, e1, ?_⟩
  have e2 := p.map fun v => match v with | V.str z => z | _ => ("" : Str)
  rw [List.map_map] at e2
  have e3 : (zs.map ((fun v => match v with | V.str z => z | _ => ("" : Str)) ∘ V.str)) = zs := (List.map_congr_left fun z _ => rfl).trans (List.map_id _)
  rw [e3] at e2
  exact e2
theorem putK_new {κ : Type} [DecidableEq κ] {d : List (κ × V)} {k : κ} {v : V} (h : k ∉ d.map (·.1)) : putK d k v = d ++ [(k, v)] := by
  unfold putK
  have e0 : (d.any fun kv => decide (kv.1 = k)) = false := List.any_eq_false.mpr fun kv hkv z => h (List.mem_map.mpr ⟨kv, hkv, of_decide_eq_true z⟩)
  rw [e0, if_neg Bool.false_ne_true]
section
variable {P : Program} {w : World} {K : PySem.W.Frag} {mg : Str → Option Value} {base : Heap}
set_option hygiene false in
local macro_rules | `(tactic| tbr_iter "var") => `(tactic| first | ((with_reducible show W _ (.Name "dice" _) _ _ _); refine w_var 0 rfl (by tbr_iter "vis") rfl ?_) | ((with_reducible show W _ (.Name "shape" _) _ _ _); refine w_var 1 rfl (by tbr_iter "vis") rfl ?_) | ((with_reducible show W _ (.Name "most" _) _ _ _); refine w_var 2 rfl (by tbr_iter "vis") rfl ?_) | ((with_reducible show W _ (.Name "pool" _) _ _ _); refine w_var 3 rfl (by tbr_iter "vis") rfl ?_) | ((with_reducible show W _ (.Name "values" _) _ _ _); refine w_var 4 rfl (by tbr_iter "vis") rfl ?_) | ((with_reducible show W _ (.Name "tables" _) _ _ _); refine w_var 5 rfl (by tbr_iter "vis") rfl ?_) | ((with_reducible show W _ (.Name "name" _) _ _ _); refine w_var 6 rfl (by tbr_iter "vis") rfl ?_) | ((with_reducible show W _ (.Name "columns" _) _ _ _); refine w_var 7 rfl (by tbr_iter "vis") rfl ?_) | ((with_reducible show W _ (.Name "few" _) _ _ _); refine w_var 8 rfl (by tbr_iter "vis") rfl ?_))
set_option hygiene false in
local macro_rules | `(tactic| tbr_iter "set") => `(tactic| first | ((with_reducible show WB _ (.Assign [.Name "dice" _] _ _ :: _) _ _ _); refine wb_cons (ws_set 0 ?_ rfl nd)) | ((with_reducible show WB _ (.Assign [.Name "shape" _] _ _ :: _) _ _ _); refine wb_cons (ws_set 1 ?_ rfl nd)) | ((with_reducible show WB _ (.Assign [.Name "most" _] _ _ :: _) _ _ _); refine wb_cons (ws_set 2 ?_ rfl nd)) | ((with_reducible show WB _ (.Assign [.Name "pool" _] _ _ :: _) _ _ _); refine wb_cons (ws_set 3 ?_ rfl nd)) | ((with_reducible show WB _ (.Assign [.Name "values" _] _ _ :: _) _ _ _); refine wb_cons (ws_set 4 ?_ rfl nd)) | ((with_reducible show WB _ (.Assign [.Name "tables" _] _ _ :: _) _ _ _); refine wb_cons (ws_set 5 ?_ rfl nd)) | ((with_reducible show WB _ (.Assign [.Name "name" _] _ _ :: _) _ _ _); refine wb_cons (ws_set 6 ?_ rfl nd)) | ((with_reducible show WB _ (.Assign [.Name "columns" _] _ _ :: _) _ _ _); refine wb_cons (ws_set 7 ?_ rfl nd)) | ((with_reducible show WB _ (.Assign [.Name "few" _] _ _ :: _) _ _ _); refine wb_cons (ws_set 8 ?_ rfl nd)))
theorem ok_law_database (T : Txt K mg) : Callee P w K mg base "_law_database" 4 ["dice", "shape", "most"] (spDatabase K) := by
  refine def_ok T.f__law_database sc__law_database (fun _ _ _ _ _ _ us hl => match us, hl with | [_, _, _], _ => rfl) (fun vs H Q E h => ?_) fun f cdv A outer s H vs Q E hr h => ?_
  · obtain ⟨p, q, n, bs, sh, rfl, _⟩ := h; rfl
  obtain ⟨p, q, n, bs, sh, rfl, hp, hn, hq, hbs, hsh, k⟩ := h
  have nd := sc__law_database.nd
  refine wb_cons (ws_set 3 (w_call (ok_law_pick T) hr passL (wa_cons ?_)) rfl nd)
  tbr_iter "go"
  refine ⟨show 4 ≤ sizeLine by decide, fun p1 H1 s1 n1 h1 => ?_⟩
  tbr_iter "go"
  refine ⟨show 4 ≤ sizeLine by decide, fun p2 H2 s2 n2 h2 => ?_⟩
  tbr_iter "go"
  refine ⟨show 4 ≤ sizeLine by decide, fun p3 H3 s3 n3 h3 => ?_⟩
  tbr_iter "go"
  refine ⟨show 3 ≤ sizeLine by decide, fun pp H4 s4 n4 h4 => wa_nil ⟨p, pp, n, _, rfl, (s1.trans (s2.trans (s3.trans s4))) _ _ hp, by omega, SqL.of h4, (fun e => by cases e), (show 3 < 2 ^ 20 by decide), fun v hv H5 s5 hp5 => ?_⟩⟩
  have s14 := s1.trans (s2.trans (s3.trans s4))
  have sm5 : Sm p H H5 := (Sm.of hp s14).trans s5
  obtain ⟨pl, pool, rfl, hpool, hpl⟩ : ∃ pl pool, v = .ref pl ∧ pool ∈ pools ∧ H5 pl = some (.lst (pool.map V.str)) := by
    have hv2 : v ∈ [V.ref p1, .ref p2, .ref p3] := hv
    simp only [List.mem_cons, List.mem_nil_iff, or_false] at hv2
    rcases hv2 with rfl | rfl | rfl
    · exact ⟨p1, ["a", "b", "c", "d"], rfl, by simp [pools], s5.lst ((s2.trans (s3.trans s4)) _ _ h1)⟩
    · exact ⟨p2, ["at", "b", "x", "zz"], rfl, by simp [pools], s5.lst ((s3.trans s4) _ _ h2)⟩
    · exact ⟨p3, ["m", "n", "no", "p"], rfl, by simp [pools], s5.lst (s4 _ _ h3)⟩
  obtain ⟨pl4, pnd, pnm⟩ := pools_ok pool hpool
  refine wb_cons (ws_set 4 (w_callTy T.z_tuple (wa_cons (w_callB T.z_sorted (wa_cons (w_cutTo (w_call (ok_law_mixed T) (hr.mono (by decide)) passL ?_)))))) rfl nd)
  tbr_iter "go"
  refine ⟨p, pl, n + 1, _, rfl, hp5, by omega, SqL.of hpl, by rw [List.length_map, pl4]; decide, fun ys q6 m6 H6 py s6 hp6 hm6 n6 h6 => ?_⟩
  rw [List.length_map, pl4] at hm6
  obtain ⟨us, rfl, pus⟩ := strs_perm py
  tbr_iter "go"
  refine w_call (ok_law_roll T) (hr.mono (by decide)) passL ?_
  tbr_iter "go"
  refine ⟨p, m6, 4, rfl, hp6, by omega, by decide, by decide, fun r H7 s7 hp7 r0 r1 => ?_⟩
  tbr_iter "go"
  have er : (1 : Int) + r = ((1 + r.toNat : Nat) : Int) := by omega
  rw [er]
  have rk : r.toNat < 4 := by omega
  refine ⟨q6, 1 + r.toNat, us.map V.str, rfl, rfl, SqL.of (s7.lst h6), fun q8 H8 s8 n8 h8 => wa_nil ?_⟩
  rw [← List.map_take] at h8
  have ul : us.length = 4 := pus.length_eq.trans pl4
  have tl : (us.take (1 + r.toNat)).length = min (1 + r.toNat) 4 := by rw [List.length_take, ul]
  have tnd : (us.take (1 + r.toNat)).Nodup := (List.take_sublist _ _).nodup (pus.nodup_iff.mpr pnd)
  have tnm : ∀ z ∈ us.take (1 + r.toNat), isNameS z = true := fun z hz => pnm z (pus.mem_iff.mp (List.mem_of_mem_take hz))
  refine kv_sortedS (SqL.of h8) (by omega) fun zs q9 H9 pz _ s9 n9 h9 => wa_nil (kv_tupleL (SqL.of h9) fun pv Ha sa na ha => ?_)
  have zok : ValsOk zs := by
    have := pz.length_eq
    exact ⟨pz.nodup_iff.mpr tnd, by omega, by omega, fun z hz => tnm z (pz.mem_iff.mp hz)⟩
  have zl : zs.length ≤ 4 := by
    have := pz.length_eq
    omega
  have s8a := s8.trans (s9.trans sa)
  have sma : Sm p H Ha := ((sm5.trans s6).trans s7).same s8a
  have hpa : Ha p = some (DiceO p (m6 + 1)) := s8a _ _ hp7
  refine wb_cons (ws_set 5 (w_dict0 fun pd Hb sb nb hb => ?_) rfl nd)
  have smb := sma.same sb
  have hpb := sb _ _ hpa
  have nbH : H pd = none := Sm.nul sma hpa nb
  have hqb := smb.lst hq
  refine wb_cons (ws_forG (gPair K 6 7) (pg_tup rfl (pgs_cons (pg_name nd rfl (Or.inl rfl) (Or.inr rfl)) (pgs_cons (pg_name nd rfl (Or.inl rfl) (Or.inr rfl)) pgs_nil))) (wi_val ?_) (passes_of rfl))
  tbr_iter "go"
  refine itv_list (SqL.of hqb) ⟨bs.length, _, _, by rw [← List.length_map (f := V.ref)]; exact walk_list (K := K) (xs := bs.map V.ref), fun j σ Hc => ∃ x6 x7 x8 m kvs, σ = [some (.ref p), some (.ref q), some (.int 4), some (.ref pl), some (.ref pv), some (.ref pd), x6, x7, x8] ∧ Sm p H Hc ∧ Hc p = some (DiceO p m) ∧ m ≤ n + 20 + 70 * j ∧ Hc pd = some (.dK kvs) ∧ Hc pv = some (.tup (zs.map V.str)) ∧ kvs.map (·.1) = ((sh.take j).map (·.1)).map Sum.inr ∧ ∀ kz ∈ kvs, RawV Hc zs kz.2, ?_, ?_, ?_, ?_⟩
  · exact ⟨none, none, none, m6 + 1, [], rfl, smb, hpb, by omega, hb, sb _ _ ha, by simp, by simp⟩
  · rintro j σ Hc _ ⟨x6, x7, x8, m, kvs, _, sm, _⟩
    exact SqL.of (sm.lst hq)
  · rintro j v σ Hx Hc hj ⟨x6, x7, x8, m, kvs, rfl, sm, hpc, hm, hpd, hpv, hks, hraw⟩ ⟨e, hv⟩
    subst e
    rw [List.getElem?_map] at hv
    obtain ⟨b, eb, rfl⟩ := Option.map_eq_some_iff.mp hv
    obtain ⟨sh1, es, hb1⟩ := hbs.at eb
    have hb2 : Hc b = some (.tup [.str sh1.1, .int (sh1.2 : Nat)]) := sm.tupO hb1
    have hsm := hsh.2.2.2 sh1 (List.mem_of_getElem? es)
    have hjl : j < 4 := Nat.lt_of_lt_of_le (List.getElem?_eq_some_iff.mp es).1 hsh.1
    refine gPair_of (SqT.of hb2) ?_
    refine wb_cons (ws_set 8 (w_call (ok_law_pick T) hr passL (wa_cons ?_)) rfl nd)
    tbr_iter "go"
    refine ⟨show 5 ≤ sizeLine by decide, fun pe Hd sd nd' hd => wa_nil ⟨p, pe, m, _, rfl, sd _ _ hpc, by omega, SqL.of hd, (fun e => by cases e), (show 5 < 2 ^ 20 by decide), fun v hv He se hpe => ?_⟩⟩
    obtain ⟨c, rfl, hc0, hc1⟩ : ∃ c : Int, v = .int c ∧ 0 < c ∧ c < 1000 := by
      have hv2 : v ∈ [V.int 2, .int 3, .int 2, .int 4, .int 1] := hv
      simp only [List.mem_cons, List.mem_nil_iff, or_false] at hv2
      rcases hv2 with rfl | rfl | rfl | rfl | rfl
      · exact ⟨2, rfl, by decide, by decide⟩
      · exact ⟨3, rfl, by decide, by decide⟩
      · exact ⟨2, rfl, by decide, by decide⟩
      · exact ⟨4, rfl, by decide, by decide⟩
      · exact ⟨1, rfl, by decide, by decide⟩
    have sme : Sm p H He := (sm.same sd).trans se
    have smce : Sm p Hc He := (Sm.of hpc sd).trans se
    have hpve := smce.tupO hpv
    refine wb_cons (ws_sub (w_tup (wa_cons ?_)))
    tbr_iter "var"
    refine wa_cons (w_callTy T.z_tuple (wa_cons (w_call (ok_law_some T) (hr.mono (by decide)) passL (wa_cons ?_))))
    tbr_iter "var"
    refine wa_cons (w_cutTo (w_call (ok_law_tuples T) (hr.mono (by decide)) passL ?_))
    tbr_iter "go"
    refine ⟨pv, sh1.2, zs, rfl, SqT.of hpve, hsm.2, zl, fun us2 qf Hf hul hur sf nf hf => ?_⟩
    tbr_iter "go"
    refine ⟨qf, 27, us2, rfl, rfl, SqL.of hf, fun qg Hg sg ng hg => ?_⟩
    tbr_iter "go"
    refine ⟨p, qg, m + 1, c, _, rfl, sg _ _ (sf _ _ hpe), by omega, hc0, hc1, SqL.of hg, ?_, fun ws qh mh Hh sub sh' hph hmh nh hh => wa_nil (kv_tupleL (SqL.of hh) fun pr Hi si ni hi => wa_nil ⟨show 2 ≤ sizeLine by decide, fun bt Hj sj nj hj => ?_⟩)⟩
    · rw [List.length_take]
      omega
    have tk : (us2.take 27).length ≤ 27 := by rw [List.length_take]; omega
    have wl : ws.length ≤ 27 := Nat.le_trans sub.length_le tk
    have hmh' : mh ≤ m + 28 := by omega
    have seg : Same He Hg := sf.trans sg
    have sij := si.trans sj
    have smh : Sm p He Hh := (Sm.of hpe seg).trans sh'
    have smj : Sm p Hc Hj := (smce.trans smh).same sij
    have hpdj : Hj pd = some (.dK kvs) := sij _ _ (smh.keep _ _ (smce.keep _ _ hpd (fun z => by rw [z, hpc] at hpd; cases hpd)) (fun z => by
      have := smce.keep _ _ hpd (fun z => by rw [z, hpc] at hpd; cases hpd)
      rw [z, hpe] at this
      cases this))
    have key : Sum.inr sh1.1 ∉ kvs.map (·.1) := by
      rw [hks]
      intro hmem
      obtain ⟨z, hz, e⟩ := List.mem_map.mp hmem
      cases e
      obtain ⟨s2, hs2, e2⟩ := List.mem_map.mp hz
      have hnd := hsh.2.1
      obtain ⟨i2, hi2⟩ := List.mem_iff_getElem?.mp hs2
      have hi3 : i2 < j := by
        have := (List.getElem?_eq_some_iff.mp hi2).1
        rw [List.length_take] at this
        omega
      rw [List.getElem?_take_of_lt hi3] at hi2
      have e3 : (sh.map (·.1))[i2]? = (sh.map (·.1))[j]? := by rw [List.getElem?_map, List.getElem?_map, hi2, es, Option.map_some, Option.map_some, e2]
      have := (List.getElem?_inj (i := i2) (j := j) (by
        have := (List.getElem?_eq_some_iff.mp hi2).1
        rw [List.length_map]
        exact this) hnd).mp e3
      omega
    have raw1 : RawV Hj zs (.ref bt) := ⟨bt, pr, sh1.2, ws, rfl, hj, sj _ _ hi, hsm.2, wl, fun u hu => ((hur u (List.mem_of_mem_take (sub.subset hu))).sl (Sl.of sg)).sl (sh'.sl.trans (Sl.of sij))⟩
    have kl : kvs.length < sizeLine := by
      have := congrArg List.length hks
      rw [List.length_map, List.length_map, List.length_map, List.length_take] at this
      exact Nat.lt_of_le_of_lt (show kvs.length ≤ 4 by omega) (by decide)
    tbr_iter "go"
    refine sv_dK (k := .inr sh1.1) (room64 hr) hpdj kl ?_
    have sl : Sl Hj (upd Hj pd (.dK (putK kvs (.inr sh1.1) (.ref bt)))) := (Sl.refl Hj).upd hpdj rfl
    have npd : p ≠ pd := ne_of_none hp nbH
    have hpj : Hj p = some (DiceO p mh) := sij _ _ hph
    refine wb_nil ⟨_, _, _, mh, putK kvs (.inr sh1.1) (.ref bt), rfl, (sm.trans smj).new nbH, (upd_ne npd).trans hpj, by omega, upd_same, sl _ _ (smj.tupO hpv) rfl, ?_, ?_⟩
    · rw [putK_new key, List.map_append, hks, List.take_add_one, es]
      simp
    · rw [putK_new key]
      intro kz hkz
      rcases List.mem_append.mp hkz with h | h
      · exact (hraw kz h).sl (smj.sl.trans (by rw [← putK_new key]; exact sl))
      · rw [List.mem_singleton.mp h]
        exact raw1.sl (by rw [← putK_new key]; exact sl)
  · rintro σ Hc ⟨x6, x7, x8, m, kvs, rfl, sm, hpc, hm, hpd, hpv, hks, hraw⟩
    have hbl := hbs.len
    rw [hbl, List.take_length] at hks
    tbr_iter "go"
    refine ⟨show 2 ≤ sizeLine by decide, fun t Hd sd nd' hd => ?_⟩
    have shl := hsh.1
    exact k t zs m Hd zok ⟨pv, pd, kvs, hd, sd _ _ hpv, sd _ _ hpd, hks, fun kz h => (hraw kz h).sl (Sl.of sd)⟩ (sm.same sd) (sd _ _ hpc) (by omega)
end
end Ax
end
section
set_option maxHeartbeats 4000000
open PySem PySem.Spec PyProof.Rows L2 Ax
set_option hygiene false in
local macro_rules | `(tactic| tbr_iter "boot") => `(tactic| with_reducible first | exact Ax.b_len | exact Ax.b_all | exact Ax.b_any | exact Ax.b_sorted | exact Ax.b_isinstance | exact Ax.b_abs | exact Ax.b_max | exact Ax.b_min | exact Ax.b_sum | exact Ax.b_repr | exact Ax.b_iter | exact Ax.b_ord | exact Ax.b_chr | exact Ax.b_str | exact Ax.b_int | exact Ax.b_bool | exact Ax.b_tuple | exact Ax.b_list | exact Ax.b_dict | exact Ax.b_set | exact Ax.b_range | exact Ax.b_enumerate | exact Ax.b_zip)
set_option hygiene false in
local macro_rules | `(tactic| tbr_iter "vis") => `(tactic| first | exact Or.inl rfl | exact Or.inr (Or.inl rfl) | exact Or.inr (Or.inr rfl))
set_option hygiene false in
local macro_rules | `(tactic| tbr_iter "w") => `(tactic| first
  | refine wb_cons ?_
  | refine wb_nil ?_
  | refine ws_ret ?_
  | refine ws_if ?_
  | refine ws_sub ?_
  | refine wa_cons ?_
  | refine wa_nil ?_
  | refine w_int ?_
  | refine w_str ?_
  | refine w_bl ?_
  | refine w_non ?_
  | tbr_iter "var"
  | refine w_bin ?_
  | refine w_cmp ?_
  | refine w_chain ?_
  | refine w_and ?_
  | refine w_or ?_
  | refine w_one ?_
  | refine w_not ?_
  | refine w_ix ?_
  | refine w_ifExp ?_
  | refine w_tup ?_
  | refine w_lst ?_
  | refine wt_not ?_
  | refine wt_bool ?_
  | refine ww_and ?_
  | refine ww_and1 ?_
  | refine ww_or ?_
  | refine ww_or1 ?_
  | refine wt_cmp ?_
  | refine wt_val ?_
  | tbr_iter "call"
  | (refine w_glob (by tbr_iter "mg") ?_)
  | (refine w_callB (by tbr_iter "z") ?_)
  | (refine w_callTy (by tbr_iter "z") ?_)
  | (refine w_bltT (by tbr_iter "z") ?_))
set_option hygiene false in
local macro_rules | `(tactic| tbr_iter "blk") => `(tactic| first | exact blkOk_by (by dsimp only [cxOf, envOfC]; decide +kernel))
set_option hygiene false in
local macro_rules | `(tactic| tbr_iter "iff") => `(tactic| first
  | refine iteT ?_
  | refine iteF ?_
  | refine w_if2 (fun _ => ?_) (fun _ => ?_))
set_option hygiene false in
local macro_rules | `(tactic| tbr_iter "sc") => `(tactic| first | omega | decide)
set_option hygiene false in
local macro_rules | `(tactic| tbr_iter "at") => `(tactic| first | exact atI_0 | exact atI_1 | exact atI_2)
set_option hygiene false in
local macro_rules | `(tactic| tbr_iter "sql") => `(tactic| ((try dsimp only [L2.cxOf, L2.Cx.blk]); with_reducible first | assumption | exact SqL.of (by assumption)))
set_option hygiene false in
local macro_rules | `(tactic| tbr_iter "sqt") => `(tactic| ((try dsimp only [L2.cxOf, L2.Cx.blk]); with_reducible first | assumption | exact SqT.of (by assumption)))
set_option hygiene false in
local macro_rules | `(tactic| tbr_iter "v") => `(tactic| first
  | refine bv_add ?_
  | refine bv_sub ?_
  | ((with_reducible show BinV _ .Mult _ _ _ _); refine bv_mul (Or.inl ⟨by tbr_iter "sc", by tbr_iter "sc"⟩) ?_)
  | ((with_reducible show BinV _ .Mult _ _ _ _); refine bv_mul (Or.inr ⟨by tbr_iter "sc", by tbr_iter "sc"⟩) ?_)
  | ((with_reducible show BinV _ .Mod _ _ _ _); refine bv_mod (by tbr_iter "sc") ?_)
  | ((with_reducible show BinV _ .FloorDiv _ _ _ _); refine bv_fdiv ⟨by tbr_iter "sc", by tbr_iter "sc"⟩ ?_)
  | ((with_reducible show BinV _ .Pow _ _ _ _); refine bv_pow ⟨by decide, by decide +kernel⟩ ?_)
  | refine cv_lt ?_
  | refine cv_le ?_
  | refine cv_gt ?_
  | refine cv_ge ?_
  | ((with_reducible show CmpV _ .Eq _ _ _ _); refine cv_eq rfl ?_)
  | ((with_reducible show CmpV _ .NotEq _ _ _ _); refine cv_ne rfl ?_)
  | refine iv_list (by tbr_iter "sql") (by tbr_iter "at") ?_
  | refine iv_tup (by tbr_iter "sqt") (by tbr_iter "at") ?_
  | refine kv_len_seq (Or.inl (by tbr_iter "sql")) ?_
  | refine kv_len_seq (Or.inr (by tbr_iter "sqt")) ?_
  | refine kv_int ?_
  | refine kv_intB ?_
  | refine kv_abs ?_
  | refine kv_max2 rfl ?_
  | refine kv_min2 rfl ?_)
set_option hygiene false in
local macro_rules | `(tactic| tbr_iter "b") => `(tactic| first
  | refine ⟨_, rfl, iteT ?_⟩
  | refine ⟨_, rfl, iteF ?_⟩
  | refine iteT ?_
  | refine iteF ?_)
set_option hygiene false in
local macro_rules | `(tactic| tbr_iter "go") => `(tactic| repeat (first | tbr_iter "w" | tbr_iter "v" | tbr_iter "b"))
set_option hygiene false in
local macro_rules | `(tactic| tbr_iter "nof") => `(tactic| (intro d hd; cases d <;> first | rfl | exact absurd rfl (hd _)))
set_option hygiene false in
local macro_rules | `(tactic| tbr_iter "e1") => `(tactic| first | ((with_reducible show W _ _ _ _ _); tbr_iter "w") | ((with_reducible show WA _ _ _ _ _); tbr_iter "w") | ((with_reducible show WT _ _ _ _ _); tbr_iter "w") | ((with_reducible show WW _ _ _ _ _); tbr_iter "w") | tbr_iter "v")
set_option hygiene false in
local macro_rules | `(tactic| tbr_iter "ex") => `(tactic| repeat (tbr_iter "e1"))
set_option hygiene false in
local macro_rules | `(tactic| tbr_iter "z") => `(tactic| ((try dsimp only [L2.cxOf]); with_reducible first | exact T.z_IndexError | exact T.z_KeyError | exact T.z_ValueError | exact T.z_abs | exact T.z_all | exact T.z_bool | exact T.z_classmethod | exact T.z_dict | exact T.z_enumerate | exact T.z_int | exact T.z_isinstance | exact T.z_iter | exact T.z_len | exact T.z_list | exact T.z_max | exact T.z_min | exact T.z_property | exact T.z_range | exact T.z_repr | exact T.z_sorted | exact T.z_str | exact T.z_tuple | exact T.z_zip))
set_option hygiene false in
local macro_rules | `(tactic| tbr_iter "mg") => `(tactic| ((try dsimp only [L2.cxOf]); with_reducible first | exact T.c_ALPHABET | exact T.c_MAX_LETTERS | exact T.c_MAX_COLUMNS | exact T.c_MOST_VALUES | exact T.c_MAX_TABLES | exact T.c_IN | exact T.c_OUT | exact T.c_UNLIKE))
namespace Ax
theorem TabIs.btG {K : PySem.W.Frag} {H H' : Hp} {d a : Addr} {c : Nat} {rows : List (List Str)} {u : HO} (h : TabIs K H a c rows) (hd : H d = some u) (n1 : ∀ C e g, u ≠ .ins C e g) (n2 : ∀ xs, u ≠ .tup xs) (n3 : ∀ k, u ≠ .dT k) (b : Bt d H H') : TabIs K H' a c rows := by
  have nd : ∀ y o, H y = some o → u ≠ o → y ≠ d := fun y o hy n z => by
    rw [z, hd] at hy
    exact n (Option.some.inj hy)
  obtain ⟨dx, q, e, h1, ⟨vs, h2, h3⟩, kv, h4, h5⟩ := h
  exact ⟨dx, q, e, b _ _ (nd _ _ h1 (n1 _ _ _)) h1, ⟨vs, b _ _ (nd _ _ h2 (n2 _)) h2, h3.imp fun _ _ z => z.bt b (fun xs z => by rw [hd] at z; exact n2 _ (Option.some.inj z))⟩, kv, b _ _ (nd _ _ h4 (n3 _)) h4, h5⟩
/-- the i-th item of the law's list of tables -/
def MdR (K : PySem.W.Frag) (zs : List Str) (ns : List Str) (D : Addr) (i : Nat) (y : V) (H : Hp) : Prop := ∃ b a nm c raw, ns[i]? = some nm ∧ y = .ref b ∧ b ≠ D ∧ H b = some (.tup [.str nm, .ref a]) ∧ TabIs K H a c (tabRows raw) ∧ raw.length ≤ 27 ∧ c ≤ 3 ∧ ∀ r ∈ raw, r.length = c ∧ ∀ t ∈ r, t ∈ zs
theorem raw_fit {K : PySem.W.Frag} {H : Hp} {zs : List Str} {a : Addr} {c : Nat} {raw : List (List Str)} (h : TabIs K H a c (tabRows raw)) (h1 : raw.length ≤ 27) (h2 : c ≤ 3) (h3 : ∀ r ∈ raw, r.length = c ∧ ∀ t ∈ r, t ∈ zs) : TabFit K H zs (.ref a) := by
  refine ⟨a, c, _, rfl, h, ?_, fun t ht => ?_⟩
  · have e := flatten_len (rows := tabRows raw) (c := 3) fun r hr => by rw [(h3 r (tabRows_mem.mp hr)).1]; exact h2
    have e2 := tabRows_len raw
    exact Nat.lt_of_le_of_lt (show (tabRows raw).flatten.length ≤ 81 by omega) (by decide)
  · obtain ⟨r, hr, h⟩ := List.mem_flatten.mp ht
    exact (h3 r (tabRows_mem.mp hr)).2 t h
theorem rows_of_rowOf {zs : List Str} {c : Nat} {H : Hp} : ∀ {us : List V}, (∀ u ∈ us, RowOf zs c H u) → ∃ raw, All2 (RwV H) us raw ∧ ∀ r ∈ raw, r.length = c ∧ ∀ t ∈ r, t ∈ zs
  | [], _ => ⟨[], .nil, by simp⟩
  | u :: us, h => by
    obtain ⟨r, a, b⟩ := h u List.mem_cons_self
    obtain ⟨raw, a2, b2⟩ := rows_of_rowOf fun v hv => h v (List.mem_cons_of_mem _ hv)
    refine ⟨r :: raw, .cons a a2, fun z hz => ?_⟩
    rcases List.mem_cons.mp hz with rfl | hz
    · exact b
    · exact b2 z hz
def spMade (K : PySem.W.Frag) : Sp := fun vs H Q _ => ∃ (t : Addr) (sh : List (Str × Nat)) (zs : List Str), vs = [.ref t] ∧ DrawnDb H t sh zs ∧ ValsOk zs ∧ ShapeOk sh ∧ ∀ x H', Same H H' → DbIs K H' "MadeDatabase" x (sortT zs) (sh.map (·.1)) → Q (.ref x) H'
theorem md_pairs {K : PySem.W.Frag} {H : Hp} {zs : List Str} {D : Addr} : ∀ {ys : List V} {L : List Str}, ys.length = L.length → (∀ (i : Nat) y, ys[i]? = some y → MdR K zs L D i y H) → (∀ n ∈ L, isNameS n = true) →
    ∃ (ps : List Addr) (kvs : List (Key × V)), ys = ps.map V.ref ∧ Paired (fun q kv => SqT K H q [kV kv.1, kv.2]) ps kvs ∧ kvs.map (·.1) = L.map Sum.inr ∧ TabsFit K H zs kvs
  | [], [], _, _, _ => ⟨[], [], rfl, .nil, rfl, fun _ h => absurd h List.not_mem_nil⟩
  | [], _ :: _, h, _, _ => nomatch h
  | _ :: _, [], h, _, _ => nomatch h
  | y :: ys, n :: L, hl, h, hn => by
    obtain ⟨b, a, nm, c, raw, e1, rfl, e3, e4, e5, e6, e7, e8⟩ := h 0 y rfl
    cases e1
    obtain ⟨ps, kvs, f1, f2, f3, f4⟩ := md_pairs (K := K) (H := H) (zs := zs) (D := D) (Nat.succ.inj hl) (fun i y e => h (i + 1) y e) fun z hz => hn z (List.mem_cons_of_mem _ hz)
    refine ⟨b :: ps, (.inr n, .ref a) :: kvs, by rw [f1] <;> rfl, .cons (SqT.of e4) f2, by rw [List.map_cons, f3, List.map_cons], fun kz hk => ?_⟩
    rcases List.mem_cons.mp hk with rfl | hk
    · exact ⟨n, rfl, hn n List.mem_cons_self, raw_fit e5 e6 e7 e8⟩
    · exact f4 kz hk
theorem names_eq {ns : List Str} {L : List Str} (h : (ns.map (Sum.inr (α := Int))).Perm (L.map Sum.inr)) (p : ns.Pairwise fun a b => strLe a b = true) (q : L.Pairwise fun a b => strLe a b = true) : ns = L := by
  refine perm_pw_eq ?_ p q
  have e := h.map fun k : Key => match k with
    | .inr z => z
    | .inl _ => ("" : Str)
  rw [List.map_map, List.map_map] at e
  have id1 : ∀ l : List Str, l.map ((fun k : Key => match k with
    | .inr z => z
    | .inl _ => ("" : Str)) ∘ Sum.inr) = l := fun l => (List.map_congr_left fun z _ => rfl).trans (List.map_id _)
  rw [id1, id1] at e
  exact e
section
variable {P : Program} {w : World} {K : PySem.W.Frag} {mg : Str → Option Value} {base : Heap}
set_option hygiene false in
local macro_rules | `(tactic| tbr_iter "var") => `(tactic| first | ((with_reducible show W _ (.Name "database" _) _ _ _); refine w_var 0 rfl (by tbr_iter "vis") rfl ?_) | ((with_reducible show W _ (.Name "tables" _) _ _ _); refine w_var 1 rfl (by tbr_iter "vis") rfl ?_) | ((with_reducible show W _ (.Name "name" _) _ _ _); refine w_var 2 rfl (by tbr_iter "vis") rfl ?_))
set_option hygiene false in
local macro_rules | `(tactic| tbr_iter "set") => `(tactic| first | ((with_reducible show WB _ (.Assign [.Name "database" _] _ _ :: _) _ _ _); refine wb_cons (ws_set 0 ?_ rfl nd)) | ((with_reducible show WB _ (.Assign [.Name "tables" _] _ _ :: _) _ _ _); refine wb_cons (ws_set 1 ?_ rfl nd)) | ((with_reducible show WB _ (.Assign [.Name "name" _] _ _ :: _) _ _ _); refine wb_cons (ws_set 2 ?_ rfl nd)))
theorem ok_law_made (T : Txt K mg) : Callee P w K mg base "_law_made" 10 ["database"] (spMade K) := by
  refine def_ok T.f__law_made sc__law_made (fun _ _ _ _ _ _ us hl => match us, hl with | [_], _ => rfl) (fun vs H Q E h => ?_) fun f cdv A outer s H vs Q E hr h => ?_
  · obtain ⟨t, sh, zs, rfl, _⟩ := h; rfl
  obtain ⟨t, sh, zs, rfl, ⟨pv, pd, kvs, h1, h2, h3, h4, h5⟩, hz, hsh, k⟩ := h
  have nd := sc__law_made.nd
  have hlen : kvs.length = sh.length := by
    have := congrArg List.length h4
    rwa [List.length_map, List.length_map, List.length_map] at this
  have kl : kvs.length ≤ 4 := hlen ▸ hsh.1
  have kvnd : (kvs.map (·.1)).Nodup := by
    rw [h4]
    exact List.pairwise_map.mpr (hsh.2.1.imp fun h e => h (Sum.inr.inj e))
  refine wb_cons (ws_lock h3 trivial fun od => ws_setLcI 1 [("name", 2)] (gName 2) tYes (fun _ _ _ _ _ => pg_name nd rfl (Or.inl rfl) (Or.inr rfl)) (fun _ _ _ _ _ => pts_nil) rfl nd (by tbr_iter "blk") rfl (lcR_I mono_name (wi_keys (w_ix ?_))))
  tbr_iter "var"
  refine w_int ?_
  have bl : Bt pd H (upd H pd (.frz od (.dK kvs))) := (Bt.refl pd H).upd
  have ne : ∀ {y o}, H y = some o → (∀ k, o ≠ .dK k) → y ≠ pd := fun {y o} hy n z => by
    rw [z, h3] at hy
    cases hy
    exact n _ rfl
  have ht1 := bl t _ (ne h1 (fun _ z => nomatch z)) h1
  refine iv_tup (SqT.of ht1) atI_1 ⟨pd, od, kvs, rfl, upd_same, kvs.length, _, itN_keys upd_same, Nat.lt_of_le_of_lt kl (by decide), MdR K zs (sh.map (·.1)), ?_, fun D i v H2 hi2 s2 nD hacc hv => ?_, fun D ys H2 s2 n2 hD hyl hR => ⟨s2 _ _ upd_same, ?_⟩⟩
  · rintro D i y Ha Hb acc hD ⟨b, a, nm, c, raw, e1, e2, e3, e4, e5, e6⟩ bt
    exact ⟨b, a, nm, c, raw, e1, e2, e3, bt _ _ e3 e4, e5.btL hD bt, e6⟩
  · obtain ⟨k0, z0, e2, rfl⟩ := hv
    have ek : (kvs.map (·.1))[i]? = some k0 := by rw [List.getElem?_map, e2] <;> rfl
    rw [h4, List.getElem?_map] at ek
    obtain ⟨nm, en, rfl⟩ := Option.map_eq_some_iff.mp ek
    obtain ⟨acc, hacc⟩ := hacc
    obtain ⟨b, pr, c, us, ez, hb, hpr, hc, hul, hur⟩ := h5 _ (List.mem_of_getElem? e2)
    have ez : z0 = .ref b := ez
    subst ez
    obtain ⟨raw, hraw, hrr⟩ := rows_of_rowOf hur
    have hval : valV kvs (.inr nm) = some (.ref b) := by
      obtain ⟨v, hv, hm⟩ := valV_mem (kvs := kvs) (k := .inr nm) (List.mem_map.mpr ⟨_, List.mem_of_getElem? e2, rfl⟩)
      obtain ⟨i2, hi3⟩ := List.mem_iff_getElem?.mp hm
      have e3 : (kvs.map (·.1))[i2]? = (kvs.map (·.1))[i]? := by rw [List.getElem?_map, List.getElem?_map, hi3, e2] <;> rfl
      have := (List.getElem?_inj (i := i2) (j := i) (by
        rw [List.length_map]
        exact (List.getElem?_eq_some_iff.mp hi3).1) kvnd).mp e3
      subst this
      rw [e2] at hi3
      cases hi3
      exact hv
    have hb2 := s2 _ _ (bl b _ (ne hb (fun _ z => nomatch z)) hb)
    have hpr2 := s2 _ _ (bl pr _ (ne hpr (fun _ z => nomatch z)) hpr)
    have ht2 := s2 _ _ ht1
    have hd2 : H2 pd = some (.frz od (.dK kvs)) := s2 _ _ upd_same
    have hraw2 : All2 (RwV H2) us raw := hraw.imp fun u r ⟨b', e, h⟩ => ⟨b', e, s2 _ _ (bl b' _ (ne h (fun _ z => nomatch z)) h)⟩
    have hvnm := hz.2.2.2
    refine ⟨rfl, fun _ _ _ _ _ => ?_⟩
    refine w_tup (wa_cons ?_)
    tbr_iter "var"
    refine wa_cons (w_cmeth T.cr_Table T.cm_Table_of (ok_tab_of T) (hr.mono (by decide)) passL (w_glob (glob_ref T.g_Table) ⟨rfl, ?_⟩))
    tbr_iter "go"
    refine iv_dK (k := .inr nm) (room64 hr) (.inr ⟨od, hd2⟩) hval ?_
    tbr_iter "go"
    refine iv_dK (k := .inr nm) (room64 hr) (.inr ⟨od, hd2⟩) hval ?_
    tbr_iter "go"
    refine ⟨pr, c, us, raw, rfl, hc, SqT.of hpr2, Nat.lt_of_le_of_lt hul (by decide), hraw2, fun r hr => ⟨(hrr r hr).1, fun z hz => hvnm z ((hrr r hr).2 z hz)⟩, fun a H3 s3 n3 ht3 => wa_nil ⟨show 2 ≤ sizeLine by decide, fun bt H4 s4 n4 h4 => ?_⟩⟩
    refine ⟨s3.trans s4, bt, a, nm, c, raw, en, rfl, fun z => ?_, h4, ht3.same s4, ?_, hc, hrr⟩
    · rw [z, s3 _ _ hacc] at n4
      cases n4
    · rw [← hraw.len]
      exact hul
  have s12 := lock_same h3 s2
  have nDd : D ≠ pd := fun z => by rw [z, upd_same] at n2; cases n2
  have hD4 : (upd H2 pd (.dK kvs)) D = some (.lst ys) := (upd_ne nDd).trans hD
  have hfz : H2 pd = some (.frz od (.dK kvs)) := s2 _ _ upd_same
  have hR4 : ∀ (i : Nat) y, ys[i]? = some y → MdR K zs (sh.map (·.1)) D i y (upd H2 pd (.dK kvs)) := fun i y e => by
    obtain ⟨b, a, nm, c, raw, e1, e2, e3, e4, e5, e6⟩ := hR i y e
    exact ⟨b, a, nm, c, raw, e1, e2, e3, (upd_ne (fun z => by rw [z, hfz] at e4; cases e4)).trans e4, e5.btG hfz (fun _ _ _ z => nomatch z) (fun _ z => nomatch z) (fun _ z => nomatch z) (Bt.refl _ _).upd, e6⟩
  generalize upd H2 pd (.dK kvs) = H4 at s12 hD4 hR4 ⊢
  have hnm : ∀ n ∈ sh.map (·.1), isNameS n = true := fun n h => by
    obtain ⟨s1, h1, rfl⟩ := List.mem_map.mp h
    exact (hsh.2.2.2 s1 h1).1
  have ht4 := s12 _ _ h1
  have hv4 := s12 _ _ h2
  obtain ⟨ps, kvs2, rfl, hps, hk2, hf2⟩ := md_pairs (by rw [List.length_map, hyl, hlen]) hR4 hnm
  have kvnd2 : (kvs2.map (·.1)).Nodup := by rw [hk2, ← h4]; exact kvnd
  refine wb_cons (ws_ret (w_cmeth T.cr_Database T.cm_Database_of (ok_db_of T) hr passL (w_glob (glob_ref T.g_Database) ⟨rfl, ?_⟩)))
  tbr_iter "go"
  refine kv_dictP rfl (SqL.of hD4) hps fun q H5 s5 n5 h5 => ?_
  rw [putsL_id kvnd2] at h5
  have kl2 : kvs2.length ≤ 4 := by
    have := congrArg List.length hk2
    rw [List.length_map, List.length_map, List.length_map] at this
    have := hsh.1
    omega
  refine wa_nil ⟨q, pv, zs, kvs2, rfl, h5, kl2, kvnd2, SqT.of (s5 _ _ hv4), hz, hf2.same s5, fun x H6 ns s6 n6 db pm pw => ?_⟩
  rw [hk2] at pm
  have e := names_eq pm pw hsh.2.2.1
  subst e
  exact k x H6 (s12.trans (s5.trans s6)) db
end
end Ax
end
section
set_option maxHeartbeats 4000000
open PySem PySem.Spec PyProof.Rows L2 Ax
set_option hygiene false in
local macro_rules | `(tactic| tbr_iter "boot") => `(tactic| with_reducible first | exact Ax.b_len | exact Ax.b_all | exact Ax.b_any | exact Ax.b_sorted | exact Ax.b_isinstance | exact Ax.b_abs | exact Ax.b_max | exact Ax.b_min | exact Ax.b_sum | exact Ax.b_repr | exact Ax.b_iter | exact Ax.b_ord | exact Ax.b_chr | exact Ax.b_str | exact Ax.b_int | exact Ax.b_bool | exact Ax.b_tuple | exact Ax.b_list | exact Ax.b_dict | exact Ax.b_set | exact Ax.b_range | exact Ax.b_enumerate | exact Ax.b_zip)
set_option hygiene false in
local macro_rules | `(tactic| tbr_iter "vis") => `(tactic| first | exact Or.inl rfl | exact Or.inr (Or.inl rfl) | exact Or.inr (Or.inr rfl))
set_option hygiene false in
local macro_rules | `(tactic| tbr_iter "w") => `(tactic| first
  | refine wb_cons ?_
  | refine wb_nil ?_
  | refine ws_ret ?_
  | refine ws_if ?_
  | refine ws_sub ?_
  | refine wa_cons ?_
  | refine wa_nil ?_
  | refine w_int ?_
  | refine w_str ?_
  | refine w_bl ?_
  | refine w_non ?_
  | tbr_iter "var"
  | refine w_bin ?_
  | refine w_cmp ?_
  | refine w_chain ?_
  | refine w_and ?_
  | refine w_or ?_
  | refine w_one ?_
  | refine w_not ?_
  | refine w_ix ?_
  | refine w_ifExp ?_
  | refine w_tup ?_
  | refine w_lst ?_
  | refine wt_not ?_
  | refine wt_bool ?_
  | refine ww_and ?_
  | refine ww_and1 ?_
  | refine ww_or ?_
  | refine ww_or1 ?_
  | refine wt_cmp ?_
  | refine wt_val ?_
  | tbr_iter "call"
  | (refine w_glob (by tbr_iter "mg") ?_)
  | (refine w_callB (by tbr_iter "z") ?_)
  | (refine w_callTy (by tbr_iter "z") ?_)
  | (refine w_bltT (by tbr_iter "z") ?_))
set_option hygiene false in
local macro_rules | `(tactic| tbr_iter "blk") => `(tactic| first | exact blkOk_by (by dsimp only [cxOf, envOfC]; decide +kernel))
set_option hygiene false in
local macro_rules | `(tactic| tbr_iter "iff") => `(tactic| first
  | refine iteT ?_
  | refine iteF ?_
  | refine w_if2 (fun _ => ?_) (fun _ => ?_))
set_option hygiene false in
local macro_rules | `(tactic| tbr_iter "sc") => `(tactic| first | omega | decide)
set_option hygiene false in
local macro_rules | `(tactic| tbr_iter "at") => `(tactic| first | exact atI_0 | exact atI_1 | exact atI_2)
set_option hygiene false in
local macro_rules | `(tactic| tbr_iter "sql") => `(tactic| ((try dsimp only [L2.cxOf, L2.Cx.blk]); with_reducible first | assumption | exact SqL.of (by assumption)))
set_option hygiene false in
local macro_rules | `(tactic| tbr_iter "sqt") => `(tactic| ((try dsimp only [L2.cxOf, L2.Cx.blk]); with_reducible first | assumption | exact SqT.of (by assumption)))
set_option hygiene false in
local macro_rules | `(tactic| tbr_iter "v") => `(tactic| first
  | refine bv_add ?_
  | refine bv_sub ?_
  | ((with_reducible show BinV _ .Mult _ _ _ _); refine bv_mul (Or.inl ⟨by tbr_iter "sc", by tbr_iter "sc"⟩) ?_)
  | ((with_reducible show BinV _ .Mult _ _ _ _); refine bv_mul (Or.inr ⟨by tbr_iter "sc", by tbr_iter "sc"⟩) ?_)
  | ((with_reducible show BinV _ .Mod _ _ _ _); refine bv_mod (by tbr_iter "sc") ?_)
  | ((with_reducible show BinV _ .FloorDiv _ _ _ _); refine bv_fdiv ⟨by tbr_iter "sc", by tbr_iter "sc"⟩ ?_)
  | ((with_reducible show BinV _ .Pow _ _ _ _); refine bv_pow ⟨by decide, by decide +kernel⟩ ?_)
  | refine cv_lt ?_
  | refine cv_le ?_
  | refine cv_gt ?_
  | refine cv_ge ?_
  | ((with_reducible show CmpV _ .Eq _ _ _ _); refine cv_eq rfl ?_)
  | ((with_reducible show CmpV _ .NotEq _ _ _ _); refine cv_ne rfl ?_)
  | refine iv_list (by tbr_iter "sql") (by tbr_iter "at") ?_
  | refine iv_tup (by tbr_iter "sqt") (by tbr_iter "at") ?_
  | refine kv_len_seq (Or.inl (by tbr_iter "sql")) ?_
  | refine kv_len_seq (Or.inr (by tbr_iter "sqt")) ?_
  | refine kv_int ?_
  | refine kv_intB ?_
  | refine kv_abs ?_
  | refine kv_max2 rfl ?_
  | refine kv_min2 rfl ?_)
set_option hygiene false in
local macro_rules | `(tactic| tbr_iter "b") => `(tactic| first
  | refine ⟨_, rfl, iteT ?_⟩
  | refine ⟨_, rfl, iteF ?_⟩
  | refine iteT ?_
  | refine iteF ?_)
set_option hygiene false in
local macro_rules | `(tactic| tbr_iter "go") => `(tactic| repeat (first | tbr_iter "w" | tbr_iter "v" | tbr_iter "b"))
set_option hygiene false in
local macro_rules | `(tactic| tbr_iter "nof") => `(tactic| (intro d hd; cases d <;> first | rfl | exact absurd rfl (hd _)))
set_option hygiene false in
local macro_rules | `(tactic| tbr_iter "e1") => `(tactic| first | ((with_reducible show W _ _ _ _ _); tbr_iter "w") | ((with_reducible show WA _ _ _ _ _); tbr_iter "w") | ((with_reducible show WT _ _ _ _ _); tbr_iter "w") | ((with_reducible show WW _ _ _ _ _); tbr_iter "w") | tbr_iter "v")
set_option hygiene false in
local macro_rules | `(tactic| tbr_iter "ex") => `(tactic| repeat (tbr_iter "e1"))
set_option hygiene false in
local macro_rules | `(tactic| tbr_iter "z") => `(tactic| ((try dsimp only [L2.cxOf]); with_reducible first | exact T.z_IndexError | exact T.z_KeyError | exact T.z_ValueError | exact T.z_abs | exact T.z_all | exact T.z_bool | exact T.z_classmethod | exact T.z_dict | exact T.z_enumerate | exact T.z_int | exact T.z_isinstance | exact T.z_iter | exact T.z_len | exact T.z_list | exact T.z_max | exact T.z_min | exact T.z_property | exact T.z_range | exact T.z_repr | exact T.z_sorted | exact T.z_str | exact T.z_tuple | exact T.z_zip))
set_option hygiene false in
local macro_rules | `(tactic| tbr_iter "mg") => `(tactic| ((try dsimp only [L2.cxOf]); with_reducible first | exact T.c_ALPHABET | exact T.c_MAX_LETTERS | exact T.c_MAX_COLUMNS | exact T.c_MOST_VALUES | exact T.c_MAX_TABLES | exact T.c_IN | exact T.c_OUT | exact T.c_UNLIKE))
namespace Ax
def spLawSigns (K : PySem.W.Frag) : Sp := fun vs H Q _ => ∃ (q : Addr) (k : Nat) (bs : List Addr) (sh : List (Str × Nat)), vs = [.ref q, .str (wrdL.getD k "")] ∧ k < 3 ∧ H q = some (.lst (bs.map V.ref)) ∧ All2 (ShV H) bs sh ∧ sh.length ≤ 4 ∧
  ∀ r us H', Same H H' → H r = none → H' r = some (.lst us) → All2 (RwV H') us (signsR (sh.map (·.1)) k) → Q (.ref r) H'
theorem wrd_not : ∀ k, k < 3 → (decide (V.str (wrdL.getD k "") = V.str "not") = decide (k = 2)) := by decide +kernel
theorem wrd_plain : ∀ k, k < 3 → ((!decide (V.str (wrdL.getD k "") = V.str "plain")) = decide (0 < k)) := by decide +kernel
def spLangs : Sp := fun vs H Q _ => vs = [] ∧ ∀ q H', Same H H' → H q = none → H' q = some (.lst (langL.map V.str)) → Q (.ref q) H'
theorem lang_step : ∀ j, j < 2 → ∀ m, m < 2 → langL.take (6 * j + 3 * m) ++ wrdL.map (fun z => (((dptL.getD j "" ++ (" " : Str)) ++ numL.getD m "") ++ (" " : Str)) ++ z) = langL.take (6 * j + 3 * (m + 1)) := by decide +kernel
theorem rank_deep : ∀ i, i < 12 → (if decide (V.str (dptL.getD (i / 6) "") = V.str "deep") = true then (1 : Int) else 0) = ((i / 6 : Nat) : Int) := by decide +kernel
theorem rank_many : ∀ i, i < 12 → (if decide (V.str (numL.getD (i / 3 % 2) "") = V.str "many") = true then (1 : Int) else 0) = ((i / 3 % 2 : Nat) : Int) := by decide +kernel
theorem strcat_len (a b : Str) : (a ++ b).length = a.length + b.length := by
  show (a.cps ++ b.cps).size = _
  rw [Array.size_append]
  rfl
section
variable {P : Program} {w : World} {K : PySem.W.Frag} {mg : Str → Option Value} {base : Heap}
set_option hygiene false in
local macro_rules | `(tactic| tbr_iter "var") => `(tactic| first | ((with_reducible show W _ (.Name "shape" _) _ _ _); refine w_var 0 rfl (by tbr_iter "vis") rfl ?_) | ((with_reducible show W _ (.Name "word" _) _ _ _); refine w_var 1 rfl (by tbr_iter "vis") rfl ?_) | ((with_reducible show W _ (.Name "found" _) _ _ _); refine w_var 2 rfl (by tbr_iter "vis") rfl ?_) | ((with_reducible show W _ (.Name "name" _) _ _ _); refine w_var 3 rfl (by tbr_iter "vis") rfl ?_) | ((with_reducible show W _ (.Name "columns" _) _ _ _); refine w_var 4 rfl (by tbr_iter "vis") rfl ?_))
set_option hygiene false in
local macro_rules | `(tactic| tbr_iter "set") => `(tactic| first | ((with_reducible show WB _ (.Assign [.Name "shape" _] _ _ :: _) _ _ _); refine wb_cons (ws_set 0 ?_ rfl nd)) | ((with_reducible show WB _ (.Assign [.Name "word" _] _ _ :: _) _ _ _); refine wb_cons (ws_set 1 ?_ rfl nd)) | ((with_reducible show WB _ (.Assign [.Name "found" _] _ _ :: _) _ _ _); refine wb_cons (ws_set 2 ?_ rfl nd)) | ((with_reducible show WB _ (.Assign [.Name "name" _] _ _ :: _) _ _ _); refine wb_cons (ws_set 3 ?_ rfl nd)) | ((with_reducible show WB _ (.Assign [.Name "columns" _] _ _ :: _) _ _ _); refine wb_cons (ws_set 4 ?_ rfl nd)))
theorem ok_law_signs (T : Txt K mg) : Callee P w K mg base "_law_signs" 1 ["shape", "word"] (spLawSigns K) := by
  refine def_ok T.f__law_signs sc__law_signs (fun _ _ _ _ _ _ us hl => match us, hl with | [_, _], _ => rfl) (fun vs H Q E h => ?_) fun f cdv A outer s H vs Q E hr h => ?_
  · obtain ⟨q, k, bs, sh, rfl, _⟩ := h; rfl
  obtain ⟨q, k, bs, sh, rfl, hk, hq, hbs, hl, kk⟩ := h
  have nd := sc__law_signs.nd
  have hbl := hbs.len
  refine ws_setLcI 2 [("name", 3), ("columns", 4)] (gPair K 3 4) tYes (fun _ _ _ _ _ => pg_tup rfl (pgs_cons (pg_name nd rfl (Or.inl rfl) (Or.inr rfl)) (pgs_cons (pg_name nd rfl (Or.inl rfl) (Or.inr rfl)) pgs_nil))) (fun _ _ _ _ _ => pts_nil) rfl nd (by tbr_iter "blk") rfl (lcR_I mono_pair (wi_val ?_)) |> wb_cons
  tbr_iter "go"
  refine itv_list (SqL.of hq) ⟨_, _, itN_seq (seqIt_list (SqL.of hq)), by rw [List.length_map, hbl]; exact Nat.lt_of_le_of_lt hl (by decide), SgR "in" (sh.map (·.1)), fun D i y Ha Hb _ _ h b => h.bt b, fun D i v H2 hi2 s2 nD hacc hv => ?_, fun D ys H2 s2 n2 hD hyl hR => ?_⟩
  · have hv : (bs.map V.ref)[i]? = some v := hv
    rw [List.getElem?_map] at hv
    obtain ⟨b, eb, rfl⟩ := Option.map_eq_some_iff.mp hv
    obtain ⟨s1, es, hb⟩ := hbs.at eb
    have hb2 : H2 b = some (.tup [.str s1.1, .int (s1.2 : Nat)]) := s2 _ _ hb
    obtain ⟨acc, hacc⟩ := hacc
    refine gPair_of (SqT.of hb2) ⟨rfl, fun _ _ _ _ _ => ?_⟩
    tbr_iter "go"
    refine ⟨show 2 ≤ sizeLine by decide, fun b' H3 s3 n3 h3 => ⟨s3, b', s1.1, by rw [List.getElem?_map, es] <;> rfl, rfl, fun z => ?_, h3⟩⟩
    rw [z, hacc] at n3
    cases n3
  have hrows := sgR_rows (by rw [hyl, List.length_map, List.length_map, hbl]) hR
  refine wb_cut (fun σ' H' => ∃ D' x3 x4 ys, σ' = [some (V.ref q), some (.str (wrdL.getD k "")), some (V.ref D'), x3, x4] ∧ Same H H' ∧ H' D' = some (.lst ys) ∧ All2 (RwV H') ys (((sh.map (·.1)).map fun n => [("in" : Str), n]) ++ (if k = 2 then (sh.map (·.1)).map fun n => [("out" : Str), n] else []))) (ws_if (wt_cmp ?_)) ?_
  · tbr_iter "go"
    refine ⟨_, rfl, ?_⟩
    rw [wrd_not k hk]
    refine w_if2 (fun c => ?_) (fun c => ?_)
    · have c : k = 2 := of_decide_eq_true c
      refine wb_cons (ws_set 2 (w_bin ?_) rfl nd)
      tbr_iter "var"
      refine w_lcI [("name", 3), ("columns", 4)] (gPair K 3 4) tYes (fun _ _ _ _ _ => pg_tup rfl (pgs_cons (pg_name nd rfl (Or.inl rfl) (Or.inr rfl)) (pgs_cons (pg_name nd rfl (Or.inl rfl) (Or.inr rfl)) pgs_nil))) (fun _ _ _ _ _ => pts_nil) rfl nd (by tbr_iter "blk") (lcR_I mono_pair (wi_val ?_))
      tbr_iter "go"
      have hq2 := s2 _ _ hq
      refine itv_list (SqL.of hq2) ⟨_, _, itN_seq (seqIt_list (SqL.of hq2)), by rw [List.length_map, hbl]; exact Nat.lt_of_le_of_lt hl (by decide), SgR "out" (sh.map (·.1)), fun D i y Ha Hb _ _ h b => h.bt b, fun D i v H3 hi2 s3 nD hacc hv => ?_, fun D2 zs H3 s3 n3 hD2 hzl hR2 => ?_⟩
      · have hv : (bs.map V.ref)[i]? = some v := hv
        rw [List.getElem?_map] at hv
        obtain ⟨b, eb, rfl⟩ := Option.map_eq_some_iff.mp hv
        obtain ⟨s1, es, hb⟩ := hbs.at eb
        have hb2 : H3 b = some (.tup [.str s1.1, .int (s1.2 : Nat)]) := s3 _ _ (s2 _ _ hb)
        obtain ⟨acc, hacc⟩ := hacc
        refine gPair_of (SqT.of hb2) ⟨rfl, fun _ _ _ _ _ => ?_⟩
        tbr_iter "go"
        refine ⟨show 2 ≤ sizeLine by decide, fun b' H4 s4 n4 h4 => ⟨s4, b', s1.1, by rw [List.getElem?_map, es] <;> rfl, rfl, fun z => ?_, h4⟩⟩
        rw [z, hacc] at n4
        cases n4
      have hrows2 := sgR_rows (by rw [hzl, List.length_map, List.length_map, hbl]) hR2
      rw [List.length_map] at hyl hzl
      refine bv_cat (s3 _ _ hD) hD2 (by rw [hyl, hzl, hbl]; exact Nat.le_trans (Nat.add_le_add hl hl) (by decide)) fun r H4 s4 n4 h4 => wb_nil ⟨r, _, _, _, rfl, s2.trans (s3.trans s4), h4, ?_⟩
      rw [if_pos c]
      exact (rows_sl hrows (Sl.of (s3.trans s4))).app (rows_sl hrows2 (Sl.of s4))
    · have c : k ≠ 2 := of_decide_eq_false c
      refine wb_nil ⟨D, _, _, ys, rfl, s2, hD, ?_⟩
      rw [if_neg c, List.append_nil]
      exact hrows
  rintro σ' H5 ⟨D', x3, x4, ys5, rfl, s05, hD5, hr5⟩
  have hlen5 : ys5.length ≤ 8 := by
    have e1 := hr5.len
    rw [List.length_append, List.length_map, List.length_map] at e1
    split at e1
    · rw [List.length_map, List.length_map] at e1
      omega
    · simp at e1
      omega
  refine wb_cons (ws_ret (w_bin ?_))
  tbr_iter "go"
  refine ⟨one_line, fun pt H6 s6 n6 h6 => wa_nil ⟨one_line, fun pu H7 s7 n7 h7 => ?_⟩⟩
  tbr_iter "go"
  refine bv_rep h7 ?_ ?_ ?_ fun pr H8 s8 n8 h8 => ?_
  · split <;> decide
  · split <;> decide
  · split
    · exact one_line
    · exact zero_line
  refine bv_cat ((s6.trans (s7.trans s8)) _ _ hD5) h8 ?_ fun r H9 s9 n9 h9 => ?_
  · refine Nat.le_trans (m := 100) ?_ (by decide)
    rw [wrd_plain k hk]
    split <;> simp <;> omega
  · have s59 := s6.trans (s7.trans (s8.trans s9))
    refine kk r _ H9 (s05.trans s59) (same_nul (s05.trans (s6.trans (s7.trans s8))) n9) h9 ?_
    unfold signsR
    refine (rows_sl hr5 (Sl.of s59)).app ?_
    rw [wrd_plain k hk]
    by_cases c : 0 < k
    · rw [if_pos c, decide_eq_true c]
      exact .one ⟨pt, rfl, (s7.trans (s8.trans s9)) _ _ h6⟩
    · rw [if_neg c, decide_eq_false c]
      exact .nil
set_option hygiene false in
local macro_rules | `(tactic| tbr_iter "var") => `(tactic| first | ((with_reducible show W _ (.Name "found" _) _ _ _); refine w_var 0 rfl (by tbr_iter "vis") rfl ?_) | ((with_reducible show W _ (.Name "depth" _) _ _ _); refine w_var 1 rfl (by tbr_iter "vis") rfl ?_) | ((with_reducible show W _ (.Name "number" _) _ _ _); refine w_var 2 rfl (by tbr_iter "vis") rfl ?_) | ((with_reducible show W _ (.Name "word" _) _ _ _); refine w_var 3 rfl (by tbr_iter "vis") rfl ?_))
set_option hygiene false in
local macro_rules | `(tactic| tbr_iter "set") => `(tactic| first | ((with_reducible show WB _ (.Assign [.Name "found" _] _ _ :: _) _ _ _); refine wb_cons (ws_set 0 ?_ rfl nd)) | ((with_reducible show WB _ (.Assign [.Name "depth" _] _ _ :: _) _ _ _); refine wb_cons (ws_set 1 ?_ rfl nd)) | ((with_reducible show WB _ (.Assign [.Name "number" _] _ _ :: _) _ _ _); refine wb_cons (ws_set 2 ?_ rfl nd)) | ((with_reducible show WB _ (.Assign [.Name "word" _] _ _ :: _) _ _ _); refine wb_cons (ws_set 3 ?_ rfl nd)))
theorem ok_law_languages (T : Txt K mg) : Callee P w K mg base "_law_languages" 1 [] spLangs := by
  refine def_ok T.f__law_languages sc__law_languages (fun _ _ _ _ _ _ us hl => match us, hl with | [], _ => rfl) (fun vs H Q E h => ?_) fun f cdv A outer s H vs Q E hr h => ?_
  · obtain ⟨rfl, _⟩ := h; rfl
  obtain ⟨rfl, k⟩ := h
  have nd := sc__law_languages.nd
  refine wb_cons (ws_set 0 (w_lst (wa_nil ⟨zero_line, fun qd H1 s1 n1 h1 => ?_⟩)) rfl nd)
  refine wb_cons (ws_for 1 (wi_val ?_) rfl nd (passes_of rfl))
  tbr_iter "go"
  refine ⟨two_line, fun t1 H2 s2 n2 h2 => itv_tup (SqT.of h2) ⟨2, _, _, walk_tup (K := K) (xs := [V.str "flat", V.str "deep"]), fun j σ Hc => ∃ c1 c2 c3, σ = [some (.ref qd), c1, c2, c3] ∧ Same H Hc ∧ Hc t1 = some (.tup [V.str "flat", V.str "deep"]) ∧ Hc qd = some (.lst ((langL.take (6 * j)).map V.str)), ?_, fun _ _ _ _ ⟨_, _, _, _, _, h, _⟩ => SqT.of h, ?_, ?_⟩⟩
  · exact ⟨none, none, none, rfl, s1.trans s2, h2, s2 _ _ h1⟩
  · rintro j v σ Hx Hc hj ⟨c1, c2, c3, rfl, sm, ht1, hqd⟩ ⟨e, hv⟩
    subst e
    have ev : v = .str (dptL.getD j "") := by
      rcases (show j = 0 ∨ j = 1 by omega) with rfl | rfl
      · exact (Option.some.inj hv).symm
      · exact (Option.some.inj hv).symm
    subst ev
    refine wb_cons (ws_for 2 (wi_val ?_) rfl nd (passes_of rfl))
    tbr_iter "go"
    have fq : ∀ {Hd : Hp}, H qd = none := fun {_} => n1
    refine ⟨two_line, fun t2 H3 s3 n3 h3 => itv_tup (SqT.of h3) ⟨2, _, _, walk_tup (K := K) (xs := [V.str "one", V.str "many"]), fun m σ Hd => ∃ c2 c3, σ = [some (.ref qd), some (.str (dptL.getD j "")), c2, c3] ∧ Same H Hd ∧ Hd t1 = some (.tup [V.str "flat", V.str "deep"]) ∧ Hd t2 = some (.tup [V.str "one", V.str "many"]) ∧ Hd qd = some (.lst ((langL.take (6 * j + 3 * m)).map V.str)), ?_, fun _ _ _ _ ⟨_, _, _, _, _, h, _⟩ => SqT.of h, ?_, ?_⟩⟩
    · exact ⟨c2, c3, rfl, sm.trans s3, s3 _ _ ht1, h3, s3 _ _ hqd⟩
    · rintro m v σ Hy Hd hm ⟨c2, c3, rfl, smd, ht1d, ht2d, hqd2⟩ ⟨e, hv⟩
      subst e
      have ev : v = .str (numL.getD m "") := by
        rcases (show m = 0 ∨ m = 1 by omega) with rfl | rfl
        · exact (Option.some.inj hv).symm
        · exact (Option.some.inj hv).symm
      subst ev
      have dl : (dptL.getD j "").length ≤ 10 := (by decide +kernel : ∀ j, j < 2 → (dptL.getD j "").length ≤ 10) j hj
      have nl : (numL.getD m "").length ≤ 10 := (by decide +kernel : ∀ j, j < 2 → (numL.getD j "").length ≤ 10) m hm
      have sp1 : (" " : Str).length = 1 := by decide
      refine wb_cons (ws_expr (w_bm1 PySem.F.plainAttrs_list PySem.F.slot_list_extend PySem.F.type_list_extend ?_))
      tbr_iter "go"
      refine ⟨tyV_list ⟨qd, _, rfl, SqL.of hqd2⟩, ?_⟩
      refine w_lcI [("word", 3)] (gName 3) tYes (fun _ _ _ _ _ => pg_name nd rfl (Or.inl rfl) (Or.inr rfl)) (fun _ _ _ _ _ => pts_nil) rfl nd (by tbr_iter "blk") (lcC_I mono_name mono_yes (wi_val ?_))
      tbr_iter "go"
      refine ⟨show 3 ≤ sizeLine by decide, fun t3 H4 s4 n4 h4 => itv_tup (SqT.of h4) ⟨3, _, itN_seq (seqIt_tup (xs := wrdL.map V.str) (SqT.of h4)), by decide, fun i => some (.str ((((dptL.getD j "" ++ (" " : Str)) ++ numL.getD m "") ++ (" " : Str)) ++ wrdL.getD i "")), fun i x H5 hi s5 hx => ?_, fun q H5 s5 n5 h5 => ?_⟩⟩
      · have ex : x = .str (wrdL.getD i "") := by
          have hx : (wrdL.map V.str)[i]? = some x := hx
          rcases (show i = 0 ∨ i = 1 ∨ i = 2 by omega) with rfl | rfl | rfl
          · exact (Option.some.inj hx).symm
          · exact (Option.some.inj hx).symm
          · exact (Option.some.inj hx).symm
        subst ex
        have wl : (wrdL.getD i "").length ≤ 10 := (by decide +kernel : ∀ j, j < 3 → (wrdL.getD j "").length ≤ 10) i hi
        refine ⟨rfl, Same.refl _, fun _ _ _ _ _ => ?_⟩
        have big : ∀ n : Nat, n ≤ 100 → n ≤ sizeLine := fun n h => Nat.le_trans h (by decide)
        tbr_iter "go"
        refine bv_catS (big _ (by omega)) ?_
        tbr_iter "go"
        refine bv_catS (big _ (by rw [strcat_len]; omega)) ?_
        tbr_iter "go"
        refine bv_catS (big _ (by rw [strcat_len, strcat_len]; omega)) ?_
        tbr_iter "go"
        exact bv_catS (big _ (by rw [strcat_len, strcat_len, strcat_len]; omega)) ⟨Same.refl _, rfl⟩
      · have s45 := s4.trans s5
        have hq5 := s45 _ _ hqd2
        have et : qd ≠ t1 := fun z => by rw [z, ht1d] at hqd2; cases hqd2
        have et2 : qd ≠ t2 := fun z => by rw [z, ht2d] at hqd2; cases hqd2
        have hl1 : ((langL.take (6 * j + 3 * m)).map V.str).length ≤ 12 := by
          rw [List.length_map, List.length_take]
          exact Nat.min_le_right _ _
        refine mv_extend hq5 h5 (Nat.le_trans (Nat.add_le_add hl1 (show _ ≤ 3 from Nat.le_refl 3)) (by decide)) (wb_nil ⟨_, _, rfl, same_upd (smd.trans s45) n1, (upd_ne et.symm).trans (s45 _ _ ht1d), (upd_ne et2.symm).trans (s45 _ _ ht2d), ?_⟩)
        rw [upd_same, ← lang_step j hj m hm, List.map_append]
        rfl
    · rintro σ Hd ⟨c2, c3, rfl, smd, ht1d, ht2d, hqd2⟩
      exact wb_nil ⟨_, _, _, rfl, smd, ht1d, hqd2⟩
  · rintro σ Hc ⟨c1, c2, c3, rfl, sm, ht1, hqd⟩
    tbr_iter "go"
    exact k qd Hc sm n1 hqd
end
end Ax
end
section
set_option maxHeartbeats 4000000
open PySem PySem.Spec PyProof.Rows L2 Ax
set_option hygiene false in
local macro_rules | `(tactic| tbr_iter "boot") => `(tactic| with_reducible first | exact Ax.b_len | exact Ax.b_all | exact Ax.b_any | exact Ax.b_sorted | exact Ax.b_isinstance | exact Ax.b_abs | exact Ax.b_max | exact Ax.b_min | exact Ax.b_sum | exact Ax.b_repr | exact Ax.b_iter | exact Ax.b_ord | exact Ax.b_chr | exact Ax.b_str | exact Ax.b_int | exact Ax.b_bool | exact Ax.b_tuple | exact Ax.b_list | exact Ax.b_dict | exact Ax.b_set | exact Ax.b_range | exact Ax.b_enumerate | exact Ax.b_zip)
set_option hygiene false in
local macro_rules | `(tactic| tbr_iter "vis") => `(tactic| first | exact Or.inl rfl | exact Or.inr (Or.inl rfl) | exact Or.inr (Or.inr rfl))
set_option hygiene false in
local macro_rules | `(tactic| tbr_iter "w") => `(tactic| first
  | refine wb_cons ?_
  | refine wb_nil ?_
  | refine ws_ret ?_
  | refine ws_if ?_
  | refine ws_sub ?_
  | refine wa_cons ?_
  | refine wa_nil ?_
  | refine w_int ?_
  | refine w_str ?_
  | refine w_bl ?_
  | refine w_non ?_
  | tbr_iter "var"
  | refine w_bin ?_
  | refine w_cmp ?_
  | refine w_chain ?_
  | refine w_and ?_
  | refine w_or ?_
  | refine w_one ?_
  | refine w_not ?_
  | refine w_ix ?_
  | refine w_ifExp ?_
  | refine w_tup ?_
  | refine w_lst ?_
  | refine wt_not ?_
  | refine wt_bool ?_
  | refine ww_and ?_
  | refine ww_and1 ?_
  | refine ww_or ?_
  | refine ww_or1 ?_
  | refine wt_cmp ?_
  | refine wt_val ?_
  | tbr_iter "call"
  | (refine w_glob (by tbr_iter "mg") ?_)
  | (refine w_callB (by tbr_iter "z") ?_)
  | (refine w_callTy (by tbr_iter "z") ?_)
  | (refine w_bltT (by tbr_iter "z") ?_))
set_option hygiene false in
local macro_rules | `(tactic| tbr_iter "blk") => `(tactic| first | exact blkOk_by (by dsimp only [cxOf, envOfC]; decide +kernel))
set_option hygiene false in
local macro_rules | `(tactic| tbr_iter "iff") => `(tactic| first
  | refine iteT ?_
  | refine iteF ?_
  | refine w_if2 (fun _ => ?_) (fun _ => ?_))
set_option hygiene false in
local macro_rules | `(tactic| tbr_iter "sc") => `(tactic| first | omega | decide)
set_option hygiene false in
local macro_rules | `(tactic| tbr_iter "at") => `(tactic| first | exact atI_0 | exact atI_1 | exact atI_2)
set_option hygiene false in
local macro_rules | `(tactic| tbr_iter "sql") => `(tactic| ((try dsimp only [L2.cxOf, L2.Cx.blk]); with_reducible first | assumption | exact SqL.of (by assumption)))
set_option hygiene false in
local macro_rules | `(tactic| tbr_iter "sqt") => `(tactic| ((try dsimp only [L2.cxOf, L2.Cx.blk]); with_reducible first | assumption | exact SqT.of (by assumption)))
set_option hygiene false in
local macro_rules | `(tactic| tbr_iter "v") => `(tactic| first
  | refine bv_add ?_
  | refine bv_sub ?_
  | ((with_reducible show BinV _ .Mult _ _ _ _); refine bv_mul (Or.inl ⟨by tbr_iter "sc", by tbr_iter "sc"⟩) ?_)
  | ((with_reducible show BinV _ .Mult _ _ _ _); refine bv_mul (Or.inr ⟨by tbr_iter "sc", by tbr_iter "sc"⟩) ?_)
  | ((with_reducible show BinV _ .Mod _ _ _ _); refine bv_mod (by tbr_iter "sc") ?_)
  | ((with_reducible show BinV _ .FloorDiv _ _ _ _); refine bv_fdiv ⟨by tbr_iter "sc", by tbr_iter "sc"⟩ ?_)
  | ((with_reducible show BinV _ .Pow _ _ _ _); refine bv_pow ⟨by decide, by decide +kernel⟩ ?_)
  | refine cv_lt ?_
  | refine cv_le ?_
  | refine cv_gt ?_
  | refine cv_ge ?_
  | ((with_reducible show CmpV _ .Eq _ _ _ _); refine cv_eq rfl ?_)
  | ((with_reducible show CmpV _ .NotEq _ _ _ _); refine cv_ne rfl ?_)
  | refine iv_list (by tbr_iter "sql") (by tbr_iter "at") ?_
  | refine iv_tup (by tbr_iter "sqt") (by tbr_iter "at") ?_
  | refine kv_len_seq (Or.inl (by tbr_iter "sql")) ?_
  | refine kv_len_seq (Or.inr (by tbr_iter "sqt")) ?_
  | refine kv_int ?_
  | refine kv_intB ?_
  | refine kv_abs ?_
  | refine kv_max2 rfl ?_
  | refine kv_min2 rfl ?_)
set_option hygiene false in
local macro_rules | `(tactic| tbr_iter "b") => `(tactic| first
  | refine ⟨_, rfl, iteT ?_⟩
  | refine ⟨_, rfl, iteF ?_⟩
  | refine iteT ?_
  | refine iteF ?_)
set_option hygiene false in
local macro_rules | `(tactic| tbr_iter "go") => `(tactic| repeat (first | tbr_iter "w" | tbr_iter "v" | tbr_iter "b"))
set_option hygiene false in
local macro_rules | `(tactic| tbr_iter "nof") => `(tactic| (intro d hd; cases d <;> first | rfl | exact absurd rfl (hd _)))
set_option hygiene false in
local macro_rules | `(tactic| tbr_iter "e1") => `(tactic| first | ((with_reducible show W _ _ _ _ _); tbr_iter "w") | ((with_reducible show WA _ _ _ _ _); tbr_iter "w") | ((with_reducible show WT _ _ _ _ _); tbr_iter "w") | ((with_reducible show WW _ _ _ _ _); tbr_iter "w") | tbr_iter "v")
set_option hygiene false in
local macro_rules | `(tactic| tbr_iter "ex") => `(tactic| repeat (tbr_iter "e1"))
set_option hygiene false in
local macro_rules | `(tactic| tbr_iter "z") => `(tactic| ((try dsimp only [L2.cxOf]); with_reducible first | exact T.z_IndexError | exact T.z_KeyError | exact T.z_ValueError | exact T.z_abs | exact T.z_all | exact T.z_bool | exact T.z_classmethod | exact T.z_dict | exact T.z_enumerate | exact T.z_int | exact T.z_isinstance | exact T.z_iter | exact T.z_len | exact T.z_list | exact T.z_max | exact T.z_min | exact T.z_property | exact T.z_range | exact T.z_repr | exact T.z_sorted | exact T.z_str | exact T.z_tuple | exact T.z_zip))
set_option hygiene false in
local macro_rules | `(tactic| tbr_iter "mg") => `(tactic| ((try dsimp only [L2.cxOf]); with_reducible first | exact T.c_ALPHABET | exact T.c_MAX_LETTERS | exact T.c_MAX_COLUMNS | exact T.c_MOST_VALUES | exact T.c_MAX_TABLES | exact T.c_IN | exact T.c_OUT | exact T.c_UNLIKE))
namespace Ax
theorem below_nil : ∀ i, i < 12 → ∀ j, j < 12 → ((List.range 3).filterMap fun n => if rk j n < rk i n then some (V.int 1) else none).isEmpty = below i j := by decide +kernel
def aboveL (i j : Nat) : List Nat := (List.range 12).filter fun k => below i k && below j k
def leastL (i j : Nat) : List Nat := (aboveL i j).filter fun k => (aboveL i j).all fun m => below k m
theorem least_is : ∀ i, i < 12 → ∀ j, j < 12 → leastL i j = [join2 i j] := by decide +kernel
theorem above_lt {i j k : Nat} (h : k ∈ aboveL i j) : k < 12 := List.mem_range.mp (List.mem_filter.mp h).1
theorem langs_at : ∀ i, i < 12 → (langL.map V.str)[i]? = some (.str (lang i)) := by
  intro i hi
  rw [langL_is, List.map_map, List.getElem?_map, List.getElem?_range hi]
  rfl
section
variable {P : Program} {w : World} {K : PySem.W.Frag} {mg : Str → Option Value} {base : Heap}
set_option hygiene false in
local macro_rules | `(tactic| tbr_iter "var") => `(tactic| first | ((with_reducible show W _ (.Name "language" _) _ _ _); refine w_var 0 rfl (by tbr_iter "vis") rfl ?_) | ((with_reducible show W _ (.Name "depth" _) _ _ _); refine w_var 1 rfl (by tbr_iter "vis") rfl ?_) | ((with_reducible show W _ (.Name "number" _) _ _ _); refine w_var 2 rfl (by tbr_iter "vis") rfl ?_) | ((with_reducible show W _ (.Name "word" _) _ _ _); refine w_var 3 rfl (by tbr_iter "vis") rfl ?_))
set_option hygiene false in
local macro_rules | `(tactic| tbr_iter "set") => `(tactic| first | ((with_reducible show WB _ (.Assign [.Name "language" _] _ _ :: _) _ _ _); refine wb_cons (ws_set 0 ?_ rfl nd)) | ((with_reducible show WB _ (.Assign [.Name "depth" _] _ _ :: _) _ _ _); refine wb_cons (ws_set 1 ?_ rfl nd)) | ((with_reducible show WB _ (.Assign [.Name "number" _] _ _ :: _) _ _ _); refine wb_cons (ws_set 2 ?_ rfl nd)) | ((with_reducible show WB _ (.Assign [.Name "word" _] _ _ :: _) _ _ _); refine wb_cons (ws_set 3 ?_ rfl nd)))
theorem ok_law_ranks (T : Txt K mg) : Callee P w K mg base "_law_ranks" 1 ["language"] spRanks := by
  refine def_ok T.f__law_ranks sc__law_ranks (fun _ _ _ _ _ _ us hl => match us, hl with | [_], _ => rfl) (fun vs H Q E h => ?_) fun f cdv A outer s H vs Q E hr h => ?_
  · obtain ⟨i, _, rfl, _⟩ := h; rfl
  obtain ⟨i, hi, rfl, k⟩ := h
  have nd := sc__law_ranks.nd
  refine wb_cons (ws_lst3 1 2 3 (w_bm1 PySem.F.plainAttrs_str PySem.F.slot_str_split PySem.F.type_str_split ?_) rfl rfl rfl nd)
  tbr_iter "go"
  refine ⟨rfl, ?_⟩
  tbr_iter "go"
  have hl := lang_len i hi
  refine mv_split rfl (Nat.le_trans (Nat.add_le_add_right hl 2) (by decide)) fun p H4 s4 n4 e4 => ?_
  rw [lang_split i hi] at e4
  refine ⟨p, _, _, _, rfl, SqL.of e4, ?_⟩
  refine wb_cons (ws_ret (w_lst (wa_cons ?_)))
  tbr_iter "go"
  refine w_bm1 PySem.F.plainAttrs_list PySem.F.slot_list_index PySem.F.type_list_index ?_
  tbr_iter "go"
  refine ⟨show 3 ≤ sizeLine by decide, fun pl H5 s5 n5 h5 => ⟨tyV_list ⟨pl, _, rfl, SqL.of h5⟩, ?_⟩⟩
  tbr_iter "go"
  have i3 := index_at (L := wrdL) (j := i % 3) (by show i % 3 < 3; omega) (by decide +kernel)
  refine ⟨_, mt_index, pl, wrdL.map V.str, _, i % 3, _, rfl, rfl, SqL.of h5, rfl, flat_strs wrdL, by rw [List.getElem?_map, i3.1] <;> rfl, ?_, fun m z' hm hz => ?_, ?_⟩
  · show (wrdL.getD (i % 3) "" == wrdL.getD (i % 3) "") = true
    exact beq_self_eq_true _
  · rw [List.getElem?_map] at hz
    obtain ⟨t, et, rfl⟩ := Option.map_eq_some_iff.mp hz
    have n := i3.2 m hm
    rw [et] at n
    show (t == wrdL.getD (i % 3) "") = false
    exact beq_false_of_ne fun e => n (by rw [e])
  · refine wa_nil ⟨show 3 ≤ sizeLine by decide, fun q H6 s6 n6 h6 => ?_⟩
    rw [rank_deep i hi, rank_many i hi] at h6
    exact k q H6 (s4.trans (s5.trans s6)) (same_nul (s4.trans s5) n6) h6
set_option hygiene false in
local macro_rules | `(tactic| tbr_iter "var") => `(tactic| first | ((with_reducible show W _ (.Name "one" _) _ _ _); refine w_var 0 rfl (by tbr_iter "vis") rfl ?_) | ((with_reducible show W _ (.Name "other" _) _ _ _); refine w_var 1 rfl (by tbr_iter "vis") rfl ?_) | ((with_reducible show W _ (.Name "less" _) _ _ _); refine w_var 2 rfl (by tbr_iter "vis") rfl ?_) | ((with_reducible show W _ (.Name "more" _) _ _ _); refine w_var 3 rfl (by tbr_iter "vis") rfl ?_))
set_option hygiene false in
local macro_rules | `(tactic| tbr_iter "set") => `(tactic| first | ((with_reducible show WB _ (.Assign [.Name "one" _] _ _ :: _) _ _ _); refine wb_cons (ws_set 0 ?_ rfl nd)) | ((with_reducible show WB _ (.Assign [.Name "other" _] _ _ :: _) _ _ _); refine wb_cons (ws_set 1 ?_ rfl nd)) | ((with_reducible show WB _ (.Assign [.Name "less" _] _ _ :: _) _ _ _); refine wb_cons (ws_set 2 ?_ rfl nd)) | ((with_reducible show WB _ (.Assign [.Name "more" _] _ _ :: _) _ _ _); refine wb_cons (ws_set 3 ?_ rfl nd)))
theorem ok_law_is_below (T : Txt K mg) : Callee P w K mg base "_law_is_below" 2 ["one", "other"] spBelow := by
  refine def_ok T.f__law_is_below sc__law_is_below (fun _ _ _ _ _ _ us hl => match us, hl with | [_, _], _ => rfl) (fun vs H Q E h => ?_) fun f cdv A outer s H vs Q E hr h => ?_
  · obtain ⟨i, j, _, _, rfl, _⟩ := h; rfl
  obtain ⟨i, j, hi, hj, rfl, k⟩ := h
  have nd := sc__law_is_below.nd
  have hu : (cxOf (L2.CX P w) P w K mg base n__law_is_below "_law_is_below" (defScope s__law_is_below) f cdv A outer s H E).A.units < cLine := by
    have := room64 hr
    show (A.deeper _).units < cLine
    omega
  refine wb_cons (ws_ret (w_cmp (w_lcI [("less", 2), ("more", 3)] (gPair K 2 3) (tWT _ _ _) (fun _ _ _ _ _ => pg_tup rfl (pgs_cons (pg_name nd rfl (Or.inl rfl) (Or.inr rfl)) (pgs_cons (pg_name nd rfl (Or.inl rfl) (Or.inr rfl)) pgs_nil))) pts_wt rfl nd (by tbr_iter "blk") (lcC_I mono_pair mono_wt (wi_zip T.z_zip (wa_cons (w_call (ok_law_ranks T) hr passL ?_)))))))
  tbr_iter "go"
  refine ⟨i, hi, rfl, fun p H1 s1 n1 h1 => wa_cons (w_call (ok_law_ranks T) hr passL ?_)⟩
  tbr_iter "go"
  refine ⟨j, hj, rfl, fun q H2 s2 n2 h2 => wa_nil ⟨p, q, ranksV i, ranksV j, rfl, SqL.of (s2 _ _ h1), SqL.of h2, 3, _, itN_zip (SqL.of (s2 _ _ h1)) (SqL.of h2) rfl, by decide, fun n => if rk j n < rk i n then some (V.int 1) else none, fun n x H3 hn s3 hv => ?_, fun D H3 s3 n3 h3 => ?_⟩⟩
  · obtain ⟨t, y1, y2, rfl, e1, e2, hT⟩ := hv
    cases ranksV_rk e1
    cases ranksV_rk e2
    refine gPair_of (SqT.of hT) ⟨rfl, fun _ _ _ _ _ => ?_⟩
    tbr_iter "go"
    refine ⟨_, rfl, Same.refl _, ?_⟩
    by_cases c : rk j n < rk i n
    · rw [if_pos (decide_eq_true (show ((rk j n : Nat) : Int) < (rk i n : Nat) by omega))]
      intro _ _ _ _ _
      tbr_iter "go"
      exact ⟨Same.refl _, if_pos c⟩
    · rw [if_neg (fun e => c (by have := of_decide_eq_true e; omega))]
      exact if_neg c
  · tbr_iter "go"
    refine ⟨zero_line, fun pe H4 s4 n4 h4 => cv_eq_nil hu (SqL.of (s4 _ _ h3)) (SqL.of h4) ?_⟩
    rw [below_nil i hi j hj]
    exact k _ (s1.trans (s2.trans (s3.trans s4)))
end
end Ax
end
section
set_option maxHeartbeats 4000000
open PySem PySem.Spec PyProof.Rows L2 Ax
set_option hygiene false in
local macro_rules | `(tactic| tbr_iter "boot") => `(tactic| with_reducible first | exact Ax.b_len | exact Ax.b_all | exact Ax.b_any | exact Ax.b_sorted | exact Ax.b_isinstance | exact Ax.b_abs | exact Ax.b_max | exact Ax.b_min | exact Ax.b_sum | exact Ax.b_repr | exact Ax.b_iter | exact Ax.b_ord | exact Ax.b_chr | exact Ax.b_str | exact Ax.b_int | exact Ax.b_bool | exact Ax.b_tuple | exact Ax.b_list | exact Ax.b_dict | exact Ax.b_set | exact Ax.b_range | exact Ax.b_enumerate | exact Ax.b_zip)
set_option hygiene false in
local macro_rules | `(tactic| tbr_iter "vis") => `(tactic| first | exact Or.inl rfl | exact Or.inr (Or.inl rfl) | exact Or.inr (Or.inr rfl))
set_option hygiene false in
local macro_rules | `(tactic| tbr_iter "w") => `(tactic| first
  | refine wb_cons ?_
  | refine wb_nil ?_
  | refine ws_ret ?_
  | refine ws_if ?_
  | refine ws_sub ?_
  | refine wa_cons ?_
  | refine wa_nil ?_
  | refine w_int ?_
  | refine w_str ?_
  | refine w_bl ?_
  | refine w_non ?_
  | tbr_iter "var"
  | refine w_bin ?_
  | refine w_cmp ?_
  | refine w_chain ?_
  | refine w_and ?_
  | refine w_or ?_
  | refine w_one ?_
  | refine w_not ?_
  | refine w_ix ?_
  | refine w_ifExp ?_
  | refine w_tup ?_
  | refine w_lst ?_
  | refine wt_not ?_
  | refine wt_bool ?_
  | refine ww_and ?_
  | refine ww_and1 ?_
  | refine ww_or ?_
  | refine ww_or1 ?_
  | refine wt_cmp ?_
  | refine wt_val ?_
  | tbr_iter "call"
  | (refine w_glob (by tbr_iter "mg") ?_)
  | (refine w_callB (by tbr_iter "z") ?_)
  | (refine w_callTy (by tbr_iter "z") ?_)
  | (refine w_bltT (by tbr_iter "z") ?_))
set_option hygiene false in
local macro_rules | `(tactic| tbr_iter "blk") => `(tactic| first | exact blkOk_by (by dsimp only [cxOf, envOfC]; decide +kernel))
set_option hygiene false in
local macro_rules | `(tactic| tbr_iter "iff") => `(tactic| first
  | refine iteT ?_
  | refine iteF ?_
  | refine w_if2 (fun _ => ?_) (fun _ => ?_))
set_option hygiene false in
local macro_rules | `(tactic| tbr_iter "sc") => `(tactic| first | omega | decide)
set_option hygiene false in
local macro_rules | `(tactic| tbr_iter "at") => `(tactic| first | exact atI_0 | exact atI_1 | exact atI_2)
set_option hygiene false in
local macro_rules | `(tactic| tbr_iter "sql") => `(tactic| ((try dsimp only [L2.cxOf, L2.Cx.blk]); with_reducible first | assumption | exact SqL.of (by assumption)))
set_option hygiene false in
local macro_rules | `(tactic| tbr_iter "sqt") => `(tactic| ((try dsimp only [L2.cxOf, L2.Cx.blk]); with_reducible first | assumption | exact SqT.of (by assumption)))
set_option hygiene false in
local macro_rules | `(tactic| tbr_iter "v") => `(tactic| first
  | refine bv_add ?_
  | refine bv_sub ?_
  | ((with_reducible show BinV _ .Mult _ _ _ _); refine bv_mul (Or.inl ⟨by tbr_iter "sc", by tbr_iter "sc"⟩) ?_)
  | ((with_reducible show BinV _ .Mult _ _ _ _); refine bv_mul (Or.inr ⟨by tbr_iter "sc", by tbr_iter "sc"⟩) ?_)
  | ((with_reducible show BinV _ .Mod _ _ _ _); refine bv_mod (by tbr_iter "sc") ?_)
  | ((with_reducible show BinV _ .FloorDiv _ _ _ _); refine bv_fdiv ⟨by tbr_iter "sc", by tbr_iter "sc"⟩ ?_)
  | ((with_reducible show BinV _ .Pow _ _ _ _); refine bv_pow ⟨by decide, by decide +kernel⟩ ?_)
  | refine cv_lt ?_
  | refine cv_le ?_
  | refine cv_gt ?_
  | refine cv_ge ?_
  | ((with_reducible show CmpV _ .Eq _ _ _ _); refine cv_eq rfl ?_)
  | ((with_reducible show CmpV _ .NotEq _ _ _ _); refine cv_ne rfl ?_)
  | refine iv_list (by tbr_iter "sql") (by tbr_iter "at") ?_
  | refine iv_tup (by tbr_iter "sqt") (by tbr_iter "at") ?_
  | refine kv_len_seq (Or.inl (by tbr_iter "sql")) ?_
  | refine kv_len_seq (Or.inr (by tbr_iter "sqt")) ?_
  | refine kv_int ?_
  | refine kv_intB ?_
  | refine kv_abs ?_
  | refine kv_max2 rfl ?_
  | refine kv_min2 rfl ?_)
set_option hygiene false in
local macro_rules | `(tactic| tbr_iter "b") => `(tactic| first
  | refine ⟨_, rfl, iteT ?_⟩
  | refine ⟨_, rfl, iteF ?_⟩
  | refine iteT ?_
  | refine iteF ?_)
set_option hygiene false in
local macro_rules | `(tactic| tbr_iter "go") => `(tactic| repeat (first | tbr_iter "w" | tbr_iter "v" | tbr_iter "b"))
set_option hygiene false in
local macro_rules | `(tactic| tbr_iter "nof") => `(tactic| (intro d hd; cases d <;> first | rfl | exact absurd rfl (hd _)))
set_option hygiene false in
local macro_rules | `(tactic| tbr_iter "e1") => `(tactic| first | ((with_reducible show W _ _ _ _ _); tbr_iter "w") | ((with_reducible show WA _ _ _ _ _); tbr_iter "w") | ((with_reducible show WT _ _ _ _ _); tbr_iter "w") | ((with_reducible show WW _ _ _ _ _); tbr_iter "w") | tbr_iter "v")
set_option hygiene false in
local macro_rules | `(tactic| tbr_iter "ex") => `(tactic| repeat (tbr_iter "e1"))
set_option hygiene false in
local macro_rules | `(tactic| tbr_iter "z") => `(tactic| ((try dsimp only [L2.cxOf]); with_reducible first | exact T.z_IndexError | exact T.z_KeyError | exact T.z_ValueError | exact T.z_abs | exact T.z_all | exact T.z_bool | exact T.z_classmethod | exact T.z_dict | exact T.z_enumerate | exact T.z_int | exact T.z_isinstance | exact T.z_iter | exact T.z_len | exact T.z_list | exact T.z_max | exact T.z_min | exact T.z_property | exact T.z_range | exact T.z_repr | exact T.z_sorted | exact T.z_str | exact T.z_tuple | exact T.z_zip))
set_option hygiene false in
local macro_rules | `(tactic| tbr_iter "mg") => `(tactic| ((try dsimp only [L2.cxOf]); with_reducible first | exact T.c_ALPHABET | exact T.c_MAX_LETTERS | exact T.c_MAX_COLUMNS | exact T.c_MOST_VALUES | exact T.c_MAX_TABLES | exact T.c_IN | exact T.c_OUT | exact T.c_UNLIKE))
namespace Ax
theorem fm_filter {α : Type} (xs : List α) (c : α → Bool) (f : α → V) : xs.filterMap (fun x => if c x = true then some (f x) else none) = (xs.filter c).map f := by
  induction xs with
  | nil => rfl
  | cons x xs ih =>
    rw [List.filterMap_cons]
    by_cases h : c x = true
    · rw [if_pos h, List.filter_cons_of_pos h, List.map_cons, ih]
    · rw [if_neg h, List.filter_cons_of_neg h, ih]
/-- by places of a list, the list's own items -/
theorem fm_places {α : Type} (f : α → Option V) : ∀ xs : List α, (List.range xs.length).filterMap (fun n => xs[n]?.bind f) = xs.filterMap f := by
  intro xs
  have key : ∀ k, k ≤ xs.length → (List.range k).filterMap (fun n => xs[n]?.bind f) = (xs.take k).filterMap f := by
    intro k
    induction k with
    | zero => intro _; simp
    | succ k ih =>
      intro h
      have e : xs[k]? = some xs[k] := List.getElem?_eq_getElem (by omega)
      rw [List.range_succ, List.filterMap_append, ih (by omega), List.take_add_one, e, List.filterMap_append]
      congr 1
      simp only [List.filterMap_cons, List.filterMap_nil, e, Option.bind_some, Option.toList]
  have e := key xs.length (Nat.le_refl _)
  rw [List.take_length] at e
  exact e
def spTrue : Sp := fun vs H Q _ => vs = [] ∧ ∀ H', Same H H' → Q (.bl true) H'
section
variable {P : Program} {w : World} {K : PySem.W.Frag} {mg : Str → Option Value} {base : Heap}
set_option hygiene false in
local macro_rules | `(tactic| tbr_iter "var") => `(tactic| first | ((with_reducible show W _ (.Name "words" _) _ _ _); refine w_var 0 rfl (by tbr_iter "vis") rfl ?_) | ((with_reducible show W _ (.Name "one" _) _ _ _); refine w_var 1 rfl (by tbr_iter "vis") rfl ?_) | ((with_reducible show W _ (.Name "other" _) _ _ _); refine w_var 2 rfl (by tbr_iter "vis") rfl ?_) | ((with_reducible show W _ (.Name "above" _) _ _ _); refine w_var 3 rfl (by tbr_iter "vis") rfl ?_) | ((with_reducible show W _ (.Name "least" _) _ _ _); refine w_var 4 rfl (by tbr_iter "vis") rfl ?_) | ((with_reducible show W _ (.Name "word" _) _ _ _); refine w_var 5 rfl (by tbr_iter "vis") rfl ?_) | ((with_reducible show W _ (.Name "more" _) _ _ _); refine w_var 6 rfl (by tbr_iter "vis") rfl ?_))
set_option hygiene false in
local macro_rules | `(tactic| tbr_iter "set") => `(tactic| first | ((with_reducible show WB _ (.Assign [.Name "words" _] _ _ :: _) _ _ _); refine wb_cons (ws_set 0 ?_ rfl nd)) | ((with_reducible show WB _ (.Assign [.Name "one" _] _ _ :: _) _ _ _); refine wb_cons (ws_set 1 ?_ rfl nd)) | ((with_reducible show WB _ (.Assign [.Name "other" _] _ _ :: _) _ _ _); refine wb_cons (ws_set 2 ?_ rfl nd)) | ((with_reducible show WB _ (.Assign [.Name "above" _] _ _ :: _) _ _ _); refine wb_cons (ws_set 3 ?_ rfl nd)) | ((with_reducible show WB _ (.Assign [.Name "least" _] _ _ :: _) _ _ _); refine wb_cons (ws_set 4 ?_ rfl nd)) | ((with_reducible show WB _ (.Assign [.Name "word" _] _ _ :: _) _ _ _); refine wb_cons (ws_set 5 ?_ rfl nd)) | ((with_reducible show WB _ (.Assign [.Name "more" _] _ _ :: _) _ _ _); refine wb_cons (ws_set 6 ?_ rfl nd)))
theorem ok_law_pairs (T : Txt K mg) : Callee P w K mg base "_law_pairs_right" 4 [] spTrue := by
  refine def_ok T.f__law_pairs_right sc__law_pairs_right (fun _ _ _ _ _ _ us hl => match us, hl with | [], _ => rfl) (fun vs H Q E h => ?_) fun f cdv A outer s H vs Q E hr h => ?_
  · obtain ⟨rfl, _⟩ := h; rfl
  obtain ⟨rfl, k⟩ := h
  have nd := sc__law_pairs_right.nd
  have hu0 : (cxOf (L2.CX P w) P w K mg base n__law_pairs_right "_law_pairs_right" (defScope s__law_pairs_right) f cdv A outer s H E).A.units < cLine := by
    have := room64 hr
    show (A.deeper _).units < cLine
    omega
  have hL : (langL.map V.str).length = 12 := rfl
  refine wb_cons (ws_set 0 (w_call0 (ok_law_languages T) (hr.mono (by decide)) passL ⟨rfl, fun q H1 s1 n1 h1 => ?_⟩) rfl nd)
  refine wb_cons (ws_for 1 (wi_val ?_) rfl nd (passes_of rfl))
  tbr_iter "go"
  refine itv_list (SqL.of h1) ⟨12, _, _, walk_list (K := K) (xs := langL.map V.str), fun i σ Hc => ∃ x1 x2 x3 x4 x5 x6, σ = [some (.ref q), x1, x2, x3, x4, x5, x6] ∧ Same H Hc ∧ Hc q = some (.lst (langL.map V.str)), ?_, fun _ _ _ _ ⟨_, _, _, _, _, _, _, _, h⟩ => SqL.of h, ?_, ?_⟩
  · exact ⟨none, none, none, none, none, none, rfl, s1, h1⟩
  · rintro i v σ Hx Hc hi ⟨x1, x2, x3, x4, x5, x6, rfl, sm, hq⟩ ⟨e, hv⟩
    subst e
    rw [langs_at i hi] at hv
    cases hv
    refine wb_cons (ws_for 2 (wi_val ?_) rfl nd (passes_of rfl))
    tbr_iter "go"
    refine itv_list (SqL.of hq) ⟨12, _, _, walk_list (K := K) (xs := langL.map V.str), fun j σ Hd => ∃ x2 x3 x4 x5 x6, σ = [some (.ref q), some (.str (lang i)), x2, x3, x4, x5, x6] ∧ Same H Hd ∧ Hd q = some (.lst (langL.map V.str)), ?_, fun _ _ _ _ ⟨_, _, _, _, _, _, _, h⟩ => SqL.of h, ?_, ?_⟩
    · exact ⟨x2, x3, x4, x5, x6, rfl, sm, hq⟩
    · rintro j v σ Hy Hd hj ⟨x2, x3, x4, x5, x6, rfl, smd, hqd⟩ ⟨e, hv⟩
      subst e
      rw [langs_at j hj] at hv
      cases hv
      refine wb_cons (ws_set 3 (w_lcI [("word", 5)] (gName 5) (tWT _ _ _) (fun _ _ _ _ _ => pg_name nd rfl (Or.inl rfl) (Or.inr rfl)) pts_wt rfl nd (by tbr_iter "blk") (lcC_I mono_name mono_wt (wi_val ?_))) rfl nd)
      tbr_iter "go"
      refine itv_list (SqL.of hqd) ⟨12, _, itN_seq (xs := langL.map V.str) (seqIt_list (SqL.of hqd)), by decide, fun n => if (below i n && below j n) = true then some (.str (lang n)) else none, fun n x H3 hn s3 hx => ?_, fun D H3 s3 n3 h3 => ?_⟩
      · have hx : (langL.map V.str)[n]? = some x := hx
        rw [langs_at n hn] at hx
        cases hx
        refine ⟨rfl, fun _ _ _ _ _ => wt_bool (ww_and (wt_val (w_call (ok_law_is_below T) (hr.mono (by decide)) passL ?_)))⟩
        tbr_iter "go"
        refine ⟨i, n, hi, hn, rfl, fun H4 s4 => ⟨_, rfl, ?_⟩⟩
        cases e1 : below i n with
        | false =>
          refine iteF ⟨s4, iteF ?_⟩
          show (if (below i n && below j n) = true then some (V.str (lang n)) else none) = none
          rw [e1, Bool.false_and]
          exact if_neg Bool.false_ne_true
        | true =>
          refine iteT (ww_and1 (wt_val (w_call (ok_law_is_below T) (hr.mono (by decide)) passL ?_)))
          tbr_iter "go"
          refine ⟨j, n, hj, hn, rfl, fun H5 s5 => ⟨_, rfl, s4.trans s5, ?_⟩⟩
          cases e2 : below j n with
          | false =>
            refine iteF ?_
            show (if (below i n && below j n) = true then some (V.str (lang n)) else none) = none
            rw [e2, Bool.and_false]
            exact if_neg Bool.false_ne_true
          | true =>
            refine iteT fun _ _ _ _ _ => ?_
            tbr_iter "go"
            refine ⟨Same.refl _, ?_⟩
            show (if (below i n && below j n) = true then some (V.str (lang n)) else none) = _
            rw [e1, e2]
            rfl
      rw [fm_filter] at h3
      have h3 : H3 D = some (.lst ((aboveL i j).map fun n => V.str (lang n))) := h3
      have hab : (aboveL i j).length ≤ 12 := List.length_filter_le _ _
      have aat : ∀ (n : Nat) x, ((aboveL i j).map fun n => V.str (lang n))[n]? = some x → ∃ m, (aboveL i j)[n]? = some m ∧ m < 12 ∧ x = .str (lang m) := fun n x hx => by
        rw [List.getElem?_map] at hx
        obtain ⟨m, em, rfl⟩ := Option.map_eq_some_iff.mp hx
        exact ⟨m, em, above_lt (List.mem_of_getElem? em), rfl⟩
      refine wb_cons (ws_setLcI 4 [("word", 5)] (gName 5) (tWT _ _ _) (fun _ _ _ _ _ => pg_name nd rfl (Or.inr rfl) (Or.inl rfl)) pts_wt rfl nd (by tbr_iter "blk") rfl (lcC_I mono_name mono_wt (wi_val ?_)))
      tbr_iter "go"
      refine itv_list (SqL.of h3) ⟨_, _, itN_seq (seqIt_list (SqL.of h3)), by rw [List.length_map]; exact Nat.lt_of_le_of_lt hab (by decide), fun n => (aboveL i j)[n]?.bind fun m => if ((aboveL i j).all fun l => below m l) = true then some (.str (lang m)) else none, fun n x H4 hn s4 hx => ?_, fun D2 H4 s4 n4 h4 => ?_⟩
      · obtain ⟨m, em, hm, rfl⟩ := aat n x hx
        refine ⟨rfl, fun _ _ _ _ _ => wt_cmp ?_⟩
        refine w_lcI [("more", 6)] (gName 6) (tWT _ _ _) (fun _ _ _ _ _ => pg_name nd rfl (Or.inl rfl) (Or.inr rfl)) pts_wt rfl nd (blkOk_by (by kernel_rfl)) (lcC_I mono_name mono_wt (wi_val ?_))
        tbr_iter "go"
        have h34 := s4 _ _ h3
        refine itv_list (SqL.of h34) ⟨_, _, itN_seq (seqIt_list (SqL.of h34)), by rw [List.length_map]; exact Nat.lt_of_le_of_lt hab (by decide), fun n => (aboveL i j)[n]?.bind fun l => if (!below m l) = true then some (.int 1) else none, fun n' x' H5 hn' s5 hx' => ?_, fun D3 H5 s5 n5 h5 => ?_⟩
        · obtain ⟨l, el, hl, rfl⟩ := aat n' x' hx'
          refine ⟨rfl, fun _ _ _ _ _ => wt_not (wt_val (w_call (ok_law_is_below T) (hr.mono (by decide)) passL ?_))⟩
          tbr_iter "go"
          refine ⟨m, l, hm, hl, rfl, fun H6 s6 => ⟨_, rfl, s6, ?_⟩⟩
          have e0 : ((aboveL i j)[n']?.bind fun l => if (!below m l) = true then some (V.int 1) else none) = if (!below m l) = true then some (V.int 1) else none := by rw [el] <;> rfl
          cases e1 : below m l with
          | false =>
            refine iteT fun _ _ _ _ _ => ?_
            tbr_iter "go"
            refine ⟨Same.refl _, e0.trans ?_⟩
            rw [e1]
            rfl
          | true =>
            refine iteF (e0.trans ?_)
            rw [e1]
            rfl
        · have el : (List.range ((aboveL i j).map fun n => V.str (lang n)).length).filterMap (fun n => (aboveL i j)[n]?.bind fun l => if (!below m l) = true then some (V.int 1) else none) = ((aboveL i j).filter fun l => !below m l).map fun _ => V.int 1 := by
            rw [List.length_map, fm_places, fm_filter]
          rw [el] at h5
          tbr_iter "go"
          refine ⟨zero_line, fun pe H6 s6 n6 h6 => cv_eq_nil hu0 (SqL.of (s6 _ _ h5)) (SqL.of h6) ⟨_, rfl, s5.trans s6, ?_⟩⟩
          have ee : (((aboveL i j).filter fun l => !below m l).map fun _ => V.int 1).isEmpty = (aboveL i j).all fun l => below m l := by
            rw [List.isEmpty_map, Bool.eq_iff_iff, List.isEmpty_iff, List.filter_eq_nil_iff, List.all_eq_true]
            simp
          rw [ee]
          have e0 : ((aboveL i j)[n]?.bind fun m => if ((aboveL i j).all fun l => below m l) = true then some (V.str (lang m)) else none) = if ((aboveL i j).all fun l => below m l) = true then some (V.str (lang m)) else none := by rw [em] <;> rfl
          cases e1 : (aboveL i j).all fun l => below m l with
          | false =>
            refine iteF (e0.trans ?_)
            rw [e1]
            rfl
          | true =>
            refine iteT fun _ _ _ _ _ => ?_
            tbr_iter "go"
            refine ⟨Same.refl _, e0.trans ?_⟩
            rw [e1]
            rfl
      have el : (List.range ((aboveL i j).map fun n => V.str (lang n)).length).filterMap (fun n => (aboveL i j)[n]?.bind fun m => if ((aboveL i j).all fun l => below m l) = true then some (V.str (lang m)) else none) = [V.str (lang (join2 i j))] := by
        rw [List.length_map, fm_places, fm_filter]
        show (leastL i j).map _ = _
        rw [least_is i hi j hj]
        rfl
      rw [el] at h4
      have s4H := smd.trans (s3.trans s4)
      refine wb_cons (ws_if (wt_bool (ww_or (wt_cmp (w_callB T.z_repr (wa_cons (w_call (ok_is_within T) hr passL ?_)))))))
      tbr_iter "go"
      refine ⟨i, j, hi, hj, rfl, fun H5 s5 => wa_nil (kv_reprB (w_callB T.z_repr (wa_cons (w_call (ok_law_is_below T) (hr.mono (by decide)) passL ?_))))⟩
      tbr_iter "go"
      refine ⟨i, j, hi, hj, rfl, fun H6 s6 => wa_nil (kv_reprB (cv_ne rfl ⟨false, by simp, iteF (ww_or1 (wt_cmp (w_lst (wa_cons (w_call (ok_joined T) hr passL ?_)))))⟩))⟩
      tbr_iter "go"
      refine ⟨i, j, hi, hj, rfl, fun H7 s7 => wa_nil ⟨one_line, fun p8 H8 s8 n8 h8 => ?_⟩⟩
      tbr_iter "go"
      have h48 := (s5.trans (s6.trans (s7.trans s8))) _ _ h4
      have okl : SeqAt.shaped (.list [.str (lang (join2 i j))]) = true ∧ PyData.eqv (.list [.str (lang (join2 i j))]) (.list [.str (lang (join2 i j))]) = true := (by decide +kernel : ∀ i, i < 12 → ∀ j, j < 12 → SeqAt.shaped (.list [.str (lang (join2 i j))]) = true ∧ PyData.eqv (.list [.str (lang (join2 i j))]) (.list [.str (lang (join2 i j))]) = true) i hi j hj
      refine cv_neD (room64 hr) (.lst (SqL.of h8) (.cons (.str _) .nil)) (.lst (SqL.of h48) (.cons (.str _) .nil)) okl.1 okl.1 ⟨_, rfl, ?_⟩
      rw [okl.2]
      refine iteF (wb_nil (wb_nil ⟨_, _, _, _, _, rfl, s4H.trans (s5.trans (s6.trans (s7.trans s8))), (s3.trans (s4.trans (s5.trans (s6.trans (s7.trans s8))))) _ _ hqd⟩))
    · rintro σ Hd ⟨x2, x3, x4, x5, x6, rfl, smd, hqd⟩
      exact wb_nil ⟨_, _, _, _, _, _, rfl, smd, hqd⟩
  · rintro σ Hc ⟨x1, x2, x3, x4, x5, x6, rfl, sm, hq⟩
    tbr_iter "go"
    exact k Hc sm
end
end Ax
end
section
set_option maxHeartbeats 4000000
open PySem PySem.Spec PyProof.Rows L2 Ax
set_option hygiene false in
local macro_rules | `(tactic| tbr_iter "boot") => `(tactic| with_reducible first | exact Ax.b_len | exact Ax.b_all | exact Ax.b_any | exact Ax.b_sorted | exact Ax.b_isinstance | exact Ax.b_abs | exact Ax.b_max | exact Ax.b_min | exact Ax.b_sum | exact Ax.b_repr | exact Ax.b_iter | exact Ax.b_ord | exact Ax.b_chr | exact Ax.b_str | exact Ax.b_int | exact Ax.b_bool | exact Ax.b_tuple | exact Ax.b_list | exact Ax.b_dict | exact Ax.b_set | exact Ax.b_range | exact Ax.b_enumerate | exact Ax.b_zip)
set_option hygiene false in
local macro_rules | `(tactic| tbr_iter "vis") => `(tactic| first | exact Or.inl rfl | exact Or.inr (Or.inl rfl) | exact Or.inr (Or.inr rfl))
set_option hygiene false in
local macro_rules | `(tactic| tbr_iter "w") => `(tactic| first
  | refine wb_cons ?_
  | refine wb_nil ?_
  | refine ws_ret ?_
  | refine ws_if ?_
  | refine ws_sub ?_
  | refine wa_cons ?_
  | refine wa_nil ?_
  | refine w_int ?_
  | refine w_str ?_
  | refine w_bl ?_
  | refine w_non ?_
  | tbr_iter "var"
  | refine w_bin ?_
  | refine w_cmp ?_
  | refine w_chain ?_
  | refine w_and ?_
  | refine w_or ?_
  | refine w_one ?_
  | refine w_not ?_
  | refine w_ix ?_
  | refine w_ifExp ?_
  | refine w_tup ?_
  | refine w_lst ?_
  | refine wt_not ?_
  | refine wt_bool ?_
  | refine ww_and ?_
  | refine ww_and1 ?_
  | refine ww_or ?_
  | refine ww_or1 ?_
  | refine wt_cmp ?_
  | refine wt_val ?_
  | tbr_iter "call"
  | (refine w_glob (by tbr_iter "mg") ?_)
  | (refine w_callB (by tbr_iter "z") ?_)
  | (refine w_callTy (by tbr_iter "z") ?_)
  | (refine w_bltT (by tbr_iter "z") ?_))
set_option hygiene false in
local macro_rules | `(tactic| tbr_iter "blk") => `(tactic| first | exact blkOk_by (by dsimp only [cxOf, envOfC]; decide +kernel))
set_option hygiene false in
local macro_rules | `(tactic| tbr_iter "iff") => `(tactic| first
  | refine iteT ?_
  | refine iteF ?_
  | refine w_if2 (fun _ => ?_) (fun _ => ?_))
set_option hygiene false in
local macro_rules | `(tactic| tbr_iter "sc") => `(tactic| first | omega | decide)
set_option hygiene false in
local macro_rules | `(tactic| tbr_iter "at") => `(tactic| first | exact atI_0 | exact atI_1 | exact atI_2)
set_option hygiene false in
local macro_rules | `(tactic| tbr_iter "sql") => `(tactic| ((try dsimp only [L2.cxOf, L2.Cx.blk]); with_reducible first | assumption | exact SqL.of (by assumption)))
set_option hygiene false in
local macro_rules | `(tactic| tbr_iter "sqt") => `(tactic| ((try dsimp only [L2.cxOf, L2.Cx.blk]); with_reducible first | assumption | exact SqT.of (by assumption)))
set_option hygiene false in
local macro_rules | `(tactic| tbr_iter "v") => `(tactic| first
  | refine bv_add ?_
  | refine bv_sub ?_
  | ((with_reducible show BinV _ .Mult _ _ _ _); refine bv_mul (Or.inl ⟨by tbr_iter "sc", by tbr_iter "sc"⟩) ?_)
  | ((with_reducible show BinV _ .Mult _ _ _ _); refine bv_mul (Or.inr ⟨by tbr_iter "sc", by tbr_iter "sc"⟩) ?_)
  | ((with_reducible show BinV _ .Mod _ _ _ _); refine bv_mod (by tbr_iter "sc") ?_)
  | ((with_reducible show BinV _ .FloorDiv _ _ _ _); refine bv_fdiv ⟨by tbr_iter "sc", by tbr_iter "sc"⟩ ?_)
  | ((with_reducible show BinV _ .Pow _ _ _ _); refine bv_pow ⟨by decide, by decide +kernel⟩ ?_)
  | refine cv_lt ?_
  | refine cv_le ?_
  | refine cv_gt ?_
  | refine cv_ge ?_
  | ((with_reducible show CmpV _ .Eq _ _ _ _); refine cv_eq rfl ?_)
  | ((with_reducible show CmpV _ .NotEq _ _ _ _); refine cv_ne rfl ?_)
  | refine iv_list (by tbr_iter "sql") (by tbr_iter "at") ?_
  | refine iv_tup (by tbr_iter "sqt") (by tbr_iter "at") ?_
  | refine kv_len_seq (Or.inl (by tbr_iter "sql")) ?_
  | refine kv_len_seq (Or.inr (by tbr_iter "sqt")) ?_
  | refine kv_int ?_
  | refine kv_intB ?_
  | refine kv_abs ?_
  | refine kv_max2 rfl ?_
  | refine kv_min2 rfl ?_)
set_option hygiene false in
local macro_rules | `(tactic| tbr_iter "b") => `(tactic| first
  | refine ⟨_, rfl, iteT ?_⟩
  | refine ⟨_, rfl, iteF ?_⟩
  | refine iteT ?_
  | refine iteF ?_)
set_option hygiene false in
local macro_rules | `(tactic| tbr_iter "go") => `(tactic| repeat (first | tbr_iter "w" | tbr_iter "v" | tbr_iter "b"))
set_option hygiene false in
local macro_rules | `(tactic| tbr_iter "nof") => `(tactic| (intro d hd; cases d <;> first | rfl | exact absurd rfl (hd _)))
set_option hygiene false in
local macro_rules | `(tactic| tbr_iter "e1") => `(tactic| first | ((with_reducible show W _ _ _ _ _); tbr_iter "w") | ((with_reducible show WA _ _ _ _ _); tbr_iter "w") | ((with_reducible show WT _ _ _ _ _); tbr_iter "w") | ((with_reducible show WW _ _ _ _ _); tbr_iter "w") | tbr_iter "v")
set_option hygiene false in
local macro_rules | `(tactic| tbr_iter "ex") => `(tactic| repeat (tbr_iter "e1"))
set_option hygiene false in
local macro_rules | `(tactic| tbr_iter "z") => `(tactic| ((try dsimp only [L2.cxOf]); with_reducible first | exact T.z_IndexError | exact T.z_KeyError | exact T.z_ValueError | exact T.z_abs | exact T.z_all | exact T.z_bool | exact T.z_classmethod | exact T.z_dict | exact T.z_enumerate | exact T.z_int | exact T.z_isinstance | exact T.z_iter | exact T.z_len | exact T.z_list | exact T.z_max | exact T.z_min | exact T.z_property | exact T.z_range | exact T.z_repr | exact T.z_sorted | exact T.z_str | exact T.z_tuple | exact T.z_zip))
set_option hygiene false in
local macro_rules | `(tactic| tbr_iter "mg") => `(tactic| ((try dsimp only [L2.cxOf]); with_reducible first | exact T.c_ALPHABET | exact T.c_MAX_LETTERS | exact T.c_MAX_COLUMNS | exact T.c_MOST_VALUES | exact T.c_MAX_TABLES | exact T.c_IN | exact T.c_OUT | exact T.c_UNLIKE))
namespace Ax
theorem rows_dp {K : PySem.W.Frag} {H : Hp} : ∀ {us : List V} {rows : List (List Str)}, All2 (RwV H) us rows → DpAll K H us (rows.map rowD)
  | _, _, .nil => .nil
  | _, _, .cons ⟨b, e, h⟩ t => by
    subst e
    exact .cons (.tup (SqT.of h) (dpa_strs _)) (rows_dp t)
theorem tameAll_rows : ∀ {rows : List (List Str)}, (∀ r ∈ rows, (∀ z ∈ r, isNameS z = true) ∧ r.length ≤ 1000) → tameAll (rows.map rowD) = true
  | [], _ => by simp [tameAll]
  | r :: rows, h => by
    obtain ⟨h1, h2⟩ := h r List.mem_cons_self
    have e := row_ok (c := r.length) ⟨rfl, h1⟩ (by omega)
    simp only [okD, Bool.and_eq_true] at e
    have e2 := tameAll_rows fun y hy => h y (List.mem_cons_of_mem _ hy)
    simp [tameAll, e.1, e2]
theorem depth_rows : ∀ rows : List (List Str), PyData.depthAll (rows.map rowD) ≤ 1
  | [] => Nat.zero_le _
  | r :: rows => by
    rw [List.map_cons, PyData.depthAll]
    exact Nat.max_le.mpr ⟨depth_row r, depth_rows rows⟩
theorem rows_okD {rows : List (List Str)} (h : ∀ r ∈ rows, (∀ z ∈ r, isNameS z = true) ∧ r.length ≤ 1000) (hl : rows.length ≤ 1000) : okD (.tuple (rows.map rowD)) = true := by
  have e1 := tameAll_rows h
  have e2 := depth_rows rows
  have e3 : tame (.tuple (rows.map rowD)) = true := by
    rw [tame, e1, List.length_map, decide_eq_true (by omega)] <;> rfl
  have e4 : (PyData.tuple (rows.map rowD)).depth ≤ 60 := by
    rw [PyData.depth]
    omega
  unfold okD
  rw [e3, decide_eq_true e4] <;> rfl
theorem signs_fine {ns : List Str} {k : Nat} (hn : ∀ n ∈ ns, isNameS n = true) (hl : ns.length ≤ 4) : okD (.tuple ((signsR ns k).map rowD)) = true := by
  have h1 : isNameS "in" = true := by decide +kernel
  have h2 : isNameS "out" = true := by decide +kernel
  have h3 : isNameS "unlike" = true := by decide +kernel
  refine rows_okD (fun r hr => ?_) ?_
  · unfold signsR at hr
    have pair : ∀ {t : Str}, isNameS t = true → ∀ r ∈ ns.map (fun n => [t, n]), (∀ z ∈ r, isNameS z = true) ∧ r.length ≤ 1000 := fun {t} ht r hr => by
      obtain ⟨n, hnn, rfl⟩ := List.mem_map.mp hr
      refine ⟨fun z hz => ?_, (show 2 ≤ 1000 by decide)⟩
      rcases List.mem_cons.mp hz with rfl | hz
      · exact ht
      · rw [List.mem_singleton.mp hz]
        exact hn n hnn
    rcases List.mem_append.mp hr with hr | hr
    · rcases List.mem_append.mp hr with hr | hr
      · exact pair h1 r hr
      · split at hr
        · exact pair h2 r hr
        · cases hr
    · split at hr
      · rw [List.mem_singleton.mp hr]
        refine ⟨fun z hz => ?_, (show 1 ≤ 1000 by decide)⟩
        rw [List.mem_singleton.mp hz]
        exact h3
      · cases hr
  · unfold signsR
    rw [List.length_append, List.length_append, List.length_map]
    split <;> split <;> simp <;> omega
def oddA : List (Option PyData) := [some .none, some (.int 0), some (.tuple []), some (.str ""), some (.str "flat"), some (.str "flat one"), some (.str "flat one  plain"), some (.str " flat one plain"), some (.str "flat one plain ")]
def oddB : List (Option PyData) := [some (.str "one flat plain")]
def oddC : List (Option PyData) := [some (.str "Flat one plain"), some (.list [.str "flat one plain"]), some (.tuple [.str "flat", .str "one", .str "plain"]), some (.bool true), none, none, some (.str "flat one plain\n")]
def oddE : List (Option PyData) := [some (.str "deep one out"), some (.str "deep none not"), some (.int (10 ^ 39)), some (.str "flat one plain deep one plain")]
def oddL : List (Option PyData) := ((oddA ++ oddB) ++ oddC) ++ oddE
theorem odd_fine : ∀ o ∈ oddL, o.all okD = true ∧ o.any isLangD = false := by decide +kernel
def spSignsRight : Sp := fun vs H Q _ => ∃ (p : Addr), vs = [.ref p] ∧ H p = some (DiceO p 0) ∧ ∀ H', Sm p H H' → Q (.bl true) H'
set_option hygiene false in
local macro_rules | `(tactic| tbr_iter "lt") => `(tactic| repeat (first
  | exact lit_str | exact lit_int | exact lit_bl | exact lit_non | exact lity_nil | exact lita_nil
  | refine lity_dict ?_ | refine lity_cons ?_ ?_ | refine lita_cons ?_ ?_ | refine lit_tup ?_ | refine lit_lst ?_))
section
variable {P : Program} {w : World} {K : PySem.W.Frag} {mg : Str → Option Value} {base : Heap}
set_option hygiene false in
local macro_rules | `(tactic| tbr_iter "var") => `(tactic| first | ((with_reducible show W _ (.Name "dice" _) _ _ _); refine w_var 0 rfl (by tbr_iter "vis") rfl ?_) | ((with_reducible show W _ (.Name "shape" _) _ _ _); refine w_var 1 rfl (by tbr_iter "vis") rfl ?_) | ((with_reducible show W _ (.Name "base" _) _ _ _); refine w_var 2 rfl (by tbr_iter "vis") rfl ?_) | ((with_reducible show W _ (.Name "language" _) _ _ _); refine w_var 3 rfl (by tbr_iter "vis") rfl ?_) | ((with_reducible show W _ (.Name "odd" _) _ _ _); refine w_var 4 rfl (by tbr_iter "vis") rfl ?_) | ((with_reducible show W _ (.Name "value" _) _ _ _); refine w_var 5 rfl (by tbr_iter "vis") rfl ?_))
set_option hygiene false in
local macro_rules | `(tactic| tbr_iter "set") => `(tactic| first | ((with_reducible show WB _ (.Assign [.Name "dice" _] _ _ :: _) _ _ _); refine wb_cons (ws_set 0 ?_ rfl nd)) | ((with_reducible show WB _ (.Assign [.Name "shape" _] _ _ :: _) _ _ _); refine wb_cons (ws_set 1 ?_ rfl nd)) | ((with_reducible show WB _ (.Assign [.Name "base" _] _ _ :: _) _ _ _); refine wb_cons (ws_set 2 ?_ rfl nd)) | ((with_reducible show WB _ (.Assign [.Name "language" _] _ _ :: _) _ _ _); refine wb_cons (ws_set 3 ?_ rfl nd)) | ((with_reducible show WB _ (.Assign [.Name "odd" _] _ _ :: _) _ _ _); refine wb_cons (ws_set 4 ?_ rfl nd)) | ((with_reducible show WB _ (.Assign [.Name "value" _] _ _ :: _) _ _ _); refine wb_cons (ws_set 5 ?_ rfl nd)))
theorem ok_signs_right (T : Txt K mg) : Callee P w K mg base "_law_signs_right" 11 ["dice"] spSignsRight := by
  refine def_ok T.f__law_signs_right sc__law_signs_right (fun _ _ _ _ _ _ us hl => match us, hl with | [_], _ => rfl) (fun vs H Q E h => ?_) fun f cdv A outer s H vs Q E hr h => ?_
  · obtain ⟨p, rfl, _⟩ := h; rfl
  obtain ⟨p, rfl, hp, k⟩ := h
  have nd := sc__law_signs_right.nd
  have hu0 : (cxOf (L2.CX P w) P w K mg base n__law_signs_right "_law_signs_right" (defScope s__law_signs_right) f cdv A outer s H E).A.units < cLine := by
    have := room64 hr
    show (A.deeper _).units < cLine
    omega
  have kitM : ∀ T' ∈ ["str", "int", "bool", "tuple", "list"], PySem.W.kitOne K (.ref (He.ga K "MadeDatabase")) (.type T') = some false := fun T' h => by
    simp only [List.mem_cons, List.mem_nil_iff, or_false] at h
    rcases h with rfl | rfl | rfl | rfl | rfl
    · exact T.i_MadeDatabase_str
    · exact T.i_MadeDatabase_int
    · exact T.i_MadeDatabase_bool
    · exact T.i_MadeDatabase_tuple
    · exact T.i_MadeDatabase_list
  refine wb_cons (ws_set 1 (w_call (ok_law_shape T) (hr.mono (by decide)) passL ?_) rfl nd)
  tbr_iter "go"
  refine ⟨p, 0, rfl, hp, by decide, fun sh bs q m H1 hsh hbs s1 hp1 hm n1 hq => ?_⟩
  refine wb_cons (ws_set 2 (w_call (ok_law_made T) hr passL (wa_cons (w_call (ok_law_database T) (hr.mono (by decide)) passL ?_))) rfl nd)
  tbr_iter "go"
  refine ⟨p, q, m, bs, sh, rfl, hp1, by omega, hq, hbs, hsh, fun t zs m2 H2 hz db s2 hp2 hm2 => wa_nil ⟨t, sh, zs, rfl, db, hz, hsh, fun x H3 s3 dbx => ?_⟩⟩
  have sm3 : Sm p H H3 := (s1.trans s2).same s3
  have hq3 := s3 _ _ (s2.lst hq)
  have hbs3 : All2 (ShV H3) bs sh := hbs.imp fun b s h => s3 _ _ (s2.tupO h)
  have nameOk : ∀ n ∈ sh.map (·.1), isNameS n = true := fun n h => by
    obtain ⟨s1, h1, rfl⟩ := List.mem_map.mp h
    exact (hsh.2.2.2 s1 h1).1
  have shl := hsh.1
  refine wb_cons (ws_for 3 (wi_val (w_call0 (ok_law_languages T) (hr.mono (by decide)) passL ⟨rfl, fun ql H4 s4 n4 h4 => ?_⟩)) rfl nd (passes_of rfl))
  refine itv_list (SqL.of h4) ⟨12, _, _, walk_list (K := K) (xs := langL.map V.str), fun i σ Hc => ∃ x3 x4 x5, σ = [some (.ref p), some (.ref q), some (.ref x), x3, x4, x5] ∧ Same H3 Hc ∧ Hc ql = some (.lst (langL.map V.str)), ?_, fun _ _ _ _ ⟨_, _, _, _, _, h⟩ => SqL.of h, ?_, ?_⟩
  · exact ⟨none, none, none, rfl, s4, h4⟩
  · rintro i v σ Hx Hc hi ⟨x3, x4, x5, rfl, sc, hql⟩ ⟨e, hv⟩
    subst e
    rw [langs_at i hi] at hv
    cases hv
    refine wb_cons (ws_if (wt_cmp (w_call (ok_signs_of T) (hr.mono (by decide)) passL ?_)))
    tbr_iter "go"
    refine ⟨x, i, "MadeDatabase", sortT zs, sh.map (·.1), hi, rfl, .inr rfl, dbx.same sc, by rw [List.length_map]; exact shl, fun q5 us H5 s5 h5 hr5 => ?_⟩
    refine w_callTy T.z_tuple (wa_cons (w_call (ok_law_signs T) (hr.mono (by decide)) passL (wa_cons ?_)))
    tbr_iter "var"
    refine wa_cons (w_ix (w_bm1 PySem.F.plainAttrs_str PySem.F.slot_str_split PySem.F.type_str_split ?_))
    tbr_iter "go"
    refine ⟨rfl, ?_⟩
    tbr_iter "go"
    have hl := lang_len i hi
    refine mv_split rfl (Nat.le_trans (Nat.add_le_add_right hl 2) (by decide)) fun p6 H6 s6 n6 e6 => ?_
    rw [lang_split i hi] at e6
    tbr_iter "go"
    have s36 := sc.trans (s5.trans s6)
    refine ⟨q, i % 3, bs, sh, rfl, by omega, s36 _ _ hq3, hbs3.imp fun b s h => s36 _ _ h, shl, fun r7 us7 H7 s7 n7 h7 hr7 => wa_nil (kv_tupleL (SqL.of h7) fun q8 H8 s8 n8 h8 => ?_)⟩
    have s58 := s6.trans (s7.trans s8)
    have fine := signs_fine (k := i % 3) nameOk (by rw [List.length_map]; exact shl)
    have shp := okD.shaped fine
    refine cv_neD (room64 hr) (.tup (SqT.of (s58 _ _ h5)) (rows_dp (rows_sl hr5 (Sl.of s58)))) (.tup (SqT.of h8) (rows_dp (rows_sl hr7 (Sl.of s8)))) shp shp ⟨_, rfl, ?_⟩
    rw [SeqAt.eqv_refl _ (SeqAt.canLay_of_shaped shp)]
    exact iteF (wb_nil (wb_nil ⟨_, _, _, rfl, sc.trans (s5.trans s58), (s5.trans s58) _ _ hql⟩))
  · rintro σ Hc ⟨x3, x4, x5, rfl, sc, hql⟩
    have dbc := dbx.same sc
    obtain ⟨dx, q1, d1, kv1, hx, _⟩ := dbc
    refine wb_cons (ws_set 4 ?_ rfl nd)
    refine w_listY (H0 := Hc) oddA (by unfold oddA; tbr_iter "lt") (Same.refl _) fun l1 xs1 H1 s1' n1' hl1 a1 => ?_
    refine wb_cons (ws_set 4 (w_bin ?_) rfl nd)
    tbr_iter "var"
    refine w_listY (H0 := H1) oddB (by unfold oddB; tbr_iter "lt") (Same.refl _) fun l2 xs2 H2 s2' n2' hl2 a2 => ?_
    refine bv_catY (s2' _ _ hl1) hl2 (a1.imp fun _ _ q => q.same s2') a2 (by decide +kernel) fun l3 H3 s3' n3' hl3 a3 => ?_
    refine wb_cons (ws_set 4 (w_bin ?_) rfl nd)
    tbr_iter "var"
    have sx3 := s1'.trans (s2'.trans s3')
    have base3 : AnyG K H3 (.ref x) none := .own (sx3 _ _ hx) T.kc_MadeDatabase kitM
    refine w_listY (H0 := H3) oddC (by
      unfold oddC
      refine lity_cons lit_str (lity_cons (lit_lst (lita_cons lit_str lita_nil)) (lity_cons (lit_tup (lita_cons lit_str (lita_cons lit_str (lita_cons lit_str lita_nil)))) (lity_cons lit_bl (lity_dict (lity_val (v := .ref x) (fun H Q s k => w_var 2 rfl (by tbr_iter "vis") rfl k) base3 (lity_cons lit_str lity_nil))))))) (Same.refl _) fun l4 xs4 H4 s4' n4' hl4 a4 => ?_
    refine bv_catY (s4' _ _ hl3) hl4 (a3.imp fun _ _ q => q.same s4') a4 (by decide +kernel) fun l5 H5 s5' n5' hl5 a5 => ?_
    refine wb_cons (ws_set 4 (w_bin ?_) rfl nd)
    tbr_iter "var"
    refine w_listY (H0 := H5) oddE (by
      unfold oddE
      refine lity_cons lit_str (lity_cons lit_str (lity_cons (lit_of fun H Q s k => w_bin (w_int (w_int (bv_pow ⟨by decide, by decide +kernel⟩ (k _ (.int _)))))) (lity_cons lit_str lity_nil)))) (Same.refl _) fun l6 xs6 H6 s6' n6' hl6 a6 => ?_
    refine bv_catY (s6' _ _ hl5) hl6 (a5.imp fun _ _ q => q.same s6') a6 (by decide +kernel) fun l7 H7 s7' n7' hl7 a7 => ?_
    have a7 : All2 (AnyG K H7) _ oddL := a7
    have hlen := a7.len
    have hol : oddL.length = 21 := by decide +kernel
    refine wb_cons (ws_ret (w_cmp (w_lcI [("value", 5)] (gName 5) (tWT _ _ _) (fun _ _ _ _ _ => pg_name nd rfl (Or.inl rfl) (Or.inr rfl)) pts_wt rfl nd (by tbr_iter "blk") (lcC_I mono_name mono_wt (wi_val ?_)))))
    tbr_iter "go"
    refine itv_list (SqL.of hl7) ⟨_, _, itN_seq (seqIt_list (SqL.of hl7)), by rw [hlen, hol]; decide, fun _ => none, fun n v H8 hn s8 hv => ?_, fun D H8 s8 n8 h8 => ?_⟩
    · have hv : _ = some v := hv
      obtain ⟨o, ho, av⟩ := a7.at hv
      obtain ⟨f1, f2⟩ := odd_fine o (List.mem_of_getElem? ho)
      refine ⟨rfl, fun _ _ _ _ _ => wt_cmp (w_call (ok_is_language T) (hr.mono (by decide)) passL ?_)⟩
      tbr_iter "go"
      refine ⟨v, o, rfl, (av.same s8).any f1, fun H9 s9 => ?_⟩
      rw [f2]
      tbr_iter "go"
      refine cv_notB ⟨_, rfl, s9, ?_⟩
      exact iteF rfl
    · have e : ∀ n, (List.range n).filterMap (fun _ => (none : Option V)) = [] := fun n => by
        rw [List.filterMap_eq_nil_iff]
        intros
        rfl
      rw [e] at h8
      tbr_iter "go"
      refine ⟨zero_line, fun pe H9 s9 n9 h9 => cv_eq_nil hu0 (SqL.of (s9 _ _ h8)) (SqL.of h9) ?_⟩
      exact k H9 (sm3.same (sc.trans (s1'.trans (s2'.trans (s3'.trans (s4'.trans (s5'.trans (s6'.trans (s7'.trans (s8.trans s9))))))))))
end
end Ax
end
section
set_option maxHeartbeats 4000000
open PySem PySem.Spec PyProof.Rows L2 Ax
set_option hygiene false in
local macro_rules | `(tactic| tbr_iter "boot") => `(tactic| with_reducible first | exact Ax.b_len | exact Ax.b_all | exact Ax.b_any | exact Ax.b_sorted | exact Ax.b_isinstance | exact Ax.b_abs | exact Ax.b_max | exact Ax.b_min | exact Ax.b_sum | exact Ax.b_repr | exact Ax.b_iter | exact Ax.b_ord | exact Ax.b_chr | exact Ax.b_str | exact Ax.b_int | exact Ax.b_bool | exact Ax.b_tuple | exact Ax.b_list | exact Ax.b_dict | exact Ax.b_set | exact Ax.b_range | exact Ax.b_enumerate | exact Ax.b_zip)
set_option hygiene false in
local macro_rules | `(tactic| tbr_iter "vis") => `(tactic| first | exact Or.inl rfl | exact Or.inr (Or.inl rfl) | exact Or.inr (Or.inr rfl))
set_option hygiene false in
local macro_rules | `(tactic| tbr_iter "w") => `(tactic| first
  | refine wb_cons ?_
  | refine wb_nil ?_
  | refine ws_ret ?_
  | refine ws_if ?_
  | refine ws_sub ?_
  | refine wa_cons ?_
  | refine wa_nil ?_
  | refine w_int ?_
  | refine w_str ?_
  | refine w_bl ?_
  | refine w_non ?_
  | tbr_iter "var"
  | refine w_bin ?_
  | refine w_cmp ?_
  | refine w_chain ?_
  | refine w_and ?_
  | refine w_or ?_
  | refine w_one ?_
  | refine w_not ?_
  | refine w_ix ?_
  | refine w_ifExp ?_
  | refine w_tup ?_
  | refine w_lst ?_
  | refine wt_not ?_
  | refine wt_bool ?_
  | refine ww_and ?_
  | refine ww_and1 ?_
  | refine ww_or ?_
  | refine ww_or1 ?_
  | refine wt_cmp ?_
  | refine wt_val ?_
  | tbr_iter "call"
  | (refine w_glob (by tbr_iter "mg") ?_)
  | (refine w_callB (by tbr_iter "z") ?_)
  | (refine w_callTy (by tbr_iter "z") ?_)
  | (refine w_bltT (by tbr_iter "z") ?_))
set_option hygiene false in
local macro_rules | `(tactic| tbr_iter "blk") => `(tactic| first | exact blkOk_by (by dsimp only [cxOf, envOfC]; decide +kernel))
set_option hygiene false in
local macro_rules | `(tactic| tbr_iter "iff") => `(tactic| first
  | refine iteT ?_
  | refine iteF ?_
  | refine w_if2 (fun _ => ?_) (fun _ => ?_))
set_option hygiene false in
local macro_rules | `(tactic| tbr_iter "sc") => `(tactic| first | omega | decide)
set_option hygiene false in
local macro_rules | `(tactic| tbr_iter "at") => `(tactic| first | exact atI_0 | exact atI_1 | exact atI_2)
set_option hygiene false in
local macro_rules | `(tactic| tbr_iter "sql") => `(tactic| ((try dsimp only [L2.cxOf, L2.Cx.blk]); with_reducible first | assumption | exact SqL.of (by assumption)))
set_option hygiene false in
local macro_rules | `(tactic| tbr_iter "sqt") => `(tactic| ((try dsimp only [L2.cxOf, L2.Cx.blk]); with_reducible first | assumption | exact SqT.of (by assumption)))
set_option hygiene false in
local macro_rules | `(tactic| tbr_iter "v") => `(tactic| first
  | refine bv_add ?_
  | refine bv_sub ?_
  | ((with_reducible show BinV _ .Mult _ _ _ _); refine bv_mul (Or.inl ⟨by tbr_iter "sc", by tbr_iter "sc"⟩) ?_)
  | ((with_reducible show BinV _ .Mult _ _ _ _); refine bv_mul (Or.inr ⟨by tbr_iter "sc", by tbr_iter "sc"⟩) ?_)
  | ((with_reducible show BinV _ .Mod _ _ _ _); refine bv_mod (by tbr_iter "sc") ?_)
  | ((with_reducible show BinV _ .FloorDiv _ _ _ _); refine bv_fdiv ⟨by tbr_iter "sc", by tbr_iter "sc"⟩ ?_)
  | ((with_reducible show BinV _ .Pow _ _ _ _); refine bv_pow ⟨by decide, by decide +kernel⟩ ?_)
  | refine cv_lt ?_
  | refine cv_le ?_
  | refine cv_gt ?_
  | refine cv_ge ?_
  | ((with_reducible show CmpV _ .Eq _ _ _ _); refine cv_eq rfl ?_)
  | ((with_reducible show CmpV _ .NotEq _ _ _ _); refine cv_ne rfl ?_)
  | refine iv_list (by tbr_iter "sql") (by tbr_iter "at") ?_
  | refine iv_tup (by tbr_iter "sqt") (by tbr_iter "at") ?_
  | refine kv_len_seq (Or.inl (by tbr_iter "sql")) ?_
  | refine kv_len_seq (Or.inr (by tbr_iter "sqt")) ?_
  | refine kv_int ?_
  | refine kv_intB ?_
  | refine kv_abs ?_
  | refine kv_max2 rfl ?_
  | refine kv_min2 rfl ?_)
set_option hygiene false in
local macro_rules | `(tactic| tbr_iter "b") => `(tactic| first
  | refine ⟨_, rfl, iteT ?_⟩
  | refine ⟨_, rfl, iteF ?_⟩
  | refine iteT ?_
  | refine iteF ?_)
set_option hygiene false in
local macro_rules | `(tactic| tbr_iter "go") => `(tactic| repeat (first | tbr_iter "w" | tbr_iter "v" | tbr_iter "b"))
set_option hygiene false in
local macro_rules | `(tactic| tbr_iter "nof") => `(tactic| (intro d hd; cases d <;> first | rfl | exact absurd rfl (hd _)))
set_option hygiene false in
local macro_rules | `(tactic| tbr_iter "e1") => `(tactic| first | ((with_reducible show W _ _ _ _ _); tbr_iter "w") | ((with_reducible show WA _ _ _ _ _); tbr_iter "w") | ((with_reducible show WT _ _ _ _ _); tbr_iter "w") | ((with_reducible show WW _ _ _ _ _); tbr_iter "w") | tbr_iter "v")
set_option hygiene false in
local macro_rules | `(tactic| tbr_iter "ex") => `(tactic| repeat (tbr_iter "e1"))
set_option hygiene false in
local macro_rules | `(tactic| tbr_iter "z") => `(tactic| ((try dsimp only [L2.cxOf]); with_reducible first | exact T.z_IndexError | exact T.z_KeyError | exact T.z_ValueError | exact T.z_abs | exact T.z_all | exact T.z_bool | exact T.z_classmethod | exact T.z_dict | exact T.z_enumerate | exact T.z_int | exact T.z_isinstance | exact T.z_iter | exact T.z_len | exact T.z_list | exact T.z_max | exact T.z_min | exact T.z_property | exact T.z_range | exact T.z_repr | exact T.z_sorted | exact T.z_str | exact T.z_tuple | exact T.z_zip))
set_option hygiene false in
local macro_rules | `(tactic| tbr_iter "mg") => `(tactic| ((try dsimp only [L2.cxOf]); with_reducible first | exact T.c_ALPHABET | exact T.c_MAX_LETTERS | exact T.c_MAX_COLUMNS | exact T.c_MOST_VALUES | exact T.c_MAX_TABLES | exact T.c_IN | exact T.c_OUT | exact T.c_UNLIKE))
namespace Ax
def spLaw06 (K : PySem.W.Frag) : Sp := fun vs H Q _ => ∃ (a : Addr) (ns : List Int), vs = [.ref a] ∧ SqL K H a (ns.map V.int) ∧ ns.length ≤ 63 ∧ ∀ H', Q (.bl true) H'
def langsD : PyData := .tuple (langL.map .str)
theorem langs_fine : SeqAt.shaped langsD = true ∧ PyData.eqv langsD langsD = true := by decide +kernel
theorem langs_is : ∀ i, i < 12 → okD (.str (lang i)) = true ∧ isLangD (.str (lang i)) = true := by decide +kernel
def toldD : PyData := .list [.tuple ((signsR ["at", "to"] 0).map rowD), .tuple ((signsR ["at", "to"] 2).map rowD), .tuple ((signsR [] 0).map rowD)]
def dueD : PyData := .list [.tuple [.tuple [.str "in", .str "at"], .tuple [.str "in", .str "to"]], .tuple [.tuple [.str "in", .str "at"], .tuple [.str "in", .str "to"], .tuple [.str "out", .str "at"], .tuple [.str "out", .str "to"], .tuple [.str "unlike"]], .tuple []]
theorem told_fine : SeqAt.shaped toldD = true ∧ SeqAt.shaped dueD = true ∧ PyData.eqv toldD dueD = true := by decide +kernel
theorem ab_rows : ∀ r ∈ [(["a", "b"] : List Str)], NRow 2 r := by
  intro r hr
  rw [List.mem_singleton.mp hr]
  exact ⟨rfl, by decide +kernel⟩
theorem fit_ab {K : PySem.W.Frag} {H : Hp} {a : Addr} (h : TabIs K H a 2 (tabRows [["a", "b"]])) : TabFit K H ["b", "a"] (.ref a) :=
  raw_fit h (by decide) (by decide) fun r hr => by
    rw [List.mem_singleton.mp hr]
    exact ⟨rfl, fun t ht => by
      rcases List.mem_cons.mp ht with rfl | ht
      · exact List.mem_cons_of_mem _ List.mem_cons_self
      · rw [List.mem_singleton.mp ht]
        exact List.mem_cons_self⟩
theorem fit_nil {K : PySem.W.Frag} {H : Hp} {a : Addr} (h : TabIs K H a 0 (tabRows [])) : TabFit K H ["b", "a"] (.ref a) := raw_fit h (by decide) (by decide) fun r hr => absurd hr List.not_mem_nil
theorem ba_ok : ValsOk ["b", "a"] := ⟨by decide +kernel, by decide, by decide, by decide +kernel⟩
theorem a_ok : ValsOk ["a"] := ⟨by decide +kernel, by decide, by decide, by decide +kernel⟩
theorem at_to : (["at", "to"] : List Str).Pairwise fun a b => strLe a b = true := by decide +kernel
set_option hygiene false in
local macro_rules | `(tactic| tbr_iter "lt") => `(tactic| repeat (first
  | exact lit_str | exact lit_int | exact lit_bl | exact lit_non | exact lity_nil | exact lita_nil
  | refine lity_dict ?_ | refine lity_cons ?_ ?_ | refine lita_cons ?_ ?_ | refine lit_tup ?_ | refine lit_lst ?_))
section
variable {P : Program} {w : World} {K : PySem.W.Frag} {mg : Str → Option Value} {base : Heap}
theorem tabI_makeR {H1 : Hp} {c : Nat} {us : List V} {raw : List (List Str)} {R : Addr → Hp → Prop} {E : XK} (hc : c ≤ 3) (hl : us.length < sizeLine) (hrs : All2 (RwV H1) us raw) (hn : ∀ r ∈ raw, NRow c r) (k : ∀ x H2, Same H1 H2 → H1 x = none → TabIs K H2 x c (tabRows raw) → R x H2) :
    ∀ x dx, H1 x = none → H1 dx = none → dx ≠ x → ∃ a b rest, (V.ref x :: V.int c :: us) = a :: b :: rest ∧ rest.length ≤ sizeLine ∧ ∀ p, (upd (upd H1 dx (.own x)) x (.ins (He.ga K "Table") dx [])) p = none →
      spTabI K [a, b, .ref p] (upd (upd (upd H1 dx (.own x)) x (.ins (He.ga K "Table") dx [])) p (.tup rest)) (fun v H2 => v = .non ∧ R x H2) E := by
  intro x dx hx hdx hne
  refine ⟨_, _, us, rfl, Nat.le_of_lt hl, fun p hp => ?_⟩
  have px : p ≠ x := fun z => by rw [z, upd_same] at hp; cases hp
  have pd : p ≠ dx := fun z => by rw [z, upd_ne hne, upd_same] at hp; cases hp
  have hp1 : H1 p = none := by rw [upd_ne px, upd_ne pd] at hp; exact hp
  have s1 : Same H1 (upd (upd (upd H1 dx (.own x)) x (.ins (He.ga K "Table") dx [])) p (.tup us)) := fun y o hy => by
    rw [upd_ne (ne_of_none hy hp1), upd_ne (ne_of_none hy hx), upd_ne (ne_of_none hy hdx)]
    exact hy
  refine ⟨x, dx, p, c, us, raw, rfl, hc, by rw [upd_ne px.symm, upd_same], upd_same, hl, rows_sl hrs (Sl.of s1), hn, fun H' bt tab => ⟨rfl, k x H' (fun y o hy => ?_) hx tab⟩⟩
  exact bt y o (ne_of_none hy hx) (s1 y o hy)
set_option hygiene false in
local macro_rules | `(tactic| tbr_iter "var") => `(tactic| first | ((with_reducible show W _ (.Name "script" _) _ _ _); refine w_var 0 rfl (by tbr_iter "vis") rfl ?_) | ((with_reducible show W _ (.Name "words" _) _ _ _); refine w_var 1 rfl (by tbr_iter "vis") rfl ?_) | ((with_reducible show W _ (.Name "spot" _) _ _ _); refine w_var 2 rfl (by tbr_iter "vis") rfl ?_) | ((with_reducible show W _ (.Name "base" _) _ _ _); refine w_var 3 rfl (by tbr_iter "vis") rfl ?_) | ((with_reducible show W _ (.Name "told" _) _ _ _); refine w_var 4 rfl (by tbr_iter "vis") rfl ?_) | ((with_reducible show W _ (.Name "due" _) _ _ _); refine w_var 5 rfl (by tbr_iter "vis") rfl ?_) | ((with_reducible show W _ (.Name "word" _) _ _ _); refine w_var 6 rfl (by tbr_iter "vis") rfl ?_))
set_option hygiene false in
local macro_rules | `(tactic| tbr_iter "set") => `(tactic| first | ((with_reducible show WB _ (.Assign [.Name "script" _] _ _ :: _) _ _ _); refine wb_cons (ws_set 0 ?_ rfl nd)) | ((with_reducible show WB _ (.Assign [.Name "words" _] _ _ :: _) _ _ _); refine wb_cons (ws_set 1 ?_ rfl nd)) | ((with_reducible show WB _ (.Assign [.Name "spot" _] _ _ :: _) _ _ _); refine wb_cons (ws_set 2 ?_ rfl nd)) | ((with_reducible show WB _ (.Assign [.Name "base" _] _ _ :: _) _ _ _); refine wb_cons (ws_set 3 ?_ rfl nd)) | ((with_reducible show WB _ (.Assign [.Name "told" _] _ _ :: _) _ _ _); refine wb_cons (ws_set 4 ?_ rfl nd)) | ((with_reducible show WB _ (.Assign [.Name "due" _] _ _ :: _) _ _ _); refine wb_cons (ws_set 5 ?_ rfl nd)) | ((with_reducible show WB _ (.Assign [.Name "word" _] _ _ :: _) _ _ _); refine wb_cons (ws_set 6 ?_ rfl nd)))
theorem ok_law {f : Addr} {fd : FuncData} (T : Txt K mg) (F : FunD K "law" "law" (defArgs s_law) (defBody s_law) (defScope s_law) [] [] f fd) : FnOk P w K mg base (L2.CX P w) 13 f fd ["script"] (spLaw06 K) := by
  refine F.ok sc_law (fun vs H Q E h => ?_) fun cdv A outer s H vs Q E hr h => ⟨_, WB.pss, ?_⟩
  · obtain ⟨a, ns, rfl, _⟩ := h; rfl
  obtain ⟨a, ns, rfl, hs, hl, k⟩ := h
  have nd := sc_law.nd
  have hu : (A.deeper (envOfC "law" (defScope s_law) s.heap.objs.size f cdv)).units + 64 < cLine := by
    have := hr.un
    omega
  have hu0 : (A.deeper (envOfC "law" (defScope s_law) s.heap.objs.size f cdv)).units < cLine := by omega
  refine wb_cons (ws_set 1 (w_call0 (ok_law_languages T) (hr.mono (by decide)) passL ⟨rfl, fun q H1 s1 n1 h1 => ?_⟩) rfl nd)
  refine wb_cons (ws_if (wt_bool (ww_or (wt_cmp (w_glob (glob_ref T.c_LANGUAGES.1) (w_callTy T.z_tuple (wa_cons ?_)))))))
  tbr_iter "go"
  refine kv_tupleL (SqL.of h1) fun q2 H2 s2 n2 h2 => ?_
  refine cv_neD hu (d := langsD) (d' := langsD) (.tup (xs := langL.map V.str) (T.c_LANGUAGES.2 _) (dpa_strs langL)) (.tup (SqT.of h2) (dpa_strs langL)) langs_fine.1 langs_fine.1 ⟨_, rfl, ?_⟩
  rw [langs_fine.2]
  refine iteF (ww_or1 (wt_cmp (w_lcI [("word", 6)] (gName 6) (tWT _ _ _) (fun _ _ _ _ _ => pg_name nd rfl (Or.inl rfl) (Or.inr rfl)) pts_wt rfl nd (by tbr_iter "blk") (lcC_I mono_name mono_wt (wi_val ?_)))))
  tbr_iter "go"
  have h12 := s2 _ _ h1
  refine itv_list (SqL.of h12) ⟨12, _, itN_seq (xs := langL.map V.str) (seqIt_list (SqL.of h12)), by decide, fun _ => none, fun n v H3 hn s3 hv => ?_, fun D H3 s3 n3 h3 => ?_⟩
  · have hv : (langL.map V.str)[n]? = some v := hv
    rw [langs_at n hn] at hv
    cases hv
    obtain ⟨o1, o2⟩ := langs_is n hn
    refine ⟨rfl, fun _ _ _ _ _ => wt_cmp (w_call (ok_is_language T) (hr.mono (by decide)) passL ?_)⟩
    tbr_iter "go"
    refine ⟨_, some (.str (lang n)), rfl, .dat (.str _) o1, fun H4 s4 => ?_⟩
    have e : ((some (PyData.str (lang n))).any isLangD) = true := o2
    rw [e]
    tbr_iter "go"
    exact cv_notB ⟨_, rfl, s4, iteF rfl⟩
  have e : (List.range 12).filterMap (fun _ => (none : Option V)) = [] := rfl
  rw [e] at h3
  tbr_iter "go"
  refine ⟨zero_line, fun pe H4 s4 n4 h4 => cv_ne_nil hu0 (SqL.of (s4 _ _ h3)) (SqL.of h4) ⟨_, rfl, iteF (wb_nil ?_)⟩⟩
  have s04 := s1.trans (s2.trans (s3.trans s4))
  refine wb_cons (ws_for 2 (wi_range1 T.z_range ?_) rfl nd (passes_of rfl))
  tbr_iter "go"
  refine kv_len_seq (Or.inl (s04.seq hs)) ?_
  tbr_iter "go"
  refine ⟨_, rfl, by split <;> split <;> omega, by split <;> split <;> omega, ?_⟩
  generalize hN : (if (if ((ns.map V.int).length : Int) < 5 then ((ns.map V.int).length : Int) else 5) > 1 then (if ((ns.map V.int).length : Int) < 5 then ((ns.map V.int).length : Int) else 5) else 1 : Int).toNat = N
  have hN5 : N ≤ 5 := by rw [← hN]; split <;> split <;> omega
  clear hN
  refine ⟨N, _, _, walk_range, fun i σ Hc => ∃ c2 c3 c4 c5 c6, σ = [some (.ref a), some (.ref q), c2, c3, c4, c5, c6] ∧ Same H Hc, ⟨_, _, _, _, _, rfl, s04⟩, fun _ _ _ _ _ => trivial, ?_, ?_⟩
  · rintro i v σ Hx Hc hi ⟨c2, c3, c4, c5, c6, rfl, sc⟩ ⟨e, rfl⟩
    subst e
    refine wb_cons (ws_if (wt_not (wt_val (w_call (ok_signs_right T) (hr.mono (by decide)) passL (wa_cons (w_call (ok_law_dice T) (hr.mono (by decide)) passL ?_))))))
    tbr_iter "go"
    refine ⟨a, ns, i, by show [V.ref a, V.int (0 + (i : Int))] = _; rw [Int.zero_add], sc.seq hs, hl, by omega, fun p H5 s5 n5 hp5 => wa_nil ⟨p, rfl, hp5, fun H6 s6 => ⟨_, rfl, iteF (wb_nil (wb_nil ⟨_, _, _, _, _, rfl, fun b o hb => ?_⟩))⟩⟩⟩
    have hb5 := (sc.trans s5) b o hb
    exact s6.keep b o hb5 (fun z => by
      have := sc b o hb
      rw [z, n5] at this
      cases this)
  · rintro σ Hc ⟨c2, c3, c4, c5, c6, rfl, sc⟩
    refine wb_cons (ws_set 3 (w_cmeth T.cr_Database T.cm_Database_of (ok_db_of T) (hr.mono (by decide)) passL (w_glob (glob_ref T.g_Database) ⟨rfl, ?_⟩)) rfl nd)
    tbr_iter "go"
    refine ⟨two_line, fun pv H5 s5 n5 h5 => wa_cons (w_dict2 fun pd H6 s6 n6 h6 => ?_)⟩
    refine w_str (w_make T.k_Table (ok_tab_init T) (hr.mono (by decide)) passL (w_glob (glob_ref T.g_Table) ⟨rfl, ?_⟩))
    tbr_iter "go"
    refine ⟨two_line, fun pr H7 s7 n7 h7 => wa_nil (tabI_makeR (c := 2) (us := [.ref pr]) (raw := [["a", "b"]]) (by decide) (show 1 < sizeLine by decide) (.one ⟨pr, rfl, h7⟩) ab_rows fun x1 H8 s8 n8 t1 => ?_)⟩
    refine w_str (w_make T.k_Table (ok_tab_init T) (hr.mono (by decide)) passL (w_glob (glob_ref T.g_Table) ⟨rfl, ?_⟩))
    tbr_iter "go"
    refine tabI_makeR (c := 0) (us := []) (raw := []) (by decide) (by decide) .nil (fun r hr => absurd hr List.not_mem_nil) fun x2 H9 s9 n9 t2 => ?_
    have h69 := s7.trans (s8.trans s9)
    refine ⟨h69 _ _ h6, .inr "to", .inr "at", rfl, rfl, ?_⟩
    have hpd9 := h69 _ _ h6
    have bt9 : Bt pd H9 (upd H9 pd (.dK (putsL [(.inr "to", .ref x1), (.inr "at", .ref x2)]))) := (Bt.refl _ _).upd
    have ep : putsL [((.inr "to" : Key), V.ref x1), (.inr "at", .ref x2)] = [(.inr "to", .ref x1), (.inr "at", .ref x2)] := putsL_id (by
      show ([Sum.inr "to", Sum.inr "at"] : List Key).Nodup
      decide +kernel)
    have pvd : pv ≠ pd := fun z => by
      have := s6 _ _ h5
      rw [z, h6] at this
      cases this
    have sA : Same H5 (upd H9 pd (.dK (putsL [(.inr "to", .ref x1), (.inr "at", .ref x2)]))) := same_upd (s6.trans h69) n6
    have hpv := sA _ _ h5
    have f1 := fit_ab ((t1.same s9).bt hpd9 bt9)
    have f2 := fit_nil (t2.bt hpd9 bt9)
    have hpdA : (upd H9 pd (.dK (putsL [(.inr "to", .ref x1), (.inr "at", .ref x2)]))) pd = some (.dK [(.inr "to", .ref x1), (.inr "at", .ref x2)]) := by rw [upd_same, ep]
    generalize upd H9 pd (.dK (putsL [(.inr "to", .ref x1), (.inr "at", .ref x2)])) = HA at sA hpv f1 f2 hpdA ⊢
    have nm1 : isNameS "to" = true := by decide +kernel
    have nm2 : isNameS "at" = true := by decide +kernel
    refine wa_nil ⟨pd, pv, ["b", "a"], _, rfl, hpdA, (show 2 ≤ 4 by decide), ?_, SqT.of hpv, ba_ok, ?_, fun xb HB ns1 sB nB db pm pw => ?_⟩
    · show ([Sum.inr "to", Sum.inr "at"] : List Key).Nodup
      decide +kernel
    · intro kz hk
      rcases List.mem_cons.mp hk with rfl | hk
      · exact ⟨"to", rfl, nm1, f1⟩
      · rw [List.mem_singleton.mp hk]
        exact ⟨"at", rfl, nm2, f2⟩
    have pm2 : (ns1.map (Sum.inr (α := Int))).Perm ((["at", "to"] : List Str).map Sum.inr) := List.Perm.trans pm (show ([Sum.inr "to", Sum.inr "at"] : List Key).Perm [Sum.inr "at", Sum.inr "to"] from List.Perm.swap _ _ _)
    have ens : ns1 = (["at", "to"] : List Str) := names_eq pm2 pw at_to
    subst ens
    refine wb_cons (ws_set 4 (w_lst (wa_cons (w_call (ok_signs_of T) (hr.mono (by decide)) passL ?_))) rfl nd)
    tbr_iter "go"
    refine ⟨xb, 6, "MadeDatabase", _, ["at", "to"], by decide, rfl, .inr rfl, db, by decide, fun q1 us1 HC sC hC rC => wa_cons (w_call (ok_signs_of T) (hr.mono (by decide)) passL ?_)⟩
    tbr_iter "go"
    refine ⟨xb, 5, "MadeDatabase", _, ["at", "to"], by decide, rfl, .inr rfl, db.same sC, by decide, fun q2 us2 HD sD hD rD => wa_nil ⟨two_line, fun pt HE sE nE hE => ?_⟩⟩
    refine wb_cons (ws_expr (w_bm1 PySem.F.plainAttrs_list PySem.F.slot_list_append PySem.F.type_list_append ?_))
    tbr_iter "go"
    refine ⟨tyV_list ⟨pt, _, rfl, SqL.of hE⟩, w_call (ok_signs_of T) (hr.mono (by decide)) passL (wa_cons (w_make T.k_Database (ok_db_init T) (hr.mono (by decide)) passL (w_glob (glob_ref T.g_Database) ⟨rfl, ?_⟩)))⟩
    tbr_iter "go"
    refine ⟨one_line, fun pa HF sF nF hF => wa_nil fun x dx hx hdx hne => ⟨rfl, fun pk hpk => ?_⟩⟩
    have pkx : pk ≠ x := fun z => by rw [z, upd_same] at hpk; cases hpk
    have pkd : pk ≠ dx := fun z => by rw [z, upd_ne hne, upd_same] at hpk; cases hpk
    have hpk1 : HF pk = none := by rw [upd_ne pkx, upd_ne pkd] at hpk; exact hpk
    have sG : Same HF (upd (upd (upd HF dx (.own x)) x (.ins (He.ga K "Database") dx [])) pk (.dK [])) := fun y o hy => by
      rw [upd_ne (ne_of_none hy hpk1), upd_ne (ne_of_none hy hx), upd_ne (ne_of_none hy hdx)]
      exact hy
    refine ⟨x, dx, pk, pa, ["a"], [], rfl, (upd_ne pkx.symm).trans upd_same, upd_same, by decide, List.nodup_nil, SqT.of (sG _ _ hF), a_ok, (fun kz h => absurd h List.not_mem_nil), fun HG ns2 bt db2 pm2 pw2 => ⟨rfl, ?_⟩⟩
    have ens2 : ns2 = [] := by
      have := pm2.length_eq
      rw [List.length_map] at this
      exact List.eq_nil_of_length_eq_zero this
    subst ens2
    have sFG : Same HF HG := fun y o hy => bt y o (ne_of_none hy hx) (sG y o hy)
    tbr_iter "go"
    refine ⟨x, 0, "Database", _, [], by decide, rfl, .inl rfl, db2, by decide, fun q3 us3 HI sI hI rI => ?_⟩
    have sEI := sF.trans (sFG.trans sI)
    have hpt := sEI _ _ hE
    refine mv_append hpt (show 2 < sizeLine by decide) ?_
    have sl : Sl HI (upd HI pt (.lst ([.ref q1, .ref q2] ++ [.ref q3]))) := (Sl.refl HI).lst hpt
    have d1 := sl _ _ ((sD.trans (sE.trans sEI)) _ _ hC) rfl
    have d2 := sl _ _ ((sE.trans sEI) _ _ hD) rfl
    have d3 := sl _ _ hI rfl
    have r1 := rows_dp (K := K) (rows_sl (rows_sl rC (Sl.of (sD.trans (sE.trans sEI)))) sl)
    have r2 := rows_dp (K := K) (rows_sl (rows_sl rD (Sl.of (sE.trans sEI))) sl)
    have r3 := rows_dp (K := K) (rows_sl rI sl)
    have hptJ : (upd HI pt (.lst ([.ref q1, .ref q2] ++ [.ref q3]))) pt = _ := upd_same
    generalize upd HI pt (.lst ([.ref q1, .ref q2] ++ [.ref q3])) = HJ at d1 d2 d3 r1 r2 r3 hptJ ⊢
    have told : Dp K HJ (.ref pt) toldD := .lst (SqL.of hptJ) (.cons (.tup (SqT.of d1) r1) (.cons (.tup (SqT.of d2) r2) (.cons (.tup (SqT.of d3) r3) .nil)))
    refine wb_cons (ws_set 5 ((show Lit _ _ _ HJ dueD from by unfold dueD; tbr_iter "lt").run HJ _ (Same.refl _) fun v HK sK hv => ?_) rfl nd)
    refine wb_cons (ws_ret (w_and ?_))
    tbr_iter "go"
    refine cv_eqD hu (dp_same sK told) hv told_fine.1 told_fine.2.1 ⟨_, rfl, ?_⟩
    rw [told_fine.2.2]
    exact iteT (w_one (w_call0 (ok_law_pairs T) (hr.mono (by decide)) passL ⟨rfl, fun H' _ => k H'⟩))
end
end Ax
end
section
set_option maxHeartbeats 0
namespace Ax
open PySem PySem.Spec PyProof.Rows L2
theorem law_at {w : World} {K : PySem.W.Frag} {h : Heap} {mg : Str → Option Value} {fa : Addr} (X : K.In h) (G : h.Ns mainGlobals mg) (hfa : mg ("law" : Str) = some (.ref fa)) (c : He5.SaysA faL fnL K) (m : exA K = true) :
    LamX.LawAtS PySem.Challenge.rw_askable_k06_languages w K (L2.CX PySem.Challenge.rw_askable_k06_languages.prog w) 13 63 "script" mg fa h := by
  obtain ⟨m1, m2⟩ := Bool.and_eq_true_iff.mp m
  have T := txt_of X G c m1 m2
  obtain ⟨fd, F⟩ := c.def_ 36 (d := fnL[36]) rfl
  have e := hfa.symm.trans (He.glo_ok X G (c.fact 36 (f := .glo "law") rfl))
  cases e
  have b := FunD.bindsA (ps := ["script"]) F fun _ _ _ _ _ _ us hl => match us, hl with | [_], _ => rfl
  refine ⟨fd, [], spLaw06 K, (fun p hp => absurd hp List.not_mem_nil), (fun p hp => absurd hp List.not_mem_nil), (fun p hp => absurd hp List.not_mem_nil), fun s u => b s [u] rfl, ?_, ?_⟩
  · intro H a ns hl _ ht hs
    exact ⟨a, ns, rfl, hs, hl, fun _ => rfl⟩
  · intro base Kb Gb tb
    exact ok_law T F
end Ax
open PySem PySem.W PySem.Calls PyProof.Rows
theorem PySem.Challenge.cw_askable_k06_languages_holds : PySem.Challenge.rw_askable_k06_languages.Holds := by
  w_on; o_law
  refine HandSHeadRun.head_any (r := OpenLaw.row PySem.Challenge.rw_askable_k06_languages) (q := view (OpenLaw.row PySem.Challenge.rw_askable_k06_languages).prog [62]) (H := Ax.hk) (ob := Ax.ob) (M := 9000) (loose := Ax.loose) (d := HandSHeadRun.topDef (OpenLaw.row PySem.Challenge.rw_askable_k06_languages).prog 62) (kwd := []) Ax.ob_eq
    (by kernel_rfl) (fun s => by kernel_rfl) Ax.run (by kernel_rfl) (by kernel_rfl) (by kernel_rfl) (by rfl) (by first | assumption | decide +kernel) (by decide +kernel) ⟨rfl, rfl, rfl, rfl, rfl, by decide +kernel⟩ ?hw ?hc
  case hw => w_witness2
  case hc =>
    refine LamX.walk_ofTsE (l := PySem.Challenge.rw_askable_k06_languages) (n := 63) (k := 13) (x := "script") (CX := L2.CX PySem.Challenge.rw_askable_k06_languages.prog) rfl (by decide) (by kernel_rfl) ⟨rfl, by decide, by decide⟩ ?F ?hx
    case hx =>
      intro w H s e s' z
      obtain ⟨_, _, _, _, _, _, _, _, _, _, _, _, z⟩ := z
      exact z.elim
    case F =>
      intro w mg fa h Y G hmg0
      obtain ⟨K, KX, c, m⟩ := Y
      have hmg : mg ("law" : PySem.Str) = some (.ref fa) := by
        have e : (HandSHeadRun.topDef (OpenLaw.row PySem.Challenge.rw_askable_k06_languages).prog 62).name = ("law" : PySem.Str) := by kernel_rfl
        rw [← e]
        exact hmg0
      exact ⟨K, KX, Ax.law_at KX G hmg c m⟩
end
