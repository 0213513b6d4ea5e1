import PyProof.Rows.All
import Wide.All
import OpenK.AllK
import Wide.FinOn
import PyProof.EqAt
import PyProof.EqKinds
import PyProof.TupleCall
import HandS.ForMost
import HandS.Exc
import HandS.ExcOwn
import HandS.WordsExc
import HandS.TryOnly
import HandS.Walk
import HandS.IsInst
import HandS.Flow
import HandS.Wide
import HandS.Defaults
import KE.KTreeR
import HandS.HeadNt
import HandS.DictComp
import HandS.Lambda
import HandS.TupAny
import HandS.TupMul
import HandS.DictSub
import KE.DatumOrd
import HandS.Star
import HandS.ClsMeth
import HandS.Property
import KE.SortData
import HandS.Conv
import PyProof.EnumMake
import PyProof.Draws
import HandS.Zip
import HandS.FStr
import HandS.HeadHook4
import PySem.Challenge.RW_askable_k02_picked_and_mapped
import HandS.Head0
import HandS.Head1
import HandS.Head2
import HandS.HeadEnd
import HandS.HeadWalk
import HandS.NestedK
import KE.KStateDown
import KE.KNestM
import HandS.Small
import HandS.Strs
import PyProof.TupleOfSeq
import HandS.Style
import HandS.SetKeys
import HandS.SetFor
import HandS.TupSets
import PyProof.ReprRoads
import PyProof.ReprBulk
import HandS.EndBits
import HandS.Comp
import HandS.OwnEq
import OpenK.KOps
import PyProof.InstNe
set_option Elab.async false
set_option linter.all false
set_option maxRecDepth 100000
section
set_option maxHeartbeats 2000000
namespace Ax
open PySem PySem.Spec PyProof.Rows L2

/-! ### the builtins by their names -/
theorem b_len : bootBuiltins (Str.ofString "len") = some (.builtin "len") := by decide +kernel
theorem b_all : bootBuiltins (Str.ofString "all") = some (.builtin "all") := by decide +kernel
theorem b_any : bootBuiltins (Str.ofString "any") = some (.builtin "any") := by decide +kernel
theorem b_sorted : bootBuiltins (Str.ofString "sorted") = some (.builtin "sorted") := by decide +kernel
theorem b_isinstance : bootBuiltins (Str.ofString "isinstance") = some (.builtin "isinstance") := by decide +kernel
theorem b_abs : bootBuiltins (Str.ofString "abs") = some (.builtin "abs") := by decide +kernel
theorem b_max : bootBuiltins (Str.ofString "max") = some (.builtin "max") := by decide +kernel
theorem b_min : bootBuiltins (Str.ofString "min") = some (.builtin "min") := by decide +kernel
theorem b_sum : bootBuiltins (Str.ofString "sum") = some (.builtin "sum") := by decide +kernel
theorem b_repr : bootBuiltins (Str.ofString "repr") = some (.builtin "repr") := by decide +kernel
theorem b_iter : bootBuiltins (Str.ofString "iter") = some (.builtin "iter") := by decide +kernel
theorem b_ord : bootBuiltins (Str.ofString "ord") = some (.builtin "ord") := by decide +kernel
theorem b_chr : bootBuiltins (Str.ofString "chr") = some (.builtin "chr") := by decide +kernel
theorem b_str : bootBuiltins (Str.ofString "str") = some (.type "str") := by decide +kernel
theorem b_int : bootBuiltins (Str.ofString "int") = some (.type "int") := by decide +kernel
theorem b_bool : bootBuiltins (Str.ofString "bool") = some (.type "bool") := by decide +kernel
theorem b_tuple : bootBuiltins (Str.ofString "tuple") = some (.type "tuple") := by decide +kernel
theorem b_list : bootBuiltins (Str.ofString "list") = some (.type "list") := by decide +kernel
theorem b_dict : bootBuiltins (Str.ofString "dict") = some (.type "dict") := by decide +kernel
theorem b_set : bootBuiltins (Str.ofString "set") = some (.type "set") := by decide +kernel
theorem b_range : bootBuiltins (Str.ofString "range") = some (.type "range") := by decide +kernel
theorem b_enumerate : bootBuiltins (Str.ofString "enumerate") = some (.type "enumerate") := by decide +kernel
theorem b_zip : bootBuiltins (Str.ofString "zip") = some (.type "zip") := by decide +kernel
/-! ### the weakest precondition of a piece of syntax -/
structure W (X : Cx) (e : Expr) (σ : L2.St) (H : Hp) (Q : VK) : Prop where
  run : ∀ (pins : List (Addr × Obj)) (s : Shared), Inv X pins σ H s → wpAny (model X.prog X.w) X.A (eval e X.env) (EP X pins σ Q) X.xe s
structure WT (X : Cx) (e : Expr) (σ : L2.St) (H : Hp) (Q : Bool → Hp → Prop) : Prop where
  run : ∀ (pins : List (Addr × Obj)) (s : Shared), Inv X pins σ H s → wpAny (model X.prog X.w) X.A (isTrue e X.env (eval e X.env)) (TP X pins σ Q) X.xe s
structure WW (X : Cx) (e : Expr) (σ : L2.St) (H : Hp) (Q : Bool → Hp → Prop) : Prop where
  run : ∀ (whole : Sem Value) (pins : List (Addr × Obj)) (s : Shared), Inv X pins σ H s → wpAny (model X.prog X.w) X.A (isTrue e X.env whole) (TP X pins σ Q) X.xe s
structure WA (X : Cx) (es : List Expr) (σ : L2.St) (H : Hp) (Q : List V → Hp → Prop) : Prop where
  run : ∀ (pos : Pos) (pins : List (Addr × Obj)) (s : Shared), Inv X pins σ H s → wpAny (model X.prog X.w) X.A (spliced (backTo pos (starEach es X.env))) (AP X pins σ Q) X.xe s
structure WS (X : Cx) (st : Stmt) (D : Ends) (σ : L2.St) (H : Hp) : Prop where
  run : ∀ (pins : List (Addr × Obj)) (s : Shared), Inv X pins σ H s → wpAny (model X.prog X.w) X.A (exec st X.env) (SP X pins D) X.xe s
structure WB (X : Cx) (st : List Stmt) (D : Ends) (σ : L2.St) (H : Hp) : Prop where
  run : ∀ (pins : List (Addr × Obj)) (s : Shared), Inv X pins σ H s → wpAny (model X.prog X.w) X.A (execs st X.env) (SP X pins D) X.xe s
section
variable {X : Cx} {e a b : Expr} {es : List Expr} {st : Stmt} {bl : List Stmt} {te : TE} {tt : TT} {ta : TA} {ts : TS} {σ : L2.St} {H : Hp} {Q : VK} {D : Ends} {pos : Pos}
theorem W.pe : PE X e (W X e) := ⟨fun pins s _ _ _ I h => h.run pins s I⟩
theorem WT.pt : PT X e (WT X e) := ⟨fun pins s _ _ _ I h => h.run pins s I⟩
theorem WW.pw : PW X e (WW X e) := ⟨fun wh pins s _ _ _ I h => h.run wh pins s I⟩
theorem WA.pa : PA X es (WA X es) := ⟨fun pos pins s _ _ _ I h => h.run pos pins s I⟩
theorem WS.ps : PS X st (WS X st) := ⟨fun pins s _ _ _ I h => h.run pins s I⟩
theorem WB.pss : PSs X bl (WB X bl) := ⟨fun pins s _ _ _ I h => h.run pins s I⟩
theorem W.of (h : PE X e te) (q : te σ H Q) : W X e σ H Q := ⟨fun pins s I => h.run pins s σ H Q I q⟩
theorem WT.of {Q : Bool → Hp → Prop} (h : PT X e tt) (q : tt σ H Q) : WT X e σ H Q := ⟨fun pins s I => h.run pins s σ H Q I q⟩
theorem WW.of {Q : Bool → Hp → Prop} (h : PW X e tt) (q : tt σ H Q) : WW X e σ H Q := ⟨fun wh pins s I => h.run wh pins s σ H Q I q⟩
theorem WA.of {Q : List V → Hp → Prop} (h : PA X es ta) (q : ta σ H Q) : WA X es σ H Q := ⟨fun pos pins s I => h.run pos pins s σ H Q I q⟩
theorem WS.of (h : PS X st ts) (q : ts D σ H) : WS X st D σ H := ⟨fun pins s I => h.run pins s σ H D I q⟩
theorem WB.of (h : PSs X bl ts) (q : ts D σ H) : WB X bl D σ H := ⟨fun pins s I => h.run pins s σ H D I q⟩
theorem W.mono {Q' : VK} (h : W X e σ H Q) (k : ∀ v H', Q v H' → Q' v H') : W X e σ H Q' := ⟨fun pins s I => thn (h.run pins s I) fun _ _ ⟨v, H', J, r, q⟩ => ⟨v, H', J, r, k v H' q⟩⟩
theorem WT.mono {Q Q' : Bool → Hp → Prop} (h : WT X e σ H Q) (k : ∀ v H', Q v H' → Q' v H') : WT X e σ H Q' := ⟨fun pins s I => thn (h.run pins s I) fun _ _ ⟨H', J, q⟩ => ⟨H', J, k _ H' q⟩⟩
theorem WA.mono {Q Q' : List V → Hp → Prop} (h : WA X es σ H Q) (k : ∀ v H', Q v H' → Q' v H') : WA X es σ H Q' := ⟨fun pos pins s I => thn (h.run pos pins s I) fun _ _ ⟨v, H', J, r, q⟩ => ⟨v, H', J, r, k v H' q⟩⟩
/-! ### names, constants -/
theorem w_var (i : Nat) {x : Str} {v : V} (hN : X.N[i]? = some x) (hv : Vis X.env.scope x) (hs : σ[i]? = some (some v)) (h : Q v H) (hd : (x == ("__debug__" : Str)) = false := by decide) (hcd : (x == ("__classdict__" : Str)) = false := by decide) :
    W X (.Name x pos) σ H Q := W.of (pe_var hN hv hd hcd) ⟨v, hs, h⟩
theorem w_int {i j} (h : Q (.int i) H) : W X (.Constant (.int i) j pos) σ H Q := W.of pe_int h
theorem w_str {x j} (h : Q (.str x) H) : W X (.Constant (.str x) j pos) σ H Q := W.of pe_str h
theorem w_bl {x j} (h : Q (.bl x) H) : W X (.Constant (.bool x) j pos) σ H Q := W.of pe_bl h
theorem w_non {j} (h : Q .non H) : W X (.Constant .none j pos) σ H Q := W.of pe_non h
theorem w_glob {x : Str} {v : V} (hm : ∃ u, X.mg x = some u ∧ RelV v u) (h : Q v H) (hg : Gl X x := by rfl) (hd : (x == ("__debug__" : Str)) = false := by decide) : W X (.Name x pos) σ H Q := by
  obtain ⟨u, hm, r⟩ := hm
  exact W.of (pe_glob hg hm r hd) h
theorem w_bltT {T : String} (hm : X.mg (Str.ofString T) = none) (h : Q (.ty T) H) (hv : bootBuiltins (Str.ofString T) = some (.type T) := by tbr_iter "boot") (hg : Gl X (Str.ofString T) := by rfl) (hn : (Str.ofString T) ≠ "__name__" := by decide)
    (hd : ((Str.ofString T) == ("__debug__" : Str)) = false := by decide) : W X (.Name (Str.ofString T) pos) σ H Q := W.of (pe_bltn (v := .ty T) hg hm hv rfl hn hd) h
/-! ### operators: the rule is chosen behind the operands -/
structure BinV (X : Cx) (op : Operator) (x y : V) (H : Hp) (Q : VK) : Prop where
  ex : ∃ r : R2, OpR X (binaryOp op) r ∧ r x y H Q
structure CmpV (X : Cx) (op : CmpOp) (x y : V) (H : Hp) (Q : VK) : Prop where
  ex : ∃ r : R2, OpR X (compareOp op) r ∧ r x y H Q
structure UnV (X : Cx) (op : UnaryOp) (x : V) (H : Hp) (Q : VK) : Prop where
  ex : ∃ r : V → Hp → VK → Prop, UnR X (unaryOp op) r ∧ r x H Q
structure IxV (X : Cx) (x y : V) (H : Hp) (Q : VK) : Prop where
  ex : ∃ r : R2, IxR X r ∧ r x y H Q
structure CallV (X : Cx) (f : Value) (vs : List V) (H : Hp) (Q : VK) : Prop where
  ex : ∃ r : List V → Hp → VK → Prop, CallR X f r ∧ r vs H Q
structure MtV (X : Cx) (id : String) (x : V) (vs : List V) (H : Hp) (Q : VK) : Prop where
  ex : ∃ r : V → List V → Hp → VK → Prop, MtR X id r ∧ r x vs H Q
theorem binV_r {op : Operator} : OpR X (binaryOp op) (BinV X op) := fun pins s σ H x y v u Q I rx ry ⟨_, ho, h⟩ => ho pins s σ H x y v u Q I rx ry h
theorem cmpV_r {op : CmpOp} : OpR X (compareOp op) (CmpV X op) := fun pins s σ H x y v u Q I rx ry ⟨_, ho, h⟩ => ho pins s σ H x y v u Q I rx ry h
theorem unV_r {op : UnaryOp} : UnR X (unaryOp op) (UnV X op) := fun pins s σ H x v Q I rx ⟨_, ho, h⟩ => ho pins s σ H x v Q I rx h
theorem ixV_r : IxR X (IxV X) := fun a b pins s σ H x y v u Q I rx ry ⟨_, ho, h⟩ z => ho a b pins s σ H x y v u Q I rx ry h z
theorem callV_r {f : Value} : CallR X f (CallV X f) := fun pins s σ H xs us Q I r ⟨_, ho, h⟩ => ho pins s σ H xs us Q I r h
theorem mtV_r {id : String} : MtR X id (MtV X id) := fun pins s σ H x xs v us Q I rx r ⟨_, ho, h⟩ => ho pins s σ H x xs v us Q I rx r h
theorem w_bin {op : Operator} (h : W X a σ H fun x H1 => W X b σ H1 fun y H2 => BinV X op x y H2 Q) : W X (.BinOp a op b pos) σ H Q := W.of (pe_op binV_r W.pe W.pe) h
theorem w_un {op : UnaryOp} (h : W X a σ H fun x H1 => UnV X op x H1 Q) : W X (.UnaryOp op a pos) σ H Q := W.of (pe_un unV_r W.pe) h
theorem w_cmp {op : CmpOp} (h : W X a σ H fun x H1 => W X b σ H1 fun y H2 => CmpV X op x y H2 Q) (hm : behindInMarks op b = false := by rfl) : W X (.Compare a [op] [b] pos) σ H Q := W.of (pe_cmpR cmpV_r W.pe W.pe hm) h
theorem wt_cmp {op : CmpOp} {Q : Bool → Hp → Prop} (h : W X a σ H fun x H1 => W X b σ H1 fun y H2 => CmpV X op x y H2 fun z H3 => ∃ c, z = .bl c ∧ Q c H3) (hm : behindInMarks op b = false := by rfl) : WT X (.Compare a [op] [b] pos) σ H Q :=
  WT.of (pt_cmpR cmpV_r W.pe W.pe hm) h
theorem w_chain {c : Expr} {op op' : CmpOp} (h : W X a σ H fun x H1 => W X b σ H1 fun y H2 => CmpV X op x y H2 fun z H3 => ∃ k, z = .bl k ∧ (if k = true then W X c σ H3 fun w' H4 => CmpV X op' y w' H4 Q else Q (.bl false) H3))
    (hm : lastMarks [op, op'] [b, c] = false := by with_unfolding_all rfl) : W X (.Compare a [op, op'] [b, c] pos) σ H Q := W.of (pe_chain cmpV_r cmpV_r W.pe W.pe W.pe hm) h
theorem w_ix (h : W X a σ H fun x H1 => W X b σ H1 fun y H2 => IxV X x y H2 Q) (hs : PlainIx b := by exact fun _ _ => rfl) : W X (.Subscript a b pos) σ H Q := W.of (pe_ix ixV_r W.pe W.pe hs) h
theorem w_ifExp {c : Expr} (h : WT X c σ H fun k H1 => if k = true then W X a σ H1 Q else W X b σ H1 Q) : W X (.IfExp c a b pos) σ H Q := W.of (pe_ifExp WT.pt W.pe W.pe) h
theorem w_and {rest : List Expr} (h : W X a σ H fun x H1 => ∃ c, x = .bl c ∧ if c = true then W X (.BoolOp .And (b :: rest) pos) σ H1 Q else Q (.bl false) H1) : W X (.BoolOp .And (a :: b :: rest) pos) σ H Q := W.of (pe_and W.pe W.pe) h
theorem w_or {rest : List Expr} (h : W X a σ H fun x H1 => ∃ c, x = .bl c ∧ if c = true then Q (.bl true) H1 else W X (.BoolOp .Or (b :: rest) pos) σ H1 Q) : W X (.BoolOp .Or (a :: b :: rest) pos) σ H Q := W.of (pe_or W.pe W.pe) h
theorem w_one {op} (h : W X a σ H Q) : W X (.BoolOp op [a] pos) σ H Q := W.of (pe_one W.pe) h
theorem w_not (h : W X a σ H fun x H1 => ∃ c, x = .bl c ∧ Q (.bl (!c)) H1) : W X (.UnaryOp .Not a pos) σ H Q := W.of (pe_not W.pe) h
/-! ### tests -/
section
variable {Q : Bool → Hp → Prop}
theorem wt_val (h : W X e σ H fun x H1 => ∃ c, x = .bl c ∧ Q c H1) (he : ∀ whole, isTrue e X.env whole = (do let v ← whole; standAt e.pos; holding [v] (truthy v)) := by intro _; rfl) : WT X e σ H Q := WT.of (pt_val W.pe he) h
theorem wt_truth (h : W X e σ H fun x H1 => ∃ k, TruV X.K x H1 k ∧ Q k H1) (he : ∀ whole, isTrue e X.env whole = (do let v ← whole; standAt e.pos; holding [v] (truthy v)) := by intro _; rfl) : WT X e σ H Q := WT.of (pt_truth W.pe he) h
theorem wt_not (h : WT X a σ H fun c H1 => Q (!c) H1) : WT X (.UnaryOp .Not a pos) σ H Q := WT.of (pt_not WT.pt) h
theorem wt_bool {op} {es : List Expr} (h : WW X (.BoolOp op es pos) σ H Q) : WT X (.BoolOp op es pos) σ H Q := ⟨fun pins s I => h.run _ pins s I⟩
theorem ww_and {rest : List Expr} (h : WT X a σ H fun c H1 => if c = true then WW X (.BoolOp .And (b :: rest) pos) σ H1 Q else Q false H1) : WW X (.BoolOp .And (a :: b :: rest) pos) σ H Q := WW.of (pw_and WT.pt WW.pw) h
theorem ww_and1 (h : WT X a σ H Q) : WW X (.BoolOp .And [a] pos) σ H Q := WW.of (pw_and1 WT.pt) h
theorem ww_or {rest : List Expr} (h : WT X a σ H fun c H1 => if c = true then Q true H1 else WW X (.BoolOp .Or (b :: rest) pos) σ H1 Q) : WW X (.BoolOp .Or (a :: b :: rest) pos) σ H Q := WW.of (pw_or WT.pt WW.pw) h
theorem ww_or1 (h : WT X a σ H Q) : WW X (.BoolOp .Or [a] pos) σ H Q := WW.of (pw_or1 WT.pt) h
end
/-! ### arguments, displays -/
theorem wa_nil {Q : List V → Hp → Prop} (h : Q [] H) : WA X [] σ H Q := WA.of pa_nil h
theorem wa_cons {Q : List V → Hp → Prop} (h : W X e σ H fun x H1 => WA X es σ H1 fun xs H2 => Q (x :: xs) H2) (hs : starEach (e :: es) X.env = (false, eval e X.env) :: starEach es X.env := by rfl) : WA X (e :: es) σ H Q := WA.of (pa_cons W.pe WA.pa hs) h
theorem w_tup {x1} (h : WA X es σ H fun xs H1 => xs.length ≤ sizeLine ∧ ∀ p H2, Same H1 H2 → H1 p = none → H2 p = some (.tup xs) → Q (.ref p) H2) : W X (.Tuple es x1 pos) σ H Q :=
  W.of (pe_tup WA.pa) (show WA X es σ H _ from WA.mono h fun xs H1 ⟨z, k⟩ => ⟨z, fun p hp => k p _ (fun b o eb => by rw [upd_ne (ne_of_none eb hp)]; exact eb) hp upd_same⟩)
theorem w_lst (h : WA X es σ H fun xs H1 => xs.length ≤ sizeLine ∧ ∀ p H2, Same H1 H2 → H1 p = none → H2 p = some (.lst xs) → Q (.ref p) H2) : W X (.List es pos) σ H Q :=
  W.of (pe_lst WA.pa) (show WA X es σ H _ from WA.mono h fun xs H1 ⟨z, k⟩ => ⟨z, fun p hp => k p _ (fun b o eb => by rw [upd_ne (ne_of_none eb hp)]; exact eb) hp upd_same⟩)
/-! ### calls of builtins by name -/
theorem w_callB {id : String} {p : Pos} (hm : X.mg (Str.ofString id) = none) (h : WA X (e :: es) σ H fun vs H1 => CallV X (.builtin id) vs H1 Q) (hv : bootBuiltins (Str.ofString id) = some (.builtin id) := by tbr_iter "boot") (hg : Gl X (Str.ofString id) := by rfl) (hn : (Str.ofString id) ≠ "__name__" := by decide)
    (hdb : ((Str.ofString id) == ("__debug__" : Str)) = false := by decide) (he : starEach (e :: es) X.env = (false, eval e X.env) :: starEach es X.env := by rfl) (hpl : (backTo pos (starEach es X.env)).any (·.1) = false := by rfl) : W X (.Call (.Name (Str.ofString id) p) (e :: es) [] pos) σ H Q :=
  W.of (pe_callB callV_r hg hm hv WA.pa hn hdb he hpl) h
theorem w_callTy {T : String} {p : Pos} (hm : X.mg (Str.ofString T) = none) (h : WA X (e :: es) σ H fun vs H1 => CallV X (.type T) vs H1 Q) (hv : bootBuiltins (Str.ofString T) = some (.type T) := by tbr_iter "boot") (hg : Gl X (Str.ofString T) := by rfl) (hn : (Str.ofString T) ≠ "__name__" := by decide)
    (hdb : ((Str.ofString T) == ("__debug__" : Str)) = false := by decide) (he : starEach (e :: es) X.env = (false, eval e X.env) :: starEach es X.env := by rfl) (hpl : (backTo pos (starEach es X.env)).any (·.1) = false := by rfl) : W X (.Call (.Name (Str.ofString T) p) (e :: es) [] pos) σ H Q :=
  W.of (pe_callTy callV_r hg hm hv WA.pa hn hdb he hpl) h
end
end Ax
end
section
set_option maxHeartbeats 2000000
namespace Ax
open PySem PySem.Spec PyProof.Rows L2

/-! ### heaps: what stands -/
/-- all but lists, dicts and soft things stand -/
def softO : HO → Bool
  | .lst _ => true
  | .dK _ => true
  | .dT _ => true
  | .set _ _ => true
  | .tbl _ => true
  | .ext _ => true
  | _ => false
def Sl (H H' : Hp) : Prop := ∀ a o, H a = some o → softO o = false → H' a = some o
theorem Sl.refl (H : Hp) : Sl H H := fun _ _ h _ => h
theorem Sl.trans {H H1 H2 : Hp} (a : Sl H H1) (b : Sl H1 H2) : Sl H H2 := fun c o h n => b c o (a c o h n) n
theorem Sl.of {H H' : Hp} (e : Same H H') : Sl H H' := fun b o h _ => e b o h
theorem Sl.lst {H H' : Hp} {p : Addr} {xs ys : List V} (e : Sl H H') (h : H' p = some (.lst xs)) : Sl H (upd H' p (.lst ys)) := fun a o ha hs => by
  have h1 := e a o ha hs
  by_cases z : a = p
  · rw [z, h] at h1
    cases h1
    cases hs
  · rw [upd_ne z]
    exact h1
theorem Sl.upd {H H' : Hp} {p : Addr} {o u : HO} (e : Sl H H') (h : H' p = some o) (hs : softO o = true) : Sl H (upd H' p u) := fun a v ha hv => by
  have h1 := e a v ha hv
  by_cases z : a = p
  · rw [z, h] at h1
    cases h1
    rw [hs] at hv
    cases hv
  · rw [upd_ne z]
    exact h1
theorem Sl.tup {K : PySem.W.Frag} {H H' : Hp} {a : Addr} {xs : List V} (e : Sl H H') (h : SqT K H a xs) : SqT K H' a xs := by
  rcases h with (h | ⟨o, h⟩) | h
  · exact .inl (.inl (e _ _ h rfl))
  · exact .inl (.inr ⟨o, e _ _ h rfl⟩)
  · exact .inr h
theorem same_tup {K : PySem.W.Frag} {H H' : Hp} {a : Addr} {xs : List V} (e : Same H H') (h : SqT K H a xs) : SqT K H' a xs := Sl.tup (Sl.of e) h
theorem same_upd {H H' : Hp} {p : Addr} {o : HO} (e : Same H H') (n : H p = none) : Same H (upd H' p o) := fun a u ha => by
  rw [upd_ne (ne_of_none ha n)]
  exact e a u ha
theorem same_new {H : Hp} {p : Addr} {o : HO} (n : H p = none) : Same H (upd H p o) := same_upd (Same.refl H) n
theorem same_nul {H H' : Hp} {p : Addr} (e : Same H H') (h : H' p = none) : H p = none := Same.free e h
/-! ### data -/
mutual
theorem dp_same {K : PySem.W.Frag} {H H' : Hp} (s : Same H H') : ∀ {d : PyData} {v : V}, Dp K H v d → Dp K H' v d
  | .none, _, h => by cases h; exact .non
  | .bool _, _, h => by cases h; exact .bl _
  | .int _, _, h => by cases h; exact .int _
  | .str _, _, h => by cases h; exact .str _
  | .list ds, _, h => by
    cases h with
    | lst hs ha => exact .lst (s.seq hs) (dpa_same s ha)
  | .tuple ds, _, h => by
    cases h with
    | tup hs ha => exact .tup (same_tup s hs) (dpa_same s ha)
  | .dict _, _, h => by cases h
theorem dpa_same {K : PySem.W.Frag} {H H' : Hp} (s : Same H H') : ∀ {ds : List PyData} {vs : List V}, DpAll K H vs ds → DpAll K H' vs ds
  | [], _, h => by cases h; exact .nil
  | d :: ds, _, h => by
    cases h with
    | cons h1 h2 => exact .cons (dp_same s h1) (dpa_same s h2)
end
mutual
def hard : PyData → Bool
  | .list _ => false
  | .tuple ds => hardAll ds
  | .dict _ => false
  | _ => true
def hardAll : List PyData → Bool
  | [] => true
  | d :: ds => hard d && hardAll ds
end
mutual
theorem dp_sl {K : PySem.W.Frag} {H H' : Hp} (s : Sl H H') : ∀ {d : PyData} {v : V}, hard d = true → Dp K H v d → Dp K H' v d
  | .none, _, _, h => by cases h; exact .non
  | .bool _, _, _, h => by cases h; exact .bl _
  | .int _, _, _, h => by cases h; exact .int _
  | .str _, _, _, h => by cases h; exact .str _
  | .list ds, _, hd, h => by simp [hard] at hd
  | .tuple ds, _, hd, h => by
    cases h with
    | tup hs ha => exact .tup (s.tup hs) (dpa_sl s (by simpa [hard] using hd) ha)
  | .dict _, _, _, h => by cases h
theorem dpa_sl {K : PySem.W.Frag} {H H' : Hp} (s : Sl H H') : ∀ {ds : List PyData} {vs : List V}, hardAll ds = true → DpAll K H vs ds → DpAll K H' vs ds
  | [], _, _, h => by cases h; exact .nil
  | d :: ds, _, hd, h => by
    cases h with
    | cons h1 h2 =>
      have z : hard d = true ∧ hardAll ds = true := by simpa [hardAll] using hd
      exact .cons (dp_sl s z.1 h1) (dpa_sl s z.2 h2)
end
theorem dpa_len {K : PySem.W.Frag} {H : Hp} : ∀ {ds : List PyData} {vs : List V}, DpAll K H vs ds → vs.length = ds.length
  | [], _, h => by cases h; rfl
  | d :: ds, _, h => by
    cases h with
    | cons h1 h2 => simp [dpa_len h2]
theorem dpa_get {K : PySem.W.Frag} {H : Hp} : ∀ {ds : List PyData} {vs : List V} {i : Nat} {v : V}, DpAll K H vs ds → vs[i]? = some v → ∃ d, ds[i]? = some d ∧ Dp K H v d
  | [], _, i, v, h, e => by cases h; simp at e
  | d :: ds, _, i, v, h, e => by
    cases h with
    | cons h1 h2 =>
      cases i with
      | zero => simp at e; subst e; exact ⟨d, rfl, h1⟩
      | succ i =>
        obtain ⟨d', e1, e2⟩ := dpa_get (i := i) h2 (by simpa using e)
        exact ⟨d', by simpa using e1, e2⟩
theorem dpa_getD {K : PySem.W.Frag} {H : Hp} : ∀ {ds : List PyData} {vs : List V} {i : Nat} {d : PyData}, DpAll K H vs ds → ds[i]? = some d → ∃ v, vs[i]? = some v ∧ Dp K H v d
  | [], _, i, v, h, e => by simp at e
  | d :: ds, _, i, v, h, e => by
    cases h with
    | cons h1 h2 =>
      cases i with
      | zero => simp at e; subst e; exact ⟨_, rfl, h1⟩
      | succ i =>
        obtain ⟨d', e1, e2⟩ := dpa_getD (i := i) h2 (by simpa using e)
        exact ⟨d', by simpa using e1, e2⟩
theorem dpa_app {K : PySem.W.Frag} {H : Hp} : ∀ {ds es : List PyData} {vs us : List V}, DpAll K H vs ds → DpAll K H us es → DpAll K H (vs ++ us) (ds ++ es)
  | [], _, _, _, h, g => by cases h; exact g
  | d :: ds, _, _, _, h, g => by
    cases h with
    | cons h1 h2 => exact .cons h1 (dpa_app h2 g)
theorem dpa_one {K : PySem.W.Frag} {H : Hp} {v : V} {d : PyData} (h : Dp K H v d) : DpAll K H [v] [d] := .cons h .nil
/-! ### a def that can be called -/
structure Callee (P : Program) (w : World) (K : PySem.W.Frag) (mg : Str → Option Value) (base : Heap) (x : Str) (k : Nat) (ps : List Str) (sp : Sp) : Prop where
  ex : ∃ f fd, FnOk P w K mg base (L2.CX P w) k f fd ps sp ∧ Binds K fd ps [] ∧ mg x = some (.ref f) ∧ PySem.W.keepIn K (.ref f) = true
section
variable {X : Cx} {e a b : Expr} {es : List Expr} {st : Stmt} {bl rest : List Stmt} {σ : L2.St} {H : Hp} {Q : VK} {D : Ends} {pos : Pos}
theorem w_call {x : Str} {k : Nat} {ps : List Str} {sp : Sp} {p : Pos} {E : XK} (C : Callee X.prog X.w X.K X.mg X.base x k ps sp) (hr : Room k X.A) (hx : Passes (L2.CX X.prog X.w) X E) (h : WA X (e :: es) σ H fun vs H1 => sp vs H1 Q E) (hg : Gl X x := by rfl)
    (hdb : (x == ("__debug__" : Str)) = false := by decide) (he : starEach (e :: es) X.env = (false, eval e X.env) :: starEach es X.env := by rfl) (hpl : (backTo pos (starEach es X.env)).any (·.1) = false := by rfl) : W X (.Call (.Name x p) (e :: es) [] pos) σ H Q := by
  obtain ⟨f, fd, F, B, hm, hk⟩ := C.ex
  refine W.of (pe_call F hr hg hm hk B .nil hx WA.pa hdb he hpl) ?_
  show WA X (e :: es) σ H _
  exact WA.mono h fun vs H1 q => by rw [List.append_nil]; exact q
/-! ### statements -/
theorem wb_nil (h : D.nx σ H) : WB X [] D σ H := WB.of pss_nil h
theorem wb_cons (h : WS X st { D with nx := WB X rest D } σ H) : WB X (st :: rest) D σ H := WB.of (pss_cons WS.ps WB.pss) h
theorem ws_ret (h : W X e σ H D.rt) : WS X (.Return (some e) pos) D σ H := WS.of (ps_ret W.pe) h
theorem ws_retN (h : D.rt .non H) : WS X (.Return none pos) D σ H := WS.of ps_retN h
theorem ws_pass (h : D.nx σ H) : WS X (.Pass pos) D σ H := WS.of ps_pass h
theorem ws_break (h : D.bk σ H) : WS X (.Break pos) D σ H := WS.of ps_break h
theorem ws_continue (h : D.ct σ H) : WS X (.Continue pos) D σ H := WS.of ps_continue h
theorem ws_expr (h : W X e σ H fun _ H1 => D.nx σ H1) (hs : swapsWith e none pos.line X.env = pure false := by rfl) : WS X (.Expr e pos) D σ H := WS.of (ps_expr W.pe hs) h
theorem ws_if {c : Expr} {u v : List Stmt} (h : WT X c σ H fun k H1 => if k = true then WB X u D σ H1 else WB X v D σ H1) : WS X (.If c u v pos) D σ H := WS.of (ps_if WT.pt WB.pss WB.pss) h
theorem ws_set (i : Nat) {x : Str} {p2 : Pos} (h : W X e σ H fun v H1 => D.nx (σ.set i (some v)) H1) (hi : X.N[i]? = some x) (hN : X.N.Nodup) (hx : Loc X.env.scope x := by first | exact Or.inl rfl | exact Or.inr rfl)
    (hs : swapsWith e (some (.Name x p2)) pos.line X.env = pure false := by rfl) (hf : X.fn x = true ∨ X.env.scope.names.lookup x = some .local := by first | exact Or.inl rfl | exact Or.inr rfl) : WS X (.Assign [.Name x p2] e pos) D σ H :=
  WS.of (ps_set hN hi hx W.pe hs hf) h
structure SetV (X : Cx) (o i v : V) (H : Hp) (Q : Hp → Prop) : Prop where
  ex : ∃ r : TSet, PSet X r ∧ r o i v H Q
theorem setV_r : PSet X (SetV X) := fun pins s σ H o i v ov iv u Q I ro ri rv ⟨_, hs, h⟩ => hs pins s σ H o i v ov iv u Q I ro ri rv h
theorem ws_sub {o i : Expr} {p : Pos} (h : W X e σ H fun v H1 => W X o σ H1 fun ov H2 => W X i σ H2 fun iv H3 => SetV X ov iv v H3 fun H4 => D.nx σ H4)
    (hs : swapsWithSole [.Subscript o i p] e pos.line X.env = pure false := by rfl) (hw : swappedStores [.Subscript o i p] e X.env = pure none := by rfl)
    (ha : ∀ v, assign (.Subscript o i p) X.env v = (do
      let ov ← holding [v] (eval o X.env)
      let iv ← holding [v, ov] (eval i X.env)
      standAt p
      holding [v, ov, iv] (setItem ov iv v)
      release [v, ov, iv] []) := by intro _; rfl) : WS X (.Assign [.Subscript o i p] e pos) D σ H :=
  WS.of (ps_asg W.pe (pg_sub W.pe W.pe setV_r ha) hs hw) h
theorem sv_list {p : Addr} {xs : List V} {k : Int} {j : Nat} {v : V} {Q : Hp → Prop} (hp : H p = some (.lst xs)) (hj : ixN xs.length k = some j) (h : Q (upd H p (.lst (xs.set j v)))) : SetV X (.ref p) (.int k) v H Q := ⟨_, set_list, p, xs, k, j, rfl, rfl, hp, hj, h⟩
/-- if by its two ways -/
theorem w_if2 {c : Bool} {A B : Prop} (h1 : c = true → A) (h2 : c = false → B) : if c = true then A else B := by
  cases c with
  | true => rw [if_pos rfl]; exact h1 rfl
  | false => rw [if_neg Bool.false_ne_true]; exact h2 rfl
/-! ### operators by values -/
variable {x y : V}
theorem bv_add {i j : Int} (h : Q (.int (i + j)) H) : BinV X .Add (.int i) (.int j) H Q := ⟨_, op_add, i, j, rfl, rfl, h⟩
theorem bv_sub {i j : Int} (h : Q (.int (i - j)) H) : BinV X .Sub (.int i) (.int j) H Q := ⟨_, op_sub, i, j, rfl, rfl, h⟩
theorem bv_mul {i j : Int} (c : CMul i j) (h : Q (.int (i * j)) H) : BinV X .Mult (.int i) (.int j) H Q := ⟨_, op_mul, i, j, rfl, rfl, c, h⟩
theorem bv_mulW {i j : Int} (c : CMulW i j) (h : Q (.int (i * j)) H) : BinV X .Mult (.int i) (.int j) H Q := ⟨_, op_mulW, i, j, rfl, rfl, c, h⟩
theorem bv_mod {i j : Int} (c : 0 < j) (h : Q (.int (i % j)) H) : BinV X .Mod (.int i) (.int j) H Q := ⟨_, op_mod, i, j, rfl, rfl, c, h⟩
theorem bv_fdiv {i j : Int} (c : CDiv i j) (h : Q (.int (i / j)) H) : BinV X .FloorDiv (.int i) (.int j) H Q := ⟨_, op_fdiv, i, j, rfl, rfl, c, h⟩
def CPowW (i j : Int) : Prop := 0 ≤ j ∧ (Builtin.Int.intBits i : Int) * j ≤ 2 ^ 27
theorem op_powW : OpR X (binaryOp .Pow) (rI CPowW fun i j => .int (i ^ j.toNat)) := opI fun _ _ _ _ _ _ _ hc q => pow_int hc.1 hc.2 q
theorem bv_pow {i j : Int} (c : CPowW i j) (h : Q (.int (i ^ j.toNat)) H) : BinV X .Pow (.int i) (.int j) H Q := ⟨_, op_powW, i, j, rfl, rfl, c, h⟩
theorem bv_cat {p q : Addr} {xs ys : List V} (h1 : H p = some (.lst xs)) (h2 : H q = some (.lst ys)) (hl : xs.length + ys.length ≤ sizeLine) (h : ∀ r H2, Same H H2 → H r = none → H2 r = some (.lst (xs ++ ys)) → Q (.ref r) H2) : BinV X .Add (.ref p) (.ref q) H Q :=
  ⟨_, op_cat, p, q, xs, ys, rfl, rfl, h1, h2, hl, fun r hr => h r _ (same_new hr) hr upd_same⟩
theorem cv_lt {i j : Int} (h : Q (.bl (decide (i < j))) H) : CmpV X .Lt (.int i) (.int j) H Q := ⟨_, op_lt, i, j, rfl, rfl, h⟩
theorem cv_le {i j : Int} (h : Q (.bl (decide (i ≤ j))) H) : CmpV X .LtE (.int i) (.int j) H Q := ⟨_, op_le, i, j, rfl, rfl, h⟩
theorem cv_gt {i j : Int} (h : Q (.bl (decide (j < i))) H) : CmpV X .Gt (.int i) (.int j) H Q := ⟨_, op_gt, i, j, rfl, rfl, h⟩
theorem cv_ge {i j : Int} (h : Q (.bl (decide (j ≤ i))) H) : CmpV X .GtE (.int i) (.int j) H Q := ⟨_, op_ge, i, j, rfl, rfl, h⟩
theorem cv_eq (s : scal x y = true) (h : Q (.bl (decide (x = y))) H) : CmpV X .Eq x y H Q := ⟨_, op_eq, s, h⟩
theorem cv_ne (s : scal x y = true) (h : Q (.bl (!decide (x = y))) H) : CmpV X .NotEq x y H Q := ⟨_, op_ne, s, h⟩
theorem cv_eqD {d d' : PyData} (hu : X.A.units + 64 < cLine) (h1 : Dp X.K H x d) (h2 : Dp X.K H y d') (s1 : SeqAt.shaped d = true) (s2 : SeqAt.shaped d' = true) (h : Q (.bl (PyData.eqv d d')) H) : CmpV X .Eq x y H Q := ⟨_, op_eqD hu, d, d', h1, h2, s1, s2, h⟩
theorem cv_neD {d d' : PyData} (hu : X.A.units + 64 < cLine) (h1 : Dp X.K H x d) (h2 : Dp X.K H y d') (s1 : SeqAt.shaped d = true) (s2 : SeqAt.shaped d' = true) (h : Q (.bl (!PyData.eqv d d')) H) : CmpV X .NotEq x y H Q := ⟨_, op_neD hu, d, d', h1, h2, s1, s2, h⟩
theorem cv_leS {s t : Str} (h : Q (.bl (!decide (t.cps.toList < s.cps.toList))) H) : CmpV X .LtE (.str s) (.str t) H Q := by
  first
    | exact ⟨_, op_le_str, s, t, rfl, rfl, h⟩
    | (refine ⟨_, op_le_str, s, t, rfl, rfl, ?_⟩; simpa using h)
theorem cv_inSign {s : Str} {c : Nat} (h : Q (.bl (decide (c ∈ s.cps.toList))) H) : CmpV X .In (.str ⟨#[c]⟩) (.str s) H Q := ⟨_, op_in_sign, c, s, rfl, rfl, h⟩
theorem cv_inSeq {p : Addr} {xs : List V} (h1 : SqL X.K H p xs ∨ SqT X.K H p xs) (fx : flatV x = true) (fa : xs.all flatV = true) (h : Q (.bl (inV x xs)) H) : CmpV X .In x (.ref p) H Q := ⟨_, op_in_seq, p, xs, rfl, h1, fx, fa, by simpa using h⟩
theorem cv_notInSeq {p : Addr} {xs : List V} (h1 : SqL X.K H p xs ∨ SqT X.K H p xs) (fx : flatV x = true) (fa : xs.all flatV = true) (h : Q (.bl (!inV x xs)) H) : CmpV X .NotIn x (.ref p) H Q := ⟨_, op_notIn_seq, p, xs, rfl, h1, fx, fa, by simpa using h⟩
theorem iv_list {p : Addr} {xs : List V} {i : Int} {v : V} (h1 : SqL X.K H p xs) (h2 : atI xs i = some v) (h : Q v H) : IxV X (.ref p) (.int i) H Q := ⟨_, ix_list, p, xs, i, v, rfl, rfl, h1, h2, h⟩
theorem iv_tup {p : Addr} {xs : List V} {i : Int} {v : V} (h1 : SqT X.K H p xs) (h2 : atI xs i = some v) (h : Q v H) : IxV X (.ref p) (.int i) H Q := ⟨_, ix_tup, p, xs, i, v, rfl, rfl, h1, h2, h⟩
theorem atI_int {α : Type} {xs : List α} {i : Int} (h0 : 0 ≤ i) (h : i.toNat < xs.length) : atI xs i = some xs[i.toNat] := by
  have e : i = ((i.toNat : Nat) : Int) := by omega
  have h1 : atI xs ((i.toNat : Nat) : Int) = some xs[i.toNat] := atI_nat (by simp [h])
  rw [← e] at h1
  exact h1
theorem atI_0 {α : Type} {x : α} {r : List α} : atI (x :: r) 0 = some x := by
  have h : atI (x :: r) ((0 : Nat) : Int) = some x := atI_nat rfl
  exact h
theorem atI_1 {α : Type} {x y : α} {r : List α} : atI (x :: y :: r) 1 = some y := by
  have h : atI (x :: y :: r) ((1 : Nat) : Int) = some y := atI_nat rfl
  exact h
theorem atI_2 {α : Type} {x y z : α} {r : List α} : atI (x :: y :: z :: r) 2 = some z := by
  have h : atI (x :: y :: z :: r) ((2 : Nat) : Int) = some z := atI_nat rfl
  exact h
/-! ### calls of builtins by values -/
theorem kv_len_str {z : Str} (h0 : z.length ≤ sizeLine) (h : Q (.int z.length) H) : CallV X (.builtin "len") [.str z] H Q := ⟨_, call_len_str, z, rfl, h0, h⟩
theorem kv_len_seq {p : Addr} {xs : List V} (h0 : SqL X.K H p xs ∨ SqT X.K H p xs) (h : Q (.int xs.length) H) : CallV X (.builtin "len") [.ref p] H Q := ⟨_, call_len_seq, p, xs, rfl, h0, h⟩
theorem kv_isi {c : V} {t u : Value} {k : Bool} (hc : ClsV c u) (ty : TyX X.K H x t) (hk : PySem.W.kitOne X.K t u = some k) (h : Q (.bl k) H) : CallV X (.builtin "isinstance") [x, c] H Q := ⟨_, call_isi, x, c, t, u, k, rfl, hc, ty, hk, h⟩
theorem kv_all {p : Addr} {bs : List Bool} (hc : X.calm = true) (h0 : SqL X.K H p (bs.map V.bl)) (h : Q (.bl (bs.all id)) H) : CallV X (.builtin "all") [.ref p] H Q := ⟨_, cr_all hc, p, bs, rfl, h0, h⟩
theorem kv_any {p : Addr} {bs : List Bool} (hc : X.calm = true) (h0 : SqL X.K H p (bs.map V.bl)) (h : Q (.bl (bs.any id)) H) : CallV X (.builtin "any") [.ref p] H Q := ⟨_, cr_any hc, p, bs, rfl, h0, h⟩
theorem kv_int {i : Int} (h : Q (.int i) H) : CallV X (.type "int") [.int i] H Q := ⟨_, call_int1, .inl ⟨i, rfl, h⟩⟩
theorem kv_intB {k : Bool} (h : Q (.int (if k then 1 else 0)) H) : CallV X (.type "int") [.bl k] H Q := ⟨_, call_int1, .inr ⟨k, rfl, by first | exact h | simpa using h⟩⟩
theorem kv_abs {i : Int} (h : Q (.int (if i < 0 then -i else i)) H) : CallV X (.builtin "abs") [.int i] H Q := ⟨_, call_abs, i, rfl, h⟩
theorem kv_max2 {i j : Int} (hc : X.calm = true) (h : Q (.int (if j > i then j else i)) H) : CallV X (.builtin "max") [.int i, .int j] H Q := ⟨_, call_max2 hc, i, j, rfl, h⟩
theorem kv_min2 {i j : Int} (hc : X.calm = true) (h : Q (.int (if j < i then j else i)) H) : CallV X (.builtin "min") [.int i, .int j] H Q := ⟨_, call_min2 hc, i, j, rfl, h⟩
end
/-! ### types of data -/
def tyD : PyData → String
  | .none => "NoneType"
  | .bool _ => "bool"
  | .int _ => "int"
  | .str _ => "str"
  | .list _ => "list"
  | .tuple _ => "tuple"
  | .dict _ => "dict"
theorem dp_ty {K : PySem.W.Frag} {H : Hp} {v : V} {d : PyData} (h : Dp K H v d) : TyX K H v (.type (tyD d)) := by
  cases h with
  | non => exact .base .non
  | bl b => exact .base (.bl b)
  | int i => exact .base (.int i)
  | str x => exact .base (.str x)
  | lst hs _ =>
    rcases hs with (h | ⟨o, h⟩) | ⟨o, its, n, hk, hc, _⟩
    · exact .base (.lst h)
    · exact .base (.frz h)
    · exact .kList hk hc
  | tup hs _ =>
    rcases hs with (h | ⟨o, h⟩) | ⟨o, its, n, hk, hc, _⟩
    · exact .base (.tup h)
    · exact .fTuple h
    · exact .kTuple hk hc
end Ax
end
section
set_option maxHeartbeats 2000000
namespace Ax
open PySem PySem.Spec PyProof.Rows L2

/-! ### walks -/
structure WI (X : Cx) (tg iter : Expr) (σ : L2.St) (H : Hp) (R : It → Hp → Prop) : Prop where
  run : ∀ (pins : List (Addr × Obj)) (s : Shared), Inv X pins σ H s → wpAny (model X.prog X.w) X.A (eval iter X.env) (fun v s1 => wpAny (model X.prog X.w) X.A (pyIter v) (PIE X pins σ tg R) X.xe s1) X.xe s
/-- iter(x), by values -/
structure IterV (X : Cx) (tg : Expr) (x : V) (H : Hp) (R : It → Hp → Prop) : Prop where
  run : ∀ (pins : List (Addr × Obj)) (s : Shared) (σ : L2.St) (v : Value), Inv X pins σ H s → RelV x v → wpAny (model X.prog X.w) X.A (pyIter v) (PIE X pins σ tg R) X.xe s
section
variable {X : Cx} {tg iter elt : Expr} {σ : L2.St} {H : Hp} {R : It → Hp → Prop} {Q : VK} {pos : Pos} {D : Ends}
theorem WI.pi : PI X tg iter (WI X tg iter) := ⟨fun pins s _ _ _ I h => h.run pins s I⟩
theorem WI.of {wi : TI} (h : PI X tg iter wi) (q : wi σ H R) : WI X tg iter σ H R := ⟨fun pins s I => h.run pins s σ H R I q⟩
theorem wi_val (h : W X iter σ H fun x H1 => IterV X tg x H1 R) : WI X tg iter σ H R := ⟨fun pins s I =>
  thn (h.run pins s I) fun v s1 ⟨x, H1, I1, r, q⟩ => q.run pins s1 σ v I1 r⟩
theorem itv_list {a : Addr} {xs : List V} (h : SqL X.K H a xs) (q : R (Itl X.K a) H) : IterV X tg (.ref a) H R := by
  constructor
  intro pins s1 σ v I1 r1
  cases r1
  obtain ⟨its, rv, p, hz⟩ := I1.list h
  refine wpAny_pyIter_list p.isList ?_
  refine ⟨s1.heap.objs.size, [s1.heap.objs.size], _, _, H, rfl, I1.kept (t' := s1.toks) fun b o e => Heap.get?_push_of_some _ e, turn_list a _, ⟨_, Heap.get?_push_size _ rfl, rfl, rfl⟩, fun b hb => ?_, q⟩
  have e : b = s1.heap.objs.size := by simpa using hb
  subst e
  exact I1.fpOk (Nat.le_refl _) (I1.hok.fresh (Nat.le_refl _))
theorem itv_tup {a : Addr} {xs : List V} (h : SqT X.K H a xs) (q : R (Itt X.K a) H) : IterV X tg (.ref a) H R := by
  constructor
  intro pins s1 σ v I1 r1
  cases r1
  obtain ⟨its, rv, p, hz⟩ := I1.tuple h
  refine wpAny_pyIter_tuple (show s1.heap.IsTuple a its.toArray from p) ?_
  refine ⟨s1.heap.objs.size, [s1.heap.objs.size], _, _, H, rfl, I1.kept (t' := s1.toks) fun b o e => Heap.get?_push_of_some _ e, turn_tuple a _, ⟨_, Heap.get?_push_size _ rfl, rfl, rfl⟩, fun b hb => ?_, q⟩
  have e : b = s1.heap.objs.size := by simpa using hb
  subst e
  exact I1.fpOk (Nat.le_refl _) (I1.hok.fresh (Nat.le_refl _))
theorem itv_str {z : Str} (q : R (Its z) H) : IterV X tg (.str z) H R := by
  constructor
  intro pins s1 σ v I1 r1
  obtain ⟨t, rfl⟩ := r1
  cases ha : z.cps.all (· < 128)
  · exact wpAny_pyIter_wide ha (pi_one (tk := s1.toks) I1 _ (turn_str _ z t "str_iterator" (.inr rfl)) ⟨_, Heap.get?_push_size _ rfl, rfl, rfl⟩ q)
  · exact wpAny_pyIter_ascii ha (pi_one (tk := s1.toks) I1 _ (turn_str _ z t "str_ascii_iterator" (.inl rfl)) ⟨_, Heap.get?_push_size _ rfl, rfl, rfl⟩ q)
theorem wi_range1 {a : Expr} {p : Pos} (hm : X.mg "range" = none) (h : WA X [a] σ H fun vs H1 => ∃ j : Int, vs = [.int j] ∧ -(2 ^ 62) ≤ j ∧ j < 2 ^ 62 ∧ R (Itr 0 j.toNat) H1) (hg : Gl X "range" := by rfl) (hs : starEach [a] X.env = [(false, eval a X.env)] := by rfl) :
    WI X tg (.Call (.Name "range" p) [a] [] pos) σ H R := WI.of (pi_range1 hg hm WA.pa hs) h
/-- a walk over the fixed items xs that nothing but a change of its source disturbs -/
structure SeqIt (J : It) (H : Hp) (xs : List V) : Prop where
  ex : ∃ G : Hp → Prop, Walk J xs.length G (YAt xs) ∧ G H ∧ ∀ H', Same H H' → G H'
theorem seqIt_list {K : PySem.W.Frag} {a : Addr} {xs : List V} (h : SqL K H a xs) : SeqIt (Itl K a) H xs := ⟨_, walk_list, h, fun _ s => s.seq h⟩
theorem seqIt_tup {K : PySem.W.Frag} {a : Addr} {xs : List V} (h : SqT K H a xs) : SeqIt (Itt K a) H xs := ⟨_, walk_tup, h, fun _ s => same_tup s h⟩
def signsV (z : Str) : List V := z.cps.toList.map fun c => V.str ⟨#[c]⟩
theorem seqIt_str {z : Str} : SeqIt (Its z) H (signsV z) := by
  refine ⟨fun _ => True, ?_, trivial, fun _ _ => trivial⟩
  have w := (walk_str (z := z)).mono (G' := fun _ => True) (Y' := YAt (signsV z)) (fun _ h => h) fun i H x H' hi _ y => by
    obtain ⟨e, c, hc, rfl⟩ := y
    refine ⟨e, ?_⟩
    unfold signsV
    rw [List.getElem?_map]
    simp [hc]
  have e : (signsV z).length = z.cps.size := by simp [signsV]
  rw [e]
  exact w
def intsV (lo : Int) (n : Nat) : List V := (List.range n).map fun (i : Nat) => V.int (lo + (i : Int))
theorem seqIt_range {lo : Int} {n : Nat} : SeqIt (Itr lo n) H (intsV lo n) := by
  refine ⟨fun _ => True, ?_, trivial, fun _ _ => trivial⟩
  have w := (walk_range (lo := lo) (n := n)).mono (G' := fun _ => True) (Y' := YAt (intsV lo n)) (fun _ h => h) fun i H x H' hi _ y => by
    obtain ⟨e, rfl⟩ := y
    refine ⟨e, ?_⟩
    unfold intsV
    rw [List.getElem?_map]
    simp [hi]
  have e : (intsV lo n).length = n := by simp [intsV]
  rw [e]
  exact w
/-! ### [elt for x in iter], one name, pure: each item makes its element, by a relation that stands -/
inductive Rel2 (R : V → V → Prop) : List V → List V → Prop
  | nil : Rel2 R [] []
  | cons {x y xs ys} : R x y → Rel2 R xs ys → Rel2 R (x :: xs) (y :: ys)
theorem Rel2.snoc {R : V → V → Prop} {x y : V} (h : R x y) : ∀ {xs ys : List V}, Rel2 R xs ys → Rel2 R (xs ++ [x]) (ys ++ [y])
  | _, _, .nil => .cons h .nil
  | _, _, .cons r t => .cons r (Rel2.snoc h t)
theorem Rel2.imp {R S : V → V → Prop} (k : ∀ x y, R x y → S x y) : ∀ {xs ys : List V}, Rel2 R xs ys → Rel2 S xs ys
  | _, _, .nil => .nil
  | _, _, .cons r t => .cons (k _ _ r) (Rel2.imp k t)
theorem Rel2.len {R : V → V → Prop} : ∀ {xs ys : List V}, Rel2 R xs ys → xs.length = ys.length
  | _, _, .nil => rfl
  | _, _, .cons _ t => by simp [Rel2.len t]
theorem Rel2.map {f : V → V} : ∀ {xs ys : List V}, Rel2 (fun x y => y = f x) xs ys → ys = xs.map f
  | _, _, .nil => rfl
  | _, _, .cons r t => by rw [r, Rel2.map t]; rfl
theorem w_lc {i : Nat} {x : Str} {px : Pos} {scope : Scope} (own : List (Str × Nat)) (ho : own = [(x, i)]) (hc : X.calm = true) (hN : X.N.Nodup) (ok : BlkOk X.N X.env.scope scope own) (hi : X.N[i]? = some x)
    (hloc : ∀ (s : Shared) (H : Hp) (C : Addr) (cl : List (Str × Addr)) (fp : List Addr), Loc (X.blk s H scope (compEnvC scope cl C X.env) fp).env.scope x ∧ ((X.blk s H scope (compEnvC scope cl C X.env) fp).fn x = true ∨ (X.blk s H scope (compEnvC scope cl C X.env) fp).env.scope.names.lookup x = some .local))
    (h : WI X (.Name x px) iter σ H fun J H1 => ∃ xs, SeqIt J H1 xs ∧ xs.length < sizeLine ∧ ∃ R : V → V → Hp → Prop, (∀ x y Ha Hb, R x y Ha → Sl Ha Hb → R x y Hb) ∧
      (∀ v ∈ xs, ∀ H2, Same H1 H2 → ∀ (s : Shared) (H : Hp) (C : Addr) (cl : List (Str × Addr)) (fp : List Addr), W (X.blk s H scope (compEnvC scope cl C X.env) fp) elt ((wipe σ [i]).set i (some v)) H2 fun y H3 => Same H2 H3 ∧ R v y H3) ∧
      ∀ p ys H2, Same H1 H2 → H1 p = none → H2 p = some (.lst ys) → Rel2 (fun x y => R x y H2) xs ys → Q (.ref p) H2)
    (hs : ∀ x, foldedSetIterable iter X.env x = pure x := by intro _; rfl) (hw : (((wipe σ [i]).set i (some V.non)).set i none) = wipe σ [i] := by rfl) :
    W X (.ListComp elt [⟨.Name x px, iter, [], 0⟩] scope pos) σ H Q := by
  subst ho
  refine W.of (pe_lc (own := [(x, i)]) (g := gName i) (tt := tYes) (te := fun σ2 H2 K => ∀ (s : Shared) (H : Hp) (C : Addr) (cl : List (Str × Addr)) (fp : List Addr), W (X.blk s H scope (compEnvC scope cl C X.env) fp) elt σ2 H2 K) hc hN WI.pi ok (fun s H C cl fp => pg_name hN hi (hloc s H C cl fp).1 (hloc s H C cl fp).2) (fun _ _ _ _ _ => pts_nil)
    (fun s H C cl fp => ⟨fun pins s' σ' H' Q' I' h' => (h' s H C cl fp).run pins s' I'⟩) hs) ?_
  refine ⟨fun pins s I => thn (h.run pins s I) fun v s1 z => thn z fun it s2 q => ?_⟩
  obtain ⟨it', fp, tn, J, H1, e, I2, T, t0, f0, xs, ⟨G, wk, g0, gs⟩, hlen, R, hst, hel, hend⟩ := q
  refine ⟨it', fp, tn, J, H1, e, I2, T, t0, f0, fun Dd nD => ?_⟩
  refine lc_it (H1 := H1) (D := Dd) (g := gName i) (tt := tYes) (te := fun σ2 H2 K => ∀ (s : Shared) (H : Hp) (C : Addr) (cl : List (Str × Addr)) (fp : List Addr), W (X.blk s H scope (compEnvC scope cl C X.env) fp) elt σ2 H2 K) (vs := [i]) (σ := σ) (Qd := fun H2 => Q (.ref Dd) H2) wk (fun j H2 => ∃ ys, Same H1 H2 ∧ H2 Dd = some (.lst ys) ∧ Rel2 (fun x y => R x y H2) (xs.take j) ys) ⟨[], same_new nD, upd_same, .nil⟩ (fun j H2 _ ⟨ys, sm, hD, _⟩ => gs _ sm) ?_ ?_
  · rintro j v H2 H2' hj ⟨ys, s12, hD, rel⟩ ⟨eH, hv⟩
    subst eH
    have hm : v ∈ xs := List.mem_of_getElem? hv
    have hw' : wipe ((wipe σ [i]).set i (some v)) [i] = wipe σ [i] := by
      have e1 : wipe ((wipe σ [i]).set i (some v)) [i] = ((wipe σ [i]).set i (some v)).set i none := rfl
      rw [e1, List.set_set]
      have e2 : ((wipe σ [i]).set i (some V.non)).set i none = wipe σ [i] := hw
      rw [List.set_set] at e2
      exact e2
    refine ⟨hw', ?_⟩
    unfold tYes
    dsimp only
    rw [if_pos rfl]
    intro s H C cl fp
    refine W.mono (e := elt) (X := X.blk s H scope (compEnvC scope cl C X.env) fp) (hel v hm H2' s12 s H C cl fp) fun y H3 ⟨s23, r⟩ => ?_
    have hD3 := s23 _ _ hD
    have hl : ys.length < sizeLine := by
      have e1 := rel.len
      rw [List.length_take] at e1
      omega
    refine ⟨ys, hD3, hl, ys ++ [y], same_upd (s12.trans s23) nD, upd_same, ?_⟩
    have sl : Sl H3 (upd H3 Dd (.lst (ys ++ [y]))) := (Sl.refl H3).lst hD3
    have e : xs.take (j + 1) = xs.take j ++ [v] := by
      rw [List.take_add_one, hv]
      rfl
    rw [e]
    exact (rel.imp fun a b q => hst _ _ _ _ q ((Sl.of s23).trans sl)).snoc (hst _ _ _ _ r sl)
  · rintro H2 ⟨ys, s12, hD, rel⟩
    rw [List.take_length] at rel
    exact hend Dd ys H2 s12 nD hD rel
/-- .. each element a value by a function -/
theorem w_lcF {x : Str} {px : Pos} {scope : Scope} (i : Nat) (f : V → V) (hc : X.calm = true) (hN : X.N.Nodup) (ok : BlkOk X.N X.env.scope scope [(x, i)]) (hi : X.N[i]? = some x)
    (hloc : ∀ (s : Shared) (H : Hp) (C : Addr) (cl : List (Str × Addr)) (fp : List Addr), Loc (X.blk s H scope (compEnvC scope cl C X.env) fp).env.scope x ∧ ((X.blk s H scope (compEnvC scope cl C X.env) fp).fn x = true ∨ (X.blk s H scope (compEnvC scope cl C X.env) fp).env.scope.names.lookup x = some .local))
    (h : WI X (.Name x px) iter σ H fun J H1 => ∃ xs, SeqIt J H1 xs ∧ xs.length < sizeLine ∧
      (∀ v ∈ xs, ∀ H2, Same H1 H2 → ∀ (s : Shared) (H : Hp) (C : Addr) (cl : List (Str × Addr)) (fp : List Addr), W (X.blk s H scope (compEnvC scope cl C X.env) fp) elt ((wipe σ [i]).set i (some v)) H2 fun y H3 => Same H2 H3 ∧ y = f v) ∧
      ∀ p H2, Same H1 H2 → H1 p = none → H2 p = some (.lst (xs.map f)) → Q (.ref p) H2)
    (hs : ∀ x, foldedSetIterable iter X.env x = pure x := by intro _; rfl) (hw : (((wipe σ [i]).set i (some V.non)).set i none) = wipe σ [i] := by rfl) :
    W X (.ListComp elt [⟨.Name x px, iter, [], 0⟩] scope pos) σ H Q := by
  refine w_lc _ rfl hc hN ok hi hloc ?_ hs hw
  refine ⟨fun pins s I => thn (h.run pins s I) fun v s1 z => thn z fun it s2 q => ?_⟩
  obtain ⟨it', fp, tn, J, H1, e, I2, T, t0, f0, xs, h1, h2, h3, h4⟩ := q
  refine ⟨it', fp, tn, J, H1, e, I2, T, t0, f0, xs, h1, h2, fun x y _ => y = f x, fun _ _ _ _ q _ => q, h3, fun p ys H2 s n hp r => ?_⟩
  have e := Rel2.map r
  subst e
  exact h4 p H2 s n hp
/-- all([elt for x in iter]), each element a test -/
theorem w_allLc {x : Str} {px pa pl : Pos} {scope : Scope} (i : Nat) (f : V → Bool) (hm : X.mg "all" = none) (hc : X.calm = true) (hN : X.N.Nodup) (ok : BlkOk X.N X.env.scope scope [(x, i)]) (hi : X.N[i]? = some x)
    (hloc : ∀ (s : Shared) (H : Hp) (C : Addr) (cl : List (Str × Addr)) (fp : List Addr), Loc (X.blk s H scope (compEnvC scope cl C X.env) fp).env.scope x ∧ ((X.blk s H scope (compEnvC scope cl C X.env) fp).fn x = true ∨ (X.blk s H scope (compEnvC scope cl C X.env) fp).env.scope.names.lookup x = some .local))
    (h : WI X (.Name x px) iter σ H fun J H1 => ∃ xs, SeqIt J H1 xs ∧ xs.length < sizeLine ∧
      (∀ v ∈ xs, ∀ H2, Same H1 H2 → ∀ (s : Shared) (H : Hp) (C : Addr) (cl : List (Str × Addr)) (fp : List Addr), W (X.blk s H scope (compEnvC scope cl C X.env) fp) elt ((wipe σ [i]).set i (some v)) H2 fun y H3 => Same H2 H3 ∧ y = .bl (f v)) ∧
      ∀ H2, Same H1 H2 → Q (.bl (xs.all f)) H2)
    (hg : Gl X "all" := by rfl) (hs : ∀ x, foldedSetIterable iter X.env x = pure x := by intro _; rfl) (hw : (((wipe σ [i]).set i (some V.non)).set i none) = wipe σ [i] := by rfl)
    (he : starEach [.ListComp elt [⟨.Name x px, iter, [], 0⟩] scope pl] X.env = (false, eval (.ListComp elt [⟨.Name x px, iter, [], 0⟩] scope pl) X.env) :: starEach [] X.env := by rfl) (hpl : (backTo pos (starEach [] X.env)).any (·.1) = false := by rfl) :
    W X (.Call (.Name "all" pa) [.ListComp elt [⟨.Name x px, iter, [], 0⟩] scope pl] [] pos) σ H Q := by
  refine w_callB (id := "all") hm ?_ b_all hg (by decide) (by decide) he hpl
  refine wa_cons ?_ he
  refine w_lcF i (fun v => .bl (f v)) hc hN ok hi hloc ?_ hs hw
  refine ⟨fun pins s I => thn (h.run pins s I) fun v s1 z => thn z fun it s2 q => ?_⟩
  obtain ⟨it', fp, tn, J, H1, e, I2, T, t0, f0, xs, h1, h2, h3, h4⟩ := q
  refine ⟨it', fp, tn, J, H1, e, I2, T, t0, f0, xs, h1, h2, h3, fun p H2 s n hp => ?_⟩
  refine wa_nil (kv_all (bs := xs.map f) hc (SqL.of ?_) ?_)
  · rw [hp, List.map_map]
    rfl
  · have e : (xs.map f).all id = xs.all f := by rw [List.all_map]; rfl
    rw [e]
    exact h4 H2 s
end
end Ax
end
section
set_option maxHeartbeats 2000000
namespace Ax
open PySem PySem.Spec PyProof.Rows L2
/-- a def of the top -/
def TxtF (K : PySem.W.Frag) (mg : Str → Option Value) (x : Str) (st : Stmt) : Prop := ∃ f fd, FunD K x x (defArgs st) (defBody st) (defScope st) [] [] f fd ∧ mg x = some (.ref f)
theorem txtF_of {K : PySem.W.Frag} {mg : Str → Option Value} {x : Str} {st : Stmt} {f : Addr} (h : ∃ fd, FunD K x x (defArgs st) (defBody st) (defScope st) [] [] f fd) (g : mg x = some (.ref f)) : TxtF K mg x st := by
  obtain ⟨fd, h⟩ := h
  exact ⟨f, fd, h, g⟩
theorem cS_of {mg : Str → Option Value} {x z : Str} (h : ∃ t, mg x = some (.str z t)) : ∃ u, mg x = some u ∧ RelV (.str z) u := by
  obtain ⟨t, h⟩ := h
  exact ⟨_, h, t, rfl⟩
theorem cI_of {mg : Str → Option Value} {x : Str} {i : Int} (h : ∃ t, mg x = some (.int i t)) : ∃ u, mg x = some u ∧ RelV (.int i) u := by
  obtain ⟨t, h⟩ := h
  exact ⟨_, h, t, rfl⟩
section
variable {P : Program} {w : World} {K : PySem.W.Frag} {mg : Str → Option Value} {base : Heap}
theorem def_ok {x : Str} {st : Stmt} {N ps : List Str} {k : Nat} {sp : Sp} (T : TxtF K mg x st) (S : FnScope N ps (defScope st))
    (hb : ∀ (kV doc pm : Value) (an : Option Addr) (cdv ct : Value) (us : List Value), us.length = ps.length → bindArgs (PySem.W.fnOf x x (defArgs st) (defBody st) (defScope st) .none kV doc pm an cdv ct) ⟨us, []⟩ = pure (ps.zip us))
    (len : ∀ vs H Q E, sp vs H Q E → vs.length = ps.length)
    (body : ∀ (f : Addr) (cdv : Value) (A : Around) (outer : List Env) (s : Shared) (H : Hp) (vs : List V) (Q : VK) (E : XK), Room k (A.deeper (envOfC x (defScope st) s.heap.objs.size f cdv)) → sp vs H Q E →
      WB (cxOf (L2.CX P w) P w K mg base N x (defScope st) f cdv A outer s H E) (defBody st) { nx := fun _ H' => Q .non H', rt := Q } (start N vs) H) : Callee P w K mg base x (k + 1) ps sp := by
  obtain ⟨f, fd, F, g⟩ := T
  exact ⟨f, fd, F.ok S len fun cdv A outer s H vs Q E hr h => ⟨_, WB.pss, body f cdv A outer s H vs Q E hr h⟩, F.bindsN hb, g, F.kp⟩
end
end Ax
end
section
set_option maxHeartbeats 2000000
namespace Ax
open PySem PySem.Spec PyProof.Rows L2
theorem qb {Q : VK} {H : Hp} {a b : Bool} (h : Q (.bl a) H) (e : a = b) : Q (.bl b) H := e ▸ h
theorem qi {Q : VK} {H : Hp} {a b : Int} (h : Q (.int a) H) (e : a = b) : Q (.int b) H := e ▸ h
mutual
/-- short texts, nothing but none, bools, ints, texts, lists, tuples -/
def tame : PyData → Bool
  | .str z => PyData.strOk z && decide (z.length ≤ 1000)
  | .list ds => tameAll ds && decide (ds.length ≤ 100000)
  | .tuple ds => tameAll ds && decide (ds.length ≤ 100000)
  | .dict _ => false
  | _ => true
def tameAll : List PyData → Bool
  | [] => true
  | d :: ds => tame d && tameAll ds
end
def okD (d : PyData) : Bool := tame d && decide (d.depth ≤ 60)
mutual
theorem tame_lay : ∀ {d : PyData}, tame d = true → d.canLay0 = true
  | .none, _ => rfl
  | .bool _, _ => rfl
  | .int _, _ => rfl
  | .str z, h => by
    simp only [tame, Bool.and_eq_true] at h
    simpa [PyData.canLay0] using h.1
  | .list ds, h => by simpa [PyData.canLay0] using tameAll_lay (by simp only [tame, Bool.and_eq_true] at h; exact h.1)
  | .tuple ds, h => by simpa [PyData.canLay0] using tameAll_lay (by simp only [tame, Bool.and_eq_true] at h; exact h.1)
  | .dict _, h => by simp [tame] at h
theorem tameAll_lay : ∀ {ds : List PyData}, tameAll ds = true → PyData.canLayAll0 ds = true
  | [], _ => by simp [PyData.canLayAll0]
  | d :: ds, h => by
    simp only [tameAll, Bool.and_eq_true] at h
    simp [PyData.canLayAll0, tame_lay h.1, tameAll_lay h.2]
end
theorem okD.shaped {d : PyData} (h : okD d = true) : SeqAt.shaped d = true := by
  simp only [okD, Bool.and_eq_true, decide_eq_true_eq] at h
  simp only [SeqAt.shaped, Bool.and_eq_true, decide_eq_true_eq]
  exact ⟨tame_lay h.1, by omega⟩
theorem tameAll_mem {ds : List PyData} (h : tameAll ds = true) : ∀ d ∈ ds, tame d = true := by
  induction ds with
  | nil => intro d hd; cases hd
  | cons x xs ih =>
    simp only [tameAll, Bool.and_eq_true] at h
    intro d hd
    rcases List.mem_cons.mp hd with rfl | hd
    · exact h.1
    · exact ih h.2 d hd
theorem depthAll_mem {ds : List PyData} {n : Nat} (h : PyData.depthAll ds ≤ n) : ∀ d ∈ ds, d.depth ≤ n := by
  induction ds with
  | nil => intro d hd; cases hd
  | cons x xs ih =>
    rw [PyData.depthAll] at h
    intro d hd
    rcases List.mem_cons.mp hd with rfl | hd
    · omega
    · exact ih (by omega) d hd
theorem okD.item {ds : List PyData} (h : okD (.tuple ds) = true) : ∀ d ∈ ds, okD d = true := by
  simp only [okD, tame, Bool.and_eq_true, decide_eq_true_eq] at h
  obtain ⟨h1, h2⟩ := h
  rw [PyData.depth] at h2
  intro d hd
  simp only [okD, Bool.and_eq_true, decide_eq_true_eq]
  exact ⟨tameAll_mem h1.1 d hd, by have := depthAll_mem (n := 59) (by omega) d hd; omega⟩
theorem okD.len {ds : List PyData} (h : okD (.tuple ds) = true) : ds.length < sizeLine := by
  simp only [okD, tame, Bool.and_eq_true, decide_eq_true_eq] at h
  exact Nat.lt_of_le_of_lt h.1.2 (by decide)
theorem okD.str {z : Str} (h : okD (.str z) = true) : z.length ≤ sizeLine := by
  simp only [okD, tame, Bool.and_eq_true, decide_eq_true_eq] at h
  exact Nat.le_trans h.1.2 (by decide)
/-- any value: data, or a thing of another type -/
inductive AnyV (K : PySem.W.Frag) (H : Hp) : V → Option PyData → Prop
  | dat {v : V} {d : PyData} (h : Dp K H v d) (ok : okD d = true) : AnyV K H v (some d)
  | oth {v : V} {t : Value} (h : TyX K H v t) (n : ∀ T ∈ ["str", "int", "bool", "tuple", "list"], PySem.W.kitOne K t (.type T) = some false) : AnyV K H v none
def tyNames : List String := ["NoneType", "bool", "int", "str", "list", "tuple", "dict"]
theorem tyD_mem (d : PyData) : tyD d ∈ tyNames := by cases d <;> simp [tyD, tyNames]
theorem kit_all : ∀ T ∈ ["str", "int", "bool", "tuple", "list"], ∀ t ∈ tyNames, (kitB t T).isSome = true := by decide +kernel
def isiO (T : String) : Option PyData → Bool
  | some d => (kitB (tyD d) T).getD false
  | none => false
section
variable {X : Cx} {H : Hp} {Q : VK} {v : V} {o : Option PyData}
theorem kv_isiA {T : String} (a : AnyV X.K H v o) (hT : T ∈ ["str", "int", "bool", "tuple", "list"]) (h : Q (.bl (isiO T o)) H) : CallV X (.builtin "isinstance") [v, .ty T] H Q := by
  cases a with
  | oth ty n => exact kv_isi (.ty T) ty (n T hT) h
  | @dat d hd ok =>
    refine kv_isi (k := isiO T (some d)) (.ty T) (dp_ty hd) (kit_ty ?_) h
    have q := kit_all T hT (tyD d) (tyD_mem d)
    obtain ⟨b, q⟩ := Option.isSome_iff_exists.mp q
    show kitB (tyD d) T = some ((kitB (tyD d) T).getD false)
    rw [q]
    rfl
theorem isiO_str (d : PyData) : isiO "str" (some d) = (match d with | .str _ => true | _ => false) := by
  have k : ∀ t ∈ tyNames, (kitB t "str").getD false = (t == "str") := by decide +kernel
  refine (k _ (tyD_mem d)).trans ?_
  cases d <;> rfl
theorem isiO_tuple (d : PyData) : isiO "tuple" (some d) = (match d with | .tuple _ => true | _ => false) := by
  have k : ∀ t ∈ tyNames, (kitB t "tuple").getD false = (t == "tuple") := by decide +kernel
  refine (k _ (tyD_mem d)).trans ?_
  cases d <;> rfl
theorem isiO_int (d : PyData) : isiO "int" (some d) = (match d with | .int _ => true | .bool _ => true | _ => false) := by
  have k : ∀ t ∈ tyNames, (kitB t "int").getD false = (t == "int" || t == "bool") := by decide +kernel
  refine (k _ (tyD_mem d)).trans ?_
  cases d <;> rfl
theorem isiO_bool (d : PyData) : isiO "bool" (some d) = (match d with | .bool _ => true | _ => false) := by
  have k : ∀ t ∈ tyNames, (kitB t "bool").getD false = (t == "bool") := by decide +kernel
  refine (k _ (tyD_mem d)).trans ?_
  cases d <;> rfl
end
theorem tyX_same {K : PySem.W.Frag} {H H' : Hp} {v : V} {t : Value} (s : Same H H') (h : TyX K H v t) : TyX K H' v t := by
  cases h with
  | base b =>
    cases b with
    | non => exact .base .non
    | bl x => exact .base (.bl x)
    | int x => exact .base (.int x)
    | str x => exact .base (.str x)
    | flt x => exact .base (.flt x)
    | lst e => exact .base (.lst (s _ _ e))
    | frz e => exact .base (.frz (s _ _ e))
    | tup e => exact .base (.tup (s _ _ e))
    | dK e => exact .base (.dK (s _ _ e))
    | dT e => exact .base (.dT (s _ _ e))
    | ins e cl ha hn htk hm => exact .base (.ins (s _ _ e) cl ha hn htk hm)
  | byt b => exact .byt b
  | set e => exact .set (s _ _ e)
  | kList e c => exact .kList e c
  | kTuple e c => exact .kTuple e c
  | kDict e c => exact .kDict e c
  | fTuple e => exact .fTuple (s _ _ e)
  | fDict e => exact .fDict (s _ _ e)
section
variable {K : PySem.W.Frag} {H H' : Hp} {v : V} {o : Option PyData}
theorem anyV_same (s : Same H H') (a : AnyV K H v o) : AnyV K H' v o := by
  cases a with
  | dat h ok => exact .dat (dp_same s h) ok
  | oth h n => exact .oth (tyX_same s h) n
theorem anyV_tuple (a : AnyV K H v o) (c : isiO "tuple" o = true) : ∃ p xs ds, v = .ref p ∧ o = some (.tuple ds) ∧ SqT K H p xs ∧ DpAll K H xs ds ∧ okD (.tuple ds) = true := by
  cases a with
  | oth => cases c
  | @dat d hd ok =>
    rw [isiO_tuple] at c
    cases hd <;> first | cases c | skip
    exact ⟨_, _, _, rfl, rfl, by assumption, by assumption, ok⟩
theorem anyV_str (a : AnyV K H v o) (c : isiO "str" o = true) : ∃ z, v = .str z ∧ o = some (.str z) ∧ okD (.str z) = true := by
  cases a with
  | oth => cases c
  | @dat d hd ok =>
    rw [isiO_str] at c
    cases hd <;> first | cases c | skip
    exact ⟨_, rfl, rfl, ok⟩
theorem any_tupleF {f : PyData → Bool} (c : isiO "tuple" o = false) (hf : ∀ d, (∀ ds, d ≠ .tuple ds) → f d = false) : o.any f = false := by
  cases o with
  | none => rfl
  | some d =>
    rw [isiO_tuple] at c
    refine hf d fun ds e => ?_
    rw [e] at c
    cases c
theorem any_strF {f : PyData → Bool} (c : isiO "str" o = false) (hf : ∀ d, (∀ z, d ≠ .str z) → f d = false) : o.any f = false := by
  cases o with
  | none => rfl
  | some d =>
    rw [isiO_str] at c
    refine hf d fun ds e => ?_
    rw [e] at c
    cases c
end
end Ax
end
section
set_option maxHeartbeats 2000000
namespace Ax
open PySem PySem.Spec PyProof.Rows L2
/-! ### another look at a thing: the abstract heap tells it otherwise, the heap is the same -/
def plainO : HO → Bool
  | .lst _ => true
  | .ext _ => true
  | _ => false
theorem Inv.view {X : Cx} {pins : List (Addr × Obj)} {σ : L2.St} {H : Hp} {s : Shared} {p : Addr} {o o' : HO} (I : Inv X pins σ H s) (hp : H p = some o) (ho : plainO o = true) (new : ObjOk X.prog X.w (upd H p o') s.heap p o') : Inv X pins σ (upd H p o') s := by
  have ne : ∀ b u, H b = some u → plainO u = false → b ≠ p := fun b u e n z => by
    rw [z, hp] at e
    cases e
    rw [ho] at n
    cases n
  have nn : ∀ b, H b = none → b ≠ p := fun b e z => by
    rw [z, hp] at e
    cases e
  have B := I.base
  refine ⟨I.ok, I.os, I.bare, ⟨B.keep, B.slot, fun b u e n hx => ?_, B.there, fun b xs e => ?_, fun b u xs e => ?_, fun b ps e => ?_⟩, I.loc, I.cell, ?_, fun x c e => ?_, fun q hq => ?_, fun b u e => ?_, I.len⟩
  · have z := B.free b u e n hx
    rw [upd_ne (nn b z)]; exact z
  · have z := B.tups b xs e
    rw [upd_ne (ne b _ z rfl)]; exact z
  · have z := B.frzs b u xs e
    rw [upd_ne (ne b _ z rfl)]; exact z
  · obtain ⟨more, z⟩ := B.tbls b ps e
    exact ⟨more, by rw [upd_ne (ne b _ z rfl)]; exact z⟩
  · rw [upd_ne (nn _ I.free)]; exact I.free
  · have z := I.freeC x c e
    rw [upd_ne (nn _ z)]; exact z
  · obtain ⟨h1, h2, h3⟩ := I.pin q hq
    exact ⟨h1, by rw [upd_ne (nn _ h2)]; exact h2, h3⟩
  · by_cases hb : b = p
    · subst hb
      rw [upd_same] at e
      cases e
      exact new
    · rw [upd_ne hb] at e
      exact (I.hok b u e).stay (fun _ _ _ q => q) (fun c q => by rw [upd_ne (ne c _ q rfl)]; exact q) fun c xs q => by rw [upd_ne (ne c _ q rfl)]; exact q
/-! ### the dice: three whole numbers in a list, told by what holds of them; n: how often it was rolled, at most -/
structure DiceN (x y z : Int) (n : Nat) : Prop where
  x0 : 0 ≤ x
  y0 : 0 ≤ y
  y1 : y < 2 ^ 61
  z0 : 0 ≤ z
  z1 : z ≤ n
def DiceO (p : Addr) (n : Nat) : HO := .ext fun h => ∃ (x y z : Int) (its : List Value) (m : Nat), Vals [.int x, .int y, .int z] its ∧ h.get? p = some { cls := .type "list", data := .seq its.toArray m } ∧ DiceN x y z n
theorem three_line : 3 ≤ sizeLine := by decide
theorem two_line : 2 ≤ sizeLine := by decide
theorem one_line : 1 ≤ sizeLine := by decide
theorem zero_line : 0 ≤ sizeLine := by decide
section
variable {X : Cx} {pins : List (Addr × Obj)} {σ : L2.St} {H : Hp} {s : Shared} {p : Addr} {n : Nat} {x y z : Int}
theorem Inv.toDice (I : Inv X pins σ H s) (hp : H p = some (.lst [.int x, .int y, .int z])) (d : DiceN x y z n) : Inv X pins σ (upd H p (DiceO p n)) s := by
  refine Inv.view I hp rfl ?_
  obtain ⟨_, its, m, r, e⟩ := (show ObjOk X.prog X.w H s.heap p (.lst [.int x, .int y, .int z]) from I.hok p _ hp)
  exact ⟨⟨x, y, z, its, m, r, e, d⟩, ⟨_, e⟩, fun h1 h2 ⟨x, y, z, its, m, r, e, d⟩ k => ⟨x, y, z, its, m, r, k _ e, d⟩⟩
theorem Inv.ofDice (I : Inv X pins σ H s) (hp : H p = some (DiceO p n)) : ∃ x y z, DiceN x y z n ∧ Inv X pins σ (upd H p (.lst [.int x, .int y, .int z])) s := by
  obtain ⟨⟨x, y, z, its, m, r, e, d⟩, _⟩ := (show ObjOk X.prog X.w H s.heap p (DiceO p n) from I.hok p _ hp)
  exact ⟨x, y, z, d, Inv.view I hp rfl ⟨three_line, its, m, r, e⟩⟩
theorem wb_dice {b : List Stmt} {D : Ends} (hp : H p = some (DiceO p n)) (h : ∀ x y z, DiceN x y z n → WB X b D σ (upd H p (.lst [.int x, .int y, .int z]))) : WB X b D σ H := ⟨fun pins s I => by
  obtain ⟨x, y, z, d, J⟩ := Inv.ofDice I hp
  exact (h x y z d).run pins s J⟩
theorem w_dice {e : Expr} {Q : VK} (h : W X e σ H fun v H1 => ∃ p x y z n, H1 p = some (.lst [.int x, .int y, .int z]) ∧ DiceN x y z n ∧ Q v (upd H1 p (DiceO p n))) : W X e σ H Q := ⟨fun pins s I =>
  thn (h.run pins s I) fun u s1 ⟨v, H1, J, r, p, x, y, z, n, hp, d, q⟩ => ⟨v, _, Inv.toDice J hp d, r, q⟩⟩
end
/-- all but the dice at p stands -/
structure Sm (p : Addr) (H H' : Hp) : Prop where
  at0 : ∃ n, H p = some (DiceO p n)
  keep : ∀ a o, H a = some o → a ≠ p → H' a = some o
theorem Sm.refl {H : Hp} {p : Addr} {n : Nat} (h : H p = some (DiceO p n)) : Sm p H H := ⟨⟨n, h⟩, fun _ _ h _ => h⟩
theorem Sm.trans {p : Addr} {H H1 H2 : Hp} (a : Sm p H H1) (b : Sm p H1 H2) : Sm p H H2 := ⟨a.at0, fun c o h n => b.keep c o (a.keep c o h n) n⟩
theorem Sm.same {p : Addr} {H H1 H2 : Hp} (a : Sm p H H1) (b : Same H1 H2) : Sm p H H2 := ⟨a.at0, fun c o h n => b c o (a.keep c o h n)⟩
theorem Sm.of {H H' : Hp} {p : Addr} {n : Nat} (h : H p = some (DiceO p n)) (e : Same H H') : Sm p H H' := (Sm.refl h).same e
theorem Sm.sl {p : Addr} {H H' : Hp} (e : Sm p H H') : Sl H H' := fun b o h n => e.keep b o h (by
  rintro rfl
  obtain ⟨m, hm⟩ := e.at0
  rw [hm] at h
  cases h
  cases n)
theorem Sm.upd {p : Addr} {H H' : Hp} {o : HO} (e : Sm p H H') : Sm p H (upd H' p o) := ⟨e.at0, fun a u ha hn => by
  rw [upd_ne hn]
  exact e.keep a u ha hn⟩
theorem Sm.new {p q : Addr} {H H' : Hp} {o : HO} (e : Sm p H H') (n : H q = none) : Sm p H (L2.upd H' q o) := ⟨e.at0, fun a u ha hn => by
  rw [upd_ne (ne_of_none ha n)]
  exact e.keep a u ha hn⟩
/-- what is no dice is elsewhere -/
theorem Sm.lst {p a : Addr} {H H' : Hp} {xs : List V} (e : Sm p H H') (h : H a = some (.lst xs)) : H' a = some (.lst xs) := e.keep a _ h (by
  rintro rfl
  obtain ⟨m, hm⟩ := e.at0
  rw [hm] at h
  cases h)
theorem Sm.tupO {p a : Addr} {H H' : Hp} {xs : List V} (e : Sm p H H') (h : H a = some (.tup xs)) : H' a = some (.tup xs) := e.sl _ _ h rfl
theorem Sm.nul {p q : Addr} {n : Nat} {H H' : Hp} (e : Sm p H H') (hp : H' p = some (DiceO p n)) (h : H' q = none) : H q = none := by
  cases z : H q with
  | none => rfl
  | some o =>
    by_cases hq : q = p
    · rw [hq, hp] at h
      cases h
    · rw [e.keep q o z hq] at h
      cases h
theorem Sm.tup {p : Addr} {K : PySem.W.Frag} {H H' : Hp} {a : Addr} {xs : List V} (e : Sm p H H') (h : SqT K H a xs) : SqT K H' a xs := e.sl.tup h
theorem Sm.seq {p : Addr} {K : PySem.W.Frag} {H H' : Hp} {a : Addr} {xs : List V} (e : Sm p H H') (h : SqL K H a xs) : SqL K H' a xs := by
  rcases h with (h | ⟨o, h⟩) | h
  · exact .inl (.inl (e.lst h))
  · exact .inl (.inr ⟨o, e.sl _ _ h rfl⟩)
  · exact .inr h
mutual
theorem dp_sm {q : Addr} {K : PySem.W.Frag} {H H' : Hp} (s : Sm q H H') : ∀ {d : PyData} {v : V}, Dp K H v d → Dp K H' v d
  | .none, _, h => by cases h; exact .non
  | .bool _, _, h => by cases h; exact .bl _
  | .int _, _, h => by cases h; exact .int _
  | .str _, _, h => by cases h; exact .str _
  | .list ds, _, h => by
    cases h with
    | lst hs ha => exact .lst (s.seq hs) (dpa_sm s ha)
  | .tuple ds, _, h => by
    cases h with
    | tup hs ha => exact .tup (s.tup hs) (dpa_sm s ha)
  | .dict _, _, h => by cases h
theorem dpa_sm {q : Addr} {K : PySem.W.Frag} {H H' : Hp} (s : Sm q H H') : ∀ {ds : List PyData} {vs : List V}, DpAll K H vs ds → DpAll K H' vs ds
  | [], _, h => by cases h; exact .nil
  | d :: ds, _, h => by
    cases h with
    | cons h1 h2 => exact .cons (dp_sm s h1) (dpa_sm s h2)
end
/-! ### what the drawing defs promise; the list of the drawn ones is at most 2 ^ 60 long -/
def spDice (K : PySem.W.Frag) : Sp := fun vs H Q _ => ∃ (a : Addr) (ns : List Int) (j : Nat), vs = [.ref a, .int j] ∧ SqL K H a (ns.map V.int) ∧ ns.length ≤ 63 ∧ j ≤ 100 ∧ ∀ p H', Same H H' → H p = none → H' p = some (DiceO p 0) → Q (.ref p) H'
def spRoll : Sp := fun vs H Q _ => ∃ (p : Addr) (n : Nat) (k : Int), vs = [.ref p, .int k] ∧ H p = some (DiceO p n) ∧ n < 2 ^ 60 ∧ 0 < k ∧ k < 2 ^ 20 ∧ ∀ r H', Sm p H H' → H' p = some (DiceO p (n + 1)) → 0 ≤ r → r < k → Q (.int r) H'
def spPick (K : PySem.W.Frag) : Sp := fun vs H Q _ => ∃ (p l : Addr) (n : Nat) (xs : List V), vs = [.ref p, .ref l] ∧ H p = some (DiceO p n) ∧ n < 2 ^ 60 ∧ SqL K H l xs ∧ xs ≠ [] ∧ xs.length < 2 ^ 20 ∧ ∀ v ∈ xs, ∀ H', Sm p H H' → H' p = some (DiceO p (n + 1)) → Q v H'
end Ax
end
section
set_option maxHeartbeats 2000000
namespace Ax
open PySem PySem.Spec PyProof.Rows L2
section
variable {X : Cx} {e a b o : Expr} {es : List Expr} {st : Stmt} {bl rest : List Stmt} {σ : L2.St} {H : Hp} {Q : VK} {D : Ends} {pos apos : Pos}
/-! ### methods of built-in types, one argument -/
theorem w_bm1 {T id : String} {name : Str} (pa : PlainAttrs T) (slot : Slot T name id) (hty : typeOf (.builtin id) = pure (.type "method_descriptor")) (h : W X o σ H fun x H1 => tyV X.K T x H1 ∧ W X a σ H1 fun y H2 => MtV X id x [y] H2 Q)
    (hbase : attributeBase o name X.env (eval o X.env) = eval o X.env := by rfl)
    (hfew : methodCallForm ([a].length + ([] : List Keyword).length + if ([] : List Keyword).isEmpty = true then 0 else 1) (backTo pos (starEach [a] X.env)) (backToKw pos (keywordEach [] X.env)) = true := by rfl)
    (hline : (apos.endLine == pos.line) = true := by rfl) (hs : starEach [a] X.env = (false, eval a X.env) :: starEach [] X.env := by rfl) (hpl : (backTo pos (starEach [] X.env)).any (·.1) = false := by rfl) :
    W X (.Call (.Attribute o name apos) [a] [] pos) σ H Q := by
  refine W.of (pe_bm pa slot hty mtV_r W.pe WA.pa hbase hfew hline hs hpl) ?_
  show W X o σ H _
  exact W.mono h fun x H1 ⟨t, h2⟩ => ⟨t, wa_cons (W.mono h2 fun y H2 q => wa_nil q) hs⟩
theorem tyV_list {x : V} {K : PySem.W.Frag} (h : ∃ l xs, x = .ref l ∧ SqL K H l xs) : tyV K "list" x H := by
  obtain ⟨l, xs, rfl, hl⟩ := h
  exact .inl ⟨rfl, _, hl⟩
theorem mv_append {l : Addr} {xs : List V} {y : V} (hl : H l = some (.lst xs)) (hz : xs.length < sizeLine) (q : Q .non (upd H l (.lst (xs ++ [y])))) : MtV X "list.append" (.ref l) [y] H Q := ⟨_, mt_append, l, xs, y, rfl, rfl, hl, hz, q⟩
theorem mv_extend {l b : Addr} {xs zs : List V} (hl : H l = some (.lst xs)) (hb : H b = some (.lst zs)) (hz : xs.length + zs.length ≤ sizeLine) (q : Q .non (upd H l (.lst (xs ++ zs)))) : MtV X "list.extend" (.ref l) [.ref b] H Q := ⟨_, mt_extend, l, b, xs, zs, rfl, rfl, hl, hb, hz, q⟩
theorem mv_popAt {l : Addr} {xs : List V} {i : Int} {y : V} (hl : H l = some (.lst xs)) (h0 : 0 ≤ i) (h1 : i.toNat < xs.length) (h2 : i < 2 ^ 62) (hy : xs[i.toNat]? = some y) (q : Q y (upd H l (.lst (xs.eraseIdx i.toNat)))) : MtV X "list.pop" (.ref l) [.int i] H Q :=
  ⟨_, mt_popAt, l, xs, i, i.toNat, y, rfl, rfl, hl, by omega, by omega, seqIndex_of h0 (by omega), hy, q⟩
theorem w_pop0 (h : W X o σ H fun x H1 => ∃ l xs y, x = .ref l ∧ H1 l = some (.lst xs) ∧ xs[xs.length - 1]? = some y ∧ Q y (upd H1 l (.lst xs.dropLast)))
    (hbase : attributeBase o "pop" X.env (eval o X.env) = eval o X.env := by rfl) (hline : (apos.endLine == pos.line) = true := by rfl) : W X (.Call (.Attribute o "pop" apos) [] [] pos) σ H Q := by
  refine W.of (pe_bm0 PySem.F.plainAttrs_list PySem.F.slot_list_pop PySem.F.type_list_pop mt_pop W.pe hbase hline) ?_
  show W X o σ H _
  refine W.mono h fun x H1 ⟨l, xs, y, ex, hl, hy, q⟩ => ⟨?_, l, xs, y, ex, rfl, hl, hy, q⟩
  subst ex
  exact .inl ⟨rfl, _, SqL.of hl⟩
/-! ### statements -/
theorem ws_par (i j : Nat) {x y : Str} {px py pt : Pos} {kt k2 pt2} (h : WA X [a, b] σ H fun vs H1 => ∃ v w, vs = [v, w] ∧ D.nx ((σ.set i (some v)).set j (some w)) H1) (hi : X.N[i]? = some x) (hj : X.N[j]? = some y) (hN : X.N.Nodup) (hc : X.calm = true := by rfl) (hij : i ≠ j := by decide)
    (hx : X.env.scope.names.lookup x = some .local := by rfl) (hy : X.env.scope.names.lookup y = some .local := by rfl)
    (hw : swappedStores [.Tuple [.Name x px, .Name y py] kt pt] (.Tuple [a, b] k2 pt2) X.env = pure (some [x, y]) := by rfl)
    (hs : swapsWithSole [.Tuple [.Name x px, .Name y py] kt pt] (.Tuple [a, b] k2 pt2) pos.line X.env = pure false := by rfl) :
    WS X (.Assign [.Tuple [.Name x px, .Name y py] kt pt] (.Tuple [a, b] k2 pt2) pos) D σ H := WS.of (ps_par hc hN hi hj hij hx hy WA.pa hw hs) h
theorem ws_tup2 (i j : Nat) {x y : Str} {px py pt : Pos} {kt} (h : W X e σ H fun v H1 => ∃ a v1 v2, v = .ref a ∧ SqT X.K H1 a [v1, v2] ∧ D.nx ((σ.set i (some v1)).set j (some v2)) H1) (hi : X.N[i]? = some x) (hj : X.N[j]? = some y) (hN : X.N.Nodup) (hc : X.calm = true := by rfl)
    (hx : Loc X.env.scope x := by first | exact Or.inl rfl | exact Or.inr rfl) (hy : Loc X.env.scope y := by first | exact Or.inl rfl | exact Or.inr rfl)
    (hfx : X.fn x = true ∨ X.env.scope.names.lookup x = some .local := by first | exact Or.inl rfl | exact Or.inr rfl) (hfy : X.fn y = true ∨ X.env.scope.names.lookup y = some .local := by first | exact Or.inl rfl | exact Or.inr rfl)
    (hs : swapsWithSole [.Tuple [.Name x px, .Name y py] kt pt] e pos.line X.env = pure false := by rfl) (hw : swappedStores [.Tuple [.Name x px, .Name y py] kt pt] e X.env = pure none := by rfl)
    (h1 : (assignEach [.Tuple [.Name x px, .Name y py] kt pt] X.env).map (·.2) = [assign (.Tuple [.Name x px, .Name y py] kt pt) X.env] := by rfl)
    (h2 : (assignEach (Expr.Name x px :: [.Name y py]) X.env).map (·.2) = assign (.Name x px) X.env :: (assignEach [.Name y py] X.env).map (·.2) := by rfl)
    (h3 : (assignEach (Expr.Name y py :: []) X.env).map (·.2) = assign (.Name y py) X.env :: (assignEach [] X.env).map (·.2) := by rfl)
    (h4 : (assignEach [.Name x px, .Name y py] X.env).length = 2 := by rfl) (h5 : (assignEach [.Name x px, .Name y py] X.env).findIdx? (·.1) = none := by rfl) :
    WS X (.Assign [.Tuple [.Name x px, .Name y py] kt pt] e pos) D σ H := by
  refine WS.of (ps_asg W.pe (pg_tup (n := 2) hc (pgs_cons (pg_name hN hi hx hfx) (pgs_cons (pg_name hN hj hy hfy) pgs_nil h3) h2) h4 h5) hs hw h1) ?_
  show W X e σ H _
  refine W.mono h fun v H1 ⟨a, v1, v2, ev, ha, q⟩ => ⟨a, [v1, v2], ev, ha, rfl, v1, [v2], rfl, v2, [], rfl, rfl, q⟩
/-- while, by what holds ahead of each turn, with a number that falls -/
theorem ws_while {c : Expr} {body : List Stmt} (I : Nat → L2.St → Hp → Prop) (h0 : ∃ m, I m σ H)
    (hs : ∀ m σ H, I m σ H → WT X c σ H fun k H1 => if k = true then WB X body { D with nx := fun σ' H' => ∃ m', m' < m ∧ I m' σ' H', ct := fun σ' H' => ∃ m', m' < m ∧ I m' σ' H', bk := D.nx } σ H1 else D.nx σ H1)
    (hp : PassesOwn (model X.prog X.w) X.A X.env X.xe) : WS X (.While c body [] pos) D σ H := by
  refine WS.of (ps_while hp WT.pt WB.pss) ⟨I, h0, fun m σ H i => WT.mono (hs m σ H i) fun k H1 q => ?_⟩
  cases k with
  | true => exact ⟨_, fun σ' H' z => z, q⟩
  | false => exact q
/-- for over a walk of fixed items -/
theorem ws_for {iter : Expr} {body : List Stmt} {x : Str} {px : Pos} (i : Nat) (h : WI X (.Name x px) iter σ H fun J H1 => ∃ n G Y, Walk J n G Y ∧ ∃ I : Nat → L2.St → Hp → Prop, I 0 σ H1 ∧ (∀ i σ H, i ≤ n → I i σ H → G H) ∧
      (∀ j v σ H H', j < n → I j σ H → Y j H v H' → WB X body { D with nx := I (j + 1), ct := I (j + 1), bk := D.nx } (σ.set i (some v)) H') ∧ ∀ σ H, I n σ H → D.nx σ H)
    (hi : X.N[i]? = some x) (hN : X.N.Nodup) (hp : PassesOwn (model X.prog X.w) X.A X.env X.xe) (hc : X.calm = true := by rfl) (hx : Loc X.env.scope x := by first | exact Or.inl rfl | exact Or.inr rfl)
    (hf : X.fn x = true ∨ X.env.scope.names.lookup x = some .local := by first | exact Or.inl rfl | exact Or.inr rfl) (hs : ∀ x, foldedSetIterable iter X.env x = pure x := by intro _; rfl) : WS X (.For (.Name x px) iter body [] pos) D σ H := by
  refine WS.of (ps_for hp hc WI.pi (pg_name hN hi hx hf) WB.pss hs) ?_
  refine ⟨fun pins s I => thn (h.run pins s I) fun v s1 z => thn z fun it s2 q => ?_⟩
  obtain ⟨it', fp, tn, J, H1, e, I2, T, t0, f0, n, G, Y, wk, Iv, i0, hG, hst, hd⟩ := q
  exact ⟨it', fp, tn, J, H1, e, I2, T, t0, f0, for_it wk Iv i0 hG (fun j v σ H H' hj hI y => hst j v σ H H' hj hI y) hd⟩
/-! ### raise X('..'), X over ValueError without own __init__ -/
structure ErrC (K : PySem.W.Frag) (mg : Str → Option Value) (x : Str) (C : Addr) : Prop where
  g : mg x = some (.ref C)
  x : PySem.W.excIn K C He.veBase "ValueError.__new__" = true
  k : PySem.W.keepIn K (.ref C) = true
  b : PySem.W.subIn K (.ref C) (.type "BaseException") = some true
  t : PySem.W.typeIn K (.ref C) = some (.type "type")
theorem ws_raise {x m : Str} {C : Addr} {j : Nat} {p p2 cpos : Pos} {Wx : WX} (hC : ErrC X.K X.mg x C) (tk : Takes X Wx) (h : Wx (.ref C) none σ H) (hc : X.calm = true := by rfl) (hg : Gl X x := by rfl) (hdb : (x == ("__debug__" : Str)) = false := by decide) :
    WS X (.Raise (some (.Call (.Name x p) [.Constant (.str m) j p2] [] cpos)) none pos) D σ H :=
  WS.of (ps_raise hc tk (pmk_own PySem.F.excBase_ValueError hC.x hC.g hC.k (raises_own hC.b hC.t) hg hdb)) h
theorem errC_of {K : PySem.W.Frag} {h : Heap} {mg : Str → Option Value} {x : Str} (I : K.In h) (G : h.Ns mainGlobals mg) (c : (He.Fa.glo x).ok K = true) (c2 : (He.Fa.exc x).ok K = true) : ErrC K mg x (He.ga K x) := by
  obtain ⟨h1, h2, h3, h4⟩ := He.exc_ok c2
  exact ⟨He.glo_ok I G c, h1, h2, h3, h4⟩
/-! ### lists of things by a relation -/
inductive All2 {β α : Type} (R : β → α → Prop) : List β → List α → Prop
  | nil : All2 R [] []
  | cons {x a xs as} : R x a → All2 R xs as → All2 R (x :: xs) (a :: as)
theorem All2.imp {β α : Type} {R S : β → α → Prop} (k : ∀ x a, R x a → S x a) : ∀ {xs : List β} {as : List α}, All2 R xs as → All2 S xs as
  | _, _, .nil => .nil
  | _, _, .cons r t => .cons (k _ _ r) (All2.imp k t)
theorem All2.app {β α : Type} {R : β → α → Prop} : ∀ {xs ys : List β} {as bs : List α}, All2 R xs as → All2 R ys bs → All2 R (xs ++ ys) (as ++ bs)
  | _, _, _, _, .nil, h => h
  | _, _, _, _, .cons r t, h => .cons r (All2.app t h)
theorem All2.one {β α : Type} {R : β → α → Prop} {x : β} {a : α} (h : R x a) : All2 R [x] [a] := .cons h .nil
theorem All2.len {β α : Type} {R : β → α → Prop} : ∀ {xs : List β} {as : List α}, All2 R xs as → xs.length = as.length
  | _, _, .nil => rfl
  | _, _, .cons _ t => by simp [All2.len t]
theorem All2.last {β α : Type} {R : β → α → Prop} : ∀ {xs : List β} {as : List α}, All2 R xs as → xs ≠ [] → ∃ x a ys bs, xs = ys ++ [x] ∧ as = bs ++ [a] ∧ R x a ∧ All2 R ys bs
  | _, _, .nil, h => absurd rfl h
  | _, _, .cons (x := x) (a := a) r .nil, _ => ⟨x, a, [], [], rfl, rfl, r, .nil⟩
  | _, _, .cons (x := x) (a := a) r (.cons r' t), _ => by
    obtain ⟨y, b, ys, bs, e1, e2, r2, t2⟩ := All2.last (.cons r' t) (by simp)
    exact ⟨y, b, x :: ys, a :: bs, by rw [e1]; rfl, by rw [e2]; rfl, r2, .cons r t2⟩
/-! ### xs != [] -/
theorem cv_ne_nil {p q : Addr} {xs : List V} (hu : X.A.units < cLine) (hp : SqL X.K H p xs) (hq : SqL X.K H q []) (h : Q (.bl (!xs.isEmpty)) H) : CmpV X .NotEq (.ref p) (.ref q) H Q := by
  refine ⟨fun x y H Q => x = .ref p ∧ y = .ref q ∧ SqL X.K H p xs ∧ SqL X.K H q [] ∧ Q (.bl (!xs.isEmpty)) H, ?_, rfl, rfl, hp, hq, h⟩
  rintro pins s σ H x y v u Q I rx ry ⟨rfl, rfl, h1, h2, q⟩
  cases rx
  cases ry
  obtain ⟨its, r, pl, _⟩ := I.list h1
  obtain ⟨its2, r2, pl2, _⟩ := I.list h2
  cases r2
  have hl := r.length
  cases xs with
  | nil =>
    cases r
    exact SeqAt.RcNeAt.lists (e := fun _ => true) pl.isList pl2.isList rfl hu (fun j h1 _ => absurd h1 (by simp)) _ _ _ _ ⟨.bl _, H, I, rfl, q⟩
  | cons y ys =>
    cases r with
    | cons r1 rt => exact SeqAt.RcNeAt.lists_lengths pl.isList pl2.isList (by simp) hu _ _ _ _ ⟨.bl _, H, I, rfl, q⟩
end
end Ax
end
section
set_option maxHeartbeats 2000000
namespace Ax
open PySem PySem.Spec PyProof.Rows L2
section
variable {X : Cx} {iter elt kx vx tg : Expr} {ifs : List Expr} {σ : L2.St} {H : Hp} {Q : VK} {pos : Pos} {scope : Scope}
/-- all blocks of a comprehension -/
def Blk (X : Cx) (scope : Scope) (P : Cx → Prop) : Prop := ∀ (s : Shared) (H : Hp) (C : Addr) (cl : List (Str × Addr)) (fp : List Addr), P (X.blk s H scope (compEnvC scope cl C X.env) fp)
/-- items by their places, left out or making something -/
inductive RelI {β : Type} (N : Nat → Prop) (R : Nat → β → Prop) : Nat → List β → Prop
  | nil : RelI N R 0 []
  | drop {n ys} : N n → RelI N R n ys → RelI N R (n + 1) ys
  | keep {n y ys} : R n y → RelI N R n ys → RelI N R (n + 1) (ys ++ [y])
namespace RelI
variable {β : Type} {N : Nat → Prop} {R S : Nat → β → Prop}
theorem imp (k : ∀ x y, R x y → S x y) : ∀ {n : Nat} {ys : List β}, RelI N R n ys → RelI N S n ys
  | _, _, .nil => .nil
  | _, _, .drop n t => .drop n (imp k t)
  | _, _, .keep r t => .keep (k _ _ r) (imp k t)
theorem len : ∀ {n : Nat} {ys : List β}, RelI N R n ys → ys.length ≤ n
  | _, _, .nil => Nat.le_refl _
  | _, _, .drop _ t => Nat.le_succ_of_le (len t)
  | _, _, .keep _ t => by
    have := len t
    simp only [List.length_append, List.length_singleton]
    omega
/-- .. over data ds: those that f tells -/
theorem data {α γ : Type} {T : β → γ → Prop} {ds : List α} (f : α → Option γ) (hN : ∀ j d, ds[j]? = some d → N j → f d = none) (hR : ∀ j d y, ds[j]? = some d → R j y → ∃ e, f d = some e ∧ T y e) :
    ∀ {n : Nat} {ys : List β}, n ≤ ds.length → RelI N R n ys → ∃ es, (ds.take n).filterMap f = es ∧ All2 T ys es := by
  intro n ys hn h
  induction h with
  | nil => exact ⟨[], rfl, .nil⟩
  | @drop n ys h _ ih =>
    obtain ⟨es, e, q⟩ := ih (by omega)
    have hd : ds[n]? = some ds[n] := List.getElem?_eq_getElem (by omega)
    refine ⟨es, ?_, q⟩
    rw [List.take_add_one, hd, List.filterMap_append, e]
    simp [hN n _ hd h]
  | @keep n y ys h _ ih =>
    obtain ⟨es, e, q⟩ := ih (by omega)
    have hd : ds[n]? = some ds[n] := List.getElem?_eq_getElem (by omega)
    obtain ⟨e1, h1, h2⟩ := hR n _ y hd h
    refine ⟨es ++ [e1], ?_, ?_⟩
    · rw [List.take_add_one, hd, List.filterMap_append, e]
      simp [h1]
    · exact q.app (.one h2)
end RelI
/-- a list comprehension with any target and tests: N tells who is left out, R what becomes of whom -/
abbrev LcG (X : Cx) (tg iter elt : Expr) (scope : Scope) (own : List (Str × Nat)) (g : TG) (tt : TT) (σ : L2.St) (H : Hp) (Q : VK) : Prop := WI X tg iter σ H fun J H1 => ∃ xs, SeqIt J H1 xs ∧ xs.length < sizeLine ∧ ∃ (N : Nat → Prop) (R : Nat → V → Hp → Prop), (∀ x y Ha Hb, R x y Ha → Sl Ha Hb → R x y Hb) ∧
      (∀ j v, xs[j]? = some v → ∀ H2, Same H1 H2 → ∀ (Kf : Hp → Prop) (Kt : VK), (N j → ∀ H3, Same H2 H3 → Kf H3) → (∀ y H3, Same H2 H3 → R j y H3 → Kt y H3) →
        g v (wipe σ (own.map (·.2))) H2 fun σ2 H3 => wipe σ2 (own.map (·.2)) = wipe σ (own.map (·.2)) ∧ tt σ2 H3 fun b H4 => if b = true then (Blk X scope fun Y => W Y elt σ2 H4 Kt) else Kf H4) ∧
      ∀ q ys H2, Same H1 H2 → H1 q = none → H2 q = some (.lst ys) → RelI N (fun x y => R x y H2) xs.length ys → Q (.ref q) H2
theorem lcG_t {own : List (Str × Nat)} {g : TG} {tt : TT} (h : LcG X tg iter elt scope own g tt σ H Q) : tLc (WI X tg iter) g tt (fun σ2 H2 K => Blk X scope fun Y => W Y elt σ2 H2 K) (own.map (·.2)) σ H Q := by
  refine ⟨fun pins s I => thn (h.run pins s I) fun v s1 z => thn z fun it s2 q => ?_⟩
  obtain ⟨it', fp, tn, J, H1, e, I2, T, t0, f0, xs, ⟨G, wk, g0, gs⟩, hlen, N, R, hst, hel, hend⟩ := q
  refine ⟨it', fp, tn, J, H1, e, I2, T, t0, f0, fun Dd nD => ?_⟩
  refine lc_it (H1 := H1) (D := Dd) (g := g) (tt := tt) (te := fun σ2 H2 K => Blk X scope fun Y => W Y elt σ2 H2 K) (vs := own.map (·.2)) (σ := σ) (Qd := fun H2 => Q (.ref Dd) H2) wk
    (fun j H2 => ∃ ys, Same H1 H2 ∧ H2 Dd = some (.lst ys) ∧ RelI N (fun x y => R x y H2) j ys) ⟨[], same_new nD, upd_same, .nil⟩ (fun j H2 _ ⟨ys, sm, hD, _⟩ => gs _ sm) ?_ ?_
  · rintro j v H2 H2' hj ⟨ys, s12, hD, rel⟩ ⟨eH, hv⟩
    subst eH
    refine hel j v hv _ s12 _ _ (fun c H3 s23 => ?_) (fun y H3 s23 r => ?_)
    · refine ⟨ys, s12.trans s23, s23 _ _ hD, ?_⟩
      exact .drop c (rel.imp fun a b q => hst _ _ _ _ q (Sl.of s23))
    · have hD3 := s23 _ _ hD
      have hl : ys.length < sizeLine := by
        have e1 := rel.len
        omega
      refine ⟨ys, hD3, hl, ys ++ [y], same_upd (s12.trans s23) nD, upd_same, ?_⟩
      have sl : Sl H3 (upd H3 Dd (.lst (ys ++ [y]))) := (Sl.refl H3).lst hD3
      exact .keep (R := fun x y => R x y _) (hst _ _ _ _ r sl) (rel.imp fun a b q => hst _ _ _ _ q ((Sl.of s23).trans sl))
  · rintro H2 ⟨ys, s12, hD, rel⟩
    exact hend Dd ys H2 s12 nD hD rel
theorem w_lcG (own : List (Str × Nat)) (g : TG) (tt : TT) (hg : Blk X scope fun Y => PG Y tg g) (ht : Blk X scope fun Y => PTs Y ifs tt) (hc : X.calm = true) (hN : X.N.Nodup) (ok : BlkOk X.N X.env.scope scope own)
    (h : LcG X tg iter elt scope own g tt σ H Q)
    (hs : ∀ x, foldedSetIterable iter X.env x = pure x := by intro _; rfl) : W X (.ListComp elt [⟨tg, iter, ifs, 0⟩] scope pos) σ H Q := by
  exact W.of (pe_lc (own := own) (g := g) (tt := tt) (te := fun σ2 H2 K => Blk X scope fun Y => W Y elt σ2 H2 K) hc hN WI.pi ok hg ht
    (fun s H C cl fp => ⟨fun pins s' σ' H' Q' I' h' => (h' s H C cl fp).run pins s' I'⟩) hs) (lcG_t h)
theorem ws_setLcG {D : Ends} {y : Str} {py spos : Pos} (i : Nat) (own : List (Str × Nat)) (g : TG) (tt : TT) (hg : Blk X scope fun Y => PG Y tg g) (ht : Blk X scope fun Y => PTs Y ifs tt) (hc : X.calm = true) (hN : X.N.Nodup) (ok : BlkOk X.N X.env.scope scope own) (hy : X.N[i]? = some y)
    (h : LcG X tg iter elt scope own g tt σ H fun v H1 => D.nx (σ.set i (some v)) H1) (hyl : X.env.scope.names.lookup y = some .local := by rfl) (hsw : swapsWith (.ListComp elt [⟨tg, iter, ifs, 0⟩] scope pos) (some (.Name y py)) spos.line X.env = pure true := by exact sw_true rfl rfl rfl rfl)
    (hs : ∀ x, foldedSetIterable iter X.env x = pure x := by intro _; rfl) : WS X (.Assign [.Name y py] (.ListComp elt [⟨tg, iter, ifs, 0⟩] scope pos) spos) D σ H :=
  WS.of (ps_setLc (own := own) (g := g) (tt := tt) (te := fun σ2 H2 K => Blk X scope fun Y => W Y elt σ2 H2 K) hc hN hy hyl hsw WI.pi ok hg ht
    (fun s H C cl fp => ⟨fun pins s' σ' H' Q' I' h' => (h' s H C cl fp).run pins s' I'⟩) hs) (lcG_t h)
/-- places of two lists -/
theorem All2.at {β α : Type} {R : β → α → Prop} {xs : List β} {as : List α} (h : All2 R xs as) : ∀ {j : Nat} {x : β}, xs[j]? = some x → ∃ a, as[j]? = some a ∧ R x a := by
  induction h with
  | nil => intro j x e; simp at e
  | cons r _ ih =>
    intro j x e
    cases j with
    | zero =>
      simp at e
      subst e
      exact ⟨_, rfl, r⟩
    | succ j => exact ih (by simpa using e)
theorem All2.atR {β α : Type} {R : β → α → Prop} {xs : List β} {as : List α} (h : All2 R xs as) : ∀ {j : Nat} {a : α}, as[j]? = some a → ∃ x, xs[j]? = some x ∧ R x a := by
  induction h with
  | nil => intro j x e; simp at e
  | cons r _ ih =>
    intro j x e
    cases j with
    | zero =>
      simp at e
      subst e
      exact ⟨_, rfl, r⟩
    | succ j => exact ih (by simpa using e)
theorem All2.mapL {β γ : Type} {f : γ → β} {xs : List β} {cs : List γ} (h : All2 (fun x c => x = f c) xs cs) : xs = cs.map f := by
  induction h with
  | nil => rfl
  | cons e _ ih => rw [e, ih]; rfl
/-- the keys that were put in -/
theorem putK_keys {d : List (Key × V)} {k : Key} {v : V} : (k ∈ d.map (·.1) ∧ (putK d k v).map (·.1) = d.map (·.1)) ∨ (k ∉ d.map (·.1) ∧ (putK d k v).map (·.1) = d.map (·.1) ++ [k]) := by
  unfold putK
  cases e : d.any fun kv => decide (kv.1 = k) with
  | true =>
    left
    obtain ⟨kv, h1, h2⟩ := List.any_eq_true.mp e
    refine ⟨List.mem_map.mpr ⟨kv, h1, of_decide_eq_true h2⟩, ?_⟩
    rw [if_pos rfl, List.map_map]
    refine List.map_congr_left fun kv _ => ?_
    show (if kv.1 = k then (kv.1, v) else kv).1 = kv.1
    split <;> rfl
  | false =>
    right
    refine ⟨fun h => ?_, ?_⟩
    · obtain ⟨kv, h1, h2⟩ := List.mem_map.mp h
      have h3 := List.any_eq_false.mp e kv h1
      exact h3 (decide_eq_true h2)
    · rw [if_neg Bool.false_ne_true]
      simp
/-- the dict of pairs put in one behind another -/
def putAll (ys : List (Key × V)) : List (Key × V) := ys.foldl (fun d kv => putK d kv.1 kv.2) []
theorem putAll_snoc {ys : List (Key × V)} {k : Key} {v : V} : putAll (ys ++ [(k, v)]) = putK (putAll ys) k v := by
  unfold putAll
  rw [List.foldl_append]
  rfl
theorem putAll_mem (ys : List (Key × V)) : ((putAll ys).map (·.1)).Nodup ∧ ∀ k, k ∈ (putAll ys).map (·.1) ↔ k ∈ ys.map (·.1) := by
  have h : ∀ (zs d : List (Key × V)), (d.map (·.1)).Nodup → ((zs.foldl (fun d kv => putK d kv.1 kv.2) d).map (·.1)).Nodup ∧ ∀ k, k ∈ (zs.foldl (fun d kv => putK d kv.1 kv.2) d).map (·.1) ↔ k ∈ d.map (·.1) ∨ k ∈ zs.map (·.1) := by
    intro zs
    induction zs with
    | nil => intro d n; exact ⟨n, fun k => by simp⟩
    | cons z zs ih =>
      intro d n
      have e := putK_keys (d := d) (k := z.1) (v := z.2)
      have n2 : ((putK d z.1 z.2).map (·.1)).Nodup := by
        rcases e with ⟨_, e⟩ | ⟨c, e⟩
        · rw [e]; exact n
        · rw [e, List.nodup_append]
          refine ⟨n, by simp, fun a ha b hb => ?_⟩
          rw [List.mem_singleton.mp hb]
          rintro rfl
          exact c ha
      obtain ⟨h1, h2⟩ := ih (putK d z.1 z.2) n2
      refine ⟨h1, fun k => ?_⟩
      rw [List.foldl_cons, h2 k, List.map_cons, List.mem_cons]
      rcases e with ⟨c, e⟩ | ⟨c, e⟩
      · rw [e]
        constructor
        · rintro (h | h)
          · exact .inl h
          · exact .inr (.inr h)
        · rintro (h | h | h)
          · exact .inl h
          · rw [h]; exact .inl c
          · exact .inr h
      · rw [e, List.mem_append, List.mem_singleton, or_assoc]
  obtain ⟨h1, h2⟩ := h ys [] (by simp)
  exact ⟨h1, fun k => (h2 k).trans (by simp)⟩
theorem nodup_len {α : Type} [DecidableEq α] : ∀ {xs L : List α}, xs.Nodup → (∀ z ∈ xs, z ∈ L) → xs.length ≤ L.length
  | [], _, _, _ => Nat.zero_le _
  | x :: xs, L, n, h => by
    have n := List.nodup_cons.mp n
    have h1 := nodup_len (xs := xs) (L := L.erase x) n.2 fun z hz => (List.mem_erase_of_ne (by rintro rfl; exact n.1 hz)).mpr (h z (List.mem_cons_of_mem _ hz))
    have h2 := List.length_erase_of_mem (h x List.mem_cons_self)
    have h3 : 0 < L.length := List.length_pos_of_mem (h x List.mem_cons_self)
    simp only [List.length_cons]
    omega
theorem putAll_len : ∀ ys : List (Key × V), (putAll ys).length ≤ ys.length := by
  intro ys
  have h : ∀ (zs d : List (Key × V)), (zs.foldl (fun d kv => putK d kv.1 kv.2) d).length ≤ d.length + zs.length := by
    intro zs
    induction zs with
    | nil => intro d; exact Nat.le_refl _
    | cons z zs ih =>
      intro d
      have h1 := ih (putK d z.1 z.2)
      have h2 := length_putK d z.1 z.2
      show (zs.foldl _ (putK d z.1 z.2)).length ≤ _
      simp only [List.length_cons]
      omega
  have e := h ys []
  rw [List.length_nil, Nat.zero_add] at e
  exact e
/-- a dict comprehension, keys ints or texts -/
theorem w_dcG (own : List (Str × Nat)) (g : TG) (tt : TT) (hg : Blk X scope fun Y => PG Y tg g) (ht : Blk X scope fun Y => PTs Y ifs tt) (hc : X.calm = true) (hN : X.N.Nodup) (ok : BlkOk X.N X.env.scope scope own)
    (h : WI X tg iter σ H fun J H1 => ∃ xs, SeqIt J H1 xs ∧ xs.length < sizeLine ∧ ∃ (N : Nat → Prop) (R : Nat → Key → V → Hp → Prop), (∀ x k y Ha Hb, R x k y Ha → Sl Ha Hb → R x k y Hb) ∧
      (∀ j v, xs[j]? = some v → ∀ H2, Same H1 H2 → ∀ (Kf : Hp → Prop) (Kt : V → V → Hp → Prop), (N j → ∀ H3, Same H2 H3 → Kf H3) → (∀ k y H3, Same H2 H3 → R j k y H3 → Kt (kV k) y H3) →
        g v (wipe σ (own.map (·.2))) H2 fun σ2 H3 => wipe σ2 (own.map (·.2)) = wipe σ (own.map (·.2)) ∧ tt σ2 H3 fun b H4 => if b = true then (Blk X scope fun Y => W Y kx σ2 H4 fun y H5 => Blk X scope fun Y => W Y vx σ2 H5 fun z H6 => Kt y z H6) else Kf H4) ∧
      ∀ q ys H2, H1 q = none → H2 q = some (.dK (putAll ys)) → Same H1 H2 → RelI N (fun x (ky : Key × V) => R x ky.1 ky.2 H2) xs.length ys → Q (.ref q) H2)
    (hs : ∀ x, foldedSetIterable iter X.env x = pure x := by intro _; rfl) : W X (.DictComp kx vx [⟨tg, iter, ifs, 0⟩] scope pos) σ H Q := by
  refine W.of (pe_dc (own := own) (g := g) (tt := tt) (tk := fun σ2 H2 K => Blk X scope fun Y => W Y kx σ2 H2 K) (tv := fun σ2 H2 K => Blk X scope fun Y => W Y vx σ2 H2 K) hc hN WI.pi ok hg ht
    (fun s H C cl fp => ⟨fun pins s' σ' H' Q' I' h' => (h' s H C cl fp).run pins s' I'⟩) (fun s H C cl fp => ⟨fun pins s' σ' H' Q' I' h' => (h' s H C cl fp).run pins s' I'⟩) hs) ?_
  refine ⟨fun pins s I => thn (h.run pins s I) fun v s1 z => thn z fun it s2 q => ?_⟩
  obtain ⟨it', fp, tn, J, H1, e, I2, T, t0, f0, xs, ⟨G, wk, g0, gs⟩, hlen, N, R, hst, hel, hend⟩ := q
  refine ⟨it', fp, tn, J, H1, e, I2, T, t0, f0, fun D nD => ?_⟩
  let Pv : Nat → Hp → Prop := fun j H2 => ∃ ys, Same H1 H2 ∧ H2 D = some (.dK (putAll ys)) ∧ RelI N (fun x (ky : Key × V) => R x ky.1 ky.2 H2) j ys
  refine ⟨fun i m H => m = xs.length - i ∧ i ≤ xs.length ∧ Pv i H, ⟨xs.length, by simp, Nat.zero_le _, [], same_new nD, upd_same, .nil⟩, ?_⟩
  rintro j m H2 ⟨rfl, hi, ys, s12, hD, rel⟩
  have gq := gs _ s12
  by_cases hlt : j < xs.length
  · refine .inr ⟨wk.goes j H2 hlt gq, Pv (j + 1), fun H' p' => ⟨xs.length - (j + 1), by omega, rfl, hlt, p'⟩, fun v H2' y => ?_⟩
    obtain ⟨eH, hv⟩ := wk.yields j H2 v H2' hlt gq y
    subst eH
    refine hel j v hv _ s12 _ (fun y z H4 => ∃ kvs k, y = kV k ∧ H4 D = some (.dK kvs) ∧ kvs.length < sizeLine ∧ Pv (j + 1) (upd H4 D (.dK (putK kvs k z)))) (fun c H3 s23 => ?_) (fun k y H3 s23 r => ?_)
    · refine ⟨ys, s12.trans s23, s23 _ _ hD, ?_⟩
      exact .drop c (rel.imp fun a b q => hst _ _ _ _ _ q (Sl.of s23))
    · have hD3 := s23 _ _ hD
      have hl : (putAll ys).length < sizeLine := by
        have e0 := putAll_len ys
        have e1 := rel.len
        omega
      refine ⟨_, k, rfl, hD3, hl, ys ++ [(k, y)], same_upd (s12.trans s23) nD, ?_, ?_⟩
      · rw [putAll_snoc]
        exact upd_same
      · have sl : Sl H3 (upd H3 D (.dK (putK (putAll ys) k y))) := (Sl.refl H3).upd hD3 rfl
        exact .keep (R := fun x (ky : Key × V) => R x ky.1 ky.2 _) (hst _ _ _ _ _ r sl) (rel.imp fun a b q => hst _ _ _ _ _ q ((Sl.of s23).trans sl))
  · have e : j = xs.length := by omega
    subst e
    exact .inl ⟨wk.stops _ gq, hend D ys H2 nD hD s12 rel⟩
/-! ### calls by values -/
theorem kv_maxL {p : Addr} {ns : List Int} (hc : X.calm = true) (hp : SqL X.K H p (ns.map V.int)) (hn : 0 < ns.length) (h : ∀ m, m ∈ ns → (∀ y, y ∈ ns → y ≤ m) → Q (.int m) H) : CallV X (.builtin "max") [.ref p] H Q := ⟨_, cr_max hc, p, ns, rfl, hp, hn, h⟩
theorem kv_minL {p : Addr} {ns : List Int} (hc : X.calm = true) (hp : SqL X.K H p (ns.map V.int)) (hn : 0 < ns.length) (h : ∀ m, m ∈ ns → (∀ y, y ∈ ns → m ≤ y) → Q (.int m) H) : CallV X (.builtin "min") [.ref p] H Q := ⟨_, cr_min hc, p, ns, rfl, hp, hn, h⟩
theorem kv_sumL {p : Addr} {ns : List Int} (hc : X.calm = true) (hp : SqL X.K H p (ns.map V.int)) (h : Q (.int ns.sum) H) : CallV X (.builtin "sum") [.ref p] H Q := ⟨_, cr_sum hc, p, ns, rfl, hp, h⟩
theorem kv_sortedS {p : Addr} {xs : List Str} (hp : SqL X.K H p (xs.map V.str)) (hn : xs.length < 64) (h : ∀ ys q H2, ys.Perm xs → sortedS ys = true → Same H H2 → H q = none → H2 q = some (.lst (ys.map V.str)) → Q (.ref q) H2) : CallV X (.builtin "sorted") [.ref p] H Q :=
  ⟨_, cr_sortedS, p, xs, rfl, hp, hn, fun ys q h1 h2 h3 => h ys q _ h1 h2 (same_new h3) h3 upd_same⟩
theorem kv_sortedD {p : Addr} {kvs : List (Key × V)} {ks : List Str} (hc : X.calm = true) (hp : H p = some (.dK kvs)) (hk : kvs.map (·.1) = ks.map Sum.inr) (hn : ks.length < 64) (h : ∀ ys q H2, ys.Perm ks → sortedS ys = true → Same H H2 → H q = none → H2 q = some (.lst (ys.map V.str)) → Q (.ref q) H2) : CallV X (.builtin "sorted") [.ref p] H Q :=
  ⟨_, call_sortedD hc, p, kvs, ks, rfl, Rd.of hp, hk, hn, fun ys q h1 h2 h3 => h ys q _ h1 h2 (same_new h3) h3 upd_same⟩
theorem kv_tupleL {p : Addr} {xs : List V} (hp : SqL X.K H p xs) (h : ∀ q H2, Same H H2 → H q = none → H2 q = some (.tup xs) → Q (.ref q) H2) : CallV X (.type "tuple") [.ref p] H Q :=
  ⟨_, call_tuple_of, p, xs, rfl, .inl ⟨hp, fun q h3 => h q _ (same_new h3) h3 upd_same⟩⟩
theorem kv_listS {p : Addr} {xs : List V} (hp : SqL X.K H p xs ∨ SqT X.K H p xs) (h : ∀ q H2, Same H H2 → H q = none → H2 q = some (.lst xs) → Q (.ref q) H2) : CallV X (.type "list") [.ref p] H Q :=
  ⟨_, call_list_of, p, xs, rfl, hp, fun q h3 => h q _ (same_new h3) h3 upd_same⟩
end
end Ax
end
section
set_option maxHeartbeats 2000000
namespace Ax
open PySem PySem.Spec PyProof.Rows L2
/-! ### all but soft things stands -/
def wispO : HO → Bool
  | .ext _ => true
  | .tbl _ => true
  | _ => false
def Sx (H H' : Hp) : Prop := ∀ a o, H a = some o → wispO o = false → H' a = some o
theorem Sx.refl (H : Hp) : Sx H H := fun _ _ h _ => h
theorem Sx.trans {H H1 H2 : Hp} (a : Sx H H1) (b : Sx H1 H2) : Sx H H2 := fun c o h n => b c o (a c o h n) n
theorem Sx.of {H H' : Hp} (e : Same H H') : Sx H H' := fun b o h _ => e b o h
theorem Sm.sx {p : Addr} {H H' : Hp} (e : Sm p H H') : Sx H H' := fun b o h n => e.keep b o h (by
  rintro rfl
  obtain ⟨m, hm⟩ := e.at0
  rw [hm] at h
  cases h
  cases n)
theorem Sx.ofN {H H' : Hp} (e : LamX.ExtN H H') : Sx H H' := fun b o h n => e b o h fun ps z => by
  rw [z] at n
  cases n
theorem Sx.sl {H H' : Hp} (e : Sx H H') : Sl H H' := fun b o h n => e b o h (by cases o <;> first | rfl | cases n)
theorem Sx.tup {K : PySem.W.Frag} {H H' : Hp} {a : Addr} {xs : List V} (e : Sx H H') (h : SqT K H a xs) : SqT K H' a xs := e.sl.tup h
theorem Sx.seq {K : PySem.W.Frag} {H H' : Hp} {a : Addr} {xs : List V} (e : Sx H H') (h : SqL K H a xs) : SqL K H' a xs := by
  rcases h with (h | ⟨o, h⟩) | h
  · exact .inl (.inl (e _ _ h rfl))
  · exact .inl (.inr ⟨o, e _ _ h rfl⟩)
  · exact .inr h
mutual
theorem dp_sx {K : PySem.W.Frag} {H H' : Hp} (s : Sx H H') : ∀ {d : PyData} {v : V}, Dp K H v d → Dp K H' v d
  | .none, _, h => by cases h; exact .non
  | .bool _, _, h => by cases h; exact .bl _
  | .int _, _, h => by cases h; exact .int _
  | .str _, _, h => by cases h; exact .str _
  | .list ds, _, h => by
    cases h with
    | lst hs ha => exact .lst (s.seq hs) (dpa_sx s ha)
  | .tuple ds, _, h => by
    cases h with
    | tup hs ha => exact .tup (s.tup hs) (dpa_sx s ha)
  | .dict _, _, h => by cases h
theorem dpa_sx {K : PySem.W.Frag} {H H' : Hp} (s : Sx H H') : ∀ {ds : List PyData} {vs : List V}, DpAll K H vs ds → DpAll K H' vs ds
  | [], _, h => by cases h; exact .nil
  | d :: ds, _, h => by
    cases h with
    | cons h1 h2 => exact .cons (dp_sx s h1) (dpa_sx s h2)
end
/-- data, or an empty dict -/
inductive AnyX (K : PySem.W.Frag) (H : Hp) : V → Option PyData → Prop
  | dat {v : V} {d : PyData} (h : Dp K H v d) (ok : okD d = true) : AnyX K H v (some d)
  | dct {a : Addr} {kvs : List (Key × V)} (h : H a = some (.dK kvs)) : AnyX K H (.ref a) none
theorem AnyX.sx {K : PySem.W.Frag} {H H' : Hp} {v : V} {o : Option PyData} (s : Sx H H') (a : AnyX K H v o) : AnyX K H' v o := by
  cases a with
  | dat h ok => exact .dat (dp_sx s h) ok
  | dct h => exact .dct (s _ _ h rfl)
theorem AnyX.any {K : PySem.W.Frag} {H : Hp} {v : V} {o : Option PyData} (a : AnyX K H v o) : AnyV K H v o := by
  cases a with
  | dat h ok => exact .dat h ok
  | dct h =>
    refine .oth (.base (.dK h)) fun T hT => kit_ty ?_
    have q : ∀ T ∈ ["str", "int", "bool", "tuple", "list"], kitB "dict" T = some false := by decide +kernel
    exact q T hT
section
variable {X : Cx} {e a b o elt iter tg : Expr} {es : List Expr} {scope : Scope} {σ : L2.St} {H : Hp} {Q : VK} {pos p2 : Pos}
/-! ### least and greatest of texts -/
theorem ltS (a b : Str) : (PySem.W.DatumOrd.lt a b = true) ↔ a.cps.toList < b.cps.toList := decide_eq_true_iff
theorem lt_ofle {a b c : List Nat} (h : a < b) (k : ¬ c < b) : a < c := by
  rcases Classical.em (a < c) with q | q
  · exact q
  · exact absurd h (List.le_trans (show b ≤ c from k) (show c ≤ a from q))
theorem least_str : ∀ (xs : List Str) (x : Str), PySem.W.minOf x xs ∈ x :: xs ∧ ∀ y ∈ x :: xs, ¬ y.cps.toList < (PySem.W.minOf x xs).cps.toList
  | [], x => ⟨List.mem_cons_self, fun y hy => by
    rw [List.mem_singleton.mp hy]
    exact List.lt_irrefl _⟩
  | z :: xs, x => by
    have e : PySem.W.minOf x (z :: xs) = PySem.W.minOf (if PySem.W.DatumOrd.lt z x = true then z else x) xs := rfl
    obtain ⟨h1, h2⟩ := least_str xs (if PySem.W.DatumOrd.lt z x = true then z else x)
    rw [e]
    have hm := h2 _ List.mem_cons_self
    by_cases c : PySem.W.DatumOrd.lt z x = true
    · rw [if_pos c] at h1 h2 hm ⊢
      have c := (ltS z x).mp c
      refine ⟨List.mem_cons_of_mem _ h1, fun y hy => ?_⟩
      rcases List.mem_cons.mp hy with q | q
      · rw [q]
        exact fun hx => hm (List.lt_trans c hx)
      · exact h2 y q
    · rw [if_neg c] at h1 h2 hm ⊢
      have c : ¬ z.cps.toList < x.cps.toList := fun q => c ((ltS z x).mpr q)
      refine ⟨?_, fun y hy => ?_⟩
      · rcases List.mem_cons.mp h1 with q | q
        · rw [q]; exact List.mem_cons_self
        · exact List.mem_cons_of_mem _ (List.mem_cons_of_mem _ q)
      · rcases List.mem_cons.mp hy with q | q
        · rw [q]; exact hm
        · rcases List.mem_cons.mp q with q | q
          · rw [q]
            exact fun hx => c (lt_ofle hx hm)
          · exact h2 y (List.mem_cons_of_mem _ q)
theorem most_str : ∀ (xs : List Str) (x : Str), PySem.W.maxOf x xs ∈ x :: xs ∧ ∀ y ∈ x :: xs, ¬ (PySem.W.maxOf x xs).cps.toList < y.cps.toList
  | [], x => ⟨List.mem_cons_self, fun y hy => by
    rw [List.mem_singleton.mp hy]
    exact List.lt_irrefl _⟩
  | z :: xs, x => by
    have e : PySem.W.maxOf x (z :: xs) = PySem.W.maxOf (if PySem.W.DatumOrd.lt x z = true then z else x) xs := rfl
    obtain ⟨h1, h2⟩ := most_str xs (if PySem.W.DatumOrd.lt x z = true then z else x)
    rw [e]
    have hm := h2 _ List.mem_cons_self
    by_cases c : PySem.W.DatumOrd.lt x z = true
    · rw [if_pos c] at h1 h2 hm ⊢
      have c := (ltS x z).mp c
      refine ⟨List.mem_cons_of_mem _ h1, fun y hy => ?_⟩
      rcases List.mem_cons.mp hy with q | q
      · rw [q]
        exact fun hx => hm (List.lt_trans hx c)
      · exact h2 y q
    · rw [if_neg c] at h1 h2 hm ⊢
      have c : ¬ x.cps.toList < z.cps.toList := fun q => c ((ltS x z).mpr q)
      refine ⟨?_, fun y hy => ?_⟩
      · rcases List.mem_cons.mp h1 with q | q
        · rw [q]; exact List.mem_cons_self
        · exact List.mem_cons_of_mem _ (List.mem_cons_of_mem _ q)
      · rcases List.mem_cons.mp hy with q | q
        · rw [q]; exact hm
        · rcases List.mem_cons.mp q with q | q
          · rw [q]
            exact fun hx => hm (lt_ofle hx c)
          · exact h2 y (List.mem_cons_of_mem _ q)
theorem dps {K : PySem.W.Frag} : ∀ (zs : List Str), DpAll K H (zs.map V.str) (zs.map PyData.str)
  | [] => .nil
  | z :: zs => .cons (.str z) (dps zs)
theorem vals_str {zs : List Str} {us : List Value} {i : Nat} {v : Value} (r : Vals (zs.map V.str) us) (h : us[i]? = some v) : ∃ z, z ∈ zs ∧ RelV (.str z) v := by
  induction zs generalizing us i with
  | nil => cases r; simp at h
  | cons z zs ih =>
    cases r with
    | cons r1 r2 =>
      cases i with
      | zero =>
        simp at h
        subst h
        exact ⟨z, List.mem_cons_self, r1⟩
      | succ i =>
        obtain ⟨z', h1, h2⟩ := ih r2 (by simpa using h)
        exact ⟨z', List.mem_cons_of_mem _ h1, h2⟩
theorem Vals.refl1 {p : Addr} {us : List Value} (r : Vals [.ref p] us) : us = [.ref p] := L2.Vals.ref1 r
theorem kv_minS {p : Addr} {zs : List Str} (hc : X.calm = true) (hu : X.A.units + 64 < cLine) (hp : SqL X.K H p (zs.map V.str)) (hn : zs ≠ []) (h : ∀ m, m ∈ zs → (∀ y ∈ zs, ¬ y.cps.toList < m.cps.toList) → Q (.str m) H) : CallV X (.builtin "min") [.ref p] H Q := by
  refine ⟨fun vs H' Q' => vs = [.ref p] ∧ H' = H ∧ Q' = Q, ?_, rfl, rfl, rfl⟩
  rintro pins s σ H0 vs us Q0 I r ⟨rfl, rfl, rfl⟩
  rw [L2.Vals.ref1 r]
  obtain ⟨its, rv, pl, _⟩ := I.list hp
  cases zs with
  | nil => exact absurd rfl hn
  | cons x xs =>
    refine PySem.W.min_list_datum (x := x) (xs := xs) (I.ok.hd hc) pl.isList ?_ ?_ fun i v h' tk hv hz hk => ?_
    · obtain ⟨as, q⟩ := Dp.readsAll I _ _ _ (dps (K := X.K) (H := H0) (x :: xs)) rv
      rw [List.toList_toArray]
      exact ⟨as, q⟩
    · show X.A.units + 1 + _ < cLine
      have e : (PySem.W.Datum.depth Str) = 0 ∨ (PySem.W.Datum.depth Str) = 1 := by first | exact .inl rfl | exact .inr rfl
      omega
    · obtain ⟨h1, h2⟩ := least_str xs x
      obtain ⟨as, q⟩ := hz
      obtain ⟨t, rfl, _⟩ := PyProof.Rows.reads_str_inv q
      exact ⟨.str _, H0, I.kept (t' := tk) hk, ⟨t, rfl⟩, h _ h1 h2⟩
theorem kv_maxS {p : Addr} {zs : List Str} (hc : X.calm = true) (hu : X.A.units + 64 < cLine) (hp : SqL X.K H p (zs.map V.str)) (hn : zs ≠ []) (h : ∀ m, m ∈ zs → (∀ y ∈ zs, ¬ m.cps.toList < y.cps.toList) → Q (.str m) H) : CallV X (.builtin "max") [.ref p] H Q := by
  refine ⟨fun vs H' Q' => vs = [.ref p] ∧ H' = H ∧ Q' = Q, ?_, rfl, rfl, rfl⟩
  rintro pins s σ H0 vs us Q0 I r ⟨rfl, rfl, rfl⟩
  rw [L2.Vals.ref1 r]
  obtain ⟨its, rv, pl, _⟩ := I.list hp
  cases zs with
  | nil => exact absurd rfl hn
  | cons x xs =>
    refine PySem.W.max_list_datum (x := x) (xs := xs) (I.ok.hd hc) pl.isList ?_ ?_ fun i v h' tk hv hz hk => ?_
    · obtain ⟨as, q⟩ := Dp.readsAll I _ _ _ (dps (K := X.K) (H := H0) (x :: xs)) rv
      rw [List.toList_toArray]
      exact ⟨as, q⟩
    · show X.A.units + 1 + _ < cLine
      have e : (PySem.W.Datum.depth Str) = 0 ∨ (PySem.W.Datum.depth Str) = 1 := by first | exact .inl rfl | exact .inr rfl
      omega
    · obtain ⟨h1, h2⟩ := most_str xs x
      obtain ⟨as, q⟩ := hz
      obtain ⟨t, rfl, _⟩ := PyProof.Rows.reads_str_inv q
      exact ⟨.str _, H0, I.kept (t' := tk) hk, ⟨t, rfl⟩, h _ h1 h2⟩
/-! ### tuples and lists: +, *, slices -/
theorem bv_catT {p q : Addr} {xs ys : List V} (h1 : SqT X.K H p xs) (h2 : SqT X.K H q ys) (hl : xs.length + ys.length ≤ sizeLine) (h : ∀ r H2, Same H H2 → SqT X.K H2 r (xs ++ ys) → Q (.ref r) H2) : BinV X .Add (.ref p) (.ref q) H Q :=
  ⟨_, op_catA, p, q, xs, ys, rfl, rfl, h1, h2, hl, fun e => h q H (Same.refl _) (by rw [e]; exact h2), fun _ e => h p H (Same.refl _) (by rw [e, List.append_nil]; exact h1), fun _ _ r hr => h r _ (same_new hr) (SqT.of upd_same)⟩
theorem bv_repT {p : Addr} {k : Int} {xs : List V} (h1 : SqT X.K H p xs) (hn : xs ≠ []) (k2 : 2 ≤ k) (k3 : k ≤ 1000) (hl : xs.length ≤ 1000) (h : ∀ r H2, Same H H2 → H r = none → H2 r = some (.tup (List.replicate k.toNat xs).flatten) → Q (.ref r) H2) : BinV X .Mult (.ref p) (.int k) H Q :=
  ⟨_, op_repT, p, k, xs, rfl, rfl, h1, hn, k2, k3, hl, fun r hr => h r _ (same_new hr) hr upd_same⟩
theorem bv_rep {p : Addr} {k : Int} {xs : List V} (h1 : H p = some (.lst xs)) (k2 : -(2 ^ 63) ≤ k) (k3 : k < 2 ^ 63) (hl : xs.length * k.toNat ≤ sizeLine) (h : ∀ r H2, Same H H2 → H r = none → H2 r = some (.lst (List.replicate k.toNat xs).flatten) → Q (.ref r) H2) : BinV X .Mult (.ref p) (.int k) H Q :=
  ⟨_, op_rep, p, k, xs, rfl, rfl, h1, k2, k3, hl, fun r hr => h r _ (same_new hr) hr upd_same⟩
theorem sIx_lt {n d k : Nat} (h : k ≤ n) : HT.sIx n d (some (k : Int)) = k := by
  rw [HT.sIx_nat]
  omega
/-- t[:k] -/
theorem w_sliceTo (h : W X a σ H fun x H1 => W X b σ H1 fun y H2 => ∃ (p : Addr) (k : Nat) (xs : List V), x = .ref p ∧ y = .int k ∧ SqT X.K H2 p xs ∧ k ≤ xs.length ∧ ∀ r H3, Same H2 H3 → SqT X.K H3 r (xs.take k) → Q (.ref r) H3) : W X (.Subscript a (.Slice none (some b) none p2) pos) σ H Q := by
  refine W.of (pe_slice sl_tupA W.pe po_none (po_some W.pe)) ?_
  show W X a σ H _
  refine W.mono h fun x H1 q => ?_
  show W X b σ H1 _
  refine W.mono q fun y H2 ⟨p, k, xs, e1, e2, hp, hk, q⟩ => ⟨(k : Int), e2, p, xs, e1, hp, fun ⟨_, z⟩ => ?_, fun _ r hr => ?_⟩
  · rw [sIx_lt hk] at z
    exact q p H2 (Same.refl _) (by rw [z, List.take_length]; exact hp)
  · refine q r _ (same_new hr) (SqT.of ?_)
    rw [upd_same]
    show some (HO.tup ((xs.drop 0).take (HT.sIx xs.length xs.length (some (k : Int)) - 0))) = _
    rw [sIx_lt hk, List.drop_zero, Nat.sub_zero]
/-- t[k:] -/
theorem w_sliceFrom (h : W X a σ H fun x H1 => W X b σ H1 fun y H2 => ∃ (p : Addr) (k : Nat) (xs : List V), x = .ref p ∧ y = .int k ∧ SqT X.K H2 p xs ∧ k ≤ xs.length ∧ ∀ r H3, Same H2 H3 → SqT X.K H3 r (xs.drop k) → Q (.ref r) H3) : W X (.Subscript a (.Slice (some b) none none p2) pos) σ H Q := by
  refine W.of (pe_slice sl_tupA W.pe (po_some W.pe) po_none) ?_
  show W X a σ H _
  refine W.mono h fun x H1 q => ?_
  show W X b σ H1 _
  refine W.mono q fun y H2 ⟨p, k, xs, e1, e2, hp, hk, q⟩ => ⟨(k : Int), e2, p, xs, e1, hp, fun ⟨z, _⟩ => ?_, fun _ r hr => ?_⟩
  · rw [sIx_lt hk] at z
    exact q p H2 (Same.refl _) (by rw [z, List.drop_zero]; exact hp)
  · refine q r _ (same_new hr) (SqT.of ?_)
    rw [upd_same]
    show some (HO.tup ((xs.drop (HT.sIx xs.length 0 (some (k : Int)))).take (xs.length - HT.sIx xs.length 0 (some (k : Int))))) = _
    rw [sIx_lt hk, List.take_of_length_le (by rw [List.length_drop]; exact Nat.le_refl _)]
/-! ### [elt for x in iter], the dice at p rolled on the way -/
structure SeqItM (p : Addr) (J : It) (H : Hp) (xs : List V) : Prop where
  ex : ∃ G : Hp → Prop, Walk J xs.length G (YAt xs) ∧ G H ∧ ∀ H', Sm p H H' → G H'
theorem seqItM_range {lo : Int} {n : Nat} {p : Addr} : SeqItM p (Itr lo n) H (intsV lo n) := by
  obtain ⟨G, w, _, _⟩ := (seqIt_range (H := H) (lo := lo) (n := n)).ex
  refine ⟨fun _ => True, ?_, trivial, fun _ _ => trivial⟩
  have w := (walk_range (lo := lo) (n := n)).mono (G' := fun _ => True) (Y' := YAt (intsV lo n)) (fun _ h => h) fun i H x H' hi _ y => by
    obtain ⟨e, rfl⟩ := y
    refine ⟨e, ?_⟩
    unfold intsV
    rw [List.getElem?_map]
    simp [hi]
  have e : (intsV lo n).length = n := by simp [intsV]
  rw [e]
  exact w
theorem seqItM_tup {a p : Addr} {K : PySem.W.Frag} {xs : List V} (h : SqT K H a xs) : SeqItM p (Itt K a) H xs := ⟨_, walk_tup, h, fun _ s => s.tup h⟩
theorem seqItM_list {a p : Addr} {K : PySem.W.Frag} {xs : List V} (h : SqL K H a xs) : SeqItM p (Itl K a) H xs := ⟨_, walk_list, h, fun _ s => s.seq h⟩
abbrev LcM (X : Cx) (p : Addr) (tg iter elt : Expr) (scope : Scope) (own : List (Str × Nat)) (g : TG) (σ : L2.St) (H : Hp) (Q : VK) : Prop := WI X tg iter σ H fun J H1 => ∃ xs, SeqItM p J H1 xs ∧ xs.length < sizeLine ∧ ∃ (m0 : Nat) (M : Nat → Nat) (R : Nat → V → Hp → Prop), H1 p = some (DiceO p m0) ∧ (∀ x y Ha Hb, R x y Ha → Sl Ha Hb → R x y Hb) ∧
      (∀ j v, xs[j]? = some v → ∀ H2 m, Sm p H1 H2 → H2 p = some (DiceO p m) → m ≤ m0 + M j → ∀ (Kt : VK), (∀ y H3 m', Sm p H2 H3 → H3 p = some (DiceO p m') → m' ≤ m0 + M (j + 1) → R j y H3 → Kt y H3) →
        g v (wipe σ (own.map (·.2))) H2 fun σ2 H3 => wipe σ2 (own.map (·.2)) = wipe σ (own.map (·.2)) ∧ Blk X scope fun Y => W Y elt σ2 H3 Kt) ∧
      ∀ q ys H2 m, Sm p H1 H2 → H2 p = some (DiceO p m) → m ≤ m0 + M xs.length → H1 q = none → H2 q = some (.lst ys) → RelI (fun _ => False) (fun x y => R x y H2) xs.length ys → Q (.ref q) H2
theorem lcM_t {p : Addr} {own : List (Str × Nat)} {g : TG} (h : LcM X p tg iter elt scope own g σ H Q) : tLc (WI X tg iter) g tYes (fun σ2 H2 K => Blk X scope fun Y => W Y elt σ2 H2 K) (own.map (·.2)) σ H Q := by
  refine ⟨fun pins s I => thn (h.run pins s I) fun v s1 z => thn z fun it s2 q => ?_⟩
  obtain ⟨it', fp, tn, J, H1, e, I2, T, t0, f0, xs, ⟨G, wk, g0, gs⟩, hlen, m0, M, R, hp0, hst, hel, hend⟩ := q
  refine ⟨it', fp, tn, J, H1, e, I2, T, t0, f0, fun Dd nD => ?_⟩
  have pD : Dd ≠ p := fun z => by
    rw [z, hp0] at nD
    cases nD
  refine lc_it (H1 := H1) (D := Dd) (g := g) (tt := tYes) (te := fun σ2 H2 K => Blk X scope fun Y => W Y elt σ2 H2 K) (vs := own.map (·.2)) (σ := σ) (Qd := fun H2 => Q (.ref Dd) H2) wk
    (fun j H2 => ∃ ys m, Sm p H1 H2 ∧ H2 p = some (DiceO p m) ∧ m ≤ m0 + M j ∧ H2 Dd = some (.lst ys) ∧ RelI (fun _ => False) (fun x y => R x y H2) j ys)
    ⟨[], m0, (Sm.refl hp0).new nD, by rw [upd_ne pD.symm]; exact hp0, by omega, upd_same, .nil⟩ (fun j H2 _ ⟨ys, m, sm, _⟩ => gs _ sm) ?_ ?_
  · rintro j v H2 H2' hj ⟨ys, m, s12, hp, hm, hD, rel⟩ ⟨eH, hv⟩
    subst eH
    refine hel j v hv _ m s12 hp hm _ fun y H3 m' s23 hp3 hm3 r => ?_
    have hD3 := s23.lst hD
    have hl : ys.length < sizeLine := by
      have e1 := rel.len
      omega
    refine ⟨ys, hD3, hl, ys ++ [y], m', (s12.trans s23).new nD, by rw [upd_ne pD.symm]; exact hp3, hm3, upd_same, ?_⟩
    have sl : Sl H3 (upd H3 Dd (.lst (ys ++ [y]))) := (Sl.refl H3).lst hD3
    exact .keep (R := fun x y => R x y _) (hst _ _ _ _ r sl) (rel.imp fun a b q => hst _ _ _ _ q (s23.sl.trans sl))
  · rintro H2 ⟨ys, m, s12, hp, hm, hD, rel⟩
    exact hend Dd ys H2 m s12 hp hm nD hD rel
theorem w_lcM (p : Addr) (own : List (Str × Nat)) (g : TG) (hg : Blk X scope fun Y => PG Y tg g) (hc : X.calm = true) (hN : X.N.Nodup) (ok : BlkOk X.N X.env.scope scope own)
    (h : LcM X p tg iter elt scope own g σ H Q)
    (hs : ∀ x, foldedSetIterable iter X.env x = pure x := by intro _; rfl) : W X (.ListComp elt [⟨tg, iter, [], 0⟩] scope pos) σ H Q := by
  exact W.of (pe_lc (own := own) (g := g) (tt := tYes) (te := fun σ2 H2 K => Blk X scope fun Y => W Y elt σ2 H2 K) hc hN WI.pi ok hg (fun _ _ _ _ _ => pts_nil)
    (fun s H C cl fp => ⟨fun pins s' σ' H' Q' I' h' => (h' s H C cl fp).run pins s' I'⟩) hs) (lcM_t h)
theorem ws_setLcM {D : Ends} {y : Str} {py spos : Pos} (i : Nat) (p : Addr) (own : List (Str × Nat)) (g : TG) (hg : Blk X scope fun Y => PG Y tg g) (hc : X.calm = true) (hN : X.N.Nodup) (ok : BlkOk X.N X.env.scope scope own) (hy : X.N[i]? = some y)
    (h : LcM X p tg iter elt scope own g σ H fun v H1 => D.nx (σ.set i (some v)) H1) (hyl : X.env.scope.names.lookup y = some .local := by rfl) (hsw : swapsWith (.ListComp elt [⟨tg, iter, [], 0⟩] scope pos) (some (.Name y py)) spos.line X.env = pure true := by exact sw_true rfl rfl rfl rfl)
    (hs : ∀ x, foldedSetIterable iter X.env x = pure x := by intro _; rfl) : WS X (.Assign [.Name y py] (.ListComp elt [⟨tg, iter, [], 0⟩] scope pos) spos) D σ H :=
  WS.of (ps_setLc (own := own) (g := g) (tt := tYes) (te := fun σ2 H2 K => Blk X scope fun Y => W Y elt σ2 H2 K) hc hN hy hyl hsw WI.pi ok hg (fun _ _ _ _ _ => pts_nil)
    (fun s H C cl fp => ⟨fun pins s' σ' H' Q' I' h' => (h' s H C cl fp).run pins s' I'⟩) hs) (lcM_t h)
end
end Ax
end
section
set_option maxHeartbeats 2000000
namespace Ax
open PySem PySem.Spec PyProof.Rows L2
theorem tyX_tup {K : PySem.W.Frag} {H : Hp} {a : Addr} {xs : List V} (hs : SqT K H a xs) : TyX K H (.ref a) (.type "tuple") := by
  rcases hs with (h | ⟨o, h⟩) | ⟨o, its, n, hk, hc, _⟩
  · exact .base (.tup h)
  · exact .fTuple h
  · exact .kTuple hk hc
theorem tyX_lst {K : PySem.W.Frag} {H : Hp} {a : Addr} {xs : List V} (hs : SqL K H a xs) : TyX K H (.ref a) (.type "list") := by
  rcases hs with (h | ⟨o, h⟩) | ⟨o, its, n, hk, hc, _⟩
  · exact .base (.lst h)
  · exact .base (.frz h)
  · exact .kList hk hc
section
variable {X : Cx} {e a b o : Expr} {es : List Expr} {σ : L2.St} {H H0 : Hp} {Q : VK} {pos : Pos}
theorem kv_isiB {v : V} {t T : String} {k : Bool} (ty : TyX X.K H v (.type t)) (hk : kitB t T = some k) (h : Q (.bl k) H) : CallV X (.builtin "isinstance") [v, .ty T] H Q := kv_isi (.ty T) ty (kit_ty hk) h
/-- xs == () -/
theorem cv_eqTup0 {p q : Addr} {xs : List V} (hu : X.A.units < cLine) (hp : SqT X.K H p xs) (hq : SqT X.K H q []) (h : Q (.bl xs.isEmpty) H) : CmpV X .Eq (.ref p) (.ref q) H Q := by
  refine ⟨fun x y H Q => x = .ref p ∧ y = .ref q ∧ SqT X.K H p xs ∧ SqT X.K H q [] ∧ Q (.bl xs.isEmpty) H, ?_, rfl, rfl, hp, hq, h⟩
  rintro pins s σ H x y v u Q I rx ry ⟨rfl, rfl, h1, h2, q⟩
  cases rx
  cases ry
  obtain ⟨its, r, pl, _⟩ := I.tuple h1
  obtain ⟨its2, r2, pl2, _⟩ := I.tuple h2
  cases r2
  refine SeqAt.eq_tupleAt (e := fun _ => true) pl pl2 hu (fun j _ h1 => absurd h1 (by simp)) ?_
  have e : ((List.range (min its.toArray.size ([] : List Value).toArray.size)).all (fun _ => true) && its.toArray.size == ([] : List Value).toArray.size) = xs.isEmpty := by
    cases xs with
    | nil => cases r; rfl
    | cons y ys => cases r; simp
  rw [e]
  exact ⟨.bl _, H, I, rfl, q⟩
/-- {} -/
theorem w_dict0 (h : ∀ p H2, Same H H2 → H p = none → H2 p = some (.dK []) → Q (.ref p) H2) : W X (.Dict [] [] pos) σ H Q := W.of pe_dnewK fun p hp => h p _ (same_new hp) hp upd_same
/-! ### written data -/
structure Lit (X : Cx) (e : Expr) (σ : L2.St) (H0 : Hp) (d : PyData) : Prop where
  run : ∀ H Q, Same H0 H → (∀ v H', Same H H' → Dp X.K H' v d → Q v H') → W X e σ H Q
structure LitA (X : Cx) (es : List Expr) (σ : L2.St) (H0 : Hp) (ds : List PyData) : Prop where
  len : ds.length = es.length
  run : ∀ H Q, Same H0 H → (∀ vs H', Same H H' → DpAll X.K H' vs ds → Q vs H') → WA X es σ H Q
variable {d : PyData} {ds : List PyData}
theorem lit_str {x : Str} {j : Nat} : Lit X (.Constant (.str x) j pos) σ H0 (.str x) := ⟨fun H Q _ h => w_str (h _ H (Same.refl _) (.str _))⟩
theorem lit_int {x : Int} {j : Nat} : Lit X (.Constant (.int x) j pos) σ H0 (.int x) := ⟨fun H Q _ h => w_int (h _ H (Same.refl _) (.int _))⟩
theorem lit_bl {x : Bool} {j : Nat} : Lit X (.Constant (.bool x) j pos) σ H0 (.bool x) := ⟨fun H Q _ h => w_bl (h _ H (Same.refl _) (.bl _))⟩
theorem lit_non {j : Nat} : Lit X (.Constant .none j pos) σ H0 .none := ⟨fun H Q _ h => w_non (h _ H (Same.refl _) .non)⟩
theorem lit_of (h : ∀ H Q, Same H0 H → (∀ v, Dp X.K H v d → Q v H) → W X e σ H Q) : Lit X e σ H0 d := ⟨fun H Q s k => h H Q s fun v hd => k v H (Same.refl _) hd⟩
theorem lita_nil : LitA X [] σ H0 [] := ⟨rfl, fun H Q _ h => wa_nil (h _ H (Same.refl _) .nil)⟩
theorem lita_cons (h1 : Lit X e σ H0 d) (h2 : LitA X es σ H0 ds) (hs : starEach (e :: es) X.env = (false, eval e X.env) :: starEach es X.env := by rfl) : LitA X (e :: es) σ H0 (d :: ds) :=
  ⟨by rw [List.length_cons, List.length_cons, h2.len], fun H Q s h => wa_cons (h1.run H _ s fun v H1 s1 hd => h2.run H1 _ (s.trans s1) fun vs H2 s2 hds => h _ H2 (s1.trans s2) (.cons (dp_same s2 hd) hds)) hs⟩
theorem lit_tup {j : Nat} (h : LitA X es σ H0 ds) (hl : es.length ≤ 100 := by decide) : Lit X (.Tuple es j pos) σ H0 (.tuple ds) :=
  ⟨fun H Q s k => w_tup (h.run H _ s fun vs H1 s1 hd => ⟨by rw [dpa_len hd, h.len]; exact Nat.le_trans hl (by decide), fun p H2 s2 n2 hp => k _ H2 (s1.trans s2) (.tup (SqT.of hp) (dpa_same s2 hd))⟩)⟩
theorem lit_lst (h : LitA X es σ H0 ds) (hl : es.length ≤ 100 := by decide) : Lit X (.List es pos) σ H0 (.list ds) :=
  ⟨fun H Q s k => w_lst (h.run H _ s fun vs H1 s1 hd => ⟨by rw [dpa_len hd, h.len]; exact Nat.le_trans hl (by decide), fun p H2 s2 n2 hp => k _ H2 (s1.trans s2) (.lst (SqL.of hp) (dpa_same s2 hd))⟩)⟩
/-- (..) * k -/
theorem lit_mul {k : Int} {j j2 : Nat} {p2 p3 : Pos} (h : LitA X es σ H0 ds) (k2 : 2 ≤ k) (k3 : k ≤ 1000) (hn : 0 < es.length) (hl : es.length ≤ 100) :
    Lit X (.BinOp (.Tuple es j2 p3) .Mult (.Constant (.int k) j p2) pos) σ H0 (.tuple (List.replicate k.toNat ds).flatten) :=
  ⟨fun H Q s q => w_bin ((lit_tup h hl).run H _ s fun v H1 s1 hd => w_int (by
    cases hd with
    | @tup p xs _ hp ha =>
    have hl2 := dpa_len ha
    have hl3 := h.len
    refine bv_repT hp (by rintro rfl; simp at hl2; omega) (by omega) (by omega) (by omega) fun r H2 s2 n2 hr => q _ H2 (s1.trans s2) (.tup (SqT.of hr) ?_)
    have ha2 := dpa_same s2 ha
    generalize k.toNat = m
    clear hr hl2 q
    induction m with
    | zero => exact .nil
    | succ k ih =>
      rw [List.replicate_succ, List.replicate_succ, List.flatten_cons, List.flatten_cons]
      exact dpa_app ha2 ih))⟩
theorem rep_flat {α : Type} (d : α) : ∀ n : Nat, (List.replicate n [d]).flatten = List.replicate n d
  | 0 => rfl
  | n + 1 => by rw [List.replicate_succ, List.flatten_cons, rep_flat d n, List.replicate_succ]; rfl
/-- (x,) * k, told item by item -/
theorem lit_mulE {k : Int} {j j2 : Nat} {p2 p3 : Pos} (h : LitA X es σ H0 [d]) (he : d :: ds = List.replicate k.toNat d := by rfl) (k2 : 2 ≤ k := by decide) (k3 : k ≤ 1000 := by decide) (hn : 0 < es.length := by decide) (hl : es.length ≤ 100 := by decide) :
    Lit X (.BinOp (.Tuple es j2 p3) .Mult (.Constant (.int k) j p2) pos) σ H0 (.tuple (d :: ds)) := by
  rw [he, ← rep_flat]
  exact lit_mul h k2 k3 hn hl
/-- data, or an empty dict; nothing said of sizes -/
inductive AnyR (K : PySem.W.Frag) (H : Hp) : V → Option PyData → Prop
  | dat {v : V} {d : PyData} (h : Dp K H v d) : AnyR K H v (some d)
  | dct {a : Addr} {kvs : List (Key × V)} (h : H a = some (.dK kvs)) : AnyR K H (.ref a) none
theorem AnyR.sx {K : PySem.W.Frag} {H H' : Hp} {v : V} {o : Option PyData} (s : Sx H H') (a : AnyR K H v o) : AnyR K H' v o := by
  cases a with
  | dat h => exact .dat (dp_sx s h)
  | dct h => exact .dct (s _ _ h rfl)
theorem AnyR.anyX {K : PySem.W.Frag} {H : Hp} {v : V} {o : Option PyData} (a : AnyR K H v o) (ok : o.all okD = true) : AnyX K H v o := by
  cases a with
  | dat h => exact .dat h ok
  | dct h => exact .dct h
structure LitX (X : Cx) (es : List Expr) (σ : L2.St) (H0 : Hp) (os : List (Option PyData)) : Prop where
  len : os.length = es.length
  run : ∀ H Q, Same H0 H → (∀ vs H', Same H H' → All2 (AnyR X.K H') vs os → Q vs H') → WA X es σ H Q
variable {os : List (Option PyData)}
theorem litx_nil : LitX X [] σ H0 [] := ⟨rfl, fun H Q _ h => wa_nil (h _ H (Same.refl _) .nil)⟩
theorem litx_cons (h1 : Lit X e σ H0 d) (h2 : LitX X es σ H0 os) (hs : starEach (e :: es) X.env = (false, eval e X.env) :: starEach es X.env := by rfl) : LitX X (e :: es) σ H0 (some d :: os) :=
  ⟨by rw [List.length_cons, List.length_cons, h2.len], fun H Q s h => wa_cons (h1.run H _ s fun v H1 s1 hd => h2.run H1 _ (s.trans s1) fun vs H2 s2 hds => h _ H2 (s1.trans s2) (.cons (.dat (dp_same s2 hd)) hds)) hs⟩
theorem litx_dict (h2 : LitX X es σ H0 os) (hs : starEach (.Dict [] [] pos :: es) X.env = (false, eval (.Dict [] [] pos) X.env) :: starEach es X.env := by rfl) : LitX X (.Dict [] [] pos :: es) σ H0 (none :: os) :=
  ⟨by rw [List.length_cons, List.length_cons, h2.len], fun H Q s h => wa_cons (w_dict0 fun p H1 s1 n1 hp => h2.run H1 _ (s.trans s1) fun vs H2 s2 hds => h _ H2 (s1.trans s2) (.cons (.dct (s2 _ _ hp)) hds)) hs⟩
/-- a list of such -/
theorem w_listX (os : List (Option PyData)) (h : LitX X es σ H0 os) (s : Same H0 H) (q : ∀ p vs H2, Same H H2 → H p = none → H2 p = some (.lst vs) → All2 (AnyR X.K H2) vs os → Q (.ref p) H2) (hl : es.length ≤ 100 := by decide) : W X (.List es pos) σ H Q :=
  w_lst (h.run H _ s fun vs H1 s1 hd => ⟨by rw [hd.len, h.len]; exact Nat.le_trans hl (by decide), fun p H2 s2 n2 hp => q p vs H2 (s1.trans s2) (same_nul s1 n2) hp (hd.imp fun _ _ a => a.sx (Sx.of s2))⟩)
end
end Ax
end
section
set_option maxHeartbeats 2000000
/-! [elt for x in iter if c], tests and elements values; lists of new lists; slices of lists; str(int); split -/
namespace Ax
open PySem PySem.Spec PyProof.Rows L2
section
variable {X : Cx} {σ : L2.St} {H : Hp} {Q : VK} {elt iter c a b e o : Expr} {scope : Scope} {pos px p2 apos : Pos} {x : Str}
theorem all2_eq {α : Type} : ∀ {xs ys : List α}, All2 Eq xs ys → xs = ys
  | _, _, .nil => rfl
  | _, _, .cons h t => by rw [h, all2_eq t]
theorem w_lcFilt (i : Nat) (t : V → Bool) (f : V → V) (hc : X.calm = true) (hN : X.N.Nodup) (ok : BlkOk X.N X.env.scope scope [(x, i)]) (hi : X.N[i]? = some x)
    (hloc : Blk X scope fun Y => Loc Y.env.scope x ∧ (Y.fn x = true ∨ Y.env.scope.names.lookup x = some .local))
    (h : WI X (.Name x px) iter σ H fun J H1 => ∃ xs, SeqIt J H1 xs ∧ xs.length < sizeLine ∧ (∀ v ∈ xs, ∀ H2, Same H1 H2 → Blk X scope fun Y => WT Y c ((wipe σ [i]).set i (some v)) H2 fun k H3 => k = t v ∧ Same H2 H3) ∧
      (∀ v ∈ xs, t v = true → ∀ H2, Same H1 H2 → Blk X scope fun Y => W Y elt ((wipe σ [i]).set i (some v)) H2 fun y H3 => y = f v ∧ Same H2 H3) ∧ ∀ q H2, Same H1 H2 → H1 q = none → H2 q = some (.lst ((xs.filter t).map f)) → Q (.ref q) H2)
    (hs : ∀ x, foldedSetIterable iter X.env x = pure x := by intro _; rfl) (hw : (((wipe σ [i]).set i (some V.non)).set i none) = wipe σ [i] := by rfl) :
    W X (.ListComp elt [⟨.Name x px, iter, [c], 0⟩] scope pos) σ H Q := by
  refine w_lcG [(x, i)] (gName i) (fun σ2 H2 K => Blk X scope fun Y => WT Y c σ2 H2 K) (fun s H C cl fp => pg_name hN hi (hloc s H C cl fp).1 (hloc s H C cl fp).2)
    (fun s H C cl fp => pts_one ⟨fun pins s' σ' H' Q' I' h' => (h' s H C cl fp).run pins s' I'⟩) hc hN ok ?_ hs
  refine ⟨fun pins s I => thn (h.run pins s I) fun v s1 z => thn z fun it s2 q => ?_⟩
  obtain ⟨it', fp, tn, J, H1, e, I2, T, t0, f0, xs, h1, h2, h3, h4, h5⟩ := q
  refine ⟨it', fp, tn, J, H1, e, I2, T, t0, f0, xs, h1, h2, fun j => ∃ v, xs[j]? = some v ∧ t v = false, fun j y _ => ∃ v, xs[j]? = some v ∧ t v = true ∧ y = f v, fun _ _ _ _ q _ => q, ?_, ?_⟩
  · intro j v hv H2 s12 Kf Kt kf kt
    have hm := List.mem_of_getElem? hv
    have hw' : wipe ((wipe σ [i]).set i (some v)) [i] = wipe σ [i] := by
      have e1 : wipe ((wipe σ [i]).set i (some v)) [i] = ((wipe σ [i]).set i (some v)).set i none := rfl
      rw [e1, List.set_set]
      have e2 : ((wipe σ [i]).set i (some V.non)).set i none = wipe σ [i] := hw
      rw [List.set_set] at e2
      exact e2
    refine ⟨hw', fun s H C cl fp => WT.mono (h3 v hm H2 s12 s H C cl fp) fun k H3 ⟨ek, s23⟩ => ?_⟩
    subst ek
    cases ht : t v with
    | false =>
      rw [if_neg (by decide)]
      exact kf ⟨v, hv, ht⟩ H3 s23
    | true =>
      rw [if_pos rfl]
      exact fun s' H' C' cl' fp' => W.mono (h4 v hm ht H3 (s12.trans s23) s' H' C' cl' fp') fun y H4 ⟨ey, s34⟩ => kt y H4 (s23.trans s34) ⟨v, hv, ht, ey⟩
  · intro q ys H2 s12 n1 hq rel
    obtain ⟨es, e1, e2⟩ := rel.data (T := Eq) (ds := xs) (fun v => if t v = true then some (f v) else none) (fun j d hd ⟨v, hv, ht⟩ => by
      rw [hd] at hv
      cases hv
      simp [ht]) (fun j d y hd ⟨v, hv, ht, ey⟩ => by
      rw [hd] at hv
      cases hv
      exact ⟨f d, by simp [ht], ey⟩) (Nat.le_refl _)
    have e3 := all2_eq e2
    subst e3
    rw [List.take_length] at e1
    refine h5 q H2 s12 n1 (hq.trans ?_)
    rw [← e1]
    congr 2
    clear e1 e2 hq rel h1 h2 h3 h4 h5
    induction xs with
    | nil => rfl
    | cons v xs ih =>
      cases ht : t v <;> simp [List.filterMap_cons, List.filter_cons, ht, ih]
/-- no item passes the test -/
theorem w_lcNo (i : Nat) (hc : X.calm = true) (hN : X.N.Nodup) (ok : BlkOk X.N X.env.scope scope [(x, i)]) (hi : X.N[i]? = some x)
    (hloc : Blk X scope fun Y => Loc Y.env.scope x ∧ (Y.fn x = true ∨ Y.env.scope.names.lookup x = some .local))
    (h : WI X (.Name x px) iter σ H fun J H1 => ∃ xs, SeqIt J H1 xs ∧ xs.length < sizeLine ∧ (∀ v ∈ xs, ∀ H2, Same H1 H2 → Blk X scope fun Y => WT Y c ((wipe σ [i]).set i (some v)) H2 fun k H3 => k = false ∧ Same H2 H3) ∧
      ∀ q H2, Same H1 H2 → H1 q = none → H2 q = some (.lst []) → Q (.ref q) H2)
    (hs : ∀ x, foldedSetIterable iter X.env x = pure x := by intro _; rfl) (hw : (((wipe σ [i]).set i (some V.non)).set i none) = wipe σ [i] := by rfl) :
    W X (.ListComp elt [⟨.Name x px, iter, [c], 0⟩] scope pos) σ H Q := by
  refine w_lcFilt i (fun _ => false) id hc hN ok hi hloc ?_ hs hw
  refine ⟨fun pins s I => thn (h.run pins s I) fun v s1 z => thn z fun it s2 q => ?_⟩
  obtain ⟨it', fp, tn, J, H1, e, I2, T, t0, f0, xs, h1, h2, h3, h5⟩ := q
  refine ⟨it', fp, tn, J, H1, e, I2, T, t0, f0, xs, h1, h2, h3, fun _ _ z => Bool.noConfusion z, fun q H2 s n hq => h5 q H2 s n ?_⟩
  rw [hq, List.filter_eq_nil_iff.mpr fun a _ z => Bool.noConfusion z] <;> rfl
/-- all but the list at d stands -/
def Bt (d : Addr) (H H' : Hp) : Prop := ∀ a o, a ≠ d → H a = some o → H' a = some o
theorem Bt.of {d : Addr} {H H' : Hp} (s : Same H H') : Bt d H H' := fun a o _ h => s a o h
theorem Bt.refl (d : Addr) (H : Hp) : Bt d H H := fun _ _ _ h => h
theorem Bt.trans {d : Addr} {H H1 H2 : Hp} (a : Bt d H H1) (b : Bt d H1 H2) : Bt d H H2 := fun c o n h => b c o n (a c o n h)
theorem Bt.upd {d : Addr} {H H' : Hp} {o : HO} (s : Bt d H H') : Bt d H (upd H' d o) := fun a u n h => (upd_ne n).trans (s a u n h)
/-- [elt for x in iter], each element by a relation that stands though the new list D grows -/
abbrev LcD (X : Cx) (x : Str) (px : Pos) (iter elt : Expr) (scope : Scope) (i : Nat) (σ : L2.St) (H : Hp) (Q : VK) : Prop := WI X (.Name x px) iter σ H fun J H1 => ∃ xs, SeqIt J H1 xs ∧ xs.length < sizeLine ∧ ∃ R : Addr → V → V → Hp → Prop, (∀ D x y Ha Hb, R D x y Ha → Bt D Ha Hb → R D x y Hb) ∧
      (∀ v ∈ xs, ∀ (D : Addr) H2, Same H1 H2 → (∃ ys, H2 D = some (.lst ys)) → Blk X scope fun Y => W Y elt ((wipe σ [i]).set i (some v)) H2 fun y H3 => Same H2 H3 ∧ R D v y H3) ∧
      ∀ p ys H2, Same H1 H2 → H1 p = none → H2 p = some (.lst ys) → Rel2 (fun x y => R p x y H2) xs ys → Q (.ref p) H2
theorem lcD_t {i : Nat} (hw : (((wipe σ [i]).set i (some V.non)).set i none) = wipe σ [i]) (h : LcD X x px iter elt scope i σ H Q) : tLc (WI X (.Name x px) iter) (gName i) tYes (fun σ2 H2 K => Blk X scope fun Y => W Y elt σ2 H2 K) [i] σ H Q := by
  refine ⟨fun pins s I => thn (h.run pins s I) fun v s1 z => thn z fun it s2 q => ?_⟩
  obtain ⟨it', fp, tn, J, H1, e, I2, T, t0, f0, xs, ⟨G, wk, g0, gs⟩, hlen, R, hst, hel, hend⟩ := q
  refine ⟨it', fp, tn, J, H1, e, I2, T, t0, f0, fun Dd nD => ?_⟩
  refine lc_it (H1 := H1) (D := Dd) (g := gName i) (tt := tYes) (te := fun σ2 H2 K => Blk X scope fun Y => W Y elt σ2 H2 K) (vs := [i]) (σ := σ) (Qd := fun H2 => Q (.ref Dd) H2) wk
    (fun j H2 => ∃ ys, Same H1 H2 ∧ H2 Dd = some (.lst ys) ∧ Rel2 (fun x y => R Dd x y H2) (xs.take j) ys) ⟨[], same_new nD, upd_same, .nil⟩ (fun j H2 _ ⟨ys, sm, hD, _⟩ => gs _ sm) ?_ ?_
  · rintro j v H2 H2' hj ⟨ys, s12, hD, rel⟩ ⟨eH, hv⟩
    subst eH
    have hm : v ∈ xs := List.mem_of_getElem? hv
    have hw' : wipe ((wipe σ [i]).set i (some v)) [i] = wipe σ [i] := by
      have e1 : wipe ((wipe σ [i]).set i (some v)) [i] = ((wipe σ [i]).set i (some v)).set i none := rfl
      rw [e1, List.set_set]
      have e2 : ((wipe σ [i]).set i (some V.non)).set i none = wipe σ [i] := hw
      rw [List.set_set] at e2
      exact e2
    refine ⟨hw', ?_⟩
    unfold tYes
    dsimp only
    rw [if_pos rfl]
    intro s H C cl fp
    refine W.mono (e := elt) (X := X.blk s H scope (compEnvC scope cl C X.env) fp) (hel v hm Dd H2' s12 ⟨ys, hD⟩ s H C cl fp) fun y H3 ⟨s23, r⟩ => ?_
    have hD3 := s23 _ _ hD
    have hl : ys.length < sizeLine := by
      have e1 := rel.len
      rw [List.length_take] at e1
      omega
    refine ⟨ys, hD3, hl, ys ++ [y], same_upd (s12.trans s23) nD, upd_same, ?_⟩
    have bt : Bt Dd H3 (upd H3 Dd (.lst (ys ++ [y]))) := (Bt.refl Dd H3).upd
    have e : xs.take (j + 1) = xs.take j ++ [v] := by
      rw [List.take_add_one, hv]
      rfl
    rw [e]
    exact (rel.imp fun a b q => hst _ _ _ _ _ q ((Bt.of s23).trans bt)).snoc (hst _ _ _ _ _ r bt)
  · rintro H2 ⟨ys, s12, hD, rel⟩
    rw [List.take_length] at rel
    exact hend Dd ys H2 s12 nD hD rel
theorem w_lcD (i : Nat) (hc : X.calm = true) (hN : X.N.Nodup) (ok : BlkOk X.N X.env.scope scope [(x, i)]) (hi : X.N[i]? = some x)
    (hloc : Blk X scope fun Y => Loc Y.env.scope x ∧ (Y.fn x = true ∨ Y.env.scope.names.lookup x = some .local)) (h : LcD X x px iter elt scope i σ H Q)
    (hs : ∀ x, foldedSetIterable iter X.env x = pure x := by intro _; rfl) (hw : (((wipe σ [i]).set i (some V.non)).set i none) = wipe σ [i] := by rfl) :
    W X (.ListComp elt [⟨.Name x px, iter, [], 0⟩] scope pos) σ H Q :=
  W.of (pe_lc (own := [(x, i)]) (g := gName i) (tt := tYes) (te := fun σ2 H2 K => Blk X scope fun Y => W Y elt σ2 H2 K) hc hN WI.pi ok (fun s H C cl fp => pg_name hN hi (hloc s H C cl fp).1 (hloc s H C cl fp).2) (fun _ _ _ _ _ => pts_nil)
    (fun s H C cl fp => ⟨fun pins s' σ' H' Q' I' h' => (h' s H C cl fp).run pins s' I'⟩) hs) (lcD_t hw h)
/-- y = [..] on one line -/
theorem ws_setLcD {D : Ends} {y : Str} {py spos : Pos} (j i : Nat) (hc : X.calm = true) (hN : X.N.Nodup) (ok : BlkOk X.N X.env.scope scope [(x, i)]) (hy : X.N[j]? = some y) (hi : X.N[i]? = some x)
    (hloc : Blk X scope fun Y => Loc Y.env.scope x ∧ (Y.fn x = true ∨ Y.env.scope.names.lookup x = some .local)) (h : LcD X x px iter elt scope i σ H fun v H1 => D.nx (σ.set j (some v)) H1)
    (hyl : X.env.scope.names.lookup y = some .local := by rfl) (hsw : swapsWith (.ListComp elt [⟨.Name x px, iter, [], 0⟩] scope pos) (some (.Name y py)) spos.line X.env = pure true := by exact sw_true rfl rfl rfl rfl)
    (hs : ∀ x, foldedSetIterable iter X.env x = pure x := by intro _; rfl) (hw : (((wipe σ [i]).set i (some V.non)).set i none) = wipe σ [i] := by rfl) :
    WS X (.Assign [.Name y py] (.ListComp elt [⟨.Name x px, iter, [], 0⟩] scope pos) spos) D σ H :=
  WS.of (ps_setLc (own := [(x, i)]) (g := gName i) (tt := tYes) (te := fun σ2 H2 K => Blk X scope fun Y => W Y elt σ2 H2 K) hc hN hy hyl hsw WI.pi ok (fun s H C cl fp => pg_name hN hi (hloc s H C cl fp).1 (hloc s H C cl fp).2) (fun _ _ _ _ _ => pts_nil)
    (fun s H C cl fp => ⟨fun pins s' σ' H' Q' I' h' => (h' s H C cl fp).run pins s' I'⟩) hs) (lcD_t hw h)
/-- l[:k] -/
theorem w_cutTo (h : W X a σ H fun x H1 => W X b σ H1 fun y H2 => ∃ (p : Addr) (k : Nat) (xs : List V), x = .ref p ∧ y = .int k ∧ SqL X.K H2 p xs ∧ ∀ r H3, Same H2 H3 → H2 r = none → H3 r = some (.lst (xs.take k)) → Q (.ref r) H3) : W X (.Subscript a (.Slice none (some b) none p2) pos) σ H Q := by
  refine W.of (pe_slice sl_list W.pe po_none (po_some W.pe)) ?_
  show W X a σ H _
  refine W.mono h fun x H1 q => ?_
  show W X b σ H1 _
  refine W.mono q fun y H2 ⟨p, k, xs, e1, e2, hp, q⟩ => ⟨(k : Int), e2, p, xs, e1, hp, fun r hr => q r _ (same_new hr) hr ?_⟩
  rw [upd_same]
  show some (HO.lst ((xs.drop 0).take (HT.sIx xs.length xs.length (some (k : Int)) - 0))) = _
  rw [HT.sIx_nat, List.drop_zero, Nat.sub_zero]
  congr 2
  by_cases hk : k ≤ xs.length
  · rw [Nat.min_eq_left hk]
  · rw [Nat.min_eq_right (by omega), List.take_length, List.take_of_length_le (by omega)]
theorem kv_strI {i : Int} (c : i.natAbs.log2 < 1920) (h : Q (.str (toString i)) H) : CallV X (.type "str") [.int i] H Q := ⟨_, call_str_int, i, rfl, c, h⟩
theorem mv_split {z s : Str} (h0 : (s.length == 0) = false) (hz : z.length + 2 ≤ sizeLine) (h : ∀ p H2, Same H H2 → H p = none → H2 p = some (.lst ((Txt.split z s).map V.str)) → Q (.ref p) H2) : MtV X "str.split" (.str z) [.str s] H Q :=
  ⟨_, mt_split, z, s, rfl, rfl, h0, hz, fun p hp => h p _ (same_new hp) hp upd_same⟩
theorem dpa_ints {K : PySem.W.Frag} {H : Hp} : ∀ ns : List Int, DpAll K H (ns.map V.int) (ns.map PyData.int)
  | [] => .nil
  | n :: ns => .cons (.int n) (dpa_ints ns)
theorem dpa_strs {K : PySem.W.Frag} {H : Hp} : ∀ zs : List Str, DpAll K H (zs.map V.str) (zs.map PyData.str)
  | [] => .nil
  | z :: zs => .cons (.str z) (dpa_strs zs)
end
end Ax
end
section
set_option maxHeartbeats 2000000
/-! own classes in the layer W: fields, making, classmethods, properties, isinstance, star parameters -/
namespace Ax
open PySem PySem.Spec PyProof.Rows L2 StX ClX
/-- a plain class whose instances isinstance may be asked of -/
structure KC (K : PySem.W.Frag) (C : Addr) : Prop where
  c : Cls K C
  ha : PySem.W.findIn K (.ref C) "__class__" = some (some (.builtin "object.__class__"))
  hn : PySem.W.specialIn K (.builtin "object.__class__") "__get__" = some (some (.builtin "getset_descriptor.__get__"))
  ht : PySem.W.takesIn K (.builtin "object.__class__") = some true
  hm : PySem.W.mroIn K C (.type "object") = some true
theorem KC.ty {K : PySem.W.Frag} {C a dx : Addr} {H : Hp} {fs : List (Str × V)} (k : KC K C) (e : H a = some (.ins C dx fs)) : TyX K H (.ref a) (.ref C) := .base (.ins e k.c k.ha k.hn k.ht k.hm)
/-- a def at f, called by positions -/
abbrev FnP (P : Program) (w : World) (K : PySem.W.Frag) (mg : Str → Option Value) (base : Heap) (k : Nat) (f : Addr) (sp : Sp) : Prop := FnR P w K mg base (L2.CX P w) k f sp
section
variable {X : Cx} {e a b o fe : Expr} {es : List Expr} {σ : L2.St} {H : Hp} {Q : VK} {D : Ends} {C g p : Addr} {f m x : Str} {pos np apos : Pos} {sp : Sp} {k : Nat} {E : XK} {mc : Value}
theorem w_fld (c : Cls X.K C) (n : NoAttr X.K C f) (h : W X e σ H fun x H1 => ∃ a dx fs v, x = .ref a ∧ H1 a = some (.ins C dx fs) ∧ fs.lookup f = some v ∧ Q v H1)
    (hb : attributeBase e f X.env (eval e X.env) = eval e X.env := by rfl) : W X (.Attribute e f pos) σ H Q :=
  W.of (pe_fld W.pe hb) (W.mono h fun x H1 ⟨a, dx, fs, v, ex, ea, l, q⟩ => ⟨a, C, dx, fs, v, ex, ea, c, n, l, q⟩)
theorem ws_fld {p' : Pos} (c : Cls X.K C) (n : NoAttr X.K C f) (h : W X e σ H fun y H1 => W X o σ H1 fun x H2 => ∃ a dx fs, x = .ref a ∧ H2 a = some (.ins C dx fs) ∧ fs.length < 1000 ∧ D.nx σ (upd H2 a (.ins C dx (putF f y fs))))
    (hs : swapsWith e (some (.Attribute o f p')) pos.line X.env = pure false := by rfl) : WS X (.Assign [.Attribute o f p'] e pos) D σ H :=
  WS.of (ps_fld (ta := W X o) (tv := W X e) W.pe W.pe hs) (W.mono h fun y H1 q => W.mono q fun x H2 ⟨a, dx, fs, ex, ea, l, q⟩ => ⟨a, C, dx, fs, ex, ea, c, n, l, q⟩)
/-- C(e, ..), C by a global's or a local's name -/
theorem w_make {n : Str} (M : Mk X.K C g) (F : FnP X.prog X.w X.K X.mg X.base k g sp) (hr : Room (k + 1) X.A) (hx : Passes (L2.CX X.prog X.w) X E)
    (h : W X (.Name n np) σ H fun c H0 => c = .ref C ∧ WA X (e :: es) σ H0 fun vs H1 => ∀ x dx, H1 x = none → H1 dx = none → dx ≠ x → sp (.ref x :: vs) (upd (upd H1 dx (.own x)) x (.ins C dx [])) (fun v H2 => v = .non ∧ Q (.ref x) H2) E)
    (he : starEach (e :: es) X.env = (false, eval e X.env) :: starEach es X.env := by rfl) (hpl : (backTo pos (starEach es X.env)).any (·.1) = false := by rfl) : W X (.Call (.Name n np) (e :: es) [] pos) σ H Q := by
  refine ⟨fun pins s I => wpAny_Call_Name_kw (thn (h.run pins s I) fun u s0 ⟨c, H0, I0, r0, ec, q0⟩ => ?_)⟩
  subst ec
  obtain rfl : u = Value.ref C := r0
  exact PySem.W.callWith_K (h₀ := X.base) I0.ok.mod.kin M.kp (thn (q0.run pos pins s0 I0) fun us s1 ⟨vs, H1, I1, r, q⟩ => ⟨I1.kIn, run_makeR M F hr hx I1 r q⟩) he hpl
/-- .. a star among the arguments behind the first -/
theorem w_makeS {n : Str} (M : Mk X.K C g) (F : FnP X.prog X.w X.K X.mg X.base k g sp) (hr : Room (k + 1) X.A) (hx : Passes (L2.CX X.prog X.w) X E)
    (h : W X (.Name n np) σ H fun c H0 => c = .ref C ∧ WA X (e :: es) σ H0 fun vs H1 => ∀ x dx, H1 x = none → H1 dx = none → dx ≠ x → sp (.ref x :: vs) (upd (upd H1 dx (.own x)) x (.ins C dx [])) (fun v H2 => v = .non ∧ Q (.ref x) H2) E)
    (he : starEach (e :: es) X.env = (false, eval e X.env) :: starEach es X.env := by rfl) (hst : (backTo pos (starEach es X.env)).any (·.1) = true := by rfl) : W X (.Call (.Name n np) (e :: es) [] pos) σ H Q := by
  refine ⟨fun pins s I => wpAny_Call_Name_kw (thn (h.run pins s I) fun u s0 ⟨c, H0, I0, r0, ec, q0⟩ => ?_)⟩
  subst ec
  obtain rfl : u = Value.ref C := r0
  exact PySem.W.callWith_S2 (h₀ := X.base) I0.ok.mod.kin M.kp (thn (q0.run pos pins s0 I0) fun us s1 ⟨vs, H1, I1, r, q⟩ => ⟨I1.kIn, run_makeR M F hr hx I1 r q⟩) he hst
/-- *e among the arguments -/
theorem wa_star {sp_ : Pos} {Q : List V → Hp → Prop} (h : W X e σ H fun x H1 => ∃ p xs, x = .ref p ∧ (SqT X.K H1 p xs ∨ SqL X.K H1 p xs) ∧ WA X es σ H1 fun ys H2 => Q (xs ++ ys) H2)
    (hs : starEach (.Starred e sp_ :: es) X.env = (true, eval e X.env) :: starEach es X.env := by rfl) : WA X (.Starred e sp_ :: es) σ H Q := WA.of (pa_star W.pe WA.pa hs) h
/-- C.m(e, ..), m a classmethod -/
theorem w_cmeth {pl : Sem Bool} (r : CRead X.K C mc) (c : CMet X.K C mc m p g) (F : FnP X.prog X.w X.K X.mg X.base k g sp) (hr : Room k X.A) (hx : Passes (L2.CX X.prog X.w) X E)
    (h : W X o σ H fun x H1 => x = .ref C ∧ WA X (e :: es) σ H1 fun vs H2 => sp (.ref C :: vs) H2 Q E)
    (hst : starEach (e :: es) X.env = (false, eval e X.env) :: starEach es X.env := by rfl) (hpl : (backTo pos (starEach es X.env)).any (·.1) = false := by rfl)
    (ht : eval (.Call (.Attribute o m apos) (e :: es) [] pos) X.env = (do
      let ov ← eval o X.env
      standAt apos.atName
      let (f, first) ← holding [ov] (getMethod ov m pl)
      callWith pos f first (backTo pos (starEach (e :: es) X.env)) (backToKw pos (keywordEach [] X.env))) := by rfl) : W X (.Call (.Attribute o m apos) (e :: es) [] pos) σ H Q :=
  W.of (ClX.pe_cmeth (ta := W X o) (t := WA X (e :: es)) W.pe r c F hr hx WA.pa hst hpl ht) (W.mono h fun x H1 ⟨ex, q⟩ => ⟨ex, q⟩)
/-- e.f, a property -/
theorem w_prop {fd : FuncData} {ps : List Str} (c : Cls X.K C) (hp : PropOf X.K C f p g) (F : FnOk X.prog X.w X.K X.mg X.base (L2.CX X.prog X.w) k g fd ps sp) (hr : Room (k + 1) X.A) (hb : Binds X.K fd ps []) (hx : Passes (L2.CX X.prog X.w) X.nox E)
    (h : W X e σ H fun x H1 => ∃ a dx fs, x = .ref a ∧ H1 a = some (.ins C dx fs) ∧ sp [.ref a] H1 Q E) (hab : attributeBase e f X.env (eval e X.env) = eval e X.env := by rfl) : W X (.Attribute e f pos) σ H Q :=
  W.of (pe_prop (ta := W X e) W.pe c hp F hr hb .nil hx hab) (W.mono h fun x H1 ⟨a, dx, fs, ex, ea, q⟩ => ⟨a, dx, fs, ex, ea, q⟩)
theorem kv_isC {x : V} {t : Value} {b : Bool} {v : V} {u : Value} (ty : TyX X.K H x t) (hu : ClsV v u) (e : PySem.W.kitOne X.K t u = some b) (q : Q (.bl b) H) : CallV X (.builtin "isinstance") [x, v] H Q := kv_isi hu ty e q
end
section
variable {P : Program} {w : World} {K : PySem.W.Frag} {mg : Str → Option Value} {base : Heap}
/-- a method, called by positions -/
theorem meth_okR {x q : Str} {st : Stmt} {N ps : List Str} {k : Nat} {sp : Sp} {f : Addr} (T : ∃ fd, FunD K x q (defArgs st) (defBody st) (defScope st) [] [] f fd) (S : FnScope N ps (defScope st))
    (hb : ∀ (kV doc pm : Value) (an : Option Addr) (cdv ct : Value) (us : List Value), us.length = ps.length → bindArgs (PySem.W.fnOf x q (defArgs st) (defBody st) (defScope st) .none kV doc pm an cdv ct) ⟨us, []⟩ = pure (ps.zip us))
    (len : ∀ vs H Q E, sp vs H Q E → vs.length = ps.length)
    (body : ∀ (cdv : Value) (A : Around) (outer : List Env) (s : Shared) (H : Hp) (vs : List V) (Q : VK) (E : XK), Room k (A.deeper (envOfC q (defScope st) s.heap.objs.size f cdv)) → sp vs H Q E →
      WB (cxOf (L2.CX P w) P w K mg base N q (defScope st) f cdv A outer s H E) (defBody st) { nx := fun _ H' => Q .non H', rt := Q } (start N vs) H) : FnP P w K mg base (k + 1) f sp := by
  obtain ⟨fd, F⟩ := T
  have B := F.bindsN hb
  have F1 := F.ok (CX := L2.CX P w) S len fun cdv A outer s H vs Q E hr h => ⟨_, WB.pss, body cdv A outer s H vs Q E hr h⟩
  intro A outer s H us vs Q E hr e0 r h
  have hl : us.length = ps.length := by rw [← r.length] <;> exact len _ _ _ _ h
  have b := B s us (e0.mod.kin.keeps fun b o e => (e0.bs b o e).1) (by rw [List.append_nil] <;> exact hl)
  rw [List.append_nil] at b
  exact F1.run A outer s H ⟨us, []⟩ us vs Q E hr e0 b r h
/-- a method with two parameters and a star one behind them -/
theorem meth_okS2 {x q p1 p2 pv : Str} {st : Stmt} {N : List Str} {k : Nat} {sp : Sp} {f : Addr} (T : ∃ fd, FunD K x q (defArgs st) (defBody st) (defScope st) [] [] f fd) (S : FnScope N ([p1, p2] ++ [pv]) (defScope st))
    (h0 : ∀ (dV kV doc pm : Value) (an : Option Addr) (cdv ct : Value) (a b : Value), bindArgs (PySem.W.fnOf x q (defArgs st) (defBody st) (defScope st) dV kV doc pm an cdv ct) ⟨[a, b], []⟩ = (newTuple [] >>= fun t => pure [(p1, a), (p2, b), (pv, t)]))
    (h1 : ∀ (dV kV doc pm : Value) (an : Option Addr) (cdv ct : Value) (a b r : Value) (rs : List Value), bindArgs (PySem.W.fnOf x q (defArgs st) (defBody st) (defScope st) dV kV doc pm an cdv ct) ⟨a :: b :: r :: rs, []⟩ = (newTuple (r :: rs) >>= fun t => pure [(p1, a), (p2, b), (pv, t)]))
    (body : ∀ (cdv : Value) (A : Around) (outer : List Env) (s : Shared) (H : Hp) (vs : List V) (Q : VK) (E : XK), Room k (A.deeper (envOfC q (defScope st) s.heap.objs.size f cdv)) → sp vs H Q E →
      WB (cxOf (L2.CX P w) P w K mg base N q (defScope st) f cdv A outer s H E) (defBody st) { nx := fun _ H' => Q .non H', rt := Q } (start N vs) H) :
    FnP P w K mg base (k + 1) f (fun vs H Q E => ∃ a b rest, vs = a :: b :: rest ∧ rest.length ≤ sizeLine ∧ ∀ p, H p = none → sp [a, b, .ref p] (upd H p (.tup rest)) Q E) := by
  obtain ⟨fd, F⟩ := T
  obtain ⟨oc, od, dV, kV, doc, pm, an, cdv, ct, osl, rfl, lk, hcd, _, _⟩ := F.ex
  have Z := fn_star (P := P) (w := w) (mg := mg) (base := base) (ps := [p1, p2]) (pv := pv) (k := k) (sp := sp) lk hcd S cxUp (bind_star2 (B := fun us => bindArgs (PySem.W.fnOf x q (defArgs st) (defBody st) (defScope st) dV kV doc pm an cdv ct) ⟨us, []⟩) (fun a b => h0 dV kV doc pm an cdv ct a b) fun a b r rs => h1 dV kV doc pm an cdv ct a b r rs)
    fun A outer s H vs Q E hr h => ⟨_, WB.pss, body cdv A outer s H vs Q E hr h⟩
  exact Z.imp fun vs H Q E ⟨a, b, rest, e, z, q⟩ => ⟨[a, b], rest, e, rfl, z, q⟩
end
end Ax
end
section
set_option maxHeartbeats 4000000
/-! dict comprehensions with keys of any kind that can be put; with one for and with two -/
namespace Ax
open PySem PySem.Spec PyProof.Rows L2
/-- what a store does to a dict: the new object at D -/
abbrev Put := Hp → Addr → V → V → HO → Prop
def PutOk (pt : Put) : Prop := ∀ (X : Cx) (pins : List (Addr × Obj)) (σ : L2.St) (H : Hp) (s : Shared) (E : Value → Shared → Prop) (D : Addr) (y z : V) (u r : Value) (o : HO) (Q : Unit → Shared → Prop),
  X.A.units + 64 < cLine → Inv X pins σ H s → pt H D y z o → RelV y u → RelV z r → (∀ s', Inv X pins σ (upd H D o) s' → Q () s') → wpAny (model X.prog X.w) X.A (dictSet D u r) Q E s
def putKP : Put := fun H D y z o => ∃ kvs k, y = kV k ∧ H D = some (.dK kvs) ∧ kvs.length < sizeLine ∧ o = .dK (putK kvs k z)
theorem putKP_ok : PutOk putKP := by
  rintro X pins σ H s E D y z u r o Q hu I ⟨kvs, k, rfl, hD, hz, rfl⟩ ry rz h
  exact d_dictSet I hD hz ry rz h
/-- keys tuples of ints and texts -/
def putTP : Put := fun H D y z o => ∃ kvs k b, y = .ref b ∧ H D = some (.dT kvs) ∧ H b = some (.tup (k.map kV)) ∧ kvs.length < sizeLine ∧ o = .dT (putK kvs k z)
theorem putTP_ok : PutOk putTP := by
  rintro X pins σ H s E D y z u r o Q hu I ⟨kvs, k, b, rfl, hD, hb, hz, rfl⟩ ry rz h
  cases (show u = Value.ref b from ry)
  obtain ⟨z1, hd, xs, rel, dd⟩ := dt_of I.hok hD
  have hx : xs.length ≤ sizeLine := by rw [← Paired.length rel] <;> exact z1
  have hl : (putK kvs k z).length ≤ sizeLine := by
    have := length_putK kvs k z
    omega
  refine wpAny_dictSet_heap (hsz := hx) (show X.A.units < cLine by omega) (key_of I.hok hb) dd fun h' dd' hs => h _ ?_
  obtain ⟨q, es, ep, hq, h2, h3, h4, _, h5⟩ := dd'
  refine d_write I (by rw [hD] <;> exact True.intro) hs ⟨q, hq⟩ ⟨hl, hd, _, (rel.put k hb rz).keeps fun c ys ec => ?_, q, es, ep, hq, h2, h3, h4, h5⟩
  exact (upd_ne (ne_of ec hD (fun z => nomatch z))).trans ec
/-! ### the loops -/
section
variable {prog : Program} {w : World} {A : Around} {R : Result → Shared → Prop} {s : Shared} {kx vx t1 t2 i1 i2 : Expr} {ifs1 ifs2 : List Expr} {scope : Scope} {pos : Pos} {it : Value} {D : Addr} {env : Env}
theorem dict2_in : compTurn (.DictComp kx vx [⟨t1, i1, ifs1, 0⟩, ⟨t2, i2, ifs2, 0⟩] scope pos) 1 it (.ref D) env = (do
      standAt i2.pos
      match ← pyNext it with
      | none => pure (.done .next)
      | some v =>
        letOwnedTupleGo t2 it v
        assign t2 env v
        let mut ok := true
        for c in ifs2 do
          if ok then ok ← isTrue c env (eval c env)
        if ok then
          (do
            let kv ← eval kx env
            let vv ← holding [kv] (eval vx env)
            standAt { kx.pos with endLine := vx.pos.endLine, endCol := vx.pos.endCol }
            holding [kv, vv] (dictSet D kv vv))
        again (.compLoop (.DictComp kx vx [⟨t1, i1, ifs1, 0⟩, ⟨t2, i2, ifs2, 0⟩] scope pos) 1 it (.ref D) env)) := by rfl
theorem dict2_out : compTurn (.DictComp kx vx [⟨t1, i1, ifs1, 0⟩, ⟨t2, i2, ifs2, 0⟩] scope pos) 0 it (.ref D) env = (do
      standAt i1.pos
      match ← pyNext it with
      | none => pure (.done .next)
      | some v =>
        letOwnedTupleGo t1 it v
        assign t1 env v
        let mut ok := true
        for c in ifs1 do
          if ok then ok ← isTrue c env (eval c env)
        if ok then
          let x ← eval i2 env
          standAt i2.pos
          let x ← foldedSetIterable i2 env x
          let _ ← runOwn (.compStart (.DictComp kx vx [⟨t1, i1, ifs1, 0⟩, ⟨t2, i2, ifs2, 0⟩] scope pos) 1 (← holding [x] (pyIter x)) (.ref D) env) env
        again (.compLoop (.DictComp kx vx [⟨t1, i1, ifs1, 0⟩, ⟨t2, i2, ifs2, 0⟩] scope pos) 0 it (.ref D) env)) := by rfl
/-- nothing is raised -/
abbrev noE : Value → Shared → Prop := fun _ _ => False
theorem dict2_start (h0 : codeAny (model prog w) A (.compLoop (.DictComp kx vx [⟨t1, i1, ifs1, 0⟩, ⟨t2, i2, ifs2, 0⟩] scope pos) 1 it (.ref D) env) R s)
    (h : wpAny (model prog w) A (pyIter it) (fun it' s' => codeAny (model prog w) A (.compLoop (.DictComp kx vx [⟨t1, i1, ifs1, 0⟩, ⟨t2, i2, ifs2, 0⟩] scope pos) 1 it' (.ref D) env) R s') (notedBy (model prog w) A env fun x s' => R (.error x) s') s) :
    codeAny (model prog w) A (.compStart (.DictComp kx vx [⟨t1, i1, ifs1, 0⟩, ⟨t2, i2, ifs2, 0⟩] scope pos) 1 it (.ref D) env) R s := by
  refine codeAny_of_tree ?_
  show wpAny _ A ((compStart (.DictComp kx vx [⟨t1, i1, ifs1, 0⟩, ⟨t2, i2, ifs2, 0⟩] scope pos) 1 it (.ref D) env).onRaise (fun x => do noteFrame x env; standAt theWindowsPlace)) _ _ s
  refine wpAny_notedAt ?_
  unfold compStart
  show wpAny _ A (ask >>= _) _ _ s
  refine wpAny_bind (wpAny_askSetting (wpAny_ite ?_))
  split
  · first
      | exact wpAny_pure (And.intro rfl h0)
      | exact wpAny_bind (wpAny_pure (wpAny_pure (And.intro rfl h0)))
  · first
      | exact wpAny_bind (wpAny_rule (wpAny_bind (wpAny_standAt (wpAny_bind (wpAny_mono h (fun it' s' z => wpAny_pure (And.intro rfl z)) fun _ _ x => x)))))
      | (refine wpAny_bind (wpAny_rule ?_); show wpAny _ _ (standAt i2.pos >>= _) _ _ s; exact wpAny_bind (wpAny_standAt (wpAny_bind (wpAny_mono h (fun it' s' z => wpAny_pure (And.intro rfl z)) fun _ _ x => x))))
theorem dict2_inner (I : Nat → Shared → Prop)
    (turn : ∀ n s, I n s → wpAny (model prog w) A (pyNext it) (fun r s1 => match r with
      | none => R (.ok .next) s1
      | some v => wpAny (model prog w) A (letOwnedTupleGo t2 it v) (fun _ s2 => wpAny (model prog w) A (assign t2 env v) (fun _ s3 =>
          wpAny (model prog w) A (eval kx env) (fun kv s4 => wpAny (model prog w) A (eval vx env) (fun vv s5 => wpAny (model prog w) A (dictSet D kv vv) (fun _ s6 => ∃ m, m < n ∧ I m s6) noE s5) noE s4) noE s3) noE s2) noE s1) noE s)
    (n : Nat) (h : I n s) : codeAny (model prog w) A (.compLoop (.DictComp kx vx [⟨t1, i1, [], 0⟩, ⟨t2, i2, [], 0⟩] scope pos) 1 it (.ref D) env) R s := by
  refine codeAny_loop rfl I (fun n s hI => ?_) n h
  show wpAny _ A ((compTurn (.DictComp kx vx [⟨t1, i1, [], 0⟩, ⟨t2, i2, [], 0⟩] scope pos) 1 it (.ref D) env).onRaise (fun x => do noteFrame x env; theTreesLotGoes x)) _ _ s
  refine wpAny_noted ?_
  rw [dict2_in]
  refine wpAny_bind (wpAny_standAt (wpAny_bind (thnF (turn n s hI) fun r s1 h1 => ?_)))
  cases r with
  | none => exact wpAny_pure h1
  | some v =>
    refine wpAny_bind (thnF h1 fun _ s2 h2 => ?_)
    refine wpAny_bind (thnF h2 fun _ s3 h3 => wpAny_bind (wpAny_tests_nil ?_))
    exact wpAny_bind (wpAny_bind (thnF h3 fun kv s4 h4 => wpAny_bind (wpAny_holding (thnF h4 fun vv s5 h5 => wpAny_bind (wpAny_standAt (wpAny_holding (thnF h5 fun _ s6 h6 => wpAny_pure ⟨rfl, h6⟩)))))))
theorem dict2_outer (I : Nat → Shared → Prop) (hs : ∀ x, foldedSetIterable i2 env x = pure x)
    (turn : ∀ n s, I n s → wpAny (model prog w) A (pyNext it) (fun r s1 => match r with
      | none => R (.ok .next) s1
      | some v => wpAny (model prog w) A (letOwnedTupleGo t1 it v) (fun _ s2 => wpAny (model prog w) A (assign t1 env v) (fun _ s3 =>
          wpAny (model prog w) A (eval i2 env) (fun x s4 => wpAny (model prog w) A (pyIter x) (fun it2 s5 =>
            codeAny (model prog w) A (.compLoop (.DictComp kx vx [⟨t1, i1, [], 0⟩, ⟨t2, i2, [], 0⟩] scope pos) 1 it2 (.ref D) env) (fun r s6 => r = .ok .next ∧ ∃ m, m < n ∧ I m s6) s5 ∧
            ∀ R' : Result → Shared → Prop, codeAny (model prog w) A (.compLoop (.DictComp kx vx [⟨t1, i1, [], 0⟩, ⟨t2, i2, [], 0⟩] scope pos) 1 it2 (.ref D) env) R' s5 → wpAny (model prog w) A (pyIter it2) (fun it' s' => codeAny (model prog w) A (.compLoop (.DictComp kx vx [⟨t1, i1, [], 0⟩, ⟨t2, i2, [], 0⟩] scope pos) 1 it' (.ref D) env) R' s') noE s5) noE s4) noE s3) noE s2) noE s1) noE s)
    (n : Nat) (h : I n s) : codeAny (model prog w) A (.compLoop (.DictComp kx vx [⟨t1, i1, [], 0⟩, ⟨t2, i2, [], 0⟩] scope pos) 0 it (.ref D) env) R s := by
  refine codeAny_loop rfl I (fun n s hI => ?_) n h
  show wpAny _ A ((compTurn (.DictComp kx vx [⟨t1, i1, [], 0⟩, ⟨t2, i2, [], 0⟩] scope pos) 0 it (.ref D) env).onRaise (fun x => do noteFrame x env; theTreesLotGoes x)) _ _ s
  refine wpAny_noted ?_
  rw [dict2_out]
  refine wpAny_bind (wpAny_standAt (wpAny_bind (thnF (turn n s hI) fun r s1 h1 => ?_)))
  cases r with
  | none => exact wpAny_pure h1
  | some v =>
    refine wpAny_bind (thnF h1 fun _ s2 h2 => ?_)
    refine wpAny_bind (thnF h2 fun _ s3 h3 => wpAny_bind (wpAny_tests_nil ?_))
    refine wpAny_bind (thnF h3 fun x s4 h4 => wpAny_bind (wpAny_standAt (wpAny_bind (wpAny_of_eq (hs x) ?_))))
    refine wpAny_bind (wpAny_holding (thnF h4 fun it2 s5 ⟨h5, h6⟩ => ?_))
    refine wpAny_bind (wpAny_runOwn ?_)
    have lp := codeAny_mono h5 (R' := fun r s' => match r with
      | .ok f => wpAny (model prog w) A (again (.compLoop (.DictComp kx vx [⟨t1, i1, [], 0⟩, ⟨t2, i2, [], 0⟩] scope pos) 0 it (.ref D) env)) (fun fin s' => match fin with
        | .done f => R (.ok f) s'
        | .again c' => c' = .compLoop (.DictComp kx vx [⟨t1, i1, [], 0⟩, ⟨t2, i2, [], 0⟩] scope pos) 0 it (.ref D) env ∧ ∃ m, m < n ∧ I m s') (notedBy (model prog w) A env fun e s' => R (.error e) s') s'
      | .error e => cameBackBy (model prog w) A env (notedBy (model prog w) A env fun e s' => R (.error e) s') e s') (fun r s6 ⟨er, q⟩ => by
        subst er
        exact wpAny_pure ⟨rfl, q⟩)
    exact dict2_start lp (thnF (h6 _ lp) fun _ _ q => q)
end
end Ax
end
section
set_option maxHeartbeats 4000000
/-! {k: v for t1 in i1 for t2 in i2} -/
namespace Ax
open PySem PySem.Spec PyProof.Rows L2
/-- the reading of the inner for -/
def In2 (J2 : It) (g2 : TG) (tk tv : TE) (pt : Put) (D : Addr) (σ2 : L2.St) (H3 : Hp) (Nx : Hp → Prop) : Prop := ∃ n2 G2 Y2, Walk J2 n2 G2 Y2 ∧ ∃ P2 : Nat → Hp → Prop, P2 0 H3 ∧ (∀ j H, j ≤ n2 → P2 j H → G2 H) ∧ (∀ H, P2 n2 H → Nx H) ∧
  ∀ j y H H', j < n2 → P2 j H → Y2 j H y H' → g2 y σ2 H' fun σ3 H4 => (σ2.length = σ3.length ∧ ∀ (k : Nat) (v : V), σ2[k]? = some (some v) → σ3[k]? = some (some v)) ∧ tk σ3 H4 fun u H5 => tv σ3 H5 fun z H6 => ∃ o, pt H6 D u z o ∧ P2 (j + 1) (upd H6 D o)
/-- .. of the whole: emp the empty dict's object -/
def tDc2 (wi1 wi2 : TI) (g1 g2 : TG) (tk tv : TE) (pt : Put) (emp : HO) (vs : List Nat) : TE := fun σ H Q => wi1 σ H fun J1 H1 => ∃ n1 G1 Y1, Walk J1 n1 G1 Y1 ∧ ∀ D, H1 D = none → ∃ P : Nat → Hp → Prop, P 0 (upd H1 D emp) ∧ (∀ i H, i ≤ n1 → P i H → G1 H) ∧ (∀ H, P n1 H → Q (.ref D) H) ∧
  ∀ i x H H', i < n1 → P i H → Y1 i H x H' → g1 x (wipe σ vs) H' fun σ2 H2 => wipe σ2 vs = wipe σ vs ∧ wi2 σ2 H2 fun J2 H3 => In2 J2 g2 tk tv pt D σ2 H3 (P (i + 1))
section
variable {X : Cx} {kx vx t1 t2 i1 i2 : Expr} {scope : Scope} {own : List (Str × Nat)} {pos : Pos} {wi1 wi2 : TI} {g1 g2 : TG} {tk tv : TE} {pt : Put} {emp : HO}
theorem pe_dc2 (hpt : PutOk pt) (hemp : ∀ (P : Program) (w : World) (H : Hp) (h : Heap), sysModules < h.objs.size → ObjOk P w H (h.push { cls := .type "dict", data := .dict #[] }) h.objs.size emp) (hu : X.A.units + 64 < cLine) (hc : X.calm = true) (hN : X.N.Nodup)
    (hi : PI X t1 i1 wi1) (ok : BlkOk X.N X.env.scope scope own) (hg1 : Blk X scope fun Y => PG Y t1 g1) (hg2 : Blk X scope fun Y => PG Y t2 g2) (hi2 : Blk X scope fun Y => PI Y t2 i2 wi2) (hk : Blk X scope fun Y => PE Y kx tk) (hv : Blk X scope fun Y => PE Y vx tv)
    (hs : ∀ x, foldedSetIterable i1 X.env x = pure x := by intro _; rfl) (hs2 : Blk X scope fun Y => ∀ x, foldedSetIterable i2 Y.env x = pure x := by intro _ _ _ _ _ _; rfl) :
    PE X (.DictComp kx vx [⟨t1, i1, [], 0⟩, ⟨t2, i2, [], 0⟩] scope pos) (tDc2 wi1 wi2 g1 g2 tk tv pt emp (own.map (·.2))) := by
  refine ⟨fun pins s σ H Q I h => ?_⟩
  rw [arm_eval_DictComp]
  have free : ∀ y ∈ scope.names, y.2 = .free → ∃ c, X.env.cells.lookup y.1 = some c := fun y hy e => (ok.free y hy e).elim (fun k => I.ok.has _ (.inl k)) fun k => I.ok.has _ (.inr k)
  refine wpAny_comprehension_free (use := none) rfl hs (closure_ok free) ok.kind (fun y hy e => (ok.uniq y hy).trans (by rw [e])) (thn (hi.run pins s σ H _ I h) fun xv s1 hx => thn hx fun itv s2 h2 => ?_)
  obtain ⟨it, fp, tn, J, H2, e, I2, T, st2, f2, n1, G1, Y1, wk, q⟩ := h2
  subst e
  refine wpAny_newObj_type (newEnv_comp ?_)
  generalize hD : s2.heap.objs.size = D
  have nD : H2 D = none := I2.hok.fresh (Nat.le_of_eq hD)
  obtain ⟨P, p0, pG, pQ, pS⟩ := q D nD
  generalize hs3 : ({ s2 with heap := s2.heap.push { cls := .type "dict", data := .dict #[] } } : Shared) = s3
  have h3 : s3.heap = s2.heap.push { cls := .type "dict", data := .dict #[] } := by rw [← hs3]
  have I3 : Inv X pins σ (upd H2 D emp) s3 := by
    rw [← hs3]
    refine I2.laid (t' := s2.toks) (fun b o z => Heap.get?_push_of_some _ z) (Nat.le_of_eq hD) ?_
    rw [← hD]
    exact hemp _ _ _ _ I2.big
  have sz : ∀ b ∈ fp, b < s2.heap.objs.size := fun b hb => by
    obtain ⟨o, z, _⟩ := T.obj _ _ st2 b hb
    exact Heap.lt_size z
  have f3 : ∀ b ∈ fp, FpOk X pins (upd H2 D emp) b ∧ b < s3.heap.objs.size := fun b hb =>
    ⟨⟨(upd_ne (by rw [← hD] <;> exact Nat.ne_of_lt (sz b hb))).trans (f2 b hb).1, (f2 b hb).2⟩, by rw [h3, Heap.size_push] <;> exact Nat.lt_succ_of_lt (sz b hb)⟩
  have st3 : tn 0 s3.heap := T.keep _ _ _ st2 fun b _ o z => by rw [h3] <;> exact Heap.get?_push_of_some _ z
  have I4 := block_start I3 ok hN f3
  have pg1 := hg1 s3 (upd H2 D emp) s3.heap.objs.size (cellsFrom (s3.heap.objs.size + 1) scope.names (cloFrom X.env.cells scope.names [])) fp
  have pg2 := hg2 s3 (upd H2 D emp) s3.heap.objs.size (cellsFrom (s3.heap.objs.size + 1) scope.names (cloFrom X.env.cells scope.names [])) fp
  have pi2 := hi2 s3 (upd H2 D emp) s3.heap.objs.size (cellsFrom (s3.heap.objs.size + 1) scope.names (cloFrom X.env.cells scope.names [])) fp
  have pk := hk s3 (upd H2 D emp) s3.heap.objs.size (cellsFrom (s3.heap.objs.size + 1) scope.names (cloFrom X.env.cells scope.names [])) fp
  have pv := hv s3 (upd H2 D emp) s3.heap.objs.size (cellsFrom (s3.heap.objs.size + 1) scope.names (cloFrom X.env.cells scope.names [])) fp
  have ps2 := hs2 s3 (upd H2 D emp) s3.heap.objs.size (cellsFrom (s3.heap.objs.size + 1) scope.names (cloFrom X.env.cells scope.names [])) fp
  show codeAny _ _ (.compStart (.DictComp kx vx [⟨t1, i1, [], 0⟩, ⟨t2, i2, [], 0⟩] scope pos) 0 (.ref it) (.ref D) (compEnvC scope (cellsFrom (s3.heap.objs.size + 1) scope.names (cloFrom X.env.cells scope.names [])) s3.heap.objs.size X.env)) (compPost (model X.prog X.w) X.A X.xe none (EP X pins σ Q) (.ref D) s3.heap.objs.size)
    { s3 with heap := pushCells (s3.heap.push { cls := .type "dict", data := .dict #[] }) scope.names }
  have nfp : ∀ b ∈ fp, (upd H2 D emp) b = none := fun b hb => (f3 b hb).1.1
  generalize hce : compEnvC scope (cellsFrom (s3.heap.objs.size + 1) scope.names (cloFrom X.env.cells scope.names [])) s3.heap.objs.size X.env = ce at I4 pg1 pg2 pi2 pk pv ps2 ⊢
  have cL : ce.locals = s3.heap.objs.size := by subst hce <;> rfl
  generalize hH3 : upd H2 D emp = H3 at I3 I4 pg1 pg2 pi2 pk pv ps2 p0 nfp f3
  generalize hs4 : ({ s3 with heap := pushCells (s3.heap.push { cls := .type "dict", data := .dict #[] }) scope.names } : Shared) = s4 at I4 ⊢
  have st4 : tn 0 s4.heap := T.keep _ _ _ st3 fun b _ o z => by rw [← hs4] <;> exact pushCells_keeps _ _ _ _ (Heap.get?_push_of_some _ z)
  have stat : ∀ {σ' : L2.St} {H' : Hp} {s' : Shared}, Inv (X.blk s3 H3 scope ce fp) [] σ' H' s' → (∀ b ∈ fp, H' b = none) → ∀ b ∈ fp, FpOk (X.blk s3 H3 scope ce fp) [] H' b := fun {σ' H' s'} I' hn b hb =>
    ⟨hn b hb, (I'.ok.exf b hb).1, I'.ok.exfs b hb, .inl hb, fun x c e => (I'.ok.exf b hb).2 x c e, fun r hr => absurd (show r ∈ ([] : List (Addr × Obj)) ++ [] from hr) (by simp)⟩
  have loop : codeAny (model X.prog X.w) X.A (.compLoop (.DictComp kx vx [⟨t1, i1, [], 0⟩, ⟨t2, i2, [], 0⟩] scope pos) 0 (.ref it) (.ref D) ce) (compPost (model X.prog X.w) X.A X.xe none (EP X pins σ Q) (.ref D) s3.heap.objs.size) s4 := by
    refine dict2_outer (fun n s' => ∃ i H', n = n1 - i ∧ i ≤ n1 ∧ Inv (X.blk s3 H3 scope ce fp) [] (wipe σ (own.map (·.2))) H' s' ∧ tn i s'.heap ∧ (∀ b ∈ fp, H' b = none) ∧ P i H') ps2 ?_ n1 ⟨0, H3, rfl, Nat.zero_le _, I4, st4, nfp, p0⟩
    rintro n s5 ⟨i, H5, en, hin, I5, st5, n5, p5⟩
    by_cases hlt : i < n1
    · refine thnF (T.item (X.blk s3 H3 scope ce fp) rfl rfl rfl hc i [] s5 _ H5 (fun _ _ => False) I5 (stat I5 n5) st5 (wk.goes i H5 hlt (pG i H5 hin p5))) fun r s6 ⟨u, hr, h6⟩ => ?_
      subst hr
      refine thnF h6 fun _ s7 ⟨x, H7, I7, r7, y7, st7, n7⟩ => ?_
      have I7p := I7.pinned (stat I7 n7) (T.obj _ _ st7)
      refine thnF (pg1.run _ s7 _ H7 x u _ I7p r7 (pS i x H5 H7 hlt p5 (wk.yields i H5 x H7 hlt (pG i H5 hin p5) y7))) fun _ s8 ⟨σ8, H8, I8, hw8, q8⟩ => ?_
      refine thnF (pi2.run _ s8 σ8 H8 _ I8 q8) fun xv s9 h9 => thnF h9 fun itv2 s10 h10 => ?_
      obtain ⟨it2, fp2, tn2, J2, H10, e2, I10, T2, st10, f10, n2, G2, Y2, wk2, P2, q0, qG, qN, qS⟩ := h10
      subst e2
      have stat2 : ∀ {H' : Hp}, (∀ b ∈ fp2, H' b = none) → ∀ b ∈ fp2, FpOk (X.blk s3 H3 scope ce fp) ([] ++ pinsAt fp s7.heap) H' b := fun hn b hb => ⟨hn b hb, (f10 b hb).2⟩
      refine ⟨?_, fun R' lp => T2.self X.A 0 _ _ _ st10 lp⟩
      refine dict2_inner (fun m s' => ∃ j H', m = n2 - j ∧ j ≤ n2 ∧ Inv (X.blk s3 H3 scope ce fp) ([] ++ pinsAt fp s7.heap) σ8 H' s' ∧ tn2 j s'.heap ∧ (∀ b ∈ fp2, H' b = none) ∧ P2 j H') ?_ n2 ⟨0, H10, rfl, Nat.zero_le _, I10, st10, fun b hb => (f10 b hb).1, q0⟩
      rintro m s11 ⟨j, H11, em, hjn, I11, st11, n11, p11⟩
      by_cases hjt : j < n2
      · refine thnF (T2.item (X.blk s3 H3 scope ce fp) rfl rfl rfl hc j _ s11 _ H11 (fun _ _ => False) I11 (stat2 n11) st11 (wk2.goes j H11 hjt (qG j H11 hjn p11))) fun r s12 ⟨u2, hr, h12⟩ => ?_
        subst hr
        refine thnF h12 fun _ s13 ⟨x2, H13, I13, r13, y13, st13, n13⟩ => ?_
        have I13p := I13.pinned (stat2 n13) (T2.obj _ _ st13)
        refine thnF (pg2.run _ s13 _ H13 x2 u2 _ I13p r13 (qS j x2 H11 H13 hjt p11 (wk2.yields j H11 x2 H13 hjt (qG j H11 hjn p11) y13))) fun _ s14 ⟨σ14, H14, I14, ⟨hl14, hw14⟩, q14⟩ => ?_
        refine thnF (pk.run _ s14 σ14 H14 _ I14 q14) fun kv s15 ⟨yk, H15, I15, r15, q15⟩ => ?_
        refine thnF (pv.run _ s15 σ14 H15 _ I15 q15) fun vv s16 ⟨yv, H16, I16, r16, o, po, p16⟩ => ?_
        refine hpt (X.blk s3 H3 scope ce fp) _ _ _ _ _ _ _ _ _ _ _ _ hu I16 po r15 r16 fun s17 I17 => ?_
        have pin' : ∀ b ∈ fp2, ∀ ob, s13.heap.get? b = some ob → s17.heap.get? b = some ob ∧ (upd H16 D o) b = none := fun b hb ob z =>
          let y := I17.pin (b, ob) (List.mem_append_right _ (List.mem_append_right _ (mem_pinsAt hb z)))
          ⟨y.1, y.2.1⟩
        refine ⟨n2 - (j + 1), by omega, j + 1, _, rfl, hjt, I17.unpinned.weak hl14 hw14, T2.keep _ _ _ st13 fun b hb ob z => (pin' b hb ob z).1, fun b hb => ?_, p16⟩
        obtain ⟨ob, z, _⟩ := T2.obj _ _ st13 b hb
        exact (pin' b hb ob z).2
      · have ej : j = n2 := by omega
        subst ej
        refine thnF (T2.done (X.blk s3 H3 scope ce fp) rfl rfl rfl hc j _ s11 _ H11 (fun _ _ => False) I11 (stat2 n11) st11 (wk2.stops H11 (qG j H11 (Nat.le_refl _) p11))) fun r s12 ⟨hr, I12⟩ => ?_
        subst hr
        have pin' : ∀ b ∈ fp, ∀ ob, s7.heap.get? b = some ob → s12.heap.get? b = some ob ∧ H11 b = none := fun b hb ob z =>
          let y := I12.pin (b, ob) (List.mem_append_right _ (List.mem_append_right _ (mem_pinsAt hb z)))
          ⟨y.1, y.2.1⟩
        have hl : (wipe σ (own.map (·.2))).length = σ8.length := by rw [← hw8, wipe_length]
        refine ⟨rfl, n1 - (i + 1), by omega, i + 1, H11, rfl, hlt, (I12.unpinned (pins := [])).weak hl (fun k v z => (wipe_some (hw8 ▸ z)).1), T.keep _ _ _ st7 fun b hb ob z => (pin' b hb ob z).1, fun b hb => ?_, qN H11 p11⟩
        obtain ⟨ob, z, _⟩ := T.obj _ _ st7 b hb
        exact (pin' b hb ob z).2
    · have ei : i = n1 := by omega
      subst ei
      refine thnF (T.done (X.blk s3 H3 scope ce fp) rfl rfl rfl hc i [] s5 _ H5 (fun _ _ => False) I5 (stat I5 n5) st5 (wk.stops H5 (pG i H5 (Nat.le_refl _) p5))) fun r s6 ⟨hr, I6⟩ => ?_
      subst hr
      have I7 : Inv X pins σ H5 s6 := I3.call' (ch := fp) I6.os I6.base I6.hok I6.bare fun b hb => ⟨(f3 b hb).1.2.2.2.1, (f3 b hb).1.2.1, (f3 b hb).1.2.2.2.2.1, (f3 b hb).1.2.2.2.2.2⟩
      have nC : H5 s3.heap.objs.size = none := cL ▸ I6.free
      obtain ⟨m, hn, _⟩ := I6.loc
      have hn : s6.heap.Ns s3.heap.objs.size m := cL ▸ hn
      obtain ⟨f0, f1, f2', f3', f4, f5⟩ := I3.fpOk (Nat.le_refl _) nC
      exact ⟨m, hn, fun h'' sb => ⟨.ref D, H5, I7.turned (t' := s6.toks) (fun b o hb z => (sb.2 b hb).trans z) f0 f1 f3' f4 f5, rfl, pQ H5 p5⟩⟩
  exact codeAny_compStart_dict loop (T.self X.A 0 _ _ _ st4 loop)
/-- one for, no test, any kind of key -/
def tDc1 (wi : TI) (g : TG) (tk tv : TE) (pt : Put) (emp : HO) (vs : List Nat) : TE := fun σ H Q => wi σ H fun J H1 => ∃ n G Y, Walk J n G Y ∧ ∀ D, H1 D = none → ∃ P : Nat → Hp → Prop, P 0 (upd H1 D emp) ∧ (∀ i H, i ≤ n → P i H → G H) ∧ (∀ H, P n H → Q (.ref D) H) ∧
  ∀ i x H H', i < n → P i H → Y i H x H' → g x (wipe σ vs) H' fun σ2 H2 => wipe σ2 vs = wipe σ vs ∧ tk σ2 H2 fun u H5 => tv σ2 H5 fun z H6 => ∃ o, pt H6 D u z o ∧ P (i + 1) (upd H6 D o)
theorem pe_dc1 (hpt : PutOk pt) (hemp : ∀ (P : Program) (w : World) (H : Hp) (h : Heap), sysModules < h.objs.size → ObjOk P w H (h.push { cls := .type "dict", data := .dict #[] }) h.objs.size emp) (hu : X.A.units + 64 < cLine) (hc : X.calm = true) (hN : X.N.Nodup)
    (hi : PI X t1 i1 wi1) (ok : BlkOk X.N X.env.scope scope own) (hg1 : Blk X scope fun Y => PG Y t1 g1) (hk : Blk X scope fun Y => PE Y kx tk) (hv : Blk X scope fun Y => PE Y vx tv)
    (hs : ∀ x, foldedSetIterable i1 X.env x = pure x := by intro _; rfl) :
    PE X (.DictComp kx vx [⟨t1, i1, [], 0⟩] scope pos) (tDc1 wi1 g1 tk tv pt emp (own.map (·.2))) := by
  refine ⟨fun pins s σ H Q I h => ?_⟩
  rw [arm_eval_DictComp]
  have free : ∀ y ∈ scope.names, y.2 = .free → ∃ c, X.env.cells.lookup y.1 = some c := fun y hy e => (ok.free y hy e).elim (fun k => I.ok.has _ (.inl k)) fun k => I.ok.has _ (.inr k)
  refine wpAny_comprehension_free (use := none) rfl hs (closure_ok free) ok.kind (fun y hy e => (ok.uniq y hy).trans (by rw [e])) (thn (hi.run pins s σ H _ I h) fun xv s1 hx => thn hx fun itv s2 h2 => ?_)
  obtain ⟨it, fp, tn, J, H2, e, I2, T, st2, f2, n1, G1, Y1, wk, q⟩ := h2
  subst e
  refine wpAny_newObj_type (newEnv_comp ?_)
  generalize hD : s2.heap.objs.size = D
  have nD : H2 D = none := I2.hok.fresh (Nat.le_of_eq hD)
  obtain ⟨P, p0, pG, pQ, pS⟩ := q D nD
  generalize hs3 : ({ s2 with heap := s2.heap.push { cls := .type "dict", data := .dict #[] } } : Shared) = s3
  have h3 : s3.heap = s2.heap.push { cls := .type "dict", data := .dict #[] } := by rw [← hs3]
  have I3 : Inv X pins σ (upd H2 D emp) s3 := by
    rw [← hs3]
    refine I2.laid (t' := s2.toks) (fun b o z => Heap.get?_push_of_some _ z) (Nat.le_of_eq hD) ?_
    rw [← hD]
    exact hemp _ _ _ _ I2.big
  have sz : ∀ b ∈ fp, b < s2.heap.objs.size := fun b hb => by
    obtain ⟨o, z, _⟩ := T.obj _ _ st2 b hb
    exact Heap.lt_size z
  have f3 : ∀ b ∈ fp, FpOk X pins (upd H2 D emp) b ∧ b < s3.heap.objs.size := fun b hb =>
    ⟨⟨(upd_ne (by rw [← hD] <;> exact Nat.ne_of_lt (sz b hb))).trans (f2 b hb).1, (f2 b hb).2⟩, by rw [h3, Heap.size_push] <;> exact Nat.lt_succ_of_lt (sz b hb)⟩
  have st3 : tn 0 s3.heap := T.keep _ _ _ st2 fun b _ o z => by rw [h3] <;> exact Heap.get?_push_of_some _ z
  have I4 := block_start I3 ok hN f3
  have pg1 := hg1 s3 (upd H2 D emp) s3.heap.objs.size (cellsFrom (s3.heap.objs.size + 1) scope.names (cloFrom X.env.cells scope.names [])) fp
  have pk := hk s3 (upd H2 D emp) s3.heap.objs.size (cellsFrom (s3.heap.objs.size + 1) scope.names (cloFrom X.env.cells scope.names [])) fp
  have pv := hv s3 (upd H2 D emp) s3.heap.objs.size (cellsFrom (s3.heap.objs.size + 1) scope.names (cloFrom X.env.cells scope.names [])) fp
  show codeAny _ _ (.compStart (.DictComp kx vx [⟨t1, i1, [], 0⟩] scope pos) 0 (.ref it) (.ref D) (compEnvC scope (cellsFrom (s3.heap.objs.size + 1) scope.names (cloFrom X.env.cells scope.names [])) s3.heap.objs.size X.env)) (compPost (model X.prog X.w) X.A X.xe none (EP X pins σ Q) (.ref D) s3.heap.objs.size)
    { s3 with heap := pushCells (s3.heap.push { cls := .type "dict", data := .dict #[] }) scope.names }
  have nfp : ∀ b ∈ fp, (upd H2 D emp) b = none := fun b hb => (f3 b hb).1.1
  generalize hce : compEnvC scope (cellsFrom (s3.heap.objs.size + 1) scope.names (cloFrom X.env.cells scope.names [])) s3.heap.objs.size X.env = ce at I4 pg1 pk pv ⊢
  have cL : ce.locals = s3.heap.objs.size := by subst hce <;> rfl
  generalize hH3 : upd H2 D emp = H3 at I3 I4 pg1 pk pv p0 nfp f3
  generalize hs4 : ({ s3 with heap := pushCells (s3.heap.push { cls := .type "dict", data := .dict #[] }) scope.names } : Shared) = s4 at I4 ⊢
  have st4 : tn 0 s4.heap := T.keep _ _ _ st3 fun b _ o z => by rw [← hs4] <;> exact pushCells_keeps _ _ _ _ (Heap.get?_push_of_some _ z)
  have stat : ∀ {σ' : L2.St} {H' : Hp} {s' : Shared}, Inv (X.blk s3 H3 scope ce fp) [] σ' H' s' → (∀ b ∈ fp, H' b = none) → ∀ b ∈ fp, FpOk (X.blk s3 H3 scope ce fp) [] H' b := fun {σ' H' s'} I' hn b hb =>
    ⟨hn b hb, (I'.ok.exf b hb).1, I'.ok.exfs b hb, .inl hb, fun x c e => (I'.ok.exf b hb).2 x c e, fun r hr => absurd (show r ∈ ([] : List (Addr × Obj)) ++ [] from hr) (by simp)⟩
  have loop : codeAny (model X.prog X.w) X.A (.compLoop (.DictComp kx vx [⟨t1, i1, [], 0⟩] scope pos) 0 (.ref it) (.ref D) ce) (compPost (model X.prog X.w) X.A X.xe none (EP X pins σ Q) (.ref D) s3.heap.objs.size) s4 := by
    refine compLoop_anyD (fun n s' => ∃ i H', n = n1 - i ∧ i ≤ n1 ∧ Inv (X.blk s3 H3 scope ce fp) [] (wipe σ (own.map (·.2))) H' s' ∧ tn i s'.heap ∧ (∀ b ∈ fp, H' b = none) ∧ P i H') ?_ n1 ⟨0, H3, rfl, Nat.zero_le _, I4, st4, nfp, p0⟩
    rintro n s5 ⟨i, H5, en, hin, I5, st5, n5, p5⟩
    by_cases hlt : i < n1
    · refine thnF (T.item (X.blk s3 H3 scope ce fp) rfl rfl rfl hc i [] s5 _ H5 (fun _ _ => False) I5 (stat I5 n5) st5 (wk.goes i H5 hlt (pG i H5 hin p5))) fun r s6 ⟨u, hr, h6⟩ => ?_
      subst hr
      refine thnF h6 fun _ s7 ⟨x, H7, I7, r7, y7, st7, n7⟩ => ?_
      have I7p := I7.pinned (stat I7 n7) (T.obj _ _ st7)
      refine thnF (pg1.run _ s7 _ H7 x u _ I7p r7 (pS i x H5 H7 hlt p5 (wk.yields i H5 x H7 hlt (pG i H5 hin p5) y7))) fun _ s8 ⟨σ8, H8, I8, hw8, q8⟩ => wpAny_tests_nil ?_
      simp only [if_true]
      refine thnF (pk.run _ s8 σ8 H8 _ I8 q8) fun kv s9 ⟨yk, H9, I9, r9, q9⟩ => ?_
      refine thnF (pv.run _ s9 σ8 H9 _ I9 q9) fun vv s10 ⟨yv, H10, I10, r10, o, po, p10⟩ => ?_
      refine hpt (X.blk s3 H3 scope ce fp) _ _ _ _ _ _ _ _ _ _ _ _ hu I10 po r9 r10 fun s11 I11 => ?_
      have pin' : ∀ b ∈ fp, ∀ ob, s7.heap.get? b = some ob → s11.heap.get? b = some ob ∧ (upd H10 D o) b = none := fun b hb ob z =>
        let y := I11.pin (b, ob) (List.mem_append_right _ (List.mem_append_right _ (mem_pinsAt hb z)))
        ⟨y.1, y.2.1⟩
      have hl : (wipe σ (own.map (·.2))).length = σ8.length := by rw [← hw8, wipe_length]
      refine ⟨n1 - (i + 1), by omega, i + 1, _, rfl, hlt, (I11.unpinned (pins := [])).weak hl (fun k v z => (wipe_some (hw8 ▸ z)).1), T.keep _ _ _ st7 fun b hb ob z => (pin' b hb ob z).1, fun b hb => ?_, p10⟩
      obtain ⟨ob, z, _⟩ := T.obj _ _ st7 b hb
      exact (pin' b hb ob z).2
    · have ei : i = n1 := by omega
      subst ei
      refine thnF (T.done (X.blk s3 H3 scope ce fp) rfl rfl rfl hc i [] s5 _ H5 (fun _ _ => False) I5 (stat I5 n5) st5 (wk.stops H5 (pG i H5 (Nat.le_refl _) p5))) fun r s6 ⟨hr, I6⟩ => ?_
      subst hr
      have I7 : Inv X pins σ H5 s6 := I3.call' (ch := fp) I6.os I6.base I6.hok I6.bare fun b hb => ⟨(f3 b hb).1.2.2.2.1, (f3 b hb).1.2.1, (f3 b hb).1.2.2.2.2.1, (f3 b hb).1.2.2.2.2.2⟩
      have nC : H5 s3.heap.objs.size = none := cL ▸ I6.free
      obtain ⟨m, hn, _⟩ := I6.loc
      have hn : s6.heap.Ns s3.heap.objs.size m := cL ▸ hn
      obtain ⟨f0, f1, f2', f3', f4, f5⟩ := I3.fpOk (Nat.le_refl _) nC
      exact ⟨m, hn, fun h'' sb => ⟨.ref D, H5, I7.turned (t' := s6.toks) (fun b o hb z => (sb.2 b hb).trans z) f0 f1 f3' f4 f5, rfl, pQ H5 p5⟩⟩
  exact codeAny_compStart_dict loop (T.self X.A 0 _ _ _ st4 loop)
end
end Ax
end
section
set_option maxHeartbeats 4000000
/-! sorted(d), d a dict whose keys are tuples of texts, all of one length -/
namespace Ax
open PySem PySem.Spec PyProof.Rows L2
open PySem.W (EachIs SortsAt dataKind AllAlike Sortable dataLe sortVals alike alikeAll alike_all_cons sortingHeap sortingHeap_old dataKind_inv dataKind_some)
def rowD (r : List Str) : PyData := .tuple (r.map .str)
theorem alike_strs : ∀ xs ys : List Str, alikeAll (xs.map .str) (ys.map .str) = true
  | [], [] => rfl
  | [], _ :: _ => rfl
  | _ :: _, [] => rfl
  | x :: xs, y :: ys => by
    have h := alike_strs xs ys
    show (alike (.str x) (.str y) && alikeAll (xs.map .str) (ys.map .str)) = true
    rw [h] <;> rfl
theorem depth_strs : ∀ xs : List Str, PyData.depthAll (xs.map .str) = 0
  | [] => rfl
  | x :: xs => by
    show max (PyData.depth (.str x)) (PyData.depthAll (xs.map .str)) = 0
    rw [depth_strs xs] <;> rfl
theorem alike_rows (rows : List (List Str)) : AllAlike (rows.map rowD) := AllAlike.of fun a b => by
  show alikeAll (a.map .str) (b.map .str) = true
  exact alike_strs a b
theorem depth_row (r : List Str) : (rowD r).depth ≤ 1 := by
  show PyData.depthAll (r.map .str) + 1 ≤ 1
  rw [depth_strs]
  exact Nat.le_refl _
theorem sortsAt_rows {prog : Program} {w : World} {A : Around} {s : Shared} {vs : List Value} {rows : List (List Str)} {n : Nat} (e : EachIs (fun v r => ∃ as, Reads s.heap v (rowD r) as) vs rows) (hn : ∀ r ∈ rows, r.length = n) (h1 : n = 0 → rows.length ≤ 1) (hu : A.units + 2 < cLine) :
    SortsAt prog w A s (dataKind s.heap (rows.map rowD)) vs := by
  have e' := PySem.W.each_map (R := fun v d => ∃ as, Reads s.heap v d as) rowD e
  have room : ∀ d, d ∈ rows.map rowD → A.units + d.depth < cLine := fun d hd => by
    obtain ⟨r, _, rfl⟩ := List.mem_map.mp hd
    have := depth_row r
    omega
  by_cases h0 : n = 0
  · have hl := h1 h0
    have all0 : ∀ d, d ∈ rows.map rowD → d = .tuple [] := fun d hd => by
      obtain ⟨r, hr, rfl⟩ := List.mem_map.mp hd
      have z := hn r hr
      rw [h0] at z
      rw [List.eq_nil_of_length_eq_zero z] <;> rfl
    refine ⟨fun v hv => ?_, tuples' true, fun E x y a b Q ha hb hq => ?_, fun h2 => ?_⟩
    · obtain ⟨d, hd, as, r⟩ := e'.left v hv
      exact ⟨_, dataKind_some (alike_rows rows) hd r⟩
    · obtain ⟨d, as, hd, ra, rfl⟩ := dataKind_inv ha
      obtain ⟨d', as', hd', rb, rfl⟩ := dataKind_inv hb
      obtain rfl := all0 d hd
      obtain rfl := all0 d' hd'
      cases ra with
      | @tuple l o xs m _ _ g1 g2 g3 g4 =>
        cases rb with
        | @tuple l' o' xs' m' _ _ k1 k2 k3 k4 =>
          have n1 : xs.size = 0 := by simpa using SeqAt.ReadsAll.length _ _ _ g4
          have n2 : xs'.size = 0 := by simpa using SeqAt.ReadsAll.length _ _ _ k4
          exact PySem.W.kat_lt g1 g3 k1 k3 (PySem.W.katLex_alike [] [] 0 _ _ _ _ g4 k4 rfl (by show A.units + min 0 0 < cLine; omega) (fun _ _ x r t z => nomatch z) (by rw [n1, n2] <;> rfl) hq)
    · have := e.length
      omega
  · refine PySem.W.SortsAt.data e' (alike_rows rows) (.inl fun d hd => ?_) room
    obtain ⟨r, hr, rfl⟩ := List.mem_map.mp hd
    cases r with
    | nil => exact absurd (hn [] hr).symm h0
    | cons x r => exact ⟨.str x, r.map .str, rfl⟩
/-- v is the tracked tuple of the texts r -/
def RowV (H : Hp) (v : Value) (r : List Str) : Prop := ∃ b, v = .ref b ∧ H b = some (.tup (r.map V.str))
theorem rows_out {H : Hp} : ∀ {vs : List Value} {rows : List (List Str)}, EachIs (RowV H) vs rows → ∃ bs, vs = bs.map Value.ref ∧ All2 (fun b r => H b = some (.tup (r.map V.str))) bs rows
  | _, _, .nil => ⟨[], rfl, .nil⟩
  | _, _, .cons ⟨b, e, h⟩ t => by
    obtain ⟨bs, e2, t2⟩ := rows_out t
    exact ⟨b :: bs, by rw [e, e2] <;> rfl, .cons h t2⟩
theorem paired_rows {H : Hp} : ∀ {kvs : List (List Key × V)} {ks : List (List Key × Addr × Value)} {rows : List (List Str)}, Paired (fun (p : List Key × V) (q : List Key × Addr × Value) => p.1 = q.1 ∧ H q.2.1 = some (.tup (p.1.map kV)) ∧ RelV p.2 q.2.2) kvs ks →
    kvs.map (·.1) = rows.map (fun r => r.map Sum.inr) → EachIs (RowV H) (ks.map fun x => Value.ref x.2.1) rows
  | _, _, [], .nil, _ => .nil
  | _, _, _ :: _, .nil, e => by cases e
  | _, _, [], .cons _ _, e => by cases e
  | _, _, r :: rows, .cons ⟨_, h2, _⟩ t, e => by
    obtain ⟨e1, e2⟩ := List.cons.inj e
    refine .cons ⟨_, rfl, ?_⟩ (paired_rows t e2)
    refine h2.trans ?_
    refine (congrArg (fun z => some (HO.tup (List.map kV z))) e1).trans ?_
    show some (HO.tup (List.map kV (r.map Sum.inr))) = _
    rw [List.map_map] <;> rfl
section
variable {X : Cx}
theorem call_sortedT (hcalm : X.calm = true) (hu : X.A.units + 64 < cLine) : CallR X (.builtin "sorted") (fun xs H Q => ∃ (a : Addr) (kvs : List (List Key × V)) (rows : List (List Str)) (n : Nat), xs = [.ref a] ∧ H a = some (.dT kvs) ∧ kvs.map (·.1) = rows.map (fun r => r.map Sum.inr) ∧
    (∀ r ∈ rows, r.length = n) ∧ ∀ bs p, H p = none → All2 (fun b r => H b = some (.tup (r.map V.str))) bs (rows.mergeSort (dataLe false rowD)) → Q (.ref p) (upd H p (.lst (bs.map V.ref)))) := by
  intro pins s σ H xs us Q I r q
  obtain ⟨a, kvs, rows, n, rfl, hd, hkeys, hn, q⟩ := q
  obtain ⟨u, rfl, rx⟩ := r.one
  cases rx
  obtain ⟨z, hs, ks, pr, o, es, ep, ho, hx, hdt, he, hnd⟩ := (show ObjOk X.prog X.w H s.heap a (.dT kvs) from I.hok a _ hd)
  have l1 : es.size = ks.length := size_of_entries he
  have l2 : kvs.length = ks.length := Paired.length pr
  have l3 : kvs.length = rows.length := by
    have := congrArg List.length hkeys
    simpa using this
  have nd : rows.Nodup := by
    have e1 : kvs.map (·.1) = ks.map (·.1) := by
      clear hd hkeys q he hnd z l1 l2 l3
      induction pr with
      | nil => rfl
      | cons h t ih => rw [List.map_cons, List.map_cons, ih, h.1]
    rw [← e1, hkeys] at hnd
    exact (List.pairwise_map.mp hnd).imp fun {a b} h e => h (by rw [e])
  have h1 : n = 0 → rows.length ≤ 1 := fun h0 => by
    match rows, nd, hn with
    | [], _, _ => exact Nat.zero_le _
    | [_], _, _ => exact Nat.le_refl _
    | x :: y :: r, nd, hn =>
      have ex := List.eq_nil_of_length_eq_zero ((hn x (List.mem_cons_self ..)).trans h0)
      have ey := List.eq_nil_of_length_eq_zero ((hn y (List.mem_cons_of_mem _ (List.mem_cons_self ..))).trans h0)
      rw [ex, ey] at nd
      exact absurd (List.mem_cons_self ..) (List.nodup_cons.mp nd).1
  refine Calls.call_function_entry PyProof.Rows.kind_sorted PyProof.Rows.plain_sorted PyProof.Rows.entry_sorted (PyProof.Rows.args_sorted1 _) ?_
  unfold Builtin.«sorted»
  refine wpAny_bind (m := checkCount "sorted" 1 1 _) (wpAny_pure ?_)
  refine wpAny_bind (PySem.W.kdu_collect (A := X.A.in1) (kdl_raw hs hx hdt) (I.ok.hd hcalm) ho (by omega) fun h' tk acc hk hacc => ?_)
  have ea : acc.toList = ks.map fun x => Value.ref x.2.1 := by
    have hl : acc.toList.length = ks.length := by rw [Array.length_toList, hacc.1] <;> exact l1
    refine List.ext_getElem? fun j => ?_
    rw [List.getElem?_map]
    cases hj : acc.toList[j]? with
    | none => rw [List.getElem?_eq_none (by have := List.getElem?_eq_none_iff.mp hj; omega)] <;> rfl
    | some v =>
      obtain ⟨en, hen, hv⟩ := hacc.2 j v (by rw [← Array.getElem?_toList] <;> exact hj)
      have qe := entry_at he j
      rw [hen] at qe
      cases hb : ks[j]? with
      | none =>
        rw [hb] at qe
        exact nomatch (show some en = none from qe)
      | some b =>
        rw [hb] at qe
        rw [hv, Option.some.inj qe] <;> rfl
  have eR : EachIs (RowV H) acc.toList rows := by rw [ea] <;> exact paired_rows pr hkeys
  have hal : acc.toList.length = rows.length := eR.length
  have I1 : Inv X pins σ H { s with heap := h', toks := tk } := I.kept hk
  refine wpAny_bind (wpAny_newList ?_ (by rw [hal] <;> omega))
  have hoL : (h'.push (seqObj "list" acc.toList.toArray 0)).get? h'.objs.size = some (seqObj "list" acc.toList.toArray 0) := Heap.get?_push_size _ rfl
  show wpAny _ _ _ _ _ { s with heap := h'.push (seqObj "list" acc.toList.toArray 0), toks := tk }
  have keep : ∀ b ob, s.heap.get? b = some ob → (sortingHeap (h'.push (seqObj "list" acc.toList.toArray 0)) h'.objs.size acc.toList).get? b = some ob := fun b ob z =>
    sortingHeap_old (Nat.ne_of_lt (Heap.lt_size (hk _ _ z))) (Heap.get?_push_of_some _ (hk _ _ z))
  have eS : EachIs (fun v r => ∃ as, Reads (sortingHeap (h'.push (seqObj "list" acc.toList.toArray 0)) h'.objs.size acc.toList) v (rowD r) as) acc.toList rows := eR.mono fun v r ⟨b, ev, hb⟩ => by
    subst ev
    obtain ⟨as, rd⟩ := Dp.reads I (rowD r) (.ref b) (.ref b) (.tup (SqT.of hb) (dpa_strs r)) rfl
    exact ⟨as, PyProof.Rows.Reads.keeps keep rd⟩
  refine wpAny_bind (wpAny_holding (wpAny_call_entry PyProof.Rows.slot_list_sort ⟨_, hoL, rfl⟩ PyProof.Rows.entry_list_sort
    (PySem.W.list_sort_vals (s := { s with heap := h'.push (seqObj "list" acc.toList.toArray 0), toks := tk }) hoL (sortsAt_rows (s := { s with heap := sortingHeap (h'.push (seqObj "list" acc.toList.toArray 0)) h'.objs.size acc.toList, toks := tk }) eS hn h1 (by show X.A.units + 1 + 1 + 2 < cLine; omega)) (by omega) ⟨_, rfl, ?_⟩) (PyProof.Rows.args_list_sort _)))
  have eO := PySem.W.sortVals_data (h' := sortingHeap (h'.push (seqObj "list" acc.toList.toArray 0)) h'.objs.size acc.toList) (enc := rowD) false eR eS (alike_rows rows)
  generalize sortVals (dataKind (sortingHeap (h'.push (seqObj "list" acc.toList.toArray 0)) h'.objs.size acc.toList) (rows.map rowD)) false acc.toList acc.toList = out at eO ⊢
  obtain ⟨bs, eb, hbs⟩ := rows_out eO
  obtain ⟨e', he'⟩ := PyProof.Rows.sortedHeap_at (vs := acc.toList) (out := out.toArray) hoL
  have hlen : (bs.map V.ref).length ≤ sizeLine := by
    have h2 := hbs.len
    rw [List.length_mergeSort] at h2
    rw [List.length_map]
    omega
  refine wpAny_pure ⟨_, rfl, .ref h'.objs.size, upd H h'.objs.size (.lst (bs.map V.ref)), I1.laid (t' := tk) (fun b u ez => ?_) (Nat.le_refl _) (show ObjOk X.prog X.w _ _ _ (.lst (bs.map V.ref)) from ⟨hlen, out, e', by rw [eb] <;> exact vals_refs bs, he'⟩), rfl, q bs _ (I1.hok.fresh (Nat.le_refl _)) hbs⟩
  have hb : b < h'.objs.size := Heap.lt_size ez
  rw [PyProof.Rows.sortedHeap_old (Nat.ne_of_lt hb) (by rw [size_push'] <;> exact Nat.lt_succ_of_lt hb)]
  exact Heap.get?_push_of_some _ ez
end
end Ax
end
section
set_option maxHeartbeats 4000000
/-! enumerate of a tuple -/
namespace AxEn
open PySem
open PySem.Sem (wp)
open AutoSeq1 (wpAny_loadPart')
theorem draws_tuple {prog : Program} {w : World} {A : Around} (hh : A.handled = none) (it l : Addr) (hne : l ≠ it) (items : Array Value) :
    Draws prog w A it [it, l] items.size (fun i v => items[i]? = some v) (fun i h => h.IsTupleIter it l i ∧ h.IsTuple l items) where
  live := fun _ _ st => let ⟨o, ho, _⟩ := st.1; ⟨o, ho⟩
  frame := fun _ _ _ st hk => ⟨st.1.at fun o e => hk it (by simp) o e, let ⟨o, ho, r⟩ := st.2; ⟨o, hk l (by simp) o ho, r⟩⟩
  item := fun i s Q E hi st hQ => by
    refine RZ.nextOf_tuple_item st.1 st.2 (x := items[i]) (by simp [hi]) fun h' hit' hs' => ?_
    exact hQ _ h' s.toks (by simp [hi]) ⟨hit', let ⟨o, ho, r⟩ := st.2; ⟨o, hs'.extBut l o hne ho, r⟩⟩ hs'
  done := fun s Q E st hE => RZ.nextOf_tuple_end hh st.1 st.2 (by simp) hE
theorem meets_new (l : Addr) (items : Array Value) :
    Meets (Builtin.«enumerate.__new__» ⟨[.type "enumerate", .ref l], []⟩) (fun _ R s => s.heap.IsTuple l items ∧
      R (.ok (.ret (.ref (s.heap.push { cls := .type "tuple_iterator", data := .fields #[.ref l, .int 0 0] }).objs.size)))
        { s with heap := (s.heap.push { cls := .type "tuple_iterator", data := .fields #[.ref l, .int 0 0] }).push { cls := .type "enumerate", data := .fields #[.none, .bool false, .ref s.heap.objs.size, rawInt 0, .none, .none] } }) :=
  .of_wp fun prog w A R s h => by
    obtain ⟨hp, g, d, tk, os⟩ := s; obtain ⟨hl, h⟩ := h
    have hsub := sub_enumerate
    have hL : Heap.IsTuple (Shared.heap ⟨hp, g, d, tk, os⟩) l items := hl
    obtain ⟨⟨oc, od, dt, sl⟩, ho, hc, n, hd⟩ := id hl
    replace hc : oc = .type "tuple" := hc
    replace hd : dt = .seq items n := hd
    subst hc hd
    wp_walk using wpAny_loadPart' ho
    refine wpAny_stack_any fun st => wpAny_pure ?_
    split
    · rename_i c _ _ _ _ _
      cases (c == Value.type "enumerate")
      · wp_walk using wpAny_loadPart' ho, wpAny_pyIter_tuple hL
        exact ⟨_, rfl, h⟩
      · wp_walk using wpAny_loadPart' ho, wpAny_pyIter_tuple hL
        exact ⟨_, rfl, h⟩
    · wp_walk using wpAny_loadPart' ho, wpAny_pyIter_tuple hL
      exact ⟨_, rfl, h⟩
section
variable {prog : Program} {w : World} {A : Around} {E : Value → Shared → Prop} {s : Shared}
theorem call_enumT {l : Addr} {items : Array Value} {Q : Value → Shared → Prop} (hL : s.heap.IsTuple l items)
    (h : ∀ h', IsEnum h' (s.heap.objs.size + 1) s.heap.objs.size 0 .none → h'.IsTupleIter s.heap.objs.size l 0 → h'.objs.size = s.heap.objs.size + 2 →
      (∀ b o, s.heap.get? b = some o → h'.get? b = some o) → Q (.ref (s.heap.objs.size + 1)) { s with heap := h' }) :
    wpAny (model prog w) A (call (.type "enumerate") [.ref l]) Q E s := by
  refine callType_new F.called_enumerate (by decide) (F.typeCall_enumerate_1 _) (F.newCall_enumerate_1 _) (fun obj => F.args_object_init_2 obj _) F.entry_enumerate_new
    (meets_new l items) ⟨hL, ?_⟩
  have hz : (s.heap.push { cls := .type "tuple_iterator", data := .fields #[.ref l, .int 0 0] }).objs.size = s.heap.objs.size + 1 := Heap.size_push ..
  show _ ∧ _
  rw [hz]
  have he : IsEnum ((s.heap.push { cls := .type "tuple_iterator", data := .fields #[.ref l, .int 0 0] }).push
      { cls := .type "enumerate", data := .fields #[.none, .bool false, .ref s.heap.objs.size, rawInt 0, .none, .none] }) (s.heap.objs.size + 1) s.heap.objs.size 0 .none := by
    have := Heap.get?_push_size (s.heap.push { cls := .type "tuple_iterator", data := .fields #[.ref l, .int 0 0] })
      (o := { cls := .type "enumerate", data := .fields #[.none, .bool false, .ref s.heap.objs.size, rawInt 0, .none, .none] }) rfl
    rw [hz] at this; exact this
  refine ⟨⟨_, he, rfl⟩, h _ he ⟨_, Heap.get?_push_of_some _ (Heap.get?_push_size _ rfl), rfl, rfl⟩ (by rw [Heap.size_push, hz]) fun b o x => Heap.get?_push_of_some _ (Heap.get?_push_of_some _ x)⟩
end
end AxEn
namespace Ax
open PySem PySem.Spec PyProof.Rows L2
/-- the tuple at a, each item in a new pair -/
def IteT (K : PySem.W.Frag) (a : Addr) : It :=
  ⟨fun i H => ∃ (xs : List V) (x : V), SqT K H a xs ∧ xs[i]? = some x, fun i H v H' => ∃ T x, v = .ref T ∧ H T = none ∧ H' = upd H T (.tup [.int (i : Nat), x]) ∧ ∀ xs, SqT K H a xs → xs[i]? = some x, fun i H => ∃ xs : List V, SqT K H a xs ∧ xs.length ≤ i⟩
theorem turn_enumT {P : Program} {w : World} {K : PySem.W.Frag} {elts : List Expr} {kk : Nat} {tpos : Pos} (a e it : Addr) (hne : e ≠ it) (hea : e ≠ a) (hai : a ≠ it) :
    Turn P w K (.Tuple elts kk tpos) (IteT K a) [e, it] e (fun i h => (∃ old, IsEnum h e it ((i : Nat) : Int) old) ∧ h.IsTupleIter it a i) where
  mem := by simp
  obj := fun i h st b hb => by
    obtain ⟨⟨old, he⟩, ⟨o, ho, hc, hd⟩⟩ := st
    have e' : b = e ∨ b = it := by simpa using hb
    rcases e' with z | z
    · rw [z]; exact ⟨_, he, fun v q => nomatch q⟩
    · rw [z]; exact ⟨o, ho, fun v q => by rw [hd] at q; cases q⟩
  keep := fun i h h' st k => let ⟨⟨old, he⟩, hi⟩ := st; ⟨⟨old, k e (by simp) _ he⟩, hi.at fun o q => k it (by simp) o q⟩
  item := by
    intro X hP hw hK hc i pins s σ H E I hf st hg
    subst hP hw hK
    obtain ⟨⟨old, he⟩, hit⟩ := st
    obtain ⟨xs, x, hq, hx⟩ := hg
    obtain ⟨its, rv, p, hz⟩ := I.tuple hq
    obtain ⟨u, hu, ru⟩ := rv.get hx
    have hel : e < s.heap.objs.size := Heap.lt_size he
    have hil : it < s.heap.objs.size := by obtain ⟨_, q, _⟩ := hit; exact Heap.lt_size q
    have D := AxEn.draws_tuple (prog := X.prog) (w := X.w) (A := X.A.in1) (I.ok.hd hc) it a hai its.toArray
    have hlt : i < its.toArray.size := by
      have := (List.getElem?_eq_some_iff.mp hu).1
      simpa using this
    refine wpAny_pyNext_enum_itemD D he ⟨hit, p⟩ hlt hne (by simp [hne, hea]) fun y h' tk hy ho st' hT hsz hk => ?_
    have hy : y = u := by
      have e1 : its.toArray[i]? = some u := by simpa using hu
      rw [e1] at hy
      exact (Option.some.inj hy).symm
    subst hy
    refine ⟨_, rfl, wpAny_letOwnedTupleGo_enum (s := { s with heap := h', toks := tk + 1 }) ho fun h'' he' sb => ?_⟩
    have hT2 : h''.get? s.heap.objs.size = some { cls := .type "tuple", data := .seq #[.int i tk, y] } := (sb.2 _ (Nat.ne_of_gt hel)).trans hT
    have new : ObjOk X.prog X.w (upd H s.heap.objs.size (.tup [.int (i : Nat), x])) h'' s.heap.objs.size (.tup [.int (i : Nat), x]) :=
      ⟨by show 2 ≤ sizeLine; decide, [.int i tk, y], .cons ⟨_, rfl⟩ (.cons ru .nil), ⟨_, hT2, rfl, _, rfl⟩⟩
    have I1 : Inv X pins σ (upd H s.heap.objs.size (.tup [.int (i : Nat), x])) { s with heap := h'', toks := tk + 1 } :=
      I.turnedNew (ch := [e, it]) (fun b ob hb q => (sb.2 b (fun z => hb (by simp [z]))).trans (hk b ob (fun z => hb (by simp [z])) (fun z => hb (by simp [z])) q)) hf (Nat.le_refl _) new
    refine ⟨.ref s.heap.objs.size, _, I1, rfl, ⟨_, x, rfl, I.hok.fresh (Nat.le_refl _), rfl, fun ys hy => by rw [I.tuple_inj hy hq]; exact hx⟩, ⟨⟨y, ?_⟩, st'.1.at fun o q => (sb.2 it (Ne.symm hne)).trans q⟩, fun b hb => ?_⟩
    · have e1 : ((i + 1 : Nat) : Int) = (i : Int) + 1 := by omega
      rw [e1]; exact he'
    · have hb' : b < s.heap.objs.size := by
        have e' : b = e ∨ b = it := by simpa using hb
        rcases e' with z | z
        · rw [z]; exact hel
        · rw [z]; exact hil
      rw [upd_ne (Nat.ne_of_lt hb')]
      exact (hf b hb).1
  done := by
    intro X hP hw hK hc i pins s σ H E I hf st hg
    subst hP hw hK
    obtain ⟨⟨old, he⟩, hit⟩ := st
    obtain ⟨xs, hq, hx⟩ := hg
    obtain ⟨its, rv, p, hz⟩ := I.tuple hq
    obtain ⟨f0, f1, f2, f3, f4, f5⟩ := hf it (by simp)
    have hl := rv.length
    have hT : s.TypeIs (.ref e) "enumerate" := ⟨_, he, rfl⟩
    unfold pyNext
    refine wpAny_bind (wpAny_attempt (wpAny_callSpecial?_slot (name := Str.ofString "__next__") hT F.slot_enumerate_next
      (wpAny_call_entry F.slot_enumerate_next hT F.entry_enumerate_next ?_ (F.args_enumerate_next_1 _))))
    show wpAny _ _ (field (.ref e) 2 >>= _) _ _ _
    refine wpAny_bind (wpAny_field he rfl (x := .ref it) rfl ?_)
    refine wpAny_bind (RZ.nextOf_tuple_end (I.ok.hd hc) hit p (by simp; omega) fun h' x he' hx' => ?_)
    obtain ⟨o, ho, hcc⟩ := hx'
    refine wpAny_bind (wpAny_isInstance (T := "StopIteration") (b := true) ⟨o, ho, hcc⟩ isSubtype_stop ?_)
    exact wpAny_pure ⟨rfl, I.turned (t' := s.toks) (fun b o hb q => he' b o hb q) f0 f1 f3 f4 f5⟩
  self := fun A i s Q E st h => let ⟨⟨_, he⟩, _⟩ := st; wpAny_pyIter_enum he h
def iEnumT (K : PySem.W.Frag) (ta : TA) : TI := fun σ H R => ta σ H fun vs H1 => ∃ a xs, vs = [.ref a] ∧ SqT K H1 a xs ∧ R (IteT K a) H1
theorem pi_enumT {X : Cx} {e : Expr} {ta : TA} {p pos tpos : Pos} {elts : List Expr} {kk : Nat} (hg : Gl X "enumerate") (hm : X.mg "enumerate" = none) (ha : PA X [e] ta) (hs : starEach [e] X.env = [(false, eval e X.env)] := by rfl) :
    PI X (.Tuple elts kk tpos) (.Call (.Name "enumerate" p) [e] [] pos) (iEnumT X.K ta) := by
  refine ⟨fun pins s σ H R I h => ?_⟩
  refine Call_ (ld_blt I hg hm PyProof.Rows.boot_enumerate (PyProof.Rows.callWith_type1 (thn (ha.run pos pins s σ H _ I h) fun us s1 ⟨vs, H1, I1, r1, q1⟩ => ?_) hs rfl))
  obtain ⟨a, xs, ex, hq, q⟩ := q1
  subst ex
  cases r1 with
  | cons r rr =>
    cases rr
    cases r
    obtain ⟨its, rv, p', hz⟩ := I1.tuple hq
    have hal : a < s1.heap.objs.size := by obtain ⟨_, q, _⟩ := id p'; exact Heap.lt_size q
    refine AxEn.call_enumT (show s1.heap.IsTuple a its.toArray from p') fun h' he hit hsz hk => wpAny_pyIter_enum he ?_
    have I2 : Inv X pins σ H1 { s1 with heap := h' } := I1.kept (t' := s1.toks) hk
    refine ⟨s1.heap.objs.size + 1, [s1.heap.objs.size + 1, s1.heap.objs.size], _, _, H1, rfl, I2, turn_enumT a (s1.heap.objs.size + 1) s1.heap.objs.size (Nat.succ_ne_self _) (Nat.ne_of_gt (Nat.lt_succ_of_lt hal)) (Nat.ne_of_lt hal), ⟨⟨.none, he⟩, hit⟩, fun b hb => ?_, q⟩
    have e' : b = s1.heap.objs.size + 1 ∨ b = s1.heap.objs.size := by simpa using hb
    have hle : s1.heap.objs.size ≤ b := by
      rcases e' with z | z
      · rw [z]; exact Nat.le_add_right _ _
      · rw [z]; exact Nat.le_refl _
    exact I1.fpOk hle (I1.hok.fresh hle)
theorem walk_enumT {K : PySem.W.Frag} {a : Addr} {xs : List V} : Walk (IteT K a) xs.length (fun H => SqT K H a xs) (fun i H v H' => ∃ T x, v = .ref T ∧ H T = none ∧ H' = upd H T (.tup [.int (i : Nat), x]) ∧ xs[i]? = some x) where
  goes := fun i H hi h => ⟨xs, xs[i], h, List.getElem?_eq_getElem hi⟩
  stops := fun H h => ⟨xs, h, Nat.le_refl _⟩
  yields := fun i H v H' _ h ⟨T, x, e1, e2, e3, e4⟩ => ⟨T, x, e1, e2, e3, e4 xs h⟩
end Ax
end
section
set_option maxHeartbeats 4000000
/-! comprehensions over walks whose items may be new tuples -/
namespace Ax
open PySem PySem.Spec PyProof.Rows L2
/-- a target of two names -/
abbrev gPair (K : PySem.W.Frag) (i j : Nat) : TG := gTup K 2 (gCons (gName i) (gCons (gName j) gNil))
theorem gPair_of {K : PySem.W.Frag} {i j : Nat} {a : Addr} {v1 v2 : V} {σ : L2.St} {H : Hp} {Q : L2.St → Hp → Prop} (h : SqT K H a [v1, v2]) (q : Q ((σ.set i (some v1)).set j (some v2)) H) : gPair K i j (.ref a) σ H Q :=
  ⟨a, [v1, v2], rfl, h, rfl, v1, [v2], rfl, v2, [], rfl, rfl, q⟩
/-- a walk of n items; nothing but a change of its source disturbs it; items may be new things -/
structure ItN (J : It) (H : Hp) (n : Nat) (Y : Nat → V → Hp → Prop) : Prop where
  ex : ∃ G : Hp → Prop, Walk J n G (fun i Ha v Hb => Same Ha Hb ∧ Y i v Hb) ∧ G H ∧ ∀ H', Same H H' → G H'
/-- the i-th of xs -/
def YNth (xs : List V) : Nat → V → Hp → Prop := fun i v _ => xs[i]? = some v
/-- a tuple of the i-th of f and the i-th of g -/
def YTwo (f g : Nat → Option V) : Nat → V → Hp → Prop := fun i v H => ∃ T x y, v = .ref T ∧ f i = some x ∧ g i = some y ∧ H T = some (.tup [x, y])
section
variable {K : PySem.W.Frag} {J : It} {H : Hp} {xs ys : List V} {a b : Addr}
theorem itN_seq (h : SeqIt J H xs) : ItN J H xs.length (YNth xs) := by
  obtain ⟨G, w, g, s⟩ := h
  exact ⟨G, w.mono (fun _ z => z) fun i Ha v Hb hi _ y => by
    obtain ⟨e, hv⟩ := y
    subst e
    exact ⟨Same.refl _, hv⟩, g, s⟩
theorem itN_enumT (h : SqT K H a xs) : ItN (IteT K a) H xs.length (YTwo (fun i => some (.int (i : Nat))) (fun i => xs[i]?)) :=
  ⟨_, walk_enumT.mono (fun _ z => z) fun i Ha v Hb hi _ ⟨T, x, e1, e2, e3, e4⟩ => by
    subst e3
    exact ⟨same_new e2, T, _, x, e1, rfl, e4, upd_same⟩, h, fun _ s => same_tup s h⟩
theorem itN_zip (h1 : SqL K H a xs) (h2 : SqL K H b ys) (hl : xs.length = ys.length) : ItN (Itz K a b) H xs.length (YTwo (fun i => xs[i]?) (fun i => ys[i]?)) :=
  ⟨_, (walk_zip (xs := xs) (ys := ys) (n := xs.length) (by rw [← hl] <;> simp)).mono (fun _ z => z) fun i Ha v Hb hi _ ⟨T, x, y, e1, e2, e3, e4, e5⟩ => by
    subst e3
    exact ⟨same_new e2, T, x, y, e1, e4, e5, upd_same⟩, ⟨h1, h2⟩, fun _ s => ⟨s.seq h1, s.seq h2⟩⟩
end
section
variable {X : Cx} {iter elt kx vx tg : Expr} {ifs : List Expr} {σ : L2.St} {H : Hp} {Q : VK} {pos : Pos} {scope : Scope}
/-- a list comprehension by an invariant of the list at D -/
abbrev LcI (X : Cx) (tg iter elt : Expr) (scope : Scope) (own : List (Str × Nat)) (g : TG) (tt : TT) (σ : L2.St) (H : Hp) (Q : VK) : Prop := WI X tg iter σ H fun J H1 => ∃ n G Y, Walk J n G Y ∧ n < sizeLine ∧ ∀ D, H1 D = none → ∃ P : Nat → List V → Hp → Prop,
    P 0 [] (upd H1 D (.lst [])) ∧ (∀ i ys H, i ≤ n → H D = some (.lst ys) → P i ys H → G H) ∧ (∀ ys H, H D = some (.lst ys) → P n ys H → Q (.ref D) H) ∧
    ∀ i ys x H H', i < n → H D = some (.lst ys) → P i ys H → Y i H x H' → ∀ (Kf : Hp → Prop) (Kt : VK), (∀ H3, H3 D = some (.lst ys) → P (i + 1) ys H3 → Kf H3) → (∀ y H3, H3 D = some (.lst ys) → P (i + 1) (ys ++ [y]) (upd H3 D (.lst (ys ++ [y]))) → Kt y H3) →
      g x (wipe σ (own.map (·.2))) H' fun σ2 H2 => wipe σ2 (own.map (·.2)) = wipe σ (own.map (·.2)) ∧ tt σ2 H2 fun b H4 => if b = true then (Blk X scope fun Y => W Y elt σ2 H4 Kt) else Kf H4
theorem lcI_t {own : List (Str × Nat)} {g : TG} {tt : TT} (h : LcI X tg iter elt scope own g tt σ H Q) : tLc (WI X tg iter) g tt (fun σ2 H2 K => Blk X scope fun Y => W Y elt σ2 H2 K) (own.map (·.2)) σ H Q := by
  refine ⟨fun pins s I => thn (h.run pins s I) fun v s1 z => thn z fun it s2 q => ?_⟩
  obtain ⟨it', fp, tn, J, H1, e, I2, T, t0, f0, n, G, Y, wk, hn, q⟩ := q
  refine ⟨it', fp, tn, J, H1, e, I2, T, t0, f0, fun D nD => ?_⟩
  obtain ⟨P, p0, pG, pQ, pS⟩ := q D nD
  refine lc_it (H1 := H1) (D := D) (g := g) (tt := tt) (te := fun σ2 H2 K => Blk X scope fun Y => W Y elt σ2 H2 K) (vs := own.map (·.2)) (σ := σ) (Qd := fun H2 => Q (.ref D) H2) wk
    (fun j H2 => ∃ ys : List V, ys.length ≤ j ∧ H2 D = some (.lst ys) ∧ P j ys H2) ⟨[], Nat.le_refl _, upd_same, p0⟩ (fun j H2 hj ⟨ys, _, hD, p⟩ => pG j ys H2 hj hD p) ?_ (fun H2 ⟨ys, _, hD, p⟩ => pQ ys H2 hD p)
  rintro j v H2 H2' hj ⟨ys, hl, hD, p⟩ y
  exact pS j ys v H2 H2' hj hD p y _ (fun y H4 => ∃ acc, H4 D = some (.lst acc) ∧ acc.length < sizeLine ∧ ∃ ys', ys'.length ≤ j + 1 ∧ (upd H4 D (.lst (acc ++ [y]))) D = some (.lst ys') ∧ P (j + 1) ys' (upd H4 D (.lst (acc ++ [y])))) (fun H3 hD3 p3 => ⟨ys, Nat.le_succ_of_le hl, hD3, p3⟩)
    fun y H3 hD3 p3 => ⟨ys, hD3, Nat.lt_of_le_of_lt hl (Nat.lt_trans hj hn), ys ++ [y], by simp; exact hl, upd_same, p3⟩
theorem w_lcI (own : List (Str × Nat)) (g : TG) (tt : TT) (hg : Blk X scope fun Y => PG Y tg g) (ht : Blk X scope fun Y => PTs Y ifs tt) (hc : X.calm = true) (hN : X.N.Nodup) (ok : BlkOk X.N X.env.scope scope own)
    (h : LcI X tg iter elt scope own g tt σ H Q) (hs : ∀ x, foldedSetIterable iter X.env x = pure x := by intro _; rfl) : W X (.ListComp elt [⟨tg, iter, ifs, 0⟩] scope pos) σ H Q :=
  W.of (pe_lc (own := own) (g := g) (tt := tt) (te := fun σ2 H2 K => Blk X scope fun Y => W Y elt σ2 H2 K) hc hN WI.pi ok hg ht
    (fun s H C cl fp => ⟨fun pins s' σ' H' Q' I' h' => (h' s H C cl fp).run pins s' I'⟩) hs) (lcI_t h)
theorem ws_setLcI {D : Ends} {y : Str} {py spos : Pos} (i : Nat) (own : List (Str × Nat)) (g : TG) (tt : TT) (hg : Blk X scope fun Y => PG Y tg g) (ht : Blk X scope fun Y => PTs Y ifs tt) (hc : X.calm = true) (hN : X.N.Nodup) (ok : BlkOk X.N X.env.scope scope own) (hy : X.N[i]? = some y)
    (h : LcI X tg iter elt scope own g tt σ H fun v H1 => D.nx (σ.set i (some v)) H1) (hyl : X.env.scope.names.lookup y = some .local := by rfl) (hsw : swapsWith (.ListComp elt [⟨tg, iter, ifs, 0⟩] scope pos) (some (.Name y py)) spos.line X.env = pure true := by exact sw_true rfl rfl rfl rfl)
    (hs : ∀ x, foldedSetIterable iter X.env x = pure x := by intro _; rfl) : WS X (.Assign [.Name y py] (.ListComp elt [⟨tg, iter, ifs, 0⟩] scope pos) spos) D σ H :=
  WS.of (ps_setLc (own := own) (g := g) (tt := tt) (te := fun σ2 H2 K => Blk X scope fun Y => W Y elt σ2 H2 K) hc hN hy hyl hsw WI.pi ok hg ht
    (fun s H C cl fp => ⟨fun pins s' σ' H' Q' I' h' => (h' s H C cl fp).run pins s' I'⟩) hs) (lcI_t h)
/-- .. each item gives the value c i, or none: by its place -/
abbrev LcC (X : Cx) (tg iter elt : Expr) (scope : Scope) (own : List (Str × Nat)) (g : TG) (tt : TT) (σ : L2.St) (H : Hp) (Q : VK) : Prop := WI X tg iter σ H fun J H1 => ∃ n Y, ItN J H1 n Y ∧ n < sizeLine ∧ ∃ c : Nat → Option V,
    (∀ i x H2, i < n → Same H1 H2 → Y i x H2 → g x (wipe σ (own.map (·.2))) H2 fun σ2 H3 => wipe σ2 (own.map (·.2)) = wipe σ (own.map (·.2)) ∧ tt σ2 H3 fun b H4 => Same H2 H4 ∧ if b = true then (Blk X scope fun Y => W Y elt σ2 H4 fun y H5 => Same H4 H5 ∧ c i = some y) else c i = none) ∧
    ∀ q H2, Same H1 H2 → H1 q = none → H2 q = some (.lst ((List.range n).filterMap c)) → Q (.ref q) H2
theorem lcC_I {own : List (Str × Nat)} {g : TG} {tt : TT} (mg : ∀ v σ H (Q Q' : L2.St → Hp → Prop), (∀ a b, Q a b → Q' a b) → g v σ H Q → g v σ H Q') (mt : ∀ σ H (Q Q' : Bool → Hp → Prop), (∀ a b, Q a b → Q' a b) → tt σ H Q → tt σ H Q') (h : LcC X tg iter elt scope own g tt σ H Q) : LcI X tg iter elt scope own g tt σ H Q := by
  refine ⟨fun pins s I => thn (h.run pins s I) fun v s1 z => thn z fun it s2 q => ?_⟩
  obtain ⟨it', fp, tn, J, H1, e, I2, T, t0, f0, n, Y, ⟨G, wk, g0, gs⟩, hn, c, hel, hend⟩ := q
  refine ⟨it', fp, tn, J, H1, e, I2, T, t0, f0, n, G, _, wk, hn, fun D nD => ⟨fun i ys H => Same H1 H ∧ ys = (List.range i).filterMap c, ⟨same_new nD, rfl⟩, fun i ys H _ _ p => gs _ p.1, fun ys H hD p => hend D H p.1 nD (by rw [hD, p.2]), ?_⟩⟩
  rintro i ys x Ha Hb hi hD ⟨sm, rfl⟩ ⟨sab, y⟩ Kf Kt kf kt
  refine mg _ _ _ _ _ (fun σ2 H3 ⟨z1, z2⟩ => ⟨z1, mt _ _ _ _ (fun b H4 ⟨s24, z⟩ => ?_) z2⟩) (hel i x Hb hi (sm.trans sab) y)
  have sD := sab.trans s24
  cases b with
  | true =>
    rw [if_pos rfl] at z ⊢
    intro s' H' C cl fp'
    refine W.mono (z s' H' C cl fp') fun y H5 ⟨s45, hc⟩ => kt y H5 ((sD.trans s45) _ _ hD) ⟨same_upd (sm.trans (sD.trans s45)) nD, ?_⟩
    rw [List.range_succ, List.filterMap_append]
    simp [hc]
  | false =>
    rw [if_neg Bool.false_ne_true] at z ⊢
    refine kf H4 (sD _ _ hD) ⟨sm.trans sD, ?_⟩
    rw [List.range_succ, List.filterMap_append]
    simp [z]
theorem mono_name {i : Nat} : ∀ v σ H (Q Q' : L2.St → Hp → Prop), (∀ a b, Q a b → Q' a b) → gName i v σ H Q → gName i v σ H Q' := fun _ _ _ _ _ k h => k _ _ h
theorem mono_pair {K : PySem.W.Frag} {i j : Nat} : ∀ v σ H (Q Q' : L2.St → Hp → Prop), (∀ a b, Q a b → Q' a b) → gPair K i j v σ H Q → gPair K i j v σ H Q' := by
  rintro v σ H Q Q' k ⟨a, xs, e, ha, hl, v1, r1, e1, v2, r2, e2, e3, q⟩
  exact ⟨a, xs, e, ha, hl, v1, r1, e1, v2, r2, e2, e3, k _ _ q⟩
theorem mono_yes : ∀ σ H (Q Q' : Bool → Hp → Prop), (∀ a b, Q a b → Q' a b) → tYes σ H Q → tYes σ H Q' := fun _ _ _ _ k h => k _ _ h
/-- a test as a rule of tests -/
abbrev tWT (X : Cx) (scope : Scope) (c : Expr) : TT := fun σ2 H2 Kc => Blk X scope fun Y => WT Y c σ2 H2 Kc
theorem mono_wt {c : Expr} : ∀ σ H (Q Q' : Bool → Hp → Prop), (∀ a b, Q a b → Q' a b) → tWT X scope c σ H Q → tWT X scope c σ H Q' := fun _ _ _ _ k h s H C cl fp => WT.mono (h s H C cl fp) k
theorem pts_wt {c : Expr} : Blk X scope fun Y => PTs Y [c] (tWT X scope c) := fun s H C cl fp => pts_one ⟨fun pins s' σ' H' Q' I' h' => (h' s H C cl fp).run pins s' I'⟩
/-- .. each item a thing by a relation that stands but for changes at the list D itself -/
abbrev LcR (X : Cx) (tg iter elt : Expr) (scope : Scope) (own : List (Str × Nat)) (g : TG) (σ : L2.St) (H : Hp) (Q : VK) : Prop := WI X tg iter σ H fun J H1 => ∃ n Y, ItN J H1 n Y ∧ n < sizeLine ∧ ∃ R : Addr → Nat → V → Hp → Prop, (∀ D i y Ha Hb acc, Ha D = some (.lst acc) → R D i y Ha → Bt D Ha Hb → R D i y Hb) ∧
    (∀ D i x H2, i < n → Same H1 H2 → H1 D = none → (∃ acc, H2 D = some (.lst acc)) → Y i x H2 → g x (wipe σ (own.map (·.2))) H2 fun σ2 H3 => wipe σ2 (own.map (·.2)) = wipe σ (own.map (·.2)) ∧ Blk X scope fun Y => W Y elt σ2 H3 fun y H5 => Same H2 H5 ∧ R D i y H5) ∧
    ∀ q ys H2, Same H1 H2 → H1 q = none → H2 q = some (.lst ys) → ys.length = n → (∀ (i : Nat) y, ys[i]? = some y → R q i y H2) → Q (.ref q) H2
theorem lcR_I {own : List (Str × Nat)} {g : TG} (mg : ∀ v σ H (Q Q' : L2.St → Hp → Prop), (∀ a b, Q a b → Q' a b) → g v σ H Q → g v σ H Q') (h : LcR X tg iter elt scope own g σ H Q) : LcI X tg iter elt scope own g tYes σ H Q := by
  refine ⟨fun pins s I => thn (h.run pins s I) fun v s1 z => thn z fun it s2 q => ?_⟩
  obtain ⟨it', fp, tn, J, H1, e, I2, T, t0, f0, n, Y, ⟨G, wk, g0, gs⟩, hn, R, hst, hel, hend⟩ := q
  refine ⟨it', fp, tn, J, H1, e, I2, T, t0, f0, n, G, _, wk, hn, fun D nD => ⟨fun i ys H => Same H1 H ∧ ys.length = i ∧ ∀ (j : Nat) y, ys[j]? = some y → R D j y H, ⟨same_new nD, rfl, fun j y e => by simp at e⟩, fun i ys H _ _ p => gs _ p.1, fun ys H hD p => hend D ys H p.1 nD hD p.2.1 p.2.2, ?_⟩⟩
  rintro i ys x Ha Hb hi hD ⟨sm, hl, hR⟩ ⟨sab, y⟩ Kf Kt kf kt
  refine mg _ _ _ _ _ (fun σ2 H3 ⟨z1, z2⟩ => ⟨z1, ?_⟩) (hel D i x Hb hi (sm.trans sab) nD ⟨_, sab _ _ hD⟩ y)
  show if true = true then Blk X scope fun Y => W Y elt σ2 H3 Kt else Kf H3
  rw [if_pos rfl]
  intro s' H' C cl fp'
  refine W.mono (z2 s' H' C cl fp') fun y H5 ⟨s35, hr⟩ => ?_
  have s5 : Same Ha H5 := sab.trans s35
  refine kt y H5 (s5 _ _ hD) ⟨same_upd (sm.trans s5) nD, by simp [hl], fun j u e => ?_⟩
  have bt : Bt D H5 (upd H5 D (.lst (ys ++ [y]))) := (Bt.refl D H5).upd
  by_cases hj : j < ys.length
  · rw [List.getElem?_append_left hj] at e
    exact hst _ _ _ _ _ _ hD (hR j u e) ((Bt.of s5).trans bt)
  · rw [List.getElem?_append_right (by omega)] at e
    have ej : j = ys.length := by
      have := (List.getElem?_eq_some_iff.mp e).1
      simp at this
      omega
    subst ej
    simp at e
    subst e
    rw [hl]
    exact hst _ _ _ _ _ _ (s5 _ _ hD) hr bt
/-! ### dicts -/
/-- a kind of keys: how a store puts them, how the dict's object is told, how a value shows a key -/
structure Fam (κ : Type) [DecidableEq κ] where
  pt : Put
  mkO : List (κ × V) → HO
  shows : κ → V → Hp → Prop
  ok : PutOk pt
  put : ∀ H D kvs k v z, H D = some (mkO kvs) → shows k v H → kvs.length < sizeLine → pt H D v z (mkO (putK kvs k z))
  st : ∀ k v H H', shows k v H → Same H H' → shows k v H'
  emp : ∀ (P : Program) (w : World) (H : Hp) (h : Heap), sysModules < h.objs.size → ObjOk P w H (h.push { cls := .type "dict", data := .dict #[] }) h.objs.size (mkO [])
def famK : Fam Key where
  pt := putKP
  mkO := .dK
  shows := fun k v _ => v = kV k
  ok := putKP_ok
  put := fun H D kvs k v z h1 h2 h3 => ⟨kvs, k, h2, h1, h3, rfl⟩
  st := fun k v H H' h _ => h
  emp := fun P w H h hb => dk_empty _ hb
def famT : Fam (List Key) where
  pt := putTP
  mkO := .dT
  shows := fun k v H => ∃ b, v = .ref b ∧ H b = some (.tup (k.map kV))
  ok := putTP_ok
  put := fun H D kvs k v z h1 ⟨b, h2, h4⟩ h3 => ⟨kvs, k, b, h2, h1, h4, h3, rfl⟩
  st := fun k v H H' ⟨b, h, h2⟩ s => ⟨b, h, s _ _ h2⟩
  emp := fun P w H h hb => dt_empty _ hb
/-- pairs put in one behind another -/
def putsL {κ : Type} [DecidableEq κ] (ps : List (κ × V)) : List (κ × V) := ps.foldl (fun d p => putK d p.1 p.2) []
theorem putsL_snoc {κ : Type} [DecidableEq κ] {ps : List (κ × V)} {k : κ} {z : V} : putsL (ps ++ [(k, z)]) = putK (putsL ps) k z := by
  unfold putsL
  rw [List.foldl_append] <;> rfl
theorem putsL_len {κ : Type} [DecidableEq κ] (ps : List (κ × V)) : (putsL ps).length ≤ ps.length := by
  have h : ∀ (zs d : List (κ × V)), (zs.foldl (fun d p => putK d p.1 p.2) d).length ≤ d.length + zs.length := by
    intro zs
    induction zs with
    | nil => intro d; exact Nat.le_refl _
    | cons z zs ih =>
      intro d
      have h1 := ih (putK d z.1 z.2)
      have h2 := length_putK d z.1 z.2
      show (zs.foldl _ (putK d z.1 z.2)).length ≤ _
      simp only [List.length_cons]
      omega
  have e := h ps []
  rw [List.length_nil, Nat.zero_add] at e
  exact e
/-- the keys, each once, in the order of their first coming -/
def onceL {κ : Type} [DecidableEq κ] (ks : List κ) : List κ := ks.foldl (fun d k => if k ∈ d then d else d ++ [k]) []
theorem putK_keysG {κ : Type} [DecidableEq κ] (d : List (κ × V)) (k : κ) (v : V) : (putK d k v).map (·.1) = if k ∈ d.map (·.1) then d.map (·.1) else d.map (·.1) ++ [k] := by
  unfold putK
  cases e : d.any fun kv => decide (kv.1 = k) with
  | true =>
    obtain ⟨kv, h1, h2⟩ := List.any_eq_true.mp e
    rw [if_pos rfl, if_pos (List.mem_map.mpr ⟨kv, h1, of_decide_eq_true h2⟩), List.map_map]
    refine List.map_congr_left fun kv _ => ?_
    show (if kv.1 = k then (kv.1, v) else kv).1 = kv.1
    split <;> rfl
  | false =>
    rw [if_neg Bool.false_ne_true, if_neg]
    · simp
    · intro h
      obtain ⟨kv, h1, h2⟩ := List.mem_map.mp h
      exact List.any_eq_false.mp e kv h1 (decide_eq_true h2)
theorem putsL_keys {κ : Type} [DecidableEq κ] (ps : List (κ × V)) : (putsL ps).map (·.1) = onceL (ps.map (·.1)) := by
  have h : ∀ (zs d : List (κ × V)), (zs.foldl (fun d p => putK d p.1 p.2) d).map (·.1) = (zs.map (·.1)).foldl (fun d k => if k ∈ d then d else d ++ [k]) (d.map (·.1)) := by
    intro zs
    induction zs with
    | nil => intro d; rfl
    | cons z zs ih =>
      intro d
      rw [List.foldl_cons, ih, List.map_cons, List.foldl_cons, putK_keysG]
  exact h ps []
theorem onceL_snoc {κ : Type} [DecidableEq κ] {ks : List κ} {k : κ} : onceL (ks ++ [k]) = if k ∈ onceL ks then onceL ks else onceL ks ++ [k] := by
  unfold onceL
  rw [List.foldl_append] <;> rfl
theorem onceL_mem {κ : Type} [DecidableEq κ] (ks : List κ) : (onceL ks).Nodup ∧ ∀ k, k ∈ onceL ks ↔ k ∈ ks := by
  have h : ∀ (zs d : List κ), d.Nodup → (zs.foldl (fun d k => if k ∈ d then d else d ++ [k]) d).Nodup ∧ ∀ k, k ∈ zs.foldl (fun d k => if k ∈ d then d else d ++ [k]) d ↔ k ∈ d ∨ k ∈ zs := by
    intro zs
    induction zs with
    | nil => intro d n; exact ⟨n, fun k => by simp⟩
    | cons z zs ih =>
      intro d n
      by_cases c : z ∈ d
      · obtain ⟨h1, h2⟩ := ih d n
        rw [List.foldl_cons, if_pos c]
        refine ⟨h1, fun k => ?_⟩
        rw [h2 k, List.mem_cons]
        constructor
        · rintro (h | h)
          · exact .inl h
          · exact .inr (.inr h)
        · rintro (h | h | h)
          · exact .inl h
          · rw [h]; exact .inl c
          · exact .inr h
      · have n2 : (d ++ [z]).Nodup := by
          rw [List.nodup_append]
          refine ⟨n, by simp, fun a ha b hb => ?_⟩
          rw [List.mem_singleton.mp hb]
          rintro rfl
          exact c ha
        obtain ⟨h1, h2⟩ := ih (d ++ [z]) n2
        rw [List.foldl_cons, if_neg c]
        refine ⟨h1, fun k => ?_⟩
        rw [h2 k, List.mem_cons, List.mem_append, List.mem_singleton, or_assoc]
  obtain ⟨h1, h2⟩ := h ks [] (by simp)
  exact ⟨h1, fun k => (h2 k).trans (by simp)⟩
/-- what is of no key twice already -/
theorem onceL_id {κ : Type} [DecidableEq κ] {ks : List κ} (h : ks.Nodup) : onceL ks = ks := by
  have key : ∀ (zs d : List κ), (d ++ zs).Nodup → zs.foldl (fun d k => if k ∈ d then d else d ++ [k]) d = d ++ zs := by
    intro zs
    induction zs with
    | nil => intro d _; simp
    | cons z zs ih =>
      intro d n
      have c : z ∉ d := fun c => by
        have := (List.nodup_append.mp n).2.2 z c z List.mem_cons_self
        exact this rfl
      rw [List.foldl_cons, if_neg c, ih (d ++ [z]) (by simpa using n)]
      simp
  have e := key ks [] (by simpa using h)
  rw [List.nil_append] at e
  exact e
/-- {k: v for t in it}: the i-th item puts the i-th of ps -/
theorem w_dcN {κ : Type} [DecidableEq κ] (F : Fam κ) (own : List (Str × Nat)) (g : TG) (hu : X.A.units + 64 < cLine) (mg : ∀ v σ H (Q Q' : L2.St → Hp → Prop), (∀ a b, Q a b → Q' a b) → g v σ H Q → g v σ H Q') (hg : Blk X scope fun Y => PG Y tg g) (hc : X.calm = true) (hN : X.N.Nodup) (ok : BlkOk X.N X.env.scope scope own)
    (h : WI X tg iter σ H fun J H1 => ∃ n Y, ItN J H1 n Y ∧ ∃ ps : List (κ × V), ps.length = n ∧ n < sizeLine ∧
      (∀ (i : Nat) x H2 k z, ps[i]? = some (k, z) → Same H1 H2 → Y i x H2 → g x (wipe σ (own.map (·.2))) H2 fun σ2 H3 => wipe σ2 (own.map (·.2)) = wipe σ (own.map (·.2)) ∧ Blk X scope fun Y => W Y kx σ2 H3 fun u H4 => Same H2 H4 ∧ F.shows k u H4 ∧ Blk X scope fun Y => W Y vx σ2 H4 fun y H5 => Same H4 H5 ∧ y = z) ∧
      ∀ q H2, Same H1 H2 → H1 q = none → H2 q = some (F.mkO (putsL ps)) → Q (.ref q) H2)
    (hs : ∀ x, foldedSetIterable iter X.env x = pure x := by intro _; rfl) : W X (.DictComp kx vx [⟨tg, iter, [], 0⟩] scope pos) σ H Q := by
  refine W.of (pe_dc1 (wi1 := WI X tg iter) (g1 := g) (tk := fun σ2 H2 K => Blk X scope fun Y => W Y kx σ2 H2 K) (tv := fun σ2 H2 K => Blk X scope fun Y => W Y vx σ2 H2 K) F.ok F.emp hu hc hN WI.pi ok hg
    (fun s H C cl fp => ⟨fun pins s' σ' H' Q' I' h' => (h' s H C cl fp).run pins s' I'⟩) (fun s H C cl fp => ⟨fun pins s' σ' H' Q' I' h' => (h' s H C cl fp).run pins s' I'⟩) hs) ?_
  refine ⟨fun pins s I => thn (h.run pins s I) fun v s1 z => thn z fun it s2 q => ?_⟩
  obtain ⟨it', fp, tn, J, H1, e, I2, T, t0, f0, n, Y, ⟨G, wk, g0, gs⟩, ps, rfl, hn, hel, hend⟩ := q
  refine ⟨it', fp, tn, J, H1, e, I2, T, t0, f0, ps.length, G, _, wk, fun D nD => ⟨fun i H => Same H1 H ∧ H D = some (F.mkO (putsL (ps.take i))), ⟨same_new nD, upd_same⟩, fun i H _ p => gs _ p.1, fun H p => hend D H p.1 nD (by have := p.2; rw [List.take_length] at this; exact this), ?_⟩⟩
  rintro i x Ha Hb hi ⟨sm, hD⟩ ⟨sab, y⟩
  have hp : ps[i]? = some ((ps[i]).1, (ps[i]).2) := List.getElem?_eq_getElem hi
  refine mg _ _ _ _ _ (fun σ2 H3 ⟨z1, z2⟩ => ⟨z1, ?_⟩) (hel i x Hb _ _ hp (sm.trans sab) y)
  intro s' H' C cl fp'
  refine W.mono (z2 s' H' C cl fp') fun u H4 ⟨s4, sh, z3⟩ => ?_
  intro s' H' C cl fp'
  refine W.mono (z3 s' H' C cl fp') fun y H5 ⟨s5, ey⟩ => ?_
  subst ey
  have hD5 : H5 D = some (F.mkO (putsL (ps.take i))) := (sab.trans (s4.trans s5)) _ _ hD
  have hl : (putsL (ps.take i)).length < sizeLine := by
    have h1 := putsL_len (ps.take i)
    rw [List.length_take] at h1
    omega
  refine ⟨_, F.put H5 D _ _ _ _ hD5 (F.st _ _ _ _ sh s5) hl, same_upd (sm.trans (sab.trans (s4.trans s5))) nD, ?_⟩
  rw [List.take_add_one, List.getElem?_eq_getElem hi]
  show (upd H5 D _) D = some (F.mkO (putsL (ps.take i ++ [((ps[i]).1, (ps[i]).2)])))
  rw [putsL_snoc]
  exact upd_same
/-- a walk that stands but for changes at D -/
structure ItD (D : Addr) (J : It) (H : Hp) (n : Nat) (Y : Nat → V → Hp → Prop) : Prop where
  ex : ∃ G : Hp → Prop, Walk J n G (fun i Ha v Hb => Same Ha Hb ∧ Y i v Hb) ∧ G H ∧ ∀ H', Bt D H H' → G H'
theorem itD_tup {K : PySem.W.Frag} {D a : Addr} {xs : List V} (h : SqT K H a xs) (ne : a ≠ D) : ItD D (Itt K a) H xs.length (YNth xs) :=
  ⟨_, walk_tup.mono (fun _ z => z) fun i Ha v Hb hi _ y => by
    obtain ⟨e, hv⟩ := y
    subst e
    exact ⟨Same.refl _, hv⟩, h, fun H' b => by
    rcases h with (h | ⟨o, h⟩) | h
    · exact .inl (.inl (b _ _ ne h))
    · exact .inl (.inr ⟨o, b _ _ ne h⟩)
    · exact .inr h⟩
/-- {k: v for t1 in i1 for t2 in i2} -/
theorem w_dc2N {κ : Type} [DecidableEq κ] {i2 tg2 : Expr} (F : Fam κ) (own : List (Str × Nat)) (g g2 : TG) (hu : X.A.units + 64 < cLine) (mg : ∀ v σ H (Q Q' : L2.St → Hp → Prop), (∀ a b, Q a b → Q' a b) → g v σ H Q → g v σ H Q') (mg2 : ∀ v σ H (Q Q' : L2.St → Hp → Prop), (∀ a b, Q a b → Q' a b) → g2 v σ H Q → g2 v σ H Q')
    (hg : Blk X scope fun Y => PG Y tg g) (hg2 : Blk X scope fun Y => PG Y tg2 g2) (hc : X.calm = true) (hN : X.N.Nodup) (ok : BlkOk X.N X.env.scope scope own)
    (h : WI X tg iter σ H fun J H1 => ∃ n Y, ItN J H1 n Y ∧ ∃ pss : List (List (κ × V)), pss.length = n ∧ pss.flatten.length < sizeLine ∧
      (∀ D (i : Nat) x H2 ps, H1 D = none → pss[i]? = some ps → Same H1 H2 → Y i x H2 → g x (wipe σ (own.map (·.2))) H2 fun σ2 H3 => wipe σ2 (own.map (·.2)) = wipe σ (own.map (·.2)) ∧ Same H2 H3 ∧ Blk X scope fun Y => WI Y tg2 i2 σ2 H3 fun J2 H4 => Same H3 H4 ∧ ∃ Y2, ItD D J2 H4 ps.length Y2 ∧
        ∀ (j : Nat) y H5 k z, ps[j]? = some (k, z) → Bt D H4 H5 → Y2 j y H5 → g2 y σ2 H5 fun σ3 H6 => (σ2.length = σ3.length ∧ ∀ (k : Nat) (v : V), σ2[k]? = some (some v) → σ3[k]? = some (some v)) ∧ Blk X scope fun Y => W Y kx σ3 H6 fun u H7 => Same H5 H7 ∧ F.shows k u H7 ∧ Blk X scope fun Y => W Y vx σ3 H7 fun y H8 => Same H7 H8 ∧ y = z) ∧
      ∀ q H2, Same H1 H2 → H1 q = none → H2 q = some (F.mkO (putsL pss.flatten)) → Q (.ref q) H2)
    (hs : ∀ x, foldedSetIterable iter X.env x = pure x := by intro _; rfl) (hs2 : Blk X scope fun Y => ∀ x, foldedSetIterable i2 Y.env x = pure x := by intro _ _ _ _ _ _; rfl) : W X (.DictComp kx vx [⟨tg, iter, [], 0⟩, ⟨tg2, i2, [], 0⟩] scope pos) σ H Q := by
  refine W.of (pe_dc2 (wi1 := WI X tg iter) (wi2 := fun σ2 H2 R => Blk X scope fun Y => WI Y tg2 i2 σ2 H2 R) (g1 := g) (g2 := g2) (tk := fun σ2 H2 K => Blk X scope fun Y => W Y kx σ2 H2 K) (tv := fun σ2 H2 K => Blk X scope fun Y => W Y vx σ2 H2 K) F.ok F.emp hu hc hN WI.pi ok hg hg2
    (fun s H C cl fp => ⟨fun pins s' σ' H' R' I' h' => (h' s H C cl fp).run pins s' I'⟩)
    (fun s H C cl fp => ⟨fun pins s' σ' H' Q' I' h' => (h' s H C cl fp).run pins s' I'⟩) (fun s H C cl fp => ⟨fun pins s' σ' H' Q' I' h' => (h' s H C cl fp).run pins s' I'⟩) hs hs2) ?_
  refine ⟨fun pins s I => thn (h.run pins s I) fun v s1 z => thn z fun it s2 q => ?_⟩
  obtain ⟨it', fp, tn, J, H1, e, I2, T, t0, f0, n, Y, ⟨G, wk, g0, gs⟩, pss, rfl, hn, hel, hend⟩ := q
  refine ⟨it', fp, tn, J, H1, e, I2, T, t0, f0, pss.length, G, _, wk, fun D nD => ⟨fun i H => Same H1 H ∧ H D = some (F.mkO (putsL (pss.take i).flatten)), ⟨same_new nD, upd_same⟩, fun i H _ p => gs _ p.1, fun H p => hend D H p.1 nD (by have := p.2; rw [List.take_length] at this; exact this), ?_⟩⟩
  rintro i x Ha Hb hi ⟨sm, hD⟩ ⟨sab, y⟩
  have hp : pss[i]? = some pss[i] := List.getElem?_eq_getElem hi
  have etk : pss.take (i + 1) = pss.take i ++ [pss[i]] := by rw [List.take_add_one, hp] <;> rfl
  have hle : (pss.take i).flatten.length + (pss[i]).length < sizeLine := by
    have e1 : (pss.take (i + 1)).flatten.length ≤ pss.flatten.length := by
      have e2 : pss.flatten = (pss.take (i + 1)).flatten ++ (pss.drop (i + 1)).flatten := by rw [← List.flatten_append, List.take_append_drop]
      rw [e2, List.length_append]
      exact Nat.le_add_right _ _
    rw [etk, List.flatten_append, List.length_append] at e1
    simp at e1 hn ⊢
    omega
  refine mg _ _ _ _ _ (fun σ2 H3 ⟨z1, s3, z2⟩ => ⟨z1, ?_⟩) (hel D i x Hb _ nD hp (sm.trans sab) y)
  intro s' H' C cl fp'
  refine ⟨fun pins s I => thn ((z2 s' H' C cl fp').run pins s I) fun v s1 z => thn z fun it s2 q => ?_⟩
  obtain ⟨it2, fp2, tn2, J2, H4, e2, I4, T2, t2, f2, s4, Y2, ⟨G2, wk2, g20, gs2⟩, hel2⟩ := q
  have s14 : Same H1 H4 := sm.trans (sab.trans (s3.trans s4))
  refine ⟨it2, fp2, tn2, J2, H4, e2, I4, T2, t2, f2, (pss[i]).length, G2, _, wk2, fun j H => Same H1 H ∧ Bt D H4 H ∧ H D = some (F.mkO (putsL ((pss.take i).flatten ++ (pss[i]).take j))), ⟨s14, Bt.refl _ _, ?_⟩, fun j H _ p => gs2 _ p.2.1, fun H p => ⟨p.1, ?_⟩, ?_⟩
  · rw [List.take_zero, List.append_nil]
    exact (sab.trans (s3.trans s4)) _ _ hD
  · have e := p.2.2
    rw [List.take_length] at e
    rw [etk, List.flatten_append]
    simpa using e
  rintro j y2 Hc Hd hj ⟨sm2, bt2, hD2⟩ ⟨scd, yy⟩
  have hp2 : (pss[i])[j]? = some (((pss[i])[j]).1, ((pss[i])[j]).2) := List.getElem?_eq_getElem hj
  refine mg2 _ _ _ _ _ (fun σ3 H6 ⟨z1, z2⟩ => ⟨z1, ?_⟩) (hel2 j y2 Hd _ _ hp2 (bt2.trans (Bt.of scd)) yy)
  intro s' H' C cl fp'
  refine W.mono (z2 s' H' C cl fp') fun u H7 ⟨s7, sh, z3⟩ => ?_
  intro s' H' C cl fp'
  refine W.mono (z3 s' H' C cl fp') fun y H8 ⟨s8, ey⟩ => ?_
  subst ey
  have s58 := scd.trans (s7.trans s8)
  have hl : (putsL ((pss.take i).flatten ++ (pss[i]).take j)).length < sizeLine := by
    have h1 := putsL_len ((pss.take i).flatten ++ (pss[i]).take j)
    rw [List.length_append, List.length_take] at h1
    omega
  refine ⟨_, F.put H8 D _ _ _ _ (s58 _ _ hD2) (F.st _ _ _ _ sh s8) hl, same_upd (sm2.trans s58) nD, (bt2.trans (Bt.of s58)).upd, ?_⟩
  rw [List.take_add_one, hp2, ← List.append_assoc]
  show (upd H8 D _) D = some (F.mkO (putsL ((pss.take i).flatten ++ (pss[i]).take j ++ [(((pss[i])[j]).1, ((pss[i])[j]).2)])))
  rw [putsL_snoc]
  exact upd_same
end
end Ax
end
section
set_option maxHeartbeats 4000000
/-! a head's facts about own classes; a hook with them -/
namespace Ax
open PySem PySem.Spec PyProof.Rows L2
/-- C.f is a property -/
def prB (K : PySem.W.Frag) (C : Addr) (f : PySem.Str) : Bool := decide (PySem.W.findIn K (.ref C) f = some (some (.ref (He.ma K C f)))) && (decide (PySem.W.specialIn K (.ref (He.ma K C f)) "__get__" = some (some (.builtin "property.__get__"))) &&
  (decide (PySem.W.takesIn K (.ref (He.ma K C f)) = some true) && (match PySem.W.recIn K (He.ma K C f) "property" with
    | some (.ref _ :: _) => true
    | _ => false)))
theorem prB_ok {K : PySem.W.Frag} {C : Addr} {f : PySem.Str} (h : prB K C f = true) : PropOf K C f (He.ma K C f) (He5.wf K C "property" f) := by
  unfold prB at h
  obtain ⟨h1, h⟩ := Bool.and_eq_true_iff.mp h
  obtain ⟨h2, h⟩ := Bool.and_eq_true_iff.mp h
  obtain ⟨h3, h4⟩ := Bool.and_eq_true_iff.mp h
  refine ⟨of_decide_eq_true h1, of_decide_eq_true h2, of_decide_eq_true h3, ?_⟩
  unfold He5.wf
  split at h4
  · rename_i f r e
    exact ⟨r, by rw [e]⟩
  · cases h4
/-- C.m is a classmethod -/
def cmB (K : PySem.W.Frag) (C : Addr) (m : PySem.Str) : Bool := He5.wrapB K C "classmethod" "classmethod.__get__" m && PySem.W.fnIn K (He5.wf K C "classmethod" m)
theorem cmB_ok {K : PySem.W.Frag} {C : Addr} {m : PySem.Str} (h : cmB K C m = true) : ClX.CMet K C (.type "type") m (He.ma K C m) (He5.wf K C "classmethod" m) := by
  obtain ⟨h1, h2⟩ := Bool.and_eq_true_iff.mp h
  exact He5.cmet_of h1 h2
def crB (K : PySem.W.Frag) (C : Addr) : Bool := PySem.W.readsIn K C (.type "type") && decide (PySem.W.specialIn K (.ref C) "__getattribute__" = some (some (.builtin "type.__getattribute__")))
theorem crB_ok {K : PySem.W.Frag} {C : Addr} (h : crB K C = true) : ClX.CRead K C (.type "type") := by
  obtain ⟨h1, h2⟩ := Bool.and_eq_true_iff.mp h
  exact ⟨h1, of_decide_eq_true h2⟩
/-- a plain class, its __class__ not otherwise -/
def kcB (K : PySem.W.Frag) (C : Addr) : Bool := PySem.W.plainGet K C Str.empty && (PySem.W.hasDictIn K C && (PySem.W.plainOver K C && (decide (PySem.W.findIn K (.ref C) "__setattr__" = some (some (.builtin "object.__setattr__"))) &&
  (decide (PySem.W.findIn K (.ref C) "__class__" = some (some (.builtin "object.__class__"))) && (decide (PySem.W.specialIn K (.builtin "object.__class__") "__get__" = some (some (.builtin "getset_descriptor.__get__"))) &&
  (decide (PySem.W.takesIn K (.builtin "object.__class__") = some true) && decide (PySem.W.mroIn K C (.type "object") = some true)))))))
theorem kcB_ok {K : PySem.W.Frag} {C : Addr} (h : kcB K C = true) : KC K C := by
  unfold kcB at h
  obtain ⟨h1, h⟩ := Bool.and_eq_true_iff.mp h
  obtain ⟨h2, h⟩ := Bool.and_eq_true_iff.mp h
  obtain ⟨h3, h⟩ := Bool.and_eq_true_iff.mp h
  obtain ⟨h4, h⟩ := Bool.and_eq_true_iff.mp h
  obtain ⟨h5, h⟩ := Bool.and_eq_true_iff.mp h
  obtain ⟨h6, h⟩ := Bool.and_eq_true_iff.mp h
  obtain ⟨h7, h8⟩ := Bool.and_eq_true_iff.mp h
  exact ⟨⟨h1, h2, h3, of_decide_eq_true h4⟩, of_decide_eq_true h5, of_decide_eq_true h6, of_decide_eq_true h7, of_decide_eq_true h8⟩
def kitB2 (K : PySem.W.Frag) (C : Value) (v : Value) (b : Bool) : Bool := decide (PySem.W.kitOne K C v = some b)
theorem kitB2_ok {K : PySem.W.Frag} {C v : Value} {b : Bool} (h : kitB2 K C v b = true) : PySem.W.kitOne K C v = some b := of_decide_eq_true h
/-- a tuple of the text without own attributes -/
def tdB (K : PySem.W.Frag) (a : Addr) : Bool := match K.lookup a with
  | some ⟨.type c, none, _, _⟩ => decide (c = "tuple")
  | _ => false
theorem tdB_ok {K : PySem.W.Frag} {a : Addr} (h : tdB K a = true) : ∃ o, K.lookup a = some o ∧ o.cls = .type "tuple" ∧ o.dict = none := by
  unfold tdB at h
  split at h
  · rename_i c dt sl e
    exact ⟨_, e, congrArg Value.type (of_decide_eq_true h), rfl⟩
  · cases h
/-! ### methods with a star parameter, with ** -/
section
open StX
variable {P : Program} {w : World} {K : PySem.W.Frag} {mg : Str → Option Value} {base : Heap}
theorem none_dfl {x q : Str} {st : Stmt} {f : Addr} {fd : FuncData} (F : FunD K x q (defArgs st) (defBody st) (defScope st) [] [] f fd) :
    ∃ (oc : Value) (od : Option Addr) (kV doc pm : Value) (an : Option Addr) (cdv ct : Value) (osl : Array (Option Value)), K.lookup f = some ⟨oc, od, .func (PySem.W.fnOf x q (defArgs st) (defBody st) (defScope st) .none kV doc pm an cdv ct), osl⟩ ∧ PySem.W.codeIn K cdv q = true := by
  obtain ⟨oc, od, dV, kV, doc, pm, an, cdv, ct, osl, e, l, c, hd, _⟩ := F.ex
  rcases hd with ⟨_, e2⟩ | ⟨e2, _⟩
  · subst e2
    subst e
    exact ⟨oc, od, kV, doc, pm, an, cdv, ct, osl, l, c⟩
  · exact absurd rfl e2
theorem meth_okStar {x q p1 p2 pv : Str} {st : Stmt} {N : List Str} {k : Nat} {sp : Sp} {f : Addr} (T : ∃ fd, FunD K x q (defArgs st) (defBody st) (defScope st) [] [] f fd) (S : FnScope N ([p1, p2] ++ [pv]) (defScope st))
    (h0 : ∀ (kV doc pm : Value) (an : Option Addr) (cdv ct : Value) (a b : Value), bindArgs (PySem.W.fnOf x q (defArgs st) (defBody st) (defScope st) .none kV doc pm an cdv ct) ⟨[a, b], []⟩ = (newTuple [] >>= fun t => pure [(p1, a), (p2, b), (pv, t)]))
    (h1 : ∀ (kV doc pm : Value) (an : Option Addr) (cdv ct : Value) (a b r : Value) (rs : List Value), bindArgs (PySem.W.fnOf x q (defArgs st) (defBody st) (defScope st) .none kV doc pm an cdv ct) ⟨a :: b :: r :: rs, []⟩ = (newTuple (r :: rs) >>= fun t => pure [(p1, a), (p2, b), (pv, t)]))
    (body : ∀ (cdv : Value) (A : Around) (outer : List Env) (s : Shared) (H : Hp) (vs : List V) (Q : VK) (E : XK), Room k (A.deeper (envOfC q (defScope st) s.heap.objs.size f cdv)) → sp vs H Q E →
      WB (cxOf (L2.CX P w) P w K mg base N q (defScope st) f cdv A outer s H E) (defBody st) { nx := fun _ H' => Q .non H', rt := Q } (start N vs) H) :
    FnP P w K mg base (k + 1) f (fun vs H Q E => ∃ a b rest, vs = a :: b :: rest ∧ rest.length ≤ sizeLine ∧ ∀ p, H p = none → sp [a, b, .ref p] (upd H p (.tup rest)) Q E) := by
  obtain ⟨fd, F⟩ := T
  obtain ⟨oc, od, kV, doc, pm, an, cdv, ct, osl, lk, hcd⟩ := none_dfl F
  have Z := fn_star (P := P) (w := w) (mg := mg) (base := base) (ps := [p1, p2]) (pv := pv) (k := k) (sp := sp) lk hcd S cxUp (bind_star2 (B := fun us => bindArgs (PySem.W.fnOf x q (defArgs st) (defBody st) (defScope st) .none kV doc pm an cdv ct) ⟨us, []⟩) (fun a b => h0 kV doc pm an cdv ct a b) fun a b r rs => h1 kV doc pm an cdv ct a b r rs)
    fun A outer s H vs Q E hr h => ⟨_, WB.pss, body cdv A outer s H vs Q E hr h⟩
  exact Z.imp fun vs H Q E ⟨a, b, rest, e, z, q⟩ => ⟨[a, b], rest, e, rfl, z, q⟩
/-- def m(self, a, **d), called without keywords -/
theorem meth_okKw {x q pd : Str} {ps : List Str} {st : Stmt} {N : List Str} {k : Nat} {sp : Sp} {f : Addr} (T : ∃ fd, FunD K x q (defArgs st) (defBody st) (defScope st) [] [] f fd) (S : FnScope N (ps ++ [pd]) (defScope st))
    (hb : ∀ (kV doc pm : Value) (an : Option Addr) (cdv ct : Value) (us : List Value), us.length = ps.length → bindArgs (PySem.W.fnOf x q (defArgs st) (defBody st) (defScope st) .none kV doc pm an cdv ct) ⟨us, []⟩ = ((alloc ({ cls := .type "dict", data := .dict #[] } : Obj) : Sem Addr) >>= fun d => pure (ps.zip us ++ [(pd, Value.ref d)])))
    (body : ∀ (cdv : Value) (A : Around) (outer : List Env) (s : Shared) (H : Hp) (vs : List V) (Q : VK) (E : XK), Room k (A.deeper (envOfC q (defScope st) s.heap.objs.size f cdv)) → sp vs H Q E →
      WB (cxOf (L2.CX P w) P w K mg base N q (defScope st) f cdv A outer s H E) (defBody st) { nx := fun _ H' => Q .non H', rt := Q } (start N vs) H) :
    FnP P w K mg base (k + 1) f (fun vs H Q E => vs.length = ps.length ∧ ∀ p, H p = none → sp (vs ++ [.ref p]) (upd H p (.dK [])) Q E) := by
  obtain ⟨fd, F⟩ := T
  obtain ⟨oc, od, kV, doc, pm, an, cdv, ct, osl, lk, hcd⟩ := none_dfl F
  intro A outer s H us vs Q E hr e0 r ⟨hl, hq⟩
  have hn : H s.heap.objs.size = Option.none := e0.hok.fresh (Nat.le_refl _)
  have hl1 : us.length = ps.length := by rw [← r.length]; exact hl
  refine run_bnd lk hcd S hr e0 (G := fun xs H2 => ∃ d, H d = Option.none ∧ xs = vs ++ [V.ref d] ∧ H2 = upd H d (.dK [])) (fun A' Ex Q' h => ?_) fun s2 H2 xs ⟨d, hd, ex, eH⟩ hr' => ?_
  · rw [hb kV doc pm an cdv ct us hl1]
    refine wpAny_bind (wpAny_alloc (wpAny_pure ?_))
    have e2 := env0_laid (u := .dK []) (o := ({ cls := .type "dict", data := .dict #[] } : Obj)) e0 (dk_empty _ (env0_big e0))
    have un := un_laid (fs := frs outer) (s := s) (o := ({ cls := .type "dict", data := .dict #[] } : Obj)) (u := .dK []) hn
    have z := h _ _ (vs ++ [V.ref s.heap.objs.size]) (us ++ [Value.ref s.heap.objs.size]) e2 un rfl (fun e s' => cxUp outer s H _ _ E e s' un (fun b o q => Heap.get?_push_of_some _ q) rfl) (r.append (.cons rfl .nil))
      (by rw [List.length_append, List.length_append, hl] <;> rfl) ⟨_, hn, rfl, rfl⟩
    rw [List.zip_append hl1.symm] at z
    exact z
  · subst ex eH
    exact ⟨_, WB.pss, body cdv A outer s2 _ _ Q E hr' (hq d hd)⟩
end
/-! ### the hook -/
abbrev AlY : Type := He.AlD × Bool
def obsY (n : Nat) (fa : List He.Fa) (fn : List He5.DefA) (ex : PySem.W.Frag → Bool) (g : Addr → Option Obj) : AlY := (He5.obsA fa fn (He.frG g (He5.asA g n)), ex (He.frG g (He5.asA g n)))
def hookY (n : Nat) (fa : List He.Fa) (fn : List He5.DefA) (ex : PySem.W.Frag → Bool) : PySem.W.Hook where
  α := AlY
  obs := fun s => obsY n fa fn ex s.heap.get?
  val := fun _ => (He5.valA fn, true)
  says := fun _ h => ∃ K : PySem.W.Frag, K.In h ∧ He5.SaysA fa fn K ∧ ex K = true
  of := fun _ _ e => ⟨_, He.frG_in, congrArg (fun z : AlY => z.1) e, congrArg (fun z : AlY => z.2) e⟩
  keeps := fun _ _ _ ⟨K, hK, c⟩ k => ⟨K, PySem.W.Frag.In.keeps hK k, c⟩
theorem obsY_eq {n : Nat} {fa : List He.Fa} {fn : List He5.DefA} {ex : PySem.W.Frag → Bool} {g : Addr → Option Obj} {s : Shared} (h : ∀ a, g a = s.heap.get? a) : obsY n fa fn ex g = (hookY n fa fn ex).obs s := by
  have e : g = s.heap.get? := funext h
  rw [e] <;> rfl
end Ax
end
section
set_option maxHeartbeats 4000000
namespace Ax
open PySem PySem.Spec PyProof.Rows L2
def top (i : Nat) : Stmt := PySem.Challenge.pw_askable_k02_picked_and_mapped.main.body.getD i (.Pass ⟨0, 0, 0, 0⟩)
abbrev s_is_integer : Stmt := top 10
abbrev n_is_integer : List Str := ["value"]
theorem sc_is_integer : FnScope n_is_integer ["value"] (defScope s_is_integer) := ⟨rfl, rfl, rfl, by decide +kernel, rfl, by decide +kernel, by decide +kernel⟩
abbrev s_is_between : Stmt := top 11
abbrev n_is_between : List Str := ["value", "least", "most"]
theorem sc_is_between : FnScope n_is_between ["value", "least", "most"] (defScope s_is_between) := ⟨rfl, rfl, rfl, by decide +kernel, rfl, by decide +kernel, by decide +kernel⟩
abbrev s_is_name : Stmt := top 12
abbrev n_is_name : List Str := ["value", "sign"]
theorem sc_is_name : FnScope n_is_name ["value"] (defScope s_is_name) := ⟨rfl, rfl, rfl, by decide +kernel, rfl, by decide +kernel, by decide +kernel⟩
abbrev s_is_row : Stmt := top 13
abbrev n_is_row : List Str := ["value", "name"]
theorem sc_is_row : FnScope n_is_row ["value"] (defScope s_is_row) := ⟨rfl, rfl, rfl, by decide +kernel, rfl, by decide +kernel, by decide +kernel⟩
abbrev s_are_values : Stmt := top 14
abbrev n_are_values : List Str := ["value", "name"]
theorem sc_are_values : FnScope n_are_values ["value"] (defScope s_are_values) := ⟨rfl, rfl, rfl, by decide +kernel, rfl, by decide +kernel, by decide +kernel⟩
abbrev s_require_columns : Stmt := top 15
abbrev n_require_columns : List Str := ["columns"]
theorem sc_require_columns : FnScope n_require_columns ["columns"] (defScope s_require_columns) := ⟨rfl, rfl, rfl, by decide +kernel, rfl, by decide +kernel, by decide +kernel⟩
abbrev s_rows_over : Stmt := top 16
abbrev n_rows_over : List Str := ["values", "columns", "found", "turn", "row", "value"]
theorem sc_rows_over : FnScope n_rows_over ["values", "columns"] (defScope s_rows_over) := ⟨rfl, rfl, rfl, by decide +kernel, rfl, by decide +kernel, by decide +kernel⟩
abbrev s_whole_table : Stmt := top 17
abbrev n_whole_table : List Str := ["values", "columns"]
theorem sc_whole_table : FnScope n_whole_table ["values", "columns"] (defScope s_whole_table) := ⟨rfl, rfl, rfl, by decide +kernel, rfl, by decide +kernel, by decide +kernel⟩
abbrev s_table_in : Stmt := top 18
abbrev n_table_in : List Str := ["columns", "rows"]
theorem sc_table_in : FnScope n_table_in ["columns", "rows"] (defScope s_table_in) := ⟨rfl, rfl, rfl, by decide +kernel, rfl, by decide +kernel, by decide +kernel⟩
abbrev s_is_dict_from : Stmt := top 20
abbrev n_is_dict_from : List Str := ["value", "names", "name"]
theorem sc_is_dict_from : FnScope n_is_dict_from ["value", "names"] (defScope s_is_dict_from) := ⟨rfl, rfl, rfl, by decide +kernel, rfl, by decide +kernel, by decide +kernel⟩
abbrev s__law_dice : Stmt := top 22
abbrev n__law_dice : List Str := ["script", "spot", "cell", "great", "blend"]
theorem sc__law_dice : FnScope n__law_dice ["script", "spot"] (defScope s__law_dice) := ⟨rfl, rfl, rfl, by decide +kernel, rfl, by decide +kernel, by decide +kernel⟩
abbrev s__law_roll : Stmt := top 23
abbrev n__law_roll : List Str := ["dice", "size", "found", "one", "two"]
theorem sc__law_roll : FnScope n__law_roll ["dice", "size"] (defScope s__law_roll) := ⟨rfl, rfl, rfl, by decide +kernel, rfl, by decide +kernel, by decide +kernel⟩
abbrev s__law_pick : Stmt := top 24
abbrev n__law_pick : List Str := ["dice", "items"]
theorem sc__law_pick : FnScope n__law_pick ["dice", "items"] (defScope s__law_pick) := ⟨rfl, rfl, rfl, by decide +kernel, rfl, by decide +kernel, by decide +kernel⟩
abbrev s__law_mixed : Stmt := top 25
abbrev n__law_mixed : List Str := ["dice", "items", "left", "found"]
theorem sc__law_mixed : FnScope n__law_mixed ["dice", "items"] (defScope s__law_mixed) := ⟨rfl, rfl, rfl, by decide +kernel, rfl, by decide +kernel, by decide +kernel⟩
abbrev s__law_some : Stmt := top 26
abbrev n__law_some : List Str := ["dice", "items", "few", "item"]
theorem sc__law_some : FnScope n__law_some ["dice", "items", "few"] (defScope s__law_some) := ⟨rfl, rfl, rfl, by decide +kernel, rfl, by decide +kernel, by decide +kernel⟩
abbrev s__law_tuples : Stmt := top 27
abbrev n__law_tuples : List Str := ["items", "columns", "found", "turn", "longer", "one", "item"]
theorem sc__law_tuples : FnScope n__law_tuples ["items", "columns"] (defScope s__law_tuples) := ⟨rfl, rfl, rfl, by decide +kernel, rfl, by decide +kernel, by decide +kernel⟩
abbrev s__law_picked : Stmt := top 28
abbrev n__law_picked : List Str := ["made", "spots"]
theorem sc__law_picked : FnScope n__law_picked ["made", "spots"] (defScope s__law_picked) := ⟨rfl, rfl, rfl, by decide +kernel, rfl, by decide +kernel, by decide +kernel⟩
abbrev s__law_drawn_table : Stmt := top 29
abbrev n__law_drawn_table : List Str := ["dice", "names", "columns"]
theorem sc__law_drawn_table : FnScope n__law_drawn_table ["dice", "names", "columns"] (defScope s__law_drawn_table) := ⟨rfl, rfl, rfl, by decide +kernel, rfl, by decide +kernel, by decide +kernel⟩
abbrev s__law_names_of : Stmt := top 30
abbrev n__law_names_of : List Str := ["rows", "found", "row"]
theorem sc__law_names_of : FnScope n__law_names_of ["rows"] (defScope s__law_names_of) := ⟨rfl, rfl, rfl, by decide +kernel, rfl, by decide +kernel, by decide +kernel⟩
abbrev s__law_moved : Stmt := top 31
abbrev n__law_moved : List Str := ["rows", "mapping", "row", "name"]
theorem sc__law_moved : FnScope n__law_moved ["rows", "mapping"] (defScope s__law_moved) := ⟨rfl, rfl, rfl, by decide +kernel, rfl, by decide +kernel, by decide +kernel⟩
abbrev s__law_picks_right : Stmt := top 32
abbrev n__law_picks_right : List Str := ["dice", "made", "columns", "rows", "turn", "spots", "found", "due", "place", "row", "spot"]
theorem sc__law_picks_right : FnScope n__law_picks_right ["dice", "made", "columns", "rows"] (defScope s__law_picks_right) := ⟨rfl, rfl, rfl, by decide +kernel, rfl, by decide +kernel, by decide +kernel⟩
abbrev s__law_maps_right : Stmt := top 33
abbrev n__law_maps_right : List Str := ["dice", "made", "columns", "rows", "names", "first", "found", "second", "both", "name"]
theorem sc__law_maps_right : FnScope n__law_maps_right ["dice", "made", "columns", "rows"] (defScope s__law_maps_right) := ⟨rfl, rfl, rfl, by decide +kernel, rfl, by decide +kernel, by decide +kernel⟩
abbrev s__law_right : Stmt := top 34
abbrev n__law_right : List Str := ["dice", "columns", "names", "rows", "made", "whole"]
theorem sc__law_right : FnScope n__law_right ["dice"] (defScope s__law_right) := ⟨rfl, rfl, rfl, by decide +kernel, rfl, by decide +kernel, by decide +kernel⟩
abbrev s_law : Stmt := top 35
abbrev n_law : List Str := ["script", "spot", "dice", "turn", "some", "six", "told", "value"]
theorem sc_law : FnScope n_law ["script"] (defScope s_law) := ⟨rfl, rfl, rfl, by decide +kernel, rfl, by decide +kernel, by decide +kernel⟩
def meth (s : Stmt) (j : Nat) : Stmt := match s with
  | .ClassDef _ _ _ b _ _ _ _ _ _ _ => b.getD j (.Pass ⟨0, 0, 0, 0⟩)
  | _ => .Pass ⟨0, 0, 0, 0⟩
abbrev s_Table___init__ : Stmt := meth (top 19) 0
abbrev n_Table___init__ : List Str := ["self", "columns", "rows", "row", "place"]
theorem sc_Table___init__ : FnScope n_Table___init__ ["self", "columns", "rows"] (defScope s_Table___init__) := ⟨rfl, rfl, rfl, by decide +kernel, rfl, by decide +kernel, by decide +kernel⟩
abbrev s_Table_of : Stmt := meth (top 19) 1
abbrev n_Table_of : List Str := ["cls", "columns", "rows"]
theorem sc_Table_of : FnScope n_Table_of ["cls", "columns", "rows"] (defScope s_Table_of) := ⟨rfl, rfl, rfl, by decide +kernel, rfl, by decide +kernel, by decide +kernel⟩
abbrev s_Table_columns : Stmt := meth (top 19) 2
abbrev n_Table_columns : List Str := ["self"]
theorem sc_Table_columns : FnScope n_Table_columns ["self"] (defScope s_Table_columns) := ⟨rfl, rfl, rfl, by decide +kernel, rfl, by decide +kernel, by decide +kernel⟩
abbrev s_Table_rows : Stmt := meth (top 19) 3
abbrev n_Table_rows : List Str := ["self"]
theorem sc_Table_rows : FnScope n_Table_rows ["self"] (defScope s_Table_rows) := ⟨rfl, rfl, rfl, by decide +kernel, rfl, by decide +kernel, by decide +kernel⟩
abbrev s_Table_domain : Stmt := meth (top 19) 4
abbrev n_Table_domain : List Str := ["self", "row", "name"]
theorem sc_Table_domain : FnScope n_Table_domain ["self"] (defScope s_Table_domain) := ⟨rfl, rfl, rfl, by decide +kernel, rfl, by decide +kernel, by decide +kernel⟩
abbrev s_Table_is_like : Stmt := meth (top 19) 5
abbrev n_Table_is_like : List Str := ["self", "value"]
theorem sc_Table_is_like : FnScope n_Table_is_like ["self", "value"] (defScope s_Table_is_like) := ⟨rfl, rfl, rfl, by decide +kernel, rfl, by decide +kernel, by decide +kernel⟩
abbrev s_Table_is_within : Stmt := meth (top 19) 7
abbrev n_Table_is_within : List Str := ["self", "value", "row"]
theorem sc_Table_is_within : FnScope n_Table_is_within ["self", "value"] (defScope s_Table_is_within) := ⟨rfl, rfl, rfl, by decide +kernel, rfl, by decide +kernel, by decide +kernel⟩
abbrev s_Table_picked : Stmt := meth (top 19) 8
abbrev n_Table_picked : List Str := ["self", "positions", "position", "row"]
theorem sc_Table_picked : FnScope n_Table_picked ["self", "positions"] (defScope s_Table_picked) := ⟨rfl, rfl, rfl, by decide +kernel, rfl, by decide +kernel, by decide +kernel⟩
abbrev s_Table_mapped : Stmt := meth (top 19) 9
abbrev n_Table_mapped : List Str := ["self", "mapping", "name", "row"]
theorem sc_Table_mapped : FnScope n_Table_mapped ["self", "mapping"] (defScope s_Table_mapped) := ⟨rfl, rfl, rfl, by decide +kernel, rfl, by decide +kernel, by decide +kernel⟩
abbrev s_Table___len__ : Stmt := meth (top 19) 15
abbrev n_Table___len__ : List Str := ["self"]
theorem sc_Table___len__ : FnScope n_Table___len__ ["self"] (defScope s_Table___len__) := ⟨rfl, rfl, rfl, by decide +kernel, rfl, by decide +kernel, by decide +kernel⟩
abbrev s_Table___eq__ : Stmt := meth (top 19) 16
abbrev n_Table___eq__ : List Str := ["self", "other"]
theorem sc_Table___eq__ : FnScope n_Table___eq__ ["self", "other"] (defScope s_Table___eq__) := ⟨rfl, rfl, rfl, by decide +kernel, rfl, by decide +kernel, by decide +kernel⟩
def exT (K : PySem.W.Frag) : Bool := true
/-- what the top has written -/
structure Txt (K : PySem.W.Frag) (mg : Str → Option Value) : Prop where
  f_is_integer : TxtF K mg "is_integer" s_is_integer
  f_is_between : TxtF K mg "is_between" s_is_between
  f_is_name : TxtF K mg "is_name" s_is_name
  f_is_row : TxtF K mg "is_row" s_is_row
  f_are_values : TxtF K mg "are_values" s_are_values
  f_require_columns : TxtF K mg "require_columns" s_require_columns
  f_rows_over : TxtF K mg "rows_over" s_rows_over
  f_whole_table : TxtF K mg "whole_table" s_whole_table
  f_table_in : TxtF K mg "table_in" s_table_in
  f_is_dict_from : TxtF K mg "is_dict_from" s_is_dict_from
  f__law_dice : TxtF K mg "_law_dice" s__law_dice
  f__law_roll : TxtF K mg "_law_roll" s__law_roll
  f__law_pick : TxtF K mg "_law_pick" s__law_pick
  f__law_mixed : TxtF K mg "_law_mixed" s__law_mixed
  f__law_some : TxtF K mg "_law_some" s__law_some
  f__law_tuples : TxtF K mg "_law_tuples" s__law_tuples
  f__law_picked : TxtF K mg "_law_picked" s__law_picked
  f__law_drawn_table : TxtF K mg "_law_drawn_table" s__law_drawn_table
  f__law_names_of : TxtF K mg "_law_names_of" s__law_names_of
  f__law_moved : TxtF K mg "_law_moved" s__law_moved
  f__law_picks_right : TxtF K mg "_law_picks_right" s__law_picks_right
  f__law_maps_right : TxtF K mg "_law_maps_right" s__law_maps_right
  f__law_right : TxtF K mg "_law_right" s__law_right
  f_law : TxtF K mg "law" s_law
  c_ALPHABET : ∃ u, mg "ALPHABET" = some u ∧ RelV (.str "abcdefghijklmnopqrstuvwxyz") u
  c_MAX_LETTERS : ∃ u, mg "MAX_LETTERS" = some u ∧ RelV (.int 8) u
  c_MAX_COLUMNS : ∃ u, mg "MAX_COLUMNS" = some u ∧ RelV (.int 3) u
  c_MOST_VALUES : ∃ u, mg "MOST_VALUES" = some u ∧ RelV (.int 6) u
  g_AskError : mg "AskError" = some (.ref (He.ga K "AskError"))
  g_InvalidTable : mg "InvalidTable" = some (.ref (He.ga K "InvalidTable"))
  g_InvalidOperation : mg "InvalidOperation" = some (.ref (He.ga K "InvalidOperation"))
  g_InvalidNumber : mg "InvalidNumber" = some (.ref (He.ga K "InvalidNumber"))
  g_Table : mg "Table" = some (.ref (He.ga K "Table"))
  f_Table___init__ : ∃ fd, FunD K "__init__" "Table.__init__" (defArgs s_Table___init__) (defBody s_Table___init__) (defScope s_Table___init__) [] [] (He.ma K (He.ga K "Table") "__init__") fd
  m_Table___init__ : Meth K (He.ga K "Table") "__init__" (He.ma K (He.ga K "Table") "__init__")
  f_Table_of : ∃ fd, FunD K "of" "Table.of" (defArgs s_Table_of) (defBody s_Table_of) (defScope s_Table_of) [] [] (He5.wf K (He.ga K "Table") "classmethod" "of") fd
  f_Table_columns : ∃ fd, FunD K "columns" "Table.columns" (defArgs s_Table_columns) (defBody s_Table_columns) (defScope s_Table_columns) [] [] (He5.wf K (He.ga K "Table") "property" "columns") fd
  f_Table_rows : ∃ fd, FunD K "rows" "Table.rows" (defArgs s_Table_rows) (defBody s_Table_rows) (defScope s_Table_rows) [] [] (He5.wf K (He.ga K "Table") "property" "rows") fd
  f_Table_domain : ∃ fd, FunD K "domain" "Table.domain" (defArgs s_Table_domain) (defBody s_Table_domain) (defScope s_Table_domain) [] [] (He5.wf K (He.ga K "Table") "property" "domain") fd
  f_Table_is_like : ∃ fd, FunD K "is_like" "Table.is_like" (defArgs s_Table_is_like) (defBody s_Table_is_like) (defScope s_Table_is_like) [] [] (He.ma K (He.ga K "Table") "is_like") fd
  m_Table_is_like : Meth K (He.ga K "Table") "is_like" (He.ma K (He.ga K "Table") "is_like")
  f_Table_is_within : ∃ fd, FunD K "is_within" "Table.is_within" (defArgs s_Table_is_within) (defBody s_Table_is_within) (defScope s_Table_is_within) [] [] (He.ma K (He.ga K "Table") "is_within") fd
  m_Table_is_within : Meth K (He.ga K "Table") "is_within" (He.ma K (He.ga K "Table") "is_within")
  f_Table_picked : ∃ fd, FunD K "picked" "Table.picked" (defArgs s_Table_picked) (defBody s_Table_picked) (defScope s_Table_picked) [] [] (He.ma K (He.ga K "Table") "picked") fd
  m_Table_picked : Meth K (He.ga K "Table") "picked" (He.ma K (He.ga K "Table") "picked")
  f_Table_mapped : ∃ fd, FunD K "mapped" "Table.mapped" (defArgs s_Table_mapped) (defBody s_Table_mapped) (defScope s_Table_mapped) [] [] (He.ma K (He.ga K "Table") "mapped") fd
  m_Table_mapped : Meth K (He.ga K "Table") "mapped" (He.ma K (He.ga K "Table") "mapped")
  f_Table___len__ : ∃ fd, FunD K "__len__" "Table.__len__" (defArgs s_Table___len__) (defBody s_Table___len__) (defScope s_Table___len__) [] [] (He.ma K (He.ga K "Table") "__len__") fd
  m_Table___len__ : Meth K (He.ga K "Table") "__len__" (He.ma K (He.ga K "Table") "__len__")
  f_Table___eq__ : ∃ fd, FunD K "__eq__" "Table.__eq__" (defArgs s_Table___eq__) (defBody s_Table___eq__) (defScope s_Table___eq__) [] [] (He.ma K (He.ga K "Table") "__eq__") fd
  m_Table___eq__ : Meth K (He.ga K "Table") "__eq__" (He.ma K (He.ga K "Table") "__eq__")
  k_Table : Mk K (He.ga K "Table") (He.ma K (He.ga K "Table") "__init__")
  a_Table_own_columns : NoAttr K (He.ga K "Table") "own_columns"
  a_Table_own_rows : NoAttr K (He.ga K "Table") "own_rows"
  a_Table_own_places : NoAttr K (He.ga K "Table") "own_places"
  kc_Table : KC K (He.ga K "Table")
  cr_Table : ClX.CRead K (He.ga K "Table") (.type "type")
  cm_Table_of : ClX.CMet K (He.ga K "Table") (.type "type") "of" (He.ma K (He.ga K "Table") "of") (He5.wf K (He.ga K "Table") "classmethod" "of")
  p_Table_columns : PropOf K (He.ga K "Table") "columns" (He.ma K (He.ga K "Table") "columns") (He5.wf K (He.ga K "Table") "property" "columns")
  p_Table_rows : PropOf K (He.ga K "Table") "rows" (He.ma K (He.ga K "Table") "rows") (He5.wf K (He.ga K "Table") "property" "rows")
  p_Table_domain : PropOf K (He.ga K "Table") "domain" (He.ma K (He.ga K "Table") "domain") (He5.wf K (He.ga K "Table") "property" "domain")
  i_Table_Table : PySem.W.kitOne K (.ref (He.ga K "Table")) (.ref (He.ga K "Table")) = some true
  b_Table___ne__ : PySem.W.findIn K (.ref (He.ga K "Table")) "__ne__" = some (some (.builtin "object.__ne__"))
  z_IndexError : mg "IndexError" = none
  z_ValueError : mg "ValueError" = none
  z_abs : mg "abs" = none
  z_all : mg "all" = none
  z_bool : mg "bool" = none
  z_classmethod : mg "classmethod" = none
  z_dict : mg "dict" = none
  z_enumerate : mg "enumerate" = none
  z_int : mg "int" = none
  z_isinstance : mg "isinstance" = none
  z_iter : mg "iter" = none
  z_len : mg "len" = none
  z_list : mg "list" = none
  z_max : mg "max" = none
  z_min : mg "min" = none
  z_property : mg "property" = none
  z_range : mg "range" = none
  z_repr : mg "repr" = none
  z_set : mg "set" = none
  z_sorted : mg "sorted" = none
  z_str : mg "str" = none
  z_tuple : mg "tuple" = none
  e_AskError : ErrC K mg "AskError" (He.ga K "AskError")
  e_InvalidTable : ErrC K mg "InvalidTable" (He.ga K "InvalidTable")
  e_InvalidOperation : ErrC K mg "InvalidOperation" (He.ga K "InvalidOperation")
end Ax
end
section
set_option maxHeartbeats 0
namespace Ax
open PySem PySem.Spec PyProof.Rows L2
def fnL : List He5.DefA := [⟨fun K => He.fAd K ("is_integer", none), "is_integer", "is_integer", defArgs s_is_integer, defBody s_is_integer, defScope s_is_integer, [], []⟩, ⟨fun K => He.fAd K ("is_between", none), "is_between", "is_between", defArgs s_is_between, defBody s_is_between, defScope s_is_between, [], []⟩, ⟨fun K => He.fAd K ("is_name", none), "is_name", "is_name", defArgs s_is_name, defBody s_is_name, defScope s_is_name, [], []⟩, ⟨fun K => He.fAd K ("is_row", none), "is_row", "is_row", defArgs s_is_row, defBody s_is_row, defScope s_is_row, [], []⟩, ⟨fun K => He.fAd K ("are_values", none), "are_values", "are_values", defArgs s_are_values, defBody s_are_values, defScope s_are_values, [], []⟩, ⟨fun K => He.fAd K ("require_columns", none), "require_columns", "require_columns", defArgs s_require_columns, defBody s_require_columns, defScope s_require_columns, [], []⟩, ⟨fun K => He.fAd K ("rows_over", none), "rows_over", "rows_over", defArgs s_rows_over, defBody s_rows_over, defScope s_rows_over, [], []⟩, ⟨fun K => He.fAd K ("whole_table", none), "whole_table", "whole_table", defArgs s_whole_table, defBody s_whole_table, defScope s_whole_table, [], []⟩, ⟨fun K => He.fAd K ("table_in", none), "table_in", "table_in", defArgs s_table_in, defBody s_table_in, defScope s_table_in, [], []⟩, ⟨fun K => He.fAd K ("is_dict_from", none), "is_dict_from", "is_dict_from", defArgs s_is_dict_from, defBody s_is_dict_from, defScope s_is_dict_from, [], []⟩, ⟨fun K => He.fAd K ("_law_dice", none), "_law_dice", "_law_dice", defArgs s__law_dice, defBody s__law_dice, defScope s__law_dice, [], []⟩, ⟨fun K => He.fAd K ("_law_roll", none), "_law_roll", "_law_roll", defArgs s__law_roll, defBody s__law_roll, defScope s__law_roll, [], []⟩, ⟨fun K => He.fAd K ("_law_pick", none), "_law_pick", "_law_pick", defArgs s__law_pick, defBody s__law_pick, defScope s__law_pick, [], []⟩, ⟨fun K => He.fAd K ("_law_mixed", none), "_law_mixed", "_law_mixed", defArgs s__law_mixed, defBody s__law_mixed, defScope s__law_mixed, [], []⟩, ⟨fun K => He.fAd K ("_law_some", none), "_law_some", "_law_some", defArgs s__law_some, defBody s__law_some, defScope s__law_some, [], []⟩, ⟨fun K => He.fAd K ("_law_tuples", none), "_law_tuples", "_law_tuples", defArgs s__law_tuples, defBody s__law_tuples, defScope s__law_tuples, [], []⟩, ⟨fun K => He.fAd K ("_law_picked", none), "_law_picked", "_law_picked", defArgs s__law_picked, defBody s__law_picked, defScope s__law_picked, [], []⟩, ⟨fun K => He.fAd K ("_law_drawn_table", none), "_law_drawn_table", "_law_drawn_table", defArgs s__law_drawn_table, defBody s__law_drawn_table, defScope s__law_drawn_table, [], []⟩, ⟨fun K => He.fAd K ("_law_names_of", none), "_law_names_of", "_law_names_of", defArgs s__law_names_of, defBody s__law_names_of, defScope s__law_names_of, [], []⟩, ⟨fun K => He.fAd K ("_law_moved", none), "_law_moved", "_law_moved", defArgs s__law_moved, defBody s__law_moved, defScope s__law_moved, [], []⟩, ⟨fun K => He.fAd K ("_law_picks_right", none), "_law_picks_right", "_law_picks_right", defArgs s__law_picks_right, defBody s__law_picks_right, defScope s__law_picks_right, [], []⟩, ⟨fun K => He.fAd K ("_law_maps_right", none), "_law_maps_right", "_law_maps_right", defArgs s__law_maps_right, defBody s__law_maps_right, defScope s__law_maps_right, [], []⟩, ⟨fun K => He.fAd K ("_law_right", none), "_law_right", "_law_right", defArgs s__law_right, defBody s__law_right, defScope s__law_right, [], []⟩, ⟨fun K => He.fAd K ("law", none), "law", "law", defArgs s_law, defBody s_law, defScope s_law, [], []⟩, ⟨fun K => He.ma K (He.ga K "Table") "__init__", "__init__", "Table.__init__", defArgs s_Table___init__, defBody s_Table___init__, defScope s_Table___init__, [], []⟩, ⟨fun K => He5.wf K (He.ga K "Table") "classmethod" "of", "of", "Table.of", defArgs s_Table_of, defBody s_Table_of, defScope s_Table_of, [], []⟩, ⟨fun K => He5.wf K (He.ga K "Table") "property" "columns", "columns", "Table.columns", defArgs s_Table_columns, defBody s_Table_columns, defScope s_Table_columns, [], []⟩, ⟨fun K => He5.wf K (He.ga K "Table") "property" "rows", "rows", "Table.rows", defArgs s_Table_rows, defBody s_Table_rows, defScope s_Table_rows, [], []⟩, ⟨fun K => He5.wf K (He.ga K "Table") "property" "domain", "domain", "Table.domain", defArgs s_Table_domain, defBody s_Table_domain, defScope s_Table_domain, [], []⟩, ⟨fun K => He.ma K (He.ga K "Table") "is_like", "is_like", "Table.is_like", defArgs s_Table_is_like, defBody s_Table_is_like, defScope s_Table_is_like, [], []⟩, ⟨fun K => He.ma K (He.ga K "Table") "is_within", "is_within", "Table.is_within", defArgs s_Table_is_within, defBody s_Table_is_within, defScope s_Table_is_within, [], []⟩, ⟨fun K => He.ma K (He.ga K "Table") "picked", "picked", "Table.picked", defArgs s_Table_picked, defBody s_Table_picked, defScope s_Table_picked, [], []⟩, ⟨fun K => He.ma K (He.ga K "Table") "mapped", "mapped", "Table.mapped", defArgs s_Table_mapped, defBody s_Table_mapped, defScope s_Table_mapped, [], []⟩, ⟨fun K => He.ma K (He.ga K "Table") "__len__", "__len__", "Table.__len__", defArgs s_Table___len__, defBody s_Table___len__, defScope s_Table___len__, [], []⟩, ⟨fun K => He.ma K (He.ga K "Table") "__eq__", "__eq__", "Table.__eq__", defArgs s_Table___eq__, defBody s_Table___eq__, defScope s_Table___eq__, [], []⟩]
def faL : List He.Fa := [.glo "is_integer", .glo "is_between", .glo "is_name", .glo "is_row", .glo "are_values", .glo "require_columns", .glo "rows_over", .glo "whole_table", .glo "table_in", .glo "is_dict_from", .glo "_law_dice", .glo "_law_roll", .glo "_law_pick", .glo "_law_mixed", .glo "_law_some", .glo "_law_tuples", .glo "_law_picked", .glo "_law_drawn_table", .glo "_law_names_of", .glo "_law_moved", .glo "_law_picks_right", .glo "_law_maps_right", .glo "_law_right", .glo "law", .str "ALPHABET" "abcdefghijklmnopqrstuvwxyz", .int "MAX_LETTERS" 8, .int "MAX_COLUMNS" 3, .int "MOST_VALUES" 6, .glo "AskError", .glo "InvalidTable", .glo "InvalidOperation", .glo "InvalidNumber", .glo "Table", .meth "Table" "__init__", .meth "Table" "is_like", .meth "Table" "is_within", .meth "Table" "picked", .meth "Table" "mapped", .meth "Table" "__len__", .meth "Table" "__eq__", .mkr "Table", .noat "Table" "own_columns", .noat "Table" "own_rows", .noat "Table" "own_places", .free "IndexError", .free "ValueError", .free "abs", .free "all", .free "bool", .free "classmethod", .free "dict", .free "enumerate", .free "int", .free "isinstance", .free "iter", .free "len", .free "list", .free "max", .free "min", .free "property", .free "range", .free "repr", .free "set", .free "sorted", .free "str", .free "tuple", .exc "AskError", .exc "InvalidTable", .exc "InvalidOperation"]
def loose0 : List PySem.Str := (["__name__", "AskError", "InvalidTable", "InvalidOperation", "InvalidNumber", "ALPHABET", "MAX_LETTERS", "MAX_COLUMNS", "MOST_VALUES", "is_integer", "is_between", "is_name", "is_row", "are_values", "require_columns", "rows_over", "whole_table", "table_in", "Table", "is_dict_from", "_law_dice", "_law_roll", "_law_pick", "_law_mixed", "_law_some", "_law_tuples", "_law_picked", "_law_drawn_table", "_law_names_of", "_law_moved", "_law_picks_right", "_law_maps_right", "_law_right"] : List String).map Str.ofString
def loose : List PySem.Str := loose0
abbrev R : PySem.W.OpenRow := PySem.W.OpenLaw.row PySem.Challenge.rw_askable_k02_picked_and_mapped
def exV (K : PySem.W.Frag) : Bool := kcB K (He.ga K "Table") && (crB K (He.ga K "Table") && (cmB K (He.ga K "Table") "of" && (prB K (He.ga K "Table") "columns" && (prB K (He.ga K "Table") "rows" && (prB K (He.ga K "Table") "domain" && (kitB2 K (.ref (He.ga K "Table")) (.ref (He.ga K "Table")) true && (decide (PySem.W.findIn K (.ref (He.ga K "Table")) "__ne__" = some (some (.builtin "object.__ne__"))) && (true))))))))
def exA (K : PySem.W.Frag) : Bool := exT K && exV K
abbrev hk : PySem.W.Hook := hookY 6 faL fnL exA
def ob (s : PySem.W.SharedT) : AlY := obsY 6 faL fnL exA (HandSHeadRun.getT s)
theorem ob_eq (s : PySem.W.SharedT) : ob s = hk.obs s.abs := obsY_eq (HandSHeadRun.getT_eq s)
theorem run (w : World) : HandSHeadRun.RunEq R (PySem.W.view R.prog [35]) hk ob 9000 loose w := by
  intro os
  kernel_rfl
theorem txt_of {K : PySem.W.Frag} {h : Heap} {mg : Str → Option Value} (X : K.In h) (G : h.Ns mainGlobals mg) (c : He5.SaysA faL fnL K) (ex : exT K = true) (ev : exV K = true) : Txt K mg where
  f_is_integer := txtF_of (c.def_ 0) (He.glo_ok X G (c.fact 0 (f := .glo "is_integer") rfl))
  f_is_between := txtF_of (c.def_ 1) (He.glo_ok X G (c.fact 1 (f := .glo "is_between") rfl))
  f_is_name := txtF_of (c.def_ 2) (He.glo_ok X G (c.fact 2 (f := .glo "is_name") rfl))
  f_is_row := txtF_of (c.def_ 3) (He.glo_ok X G (c.fact 3 (f := .glo "is_row") rfl))
  f_are_values := txtF_of (c.def_ 4) (He.glo_ok X G (c.fact 4 (f := .glo "are_values") rfl))
  f_require_columns := txtF_of (c.def_ 5) (He.glo_ok X G (c.fact 5 (f := .glo "require_columns") rfl))
  f_rows_over := txtF_of (c.def_ 6) (He.glo_ok X G (c.fact 6 (f := .glo "rows_over") rfl))
  f_whole_table := txtF_of (c.def_ 7) (He.glo_ok X G (c.fact 7 (f := .glo "whole_table") rfl))
  f_table_in := txtF_of (c.def_ 8) (He.glo_ok X G (c.fact 8 (f := .glo "table_in") rfl))
  f_is_dict_from := txtF_of (c.def_ 9) (He.glo_ok X G (c.fact 9 (f := .glo "is_dict_from") rfl))
  f__law_dice := txtF_of (c.def_ 10) (He.glo_ok X G (c.fact 10 (f := .glo "_law_dice") rfl))
  f__law_roll := txtF_of (c.def_ 11) (He.glo_ok X G (c.fact 11 (f := .glo "_law_roll") rfl))
  f__law_pick := txtF_of (c.def_ 12) (He.glo_ok X G (c.fact 12 (f := .glo "_law_pick") rfl))
  f__law_mixed := txtF_of (c.def_ 13) (He.glo_ok X G (c.fact 13 (f := .glo "_law_mixed") rfl))
  f__law_some := txtF_of (c.def_ 14) (He.glo_ok X G (c.fact 14 (f := .glo "_law_some") rfl))
  f__law_tuples := txtF_of (c.def_ 15) (He.glo_ok X G (c.fact 15 (f := .glo "_law_tuples") rfl))
  f__law_picked := txtF_of (c.def_ 16) (He.glo_ok X G (c.fact 16 (f := .glo "_law_picked") rfl))
  f__law_drawn_table := txtF_of (c.def_ 17) (He.glo_ok X G (c.fact 17 (f := .glo "_law_drawn_table") rfl))
  f__law_names_of := txtF_of (c.def_ 18) (He.glo_ok X G (c.fact 18 (f := .glo "_law_names_of") rfl))
  f__law_moved := txtF_of (c.def_ 19) (He.glo_ok X G (c.fact 19 (f := .glo "_law_moved") rfl))
  f__law_picks_right := txtF_of (c.def_ 20) (He.glo_ok X G (c.fact 20 (f := .glo "_law_picks_right") rfl))
  f__law_maps_right := txtF_of (c.def_ 21) (He.glo_ok X G (c.fact 21 (f := .glo "_law_maps_right") rfl))
  f__law_right := txtF_of (c.def_ 22) (He.glo_ok X G (c.fact 22 (f := .glo "_law_right") rfl))
  f_law := txtF_of (c.def_ 23) (He.glo_ok X G (c.fact 23 (f := .glo "law") rfl))
  c_ALPHABET := cS_of (He.str_ok X G (c.fact 24 (f := .str "ALPHABET" "abcdefghijklmnopqrstuvwxyz") rfl))
  c_MAX_LETTERS := cI_of (He.int_ok X G (c.fact 25 (f := .int "MAX_LETTERS" 8) rfl))
  c_MAX_COLUMNS := cI_of (He.int_ok X G (c.fact 26 (f := .int "MAX_COLUMNS" 3) rfl))
  c_MOST_VALUES := cI_of (He.int_ok X G (c.fact 27 (f := .int "MOST_VALUES" 6) rfl))
  g_AskError := He.glo_ok X G (c.fact 28 (f := .glo "AskError") rfl)
  g_InvalidTable := He.glo_ok X G (c.fact 29 (f := .glo "InvalidTable") rfl)
  g_InvalidOperation := He.glo_ok X G (c.fact 30 (f := .glo "InvalidOperation") rfl)
  g_InvalidNumber := He.glo_ok X G (c.fact 31 (f := .glo "InvalidNumber") rfl)
  g_Table := He.glo_ok X G (c.fact 32 (f := .glo "Table") rfl)
  f_Table___init__ := c.def_ 24
  m_Table___init__ := He.meth_ok (c.fact 33 (f := .meth "Table" "__init__") rfl)
  f_Table_of := c.def_ 25
  f_Table_columns := c.def_ 26
  f_Table_rows := c.def_ 27
  f_Table_domain := c.def_ 28
  f_Table_is_like := c.def_ 29
  m_Table_is_like := He.meth_ok (c.fact 34 (f := .meth "Table" "is_like") rfl)
  f_Table_is_within := c.def_ 30
  m_Table_is_within := He.meth_ok (c.fact 35 (f := .meth "Table" "is_within") rfl)
  f_Table_picked := c.def_ 31
  m_Table_picked := He.meth_ok (c.fact 36 (f := .meth "Table" "picked") rfl)
  f_Table_mapped := c.def_ 32
  m_Table_mapped := He.meth_ok (c.fact 37 (f := .meth "Table" "mapped") rfl)
  f_Table___len__ := c.def_ 33
  m_Table___len__ := He.meth_ok (c.fact 38 (f := .meth "Table" "__len__") rfl)
  f_Table___eq__ := c.def_ 34
  m_Table___eq__ := He.meth_ok (c.fact 39 (f := .meth "Table" "__eq__") rfl)
  k_Table := He.mkr_ok (c.fact 40 (f := .mkr "Table") rfl)
  a_Table_own_columns := He.noat_ok (c.fact 41 (f := .noat "Table" "own_columns") rfl)
  a_Table_own_rows := He.noat_ok (c.fact 42 (f := .noat "Table" "own_rows") rfl)
  a_Table_own_places := He.noat_ok (c.fact 43 (f := .noat "Table" "own_places") rfl)
  kc_Table := kcB_ok (Bool.and_eq_true_iff.mp (ev)).1
  cr_Table := crB_ok (Bool.and_eq_true_iff.mp ((Bool.and_eq_true_iff.mp (ev)).2)).1
  cm_Table_of := cmB_ok (Bool.and_eq_true_iff.mp ((Bool.and_eq_true_iff.mp ((Bool.and_eq_true_iff.mp (ev)).2)).2)).1
  p_Table_columns := prB_ok (Bool.and_eq_true_iff.mp ((Bool.and_eq_true_iff.mp ((Bool.and_eq_true_iff.mp ((Bool.and_eq_true_iff.mp (ev)).2)).2)).2)).1
  p_Table_rows := prB_ok (Bool.and_eq_true_iff.mp ((Bool.and_eq_true_iff.mp ((Bool.and_eq_true_iff.mp ((Bool.and_eq_true_iff.mp ((Bool.and_eq_true_iff.mp (ev)).2)).2)).2)).2)).1
  p_Table_domain := prB_ok (Bool.and_eq_true_iff.mp ((Bool.and_eq_true_iff.mp ((Bool.and_eq_true_iff.mp ((Bool.and_eq_true_iff.mp ((Bool.and_eq_true_iff.mp ((Bool.and_eq_true_iff.mp (ev)).2)).2)).2)).2)).2)).1
  i_Table_Table := kitB2_ok (Bool.and_eq_true_iff.mp ((Bool.and_eq_true_iff.mp ((Bool.and_eq_true_iff.mp ((Bool.and_eq_true_iff.mp ((Bool.and_eq_true_iff.mp ((Bool.and_eq_true_iff.mp ((Bool.and_eq_true_iff.mp (ev)).2)).2)).2)).2)).2)).2)).1
  b_Table___ne__ := of_decide_eq_true (Bool.and_eq_true_iff.mp ((Bool.and_eq_true_iff.mp ((Bool.and_eq_true_iff.mp ((Bool.and_eq_true_iff.mp ((Bool.and_eq_true_iff.mp ((Bool.and_eq_true_iff.mp ((Bool.and_eq_true_iff.mp ((Bool.and_eq_true_iff.mp (ev)).2)).2)).2)).2)).2)).2)).2)).1
  z_IndexError := He.free_ok X G (c.fact 44 (f := .free "IndexError") rfl)
  z_ValueError := He.free_ok X G (c.fact 45 (f := .free "ValueError") rfl)
  z_abs := He.free_ok X G (c.fact 46 (f := .free "abs") rfl)
  z_all := He.free_ok X G (c.fact 47 (f := .free "all") rfl)
  z_bool := He.free_ok X G (c.fact 48 (f := .free "bool") rfl)
  z_classmethod := He.free_ok X G (c.fact 49 (f := .free "classmethod") rfl)
  z_dict := He.free_ok X G (c.fact 50 (f := .free "dict") rfl)
  z_enumerate := He.free_ok X G (c.fact 51 (f := .free "enumerate") rfl)
  z_int := He.free_ok X G (c.fact 52 (f := .free "int") rfl)
  z_isinstance := He.free_ok X G (c.fact 53 (f := .free "isinstance") rfl)
  z_iter := He.free_ok X G (c.fact 54 (f := .free "iter") rfl)
  z_len := He.free_ok X G (c.fact 55 (f := .free "len") rfl)
  z_list := He.free_ok X G (c.fact 56 (f := .free "list") rfl)
  z_max := He.free_ok X G (c.fact 57 (f := .free "max") rfl)
  z_min := He.free_ok X G (c.fact 58 (f := .free "min") rfl)
  z_property := He.free_ok X G (c.fact 59 (f := .free "property") rfl)
  z_range := He.free_ok X G (c.fact 60 (f := .free "range") rfl)
  z_repr := He.free_ok X G (c.fact 61 (f := .free "repr") rfl)
  z_set := He.free_ok X G (c.fact 62 (f := .free "set") rfl)
  z_sorted := He.free_ok X G (c.fact 63 (f := .free "sorted") rfl)
  z_str := He.free_ok X G (c.fact 64 (f := .free "str") rfl)
  z_tuple := He.free_ok X G (c.fact 65 (f := .free "tuple") rfl)
  e_AskError := errC_of X G (c.fact 28 (f := .glo "AskError") rfl) (c.fact 66 (f := .exc "AskError") rfl)
  e_InvalidTable := errC_of X G (c.fact 29 (f := .glo "InvalidTable") rfl) (c.fact 67 (f := .exc "InvalidTable") rfl)
  e_InvalidOperation := errC_of X G (c.fact 30 (f := .glo "InvalidOperation") rfl) (c.fact 68 (f := .exc "InvalidOperation") rfl)
end Ax
end
section
set_option maxHeartbeats 4000000
/-! words for dicts; sorted lists of data; parts of texts; making own objects -/
namespace Ax
open PySem PySem.Spec PyProof.Rows L2
open PySem.W (EachIs AllAlike Sortable dataLe)
section
variable {X : Cx} {e a b o tg iter : Expr} {es : List Expr} {σ : L2.St} {H : Hp} {Q : VK} {D : Ends} {pos apos : Pos}
/-! ### dicts -/
theorem ix_dK (hu : X.A.units + 1 < cLine) : IxR X (fun x y H Q => ∃ a kvs k v, x = .ref a ∧ y = kV k ∧ Rd H a (.dK kvs) ∧ valV kvs k = some v ∧ Q v H) := by
  intro value slice pins s σ H x y v u Q I rx ry h hs
  obtain ⟨a, kvs, k, r, rfl, rfl, hr, l, q⟩ := h
  obtain rfl : v = Value.ref a := rx
  obtain ⟨z, hd, vs, rel, dd⟩ := dk_rd I.hok hr
  obtain ⟨w', hw, rw'⟩ := RelO.some_of (v := r) (o := valueAt vs k) (by rw [← l]; exact rel.val k)
  exact tail_any dd.mapOf.typeIs slot_dict_getitem.lookup (wpAny_getItem_of (kV_is ry) dd.mapOf hw ⟨r, H, I.tok _, rw', q⟩) hs
theorem iv_dK {p : Addr} {kvs : List (Key × V)} {k : Key} {v : V} (hu : X.A.units + 64 < cLine) (h1 : Rd H p (.dK kvs)) (h2 : valV kvs k = some v) (h : Q v H) : IxV X (.ref p) (kV k) H Q := ⟨_, ix_dK (by omega), p, kvs, k, v, rfl, rfl, h1, h2, h⟩
theorem kv_lenD {p : Addr} {kvs : List (Key × V)} (h1 : H p = some (.dK kvs)) (h : Q (.int kvs.length) H) : CallV X (.builtin "len") [.ref p] H Q := ⟨_, call_lenD, p, kvs, rfl, h1, h⟩
theorem kv_isDict {p : Addr} {kvs : List (Key × V)} {T : String} {k : Bool} (h1 : H p = some (.dK kvs)) (hk : kitB "dict" T = some k) (h : Q (.bl k) H) : CallV X (.builtin "isinstance") [.ref p, .ty T] H Q := kv_isi (.ty T) (.base (.dK h1)) (kit_ty hk) h
theorem sv_dK {p : Addr} {kvs : List (Key × V)} {k : Key} {v : V} {Q : Hp → Prop} (hu : X.A.units + 64 < cLine) (hp : H p = some (.dK kvs)) (hl : kvs.length < sizeLine) (h : Q (upd H p (.dK (putK kvs k v)))) : SetV X (.ref p) (kV k) v H Q := ⟨_, set_dict (by omega), p, _, rfl, DPut.k hp hl, h⟩
theorem kv_dictP {p : Addr} {ps : List Addr} {kvs : List (Key × V)} (hc : X.calm = true) (h1 : SqL X.K H p (ps.map V.ref)) (h2 : Paired (fun q kv => SqT X.K H q [kV kv.1, kv.2]) ps kvs) (h : ∀ q H2, Same H H2 → H q = none → H2 q = some (.dK (putsL kvs)) → Q (.ref q) H2) : CallV X (.type "dict") [.ref p] H Q :=
  ⟨_, call_dictP hc, p, ps, kvs, rfl, h1, h2, fun q hq => h q _ (same_new hq) hq upd_same⟩
theorem paired_all2 {α β : Type} {R : α → β → Prop} : ∀ {xs : List α} {ys : List β}, All2 R xs ys → Paired R xs ys
  | _, _, .nil => .nil
  | _, _, .cons h t => .cons h (paired_all2 t)
/-- a dict that is read while it stands: locked for the time of the expression -/
theorem w_lock {d : Addr} {u : HO} (hd : H d = some u) (mu : Mut (some u)) (h : ∀ od, W X e σ (upd H d (.frz od u)) fun v H1 => H1 d = some (.frz od u) ∧ Q v (upd H1 d u)) : W X e σ H Q :=
  W.of (pe_lock W.pe) ⟨d, u, hd, mu, h⟩
/-- between: the dict at d locked by od, all else as it was -/
theorem lock_same {d : Addr} {od : Obj} {u : HO} {H1 : Hp} (hd : H d = some u) (s : Same (upd H d (.frz od u)) H1) : Same H (upd H1 d u) := fun b o hb => by
  by_cases z : b = d
  · subst z
    rw [hd] at hb
    rw [upd_same]
    exact hb
  · rw [upd_ne z]
    exact s b o (by rw [upd_ne z]; exact hb)
theorem itN_keys {d : Addr} {od : Obj} {kvs : List (Key × V)} (h : H d = some (.frz od (.dK kvs))) : ItN (Itk d od kvs) H kvs.length (fun i v _ => ∃ k z, kvs[i]? = some (k, z) ∧ v = kV k) :=
  ⟨_, walk_keys.mono (fun _ z => z) fun i Ha v Hb hi _ ⟨e, y⟩ => by
    subst e
    exact ⟨Same.refl _, y⟩, h, fun _ s => s _ _ h⟩
theorem itN_items {d : Addr} {od : Obj} {kvs : List (Key × V)} (h : H d = some (.frz od (.dK kvs))) : ItN (Iti d od kvs) H kvs.length (YTwo (fun i => kvs[i]?.map fun kv => kV kv.1) (fun i => kvs[i]?.map Prod.snd)) :=
  ⟨_, walk_items.mono (fun _ z => z) fun i Ha v Hb hi _ ⟨T, x, y, e1, e2, e3, e4, e5⟩ => by
    subst e3
    exact ⟨same_new e2, T, x, y, e1, e4, e5, upd_same⟩, h, fun _ s => s _ _ h⟩
/-! ### sorted -/
/-- sorted(xs), xs a list of things that read as data -/
theorem call_sortedG {α : Type} (enc : α → PyData) : CallR X (.builtin "sorted") (fun xs H Q => ∃ (l : Addr) (bs : List Addr) (as : List α) (P : Addr → α → Prop), xs = [.ref l] ∧ SqL X.K H l (bs.map V.ref) ∧ All2 P bs as ∧ (∀ b a, P b a → Dp X.K H (.ref b) (enc a)) ∧ AllAlike (as.map enc) ∧ Sortable (as.map enc) ∧ as.length ≤ sizeLine ∧
    (∀ a ∈ as, X.A.units + 2 + (enc a).depth < cLine) ∧ ∀ cs p, H p = none → All2 P cs (as.mergeSort (dataLe false enc)) → Q (.ref p) (upd H p (.lst (cs.map V.ref)))) := by
  intro pins s σ H xs us Q I r q
  obtain ⟨l, bs, as, P, rfl, hl, hp, hdp, hal, hk, hz, hu, q⟩ := q
  obtain ⟨u, rfl, rx⟩ := r.one
  cases rx
  obtain ⟨its, rv, p, hzz⟩ := I.list hl
  have ei := refs_at rv
  subst ei
  have eR : EachIs (fun v a => ∃ b, v = Value.ref b ∧ P b a) (bs.map Value.ref) as := by
    clear rv p hl hal hk hz hu q hzz
    induction hp with
    | nil => exact .nil
    | cons h t ih => exact .cons ⟨_, rfl, h⟩ ih
  have er : EachIs (fun v a => ∃ as, Reads s.heap v (enc a) as) (bs.map Value.ref) as := eR.mono fun v a ⟨b, ev, hb⟩ => by
    subst ev
    exact Dp.reads I (enc a) (.ref b) (.ref b) (hdp b a hb) rfl
  refine PySem.W.sorted_data p.isList eR er hal hk hz hu fun out ho eO => ?_
  obtain ⟨cs, eb, hcs⟩ : ∃ cs, out = cs.map Value.ref ∧ All2 P cs (as.mergeSort (dataLe false enc)) := by
    clear ho
    generalize as.mergeSort (dataLe false enc) = rs at eO
    induction eO with
    | nil => exact ⟨[], rfl, .nil⟩
    | cons h t ih =>
      obtain ⟨b, e, hb⟩ := h
      obtain ⟨cs, e2, t2⟩ := ih
      exact ⟨b :: cs, by rw [e, e2] <;> rfl, .cons hb t2⟩
  obtain ⟨e', he'⟩ := PyProof.Rows.sortedAll_at s.heap (bs.map Value.ref) out.toArray
  have hlen : (cs.map V.ref).length ≤ sizeLine := by
    have h2 := hcs.len
    rw [List.length_mergeSort] at h2
    rw [List.length_map]
    omega
  have n1 : s.heap.objs.size ≤ s.heap.objs.size + 1 := Nat.le_succ _
  exact ⟨.ref (s.heap.objs.size + 1), upd H (s.heap.objs.size + 1) (.lst (cs.map V.ref)), I.laid (t' := s.toks) (fun b u ez => PyProof.Rows.sortedAll_old ez) n1 (show ObjOk X.prog X.w _ _ _ (.lst (cs.map V.ref)) from ⟨hlen, out, e', by rw [eb] <;> exact vals_refs cs, he'⟩), rfl, q cs _ (I.hok.fresh n1) hcs⟩
/-! ### f'..' of names -/
theorem tJs_nil {acc : Str} {Q : Str → Hp → Prop} (h : Q acc H) : tJs [] acc σ H Q := h
theorem glob_ref {mg : Str → Option Value} {x : Str} {a : Addr} (h : mg x = some (.ref a)) : ∃ u, mg x = some u ∧ RelV (.ref a) u := ⟨_, h, rfl⟩
theorem keep_set {σ : L2.St} {i : Nat} {x : V} (h : σ[i]? = some none) : ∀ (k : Nat) (v : V), σ[k]? = some (some v) → (σ.set i (some x))[k]? = some (some v) := fun k v z => by
  by_cases e : i = k
  · subst e
    rw [h] at z
    cases z
  · rw [List.getElem?_set_ne e]
    exact z
theorem inV_str {z : Str} {zs : List Str} : inV (.str z) (zs.map V.str) = decide (z ∈ zs) := by
  unfold inV
  rw [List.any_map]
  induction zs with
  | nil => simp
  | cons y ys ih =>
    rw [List.any_cons, ih]
    have e : ((fun y => eqV y (.str z)) ∘ V.str) y = decide (y = z) := by
      show (y == z) = _
      rw [Bool.eq_iff_iff, decide_eq_true_iff]
      exact beq_iff_eq
    rw [e]
    by_cases h : y = z
    · simp [h]
    · have h2 : ¬ z = y := fun e => h e.symm
      simp [h, h2]
/-- what makes a new object stands by the old ones -/
theorem made_same {C x dx : Addr} {H1 H2 : Hp} (hx : H1 x = none) (hdx : H1 dx = none) (b : Bt x (upd (upd H1 dx (.own x)) x (.ins C dx [])) H2) : Same H1 H2 := fun y o hy => by
  have yx : y ≠ x := ne_of_none hy hx
  have yd : y ≠ dx := ne_of_none hy hdx
  refine b y o yx ?_
  rw [upd_ne yx, upd_ne yd]
  exact hy
end
end Ax
end
section
set_option maxHeartbeats 4000000
/-! sorted(tuple of texts); the order of texts -/
namespace Ax
open PySem PySem.Spec PyProof.Rows L2
open PySem.W (EachIs SortsAt dataKind AllAlike Sortable dataLe sortVals sortingHeap sortingHeap_old)
/-- texts in their order -/
def strLe (a b : Str) : Bool := !decide (b.cps.toList < a.cps.toList)
theorem each_str : ∀ {zs : List Str} {us : List Value}, Vals (zs.map V.str) us → EachIs (fun v z => ∃ t, v = Value.str z t) us zs
  | [], _, h => by cases h; exact .nil
  | z :: zs, _, h => by
    cases h with
    | cons h t =>
      obtain ⟨tk, rfl⟩ := h
      exact .cons ⟨tk, rfl⟩ (each_str t)
theorem vals_each : ∀ {zs : List Str} {us : List Value}, EachIs (fun v z => ∃ t, v = Value.str z t) us zs → Vals (zs.map V.str) us
  | _, _, .nil => .nil
  | _, _, .cons ⟨t, e⟩ r => .cons ⟨t, e⟩ (vals_each r)
section
variable {X : Cx}
theorem call_sortedTS (hcalm : X.calm = true) (hu : X.A.units + 64 < cLine) : CallR X (.builtin "sorted") (fun xs H Q => ∃ (a : Addr) (zs : List Str), xs = [.ref a] ∧ SqT X.K H a (zs.map V.str) ∧
    ∀ p, H p = none → Q (.ref p) (upd H p (.lst ((zs.mergeSort (dataLe false PyData.str)).map V.str)))) := by
  intro pins s σ H xs us Q I r q
  obtain ⟨a, zs, rfl, hd, q⟩ := q
  obtain ⟨u, rfl, rx⟩ := r.one
  cases rx
  obtain ⟨its, rv, pt, hz⟩ := I.tuple hd
  obtain ⟨oo, ho, hc, n, hdat⟩ := pt
  have eR := each_str rv
  have hal : its.length = zs.length := eR.length
  rw [List.length_map] at hz
  refine Calls.call_function_entry PyProof.Rows.kind_sorted PyProof.Rows.plain_sorted PyProof.Rows.entry_sorted (PyProof.Rows.args_sorted1 _) ?_
  unfold Builtin.«sorted»
  refine wpAny_bind (m := checkCount "sorted" 1 1 _) (wpAny_pure ?_)
  refine wpAny_bind (PySem.wpAny_collect_seq (A := X.A.in1) a (.inr rfl) ho hc hdat (fun h' hk => ?_) (by rw [List.size_toArray]; omega))
  have I1 : Inv X pins σ H { s with heap := h' } := I.kept (t' := s.toks) hk
  show wpAny _ _ (newList its >>= _) _ _ { s with heap := h' }
  refine wpAny_bind (wpAny_newList ?_ (by rw [hal]; omega))
  have hoL : (h'.push (seqObj "list" its.toArray 0)).get? h'.objs.size = some (seqObj "list" its.toArray 0) := Heap.get?_push_size _ rfl
  show wpAny _ _ _ _ _ { s with heap := h'.push (seqObj "list" its.toArray 0) }
  have eS : ∀ hh, EachIs (fun v r => ∃ as, Reads hh v (PyData.str r) as) its zs := fun hh => eR.mono fun v r ⟨t, ev⟩ => by
    subst ev
    exact ⟨[], .str _ _⟩
  have hal2 : AllAlike (zs.map PyData.str) := AllAlike.of fun a b => by rfl
  have hso : Sortable (zs.map PyData.str) := Sortable.others fun b => ⟨(fun z => nomatch z), (fun _ z => nomatch z)⟩
  refine wpAny_bind (wpAny_holding (wpAny_call_entry PyProof.Rows.slot_list_sort ⟨_, hoL, rfl⟩ PyProof.Rows.entry_list_sort
    (PySem.W.list_sort_vals (s := { s with heap := h'.push (seqObj "list" its.toArray 0) }) hoL
      (SortsAt.data (s := { s with heap := sortingHeap (h'.push (seqObj "list" its.toArray 0)) h'.objs.size its }) (PySem.W.each_map (R := fun v d => ∃ as, Reads (sortingHeap (h'.push (seqObj "list" its.toArray 0)) h'.objs.size its) v d as) PyData.str (eS _)) hal2 hso fun d hd => ?_) (by omega) ⟨_, rfl, ?_⟩) (PyProof.Rows.args_list_sort _)))
  · obtain ⟨z, _, rfl⟩ := List.mem_map.mp hd
    show X.A.units + 1 + 1 + 0 < cLine
    omega
  have eO := PySem.W.sortVals_data (h' := sortingHeap (h'.push (seqObj "list" its.toArray 0)) h'.objs.size its) (enc := PyData.str) false eR (eS _) hal2
  generalize sortVals (dataKind (sortingHeap (h'.push (seqObj "list" its.toArray 0)) h'.objs.size its) (zs.map PyData.str)) false its its = out at eO ⊢
  have hvo := vals_each eO
  obtain ⟨e', he'⟩ := PyProof.Rows.sortedHeap_at (vs := its) (out := out.toArray) hoL
  have hlen : ((zs.mergeSort (dataLe false PyData.str)).map V.str).length ≤ sizeLine := by
    rw [List.length_map, List.length_mergeSort]
    omega
  refine wpAny_pure ⟨_, rfl, .ref h'.objs.size, upd H h'.objs.size (.lst _), I1.laid (t' := s.toks) (fun b u ez => ?_) (Nat.le_refl _) (show ObjOk X.prog X.w _ _ _ (.lst ((zs.mergeSort (dataLe false PyData.str)).map V.str)) from ⟨hlen, out, e', hvo, he'⟩), rfl, q _ (I1.hok.fresh (Nat.le_refl _))⟩
  have hb : b < h'.objs.size := Heap.lt_size ez
  rw [PyProof.Rows.sortedHeap_old (Nat.ne_of_lt hb) (by rw [size_push'] <;> exact Nat.lt_succ_of_lt hb)]
  exact Heap.get?_push_of_some _ ez
theorem kv_sortedTS {p : Addr} {zs : List Str} {H : Hp} {Q : VK} (hc : X.calm = true) (hu : X.A.units + 64 < cLine) (hp : SqT X.K H p (zs.map V.str)) (h : ∀ q H2, Same H H2 → H q = none → H2 q = some (.lst ((zs.mergeSort (dataLe false PyData.str)).map V.str)) → Q (.ref q) H2) : CallV X (.builtin "sorted") [.ref p] H Q :=
  ⟨_, call_sortedTS hc hu, p, zs, rfl, hp, fun q hq => h q _ (same_new hq) hq upd_same⟩
end
section
variable {X : Cx} {a b c : Expr} {σ : L2.St} {H : Hp} {pos : Pos}
theorem wt_chain {op op' : CmpOp} {Q : Bool → Hp → Prop} (h : W X a σ H fun x H1 => W X b σ H1 fun y H2 => CmpV X op x y H2 fun z H3 => ∃ k, z = .bl k ∧ (if k = true then W X c σ H3 fun w' H4 => CmpV X op' y w' H4 fun v H5 => ∃ d, v = .bl d ∧ Q d H5 else ∃ d, V.bl false = .bl d ∧ Q d H3))
    (hm : lastMarks [op, op'] [b, c] = false := by with_unfolding_all rfl) : WT X (.Compare a [op, op'] [b, c] pos) σ H Q := WT.of (pt_chain cmpV_r cmpV_r W.pe W.pe W.pe hm) h
/-- x, y, z = a list of three -/
theorem ws_lst3 {D : Ends} {e : Expr} (i j l : Nat) {x y z : Str} {px py pz pt : Pos} {kt} (h : W X e σ H fun v H1 => ∃ a v1 v2 v3, v = .ref a ∧ SqL X.K H1 a [v1, v2, v3] ∧ D.nx (((σ.set i (some v1)).set j (some v2)).set l (some v3)) H1) (hi : X.N[i]? = some x) (hj : X.N[j]? = some y) (hk : X.N[l]? = some z) (hN : X.N.Nodup) (hc : X.calm = true := by rfl)
    (hx : Loc X.env.scope x := by first | exact Or.inl rfl | exact Or.inr rfl) (hy : Loc X.env.scope y := by first | exact Or.inl rfl | exact Or.inr rfl) (hz : Loc X.env.scope z := by first | exact Or.inl rfl | exact Or.inr rfl)
    (hfx : X.fn x = true ∨ X.env.scope.names.lookup x = some .local := by first | exact Or.inl rfl | exact Or.inr rfl) (hfy : X.fn y = true ∨ X.env.scope.names.lookup y = some .local := by first | exact Or.inl rfl | exact Or.inr rfl) (hfz : X.fn z = true ∨ X.env.scope.names.lookup z = some .local := by first | exact Or.inl rfl | exact Or.inr rfl)
    (hs : swapsWithSole [.Tuple [.Name x px, .Name y py, .Name z pz] kt pt] e pos.line X.env = pure false := by rfl) (hw : swappedStores [.Tuple [.Name x px, .Name y py, .Name z pz] kt pt] e X.env = pure none := by rfl)
    (h1 : (assignEach [.Tuple [.Name x px, .Name y py, .Name z pz] kt pt] X.env).map (·.2) = [assign (.Tuple [.Name x px, .Name y py, .Name z pz] kt pt) X.env] := by rfl)
    (h2 : (assignEach (Expr.Name x px :: [.Name y py, .Name z pz]) X.env).map (·.2) = assign (.Name x px) X.env :: (assignEach [.Name y py, .Name z pz] X.env).map (·.2) := by rfl)
    (h3 : (assignEach (Expr.Name y py :: [.Name z pz]) X.env).map (·.2) = assign (.Name y py) X.env :: (assignEach [.Name z pz] X.env).map (·.2) := by rfl)
    (h4 : (assignEach (Expr.Name z pz :: []) X.env).map (·.2) = assign (.Name z pz) X.env :: (assignEach [] X.env).map (·.2) := by rfl)
    (h5 : (assignEach [.Name x px, .Name y py, .Name z pz] X.env).length = 3 := by rfl) (h6 : (assignEach [.Name x px, .Name y py, .Name z pz] X.env).findIdx? (·.1) = none := by rfl) :
    WS X (.Assign [.Tuple [.Name x px, .Name y py, .Name z pz] kt pt] e pos) D σ H := by
  refine WS.of (ps_asg W.pe (pg_lst (n := 3) hc (pgs_cons (pg_name hN hi hx hfx) (pgs_cons (pg_name hN hj hy hfy) (pgs_cons (pg_name hN hk hz hfz) pgs_nil h4) h3) h2) h5 h6) hs hw h1) ?_
  show W X e σ H _
  refine W.mono h fun v H1 ⟨a, v1, v2, v3, ev, ha, q⟩ => ⟨a, [v1, v2, v3], ev, ha, rfl, v1, [v2, v3], rfl, v2, [v3], rfl, v3, [], rfl, rfl, q⟩
theorem WS.nxt {D : Ends} {st : Stmt} {I : L2.St → Hp → Prop} (h : WS X st { D with nx := I } σ H) (k : ∀ σ' H', I σ' H' → D.nx σ' H') : WS X st D σ H := ⟨fun pins s inv => thn (h.run pins s inv) fun fl s1 q => by
  cases fl with
  | next =>
    obtain ⟨σ', H', J, q⟩ := q
    exact ⟨σ', H', J, k _ _ q⟩
  | brk => exact q
  | cont => exact q
  | ret u => exact q⟩
theorem bv_catW {Q : VK} {p q : Addr} {xs ys : List V} (h1 : SqT X.K H p xs) (h2 : H q = some (.tup ys)) (hn : ys ≠ []) (hl : xs.length + ys.length ≤ sizeLine) (h : ∀ r H2, Same H H2 → H2 r = some (.tup (xs ++ ys)) → Q (.ref r) H2) : BinV X .Add (.ref p) (.ref q) H Q :=
  ⟨_, op_catA, p, q, xs, ys, rfl, rfl, h1, SqT.of h2, hl, fun e => h q H (Same.refl _) (by rw [e]; exact h2), fun _ e => absurd e hn, fun _ _ r hr => h r _ (same_new hr) upd_same⟩
/-- for, any target -/
theorem ws_forG {D : Ends} {tg iter : Expr} {body : List Stmt} (g : TG) (hg : PG X tg g) (h : WI X tg iter σ H fun J H1 => ∃ n G Y, Walk J n G Y ∧ ∃ I : Nat → L2.St → Hp → Prop, I 0 σ H1 ∧ (∀ i σ H, i ≤ n → I i σ H → G H) ∧
      (∀ j v σ H H', j < n → I j σ H → Y j H v H' → g v σ H' fun σ2 H2 => WB X body { D with nx := I (j + 1), ct := I (j + 1), bk := D.nx } σ2 H2) ∧ ∀ σ H, I n σ H → D.nx σ H)
    (hp : PassesOwn (model X.prog X.w) X.A X.env X.xe) (hc : X.calm = true := by rfl) (hs : ∀ x, foldedSetIterable iter X.env x = pure x := by intro _; rfl) : WS X (.For tg iter body [] pos) D σ H := by
  refine WS.of (ps_for hp hc WI.pi hg WB.pss hs) ?_
  refine ⟨fun pins s I => thn (h.run pins s I) fun v s1 z => thn z fun it s2 q => ?_⟩
  obtain ⟨it', fp, tn, J, H1, e, I2, T, t0, f0, n, G, Y, wk, Iv, i0, hG, hst, hd⟩ := q
  exact ⟨it', fp, tn, J, H1, e, I2, T, t0, f0, for_it wk Iv i0 hG (fun j v σ H H' hj hI y => hst j v σ H H' hj hI y) hd⟩
theorem relI_get {R : Nat → V → Prop} {n : Nat} {ys : List V} (h : RelI (fun _ => False) R n ys) : ys.length = n ∧ ∀ (i : Nat) y, ys[i]? = some y → R i y := by
  induction h with
  | nil => exact ⟨rfl, fun i y e => by simp at e⟩
  | drop f _ _ => exact f.elim
  | @keep n y ys r _ ih =>
    refine ⟨by simp [ih.1], fun i z e => ?_⟩
    by_cases hi : i < ys.length
    · rw [List.getElem?_append_left hi] at e
      exact ih.2 i z e
    · rw [List.getElem?_append_right (by omega)] at e
      have ei : i = ys.length := by
        have := (List.getElem?_eq_some_iff.mp e).1
        simp at this
        omega
      subst ei
      simp at e
      subst e
      rw [ih.1]
      exact r
/-- a statement, then what it leaves -/
theorem wb_cut {D : Ends} {st : Stmt} {rest : List Stmt} (I : L2.St → Hp → Prop) (h : WS X st { D with nx := I } σ H) (k : ∀ σ' H', I σ' H' → WB X rest D σ' H') : WB X (st :: rest) D σ H := wb_cons (WS.nxt h k)
/-- a statement with a thing locked -/
theorem ws_lock {D : Ends} {st : Stmt} {d : Addr} {u : HO} (hd : H d = some u) (mu : Mut (some u)) (h : ∀ od, WS X st ⟨fun σ' H' => H' d = some (.frz od u) ∧ D.nx σ' (upd H' d u), fun v H' => H' d = some (.frz od u) ∧ D.rt v (upd H' d u), fun σ' H' => H' d = some (.frz od u) ∧ D.bk σ' (upd H' d u), fun σ' H' => H' d = some (.frz od u) ∧ D.ct σ' (upd H' d u)⟩ σ (upd H d (.frz od u))) : WS X st D σ H :=
  WS.of (ps_lock WS.ps) ⟨d, u, hd, mu, h⟩
theorem tyV_tup {K : PySem.W.Frag} {a : Addr} {H : Hp} (h : ∃ o, K.lookup a = some o ∧ o.cls = .type "tuple" ∧ o.dict = none) : tyV K "tuple" (.ref a) H := .inr (.inl ⟨rfl, h⟩)
/-! ### walks by values -/
theorem wi_items {e : Expr} {elts : List Expr} {kk : Nat} {tpos apos cpos : Pos} {R : It → Hp → Prop} (h : W X e σ H fun x H1 => ∃ d o kvs, x = .ref d ∧ H1 d = some (.frz o (.dK kvs)) ∧ R (Iti d o kvs) H1)
    (hbase : attributeBase e "items" X.env (eval e X.env) = eval e X.env := by rfl) (hline : (apos.endLine == cpos.line) = true := by rfl) : WI X (.Tuple elts kk tpos) (.Call (.Attribute e "items" apos) [] [] cpos) σ H R :=
  WI.of (pi_items W.pe hbase hline) h
theorem wi_keys {e tg : Expr} {R : It → Hp → Prop} (h : W X e σ H fun x H1 => ∃ d o kvs, x = .ref d ∧ H1 d = some (.frz o (.dK kvs)) ∧ R (Itk d o kvs) H1) : WI X tg e σ H R :=
  WI.of (pi_keys W.pe) (W.mono h fun x H1 ⟨d, o, kvs, e, hd, q⟩ => ⟨d, o, e, .inl ⟨kvs, hd, q⟩⟩)
theorem wi_enumT {e : Expr} {p : Pos} {elts : List Expr} {kk : Nat} {tpos : Pos} {R : It → Hp → Prop} (hm : X.mg "enumerate" = none) (h : WA X [e] σ H fun vs H1 => ∃ a xs, vs = [.ref a] ∧ SqT X.K H1 a xs ∧ R (IteT X.K a) H1) (hg : Gl X "enumerate" := by rfl)
    (hs : starEach [e] X.env = [(false, eval e X.env)] := by rfl) : WI X (.Tuple elts kk tpos) (.Call (.Name "enumerate" p) [e] [] pos) σ H R := WI.of (pi_enumT hg hm WA.pa hs) h
theorem wi_zip {e e2 : Expr} {p : Pos} {elts : List Expr} {kk : Nat} {tpos : Pos} {R : It → Hp → Prop} (hm : X.mg "zip" = none) (h : WA X [e, e2] σ H fun vs H1 => ∃ a b xs ys, vs = [.ref a, .ref b] ∧ SqL X.K H1 a xs ∧ SqL X.K H1 b ys ∧ R (Itz X.K a b) H1) (hg : Gl X "zip" := by rfl)
    (hs : starEach [e, e2] X.env = (false, eval e X.env) :: starEach [e2] X.env := by rfl) (hpl : (backTo pos (starEach [e2] X.env)).any (·.1) = false := by rfl) : WI X (.Tuple elts kk tpos) (.Call (.Name "zip" p) [e, e2] [] pos) σ H R :=
  WI.of (RZ.pi_zipA hg hm WA.pa hs hpl) (WA.mono h fun vs H1 ⟨a, b, xs, ys, e, h1, h2, q⟩ => ⟨a, b, xs, ys, e, .inl ⟨h1, h2, q⟩⟩)
end
/-! ### the order of texts -/
theorem sleS {a b : Str} : strLe a b = true ↔ ¬ b.cps.toList < a.cps.toList := by
  unfold strLe
  simp
theorem str_ext {a b : Str} (h : a.cps.toList = b.cps.toList) : a = b := by
  cases a
  cases b
  simp at h
  simp [h]
theorem sle_anti {a b : Str} (h : strLe a b = true) (k : strLe b a = true) : a = b := by
  have h := sleS.mp h
  have k := sleS.mp k
  exact str_ext (List.le_antisymm (List.not_lt.mp h) (List.not_lt.mp k))
theorem sle_trans {a b c : Str} (h : strLe a b = true) (k : strLe b c = true) : strLe a c = true := by
  have h := sleS.mp h
  have k := sleS.mp k
  exact sleS.mpr (List.not_lt.mpr (List.le_trans (List.not_lt.mp h) (List.not_lt.mp k)))
theorem ltCps_eq : ∀ a b : List Nat, PySem.Spec.ltCps a b = decide (a < b)
  | [], [] => by simp [PySem.Spec.ltCps]
  | _ :: _, [] => by simp [PySem.Spec.ltCps]
  | [], _ :: _ => by simp [PySem.Spec.ltCps]
  | x :: a, y :: b => by
    rw [PySem.Spec.ltCps, ltCps_eq a b, Bool.eq_iff_iff]
    simp [List.cons_lt_cons_iff]
theorem sortedS_pw : ∀ {zs : List Str}, sortedS zs = true → zs.Pairwise fun a b => strLe a b = true := by
  have key : ∀ (zs : List Str) (x : Str), PyProof.Rows.risingS x zs = true → (x :: zs).Pairwise fun a b => strLe a b = true := by
    intro zs
    induction zs with
    | nil => intro x _; exact List.pairwise_singleton _ _
    | cons y zs ih =>
      intro x h
      obtain ⟨h1, h2⟩ := Bool.and_eq_true_iff.mp (show (!PySem.Spec.ltCps y.cps.toList x.cps.toList && PyProof.Rows.risingS y zs) = true from h)
      have p := ih y h2
      rw [ltCps_eq] at h1
      refine List.pairwise_cons.mpr ⟨fun z hz => ?_, p⟩
      rcases List.mem_cons.mp hz with rfl | hz
      · exact h1
      · exact sle_trans h1 ((List.pairwise_cons.mp p).1 z hz)
  intro zs h
  cases zs with
  | nil => exact .nil
  | cons x zs => exact key zs x h
theorem perm_pw_eq {xs ys : List Str} (p : xs.Perm ys) (h : xs.Pairwise fun a b => strLe a b = true) (k : ys.Pairwise fun a b => strLe a b = true) : xs = ys := by
  induction xs generalizing ys with
  | nil => exact p.nil_eq
  | cons x xs ih =>
    cases ys with
    | nil => exact absurd p.symm.nil_eq (by simp)
    | cons y ys =>
      have h' := List.pairwise_cons.mp h
      have k' := List.pairwise_cons.mp k
      have e : x = y := by
        have h1 : x ∈ y :: ys := p.mem_iff.mp List.mem_cons_self
        have h2 : y ∈ x :: xs := p.mem_iff.mpr List.mem_cons_self
        rcases List.mem_cons.mp h1 with e | h1
        · exact e
        rcases List.mem_cons.mp h2 with e | h2
        · exact e.symm
        exact sle_anti (h'.1 y h2) (k'.1 x h1)
      subst e
      rw [ih (p.cons_inv) h'.2 k'.2]
theorem sle_refl (a : Str) : strLe a a = true := sleS.mpr (List.lt_irrefl _)
theorem dataLe_strs : dataLe false PyData.str = strLe := by
  have e := PySem.W.dataLe_str (β := Str) (fun z => z)
  funext a b
  have e2 := congrFun (congrFun e a) b
  show dataLe false (fun b => PyData.str b) a b = _
  rw [e2]
  unfold strLe
  rw [Bool.eq_iff_iff]
  simp [List.not_lt]
theorem sle_total (a b : Str) : (strLe a b || strLe b a) = true := by
  rcases Classical.em (strLe a b = true) with h | h
  · rw [h, Bool.true_or]
  · have e : strLe b a = true := by
      refine sleS.mpr fun c => ?_
      refine h (sleS.mpr fun d => ?_)
      exact List.lt_asymm c d
    rw [e, Bool.or_true]
theorem sortStr_pw (zs : List Str) : (zs.mergeSort (dataLe false PyData.str)).Pairwise fun a b => strLe a b = true := by
  rw [dataLe_strs]
  exact List.pairwise_mergeSort (le := strLe) (fun a b c => sle_trans) sle_total zs
end Ax
end
section
set_option maxHeartbeats 4000000
/-! calls without arguments; texts put together; xs == [] -/
namespace Ax
open PySem PySem.Spec PyProof.Rows L2
section
variable {X : Cx} {σ : L2.St} {H : Hp} {Q : VK} {pos : Pos}
theorem w_call0 {x : Str} {k : Nat} {sp : Sp} {p : Pos} {E : XK} (C : Callee X.prog X.w X.K X.mg X.base x k [] sp) (hr : Room k X.A) (hx : Passes (L2.CX X.prog X.w) X E) (h : sp [] H Q E) (hg : Gl X x := by rfl)
    (hdb : (x == ("__debug__" : Str)) = false := by decide) : W X (.Call (.Name x p) [] [] pos) σ H Q := by
  obtain ⟨f, fd, F, B, hm, hk⟩ := C.ex
  exact W.of (pe_call0 F hr hg hm hk B .nil hx hdb) h
theorem bv_catS {i j : Str} (hl : i.length + j.length ≤ sizeLine) (h : Q (.str (i ++ j)) H) : BinV X .Add (.str i) (.str j) H Q := ⟨_, op_add_str, i, j, rfl, rfl, hl, h⟩
theorem cv_eq_nil {p q : Addr} {xs : List V} (hu : X.A.units < cLine) (hp : SqL X.K H p xs) (hq : SqL X.K H q []) (h : Q (.bl xs.isEmpty) H) : CmpV X .Eq (.ref p) (.ref q) H Q := by
  refine ⟨fun x y H Q => x = .ref p ∧ y = .ref q ∧ SqL X.K H p xs ∧ SqL X.K H q [] ∧ Q (.bl xs.isEmpty) H, ?_, rfl, rfl, hp, hq, h⟩
  rintro pins s σ H x y v u Q I rx ry ⟨rfl, rfl, h1, h2, q⟩
  cases rx
  cases ry
  obtain ⟨its, r, pl, _⟩ := I.list h1
  obtain ⟨its2, r2, pl2, _⟩ := I.list h2
  cases r2
  have hl := r.length
  cases xs with
  | nil =>
    cases r
    exact SeqAt.RcAt.lists (e := fun _ => true) pl.isList pl2.isList rfl hu (fun j h1 _ => absurd h1 (by simp)) _ _ _ _ ⟨.bl _, H, I, rfl, q⟩
  | cons y ys =>
    cases r with
    | cons r1 rt => exact SeqAt.RcAt.lists_lengths pl.isList pl2.isList (by simp) hu _ _ _ _ ⟨.bl _, H, I, rfl, q⟩
end
end Ax
namespace Ax
open PySem PySem.Spec PyProof.Rows L2
section
variable {X : Cx} {σ : L2.St} {H : Hp} {Q : VK}
theorem call_repr_bool : CallR X (.builtin "repr") (fun xs H Q => ∃ b, xs = [.bl b] ∧ Q (.str (if b then "True" else "False")) H) := by
  intro pins s σ H xs us Q I r h
  obtain ⟨b, rfl, q⟩ := h
  obtain ⟨u, rfl, hu⟩ := vals1 r
  cases (show u = Value.bool b from hu)
  exact PySem.P.repr_of_bool ⟨.str _, H, I.tok _, ⟨_, rfl⟩, q⟩
theorem kv_reprB {b : Bool} (h : Q (.str (if b then "True" else "False")) H) : CallV X (.builtin "repr") [.bl b] H Q := ⟨_, call_repr_bool, b, rfl, h⟩
end
end Ax
namespace Ax
open PySem PySem.Spec PyProof.Rows L2
/-- data, an empty dict, or an own object -/
inductive AnyG (K : PySem.W.Frag) (H : Hp) : V → Option PyData → Prop
  | reg {v : V} {o : Option PyData} (h : AnyR K H v o) : AnyG K H v o
  | own {a C dx : Addr} {fs : List (Str × V)} (h : H a = some (.ins C dx fs)) (kc : KC K C) (n : ∀ T ∈ ["str", "int", "bool", "tuple", "list"], PySem.W.kitOne K (.ref C) (.type T) = some false) : AnyG K H (.ref a) none
theorem AnyG.same {K : PySem.W.Frag} {H H' : Hp} {v : V} {o : Option PyData} (a : AnyG K H v o) (s : Same H H') : AnyG K H' v o := by
  cases a with
  | reg h =>
    cases h with
    | dat h => exact .reg (.dat (dp_same s h))
    | dct h => exact .reg (.dct (s _ _ h))
  | own h kc n => exact .own (s _ _ h) kc n
theorem AnyG.any {K : PySem.W.Frag} {H : Hp} {v : V} {o : Option PyData} (a : AnyG K H v o) (ok : o.all okD = true) : AnyV K H v o := by
  cases a with
  | reg h => exact (h.anyX ok).any
  | own h kc n => exact .oth (kc.ty h) n
section
variable {X : Cx} {e : Expr} {es : List Expr} {σ : L2.St} {H H0 : Hp} {Q : VK} {pos : Pos} {d : PyData}
structure LitY (X : Cx) (es : List Expr) (σ : L2.St) (H0 : Hp) (os : List (Option PyData)) : Prop where
  len : os.length = es.length
  run : ∀ H Q, Same H0 H → (∀ vs H', Same H H' → All2 (AnyG X.K H') vs os → Q vs H') → WA X es σ H Q
variable {os : List (Option PyData)}
theorem lity_nil : LitY X [] σ H0 [] := ⟨rfl, fun H Q _ h => wa_nil (h _ H (Same.refl _) .nil)⟩
theorem lity_cons (h1 : Lit X e σ H0 d) (h2 : LitY X es σ H0 os) (hs : starEach (e :: es) X.env = (false, eval e X.env) :: starEach es X.env := by rfl) : LitY X (e :: es) σ H0 (some d :: os) :=
  ⟨by rw [List.length_cons, List.length_cons, h2.len], fun H Q s h => wa_cons (h1.run H _ s fun v H1 s1 hd => h2.run H1 _ (s.trans s1) fun vs H2 s2 hds => h _ H2 (s1.trans s2) (.cons (.reg (.dat (dp_same s2 hd))) hds)) hs⟩
theorem lity_dict (h2 : LitY X es σ H0 os) (hs : starEach (.Dict [] [] pos :: es) X.env = (false, eval (.Dict [] [] pos) X.env) :: starEach es X.env := by rfl) : LitY X (.Dict [] [] pos :: es) σ H0 (none :: os) :=
  ⟨by rw [List.length_cons, List.length_cons, h2.len], fun H Q s h => wa_cons (w_dict0 fun p H1 s1 n1 hp => h2.run H1 _ (s.trans s1) fun vs H2 s2 hds => h _ H2 (s1.trans s2) (.cons (.reg (.dct (s2 _ _ hp))) hds)) hs⟩
/-- a thing by its value -/
theorem lity_val {v : V} {o : Option PyData} (h1 : ∀ H Q, Same H0 H → Q v H → W X e σ H Q) (a : AnyG X.K H0 v o) (h2 : LitY X es σ H0 os) (hs : starEach (e :: es) X.env = (false, eval e X.env) :: starEach es X.env := by rfl) : LitY X (e :: es) σ H0 (o :: os) :=
  ⟨by rw [List.length_cons, List.length_cons, h2.len], fun H Q s h => wa_cons (h1 H _ s (h2.run H _ s fun vs H2 s2 hds => h _ H2 s2 (.cons (a.same (s.trans s2)) hds))) hs⟩
theorem w_listY (os : List (Option PyData)) (h : LitY X es σ H0 os) (s : Same H0 H) (q : ∀ p vs H2, Same H H2 → H p = none → H2 p = some (.lst vs) → All2 (AnyG X.K H2) vs os → Q (.ref p) H2) (hl : es.length ≤ 100 := by decide) : W X (.List es pos) σ H Q :=
  w_lst (h.run H _ s fun vs H1 s1 hd => ⟨by rw [hd.len, h.len]; exact Nat.le_trans hl (by decide), fun p H2 s2 n2 hp => q p vs H2 (s1.trans s2) (same_nul s1 n2) hp (hd.imp fun _ _ a => a.same s2)⟩)
theorem bv_catY {p q : Addr} {xs ys : List V} {as bs : List (Option PyData)} (h1 : H p = some (.lst xs)) (h2 : H q = some (.lst ys)) (a : All2 (AnyG X.K H) xs as) (b : All2 (AnyG X.K H) ys bs) (hl : as.length + bs.length ≤ 1000)
    (h : ∀ r H2, Same H H2 → H r = none → H2 r = some (.lst (xs ++ ys)) → All2 (AnyG X.K H2) (xs ++ ys) (as ++ bs) → Q (.ref r) H2) : BinV X .Add (.ref p) (.ref q) H Q :=
  bv_cat h1 h2 (by rw [a.len, b.len]; exact Nat.le_trans hl (by decide)) fun r H2 s n e => h r H2 s n e ((a.imp fun _ _ q => q.same s).app (b.imp fun _ _ q => q.same s))
theorem cv_notB {a b : Bool} (h : Q (.bl (!decide (a = b))) H) : CmpV X .IsNot (.bl a) (.bl b) H Q := ⟨_, op_notBl, a, b, rfl, rfl, h⟩
end
end Ax
namespace Ax
open PySem PySem.Spec PyProof.Rows L2
section
variable {X : Cx} {σ : L2.St} {H : Hp} {Q : VK} {pos : Pos} {k1 v1 k2 v2 : Expr}
/-- {k1: v1, k2: v2} -/
theorem w_dict2 (h : ∀ p H1, Same H H1 → H p = none → H1 p = some (.dK []) → W X k1 σ H1 fun a1 H2 => W X v1 σ H2 fun b1 H3 => W X k2 σ H3 fun a2 H4 => W X v2 σ H4 fun b2 H5 => H5 p = some (.dK []) ∧ ∃ x1 x2 : Key, a1 = kV x1 ∧ a2 = kV x2 ∧ Q (.ref p) (upd H5 p (.dK (putsL [(x1, b1), (x2, b2)])))) :
    W X (.Dict [some k1, some k2] [v1, v2] pos) σ H Q := by
  refine W.of (pe_disp (trs := [(W X k1, W X v1), (W X k2, W X v2)]) (pps_cons W.pe W.pe (pps_cons W.pe W.pe pps_nil)) rfl rfl (by simp) (by simp)) ?_
  intro p hp
  refine W.mono (h p _ (same_new hp) hp upd_same) fun a1 H2 h => ?_
  refine W.mono h fun b1 H3 h => ?_
  refine W.mono h fun a2 H4 h => ?_
  refine W.mono h fun b2 H5 ⟨h5, x1, x2, e1, e2, q⟩ => ?_
  exact ⟨h5, [(x1, b1), (x2, b2)], by rw [e1, e2] <;> rfl, (show 2 ≤ 15 by decide), q⟩
end
end Ax
end
section
set_option maxHeartbeats 2000000
namespace Ax
open PySem PySem.Spec PyProof.Rows L2
/-! ### sets of ints and texts that can be walked -/
def keyM : Value → Option Key
  | .int i _ => some (.inl i)
  | .str x _ => some (.inr x)
  | _ => none
theorem keyM_rel {k : Key} {u : Value} (r : RelV (kV k) u) : keyM u = some k := by
  cases k <;> (obtain ⟨t, rfl⟩ := r; rfl)
def keyE (e : Int × Value) : Option Key := keyM e.2
section
variable {P : Program} {w : World}
def GoodM (P : Program) (w : World) (e : Int × Value) : Prop := ∃ k, RelV (kV k) e.2 ∧ e.1 = (mixKind P w).hash k
/-- the set at a: its members S, their number n; its table rises -/
def SetM (P : Program) (w : World) (h : Heap) (a : Addr) (S : Key → Bool) (n : Nat) : Prop :=
  ∃ o es ep t, h.get? a = some o ∧ o.ExactSet ∧ o.data = .set es ep t ∧ (∀ e ∈ es.toList, GoodM P w e) ∧ ((es.toList.map keyE).Nodup ∧ ∀ k, S k = true ↔ some k ∈ es.toList.map keyE) ∧
    es.size < scanBound ∧ t.fits es.size = true ∧ es.size = n ∧ Ris t.place.toList ∧ (w.params.followText "set-order" = true ∨ t.led = true)
variable {h h' : Heap} {a : Addr} {S : Key → Bool} {n : Nat}
theorem SetM.keep (R : SetM P w h a S n) (k : ∀ o, h.get? a = some o → h'.get? a = some o) : SetM P w h' a S n :=
  let ⟨o, es, ep, t, ho, r⟩ := R
  ⟨o, es, ep, t, k o ho, r⟩
theorem SetM.as {S' : Key → Bool} (R : SetM P w h a S n) (e : ∀ k, S' k = S k) : SetM P w h a S' n := (funext e : S' = S) ▸ R
theorem goodM_elems {l : List (Int × Value)} (g : ∀ e ∈ l, GoodM P w e) : ElemsOf (mixKind P w) l := fun e he =>
  let ⟨k, h1, h2⟩ := g e he
  ⟨⟨k, kV_is h1, h2⟩, key_scan h1⟩
theorem goodM_is {e : Int × Value} (g : GoodM P w e) (k : Key) : (mixKind P w).is k e.2 = true ↔ keyE e = some k := by
  obtain ⟨k0, h1, _⟩ := g
  have e1 : keyE e = some k0 := keyM_rel h1
  rw [e1]
  constructor
  · intro q
    rw [(mixKind P w).inj _ _ _ (kV_is h1) q]
  · intro q
    cases q
    exact kV_is h1
theorem goodM_mem {l : List (Int × Value)} (g : ∀ e ∈ l, GoodM P w e) (k : Key) : some k ∈ l.map keyE ↔ ∃ e ∈ l, (mixKind P w).is k e.2 = true := by
  simp only [List.mem_map]
  exact ⟨fun ⟨e, he, q⟩ => ⟨e, he, (goodM_is (g e he) k).mpr q⟩, fun ⟨e, he, q⟩ => ⟨e, he, (goodM_is (g e he) k).mp q⟩⟩
end
section
variable {P : Program} {w : World} {A : Around} {E : Value → Shared → Prop} {s : Shared} {a : Addr} {S : Key → Bool} {n : Nat}
theorem setM_tail {g : Bool → Sem Unit} (hg : ∀ (b : Bool) (s1 : Shared) (Z : Unit → Shared → Prop), Z () s1 → wpAny (model P w) A (g b) Z E s1)
    {o : Obj} {es : Array (Int × Value)} {ep : Nat} {t : SetTable} (ho : s.heap.get? a = some o) (hex : o.ExactSet) (hd : o.data = .set es ep t)
    {es1 : Array (Int × Value)} {t2 : SetTable} {S1 : Key → Bool} (g1 : ∀ e ∈ es1.toList, GoodM P w e) (m1 : (es1.toList.map keyE).Nodup ∧ ∀ k, S1 k = true ↔ some k ∈ es1.toList.map keyE)
    (hb : es1.size < scanBound) (hf : t2.fits es1.size = true) (hr : Ris t2.place.toList) (hl : w.params.followText "set-order" = true ∨ t2.led = true) {wd : Bool} {R : Option Bool → Shared → Prop}
    (hR : ∀ h', Heap.SameBut a s.heap h' → SetM P w h' a S1 es1.size → R (some true) { s with heap := h' }) :
    wpAny (model P w) A (do storeSet a es1 t2
                            if (!wd && t2.tooFull) = true then do g (relayAll t2 es1 (SetTable.grown es1.size)).2.2
                                                                  storeSet a (relayAll t2 es1 (SetTable.grown es1.size)).1 (relayAll t2 es1 (SetTable.grown es1.size)).2.1
                                                                  pure (some true)
                            else pure (some true)) R E s := by
  have o1 := store_at (es' := es1) (t' := t2) ho hd
  have b1 := Heap.SameBut.update s.heap a (Obj.putSet es1 t2)
  refine wpAny_bind (wpAny_storeSet_of ho hd ?_ (fits_of_scanBound hb))
  split
  · have pm := relayAll_perm t2 es1 (SetTable.grown es1.size)
    have f3 := relayAll_fits t2 es1 (SetTable.grown es1.size)
    have r3 := relayAll_ris t2 es1 (SetTable.grown es1.size)
    have l3 := relayAll_led t2 es1 (SetTable.grown es1.size)
    revert pm f3 r3 l3
    generalize relayAll t2 es1 (SetTable.grown es1.size) = Z
    obtain ⟨es2, t3, gv⟩ := Z
    intro pm f3 r3 l3
    have hz : es2.size = es1.size := by simpa using pm.length_eq
    refine wpAny_bind (hg _ _ _ (wpAny_bind (wpAny_storeSet_of o1 rfl (wpAny_pure (hR _ (b1.trans (Heap.SameBut.update _ a _)) ?_)) (fits_of_scanBound (by rw [hz]; exact hb)))))
    exact ⟨_, es2, _, t3, store_at (es' := es2) (t' := t3) o1 rfl, hex, rfl, fun e he => g1 e (pm.mem_iff.mp he), ⟨(pm.map keyE).nodup_iff.mpr m1.1, fun k => (m1.2 k).trans (pm.map keyE).mem_iff.symm⟩, by rw [hz]; exact hb, f3, hz, r3, hl.imp id fun z => l3.trans z⟩
  · exact wpAny_pure (hR _ b1 ⟨_, es1, _, t2, o1, hex, rfl, g1, m1, hb, hf, rfl, hr, hl⟩)
/-- a key is put in -/
theorem setM_add {k : Key} {u : Value} (hk : RelV (kV k) u) {Q : Bool → Shared → Prop} (R : SetM P w s.heap a S n) (room : n + 1 < scanBound)
    (hQ : ∀ h', Heap.SameBut a s.heap h' → SetM P w h' a (fun j => S j || decide (j = k)) (if S k = true then n else n + 1) → Q (!S k) { s with heap := h' }) :
    wpAny (model P w) A (setAddHashed a u ((mixKind P w).hash k)) Q E s := by
  obtain ⟨o, es, ep, t, ho, hex, hd, g, ⟨nd, hm⟩, hb, hf, hn, hr, hl⟩ := R
  have is1 : (mixKind P w).is k u = true := kV_is hk
  have sc1 : u.scannable = true := key_scan hk
  have el1 : ElemsOf (mixKind P w) es.toList := goodM_elems g
  unfold setAddHashed setAddHashedIn
  refine wpAny_holding (wpAny_bind (wpAny_setState_of ho hd hf ?_))
  dsimp only
  rw [byScan_of sc1 hb el1]
  simp only [↓reduceIte]
  unfold setAddByScan
  refine wpAny_bind (wpAny_bind (wpAny_rule (wpAny_bind (wpAny_setScan_of is1 ho hd hf el1 ?_))))
  cases hfi : List.findIdx? (fun e => (mixKind P w).is k e.2) es.toList with
  | some j =>
    obtain ⟨hj, pj, _⟩ := List.findIdx?_eq_some_iff_getElem.mp hfi
    have hS : S k = true := (hm k).mpr ((goodM_mem g k).mpr ⟨_, List.getElem_mem hj, pj⟩)
    have q := hQ s.heap (Heap.SameBut.refl a s.heap)
    rw [hS, if_pos rfl] at q
    refine wpAny_pure (wpAny_pure (q ⟨o, es, ep, t, ho, hex, hd, g, ⟨nd, fun i => ?_⟩, hb, hf, hn, hr, hl⟩))
    rw [Bool.or_eq_true, decide_eq_true_eq, ← hm i]
    exact ⟨fun z => z.elim id fun e => e ▸ hS, Or.inl⟩
  | none =>
    have hnk : some k ∉ es.toList.map keyE := fun z => by
      obtain ⟨e, he, q⟩ := (goodM_mem g k).mp z
      have c := List.findIdx?_eq_none_iff.mp hfi e he
      rw [c] at q
      cases q
    have hS : S k = false := by
      cases q : S k with
      | true => exact absurd ((hm k).mp q) hnk
      | false => rfl
    have rl : ∀ (b : Bool) {s1 : Shared} {Z : Unit → Shared → Prop}, Z () s1 → wpAny (model P w) A (match b with | true => rule "set.scan.the-table-gave-way" | false => pure ()) Z E s1 := fun b s1 Z q => by
      cases b <;> first | exact wpAny_pure q | exact wpAny_rule q
    have pm := layNew_perm t es ((mixKind P w).hash k) u
    have f1 := layNew_fits t es ((mixKind P w).hash k) u
    have r1 := layNew_ris t es ((mixKind P w).hash k) u hr
    have l1 := layNew_led t es ((mixKind P w).hash k) u
    revert pm f1 r1 l1
    generalize layNew t es ((mixKind P w).hash k) u = Z
    obtain ⟨es1, t1, wd, gv⟩ := Z
    intro pm f1 r1 l1
    dsimp only at pm f1 r1 l1 ⊢
    rw [Array.toList_push] at pm
    have pc : es1.toList.Perm (((mixKind P w).hash k, u) :: es.toList) := pm.trans (List.perm_append_singleton _ _)
    have pk : (es1.toList.map keyE).Perm (some k :: es.toList.map keyE) := by
      have e := pc.map keyE
      rw [List.map_cons, show keyE ((mixKind P w).hash k, u) = some k from keyM_rel hk] at e
      exact e
    have g1 : ∀ e ∈ es1.toList, GoodM P w e := fun e he => by
      rcases List.mem_cons.mp (pc.mem_iff.mp he) with rfl | z
      · exact ⟨k, hk, rfl⟩
      · exact g e z
    have m1 : (es1.toList.map keyE).Nodup ∧ ∀ i, (S i || decide (i = k)) = true ↔ some i ∈ es1.toList.map keyE := by
      refine ⟨pk.nodup_iff.mpr (List.nodup_cons.mpr ⟨hnk, nd⟩), fun i => ?_⟩
      rw [Bool.or_eq_true, decide_eq_true_eq, hm i, pk.mem_iff, List.mem_cons, Option.some_inj]
      exact Or.comm
    have hz : es1.size = n + 1 := by
      have e := pc.length_eq
      simp only [List.length_cons, Array.length_toList] at e
      omega
    have hb1 : es1.size < scanBound := hz ▸ room
    have hl1 : w.params.followText "set-order" = true ∨ t1.led = true := hl.imp id fun z => l1.trans z
    have fin : ∀ h', Heap.SameBut a s.heap h' → SetM P w h' a (fun j => S j || decide (j = k)) es1.size → Q true { s with heap := h' } := fun h' sb r => by
      have q := hQ h' sb
      rw [hS] at q
      exact q (by rw [← hz]; exact r)
    refine wpAny_bind (rl _ ?_)
    split
    · refine wpAny_bind ?_
      rw [hashByValue_scannable 8 sc1]
      refine wpAny_pure (setM_tail (fun b s1 Z q => by cases b <;> first | exact wpAny_pure q | exact wpAny_rule q) ho hex hd g1 m1 hb1 ?_ ?_ ?_ fun h' sb r => wpAny_pure (fin h' sb r))
      · first | exact f1 | (split <;> first | exact f1 | exact SetTable.fits_plain_off f1)
      · first | exact r1 | (split <;> exact r1)
      · first | exact hl1 | (split <;> exact hl1)
    · refine wpAny_bind (wpAny_pure ?_)
      simp only [↓reduceIte]
      exact setM_tail (fun b s1 Z q => by cases b <;> first | exact wpAny_pure q | exact wpAny_rule q) ho hex hd g1 m1 hb1 f1 r1 hl1 fun h' sb r => wpAny_pure (fin h' sb r)
end
end Ax
end
section
set_option maxHeartbeats 4000000
namespace Ax
open PySem PySem.Spec PyProof.Rows L2
section
variable {P : Program} {w : World} {A : Around} {E : Value → Shared → Prop} {s : Shared}
/-- one of the keys -/
def inKs (ks : List Key) (j : Key) : Bool := ks.any fun i => decide (i = j)
theorem inKs_iff {ks : List Key} {j : Key} : inKs ks j = true ↔ j ∈ ks := by
  unfold inKs
  rw [List.any_eq_true]
  exact ⟨fun ⟨x, h1, h2⟩ => of_decide_eq_true h2 ▸ h1, fun h => ⟨j, h, decide_eq_true rfl⟩⟩
theorem setM_start {h : Heap} {a : Addr} {S : Key → Bool} (hS : ∀ k, S k = false) (ho : h.get? a = some { cls := .type "set", dict := none, data := .set #[] 0 (.fresh 0 0 (!w.params.followText "set-order")) }) : SetM P w h a S 0 := by
  refine ⟨_, #[], 0, _, ho, ⟨rfl, rfl, rfl⟩, rfl, fun e he => by simp at he, ⟨by simp, fun k => by simp [hS k]⟩, by decide, rfl, rfl, List.Pairwise.nil, ?_⟩
  cases e : w.params.followText "set-order"
  · exact .inr rfl
  · exact .inl rfl
/-- the items of a walk are put in -/
theorem setM_loop {I : Addr} {fp wr : List Addr} {G : Array GenState → Array GenState → Prop} {n : Nat} {Pv : Nat → Value → Prop} {St : Nat → Shared → Prop} {R : Result → Shared → Prop} (W : WalksS P w A.in1 I fp wr G n Pv St) (S : Addr) (hSf : S ∉ fp) (ks : List Key) (hn : n = ks.length)
    (hb : ks.length + 1 < scanBound) (hval : ∀ (i : Nat) (v : Value), Pv i v → ∃ k, ks[i]? = some k ∧ RelV (kV k) v) : ∀ (m i : Nat) (s : Shared), n - i = m → i ≤ n → St i s → (∃ c, c ≤ i ∧ SetM P w s.heap S (inKs (ks.take i)) c) →
      (∀ s' c, Moved (S :: wr) G s s' → c ≤ n → SetM P w s'.heap S (inKs ks) c → R (.ok (.ret .none)) s') → codeAny (model P w) A (.builtin "set.update.loop" ⟨[.ref S, .ref I], []⟩) R s := by
  have nw : S ∉ wr := fun h => hSf (W.sub _ h)
  have sub : ∀ b ∈ wr, b ∈ S :: wr := fun _ => List.mem_cons_of_mem _
  intro m
  induction m with
  | zero =>
    intro i s hm hi hst ⟨c, hc, hS⟩ hR
    obtain rfl : i = n := by omega
    refine codeAny_builtin F.entry_set_update_loop ?_; rw [Around.under_plainId F.plain_set_update_loop _]
    show wpAny _ A.in1 (pyNext (.ref I) >>= _) _ _ s; refine wpAny_bind (W.done s _ _ hst fun s' mv => ?_)
    show wpAny _ A.in1 (ret Value.none) _ _ s'; refine wpAny_pure (hR s' c (mv.mono sub) hc ?_)
    rw [show ks.take i = ks from List.take_of_length_le (by omega)] at hS
    exact hS.keep fun o e => mv.heap S o nw e
  | succ m ih =>
    intro i s hm hi hst ⟨c, hc, hS⟩ hR
    have lt : i < n := by omega
    refine codeAny_builtin F.entry_set_update_loop ?_; rw [Around.under_plainId F.plain_set_update_loop _]
    show wpAny _ A.in1 (pyNext (.ref I) >>= _) _ _ s; refine wpAny_bind (W.item i s _ _ lt hst fun v s' hP hst' mv => ?_)
    obtain ⟨k, hk, rk⟩ := hval i v hP
    have hS1 : SetM P w s'.heap S (inKs (ks.take i)) c := hS.keep fun o e => mv.heap S o nw e
    show wpAny _ A.in1 (holding [v] (setAdd S v) >>= _) _ _ s'; refine wpAny_bind (wpAny_holding ?_); unfold setAdd
    refine wpAny_holding (wpAny_bind ((mixKind P w).pyHash (k := k) (kV_is rk) ?_))
    refine setM_add (s := { s' with toks := s'.toks + 1 }) rk hS1 (by omega) fun h' sb hS2 => ?_
    have hS3 : SetM P w h' S (inKs (ks.take (i + 1))) (if inKs (ks.take i) k = true then c else c + 1) := hS2.as fun j => by
      rw [List.take_add_one, hk]
      unfold inKs
      rw [List.any_append]
      congr 1
      simp only [Option.toList_some, List.any_cons, List.any_nil, Bool.or_false]
      rw [Bool.eq_iff_iff, decide_eq_true_iff, decide_eq_true_iff]
      exact eq_comm
    refine wpAny_pure ⟨plainId_quiet F.plain_set_update_loop _, ih (i + 1) _ (by omega) lt (W.frame _ s' _ _ hst' (Nat.le_succ _) fun b hb o e => (sb.2 b fun h => hSf (h ▸ hb)).trans e) ⟨_, by split <;> omega, hS3⟩ fun s2 c2 mv2 hc2 hS4 => hR s2 c2 (Moved.trans W.gtrans ((mv.mono sub).then_heap (Nat.le_succ _) fun b o hb e => (sb.2 b fun h => hb (h ▸ List.mem_cons_self)).trans e) mv2) hc2 hS4⟩
/-- set(xs) of a list of ints and texts -/
theorem call_setM {l : Addr} {items : Array Value} (ks : List Key) {Q : Value → Shared → Prop} (hh : A.handled = none) (hl : s.heap.IsList l items) (hsz : items.size = ks.length) (hval : ∀ (i : Nat) (v : Value), items[i]? = some v → ∃ k, ks[i]? = some k ∧ RelV (kV k) v) (hb : ks.length + 1 < scanBound)
    (h : ∀ (h' : Heap) (tk c : Nat), SetM P w h' s.heap.objs.size (inKs ks) c → c ≤ ks.length → (∀ b o, s.heap.get? b = some o → h'.get? b = some o) → Q (.ref s.heap.objs.size) { s with heap := h', toks := tk }) : wpAny (model P w) A (call (.type "set") [.ref l]) Q E s := by
  have mro1 := F.called_set.mro
  obtain ⟨c0, tl, hmro⟩ := mro1
  have made1 := F.called_set.made
  have sub1 := F.called_set.sub
  refine wpAny_call (codeAny_of_tree ?_); show wpAny _ _ (callAny (.type "set") _) _ _ _
  refine wpAny_pure ⟨Code.quiet_builtin _ (by decide +kernel), codeAny_builtin F.entry_type_call ?_⟩; rw [Around.under_plain (weight_type_call_type "set" [.ref l] []) rfl]
  have nt1 := F.called_set.notType; have cc1 := F.called_set.canCreate; have tc1 := F.typeCall_set_1 (.ref l)
  repeat (any_goals (first | assumption | wp_step))
  generalize hO : ({ cls := .type "set", dict := none, data := .set #[] 0 (.fresh 0 0 (!w.params.followText "set-order")) } : Obj) = O
  refine codeAny_mono (code_set_led1 (.ref l) (E := E) (Q₁ := fun obj s1 => obj = .ref s.heap.objs.size ∧ s1 = { s with heap := s.heap.push O }) ⟨rfl, by rw [← hO]⟩) fun r s1 hr => ?_
  cases r with
  | error e => exact hr
  | ok fl =>
    cases fl with
    | ret obj =>
      obtain ⟨rfl, rfl⟩ := hr
      have atS : (s.heap.push O).get? s.heap.objs.size = some O := by rw [← hO]; exact Heap.get?_push_size _ rfl
      have ty1 : Shared.TypeIs { s with heap := s.heap.push O } (.ref s.heap.objs.size) "set" := ⟨_, atS, by rw [← hO]⟩
      have li1 := F.called_set.init.lookup; have bi1 := F.called_set.init.bind (.ref s.heap.objs.size)
      repeat (any_goals (first | assumption | wp_step))
      refine codeAny_mono (codeAny_call_builtin (R := wants (fun r s2 => r = .none ∧ ∃ h' tk c, s2 = { s with heap := h', toks := tk } ∧ SetM P w h' s.heap.objs.size (inKs ks) c ∧ c ≤ ks.length ∧ ∀ b o, s.heap.get? b = some o → h'.get? b = some o) E)
        F.called_set.init.plain F.entry_set_init (check_set_init_1 ty1 ?_)) fun r2 s2 hr2 => ?_
      · obtain ⟨⟨ocls, odict, odata, oslots⟩, hol, hcl, nl, hdl⟩ := hl
        simp only at hcl hdl
        subst hcl hdl
        have hol1 : (s.heap.push O).get? l = some { cls := .type "list", dict := odict, data := .seq items nl, slots := oslots } := Heap.get?_push_of_some _ hol
        have sl1 := F.sub_list_set; have sf1 := F.sub_list_frozenset; have ne1 : (Value.type "list" == Value.type "dict") = false := by decide
        have hl1 : (s.heap.push O).IsList l items := ⟨_, hol1, rfl, nl, rfl⟩
        subst hO; unfold Builtin.«set.__init__» noKeywords Builtin.Frozenset.updateFrom
        generalize hPI : pyIter = PI; wp_walk; subst hPI
        refine wpAny_pyIter_list hl1 ?_; refine wpAny_bind (wpAny_runValue ?_)
        have ltl : l < s.heap.objs.size := Heap.lt_size hol
        have hd3 : A.in1.in1.in1.handled = none := by simpa using hh
        have zI := Heap.size_push s.heap ({ cls := .type "set", dict := none, data := .set #[] 0 (.fresh 0 0 (!w.params.followText "set-order")) } : Obj)
        have neI : l ≠ (s.heap.push ({ cls := .type "set", dict := none, data := .set #[] 0 (.fresh 0 0 (!w.params.followText "set-order")) } : Obj)).objs.size := by rw [zI]; exact Nat.ne_of_lt (Nat.lt_succ_of_lt ltl)
        have nfS : s.heap.objs.size ∉ [(s.heap.push ({ cls := .type "set", dict := none, data := .set #[] 0 (.fresh 0 0 (!w.params.followText "set-order")) } : Obj)).objs.size, l] := by
          intro z; rw [zI] at z
          rcases List.mem_cons.mp z with z | z
          · exact absurd z (Nat.ne_of_lt (Nat.lt_succ_self _))
          · exact absurd (List.mem_singleton.mp z) (Nat.ne_of_gt ltl)
        refine setM_loop ((Walks.list hd3 _ l neI items).toS) s.heap.objs.size nfS ks hsz hb hval (items.size - 0) 0 _ (by omega) (Nat.zero_le _) ⟨⟨_, Heap.get?_push_size _ rfl, rfl, rfl⟩, hl1.push _⟩ ⟨0, Nat.le_refl 0, ?_⟩ ?_
        · exact setM_start (fun k => rfl) (Heap.get?_push_of_some _ atS)
        · intro s' c mv hc hS
          obtain ⟨h', g2, d', tk', os'⟩ := s'
          have e1 : g2 = s.gens := mv.gens; have e2 : d' = s.drawn := mv.drawn; have e3 : os' = s.os := mv.os
          subst e1 e2 e3
          show wpAny _ _ _ _ _ _; refine wpAny_pure ?_; show wpAny _ _ (ret Value.none) _ _ _
          refine wpAny_pure ⟨rfl, h', tk', c, rfl, hS, by omega, fun b o e => ?_⟩
          have b1 : b < s.heap.objs.size := Heap.lt_size e
          refine mv.heap b o (fun z => ?_) (Heap.get?_push_of_some _ (Heap.get?_push_of_some _ e))
          rw [zI] at z
          rcases List.mem_cons.mp z with z | z
          · exact Nat.ne_of_lt b1 z
          · exact Nat.ne_of_lt (Nat.lt_succ_of_lt b1) (List.mem_singleton.mp z)
      · cases r2 with
        | error e => exact hr2
        | ok f2 =>
          cases f2 with
          | ret r =>
            obtain ⟨rfl, h', tk, c, rfl, hS, hc, hk⟩ := hr2
            repeat (any_goals (first | assumption | wp_step))
            exact h _ _ _ hS hc hk
          | _ => exact hr2.elim
    | _ => exact hr.elim
end
end Ax
end
section
set_option maxHeartbeats 4000000
namespace Ax
open PySem PySem.Spec PyProof.Rows L2
/-- the set of texts at a: its members are those of zs -/
def SetSO (P : Program) (w : World) (a : Addr) (zs : List Str) : HO := .ext fun h => ∃ c, SetM P w h a (inKs (zs.map Sum.inr)) c ∧ c ≤ zs.length
theorem setSO_new {P : Program} {w : World} {H : Hp} {h : Heap} {a : Addr} {zs : List Str} {c : Nat} (R : SetM P w h a (inKs (zs.map Sum.inr)) c) (hc : c ≤ zs.length) : ObjOk P w H h a (SetSO P w a zs) := by
  have ⟨o, _, _, _, ho, _⟩ := R
  exact ⟨⟨c, R, hc⟩, ⟨o, ho⟩, fun h1 h2 ⟨c, p, hc⟩ k => ⟨c, p.keep k, hc⟩⟩
theorem valsK {zs : List Str} {us : List Value} (r : Vals (zs.map V.str) us) : ∀ (i : Nat) (v : Value), us[i]? = some v → ∃ k, (zs.map (Sum.inr : Str → Key))[i]? = some k ∧ RelV (kV k) v := by
  induction zs generalizing us with
  | nil => intro i v h; cases r; simp at h
  | cons z zs ih =>
    intro i v h
    cases r with
    | cons r1 r2 =>
      cases i with
      | zero =>
        simp at h
        subst h
        exact ⟨.inr z, rfl, r1⟩
      | succ i =>
        obtain ⟨k, h1, h2⟩ := ih r2 i v (by simpa using h)
        exact ⟨k, by simpa using h1, h2⟩
section
variable {X : Cx} {H : Hp} {Q : VK}
theorem kv_setS {p : Addr} {zs : List Str} (hc : X.calm = true) (hp : SqL X.K H p (zs.map V.str)) (hn : zs.length ≤ 2000) (h : ∀ q H2, Same H H2 → H q = none → H2 q = some (SetSO X.prog X.w q zs) → Q (.ref q) H2) : CallV X (.type "set") [.ref p] H Q := by
  refine ⟨fun vs H' Q' => vs = [.ref p] ∧ H' = H ∧ Q' = Q, ?_, rfl, rfl, rfl⟩
  rintro pins s σ H0 vs us Q0 I r ⟨rfl, rfl, rfl⟩
  rw [L2.Vals.ref1 r]
  obtain ⟨its, rv, pl, _⟩ := I.list hp
  have hl : its.length = zs.length := by rw [← rv.length, List.length_map]
  refine call_setM (P := X.prog) (w := X.w) (zs.map Sum.inr) (I.ok.hd hc) pl.isList (by rw [List.size_toArray, List.length_map]; exact hl) (fun i v e => valsK rv i v (by simpa using e)) (by rw [List.length_map]; exact Nat.lt_of_le_of_lt (show zs.length + 1 ≤ 2001 by omega) (by decide)) fun h' tk c R hc2 k => ?_
  have hn1 := I.hok.fresh (Nat.le_refl s.heap.objs.size)
  rw [List.length_map] at hc2
  exact ⟨.ref s.heap.objs.size, upd H0 s.heap.objs.size (SetSO X.prog X.w s.heap.objs.size zs), I.laid (t' := tk) k (Nat.le_refl _) (setSO_new R hc2), rfl, h _ _ (same_new hn1) hn1 upd_same⟩
theorem strs_list : ∀ (l : List Value), (∀ v ∈ l, ∃ x t, v = Value.str x t) → ∃ ss : List Str, StrsAre l ss ∧ l.map keyM = ss.map fun x => some (.inr x)
  | [], _ => ⟨[], .nil, rfl⟩
  | v :: l, h => by
    obtain ⟨x, t, rfl⟩ := h _ List.mem_cons_self
    obtain ⟨ss, h1, h2⟩ := strs_list l fun v hv => h v (List.mem_cons_of_mem _ hv)
    exact ⟨x :: ss, .cons x t h1, by rw [List.map_cons, List.map_cons, h2]; rfl⟩
theorem sorted_setS {P : Program} {w : World} {A : Around} {E : Value → Shared → Prop} {s : Shared} {a : Addr} {zs : List Str} {n : Nat} {Q : Value → Shared → Prop} (R : SetM P w s.heap a (inKs (zs.map Sum.inr)) n) (hh : A.handled = none) (few : n < 64)
    (hQ : ∀ s' p (out : Array Value) (c : Nat) (ys : List Str), (∀ b o, s.heap.get? b = some o → s'.heap.get? b = some o) → s'.gens = s.gens → s'.os = s.os → s.heap.objs.size ≤ p → s'.heap.get? p = some (seqObj "list" out c) → StrsAre out.toList ys → sortedS ys = true → ys.Nodup → (∀ z, z ∈ ys ↔ z ∈ zs) → ys.length = n → Q (.ref p) s') :
    wpAny (model P w) A (call (.builtin "sorted") [.ref a]) Q E s := by
  obtain ⟨o, es, ep, t, ho, hex, hd, g, ⟨nd, hm⟩, hb, hf, hn, hr, hl⟩ := R
  have gs : ∀ e ∈ es.toList, ∃ x t, e.2 = Value.str x t ∧ x ∈ zs := fun e he => by
    obtain ⟨k, r, _⟩ := g e he
    have e1 : keyE e = some k := keyM_rel r
    have e2 := (hm k).mpr (e1 ▸ List.mem_map_of_mem he)
    obtain ⟨x, hx, rfl⟩ := List.mem_map.mp (inKs_iff.mp e2)
    obtain ⟨t, e3⟩ := r
    exact ⟨x, t, e3, hx⟩
  refine Calls.call_function_entry kind_sorted plain_sorted entry_sorted (args_sorted1 _) ?_; unfold Builtin.«sorted»
  refine wpAny_bind (m := checkCount "sorted" 1 1 _) (wpAny_pure ?_); refine wpAny_bind (collect_set (A := A.in1) hh ⟨o, ho, hex.1, hd⟩ hf hb hr hl fun s1 vs k1 hz g1 o1 pm => ?_)
  have lv : vs.length = n := by rw [pm.length_eq, List.length_map, Array.length_toList, hn]
  obtain ⟨ss, hS, hK⟩ := strs_list vs fun v hv => by
    obtain ⟨e, he, q⟩ := List.mem_map.mp (pm.mem_iff.mp hv)
    obtain ⟨x, t, e1, _⟩ := gs e he
    exact ⟨x, t, by rw [← q]; exact e1⟩
  have pk : (ss.map fun x => some (Sum.inr x : Key)).Perm (es.toList.map keyE) := by
    have q := pm.map keyM
    rw [hK, List.map_map] at q
    exact q
  have mem : ∀ z, z ∈ ss ↔ z ∈ zs := fun z => by
    have e1 : z ∈ ss ↔ some (Sum.inr z : Key) ∈ ss.map fun x => some (Sum.inr x : Key) := by
      rw [List.mem_map]
      exact ⟨fun h => ⟨z, h, rfl⟩, fun ⟨x, h, e⟩ => by cases e; exact h⟩
    rw [e1, pk.mem_iff, ← hm, inKs_iff, List.mem_map]
    exact ⟨fun ⟨x, h, e⟩ => by cases e; exact h, fun h => ⟨z, h, rfl⟩⟩
  have nds : ss.Nodup := List.Pairwise.of_map (fun x => some (Sum.inr x : Key)) (fun a b h e => h (by rw [e])) (pk.nodup_iff.mpr nd)
  refine wpAny_bind (wpAny_newList ?_ (by rw [lv, sizeLine_eq]; omega))
  have atL : (s1.heap.push (seqObj "list" vs.toArray 0)).get? s1.heap.objs.size = some (seqObj "list" vs.toArray 0) := Heap.get?_push_size _ rfl
  refine wpAny_bind (wpAny_holding (wpAny_call_entry slot_list_sort ⟨_, atL, rfl⟩ entry_list_sort (list_sort_treeK strKind_oneLt atL hS.keysOf (fun v1 v2 rest e => keyKind_strs (by rw [← e]; exact hS)) (by rw [lv]; exact few) fun st' hp hs => ⟨_, rfl, ?_⟩) (args_list_sort _)))
  obtain ⟨ys, y1, y2, y3⟩ := sorted_out_str hS hp hs
  obtain ⟨c, hc⟩ := sortedHeap_at (vs := vs) (out := (arrOf st').map (·.2)) atL
  refine wpAny_pure ⟨_, rfl, hQ _ s1.heap.objs.size ((arrOf st').map (·.2)) c ys (fun b u e => ?_) g1 o1 hz hc y1 y3 (y2.nodup_iff.mpr nds) (fun z => y2.mem_iff.trans (mem z)) ?_⟩
  · have lt1 := Heap.lt_size (k1 b u e)
    exact (sortedHeap_old (Nat.ne_of_lt lt1) (by rw [size_push']; exact Nat.lt_succ_of_lt lt1)).trans (Heap.get?_push_of_some _ (k1 b u e))
  · rw [y2.length_eq]
    have e := pk.length_eq
    simp only [List.length_map, Array.length_toList] at e
    exact e.trans hn
theorem kv_sortedSetS {a : Addr} {zs : List Str} (hc : X.calm = true) (ha : H a = some (SetSO X.prog X.w a zs)) (few : ∃ L : List Str, L.length < 64 ∧ ∀ z ∈ zs, z ∈ L)
    (h : ∀ ys q H2, Same H H2 → H q = none → H2 q = some (.lst (ys.map V.str)) → sortedS ys = true → ys.Nodup → (∀ z, z ∈ ys ↔ z ∈ zs) → Q (.ref q) H2) : CallV X (.builtin "sorted") [.ref a] H Q := by
  refine ⟨fun vs H' Q' => vs = [.ref a] ∧ H' = H ∧ Q' = Q, ?_, rfl, rfl, rfl⟩
  rintro pins s σ H0 vs us Q0 I r ⟨rfl, rfl, rfl⟩
  rw [L2.Vals.ref1 r]
  obtain ⟨n, R, hn⟩ := (I.hok a _ ha).1
  obtain ⟨L, l1, l2⟩ := few
  have f64 : n < 64 := by
    obtain ⟨o, es, ep, t, ho, hex, hd, g, ⟨nd, hm⟩, hb, hf, en, _⟩ := R
    have q : (es.toList.map keyE).length ≤ (L.map fun z => some (Sum.inr z : Key)).length := by
      have go : ∀ {xs M : List (Option Key)}, xs.Nodup → (∀ z ∈ xs, z ∈ M) → xs.length ≤ M.length := fun {xs M} a b => by
        classical exact nodup_len a b
      refine go nd fun z hz => ?_
      obtain ⟨e, he, q⟩ := List.mem_map.mp hz
      obtain ⟨k, r, _⟩ := g e he
      have e1 : keyE e = some k := keyM_rel r
      obtain ⟨x, hx, e2⟩ := List.mem_map.mp (inKs_iff.mp ((hm k).mpr (e1 ▸ List.mem_map_of_mem he)))
      rw [← q, e1, ← e2]
      exact List.mem_map.mpr ⟨x, l2 x hx, rfl⟩
    rw [List.length_map, List.length_map, Array.length_toList] at q
    omega
  refine sorted_setS R (I.ok.hd hc) f64 fun s' p out c ys k g o hp hg hi h3 h4 h5 h6 => ?_
  have hlen : (ys.map V.str).length ≤ sizeLine := by rw [List.length_map, h6]; exact Nat.le_trans (Nat.le_of_lt f64) (by decide)
  have nn : H0 p = none := I.hok.fresh hp
  have J : Inv X pins σ (upd H0 p (.lst (ys.map V.str))) { s with heap := s'.heap, gens := s'.gens, drawn := s'.drawn, toks := s'.toks } :=
    I.call (ch := []) (Un.laid k hp nn) (I.hok.laid k hp ⟨hlen, out.toList, c, vals_of_strs hi, hg⟩) (by rw [g]; exact I.bare) (fun _ z => nomatch z)
  have e : s' = { s with heap := s'.heap, gens := s'.gens, drawn := s'.drawn, toks := s'.toks } := by
    obtain ⟨_, _, _, _, _⟩ := s'
    cases o
    rfl
  rw [e]
  exact ⟨.ref p, _, J, rfl, h ys p _ (same_new nn) nn upd_same h3 h4 h5⟩
end
theorem ltCps_iff : ∀ a b : List Nat, ltCps a b = true ↔ a < b
  | [], [] => by simp [ltCps]
  | [], b :: t => by simp [ltCps]
  | a :: r, [] => by simp [ltCps]
  | a :: r, b :: t => by
    rw [ltCps, List.cons_lt_cons_iff, Bool.or_eq_true, Bool.and_eq_true, decide_eq_true_iff, beq_iff_eq, ltCps_iff r t]
def leS (a b : Str) : Prop := ¬ b.cps.toList < a.cps.toList
theorem leS_trans {a b c : Str} (h : leS a b) (k : leS b c) : leS a c := fun q => by
  have h1 : a.cps.toList ≤ b.cps.toList := h
  have h2 : b.cps.toList ≤ c.cps.toList := k
  exact (List.le_trans h1 h2) q
theorem rising_pair : ∀ (p : Str) (l : List Str), risingS p l = true → (p :: l).Pairwise leS
  | p, [], _ => by simp
  | p, x :: r, h => by
    have h : (!ltCps x.cps.toList p.cps.toList && risingS x r) = true := h
    rw [Bool.and_eq_true, Bool.not_eq_true'] at h
    have ih := rising_pair x r h.2
    have px : leS p x := fun q => by
      have := (ltCps_iff _ _).mpr q
      rw [h.1] at this
      cases this
    refine List.pairwise_cons.mpr ⟨fun y hy => ?_, ih⟩
    rcases List.mem_cons.mp hy with e | hy
    · rw [e]; exact px
    · exact leS_trans px ((List.pairwise_cons.mp ih).1 y hy)
theorem sorted_pair : ∀ {l : List Str}, sortedS l = true → l.Pairwise leS
  | [], _ => .nil
  | x :: r, h => rising_pair x r h
theorem leS_anti {a b : Str} (h : leS a b) (k : leS b a) : a = b := by
  have e : a.cps.toList = b.cps.toList := List.le_antisymm (show a.cps.toList ≤ b.cps.toList from h) (show b.cps.toList ≤ a.cps.toList from k)
  obtain ⟨⟨x⟩⟩ := a
  obtain ⟨⟨y⟩⟩ := b
  have e : x = y := e
  rw [e]
/-- two rising lists of the same texts are one -/
theorem sortedS_uniq {ys zs : List Str} (hy : sortedS ys = true) (hz : sortedS zs = true) (ny : ys.Nodup) (nz : zs.Nodup) (h : ∀ z, z ∈ ys ↔ z ∈ zs) : ys = zs :=
  List.Perm.eq_of_pairwise (fun a b _ _ => leS_anti) (sorted_pair hy) (sorted_pair hz) ((List.perm_ext_iff_of_nodup ny nz).mpr h)
end Ax
end
section
set_option maxHeartbeats 4000000
/-! sets whose members are tuples of ints and texts: the search, what is put in -/
namespace Ax
open PySem PySem.Spec PyProof.Rows L2
theorem forIn_still {α β : Type} {b : β} {f : α → β → Sem (ForInStep β)} : ∀ {l : List α}, (∀ v ∈ l, f v b = pure (.yield b)) → forIn l b f = pure b
  | [], _ => rfl
  | v :: l, h => by
    rw [List.forIn_cons, h v List.mem_cons_self, pure_bind]
    exact forIn_still fun u hu => h u (List.mem_cons_of_mem _ hu)
theorem scan_noclass {v : Value} (n : Nat) (h : v.scannable = true) : ofAClassStatement n v = pure false := by
  cases v <;> first | (cases n <;> rfl) | cases h
section
variable {P : Program} {w : World}
/-- the tuple at b has the keys k -/
abbrev TK (P : Program) (w : World) (h : Heap) (k : List Key) (b : Addr) : Prop := IsTupleKey (mixKind P w) h k b
/-- the hash of a tuple of such keys -/
def hT (P : Program) (w : World) (k : List Key) : Int := tupleKeyHash (mixKind P w) k
theorem TK.keep {h h' : Heap} {k : List Key} {b : Addr} (x : TK P w h k b) (e : ∀ o, h.get? b = some o → h'.get? b = some o) : TK P w h' k b :=
  let ⟨o, its, n, ho, r⟩ := x
  ⟨o, its, n, e o ho, r⟩
theorem TK.other {h h' : Heap} {k : List Key} {a b : Addr} {o : Obj} {es : Array (Int × Value)} {ep : Nat} {t : SetTable} (x : TK P w h k b) (ho : h.get? a = some o) (hd : o.data = .set es ep t) (sb : Heap.SameBut a h h') : TK P w h' k b := by
  have ne : b ≠ a := fun e => by
    obtain ⟨o2, its, n, g1, _, g2, _⟩ := x
    rw [e, ho] at g1
    cases g1
    rw [hd] at g2
    cases g2
  exact x.keep fun u hu => (sb.2 b ne).trans hu
theorem keys_scan {k : List Key} {vs : List Value} (h : ItemsAre (mixKind P w) k vs) : ∀ v ∈ vs, v.scannable = true := by
  induction h with
  | nil => exact fun v hv => absurd hv List.not_mem_nil
  | cons q _ ih =>
    intro v hv
    rcases List.mem_cons.mp hv with rfl | hv
    · rcases keyIs_shape q with ⟨_, _, _, rfl⟩ | ⟨_, _, _, rfl⟩ <;> rfl
    · exact ih v hv
end
section
variable {P : Program} {w : World} {A : Around} {E : Value → Shared → Prop} {s : Shared} {k : List Key} {b : Addr}
theorem tup_noclass {Q : Bool → Shared → Prop} (x : TK P w s.heap k b) (h : Q false s) : wpAny (model P w) A (ofAClassStatement 8 (.ref b)) Q E s := by
  have ty := x.typeIs
  obtain ⟨o, its, n, ho, _, hd, hi⟩ := x
  unfold ofAClassStatement
  refine wpAny_bind (wpAny_typeOf ty ?_)
  dsimp only
  rw [if_pos (show (("tuple" : String) == "tuple") = true by decide)]
  try refine wpAny_bind (wpAny_pure ?_)
  try simp only [Bool.not_true, Bool.false_eq_true, if_false]
  show wpAny _ _ (seqItems? (.ref b) >>= _) _ _ s
  refine wpAny_bind (wpAny_seqItems ho hd ?_)
  dsimp only
  rw [← Array.forIn_toList, forIn_still fun v hv => by rw [scan_noclass _ (keys_scan hi v hv), pure_bind]; rfl]
  exact wpAny_bind (wpAny_pure (wpAny_pure h))
theorem tup_byvalue {Q : Bool → Shared → Prop} (x : TK P w s.heap k b) (h : ∀ v, Q v s) : wpAny (model P w) A (hashByValue 8 (.ref b)) Q E s := by
  have ty := x.typeIs
  obtain ⟨o, its, n, ho, _, hd, hi⟩ := x
  unfold hashByValue
  refine wpAny_bind (wpAny_specialOf ty F.slot_tuple_hash.lookup ?_)
  show wpAny _ _ (seqItems? (.ref b) >>= _) _ _ s
  refine wpAny_bind (wpAny_seqItems ho hd ?_)
  dsimp only
  refine wpAny_bind ?_
  show wpAny _ _ (forIn its _ _) _ _ s
  rw [← Array.forIn_toList]
  refine wpAny_forIn_list _ (fun rest r s2 => r.1 = none ∧ s2 = s ∧ ∀ v ∈ rest, Value.scannable v = true) _ ?_ ?_ _ _ ⟨rfl, rfl, keys_scan hi⟩
  · rintro v rest r s2 ⟨hr, rfl, all⟩
    rw [hashByValue_scannable _ (all v List.mem_cons_self)]
    refine wpAny_bind (wpAny_pure ?_)
    cases plainKind v
    · exact wpAny_pure (wpAny_pure (h _))
    · exact wpAny_pure ⟨rfl, rfl, fun u hu => all u (List.mem_cons_of_mem _ hu)⟩
  · rintro ⟨r1, r2⟩ s2 ⟨e, rfl, _⟩
    cases (show r1 = none from e)
    exact wpAny_pure (h _)
theorem ask_plain {c : Bool} {α : Type} {F : Bool → Sem α} {Q : α → Shared → Prop} (x : TK P w s.heap k b) (h : ∀ v, wpAny (model P w) A (F v) Q E s) : wpAny (model P w) A (if c = true then hashByValue 8 (.ref b) >>= F else pure true >>= F) Q E s := by
  cases c
  · exact wpAny_bind (wpAny_pure (h true))
  · exact wpAny_bind (tup_byvalue x h)
theorem tup_unseen {Q : Bool → Shared → Prop} (x : TK P w s.heap k b) {ys : List Value} (hy : ∀ y ∈ ys, ∃ k2 c, y = Value.ref c ∧ TK P w s.heap k2 c) (h : Q false s) : wpAny (model P w) A (searchCouldBeSeen (.ref b) ys) Q E s := by
  unfold searchCouldBeSeen
  refine wpAny_bind (wpAny_forIn_list _ (fun rest r s2 => r.1 = none ∧ s2 = s ∧ ∀ y ∈ rest, y ∈ ys) _ ?_ ?_ _ _ ⟨rfl, rfl, fun _ z => z⟩)
  · rintro v rest r s2 ⟨_, rfl, sub⟩
    obtain ⟨k2, c, rfl, hc⟩ := hy v (sub v List.mem_cons_self)
    have sub2 : ∀ y ∈ rest, y ∈ ys := fun u hu => sub u (List.mem_cons_of_mem _ hu)
    dsimp only
    by_cases very : (b == c || (carriedByValue (.ref b) && carriedByValue (.ref c))) = true
    · exact wp_if_pos very (wpAny_pure ⟨rfl, rfl, sub2⟩)
    · refine wp_if_neg very (wpAny_bind (wpAny_eqIsQuiet_tuple x ?_))
      simp only [Bool.not_true, Bool.false_eq_true, if_false]
      refine wpAny_bind (wpAny_eqIsQuiet_tuple hc ?_)
      simp only [Bool.not_true, Bool.false_eq_true, if_false]
      refine wpAny_bind (tup_noclass x ?_)
      simp only [Bool.false_eq_true, if_false]
      refine wpAny_bind (tup_noclass hc ?_)
      simp only [Bool.false_eq_true, if_false]
      exact wpAny_pure ⟨rfl, rfl, sub2⟩
  · rintro ⟨r1, r2⟩ s2 ⟨e, rfl, _⟩
    cases (show r1 = none from e)
    exact wpAny_pure h
end
/-! ### the set -/
def entsT (P : Program) (w : World) (L : List (Addr × List Key)) : List (Int × Value) := L.map fun p => (hT P w p.2, Value.ref p.1)
theorem ents_len {P : Program} {w : World} {L : List (Addr × List Key)} {es : Array (Int × Value)} (h : es.toList = entsT P w L) : es.size = L.length := by
  rw [← Array.length_toList, h]
  unfold entsT
  rw [List.length_map]
/-- a set of less than 64 tuples; L: where they lie, and their keys -/
structure SetTK (P : Program) (w : World) (h : Heap) (a : Addr) (L : List (Addr × List Key)) (es : Array (Int × Value)) (ep : Nat) (t : SetTable) : Prop where
  ob : ∃ o, h.get? a = some o ∧ o.ExactSet ∧ o.data = .set es ep t
  ents : es.toList = entsT P w L
  tab : TabOk t (L.map fun p => hT P w p.2)
  once : (L.map (·.2)).Nodup
  tups : ∀ p ∈ L, TK P w h p.2 p.1
  led : w.params.followText "set-order" = true ∨ t.led = true
  room : L.length * 5 < t.mask * 3
  few : L.length < 64
section
variable {P : Program} {w : World} {A : Around} {E : Value → Shared → Prop} {s : Shared} {a : Addr} {L : List (Addr × List Key)} {es : Array (Int × Value)} {ep : Nat} {t : SetTable}
theorem SetTK.size {h : Heap} (R : SetTK P w h a L es ep t) : es.size = L.length := ents_len R.ents
theorem tab_fits {n : Nat} (T : t.place.size = n) (hd : t.dummies = #[]) (hn : n ≤ t.mask) : t.fits n = true := by
  unfold SetTable.fits SetTable.fill
  rw [hd, T, Bool.and_eq_true, beq_iff_eq, decide_eq_true_eq]
  exact ⟨rfl, hn⟩
theorem SetTK.fits {h : Heap} (R : SetTK P w h a L es ep t) : t.fits es.size = true := by
  have z := R.tab.sz
  have r := R.room
  rw [List.length_map] at z
  rw [R.size]
  exact tab_fits z R.tab.dm (by omega)
theorem SetTK.at {h : Heap} (R : SetTK P w h a L es ep t) {i : Nat} {p : Addr × List Key} (e : L[i]? = some p) : es[i]? = some (hT P w p.2, Value.ref p.1) := by
  rw [← Array.getElem?_toList, R.ents]
  unfold entsT
  rw [List.getElem?_map, e]
  rfl
theorem SetTK.whole {h : Heap} (R : SetTK P w h a L es ep t) : ¬ t.gaveWay = true := by
  unfold SetTable.gaveWay
  rw [mask_odd R.tab.mok]
  decide
theorem SetTK.slots {h : Heap} (R : SetTK P w h a L es ep t) {i j : Nat} (e : t.place.toList[i]? = some j) : ∃ p, L[i]? = some p ∧ p ∈ L := by
  have z := R.tab.sz
  have y := (List.getElem?_eq_some_iff.mp e).1
  rw [List.length_map] at z
  rw [Array.length_toList, z] at y
  exact ⟨L[i], List.getElem?_eq_getElem y, List.getElem_mem y⟩
def way0 (t : SetTable) (h : Int) : SetTable.Probe := runAt t.mask (SetTable.bits h % (t.mask + 1)) (SetTable.bits h)
theorem nodummy (m : Nat) : ∀ (n : Nat) (p : SetTable.Probe), p.dummy = none → (nth m p n).dummy = none
  | 0, _, h => h
  | n + 1, p, h => nodummy m n (adv m p) (by unfold adv; split <;> exact h)
/-- the search from the c-th step of its way on; K: the first empty slot -/
theorem find_from (R : SetTK P w s.heap a L es ep t) {x : Addr} {k : List Key} (hx : TK P w s.heap k x) (hu : A.units < cLine) {K : Nat} (hf : K < 10 * SetTable.turns t.mask) (hK : way t.mask (hT P w k) K ∉ t.place.toList) (hb : ∀ c, c < K → way t.mask (hT P w k) c ∈ t.place.toList)
    {Q : SetFound → Shared → Prop} (yes : k ∈ L.map (·.2) → Q (.there none) s) (no : k ∉ L.map (·.2) → Q (.free (way t.mask (hT P w k) K) false) s) :
    ∀ (f c : Nat) (st : Option SetTable.Probe), st.getD (t.probeStart (hT P w k)) = nth t.mask (way0 t (hT P w k)) c → c ≤ K → K < f + c → (∀ (i : Nat) p, L[i]? = some p → p.2 = k → ∃ c', c ≤ c' ∧ c' < K ∧ t.place.toList[i]? = some (way t.mask (hT P w k) c')) →
      wpAny (model P w) A (setSearchFrom a (.ref x) (hT P w k) true f st) Q E s := by
  obtain ⟨o, ho, hex, hd⟩ := R.ob
  intro f
  induction f with
  | zero => intro c st _ h1 h2; omega
  | succ f ih =>
    intro c st hst hc hf2 ahead
    have sh : ∀ q, nth t.mask (nth t.mask (way0 t (hT P w k)) c) q = nth t.mask (way0 t (hT P w k)) (c + q) := fun q => (nth_add t.mask c _ q).symm
    have shj : ∀ q, (nth t.mask (nth t.mask (way0 t (hT P w k)) c) q).j = way t.mask (hT P w k) (c + q) := fun q => congrArg SetTable.Probe.j (sh q)
    have cK : c + (K - c) = K := by omega
    have at_ : ∀ (i : Nat) p, L[i]? = some p → (es[i]?.map (·.1)).getD 0 = hT P w p.2 := fun i p e => by
      rw [R.at e]
      rfl
    rw [setSearchFrom_succ]
    refine wpAny_bind (wpAny_setState_of ho hd R.fits ?_); dsimp only; refine wp_if_neg R.whole ?_
    try refine wpAny_bind (wpAny_pure ?_)
    rcases go_spec t R.tab.ris R.tab.dm (fun i => (es[i]?.map (·.1)).getD 0) (hT P w k) (10 * SetTable.turns t.mask) (K - c) (nth t.mask (way0 t (hT P w k)) c) (nodummy _ _ _ rfl) (by omega)
      (fun q hq => by rw [shj]; exact hb _ (by omega)) (by rw [shj, cK]; exact hK) with ⟨q, i, hq, hi, hh, before, hp⟩ | ⟨before, hp⟩
    · have hp2 : t.probe (fun i => (es[i]?.map (·.1)).getD 0) (hT P w k) (st.getD (t.probeStart (hT P w k))) = some (.candidate (way t.mask (hT P w k) (c + q)) i (nth t.mask (way0 t (hT P w k)) (c + (q + 1)))) := by
        rw [hst, ← shj, ← sh]
        exact hp
      rw [hp2]
      dsimp only
      rw [shj] at hi
      obtain ⟨p, ep1, pm⟩ := R.slots hi
      have rest : wpAny (model P w) A (searchRest a (.ref x) (hT P w k) true f es t (way t.mask (hT P w k) (c + q)) i (nth t.mask (way0 t (hT P w k)) (c + (q + 1)))) Q E s := by
        unfold searchRest
        rw [R.at ep1]
        dsimp only
        refine wpAny_bind (wpAny_holding (wpAny_eqBool_tuple hu (R.tups p pm) hx (wpAny_bind (wpAny_setState_of ho hd R.fits ?_))))
        dsimp only
        by_cases same : p.2 = k
        · exact wp_if_pos (by simp [same]) (wpAny_pure (yes (List.mem_map.mpr ⟨p, pm, same⟩)))
        · have sl : t.slot (way t.mask (hT P w k) (c + q)) = .live i := slot_live R.tab.ris hi
          refine wp_if_neg (by simp [same]) ?_
          try refine wpAny_bind (wpAny_pure ?_)
          rw [sameMem]
          simp only [if_true, sl, R.at ep1]
          refine wpAny_bind (wpAny_isSame_ref_self (wpAny_bind (wpAny_pure ?_)))
          simp only [if_true]
          refine wp_if_neg (by simp [same]) (ih (c + (q + 1)) _ rfl (by omega) (by omega) fun i2 p2 e2 k2 => ?_)
          obtain ⟨c', g1, g2, g3⟩ := ahead i2 p2 e2 k2
          refine ⟨c', ?_, g2, g3⟩
          have n1 : ¬ c' < c + q := fun z => before (c' - c) i2 (by omega) (by rw [shj, show c + (c' - c) = c' by omega]; exact g3) ((at_ i2 p2 e2).trans (congrArg (hT P w) k2))
          have n2 : c' ≠ c + q := fun z => by
            rw [z] at g3
            have s2 := slot_live R.tab.ris g3
            rw [sl] at s2
            cases s2
            rw [ep1] at e2
            cases e2
            exact same k2
          omega
      cases hl : t.led with
      | true =>
        refine wp_if_neg (by simp) ?_
        first
          | exact rest
          | exact wpAny_bind (wpAny_pure rest)
      | false =>
        refine wp_if_pos (by simp) (wpAny_bind (tup_unseen hx (fun y hy => ?_) ?_))
        · obtain ⟨e, he, rfl⟩ := List.mem_map.mp hy
          have m1 : e ∈ es.toList := by simpa using (show e ∈ es ∧ e.1 = hT P w k by simpa using he).1
          rw [R.ents] at m1
          obtain ⟨p2, h2, rfl⟩ := List.mem_map.mp m1
          exact ⟨p2.2, p2.1, rfl, R.tups p2 h2⟩
        · refine wp_if_neg (by decide) ?_
          first
            | exact rest
            | exact wpAny_bind (wpAny_pure rest)
    · have hp2 : t.probe (fun i => (es[i]?.map (·.1)).getD 0) (hT P w k) (st.getD (t.probeStart (hT P w k))) = some (.empty (way t.mask (hT P w k) K) none) := by
        have e2 : way t.mask (hT P w k) K = (nth t.mask (nth t.mask (way0 t (hT P w k)) c) (K - c)).j := by rw [shj, cK]
        rw [hst, e2]
        exact hp
      rw [hp2]
      refine wpAny_pure (no fun hm => ?_)
      obtain ⟨p2, h2, k2⟩ := List.mem_map.mp hm
      obtain ⟨i2, e2⟩ := List.mem_iff_getElem?.mp h2
      obtain ⟨c', g1, g2, g3⟩ := ahead i2 p2 e2 k2
      exact before (c' - c) i2 (by omega) (by rw [shj, show c + (c' - c) = c' by omega]; exact g3) ((at_ i2 p2 e2).trans (congrArg (hT P w) k2))
theorem find_at (R : SetTK P w s.heap a L es ep t) {x : Addr} {k : List Key} (hx : TK P w s.heap k x) (hu : A.units < cLine) {Q : SetFound → Shared → Prop} (yes : k ∈ L.map (·.2) → Q (.there none) s)
    (no : ∀ K, k ∉ L.map (·.2) → way t.mask (hT P w k) K ∉ t.place.toList → (∀ c, c < K → way t.mask (hT P w k) c ∈ t.place.toList) → Q (.free (way t.mask (hT P w k) K) false) s) : wpAny (model P w) A (setSearch a (.ref x) (hT P w k) true) Q E s := by
  have r := R.room
  obtain ⟨K, h1, h2, h3⟩ := R.tab.first (by rw [List.length_map]; omega) (hT P w k)
  have small : 10 * SetTable.turns t.mask ≤ 90000 := by
    unfold SetTable.turns
    rcases R.tab.mok with e | e | e <;> omega
  unfold setSearch
  refine find_from R hx hu h1 h2 h3 yes (fun n => no K n h2 h3) 100000 0 none rfl (Nat.zero_le _) (by omega) fun i p e ek => ?_
  have z := R.tab.sz
  have il := (List.getElem?_eq_some_iff.mp e).1
  rw [List.length_map] at z
  have ip : i < t.place.toList.length := by rw [Array.length_toList]; omega
  have ej := List.getElem?_eq_getElem ip
  obtain ⟨c, hc, e3⟩ := R.tab.before h2 (by rw [List.getElem?_map, e, ← ek]; rfl) ej
  exact ⟨c, Nat.zero_le _, hc, by rw [ej, e3]⟩
/-! ### laid anew, put in -/
theorem range_get {α : Type} : ∀ (L : List α), (List.range L.length).filterMap (L[·]?) = L
  | [] => rfl
  | x :: L => by
    have ih := range_get L
    rw [List.length_cons, List.range_succ_eq_map, List.filterMap_cons_some (f := fun i => (x :: L)[i]?) (b := x) rfl, List.filterMap_map]
    exact congrArg (x :: ·) ih
theorem ents_order {order : Array Nat} (he : es.toList = entsT P w L) (hp : order.toList.Perm (List.range L.length)) :
    ∃ L2, (order.filterMap (es[·]?)).toList = entsT P w L2 ∧ L2.Perm L ∧ (L2.map fun p => hT P w p.2) = order.toList.map fun i => (es.map (·.1)).getD i 0 := by
  have at_ : ∀ i, es[i]? = (L[i]?).map fun (p : Addr × List Key) => (hT P w p.2, Value.ref p.1) := fun i => by
    rw [← Array.getElem?_toList, he]
    exact List.getElem?_map ..
  refine ⟨order.toList.filterMap (L[·]?), ?_, ?_, ?_⟩
  · rw [Array.toList_filterMap]
    unfold entsT
    rw [List.map_filterMap]
    exact congrArg (fun g => List.filterMap g order.toList) (funext at_)
  · have q := range_get L
    exact (hp.filterMap _).trans (by rw [q])
  · have all : ∀ i ∈ order.toList, i < L.length := fun i hi => List.mem_range.mp (hp.mem_iff.mp hi)
    revert all
    induction order.toList with
    | nil => intro _; rfl
    | cons i r ih =>
      intro all
      have hi := all i List.mem_cons_self
      rw [List.filterMap_cons_some (List.getElem?_eq_getElem hi), List.map_cons, List.map_cons, ih fun j hj => all j (List.mem_cons_of_mem _ hj)]
      congr 1
      have e : (es.map (·.1))[i]? = some (hT P w (L[i]).2) := by rw [Array.getElem?_map, at_ i, List.getElem?_eq_getElem hi]; rfl
      rw [Array.getD_eq_getD_getElem?, e]
      rfl
theorem again_at {o : Obj} (ho : s.heap.get? a = some o) (hex : o.ExactSet) (hd : o.data = .set es ep t) (he : es.toList = entsT P w L) (T : TabOk t (L.map fun p => hT P w p.2)) (hm : L.length ≤ t.mask) (once : (L.map (·.2)).Nodup) (tups : ∀ p ∈ L, TK P w s.heap p.2 p.1)
    (ld : w.params.followText "set-order" = true ∨ t.led = true) (few : L.length < 64) {n M : Nat} (hn : SetTable.sizeAbove n = M + 1) (hM : MaskOk M) (room : L.length * 5 < M * 3) {Q : Unit → Shared → Prop}
    (hQ : ∀ h' L' es' ep' t', Heap.SameBut a s.heap h' → SetTK P w h' a L' es' ep' t' → L'.Perm L → Q () { s with heap := h' }) : wpAny (model P w) A (setRelay a n) Q E s := by
  have z := ents_len he
  have z2 := T.sz
  rw [List.length_map] at z2
  have M128 : M + 1 ≤ 128 := by rcases hM with e | e | e <;> omega
  obtain ⟨t2, order, e, hp, T2, em, el, _, _⟩ := relaid_ok t (hs := es.map (·.1)) (wanted := n) (M := M) (by omega) hM (by rw [Array.size_map, z]; omega)
  rw [Array.size_map, z] at hp
  obtain ⟨L2, r1, r2, r3⟩ := ents_order (P := P) (w := w) he hp
  rw [← r3] at T2
  have z3 : (order.filterMap (es[·]?)).size = L.length := (ents_len r1).trans r2.length_eq
  rw [setRelay_eq]
  refine wpAny_bind (wpAny_setState_of ho hd (by rw [z]; exact tab_fits z2 T.dm hm) ?_); dsimp only
  refine wp_if_neg (by rw [hn, sizeLine_eq]; omega) ?_
  try refine wpAny_bind (wpAny_pure ?_)
  rw [e]
  refine wpAny_bind (wp_if_neg (by rw [z3, z]; simp) ?_)
  try refine wpAny_bind (wpAny_pure ?_)
  refine wpAny_pure (wpAny_storeSet_of ho hd ?_ (by rw [z3, sizeLine_eq]; omega))
  have sb := Heap.SameBut.update s.heap a (Obj.putSet (order.filterMap (es[·]?)) t2)
  exact hQ _ L2 _ _ t2 sb ⟨⟨_, store_at ho hd, ⟨hex.1, hex.2.1, hex.2.2⟩, rfl⟩, r1, T2, (r2.map (·.2)).nodup_iff.mpr once, fun p hp => (tups p (r2.mem_iff.mp hp)).other ho hd sb, by rw [el]; exact ld, by rw [r2.length_eq, em]; exact room, by rw [r2.length_eq]; exact few⟩ r2
/-- a tuple is put in -/
theorem put_at (R : SetTK P w s.heap a L es ep t) {x : Addr} {k : List Key} (hx : TK P w s.heap k x) (hu : A.units < cLine) (few : L.length + 1 < 64) {Q : Bool → Shared → Prop}
    (hQ : ∀ b h' L' es' ep' t', Heap.SameBut a s.heap h' → SetTK P w h' a L' es' ep' t' → (k ∈ L.map (·.2) ∧ L' = L ∨ k ∉ L.map (·.2) ∧ L'.Perm ((x, k) :: L)) → Q b { s with heap := h' }) : wpAny (model P w) A (setAddHashed a (.ref x) (hT P w k)) Q E s := by
  obtain ⟨o, ho, hex, hd⟩ := R.ob
  have z := R.size
  have room := R.room
  unfold setAddHashed
  rw [show (100000 : Nat) = 99999 + 1 from rfl, setAddHashedIn_succ]
  refine wpAny_holding (wpAny_bind (wpAny_setState_of ho hd R.fits ?_)); dsimp only
  refine wp_if_neg (by simp [byScan, Value.scannable]) ?_
  try refine wpAny_bind (wpAny_pure ?_)
  refine wpAny_bind (find_at R hx hu (fun hm => wpAny_pure (hQ false s.heap L es ep t (Heap.SameBut.refl a s.heap) R (.inl ⟨hm, rfl⟩))) fun K hm hK hb => ?_)
  dsimp only
  refine wpAny_bind (wpAny_setState_of ho hd R.fits ?_); dsimp only
  obtain ⟨q1, q2, q3, q4, q5, q6, q7, q8, q9⟩ := R.tab.put hK hb
  generalize t.put (way t.mask (hT P w k) K) = pt at q1 q3 q4 q5 q6 q7 q8 q9 ⊢
  obtain ⟨t1, p⟩ := pt
  dsimp only at q1 q3 q4 q5 q6 q7 q8 q9 ⊢
  subst q1
  generalize SetTable.below t.place (way t.mask (hT P w k) K) = p at q2 q3 ⊢
  refine ask_plain hx fun v => ?_
  have two : ∀ v : Bool, TabOk (if v = true then t1 else { t1 with plain := false }) ((L.map fun p => hT P w p.2).take p ++ hT P w k :: (L.map fun p => hT P w p.2).drop p) ∧ (if v = true then t1 else { t1 with plain := false }).mask = t1.mask ∧
      (if v = true then t1 else { t1 with plain := false }).led = t1.led ∧ (if v = true then t1 else { t1 with plain := false }).fill = t1.fill := fun v => by
    cases v
    · exact ⟨⟨q3.ris, q3.dm, q3.sz, q3.mok, q3.bd, q3.reach⟩, rfl, rfl, rfl⟩
    · exact ⟨q3, rfl, rfl, rfl⟩
  obtain ⟨w1, w2, w3, w4⟩ := two v
  rw [← w2] at q4
  rw [← w3] at q5
  rw [← w4] at q9
  generalize (if v = true then t1 else { t1 with plain := false }) = t1 at w1 q4 q5 q9 ⊢
  have in1 : (SetTable.insertAt es p (hT P w k, Value.ref x)).toList = entsT P w (L.take p ++ (x, k) :: L.drop p) := by
    rw [SetTable.toList_insertAt, R.ents]
    unfold entsT
    rw [List.map_append, List.map_cons, List.map_take, List.map_drop]
  have pm := put_perm L p (x, k)
  have T1 : TabOk t1 ((L.take p ++ (x, k) :: L.drop p).map fun p => hT P w p.2) := by
    rw [List.map_append, List.map_cons, List.map_take, List.map_drop]
    exact w1
  generalize SetTable.insertAt es p (hT P w k, Value.ref x) = es1 at in1 ⊢
  generalize L.take p ++ (x, k) :: L.drop p = L1 at pm in1 T1
  have z1 : L1.length = L.length + 1 := pm.length_eq
  have z2 := ents_len in1
  have once1 : (L1.map (·.2)).Nodup := (pm.map (·.2)).nodup_iff.mpr (List.nodup_cons.mpr ⟨hm, R.once⟩)
  refine wpAny_bind (wpAny_storeSet_of ho hd ?_ (by rw [z2, sizeLine_eq]; omega))
  have sb := Heap.SameBut.update s.heap a (Obj.putSet es1 t1)
  have ho1 := store_at (es' := es1) (t' := t1) ho hd
  generalize s.heap.update a (Obj.putSet es1 t1) = h1 at sb ho1 ⊢
  have tup1 : ∀ p ∈ L1, TK P w h1 p.2 p.1 := fun p hp => by
    rcases List.mem_cons.mp (pm.mem_iff.mp hp) with rfl | hp
    · exact hx.other ho hd sb
    · exact (R.tups p hp).other ho hd sb
  have ld1 : w.params.followText "set-order" = true ∨ t1.led = true := by rw [q5]; exact R.led
  have fill : t1.tooFull = decide ((L.length + 1) * 5 ≥ t1.mask * 3) := by
    unfold SetTable.tooFull
    rw [q9, List.length_map]
  by_cases full : t1.tooFull = true
  · have full2 : (L.length + 1) * 5 ≥ t.mask * 3 := by
      rw [fill, decide_eq_true_eq, q4] at full
      exact full
    have go : ∀ M, SetTable.sizeAbove (SetTable.grown (L.length + 1)) = M + 1 → MaskOk M → (L.length + 1) * 5 < M * 3 →
        wpAny (model P w) A (setRelay a (SetTable.grown (L.length + 1))) (fun _ s2 => wpAny (model P w) A (pure true) Q E s2) E { s with heap := h1 } := fun M g1 g2 g3 =>
      again_at (s := { s with heap := h1 }) (L := L1) ho1 ⟨hex.1, hex.2.1, hex.2.2⟩ rfl in1 T1 (by rw [q4]; omega) once1 tup1 ld1 (by omega) g1 g2 (by omega) fun h2 L2 es2 ep2 t2 sb2 R2 pm2 =>
        wpAny_pure (hQ true h2 L2 es2 ep2 t2 (sb.trans sb2) R2 (.inr ⟨hm, pm2.trans pm⟩))
    have turn : wpAny (model P w) A (setRelay a (SetTable.grown (L.length + 1))) (fun _ s2 => wpAny (model P w) A (pure true) Q E s2) E { s with heap := h1 } := by
      rcases R.tab.mok with e | e | e
      · rw [e] at room full2
        have e4 : L.length = 4 := by omega
        exact go 31 (by rw [e4]; exact size_20) (.inr (.inl rfl)) (by omega)
      · rw [e] at room full2
        have e18 : L.length = 18 := by omega
        exact go 127 (by rw [e18]; exact size_76) (.inr (.inr rfl)) (by omega)
      · rw [e] at full2
        omega
    rw [z]
    first
      | exact wpAny_bind (wp_if_pos (by simp [full]) turn)
      | exact wp_if_pos (by simp [full]) (wpAny_bind turn)
  · have room1 : L1.length * 5 < t1.mask * 3 := by
      rw [fill, decide_eq_true_eq] at full
      rw [z1]
      omega
    have fin : Q true { s with heap := h1 } := hQ true h1 L1 es1 (ep + 1) t1 sb ⟨⟨_, ho1, ⟨hex.1, hex.2.1, hex.2.2⟩, rfl⟩, in1, T1, once1, tup1, ld1, room1, by omega⟩ (.inr ⟨hm, pm⟩)
    first
      | exact wp_if_neg (by simp [full]) (wpAny_pure fin)
      | exact wpAny_bind (wp_if_neg (by simp [full]) (wpAny_pure (wpAny_pure fin)))
end
end Ax
end
section
set_option maxHeartbeats 4000000
namespace Ax
open PySem PySem.Spec PyProof.Rows L2
/-- L: what a set has of the first i of ks -/
structure GotK (ks : List (Addr × List Key)) (i : Nat) (L : List (Addr × List Key)) : Prop where
  sub : ∀ p ∈ L, p ∈ ks.take i
  all : ∀ p ∈ ks.take i, p.2 ∈ L.map (·.2)
  len : L.length ≤ i
theorem GotK.step {ks L L' : List (Addr × List Key)} {i : Nat} {x : Addr × List Key} (g : GotK ks i L) (e : ks[i]? = some x) (h : x.2 ∈ L.map (·.2) ∧ L' = L ∨ x.2 ∉ L.map (·.2) ∧ L'.Perm (x :: L)) : GotK ks (i + 1) L' := by
  have t : ks.take (i + 1) = ks.take i ++ [x] := by rw [List.take_succ, e]; rfl
  rcases h with ⟨hm, rfl⟩ | ⟨_, pm⟩
  · refine ⟨fun p hp => by rw [t]; exact List.mem_append_left _ (g.sub p hp), fun p hp => ?_, Nat.le_succ_of_le g.len⟩
    rw [t] at hp
    exact (List.mem_append.mp hp).elim (g.all p) fun z => by rw [List.mem_singleton.mp z]; exact hm
  · refine ⟨fun p hp => ?_, fun p hp => ?_, by rw [pm.length_eq]; exact Nat.succ_le_succ g.len⟩
    · rw [t]
      exact (List.mem_cons.mp (pm.mem_iff.mp hp)).elim (fun z => List.mem_append_right _ (by rw [z]; exact List.mem_singleton.mpr rfl)) fun z => List.mem_append_left _ (g.sub p z)
    · rw [t] at hp
      rw [(pm.map (·.2)).mem_iff]
      exact (List.mem_append.mp hp).elim (fun z => List.mem_cons_of_mem _ (g.all p z)) fun z => by rw [List.mem_singleton.mp z]; exact List.mem_cons_self
section
variable {P : Program} {w : World} {A : Around} {E : Value → Shared → Prop} {s : Shared}
theorem SetTK.keep {h h' : Heap} {a : Addr} {L : List (Addr × List Key)} {es : Array (Int × Value)} {ep : Nat} {t : SetTable} (R : SetTK P w h a L es ep t) (ha : ∀ o, h.get? a = some o → h'.get? a = some o) (ht : ∀ p ∈ L, TK P w h' p.2 p.1) : SetTK P w h' a L es ep t :=
  let ⟨o, ho, r⟩ := R.ob
  ⟨⟨o, ha o ho, r⟩, R.ents, R.tab, R.once, ht, R.led, R.room, R.few⟩
theorem setT_start {h : Heap} {a : Addr} (ho : h.get? a = some { cls := .type "set", dict := none, data := .set #[] 0 (.fresh 0 0 (!w.params.followText "set-order")) }) : SetTK P w h a [] #[] 0 (.fresh 0 0 (!w.params.followText "set-order")) := by
  refine ⟨⟨_, ho, ⟨rfl, rfl, rfl⟩, rfl⟩, rfl, ⟨List.Pairwise.nil, rfl, rfl, .inl rfl, fun x hx => (List.not_mem_nil hx).elim, fun i h j hi => (by simp at hi)⟩, List.nodup_nil, fun p hp => (List.not_mem_nil hp).elim, ?_, show 0 * 5 < 7 * 3 by decide, show 0 < 64 by decide⟩
  show _ ∨ (!w.params.followText "set-order") = true
  cases w.params.followText "set-order"
  · exact .inr rfl
  · exact .inl rfl
theorem setT_loop {I : Addr} {fp wr : List Addr} {G : Array GenState → Array GenState → Prop} {n : Nat} {Pv : Nat → Value → Prop} {St : Nat → Shared → Prop} {R : Result → Shared → Prop} (W : WalksS P w A.in1 I fp wr G n Pv St) (S : Addr) (hSf : S ∉ fp) (ks : List (Addr × List Key)) (hn : n = ks.length)
    (few : ks.length < 64) (hval : ∀ (i : Nat) (v : Value), Pv i v → ∃ p, ks[i]? = some p ∧ v = .ref p.1) (h0 : Heap) (hk : ∀ p ∈ ks, TK P w h0 p.2 p.1) (hS0 : h0.get? S = none) (hw0 : ∀ b ∈ wr, h0.get? b = none) (hu : A.in1.units < cLine) :
    ∀ (m i : Nat) (s : Shared), n - i = m → i ≤ n → St i s → (∀ b o, h0.get? b = some o → s.heap.get? b = some o) → (∃ L es ep t, SetTK P w s.heap S L es ep t ∧ GotK ks i L) →
      (∀ s' L es ep t, Moved (S :: wr) G s s' → SetTK P w s'.heap S L es ep t → GotK ks n L → R (.ok (.ret .none)) s') → codeAny (model P w) A (.builtin "set.update.loop" ⟨[.ref S, .ref I], []⟩) R s := by
  have nw : S ∉ wr := fun h => hSf (W.sub _ h)
  have sub : ∀ b ∈ wr, b ∈ S :: wr := fun _ => List.mem_cons_of_mem _
  have go : ∀ {s s' : Shared}, Moved wr G s s' → (∀ b o, h0.get? b = some o → s.heap.get? b = some o) → ∀ b o, h0.get? b = some o → s'.heap.get? b = some o := fun mv z b o e => mv.heap b o (fun hb => by rw [hw0 b hb] at e; cases e) (z b o e)
  have tups : ∀ {L : List (Addr × List Key)} {i : Nat} {h : Heap}, GotK ks i L → (∀ b o, h0.get? b = some o → h.get? b = some o) → ∀ p ∈ L, TK P w h p.2 p.1 := fun g z p hp => (hk p (List.mem_of_mem_take (g.sub p hp))).keep fun o => z _ o
  intro m
  induction m with
  | zero =>
    intro i s hm hi hst hkp ⟨L, es, ep, t, hS, g⟩ hR
    obtain rfl : i = n := by omega
    refine codeAny_builtin F.entry_set_update_loop ?_; rw [Around.under_plainId F.plain_set_update_loop _]
    show wpAny _ A.in1 (pyNext (.ref I) >>= _) _ _ s; refine wpAny_bind (W.done s _ _ hst fun s' mv => ?_)
    show wpAny _ A.in1 (ret Value.none) _ _ s'; exact wpAny_pure (hR s' L es ep t (mv.mono sub) (hS.keep (fun o e => mv.heap S o nw e) (tups g (go mv hkp))) g)
  | succ m ih =>
    intro i s hm hi hst hkp ⟨L, es, ep, t, hS, g⟩ hR
    have lt : i < n := by omega
    refine codeAny_builtin F.entry_set_update_loop ?_; rw [Around.under_plainId F.plain_set_update_loop _]
    show wpAny _ A.in1 (pyNext (.ref I) >>= _) _ _ s; refine wpAny_bind (W.item i s _ _ lt hst fun v s' hP hst' mv => ?_)
    obtain ⟨p, hp, rfl⟩ := hval i v hP
    have hkp1 := go mv hkp
    have hx : TK P w s'.heap p.2 p.1 := (hk p (List.mem_of_getElem? hp)).keep fun o => hkp1 _ o
    have gl := g.len
    show wpAny _ A.in1 (holding [Value.ref p.1] (setAdd S (.ref p.1)) >>= _) _ _ s'; refine wpAny_bind (wpAny_holding ?_); unfold setAdd
    refine wpAny_holding (wpAny_bind (wpAny_pyHash_tuple hu hx ?_))
    refine put_at (s := { s' with toks := s'.toks + (p.2.length + 1) }) (hS.keep (fun o e => mv.heap S o nw e) (tups g hkp1)) hx hu (by omega) fun b h' L' es' ep' t' sb hS2 c => ?_
    have hkp2 : ∀ b o, h0.get? b = some o → h'.get? b = some o := fun b o e => (sb.2 b fun z => by rw [z, hS0] at e; cases e).trans (hkp1 b o e)
    refine wpAny_pure ⟨plainId_quiet F.plain_set_update_loop _, ih (i + 1) _ (by omega) lt (W.frame _ s' _ _ hst' (Nat.le_add_right _ _) fun b hb o e => (sb.2 b fun h => hSf (h ▸ hb)).trans e) hkp2 ⟨L', es', ep', t', hS2, g.step hp c⟩ fun s2 L2 es2 ep2 t2 mv2 hS4 g4 =>
      hR s2 L2 es2 ep2 t2 (Moved.trans W.gtrans ((mv.mono sub).then_heap (Nat.le_add_right _ _) fun b o hb e => (sb.2 b fun h => hb (h ▸ List.mem_cons_self)).trans e) mv2) hS4 g4⟩
/-- set(xs) of a list of such tuples -/
theorem call_setT {l : Addr} {items : Array Value} (ks : List (Addr × List Key)) {Q : Value → Shared → Prop} (hh : A.handled = none) (hl : s.heap.IsList l items) (hsz : items.size = ks.length) (hval : ∀ (i : Nat) (v : Value), items[i]? = some v → ∃ p, ks[i]? = some p ∧ v = .ref p.1) (hk : ∀ p ∈ ks, TK P w s.heap p.2 p.1) (few : ks.length < 64) (hu : A.units + 3 < cLine)
    (h : ∀ (h' : Heap) (tk : Nat) (L : List (Addr × List Key)) (es : Array (Int × Value)) (ep : Nat) (t : SetTable), SetTK P w h' s.heap.objs.size L es ep t → GotK ks ks.length L → (∀ b o, s.heap.get? b = some o → h'.get? b = some o) → Q (.ref s.heap.objs.size) { s with heap := h', toks := tk }) : wpAny (model P w) A (call (.type "set") [.ref l]) Q E s := by
  have mro1 := F.called_set.mro
  obtain ⟨c0, tl, hmro⟩ := mro1
  have made1 := F.called_set.made
  have sub1 := F.called_set.sub
  refine wpAny_call (codeAny_of_tree ?_); show wpAny _ _ (callAny (.type "set") _) _ _ _
  refine wpAny_pure ⟨Code.quiet_builtin _ (by decide +kernel), codeAny_builtin F.entry_type_call ?_⟩; rw [Around.under_plain (weight_type_call_type "set" [.ref l] []) rfl]
  have nt1 := F.called_set.notType; have cc1 := F.called_set.canCreate; have tc1 := F.typeCall_set_1 (.ref l)
  repeat (any_goals (first | assumption | wp_step))
  generalize hO : ({ cls := .type "set", dict := none, data := .set #[] 0 (.fresh 0 0 (!w.params.followText "set-order")) } : Obj) = O
  refine codeAny_mono (code_set_led1 (.ref l) (E := E) (Q₁ := fun obj s1 => obj = .ref s.heap.objs.size ∧ s1 = { s with heap := s.heap.push O }) ⟨rfl, by rw [← hO]⟩) fun r s1 hr => ?_
  cases r with
  | error e => exact hr
  | ok fl =>
    cases fl with
    | ret obj =>
      obtain ⟨rfl, rfl⟩ := hr
      have atS : (s.heap.push O).get? s.heap.objs.size = some O := by rw [← hO]; exact Heap.get?_push_size _ rfl
      have ty1 : Shared.TypeIs { s with heap := s.heap.push O } (.ref s.heap.objs.size) "set" := ⟨_, atS, by rw [← hO]⟩
      have li1 := F.called_set.init.lookup; have bi1 := F.called_set.init.bind (.ref s.heap.objs.size)
      repeat (any_goals (first | assumption | wp_step))
      refine codeAny_mono (codeAny_call_builtin (R := wants (fun r s2 => r = .none ∧ ∃ h' tk L es ep t, s2 = { s with heap := h', toks := tk } ∧ SetTK P w h' s.heap.objs.size L es ep t ∧ GotK ks ks.length L ∧ ∀ b o, s.heap.get? b = some o → h'.get? b = some o) E)
        F.called_set.init.plain F.entry_set_init (check_set_init_1 ty1 ?_)) fun r2 s2 hr2 => ?_
      · obtain ⟨⟨ocls, odict, odata, oslots⟩, hol, hcl, nl, hdl⟩ := hl
        simp only at hcl hdl
        subst hcl hdl
        have hol1 : (s.heap.push O).get? l = some { cls := .type "list", dict := odict, data := .seq items nl, slots := oslots } := Heap.get?_push_of_some _ hol
        have sl1 := F.sub_list_set; have sf1 := F.sub_list_frozenset; have ne1 : (Value.type "list" == Value.type "dict") = false := by decide
        have hl1 : (s.heap.push O).IsList l items := ⟨_, hol1, rfl, nl, rfl⟩
        subst hO; unfold Builtin.«set.__init__» noKeywords Builtin.Frozenset.updateFrom
        generalize hPI : pyIter = PI; wp_walk; subst hPI
        refine wpAny_pyIter_list hl1 ?_; refine wpAny_bind (wpAny_runValue ?_)
        have ltl : l < s.heap.objs.size := Heap.lt_size hol
        have hd3 : A.in1.in1.in1.handled = none := by simpa using hh
        have zI := Heap.size_push s.heap ({ cls := .type "set", dict := none, data := .set #[] 0 (.fresh 0 0 (!w.params.followText "set-order")) } : Obj)
        have neI : l ≠ (s.heap.push ({ cls := .type "set", dict := none, data := .set #[] 0 (.fresh 0 0 (!w.params.followText "set-order")) } : Obj)).objs.size := by rw [zI]; exact Nat.ne_of_lt (Nat.lt_succ_of_lt ltl)
        have nfS : s.heap.objs.size ∉ [(s.heap.push ({ cls := .type "set", dict := none, data := .set #[] 0 (.fresh 0 0 (!w.params.followText "set-order")) } : Obj)).objs.size, l] := by
          intro z; rw [zI] at z
          rcases List.mem_cons.mp z with z | z
          · exact absurd z (Nat.ne_of_lt (Nat.lt_succ_self _))
          · exact absurd (List.mem_singleton.mp z) (Nat.ne_of_gt ltl)
        have none_of : ∀ b, s.heap.objs.size ≤ b → s.heap.get? b = none := fun b hb => by
          cases q : s.heap.get? b with
          | none => rfl
          | some o => exact absurd (Nat.lt_of_lt_of_le (Heap.lt_size q) hb) (Nat.lt_irrefl _)
        refine setT_loop ((Walks.list hd3 _ l neI items).toS) s.heap.objs.size nfS ks hsz few hval s.heap hk (none_of _ (Nat.le_refl _)) (fun b hb => none_of b (by rw [List.mem_singleton.mp hb, zI]; exact Nat.le_succ _)) hu (items.size - 0) 0 _ (by omega) (Nat.zero_le _) ⟨⟨_, Heap.get?_push_size _ rfl, rfl, rfl⟩, hl1.push _⟩
          (fun b o e => Heap.get?_push_of_some _ (Heap.get?_push_of_some _ e)) ⟨[], #[], 0, _, setT_start (Heap.get?_push_of_some _ atS), ⟨fun p h => (List.not_mem_nil h).elim, fun p h => (by simp at h), Nat.le_refl _⟩⟩ ?_
        intro s' L es ep t mv hS g
        obtain ⟨h', g2, d', tk', os'⟩ := s'
        have e1 : g2 = s.gens := mv.gens; have e2 : d' = s.drawn := mv.drawn; have e3 : os' = s.os := mv.os
        subst e1 e2 e3
        rw [hsz] at g
        show wpAny _ _ _ _ _ _; refine wpAny_pure ?_; show wpAny _ _ (ret Value.none) _ _ _
        refine wpAny_pure ⟨rfl, h', tk', L, es, ep, t, rfl, hS, g, fun b o e => ?_⟩
        have b1 : b < s.heap.objs.size := Heap.lt_size e
        refine mv.heap b o (fun z => ?_) (Heap.get?_push_of_some _ (Heap.get?_push_of_some _ e))
        rw [zI] at z
        rcases List.mem_cons.mp z with z | z
        · exact Nat.ne_of_lt b1 z
        · exact Nat.ne_of_lt (Nat.lt_succ_of_lt b1) (List.mem_singleton.mp z)
      · cases r2 with
        | error e => exact hr2
        | ok f2 =>
          cases f2 with
          | ret r =>
            obtain ⟨rfl, h', tk, L, es, ep, t, rfl, hS, hg, hk2⟩ := hr2
            repeat (any_goals (first | assumption | wp_step))
            exact h _ _ _ _ _ _ hS hg hk2
          | _ => exact hr2.elim
    | _ => exact hr.elim
end
end Ax
end
section
set_option maxHeartbeats 4000000
/-! the order of rows of texts; sets of such rows as tracked things -/
namespace Ax
open PySem PySem.Spec PyProof.Rows L2
open PySem.W (EachIs SortsAt dataKind AllAlike Sortable dataLe sortVals alike alikeAll sortingHeap sortingHeap_old dataLt dataLt_tuple dataLt_str dataLt_cons rowLt)
/-! ### the order -/
def rle : List Str → List Str → Bool
  | [], _ => true
  | _ :: _, [] => false
  | x :: xs, y :: ys => if x = y then rle xs ys else strLe x y
theorem rowLt_strs : ∀ xs ys : List Str, rowLt (ys.map .str) (xs.map .str) = !rle xs ys
  | [], [] => PyProof.Rows.lex_irrefl _
  | [], y :: ys => by
    unfold rowLt
    rw [List.map_cons, PySem.W.toks_all_cons]
    simp only [List.map_nil, PySem.W.keyToksAll]
    rw [PyProof.Rows.lex_diff (O := PyProof.Rows.itemOrd) (by simp)]
    rfl
  | x :: xs, [] => by
    unfold rowLt
    rw [List.map_cons, PySem.W.toks_all_cons]
    simp only [List.map_nil, PySem.W.keyToksAll]
    rw [PyProof.Rows.lex_diff (O := PyProof.Rows.itemOrd) (by simp)]
    rfl
  | x :: xs, y :: ys => by
    have ih := rowLt_strs xs ys
    unfold rowLt at ih ⊢
    rw [List.map_cons, List.map_cons, dataLt_cons (by simp [alike]), dataLt_str, ih]
    have e : rle (x :: xs) (y :: ys) = if x = y then rle xs ys else strLe x y := by rw [rle]
    rw [e]
    by_cases c : x = y
    · subst c
      simp [PyData.eqv]
    · have c2 : ¬ y = x := fun e => c e.symm
      simp only [PyData.eqv, beq_iff_eq, if_neg c, if_neg c2]
      unfold strLe
      rw [Bool.not_not]
theorem dataLe_rle : dataLe false rowD = rle := by
  funext a b
  show (!dataLt (.tuple (b.map .str)) (.tuple (a.map .str))) = _
  rw [dataLt_tuple]
  have e := rowLt_strs a b
  unfold rowLt at e
  rw [e, Bool.not_not]
theorem rle_refl : ∀ a, rle a a = true
  | [] => rfl
  | x :: xs => by
    unfold rle
    rw [if_pos rfl]
    exact rle_refl xs
theorem rle_anti : ∀ {a b : List Str}, rle a b = true → rle b a = true → a = b
  | [], [], _, _ => rfl
  | [], _ :: _, _, h => by cases h
  | _ :: _, [], h, _ => by cases h
  | x :: xs, y :: ys, h, k => by
    unfold rle at h k
    by_cases c : x = y
    · subst c
      rw [if_pos rfl] at h k
      rw [rle_anti h k]
    · rw [if_neg c] at h
      rw [if_neg fun e => c e.symm] at k
      exact absurd (sle_anti h k) c
theorem rle_trans : ∀ {a b c : List Str}, rle a b = true → rle b c = true → rle a c = true
  | [], _, _, _, _ => by unfold rle; rfl
  | _ :: _, [], _, h, _ => by cases h
  | _ :: _, _ :: _, [], _, h => by cases h
  | x :: xs, y :: ys, z :: zs, h, k => by
    unfold rle at h k ⊢
    by_cases c : x = y
    · subst c
      by_cases d : x = z
      · rw [if_pos d] at k ⊢
        rw [if_pos rfl] at h
        exact rle_trans h k
      · rw [if_neg d] at k ⊢
        exact k
    · rw [if_neg c] at h
      by_cases d : y = z
      · subst d
        rw [if_neg c]
        exact h
      · rw [if_neg d] at k
        have e : ¬ x = z := fun e => c (sle_anti h (e ▸ k))
        rw [if_neg e]
        exact sle_trans h k
theorem rle_total : ∀ a b, (rle a b || rle b a) = true
  | [], _ => by unfold rle; rfl
  | _ :: _, [] => rfl
  | x :: xs, y :: ys => by
    unfold rle
    by_cases c : x = y
    · subst c
      rw [if_pos rfl, if_pos rfl]
      exact rle_total xs ys
    · rw [if_neg c, if_neg fun e => c e.symm]
      exact sle_total x y
/-- by the order -/
def sortRows (rows : List (List Str)) : List (List Str) := rows.mergeSort rle
theorem sortRows_is (rows : List (List Str)) : rows.mergeSort (dataLe false rowD) = sortRows rows := by
  unfold sortRows
  rw [dataLe_rle]
theorem sortRows_pw (rows : List (List Str)) : (sortRows rows).Pairwise fun a b => rle a b = true := List.pairwise_mergeSort (le := rle) (fun _ _ _ => rle_trans) rle_total rows
theorem rows_one {xs ys : List (List Str)} (p : xs.Perm ys) (h : xs.Pairwise fun a b => rle a b = true) (k : ys.Pairwise fun a b => rle a b = true) : xs = ys :=
  List.Perm.eq_of_pairwise (fun a b _ _ => rle_anti) h k p
theorem sortRows_perm {xs ys : List (List Str)} (p : xs.Perm ys) : sortRows xs = sortRows ys :=
  rows_one ((List.mergeSort_perm _ _).trans (p.trans (List.mergeSort_perm _ _).symm)) (sortRows_pw xs) (sortRows_pw ys)
theorem sortRows_id {xs : List (List Str)} (h : xs.Pairwise fun a b => rle a b = true) : sortRows xs = xs := rows_one (List.mergeSort_perm _ _) (sortRows_pw xs) h
end Ax
end
section
set_option maxHeartbeats 2000000
/-! defs that know that no repr is under way around them: repr of lists and tuples -/
namespace Ax
open PySem PySem.Spec PyProof.Rows L2
open StX
/-- a def's promise to callers around whom no repr runs -/
structure FnG (P : Program) (w : World) (K : PySem.W.Frag) (mg : Str → Option Value) (base : Heap) (k : Nat) (f : Addr) (ps : List Str) (sp : Sp) : Prop where
  len : ∀ vs H Q E, sp vs H Q E → vs.length = ps.length
  go : ∀ (A : Around) (outer : List Env) (s : Shared) (H : Hp) (us : List Value) (vs : List V) (Q : VK) (E : XK), A.guards = some [] → Room k A → Env0 P w K mg base A outer s H → Vals vs us → sp vs H Q E →
    codeAny (model P w) A (.call (.ref f) ⟨us, []⟩) (CR (L2.CX P w) outer P w H s Q E) s
structure CalleeG (P : Program) (w : World) (K : PySem.W.Frag) (mg : Str → Option Value) (base : Heap) (x : Str) (k : Nat) (ps : List Str) (sp : Sp) : Prop where
  ex : ∃ f, FnG P w K mg base k f ps sp ∧ mg x = some (.ref f) ∧ PySem.W.keepIn K (.ref f) = true
section
variable {P : Program} {w : World} {K : PySem.W.Frag} {mg : Str → Option Value} {base : Heap}
theorem fnG_of {x q : Str} {st : Stmt} {N ps : List Str} {k : Nat} {sp : Sp} {f : Addr} {fd : FuncData} (F : FunD K x q (defArgs st) (defBody st) (defScope st) [] [] f fd) (S : FnScope N ps (defScope st))
    (hb : ∀ (kV doc pm : Value) (an : Option Addr) (cdv ct : Value) (us : List Value), us.length = ps.length → bindArgs (PySem.W.fnOf x q (defArgs st) (defBody st) (defScope st) .none kV doc pm an cdv ct) ⟨us, []⟩ = pure (ps.zip us))
    (len : ∀ vs H Q E, sp vs H Q E → vs.length = ps.length)
    (body : ∀ (cdv : Value) (A : Around) (outer : List Env) (s : Shared) (H : Hp) (vs : List V) (Q : VK) (E : XK), A.guards = some [] → Room k (A.deeper (envOfC q (defScope st) s.heap.objs.size f cdv)) → sp vs H Q E →
      WB (cxOf (L2.CX P w) P w K mg base N q (defScope st) f cdv A outer s H E) (defBody st) { nx := fun _ H' => Q .non H', rt := Q } (start N vs) H) : FnG P w K mg base (k + 1) f ps sp := by
  refine ⟨len, fun A outer s H us vs Q E hgd hr e0 r h => ?_⟩
  obtain ⟨oc, od, kV, doc, pm, an, cdv, ct, osl, lk, hcd⟩ := none_dfl F
  have hl := len _ _ _ _ h
  refine run_bnd lk hcd S hr e0 (G := fun xs H2 => sp xs H2 Q E) (fun A' Ex Q' z => ?_) fun s2 H2 xs hx hr' => ⟨_, WB.pss, body cdv A outer s2 H2 xs Q E hgd hr' hx⟩
  rw [hb kV doc pm an cdv ct us (by rw [← r.length]; exact hl)]
  exact wpAny_pure (z s H vs us e0 Un.refl rfl (fun _ _ y => y) r hl h)
theorem def_okG {x : Str} {st : Stmt} {N ps : List Str} {k : Nat} {sp : Sp} (T : TxtF K mg x st) (S : FnScope N ps (defScope st))
    (hb : ∀ (kV doc pm : Value) (an : Option Addr) (cdv ct : Value) (us : List Value), us.length = ps.length → bindArgs (PySem.W.fnOf x x (defArgs st) (defBody st) (defScope st) .none kV doc pm an cdv ct) ⟨us, []⟩ = pure (ps.zip us))
    (len : ∀ vs H Q E, sp vs H Q E → vs.length = ps.length)
    (body : ∀ (f : Addr) (cdv : Value) (A : Around) (outer : List Env) (s : Shared) (H : Hp) (vs : List V) (Q : VK) (E : XK), A.guards = some [] → Room k (A.deeper (envOfC x (defScope st) s.heap.objs.size f cdv)) → sp vs H Q E →
      WB (cxOf (L2.CX P w) P w K mg base N x (defScope st) f cdv A outer s H E) (defBody st) { nx := fun _ H' => Q .non H', rt := Q } (start N vs) H) : CalleeG P w K mg base x (k + 1) ps sp := by
  obtain ⟨f, fd, F, g⟩ := T
  exact ⟨f, fnG_of F S hb len (body f), g, F.kp⟩
end
section
variable {X : Cx} {σ : L2.St} {H : Hp} {Q : VK} {e : Expr} {es : List Expr} {pos : Pos}
/-- one who knows calls one who asks for it -/
theorem w_callG {x : Str} {k : Nat} {ps : List Str} {sp : Sp} {p : Pos} {E : XK} (C : CalleeG X.prog X.w X.K X.mg X.base x k ps sp) (hgd : X.A.guards = some []) (hr : Room k X.A) (hx : Passes (L2.CX X.prog X.w) X E) (h : WA X (e :: es) σ H fun vs H1 => sp vs H1 Q E) (hg : Gl X x := by rfl)
    (hdb : (x == ("__debug__" : Str)) = false := by decide) (he : starEach (e :: es) X.env = (false, eval e X.env) :: starEach es X.env := by rfl) (hpl : (backTo pos (starEach es X.env)).any (·.1) = false := by rfl) : W X (.Call (.Name x p) (e :: es) [] pos) σ H Q := by
  obtain ⟨f, F, hm, hk⟩ := C.ex
  refine ⟨fun pins s I => wpAny_Call_Name_kw (ld_glob I hg hm (PySem.W.callWith_K (h₀ := X.base) I.ok.mod.kin hk (thn ((WA.pa (X := X) (es := e :: es)).run pos pins s σ H _ I h) fun us s1 ⟨vs, H1, I1, r, q⟩ => ⟨I1.kIn, ?_⟩) he hpl) hdb)⟩
  refine wpAny_call (codeAny_mono (F.go X.A X.stack s1 H1 us vs Q E hgd hr I1.env0 r q) fun res s' hq => ?_)
  cases res with
  | error e => exact hx pins σ H1 s1 e s' I1 hq
  | ok fl =>
    cases fl with
    | ret u => exact I1.after hq
    | _ => exact False.elim hq
/-- repr of what lists and tuples hold -/
theorem call_reprD (hgd : X.A.guards = some []) (hu : X.A.units + 64 < cLine) : CallR X (.builtin "repr") (fun xs H Q => ∃ a d, xs = [.ref a] ∧ Dp X.K H (.ref a) d ∧ d.showable = true ∧ d.hasDict = false ∧ d.depth ≤ 60 ∧ d.shown.length ≤ sizeLine ∧ Q (.str d.shown) H) := by
  intro pins s σ H xs us Q I r h
  obtain ⟨a, d, rfl, hD, h1, h2, h3, h4, q⟩ := h
  obtain ⟨u, rfl, ru⟩ := vals1 r
  obtain rfl : u = Value.ref a := ru
  obtain ⟨as, hr⟩ := hD.reads I d (.ref a) (.ref a) rfl
  refine repr_of_reads' hr h1 (fun z => by rw [h2] at z; cases z) hgd (by omega) (fun _ _ e => e) (fun h' u tk hk => ?_) h4
  exact ⟨.str d.shown, H, I.kept hk, ⟨_, rfl⟩, q⟩
theorem kv_reprD {a : Addr} {d : PyData} (hgd : X.A.guards = some []) (hu : X.A.units + 64 < cLine) (hD : Dp X.K H (.ref a) d) (h1 : d.showable = true) (h2 : d.hasDict = false) (h3 : d.depth ≤ 60) (h4 : d.shown.length ≤ sizeLine) (h : Q (.str d.shown) H) : CallV X (.builtin "repr") [.ref a] H Q :=
  ⟨_, call_reprD hgd hu, a, d, rfl, hD, h1, h2, h3, h4, h⟩
end
/-! ### the law's end -/
section
variable {P : Program} {w : World} {K : PySem.W.Frag} {mg mb : Str → Option Value} {k : Nat} {fa a : Addr} {x : Str} {sp : Sp} {s1 : Shared} {vs : List Value} {ns : List Int}
/-- what holds behind the call of the law -/
def LawEnd (s1 : Shared) : Result → Shared → Prop := fun r s' => r = .ok (.ret (.bool true)) ∧ OldK s1.heap s'.heap ∧ s'.os = s1.os ∧ AllBare s'.gens
theorem law_goes {H : Hp} (KX : K.In s1.heap) (hns : s1.heap.Ns mainGlobals mg) (hb : s1.heap.Ns builtinsNs mb) (hbb : ∀ x : Str, x ≠ "__name__" → mb x = bootBuiltins x) (hlim : s1.heap.NoLimit) (hg : s1.gens = #[])
    (ha : s1.heap.get? a = some { cls := .type "list", data := .seq vs.toArray }) (hr : Room k callerA) (F : ∀ base : Heap, K.In base → base.Ns mainGlobals mg → FnG P w K mg base k fa [x] sp)
    (hO : ∀ b, H b = none ∨ (b = a ∧ K.lookup a = none ∧ ∃ o xs, H b = some (.frz o (.lst xs)))) (hok : HOk P w H s1.heap) (hsp : sp [.ref a] H (fun v _ => v = .bl true) fun _ _ _ => False) :
    codeAny (model P w) callerA (.call (.ref fa) ⟨[.ref a], []⟩) (LawEnd s1) s1 := by
  have hid : ∀ {b : Addr} {o : Obj}, s1.heap.get? b = some o → (∀ xs n, o.data ≠ .seq xs n) → (hidT s1.heap H).get? b = some o := fun {b o} e n => hidT_get e (by
    rcases hO b with z | ⟨rfl, _, _⟩
    · exact z
    · rw [ha] at e
      cases e
      exact (n _ _ rfl).elim)
  have hns' : ∀ {b : Addr} {m : Str → Option Value}, s1.heap.Ns b m → (hidT s1.heap H).Ns b m := fun ⟨o, es, ep, e, d, r⟩ => ⟨o, es, ep, hid e (fun xs n z => by rw [d] at z; cases z), d, r⟩
  have hK : K.In (hidT s1.heap H) := fun b o e => hidT_get (KX b o e) (by
    rcases hO b with z | ⟨rfl, z, _⟩
    · exact z
    · rw [z] at e
      cases e)
  obtain ⟨mc, l1, l2⟩ := hlim
  have e0 : Env0 P w K mg (hidT s1.heap H) callerA [] s1 H :=
    ⟨rfl, ⟨hK, hns' hns, ⟨mb, hns' hb, hbb⟩, mc, hns' l1, l2⟩, fun b o e => of_hidT e, Nat.le_of_eq (hidT_size _ _), trivial, fun b z => (List.not_mem_nil (show b ∈ ([] : List Addr) from z)).elim, hok, .of_eq hg⟩
  refine codeAny_mono ((F _ hK (hns' hns)).go callerA [] s1 H [.ref a] [.ref a] _ _ rfl hr e0 (.cons rfl .nil) hsp) fun r s' h => ?_
  cases r with
  | error e =>
    obtain ⟨_, _, _, _, _, _, _, _, _, _, _, _, z⟩ := h
    exact z.elim
  | ok fl =>
    cases fl with
    | ret u =>
      obtain ⟨v, H', os, bare, un, hok', r', q⟩ := h
      cases (show v = V.bl true from q)
      cases (show u = Value.bool true from r')
      refine ⟨rfl, OldK.of_keep fun b o e => ?_, os, bare⟩
      rcases hO b with z | ⟨_, _, ob, xs, z⟩
      · exact un.keep b o e z (fun y => (List.not_mem_nil (show b ∈ ([] : List Addr) from y)).elim) (by simp)
      · have y1 := (hok b _ z).1
        have y2 := (hok' b _ (un.frzs b ob _ z)).1
        rw [e] at y1
        cases y1
        exact y2
    | _ => exact False.elim h
theorem law_callG (KX : K.In s1.heap) (hns : s1.heap.Ns mainGlobals mg) (hb : s1.heap.Ns builtinsNs mb) (hbb : ∀ x : Str, x ≠ "__name__" → mb x = bootBuiltins x) (hlim : s1.heap.NoLimit) (hg : s1.gens = #[])
    (ha : s1.heap.get? a = some { cls := .type "list", data := .seq vs.toArray }) (hi : IntsAre vs ns) (hl : ns.length ≤ sizeLine) (hr : Room k callerA) (F : ∀ base : Heap, K.In base → base.Ns mainGlobals mg → FnG P w K mg base k fa [x] sp)
    (hsp : ∀ H : Hp, SqL K H a (ns.map V.int) → sp [.ref a] H (fun v _ => v = .bl true) fun _ _ _ => False) : codeAny (model P w) callerA (.call (.ref fa) ⟨[.ref a], []⟩) (LawEnd s1) s1 := by
  have rv := vals_ints hi
  cases hk : K.lookup a with
  | some o =>
    have e := KX a o hk
    rw [ha] at e
    cases e
    exact law_goes (H := fun _ => none) KX hns hb hbb hlim hg ha hr F (fun _ => .inl rfl) (fun _ _ z => nomatch z)
      (hsp _ (.inr ⟨_, vs.toArray, _, hk, rfl, rfl, rfl, by rw [List.size_toArray, hi.length]; exact hl, by simpa using rv⟩))
  | none =>
    have e1 : ∀ {b : Addr}, b ≠ a → (if b = a then some (HO.frz { cls := .type "list", data := .seq vs.toArray } (.lst (ns.map V.int))) else none) = none := fun h => if_neg h
    refine law_goes (H := fun b => if b = a then some (.frz { cls := .type "list", data := .seq vs.toArray } (.lst (ns.map V.int))) else none) KX hns hb hbb hlim hg ha hr F (fun b => ?_) (fun b u z => ?_) (hsp _ (.inl (.inr ⟨_, if_pos rfl⟩)))
    · by_cases c : b = a
      · exact .inr ⟨c, hk, _, _, if_pos c⟩
      · exact .inl (e1 c)
    · by_cases c : b = a
      · cases (if_pos c).symm.trans z
        rw [c]
        exact ⟨ha, by rw [List.length_map]; exact hl, vs, _, rv, ha⟩
      · cases (e1 c).symm.trans z
end
/-- what the head must know of the law -/
def LawAtG (l : PySem.W.OpenLaw) (w : World) (K : PySem.W.Frag) (k n : Nat) (x : Str) (mg : Str → Option Value) (fa : Addr) : Prop :=
  ∃ sp : Sp, (∀ (H : Hp) (a : Addr) (ns : List Int), ns.length ≤ n → SqL K H a (ns.map V.int) → sp [.ref a] H (fun v _ => v = .bl true) fun _ _ _ => False) ∧
    ∀ base : Heap, K.In base → base.Ns mainGlobals mg → FnG l.prog w K mg base k fa [x] sp
theorem walk_G {l : PySem.W.OpenLaw} {n k : Nat} {q : Program} {loose : List Str} {XP : (Str → Option Value) → Heap → Prop} {YP : World → Heap → Prop} {d : DefRec} {x : Str} (hn : l.most = some n) (hn2 : n ≤ sizeLine) (hdf : d.params.defaults = []) (hr : Room k callerA)
    (F : ∀ (w : World) (mg : Str → Option Value) (fa : Addr) (h : Heap), YP w h → h.Ns mainGlobals mg → mg d.name = some (.ref fa) → ∃ K : PySem.W.Frag, K.In h ∧ LawAtG l w K k n x mg fa) :
    PySem.W.WalkO q loose XP YP l.row.toRowW d [] (fun f vs => PySem.call f vs) :=
  Att.attach_callB hn hdf fun w _ _ mg _ fa _ _ _ _ a _ ns G Y _ _ _ hmg hobj hints hlen _ hg =>
    let ⟨_, KX, _, hsp, hF⟩ := F w mg fa _ Y G.T.g hmg
    law_callG KX G.T.g G.T.b G.T.builtins G.T.nolimit hg hobj hints (Nat.le_trans hlen hn2) hr hF fun H hS => hsp H a ns hlen hS
end Ax
end
section
set_option maxHeartbeats 4000000
/-! list comprehensions of two fors -/
namespace Ax
open PySem PySem.Spec PyProof.Rows L2
section
variable {X : Cx} {iter elt tg iter1 tg1 : Expr} {σ : L2.St} {H : Hp} {Q : VK} {pos : Pos} {scope : Scope}
/-- n outer items, of each m inner ones; R: what is known of the k-th thing in the list at D -/
abbrev LcN2 (X : Cx) (tg iter elt tg1 iter1 : Expr) (scope : Scope) (own : List (Str × Nat)) (vs1 : List Nat) (g g1 : TG) (σ : L2.St) (H : Hp) (Q : VK) : Prop := WI X tg iter σ H fun J H1 => ∃ n Y, ItN J H1 n Y ∧ ∃ m, n * m < sizeLine ∧ ∃ R : Addr → Nat → V → Hp → Prop,
  (∀ D k y Ha Hb, R D k y Ha → Bt D Ha Hb → R D k y Hb) ∧
  (∀ D i x H2, H1 D = none → i < n → Same H1 H2 → Y i x H2 → g x (wipe σ (own.map (·.2))) H2 fun σ2 H3 => wipe σ2 (own.map (·.2)) = wipe σ (own.map (·.2)) ∧ Same H2 H3 ∧ Blk X scope fun Y => WI Y tg1 iter1 σ2 H3 fun J2 H4 => Same H3 H4 ∧ ∃ Y2, ItD D J2 H4 m Y2 ∧
    ∀ j y H5, j < m → Bt D H4 H5 → (∃ acc, H5 D = some (.lst acc)) → Y2 j y H5 → g1 y (wipe σ2 vs1) H5 fun σ3 H6 => wipe σ3 vs1 = wipe σ2 vs1 ∧ Blk X scope fun Y => W Y elt σ3 H6 fun v H7 => Same H5 H7 ∧ R D (i * m + j) v H7) ∧
  ∀ D ys H2, H1 D = none → Same H1 H2 → H2 D = some (.lst ys) → ys.length = n * m → (∀ k y, ys[k]? = some y → R D k y H2) → Q (.ref D) H2
theorem lcN2_t {own : List (Str × Nat)} {vs1 : List Nat} {g g1 : TG} (mg : ∀ v σ H (Q Q' : L2.St → Hp → Prop), (∀ a b, Q a b → Q' a b) → g v σ H Q → g v σ H Q') (mg1 : ∀ v σ H (Q Q' : L2.St → Hp → Prop), (∀ a b, Q a b → Q' a b) → g1 v σ H Q → g1 v σ H Q')
    (h : LcN2 X tg iter elt tg1 iter1 scope own vs1 g g1 σ H Q) : tLc2 (WI X tg iter) g tYes (fun σ2 H2 R => Blk X scope fun Y => WI Y tg1 iter1 σ2 H2 R) g1 tYes (fun σ2 H2 K => Blk X scope fun Y => W Y elt σ2 H2 K) (own.map (·.2)) vs1 σ H Q := by
  refine ⟨fun pins s I => thn (h.run pins s I) fun v s1 z => thn z fun it s2 q => ?_⟩
  obtain ⟨it', fp, tn, J, H1, e, I2, T, t0, f0, n, Y, ⟨G, wk, g0, gs⟩, m, hnm, R, rb, hel, hend⟩ := q
  refine ⟨it', fp, tn, J, H1, e, I2, T, t0, f0, fun D nD => ⟨fun i c Hx => c = n - i ∧ i ≤ n ∧ Same H1 Hx ∧ ∃ ys, Hx D = some (.lst ys) ∧ ys.length = i * m ∧ ∀ k y, ys[k]? = some y → R D k y Hx, ⟨n, by simp, Nat.zero_le _, same_new nD, [], upd_same, by simp, fun k y e => by simp at e⟩, ?_⟩⟩
  rintro i c Hx ⟨rfl, hi, sm, ys, hD, hl, hR⟩
  have gx := gs Hx sm
  by_cases lt : i < n
  · refine .inr ⟨wk.goes i Hx lt gx, fun Hy => Same H1 Hy ∧ ∃ ys, Hy D = some (.lst ys) ∧ ys.length = (i + 1) * m ∧ ∀ k y, ys[k]? = some y → R D k y Hy, fun Hy p => ⟨n - (i + 1), by omega, rfl, lt, p⟩, fun x H' hy => ?_⟩
    obtain ⟨sxx, yx⟩ := wk.yields i Hx x H' lt gx hy
    refine mg _ _ _ _ _ (fun σ2 H3 ⟨z1, s3, z2⟩ => ⟨z1, ?_⟩) (hel D i x H' nD lt (sm.trans sxx) yx)
    unfold tYes; dsimp only; rw [if_pos rfl]
    intro s' Hz C cl fp'
    refine ⟨fun pins s I => thn ((z2 s' Hz C cl fp').run pins s I) fun v s1 z => thn z fun it s2 q => ?_⟩
    obtain ⟨it2, fp2, tn2, J2, H4, e2, I4, T2, t2, f2, s4, Y2, ⟨G2, wk2, g20, gs2⟩, hel2⟩ := q
    have s14 : Same Hx H4 := sxx.trans (s3.trans s4)
    have hm1 : (i + 1) * m ≤ n * m := Nat.mul_le_mul_right m lt
    rw [Nat.succ_mul] at hm1
    refine ⟨it2, fp2, tn2, J2, H4, e2, I4, T2, t2, f2, fun j c Hc => c = m - j ∧ j ≤ m ∧ Same H1 Hc ∧ Bt D H4 Hc ∧ ∃ ys, Hc D = some (.lst ys) ∧ ys.length = i * m + j ∧ ∀ k y, ys[k]? = some y → R D k y Hc,
      ⟨m, by simp, Nat.zero_le _, sm.trans s14, Bt.refl _ _, ys, s14 _ _ hD, hl, fun k y e => rb D k y _ _ (hR k y e) (Bt.of s14)⟩, ?_⟩
    rintro j c Hc ⟨rfl, hj, smc, btc, ysc, hDc, hlc, hRc⟩
    have gc := gs2 Hc btc
    by_cases ltj : j < m
    · refine .inr ⟨wk2.goes j Hc ltj gc, fun Hd => Same H1 Hd ∧ Bt D H4 Hd ∧ ∃ ys, Hd D = some (.lst ys) ∧ ys.length = i * m + (j + 1) ∧ ∀ k y, ys[k]? = some y → R D k y Hd, fun Hd p => ⟨m - (j + 1), by omega, rfl, ltj, p⟩, fun y2 H5 hy2 => ?_⟩
      obtain ⟨scd, yy⟩ := wk2.yields j Hc y2 H5 ltj gc hy2
      have bt5 := btc.trans (Bt.of scd)
      refine mg1 _ _ _ _ _ (fun σ3 H6 ⟨w1, w2⟩ => ⟨w1, ?_⟩) (hel2 j y2 H5 ltj bt5 ⟨_, scd _ _ hDc⟩ yy)
      rw [if_pos rfl]
      intro s' Hz C cl fp'
      refine W.mono (w2 s' Hz C cl fp') fun v H7 ⟨s57, hv⟩ => ?_
      have hD7 := s57 _ _ (scd _ _ hDc)
      have bt7 : Bt D H7 (upd H7 D (.lst (ysc ++ [v]))) := (Bt.refl _ _).upd
      refine ⟨ysc, hD7, by omega, same_upd (smc.trans (scd.trans s57)) nD, (bt5.trans (Bt.of s57)).upd, _, upd_same, by rw [List.length_append, hlc]; rfl, fun k y e => ?_⟩
      refine rb D k y _ _ ?_ bt7
      by_cases ck : k < ysc.length
      · rw [List.getElem?_append_left ck] at e
        exact rb D k y _ _ (hRc k y e) (Bt.of (scd.trans s57))
      · rw [List.getElem?_append_right (Nat.le_of_not_lt ck)] at e
        have ek : k = ysc.length := by
          have := (List.getElem?_eq_some_iff.mp e).1
          simp at this
          omega
        rw [ek, Nat.sub_self] at e
        cases e
        rw [ek, hlc]
        exact hv
    · obtain rfl : j = m := by omega
      exact .inl ⟨wk2.stops Hc gc, smc, ysc, hDc, by rw [hlc, Nat.succ_mul], hRc⟩
  · obtain rfl : i = n := by omega
    exact .inl ⟨wk.stops Hx gx, hend D ys Hx nD sm hD hl hR⟩
/-- y = [elt for tg in iter for tg1 in iter1] -/
theorem ws_setLc2 {D : Ends} {y : Str} {py spos : Pos} (i : Nat) (own : List (Str × Nat)) (vs1 : List Nat) (g g1 : TG) (mg : ∀ v σ H (Q Q' : L2.St → Hp → Prop), (∀ a b, Q a b → Q' a b) → g v σ H Q → g v σ H Q') (mg1 : ∀ v σ H (Q Q' : L2.St → Hp → Prop), (∀ a b, Q a b → Q' a b) → g1 v σ H Q → g1 v σ H Q')
    (hg : Blk X scope fun Y => PG Y tg g) (hg1 : Blk X scope fun Y => PG Y tg1 g1) (hc : X.calm = true) (hN : X.N.Nodup) (ok : BlkOk X.N X.env.scope scope own) (hv : ∀ i ∈ vs1, i ∈ own.map (·.2)) (hy : X.N[i]? = some y) (h : LcN2 X tg iter elt tg1 iter1 scope own vs1 g g1 σ H fun v H1 => D.nx (σ.set i (some v)) H1)
    (hyl : X.env.scope.names.lookup y = some .local := by rfl) (hsw : swapsWith (.ListComp elt [⟨tg, iter, [], 0⟩, ⟨tg1, iter1, [], 0⟩] scope pos) (some (.Name y py)) spos.line X.env = pure true := by exact sw_true rfl rfl rfl rfl)
    (hs : ∀ x, foldedSetIterable iter X.env x = pure x := by intro _; rfl) (hs1 : ∀ env x, foldedSetIterable iter1 env x = pure x := by intro _ _; rfl) : WS X (.Assign [.Name y py] (.ListComp elt [⟨tg, iter, [], 0⟩, ⟨tg1, iter1, [], 0⟩] scope pos) spos) D σ H :=
  WS.of (ps_setLc2 (own := own) (vs1 := vs1) (g := g) (g1 := g1) (tt := tYes) (tt1 := tYes) (wi1 := fun σ2 H2 R => Blk X scope fun Y => WI Y tg1 iter1 σ2 H2 R) (te := fun σ2 H2 K => Blk X scope fun Y => W Y elt σ2 H2 K) hc hN hy hyl hsw WI.pi ok hv hg (fun _ _ _ _ _ => pts_nil)
    (fun s H C cl fp => ⟨fun pins s' σ' H' R' I' h' => (h' s H C cl fp).run pins s' I'⟩) hg1 (fun _ _ _ _ _ => pts_nil) (fun s H C cl fp => ⟨fun pins s' σ' H' Q' I' h' => (h' s H C cl fp).run pins s' I'⟩) hs hs1) (lcN2_t mg mg1 h)
end
end Ax
end
section
set_option maxHeartbeats 4000000
/-! methods of own classes, ==, !=, len by own ones; keys that are rows -/
namespace Ax
open PySem PySem.Spec PyProof.Rows L2
section
variable {X : Cx} {e a b o fe : Expr} {es : List Expr} {σ : L2.St} {H : Hp} {Q : VK} {D : Ends} {C g p : Addr} {f m x : Str} {pos np apos : Pos} {sp : Sp} {k : Nat} {E : XK}
theorem after_fnP {pins : List (Addr × Obj)} {s : Shared} {us : List Value} {vs : List V} (F : FnP X.prog X.w X.K X.mg X.base k g sp) (hr : Room k X.A) (hx : Passes (L2.CX X.prog X.w) X E) (I : Inv X pins σ H s) (r : Vals vs us) (h : sp vs H Q E) :
    wpAny (model X.prog X.w) X.A (call (.ref g) us) (EP X pins σ Q) X.xe s := wpAny_call (run_fnR F hr hx I r h)
/-- o.m(e, ..), a method of the class of o -/
theorem w_meth {pl : Sem Bool} (c : Cls X.K C) (hm : Meth X.K C m g) (F : FnP X.prog X.w X.K X.mg X.base k g sp) (hr : Room k X.A) (hx : Passes (L2.CX X.prog X.w) X E)
    (h : W X o σ H fun x H1 => ∃ a dx fs, x = .ref a ∧ H1 a = some (.ins C dx fs) ∧ fs.lookup m = none ∧ WA X (e :: es) σ H1 fun vs H2 => sp (.ref a :: vs) H2 Q E)
    (hst : starEach (e :: es) X.env = (false, eval e X.env) :: starEach es X.env := by rfl) (hpl : (backTo pos (starEach es X.env)).any (·.1) = false := by rfl)
    (ht : eval (.Call (.Attribute o m apos) (e :: es) [] pos) X.env = (do
      let ov ← eval o X.env
      standAt apos.atName
      let (f, first) ← holding [ov] (getMethod ov m pl)
      callWith pos f first (backTo pos (starEach (e :: es) X.env)) (backToKw pos (keywordEach [] X.env))) := by rfl) : W X (.Call (.Attribute o m apos) (e :: es) [] pos) σ H Q := by
  refine ⟨fun pins s I => PySem.W.methodCall_KW (pl := pl) (thn (h.run pins s I) fun u s1 ⟨x, H1, I1, rx, a, dx, fs, ex, ea, l, q⟩ => ?_) ht⟩
  subst ex
  obtain rfl : u = Value.ref a := rx
  refine getmeth_ok I1 ea c hm l (PySem.W.callWith_K (first := [.ref a]) (h₀ := X.base) I.ok.mod.kin hm.kp (thn (q.run pos pins s1 I1) fun us s2 ⟨vs, H2, I2, r, q2⟩ => ⟨I2.kIn, ?_⟩) hst hpl)
  exact after_fnP (us := .ref a :: us) (vs := .ref a :: vs) F hr hx I2 (.cons rfl r) q2
theorem w_meth0 {pl : Sem Bool} (c : Cls X.K C) (hm : Meth X.K C m g) (F : FnP X.prog X.w X.K X.mg X.base k g sp) (hr : Room k X.A) (hx : Passes (L2.CX X.prog X.w) X E)
    (h : W X o σ H fun x H1 => ∃ a dx fs, x = .ref a ∧ H1 a = some (.ins C dx fs) ∧ fs.lookup m = none ∧ sp [.ref a] H1 Q E)
    (ht : eval (.Call (.Attribute o m apos) [] [] pos) X.env = (do
      let ov ← eval o X.env
      standAt apos.atName
      let (f, first) ← holding [ov] (getMethod ov m pl)
      callWith pos f first (backTo pos (starEach [] X.env)) (backToKw pos (keywordEach [] X.env))) := by rfl) : W X (.Call (.Attribute o m apos) [] [] pos) σ H Q := by
  refine ⟨fun pins s I => PySem.W.methodCall_KW (pl := pl) (thn (h.run pins s I) fun u s1 ⟨x, H1, I1, rx, a, dx, fs, ex, ea, l, q⟩ => ?_) ht⟩
  subst ex
  obtain rfl : u = Value.ref a := rx
  exact getmeth_ok I1 ea c hm l (PySem.W.callWith_K0 (first := [.ref a]) I1.kIn hm.kp (after_fnP (us := [.ref a]) (vs := [.ref a]) F hr hx I1 (.cons rfl .nil) q))
/-! ### own operators -/
theorem ifb_ne {M : Model} {A : Around} {E : Value → Shared → Prop} {s : Shared} {K : PySem.W.Frag} {x C : Addr} {ox : Obj} {od : Option Obj} {args : List Value} {Q : Option Value → Shared → Prop} (X : K.In s.heap) (I : PySem.W.InstAt s.heap x ox C od) (hn : PySem.W.findIn K (.ref C) "__ne__" = some (some (.builtin "object.__ne__")))
    (h : wpAny M A (call (.builtin "object.__ne__") (.ref x :: args)) (fun v => Q (some v)) E s) : wpAny M A (callSpecialIfBound? (.ref x) "__ne__" args) Q E s := by
  have fin : wpAny M A (call (.builtin "object.__ne__") ([.ref x] ++ args) >>= fun v => pure (some v)) Q E s := wpAny_bind (wpAny_mono h (fun _ _ z => wpAny_pure z) fun _ _ z => z)
  simp only [callSpecialIfBound?, bindSpecialIfBound?]
  refine wpAny_holding (wpAny_bind (wpAny_bind (wpAny_bind (I.type.here ((PySem.W.looks_findIn X hn).here (wpAny_bind (wpAny_askSetting (wpAny_ite ?_))))))))
  split
  · exact wpAny_bind (wpAny_of_eq (F.cmp_object.ne.bind _) (wpAny_pure (by exact fin)))
  · exact wpAny_tryCatch (wpAny_bind (wpAny_of_eq (F.cmp_object.ne.bind _) (wpAny_pure (by exact fin))))
theorem ne_own {prog : Program} {w : World} {A : Around} {E : Value → Shared → Prop} {s : Shared} {K : PySem.W.Frag} {x y C f : Addr} {ox oy : Obj} {od od2 : Option Obj} {Q : Value → Shared → Prop} (hu : A.units + 1 < cLine) (X : K.In s.heap) (I : PySem.W.InstAt s.heap x ox C od) (J : PySem.W.InstAt s.heap y oy C od2)
    (hm : PySem.W.mroIn K C (.type "object") = some true) (hn : PySem.W.findIn K (.ref C) "__ne__" = some (some (.builtin "object.__ne__"))) (hs : PySem.W.findIn K (.ref C) "__eq__" = some (some (.ref f))) (hf : PySem.W.isFn K (.ref f) = true)
    (h : wpAny (model prog w) A.in1 (call (.ref f) [.ref x, .ref y]) (fun v s' => ∃ b, v = .bool b ∧ Q (.bool (!b)) s') E s) : wpAny (model prog w) A (richCompare .NotEq (.ref x) (.ref y)) Q E s := by
  have hu1 : A.in1.units < cLine := hu
  have ent : ∀ {Z : PySem.Fin → Shared → Prop}, wpAny (model prog w) A.in1 (call (.ref f) [.ref x, .ref y]) (fun v s' => ∃ b, v = .bool b ∧ Z (.done (.ret (.bool (!b)))) s') E s → wpAny (model prog w) A.in1 (Builtin.«object.__ne__» ⟨[.ref x, .ref y], []⟩) Z E s := fun {Z} hc => by
    unfold Builtin.«object.__ne__»
    repeat (first
      | with_reducible refine wpAny_cRoomFor hu1 ?_
      | (refine wpAny_bind (m := callSpecialIfBound? (.ref x) (Str.ofString "__eq__") [.ref y]) (PySem.W.ifBound_K X I hs hf (wpAny_mono hc (fun r s' hr => by
          obtain ⟨b, rfl, hq⟩ := hr
          repeat (first | exact hq | exact wpAny_pure hq | exact wpAny_truthy_bool hq | (refine wpAny_bind (m := truthy (.bool _)) (wpAny_truthy_bool ?_)) | wp_step)) fun _ _ e => e)))
      | wp_step)
  have one : wpAny (model prog w) A (tryCompare (.ref x) "__ne__" (.ref y)) (fun r s' => ∃ v, r = some v ∧ Q v s') E s := by
    unfold tryCompare
    refine wpAny_bind (ifb_ne X I hn (wpAny_call (codeAny_call_builtin F.cmp_object.ne.plain F.cmpEntry_ne (PySem.W.check_slot F.cmpKind_ne F.cmpSplit_ne (I.type.andThen (PySem.W.looks_mroIn X hm)) (F.cmpArgs_ne _ _) (ent (wpAny_mono h (fun v s' hv => ?_) fun _ _ e => e))))))
    obtain ⟨b, rfl, hq⟩ := hv
    exact ⟨_, rfl, wpAny_pure ⟨_, rfl, hq⟩⟩
  unfold richCompare
  simp only [oneThing_ref]
  refine wpAny_holding (wpAny_bind (wpAny_cRoomFor (Nat.lt_of_succ_lt hu) ?_))
  refine wpAny_bind (I.type.here (wpAny_bind (J.type.here ?_)))
  rw [show (Value.ref C != Value.ref C) = false from by simp]
  simp only [Bool.false_eq_true, if_false]
  refine wpAny_bind (wpAny_pure ?_)
  simp only [Bool.false_eq_true, if_false]
  refine wpAny_bind (wpAny_mono one (fun r s' z => ?_) fun _ _ e => e)
  obtain ⟨v, rfl, hq⟩ := z
  exact wpAny_pure hq
/-- a run of a def at another surrounding of the same frames -/
theorem run_at {pins : List (Addr × Obj)} {s : Shared} {A : Around} {us : List Value} {vs : List V} (F : FnP X.prog X.w X.K X.mg X.base k g sp) (hr : Room k A) (hA : A.frames = X.A.frames) (hx : Passes (L2.CX X.prog X.w) X E) (I : Inv X pins σ H s) (r : Vals vs us) (h : sp vs H Q E) :
    wpAny (model X.prog X.w) A (call (.ref g) us) (EP X pins σ Q) X.xe s := by
  have e := I.env0
  refine wpAny_call (codeAny_mono (F A X.stack s H us vs Q E hr ⟨by rw [hA]; exact e.frames, e.mod, e.bs, e.bsz, e.funs, e.frf, e.hok, e.bare⟩ r h) fun res s' hq => ?_)
  cases res with
  | error e => exact hx pins σ H s e s' I hq
  | ok fl =>
    cases fl with
    | ret u => exact I.after hq
    | _ => exact False.elim hq
theorem cv_eqO {a b dx dy : Addr} {fs gs : List (Str × V)} (hm : Meth X.K C "__eq__" g) (F : FnP X.prog X.w X.K X.mg X.base k g sp) (hr : Room k X.A) (hx : Passes (L2.CX X.prog X.w) X E) (ha : H a = some (.ins C dx fs)) (hb : H b = some (.ins C dy gs))
    (h : sp [.ref a, .ref b] H (fun v H2 => ∃ t, v = .bl t ∧ Q (.bl t) H2) E) : CmpV X .Eq (.ref a) (.ref b) H Q := by
  refine ⟨fun x y H' Q' => x = .ref a ∧ y = .ref b ∧ H' = H ∧ Q' = Q, ?_, rfl, rfl, rfl, rfl⟩
  rintro pins s σ' H' x y u v Q' I rx ry ⟨rfl, rfl, rfl, rfl⟩
  cases rx
  cases ry
  obtain ⟨mA, J, _⟩ := ins_get I.hok ha
  obtain ⟨mB, J', _⟩ := ins_get I.hok hb
  obtain ⟨od, J, _⟩ := J.look
  obtain ⟨od', J', _⟩ := J'.look
  obtain ⟨m, hF⟩ := I.fr
  refine PySem.W.cmp_K (op := .Eq) (tb := .ref C) hr.units0 hF I.ok.mod.kin J J'.type (by simp [PySem.W.notFirst]) hm.at_ hm.fn (wpAny_mono (run_at (vs := [.ref a, .ref b]) F hr rfl hx I (.cons rfl (.cons rfl .nil)) h) (fun v s' z => ?_) fun _ _ e => e)
  obtain ⟨x, H2, I2, r, t, rfl, q⟩ := z
  cases (show v = Value.bool t from r)
  exact ⟨.bl t, H2, I2, rfl, q⟩
theorem cv_neO {a b dx dy : Addr} {fs gs : List (Str × V)} (ob : PySem.W.mroIn X.K C (.type "object") = some true) (hn : PySem.W.findIn X.K (.ref C) "__ne__" = some (some (.builtin "object.__ne__"))) (hm : Meth X.K C "__eq__" g) (F : FnP X.prog X.w X.K X.mg X.base k g sp) (hr : Room (k + 1) X.A) (hx : Passes (L2.CX X.prog X.w) X E) (ha : H a = some (.ins C dx fs)) (hb : H b = some (.ins C dy gs))
    (h : sp [.ref a, .ref b] H (fun v H2 => ∃ t, v = .bl t ∧ Q (.bl (!t)) H2) E) : CmpV X .NotEq (.ref a) (.ref b) H Q := by
  refine ⟨fun x y H' Q' => x = .ref a ∧ y = .ref b ∧ H' = H ∧ Q' = Q, ?_, rfl, rfl, rfl, rfl⟩
  rintro pins s σ' H' x y u v Q' I rx ry ⟨rfl, rfl, rfl, rfl⟩
  cases rx
  cases ry
  obtain ⟨mA, J, _⟩ := ins_get I.hok ha
  obtain ⟨mB, J', _⟩ := ins_get I.hok hb
  obtain ⟨od, J, _⟩ := J.look
  obtain ⟨od', J', _⟩ := J'.look
  refine ne_own hr.in1.units0 I.kIn J J' ob hn hm.at_ hm.fn (wpAny_mono (run_at (vs := [.ref a, .ref b]) F hr.in1 rfl hx I (.cons rfl (.cons rfl .nil)) h) (fun v s' z => ?_) fun _ _ e => e)
  obtain ⟨x, H2, I2, r, t, rfl, q⟩ := z
  cases (show v = Value.bool t from r)
  exact ⟨t, rfl, .bl (!t), H2, I2, rfl, q⟩
/-- len(o) by an own __len__ -/
theorem kv_lenO {a dx : Addr} {fs : List (Str × V)} (hm : Meth X.K C "__len__" g) (F : FnP X.prog X.w X.K X.mg X.base k g sp) (hr : Room (k + 1) X.A) (hx : Passes (L2.CX X.prog X.w) X E) (ha : H a = some (.ins C dx fs))
    (h : sp [.ref a] H (fun v H2 => ∃ n : Nat, v = .int n ∧ n < 2 ^ 62 ∧ Q (.int n) H2) E) : CallV X (.builtin "len") [.ref a] H Q := by
  refine ⟨fun xs H' Q' => xs = [.ref a] ∧ H' = H ∧ Q' = Q, ?_, rfl, rfl, rfl⟩
  rintro pins s σ' H' xs us Q' I r ⟨rfl, rfl, rfl⟩
  rw [L2.Vals.ref1 r]
  obtain ⟨mA, J, _⟩ := ins_get I.hok ha
  obtain ⟨od, J, _⟩ := J.look
  obtain ⟨m, hF⟩ := I.fr
  refine PySem.W.len_K hF I.ok.mod.kin J hm.at_ hm.fn (wpAny_mono (run_at (vs := [.ref a]) F hr.in1 rfl hx I (.cons rfl .nil) h) (fun v s' z => ?_) fun _ _ e => e)
  obtain ⟨x, H2, I2, r, n, rfl, hn, q⟩ := z
  obtain ⟨t, rfl⟩ := r
  exact ⟨⟨by omega, by omega⟩, .int n, H2, I2.tok _, ⟨_, rfl⟩, q⟩
/-- a row among the keys of a dict -/
theorem cv_inT {a b : Addr} {kvs : List (List Key × V)} {k : List Key} (hu : X.A.units + 64 < cLine) (ha : H a = some (.dT kvs)) (hb : H b = some (.tup (k.map kV))) (h : Q (.bl (valV kvs k).isSome) H) : CmpV X .In (.ref b) (.ref a) H Q := by
  refine ⟨fun x y H' Q' => x = .ref b ∧ y = .ref a ∧ H' = H ∧ Q' = Q, ?_, rfl, rfl, rfl, rfl⟩
  rintro pins s σ' H' x y u v Q' I rx ry ⟨rfl, rfl, rfl, rfl⟩
  cases (show v = Value.ref a from ry)
  exact d_in (by omega) I (DGet.t ha hb) rx fun s2 I2 => ⟨.bl _, _, I2, rfl, h⟩
theorem cv_notInT {a b : Addr} {kvs : List (List Key × V)} {k : List Key} (hu : X.A.units + 64 < cLine) (ha : H a = some (.dT kvs)) (hb : H b = some (.tup (k.map kV))) (h : Q (.bl (!(valV kvs k).isSome)) H) : CmpV X .NotIn (.ref b) (.ref a) H Q := by
  refine ⟨fun x y H' Q' => x = .ref b ∧ y = .ref a ∧ H' = H ∧ Q' = Q, ?_, rfl, rfl, rfl, rfl⟩
  rintro pins s σ' H' x y u v Q' I rx ry ⟨rfl, rfl, rfl, rfl⟩
  cases (show v = Value.ref a from ry)
  exact d_notIn (by omega) I (DGet.t ha hb) rx fun s2 I2 => ⟨.bl _, _, I2, rfl, h⟩
/-- a text among the keys of a dict -/
theorem cv_inK {a : Addr} {kvs : List (Key × V)} {z : Str} (hu : X.A.units + 64 < cLine) (ha : H a = some (.dK kvs)) (h : Q (.bl (valV kvs (.inr z)).isSome) H) : CmpV X .In (.str z) (.ref a) H Q := by
  refine ⟨fun x y H' Q' => x = .str z ∧ y = .ref a ∧ H' = H ∧ Q' = Q, ?_, rfl, rfl, rfl, rfl⟩
  rintro pins s σ' H' x y u v Q' I rx ry ⟨rfl, rfl, rfl, rfl⟩
  cases (show v = Value.ref a from ry)
  exact d_in (by omega) I (DGet.k (k := .inr z) ha) rx fun s2 I2 => ⟨.bl _, _, I2, rfl, h⟩
end
end Ax
end
section
set_option maxHeartbeats 4000000
/-! tuple * n for any n; lists of ranges -/
namespace Ax
open PySem PySem.Spec PyProof.Rows L2
open PySem.AutoSeq1 (wpAny_loadPart')
theorem tuple_mul1 (l : Addr) (items : Array Value) (n : Nat) (dd : Option Addr) (sl : Array (Option Value)) (u : Tok) :
    Meets (Builtin.«tuple.__mul__» ⟨[.ref l, .int 1 u], []⟩) (fun _ R s => s.heap.get? l = some { cls := .type "tuple", dict := dd, data := .seq items n, slots := sl } ∧ R (.ok (.ret (Value.ref l))) s) :=
  .of_wp fun prog w A R s h => by
    obtain ⟨hp, g, d, tk, os⟩ := s
    obtain ⟨hl, h⟩ := h
    have f1 := AutoSeq1.idx_int
    have c0 : (decide ((1 : Int) < -(2 ^ 63)) || decide ((1 : Int) ≥ 2 ^ 63)) = false := by decide
    have c1 : (items.isEmpty || (1 : Int) == 1) = true := by simp
    wp_walk using wpAny_loadPart' hl
    exact ⟨_, rfl, h⟩
theorem tuple_mul0 (l : Addr) (items : Array Value) (n : Nat) (dd : Option Addr) (sl : Array (Option Value)) (u : Tok) (he : items.isEmpty = false) :
    Meets (Builtin.«tuple.__mul__» ⟨[.ref l, .int 0 u], []⟩) (fun _ R s => s.heap.get? l = some { cls := .type "tuple", dict := dd, data := .seq items n, slots := sl } ∧
      R (.ok (.ret (Value.ref s.heap.objs.size))) { s with heap := s.heap.push { cls := Value.type "tuple", data := Data.seq #[] }, toks := s.toks }) :=
  .of_wp fun prog w A R s h => by
    obtain ⟨hp, g, d, tk, os⟩ := s
    obtain ⟨hl, h⟩ := h
    have f1 := AutoSeq1.idx_int
    have c0 : (decide ((0 : Int) < -(2 ^ 63)) || decide ((0 : Int) ≥ 2 ^ 63)) = false := by decide
    have c1 : (items.isEmpty || (0 : Int) == 1) = false := by rw [he]; decide
    have c2 : (decide ((0 : Int) ≤ 0) || items.isEmpty) = true := by simp
    wp_walk using wpAny_loadPart' hl
    repeat (first
      | (refine wpAny_ite_false (decide_eq_false (by rw [c0]; exact Bool.false_ne_true)) ?_; wp_walk using wpAny_loadPart' hl)
      | (refine wpAny_ite_false (decide_eq_false (by rw [c1]; exact Bool.false_ne_true)) ?_; wp_walk using wpAny_loadPart' hl)
      | (refine wpAny_ite_true (decide_eq_true c2) ?_; wp_walk using wpAny_loadPart' hl))
    exact ⟨_, rfl, h⟩
section
variable {X : Cx} {H : Hp} {Q : VK}
theorem bv_mulT {l : Addr} {xs : List V} {k : Nat} (hl : H l = some (.tup xs)) (hne : xs ≠ []) (hk : k ≤ 1000) (hz : xs.length ≤ 1000) (h : ∀ r H2, Same H H2 → H2 r = some (.tup (List.replicate k xs).flatten) → Q (.ref r) H2) : BinV X .Mult (.ref l) (.int k) H Q := by
  by_cases k2 : 2 ≤ k
  · exact ⟨_, op_repT, l, k, xs, rfl, rfl, SqT.of hl, hne, by omega, by omega, hz, fun p hp => h p _ (same_new hp) (by rw [upd_same]; rfl)⟩
  refine ⟨fun x y H' Q' => x = .ref l ∧ y = .int k ∧ H' = H ∧ Q' = Q, ?_, rfl, rfl, rfl, rfl⟩
  rintro pins s σ' H' x y u v Q' I rx ry ⟨rfl, rfl, rfl, rfl⟩
  cases rx
  obtain ⟨t, rfl⟩ := ry
  obtain ⟨its, r, ⟨⟨cls, dd, data, sl⟩, ho, hc, n, hd⟩, hs⟩ := I.tuple (SqT.of hl)
  simp only at hc hd
  subst hc hd
  have hn : its.toArray.isEmpty = false := by
    cases r with
    | nil => exact absurd rfl hne
    | cons _ _ => rfl
  have go : ∀ (Z : Value → Shared → Prop) (c : Int), Meets (Builtin.«tuple.__mul__» ⟨[.ref l, .int c t], []⟩) (fun _ R s2 => s2 = s ∧ ∀ v s3, Z v s3 → R (.ok (.ret v)) s3) → wpAny (model X.prog X.w) X.A (binaryOp .Mult (.ref l) (.int c t)) Z X.xe s := fun Z c m =>
    wpAny_binaryOp_repeat_ref (T := "tuple") (U := "int") (by decide) ⟨_, ho, rfl⟩ (fun s' => typeIs_int s' c t) noFill_tuple_mul F.fills_int_mul F.slot_int_rmul repeat_tuple F.slot_int_index.lookup
      (call_meets F.slot_int_rmul (typeIs_int s c t) F.entry_int_rmul (F.args_int_rmul_2 _ _) (int_rmul_tuple c t l its.toArray n dd sl) ⟨ho, rfl, ⟨_, ho, rfl⟩, call_meets F.slot_tuple_mul ⟨_, ho, rfl⟩ F.entry_tuple_mul (F.args_tuple_mul_2 _ _) m ⟨rfl, fun v s3 z => z⟩⟩)
  have k01 : k = 0 ∨ k = 1 := by omega
  rcases k01 with rfl | rfl
  · refine wpAny_binaryOp_repeat_ref (T := "tuple") (U := "int") (by decide) ⟨_, ho, rfl⟩ (fun s' => typeIs_int s' _ t) noFill_tuple_mul F.fills_int_mul F.slot_int_rmul repeat_tuple F.slot_int_index.lookup
      (call_meets F.slot_int_rmul (typeIs_int s _ t) F.entry_int_rmul (F.args_int_rmul_2 _ _) (int_rmul_tuple _ t l its.toArray n dd sl) ⟨ho, rfl, ⟨_, ho, rfl⟩, call_meets F.slot_tuple_mul ⟨_, ho, rfl⟩ F.entry_tuple_mul (F.args_tuple_mul_2 _ _) (tuple_mul0 l its.toArray n dd sl t hn) ⟨ho, ?_⟩⟩)
    have hp := I.hok.fresh (Nat.le_refl s.heap.objs.size)
    exact ⟨.ref s.heap.objs.size, upd H' s.heap.objs.size (.tup []), I.laid (t' := s.toks) (o := .tup []) (fun b ob q => Heap.get?_push_of_some _ q) (Nat.le_refl _) ⟨by decide, [], .nil, IsTup.new _ _⟩, rfl, h _ _ (same_new hp) upd_same⟩
  · refine wpAny_binaryOp_repeat_ref (T := "tuple") (U := "int") (by decide) ⟨_, ho, rfl⟩ (fun s' => typeIs_int s' _ t) noFill_tuple_mul F.fills_int_mul F.slot_int_rmul repeat_tuple F.slot_int_index.lookup
      (call_meets F.slot_int_rmul (typeIs_int s _ t) F.entry_int_rmul (F.args_int_rmul_2 _ _) (int_rmul_tuple _ t l its.toArray n dd sl) ⟨ho, rfl, ⟨_, ho, rfl⟩, call_meets F.slot_tuple_mul ⟨_, ho, rfl⟩ F.entry_tuple_mul (F.args_tuple_mul_2 _ _) (tuple_mul1 l its.toArray n dd sl t) ⟨ho, ?_⟩⟩)
    exact ⟨.ref l, H', I, rfl, h l H' (Same.refl _) (by simpa using hl)⟩
/-- list(range(n)) -/
theorem w_listRg {a : Expr} {p rp pos rpos : Pos} {σ : L2.St} (hc : X.calm = true) (hm : X.mg "list" = none) (hr : X.mg "range" = none) (h : W X a σ H fun x H1 => ∃ n : Nat, x = .int n ∧ n ≤ 1000 ∧ ∀ q H2, Same H1 H2 → H1 q = none → H2 q = some (.lst ((List.range n).map fun i => V.int (i : Nat))) → Q (.ref q) H2)
    (hg : Gl X "list" := by rfl) (hg2 : Gl X "range" := by rfl) (na : starEach [a] X.env = (false, eval a X.env) :: starEach [] X.env := by rfl) (na2 : starEach [.Call (.Name "range" rp) [a] [] rpos] X.env = (false, eval (.Call (.Name "range" rp) [a] [] rpos) X.env) :: starEach [] X.env := by rfl) :
    W X (.Call (.Name "list" p) [.Call (.Name "range" rp) [a] [] rpos] [] pos) σ H Q := by
  refine W.of (pe_listRg hc hg hm (prg_1 hg2 hr W.pe na) na2) (W.mono h fun x H1 ⟨n, e, hn, k⟩ => ⟨n, e, RgOk.of_le (by omega) (by omega) (by omega) (by omega), fun q hq => k q _ (same_new hq) hq ?_⟩)
  rw [upd_same]
  unfold rgV
  simp
end
end Ax
end
section
set_option maxHeartbeats 4000000
open PySem PySem.Spec PyProof.Rows L2 Ax
set_option hygiene false in
local macro_rules | `(tactic| tbr_iter "boot") => `(tactic| with_reducible first | exact Ax.b_len | exact Ax.b_all | exact Ax.b_any | exact Ax.b_sorted | exact Ax.b_isinstance | exact Ax.b_abs | exact Ax.b_max | exact Ax.b_min | exact Ax.b_sum | exact Ax.b_repr | exact Ax.b_iter | exact Ax.b_ord | exact Ax.b_chr | exact Ax.b_str | exact Ax.b_int | exact Ax.b_bool | exact Ax.b_tuple | exact Ax.b_list | exact Ax.b_dict | exact Ax.b_set | exact Ax.b_range | exact Ax.b_enumerate | exact Ax.b_zip)
set_option hygiene false in
local macro_rules | `(tactic| tbr_iter "vis") => `(tactic| first | exact Or.inl rfl | exact Or.inr (Or.inl rfl) | exact Or.inr (Or.inr rfl))
set_option hygiene false in
local macro_rules | `(tactic| tbr_iter "w") => `(tactic| first
  | refine wb_cons ?_
  | refine wb_nil ?_
  | refine ws_ret ?_
  | refine ws_if ?_
  | refine ws_sub ?_
  | refine wa_cons ?_
  | refine wa_nil ?_
  | refine w_int ?_
  | refine w_str ?_
  | refine w_bl ?_
  | refine w_non ?_
  | tbr_iter "var"
  | refine w_bin ?_
  | refine w_cmp ?_
  | refine w_chain ?_
  | refine w_and ?_
  | refine w_or ?_
  | refine w_one ?_
  | refine w_not ?_
  | refine w_ix ?_
  | refine w_ifExp ?_
  | refine w_tup ?_
  | refine w_lst ?_
  | refine wt_not ?_
  | refine wt_bool ?_
  | refine ww_and ?_
  | refine ww_and1 ?_
  | refine ww_or ?_
  | refine ww_or1 ?_
  | refine wt_cmp ?_
  | refine wt_val ?_
  | tbr_iter "call"
  | (refine w_glob (by tbr_iter "mg") ?_)
  | (refine w_callB (by tbr_iter "z") ?_)
  | (refine w_callTy (by tbr_iter "z") ?_)
  | (refine w_bltT (by tbr_iter "z") ?_))
set_option hygiene false in
local macro_rules | `(tactic| tbr_iter "blk") => `(tactic| first | exact blkOk_by (by dsimp only [cxOf, envOfC]; decide +kernel))
set_option hygiene false in
local macro_rules | `(tactic| tbr_iter "iff") => `(tactic| first
  | refine iteT ?_
  | refine iteF ?_
  | refine w_if2 (fun _ => ?_) (fun _ => ?_))
set_option hygiene false in
local macro_rules | `(tactic| tbr_iter "sc") => `(tactic| first | omega | decide)
set_option hygiene false in
local macro_rules | `(tactic| tbr_iter "at") => `(tactic| first | exact atI_0 | exact atI_1 | exact atI_2)
set_option hygiene false in
local macro_rules | `(tactic| tbr_iter "sql") => `(tactic| ((try dsimp only [L2.cxOf, L2.Cx.blk]); with_reducible first | assumption | exact SqL.of (by assumption)))
set_option hygiene false in
local macro_rules | `(tactic| tbr_iter "sqt") => `(tactic| ((try dsimp only [L2.cxOf, L2.Cx.blk]); with_reducible first | assumption | exact SqT.of (by assumption)))
set_option hygiene false in
local macro_rules | `(tactic| tbr_iter "v") => `(tactic| first
  | refine bv_add ?_
  | refine bv_sub ?_
  | ((with_reducible show BinV _ .Mult _ _ _ _); refine bv_mul (Or.inl ⟨by tbr_iter "sc", by tbr_iter "sc"⟩) ?_)
  | ((with_reducible show BinV _ .Mult _ _ _ _); refine bv_mul (Or.inr ⟨by tbr_iter "sc", by tbr_iter "sc"⟩) ?_)
  | ((with_reducible show BinV _ .Mod _ _ _ _); refine bv_mod (by tbr_iter "sc") ?_)
  | ((with_reducible show BinV _ .FloorDiv _ _ _ _); refine bv_fdiv ⟨by tbr_iter "sc", by tbr_iter "sc"⟩ ?_)
  | ((with_reducible show BinV _ .Pow _ _ _ _); refine bv_pow ⟨by decide, by decide +kernel⟩ ?_)
  | refine cv_lt ?_
  | refine cv_le ?_
  | refine cv_gt ?_
  | refine cv_ge ?_
  | ((with_reducible show CmpV _ .Eq _ _ _ _); refine cv_eq rfl ?_)
  | ((with_reducible show CmpV _ .NotEq _ _ _ _); refine cv_ne rfl ?_)
  | refine iv_list (by tbr_iter "sql") (by tbr_iter "at") ?_
  | refine iv_tup (by tbr_iter "sqt") (by tbr_iter "at") ?_
  | refine kv_len_seq (Or.inl (by tbr_iter "sql")) ?_
  | refine kv_len_seq (Or.inr (by tbr_iter "sqt")) ?_
  | refine kv_int ?_
  | refine kv_intB ?_
  | refine kv_abs ?_
  | refine kv_max2 rfl ?_
  | refine kv_min2 rfl ?_)
set_option hygiene false in
local macro_rules | `(tactic| tbr_iter "b") => `(tactic| first
  | refine ⟨_, rfl, iteT ?_⟩
  | refine ⟨_, rfl, iteF ?_⟩
  | refine iteT ?_
  | refine iteF ?_)
set_option hygiene false in
local macro_rules | `(tactic| tbr_iter "go") => `(tactic| repeat (first | tbr_iter "w" | tbr_iter "v" | tbr_iter "b"))
set_option hygiene false in
local macro_rules | `(tactic| tbr_iter "nof") => `(tactic| (intro d hd; cases d <;> first | rfl | exact absurd rfl (hd _)))
set_option hygiene false in
local macro_rules | `(tactic| tbr_iter "e1") => `(tactic| first | ((with_reducible show W _ _ _ _ _); tbr_iter "w") | ((with_reducible show WA _ _ _ _ _); tbr_iter "w") | ((with_reducible show WT _ _ _ _ _); tbr_iter "w") | ((with_reducible show WW _ _ _ _ _); tbr_iter "w") | tbr_iter "v")
set_option hygiene false in
local macro_rules | `(tactic| tbr_iter "ex") => `(tactic| repeat (tbr_iter "e1"))
set_option hygiene false in
local macro_rules | `(tactic| tbr_iter "z") => `(tactic| ((try dsimp only [L2.cxOf]); with_reducible first | exact T.z_IndexError | exact T.z_ValueError | exact T.z_abs | exact T.z_all | exact T.z_bool | exact T.z_classmethod | exact T.z_dict | exact T.z_enumerate | exact T.z_int | exact T.z_isinstance | exact T.z_iter | exact T.z_len | exact T.z_list | exact T.z_max | exact T.z_min | exact T.z_property | exact T.z_range | exact T.z_repr | exact T.z_set | exact T.z_sorted | exact T.z_str | exact T.z_tuple))
set_option hygiene false in
local macro_rules | `(tactic| tbr_iter "mg") => `(tactic| ((try dsimp only [L2.cxOf]); with_reducible first | exact T.c_ALPHABET | exact T.c_MAX_LETTERS | exact T.c_MAX_COLUMNS | exact T.c_MOST_VALUES))
namespace Ax
section
variable {P : Program} {w : World} {K : PySem.W.Frag} {mg : Str → Option Value} {base : Heap}
set_option hygiene false in
local macro_rules | `(tactic| tbr_iter "var") => `(tactic| first | ((with_reducible show W _ (.Name "script" _) _ _ _); refine w_var 0 rfl (by tbr_iter "vis") rfl ?_) | ((with_reducible show W _ (.Name "spot" _) _ _ _); refine w_var 1 rfl (by tbr_iter "vis") rfl ?_) | ((with_reducible show W _ (.Name "cell" _) _ _ _); refine w_var 2 rfl (by tbr_iter "vis") rfl ?_) | ((with_reducible show W _ (.Name "great" _) _ _ _); refine w_var 3 rfl (by tbr_iter "vis") rfl ?_) | ((with_reducible show W _ (.Name "blend" _) _ _ _); refine w_var 4 rfl (by tbr_iter "vis") rfl ?_))
set_option hygiene false in
local macro_rules | `(tactic| tbr_iter "set") => `(tactic| first | ((with_reducible show WB _ (.Assign [.Name "script" _] _ _ :: _) _ _ _); refine wb_cons (ws_set 0 ?_ rfl nd)) | ((with_reducible show WB _ (.Assign [.Name "spot" _] _ _ :: _) _ _ _); refine wb_cons (ws_set 1 ?_ rfl nd)) | ((with_reducible show WB _ (.Assign [.Name "cell" _] _ _ :: _) _ _ _); refine wb_cons (ws_set 2 ?_ rfl nd)) | ((with_reducible show WB _ (.Assign [.Name "great" _] _ _ :: _) _ _ _); refine wb_cons (ws_set 3 ?_ rfl nd)) | ((with_reducible show WB _ (.Assign [.Name "blend" _] _ _ :: _) _ _ _); refine wb_cons (ws_set 4 ?_ rfl nd)))
theorem ok_law_dice (T : Txt K mg) : Callee P w K mg base "_law_dice" 2 ["script", "spot"] (spDice K) := by
  refine def_ok T.f__law_dice sc__law_dice (fun _ _ _ _ _ _ us hl => match us, hl with | [_, _], _ => rfl) (fun vs H Q E h => ?_) fun f cdv A outer s H vs Q E hr h => ?_
  · obtain ⟨a, ns, j, rfl, _⟩ := h; rfl
  obtain ⟨a, ns, j, rfl, hs, hl, hj, k⟩ := h
  have nd := sc__law_dice.nd
  refine wb_cons (ws_set 2 ?_ rfl nd)
  refine W.mono (Q := fun v H1 => Same H H1 ∧ ∃ c, v = .int c) ?_ ?_
  · refine w_ifExp (wt_cmp ?_)
    tbr_iter "var"
    refine w_callB T.z_len (wa_cons ?_)
    tbr_iter "var"
    refine wa_nil (kv_len_seq (.inl hs) (cv_lt ⟨_, rfl, w_if2 (fun c => ?_) (fun c => ?_)⟩))
    · refine w_ix ?_
      tbr_iter "var"
      tbr_iter "var"
      have lt : j < ns.length := by simpa using c
      refine iv_list hs (v := .int ns[j]) ?_ ⟨Same.refl _, _, rfl⟩
      exact atI_nat (by simp [lt])
    · refine w_bin (w_bin (w_int ?_))
      tbr_iter "var"
      exact bv_mul (.inl ⟨by decide, by decide⟩) (w_int (bv_add ⟨Same.refl _, _, rfl⟩))
  rintro v H1 ⟨s1, c, rfl⟩
  refine wb_cons (ws_set 3 (w_bin (w_callTy T.z_int (wa_cons (w_callB T.z_abs (wa_cons ?_))))) rfl nd)
  tbr_iter "var"
  refine wa_nil (kv_abs (wa_nil (kv_int (w_bin (w_bin (w_int (w_int (bv_pow ⟨by decide, by decide +kernel⟩ (w_int (bv_pow ⟨by decide, by decide +kernel⟩ (bv_mod (by decide +kernel) ?_)))))))))))
  have g0 : 0 ≤ (if c < 0 then -c else c) % ((10 : Int) ^ (57 : Int).toNat) ^ (11 : Int).toNat := Int.emod_nonneg _ (by decide +kernel)
  revert g0
  generalize (if c < 0 then -c else c) % ((10 : Int) ^ (57 : Int).toNat) ^ (11 : Int).toNat = g
  intro g0
  tbr_iter "set"
  tbr_iter "ex"
  refine wb_cons (ws_ret (w_dice ?_))
  tbr_iter "go"
  refine ⟨three_line, fun p H2 s2 n2 hp => ⟨p, _, _, _, 0, hp, ⟨?_, ?_, ?_, ?_, ?_⟩, k p _ ?_ (same_nul s1 n2) upd_same⟩⟩
  · split <;> omega
  · exact Int.emod_nonneg _ (by decide)
  · exact Int.lt_trans (Int.emod_lt_of_pos _ (by decide)) (by decide)
  · exact Int.le_refl _
  · exact Int.le_refl _
  · exact same_upd (s1.trans s2) (same_nul s1 n2)
set_option hygiene false in
local macro_rules | `(tactic| tbr_iter "var") => `(tactic| first | ((with_reducible show W _ (.Name "dice" _) _ _ _); refine w_var 0 rfl (by tbr_iter "vis") rfl ?_) | ((with_reducible show W _ (.Name "size" _) _ _ _); refine w_var 1 rfl (by tbr_iter "vis") rfl ?_) | ((with_reducible show W _ (.Name "found" _) _ _ _); refine w_var 2 rfl (by tbr_iter "vis") rfl ?_) | ((with_reducible show W _ (.Name "one" _) _ _ _); refine w_var 3 rfl (by tbr_iter "vis") rfl ?_) | ((with_reducible show W _ (.Name "two" _) _ _ _); refine w_var 4 rfl (by tbr_iter "vis") rfl ?_))
set_option hygiene false in
local macro_rules | `(tactic| tbr_iter "set") => `(tactic| first | ((with_reducible show WB _ (.Assign [.Name "dice" _] _ _ :: _) _ _ _); refine wb_cons (ws_set 0 ?_ rfl nd)) | ((with_reducible show WB _ (.Assign [.Name "size" _] _ _ :: _) _ _ _); refine wb_cons (ws_set 1 ?_ rfl nd)) | ((with_reducible show WB _ (.Assign [.Name "found" _] _ _ :: _) _ _ _); refine wb_cons (ws_set 2 ?_ rfl nd)) | ((with_reducible show WB _ (.Assign [.Name "one" _] _ _ :: _) _ _ _); refine wb_cons (ws_set 3 ?_ rfl nd)) | ((with_reducible show WB _ (.Assign [.Name "two" _] _ _ :: _) _ _ _); refine wb_cons (ws_set 4 ?_ rfl nd)))
theorem ok_law_roll (T : Txt K mg) : Callee P w K mg base "_law_roll" 2 ["dice", "size"] spRoll := by
  refine def_ok T.f__law_roll sc__law_roll (fun _ _ _ _ _ _ us hl => match us, hl with | [_, _], _ => rfl) (fun vs H Q E h => ?_) fun f cdv A outer s H vs Q E hr h => ?_
  · obtain ⟨p, n, k, rfl, _⟩ := h; rfl
  obtain ⟨p, n, m, rfl, hp, hn, m0, m1, k⟩ := h
  have nd := sc__law_roll.nd
  refine wb_dice hp fun x y z d => ?_
  have d0 := d.x0
  have d1 := d.y0
  have d2 := d.y1
  have d3 := d.z0
  have d4 := d.z1
  have hL : SqL K (upd H p (.lst [.int x, .int y, .int z])) p [.int x, .int y, .int z] := SqL.of upd_same
  tbr_iter "go"
  refine ⟨_, rfl, w_if2 (fun c => ?_) (fun c => ?_)⟩
  · tbr_iter "set"
    tbr_iter "go"
    refine sv_list upd_same rfl ?_
    refine wb_cons (ws_ret (w_dice ?_))
    tbr_iter "go"
    refine ⟨p, _, _, _, n + 1, upd_same, ⟨?_, d1, d2, d3, by omega⟩, ?_⟩
    · exact Int.ediv_nonneg d0 (by omega)
    · rw [upd_upd, upd_upd]
      exact k _ _ (Sm.refl hp).upd upd_same (Int.emod_nonneg _ (by omega)) (Int.emod_lt_of_pos _ m0)
  · tbr_iter "go"
    refine sv_list upd_same rfl ?_
    rw [upd_upd]
    show WB _ _ _ _ (upd H p (.lst [.int x, .int y, .int (z + 1)]))
    clear hL
    have hL : SqL K (upd H p (.lst [.int x, .int y, .int (z + 1)])) p [.int x, .int y, .int (z + 1)] := SqL.of upd_same
    tbr_iter "set"
    tbr_iter "ex"
    have o0 := Int.emod_nonneg (y + 479001599 * (z + 1)) (show (72057594037927931 : Int) ≠ 0 by decide)
    have o1 := Int.emod_lt_of_pos (y + 479001599 * (z + 1)) (show (0 : Int) < 72057594037927931 by decide)
    revert o0 o1
    generalize (y + 479001599 * (z + 1)) % 72057594037927931 = one
    intro o0 o1
    tbr_iter "set"
    tbr_iter "ex"
    have t0 : 0 ≤ one * one % 36028797018963913 * one + 1299709 * (z + 1) := Int.add_nonneg (Int.mul_nonneg (Int.emod_nonneg _ (by decide)) o0) (by omega)
    have t1 : one * one % 36028797018963913 * one + 1299709 * (z + 1) < 2 ^ 130 := by
      have e1 : one * one % 36028797018963913 < 36028797018963913 := Int.emod_lt_of_pos _ (by decide)
      have e2 : one * one % 36028797018963913 * one ≤ 36028797018963913 * 72057594037927931 := Int.mul_le_mul (Int.le_of_lt e1) (Int.le_of_lt o1) o0 (by decide)
      omega
    revert t0 t1
    generalize one * one % 36028797018963913 * one + 1299709 * (z + 1) = two
    intro t0 t1
    have tn : two.natAbs < 2 ^ 130 := by omega
    refine wb_cons (ws_ret (w_dice ?_))
    tbr_iter "go"
    refine bv_mulW (wide_mul tn tn (by decide) (by decide) (by decide)) ?_
    tbr_iter "go"
    refine ⟨p, _, _, _, n + 1, upd_same, ⟨d0, d1, d2, by omega, by omega⟩, ?_⟩
    rw [upd_upd]
    exact k _ _ (Sm.refl hp).upd upd_same (Int.emod_nonneg _ (by omega)) (Int.emod_lt_of_pos _ m0)
set_option hygiene false in
local macro_rules | `(tactic| tbr_iter "var") => `(tactic| first | ((with_reducible show W _ (.Name "dice" _) _ _ _); refine w_var 0 rfl (by tbr_iter "vis") rfl ?_) | ((with_reducible show W _ (.Name "items" _) _ _ _); refine w_var 1 rfl (by tbr_iter "vis") rfl ?_))
set_option hygiene false in
local macro_rules | `(tactic| tbr_iter "set") => `(tactic| first | ((with_reducible show WB _ (.Assign [.Name "dice" _] _ _ :: _) _ _ _); refine wb_cons (ws_set 0 ?_ rfl nd)) | ((with_reducible show WB _ (.Assign [.Name "items" _] _ _ :: _) _ _ _); refine wb_cons (ws_set 1 ?_ rfl nd)))
theorem ok_law_pick (T : Txt K mg) : Callee P w K mg base "_law_pick" 3 ["dice", "items"] (spPick K) := by
  refine def_ok T.f__law_pick sc__law_pick (fun _ _ _ _ _ _ us hl => match us, hl with | [_, _], _ => rfl) (fun vs H Q E h => ?_) fun f cdv A outer s H vs Q E hr h => ?_
  · obtain ⟨p, l, n, xs, rfl, _⟩ := h; rfl
  obtain ⟨p, l, n, xs, rfl, hp, hn, hs, hne, hlen, k⟩ := h
  have nd := sc__law_pick.nd
  refine wb_cons (ws_ret (w_ix ?_))
  tbr_iter "ex"
  refine w_call (ok_law_roll T) hr passL ?_
  tbr_iter "ex"
  have h0 : 0 < xs.length := List.length_pos_iff.mpr hne
  refine ⟨p, n, _, rfl, hp, hn, by omega, by omega, fun r H1 s1 hp1 r0 r1 => ?_⟩
  have hi : r.toNat < xs.length := by omega
  exact iv_list (s1.seq hs) (atI_int r0 hi) (k _ (List.getElem_mem hi) _ s1 hp1)
end
end Ax

namespace Ax
def alpha : Str := "abcdefghijklmnopqrstuvwxyz"
def isNameS (z : Str) : Bool := decide (0 < z.length) && (decide (z.length ≤ 8) && z.cps.toList.all fun c => decide (c ∈ alpha.cps.toList))
def isNameD : PyData → Bool
  | .str z => isNameS z
  | _ => false
def isNameV : V → Bool
  | .str z => isNameS z
  | _ => false
theorem nameDV {K : PySem.W.Frag} {H : Hp} {v : V} {d : PyData} (h : Dp K H v d) : isNameD d = isNameV v := by cases h <;> rfl
theorem nameAll {K : PySem.W.Frag} {H : Hp} : ∀ {ds : List PyData} {vs : List V}, DpAll K H vs ds → vs.all isNameV = ds.all isNameD
  | [], _, h => by cases h; rfl
  | d :: ds, _, h => by
    cases h with
    | cons h1 h2 => rw [List.all_cons, List.all_cons, nameAll h2, nameDV h1]
def isRowD : PyData → Bool
  | .tuple ds => ds.all isNameD
  | _ => false
/-- a def that looks at any value -/
def spAny (K : PySem.W.Frag) (f : PyData → Bool) : Sp := fun vs H Q _ => ∃ v o, vs = [v] ∧ AnyV K H v o ∧ ∀ H', Same H H' → Q (.bl (o.any f)) H'
theorem signs_name (z : Str) : ((signsV z).all fun v => match v with | .str s => s.cps.toList.all fun c => decide (c ∈ alpha.cps.toList) | _ => false) = z.cps.toList.all fun c => decide (c ∈ alpha.cps.toList) := by
  unfold signsV
  rw [List.all_map]
  congr 1
  funext c
  simp
section
variable {P : Program} {w : World} {K : PySem.W.Frag} {mg : Str → Option Value} {base : Heap}
set_option hygiene false in
local macro_rules | `(tactic| tbr_iter "var") => `(tactic| first | ((with_reducible show W _ (.Name "value" _) _ _ _); refine w_var 0 rfl (by tbr_iter "vis") rfl ?_) | ((with_reducible show W _ (.Name "sign" _) _ _ _); refine w_var 1 rfl (by tbr_iter "vis") rfl ?_))
set_option hygiene false in
local macro_rules | `(tactic| tbr_iter "set") => `(tactic| first | ((with_reducible show WB _ (.Assign [.Name "value" _] _ _ :: _) _ _ _); refine wb_cons (ws_set 0 ?_ rfl nd)) | ((with_reducible show WB _ (.Assign [.Name "sign" _] _ _ :: _) _ _ _); refine wb_cons (ws_set 1 ?_ rfl nd)))
theorem ok_is_name (T : Txt K mg) : Callee P w K mg base "is_name" 1 ["value"] (spAny K isNameD) := by
  refine def_ok T.f_is_name sc_is_name (fun _ _ _ _ _ _ us hl => match us, hl with | [_], _ => rfl) (fun vs H Q E h => ?_) fun f cdv A outer s H vs Q E hr h => ?_
  · obtain ⟨v, o, rfl, _⟩ := h; rfl
  obtain ⟨v, o, rfl, a, k⟩ := h
  have nd := sc_is_name.nd
  tbr_iter "go"
  refine kv_isiA a (by decide) ⟨_, rfl, w_if2 (fun c => ?_) (fun c => ?_)⟩
  · cases a with
    | oth => cases c
    | @dat d hd ok =>
      rw [isiO_str] at c
      cases hd <;> first | cases c | skip
      rename_i z
      have hz := okD.str ok
      tbr_iter "go"
      refine kv_len_str hz ?_
      tbr_iter "go"
      refine ⟨_, rfl, w_if2 (fun c1 => ?_) (fun c1 => ?_)⟩
      · tbr_iter "go"
        refine ⟨_, rfl, w_if2 (fun c2 => ?_) (fun c2 => ?_)⟩
        · refine w_one ?_
          refine w_allLc 1 (fun v => match v with | .str s => s.cps.toList.all fun c => decide (c ∈ alpha.cps.toList) | _ => false) T.z_all rfl nd (by tbr_iter "blk") rfl (fun _ _ _ _ _ => ⟨Or.inl rfl, Or.inr rfl⟩) (wi_val ?_)
          tbr_iter "go"
          refine itv_str ⟨_, seqIt_str, ?_, fun v hv H2 s2 _ _ _ _ _ => ?_, fun H2 s2 => ?_⟩
          · have e : (signsV z).length = z.length := by simp [signsV, Str.length]
            have c2 : (z.length : Int) ≤ 8 := of_decide_eq_true c2
            rw [e]
            exact Nat.lt_of_le_of_lt (show z.length ≤ 8 by omega) (by decide)
          · obtain ⟨c, _, rfl⟩ := List.mem_map.mp hv
            tbr_iter "go"
            refine cv_inSign ⟨Same.refl _, ?_⟩
            simp [alpha]
          · have c1 : (0 : Int) < z.length := of_decide_eq_true c1
            have c2 : (z.length : Int) ≤ 8 := of_decide_eq_true c2
            refine qb (k H2 s2) ?_
            rw [signs_name]
            show (decide (0 < z.length) && (decide (z.length ≤ 8) && _)) = _
            rw [decide_eq_true (show 0 < z.length by omega), decide_eq_true (show z.length ≤ 8 by omega)]
            rfl
        · have c2 : ¬ (z.length : Int) ≤ 8 := of_decide_eq_false c2
          refine qb (k H (Same.refl _)) ?_
          show (_ && (decide (z.length ≤ 8) && _)) = _
          rw [decide_eq_false (show ¬ z.length ≤ 8 by omega), Bool.false_and, Bool.and_false]
      · have c1 : ¬ (0 : Int) < z.length := of_decide_eq_false c1
        refine ⟨_, rfl, iteF (qb (k H (Same.refl _)) ?_)⟩
        show (decide (0 < z.length) && _) = _
        rw [decide_eq_false (show ¬ 0 < z.length by omega), Bool.false_and]
  · have e := k H (Same.refl _)
    cases a with
    | oth => exact e
    | @dat d hd ok =>
      rw [isiO_str] at c
      cases hd <;> first | exact e | cases c
set_option hygiene false in
local macro_rules | `(tactic| tbr_iter "var") => `(tactic| first | ((with_reducible show W _ (.Name "value" _) _ _ _); refine w_var 0 rfl (by tbr_iter "vis") rfl ?_) | ((with_reducible show W _ (.Name "name" _) _ _ _); refine w_var 1 rfl (by tbr_iter "vis") rfl ?_))
set_option hygiene false in
local macro_rules | `(tactic| tbr_iter "set") => `(tactic| first | ((with_reducible show WB _ (.Assign [.Name "value" _] _ _ :: _) _ _ _); refine wb_cons (ws_set 0 ?_ rfl nd)) | ((with_reducible show WB _ (.Assign [.Name "name" _] _ _ :: _) _ _ _); refine wb_cons (ws_set 1 ?_ rfl nd)))
theorem ok_is_row (T : Txt K mg) : Callee P w K mg base "is_row" 2 ["value"] (spAny K isRowD) := by
  refine def_ok T.f_is_row sc_is_row (fun _ _ _ _ _ _ us hl => match us, hl with | [_], _ => rfl) (fun vs H Q E h => ?_) fun f cdv A outer s H vs Q E hr h => ?_
  · obtain ⟨v, o, rfl, _⟩ := h; rfl
  obtain ⟨v, o, rfl, a, k⟩ := h
  have nd := sc_is_row.nd
  tbr_iter "go"
  refine kv_isiA a (by decide) ⟨_, rfl, w_if2 (fun c => ?_) (fun c => ?_)⟩
  · cases a with
    | oth => cases c
    | @dat d hd ok =>
      rw [isiO_tuple] at c
      cases hd <;> first | cases c | skip
      rename_i p xs ds hx ha
      refine w_one ?_
      refine w_allLc 1 isNameV T.z_all rfl nd (by tbr_iter "blk") rfl (fun _ _ _ _ _ => ⟨Or.inl rfl, Or.inr rfl⟩) (wi_val ?_)
      tbr_iter "go"
      refine itv_tup hx ⟨_, seqIt_tup hx, ?_, fun v hv H2 s2 _ _ _ _ _ => ?_, fun H2 s2 => ?_⟩
      · rw [dpa_len ha]; exact okD.len ok
      · obtain ⟨i, hi⟩ := List.mem_iff_getElem?.mp hv
        obtain ⟨d, h1, h2⟩ := dpa_get ha hi
        have okd := okD.item ok d (List.mem_of_getElem? h1)
        refine w_call (ok_is_name T) (hr.mono (by decide)) passL ?_
        tbr_iter "go"
        refine ⟨v, some d, rfl, .dat (dp_same s2 h2) okd, fun H3 s3 => ⟨s3, ?_⟩⟩
        rw [← nameDV h2]
        rfl
      · have e := k H2 s2
        rw [nameAll ha]
        exact e
  · have e := k H (Same.refl _)
    cases a with
    | oth => exact e
    | @dat d hd ok =>
      rw [isiO_tuple] at c
      cases hd <;> first | exact e | cases c
/-- whole numbers, no truths -/
def spIsInt : Sp := fun vs H Q _ => ∃ i : Int, vs = [.int i] ∧ Q (.bl true) H
set_option hygiene false in
local macro_rules | `(tactic| tbr_iter "var") => `(tactic| first | ((with_reducible show W _ (.Name "value" _) _ _ _); refine w_var 0 rfl (by tbr_iter "vis") rfl ?_))
set_option hygiene false in
local macro_rules | `(tactic| tbr_iter "set") => `(tactic| first | ((with_reducible show WB _ (.Assign [.Name "value" _] _ _ :: _) _ _ _); refine wb_cons (ws_set 0 ?_ rfl nd)))
theorem ok_is_integer (T : Txt K mg) : Callee P w K mg base "is_integer" 1 ["value"] spIsInt := by
  refine def_ok T.f_is_integer sc_is_integer (fun _ _ _ _ _ _ us hl => match us, hl with | [_], _ => rfl) (fun vs H Q E h => ?_) fun f cdv A outer s H vs Q E hr h => ?_
  · obtain ⟨i, rfl, _⟩ := h; rfl
  obtain ⟨i, rfl, k⟩ := h
  have nd := sc_is_integer.nd
  tbr_iter "go"
  refine kv_isiB (t := "int") (.base (.int i)) (k := true) (by decide +kernel) ?_
  refine ⟨_, rfl, iteT ?_⟩
  tbr_iter "go"
  refine kv_isiB (t := "int") (.base (.int i)) (k := false) (by decide +kernel) ?_
  exact ⟨_, rfl, k⟩
def spBetween : Sp := fun vs H Q _ => ∃ i a b : Int, vs = [.int i, .int a, .int b] ∧ Q (.bl (decide (a ≤ i ∧ i ≤ b))) H
set_option hygiene false in
local macro_rules | `(tactic| tbr_iter "var") => `(tactic| first | ((with_reducible show W _ (.Name "value" _) _ _ _); refine w_var 0 rfl (by tbr_iter "vis") rfl ?_) | ((with_reducible show W _ (.Name "least" _) _ _ _); refine w_var 1 rfl (by tbr_iter "vis") rfl ?_) | ((with_reducible show W _ (.Name "most" _) _ _ _); refine w_var 2 rfl (by tbr_iter "vis") rfl ?_))
set_option hygiene false in
local macro_rules | `(tactic| tbr_iter "set") => `(tactic| first | ((with_reducible show WB _ (.Assign [.Name "value" _] _ _ :: _) _ _ _); refine wb_cons (ws_set 0 ?_ rfl nd)) | ((with_reducible show WB _ (.Assign [.Name "least" _] _ _ :: _) _ _ _); refine wb_cons (ws_set 1 ?_ rfl nd)) | ((with_reducible show WB _ (.Assign [.Name "most" _] _ _ :: _) _ _ _); refine wb_cons (ws_set 2 ?_ rfl nd)))
theorem ok_is_between (T : Txt K mg) : Callee P w K mg base "is_between" 2 ["value", "least", "most"] spBetween := by
  refine def_ok T.f_is_between sc_is_between (fun _ _ _ _ _ _ us hl => match us, hl with | [_, _, _], _ => rfl) (fun vs H Q E h => ?_) fun f cdv A outer s H vs Q E hr h => ?_
  · obtain ⟨i, a, b, rfl, _⟩ := h; rfl
  obtain ⟨i, a, b, rfl, k⟩ := h
  have nd := sc_is_between.nd
  tbr_iter "go"
  refine w_call (ok_is_integer T) (hr.mono (by decide)) passL ?_
  tbr_iter "go"
  refine ⟨i, rfl, ⟨_, rfl, iteT ?_⟩⟩
  tbr_iter "go"
  refine ⟨_, rfl, w_if2 (fun c => ?_) (fun c => ?_)⟩
  · have c : a ≤ i := of_decide_eq_true c
    tbr_iter "go"
    refine qb k ?_
    by_cases h : i ≤ b
    · rw [decide_eq_true h, decide_eq_true ⟨c, h⟩]
    · rw [decide_eq_false h, decide_eq_false fun z => h z.2]
  · have c : ¬ a ≤ i := of_decide_eq_false c
    refine qb k ?_
    rw [decide_eq_false fun z => c z.1]
def spReqCol : Sp := fun vs H Q _ => ∃ i : Int, vs = [.int i] ∧ 0 ≤ i ∧ i ≤ 3 ∧ Q .non H
set_option hygiene false in
local macro_rules | `(tactic| tbr_iter "var") => `(tactic| first | ((with_reducible show W _ (.Name "columns" _) _ _ _); refine w_var 0 rfl (by tbr_iter "vis") rfl ?_))
set_option hygiene false in
local macro_rules | `(tactic| tbr_iter "set") => `(tactic| first | ((with_reducible show WB _ (.Assign [.Name "columns" _] _ _ :: _) _ _ _); refine wb_cons (ws_set 0 ?_ rfl nd)))
theorem ok_require_columns (T : Txt K mg) : Callee P w K mg base "require_columns" 3 ["columns"] spReqCol := by
  refine def_ok T.f_require_columns sc_require_columns (fun _ _ _ _ _ _ us hl => match us, hl with | [_], _ => rfl) (fun vs H Q E h => ?_) fun f cdv A outer s H vs Q E hr h => ?_
  · obtain ⟨i, rfl, _⟩ := h; rfl
  obtain ⟨i, rfl, h0, h1, k⟩ := h
  have nd := sc_require_columns.nd
  refine wb_cons (ws_if (wt_not (wt_val (w_call (ok_is_between T) hr passL ?_))))
  tbr_iter "go"
  refine ⟨i, 0, 3, rfl, ⟨_, rfl, ?_⟩⟩
  rw [decide_eq_true ⟨h0, h1⟩]
  refine iteF (wb_nil (wb_nil k))
end
end Ax
end
section
set_option maxHeartbeats 4000000
open PySem PySem.Spec PyProof.Rows L2 Ax
set_option hygiene false in
local macro_rules | `(tactic| tbr_iter "boot") => `(tactic| with_reducible first | exact Ax.b_len | exact Ax.b_all | exact Ax.b_any | exact Ax.b_sorted | exact Ax.b_isinstance | exact Ax.b_abs | exact Ax.b_max | exact Ax.b_min | exact Ax.b_sum | exact Ax.b_repr | exact Ax.b_iter | exact Ax.b_ord | exact Ax.b_chr | exact Ax.b_str | exact Ax.b_int | exact Ax.b_bool | exact Ax.b_tuple | exact Ax.b_list | exact Ax.b_dict | exact Ax.b_set | exact Ax.b_range | exact Ax.b_enumerate | exact Ax.b_zip)
set_option hygiene false in
local macro_rules | `(tactic| tbr_iter "vis") => `(tactic| first | exact Or.inl rfl | exact Or.inr (Or.inl rfl) | exact Or.inr (Or.inr rfl))
set_option hygiene false in
local macro_rules | `(tactic| tbr_iter "w") => `(tactic| first
  | refine wb_cons ?_
  | refine wb_nil ?_
  | refine ws_ret ?_
  | refine ws_if ?_
  | refine ws_sub ?_
  | refine wa_cons ?_
  | refine wa_nil ?_
  | refine w_int ?_
  | refine w_str ?_
  | refine w_bl ?_
  | refine w_non ?_
  | tbr_iter "var"
  | refine w_bin ?_
  | refine w_cmp ?_
  | refine w_chain ?_
  | refine w_and ?_
  | refine w_or ?_
  | refine w_one ?_
  | refine w_not ?_
  | refine w_ix ?_
  | refine w_ifExp ?_
  | refine w_tup ?_
  | refine w_lst ?_
  | refine wt_not ?_
  | refine wt_bool ?_
  | refine ww_and ?_
  | refine ww_and1 ?_
  | refine ww_or ?_
  | refine ww_or1 ?_
  | refine wt_cmp ?_
  | refine wt_val ?_
  | tbr_iter "call"
  | (refine w_glob (by tbr_iter "mg") ?_)
  | (refine w_callB (by tbr_iter "z") ?_)
  | (refine w_callTy (by tbr_iter "z") ?_)
  | (refine w_bltT (by tbr_iter "z") ?_))
set_option hygiene false in
local macro_rules | `(tactic| tbr_iter "blk") => `(tactic| first | exact blkOk_by (by dsimp only [cxOf, envOfC]; decide +kernel))
set_option hygiene false in
local macro_rules | `(tactic| tbr_iter "iff") => `(tactic| first
  | refine iteT ?_
  | refine iteF ?_
  | refine w_if2 (fun _ => ?_) (fun _ => ?_))
set_option hygiene false in
local macro_rules | `(tactic| tbr_iter "sc") => `(tactic| first | omega | decide)
set_option hygiene false in
local macro_rules | `(tactic| tbr_iter "at") => `(tactic| first | exact atI_0 | exact atI_1 | exact atI_2)
set_option hygiene false in
local macro_rules | `(tactic| tbr_iter "sql") => `(tactic| ((try dsimp only [L2.cxOf, L2.Cx.blk]); with_reducible first | assumption | exact SqL.of (by assumption)))
set_option hygiene false in
local macro_rules | `(tactic| tbr_iter "sqt") => `(tactic| ((try dsimp only [L2.cxOf, L2.Cx.blk]); with_reducible first | assumption | exact SqT.of (by assumption)))
set_option hygiene false in
local macro_rules | `(tactic| tbr_iter "v") => `(tactic| first
  | refine bv_add ?_
  | refine bv_sub ?_
  | ((with_reducible show BinV _ .Mult _ _ _ _); refine bv_mul (Or.inl ⟨by tbr_iter "sc", by tbr_iter "sc"⟩) ?_)
  | ((with_reducible show BinV _ .Mult _ _ _ _); refine bv_mul (Or.inr ⟨by tbr_iter "sc", by tbr_iter "sc"⟩) ?_)
  | ((with_reducible show BinV _ .Mod _ _ _ _); refine bv_mod (by tbr_iter "sc") ?_)
  | ((with_reducible show BinV _ .FloorDiv _ _ _ _); refine bv_fdiv ⟨by tbr_iter "sc", by tbr_iter "sc"⟩ ?_)
  | ((with_reducible show BinV _ .Pow _ _ _ _); refine bv_pow ⟨by decide, by decide +kernel⟩ ?_)
  | refine cv_lt ?_
  | refine cv_le ?_
  | refine cv_gt ?_
  | refine cv_ge ?_
  | ((with_reducible show CmpV _ .Eq _ _ _ _); refine cv_eq rfl ?_)
  | ((with_reducible show CmpV _ .NotEq _ _ _ _); refine cv_ne rfl ?_)
  | refine iv_list (by tbr_iter "sql") (by tbr_iter "at") ?_
  | refine iv_tup (by tbr_iter "sqt") (by tbr_iter "at") ?_
  | refine kv_len_seq (Or.inl (by tbr_iter "sql")) ?_
  | refine kv_len_seq (Or.inr (by tbr_iter "sqt")) ?_
  | refine kv_int ?_
  | refine kv_intB ?_
  | refine kv_abs ?_
  | refine kv_max2 rfl ?_
  | refine kv_min2 rfl ?_)
set_option hygiene false in
local macro_rules | `(tactic| tbr_iter "b") => `(tactic| first
  | refine ⟨_, rfl, iteT ?_⟩
  | refine ⟨_, rfl, iteF ?_⟩
  | refine iteT ?_
  | refine iteF ?_)
set_option hygiene false in
local macro_rules | `(tactic| tbr_iter "go") => `(tactic| repeat (first | tbr_iter "w" | tbr_iter "v" | tbr_iter "b"))
set_option hygiene false in
local macro_rules | `(tactic| tbr_iter "nof") => `(tactic| (intro d hd; cases d <;> first | rfl | exact absurd rfl (hd _)))
set_option hygiene false in
local macro_rules | `(tactic| tbr_iter "e1") => `(tactic| first | ((with_reducible show W _ _ _ _ _); tbr_iter "w") | ((with_reducible show WA _ _ _ _ _); tbr_iter "w") | ((with_reducible show WT _ _ _ _ _); tbr_iter "w") | ((with_reducible show WW _ _ _ _ _); tbr_iter "w") | tbr_iter "v")
set_option hygiene false in
local macro_rules | `(tactic| tbr_iter "ex") => `(tactic| repeat (tbr_iter "e1"))
set_option hygiene false in
local macro_rules | `(tactic| tbr_iter "z") => `(tactic| ((try dsimp only [L2.cxOf]); with_reducible first | exact T.z_IndexError | exact T.z_ValueError | exact T.z_abs | exact T.z_all | exact T.z_bool | exact T.z_classmethod | exact T.z_dict | exact T.z_enumerate | exact T.z_int | exact T.z_isinstance | exact T.z_iter | exact T.z_len | exact T.z_list | exact T.z_max | exact T.z_min | exact T.z_property | exact T.z_range | exact T.z_repr | exact T.z_set | exact T.z_sorted | exact T.z_str | exact T.z_tuple))
set_option hygiene false in
local macro_rules | `(tactic| tbr_iter "mg") => `(tactic| ((try dsimp only [L2.cxOf]); with_reducible first | exact T.c_ALPHABET | exact T.c_MAX_LETTERS | exact T.c_MAX_COLUMNS | exact T.c_MOST_VALUES))
namespace Ax
theorem iteT2 {c : Bool} {A B : Prop} (h : c = true) (q : A) : if c = true then A else B := by rw [if_pos h]; exact q
theorem room64 {k : Nat} {A : Around} (r : Room k A) : A.units + 64 < cLine := by
  have := r.un
  omega
theorem alpha_ok : ∀ c ∈ alpha.cps.toList, PyData.strOk ⟨#[c]⟩ = true := by decide +kernel
theorem name_ok {z : Str} (h : isNameS z = true) : okD (.str z) = true := by
  unfold isNameS at h
  simp only [Bool.and_eq_true, decide_eq_true_eq, List.all_eq_true] at h
  obtain ⟨_, h1, h2⟩ := h
  have h3 : PyData.strOk z = true := by
    unfold PyData.strOk
    rw [← Array.all_toList]
    refine List.all_eq_true.mpr fun c hc => ?_
    have e := alpha_ok c (h2 c hc)
    unfold PyData.strOk at e
    simpa using e
  have e : okD (.str z) = ((PyData.strOk z && decide (z.length ≤ 1000)) && true) := rfl
  rw [e, h3, decide_eq_true (by omega)] <;> rfl
theorem tameAll_names : ∀ {r : List Str}, (∀ z ∈ r, isNameS z = true) → tameAll (r.map PyData.str) = true
  | [], _ => by simp [tameAll]
  | z :: r, h => by
    have e := name_ok (h z List.mem_cons_self)
    simp only [okD, Bool.and_eq_true] at e
    have e2 := tameAll_names fun y hy => h y (List.mem_cons_of_mem _ hy)
    simp [tameAll, e.1, e2]
/-- a row of c names -/
def NRow (c : Nat) (r : List Str) : Prop := r.length = c ∧ ∀ z ∈ r, isNameS z = true
theorem row_ok {c : Nat} {r : List Str} (h : NRow c r) (hc : c ≤ 100000) : okD (rowD r) = true := by
  have e := depth_row r
  simp only [okD, rowD, tame, Bool.and_eq_true, decide_eq_true_eq]
  refine ⟨⟨tameAll_names h.2, ?_⟩, ?_⟩
  · rw [List.length_map, h.1]
    exact hc
  · exact decide_eq_true (Nat.le_trans (show (PyData.tuple (r.map PyData.str)).depth ≤ 1 from e) (show 1 ≤ 60 by decide))
theorem row_is {c : Nat} {r : List Str} (h : NRow c r) : isRowD (rowD r) = true := by
  show (r.map PyData.str).all isNameD = true
  rw [List.all_map]
  exact List.all_eq_true.mpr fun z hz => h.2 z hz
/-- v is a tuple of the texts r -/
def RwV (H : Hp) (v : V) (r : List Str) : Prop := ∃ b, v = .ref b ∧ H b = some (.tup (r.map V.str))
theorem RwV.sl {H H' : Hp} {v : V} {r : List Str} (h : RwV H v r) (s : Sl H H') : RwV H' v r := let ⟨b, e, g⟩ := h; ⟨b, e, s _ _ g rfl⟩
theorem RwV.same {H H' : Hp} {v : V} {r : List Str} (h : RwV H v r) (s : Same H H') : RwV H' v r := h.sl (Sl.of s)
theorem RwV.bt {d : Addr} {H H' : Hp} {v : V} {r : List Str} (h : RwV H v r) (s : Bt d H H') (nd : ∀ xs, H d ≠ some (.tup xs)) : RwV H' v r := let ⟨b, e, g⟩ := h; ⟨b, e, s b _ (fun z => nd _ (z ▸ g)) g⟩
theorem rows_sl {H H' : Hp} {vs : List V} {rows : List (List Str)} (h : All2 (RwV H) vs rows) (s : Sl H H') : All2 (RwV H') vs rows := h.imp fun _ _ k => k.sl s
/-- rows in their order -/
def sortR (rows : List (List Str)) : List (List Str) := rows.mergeSort (PySem.W.dataLe false rowD)
/-- a table's rows -/
def tabRows (raw : List (List Str)) : List (List Str) := sortR (onceL raw)
theorem tabRows_mem {raw : List (List Str)} {r : List Str} : r ∈ tabRows raw ↔ r ∈ raw := by
  unfold tabRows sortR
  rw [List.mem_mergeSort]
  exact (onceL_mem raw).2 r
theorem tabRows_len (raw : List (List Str)) : (tabRows raw).length ≤ raw.length := by
  unfold tabRows sortR
  rw [List.length_mergeSort]
  exact nodup_len (onceL_mem raw).1 fun z hz => ((onceL_mem raw).2 z).mp hz
theorem tabRows_nodup (raw : List (List Str)) : (tabRows raw).Nodup := (List.mergeSort_perm _ _).nodup_iff.mpr (onceL_mem raw).1
/-- the table at a: c columns, these rows -/
structure TabIs (K : PySem.W.Frag) (H : Hp) (a : Addr) (c : Nat) (rows : List (List Str)) : Prop where
  ex : ∃ dx q d, H a = some (.ins (He.ga K "Table") dx [("own_columns", .int c), ("own_rows", .ref q), ("own_places", .ref d)]) ∧ (∃ vs, H q = some (.tup vs) ∧ All2 (RwV H) vs rows) ∧ ∃ kvs, H d = some (.dT kvs) ∧ kvs.map (·.1) = rows.map fun r => r.map Sum.inr
theorem TabIs.same {K : PySem.W.Frag} {H H' : Hp} {a : Addr} {c : Nat} {rows : List (List Str)} (h : TabIs K H a c rows) (s : Same H H') : TabIs K H' a c rows := by
  obtain ⟨dx, q, d, h1, ⟨vs, h2, h3⟩, kvs, h4, h5⟩ := h
  exact ⟨dx, q, d, s _ _ h1, ⟨vs, s _ _ h2, rows_sl h3 (Sl.of s)⟩, kvs, s _ _ h4, h5⟩
/-- what Table(c, *rows) does at the new x -/
def spTabI (K : PySem.W.Frag) : Sp := fun vs H Q _ => ∃ (x dx p : Addr) (c : Nat) (us : List V) (raw : List (List Str)), vs = [.ref x, .int c, .ref p] ∧ c ≤ 3 ∧ H x = some (.ins (He.ga K "Table") dx []) ∧ H p = some (.tup us) ∧ us.length < sizeLine ∧ All2 (RwV H) us raw ∧ (∀ r ∈ raw, NRow c r) ∧
  ∀ H', Bt x H H' → TabIs K H' x c (tabRows raw) → Q .non H'
theorem onceL_map {α β : Type} [DecidableEq α] [DecidableEq β] (f : α → β) (hf : ∀ a b, f a = f b → a = b) (l : List α) : onceL (l.map f) = (onceL l).map f := by
  have h : ∀ (zs d : List α), (zs.map f).foldl (fun d k => if k ∈ d then d else d ++ [k]) (d.map f) = (zs.foldl (fun d k => if k ∈ d then d else d ++ [k]) d).map f := by
    intro zs
    induction zs with
    | nil => intro d; rfl
    | cons z zs ih =>
      intro d
      rw [List.map_cons, List.foldl_cons, List.foldl_cons]
      by_cases c : z ∈ d
      · rw [if_pos c, if_pos (List.mem_map_of_mem c)]
        exact ih d
      · rw [if_neg c, if_neg (fun h => by
          obtain ⟨y, hy, e⟩ := List.mem_map.mp h
          rw [hf _ _ e] at hy
          exact c hy)]
        have e := ih (d ++ [z])
        rw [List.map_append] at e
        exact e
  exact h l []
theorem map_inr_inj : ∀ a b : List Str, a.map (Sum.inr (α := Int)) = b.map Sum.inr → a = b
  | [], [], _ => rfl
  | [], _ :: _, e => nomatch e
  | _ :: _, [], e => nomatch e
  | x :: a, y :: b, e => by
    rw [List.map_cons, List.map_cons] at e
    injection e with e1 e2
    injection e1 with e1
    rw [e1, map_inr_inj a b e2]
section
variable {P : Program} {w : World} {K : PySem.W.Frag} {mg : Str → Option Value} {base : Heap}
set_option hygiene false in
local macro_rules | `(tactic| tbr_iter "var") => `(tactic| first | ((with_reducible show W _ (.Name "self" _) _ _ _); refine w_var 0 rfl (by tbr_iter "vis") rfl ?_) | ((with_reducible show W _ (.Name "columns" _) _ _ _); refine w_var 1 rfl (by tbr_iter "vis") rfl ?_) | ((with_reducible show W _ (.Name "rows" _) _ _ _); refine w_var 2 rfl (by tbr_iter "vis") rfl ?_) | ((with_reducible show W _ (.Name "row" _) _ _ _); refine w_var 3 rfl (by tbr_iter "vis") rfl ?_) | ((with_reducible show W _ (.Name "place" _) _ _ _); refine w_var 4 rfl (by tbr_iter "vis") rfl ?_))
set_option hygiene false in
local macro_rules | `(tactic| tbr_iter "set") => `(tactic| first | ((with_reducible show WB _ (.Assign [.Name "self" _] _ _ :: _) _ _ _); refine wb_cons (ws_set 0 ?_ rfl nd)) | ((with_reducible show WB _ (.Assign [.Name "columns" _] _ _ :: _) _ _ _); refine wb_cons (ws_set 1 ?_ rfl nd)) | ((with_reducible show WB _ (.Assign [.Name "rows" _] _ _ :: _) _ _ _); refine wb_cons (ws_set 2 ?_ rfl nd)) | ((with_reducible show WB _ (.Assign [.Name "row" _] _ _ :: _) _ _ _); refine wb_cons (ws_set 3 ?_ rfl nd)) | ((with_reducible show WB _ (.Assign [.Name "place" _] _ _ :: _) _ _ _); refine wb_cons (ws_set 4 ?_ rfl nd)))
theorem ok_tab_init (T : Txt K mg) : FnP P w K mg base 5 (He.ma K (He.ga K "Table") "__init__") (fun vs H Q E => ∃ a b rest, vs = a :: b :: rest ∧ rest.length ≤ sizeLine ∧ ∀ p, H p = none → spTabI K [a, b, .ref p] (upd H p (.tup rest)) Q E) := by
  refine meth_okStar (p1 := "self") (p2 := "columns") (pv := "rows") T.f_Table___init__ sc_Table___init__ (fun _ _ _ _ _ _ _ _ => rfl) (by
    intro kV doc pm an cdv ct a b r rs
    unfold bindArgs
    dsimp only
    generalize decide (List.length (a :: b :: r :: rs) > List.length _) = g
    cases g <;> rfl) fun cdv A outer s H vs Q E hr h => ?_
  obtain ⟨x, dx, p, c, us, raw, rfl, hc, hx, hp, hl, hrs, hn, k⟩ := h
  have nd := sc_Table___init__.nd
  have kc := T.kc_Table
  have px : ∀ xs, H x ≠ some (.tup xs) := fun xs z => by rw [hx] at z; cases z
  refine wb_cons (ws_expr (w_call (ok_require_columns T) (hr.mono (by decide)) passL ?_))
  tbr_iter "go"
  refine ⟨c, rfl, by omega, by omega, ?_⟩
  have hrl := hrs.len
  refine wb_cons (ws_if (wt_not (wt_val (w_allLc 3 (fun _ => true) T.z_all rfl nd (by tbr_iter "blk") rfl (fun _ _ _ _ _ => ⟨Or.inl rfl, Or.inr rfl⟩) (wi_val ?_)))))
  tbr_iter "go"
  refine itv_tup (SqT.of hp) ⟨_, seqIt_tup (SqT.of hp), hl, fun v hv H2 s2 _ _ _ _ _ => ?_, fun H2 s2 => ⟨_, rfl, ?_⟩⟩
  · obtain ⟨i, hi⟩ := List.mem_iff_getElem?.mp hv
    obtain ⟨r, h1, b, rfl, hb⟩ := hrs.at hi
    have hr1 := hn r (List.mem_of_getElem? h1)
    refine w_and (w_call (ok_is_row T) (hr.mono (by decide)) passL ?_)
    tbr_iter "go"
    refine ⟨_, some (rowD r), rfl, .dat (.tup (SqT.of (s2 _ _ hb)) (dpa_strs r)) (row_ok hr1 (by omega)), fun H3 s3 => ⟨_, rfl, iteT2 (row_is hr1) ?_⟩⟩
    tbr_iter "go"
    refine kv_len_seq (Or.inr (SqT.of (s3 _ _ (s2 _ _ hb)))) ?_
    tbr_iter "go"
    refine ⟨s3, ?_⟩
    rw [List.length_map, hr1.1]
    simp
  have eall : us.all (fun _ => true) = true := by simp
  rw [eall]
  refine iteF (wb_nil ?_)
  have hx2 := s2 _ _ hx
  have hp2 := s2 _ _ hp
  have hrs2 := rows_sl hrs (Sl.of s2)
  refine wb_cons (ws_fld kc.c T.a_Table_own_columns ?_)
  tbr_iter "go"
  refine ⟨x, dx, [], rfl, hx2, by decide, ?_⟩
  show WB _ _ _ _ (upd H2 x (.ins (He.ga K "Table") dx [("own_columns", .int c)]))
  have pxx : p ≠ x := fun z => px us (z ▸ hp)
  have b3 : Bt x H2 (upd H2 x (.ins (He.ga K "Table") dx [("own_columns", .int c)])) := (Bt.refl x H2).upd
  have px2 : ∀ xs, H2 x ≠ some (.tup xs) := fun xs z => by rw [hx2] at z; cases z
  have hx3 : (upd H2 x (.ins (He.ga K "Table") dx [("own_columns", .int c)])) x = _ := upd_same
  have hp3 := b3 p _ pxx hp2
  have hrs3 : All2 (RwV (upd H2 x (.ins (He.ga K "Table") dx [("own_columns", .int c)]))) us raw := hrs2.imp fun _ _ z => z.bt b3 px2
  generalize upd H2 x (.ins (He.ga K "Table") dx [("own_columns", .int c)]) = H3 at b3 hx3 hp3 hrs3 ⊢
  refine wb_cons (ws_fld kc.c T.a_Table_own_rows (w_callTy T.z_tuple (wa_cons (w_callB T.z_sorted (wa_cons (w_dcN famT [("row", 3)] (gName 3) (room64 hr) mono_name (fun _ _ _ _ _ => pg_name nd rfl (Or.inl rfl) (Or.inr rfl)) rfl nd (by tbr_iter "blk") (wi_val ?_)))))))
  tbr_iter "go"
  refine itv_tup (SqT.of hp3) ⟨_, _, itN_seq (seqIt_tup (SqT.of hp3)), raw.map fun r => (r.map Sum.inr, V.bl true), by rw [List.length_map, hrl], hl, fun i v H4 k z hk s4 hv => ?_, fun D H4 s4 n4 hD => ?_⟩
  · rw [List.getElem?_map] at hk
    obtain ⟨r, h1, h2⟩ := Option.map_eq_some_iff.mp hk
    cases h2
    obtain ⟨r', h3, b, rfl, hb⟩ := hrs3.at hv
    rw [h1] at h3
    cases h3
    refine ⟨rfl, fun _ _ _ _ _ => ?_⟩
    tbr_iter "go"
    refine ⟨Same.refl _, ⟨b, rfl, ?_⟩, fun _ _ _ _ _ => ?_⟩
    · rw [s4 _ _ hb, List.map_map] <;> rfl
    · tbr_iter "go"
      exact ⟨Same.refl _, rfl⟩
  have hkeys : (putsL (raw.map fun r => (r.map (Sum.inr (α := Int)), V.bl true))).map (·.1) = (onceL raw).map fun r => r.map Sum.inr := by
    rw [putsL_keys, List.map_map]
    exact onceL_map (fun r => r.map (Sum.inr (α := Int))) map_inr_inj raw
  refine wa_nil ⟨_, call_sortedT rfl (room64 hr), D, _, onceL raw, c, rfl, hD, hkeys, fun r h => (hn r (((onceL_mem raw).2 r).mp h)).1, fun bs p5 n5 hbs => wa_nil (kv_tupleL (SqL.of upd_same) fun q H6 s6 n6 hq => ?_)⟩
  have s46 : Same H4 H6 := (same_new n5).trans s6
  have hbs6 : All2 (RwV H6) (bs.map V.ref) (tabRows raw) := by
    have key : ∀ {bs : List Addr} {rows : List (List Str)}, All2 (fun b r => H4 b = some (.tup (r.map V.str))) bs rows → All2 (RwV H6) (bs.map V.ref) rows := by
      intro bs rows h
      induction h with
      | nil => exact .nil
      | cons h t ih => exact .cons ⟨_, rfl, s46 _ _ h⟩ ih
    exact key hbs
  have s36 := s4.trans s46
  have hx6 := s36 _ _ hx3
  tbr_iter "go"
  refine ⟨x, dx, _, rfl, hx6, show 1 < 1000 by decide, ?_⟩
  show WB _ _ _ _ (upd H6 x (.ins (He.ga K "Table") dx [("own_columns", .int c), ("own_rows", .ref q)]))
  have px6 : ∀ xs, H6 x ≠ some (.tup xs) := fun xs z => by rw [hx6] at z; cases z
  have qx : q ≠ x := fun z => px6 _ (z ▸ hq)
  have b7 : Bt x H6 (upd H6 x (.ins (He.ga K "Table") dx [("own_columns", .int c), ("own_rows", .ref q)])) := (Bt.refl x H6).upd
  have hx7 : (upd H6 x (.ins (He.ga K "Table") dx [("own_columns", .int c), ("own_rows", .ref q)])) x = _ := upd_same
  have hq7 := b7 q _ qx hq
  have hbs7 : All2 (RwV (upd H6 x (.ins (He.ga K "Table") dx [("own_columns", .int c), ("own_rows", .ref q)]))) (bs.map V.ref) (tabRows raw) := hbs6.imp fun _ _ z => z.bt b7 px6
  have b37 : Bt x H2 (upd H6 x (.ins (He.ga K "Table") dx [("own_columns", .int c), ("own_rows", .ref q)])) := b3.trans ((Bt.of s36).trans b7)
  generalize upd H6 x (.ins (He.ga K "Table") dx [("own_columns", .int c), ("own_rows", .ref q)]) = H7 at b7 hx7 hq7 hbs7 b37 ⊢
  have hbl : bs.length = (tabRows raw).length := by
    have := hbs7.len
    rwa [List.length_map] at this
  have hrl2 : (tabRows raw).length < sizeLine := Nat.lt_of_le_of_lt (tabRows_len raw) (by omega)
  refine wb_cons (ws_fld kc.c T.a_Table_own_places (w_dcN famT [("row", 3), ("place", 4)] (gPair K 4 3) (room64 hr) mono_pair (fun _ _ _ _ _ => pg_tup rfl (pgs_cons (pg_name nd rfl (Or.inl rfl) (Or.inr rfl)) (pgs_cons (pg_name nd rfl (Or.inl rfl) (Or.inr rfl)) pgs_nil))) rfl nd (by tbr_iter "blk") (WI.of (pi_enumT rfl T.z_enumerate WA.pa) ?_)))
  refine wa_cons (w_fld kc.c T.a_Table_own_rows ?_)
  tbr_iter "go"
  refine ⟨x, dx, _, _, rfl, hx7, rfl, ?_⟩
  refine wa_nil ⟨q, bs.map V.ref, rfl, SqT.of hq7, _, _, itN_enumT (SqT.of hq7), (tabRows raw).zipIdx.map fun p => (p.1.map Sum.inr, V.int (p.2 : Nat)), by simp [hbl], by rw [List.length_map, hbl]; exact hrl2, fun i v H8 k z hk s8 hv => ?_, fun D H8 s8 n8 hD => ?_⟩
  · obtain ⟨t, y1, y2, rfl, e1, e2, ht⟩ := hv
    cases e1
    obtain ⟨r, h3, b, rfl, hb⟩ := hbs7.at e2
    rw [List.getElem?_map, List.getElem?_zipIdx, h3] at hk
    cases hk
    refine gPair_of (SqT.of ht) ⟨rfl, fun _ _ _ _ _ => ?_⟩
    tbr_iter "go"
    refine ⟨Same.refl _, ⟨b, rfl, ?_⟩, fun _ _ _ _ _ => ?_⟩
    · rw [s8 _ _ hb, List.map_map] <;> rfl
    · tbr_iter "go"
      refine ⟨Same.refl _, ?_⟩
      simp
  have hx8 := s8 _ _ hx7
  tbr_iter "go"
  refine ⟨x, dx, _, rfl, hx8, show 2 < 1000 by decide, ?_⟩
  show WB _ _ _ _ (upd H8 x (.ins (He.ga K "Table") dx [("own_columns", .int c), ("own_rows", .ref q), ("own_places", .ref D)]))
  have px8 : ∀ xs, H8 x ≠ some (.tup xs) := fun xs z => by rw [hx8] at z; cases z
  have b9 : Bt x H8 (upd H8 x (.ins (He.ga K "Table") dx [("own_columns", .int c), ("own_rows", .ref q), ("own_places", .ref D)])) := (Bt.refl x H8).upd
  have dne : D ≠ x := fun z => by
    rw [z, hx8] at hD
    cases hD
  refine wb_nil (k _ ((Bt.of s2).trans (b37.trans ((Bt.of s8).trans b9))) ⟨dx, q, D, upd_same, ⟨_, b9 _ _ qx (s8 _ _ hq7), hbs7.imp fun _ _ z => (z.same s8).bt b9 px8⟩, _, b9 _ _ dne hD, ?_⟩)
  have e1 : ((tabRows raw).zipIdx.map fun p => (p.1.map (Sum.inr (α := Int)), V.int (p.2 : Nat))).map (·.1) = (tabRows raw).map fun r => r.map Sum.inr := by
    rw [List.map_map]
    show List.map ((fun r : List Str => r.map (Sum.inr (α := Int))) ∘ Prod.fst) _ = _
    rw [← List.map_map, List.zipIdx_map_fst]
  rw [putsL_keys, e1]
  exact (onceL_map (fun r => r.map (Sum.inr (α := Int))) map_inr_inj (tabRows raw)).trans (by rw [onceL_id (tabRows_nodup raw)])
end
end Ax
end
section
set_option maxHeartbeats 4000000
open PySem PySem.Spec PyProof.Rows L2 Ax
set_option hygiene false in
local macro_rules | `(tactic| tbr_iter "boot") => `(tactic| with_reducible first | exact Ax.b_len | exact Ax.b_all | exact Ax.b_any | exact Ax.b_sorted | exact Ax.b_isinstance | exact Ax.b_abs | exact Ax.b_max | exact Ax.b_min | exact Ax.b_sum | exact Ax.b_repr | exact Ax.b_iter | exact Ax.b_ord | exact Ax.b_chr | exact Ax.b_str | exact Ax.b_int | exact Ax.b_bool | exact Ax.b_tuple | exact Ax.b_list | exact Ax.b_dict | exact Ax.b_set | exact Ax.b_range | exact Ax.b_enumerate | exact Ax.b_zip)
set_option hygiene false in
local macro_rules | `(tactic| tbr_iter "vis") => `(tactic| first | exact Or.inl rfl | exact Or.inr (Or.inl rfl) | exact Or.inr (Or.inr rfl))
set_option hygiene false in
local macro_rules | `(tactic| tbr_iter "w") => `(tactic| first
  | refine wb_cons ?_
  | refine wb_nil ?_
  | refine ws_ret ?_
  | refine ws_if ?_
  | refine ws_sub ?_
  | refine wa_cons ?_
  | refine wa_nil ?_
  | refine w_int ?_
  | refine w_str ?_
  | refine w_bl ?_
  | refine w_non ?_
  | tbr_iter "var"
  | refine w_bin ?_
  | refine w_cmp ?_
  | refine w_chain ?_
  | refine w_and ?_
  | refine w_or ?_
  | refine w_one ?_
  | refine w_not ?_
  | refine w_ix ?_
  | refine w_ifExp ?_
  | refine w_tup ?_
  | refine w_lst ?_
  | refine wt_not ?_
  | refine wt_bool ?_
  | refine ww_and ?_
  | refine ww_and1 ?_
  | refine ww_or ?_
  | refine ww_or1 ?_
  | refine wt_cmp ?_
  | refine wt_val ?_
  | tbr_iter "call"
  | (refine w_glob (by tbr_iter "mg") ?_)
  | (refine w_callB (by tbr_iter "z") ?_)
  | (refine w_callTy (by tbr_iter "z") ?_)
  | (refine w_bltT (by tbr_iter "z") ?_))
set_option hygiene false in
local macro_rules | `(tactic| tbr_iter "blk") => `(tactic| first | exact blkOk_by (by dsimp only [cxOf, envOfC]; decide +kernel))
set_option hygiene false in
local macro_rules | `(tactic| tbr_iter "iff") => `(tactic| first
  | refine iteT ?_
  | refine iteF ?_
  | refine w_if2 (fun _ => ?_) (fun _ => ?_))
set_option hygiene false in
local macro_rules | `(tactic| tbr_iter "sc") => `(tactic| first | omega | decide)
set_option hygiene false in
local macro_rules | `(tactic| tbr_iter "at") => `(tactic| first | exact atI_0 | exact atI_1 | exact atI_2)
set_option hygiene false in
local macro_rules | `(tactic| tbr_iter "sql") => `(tactic| ((try dsimp only [L2.cxOf, L2.Cx.blk]); with_reducible first | assumption | exact SqL.of (by assumption)))
set_option hygiene false in
local macro_rules | `(tactic| tbr_iter "sqt") => `(tactic| ((try dsimp only [L2.cxOf, L2.Cx.blk]); with_reducible first | assumption | exact SqT.of (by assumption)))
set_option hygiene false in
local macro_rules | `(tactic| tbr_iter "v") => `(tactic| first
  | refine bv_add ?_
  | refine bv_sub ?_
  | ((with_reducible show BinV _ .Mult _ _ _ _); refine bv_mul (Or.inl ⟨by tbr_iter "sc", by tbr_iter "sc"⟩) ?_)
  | ((with_reducible show BinV _ .Mult _ _ _ _); refine bv_mul (Or.inr ⟨by tbr_iter "sc", by tbr_iter "sc"⟩) ?_)
  | ((with_reducible show BinV _ .Mod _ _ _ _); refine bv_mod (by tbr_iter "sc") ?_)
  | ((with_reducible show BinV _ .FloorDiv _ _ _ _); refine bv_fdiv ⟨by tbr_iter "sc", by tbr_iter "sc"⟩ ?_)
  | ((with_reducible show BinV _ .Pow _ _ _ _); refine bv_pow ⟨by decide, by decide +kernel⟩ ?_)
  | refine cv_lt ?_
  | refine cv_le ?_
  | refine cv_gt ?_
  | refine cv_ge ?_
  | ((with_reducible show CmpV _ .Eq _ _ _ _); refine cv_eq rfl ?_)
  | ((with_reducible show CmpV _ .NotEq _ _ _ _); refine cv_ne rfl ?_)
  | refine iv_list (by tbr_iter "sql") (by tbr_iter "at") ?_
  | refine iv_tup (by tbr_iter "sqt") (by tbr_iter "at") ?_
  | refine kv_len_seq (Or.inl (by tbr_iter "sql")) ?_
  | refine kv_len_seq (Or.inr (by tbr_iter "sqt")) ?_
  | refine kv_int ?_
  | refine kv_intB ?_
  | refine kv_abs ?_
  | refine kv_max2 rfl ?_
  | refine kv_min2 rfl ?_)
set_option hygiene false in
local macro_rules | `(tactic| tbr_iter "b") => `(tactic| first
  | refine ⟨_, rfl, iteT ?_⟩
  | refine ⟨_, rfl, iteF ?_⟩
  | refine iteT ?_
  | refine iteF ?_)
set_option hygiene false in
local macro_rules | `(tactic| tbr_iter "go") => `(tactic| repeat (first | tbr_iter "w" | tbr_iter "v" | tbr_iter "b"))
set_option hygiene false in
local macro_rules | `(tactic| tbr_iter "nof") => `(tactic| (intro d hd; cases d <;> first | rfl | exact absurd rfl (hd _)))
set_option hygiene false in
local macro_rules | `(tactic| tbr_iter "e1") => `(tactic| first | ((with_reducible show W _ _ _ _ _); tbr_iter "w") | ((with_reducible show WA _ _ _ _ _); tbr_iter "w") | ((with_reducible show WT _ _ _ _ _); tbr_iter "w") | ((with_reducible show WW _ _ _ _ _); tbr_iter "w") | tbr_iter "v")
set_option hygiene false in
local macro_rules | `(tactic| tbr_iter "ex") => `(tactic| repeat (tbr_iter "e1"))
set_option hygiene false in
local macro_rules | `(tactic| tbr_iter "z") => `(tactic| ((try dsimp only [L2.cxOf]); with_reducible first | exact T.z_IndexError | exact T.z_ValueError | exact T.z_abs | exact T.z_all | exact T.z_bool | exact T.z_classmethod | exact T.z_dict | exact T.z_enumerate | exact T.z_int | exact T.z_isinstance | exact T.z_iter | exact T.z_len | exact T.z_list | exact T.z_max | exact T.z_min | exact T.z_property | exact T.z_range | exact T.z_repr | exact T.z_set | exact T.z_sorted | exact T.z_str | exact T.z_tuple))
set_option hygiene false in
local macro_rules | `(tactic| tbr_iter "mg") => `(tactic| ((try dsimp only [L2.cxOf]); with_reducible first | exact T.c_ALPHABET | exact T.c_MAX_LETTERS | exact T.c_MAX_COLUMNS | exact T.c_MOST_VALUES))
namespace Ax
section
variable {P : Program} {w : World} {K : PySem.W.Frag} {mg : Str → Option Value} {base : Heap}
theorem tabI_make {H1 : Hp} {c : Nat} {us : List V} {raw : List (List Str)} {Q : VK} {E : XK} (hc : c ≤ 3) (hl : us.length < sizeLine) (hrs : All2 (RwV H1) us raw) (hn : ∀ r ∈ raw, NRow c r) (k : ∀ x H2, Same H1 H2 → H1 x = none → TabIs K H2 x c (tabRows raw) → Q (.ref x) H2) :
    ∀ x dx, H1 x = none → H1 dx = none → dx ≠ x → ∃ a b rest, (V.ref x :: V.int c :: us) = a :: b :: rest ∧ rest.length ≤ sizeLine ∧ ∀ p, (upd (upd H1 dx (.own x)) x (.ins (He.ga K "Table") dx [])) p = none →
      spTabI K [a, b, .ref p] (upd (upd (upd H1 dx (.own x)) x (.ins (He.ga K "Table") dx [])) p (.tup rest)) (fun v H2 => v = .non ∧ Q (.ref x) H2) E := by
  intro x dx hx hdx hne
  refine ⟨_, _, us, rfl, Nat.le_of_lt hl, fun p hp => ?_⟩
  have px : p ≠ x := fun z => by rw [z, upd_same] at hp; cases hp
  have pd : p ≠ dx := fun z => by rw [z, upd_ne hne, upd_same] at hp; cases hp
  have hp1 : H1 p = none := by rw [upd_ne px, upd_ne pd] at hp; exact hp
  have s1 : Same H1 (upd (upd (upd H1 dx (.own x)) x (.ins (He.ga K "Table") dx [])) p (.tup us)) := fun y o hy => by
    rw [upd_ne (ne_of_none hy hp1), upd_ne (ne_of_none hy hx), upd_ne (ne_of_none hy hdx)]
    exact hy
  refine ⟨x, dx, p, c, us, raw, rfl, hc, by rw [upd_ne px.symm, upd_same], upd_same, hl, rows_sl hrs (Sl.of s1), hn, fun H' bt tab => ⟨rfl, k x H' (fun y o hy => ?_) hx tab⟩⟩
  exact bt y o (ne_of_none hy hx) (s1 y o hy)
/-- Table.of(c, rows) -/
def spTabOf (K : PySem.W.Frag) : Sp := fun vs H Q _ => ∃ (p : Addr) (c : Nat) (us : List V) (raw : List (List Str)), vs = [.ref (He.ga K "Table"), .int c, .ref p] ∧ c ≤ 3 ∧ SqT K H p us ∧ us.length < sizeLine ∧ All2 (RwV H) us raw ∧ (∀ r ∈ raw, NRow c r) ∧
  ∀ x H2, Same H H2 → H x = none → TabIs K H2 x c (tabRows raw) → Q (.ref x) H2
set_option hygiene false in
local macro_rules | `(tactic| tbr_iter "var") => `(tactic| first | ((with_reducible show W _ (.Name "cls" _) _ _ _); refine w_var 0 rfl (by tbr_iter "vis") rfl ?_) | ((with_reducible show W _ (.Name "columns" _) _ _ _); refine w_var 1 rfl (by tbr_iter "vis") rfl ?_) | ((with_reducible show W _ (.Name "rows" _) _ _ _); refine w_var 2 rfl (by tbr_iter "vis") rfl ?_))
set_option hygiene false in
local macro_rules | `(tactic| tbr_iter "set") => `(tactic| first | ((with_reducible show WB _ (.Assign [.Name "cls" _] _ _ :: _) _ _ _); refine wb_cons (ws_set 0 ?_ rfl nd)) | ((with_reducible show WB _ (.Assign [.Name "columns" _] _ _ :: _) _ _ _); refine wb_cons (ws_set 1 ?_ rfl nd)) | ((with_reducible show WB _ (.Assign [.Name "rows" _] _ _ :: _) _ _ _); refine wb_cons (ws_set 2 ?_ rfl nd)))
theorem ok_tab_of (T : Txt K mg) : FnP P w K mg base 7 (He5.wf K (He.ga K "Table") "classmethod" "of") (spTabOf K) := by
  refine meth_okR T.f_Table_of sc_Table_of (fun _ _ _ _ _ _ us hl => match us, hl with | [_, _, _], _ => rfl) (fun vs H Q E h => ?_) fun cdv A outer s H vs Q E hr h => ?_
  · obtain ⟨p, c, us, raw, rfl, _⟩ := h; rfl
  obtain ⟨p, c, us, raw, rfl, hc, hp, hl, hrs, hn, k⟩ := h
  have nd := sc_Table_of.nd
  refine wb_cons (ws_expr (w_call (ok_require_columns T) (hr.mono (by decide)) passL ?_))
  tbr_iter "go"
  refine ⟨c, rfl, by omega, by omega, ?_⟩
  tbr_iter "go"
  refine kv_isiB (tyX_tup hp) (k := true) (by decide +kernel) ?_
  refine ⟨_, rfl, iteF (wb_nil ?_)⟩
  refine wb_cons (ws_ret (w_makeS T.k_Table (ok_tab_init T) hr passL ?_))
  tbr_iter "go"
  refine ⟨rfl, ?_⟩
  tbr_iter "go"
  refine wa_star ?_
  tbr_iter "go"
  refine ⟨p, us, rfl, .inl hp, ?_⟩
  tbr_iter "go"
  rw [List.append_nil]
  exact tabI_make hc hl hrs hn k
/-- t.domain -/
def spDomain (K : PySem.W.Frag) : Sp := fun vs H Q _ => ∃ (a : Addr) (c : Nat) (rows : List (List Str)), vs = [.ref a] ∧ TabIs K H a c rows ∧ rows.flatten.length < sizeLine ∧ (onceL rows.flatten).length < 64 ∧
  ∀ ys q H2, ys.Perm (onceL rows.flatten) → sortedS ys = true → Same H H2 → H2 q = some (.tup (ys.map V.str)) → Q (.ref q) H2
set_option hygiene false in
local macro_rules | `(tactic| tbr_iter "var") => `(tactic| first | ((with_reducible show W _ (.Name "self" _) _ _ _); refine w_var 0 rfl (by tbr_iter "vis") rfl ?_) | ((with_reducible show W _ (.Name "row" _) _ _ _); refine w_var 1 rfl (by tbr_iter "vis") rfl ?_) | ((with_reducible show W _ (.Name "name" _) _ _ _); refine w_var 2 rfl (by tbr_iter "vis") rfl ?_))
set_option hygiene false in
local macro_rules | `(tactic| tbr_iter "set") => `(tactic| first | ((with_reducible show WB _ (.Assign [.Name "self" _] _ _ :: _) _ _ _); refine wb_cons (ws_set 0 ?_ rfl nd)) | ((with_reducible show WB _ (.Assign [.Name "row" _] _ _ :: _) _ _ _); refine wb_cons (ws_set 1 ?_ rfl nd)) | ((with_reducible show WB _ (.Assign [.Name "name" _] _ _ :: _) _ _ _); refine wb_cons (ws_set 2 ?_ rfl nd)))
theorem ok_domain (T : Txt K mg) : ∃ fd, FnOk P w K mg base (L2.CX P w) 1 (He5.wf K (He.ga K "Table") "property" "domain") fd ["self"] (spDomain K) ∧ Binds K fd ["self"] [] := by
  obtain ⟨fd, F⟩ := T.f_Table_domain
  refine ⟨fd, F.ok sc_Table_domain (fun vs H Q E h => ?_) fun cdv A outer s H vs Q E hr h => ⟨_, WB.pss, ?_⟩, F.bindsN fun _ _ _ _ _ _ us hl => match us, hl with | [_], _ => rfl⟩
  · obtain ⟨a, c, rows, rfl, _⟩ := h; rfl
  obtain ⟨a, c, rows, rfl, ht, hf, ho, k⟩ := h
  have nd := sc_Table_domain.nd
  obtain ⟨dx, q, d, h1, ⟨vs, h2, h3⟩, kvs, h4, h5⟩ := ht
  have kc := T.kc_Table
  have hvl := h3.len
  refine wb_cons (ws_ret (w_callTy T.z_tuple (wa_cons (w_callB T.z_sorted (wa_cons (w_dc2N famK [("row", 1), ("name", 2)] (gName 1) (gName 2) (room64 hr) mono_name mono_name (fun _ _ _ _ _ => pg_name nd rfl (Or.inl rfl) (Or.inr rfl)) (fun _ _ _ _ _ => pg_name nd rfl (Or.inl rfl) (Or.inr rfl)) rfl nd (by tbr_iter "blk") (wi_val (w_fld kc.c T.a_Table_own_rows ?_))))))))
  tbr_iter "go"
  refine ⟨a, dx, _, _, rfl, h1, rfl, ?_⟩
  refine itv_tup (SqT.of h2) ⟨_, _, itN_seq (seqIt_tup (SqT.of h2)), rows.map fun r => r.map fun z => (Sum.inr z, V.bl true), by rw [List.length_map, hvl], ?_, fun D i v H2 ps nD hk s2 hv => ?_, fun D H2 s2 n2 hD => ?_⟩
  · have e : (rows.map fun r => r.map fun z => ((Sum.inr z : Key), V.bl true)).flatten = rows.flatten.map fun z => (Sum.inr z, V.bl true) := by rw [List.map_flatten]
    rw [e, List.length_map]
    exact hf
  · rw [List.getElem?_map] at hk
    obtain ⟨r, e1, e2⟩ := Option.map_eq_some_iff.mp hk
    subst e2
    obtain ⟨r', e3, b, rfl, hb⟩ := h3.at hv
    rw [e1] at e3
    cases e3
    refine ⟨rfl, Same.refl _, fun _ _ _ _ _ => wi_val ?_⟩
    tbr_iter "go"
    have hbD : b ≠ D := ne_of_none hb nD
    refine itv_tup (SqT.of (s2 _ _ hb)) ⟨Same.refl _, YNth (r.map V.str), by rw [List.length_map, ← List.length_map (f := V.str)]; exact itD_tup (SqT.of (s2 _ _ hb)) hbD, fun j y H5 k z hk2 bt hy => ?_⟩
    rw [List.getElem?_map] at hk2
    obtain ⟨t, e4, e5⟩ := Option.map_eq_some_iff.mp hk2
    cases e5
    have hy : (r.map V.str)[j]? = some y := hy
    rw [List.getElem?_map, e4] at hy
    cases hy
    refine ⟨⟨rfl, keep_set rfl⟩, fun _ _ _ _ _ => ?_⟩
    · tbr_iter "go"
      refine ⟨Same.refl _, rfl, fun _ _ _ _ _ => ?_⟩
      tbr_iter "go"
      exact ⟨Same.refl _, rfl⟩
  · have e : (rows.map fun r => r.map fun z => ((Sum.inr z : Key), V.bl true)).flatten = rows.flatten.map fun z => (Sum.inr z, V.bl true) := by rw [List.map_flatten]
    rw [e] at hD
    have hkeys : (putsL (rows.flatten.map fun z => ((Sum.inr z : Key), V.bl true))).map (·.1) = (onceL rows.flatten).map Sum.inr := by
      rw [putsL_keys, List.map_map]
      exact onceL_map (fun z => (Sum.inr z : Key)) (fun a b e => Sum.inr.inj e) rows.flatten
    refine wa_nil (kv_sortedD rfl hD hkeys ho fun ys q1 H3 p3 so3 s3 n3 h3 => wa_nil (kv_tupleL (SqL.of h3) fun q2 H4 s4 n4 h4 => ?_))
    exact k ys q2 H4 p3 so3 (s2.trans (s3.trans s4)) h4
end
end Ax
end
section
set_option maxHeartbeats 4000000
open PySem PySem.Spec PyProof.Rows L2 Ax
set_option hygiene false in
local macro_rules | `(tactic| tbr_iter "boot") => `(tactic| with_reducible first | exact Ax.b_len | exact Ax.b_all | exact Ax.b_any | exact Ax.b_sorted | exact Ax.b_isinstance | exact Ax.b_abs | exact Ax.b_max | exact Ax.b_min | exact Ax.b_sum | exact Ax.b_repr | exact Ax.b_iter | exact Ax.b_ord | exact Ax.b_chr | exact Ax.b_str | exact Ax.b_int | exact Ax.b_bool | exact Ax.b_tuple | exact Ax.b_list | exact Ax.b_dict | exact Ax.b_set | exact Ax.b_range | exact Ax.b_enumerate | exact Ax.b_zip)
set_option hygiene false in
local macro_rules | `(tactic| tbr_iter "vis") => `(tactic| first | exact Or.inl rfl | exact Or.inr (Or.inl rfl) | exact Or.inr (Or.inr rfl))
set_option hygiene false in
local macro_rules | `(tactic| tbr_iter "w") => `(tactic| first
  | refine wb_cons ?_
  | refine wb_nil ?_
  | refine ws_ret ?_
  | refine ws_if ?_
  | refine ws_sub ?_
  | refine wa_cons ?_
  | refine wa_nil ?_
  | refine w_int ?_
  | refine w_str ?_
  | refine w_bl ?_
  | refine w_non ?_
  | tbr_iter "var"
  | refine w_bin ?_
  | refine w_cmp ?_
  | refine w_chain ?_
  | refine w_and ?_
  | refine w_or ?_
  | refine w_one ?_
  | refine w_not ?_
  | refine w_ix ?_
  | refine w_ifExp ?_
  | refine w_tup ?_
  | refine w_lst ?_
  | refine wt_not ?_
  | refine wt_bool ?_
  | refine ww_and ?_
  | refine ww_and1 ?_
  | refine ww_or ?_
  | refine ww_or1 ?_
  | refine wt_cmp ?_
  | refine wt_val ?_
  | tbr_iter "call"
  | (refine w_glob (by tbr_iter "mg") ?_)
  | (refine w_callB (by tbr_iter "z") ?_)
  | (refine w_callTy (by tbr_iter "z") ?_)
  | (refine w_bltT (by tbr_iter "z") ?_))
set_option hygiene false in
local macro_rules | `(tactic| tbr_iter "blk") => `(tactic| first | exact blkOk_by (by dsimp only [cxOf, envOfC]; decide +kernel))
set_option hygiene false in
local macro_rules | `(tactic| tbr_iter "iff") => `(tactic| first
  | refine iteT ?_
  | refine iteF ?_
  | refine w_if2 (fun _ => ?_) (fun _ => ?_))
set_option hygiene false in
local macro_rules | `(tactic| tbr_iter "sc") => `(tactic| first | omega | decide)
set_option hygiene false in
local macro_rules | `(tactic| tbr_iter "at") => `(tactic| first | exact atI_0 | exact atI_1 | exact atI_2)
set_option hygiene false in
local macro_rules | `(tactic| tbr_iter "sql") => `(tactic| ((try dsimp only [L2.cxOf, L2.Cx.blk]); with_reducible first | assumption | exact SqL.of (by assumption)))
set_option hygiene false in
local macro_rules | `(tactic| tbr_iter "sqt") => `(tactic| ((try dsimp only [L2.cxOf, L2.Cx.blk]); with_reducible first | assumption | exact SqT.of (by assumption)))
set_option hygiene false in
local macro_rules | `(tactic| tbr_iter "v") => `(tactic| first
  | refine bv_add ?_
  | refine bv_sub ?_
  | ((with_reducible show BinV _ .Mult _ _ _ _); refine bv_mul (Or.inl ⟨by tbr_iter "sc", by tbr_iter "sc"⟩) ?_)
  | ((with_reducible show BinV _ .Mult _ _ _ _); refine bv_mul (Or.inr ⟨by tbr_iter "sc", by tbr_iter "sc"⟩) ?_)
  | ((with_reducible show BinV _ .Mod _ _ _ _); refine bv_mod (by tbr_iter "sc") ?_)
  | ((with_reducible show BinV _ .FloorDiv _ _ _ _); refine bv_fdiv ⟨by tbr_iter "sc", by tbr_iter "sc"⟩ ?_)
  | ((with_reducible show BinV _ .Pow _ _ _ _); refine bv_pow ⟨by decide, by decide +kernel⟩ ?_)
  | refine cv_lt ?_
  | refine cv_le ?_
  | refine cv_gt ?_
  | refine cv_ge ?_
  | ((with_reducible show CmpV _ .Eq _ _ _ _); refine cv_eq rfl ?_)
  | ((with_reducible show CmpV _ .NotEq _ _ _ _); refine cv_ne rfl ?_)
  | refine iv_list (by tbr_iter "sql") (by tbr_iter "at") ?_
  | refine iv_tup (by tbr_iter "sqt") (by tbr_iter "at") ?_
  | refine kv_len_seq (Or.inl (by tbr_iter "sql")) ?_
  | refine kv_len_seq (Or.inr (by tbr_iter "sqt")) ?_
  | refine kv_int ?_
  | refine kv_intB ?_
  | refine kv_abs ?_
  | refine kv_max2 rfl ?_
  | refine kv_min2 rfl ?_)
set_option hygiene false in
local macro_rules | `(tactic| tbr_iter "b") => `(tactic| first
  | refine ⟨_, rfl, iteT ?_⟩
  | refine ⟨_, rfl, iteF ?_⟩
  | refine iteT ?_
  | refine iteF ?_)
set_option hygiene false in
local macro_rules | `(tactic| tbr_iter "go") => `(tactic| repeat (first | tbr_iter "w" | tbr_iter "v" | tbr_iter "b"))
set_option hygiene false in
local macro_rules | `(tactic| tbr_iter "nof") => `(tactic| (intro d hd; cases d <;> first | rfl | exact absurd rfl (hd _)))
set_option hygiene false in
local macro_rules | `(tactic| tbr_iter "e1") => `(tactic| first | ((with_reducible show W _ _ _ _ _); tbr_iter "w") | ((with_reducible show WA _ _ _ _ _); tbr_iter "w") | ((with_reducible show WT _ _ _ _ _); tbr_iter "w") | ((with_reducible show WW _ _ _ _ _); tbr_iter "w") | tbr_iter "v")
set_option hygiene false in
local macro_rules | `(tactic| tbr_iter "ex") => `(tactic| repeat (tbr_iter "e1"))
set_option hygiene false in
local macro_rules | `(tactic| tbr_iter "z") => `(tactic| ((try dsimp only [L2.cxOf]); with_reducible first | exact T.z_IndexError | exact T.z_ValueError | exact T.z_abs | exact T.z_all | exact T.z_bool | exact T.z_classmethod | exact T.z_dict | exact T.z_enumerate | exact T.z_int | exact T.z_isinstance | exact T.z_iter | exact T.z_len | exact T.z_list | exact T.z_max | exact T.z_min | exact T.z_property | exact T.z_range | exact T.z_repr | exact T.z_set | exact T.z_sorted | exact T.z_str | exact T.z_tuple))
set_option hygiene false in
local macro_rules | `(tactic| tbr_iter "mg") => `(tactic| ((try dsimp only [L2.cxOf]); with_reducible first | exact T.c_ALPHABET | exact T.c_MAX_LETTERS | exact T.c_MAX_COLUMNS | exact T.c_MOST_VALUES))
namespace Ax
open PySem.W (EachIs SortsAt dataKind AllAlike Sortable dataLe sortVals alike alikeAll sortingHeap sortingHeap_old)
/-! ### the set -/
def SetTB (P : Program) (w : World) (h : Heap) (a : Addr) (L : List (Addr × List Key)) : Prop :=
  ∃ es ep t, (∃ o, h.get? a = some o ∧ o.ExactSet ∧ o.data = .set es ep t) ∧ es.toList = entsT P w L ∧ TabOk t (L.map fun p => hT P w p.2) ∧ (L.map (·.2)).Nodup ∧ (w.params.followText "set-order" = true ∨ t.led = true) ∧ L.length * 5 < t.mask * 3 ∧ L.length < 64
def SetTO (P : Program) (w : World) (a : Addr) (L : List (Addr × List Key)) : HO := .ext fun h => SetTB P w h a L
theorem setTO_new {P : Program} {w : World} {H : Hp} {h : Heap} {a : Addr} {L : List (Addr × List Key)} {es : Array (Int × Value)} {ep : Nat} {t : SetTable} (R : SetTK P w h a L es ep t) : ObjOk P w H h a (SetTO P w a L) := by
  obtain ⟨o, ho, r⟩ := R.ob
  refine ⟨⟨es, ep, t, ⟨o, ho, r⟩, R.ents, R.tab, R.once, R.led, R.room, R.few⟩, ⟨o, ho⟩, ?_⟩
  rintro h1 h2 ⟨es, ep, t, ⟨o, ho, r⟩, z⟩ k
  exact ⟨es, ep, t, ⟨o, k o ho, r⟩, z⟩
/-- at a stands the set of these rows -/
def SetIs (X : Cx) (H : Hp) (a : Addr) (rows : List (List Str)) : Prop :=
  ∃ L : List (Addr × List Key), H a = some (SetTO X.prog X.w a L) ∧ (∀ p ∈ L, ∃ r, p.2 = r.map Sum.inr ∧ r ∈ rows ∧ H p.1 = some (.tup (r.map V.str))) ∧ ∀ r ∈ rows, r.map Sum.inr ∈ L.map (·.2)
theorem SetIs.same {X : Cx} {H H' : Hp} {a : Addr} {rows : List (List Str)} (h : SetIs X H a rows) (s : Same H H') : SetIs X H' a rows :=
  let ⟨L, h1, h2, h3⟩ := h
  ⟨L, s _ _ h1, fun p hp => let ⟨r, e1, e2, e3⟩ := h2 p hp; ⟨r, e1, e2, s _ _ e3⟩, h3⟩
theorem items_strs : ∀ {P : Program} {w : World} {r : List Str} {us : List Value}, Vals (r.map V.str) us → ItemsAre (mixKind P w) (r.map Sum.inr) us
  | _, _, [], _, h => by cases h; exact .nil
  | _, _, x :: r, _, h => by
    cases h with
    | cons h1 h2 =>
      obtain ⟨t, rfl⟩ := h1
      exact .cons (kV_is (k := Sum.inr x) ⟨t, rfl⟩) (items_strs h2)
section
variable {X : Cx} {H : Hp} {Q : VK}
theorem tk_of {pins : List (Addr × Obj)} {σ : L2.St} {s : Shared} (I : Inv X pins σ H s) {b : Addr} {r : List Str} (h : H b = some (.tup (r.map V.str))) : TK X.prog X.w s.heap (r.map Sum.inr) b := by
  obtain ⟨its, rv, ⟨o, ho, hc, n, hd⟩, _⟩ := I.tuple (SqT.of h)
  exact ⟨o, _, n, ho, hc, hd, by simpa using items_strs rv⟩
theorem rws_pairs : ∀ {us : List V} {rows : List (List Str)}, All2 (RwV H) us rows → ∃ L0 : List (Addr × List Str), us = L0.map (fun p => V.ref p.1) ∧ rows = L0.map (·.2) ∧ ∀ p ∈ L0, H p.1 = some (.tup (p.2.map V.str))
  | _, _, .nil => ⟨[], rfl, rfl, fun _ h => (List.not_mem_nil h).elim⟩
  | _, r :: _, .cons ⟨b, e, h⟩ t => by
    obtain ⟨L0, e1, e2, h2⟩ := rws_pairs t
    refine ⟨(b, r) :: L0, by rw [e, e1]; rfl, by rw [e2]; rfl, fun p hp => ?_⟩
    rcases List.mem_cons.mp hp with rfl | hp
    · exact h
    · exact h2 p hp
/-- set(xs) of a list of rows -/
theorem kv_setT {p : Addr} {us : List V} {rows : List (List Str)} (hc : X.calm = true) (hu : X.A.units + 64 < cLine) (hp : SqL X.K H p us) (hr : All2 (RwV H) us rows) (few : rows.length < 64) (h : ∀ q H2, Same H H2 → H q = none → SetIs X H2 q rows → Q (.ref q) H2) : CallV X (.type "set") [.ref p] H Q := by
  refine ⟨fun vs H' Q' => vs = [.ref p] ∧ H' = H ∧ Q' = Q, ?_, rfl, rfl, rfl⟩
  rintro pins s σ H0 vs us0 Q0 I r ⟨rfl, rfl, rfl⟩
  rw [L2.Vals.ref1 r]
  obtain ⟨L0, rfl, rfl, hL⟩ := rws_pairs hr
  obtain ⟨its, rv, pl, hz⟩ := I.list hp
  clear hz
  rw [List.length_map] at few
  have ei : its = L0.map fun p => Value.ref p.1 := by
    clear few hL hp hr pl
    clear h
    induction L0 generalizing its with
    | nil => cases rv; rfl
    | cons q L0 ih =>
      cases rv with
      | cons r1 r2 =>
        cases (show _ = Value.ref q.1 from r1)
        rw [ih _ r2]
        rfl
  have kl : (L0.map fun p => (p.1, p.2.map (Sum.inr (α := Int)))).length = L0.length := List.length_map ..
  refine call_setT (P := X.prog) (w := X.w) (L0.map fun p => (p.1, p.2.map Sum.inr)) (I.ok.hd hc) pl.isList (by rw [List.size_toArray, ei, kl, List.length_map]) (fun i v e => ?_) (fun q hq => ?_) (by rw [kl]; exact few) (by omega) fun h' tk L es ep t R g k => ?_
  · have e2 : (L0.map fun p => Value.ref p.1)[i]? = some v := by rw [← ei]; simpa using e
    rw [List.getElem?_map] at e2 ⊢
    obtain ⟨q, eq, rfl⟩ := Option.map_eq_some_iff.mp e2
    exact ⟨_, by rw [eq]; rfl, rfl⟩
  · obtain ⟨q0, h0, rfl⟩ := List.mem_map.mp hq
    exact tk_of I (hL q0 h0)
  have hn := I.hok.fresh (Nat.le_refl s.heap.objs.size)
  have ft : ∀ {xs : List (Addr × List Key)}, xs.take xs.length = xs := fun {xs} => List.take_length
  refine ⟨.ref s.heap.objs.size, upd H0 s.heap.objs.size (SetTO X.prog X.w s.heap.objs.size L), I.laid (t' := tk) k (Nat.le_refl _) (setTO_new R), rfl, h _ _ (same_new hn) hn ⟨L, upd_same, fun q hq => ?_, fun r hr => ?_⟩⟩
  · have z := g.sub q hq
    rw [ft] at z
    obtain ⟨q0, h0, rfl⟩ := List.mem_map.mp z
    exact ⟨q0.2, rfl, List.mem_map_of_mem h0, same_new hn _ _ (hL q0 h0)⟩
  · obtain ⟨q0, h0, rfl⟩ := List.mem_map.mp hr
    exact g.all (q0.1, q0.2.map Sum.inr) (by rw [ft]; exact List.mem_map.mpr ⟨q0, h0, rfl⟩)
end
theorem each_perm {α β : Type} {R : α → β → Prop} {xs ys : List α} (p : xs.Perm ys) : ∀ {bs : List β}, EachIs R xs bs → ∃ cs, EachIs R ys cs ∧ bs.Perm cs := by
  induction p with
  | nil => intro bs h; exact ⟨bs, h, .refl _⟩
  | cons x _ ih =>
    intro bs h
    cases h with
    | cons h1 h2 =>
      obtain ⟨cs, h3, h4⟩ := ih h2
      exact ⟨_ :: cs, .cons h1 h3, h4.cons _⟩
  | swap x y l =>
    intro bs h
    cases h with
    | cons h1 h2 =>
      cases h2 with
      | cons h3 h4 => exact ⟨_, .cons h3 (.cons h1 h4), .swap ..⟩
  | trans _ _ ih1 ih2 =>
    intro bs h
    obtain ⟨cs, h3, h4⟩ := ih1 h
    obtain ⟨ds, h5, h6⟩ := ih2 h3
    exact ⟨ds, h5, h4.trans h6⟩
theorem rows_keys {H : Hp} {rows : List (List Str)} : ∀ {L : List (Addr × List Key)}, (∀ p ∈ L, ∃ r, p.2 = r.map Sum.inr ∧ r ∈ rows ∧ H p.1 = some (.tup (r.map V.str))) → ∃ zs : List (List Str), L.map (·.2) = zs.map (fun r => r.map Sum.inr) ∧ (∀ r ∈ zs, r ∈ rows) ∧ EachIs (RowV H) (L.map fun p => Value.ref p.1) zs
  | [], _ => ⟨[], rfl, fun _ h => (List.not_mem_nil h).elim, .nil⟩
  | p :: L, h => by
    obtain ⟨r, e1, e2, e3⟩ := h p List.mem_cons_self
    obtain ⟨zs, g1, g2, g3⟩ := rows_keys fun q hq => h q (List.mem_cons_of_mem _ hq)
    refine ⟨r :: zs, by rw [List.map_cons, List.map_cons, e1, g1], fun z hz => ?_, .cons ⟨_, rfl, e3⟩ g3⟩
    rcases List.mem_cons.mp hz with rfl | hz
    · exact e2
    · exact g2 z hz
section
variable {X : Cx} {H : Hp} {Q : VK}
/-- sorted(s) of a set of rows of one length -/
theorem kv_sortedSetT {a : Addr} {rows : List (List Str)} {n : Nat} (hc : X.calm = true) (hu : X.A.units + 64 < cLine) (ha : SetIs X H a rows) (hn : ∀ r ∈ rows, r.length = n)
    (h : ∀ q H2 us, Same H H2 → H q = none → H2 q = some (.lst us) → All2 (RwV H2) us (sortRows (onceL rows)) → Q (.ref q) H2) : CallV X (.builtin "sorted") [.ref a] H Q := by
  refine ⟨fun vs H' Q' => vs = [.ref a] ∧ H' = H ∧ Q' = Q, ?_, rfl, rfl, rfl⟩
  rintro pins s σ H0 vs0 us0 Q0 I r ⟨rfl, rfl, rfl⟩
  rw [L2.Vals.ref1 r]
  obtain ⟨L, hO, hL, hR⟩ := ha
  obtain ⟨es, ep, t, ⟨o, ho, hex, hd⟩, ents, tab, once, led, room, few⟩ := (I.hok a _ hO).1
  have z := ents_len ents
  have tz := tab.sz
  rw [List.length_map] at tz
  refine Calls.call_function_entry PyProof.Rows.kind_sorted PyProof.Rows.plain_sorted PyProof.Rows.entry_sorted (PyProof.Rows.args_sorted1 _) ?_
  unfold Builtin.«sorted»
  refine wpAny_bind (m := checkCount "sorted" 1 1 _) (wpAny_pure ?_)
  refine wpAny_bind (collect_set (A := X.A.in1) (I.ok.hd hc) ⟨o, ho, hex.1, hd⟩ (by rw [z]; exact tab_fits tz tab.dm (by omega)) (by unfold scanBound; omega) tab.ris led fun s1 vs k1 hz g1 o1 pm => ?_)
  have e2 : es.toList.map (·.2) = L.map fun q => Value.ref q.1 := by
    rw [ents]
    unfold entsT
    rw [List.map_map]
    rfl
  rw [e2] at pm
  obtain ⟨zs, y1, y2, y3⟩ := rows_keys hL
  obtain ⟨cs, eR, pc⟩ := each_perm pm.symm y3
  have ndz : zs.Nodup := by
    have q := once
    rw [y1] at q
    exact (List.pairwise_map.mp q).imp fun {a b} h e => h (by rw [e])
  have memz : ∀ r, r ∈ zs ↔ r ∈ rows := fun r => ⟨y2 r, fun hr => by
    have q := hR r hr
    rw [y1] at q
    obtain ⟨r2, q1, q2⟩ := List.mem_map.mp q
    rw [← map_inr_inj _ _ q2]
    exact q1⟩
  have pz : cs.Perm (onceL rows) := pc.symm.trans ((List.perm_ext_iff_of_nodup ndz (onceL_mem rows).1).mpr fun r => (memz r).trans ((onceL_mem rows).2 r).symm)
  have hn2 : ∀ r ∈ cs, r.length = n := fun r hr => hn r ((memz r).mp (pc.mem_iff.mpr hr))
  have nd : cs.Nodup := pc.nodup_iff.mp ndz
  have h1 : n = 0 → cs.length ≤ 1 := fun h0 => by
    match cs, nd, hn2 with
    | [], _, _ => exact Nat.zero_le _
    | [_], _, _ => exact Nat.le_refl _
    | x :: y :: r, nd, hn =>
      have ex := List.eq_nil_of_length_eq_zero ((hn x (List.mem_cons_self ..)).trans h0)
      have ey := List.eq_nil_of_length_eq_zero ((hn y (List.mem_cons_of_mem _ (List.mem_cons_self ..))).trans h0)
      rw [ex, ey] at nd
      exact absurd (List.mem_cons_self ..) (List.nodup_cons.mp nd).1
  have hvl : vs.length < 64 := by rw [pm.length_eq, List.length_map]; exact few
  have I0 : Inv X pins σ H0 { s with heap := s1.heap, gens := s1.gens, drawn := s1.drawn, toks := s1.toks } := I.call (ch := []) (Un.kept k1) (I.hok.kept k1) (by rw [g1]; exact I.bare) (fun _ z => nomatch z)
  have e : s1 = { s with heap := s1.heap, gens := s1.gens, drawn := s1.drawn, toks := s1.toks } := by
    obtain ⟨_, _, _, _, _⟩ := s1
    cases o1
    rfl
  rw [← e] at I0
  have same01 : ∀ q Hx, H0 q = none → Same H0 (upd H0 q Hx) := fun q Hx hq => same_new hq
  clear e I hO hL hR y1 y2 y3 e2 tz z ents once led room few g1 ho hd tab
  generalize s1 = s2 at I0 k1 hz ⊢
  have big : sizeLine = 16777216 := by decide
  refine wpAny_bind (wpAny_newList ?_ (by omega))
  have hoL : (s2.heap.push (seqObj "list" vs.toArray 0)).get? s2.heap.objs.size = some (seqObj "list" vs.toArray 0) := Heap.get?_push_size _ rfl
  have keep : ∀ b ob, s2.heap.get? b = some ob → (sortingHeap (s2.heap.push (seqObj "list" vs.toArray 0)) s2.heap.objs.size vs).get? b = some ob := fun b ob z =>
    sortingHeap_old (Nat.ne_of_lt (Heap.lt_size z)) (Heap.get?_push_of_some _ z)
  have eS : EachIs (fun v r => ∃ as, Reads (sortingHeap (s2.heap.push (seqObj "list" vs.toArray 0)) s2.heap.objs.size vs) v (rowD r) as) vs cs := eR.mono fun v r ⟨b, ev, hb⟩ => by
    subst ev
    obtain ⟨as, rd⟩ := Dp.reads I0 (rowD r) (.ref b) (.ref b) (.tup (SqT.of hb) (dpa_strs r)) rfl
    exact ⟨as, PyProof.Rows.Reads.keeps keep rd⟩
  refine wpAny_bind (wpAny_holding (wpAny_call_entry PyProof.Rows.slot_list_sort ⟨_, hoL, rfl⟩ PyProof.Rows.entry_list_sort
    (PySem.W.list_sort_vals (s := { s2 with heap := s2.heap.push (seqObj "list" vs.toArray 0) }) hoL (sortsAt_rows (s := { s2 with heap := sortingHeap (s2.heap.push (seqObj "list" vs.toArray 0)) s2.heap.objs.size vs }) eS hn2 h1 (by show X.A.units + 1 + 1 + 2 < cLine; omega)) (by omega) ⟨_, rfl, ?_⟩) (PyProof.Rows.args_list_sort _)))
  have eO := PySem.W.sortVals_data (h' := sortingHeap (s2.heap.push (seqObj "list" vs.toArray 0)) s2.heap.objs.size vs) (enc := rowD) false eR eS (alike_rows cs)
  generalize sortVals (dataKind (sortingHeap (s2.heap.push (seqObj "list" vs.toArray 0)) s2.heap.objs.size vs) (cs.map rowD)) false vs vs = out at eO ⊢
  rw [sortRows_is, sortRows_perm pz] at eO
  obtain ⟨bs, eb, hbs⟩ := rows_out eO
  obtain ⟨e', he'⟩ := PyProof.Rows.sortedHeap_at (vs := vs) (out := out.toArray) hoL
  have hlen : (bs.map V.ref).length ≤ sizeLine := by
    have h2 := hbs.len
    have h3 : (sortRows (onceL rows)).length = (onceL rows).length := List.length_mergeSort _
    rw [h3, ← pz.length_eq, ← eR.length] at h2
    rw [List.length_map]
    omega
  have hq := I0.hok.fresh (Nat.le_refl s2.heap.objs.size)
  refine wpAny_pure ⟨_, rfl, .ref s2.heap.objs.size, upd H0 s2.heap.objs.size (.lst (bs.map V.ref)), I0.laid (t' := s2.toks) (fun b u ez => ?_) (Nat.le_refl _) (show ObjOk X.prog X.w _ _ _ (.lst (bs.map V.ref)) from ⟨hlen, out, e', by rw [eb] <;> exact vals_refs bs, he'⟩), rfl, h _ _ _ (same_new hq) hq upd_same ?_⟩
  · have hb : b < s2.heap.objs.size := Heap.lt_size ez
    rw [PyProof.Rows.sortedHeap_old (Nat.ne_of_lt hb) (by rw [size_push'] <;> exact Nat.lt_succ_of_lt hb)]
    exact Heap.get?_push_of_some _ ez
  · have go : ∀ {bs : List Addr} {rs : List (List Str)}, All2 (fun b r => H0 b = some (.tup (r.map V.str))) bs rs → All2 (RwV (upd H0 s2.heap.objs.size (.lst (bs.map V.ref)))) (bs.map V.ref) rs := fun {bs rs} q => by
      have key : ∀ {Hx : Hp} {bs : List Addr} {rs : List (List Str)}, Same H0 Hx → All2 (fun b r => H0 b = some (.tup (r.map V.str))) bs rs → All2 (RwV Hx) (bs.map V.ref) rs := fun {Hx bs rs} sm q => by
        induction q with
        | nil => exact .nil
        | cons h _ ih => exact .cons ⟨_, rfl, sm _ _ h⟩ ih
      exact key (same_new hq) q
    exact go hbs
end
end Ax
end
section
set_option maxHeartbeats 4000000
open PySem PySem.Spec PyProof.Rows L2 Ax
set_option hygiene false in
local macro_rules | `(tactic| tbr_iter "boot") => `(tactic| with_reducible first | exact Ax.b_len | exact Ax.b_all | exact Ax.b_any | exact Ax.b_sorted | exact Ax.b_isinstance | exact Ax.b_abs | exact Ax.b_max | exact Ax.b_min | exact Ax.b_sum | exact Ax.b_repr | exact Ax.b_iter | exact Ax.b_ord | exact Ax.b_chr | exact Ax.b_str | exact Ax.b_int | exact Ax.b_bool | exact Ax.b_tuple | exact Ax.b_list | exact Ax.b_dict | exact Ax.b_set | exact Ax.b_range | exact Ax.b_enumerate | exact Ax.b_zip)
set_option hygiene false in
local macro_rules | `(tactic| tbr_iter "vis") => `(tactic| first | exact Or.inl rfl | exact Or.inr (Or.inl rfl) | exact Or.inr (Or.inr rfl))
set_option hygiene false in
local macro_rules | `(tactic| tbr_iter "w") => `(tactic| first
  | refine wb_cons ?_
  | refine wb_nil ?_
  | refine ws_ret ?_
  | refine ws_if ?_
  | refine ws_sub ?_
  | refine wa_cons ?_
  | refine wa_nil ?_
  | refine w_int ?_
  | refine w_str ?_
  | refine w_bl ?_
  | refine w_non ?_
  | tbr_iter "var"
  | refine w_bin ?_
  | refine w_cmp ?_
  | refine w_chain ?_
  | refine w_and ?_
  | refine w_or ?_
  | refine w_one ?_
  | refine w_not ?_
  | refine w_ix ?_
  | refine w_ifExp ?_
  | refine w_tup ?_
  | refine w_lst ?_
  | refine wt_not ?_
  | refine wt_bool ?_
  | refine ww_and ?_
  | refine ww_and1 ?_
  | refine ww_or ?_
  | refine ww_or1 ?_
  | refine wt_cmp ?_
  | refine wt_val ?_
  | tbr_iter "call"
  | (refine w_glob (by tbr_iter "mg") ?_)
  | (refine w_callB (by tbr_iter "z") ?_)
  | (refine w_callTy (by tbr_iter "z") ?_)
  | (refine w_bltT (by tbr_iter "z") ?_))
set_option hygiene false in
local macro_rules | `(tactic| tbr_iter "blk") => `(tactic| first | exact blkOk_by (by dsimp only [cxOf, envOfC]; decide +kernel))
set_option hygiene false in
local macro_rules | `(tactic| tbr_iter "iff") => `(tactic| first
  | refine iteT ?_
  | refine iteF ?_
  | refine w_if2 (fun _ => ?_) (fun _ => ?_))
set_option hygiene false in
local macro_rules | `(tactic| tbr_iter "sc") => `(tactic| first | omega | decide)
set_option hygiene false in
local macro_rules | `(tactic| tbr_iter "at") => `(tactic| first | exact atI_0 | exact atI_1 | exact atI_2)
set_option hygiene false in
local macro_rules | `(tactic| tbr_iter "sql") => `(tactic| ((try dsimp only [L2.cxOf, L2.Cx.blk]); with_reducible first | assumption | exact SqL.of (by assumption)))
set_option hygiene false in
local macro_rules | `(tactic| tbr_iter "sqt") => `(tactic| ((try dsimp only [L2.cxOf, L2.Cx.blk]); with_reducible first | assumption | exact SqT.of (by assumption)))
set_option hygiene false in
local macro_rules | `(tactic| tbr_iter "v") => `(tactic| first
  | refine bv_add ?_
  | refine bv_sub ?_
  | ((with_reducible show BinV _ .Mult _ _ _ _); refine bv_mul (Or.inl ⟨by tbr_iter "sc", by tbr_iter "sc"⟩) ?_)
  | ((with_reducible show BinV _ .Mult _ _ _ _); refine bv_mul (Or.inr ⟨by tbr_iter "sc", by tbr_iter "sc"⟩) ?_)
  | ((with_reducible show BinV _ .Mod _ _ _ _); refine bv_mod (by tbr_iter "sc") ?_)
  | ((with_reducible show BinV _ .FloorDiv _ _ _ _); refine bv_fdiv ⟨by tbr_iter "sc", by tbr_iter "sc"⟩ ?_)
  | ((with_reducible show BinV _ .Pow _ _ _ _); refine bv_pow ⟨by decide, by decide +kernel⟩ ?_)
  | refine cv_lt ?_
  | refine cv_le ?_
  | refine cv_gt ?_
  | refine cv_ge ?_
  | ((with_reducible show CmpV _ .Eq _ _ _ _); refine cv_eq rfl ?_)
  | ((with_reducible show CmpV _ .NotEq _ _ _ _); refine cv_ne rfl ?_)
  | refine iv_list (by tbr_iter "sql") (by tbr_iter "at") ?_
  | refine iv_tup (by tbr_iter "sqt") (by tbr_iter "at") ?_
  | refine kv_len_seq (Or.inl (by tbr_iter "sql")) ?_
  | refine kv_len_seq (Or.inr (by tbr_iter "sqt")) ?_
  | refine kv_int ?_
  | refine kv_intB ?_
  | refine kv_abs ?_
  | refine kv_max2 rfl ?_
  | refine kv_min2 rfl ?_)
set_option hygiene false in
local macro_rules | `(tactic| tbr_iter "b") => `(tactic| first
  | refine ⟨_, rfl, iteT ?_⟩
  | refine ⟨_, rfl, iteF ?_⟩
  | refine iteT ?_
  | refine iteF ?_)
set_option hygiene false in
local macro_rules | `(tactic| tbr_iter "go") => `(tactic| repeat (first | tbr_iter "w" | tbr_iter "v" | tbr_iter "b"))
set_option hygiene false in
local macro_rules | `(tactic| tbr_iter "nof") => `(tactic| (intro d hd; cases d <;> first | rfl | exact absurd rfl (hd _)))
set_option hygiene false in
local macro_rules | `(tactic| tbr_iter "e1") => `(tactic| first | ((with_reducible show W _ _ _ _ _); tbr_iter "w") | ((with_reducible show WA _ _ _ _ _); tbr_iter "w") | ((with_reducible show WT _ _ _ _ _); tbr_iter "w") | ((with_reducible show WW _ _ _ _ _); tbr_iter "w") | tbr_iter "v")
set_option hygiene false in
local macro_rules | `(tactic| tbr_iter "ex") => `(tactic| repeat (tbr_iter "e1"))
set_option hygiene false in
local macro_rules | `(tactic| tbr_iter "z") => `(tactic| ((try dsimp only [L2.cxOf]); with_reducible first | exact T.z_IndexError | exact T.z_ValueError | exact T.z_abs | exact T.z_all | exact T.z_bool | exact T.z_classmethod | exact T.z_dict | exact T.z_enumerate | exact T.z_int | exact T.z_isinstance | exact T.z_iter | exact T.z_len | exact T.z_list | exact T.z_max | exact T.z_min | exact T.z_property | exact T.z_range | exact T.z_repr | exact T.z_set | exact T.z_sorted | exact T.z_str | exact T.z_tuple))
set_option hygiene false in
local macro_rules | `(tactic| tbr_iter "mg") => `(tactic| ((try dsimp only [L2.cxOf]); with_reducible first | exact T.c_ALPHABET | exact T.c_MAX_LETTERS | exact T.c_MAX_COLUMNS | exact T.c_MOST_VALUES))
namespace Ax
/-- all rows of c texts of zs, in the order of zs -/
def tupsL (zs : List Str) : Nat → List (List Str)
  | 0 => [[]]
  | c + 1 => (tupsL zs c).flatMap fun r => zs.map fun z => r ++ [z]
theorem flat_at {α β : Type} {f : α → List β} {m : Nat} : ∀ {xs : List α}, (∀ x ∈ xs, (f x).length = m) → ∀ {i : Nat} {x : α} {j : Nat}, xs[i]? = some x → j < m → (xs.flatMap f)[i * m + j]? = (f x)[j]?
  | [], _, i, x, j, h, _ => by simp at h
  | a :: xs, hm, 0, x, j, h, hj => by
    have e : a = x := by simpa using h
    subst e
    rw [Nat.zero_mul, Nat.zero_add, List.flatMap_cons, List.getElem?_append_left (by rw [hm a List.mem_cons_self]; exact hj)]
  | a :: xs, hm, i + 1, x, j, h, hj => by
    have la := hm a List.mem_cons_self
    rw [List.flatMap_cons, List.getElem?_append_right (by rw [la, Nat.succ_mul]; omega), la, show (i + 1) * m + j - m = i * m + j by rw [Nat.succ_mul]; omega]
    exact flat_at (fun y hy => hm y (List.mem_cons_of_mem _ hy)) (by simpa using h) hj
theorem flat_len {α β : Type} {f : α → List β} {m : Nat} : ∀ {xs : List α}, (∀ x ∈ xs, (f x).length = m) → (xs.flatMap f).length = xs.length * m
  | [], _ => by simp
  | a :: xs, hm => by
    rw [List.flatMap_cons, List.length_append, hm a List.mem_cons_self, flat_len fun y hy => hm y (List.mem_cons_of_mem _ hy), List.length_cons, Nat.succ_mul, Nat.add_comm]
theorem tupsL_len (zs : List Str) : ∀ c, (tupsL zs c).length = zs.length ^ c
  | 0 => rfl
  | c + 1 => by
    show ((tupsL zs c).flatMap fun r => zs.map fun z => r ++ [z]).length = _
    rw [flat_len (m := zs.length) fun x _ => List.length_map _, tupsL_len zs c, Nat.pow_succ]
theorem tupsL_mem {zs : List Str} : ∀ {c : Nat} {r : List Str}, r ∈ tupsL zs c ↔ r.length = c ∧ ∀ z ∈ r, z ∈ zs
  | 0, r => by
    show r ∈ [[]] ↔ _
    rw [List.mem_singleton]
    exact ⟨fun e => by subst e; simp, fun h => List.eq_nil_of_length_eq_zero h.1⟩
  | c + 1, r => by
    show r ∈ (tupsL zs c).flatMap _ ↔ _
    rw [List.mem_flatMap]
    constructor
    · rintro ⟨x, hx, h⟩
      obtain ⟨z, hz, rfl⟩ := List.mem_map.mp h
      obtain ⟨h1, h2⟩ := tupsL_mem.mp hx
      refine ⟨by rw [List.length_append, h1]; rfl, fun y hy => ?_⟩
      rcases List.mem_append.mp hy with hy | hy
      · exact h2 y hy
      · rw [List.mem_singleton.mp hy]
        exact hz
    · rintro ⟨h1, h2⟩
      have ne : r ≠ [] := fun e => by rw [e] at h1; cases h1
      have e := List.dropLast_concat_getLast ne
      refine ⟨r.dropLast, tupsL_mem.mpr ⟨by rw [List.length_dropLast, h1]; rfl, fun y hy => h2 y (List.dropLast_subset _ hy)⟩, List.mem_map.mpr ⟨r.getLast ne, h2 _ (List.getLast_mem ne), e⟩⟩
theorem all2_of_at {α β : Type} {R : α → β → Prop} : ∀ {xs : List α} {ys : List β}, xs.length = ys.length → (∀ (k : Nat) x, xs[k]? = some x → ∃ y, ys[k]? = some y ∧ R x y) → All2 R xs ys
  | [], [], _, _ => .nil
  | [], _ :: _, h, _ => by cases h
  | _ :: _, [], h, _ => by cases h
  | x :: xs, y :: ys, h, k => by
    obtain ⟨y', e, r⟩ := k 0 x rfl
    cases e
    exact .cons r (all2_of_at (Nat.succ.inj h) fun j z hz => k (j + 1) z hz)
def spRowsOver (K : PySem.W.Frag) : Sp := fun vs H Q _ => ∃ (p : Addr) (c : Nat) (zs : List Str), vs = [.ref p, .int c] ∧ H p = some (.tup (zs.map V.str)) ∧ c ≤ 3 ∧ zs.length ≤ 6 ∧
  ∀ us q H', Same H H' → H q = none → H' q = some (.lst us) → All2 (RwV H') us (tupsL zs c) → Q (.ref q) H'
theorem pow_le {n c : Nat} (hn : n ≤ 6) (hc : c ≤ 3) : n ^ c ≤ 216 := by
  refine Nat.le_trans (Nat.pow_le_pow_left hn c) ?_
  have : c = 0 ∨ c = 1 ∨ c = 2 ∨ c = 3 := by omega
  rcases this with rfl | rfl | rfl | rfl <;> decide
theorem ne_of_none' {H : Hp} {a b : Addr} {o : HO} (h : H a = some o) (n : H b = none) : b ≠ a := fun e => by rw [e, h] at n; cases n
section
variable {P : Program} {w : World} {K : PySem.W.Frag} {mg : Str → Option Value} {base : Heap}
set_option hygiene false in
local macro_rules | `(tactic| tbr_iter "var") => `(tactic| first | ((with_reducible show W _ (.Name "values" _) _ _ _); refine w_var 0 rfl (by tbr_iter "vis") rfl ?_) | ((with_reducible show W _ (.Name "columns" _) _ _ _); refine w_var 1 rfl (by tbr_iter "vis") rfl ?_) | ((with_reducible show W _ (.Name "found" _) _ _ _); refine w_var 2 rfl (by tbr_iter "vis") rfl ?_) | ((with_reducible show W _ (.Name "turn" _) _ _ _); refine w_var 3 rfl (by tbr_iter "vis") rfl ?_) | ((with_reducible show W _ (.Name "row" _) _ _ _); refine w_var 4 rfl (by tbr_iter "vis") rfl ?_) | ((with_reducible show W _ (.Name "value" _) _ _ _); refine w_var 5 rfl (by tbr_iter "vis") rfl ?_))
set_option hygiene false in
local macro_rules | `(tactic| tbr_iter "set") => `(tactic| first | ((with_reducible show WB _ (.Assign [.Name "values" _] _ _ :: _) _ _ _); refine wb_cons (ws_set 0 ?_ rfl nd)) | ((with_reducible show WB _ (.Assign [.Name "columns" _] _ _ :: _) _ _ _); refine wb_cons (ws_set 1 ?_ rfl nd)) | ((with_reducible show WB _ (.Assign [.Name "found" _] _ _ :: _) _ _ _); refine wb_cons (ws_set 2 ?_ rfl nd)) | ((with_reducible show WB _ (.Assign [.Name "turn" _] _ _ :: _) _ _ _); refine wb_cons (ws_set 3 ?_ rfl nd)) | ((with_reducible show WB _ (.Assign [.Name "row" _] _ _ :: _) _ _ _); refine wb_cons (ws_set 4 ?_ rfl nd)) | ((with_reducible show WB _ (.Assign [.Name "value" _] _ _ :: _) _ _ _); refine wb_cons (ws_set 5 ?_ rfl nd)))
theorem ok_rows_over (T : Txt K mg) : Callee P w K mg base "rows_over" 1 ["values", "columns"] (spRowsOver K) := by
  refine def_ok T.f_rows_over sc_rows_over (fun _ _ _ _ _ _ us hl => match us, hl with | [_, _], _ => rfl) (fun vs H Q E h => ?_) fun f cdv A outer s H vs Q E hr h => ?_
  · obtain ⟨p, c, zs, rfl, _⟩ := h; rfl
  obtain ⟨p, c, zs, rfl, hp, hc, hz, k⟩ := h
  have nd := sc_rows_over.nd
  refine wb_cons (ws_set 2 (w_lst (wa_cons (w_tup ?_))) rfl nd)
  tbr_iter "go"
  refine ⟨zero_line, fun pe H1 s1 n1 h1 => wa_nil ⟨one_line, fun pf H2 s2 n2 h2 => ?_⟩⟩
  have s02 := s1.trans s2
  refine wb_cons (ws_for 3 (wi_range1 T.z_range ?_) rfl nd (passes_of rfl))
  tbr_iter "go"
  refine ⟨c, rfl, by omega, by omega, c, _, _, walk_range (lo := 0) (n := c), fun i σ Hc => ∃ q us x1 x2 x3, σ = [some (.ref p), some (.int c), some (.ref q), x1, x2, x3] ∧ Same H Hc ∧ H q = none ∧ Hc q = some (.lst us) ∧ All2 (RwV Hc) us (tupsL zs i), ?_, fun _ _ _ _ _ => trivial, ?_, ?_⟩
  · exact ⟨pf, _, none, none, none, rfl, s02, same_nul s1 n2, h2, .one ⟨pe, rfl, s2 _ _ h1⟩⟩
  · rintro i v σ Hc Hc' hi ⟨q, us, x1, x2, x3, rfl, sm, nq, hq, hur⟩ ⟨e, rfl⟩
    subst e
    have hl := hur.len
    rw [tupsL_len] at hl
    have hz2 : zs.length ^ (i + 1) ≤ 216 := pow_le hz (by omega)
    refine wb_cons (ws_setLc2 2 [("row", 4), ("value", 5)] [5] (gName 4) (gName 5) mono_name mono_name (fun _ _ _ _ _ => pg_name nd rfl (Or.inl rfl) (Or.inr rfl)) (fun _ _ _ _ _ => pg_name nd rfl (Or.inl rfl) (Or.inr rfl)) rfl nd (by tbr_iter "blk") (by decide) rfl (wi_val ?_))
    tbr_iter "go"
    refine itv_list (SqL.of hq) ⟨_, _, itN_seq (seqIt_list (SqL.of hq)), zs.length, ?_, fun D k y H => ∃ r b, (tupsL zs (i + 1))[k]? = some r ∧ y = .ref b ∧ b ≠ D ∧ H b = some (.tup (r.map V.str)), fun D k y Ha Hb ⟨r, b, e1, e2, ne, hb⟩ bt => ⟨r, b, e1, e2, ne, bt _ _ ne hb⟩, fun D j x H2 nD hj s2 hx => ?_, fun D ys H2 nD s2 hD hyl hR => ?_⟩
    · rw [hl, ← Nat.pow_succ]
      exact Nat.lt_of_le_of_lt hz2 (by decide)
    · have hx : us[j]? = some x := hx
      obtain ⟨r, er, b, rfl, hb⟩ := hur.at hx
      refine ⟨rfl, Same.refl _, fun _ _ _ _ _ => wi_val ?_⟩
      tbr_iter "go"
      have hp2 := (sm.trans s2) _ _ hp
      have pD : p ≠ D := ne_of_none (sm _ _ hp) nD
      refine itv_tup (SqT.of hp2) ⟨Same.refl _, _, by rw [← List.length_map (f := V.str)]; exact itD_tup (SqT.of hp2) pD, fun m y H5 hm bt hacc hy => ?_⟩
      have hy : (zs.map V.str)[m]? = some y := hy
      rw [List.getElem?_map] at hy
      obtain ⟨z, ez, rfl⟩ := Option.map_eq_some_iff.mp hy
      have bD : b ≠ D := ne_of_none hb nD
      have hb5 := bt _ _ bD (s2 _ _ hb)
      obtain ⟨acc, hacc⟩ := hacc
      refine ⟨rfl, fun _ _ _ _ _ => w_tup (wa_star ?_)⟩
      tbr_iter "go"
      refine ⟨b, _, rfl, .inl (SqT.of hb5), ?_⟩
      tbr_iter "go"
      have hrl : r.length = i := (tupsL_mem.mp (List.mem_of_getElem? er)).1
      refine ⟨?_, fun t H7 s7 n7 h7 => ⟨s7, r ++ [z], t, ?_, rfl, ne_of_none' hacc n7, ?_⟩⟩
      · rw [List.length_append, List.length_map, hrl]
        exact Nat.le_trans (show i + 1 ≤ 3 by omega) (by decide)
      · show ((tupsL zs i).flatMap fun r => zs.map fun z => r ++ [z])[_]? = _
        rw [flat_at (m := zs.length) (fun x _ => List.length_map _) er hm, List.getElem?_map, ez]
        rfl
      · rw [h7, List.map_append]
        rfl
    · refine wb_nil ⟨D, ys, _, _, _, rfl, sm.trans s2, same_nul sm nD, hD, all2_of_at ?_ fun k y e => ?_⟩
      · rw [hyl, hl, tupsL_len, Nat.pow_succ]
      · obtain ⟨r, b, e1, e2, _, hb⟩ := hR k y e
        exact ⟨r, e1, b, e2, hb⟩
  · rintro σ Hc ⟨q, us, x1, x2, x3, rfl, sm, nq, hq, hur⟩
    tbr_iter "go"
    exact k us q Hc sm nq hq hur
end
end Ax
end
section
set_option maxHeartbeats 4000000
open PySem PySem.Spec PyProof.Rows L2 Ax
set_option hygiene false in
local macro_rules | `(tactic| tbr_iter "boot") => `(tactic| with_reducible first | exact Ax.b_len | exact Ax.b_all | exact Ax.b_any | exact Ax.b_sorted | exact Ax.b_isinstance | exact Ax.b_abs | exact Ax.b_max | exact Ax.b_min | exact Ax.b_sum | exact Ax.b_repr | exact Ax.b_iter | exact Ax.b_ord | exact Ax.b_chr | exact Ax.b_str | exact Ax.b_int | exact Ax.b_bool | exact Ax.b_tuple | exact Ax.b_list | exact Ax.b_dict | exact Ax.b_set | exact Ax.b_range | exact Ax.b_enumerate | exact Ax.b_zip)
set_option hygiene false in
local macro_rules | `(tactic| tbr_iter "vis") => `(tactic| first | exact Or.inl rfl | exact Or.inr (Or.inl rfl) | exact Or.inr (Or.inr rfl))
set_option hygiene false in
local macro_rules | `(tactic| tbr_iter "w") => `(tactic| first
  | refine wb_cons ?_
  | refine wb_nil ?_
  | refine ws_ret ?_
  | refine ws_if ?_
  | refine ws_sub ?_
  | refine wa_cons ?_
  | refine wa_nil ?_
  | refine w_int ?_
  | refine w_str ?_
  | refine w_bl ?_
  | refine w_non ?_
  | tbr_iter "var"
  | refine w_bin ?_
  | refine w_cmp ?_
  | refine w_chain ?_
  | refine w_and ?_
  | refine w_or ?_
  | refine w_one ?_
  | refine w_not ?_
  | refine w_ix ?_
  | refine w_ifExp ?_
  | refine w_tup ?_
  | refine w_lst ?_
  | refine wt_not ?_
  | refine wt_bool ?_
  | refine ww_and ?_
  | refine ww_and1 ?_
  | refine ww_or ?_
  | refine ww_or1 ?_
  | refine wt_cmp ?_
  | refine wt_val ?_
  | tbr_iter "call"
  | (refine w_glob (by tbr_iter "mg") ?_)
  | (refine w_callB (by tbr_iter "z") ?_)
  | (refine w_callTy (by tbr_iter "z") ?_)
  | (refine w_bltT (by tbr_iter "z") ?_))
set_option hygiene false in
local macro_rules | `(tactic| tbr_iter "blk") => `(tactic| first | exact blkOk_by (by dsimp only [cxOf, envOfC]; decide +kernel))
set_option hygiene false in
local macro_rules | `(tactic| tbr_iter "iff") => `(tactic| first
  | refine iteT ?_
  | refine iteF ?_
  | refine w_if2 (fun _ => ?_) (fun _ => ?_))
set_option hygiene false in
local macro_rules | `(tactic| tbr_iter "sc") => `(tactic| first | omega | decide)
set_option hygiene false in
local macro_rules | `(tactic| tbr_iter "at") => `(tactic| first | exact atI_0 | exact atI_1 | exact atI_2)
set_option hygiene false in
local macro_rules | `(tactic| tbr_iter "sql") => `(tactic| ((try dsimp only [L2.cxOf, L2.Cx.blk]); with_reducible first | assumption | exact SqL.of (by assumption)))
set_option hygiene false in
local macro_rules | `(tactic| tbr_iter "sqt") => `(tactic| ((try dsimp only [L2.cxOf, L2.Cx.blk]); with_reducible first | assumption | exact SqT.of (by assumption)))
set_option hygiene false in
local macro_rules | `(tactic| tbr_iter "v") => `(tactic| first
  | refine bv_add ?_
  | refine bv_sub ?_
  | ((with_reducible show BinV _ .Mult _ _ _ _); refine bv_mul (Or.inl ⟨by tbr_iter "sc", by tbr_iter "sc"⟩) ?_)
  | ((with_reducible show BinV _ .Mult _ _ _ _); refine bv_mul (Or.inr ⟨by tbr_iter "sc", by tbr_iter "sc"⟩) ?_)
  | ((with_reducible show BinV _ .Mod _ _ _ _); refine bv_mod (by tbr_iter "sc") ?_)
  | ((with_reducible show BinV _ .FloorDiv _ _ _ _); refine bv_fdiv ⟨by tbr_iter "sc", by tbr_iter "sc"⟩ ?_)
  | ((with_reducible show BinV _ .Pow _ _ _ _); refine bv_pow ⟨by decide, by decide +kernel⟩ ?_)
  | refine cv_lt ?_
  | refine cv_le ?_
  | refine cv_gt ?_
  | refine cv_ge ?_
  | ((with_reducible show CmpV _ .Eq _ _ _ _); refine cv_eq rfl ?_)
  | ((with_reducible show CmpV _ .NotEq _ _ _ _); refine cv_ne rfl ?_)
  | refine iv_list (by tbr_iter "sql") (by tbr_iter "at") ?_
  | refine iv_tup (by tbr_iter "sqt") (by tbr_iter "at") ?_
  | refine kv_len_seq (Or.inl (by tbr_iter "sql")) ?_
  | refine kv_len_seq (Or.inr (by tbr_iter "sqt")) ?_
  | refine kv_int ?_
  | refine kv_intB ?_
  | refine kv_abs ?_
  | refine kv_max2 rfl ?_
  | refine kv_min2 rfl ?_)
set_option hygiene false in
local macro_rules | `(tactic| tbr_iter "b") => `(tactic| first
  | refine ⟨_, rfl, iteT ?_⟩
  | refine ⟨_, rfl, iteF ?_⟩
  | refine iteT ?_
  | refine iteF ?_)
set_option hygiene false in
local macro_rules | `(tactic| tbr_iter "go") => `(tactic| repeat (first | tbr_iter "w" | tbr_iter "v" | tbr_iter "b"))
set_option hygiene false in
local macro_rules | `(tactic| tbr_iter "nof") => `(tactic| (intro d hd; cases d <;> first | rfl | exact absurd rfl (hd _)))
set_option hygiene false in
local macro_rules | `(tactic| tbr_iter "e1") => `(tactic| first | ((with_reducible show W _ _ _ _ _); tbr_iter "w") | ((with_reducible show WA _ _ _ _ _); tbr_iter "w") | ((with_reducible show WT _ _ _ _ _); tbr_iter "w") | ((with_reducible show WW _ _ _ _ _); tbr_iter "w") | tbr_iter "v")
set_option hygiene false in
local macro_rules | `(tactic| tbr_iter "ex") => `(tactic| repeat (tbr_iter "e1"))
set_option hygiene false in
local macro_rules | `(tactic| tbr_iter "z") => `(tactic| ((try dsimp only [L2.cxOf]); with_reducible first | exact T.z_IndexError | exact T.z_ValueError | exact T.z_abs | exact T.z_all | exact T.z_bool | exact T.z_classmethod | exact T.z_dict | exact T.z_enumerate | exact T.z_int | exact T.z_isinstance | exact T.z_iter | exact T.z_len | exact T.z_list | exact T.z_max | exact T.z_min | exact T.z_property | exact T.z_range | exact T.z_repr | exact T.z_set | exact T.z_sorted | exact T.z_str | exact T.z_tuple))
set_option hygiene false in
local macro_rules | `(tactic| tbr_iter "mg") => `(tactic| ((try dsimp only [L2.cxOf]); with_reducible first | exact T.c_ALPHABET | exact T.c_MAX_LETTERS | exact T.c_MAX_COLUMNS | exact T.c_MOST_VALUES))
namespace Ax
/-- names of values -/
def ValsOk (zs : List Str) : Prop := zs.Nodup ∧ 1 ≤ zs.length ∧ zs.length ≤ 6 ∧ ∀ z ∈ zs, isNameS z = true
theorem putsL_id {κ : Type} [DecidableEq κ] {ps : List (κ × V)} (h : (ps.map (·.1)).Nodup) : putsL ps = ps := by
  have key : ∀ (zs d : List (κ × V)), ((d ++ zs).map (·.1)).Nodup → zs.foldl (fun d p => putK d p.1 p.2) d = d ++ zs := by
    intro zs
    induction zs with
    | nil => intro d _; simp
    | cons z zs ih =>
      intro d n
      have c : z.1 ∉ d.map (·.1) := fun c => by
        rw [List.map_append] at n
        exact (List.nodup_append.mp n).2.2 z.1 c z.1 (List.mem_map_of_mem List.mem_cons_self) rfl
      have e : putK d z.1 z.2 = d ++ [z] := by
        unfold putK
        have e0 : (d.any fun kv => decide (kv.1 = z.1)) = false := List.any_eq_false.mpr fun kv hkv h => c (List.mem_map.mpr ⟨kv, hkv, of_decide_eq_true h⟩)
        rw [e0, if_neg Bool.false_ne_true]
      rw [List.foldl_cons, e, ih (d ++ [z]) (by simpa using n)]
      simp
  have e := key ps [] (by simpa using h)
  rw [List.nil_append] at e
  exact e
theorem valV_mem {κ : Type} [DecidableEq κ] {kvs : List (κ × V)} {k : κ} (h : k ∈ kvs.map (·.1)) : ∃ v, valV kvs k = some v ∧ (k, v) ∈ kvs := by
  cases e : valV kvs k with
  | none => exact absurd h (valV_not e)
  | some v =>
    refine ⟨v, rfl, ?_⟩
    unfold valV at e
    obtain ⟨p, hp, rfl⟩ := Option.map_eq_some_iff.mp e
    have h1 := List.find?_some hp
    have h2 := List.mem_of_find?_eq_some hp
    have h1 : p.1 = k := of_decide_eq_true h1
    rw [← h1]
    exact h2
def spAreValues (K : PySem.W.Frag) : Sp := fun vs H Q _ => ∃ (p : Addr) (zs : List Str), vs = [.ref p] ∧ SqT K H p (zs.map V.str) ∧ ValsOk zs ∧ ∀ H2, Same H H2 → Q (.bl true) H2
section
variable {P : Program} {w : World} {K : PySem.W.Frag} {mg : Str → Option Value} {base : Heap}
set_option hygiene false in
local macro_rules | `(tactic| tbr_iter "var") => `(tactic| first | ((with_reducible show W _ (.Name "value" _) _ _ _); refine w_var 0 rfl (by tbr_iter "vis") rfl ?_) | ((with_reducible show W _ (.Name "name" _) _ _ _); refine w_var 1 rfl (by tbr_iter "vis") rfl ?_))
set_option hygiene false in
local macro_rules | `(tactic| tbr_iter "set") => `(tactic| first | ((with_reducible show WB _ (.Assign [.Name "value" _] _ _ :: _) _ _ _); refine wb_cons (ws_set 0 ?_ rfl nd)) | ((with_reducible show WB _ (.Assign [.Name "name" _] _ _ :: _) _ _ _); refine wb_cons (ws_set 1 ?_ rfl nd)))
theorem ok_are_values (T : Txt K mg) : Callee P w K mg base "are_values" 3 ["value"] (spAreValues K) := by
  refine def_ok T.f_are_values sc_are_values (fun _ _ _ _ _ _ us hl => match us, hl with | [_], _ => rfl) (fun vs H Q E h => ?_) fun f cdv A outer s H vs Q E hr h => ?_
  · obtain ⟨p, zs, rfl, _⟩ := h; rfl
  obtain ⟨p, zs, rfl, hp, ⟨z1, z2, z3, z4⟩, k⟩ := h
  have nd := sc_are_values.nd
  have hrow : NRow zs.length zs := ⟨rfl, z4⟩
  refine wb_cons (ws_if (wt_bool (ww_or (wt_not (wt_val (w_call (ok_is_row T) (hr.mono (by decide)) passL ?_))))))
  tbr_iter "go"
  refine ⟨_, some (rowD zs), rfl, .dat (.tup hp (dpa_strs zs)) (row_ok hrow (by omega)), fun H2 s2 => ⟨_, rfl, ?_⟩⟩
  have e1 : ((some (rowD zs)).any isRowD) = true := row_is hrow
  rw [e1]
  refine iteF (ww_or1 (wt_not (wt_chain ?_)))
  tbr_iter "go"
  refine kv_len_seq (Or.inr (same_tup s2 hp)) (cv_le ⟨_, rfl, iteT2 (decide_eq_true (by rw [List.length_map]; omega)) ?_⟩)
  tbr_iter "go"
  refine ⟨_, rfl, ?_⟩
  rw [decide_eq_true (show (((zs.map V.str).length : Nat) : Int) ≤ 6 by rw [List.length_map]; omega)]
  refine iteF (wb_nil ?_)
  refine wb_cons (ws_ret (w_cmp (w_callB T.z_len (wa_cons (w_dcN famK [("name", 1)] (gName 1) (room64 hr) mono_name (fun _ _ _ _ _ => pg_name nd rfl (Or.inl rfl) (Or.inr rfl)) rfl nd (by tbr_iter "blk") (wi_val ?_))))))
  tbr_iter "go"
  refine itv_tup (same_tup s2 hp) ⟨_, _, itN_seq (seqIt_tup (same_tup s2 hp)), zs.map fun z => (Sum.inr z, V.bl true), by simp, by rw [List.length_map]; exact Nat.lt_of_le_of_lt z3 (by decide), fun i v H4 k z hk s4 hv => ?_, fun D H4 s4 n4 hD => ?_⟩
  · rw [List.getElem?_map] at hk
    obtain ⟨t, e4, e5⟩ := Option.map_eq_some_iff.mp hk
    cases e5
    have hv : (zs.map V.str)[i]? = some v := hv
    rw [List.getElem?_map, e4] at hv
    cases hv
    refine ⟨rfl, fun _ _ _ _ _ => ?_⟩
    tbr_iter "go"
    refine ⟨Same.refl _, rfl, fun _ _ _ _ _ => ?_⟩
    tbr_iter "go"
    exact ⟨Same.refl _, rfl⟩
  · refine wa_nil (kv_lenD hD ?_)
    tbr_iter "go"
    have e : (putsL (zs.map fun z => ((Sum.inr z : Key), V.bl true))).length = zs.length := by
      rw [putsL_id]
      · simp
      · rw [List.map_map]
        exact List.pairwise_map.mpr (z1.imp fun h e => h (Sum.inr.inj e))
    refine kv_len_seq (Or.inr (same_tup (s2.trans s4) hp)) ?_
    tbr_iter "go"
    refine qb (k H4 (s2.trans s4)) ?_
    rw [e, List.length_map]
    simp
end
end Ax
end
section
set_option maxHeartbeats 4000000
open PySem PySem.Spec PyProof.Rows L2 Ax
set_option hygiene false in
local macro_rules | `(tactic| tbr_iter "boot") => `(tactic| with_reducible first | exact Ax.b_len | exact Ax.b_all | exact Ax.b_any | exact Ax.b_sorted | exact Ax.b_isinstance | exact Ax.b_abs | exact Ax.b_max | exact Ax.b_min | exact Ax.b_sum | exact Ax.b_repr | exact Ax.b_iter | exact Ax.b_ord | exact Ax.b_chr | exact Ax.b_str | exact Ax.b_int | exact Ax.b_bool | exact Ax.b_tuple | exact Ax.b_list | exact Ax.b_dict | exact Ax.b_set | exact Ax.b_range | exact Ax.b_enumerate | exact Ax.b_zip)
set_option hygiene false in
local macro_rules | `(tactic| tbr_iter "vis") => `(tactic| first | exact Or.inl rfl | exact Or.inr (Or.inl rfl) | exact Or.inr (Or.inr rfl))
set_option hygiene false in
local macro_rules | `(tactic| tbr_iter "w") => `(tactic| first
  | refine wb_cons ?_
  | refine wb_nil ?_
  | refine ws_ret ?_
  | refine ws_if ?_
  | refine ws_sub ?_
  | refine wa_cons ?_
  | refine wa_nil ?_
  | refine w_int ?_
  | refine w_str ?_
  | refine w_bl ?_
  | refine w_non ?_
  | tbr_iter "var"
  | refine w_bin ?_
  | refine w_cmp ?_
  | refine w_chain ?_
  | refine w_and ?_
  | refine w_or ?_
  | refine w_one ?_
  | refine w_not ?_
  | refine w_ix ?_
  | refine w_ifExp ?_
  | refine w_tup ?_
  | refine w_lst ?_
  | refine wt_not ?_
  | refine wt_bool ?_
  | refine ww_and ?_
  | refine ww_and1 ?_
  | refine ww_or ?_
  | refine ww_or1 ?_
  | refine wt_cmp ?_
  | refine wt_val ?_
  | tbr_iter "call"
  | (refine w_glob (by tbr_iter "mg") ?_)
  | (refine w_callB (by tbr_iter "z") ?_)
  | (refine w_callTy (by tbr_iter "z") ?_)
  | (refine w_bltT (by tbr_iter "z") ?_))
set_option hygiene false in
local macro_rules | `(tactic| tbr_iter "blk") => `(tactic| first | exact blkOk_by (by dsimp only [cxOf, envOfC]; decide +kernel))
set_option hygiene false in
local macro_rules | `(tactic| tbr_iter "iff") => `(tactic| first
  | refine iteT ?_
  | refine iteF ?_
  | refine w_if2 (fun _ => ?_) (fun _ => ?_))
set_option hygiene false in
local macro_rules | `(tactic| tbr_iter "sc") => `(tactic| first | omega | decide)
set_option hygiene false in
local macro_rules | `(tactic| tbr_iter "at") => `(tactic| first | exact atI_0 | exact atI_1 | exact atI_2)
set_option hygiene false in
local macro_rules | `(tactic| tbr_iter "sql") => `(tactic| ((try dsimp only [L2.cxOf, L2.Cx.blk]); with_reducible first | assumption | exact SqL.of (by assumption)))
set_option hygiene false in
local macro_rules | `(tactic| tbr_iter "sqt") => `(tactic| ((try dsimp only [L2.cxOf, L2.Cx.blk]); with_reducible first | assumption | exact SqT.of (by assumption)))
set_option hygiene false in
local macro_rules | `(tactic| tbr_iter "v") => `(tactic| first
  | refine bv_add ?_
  | refine bv_sub ?_
  | ((with_reducible show BinV _ .Mult _ _ _ _); refine bv_mul (Or.inl ⟨by tbr_iter "sc", by tbr_iter "sc"⟩) ?_)
  | ((with_reducible show BinV _ .Mult _ _ _ _); refine bv_mul (Or.inr ⟨by tbr_iter "sc", by tbr_iter "sc"⟩) ?_)
  | ((with_reducible show BinV _ .Mod _ _ _ _); refine bv_mod (by tbr_iter "sc") ?_)
  | ((with_reducible show BinV _ .FloorDiv _ _ _ _); refine bv_fdiv ⟨by tbr_iter "sc", by tbr_iter "sc"⟩ ?_)
  | ((with_reducible show BinV _ .Pow _ _ _ _); refine bv_pow ⟨by decide, by decide +kernel⟩ ?_)
  | refine cv_lt ?_
  | refine cv_le ?_
  | refine cv_gt ?_
  | refine cv_ge ?_
  | ((with_reducible show CmpV _ .Eq _ _ _ _); refine cv_eq rfl ?_)
  | ((with_reducible show CmpV _ .NotEq _ _ _ _); refine cv_ne rfl ?_)
  | refine iv_list (by tbr_iter "sql") (by tbr_iter "at") ?_
  | refine iv_tup (by tbr_iter "sqt") (by tbr_iter "at") ?_
  | refine kv_len_seq (Or.inl (by tbr_iter "sql")) ?_
  | refine kv_len_seq (Or.inr (by tbr_iter "sqt")) ?_
  | refine kv_int ?_
  | refine kv_intB ?_
  | refine kv_abs ?_
  | refine kv_max2 rfl ?_
  | refine kv_min2 rfl ?_)
set_option hygiene false in
local macro_rules | `(tactic| tbr_iter "b") => `(tactic| first
  | refine ⟨_, rfl, iteT ?_⟩
  | refine ⟨_, rfl, iteF ?_⟩
  | refine iteT ?_
  | refine iteF ?_)
set_option hygiene false in
local macro_rules | `(tactic| tbr_iter "go") => `(tactic| repeat (first | tbr_iter "w" | tbr_iter "v" | tbr_iter "b"))
set_option hygiene false in
local macro_rules | `(tactic| tbr_iter "nof") => `(tactic| (intro d hd; cases d <;> first | rfl | exact absurd rfl (hd _)))
set_option hygiene false in
local macro_rules | `(tactic| tbr_iter "e1") => `(tactic| first | ((with_reducible show W _ _ _ _ _); tbr_iter "w") | ((with_reducible show WA _ _ _ _ _); tbr_iter "w") | ((with_reducible show WT _ _ _ _ _); tbr_iter "w") | ((with_reducible show WW _ _ _ _ _); tbr_iter "w") | tbr_iter "v")
set_option hygiene false in
local macro_rules | `(tactic| tbr_iter "ex") => `(tactic| repeat (tbr_iter "e1"))
set_option hygiene false in
local macro_rules | `(tactic| tbr_iter "z") => `(tactic| ((try dsimp only [L2.cxOf]); with_reducible first | exact T.z_IndexError | exact T.z_ValueError | exact T.z_abs | exact T.z_all | exact T.z_bool | exact T.z_classmethod | exact T.z_dict | exact T.z_enumerate | exact T.z_int | exact T.z_isinstance | exact T.z_iter | exact T.z_len | exact T.z_list | exact T.z_max | exact T.z_min | exact T.z_property | exact T.z_range | exact T.z_repr | exact T.z_set | exact T.z_sorted | exact T.z_str | exact T.z_tuple))
set_option hygiene false in
local macro_rules | `(tactic| tbr_iter "mg") => `(tactic| ((try dsimp only [L2.cxOf]); with_reducible first | exact T.c_ALPHABET | exact T.c_MAX_LETTERS | exact T.c_MAX_COLUMNS | exact T.c_MOST_VALUES))
namespace Ax
/-! ### data that are rows -/
theorem eqvAll_strs : ∀ a b : List Str, PyData.eqvAll (a.map .str) (b.map .str) = decide (a = b)
  | [], [] => rfl
  | [], _ :: _ => rfl
  | _ :: _, [] => rfl
  | x :: a, y :: b => by
    show (PyData.eqv (.str x) (.str y) && PyData.eqvAll (a.map .str) (b.map .str)) = _
    rw [eqvAll_strs a b, Bool.eq_iff_iff]
    simp [PyData.eqv]
theorem eqvAll_rows : ∀ a b : List (List Str), PyData.eqvAll (a.map rowD) (b.map rowD) = decide (a = b)
  | [], [] => rfl
  | [], _ :: _ => rfl
  | _ :: _, [] => rfl
  | x :: a, y :: b => by
    show (PyData.eqvAll (x.map .str) (y.map .str) && PyData.eqvAll (a.map rowD) (b.map rowD)) = _
    rw [eqvAll_rows a b, eqvAll_strs, Bool.eq_iff_iff]
    simp
/-- a table's rows as data -/
def rowsD (rows : List (List Str)) : PyData := .tuple (rows.map rowD)
theorem eqv_rows (a b : List (List Str)) : PyData.eqv (rowsD a) (rowsD b) = decide (a = b) := eqvAll_rows a b
theorem name_strOk {z : Str} (h : isNameS z = true) : PyData.strOk z = true := by
  have e := name_ok h
  simp only [okD, Bool.and_eq_true] at e
  have e2 := e.1
  simp only [tame, Bool.and_eq_true] at e2
  exact e2.1
theorem lay_strs : ∀ {r : List Str}, (∀ z ∈ r, isNameS z = true) → PyData.canLayAll0 (r.map .str) = true
  | [], _ => rfl
  | z :: r, h => by
    show (PyData.strOk z && PyData.canLayAll0 (r.map .str)) = true
    rw [name_strOk (h z List.mem_cons_self), lay_strs fun y hy => h y (List.mem_cons_of_mem _ hy)]
    rfl
theorem lay_rows {c : Nat} : ∀ {rows : List (List Str)}, (∀ r ∈ rows, NRow c r) → PyData.canLayAll0 (rows.map rowD) = true
  | [], _ => rfl
  | r :: rows, h => by
    show (PyData.canLayAll0 (r.map .str) && PyData.canLayAll0 (rows.map rowD)) = true
    rw [lay_strs (h r List.mem_cons_self).2, lay_rows fun y hy => h y (List.mem_cons_of_mem _ hy)]
    rfl
theorem depth_rows : ∀ rows : List (List Str), PyData.depthAll (rows.map rowD) ≤ 1
  | [] => Nat.zero_le _
  | r :: rows => by
    show max (PyData.depth (rowD r)) (PyData.depthAll (rows.map rowD)) ≤ 1
    exact Nat.max_le.mpr ⟨depth_row r, depth_rows rows⟩
theorem shaped_rows {c : Nat} {rows : List (List Str)} (h : ∀ r ∈ rows, NRow c r) : SeqAt.shaped (rowsD rows) = true := by
  show (PyData.canLayAll0 (rows.map rowD) && decide (PyData.depthAll (rows.map rowD) + 1 ≤ 64)) = true
  rw [lay_rows h]
  have := depth_rows rows
  simp
  omega
theorem dpa_rows {K : PySem.W.Frag} {H : Hp} : ∀ {us : List V} {rows : List (List Str)}, All2 (RwV H) us rows → DpAll K H us (rows.map rowD)
  | _, _, .nil => .nil
  | _, _, .cons ⟨b, e, h⟩ t => by
    subst e
    exact .cons (.tup (SqT.of h) (dpa_strs _)) (dpa_rows t)
theorem dp_rows {K : PySem.W.Frag} {H : Hp} {q : Addr} {us : List V} {rows : List (List Str)} (hq : H q = some (.tup us)) (h : All2 (RwV H) us rows) : Dp K H (.ref q) (rowsD rows) := .tup (SqT.of hq) (dpa_rows h)
/-! ### def m(self, *v) -/
section
open StX
variable {P : Program} {w : World} {K : PySem.W.Frag} {mg : Str → Option Value} {base : Heap}
theorem meth_okS1 {x q p1 pv : Str} {st : Stmt} {N : List Str} {k : Nat} {sp : Sp} {f : Addr} (T : ∃ fd, FunD K x q (defArgs st) (defBody st) (defScope st) [] [] f fd) (S : FnScope N ([p1] ++ [pv]) (defScope st))
    (h0 : ∀ (kV doc pm : Value) (an : Option Addr) (cdv ct : Value) (a : Value), bindArgs (PySem.W.fnOf x q (defArgs st) (defBody st) (defScope st) .none kV doc pm an cdv ct) ⟨[a], []⟩ = (newTuple [] >>= fun t => pure [(p1, a), (pv, t)]))
    (h1 : ∀ (kV doc pm : Value) (an : Option Addr) (cdv ct : Value) (a r : Value) (rs : List Value), bindArgs (PySem.W.fnOf x q (defArgs st) (defBody st) (defScope st) .none kV doc pm an cdv ct) ⟨a :: r :: rs, []⟩ = (newTuple (r :: rs) >>= fun t => pure [(p1, a), (pv, t)]))
    (body : ∀ (cdv : Value) (A : Around) (outer : List Env) (s : Shared) (H : Hp) (vs : List V) (Q : VK) (E : XK), Room k (A.deeper (envOfC q (defScope st) s.heap.objs.size f cdv)) → sp vs H Q E →
      WB (cxOf (L2.CX P w) P w K mg base N q (defScope st) f cdv A outer s H E) (defBody st) { nx := fun _ H' => Q .non H', rt := Q } (start N vs) H) :
    FnP P w K mg base (k + 1) f (fun vs H Q E => ∃ a rest, vs = a :: rest ∧ rest.length ≤ sizeLine ∧ ∀ p, H p = none → sp [a, .ref p] (upd H p (.tup rest)) Q E) := by
  obtain ⟨fd, F⟩ := T
  obtain ⟨oc, od, kV, doc, pm, an, cdv, ct, osl, lk, hcd⟩ := none_dfl F
  have Z := fn_star (P := P) (w := w) (mg := mg) (base := base) (ps := [p1]) (pv := pv) (k := k) (sp := sp) lk hcd S cxUp (fun us rest hl => match us, hl, rest with
      | [a], _, [] => h0 kV doc pm an cdv ct a
      | [a], _, r :: rs => h1 kV doc pm an cdv ct a r rs)
    fun A outer s H vs Q E hr h => ⟨_, WB.pss, body cdv A outer s H vs Q E hr h⟩
  exact Z.imp fun vs H Q E ⟨a, rest, e, z, q⟩ => ⟨[a], rest, e, rfl, z, q⟩
end
/-! ### functions of tables -/
def spTableIn (K : PySem.W.Frag) : Sp := fun vs H Q _ => ∃ (p : Addr) (c : Nat) (us : List V) (raw : List (List Str)), vs = [.int c, .ref p] ∧ c ≤ 3 ∧ (SqT K H p us ∨ SqL K H p us) ∧ us.length < sizeLine ∧ All2 (RwV H) us raw ∧ (∀ r ∈ raw, NRow c r) ∧
  ∀ x H2, Same H H2 → H x = none → TabIs K H2 x c (tabRows raw) → Q (.ref x) H2
def spWhole (K : PySem.W.Frag) : Sp := fun vs H Q _ => ∃ (p : Addr) (c : Nat) (zs : List Str), vs = [.ref p, .int c] ∧ H p = some (.tup (zs.map V.str)) ∧ ValsOk zs ∧ c ≤ 3 ∧
  ∀ x H2, Same H H2 → H x = none → TabIs K H2 x c (tabRows (tupsL zs c)) → Q (.ref x) H2
def spLike (K : PySem.W.Frag) : Sp := fun vs H Q _ => ∃ (a b : Addr) (c d : Nat) (r1 r2 : List (List Str)), vs = [.ref a, .ref b] ∧ TabIs K H a c r1 ∧ TabIs K H b d r2 ∧ ∀ H2, Same H H2 → Q (.bl (decide (d = c))) H2
def spTabEq (K : PySem.W.Frag) : Sp := fun vs H Q _ => ∃ (a b : Addr) (c d : Nat) (r1 r2 : List (List Str)), vs = [.ref a, .ref b] ∧ TabIs K H a c r1 ∧ TabIs K H b d r2 ∧ (∀ r ∈ r1, NRow c r) ∧ (∀ r ∈ r2, NRow d r) ∧ ∀ H2, Same H H2 → Q (.bl (decide (d = c ∧ r1 = r2))) H2
def spTabWithin (K : PySem.W.Frag) : Sp := fun vs H Q _ => ∃ (a b : Addr) (c : Nat) (r1 r2 : List (List Str)), vs = [.ref a, .ref b] ∧ TabIs K H a c r1 ∧ TabIs K H b c r2 ∧ r1.length < sizeLine ∧ (∀ r ∈ r1, r ∈ r2) ∧ ∀ H2, Same H H2 → Q (.bl true) H2
def spTabLen (K : PySem.W.Frag) : Sp := fun vs H Q _ => ∃ (a : Addr) (c : Nat) (r1 : List (List Str)), vs = [.ref a] ∧ TabIs K H a c r1 ∧ ∀ H2, Same H H2 → Q (.int r1.length) H2
def spTabCols (K : PySem.W.Frag) : Sp := fun vs H Q _ => ∃ (a : Addr) (c : Nat) (r1 : List (List Str)), vs = [.ref a] ∧ TabIs K H a c r1 ∧ Q (.int c) H
def spTabRows (K : PySem.W.Frag) : Sp := fun vs H Q _ => ∃ (a : Addr) (c : Nat) (r1 : List (List Str)), vs = [.ref a] ∧ TabIs K H a c r1 ∧ ∀ q us, H q = some (.tup us) → All2 (RwV H) us r1 → Q (.ref q) H
def spDictFrom (K : PySem.W.Frag) : Sp := fun vs H Q _ => ∃ (d p : Addr) (kvs : List (Key × V)) (ns : List Str), vs = [.ref d, .ref p] ∧ H d = some (.dK kvs) ∧ SqT K H p (ns.map V.str) ∧ ns.length < sizeLine ∧ kvs.length = ns.length ∧ (∀ n ∈ ns, (valV kvs (.inr n)).isSome = true) ∧ ∀ H2, Same H H2 → Q (.bl true) H2
section
variable {P : Program} {w : World} {K : PySem.W.Frag} {mg : Str → Option Value} {base : Heap}
set_option hygiene false in
local macro_rules | `(tactic| tbr_iter "var") => `(tactic| first | ((with_reducible show W _ (.Name "columns" _) _ _ _); refine w_var 0 rfl (by tbr_iter "vis") rfl ?_) | ((with_reducible show W _ (.Name "rows" _) _ _ _); refine w_var 1 rfl (by tbr_iter "vis") rfl ?_))
set_option hygiene false in
local macro_rules | `(tactic| tbr_iter "set") => `(tactic| first | ((with_reducible show WB _ (.Assign [.Name "columns" _] _ _ :: _) _ _ _); refine wb_cons (ws_set 0 ?_ rfl nd)) | ((with_reducible show WB _ (.Assign [.Name "rows" _] _ _ :: _) _ _ _); refine wb_cons (ws_set 1 ?_ rfl nd)))
theorem ok_table_in (T : Txt K mg) : Callee P w K mg base "table_in" 7 ["columns", "rows"] (spTableIn K) := by
  refine def_ok T.f_table_in sc_table_in (fun _ _ _ _ _ _ us hl => match us, hl with | [_, _], _ => rfl) (fun vs H Q E h => ?_) fun f cdv A outer s H vs Q E hr h => ?_
  · obtain ⟨p, c, us, raw, rfl, _⟩ := h; rfl
  obtain ⟨p, c, us, raw, rfl, hc, hp, hl, hrs, hn, k⟩ := h
  have nd := sc_table_in.nd
  refine wb_cons (ws_ret (w_makeS T.k_Table (ok_tab_init T) hr passL (w_glob (glob_ref T.g_Table) ⟨rfl, ?_⟩)))
  tbr_iter "go"
  refine wa_star ?_
  tbr_iter "go"
  refine ⟨p, us, rfl, hp, ?_⟩
  tbr_iter "go"
  rw [List.append_nil]
  exact tabI_make hc hl hrs hn k
set_option hygiene false in
local macro_rules | `(tactic| tbr_iter "var") => `(tactic| first | ((with_reducible show W _ (.Name "values" _) _ _ _); refine w_var 0 rfl (by tbr_iter "vis") rfl ?_) | ((with_reducible show W _ (.Name "columns" _) _ _ _); refine w_var 1 rfl (by tbr_iter "vis") rfl ?_))
set_option hygiene false in
local macro_rules | `(tactic| tbr_iter "set") => `(tactic| first | ((with_reducible show WB _ (.Assign [.Name "values" _] _ _ :: _) _ _ _); refine wb_cons (ws_set 0 ?_ rfl nd)) | ((with_reducible show WB _ (.Assign [.Name "columns" _] _ _ :: _) _ _ _); refine wb_cons (ws_set 1 ?_ rfl nd)))
theorem ok_whole (T : Txt K mg) : Callee P w K mg base "whole_table" 8 ["values", "columns"] (spWhole K) := by
  refine def_ok T.f_whole_table sc_whole_table (fun _ _ _ _ _ _ us hl => match us, hl with | [_, _], _ => rfl) (fun vs H Q E h => ?_) fun f cdv A outer s H vs Q E hr h => ?_
  · obtain ⟨p, c, zs, rfl, _⟩ := h; rfl
  obtain ⟨p, c, zs, rfl, hp, hz, hc, k⟩ := h
  have nd := sc_whole_table.nd
  obtain ⟨z1, z2, z3, z4⟩ := id hz
  refine wb_cons (ws_if (wt_not (wt_val (w_call (ok_are_values T) (hr.mono (by decide)) passL ?_))))
  tbr_iter "go"
  refine ⟨p, zs, rfl, SqT.of hp, hz, fun H2 s2 => ⟨_, rfl, iteF (wb_nil ?_)⟩⟩
  refine wb_cons (ws_expr (w_call (ok_require_columns T) (hr.mono (by decide)) passL ?_))
  tbr_iter "go"
  refine ⟨c, rfl, by omega, by omega, ?_⟩
  refine wb_cons (ws_ret (w_call (ok_table_in T) hr passL ?_))
  tbr_iter "go"
  refine w_call (ok_rows_over T) (hr.mono (by decide)) passL ?_
  tbr_iter "go"
  refine ⟨p, c, zs, rfl, s2 _ _ hp, hc, z3, fun us q H3 s3 n3 h3 hu => wa_nil ⟨q, c, us, _, rfl, hc, .inr (SqL.of h3), ?_, hu, fun r hr => ?_, fun x H4 s4 n4 t => k x H4 (s2.trans (s3.trans s4)) (same_nul (s2.trans s3) n4) t⟩⟩
  · have e := hu.len
    rw [tupsL_len] at e
    rw [e]
    exact Nat.lt_of_le_of_lt (pow_le z3 hc) (by decide)
  · obtain ⟨h1, h2⟩ := tupsL_mem.mp hr
    exact ⟨h1, fun z hz => z4 z (h2 z hz)⟩
set_option hygiene false in
local macro_rules | `(tactic| tbr_iter "var") => `(tactic| first | ((with_reducible show W _ (.Name "self" _) _ _ _); refine w_var 0 rfl (by tbr_iter "vis") rfl ?_) | ((with_reducible show W _ (.Name "value" _) _ _ _); refine w_var 1 rfl (by tbr_iter "vis") rfl ?_))
set_option hygiene false in
local macro_rules | `(tactic| tbr_iter "set") => `(tactic| first | ((with_reducible show WB _ (.Assign [.Name "self" _] _ _ :: _) _ _ _); refine wb_cons (ws_set 0 ?_ rfl nd)) | ((with_reducible show WB _ (.Assign [.Name "value" _] _ _ :: _) _ _ _); refine wb_cons (ws_set 1 ?_ rfl nd)))
theorem ok_like (T : Txt K mg) : FnP P w K mg base 1 (He.ma K (He.ga K "Table") "is_like") (spLike K) := by
  refine meth_okR T.f_Table_is_like sc_Table_is_like (fun _ _ _ _ _ _ us hl => match us, hl with | [_, _], _ => rfl) (fun vs H Q E h => ?_) fun cdv A outer s H vs Q E hr h => ?_
  · obtain ⟨a, b, c, d, r1, r2, rfl, _⟩ := h; rfl
  obtain ⟨a, b, c, d, r1, r2, rfl, ha, hb, k⟩ := h
  have nd := sc_Table_is_like.nd
  have kc := T.kc_Table
  obtain ⟨dx, q1, d1, h1, _⟩ := ha
  obtain ⟨dy, q2, d2, h2, _⟩ := hb
  tbr_iter "go"
  refine w_glob (glob_ref T.g_Table) ?_
  tbr_iter "go"
  refine kv_isC (kc.ty h2) (.own _) T.i_Table_Table ?_
  refine ⟨_, rfl, iteT (w_one (w_cmp (w_fld kc.c T.a_Table_own_columns ?_)))⟩
  tbr_iter "go"
  refine ⟨b, dy, _, _, rfl, h2, rfl, w_fld kc.c T.a_Table_own_columns ?_⟩
  tbr_iter "go"
  refine ⟨a, dx, _, _, rfl, h1, rfl, cv_eq rfl ?_⟩
  refine qb (k H (Same.refl _)) ?_
  simp
  constructor <;> intro e <;> omega
set_option hygiene false in
local macro_rules | `(tactic| tbr_iter "var") => `(tactic| first | ((with_reducible show W _ (.Name "self" _) _ _ _); refine w_var 0 rfl (by tbr_iter "vis") rfl ?_) | ((with_reducible show W _ (.Name "other" _) _ _ _); refine w_var 1 rfl (by tbr_iter "vis") rfl ?_))
set_option hygiene false in
local macro_rules | `(tactic| tbr_iter "set") => `(tactic| first | ((with_reducible show WB _ (.Assign [.Name "self" _] _ _ :: _) _ _ _); refine wb_cons (ws_set 0 ?_ rfl nd)) | ((with_reducible show WB _ (.Assign [.Name "other" _] _ _ :: _) _ _ _); refine wb_cons (ws_set 1 ?_ rfl nd)))
theorem ok_tab_eq (T : Txt K mg) : FnP P w K mg base 2 (He.ma K (He.ga K "Table") "__eq__") (spTabEq K) := by
  refine meth_okR T.f_Table___eq__ sc_Table___eq__ (fun _ _ _ _ _ _ us hl => match us, hl with | [_, _], _ => rfl) (fun vs H Q E h => ?_) fun cdv A outer s H vs Q E hr h => ?_
  · obtain ⟨a, b, c, d, r1, r2, rfl, _⟩ := h; rfl
  obtain ⟨a, b, c, d, r1, r2, rfl, ha, hb, n1, n2, k⟩ := h
  have nd := sc_Table___eq__.nd
  have kc := T.kc_Table
  have hu := room64 hr
  obtain ⟨dx, q1, d1, h1, ⟨us1, t1, w1⟩, _⟩ := id ha
  obtain ⟨dy, q2, d2, h2, ⟨us2, t2, w2⟩, _⟩ := id hb
  tbr_iter "go"
  refine w_glob (glob_ref T.g_Table) ?_
  tbr_iter "go"
  refine kv_isC (kc.ty h2) (.own _) T.i_Table_Table ?_
  refine ⟨_, rfl, iteT (w_and (w_meth kc.c T.m_Table_is_like (ok_like T) hr passL ?_))⟩
  tbr_iter "go"
  refine ⟨a, dx, _, rfl, h1, rfl, ?_⟩
  tbr_iter "go"
  refine ⟨a, b, c, d, r1, r2, rfl, ha, hb, fun H2 s2 => ⟨_, rfl, w_if2 (fun e => ?_) (fun e => ?_)⟩⟩
  · have e := of_decide_eq_true e
    refine w_one (w_cmp (w_fld kc.c T.a_Table_own_rows ?_))
    tbr_iter "go"
    refine ⟨a, dx, _, _, rfl, s2 _ _ h1, rfl, w_fld kc.c T.a_Table_own_rows ?_⟩
    tbr_iter "go"
    refine ⟨b, dy, _, _, rfl, s2 _ _ h2, rfl, cv_eqD hu (dp_rows (s2 _ _ t1) (rows_sl w1 (Sl.of s2))) (dp_rows (s2 _ _ t2) (rows_sl w2 (Sl.of s2))) (shaped_rows n1) (shaped_rows n2) ?_⟩
    rw [eqv_rows]
    refine qb (k H2 s2) ?_
    simp [e]
  · have e := of_decide_eq_false e
    refine qb (k H2 s2) ?_
    simp [e]
set_option hygiene false in
local macro_rules | `(tactic| tbr_iter "var") => `(tactic| first | ((with_reducible show W _ (.Name "self" _) _ _ _); refine w_var 0 rfl (by tbr_iter "vis") rfl ?_))
set_option hygiene false in
local macro_rules | `(tactic| tbr_iter "set") => `(tactic| first | ((with_reducible show WB _ (.Assign [.Name "self" _] _ _ :: _) _ _ _); refine wb_cons (ws_set 0 ?_ rfl nd)))
theorem ok_tab_len (T : Txt K mg) : FnP P w K mg base 1 (He.ma K (He.ga K "Table") "__len__") (spTabLen K) := by
  refine meth_okR T.f_Table___len__ sc_Table___len__ (fun _ _ _ _ _ _ us hl => match us, hl with | [_], _ => rfl) (fun vs H Q E h => ?_) fun cdv A outer s H vs Q E hr h => ?_
  · obtain ⟨a, c, r1, rfl, _⟩ := h; rfl
  obtain ⟨a, c, r1, rfl, ha, k⟩ := h
  have nd := sc_Table___len__.nd
  have kc := T.kc_Table
  obtain ⟨dx, q1, d1, h1, ⟨us1, t1, w1⟩, _⟩ := id ha
  tbr_iter "go"
  refine w_fld kc.c T.a_Table_own_rows ?_
  tbr_iter "go"
  refine ⟨a, dx, _, _, rfl, h1, rfl, wa_nil (kv_len_seq (Or.inr (SqT.of t1)) ?_)⟩
  rw [w1.len]
  exact k H (Same.refl _)
set_option hygiene false in
local macro_rules | `(tactic| tbr_iter "var") => `(tactic| first | ((with_reducible show W _ (.Name "self" _) _ _ _); refine w_var 0 rfl (by tbr_iter "vis") rfl ?_))
set_option hygiene false in
local macro_rules | `(tactic| tbr_iter "set") => `(tactic| first | ((with_reducible show WB _ (.Assign [.Name "self" _] _ _ :: _) _ _ _); refine wb_cons (ws_set 0 ?_ rfl nd)))
theorem ok_tab_cols (T : Txt K mg) : ∃ fd, FnOk P w K mg base (L2.CX P w) 1 (He5.wf K (He.ga K "Table") "property" "columns") fd ["self"] (spTabCols K) ∧ Binds K fd ["self"] [] := by
  obtain ⟨fd, F⟩ := T.f_Table_columns
  refine ⟨fd, F.ok sc_Table_columns (fun vs H Q E h => ?_) fun cdv A outer s H vs Q E hr h => ⟨_, WB.pss, ?_⟩, F.bindsN fun _ _ _ _ _ _ us hl => match us, hl with | [_], _ => rfl⟩
  · obtain ⟨a, c, rows, rfl, _⟩ := h; rfl
  obtain ⟨a, c, rows, rfl, ht, k⟩ := h
  have nd := sc_Table_columns.nd
  obtain ⟨dx, q, d, h1, _⟩ := ht
  refine wb_cons (ws_ret (w_fld T.kc_Table.c T.a_Table_own_columns ?_))
  tbr_iter "go"
  exact ⟨a, dx, _, _, rfl, h1, rfl, k⟩
set_option hygiene false in
local macro_rules | `(tactic| tbr_iter "var") => `(tactic| first | ((with_reducible show W _ (.Name "self" _) _ _ _); refine w_var 0 rfl (by tbr_iter "vis") rfl ?_))
set_option hygiene false in
local macro_rules | `(tactic| tbr_iter "set") => `(tactic| first | ((with_reducible show WB _ (.Assign [.Name "self" _] _ _ :: _) _ _ _); refine wb_cons (ws_set 0 ?_ rfl nd)))
theorem ok_tab_rows (T : Txt K mg) : ∃ fd, FnOk P w K mg base (L2.CX P w) 1 (He5.wf K (He.ga K "Table") "property" "rows") fd ["self"] (spTabRows K) ∧ Binds K fd ["self"] [] := by
  obtain ⟨fd, F⟩ := T.f_Table_rows
  refine ⟨fd, F.ok sc_Table_rows (fun vs H Q E h => ?_) fun cdv A outer s H vs Q E hr h => ⟨_, WB.pss, ?_⟩, F.bindsN fun _ _ _ _ _ _ us hl => match us, hl with | [_], _ => rfl⟩
  · obtain ⟨a, c, rows, rfl, _⟩ := h; rfl
  obtain ⟨a, c, rows, rfl, ht, k⟩ := h
  have nd := sc_Table_rows.nd
  obtain ⟨dx, q, d, h1, ⟨us, h2, h3⟩, _⟩ := ht
  refine wb_cons (ws_ret (w_fld T.kc_Table.c T.a_Table_own_rows ?_))
  tbr_iter "go"
  exact ⟨a, dx, _, _, rfl, h1, rfl, k q us h2 h3⟩
set_option hygiene false in
local macro_rules | `(tactic| tbr_iter "var") => `(tactic| first | ((with_reducible show W _ (.Name "value" _) _ _ _); refine w_var 0 rfl (by tbr_iter "vis") rfl ?_) | ((with_reducible show W _ (.Name "names" _) _ _ _); refine w_var 1 rfl (by tbr_iter "vis") rfl ?_) | ((with_reducible show W _ (.Name "name" _) _ _ _); refine w_var 2 rfl (by tbr_iter "vis") rfl ?_))
set_option hygiene false in
local macro_rules | `(tactic| tbr_iter "set") => `(tactic| first | ((with_reducible show WB _ (.Assign [.Name "value" _] _ _ :: _) _ _ _); refine wb_cons (ws_set 0 ?_ rfl nd)) | ((with_reducible show WB _ (.Assign [.Name "names" _] _ _ :: _) _ _ _); refine wb_cons (ws_set 1 ?_ rfl nd)) | ((with_reducible show WB _ (.Assign [.Name "name" _] _ _ :: _) _ _ _); refine wb_cons (ws_set 2 ?_ rfl nd)))
theorem ok_dict_from (T : Txt K mg) : Callee P w K mg base "is_dict_from" 1 ["value", "names"] (spDictFrom K) := by
  refine def_ok T.f_is_dict_from sc_is_dict_from (fun _ _ _ _ _ _ us hl => match us, hl with | [_, _], _ => rfl) (fun vs H Q E h => ?_) fun f cdv A outer s H vs Q E hr h => ?_
  · obtain ⟨d, p, kvs, ns, rfl, _⟩ := h; rfl
  obtain ⟨d, p, kvs, ns, rfl, hd, hp, hl, hkl, hin, k⟩ := h
  have nd := sc_is_dict_from.nd
  have hu := room64 hr
  tbr_iter "go"
  refine kv_isDict hd (k := true) (by decide +kernel) ⟨_, rfl, iteT (w_and (w_cmp (w_callB T.z_len (wa_cons ?_))))⟩
  tbr_iter "go"
  refine kv_lenD hd ?_
  tbr_iter "go"
  refine ⟨_, rfl, ?_⟩
  rw [List.length_map, hkl, decide_eq_true rfl]
  refine iteT (w_one (w_allLc 2 (fun _ => true) T.z_all rfl nd (by tbr_iter "blk") rfl (fun _ _ _ _ _ => ⟨Or.inl rfl, Or.inr rfl⟩) (wi_val ?_)))
  tbr_iter "go"
  refine itv_tup hp ⟨_, seqIt_tup hp, by rw [List.length_map]; exact hl, fun v hv H3 s3 _ _ _ _ _ => ?_, fun H3 s3 => qb (k H3 s3) (by simp)⟩
  obtain ⟨n, hn, rfl⟩ := List.mem_map.mp hv
  tbr_iter "go"
  refine cv_inK hu (s3 _ _ hd) ⟨Same.refl _, ?_⟩
  rw [hin n hn]
set_option hygiene false in
local macro_rules | `(tactic| tbr_iter "var") => `(tactic| first | ((with_reducible show W _ (.Name "self" _) _ _ _); refine w_var 0 rfl (by tbr_iter "vis") rfl ?_) | ((with_reducible show W _ (.Name "value" _) _ _ _); refine w_var 1 rfl (by tbr_iter "vis") rfl ?_) | ((with_reducible show W _ (.Name "row" _) _ _ _); refine w_var 2 rfl (by tbr_iter "vis") rfl ?_))
set_option hygiene false in
local macro_rules | `(tactic| tbr_iter "set") => `(tactic| first | ((with_reducible show WB _ (.Assign [.Name "self" _] _ _ :: _) _ _ _); refine wb_cons (ws_set 0 ?_ rfl nd)) | ((with_reducible show WB _ (.Assign [.Name "value" _] _ _ :: _) _ _ _); refine wb_cons (ws_set 1 ?_ rfl nd)) | ((with_reducible show WB _ (.Assign [.Name "row" _] _ _ :: _) _ _ _); refine wb_cons (ws_set 2 ?_ rfl nd)))
theorem ok_tab_within (T : Txt K mg) : FnP P w K mg base 2 (He.ma K (He.ga K "Table") "is_within") (spTabWithin K) := by
  refine meth_okR T.f_Table_is_within sc_Table_is_within (fun _ _ _ _ _ _ us hl => match us, hl with | [_, _], _ => rfl) (fun vs H Q E h => ?_) fun cdv A outer s H vs Q E hr h => ?_
  · obtain ⟨a, b, c, r1, r2, rfl, _⟩ := h; rfl
  obtain ⟨a, b, c, r1, r2, rfl, ha, hb, hl, hin, k⟩ := h
  have nd := sc_Table_is_within.nd
  have kc := T.kc_Table
  have hu := room64 hr
  obtain ⟨dx, q1, d1, h1, ⟨us1, t1, w1⟩, _⟩ := id ha
  obtain ⟨dy, q2, d2, h2, _, kvs, hk, ek⟩ := id hb
  refine wb_cons (ws_ret (w_and (w_meth kc.c T.m_Table_is_like (ok_like T) hr passL ?_)))
  tbr_iter "go"
  refine ⟨a, dx, _, rfl, h1, rfl, ?_⟩
  tbr_iter "go"
  refine ⟨a, b, c, c, r1, r2, rfl, ha, hb, fun H2 s2 => ⟨_, rfl, iteT2 (decide_eq_true rfl) ?_⟩⟩
  refine w_one (w_allLc 2 (fun _ => true) T.z_all rfl nd (by tbr_iter "blk") rfl (fun _ _ _ _ _ => ⟨Or.inl rfl, Or.inr rfl⟩) (wi_val (w_fld kc.c T.a_Table_own_rows ?_)))
  tbr_iter "go"
  refine ⟨a, dx, _, _, rfl, s2 _ _ h1, rfl, ?_⟩
  refine itv_tup (SqT.of (s2 _ _ t1)) ⟨_, seqIt_tup (SqT.of (s2 _ _ t1)), by rw [w1.len]; exact hl, fun v hv H3 s3 _ _ _ _ _ => ?_, fun H3 s3 => qb (k H3 (s2.trans s3)) (by simp)⟩
  obtain ⟨i, ei⟩ := List.mem_iff_getElem?.mp hv
  obtain ⟨r, er, p, rfl, hp⟩ := w1.at ei
  have s23 := s2.trans s3
  tbr_iter "go"
  refine w_fld kc.c T.a_Table_own_places ?_
  tbr_iter "go"
  refine ⟨b, dy, _, _, rfl, s23 _ _ h2, rfl, cv_inT (k := r.map Sum.inr) hu (s23 _ _ hk) ?_ ⟨Same.refl _, ?_⟩⟩
  · rw [List.map_map]
    exact s23 _ _ hp
  · have m : r.map Sum.inr ∈ kvs.map (·.1) := by
      rw [ek]
      exact List.mem_map.mpr ⟨r, hin r (List.mem_of_getElem? er), rfl⟩
    obtain ⟨v, ev, _⟩ := valV_mem m
    rw [ev]
    rfl
end
end Ax
end
section
set_option maxHeartbeats 4000000
open PySem PySem.Spec PyProof.Rows L2 Ax
set_option hygiene false in
local macro_rules | `(tactic| tbr_iter "boot") => `(tactic| with_reducible first | exact Ax.b_len | exact Ax.b_all | exact Ax.b_any | exact Ax.b_sorted | exact Ax.b_isinstance | exact Ax.b_abs | exact Ax.b_max | exact Ax.b_min | exact Ax.b_sum | exact Ax.b_repr | exact Ax.b_iter | exact Ax.b_ord | exact Ax.b_chr | exact Ax.b_str | exact Ax.b_int | exact Ax.b_bool | exact Ax.b_tuple | exact Ax.b_list | exact Ax.b_dict | exact Ax.b_set | exact Ax.b_range | exact Ax.b_enumerate | exact Ax.b_zip)
set_option hygiene false in
local macro_rules | `(tactic| tbr_iter "vis") => `(tactic| first | exact Or.inl rfl | exact Or.inr (Or.inl rfl) | exact Or.inr (Or.inr rfl))
set_option hygiene false in
local macro_rules | `(tactic| tbr_iter "w") => `(tactic| first
  | refine wb_cons ?_
  | refine wb_nil ?_
  | refine ws_ret ?_
  | refine ws_if ?_
  | refine ws_sub ?_
  | refine wa_cons ?_
  | refine wa_nil ?_
  | refine w_int ?_
  | refine w_str ?_
  | refine w_bl ?_
  | refine w_non ?_
  | tbr_iter "var"
  | refine w_bin ?_
  | refine w_cmp ?_
  | refine w_chain ?_
  | refine w_and ?_
  | refine w_or ?_
  | refine w_one ?_
  | refine w_not ?_
  | refine w_ix ?_
  | refine w_ifExp ?_
  | refine w_tup ?_
  | refine w_lst ?_
  | refine wt_not ?_
  | refine wt_bool ?_
  | refine ww_and ?_
  | refine ww_and1 ?_
  | refine ww_or ?_
  | refine ww_or1 ?_
  | refine wt_cmp ?_
  | refine wt_val ?_
  | tbr_iter "call"
  | (refine w_glob (by tbr_iter "mg") ?_)
  | (refine w_callB (by tbr_iter "z") ?_)
  | (refine w_callTy (by tbr_iter "z") ?_)
  | (refine w_bltT (by tbr_iter "z") ?_))
set_option hygiene false in
local macro_rules | `(tactic| tbr_iter "blk") => `(tactic| first | exact blkOk_by (by dsimp only [cxOf, envOfC]; decide +kernel))
set_option hygiene false in
local macro_rules | `(tactic| tbr_iter "iff") => `(tactic| first
  | refine iteT ?_
  | refine iteF ?_
  | refine w_if2 (fun _ => ?_) (fun _ => ?_))
set_option hygiene false in
local macro_rules | `(tactic| tbr_iter "sc") => `(tactic| first | omega | decide)
set_option hygiene false in
local macro_rules | `(tactic| tbr_iter "at") => `(tactic| first | exact atI_0 | exact atI_1 | exact atI_2)
set_option hygiene false in
local macro_rules | `(tactic| tbr_iter "sql") => `(tactic| ((try dsimp only [L2.cxOf, L2.Cx.blk]); with_reducible first | assumption | exact SqL.of (by assumption)))
set_option hygiene false in
local macro_rules | `(tactic| tbr_iter "sqt") => `(tactic| ((try dsimp only [L2.cxOf, L2.Cx.blk]); with_reducible first | assumption | exact SqT.of (by assumption)))
set_option hygiene false in
local macro_rules | `(tactic| tbr_iter "v") => `(tactic| first
  | refine bv_add ?_
  | refine bv_sub ?_
  | ((with_reducible show BinV _ .Mult _ _ _ _); refine bv_mul (Or.inl ⟨by tbr_iter "sc", by tbr_iter "sc"⟩) ?_)
  | ((with_reducible show BinV _ .Mult _ _ _ _); refine bv_mul (Or.inr ⟨by tbr_iter "sc", by tbr_iter "sc"⟩) ?_)
  | ((with_reducible show BinV _ .Mod _ _ _ _); refine bv_mod (by tbr_iter "sc") ?_)
  | ((with_reducible show BinV _ .FloorDiv _ _ _ _); refine bv_fdiv ⟨by tbr_iter "sc", by tbr_iter "sc"⟩ ?_)
  | ((with_reducible show BinV _ .Pow _ _ _ _); refine bv_pow ⟨by decide, by decide +kernel⟩ ?_)
  | refine cv_lt ?_
  | refine cv_le ?_
  | refine cv_gt ?_
  | refine cv_ge ?_
  | ((with_reducible show CmpV _ .Eq _ _ _ _); refine cv_eq rfl ?_)
  | ((with_reducible show CmpV _ .NotEq _ _ _ _); refine cv_ne rfl ?_)
  | refine iv_list (by tbr_iter "sql") (by tbr_iter "at") ?_
  | refine iv_tup (by tbr_iter "sqt") (by tbr_iter "at") ?_
  | refine kv_len_seq (Or.inl (by tbr_iter "sql")) ?_
  | refine kv_len_seq (Or.inr (by tbr_iter "sqt")) ?_
  | refine kv_int ?_
  | refine kv_intB ?_
  | refine kv_abs ?_
  | refine kv_max2 rfl ?_
  | refine kv_min2 rfl ?_)
set_option hygiene false in
local macro_rules | `(tactic| tbr_iter "b") => `(tactic| first
  | refine ⟨_, rfl, iteT ?_⟩
  | refine ⟨_, rfl, iteF ?_⟩
  | refine iteT ?_
  | refine iteF ?_)
set_option hygiene false in
local macro_rules | `(tactic| tbr_iter "go") => `(tactic| repeat (first | tbr_iter "w" | tbr_iter "v" | tbr_iter "b"))
set_option hygiene false in
local macro_rules | `(tactic| tbr_iter "nof") => `(tactic| (intro d hd; cases d <;> first | rfl | exact absurd rfl (hd _)))
set_option hygiene false in
local macro_rules | `(tactic| tbr_iter "e1") => `(tactic| first | ((with_reducible show W _ _ _ _ _); tbr_iter "w") | ((with_reducible show WA _ _ _ _ _); tbr_iter "w") | ((with_reducible show WT _ _ _ _ _); tbr_iter "w") | ((with_reducible show WW _ _ _ _ _); tbr_iter "w") | tbr_iter "v")
set_option hygiene false in
local macro_rules | `(tactic| tbr_iter "ex") => `(tactic| repeat (tbr_iter "e1"))
set_option hygiene false in
local macro_rules | `(tactic| tbr_iter "z") => `(tactic| ((try dsimp only [L2.cxOf]); with_reducible first | exact T.z_IndexError | exact T.z_ValueError | exact T.z_abs | exact T.z_all | exact T.z_bool | exact T.z_classmethod | exact T.z_dict | exact T.z_enumerate | exact T.z_int | exact T.z_isinstance | exact T.z_iter | exact T.z_len | exact T.z_list | exact T.z_max | exact T.z_min | exact T.z_property | exact T.z_range | exact T.z_repr | exact T.z_set | exact T.z_sorted | exact T.z_str | exact T.z_tuple))
set_option hygiene false in
local macro_rules | `(tactic| tbr_iter "mg") => `(tactic| ((try dsimp only [L2.cxOf]); with_reducible first | exact T.c_ALPHABET | exact T.c_MAX_LETTERS | exact T.c_MAX_COLUMNS | exact T.c_MOST_VALUES))
namespace Ax
/-- the texts of a row at these places -/
def pickR (is : List Nat) (r : List Str) : List Str := is.map fun i => r.getD i ""
def spPicked (K : PySem.W.Frag) : Sp := fun vs H Q _ => ∃ (a p : Addr) (c : Nat) (rows : List (List Str)) (is : List Nat), vs = [.ref a, .ref p] ∧ TabIs K H a c rows ∧ H p = some (.tup (is.map fun i => V.int (i : Nat))) ∧ is.length ≤ 3 ∧ (∀ i ∈ is, i < c) ∧ c ≤ 3 ∧ (∀ r ∈ rows, NRow c r) ∧ rows.length ≤ 1000 ∧
  ∀ x H2, Same H H2 → H x = none → TabIs K H2 x is.length (tabRows (rows.map (pickR is))) → Q (.ref x) H2
def spTabPick (K : PySem.W.Frag) : Sp := fun vs H Q _ => ∃ (a : Addr) (c : Nat) (rows : List (List Str)) (is : List Nat), vs = .ref a :: is.map (fun i => V.int (i : Nat)) ∧ TabIs K H a c rows ∧ is.length ≤ 3 ∧ (∀ i ∈ is, i < c) ∧ c ≤ 3 ∧ (∀ r ∈ rows, NRow c r) ∧ rows.length ≤ 1000 ∧
  ∀ x H2, Same H H2 → H x = none → TabIs K H2 x is.length (tabRows (rows.map (pickR is))) → Q (.ref x) H2
theorem pick_row {is : List Nat} {c : Nat} {r : List Str} (h : NRow c r) (hi : ∀ i ∈ is, i < c) : NRow is.length (pickR is r) := by
  refine ⟨List.length_map _, fun z hz => ?_⟩
  obtain ⟨i, im, rfl⟩ := List.mem_map.mp hz
  have il : i < r.length := by rw [h.1]; exact hi i im
  refine h.2 _ ?_
  rw [List.getD_eq_getElem?_getD, List.getElem?_eq_getElem il]
  exact List.getElem_mem il
theorem atI_nat {α : Type} {xs : List α} {i : Nat} {v : α} (h : xs[i]? = some v) : atI xs (i : Int) = some v := by
  obtain ⟨h1, h2⟩ := List.getElem?_eq_some_iff.mp h
  rw [atI_int (by omega) (by simpa using h1)]
  simpa using h2
theorem fm_get {α β : Type} (xs : List α) (g : α → β) : (List.range xs.length).filterMap (fun i => xs[i]?.map g) = xs.map g := by
  rw [← List.map_filterMap, range_get]
/-- the i-th row of rows, in a list under way at D -/
def RwR (rows : List (List Str)) (D : Addr) (i : Nat) (y : V) (H : Hp) : Prop := ∃ b r, rows[i]? = some r ∧ y = .ref b ∧ b ≠ D ∧ H b = some (.tup (r.map V.str))
theorem RwR.bt {rows : List (List Str)} {D : Addr} {i : Nat} {y : V} {Ha Hb : Hp} (h : RwR rows D i y Ha) (b : Bt D Ha Hb) : RwR rows D i y Hb := let ⟨a, n, e1, e2, e3, e4⟩ := h; ⟨a, n, e1, e2, e3, b _ _ e3 e4⟩
theorem rwR_rows {rows : List (List Str)} {D : Addr} {ys : List V} {H : Hp} (hl : ys.length = rows.length) (h : ∀ (i : Nat) y, ys[i]? = some y → RwR rows D i y H) : All2 (RwV H) ys rows :=
  all2_of_at hl fun i y e => by
    obtain ⟨b, r, e1, e2, _, e4⟩ := h i y e
    exact ⟨r, e1, b, e2, e4⟩
/-- a dict of names -/
def mapK (ns : List Str) (g : Str → Str) : List (Key × V) := ns.map fun n => (Sum.inr n, V.str (g n))
theorem mapK_get {ns : List Str} {g : Str → Str} (h : ns.Nodup) : ∀ n ∈ ns, valV (mapK ns g) (.inr n) = some (.str (g n)) := by
  induction ns with
  | nil => intro n hn; exact absurd hn List.not_mem_nil
  | cons x ns ih =>
    intro n hn
    obtain ⟨hx, h2⟩ := List.nodup_cons.mp h
    have e : valV (mapK (x :: ns) g) (.inr n) = if x = n then some (.str (g x)) else valV (mapK ns g) (.inr n) := by
      unfold valV mapK
      rw [List.map_cons, List.find?_cons]
      by_cases c : x = n
      · subst c
        simp
      · simp [c]
    rw [e]
    by_cases c : x = n
    · rw [if_pos c, c]
    · rw [if_neg c]
      exact ih h2 n ((List.mem_cons.mp hn).resolve_left fun e => c e.symm)
def spMapped (K : PySem.W.Frag) : Sp := fun vs H Q _ => ∃ (a d : Addr) (c : Nat) (rows : List (List Str)) (ns : List Str) (g : Str → Str), vs = [.ref a, .ref d] ∧ TabIs K H a c rows ∧ H d = some (.dK (mapK ns g)) ∧ ns.Nodup ∧ (∀ n, n ∈ ns ↔ n ∈ rows.flatten) ∧ ns.length < 64 ∧ (∀ n ∈ ns, isNameS (g n) = true) ∧ c ≤ 3 ∧ (∀ r ∈ rows, NRow c r) ∧ rows.length ≤ 1000 ∧
  ∀ x H2, Same H H2 → H x = none → TabIs K H2 x c (tabRows (rows.map fun r => r.map g)) → Q (.ref x) H2
theorem flat_le {rows : List (List Str)} {c : Nat} (h : ∀ r ∈ rows, r.length ≤ c) : rows.flatten.length ≤ rows.length * c := by
  induction rows with
  | nil => simp
  | cons r rows ih =>
    rw [List.flatten_cons, List.length_append, List.length_cons, Nat.succ_mul]
    have h1 := h r List.mem_cons_self
    have h2 := ih fun z hz => h z (List.mem_cons_of_mem _ hz)
    omega
theorem map_row {g : Str → Str} {c : Nat} {r : List Str} (h : NRow c r) (hg : ∀ n ∈ r, isNameS (g n) = true) : NRow c (r.map g) := ⟨by rw [List.length_map]; exact h.1, fun z hz => by
  obtain ⟨n, hn, rfl⟩ := List.mem_map.mp hz
  exact hg n hn⟩
theorem itN_values {d : Addr} {od : Obj} {kvs : List (Key × V)} {H : Hp} (h : H d = some (.frz od (.dK kvs))) : ItN (Itd d od kvs) H kvs.length (fun i v _ => ∃ k, kvs[i]? = some (k, v)) :=
  ⟨_, walk_values.mono (fun _ z => z) fun i Ha v Hb hi _ y => by
    obtain ⟨e, hv⟩ := y
    subst e
    exact ⟨Same.refl _, hv⟩, h, fun H' s => s _ _ h⟩
theorem wi_values {X : Cx} {σ : L2.St} {H : Hp} {e tg : Expr} {apos cpos : Pos} {R : It → Hp → Prop} (h : W X e σ H fun x H1 => ∃ d o kvs, x = .ref d ∧ H1 d = some (.frz o (.dK kvs)) ∧ R (Itd d o kvs) H1)
    (hb : attributeBase e "values" X.env (eval e X.env) = eval e X.env := by rfl) (hl : (apos.endLine == cpos.line) = true := by rfl) : WI X tg (.Call (.Attribute e "values" apos) [] [] cpos) σ H R := WI.of (pi_values W.pe hb hl) h
section
variable {P : Program} {w : World} {K : PySem.W.Frag} {mg : Str → Option Value} {base : Heap}
set_option hygiene false in
local macro_rules | `(tactic| tbr_iter "var") => `(tactic| first | ((with_reducible show W _ (.Name "self" _) _ _ _); refine w_var 0 rfl (by tbr_iter "vis") rfl ?_) | ((with_reducible show W _ (.Name "positions" _) _ _ _); refine w_var 1 rfl (by tbr_iter "vis") rfl ?_) | ((with_reducible show W _ (.Name "position" _) _ _ _); refine w_var 2 rfl (by tbr_iter "vis") rfl ?_) | ((with_reducible show W _ (.Name "row" _) _ _ _); refine w_var 3 rfl (by tbr_iter "vis") rfl ?_))
set_option hygiene false in
local macro_rules | `(tactic| tbr_iter "set") => `(tactic| first | ((with_reducible show WB _ (.Assign [.Name "self" _] _ _ :: _) _ _ _); refine wb_cons (ws_set 0 ?_ rfl nd)) | ((with_reducible show WB _ (.Assign [.Name "positions" _] _ _ :: _) _ _ _); refine wb_cons (ws_set 1 ?_ rfl nd)) | ((with_reducible show WB _ (.Assign [.Name "position" _] _ _ :: _) _ _ _); refine wb_cons (ws_set 2 ?_ rfl nd)) | ((with_reducible show WB _ (.Assign [.Name "row" _] _ _ :: _) _ _ _); refine wb_cons (ws_set 3 ?_ rfl nd)))
theorem ok_picked (T : Txt K mg) : FnP P w K mg base 8 (He.ma K (He.ga K "Table") "picked") (spTabPick K) := by
  have Z := meth_okS1 (P := P) (w := w) (mg := mg) (base := base) (k := 7) (sp := spPicked K) (p1 := "self") (pv := "positions") T.f_Table_picked sc_Table_picked (fun _ _ _ _ _ _ _ => rfl) (by
    intro kV doc pm an cdv ct a r rs
    unfold bindArgs
    dsimp only
    generalize decide (List.length (a :: r :: rs) > List.length _) = g
    cases g <;> rfl) fun cdv A outer s H vs Q E hr h => ?_
  · refine Z.imp fun vs H Q E ⟨a, c, rows, is, e, ht, h1, h2, h3, h4, h5, k⟩ => ⟨_, _, e, ?_, fun p hp => ?_⟩
    · rw [List.length_map]
      exact Nat.le_trans h1 (by decide)
    · exact ⟨a, p, c, rows, is, rfl, ht.same (same_new hp), upd_same, h1, h2, h3, h4, h5, fun x H2 s2 n2 t => k x H2 ((same_new hp).trans s2) (same_nul (same_new hp) n2) t⟩
  obtain ⟨a, p, c, rows, is, rfl, ht, hp, hl, hi, hc, hn, hrl, k⟩ := h
  have nd := sc_Table_picked.nd
  have kc := T.kc_Table
  obtain ⟨dx, q1, d1, h1, ⟨us, t1, w1⟩, _⟩ := id ht
  refine wb_cons (ws_for 2 (wi_val ?_) rfl nd (passes_of rfl))
  tbr_iter "go"
  refine itv_tup (SqT.of hp) ⟨_, _, _, walk_tup (K := K) (xs := is.map fun i => V.int (i : Nat)), fun i σ Hc => ∃ x2 x3, σ = [some (.ref a), some (.ref p), x2, x3] ∧ Same H Hc, ⟨none, none, rfl, Same.refl _⟩, fun _ _ Hc _ ⟨_, _, _, sm⟩ => SqT.of (sm _ _ hp), ?_, ?_⟩
  · rintro j v σ Hx Hc hj ⟨x2, x3, rfl, sm⟩ ⟨e, hv⟩
    subst e
    rw [List.getElem?_map] at hv
    obtain ⟨i, ei, rfl⟩ := Option.map_eq_some_iff.mp hv
    have ic := hi i (List.mem_of_getElem? ei)
    refine wb_cons (ws_if (wt_not (wt_val (w_call (ok_is_between T) (hr.mono (by decide)) passL ?_))))
    tbr_iter "go"
    refine w_fld kc.c T.a_Table_own_columns ?_
    tbr_iter "go"
    refine ⟨a, dx, _, _, rfl, sm _ _ h1, rfl, ?_⟩
    tbr_iter "go"
    refine ⟨_, _, _, rfl, _, rfl, ?_⟩
    rw [decide_eq_true (show (0 : Int) ≤ ((i : Nat) : Int) ∧ ((i : Nat) : Int) ≤ (c : Int) - 1 by omega)]
    exact iteF (wb_nil (wb_nil ⟨_, _, rfl, sm⟩))
  · rintro σ Hc ⟨x2, x3, rfl, sm⟩
    tbr_iter "go"
    refine kv_len_seq (Or.inr (SqT.of (sm _ _ hp))) ?_
    tbr_iter "go"
    refine ⟨_, rfl, ?_⟩
    rw [decide_eq_false (show ¬ (3 : Int) < (((is.map fun i => V.int (i : Nat)).length : Nat) : Int) by rw [List.length_map]; omega)]
    refine iteF (wb_nil ?_)
    refine wb_cons (ws_ret (w_call (ok_table_in T) hr passL (wa_cons (w_callB T.z_len (wa_cons ?_)))))
    tbr_iter "go"
    refine kv_len_seq (Or.inr (SqT.of (sm _ _ hp))) (wa_cons ?_)
    refine w_lcI [("row", 3)] (gName 3) tYes (fun _ _ _ _ _ => pg_name nd rfl (Or.inr rfl) (Or.inl rfl)) (fun _ _ _ _ _ => pts_nil) rfl nd (by tbr_iter "blk") (lcR_I mono_name (wi_val (w_fld kc.c T.a_Table_own_rows ?_)))
    tbr_iter "go"
    refine ⟨a, dx, _, _, rfl, sm _ _ h1, rfl, ?_⟩
    have ht1 := SqT.of (K := K) (sm _ _ t1)
    refine itv_tup ht1 ⟨_, _, itN_seq (seqIt_tup ht1), by rw [w1.len]; exact Nat.lt_of_le_of_lt hrl (by decide), RwR (rows.map (pickR is)), fun D i y Ha Hb _ _ h b => h.bt b, fun D i v H2 hi2 s2 nD hacc hv => ?_, fun q ys H2 s2 n2 hq hyl hR => ?_⟩
    · have hv : us[i]? = some v := hv
      obtain ⟨r, er, b, rfl, hb⟩ := w1.at hv
      have s02 := sm.trans s2
      obtain ⟨acc, hacc⟩ := hacc
      refine ⟨rfl, fun _ _ _ _ _ => w_callTy T.z_tuple (wa_cons ?_)⟩
      refine w_lcI [("position", 2)] (gName 2) tYes (fun _ _ _ _ _ => pg_name nd rfl (Or.inl rfl) (Or.inr rfl)) (fun _ _ _ _ _ => pts_nil) rfl nd (blkOk_by (by kernel_rfl)) (lcC_I mono_name mono_yes (wi_val ?_))
      tbr_iter "go"
      have hp2 := s02 _ _ hp
      refine itv_tup (SqT.of hp2) ⟨_, _, itN_seq (seqIt_tup (SqT.of hp2)), by rw [List.length_map]; exact Nat.lt_of_le_of_lt hl (by decide), fun i => is[i]?.map fun k => V.str (r.getD k ""), fun m x H3 hm s3 hx => ?_, fun D2 H3 s3 n3 h3 => ?_⟩
      · have hx : (is.map fun i => V.int (i : Nat))[m]? = some x := hx
        rw [List.getElem?_map] at hx
        obtain ⟨i, ei, rfl⟩ := Option.map_eq_some_iff.mp hx
        have il : i < r.length := by rw [(hn r (List.mem_of_getElem? er)).1]; exact hi i (List.mem_of_getElem? ei)
        refine ⟨rfl, Same.refl _, fun _ _ _ _ _ => ?_⟩
        tbr_iter "go"
        refine iv_tup (SqT.of (s3 _ _ (s02 _ _ hb))) (atI_nat (v := V.str (r.getD i "")) ?_) ⟨Same.refl _, ?_⟩
        · rw [List.getElem?_map, List.getD_eq_getElem?_getD, List.getElem?_eq_getElem il]
          rfl
        · show (is[m]?.map _) = _
          rw [ei]
          rfl
      · rw [List.length_map, fm_get] at h3
        refine wa_nil (kv_tupleL (SqL.of h3) fun q2 H4 s4 n4 h4 => ⟨s3.trans s4, q2, pickR is r, by rw [List.getElem?_map, er]; rfl, rfl, ne_of_none' ((s3 _ _ hacc)) n4, ?_⟩)
        rw [h4]
        unfold pickR
        rw [List.map_map]
        rfl
    · refine wa_nil ⟨q, is.length, ys, _, by rw [List.length_map], hl, .inr (SqL.of hq), ?_, rwR_rows (by rw [hyl, w1.len, List.length_map]) hR, fun r hr => ?_, fun x H3 s3 n3 t => k x H3 (sm.trans (s2.trans s3)) (same_nul (sm.trans s2) n3) t⟩
      · rw [hyl, w1.len]
        exact Nat.lt_of_le_of_lt hrl (by decide)
      · obtain ⟨r0, h0, rfl⟩ := List.mem_map.mp hr
        exact pick_row (hn r0 h0) hi
set_option hygiene false in
local macro_rules | `(tactic| tbr_iter "var") => `(tactic| first | ((with_reducible show W _ (.Name "self" _) _ _ _); refine w_var 0 rfl (by tbr_iter "vis") rfl ?_) | ((with_reducible show W _ (.Name "mapping" _) _ _ _); refine w_var 1 rfl (by tbr_iter "vis") rfl ?_) | ((with_reducible show W _ (.Name "name" _) _ _ _); refine w_var 2 rfl (by tbr_iter "vis") rfl ?_) | ((with_reducible show W _ (.Name "row" _) _ _ _); refine w_var 3 rfl (by tbr_iter "vis") rfl ?_))
set_option hygiene false in
local macro_rules | `(tactic| tbr_iter "set") => `(tactic| first | ((with_reducible show WB _ (.Assign [.Name "self" _] _ _ :: _) _ _ _); refine wb_cons (ws_set 0 ?_ rfl nd)) | ((with_reducible show WB _ (.Assign [.Name "mapping" _] _ _ :: _) _ _ _); refine wb_cons (ws_set 1 ?_ rfl nd)) | ((with_reducible show WB _ (.Assign [.Name "name" _] _ _ :: _) _ _ _); refine wb_cons (ws_set 2 ?_ rfl nd)) | ((with_reducible show WB _ (.Assign [.Name "row" _] _ _ :: _) _ _ _); refine wb_cons (ws_set 3 ?_ rfl nd)))
theorem ok_mapped (T : Txt K mg) : FnP P w K mg base 8 (He.ma K (He.ga K "Table") "mapped") (spMapped K) := by
  refine meth_okR T.f_Table_mapped sc_Table_mapped (fun _ _ _ _ _ _ us hl => match us, hl with | [_, _], _ => rfl) (fun vs H Q E h => ?_) fun cdv A outer s H vs Q E hr h => ?_
  · obtain ⟨a, d, c, rows, ns, g, rfl, _⟩ := h; rfl
  obtain ⟨a, d, c, rows, ns, g, rfl, ht, hd, hnd, hns, hnl, hg, hc, hn, hrl, k⟩ := h
  have nd := sc_Table_mapped.nd
  have kc := T.kc_Table
  have hu := room64 hr
  obtain ⟨fd, FD, BD⟩ := ok_domain (P := P) (w := w) (base := base) T
  obtain ⟨dx, q1, d1, h1, ⟨us, t1, w1⟩, _⟩ := id ht
  have hmem : ∀ n, n ∈ onceL rows.flatten ↔ n ∈ ns := fun n => ((onceL_mem rows.flatten).2 n).trans (hns n).symm
  have hper : (onceL rows.flatten).Perm ns := (List.perm_ext_iff_of_nodup (onceL_mem rows.flatten).1 hnd).mpr hmem
  have hof : (onceL rows.flatten).length < 64 := by rw [hper.length_eq]; exact hnl
  have hfl : rows.flatten.length < sizeLine := by
    have e := flat_le (rows := rows) (c := 3) fun r hr => by rw [(hn r hr).1]; exact hc
    exact Nat.lt_of_le_of_lt (show rows.flatten.length ≤ 3000 by omega) (by decide)
  have keys : (mapK ns g).map (·.1) = ns.map Sum.inr := by
    unfold mapK
    rw [List.map_map]
    rfl
  have mget : ∀ n ∈ ns, valV (mapK ns g) (.inr n) = some (.str (g n)) := mapK_get hnd
  refine wb_cons (ws_if (wt_bool (ww_or (wt_not (wt_val (w_call (ok_dict_from T) (hr.mono (by decide)) passL ?_))))))
  tbr_iter "go"
  refine w_prop kc.c T.p_Table_domain FD (hr.mono (by decide)) BD passL ?_
  tbr_iter "go"
  refine ⟨a, dx, _, rfl, h1, a, c, rows, rfl, ht, hfl, hof, fun ys q2 H2 py so s2 hq2 => ?_⟩
  have hpy : ys.Perm ns := py.trans hper
  refine wa_nil ⟨d, q2, _, ys, rfl, s2 _ _ hd, SqT.of hq2, by rw [hpy.length_eq]; exact Nat.lt_trans hnl (by decide), ?_, fun n hy => ?_, fun H3 s3 => ⟨_, rfl, iteF (ww_or1 (wt_not (wt_val ?_)))⟩⟩
  · unfold mapK
    rw [List.length_map, hpy.length_eq]
  · rw [mget n (hpy.mem_iff.mp hy)]
    rfl
  have s03 := s2.trans s3
  have hd3 := s03 _ _ hd
  refine w_lock hd3 trivial fun od => w_callB T.z_all (wa_cons (w_lcI [("name", 2)] (gName 2) tYes (fun _ _ _ _ _ => pg_name nd rfl (Or.inl rfl) (Or.inr rfl)) (fun _ _ _ _ _ => pts_nil) rfl nd (by tbr_iter "blk") (lcC_I mono_name mono_yes (wi_values ?_))))
  tbr_iter "go"
  have ml : (mapK ns g).length = ns.length := by unfold mapK; rw [List.length_map]
  refine ⟨d, od, _, rfl, upd_same, _, _, itN_values upd_same, by rw [ml]; exact Nat.lt_trans hnl (by decide), fun _ => some (.bl true), fun i x H4 hi s4 hv => ?_, fun q H4 s4 n4 h4 => ?_⟩
  · obtain ⟨k0, hv⟩ := hv
    unfold mapK at hv
    rw [List.getElem?_map] at hv
    obtain ⟨n, en, ex⟩ := Option.map_eq_some_iff.mp hv
    cases ex
    refine ⟨rfl, Same.refl _, fun _ _ _ _ _ => w_call (ok_is_name T) (hr.mono (by decide)) passL ?_⟩
    tbr_iter "go"
    have hgn := hg n (List.mem_of_getElem? en)
    refine ⟨_, some (.str (g n)), rfl, .dat (.str _) (name_ok hgn), fun H5 s5 => ⟨s5, ?_⟩⟩
    have e : ((some (PyData.str (g n))).any isNameD) = true := hgn
    rw [e]
  · have e : (List.range (mapK ns g).length).filterMap (fun _ => some (V.bl true)) = (List.replicate (mapK ns g).length true).map V.bl := by
      rw [List.map_replicate]
      generalize (mapK ns g).length = m
      induction m with
      | zero => rfl
      | succ m ih => rw [List.range_succ, List.filterMap_append, ih, List.replicate_succ'] <;> rfl
    rw [e] at h4
    refine wa_nil (kv_all rfl (SqL.of h4) ⟨s4 _ _ upd_same, ?_⟩)
    have s05 := s03.trans (lock_same hd3 s4)
    generalize upd H4 d (.dK (mapK ns g)) = H5 at s05 ⊢
    have e2 : (List.replicate (mapK ns g).length true).all id = true := by simp
    refine ⟨_, rfl, ?_⟩
    rw [e2]
    refine iteF (wb_nil ?_)
    refine wb_cons (ws_ret (w_call (ok_table_in T) hr passL (wa_cons (w_fld kc.c T.a_Table_own_columns ?_))))
    tbr_iter "go"
    refine ⟨a, dx, _, _, rfl, s05 _ _ h1, rfl, wa_cons ?_⟩
    refine w_lcI [("row", 3)] (gName 3) tYes (fun _ _ _ _ _ => pg_name nd rfl (Or.inl rfl) (Or.inr rfl)) (fun _ _ _ _ _ => pts_nil) rfl nd (by tbr_iter "blk") (lcR_I mono_name (wi_val (w_fld kc.c T.a_Table_own_rows ?_)))
    tbr_iter "go"
    refine ⟨a, dx, _, _, rfl, s05 _ _ h1, rfl, ?_⟩
    have ht1 := SqT.of (K := K) (s05 _ _ t1)
    refine itv_tup ht1 ⟨_, _, itN_seq (seqIt_tup ht1), by rw [w1.len]; exact Nat.lt_of_le_of_lt hrl (by decide), RwR (rows.map fun r => r.map g), fun D i y Ha Hb _ _ h b => h.bt b, fun D i v H6 hi2 s6 nD hacc hv => ?_, fun q ys H6 s6 n6 hq hyl hR => ?_⟩
    · have hv : us[i]? = some v := hv
      obtain ⟨r, er, b, rfl, hb⟩ := w1.at hv
      have s06 := s05.trans s6
      obtain ⟨acc, hacc⟩ := hacc
      have rm := List.mem_of_getElem? er
      refine ⟨rfl, fun _ _ _ _ _ => w_callTy T.z_tuple (wa_cons ?_)⟩
      refine w_lcI [("name", 2)] (gName 2) tYes (fun _ _ _ _ _ => pg_name nd rfl (Or.inl rfl) (Or.inr rfl)) (fun _ _ _ _ _ => pts_nil) rfl nd (blkOk_by (by kernel_rfl)) (lcC_I mono_name mono_yes (wi_val ?_))
      tbr_iter "go"
      have hb6 := s06 _ _ hb
      refine itv_tup (SqT.of hb6) ⟨_, _, itN_seq (seqIt_tup (SqT.of hb6)), by rw [List.length_map, (hn r rm).1]; exact Nat.lt_of_le_of_lt hc (by decide), fun i => r[i]?.map fun k => V.str (g k), fun m x H7 hm s7 hx => ?_, fun D2 H7 s7 n7 h7 => ?_⟩
      · have hx : (r.map V.str)[m]? = some x := hx
        rw [List.getElem?_map] at hx
        obtain ⟨z, ez, rfl⟩ := Option.map_eq_some_iff.mp hx
        refine ⟨rfl, Same.refl _, fun _ _ _ _ _ => ?_⟩
        tbr_iter "go"
        refine iv_dK (k := .inr z) hu (.inl ((s06.trans s7) _ _ hd)) (mget z ((hns z).mpr (List.mem_flatten.mpr ⟨r, rm, List.mem_of_getElem? ez⟩))) ⟨Same.refl _, ?_⟩
        show (r[m]?.map _) = _
        rw [ez]
        rfl
      · rw [List.length_map, fm_get] at h7
        refine wa_nil (kv_tupleL (SqL.of h7) fun q2 H8 s8 n8 h8 => ⟨s7.trans s8, q2, r.map g, by rw [List.getElem?_map, er]; rfl, rfl, ne_of_none' (s7 _ _ hacc) n8, ?_⟩)
        rw [h8, List.map_map]
        rfl
    · refine wa_nil ⟨q, c, ys, _, rfl, hc, .inr (SqL.of hq), ?_, rwR_rows (by rw [hyl, w1.len, List.length_map]) hR, fun r hr => ?_, fun x H7 s7 n7 t => k x H7 (s05.trans (s6.trans s7)) (same_nul (s05.trans s6) n7) t⟩
      · rw [hyl, w1.len]
        exact Nat.lt_of_le_of_lt hrl (by decide)
      · obtain ⟨r0, h0, rfl⟩ := List.mem_map.mp hr
        exact map_row (hn r0 h0) fun n hm => hg n ((hns n).mpr (List.mem_flatten.mpr ⟨r0, h0, hm⟩))
end
end Ax
end
section
set_option maxHeartbeats 4000000
open PySem PySem.Spec PyProof.Rows L2 Ax
set_option hygiene false in
local macro_rules | `(tactic| tbr_iter "boot") => `(tactic| with_reducible first | exact Ax.b_len | exact Ax.b_all | exact Ax.b_any | exact Ax.b_sorted | exact Ax.b_isinstance | exact Ax.b_abs | exact Ax.b_max | exact Ax.b_min | exact Ax.b_sum | exact Ax.b_repr | exact Ax.b_iter | exact Ax.b_ord | exact Ax.b_chr | exact Ax.b_str | exact Ax.b_int | exact Ax.b_bool | exact Ax.b_tuple | exact Ax.b_list | exact Ax.b_dict | exact Ax.b_set | exact Ax.b_range | exact Ax.b_enumerate | exact Ax.b_zip)
set_option hygiene false in
local macro_rules | `(tactic| tbr_iter "vis") => `(tactic| first | exact Or.inl rfl | exact Or.inr (Or.inl rfl) | exact Or.inr (Or.inr rfl))
set_option hygiene false in
local macro_rules | `(tactic| tbr_iter "w") => `(tactic| first
  | refine wb_cons ?_
  | refine wb_nil ?_
  | refine ws_ret ?_
  | refine ws_if ?_
  | refine ws_sub ?_
  | refine wa_cons ?_
  | refine wa_nil ?_
  | refine w_int ?_
  | refine w_str ?_
  | refine w_bl ?_
  | refine w_non ?_
  | tbr_iter "var"
  | refine w_bin ?_
  | refine w_cmp ?_
  | refine w_chain ?_
  | refine w_and ?_
  | refine w_or ?_
  | refine w_one ?_
  | refine w_not ?_
  | refine w_ix ?_
  | refine w_ifExp ?_
  | refine w_tup ?_
  | refine w_lst ?_
  | refine wt_not ?_
  | refine wt_bool ?_
  | refine ww_and ?_
  | refine ww_and1 ?_
  | refine ww_or ?_
  | refine ww_or1 ?_
  | refine wt_cmp ?_
  | refine wt_val ?_
  | tbr_iter "call"
  | (refine w_glob (by tbr_iter "mg") ?_)
  | (refine w_callB (by tbr_iter "z") ?_)
  | (refine w_callTy (by tbr_iter "z") ?_)
  | (refine w_bltT (by tbr_iter "z") ?_))
set_option hygiene false in
local macro_rules | `(tactic| tbr_iter "blk") => `(tactic| first | exact blkOk_by (by dsimp only [cxOf, envOfC]; decide +kernel))
set_option hygiene false in
local macro_rules | `(tactic| tbr_iter "iff") => `(tactic| first
  | refine iteT ?_
  | refine iteF ?_
  | refine w_if2 (fun _ => ?_) (fun _ => ?_))
set_option hygiene false in
local macro_rules | `(tactic| tbr_iter "sc") => `(tactic| first | omega | decide)
set_option hygiene false in
local macro_rules | `(tactic| tbr_iter "at") => `(tactic| first | exact atI_0 | exact atI_1 | exact atI_2)
set_option hygiene false in
local macro_rules | `(tactic| tbr_iter "sql") => `(tactic| ((try dsimp only [L2.cxOf, L2.Cx.blk]); with_reducible first | assumption | exact SqL.of (by assumption)))
set_option hygiene false in
local macro_rules | `(tactic| tbr_iter "sqt") => `(tactic| ((try dsimp only [L2.cxOf, L2.Cx.blk]); with_reducible first | assumption | exact SqT.of (by assumption)))
set_option hygiene false in
local macro_rules | `(tactic| tbr_iter "v") => `(tactic| first
  | refine bv_add ?_
  | refine bv_sub ?_
  | ((with_reducible show BinV _ .Mult _ _ _ _); refine bv_mul (Or.inl ⟨by tbr_iter "sc", by tbr_iter "sc"⟩) ?_)
  | ((with_reducible show BinV _ .Mult _ _ _ _); refine bv_mul (Or.inr ⟨by tbr_iter "sc", by tbr_iter "sc"⟩) ?_)
  | ((with_reducible show BinV _ .Mod _ _ _ _); refine bv_mod (by tbr_iter "sc") ?_)
  | ((with_reducible show BinV _ .FloorDiv _ _ _ _); refine bv_fdiv ⟨by tbr_iter "sc", by tbr_iter "sc"⟩ ?_)
  | ((with_reducible show BinV _ .Pow _ _ _ _); refine bv_pow ⟨by decide, by decide +kernel⟩ ?_)
  | refine cv_lt ?_
  | refine cv_le ?_
  | refine cv_gt ?_
  | refine cv_ge ?_
  | ((with_reducible show CmpV _ .Eq _ _ _ _); refine cv_eq rfl ?_)
  | ((with_reducible show CmpV _ .NotEq _ _ _ _); refine cv_ne rfl ?_)
  | refine iv_list (by tbr_iter "sql") (by tbr_iter "at") ?_
  | refine iv_tup (by tbr_iter "sqt") (by tbr_iter "at") ?_
  | refine kv_len_seq (Or.inl (by tbr_iter "sql")) ?_
  | refine kv_len_seq (Or.inr (by tbr_iter "sqt")) ?_
  | refine kv_int ?_
  | refine kv_intB ?_
  | refine kv_abs ?_
  | refine kv_max2 rfl ?_
  | refine kv_min2 rfl ?_)
set_option hygiene false in
local macro_rules | `(tactic| tbr_iter "b") => `(tactic| first
  | refine ⟨_, rfl, iteT ?_⟩
  | refine ⟨_, rfl, iteF ?_⟩
  | refine iteT ?_
  | refine iteF ?_)
set_option hygiene false in
local macro_rules | `(tactic| tbr_iter "go") => `(tactic| repeat (first | tbr_iter "w" | tbr_iter "v" | tbr_iter "b"))
set_option hygiene false in
local macro_rules | `(tactic| tbr_iter "nof") => `(tactic| (intro d hd; cases d <;> first | rfl | exact absurd rfl (hd _)))
set_option hygiene false in
local macro_rules | `(tactic| tbr_iter "e1") => `(tactic| first | ((with_reducible show W _ _ _ _ _); tbr_iter "w") | ((with_reducible show WA _ _ _ _ _); tbr_iter "w") | ((with_reducible show WT _ _ _ _ _); tbr_iter "w") | ((with_reducible show WW _ _ _ _ _); tbr_iter "w") | tbr_iter "v")
set_option hygiene false in
local macro_rules | `(tactic| tbr_iter "ex") => `(tactic| repeat (tbr_iter "e1"))
set_option hygiene false in
local macro_rules | `(tactic| tbr_iter "z") => `(tactic| ((try dsimp only [L2.cxOf]); with_reducible first | exact T.z_IndexError | exact T.z_ValueError | exact T.z_abs | exact T.z_all | exact T.z_bool | exact T.z_classmethod | exact T.z_dict | exact T.z_enumerate | exact T.z_int | exact T.z_isinstance | exact T.z_iter | exact T.z_len | exact T.z_list | exact T.z_max | exact T.z_min | exact T.z_property | exact T.z_range | exact T.z_repr | exact T.z_set | exact T.z_sorted | exact T.z_str | exact T.z_tuple))
set_option hygiene false in
local macro_rules | `(tactic| tbr_iter "mg") => `(tactic| ((try dsimp only [L2.cxOf]); with_reducible first | exact T.c_ALPHABET | exact T.c_MAX_LETTERS | exact T.c_MAX_COLUMNS | exact T.c_MOST_VALUES))
namespace Ax
/-- a new list of the same things in a drawn order -/
def spMixed (K : PySem.W.Frag) : Sp := fun vs H Q _ => ∃ (p l : Addr) (n : Nat) (xs : List V), vs = [.ref p, .ref l] ∧ H p = some (DiceO p n) ∧ n < 2 ^ 50 ∧ SqL K H l xs ∧ xs.length ≤ 1000 ∧
  ∀ ys q m H', ys.Perm xs → Sm p H H' → H' p = some (DiceO p m) → m ≤ n + xs.length → H q = none → H' q = some (.lst ys) → Q (.ref q) H'
/-- some of the things, in their order -/
def spSome (K : PySem.W.Frag) : Sp := fun vs H Q _ => ∃ (p l : Addr) (n : Nat) (few : Int) (xs : List V), vs = [.ref p, .ref l, .int few] ∧ H p = some (DiceO p n) ∧ n < 2 ^ 50 ∧ 0 < few ∧ few < 1000 ∧ SqL K H l xs ∧ xs.length ≤ 1000 ∧
  ∀ ys q m H', ys.Sublist xs → Sm p H H' → H' p = some (DiceO p m) → m ≤ n + xs.length → H q = none → H' q = some (.lst ys) → Q (.ref q) H'
section
variable {P : Program} {w : World} {K : PySem.W.Frag} {mg : Str → Option Value} {base : Heap}
set_option hygiene false in
local macro_rules | `(tactic| tbr_iter "var") => `(tactic| first | ((with_reducible show W _ (.Name "dice" _) _ _ _); refine w_var 0 rfl (by tbr_iter "vis") rfl ?_) | ((with_reducible show W _ (.Name "items" _) _ _ _); refine w_var 1 rfl (by tbr_iter "vis") rfl ?_) | ((with_reducible show W _ (.Name "left" _) _ _ _); refine w_var 2 rfl (by tbr_iter "vis") rfl ?_) | ((with_reducible show W _ (.Name "found" _) _ _ _); refine w_var 3 rfl (by tbr_iter "vis") rfl ?_))
set_option hygiene false in
local macro_rules | `(tactic| tbr_iter "set") => `(tactic| first | ((with_reducible show WB _ (.Assign [.Name "dice" _] _ _ :: _) _ _ _); refine wb_cons (ws_set 0 ?_ rfl nd)) | ((with_reducible show WB _ (.Assign [.Name "items" _] _ _ :: _) _ _ _); refine wb_cons (ws_set 1 ?_ rfl nd)) | ((with_reducible show WB _ (.Assign [.Name "left" _] _ _ :: _) _ _ _); refine wb_cons (ws_set 2 ?_ rfl nd)) | ((with_reducible show WB _ (.Assign [.Name "found" _] _ _ :: _) _ _ _); refine wb_cons (ws_set 3 ?_ rfl nd)))
theorem ok_law_mixed (T : Txt K mg) : Callee P w K mg base "_law_mixed" 3 ["dice", "items"] (spMixed K) := by
  refine def_ok T.f__law_mixed sc__law_mixed (fun _ _ _ _ _ _ us hl => match us, hl with | [_, _], _ => rfl) (fun vs H Q E h => ?_) fun f cdv A outer s H vs Q E hr h => ?_
  · obtain ⟨p, l, n, xs, rfl, _⟩ := h; rfl
  obtain ⟨p, l, n, xs, rfl, hp, hn, hl, hx, k⟩ := h
  have nd := sc__law_mixed.nd
  have hu : (cxOf (L2.CX P w) P w K mg base n__law_mixed "_law_mixed" (defScope s__law_mixed) f cdv A outer s H E).A.units < cLine := by
    have := room64 hr
    show (A.deeper _).units < cLine
    omega
  refine wb_cons (ws_par 2 3 (wa_cons (w_callTy T.z_list (wa_cons ?_))) rfl rfl nd)
  tbr_iter "go"
  refine kv_listS (.inl hl) fun pl H1 s1 n1 h1 => wa_cons ?_
  tbr_iter "go"
  refine ⟨zero_line, fun pf H2 s2 n2 h2 => wa_nil ⟨_, _, rfl, ?_⟩⟩
  have n2' := same_nul s1 n2
  have h12 := s2 _ _ h1
  have plf : pl ≠ pf := fun z => by rw [z, n2] at h1; cases h1
  have ppl : p ≠ pl := ne_of_none hp n1
  have ppf : p ≠ pf := ne_of_none hp n2'
  have s02 := s1.trans s2
  refine wb_cons (ws_while (fun m σ Hc => σ = [some (.ref p), some (.ref l), some (.ref pl), some (.ref pf)] ∧ ∃ left found d, Sm p H Hc ∧ Hc p = some (DiceO p d) ∧ d + left.length ≤ n + xs.length ∧ Hc pl = some (.lst left) ∧ Hc pf = some (.lst found) ∧ (found ++ left).Perm xs ∧ left.length = m) ⟨xs.length, rfl, xs, [], n, Sm.of hp s02, s02 _ _ hp, Nat.le_refl _, h12, h2, by simp, rfl⟩ ?_ (passes_of rfl))
  · rintro m σ Hc ⟨rfl, left, found, d, sm, hd, hdl, hpl, hpf, perm, rfl⟩
    have hll : left.length ≤ xs.length := by
      have := perm.length_eq
      rw [List.length_append] at this
      omega
    refine wt_cmp ?_
    tbr_iter "go"
    refine ⟨zero_line, fun pe He se ne hpe => cv_ne_nil hu (SqL.of (se _ _ hpl)) (SqL.of hpe) ⟨_, rfl, w_if2 (fun c => ?_) (fun c => ?_)⟩⟩
    · have hne : left ≠ [] := by
        rintro rfl
        cases c
      have hpos := List.length_pos_iff.mpr hne
      have sme := sm.same se
      refine wb_cons (ws_expr (w_bm1 PySem.F.plainAttrs_list PySem.F.slot_list_append PySem.F.type_list_append ?_))
      tbr_iter "go"
      refine ⟨tyV_list ⟨pf, _, rfl, SqL.of (se _ _ hpf)⟩, ?_⟩
      refine w_bm1 PySem.F.plainAttrs_list PySem.F.slot_list_pop PySem.F.type_list_pop ?_
      tbr_iter "go"
      refine ⟨tyV_list ⟨pl, _, rfl, SqL.of (se _ _ hpl)⟩, ?_⟩
      refine w_call (ok_law_roll T) hr passL ?_
      tbr_iter "go"
      refine kv_len_seq (Or.inl (SqL.of (se _ _ hpl))) (wa_nil ⟨p, d, _, rfl, se _ _ hd, by omega, by omega, by omega, fun r H3 s3 h3 r0 r1 => ?_⟩)
      have hpl3 := s3.lst (se _ _ hpl)
      have hpf3 := s3.lst (se _ _ hpf)
      have hr3 : r.toNat < left.length := by omega
      refine mv_popAt hpl3 r0 hr3 (by omega) (List.getElem?_eq_getElem hr3) ?_
      refine mv_append ((upd_ne plf.symm).trans hpf3) ?_ ?_
      · have := perm.length_eq
        rw [List.length_append] at this
        exact Nat.lt_of_le_of_lt (show found.length ≤ 1000 by omega) (by decide)
      refine wb_nil ⟨left.length - 1, by omega, rfl, left.eraseIdx r.toNat, found ++ [left[r.toNat]], d + 1, (Sm.new (Sm.new (sme.trans s3) n1) n2'), ?_, ?_, ?_, upd_same, ?_, ?_⟩
      · rw [upd_ne ppf, upd_ne ppl]
        exact h3
      · rw [List.length_eraseIdx_of_lt hr3]
        omega
      · rw [upd_ne plf, upd_same]
      · have e1 : (left[r.toNat] :: left.eraseIdx r.toNat).Perm left := by
          rw [List.eraseIdx_eq_take_drop_succ]
          have e2 : left.take r.toNat ++ left[r.toNat] :: left.drop (r.toNat + 1) = left := by rw [List.getElem_cons_drop, List.take_append_drop]
          exact List.perm_middle.symm.trans (by rw [e2])
        rw [List.append_assoc]
        exact (List.Perm.append_left found e1).trans perm
      · rw [List.length_eraseIdx_of_lt hr3]
    · have hnil : left = [] := by
        cases left with
        | nil => rfl
        | cons _ _ => cases c
      subst hnil
      rw [List.append_nil] at perm
      tbr_iter "go"
      exact k found pf d He perm (sm.same se) (se _ _ hd) hdl n2' (se _ _ hpf)
set_option hygiene false in
local macro_rules | `(tactic| tbr_iter "var") => `(tactic| first | ((with_reducible show W _ (.Name "dice" _) _ _ _); refine w_var 0 rfl (by tbr_iter "vis") rfl ?_) | ((with_reducible show W _ (.Name "items" _) _ _ _); refine w_var 1 rfl (by tbr_iter "vis") rfl ?_) | ((with_reducible show W _ (.Name "few" _) _ _ _); refine w_var 2 rfl (by tbr_iter "vis") rfl ?_) | ((with_reducible show W _ (.Name "item" _) _ _ _); refine w_var 3 rfl (by tbr_iter "vis") rfl ?_))
set_option hygiene false in
local macro_rules | `(tactic| tbr_iter "set") => `(tactic| first | ((with_reducible show WB _ (.Assign [.Name "dice" _] _ _ :: _) _ _ _); refine wb_cons (ws_set 0 ?_ rfl nd)) | ((with_reducible show WB _ (.Assign [.Name "items" _] _ _ :: _) _ _ _); refine wb_cons (ws_set 1 ?_ rfl nd)) | ((with_reducible show WB _ (.Assign [.Name "few" _] _ _ :: _) _ _ _); refine wb_cons (ws_set 2 ?_ rfl nd)) | ((with_reducible show WB _ (.Assign [.Name "item" _] _ _ :: _) _ _ _); refine wb_cons (ws_set 3 ?_ rfl nd)))
theorem ok_law_some (T : Txt K mg) : Callee P w K mg base "_law_some" 3 ["dice", "items", "few"] (spSome K) := by
  refine def_ok T.f__law_some sc__law_some (fun _ _ _ _ _ _ us hl => match us, hl with | [_, _, _], _ => rfl) (fun vs H Q E h => ?_) fun f cdv A outer s H vs Q E hr h => ?_
  · obtain ⟨p, l, n, few, xs, rfl, _⟩ := h; rfl
  obtain ⟨p, l, n, few, xs, rfl, hp, hn, hf0, hf1, hl, hx, k⟩ := h
  have nd := sc__law_some.nd
  refine wb_cons (ws_ret (w_lcI [("item", 3)] (gName 3) (tWT _ _ _) (fun _ _ _ _ _ => pg_name nd rfl (Or.inl rfl) (Or.inr rfl)) pts_wt rfl nd (by tbr_iter "blk") (wi_val ?_)))
  tbr_iter "go"
  obtain ⟨G, wk, g0, gs⟩ := seqItM_list (p := p) hl
  refine itv_list hl ⟨xs.length, G, _, wk, Nat.lt_of_le_of_lt hx (by decide), fun D nD => ⟨fun i ys H' => ∃ m, Sm p H H' ∧ H' p = some (DiceO p m) ∧ m ≤ n + i ∧ ys.Sublist (xs.take i), ⟨n, (Sm.refl hp).new nD, (upd_ne (ne_of_none hp nD)).trans hp, Nat.le_refl _, by simp⟩, fun i ys H' _ _ ⟨m, sm, _⟩ => gs _ sm, fun ys H' hD ⟨m, sm, hm, hb, sub⟩ => k ys D m H' (by rw [List.take_length] at sub; exact sub) sm hm hb nD hD, ?_⟩⟩
  rintro i ys x Ha Hb hi hD ⟨m, sm, hm, hb, sub⟩ ⟨e, hv⟩ Kf Kt kf kt
  subst e
  have etk : xs.take (i + 1) = xs.take i ++ [x] := by rw [List.take_add_one, hv] <;> rfl
  refine ⟨rfl, fun _ _ _ _ _ => wt_cmp (w_call (ok_law_roll T) hr passL ?_)⟩
  tbr_iter "go"
  refine ⟨p, m, few, rfl, hm, by omega, hf0, by omega, fun r H3 s3 h3 r0 r1 => ?_⟩
  tbr_iter "go"
  refine ⟨_, rfl, w_if2 (fun c => ?_) (fun c => ?_)⟩
  · intro _ _ _ _ _
    tbr_iter "go"
    refine kt _ _ (s3.lst hD) ⟨m + 1, (sm.trans s3).new nD, (upd_ne (ne_of_none hp nD)).trans h3, by omega, ?_⟩
    rw [etk]
    exact sub.append (List.Sublist.refl _)
  · refine kf _ (s3.lst hD) ⟨m + 1, sm.trans s3, h3, by omega, ?_⟩
    rw [etk]
    exact sub.trans (List.sublist_append_left _ _)
end
end Ax

namespace Ax
/-- r with each of zs behind it -/
def extR (zs : List Str) (r : List Str) : List (List Str) := zs.map fun z => r ++ [z]
theorem tupsL_succ (zs : List Str) (c : Nat) : tupsL zs (c + 1) = (tupsL zs c).flatMap (extR zs) := rfl
def spTupsL (K : PySem.W.Frag) : Sp := fun vs H Q _ => ∃ (p : Addr) (c : Nat) (zs : List Str), vs = [.ref p, .int c] ∧ H p = some (.lst (zs.map V.str)) ∧ c ≤ 3 ∧ zs.length ≤ 6 ∧
  ∀ us q H', All2 (RwV H') us (tupsL zs c) → Same H H' → H q = none → H' q = some (.lst us) → Q (.ref q) H'
section
variable {P : Program} {w : World} {K : PySem.W.Frag} {mg : Str → Option Value} {base : Heap}
set_option hygiene false in
local macro_rules | `(tactic| tbr_iter "var") => `(tactic| first | ((with_reducible show W _ (.Name "items" _) _ _ _); refine w_var 0 rfl (by tbr_iter "vis") rfl ?_) | ((with_reducible show W _ (.Name "columns" _) _ _ _); refine w_var 1 rfl (by tbr_iter "vis") rfl ?_) | ((with_reducible show W _ (.Name "found" _) _ _ _); refine w_var 2 rfl (by tbr_iter "vis") rfl ?_) | ((with_reducible show W _ (.Name "turn" _) _ _ _); refine w_var 3 rfl (by tbr_iter "vis") rfl ?_) | ((with_reducible show W _ (.Name "longer" _) _ _ _); refine w_var 4 rfl (by tbr_iter "vis") rfl ?_) | ((with_reducible show W _ (.Name "one" _) _ _ _); refine w_var 5 rfl (by tbr_iter "vis") rfl ?_) | ((with_reducible show W _ (.Name "item" _) _ _ _); refine w_var 6 rfl (by tbr_iter "vis") rfl ?_))
set_option hygiene false in
local macro_rules | `(tactic| tbr_iter "set") => `(tactic| first | ((with_reducible show WB _ (.Assign [.Name "items" _] _ _ :: _) _ _ _); refine wb_cons (ws_set 0 ?_ rfl nd)) | ((with_reducible show WB _ (.Assign [.Name "columns" _] _ _ :: _) _ _ _); refine wb_cons (ws_set 1 ?_ rfl nd)) | ((with_reducible show WB _ (.Assign [.Name "found" _] _ _ :: _) _ _ _); refine wb_cons (ws_set 2 ?_ rfl nd)) | ((with_reducible show WB _ (.Assign [.Name "turn" _] _ _ :: _) _ _ _); refine wb_cons (ws_set 3 ?_ rfl nd)) | ((with_reducible show WB _ (.Assign [.Name "longer" _] _ _ :: _) _ _ _); refine wb_cons (ws_set 4 ?_ rfl nd)) | ((with_reducible show WB _ (.Assign [.Name "one" _] _ _ :: _) _ _ _); refine wb_cons (ws_set 5 ?_ rfl nd)) | ((with_reducible show WB _ (.Assign [.Name "item" _] _ _ :: _) _ _ _); refine wb_cons (ws_set 6 ?_ rfl nd)))
theorem ok_law_tups (T : Txt K mg) : Callee P w K mg base "_law_tuples" 1 ["items", "columns"] (spTupsL K) := by
  refine def_ok T.f__law_tuples sc__law_tuples (fun _ _ _ _ _ _ us hl => match us, hl with | [_, _], _ => rfl) (fun vs H Q E h => ?_) fun f cdv A outer s H vs Q E hr h => ?_
  · obtain ⟨p, c, zs, rfl, _⟩ := h; rfl
  obtain ⟨p, c, zs, rfl, hp, hc, hz, k⟩ := h
  have nd := sc__law_tuples.nd
  refine wb_cons (ws_set 2 (w_lst (wa_cons (w_tup ?_))) rfl nd)
  tbr_iter "go"
  refine ⟨zero_line, fun pe H1 s1 n1 h1 => wa_nil ⟨one_line, fun pf H2 s2 n2 h2 => ?_⟩⟩
  have s02 := s1.trans s2
  refine wb_cons (ws_for 3 (wi_range1 T.z_range ?_) rfl nd (passes_of rfl))
  tbr_iter "go"
  refine ⟨c, rfl, by omega, by omega, c, _, _, walk_range (lo := 0) (n := c), fun i σ Hc => ∃ q us x1 x2 x3 x4, σ = [some (.ref p), some (.int c), some (.ref q), x1, x2, x3, x4] ∧ Same H Hc ∧ H q = none ∧ Hc q = some (.lst us) ∧ All2 (RwV Hc) us (tupsL zs i), ?_, fun _ _ _ _ _ => trivial, ?_, ?_⟩
  · exact ⟨pf, _, none, none, none, none, rfl, s02, same_nul s1 n2, h2, .one ⟨pe, rfl, s2 _ _ h1⟩⟩
  · rintro i v σ Hc Hc' hi ⟨q, us, x1, x2, x3, x4, rfl, sm, nq, hq, hur⟩ ⟨e, rfl⟩
    subst e
    refine wb_cons (ws_set 4 (w_lst (wa_nil ⟨zero_line, fun pl H3 s3 n3 h3 => ?_⟩)) rfl nd)
    refine wb_cons (ws_for 5 (wi_val (w_callTy T.z_list (wa_cons ?_))) rfl nd (passes_of rfl))
    tbr_iter "go"
    refine kv_listS (.inl (SqL.of (s3 _ _ hq))) fun pc H4 s4 n4 h4 => ?_
    have s03 := sm.trans s3
    have s04 := s03.trans s4
    have nl : H pl = none := same_nul sm n3
    have nc : H pc = none := same_nul s03 n4
    have pcl : pc ≠ pl := fun z => by rw [z, h3] at n4; cases n4
    have ul : us.length ≤ 36 := by
      rw [hur.len, tupsL_len]
      refine Nat.le_trans (Nat.pow_le_pow_left hz i) ?_
      have : i = 0 ∨ i = 1 ∨ i = 2 := by omega
      rcases this with rfl | rfl | rfl <;> decide
    refine itv_list (SqL.of h4) ⟨us.length, _, _, walk_list (K := K) (xs := us), fun j σ Hd => ∃ vs y1 y2, σ = [some (.ref p), some (.int c), some (.ref q), some (.int (0 + (i : Nat))), some (.ref pl), y1, y2] ∧ Same H Hd ∧ Hd pc = some (.lst us) ∧ Hd pl = some (.lst vs) ∧ All2 (RwV Hd) us (tupsL zs i) ∧ All2 (RwV Hd) vs (((tupsL zs i).take j).flatMap (extR zs)), ?_, fun _ _ _ _ ⟨_, _, _, _, _, h, _⟩ => SqL.of h, ?_, ?_⟩
    · exact ⟨[], x3, x4, rfl, s04, h4, s4 _ _ h3, rows_sl hur (Sl.of (s3.trans s4)), .nil⟩
    · rintro j x σ Hd Hd' hj ⟨vs, y1, y2, rfl, sd, hpc, hpl, hus, hvs⟩ ⟨e, hx⟩
      subst e
      obtain ⟨r, er, b, rfl, hb⟩ := hus.at hx
      have hrl : r.length = i := (tupsL_mem.mp (List.mem_of_getElem? er)).1
      have hvl : vs.length ≤ 216 := by
        have e1 := hvs.len
        rw [flat_len (f := extR zs) (m := zs.length) fun x _ => List.length_map _, List.length_take] at e1
        have e2 : (min j (tupsL zs i).length) * zs.length ≤ 36 * 6 := Nat.mul_le_mul (Nat.le_trans (Nat.min_le_right _ _) (by rw [← hus.len]; exact ul)) hz
        omega
      refine wb_cons (ws_expr (w_bm1 PySem.F.plainAttrs_list PySem.F.slot_list_extend PySem.F.type_list_extend ?_))
      tbr_iter "go"
      refine ⟨tyV_list ⟨pl, _, rfl, SqL.of hpl⟩, ?_⟩
      refine w_lcI [("item", 6)] (gName 6) tYes (fun _ _ _ _ _ => pg_name nd rfl (Or.inl rfl) (Or.inr rfl)) (fun _ _ _ _ _ => pts_nil) rfl nd (by tbr_iter "blk") (lcR_I mono_name (wi_val ?_))
      tbr_iter "go"
      have hp' := SqL.of (K := K) (sd _ _ hp)
      refine itv_list hp' ⟨_, _, itN_seq (seqIt_list hp'), ?_, RwR (extR zs r), fun D i' y Ha Hb _ _ h bt => h.bt bt, fun D i' v H5 hi5 s5 nD hacc hv => ?_, fun D ws H5 s5 n5 h5 hwl hwR => ?_⟩
      · rw [List.length_map]
        exact Nat.lt_of_le_of_lt hz (by decide)
      · have hv : (zs.map V.str)[i']? = some v := hv
        rw [List.getElem?_map] at hv
        obtain ⟨z, ez, rfl⟩ := Option.map_eq_some_iff.mp hv
        obtain ⟨acc, hacc⟩ := hacc
        refine ⟨rfl, fun _ _ _ _ _ => ?_⟩
        tbr_iter "go"
        refine ⟨one_line, fun pt H6 s6 n6 h6 => bv_catW (SqT.of (s6 _ _ (s5 _ _ hb))) h6 (by simp) ?_ fun t H7 s7 h7 => ⟨s6.trans s7, t, r ++ [z], ?_, rfl, fun e => ?_, ?_⟩⟩
        · rw [List.length_map, hrl]
          exact Nat.le_trans (show i + 1 ≤ 4 by omega) (by decide)
        · unfold extR
          rw [List.getElem?_map, ez]
          rfl
        · rw [e, (s6.trans s7) _ _ hacc] at h7
          cases h7
        · rw [h7, List.map_append]
          rfl
      · rw [List.length_map] at hwl
        have hpl5 := s5 _ _ hpl
        have hwr := rwR_rows (rows := extR zs r) (by rw [hwl]; unfold extR; rw [List.length_map]) hwR
        refine mv_extend hpl5 h5 (Nat.le_trans (show vs.length + ws.length ≤ 1000 by omega) (by decide)) ?_
        have sl : Sl H5 (upd H5 pl (.lst (vs ++ ws))) := (Sl.refl H5).lst hpl5
        refine wb_nil ⟨vs ++ ws, _, _, rfl, same_upd (sd.trans s5) nl, (upd_ne pcl).trans (s5 _ _ hpc), upd_same, rows_sl hus ((Sl.of s5).trans sl), ?_⟩
        rw [List.take_add_one, er, List.flatMap_append]
        refine (rows_sl hvs ((Sl.of s5).trans sl)).app ?_
        have e : (some r).toList.flatMap (extR zs) = extR zs r := by simp
        rw [e]
        exact rows_sl hwr sl
    · rintro σ Hd ⟨vs, y1, y2, rfl, sd, hpc, hpl, hus, hvs⟩
      refine wb_cons (ws_set 2 (w_callTy T.z_list (wa_cons ?_)) rfl nd)
      tbr_iter "go"
      refine kv_listS (.inl (SqL.of hpl)) fun q2 H6 s6 n6 h6 => ?_
      refine wb_nil ⟨q2, vs, _, _, _, _, rfl, sd.trans s6, same_nul sd n6, h6, rows_sl ?_ (Sl.of s6)⟩
      rw [tupsL_succ]
      rw [hus.len, List.take_length] at hvs
      exact hvs
  · rintro σ Hc ⟨q, us, x1, x2, x3, x4, rfl, sm, nq, hq, hur⟩
    tbr_iter "go"
    exact k us q Hc hur sm nq hq
end
end Ax
end
section
set_option maxHeartbeats 4000000
open PySem PySem.Spec PyProof.Rows L2 Ax
set_option hygiene false in
local macro_rules | `(tactic| tbr_iter "boot") => `(tactic| with_reducible first | exact Ax.b_len | exact Ax.b_all | exact Ax.b_any | exact Ax.b_sorted | exact Ax.b_isinstance | exact Ax.b_abs | exact Ax.b_max | exact Ax.b_min | exact Ax.b_sum | exact Ax.b_repr | exact Ax.b_iter | exact Ax.b_ord | exact Ax.b_chr | exact Ax.b_str | exact Ax.b_int | exact Ax.b_bool | exact Ax.b_tuple | exact Ax.b_list | exact Ax.b_dict | exact Ax.b_set | exact Ax.b_range | exact Ax.b_enumerate | exact Ax.b_zip)
set_option hygiene false in
local macro_rules | `(tactic| tbr_iter "vis") => `(tactic| first | exact Or.inl rfl | exact Or.inr (Or.inl rfl) | exact Or.inr (Or.inr rfl))
set_option hygiene false in
local macro_rules | `(tactic| tbr_iter "w") => `(tactic| first
  | refine wb_cons ?_
  | refine wb_nil ?_
  | refine ws_ret ?_
  | refine ws_if ?_
  | refine ws_sub ?_
  | refine wa_cons ?_
  | refine wa_nil ?_
  | refine w_int ?_
  | refine w_str ?_
  | refine w_bl ?_
  | refine w_non ?_
  | tbr_iter "var"
  | refine w_bin ?_
  | refine w_cmp ?_
  | refine w_chain ?_
  | refine w_and ?_
  | refine w_or ?_
  | refine w_one ?_
  | refine w_not ?_
  | refine w_ix ?_
  | refine w_ifExp ?_
  | refine w_tup ?_
  | refine w_lst ?_
  | refine wt_not ?_
  | refine wt_bool ?_
  | refine ww_and ?_
  | refine ww_and1 ?_
  | refine ww_or ?_
  | refine ww_or1 ?_
  | refine wt_cmp ?_
  | refine wt_val ?_
  | tbr_iter "call"
  | (refine w_glob (by tbr_iter "mg") ?_)
  | (refine w_callB (by tbr_iter "z") ?_)
  | (refine w_callTy (by tbr_iter "z") ?_)
  | (refine w_bltT (by tbr_iter "z") ?_))
set_option hygiene false in
local macro_rules | `(tactic| tbr_iter "blk") => `(tactic| first | exact blkOk_by (by dsimp only [cxOf, envOfC]; decide +kernel))
set_option hygiene false in
local macro_rules | `(tactic| tbr_iter "iff") => `(tactic| first
  | refine iteT ?_
  | refine iteF ?_
  | refine w_if2 (fun _ => ?_) (fun _ => ?_))
set_option hygiene false in
local macro_rules | `(tactic| tbr_iter "sc") => `(tactic| first | omega | decide)
set_option hygiene false in
local macro_rules | `(tactic| tbr_iter "at") => `(tactic| first | exact atI_0 | exact atI_1 | exact atI_2)
set_option hygiene false in
local macro_rules | `(tactic| tbr_iter "sql") => `(tactic| ((try dsimp only [L2.cxOf, L2.Cx.blk]); with_reducible first | assumption | exact SqL.of (by assumption)))
set_option hygiene false in
local macro_rules | `(tactic| tbr_iter "sqt") => `(tactic| ((try dsimp only [L2.cxOf, L2.Cx.blk]); with_reducible first | assumption | exact SqT.of (by assumption)))
set_option hygiene false in
local macro_rules | `(tactic| tbr_iter "v") => `(tactic| first
  | refine bv_add ?_
  | refine bv_sub ?_
  | ((with_reducible show BinV _ .Mult _ _ _ _); refine bv_mul (Or.inl ⟨by tbr_iter "sc", by tbr_iter "sc"⟩) ?_)
  | ((with_reducible show BinV _ .Mult _ _ _ _); refine bv_mul (Or.inr ⟨by tbr_iter "sc", by tbr_iter "sc"⟩) ?_)
  | ((with_reducible show BinV _ .Mod _ _ _ _); refine bv_mod (by tbr_iter "sc") ?_)
  | ((with_reducible show BinV _ .FloorDiv _ _ _ _); refine bv_fdiv ⟨by tbr_iter "sc", by tbr_iter "sc"⟩ ?_)
  | ((with_reducible show BinV _ .Pow _ _ _ _); refine bv_pow ⟨by decide, by decide +kernel⟩ ?_)
  | refine cv_lt ?_
  | refine cv_le ?_
  | refine cv_gt ?_
  | refine cv_ge ?_
  | ((with_reducible show CmpV _ .Eq _ _ _ _); refine cv_eq rfl ?_)
  | ((with_reducible show CmpV _ .NotEq _ _ _ _); refine cv_ne rfl ?_)
  | refine iv_list (by tbr_iter "sql") (by tbr_iter "at") ?_
  | refine iv_tup (by tbr_iter "sqt") (by tbr_iter "at") ?_
  | refine kv_len_seq (Or.inl (by tbr_iter "sql")) ?_
  | refine kv_len_seq (Or.inr (by tbr_iter "sqt")) ?_
  | refine kv_int ?_
  | refine kv_intB ?_
  | refine kv_abs ?_
  | refine kv_max2 rfl ?_
  | refine kv_min2 rfl ?_)
set_option hygiene false in
local macro_rules | `(tactic| tbr_iter "b") => `(tactic| first
  | refine ⟨_, rfl, iteT ?_⟩
  | refine ⟨_, rfl, iteF ?_⟩
  | refine iteT ?_
  | refine iteF ?_)
set_option hygiene false in
local macro_rules | `(tactic| tbr_iter "go") => `(tactic| repeat (first | tbr_iter "w" | tbr_iter "v" | tbr_iter "b"))
set_option hygiene false in
local macro_rules | `(tactic| tbr_iter "nof") => `(tactic| (intro d hd; cases d <;> first | rfl | exact absurd rfl (hd _)))
set_option hygiene false in
local macro_rules | `(tactic| tbr_iter "e1") => `(tactic| first | ((with_reducible show W _ _ _ _ _); tbr_iter "w") | ((with_reducible show WA _ _ _ _ _); tbr_iter "w") | ((with_reducible show WT _ _ _ _ _); tbr_iter "w") | ((with_reducible show WW _ _ _ _ _); tbr_iter "w") | tbr_iter "v")
set_option hygiene false in
local macro_rules | `(tactic| tbr_iter "ex") => `(tactic| repeat (tbr_iter "e1"))
set_option hygiene false in
local macro_rules | `(tactic| tbr_iter "z") => `(tactic| ((try dsimp only [L2.cxOf]); with_reducible first | exact T.z_IndexError | exact T.z_ValueError | exact T.z_abs | exact T.z_all | exact T.z_bool | exact T.z_classmethod | exact T.z_dict | exact T.z_enumerate | exact T.z_int | exact T.z_isinstance | exact T.z_iter | exact T.z_len | exact T.z_list | exact T.z_max | exact T.z_min | exact T.z_property | exact T.z_range | exact T.z_repr | exact T.z_set | exact T.z_sorted | exact T.z_str | exact T.z_tuple))
set_option hygiene false in
local macro_rules | `(tactic| tbr_iter "mg") => `(tactic| ((try dsimp only [L2.cxOf]); with_reducible first | exact T.c_ALPHABET | exact T.c_MAX_LETTERS | exact T.c_MAX_COLUMNS | exact T.c_MOST_VALUES))
namespace Ax
theorem all2_sub {α β : Type} {R : α → β → Prop} {xs ys : List α} (h : ys.Sublist xs) : ∀ {bs : List β}, All2 R xs bs → ∃ cs, All2 R ys cs ∧ cs.Sublist bs := by
  induction h with
  | slnil => intro bs h; exact ⟨bs, h, List.Sublist.refl _⟩
  | cons a _ ih =>
    intro bs h
    cases h with
    | cons h1 h2 =>
      obtain ⟨cs, h3, h4⟩ := ih h2
      exact ⟨cs, h3, h4.cons _⟩
  | cons_cons a _ ih =>
    intro bs h
    cases h with
    | cons h1 h2 =>
      obtain ⟨cs, h3, h4⟩ := ih h2
      exact ⟨_, .cons h1 h3, h4.cons_cons _⟩
theorem tabRows_is (raw : List (List Str)) : sortRows (onceL raw) = tabRows raw := (sortRows_is _).symm
theorem tabRows_congr {xs ys : List (List Str)} (h : ∀ r, r ∈ xs ↔ r ∈ ys) : tabRows xs = tabRows ys := by
  rw [← tabRows_is, ← tabRows_is]
  exact sortRows_perm ((List.perm_ext_iff_of_nodup (onceL_mem xs).1 (onceL_mem ys).1).mpr fun r => ((onceL_mem xs).2 r).trans ((h r).trans ((onceL_mem ys).2 r).symm))
def spPickOf (K : PySem.W.Frag) : Sp := fun vs H Q _ => ∃ (a l : Addr) (c : Nat) (rows : List (List Str)) (is : List Nat), vs = [.ref a, .ref l] ∧ TabIs K H a c rows ∧ SqL K H l (is.map fun i => V.int (i : Nat)) ∧ is.length ≤ 3 ∧ (∀ i ∈ is, i < c) ∧ c ≤ 3 ∧ (∀ r ∈ rows, NRow c r) ∧ rows.length ≤ 1000 ∧
  ∀ x H2, Same H H2 → H x = none → TabIs K H2 x is.length (tabRows (rows.map (pickR is))) → Q (.ref x) H2
/-- rows drawn of all rows over names -/
def spDrawnT (K : PySem.W.Frag) : Sp := fun vs H Q _ => ∃ (p l : Addr) (n c : Nat) (zs : List Str), vs = [.ref p, .ref l, .int c] ∧ H p = some (DiceO p n) ∧ n < 2 ^ 49 ∧ H l = some (.lst (zs.map V.str)) ∧ c ≤ 3 ∧ zs.length ≤ 6 ∧
  ∀ us rows q m H', All2 (RwV H') us rows → rows.Sublist (tupsL zs c) → Sm p H H' → H' p = some (DiceO p m) → m ≤ n + 300 → H q = none → H' q = some (.lst us) → Q (.ref q) H'
/-- the names in rows, rising -/
def spNamesOf (K : PySem.W.Frag) : Sp := fun vs H Q _ => ∃ (l : Addr) (us : List V) (rows : List (List Str)) (L : List Str), vs = [.ref l] ∧ H l = some (.lst us) ∧ All2 (RwV H) us rows ∧ rows.length ≤ 300 ∧ (∀ r ∈ rows, r.length ≤ 3) ∧ L.length < 64 ∧ (∀ r ∈ rows, ∀ z ∈ r, z ∈ L) ∧
  ∀ ys q H2, Same H H2 → H q = none → H2 q = some (.lst (ys.map V.str)) → sortedS ys = true → ys.Nodup → (∀ z, z ∈ ys ↔ z ∈ rows.flatten) → Q (.ref q) H2
section
variable {P : Program} {w : World} {K : PySem.W.Frag} {mg : Str → Option Value} {base : Heap}
set_option hygiene false in
local macro_rules | `(tactic| tbr_iter "var") => `(tactic| first | ((with_reducible show W _ (.Name "made" _) _ _ _); refine w_var 0 rfl (by tbr_iter "vis") rfl ?_) | ((with_reducible show W _ (.Name "spots" _) _ _ _); refine w_var 1 rfl (by tbr_iter "vis") rfl ?_))
set_option hygiene false in
local macro_rules | `(tactic| tbr_iter "set") => `(tactic| first | ((with_reducible show WB _ (.Assign [.Name "made" _] _ _ :: _) _ _ _); refine wb_cons (ws_set 0 ?_ rfl nd)) | ((with_reducible show WB _ (.Assign [.Name "spots" _] _ _ :: _) _ _ _); refine wb_cons (ws_set 1 ?_ rfl nd)))
theorem ok_law_picked (T : Txt K mg) : Callee P w K mg base "_law_picked" 9 ["made", "spots"] (spPickOf K) := by
  refine def_ok T.f__law_picked sc__law_picked (fun _ _ _ _ _ _ us hl => match us, hl with | [_, _], _ => rfl) (fun vs H Q E h => ?_) fun f cdv A outer s H vs Q E hr h => ?_
  · obtain ⟨a, l, c, rows, is, rfl, _⟩ := h; rfl
  obtain ⟨a, l, c, rows, is, rfl, ht, hl, h1, h2, h3, h4, h5, k⟩ := h
  have nd := sc__law_picked.nd
  have kc := T.kc_Table
  obtain ⟨dx, q1, d1, e1, _⟩ := id ht
  tbr_iter "go"
  refine ⟨_, rfl, ?_⟩
  rw [List.length_map]
  refine w_if2 (fun e => ?_) (fun e => ?_)
  · have e := of_decide_eq_true e
    have e0 : is = [] := List.eq_nil_of_length_eq_zero (by simpa using e)
    subst e0
    refine wb_cons (ws_ret (w_meth0 kc.c T.m_Table_picked (ok_picked T) hr passL ?_))
    tbr_iter "go"
    exact ⟨a, dx, _, rfl, e1, rfl, a, c, rows, [], rfl, ht, h1, h2, h3, h4, h5, k⟩
  · have e := of_decide_eq_false e
    have n0 : is.length ≠ 0 := fun z => e (by rw [z]; rfl)
    refine wb_nil ?_
    tbr_iter "go"
    refine ⟨_, rfl, ?_⟩
    rw [List.length_map]
    refine w_if2 (fun e2 => ?_) (fun e2 => ?_)
    · have e2 := of_decide_eq_true e2
      have l1 : is.length = 1 := by
        have e3 := V.int.inj e2
        omega
      match is, l1 with
      | [i], _ =>
      refine wb_cons (ws_ret (w_meth kc.c T.m_Table_picked (ok_picked T) hr passL ?_))
      tbr_iter "go"
      refine ⟨a, dx, _, rfl, e1, rfl, ?_⟩
      tbr_iter "go"
      exact ⟨a, c, rows, [i], rfl, ht, h1, h2, h3, h4, h5, k⟩
    · have e2 := of_decide_eq_false e2
      have n1 : is.length ≠ 1 := fun z => e2 (by rw [z]; rfl)
      refine wb_nil (wb_cons (ws_ret (w_ifExp ?_)))
      tbr_iter "go"
      refine ⟨_, rfl, ?_⟩
      rw [List.length_map]
      refine w_if2 (fun e3 => ?_) (fun e3 => ?_)
      · have l2 : is.length = 2 := by
          have e4 := V.int.inj (of_decide_eq_true e3)
          omega
        match is, l2 with
        | [i, j], _ =>
        refine w_meth kc.c T.m_Table_picked (ok_picked T) hr passL ?_
        tbr_iter "go"
        refine ⟨a, dx, _, rfl, e1, rfl, ?_⟩
        tbr_iter "go"
        exact ⟨a, c, rows, [i, j], rfl, ht, h1, h2, h3, h4, h5, k⟩
      · have l3 : is.length = 3 := by
          have e4 : is.length ≠ 2 := fun z => of_decide_eq_false e3 (by rw [z]; rfl)
          omega
        match is, l3 with
        | [i, j, m], _ =>
        refine w_meth kc.c T.m_Table_picked (ok_picked T) hr passL ?_
        tbr_iter "go"
        refine ⟨a, dx, _, rfl, e1, rfl, ?_⟩
        tbr_iter "go"
        exact ⟨a, c, rows, [i, j, m], rfl, ht, h1, h2, h3, h4, h5, k⟩
end
end Ax
end
section
set_option maxHeartbeats 4000000
open PySem PySem.Spec PyProof.Rows L2 Ax
set_option hygiene false in
local macro_rules | `(tactic| tbr_iter "boot") => `(tactic| with_reducible first | exact Ax.b_len | exact Ax.b_all | exact Ax.b_any | exact Ax.b_sorted | exact Ax.b_isinstance | exact Ax.b_abs | exact Ax.b_max | exact Ax.b_min | exact Ax.b_sum | exact Ax.b_repr | exact Ax.b_iter | exact Ax.b_ord | exact Ax.b_chr | exact Ax.b_str | exact Ax.b_int | exact Ax.b_bool | exact Ax.b_tuple | exact Ax.b_list | exact Ax.b_dict | exact Ax.b_set | exact Ax.b_range | exact Ax.b_enumerate | exact Ax.b_zip)
set_option hygiene false in
local macro_rules | `(tactic| tbr_iter "vis") => `(tactic| first | exact Or.inl rfl | exact Or.inr (Or.inl rfl) | exact Or.inr (Or.inr rfl))
set_option hygiene false in
local macro_rules | `(tactic| tbr_iter "w") => `(tactic| first
  | refine wb_cons ?_
  | refine wb_nil ?_
  | refine ws_ret ?_
  | refine ws_if ?_
  | refine ws_sub ?_
  | refine wa_cons ?_
  | refine wa_nil ?_
  | refine w_int ?_
  | refine w_str ?_
  | refine w_bl ?_
  | refine w_non ?_
  | tbr_iter "var"
  | refine w_bin ?_
  | refine w_cmp ?_
  | refine w_chain ?_
  | refine w_and ?_
  | refine w_or ?_
  | refine w_one ?_
  | refine w_not ?_
  | refine w_ix ?_
  | refine w_ifExp ?_
  | refine w_tup ?_
  | refine w_lst ?_
  | refine wt_not ?_
  | refine wt_bool ?_
  | refine ww_and ?_
  | refine ww_and1 ?_
  | refine ww_or ?_
  | refine ww_or1 ?_
  | refine wt_cmp ?_
  | refine wt_val ?_
  | tbr_iter "call"
  | (refine w_glob (by tbr_iter "mg") ?_)
  | (refine w_callB (by tbr_iter "z") ?_)
  | (refine w_callTy (by tbr_iter "z") ?_)
  | (refine w_bltT (by tbr_iter "z") ?_))
set_option hygiene false in
local macro_rules | `(tactic| tbr_iter "blk") => `(tactic| first | exact blkOk_by (by dsimp only [cxOf, envOfC]; decide +kernel))
set_option hygiene false in
local macro_rules | `(tactic| tbr_iter "iff") => `(tactic| first
  | refine iteT ?_
  | refine iteF ?_
  | refine w_if2 (fun _ => ?_) (fun _ => ?_))
set_option hygiene false in
local macro_rules | `(tactic| tbr_iter "sc") => `(tactic| first | omega | decide)
set_option hygiene false in
local macro_rules | `(tactic| tbr_iter "at") => `(tactic| first | exact atI_0 | exact atI_1 | exact atI_2)
set_option hygiene false in
local macro_rules | `(tactic| tbr_iter "sql") => `(tactic| ((try dsimp only [L2.cxOf, L2.Cx.blk]); with_reducible first | assumption | exact SqL.of (by assumption)))
set_option hygiene false in
local macro_rules | `(tactic| tbr_iter "sqt") => `(tactic| ((try dsimp only [L2.cxOf, L2.Cx.blk]); with_reducible first | assumption | exact SqT.of (by assumption)))
set_option hygiene false in
local macro_rules | `(tactic| tbr_iter "v") => `(tactic| first
  | refine bv_add ?_
  | refine bv_sub ?_
  | ((with_reducible show BinV _ .Mult _ _ _ _); refine bv_mul (Or.inl ⟨by tbr_iter "sc", by tbr_iter "sc"⟩) ?_)
  | ((with_reducible show BinV _ .Mult _ _ _ _); refine bv_mul (Or.inr ⟨by tbr_iter "sc", by tbr_iter "sc"⟩) ?_)
  | ((with_reducible show BinV _ .Mod _ _ _ _); refine bv_mod (by tbr_iter "sc") ?_)
  | ((with_reducible show BinV _ .FloorDiv _ _ _ _); refine bv_fdiv ⟨by tbr_iter "sc", by tbr_iter "sc"⟩ ?_)
  | ((with_reducible show BinV _ .Pow _ _ _ _); refine bv_pow ⟨by decide, by decide +kernel⟩ ?_)
  | refine cv_lt ?_
  | refine cv_le ?_
  | refine cv_gt ?_
  | refine cv_ge ?_
  | ((with_reducible show CmpV _ .Eq _ _ _ _); refine cv_eq rfl ?_)
  | ((with_reducible show CmpV _ .NotEq _ _ _ _); refine cv_ne rfl ?_)
  | refine iv_list (by tbr_iter "sql") (by tbr_iter "at") ?_
  | refine iv_tup (by tbr_iter "sqt") (by tbr_iter "at") ?_
  | refine kv_len_seq (Or.inl (by tbr_iter "sql")) ?_
  | refine kv_len_seq (Or.inr (by tbr_iter "sqt")) ?_
  | refine kv_int ?_
  | refine kv_intB ?_
  | refine kv_abs ?_
  | refine kv_max2 rfl ?_
  | refine kv_min2 rfl ?_)
set_option hygiene false in
local macro_rules | `(tactic| tbr_iter "b") => `(tactic| first
  | refine ⟨_, rfl, iteT ?_⟩
  | refine ⟨_, rfl, iteF ?_⟩
  | refine iteT ?_
  | refine iteF ?_)
set_option hygiene false in
local macro_rules | `(tactic| tbr_iter "go") => `(tactic| repeat (first | tbr_iter "w" | tbr_iter "v" | tbr_iter "b"))
set_option hygiene false in
local macro_rules | `(tactic| tbr_iter "nof") => `(tactic| (intro d hd; cases d <;> first | rfl | exact absurd rfl (hd _)))
set_option hygiene false in
local macro_rules | `(tactic| tbr_iter "e1") => `(tactic| first | ((with_reducible show W _ _ _ _ _); tbr_iter "w") | ((with_reducible show WA _ _ _ _ _); tbr_iter "w") | ((with_reducible show WT _ _ _ _ _); tbr_iter "w") | ((with_reducible show WW _ _ _ _ _); tbr_iter "w") | tbr_iter "v")
set_option hygiene false in
local macro_rules | `(tactic| tbr_iter "ex") => `(tactic| repeat (tbr_iter "e1"))
set_option hygiene false in
local macro_rules | `(tactic| tbr_iter "z") => `(tactic| ((try dsimp only [L2.cxOf]); with_reducible first | exact T.z_IndexError | exact T.z_ValueError | exact T.z_abs | exact T.z_all | exact T.z_bool | exact T.z_classmethod | exact T.z_dict | exact T.z_enumerate | exact T.z_int | exact T.z_isinstance | exact T.z_iter | exact T.z_len | exact T.z_list | exact T.z_max | exact T.z_min | exact T.z_property | exact T.z_range | exact T.z_repr | exact T.z_set | exact T.z_sorted | exact T.z_str | exact T.z_tuple))
set_option hygiene false in
local macro_rules | `(tactic| tbr_iter "mg") => `(tactic| ((try dsimp only [L2.cxOf]); with_reducible first | exact T.c_ALPHABET | exact T.c_MAX_LETTERS | exact T.c_MAX_COLUMNS | exact T.c_MOST_VALUES))
namespace Ax
section
variable {P : Program} {w : World} {K : PySem.W.Frag} {mg : Str → Option Value} {base : Heap}
set_option hygiene false in
local macro_rules | `(tactic| tbr_iter "var") => `(tactic| first | ((with_reducible show W _ (.Name "dice" _) _ _ _); refine w_var 0 rfl (by tbr_iter "vis") rfl ?_) | ((with_reducible show W _ (.Name "names" _) _ _ _); refine w_var 1 rfl (by tbr_iter "vis") rfl ?_) | ((with_reducible show W _ (.Name "columns" _) _ _ _); refine w_var 2 rfl (by tbr_iter "vis") rfl ?_))
set_option hygiene false in
local macro_rules | `(tactic| tbr_iter "set") => `(tactic| first | ((with_reducible show WB _ (.Assign [.Name "dice" _] _ _ :: _) _ _ _); refine wb_cons (ws_set 0 ?_ rfl nd)) | ((with_reducible show WB _ (.Assign [.Name "names" _] _ _ :: _) _ _ _); refine wb_cons (ws_set 1 ?_ rfl nd)) | ((with_reducible show WB _ (.Assign [.Name "columns" _] _ _ :: _) _ _ _); refine wb_cons (ws_set 2 ?_ rfl nd)))
theorem ok_law_drawn (T : Txt K mg) : Callee P w K mg base "_law_drawn_table" 4 ["dice", "names", "columns"] (spDrawnT K) := by
  refine def_ok T.f__law_drawn_table sc__law_drawn_table (fun _ _ _ _ _ _ us hl => match us, hl with | [_, _, _], _ => rfl) (fun vs H Q E h => ?_) fun f cdv A outer s H vs Q E hr h => ?_
  · obtain ⟨p, l, n, c, zs, rfl, _⟩ := h; rfl
  obtain ⟨p, l, n, c, zs, rfl, hp, hn, hl, hc, hz, k⟩ := h
  have nd := sc__law_drawn_table.nd
  refine wb_cons (ws_ret (w_call (ok_law_some T) hr passL ?_))
  tbr_iter "go"
  refine w_call (ok_law_tups T) (hr.mono (by decide)) passL ?_
  tbr_iter "go"
  refine ⟨l, c, zs, rfl, hl, hc, hz, fun us q H1 hu s1 n1 h1 => wa_cons (w_call (ok_law_pick T) (hr.mono (by decide)) passL ?_)⟩
  tbr_iter "go"
  have hul : us.length ≤ 216 := by
    rw [hu.len, tupsL_len]
    exact pow_le hz hc
  refine ⟨show 5 ≤ sizeLine by decide, fun pp H2 s2 n2 h2 => wa_nil ⟨p, pp, n, _, rfl, (s1.trans s2) _ _ hp, by omega, SqL.of h2, (fun e => by cases e), (show 5 < 2 ^ 20 by decide), fun v hv H3 s3 hp3 => wa_nil ?_⟩⟩
  have few : ∃ k : Int, v = .int k ∧ 0 < k ∧ k < 1000 := by
    simp only [List.mem_cons, List.not_mem_nil, or_false] at hv
    rcases hv with rfl | rfl | rfl | rfl | rfl
    · exact ⟨2, rfl, by decide, by decide⟩
    · exact ⟨3, rfl, by decide, by decide⟩
    · exact ⟨4, rfl, by decide, by decide⟩
    · exact ⟨1, rfl, by decide, by decide⟩
    · exact ⟨6, rfl, by decide, by decide⟩
  obtain ⟨few, rfl, f0, f1⟩ := few
  have sm3 : Sm p H H3 := (Sm.of hp (s1.trans s2)).trans s3
  refine ⟨p, q, n + 1, few, us, rfl, hp3, by omega, f0, f1, SqL.of (s3.lst (s2 _ _ h1)), by omega, fun ys q2 m H4 sub s4 hp4 hm n4 h4 => ?_⟩
  obtain ⟨rows, hr2, sr⟩ := all2_sub sub hu
  exact k ys rows q2 m H4 (rows_sl hr2 ((Sl.of s2).trans (s3.sl.trans s4.sl))) sr (sm3.trans s4) hp4 (by omega) (sm3.nul hp3 n4) h4
set_option hygiene false in
local macro_rules | `(tactic| tbr_iter "var") => `(tactic| first | ((with_reducible show W _ (.Name "rows" _) _ _ _); refine w_var 0 rfl (by tbr_iter "vis") rfl ?_) | ((with_reducible show W _ (.Name "found" _) _ _ _); refine w_var 1 rfl (by tbr_iter "vis") rfl ?_) | ((with_reducible show W _ (.Name "row" _) _ _ _); refine w_var 2 rfl (by tbr_iter "vis") rfl ?_))
set_option hygiene false in
local macro_rules | `(tactic| tbr_iter "set") => `(tactic| first | ((with_reducible show WB _ (.Assign [.Name "rows" _] _ _ :: _) _ _ _); refine wb_cons (ws_set 0 ?_ rfl nd)) | ((with_reducible show WB _ (.Assign [.Name "found" _] _ _ :: _) _ _ _); refine wb_cons (ws_set 1 ?_ rfl nd)) | ((with_reducible show WB _ (.Assign [.Name "row" _] _ _ :: _) _ _ _); refine wb_cons (ws_set 2 ?_ rfl nd)))
theorem ok_law_names (T : Txt K mg) : Callee P w K mg base "_law_names_of" 1 ["rows"] (spNamesOf K) := by
  refine def_ok T.f__law_names_of sc__law_names_of (fun _ _ _ _ _ _ us hl => match us, hl with | [_], _ => rfl) (fun vs H Q E h => ?_) fun f cdv A outer s H vs Q E hr h => ?_
  · obtain ⟨l, us, rows, L, rfl, _⟩ := h; rfl
  obtain ⟨l, us, rows, L, rfl, hl, hu, hrl, hr3, hL, hz, k⟩ := h
  have nd := sc__law_names_of.nd
  refine wb_cons (ws_set 1 (w_lst (wa_nil ⟨zero_line, fun pl H1 s1 n1 h1 => ?_⟩)) rfl nd)
  refine wb_cons (ws_for 2 (wi_val ?_) rfl nd (passes_of rfl))
  tbr_iter "go"
  have hul : us.length ≤ 300 := by rw [hu.len]; exact hrl
  refine itv_list (s1.seq (SqL.of hl)) ⟨us.length, _, _, walk_list (K := K) (xs := us), fun j σ Hd => ∃ y, σ = [some (.ref l), some (.ref pl), y] ∧ Same H Hd ∧ Hd pl = some (.lst (((rows.take j).flatten).map V.str)), ⟨none, rfl, s1, h1⟩, fun _ _ _ _ ⟨_, _, s, _⟩ => s.seq (SqL.of hl), ?_, ?_⟩
  · rintro j x σ Hd Hd' hj ⟨y, rfl, sd, hpl⟩ ⟨e, hx⟩
    subst e
    obtain ⟨r, er, b, rfl, hb⟩ := hu.at hx
    refine wb_cons (ws_expr (w_bm1 PySem.F.plainAttrs_list PySem.F.slot_list_extend PySem.F.type_list_extend ?_))
    tbr_iter "go"
    refine ⟨tyV_list ⟨pl, _, rfl, SqL.of hpl⟩, w_callTy T.z_list (wa_cons ?_)⟩
    tbr_iter "go"
    refine kv_listS (.inr (SqT.of (sd _ _ hb))) fun pc H4 s4 n4 h4 => ?_
    have e1 := flat_le (rows := rows.take j) (c := 3) fun r hr => hr3 r (List.mem_of_mem_take hr)
    have e2 : (rows.take j).length ≤ 300 := by rw [List.length_take]; exact Nat.le_trans (Nat.min_le_right _ _) hrl
    have e3 := hr3 r (List.mem_of_getElem? er)
    refine mv_extend (s4 _ _ hpl) h4 (Nat.le_trans (show _ ≤ 1000 by rw [List.length_map, List.length_map]; omega) (by decide)) (wb_nil ⟨_, rfl, same_upd (sd.trans s4) n1, ?_⟩)
    rw [upd_same, List.take_add_one, er, List.flatten_append, List.map_append]
    simp
  · rintro σ Hd ⟨y, rfl, sd, hpl⟩
    rw [hu.len, List.take_length] at hpl
    refine wb_cons (ws_ret (w_callB T.z_sorted (wa_cons (w_callTy T.z_set (wa_cons ?_)))))
    tbr_iter "go"
    have e1 := flat_le (rows := rows) (c := 3) hr3
    refine kv_setS rfl (SqL.of hpl) (by omega) fun q H5 s5 n5 h5 => wa_nil (kv_sortedSetS rfl h5 ⟨L, hL, fun z hm => ?_⟩ fun ys q2 H6 s6 n6 h6 so nd1 mem => ?_)
    · obtain ⟨r, hr, hzr⟩ := List.mem_flatten.mp hm
      exact hz r hr z hzr
    · exact k ys q2 H6 (sd.trans (s5.trans s6)) (same_nul (sd.trans s5) n6) h6 so nd1 mem
end
end Ax
end
section
set_option maxHeartbeats 4000000
open PySem PySem.Spec PyProof.Rows L2 Ax
set_option hygiene false in
local macro_rules | `(tactic| tbr_iter "boot") => `(tactic| with_reducible first | exact Ax.b_len | exact Ax.b_all | exact Ax.b_any | exact Ax.b_sorted | exact Ax.b_isinstance | exact Ax.b_abs | exact Ax.b_max | exact Ax.b_min | exact Ax.b_sum | exact Ax.b_repr | exact Ax.b_iter | exact Ax.b_ord | exact Ax.b_chr | exact Ax.b_str | exact Ax.b_int | exact Ax.b_bool | exact Ax.b_tuple | exact Ax.b_list | exact Ax.b_dict | exact Ax.b_set | exact Ax.b_range | exact Ax.b_enumerate | exact Ax.b_zip)
set_option hygiene false in
local macro_rules | `(tactic| tbr_iter "vis") => `(tactic| first | exact Or.inl rfl | exact Or.inr (Or.inl rfl) | exact Or.inr (Or.inr rfl))
set_option hygiene false in
local macro_rules | `(tactic| tbr_iter "w") => `(tactic| first
  | refine wb_cons ?_
  | refine wb_nil ?_
  | refine ws_ret ?_
  | refine ws_if ?_
  | refine ws_sub ?_
  | refine wa_cons ?_
  | refine wa_nil ?_
  | refine w_int ?_
  | refine w_str ?_
  | refine w_bl ?_
  | refine w_non ?_
  | tbr_iter "var"
  | refine w_bin ?_
  | refine w_cmp ?_
  | refine w_chain ?_
  | refine w_and ?_
  | refine w_or ?_
  | refine w_one ?_
  | refine w_not ?_
  | refine w_ix ?_
  | refine w_ifExp ?_
  | refine w_tup ?_
  | refine w_lst ?_
  | refine wt_not ?_
  | refine wt_bool ?_
  | refine ww_and ?_
  | refine ww_and1 ?_
  | refine ww_or ?_
  | refine ww_or1 ?_
  | refine wt_cmp ?_
  | refine wt_val ?_
  | tbr_iter "call"
  | (refine w_glob (by tbr_iter "mg") ?_)
  | (refine w_callB (by tbr_iter "z") ?_)
  | (refine w_callTy (by tbr_iter "z") ?_)
  | (refine w_bltT (by tbr_iter "z") ?_))
set_option hygiene false in
local macro_rules | `(tactic| tbr_iter "blk") => `(tactic| first | exact blkOk_by (by dsimp only [cxOf, envOfC]; decide +kernel))
set_option hygiene false in
local macro_rules | `(tactic| tbr_iter "iff") => `(tactic| first
  | refine iteT ?_
  | refine iteF ?_
  | refine w_if2 (fun _ => ?_) (fun _ => ?_))
set_option hygiene false in
local macro_rules | `(tactic| tbr_iter "sc") => `(tactic| first | omega | decide)
set_option hygiene false in
local macro_rules | `(tactic| tbr_iter "at") => `(tactic| first | exact atI_0 | exact atI_1 | exact atI_2)
set_option hygiene false in
local macro_rules | `(tactic| tbr_iter "sql") => `(tactic| ((try dsimp only [L2.cxOf, L2.Cx.blk]); with_reducible first | assumption | exact SqL.of (by assumption)))
set_option hygiene false in
local macro_rules | `(tactic| tbr_iter "sqt") => `(tactic| ((try dsimp only [L2.cxOf, L2.Cx.blk]); with_reducible first | assumption | exact SqT.of (by assumption)))
set_option hygiene false in
local macro_rules | `(tactic| tbr_iter "v") => `(tactic| first
  | refine bv_add ?_
  | refine bv_sub ?_
  | ((with_reducible show BinV _ .Mult _ _ _ _); refine bv_mul (Or.inl ⟨by tbr_iter "sc", by tbr_iter "sc"⟩) ?_)
  | ((with_reducible show BinV _ .Mult _ _ _ _); refine bv_mul (Or.inr ⟨by tbr_iter "sc", by tbr_iter "sc"⟩) ?_)
  | ((with_reducible show BinV _ .Mod _ _ _ _); refine bv_mod (by tbr_iter "sc") ?_)
  | ((with_reducible show BinV _ .FloorDiv _ _ _ _); refine bv_fdiv ⟨by tbr_iter "sc", by tbr_iter "sc"⟩ ?_)
  | ((with_reducible show BinV _ .Pow _ _ _ _); refine bv_pow ⟨by decide, by decide +kernel⟩ ?_)
  | refine cv_lt ?_
  | refine cv_le ?_
  | refine cv_gt ?_
  | refine cv_ge ?_
  | ((with_reducible show CmpV _ .Eq _ _ _ _); refine cv_eq rfl ?_)
  | ((with_reducible show CmpV _ .NotEq _ _ _ _); refine cv_ne rfl ?_)
  | refine iv_list (by tbr_iter "sql") (by tbr_iter "at") ?_
  | refine iv_tup (by tbr_iter "sqt") (by tbr_iter "at") ?_
  | refine kv_len_seq (Or.inl (by tbr_iter "sql")) ?_
  | refine kv_len_seq (Or.inr (by tbr_iter "sqt")) ?_
  | refine kv_int ?_
  | refine kv_intB ?_
  | refine kv_abs ?_
  | refine kv_max2 rfl ?_
  | refine kv_min2 rfl ?_)
set_option hygiene false in
local macro_rules | `(tactic| tbr_iter "b") => `(tactic| first
  | refine ⟨_, rfl, iteT ?_⟩
  | refine ⟨_, rfl, iteF ?_⟩
  | refine iteT ?_
  | refine iteF ?_)
set_option hygiene false in
local macro_rules | `(tactic| tbr_iter "go") => `(tactic| repeat (first | tbr_iter "w" | tbr_iter "v" | tbr_iter "b"))
set_option hygiene false in
local macro_rules | `(tactic| tbr_iter "nof") => `(tactic| (intro d hd; cases d <;> first | rfl | exact absurd rfl (hd _)))
set_option hygiene false in
local macro_rules | `(tactic| tbr_iter "e1") => `(tactic| first | ((with_reducible show W _ _ _ _ _); tbr_iter "w") | ((with_reducible show WA _ _ _ _ _); tbr_iter "w") | ((with_reducible show WT _ _ _ _ _); tbr_iter "w") | ((with_reducible show WW _ _ _ _ _); tbr_iter "w") | tbr_iter "v")
set_option hygiene false in
local macro_rules | `(tactic| tbr_iter "ex") => `(tactic| repeat (tbr_iter "e1"))
set_option hygiene false in
local macro_rules | `(tactic| tbr_iter "z") => `(tactic| ((try dsimp only [L2.cxOf]); with_reducible first | exact T.z_IndexError | exact T.z_ValueError | exact T.z_abs | exact T.z_all | exact T.z_bool | exact T.z_classmethod | exact T.z_dict | exact T.z_enumerate | exact T.z_int | exact T.z_isinstance | exact T.z_iter | exact T.z_len | exact T.z_list | exact T.z_max | exact T.z_min | exact T.z_property | exact T.z_range | exact T.z_repr | exact T.z_set | exact T.z_sorted | exact T.z_str | exact T.z_tuple))
set_option hygiene false in
local macro_rules | `(tactic| tbr_iter "mg") => `(tactic| ((try dsimp only [L2.cxOf]); with_reducible first | exact T.c_ALPHABET | exact T.c_MAX_LETTERS | exact T.c_MAX_COLUMNS | exact T.c_MOST_VALUES))
namespace Ax
def spNamesOfT (K : PySem.W.Frag) : Sp := fun vs H Q _ => ∃ (l : Addr) (us : List V) (rows : List (List Str)) (L : List Str), vs = [.ref l] ∧ H l = some (.tup us) ∧ All2 (RwV H) us rows ∧ rows.length ≤ 300 ∧ (∀ r ∈ rows, r.length ≤ 3) ∧ L.length < 64 ∧ (∀ r ∈ rows, ∀ z ∈ r, z ∈ L) ∧
  ∀ ys q H2, Same H H2 → H q = none → H2 q = some (.lst (ys.map V.str)) → sortedS ys = true → ys.Nodup → (∀ z, z ∈ ys ↔ z ∈ rows.flatten) → Q (.ref q) H2
/-- the rows with other names, each once, rising -/
def spMoved (K : PySem.W.Frag) : Sp := fun vs H Q _ => ∃ (l d : Addr) (us : List V) (rows : List (List Str)) (ns : List Str) (g : Str → Str) (c : Nat), vs = [.ref l, .ref d] ∧ H l = some (.lst us) ∧ All2 (RwV H) us rows ∧ rows.length < 64 ∧ (∀ r ∈ rows, r.length = c) ∧ c ≤ 3 ∧ H d = some (.dK (mapK ns g)) ∧ ns.Nodup ∧ (∀ r ∈ rows, ∀ z ∈ r, z ∈ ns) ∧
  ∀ us' q H2, Same H H2 → H2 q = some (.tup us') → All2 (RwV H2) us' (tabRows (rows.map fun r => r.map g)) → Q (.ref q) H2
section
variable {P : Program} {w : World} {K : PySem.W.Frag} {mg : Str → Option Value} {base : Heap}
set_option hygiene false in
local macro_rules | `(tactic| tbr_iter "var") => `(tactic| first | ((with_reducible show W _ (.Name "rows" _) _ _ _); refine w_var 0 rfl (by tbr_iter "vis") rfl ?_) | ((with_reducible show W _ (.Name "found" _) _ _ _); refine w_var 1 rfl (by tbr_iter "vis") rfl ?_) | ((with_reducible show W _ (.Name "row" _) _ _ _); refine w_var 2 rfl (by tbr_iter "vis") rfl ?_))
set_option hygiene false in
local macro_rules | `(tactic| tbr_iter "set") => `(tactic| first | ((with_reducible show WB _ (.Assign [.Name "rows" _] _ _ :: _) _ _ _); refine wb_cons (ws_set 0 ?_ rfl nd)) | ((with_reducible show WB _ (.Assign [.Name "found" _] _ _ :: _) _ _ _); refine wb_cons (ws_set 1 ?_ rfl nd)) | ((with_reducible show WB _ (.Assign [.Name "row" _] _ _ :: _) _ _ _); refine wb_cons (ws_set 2 ?_ rfl nd)))
theorem ok_law_namesT (T : Txt K mg) : Callee P w K mg base "_law_names_of" 1 ["rows"] (spNamesOfT K) := by
  refine def_ok T.f__law_names_of sc__law_names_of (fun _ _ _ _ _ _ us hl => match us, hl with | [_], _ => rfl) (fun vs H Q E h => ?_) fun f cdv A outer s H vs Q E hr h => ?_
  · obtain ⟨l, us, rows, L, rfl, _⟩ := h; rfl
  obtain ⟨l, us, rows, L, rfl, hl, hu, hrl, hr3, hL, hz, k⟩ := h
  have nd := sc__law_names_of.nd
  refine wb_cons (ws_set 1 (w_lst (wa_nil ⟨zero_line, fun pl H1 s1 n1 h1 => ?_⟩)) rfl nd)
  refine wb_cons (ws_for 2 (wi_val ?_) rfl nd (passes_of rfl))
  tbr_iter "go"
  have hul : us.length ≤ 300 := by rw [hu.len]; exact hrl
  refine itv_tup (same_tup s1 (SqT.of hl)) ⟨us.length, _, _, walk_tup (K := K) (xs := us), fun j σ Hd => ∃ y, σ = [some (.ref l), some (.ref pl), y] ∧ Same H Hd ∧ Hd pl = some (.lst (((rows.take j).flatten).map V.str)), ⟨none, rfl, s1, h1⟩, fun _ _ _ _ ⟨_, _, s, _⟩ => same_tup s (SqT.of hl), ?_, ?_⟩
  · rintro j x σ Hd Hd' hj ⟨y, rfl, sd, hpl⟩ ⟨e, hx⟩
    subst e
    obtain ⟨r, er, b, rfl, hb⟩ := hu.at hx
    refine wb_cons (ws_expr (w_bm1 PySem.F.plainAttrs_list PySem.F.slot_list_extend PySem.F.type_list_extend ?_))
    tbr_iter "go"
    refine ⟨tyV_list ⟨pl, _, rfl, SqL.of hpl⟩, w_callTy T.z_list (wa_cons ?_)⟩
    tbr_iter "go"
    refine kv_listS (.inr (SqT.of (sd _ _ hb))) fun pc H4 s4 n4 h4 => ?_
    have e1 := flat_le (rows := rows.take j) (c := 3) fun r hr => hr3 r (List.mem_of_mem_take hr)
    have e2 : (rows.take j).length ≤ 300 := by rw [List.length_take]; exact Nat.le_trans (Nat.min_le_right _ _) hrl
    have e3 := hr3 r (List.mem_of_getElem? er)
    refine mv_extend (s4 _ _ hpl) h4 (Nat.le_trans (show _ ≤ 1000 by rw [List.length_map, List.length_map]; omega) (by decide)) (wb_nil ⟨_, rfl, same_upd (sd.trans s4) n1, ?_⟩)
    rw [upd_same, List.take_add_one, er, List.flatten_append, List.map_append]
    simp
  · rintro σ Hd ⟨y, rfl, sd, hpl⟩
    rw [hu.len, List.take_length] at hpl
    refine wb_cons (ws_ret (w_callB T.z_sorted (wa_cons (w_callTy T.z_set (wa_cons ?_)))))
    tbr_iter "go"
    have e1 := flat_le (rows := rows) (c := 3) hr3
    refine kv_setS rfl (SqL.of hpl) (by omega) fun q H5 s5 n5 h5 => wa_nil (kv_sortedSetS rfl h5 ⟨L, hL, fun z hm => ?_⟩ fun ys q2 H6 s6 n6 h6 so nd1 mem => ?_)
    · obtain ⟨r, hr, hzr⟩ := List.mem_flatten.mp hm
      exact hz r hr z hzr
    · exact k ys q2 H6 (sd.trans (s5.trans s6)) (same_nul (sd.trans s5) n6) h6 so nd1 mem
set_option hygiene false in
local macro_rules | `(tactic| tbr_iter "var") => `(tactic| first | ((with_reducible show W _ (.Name "rows" _) _ _ _); refine w_var 0 rfl (by tbr_iter "vis") rfl ?_) | ((with_reducible show W _ (.Name "mapping" _) _ _ _); refine w_var 1 rfl (by tbr_iter "vis") rfl ?_) | ((with_reducible show W _ (.Name "row" _) _ _ _); refine w_var 2 rfl (by tbr_iter "vis") rfl ?_) | ((with_reducible show W _ (.Name "name" _) _ _ _); refine w_var 3 rfl (by tbr_iter "vis") rfl ?_))
set_option hygiene false in
local macro_rules | `(tactic| tbr_iter "set") => `(tactic| first | ((with_reducible show WB _ (.Assign [.Name "rows" _] _ _ :: _) _ _ _); refine wb_cons (ws_set 0 ?_ rfl nd)) | ((with_reducible show WB _ (.Assign [.Name "mapping" _] _ _ :: _) _ _ _); refine wb_cons (ws_set 1 ?_ rfl nd)) | ((with_reducible show WB _ (.Assign [.Name "row" _] _ _ :: _) _ _ _); refine wb_cons (ws_set 2 ?_ rfl nd)) | ((with_reducible show WB _ (.Assign [.Name "name" _] _ _ :: _) _ _ _); refine wb_cons (ws_set 3 ?_ rfl nd)))
theorem ok_law_moved (T : Txt K mg) : Callee P w K mg base "_law_moved" 1 ["rows", "mapping"] (spMoved K) := by
  refine def_ok T.f__law_moved sc__law_moved (fun _ _ _ _ _ _ us hl => match us, hl with | [_, _], _ => rfl) (fun vs H Q E h => ?_) fun f cdv A outer s H vs Q E hr h => ?_
  · obtain ⟨l, d, us, rows, ns, g, c, rfl, _⟩ := h; rfl
  obtain ⟨l, d, us, rows, ns, g, c, rfl, hl, hur, hrl, hc, hc3, hd, hnd, hz, k⟩ := h
  have nd := sc__law_moved.nd
  have hu := room64 hr
  have mget := mapK_get (g := g) hnd
  refine wb_cons (ws_ret (w_callTy T.z_tuple (wa_cons (w_callB T.z_sorted (wa_cons (w_callTy T.z_set (wa_cons ?_)))))))
  refine w_lcI [("row", 2)] (gName 2) tYes (fun _ _ _ _ _ => pg_name nd rfl (Or.inl rfl) (Or.inr rfl)) (fun _ _ _ _ _ => pts_nil) rfl nd (by tbr_iter "blk") (lcR_I mono_name (wi_val ?_))
  tbr_iter "go"
  refine itv_list (SqL.of hl) ⟨_, _, itN_seq (seqIt_list (SqL.of hl)), by rw [hur.len]; exact Nat.lt_trans hrl (by decide), RwR (rows.map fun r => r.map g), fun D i y Ha Hb _ _ h b => h.bt b, fun D i v H6 hi2 s6 nD hacc hv => ?_, fun q ys H6 s6 n6 hq hyl hR => ?_⟩
  · have hv : us[i]? = some v := hv
    obtain ⟨r, er, b, rfl, hb⟩ := hur.at hv
    obtain ⟨acc, hacc⟩ := hacc
    have rm := List.mem_of_getElem? er
    refine ⟨rfl, fun _ _ _ _ _ => w_callTy T.z_tuple (wa_cons ?_)⟩
    refine w_lcI [("name", 3)] (gName 3) tYes (fun _ _ _ _ _ => pg_name nd rfl (Or.inl rfl) (Or.inr rfl)) (fun _ _ _ _ _ => pts_nil) rfl nd (blkOk_by (by kernel_rfl)) (lcC_I mono_name mono_yes (wi_val ?_))
    tbr_iter "go"
    have hb6 := s6 _ _ hb
    refine itv_tup (SqT.of hb6) ⟨_, _, itN_seq (seqIt_tup (SqT.of hb6)), by rw [List.length_map, hc r rm]; exact Nat.lt_of_le_of_lt hc3 (by decide), fun i => r[i]?.map fun k => V.str (g k), fun m x H7 hm s7 hx => ?_, fun D2 H7 s7 n7 h7 => ?_⟩
    · have hx : (r.map V.str)[m]? = some x := hx
      rw [List.getElem?_map] at hx
      obtain ⟨z, ez, rfl⟩ := Option.map_eq_some_iff.mp hx
      refine ⟨rfl, Same.refl _, fun _ _ _ _ _ => ?_⟩
      tbr_iter "go"
      refine iv_dK (k := .inr z) hu (.inl ((s6.trans s7) _ _ hd)) (mget z (hz r rm z (List.mem_of_getElem? ez))) ⟨Same.refl _, ?_⟩
      show (r[m]?.map _) = _
      rw [ez]
      rfl
    · rw [List.length_map, fm_get] at h7
      refine wa_nil (kv_tupleL (SqL.of h7) fun q2 H8 s8 n8 h8 => ⟨s7.trans s8, q2, r.map g, by rw [List.getElem?_map, er]; rfl, rfl, ne_of_none' (s7 _ _ hacc) n8, ?_⟩)
      rw [h8, List.map_map]
      rfl
  · have hr6 := rwR_rows (by rw [hyl, hur.len, List.length_map]) hR
    refine wa_nil (kv_setT rfl hu (SqL.of hq) hr6 (by rw [List.length_map]; exact hrl) fun q2 H7 s7 n7 h7 => wa_nil (kv_sortedSetT (n := c) rfl hu h7 (fun r hr => ?_) fun q3 H8 us3 s8 n8 h8 hu8 => wa_nil (kv_tupleL (SqL.of h8) fun q4 H9 s9 n9 h9 => ?_)))
    · obtain ⟨r0, h0, rfl⟩ := List.mem_map.mp hr
      rw [List.length_map]
      exact hc r0 h0
    · refine k us3 q4 H9 (s6.trans (s7.trans (s8.trans s9))) h9 ?_
      rw [← tabRows_is]
      exact rows_sl hu8 (Sl.of s9)
end
end Ax
end
section
set_option maxHeartbeats 4000000
open PySem PySem.Spec PyProof.Rows L2 Ax
set_option hygiene false in
local macro_rules | `(tactic| tbr_iter "boot") => `(tactic| with_reducible first | exact Ax.b_len | exact Ax.b_all | exact Ax.b_any | exact Ax.b_sorted | exact Ax.b_isinstance | exact Ax.b_abs | exact Ax.b_max | exact Ax.b_min | exact Ax.b_sum | exact Ax.b_repr | exact Ax.b_iter | exact Ax.b_ord | exact Ax.b_chr | exact Ax.b_str | exact Ax.b_int | exact Ax.b_bool | exact Ax.b_tuple | exact Ax.b_list | exact Ax.b_dict | exact Ax.b_set | exact Ax.b_range | exact Ax.b_enumerate | exact Ax.b_zip)
set_option hygiene false in
local macro_rules | `(tactic| tbr_iter "vis") => `(tactic| first | exact Or.inl rfl | exact Or.inr (Or.inl rfl) | exact Or.inr (Or.inr rfl))
set_option hygiene false in
local macro_rules | `(tactic| tbr_iter "w") => `(tactic| first
  | refine wb_cons ?_
  | refine wb_nil ?_
  | refine ws_ret ?_
  | refine ws_if ?_
  | refine ws_sub ?_
  | refine wa_cons ?_
  | refine wa_nil ?_
  | refine w_int ?_
  | refine w_str ?_
  | refine w_bl ?_
  | refine w_non ?_
  | tbr_iter "var"
  | refine w_bin ?_
  | refine w_cmp ?_
  | refine w_chain ?_
  | refine w_and ?_
  | refine w_or ?_
  | refine w_one ?_
  | refine w_not ?_
  | refine w_ix ?_
  | refine w_ifExp ?_
  | refine w_tup ?_
  | refine w_lst ?_
  | refine wt_not ?_
  | refine wt_bool ?_
  | refine ww_and ?_
  | refine ww_and1 ?_
  | refine ww_or ?_
  | refine ww_or1 ?_
  | refine wt_cmp ?_
  | refine wt_val ?_
  | tbr_iter "call"
  | (refine w_glob (by tbr_iter "mg") ?_)
  | (refine w_callB (by tbr_iter "z") ?_)
  | (refine w_callTy (by tbr_iter "z") ?_)
  | (refine w_bltT (by tbr_iter "z") ?_))
set_option hygiene false in
local macro_rules | `(tactic| tbr_iter "blk") => `(tactic| first | exact blkOk_by (by dsimp only [cxOf, envOfC]; decide +kernel))
set_option hygiene false in
local macro_rules | `(tactic| tbr_iter "iff") => `(tactic| first
  | refine iteT ?_
  | refine iteF ?_
  | refine w_if2 (fun _ => ?_) (fun _ => ?_))
set_option hygiene false in
local macro_rules | `(tactic| tbr_iter "sc") => `(tactic| first | omega | decide)
set_option hygiene false in
local macro_rules | `(tactic| tbr_iter "at") => `(tactic| first | exact atI_0 | exact atI_1 | exact atI_2)
set_option hygiene false in
local macro_rules | `(tactic| tbr_iter "sql") => `(tactic| ((try dsimp only [L2.cxOf, L2.Cx.blk]); with_reducible first | assumption | exact SqL.of (by assumption)))
set_option hygiene false in
local macro_rules | `(tactic| tbr_iter "sqt") => `(tactic| ((try dsimp only [L2.cxOf, L2.Cx.blk]); with_reducible first | assumption | exact SqT.of (by assumption)))
set_option hygiene false in
local macro_rules | `(tactic| tbr_iter "v") => `(tactic| first
  | refine bv_add ?_
  | refine bv_sub ?_
  | ((with_reducible show BinV _ .Mult _ _ _ _); refine bv_mul (Or.inl ⟨by tbr_iter "sc", by tbr_iter "sc"⟩) ?_)
  | ((with_reducible show BinV _ .Mult _ _ _ _); refine bv_mul (Or.inr ⟨by tbr_iter "sc", by tbr_iter "sc"⟩) ?_)
  | ((with_reducible show BinV _ .Mod _ _ _ _); refine bv_mod (by tbr_iter "sc") ?_)
  | ((with_reducible show BinV _ .FloorDiv _ _ _ _); refine bv_fdiv ⟨by tbr_iter "sc", by tbr_iter "sc"⟩ ?_)
  | ((with_reducible show BinV _ .Pow _ _ _ _); refine bv_pow ⟨by decide, by decide +kernel⟩ ?_)
  | refine cv_lt ?_
  | refine cv_le ?_
  | refine cv_gt ?_
  | refine cv_ge ?_
  | ((with_reducible show CmpV _ .Eq _ _ _ _); refine cv_eq rfl ?_)
  | ((with_reducible show CmpV _ .NotEq _ _ _ _); refine cv_ne rfl ?_)
  | refine iv_list (by tbr_iter "sql") (by tbr_iter "at") ?_
  | refine iv_tup (by tbr_iter "sqt") (by tbr_iter "at") ?_
  | refine kv_len_seq (Or.inl (by tbr_iter "sql")) ?_
  | refine kv_len_seq (Or.inr (by tbr_iter "sqt")) ?_
  | refine kv_int ?_
  | refine kv_intB ?_
  | refine kv_abs ?_
  | refine kv_max2 rfl ?_
  | refine kv_min2 rfl ?_)
set_option hygiene false in
local macro_rules | `(tactic| tbr_iter "b") => `(tactic| first
  | refine ⟨_, rfl, iteT ?_⟩
  | refine ⟨_, rfl, iteF ?_⟩
  | refine iteT ?_
  | refine iteF ?_)
set_option hygiene false in
local macro_rules | `(tactic| tbr_iter "go") => `(tactic| repeat (first | tbr_iter "w" | tbr_iter "v" | tbr_iter "b"))
set_option hygiene false in
local macro_rules | `(tactic| tbr_iter "nof") => `(tactic| (intro d hd; cases d <;> first | rfl | exact absurd rfl (hd _)))
set_option hygiene false in
local macro_rules | `(tactic| tbr_iter "e1") => `(tactic| first | ((with_reducible show W _ _ _ _ _); tbr_iter "w") | ((with_reducible show WA _ _ _ _ _); tbr_iter "w") | ((with_reducible show WT _ _ _ _ _); tbr_iter "w") | ((with_reducible show WW _ _ _ _ _); tbr_iter "w") | tbr_iter "v")
set_option hygiene false in
local macro_rules | `(tactic| tbr_iter "ex") => `(tactic| repeat (tbr_iter "e1"))
set_option hygiene false in
local macro_rules | `(tactic| tbr_iter "z") => `(tactic| ((try dsimp only [L2.cxOf]); with_reducible first | exact T.z_IndexError | exact T.z_ValueError | exact T.z_abs | exact T.z_all | exact T.z_bool | exact T.z_classmethod | exact T.z_dict | exact T.z_enumerate | exact T.z_int | exact T.z_isinstance | exact T.z_iter | exact T.z_len | exact T.z_list | exact T.z_max | exact T.z_min | exact T.z_property | exact T.z_range | exact T.z_repr | exact T.z_set | exact T.z_sorted | exact T.z_str | exact T.z_tuple))
set_option hygiene false in
local macro_rules | `(tactic| tbr_iter "mg") => `(tactic| ((try dsimp only [L2.cxOf]); with_reducible first | exact T.c_ALPHABET | exact T.c_MAX_LETTERS | exact T.c_MAX_COLUMNS | exact T.c_MOST_VALUES))
namespace Ax
/-! ### what repr shows of a table -/
def repD (c : Nat) (rows : List (List Str)) : PyData := .list [.int (c : Int), rowsD rows]
theorem alpha_lt : ∀ c ∈ alpha.cps.toList, c < 16 ^ 8 := by decide +kernel
theorem name_cps {z : Str} (h : isNameS z = true) : (∀ c ∈ z.cps.toList, c < 16 ^ 8) ∧ z.cps.size ≤ 8 := by
  unfold isNameS at h
  simp only [Bool.and_eq_true, decide_eq_true_eq, List.all_eq_true] at h
  exact ⟨fun c hc => alpha_lt c (h.2.2 c hc), h.2.1⟩
theorem showAll_strs : ∀ r : List Str, PyData.showableAll (r.map .str) = true
  | [] => rfl
  | z :: r => by
    show (PyData.showable (.str z) && PyData.showableAll (r.map .str)) = true
    rw [showAll_strs r]
    rfl
theorem showAll_rows : ∀ rows : List (List Str), PyData.showableAll (rows.map rowD) = true
  | [] => rfl
  | r :: rows => by
    show (PyData.showableAll (r.map .str) && PyData.showableAll (rows.map rowD)) = true
    rw [showAll_rows rows, showAll_strs]
    rfl
theorem short_strs : ∀ {r : List Str}, (∀ z ∈ r, isNameS z = true) → PyData.leavesShortAll 8 (r.map .str) = true ∧ PyData.bulkAll (r.map .str) ≤ 9 * r.length
  | [], _ => ⟨rfl, Nat.le_refl _⟩
  | z :: r, h => by
    obtain ⟨h1, h2⟩ := short_strs fun y hy => h y (List.mem_cons_of_mem _ hy)
    obtain ⟨h3, h4⟩ := name_cps (h z List.mem_cons_self)
    refine ⟨?_, ?_⟩
    · show (PyData.leavesShort 8 (.str z) && PyData.leavesShortAll 8 (r.map .str)) = true
      rw [h1, Bool.and_true]
      show (z.cps.toList.all fun c => decide (c < 16 ^ 8)) = true
      exact List.all_eq_true.mpr fun c hc => decide_eq_true (h3 c hc)
    · show z.cps.size + 1 + PyData.bulkAll (r.map .str) ≤ 9 * (r.length + 1)
      omega
theorem short_rows {c : Nat} (hc : c ≤ 3) : ∀ {rows : List (List Str)}, (∀ r ∈ rows, NRow c r) → PyData.leavesShortAll 8 (rows.map rowD) = true ∧ PyData.bulkAll (rows.map rowD) ≤ 28 * rows.length
  | [], _ => ⟨rfl, Nat.le_refl _⟩
  | r :: rows, h => by
    obtain ⟨h1, h2⟩ := short_rows hc fun y hy => h y (List.mem_cons_of_mem _ hy)
    obtain ⟨l, n⟩ := h r List.mem_cons_self
    obtain ⟨h3, h4⟩ := short_strs n
    refine ⟨?_, ?_⟩
    · show (PyData.leavesShortAll 8 (r.map .str) && PyData.leavesShortAll 8 (rows.map rowD)) = true
      rw [h1, h3]
      rfl
    · show PyData.bulkAll (r.map .str) + 1 + PyData.bulkAll (rows.map rowD) ≤ 28 * (rows.length + 1)
      omega
theorem int_short : ∀ c, c ≤ 3 → (PyData.shown (.int (c : Nat))).length ≤ 8 := by decide +kernel
theorem rep_fine {c : Nat} {rows : List (List Str)} (hc : c ≤ 3) (h : ∀ r ∈ rows, NRow c r) (hl : rows.length ≤ 300) : (repD c rows).showable = true ∧ (repD c rows).hasDict = false ∧ (repD c rows).depth ≤ 60 ∧ (repD c rows).shown.length ≤ sizeLine := by
  obtain ⟨s1, s2⟩ := short_rows hc h
  refine ⟨?_, ?_, ?_, ?_⟩
  · show (decide ((c : Int).natAbs.log2 < 1920) && (PyData.showableAll (rows.map rowD) && true)) = true
    rw [showAll_rows]
    have e : (c : Int).natAbs = c := by omega
    rw [e]
    have h2 : ∀ c, c ≤ 3 → c.log2 < 1920 := by decide +kernel
    rw [decide_eq_true (h2 c hc)]
    rfl
  · refine PyData.hasDict_of_canLay _ ?_
    show (true && (PyData.canLayAll0 (rows.map rowD) && true)) = true
    rw [lay_rows h]
    rfl
  · have := depth_rows rows
    show max 0 (max (PyData.depthAll (rows.map rowD) + 1) 0) + 1 ≤ 60
    simp
    omega
  · refine PyData.shown_fits_bulk (B := 8) (by decide) (by decide) ?_ ?_
    · show (decide ((PyData.shown (.int (c : Int))).length ≤ 8) && (PyData.leavesShortAll 8 (rows.map rowD) && true)) = true
      rw [s1, decide_eq_true (int_short c hc)]
      rfl
    · show 0 + 1 + (PyData.bulkAll (rows.map rowD) + 1 + 0) ≤ 2 ^ 20
      omega
theorem dp_rep {K : PySem.W.Frag} {H : Hp} {b q : Addr} {c : Nat} {us : List V} {rows : List (List Str)} (hb : H b = some (.lst [.int c, .ref q])) (hq : H q = some (.tup us)) (hu : All2 (RwV H) us rows) : Dp K H (.ref b) (repD c rows) :=
  .lst (SqL.of hb) (.cons (.int _) (.cons (dp_rows hq hu) .nil))
theorem TabIs.sm {K : PySem.W.Frag} {H H' : Hp} {p a : Addr} {c : Nat} {rows : List (List Str)} (h : TabIs K H a c rows) (s : Sm p H H') : TabIs K H' a c rows := by
  obtain ⟨m, hm⟩ := s.at0
  obtain ⟨dx, q, d, h1, ⟨vs, h2, h3⟩, kvs, h4, h5⟩ := h
  exact ⟨dx, q, d, s.keep _ _ h1 (fun z => by rw [z, hm] at h1; cases h1), ⟨vs, s.tupO h2, rows_sl h3 s.sl⟩, kvs, s.keep _ _ h4 (fun z => by rw [z, hm] at h4; cases h4), h5⟩
theorem mem_map_tab {f : List Str → List Str} {raw : List (List Str)} : ∀ r, r ∈ (tabRows raw).map f ↔ r ∈ raw.map f := fun r => by
  rw [List.mem_map, List.mem_map]
  exact ⟨fun ⟨x, hx, e⟩ => ⟨x, tabRows_mem.mp hx, e⟩, fun ⟨x, hx, e⟩ => ⟨x, tabRows_mem.mpr hx, e⟩⟩
theorem tab_map {f : List Str → List Str} (raw : List (List Str)) : tabRows ((tabRows raw).map f) = tabRows (raw.map f) := tabRows_congr mem_map_tab
theorem pick_all {c : Nat} {r : List Str} (h : r.length = c) : pickR (List.range c) r = r := by
  refine List.ext_getElem? fun i => ?_
  unfold pickR
  rw [List.getElem?_map]
  by_cases hi : i < c
  · rw [List.getElem?_range hi, List.getElem?_eq_getElem (by omega)]
    show some (r.getD i "") = _
    rw [List.getD_eq_getElem?_getD, List.getElem?_eq_getElem (by omega)]
    rfl
  · rw [List.getElem?_eq_none (by simpa using hi), List.getElem?_eq_none (by omega)]
    rfl
theorem tab_row {c : Nat} {raw : List (List Str)} (h : ∀ r ∈ raw, NRow c r) : ∀ r ∈ tabRows raw, NRow c r := fun r hr => h r (tabRows_mem.mp hr)
end Ax
end
section
set_option maxHeartbeats 4000000
open PySem PySem.Spec PyProof.Rows L2 Ax
set_option hygiene false in
local macro_rules | `(tactic| tbr_iter "boot") => `(tactic| with_reducible first | exact Ax.b_len | exact Ax.b_all | exact Ax.b_any | exact Ax.b_sorted | exact Ax.b_isinstance | exact Ax.b_abs | exact Ax.b_max | exact Ax.b_min | exact Ax.b_sum | exact Ax.b_repr | exact Ax.b_iter | exact Ax.b_ord | exact Ax.b_chr | exact Ax.b_str | exact Ax.b_int | exact Ax.b_bool | exact Ax.b_tuple | exact Ax.b_list | exact Ax.b_dict | exact Ax.b_set | exact Ax.b_range | exact Ax.b_enumerate | exact Ax.b_zip)
set_option hygiene false in
local macro_rules | `(tactic| tbr_iter "vis") => `(tactic| first | exact Or.inl rfl | exact Or.inr (Or.inl rfl) | exact Or.inr (Or.inr rfl))
set_option hygiene false in
local macro_rules | `(tactic| tbr_iter "w") => `(tactic| first
  | refine wb_cons ?_
  | refine wb_nil ?_
  | refine ws_ret ?_
  | refine ws_if ?_
  | refine ws_sub ?_
  | refine wa_cons ?_
  | refine wa_nil ?_
  | refine w_int ?_
  | refine w_str ?_
  | refine w_bl ?_
  | refine w_non ?_
  | tbr_iter "var"
  | refine w_bin ?_
  | refine w_cmp ?_
  | refine w_chain ?_
  | refine w_and ?_
  | refine w_or ?_
  | refine w_one ?_
  | refine w_not ?_
  | refine w_ix ?_
  | refine w_ifExp ?_
  | refine w_tup ?_
  | refine w_lst ?_
  | refine wt_not ?_
  | refine wt_bool ?_
  | refine ww_and ?_
  | refine ww_and1 ?_
  | refine ww_or ?_
  | refine ww_or1 ?_
  | refine wt_cmp ?_
  | refine wt_val ?_
  | tbr_iter "call"
  | (refine w_glob (by tbr_iter "mg") ?_)
  | (refine w_callB (by tbr_iter "z") ?_)
  | (refine w_callTy (by tbr_iter "z") ?_)
  | (refine w_bltT (by tbr_iter "z") ?_))
set_option hygiene false in
local macro_rules | `(tactic| tbr_iter "blk") => `(tactic| first | exact blkOk_by (by dsimp only [cxOf, envOfC]; decide +kernel))
set_option hygiene false in
local macro_rules | `(tactic| tbr_iter "iff") => `(tactic| first
  | refine iteT ?_
  | refine iteF ?_
  | refine w_if2 (fun _ => ?_) (fun _ => ?_))
set_option hygiene false in
local macro_rules | `(tactic| tbr_iter "sc") => `(tactic| first | omega | decide)
set_option hygiene false in
local macro_rules | `(tactic| tbr_iter "at") => `(tactic| first | exact atI_0 | exact atI_1 | exact atI_2)
set_option hygiene false in
local macro_rules | `(tactic| tbr_iter "sql") => `(tactic| ((try dsimp only [L2.cxOf, L2.Cx.blk]); with_reducible first | assumption | exact SqL.of (by assumption)))
set_option hygiene false in
local macro_rules | `(tactic| tbr_iter "sqt") => `(tactic| ((try dsimp only [L2.cxOf, L2.Cx.blk]); with_reducible first | assumption | exact SqT.of (by assumption)))
set_option hygiene false in
local macro_rules | `(tactic| tbr_iter "v") => `(tactic| first
  | refine bv_add ?_
  | refine bv_sub ?_
  | ((with_reducible show BinV _ .Mult _ _ _ _); refine bv_mul (Or.inl ⟨by tbr_iter "sc", by tbr_iter "sc"⟩) ?_)
  | ((with_reducible show BinV _ .Mult _ _ _ _); refine bv_mul (Or.inr ⟨by tbr_iter "sc", by tbr_iter "sc"⟩) ?_)
  | ((with_reducible show BinV _ .Mod _ _ _ _); refine bv_mod (by tbr_iter "sc") ?_)
  | ((with_reducible show BinV _ .FloorDiv _ _ _ _); refine bv_fdiv ⟨by tbr_iter "sc", by tbr_iter "sc"⟩ ?_)
  | ((with_reducible show BinV _ .Pow _ _ _ _); refine bv_pow ⟨by decide, by decide +kernel⟩ ?_)
  | refine cv_lt ?_
  | refine cv_le ?_
  | refine cv_gt ?_
  | refine cv_ge ?_
  | ((with_reducible show CmpV _ .Eq _ _ _ _); refine cv_eq rfl ?_)
  | ((with_reducible show CmpV _ .NotEq _ _ _ _); refine cv_ne rfl ?_)
  | refine iv_list (by tbr_iter "sql") (by tbr_iter "at") ?_
  | refine iv_tup (by tbr_iter "sqt") (by tbr_iter "at") ?_
  | refine kv_len_seq (Or.inl (by tbr_iter "sql")) ?_
  | refine kv_len_seq (Or.inr (by tbr_iter "sqt")) ?_
  | refine kv_int ?_
  | refine kv_intB ?_
  | refine kv_abs ?_
  | refine kv_max2 rfl ?_
  | refine kv_min2 rfl ?_)
set_option hygiene false in
local macro_rules | `(tactic| tbr_iter "b") => `(tactic| first
  | refine ⟨_, rfl, iteT ?_⟩
  | refine ⟨_, rfl, iteF ?_⟩
  | refine iteT ?_
  | refine iteF ?_)
set_option hygiene false in
local macro_rules | `(tactic| tbr_iter "go") => `(tactic| repeat (first | tbr_iter "w" | tbr_iter "v" | tbr_iter "b"))
set_option hygiene false in
local macro_rules | `(tactic| tbr_iter "nof") => `(tactic| (intro d hd; cases d <;> first | rfl | exact absurd rfl (hd _)))
set_option hygiene false in
local macro_rules | `(tactic| tbr_iter "e1") => `(tactic| first | ((with_reducible show W _ _ _ _ _); tbr_iter "w") | ((with_reducible show WA _ _ _ _ _); tbr_iter "w") | ((with_reducible show WT _ _ _ _ _); tbr_iter "w") | ((with_reducible show WW _ _ _ _ _); tbr_iter "w") | tbr_iter "v")
set_option hygiene false in
local macro_rules | `(tactic| tbr_iter "ex") => `(tactic| repeat (tbr_iter "e1"))
set_option hygiene false in
local macro_rules | `(tactic| tbr_iter "z") => `(tactic| ((try dsimp only [L2.cxOf]); with_reducible first | exact T.z_IndexError | exact T.z_ValueError | exact T.z_abs | exact T.z_all | exact T.z_bool | exact T.z_classmethod | exact T.z_dict | exact T.z_enumerate | exact T.z_int | exact T.z_isinstance | exact T.z_iter | exact T.z_len | exact T.z_list | exact T.z_max | exact T.z_min | exact T.z_property | exact T.z_range | exact T.z_repr | exact T.z_set | exact T.z_sorted | exact T.z_str | exact T.z_tuple))
set_option hygiene false in
local macro_rules | `(tactic| tbr_iter "mg") => `(tactic| ((try dsimp only [L2.cxOf]); with_reducible first | exact T.c_ALPHABET | exact T.c_MAX_LETTERS | exact T.c_MAX_COLUMNS | exact T.c_MOST_VALUES))
namespace Ax
def spPicksR (K : PySem.W.Frag) : Sp := fun vs H Q _ => ∃ (p a l : Addr) (n c : Nat) (us : List V) (raw : List (List Str)), vs = [.ref p, .ref a, .int c, .ref l] ∧ H p = some (DiceO p n) ∧ n < 2 ^ 48 ∧ TabIs K H a c (tabRows raw) ∧ H l = some (.lst us) ∧ All2 (RwV H) us raw ∧ raw.length ≤ 27 ∧ (∀ r ∈ raw, NRow c r) ∧ c ≤ 3 ∧
  ∀ m H', Sm p H H' → H' p = some (DiceO p m) → m ≤ n + 16 → Q (.bl true) H'
theorem rows_nil {H : Hp} {pe : Addr} (h : H pe = some (.tup [])) : ∀ n : Nat, All2 (RwV H) (List.replicate n [V.ref pe]).flatten (List.replicate n ([] : List Str))
  | 0 => .nil
  | n + 1 => by
    rw [List.replicate_succ, List.replicate_succ, List.flatten_cons]
    exact .cons ⟨pe, rfl, h⟩ (rows_nil h n)
section
variable {P : Program} {w : World} {K : PySem.W.Frag} {mg : Str → Option Value} {base : Heap}
set_option hygiene false in
local macro_rules | `(tactic| tbr_iter "var") => `(tactic| first | ((with_reducible show W _ (.Name "dice" _) _ _ _); refine w_var 0 rfl (by tbr_iter "vis") rfl ?_) | ((with_reducible show W _ (.Name "made" _) _ _ _); refine w_var 1 rfl (by tbr_iter "vis") rfl ?_) | ((with_reducible show W _ (.Name "columns" _) _ _ _); refine w_var 2 rfl (by tbr_iter "vis") rfl ?_) | ((with_reducible show W _ (.Name "rows" _) _ _ _); refine w_var 3 rfl (by tbr_iter "vis") rfl ?_) | ((with_reducible show W _ (.Name "turn" _) _ _ _); refine w_var 4 rfl (by tbr_iter "vis") rfl ?_) | ((with_reducible show W _ (.Name "spots" _) _ _ _); refine w_var 5 rfl (by tbr_iter "vis") rfl ?_) | ((with_reducible show W _ (.Name "found" _) _ _ _); refine w_var 6 rfl (by tbr_iter "vis") rfl ?_) | ((with_reducible show W _ (.Name "due" _) _ _ _); refine w_var 7 rfl (by tbr_iter "vis") rfl ?_) | ((with_reducible show W _ (.Name "place" _) _ _ _); refine w_var 8 rfl (by tbr_iter "vis") rfl ?_) | ((with_reducible show W _ (.Name "row" _) _ _ _); refine w_var 9 rfl (by tbr_iter "vis") rfl ?_) | ((with_reducible show W _ (.Name "spot" _) _ _ _); refine w_var 10 rfl (by tbr_iter "vis") rfl ?_))
set_option hygiene false in
local macro_rules | `(tactic| tbr_iter "set") => `(tactic| first | ((with_reducible show WB _ (.Assign [.Name "dice" _] _ _ :: _) _ _ _); refine wb_cons (ws_set 0 ?_ rfl nd)) | ((with_reducible show WB _ (.Assign [.Name "made" _] _ _ :: _) _ _ _); refine wb_cons (ws_set 1 ?_ rfl nd)) | ((with_reducible show WB _ (.Assign [.Name "columns" _] _ _ :: _) _ _ _); refine wb_cons (ws_set 2 ?_ rfl nd)) | ((with_reducible show WB _ (.Assign [.Name "rows" _] _ _ :: _) _ _ _); refine wb_cons (ws_set 3 ?_ rfl nd)) | ((with_reducible show WB _ (.Assign [.Name "turn" _] _ _ :: _) _ _ _); refine wb_cons (ws_set 4 ?_ rfl nd)) | ((with_reducible show WB _ (.Assign [.Name "spots" _] _ _ :: _) _ _ _); refine wb_cons (ws_set 5 ?_ rfl nd)) | ((with_reducible show WB _ (.Assign [.Name "found" _] _ _ :: _) _ _ _); refine wb_cons (ws_set 6 ?_ rfl nd)) | ((with_reducible show WB _ (.Assign [.Name "due" _] _ _ :: _) _ _ _); refine wb_cons (ws_set 7 ?_ rfl nd)) | ((with_reducible show WB _ (.Assign [.Name "place" _] _ _ :: _) _ _ _); refine wb_cons (ws_set 8 ?_ rfl nd)) | ((with_reducible show WB _ (.Assign [.Name "row" _] _ _ :: _) _ _ _); refine wb_cons (ws_set 9 ?_ rfl nd)) | ((with_reducible show WB _ (.Assign [.Name "spot" _] _ _ :: _) _ _ _); refine wb_cons (ws_set 10 ?_ rfl nd)))
theorem ok_picks_right (T : Txt K mg) : CalleeG P w K mg base "_law_picks_right" 10 ["dice", "made", "columns", "rows"] (spPicksR K) := by
  refine def_okG T.f__law_picks_right sc__law_picks_right (fun _ _ _ _ _ _ us hl => match us, hl with | [_, _, _, _], _ => rfl) (fun vs H Q E h => ?_) fun f cdv A outer s H vs Q E hgd hr h => ?_
  · obtain ⟨p, a, l, n, c, us, raw, rfl, _⟩ := h; rfl
  obtain ⟨p, a, l, n, c, us, raw, rfl, hp, hn, ht, hl, hur, hrl, hrow, hc, k⟩ := h
  have nd := sc__law_picks_right.nd
  have hu := room64 hr
  have kc := T.kc_Table
  have trow := tab_row hrow
  have tlen : (tabRows raw).length ≤ 27 := Nat.le_trans (tabRows_len raw) hrl
  obtain ⟨fc, FC, BC⟩ := ok_tab_cols (P := P) (w := w) (base := base) T
  obtain ⟨fr, FR, BR⟩ := ok_tab_rows (P := P) (w := w) (base := base) T
  refine wb_cons (ws_for 4 (wi_range1 T.z_range ?_) rfl nd (passes_of rfl))
  tbr_iter "go"
  refine ⟨4, rfl, by omega, by omega, 4, _, _, walk_range (lo := 0) (n := 4), fun i σ Hc => ∃ x4 x5 x6 x7 x8 x9 x10 m, σ = [some (.ref p), some (.ref a), some (.int c), some (.ref l), x4, x5, x6, x7, x8, x9, x10] ∧ Sm p H Hc ∧ Hc p = some (DiceO p m) ∧ m ≤ n + 4 * i, ⟨_, _, _, _, _, _, _, n, rfl, Sm.refl hp, hp, by omega⟩, fun _ _ _ _ _ => trivial, ?_, ?_⟩
  · rintro i v σ Hx Hc hi ⟨x4, x5, x6, x7, x8, x9, x10, m, rfl, sm, hpc, hm⟩ ⟨e, rfl⟩
    subst e
    refine wb_cons (ws_set 5 (w_lcI [("place", 8)] (gName 8) tYes (fun _ _ _ _ _ => pg_name nd rfl (Or.inl rfl) (Or.inr rfl)) (fun _ _ _ _ _ => pts_nil) rfl nd (by tbr_iter "blk") (wi_range1 T.z_range (wa_cons (W.mono (Q := fun x H1 => ∃ N m1 : Nat, x = .int N ∧ N ≤ 3 ∧ (c = 0 → N = 0) ∧ Sm p H H1 ∧ H1 p = some (DiceO p m1) ∧ m1 ≤ m + 1) (w_ifExp ?_) fun x H1 hx => wa_nil ?_)))) rfl nd)
    · tbr_iter "go"
      refine ⟨_, rfl, w_if2 (fun e => ?_) (fun e => ?_)⟩
      · refine w_call (ok_law_roll T) (hr.mono (by decide)) passL ?_
        tbr_iter "go"
        have c0 : (0 : Int) < (c : Int) := of_decide_eq_true e
        exact ⟨p, m, 4, rfl, hpc, by omega, by decide, by decide, fun r H1 s1 h1 r0 r1 => ⟨r.toNat, m + 1, by rw [Int.toNat_of_nonneg r0], by omega, fun z => by omega, sm.trans s1, h1, Nat.le_refl _⟩⟩
      · tbr_iter "go"
        exact ⟨0, m, rfl, by omega, fun _ => rfl, sm, hpc, by omega⟩
    obtain ⟨N, m1, rfl, hN, hN0, sm1, hp1, hm1⟩ := hx
    refine ⟨N, rfl, by omega, by omega, N, _, _, walk_range (lo := 0) (n := N), Nat.lt_of_le_of_lt hN (by decide), fun D nD => ⟨fun i ys H' => ∃ m2 is, Sm p H H' ∧ H' p = some (DiceO p m2) ∧ m2 ≤ m1 + i ∧ ys = is.map (fun i => V.int (i : Nat)) ∧ is.length = i ∧ ∀ k ∈ is, k < c,
      ⟨m1, [], sm1.new (sm1.nul hp1 nD), (upd_ne (ne_of_none hp1 nD)).trans hp1, by omega, rfl, rfl, fun k hk => absurd hk List.not_mem_nil⟩, fun _ _ _ _ _ _ => trivial, ?_, ?_⟩⟩
    · rintro ys H2 hD ⟨m2, is, sm2, hp2, hm2, rfl, hil, his⟩
      have il3 : is.length ≤ 3 := by omega
      refine wb_cons (ws_set 6 (w_call (ok_law_picked T) (hr.mono (by decide)) passL ?_) rfl nd)
      tbr_iter "go"
      refine ⟨a, D, c, tabRows raw, is, rfl, ht.sm sm2, SqL.of hD, il3, his, hc, trow, by omega, fun x H3 s3 n3 t3 => ?_⟩
      rw [tab_map] at t3
      have sm3 := sm2.same s3
      have hD3 := s3 _ _ hD
      have hl3 := sm3.lst hl
      refine wb_cons (ws_set 7 (w_callTy T.z_tuple (wa_cons (w_callB T.z_sorted (wa_cons (w_callTy T.z_set (wa_cons ?_)))))) rfl nd)
      refine w_lcI [("row", 9)] (gName 9) tYes (fun _ _ _ _ _ => pg_name nd rfl (Or.inr rfl) (Or.inl rfl)) (fun _ _ _ _ _ => pts_nil) rfl nd (by tbr_iter "blk") (lcR_I mono_name (wi_val ?_))
      tbr_iter "go"
      refine itv_list (SqL.of hl3) ⟨_, _, itN_seq (seqIt_list (SqL.of hl3)), by rw [hur.len]; exact Nat.lt_of_le_of_lt hrl (by decide), RwR (raw.map (pickR is)), fun D i y Ha Hb _ _ h b => h.bt b, fun D2 i v H4 hi2 s4 nD2 hacc hv => ?_, fun q ys H4 s4 n4 hq hyl hR => ?_⟩
      · have hv : us[i]? = some v := hv
        obtain ⟨r, er, b, rfl, hb⟩ := hur.at hv
        obtain ⟨acc, hacc⟩ := hacc
        have rm := List.mem_of_getElem? er
        have hb4 := s4 _ _ (sm3.tupO hb)
        have hD4 := s4 _ _ hD3
        refine ⟨rfl, fun _ _ _ _ _ => w_callTy T.z_tuple (wa_cons ?_)⟩
        refine w_lcI [("spot", 10)] (gName 10) tYes (fun _ _ _ _ _ => pg_name nd rfl (Or.inl rfl) (Or.inr rfl)) (fun _ _ _ _ _ => pts_nil) rfl nd (blkOk_by (by kernel_rfl)) (lcC_I mono_name mono_yes (wi_val ?_))
        tbr_iter "go"
        refine itv_list (SqL.of hD4) ⟨_, _, itN_seq (seqIt_list (SqL.of hD4)), by rw [List.length_map]; exact Nat.lt_of_le_of_lt il3 (by decide), fun i => is[i]?.map fun k => V.str (r.getD k ""), fun m x H5 hm s5 hx => ?_, fun D5 H5 s5 n5 h5 => ?_⟩
        · have hx : (is.map fun i => V.int (i : Nat))[m]? = some x := hx
          rw [List.getElem?_map] at hx
          obtain ⟨i2, ei, rfl⟩ := Option.map_eq_some_iff.mp hx
          have il : i2 < r.length := by rw [(hrow r rm).1]; exact his i2 (List.mem_of_getElem? ei)
          refine ⟨rfl, Same.refl _, fun _ _ _ _ _ => ?_⟩
          tbr_iter "go"
          refine iv_tup (SqT.of (s5 _ _ hb4)) (atI_nat (v := V.str (r.getD i2 "")) ?_) ⟨Same.refl _, ?_⟩
          · rw [List.getElem?_map, List.getD_eq_getElem?_getD, List.getElem?_eq_getElem il]
            rfl
          · show (is[m]?.map _) = _
            rw [ei]
            rfl
        · rw [List.length_map, fm_get] at h5
          refine wa_nil (kv_tupleL (SqL.of h5) fun q2 H6 s6 n6 h6 => ⟨s5.trans s6, q2, pickR is r, by rw [List.getElem?_map, er]; rfl, rfl, ne_of_none' (s5 _ _ hacc) n6, ?_⟩)
          rw [h6]
          unfold pickR
          rw [List.map_map]
          rfl
      · have hr4 := rwR_rows (by rw [hyl, hur.len, List.length_map]) hR
        refine wa_nil (kv_setT rfl hu (SqL.of hq) hr4 (by rw [List.length_map]; omega) fun q2 H5 s5 n5 h5 => wa_nil (kv_sortedSetT (n := is.length) rfl hu h5 (fun r hr => ?_) fun q3 H6 us3 s6 n6 h6 hu6 => wa_nil (kv_tupleL (SqL.of h6) fun q4 H7 s7 n7 h7 => ?_)))
        · obtain ⟨r0, h0, rfl⟩ := List.mem_map.mp hr
          exact (pick_row (hrow r0 h0) his).1
        rw [tabRows_is] at hu6
        have hu7 := rows_sl hu6 (Sl.of s7)
        have s37 := s4.trans (s5.trans (s6.trans s7))
        have t7 := t3.same s37
        have hD7 := s37 _ _ hD3
        have sm7 := sm3.same s37
        have hp7 := s37 _ _ (s3 _ _ hp2)
        have prow : ∀ r ∈ tabRows (raw.map (pickR is)), NRow is.length r := tab_row fun r hr => by
          obtain ⟨r0, h0, rfl⟩ := List.mem_map.mp hr
          exact pick_row (hrow r0 h0) his
        have plen : (tabRows (raw.map (pickR is))).length ≤ 300 := by
          have := tabRows_len (raw.map (pickR is))
          rw [List.length_map] at this
          omega
        obtain ⟨f1, f2, f3, f4⟩ := rep_fine il3 prow plen
        obtain ⟨dx, qr, dp, e1, ⟨ut, e2, e3⟩, _⟩ := id t7
        refine wb_cons (ws_if (wt_cmp (w_callB T.z_repr (wa_cons (w_lst (wa_cons (w_prop kc.c T.p_Table_columns FC (hr.mono (by decide)) BC passL ?_)))))))
        tbr_iter "go"
        refine ⟨x, dx, _, rfl, e1, x, is.length, _, rfl, t7, wa_cons (w_prop kc.c T.p_Table_rows FR (hr.mono (by decide)) BR passL ?_)⟩
        tbr_iter "go"
        refine ⟨x, dx, _, rfl, e1, x, is.length, _, rfl, t7, fun q8 u8 e8 v8 => wa_nil ⟨two_line, fun b8 H8 s8 n8 h8 => wa_nil (kv_reprD hgd hu (dp_rep h8 (s8 _ _ e8) (rows_sl v8 (Sl.of s8))) f1 f2 f3 f4 (w_callB T.z_repr (wa_cons (w_lst (wa_cons (w_callB T.z_len (wa_cons ?_)))))))⟩⟩
        tbr_iter "go"
        refine kv_len_seq (Or.inl (SqL.of (s8 _ _ hD7))) ?_
        rw [List.length_map]
        tbr_iter "go"
        refine ⟨two_line, fun b9 H9 s9 n9 h9 => wa_nil (kv_reprD hgd hu (dp_rep h9 ((s8.trans s9) _ _ h7) (rows_sl hu7 (Sl.of (s8.trans s9)))) f1 f2 f3 f4 (cv_ne rfl ⟨_, rfl, ?_⟩))⟩
        rw [decide_eq_true rfl]
        refine iteF (wb_nil (wb_nil ⟨_, _, _, _, _, _, _, m2, rfl, sm7.same (s8.trans s9), (s8.trans s9) _ _ hp7, by omega⟩))
    · rintro j ys x Ha Hb hj hD ⟨m2, is, sm2, hp2, hm2, rfl, hil, his⟩ ⟨e, rfl⟩ Kf Kt kf kt
      subst e
      have c0 : 0 < c := Nat.pos_of_ne_zero fun z => by
        have := hN0 z
        omega
      refine ⟨rfl, ?_⟩
      unfold tYes
      dsimp only
      rw [if_pos rfl]
      intro _ _ _ _ _
      refine w_call (ok_law_roll T) (hr.mono (by decide)) passL ?_
      tbr_iter "go"
      refine ⟨p, m2, c, rfl, hp2, by omega, by omega, by omega, fun r H3 s3 h3 r0 r1 => kt _ _ (s3.lst hD) ⟨m2 + 1, is ++ [r.toNat], (sm2.trans s3).new (sm1.nul hp1 nD), (upd_ne (ne_of_none hp1 nD)).trans h3, by omega, ?_, by rw [List.length_append, hil]; rfl, fun k hk => ?_⟩⟩
      · rw [List.map_append]
        show _ = _ ++ [V.int ((r.toNat : Nat) : Int)]
        rw [Int.toNat_of_nonneg r0]
      · rcases List.mem_append.mp hk with hk | hk
        · exact his k hk
        · rw [List.mem_singleton.mp hk]
          omega
  · rintro σ Hc ⟨x4, x5, x6, x7, x8, x9, x10, m, rfl, sm, hpc, hm⟩
    have tc := ht.sm sm
    obtain ⟨dx, qr, dp, e1, ⟨ut, e2, e3⟩, _⟩ := id tc
    refine wb_cons (ws_ret (w_and (w_cmp (w_call (ok_law_picked T) hr passL (wa_cons ?_)))))
    tbr_iter "var"
    refine wa_cons (w_listRg rfl T.z_list T.z_range ?_)
    tbr_iter "go"
    refine ⟨c, rfl, by omega, fun q H1 s1 n1 h1 => wa_nil ⟨a, q, c, tabRows raw, List.range c, rfl, tc.same s1, SqL.of h1, by rw [List.length_range]; exact hc, fun i hi => List.mem_range.mp hi, hc, trow, by omega, fun x H2 s2 n2 t2 => ?_⟩⟩
    have er : (tabRows raw).map (pickR (List.range c)) = tabRows raw := by
      refine (List.map_congr_left fun r hr => pick_all (trow r hr).1).trans (List.map_id _)
    rw [er, List.length_range] at t2
    have er2 : tabRows (tabRows raw) = tabRows raw := tabRows_congr fun r => tabRows_mem
    rw [er2] at t2
    have s12 := s1.trans s2
    have tc2 := tc.same s12
    obtain ⟨dy, qy, py, y1, _⟩ := id t2
    tbr_iter "go"
    refine cv_eqO T.m_Table___eq__ (ok_tab_eq T) (hr.mono (by decide)) passL y1 (s12 _ _ e1) ⟨x, a, c, c, _, _, rfl, t2, tc2, trow, trow, fun H3 s3 => ⟨_, rfl, _, rfl, iteT2 (by simp) (w_one (w_cmp (w_meth0 kc.c T.m_Table_picked (ok_picked T) (hr.mono (by decide)) passL ?_)))⟩⟩
    tbr_iter "go"
    have s13 := s12.trans s3
    refine ⟨a, dx, _, rfl, s13 _ _ e1, rfl, a, c, tabRows raw, [], rfl, tc.same s13, by simp, fun i hi => absurd hi List.not_mem_nil, hc, trow, by omega, fun x4 H4 s4 n4 t4 => ?_⟩
    rw [tab_map] at t4
    refine w_cmeth T.cr_Table T.cm_Table_of (ok_tab_of T) (hr.mono (by decide)) passL (w_glob (glob_ref T.g_Table) ⟨rfl, ?_⟩)
    tbr_iter "go"
    refine ⟨zero_line, fun pe H5 s5 n5 h5 => wa_nil ⟨one_line, fun pt H6 s6 n6 h6 => ?_⟩⟩
    tbr_iter "go"
    have s46 := s13.trans (s4.trans (s5.trans s6))
    refine kv_len_seq (Or.inl (SqL.of (s46 _ _ (sm.lst hl)))) (bv_mulT h6 (by simp) (by rw [hur.len]; omega) (by simp) fun pr H7 s7 h7 => wa_nil ⟨pr, 0, _, List.replicate us.length [], rfl, by omega, SqT.of h7, ?_, rows_nil ((s6.trans s7) _ _ h5) us.length, fun r hr => ?_, fun x5 H8 s8 n8 t8 => ?_⟩)
    · have e := (rows_nil ((s6.trans s7) _ _ h5) us.length).len
      rw [List.length_replicate, hur.len] at e
      rw [hur.len, e]
      exact Nat.lt_of_le_of_lt hrl (by decide)
    · rw [List.eq_of_mem_replicate hr]
      exact ⟨rfl, fun z hz => absurd hz List.not_mem_nil⟩
    have e0 : raw.map (pickR []) = List.replicate us.length [] := by
      show raw.map (fun _ => ([] : List Str)) = _
      rw [List.map_const', hur.len]
    rw [e0] at t4
    have s48 := s5.trans (s6.trans (s7.trans s8))
    have t48 := t4.same s48
    obtain ⟨dz, qz, pz, z1, _⟩ := id t48
    obtain ⟨dw, qw, pw, w1, _⟩ := id t8
    have nrow : ∀ r ∈ tabRows (List.replicate us.length ([] : List Str)), NRow 0 r := tab_row fun r hr => by
      rw [List.eq_of_mem_replicate hr]
      exact ⟨rfl, fun z hz => absurd hz List.not_mem_nil⟩
    refine cv_eqO T.m_Table___eq__ (ok_tab_eq T) (hr.mono (by decide)) passL z1 w1 ⟨x4, x5, 0, 0, _, _, rfl, t48, t8, nrow, nrow, fun H9 s9 => ⟨_, rfl, ?_⟩⟩
    refine qb (k m H9 (sm.same (s13.trans (s4.trans (s48.trans s9)))) ((s13.trans (s4.trans (s48.trans s9))) _ _ hpc) (by omega)) (by simp)
end
end Ax
end
section
set_option maxHeartbeats 4000000
open PySem PySem.Spec PyProof.Rows L2 Ax
set_option hygiene false in
local macro_rules | `(tactic| tbr_iter "boot") => `(tactic| with_reducible first | exact Ax.b_len | exact Ax.b_all | exact Ax.b_any | exact Ax.b_sorted | exact Ax.b_isinstance | exact Ax.b_abs | exact Ax.b_max | exact Ax.b_min | exact Ax.b_sum | exact Ax.b_repr | exact Ax.b_iter | exact Ax.b_ord | exact Ax.b_chr | exact Ax.b_str | exact Ax.b_int | exact Ax.b_bool | exact Ax.b_tuple | exact Ax.b_list | exact Ax.b_dict | exact Ax.b_set | exact Ax.b_range | exact Ax.b_enumerate | exact Ax.b_zip)
set_option hygiene false in
local macro_rules | `(tactic| tbr_iter "vis") => `(tactic| first | exact Or.inl rfl | exact Or.inr (Or.inl rfl) | exact Or.inr (Or.inr rfl))
set_option hygiene false in
local macro_rules | `(tactic| tbr_iter "w") => `(tactic| first
  | refine wb_cons ?_
  | refine wb_nil ?_
  | refine ws_ret ?_
  | refine ws_if ?_
  | refine ws_sub ?_
  | refine wa_cons ?_
  | refine wa_nil ?_
  | refine w_int ?_
  | refine w_str ?_
  | refine w_bl ?_
  | refine w_non ?_
  | tbr_iter "var"
  | refine w_bin ?_
  | refine w_cmp ?_
  | refine w_chain ?_
  | refine w_and ?_
  | refine w_or ?_
  | refine w_one ?_
  | refine w_not ?_
  | refine w_ix ?_
  | refine w_ifExp ?_
  | refine w_tup ?_
  | refine w_lst ?_
  | refine wt_not ?_
  | refine wt_bool ?_
  | refine ww_and ?_
  | refine ww_and1 ?_
  | refine ww_or ?_
  | refine ww_or1 ?_
  | refine wt_cmp ?_
  | refine wt_val ?_
  | tbr_iter "call"
  | (refine w_glob (by tbr_iter "mg") ?_)
  | (refine w_callB (by tbr_iter "z") ?_)
  | (refine w_callTy (by tbr_iter "z") ?_)
  | (refine w_bltT (by tbr_iter "z") ?_))
set_option hygiene false in
local macro_rules | `(tactic| tbr_iter "blk") => `(tactic| first | exact blkOk_by (by dsimp only [cxOf, envOfC]; decide +kernel))
set_option hygiene false in
local macro_rules | `(tactic| tbr_iter "iff") => `(tactic| first
  | refine iteT ?_
  | refine iteF ?_
  | refine w_if2 (fun _ => ?_) (fun _ => ?_))
set_option hygiene false in
local macro_rules | `(tactic| tbr_iter "sc") => `(tactic| first | omega | decide)
set_option hygiene false in
local macro_rules | `(tactic| tbr_iter "at") => `(tactic| first | exact atI_0 | exact atI_1 | exact atI_2)
set_option hygiene false in
local macro_rules | `(tactic| tbr_iter "sql") => `(tactic| ((try dsimp only [L2.cxOf, L2.Cx.blk]); with_reducible first | assumption | exact SqL.of (by assumption)))
set_option hygiene false in
local macro_rules | `(tactic| tbr_iter "sqt") => `(tactic| ((try dsimp only [L2.cxOf, L2.Cx.blk]); with_reducible first | assumption | exact SqT.of (by assumption)))
set_option hygiene false in
local macro_rules | `(tactic| tbr_iter "v") => `(tactic| first
  | refine bv_add ?_
  | refine bv_sub ?_
  | ((with_reducible show BinV _ .Mult _ _ _ _); refine bv_mul (Or.inl ⟨by tbr_iter "sc", by tbr_iter "sc"⟩) ?_)
  | ((with_reducible show BinV _ .Mult _ _ _ _); refine bv_mul (Or.inr ⟨by tbr_iter "sc", by tbr_iter "sc"⟩) ?_)
  | ((with_reducible show BinV _ .Mod _ _ _ _); refine bv_mod (by tbr_iter "sc") ?_)
  | ((with_reducible show BinV _ .FloorDiv _ _ _ _); refine bv_fdiv ⟨by tbr_iter "sc", by tbr_iter "sc"⟩ ?_)
  | ((with_reducible show BinV _ .Pow _ _ _ _); refine bv_pow ⟨by decide, by decide +kernel⟩ ?_)
  | refine cv_lt ?_
  | refine cv_le ?_
  | refine cv_gt ?_
  | refine cv_ge ?_
  | ((with_reducible show CmpV _ .Eq _ _ _ _); refine cv_eq rfl ?_)
  | ((with_reducible show CmpV _ .NotEq _ _ _ _); refine cv_ne rfl ?_)
  | refine iv_list (by tbr_iter "sql") (by tbr_iter "at") ?_
  | refine iv_tup (by tbr_iter "sqt") (by tbr_iter "at") ?_
  | refine kv_len_seq (Or.inl (by tbr_iter "sql")) ?_
  | refine kv_len_seq (Or.inr (by tbr_iter "sqt")) ?_
  | refine kv_int ?_
  | refine kv_intB ?_
  | refine kv_abs ?_
  | refine kv_max2 rfl ?_
  | refine kv_min2 rfl ?_)
set_option hygiene false in
local macro_rules | `(tactic| tbr_iter "b") => `(tactic| first
  | refine ⟨_, rfl, iteT ?_⟩
  | refine ⟨_, rfl, iteF ?_⟩
  | refine iteT ?_
  | refine iteF ?_)
set_option hygiene false in
local macro_rules | `(tactic| tbr_iter "go") => `(tactic| repeat (first | tbr_iter "w" | tbr_iter "v" | tbr_iter "b"))
set_option hygiene false in
local macro_rules | `(tactic| tbr_iter "nof") => `(tactic| (intro d hd; cases d <;> first | rfl | exact absurd rfl (hd _)))
set_option hygiene false in
local macro_rules | `(tactic| tbr_iter "e1") => `(tactic| first | ((with_reducible show W _ _ _ _ _); tbr_iter "w") | ((with_reducible show WA _ _ _ _ _); tbr_iter "w") | ((with_reducible show WT _ _ _ _ _); tbr_iter "w") | ((with_reducible show WW _ _ _ _ _); tbr_iter "w") | tbr_iter "v")
set_option hygiene false in
local macro_rules | `(tactic| tbr_iter "ex") => `(tactic| repeat (tbr_iter "e1"))
set_option hygiene false in
local macro_rules | `(tactic| tbr_iter "z") => `(tactic| ((try dsimp only [L2.cxOf]); with_reducible first | exact T.z_IndexError | exact T.z_ValueError | exact T.z_abs | exact T.z_all | exact T.z_bool | exact T.z_classmethod | exact T.z_dict | exact T.z_enumerate | exact T.z_int | exact T.z_isinstance | exact T.z_iter | exact T.z_len | exact T.z_list | exact T.z_max | exact T.z_min | exact T.z_property | exact T.z_range | exact T.z_repr | exact T.z_set | exact T.z_sorted | exact T.z_str | exact T.z_tuple))
set_option hygiene false in
local macro_rules | `(tactic| tbr_iter "mg") => `(tactic| ((try dsimp only [L2.cxOf]); with_reducible first | exact T.c_ALPHABET | exact T.c_MAX_LETTERS | exact T.c_MAX_COLUMNS | exact T.c_MOST_VALUES))
namespace Ax
def PrV (H : Hp) (y : V) (q : Str × Str) : Prop := ∃ b, y = .ref b ∧ H b = some (.tup [.str q.1, .str q.2])
theorem prv_sl {H H' : Hp} {ys : List V} {qs : List (Str × Str)} (h : All2 (PrV H) ys qs) (s : Sl H H') : All2 (PrV H') ys qs := h.imp fun _ _ ⟨b, e, k⟩ => ⟨b, e, s _ _ k rfl⟩
theorem zip_fun : ∀ {ns ws : List Str}, ns.Nodup → ws.length = ns.length → ∃ g : Str → Str, ns.zip ws = ns.map fun n => (n, g n)
  | [], _, _, _ => ⟨fun n => n, rfl⟩
  | n :: ns, [], _, h => by cases h
  | n :: ns, x :: ws, hn, h => by
    obtain ⟨h1, h2⟩ := List.nodup_cons.mp hn
    obtain ⟨g, e⟩ := zip_fun h2 (Nat.succ.inj h)
    refine ⟨fun m => if m = n then x else g m, ?_⟩
    rw [List.zip_cons_cons, List.map_cons, e]
    dsimp only
    rw [if_pos rfl]
    refine congrArg _ (List.map_congr_left fun m hm => ?_)
    rw [if_neg fun z => h1 (by rw [← z]; exact hm)]
theorem prv_pairs {K : PySem.W.Frag} {H : Hp} : ∀ {ys : List V} {qs : List (Str × Str)}, All2 (PrV H) ys qs → ∃ ps : List Addr, ys = ps.map V.ref ∧ Paired (fun q (kv : Key × V) => SqT K H q [kV kv.1, kv.2]) ps (qs.map fun q => (Sum.inr q.1, V.str q.2))
  | _, _, .nil => ⟨[], rfl, .nil⟩
  | _, _, .cons ⟨b, e, h⟩ t => by
    obtain ⟨ps, e2, h2⟩ := prv_pairs (K := K) t
    exact ⟨b :: ps, by rw [e, e2]; rfl, .cons (SqT.of h) h2⟩
section
variable {X : Cx} {H : Hp} {Q : VK}
/-- dict(pairs), each name once -/
theorem kv_dictN {p : Addr} {ys : List V} {ns ws : List Str} (hc : X.calm = true) (hn : ns.Nodup) (hl : ws.length = ns.length) (hp : H p = some (.lst ys)) (ha : All2 (PrV H) ys (ns.zip ws))
    (h : ∀ g q H2, (ns.zip ws = ns.map fun n => (n, g n)) → Same H H2 → H q = none → H2 q = some (.dK (mapK ns g)) → Q (.ref q) H2) : CallV X (.type "dict") [.ref p] H Q := by
  obtain ⟨ps, e, h2⟩ := prv_pairs (K := X.K) ha
  subst e
  obtain ⟨g, eg⟩ := zip_fun hn hl
  refine kv_dictP hc (SqL.of hp) h2 fun q H2 s2 n2 hq => h g q H2 eg s2 n2 ?_
  rw [hq, eg, List.map_map]
  show some (HO.dK (putsL (mapK ns g))) = _
  rw [putsL_id]
  unfold mapK
  rw [List.map_map]
  exact List.pairwise_map.mpr (hn.imp fun h e => h (Sum.inr.inj e))
end
theorem zip_good {ns ws : List Str} {g : Str → Str} {good : Str → Str → Prop} (e : ns.zip ws = ns.map fun n => (n, g n)) (hl : ws.length = ns.length) (h : ∀ (j : Nat) n w, ns[j]? = some n → ws[j]? = some w → good n w) : ∀ n ∈ ns, good n (g n) := by
  intro n hn
  obtain ⟨j, ej⟩ := List.mem_iff_getElem?.mp hn
  have jl := (List.getElem?_eq_some_iff.mp ej).1
  have e1 : (ns.zip ws)[j]? = some (n, ws[j]'(by omega)) := by
    rw [List.getElem?_zip_eq_some]
    exact ⟨ej, List.getElem?_eq_getElem (by omega)⟩
  have e2 : (ns.map fun n => (n, g n))[j]? = some (n, g n) := by rw [List.getElem?_map, ej]; rfl
  rw [e, e2] at e1
  have e3 := (Prod.mk.inj (Option.some.inj e1)).2
  rw [e3]
  exact h j n _ ej (List.getElem?_eq_getElem (by omega))
theorem zip_snoc {α β : Type} : ∀ {xs : List α} {ys : List β} {x : α} {y : β}, xs.length = ys.length → (xs ++ [x]).zip (ys ++ [y]) = xs.zip ys ++ [(x, y)]
  | [], [], _, _, _ => rfl
  | [], _ :: _, _, _, h => by cases h
  | _ :: _, [], _, _, h => by cases h
  | _ :: xs, _ :: ys, _, _, h => by
    show _ :: (xs ++ _).zip (ys ++ _) = _ :: (xs.zip ys ++ _)
    rw [zip_snoc (Nat.succ.inj h)]
theorem Sm.dk {p d : Addr} {H H' : Hp} {kvs : List (Key × V)} (e : Sm p H H') (h : H d = some (.dK kvs)) : H' d = some (.dK kvs) := e.keep _ _ h (fun z => by
  obtain ⟨m, hm⟩ := e.at0
  rw [z, hm] at h
  cases h)
/-- pairs under way in the list at D -/
def PrR (qs : List (Str × Str)) (D : Addr) (i : Nat) (y : V) (H : Hp) : Prop := ∃ b q, qs[i]? = some q ∧ y = .ref b ∧ b ≠ D ∧ H b = some (.tup [.str q.1, .str q.2])
theorem PrR.bt {qs : List (Str × Str)} {D : Addr} {i : Nat} {y : V} {Ha Hb : Hp} (h : PrR qs D i y Ha) (b : Bt D Ha Hb) : PrR qs D i y Hb := let ⟨a, n, e1, e2, e3, e4⟩ := h; ⟨a, n, e1, e2, e3, b _ _ e3 e4⟩
theorem prR_prs {qs : List (Str × Str)} {D : Addr} {ys : List V} {H : Hp} (hl : ys.length = qs.length) (h : ∀ (i : Nat) y, ys[i]? = some y → PrR qs D i y H) : All2 (PrV H) ys qs :=
  all2_of_at hl fun i y e => by
    obtain ⟨b, q, e1, e2, _, e4⟩ := h i y e
    exact ⟨q, e1, b, e2, e4⟩
theorem zip_map_self (ns : List Str) (g : Str → Str) : ns.zip (ns.map g) = ns.map fun n => (n, g n) := by
  induction ns with
  | nil => rfl
  | cons n ns ih => rw [List.map_cons, List.zip_cons_cons, List.map_cons, ih]
section
variable {X : Cx} {σ : L2.St} {H : Hp} {Q : VK}
/-- xs[::-1] -/
theorem w_revL {e : Expr} {k : Nat} {p1 p2 p3 pos : Pos} (h : W X e σ H fun x H1 => ∃ a xs, x = .ref a ∧ SqL X.K H1 a xs ∧ ∀ p H2, Same H1 H2 → H1 p = none → H2 p = some (.lst xs.reverse) → Q (.ref p) H2) :
    W X (.Subscript e (.Slice none none (some (.UnaryOp .USub (.Constant (.int 1) k p1) p2)) p3) pos) σ H Q :=
  W.of (pe_revL W.pe) (W.mono h fun x H1 ⟨a, xs, e, hs, q⟩ => ⟨a, xs, e, hs, fun p hp => q p _ (same_new hp) hp upd_same⟩)
end
end Ax
end
section
set_option maxHeartbeats 4000000
open PySem PySem.Spec PyProof.Rows L2 Ax
set_option hygiene false in
local macro_rules | `(tactic| tbr_iter "boot") => `(tactic| with_reducible first | exact Ax.b_len | exact Ax.b_all | exact Ax.b_any | exact Ax.b_sorted | exact Ax.b_isinstance | exact Ax.b_abs | exact Ax.b_max | exact Ax.b_min | exact Ax.b_sum | exact Ax.b_repr | exact Ax.b_iter | exact Ax.b_ord | exact Ax.b_chr | exact Ax.b_str | exact Ax.b_int | exact Ax.b_bool | exact Ax.b_tuple | exact Ax.b_list | exact Ax.b_dict | exact Ax.b_set | exact Ax.b_range | exact Ax.b_enumerate | exact Ax.b_zip)
set_option hygiene false in
local macro_rules | `(tactic| tbr_iter "vis") => `(tactic| first | exact Or.inl rfl | exact Or.inr (Or.inl rfl) | exact Or.inr (Or.inr rfl))
set_option hygiene false in
local macro_rules | `(tactic| tbr_iter "w") => `(tactic| first
  | refine wb_cons ?_
  | refine wb_nil ?_
  | refine ws_ret ?_
  | refine ws_if ?_
  | refine ws_sub ?_
  | refine wa_cons ?_
  | refine wa_nil ?_
  | refine w_int ?_
  | refine w_str ?_
  | refine w_bl ?_
  | refine w_non ?_
  | tbr_iter "var"
  | refine w_bin ?_
  | refine w_cmp ?_
  | refine w_chain ?_
  | refine w_and ?_
  | refine w_or ?_
  | refine w_one ?_
  | refine w_not ?_
  | refine w_ix ?_
  | refine w_ifExp ?_
  | refine w_tup ?_
  | refine w_lst ?_
  | refine wt_not ?_
  | refine wt_bool ?_
  | refine ww_and ?_
  | refine ww_and1 ?_
  | refine ww_or ?_
  | refine ww_or1 ?_
  | refine wt_cmp ?_
  | refine wt_val ?_
  | tbr_iter "call"
  | (refine w_glob (by tbr_iter "mg") ?_)
  | (refine w_callB (by tbr_iter "z") ?_)
  | (refine w_callTy (by tbr_iter "z") ?_)
  | (refine w_bltT (by tbr_iter "z") ?_))
set_option hygiene false in
local macro_rules | `(tactic| tbr_iter "blk") => `(tactic| first | exact blkOk_by (by dsimp only [cxOf, envOfC]; decide +kernel))
set_option hygiene false in
local macro_rules | `(tactic| tbr_iter "iff") => `(tactic| first
  | refine iteT ?_
  | refine iteF ?_
  | refine w_if2 (fun _ => ?_) (fun _ => ?_))
set_option hygiene false in
local macro_rules | `(tactic| tbr_iter "sc") => `(tactic| first | omega | decide)
set_option hygiene false in
local macro_rules | `(tactic| tbr_iter "at") => `(tactic| first | exact atI_0 | exact atI_1 | exact atI_2)
set_option hygiene false in
local macro_rules | `(tactic| tbr_iter "sql") => `(tactic| ((try dsimp only [L2.cxOf, L2.Cx.blk]); with_reducible first | assumption | exact SqL.of (by assumption)))
set_option hygiene false in
local macro_rules | `(tactic| tbr_iter "sqt") => `(tactic| ((try dsimp only [L2.cxOf, L2.Cx.blk]); with_reducible first | assumption | exact SqT.of (by assumption)))
set_option hygiene false in
local macro_rules | `(tactic| tbr_iter "v") => `(tactic| first
  | refine bv_add ?_
  | refine bv_sub ?_
  | ((with_reducible show BinV _ .Mult _ _ _ _); refine bv_mul (Or.inl ⟨by tbr_iter "sc", by tbr_iter "sc"⟩) ?_)
  | ((with_reducible show BinV _ .Mult _ _ _ _); refine bv_mul (Or.inr ⟨by tbr_iter "sc", by tbr_iter "sc"⟩) ?_)
  | ((with_reducible show BinV _ .Mod _ _ _ _); refine bv_mod (by tbr_iter "sc") ?_)
  | ((with_reducible show BinV _ .FloorDiv _ _ _ _); refine bv_fdiv ⟨by tbr_iter "sc", by tbr_iter "sc"⟩ ?_)
  | ((with_reducible show BinV _ .Pow _ _ _ _); refine bv_pow ⟨by decide, by decide +kernel⟩ ?_)
  | refine cv_lt ?_
  | refine cv_le ?_
  | refine cv_gt ?_
  | refine cv_ge ?_
  | ((with_reducible show CmpV _ .Eq _ _ _ _); refine cv_eq rfl ?_)
  | ((with_reducible show CmpV _ .NotEq _ _ _ _); refine cv_ne rfl ?_)
  | refine iv_list (by tbr_iter "sql") (by tbr_iter "at") ?_
  | refine iv_tup (by tbr_iter "sqt") (by tbr_iter "at") ?_
  | refine kv_len_seq (Or.inl (by tbr_iter "sql")) ?_
  | refine kv_len_seq (Or.inr (by tbr_iter "sqt")) ?_
  | refine kv_int ?_
  | refine kv_intB ?_
  | refine kv_abs ?_
  | refine kv_max2 rfl ?_
  | refine kv_min2 rfl ?_)
set_option hygiene false in
local macro_rules | `(tactic| tbr_iter "b") => `(tactic| first
  | refine ⟨_, rfl, iteT ?_⟩
  | refine ⟨_, rfl, iteF ?_⟩
  | refine iteT ?_
  | refine iteF ?_)
set_option hygiene false in
local macro_rules | `(tactic| tbr_iter "go") => `(tactic| repeat (first | tbr_iter "w" | tbr_iter "v" | tbr_iter "b"))
set_option hygiene false in
local macro_rules | `(tactic| tbr_iter "nof") => `(tactic| (intro d hd; cases d <;> first | rfl | exact absurd rfl (hd _)))
set_option hygiene false in
local macro_rules | `(tactic| tbr_iter "e1") => `(tactic| first | ((with_reducible show W _ _ _ _ _); tbr_iter "w") | ((with_reducible show WA _ _ _ _ _); tbr_iter "w") | ((with_reducible show WT _ _ _ _ _); tbr_iter "w") | ((with_reducible show WW _ _ _ _ _); tbr_iter "w") | tbr_iter "v")
set_option hygiene false in
local macro_rules | `(tactic| tbr_iter "ex") => `(tactic| repeat (tbr_iter "e1"))
set_option hygiene false in
local macro_rules | `(tactic| tbr_iter "z") => `(tactic| ((try dsimp only [L2.cxOf]); with_reducible first | exact T.z_IndexError | exact T.z_ValueError | exact T.z_abs | exact T.z_all | exact T.z_bool | exact T.z_classmethod | exact T.z_dict | exact T.z_enumerate | exact T.z_int | exact T.z_isinstance | exact T.z_iter | exact T.z_len | exact T.z_list | exact T.z_max | exact T.z_min | exact T.z_property | exact T.z_range | exact T.z_repr | exact T.z_set | exact T.z_sorted | exact T.z_str | exact T.z_tuple))
set_option hygiene false in
local macro_rules | `(tactic| tbr_iter "mg") => `(tactic| ((try dsimp only [L2.cxOf]); with_reducible first | exact T.c_ALPHABET | exact T.c_MAX_LETTERS | exact T.c_MAX_COLUMNS | exact T.c_MOST_VALUES))
namespace Ax
def spMapsR (K : PySem.W.Frag) : Sp := fun vs H Q _ => ∃ (p a l : Addr) (n c : Nat) (us : List V) (raw : List (List Str)) (zs : List Str), vs = [.ref p, .ref a, .int c, .ref l] ∧ H p = some (DiceO p n) ∧ n < 2 ^ 48 ∧ TabIs K H a c (tabRows raw) ∧ H l = some (.lst us) ∧ All2 (RwV H) us raw ∧ raw.length ≤ 27 ∧ (∀ r ∈ raw, NRow c r) ∧ c ≤ 3 ∧
  zs.length ≤ 6 ∧ (∀ r ∈ raw, ∀ z ∈ r, z ∈ zs) ∧ ∀ m H', Sm p H H' → H' p = some (DiceO p m) → m ≤ n + 12 → Q (.bl true) H'
theorem name_of {c : Nat} {rows : List (List Str)} (h : ∀ r ∈ rows, NRow c r) : ∀ n ∈ rows.flatten, isNameS n = true := fun n hn => by
  obtain ⟨r, hr, hz⟩ := List.mem_flatten.mp hn
  exact (h r hr).2 n hz
section
variable {P : Program} {w : World} {K : PySem.W.Frag} {mg : Str → Option Value} {base : Heap}
set_option hygiene false in
local macro_rules | `(tactic| tbr_iter "var") => `(tactic| first | ((with_reducible show W _ (.Name "dice" _) _ _ _); refine w_var 0 rfl (by tbr_iter "vis") rfl ?_) | ((with_reducible show W _ (.Name "made" _) _ _ _); refine w_var 1 rfl (by tbr_iter "vis") rfl ?_) | ((with_reducible show W _ (.Name "columns" _) _ _ _); refine w_var 2 rfl (by tbr_iter "vis") rfl ?_) | ((with_reducible show W _ (.Name "rows" _) _ _ _); refine w_var 3 rfl (by tbr_iter "vis") rfl ?_) | ((with_reducible show W _ (.Name "names" _) _ _ _); refine w_var 4 rfl (by tbr_iter "vis") rfl ?_) | ((with_reducible show W _ (.Name "first" _) _ _ _); refine w_var 5 rfl (by tbr_iter "vis") rfl ?_) | ((with_reducible show W _ (.Name "found" _) _ _ _); refine w_var 6 rfl (by tbr_iter "vis") rfl ?_) | ((with_reducible show W _ (.Name "second" _) _ _ _); refine w_var 7 rfl (by tbr_iter "vis") rfl ?_) | ((with_reducible show W _ (.Name "both" _) _ _ _); refine w_var 8 rfl (by tbr_iter "vis") rfl ?_) | ((with_reducible show W _ (.Name "name" _) _ _ _); refine w_var 9 rfl (by tbr_iter "vis") rfl ?_))
set_option hygiene false in
local macro_rules | `(tactic| tbr_iter "set") => `(tactic| first | ((with_reducible show WB _ (.Assign [.Name "dice" _] _ _ :: _) _ _ _); refine wb_cons (ws_set 0 ?_ rfl nd)) | ((with_reducible show WB _ (.Assign [.Name "made" _] _ _ :: _) _ _ _); refine wb_cons (ws_set 1 ?_ rfl nd)) | ((with_reducible show WB _ (.Assign [.Name "columns" _] _ _ :: _) _ _ _); refine wb_cons (ws_set 2 ?_ rfl nd)) | ((with_reducible show WB _ (.Assign [.Name "rows" _] _ _ :: _) _ _ _); refine wb_cons (ws_set 3 ?_ rfl nd)) | ((with_reducible show WB _ (.Assign [.Name "names" _] _ _ :: _) _ _ _); refine wb_cons (ws_set 4 ?_ rfl nd)) | ((with_reducible show WB _ (.Assign [.Name "first" _] _ _ :: _) _ _ _); refine wb_cons (ws_set 5 ?_ rfl nd)) | ((with_reducible show WB _ (.Assign [.Name "found" _] _ _ :: _) _ _ _); refine wb_cons (ws_set 6 ?_ rfl nd)) | ((with_reducible show WB _ (.Assign [.Name "second" _] _ _ :: _) _ _ _); refine wb_cons (ws_set 7 ?_ rfl nd)) | ((with_reducible show WB _ (.Assign [.Name "both" _] _ _ :: _) _ _ _); refine wb_cons (ws_set 8 ?_ rfl nd)) | ((with_reducible show WB _ (.Assign [.Name "name" _] _ _ :: _) _ _ _); refine wb_cons (ws_set 9 ?_ rfl nd)))
theorem ok_maps_right (T : Txt K mg) : CalleeG P w K mg base "_law_maps_right" 10 ["dice", "made", "columns", "rows"] (spMapsR K) := by
  refine def_okG T.f__law_maps_right sc__law_maps_right (fun _ _ _ _ _ _ us hl => match us, hl with | [_, _, _, _], _ => rfl) (fun vs H Q E h => ?_) fun f cdv A outer s H vs Q E hgd hr h => ?_
  · obtain ⟨p, a, l, n, c, us, raw, zs, rfl, _⟩ := h; rfl
  obtain ⟨p, a, l, n, c, us, raw, zs, rfl, hp, hn, ht, hl, hur, hrl, hrow, hc, hz6, hzs, k⟩ := h
  have nd := sc__law_maps_right.nd
  have hu := room64 hr
  have kc := T.kc_Table
  have trow := tab_row hrow
  have tlen : (tabRows raw).length ≤ 27 := Nat.le_trans (tabRows_len raw) hrl
  obtain ⟨fc, FC, BC⟩ := ok_tab_cols (P := P) (w := w) (base := base) T
  obtain ⟨fr, FR, BR⟩ := ok_tab_rows (P := P) (w := w) (base := base) T
  refine wb_cons (ws_set 4 (w_call (ok_law_names T) (hr.mono (by decide)) passL ?_) rfl nd)
  tbr_iter "go"
  refine ⟨l, us, raw, zs, rfl, hl, hur, by omega, fun r hr => by rw [(hrow r hr).1]; exact hc, by omega, hzs, fun ns q H1 s1 n1 h1 so hnd hmem => ?_⟩
  have hnl : ns.length ≤ 6 := Nat.le_trans (nodup_len hnd fun z hz => by
    obtain ⟨r, hr, hzr⟩ := List.mem_flatten.mp ((hmem z).mp hz)
    exact hzs r hr z hzr) hz6
  have hnn : ∀ n ∈ ns, isNameS n = true := fun n hn => name_of hrow n ((hmem n).mp hn)
  have hp1 := s1 _ _ hp
  refine wb_cons (ws_set 5 (w_callTy T.z_dict (wa_cons (w_lcI [("name", 9)] (gName 9) tYes (fun _ _ _ _ _ => pg_name nd rfl (Or.inl rfl) (Or.inr rfl)) (fun _ _ _ _ _ => pts_nil) rfl nd (by tbr_iter "blk") (wi_val ?_)))) rfl nd)
  tbr_iter "go"
  refine itv_list (SqL.of h1) ⟨_, _, _, walk_list (K := K) (xs := ns.map V.str), ?_, fun D nD => ⟨fun i ys H' => ∃ m ws, Sm p H H' ∧ H' p = some (DiceO p m) ∧ m ≤ n + i ∧ ws.length = i ∧ H' q = some (.lst (ns.map V.str)) ∧ All2 (PrV H') ys ((ns.take i).zip ws) ∧ ∀ (j : Nat) n w, ns[j]? = some n → ws[j]? = some w → isNameS w = true,
    ⟨n, [], (Sm.of hp s1).new (same_nul s1 nD), (upd_ne (ne_of_none hp1 nD)).trans hp1, by omega, rfl, (upd_ne (ne_of_none h1 nD)).trans h1, .nil, fun j n w _ h => by simp at h⟩, fun i ys H' _ _ ⟨_, _, _, _, _, _, h, _⟩ => SqL.of h, ?_, ?_⟩⟩
  · rw [List.length_map]
    exact Nat.lt_of_le_of_lt hnl (by decide)
  · rintro ys H2 hD ⟨m, ws, sm2, hp2, hm, hwl, hq2, hys, hgood⟩
    rw [List.length_map] at hwl hm hys
    rw [List.take_length] at hys
    refine wa_nil (kv_dictN rfl hnd hwl hD hys fun g q1 H3 eg s3 n3 hq1 => ?_)
    have hg := zip_good (good := fun _ w => isNameS w = true) eg hwl hgood
    have sm3 := sm2.same s3
    have t3 := ht.sm sm3
    obtain ⟨dx, qr, dp, e1, _⟩ := id t3
    refine wb_cons (ws_set 6 (w_meth kc.c T.m_Table_mapped (ok_mapped T) (hr.mono (by decide)) passL ?_) rfl nd)
    tbr_iter "go"
    refine ⟨a, dx, _, rfl, e1, rfl, ?_⟩
    tbr_iter "go"
    have fmem : ∀ n, n ∈ ns ↔ n ∈ (tabRows raw).flatten := fun n => (hmem n).trans (by
      rw [List.mem_flatten, List.mem_flatten]
      exact ⟨fun ⟨r, h1, h2⟩ => ⟨r, tabRows_mem.mpr h1, h2⟩, fun ⟨r, h1, h2⟩ => ⟨r, tabRows_mem.mp h1, h2⟩⟩)
    refine ⟨a, q1, c, tabRows raw, ns, g, rfl, t3, hq1, hnd, fmem, by omega, hg, hc, trow, by omega, fun x H4 s4 n4 t4 => ?_⟩
    rw [tab_map] at t4
    refine wb_cons (ws_if (wt_cmp (w_callB T.z_repr (wa_cons (w_lst (wa_cons (w_prop kc.c T.p_Table_columns FC (hr.mono (by decide)) BC passL ?_)))))))
    tbr_iter "go"
    obtain ⟨dy, qy, py, y1, ⟨uy, y2, y3⟩, _⟩ := id t4
    refine ⟨x, dy, _, rfl, y1, x, c, _, rfl, t4, wa_cons (w_prop kc.c T.p_Table_rows FR (hr.mono (by decide)) BR passL ?_)⟩
    tbr_iter "go"
    have grow : ∀ r ∈ raw.map fun r => r.map g, NRow c r := fun r hr => by
      obtain ⟨r0, h0, rfl⟩ := List.mem_map.mp hr
      exact map_row (hrow r0 h0) fun n hn => hg n ((hmem n).mpr (List.mem_flatten.mpr ⟨r0, h0, hn⟩))
    have prow := tab_row grow
    have plen : (tabRows (raw.map fun r => r.map g)).length ≤ 27 := by
      have := tabRows_len (raw.map fun r => r.map g)
      rw [List.length_map] at this
      omega
    obtain ⟨f1, f2, f3, f4⟩ := rep_fine hc prow (by omega)
    refine ⟨x, dy, _, rfl, y1, x, c, _, rfl, t4, fun q8 u8 e8 v8 => wa_nil ⟨two_line, fun b8 H8 s8 n8 h8 => wa_nil (kv_reprD hgd hu (dp_rep h8 (s8 _ _ e8) (rows_sl v8 (Sl.of s8))) f1 f2 f3 f4 (w_callB T.z_repr (wa_cons (w_lst (wa_cons ?_)))))⟩⟩
    tbr_iter "go"
    refine w_call (ok_law_moved T) (hr.mono (by decide)) passL ?_
    tbr_iter "go"
    have s38 := s4.trans s8
    have sm8 := sm3.same s38
    refine ⟨l, q1, us, raw, ns, g, c, rfl, sm8.lst hl, rows_sl hur sm8.sl, by omega, fun r hr => (hrow r hr).1, hc, s38 _ _ hq1, hnd, fun r hr z hz => (hmem z).mpr (List.mem_flatten.mpr ⟨r, hr, hz⟩), fun u9 q9 H9 s9 h9 v9 => wa_nil ⟨two_line, fun b9 H10 s10 n10 h10 => wa_nil (kv_reprD hgd hu (dp_rep h10 (s10 _ _ h9) (rows_sl v9 (Sl.of s10))) f1 f2 f3 f4 (cv_ne rfl ⟨_, rfl, ?_⟩))⟩⟩
    rw [decide_eq_true rfl]
    refine iteF (wb_nil ?_)
    have s310 := s38.trans (s9.trans s10)
    have sm10 := sm3.same s310
    have hp10 := s310 _ _ (s3 _ _ hp2)
    have hm10 : m ≤ n + 6 := by omega
    have hq10 := s310 _ _ (s3 _ _ hq2)
    have hq1' := s310 _ _ hq1
    have t10 := t4.same (s8.trans (s9.trans s10))
    have t310 := t3.same s310
    clear hD hys hp2 hq2 s38 sm8
    refine wb_cons (ws_set 7 (w_callTy T.z_dict (wa_cons (w_lcI [("name", 9)] (gName 9) tYes (fun _ _ _ _ _ => pg_name nd rfl (Or.inl rfl) (Or.inr rfl)) (fun _ _ _ _ _ => pts_nil) rfl nd (by tbr_iter "blk") (wi_val (w_call (ok_law_namesT T) (hr.mono (by decide)) passL ?_))))) rfl nd)
    tbr_iter "go"
    refine w_prop kc.c T.p_Table_rows FR (hr.mono (by decide)) BR passL ?_
    tbr_iter "go"
    obtain ⟨dy, qy, py, y1, ⟨uy, y2, y3⟩, _⟩ := id t10
    refine ⟨x, dy, _, rfl, y1, x, c, _, rfl, t10, fun q8 u8 e8 v8 => wa_nil ⟨q8, u8, _, zs.map g, rfl, e8, v8, by omega, fun r hr => by rw [(prow r hr).1]; exact hc, by rw [List.length_map]; omega, fun r hr z hz => ?_, fun ns2 q2 H11 s11 n11 h11 so2 hnd2 hmem2 => ?_⟩⟩
    · obtain ⟨r0, h0, rfl⟩ := List.mem_map.mp (tabRows_mem.mp hr)
      obtain ⟨n0, hn0, rfl⟩ := List.mem_map.mp hz
      exact List.mem_map_of_mem (hzs r0 h0 n0 hn0)
    have hnl2 : ns2.length ≤ 6 := by
      refine Nat.le_trans (nodup_len (L := zs.map g) hnd2 fun z hz => ?_) (by rw [List.length_map]; exact hz6)
      obtain ⟨r, hr, hzr⟩ := List.mem_flatten.mp ((hmem2 z).mp hz)
      obtain ⟨r0, h0, rfl⟩ := List.mem_map.mp (tabRows_mem.mp hr)
      obtain ⟨n0, hn0, rfl⟩ := List.mem_map.mp hzr
      exact List.mem_map_of_mem (hzs r0 h0 n0 hn0)
    have hnn2 : ∀ n ∈ ns2, isNameS n = true := fun n hn => name_of prow n ((hmem2 n).mp hn)
    have sm11 := sm10.same s11
    have hp11 := s11 _ _ hp10
    refine itv_list (SqL.of h11) ⟨_, _, _, walk_list (K := K) (xs := ns2.map V.str), ?_, fun D nD => ⟨fun i ys H' => ∃ m2 ws, Sm p H11 H' ∧ H' p = some (DiceO p m2) ∧ m2 ≤ m + i ∧ ws.length = i ∧ H' q2 = some (.lst (ns2.map V.str)) ∧ All2 (PrV H') ys ((ns2.take i).zip ws) ∧ ∀ (j : Nat) n w, ns2[j]? = some n → ws[j]? = some w → isNameS w = true,
      ⟨m, [], (Sm.refl hp11).new nD, (upd_ne (ne_of_none hp11 nD)).trans hp11, by omega, rfl, (upd_ne (ne_of_none h11 nD)).trans h11, .nil, fun j n w _ h => by simp at h⟩, fun i ys H' _ _ ⟨_, _, _, _, _, _, h, _⟩ => SqL.of h, ?_, ?_⟩⟩
    · rw [List.length_map]
      exact Nat.lt_of_le_of_lt hnl2 (by decide)
    · rintro ys H12 hD ⟨m2, ws, sm12, hp12, hm12, hwl, hq12, hys, hgood⟩
      rw [List.length_map] at hwl hm12 hys
      rw [List.take_length] at hys
      refine wa_nil (kv_dictN rfl hnd2 hwl hD hys fun g2 q3 H13 eg2 s13 n13 hq3 => ?_)
      have hg2 := zip_good (good := fun _ w => isNameS w = true) eg2 hwl hgood
      have sm13 := (sm11.trans sm12).same s13
      have hq13 := s13 _ _ (sm12.lst (s11 _ _ hq10))
      have hf13 := s13 _ _ (sm12.dk (s11 _ _ hq1'))
      have tx13 := ((t10.same s11).sm sm12).same s13
      have ta13 := ((t310.same s11).sm sm12).same s13
      have hp13 := s13 _ _ hp12
      have gmem : ∀ n ∈ ns, g n ∈ ns2 := fun n hn => by
        obtain ⟨r, hr, hzr⟩ := List.mem_flatten.mp ((hmem n).mp hn)
        exact (hmem2 _).mpr (List.mem_flatten.mpr ⟨r.map g, tabRows_mem.mpr (List.mem_map.mpr ⟨r, hr, rfl⟩), List.mem_map_of_mem hzr⟩)
      refine wb_cons (ws_set 8 (w_callTy T.z_dict (wa_cons (w_lcI [("name", 9)] (gName 9) tYes (fun _ _ _ _ _ => pg_name nd rfl (Or.inl rfl) (Or.inr rfl)) (fun _ _ _ _ _ => pts_nil) rfl nd (by tbr_iter "blk") (lcR_I mono_name (wi_val ?_))))) rfl nd)
      tbr_iter "go"
      refine itv_list (SqL.of hq13) ⟨_, _, itN_seq (seqIt_list (SqL.of hq13)), by rw [List.length_map]; exact Nat.lt_of_le_of_lt hnl (by decide), PrR (ns.map fun n => (n, g2 (g n))), fun D i y Ha Hb _ _ h b => h.bt b, fun D i v H14 hi s14 nD hacc hv => ?_, fun D ys H14 s14 n14 hD hyl hR => ?_⟩
      · have hv : (ns.map V.str)[i]? = some v := hv
        rw [List.getElem?_map] at hv
        obtain ⟨nm, enm, rfl⟩ := Option.map_eq_some_iff.mp hv
        obtain ⟨acc, hacc⟩ := hacc
        have nmn := List.mem_of_getElem? enm
        refine ⟨rfl, fun _ _ _ _ _ => w_tup (wa_cons ?_)⟩
        tbr_iter "go"
        refine iv_dK (k := .inr nm) hu (.inl (s14 _ _ hf13)) (mapK_get hnd nm nmn) (iv_dK (k := .inr (g nm)) hu (.inl (s14 _ _ hq3)) (mapK_get hnd2 (g nm) (gmem nm nmn)) (wa_nil ⟨two_line, fun b H15 s15 n15 h15 => ⟨s15, b, (nm, g2 (g nm)), by rw [List.getElem?_map, enm]; rfl, rfl, ne_of_none' hacc n15, h15⟩⟩))
      · rw [List.length_map] at hyl
        have hpr := prR_prs (by rw [hyl, List.length_map]) hR
        rw [← zip_map_self ns fun n => g2 (g n)] at hpr
        refine wa_nil (kv_dictN rfl hnd (List.length_map _) hD hpr fun g3 q4 H15 eg3 s15 n15 hq4 => ?_)
        rw [zip_map_self] at eg3
        have h3 : ∀ n ∈ ns, g3 n = g2 (g n) := fun n hn => ((Prod.mk.inj (List.map_inj_left.mp eg3 n hn)).2).symm
        have s135 := s14.trans s15
        have sm15 := sm13.same s135
        have tx15 := tx13.same s135
        have ta15 := ta13.same s135
        obtain ⟨ex, qx, px, z1, _⟩ := id tx15
        obtain ⟨ea, qa, pa, w1, _⟩ := id ta15
        refine wb_cons (ws_if (wt_cmp (w_meth kc.c T.m_Table_mapped (ok_mapped T) (hr.mono (by decide)) passL ?_)))
        tbr_iter "go"
        refine ⟨x, ex, _, rfl, z1, rfl, ?_⟩
        tbr_iter "go"
        refine ⟨x, q3, c, _, ns2, g2, rfl, tx15, s135 _ _ hq3, hnd2, hmem2, by omega, hg2, hc, prow, by omega, fun x5 H16 s16 n16 t16 => ?_⟩
        rw [tab_map] at t16
        refine w_meth kc.c T.m_Table_mapped (ok_mapped T) (hr.mono (by decide)) passL ?_
        tbr_iter "go"
        refine ⟨a, ea, _, rfl, s16 _ _ w1, rfl, ?_⟩
        tbr_iter "go"
        have hg3 : ∀ n ∈ ns, isNameS (g3 n) = true := fun n hn => by
          rw [h3 n hn]
          exact hg2 _ (gmem n hn)
        refine ⟨a, q4, c, _, ns, g3, rfl, ta15.same s16, s16 _ _ hq4, hnd, fmem, by omega, hg3, hc, trow, by omega, fun x6 H17 s17 n17 t17 => ?_⟩
        rw [tab_map] at t17
        have erows : (raw.map fun r => r.map g).map (fun r => r.map g2) = raw.map fun r => r.map g3 := by
          rw [List.map_map]
          refine List.map_congr_left fun r hr => ?_
          show (r.map g).map g2 = r.map g3
          rw [List.map_map]
          refine List.map_congr_left fun z hz => ?_
          exact (h3 z ((hmem z).mpr (List.mem_flatten.mpr ⟨r, hr, hz⟩))).symm
        rw [erows] at t16
        have grow3 : ∀ r ∈ tabRows (raw.map fun r => r.map g3), NRow c r := tab_row fun r hr => by
          obtain ⟨r0, h0, rfl⟩ := List.mem_map.mp hr
          exact map_row (hrow r0 h0) fun n hn => hg3 n ((hmem n).mpr (List.mem_flatten.mpr ⟨r0, h0, hn⟩))
        have t16b := t16.same s17
        obtain ⟨eb, qb5, pb, v1, _⟩ := id t16b
        obtain ⟨ec, qc, pc, u1, _⟩ := id t17
        refine cv_neO kc.hm T.b_Table___ne__ T.m_Table___eq__ (ok_tab_eq T) (hr.mono (by decide)) passL v1 u1 ⟨x5, x6, c, c, _, _, rfl, t16b, t17, grow3, grow3, fun H18 s18 => ⟨_, rfl, _, rfl, ?_⟩⟩
        rw [decide_eq_true (show c = c ∧ tabRows (raw.map fun r => r.map g3) = tabRows (raw.map fun r => r.map g3) from ⟨rfl, rfl⟩)]
        refine iteF (wb_nil ?_)
        have s158 := s16.trans (s17.trans s18)
        have sm18 := sm15.same s158
        have ta18 := ta15.same s158
        have hq18 := s158 _ _ (s135 _ _ hq13)
        have hp18 := s158 _ _ (s135 _ _ hp13)
        refine wb_cons (ws_ret (w_cmp (w_meth kc.c T.m_Table_mapped (ok_mapped T) (hr.mono (by decide)) passL ?_)))
        tbr_iter "go"
        obtain ⟨ef, qf, pf, z18, _⟩ := id ta18
        refine ⟨a, ef, _, rfl, z18, rfl, wa_cons (w_callTy T.z_dict (wa_cons (w_lcI [("name", 9)] (gName 9) tYes (fun _ _ _ _ _ => pg_name nd rfl (Or.inl rfl) (Or.inr rfl)) (fun _ _ _ _ _ => pts_nil) rfl nd (by tbr_iter "blk") (lcR_I mono_name (wi_val (w_revL ?_))))))⟩
        tbr_iter "go"
        refine ⟨q, _, rfl, SqL.of hq18, fun qv H19 s19 n19 h19 => ?_⟩
        rw [← List.map_reverse] at h19
        refine itv_list (SqL.of h19) ⟨_, _, itN_seq (seqIt_list (SqL.of h19)), by rw [List.length_map, List.length_reverse]; exact Nat.lt_of_le_of_lt hnl (by decide), PrR (ns.reverse.map fun n => (n, n)), fun D i y Ha Hb _ _ h b => h.bt b, fun D i v H20 hi s20 nD hacc hv => ?_, fun D ys H20 s20 n20 hD hyl hR => ?_⟩
        · have hv : (ns.reverse.map V.str)[i]? = some v := hv
          rw [List.getElem?_map] at hv
          obtain ⟨nm, enm, rfl⟩ := Option.map_eq_some_iff.mp hv
          obtain ⟨acc, hacc⟩ := hacc
          refine ⟨rfl, fun _ _ _ _ _ => w_tup (wa_cons ?_)⟩
          tbr_iter "go"
          exact ⟨two_line, fun b H15 s15 n15 h15 => ⟨s15, b, (nm, nm), by rw [List.getElem?_map, enm]; rfl, rfl, ne_of_none' hacc n15, h15⟩⟩
        · rw [List.length_map] at hyl
          have hpr := prR_prs (by rw [hyl, List.length_map]) hR
          rw [← zip_map_self ns.reverse fun n => n] at hpr
          have hndr : ns.reverse.Nodup := (List.reverse_perm ns).nodup_iff.mpr hnd
          refine wa_nil (kv_dictN rfl hndr (List.length_map _) hD hpr fun g4 q5 H21 eg4 s21 n21 hq5 => ?_)
          rw [zip_map_self] at eg4
          have h4 : ∀ n ∈ ns, g4 n = n := fun n hn => ((Prod.mk.inj (List.map_inj_left.mp eg4 n (List.mem_reverse.mpr hn))).2).symm
          have s189 := s19.trans (s20.trans s21)
          have ta21 := ta18.same s189
          refine wa_nil ⟨a, q5, c, _, ns.reverse, g4, rfl, ta21, hq5, hndr, fun n => List.mem_reverse.trans (fmem n), by rw [List.length_reverse]; omega, fun n hn => ?_, hc, trow, by omega, fun x7 H22 s22 n22 t22 => ?_⟩
          · rw [h4 n (List.mem_reverse.mp hn)]
            exact hnn n (List.mem_reverse.mp hn)
          rw [tab_map] at t22
          have e4 : (raw.map fun r => r.map g4) = raw := by
            refine (List.map_congr_left fun r hr => ?_).trans (List.map_id raw)
            refine (List.map_congr_left fun z hz => ?_).trans (List.map_id r)
            exact h4 z ((hmem z).mpr (List.mem_flatten.mpr ⟨r, hr, hz⟩))
          rw [e4] at t22
          have ta22 := ta21.same s22
          obtain ⟨eg, qg, pg, v22, _⟩ := id t22
          obtain ⟨eh, qh, ph, u22, _⟩ := id ta22
          tbr_iter "go"
          refine cv_eqO T.m_Table___eq__ (ok_tab_eq T) (hr.mono (by decide)) passL v22 u22 ⟨x7, a, c, c, _, _, rfl, t22, ta22, trow, trow, fun H23 s23 => ⟨_, rfl, ?_⟩⟩
          have sE := s189.trans (s22.trans s23)
          refine qb (k m2 H23 (sm18.same sE) (sE _ _ hp18) (by omega)) (by simp)
    · rintro j ys x Ha Hb hj hD ⟨m, ws, sm2, hp2, hm, hwl, hq2, hys, hgood⟩ ⟨e, hv⟩ Kf Kt kf kt
      subst e
      rw [List.getElem?_map] at hv
      obtain ⟨nm, enm, rfl⟩ := Option.map_eq_some_iff.mp hv
      refine ⟨rfl, ?_⟩
      unfold tYes
      dsimp only
      rw [if_pos rfl]
      intro _ _ _ _ _
      refine w_tup (wa_cons ?_)
      tbr_iter "go"
      refine w_call (ok_law_pick T) (hr.mono (by decide)) passL ?_
      tbr_iter "go"
      have jl := (List.getElem?_eq_some_iff.mp enm).1
      refine ⟨show 3 ≤ sizeLine by decide, fun pp H3 s3 n3 h3 => wa_nil ⟨p, pp, m, _, rfl, s3 _ _ hp2, by omega, SqL.of h3, (fun e => by cases e), (show 3 < 2 ^ 20 by decide), fun v hv H4 s4 hp4 => ?_⟩⟩
      obtain ⟨w, rfl, hw⟩ : ∃ w, v = .str w ∧ isNameS w = true := by
        simp only [List.mem_cons, List.not_mem_nil, or_false] at hv
        rcases hv with rfl | rfl | rfl
        · exact ⟨_, rfl, by decide +kernel⟩
        · exact ⟨_, rfl, by decide +kernel⟩
        · exact ⟨nm, rfl, hnn2 nm (List.mem_of_getElem? enm)⟩
      refine wa_nil ⟨two_line, fun b H5 s5 n5 h5 => ?_⟩
      have sm5 : Sm p Hb H5 := ((Sm.of hp2 s3).trans s4).same s5
      have hD5 := sm5.lst hD
      have bD : b ≠ D := ne_of_none' (s4.lst (s3 _ _ hD)) n5
      refine kt _ _ hD5 ⟨m + 1, ws ++ [w], (sm2.trans sm5).new nD, (upd_ne (ne_of_none hp11 nD)).trans (s5 _ _ hp4), by omega, by rw [List.length_append, hwl]; rfl, (upd_ne (ne_of_none h11 nD)).trans (sm5.lst hq2), ?_, fun i n' w' e1 e2 => ?_⟩
      · rw [List.take_add_one, enm]
        have el : (ns2.take j).length = ws.length := by
          have := (List.getElem?_eq_some_iff.mp enm).1
          rw [List.length_take, hwl]
          omega
        show All2 _ _ ((ns2.take j ++ [nm]).zip (ws ++ [w]))
        rw [zip_snoc el]
        exact (prv_sl hys (sm5.sl.lst hD5)).app (.one ⟨b, rfl, (upd_ne bD).trans h5⟩)
      · by_cases c1 : i < ws.length
        · rw [List.getElem?_append_left c1] at e2
          exact hgood i n' w' e1 e2
        · rw [List.getElem?_append_right (Nat.le_of_not_lt c1)] at e2
          have := (List.getElem?_eq_some_iff.mp e2).1
          have e3 : i - ws.length = 0 := by simp at this; omega
          rw [e3] at e2
          cases e2
          exact hw
  · rintro j ys x Ha Hb hj hD ⟨m, ws, sm2, hp2, hm, hwl, hq2, hys, hgood⟩ ⟨e, hv⟩ Kf Kt kf kt
    subst e
    rw [List.getElem?_map] at hv
    obtain ⟨nm, enm, rfl⟩ := Option.map_eq_some_iff.mp hv
    refine ⟨rfl, ?_⟩
    unfold tYes
    dsimp only
    rw [if_pos rfl]
    intro _ _ _ _ _
    refine w_tup (wa_cons ?_)
    tbr_iter "go"
    refine w_call (ok_law_pick T) (hr.mono (by decide)) passL ?_
    tbr_iter "go"
    have jl := (List.getElem?_eq_some_iff.mp enm).1
    refine ⟨show 5 ≤ sizeLine by decide, fun pp H3 s3 n3 h3 => wa_nil ⟨p, pp, m, _, rfl, s3 _ _ hp2, by omega, SqL.of h3, (fun e => by cases e), (show 5 < 2 ^ 20 by decide), fun v hv H4 s4 hp4 => ?_⟩⟩
    obtain ⟨w, rfl, hw⟩ : ∃ w, v = .str w ∧ isNameS w = true := by
      simp only [List.mem_cons, List.not_mem_nil, or_false] at hv
      rcases hv with rfl | rfl | rfl | rfl | rfl
      · exact ⟨_, rfl, by decide +kernel⟩
      · exact ⟨_, rfl, by decide +kernel⟩
      · exact ⟨_, rfl, by decide +kernel⟩
      · exact ⟨_, rfl, by decide +kernel⟩
      · exact ⟨nm, rfl, hnn nm (List.mem_of_getElem? enm)⟩
    refine wa_nil ⟨two_line, fun b H5 s5 n5 h5 => ?_⟩
    have sm5 : Sm p Hb H5 := ((Sm.of hp2 s3).trans s4).same s5
    have hD5 := sm5.lst hD
    have bD : b ≠ D := ne_of_none' (s4.lst (s3 _ _ hD)) n5
    refine kt _ _ hD5 ⟨m + 1, ws ++ [w], (sm2.trans sm5).new (same_nul s1 nD), (upd_ne (ne_of_none hp1 nD)).trans (s5 _ _ hp4), by omega, by rw [List.length_append, hwl]; rfl, (upd_ne (ne_of_none h1 nD)).trans (sm5.lst hq2), ?_, fun i n' w' e1 e2 => ?_⟩
    · rw [List.take_add_one, enm]
      have el : (ns.take j).length = ws.length := by
        have := (List.getElem?_eq_some_iff.mp enm).1
        rw [List.length_take, hwl]
        omega
      show All2 _ _ ((ns.take j ++ [nm]).zip (ws ++ [w]))
      rw [zip_snoc el]
      exact (prv_sl hys (sm5.sl.lst hD5)).app (.one ⟨b, rfl, (upd_ne bD).trans h5⟩)
    · by_cases c1 : i < ws.length
      · rw [List.getElem?_append_left c1] at e2
        exact hgood i n' w' e1 e2
      · rw [List.getElem?_append_right (Nat.le_of_not_lt c1)] at e2
        have := (List.getElem?_eq_some_iff.mp e2).1
        have e3 : i - ws.length = 0 := by simp at this; omega
        rw [e3] at e2
        cases e2
        exact hw
end
end Ax
end
section
set_option maxHeartbeats 4000000
open PySem PySem.Spec PyProof.Rows L2 Ax
set_option hygiene false in
local macro_rules | `(tactic| tbr_iter "boot") => `(tactic| with_reducible first | exact Ax.b_len | exact Ax.b_all | exact Ax.b_any | exact Ax.b_sorted | exact Ax.b_isinstance | exact Ax.b_abs | exact Ax.b_max | exact Ax.b_min | exact Ax.b_sum | exact Ax.b_repr | exact Ax.b_iter | exact Ax.b_ord | exact Ax.b_chr | exact Ax.b_str | exact Ax.b_int | exact Ax.b_bool | exact Ax.b_tuple | exact Ax.b_list | exact Ax.b_dict | exact Ax.b_set | exact Ax.b_range | exact Ax.b_enumerate | exact Ax.b_zip)
set_option hygiene false in
local macro_rules | `(tactic| tbr_iter "vis") => `(tactic| first | exact Or.inl rfl | exact Or.inr (Or.inl rfl) | exact Or.inr (Or.inr rfl))
set_option hygiene false in
local macro_rules | `(tactic| tbr_iter "w") => `(tactic| first
  | refine wb_cons ?_
  | refine wb_nil ?_
  | refine ws_ret ?_
  | refine ws_if ?_
  | refine ws_sub ?_
  | refine wa_cons ?_
  | refine wa_nil ?_
  | refine w_int ?_
  | refine w_str ?_
  | refine w_bl ?_
  | refine w_non ?_
  | tbr_iter "var"
  | refine w_bin ?_
  | refine w_cmp ?_
  | refine w_chain ?_
  | refine w_and ?_
  | refine w_or ?_
  | refine w_one ?_
  | refine w_not ?_
  | refine w_ix ?_
  | refine w_ifExp ?_
  | refine w_tup ?_
  | refine w_lst ?_
  | refine wt_not ?_
  | refine wt_bool ?_
  | refine ww_and ?_
  | refine ww_and1 ?_
  | refine ww_or ?_
  | refine ww_or1 ?_
  | refine wt_cmp ?_
  | refine wt_val ?_
  | tbr_iter "call"
  | (refine w_glob (by tbr_iter "mg") ?_)
  | (refine w_callB (by tbr_iter "z") ?_)
  | (refine w_callTy (by tbr_iter "z") ?_)
  | (refine w_bltT (by tbr_iter "z") ?_))
set_option hygiene false in
local macro_rules | `(tactic| tbr_iter "blk") => `(tactic| first | exact blkOk_by (by dsimp only [cxOf, envOfC]; decide +kernel))
set_option hygiene false in
local macro_rules | `(tactic| tbr_iter "iff") => `(tactic| first
  | refine iteT ?_
  | refine iteF ?_
  | refine w_if2 (fun _ => ?_) (fun _ => ?_))
set_option hygiene false in
local macro_rules | `(tactic| tbr_iter "sc") => `(tactic| first | omega | decide)
set_option hygiene false in
local macro_rules | `(tactic| tbr_iter "at") => `(tactic| first | exact atI_0 | exact atI_1 | exact atI_2)
set_option hygiene false in
local macro_rules | `(tactic| tbr_iter "sql") => `(tactic| ((try dsimp only [L2.cxOf, L2.Cx.blk]); with_reducible first | assumption | exact SqL.of (by assumption)))
set_option hygiene false in
local macro_rules | `(tactic| tbr_iter "sqt") => `(tactic| ((try dsimp only [L2.cxOf, L2.Cx.blk]); with_reducible first | assumption | exact SqT.of (by assumption)))
set_option hygiene false in
local macro_rules | `(tactic| tbr_iter "v") => `(tactic| first
  | refine bv_add ?_
  | refine bv_sub ?_
  | ((with_reducible show BinV _ .Mult _ _ _ _); refine bv_mul (Or.inl ⟨by tbr_iter "sc", by tbr_iter "sc"⟩) ?_)
  | ((with_reducible show BinV _ .Mult _ _ _ _); refine bv_mul (Or.inr ⟨by tbr_iter "sc", by tbr_iter "sc"⟩) ?_)
  | ((with_reducible show BinV _ .Mod _ _ _ _); refine bv_mod (by tbr_iter "sc") ?_)
  | ((with_reducible show BinV _ .FloorDiv _ _ _ _); refine bv_fdiv ⟨by tbr_iter "sc", by tbr_iter "sc"⟩ ?_)
  | ((with_reducible show BinV _ .Pow _ _ _ _); refine bv_pow ⟨by decide, by decide +kernel⟩ ?_)
  | refine cv_lt ?_
  | refine cv_le ?_
  | refine cv_gt ?_
  | refine cv_ge ?_
  | ((with_reducible show CmpV _ .Eq _ _ _ _); refine cv_eq rfl ?_)
  | ((with_reducible show CmpV _ .NotEq _ _ _ _); refine cv_ne rfl ?_)
  | refine iv_list (by tbr_iter "sql") (by tbr_iter "at") ?_
  | refine iv_tup (by tbr_iter "sqt") (by tbr_iter "at") ?_
  | refine kv_len_seq (Or.inl (by tbr_iter "sql")) ?_
  | refine kv_len_seq (Or.inr (by tbr_iter "sqt")) ?_
  | refine kv_int ?_
  | refine kv_intB ?_
  | refine kv_abs ?_
  | refine kv_max2 rfl ?_
  | refine kv_min2 rfl ?_)
set_option hygiene false in
local macro_rules | `(tactic| tbr_iter "b") => `(tactic| first
  | refine ⟨_, rfl, iteT ?_⟩
  | refine ⟨_, rfl, iteF ?_⟩
  | refine iteT ?_
  | refine iteF ?_)
set_option hygiene false in
local macro_rules | `(tactic| tbr_iter "go") => `(tactic| repeat (first | tbr_iter "w" | tbr_iter "v" | tbr_iter "b"))
set_option hygiene false in
local macro_rules | `(tactic| tbr_iter "nof") => `(tactic| (intro d hd; cases d <;> first | rfl | exact absurd rfl (hd _)))
set_option hygiene false in
local macro_rules | `(tactic| tbr_iter "e1") => `(tactic| first | ((with_reducible show W _ _ _ _ _); tbr_iter "w") | ((with_reducible show WA _ _ _ _ _); tbr_iter "w") | ((with_reducible show WT _ _ _ _ _); tbr_iter "w") | ((with_reducible show WW _ _ _ _ _); tbr_iter "w") | tbr_iter "v")
set_option hygiene false in
local macro_rules | `(tactic| tbr_iter "ex") => `(tactic| repeat (tbr_iter "e1"))
set_option hygiene false in
local macro_rules | `(tactic| tbr_iter "z") => `(tactic| ((try dsimp only [L2.cxOf]); with_reducible first | exact T.z_IndexError | exact T.z_ValueError | exact T.z_abs | exact T.z_all | exact T.z_bool | exact T.z_classmethod | exact T.z_dict | exact T.z_enumerate | exact T.z_int | exact T.z_isinstance | exact T.z_iter | exact T.z_len | exact T.z_list | exact T.z_max | exact T.z_min | exact T.z_property | exact T.z_range | exact T.z_repr | exact T.z_set | exact T.z_sorted | exact T.z_str | exact T.z_tuple))
set_option hygiene false in
local macro_rules | `(tactic| tbr_iter "mg") => `(tactic| ((try dsimp only [L2.cxOf]); with_reducible first | exact T.c_ALPHABET | exact T.c_MAX_LETTERS | exact T.c_MAX_COLUMNS | exact T.c_MOST_VALUES))
namespace Ax
theorem strs_perm {ys : List V} {zs : List Str} (p : ys.Perm (zs.map V.str)) : ∃ us : List Str, ys = us.map V.str ∧ us.Perm zs := by
  have e1 : ys = (ys.map fun v => match v with | .str z => z | _ => "").map V.str := by
    rw [List.map_map]
    have key : ∀ y ∈ ys, (V.str ∘ fun v => match v with | .str z => z | _ => "") y = y := fun y hy => by
      obtain ⟨z, _, rfl⟩ := List.mem_map.mp (p.mem_iff.mp hy)
      rfl
    exact ((List.map_congr_left key).trans (List.map_id _)).symm
  refine ⟨_, e1, ?_⟩
  have e2 := p.map fun v => match v with | V.str z => z | _ => ("" : Str)
  rw [List.map_map] at e2
  have e3 : (zs.map ((fun v => match v with | V.str z => z | _ => ("" : Str)) ∘ V.str)) = zs := (List.map_congr_left fun z _ => rfl).trans (List.map_id _)
  rw [e3] at e2
  exact e2
/-! ### all rows over rising names stand in their order -/
theorem rle_ne : ∀ {a b : List Str} (x y : List Str), a.length = b.length → rle a b = true → a ≠ b → rle (a ++ x) (b ++ y) = true
  | [], [], _, _, _, _, h => absurd rfl h
  | [], _ :: _, _, _, h, _, _ => by cases h
  | _ :: _, [], _, _, h, _, _ => by cases h
  | p :: a, q :: b, x, y, hl, h, hn => by
    show rle (p :: (a ++ x)) (q :: (b ++ y)) = true
    unfold rle at h ⊢
    by_cases c : p = q
    · subst c
      rw [if_pos rfl] at h ⊢
      exact rle_ne x y (Nat.succ.inj hl) h fun e => hn (by rw [e])
    · rw [if_neg c] at h ⊢
      exact h
theorem rle_snoc : ∀ (r : List Str) {x y : Str}, strLe x y = true → rle (r ++ [x]) (r ++ [y]) = true
  | [], x, y, h => by
    show rle [x] [y] = true
    unfold rle
    by_cases c : x = y
    · rw [if_pos c]
      rfl
    · rw [if_neg c]
      exact h
  | p :: r, x, y, h => by
    show rle (p :: (r ++ [x])) (p :: (r ++ [y])) = true
    unfold rle
    rw [if_pos rfl]
    exact rle_snoc r h
theorem tupsL_pw {zs : List Str} (hs : zs.Pairwise fun a b => strLe a b = true) (hn : zs.Nodup) : ∀ c, (tupsL zs c).Pairwise fun a b => rle a b = true ∧ a ≠ b
  | 0 => List.pairwise_singleton _ _
  | c + 1 => by
    rw [tupsL_succ, List.pairwise_flatMap]
    refine ⟨fun r _ => ?_, (tupsL_pw hs hn c).imp_of_mem fun {a b} ha hb h x hx y hy => ?_⟩
    · unfold extR
      refine List.pairwise_map.mpr ((hs.and hn).imp fun h => ⟨rle_snoc r h.1, fun e => h.2 ?_⟩)
      have e2 := List.append_cancel_left e
      exact (List.cons.inj e2).1
    · obtain ⟨u, _, rfl⟩ := List.mem_map.mp hx
      obtain ⟨v, _, rfl⟩ := List.mem_map.mp hy
      have la := (tupsL_mem.mp ha).1
      have lb := (tupsL_mem.mp hb).1
      refine ⟨rle_ne _ _ (la.trans lb.symm) h.1 h.2, fun e => h.2 ?_⟩
      exact (List.append_inj e (la.trans lb.symm)).1
theorem tab_sorted {raw : List (List Str)} (h : raw.Pairwise fun a b => rle a b = true ∧ a ≠ b) : tabRows raw = raw := by
  rw [← tabRows_is, onceL_id (h.imp fun h => h.2), sortRows_id (h.imp fun h => h.1)]
/-- the table of all rows over names in any order -/
theorem tab_tups {zs ys : List Str} (hs : zs.Pairwise fun a b => strLe a b = true) (hn : zs.Nodup) (hp : ys.Perm zs) (c : Nat) : tabRows (tupsL ys c) = tupsL zs c := by
  rw [← tab_sorted (tupsL_pw hs hn c)]
  refine tabRows_congr fun r => ?_
  rw [tupsL_mem, tupsL_mem]
  exact ⟨fun ⟨h1, h2⟩ => ⟨h1, fun z hz => hp.mem_iff.mp (h2 z hz)⟩, fun ⟨h1, h2⟩ => ⟨h1, fun z hz => hp.mem_iff.mpr (h2 z hz)⟩⟩
end Ax
end
section
set_option maxHeartbeats 4000000
open PySem PySem.Spec PyProof.Rows L2 Ax
set_option hygiene false in
local macro_rules | `(tactic| tbr_iter "boot") => `(tactic| with_reducible first | exact Ax.b_len | exact Ax.b_all | exact Ax.b_any | exact Ax.b_sorted | exact Ax.b_isinstance | exact Ax.b_abs | exact Ax.b_max | exact Ax.b_min | exact Ax.b_sum | exact Ax.b_repr | exact Ax.b_iter | exact Ax.b_ord | exact Ax.b_chr | exact Ax.b_str | exact Ax.b_int | exact Ax.b_bool | exact Ax.b_tuple | exact Ax.b_list | exact Ax.b_dict | exact Ax.b_set | exact Ax.b_range | exact Ax.b_enumerate | exact Ax.b_zip)
set_option hygiene false in
local macro_rules | `(tactic| tbr_iter "vis") => `(tactic| first | exact Or.inl rfl | exact Or.inr (Or.inl rfl) | exact Or.inr (Or.inr rfl))
set_option hygiene false in
local macro_rules | `(tactic| tbr_iter "w") => `(tactic| first
  | refine wb_cons ?_
  | refine wb_nil ?_
  | refine ws_ret ?_
  | refine ws_if ?_
  | refine ws_sub ?_
  | refine wa_cons ?_
  | refine wa_nil ?_
  | refine w_int ?_
  | refine w_str ?_
  | refine w_bl ?_
  | refine w_non ?_
  | tbr_iter "var"
  | refine w_bin ?_
  | refine w_cmp ?_
  | refine w_chain ?_
  | refine w_and ?_
  | refine w_or ?_
  | refine w_one ?_
  | refine w_not ?_
  | refine w_ix ?_
  | refine w_ifExp ?_
  | refine w_tup ?_
  | refine w_lst ?_
  | refine wt_not ?_
  | refine wt_bool ?_
  | refine ww_and ?_
  | refine ww_and1 ?_
  | refine ww_or ?_
  | refine ww_or1 ?_
  | refine wt_cmp ?_
  | refine wt_val ?_
  | tbr_iter "call"
  | (refine w_glob (by tbr_iter "mg") ?_)
  | (refine w_callB (by tbr_iter "z") ?_)
  | (refine w_callTy (by tbr_iter "z") ?_)
  | (refine w_bltT (by tbr_iter "z") ?_))
set_option hygiene false in
local macro_rules | `(tactic| tbr_iter "blk") => `(tactic| first | exact blkOk_by (by dsimp only [cxOf, envOfC]; decide +kernel))
set_option hygiene false in
local macro_rules | `(tactic| tbr_iter "iff") => `(tactic| first
  | refine iteT ?_
  | refine iteF ?_
  | refine w_if2 (fun _ => ?_) (fun _ => ?_))
set_option hygiene false in
local macro_rules | `(tactic| tbr_iter "sc") => `(tactic| first | omega | decide)
set_option hygiene false in
local macro_rules | `(tactic| tbr_iter "at") => `(tactic| first | exact atI_0 | exact atI_1 | exact atI_2)
set_option hygiene false in
local macro_rules | `(tactic| tbr_iter "sql") => `(tactic| ((try dsimp only [L2.cxOf, L2.Cx.blk]); with_reducible first | assumption | exact SqL.of (by assumption)))
set_option hygiene false in
local macro_rules | `(tactic| tbr_iter "sqt") => `(tactic| ((try dsimp only [L2.cxOf, L2.Cx.blk]); with_reducible first | assumption | exact SqT.of (by assumption)))
set_option hygiene false in
local macro_rules | `(tactic| tbr_iter "v") => `(tactic| first
  | refine bv_add ?_
  | refine bv_sub ?_
  | ((with_reducible show BinV _ .Mult _ _ _ _); refine bv_mul (Or.inl ⟨by tbr_iter "sc", by tbr_iter "sc"⟩) ?_)
  | ((with_reducible show BinV _ .Mult _ _ _ _); refine bv_mul (Or.inr ⟨by tbr_iter "sc", by tbr_iter "sc"⟩) ?_)
  | ((with_reducible show BinV _ .Mod _ _ _ _); refine bv_mod (by tbr_iter "sc") ?_)
  | ((with_reducible show BinV _ .FloorDiv _ _ _ _); refine bv_fdiv ⟨by tbr_iter "sc", by tbr_iter "sc"⟩ ?_)
  | ((with_reducible show BinV _ .Pow _ _ _ _); refine bv_pow ⟨by decide, by decide +kernel⟩ ?_)
  | refine cv_lt ?_
  | refine cv_le ?_
  | refine cv_gt ?_
  | refine cv_ge ?_
  | ((with_reducible show CmpV _ .Eq _ _ _ _); refine cv_eq rfl ?_)
  | ((with_reducible show CmpV _ .NotEq _ _ _ _); refine cv_ne rfl ?_)
  | refine iv_list (by tbr_iter "sql") (by tbr_iter "at") ?_
  | refine iv_tup (by tbr_iter "sqt") (by tbr_iter "at") ?_
  | refine kv_len_seq (Or.inl (by tbr_iter "sql")) ?_
  | refine kv_len_seq (Or.inr (by tbr_iter "sqt")) ?_
  | refine kv_int ?_
  | refine kv_intB ?_
  | refine kv_abs ?_
  | refine kv_max2 rfl ?_
  | refine kv_min2 rfl ?_)
set_option hygiene false in
local macro_rules | `(tactic| tbr_iter "b") => `(tactic| first
  | refine ⟨_, rfl, iteT ?_⟩
  | refine ⟨_, rfl, iteF ?_⟩
  | refine iteT ?_
  | refine iteF ?_)
set_option hygiene false in
local macro_rules | `(tactic| tbr_iter "go") => `(tactic| repeat (first | tbr_iter "w" | tbr_iter "v" | tbr_iter "b"))
set_option hygiene false in
local macro_rules | `(tactic| tbr_iter "nof") => `(tactic| (intro d hd; cases d <;> first | rfl | exact absurd rfl (hd _)))
set_option hygiene false in
local macro_rules | `(tactic| tbr_iter "e1") => `(tactic| first | ((with_reducible show W _ _ _ _ _); tbr_iter "w") | ((with_reducible show WA _ _ _ _ _); tbr_iter "w") | ((with_reducible show WT _ _ _ _ _); tbr_iter "w") | ((with_reducible show WW _ _ _ _ _); tbr_iter "w") | tbr_iter "v")
set_option hygiene false in
local macro_rules | `(tactic| tbr_iter "ex") => `(tactic| repeat (tbr_iter "e1"))
set_option hygiene false in
local macro_rules | `(tactic| tbr_iter "z") => `(tactic| ((try dsimp only [L2.cxOf]); with_reducible first | exact T.z_IndexError | exact T.z_ValueError | exact T.z_abs | exact T.z_all | exact T.z_bool | exact T.z_classmethod | exact T.z_dict | exact T.z_enumerate | exact T.z_int | exact T.z_isinstance | exact T.z_iter | exact T.z_len | exact T.z_list | exact T.z_max | exact T.z_min | exact T.z_property | exact T.z_range | exact T.z_repr | exact T.z_set | exact T.z_sorted | exact T.z_str | exact T.z_tuple))
set_option hygiene false in
local macro_rules | `(tactic| tbr_iter "mg") => `(tactic| ((try dsimp only [L2.cxOf]); with_reducible first | exact T.c_ALPHABET | exact T.c_MAX_LETTERS | exact T.c_MAX_COLUMNS | exact T.c_MOST_VALUES))
namespace Ax
def spRightT (K : PySem.W.Frag) : Sp := fun vs H Q _ => ∃ (p : Addr) (n : Nat), vs = [.ref p] ∧ H p = some (DiceO p n) ∧ n < 2 ^ 40 ∧ ∀ m H', Sm p H H' → H' p = some (DiceO p m) → m ≤ n + 1000 → Q (.bl true) H'
theorem pool_fine : (["a", "b", "ab", "zz", "q"] : List Str).Nodup ∧ ∀ z ∈ (["a", "b", "ab", "zz", "q"] : List Str), isNameS z = true := by decide +kernel
theorem pow3 {n c : Nat} (hn : n ≤ 3) (hc : c ≤ 3) : n ^ c ≤ 27 := by
  refine Nat.le_trans (Nat.pow_le_pow_left hn c) ?_
  have : c = 0 ∨ c = 1 ∨ c = 2 ∨ c = 3 := by omega
  rcases this with rfl | rfl | rfl | rfl <;> decide
section
variable {P : Program} {w : World} {K : PySem.W.Frag} {mg : Str → Option Value} {base : Heap}
set_option hygiene false in
local macro_rules | `(tactic| tbr_iter "var") => `(tactic| first | ((with_reducible show W _ (.Name "dice" _) _ _ _); refine w_var 0 rfl (by tbr_iter "vis") rfl ?_) | ((with_reducible show W _ (.Name "columns" _) _ _ _); refine w_var 1 rfl (by tbr_iter "vis") rfl ?_) | ((with_reducible show W _ (.Name "names" _) _ _ _); refine w_var 2 rfl (by tbr_iter "vis") rfl ?_) | ((with_reducible show W _ (.Name "rows" _) _ _ _); refine w_var 3 rfl (by tbr_iter "vis") rfl ?_) | ((with_reducible show W _ (.Name "made" _) _ _ _); refine w_var 4 rfl (by tbr_iter "vis") rfl ?_) | ((with_reducible show W _ (.Name "whole" _) _ _ _); refine w_var 5 rfl (by tbr_iter "vis") rfl ?_))
set_option hygiene false in
local macro_rules | `(tactic| tbr_iter "set") => `(tactic| first | ((with_reducible show WB _ (.Assign [.Name "dice" _] _ _ :: _) _ _ _); refine wb_cons (ws_set 0 ?_ rfl nd)) | ((with_reducible show WB _ (.Assign [.Name "columns" _] _ _ :: _) _ _ _); refine wb_cons (ws_set 1 ?_ rfl nd)) | ((with_reducible show WB _ (.Assign [.Name "names" _] _ _ :: _) _ _ _); refine wb_cons (ws_set 2 ?_ rfl nd)) | ((with_reducible show WB _ (.Assign [.Name "rows" _] _ _ :: _) _ _ _); refine wb_cons (ws_set 3 ?_ rfl nd)) | ((with_reducible show WB _ (.Assign [.Name "made" _] _ _ :: _) _ _ _); refine wb_cons (ws_set 4 ?_ rfl nd)) | ((with_reducible show WB _ (.Assign [.Name "whole" _] _ _ :: _) _ _ _); refine wb_cons (ws_set 5 ?_ rfl nd)))
theorem ok_law_rightT (T : Txt K mg) : CalleeG P w K mg base "_law_right" 11 ["dice"] (spRightT K) := by
  refine def_okG T.f__law_right sc__law_right (fun _ _ _ _ _ _ us hl => match us, hl with | [_], _ => rfl) (fun vs H Q E h => ?_) fun f cdv A outer s H vs Q E hgd hr h => ?_
  · obtain ⟨p, n, rfl, _⟩ := h; rfl
  obtain ⟨p, n, rfl, hp, hn, k⟩ := h
  have nd := sc__law_right.nd
  have hu := room64 hr
  have kc := T.kc_Table
  obtain ⟨fc, FC, BC⟩ := ok_tab_cols (P := P) (w := w) (base := base) T
  obtain ⟨fr, FR, BR⟩ := ok_tab_rows (P := P) (w := w) (base := base) T
  refine wb_cons (ws_set 1 (w_call (ok_law_pick T) (hr.mono (by decide)) passL (wa_cons ?_)) rfl nd)
  tbr_iter "go"
  refine ⟨show 5 ≤ sizeLine by decide, fun pp H1 s1 n1 h1 => wa_nil ⟨p, pp, n, _, rfl, s1 _ _ hp, by omega, SqL.of h1, (fun e => by cases e), (show 5 < 2 ^ 20 by decide), fun v hv H2 s2 hp2 => ?_⟩⟩
  obtain ⟨c, rfl, hc⟩ : ∃ c : Nat, v = .int c ∧ c ≤ 3 := by
    have hv2 : v ∈ [V.int 2, .int 1, .int 3, .int 2, .int 0] := hv
    simp only [List.mem_cons, List.not_mem_nil, or_false] at hv2
    rcases hv2 with rfl | rfl | rfl | rfl | rfl
    · exact ⟨2, rfl, by omega⟩
    · exact ⟨1, rfl, by omega⟩
    · exact ⟨3, rfl, by omega⟩
    · exact ⟨2, rfl, by omega⟩
    · exact ⟨0, rfl, by omega⟩
  have sm2 : Sm p H H2 := (Sm.of hp s1).trans s2
  refine wb_cons (ws_set 2 (w_callB T.z_sorted (wa_cons (w_cutTo (w_call (ok_law_mixed T) (hr.mono (by decide)) passL (wa_cons ?_))))) rfl nd)
  tbr_iter "go"
  refine ⟨show 5 ≤ sizeLine by decide, fun pl H3 s3 n3 h3 => wa_nil ⟨p, pl, n + 1, _, rfl, s3 _ _ hp2, by omega, SqL.of (xs := (["a", "b", "ab", "zz", "q"] : List Str).map V.str) h3, show 5 ≤ 1000 by decide, fun ys q4 m4 H4 py s4 hp4 hm4 n4 h4 => ?_⟩⟩
  obtain ⟨us, rfl, pus⟩ := strs_perm py
  tbr_iter "go"
  refine w_call (ok_law_roll T) (hr.mono (by decide)) passL ?_
  tbr_iter "go"
  have hm4' : m4 ≤ n + 1 + 5 := hm4
  refine ⟨p, m4, 3, rfl, hp4, by omega, by decide, by decide, fun r H5 s5 hp5 r0 r1 => ?_⟩
  tbr_iter "go"
  have er : (1 : Int) + r = ((1 + r.toNat : Nat) : Int) := by omega
  rw [er]
  refine ⟨q4, 1 + r.toNat, us.map V.str, rfl, rfl, SqL.of (s5.lst h4), fun q6 H6 s6 n6 h6 => wa_nil ?_⟩
  rw [← List.map_take] at h6
  have tl : (us.take (1 + r.toNat)).length ≤ 3 := by
    rw [List.length_take]
    have := Nat.min_le_left (1 + r.toNat) us.length
    omega
  refine kv_sortedS (SqL.of h6) (by omega) fun zs q7 H7 pz so s7 n7 h7 => ?_
  have tp : 1 ≤ (us.take (1 + r.toNat)).length := by
    have := pus.length_eq
    rw [List.length_take, this]
    show 1 ≤ min (1 + r.toNat) 5
    omega
  have zl := pz.length_eq
  have znd : zs.Nodup := pz.nodup_iff.mpr ((List.take_sublist _ _).nodup (pus.nodup_iff.mpr pool_fine.1))
  have znm : ∀ z ∈ zs, isNameS z = true := fun z hz => pool_fine.2 z (pus.mem_iff.mp (List.mem_of_mem_take (pz.mem_iff.mp hz)))
  have zpw := sortedS_pw so
  have sm7 : Sm p H H7 := (((sm2.same s3).trans s4).trans s5).same (s6.trans s7)
  have hp7 : H7 p = some (DiceO p (m4 + 1)) := (s6.trans s7) _ _ hp5
  refine wb_cons (ws_set 3 (w_call (ok_law_drawn T) (hr.mono (by decide)) passL ?_) rfl nd)
  tbr_iter "go"
  refine ⟨p, q7, m4 + 1, c, zs, rfl, hp7, by omega, h7, hc, by omega, fun us8 raw q8 m8 H8 hur sub s8 hp8 hm8 n8 h8 => ?_⟩
  have hrl : raw.length ≤ 27 := by
    have e := sub.length_le
    rw [tupsL_len] at e
    exact Nat.le_trans e (pow3 (by omega) hc)
  have hrz : ∀ r ∈ raw, r.length = c ∧ ∀ z ∈ r, z ∈ zs := fun r hr => tupsL_mem.mp (sub.subset hr)
  have hrow : ∀ r ∈ raw, NRow c r := fun r hr => ⟨(hrz r hr).1, fun z hz => znm z ((hrz r hr).2 z hz)⟩
  have hul : us8.length ≤ 27 := by rw [hur.len]; exact hrl
  have sm8 := sm7.trans s8
  refine wb_cons (ws_set 4 (w_cmeth T.cr_Table T.cm_Table_of (ok_tab_of T) (hr.mono (by decide)) passL (w_glob (glob_ref T.g_Table) ⟨rfl, ?_⟩)) rfl nd)
  tbr_iter "go"
  refine kv_tupleL (SqL.of h8) fun q9 H9 s9 n9 h9 => wa_nil ⟨q9, c, us8, raw, rfl, hc, SqT.of h9, Nat.lt_of_le_of_lt hul (by decide), rows_sl hur (Sl.of s9), hrow, fun a Ha sa na ta => ?_⟩
  have sma := sm8.same (s9.trans sa)
  have hpa := (s9.trans sa) _ _ hp8
  have hla := (s9.trans sa) _ _ h8
  have hura := rows_sl hur (Sl.of (s9.trans sa))
  refine wb_cons (ws_if (wt_bool (ww_or (wt_not (wt_val (w_callG (ok_picks_right T) hgd hr passL ?_))))))
  tbr_iter "go"
  refine ⟨p, a, q8, m8, c, us8, raw, rfl, hpa, by omega, ta, hla, hura, hrl, hrow, hc, fun mb Hb sb hpb hmb => ⟨_, rfl, iteF (ww_or1 (wt_not (wt_val (w_callG (ok_maps_right T) hgd hr passL ?_))))⟩⟩
  tbr_iter "go"
  refine ⟨p, a, q8, mb, c, us8, raw, zs, rfl, hpb, by omega, ta.sm sb, sb.lst hla, rows_sl hura sb.sl, hrl, hrow, hc, by omega, fun r hr => (hrz r hr).2, fun mc Hc sc hpc hmc => ⟨_, rfl, iteF (wb_nil ?_)⟩⟩
  have sbc := sb.trans sc
  have smc := sma.trans sbc
  have tac := (ta.sm sb).sm sc
  have hlc := sbc.lst hla
  have hurc := rows_sl hura sbc.sl
  have h7c : Hc q7 = some (.lst (zs.map V.str)) := sbc.lst ((s9.trans sa) _ _ (s8.lst h7))
  refine wb_cons (ws_set 5 (w_call (ok_whole T) (hr.mono (by decide)) passL (wa_cons (w_callTy T.z_tuple (wa_cons (w_call (ok_law_mixed T) (hr.mono (by decide)) passL ?_))))) rfl nd)
  tbr_iter "go"
  refine ⟨p, q7, mc, zs.map V.str, rfl, hpc, by omega, SqL.of h7c, by rw [List.length_map]; omega, fun ysd qd md Hd pyd sd hpd hmd ndd hd => wa_nil ?_⟩
  obtain ⟨vs, rfl, pvs⟩ := strs_perm pyd
  refine kv_tupleL (SqL.of hd) fun qe He se ne he => ?_
  tbr_iter "go"
  have vl := pvs.length_eq
  rw [List.length_map] at hmd
  refine ⟨qe, c, vs, rfl, he, ⟨pvs.nodup_iff.mpr znd, by omega, by omega, fun z hz => znm z (pvs.mem_iff.mp hz)⟩, hc, fun x Hf sf nf tf => ?_⟩
  rw [tab_tups zpw znd pvs c] at tf
  have sef := se.trans sf
  have smf := (smc.trans sd).same sef
  have hpf := sef _ _ hpd
  have taf := (tac.sm sd).same sef
  have hlf := sef _ _ (sd.lst hlc)
  have hurf := rows_sl hurc (sd.sl.trans (Sl.of sef))
  have h7f := sef _ _ (sd.lst h7c)
  have wrow : ∀ r ∈ tupsL zs c, NRow c r := fun r hr => by
    obtain ⟨h1, h2⟩ := tupsL_mem.mp hr
    exact ⟨h1, fun z hz => znm z (h2 z hz)⟩
  have wlen : (tupsL zs c).length ≤ 300 := by
    rw [tupsL_len]
    exact Nat.le_trans (pow3 (by omega) hc) (by omega)
  obtain ⟨f1, f2, f3, f4⟩ := rep_fine hc wrow wlen
  refine wb_cons (ws_if (wt_cmp (w_callB T.z_repr (wa_cons (w_lst (wa_cons (w_prop kc.c T.p_Table_columns FC (hr.mono (by decide)) BC passL ?_)))))))
  tbr_iter "go"
  obtain ⟨dy, qy, py, y1, ⟨uy, y2, y3⟩, _⟩ := id tf
  refine ⟨x, dy, _, rfl, y1, x, c, _, rfl, tf, wa_cons (w_prop kc.c T.p_Table_rows FR (hr.mono (by decide)) BR passL ?_)⟩
  tbr_iter "go"
  refine ⟨x, dy, _, rfl, y1, x, c, _, rfl, tf, fun q8 u8 e8 v8 => wa_nil ⟨two_line, fun b8 Hg sg ng hg => wa_nil (kv_reprD hgd hu (dp_rep hg (sg _ _ e8) (rows_sl v8 (Sl.of sg))) f1 f2 f3 f4 (w_callB T.z_repr (wa_cons (w_lst (wa_cons ?_)))))⟩⟩
  tbr_iter "go"
  refine w_call (ok_law_tups T) (hr.mono (by decide)) passL ?_
  tbr_iter "go"
  refine ⟨q7, c, zs, rfl, sg _ _ h7f, hc, by omega, fun u9 q9 Hh v9 sh nh hh => wa_nil (kv_tupleL (SqL.of hh) fun q10 Hi si ni hi => wa_nil ⟨two_line, fun b9 Hj sj nj hj => wa_nil (kv_reprD hgd hu (dp_rep hj (sj _ _ hi) (rows_sl v9 (Sl.of (si.trans sj)))) f1 f2 f3 f4 (cv_ne rfl ⟨_, rfl, ?_⟩))⟩)⟩
  rw [decide_eq_true rfl]
  refine iteF (wb_nil ?_)
  have sfj := sg.trans (sh.trans (si.trans sj))
  have taj := taf.same sfj
  have txj := tf.same sfj
  obtain ⟨dz, qz, pz2, z1, _⟩ := id taj
  have trow := tab_row hrow
  have tlen : (tabRows raw).length ≤ 27 := Nat.le_trans (tabRows_len raw) hrl
  obtain ⟨g1, g2, g3, g4⟩ := rep_fine hc trow (by omega)
  refine wb_cons (ws_ret (w_and (w_meth kc.c T.m_Table_is_within (ok_tab_within T) (hr.mono (by decide)) passL ?_)))
  tbr_iter "go"
  refine ⟨a, dz, _, rfl, z1, rfl, ?_⟩
  tbr_iter "go"
  refine ⟨a, x, c, _, _, rfl, taj, txj, Nat.lt_of_le_of_lt tlen (by decide), fun r hr => sub.subset (tabRows_mem.mp hr), fun Hk sk => ⟨_, rfl, iteT (w_one (w_cmp (w_callB T.z_repr (wa_cons (w_lst (wa_cons (w_prop kc.c T.p_Table_columns FC (hr.mono (by decide)) BC passL ?_)))))))⟩⟩
  tbr_iter "go"
  have tak := taj.same sk
  have z1k := sk _ _ z1
  refine ⟨a, dz, _, rfl, z1k, a, c, _, rfl, tak, wa_cons (w_prop kc.c T.p_Table_rows FR (hr.mono (by decide)) BR passL ?_)⟩
  tbr_iter "go"
  refine ⟨a, dz, _, rfl, z1k, a, c, _, rfl, tak, fun q8 u8 e8 v8 => wa_nil ⟨two_line, fun b8 Hl sl nl hl => wa_nil (kv_reprD hgd hu (dp_rep hl (sl _ _ e8) (rows_sl v8 (Sl.of sl))) g1 g2 g3 g4 (w_callB T.z_repr (wa_cons (w_lst (wa_cons ?_)))))⟩⟩
  tbr_iter "go"
  have sfl := sfj.trans (sk.trans sl)
  refine kv_setT rfl hu (SqL.of (sfl _ _ hlf)) (rows_sl hurf (Sl.of sfl)) (by omega) fun q2 Hm sm' nm hm => wa_nil (kv_sortedSetT (n := c) rfl hu hm (fun r hr => (hrz r hr).1) fun q3 Hn us3 sn nn hn' hun => wa_nil (kv_tupleL (SqL.of hn') fun q4' Ho so' no ho => wa_nil ⟨two_line, fun b9 Hp' sp' np hp' => wa_nil (kv_reprD hgd hu (dp_rep hp' (sp' _ _ ho) (rows_sl (tabRows_is raw ▸ hun) (Sl.of (so'.trans sp')))) g1 g2 g3 g4 (cv_eq rfl ?_))⟩))
  have sEnd := sfl.trans (sm'.trans (sn.trans (so'.trans sp')))
  refine qb (k md Hp' (smf.same sEnd) (sEnd _ _ hpf) (by omega)) (by simp)
end
end Ax
end
section
set_option maxHeartbeats 4000000
open PySem PySem.Spec PyProof.Rows L2 Ax
set_option hygiene false in
local macro_rules | `(tactic| tbr_iter "boot") => `(tactic| with_reducible first | exact Ax.b_len | exact Ax.b_all | exact Ax.b_any | exact Ax.b_sorted | exact Ax.b_isinstance | exact Ax.b_abs | exact Ax.b_max | exact Ax.b_min | exact Ax.b_sum | exact Ax.b_repr | exact Ax.b_iter | exact Ax.b_ord | exact Ax.b_chr | exact Ax.b_str | exact Ax.b_int | exact Ax.b_bool | exact Ax.b_tuple | exact Ax.b_list | exact Ax.b_dict | exact Ax.b_set | exact Ax.b_range | exact Ax.b_enumerate | exact Ax.b_zip)
set_option hygiene false in
local macro_rules | `(tactic| tbr_iter "vis") => `(tactic| first | exact Or.inl rfl | exact Or.inr (Or.inl rfl) | exact Or.inr (Or.inr rfl))
set_option hygiene false in
local macro_rules | `(tactic| tbr_iter "w") => `(tactic| first
  | refine wb_cons ?_
  | refine wb_nil ?_
  | refine ws_ret ?_
  | refine ws_if ?_
  | refine ws_sub ?_
  | refine wa_cons ?_
  | refine wa_nil ?_
  | refine w_int ?_
  | refine w_str ?_
  | refine w_bl ?_
  | refine w_non ?_
  | tbr_iter "var"
  | refine w_bin ?_
  | refine w_cmp ?_
  | refine w_chain ?_
  | refine w_and ?_
  | refine w_or ?_
  | refine w_one ?_
  | refine w_not ?_
  | refine w_ix ?_
  | refine w_ifExp ?_
  | refine w_tup ?_
  | refine w_lst ?_
  | refine wt_not ?_
  | refine wt_bool ?_
  | refine ww_and ?_
  | refine ww_and1 ?_
  | refine ww_or ?_
  | refine ww_or1 ?_
  | refine wt_cmp ?_
  | refine wt_val ?_
  | tbr_iter "call"
  | (refine w_glob (by tbr_iter "mg") ?_)
  | (refine w_callB (by tbr_iter "z") ?_)
  | (refine w_callTy (by tbr_iter "z") ?_)
  | (refine w_bltT (by tbr_iter "z") ?_))
set_option hygiene false in
local macro_rules | `(tactic| tbr_iter "blk") => `(tactic| first | exact blkOk_by (by dsimp only [cxOf, envOfC]; decide +kernel))
set_option hygiene false in
local macro_rules | `(tactic| tbr_iter "iff") => `(tactic| first
  | refine iteT ?_
  | refine iteF ?_
  | refine w_if2 (fun _ => ?_) (fun _ => ?_))
set_option hygiene false in
local macro_rules | `(tactic| tbr_iter "sc") => `(tactic| first | omega | decide)
set_option hygiene false in
local macro_rules | `(tactic| tbr_iter "at") => `(tactic| first | exact atI_0 | exact atI_1 | exact atI_2)
set_option hygiene false in
local macro_rules | `(tactic| tbr_iter "sql") => `(tactic| ((try dsimp only [L2.cxOf, L2.Cx.blk]); with_reducible first | assumption | exact SqL.of (by assumption)))
set_option hygiene false in
local macro_rules | `(tactic| tbr_iter "sqt") => `(tactic| ((try dsimp only [L2.cxOf, L2.Cx.blk]); with_reducible first | assumption | exact SqT.of (by assumption)))
set_option hygiene false in
local macro_rules | `(tactic| tbr_iter "v") => `(tactic| first
  | refine bv_add ?_
  | refine bv_sub ?_
  | ((with_reducible show BinV _ .Mult _ _ _ _); refine bv_mul (Or.inl ⟨by tbr_iter "sc", by tbr_iter "sc"⟩) ?_)
  | ((with_reducible show BinV _ .Mult _ _ _ _); refine bv_mul (Or.inr ⟨by tbr_iter "sc", by tbr_iter "sc"⟩) ?_)
  | ((with_reducible show BinV _ .Mod _ _ _ _); refine bv_mod (by tbr_iter "sc") ?_)
  | ((with_reducible show BinV _ .FloorDiv _ _ _ _); refine bv_fdiv ⟨by tbr_iter "sc", by tbr_iter "sc"⟩ ?_)
  | ((with_reducible show BinV _ .Pow _ _ _ _); refine bv_pow ⟨by decide, by decide +kernel⟩ ?_)
  | refine cv_lt ?_
  | refine cv_le ?_
  | refine cv_gt ?_
  | refine cv_ge ?_
  | ((with_reducible show CmpV _ .Eq _ _ _ _); refine cv_eq rfl ?_)
  | ((with_reducible show CmpV _ .NotEq _ _ _ _); refine cv_ne rfl ?_)
  | refine iv_list (by tbr_iter "sql") (by tbr_iter "at") ?_
  | refine iv_tup (by tbr_iter "sqt") (by tbr_iter "at") ?_
  | refine kv_len_seq (Or.inl (by tbr_iter "sql")) ?_
  | refine kv_len_seq (Or.inr (by tbr_iter "sqt")) ?_
  | refine kv_int ?_
  | refine kv_intB ?_
  | refine kv_abs ?_
  | refine kv_max2 rfl ?_
  | refine kv_min2 rfl ?_)
set_option hygiene false in
local macro_rules | `(tactic| tbr_iter "b") => `(tactic| first
  | refine ⟨_, rfl, iteT ?_⟩
  | refine ⟨_, rfl, iteF ?_⟩
  | refine iteT ?_
  | refine iteF ?_)
set_option hygiene false in
local macro_rules | `(tactic| tbr_iter "go") => `(tactic| repeat (first | tbr_iter "w" | tbr_iter "v" | tbr_iter "b"))
set_option hygiene false in
local macro_rules | `(tactic| tbr_iter "nof") => `(tactic| (intro d hd; cases d <;> first | rfl | exact absurd rfl (hd _)))
set_option hygiene false in
local macro_rules | `(tactic| tbr_iter "e1") => `(tactic| first | ((with_reducible show W _ _ _ _ _); tbr_iter "w") | ((with_reducible show WA _ _ _ _ _); tbr_iter "w") | ((with_reducible show WT _ _ _ _ _); tbr_iter "w") | ((with_reducible show WW _ _ _ _ _); tbr_iter "w") | tbr_iter "v")
set_option hygiene false in
local macro_rules | `(tactic| tbr_iter "ex") => `(tactic| repeat (tbr_iter "e1"))
set_option hygiene false in
local macro_rules | `(tactic| tbr_iter "z") => `(tactic| ((try dsimp only [L2.cxOf]); with_reducible first | exact T.z_IndexError | exact T.z_ValueError | exact T.z_abs | exact T.z_all | exact T.z_bool | exact T.z_classmethod | exact T.z_dict | exact T.z_enumerate | exact T.z_int | exact T.z_isinstance | exact T.z_iter | exact T.z_len | exact T.z_list | exact T.z_max | exact T.z_min | exact T.z_property | exact T.z_range | exact T.z_repr | exact T.z_set | exact T.z_sorted | exact T.z_str | exact T.z_tuple))
set_option hygiene false in
local macro_rules | `(tactic| tbr_iter "mg") => `(tactic| ((try dsimp only [L2.cxOf]); with_reducible first | exact T.c_ALPHABET | exact T.c_MAX_LETTERS | exact T.c_MAX_COLUMNS | exact T.c_MOST_VALUES))
namespace Ax
def spLaw02 (K : PySem.W.Frag) : Sp := fun vs H Q _ => ∃ (a : Addr) (ns : List Int), vs = [.ref a] ∧ SqL K H a (ns.map V.int) ∧ ns.length ≤ 63 ∧ ∀ H', Q (.bl true) H'
set_option hygiene false in
local macro_rules | `(tactic| tbr_iter "lt") => `(tactic| repeat (first
  | exact lit_str | exact lit_int | exact lit_bl | exact lit_non | exact lity_nil | exact lita_nil
  | refine lity_dict ?_ | refine lity_dict1 ?_ | refine lity_cons ?_ ?_ | refine lita_cons ?_ ?_ | refine lit_tup ?_ | refine lit_lst ?_))
section
variable {X : Cx} {σ : L2.St} {H H0 : Hp} {Q : VK} {pos : Pos} {k1 v1 : Expr} {es : List Expr} {os : List (Option PyData)}
/-- {k1: v1} -/
theorem w_dict1 (h : ∀ p H1, Same H H1 → H p = none → H1 p = some (.dK []) → W X k1 σ H1 fun a1 H2 => W X v1 σ H2 fun b1 H3 => H3 p = some (.dK []) ∧ ∃ x1 : Key, a1 = kV x1 ∧ Q (.ref p) (upd H3 p (.dK (putsL [(x1, b1)])))) :
    W X (.Dict [some k1] [v1] pos) σ H Q := by
  refine W.of (pe_disp (trs := [(W X k1, W X v1)]) (pps_cons W.pe W.pe pps_nil) rfl rfl (by simp) (by simp)) ?_
  intro p hp
  refine W.mono (h p _ (same_new hp) hp upd_same) fun a1 H2 h => ?_
  refine W.mono h fun b1 H3 ⟨h3, x1, e1, q⟩ => ?_
  exact ⟨h3, [(x1, b1)], by rw [e1] <;> rfl, (show 1 ≤ 15 by decide), q⟩
theorem lity_dict1 {x : Str} {i : Int} {j1 j2 : Nat} {p1 p2 : Pos} (h2 : LitY X es σ H0 os) (hs : starEach (.Dict [some (.Constant (.str x) j1 p1)] [.Constant (.int i) j2 p2] pos :: es) X.env = (false, eval (.Dict [some (.Constant (.str x) j1 p1)] [.Constant (.int i) j2 p2] pos) X.env) :: starEach es X.env := by rfl) : LitY X (.Dict [some (.Constant (.str x) j1 p1)] [.Constant (.int i) j2 p2] pos :: es) σ H0 (none :: os) :=
  ⟨by rw [List.length_cons, List.length_cons, h2.len], fun H Q s h => wa_cons (w_dict1 fun p H1 s1 n1 hp => w_str (w_int ⟨hp, .inr x, rfl, by
    have sE : Same H (upd H1 p (.dK (putsL [(.inr x, .int i)]))) := same_upd s1 n1
    exact h2.run _ _ (s.trans sE) fun vs H2 s2 hds => h _ H2 (sE.trans s2) (.cons (.reg (.dct (s2 _ _ upd_same))) hds)⟩)) hs⟩
end
def oddL : List (Option PyData) := [some (.str "a"), some (.str "z"), some (.str "abcdefgh"), some (.str "in"), some (.str "not"), some (.str ""), some (.str "abcdefghi"), some (.str "A"), some (.str "a1"), some (.str "a b"), some (.str " a"), some (.str "a\n"), some (.str "_"), some (.str "a-b")]
def oddM : List (Option PyData) := [some .none, some (.int 0), some (.bool true), some (.tuple []), some (.tuple [.str "a"]), some (.list [.str "a"]), none, none]
def flagsB : List Bool := List.replicate 5 true ++ List.replicate 17 false
def flagsD : PyData := .list (flagsB.map .bool)
theorem dpa_bls {K : PySem.W.Frag} {H : Hp} : ∀ bs : List Bool, DpAll K H (bs.map V.bl) (bs.map PyData.bool)
  | [] => .nil
  | b :: bs => .cons (.bl b) (dpa_bls bs)
theorem atI_last {α : Type} {xs : List α} {n : Nat} {v : α} (hl : xs.length = n + 1) (h : xs[n]? = some v) : atI xs (-1) = some v := by
  unfold atI ixN
  rw [hl, if_neg (by omega), if_pos (by omega)]
  show xs[((-1 : Int) + ((n + 1 : Nat) : Int)).toNat]? = some v
  rw [show ((-1 : Int) + ((n + 1 : Nat) : Int)).toNat = n by omega]
  exact h
def sixL : List Str := ["a", "b", "c", "d", "e", "f"]
abbrev sixF : List Str := ["f", "e", "d", "c", "b", "a"]
theorem six_ends : (tupsL sixL 3)[0]? = some (["a", "a", "a"] : List Str) ∧ (tupsL sixL 3)[215]? = some (["f", "f", "f"] : List Str) := by decide +kernel
def pairL : List (List Str) := sixL.map fun z => [z, z]
theorem pair_fine : (∀ r ∈ (tupsL sixL 3).map (pickR [0, 0]), r ∈ pairL) ∧ (∀ r ∈ pairL, r ∈ (tupsL sixL 3).map (pickR [0, 0])) ∧ pairL.Pairwise fun a b => rle a b = true ∧ a ≠ b := by decide +kernel
theorem six_pick : tabRows ((tupsL sixL 3).map (pickR [0, 0])) = pairL := by
  rw [tabRows_congr (ys := pairL) fun r => ⟨pair_fine.1 r, pair_fine.2.1 r⟩, tab_sorted pair_fine.2.2]
def oneA : List Str := ["a"]
theorem one_fine : ValsOk oneA ∧ (oneA.Pairwise fun a b => strLe a b = true) ∧ oneA.Nodup := ⟨⟨by decide +kernel, by decide, by decide, by decide +kernel⟩, by decide +kernel, by decide +kernel⟩
def toldD2 : PyData := .list [.int 216, .tuple [.str "a", .str "a", .str "a"], .tuple [.str "f", .str "f", .str "f"], .int 6, .tuple [.tuple []], .int 3]
theorem told_fine2 : SeqAt.shaped toldD2 = true ∧ PyData.eqv toldD2 toldD2 = true := by decide +kernel
theorem six_fine : ValsOk sixF ∧ (sixL.Pairwise fun a b => strLe a b = true) ∧ sixL.Nodup ∧ True := ⟨⟨by decide +kernel, by decide, by decide, by decide +kernel⟩, by decide +kernel, by decide +kernel, trivial⟩
theorem odd_fine : (∀ o ∈ oddL ++ oddM, o.all okD = true) ∧ ((oddL ++ oddM).map fun o => o.any isNameD) = flagsB ∧ SeqAt.shaped flagsD = true ∧ PyData.eqv flagsD flagsD = true := by decide +kernel
section
variable {P : Program} {w : World} {K : PySem.W.Frag} {mg : Str → Option Value} {base : Heap}
set_option hygiene false in
local macro_rules | `(tactic| tbr_iter "var") => `(tactic| first | ((with_reducible show W _ (.Name "script" _) _ _ _); refine w_var 0 rfl (by tbr_iter "vis") rfl ?_) | ((with_reducible show W _ (.Name "spot" _) _ _ _); refine w_var 1 rfl (by tbr_iter "vis") rfl ?_) | ((with_reducible show W _ (.Name "dice" _) _ _ _); refine w_var 2 rfl (by tbr_iter "vis") rfl ?_) | ((with_reducible show W _ (.Name "turn" _) _ _ _); refine w_var 3 rfl (by tbr_iter "vis") rfl ?_) | ((with_reducible show W _ (.Name "some" _) _ _ _); refine w_var 4 rfl (by tbr_iter "vis") rfl ?_) | ((with_reducible show W _ (.Name "six" _) _ _ _); refine w_var 5 rfl (by tbr_iter "vis") rfl ?_) | ((with_reducible show W _ (.Name "told" _) _ _ _); refine w_var 6 rfl (by tbr_iter "vis") rfl ?_) | ((with_reducible show W _ (.Name "value" _) _ _ _); refine w_var 7 rfl (by tbr_iter "vis") rfl ?_))
set_option hygiene false in
local macro_rules | `(tactic| tbr_iter "set") => `(tactic| first | ((with_reducible show WB _ (.Assign [.Name "script" _] _ _ :: _) _ _ _); refine wb_cons (ws_set 0 ?_ rfl nd)) | ((with_reducible show WB _ (.Assign [.Name "spot" _] _ _ :: _) _ _ _); refine wb_cons (ws_set 1 ?_ rfl nd)) | ((with_reducible show WB _ (.Assign [.Name "dice" _] _ _ :: _) _ _ _); refine wb_cons (ws_set 2 ?_ rfl nd)) | ((with_reducible show WB _ (.Assign [.Name "turn" _] _ _ :: _) _ _ _); refine wb_cons (ws_set 3 ?_ rfl nd)) | ((with_reducible show WB _ (.Assign [.Name "some" _] _ _ :: _) _ _ _); refine wb_cons (ws_set 4 ?_ rfl nd)) | ((with_reducible show WB _ (.Assign [.Name "six" _] _ _ :: _) _ _ _); refine wb_cons (ws_set 5 ?_ rfl nd)) | ((with_reducible show WB _ (.Assign [.Name "told" _] _ _ :: _) _ _ _); refine wb_cons (ws_set 6 ?_ rfl nd)) | ((with_reducible show WB _ (.Assign [.Name "value" _] _ _ :: _) _ _ _); refine wb_cons (ws_set 7 ?_ rfl nd)))
theorem ok_law (T : Txt K mg) {f : Addr} {fd : FuncData} (F : FunD K "law" "law" (defArgs s_law) (defBody s_law) (defScope s_law) [] [] f fd) : FnG P w K mg base 12 f ["script"] (spLaw02 K) := by
  refine fnG_of F sc_law (fun _ _ _ _ _ _ us hl => match us, hl with | [_], _ => rfl) (fun vs H Q E h => ?_) fun cdv A outer s H vs Q E hgd hr h => ?_
  · obtain ⟨a, ns, rfl, _⟩ := h; rfl
  obtain ⟨a, ns, rfl, hs, hl, k⟩ := h
  have nd := sc_law.nd
  have hu := room64 hr
  have kc := T.kc_Table
  refine wb_cons (ws_for 1 (wi_range1 T.z_range ?_) rfl nd (passes_of rfl))
  tbr_iter "go"
  refine ⟨_, rfl, by split <;> split <;> omega, by split <;> split <;> omega, ?_⟩
  generalize hN : (if (if ((ns.map V.int).length : Int) < 6 then ((ns.map V.int).length : Int) else 6) > 1 then (if ((ns.map V.int).length : Int) < 6 then ((ns.map V.int).length : Int) else 6) else 1 : Int).toNat = N
  have hN5 : N ≤ 6 := by rw [← hN]; split <;> split <;> omega
  clear hN
  refine ⟨N, _, _, walk_range, fun i σ Hc => ∃ c1 c2 c3 c4 c5 c6 c7, σ = [some (.ref a), c1, c2, c3, c4, c5, c6, c7] ∧ Same H Hc, ⟨_, _, _, _, _, _, _, rfl, Same.refl _⟩, fun _ _ _ _ _ => trivial, ?_, ?_⟩
  · rintro i v σ Hx Hc hi ⟨c1, c2, c3, c4, c5, c6, c7, rfl, sc⟩ ⟨e, rfl⟩
    subst e
    refine wb_cons (ws_set 2 (w_call (ok_law_dice T) (hr.mono (by decide)) passL ?_) rfl nd)
    tbr_iter "go"
    refine ⟨a, ns, i, by show [V.ref a, V.int (0 + (i : Int))] = _; rw [Int.zero_add], sc.seq hs, hl, by omega, fun p H5 s5 n5 hp5 => ?_⟩
    refine wb_cons (ws_for 3 (wi_range1 T.z_range ?_) rfl nd (passes_of rfl))
    tbr_iter "go"
    refine ⟨4, rfl, by omega, by omega, 4, _, _, walk_range (lo := 0) (n := 4), fun j σ Hd => ∃ d1 d3 d4 d5 d6 d7 m, σ = [some (.ref a), d1, some (.ref p), d3, d4, d5, d6, d7] ∧ Sm p H5 Hd ∧ Hd p = some (DiceO p m) ∧ m ≤ 1000 * j, ⟨_, _, _, _, _, _, 0, rfl, Sm.refl hp5, hp5, by omega⟩, fun _ _ _ _ _ => trivial, ?_, ?_⟩
    · rintro j v σ Hy Hd hj ⟨d1, d3, d4, d5, d6, d7, m, rfl, sm, hpd, hm⟩ ⟨e, rfl⟩
      subst e
      refine wb_cons (ws_if (wt_not (wt_val (w_callG (ok_law_rightT T) hgd hr passL ?_))))
      tbr_iter "go"
      exact ⟨p, m, rfl, hpd, by omega, fun m2 H6 s6 hp6 hm2 => ⟨_, rfl, iteF (wb_nil (wb_nil ⟨_, _, _, _, _, _, m2, rfl, sm.trans s6, hp6, by omega⟩))⟩⟩
    · rintro σ Hd ⟨d1, d3, d4, d5, d6, d7, m, rfl, sm, hpd, hm⟩
      refine wb_nil ⟨_, _, _, _, _, _, _, rfl, fun b o hb => ?_⟩
      have hb5 := (sc.trans s5) b o hb
      refine sm.keep b o hb5 fun z => ?_
      have := sc b o hb
      rw [z, n5] at this
      cases this
  · rintro σ Hc ⟨c1, c2, c3, c4, c5, c6, c7, rfl, sc⟩
    refine wb_cons (ws_set 4 (w_listY oddL (by tbr_iter "lt") (Same.refl _) fun p1 v1 H1 s1 n1 h1 a1 => ?_) rfl nd)
    refine wb_cons (ws_set 4 (w_bin ?_) rfl nd)
    tbr_iter "var"
    refine w_listY oddM (by tbr_iter "lt") (Same.refl _) fun p2 v2 H2 s2 n2 h2 a2 => bv_catY (s2 _ _ h1) h2 (a1.imp fun _ _ q => q.same s2) a2 (show 22 ≤ 1000 by decide) fun p3 H3 s3 n3 h3 a3 => ?_
    have al := a3.len
    refine wb_cons (ws_if (wt_cmp (w_lcI [("value", 7)] (gName 7) tYes (fun _ _ _ _ _ => pg_name nd rfl (Or.inl rfl) (Or.inr rfl)) (fun _ _ _ _ _ => pts_nil) rfl nd (by tbr_iter "blk") (lcC_I mono_name mono_yes (wi_val ?_)))))
    tbr_iter "go"
    refine itv_list (SqL.of h3) ⟨_, _, itN_seq (seqIt_list (SqL.of h3)), by rw [al]; exact (show 22 < sizeLine by decide), fun i => (oddL ++ oddM)[i]?.map fun o => V.bl (o.any isNameD), fun i x H4 hi s4 hv => ?_, fun D H4 s4 n4 h4 => ?_⟩
    · have hv : (v1 ++ v2)[i]? = some x := hv
      obtain ⟨o, eo, ha⟩ := a3.at hv
      refine ⟨rfl, Same.refl _, fun _ _ _ _ _ => w_call (ok_is_name T) (hr.mono (by decide)) passL ?_⟩
      tbr_iter "go"
      refine ⟨x, o, rfl, (ha.same s4).any (odd_fine.1 o (List.mem_of_getElem? eo)), fun H5 s5 => ⟨s5, ?_⟩⟩
      show ((oddL ++ oddM)[i]?.map _) = _
      rw [eo]
      rfl
    rw [al, fm_get] at h4
    have h4' : H4 D = some (.lst (flagsB.map V.bl)) := by
      rw [h4, ← odd_fine.2.1, List.map_map]
      rfl
    tbr_iter "go"
    refine ⟨show 1 ≤ sizeLine by decide, fun p5 H5 s5 n5 h5 => ?_⟩
    tbr_iter "go"
    refine bv_rep h5 (by decide) (by decide) (show 1 * 5 ≤ sizeLine by decide) fun r5 H6 s6 n6 h6 => ?_
    tbr_iter "go"
    refine ⟨show 1 ≤ sizeLine by decide, fun p7 H7 s7 n7 h7 => ?_⟩
    tbr_iter "go"
    refine bv_rep h7 (by decide) (by decide) (show 1 * 17 ≤ sizeLine by decide) fun r7 H8 s8 n8 h8 => bv_cat ((s7.trans s8) _ _ h6) h8 (show 5 + 17 ≤ sizeLine by decide) fun r9 H9 s9 n9 h9 => ?_
    have h9' : H9 r9 = some (.lst (flagsB.map V.bl)) := h9
    have s49 := s5.trans (s6.trans (s7.trans (s8.trans s9)))
    refine cv_neD hu (d := flagsD) (d' := flagsD) (.lst (SqL.of (s49 _ _ h4')) (dpa_bls flagsB)) (.lst (SqL.of h9') (dpa_bls flagsB)) odd_fine.2.2.1 odd_fine.2.2.1 ⟨_, rfl, ?_⟩
    rw [odd_fine.2.2.2]
    refine iteF (wb_nil ?_)
    clear h4 h4' h5 h6 h7 h8 h9 h9' a1 a2 a3 al
    refine wb_cons (ws_set 5 (w_call (ok_whole T) (hr.mono (by decide)) passL (wa_cons (w_tup ?_))) rfl nd)
    tbr_iter "go"
    refine ⟨show 6 ≤ sizeLine by decide, fun pz Ha sa na ha => ?_⟩
    tbr_iter "go"
    refine ⟨pz, 3, sixF, rfl, ha, six_fine.1, by omega, fun x Hb sb nb tb => ?_⟩
    rw [tab_tups six_fine.2.1 six_fine.2.2.1 (show sixF.Perm sixL from List.reverse_perm sixL) 3] at tb
    obtain ⟨dx, qx, px, x1, ⟨ux, x2, x3⟩, _⟩ := id tb
    obtain ⟨fr, FR, BR⟩ := ok_tab_rows (P := P) (w := w) (base := base) T
    refine wb_cons (ws_set 6 (w_lst (wa_cons (w_callB T.z_len (wa_cons ?_)))) rfl nd)
    tbr_iter "var"
    refine wa_nil (kv_lenO T.m_Table___len__ (ok_tab_len T) (hr.mono (by decide)) passL x1 ⟨x, 3, _, rfl, tb, fun Hc1 sc1 => ⟨_, rfl, by rw [tupsL_len]; decide, ?_⟩⟩)
    have tb1 := tb.same sc1
    refine wa_cons (w_ix (w_prop kc.c T.p_Table_rows FR (hr.mono (by decide)) BR passL ?_))
    tbr_iter "go"
    refine ⟨x, dx, _, rfl, sc1 _ _ x1, x, 3, _, rfl, tb1, fun q1 u1 e1 v1 => ?_⟩
    have ul : u1.length = 216 := by rw [v1.len, tupsL_len]; rfl
    obtain ⟨y0, g0⟩ : ∃ y, u1[0]? = some y := ⟨_, List.getElem?_eq_getElem (by omega)⟩
    obtain ⟨y9, g9⟩ : ∃ y, u1[215]? = some y := ⟨_, List.getElem?_eq_getElem (by omega)⟩
    obtain ⟨r0, k0, b0, rfl, w0⟩ := v1.at g0
    obtain ⟨r9, k9, b9, rfl, w9⟩ := v1.at g9
    have k0 : r0 = (["a", "a", "a"] : List Str) := by
      rw [six_ends.1] at k0
      exact (Option.some.inj k0).symm
    have k9 : r9 = (["f", "f", "f"] : List Str) := by
      rw [six_ends.2] at k9
      exact (Option.some.inj k9).symm
    subst k0 k9
    tbr_iter "go"
    refine iv_tup (SqT.of e1) (atI_nat (i := 0) g0) (wa_cons (w_ix (w_prop kc.c T.p_Table_rows FR (hr.mono (by decide)) BR passL ?_)))
    tbr_iter "go"
    refine ⟨x, dx, _, rfl, sc1 _ _ x1, x, 3, _, rfl, tb1, fun q2 u2 e2 v2 => ?_⟩
    have ul2 : u2.length = 216 := by rw [v2.len, tupsL_len]; rfl
    obtain ⟨y9', g9'⟩ : ∃ y, u2[215]? = some y := ⟨_, List.getElem?_eq_getElem (by omega)⟩
    obtain ⟨r9', k9', b9', rfl, w9'⟩ := v2.at g9'
    have k9' : r9' = (["f", "f", "f"] : List Str) := by
      rw [six_ends.2] at k9'
      exact (Option.some.inj k9').symm
    subst k9'
    refine w_un (w_int ⟨_, un_neg, 1, rfl, ?_⟩)
    refine iv_tup (SqT.of e2) (atI_last ul2 g9') ?_
    refine wa_cons (w_callB T.z_len (wa_cons ?_))
    refine w_meth kc.c T.m_Table_picked (ok_picked T) (hr.mono (by decide)) passL ?_
    tbr_iter "go"
    refine ⟨x, dx, _, rfl, sc1 _ _ x1, rfl, ?_⟩
    tbr_iter "go"
    have wrow : ∀ r ∈ tupsL sixL 3, NRow 3 r := fun r hr => by
      obtain ⟨h1, h2⟩ := tupsL_mem.mp hr
      exact ⟨h1, fun z hz => six_fine.1.2.2.2 z (List.mem_reverse.mpr (h2 z hz))⟩
    refine ⟨x, 3, _, [0, 0], rfl, tb1, by decide, fun i hi => by simp at hi; omega, by omega, wrow, by rw [tupsL_len]; decide, fun x7 Hd sd nd7 td => wa_nil ?_⟩
    rw [six_pick] at td
    obtain ⟨dy, qy, py, y1, _⟩ := id td
    refine kv_lenO T.m_Table___len__ (ok_tab_len T) (hr.mono (by decide)) passL y1 ⟨x7, 2, _, rfl, td, fun He se => ⟨_, rfl, by decide, ?_⟩⟩
    refine wa_cons (w_prop kc.c T.p_Table_rows FR (hr.mono (by decide)) BR passL (w_call (ok_whole T) (hr.mono (by decide)) passL (wa_cons (w_tup ?_))))
    tbr_iter "go"
    refine ⟨one_line, fun pa Hf sf nf hf => ?_⟩
    tbr_iter "go"
    refine ⟨pa, 0, oneA, rfl, hf, one_fine.1, by omega, fun x8 Hg sg ng tg => ?_⟩
    rw [tab_tups one_fine.2.1 one_fine.2.2 (List.Perm.refl _) 0] at tg
    obtain ⟨dz, qz, pz8, z1, _⟩ := id tg
    refine ⟨x8, dz, _, rfl, z1, x8, 0, _, rfl, tg, fun q8 u8 e8 v8 => wa_cons ?_⟩
    tbr_iter "go"
    refine ⟨show 6 ≤ sizeLine by decide, fun pt Hh sh nh hh => ?_⟩
    have hh' : Hh pt = some (.lst [V.int 216, .ref b0, .ref b9', .int 6, .ref q8, .int 3]) := by
      rw [hh, tupsL_len]
      rfl
    refine wb_cons (ws_ret (w_cmp ?_))
    tbr_iter "var"
    refine Lit.run (d := toldD2) (H0 := Hh) (by unfold toldD2; tbr_iter "lt") _ _ (Same.refl _) fun v Hi si hd => ?_
    have s1h := sd.trans (se.trans (sf.trans (sg.trans sh)))
    obtain ⟨b8, rfl, h8⟩ : ∃ b8, u8 = [V.ref b8] ∧ Hg b8 = some (.tup []) := by
      cases v8 with
      | cons h1 h2 =>
        obtain ⟨b, rfl, hb⟩ := h1
        cases h2
        exact ⟨b, rfl, hb⟩
    have shi := sh.trans si
    have dp : Dp K Hi (.ref pt) toldD2 := .lst (SqL.of (si _ _ hh')) (.cons (.int _) (.cons (.tup (SqT.of ((s1h.trans si) _ _ w0)) (dpa_strs ["a", "a", "a"])) (.cons (.tup (SqT.of ((s1h.trans si) _ _ w9')) (dpa_strs ["f", "f", "f"])) (.cons (.int _)
      (.cons (.tup (SqT.of (shi _ _ e8)) (.cons (.tup (SqT.of (shi _ _ h8)) .nil) .nil)) (.cons (.int _) .nil))))))
    refine cv_eqD hu dp hd told_fine2.1 told_fine2.1 ?_
    rw [told_fine2.2]
    exact k Hi
end
end Ax
end
section
set_option maxHeartbeats 0
namespace Ax
open PySem PySem.Spec PyProof.Rows L2
theorem law_at {w : World} {K : PySem.W.Frag} {h : Heap} {mg : Str → Option Value} {fa : Addr} (X : K.In h) (G : h.Ns mainGlobals mg) (hfa : mg ("law" : Str) = some (.ref fa)) (c : He5.SaysA faL fnL K) (m : exA K = true) : LawAtG PySem.Challenge.rw_askable_k02_picked_and_mapped w K 12 63 "script" mg fa := by
  obtain ⟨m1, m2⟩ := Bool.and_eq_true_iff.mp m
  have T := txt_of X G c m1 m2
  obtain ⟨fd, F⟩ := c.def_ 23 (d := fnL[23]) rfl
  have e := hfa.symm.trans (He.glo_ok X G (c.fact 23 (f := .glo "law") rfl))
  cases e
  exact ⟨spLaw02 K, fun H a ns hl hs => ⟨a, ns, rfl, hs, hl, fun _ => rfl⟩, fun base Kb Gb => ok_law T F⟩
end Ax
open PySem PySem.W PySem.Calls PyProof.Rows
theorem PySem.Challenge.cw_askable_k02_picked_and_mapped_holds : PySem.Challenge.rw_askable_k02_picked_and_mapped.Holds := by
  w_on; o_law
  refine HandSHeadRun.head_any (r := OpenLaw.row PySem.Challenge.rw_askable_k02_picked_and_mapped) (q := view (OpenLaw.row PySem.Challenge.rw_askable_k02_picked_and_mapped).prog [35]) (H := Ax.hk) (ob := Ax.ob) (M := 9000) (loose := Ax.loose) (d := HandSHeadRun.topDef (OpenLaw.row PySem.Challenge.rw_askable_k02_picked_and_mapped).prog 35) (kwd := []) Ax.ob_eq
    (by kernel_rfl) (fun s => by kernel_rfl) Ax.run (by kernel_rfl) (by kernel_rfl) (by kernel_rfl) (by rfl) (by first | assumption | decide +kernel) (by decide +kernel) ⟨rfl, rfl, rfl, rfl, rfl, by decide +kernel⟩ ?hw ?hc
  case hw => w_witness2
  case hc =>
    refine Ax.walk_G (l := PySem.Challenge.rw_askable_k02_picked_and_mapped) (n := 63) (k := 12) (x := "script") rfl (by decide) (by kernel_rfl) ⟨rfl, by decide, by decide⟩ ?F
    case F =>
      intro w mg fa h Y G hmg0
      obtain ⟨K, KX, c, m⟩ := Y
      have hmg : mg ("law" : PySem.Str) = some (.ref fa) := by
        have e : (HandSHeadRun.topDef (OpenLaw.row PySem.Challenge.rw_askable_k02_picked_and_mapped).prog 35).name = ("law" : PySem.Str) := by kernel_rfl
        rw [← e]
        exact hmg0
      exact ⟨K, KX, Ax.law_at KX G hmg c m⟩
end
