import PyProof.Rows.All
import Wide.All
import OpenK.AllK
import Wide.FinOn
import PyProof.EqAt
import PyProof.EqKinds
import PyProof.TupleCall
import HandS.ForMost
import HandS.Exc
import HandS.ExcOwn
import HandS.WordsExc
import HandS.TryOnly
import HandS.Walk
import HandS.IsInst
import HandS.Flow
import HandS.Wide
import HandS.Defaults
import KE.KTreeR
import HandS.HeadNt
import HandS.DictComp
import HandS.Lambda
import HandS.TupAny
import HandS.TupMul
import HandS.DictSub
import KE.DatumOrd
import HandS.Star
import HandS.ClsMeth
import HandS.Property
import KE.SortData
import HandS.Conv
import PyProof.EnumMake
import PyProof.Draws
import HandS.Zip
import HandS.FStr
import HandS.HeadHook4
import PySem.Challenge.RW_askable_k01_tables
import HandS.Head0
import HandS.Head1
import HandS.Head2
import HandS.HeadEnd
import HandS.HeadWalk
import HandS.NestedK
import KE.KStateDown
import KE.KNestM
import HandS.Small
import HandS.Strs
import PyProof.TupleOfSeq
import HandS.Style
import HandS.SetKeys
import HandS.SetFor
import HandS.TupSets
import PyProof.ReprRoads
import PyProof.ReprBulk
import HandS.EndBits
import HandS.Comp
import HandS.OwnEq
import OpenK.KOps
import PyProof.InstNe
import HandS.IterVal
import OpenK.KMeth
import KE.KCallOwn
import KE.KOwnIter
import PyProof.P3In
import HandS.Deep
import PyProof.ListTruth
import PyProof.FactsLen
import PyProof.FactsAll.dict
import PyProof.SetRoads
set_option Elab.async false
set_option linter.all false
set_option maxRecDepth 100000
section
set_option maxHeartbeats 2000000
namespace Ax
open PySem PySem.Spec PyProof.Rows L2

/-! ### the builtins by their names -/
theorem b_len : bootBuiltins (Str.ofString "len") = some (.builtin "len") := by decide +kernel
theorem b_all : bootBuiltins (Str.ofString "all") = some (.builtin "all") := by decide +kernel
theorem b_any : bootBuiltins (Str.ofString "any") = some (.builtin "any") := by decide +kernel
theorem b_sorted : bootBuiltins (Str.ofString "sorted") = some (.builtin "sorted") := by decide +kernel
theorem b_isinstance : bootBuiltins (Str.ofString "isinstance") = some (.builtin "isinstance") := by decide +kernel
theorem b_abs : bootBuiltins (Str.ofString "abs") = some (.builtin "abs") := by decide +kernel
theorem b_max : bootBuiltins (Str.ofString "max") = some (.builtin "max") := by decide +kernel
theorem b_min : bootBuiltins (Str.ofString "min") = some (.builtin "min") := by decide +kernel
theorem b_sum : bootBuiltins (Str.ofString "sum") = some (.builtin "sum") := by decide +kernel
theorem b_repr : bootBuiltins (Str.ofString "repr") = some (.builtin "repr") := by decide +kernel
theorem b_iter : bootBuiltins (Str.ofString "iter") = some (.builtin "iter") := by decide +kernel
theorem b_ord : bootBuiltins (Str.ofString "ord") = some (.builtin "ord") := by decide +kernel
theorem b_chr : bootBuiltins (Str.ofString "chr") = some (.builtin "chr") := by decide +kernel
theorem b_str : bootBuiltins (Str.ofString "str") = some (.type "str") := by decide +kernel
theorem b_int : bootBuiltins (Str.ofString "int") = some (.type "int") := by decide +kernel
theorem b_bool : bootBuiltins (Str.ofString "bool") = some (.type "bool") := by decide +kernel
theorem b_tuple : bootBuiltins (Str.ofString "tuple") = some (.type "tuple") := by decide +kernel
theorem b_list : bootBuiltins (Str.ofString "list") = some (.type "list") := by decide +kernel
theorem b_dict : bootBuiltins (Str.ofString "dict") = some (.type "dict") := by decide +kernel
theorem b_set : bootBuiltins (Str.ofString "set") = some (.type "set") := by decide +kernel
theorem b_range : bootBuiltins (Str.ofString "range") = some (.type "range") := by decide +kernel
theorem b_enumerate : bootBuiltins (Str.ofString "enumerate") = some (.type "enumerate") := by decide +kernel
theorem b_zip : bootBuiltins (Str.ofString "zip") = some (.type "zip") := by decide +kernel
/-! ### the weakest precondition of a piece of syntax -/
structure W (X : Cx) (e : Expr) (σ : L2.St) (H : Hp) (Q : VK) : Prop where
  run : ∀ (pins : List (Addr × Obj)) (s : Shared), Inv X pins σ H s → wpAny (model X.prog X.w) X.A (eval e X.env) (EP X pins σ Q) X.xe s
structure WT (X : Cx) (e : Expr) (σ : L2.St) (H : Hp) (Q : Bool → Hp → Prop) : Prop where
  run : ∀ (pins : List (Addr × Obj)) (s : Shared), Inv X pins σ H s → wpAny (model X.prog X.w) X.A (isTrue e X.env (eval e X.env)) (TP X pins σ Q) X.xe s
structure WW (X : Cx) (e : Expr) (σ : L2.St) (H : Hp) (Q : Bool → Hp → Prop) : Prop where
  run : ∀ (whole : Sem Value) (pins : List (Addr × Obj)) (s : Shared), Inv X pins σ H s → wpAny (model X.prog X.w) X.A (isTrue e X.env whole) (TP X pins σ Q) X.xe s
structure WA (X : Cx) (es : List Expr) (σ : L2.St) (H : Hp) (Q : List V → Hp → Prop) : Prop where
  run : ∀ (pos : Pos) (pins : List (Addr × Obj)) (s : Shared), Inv X pins σ H s → wpAny (model X.prog X.w) X.A (spliced (backTo pos (starEach es X.env))) (AP X pins σ Q) X.xe s
structure WS (X : Cx) (st : Stmt) (D : Ends) (σ : L2.St) (H : Hp) : Prop where
  run : ∀ (pins : List (Addr × Obj)) (s : Shared), Inv X pins σ H s → wpAny (model X.prog X.w) X.A (exec st X.env) (SP X pins D) X.xe s
structure WB (X : Cx) (st : List Stmt) (D : Ends) (σ : L2.St) (H : Hp) : Prop where
  run : ∀ (pins : List (Addr × Obj)) (s : Shared), Inv X pins σ H s → wpAny (model X.prog X.w) X.A (execs st X.env) (SP X pins D) X.xe s
section
variable {X : Cx} {e a b : Expr} {es : List Expr} {st : Stmt} {bl : List Stmt} {te : TE} {tt : TT} {ta : TA} {ts : TS} {σ : L2.St} {H : Hp} {Q : VK} {D : Ends} {pos : Pos}
theorem W.pe : PE X e (W X e) := ⟨fun pins s _ _ _ I h => h.run pins s I⟩
theorem WT.pt : PT X e (WT X e) := ⟨fun pins s _ _ _ I h => h.run pins s I⟩
theorem WW.pw : PW X e (WW X e) := ⟨fun wh pins s _ _ _ I h => h.run wh pins s I⟩
theorem WA.pa : PA X es (WA X es) := ⟨fun pos pins s _ _ _ I h => h.run pos pins s I⟩
theorem WS.ps : PS X st (WS X st) := ⟨fun pins s _ _ _ I h => h.run pins s I⟩
theorem WB.pss : PSs X bl (WB X bl) := ⟨fun pins s _ _ _ I h => h.run pins s I⟩
theorem W.of (h : PE X e te) (q : te σ H Q) : W X e σ H Q := ⟨fun pins s I => h.run pins s σ H Q I q⟩
theorem WT.of {Q : Bool → Hp → Prop} (h : PT X e tt) (q : tt σ H Q) : WT X e σ H Q := ⟨fun pins s I => h.run pins s σ H Q I q⟩
theorem WW.of {Q : Bool → Hp → Prop} (h : PW X e tt) (q : tt σ H Q) : WW X e σ H Q := ⟨fun wh pins s I => h.run wh pins s σ H Q I q⟩
theorem WA.of {Q : List V → Hp → Prop} (h : PA X es ta) (q : ta σ H Q) : WA X es σ H Q := ⟨fun pos pins s I => h.run pos pins s σ H Q I q⟩
theorem WS.of (h : PS X st ts) (q : ts D σ H) : WS X st D σ H := ⟨fun pins s I => h.run pins s σ H D I q⟩
theorem WB.of (h : PSs X bl ts) (q : ts D σ H) : WB X bl D σ H := ⟨fun pins s I => h.run pins s σ H D I q⟩
theorem W.mono {Q' : VK} (h : W X e σ H Q) (k : ∀ v H', Q v H' → Q' v H') : W X e σ H Q' := ⟨fun pins s I => thn (h.run pins s I) fun _ _ ⟨v, H', J, r, q⟩ => ⟨v, H', J, r, k v H' q⟩⟩
theorem WT.mono {Q Q' : Bool → Hp → Prop} (h : WT X e σ H Q) (k : ∀ v H', Q v H' → Q' v H') : WT X e σ H Q' := ⟨fun pins s I => thn (h.run pins s I) fun _ _ ⟨H', J, q⟩ => ⟨H', J, k _ H' q⟩⟩
theorem WA.mono {Q Q' : List V → Hp → Prop} (h : WA X es σ H Q) (k : ∀ v H', Q v H' → Q' v H') : WA X es σ H Q' := ⟨fun pos pins s I => thn (h.run pos pins s I) fun _ _ ⟨v, H', J, r, q⟩ => ⟨v, H', J, r, k v H' q⟩⟩
/-! ### names, constants -/
theorem w_var (i : Nat) {x : Str} {v : V} (hN : X.N[i]? = some x) (hv : Vis X.env.scope x) (hs : σ[i]? = some (some v)) (h : Q v H) (hd : (x == ("__debug__" : Str)) = false := by decide) (hcd : (x == ("__classdict__" : Str)) = false := by decide) :
    W X (.Name x pos) σ H Q := W.of (pe_var hN hv hd hcd) ⟨v, hs, h⟩
theorem w_int {i j} (h : Q (.int i) H) : W X (.Constant (.int i) j pos) σ H Q := W.of pe_int h
theorem w_str {x j} (h : Q (.str x) H) : W X (.Constant (.str x) j pos) σ H Q := W.of pe_str h
theorem w_bl {x j} (h : Q (.bl x) H) : W X (.Constant (.bool x) j pos) σ H Q := W.of pe_bl h
theorem w_non {j} (h : Q .non H) : W X (.Constant .none j pos) σ H Q := W.of pe_non h
theorem w_glob {x : Str} {v : V} (hm : ∃ u, X.mg x = some u ∧ RelV v u) (h : Q v H) (hg : Gl X x := by rfl) (hd : (x == ("__debug__" : Str)) = false := by decide) : W X (.Name x pos) σ H Q := by
  obtain ⟨u, hm, r⟩ := hm
  exact W.of (pe_glob hg hm r hd) h
theorem w_bltT {T : String} (hm : X.mg (Str.ofString T) = none) (h : Q (.ty T) H) (hv : bootBuiltins (Str.ofString T) = some (.type T) := by tbr_iter "boot") (hg : Gl X (Str.ofString T) := by rfl) (hn : (Str.ofString T) ≠ "__name__" := by decide)
    (hd : ((Str.ofString T) == ("__debug__" : Str)) = false := by decide) : W X (.Name (Str.ofString T) pos) σ H Q := W.of (pe_bltn (v := .ty T) hg hm hv rfl hn hd) h
/-! ### operators: the rule is chosen behind the operands -/
structure BinV (X : Cx) (op : Operator) (x y : V) (H : Hp) (Q : VK) : Prop where
  ex : ∃ r : R2, OpR X (binaryOp op) r ∧ r x y H Q
structure CmpV (X : Cx) (op : CmpOp) (x y : V) (H : Hp) (Q : VK) : Prop where
  ex : ∃ r : R2, OpR X (compareOp op) r ∧ r x y H Q
structure UnV (X : Cx) (op : UnaryOp) (x : V) (H : Hp) (Q : VK) : Prop where
  ex : ∃ r : V → Hp → VK → Prop, UnR X (unaryOp op) r ∧ r x H Q
structure IxV (X : Cx) (x y : V) (H : Hp) (Q : VK) : Prop where
  ex : ∃ r : R2, IxR X r ∧ r x y H Q
structure CallV (X : Cx) (f : Value) (vs : List V) (H : Hp) (Q : VK) : Prop where
  ex : ∃ r : List V → Hp → VK → Prop, CallR X f r ∧ r vs H Q
structure MtV (X : Cx) (id : String) (x : V) (vs : List V) (H : Hp) (Q : VK) : Prop where
  ex : ∃ r : V → List V → Hp → VK → Prop, MtR X id r ∧ r x vs H Q
theorem binV_r {op : Operator} : OpR X (binaryOp op) (BinV X op) := fun pins s σ H x y v u Q I rx ry ⟨_, ho, h⟩ => ho pins s σ H x y v u Q I rx ry h
theorem cmpV_r {op : CmpOp} : OpR X (compareOp op) (CmpV X op) := fun pins s σ H x y v u Q I rx ry ⟨_, ho, h⟩ => ho pins s σ H x y v u Q I rx ry h
theorem unV_r {op : UnaryOp} : UnR X (unaryOp op) (UnV X op) := fun pins s σ H x v Q I rx ⟨_, ho, h⟩ => ho pins s σ H x v Q I rx h
theorem ixV_r : IxR X (IxV X) := fun a b pins s σ H x y v u Q I rx ry ⟨_, ho, h⟩ z => ho a b pins s σ H x y v u Q I rx ry h z
theorem callV_r {f : Value} : CallR X f (CallV X f) := fun pins s σ H xs us Q I r ⟨_, ho, h⟩ => ho pins s σ H xs us Q I r h
theorem mtV_r {id : String} : MtR X id (MtV X id) := fun pins s σ H x xs v us Q I rx r ⟨_, ho, h⟩ => ho pins s σ H x xs v us Q I rx r h
theorem w_bin {op : Operator} (h : W X a σ H fun x H1 => W X b σ H1 fun y H2 => BinV X op x y H2 Q) : W X (.BinOp a op b pos) σ H Q := W.of (pe_op binV_r W.pe W.pe) h
theorem w_un {op : UnaryOp} (h : W X a σ H fun x H1 => UnV X op x H1 Q) : W X (.UnaryOp op a pos) σ H Q := W.of (pe_un unV_r W.pe) h
theorem w_cmp {op : CmpOp} (h : W X a σ H fun x H1 => W X b σ H1 fun y H2 => CmpV X op x y H2 Q) (hm : behindInMarks op b = false := by rfl) : W X (.Compare a [op] [b] pos) σ H Q := W.of (pe_cmpR cmpV_r W.pe W.pe hm) h
theorem wt_cmp {op : CmpOp} {Q : Bool → Hp → Prop} (h : W X a σ H fun x H1 => W X b σ H1 fun y H2 => CmpV X op x y H2 fun z H3 => ∃ c, z = .bl c ∧ Q c H3) (hm : behindInMarks op b = false := by rfl) : WT X (.Compare a [op] [b] pos) σ H Q :=
  WT.of (pt_cmpR cmpV_r W.pe W.pe hm) h
theorem w_chain {c : Expr} {op op' : CmpOp} (h : W X a σ H fun x H1 => W X b σ H1 fun y H2 => CmpV X op x y H2 fun z H3 => ∃ k, z = .bl k ∧ (if k = true then W X c σ H3 fun w' H4 => CmpV X op' y w' H4 Q else Q (.bl false) H3))
    (hm : lastMarks [op, op'] [b, c] = false := by with_unfolding_all rfl) : W X (.Compare a [op, op'] [b, c] pos) σ H Q := W.of (pe_chain cmpV_r cmpV_r W.pe W.pe W.pe hm) h
theorem w_ix (h : W X a σ H fun x H1 => W X b σ H1 fun y H2 => IxV X x y H2 Q) (hs : PlainIx b := by exact fun _ _ => rfl) : W X (.Subscript a b pos) σ H Q := W.of (pe_ix ixV_r W.pe W.pe hs) h
theorem w_ifExp {c : Expr} (h : WT X c σ H fun k H1 => if k = true then W X a σ H1 Q else W X b σ H1 Q) : W X (.IfExp c a b pos) σ H Q := W.of (pe_ifExp WT.pt W.pe W.pe) h
theorem w_and {rest : List Expr} (h : W X a σ H fun x H1 => ∃ c, x = .bl c ∧ if c = true then W X (.BoolOp .And (b :: rest) pos) σ H1 Q else Q (.bl false) H1) : W X (.BoolOp .And (a :: b :: rest) pos) σ H Q := W.of (pe_and W.pe W.pe) h
theorem w_or {rest : List Expr} (h : W X a σ H fun x H1 => ∃ c, x = .bl c ∧ if c = true then Q (.bl true) H1 else W X (.BoolOp .Or (b :: rest) pos) σ H1 Q) : W X (.BoolOp .Or (a :: b :: rest) pos) σ H Q := W.of (pe_or W.pe W.pe) h
theorem w_one {op} (h : W X a σ H Q) : W X (.BoolOp op [a] pos) σ H Q := W.of (pe_one W.pe) h
theorem w_not (h : W X a σ H fun x H1 => ∃ c, x = .bl c ∧ Q (.bl (!c)) H1) : W X (.UnaryOp .Not a pos) σ H Q := W.of (pe_not W.pe) h
/-! ### tests -/
section
variable {Q : Bool → Hp → Prop}
theorem wt_val (h : W X e σ H fun x H1 => ∃ c, x = .bl c ∧ Q c H1) (he : ∀ whole, isTrue e X.env whole = (do let v ← whole; standAt e.pos; holding [v] (truthy v)) := by intro _; rfl) : WT X e σ H Q := WT.of (pt_val W.pe he) h
theorem wt_truth (h : W X e σ H fun x H1 => ∃ k, TruV X.K x H1 k ∧ Q k H1) (he : ∀ whole, isTrue e X.env whole = (do let v ← whole; standAt e.pos; holding [v] (truthy v)) := by intro _; rfl) : WT X e σ H Q := WT.of (pt_truth W.pe he) h
theorem wt_not (h : WT X a σ H fun c H1 => Q (!c) H1) : WT X (.UnaryOp .Not a pos) σ H Q := WT.of (pt_not WT.pt) h
theorem wt_bool {op} {es : List Expr} (h : WW X (.BoolOp op es pos) σ H Q) : WT X (.BoolOp op es pos) σ H Q := ⟨fun pins s I => h.run _ pins s I⟩
theorem ww_and {rest : List Expr} (h : WT X a σ H fun c H1 => if c = true then WW X (.BoolOp .And (b :: rest) pos) σ H1 Q else Q false H1) : WW X (.BoolOp .And (a :: b :: rest) pos) σ H Q := WW.of (pw_and WT.pt WW.pw) h
theorem ww_and1 (h : WT X a σ H Q) : WW X (.BoolOp .And [a] pos) σ H Q := WW.of (pw_and1 WT.pt) h
theorem ww_or {rest : List Expr} (h : WT X a σ H fun c H1 => if c = true then Q true H1 else WW X (.BoolOp .Or (b :: rest) pos) σ H1 Q) : WW X (.BoolOp .Or (a :: b :: rest) pos) σ H Q := WW.of (pw_or WT.pt WW.pw) h
theorem ww_or1 (h : WT X a σ H Q) : WW X (.BoolOp .Or [a] pos) σ H Q := WW.of (pw_or1 WT.pt) h
end
/-! ### arguments, displays -/
theorem wa_nil {Q : List V → Hp → Prop} (h : Q [] H) : WA X [] σ H Q := WA.of pa_nil h
theorem wa_cons {Q : List V → Hp → Prop} (h : W X e σ H fun x H1 => WA X es σ H1 fun xs H2 => Q (x :: xs) H2) (hs : starEach (e :: es) X.env = (false, eval e X.env) :: starEach es X.env := by rfl) : WA X (e :: es) σ H Q := WA.of (pa_cons W.pe WA.pa hs) h
theorem w_tup {x1} (h : WA X es σ H fun xs H1 => xs.length ≤ sizeLine ∧ ∀ p H2, Same H1 H2 → H1 p = none → H2 p = some (.tup xs) → Q (.ref p) H2) : W X (.Tuple es x1 pos) σ H Q :=
  W.of (pe_tup WA.pa) (show WA X es σ H _ from WA.mono h fun xs H1 ⟨z, k⟩ => ⟨z, fun p hp => k p _ (fun b o eb => by rw [upd_ne (ne_of_none eb hp)]; exact eb) hp upd_same⟩)
theorem w_lst (h : WA X es σ H fun xs H1 => xs.length ≤ sizeLine ∧ ∀ p H2, Same H1 H2 → H1 p = none → H2 p = some (.lst xs) → Q (.ref p) H2) : W X (.List es pos) σ H Q :=
  W.of (pe_lst WA.pa) (show WA X es σ H _ from WA.mono h fun xs H1 ⟨z, k⟩ => ⟨z, fun p hp => k p _ (fun b o eb => by rw [upd_ne (ne_of_none eb hp)]; exact eb) hp upd_same⟩)
/-! ### calls of builtins by name -/
theorem w_callB {id : String} {p : Pos} (hm : X.mg (Str.ofString id) = none) (h : WA X (e :: es) σ H fun vs H1 => CallV X (.builtin id) vs H1 Q) (hv : bootBuiltins (Str.ofString id) = some (.builtin id) := by tbr_iter "boot") (hg : Gl X (Str.ofString id) := by rfl) (hn : (Str.ofString id) ≠ "__name__" := by decide)
    (hdb : ((Str.ofString id) == ("__debug__" : Str)) = false := by decide) (he : starEach (e :: es) X.env = (false, eval e X.env) :: starEach es X.env := by rfl) (hpl : (backTo pos (starEach es X.env)).any (·.1) = false := by rfl) : W X (.Call (.Name (Str.ofString id) p) (e :: es) [] pos) σ H Q :=
  W.of (pe_callB callV_r hg hm hv WA.pa hn hdb he hpl) h
theorem w_callTy {T : String} {p : Pos} (hm : X.mg (Str.ofString T) = none) (h : WA X (e :: es) σ H fun vs H1 => CallV X (.type T) vs H1 Q) (hv : bootBuiltins (Str.ofString T) = some (.type T) := by tbr_iter "boot") (hg : Gl X (Str.ofString T) := by rfl) (hn : (Str.ofString T) ≠ "__name__" := by decide)
    (hdb : ((Str.ofString T) == ("__debug__" : Str)) = false := by decide) (he : starEach (e :: es) X.env = (false, eval e X.env) :: starEach es X.env := by rfl) (hpl : (backTo pos (starEach es X.env)).any (·.1) = false := by rfl) : W X (.Call (.Name (Str.ofString T) p) (e :: es) [] pos) σ H Q :=
  W.of (pe_callTy callV_r hg hm hv WA.pa hn hdb he hpl) h
end
end Ax
end
section
set_option maxHeartbeats 2000000
namespace Ax
open PySem PySem.Spec PyProof.Rows L2

/-! ### heaps: what stands -/
/-- all but lists, dicts and soft things stand -/
def softO : HO → Bool
  | .lst _ => true
  | .dK _ => true
  | .dT _ => true
  | .set _ _ => true
  | .tbl _ => true
  | .ext _ => true
  | _ => false
def Sl (H H' : Hp) : Prop := ∀ a o, H a = some o → softO o = false → H' a = some o
theorem Sl.refl (H : Hp) : Sl H H := fun _ _ h _ => h
theorem Sl.trans {H H1 H2 : Hp} (a : Sl H H1) (b : Sl H1 H2) : Sl H H2 := fun c o h n => b c o (a c o h n) n
theorem Sl.of {H H' : Hp} (e : Same H H') : Sl H H' := fun b o h _ => e b o h
theorem Sl.lst {H H' : Hp} {p : Addr} {xs ys : List V} (e : Sl H H') (h : H' p = some (.lst xs)) : Sl H (upd H' p (.lst ys)) := fun a o ha hs => by
  have h1 := e a o ha hs
  by_cases z : a = p
  · rw [z, h] at h1
    cases h1
    cases hs
  · rw [upd_ne z]
    exact h1
theorem Sl.upd {H H' : Hp} {p : Addr} {o u : HO} (e : Sl H H') (h : H' p = some o) (hs : softO o = true) : Sl H (upd H' p u) := fun a v ha hv => by
  have h1 := e a v ha hv
  by_cases z : a = p
  · rw [z, h] at h1
    cases h1
    rw [hs] at hv
    cases hv
  · rw [upd_ne z]
    exact h1
theorem Sl.tup {K : PySem.W.Frag} {H H' : Hp} {a : Addr} {xs : List V} (e : Sl H H') (h : SqT K H a xs) : SqT K H' a xs := by
  rcases h with (h | ⟨o, h⟩) | h
  · exact .inl (.inl (e _ _ h rfl))
  · exact .inl (.inr ⟨o, e _ _ h rfl⟩)
  · exact .inr h
theorem same_tup {K : PySem.W.Frag} {H H' : Hp} {a : Addr} {xs : List V} (e : Same H H') (h : SqT K H a xs) : SqT K H' a xs := Sl.tup (Sl.of e) h
theorem same_upd {H H' : Hp} {p : Addr} {o : HO} (e : Same H H') (n : H p = none) : Same H (upd H' p o) := fun a u ha => by
  rw [upd_ne (ne_of_none ha n)]
  exact e a u ha
theorem same_new {H : Hp} {p : Addr} {o : HO} (n : H p = none) : Same H (upd H p o) := same_upd (Same.refl H) n
theorem same_nul {H H' : Hp} {p : Addr} (e : Same H H') (h : H' p = none) : H p = none := Same.free e h
/-! ### data -/
mutual
theorem dp_same {K : PySem.W.Frag} {H H' : Hp} (s : Same H H') : ∀ {d : PyData} {v : V}, Dp K H v d → Dp K H' v d
  | .none, _, h => by cases h; exact .non
  | .bool _, _, h => by cases h; exact .bl _
  | .int _, _, h => by cases h; exact .int _
  | .str _, _, h => by cases h; exact .str _
  | .list ds, _, h => by
    cases h with
    | lst hs ha => exact .lst (s.seq hs) (dpa_same s ha)
  | .tuple ds, _, h => by
    cases h with
    | tup hs ha => exact .tup (same_tup s hs) (dpa_same s ha)
  | .dict _, _, h => by cases h
theorem dpa_same {K : PySem.W.Frag} {H H' : Hp} (s : Same H H') : ∀ {ds : List PyData} {vs : List V}, DpAll K H vs ds → DpAll K H' vs ds
  | [], _, h => by cases h; exact .nil
  | d :: ds, _, h => by
    cases h with
    | cons h1 h2 => exact .cons (dp_same s h1) (dpa_same s h2)
end
mutual
def hard : PyData → Bool
  | .list _ => false
  | .tuple ds => hardAll ds
  | .dict _ => false
  | _ => true
def hardAll : List PyData → Bool
  | [] => true
  | d :: ds => hard d && hardAll ds
end
mutual
theorem dp_sl {K : PySem.W.Frag} {H H' : Hp} (s : Sl H H') : ∀ {d : PyData} {v : V}, hard d = true → Dp K H v d → Dp K H' v d
  | .none, _, _, h => by cases h; exact .non
  | .bool _, _, _, h => by cases h; exact .bl _
  | .int _, _, _, h => by cases h; exact .int _
  | .str _, _, _, h => by cases h; exact .str _
  | .list ds, _, hd, h => by simp [hard] at hd
  | .tuple ds, _, hd, h => by
    cases h with
    | tup hs ha => exact .tup (s.tup hs) (dpa_sl s (by simpa [hard] using hd) ha)
  | .dict _, _, _, h => by cases h
theorem dpa_sl {K : PySem.W.Frag} {H H' : Hp} (s : Sl H H') : ∀ {ds : List PyData} {vs : List V}, hardAll ds = true → DpAll K H vs ds → DpAll K H' vs ds
  | [], _, _, h => by cases h; exact .nil
  | d :: ds, _, hd, h => by
    cases h with
    | cons h1 h2 =>
      have z : hard d = true ∧ hardAll ds = true := by simpa [hardAll] using hd
      exact .cons (dp_sl s z.1 h1) (dpa_sl s z.2 h2)
end
theorem dpa_len {K : PySem.W.Frag} {H : Hp} : ∀ {ds : List PyData} {vs : List V}, DpAll K H vs ds → vs.length = ds.length
  | [], _, h => by cases h; rfl
  | d :: ds, _, h => by
    cases h with
    | cons h1 h2 => simp [dpa_len h2]
theorem dpa_get {K : PySem.W.Frag} {H : Hp} : ∀ {ds : List PyData} {vs : List V} {i : Nat} {v : V}, DpAll K H vs ds → vs[i]? = some v → ∃ d, ds[i]? = some d ∧ Dp K H v d
  | [], _, i, v, h, e => by cases h; simp at e
  | d :: ds, _, i, v, h, e => by
    cases h with
    | cons h1 h2 =>
      cases i with
      | zero => simp at e; subst e; exact ⟨d, rfl, h1⟩
      | succ i =>
        obtain ⟨d', e1, e2⟩ := dpa_get (i := i) h2 (by simpa using e)
        exact ⟨d', by simpa using e1, e2⟩
theorem dpa_getD {K : PySem.W.Frag} {H : Hp} : ∀ {ds : List PyData} {vs : List V} {i : Nat} {d : PyData}, DpAll K H vs ds → ds[i]? = some d → ∃ v, vs[i]? = some v ∧ Dp K H v d
  | [], _, i, v, h, e => by simp at e
  | d :: ds, _, i, v, h, e => by
    cases h with
    | cons h1 h2 =>
      cases i with
      | zero => simp at e; subst e; exact ⟨_, rfl, h1⟩
      | succ i =>
        obtain ⟨d', e1, e2⟩ := dpa_getD (i := i) h2 (by simpa using e)
        exact ⟨d', by simpa using e1, e2⟩
theorem dpa_app {K : PySem.W.Frag} {H : Hp} : ∀ {ds es : List PyData} {vs us : List V}, DpAll K H vs ds → DpAll K H us es → DpAll K H (vs ++ us) (ds ++ es)
  | [], _, _, _, h, g => by cases h; exact g
  | d :: ds, _, _, _, h, g => by
    cases h with
    | cons h1 h2 => exact .cons h1 (dpa_app h2 g)
theorem dpa_one {K : PySem.W.Frag} {H : Hp} {v : V} {d : PyData} (h : Dp K H v d) : DpAll K H [v] [d] := .cons h .nil
/-! ### a def that can be called -/
structure Callee (P : Program) (w : World) (K : PySem.W.Frag) (mg : Str → Option Value) (base : Heap) (x : Str) (k : Nat) (ps : List Str) (sp : Sp) : Prop where
  ex : ∃ f fd, FnOk P w K mg base (L2.CX P w) k f fd ps sp ∧ Binds K fd ps [] ∧ mg x = some (.ref f) ∧ PySem.W.keepIn K (.ref f) = true
section
variable {X : Cx} {e a b : Expr} {es : List Expr} {st : Stmt} {bl rest : List Stmt} {σ : L2.St} {H : Hp} {Q : VK} {D : Ends} {pos : Pos}
theorem w_call {x : Str} {k : Nat} {ps : List Str} {sp : Sp} {p : Pos} {E : XK} (C : Callee X.prog X.w X.K X.mg X.base x k ps sp) (hr : Room k X.A) (hx : Passes (L2.CX X.prog X.w) X E) (h : WA X (e :: es) σ H fun vs H1 => sp vs H1 Q E) (hg : Gl X x := by rfl)
    (hdb : (x == ("__debug__" : Str)) = false := by decide) (he : starEach (e :: es) X.env = (false, eval e X.env) :: starEach es X.env := by rfl) (hpl : (backTo pos (starEach es X.env)).any (·.1) = false := by rfl) : W X (.Call (.Name x p) (e :: es) [] pos) σ H Q := by
  obtain ⟨f, fd, F, B, hm, hk⟩ := C.ex
  refine W.of (pe_call F hr hg hm hk B .nil hx WA.pa hdb he hpl) ?_
  show WA X (e :: es) σ H _
  exact WA.mono h fun vs H1 q => by rw [List.append_nil]; exact q
/-! ### statements -/
theorem wb_nil (h : D.nx σ H) : WB X [] D σ H := WB.of pss_nil h
theorem wb_cons (h : WS X st { D with nx := WB X rest D } σ H) : WB X (st :: rest) D σ H := WB.of (pss_cons WS.ps WB.pss) h
theorem ws_ret (h : W X e σ H D.rt) : WS X (.Return (some e) pos) D σ H := WS.of (ps_ret W.pe) h
theorem ws_retN (h : D.rt .non H) : WS X (.Return none pos) D σ H := WS.of ps_retN h
theorem ws_pass (h : D.nx σ H) : WS X (.Pass pos) D σ H := WS.of ps_pass h
theorem ws_break (h : D.bk σ H) : WS X (.Break pos) D σ H := WS.of ps_break h
theorem ws_continue (h : D.ct σ H) : WS X (.Continue pos) D σ H := WS.of ps_continue h
theorem ws_expr (h : W X e σ H fun _ H1 => D.nx σ H1) (hs : swapsWith e none pos.line X.env = pure false := by rfl) : WS X (.Expr e pos) D σ H := WS.of (ps_expr W.pe hs) h
theorem ws_if {c : Expr} {u v : List Stmt} (h : WT X c σ H fun k H1 => if k = true then WB X u D σ H1 else WB X v D σ H1) : WS X (.If c u v pos) D σ H := WS.of (ps_if WT.pt WB.pss WB.pss) h
theorem ws_set (i : Nat) {x : Str} {p2 : Pos} (h : W X e σ H fun v H1 => D.nx (σ.set i (some v)) H1) (hi : X.N[i]? = some x) (hN : X.N.Nodup) (hx : Loc X.env.scope x := by first | exact Or.inl rfl | exact Or.inr rfl)
    (hs : swapsWith e (some (.Name x p2)) pos.line X.env = pure false := by rfl) (hf : X.fn x = true ∨ X.env.scope.names.lookup x = some .local := by first | exact Or.inl rfl | exact Or.inr rfl) : WS X (.Assign [.Name x p2] e pos) D σ H :=
  WS.of (ps_set hN hi hx W.pe hs hf) h
structure SetV (X : Cx) (o i v : V) (H : Hp) (Q : Hp → Prop) : Prop where
  ex : ∃ r : TSet, PSet X r ∧ r o i v H Q
theorem setV_r : PSet X (SetV X) := fun pins s σ H o i v ov iv u Q I ro ri rv ⟨_, hs, h⟩ => hs pins s σ H o i v ov iv u Q I ro ri rv h
theorem ws_sub {o i : Expr} {p : Pos} (h : W X e σ H fun v H1 => W X o σ H1 fun ov H2 => W X i σ H2 fun iv H3 => SetV X ov iv v H3 fun H4 => D.nx σ H4)
    (hs : swapsWithSole [.Subscript o i p] e pos.line X.env = pure false := by rfl) (hw : swappedStores [.Subscript o i p] e X.env = pure none := by rfl)
    (ha : ∀ v, assign (.Subscript o i p) X.env v = (do
      let ov ← holding [v] (eval o X.env)
      let iv ← holding [v, ov] (eval i X.env)
      standAt p
      holding [v, ov, iv] (setItem ov iv v)
      release [v, ov, iv] []) := by intro _; rfl) : WS X (.Assign [.Subscript o i p] e pos) D σ H :=
  WS.of (ps_asg W.pe (pg_sub W.pe W.pe setV_r ha) hs hw) h
theorem sv_list {p : Addr} {xs : List V} {k : Int} {j : Nat} {v : V} {Q : Hp → Prop} (hp : H p = some (.lst xs)) (hj : ixN xs.length k = some j) (h : Q (upd H p (.lst (xs.set j v)))) : SetV X (.ref p) (.int k) v H Q := ⟨_, set_list, p, xs, k, j, rfl, rfl, hp, hj, h⟩
/-- if by its two ways -/
theorem w_if2 {c : Bool} {A B : Prop} (h1 : c = true → A) (h2 : c = false → B) : if c = true then A else B := by
  cases c with
  | true => rw [if_pos rfl]; exact h1 rfl
  | false => rw [if_neg Bool.false_ne_true]; exact h2 rfl
/-! ### operators by values -/
variable {x y : V}
theorem bv_add {i j : Int} (h : Q (.int (i + j)) H) : BinV X .Add (.int i) (.int j) H Q := ⟨_, op_add, i, j, rfl, rfl, h⟩
theorem bv_sub {i j : Int} (h : Q (.int (i - j)) H) : BinV X .Sub (.int i) (.int j) H Q := ⟨_, op_sub, i, j, rfl, rfl, h⟩
theorem bv_mul {i j : Int} (c : CMul i j) (h : Q (.int (i * j)) H) : BinV X .Mult (.int i) (.int j) H Q := ⟨_, op_mul, i, j, rfl, rfl, c, h⟩
theorem bv_mulW {i j : Int} (c : CMulW i j) (h : Q (.int (i * j)) H) : BinV X .Mult (.int i) (.int j) H Q := ⟨_, op_mulW, i, j, rfl, rfl, c, h⟩
theorem bv_mod {i j : Int} (c : 0 < j) (h : Q (.int (i % j)) H) : BinV X .Mod (.int i) (.int j) H Q := ⟨_, op_mod, i, j, rfl, rfl, c, h⟩
theorem bv_fdiv {i j : Int} (c : CDiv i j) (h : Q (.int (i / j)) H) : BinV X .FloorDiv (.int i) (.int j) H Q := ⟨_, op_fdiv, i, j, rfl, rfl, c, h⟩
def CPowW (i j : Int) : Prop := 0 ≤ j ∧ (Builtin.Int.intBits i : Int) * j ≤ 2 ^ 27
theorem op_powW : OpR X (binaryOp .Pow) (rI CPowW fun i j => .int (i ^ j.toNat)) := opI fun _ _ _ _ _ _ _ hc q => pow_int hc.1 hc.2 q
theorem bv_pow {i j : Int} (c : CPowW i j) (h : Q (.int (i ^ j.toNat)) H) : BinV X .Pow (.int i) (.int j) H Q := ⟨_, op_powW, i, j, rfl, rfl, c, h⟩
theorem bv_cat {p q : Addr} {xs ys : List V} (h1 : H p = some (.lst xs)) (h2 : H q = some (.lst ys)) (hl : xs.length + ys.length ≤ sizeLine) (h : ∀ r H2, Same H H2 → H r = none → H2 r = some (.lst (xs ++ ys)) → Q (.ref r) H2) : BinV X .Add (.ref p) (.ref q) H Q :=
  ⟨_, op_cat, p, q, xs, ys, rfl, rfl, h1, h2, hl, fun r hr => h r _ (same_new hr) hr upd_same⟩
theorem cv_lt {i j : Int} (h : Q (.bl (decide (i < j))) H) : CmpV X .Lt (.int i) (.int j) H Q := ⟨_, op_lt, i, j, rfl, rfl, h⟩
theorem cv_le {i j : Int} (h : Q (.bl (decide (i ≤ j))) H) : CmpV X .LtE (.int i) (.int j) H Q := ⟨_, op_le, i, j, rfl, rfl, h⟩
theorem cv_gt {i j : Int} (h : Q (.bl (decide (j < i))) H) : CmpV X .Gt (.int i) (.int j) H Q := ⟨_, op_gt, i, j, rfl, rfl, h⟩
theorem cv_ge {i j : Int} (h : Q (.bl (decide (j ≤ i))) H) : CmpV X .GtE (.int i) (.int j) H Q := ⟨_, op_ge, i, j, rfl, rfl, h⟩
theorem cv_eq (s : scal x y = true) (h : Q (.bl (decide (x = y))) H) : CmpV X .Eq x y H Q := ⟨_, op_eq, s, h⟩
theorem cv_ne (s : scal x y = true) (h : Q (.bl (!decide (x = y))) H) : CmpV X .NotEq x y H Q := ⟨_, op_ne, s, h⟩
theorem cv_eqD {d d' : PyData} (hu : X.A.units + 64 < cLine) (h1 : Dp X.K H x d) (h2 : Dp X.K H y d') (s1 : SeqAt.shaped d = true) (s2 : SeqAt.shaped d' = true) (h : Q (.bl (PyData.eqv d d')) H) : CmpV X .Eq x y H Q := ⟨_, op_eqD hu, d, d', h1, h2, s1, s2, h⟩
theorem cv_neD {d d' : PyData} (hu : X.A.units + 64 < cLine) (h1 : Dp X.K H x d) (h2 : Dp X.K H y d') (s1 : SeqAt.shaped d = true) (s2 : SeqAt.shaped d' = true) (h : Q (.bl (!PyData.eqv d d')) H) : CmpV X .NotEq x y H Q := ⟨_, op_neD hu, d, d', h1, h2, s1, s2, h⟩
theorem cv_leS {s t : Str} (h : Q (.bl (!decide (t.cps.toList < s.cps.toList))) H) : CmpV X .LtE (.str s) (.str t) H Q := by
  first
    | exact ⟨_, op_le_str, s, t, rfl, rfl, h⟩
    | (refine ⟨_, op_le_str, s, t, rfl, rfl, ?_⟩; simpa using h)
theorem cv_inSign {s : Str} {c : Nat} (h : Q (.bl (decide (c ∈ s.cps.toList))) H) : CmpV X .In (.str ⟨#[c]⟩) (.str s) H Q := ⟨_, op_in_sign, c, s, rfl, rfl, h⟩
theorem cv_inSeq {p : Addr} {xs : List V} (h1 : SqL X.K H p xs ∨ SqT X.K H p xs) (fx : flatV x = true) (fa : xs.all flatV = true) (h : Q (.bl (inV x xs)) H) : CmpV X .In x (.ref p) H Q := ⟨_, op_in_seq, p, xs, rfl, h1, fx, fa, by simpa using h⟩
theorem cv_notInSeq {p : Addr} {xs : List V} (h1 : SqL X.K H p xs ∨ SqT X.K H p xs) (fx : flatV x = true) (fa : xs.all flatV = true) (h : Q (.bl (!inV x xs)) H) : CmpV X .NotIn x (.ref p) H Q := ⟨_, op_notIn_seq, p, xs, rfl, h1, fx, fa, by simpa using h⟩
theorem iv_list {p : Addr} {xs : List V} {i : Int} {v : V} (h1 : SqL X.K H p xs) (h2 : atI xs i = some v) (h : Q v H) : IxV X (.ref p) (.int i) H Q := ⟨_, ix_list, p, xs, i, v, rfl, rfl, h1, h2, h⟩
theorem iv_tup {p : Addr} {xs : List V} {i : Int} {v : V} (h1 : SqT X.K H p xs) (h2 : atI xs i = some v) (h : Q v H) : IxV X (.ref p) (.int i) H Q := ⟨_, ix_tup, p, xs, i, v, rfl, rfl, h1, h2, h⟩
theorem atI_int {α : Type} {xs : List α} {i : Int} (h0 : 0 ≤ i) (h : i.toNat < xs.length) : atI xs i = some xs[i.toNat] := by
  have e : i = ((i.toNat : Nat) : Int) := by omega
  have h1 : atI xs ((i.toNat : Nat) : Int) = some xs[i.toNat] := atI_nat (by simp [h])
  rw [← e] at h1
  exact h1
theorem atI_0 {α : Type} {x : α} {r : List α} : atI (x :: r) 0 = some x := by
  have h : atI (x :: r) ((0 : Nat) : Int) = some x := atI_nat rfl
  exact h
theorem atI_1 {α : Type} {x y : α} {r : List α} : atI (x :: y :: r) 1 = some y := by
  have h : atI (x :: y :: r) ((1 : Nat) : Int) = some y := atI_nat rfl
  exact h
theorem atI_2 {α : Type} {x y z : α} {r : List α} : atI (x :: y :: z :: r) 2 = some z := by
  have h : atI (x :: y :: z :: r) ((2 : Nat) : Int) = some z := atI_nat rfl
  exact h
/-! ### calls of builtins by values -/
theorem kv_len_str {z : Str} (h0 : z.length ≤ sizeLine) (h : Q (.int z.length) H) : CallV X (.builtin "len") [.str z] H Q := ⟨_, call_len_str, z, rfl, h0, h⟩
theorem kv_len_seq {p : Addr} {xs : List V} (h0 : SqL X.K H p xs ∨ SqT X.K H p xs) (h : Q (.int xs.length) H) : CallV X (.builtin "len") [.ref p] H Q := ⟨_, call_len_seq, p, xs, rfl, h0, h⟩
theorem kv_isi {c : V} {t u : Value} {k : Bool} (hc : ClsV c u) (ty : TyX X.K H x t) (hk : PySem.W.kitOne X.K t u = some k) (h : Q (.bl k) H) : CallV X (.builtin "isinstance") [x, c] H Q := ⟨_, call_isi, x, c, t, u, k, rfl, hc, ty, hk, h⟩
theorem kv_all {p : Addr} {bs : List Bool} (hc : X.calm = true) (h0 : SqL X.K H p (bs.map V.bl)) (h : Q (.bl (bs.all id)) H) : CallV X (.builtin "all") [.ref p] H Q := ⟨_, cr_all hc, p, bs, rfl, h0, h⟩
theorem kv_any {p : Addr} {bs : List Bool} (hc : X.calm = true) (h0 : SqL X.K H p (bs.map V.bl)) (h : Q (.bl (bs.any id)) H) : CallV X (.builtin "any") [.ref p] H Q := ⟨_, cr_any hc, p, bs, rfl, h0, h⟩
theorem kv_int {i : Int} (h : Q (.int i) H) : CallV X (.type "int") [.int i] H Q := ⟨_, call_int1, .inl ⟨i, rfl, h⟩⟩
theorem kv_intB {k : Bool} (h : Q (.int (if k then 1 else 0)) H) : CallV X (.type "int") [.bl k] H Q := ⟨_, call_int1, .inr ⟨k, rfl, by first | exact h | simpa using h⟩⟩
theorem kv_abs {i : Int} (h : Q (.int (if i < 0 then -i else i)) H) : CallV X (.builtin "abs") [.int i] H Q := ⟨_, call_abs, i, rfl, h⟩
theorem kv_max2 {i j : Int} (hc : X.calm = true) (h : Q (.int (if j > i then j else i)) H) : CallV X (.builtin "max") [.int i, .int j] H Q := ⟨_, call_max2 hc, i, j, rfl, h⟩
theorem kv_min2 {i j : Int} (hc : X.calm = true) (h : Q (.int (if j < i then j else i)) H) : CallV X (.builtin "min") [.int i, .int j] H Q := ⟨_, call_min2 hc, i, j, rfl, h⟩
end
/-! ### types of data -/
def tyD : PyData → String
  | .none => "NoneType"
  | .bool _ => "bool"
  | .int _ => "int"
  | .str _ => "str"
  | .list _ => "list"
  | .tuple _ => "tuple"
  | .dict _ => "dict"
theorem dp_ty {K : PySem.W.Frag} {H : Hp} {v : V} {d : PyData} (h : Dp K H v d) : TyX K H v (.type (tyD d)) := by
  cases h with
  | non => exact .base .non
  | bl b => exact .base (.bl b)
  | int i => exact .base (.int i)
  | str x => exact .base (.str x)
  | lst hs _ =>
    rcases hs with (h | ⟨o, h⟩) | ⟨o, its, n, hk, hc, _⟩
    · exact .base (.lst h)
    · exact .base (.frz h)
    · exact .kList hk hc
  | tup hs _ =>
    rcases hs with (h | ⟨o, h⟩) | ⟨o, its, n, hk, hc, _⟩
    · exact .base (.tup h)
    · exact .fTuple h
    · exact .kTuple hk hc
end Ax
end
section
set_option maxHeartbeats 2000000
namespace Ax
open PySem PySem.Spec PyProof.Rows L2

/-! ### walks -/
structure WI (X : Cx) (tg iter : Expr) (σ : L2.St) (H : Hp) (R : It → Hp → Prop) : Prop where
  run : ∀ (pins : List (Addr × Obj)) (s : Shared), Inv X pins σ H s → wpAny (model X.prog X.w) X.A (eval iter X.env) (fun v s1 => wpAny (model X.prog X.w) X.A (pyIter v) (PIE X pins σ tg R) X.xe s1) X.xe s
/-- iter(x), by values -/
structure IterV (X : Cx) (tg : Expr) (x : V) (H : Hp) (R : It → Hp → Prop) : Prop where
  run : ∀ (pins : List (Addr × Obj)) (s : Shared) (σ : L2.St) (v : Value), Inv X pins σ H s → RelV x v → wpAny (model X.prog X.w) X.A (pyIter v) (PIE X pins σ tg R) X.xe s
section
variable {X : Cx} {tg iter elt : Expr} {σ : L2.St} {H : Hp} {R : It → Hp → Prop} {Q : VK} {pos : Pos} {D : Ends}
theorem WI.pi : PI X tg iter (WI X tg iter) := ⟨fun pins s _ _ _ I h => h.run pins s I⟩
theorem WI.of {wi : TI} (h : PI X tg iter wi) (q : wi σ H R) : WI X tg iter σ H R := ⟨fun pins s I => h.run pins s σ H R I q⟩
theorem wi_val (h : W X iter σ H fun x H1 => IterV X tg x H1 R) : WI X tg iter σ H R := ⟨fun pins s I =>
  thn (h.run pins s I) fun v s1 ⟨x, H1, I1, r, q⟩ => q.run pins s1 σ v I1 r⟩
theorem itv_list {a : Addr} {xs : List V} (h : SqL X.K H a xs) (q : R (Itl X.K a) H) : IterV X tg (.ref a) H R := by
  constructor
  intro pins s1 σ v I1 r1
  cases r1
  obtain ⟨its, rv, p, hz⟩ := I1.list h
  refine wpAny_pyIter_list p.isList ?_
  refine ⟨s1.heap.objs.size, [s1.heap.objs.size], _, _, H, rfl, I1.kept (t' := s1.toks) fun b o e => Heap.get?_push_of_some _ e, turn_list a _, ⟨_, Heap.get?_push_size _ rfl, rfl, rfl⟩, fun b hb => ?_, q⟩
  have e : b = s1.heap.objs.size := by simpa using hb
  subst e
  exact I1.fpOk (Nat.le_refl _) (I1.hok.fresh (Nat.le_refl _))
theorem itv_tup {a : Addr} {xs : List V} (h : SqT X.K H a xs) (q : R (Itt X.K a) H) : IterV X tg (.ref a) H R := by
  constructor
  intro pins s1 σ v I1 r1
  cases r1
  obtain ⟨its, rv, p, hz⟩ := I1.tuple h
  refine wpAny_pyIter_tuple (show s1.heap.IsTuple a its.toArray from p) ?_
  refine ⟨s1.heap.objs.size, [s1.heap.objs.size], _, _, H, rfl, I1.kept (t' := s1.toks) fun b o e => Heap.get?_push_of_some _ e, turn_tuple a _, ⟨_, Heap.get?_push_size _ rfl, rfl, rfl⟩, fun b hb => ?_, q⟩
  have e : b = s1.heap.objs.size := by simpa using hb
  subst e
  exact I1.fpOk (Nat.le_refl _) (I1.hok.fresh (Nat.le_refl _))
theorem itv_str {z : Str} (q : R (Its z) H) : IterV X tg (.str z) H R := by
  constructor
  intro pins s1 σ v I1 r1
  obtain ⟨t, rfl⟩ := r1
  cases ha : z.cps.all (· < 128)
  · exact wpAny_pyIter_wide ha (pi_one (tk := s1.toks) I1 _ (turn_str _ z t "str_iterator" (.inr rfl)) ⟨_, Heap.get?_push_size _ rfl, rfl, rfl⟩ q)
  · exact wpAny_pyIter_ascii ha (pi_one (tk := s1.toks) I1 _ (turn_str _ z t "str_ascii_iterator" (.inl rfl)) ⟨_, Heap.get?_push_size _ rfl, rfl, rfl⟩ q)
theorem wi_range1 {a : Expr} {p : Pos} (hm : X.mg "range" = none) (h : WA X [a] σ H fun vs H1 => ∃ j : Int, vs = [.int j] ∧ -(2 ^ 62) ≤ j ∧ j < 2 ^ 62 ∧ R (Itr 0 j.toNat) H1) (hg : Gl X "range" := by rfl) (hs : starEach [a] X.env = [(false, eval a X.env)] := by rfl) :
    WI X tg (.Call (.Name "range" p) [a] [] pos) σ H R := WI.of (pi_range1 hg hm WA.pa hs) h
/-- a walk over the fixed items xs that nothing but a change of its source disturbs -/
structure SeqIt (J : It) (H : Hp) (xs : List V) : Prop where
  ex : ∃ G : Hp → Prop, Walk J xs.length G (YAt xs) ∧ G H ∧ ∀ H', Same H H' → G H'
theorem seqIt_list {K : PySem.W.Frag} {a : Addr} {xs : List V} (h : SqL K H a xs) : SeqIt (Itl K a) H xs := ⟨_, walk_list, h, fun _ s => s.seq h⟩
theorem seqIt_tup {K : PySem.W.Frag} {a : Addr} {xs : List V} (h : SqT K H a xs) : SeqIt (Itt K a) H xs := ⟨_, walk_tup, h, fun _ s => same_tup s h⟩
def signsV (z : Str) : List V := z.cps.toList.map fun c => V.str ⟨#[c]⟩
theorem seqIt_str {z : Str} : SeqIt (Its z) H (signsV z) := by
  refine ⟨fun _ => True, ?_, trivial, fun _ _ => trivial⟩
  have w := (walk_str (z := z)).mono (G' := fun _ => True) (Y' := YAt (signsV z)) (fun _ h => h) fun i H x H' hi _ y => by
    obtain ⟨e, c, hc, rfl⟩ := y
    refine ⟨e, ?_⟩
    unfold signsV
    rw [List.getElem?_map]
    simp [hc]
  have e : (signsV z).length = z.cps.size := by simp [signsV]
  rw [e]
  exact w
def intsV (lo : Int) (n : Nat) : List V := (List.range n).map fun (i : Nat) => V.int (lo + (i : Int))
theorem seqIt_range {lo : Int} {n : Nat} : SeqIt (Itr lo n) H (intsV lo n) := by
  refine ⟨fun _ => True, ?_, trivial, fun _ _ => trivial⟩
  have w := (walk_range (lo := lo) (n := n)).mono (G' := fun _ => True) (Y' := YAt (intsV lo n)) (fun _ h => h) fun i H x H' hi _ y => by
    obtain ⟨e, rfl⟩ := y
    refine ⟨e, ?_⟩
    unfold intsV
    rw [List.getElem?_map]
    simp [hi]
  have e : (intsV lo n).length = n := by simp [intsV]
  rw [e]
  exact w
/-! ### [elt for x in iter], one name, pure: each item makes its element, by a relation that stands -/
inductive Rel2 (R : V → V → Prop) : List V → List V → Prop
  | nil : Rel2 R [] []
  | cons {x y xs ys} : R x y → Rel2 R xs ys → Rel2 R (x :: xs) (y :: ys)
theorem Rel2.snoc {R : V → V → Prop} {x y : V} (h : R x y) : ∀ {xs ys : List V}, Rel2 R xs ys → Rel2 R (xs ++ [x]) (ys ++ [y])
  | _, _, .nil => .cons h .nil
  | _, _, .cons r t => .cons r (Rel2.snoc h t)
theorem Rel2.imp {R S : V → V → Prop} (k : ∀ x y, R x y → S x y) : ∀ {xs ys : List V}, Rel2 R xs ys → Rel2 S xs ys
  | _, _, .nil => .nil
  | _, _, .cons r t => .cons (k _ _ r) (Rel2.imp k t)
theorem Rel2.len {R : V → V → Prop} : ∀ {xs ys : List V}, Rel2 R xs ys → xs.length = ys.length
  | _, _, .nil => rfl
  | _, _, .cons _ t => by simp [Rel2.len t]
theorem Rel2.map {f : V → V} : ∀ {xs ys : List V}, Rel2 (fun x y => y = f x) xs ys → ys = xs.map f
  | _, _, .nil => rfl
  | _, _, .cons r t => by rw [r, Rel2.map t]; rfl
theorem w_lc {i : Nat} {x : Str} {px : Pos} {scope : Scope} (own : List (Str × Nat)) (ho : own = [(x, i)]) (hc : X.calm = true) (hN : X.N.Nodup) (ok : BlkOk X.N X.env.scope scope own) (hi : X.N[i]? = some x)
    (hloc : ∀ (s : Shared) (H : Hp) (C : Addr) (cl : List (Str × Addr)) (fp : List Addr), Loc (X.blk s H scope (compEnvC scope cl C X.env) fp).env.scope x ∧ ((X.blk s H scope (compEnvC scope cl C X.env) fp).fn x = true ∨ (X.blk s H scope (compEnvC scope cl C X.env) fp).env.scope.names.lookup x = some .local))
    (h : WI X (.Name x px) iter σ H fun J H1 => ∃ xs, SeqIt J H1 xs ∧ xs.length < sizeLine ∧ ∃ R : V → V → Hp → Prop, (∀ x y Ha Hb, R x y Ha → Sl Ha Hb → R x y Hb) ∧
      (∀ v ∈ xs, ∀ H2, Same H1 H2 → ∀ (s : Shared) (H : Hp) (C : Addr) (cl : List (Str × Addr)) (fp : List Addr), W (X.blk s H scope (compEnvC scope cl C X.env) fp) elt ((wipe σ [i]).set i (some v)) H2 fun y H3 => Same H2 H3 ∧ R v y H3) ∧
      ∀ p ys H2, Same H1 H2 → H1 p = none → H2 p = some (.lst ys) → Rel2 (fun x y => R x y H2) xs ys → Q (.ref p) H2)
    (hs : ∀ x, foldedSetIterable iter X.env x = pure x := by intro _; rfl) (hw : (((wipe σ [i]).set i (some V.non)).set i none) = wipe σ [i] := by rfl) :
    W X (.ListComp elt [⟨.Name x px, iter, [], 0⟩] scope pos) σ H Q := by
  subst ho
  refine W.of (pe_lc (own := [(x, i)]) (g := gName i) (tt := tYes) (te := fun σ2 H2 K => ∀ (s : Shared) (H : Hp) (C : Addr) (cl : List (Str × Addr)) (fp : List Addr), W (X.blk s H scope (compEnvC scope cl C X.env) fp) elt σ2 H2 K) hc hN WI.pi ok (fun s H C cl fp => pg_name hN hi (hloc s H C cl fp).1 (hloc s H C cl fp).2) (fun _ _ _ _ _ => pts_nil)
    (fun s H C cl fp => ⟨fun pins s' σ' H' Q' I' h' => (h' s H C cl fp).run pins s' I'⟩) hs) ?_
  refine ⟨fun pins s I => thn (h.run pins s I) fun v s1 z => thn z fun it s2 q => ?_⟩
  obtain ⟨it', fp, tn, J, H1, e, I2, T, t0, f0, xs, ⟨G, wk, g0, gs⟩, hlen, R, hst, hel, hend⟩ := q
  refine ⟨it', fp, tn, J, H1, e, I2, T, t0, f0, fun Dd nD => ?_⟩
  refine lc_it (H1 := H1) (D := Dd) (g := gName i) (tt := tYes) (te := fun σ2 H2 K => ∀ (s : Shared) (H : Hp) (C : Addr) (cl : List (Str × Addr)) (fp : List Addr), W (X.blk s H scope (compEnvC scope cl C X.env) fp) elt σ2 H2 K) (vs := [i]) (σ := σ) (Qd := fun H2 => Q (.ref Dd) H2) wk (fun j H2 => ∃ ys, Same H1 H2 ∧ H2 Dd = some (.lst ys) ∧ Rel2 (fun x y => R x y H2) (xs.take j) ys) ⟨[], same_new nD, upd_same, .nil⟩ (fun j H2 _ ⟨ys, sm, hD, _⟩ => gs _ sm) ?_ ?_
  · rintro j v H2 H2' hj ⟨ys, s12, hD, rel⟩ ⟨eH, hv⟩
    subst eH
    have hm : v ∈ xs := List.mem_of_getElem? hv
    have hw' : wipe ((wipe σ [i]).set i (some v)) [i] = wipe σ [i] := by
      have e1 : wipe ((wipe σ [i]).set i (some v)) [i] = ((wipe σ [i]).set i (some v)).set i none := rfl
      rw [e1, List.set_set]
      have e2 : ((wipe σ [i]).set i (some V.non)).set i none = wipe σ [i] := hw
      rw [List.set_set] at e2
      exact e2
    refine ⟨hw', ?_⟩
    unfold tYes
    dsimp only
    rw [if_pos rfl]
    intro s H C cl fp
    refine W.mono (e := elt) (X := X.blk s H scope (compEnvC scope cl C X.env) fp) (hel v hm H2' s12 s H C cl fp) fun y H3 ⟨s23, r⟩ => ?_
    have hD3 := s23 _ _ hD
    have hl : ys.length < sizeLine := by
      have e1 := rel.len
      rw [List.length_take] at e1
      omega
    refine ⟨ys, hD3, hl, ys ++ [y], same_upd (s12.trans s23) nD, upd_same, ?_⟩
    have sl : Sl H3 (upd H3 Dd (.lst (ys ++ [y]))) := (Sl.refl H3).lst hD3
    have e : xs.take (j + 1) = xs.take j ++ [v] := by
      rw [List.take_add_one, hv]
      rfl
    rw [e]
    exact (rel.imp fun a b q => hst _ _ _ _ q ((Sl.of s23).trans sl)).snoc (hst _ _ _ _ r sl)
  · rintro H2 ⟨ys, s12, hD, rel⟩
    rw [List.take_length] at rel
    exact hend Dd ys H2 s12 nD hD rel
/-- .. each element a value by a function -/
theorem w_lcF {x : Str} {px : Pos} {scope : Scope} (i : Nat) (f : V → V) (hc : X.calm = true) (hN : X.N.Nodup) (ok : BlkOk X.N X.env.scope scope [(x, i)]) (hi : X.N[i]? = some x)
    (hloc : ∀ (s : Shared) (H : Hp) (C : Addr) (cl : List (Str × Addr)) (fp : List Addr), Loc (X.blk s H scope (compEnvC scope cl C X.env) fp).env.scope x ∧ ((X.blk s H scope (compEnvC scope cl C X.env) fp).fn x = true ∨ (X.blk s H scope (compEnvC scope cl C X.env) fp).env.scope.names.lookup x = some .local))
    (h : WI X (.Name x px) iter σ H fun J H1 => ∃ xs, SeqIt J H1 xs ∧ xs.length < sizeLine ∧
      (∀ v ∈ xs, ∀ H2, Same H1 H2 → ∀ (s : Shared) (H : Hp) (C : Addr) (cl : List (Str × Addr)) (fp : List Addr), W (X.blk s H scope (compEnvC scope cl C X.env) fp) elt ((wipe σ [i]).set i (some v)) H2 fun y H3 => Same H2 H3 ∧ y = f v) ∧
      ∀ p H2, Same H1 H2 → H1 p = none → H2 p = some (.lst (xs.map f)) → Q (.ref p) H2)
    (hs : ∀ x, foldedSetIterable iter X.env x = pure x := by intro _; rfl) (hw : (((wipe σ [i]).set i (some V.non)).set i none) = wipe σ [i] := by rfl) :
    W X (.ListComp elt [⟨.Name x px, iter, [], 0⟩] scope pos) σ H Q := by
  refine w_lc _ rfl hc hN ok hi hloc ?_ hs hw
  refine ⟨fun pins s I => thn (h.run pins s I) fun v s1 z => thn z fun it s2 q => ?_⟩
  obtain ⟨it', fp, tn, J, H1, e, I2, T, t0, f0, xs, h1, h2, h3, h4⟩ := q
  refine ⟨it', fp, tn, J, H1, e, I2, T, t0, f0, xs, h1, h2, fun x y _ => y = f x, fun _ _ _ _ q _ => q, h3, fun p ys H2 s n hp r => ?_⟩
  have e := Rel2.map r
  subst e
  exact h4 p H2 s n hp
/-- all([elt for x in iter]), each element a test -/
theorem w_allLc {x : Str} {px pa pl : Pos} {scope : Scope} (i : Nat) (f : V → Bool) (hm : X.mg "all" = none) (hc : X.calm = true) (hN : X.N.Nodup) (ok : BlkOk X.N X.env.scope scope [(x, i)]) (hi : X.N[i]? = some x)
    (hloc : ∀ (s : Shared) (H : Hp) (C : Addr) (cl : List (Str × Addr)) (fp : List Addr), Loc (X.blk s H scope (compEnvC scope cl C X.env) fp).env.scope x ∧ ((X.blk s H scope (compEnvC scope cl C X.env) fp).fn x = true ∨ (X.blk s H scope (compEnvC scope cl C X.env) fp).env.scope.names.lookup x = some .local))
    (h : WI X (.Name x px) iter σ H fun J H1 => ∃ xs, SeqIt J H1 xs ∧ xs.length < sizeLine ∧
      (∀ v ∈ xs, ∀ H2, Same H1 H2 → ∀ (s : Shared) (H : Hp) (C : Addr) (cl : List (Str × Addr)) (fp : List Addr), W (X.blk s H scope (compEnvC scope cl C X.env) fp) elt ((wipe σ [i]).set i (some v)) H2 fun y H3 => Same H2 H3 ∧ y = .bl (f v)) ∧
      ∀ H2, Same H1 H2 → Q (.bl (xs.all f)) H2)
    (hg : Gl X "all" := by rfl) (hs : ∀ x, foldedSetIterable iter X.env x = pure x := by intro _; rfl) (hw : (((wipe σ [i]).set i (some V.non)).set i none) = wipe σ [i] := by rfl)
    (he : starEach [.ListComp elt [⟨.Name x px, iter, [], 0⟩] scope pl] X.env = (false, eval (.ListComp elt [⟨.Name x px, iter, [], 0⟩] scope pl) X.env) :: starEach [] X.env := by rfl) (hpl : (backTo pos (starEach [] X.env)).any (·.1) = false := by rfl) :
    W X (.Call (.Name "all" pa) [.ListComp elt [⟨.Name x px, iter, [], 0⟩] scope pl] [] pos) σ H Q := by
  refine w_callB (id := "all") hm ?_ b_all hg (by decide) (by decide) he hpl
  refine wa_cons ?_ he
  refine w_lcF i (fun v => .bl (f v)) hc hN ok hi hloc ?_ hs hw
  refine ⟨fun pins s I => thn (h.run pins s I) fun v s1 z => thn z fun it s2 q => ?_⟩
  obtain ⟨it', fp, tn, J, H1, e, I2, T, t0, f0, xs, h1, h2, h3, h4⟩ := q
  refine ⟨it', fp, tn, J, H1, e, I2, T, t0, f0, xs, h1, h2, h3, fun p H2 s n hp => ?_⟩
  refine wa_nil (kv_all (bs := xs.map f) hc (SqL.of ?_) ?_)
  · rw [hp, List.map_map]
    rfl
  · have e : (xs.map f).all id = xs.all f := by rw [List.all_map]; rfl
    rw [e]
    exact h4 H2 s
end
end Ax
end
section
set_option maxHeartbeats 2000000
namespace Ax
open PySem PySem.Spec PyProof.Rows L2
/-- a def of the top -/
def TxtF (K : PySem.W.Frag) (mg : Str → Option Value) (x : Str) (st : Stmt) : Prop := ∃ f fd, FunD K x x (defArgs st) (defBody st) (defScope st) [] [] f fd ∧ mg x = some (.ref f)
theorem txtF_of {K : PySem.W.Frag} {mg : Str → Option Value} {x : Str} {st : Stmt} {f : Addr} (h : ∃ fd, FunD K x x (defArgs st) (defBody st) (defScope st) [] [] f fd) (g : mg x = some (.ref f)) : TxtF K mg x st := by
  obtain ⟨fd, h⟩ := h
  exact ⟨f, fd, h, g⟩
theorem cS_of {mg : Str → Option Value} {x z : Str} (h : ∃ t, mg x = some (.str z t)) : ∃ u, mg x = some u ∧ RelV (.str z) u := by
  obtain ⟨t, h⟩ := h
  exact ⟨_, h, t, rfl⟩
theorem cI_of {mg : Str → Option Value} {x : Str} {i : Int} (h : ∃ t, mg x = some (.int i t)) : ∃ u, mg x = some u ∧ RelV (.int i) u := by
  obtain ⟨t, h⟩ := h
  exact ⟨_, h, t, rfl⟩
section
variable {P : Program} {w : World} {K : PySem.W.Frag} {mg : Str → Option Value} {base : Heap}
theorem def_ok {x : Str} {st : Stmt} {N ps : List Str} {k : Nat} {sp : Sp} (T : TxtF K mg x st) (S : FnScope N ps (defScope st))
    (hb : ∀ (kV doc pm : Value) (an : Option Addr) (cdv ct : Value) (us : List Value), us.length = ps.length → bindArgs (PySem.W.fnOf x x (defArgs st) (defBody st) (defScope st) .none kV doc pm an cdv ct) ⟨us, []⟩ = pure (ps.zip us))
    (len : ∀ vs H Q E, sp vs H Q E → vs.length = ps.length)
    (body : ∀ (f : Addr) (cdv : Value) (A : Around) (outer : List Env) (s : Shared) (H : Hp) (vs : List V) (Q : VK) (E : XK), Room k (A.deeper (envOfC x (defScope st) s.heap.objs.size f cdv)) → sp vs H Q E →
      WB (cxOf (L2.CX P w) P w K mg base N x (defScope st) f cdv A outer s H E) (defBody st) { nx := fun _ H' => Q .non H', rt := Q } (start N vs) H) : Callee P w K mg base x (k + 1) ps sp := by
  obtain ⟨f, fd, F, g⟩ := T
  exact ⟨f, fd, F.ok S len fun cdv A outer s H vs Q E hr h => ⟨_, WB.pss, body f cdv A outer s H vs Q E hr h⟩, F.bindsN hb, g, F.kp⟩
end
end Ax
end
section
set_option maxHeartbeats 2000000
namespace Ax
open PySem PySem.Spec PyProof.Rows L2
theorem qb {Q : VK} {H : Hp} {a b : Bool} (h : Q (.bl a) H) (e : a = b) : Q (.bl b) H := e ▸ h
theorem qi {Q : VK} {H : Hp} {a b : Int} (h : Q (.int a) H) (e : a = b) : Q (.int b) H := e ▸ h
mutual
/-- short texts, nothing but none, bools, ints, texts, lists, tuples -/
def tame : PyData → Bool
  | .str z => PyData.strOk z && decide (z.length ≤ 1000)
  | .list ds => tameAll ds && decide (ds.length ≤ 100000)
  | .tuple ds => tameAll ds && decide (ds.length ≤ 100000)
  | .dict _ => false
  | _ => true
def tameAll : List PyData → Bool
  | [] => true
  | d :: ds => tame d && tameAll ds
end
def okD (d : PyData) : Bool := tame d && decide (d.depth ≤ 60)
mutual
theorem tame_lay : ∀ {d : PyData}, tame d = true → d.canLay0 = true
  | .none, _ => rfl
  | .bool _, _ => rfl
  | .int _, _ => rfl
  | .str z, h => by
    simp only [tame, Bool.and_eq_true] at h
    simpa [PyData.canLay0] using h.1
  | .list ds, h => by simpa [PyData.canLay0] using tameAll_lay (by simp only [tame, Bool.and_eq_true] at h; exact h.1)
  | .tuple ds, h => by simpa [PyData.canLay0] using tameAll_lay (by simp only [tame, Bool.and_eq_true] at h; exact h.1)
  | .dict _, h => by simp [tame] at h
theorem tameAll_lay : ∀ {ds : List PyData}, tameAll ds = true → PyData.canLayAll0 ds = true
  | [], _ => by simp [PyData.canLayAll0]
  | d :: ds, h => by
    simp only [tameAll, Bool.and_eq_true] at h
    simp [PyData.canLayAll0, tame_lay h.1, tameAll_lay h.2]
end
theorem okD.shaped {d : PyData} (h : okD d = true) : SeqAt.shaped d = true := by
  simp only [okD, Bool.and_eq_true, decide_eq_true_eq] at h
  simp only [SeqAt.shaped, Bool.and_eq_true, decide_eq_true_eq]
  exact ⟨tame_lay h.1, by omega⟩
theorem tameAll_mem {ds : List PyData} (h : tameAll ds = true) : ∀ d ∈ ds, tame d = true := by
  induction ds with
  | nil => intro d hd; cases hd
  | cons x xs ih =>
    simp only [tameAll, Bool.and_eq_true] at h
    intro d hd
    rcases List.mem_cons.mp hd with rfl | hd
    · exact h.1
    · exact ih h.2 d hd
theorem depthAll_mem {ds : List PyData} {n : Nat} (h : PyData.depthAll ds ≤ n) : ∀ d ∈ ds, d.depth ≤ n := by
  induction ds with
  | nil => intro d hd; cases hd
  | cons x xs ih =>
    rw [PyData.depthAll] at h
    intro d hd
    rcases List.mem_cons.mp hd with rfl | hd
    · omega
    · exact ih (by omega) d hd
theorem okD.item {ds : List PyData} (h : okD (.tuple ds) = true) : ∀ d ∈ ds, okD d = true := by
  simp only [okD, tame, Bool.and_eq_true, decide_eq_true_eq] at h
  obtain ⟨h1, h2⟩ := h
  rw [PyData.depth] at h2
  intro d hd
  simp only [okD, Bool.and_eq_true, decide_eq_true_eq]
  exact ⟨tameAll_mem h1.1 d hd, by have := depthAll_mem (n := 59) (by omega) d hd; omega⟩
theorem okD.len {ds : List PyData} (h : okD (.tuple ds) = true) : ds.length < sizeLine := by
  simp only [okD, tame, Bool.and_eq_true, decide_eq_true_eq] at h
  exact Nat.lt_of_le_of_lt h.1.2 (by decide)
theorem okD.str {z : Str} (h : okD (.str z) = true) : z.length ≤ sizeLine := by
  simp only [okD, tame, Bool.and_eq_true, decide_eq_true_eq] at h
  exact Nat.le_trans h.1.2 (by decide)
/-- any value: data, or a thing of another type -/
inductive AnyV (K : PySem.W.Frag) (H : Hp) : V → Option PyData → Prop
  | dat {v : V} {d : PyData} (h : Dp K H v d) (ok : okD d = true) : AnyV K H v (some d)
  | oth {v : V} {t : Value} (h : TyX K H v t) (n : ∀ T ∈ ["str", "int", "bool", "tuple", "list"], PySem.W.kitOne K t (.type T) = some false) : AnyV K H v none
def tyNames : List String := ["NoneType", "bool", "int", "str", "list", "tuple", "dict"]
theorem tyD_mem (d : PyData) : tyD d ∈ tyNames := by cases d <;> simp [tyD, tyNames]
theorem kit_all : ∀ T ∈ ["str", "int", "bool", "tuple", "list"], ∀ t ∈ tyNames, (kitB t T).isSome = true := by decide +kernel
def isiO (T : String) : Option PyData → Bool
  | some d => (kitB (tyD d) T).getD false
  | none => false
section
variable {X : Cx} {H : Hp} {Q : VK} {v : V} {o : Option PyData}
theorem kv_isiA {T : String} (a : AnyV X.K H v o) (hT : T ∈ ["str", "int", "bool", "tuple", "list"]) (h : Q (.bl (isiO T o)) H) : CallV X (.builtin "isinstance") [v, .ty T] H Q := by
  cases a with
  | oth ty n => exact kv_isi (.ty T) ty (n T hT) h
  | @dat d hd ok =>
    refine kv_isi (k := isiO T (some d)) (.ty T) (dp_ty hd) (kit_ty ?_) h
    have q := kit_all T hT (tyD d) (tyD_mem d)
    obtain ⟨b, q⟩ := Option.isSome_iff_exists.mp q
    show kitB (tyD d) T = some ((kitB (tyD d) T).getD false)
    rw [q]
    rfl
theorem isiO_str (d : PyData) : isiO "str" (some d) = (match d with | .str _ => true | _ => false) := by
  have k : ∀ t ∈ tyNames, (kitB t "str").getD false = (t == "str") := by decide +kernel
  refine (k _ (tyD_mem d)).trans ?_
  cases d <;> rfl
theorem isiO_tuple (d : PyData) : isiO "tuple" (some d) = (match d with | .tuple _ => true | _ => false) := by
  have k : ∀ t ∈ tyNames, (kitB t "tuple").getD false = (t == "tuple") := by decide +kernel
  refine (k _ (tyD_mem d)).trans ?_
  cases d <;> rfl
theorem isiO_int (d : PyData) : isiO "int" (some d) = (match d with | .int _ => true | .bool _ => true | _ => false) := by
  have k : ∀ t ∈ tyNames, (kitB t "int").getD false = (t == "int" || t == "bool") := by decide +kernel
  refine (k _ (tyD_mem d)).trans ?_
  cases d <;> rfl
theorem isiO_bool (d : PyData) : isiO "bool" (some d) = (match d with | .bool _ => true | _ => false) := by
  have k : ∀ t ∈ tyNames, (kitB t "bool").getD false = (t == "bool") := by decide +kernel
  refine (k _ (tyD_mem d)).trans ?_
  cases d <;> rfl
end
theorem tyX_same {K : PySem.W.Frag} {H H' : Hp} {v : V} {t : Value} (s : Same H H') (h : TyX K H v t) : TyX K H' v t := by
  cases h with
  | base b =>
    cases b with
    | non => exact .base .non
    | bl x => exact .base (.bl x)
    | int x => exact .base (.int x)
    | str x => exact .base (.str x)
    | flt x => exact .base (.flt x)
    | lst e => exact .base (.lst (s _ _ e))
    | frz e => exact .base (.frz (s _ _ e))
    | tup e => exact .base (.tup (s _ _ e))
    | dK e => exact .base (.dK (s _ _ e))
    | dT e => exact .base (.dT (s _ _ e))
    | ins e cl ha hn htk hm => exact .base (.ins (s _ _ e) cl ha hn htk hm)
  | byt b => exact .byt b
  | set e => exact .set (s _ _ e)
  | kList e c => exact .kList e c
  | kTuple e c => exact .kTuple e c
  | kDict e c => exact .kDict e c
  | fTuple e => exact .fTuple (s _ _ e)
  | fDict e => exact .fDict (s _ _ e)
section
variable {K : PySem.W.Frag} {H H' : Hp} {v : V} {o : Option PyData}
theorem anyV_same (s : Same H H') (a : AnyV K H v o) : AnyV K H' v o := by
  cases a with
  | dat h ok => exact .dat (dp_same s h) ok
  | oth h n => exact .oth (tyX_same s h) n
theorem anyV_tuple (a : AnyV K H v o) (c : isiO "tuple" o = true) : ∃ p xs ds, v = .ref p ∧ o = some (.tuple ds) ∧ SqT K H p xs ∧ DpAll K H xs ds ∧ okD (.tuple ds) = true := by
  cases a with
  | oth => cases c
  | @dat d hd ok =>
    rw [isiO_tuple] at c
    cases hd <;> first | cases c | skip
    exact ⟨_, _, _, rfl, rfl, by assumption, by assumption, ok⟩
theorem anyV_str (a : AnyV K H v o) (c : isiO "str" o = true) : ∃ z, v = .str z ∧ o = some (.str z) ∧ okD (.str z) = true := by
  cases a with
  | oth => cases c
  | @dat d hd ok =>
    rw [isiO_str] at c
    cases hd <;> first | cases c | skip
    exact ⟨_, rfl, rfl, ok⟩
theorem any_tupleF {f : PyData → Bool} (c : isiO "tuple" o = false) (hf : ∀ d, (∀ ds, d ≠ .tuple ds) → f d = false) : o.any f = false := by
  cases o with
  | none => rfl
  | some d =>
    rw [isiO_tuple] at c
    refine hf d fun ds e => ?_
    rw [e] at c
    cases c
theorem any_strF {f : PyData → Bool} (c : isiO "str" o = false) (hf : ∀ d, (∀ z, d ≠ .str z) → f d = false) : o.any f = false := by
  cases o with
  | none => rfl
  | some d =>
    rw [isiO_str] at c
    refine hf d fun ds e => ?_
    rw [e] at c
    cases c
end
end Ax
end
section
set_option maxHeartbeats 2000000
namespace Ax
open PySem PySem.Spec PyProof.Rows L2
/-! ### another look at a thing: the abstract heap tells it otherwise, the heap is the same -/
def plainO : HO → Bool
  | .lst _ => true
  | .ext _ => true
  | _ => false
theorem Inv.view {X : Cx} {pins : List (Addr × Obj)} {σ : L2.St} {H : Hp} {s : Shared} {p : Addr} {o o' : HO} (I : Inv X pins σ H s) (hp : H p = some o) (ho : plainO o = true) (new : ObjOk X.prog X.w (upd H p o') s.heap p o') : Inv X pins σ (upd H p o') s := by
  have ne : ∀ b u, H b = some u → plainO u = false → b ≠ p := fun b u e n z => by
    rw [z, hp] at e
    cases e
    rw [ho] at n
    cases n
  have nn : ∀ b, H b = none → b ≠ p := fun b e z => by
    rw [z, hp] at e
    cases e
  have B := I.base
  refine ⟨I.ok, I.os, I.bare, ⟨B.keep, B.slot, fun b u e n hx => ?_, B.there, fun b xs e => ?_, fun b u xs e => ?_, fun b ps e => ?_⟩, I.loc, I.cell, ?_, fun x c e => ?_, fun q hq => ?_, fun b u e => ?_, I.len⟩
  · have z := B.free b u e n hx
    rw [upd_ne (nn b z)]; exact z
  · have z := B.tups b xs e
    rw [upd_ne (ne b _ z rfl)]; exact z
  · have z := B.frzs b u xs e
    rw [upd_ne (ne b _ z rfl)]; exact z
  · obtain ⟨more, z⟩ := B.tbls b ps e
    exact ⟨more, by rw [upd_ne (ne b _ z rfl)]; exact z⟩
  · rw [upd_ne (nn _ I.free)]; exact I.free
  · have z := I.freeC x c e
    rw [upd_ne (nn _ z)]; exact z
  · obtain ⟨h1, h2, h3⟩ := I.pin q hq
    exact ⟨h1, by rw [upd_ne (nn _ h2)]; exact h2, h3⟩
  · by_cases hb : b = p
    · subst hb
      rw [upd_same] at e
      cases e
      exact new
    · rw [upd_ne hb] at e
      exact (I.hok b u e).stay (fun _ _ _ q => q) (fun c q => by rw [upd_ne (ne c _ q rfl)]; exact q) fun c xs q => by rw [upd_ne (ne c _ q rfl)]; exact q
/-! ### the dice: three whole numbers in a list, told by what holds of them; n: how often it was rolled, at most -/
structure DiceN (x y z : Int) (n : Nat) : Prop where
  x0 : 0 ≤ x
  y0 : 0 ≤ y
  y1 : y < 2 ^ 61
  z0 : 0 ≤ z
  z1 : z ≤ n
def DiceO (p : Addr) (n : Nat) : HO := .ext fun h => ∃ (x y z : Int) (its : List Value) (m : Nat), Vals [.int x, .int y, .int z] its ∧ h.get? p = some { cls := .type "list", data := .seq its.toArray m } ∧ DiceN x y z n
theorem three_line : 3 ≤ sizeLine := by decide
theorem two_line : 2 ≤ sizeLine := by decide
theorem one_line : 1 ≤ sizeLine := by decide
theorem zero_line : 0 ≤ sizeLine := by decide
section
variable {X : Cx} {pins : List (Addr × Obj)} {σ : L2.St} {H : Hp} {s : Shared} {p : Addr} {n : Nat} {x y z : Int}
theorem Inv.toDice (I : Inv X pins σ H s) (hp : H p = some (.lst [.int x, .int y, .int z])) (d : DiceN x y z n) : Inv X pins σ (upd H p (DiceO p n)) s := by
  refine Inv.view I hp rfl ?_
  obtain ⟨_, its, m, r, e⟩ := (show ObjOk X.prog X.w H s.heap p (.lst [.int x, .int y, .int z]) from I.hok p _ hp)
  exact ⟨⟨x, y, z, its, m, r, e, d⟩, ⟨_, e⟩, fun h1 h2 ⟨x, y, z, its, m, r, e, d⟩ k => ⟨x, y, z, its, m, r, k _ e, d⟩⟩
theorem Inv.ofDice (I : Inv X pins σ H s) (hp : H p = some (DiceO p n)) : ∃ x y z, DiceN x y z n ∧ Inv X pins σ (upd H p (.lst [.int x, .int y, .int z])) s := by
  obtain ⟨⟨x, y, z, its, m, r, e, d⟩, _⟩ := (show ObjOk X.prog X.w H s.heap p (DiceO p n) from I.hok p _ hp)
  exact ⟨x, y, z, d, Inv.view I hp rfl ⟨three_line, its, m, r, e⟩⟩
theorem wb_dice {b : List Stmt} {D : Ends} (hp : H p = some (DiceO p n)) (h : ∀ x y z, DiceN x y z n → WB X b D σ (upd H p (.lst [.int x, .int y, .int z]))) : WB X b D σ H := ⟨fun pins s I => by
  obtain ⟨x, y, z, d, J⟩ := Inv.ofDice I hp
  exact (h x y z d).run pins s J⟩
theorem w_dice {e : Expr} {Q : VK} (h : W X e σ H fun v H1 => ∃ p x y z n, H1 p = some (.lst [.int x, .int y, .int z]) ∧ DiceN x y z n ∧ Q v (upd H1 p (DiceO p n))) : W X e σ H Q := ⟨fun pins s I =>
  thn (h.run pins s I) fun u s1 ⟨v, H1, J, r, p, x, y, z, n, hp, d, q⟩ => ⟨v, _, Inv.toDice J hp d, r, q⟩⟩
end
/-- all but the dice at p stands -/
structure Sm (p : Addr) (H H' : Hp) : Prop where
  at0 : ∃ n, H p = some (DiceO p n)
  keep : ∀ a o, H a = some o → a ≠ p → H' a = some o
theorem Sm.refl {H : Hp} {p : Addr} {n : Nat} (h : H p = some (DiceO p n)) : Sm p H H := ⟨⟨n, h⟩, fun _ _ h _ => h⟩
theorem Sm.trans {p : Addr} {H H1 H2 : Hp} (a : Sm p H H1) (b : Sm p H1 H2) : Sm p H H2 := ⟨a.at0, fun c o h n => b.keep c o (a.keep c o h n) n⟩
theorem Sm.same {p : Addr} {H H1 H2 : Hp} (a : Sm p H H1) (b : Same H1 H2) : Sm p H H2 := ⟨a.at0, fun c o h n => b c o (a.keep c o h n)⟩
theorem Sm.of {H H' : Hp} {p : Addr} {n : Nat} (h : H p = some (DiceO p n)) (e : Same H H') : Sm p H H' := (Sm.refl h).same e
theorem Sm.sl {p : Addr} {H H' : Hp} (e : Sm p H H') : Sl H H' := fun b o h n => e.keep b o h (by
  rintro rfl
  obtain ⟨m, hm⟩ := e.at0
  rw [hm] at h
  cases h
  cases n)
theorem Sm.upd {p : Addr} {H H' : Hp} {o : HO} (e : Sm p H H') : Sm p H (upd H' p o) := ⟨e.at0, fun a u ha hn => by
  rw [upd_ne hn]
  exact e.keep a u ha hn⟩
theorem Sm.new {p q : Addr} {H H' : Hp} {o : HO} (e : Sm p H H') (n : H q = none) : Sm p H (L2.upd H' q o) := ⟨e.at0, fun a u ha hn => by
  rw [upd_ne (ne_of_none ha n)]
  exact e.keep a u ha hn⟩
/-- what is no dice is elsewhere -/
theorem Sm.lst {p a : Addr} {H H' : Hp} {xs : List V} (e : Sm p H H') (h : H a = some (.lst xs)) : H' a = some (.lst xs) := e.keep a _ h (by
  rintro rfl
  obtain ⟨m, hm⟩ := e.at0
  rw [hm] at h
  cases h)
theorem Sm.tupO {p a : Addr} {H H' : Hp} {xs : List V} (e : Sm p H H') (h : H a = some (.tup xs)) : H' a = some (.tup xs) := e.sl _ _ h rfl
theorem Sm.nul {p q : Addr} {n : Nat} {H H' : Hp} (e : Sm p H H') (hp : H' p = some (DiceO p n)) (h : H' q = none) : H q = none := by
  cases z : H q with
  | none => rfl
  | some o =>
    by_cases hq : q = p
    · rw [hq, hp] at h
      cases h
    · rw [e.keep q o z hq] at h
      cases h
theorem Sm.tup {p : Addr} {K : PySem.W.Frag} {H H' : Hp} {a : Addr} {xs : List V} (e : Sm p H H') (h : SqT K H a xs) : SqT K H' a xs := e.sl.tup h
theorem Sm.seq {p : Addr} {K : PySem.W.Frag} {H H' : Hp} {a : Addr} {xs : List V} (e : Sm p H H') (h : SqL K H a xs) : SqL K H' a xs := by
  rcases h with (h | ⟨o, h⟩) | h
  · exact .inl (.inl (e.lst h))
  · exact .inl (.inr ⟨o, e.sl _ _ h rfl⟩)
  · exact .inr h
mutual
theorem dp_sm {q : Addr} {K : PySem.W.Frag} {H H' : Hp} (s : Sm q H H') : ∀ {d : PyData} {v : V}, Dp K H v d → Dp K H' v d
  | .none, _, h => by cases h; exact .non
  | .bool _, _, h => by cases h; exact .bl _
  | .int _, _, h => by cases h; exact .int _
  | .str _, _, h => by cases h; exact .str _
  | .list ds, _, h => by
    cases h with
    | lst hs ha => exact .lst (s.seq hs) (dpa_sm s ha)
  | .tuple ds, _, h => by
    cases h with
    | tup hs ha => exact .tup (s.tup hs) (dpa_sm s ha)
  | .dict _, _, h => by cases h
theorem dpa_sm {q : Addr} {K : PySem.W.Frag} {H H' : Hp} (s : Sm q H H') : ∀ {ds : List PyData} {vs : List V}, DpAll K H vs ds → DpAll K H' vs ds
  | [], _, h => by cases h; exact .nil
  | d :: ds, _, h => by
    cases h with
    | cons h1 h2 => exact .cons (dp_sm s h1) (dpa_sm s h2)
end
/-! ### what the drawing defs promise; the list of the drawn ones is at most 2 ^ 60 long -/
def spDice (K : PySem.W.Frag) : Sp := fun vs H Q _ => ∃ (a : Addr) (ns : List Int) (j : Nat), vs = [.ref a, .int j] ∧ SqL K H a (ns.map V.int) ∧ ns.length ≤ 63 ∧ j ≤ 100 ∧ ∀ p H', Same H H' → H p = none → H' p = some (DiceO p 0) → Q (.ref p) H'
def spRoll : Sp := fun vs H Q _ => ∃ (p : Addr) (n : Nat) (k : Int), vs = [.ref p, .int k] ∧ H p = some (DiceO p n) ∧ n < 2 ^ 60 ∧ 0 < k ∧ k < 2 ^ 20 ∧ ∀ r H', Sm p H H' → H' p = some (DiceO p (n + 1)) → 0 ≤ r → r < k → Q (.int r) H'
def spPick (K : PySem.W.Frag) : Sp := fun vs H Q _ => ∃ (p l : Addr) (n : Nat) (xs : List V), vs = [.ref p, .ref l] ∧ H p = some (DiceO p n) ∧ n < 2 ^ 60 ∧ SqL K H l xs ∧ xs ≠ [] ∧ xs.length < 2 ^ 20 ∧ ∀ v ∈ xs, ∀ H', Sm p H H' → H' p = some (DiceO p (n + 1)) → Q v H'
end Ax
end
section
set_option maxHeartbeats 2000000
namespace Ax
open PySem PySem.Spec PyProof.Rows L2
section
variable {X : Cx} {e a b o : Expr} {es : List Expr} {st : Stmt} {bl rest : List Stmt} {σ : L2.St} {H : Hp} {Q : VK} {D : Ends} {pos apos : Pos}
/-! ### methods of built-in types, one argument -/
theorem w_bm1 {T id : String} {name : Str} (pa : PlainAttrs T) (slot : Slot T name id) (hty : typeOf (.builtin id) = pure (.type "method_descriptor")) (h : W X o σ H fun x H1 => tyV X.K T x H1 ∧ W X a σ H1 fun y H2 => MtV X id x [y] H2 Q)
    (hbase : attributeBase o name X.env (eval o X.env) = eval o X.env := by rfl)
    (hfew : methodCallForm ([a].length + ([] : List Keyword).length + if ([] : List Keyword).isEmpty = true then 0 else 1) (backTo pos (starEach [a] X.env)) (backToKw pos (keywordEach [] X.env)) = true := by rfl)
    (hline : (apos.endLine == pos.line) = true := by rfl) (hs : starEach [a] X.env = (false, eval a X.env) :: starEach [] X.env := by rfl) (hpl : (backTo pos (starEach [] X.env)).any (·.1) = false := by rfl) :
    W X (.Call (.Attribute o name apos) [a] [] pos) σ H Q := by
  refine W.of (pe_bm pa slot hty mtV_r W.pe WA.pa hbase hfew hline hs hpl) ?_
  show W X o σ H _
  exact W.mono h fun x H1 ⟨t, h2⟩ => ⟨t, wa_cons (W.mono h2 fun y H2 q => wa_nil q) hs⟩
theorem tyV_list {x : V} {K : PySem.W.Frag} (h : ∃ l xs, x = .ref l ∧ SqL K H l xs) : tyV K "list" x H := by
  obtain ⟨l, xs, rfl, hl⟩ := h
  exact .inl ⟨rfl, _, hl⟩
theorem mv_append {l : Addr} {xs : List V} {y : V} (hl : H l = some (.lst xs)) (hz : xs.length < sizeLine) (q : Q .non (upd H l (.lst (xs ++ [y])))) : MtV X "list.append" (.ref l) [y] H Q := ⟨_, mt_append, l, xs, y, rfl, rfl, hl, hz, q⟩
theorem mv_extend {l b : Addr} {xs zs : List V} (hl : H l = some (.lst xs)) (hb : H b = some (.lst zs)) (hz : xs.length + zs.length ≤ sizeLine) (q : Q .non (upd H l (.lst (xs ++ zs)))) : MtV X "list.extend" (.ref l) [.ref b] H Q := ⟨_, mt_extend, l, b, xs, zs, rfl, rfl, hl, hb, hz, q⟩
theorem mv_popAt {l : Addr} {xs : List V} {i : Int} {y : V} (hl : H l = some (.lst xs)) (h0 : 0 ≤ i) (h1 : i.toNat < xs.length) (h2 : i < 2 ^ 62) (hy : xs[i.toNat]? = some y) (q : Q y (upd H l (.lst (xs.eraseIdx i.toNat)))) : MtV X "list.pop" (.ref l) [.int i] H Q :=
  ⟨_, mt_popAt, l, xs, i, i.toNat, y, rfl, rfl, hl, by omega, by omega, seqIndex_of h0 (by omega), hy, q⟩
theorem w_pop0 (h : W X o σ H fun x H1 => ∃ l xs y, x = .ref l ∧ H1 l = some (.lst xs) ∧ xs[xs.length - 1]? = some y ∧ Q y (upd H1 l (.lst xs.dropLast)))
    (hbase : attributeBase o "pop" X.env (eval o X.env) = eval o X.env := by rfl) (hline : (apos.endLine == pos.line) = true := by rfl) : W X (.Call (.Attribute o "pop" apos) [] [] pos) σ H Q := by
  refine W.of (pe_bm0 PySem.F.plainAttrs_list PySem.F.slot_list_pop PySem.F.type_list_pop mt_pop W.pe hbase hline) ?_
  show W X o σ H _
  refine W.mono h fun x H1 ⟨l, xs, y, ex, hl, hy, q⟩ => ⟨?_, l, xs, y, ex, rfl, hl, hy, q⟩
  subst ex
  exact .inl ⟨rfl, _, SqL.of hl⟩
/-! ### statements -/
theorem ws_par (i j : Nat) {x y : Str} {px py pt : Pos} {kt k2 pt2} (h : WA X [a, b] σ H fun vs H1 => ∃ v w, vs = [v, w] ∧ D.nx ((σ.set i (some v)).set j (some w)) H1) (hi : X.N[i]? = some x) (hj : X.N[j]? = some y) (hN : X.N.Nodup) (hc : X.calm = true := by rfl) (hij : i ≠ j := by decide)
    (hx : X.env.scope.names.lookup x = some .local := by rfl) (hy : X.env.scope.names.lookup y = some .local := by rfl)
    (hw : swappedStores [.Tuple [.Name x px, .Name y py] kt pt] (.Tuple [a, b] k2 pt2) X.env = pure (some [x, y]) := by rfl)
    (hs : swapsWithSole [.Tuple [.Name x px, .Name y py] kt pt] (.Tuple [a, b] k2 pt2) pos.line X.env = pure false := by rfl) :
    WS X (.Assign [.Tuple [.Name x px, .Name y py] kt pt] (.Tuple [a, b] k2 pt2) pos) D σ H := WS.of (ps_par hc hN hi hj hij hx hy WA.pa hw hs) h
theorem ws_tup2 (i j : Nat) {x y : Str} {px py pt : Pos} {kt} (h : W X e σ H fun v H1 => ∃ a v1 v2, v = .ref a ∧ SqT X.K H1 a [v1, v2] ∧ D.nx ((σ.set i (some v1)).set j (some v2)) H1) (hi : X.N[i]? = some x) (hj : X.N[j]? = some y) (hN : X.N.Nodup) (hc : X.calm = true := by rfl)
    (hx : Loc X.env.scope x := by first | exact Or.inl rfl | exact Or.inr rfl) (hy : Loc X.env.scope y := by first | exact Or.inl rfl | exact Or.inr rfl)
    (hfx : X.fn x = true ∨ X.env.scope.names.lookup x = some .local := by first | exact Or.inl rfl | exact Or.inr rfl) (hfy : X.fn y = true ∨ X.env.scope.names.lookup y = some .local := by first | exact Or.inl rfl | exact Or.inr rfl)
    (hs : swapsWithSole [.Tuple [.Name x px, .Name y py] kt pt] e pos.line X.env = pure false := by rfl) (hw : swappedStores [.Tuple [.Name x px, .Name y py] kt pt] e X.env = pure none := by rfl)
    (h1 : (assignEach [.Tuple [.Name x px, .Name y py] kt pt] X.env).map (·.2) = [assign (.Tuple [.Name x px, .Name y py] kt pt) X.env] := by rfl)
    (h2 : (assignEach (Expr.Name x px :: [.Name y py]) X.env).map (·.2) = assign (.Name x px) X.env :: (assignEach [.Name y py] X.env).map (·.2) := by rfl)
    (h3 : (assignEach (Expr.Name y py :: []) X.env).map (·.2) = assign (.Name y py) X.env :: (assignEach [] X.env).map (·.2) := by rfl)
    (h4 : (assignEach [.Name x px, .Name y py] X.env).length = 2 := by rfl) (h5 : (assignEach [.Name x px, .Name y py] X.env).findIdx? (·.1) = none := by rfl) :
    WS X (.Assign [.Tuple [.Name x px, .Name y py] kt pt] e pos) D σ H := by
  refine WS.of (ps_asg W.pe (pg_tup (n := 2) hc (pgs_cons (pg_name hN hi hx hfx) (pgs_cons (pg_name hN hj hy hfy) pgs_nil h3) h2) h4 h5) hs hw h1) ?_
  show W X e σ H _
  refine W.mono h fun v H1 ⟨a, v1, v2, ev, ha, q⟩ => ⟨a, [v1, v2], ev, ha, rfl, v1, [v2], rfl, v2, [], rfl, rfl, q⟩
/-- while, by what holds ahead of each turn, with a number that falls -/
theorem ws_while {c : Expr} {body : List Stmt} (I : Nat → L2.St → Hp → Prop) (h0 : ∃ m, I m σ H)
    (hs : ∀ m σ H, I m σ H → WT X c σ H fun k H1 => if k = true then WB X body { D with nx := fun σ' H' => ∃ m', m' < m ∧ I m' σ' H', ct := fun σ' H' => ∃ m', m' < m ∧ I m' σ' H', bk := D.nx } σ H1 else D.nx σ H1)
    (hp : PassesOwn (model X.prog X.w) X.A X.env X.xe) : WS X (.While c body [] pos) D σ H := by
  refine WS.of (ps_while hp WT.pt WB.pss) ⟨I, h0, fun m σ H i => WT.mono (hs m σ H i) fun k H1 q => ?_⟩
  cases k with
  | true => exact ⟨_, fun σ' H' z => z, q⟩
  | false => exact q
/-- for over a walk of fixed items -/
theorem ws_for {iter : Expr} {body : List Stmt} {x : Str} {px : Pos} (i : Nat) (h : WI X (.Name x px) iter σ H fun J H1 => ∃ n G Y, Walk J n G Y ∧ ∃ I : Nat → L2.St → Hp → Prop, I 0 σ H1 ∧ (∀ i σ H, i ≤ n → I i σ H → G H) ∧
      (∀ j v σ H H', j < n → I j σ H → Y j H v H' → WB X body { D with nx := I (j + 1), ct := I (j + 1), bk := D.nx } (σ.set i (some v)) H') ∧ ∀ σ H, I n σ H → D.nx σ H)
    (hi : X.N[i]? = some x) (hN : X.N.Nodup) (hp : PassesOwn (model X.prog X.w) X.A X.env X.xe) (hc : X.calm = true := by rfl) (hx : Loc X.env.scope x := by first | exact Or.inl rfl | exact Or.inr rfl)
    (hf : X.fn x = true ∨ X.env.scope.names.lookup x = some .local := by first | exact Or.inl rfl | exact Or.inr rfl) (hs : ∀ x, foldedSetIterable iter X.env x = pure x := by intro _; rfl) : WS X (.For (.Name x px) iter body [] pos) D σ H := by
  refine WS.of (ps_for hp hc WI.pi (pg_name hN hi hx hf) WB.pss hs) ?_
  refine ⟨fun pins s I => thn (h.run pins s I) fun v s1 z => thn z fun it s2 q => ?_⟩
  obtain ⟨it', fp, tn, J, H1, e, I2, T, t0, f0, n, G, Y, wk, Iv, i0, hG, hst, hd⟩ := q
  exact ⟨it', fp, tn, J, H1, e, I2, T, t0, f0, for_it wk Iv i0 hG (fun j v σ H H' hj hI y => hst j v σ H H' hj hI y) hd⟩
/-! ### raise X('..'), X over ValueError without own __init__ -/
structure ErrC (K : PySem.W.Frag) (mg : Str → Option Value) (x : Str) (C : Addr) : Prop where
  g : mg x = some (.ref C)
  x : PySem.W.excIn K C He.veBase "ValueError.__new__" = true
  k : PySem.W.keepIn K (.ref C) = true
  b : PySem.W.subIn K (.ref C) (.type "BaseException") = some true
  t : PySem.W.typeIn K (.ref C) = some (.type "type")
theorem ws_raise {x m : Str} {C : Addr} {j : Nat} {p p2 cpos : Pos} {Wx : WX} (hC : ErrC X.K X.mg x C) (tk : Takes X Wx) (h : Wx (.ref C) none σ H) (hc : X.calm = true := by rfl) (hg : Gl X x := by rfl) (hdb : (x == ("__debug__" : Str)) = false := by decide) :
    WS X (.Raise (some (.Call (.Name x p) [.Constant (.str m) j p2] [] cpos)) none pos) D σ H :=
  WS.of (ps_raise hc tk (pmk_own PySem.F.excBase_ValueError hC.x hC.g hC.k (raises_own hC.b hC.t) hg hdb)) h
theorem errC_of {K : PySem.W.Frag} {h : Heap} {mg : Str → Option Value} {x : Str} (I : K.In h) (G : h.Ns mainGlobals mg) (c : (He.Fa.glo x).ok K = true) (c2 : (He.Fa.exc x).ok K = true) : ErrC K mg x (He.ga K x) := by
  obtain ⟨h1, h2, h3, h4⟩ := He.exc_ok c2
  exact ⟨He.glo_ok I G c, h1, h2, h3, h4⟩
/-! ### lists of things by a relation -/
inductive All2 {β α : Type} (R : β → α → Prop) : List β → List α → Prop
  | nil : All2 R [] []
  | cons {x a xs as} : R x a → All2 R xs as → All2 R (x :: xs) (a :: as)
theorem All2.imp {β α : Type} {R S : β → α → Prop} (k : ∀ x a, R x a → S x a) : ∀ {xs : List β} {as : List α}, All2 R xs as → All2 S xs as
  | _, _, .nil => .nil
  | _, _, .cons r t => .cons (k _ _ r) (All2.imp k t)
theorem All2.app {β α : Type} {R : β → α → Prop} : ∀ {xs ys : List β} {as bs : List α}, All2 R xs as → All2 R ys bs → All2 R (xs ++ ys) (as ++ bs)
  | _, _, _, _, .nil, h => h
  | _, _, _, _, .cons r t, h => .cons r (All2.app t h)
theorem All2.one {β α : Type} {R : β → α → Prop} {x : β} {a : α} (h : R x a) : All2 R [x] [a] := .cons h .nil
theorem All2.len {β α : Type} {R : β → α → Prop} : ∀ {xs : List β} {as : List α}, All2 R xs as → xs.length = as.length
  | _, _, .nil => rfl
  | _, _, .cons _ t => by simp [All2.len t]
theorem All2.last {β α : Type} {R : β → α → Prop} : ∀ {xs : List β} {as : List α}, All2 R xs as → xs ≠ [] → ∃ x a ys bs, xs = ys ++ [x] ∧ as = bs ++ [a] ∧ R x a ∧ All2 R ys bs
  | _, _, .nil, h => absurd rfl h
  | _, _, .cons (x := x) (a := a) r .nil, _ => ⟨x, a, [], [], rfl, rfl, r, .nil⟩
  | _, _, .cons (x := x) (a := a) r (.cons r' t), _ => by
    obtain ⟨y, b, ys, bs, e1, e2, r2, t2⟩ := All2.last (.cons r' t) (by simp)
    exact ⟨y, b, x :: ys, a :: bs, by rw [e1]; rfl, by rw [e2]; rfl, r2, .cons r t2⟩
/-! ### xs != [] -/
theorem cv_ne_nil {p q : Addr} {xs : List V} (hu : X.A.units < cLine) (hp : SqL X.K H p xs) (hq : SqL X.K H q []) (h : Q (.bl (!xs.isEmpty)) H) : CmpV X .NotEq (.ref p) (.ref q) H Q := by
  refine ⟨fun x y H Q => x = .ref p ∧ y = .ref q ∧ SqL X.K H p xs ∧ SqL X.K H q [] ∧ Q (.bl (!xs.isEmpty)) H, ?_, rfl, rfl, hp, hq, h⟩
  rintro pins s σ H x y v u Q I rx ry ⟨rfl, rfl, h1, h2, q⟩
  cases rx
  cases ry
  obtain ⟨its, r, pl, _⟩ := I.list h1
  obtain ⟨its2, r2, pl2, _⟩ := I.list h2
  cases r2
  have hl := r.length
  cases xs with
  | nil =>
    cases r
    exact SeqAt.RcNeAt.lists (e := fun _ => true) pl.isList pl2.isList rfl hu (fun j h1 _ => absurd h1 (by simp)) _ _ _ _ ⟨.bl _, H, I, rfl, q⟩
  | cons y ys =>
    cases r with
    | cons r1 rt => exact SeqAt.RcNeAt.lists_lengths pl.isList pl2.isList (by simp) hu _ _ _ _ ⟨.bl _, H, I, rfl, q⟩
end
end Ax
end
section
set_option maxHeartbeats 2000000
namespace Ax
open PySem PySem.Spec PyProof.Rows L2
section
variable {X : Cx} {iter elt kx vx tg : Expr} {ifs : List Expr} {σ : L2.St} {H : Hp} {Q : VK} {pos : Pos} {scope : Scope}
/-- all blocks of a comprehension -/
def Blk (X : Cx) (scope : Scope) (P : Cx → Prop) : Prop := ∀ (s : Shared) (H : Hp) (C : Addr) (cl : List (Str × Addr)) (fp : List Addr), P (X.blk s H scope (compEnvC scope cl C X.env) fp)
/-- items by their places, left out or making something -/
inductive RelI {β : Type} (N : Nat → Prop) (R : Nat → β → Prop) : Nat → List β → Prop
  | nil : RelI N R 0 []
  | drop {n ys} : N n → RelI N R n ys → RelI N R (n + 1) ys
  | keep {n y ys} : R n y → RelI N R n ys → RelI N R (n + 1) (ys ++ [y])
namespace RelI
variable {β : Type} {N : Nat → Prop} {R S : Nat → β → Prop}
theorem imp (k : ∀ x y, R x y → S x y) : ∀ {n : Nat} {ys : List β}, RelI N R n ys → RelI N S n ys
  | _, _, .nil => .nil
  | _, _, .drop n t => .drop n (imp k t)
  | _, _, .keep r t => .keep (k _ _ r) (imp k t)
theorem len : ∀ {n : Nat} {ys : List β}, RelI N R n ys → ys.length ≤ n
  | _, _, .nil => Nat.le_refl _
  | _, _, .drop _ t => Nat.le_succ_of_le (len t)
  | _, _, .keep _ t => by
    have := len t
    simp only [List.length_append, List.length_singleton]
    omega
/-- .. over data ds: those that f tells -/
theorem data {α γ : Type} {T : β → γ → Prop} {ds : List α} (f : α → Option γ) (hN : ∀ j d, ds[j]? = some d → N j → f d = none) (hR : ∀ j d y, ds[j]? = some d → R j y → ∃ e, f d = some e ∧ T y e) :
    ∀ {n : Nat} {ys : List β}, n ≤ ds.length → RelI N R n ys → ∃ es, (ds.take n).filterMap f = es ∧ All2 T ys es := by
  intro n ys hn h
  induction h with
  | nil => exact ⟨[], rfl, .nil⟩
  | @drop n ys h _ ih =>
    obtain ⟨es, e, q⟩ := ih (by omega)
    have hd : ds[n]? = some ds[n] := List.getElem?_eq_getElem (by omega)
    refine ⟨es, ?_, q⟩
    rw [List.take_add_one, hd, List.filterMap_append, e]
    simp [hN n _ hd h]
  | @keep n y ys h _ ih =>
    obtain ⟨es, e, q⟩ := ih (by omega)
    have hd : ds[n]? = some ds[n] := List.getElem?_eq_getElem (by omega)
    obtain ⟨e1, h1, h2⟩ := hR n _ y hd h
    refine ⟨es ++ [e1], ?_, ?_⟩
    · rw [List.take_add_one, hd, List.filterMap_append, e]
      simp [h1]
    · exact q.app (.one h2)
end RelI
/-- a list comprehension with any target and tests: N tells who is left out, R what becomes of whom -/
abbrev LcG (X : Cx) (tg iter elt : Expr) (scope : Scope) (own : List (Str × Nat)) (g : TG) (tt : TT) (σ : L2.St) (H : Hp) (Q : VK) : Prop := WI X tg iter σ H fun J H1 => ∃ xs, SeqIt J H1 xs ∧ xs.length < sizeLine ∧ ∃ (N : Nat → Prop) (R : Nat → V → Hp → Prop), (∀ x y Ha Hb, R x y Ha → Sl Ha Hb → R x y Hb) ∧
      (∀ j v, xs[j]? = some v → ∀ H2, Same H1 H2 → ∀ (Kf : Hp → Prop) (Kt : VK), (N j → ∀ H3, Same H2 H3 → Kf H3) → (∀ y H3, Same H2 H3 → R j y H3 → Kt y H3) →
        g v (wipe σ (own.map (·.2))) H2 fun σ2 H3 => wipe σ2 (own.map (·.2)) = wipe σ (own.map (·.2)) ∧ tt σ2 H3 fun b H4 => if b = true then (Blk X scope fun Y => W Y elt σ2 H4 Kt) else Kf H4) ∧
      ∀ q ys H2, Same H1 H2 → H1 q = none → H2 q = some (.lst ys) → RelI N (fun x y => R x y H2) xs.length ys → Q (.ref q) H2
theorem lcG_t {own : List (Str × Nat)} {g : TG} {tt : TT} (h : LcG X tg iter elt scope own g tt σ H Q) : tLc (WI X tg iter) g tt (fun σ2 H2 K => Blk X scope fun Y => W Y elt σ2 H2 K) (own.map (·.2)) σ H Q := by
  refine ⟨fun pins s I => thn (h.run pins s I) fun v s1 z => thn z fun it s2 q => ?_⟩
  obtain ⟨it', fp, tn, J, H1, e, I2, T, t0, f0, xs, ⟨G, wk, g0, gs⟩, hlen, N, R, hst, hel, hend⟩ := q
  refine ⟨it', fp, tn, J, H1, e, I2, T, t0, f0, fun Dd nD => ?_⟩
  refine lc_it (H1 := H1) (D := Dd) (g := g) (tt := tt) (te := fun σ2 H2 K => Blk X scope fun Y => W Y elt σ2 H2 K) (vs := own.map (·.2)) (σ := σ) (Qd := fun H2 => Q (.ref Dd) H2) wk
    (fun j H2 => ∃ ys, Same H1 H2 ∧ H2 Dd = some (.lst ys) ∧ RelI N (fun x y => R x y H2) j ys) ⟨[], same_new nD, upd_same, .nil⟩ (fun j H2 _ ⟨ys, sm, hD, _⟩ => gs _ sm) ?_ ?_
  · rintro j v H2 H2' hj ⟨ys, s12, hD, rel⟩ ⟨eH, hv⟩
    subst eH
    refine hel j v hv _ s12 _ _ (fun c H3 s23 => ?_) (fun y H3 s23 r => ?_)
    · refine ⟨ys, s12.trans s23, s23 _ _ hD, ?_⟩
      exact .drop c (rel.imp fun a b q => hst _ _ _ _ q (Sl.of s23))
    · have hD3 := s23 _ _ hD
      have hl : ys.length < sizeLine := by
        have e1 := rel.len
        omega
      refine ⟨ys, hD3, hl, ys ++ [y], same_upd (s12.trans s23) nD, upd_same, ?_⟩
      have sl : Sl H3 (upd H3 Dd (.lst (ys ++ [y]))) := (Sl.refl H3).lst hD3
      exact .keep (R := fun x y => R x y _) (hst _ _ _ _ r sl) (rel.imp fun a b q => hst _ _ _ _ q ((Sl.of s23).trans sl))
  · rintro H2 ⟨ys, s12, hD, rel⟩
    exact hend Dd ys H2 s12 nD hD rel
theorem w_lcG (own : List (Str × Nat)) (g : TG) (tt : TT) (hg : Blk X scope fun Y => PG Y tg g) (ht : Blk X scope fun Y => PTs Y ifs tt) (hc : X.calm = true) (hN : X.N.Nodup) (ok : BlkOk X.N X.env.scope scope own)
    (h : LcG X tg iter elt scope own g tt σ H Q)
    (hs : ∀ x, foldedSetIterable iter X.env x = pure x := by intro _; rfl) : W X (.ListComp elt [⟨tg, iter, ifs, 0⟩] scope pos) σ H Q := by
  exact W.of (pe_lc (own := own) (g := g) (tt := tt) (te := fun σ2 H2 K => Blk X scope fun Y => W Y elt σ2 H2 K) hc hN WI.pi ok hg ht
    (fun s H C cl fp => ⟨fun pins s' σ' H' Q' I' h' => (h' s H C cl fp).run pins s' I'⟩) hs) (lcG_t h)
theorem ws_setLcG {D : Ends} {y : Str} {py spos : Pos} (i : Nat) (own : List (Str × Nat)) (g : TG) (tt : TT) (hg : Blk X scope fun Y => PG Y tg g) (ht : Blk X scope fun Y => PTs Y ifs tt) (hc : X.calm = true) (hN : X.N.Nodup) (ok : BlkOk X.N X.env.scope scope own) (hy : X.N[i]? = some y)
    (h : LcG X tg iter elt scope own g tt σ H fun v H1 => D.nx (σ.set i (some v)) H1) (hyl : X.env.scope.names.lookup y = some .local := by rfl) (hsw : swapsWith (.ListComp elt [⟨tg, iter, ifs, 0⟩] scope pos) (some (.Name y py)) spos.line X.env = pure true := by exact sw_true rfl rfl rfl rfl)
    (hs : ∀ x, foldedSetIterable iter X.env x = pure x := by intro _; rfl) : WS X (.Assign [.Name y py] (.ListComp elt [⟨tg, iter, ifs, 0⟩] scope pos) spos) D σ H :=
  WS.of (ps_setLc (own := own) (g := g) (tt := tt) (te := fun σ2 H2 K => Blk X scope fun Y => W Y elt σ2 H2 K) hc hN hy hyl hsw WI.pi ok hg ht
    (fun s H C cl fp => ⟨fun pins s' σ' H' Q' I' h' => (h' s H C cl fp).run pins s' I'⟩) hs) (lcG_t h)
/-- places of two lists -/
theorem All2.at {β α : Type} {R : β → α → Prop} {xs : List β} {as : List α} (h : All2 R xs as) : ∀ {j : Nat} {x : β}, xs[j]? = some x → ∃ a, as[j]? = some a ∧ R x a := by
  induction h with
  | nil => intro j x e; simp at e
  | cons r _ ih =>
    intro j x e
    cases j with
    | zero =>
      simp at e
      subst e
      exact ⟨_, rfl, r⟩
    | succ j => exact ih (by simpa using e)
theorem All2.atR {β α : Type} {R : β → α → Prop} {xs : List β} {as : List α} (h : All2 R xs as) : ∀ {j : Nat} {a : α}, as[j]? = some a → ∃ x, xs[j]? = some x ∧ R x a := by
  induction h with
  | nil => intro j x e; simp at e
  | cons r _ ih =>
    intro j x e
    cases j with
    | zero =>
      simp at e
      subst e
      exact ⟨_, rfl, r⟩
    | succ j => exact ih (by simpa using e)
theorem All2.mapL {β γ : Type} {f : γ → β} {xs : List β} {cs : List γ} (h : All2 (fun x c => x = f c) xs cs) : xs = cs.map f := by
  induction h with
  | nil => rfl
  | cons e _ ih => rw [e, ih]; rfl
/-- the keys that were put in -/
theorem putK_keys {d : List (Key × V)} {k : Key} {v : V} : (k ∈ d.map (·.1) ∧ (putK d k v).map (·.1) = d.map (·.1)) ∨ (k ∉ d.map (·.1) ∧ (putK d k v).map (·.1) = d.map (·.1) ++ [k]) := by
  unfold putK
  cases e : d.any fun kv => decide (kv.1 = k) with
  | true =>
    left
    obtain ⟨kv, h1, h2⟩ := List.any_eq_true.mp e
    refine ⟨List.mem_map.mpr ⟨kv, h1, of_decide_eq_true h2⟩, ?_⟩
    rw [if_pos rfl, List.map_map]
    refine List.map_congr_left fun kv _ => ?_
    show (if kv.1 = k then (kv.1, v) else kv).1 = kv.1
    split <;> rfl
  | false =>
    right
    refine ⟨fun h => ?_, ?_⟩
    · obtain ⟨kv, h1, h2⟩ := List.mem_map.mp h
      have h3 := List.any_eq_false.mp e kv h1
      exact h3 (decide_eq_true h2)
    · rw [if_neg Bool.false_ne_true]
      simp
/-- the dict of pairs put in one behind another -/
def putAll (ys : List (Key × V)) : List (Key × V) := ys.foldl (fun d kv => putK d kv.1 kv.2) []
theorem putAll_snoc {ys : List (Key × V)} {k : Key} {v : V} : putAll (ys ++ [(k, v)]) = putK (putAll ys) k v := by
  unfold putAll
  rw [List.foldl_append]
  rfl
theorem putAll_mem (ys : List (Key × V)) : ((putAll ys).map (·.1)).Nodup ∧ ∀ k, k ∈ (putAll ys).map (·.1) ↔ k ∈ ys.map (·.1) := by
  have h : ∀ (zs d : List (Key × V)), (d.map (·.1)).Nodup → ((zs.foldl (fun d kv => putK d kv.1 kv.2) d).map (·.1)).Nodup ∧ ∀ k, k ∈ (zs.foldl (fun d kv => putK d kv.1 kv.2) d).map (·.1) ↔ k ∈ d.map (·.1) ∨ k ∈ zs.map (·.1) := by
    intro zs
    induction zs with
    | nil => intro d n; exact ⟨n, fun k => by simp⟩
    | cons z zs ih =>
      intro d n
      have e := putK_keys (d := d) (k := z.1) (v := z.2)
      have n2 : ((putK d z.1 z.2).map (·.1)).Nodup := by
        rcases e with ⟨_, e⟩ | ⟨c, e⟩
        · rw [e]; exact n
        · rw [e, List.nodup_append]
          refine ⟨n, by simp, fun a ha b hb => ?_⟩
          rw [List.mem_singleton.mp hb]
          rintro rfl
          exact c ha
      obtain ⟨h1, h2⟩ := ih (putK d z.1 z.2) n2
      refine ⟨h1, fun k => ?_⟩
      rw [List.foldl_cons, h2 k, List.map_cons, List.mem_cons]
      rcases e with ⟨c, e⟩ | ⟨c, e⟩
      · rw [e]
        constructor
        · rintro (h | h)
          · exact .inl h
          · exact .inr (.inr h)
        · rintro (h | h | h)
          · exact .inl h
          · rw [h]; exact .inl c
          · exact .inr h
      · rw [e, List.mem_append, List.mem_singleton, or_assoc]
  obtain ⟨h1, h2⟩ := h ys [] (by simp)
  exact ⟨h1, fun k => (h2 k).trans (by simp)⟩
theorem nodup_len {α : Type} [DecidableEq α] : ∀ {xs L : List α}, xs.Nodup → (∀ z ∈ xs, z ∈ L) → xs.length ≤ L.length
  | [], _, _, _ => Nat.zero_le _
  | x :: xs, L, n, h => by
    have n := List.nodup_cons.mp n
    have h1 := nodup_len (xs := xs) (L := L.erase x) n.2 fun z hz => (List.mem_erase_of_ne (by rintro rfl; exact n.1 hz)).mpr (h z (List.mem_cons_of_mem _ hz))
    have h2 := List.length_erase_of_mem (h x List.mem_cons_self)
    have h3 : 0 < L.length := List.length_pos_of_mem (h x List.mem_cons_self)
    simp only [List.length_cons]
    omega
theorem putAll_len : ∀ ys : List (Key × V), (putAll ys).length ≤ ys.length := by
  intro ys
  have h : ∀ (zs d : List (Key × V)), (zs.foldl (fun d kv => putK d kv.1 kv.2) d).length ≤ d.length + zs.length := by
    intro zs
    induction zs with
    | nil => intro d; exact Nat.le_refl _
    | cons z zs ih =>
      intro d
      have h1 := ih (putK d z.1 z.2)
      have h2 := length_putK d z.1 z.2
      show (zs.foldl _ (putK d z.1 z.2)).length ≤ _
      simp only [List.length_cons]
      omega
  have e := h ys []
  rw [List.length_nil, Nat.zero_add] at e
  exact e
/-- a dict comprehension, keys ints or texts -/
theorem w_dcG (own : List (Str × Nat)) (g : TG) (tt : TT) (hg : Blk X scope fun Y => PG Y tg g) (ht : Blk X scope fun Y => PTs Y ifs tt) (hc : X.calm = true) (hN : X.N.Nodup) (ok : BlkOk X.N X.env.scope scope own)
    (h : WI X tg iter σ H fun J H1 => ∃ xs, SeqIt J H1 xs ∧ xs.length < sizeLine ∧ ∃ (N : Nat → Prop) (R : Nat → Key → V → Hp → Prop), (∀ x k y Ha Hb, R x k y Ha → Sl Ha Hb → R x k y Hb) ∧
      (∀ j v, xs[j]? = some v → ∀ H2, Same H1 H2 → ∀ (Kf : Hp → Prop) (Kt : V → V → Hp → Prop), (N j → ∀ H3, Same H2 H3 → Kf H3) → (∀ k y H3, Same H2 H3 → R j k y H3 → Kt (kV k) y H3) →
        g v (wipe σ (own.map (·.2))) H2 fun σ2 H3 => wipe σ2 (own.map (·.2)) = wipe σ (own.map (·.2)) ∧ tt σ2 H3 fun b H4 => if b = true then (Blk X scope fun Y => W Y kx σ2 H4 fun y H5 => Blk X scope fun Y => W Y vx σ2 H5 fun z H6 => Kt y z H6) else Kf H4) ∧
      ∀ q ys H2, H1 q = none → H2 q = some (.dK (putAll ys)) → Same H1 H2 → RelI N (fun x (ky : Key × V) => R x ky.1 ky.2 H2) xs.length ys → Q (.ref q) H2)
    (hs : ∀ x, foldedSetIterable iter X.env x = pure x := by intro _; rfl) : W X (.DictComp kx vx [⟨tg, iter, ifs, 0⟩] scope pos) σ H Q := by
  refine W.of (pe_dc (own := own) (g := g) (tt := tt) (tk := fun σ2 H2 K => Blk X scope fun Y => W Y kx σ2 H2 K) (tv := fun σ2 H2 K => Blk X scope fun Y => W Y vx σ2 H2 K) hc hN WI.pi ok hg ht
    (fun s H C cl fp => ⟨fun pins s' σ' H' Q' I' h' => (h' s H C cl fp).run pins s' I'⟩) (fun s H C cl fp => ⟨fun pins s' σ' H' Q' I' h' => (h' s H C cl fp).run pins s' I'⟩) hs) ?_
  refine ⟨fun pins s I => thn (h.run pins s I) fun v s1 z => thn z fun it s2 q => ?_⟩
  obtain ⟨it', fp, tn, J, H1, e, I2, T, t0, f0, xs, ⟨G, wk, g0, gs⟩, hlen, N, R, hst, hel, hend⟩ := q
  refine ⟨it', fp, tn, J, H1, e, I2, T, t0, f0, fun D nD => ?_⟩
  let Pv : Nat → Hp → Prop := fun j H2 => ∃ ys, Same H1 H2 ∧ H2 D = some (.dK (putAll ys)) ∧ RelI N (fun x (ky : Key × V) => R x ky.1 ky.2 H2) j ys
  refine ⟨fun i m H => m = xs.length - i ∧ i ≤ xs.length ∧ Pv i H, ⟨xs.length, by simp, Nat.zero_le _, [], same_new nD, upd_same, .nil⟩, ?_⟩
  rintro j m H2 ⟨rfl, hi, ys, s12, hD, rel⟩
  have gq := gs _ s12
  by_cases hlt : j < xs.length
  · refine .inr ⟨wk.goes j H2 hlt gq, Pv (j + 1), fun H' p' => ⟨xs.length - (j + 1), by omega, rfl, hlt, p'⟩, fun v H2' y => ?_⟩
    obtain ⟨eH, hv⟩ := wk.yields j H2 v H2' hlt gq y
    subst eH
    refine hel j v hv _ s12 _ (fun y z H4 => ∃ kvs k, y = kV k ∧ H4 D = some (.dK kvs) ∧ kvs.length < sizeLine ∧ Pv (j + 1) (upd H4 D (.dK (putK kvs k z)))) (fun c H3 s23 => ?_) (fun k y H3 s23 r => ?_)
    · refine ⟨ys, s12.trans s23, s23 _ _ hD, ?_⟩
      exact .drop c (rel.imp fun a b q => hst _ _ _ _ _ q (Sl.of s23))
    · have hD3 := s23 _ _ hD
      have hl : (putAll ys).length < sizeLine := by
        have e0 := putAll_len ys
        have e1 := rel.len
        omega
      refine ⟨_, k, rfl, hD3, hl, ys ++ [(k, y)], same_upd (s12.trans s23) nD, ?_, ?_⟩
      · rw [putAll_snoc]
        exact upd_same
      · have sl : Sl H3 (upd H3 D (.dK (putK (putAll ys) k y))) := (Sl.refl H3).upd hD3 rfl
        exact .keep (R := fun x (ky : Key × V) => R x ky.1 ky.2 _) (hst _ _ _ _ _ r sl) (rel.imp fun a b q => hst _ _ _ _ _ q ((Sl.of s23).trans sl))
  · have e : j = xs.length := by omega
    subst e
    exact .inl ⟨wk.stops _ gq, hend D ys H2 nD hD s12 rel⟩
/-! ### calls by values -/
theorem kv_maxL {p : Addr} {ns : List Int} (hc : X.calm = true) (hp : SqL X.K H p (ns.map V.int)) (hn : 0 < ns.length) (h : ∀ m, m ∈ ns → (∀ y, y ∈ ns → y ≤ m) → Q (.int m) H) : CallV X (.builtin "max") [.ref p] H Q := ⟨_, cr_max hc, p, ns, rfl, hp, hn, h⟩
theorem kv_minL {p : Addr} {ns : List Int} (hc : X.calm = true) (hp : SqL X.K H p (ns.map V.int)) (hn : 0 < ns.length) (h : ∀ m, m ∈ ns → (∀ y, y ∈ ns → m ≤ y) → Q (.int m) H) : CallV X (.builtin "min") [.ref p] H Q := ⟨_, cr_min hc, p, ns, rfl, hp, hn, h⟩
theorem kv_sumL {p : Addr} {ns : List Int} (hc : X.calm = true) (hp : SqL X.K H p (ns.map V.int)) (h : Q (.int ns.sum) H) : CallV X (.builtin "sum") [.ref p] H Q := ⟨_, cr_sum hc, p, ns, rfl, hp, h⟩
theorem kv_sortedS {p : Addr} {xs : List Str} (hp : SqL X.K H p (xs.map V.str)) (hn : xs.length < 64) (h : ∀ ys q H2, ys.Perm xs → sortedS ys = true → Same H H2 → H q = none → H2 q = some (.lst (ys.map V.str)) → Q (.ref q) H2) : CallV X (.builtin "sorted") [.ref p] H Q :=
  ⟨_, cr_sortedS, p, xs, rfl, hp, hn, fun ys q h1 h2 h3 => h ys q _ h1 h2 (same_new h3) h3 upd_same⟩
theorem kv_sortedD {p : Addr} {kvs : List (Key × V)} {ks : List Str} (hc : X.calm = true) (hp : H p = some (.dK kvs)) (hk : kvs.map (·.1) = ks.map Sum.inr) (hn : ks.length < 64) (h : ∀ ys q H2, ys.Perm ks → sortedS ys = true → Same H H2 → H q = none → H2 q = some (.lst (ys.map V.str)) → Q (.ref q) H2) : CallV X (.builtin "sorted") [.ref p] H Q :=
  ⟨_, call_sortedD hc, p, kvs, ks, rfl, Rd.of hp, hk, hn, fun ys q h1 h2 h3 => h ys q _ h1 h2 (same_new h3) h3 upd_same⟩
theorem kv_tupleL {p : Addr} {xs : List V} (hp : SqL X.K H p xs) (h : ∀ q H2, Same H H2 → H q = none → H2 q = some (.tup xs) → Q (.ref q) H2) : CallV X (.type "tuple") [.ref p] H Q :=
  ⟨_, call_tuple_of, p, xs, rfl, .inl ⟨hp, fun q h3 => h q _ (same_new h3) h3 upd_same⟩⟩
theorem kv_listS {p : Addr} {xs : List V} (hp : SqL X.K H p xs ∨ SqT X.K H p xs) (h : ∀ q H2, Same H H2 → H q = none → H2 q = some (.lst xs) → Q (.ref q) H2) : CallV X (.type "list") [.ref p] H Q :=
  ⟨_, call_list_of, p, xs, rfl, hp, fun q h3 => h q _ (same_new h3) h3 upd_same⟩
end
end Ax
end
section
set_option maxHeartbeats 2000000
namespace Ax
open PySem PySem.Spec PyProof.Rows L2
/-! ### all but soft things stands -/
def wispO : HO → Bool
  | .ext _ => true
  | .tbl _ => true
  | _ => false
def Sx (H H' : Hp) : Prop := ∀ a o, H a = some o → wispO o = false → H' a = some o
theorem Sx.refl (H : Hp) : Sx H H := fun _ _ h _ => h
theorem Sx.trans {H H1 H2 : Hp} (a : Sx H H1) (b : Sx H1 H2) : Sx H H2 := fun c o h n => b c o (a c o h n) n
theorem Sx.of {H H' : Hp} (e : Same H H') : Sx H H' := fun b o h _ => e b o h
theorem Sm.sx {p : Addr} {H H' : Hp} (e : Sm p H H') : Sx H H' := fun b o h n => e.keep b o h (by
  rintro rfl
  obtain ⟨m, hm⟩ := e.at0
  rw [hm] at h
  cases h
  cases n)
theorem Sx.ofN {H H' : Hp} (e : LamX.ExtN H H') : Sx H H' := fun b o h n => e b o h fun ps z => by
  rw [z] at n
  cases n
theorem Sx.sl {H H' : Hp} (e : Sx H H') : Sl H H' := fun b o h n => e b o h (by cases o <;> first | rfl | cases n)
theorem Sx.tup {K : PySem.W.Frag} {H H' : Hp} {a : Addr} {xs : List V} (e : Sx H H') (h : SqT K H a xs) : SqT K H' a xs := e.sl.tup h
theorem Sx.seq {K : PySem.W.Frag} {H H' : Hp} {a : Addr} {xs : List V} (e : Sx H H') (h : SqL K H a xs) : SqL K H' a xs := by
  rcases h with (h | ⟨o, h⟩) | h
  · exact .inl (.inl (e _ _ h rfl))
  · exact .inl (.inr ⟨o, e _ _ h rfl⟩)
  · exact .inr h
mutual
theorem dp_sx {K : PySem.W.Frag} {H H' : Hp} (s : Sx H H') : ∀ {d : PyData} {v : V}, Dp K H v d → Dp K H' v d
  | .none, _, h => by cases h; exact .non
  | .bool _, _, h => by cases h; exact .bl _
  | .int _, _, h => by cases h; exact .int _
  | .str _, _, h => by cases h; exact .str _
  | .list ds, _, h => by
    cases h with
    | lst hs ha => exact .lst (s.seq hs) (dpa_sx s ha)
  | .tuple ds, _, h => by
    cases h with
    | tup hs ha => exact .tup (s.tup hs) (dpa_sx s ha)
  | .dict _, _, h => by cases h
theorem dpa_sx {K : PySem.W.Frag} {H H' : Hp} (s : Sx H H') : ∀ {ds : List PyData} {vs : List V}, DpAll K H vs ds → DpAll K H' vs ds
  | [], _, h => by cases h; exact .nil
  | d :: ds, _, h => by
    cases h with
    | cons h1 h2 => exact .cons (dp_sx s h1) (dpa_sx s h2)
end
/-- data, or an empty dict -/
inductive AnyX (K : PySem.W.Frag) (H : Hp) : V → Option PyData → Prop
  | dat {v : V} {d : PyData} (h : Dp K H v d) (ok : okD d = true) : AnyX K H v (some d)
  | dct {a : Addr} {kvs : List (Key × V)} (h : H a = some (.dK kvs)) : AnyX K H (.ref a) none
theorem AnyX.sx {K : PySem.W.Frag} {H H' : Hp} {v : V} {o : Option PyData} (s : Sx H H') (a : AnyX K H v o) : AnyX K H' v o := by
  cases a with
  | dat h ok => exact .dat (dp_sx s h) ok
  | dct h => exact .dct (s _ _ h rfl)
theorem AnyX.any {K : PySem.W.Frag} {H : Hp} {v : V} {o : Option PyData} (a : AnyX K H v o) : AnyV K H v o := by
  cases a with
  | dat h ok => exact .dat h ok
  | dct h =>
    refine .oth (.base (.dK h)) fun T hT => kit_ty ?_
    have q : ∀ T ∈ ["str", "int", "bool", "tuple", "list"], kitB "dict" T = some false := by decide +kernel
    exact q T hT
section
variable {X : Cx} {e a b o elt iter tg : Expr} {es : List Expr} {scope : Scope} {σ : L2.St} {H : Hp} {Q : VK} {pos p2 : Pos}
/-! ### least and greatest of texts -/
theorem ltS (a b : Str) : (PySem.W.DatumOrd.lt a b = true) ↔ a.cps.toList < b.cps.toList := decide_eq_true_iff
theorem lt_ofle {a b c : List Nat} (h : a < b) (k : ¬ c < b) : a < c := by
  rcases Classical.em (a < c) with q | q
  · exact q
  · exact absurd h (List.le_trans (show b ≤ c from k) (show c ≤ a from q))
theorem least_str : ∀ (xs : List Str) (x : Str), PySem.W.minOf x xs ∈ x :: xs ∧ ∀ y ∈ x :: xs, ¬ y.cps.toList < (PySem.W.minOf x xs).cps.toList
  | [], x => ⟨List.mem_cons_self, fun y hy => by
    rw [List.mem_singleton.mp hy]
    exact List.lt_irrefl _⟩
  | z :: xs, x => by
    have e : PySem.W.minOf x (z :: xs) = PySem.W.minOf (if PySem.W.DatumOrd.lt z x = true then z else x) xs := rfl
    obtain ⟨h1, h2⟩ := least_str xs (if PySem.W.DatumOrd.lt z x = true then z else x)
    rw [e]
    have hm := h2 _ List.mem_cons_self
    by_cases c : PySem.W.DatumOrd.lt z x = true
    · rw [if_pos c] at h1 h2 hm ⊢
      have c := (ltS z x).mp c
      refine ⟨List.mem_cons_of_mem _ h1, fun y hy => ?_⟩
      rcases List.mem_cons.mp hy with q | q
      · rw [q]
        exact fun hx => hm (List.lt_trans c hx)
      · exact h2 y q
    · rw [if_neg c] at h1 h2 hm ⊢
      have c : ¬ z.cps.toList < x.cps.toList := fun q => c ((ltS z x).mpr q)
      refine ⟨?_, fun y hy => ?_⟩
      · rcases List.mem_cons.mp h1 with q | q
        · rw [q]; exact List.mem_cons_self
        · exact List.mem_cons_of_mem _ (List.mem_cons_of_mem _ q)
      · rcases List.mem_cons.mp hy with q | q
        · rw [q]; exact hm
        · rcases List.mem_cons.mp q with q | q
          · rw [q]
            exact fun hx => c (lt_ofle hx hm)
          · exact h2 y (List.mem_cons_of_mem _ q)
theorem most_str : ∀ (xs : List Str) (x : Str), PySem.W.maxOf x xs ∈ x :: xs ∧ ∀ y ∈ x :: xs, ¬ (PySem.W.maxOf x xs).cps.toList < y.cps.toList
  | [], x => ⟨List.mem_cons_self, fun y hy => by
    rw [List.mem_singleton.mp hy]
    exact List.lt_irrefl _⟩
  | z :: xs, x => by
    have e : PySem.W.maxOf x (z :: xs) = PySem.W.maxOf (if PySem.W.DatumOrd.lt x z = true then z else x) xs := rfl
    obtain ⟨h1, h2⟩ := most_str xs (if PySem.W.DatumOrd.lt x z = true then z else x)
    rw [e]
    have hm := h2 _ List.mem_cons_self
    by_cases c : PySem.W.DatumOrd.lt x z = true
    · rw [if_pos c] at h1 h2 hm ⊢
      have c := (ltS x z).mp c
      refine ⟨List.mem_cons_of_mem _ h1, fun y hy => ?_⟩
      rcases List.mem_cons.mp hy with q | q
      · rw [q]
        exact fun hx => hm (List.lt_trans hx c)
      · exact h2 y q
    · rw [if_neg c] at h1 h2 hm ⊢
      have c : ¬ x.cps.toList < z.cps.toList := fun q => c ((ltS x z).mpr q)
      refine ⟨?_, fun y hy => ?_⟩
      · rcases List.mem_cons.mp h1 with q | q
        · rw [q]; exact List.mem_cons_self
        · exact List.mem_cons_of_mem _ (List.mem_cons_of_mem _ q)
      · rcases List.mem_cons.mp hy with q | q
        · rw [q]; exact hm
        · rcases List.mem_cons.mp q with q | q
          · rw [q]
            exact fun hx => hm (lt_ofle hx c)
          · exact h2 y (List.mem_cons_of_mem _ q)
theorem dps {K : PySem.W.Frag} : ∀ (zs : List Str), DpAll K H (zs.map V.str) (zs.map PyData.str)
  | [] => .nil
  | z :: zs => .cons (.str z) (dps zs)
theorem vals_str {zs : List Str} {us : List Value} {i : Nat} {v : Value} (r : Vals (zs.map V.str) us) (h : us[i]? = some v) : ∃ z, z ∈ zs ∧ RelV (.str z) v := by
  induction zs generalizing us i with
  | nil => cases r; simp at h
  | cons z zs ih =>
    cases r with
    | cons r1 r2 =>
      cases i with
      | zero =>
        simp at h
        subst h
        exact ⟨z, List.mem_cons_self, r1⟩
      | succ i =>
        obtain ⟨z', h1, h2⟩ := ih r2 (by simpa using h)
        exact ⟨z', List.mem_cons_of_mem _ h1, h2⟩
theorem Vals.refl1 {p : Addr} {us : List Value} (r : Vals [.ref p] us) : us = [.ref p] := L2.Vals.ref1 r
theorem kv_minS {p : Addr} {zs : List Str} (hc : X.calm = true) (hu : X.A.units + 64 < cLine) (hp : SqL X.K H p (zs.map V.str)) (hn : zs ≠ []) (h : ∀ m, m ∈ zs → (∀ y ∈ zs, ¬ y.cps.toList < m.cps.toList) → Q (.str m) H) : CallV X (.builtin "min") [.ref p] H Q := by
  refine ⟨fun vs H' Q' => vs = [.ref p] ∧ H' = H ∧ Q' = Q, ?_, rfl, rfl, rfl⟩
  rintro pins s σ H0 vs us Q0 I r ⟨rfl, rfl, rfl⟩
  rw [L2.Vals.ref1 r]
  obtain ⟨its, rv, pl, _⟩ := I.list hp
  cases zs with
  | nil => exact absurd rfl hn
  | cons x xs =>
    refine PySem.W.min_list_datum (x := x) (xs := xs) (I.ok.hd hc) pl.isList ?_ ?_ fun i v h' tk hv hz hk => ?_
    · obtain ⟨as, q⟩ := Dp.readsAll I _ _ _ (dps (K := X.K) (H := H0) (x :: xs)) rv
      rw [List.toList_toArray]
      exact ⟨as, q⟩
    · show X.A.units + 1 + _ < cLine
      have e : (PySem.W.Datum.depth Str) = 0 ∨ (PySem.W.Datum.depth Str) = 1 := by first | exact .inl rfl | exact .inr rfl
      omega
    · obtain ⟨h1, h2⟩ := least_str xs x
      obtain ⟨as, q⟩ := hz
      obtain ⟨t, rfl, _⟩ := PyProof.Rows.reads_str_inv q
      exact ⟨.str _, H0, I.kept (t' := tk) hk, ⟨t, rfl⟩, h _ h1 h2⟩
theorem kv_maxS {p : Addr} {zs : List Str} (hc : X.calm = true) (hu : X.A.units + 64 < cLine) (hp : SqL X.K H p (zs.map V.str)) (hn : zs ≠ []) (h : ∀ m, m ∈ zs → (∀ y ∈ zs, ¬ m.cps.toList < y.cps.toList) → Q (.str m) H) : CallV X (.builtin "max") [.ref p] H Q := by
  refine ⟨fun vs H' Q' => vs = [.ref p] ∧ H' = H ∧ Q' = Q, ?_, rfl, rfl, rfl⟩
  rintro pins s σ H0 vs us Q0 I r ⟨rfl, rfl, rfl⟩
  rw [L2.Vals.ref1 r]
  obtain ⟨its, rv, pl, _⟩ := I.list hp
  cases zs with
  | nil => exact absurd rfl hn
  | cons x xs =>
    refine PySem.W.max_list_datum (x := x) (xs := xs) (I.ok.hd hc) pl.isList ?_ ?_ fun i v h' tk hv hz hk => ?_
    · obtain ⟨as, q⟩ := Dp.readsAll I _ _ _ (dps (K := X.K) (H := H0) (x :: xs)) rv
      rw [List.toList_toArray]
      exact ⟨as, q⟩
    · show X.A.units + 1 + _ < cLine
      have e : (PySem.W.Datum.depth Str) = 0 ∨ (PySem.W.Datum.depth Str) = 1 := by first | exact .inl rfl | exact .inr rfl
      omega
    · obtain ⟨h1, h2⟩ := most_str xs x
      obtain ⟨as, q⟩ := hz
      obtain ⟨t, rfl, _⟩ := PyProof.Rows.reads_str_inv q
      exact ⟨.str _, H0, I.kept (t' := tk) hk, ⟨t, rfl⟩, h _ h1 h2⟩
/-! ### tuples and lists: +, *, slices -/
theorem bv_catT {p q : Addr} {xs ys : List V} (h1 : SqT X.K H p xs) (h2 : SqT X.K H q ys) (hl : xs.length + ys.length ≤ sizeLine) (h : ∀ r H2, Same H H2 → SqT X.K H2 r (xs ++ ys) → Q (.ref r) H2) : BinV X .Add (.ref p) (.ref q) H Q :=
  ⟨_, op_catA, p, q, xs, ys, rfl, rfl, h1, h2, hl, fun e => h q H (Same.refl _) (by rw [e]; exact h2), fun _ e => h p H (Same.refl _) (by rw [e, List.append_nil]; exact h1), fun _ _ r hr => h r _ (same_new hr) (SqT.of upd_same)⟩
theorem bv_repT {p : Addr} {k : Int} {xs : List V} (h1 : SqT X.K H p xs) (hn : xs ≠ []) (k2 : 2 ≤ k) (k3 : k ≤ 1000) (hl : xs.length ≤ 1000) (h : ∀ r H2, Same H H2 → H r = none → H2 r = some (.tup (List.replicate k.toNat xs).flatten) → Q (.ref r) H2) : BinV X .Mult (.ref p) (.int k) H Q :=
  ⟨_, op_repT, p, k, xs, rfl, rfl, h1, hn, k2, k3, hl, fun r hr => h r _ (same_new hr) hr upd_same⟩
theorem bv_rep {p : Addr} {k : Int} {xs : List V} (h1 : H p = some (.lst xs)) (k2 : -(2 ^ 63) ≤ k) (k3 : k < 2 ^ 63) (hl : xs.length * k.toNat ≤ sizeLine) (h : ∀ r H2, Same H H2 → H r = none → H2 r = some (.lst (List.replicate k.toNat xs).flatten) → Q (.ref r) H2) : BinV X .Mult (.ref p) (.int k) H Q :=
  ⟨_, op_rep, p, k, xs, rfl, rfl, h1, k2, k3, hl, fun r hr => h r _ (same_new hr) hr upd_same⟩
theorem sIx_lt {n d k : Nat} (h : k ≤ n) : HT.sIx n d (some (k : Int)) = k := by
  rw [HT.sIx_nat]
  omega
/-- t[:k] -/
theorem w_sliceTo (h : W X a σ H fun x H1 => W X b σ H1 fun y H2 => ∃ (p : Addr) (k : Nat) (xs : List V), x = .ref p ∧ y = .int k ∧ SqT X.K H2 p xs ∧ k ≤ xs.length ∧ ∀ r H3, Same H2 H3 → SqT X.K H3 r (xs.take k) → Q (.ref r) H3) : W X (.Subscript a (.Slice none (some b) none p2) pos) σ H Q := by
  refine W.of (pe_slice sl_tupA W.pe po_none (po_some W.pe)) ?_
  show W X a σ H _
  refine W.mono h fun x H1 q => ?_
  show W X b σ H1 _
  refine W.mono q fun y H2 ⟨p, k, xs, e1, e2, hp, hk, q⟩ => ⟨(k : Int), e2, p, xs, e1, hp, fun ⟨_, z⟩ => ?_, fun _ r hr => ?_⟩
  · rw [sIx_lt hk] at z
    exact q p H2 (Same.refl _) (by rw [z, List.take_length]; exact hp)
  · refine q r _ (same_new hr) (SqT.of ?_)
    rw [upd_same]
    show some (HO.tup ((xs.drop 0).take (HT.sIx xs.length xs.length (some (k : Int)) - 0))) = _
    rw [sIx_lt hk, List.drop_zero, Nat.sub_zero]
/-- t[k:] -/
theorem w_sliceFrom (h : W X a σ H fun x H1 => W X b σ H1 fun y H2 => ∃ (p : Addr) (k : Nat) (xs : List V), x = .ref p ∧ y = .int k ∧ SqT X.K H2 p xs ∧ k ≤ xs.length ∧ ∀ r H3, Same H2 H3 → SqT X.K H3 r (xs.drop k) → Q (.ref r) H3) : W X (.Subscript a (.Slice (some b) none none p2) pos) σ H Q := by
  refine W.of (pe_slice sl_tupA W.pe (po_some W.pe) po_none) ?_
  show W X a σ H _
  refine W.mono h fun x H1 q => ?_
  show W X b σ H1 _
  refine W.mono q fun y H2 ⟨p, k, xs, e1, e2, hp, hk, q⟩ => ⟨(k : Int), e2, p, xs, e1, hp, fun ⟨z, _⟩ => ?_, fun _ r hr => ?_⟩
  · rw [sIx_lt hk] at z
    exact q p H2 (Same.refl _) (by rw [z, List.drop_zero]; exact hp)
  · refine q r _ (same_new hr) (SqT.of ?_)
    rw [upd_same]
    show some (HO.tup ((xs.drop (HT.sIx xs.length 0 (some (k : Int)))).take (xs.length - HT.sIx xs.length 0 (some (k : Int))))) = _
    rw [sIx_lt hk, List.take_of_length_le (by rw [List.length_drop]; exact Nat.le_refl _)]
/-! ### [elt for x in iter], the dice at p rolled on the way -/
structure SeqItM (p : Addr) (J : It) (H : Hp) (xs : List V) : Prop where
  ex : ∃ G : Hp → Prop, Walk J xs.length G (YAt xs) ∧ G H ∧ ∀ H', Sm p H H' → G H'
theorem seqItM_range {lo : Int} {n : Nat} {p : Addr} : SeqItM p (Itr lo n) H (intsV lo n) := by
  obtain ⟨G, w, _, _⟩ := (seqIt_range (H := H) (lo := lo) (n := n)).ex
  refine ⟨fun _ => True, ?_, trivial, fun _ _ => trivial⟩
  have w := (walk_range (lo := lo) (n := n)).mono (G' := fun _ => True) (Y' := YAt (intsV lo n)) (fun _ h => h) fun i H x H' hi _ y => by
    obtain ⟨e, rfl⟩ := y
    refine ⟨e, ?_⟩
    unfold intsV
    rw [List.getElem?_map]
    simp [hi]
  have e : (intsV lo n).length = n := by simp [intsV]
  rw [e]
  exact w
theorem seqItM_tup {a p : Addr} {K : PySem.W.Frag} {xs : List V} (h : SqT K H a xs) : SeqItM p (Itt K a) H xs := ⟨_, walk_tup, h, fun _ s => s.tup h⟩
theorem seqItM_list {a p : Addr} {K : PySem.W.Frag} {xs : List V} (h : SqL K H a xs) : SeqItM p (Itl K a) H xs := ⟨_, walk_list, h, fun _ s => s.seq h⟩
abbrev LcM (X : Cx) (p : Addr) (tg iter elt : Expr) (scope : Scope) (own : List (Str × Nat)) (g : TG) (σ : L2.St) (H : Hp) (Q : VK) : Prop := WI X tg iter σ H fun J H1 => ∃ xs, SeqItM p J H1 xs ∧ xs.length < sizeLine ∧ ∃ (m0 : Nat) (M : Nat → Nat) (R : Nat → V → Hp → Prop), H1 p = some (DiceO p m0) ∧ (∀ x y Ha Hb, R x y Ha → Sl Ha Hb → R x y Hb) ∧
      (∀ j v, xs[j]? = some v → ∀ H2 m, Sm p H1 H2 → H2 p = some (DiceO p m) → m ≤ m0 + M j → ∀ (Kt : VK), (∀ y H3 m', Sm p H2 H3 → H3 p = some (DiceO p m') → m' ≤ m0 + M (j + 1) → R j y H3 → Kt y H3) →
        g v (wipe σ (own.map (·.2))) H2 fun σ2 H3 => wipe σ2 (own.map (·.2)) = wipe σ (own.map (·.2)) ∧ Blk X scope fun Y => W Y elt σ2 H3 Kt) ∧
      ∀ q ys H2 m, Sm p H1 H2 → H2 p = some (DiceO p m) → m ≤ m0 + M xs.length → H1 q = none → H2 q = some (.lst ys) → RelI (fun _ => False) (fun x y => R x y H2) xs.length ys → Q (.ref q) H2
theorem lcM_t {p : Addr} {own : List (Str × Nat)} {g : TG} (h : LcM X p tg iter elt scope own g σ H Q) : tLc (WI X tg iter) g tYes (fun σ2 H2 K => Blk X scope fun Y => W Y elt σ2 H2 K) (own.map (·.2)) σ H Q := by
  refine ⟨fun pins s I => thn (h.run pins s I) fun v s1 z => thn z fun it s2 q => ?_⟩
  obtain ⟨it', fp, tn, J, H1, e, I2, T, t0, f0, xs, ⟨G, wk, g0, gs⟩, hlen, m0, M, R, hp0, hst, hel, hend⟩ := q
  refine ⟨it', fp, tn, J, H1, e, I2, T, t0, f0, fun Dd nD => ?_⟩
  have pD : Dd ≠ p := fun z => by
    rw [z, hp0] at nD
    cases nD
  refine lc_it (H1 := H1) (D := Dd) (g := g) (tt := tYes) (te := fun σ2 H2 K => Blk X scope fun Y => W Y elt σ2 H2 K) (vs := own.map (·.2)) (σ := σ) (Qd := fun H2 => Q (.ref Dd) H2) wk
    (fun j H2 => ∃ ys m, Sm p H1 H2 ∧ H2 p = some (DiceO p m) ∧ m ≤ m0 + M j ∧ H2 Dd = some (.lst ys) ∧ RelI (fun _ => False) (fun x y => R x y H2) j ys)
    ⟨[], m0, (Sm.refl hp0).new nD, by rw [upd_ne pD.symm]; exact hp0, by omega, upd_same, .nil⟩ (fun j H2 _ ⟨ys, m, sm, _⟩ => gs _ sm) ?_ ?_
  · rintro j v H2 H2' hj ⟨ys, m, s12, hp, hm, hD, rel⟩ ⟨eH, hv⟩
    subst eH
    refine hel j v hv _ m s12 hp hm _ fun y H3 m' s23 hp3 hm3 r => ?_
    have hD3 := s23.lst hD
    have hl : ys.length < sizeLine := by
      have e1 := rel.len
      omega
    refine ⟨ys, hD3, hl, ys ++ [y], m', (s12.trans s23).new nD, by rw [upd_ne pD.symm]; exact hp3, hm3, upd_same, ?_⟩
    have sl : Sl H3 (upd H3 Dd (.lst (ys ++ [y]))) := (Sl.refl H3).lst hD3
    exact .keep (R := fun x y => R x y _) (hst _ _ _ _ r sl) (rel.imp fun a b q => hst _ _ _ _ q (s23.sl.trans sl))
  · rintro H2 ⟨ys, m, s12, hp, hm, hD, rel⟩
    exact hend Dd ys H2 m s12 hp hm nD hD rel
theorem w_lcM (p : Addr) (own : List (Str × Nat)) (g : TG) (hg : Blk X scope fun Y => PG Y tg g) (hc : X.calm = true) (hN : X.N.Nodup) (ok : BlkOk X.N X.env.scope scope own)
    (h : LcM X p tg iter elt scope own g σ H Q)
    (hs : ∀ x, foldedSetIterable iter X.env x = pure x := by intro _; rfl) : W X (.ListComp elt [⟨tg, iter, [], 0⟩] scope pos) σ H Q := by
  exact W.of (pe_lc (own := own) (g := g) (tt := tYes) (te := fun σ2 H2 K => Blk X scope fun Y => W Y elt σ2 H2 K) hc hN WI.pi ok hg (fun _ _ _ _ _ => pts_nil)
    (fun s H C cl fp => ⟨fun pins s' σ' H' Q' I' h' => (h' s H C cl fp).run pins s' I'⟩) hs) (lcM_t h)
theorem ws_setLcM {D : Ends} {y : Str} {py spos : Pos} (i : Nat) (p : Addr) (own : List (Str × Nat)) (g : TG) (hg : Blk X scope fun Y => PG Y tg g) (hc : X.calm = true) (hN : X.N.Nodup) (ok : BlkOk X.N X.env.scope scope own) (hy : X.N[i]? = some y)
    (h : LcM X p tg iter elt scope own g σ H fun v H1 => D.nx (σ.set i (some v)) H1) (hyl : X.env.scope.names.lookup y = some .local := by rfl) (hsw : swapsWith (.ListComp elt [⟨tg, iter, [], 0⟩] scope pos) (some (.Name y py)) spos.line X.env = pure true := by exact sw_true rfl rfl rfl rfl)
    (hs : ∀ x, foldedSetIterable iter X.env x = pure x := by intro _; rfl) : WS X (.Assign [.Name y py] (.ListComp elt [⟨tg, iter, [], 0⟩] scope pos) spos) D σ H :=
  WS.of (ps_setLc (own := own) (g := g) (tt := tYes) (te := fun σ2 H2 K => Blk X scope fun Y => W Y elt σ2 H2 K) hc hN hy hyl hsw WI.pi ok hg (fun _ _ _ _ _ => pts_nil)
    (fun s H C cl fp => ⟨fun pins s' σ' H' Q' I' h' => (h' s H C cl fp).run pins s' I'⟩) hs) (lcM_t h)
end
end Ax
end
section
set_option maxHeartbeats 2000000
namespace Ax
open PySem PySem.Spec PyProof.Rows L2
theorem tyX_tup {K : PySem.W.Frag} {H : Hp} {a : Addr} {xs : List V} (hs : SqT K H a xs) : TyX K H (.ref a) (.type "tuple") := by
  rcases hs with (h | ⟨o, h⟩) | ⟨o, its, n, hk, hc, _⟩
  · exact .base (.tup h)
  · exact .fTuple h
  · exact .kTuple hk hc
theorem tyX_lst {K : PySem.W.Frag} {H : Hp} {a : Addr} {xs : List V} (hs : SqL K H a xs) : TyX K H (.ref a) (.type "list") := by
  rcases hs with (h | ⟨o, h⟩) | ⟨o, its, n, hk, hc, _⟩
  · exact .base (.lst h)
  · exact .base (.frz h)
  · exact .kList hk hc
section
variable {X : Cx} {e a b o : Expr} {es : List Expr} {σ : L2.St} {H H0 : Hp} {Q : VK} {pos : Pos}
theorem kv_isiB {v : V} {t T : String} {k : Bool} (ty : TyX X.K H v (.type t)) (hk : kitB t T = some k) (h : Q (.bl k) H) : CallV X (.builtin "isinstance") [v, .ty T] H Q := kv_isi (.ty T) ty (kit_ty hk) h
/-- xs == () -/
theorem cv_eqTup0 {p q : Addr} {xs : List V} (hu : X.A.units < cLine) (hp : SqT X.K H p xs) (hq : SqT X.K H q []) (h : Q (.bl xs.isEmpty) H) : CmpV X .Eq (.ref p) (.ref q) H Q := by
  refine ⟨fun x y H Q => x = .ref p ∧ y = .ref q ∧ SqT X.K H p xs ∧ SqT X.K H q [] ∧ Q (.bl xs.isEmpty) H, ?_, rfl, rfl, hp, hq, h⟩
  rintro pins s σ H x y v u Q I rx ry ⟨rfl, rfl, h1, h2, q⟩
  cases rx
  cases ry
  obtain ⟨its, r, pl, _⟩ := I.tuple h1
  obtain ⟨its2, r2, pl2, _⟩ := I.tuple h2
  cases r2
  refine SeqAt.eq_tupleAt (e := fun _ => true) pl pl2 hu (fun j _ h1 => absurd h1 (by simp)) ?_
  have e : ((List.range (min its.toArray.size ([] : List Value).toArray.size)).all (fun _ => true) && its.toArray.size == ([] : List Value).toArray.size) = xs.isEmpty := by
    cases xs with
    | nil => cases r; rfl
    | cons y ys => cases r; simp
  rw [e]
  exact ⟨.bl _, H, I, rfl, q⟩
/-- {} -/
theorem w_dict0 (h : ∀ p H2, Same H H2 → H p = none → H2 p = some (.dK []) → Q (.ref p) H2) : W X (.Dict [] [] pos) σ H Q := W.of pe_dnewK fun p hp => h p _ (same_new hp) hp upd_same
/-! ### written data -/
structure Lit (X : Cx) (e : Expr) (σ : L2.St) (H0 : Hp) (d : PyData) : Prop where
  run : ∀ H Q, Same H0 H → (∀ v H', Same H H' → Dp X.K H' v d → Q v H') → W X e σ H Q
structure LitA (X : Cx) (es : List Expr) (σ : L2.St) (H0 : Hp) (ds : List PyData) : Prop where
  len : ds.length = es.length
  run : ∀ H Q, Same H0 H → (∀ vs H', Same H H' → DpAll X.K H' vs ds → Q vs H') → WA X es σ H Q
variable {d : PyData} {ds : List PyData}
theorem lit_str {x : Str} {j : Nat} : Lit X (.Constant (.str x) j pos) σ H0 (.str x) := ⟨fun H Q _ h => w_str (h _ H (Same.refl _) (.str _))⟩
theorem lit_int {x : Int} {j : Nat} : Lit X (.Constant (.int x) j pos) σ H0 (.int x) := ⟨fun H Q _ h => w_int (h _ H (Same.refl _) (.int _))⟩
theorem lit_bl {x : Bool} {j : Nat} : Lit X (.Constant (.bool x) j pos) σ H0 (.bool x) := ⟨fun H Q _ h => w_bl (h _ H (Same.refl _) (.bl _))⟩
theorem lit_non {j : Nat} : Lit X (.Constant .none j pos) σ H0 .none := ⟨fun H Q _ h => w_non (h _ H (Same.refl _) .non)⟩
theorem lit_of (h : ∀ H Q, Same H0 H → (∀ v, Dp X.K H v d → Q v H) → W X e σ H Q) : Lit X e σ H0 d := ⟨fun H Q s k => h H Q s fun v hd => k v H (Same.refl _) hd⟩
theorem lita_nil : LitA X [] σ H0 [] := ⟨rfl, fun H Q _ h => wa_nil (h _ H (Same.refl _) .nil)⟩
theorem lita_cons (h1 : Lit X e σ H0 d) (h2 : LitA X es σ H0 ds) (hs : starEach (e :: es) X.env = (false, eval e X.env) :: starEach es X.env := by rfl) : LitA X (e :: es) σ H0 (d :: ds) :=
  ⟨by rw [List.length_cons, List.length_cons, h2.len], fun H Q s h => wa_cons (h1.run H _ s fun v H1 s1 hd => h2.run H1 _ (s.trans s1) fun vs H2 s2 hds => h _ H2 (s1.trans s2) (.cons (dp_same s2 hd) hds)) hs⟩
theorem lit_tup {j : Nat} (h : LitA X es σ H0 ds) (hl : es.length ≤ 100 := by decide) : Lit X (.Tuple es j pos) σ H0 (.tuple ds) :=
  ⟨fun H Q s k => w_tup (h.run H _ s fun vs H1 s1 hd => ⟨by rw [dpa_len hd, h.len]; exact Nat.le_trans hl (by decide), fun p H2 s2 n2 hp => k _ H2 (s1.trans s2) (.tup (SqT.of hp) (dpa_same s2 hd))⟩)⟩
theorem lit_lst (h : LitA X es σ H0 ds) (hl : es.length ≤ 100 := by decide) : Lit X (.List es pos) σ H0 (.list ds) :=
  ⟨fun H Q s k => w_lst (h.run H _ s fun vs H1 s1 hd => ⟨by rw [dpa_len hd, h.len]; exact Nat.le_trans hl (by decide), fun p H2 s2 n2 hp => k _ H2 (s1.trans s2) (.lst (SqL.of hp) (dpa_same s2 hd))⟩)⟩
/-- (..) * k -/
theorem lit_mul {k : Int} {j j2 : Nat} {p2 p3 : Pos} (h : LitA X es σ H0 ds) (k2 : 2 ≤ k) (k3 : k ≤ 1000) (hn : 0 < es.length) (hl : es.length ≤ 100) :
    Lit X (.BinOp (.Tuple es j2 p3) .Mult (.Constant (.int k) j p2) pos) σ H0 (.tuple (List.replicate k.toNat ds).flatten) :=
  ⟨fun H Q s q => w_bin ((lit_tup h hl).run H _ s fun v H1 s1 hd => w_int (by
    cases hd with
    | @tup p xs _ hp ha =>
    have hl2 := dpa_len ha
    have hl3 := h.len
    refine bv_repT hp (by rintro rfl; simp at hl2; omega) (by omega) (by omega) (by omega) fun r H2 s2 n2 hr => q _ H2 (s1.trans s2) (.tup (SqT.of hr) ?_)
    have ha2 := dpa_same s2 ha
    generalize k.toNat = m
    clear hr hl2 q
    induction m with
    | zero => exact .nil
    | succ k ih =>
      rw [List.replicate_succ, List.replicate_succ, List.flatten_cons, List.flatten_cons]
      exact dpa_app ha2 ih))⟩
theorem rep_flat {α : Type} (d : α) : ∀ n : Nat, (List.replicate n [d]).flatten = List.replicate n d
  | 0 => rfl
  | n + 1 => by rw [List.replicate_succ, List.flatten_cons, rep_flat d n, List.replicate_succ]; rfl
/-- (x,) * k, told item by item -/
theorem lit_mulE {k : Int} {j j2 : Nat} {p2 p3 : Pos} (h : LitA X es σ H0 [d]) (he : d :: ds = List.replicate k.toNat d := by rfl) (k2 : 2 ≤ k := by decide) (k3 : k ≤ 1000 := by decide) (hn : 0 < es.length := by decide) (hl : es.length ≤ 100 := by decide) :
    Lit X (.BinOp (.Tuple es j2 p3) .Mult (.Constant (.int k) j p2) pos) σ H0 (.tuple (d :: ds)) := by
  rw [he, ← rep_flat]
  exact lit_mul h k2 k3 hn hl
/-- data, or an empty dict; nothing said of sizes -/
inductive AnyR (K : PySem.W.Frag) (H : Hp) : V → Option PyData → Prop
  | dat {v : V} {d : PyData} (h : Dp K H v d) : AnyR K H v (some d)
  | dct {a : Addr} {kvs : List (Key × V)} (h : H a = some (.dK kvs)) : AnyR K H (.ref a) none
theorem AnyR.sx {K : PySem.W.Frag} {H H' : Hp} {v : V} {o : Option PyData} (s : Sx H H') (a : AnyR K H v o) : AnyR K H' v o := by
  cases a with
  | dat h => exact .dat (dp_sx s h)
  | dct h => exact .dct (s _ _ h rfl)
theorem AnyR.anyX {K : PySem.W.Frag} {H : Hp} {v : V} {o : Option PyData} (a : AnyR K H v o) (ok : o.all okD = true) : AnyX K H v o := by
  cases a with
  | dat h => exact .dat h ok
  | dct h => exact .dct h
structure LitX (X : Cx) (es : List Expr) (σ : L2.St) (H0 : Hp) (os : List (Option PyData)) : Prop where
  len : os.length = es.length
  run : ∀ H Q, Same H0 H → (∀ vs H', Same H H' → All2 (AnyR X.K H') vs os → Q vs H') → WA X es σ H Q
variable {os : List (Option PyData)}
theorem litx_nil : LitX X [] σ H0 [] := ⟨rfl, fun H Q _ h => wa_nil (h _ H (Same.refl _) .nil)⟩
theorem litx_cons (h1 : Lit X e σ H0 d) (h2 : LitX X es σ H0 os) (hs : starEach (e :: es) X.env = (false, eval e X.env) :: starEach es X.env := by rfl) : LitX X (e :: es) σ H0 (some d :: os) :=
  ⟨by rw [List.length_cons, List.length_cons, h2.len], fun H Q s h => wa_cons (h1.run H _ s fun v H1 s1 hd => h2.run H1 _ (s.trans s1) fun vs H2 s2 hds => h _ H2 (s1.trans s2) (.cons (.dat (dp_same s2 hd)) hds)) hs⟩
theorem litx_dict (h2 : LitX X es σ H0 os) (hs : starEach (.Dict [] [] pos :: es) X.env = (false, eval (.Dict [] [] pos) X.env) :: starEach es X.env := by rfl) : LitX X (.Dict [] [] pos :: es) σ H0 (none :: os) :=
  ⟨by rw [List.length_cons, List.length_cons, h2.len], fun H Q s h => wa_cons (w_dict0 fun p H1 s1 n1 hp => h2.run H1 _ (s.trans s1) fun vs H2 s2 hds => h _ H2 (s1.trans s2) (.cons (.dct (s2 _ _ hp)) hds)) hs⟩
/-- a list of such -/
theorem w_listX (os : List (Option PyData)) (h : LitX X es σ H0 os) (s : Same H0 H) (q : ∀ p vs H2, Same H H2 → H p = none → H2 p = some (.lst vs) → All2 (AnyR X.K H2) vs os → Q (.ref p) H2) (hl : es.length ≤ 100 := by decide) : W X (.List es pos) σ H Q :=
  w_lst (h.run H _ s fun vs H1 s1 hd => ⟨by rw [hd.len, h.len]; exact Nat.le_trans hl (by decide), fun p H2 s2 n2 hp => q p vs H2 (s1.trans s2) (same_nul s1 n2) hp (hd.imp fun _ _ a => a.sx (Sx.of s2))⟩)
end
end Ax
end
section
set_option maxHeartbeats 2000000
/-! [elt for x in iter if c], tests and elements values; lists of new lists; slices of lists; str(int); split -/
namespace Ax
open PySem PySem.Spec PyProof.Rows L2
section
variable {X : Cx} {σ : L2.St} {H : Hp} {Q : VK} {elt iter c a b e o : Expr} {scope : Scope} {pos px p2 apos : Pos} {x : Str}
theorem all2_eq {α : Type} : ∀ {xs ys : List α}, All2 Eq xs ys → xs = ys
  | _, _, .nil => rfl
  | _, _, .cons h t => by rw [h, all2_eq t]
theorem w_lcFilt (i : Nat) (t : V → Bool) (f : V → V) (hc : X.calm = true) (hN : X.N.Nodup) (ok : BlkOk X.N X.env.scope scope [(x, i)]) (hi : X.N[i]? = some x)
    (hloc : Blk X scope fun Y => Loc Y.env.scope x ∧ (Y.fn x = true ∨ Y.env.scope.names.lookup x = some .local))
    (h : WI X (.Name x px) iter σ H fun J H1 => ∃ xs, SeqIt J H1 xs ∧ xs.length < sizeLine ∧ (∀ v ∈ xs, ∀ H2, Same H1 H2 → Blk X scope fun Y => WT Y c ((wipe σ [i]).set i (some v)) H2 fun k H3 => k = t v ∧ Same H2 H3) ∧
      (∀ v ∈ xs, t v = true → ∀ H2, Same H1 H2 → Blk X scope fun Y => W Y elt ((wipe σ [i]).set i (some v)) H2 fun y H3 => y = f v ∧ Same H2 H3) ∧ ∀ q H2, Same H1 H2 → H1 q = none → H2 q = some (.lst ((xs.filter t).map f)) → Q (.ref q) H2)
    (hs : ∀ x, foldedSetIterable iter X.env x = pure x := by intro _; rfl) (hw : (((wipe σ [i]).set i (some V.non)).set i none) = wipe σ [i] := by rfl) :
    W X (.ListComp elt [⟨.Name x px, iter, [c], 0⟩] scope pos) σ H Q := by
  refine w_lcG [(x, i)] (gName i) (fun σ2 H2 K => Blk X scope fun Y => WT Y c σ2 H2 K) (fun s H C cl fp => pg_name hN hi (hloc s H C cl fp).1 (hloc s H C cl fp).2)
    (fun s H C cl fp => pts_one ⟨fun pins s' σ' H' Q' I' h' => (h' s H C cl fp).run pins s' I'⟩) hc hN ok ?_ hs
  refine ⟨fun pins s I => thn (h.run pins s I) fun v s1 z => thn z fun it s2 q => ?_⟩
  obtain ⟨it', fp, tn, J, H1, e, I2, T, t0, f0, xs, h1, h2, h3, h4, h5⟩ := q
  refine ⟨it', fp, tn, J, H1, e, I2, T, t0, f0, xs, h1, h2, fun j => ∃ v, xs[j]? = some v ∧ t v = false, fun j y _ => ∃ v, xs[j]? = some v ∧ t v = true ∧ y = f v, fun _ _ _ _ q _ => q, ?_, ?_⟩
  · intro j v hv H2 s12 Kf Kt kf kt
    have hm := List.mem_of_getElem? hv
    have hw' : wipe ((wipe σ [i]).set i (some v)) [i] = wipe σ [i] := by
      have e1 : wipe ((wipe σ [i]).set i (some v)) [i] = ((wipe σ [i]).set i (some v)).set i none := rfl
      rw [e1, List.set_set]
      have e2 : ((wipe σ [i]).set i (some V.non)).set i none = wipe σ [i] := hw
      rw [List.set_set] at e2
      exact e2
    refine ⟨hw', fun s H C cl fp => WT.mono (h3 v hm H2 s12 s H C cl fp) fun k H3 ⟨ek, s23⟩ => ?_⟩
    subst ek
    cases ht : t v with
    | false =>
      rw [if_neg (by decide)]
      exact kf ⟨v, hv, ht⟩ H3 s23
    | true =>
      rw [if_pos rfl]
      exact fun s' H' C' cl' fp' => W.mono (h4 v hm ht H3 (s12.trans s23) s' H' C' cl' fp') fun y H4 ⟨ey, s34⟩ => kt y H4 (s23.trans s34) ⟨v, hv, ht, ey⟩
  · intro q ys H2 s12 n1 hq rel
    obtain ⟨es, e1, e2⟩ := rel.data (T := Eq) (ds := xs) (fun v => if t v = true then some (f v) else none) (fun j d hd ⟨v, hv, ht⟩ => by
      rw [hd] at hv
      cases hv
      simp [ht]) (fun j d y hd ⟨v, hv, ht, ey⟩ => by
      rw [hd] at hv
      cases hv
      exact ⟨f d, by simp [ht], ey⟩) (Nat.le_refl _)
    have e3 := all2_eq e2
    subst e3
    rw [List.take_length] at e1
    refine h5 q H2 s12 n1 (hq.trans ?_)
    rw [← e1]
    congr 2
    clear e1 e2 hq rel h1 h2 h3 h4 h5
    induction xs with
    | nil => rfl
    | cons v xs ih =>
      cases ht : t v <;> simp [List.filterMap_cons, List.filter_cons, ht, ih]
/-- no item passes the test -/
theorem w_lcNo (i : Nat) (hc : X.calm = true) (hN : X.N.Nodup) (ok : BlkOk X.N X.env.scope scope [(x, i)]) (hi : X.N[i]? = some x)
    (hloc : Blk X scope fun Y => Loc Y.env.scope x ∧ (Y.fn x = true ∨ Y.env.scope.names.lookup x = some .local))
    (h : WI X (.Name x px) iter σ H fun J H1 => ∃ xs, SeqIt J H1 xs ∧ xs.length < sizeLine ∧ (∀ v ∈ xs, ∀ H2, Same H1 H2 → Blk X scope fun Y => WT Y c ((wipe σ [i]).set i (some v)) H2 fun k H3 => k = false ∧ Same H2 H3) ∧
      ∀ q H2, Same H1 H2 → H1 q = none → H2 q = some (.lst []) → Q (.ref q) H2)
    (hs : ∀ x, foldedSetIterable iter X.env x = pure x := by intro _; rfl) (hw : (((wipe σ [i]).set i (some V.non)).set i none) = wipe σ [i] := by rfl) :
    W X (.ListComp elt [⟨.Name x px, iter, [c], 0⟩] scope pos) σ H Q := by
  refine w_lcFilt i (fun _ => false) id hc hN ok hi hloc ?_ hs hw
  refine ⟨fun pins s I => thn (h.run pins s I) fun v s1 z => thn z fun it s2 q => ?_⟩
  obtain ⟨it', fp, tn, J, H1, e, I2, T, t0, f0, xs, h1, h2, h3, h5⟩ := q
  refine ⟨it', fp, tn, J, H1, e, I2, T, t0, f0, xs, h1, h2, h3, fun _ _ z => Bool.noConfusion z, fun q H2 s n hq => h5 q H2 s n ?_⟩
  rw [hq, List.filter_eq_nil_iff.mpr fun a _ z => Bool.noConfusion z] <;> rfl
/-- all but the list at d stands -/
def Bt (d : Addr) (H H' : Hp) : Prop := ∀ a o, a ≠ d → H a = some o → H' a = some o
theorem Bt.of {d : Addr} {H H' : Hp} (s : Same H H') : Bt d H H' := fun a o _ h => s a o h
theorem Bt.refl (d : Addr) (H : Hp) : Bt d H H := fun _ _ _ h => h
theorem Bt.trans {d : Addr} {H H1 H2 : Hp} (a : Bt d H H1) (b : Bt d H1 H2) : Bt d H H2 := fun c o n h => b c o n (a c o n h)
theorem Bt.upd {d : Addr} {H H' : Hp} {o : HO} (s : Bt d H H') : Bt d H (upd H' d o) := fun a u n h => (upd_ne n).trans (s a u n h)
/-- [elt for x in iter], each element by a relation that stands though the new list D grows -/
abbrev LcD (X : Cx) (x : Str) (px : Pos) (iter elt : Expr) (scope : Scope) (i : Nat) (σ : L2.St) (H : Hp) (Q : VK) : Prop := WI X (.Name x px) iter σ H fun J H1 => ∃ xs, SeqIt J H1 xs ∧ xs.length < sizeLine ∧ ∃ R : Addr → V → V → Hp → Prop, (∀ D x y Ha Hb, R D x y Ha → Bt D Ha Hb → R D x y Hb) ∧
      (∀ v ∈ xs, ∀ (D : Addr) H2, Same H1 H2 → (∃ ys, H2 D = some (.lst ys)) → Blk X scope fun Y => W Y elt ((wipe σ [i]).set i (some v)) H2 fun y H3 => Same H2 H3 ∧ R D v y H3) ∧
      ∀ p ys H2, Same H1 H2 → H1 p = none → H2 p = some (.lst ys) → Rel2 (fun x y => R p x y H2) xs ys → Q (.ref p) H2
theorem lcD_t {i : Nat} (hw : (((wipe σ [i]).set i (some V.non)).set i none) = wipe σ [i]) (h : LcD X x px iter elt scope i σ H Q) : tLc (WI X (.Name x px) iter) (gName i) tYes (fun σ2 H2 K => Blk X scope fun Y => W Y elt σ2 H2 K) [i] σ H Q := by
  refine ⟨fun pins s I => thn (h.run pins s I) fun v s1 z => thn z fun it s2 q => ?_⟩
  obtain ⟨it', fp, tn, J, H1, e, I2, T, t0, f0, xs, ⟨G, wk, g0, gs⟩, hlen, R, hst, hel, hend⟩ := q
  refine ⟨it', fp, tn, J, H1, e, I2, T, t0, f0, fun Dd nD => ?_⟩
  refine lc_it (H1 := H1) (D := Dd) (g := gName i) (tt := tYes) (te := fun σ2 H2 K => Blk X scope fun Y => W Y elt σ2 H2 K) (vs := [i]) (σ := σ) (Qd := fun H2 => Q (.ref Dd) H2) wk
    (fun j H2 => ∃ ys, Same H1 H2 ∧ H2 Dd = some (.lst ys) ∧ Rel2 (fun x y => R Dd x y H2) (xs.take j) ys) ⟨[], same_new nD, upd_same, .nil⟩ (fun j H2 _ ⟨ys, sm, hD, _⟩ => gs _ sm) ?_ ?_
  · rintro j v H2 H2' hj ⟨ys, s12, hD, rel⟩ ⟨eH, hv⟩
    subst eH
    have hm : v ∈ xs := List.mem_of_getElem? hv
    have hw' : wipe ((wipe σ [i]).set i (some v)) [i] = wipe σ [i] := by
      have e1 : wipe ((wipe σ [i]).set i (some v)) [i] = ((wipe σ [i]).set i (some v)).set i none := rfl
      rw [e1, List.set_set]
      have e2 : ((wipe σ [i]).set i (some V.non)).set i none = wipe σ [i] := hw
      rw [List.set_set] at e2
      exact e2
    refine ⟨hw', ?_⟩
    unfold tYes
    dsimp only
    rw [if_pos rfl]
    intro s H C cl fp
    refine W.mono (e := elt) (X := X.blk s H scope (compEnvC scope cl C X.env) fp) (hel v hm Dd H2' s12 ⟨ys, hD⟩ s H C cl fp) fun y H3 ⟨s23, r⟩ => ?_
    have hD3 := s23 _ _ hD
    have hl : ys.length < sizeLine := by
      have e1 := rel.len
      rw [List.length_take] at e1
      omega
    refine ⟨ys, hD3, hl, ys ++ [y], same_upd (s12.trans s23) nD, upd_same, ?_⟩
    have bt : Bt Dd H3 (upd H3 Dd (.lst (ys ++ [y]))) := (Bt.refl Dd H3).upd
    have e : xs.take (j + 1) = xs.take j ++ [v] := by
      rw [List.take_add_one, hv]
      rfl
    rw [e]
    exact (rel.imp fun a b q => hst _ _ _ _ _ q ((Bt.of s23).trans bt)).snoc (hst _ _ _ _ _ r bt)
  · rintro H2 ⟨ys, s12, hD, rel⟩
    rw [List.take_length] at rel
    exact hend Dd ys H2 s12 nD hD rel
theorem w_lcD (i : Nat) (hc : X.calm = true) (hN : X.N.Nodup) (ok : BlkOk X.N X.env.scope scope [(x, i)]) (hi : X.N[i]? = some x)
    (hloc : Blk X scope fun Y => Loc Y.env.scope x ∧ (Y.fn x = true ∨ Y.env.scope.names.lookup x = some .local)) (h : LcD X x px iter elt scope i σ H Q)
    (hs : ∀ x, foldedSetIterable iter X.env x = pure x := by intro _; rfl) (hw : (((wipe σ [i]).set i (some V.non)).set i none) = wipe σ [i] := by rfl) :
    W X (.ListComp elt [⟨.Name x px, iter, [], 0⟩] scope pos) σ H Q :=
  W.of (pe_lc (own := [(x, i)]) (g := gName i) (tt := tYes) (te := fun σ2 H2 K => Blk X scope fun Y => W Y elt σ2 H2 K) hc hN WI.pi ok (fun s H C cl fp => pg_name hN hi (hloc s H C cl fp).1 (hloc s H C cl fp).2) (fun _ _ _ _ _ => pts_nil)
    (fun s H C cl fp => ⟨fun pins s' σ' H' Q' I' h' => (h' s H C cl fp).run pins s' I'⟩) hs) (lcD_t hw h)
/-- y = [..] on one line -/
theorem ws_setLcD {D : Ends} {y : Str} {py spos : Pos} (j i : Nat) (hc : X.calm = true) (hN : X.N.Nodup) (ok : BlkOk X.N X.env.scope scope [(x, i)]) (hy : X.N[j]? = some y) (hi : X.N[i]? = some x)
    (hloc : Blk X scope fun Y => Loc Y.env.scope x ∧ (Y.fn x = true ∨ Y.env.scope.names.lookup x = some .local)) (h : LcD X x px iter elt scope i σ H fun v H1 => D.nx (σ.set j (some v)) H1)
    (hyl : X.env.scope.names.lookup y = some .local := by rfl) (hsw : swapsWith (.ListComp elt [⟨.Name x px, iter, [], 0⟩] scope pos) (some (.Name y py)) spos.line X.env = pure true := by exact sw_true rfl rfl rfl rfl)
    (hs : ∀ x, foldedSetIterable iter X.env x = pure x := by intro _; rfl) (hw : (((wipe σ [i]).set i (some V.non)).set i none) = wipe σ [i] := by rfl) :
    WS X (.Assign [.Name y py] (.ListComp elt [⟨.Name x px, iter, [], 0⟩] scope pos) spos) D σ H :=
  WS.of (ps_setLc (own := [(x, i)]) (g := gName i) (tt := tYes) (te := fun σ2 H2 K => Blk X scope fun Y => W Y elt σ2 H2 K) hc hN hy hyl hsw WI.pi ok (fun s H C cl fp => pg_name hN hi (hloc s H C cl fp).1 (hloc s H C cl fp).2) (fun _ _ _ _ _ => pts_nil)
    (fun s H C cl fp => ⟨fun pins s' σ' H' Q' I' h' => (h' s H C cl fp).run pins s' I'⟩) hs) (lcD_t hw h)
/-- l[:k] -/
theorem w_cutTo (h : W X a σ H fun x H1 => W X b σ H1 fun y H2 => ∃ (p : Addr) (k : Nat) (xs : List V), x = .ref p ∧ y = .int k ∧ SqL X.K H2 p xs ∧ ∀ r H3, Same H2 H3 → H2 r = none → H3 r = some (.lst (xs.take k)) → Q (.ref r) H3) : W X (.Subscript a (.Slice none (some b) none p2) pos) σ H Q := by
  refine W.of (pe_slice sl_list W.pe po_none (po_some W.pe)) ?_
  show W X a σ H _
  refine W.mono h fun x H1 q => ?_
  show W X b σ H1 _
  refine W.mono q fun y H2 ⟨p, k, xs, e1, e2, hp, q⟩ => ⟨(k : Int), e2, p, xs, e1, hp, fun r hr => q r _ (same_new hr) hr ?_⟩
  rw [upd_same]
  show some (HO.lst ((xs.drop 0).take (HT.sIx xs.length xs.length (some (k : Int)) - 0))) = _
  rw [HT.sIx_nat, List.drop_zero, Nat.sub_zero]
  congr 2
  by_cases hk : k ≤ xs.length
  · rw [Nat.min_eq_left hk]
  · rw [Nat.min_eq_right (by omega), List.take_length, List.take_of_length_le (by omega)]
theorem kv_strI {i : Int} (c : i.natAbs.log2 < 1920) (h : Q (.str (toString i)) H) : CallV X (.type "str") [.int i] H Q := ⟨_, call_str_int, i, rfl, c, h⟩
theorem mv_split {z s : Str} (h0 : (s.length == 0) = false) (hz : z.length + 2 ≤ sizeLine) (h : ∀ p H2, Same H H2 → H p = none → H2 p = some (.lst ((Txt.split z s).map V.str)) → Q (.ref p) H2) : MtV X "str.split" (.str z) [.str s] H Q :=
  ⟨_, mt_split, z, s, rfl, rfl, h0, hz, fun p hp => h p _ (same_new hp) hp upd_same⟩
theorem dpa_ints {K : PySem.W.Frag} {H : Hp} : ∀ ns : List Int, DpAll K H (ns.map V.int) (ns.map PyData.int)
  | [] => .nil
  | n :: ns => .cons (.int n) (dpa_ints ns)
theorem dpa_strs {K : PySem.W.Frag} {H : Hp} : ∀ zs : List Str, DpAll K H (zs.map V.str) (zs.map PyData.str)
  | [] => .nil
  | z :: zs => .cons (.str z) (dpa_strs zs)
end
end Ax
end
section
set_option maxHeartbeats 2000000
/-! own classes in the layer W: fields, making, classmethods, properties, isinstance, star parameters -/
namespace Ax
open PySem PySem.Spec PyProof.Rows L2 StX ClX
/-- a plain class whose instances isinstance may be asked of -/
structure KC (K : PySem.W.Frag) (C : Addr) : Prop where
  c : Cls K C
  ha : PySem.W.findIn K (.ref C) "__class__" = some (some (.builtin "object.__class__"))
  hn : PySem.W.specialIn K (.builtin "object.__class__") "__get__" = some (some (.builtin "getset_descriptor.__get__"))
  ht : PySem.W.takesIn K (.builtin "object.__class__") = some true
  hm : PySem.W.mroIn K C (.type "object") = some true
theorem KC.ty {K : PySem.W.Frag} {C a dx : Addr} {H : Hp} {fs : List (Str × V)} (k : KC K C) (e : H a = some (.ins C dx fs)) : TyX K H (.ref a) (.ref C) := .base (.ins e k.c k.ha k.hn k.ht k.hm)
/-- a def at f, called by positions -/
abbrev FnP (P : Program) (w : World) (K : PySem.W.Frag) (mg : Str → Option Value) (base : Heap) (k : Nat) (f : Addr) (sp : Sp) : Prop := FnR P w K mg base (L2.CX P w) k f sp
section
variable {X : Cx} {e a b o fe : Expr} {es : List Expr} {σ : L2.St} {H : Hp} {Q : VK} {D : Ends} {C g p : Addr} {f m x : Str} {pos np apos : Pos} {sp : Sp} {k : Nat} {E : XK} {mc : Value}
theorem w_fld (c : Cls X.K C) (n : NoAttr X.K C f) (h : W X e σ H fun x H1 => ∃ a dx fs v, x = .ref a ∧ H1 a = some (.ins C dx fs) ∧ fs.lookup f = some v ∧ Q v H1)
    (hb : attributeBase e f X.env (eval e X.env) = eval e X.env := by rfl) : W X (.Attribute e f pos) σ H Q :=
  W.of (pe_fld W.pe hb) (W.mono h fun x H1 ⟨a, dx, fs, v, ex, ea, l, q⟩ => ⟨a, C, dx, fs, v, ex, ea, c, n, l, q⟩)
theorem ws_fld {p' : Pos} (c : Cls X.K C) (n : NoAttr X.K C f) (h : W X e σ H fun y H1 => W X o σ H1 fun x H2 => ∃ a dx fs, x = .ref a ∧ H2 a = some (.ins C dx fs) ∧ fs.length < 1000 ∧ D.nx σ (upd H2 a (.ins C dx (putF f y fs))))
    (hs : swapsWith e (some (.Attribute o f p')) pos.line X.env = pure false := by rfl) : WS X (.Assign [.Attribute o f p'] e pos) D σ H :=
  WS.of (ps_fld (ta := W X o) (tv := W X e) W.pe W.pe hs) (W.mono h fun y H1 q => W.mono q fun x H2 ⟨a, dx, fs, ex, ea, l, q⟩ => ⟨a, C, dx, fs, ex, ea, c, n, l, q⟩)
/-- C(e, ..), C by a global's or a local's name -/
theorem w_make {n : Str} (M : Mk X.K C g) (F : FnP X.prog X.w X.K X.mg X.base k g sp) (hr : Room (k + 1) X.A) (hx : Passes (L2.CX X.prog X.w) X E)
    (h : W X (.Name n np) σ H fun c H0 => c = .ref C ∧ WA X (e :: es) σ H0 fun vs H1 => ∀ x dx, H1 x = none → H1 dx = none → dx ≠ x → sp (.ref x :: vs) (upd (upd H1 dx (.own x)) x (.ins C dx [])) (fun v H2 => v = .non ∧ Q (.ref x) H2) E)
    (he : starEach (e :: es) X.env = (false, eval e X.env) :: starEach es X.env := by rfl) (hpl : (backTo pos (starEach es X.env)).any (·.1) = false := by rfl) : W X (.Call (.Name n np) (e :: es) [] pos) σ H Q := by
  refine ⟨fun pins s I => wpAny_Call_Name_kw (thn (h.run pins s I) fun u s0 ⟨c, H0, I0, r0, ec, q0⟩ => ?_)⟩
  subst ec
  obtain rfl : u = Value.ref C := r0
  exact PySem.W.callWith_K (h₀ := X.base) I0.ok.mod.kin M.kp (thn (q0.run pos pins s0 I0) fun us s1 ⟨vs, H1, I1, r, q⟩ => ⟨I1.kIn, run_makeR M F hr hx I1 r q⟩) he hpl
/-- .. a star among the arguments behind the first -/
theorem w_makeS {n : Str} (M : Mk X.K C g) (F : FnP X.prog X.w X.K X.mg X.base k g sp) (hr : Room (k + 1) X.A) (hx : Passes (L2.CX X.prog X.w) X E)
    (h : W X (.Name n np) σ H fun c H0 => c = .ref C ∧ WA X (e :: es) σ H0 fun vs H1 => ∀ x dx, H1 x = none → H1 dx = none → dx ≠ x → sp (.ref x :: vs) (upd (upd H1 dx (.own x)) x (.ins C dx [])) (fun v H2 => v = .non ∧ Q (.ref x) H2) E)
    (he : starEach (e :: es) X.env = (false, eval e X.env) :: starEach es X.env := by rfl) (hst : (backTo pos (starEach es X.env)).any (·.1) = true := by rfl) : W X (.Call (.Name n np) (e :: es) [] pos) σ H Q := by
  refine ⟨fun pins s I => wpAny_Call_Name_kw (thn (h.run pins s I) fun u s0 ⟨c, H0, I0, r0, ec, q0⟩ => ?_)⟩
  subst ec
  obtain rfl : u = Value.ref C := r0
  exact PySem.W.callWith_S2 (h₀ := X.base) I0.ok.mod.kin M.kp (thn (q0.run pos pins s0 I0) fun us s1 ⟨vs, H1, I1, r, q⟩ => ⟨I1.kIn, run_makeR M F hr hx I1 r q⟩) he hst
/-- *e among the arguments -/
theorem wa_star {sp_ : Pos} {Q : List V → Hp → Prop} (h : W X e σ H fun x H1 => ∃ p xs, x = .ref p ∧ (SqT X.K H1 p xs ∨ SqL X.K H1 p xs) ∧ WA X es σ H1 fun ys H2 => Q (xs ++ ys) H2)
    (hs : starEach (.Starred e sp_ :: es) X.env = (true, eval e X.env) :: starEach es X.env := by rfl) : WA X (.Starred e sp_ :: es) σ H Q := WA.of (pa_star W.pe WA.pa hs) h
/-- C.m(e, ..), m a classmethod -/
theorem w_cmeth {pl : Sem Bool} (r : CRead X.K C mc) (c : CMet X.K C mc m p g) (F : FnP X.prog X.w X.K X.mg X.base k g sp) (hr : Room k X.A) (hx : Passes (L2.CX X.prog X.w) X E)
    (h : W X o σ H fun x H1 => x = .ref C ∧ WA X (e :: es) σ H1 fun vs H2 => sp (.ref C :: vs) H2 Q E)
    (hst : starEach (e :: es) X.env = (false, eval e X.env) :: starEach es X.env := by rfl) (hpl : (backTo pos (starEach es X.env)).any (·.1) = false := by rfl)
    (ht : eval (.Call (.Attribute o m apos) (e :: es) [] pos) X.env = (do
      let ov ← eval o X.env
      standAt apos.atName
      let (f, first) ← holding [ov] (getMethod ov m pl)
      callWith pos f first (backTo pos (starEach (e :: es) X.env)) (backToKw pos (keywordEach [] X.env))) := by rfl) : W X (.Call (.Attribute o m apos) (e :: es) [] pos) σ H Q :=
  W.of (ClX.pe_cmeth (ta := W X o) (t := WA X (e :: es)) W.pe r c F hr hx WA.pa hst hpl ht) (W.mono h fun x H1 ⟨ex, q⟩ => ⟨ex, q⟩)
/-- e.f, a property -/
theorem w_prop {fd : FuncData} {ps : List Str} (c : Cls X.K C) (hp : PropOf X.K C f p g) (F : FnOk X.prog X.w X.K X.mg X.base (L2.CX X.prog X.w) k g fd ps sp) (hr : Room (k + 1) X.A) (hb : Binds X.K fd ps []) (hx : Passes (L2.CX X.prog X.w) X.nox E)
    (h : W X e σ H fun x H1 => ∃ a dx fs, x = .ref a ∧ H1 a = some (.ins C dx fs) ∧ sp [.ref a] H1 Q E) (hab : attributeBase e f X.env (eval e X.env) = eval e X.env := by rfl) : W X (.Attribute e f pos) σ H Q :=
  W.of (pe_prop (ta := W X e) W.pe c hp F hr hb .nil hx hab) (W.mono h fun x H1 ⟨a, dx, fs, ex, ea, q⟩ => ⟨a, dx, fs, ex, ea, q⟩)
theorem kv_isC {x : V} {t : Value} {b : Bool} {v : V} {u : Value} (ty : TyX X.K H x t) (hu : ClsV v u) (e : PySem.W.kitOne X.K t u = some b) (q : Q (.bl b) H) : CallV X (.builtin "isinstance") [x, v] H Q := kv_isi hu ty e q
end
section
variable {P : Program} {w : World} {K : PySem.W.Frag} {mg : Str → Option Value} {base : Heap}
/-- a method, called by positions -/
theorem meth_okR {x q : Str} {st : Stmt} {N ps : List Str} {k : Nat} {sp : Sp} {f : Addr} (T : ∃ fd, FunD K x q (defArgs st) (defBody st) (defScope st) [] [] f fd) (S : FnScope N ps (defScope st))
    (hb : ∀ (kV doc pm : Value) (an : Option Addr) (cdv ct : Value) (us : List Value), us.length = ps.length → bindArgs (PySem.W.fnOf x q (defArgs st) (defBody st) (defScope st) .none kV doc pm an cdv ct) ⟨us, []⟩ = pure (ps.zip us))
    (len : ∀ vs H Q E, sp vs H Q E → vs.length = ps.length)
    (body : ∀ (cdv : Value) (A : Around) (outer : List Env) (s : Shared) (H : Hp) (vs : List V) (Q : VK) (E : XK), Room k (A.deeper (envOfC q (defScope st) s.heap.objs.size f cdv)) → sp vs H Q E →
      WB (cxOf (L2.CX P w) P w K mg base N q (defScope st) f cdv A outer s H E) (defBody st) { nx := fun _ H' => Q .non H', rt := Q } (start N vs) H) : FnP P w K mg base (k + 1) f sp := by
  obtain ⟨fd, F⟩ := T
  have B := F.bindsN hb
  have F1 := F.ok (CX := L2.CX P w) S len fun cdv A outer s H vs Q E hr h => ⟨_, WB.pss, body cdv A outer s H vs Q E hr h⟩
  intro A outer s H us vs Q E hr e0 r h
  have hl : us.length = ps.length := by rw [← r.length] <;> exact len _ _ _ _ h
  have b := B s us (e0.mod.kin.keeps fun b o e => (e0.bs b o e).1) (by rw [List.append_nil] <;> exact hl)
  rw [List.append_nil] at b
  exact F1.run A outer s H ⟨us, []⟩ us vs Q E hr e0 b r h
/-- a method with two parameters and a star one behind them -/
theorem meth_okS2 {x q p1 p2 pv : Str} {st : Stmt} {N : List Str} {k : Nat} {sp : Sp} {f : Addr} (T : ∃ fd, FunD K x q (defArgs st) (defBody st) (defScope st) [] [] f fd) (S : FnScope N ([p1, p2] ++ [pv]) (defScope st))
    (h0 : ∀ (dV kV doc pm : Value) (an : Option Addr) (cdv ct : Value) (a b : Value), bindArgs (PySem.W.fnOf x q (defArgs st) (defBody st) (defScope st) dV kV doc pm an cdv ct) ⟨[a, b], []⟩ = (newTuple [] >>= fun t => pure [(p1, a), (p2, b), (pv, t)]))
    (h1 : ∀ (dV kV doc pm : Value) (an : Option Addr) (cdv ct : Value) (a b r : Value) (rs : List Value), bindArgs (PySem.W.fnOf x q (defArgs st) (defBody st) (defScope st) dV kV doc pm an cdv ct) ⟨a :: b :: r :: rs, []⟩ = (newTuple (r :: rs) >>= fun t => pure [(p1, a), (p2, b), (pv, t)]))
    (body : ∀ (cdv : Value) (A : Around) (outer : List Env) (s : Shared) (H : Hp) (vs : List V) (Q : VK) (E : XK), Room k (A.deeper (envOfC q (defScope st) s.heap.objs.size f cdv)) → sp vs H Q E →
      WB (cxOf (L2.CX P w) P w K mg base N q (defScope st) f cdv A outer s H E) (defBody st) { nx := fun _ H' => Q .non H', rt := Q } (start N vs) H) :
    FnP P w K mg base (k + 1) f (fun vs H Q E => ∃ a b rest, vs = a :: b :: rest ∧ rest.length ≤ sizeLine ∧ ∀ p, H p = none → sp [a, b, .ref p] (upd H p (.tup rest)) Q E) := by
  obtain ⟨fd, F⟩ := T
  obtain ⟨oc, od, dV, kV, doc, pm, an, cdv, ct, osl, rfl, lk, hcd, _, _⟩ := F.ex
  have Z := fn_star (P := P) (w := w) (mg := mg) (base := base) (ps := [p1, p2]) (pv := pv) (k := k) (sp := sp) lk hcd S cxUp (bind_star2 (B := fun us => bindArgs (PySem.W.fnOf x q (defArgs st) (defBody st) (defScope st) dV kV doc pm an cdv ct) ⟨us, []⟩) (fun a b => h0 dV kV doc pm an cdv ct a b) fun a b r rs => h1 dV kV doc pm an cdv ct a b r rs)
    fun A outer s H vs Q E hr h => ⟨_, WB.pss, body cdv A outer s H vs Q E hr h⟩
  exact Z.imp fun vs H Q E ⟨a, b, rest, e, z, q⟩ => ⟨[a, b], rest, e, rfl, z, q⟩
end
end Ax
end
section
set_option maxHeartbeats 4000000
/-! dict comprehensions with keys of any kind that can be put; with one for and with two -/
namespace Ax
open PySem PySem.Spec PyProof.Rows L2
/-- what a store does to a dict: the new object at D -/
abbrev Put := Hp → Addr → V → V → HO → Prop
def PutOk (pt : Put) : Prop := ∀ (X : Cx) (pins : List (Addr × Obj)) (σ : L2.St) (H : Hp) (s : Shared) (E : Value → Shared → Prop) (D : Addr) (y z : V) (u r : Value) (o : HO) (Q : Unit → Shared → Prop),
  X.A.units + 64 < cLine → Inv X pins σ H s → pt H D y z o → RelV y u → RelV z r → (∀ s', Inv X pins σ (upd H D o) s' → Q () s') → wpAny (model X.prog X.w) X.A (dictSet D u r) Q E s
def putKP : Put := fun H D y z o => ∃ kvs k, y = kV k ∧ H D = some (.dK kvs) ∧ kvs.length < sizeLine ∧ o = .dK (putK kvs k z)
theorem putKP_ok : PutOk putKP := by
  rintro X pins σ H s E D y z u r o Q hu I ⟨kvs, k, rfl, hD, hz, rfl⟩ ry rz h
  exact d_dictSet I hD hz ry rz h
/-- keys tuples of ints and texts -/
def putTP : Put := fun H D y z o => ∃ kvs k b, y = .ref b ∧ H D = some (.dT kvs) ∧ H b = some (.tup (k.map kV)) ∧ kvs.length < sizeLine ∧ o = .dT (putK kvs k z)
theorem putTP_ok : PutOk putTP := by
  rintro X pins σ H s E D y z u r o Q hu I ⟨kvs, k, b, rfl, hD, hb, hz, rfl⟩ ry rz h
  cases (show u = Value.ref b from ry)
  obtain ⟨z1, hd, xs, rel, dd⟩ := dt_of I.hok hD
  have hx : xs.length ≤ sizeLine := by rw [← Paired.length rel] <;> exact z1
  have hl : (putK kvs k z).length ≤ sizeLine := by
    have := length_putK kvs k z
    omega
  refine wpAny_dictSet_heap (hsz := hx) (show X.A.units < cLine by omega) (key_of I.hok hb) dd fun h' dd' hs => h _ ?_
  obtain ⟨q, es, ep, hq, h2, h3, h4, _, h5⟩ := dd'
  refine d_write I (by rw [hD] <;> exact True.intro) hs ⟨q, hq⟩ ⟨hl, hd, _, (rel.put k hb rz).keeps fun c ys ec => ?_, q, es, ep, hq, h2, h3, h4, h5⟩
  exact (upd_ne (ne_of ec hD (fun z => nomatch z))).trans ec
/-! ### the loops -/
section
variable {prog : Program} {w : World} {A : Around} {R : Result → Shared → Prop} {s : Shared} {kx vx t1 t2 i1 i2 : Expr} {ifs1 ifs2 : List Expr} {scope : Scope} {pos : Pos} {it : Value} {D : Addr} {env : Env}
theorem dict2_in : compTurn (.DictComp kx vx [⟨t1, i1, ifs1, 0⟩, ⟨t2, i2, ifs2, 0⟩] scope pos) 1 it (.ref D) env = (do
      standAt i2.pos
      match ← pyNext it with
      | none => pure (.done .next)
      | some v =>
        letOwnedTupleGo t2 it v
        assign t2 env v
        let mut ok := true
        for c in ifs2 do
          if ok then ok ← isTrue c env (eval c env)
        if ok then
          (do
            let kv ← eval kx env
            let vv ← holding [kv] (eval vx env)
            standAt { kx.pos with endLine := vx.pos.endLine, endCol := vx.pos.endCol }
            holding [kv, vv] (dictSet D kv vv))
        again (.compLoop (.DictComp kx vx [⟨t1, i1, ifs1, 0⟩, ⟨t2, i2, ifs2, 0⟩] scope pos) 1 it (.ref D) env)) := by rfl
theorem dict2_out : compTurn (.DictComp kx vx [⟨t1, i1, ifs1, 0⟩, ⟨t2, i2, ifs2, 0⟩] scope pos) 0 it (.ref D) env = (do
      standAt i1.pos
      match ← pyNext it with
      | none => pure (.done .next)
      | some v =>
        letOwnedTupleGo t1 it v
        assign t1 env v
        let mut ok := true
        for c in ifs1 do
          if ok then ok ← isTrue c env (eval c env)
        if ok then
          let x ← eval i2 env
          standAt i2.pos
          let x ← foldedSetIterable i2 env x
          let _ ← runOwn (.compStart (.DictComp kx vx [⟨t1, i1, ifs1, 0⟩, ⟨t2, i2, ifs2, 0⟩] scope pos) 1 (← holding [x] (pyIter x)) (.ref D) env) env
        again (.compLoop (.DictComp kx vx [⟨t1, i1, ifs1, 0⟩, ⟨t2, i2, ifs2, 0⟩] scope pos) 0 it (.ref D) env)) := by rfl
/-- nothing is raised -/
abbrev noE : Value → Shared → Prop := fun _ _ => False
theorem dict2_start (h0 : codeAny (model prog w) A (.compLoop (.DictComp kx vx [⟨t1, i1, ifs1, 0⟩, ⟨t2, i2, ifs2, 0⟩] scope pos) 1 it (.ref D) env) R s)
    (h : wpAny (model prog w) A (pyIter it) (fun it' s' => codeAny (model prog w) A (.compLoop (.DictComp kx vx [⟨t1, i1, ifs1, 0⟩, ⟨t2, i2, ifs2, 0⟩] scope pos) 1 it' (.ref D) env) R s') (notedBy (model prog w) A env fun x s' => R (.error x) s') s) :
    codeAny (model prog w) A (.compStart (.DictComp kx vx [⟨t1, i1, ifs1, 0⟩, ⟨t2, i2, ifs2, 0⟩] scope pos) 1 it (.ref D) env) R s := by
  refine codeAny_of_tree ?_
  show wpAny _ A ((compStart (.DictComp kx vx [⟨t1, i1, ifs1, 0⟩, ⟨t2, i2, ifs2, 0⟩] scope pos) 1 it (.ref D) env).onRaise (fun x => do noteFrame x env; standAt theWindowsPlace)) _ _ s
  refine wpAny_notedAt ?_
  unfold compStart
  show wpAny _ A (ask >>= _) _ _ s
  refine wpAny_bind (wpAny_askSetting (wpAny_ite ?_))
  split
  · first
      | exact wpAny_pure (And.intro rfl h0)
      | exact wpAny_bind (wpAny_pure (wpAny_pure (And.intro rfl h0)))
  · first
      | exact wpAny_bind (wpAny_rule (wpAny_bind (wpAny_standAt (wpAny_bind (wpAny_mono h (fun it' s' z => wpAny_pure (And.intro rfl z)) fun _ _ x => x)))))
      | (refine wpAny_bind (wpAny_rule ?_); show wpAny _ _ (standAt i2.pos >>= _) _ _ s; exact wpAny_bind (wpAny_standAt (wpAny_bind (wpAny_mono h (fun it' s' z => wpAny_pure (And.intro rfl z)) fun _ _ x => x))))
theorem dict2_inner (I : Nat → Shared → Prop)
    (turn : ∀ n s, I n s → wpAny (model prog w) A (pyNext it) (fun r s1 => match r with
      | none => R (.ok .next) s1
      | some v => wpAny (model prog w) A (letOwnedTupleGo t2 it v) (fun _ s2 => wpAny (model prog w) A (assign t2 env v) (fun _ s3 =>
          wpAny (model prog w) A (eval kx env) (fun kv s4 => wpAny (model prog w) A (eval vx env) (fun vv s5 => wpAny (model prog w) A (dictSet D kv vv) (fun _ s6 => ∃ m, m < n ∧ I m s6) noE s5) noE s4) noE s3) noE s2) noE s1) noE s)
    (n : Nat) (h : I n s) : codeAny (model prog w) A (.compLoop (.DictComp kx vx [⟨t1, i1, [], 0⟩, ⟨t2, i2, [], 0⟩] scope pos) 1 it (.ref D) env) R s := by
  refine codeAny_loop rfl I (fun n s hI => ?_) n h
  show wpAny _ A ((compTurn (.DictComp kx vx [⟨t1, i1, [], 0⟩, ⟨t2, i2, [], 0⟩] scope pos) 1 it (.ref D) env).onRaise (fun x => do noteFrame x env; theTreesLotGoes x)) _ _ s
  refine wpAny_noted ?_
  rw [dict2_in]
  refine wpAny_bind (wpAny_standAt (wpAny_bind (thnF (turn n s hI) fun r s1 h1 => ?_)))
  cases r with
  | none => exact wpAny_pure h1
  | some v =>
    refine wpAny_bind (thnF h1 fun _ s2 h2 => ?_)
    refine wpAny_bind (thnF h2 fun _ s3 h3 => wpAny_bind (wpAny_tests_nil ?_))
    exact wpAny_bind (wpAny_bind (thnF h3 fun kv s4 h4 => wpAny_bind (wpAny_holding (thnF h4 fun vv s5 h5 => wpAny_bind (wpAny_standAt (wpAny_holding (thnF h5 fun _ s6 h6 => wpAny_pure ⟨rfl, h6⟩)))))))
theorem dict2_outer (I : Nat → Shared → Prop) (hs : ∀ x, foldedSetIterable i2 env x = pure x)
    (turn : ∀ n s, I n s → wpAny (model prog w) A (pyNext it) (fun r s1 => match r with
      | none => R (.ok .next) s1
      | some v => wpAny (model prog w) A (letOwnedTupleGo t1 it v) (fun _ s2 => wpAny (model prog w) A (assign t1 env v) (fun _ s3 =>
          wpAny (model prog w) A (eval i2 env) (fun x s4 => wpAny (model prog w) A (pyIter x) (fun it2 s5 =>
            codeAny (model prog w) A (.compLoop (.DictComp kx vx [⟨t1, i1, [], 0⟩, ⟨t2, i2, [], 0⟩] scope pos) 1 it2 (.ref D) env) (fun r s6 => r = .ok .next ∧ ∃ m, m < n ∧ I m s6) s5 ∧
            ∀ R' : Result → Shared → Prop, codeAny (model prog w) A (.compLoop (.DictComp kx vx [⟨t1, i1, [], 0⟩, ⟨t2, i2, [], 0⟩] scope pos) 1 it2 (.ref D) env) R' s5 → wpAny (model prog w) A (pyIter it2) (fun it' s' => codeAny (model prog w) A (.compLoop (.DictComp kx vx [⟨t1, i1, [], 0⟩, ⟨t2, i2, [], 0⟩] scope pos) 1 it' (.ref D) env) R' s') noE s5) noE s4) noE s3) noE s2) noE s1) noE s)
    (n : Nat) (h : I n s) : codeAny (model prog w) A (.compLoop (.DictComp kx vx [⟨t1, i1, [], 0⟩, ⟨t2, i2, [], 0⟩] scope pos) 0 it (.ref D) env) R s := by
  refine codeAny_loop rfl I (fun n s hI => ?_) n h
  show wpAny _ A ((compTurn (.DictComp kx vx [⟨t1, i1, [], 0⟩, ⟨t2, i2, [], 0⟩] scope pos) 0 it (.ref D) env).onRaise (fun x => do noteFrame x env; theTreesLotGoes x)) _ _ s
  refine wpAny_noted ?_
  rw [dict2_out]
  refine wpAny_bind (wpAny_standAt (wpAny_bind (thnF (turn n s hI) fun r s1 h1 => ?_)))
  cases r with
  | none => exact wpAny_pure h1
  | some v =>
    refine wpAny_bind (thnF h1 fun _ s2 h2 => ?_)
    refine wpAny_bind (thnF h2 fun _ s3 h3 => wpAny_bind (wpAny_tests_nil ?_))
    refine wpAny_bind (thnF h3 fun x s4 h4 => wpAny_bind (wpAny_standAt (wpAny_bind (wpAny_of_eq (hs x) ?_))))
    refine wpAny_bind (wpAny_holding (thnF h4 fun it2 s5 ⟨h5, h6⟩ => ?_))
    refine wpAny_bind (wpAny_runOwn ?_)
    have lp := codeAny_mono h5 (R' := fun r s' => match r with
      | .ok f => wpAny (model prog w) A (again (.compLoop (.DictComp kx vx [⟨t1, i1, [], 0⟩, ⟨t2, i2, [], 0⟩] scope pos) 0 it (.ref D) env)) (fun fin s' => match fin with
        | .done f => R (.ok f) s'
        | .again c' => c' = .compLoop (.DictComp kx vx [⟨t1, i1, [], 0⟩, ⟨t2, i2, [], 0⟩] scope pos) 0 it (.ref D) env ∧ ∃ m, m < n ∧ I m s') (notedBy (model prog w) A env fun e s' => R (.error e) s') s'
      | .error e => cameBackBy (model prog w) A env (notedBy (model prog w) A env fun e s' => R (.error e) s') e s') (fun r s6 ⟨er, q⟩ => by
        subst er
        exact wpAny_pure ⟨rfl, q⟩)
    exact dict2_start lp (thnF (h6 _ lp) fun _ _ q => q)
end
end Ax
end
section
set_option maxHeartbeats 4000000
/-! {k: v for t1 in i1 for t2 in i2} -/
namespace Ax
open PySem PySem.Spec PyProof.Rows L2
/-- the reading of the inner for -/
def In2 (J2 : It) (g2 : TG) (tk tv : TE) (pt : Put) (D : Addr) (σ2 : L2.St) (H3 : Hp) (Nx : Hp → Prop) : Prop := ∃ n2 G2 Y2, Walk J2 n2 G2 Y2 ∧ ∃ P2 : Nat → Hp → Prop, P2 0 H3 ∧ (∀ j H, j ≤ n2 → P2 j H → G2 H) ∧ (∀ H, P2 n2 H → Nx H) ∧
  ∀ j y H H', j < n2 → P2 j H → Y2 j H y H' → g2 y σ2 H' fun σ3 H4 => (σ2.length = σ3.length ∧ ∀ (k : Nat) (v : V), σ2[k]? = some (some v) → σ3[k]? = some (some v)) ∧ tk σ3 H4 fun u H5 => tv σ3 H5 fun z H6 => ∃ o, pt H6 D u z o ∧ P2 (j + 1) (upd H6 D o)
/-- .. of the whole: emp the empty dict's object -/
def tDc2 (wi1 wi2 : TI) (g1 g2 : TG) (tk tv : TE) (pt : Put) (emp : HO) (vs : List Nat) : TE := fun σ H Q => wi1 σ H fun J1 H1 => ∃ n1 G1 Y1, Walk J1 n1 G1 Y1 ∧ ∀ D, H1 D = none → ∃ P : Nat → Hp → Prop, P 0 (upd H1 D emp) ∧ (∀ i H, i ≤ n1 → P i H → G1 H) ∧ (∀ H, P n1 H → Q (.ref D) H) ∧
  ∀ i x H H', i < n1 → P i H → Y1 i H x H' → g1 x (wipe σ vs) H' fun σ2 H2 => wipe σ2 vs = wipe σ vs ∧ wi2 σ2 H2 fun J2 H3 => In2 J2 g2 tk tv pt D σ2 H3 (P (i + 1))
section
variable {X : Cx} {kx vx t1 t2 i1 i2 : Expr} {scope : Scope} {own : List (Str × Nat)} {pos : Pos} {wi1 wi2 : TI} {g1 g2 : TG} {tk tv : TE} {pt : Put} {emp : HO}
theorem pe_dc2 (hpt : PutOk pt) (hemp : ∀ (P : Program) (w : World) (H : Hp) (h : Heap), sysModules < h.objs.size → ObjOk P w H (h.push { cls := .type "dict", data := .dict #[] }) h.objs.size emp) (hu : X.A.units + 64 < cLine) (hc : X.calm = true) (hN : X.N.Nodup)
    (hi : PI X t1 i1 wi1) (ok : BlkOk X.N X.env.scope scope own) (hg1 : Blk X scope fun Y => PG Y t1 g1) (hg2 : Blk X scope fun Y => PG Y t2 g2) (hi2 : Blk X scope fun Y => PI Y t2 i2 wi2) (hk : Blk X scope fun Y => PE Y kx tk) (hv : Blk X scope fun Y => PE Y vx tv)
    (hs : ∀ x, foldedSetIterable i1 X.env x = pure x := by intro _; rfl) (hs2 : Blk X scope fun Y => ∀ x, foldedSetIterable i2 Y.env x = pure x := by intro _ _ _ _ _ _; rfl) :
    PE X (.DictComp kx vx [⟨t1, i1, [], 0⟩, ⟨t2, i2, [], 0⟩] scope pos) (tDc2 wi1 wi2 g1 g2 tk tv pt emp (own.map (·.2))) := by
  refine ⟨fun pins s σ H Q I h => ?_⟩
  rw [arm_eval_DictComp]
  have free : ∀ y ∈ scope.names, y.2 = .free → ∃ c, X.env.cells.lookup y.1 = some c := fun y hy e => (ok.free y hy e).elim (fun k => I.ok.has _ (.inl k)) fun k => I.ok.has _ (.inr k)
  refine wpAny_comprehension_free (use := none) rfl hs (closure_ok free) ok.kind (fun y hy e => (ok.uniq y hy).trans (by rw [e])) (thn (hi.run pins s σ H _ I h) fun xv s1 hx => thn hx fun itv s2 h2 => ?_)
  obtain ⟨it, fp, tn, J, H2, e, I2, T, st2, f2, n1, G1, Y1, wk, q⟩ := h2
  subst e
  refine wpAny_newObj_type (newEnv_comp ?_)
  generalize hD : s2.heap.objs.size = D
  have nD : H2 D = none := I2.hok.fresh (Nat.le_of_eq hD)
  obtain ⟨P, p0, pG, pQ, pS⟩ := q D nD
  generalize hs3 : ({ s2 with heap := s2.heap.push { cls := .type "dict", data := .dict #[] } } : Shared) = s3
  have h3 : s3.heap = s2.heap.push { cls := .type "dict", data := .dict #[] } := by rw [← hs3]
  have I3 : Inv X pins σ (upd H2 D emp) s3 := by
    rw [← hs3]
    refine I2.laid (t' := s2.toks) (fun b o z => Heap.get?_push_of_some _ z) (Nat.le_of_eq hD) ?_
    rw [← hD]
    exact hemp _ _ _ _ I2.big
  have sz : ∀ b ∈ fp, b < s2.heap.objs.size := fun b hb => by
    obtain ⟨o, z, _⟩ := T.obj _ _ st2 b hb
    exact Heap.lt_size z
  have f3 : ∀ b ∈ fp, FpOk X pins (upd H2 D emp) b ∧ b < s3.heap.objs.size := fun b hb =>
    ⟨⟨(upd_ne (by rw [← hD] <;> exact Nat.ne_of_lt (sz b hb))).trans (f2 b hb).1, (f2 b hb).2⟩, by rw [h3, Heap.size_push] <;> exact Nat.lt_succ_of_lt (sz b hb)⟩
  have st3 : tn 0 s3.heap := T.keep _ _ _ st2 fun b _ o z => by rw [h3] <;> exact Heap.get?_push_of_some _ z
  have I4 := block_start I3 ok hN f3
  have pg1 := hg1 s3 (upd H2 D emp) s3.heap.objs.size (cellsFrom (s3.heap.objs.size + 1) scope.names (cloFrom X.env.cells scope.names [])) fp
  have pg2 := hg2 s3 (upd H2 D emp) s3.heap.objs.size (cellsFrom (s3.heap.objs.size + 1) scope.names (cloFrom X.env.cells scope.names [])) fp
  have pi2 := hi2 s3 (upd H2 D emp) s3.heap.objs.size (cellsFrom (s3.heap.objs.size + 1) scope.names (cloFrom X.env.cells scope.names [])) fp
  have pk := hk s3 (upd H2 D emp) s3.heap.objs.size (cellsFrom (s3.heap.objs.size + 1) scope.names (cloFrom X.env.cells scope.names [])) fp
  have pv := hv s3 (upd H2 D emp) s3.heap.objs.size (cellsFrom (s3.heap.objs.size + 1) scope.names (cloFrom X.env.cells scope.names [])) fp
  have ps2 := hs2 s3 (upd H2 D emp) s3.heap.objs.size (cellsFrom (s3.heap.objs.size + 1) scope.names (cloFrom X.env.cells scope.names [])) fp
  show codeAny _ _ (.compStart (.DictComp kx vx [⟨t1, i1, [], 0⟩, ⟨t2, i2, [], 0⟩] scope pos) 0 (.ref it) (.ref D) (compEnvC scope (cellsFrom (s3.heap.objs.size + 1) scope.names (cloFrom X.env.cells scope.names [])) s3.heap.objs.size X.env)) (compPost (model X.prog X.w) X.A X.xe none (EP X pins σ Q) (.ref D) s3.heap.objs.size)
    { s3 with heap := pushCells (s3.heap.push { cls := .type "dict", data := .dict #[] }) scope.names }
  have nfp : ∀ b ∈ fp, (upd H2 D emp) b = none := fun b hb => (f3 b hb).1.1
  generalize hce : compEnvC scope (cellsFrom (s3.heap.objs.size + 1) scope.names (cloFrom X.env.cells scope.names [])) s3.heap.objs.size X.env = ce at I4 pg1 pg2 pi2 pk pv ps2 ⊢
  have cL : ce.locals = s3.heap.objs.size := by subst hce <;> rfl
  generalize hH3 : upd H2 D emp = H3 at I3 I4 pg1 pg2 pi2 pk pv ps2 p0 nfp f3
  generalize hs4 : ({ s3 with heap := pushCells (s3.heap.push { cls := .type "dict", data := .dict #[] }) scope.names } : Shared) = s4 at I4 ⊢
  have st4 : tn 0 s4.heap := T.keep _ _ _ st3 fun b _ o z => by rw [← hs4] <;> exact pushCells_keeps _ _ _ _ (Heap.get?_push_of_some _ z)
  have stat : ∀ {σ' : L2.St} {H' : Hp} {s' : Shared}, Inv (X.blk s3 H3 scope ce fp) [] σ' H' s' → (∀ b ∈ fp, H' b = none) → ∀ b ∈ fp, FpOk (X.blk s3 H3 scope ce fp) [] H' b := fun {σ' H' s'} I' hn b hb =>
    ⟨hn b hb, (I'.ok.exf b hb).1, I'.ok.exfs b hb, .inl hb, fun x c e => (I'.ok.exf b hb).2 x c e, fun r hr => absurd (show r ∈ ([] : List (Addr × Obj)) ++ [] from hr) (by simp)⟩
  have loop : codeAny (model X.prog X.w) X.A (.compLoop (.DictComp kx vx [⟨t1, i1, [], 0⟩, ⟨t2, i2, [], 0⟩] scope pos) 0 (.ref it) (.ref D) ce) (compPost (model X.prog X.w) X.A X.xe none (EP X pins σ Q) (.ref D) s3.heap.objs.size) s4 := by
    refine dict2_outer (fun n s' => ∃ i H', n = n1 - i ∧ i ≤ n1 ∧ Inv (X.blk s3 H3 scope ce fp) [] (wipe σ (own.map (·.2))) H' s' ∧ tn i s'.heap ∧ (∀ b ∈ fp, H' b = none) ∧ P i H') ps2 ?_ n1 ⟨0, H3, rfl, Nat.zero_le _, I4, st4, nfp, p0⟩
    rintro n s5 ⟨i, H5, en, hin, I5, st5, n5, p5⟩
    by_cases hlt : i < n1
    · refine thnF (T.item (X.blk s3 H3 scope ce fp) rfl rfl rfl hc i [] s5 _ H5 (fun _ _ => False) I5 (stat I5 n5) st5 (wk.goes i H5 hlt (pG i H5 hin p5))) fun r s6 ⟨u, hr, h6⟩ => ?_
      subst hr
      refine thnF h6 fun _ s7 ⟨x, H7, I7, r7, y7, st7, n7⟩ => ?_
      have I7p := I7.pinned (stat I7 n7) (T.obj _ _ st7)
      refine thnF (pg1.run _ s7 _ H7 x u _ I7p r7 (pS i x H5 H7 hlt p5 (wk.yields i H5 x H7 hlt (pG i H5 hin p5) y7))) fun _ s8 ⟨σ8, H8, I8, hw8, q8⟩ => ?_
      refine thnF (pi2.run _ s8 σ8 H8 _ I8 q8) fun xv s9 h9 => thnF h9 fun itv2 s10 h10 => ?_
      obtain ⟨it2, fp2, tn2, J2, H10, e2, I10, T2, st10, f10, n2, G2, Y2, wk2, P2, q0, qG, qN, qS⟩ := h10
      subst e2
      have stat2 : ∀ {H' : Hp}, (∀ b ∈ fp2, H' b = none) → ∀ b ∈ fp2, FpOk (X.blk s3 H3 scope ce fp) ([] ++ pinsAt fp s7.heap) H' b := fun hn b hb => ⟨hn b hb, (f10 b hb).2⟩
      refine ⟨?_, fun R' lp => T2.self X.A 0 _ _ _ st10 lp⟩
      refine dict2_inner (fun m s' => ∃ j H', m = n2 - j ∧ j ≤ n2 ∧ Inv (X.blk s3 H3 scope ce fp) ([] ++ pinsAt fp s7.heap) σ8 H' s' ∧ tn2 j s'.heap ∧ (∀ b ∈ fp2, H' b = none) ∧ P2 j H') ?_ n2 ⟨0, H10, rfl, Nat.zero_le _, I10, st10, fun b hb => (f10 b hb).1, q0⟩
      rintro m s11 ⟨j, H11, em, hjn, I11, st11, n11, p11⟩
      by_cases hjt : j < n2
      · refine thnF (T2.item (X.blk s3 H3 scope ce fp) rfl rfl rfl hc j _ s11 _ H11 (fun _ _ => False) I11 (stat2 n11) st11 (wk2.goes j H11 hjt (qG j H11 hjn p11))) fun r s12 ⟨u2, hr, h12⟩ => ?_
        subst hr
        refine thnF h12 fun _ s13 ⟨x2, H13, I13, r13, y13, st13, n13⟩ => ?_
        have I13p := I13.pinned (stat2 n13) (T2.obj _ _ st13)
        refine thnF (pg2.run _ s13 _ H13 x2 u2 _ I13p r13 (qS j x2 H11 H13 hjt p11 (wk2.yields j H11 x2 H13 hjt (qG j H11 hjn p11) y13))) fun _ s14 ⟨σ14, H14, I14, ⟨hl14, hw14⟩, q14⟩ => ?_
        refine thnF (pk.run _ s14 σ14 H14 _ I14 q14) fun kv s15 ⟨yk, H15, I15, r15, q15⟩ => ?_
        refine thnF (pv.run _ s15 σ14 H15 _ I15 q15) fun vv s16 ⟨yv, H16, I16, r16, o, po, p16⟩ => ?_
        refine hpt (X.blk s3 H3 scope ce fp) _ _ _ _ _ _ _ _ _ _ _ _ hu I16 po r15 r16 fun s17 I17 => ?_
        have pin' : ∀ b ∈ fp2, ∀ ob, s13.heap.get? b = some ob → s17.heap.get? b = some ob ∧ (upd H16 D o) b = none := fun b hb ob z =>
          let y := I17.pin (b, ob) (List.mem_append_right _ (List.mem_append_right _ (mem_pinsAt hb z)))
          ⟨y.1, y.2.1⟩
        refine ⟨n2 - (j + 1), by omega, j + 1, _, rfl, hjt, I17.unpinned.weak hl14 hw14, T2.keep _ _ _ st13 fun b hb ob z => (pin' b hb ob z).1, fun b hb => ?_, p16⟩
        obtain ⟨ob, z, _⟩ := T2.obj _ _ st13 b hb
        exact (pin' b hb ob z).2
      · have ej : j = n2 := by omega
        subst ej
        refine thnF (T2.done (X.blk s3 H3 scope ce fp) rfl rfl rfl hc j _ s11 _ H11 (fun _ _ => False) I11 (stat2 n11) st11 (wk2.stops H11 (qG j H11 (Nat.le_refl _) p11))) fun r s12 ⟨hr, I12⟩ => ?_
        subst hr
        have pin' : ∀ b ∈ fp, ∀ ob, s7.heap.get? b = some ob → s12.heap.get? b = some ob ∧ H11 b = none := fun b hb ob z =>
          let y := I12.pin (b, ob) (List.mem_append_right _ (List.mem_append_right _ (mem_pinsAt hb z)))
          ⟨y.1, y.2.1⟩
        have hl : (wipe σ (own.map (·.2))).length = σ8.length := by rw [← hw8, wipe_length]
        refine ⟨rfl, n1 - (i + 1), by omega, i + 1, H11, rfl, hlt, (I12.unpinned (pins := [])).weak hl (fun k v z => (wipe_some (hw8 ▸ z)).1), T.keep _ _ _ st7 fun b hb ob z => (pin' b hb ob z).1, fun b hb => ?_, qN H11 p11⟩
        obtain ⟨ob, z, _⟩ := T.obj _ _ st7 b hb
        exact (pin' b hb ob z).2
    · have ei : i = n1 := by omega
      subst ei
      refine thnF (T.done (X.blk s3 H3 scope ce fp) rfl rfl rfl hc i [] s5 _ H5 (fun _ _ => False) I5 (stat I5 n5) st5 (wk.stops H5 (pG i H5 (Nat.le_refl _) p5))) fun r s6 ⟨hr, I6⟩ => ?_
      subst hr
      have I7 : Inv X pins σ H5 s6 := I3.call' (ch := fp) I6.os I6.base I6.hok I6.bare fun b hb => ⟨(f3 b hb).1.2.2.2.1, (f3 b hb).1.2.1, (f3 b hb).1.2.2.2.2.1, (f3 b hb).1.2.2.2.2.2⟩
      have nC : H5 s3.heap.objs.size = none := cL ▸ I6.free
      obtain ⟨m, hn, _⟩ := I6.loc
      have hn : s6.heap.Ns s3.heap.objs.size m := cL ▸ hn
      obtain ⟨f0, f1, f2', f3', f4, f5⟩ := I3.fpOk (Nat.le_refl _) nC
      exact ⟨m, hn, fun h'' sb => ⟨.ref D, H5, I7.turned (t' := s6.toks) (fun b o hb z => (sb.2 b hb).trans z) f0 f1 f3' f4 f5, rfl, pQ H5 p5⟩⟩
  exact codeAny_compStart_dict loop (T.self X.A 0 _ _ _ st4 loop)
/-- one for, no test, any kind of key -/
def tDc1 (wi : TI) (g : TG) (tk tv : TE) (pt : Put) (emp : HO) (vs : List Nat) : TE := fun σ H Q => wi σ H fun J H1 => ∃ n G Y, Walk J n G Y ∧ ∀ D, H1 D = none → ∃ P : Nat → Hp → Prop, P 0 (upd H1 D emp) ∧ (∀ i H, i ≤ n → P i H → G H) ∧ (∀ H, P n H → Q (.ref D) H) ∧
  ∀ i x H H', i < n → P i H → Y i H x H' → g x (wipe σ vs) H' fun σ2 H2 => wipe σ2 vs = wipe σ vs ∧ tk σ2 H2 fun u H5 => tv σ2 H5 fun z H6 => ∃ o, pt H6 D u z o ∧ P (i + 1) (upd H6 D o)
theorem pe_dc1 (hpt : PutOk pt) (hemp : ∀ (P : Program) (w : World) (H : Hp) (h : Heap), sysModules < h.objs.size → ObjOk P w H (h.push { cls := .type "dict", data := .dict #[] }) h.objs.size emp) (hu : X.A.units + 64 < cLine) (hc : X.calm = true) (hN : X.N.Nodup)
    (hi : PI X t1 i1 wi1) (ok : BlkOk X.N X.env.scope scope own) (hg1 : Blk X scope fun Y => PG Y t1 g1) (hk : Blk X scope fun Y => PE Y kx tk) (hv : Blk X scope fun Y => PE Y vx tv)
    (hs : ∀ x, foldedSetIterable i1 X.env x = pure x := by intro _; rfl) :
    PE X (.DictComp kx vx [⟨t1, i1, [], 0⟩] scope pos) (tDc1 wi1 g1 tk tv pt emp (own.map (·.2))) := by
  refine ⟨fun pins s σ H Q I h => ?_⟩
  rw [arm_eval_DictComp]
  have free : ∀ y ∈ scope.names, y.2 = .free → ∃ c, X.env.cells.lookup y.1 = some c := fun y hy e => (ok.free y hy e).elim (fun k => I.ok.has _ (.inl k)) fun k => I.ok.has _ (.inr k)
  refine wpAny_comprehension_free (use := none) rfl hs (closure_ok free) ok.kind (fun y hy e => (ok.uniq y hy).trans (by rw [e])) (thn (hi.run pins s σ H _ I h) fun xv s1 hx => thn hx fun itv s2 h2 => ?_)
  obtain ⟨it, fp, tn, J, H2, e, I2, T, st2, f2, n1, G1, Y1, wk, q⟩ := h2
  subst e
  refine wpAny_newObj_type (newEnv_comp ?_)
  generalize hD : s2.heap.objs.size = D
  have nD : H2 D = none := I2.hok.fresh (Nat.le_of_eq hD)
  obtain ⟨P, p0, pG, pQ, pS⟩ := q D nD
  generalize hs3 : ({ s2 with heap := s2.heap.push { cls := .type "dict", data := .dict #[] } } : Shared) = s3
  have h3 : s3.heap = s2.heap.push { cls := .type "dict", data := .dict #[] } := by rw [← hs3]
  have I3 : Inv X pins σ (upd H2 D emp) s3 := by
    rw [← hs3]
    refine I2.laid (t' := s2.toks) (fun b o z => Heap.get?_push_of_some _ z) (Nat.le_of_eq hD) ?_
    rw [← hD]
    exact hemp _ _ _ _ I2.big
  have sz : ∀ b ∈ fp, b < s2.heap.objs.size := fun b hb => by
    obtain ⟨o, z, _⟩ := T.obj _ _ st2 b hb
    exact Heap.lt_size z
  have f3 : ∀ b ∈ fp, FpOk X pins (upd H2 D emp) b ∧ b < s3.heap.objs.size := fun b hb =>
    ⟨⟨(upd_ne (by rw [← hD] <;> exact Nat.ne_of_lt (sz b hb))).trans (f2 b hb).1, (f2 b hb).2⟩, by rw [h3, Heap.size_push] <;> exact Nat.lt_succ_of_lt (sz b hb)⟩
  have st3 : tn 0 s3.heap := T.keep _ _ _ st2 fun b _ o z => by rw [h3] <;> exact Heap.get?_push_of_some _ z
  have I4 := block_start I3 ok hN f3
  have pg1 := hg1 s3 (upd H2 D emp) s3.heap.objs.size (cellsFrom (s3.heap.objs.size + 1) scope.names (cloFrom X.env.cells scope.names [])) fp
  have pk := hk s3 (upd H2 D emp) s3.heap.objs.size (cellsFrom (s3.heap.objs.size + 1) scope.names (cloFrom X.env.cells scope.names [])) fp
  have pv := hv s3 (upd H2 D emp) s3.heap.objs.size (cellsFrom (s3.heap.objs.size + 1) scope.names (cloFrom X.env.cells scope.names [])) fp
  show codeAny _ _ (.compStart (.DictComp kx vx [⟨t1, i1, [], 0⟩] scope pos) 0 (.ref it) (.ref D) (compEnvC scope (cellsFrom (s3.heap.objs.size + 1) scope.names (cloFrom X.env.cells scope.names [])) s3.heap.objs.size X.env)) (compPost (model X.prog X.w) X.A X.xe none (EP X pins σ Q) (.ref D) s3.heap.objs.size)
    { s3 with heap := pushCells (s3.heap.push { cls := .type "dict", data := .dict #[] }) scope.names }
  have nfp : ∀ b ∈ fp, (upd H2 D emp) b = none := fun b hb => (f3 b hb).1.1
  generalize hce : compEnvC scope (cellsFrom (s3.heap.objs.size + 1) scope.names (cloFrom X.env.cells scope.names [])) s3.heap.objs.size X.env = ce at I4 pg1 pk pv ⊢
  have cL : ce.locals = s3.heap.objs.size := by subst hce <;> rfl
  generalize hH3 : upd H2 D emp = H3 at I3 I4 pg1 pk pv p0 nfp f3
  generalize hs4 : ({ s3 with heap := pushCells (s3.heap.push { cls := .type "dict", data := .dict #[] }) scope.names } : Shared) = s4 at I4 ⊢
  have st4 : tn 0 s4.heap := T.keep _ _ _ st3 fun b _ o z => by rw [← hs4] <;> exact pushCells_keeps _ _ _ _ (Heap.get?_push_of_some _ z)
  have stat : ∀ {σ' : L2.St} {H' : Hp} {s' : Shared}, Inv (X.blk s3 H3 scope ce fp) [] σ' H' s' → (∀ b ∈ fp, H' b = none) → ∀ b ∈ fp, FpOk (X.blk s3 H3 scope ce fp) [] H' b := fun {σ' H' s'} I' hn b hb =>
    ⟨hn b hb, (I'.ok.exf b hb).1, I'.ok.exfs b hb, .inl hb, fun x c e => (I'.ok.exf b hb).2 x c e, fun r hr => absurd (show r ∈ ([] : List (Addr × Obj)) ++ [] from hr) (by simp)⟩
  have loop : codeAny (model X.prog X.w) X.A (.compLoop (.DictComp kx vx [⟨t1, i1, [], 0⟩] scope pos) 0 (.ref it) (.ref D) ce) (compPost (model X.prog X.w) X.A X.xe none (EP X pins σ Q) (.ref D) s3.heap.objs.size) s4 := by
    refine compLoop_anyD (fun n s' => ∃ i H', n = n1 - i ∧ i ≤ n1 ∧ Inv (X.blk s3 H3 scope ce fp) [] (wipe σ (own.map (·.2))) H' s' ∧ tn i s'.heap ∧ (∀ b ∈ fp, H' b = none) ∧ P i H') ?_ n1 ⟨0, H3, rfl, Nat.zero_le _, I4, st4, nfp, p0⟩
    rintro n s5 ⟨i, H5, en, hin, I5, st5, n5, p5⟩
    by_cases hlt : i < n1
    · refine thnF (T.item (X.blk s3 H3 scope ce fp) rfl rfl rfl hc i [] s5 _ H5 (fun _ _ => False) I5 (stat I5 n5) st5 (wk.goes i H5 hlt (pG i H5 hin p5))) fun r s6 ⟨u, hr, h6⟩ => ?_
      subst hr
      refine thnF h6 fun _ s7 ⟨x, H7, I7, r7, y7, st7, n7⟩ => ?_
      have I7p := I7.pinned (stat I7 n7) (T.obj _ _ st7)
      refine thnF (pg1.run _ s7 _ H7 x u _ I7p r7 (pS i x H5 H7 hlt p5 (wk.yields i H5 x H7 hlt (pG i H5 hin p5) y7))) fun _ s8 ⟨σ8, H8, I8, hw8, q8⟩ => wpAny_tests_nil ?_
      simp only [if_true]
      refine thnF (pk.run _ s8 σ8 H8 _ I8 q8) fun kv s9 ⟨yk, H9, I9, r9, q9⟩ => ?_
      refine thnF (pv.run _ s9 σ8 H9 _ I9 q9) fun vv s10 ⟨yv, H10, I10, r10, o, po, p10⟩ => ?_
      refine hpt (X.blk s3 H3 scope ce fp) _ _ _ _ _ _ _ _ _ _ _ _ hu I10 po r9 r10 fun s11 I11 => ?_
      have pin' : ∀ b ∈ fp, ∀ ob, s7.heap.get? b = some ob → s11.heap.get? b = some ob ∧ (upd H10 D o) b = none := fun b hb ob z =>
        let y := I11.pin (b, ob) (List.mem_append_right _ (List.mem_append_right _ (mem_pinsAt hb z)))
        ⟨y.1, y.2.1⟩
      have hl : (wipe σ (own.map (·.2))).length = σ8.length := by rw [← hw8, wipe_length]
      refine ⟨n1 - (i + 1), by omega, i + 1, _, rfl, hlt, (I11.unpinned (pins := [])).weak hl (fun k v z => (wipe_some (hw8 ▸ z)).1), T.keep _ _ _ st7 fun b hb ob z => (pin' b hb ob z).1, fun b hb => ?_, p10⟩
      obtain ⟨ob, z, _⟩ := T.obj _ _ st7 b hb
      exact (pin' b hb ob z).2
    · have ei : i = n1 := by omega
      subst ei
      refine thnF (T.done (X.blk s3 H3 scope ce fp) rfl rfl rfl hc i [] s5 _ H5 (fun _ _ => False) I5 (stat I5 n5) st5 (wk.stops H5 (pG i H5 (Nat.le_refl _) p5))) fun r s6 ⟨hr, I6⟩ => ?_
      subst hr
      have I7 : Inv X pins σ H5 s6 := I3.call' (ch := fp) I6.os I6.base I6.hok I6.bare fun b hb => ⟨(f3 b hb).1.2.2.2.1, (f3 b hb).1.2.1, (f3 b hb).1.2.2.2.2.1, (f3 b hb).1.2.2.2.2.2⟩
      have nC : H5 s3.heap.objs.size = none := cL ▸ I6.free
      obtain ⟨m, hn, _⟩ := I6.loc
      have hn : s6.heap.Ns s3.heap.objs.size m := cL ▸ hn
      obtain ⟨f0, f1, f2', f3', f4, f5⟩ := I3.fpOk (Nat.le_refl _) nC
      exact ⟨m, hn, fun h'' sb => ⟨.ref D, H5, I7.turned (t' := s6.toks) (fun b o hb z => (sb.2 b hb).trans z) f0 f1 f3' f4 f5, rfl, pQ H5 p5⟩⟩
  exact codeAny_compStart_dict loop (T.self X.A 0 _ _ _ st4 loop)
end
end Ax
end
section
set_option maxHeartbeats 4000000
/-! sorted(d), d a dict whose keys are tuples of texts, all of one length -/
namespace Ax
open PySem PySem.Spec PyProof.Rows L2
open PySem.W (EachIs SortsAt dataKind AllAlike Sortable dataLe sortVals alike alikeAll alike_all_cons sortingHeap sortingHeap_old dataKind_inv dataKind_some)
def rowD (r : List Str) : PyData := .tuple (r.map .str)
theorem alike_strs : ∀ xs ys : List Str, alikeAll (xs.map .str) (ys.map .str) = true
  | [], [] => rfl
  | [], _ :: _ => rfl
  | _ :: _, [] => rfl
  | x :: xs, y :: ys => by
    have h := alike_strs xs ys
    show (alike (.str x) (.str y) && alikeAll (xs.map .str) (ys.map .str)) = true
    rw [h] <;> rfl
theorem depth_strs : ∀ xs : List Str, PyData.depthAll (xs.map .str) = 0
  | [] => rfl
  | x :: xs => by
    show max (PyData.depth (.str x)) (PyData.depthAll (xs.map .str)) = 0
    rw [depth_strs xs] <;> rfl
theorem alike_rows (rows : List (List Str)) : AllAlike (rows.map rowD) := AllAlike.of fun a b => by
  show alikeAll (a.map .str) (b.map .str) = true
  exact alike_strs a b
theorem depth_row (r : List Str) : (rowD r).depth ≤ 1 := by
  show PyData.depthAll (r.map .str) + 1 ≤ 1
  rw [depth_strs]
  exact Nat.le_refl _
theorem sortsAt_rows {prog : Program} {w : World} {A : Around} {s : Shared} {vs : List Value} {rows : List (List Str)} {n : Nat} (e : EachIs (fun v r => ∃ as, Reads s.heap v (rowD r) as) vs rows) (hn : ∀ r ∈ rows, r.length = n) (h1 : n = 0 → rows.length ≤ 1) (hu : A.units + 2 < cLine) :
    SortsAt prog w A s (dataKind s.heap (rows.map rowD)) vs := by
  have e' := PySem.W.each_map (R := fun v d => ∃ as, Reads s.heap v d as) rowD e
  have room : ∀ d, d ∈ rows.map rowD → A.units + d.depth < cLine := fun d hd => by
    obtain ⟨r, _, rfl⟩ := List.mem_map.mp hd
    have := depth_row r
    omega
  by_cases h0 : n = 0
  · have hl := h1 h0
    have all0 : ∀ d, d ∈ rows.map rowD → d = .tuple [] := fun d hd => by
      obtain ⟨r, hr, rfl⟩ := List.mem_map.mp hd
      have z := hn r hr
      rw [h0] at z
      rw [List.eq_nil_of_length_eq_zero z] <;> rfl
    refine ⟨fun v hv => ?_, tuples' true, fun E x y a b Q ha hb hq => ?_, fun h2 => ?_⟩
    · obtain ⟨d, hd, as, r⟩ := e'.left v hv
      exact ⟨_, dataKind_some (alike_rows rows) hd r⟩
    · obtain ⟨d, as, hd, ra, rfl⟩ := dataKind_inv ha
      obtain ⟨d', as', hd', rb, rfl⟩ := dataKind_inv hb
      obtain rfl := all0 d hd
      obtain rfl := all0 d' hd'
      cases ra with
      | @tuple l o xs m _ _ g1 g2 g3 g4 =>
        cases rb with
        | @tuple l' o' xs' m' _ _ k1 k2 k3 k4 =>
          have n1 : xs.size = 0 := by simpa using SeqAt.ReadsAll.length _ _ _ g4
          have n2 : xs'.size = 0 := by simpa using SeqAt.ReadsAll.length _ _ _ k4
          exact PySem.W.kat_lt g1 g3 k1 k3 (PySem.W.katLex_alike [] [] 0 _ _ _ _ g4 k4 rfl (by show A.units + min 0 0 < cLine; omega) (fun _ _ x r t z => nomatch z) (by rw [n1, n2] <;> rfl) hq)
    · have := e.length
      omega
  · refine PySem.W.SortsAt.data e' (alike_rows rows) (.inl fun d hd => ?_) room
    obtain ⟨r, hr, rfl⟩ := List.mem_map.mp hd
    cases r with
    | nil => exact absurd (hn [] hr).symm h0
    | cons x r => exact ⟨.str x, r.map .str, rfl⟩
/-- v is the tracked tuple of the texts r -/
def RowV (H : Hp) (v : Value) (r : List Str) : Prop := ∃ b, v = .ref b ∧ H b = some (.tup (r.map V.str))
theorem rows_out {H : Hp} : ∀ {vs : List Value} {rows : List (List Str)}, EachIs (RowV H) vs rows → ∃ bs, vs = bs.map Value.ref ∧ All2 (fun b r => H b = some (.tup (r.map V.str))) bs rows
  | _, _, .nil => ⟨[], rfl, .nil⟩
  | _, _, .cons ⟨b, e, h⟩ t => by
    obtain ⟨bs, e2, t2⟩ := rows_out t
    exact ⟨b :: bs, by rw [e, e2] <;> rfl, .cons h t2⟩
theorem paired_rows {H : Hp} : ∀ {kvs : List (List Key × V)} {ks : List (List Key × Addr × Value)} {rows : List (List Str)}, Paired (fun (p : List Key × V) (q : List Key × Addr × Value) => p.1 = q.1 ∧ H q.2.1 = some (.tup (p.1.map kV)) ∧ RelV p.2 q.2.2) kvs ks →
    kvs.map (·.1) = rows.map (fun r => r.map Sum.inr) → EachIs (RowV H) (ks.map fun x => Value.ref x.2.1) rows
  | _, _, [], .nil, _ => .nil
  | _, _, _ :: _, .nil, e => by cases e
  | _, _, [], .cons _ _, e => by cases e
  | _, _, r :: rows, .cons ⟨_, h2, _⟩ t, e => by
    obtain ⟨e1, e2⟩ := List.cons.inj e
    refine .cons ⟨_, rfl, ?_⟩ (paired_rows t e2)
    refine h2.trans ?_
    refine (congrArg (fun z => some (HO.tup (List.map kV z))) e1).trans ?_
    show some (HO.tup (List.map kV (r.map Sum.inr))) = _
    rw [List.map_map] <;> rfl
section
variable {X : Cx}
theorem call_sortedT (hcalm : X.calm = true) (hu : X.A.units + 64 < cLine) : CallR X (.builtin "sorted") (fun xs H Q => ∃ (a : Addr) (kvs : List (List Key × V)) (rows : List (List Str)) (n : Nat), xs = [.ref a] ∧ H a = some (.dT kvs) ∧ kvs.map (·.1) = rows.map (fun r => r.map Sum.inr) ∧
    (∀ r ∈ rows, r.length = n) ∧ ∀ bs p, H p = none → All2 (fun b r => H b = some (.tup (r.map V.str))) bs (rows.mergeSort (dataLe false rowD)) → Q (.ref p) (upd H p (.lst (bs.map V.ref)))) := by
  intro pins s σ H xs us Q I r q
  obtain ⟨a, kvs, rows, n, rfl, hd, hkeys, hn, q⟩ := q
  obtain ⟨u, rfl, rx⟩ := r.one
  cases rx
  obtain ⟨z, hs, ks, pr, o, es, ep, ho, hx, hdt, he, hnd⟩ := (show ObjOk X.prog X.w H s.heap a (.dT kvs) from I.hok a _ hd)
  have l1 : es.size = ks.length := size_of_entries he
  have l2 : kvs.length = ks.length := Paired.length pr
  have l3 : kvs.length = rows.length := by
    have := congrArg List.length hkeys
    simpa using this
  have nd : rows.Nodup := by
    have e1 : kvs.map (·.1) = ks.map (·.1) := by
      clear hd hkeys q he hnd z l1 l2 l3
      induction pr with
      | nil => rfl
      | cons h t ih => rw [List.map_cons, List.map_cons, ih, h.1]
    rw [← e1, hkeys] at hnd
    exact (List.pairwise_map.mp hnd).imp fun {a b} h e => h (by rw [e])
  have h1 : n = 0 → rows.length ≤ 1 := fun h0 => by
    match rows, nd, hn with
    | [], _, _ => exact Nat.zero_le _
    | [_], _, _ => exact Nat.le_refl _
    | x :: y :: r, nd, hn =>
      have ex := List.eq_nil_of_length_eq_zero ((hn x (List.mem_cons_self ..)).trans h0)
      have ey := List.eq_nil_of_length_eq_zero ((hn y (List.mem_cons_of_mem _ (List.mem_cons_self ..))).trans h0)
      rw [ex, ey] at nd
      exact absurd (List.mem_cons_self ..) (List.nodup_cons.mp nd).1
  refine Calls.call_function_entry PyProof.Rows.kind_sorted PyProof.Rows.plain_sorted PyProof.Rows.entry_sorted (PyProof.Rows.args_sorted1 _) ?_
  unfold Builtin.«sorted»
  refine wpAny_bind (m := checkCount "sorted" 1 1 _) (wpAny_pure ?_)
  refine wpAny_bind (PySem.W.kdu_collect (A := X.A.in1) (kdl_raw hs hx hdt) (I.ok.hd hcalm) ho (by omega) fun h' tk acc hk hacc => ?_)
  have ea : acc.toList = ks.map fun x => Value.ref x.2.1 := by
    have hl : acc.toList.length = ks.length := by rw [Array.length_toList, hacc.1] <;> exact l1
    refine List.ext_getElem? fun j => ?_
    rw [List.getElem?_map]
    cases hj : acc.toList[j]? with
    | none => rw [List.getElem?_eq_none (by have := List.getElem?_eq_none_iff.mp hj; omega)] <;> rfl
    | some v =>
      obtain ⟨en, hen, hv⟩ := hacc.2 j v (by rw [← Array.getElem?_toList] <;> exact hj)
      have qe := entry_at he j
      rw [hen] at qe
      cases hb : ks[j]? with
      | none =>
        rw [hb] at qe
        exact nomatch (show some en = none from qe)
      | some b =>
        rw [hb] at qe
        rw [hv, Option.some.inj qe] <;> rfl
  have eR : EachIs (RowV H) acc.toList rows := by rw [ea] <;> exact paired_rows pr hkeys
  have hal : acc.toList.length = rows.length := eR.length
  have I1 : Inv X pins σ H { s with heap := h', toks := tk } := I.kept hk
  refine wpAny_bind (wpAny_newList ?_ (by rw [hal] <;> omega))
  have hoL : (h'.push (seqObj "list" acc.toList.toArray 0)).get? h'.objs.size = some (seqObj "list" acc.toList.toArray 0) := Heap.get?_push_size _ rfl
  show wpAny _ _ _ _ _ { s with heap := h'.push (seqObj "list" acc.toList.toArray 0), toks := tk }
  have keep : ∀ b ob, s.heap.get? b = some ob → (sortingHeap (h'.push (seqObj "list" acc.toList.toArray 0)) h'.objs.size acc.toList).get? b = some ob := fun b ob z =>
    sortingHeap_old (Nat.ne_of_lt (Heap.lt_size (hk _ _ z))) (Heap.get?_push_of_some _ (hk _ _ z))
  have eS : EachIs (fun v r => ∃ as, Reads (sortingHeap (h'.push (seqObj "list" acc.toList.toArray 0)) h'.objs.size acc.toList) v (rowD r) as) acc.toList rows := eR.mono fun v r ⟨b, ev, hb⟩ => by
    subst ev
    obtain ⟨as, rd⟩ := Dp.reads I (rowD r) (.ref b) (.ref b) (.tup (SqT.of hb) (dpa_strs r)) rfl
    exact ⟨as, PyProof.Rows.Reads.keeps keep rd⟩
  refine wpAny_bind (wpAny_holding (wpAny_call_entry PyProof.Rows.slot_list_sort ⟨_, hoL, rfl⟩ PyProof.Rows.entry_list_sort
    (PySem.W.list_sort_vals (s := { s with heap := h'.push (seqObj "list" acc.toList.toArray 0), toks := tk }) hoL (sortsAt_rows (s := { s with heap := sortingHeap (h'.push (seqObj "list" acc.toList.toArray 0)) h'.objs.size acc.toList, toks := tk }) eS hn h1 (by show X.A.units + 1 + 1 + 2 < cLine; omega)) (by omega) ⟨_, rfl, ?_⟩) (PyProof.Rows.args_list_sort _)))
  have eO := PySem.W.sortVals_data (h' := sortingHeap (h'.push (seqObj "list" acc.toList.toArray 0)) h'.objs.size acc.toList) (enc := rowD) false eR eS (alike_rows rows)
  generalize sortVals (dataKind (sortingHeap (h'.push (seqObj "list" acc.toList.toArray 0)) h'.objs.size acc.toList) (rows.map rowD)) false acc.toList acc.toList = out at eO ⊢
  obtain ⟨bs, eb, hbs⟩ := rows_out eO
  obtain ⟨e', he'⟩ := PyProof.Rows.sortedHeap_at (vs := acc.toList) (out := out.toArray) hoL
  have hlen : (bs.map V.ref).length ≤ sizeLine := by
    have h2 := hbs.len
    rw [List.length_mergeSort] at h2
    rw [List.length_map]
    omega
  refine wpAny_pure ⟨_, rfl, .ref h'.objs.size, upd H h'.objs.size (.lst (bs.map V.ref)), I1.laid (t' := tk) (fun b u ez => ?_) (Nat.le_refl _) (show ObjOk X.prog X.w _ _ _ (.lst (bs.map V.ref)) from ⟨hlen, out, e', by rw [eb] <;> exact vals_refs bs, he'⟩), rfl, q bs _ (I1.hok.fresh (Nat.le_refl _)) hbs⟩
  have hb : b < h'.objs.size := Heap.lt_size ez
  rw [PyProof.Rows.sortedHeap_old (Nat.ne_of_lt hb) (by rw [size_push'] <;> exact Nat.lt_succ_of_lt hb)]
  exact Heap.get?_push_of_some _ ez
end
end Ax
end
section
set_option maxHeartbeats 4000000
/-! enumerate of a tuple -/
namespace AxEn
open PySem
open PySem.Sem (wp)
open AutoSeq1 (wpAny_loadPart')
theorem draws_tuple {prog : Program} {w : World} {A : Around} (hh : A.handled = none) (it l : Addr) (hne : l ≠ it) (items : Array Value) :
    Draws prog w A it [it, l] items.size (fun i v => items[i]? = some v) (fun i h => h.IsTupleIter it l i ∧ h.IsTuple l items) where
  live := fun _ _ st => let ⟨o, ho, _⟩ := st.1; ⟨o, ho⟩
  frame := fun _ _ _ st hk => ⟨st.1.at fun o e => hk it (by simp) o e, let ⟨o, ho, r⟩ := st.2; ⟨o, hk l (by simp) o ho, r⟩⟩
  item := fun i s Q E hi st hQ => by
    refine RZ.nextOf_tuple_item st.1 st.2 (x := items[i]) (by simp [hi]) fun h' hit' hs' => ?_
    exact hQ _ h' s.toks (by simp [hi]) ⟨hit', let ⟨o, ho, r⟩ := st.2; ⟨o, hs'.extBut l o hne ho, r⟩⟩ hs'
  done := fun s Q E st hE => RZ.nextOf_tuple_end hh st.1 st.2 (by simp) hE
theorem meets_new (l : Addr) (items : Array Value) :
    Meets (Builtin.«enumerate.__new__» ⟨[.type "enumerate", .ref l], []⟩) (fun _ R s => s.heap.IsTuple l items ∧
      R (.ok (.ret (.ref (s.heap.push { cls := .type "tuple_iterator", data := .fields #[.ref l, .int 0 0] }).objs.size)))
        { s with heap := (s.heap.push { cls := .type "tuple_iterator", data := .fields #[.ref l, .int 0 0] }).push { cls := .type "enumerate", data := .fields #[.none, .bool false, .ref s.heap.objs.size, rawInt 0, .none, .none] } }) :=
  .of_wp fun prog w A R s h => by
    obtain ⟨hp, g, d, tk, os⟩ := s; obtain ⟨hl, h⟩ := h
    have hsub := sub_enumerate
    have hL : Heap.IsTuple (Shared.heap ⟨hp, g, d, tk, os⟩) l items := hl
    obtain ⟨⟨oc, od, dt, sl⟩, ho, hc, n, hd⟩ := id hl
    replace hc : oc = .type "tuple" := hc
    replace hd : dt = .seq items n := hd
    subst hc hd
    wp_walk using wpAny_loadPart' ho
    refine wpAny_stack_any fun st => wpAny_pure ?_
    split
    · rename_i c _ _ _ _ _
      cases (c == Value.type "enumerate")
      · wp_walk using wpAny_loadPart' ho, wpAny_pyIter_tuple hL
        exact ⟨_, rfl, h⟩
      · wp_walk using wpAny_loadPart' ho, wpAny_pyIter_tuple hL
        exact ⟨_, rfl, h⟩
    · wp_walk using wpAny_loadPart' ho, wpAny_pyIter_tuple hL
      exact ⟨_, rfl, h⟩
section
variable {prog : Program} {w : World} {A : Around} {E : Value → Shared → Prop} {s : Shared}
theorem call_enumT {l : Addr} {items : Array Value} {Q : Value → Shared → Prop} (hL : s.heap.IsTuple l items)
    (h : ∀ h', IsEnum h' (s.heap.objs.size + 1) s.heap.objs.size 0 .none → h'.IsTupleIter s.heap.objs.size l 0 → h'.objs.size = s.heap.objs.size + 2 →
      (∀ b o, s.heap.get? b = some o → h'.get? b = some o) → Q (.ref (s.heap.objs.size + 1)) { s with heap := h' }) :
    wpAny (model prog w) A (call (.type "enumerate") [.ref l]) Q E s := by
  refine callType_new F.called_enumerate (by decide) (F.typeCall_enumerate_1 _) (F.newCall_enumerate_1 _) (fun obj => F.args_object_init_2 obj _) F.entry_enumerate_new
    (meets_new l items) ⟨hL, ?_⟩
  have hz : (s.heap.push { cls := .type "tuple_iterator", data := .fields #[.ref l, .int 0 0] }).objs.size = s.heap.objs.size + 1 := Heap.size_push ..
  show _ ∧ _
  rw [hz]
  have he : IsEnum ((s.heap.push { cls := .type "tuple_iterator", data := .fields #[.ref l, .int 0 0] }).push
      { cls := .type "enumerate", data := .fields #[.none, .bool false, .ref s.heap.objs.size, rawInt 0, .none, .none] }) (s.heap.objs.size + 1) s.heap.objs.size 0 .none := by
    have := Heap.get?_push_size (s.heap.push { cls := .type "tuple_iterator", data := .fields #[.ref l, .int 0 0] })
      (o := { cls := .type "enumerate", data := .fields #[.none, .bool false, .ref s.heap.objs.size, rawInt 0, .none, .none] }) rfl
    rw [hz] at this; exact this
  refine ⟨⟨_, he, rfl⟩, h _ he ⟨_, Heap.get?_push_of_some _ (Heap.get?_push_size _ rfl), rfl, rfl⟩ (by rw [Heap.size_push, hz]) fun b o x => Heap.get?_push_of_some _ (Heap.get?_push_of_some _ x)⟩
end
end AxEn
namespace Ax
open PySem PySem.Spec PyProof.Rows L2
/-- the tuple at a, each item in a new pair -/
def IteT (K : PySem.W.Frag) (a : Addr) : It :=
  ⟨fun i H => ∃ (xs : List V) (x : V), SqT K H a xs ∧ xs[i]? = some x, fun i H v H' => ∃ T x, v = .ref T ∧ H T = none ∧ H' = upd H T (.tup [.int (i : Nat), x]) ∧ ∀ xs, SqT K H a xs → xs[i]? = some x, fun i H => ∃ xs : List V, SqT K H a xs ∧ xs.length ≤ i⟩
theorem turn_enumT {P : Program} {w : World} {K : PySem.W.Frag} {elts : List Expr} {kk : Nat} {tpos : Pos} (a e it : Addr) (hne : e ≠ it) (hea : e ≠ a) (hai : a ≠ it) :
    Turn P w K (.Tuple elts kk tpos) (IteT K a) [e, it] e (fun i h => (∃ old, IsEnum h e it ((i : Nat) : Int) old) ∧ h.IsTupleIter it a i) where
  mem := by simp
  obj := fun i h st b hb => by
    obtain ⟨⟨old, he⟩, ⟨o, ho, hc, hd⟩⟩ := st
    have e' : b = e ∨ b = it := by simpa using hb
    rcases e' with z | z
    · rw [z]; exact ⟨_, he, fun v q => nomatch q⟩
    · rw [z]; exact ⟨o, ho, fun v q => by rw [hd] at q; cases q⟩
  keep := fun i h h' st k => let ⟨⟨old, he⟩, hi⟩ := st; ⟨⟨old, k e (by simp) _ he⟩, hi.at fun o q => k it (by simp) o q⟩
  item := by
    intro X hP hw hK hc i pins s σ H E I hf st hg
    subst hP hw hK
    obtain ⟨⟨old, he⟩, hit⟩ := st
    obtain ⟨xs, x, hq, hx⟩ := hg
    obtain ⟨its, rv, p, hz⟩ := I.tuple hq
    obtain ⟨u, hu, ru⟩ := rv.get hx
    have hel : e < s.heap.objs.size := Heap.lt_size he
    have hil : it < s.heap.objs.size := by obtain ⟨_, q, _⟩ := hit; exact Heap.lt_size q
    have D := AxEn.draws_tuple (prog := X.prog) (w := X.w) (A := X.A.in1) (I.ok.hd hc) it a hai its.toArray
    have hlt : i < its.toArray.size := by
      have := (List.getElem?_eq_some_iff.mp hu).1
      simpa using this
    refine wpAny_pyNext_enum_itemD D he ⟨hit, p⟩ hlt hne (by simp [hne, hea]) fun y h' tk hy ho st' hT hsz hk => ?_
    have hy : y = u := by
      have e1 : its.toArray[i]? = some u := by simpa using hu
      rw [e1] at hy
      exact (Option.some.inj hy).symm
    subst hy
    refine ⟨_, rfl, wpAny_letOwnedTupleGo_enum (s := { s with heap := h', toks := tk + 1 }) ho fun h'' he' sb => ?_⟩
    have hT2 : h''.get? s.heap.objs.size = some { cls := .type "tuple", data := .seq #[.int i tk, y] } := (sb.2 _ (Nat.ne_of_gt hel)).trans hT
    have new : ObjOk X.prog X.w (upd H s.heap.objs.size (.tup [.int (i : Nat), x])) h'' s.heap.objs.size (.tup [.int (i : Nat), x]) :=
      ⟨by show 2 ≤ sizeLine; decide, [.int i tk, y], .cons ⟨_, rfl⟩ (.cons ru .nil), ⟨_, hT2, rfl, _, rfl⟩⟩
    have I1 : Inv X pins σ (upd H s.heap.objs.size (.tup [.int (i : Nat), x])) { s with heap := h'', toks := tk + 1 } :=
      I.turnedNew (ch := [e, it]) (fun b ob hb q => (sb.2 b (fun z => hb (by simp [z]))).trans (hk b ob (fun z => hb (by simp [z])) (fun z => hb (by simp [z])) q)) hf (Nat.le_refl _) new
    refine ⟨.ref s.heap.objs.size, _, I1, rfl, ⟨_, x, rfl, I.hok.fresh (Nat.le_refl _), rfl, fun ys hy => by rw [I.tuple_inj hy hq]; exact hx⟩, ⟨⟨y, ?_⟩, st'.1.at fun o q => (sb.2 it (Ne.symm hne)).trans q⟩, fun b hb => ?_⟩
    · have e1 : ((i + 1 : Nat) : Int) = (i : Int) + 1 := by omega
      rw [e1]; exact he'
    · have hb' : b < s.heap.objs.size := by
        have e' : b = e ∨ b = it := by simpa using hb
        rcases e' with z | z
        · rw [z]; exact hel
        · rw [z]; exact hil
      rw [upd_ne (Nat.ne_of_lt hb')]
      exact (hf b hb).1
  done := by
    intro X hP hw hK hc i pins s σ H E I hf st hg
    subst hP hw hK
    obtain ⟨⟨old, he⟩, hit⟩ := st
    obtain ⟨xs, hq, hx⟩ := hg
    obtain ⟨its, rv, p, hz⟩ := I.tuple hq
    obtain ⟨f0, f1, f2, f3, f4, f5⟩ := hf it (by simp)
    have hl := rv.length
    have hT : s.TypeIs (.ref e) "enumerate" := ⟨_, he, rfl⟩
    unfold pyNext
    refine wpAny_bind (wpAny_attempt (wpAny_callSpecial?_slot (name := Str.ofString "__next__") hT F.slot_enumerate_next
      (wpAny_call_entry F.slot_enumerate_next hT F.entry_enumerate_next ?_ (F.args_enumerate_next_1 _))))
    show wpAny _ _ (field (.ref e) 2 >>= _) _ _ _
    refine wpAny_bind (wpAny_field he rfl (x := .ref it) rfl ?_)
    refine wpAny_bind (RZ.nextOf_tuple_end (I.ok.hd hc) hit p (by simp; omega) fun h' x he' hx' => ?_)
    obtain ⟨o, ho, hcc⟩ := hx'
    refine wpAny_bind (wpAny_isInstance (T := "StopIteration") (b := true) ⟨o, ho, hcc⟩ isSubtype_stop ?_)
    exact wpAny_pure ⟨rfl, I.turned (t' := s.toks) (fun b o hb q => he' b o hb q) f0 f1 f3 f4 f5⟩
  self := fun A i s Q E st h => let ⟨⟨_, he⟩, _⟩ := st; wpAny_pyIter_enum he h
def iEnumT (K : PySem.W.Frag) (ta : TA) : TI := fun σ H R => ta σ H fun vs H1 => ∃ a xs, vs = [.ref a] ∧ SqT K H1 a xs ∧ R (IteT K a) H1
theorem pi_enumT {X : Cx} {e : Expr} {ta : TA} {p pos tpos : Pos} {elts : List Expr} {kk : Nat} (hg : Gl X "enumerate") (hm : X.mg "enumerate" = none) (ha : PA X [e] ta) (hs : starEach [e] X.env = [(false, eval e X.env)] := by rfl) :
    PI X (.Tuple elts kk tpos) (.Call (.Name "enumerate" p) [e] [] pos) (iEnumT X.K ta) := by
  refine ⟨fun pins s σ H R I h => ?_⟩
  refine Call_ (ld_blt I hg hm PyProof.Rows.boot_enumerate (PyProof.Rows.callWith_type1 (thn (ha.run pos pins s σ H _ I h) fun us s1 ⟨vs, H1, I1, r1, q1⟩ => ?_) hs rfl))
  obtain ⟨a, xs, ex, hq, q⟩ := q1
  subst ex
  cases r1 with
  | cons r rr =>
    cases rr
    cases r
    obtain ⟨its, rv, p', hz⟩ := I1.tuple hq
    have hal : a < s1.heap.objs.size := by obtain ⟨_, q, _⟩ := id p'; exact Heap.lt_size q
    refine AxEn.call_enumT (show s1.heap.IsTuple a its.toArray from p') fun h' he hit hsz hk => wpAny_pyIter_enum he ?_
    have I2 : Inv X pins σ H1 { s1 with heap := h' } := I1.kept (t' := s1.toks) hk
    refine ⟨s1.heap.objs.size + 1, [s1.heap.objs.size + 1, s1.heap.objs.size], _, _, H1, rfl, I2, turn_enumT a (s1.heap.objs.size + 1) s1.heap.objs.size (Nat.succ_ne_self _) (Nat.ne_of_gt (Nat.lt_succ_of_lt hal)) (Nat.ne_of_lt hal), ⟨⟨.none, he⟩, hit⟩, fun b hb => ?_, q⟩
    have e' : b = s1.heap.objs.size + 1 ∨ b = s1.heap.objs.size := by simpa using hb
    have hle : s1.heap.objs.size ≤ b := by
      rcases e' with z | z
      · rw [z]; exact Nat.le_add_right _ _
      · rw [z]; exact Nat.le_refl _
    exact I1.fpOk hle (I1.hok.fresh hle)
theorem walk_enumT {K : PySem.W.Frag} {a : Addr} {xs : List V} : Walk (IteT K a) xs.length (fun H => SqT K H a xs) (fun i H v H' => ∃ T x, v = .ref T ∧ H T = none ∧ H' = upd H T (.tup [.int (i : Nat), x]) ∧ xs[i]? = some x) where
  goes := fun i H hi h => ⟨xs, xs[i], h, List.getElem?_eq_getElem hi⟩
  stops := fun H h => ⟨xs, h, Nat.le_refl _⟩
  yields := fun i H v H' _ h ⟨T, x, e1, e2, e3, e4⟩ => ⟨T, x, e1, e2, e3, e4 xs h⟩
end Ax
end
section
set_option maxHeartbeats 4000000
/-! comprehensions over walks whose items may be new tuples -/
namespace Ax
open PySem PySem.Spec PyProof.Rows L2
/-- a target of two names -/
abbrev gPair (K : PySem.W.Frag) (i j : Nat) : TG := gTup K 2 (gCons (gName i) (gCons (gName j) gNil))
theorem gPair_of {K : PySem.W.Frag} {i j : Nat} {a : Addr} {v1 v2 : V} {σ : L2.St} {H : Hp} {Q : L2.St → Hp → Prop} (h : SqT K H a [v1, v2]) (q : Q ((σ.set i (some v1)).set j (some v2)) H) : gPair K i j (.ref a) σ H Q :=
  ⟨a, [v1, v2], rfl, h, rfl, v1, [v2], rfl, v2, [], rfl, rfl, q⟩
/-- a walk of n items; nothing but a change of its source disturbs it; items may be new things -/
structure ItN (J : It) (H : Hp) (n : Nat) (Y : Nat → V → Hp → Prop) : Prop where
  ex : ∃ G : Hp → Prop, Walk J n G (fun i Ha v Hb => Same Ha Hb ∧ Y i v Hb) ∧ G H ∧ ∀ H', Same H H' → G H'
/-- the i-th of xs -/
def YNth (xs : List V) : Nat → V → Hp → Prop := fun i v _ => xs[i]? = some v
/-- a tuple of the i-th of f and the i-th of g -/
def YTwo (f g : Nat → Option V) : Nat → V → Hp → Prop := fun i v H => ∃ T x y, v = .ref T ∧ f i = some x ∧ g i = some y ∧ H T = some (.tup [x, y])
section
variable {K : PySem.W.Frag} {J : It} {H : Hp} {xs ys : List V} {a b : Addr}
theorem itN_seq (h : SeqIt J H xs) : ItN J H xs.length (YNth xs) := by
  obtain ⟨G, w, g, s⟩ := h
  exact ⟨G, w.mono (fun _ z => z) fun i Ha v Hb hi _ y => by
    obtain ⟨e, hv⟩ := y
    subst e
    exact ⟨Same.refl _, hv⟩, g, s⟩
theorem itN_enumT (h : SqT K H a xs) : ItN (IteT K a) H xs.length (YTwo (fun i => some (.int (i : Nat))) (fun i => xs[i]?)) :=
  ⟨_, walk_enumT.mono (fun _ z => z) fun i Ha v Hb hi _ ⟨T, x, e1, e2, e3, e4⟩ => by
    subst e3
    exact ⟨same_new e2, T, _, x, e1, rfl, e4, upd_same⟩, h, fun _ s => same_tup s h⟩
theorem itN_zip (h1 : SqL K H a xs) (h2 : SqL K H b ys) (hl : xs.length = ys.length) : ItN (Itz K a b) H xs.length (YTwo (fun i => xs[i]?) (fun i => ys[i]?)) :=
  ⟨_, (walk_zip (xs := xs) (ys := ys) (n := xs.length) (by rw [← hl] <;> simp)).mono (fun _ z => z) fun i Ha v Hb hi _ ⟨T, x, y, e1, e2, e3, e4, e5⟩ => by
    subst e3
    exact ⟨same_new e2, T, x, y, e1, e4, e5, upd_same⟩, ⟨h1, h2⟩, fun _ s => ⟨s.seq h1, s.seq h2⟩⟩
end
section
variable {X : Cx} {iter elt kx vx tg : Expr} {ifs : List Expr} {σ : L2.St} {H : Hp} {Q : VK} {pos : Pos} {scope : Scope}
/-- a list comprehension by an invariant of the list at D -/
abbrev LcI (X : Cx) (tg iter elt : Expr) (scope : Scope) (own : List (Str × Nat)) (g : TG) (tt : TT) (σ : L2.St) (H : Hp) (Q : VK) : Prop := WI X tg iter σ H fun J H1 => ∃ n G Y, Walk J n G Y ∧ n < sizeLine ∧ ∀ D, H1 D = none → ∃ P : Nat → List V → Hp → Prop,
    P 0 [] (upd H1 D (.lst [])) ∧ (∀ i ys H, i ≤ n → H D = some (.lst ys) → P i ys H → G H) ∧ (∀ ys H, H D = some (.lst ys) → P n ys H → Q (.ref D) H) ∧
    ∀ i ys x H H', i < n → H D = some (.lst ys) → P i ys H → Y i H x H' → ∀ (Kf : Hp → Prop) (Kt : VK), (∀ H3, H3 D = some (.lst ys) → P (i + 1) ys H3 → Kf H3) → (∀ y H3, H3 D = some (.lst ys) → P (i + 1) (ys ++ [y]) (upd H3 D (.lst (ys ++ [y]))) → Kt y H3) →
      g x (wipe σ (own.map (·.2))) H' fun σ2 H2 => wipe σ2 (own.map (·.2)) = wipe σ (own.map (·.2)) ∧ tt σ2 H2 fun b H4 => if b = true then (Blk X scope fun Y => W Y elt σ2 H4 Kt) else Kf H4
theorem lcI_t {own : List (Str × Nat)} {g : TG} {tt : TT} (h : LcI X tg iter elt scope own g tt σ H Q) : tLc (WI X tg iter) g tt (fun σ2 H2 K => Blk X scope fun Y => W Y elt σ2 H2 K) (own.map (·.2)) σ H Q := by
  refine ⟨fun pins s I => thn (h.run pins s I) fun v s1 z => thn z fun it s2 q => ?_⟩
  obtain ⟨it', fp, tn, J, H1, e, I2, T, t0, f0, n, G, Y, wk, hn, q⟩ := q
  refine ⟨it', fp, tn, J, H1, e, I2, T, t0, f0, fun D nD => ?_⟩
  obtain ⟨P, p0, pG, pQ, pS⟩ := q D nD
  refine lc_it (H1 := H1) (D := D) (g := g) (tt := tt) (te := fun σ2 H2 K => Blk X scope fun Y => W Y elt σ2 H2 K) (vs := own.map (·.2)) (σ := σ) (Qd := fun H2 => Q (.ref D) H2) wk
    (fun j H2 => ∃ ys : List V, ys.length ≤ j ∧ H2 D = some (.lst ys) ∧ P j ys H2) ⟨[], Nat.le_refl _, upd_same, p0⟩ (fun j H2 hj ⟨ys, _, hD, p⟩ => pG j ys H2 hj hD p) ?_ (fun H2 ⟨ys, _, hD, p⟩ => pQ ys H2 hD p)
  rintro j v H2 H2' hj ⟨ys, hl, hD, p⟩ y
  exact pS j ys v H2 H2' hj hD p y _ (fun y H4 => ∃ acc, H4 D = some (.lst acc) ∧ acc.length < sizeLine ∧ ∃ ys', ys'.length ≤ j + 1 ∧ (upd H4 D (.lst (acc ++ [y]))) D = some (.lst ys') ∧ P (j + 1) ys' (upd H4 D (.lst (acc ++ [y])))) (fun H3 hD3 p3 => ⟨ys, Nat.le_succ_of_le hl, hD3, p3⟩)
    fun y H3 hD3 p3 => ⟨ys, hD3, Nat.lt_of_le_of_lt hl (Nat.lt_trans hj hn), ys ++ [y], by simp; exact hl, upd_same, p3⟩
theorem w_lcI (own : List (Str × Nat)) (g : TG) (tt : TT) (hg : Blk X scope fun Y => PG Y tg g) (ht : Blk X scope fun Y => PTs Y ifs tt) (hc : X.calm = true) (hN : X.N.Nodup) (ok : BlkOk X.N X.env.scope scope own)
    (h : LcI X tg iter elt scope own g tt σ H Q) (hs : ∀ x, foldedSetIterable iter X.env x = pure x := by intro _; rfl) : W X (.ListComp elt [⟨tg, iter, ifs, 0⟩] scope pos) σ H Q :=
  W.of (pe_lc (own := own) (g := g) (tt := tt) (te := fun σ2 H2 K => Blk X scope fun Y => W Y elt σ2 H2 K) hc hN WI.pi ok hg ht
    (fun s H C cl fp => ⟨fun pins s' σ' H' Q' I' h' => (h' s H C cl fp).run pins s' I'⟩) hs) (lcI_t h)
theorem ws_setLcI {D : Ends} {y : Str} {py spos : Pos} (i : Nat) (own : List (Str × Nat)) (g : TG) (tt : TT) (hg : Blk X scope fun Y => PG Y tg g) (ht : Blk X scope fun Y => PTs Y ifs tt) (hc : X.calm = true) (hN : X.N.Nodup) (ok : BlkOk X.N X.env.scope scope own) (hy : X.N[i]? = some y)
    (h : LcI X tg iter elt scope own g tt σ H fun v H1 => D.nx (σ.set i (some v)) H1) (hyl : X.env.scope.names.lookup y = some .local := by rfl) (hsw : swapsWith (.ListComp elt [⟨tg, iter, ifs, 0⟩] scope pos) (some (.Name y py)) spos.line X.env = pure true := by exact sw_true rfl rfl rfl rfl)
    (hs : ∀ x, foldedSetIterable iter X.env x = pure x := by intro _; rfl) : WS X (.Assign [.Name y py] (.ListComp elt [⟨tg, iter, ifs, 0⟩] scope pos) spos) D σ H :=
  WS.of (ps_setLc (own := own) (g := g) (tt := tt) (te := fun σ2 H2 K => Blk X scope fun Y => W Y elt σ2 H2 K) hc hN hy hyl hsw WI.pi ok hg ht
    (fun s H C cl fp => ⟨fun pins s' σ' H' Q' I' h' => (h' s H C cl fp).run pins s' I'⟩) hs) (lcI_t h)
/-- .. each item gives the value c i, or none: by its place -/
abbrev LcC (X : Cx) (tg iter elt : Expr) (scope : Scope) (own : List (Str × Nat)) (g : TG) (tt : TT) (σ : L2.St) (H : Hp) (Q : VK) : Prop := WI X tg iter σ H fun J H1 => ∃ n Y, ItN J H1 n Y ∧ n < sizeLine ∧ ∃ c : Nat → Option V,
    (∀ i x H2, i < n → Same H1 H2 → Y i x H2 → g x (wipe σ (own.map (·.2))) H2 fun σ2 H3 => wipe σ2 (own.map (·.2)) = wipe σ (own.map (·.2)) ∧ tt σ2 H3 fun b H4 => Same H2 H4 ∧ if b = true then (Blk X scope fun Y => W Y elt σ2 H4 fun y H5 => Same H4 H5 ∧ c i = some y) else c i = none) ∧
    ∀ q H2, Same H1 H2 → H1 q = none → H2 q = some (.lst ((List.range n).filterMap c)) → Q (.ref q) H2
theorem lcC_I {own : List (Str × Nat)} {g : TG} {tt : TT} (mg : ∀ v σ H (Q Q' : L2.St → Hp → Prop), (∀ a b, Q a b → Q' a b) → g v σ H Q → g v σ H Q') (mt : ∀ σ H (Q Q' : Bool → Hp → Prop), (∀ a b, Q a b → Q' a b) → tt σ H Q → tt σ H Q') (h : LcC X tg iter elt scope own g tt σ H Q) : LcI X tg iter elt scope own g tt σ H Q := by
  refine ⟨fun pins s I => thn (h.run pins s I) fun v s1 z => thn z fun it s2 q => ?_⟩
  obtain ⟨it', fp, tn, J, H1, e, I2, T, t0, f0, n, Y, ⟨G, wk, g0, gs⟩, hn, c, hel, hend⟩ := q
  refine ⟨it', fp, tn, J, H1, e, I2, T, t0, f0, n, G, _, wk, hn, fun D nD => ⟨fun i ys H => Same H1 H ∧ ys = (List.range i).filterMap c, ⟨same_new nD, rfl⟩, fun i ys H _ _ p => gs _ p.1, fun ys H hD p => hend D H p.1 nD (by rw [hD, p.2]), ?_⟩⟩
  rintro i ys x Ha Hb hi hD ⟨sm, rfl⟩ ⟨sab, y⟩ Kf Kt kf kt
  refine mg _ _ _ _ _ (fun σ2 H3 ⟨z1, z2⟩ => ⟨z1, mt _ _ _ _ (fun b H4 ⟨s24, z⟩ => ?_) z2⟩) (hel i x Hb hi (sm.trans sab) y)
  have sD := sab.trans s24
  cases b with
  | true =>
    rw [if_pos rfl] at z ⊢
    intro s' H' C cl fp'
    refine W.mono (z s' H' C cl fp') fun y H5 ⟨s45, hc⟩ => kt y H5 ((sD.trans s45) _ _ hD) ⟨same_upd (sm.trans (sD.trans s45)) nD, ?_⟩
    rw [List.range_succ, List.filterMap_append]
    simp [hc]
  | false =>
    rw [if_neg Bool.false_ne_true] at z ⊢
    refine kf H4 (sD _ _ hD) ⟨sm.trans sD, ?_⟩
    rw [List.range_succ, List.filterMap_append]
    simp [z]
theorem mono_name {i : Nat} : ∀ v σ H (Q Q' : L2.St → Hp → Prop), (∀ a b, Q a b → Q' a b) → gName i v σ H Q → gName i v σ H Q' := fun _ _ _ _ _ k h => k _ _ h
theorem mono_pair {K : PySem.W.Frag} {i j : Nat} : ∀ v σ H (Q Q' : L2.St → Hp → Prop), (∀ a b, Q a b → Q' a b) → gPair K i j v σ H Q → gPair K i j v σ H Q' := by
  rintro v σ H Q Q' k ⟨a, xs, e, ha, hl, v1, r1, e1, v2, r2, e2, e3, q⟩
  exact ⟨a, xs, e, ha, hl, v1, r1, e1, v2, r2, e2, e3, k _ _ q⟩
theorem mono_yes : ∀ σ H (Q Q' : Bool → Hp → Prop), (∀ a b, Q a b → Q' a b) → tYes σ H Q → tYes σ H Q' := fun _ _ _ _ k h => k _ _ h
/-- a test as a rule of tests -/
abbrev tWT (X : Cx) (scope : Scope) (c : Expr) : TT := fun σ2 H2 Kc => Blk X scope fun Y => WT Y c σ2 H2 Kc
theorem mono_wt {c : Expr} : ∀ σ H (Q Q' : Bool → Hp → Prop), (∀ a b, Q a b → Q' a b) → tWT X scope c σ H Q → tWT X scope c σ H Q' := fun _ _ _ _ k h s H C cl fp => WT.mono (h s H C cl fp) k
theorem pts_wt {c : Expr} : Blk X scope fun Y => PTs Y [c] (tWT X scope c) := fun s H C cl fp => pts_one ⟨fun pins s' σ' H' Q' I' h' => (h' s H C cl fp).run pins s' I'⟩
/-- .. each item a thing by a relation that stands but for changes at the list D itself -/
abbrev LcR (X : Cx) (tg iter elt : Expr) (scope : Scope) (own : List (Str × Nat)) (g : TG) (σ : L2.St) (H : Hp) (Q : VK) : Prop := WI X tg iter σ H fun J H1 => ∃ n Y, ItN J H1 n Y ∧ n < sizeLine ∧ ∃ R : Addr → Nat → V → Hp → Prop, (∀ D i y Ha Hb acc, Ha D = some (.lst acc) → R D i y Ha → Bt D Ha Hb → R D i y Hb) ∧
    (∀ D i x H2, i < n → Same H1 H2 → H1 D = none → (∃ acc, H2 D = some (.lst acc)) → Y i x H2 → g x (wipe σ (own.map (·.2))) H2 fun σ2 H3 => wipe σ2 (own.map (·.2)) = wipe σ (own.map (·.2)) ∧ Blk X scope fun Y => W Y elt σ2 H3 fun y H5 => Same H2 H5 ∧ R D i y H5) ∧
    ∀ q ys H2, Same H1 H2 → H1 q = none → H2 q = some (.lst ys) → ys.length = n → (∀ (i : Nat) y, ys[i]? = some y → R q i y H2) → Q (.ref q) H2
theorem lcR_I {own : List (Str × Nat)} {g : TG} (mg : ∀ v σ H (Q Q' : L2.St → Hp → Prop), (∀ a b, Q a b → Q' a b) → g v σ H Q → g v σ H Q') (h : LcR X tg iter elt scope own g σ H Q) : LcI X tg iter elt scope own g tYes σ H Q := by
  refine ⟨fun pins s I => thn (h.run pins s I) fun v s1 z => thn z fun it s2 q => ?_⟩
  obtain ⟨it', fp, tn, J, H1, e, I2, T, t0, f0, n, Y, ⟨G, wk, g0, gs⟩, hn, R, hst, hel, hend⟩ := q
  refine ⟨it', fp, tn, J, H1, e, I2, T, t0, f0, n, G, _, wk, hn, fun D nD => ⟨fun i ys H => Same H1 H ∧ ys.length = i ∧ ∀ (j : Nat) y, ys[j]? = some y → R D j y H, ⟨same_new nD, rfl, fun j y e => by simp at e⟩, fun i ys H _ _ p => gs _ p.1, fun ys H hD p => hend D ys H p.1 nD hD p.2.1 p.2.2, ?_⟩⟩
  rintro i ys x Ha Hb hi hD ⟨sm, hl, hR⟩ ⟨sab, y⟩ Kf Kt kf kt
  refine mg _ _ _ _ _ (fun σ2 H3 ⟨z1, z2⟩ => ⟨z1, ?_⟩) (hel D i x Hb hi (sm.trans sab) nD ⟨_, sab _ _ hD⟩ y)
  show if true = true then Blk X scope fun Y => W Y elt σ2 H3 Kt else Kf H3
  rw [if_pos rfl]
  intro s' H' C cl fp'
  refine W.mono (z2 s' H' C cl fp') fun y H5 ⟨s35, hr⟩ => ?_
  have s5 : Same Ha H5 := sab.trans s35
  refine kt y H5 (s5 _ _ hD) ⟨same_upd (sm.trans s5) nD, by simp [hl], fun j u e => ?_⟩
  have bt : Bt D H5 (upd H5 D (.lst (ys ++ [y]))) := (Bt.refl D H5).upd
  by_cases hj : j < ys.length
  · rw [List.getElem?_append_left hj] at e
    exact hst _ _ _ _ _ _ hD (hR j u e) ((Bt.of s5).trans bt)
  · rw [List.getElem?_append_right (by omega)] at e
    have ej : j = ys.length := by
      have := (List.getElem?_eq_some_iff.mp e).1
      simp at this
      omega
    subst ej
    simp at e
    subst e
    rw [hl]
    exact hst _ _ _ _ _ _ (s5 _ _ hD) hr bt
/-! ### dicts -/
/-- a kind of keys: how a store puts them, how the dict's object is told, how a value shows a key -/
structure Fam (κ : Type) [DecidableEq κ] where
  pt : Put
  mkO : List (κ × V) → HO
  shows : κ → V → Hp → Prop
  ok : PutOk pt
  put : ∀ H D kvs k v z, H D = some (mkO kvs) → shows k v H → kvs.length < sizeLine → pt H D v z (mkO (putK kvs k z))
  st : ∀ k v H H', shows k v H → Same H H' → shows k v H'
  emp : ∀ (P : Program) (w : World) (H : Hp) (h : Heap), sysModules < h.objs.size → ObjOk P w H (h.push { cls := .type "dict", data := .dict #[] }) h.objs.size (mkO [])
def famK : Fam Key where
  pt := putKP
  mkO := .dK
  shows := fun k v _ => v = kV k
  ok := putKP_ok
  put := fun H D kvs k v z h1 h2 h3 => ⟨kvs, k, h2, h1, h3, rfl⟩
  st := fun k v H H' h _ => h
  emp := fun P w H h hb => dk_empty _ hb
def famT : Fam (List Key) where
  pt := putTP
  mkO := .dT
  shows := fun k v H => ∃ b, v = .ref b ∧ H b = some (.tup (k.map kV))
  ok := putTP_ok
  put := fun H D kvs k v z h1 ⟨b, h2, h4⟩ h3 => ⟨kvs, k, b, h2, h1, h4, h3, rfl⟩
  st := fun k v H H' ⟨b, h, h2⟩ s => ⟨b, h, s _ _ h2⟩
  emp := fun P w H h hb => dt_empty _ hb
/-- pairs put in one behind another -/
def putsL {κ : Type} [DecidableEq κ] (ps : List (κ × V)) : List (κ × V) := ps.foldl (fun d p => putK d p.1 p.2) []
theorem putsL_snoc {κ : Type} [DecidableEq κ] {ps : List (κ × V)} {k : κ} {z : V} : putsL (ps ++ [(k, z)]) = putK (putsL ps) k z := by
  unfold putsL
  rw [List.foldl_append] <;> rfl
theorem putsL_len {κ : Type} [DecidableEq κ] (ps : List (κ × V)) : (putsL ps).length ≤ ps.length := by
  have h : ∀ (zs d : List (κ × V)), (zs.foldl (fun d p => putK d p.1 p.2) d).length ≤ d.length + zs.length := by
    intro zs
    induction zs with
    | nil => intro d; exact Nat.le_refl _
    | cons z zs ih =>
      intro d
      have h1 := ih (putK d z.1 z.2)
      have h2 := length_putK d z.1 z.2
      show (zs.foldl _ (putK d z.1 z.2)).length ≤ _
      simp only [List.length_cons]
      omega
  have e := h ps []
  rw [List.length_nil, Nat.zero_add] at e
  exact e
/-- the keys, each once, in the order of their first coming -/
def onceL {κ : Type} [DecidableEq κ] (ks : List κ) : List κ := ks.foldl (fun d k => if k ∈ d then d else d ++ [k]) []
theorem putK_keysG {κ : Type} [DecidableEq κ] (d : List (κ × V)) (k : κ) (v : V) : (putK d k v).map (·.1) = if k ∈ d.map (·.1) then d.map (·.1) else d.map (·.1) ++ [k] := by
  unfold putK
  cases e : d.any fun kv => decide (kv.1 = k) with
  | true =>
    obtain ⟨kv, h1, h2⟩ := List.any_eq_true.mp e
    rw [if_pos rfl, if_pos (List.mem_map.mpr ⟨kv, h1, of_decide_eq_true h2⟩), List.map_map]
    refine List.map_congr_left fun kv _ => ?_
    show (if kv.1 = k then (kv.1, v) else kv).1 = kv.1
    split <;> rfl
  | false =>
    rw [if_neg Bool.false_ne_true, if_neg]
    · simp
    · intro h
      obtain ⟨kv, h1, h2⟩ := List.mem_map.mp h
      exact List.any_eq_false.mp e kv h1 (decide_eq_true h2)
theorem putsL_keys {κ : Type} [DecidableEq κ] (ps : List (κ × V)) : (putsL ps).map (·.1) = onceL (ps.map (·.1)) := by
  have h : ∀ (zs d : List (κ × V)), (zs.foldl (fun d p => putK d p.1 p.2) d).map (·.1) = (zs.map (·.1)).foldl (fun d k => if k ∈ d then d else d ++ [k]) (d.map (·.1)) := by
    intro zs
    induction zs with
    | nil => intro d; rfl
    | cons z zs ih =>
      intro d
      rw [List.foldl_cons, ih, List.map_cons, List.foldl_cons, putK_keysG]
  exact h ps []
theorem onceL_snoc {κ : Type} [DecidableEq κ] {ks : List κ} {k : κ} : onceL (ks ++ [k]) = if k ∈ onceL ks then onceL ks else onceL ks ++ [k] := by
  unfold onceL
  rw [List.foldl_append] <;> rfl
theorem onceL_mem {κ : Type} [DecidableEq κ] (ks : List κ) : (onceL ks).Nodup ∧ ∀ k, k ∈ onceL ks ↔ k ∈ ks := by
  have h : ∀ (zs d : List κ), d.Nodup → (zs.foldl (fun d k => if k ∈ d then d else d ++ [k]) d).Nodup ∧ ∀ k, k ∈ zs.foldl (fun d k => if k ∈ d then d else d ++ [k]) d ↔ k ∈ d ∨ k ∈ zs := by
    intro zs
    induction zs with
    | nil => intro d n; exact ⟨n, fun k => by simp⟩
    | cons z zs ih =>
      intro d n
      by_cases c : z ∈ d
      · obtain ⟨h1, h2⟩ := ih d n
        rw [List.foldl_cons, if_pos c]
        refine ⟨h1, fun k => ?_⟩
        rw [h2 k, List.mem_cons]
        constructor
        · rintro (h | h)
          · exact .inl h
          · exact .inr (.inr h)
        · rintro (h | h | h)
          · exact .inl h
          · rw [h]; exact .inl c
          · exact .inr h
      · have n2 : (d ++ [z]).Nodup := by
          rw [List.nodup_append]
          refine ⟨n, by simp, fun a ha b hb => ?_⟩
          rw [List.mem_singleton.mp hb]
          rintro rfl
          exact c ha
        obtain ⟨h1, h2⟩ := ih (d ++ [z]) n2
        rw [List.foldl_cons, if_neg c]
        refine ⟨h1, fun k => ?_⟩
        rw [h2 k, List.mem_cons, List.mem_append, List.mem_singleton, or_assoc]
  obtain ⟨h1, h2⟩ := h ks [] (by simp)
  exact ⟨h1, fun k => (h2 k).trans (by simp)⟩
/-- what is of no key twice already -/
theorem onceL_id {κ : Type} [DecidableEq κ] {ks : List κ} (h : ks.Nodup) : onceL ks = ks := by
  have key : ∀ (zs d : List κ), (d ++ zs).Nodup → zs.foldl (fun d k => if k ∈ d then d else d ++ [k]) d = d ++ zs := by
    intro zs
    induction zs with
    | nil => intro d _; simp
    | cons z zs ih =>
      intro d n
      have c : z ∉ d := fun c => by
        have := (List.nodup_append.mp n).2.2 z c z List.mem_cons_self
        exact this rfl
      rw [List.foldl_cons, if_neg c, ih (d ++ [z]) (by simpa using n)]
      simp
  have e := key ks [] (by simpa using h)
  rw [List.nil_append] at e
  exact e
/-- {k: v for t in it}: the i-th item puts the i-th of ps -/
theorem w_dcN {κ : Type} [DecidableEq κ] (F : Fam κ) (own : List (Str × Nat)) (g : TG) (hu : X.A.units + 64 < cLine) (mg : ∀ v σ H (Q Q' : L2.St → Hp → Prop), (∀ a b, Q a b → Q' a b) → g v σ H Q → g v σ H Q') (hg : Blk X scope fun Y => PG Y tg g) (hc : X.calm = true) (hN : X.N.Nodup) (ok : BlkOk X.N X.env.scope scope own)
    (h : WI X tg iter σ H fun J H1 => ∃ n Y, ItN J H1 n Y ∧ ∃ ps : List (κ × V), ps.length = n ∧ n < sizeLine ∧
      (∀ (i : Nat) x H2 k z, ps[i]? = some (k, z) → Same H1 H2 → Y i x H2 → g x (wipe σ (own.map (·.2))) H2 fun σ2 H3 => wipe σ2 (own.map (·.2)) = wipe σ (own.map (·.2)) ∧ Blk X scope fun Y => W Y kx σ2 H3 fun u H4 => Same H2 H4 ∧ F.shows k u H4 ∧ Blk X scope fun Y => W Y vx σ2 H4 fun y H5 => Same H4 H5 ∧ y = z) ∧
      ∀ q H2, Same H1 H2 → H1 q = none → H2 q = some (F.mkO (putsL ps)) → Q (.ref q) H2)
    (hs : ∀ x, foldedSetIterable iter X.env x = pure x := by intro _; rfl) : W X (.DictComp kx vx [⟨tg, iter, [], 0⟩] scope pos) σ H Q := by
  refine W.of (pe_dc1 (wi1 := WI X tg iter) (g1 := g) (tk := fun σ2 H2 K => Blk X scope fun Y => W Y kx σ2 H2 K) (tv := fun σ2 H2 K => Blk X scope fun Y => W Y vx σ2 H2 K) F.ok F.emp hu hc hN WI.pi ok hg
    (fun s H C cl fp => ⟨fun pins s' σ' H' Q' I' h' => (h' s H C cl fp).run pins s' I'⟩) (fun s H C cl fp => ⟨fun pins s' σ' H' Q' I' h' => (h' s H C cl fp).run pins s' I'⟩) hs) ?_
  refine ⟨fun pins s I => thn (h.run pins s I) fun v s1 z => thn z fun it s2 q => ?_⟩
  obtain ⟨it', fp, tn, J, H1, e, I2, T, t0, f0, n, Y, ⟨G, wk, g0, gs⟩, ps, rfl, hn, hel, hend⟩ := q
  refine ⟨it', fp, tn, J, H1, e, I2, T, t0, f0, ps.length, G, _, wk, fun D nD => ⟨fun i H => Same H1 H ∧ H D = some (F.mkO (putsL (ps.take i))), ⟨same_new nD, upd_same⟩, fun i H _ p => gs _ p.1, fun H p => hend D H p.1 nD (by have := p.2; rw [List.take_length] at this; exact this), ?_⟩⟩
  rintro i x Ha Hb hi ⟨sm, hD⟩ ⟨sab, y⟩
  have hp : ps[i]? = some ((ps[i]).1, (ps[i]).2) := List.getElem?_eq_getElem hi
  refine mg _ _ _ _ _ (fun σ2 H3 ⟨z1, z2⟩ => ⟨z1, ?_⟩) (hel i x Hb _ _ hp (sm.trans sab) y)
  intro s' H' C cl fp'
  refine W.mono (z2 s' H' C cl fp') fun u H4 ⟨s4, sh, z3⟩ => ?_
  intro s' H' C cl fp'
  refine W.mono (z3 s' H' C cl fp') fun y H5 ⟨s5, ey⟩ => ?_
  subst ey
  have hD5 : H5 D = some (F.mkO (putsL (ps.take i))) := (sab.trans (s4.trans s5)) _ _ hD
  have hl : (putsL (ps.take i)).length < sizeLine := by
    have h1 := putsL_len (ps.take i)
    rw [List.length_take] at h1
    omega
  refine ⟨_, F.put H5 D _ _ _ _ hD5 (F.st _ _ _ _ sh s5) hl, same_upd (sm.trans (sab.trans (s4.trans s5))) nD, ?_⟩
  rw [List.take_add_one, List.getElem?_eq_getElem hi]
  show (upd H5 D _) D = some (F.mkO (putsL (ps.take i ++ [((ps[i]).1, (ps[i]).2)])))
  rw [putsL_snoc]
  exact upd_same
/-- a walk that stands but for changes at D -/
structure ItD (D : Addr) (J : It) (H : Hp) (n : Nat) (Y : Nat → V → Hp → Prop) : Prop where
  ex : ∃ G : Hp → Prop, Walk J n G (fun i Ha v Hb => Same Ha Hb ∧ Y i v Hb) ∧ G H ∧ ∀ H', Bt D H H' → G H'
theorem itD_tup {K : PySem.W.Frag} {D a : Addr} {xs : List V} (h : SqT K H a xs) (ne : a ≠ D) : ItD D (Itt K a) H xs.length (YNth xs) :=
  ⟨_, walk_tup.mono (fun _ z => z) fun i Ha v Hb hi _ y => by
    obtain ⟨e, hv⟩ := y
    subst e
    exact ⟨Same.refl _, hv⟩, h, fun H' b => by
    rcases h with (h | ⟨o, h⟩) | h
    · exact .inl (.inl (b _ _ ne h))
    · exact .inl (.inr ⟨o, b _ _ ne h⟩)
    · exact .inr h⟩
/-- {k: v for t1 in i1 for t2 in i2} -/
theorem w_dc2N {κ : Type} [DecidableEq κ] {i2 tg2 : Expr} (F : Fam κ) (own : List (Str × Nat)) (g g2 : TG) (hu : X.A.units + 64 < cLine) (mg : ∀ v σ H (Q Q' : L2.St → Hp → Prop), (∀ a b, Q a b → Q' a b) → g v σ H Q → g v σ H Q') (mg2 : ∀ v σ H (Q Q' : L2.St → Hp → Prop), (∀ a b, Q a b → Q' a b) → g2 v σ H Q → g2 v σ H Q')
    (hg : Blk X scope fun Y => PG Y tg g) (hg2 : Blk X scope fun Y => PG Y tg2 g2) (hc : X.calm = true) (hN : X.N.Nodup) (ok : BlkOk X.N X.env.scope scope own)
    (h : WI X tg iter σ H fun J H1 => ∃ n Y, ItN J H1 n Y ∧ ∃ pss : List (List (κ × V)), pss.length = n ∧ pss.flatten.length < sizeLine ∧
      (∀ D (i : Nat) x H2 ps, H1 D = none → pss[i]? = some ps → Same H1 H2 → Y i x H2 → g x (wipe σ (own.map (·.2))) H2 fun σ2 H3 => wipe σ2 (own.map (·.2)) = wipe σ (own.map (·.2)) ∧ Same H2 H3 ∧ Blk X scope fun Y => WI Y tg2 i2 σ2 H3 fun J2 H4 => Same H3 H4 ∧ ∃ Y2, ItD D J2 H4 ps.length Y2 ∧
        ∀ (j : Nat) y H5 k z, ps[j]? = some (k, z) → Bt D H4 H5 → Y2 j y H5 → g2 y σ2 H5 fun σ3 H6 => (σ2.length = σ3.length ∧ ∀ (k : Nat) (v : V), σ2[k]? = some (some v) → σ3[k]? = some (some v)) ∧ Blk X scope fun Y => W Y kx σ3 H6 fun u H7 => Same H5 H7 ∧ F.shows k u H7 ∧ Blk X scope fun Y => W Y vx σ3 H7 fun y H8 => Same H7 H8 ∧ y = z) ∧
      ∀ q H2, Same H1 H2 → H1 q = none → H2 q = some (F.mkO (putsL pss.flatten)) → Q (.ref q) H2)
    (hs : ∀ x, foldedSetIterable iter X.env x = pure x := by intro _; rfl) (hs2 : Blk X scope fun Y => ∀ x, foldedSetIterable i2 Y.env x = pure x := by intro _ _ _ _ _ _; rfl) : W X (.DictComp kx vx [⟨tg, iter, [], 0⟩, ⟨tg2, i2, [], 0⟩] scope pos) σ H Q := by
  refine W.of (pe_dc2 (wi1 := WI X tg iter) (wi2 := fun σ2 H2 R => Blk X scope fun Y => WI Y tg2 i2 σ2 H2 R) (g1 := g) (g2 := g2) (tk := fun σ2 H2 K => Blk X scope fun Y => W Y kx σ2 H2 K) (tv := fun σ2 H2 K => Blk X scope fun Y => W Y vx σ2 H2 K) F.ok F.emp hu hc hN WI.pi ok hg hg2
    (fun s H C cl fp => ⟨fun pins s' σ' H' R' I' h' => (h' s H C cl fp).run pins s' I'⟩)
    (fun s H C cl fp => ⟨fun pins s' σ' H' Q' I' h' => (h' s H C cl fp).run pins s' I'⟩) (fun s H C cl fp => ⟨fun pins s' σ' H' Q' I' h' => (h' s H C cl fp).run pins s' I'⟩) hs hs2) ?_
  refine ⟨fun pins s I => thn (h.run pins s I) fun v s1 z => thn z fun it s2 q => ?_⟩
  obtain ⟨it', fp, tn, J, H1, e, I2, T, t0, f0, n, Y, ⟨G, wk, g0, gs⟩, pss, rfl, hn, hel, hend⟩ := q
  refine ⟨it', fp, tn, J, H1, e, I2, T, t0, f0, pss.length, G, _, wk, fun D nD => ⟨fun i H => Same H1 H ∧ H D = some (F.mkO (putsL (pss.take i).flatten)), ⟨same_new nD, upd_same⟩, fun i H _ p => gs _ p.1, fun H p => hend D H p.1 nD (by have := p.2; rw [List.take_length] at this; exact this), ?_⟩⟩
  rintro i x Ha Hb hi ⟨sm, hD⟩ ⟨sab, y⟩
  have hp : pss[i]? = some pss[i] := List.getElem?_eq_getElem hi
  have etk : pss.take (i + 1) = pss.take i ++ [pss[i]] := by rw [List.take_add_one, hp] <;> rfl
  have hle : (pss.take i).flatten.length + (pss[i]).length < sizeLine := by
    have e1 : (pss.take (i + 1)).flatten.length ≤ pss.flatten.length := by
      have e2 : pss.flatten = (pss.take (i + 1)).flatten ++ (pss.drop (i + 1)).flatten := by rw [← List.flatten_append, List.take_append_drop]
      rw [e2, List.length_append]
      exact Nat.le_add_right _ _
    rw [etk, List.flatten_append, List.length_append] at e1
    simp at e1 hn ⊢
    omega
  refine mg _ _ _ _ _ (fun σ2 H3 ⟨z1, s3, z2⟩ => ⟨z1, ?_⟩) (hel D i x Hb _ nD hp (sm.trans sab) y)
  intro s' H' C cl fp'
  refine ⟨fun pins s I => thn ((z2 s' H' C cl fp').run pins s I) fun v s1 z => thn z fun it s2 q => ?_⟩
  obtain ⟨it2, fp2, tn2, J2, H4, e2, I4, T2, t2, f2, s4, Y2, ⟨G2, wk2, g20, gs2⟩, hel2⟩ := q
  have s14 : Same H1 H4 := sm.trans (sab.trans (s3.trans s4))
  refine ⟨it2, fp2, tn2, J2, H4, e2, I4, T2, t2, f2, (pss[i]).length, G2, _, wk2, fun j H => Same H1 H ∧ Bt D H4 H ∧ H D = some (F.mkO (putsL ((pss.take i).flatten ++ (pss[i]).take j))), ⟨s14, Bt.refl _ _, ?_⟩, fun j H _ p => gs2 _ p.2.1, fun H p => ⟨p.1, ?_⟩, ?_⟩
  · rw [List.take_zero, List.append_nil]
    exact (sab.trans (s3.trans s4)) _ _ hD
  · have e := p.2.2
    rw [List.take_length] at e
    rw [etk, List.flatten_append]
    simpa using e
  rintro j y2 Hc Hd hj ⟨sm2, bt2, hD2⟩ ⟨scd, yy⟩
  have hp2 : (pss[i])[j]? = some (((pss[i])[j]).1, ((pss[i])[j]).2) := List.getElem?_eq_getElem hj
  refine mg2 _ _ _ _ _ (fun σ3 H6 ⟨z1, z2⟩ => ⟨z1, ?_⟩) (hel2 j y2 Hd _ _ hp2 (bt2.trans (Bt.of scd)) yy)
  intro s' H' C cl fp'
  refine W.mono (z2 s' H' C cl fp') fun u H7 ⟨s7, sh, z3⟩ => ?_
  intro s' H' C cl fp'
  refine W.mono (z3 s' H' C cl fp') fun y H8 ⟨s8, ey⟩ => ?_
  subst ey
  have s58 := scd.trans (s7.trans s8)
  have hl : (putsL ((pss.take i).flatten ++ (pss[i]).take j)).length < sizeLine := by
    have h1 := putsL_len ((pss.take i).flatten ++ (pss[i]).take j)
    rw [List.length_append, List.length_take] at h1
    omega
  refine ⟨_, F.put H8 D _ _ _ _ (s58 _ _ hD2) (F.st _ _ _ _ sh s8) hl, same_upd (sm2.trans s58) nD, (bt2.trans (Bt.of s58)).upd, ?_⟩
  rw [List.take_add_one, hp2, ← List.append_assoc]
  show (upd H8 D _) D = some (F.mkO (putsL ((pss.take i).flatten ++ (pss[i]).take j ++ [(((pss[i])[j]).1, ((pss[i])[j]).2)])))
  rw [putsL_snoc]
  exact upd_same
end
end Ax
end
section
set_option maxHeartbeats 4000000
/-! a head's facts about own classes; a hook with them -/
namespace Ax
open PySem PySem.Spec PyProof.Rows L2
/-- C.f is a property -/
def prB (K : PySem.W.Frag) (C : Addr) (f : PySem.Str) : Bool := decide (PySem.W.findIn K (.ref C) f = some (some (.ref (He.ma K C f)))) && (decide (PySem.W.specialIn K (.ref (He.ma K C f)) "__get__" = some (some (.builtin "property.__get__"))) &&
  (decide (PySem.W.takesIn K (.ref (He.ma K C f)) = some true) && (match PySem.W.recIn K (He.ma K C f) "property" with
    | some (.ref _ :: _) => true
    | _ => false)))
theorem prB_ok {K : PySem.W.Frag} {C : Addr} {f : PySem.Str} (h : prB K C f = true) : PropOf K C f (He.ma K C f) (He5.wf K C "property" f) := by
  unfold prB at h
  obtain ⟨h1, h⟩ := Bool.and_eq_true_iff.mp h
  obtain ⟨h2, h⟩ := Bool.and_eq_true_iff.mp h
  obtain ⟨h3, h4⟩ := Bool.and_eq_true_iff.mp h
  refine ⟨of_decide_eq_true h1, of_decide_eq_true h2, of_decide_eq_true h3, ?_⟩
  unfold He5.wf
  split at h4
  · rename_i f r e
    exact ⟨r, by rw [e]⟩
  · cases h4
/-- C.m is a classmethod -/
def cmB (K : PySem.W.Frag) (C : Addr) (m : PySem.Str) : Bool := He5.wrapB K C "classmethod" "classmethod.__get__" m && PySem.W.fnIn K (He5.wf K C "classmethod" m)
theorem cmB_ok {K : PySem.W.Frag} {C : Addr} {m : PySem.Str} (h : cmB K C m = true) : ClX.CMet K C (.type "type") m (He.ma K C m) (He5.wf K C "classmethod" m) := by
  obtain ⟨h1, h2⟩ := Bool.and_eq_true_iff.mp h
  exact He5.cmet_of h1 h2
def crB (K : PySem.W.Frag) (C : Addr) : Bool := PySem.W.readsIn K C (.type "type") && decide (PySem.W.specialIn K (.ref C) "__getattribute__" = some (some (.builtin "type.__getattribute__")))
theorem crB_ok {K : PySem.W.Frag} {C : Addr} (h : crB K C = true) : ClX.CRead K C (.type "type") := by
  obtain ⟨h1, h2⟩ := Bool.and_eq_true_iff.mp h
  exact ⟨h1, of_decide_eq_true h2⟩
/-- a plain class, its __class__ not otherwise -/
def kcB (K : PySem.W.Frag) (C : Addr) : Bool := PySem.W.plainGet K C Str.empty && (PySem.W.hasDictIn K C && (PySem.W.plainOver K C && (decide (PySem.W.findIn K (.ref C) "__setattr__" = some (some (.builtin "object.__setattr__"))) &&
  (decide (PySem.W.findIn K (.ref C) "__class__" = some (some (.builtin "object.__class__"))) && (decide (PySem.W.specialIn K (.builtin "object.__class__") "__get__" = some (some (.builtin "getset_descriptor.__get__"))) &&
  (decide (PySem.W.takesIn K (.builtin "object.__class__") = some true) && decide (PySem.W.mroIn K C (.type "object") = some true)))))))
theorem kcB_ok {K : PySem.W.Frag} {C : Addr} (h : kcB K C = true) : KC K C := by
  unfold kcB at h
  obtain ⟨h1, h⟩ := Bool.and_eq_true_iff.mp h
  obtain ⟨h2, h⟩ := Bool.and_eq_true_iff.mp h
  obtain ⟨h3, h⟩ := Bool.and_eq_true_iff.mp h
  obtain ⟨h4, h⟩ := Bool.and_eq_true_iff.mp h
  obtain ⟨h5, h⟩ := Bool.and_eq_true_iff.mp h
  obtain ⟨h6, h⟩ := Bool.and_eq_true_iff.mp h
  obtain ⟨h7, h8⟩ := Bool.and_eq_true_iff.mp h
  exact ⟨⟨h1, h2, h3, of_decide_eq_true h4⟩, of_decide_eq_true h5, of_decide_eq_true h6, of_decide_eq_true h7, of_decide_eq_true h8⟩
def kitB2 (K : PySem.W.Frag) (C : Value) (v : Value) (b : Bool) : Bool := decide (PySem.W.kitOne K C v = some b)
theorem kitB2_ok {K : PySem.W.Frag} {C v : Value} {b : Bool} (h : kitB2 K C v b = true) : PySem.W.kitOne K C v = some b := of_decide_eq_true h
/-- a tuple of the text without own attributes -/
def tdB (K : PySem.W.Frag) (a : Addr) : Bool := match K.lookup a with
  | some ⟨.type c, none, _, _⟩ => decide (c = "tuple")
  | _ => false
theorem tdB_ok {K : PySem.W.Frag} {a : Addr} (h : tdB K a = true) : ∃ o, K.lookup a = some o ∧ o.cls = .type "tuple" ∧ o.dict = none := by
  unfold tdB at h
  split at h
  · rename_i c dt sl e
    exact ⟨_, e, congrArg Value.type (of_decide_eq_true h), rfl⟩
  · cases h
/-! ### methods with a star parameter, with ** -/
section
open StX
variable {P : Program} {w : World} {K : PySem.W.Frag} {mg : Str → Option Value} {base : Heap}
theorem none_dfl {x q : Str} {st : Stmt} {f : Addr} {fd : FuncData} (F : FunD K x q (defArgs st) (defBody st) (defScope st) [] [] f fd) :
    ∃ (oc : Value) (od : Option Addr) (kV doc pm : Value) (an : Option Addr) (cdv ct : Value) (osl : Array (Option Value)), K.lookup f = some ⟨oc, od, .func (PySem.W.fnOf x q (defArgs st) (defBody st) (defScope st) .none kV doc pm an cdv ct), osl⟩ ∧ PySem.W.codeIn K cdv q = true := by
  obtain ⟨oc, od, dV, kV, doc, pm, an, cdv, ct, osl, e, l, c, hd, _⟩ := F.ex
  rcases hd with ⟨_, e2⟩ | ⟨e2, _⟩
  · subst e2
    subst e
    exact ⟨oc, od, kV, doc, pm, an, cdv, ct, osl, l, c⟩
  · exact absurd rfl e2
theorem meth_okStar {x q p1 p2 pv : Str} {st : Stmt} {N : List Str} {k : Nat} {sp : Sp} {f : Addr} (T : ∃ fd, FunD K x q (defArgs st) (defBody st) (defScope st) [] [] f fd) (S : FnScope N ([p1, p2] ++ [pv]) (defScope st))
    (h0 : ∀ (kV doc pm : Value) (an : Option Addr) (cdv ct : Value) (a b : Value), bindArgs (PySem.W.fnOf x q (defArgs st) (defBody st) (defScope st) .none kV doc pm an cdv ct) ⟨[a, b], []⟩ = (newTuple [] >>= fun t => pure [(p1, a), (p2, b), (pv, t)]))
    (h1 : ∀ (kV doc pm : Value) (an : Option Addr) (cdv ct : Value) (a b r : Value) (rs : List Value), bindArgs (PySem.W.fnOf x q (defArgs st) (defBody st) (defScope st) .none kV doc pm an cdv ct) ⟨a :: b :: r :: rs, []⟩ = (newTuple (r :: rs) >>= fun t => pure [(p1, a), (p2, b), (pv, t)]))
    (body : ∀ (cdv : Value) (A : Around) (outer : List Env) (s : Shared) (H : Hp) (vs : List V) (Q : VK) (E : XK), Room k (A.deeper (envOfC q (defScope st) s.heap.objs.size f cdv)) → sp vs H Q E →
      WB (cxOf (L2.CX P w) P w K mg base N q (defScope st) f cdv A outer s H E) (defBody st) { nx := fun _ H' => Q .non H', rt := Q } (start N vs) H) :
    FnP P w K mg base (k + 1) f (fun vs H Q E => ∃ a b rest, vs = a :: b :: rest ∧ rest.length ≤ sizeLine ∧ ∀ p, H p = none → sp [a, b, .ref p] (upd H p (.tup rest)) Q E) := by
  obtain ⟨fd, F⟩ := T
  obtain ⟨oc, od, kV, doc, pm, an, cdv, ct, osl, lk, hcd⟩ := none_dfl F
  have Z := fn_star (P := P) (w := w) (mg := mg) (base := base) (ps := [p1, p2]) (pv := pv) (k := k) (sp := sp) lk hcd S cxUp (bind_star2 (B := fun us => bindArgs (PySem.W.fnOf x q (defArgs st) (defBody st) (defScope st) .none kV doc pm an cdv ct) ⟨us, []⟩) (fun a b => h0 kV doc pm an cdv ct a b) fun a b r rs => h1 kV doc pm an cdv ct a b r rs)
    fun A outer s H vs Q E hr h => ⟨_, WB.pss, body cdv A outer s H vs Q E hr h⟩
  exact Z.imp fun vs H Q E ⟨a, b, rest, e, z, q⟩ => ⟨[a, b], rest, e, rfl, z, q⟩
/-- def m(self, a, **d), called without keywords -/
theorem meth_okKw {x q pd : Str} {ps : List Str} {st : Stmt} {N : List Str} {k : Nat} {sp : Sp} {f : Addr} (T : ∃ fd, FunD K x q (defArgs st) (defBody st) (defScope st) [] [] f fd) (S : FnScope N (ps ++ [pd]) (defScope st))
    (hb : ∀ (kV doc pm : Value) (an : Option Addr) (cdv ct : Value) (us : List Value), us.length = ps.length → bindArgs (PySem.W.fnOf x q (defArgs st) (defBody st) (defScope st) .none kV doc pm an cdv ct) ⟨us, []⟩ = ((alloc ({ cls := .type "dict", data := .dict #[] } : Obj) : Sem Addr) >>= fun d => pure (ps.zip us ++ [(pd, Value.ref d)])))
    (body : ∀ (cdv : Value) (A : Around) (outer : List Env) (s : Shared) (H : Hp) (vs : List V) (Q : VK) (E : XK), Room k (A.deeper (envOfC q (defScope st) s.heap.objs.size f cdv)) → sp vs H Q E →
      WB (cxOf (L2.CX P w) P w K mg base N q (defScope st) f cdv A outer s H E) (defBody st) { nx := fun _ H' => Q .non H', rt := Q } (start N vs) H) :
    FnP P w K mg base (k + 1) f (fun vs H Q E => vs.length = ps.length ∧ ∀ p, H p = none → sp (vs ++ [.ref p]) (upd H p (.dK [])) Q E) := by
  obtain ⟨fd, F⟩ := T
  obtain ⟨oc, od, kV, doc, pm, an, cdv, ct, osl, lk, hcd⟩ := none_dfl F
  intro A outer s H us vs Q E hr e0 r ⟨hl, hq⟩
  have hn : H s.heap.objs.size = Option.none := e0.hok.fresh (Nat.le_refl _)
  have hl1 : us.length = ps.length := by rw [← r.length]; exact hl
  refine run_bnd lk hcd S hr e0 (G := fun xs H2 => ∃ d, H d = Option.none ∧ xs = vs ++ [V.ref d] ∧ H2 = upd H d (.dK [])) (fun A' Ex Q' h => ?_) fun s2 H2 xs ⟨d, hd, ex, eH⟩ hr' => ?_
  · rw [hb kV doc pm an cdv ct us hl1]
    refine wpAny_bind (wpAny_alloc (wpAny_pure ?_))
    have e2 := env0_laid (u := .dK []) (o := ({ cls := .type "dict", data := .dict #[] } : Obj)) e0 (dk_empty _ (env0_big e0))
    have un := un_laid (fs := frs outer) (s := s) (o := ({ cls := .type "dict", data := .dict #[] } : Obj)) (u := .dK []) hn
    have z := h _ _ (vs ++ [V.ref s.heap.objs.size]) (us ++ [Value.ref s.heap.objs.size]) e2 un rfl (fun e s' => cxUp outer s H _ _ E e s' un (fun b o q => Heap.get?_push_of_some _ q) rfl) (r.append (.cons rfl .nil))
      (by rw [List.length_append, List.length_append, hl] <;> rfl) ⟨_, hn, rfl, rfl⟩
    rw [List.zip_append hl1.symm] at z
    exact z
  · subst ex eH
    exact ⟨_, WB.pss, body cdv A outer s2 _ _ Q E hr' (hq d hd)⟩
end
/-! ### the hook -/
abbrev AlY : Type := He.AlD × Bool
def obsY (n : Nat) (fa : List He.Fa) (fn : List He5.DefA) (ex : PySem.W.Frag → Bool) (g : Addr → Option Obj) : AlY := (He5.obsA fa fn (He.frG g (He5.asA g n)), ex (He.frG g (He5.asA g n)))
def hookY (n : Nat) (fa : List He.Fa) (fn : List He5.DefA) (ex : PySem.W.Frag → Bool) : PySem.W.Hook where
  α := AlY
  obs := fun s => obsY n fa fn ex s.heap.get?
  val := fun _ => (He5.valA fn, true)
  says := fun _ h => ∃ K : PySem.W.Frag, K.In h ∧ He5.SaysA fa fn K ∧ ex K = true
  of := fun _ _ e => ⟨_, He.frG_in, congrArg (fun z : AlY => z.1) e, congrArg (fun z : AlY => z.2) e⟩
  keeps := fun _ _ _ ⟨K, hK, c⟩ k => ⟨K, PySem.W.Frag.In.keeps hK k, c⟩
theorem obsY_eq {n : Nat} {fa : List He.Fa} {fn : List He5.DefA} {ex : PySem.W.Frag → Bool} {g : Addr → Option Obj} {s : Shared} (h : ∀ a, g a = s.heap.get? a) : obsY n fa fn ex g = (hookY n fa fn ex).obs s := by
  have e : g = s.heap.get? := funext h
  rw [e] <;> rfl
end Ax
end
section
set_option maxHeartbeats 4000000
namespace Ax
open PySem PySem.Spec PyProof.Rows L2
def top (i : Nat) : Stmt := PySem.Challenge.pw_askable_k01_tables.main.body.getD i (.Pass ⟨0, 0, 0, 0⟩)
abbrev s__wall : Stmt := top 0
abbrev n__wall : List Str := ["k"]
theorem sc__wall : FnScope n__wall ["k"] (defScope s__wall) := ⟨rfl, rfl, rfl, by decide +kernel, rfl, by decide +kernel, by decide +kernel⟩
abbrev s_is_integer : Stmt := top 10
abbrev n_is_integer : List Str := ["value"]
theorem sc_is_integer : FnScope n_is_integer ["value"] (defScope s_is_integer) := ⟨rfl, rfl, rfl, by decide +kernel, rfl, by decide +kernel, by decide +kernel⟩
abbrev s_is_between : Stmt := top 11
abbrev n_is_between : List Str := ["value", "least", "most"]
theorem sc_is_between : FnScope n_is_between ["value", "least", "most"] (defScope s_is_between) := ⟨rfl, rfl, rfl, by decide +kernel, rfl, by decide +kernel, by decide +kernel⟩
abbrev s_is_name : Stmt := top 12
abbrev n_is_name : List Str := ["value", "sign"]
theorem sc_is_name : FnScope n_is_name ["value"] (defScope s_is_name) := ⟨rfl, rfl, rfl, by decide +kernel, rfl, by decide +kernel, by decide +kernel⟩
abbrev s_is_row : Stmt := top 13
abbrev n_is_row : List Str := ["value", "name"]
theorem sc_is_row : FnScope n_is_row ["value"] (defScope s_is_row) := ⟨rfl, rfl, rfl, by decide +kernel, rfl, by decide +kernel, by decide +kernel⟩
abbrev s_require_columns : Stmt := top 14
abbrev n_require_columns : List Str := ["columns"]
theorem sc_require_columns : FnScope n_require_columns ["columns"] (defScope s_require_columns) := ⟨rfl, rfl, rfl, by decide +kernel, rfl, by decide +kernel, by decide +kernel⟩
abbrev s_table_in : Stmt := top 15
abbrev n_table_in : List Str := ["columns", "rows"]
theorem sc_table_in : FnScope n_table_in ["columns", "rows"] (defScope s_table_in) := ⟨rfl, rfl, rfl, by decide +kernel, rfl, by decide +kernel, by decide +kernel⟩
abbrev s__law_dice : Stmt := top 18
abbrev n__law_dice : List Str := ["script", "spot", "cell", "great", "blend"]
theorem sc__law_dice : FnScope n__law_dice ["script", "spot"] (defScope s__law_dice) := ⟨rfl, rfl, rfl, by decide +kernel, rfl, by decide +kernel, by decide +kernel⟩
abbrev s__law_roll : Stmt := top 19
abbrev n__law_roll : List Str := ["dice", "size", "found", "one", "two"]
theorem sc__law_roll : FnScope n__law_roll ["dice", "size"] (defScope s__law_roll) := ⟨rfl, rfl, rfl, by decide +kernel, rfl, by decide +kernel, by decide +kernel⟩
abbrev s__law_pick : Stmt := top 20
abbrev n__law_pick : List Str := ["dice", "items"]
theorem sc__law_pick : FnScope n__law_pick ["dice", "items"] (defScope s__law_pick) := ⟨rfl, rfl, rfl, by decide +kernel, rfl, by decide +kernel, by decide +kernel⟩
abbrev s__law_mixed : Stmt := top 21
abbrev n__law_mixed : List Str := ["dice", "items", "left", "found"]
theorem sc__law_mixed : FnScope n__law_mixed ["dice", "items"] (defScope s__law_mixed) := ⟨rfl, rfl, rfl, by decide +kernel, rfl, by decide +kernel, by decide +kernel⟩
abbrev s__law_some : Stmt := top 22
abbrev n__law_some : List Str := ["dice", "items", "few", "item"]
theorem sc__law_some : FnScope n__law_some ["dice", "items", "few"] (defScope s__law_some) := ⟨rfl, rfl, rfl, by decide +kernel, rfl, by decide +kernel, by decide +kernel⟩
abbrev s__law_drawn_rows : Stmt := top 23
abbrev n__law_drawn_rows : List Str := ["dice", "names", "columns", "found", "turn", "place"]
theorem sc__law_drawn_rows : FnScope n__law_drawn_rows ["dice", "names", "columns"] (defScope s__law_drawn_rows) := ⟨rfl, rfl, rfl, by decide +kernel, rfl, by decide +kernel, by decide +kernel⟩
abbrev s__law_domain : Stmt := top 24
abbrev n__law_domain : List Str := ["rows", "found", "row"]
theorem sc__law_domain : FnScope n__law_domain ["rows"] (defScope s__law_domain) := ⟨rfl, rfl, rfl, by decide +kernel, rfl, by decide +kernel, by decide +kernel⟩
abbrev s__law_odd_values : Stmt := top 25
abbrev n__law_odd_values : List Str := ["found"]
theorem sc__law_odd_values : FnScope n__law_odd_values [] (defScope s__law_odd_values) := ⟨rfl, rfl, rfl, by decide +kernel, rfl, by decide +kernel, by decide +kernel⟩
abbrev s__law_told : Stmt := top 26
abbrev n__law_told : List Str := ["made", "told", "row"]
theorem sc__law_told : FnScope n__law_told ["made"] (defScope s__law_told) := ⟨rfl, rfl, rfl, by decide +kernel, rfl, by decide +kernel, by decide +kernel⟩
abbrev s__law_is_told : Stmt := top 27
abbrev n__law_is_told : List Str := ["made", "columns", "rows", "due", "text", "value"]
theorem sc__law_is_told : FnScope n__law_is_told ["made", "columns", "rows"] (defScope s__law_is_told) := ⟨rfl, rfl, rfl, by decide +kernel, rfl, by decide +kernel, by decide +kernel⟩
abbrev s__law_both_right : Stmt := top 28
abbrev n__law_both_right : List Str := ["columns", "rows", "others", "one", "two", "before", "due", "told", "row"]
theorem sc__law_both_right : FnScope n__law_both_right ["columns", "rows", "others"] (defScope s__law_both_right) := ⟨rfl, rfl, rfl, by decide +kernel, rfl, by decide +kernel, by decide +kernel⟩
abbrev s__law_others_right : Stmt := top 29
abbrev n__law_others_right : List Str := ["columns", "rows", "made", "bare", "value", "number"]
theorem sc__law_others_right : FnScope n__law_others_right ["columns", "rows"] (defScope s__law_others_right) := ⟨rfl, rfl, rfl, by decide +kernel, rfl, by decide +kernel, by decide +kernel⟩
abbrev s__law_right : Stmt := top 30
abbrev n__law_right : List Str := ["dice", "columns", "names", "rows", "others", "made"]
theorem sc__law_right : FnScope n__law_right ["dice"] (defScope s__law_right) := ⟨rfl, rfl, rfl, by decide +kernel, rfl, by decide +kernel, by decide +kernel⟩
abbrev s_law : Stmt := top 31
abbrev n_law : List Str := ["script", "spot", "dice", "turn", "edge", "told"]
theorem sc_law : FnScope n_law ["script"] (defScope s_law) := ⟨rfl, rfl, rfl, by decide +kernel, rfl, by decide +kernel, by decide +kernel⟩
def meth (s : Stmt) (j : Nat) : Stmt := match s with
  | .ClassDef _ _ _ b _ _ _ _ _ _ _ => b.getD j (.Pass ⟨0, 0, 0, 0⟩)
  | _ => .Pass ⟨0, 0, 0, 0⟩
abbrev s_Table___init__ : Stmt := meth (top 16) 0
abbrev n_Table___init__ : List Str := ["self", "columns", "rows", "row", "place"]
theorem sc_Table___init__ : FnScope n_Table___init__ ["self", "columns", "rows"] (defScope s_Table___init__) := ⟨rfl, rfl, rfl, by decide +kernel, rfl, by decide +kernel, by decide +kernel⟩
abbrev s_Table_of : Stmt := meth (top 16) 1
abbrev n_Table_of : List Str := ["cls", "columns", "rows"]
theorem sc_Table_of : FnScope n_Table_of ["cls", "columns", "rows"] (defScope s_Table_of) := ⟨rfl, rfl, rfl, by decide +kernel, rfl, by decide +kernel, by decide +kernel⟩
abbrev s_Table_columns : Stmt := meth (top 16) 2
abbrev n_Table_columns : List Str := ["self"]
theorem sc_Table_columns : FnScope n_Table_columns ["self"] (defScope s_Table_columns) := ⟨rfl, rfl, rfl, by decide +kernel, rfl, by decide +kernel, by decide +kernel⟩
abbrev s_Table_rows : Stmt := meth (top 16) 3
abbrev n_Table_rows : List Str := ["self"]
theorem sc_Table_rows : FnScope n_Table_rows ["self"] (defScope s_Table_rows) := ⟨rfl, rfl, rfl, by decide +kernel, rfl, by decide +kernel, by decide +kernel⟩
abbrev s_Table_domain : Stmt := meth (top 16) 4
abbrev n_Table_domain : List Str := ["self", "row", "name"]
theorem sc_Table_domain : FnScope n_Table_domain ["self"] (defScope s_Table_domain) := ⟨rfl, rfl, rfl, by decide +kernel, rfl, by decide +kernel, by decide +kernel⟩
abbrev s_Table_is_like : Stmt := meth (top 16) 5
abbrev n_Table_is_like : List Str := ["self", "value"]
theorem sc_Table_is_like : FnScope n_Table_is_like ["self", "value"] (defScope s_Table_is_like) := ⟨rfl, rfl, rfl, by decide +kernel, rfl, by decide +kernel, by decide +kernel⟩
abbrev s_Table_require_like : Stmt := meth (top 16) 6
abbrev n_Table_require_like : List Str := ["self", "other"]
theorem sc_Table_require_like : FnScope n_Table_require_like ["self", "other"] (defScope s_Table_require_like) := ⟨rfl, rfl, rfl, by decide +kernel, rfl, by decide +kernel, by decide +kernel⟩
abbrev s_Table_is_within : Stmt := meth (top 16) 7
abbrev n_Table_is_within : List Str := ["self", "value", "row"]
theorem sc_Table_is_within : FnScope n_Table_is_within ["self", "value"] (defScope s_Table_is_within) := ⟨rfl, rfl, rfl, by decide +kernel, rfl, by decide +kernel, by decide +kernel⟩
abbrev s_Table___or__ : Stmt := meth (top 16) 10
abbrev n_Table___or__ : List Str := ["self", "other"]
theorem sc_Table___or__ : FnScope n_Table___or__ ["self", "other"] (defScope s_Table___or__) := ⟨rfl, rfl, rfl, by decide +kernel, rfl, by decide +kernel, by decide +kernel⟩
abbrev s_Table___and__ : Stmt := meth (top 16) 11
abbrev n_Table___and__ : List Str := ["self", "other", "row"]
theorem sc_Table___and__ : FnScope n_Table___and__ ["self", "other"] (defScope s_Table___and__) := ⟨rfl, rfl, rfl, by decide +kernel, rfl, by decide +kernel, by decide +kernel⟩
abbrev s_Table___sub__ : Stmt := meth (top 16) 12
abbrev n_Table___sub__ : List Str := ["self", "other", "row"]
theorem sc_Table___sub__ : FnScope n_Table___sub__ ["self", "other"] (defScope s_Table___sub__) := ⟨rfl, rfl, rfl, by decide +kernel, rfl, by decide +kernel, by decide +kernel⟩
abbrev s_Table___contains__ : Stmt := meth (top 16) 13
abbrev n_Table___contains__ : List Str := ["self", "value"]
theorem sc_Table___contains__ : FnScope n_Table___contains__ ["self", "value"] (defScope s_Table___contains__) := ⟨rfl, rfl, rfl, by decide +kernel, rfl, by decide +kernel, by decide +kernel⟩
abbrev s_Table___iter__ : Stmt := meth (top 16) 14
abbrev n_Table___iter__ : List Str := ["self"]
theorem sc_Table___iter__ : FnScope n_Table___iter__ ["self"] (defScope s_Table___iter__) := ⟨rfl, rfl, rfl, by decide +kernel, rfl, by decide +kernel, by decide +kernel⟩
abbrev s_Table___len__ : Stmt := meth (top 16) 15
abbrev n_Table___len__ : List Str := ["self"]
theorem sc_Table___len__ : FnScope n_Table___len__ ["self"] (defScope s_Table___len__) := ⟨rfl, rfl, rfl, by decide +kernel, rfl, by decide +kernel, by decide +kernel⟩
abbrev s_Table___eq__ : Stmt := meth (top 16) 16
abbrev n_Table___eq__ : List Str := ["self", "other"]
theorem sc_Table___eq__ : FnScope n_Table___eq__ ["self", "other"] (defScope s_Table___eq__) := ⟨rfl, rfl, rfl, by decide +kernel, rfl, by decide +kernel, by decide +kernel⟩
abbrev s_Table___str__ : Stmt := meth (top 16) 17
abbrev n_Table___str__ : List Str := ["self"]
theorem sc_Table___str__ : FnScope n_Table___str__ ["self"] (defScope s_Table___str__) := ⟨rfl, rfl, rfl, by decide +kernel, rfl, by decide +kernel, by decide +kernel⟩
def exT (K : PySem.W.Frag) : Bool := true
/-- what the top has written -/
structure Txt (K : PySem.W.Frag) (mg : Str → Option Value) : Prop where
  f__wall : TxtF K mg "_wall" s__wall
  f_is_integer : TxtF K mg "is_integer" s_is_integer
  f_is_between : TxtF K mg "is_between" s_is_between
  f_is_name : TxtF K mg "is_name" s_is_name
  f_is_row : TxtF K mg "is_row" s_is_row
  f_require_columns : TxtF K mg "require_columns" s_require_columns
  f_table_in : TxtF K mg "table_in" s_table_in
  f__law_dice : TxtF K mg "_law_dice" s__law_dice
  f__law_roll : TxtF K mg "_law_roll" s__law_roll
  f__law_pick : TxtF K mg "_law_pick" s__law_pick
  f__law_mixed : TxtF K mg "_law_mixed" s__law_mixed
  f__law_some : TxtF K mg "_law_some" s__law_some
  f__law_drawn_rows : TxtF K mg "_law_drawn_rows" s__law_drawn_rows
  f__law_domain : TxtF K mg "_law_domain" s__law_domain
  f__law_odd_values : TxtF K mg "_law_odd_values" s__law_odd_values
  f__law_told : TxtF K mg "_law_told" s__law_told
  f__law_is_told : TxtF K mg "_law_is_told" s__law_is_told
  f__law_both_right : TxtF K mg "_law_both_right" s__law_both_right
  f__law_others_right : TxtF K mg "_law_others_right" s__law_others_right
  f__law_right : TxtF K mg "_law_right" s__law_right
  f_law : TxtF K mg "law" s_law
  c_ALPHABET : ∃ u, mg "ALPHABET" = some u ∧ RelV (.str "abcdefghijklmnopqrstuvwxyz") u
  c_MAX_LETTERS : ∃ u, mg "MAX_LETTERS" = some u ∧ RelV (.int 8) u
  c_MAX_COLUMNS : ∃ u, mg "MAX_COLUMNS" = some u ∧ RelV (.int 3) u
  g_AskError : mg "AskError" = some (.ref (He.ga K "AskError"))
  g_InvalidTable : mg "InvalidTable" = some (.ref (He.ga K "InvalidTable"))
  g_InvalidOperation : mg "InvalidOperation" = some (.ref (He.ga K "InvalidOperation"))
  g_InvalidNumber : mg "InvalidNumber" = some (.ref (He.ga K "InvalidNumber"))
  g_Table : mg "Table" = some (.ref (He.ga K "Table"))
  f_Table___init__ : ∃ fd, FunD K "__init__" "Table.__init__" (defArgs s_Table___init__) (defBody s_Table___init__) (defScope s_Table___init__) [] [] (He.ma K (He.ga K "Table") "__init__") fd
  m_Table___init__ : Meth K (He.ga K "Table") "__init__" (He.ma K (He.ga K "Table") "__init__")
  f_Table_of : ∃ fd, FunD K "of" "Table.of" (defArgs s_Table_of) (defBody s_Table_of) (defScope s_Table_of) [] [] (He5.wf K (He.ga K "Table") "classmethod" "of") fd
  f_Table_columns : ∃ fd, FunD K "columns" "Table.columns" (defArgs s_Table_columns) (defBody s_Table_columns) (defScope s_Table_columns) [] [] (He5.wf K (He.ga K "Table") "property" "columns") fd
  f_Table_rows : ∃ fd, FunD K "rows" "Table.rows" (defArgs s_Table_rows) (defBody s_Table_rows) (defScope s_Table_rows) [] [] (He5.wf K (He.ga K "Table") "property" "rows") fd
  f_Table_domain : ∃ fd, FunD K "domain" "Table.domain" (defArgs s_Table_domain) (defBody s_Table_domain) (defScope s_Table_domain) [] [] (He5.wf K (He.ga K "Table") "property" "domain") fd
  f_Table_is_like : ∃ fd, FunD K "is_like" "Table.is_like" (defArgs s_Table_is_like) (defBody s_Table_is_like) (defScope s_Table_is_like) [] [] (He.ma K (He.ga K "Table") "is_like") fd
  m_Table_is_like : Meth K (He.ga K "Table") "is_like" (He.ma K (He.ga K "Table") "is_like")
  f_Table_require_like : ∃ fd, FunD K "require_like" "Table.require_like" (defArgs s_Table_require_like) (defBody s_Table_require_like) (defScope s_Table_require_like) [] [] (He.ma K (He.ga K "Table") "require_like") fd
  m_Table_require_like : Meth K (He.ga K "Table") "require_like" (He.ma K (He.ga K "Table") "require_like")
  f_Table_is_within : ∃ fd, FunD K "is_within" "Table.is_within" (defArgs s_Table_is_within) (defBody s_Table_is_within) (defScope s_Table_is_within) [] [] (He.ma K (He.ga K "Table") "is_within") fd
  m_Table_is_within : Meth K (He.ga K "Table") "is_within" (He.ma K (He.ga K "Table") "is_within")
  f_Table___or__ : ∃ fd, FunD K "__or__" "Table.__or__" (defArgs s_Table___or__) (defBody s_Table___or__) (defScope s_Table___or__) [] [] (He.ma K (He.ga K "Table") "__or__") fd
  m_Table___or__ : Meth K (He.ga K "Table") "__or__" (He.ma K (He.ga K "Table") "__or__")
  f_Table___and__ : ∃ fd, FunD K "__and__" "Table.__and__" (defArgs s_Table___and__) (defBody s_Table___and__) (defScope s_Table___and__) [] [] (He.ma K (He.ga K "Table") "__and__") fd
  m_Table___and__ : Meth K (He.ga K "Table") "__and__" (He.ma K (He.ga K "Table") "__and__")
  f_Table___sub__ : ∃ fd, FunD K "__sub__" "Table.__sub__" (defArgs s_Table___sub__) (defBody s_Table___sub__) (defScope s_Table___sub__) [] [] (He.ma K (He.ga K "Table") "__sub__") fd
  m_Table___sub__ : Meth K (He.ga K "Table") "__sub__" (He.ma K (He.ga K "Table") "__sub__")
  f_Table___contains__ : ∃ fd, FunD K "__contains__" "Table.__contains__" (defArgs s_Table___contains__) (defBody s_Table___contains__) (defScope s_Table___contains__) [] [] (He.ma K (He.ga K "Table") "__contains__") fd
  m_Table___contains__ : Meth K (He.ga K "Table") "__contains__" (He.ma K (He.ga K "Table") "__contains__")
  f_Table___iter__ : ∃ fd, FunD K "__iter__" "Table.__iter__" (defArgs s_Table___iter__) (defBody s_Table___iter__) (defScope s_Table___iter__) [] [] (He.ma K (He.ga K "Table") "__iter__") fd
  m_Table___iter__ : Meth K (He.ga K "Table") "__iter__" (He.ma K (He.ga K "Table") "__iter__")
  f_Table___len__ : ∃ fd, FunD K "__len__" "Table.__len__" (defArgs s_Table___len__) (defBody s_Table___len__) (defScope s_Table___len__) [] [] (He.ma K (He.ga K "Table") "__len__") fd
  m_Table___len__ : Meth K (He.ga K "Table") "__len__" (He.ma K (He.ga K "Table") "__len__")
  f_Table___eq__ : ∃ fd, FunD K "__eq__" "Table.__eq__" (defArgs s_Table___eq__) (defBody s_Table___eq__) (defScope s_Table___eq__) [] [] (He.ma K (He.ga K "Table") "__eq__") fd
  m_Table___eq__ : Meth K (He.ga K "Table") "__eq__" (He.ma K (He.ga K "Table") "__eq__")
  f_Table___str__ : ∃ fd, FunD K "__str__" "Table.__str__" (defArgs s_Table___str__) (defBody s_Table___str__) (defScope s_Table___str__) [] [] (He.ma K (He.ga K "Table") "__str__") fd
  m_Table___str__ : Meth K (He.ga K "Table") "__str__" (He.ma K (He.ga K "Table") "__str__")
  k_Table : Mk K (He.ga K "Table") (He.ma K (He.ga K "Table") "__init__")
  a_Table_own_columns : NoAttr K (He.ga K "Table") "own_columns"
  a_Table_own_rows : NoAttr K (He.ga K "Table") "own_rows"
  a_Table_own_places : NoAttr K (He.ga K "Table") "own_places"
  kc_Table : KC K (He.ga K "Table")
  cr_Table : ClX.CRead K (He.ga K "Table") (.type "type")
  cm_Table_of : ClX.CMet K (He.ga K "Table") (.type "type") "of" (He.ma K (He.ga K "Table") "of") (He5.wf K (He.ga K "Table") "classmethod" "of")
  p_Table_columns : PropOf K (He.ga K "Table") "columns" (He.ma K (He.ga K "Table") "columns") (He5.wf K (He.ga K "Table") "property" "columns")
  p_Table_rows : PropOf K (He.ga K "Table") "rows" (He.ma K (He.ga K "Table") "rows") (He5.wf K (He.ga K "Table") "property" "rows")
  p_Table_domain : PropOf K (He.ga K "Table") "domain" (He.ma K (He.ga K "Table") "domain") (He5.wf K (He.ga K "Table") "property" "domain")
  i_Table_Table : PySem.W.kitOne K (.ref (He.ga K "Table")) (.ref (He.ga K "Table")) = some true
  i_NoneType_Table : PySem.W.kitOne K (.type "NoneType") (.ref (He.ga K "Table")) = some false
  i_bool_Table : PySem.W.kitOne K (.type "bool") (.ref (He.ga K "Table")) = some false
  i_int_Table : PySem.W.kitOne K (.type "int") (.ref (He.ga K "Table")) = some false
  i_str_Table : PySem.W.kitOne K (.type "str") (.ref (He.ga K "Table")) = some false
  i_list_Table : PySem.W.kitOne K (.type "list") (.ref (He.ga K "Table")) = some false
  i_tuple_Table : PySem.W.kitOne K (.type "tuple") (.ref (He.ga K "Table")) = some false
  i_dict_Table : PySem.W.kitOne K (.type "dict") (.ref (He.ga K "Table")) = some false
  b_Table___ne__ : PySem.W.findIn K (.ref (He.ga K "Table")) "__ne__" = some (some (.builtin "object.__ne__"))
  nb_Table : PySem.W.findIn K (.ref (He.ga K "Table")) "__bool__" = some none
  sf_Table : PySem.W.selfFirst K (He.ga K "Table") = true
  nf_Table : (["NoneType", "bool", "int", "str", "list", "tuple", "dict"] : List String).all (fun t => PySem.W.notFirst K (He.ga K "Table") (.type t)) = true
  z_IndexError : mg "IndexError" = none
  z_ValueError : mg "ValueError" = none
  z_abs : mg "abs" = none
  z_all : mg "all" = none
  z_bool : mg "bool" = none
  z_classmethod : mg "classmethod" = none
  z_enumerate : mg "enumerate" = none
  z_int : mg "int" = none
  z_isinstance : mg "isinstance" = none
  z_iter : mg "iter" = none
  z_len : mg "len" = none
  z_list : mg "list" = none
  z_max : mg "max" = none
  z_min : mg "min" = none
  z_property : mg "property" = none
  z_range : mg "range" = none
  z_repr : mg "repr" = none
  z_set : mg "set" = none
  z_sorted : mg "sorted" = none
  z_str : mg "str" = none
  z_tuple : mg "tuple" = none
  e_AskError : ErrC K mg "AskError" (He.ga K "AskError")
  e_InvalidTable : ErrC K mg "InvalidTable" (He.ga K "InvalidTable")
  e_InvalidOperation : ErrC K mg "InvalidOperation" (He.ga K "InvalidOperation")
end Ax
end
section
set_option maxHeartbeats 0
namespace Ax
open PySem PySem.Spec PyProof.Rows L2
def fnL : List He5.DefA := [⟨fun K => He.fAd K ("_wall", none), "_wall", "_wall", defArgs s__wall, defBody s__wall, defScope s__wall, [], []⟩, ⟨fun K => He.fAd K ("is_integer", none), "is_integer", "is_integer", defArgs s_is_integer, defBody s_is_integer, defScope s_is_integer, [], []⟩, ⟨fun K => He.fAd K ("is_between", none), "is_between", "is_between", defArgs s_is_between, defBody s_is_between, defScope s_is_between, [], []⟩, ⟨fun K => He.fAd K ("is_name", none), "is_name", "is_name", defArgs s_is_name, defBody s_is_name, defScope s_is_name, [], []⟩, ⟨fun K => He.fAd K ("is_row", none), "is_row", "is_row", defArgs s_is_row, defBody s_is_row, defScope s_is_row, [], []⟩, ⟨fun K => He.fAd K ("require_columns", none), "require_columns", "require_columns", defArgs s_require_columns, defBody s_require_columns, defScope s_require_columns, [], []⟩, ⟨fun K => He.fAd K ("table_in", none), "table_in", "table_in", defArgs s_table_in, defBody s_table_in, defScope s_table_in, [], []⟩, ⟨fun K => He.fAd K ("_law_dice", none), "_law_dice", "_law_dice", defArgs s__law_dice, defBody s__law_dice, defScope s__law_dice, [], []⟩, ⟨fun K => He.fAd K ("_law_roll", none), "_law_roll", "_law_roll", defArgs s__law_roll, defBody s__law_roll, defScope s__law_roll, [], []⟩, ⟨fun K => He.fAd K ("_law_pick", none), "_law_pick", "_law_pick", defArgs s__law_pick, defBody s__law_pick, defScope s__law_pick, [], []⟩, ⟨fun K => He.fAd K ("_law_mixed", none), "_law_mixed", "_law_mixed", defArgs s__law_mixed, defBody s__law_mixed, defScope s__law_mixed, [], []⟩, ⟨fun K => He.fAd K ("_law_some", none), "_law_some", "_law_some", defArgs s__law_some, defBody s__law_some, defScope s__law_some, [], []⟩, ⟨fun K => He.fAd K ("_law_drawn_rows", none), "_law_drawn_rows", "_law_drawn_rows", defArgs s__law_drawn_rows, defBody s__law_drawn_rows, defScope s__law_drawn_rows, [], []⟩, ⟨fun K => He.fAd K ("_law_domain", none), "_law_domain", "_law_domain", defArgs s__law_domain, defBody s__law_domain, defScope s__law_domain, [], []⟩, ⟨fun K => He.fAd K ("_law_odd_values", none), "_law_odd_values", "_law_odd_values", defArgs s__law_odd_values, defBody s__law_odd_values, defScope s__law_odd_values, [], []⟩, ⟨fun K => He.fAd K ("_law_told", none), "_law_told", "_law_told", defArgs s__law_told, defBody s__law_told, defScope s__law_told, [], []⟩, ⟨fun K => He.fAd K ("_law_is_told", none), "_law_is_told", "_law_is_told", defArgs s__law_is_told, defBody s__law_is_told, defScope s__law_is_told, [], []⟩, ⟨fun K => He.fAd K ("_law_both_right", none), "_law_both_right", "_law_both_right", defArgs s__law_both_right, defBody s__law_both_right, defScope s__law_both_right, [], []⟩, ⟨fun K => He.fAd K ("_law_others_right", none), "_law_others_right", "_law_others_right", defArgs s__law_others_right, defBody s__law_others_right, defScope s__law_others_right, [], []⟩, ⟨fun K => He.fAd K ("_law_right", none), "_law_right", "_law_right", defArgs s__law_right, defBody s__law_right, defScope s__law_right, [], []⟩, ⟨fun K => He.fAd K ("law", none), "law", "law", defArgs s_law, defBody s_law, defScope s_law, [], []⟩, ⟨fun K => He.ma K (He.ga K "Table") "__init__", "__init__", "Table.__init__", defArgs s_Table___init__, defBody s_Table___init__, defScope s_Table___init__, [], []⟩, ⟨fun K => He5.wf K (He.ga K "Table") "classmethod" "of", "of", "Table.of", defArgs s_Table_of, defBody s_Table_of, defScope s_Table_of, [], []⟩, ⟨fun K => He5.wf K (He.ga K "Table") "property" "columns", "columns", "Table.columns", defArgs s_Table_columns, defBody s_Table_columns, defScope s_Table_columns, [], []⟩, ⟨fun K => He5.wf K (He.ga K "Table") "property" "rows", "rows", "Table.rows", defArgs s_Table_rows, defBody s_Table_rows, defScope s_Table_rows, [], []⟩, ⟨fun K => He5.wf K (He.ga K "Table") "property" "domain", "domain", "Table.domain", defArgs s_Table_domain, defBody s_Table_domain, defScope s_Table_domain, [], []⟩, ⟨fun K => He.ma K (He.ga K "Table") "is_like", "is_like", "Table.is_like", defArgs s_Table_is_like, defBody s_Table_is_like, defScope s_Table_is_like, [], []⟩, ⟨fun K => He.ma K (He.ga K "Table") "require_like", "require_like", "Table.require_like", defArgs s_Table_require_like, defBody s_Table_require_like, defScope s_Table_require_like, [], []⟩, ⟨fun K => He.ma K (He.ga K "Table") "is_within", "is_within", "Table.is_within", defArgs s_Table_is_within, defBody s_Table_is_within, defScope s_Table_is_within, [], []⟩, ⟨fun K => He.ma K (He.ga K "Table") "__or__", "__or__", "Table.__or__", defArgs s_Table___or__, defBody s_Table___or__, defScope s_Table___or__, [], []⟩, ⟨fun K => He.ma K (He.ga K "Table") "__and__", "__and__", "Table.__and__", defArgs s_Table___and__, defBody s_Table___and__, defScope s_Table___and__, [], []⟩, ⟨fun K => He.ma K (He.ga K "Table") "__sub__", "__sub__", "Table.__sub__", defArgs s_Table___sub__, defBody s_Table___sub__, defScope s_Table___sub__, [], []⟩, ⟨fun K => He.ma K (He.ga K "Table") "__contains__", "__contains__", "Table.__contains__", defArgs s_Table___contains__, defBody s_Table___contains__, defScope s_Table___contains__, [], []⟩, ⟨fun K => He.ma K (He.ga K "Table") "__iter__", "__iter__", "Table.__iter__", defArgs s_Table___iter__, defBody s_Table___iter__, defScope s_Table___iter__, [], []⟩, ⟨fun K => He.ma K (He.ga K "Table") "__len__", "__len__", "Table.__len__", defArgs s_Table___len__, defBody s_Table___len__, defScope s_Table___len__, [], []⟩, ⟨fun K => He.ma K (He.ga K "Table") "__eq__", "__eq__", "Table.__eq__", defArgs s_Table___eq__, defBody s_Table___eq__, defScope s_Table___eq__, [], []⟩, ⟨fun K => He.ma K (He.ga K "Table") "__str__", "__str__", "Table.__str__", defArgs s_Table___str__, defBody s_Table___str__, defScope s_Table___str__, [], []⟩]
def faL : List He.Fa := [.glo "_wall", .glo "is_integer", .glo "is_between", .glo "is_name", .glo "is_row", .glo "require_columns", .glo "table_in", .glo "_law_dice", .glo "_law_roll", .glo "_law_pick", .glo "_law_mixed", .glo "_law_some", .glo "_law_drawn_rows", .glo "_law_domain", .glo "_law_odd_values", .glo "_law_told", .glo "_law_is_told", .glo "_law_both_right", .glo "_law_others_right", .glo "_law_right", .glo "law", .str "ALPHABET" "abcdefghijklmnopqrstuvwxyz", .int "MAX_LETTERS" 8, .int "MAX_COLUMNS" 3, .glo "AskError", .glo "InvalidTable", .glo "InvalidOperation", .glo "InvalidNumber", .glo "Table", .meth "Table" "__init__", .meth "Table" "is_like", .meth "Table" "require_like", .meth "Table" "is_within", .meth "Table" "__or__", .meth "Table" "__and__", .meth "Table" "__sub__", .meth "Table" "__contains__", .meth "Table" "__iter__", .meth "Table" "__len__", .meth "Table" "__eq__", .meth "Table" "__str__", .mkr "Table", .noat "Table" "own_columns", .noat "Table" "own_rows", .noat "Table" "own_places", .free "IndexError", .free "ValueError", .free "abs", .free "all", .free "bool", .free "classmethod", .free "enumerate", .free "int", .free "isinstance", .free "iter", .free "len", .free "list", .free "max", .free "min", .free "property", .free "range", .free "repr", .free "set", .free "sorted", .free "str", .free "tuple", .exc "AskError", .exc "InvalidTable", .exc "InvalidOperation"]
def loose0 : List PySem.Str := (["_wall", "__name__", "AskError", "InvalidTable", "InvalidOperation", "InvalidNumber", "ALPHABET", "MAX_LETTERS", "MAX_COLUMNS", "is_integer", "is_between", "is_name", "is_row", "require_columns", "table_in", "Table", "_law_dice", "_law_roll", "_law_pick", "_law_mixed", "_law_some", "_law_drawn_rows", "_law_domain", "_law_odd_values", "_law_told", "_law_is_told", "_law_both_right", "_law_others_right", "_law_right"] : List String).map Str.ofString
def loose : List PySem.Str := loose0
abbrev R : PySem.W.OpenRow := PySem.W.OpenLaw.row PySem.Challenge.rw_askable_k01_tables
def exV (K : PySem.W.Frag) : Bool := kcB K (He.ga K "Table") && (crB K (He.ga K "Table") && (cmB K (He.ga K "Table") "of" && (prB K (He.ga K "Table") "columns" && (prB K (He.ga K "Table") "rows" && (prB K (He.ga K "Table") "domain" && (kitB2 K (.ref (He.ga K "Table")) (.ref (He.ga K "Table")) true && (kitB2 K (.type "NoneType") (.ref (He.ga K "Table")) false && (kitB2 K (.type "bool") (.ref (He.ga K "Table")) false && (kitB2 K (.type "int") (.ref (He.ga K "Table")) false && (kitB2 K (.type "str") (.ref (He.ga K "Table")) false && (kitB2 K (.type "list") (.ref (He.ga K "Table")) false && (kitB2 K (.type "tuple") (.ref (He.ga K "Table")) false && (kitB2 K (.type "dict") (.ref (He.ga K "Table")) false && (decide (PySem.W.findIn K (.ref (He.ga K "Table")) "__ne__" = some (some (.builtin "object.__ne__"))) && (decide (PySem.W.findIn K (.ref (He.ga K "Table")) "__bool__" = some none) && (decide (PySem.W.selfFirst K (He.ga K "Table") = true) && (decide ((["NoneType", "bool", "int", "str", "list", "tuple", "dict"] : List String).all (fun t => PySem.W.notFirst K (He.ga K "Table") (.type t)) = true) && (true))))))))))))))))))
def exA (K : PySem.W.Frag) : Bool := exT K && exV K
abbrev hk : PySem.W.Hook := hookY 6 faL fnL exA
def ob (s : PySem.W.SharedT) : AlY := obsY 6 faL fnL exA (HandSHeadRun.getT s)
theorem ob_eq (s : PySem.W.SharedT) : ob s = hk.obs s.abs := obsY_eq (HandSHeadRun.getT_eq s)
theorem run (w : World) : HandSHeadRun.RunEq R (PySem.W.view R.prog [31]) hk ob 9000 loose w := by
  intro os
  kernel_rfl
theorem txt_of {K : PySem.W.Frag} {h : Heap} {mg : Str → Option Value} (X : K.In h) (G : h.Ns mainGlobals mg) (c : He5.SaysA faL fnL K) (ex : exT K = true) (ev : exV K = true) : Txt K mg where
  f__wall := txtF_of (c.def_ 0) (He.glo_ok X G (c.fact 0 (f := .glo "_wall") rfl))
  f_is_integer := txtF_of (c.def_ 1) (He.glo_ok X G (c.fact 1 (f := .glo "is_integer") rfl))
  f_is_between := txtF_of (c.def_ 2) (He.glo_ok X G (c.fact 2 (f := .glo "is_between") rfl))
  f_is_name := txtF_of (c.def_ 3) (He.glo_ok X G (c.fact 3 (f := .glo "is_name") rfl))
  f_is_row := txtF_of (c.def_ 4) (He.glo_ok X G (c.fact 4 (f := .glo "is_row") rfl))
  f_require_columns := txtF_of (c.def_ 5) (He.glo_ok X G (c.fact 5 (f := .glo "require_columns") rfl))
  f_table_in := txtF_of (c.def_ 6) (He.glo_ok X G (c.fact 6 (f := .glo "table_in") rfl))
  f__law_dice := txtF_of (c.def_ 7) (He.glo_ok X G (c.fact 7 (f := .glo "_law_dice") rfl))
  f__law_roll := txtF_of (c.def_ 8) (He.glo_ok X G (c.fact 8 (f := .glo "_law_roll") rfl))
  f__law_pick := txtF_of (c.def_ 9) (He.glo_ok X G (c.fact 9 (f := .glo "_law_pick") rfl))
  f__law_mixed := txtF_of (c.def_ 10) (He.glo_ok X G (c.fact 10 (f := .glo "_law_mixed") rfl))
  f__law_some := txtF_of (c.def_ 11) (He.glo_ok X G (c.fact 11 (f := .glo "_law_some") rfl))
  f__law_drawn_rows := txtF_of (c.def_ 12) (He.glo_ok X G (c.fact 12 (f := .glo "_law_drawn_rows") rfl))
  f__law_domain := txtF_of (c.def_ 13) (He.glo_ok X G (c.fact 13 (f := .glo "_law_domain") rfl))
  f__law_odd_values := txtF_of (c.def_ 14) (He.glo_ok X G (c.fact 14 (f := .glo "_law_odd_values") rfl))
  f__law_told := txtF_of (c.def_ 15) (He.glo_ok X G (c.fact 15 (f := .glo "_law_told") rfl))
  f__law_is_told := txtF_of (c.def_ 16) (He.glo_ok X G (c.fact 16 (f := .glo "_law_is_told") rfl))
  f__law_both_right := txtF_of (c.def_ 17) (He.glo_ok X G (c.fact 17 (f := .glo "_law_both_right") rfl))
  f__law_others_right := txtF_of (c.def_ 18) (He.glo_ok X G (c.fact 18 (f := .glo "_law_others_right") rfl))
  f__law_right := txtF_of (c.def_ 19) (He.glo_ok X G (c.fact 19 (f := .glo "_law_right") rfl))
  f_law := txtF_of (c.def_ 20) (He.glo_ok X G (c.fact 20 (f := .glo "law") rfl))
  c_ALPHABET := cS_of (He.str_ok X G (c.fact 21 (f := .str "ALPHABET" "abcdefghijklmnopqrstuvwxyz") rfl))
  c_MAX_LETTERS := cI_of (He.int_ok X G (c.fact 22 (f := .int "MAX_LETTERS" 8) rfl))
  c_MAX_COLUMNS := cI_of (He.int_ok X G (c.fact 23 (f := .int "MAX_COLUMNS" 3) rfl))
  g_AskError := He.glo_ok X G (c.fact 24 (f := .glo "AskError") rfl)
  g_InvalidTable := He.glo_ok X G (c.fact 25 (f := .glo "InvalidTable") rfl)
  g_InvalidOperation := He.glo_ok X G (c.fact 26 (f := .glo "InvalidOperation") rfl)
  g_InvalidNumber := He.glo_ok X G (c.fact 27 (f := .glo "InvalidNumber") rfl)
  g_Table := He.glo_ok X G (c.fact 28 (f := .glo "Table") rfl)
  f_Table___init__ := c.def_ 21
  m_Table___init__ := He.meth_ok (c.fact 29 (f := .meth "Table" "__init__") rfl)
  f_Table_of := c.def_ 22
  f_Table_columns := c.def_ 23
  f_Table_rows := c.def_ 24
  f_Table_domain := c.def_ 25
  f_Table_is_like := c.def_ 26
  m_Table_is_like := He.meth_ok (c.fact 30 (f := .meth "Table" "is_like") rfl)
  f_Table_require_like := c.def_ 27
  m_Table_require_like := He.meth_ok (c.fact 31 (f := .meth "Table" "require_like") rfl)
  f_Table_is_within := c.def_ 28
  m_Table_is_within := He.meth_ok (c.fact 32 (f := .meth "Table" "is_within") rfl)
  f_Table___or__ := c.def_ 29
  m_Table___or__ := He.meth_ok (c.fact 33 (f := .meth "Table" "__or__") rfl)
  f_Table___and__ := c.def_ 30
  m_Table___and__ := He.meth_ok (c.fact 34 (f := .meth "Table" "__and__") rfl)
  f_Table___sub__ := c.def_ 31
  m_Table___sub__ := He.meth_ok (c.fact 35 (f := .meth "Table" "__sub__") rfl)
  f_Table___contains__ := c.def_ 32
  m_Table___contains__ := He.meth_ok (c.fact 36 (f := .meth "Table" "__contains__") rfl)
  f_Table___iter__ := c.def_ 33
  m_Table___iter__ := He.meth_ok (c.fact 37 (f := .meth "Table" "__iter__") rfl)
  f_Table___len__ := c.def_ 34
  m_Table___len__ := He.meth_ok (c.fact 38 (f := .meth "Table" "__len__") rfl)
  f_Table___eq__ := c.def_ 35
  m_Table___eq__ := He.meth_ok (c.fact 39 (f := .meth "Table" "__eq__") rfl)
  f_Table___str__ := c.def_ 36
  m_Table___str__ := He.meth_ok (c.fact 40 (f := .meth "Table" "__str__") rfl)
  k_Table := He.mkr_ok (c.fact 41 (f := .mkr "Table") rfl)
  a_Table_own_columns := He.noat_ok (c.fact 42 (f := .noat "Table" "own_columns") rfl)
  a_Table_own_rows := He.noat_ok (c.fact 43 (f := .noat "Table" "own_rows") rfl)
  a_Table_own_places := He.noat_ok (c.fact 44 (f := .noat "Table" "own_places") rfl)
  kc_Table := kcB_ok (Bool.and_eq_true_iff.mp (ev)).1
  cr_Table := crB_ok (Bool.and_eq_true_iff.mp ((Bool.and_eq_true_iff.mp (ev)).2)).1
  cm_Table_of := cmB_ok (Bool.and_eq_true_iff.mp ((Bool.and_eq_true_iff.mp ((Bool.and_eq_true_iff.mp (ev)).2)).2)).1
  p_Table_columns := prB_ok (Bool.and_eq_true_iff.mp ((Bool.and_eq_true_iff.mp ((Bool.and_eq_true_iff.mp ((Bool.and_eq_true_iff.mp (ev)).2)).2)).2)).1
  p_Table_rows := prB_ok (Bool.and_eq_true_iff.mp ((Bool.and_eq_true_iff.mp ((Bool.and_eq_true_iff.mp ((Bool.and_eq_true_iff.mp ((Bool.and_eq_true_iff.mp (ev)).2)).2)).2)).2)).1
  p_Table_domain := prB_ok (Bool.and_eq_true_iff.mp ((Bool.and_eq_true_iff.mp ((Bool.and_eq_true_iff.mp ((Bool.and_eq_true_iff.mp ((Bool.and_eq_true_iff.mp ((Bool.and_eq_true_iff.mp (ev)).2)).2)).2)).2)).2)).1
  i_Table_Table := kitB2_ok (Bool.and_eq_true_iff.mp ((Bool.and_eq_true_iff.mp ((Bool.and_eq_true_iff.mp ((Bool.and_eq_true_iff.mp ((Bool.and_eq_true_iff.mp ((Bool.and_eq_true_iff.mp ((Bool.and_eq_true_iff.mp (ev)).2)).2)).2)).2)).2)).2)).1
  i_NoneType_Table := kitB2_ok (Bool.and_eq_true_iff.mp ((Bool.and_eq_true_iff.mp ((Bool.and_eq_true_iff.mp ((Bool.and_eq_true_iff.mp ((Bool.and_eq_true_iff.mp ((Bool.and_eq_true_iff.mp ((Bool.and_eq_true_iff.mp ((Bool.and_eq_true_iff.mp (ev)).2)).2)).2)).2)).2)).2)).2)).1
  i_bool_Table := kitB2_ok (Bool.and_eq_true_iff.mp ((Bool.and_eq_true_iff.mp ((Bool.and_eq_true_iff.mp ((Bool.and_eq_true_iff.mp ((Bool.and_eq_true_iff.mp ((Bool.and_eq_true_iff.mp ((Bool.and_eq_true_iff.mp ((Bool.and_eq_true_iff.mp ((Bool.and_eq_true_iff.mp (ev)).2)).2)).2)).2)).2)).2)).2)).2)).1
  i_int_Table := kitB2_ok (Bool.and_eq_true_iff.mp ((Bool.and_eq_true_iff.mp ((Bool.and_eq_true_iff.mp ((Bool.and_eq_true_iff.mp ((Bool.and_eq_true_iff.mp ((Bool.and_eq_true_iff.mp ((Bool.and_eq_true_iff.mp ((Bool.and_eq_true_iff.mp ((Bool.and_eq_true_iff.mp ((Bool.and_eq_true_iff.mp (ev)).2)).2)).2)).2)).2)).2)).2)).2)).2)).1
  i_str_Table := kitB2_ok (Bool.and_eq_true_iff.mp ((Bool.and_eq_true_iff.mp ((Bool.and_eq_true_iff.mp ((Bool.and_eq_true_iff.mp ((Bool.and_eq_true_iff.mp ((Bool.and_eq_true_iff.mp ((Bool.and_eq_true_iff.mp ((Bool.and_eq_true_iff.mp ((Bool.and_eq_true_iff.mp ((Bool.and_eq_true_iff.mp ((Bool.and_eq_true_iff.mp (ev)).2)).2)).2)).2)).2)).2)).2)).2)).2)).2)).1
  i_list_Table := kitB2_ok (Bool.and_eq_true_iff.mp ((Bool.and_eq_true_iff.mp ((Bool.and_eq_true_iff.mp ((Bool.and_eq_true_iff.mp ((Bool.and_eq_true_iff.mp ((Bool.and_eq_true_iff.mp ((Bool.and_eq_true_iff.mp ((Bool.and_eq_true_iff.mp ((Bool.and_eq_true_iff.mp ((Bool.and_eq_true_iff.mp ((Bool.and_eq_true_iff.mp ((Bool.and_eq_true_iff.mp (ev)).2)).2)).2)).2)).2)).2)).2)).2)).2)).2)).2)).1
  i_tuple_Table := kitB2_ok (Bool.and_eq_true_iff.mp ((Bool.and_eq_true_iff.mp ((Bool.and_eq_true_iff.mp ((Bool.and_eq_true_iff.mp ((Bool.and_eq_true_iff.mp ((Bool.and_eq_true_iff.mp ((Bool.and_eq_true_iff.mp ((Bool.and_eq_true_iff.mp ((Bool.and_eq_true_iff.mp ((Bool.and_eq_true_iff.mp ((Bool.and_eq_true_iff.mp ((Bool.and_eq_true_iff.mp ((Bool.and_eq_true_iff.mp (ev)).2)).2)).2)).2)).2)).2)).2)).2)).2)).2)).2)).2)).1
  i_dict_Table := kitB2_ok (Bool.and_eq_true_iff.mp ((Bool.and_eq_true_iff.mp ((Bool.and_eq_true_iff.mp ((Bool.and_eq_true_iff.mp ((Bool.and_eq_true_iff.mp ((Bool.and_eq_true_iff.mp ((Bool.and_eq_true_iff.mp ((Bool.and_eq_true_iff.mp ((Bool.and_eq_true_iff.mp ((Bool.and_eq_true_iff.mp ((Bool.and_eq_true_iff.mp ((Bool.and_eq_true_iff.mp ((Bool.and_eq_true_iff.mp ((Bool.and_eq_true_iff.mp (ev)).2)).2)).2)).2)).2)).2)).2)).2)).2)).2)).2)).2)).2)).1
  b_Table___ne__ := of_decide_eq_true (Bool.and_eq_true_iff.mp ((Bool.and_eq_true_iff.mp ((Bool.and_eq_true_iff.mp ((Bool.and_eq_true_iff.mp ((Bool.and_eq_true_iff.mp ((Bool.and_eq_true_iff.mp ((Bool.and_eq_true_iff.mp ((Bool.and_eq_true_iff.mp ((Bool.and_eq_true_iff.mp ((Bool.and_eq_true_iff.mp ((Bool.and_eq_true_iff.mp ((Bool.and_eq_true_iff.mp ((Bool.and_eq_true_iff.mp ((Bool.and_eq_true_iff.mp ((Bool.and_eq_true_iff.mp (ev)).2)).2)).2)).2)).2)).2)).2)).2)).2)).2)).2)).2)).2)).2)).1
  nb_Table := of_decide_eq_true (Bool.and_eq_true_iff.mp ((Bool.and_eq_true_iff.mp ((Bool.and_eq_true_iff.mp ((Bool.and_eq_true_iff.mp ((Bool.and_eq_true_iff.mp ((Bool.and_eq_true_iff.mp ((Bool.and_eq_true_iff.mp ((Bool.and_eq_true_iff.mp ((Bool.and_eq_true_iff.mp ((Bool.and_eq_true_iff.mp ((Bool.and_eq_true_iff.mp ((Bool.and_eq_true_iff.mp ((Bool.and_eq_true_iff.mp ((Bool.and_eq_true_iff.mp ((Bool.and_eq_true_iff.mp ((Bool.and_eq_true_iff.mp (ev)).2)).2)).2)).2)).2)).2)).2)).2)).2)).2)).2)).2)).2)).2)).2)).1
  sf_Table := of_decide_eq_true (Bool.and_eq_true_iff.mp ((Bool.and_eq_true_iff.mp ((Bool.and_eq_true_iff.mp ((Bool.and_eq_true_iff.mp ((Bool.and_eq_true_iff.mp ((Bool.and_eq_true_iff.mp ((Bool.and_eq_true_iff.mp ((Bool.and_eq_true_iff.mp ((Bool.and_eq_true_iff.mp ((Bool.and_eq_true_iff.mp ((Bool.and_eq_true_iff.mp ((Bool.and_eq_true_iff.mp ((Bool.and_eq_true_iff.mp ((Bool.and_eq_true_iff.mp ((Bool.and_eq_true_iff.mp ((Bool.and_eq_true_iff.mp ((Bool.and_eq_true_iff.mp (ev)).2)).2)).2)).2)).2)).2)).2)).2)).2)).2)).2)).2)).2)).2)).2)).2)).1
  nf_Table := of_decide_eq_true (Bool.and_eq_true_iff.mp ((Bool.and_eq_true_iff.mp ((Bool.and_eq_true_iff.mp ((Bool.and_eq_true_iff.mp ((Bool.and_eq_true_iff.mp ((Bool.and_eq_true_iff.mp ((Bool.and_eq_true_iff.mp ((Bool.and_eq_true_iff.mp ((Bool.and_eq_true_iff.mp ((Bool.and_eq_true_iff.mp ((Bool.and_eq_true_iff.mp ((Bool.and_eq_true_iff.mp ((Bool.and_eq_true_iff.mp ((Bool.and_eq_true_iff.mp ((Bool.and_eq_true_iff.mp ((Bool.and_eq_true_iff.mp ((Bool.and_eq_true_iff.mp ((Bool.and_eq_true_iff.mp (ev)).2)).2)).2)).2)).2)).2)).2)).2)).2)).2)).2)).2)).2)).2)).2)).2)).2)).1
  z_IndexError := He.free_ok X G (c.fact 45 (f := .free "IndexError") rfl)
  z_ValueError := He.free_ok X G (c.fact 46 (f := .free "ValueError") rfl)
  z_abs := He.free_ok X G (c.fact 47 (f := .free "abs") rfl)
  z_all := He.free_ok X G (c.fact 48 (f := .free "all") rfl)
  z_bool := He.free_ok X G (c.fact 49 (f := .free "bool") rfl)
  z_classmethod := He.free_ok X G (c.fact 50 (f := .free "classmethod") rfl)
  z_enumerate := He.free_ok X G (c.fact 51 (f := .free "enumerate") rfl)
  z_int := He.free_ok X G (c.fact 52 (f := .free "int") rfl)
  z_isinstance := He.free_ok X G (c.fact 53 (f := .free "isinstance") rfl)
  z_iter := He.free_ok X G (c.fact 54 (f := .free "iter") rfl)
  z_len := He.free_ok X G (c.fact 55 (f := .free "len") rfl)
  z_list := He.free_ok X G (c.fact 56 (f := .free "list") rfl)
  z_max := He.free_ok X G (c.fact 57 (f := .free "max") rfl)
  z_min := He.free_ok X G (c.fact 58 (f := .free "min") rfl)
  z_property := He.free_ok X G (c.fact 59 (f := .free "property") rfl)
  z_range := He.free_ok X G (c.fact 60 (f := .free "range") rfl)
  z_repr := He.free_ok X G (c.fact 61 (f := .free "repr") rfl)
  z_set := He.free_ok X G (c.fact 62 (f := .free "set") rfl)
  z_sorted := He.free_ok X G (c.fact 63 (f := .free "sorted") rfl)
  z_str := He.free_ok X G (c.fact 64 (f := .free "str") rfl)
  z_tuple := He.free_ok X G (c.fact 65 (f := .free "tuple") rfl)
  e_AskError := errC_of X G (c.fact 24 (f := .glo "AskError") rfl) (c.fact 66 (f := .exc "AskError") rfl)
  e_InvalidTable := errC_of X G (c.fact 25 (f := .glo "InvalidTable") rfl) (c.fact 67 (f := .exc "InvalidTable") rfl)
  e_InvalidOperation := errC_of X G (c.fact 26 (f := .glo "InvalidOperation") rfl) (c.fact 68 (f := .exc "InvalidOperation") rfl)
end Ax
end
section
set_option maxHeartbeats 4000000
/-! words for dicts; sorted lists of data; parts of texts; making own objects -/
namespace Ax
open PySem PySem.Spec PyProof.Rows L2
open PySem.W (EachIs AllAlike Sortable dataLe)
section
variable {X : Cx} {e a b o tg iter : Expr} {es : List Expr} {σ : L2.St} {H : Hp} {Q : VK} {D : Ends} {pos apos : Pos}
/-! ### dicts -/
theorem ix_dK (hu : X.A.units + 1 < cLine) : IxR X (fun x y H Q => ∃ a kvs k v, x = .ref a ∧ y = kV k ∧ Rd H a (.dK kvs) ∧ valV kvs k = some v ∧ Q v H) := by
  intro value slice pins s σ H x y v u Q I rx ry h hs
  obtain ⟨a, kvs, k, r, rfl, rfl, hr, l, q⟩ := h
  obtain rfl : v = Value.ref a := rx
  obtain ⟨z, hd, vs, rel, dd⟩ := dk_rd I.hok hr
  obtain ⟨w', hw, rw'⟩ := RelO.some_of (v := r) (o := valueAt vs k) (by rw [← l]; exact rel.val k)
  exact tail_any dd.mapOf.typeIs slot_dict_getitem.lookup (wpAny_getItem_of (kV_is ry) dd.mapOf hw ⟨r, H, I.tok _, rw', q⟩) hs
theorem iv_dK {p : Addr} {kvs : List (Key × V)} {k : Key} {v : V} (hu : X.A.units + 64 < cLine) (h1 : Rd H p (.dK kvs)) (h2 : valV kvs k = some v) (h : Q v H) : IxV X (.ref p) (kV k) H Q := ⟨_, ix_dK (by omega), p, kvs, k, v, rfl, rfl, h1, h2, h⟩
theorem kv_lenD {p : Addr} {kvs : List (Key × V)} (h1 : H p = some (.dK kvs)) (h : Q (.int kvs.length) H) : CallV X (.builtin "len") [.ref p] H Q := ⟨_, call_lenD, p, kvs, rfl, h1, h⟩
theorem kv_isDict {p : Addr} {kvs : List (Key × V)} {T : String} {k : Bool} (h1 : H p = some (.dK kvs)) (hk : kitB "dict" T = some k) (h : Q (.bl k) H) : CallV X (.builtin "isinstance") [.ref p, .ty T] H Q := kv_isi (.ty T) (.base (.dK h1)) (kit_ty hk) h
theorem sv_dK {p : Addr} {kvs : List (Key × V)} {k : Key} {v : V} {Q : Hp → Prop} (hu : X.A.units + 64 < cLine) (hp : H p = some (.dK kvs)) (hl : kvs.length < sizeLine) (h : Q (upd H p (.dK (putK kvs k v)))) : SetV X (.ref p) (kV k) v H Q := ⟨_, set_dict (by omega), p, _, rfl, DPut.k hp hl, h⟩
theorem kv_dictP {p : Addr} {ps : List Addr} {kvs : List (Key × V)} (hc : X.calm = true) (h1 : SqL X.K H p (ps.map V.ref)) (h2 : Paired (fun q kv => SqT X.K H q [kV kv.1, kv.2]) ps kvs) (h : ∀ q H2, Same H H2 → H q = none → H2 q = some (.dK (putsL kvs)) → Q (.ref q) H2) : CallV X (.type "dict") [.ref p] H Q :=
  ⟨_, call_dictP hc, p, ps, kvs, rfl, h1, h2, fun q hq => h q _ (same_new hq) hq upd_same⟩
theorem paired_all2 {α β : Type} {R : α → β → Prop} : ∀ {xs : List α} {ys : List β}, All2 R xs ys → Paired R xs ys
  | _, _, .nil => .nil
  | _, _, .cons h t => .cons h (paired_all2 t)
/-- a dict that is read while it stands: locked for the time of the expression -/
theorem w_lock {d : Addr} {u : HO} (hd : H d = some u) (mu : Mut (some u)) (h : ∀ od, W X e σ (upd H d (.frz od u)) fun v H1 => H1 d = some (.frz od u) ∧ Q v (upd H1 d u)) : W X e σ H Q :=
  W.of (pe_lock W.pe) ⟨d, u, hd, mu, h⟩
/-- between: the dict at d locked by od, all else as it was -/
theorem lock_same {d : Addr} {od : Obj} {u : HO} {H1 : Hp} (hd : H d = some u) (s : Same (upd H d (.frz od u)) H1) : Same H (upd H1 d u) := fun b o hb => by
  by_cases z : b = d
  · subst z
    rw [hd] at hb
    rw [upd_same]
    exact hb
  · rw [upd_ne z]
    exact s b o (by rw [upd_ne z]; exact hb)
theorem itN_keys {d : Addr} {od : Obj} {kvs : List (Key × V)} (h : H d = some (.frz od (.dK kvs))) : ItN (Itk d od kvs) H kvs.length (fun i v _ => ∃ k z, kvs[i]? = some (k, z) ∧ v = kV k) :=
  ⟨_, walk_keys.mono (fun _ z => z) fun i Ha v Hb hi _ ⟨e, y⟩ => by
    subst e
    exact ⟨Same.refl _, y⟩, h, fun _ s => s _ _ h⟩
theorem itN_items {d : Addr} {od : Obj} {kvs : List (Key × V)} (h : H d = some (.frz od (.dK kvs))) : ItN (Iti d od kvs) H kvs.length (YTwo (fun i => kvs[i]?.map fun kv => kV kv.1) (fun i => kvs[i]?.map Prod.snd)) :=
  ⟨_, walk_items.mono (fun _ z => z) fun i Ha v Hb hi _ ⟨T, x, y, e1, e2, e3, e4, e5⟩ => by
    subst e3
    exact ⟨same_new e2, T, x, y, e1, e4, e5, upd_same⟩, h, fun _ s => s _ _ h⟩
/-! ### sorted -/
/-- sorted(xs), xs a list of things that read as data -/
theorem call_sortedG {α : Type} (enc : α → PyData) : CallR X (.builtin "sorted") (fun xs H Q => ∃ (l : Addr) (bs : List Addr) (as : List α) (P : Addr → α → Prop), xs = [.ref l] ∧ SqL X.K H l (bs.map V.ref) ∧ All2 P bs as ∧ (∀ b a, P b a → Dp X.K H (.ref b) (enc a)) ∧ AllAlike (as.map enc) ∧ Sortable (as.map enc) ∧ as.length ≤ sizeLine ∧
    (∀ a ∈ as, X.A.units + 2 + (enc a).depth < cLine) ∧ ∀ cs p, H p = none → All2 P cs (as.mergeSort (dataLe false enc)) → Q (.ref p) (upd H p (.lst (cs.map V.ref)))) := by
  intro pins s σ H xs us Q I r q
  obtain ⟨l, bs, as, P, rfl, hl, hp, hdp, hal, hk, hz, hu, q⟩ := q
  obtain ⟨u, rfl, rx⟩ := r.one
  cases rx
  obtain ⟨its, rv, p, hzz⟩ := I.list hl
  have ei := refs_at rv
  subst ei
  have eR : EachIs (fun v a => ∃ b, v = Value.ref b ∧ P b a) (bs.map Value.ref) as := by
    clear rv p hl hal hk hz hu q hzz
    induction hp with
    | nil => exact .nil
    | cons h t ih => exact .cons ⟨_, rfl, h⟩ ih
  have er : EachIs (fun v a => ∃ as, Reads s.heap v (enc a) as) (bs.map Value.ref) as := eR.mono fun v a ⟨b, ev, hb⟩ => by
    subst ev
    exact Dp.reads I (enc a) (.ref b) (.ref b) (hdp b a hb) rfl
  refine PySem.W.sorted_data p.isList eR er hal hk hz hu fun out ho eO => ?_
  obtain ⟨cs, eb, hcs⟩ : ∃ cs, out = cs.map Value.ref ∧ All2 P cs (as.mergeSort (dataLe false enc)) := by
    clear ho
    generalize as.mergeSort (dataLe false enc) = rs at eO
    induction eO with
    | nil => exact ⟨[], rfl, .nil⟩
    | cons h t ih =>
      obtain ⟨b, e, hb⟩ := h
      obtain ⟨cs, e2, t2⟩ := ih
      exact ⟨b :: cs, by rw [e, e2] <;> rfl, .cons hb t2⟩
  obtain ⟨e', he'⟩ := PyProof.Rows.sortedAll_at s.heap (bs.map Value.ref) out.toArray
  have hlen : (cs.map V.ref).length ≤ sizeLine := by
    have h2 := hcs.len
    rw [List.length_mergeSort] at h2
    rw [List.length_map]
    omega
  have n1 : s.heap.objs.size ≤ s.heap.objs.size + 1 := Nat.le_succ _
  exact ⟨.ref (s.heap.objs.size + 1), upd H (s.heap.objs.size + 1) (.lst (cs.map V.ref)), I.laid (t' := s.toks) (fun b u ez => PyProof.Rows.sortedAll_old ez) n1 (show ObjOk X.prog X.w _ _ _ (.lst (cs.map V.ref)) from ⟨hlen, out, e', by rw [eb] <;> exact vals_refs cs, he'⟩), rfl, q cs _ (I.hok.fresh n1) hcs⟩
/-! ### f'..' of names -/
theorem tJs_nil {acc : Str} {Q : Str → Hp → Prop} (h : Q acc H) : tJs [] acc σ H Q := h
theorem glob_ref {mg : Str → Option Value} {x : Str} {a : Addr} (h : mg x = some (.ref a)) : ∃ u, mg x = some u ∧ RelV (.ref a) u := ⟨_, h, rfl⟩
theorem keep_set {σ : L2.St} {i : Nat} {x : V} (h : σ[i]? = some none) : ∀ (k : Nat) (v : V), σ[k]? = some (some v) → (σ.set i (some x))[k]? = some (some v) := fun k v z => by
  by_cases e : i = k
  · subst e
    rw [h] at z
    cases z
  · rw [List.getElem?_set_ne e]
    exact z
theorem inV_str {z : Str} {zs : List Str} : inV (.str z) (zs.map V.str) = decide (z ∈ zs) := by
  unfold inV
  rw [List.any_map]
  induction zs with
  | nil => simp
  | cons y ys ih =>
    rw [List.any_cons, ih]
    have e : ((fun y => eqV y (.str z)) ∘ V.str) y = decide (y = z) := by
      show (y == z) = _
      rw [Bool.eq_iff_iff, decide_eq_true_iff]
      exact beq_iff_eq
    rw [e]
    by_cases h : y = z
    · simp [h]
    · have h2 : ¬ z = y := fun e => h e.symm
      simp [h, h2]
/-- what makes a new object stands by the old ones -/
theorem made_same {C x dx : Addr} {H1 H2 : Hp} (hx : H1 x = none) (hdx : H1 dx = none) (b : Bt x (upd (upd H1 dx (.own x)) x (.ins C dx [])) H2) : Same H1 H2 := fun y o hy => by
  have yx : y ≠ x := ne_of_none hy hx
  have yd : y ≠ dx := ne_of_none hy hdx
  refine b y o yx ?_
  rw [upd_ne yx, upd_ne yd]
  exact hy
end
end Ax
end
section
set_option maxHeartbeats 4000000
/-! sorted(tuple of texts); the order of texts -/
namespace Ax
open PySem PySem.Spec PyProof.Rows L2
open PySem.W (EachIs SortsAt dataKind AllAlike Sortable dataLe sortVals sortingHeap sortingHeap_old)
/-- texts in their order -/
def strLe (a b : Str) : Bool := !decide (b.cps.toList < a.cps.toList)
theorem each_str : ∀ {zs : List Str} {us : List Value}, Vals (zs.map V.str) us → EachIs (fun v z => ∃ t, v = Value.str z t) us zs
  | [], _, h => by cases h; exact .nil
  | z :: zs, _, h => by
    cases h with
    | cons h t =>
      obtain ⟨tk, rfl⟩ := h
      exact .cons ⟨tk, rfl⟩ (each_str t)
theorem vals_each : ∀ {zs : List Str} {us : List Value}, EachIs (fun v z => ∃ t, v = Value.str z t) us zs → Vals (zs.map V.str) us
  | _, _, .nil => .nil
  | _, _, .cons ⟨t, e⟩ r => .cons ⟨t, e⟩ (vals_each r)
section
variable {X : Cx}
theorem call_sortedTS (hcalm : X.calm = true) (hu : X.A.units + 64 < cLine) : CallR X (.builtin "sorted") (fun xs H Q => ∃ (a : Addr) (zs : List Str), xs = [.ref a] ∧ SqT X.K H a (zs.map V.str) ∧
    ∀ p, H p = none → Q (.ref p) (upd H p (.lst ((zs.mergeSort (dataLe false PyData.str)).map V.str)))) := by
  intro pins s σ H xs us Q I r q
  obtain ⟨a, zs, rfl, hd, q⟩ := q
  obtain ⟨u, rfl, rx⟩ := r.one
  cases rx
  obtain ⟨its, rv, pt, hz⟩ := I.tuple hd
  obtain ⟨oo, ho, hc, n, hdat⟩ := pt
  have eR := each_str rv
  have hal : its.length = zs.length := eR.length
  rw [List.length_map] at hz
  refine Calls.call_function_entry PyProof.Rows.kind_sorted PyProof.Rows.plain_sorted PyProof.Rows.entry_sorted (PyProof.Rows.args_sorted1 _) ?_
  unfold Builtin.«sorted»
  refine wpAny_bind (m := checkCount "sorted" 1 1 _) (wpAny_pure ?_)
  refine wpAny_bind (PySem.wpAny_collect_seq (A := X.A.in1) a (.inr rfl) ho hc hdat (fun h' hk => ?_) (by rw [List.size_toArray]; omega))
  have I1 : Inv X pins σ H { s with heap := h' } := I.kept (t' := s.toks) hk
  show wpAny _ _ (newList its >>= _) _ _ { s with heap := h' }
  refine wpAny_bind (wpAny_newList ?_ (by rw [hal]; omega))
  have hoL : (h'.push (seqObj "list" its.toArray 0)).get? h'.objs.size = some (seqObj "list" its.toArray 0) := Heap.get?_push_size _ rfl
  show wpAny _ _ _ _ _ { s with heap := h'.push (seqObj "list" its.toArray 0) }
  have eS : ∀ hh, EachIs (fun v r => ∃ as, Reads hh v (PyData.str r) as) its zs := fun hh => eR.mono fun v r ⟨t, ev⟩ => by
    subst ev
    exact ⟨[], .str _ _⟩
  have hal2 : AllAlike (zs.map PyData.str) := AllAlike.of fun a b => by rfl
  have hso : Sortable (zs.map PyData.str) := Sortable.others fun b => ⟨(fun z => nomatch z), (fun _ z => nomatch z)⟩
  refine wpAny_bind (wpAny_holding (wpAny_call_entry PyProof.Rows.slot_list_sort ⟨_, hoL, rfl⟩ PyProof.Rows.entry_list_sort
    (PySem.W.list_sort_vals (s := { s with heap := h'.push (seqObj "list" its.toArray 0) }) hoL
      (SortsAt.data (s := { s with heap := sortingHeap (h'.push (seqObj "list" its.toArray 0)) h'.objs.size its }) (PySem.W.each_map (R := fun v d => ∃ as, Reads (sortingHeap (h'.push (seqObj "list" its.toArray 0)) h'.objs.size its) v d as) PyData.str (eS _)) hal2 hso fun d hd => ?_) (by omega) ⟨_, rfl, ?_⟩) (PyProof.Rows.args_list_sort _)))
  · obtain ⟨z, _, rfl⟩ := List.mem_map.mp hd
    show X.A.units + 1 + 1 + 0 < cLine
    omega
  have eO := PySem.W.sortVals_data (h' := sortingHeap (h'.push (seqObj "list" its.toArray 0)) h'.objs.size its) (enc := PyData.str) false eR (eS _) hal2
  generalize sortVals (dataKind (sortingHeap (h'.push (seqObj "list" its.toArray 0)) h'.objs.size its) (zs.map PyData.str)) false its its = out at eO ⊢
  have hvo := vals_each eO
  obtain ⟨e', he'⟩ := PyProof.Rows.sortedHeap_at (vs := its) (out := out.toArray) hoL
  have hlen : ((zs.mergeSort (dataLe false PyData.str)).map V.str).length ≤ sizeLine := by
    rw [List.length_map, List.length_mergeSort]
    omega
  refine wpAny_pure ⟨_, rfl, .ref h'.objs.size, upd H h'.objs.size (.lst _), I1.laid (t' := s.toks) (fun b u ez => ?_) (Nat.le_refl _) (show ObjOk X.prog X.w _ _ _ (.lst ((zs.mergeSort (dataLe false PyData.str)).map V.str)) from ⟨hlen, out, e', hvo, he'⟩), rfl, q _ (I1.hok.fresh (Nat.le_refl _))⟩
  have hb : b < h'.objs.size := Heap.lt_size ez
  rw [PyProof.Rows.sortedHeap_old (Nat.ne_of_lt hb) (by rw [size_push'] <;> exact Nat.lt_succ_of_lt hb)]
  exact Heap.get?_push_of_some _ ez
theorem kv_sortedTS {p : Addr} {zs : List Str} {H : Hp} {Q : VK} (hc : X.calm = true) (hu : X.A.units + 64 < cLine) (hp : SqT X.K H p (zs.map V.str)) (h : ∀ q H2, Same H H2 → H q = none → H2 q = some (.lst ((zs.mergeSort (dataLe false PyData.str)).map V.str)) → Q (.ref q) H2) : CallV X (.builtin "sorted") [.ref p] H Q :=
  ⟨_, call_sortedTS hc hu, p, zs, rfl, hp, fun q hq => h q _ (same_new hq) hq upd_same⟩
end
section
variable {X : Cx} {a b c : Expr} {σ : L2.St} {H : Hp} {pos : Pos}
theorem wt_chain {op op' : CmpOp} {Q : Bool → Hp → Prop} (h : W X a σ H fun x H1 => W X b σ H1 fun y H2 => CmpV X op x y H2 fun z H3 => ∃ k, z = .bl k ∧ (if k = true then W X c σ H3 fun w' H4 => CmpV X op' y w' H4 fun v H5 => ∃ d, v = .bl d ∧ Q d H5 else ∃ d, V.bl false = .bl d ∧ Q d H3))
    (hm : lastMarks [op, op'] [b, c] = false := by with_unfolding_all rfl) : WT X (.Compare a [op, op'] [b, c] pos) σ H Q := WT.of (pt_chain cmpV_r cmpV_r W.pe W.pe W.pe hm) h
/-- x, y, z = a list of three -/
theorem ws_lst3 {D : Ends} {e : Expr} (i j l : Nat) {x y z : Str} {px py pz pt : Pos} {kt} (h : W X e σ H fun v H1 => ∃ a v1 v2 v3, v = .ref a ∧ SqL X.K H1 a [v1, v2, v3] ∧ D.nx (((σ.set i (some v1)).set j (some v2)).set l (some v3)) H1) (hi : X.N[i]? = some x) (hj : X.N[j]? = some y) (hk : X.N[l]? = some z) (hN : X.N.Nodup) (hc : X.calm = true := by rfl)
    (hx : Loc X.env.scope x := by first | exact Or.inl rfl | exact Or.inr rfl) (hy : Loc X.env.scope y := by first | exact Or.inl rfl | exact Or.inr rfl) (hz : Loc X.env.scope z := by first | exact Or.inl rfl | exact Or.inr rfl)
    (hfx : X.fn x = true ∨ X.env.scope.names.lookup x = some .local := by first | exact Or.inl rfl | exact Or.inr rfl) (hfy : X.fn y = true ∨ X.env.scope.names.lookup y = some .local := by first | exact Or.inl rfl | exact Or.inr rfl) (hfz : X.fn z = true ∨ X.env.scope.names.lookup z = some .local := by first | exact Or.inl rfl | exact Or.inr rfl)
    (hs : swapsWithSole [.Tuple [.Name x px, .Name y py, .Name z pz] kt pt] e pos.line X.env = pure false := by rfl) (hw : swappedStores [.Tuple [.Name x px, .Name y py, .Name z pz] kt pt] e X.env = pure none := by rfl)
    (h1 : (assignEach [.Tuple [.Name x px, .Name y py, .Name z pz] kt pt] X.env).map (·.2) = [assign (.Tuple [.Name x px, .Name y py, .Name z pz] kt pt) X.env] := by rfl)
    (h2 : (assignEach (Expr.Name x px :: [.Name y py, .Name z pz]) X.env).map (·.2) = assign (.Name x px) X.env :: (assignEach [.Name y py, .Name z pz] X.env).map (·.2) := by rfl)
    (h3 : (assignEach (Expr.Name y py :: [.Name z pz]) X.env).map (·.2) = assign (.Name y py) X.env :: (assignEach [.Name z pz] X.env).map (·.2) := by rfl)
    (h4 : (assignEach (Expr.Name z pz :: []) X.env).map (·.2) = assign (.Name z pz) X.env :: (assignEach [] X.env).map (·.2) := by rfl)
    (h5 : (assignEach [.Name x px, .Name y py, .Name z pz] X.env).length = 3 := by rfl) (h6 : (assignEach [.Name x px, .Name y py, .Name z pz] X.env).findIdx? (·.1) = none := by rfl) :
    WS X (.Assign [.Tuple [.Name x px, .Name y py, .Name z pz] kt pt] e pos) D σ H := by
  refine WS.of (ps_asg W.pe (pg_lst (n := 3) hc (pgs_cons (pg_name hN hi hx hfx) (pgs_cons (pg_name hN hj hy hfy) (pgs_cons (pg_name hN hk hz hfz) pgs_nil h4) h3) h2) h5 h6) hs hw h1) ?_
  show W X e σ H _
  refine W.mono h fun v H1 ⟨a, v1, v2, v3, ev, ha, q⟩ => ⟨a, [v1, v2, v3], ev, ha, rfl, v1, [v2, v3], rfl, v2, [v3], rfl, v3, [], rfl, rfl, q⟩
theorem WS.nxt {D : Ends} {st : Stmt} {I : L2.St → Hp → Prop} (h : WS X st { D with nx := I } σ H) (k : ∀ σ' H', I σ' H' → D.nx σ' H') : WS X st D σ H := ⟨fun pins s inv => thn (h.run pins s inv) fun fl s1 q => by
  cases fl with
  | next =>
    obtain ⟨σ', H', J, q⟩ := q
    exact ⟨σ', H', J, k _ _ q⟩
  | brk => exact q
  | cont => exact q
  | ret u => exact q⟩
theorem bv_catW {Q : VK} {p q : Addr} {xs ys : List V} (h1 : SqT X.K H p xs) (h2 : H q = some (.tup ys)) (hn : ys ≠ []) (hl : xs.length + ys.length ≤ sizeLine) (h : ∀ r H2, Same H H2 → H2 r = some (.tup (xs ++ ys)) → Q (.ref r) H2) : BinV X .Add (.ref p) (.ref q) H Q :=
  ⟨_, op_catA, p, q, xs, ys, rfl, rfl, h1, SqT.of h2, hl, fun e => h q H (Same.refl _) (by rw [e]; exact h2), fun _ e => absurd e hn, fun _ _ r hr => h r _ (same_new hr) upd_same⟩
/-- for, any target -/
theorem ws_forG {D : Ends} {tg iter : Expr} {body : List Stmt} (g : TG) (hg : PG X tg g) (h : WI X tg iter σ H fun J H1 => ∃ n G Y, Walk J n G Y ∧ ∃ I : Nat → L2.St → Hp → Prop, I 0 σ H1 ∧ (∀ i σ H, i ≤ n → I i σ H → G H) ∧
      (∀ j v σ H H', j < n → I j σ H → Y j H v H' → g v σ H' fun σ2 H2 => WB X body { D with nx := I (j + 1), ct := I (j + 1), bk := D.nx } σ2 H2) ∧ ∀ σ H, I n σ H → D.nx σ H)
    (hp : PassesOwn (model X.prog X.w) X.A X.env X.xe) (hc : X.calm = true := by rfl) (hs : ∀ x, foldedSetIterable iter X.env x = pure x := by intro _; rfl) : WS X (.For tg iter body [] pos) D σ H := by
  refine WS.of (ps_for hp hc WI.pi hg WB.pss hs) ?_
  refine ⟨fun pins s I => thn (h.run pins s I) fun v s1 z => thn z fun it s2 q => ?_⟩
  obtain ⟨it', fp, tn, J, H1, e, I2, T, t0, f0, n, G, Y, wk, Iv, i0, hG, hst, hd⟩ := q
  exact ⟨it', fp, tn, J, H1, e, I2, T, t0, f0, for_it wk Iv i0 hG (fun j v σ H H' hj hI y => hst j v σ H H' hj hI y) hd⟩
theorem relI_get {R : Nat → V → Prop} {n : Nat} {ys : List V} (h : RelI (fun _ => False) R n ys) : ys.length = n ∧ ∀ (i : Nat) y, ys[i]? = some y → R i y := by
  induction h with
  | nil => exact ⟨rfl, fun i y e => by simp at e⟩
  | drop f _ _ => exact f.elim
  | @keep n y ys r _ ih =>
    refine ⟨by simp [ih.1], fun i z e => ?_⟩
    by_cases hi : i < ys.length
    · rw [List.getElem?_append_left hi] at e
      exact ih.2 i z e
    · rw [List.getElem?_append_right (by omega)] at e
      have ei : i = ys.length := by
        have := (List.getElem?_eq_some_iff.mp e).1
        simp at this
        omega
      subst ei
      simp at e
      subst e
      rw [ih.1]
      exact r
/-- a statement, then what it leaves -/
theorem wb_cut {D : Ends} {st : Stmt} {rest : List Stmt} (I : L2.St → Hp → Prop) (h : WS X st { D with nx := I } σ H) (k : ∀ σ' H', I σ' H' → WB X rest D σ' H') : WB X (st :: rest) D σ H := wb_cons (WS.nxt h k)
/-- a statement with a thing locked -/
theorem ws_lock {D : Ends} {st : Stmt} {d : Addr} {u : HO} (hd : H d = some u) (mu : Mut (some u)) (h : ∀ od, WS X st ⟨fun σ' H' => H' d = some (.frz od u) ∧ D.nx σ' (upd H' d u), fun v H' => H' d = some (.frz od u) ∧ D.rt v (upd H' d u), fun σ' H' => H' d = some (.frz od u) ∧ D.bk σ' (upd H' d u), fun σ' H' => H' d = some (.frz od u) ∧ D.ct σ' (upd H' d u)⟩ σ (upd H d (.frz od u))) : WS X st D σ H :=
  WS.of (ps_lock WS.ps) ⟨d, u, hd, mu, h⟩
theorem tyV_tup {K : PySem.W.Frag} {a : Addr} {H : Hp} (h : ∃ o, K.lookup a = some o ∧ o.cls = .type "tuple" ∧ o.dict = none) : tyV K "tuple" (.ref a) H := .inr (.inl ⟨rfl, h⟩)
/-! ### walks by values -/
theorem wi_items {e : Expr} {elts : List Expr} {kk : Nat} {tpos apos cpos : Pos} {R : It → Hp → Prop} (h : W X e σ H fun x H1 => ∃ d o kvs, x = .ref d ∧ H1 d = some (.frz o (.dK kvs)) ∧ R (Iti d o kvs) H1)
    (hbase : attributeBase e "items" X.env (eval e X.env) = eval e X.env := by rfl) (hline : (apos.endLine == cpos.line) = true := by rfl) : WI X (.Tuple elts kk tpos) (.Call (.Attribute e "items" apos) [] [] cpos) σ H R :=
  WI.of (pi_items W.pe hbase hline) h
theorem wi_keys {e tg : Expr} {R : It → Hp → Prop} (h : W X e σ H fun x H1 => ∃ d o kvs, x = .ref d ∧ H1 d = some (.frz o (.dK kvs)) ∧ R (Itk d o kvs) H1) : WI X tg e σ H R :=
  WI.of (pi_keys W.pe) (W.mono h fun x H1 ⟨d, o, kvs, e, hd, q⟩ => ⟨d, o, e, .inl ⟨kvs, hd, q⟩⟩)
theorem wi_enumT {e : Expr} {p : Pos} {elts : List Expr} {kk : Nat} {tpos : Pos} {R : It → Hp → Prop} (hm : X.mg "enumerate" = none) (h : WA X [e] σ H fun vs H1 => ∃ a xs, vs = [.ref a] ∧ SqT X.K H1 a xs ∧ R (IteT X.K a) H1) (hg : Gl X "enumerate" := by rfl)
    (hs : starEach [e] X.env = [(false, eval e X.env)] := by rfl) : WI X (.Tuple elts kk tpos) (.Call (.Name "enumerate" p) [e] [] pos) σ H R := WI.of (pi_enumT hg hm WA.pa hs) h
theorem wi_zip {e e2 : Expr} {p : Pos} {elts : List Expr} {kk : Nat} {tpos : Pos} {R : It → Hp → Prop} (hm : X.mg "zip" = none) (h : WA X [e, e2] σ H fun vs H1 => ∃ a b xs ys, vs = [.ref a, .ref b] ∧ SqL X.K H1 a xs ∧ SqL X.K H1 b ys ∧ R (Itz X.K a b) H1) (hg : Gl X "zip" := by rfl)
    (hs : starEach [e, e2] X.env = (false, eval e X.env) :: starEach [e2] X.env := by rfl) (hpl : (backTo pos (starEach [e2] X.env)).any (·.1) = false := by rfl) : WI X (.Tuple elts kk tpos) (.Call (.Name "zip" p) [e, e2] [] pos) σ H R :=
  WI.of (RZ.pi_zipA hg hm WA.pa hs hpl) (WA.mono h fun vs H1 ⟨a, b, xs, ys, e, h1, h2, q⟩ => ⟨a, b, xs, ys, e, .inl ⟨h1, h2, q⟩⟩)
end
/-! ### the order of texts -/
theorem sleS {a b : Str} : strLe a b = true ↔ ¬ b.cps.toList < a.cps.toList := by
  unfold strLe
  simp
theorem str_ext {a b : Str} (h : a.cps.toList = b.cps.toList) : a = b := by
  cases a
  cases b
  simp at h
  simp [h]
theorem sle_anti {a b : Str} (h : strLe a b = true) (k : strLe b a = true) : a = b := by
  have h := sleS.mp h
  have k := sleS.mp k
  exact str_ext (List.le_antisymm (List.not_lt.mp h) (List.not_lt.mp k))
theorem sle_trans {a b c : Str} (h : strLe a b = true) (k : strLe b c = true) : strLe a c = true := by
  have h := sleS.mp h
  have k := sleS.mp k
  exact sleS.mpr (List.not_lt.mpr (List.le_trans (List.not_lt.mp h) (List.not_lt.mp k)))
theorem ltCps_eq : ∀ a b : List Nat, PySem.Spec.ltCps a b = decide (a < b)
  | [], [] => by simp [PySem.Spec.ltCps]
  | _ :: _, [] => by simp [PySem.Spec.ltCps]
  | [], _ :: _ => by simp [PySem.Spec.ltCps]
  | x :: a, y :: b => by
    rw [PySem.Spec.ltCps, ltCps_eq a b, Bool.eq_iff_iff]
    simp [List.cons_lt_cons_iff]
theorem sortedS_pw : ∀ {zs : List Str}, sortedS zs = true → zs.Pairwise fun a b => strLe a b = true := by
  have key : ∀ (zs : List Str) (x : Str), PyProof.Rows.risingS x zs = true → (x :: zs).Pairwise fun a b => strLe a b = true := by
    intro zs
    induction zs with
    | nil => intro x _; exact List.pairwise_singleton _ _
    | cons y zs ih =>
      intro x h
      obtain ⟨h1, h2⟩ := Bool.and_eq_true_iff.mp (show (!PySem.Spec.ltCps y.cps.toList x.cps.toList && PyProof.Rows.risingS y zs) = true from h)
      have p := ih y h2
      rw [ltCps_eq] at h1
      refine List.pairwise_cons.mpr ⟨fun z hz => ?_, p⟩
      rcases List.mem_cons.mp hz with rfl | hz
      · exact h1
      · exact sle_trans h1 ((List.pairwise_cons.mp p).1 z hz)
  intro zs h
  cases zs with
  | nil => exact .nil
  | cons x zs => exact key zs x h
theorem perm_pw_eq {xs ys : List Str} (p : xs.Perm ys) (h : xs.Pairwise fun a b => strLe a b = true) (k : ys.Pairwise fun a b => strLe a b = true) : xs = ys := by
  induction xs generalizing ys with
  | nil => exact p.nil_eq
  | cons x xs ih =>
    cases ys with
    | nil => exact absurd p.symm.nil_eq (by simp)
    | cons y ys =>
      have h' := List.pairwise_cons.mp h
      have k' := List.pairwise_cons.mp k
      have e : x = y := by
        have h1 : x ∈ y :: ys := p.mem_iff.mp List.mem_cons_self
        have h2 : y ∈ x :: xs := p.mem_iff.mpr List.mem_cons_self
        rcases List.mem_cons.mp h1 with e | h1
        · exact e
        rcases List.mem_cons.mp h2 with e | h2
        · exact e.symm
        exact sle_anti (h'.1 y h2) (k'.1 x h1)
      subst e
      rw [ih (p.cons_inv) h'.2 k'.2]
theorem sle_refl (a : Str) : strLe a a = true := sleS.mpr (List.lt_irrefl _)
theorem dataLe_strs : dataLe false PyData.str = strLe := by
  have e := PySem.W.dataLe_str (β := Str) (fun z => z)
  funext a b
  have e2 := congrFun (congrFun e a) b
  show dataLe false (fun b => PyData.str b) a b = _
  rw [e2]
  unfold strLe
  rw [Bool.eq_iff_iff]
  simp [List.not_lt]
theorem sle_total (a b : Str) : (strLe a b || strLe b a) = true := by
  rcases Classical.em (strLe a b = true) with h | h
  · rw [h, Bool.true_or]
  · have e : strLe b a = true := by
      refine sleS.mpr fun c => ?_
      refine h (sleS.mpr fun d => ?_)
      exact List.lt_asymm c d
    rw [e, Bool.or_true]
theorem sortStr_pw (zs : List Str) : (zs.mergeSort (dataLe false PyData.str)).Pairwise fun a b => strLe a b = true := by
  rw [dataLe_strs]
  exact List.pairwise_mergeSort (le := strLe) (fun a b c => sle_trans) sle_total zs
end Ax
end
section
set_option maxHeartbeats 4000000
/-! calls without arguments; texts put together; xs == [] -/
namespace Ax
open PySem PySem.Spec PyProof.Rows L2
section
variable {X : Cx} {σ : L2.St} {H : Hp} {Q : VK} {pos : Pos}
theorem w_call0 {x : Str} {k : Nat} {sp : Sp} {p : Pos} {E : XK} (C : Callee X.prog X.w X.K X.mg X.base x k [] sp) (hr : Room k X.A) (hx : Passes (L2.CX X.prog X.w) X E) (h : sp [] H Q E) (hg : Gl X x := by rfl)
    (hdb : (x == ("__debug__" : Str)) = false := by decide) : W X (.Call (.Name x p) [] [] pos) σ H Q := by
  obtain ⟨f, fd, F, B, hm, hk⟩ := C.ex
  exact W.of (pe_call0 F hr hg hm hk B .nil hx hdb) h
theorem bv_catS {i j : Str} (hl : i.length + j.length ≤ sizeLine) (h : Q (.str (i ++ j)) H) : BinV X .Add (.str i) (.str j) H Q := ⟨_, op_add_str, i, j, rfl, rfl, hl, h⟩
theorem cv_eq_nil {p q : Addr} {xs : List V} (hu : X.A.units < cLine) (hp : SqL X.K H p xs) (hq : SqL X.K H q []) (h : Q (.bl xs.isEmpty) H) : CmpV X .Eq (.ref p) (.ref q) H Q := by
  refine ⟨fun x y H Q => x = .ref p ∧ y = .ref q ∧ SqL X.K H p xs ∧ SqL X.K H q [] ∧ Q (.bl xs.isEmpty) H, ?_, rfl, rfl, hp, hq, h⟩
  rintro pins s σ H x y v u Q I rx ry ⟨rfl, rfl, h1, h2, q⟩
  cases rx
  cases ry
  obtain ⟨its, r, pl, _⟩ := I.list h1
  obtain ⟨its2, r2, pl2, _⟩ := I.list h2
  cases r2
  have hl := r.length
  cases xs with
  | nil =>
    cases r
    exact SeqAt.RcAt.lists (e := fun _ => true) pl.isList pl2.isList rfl hu (fun j h1 _ => absurd h1 (by simp)) _ _ _ _ ⟨.bl _, H, I, rfl, q⟩
  | cons y ys =>
    cases r with
    | cons r1 rt => exact SeqAt.RcAt.lists_lengths pl.isList pl2.isList (by simp) hu _ _ _ _ ⟨.bl _, H, I, rfl, q⟩
end
end Ax
namespace Ax
open PySem PySem.Spec PyProof.Rows L2
section
variable {X : Cx} {σ : L2.St} {H : Hp} {Q : VK}
theorem call_repr_bool : CallR X (.builtin "repr") (fun xs H Q => ∃ b, xs = [.bl b] ∧ Q (.str (if b then "True" else "False")) H) := by
  intro pins s σ H xs us Q I r h
  obtain ⟨b, rfl, q⟩ := h
  obtain ⟨u, rfl, hu⟩ := vals1 r
  cases (show u = Value.bool b from hu)
  exact PySem.P.repr_of_bool ⟨.str _, H, I.tok _, ⟨_, rfl⟩, q⟩
theorem kv_reprB {b : Bool} (h : Q (.str (if b then "True" else "False")) H) : CallV X (.builtin "repr") [.bl b] H Q := ⟨_, call_repr_bool, b, rfl, h⟩
end
end Ax
namespace Ax
open PySem PySem.Spec PyProof.Rows L2
/-- data, an empty dict, or an own object -/
inductive AnyG (K : PySem.W.Frag) (H : Hp) : V → Option PyData → Prop
  | reg {v : V} {o : Option PyData} (h : AnyR K H v o) : AnyG K H v o
  | own {a C dx : Addr} {fs : List (Str × V)} (h : H a = some (.ins C dx fs)) (kc : KC K C) (n : ∀ T ∈ ["str", "int", "bool", "tuple", "list"], PySem.W.kitOne K (.ref C) (.type T) = some false) : AnyG K H (.ref a) none
theorem AnyG.same {K : PySem.W.Frag} {H H' : Hp} {v : V} {o : Option PyData} (a : AnyG K H v o) (s : Same H H') : AnyG K H' v o := by
  cases a with
  | reg h =>
    cases h with
    | dat h => exact .reg (.dat (dp_same s h))
    | dct h => exact .reg (.dct (s _ _ h))
  | own h kc n => exact .own (s _ _ h) kc n
theorem AnyG.any {K : PySem.W.Frag} {H : Hp} {v : V} {o : Option PyData} (a : AnyG K H v o) (ok : o.all okD = true) : AnyV K H v o := by
  cases a with
  | reg h => exact (h.anyX ok).any
  | own h kc n => exact .oth (kc.ty h) n
section
variable {X : Cx} {e : Expr} {es : List Expr} {σ : L2.St} {H H0 : Hp} {Q : VK} {pos : Pos} {d : PyData}
structure LitY (X : Cx) (es : List Expr) (σ : L2.St) (H0 : Hp) (os : List (Option PyData)) : Prop where
  len : os.length = es.length
  run : ∀ H Q, Same H0 H → (∀ vs H', Same H H' → All2 (AnyG X.K H') vs os → Q vs H') → WA X es σ H Q
variable {os : List (Option PyData)}
theorem lity_nil : LitY X [] σ H0 [] := ⟨rfl, fun H Q _ h => wa_nil (h _ H (Same.refl _) .nil)⟩
theorem lity_cons (h1 : Lit X e σ H0 d) (h2 : LitY X es σ H0 os) (hs : starEach (e :: es) X.env = (false, eval e X.env) :: starEach es X.env := by rfl) : LitY X (e :: es) σ H0 (some d :: os) :=
  ⟨by rw [List.length_cons, List.length_cons, h2.len], fun H Q s h => wa_cons (h1.run H _ s fun v H1 s1 hd => h2.run H1 _ (s.trans s1) fun vs H2 s2 hds => h _ H2 (s1.trans s2) (.cons (.reg (.dat (dp_same s2 hd))) hds)) hs⟩
theorem lity_dict (h2 : LitY X es σ H0 os) (hs : starEach (.Dict [] [] pos :: es) X.env = (false, eval (.Dict [] [] pos) X.env) :: starEach es X.env := by rfl) : LitY X (.Dict [] [] pos :: es) σ H0 (none :: os) :=
  ⟨by rw [List.length_cons, List.length_cons, h2.len], fun H Q s h => wa_cons (w_dict0 fun p H1 s1 n1 hp => h2.run H1 _ (s.trans s1) fun vs H2 s2 hds => h _ H2 (s1.trans s2) (.cons (.reg (.dct (s2 _ _ hp))) hds)) hs⟩
/-- a thing by its value -/
theorem lity_val {v : V} {o : Option PyData} (h1 : ∀ H Q, Same H0 H → Q v H → W X e σ H Q) (a : AnyG X.K H0 v o) (h2 : LitY X es σ H0 os) (hs : starEach (e :: es) X.env = (false, eval e X.env) :: starEach es X.env := by rfl) : LitY X (e :: es) σ H0 (o :: os) :=
  ⟨by rw [List.length_cons, List.length_cons, h2.len], fun H Q s h => wa_cons (h1 H _ s (h2.run H _ s fun vs H2 s2 hds => h _ H2 s2 (.cons (a.same (s.trans s2)) hds))) hs⟩
theorem w_listY (os : List (Option PyData)) (h : LitY X es σ H0 os) (s : Same H0 H) (q : ∀ p vs H2, Same H H2 → H p = none → H2 p = some (.lst vs) → All2 (AnyG X.K H2) vs os → Q (.ref p) H2) (hl : es.length ≤ 100 := by decide) : W X (.List es pos) σ H Q :=
  w_lst (h.run H _ s fun vs H1 s1 hd => ⟨by rw [hd.len, h.len]; exact Nat.le_trans hl (by decide), fun p H2 s2 n2 hp => q p vs H2 (s1.trans s2) (same_nul s1 n2) hp (hd.imp fun _ _ a => a.same s2)⟩)
theorem bv_catY {p q : Addr} {xs ys : List V} {as bs : List (Option PyData)} (h1 : H p = some (.lst xs)) (h2 : H q = some (.lst ys)) (a : All2 (AnyG X.K H) xs as) (b : All2 (AnyG X.K H) ys bs) (hl : as.length + bs.length ≤ 1000)
    (h : ∀ r H2, Same H H2 → H r = none → H2 r = some (.lst (xs ++ ys)) → All2 (AnyG X.K H2) (xs ++ ys) (as ++ bs) → Q (.ref r) H2) : BinV X .Add (.ref p) (.ref q) H Q :=
  bv_cat h1 h2 (by rw [a.len, b.len]; exact Nat.le_trans hl (by decide)) fun r H2 s n e => h r H2 s n e ((a.imp fun _ _ q => q.same s).app (b.imp fun _ _ q => q.same s))
theorem cv_notB {a b : Bool} (h : Q (.bl (!decide (a = b))) H) : CmpV X .IsNot (.bl a) (.bl b) H Q := ⟨_, op_notBl, a, b, rfl, rfl, h⟩
end
end Ax
namespace Ax
open PySem PySem.Spec PyProof.Rows L2
section
variable {X : Cx} {σ : L2.St} {H : Hp} {Q : VK} {pos : Pos} {k1 v1 k2 v2 : Expr}
/-- {k1: v1, k2: v2} -/
theorem w_dict2 (h : ∀ p H1, Same H H1 → H p = none → H1 p = some (.dK []) → W X k1 σ H1 fun a1 H2 => W X v1 σ H2 fun b1 H3 => W X k2 σ H3 fun a2 H4 => W X v2 σ H4 fun b2 H5 => H5 p = some (.dK []) ∧ ∃ x1 x2 : Key, a1 = kV x1 ∧ a2 = kV x2 ∧ Q (.ref p) (upd H5 p (.dK (putsL [(x1, b1), (x2, b2)])))) :
    W X (.Dict [some k1, some k2] [v1, v2] pos) σ H Q := by
  refine W.of (pe_disp (trs := [(W X k1, W X v1), (W X k2, W X v2)]) (pps_cons W.pe W.pe (pps_cons W.pe W.pe pps_nil)) rfl rfl (by simp) (by simp)) ?_
  intro p hp
  refine W.mono (h p _ (same_new hp) hp upd_same) fun a1 H2 h => ?_
  refine W.mono h fun b1 H3 h => ?_
  refine W.mono h fun a2 H4 h => ?_
  refine W.mono h fun b2 H5 ⟨h5, x1, x2, e1, e2, q⟩ => ?_
  exact ⟨h5, [(x1, b1), (x2, b2)], by rw [e1, e2] <;> rfl, (show 2 ≤ 15 by decide), q⟩
end
end Ax
end
section
set_option maxHeartbeats 2000000
namespace Ax
open PySem PySem.Spec PyProof.Rows L2
/-! ### sets of ints and texts that can be walked -/
def keyM : Value → Option Key
  | .int i _ => some (.inl i)
  | .str x _ => some (.inr x)
  | _ => none
theorem keyM_rel {k : Key} {u : Value} (r : RelV (kV k) u) : keyM u = some k := by
  cases k <;> (obtain ⟨t, rfl⟩ := r; rfl)
def keyE (e : Int × Value) : Option Key := keyM e.2
section
variable {P : Program} {w : World}
def GoodM (P : Program) (w : World) (e : Int × Value) : Prop := ∃ k, RelV (kV k) e.2 ∧ e.1 = (mixKind P w).hash k
/-- the set at a: its members S, their number n; its table rises -/
def SetM (P : Program) (w : World) (h : Heap) (a : Addr) (S : Key → Bool) (n : Nat) : Prop :=
  ∃ o es ep t, h.get? a = some o ∧ o.ExactSet ∧ o.data = .set es ep t ∧ (∀ e ∈ es.toList, GoodM P w e) ∧ ((es.toList.map keyE).Nodup ∧ ∀ k, S k = true ↔ some k ∈ es.toList.map keyE) ∧
    es.size < scanBound ∧ t.fits es.size = true ∧ es.size = n ∧ Ris t.place.toList ∧ (w.params.followText "set-order" = true ∨ t.led = true)
variable {h h' : Heap} {a : Addr} {S : Key → Bool} {n : Nat}
theorem SetM.keep (R : SetM P w h a S n) (k : ∀ o, h.get? a = some o → h'.get? a = some o) : SetM P w h' a S n :=
  let ⟨o, es, ep, t, ho, r⟩ := R
  ⟨o, es, ep, t, k o ho, r⟩
theorem SetM.as {S' : Key → Bool} (R : SetM P w h a S n) (e : ∀ k, S' k = S k) : SetM P w h a S' n := (funext e : S' = S) ▸ R
theorem goodM_elems {l : List (Int × Value)} (g : ∀ e ∈ l, GoodM P w e) : ElemsOf (mixKind P w) l := fun e he =>
  let ⟨k, h1, h2⟩ := g e he
  ⟨⟨k, kV_is h1, h2⟩, key_scan h1⟩
theorem goodM_is {e : Int × Value} (g : GoodM P w e) (k : Key) : (mixKind P w).is k e.2 = true ↔ keyE e = some k := by
  obtain ⟨k0, h1, _⟩ := g
  have e1 : keyE e = some k0 := keyM_rel h1
  rw [e1]
  constructor
  · intro q
    rw [(mixKind P w).inj _ _ _ (kV_is h1) q]
  · intro q
    cases q
    exact kV_is h1
theorem goodM_mem {l : List (Int × Value)} (g : ∀ e ∈ l, GoodM P w e) (k : Key) : some k ∈ l.map keyE ↔ ∃ e ∈ l, (mixKind P w).is k e.2 = true := by
  simp only [List.mem_map]
  exact ⟨fun ⟨e, he, q⟩ => ⟨e, he, (goodM_is (g e he) k).mpr q⟩, fun ⟨e, he, q⟩ => ⟨e, he, (goodM_is (g e he) k).mp q⟩⟩
end
section
variable {P : Program} {w : World} {A : Around} {E : Value → Shared → Prop} {s : Shared} {a : Addr} {S : Key → Bool} {n : Nat}
theorem setM_tail {g : Bool → Sem Unit} (hg : ∀ (b : Bool) (s1 : Shared) (Z : Unit → Shared → Prop), Z () s1 → wpAny (model P w) A (g b) Z E s1)
    {o : Obj} {es : Array (Int × Value)} {ep : Nat} {t : SetTable} (ho : s.heap.get? a = some o) (hex : o.ExactSet) (hd : o.data = .set es ep t)
    {es1 : Array (Int × Value)} {t2 : SetTable} {S1 : Key → Bool} (g1 : ∀ e ∈ es1.toList, GoodM P w e) (m1 : (es1.toList.map keyE).Nodup ∧ ∀ k, S1 k = true ↔ some k ∈ es1.toList.map keyE)
    (hb : es1.size < scanBound) (hf : t2.fits es1.size = true) (hr : Ris t2.place.toList) (hl : w.params.followText "set-order" = true ∨ t2.led = true) {wd : Bool} {R : Option Bool → Shared → Prop}
    (hR : ∀ h', Heap.SameBut a s.heap h' → SetM P w h' a S1 es1.size → R (some true) { s with heap := h' }) :
    wpAny (model P w) A (do storeSet a es1 t2
                            if (!wd && t2.tooFull) = true then do g (relayAll t2 es1 (SetTable.grown es1.size)).2.2
                                                                  storeSet a (relayAll t2 es1 (SetTable.grown es1.size)).1 (relayAll t2 es1 (SetTable.grown es1.size)).2.1
                                                                  pure (some true)
                            else pure (some true)) R E s := by
  have o1 := store_at (es' := es1) (t' := t2) ho hd
  have b1 := Heap.SameBut.update s.heap a (Obj.putSet es1 t2)
  refine wpAny_bind (wpAny_storeSet_of ho hd ?_ (fits_of_scanBound hb))
  split
  · have pm := relayAll_perm t2 es1 (SetTable.grown es1.size)
    have f3 := relayAll_fits t2 es1 (SetTable.grown es1.size)
    have r3 := relayAll_ris t2 es1 (SetTable.grown es1.size)
    have l3 := relayAll_led t2 es1 (SetTable.grown es1.size)
    revert pm f3 r3 l3
    generalize relayAll t2 es1 (SetTable.grown es1.size) = Z
    obtain ⟨es2, t3, gv⟩ := Z
    intro pm f3 r3 l3
    have hz : es2.size = es1.size := by simpa using pm.length_eq
    refine wpAny_bind (hg _ _ _ (wpAny_bind (wpAny_storeSet_of o1 rfl (wpAny_pure (hR _ (b1.trans (Heap.SameBut.update _ a _)) ?_)) (fits_of_scanBound (by rw [hz]; exact hb)))))
    exact ⟨_, es2, _, t3, store_at (es' := es2) (t' := t3) o1 rfl, hex, rfl, fun e he => g1 e (pm.mem_iff.mp he), ⟨(pm.map keyE).nodup_iff.mpr m1.1, fun k => (m1.2 k).trans (pm.map keyE).mem_iff.symm⟩, by rw [hz]; exact hb, f3, hz, r3, hl.imp id fun z => l3.trans z⟩
  · exact wpAny_pure (hR _ b1 ⟨_, es1, _, t2, o1, hex, rfl, g1, m1, hb, hf, rfl, hr, hl⟩)
/-- a key is put in -/
theorem setM_add {k : Key} {u : Value} (hk : RelV (kV k) u) {Q : Bool → Shared → Prop} (R : SetM P w s.heap a S n) (room : n + 1 < scanBound)
    (hQ : ∀ h', Heap.SameBut a s.heap h' → SetM P w h' a (fun j => S j || decide (j = k)) (if S k = true then n else n + 1) → Q (!S k) { s with heap := h' }) :
    wpAny (model P w) A (setAddHashed a u ((mixKind P w).hash k)) Q E s := by
  obtain ⟨o, es, ep, t, ho, hex, hd, g, ⟨nd, hm⟩, hb, hf, hn, hr, hl⟩ := R
  have is1 : (mixKind P w).is k u = true := kV_is hk
  have sc1 : u.scannable = true := key_scan hk
  have el1 : ElemsOf (mixKind P w) es.toList := goodM_elems g
  unfold setAddHashed setAddHashedIn
  refine wpAny_holding (wpAny_bind (wpAny_setState_of ho hd hf ?_))
  dsimp only
  rw [byScan_of sc1 hb el1]
  simp only [↓reduceIte]
  unfold setAddByScan
  refine wpAny_bind (wpAny_bind (wpAny_rule (wpAny_bind (wpAny_setScan_of is1 ho hd hf el1 ?_))))
  cases hfi : List.findIdx? (fun e => (mixKind P w).is k e.2) es.toList with
  | some j =>
    obtain ⟨hj, pj, _⟩ := List.findIdx?_eq_some_iff_getElem.mp hfi
    have hS : S k = true := (hm k).mpr ((goodM_mem g k).mpr ⟨_, List.getElem_mem hj, pj⟩)
    have q := hQ s.heap (Heap.SameBut.refl a s.heap)
    rw [hS, if_pos rfl] at q
    refine wpAny_pure (wpAny_pure (q ⟨o, es, ep, t, ho, hex, hd, g, ⟨nd, fun i => ?_⟩, hb, hf, hn, hr, hl⟩))
    rw [Bool.or_eq_true, decide_eq_true_eq, ← hm i]
    exact ⟨fun z => z.elim id fun e => e ▸ hS, Or.inl⟩
  | none =>
    have hnk : some k ∉ es.toList.map keyE := fun z => by
      obtain ⟨e, he, q⟩ := (goodM_mem g k).mp z
      have c := List.findIdx?_eq_none_iff.mp hfi e he
      rw [c] at q
      cases q
    have hS : S k = false := by
      cases q : S k with
      | true => exact absurd ((hm k).mp q) hnk
      | false => rfl
    have rl : ∀ (b : Bool) {s1 : Shared} {Z : Unit → Shared → Prop}, Z () s1 → wpAny (model P w) A (match b with | true => rule "set.scan.the-table-gave-way" | false => pure ()) Z E s1 := fun b s1 Z q => by
      cases b <;> first | exact wpAny_pure q | exact wpAny_rule q
    have pm := layNew_perm t es ((mixKind P w).hash k) u
    have f1 := layNew_fits t es ((mixKind P w).hash k) u
    have r1 := layNew_ris t es ((mixKind P w).hash k) u hr
    have l1 := layNew_led t es ((mixKind P w).hash k) u
    revert pm f1 r1 l1
    generalize layNew t es ((mixKind P w).hash k) u = Z
    obtain ⟨es1, t1, wd, gv⟩ := Z
    intro pm f1 r1 l1
    dsimp only at pm f1 r1 l1 ⊢
    rw [Array.toList_push] at pm
    have pc : es1.toList.Perm (((mixKind P w).hash k, u) :: es.toList) := pm.trans (List.perm_append_singleton _ _)
    have pk : (es1.toList.map keyE).Perm (some k :: es.toList.map keyE) := by
      have e := pc.map keyE
      rw [List.map_cons, show keyE ((mixKind P w).hash k, u) = some k from keyM_rel hk] at e
      exact e
    have g1 : ∀ e ∈ es1.toList, GoodM P w e := fun e he => by
      rcases List.mem_cons.mp (pc.mem_iff.mp he) with rfl | z
      · exact ⟨k, hk, rfl⟩
      · exact g e z
    have m1 : (es1.toList.map keyE).Nodup ∧ ∀ i, (S i || decide (i = k)) = true ↔ some i ∈ es1.toList.map keyE := by
      refine ⟨pk.nodup_iff.mpr (List.nodup_cons.mpr ⟨hnk, nd⟩), fun i => ?_⟩
      rw [Bool.or_eq_true, decide_eq_true_eq, hm i, pk.mem_iff, List.mem_cons, Option.some_inj]
      exact Or.comm
    have hz : es1.size = n + 1 := by
      have e := pc.length_eq
      simp only [List.length_cons, Array.length_toList] at e
      omega
    have hb1 : es1.size < scanBound := hz ▸ room
    have hl1 : w.params.followText "set-order" = true ∨ t1.led = true := hl.imp id fun z => l1.trans z
    have fin : ∀ h', Heap.SameBut a s.heap h' → SetM P w h' a (fun j => S j || decide (j = k)) es1.size → Q true { s with heap := h' } := fun h' sb r => by
      have q := hQ h' sb
      rw [hS] at q
      exact q (by rw [← hz]; exact r)
    refine wpAny_bind (rl _ ?_)
    split
    · refine wpAny_bind ?_
      rw [hashByValue_scannable 8 sc1]
      refine wpAny_pure (setM_tail (fun b s1 Z q => by cases b <;> first | exact wpAny_pure q | exact wpAny_rule q) ho hex hd g1 m1 hb1 ?_ ?_ ?_ fun h' sb r => wpAny_pure (fin h' sb r))
      · first | exact f1 | (split <;> first | exact f1 | exact SetTable.fits_plain_off f1)
      · first | exact r1 | (split <;> exact r1)
      · first | exact hl1 | (split <;> exact hl1)
    · refine wpAny_bind (wpAny_pure ?_)
      simp only [↓reduceIte]
      exact setM_tail (fun b s1 Z q => by cases b <;> first | exact wpAny_pure q | exact wpAny_rule q) ho hex hd g1 m1 hb1 f1 r1 hl1 fun h' sb r => wpAny_pure (fin h' sb r)
end
end Ax
end
section
set_option maxHeartbeats 4000000
namespace Ax
open PySem PySem.Spec PyProof.Rows L2
section
variable {P : Program} {w : World} {A : Around} {E : Value → Shared → Prop} {s : Shared}
/-- one of the keys -/
def inKs (ks : List Key) (j : Key) : Bool := ks.any fun i => decide (i = j)
theorem inKs_iff {ks : List Key} {j : Key} : inKs ks j = true ↔ j ∈ ks := by
  unfold inKs
  rw [List.any_eq_true]
  exact ⟨fun ⟨x, h1, h2⟩ => of_decide_eq_true h2 ▸ h1, fun h => ⟨j, h, decide_eq_true rfl⟩⟩
theorem setM_start {h : Heap} {a : Addr} {S : Key → Bool} (hS : ∀ k, S k = false) (ho : h.get? a = some { cls := .type "set", dict := none, data := .set #[] 0 (.fresh 0 0 (!w.params.followText "set-order")) }) : SetM P w h a S 0 := by
  refine ⟨_, #[], 0, _, ho, ⟨rfl, rfl, rfl⟩, rfl, fun e he => by simp at he, ⟨by simp, fun k => by simp [hS k]⟩, by decide, rfl, rfl, List.Pairwise.nil, ?_⟩
  cases e : w.params.followText "set-order"
  · exact .inr rfl
  · exact .inl rfl
/-- the items of a walk are put in -/
theorem setM_loop {I : Addr} {fp wr : List Addr} {G : Array GenState → Array GenState → Prop} {n : Nat} {Pv : Nat → Value → Prop} {St : Nat → Shared → Prop} {R : Result → Shared → Prop} (W : WalksS P w A.in1 I fp wr G n Pv St) (S : Addr) (hSf : S ∉ fp) (ks : List Key) (hn : n = ks.length)
    (hb : ks.length + 1 < scanBound) (hval : ∀ (i : Nat) (v : Value), Pv i v → ∃ k, ks[i]? = some k ∧ RelV (kV k) v) : ∀ (m i : Nat) (s : Shared), n - i = m → i ≤ n → St i s → (∃ c, c ≤ i ∧ SetM P w s.heap S (inKs (ks.take i)) c) →
      (∀ s' c, Moved (S :: wr) G s s' → c ≤ n → SetM P w s'.heap S (inKs ks) c → R (.ok (.ret .none)) s') → codeAny (model P w) A (.builtin "set.update.loop" ⟨[.ref S, .ref I], []⟩) R s := by
  have nw : S ∉ wr := fun h => hSf (W.sub _ h)
  have sub : ∀ b ∈ wr, b ∈ S :: wr := fun _ => List.mem_cons_of_mem _
  intro m
  induction m with
  | zero =>
    intro i s hm hi hst ⟨c, hc, hS⟩ hR
    obtain rfl : i = n := by omega
    refine codeAny_builtin F.entry_set_update_loop ?_; rw [Around.under_plainId F.plain_set_update_loop _]
    show wpAny _ A.in1 (pyNext (.ref I) >>= _) _ _ s; refine wpAny_bind (W.done s _ _ hst fun s' mv => ?_)
    show wpAny _ A.in1 (ret Value.none) _ _ s'; refine wpAny_pure (hR s' c (mv.mono sub) hc ?_)
    rw [show ks.take i = ks from List.take_of_length_le (by omega)] at hS
    exact hS.keep fun o e => mv.heap S o nw e
  | succ m ih =>
    intro i s hm hi hst ⟨c, hc, hS⟩ hR
    have lt : i < n := by omega
    refine codeAny_builtin F.entry_set_update_loop ?_; rw [Around.under_plainId F.plain_set_update_loop _]
    show wpAny _ A.in1 (pyNext (.ref I) >>= _) _ _ s; refine wpAny_bind (W.item i s _ _ lt hst fun v s' hP hst' mv => ?_)
    obtain ⟨k, hk, rk⟩ := hval i v hP
    have hS1 : SetM P w s'.heap S (inKs (ks.take i)) c := hS.keep fun o e => mv.heap S o nw e
    show wpAny _ A.in1 (holding [v] (setAdd S v) >>= _) _ _ s'; refine wpAny_bind (wpAny_holding ?_); unfold setAdd
    refine wpAny_holding (wpAny_bind ((mixKind P w).pyHash (k := k) (kV_is rk) ?_))
    refine setM_add (s := { s' with toks := s'.toks + 1 }) rk hS1 (by omega) fun h' sb hS2 => ?_
    have hS3 : SetM P w h' S (inKs (ks.take (i + 1))) (if inKs (ks.take i) k = true then c else c + 1) := hS2.as fun j => by
      rw [List.take_add_one, hk]
      unfold inKs
      rw [List.any_append]
      congr 1
      simp only [Option.toList_some, List.any_cons, List.any_nil, Bool.or_false]
      rw [Bool.eq_iff_iff, decide_eq_true_iff, decide_eq_true_iff]
      exact eq_comm
    refine wpAny_pure ⟨plainId_quiet F.plain_set_update_loop _, ih (i + 1) _ (by omega) lt (W.frame _ s' _ _ hst' (Nat.le_succ _) fun b hb o e => (sb.2 b fun h => hSf (h ▸ hb)).trans e) ⟨_, by split <;> omega, hS3⟩ fun s2 c2 mv2 hc2 hS4 => hR s2 c2 (Moved.trans W.gtrans ((mv.mono sub).then_heap (Nat.le_succ _) fun b o hb e => (sb.2 b fun h => hb (h ▸ List.mem_cons_self)).trans e) mv2) hc2 hS4⟩
/-- set(xs) of a list of ints and texts -/
theorem call_setM {l : Addr} {items : Array Value} (ks : List Key) {Q : Value → Shared → Prop} (hh : A.handled = none) (hl : s.heap.IsList l items) (hsz : items.size = ks.length) (hval : ∀ (i : Nat) (v : Value), items[i]? = some v → ∃ k, ks[i]? = some k ∧ RelV (kV k) v) (hb : ks.length + 1 < scanBound)
    (h : ∀ (h' : Heap) (tk c : Nat), SetM P w h' s.heap.objs.size (inKs ks) c → c ≤ ks.length → (∀ b o, s.heap.get? b = some o → h'.get? b = some o) → Q (.ref s.heap.objs.size) { s with heap := h', toks := tk }) : wpAny (model P w) A (call (.type "set") [.ref l]) Q E s := by
  have mro1 := F.called_set.mro
  obtain ⟨c0, tl, hmro⟩ := mro1
  have made1 := F.called_set.made
  have sub1 := F.called_set.sub
  refine wpAny_call (codeAny_of_tree ?_); show wpAny _ _ (callAny (.type "set") _) _ _ _
  refine wpAny_pure ⟨Code.quiet_builtin _ (by decide +kernel), codeAny_builtin F.entry_type_call ?_⟩; rw [Around.under_plain (weight_type_call_type "set" [.ref l] []) rfl]
  have nt1 := F.called_set.notType; have cc1 := F.called_set.canCreate; have tc1 := F.typeCall_set_1 (.ref l)
  repeat (any_goals (first | assumption | wp_step))
  generalize hO : ({ cls := .type "set", dict := none, data := .set #[] 0 (.fresh 0 0 (!w.params.followText "set-order")) } : Obj) = O
  refine codeAny_mono (code_set_led1 (.ref l) (E := E) (Q₁ := fun obj s1 => obj = .ref s.heap.objs.size ∧ s1 = { s with heap := s.heap.push O }) ⟨rfl, by rw [← hO]⟩) fun r s1 hr => ?_
  cases r with
  | error e => exact hr
  | ok fl =>
    cases fl with
    | ret obj =>
      obtain ⟨rfl, rfl⟩ := hr
      have atS : (s.heap.push O).get? s.heap.objs.size = some O := by rw [← hO]; exact Heap.get?_push_size _ rfl
      have ty1 : Shared.TypeIs { s with heap := s.heap.push O } (.ref s.heap.objs.size) "set" := ⟨_, atS, by rw [← hO]⟩
      have li1 := F.called_set.init.lookup; have bi1 := F.called_set.init.bind (.ref s.heap.objs.size)
      repeat (any_goals (first | assumption | wp_step))
      refine codeAny_mono (codeAny_call_builtin (R := wants (fun r s2 => r = .none ∧ ∃ h' tk c, s2 = { s with heap := h', toks := tk } ∧ SetM P w h' s.heap.objs.size (inKs ks) c ∧ c ≤ ks.length ∧ ∀ b o, s.heap.get? b = some o → h'.get? b = some o) E)
        F.called_set.init.plain F.entry_set_init (check_set_init_1 ty1 ?_)) fun r2 s2 hr2 => ?_
      · obtain ⟨⟨ocls, odict, odata, oslots⟩, hol, hcl, nl, hdl⟩ := hl
        simp only at hcl hdl
        subst hcl hdl
        have hol1 : (s.heap.push O).get? l = some { cls := .type "list", dict := odict, data := .seq items nl, slots := oslots } := Heap.get?_push_of_some _ hol
        have sl1 := F.sub_list_set; have sf1 := F.sub_list_frozenset; have ne1 : (Value.type "list" == Value.type "dict") = false := by decide
        have hl1 : (s.heap.push O).IsList l items := ⟨_, hol1, rfl, nl, rfl⟩
        subst hO; unfold Builtin.«set.__init__» noKeywords Builtin.Frozenset.updateFrom
        generalize hPI : pyIter = PI; wp_walk; subst hPI
        refine wpAny_pyIter_list hl1 ?_; refine wpAny_bind (wpAny_runValue ?_)
        have ltl : l < s.heap.objs.size := Heap.lt_size hol
        have hd3 : A.in1.in1.in1.handled = none := by simpa using hh
        have zI := Heap.size_push s.heap ({ cls := .type "set", dict := none, data := .set #[] 0 (.fresh 0 0 (!w.params.followText "set-order")) } : Obj)
        have neI : l ≠ (s.heap.push ({ cls := .type "set", dict := none, data := .set #[] 0 (.fresh 0 0 (!w.params.followText "set-order")) } : Obj)).objs.size := by rw [zI]; exact Nat.ne_of_lt (Nat.lt_succ_of_lt ltl)
        have nfS : s.heap.objs.size ∉ [(s.heap.push ({ cls := .type "set", dict := none, data := .set #[] 0 (.fresh 0 0 (!w.params.followText "set-order")) } : Obj)).objs.size, l] := by
          intro z; rw [zI] at z
          rcases List.mem_cons.mp z with z | z
          · exact absurd z (Nat.ne_of_lt (Nat.lt_succ_self _))
          · exact absurd (List.mem_singleton.mp z) (Nat.ne_of_gt ltl)
        refine setM_loop ((Walks.list hd3 _ l neI items).toS) s.heap.objs.size nfS ks hsz hb hval (items.size - 0) 0 _ (by omega) (Nat.zero_le _) ⟨⟨_, Heap.get?_push_size _ rfl, rfl, rfl⟩, hl1.push _⟩ ⟨0, Nat.le_refl 0, ?_⟩ ?_
        · exact setM_start (fun k => rfl) (Heap.get?_push_of_some _ atS)
        · intro s' c mv hc hS
          obtain ⟨h', g2, d', tk', os'⟩ := s'
          have e1 : g2 = s.gens := mv.gens; have e2 : d' = s.drawn := mv.drawn; have e3 : os' = s.os := mv.os
          subst e1 e2 e3
          show wpAny _ _ _ _ _ _; refine wpAny_pure ?_; show wpAny _ _ (ret Value.none) _ _ _
          refine wpAny_pure ⟨rfl, h', tk', c, rfl, hS, by omega, fun b o e => ?_⟩
          have b1 : b < s.heap.objs.size := Heap.lt_size e
          refine mv.heap b o (fun z => ?_) (Heap.get?_push_of_some _ (Heap.get?_push_of_some _ e))
          rw [zI] at z
          rcases List.mem_cons.mp z with z | z
          · exact Nat.ne_of_lt b1 z
          · exact Nat.ne_of_lt (Nat.lt_succ_of_lt b1) (List.mem_singleton.mp z)
      · cases r2 with
        | error e => exact hr2
        | ok f2 =>
          cases f2 with
          | ret r =>
            obtain ⟨rfl, h', tk, c, rfl, hS, hc, hk⟩ := hr2
            repeat (any_goals (first | assumption | wp_step))
            exact h _ _ _ hS hc hk
          | _ => exact hr2.elim
    | _ => exact hr.elim
end
end Ax
end
section
set_option maxHeartbeats 4000000
namespace Ax
open PySem PySem.Spec PyProof.Rows L2
/-- the set of texts at a: its members are those of zs -/
def SetSO (P : Program) (w : World) (a : Addr) (zs : List Str) : HO := .ext fun h => ∃ c, SetM P w h a (inKs (zs.map Sum.inr)) c ∧ c ≤ zs.length
theorem setSO_new {P : Program} {w : World} {H : Hp} {h : Heap} {a : Addr} {zs : List Str} {c : Nat} (R : SetM P w h a (inKs (zs.map Sum.inr)) c) (hc : c ≤ zs.length) : ObjOk P w H h a (SetSO P w a zs) := by
  have ⟨o, _, _, _, ho, _⟩ := R
  exact ⟨⟨c, R, hc⟩, ⟨o, ho⟩, fun h1 h2 ⟨c, p, hc⟩ k => ⟨c, p.keep k, hc⟩⟩
theorem valsK {zs : List Str} {us : List Value} (r : Vals (zs.map V.str) us) : ∀ (i : Nat) (v : Value), us[i]? = some v → ∃ k, (zs.map (Sum.inr : Str → Key))[i]? = some k ∧ RelV (kV k) v := by
  induction zs generalizing us with
  | nil => intro i v h; cases r; simp at h
  | cons z zs ih =>
    intro i v h
    cases r with
    | cons r1 r2 =>
      cases i with
      | zero =>
        simp at h
        subst h
        exact ⟨.inr z, rfl, r1⟩
      | succ i =>
        obtain ⟨k, h1, h2⟩ := ih r2 i v (by simpa using h)
        exact ⟨k, by simpa using h1, h2⟩
section
variable {X : Cx} {H : Hp} {Q : VK}
theorem kv_setS {p : Addr} {zs : List Str} (hc : X.calm = true) (hp : SqL X.K H p (zs.map V.str)) (hn : zs.length ≤ 2000) (h : ∀ q H2, Same H H2 → H q = none → H2 q = some (SetSO X.prog X.w q zs) → Q (.ref q) H2) : CallV X (.type "set") [.ref p] H Q := by
  refine ⟨fun vs H' Q' => vs = [.ref p] ∧ H' = H ∧ Q' = Q, ?_, rfl, rfl, rfl⟩
  rintro pins s σ H0 vs us Q0 I r ⟨rfl, rfl, rfl⟩
  rw [L2.Vals.ref1 r]
  obtain ⟨its, rv, pl, _⟩ := I.list hp
  have hl : its.length = zs.length := by rw [← rv.length, List.length_map]
  refine call_setM (P := X.prog) (w := X.w) (zs.map Sum.inr) (I.ok.hd hc) pl.isList (by rw [List.size_toArray, List.length_map]; exact hl) (fun i v e => valsK rv i v (by simpa using e)) (by rw [List.length_map]; exact Nat.lt_of_le_of_lt (show zs.length + 1 ≤ 2001 by omega) (by decide)) fun h' tk c R hc2 k => ?_
  have hn1 := I.hok.fresh (Nat.le_refl s.heap.objs.size)
  rw [List.length_map] at hc2
  exact ⟨.ref s.heap.objs.size, upd H0 s.heap.objs.size (SetSO X.prog X.w s.heap.objs.size zs), I.laid (t' := tk) k (Nat.le_refl _) (setSO_new R hc2), rfl, h _ _ (same_new hn1) hn1 upd_same⟩
theorem strs_list : ∀ (l : List Value), (∀ v ∈ l, ∃ x t, v = Value.str x t) → ∃ ss : List Str, StrsAre l ss ∧ l.map keyM = ss.map fun x => some (.inr x)
  | [], _ => ⟨[], .nil, rfl⟩
  | v :: l, h => by
    obtain ⟨x, t, rfl⟩ := h _ List.mem_cons_self
    obtain ⟨ss, h1, h2⟩ := strs_list l fun v hv => h v (List.mem_cons_of_mem _ hv)
    exact ⟨x :: ss, .cons x t h1, by rw [List.map_cons, List.map_cons, h2]; rfl⟩
theorem sorted_setS {P : Program} {w : World} {A : Around} {E : Value → Shared → Prop} {s : Shared} {a : Addr} {zs : List Str} {n : Nat} {Q : Value → Shared → Prop} (R : SetM P w s.heap a (inKs (zs.map Sum.inr)) n) (hh : A.handled = none) (few : n < 64)
    (hQ : ∀ s' p (out : Array Value) (c : Nat) (ys : List Str), (∀ b o, s.heap.get? b = some o → s'.heap.get? b = some o) → s'.gens = s.gens → s'.os = s.os → s.heap.objs.size ≤ p → s'.heap.get? p = some (seqObj "list" out c) → StrsAre out.toList ys → sortedS ys = true → ys.Nodup → (∀ z, z ∈ ys ↔ z ∈ zs) → ys.length = n → Q (.ref p) s') :
    wpAny (model P w) A (call (.builtin "sorted") [.ref a]) Q E s := by
  obtain ⟨o, es, ep, t, ho, hex, hd, g, ⟨nd, hm⟩, hb, hf, hn, hr, hl⟩ := R
  have gs : ∀ e ∈ es.toList, ∃ x t, e.2 = Value.str x t ∧ x ∈ zs := fun e he => by
    obtain ⟨k, r, _⟩ := g e he
    have e1 : keyE e = some k := keyM_rel r
    have e2 := (hm k).mpr (e1 ▸ List.mem_map_of_mem he)
    obtain ⟨x, hx, rfl⟩ := List.mem_map.mp (inKs_iff.mp e2)
    obtain ⟨t, e3⟩ := r
    exact ⟨x, t, e3, hx⟩
  refine Calls.call_function_entry kind_sorted plain_sorted entry_sorted (args_sorted1 _) ?_; unfold Builtin.«sorted»
  refine wpAny_bind (m := checkCount "sorted" 1 1 _) (wpAny_pure ?_); refine wpAny_bind (collect_set (A := A.in1) hh ⟨o, ho, hex.1, hd⟩ hf hb hr hl fun s1 vs k1 hz g1 o1 pm => ?_)
  have lv : vs.length = n := by rw [pm.length_eq, List.length_map, Array.length_toList, hn]
  obtain ⟨ss, hS, hK⟩ := strs_list vs fun v hv => by
    obtain ⟨e, he, q⟩ := List.mem_map.mp (pm.mem_iff.mp hv)
    obtain ⟨x, t, e1, _⟩ := gs e he
    exact ⟨x, t, by rw [← q]; exact e1⟩
  have pk : (ss.map fun x => some (Sum.inr x : Key)).Perm (es.toList.map keyE) := by
    have q := pm.map keyM
    rw [hK, List.map_map] at q
    exact q
  have mem : ∀ z, z ∈ ss ↔ z ∈ zs := fun z => by
    have e1 : z ∈ ss ↔ some (Sum.inr z : Key) ∈ ss.map fun x => some (Sum.inr x : Key) := by
      rw [List.mem_map]
      exact ⟨fun h => ⟨z, h, rfl⟩, fun ⟨x, h, e⟩ => by cases e; exact h⟩
    rw [e1, pk.mem_iff, ← hm, inKs_iff, List.mem_map]
    exact ⟨fun ⟨x, h, e⟩ => by cases e; exact h, fun h => ⟨z, h, rfl⟩⟩
  have nds : ss.Nodup := List.Pairwise.of_map (fun x => some (Sum.inr x : Key)) (fun a b h e => h (by rw [e])) (pk.nodup_iff.mpr nd)
  refine wpAny_bind (wpAny_newList ?_ (by rw [lv, sizeLine_eq]; omega))
  have atL : (s1.heap.push (seqObj "list" vs.toArray 0)).get? s1.heap.objs.size = some (seqObj "list" vs.toArray 0) := Heap.get?_push_size _ rfl
  refine wpAny_bind (wpAny_holding (wpAny_call_entry slot_list_sort ⟨_, atL, rfl⟩ entry_list_sort (list_sort_treeK strKind_oneLt atL hS.keysOf (fun v1 v2 rest e => keyKind_strs (by rw [← e]; exact hS)) (by rw [lv]; exact few) fun st' hp hs => ⟨_, rfl, ?_⟩) (args_list_sort _)))
  obtain ⟨ys, y1, y2, y3⟩ := sorted_out_str hS hp hs
  obtain ⟨c, hc⟩ := sortedHeap_at (vs := vs) (out := (arrOf st').map (·.2)) atL
  refine wpAny_pure ⟨_, rfl, hQ _ s1.heap.objs.size ((arrOf st').map (·.2)) c ys (fun b u e => ?_) g1 o1 hz hc y1 y3 (y2.nodup_iff.mpr nds) (fun z => y2.mem_iff.trans (mem z)) ?_⟩
  · have lt1 := Heap.lt_size (k1 b u e)
    exact (sortedHeap_old (Nat.ne_of_lt lt1) (by rw [size_push']; exact Nat.lt_succ_of_lt lt1)).trans (Heap.get?_push_of_some _ (k1 b u e))
  · rw [y2.length_eq]
    have e := pk.length_eq
    simp only [List.length_map, Array.length_toList] at e
    exact e.trans hn
theorem kv_sortedSetS {a : Addr} {zs : List Str} (hc : X.calm = true) (ha : H a = some (SetSO X.prog X.w a zs)) (few : ∃ L : List Str, L.length < 64 ∧ ∀ z ∈ zs, z ∈ L)
    (h : ∀ ys q H2, Same H H2 → H q = none → H2 q = some (.lst (ys.map V.str)) → sortedS ys = true → ys.Nodup → (∀ z, z ∈ ys ↔ z ∈ zs) → Q (.ref q) H2) : CallV X (.builtin "sorted") [.ref a] H Q := by
  refine ⟨fun vs H' Q' => vs = [.ref a] ∧ H' = H ∧ Q' = Q, ?_, rfl, rfl, rfl⟩
  rintro pins s σ H0 vs us Q0 I r ⟨rfl, rfl, rfl⟩
  rw [L2.Vals.ref1 r]
  obtain ⟨n, R, hn⟩ := (I.hok a _ ha).1
  obtain ⟨L, l1, l2⟩ := few
  have f64 : n < 64 := by
    obtain ⟨o, es, ep, t, ho, hex, hd, g, ⟨nd, hm⟩, hb, hf, en, _⟩ := R
    have q : (es.toList.map keyE).length ≤ (L.map fun z => some (Sum.inr z : Key)).length := by
      have go : ∀ {xs M : List (Option Key)}, xs.Nodup → (∀ z ∈ xs, z ∈ M) → xs.length ≤ M.length := fun {xs M} a b => by
        classical exact nodup_len a b
      refine go nd fun z hz => ?_
      obtain ⟨e, he, q⟩ := List.mem_map.mp hz
      obtain ⟨k, r, _⟩ := g e he
      have e1 : keyE e = some k := keyM_rel r
      obtain ⟨x, hx, e2⟩ := List.mem_map.mp (inKs_iff.mp ((hm k).mpr (e1 ▸ List.mem_map_of_mem he)))
      rw [← q, e1, ← e2]
      exact List.mem_map.mpr ⟨x, l2 x hx, rfl⟩
    rw [List.length_map, List.length_map, Array.length_toList] at q
    omega
  refine sorted_setS R (I.ok.hd hc) f64 fun s' p out c ys k g o hp hg hi h3 h4 h5 h6 => ?_
  have hlen : (ys.map V.str).length ≤ sizeLine := by rw [List.length_map, h6]; exact Nat.le_trans (Nat.le_of_lt f64) (by decide)
  have nn : H0 p = none := I.hok.fresh hp
  have J : Inv X pins σ (upd H0 p (.lst (ys.map V.str))) { s with heap := s'.heap, gens := s'.gens, drawn := s'.drawn, toks := s'.toks } :=
    I.call (ch := []) (Un.laid k hp nn) (I.hok.laid k hp ⟨hlen, out.toList, c, vals_of_strs hi, hg⟩) (by rw [g]; exact I.bare) (fun _ z => nomatch z)
  have e : s' = { s with heap := s'.heap, gens := s'.gens, drawn := s'.drawn, toks := s'.toks } := by
    obtain ⟨_, _, _, _, _⟩ := s'
    cases o
    rfl
  rw [e]
  exact ⟨.ref p, _, J, rfl, h ys p _ (same_new nn) nn upd_same h3 h4 h5⟩
end
theorem ltCps_iff : ∀ a b : List Nat, ltCps a b = true ↔ a < b
  | [], [] => by simp [ltCps]
  | [], b :: t => by simp [ltCps]
  | a :: r, [] => by simp [ltCps]
  | a :: r, b :: t => by
    rw [ltCps, List.cons_lt_cons_iff, Bool.or_eq_true, Bool.and_eq_true, decide_eq_true_iff, beq_iff_eq, ltCps_iff r t]
def leS (a b : Str) : Prop := ¬ b.cps.toList < a.cps.toList
theorem leS_trans {a b c : Str} (h : leS a b) (k : leS b c) : leS a c := fun q => by
  have h1 : a.cps.toList ≤ b.cps.toList := h
  have h2 : b.cps.toList ≤ c.cps.toList := k
  exact (List.le_trans h1 h2) q
theorem rising_pair : ∀ (p : Str) (l : List Str), risingS p l = true → (p :: l).Pairwise leS
  | p, [], _ => by simp
  | p, x :: r, h => by
    have h : (!ltCps x.cps.toList p.cps.toList && risingS x r) = true := h
    rw [Bool.and_eq_true, Bool.not_eq_true'] at h
    have ih := rising_pair x r h.2
    have px : leS p x := fun q => by
      have := (ltCps_iff _ _).mpr q
      rw [h.1] at this
      cases this
    refine List.pairwise_cons.mpr ⟨fun y hy => ?_, ih⟩
    rcases List.mem_cons.mp hy with e | hy
    · rw [e]; exact px
    · exact leS_trans px ((List.pairwise_cons.mp ih).1 y hy)
theorem sorted_pair : ∀ {l : List Str}, sortedS l = true → l.Pairwise leS
  | [], _ => .nil
  | x :: r, h => rising_pair x r h
theorem leS_anti {a b : Str} (h : leS a b) (k : leS b a) : a = b := by
  have e : a.cps.toList = b.cps.toList := List.le_antisymm (show a.cps.toList ≤ b.cps.toList from h) (show b.cps.toList ≤ a.cps.toList from k)
  obtain ⟨⟨x⟩⟩ := a
  obtain ⟨⟨y⟩⟩ := b
  have e : x = y := e
  rw [e]
/-- two rising lists of the same texts are one -/
theorem sortedS_uniq {ys zs : List Str} (hy : sortedS ys = true) (hz : sortedS zs = true) (ny : ys.Nodup) (nz : zs.Nodup) (h : ∀ z, z ∈ ys ↔ z ∈ zs) : ys = zs :=
  List.Perm.eq_of_pairwise (fun a b _ _ => leS_anti) (sorted_pair hy) (sorted_pair hz) ((List.perm_ext_iff_of_nodup ny nz).mpr h)
end Ax
end
section
set_option maxHeartbeats 4000000
/-! sets whose members are tuples of ints and texts: the search, what is put in -/
namespace Ax
open PySem PySem.Spec PyProof.Rows L2
theorem forIn_still {α β : Type} {b : β} {f : α → β → Sem (ForInStep β)} : ∀ {l : List α}, (∀ v ∈ l, f v b = pure (.yield b)) → forIn l b f = pure b
  | [], _ => rfl
  | v :: l, h => by
    rw [List.forIn_cons, h v List.mem_cons_self, pure_bind]
    exact forIn_still fun u hu => h u (List.mem_cons_of_mem _ hu)
theorem scan_noclass {v : Value} (n : Nat) (h : v.scannable = true) : ofAClassStatement n v = pure false := by
  cases v <;> first | (cases n <;> rfl) | cases h
section
variable {P : Program} {w : World}
/-- the tuple at b has the keys k -/
abbrev TK (P : Program) (w : World) (h : Heap) (k : List Key) (b : Addr) : Prop := IsTupleKey (mixKind P w) h k b
/-- the hash of a tuple of such keys -/
def hT (P : Program) (w : World) (k : List Key) : Int := tupleKeyHash (mixKind P w) k
theorem TK.keep {h h' : Heap} {k : List Key} {b : Addr} (x : TK P w h k b) (e : ∀ o, h.get? b = some o → h'.get? b = some o) : TK P w h' k b :=
  let ⟨o, its, n, ho, r⟩ := x
  ⟨o, its, n, e o ho, r⟩
theorem TK.other {h h' : Heap} {k : List Key} {a b : Addr} {o : Obj} {es : Array (Int × Value)} {ep : Nat} {t : SetTable} (x : TK P w h k b) (ho : h.get? a = some o) (hd : o.data = .set es ep t) (sb : Heap.SameBut a h h') : TK P w h' k b := by
  have ne : b ≠ a := fun e => by
    obtain ⟨o2, its, n, g1, _, g2, _⟩ := x
    rw [e, ho] at g1
    cases g1
    rw [hd] at g2
    cases g2
  exact x.keep fun u hu => (sb.2 b ne).trans hu
theorem keys_scan {k : List Key} {vs : List Value} (h : ItemsAre (mixKind P w) k vs) : ∀ v ∈ vs, v.scannable = true := by
  induction h with
  | nil => exact fun v hv => absurd hv List.not_mem_nil
  | cons q _ ih =>
    intro v hv
    rcases List.mem_cons.mp hv with rfl | hv
    · rcases keyIs_shape q with ⟨_, _, _, rfl⟩ | ⟨_, _, _, rfl⟩ <;> rfl
    · exact ih v hv
end
section
variable {P : Program} {w : World} {A : Around} {E : Value → Shared → Prop} {s : Shared} {k : List Key} {b : Addr}
theorem tup_noclass {Q : Bool → Shared → Prop} (x : TK P w s.heap k b) (h : Q false s) : wpAny (model P w) A (ofAClassStatement 8 (.ref b)) Q E s := by
  have ty := x.typeIs
  obtain ⟨o, its, n, ho, _, hd, hi⟩ := x
  unfold ofAClassStatement
  refine wpAny_bind (wpAny_typeOf ty ?_)
  dsimp only
  rw [if_pos (show (("tuple" : String) == "tuple") = true by decide)]
  try refine wpAny_bind (wpAny_pure ?_)
  try simp only [Bool.not_true, Bool.false_eq_true, if_false]
  show wpAny _ _ (seqItems? (.ref b) >>= _) _ _ s
  refine wpAny_bind (wpAny_seqItems ho hd ?_)
  dsimp only
  rw [← Array.forIn_toList, forIn_still fun v hv => by rw [scan_noclass _ (keys_scan hi v hv), pure_bind]; rfl]
  exact wpAny_bind (wpAny_pure (wpAny_pure h))
theorem tup_byvalue {Q : Bool → Shared → Prop} (x : TK P w s.heap k b) (h : ∀ v, Q v s) : wpAny (model P w) A (hashByValue 8 (.ref b)) Q E s := by
  have ty := x.typeIs
  obtain ⟨o, its, n, ho, _, hd, hi⟩ := x
  unfold hashByValue
  refine wpAny_bind (wpAny_specialOf ty F.slot_tuple_hash.lookup ?_)
  show wpAny _ _ (seqItems? (.ref b) >>= _) _ _ s
  refine wpAny_bind (wpAny_seqItems ho hd ?_)
  dsimp only
  refine wpAny_bind ?_
  show wpAny _ _ (forIn its _ _) _ _ s
  rw [← Array.forIn_toList]
  refine wpAny_forIn_list _ (fun rest r s2 => r.1 = none ∧ s2 = s ∧ ∀ v ∈ rest, Value.scannable v = true) _ ?_ ?_ _ _ ⟨rfl, rfl, keys_scan hi⟩
  · rintro v rest r s2 ⟨hr, rfl, all⟩
    rw [hashByValue_scannable _ (all v List.mem_cons_self)]
    refine wpAny_bind (wpAny_pure ?_)
    cases plainKind v
    · exact wpAny_pure (wpAny_pure (h _))
    · exact wpAny_pure ⟨rfl, rfl, fun u hu => all u (List.mem_cons_of_mem _ hu)⟩
  · rintro ⟨r1, r2⟩ s2 ⟨e, rfl, _⟩
    cases (show r1 = none from e)
    exact wpAny_pure (h _)
theorem ask_plain {c : Bool} {α : Type} {F : Bool → Sem α} {Q : α → Shared → Prop} (x : TK P w s.heap k b) (h : ∀ v, wpAny (model P w) A (F v) Q E s) : wpAny (model P w) A (if c = true then hashByValue 8 (.ref b) >>= F else pure true >>= F) Q E s := by
  cases c
  · exact wpAny_bind (wpAny_pure (h true))
  · exact wpAny_bind (tup_byvalue x h)
theorem tup_unseen {Q : Bool → Shared → Prop} (x : TK P w s.heap k b) {ys : List Value} (hy : ∀ y ∈ ys, ∃ k2 c, y = Value.ref c ∧ TK P w s.heap k2 c) (h : Q false s) : wpAny (model P w) A (searchCouldBeSeen (.ref b) ys) Q E s := by
  unfold searchCouldBeSeen
  refine wpAny_bind (wpAny_forIn_list _ (fun rest r s2 => r.1 = none ∧ s2 = s ∧ ∀ y ∈ rest, y ∈ ys) _ ?_ ?_ _ _ ⟨rfl, rfl, fun _ z => z⟩)
  · rintro v rest r s2 ⟨_, rfl, sub⟩
    obtain ⟨k2, c, rfl, hc⟩ := hy v (sub v List.mem_cons_self)
    have sub2 : ∀ y ∈ rest, y ∈ ys := fun u hu => sub u (List.mem_cons_of_mem _ hu)
    dsimp only
    by_cases very : (b == c || (carriedByValue (.ref b) && carriedByValue (.ref c))) = true
    · exact wp_if_pos very (wpAny_pure ⟨rfl, rfl, sub2⟩)
    · refine wp_if_neg very (wpAny_bind (wpAny_eqIsQuiet_tuple x ?_))
      simp only [Bool.not_true, Bool.false_eq_true, if_false]
      refine wpAny_bind (wpAny_eqIsQuiet_tuple hc ?_)
      simp only [Bool.not_true, Bool.false_eq_true, if_false]
      refine wpAny_bind (tup_noclass x ?_)
      simp only [Bool.false_eq_true, if_false]
      refine wpAny_bind (tup_noclass hc ?_)
      simp only [Bool.false_eq_true, if_false]
      exact wpAny_pure ⟨rfl, rfl, sub2⟩
  · rintro ⟨r1, r2⟩ s2 ⟨e, rfl, _⟩
    cases (show r1 = none from e)
    exact wpAny_pure h
end
/-! ### the set -/
def entsT (P : Program) (w : World) (L : List (Addr × List Key)) : List (Int × Value) := L.map fun p => (hT P w p.2, Value.ref p.1)
theorem ents_len {P : Program} {w : World} {L : List (Addr × List Key)} {es : Array (Int × Value)} (h : es.toList = entsT P w L) : es.size = L.length := by
  rw [← Array.length_toList, h]
  unfold entsT
  rw [List.length_map]
/-- a set of less than 64 tuples; L: where they lie, and their keys -/
structure SetTK (P : Program) (w : World) (h : Heap) (a : Addr) (L : List (Addr × List Key)) (es : Array (Int × Value)) (ep : Nat) (t : SetTable) : Prop where
  ob : ∃ o, h.get? a = some o ∧ o.ExactSet ∧ o.data = .set es ep t
  ents : es.toList = entsT P w L
  tab : TabOk t (L.map fun p => hT P w p.2)
  once : (L.map (·.2)).Nodup
  tups : ∀ p ∈ L, TK P w h p.2 p.1
  led : w.params.followText "set-order" = true ∨ t.led = true
  room : L.length * 5 < t.mask * 3
  few : L.length < 64
section
variable {P : Program} {w : World} {A : Around} {E : Value → Shared → Prop} {s : Shared} {a : Addr} {L : List (Addr × List Key)} {es : Array (Int × Value)} {ep : Nat} {t : SetTable}
theorem SetTK.size {h : Heap} (R : SetTK P w h a L es ep t) : es.size = L.length := ents_len R.ents
theorem tab_fits {n : Nat} (T : t.place.size = n) (hd : t.dummies = #[]) (hn : n ≤ t.mask) : t.fits n = true := by
  unfold SetTable.fits SetTable.fill
  rw [hd, T, Bool.and_eq_true, beq_iff_eq, decide_eq_true_eq]
  exact ⟨rfl, hn⟩
theorem SetTK.fits {h : Heap} (R : SetTK P w h a L es ep t) : t.fits es.size = true := by
  have z := R.tab.sz
  have r := R.room
  rw [List.length_map] at z
  rw [R.size]
  exact tab_fits z R.tab.dm (by omega)
theorem SetTK.at {h : Heap} (R : SetTK P w h a L es ep t) {i : Nat} {p : Addr × List Key} (e : L[i]? = some p) : es[i]? = some (hT P w p.2, Value.ref p.1) := by
  rw [← Array.getElem?_toList, R.ents]
  unfold entsT
  rw [List.getElem?_map, e]
  rfl
theorem SetTK.whole {h : Heap} (R : SetTK P w h a L es ep t) : ¬ t.gaveWay = true := by
  unfold SetTable.gaveWay
  rw [mask_odd R.tab.mok]
  decide
theorem SetTK.slots {h : Heap} (R : SetTK P w h a L es ep t) {i j : Nat} (e : t.place.toList[i]? = some j) : ∃ p, L[i]? = some p ∧ p ∈ L := by
  have z := R.tab.sz
  have y := (List.getElem?_eq_some_iff.mp e).1
  rw [List.length_map] at z
  rw [Array.length_toList, z] at y
  exact ⟨L[i], List.getElem?_eq_getElem y, List.getElem_mem y⟩
def way0 (t : SetTable) (h : Int) : SetTable.Probe := runAt t.mask (SetTable.bits h % (t.mask + 1)) (SetTable.bits h)
theorem nodummy (m : Nat) : ∀ (n : Nat) (p : SetTable.Probe), p.dummy = none → (nth m p n).dummy = none
  | 0, _, h => h
  | n + 1, p, h => nodummy m n (adv m p) (by unfold adv; split <;> exact h)
/-- the search from the c-th step of its way on; K: the first empty slot -/
theorem find_from (R : SetTK P w s.heap a L es ep t) {x : Addr} {k : List Key} (hx : TK P w s.heap k x) (hu : A.units < cLine) {K : Nat} (hf : K < 10 * SetTable.turns t.mask) (hK : way t.mask (hT P w k) K ∉ t.place.toList) (hb : ∀ c, c < K → way t.mask (hT P w k) c ∈ t.place.toList)
    {Q : SetFound → Shared → Prop} (yes : k ∈ L.map (·.2) → Q (.there none) s) (no : k ∉ L.map (·.2) → Q (.free (way t.mask (hT P w k) K) false) s) :
    ∀ (f c : Nat) (st : Option SetTable.Probe), st.getD (t.probeStart (hT P w k)) = nth t.mask (way0 t (hT P w k)) c → c ≤ K → K < f + c → (∀ (i : Nat) p, L[i]? = some p → p.2 = k → ∃ c', c ≤ c' ∧ c' < K ∧ t.place.toList[i]? = some (way t.mask (hT P w k) c')) →
      wpAny (model P w) A (setSearchFrom a (.ref x) (hT P w k) true f st) Q E s := by
  obtain ⟨o, ho, hex, hd⟩ := R.ob
  intro f
  induction f with
  | zero => intro c st _ h1 h2; omega
  | succ f ih =>
    intro c st hst hc hf2 ahead
    have sh : ∀ q, nth t.mask (nth t.mask (way0 t (hT P w k)) c) q = nth t.mask (way0 t (hT P w k)) (c + q) := fun q => (nth_add t.mask c _ q).symm
    have shj : ∀ q, (nth t.mask (nth t.mask (way0 t (hT P w k)) c) q).j = way t.mask (hT P w k) (c + q) := fun q => congrArg SetTable.Probe.j (sh q)
    have cK : c + (K - c) = K := by omega
    have at_ : ∀ (i : Nat) p, L[i]? = some p → (es[i]?.map (·.1)).getD 0 = hT P w p.2 := fun i p e => by
      rw [R.at e]
      rfl
    rw [setSearchFrom_succ]
    refine wpAny_bind (wpAny_setState_of ho hd R.fits ?_); dsimp only; refine wp_if_neg R.whole ?_
    try refine wpAny_bind (wpAny_pure ?_)
    rcases go_spec t R.tab.ris R.tab.dm (fun i => (es[i]?.map (·.1)).getD 0) (hT P w k) (10 * SetTable.turns t.mask) (K - c) (nth t.mask (way0 t (hT P w k)) c) (nodummy _ _ _ rfl) (by omega)
      (fun q hq => by rw [shj]; exact hb _ (by omega)) (by rw [shj, cK]; exact hK) with ⟨q, i, hq, hi, hh, before, hp⟩ | ⟨before, hp⟩
    · have hp2 : t.probe (fun i => (es[i]?.map (·.1)).getD 0) (hT P w k) (st.getD (t.probeStart (hT P w k))) = some (.candidate (way t.mask (hT P w k) (c + q)) i (nth t.mask (way0 t (hT P w k)) (c + (q + 1)))) := by
        rw [hst, ← shj, ← sh]
        exact hp
      rw [hp2]
      dsimp only
      rw [shj] at hi
      obtain ⟨p, ep1, pm⟩ := R.slots hi
      have rest : wpAny (model P w) A (searchRest a (.ref x) (hT P w k) true f es t (way t.mask (hT P w k) (c + q)) i (nth t.mask (way0 t (hT P w k)) (c + (q + 1)))) Q E s := by
        unfold searchRest
        rw [R.at ep1]
        dsimp only
        refine wpAny_bind (wpAny_holding (wpAny_eqBool_tuple hu (R.tups p pm) hx (wpAny_bind (wpAny_setState_of ho hd R.fits ?_))))
        dsimp only
        by_cases same : p.2 = k
        · exact wp_if_pos (by simp [same]) (wpAny_pure (yes (List.mem_map.mpr ⟨p, pm, same⟩)))
        · have sl : t.slot (way t.mask (hT P w k) (c + q)) = .live i := slot_live R.tab.ris hi
          refine wp_if_neg (by simp [same]) ?_
          try refine wpAny_bind (wpAny_pure ?_)
          rw [sameMem]
          simp only [if_true, sl, R.at ep1]
          refine wpAny_bind (wpAny_isSame_ref_self (wpAny_bind (wpAny_pure ?_)))
          simp only [if_true]
          refine wp_if_neg (by simp [same]) (ih (c + (q + 1)) _ rfl (by omega) (by omega) fun i2 p2 e2 k2 => ?_)
          obtain ⟨c', g1, g2, g3⟩ := ahead i2 p2 e2 k2
          refine ⟨c', ?_, g2, g3⟩
          have n1 : ¬ c' < c + q := fun z => before (c' - c) i2 (by omega) (by rw [shj, show c + (c' - c) = c' by omega]; exact g3) ((at_ i2 p2 e2).trans (congrArg (hT P w) k2))
          have n2 : c' ≠ c + q := fun z => by
            rw [z] at g3
            have s2 := slot_live R.tab.ris g3
            rw [sl] at s2
            cases s2
            rw [ep1] at e2
            cases e2
            exact same k2
          omega
      cases hl : t.led with
      | true =>
        refine wp_if_neg (by simp) ?_
        first
          | exact rest
          | exact wpAny_bind (wpAny_pure rest)
      | false =>
        refine wp_if_pos (by simp) (wpAny_bind (tup_unseen hx (fun y hy => ?_) ?_))
        · obtain ⟨e, he, rfl⟩ := List.mem_map.mp hy
          have m1 : e ∈ es.toList := by simpa using (show e ∈ es ∧ e.1 = hT P w k by simpa using he).1
          rw [R.ents] at m1
          obtain ⟨p2, h2, rfl⟩ := List.mem_map.mp m1
          exact ⟨p2.2, p2.1, rfl, R.tups p2 h2⟩
        · refine wp_if_neg (by decide) ?_
          first
            | exact rest
            | exact wpAny_bind (wpAny_pure rest)
    · have hp2 : t.probe (fun i => (es[i]?.map (·.1)).getD 0) (hT P w k) (st.getD (t.probeStart (hT P w k))) = some (.empty (way t.mask (hT P w k) K) none) := by
        have e2 : way t.mask (hT P w k) K = (nth t.mask (nth t.mask (way0 t (hT P w k)) c) (K - c)).j := by rw [shj, cK]
        rw [hst, e2]
        exact hp
      rw [hp2]
      refine wpAny_pure (no fun hm => ?_)
      obtain ⟨p2, h2, k2⟩ := List.mem_map.mp hm
      obtain ⟨i2, e2⟩ := List.mem_iff_getElem?.mp h2
      obtain ⟨c', g1, g2, g3⟩ := ahead i2 p2 e2 k2
      exact before (c' - c) i2 (by omega) (by rw [shj, show c + (c' - c) = c' by omega]; exact g3) ((at_ i2 p2 e2).trans (congrArg (hT P w) k2))
theorem find_at (R : SetTK P w s.heap a L es ep t) {x : Addr} {k : List Key} (hx : TK P w s.heap k x) (hu : A.units < cLine) {Q : SetFound → Shared → Prop} (yes : k ∈ L.map (·.2) → Q (.there none) s)
    (no : ∀ K, k ∉ L.map (·.2) → way t.mask (hT P w k) K ∉ t.place.toList → (∀ c, c < K → way t.mask (hT P w k) c ∈ t.place.toList) → Q (.free (way t.mask (hT P w k) K) false) s) : wpAny (model P w) A (setSearch a (.ref x) (hT P w k) true) Q E s := by
  have r := R.room
  obtain ⟨K, h1, h2, h3⟩ := R.tab.first (by rw [List.length_map]; omega) (hT P w k)
  have small : 10 * SetTable.turns t.mask ≤ 90000 := by
    unfold SetTable.turns
    rcases R.tab.mok with e | e | e <;> omega
  unfold setSearch
  refine find_from R hx hu h1 h2 h3 yes (fun n => no K n h2 h3) 100000 0 none rfl (Nat.zero_le _) (by omega) fun i p e ek => ?_
  have z := R.tab.sz
  have il := (List.getElem?_eq_some_iff.mp e).1
  rw [List.length_map] at z
  have ip : i < t.place.toList.length := by rw [Array.length_toList]; omega
  have ej := List.getElem?_eq_getElem ip
  obtain ⟨c, hc, e3⟩ := R.tab.before h2 (by rw [List.getElem?_map, e, ← ek]; rfl) ej
  exact ⟨c, Nat.zero_le _, hc, by rw [ej, e3]⟩
/-! ### laid anew, put in -/
theorem range_get {α : Type} : ∀ (L : List α), (List.range L.length).filterMap (L[·]?) = L
  | [] => rfl
  | x :: L => by
    have ih := range_get L
    rw [List.length_cons, List.range_succ_eq_map, List.filterMap_cons_some (f := fun i => (x :: L)[i]?) (b := x) rfl, List.filterMap_map]
    exact congrArg (x :: ·) ih
theorem ents_order {order : Array Nat} (he : es.toList = entsT P w L) (hp : order.toList.Perm (List.range L.length)) :
    ∃ L2, (order.filterMap (es[·]?)).toList = entsT P w L2 ∧ L2.Perm L ∧ (L2.map fun p => hT P w p.2) = order.toList.map fun i => (es.map (·.1)).getD i 0 := by
  have at_ : ∀ i, es[i]? = (L[i]?).map fun (p : Addr × List Key) => (hT P w p.2, Value.ref p.1) := fun i => by
    rw [← Array.getElem?_toList, he]
    exact List.getElem?_map ..
  refine ⟨order.toList.filterMap (L[·]?), ?_, ?_, ?_⟩
  · rw [Array.toList_filterMap]
    unfold entsT
    rw [List.map_filterMap]
    exact congrArg (fun g => List.filterMap g order.toList) (funext at_)
  · have q := range_get L
    exact (hp.filterMap _).trans (by rw [q])
  · have all : ∀ i ∈ order.toList, i < L.length := fun i hi => List.mem_range.mp (hp.mem_iff.mp hi)
    revert all
    induction order.toList with
    | nil => intro _; rfl
    | cons i r ih =>
      intro all
      have hi := all i List.mem_cons_self
      rw [List.filterMap_cons_some (List.getElem?_eq_getElem hi), List.map_cons, List.map_cons, ih fun j hj => all j (List.mem_cons_of_mem _ hj)]
      congr 1
      have e : (es.map (·.1))[i]? = some (hT P w (L[i]).2) := by rw [Array.getElem?_map, at_ i, List.getElem?_eq_getElem hi]; rfl
      rw [Array.getD_eq_getD_getElem?, e]
      rfl
theorem again_at {o : Obj} (ho : s.heap.get? a = some o) (hex : o.ExactSet) (hd : o.data = .set es ep t) (he : es.toList = entsT P w L) (T : TabOk t (L.map fun p => hT P w p.2)) (hm : L.length ≤ t.mask) (once : (L.map (·.2)).Nodup) (tups : ∀ p ∈ L, TK P w s.heap p.2 p.1)
    (ld : w.params.followText "set-order" = true ∨ t.led = true) (few : L.length < 64) {n M : Nat} (hn : SetTable.sizeAbove n = M + 1) (hM : MaskOk M) (room : L.length * 5 < M * 3) {Q : Unit → Shared → Prop}
    (hQ : ∀ h' L' es' ep' t', Heap.SameBut a s.heap h' → SetTK P w h' a L' es' ep' t' → L'.Perm L → Q () { s with heap := h' }) : wpAny (model P w) A (setRelay a n) Q E s := by
  have z := ents_len he
  have z2 := T.sz
  rw [List.length_map] at z2
  have M128 : M + 1 ≤ 128 := by rcases hM with e | e | e <;> omega
  obtain ⟨t2, order, e, hp, T2, em, el, _, _⟩ := relaid_ok t (hs := es.map (·.1)) (wanted := n) (M := M) (by omega) hM (by rw [Array.size_map, z]; omega)
  rw [Array.size_map, z] at hp
  obtain ⟨L2, r1, r2, r3⟩ := ents_order (P := P) (w := w) he hp
  rw [← r3] at T2
  have z3 : (order.filterMap (es[·]?)).size = L.length := (ents_len r1).trans r2.length_eq
  rw [setRelay_eq]
  refine wpAny_bind (wpAny_setState_of ho hd (by rw [z]; exact tab_fits z2 T.dm hm) ?_); dsimp only
  refine wp_if_neg (by rw [hn, sizeLine_eq]; omega) ?_
  try refine wpAny_bind (wpAny_pure ?_)
  rw [e]
  refine wpAny_bind (wp_if_neg (by rw [z3, z]; simp) ?_)
  try refine wpAny_bind (wpAny_pure ?_)
  refine wpAny_pure (wpAny_storeSet_of ho hd ?_ (by rw [z3, sizeLine_eq]; omega))
  have sb := Heap.SameBut.update s.heap a (Obj.putSet (order.filterMap (es[·]?)) t2)
  exact hQ _ L2 _ _ t2 sb ⟨⟨_, store_at ho hd, ⟨hex.1, hex.2.1, hex.2.2⟩, rfl⟩, r1, T2, (r2.map (·.2)).nodup_iff.mpr once, fun p hp => (tups p (r2.mem_iff.mp hp)).other ho hd sb, by rw [el]; exact ld, by rw [r2.length_eq, em]; exact room, by rw [r2.length_eq]; exact few⟩ r2
/-- a tuple is put in -/
theorem put_at (R : SetTK P w s.heap a L es ep t) {x : Addr} {k : List Key} (hx : TK P w s.heap k x) (hu : A.units < cLine) (few : L.length + 1 < 64) {Q : Bool → Shared → Prop}
    (hQ : ∀ b h' L' es' ep' t', Heap.SameBut a s.heap h' → SetTK P w h' a L' es' ep' t' → (k ∈ L.map (·.2) ∧ L' = L ∨ k ∉ L.map (·.2) ∧ L'.Perm ((x, k) :: L)) → Q b { s with heap := h' }) : wpAny (model P w) A (setAddHashed a (.ref x) (hT P w k)) Q E s := by
  obtain ⟨o, ho, hex, hd⟩ := R.ob
  have z := R.size
  have room := R.room
  unfold setAddHashed
  rw [show (100000 : Nat) = 99999 + 1 from rfl, setAddHashedIn_succ]
  refine wpAny_holding (wpAny_bind (wpAny_setState_of ho hd R.fits ?_)); dsimp only
  refine wp_if_neg (by simp [byScan, Value.scannable]) ?_
  try refine wpAny_bind (wpAny_pure ?_)
  refine wpAny_bind (find_at R hx hu (fun hm => wpAny_pure (hQ false s.heap L es ep t (Heap.SameBut.refl a s.heap) R (.inl ⟨hm, rfl⟩))) fun K hm hK hb => ?_)
  dsimp only
  refine wpAny_bind (wpAny_setState_of ho hd R.fits ?_); dsimp only
  obtain ⟨q1, q2, q3, q4, q5, q6, q7, q8, q9⟩ := R.tab.put hK hb
  generalize t.put (way t.mask (hT P w k) K) = pt at q1 q3 q4 q5 q6 q7 q8 q9 ⊢
  obtain ⟨t1, p⟩ := pt
  dsimp only at q1 q3 q4 q5 q6 q7 q8 q9 ⊢
  subst q1
  generalize SetTable.below t.place (way t.mask (hT P w k) K) = p at q2 q3 ⊢
  refine ask_plain hx fun v => ?_
  have two : ∀ v : Bool, TabOk (if v = true then t1 else { t1 with plain := false }) ((L.map fun p => hT P w p.2).take p ++ hT P w k :: (L.map fun p => hT P w p.2).drop p) ∧ (if v = true then t1 else { t1 with plain := false }).mask = t1.mask ∧
      (if v = true then t1 else { t1 with plain := false }).led = t1.led ∧ (if v = true then t1 else { t1 with plain := false }).fill = t1.fill := fun v => by
    cases v
    · exact ⟨⟨q3.ris, q3.dm, q3.sz, q3.mok, q3.bd, q3.reach⟩, rfl, rfl, rfl⟩
    · exact ⟨q3, rfl, rfl, rfl⟩
  obtain ⟨w1, w2, w3, w4⟩ := two v
  rw [← w2] at q4
  rw [← w3] at q5
  rw [← w4] at q9
  generalize (if v = true then t1 else { t1 with plain := false }) = t1 at w1 q4 q5 q9 ⊢
  have in1 : (SetTable.insertAt es p (hT P w k, Value.ref x)).toList = entsT P w (L.take p ++ (x, k) :: L.drop p) := by
    rw [SetTable.toList_insertAt, R.ents]
    unfold entsT
    rw [List.map_append, List.map_cons, List.map_take, List.map_drop]
  have pm := put_perm L p (x, k)
  have T1 : TabOk t1 ((L.take p ++ (x, k) :: L.drop p).map fun p => hT P w p.2) := by
    rw [List.map_append, List.map_cons, List.map_take, List.map_drop]
    exact w1
  generalize SetTable.insertAt es p (hT P w k, Value.ref x) = es1 at in1 ⊢
  generalize L.take p ++ (x, k) :: L.drop p = L1 at pm in1 T1
  have z1 : L1.length = L.length + 1 := pm.length_eq
  have z2 := ents_len in1
  have once1 : (L1.map (·.2)).Nodup := (pm.map (·.2)).nodup_iff.mpr (List.nodup_cons.mpr ⟨hm, R.once⟩)
  refine wpAny_bind (wpAny_storeSet_of ho hd ?_ (by rw [z2, sizeLine_eq]; omega))
  have sb := Heap.SameBut.update s.heap a (Obj.putSet es1 t1)
  have ho1 := store_at (es' := es1) (t' := t1) ho hd
  generalize s.heap.update a (Obj.putSet es1 t1) = h1 at sb ho1 ⊢
  have tup1 : ∀ p ∈ L1, TK P w h1 p.2 p.1 := fun p hp => by
    rcases List.mem_cons.mp (pm.mem_iff.mp hp) with rfl | hp
    · exact hx.other ho hd sb
    · exact (R.tups p hp).other ho hd sb
  have ld1 : w.params.followText "set-order" = true ∨ t1.led = true := by rw [q5]; exact R.led
  have fill : t1.tooFull = decide ((L.length + 1) * 5 ≥ t1.mask * 3) := by
    unfold SetTable.tooFull
    rw [q9, List.length_map]
  by_cases full : t1.tooFull = true
  · have full2 : (L.length + 1) * 5 ≥ t.mask * 3 := by
      rw [fill, decide_eq_true_eq, q4] at full
      exact full
    have go : ∀ M, SetTable.sizeAbove (SetTable.grown (L.length + 1)) = M + 1 → MaskOk M → (L.length + 1) * 5 < M * 3 →
        wpAny (model P w) A (setRelay a (SetTable.grown (L.length + 1))) (fun _ s2 => wpAny (model P w) A (pure true) Q E s2) E { s with heap := h1 } := fun M g1 g2 g3 =>
      again_at (s := { s with heap := h1 }) (L := L1) ho1 ⟨hex.1, hex.2.1, hex.2.2⟩ rfl in1 T1 (by rw [q4]; omega) once1 tup1 ld1 (by omega) g1 g2 (by omega) fun h2 L2 es2 ep2 t2 sb2 R2 pm2 =>
        wpAny_pure (hQ true h2 L2 es2 ep2 t2 (sb.trans sb2) R2 (.inr ⟨hm, pm2.trans pm⟩))
    have turn : wpAny (model P w) A (setRelay a (SetTable.grown (L.length + 1))) (fun _ s2 => wpAny (model P w) A (pure true) Q E s2) E { s with heap := h1 } := by
      rcases R.tab.mok with e | e | e
      · rw [e] at room full2
        have e4 : L.length = 4 := by omega
        exact go 31 (by rw [e4]; exact size_20) (.inr (.inl rfl)) (by omega)
      · rw [e] at room full2
        have e18 : L.length = 18 := by omega
        exact go 127 (by rw [e18]; exact size_76) (.inr (.inr rfl)) (by omega)
      · rw [e] at full2
        omega
    rw [z]
    first
      | exact wpAny_bind (wp_if_pos (by simp [full]) turn)
      | exact wp_if_pos (by simp [full]) (wpAny_bind turn)
  · have room1 : L1.length * 5 < t1.mask * 3 := by
      rw [fill, decide_eq_true_eq] at full
      rw [z1]
      omega
    have fin : Q true { s with heap := h1 } := hQ true h1 L1 es1 (ep + 1) t1 sb ⟨⟨_, ho1, ⟨hex.1, hex.2.1, hex.2.2⟩, rfl⟩, in1, T1, once1, tup1, ld1, room1, by omega⟩ (.inr ⟨hm, pm⟩)
    first
      | exact wp_if_neg (by simp [full]) (wpAny_pure fin)
      | exact wpAny_bind (wp_if_neg (by simp [full]) (wpAny_pure (wpAny_pure fin)))
end
end Ax
end
section
set_option maxHeartbeats 4000000
namespace Ax
open PySem PySem.Spec PyProof.Rows L2
/-- L: what a set has of the first i of ks -/
structure GotK (ks : List (Addr × List Key)) (i : Nat) (L : List (Addr × List Key)) : Prop where
  sub : ∀ p ∈ L, p ∈ ks.take i
  all : ∀ p ∈ ks.take i, p.2 ∈ L.map (·.2)
  len : L.length ≤ i
theorem GotK.step {ks L L' : List (Addr × List Key)} {i : Nat} {x : Addr × List Key} (g : GotK ks i L) (e : ks[i]? = some x) (h : x.2 ∈ L.map (·.2) ∧ L' = L ∨ x.2 ∉ L.map (·.2) ∧ L'.Perm (x :: L)) : GotK ks (i + 1) L' := by
  have t : ks.take (i + 1) = ks.take i ++ [x] := by rw [List.take_succ, e]; rfl
  rcases h with ⟨hm, rfl⟩ | ⟨_, pm⟩
  · refine ⟨fun p hp => by rw [t]; exact List.mem_append_left _ (g.sub p hp), fun p hp => ?_, Nat.le_succ_of_le g.len⟩
    rw [t] at hp
    exact (List.mem_append.mp hp).elim (g.all p) fun z => by rw [List.mem_singleton.mp z]; exact hm
  · refine ⟨fun p hp => ?_, fun p hp => ?_, by rw [pm.length_eq]; exact Nat.succ_le_succ g.len⟩
    · rw [t]
      exact (List.mem_cons.mp (pm.mem_iff.mp hp)).elim (fun z => List.mem_append_right _ (by rw [z]; exact List.mem_singleton.mpr rfl)) fun z => List.mem_append_left _ (g.sub p z)
    · rw [t] at hp
      rw [(pm.map (·.2)).mem_iff]
      exact (List.mem_append.mp hp).elim (fun z => List.mem_cons_of_mem _ (g.all p z)) fun z => by rw [List.mem_singleton.mp z]; exact List.mem_cons_self
section
variable {P : Program} {w : World} {A : Around} {E : Value → Shared → Prop} {s : Shared}
theorem SetTK.keep {h h' : Heap} {a : Addr} {L : List (Addr × List Key)} {es : Array (Int × Value)} {ep : Nat} {t : SetTable} (R : SetTK P w h a L es ep t) (ha : ∀ o, h.get? a = some o → h'.get? a = some o) (ht : ∀ p ∈ L, TK P w h' p.2 p.1) : SetTK P w h' a L es ep t :=
  let ⟨o, ho, r⟩ := R.ob
  ⟨⟨o, ha o ho, r⟩, R.ents, R.tab, R.once, ht, R.led, R.room, R.few⟩
theorem setT_start {h : Heap} {a : Addr} (ho : h.get? a = some { cls := .type "set", dict := none, data := .set #[] 0 (.fresh 0 0 (!w.params.followText "set-order")) }) : SetTK P w h a [] #[] 0 (.fresh 0 0 (!w.params.followText "set-order")) := by
  refine ⟨⟨_, ho, ⟨rfl, rfl, rfl⟩, rfl⟩, rfl, ⟨List.Pairwise.nil, rfl, rfl, .inl rfl, fun x hx => (List.not_mem_nil hx).elim, fun i h j hi => (by simp at hi)⟩, List.nodup_nil, fun p hp => (List.not_mem_nil hp).elim, ?_, show 0 * 5 < 7 * 3 by decide, show 0 < 64 by decide⟩
  show _ ∨ (!w.params.followText "set-order") = true
  cases w.params.followText "set-order"
  · exact .inr rfl
  · exact .inl rfl
theorem setT_loop {I : Addr} {fp wr : List Addr} {G : Array GenState → Array GenState → Prop} {n : Nat} {Pv : Nat → Value → Prop} {St : Nat → Shared → Prop} {R : Result → Shared → Prop} (W : WalksS P w A.in1 I fp wr G n Pv St) (S : Addr) (hSf : S ∉ fp) (ks : List (Addr × List Key)) (hn : n = ks.length)
    (few : ks.length < 64) (hval : ∀ (i : Nat) (v : Value), Pv i v → ∃ p, ks[i]? = some p ∧ v = .ref p.1) (h0 : Heap) (hk : ∀ p ∈ ks, TK P w h0 p.2 p.1) (hS0 : h0.get? S = none) (hw0 : ∀ b ∈ wr, h0.get? b = none) (hu : A.in1.units < cLine) :
    ∀ (m i : Nat) (s : Shared), n - i = m → i ≤ n → St i s → (∀ b o, h0.get? b = some o → s.heap.get? b = some o) → (∃ L es ep t, SetTK P w s.heap S L es ep t ∧ GotK ks i L) →
      (∀ s' L es ep t, Moved (S :: wr) G s s' → SetTK P w s'.heap S L es ep t → GotK ks n L → R (.ok (.ret .none)) s') → codeAny (model P w) A (.builtin "set.update.loop" ⟨[.ref S, .ref I], []⟩) R s := by
  have nw : S ∉ wr := fun h => hSf (W.sub _ h)
  have sub : ∀ b ∈ wr, b ∈ S :: wr := fun _ => List.mem_cons_of_mem _
  have go : ∀ {s s' : Shared}, Moved wr G s s' → (∀ b o, h0.get? b = some o → s.heap.get? b = some o) → ∀ b o, h0.get? b = some o → s'.heap.get? b = some o := fun mv z b o e => mv.heap b o (fun hb => by rw [hw0 b hb] at e; cases e) (z b o e)
  have tups : ∀ {L : List (Addr × List Key)} {i : Nat} {h : Heap}, GotK ks i L → (∀ b o, h0.get? b = some o → h.get? b = some o) → ∀ p ∈ L, TK P w h p.2 p.1 := fun g z p hp => (hk p (List.mem_of_mem_take (g.sub p hp))).keep fun o => z _ o
  intro m
  induction m with
  | zero =>
    intro i s hm hi hst hkp ⟨L, es, ep, t, hS, g⟩ hR
    obtain rfl : i = n := by omega
    refine codeAny_builtin F.entry_set_update_loop ?_; rw [Around.under_plainId F.plain_set_update_loop _]
    show wpAny _ A.in1 (pyNext (.ref I) >>= _) _ _ s; refine wpAny_bind (W.done s _ _ hst fun s' mv => ?_)
    show wpAny _ A.in1 (ret Value.none) _ _ s'; exact wpAny_pure (hR s' L es ep t (mv.mono sub) (hS.keep (fun o e => mv.heap S o nw e) (tups g (go mv hkp))) g)
  | succ m ih =>
    intro i s hm hi hst hkp ⟨L, es, ep, t, hS, g⟩ hR
    have lt : i < n := by omega
    refine codeAny_builtin F.entry_set_update_loop ?_; rw [Around.under_plainId F.plain_set_update_loop _]
    show wpAny _ A.in1 (pyNext (.ref I) >>= _) _ _ s; refine wpAny_bind (W.item i s _ _ lt hst fun v s' hP hst' mv => ?_)
    obtain ⟨p, hp, rfl⟩ := hval i v hP
    have hkp1 := go mv hkp
    have hx : TK P w s'.heap p.2 p.1 := (hk p (List.mem_of_getElem? hp)).keep fun o => hkp1 _ o
    have gl := g.len
    show wpAny _ A.in1 (holding [Value.ref p.1] (setAdd S (.ref p.1)) >>= _) _ _ s'; refine wpAny_bind (wpAny_holding ?_); unfold setAdd
    refine wpAny_holding (wpAny_bind (wpAny_pyHash_tuple hu hx ?_))
    refine put_at (s := { s' with toks := s'.toks + (p.2.length + 1) }) (hS.keep (fun o e => mv.heap S o nw e) (tups g hkp1)) hx hu (by omega) fun b h' L' es' ep' t' sb hS2 c => ?_
    have hkp2 : ∀ b o, h0.get? b = some o → h'.get? b = some o := fun b o e => (sb.2 b fun z => by rw [z, hS0] at e; cases e).trans (hkp1 b o e)
    refine wpAny_pure ⟨plainId_quiet F.plain_set_update_loop _, ih (i + 1) _ (by omega) lt (W.frame _ s' _ _ hst' (Nat.le_add_right _ _) fun b hb o e => (sb.2 b fun h => hSf (h ▸ hb)).trans e) hkp2 ⟨L', es', ep', t', hS2, g.step hp c⟩ fun s2 L2 es2 ep2 t2 mv2 hS4 g4 =>
      hR s2 L2 es2 ep2 t2 (Moved.trans W.gtrans ((mv.mono sub).then_heap (Nat.le_add_right _ _) fun b o hb e => (sb.2 b fun h => hb (h ▸ List.mem_cons_self)).trans e) mv2) hS4 g4⟩
/-- set(xs) of a list of such tuples -/
theorem call_setT {l : Addr} {items : Array Value} (ks : List (Addr × List Key)) {Q : Value → Shared → Prop} (hh : A.handled = none) (hl : s.heap.IsList l items) (hsz : items.size = ks.length) (hval : ∀ (i : Nat) (v : Value), items[i]? = some v → ∃ p, ks[i]? = some p ∧ v = .ref p.1) (hk : ∀ p ∈ ks, TK P w s.heap p.2 p.1) (few : ks.length < 64) (hu : A.units + 3 < cLine)
    (h : ∀ (h' : Heap) (tk : Nat) (L : List (Addr × List Key)) (es : Array (Int × Value)) (ep : Nat) (t : SetTable), SetTK P w h' s.heap.objs.size L es ep t → GotK ks ks.length L → (∀ b o, s.heap.get? b = some o → h'.get? b = some o) → Q (.ref s.heap.objs.size) { s with heap := h', toks := tk }) : wpAny (model P w) A (call (.type "set") [.ref l]) Q E s := by
  have mro1 := F.called_set.mro
  obtain ⟨c0, tl, hmro⟩ := mro1
  have made1 := F.called_set.made
  have sub1 := F.called_set.sub
  refine wpAny_call (codeAny_of_tree ?_); show wpAny _ _ (callAny (.type "set") _) _ _ _
  refine wpAny_pure ⟨Code.quiet_builtin _ (by decide +kernel), codeAny_builtin F.entry_type_call ?_⟩; rw [Around.under_plain (weight_type_call_type "set" [.ref l] []) rfl]
  have nt1 := F.called_set.notType; have cc1 := F.called_set.canCreate; have tc1 := F.typeCall_set_1 (.ref l)
  repeat (any_goals (first | assumption | wp_step))
  generalize hO : ({ cls := .type "set", dict := none, data := .set #[] 0 (.fresh 0 0 (!w.params.followText "set-order")) } : Obj) = O
  refine codeAny_mono (code_set_led1 (.ref l) (E := E) (Q₁ := fun obj s1 => obj = .ref s.heap.objs.size ∧ s1 = { s with heap := s.heap.push O }) ⟨rfl, by rw [← hO]⟩) fun r s1 hr => ?_
  cases r with
  | error e => exact hr
  | ok fl =>
    cases fl with
    | ret obj =>
      obtain ⟨rfl, rfl⟩ := hr
      have atS : (s.heap.push O).get? s.heap.objs.size = some O := by rw [← hO]; exact Heap.get?_push_size _ rfl
      have ty1 : Shared.TypeIs { s with heap := s.heap.push O } (.ref s.heap.objs.size) "set" := ⟨_, atS, by rw [← hO]⟩
      have li1 := F.called_set.init.lookup; have bi1 := F.called_set.init.bind (.ref s.heap.objs.size)
      repeat (any_goals (first | assumption | wp_step))
      refine codeAny_mono (codeAny_call_builtin (R := wants (fun r s2 => r = .none ∧ ∃ h' tk L es ep t, s2 = { s with heap := h', toks := tk } ∧ SetTK P w h' s.heap.objs.size L es ep t ∧ GotK ks ks.length L ∧ ∀ b o, s.heap.get? b = some o → h'.get? b = some o) E)
        F.called_set.init.plain F.entry_set_init (check_set_init_1 ty1 ?_)) fun r2 s2 hr2 => ?_
      · obtain ⟨⟨ocls, odict, odata, oslots⟩, hol, hcl, nl, hdl⟩ := hl
        simp only at hcl hdl
        subst hcl hdl
        have hol1 : (s.heap.push O).get? l = some { cls := .type "list", dict := odict, data := .seq items nl, slots := oslots } := Heap.get?_push_of_some _ hol
        have sl1 := F.sub_list_set; have sf1 := F.sub_list_frozenset; have ne1 : (Value.type "list" == Value.type "dict") = false := by decide
        have hl1 : (s.heap.push O).IsList l items := ⟨_, hol1, rfl, nl, rfl⟩
        subst hO; unfold Builtin.«set.__init__» noKeywords Builtin.Frozenset.updateFrom
        generalize hPI : pyIter = PI; wp_walk; subst hPI
        refine wpAny_pyIter_list hl1 ?_; refine wpAny_bind (wpAny_runValue ?_)
        have ltl : l < s.heap.objs.size := Heap.lt_size hol
        have hd3 : A.in1.in1.in1.handled = none := by simpa using hh
        have zI := Heap.size_push s.heap ({ cls := .type "set", dict := none, data := .set #[] 0 (.fresh 0 0 (!w.params.followText "set-order")) } : Obj)
        have neI : l ≠ (s.heap.push ({ cls := .type "set", dict := none, data := .set #[] 0 (.fresh 0 0 (!w.params.followText "set-order")) } : Obj)).objs.size := by rw [zI]; exact Nat.ne_of_lt (Nat.lt_succ_of_lt ltl)
        have nfS : s.heap.objs.size ∉ [(s.heap.push ({ cls := .type "set", dict := none, data := .set #[] 0 (.fresh 0 0 (!w.params.followText "set-order")) } : Obj)).objs.size, l] := by
          intro z; rw [zI] at z
          rcases List.mem_cons.mp z with z | z
          · exact absurd z (Nat.ne_of_lt (Nat.lt_succ_self _))
          · exact absurd (List.mem_singleton.mp z) (Nat.ne_of_gt ltl)
        have none_of : ∀ b, s.heap.objs.size ≤ b → s.heap.get? b = none := fun b hb => by
          cases q : s.heap.get? b with
          | none => rfl
          | some o => exact absurd (Nat.lt_of_lt_of_le (Heap.lt_size q) hb) (Nat.lt_irrefl _)
        refine setT_loop ((Walks.list hd3 _ l neI items).toS) s.heap.objs.size nfS ks hsz few hval s.heap hk (none_of _ (Nat.le_refl _)) (fun b hb => none_of b (by rw [List.mem_singleton.mp hb, zI]; exact Nat.le_succ _)) hu (items.size - 0) 0 _ (by omega) (Nat.zero_le _) ⟨⟨_, Heap.get?_push_size _ rfl, rfl, rfl⟩, hl1.push _⟩
          (fun b o e => Heap.get?_push_of_some _ (Heap.get?_push_of_some _ e)) ⟨[], #[], 0, _, setT_start (Heap.get?_push_of_some _ atS), ⟨fun p h => (List.not_mem_nil h).elim, fun p h => (by simp at h), Nat.le_refl _⟩⟩ ?_
        intro s' L es ep t mv hS g
        obtain ⟨h', g2, d', tk', os'⟩ := s'
        have e1 : g2 = s.gens := mv.gens; have e2 : d' = s.drawn := mv.drawn; have e3 : os' = s.os := mv.os
        subst e1 e2 e3
        rw [hsz] at g
        show wpAny _ _ _ _ _ _; refine wpAny_pure ?_; show wpAny _ _ (ret Value.none) _ _ _
        refine wpAny_pure ⟨rfl, h', tk', L, es, ep, t, rfl, hS, g, fun b o e => ?_⟩
        have b1 : b < s.heap.objs.size := Heap.lt_size e
        refine mv.heap b o (fun z => ?_) (Heap.get?_push_of_some _ (Heap.get?_push_of_some _ e))
        rw [zI] at z
        rcases List.mem_cons.mp z with z | z
        · exact Nat.ne_of_lt b1 z
        · exact Nat.ne_of_lt (Nat.lt_succ_of_lt b1) (List.mem_singleton.mp z)
      · cases r2 with
        | error e => exact hr2
        | ok f2 =>
          cases f2 with
          | ret r =>
            obtain ⟨rfl, h', tk, L, es, ep, t, rfl, hS, hg, hk2⟩ := hr2
            repeat (any_goals (first | assumption | wp_step))
            exact h _ _ _ _ _ _ hS hg hk2
          | _ => exact hr2.elim
    | _ => exact hr.elim
end
end Ax
end
section
set_option maxHeartbeats 4000000
/-! the order of rows of texts; sets of such rows as tracked things -/
namespace Ax
open PySem PySem.Spec PyProof.Rows L2
open PySem.W (EachIs SortsAt dataKind AllAlike Sortable dataLe sortVals alike alikeAll sortingHeap sortingHeap_old dataLt dataLt_tuple dataLt_str dataLt_cons rowLt)
/-! ### the order -/
def rle : List Str → List Str → Bool
  | [], _ => true
  | _ :: _, [] => false
  | x :: xs, y :: ys => if x = y then rle xs ys else strLe x y
theorem rowLt_strs : ∀ xs ys : List Str, rowLt (ys.map .str) (xs.map .str) = !rle xs ys
  | [], [] => PyProof.Rows.lex_irrefl _
  | [], y :: ys => by
    unfold rowLt
    rw [List.map_cons, PySem.W.toks_all_cons]
    simp only [List.map_nil, PySem.W.keyToksAll]
    rw [PyProof.Rows.lex_diff (O := PyProof.Rows.itemOrd) (by simp)]
    rfl
  | x :: xs, [] => by
    unfold rowLt
    rw [List.map_cons, PySem.W.toks_all_cons]
    simp only [List.map_nil, PySem.W.keyToksAll]
    rw [PyProof.Rows.lex_diff (O := PyProof.Rows.itemOrd) (by simp)]
    rfl
  | x :: xs, y :: ys => by
    have ih := rowLt_strs xs ys
    unfold rowLt at ih ⊢
    rw [List.map_cons, List.map_cons, dataLt_cons (by simp [alike]), dataLt_str, ih]
    have e : rle (x :: xs) (y :: ys) = if x = y then rle xs ys else strLe x y := by rw [rle]
    rw [e]
    by_cases c : x = y
    · subst c
      simp [PyData.eqv]
    · have c2 : ¬ y = x := fun e => c e.symm
      simp only [PyData.eqv, beq_iff_eq, if_neg c, if_neg c2]
      unfold strLe
      rw [Bool.not_not]
theorem dataLe_rle : dataLe false rowD = rle := by
  funext a b
  show (!dataLt (.tuple (b.map .str)) (.tuple (a.map .str))) = _
  rw [dataLt_tuple]
  have e := rowLt_strs a b
  unfold rowLt at e
  rw [e, Bool.not_not]
theorem rle_refl : ∀ a, rle a a = true
  | [] => rfl
  | x :: xs => by
    unfold rle
    rw [if_pos rfl]
    exact rle_refl xs
theorem rle_anti : ∀ {a b : List Str}, rle a b = true → rle b a = true → a = b
  | [], [], _, _ => rfl
  | [], _ :: _, _, h => by cases h
  | _ :: _, [], h, _ => by cases h
  | x :: xs, y :: ys, h, k => by
    unfold rle at h k
    by_cases c : x = y
    · subst c
      rw [if_pos rfl] at h k
      rw [rle_anti h k]
    · rw [if_neg c] at h
      rw [if_neg fun e => c e.symm] at k
      exact absurd (sle_anti h k) c
theorem rle_trans : ∀ {a b c : List Str}, rle a b = true → rle b c = true → rle a c = true
  | [], _, _, _, _ => by unfold rle; rfl
  | _ :: _, [], _, h, _ => by cases h
  | _ :: _, _ :: _, [], _, h => by cases h
  | x :: xs, y :: ys, z :: zs, h, k => by
    unfold rle at h k ⊢
    by_cases c : x = y
    · subst c
      by_cases d : x = z
      · rw [if_pos d] at k ⊢
        rw [if_pos rfl] at h
        exact rle_trans h k
      · rw [if_neg d] at k ⊢
        exact k
    · rw [if_neg c] at h
      by_cases d : y = z
      · subst d
        rw [if_neg c]
        exact h
      · rw [if_neg d] at k
        have e : ¬ x = z := fun e => c (sle_anti h (e ▸ k))
        rw [if_neg e]
        exact sle_trans h k
theorem rle_total : ∀ a b, (rle a b || rle b a) = true
  | [], _ => by unfold rle; rfl
  | _ :: _, [] => rfl
  | x :: xs, y :: ys => by
    unfold rle
    by_cases c : x = y
    · subst c
      rw [if_pos rfl, if_pos rfl]
      exact rle_total xs ys
    · rw [if_neg c, if_neg fun e => c e.symm]
      exact sle_total x y
/-- by the order -/
def sortRows (rows : List (List Str)) : List (List Str) := rows.mergeSort rle
theorem sortRows_is (rows : List (List Str)) : rows.mergeSort (dataLe false rowD) = sortRows rows := by
  unfold sortRows
  rw [dataLe_rle]
theorem sortRows_pw (rows : List (List Str)) : (sortRows rows).Pairwise fun a b => rle a b = true := List.pairwise_mergeSort (le := rle) (fun _ _ _ => rle_trans) rle_total rows
theorem rows_one {xs ys : List (List Str)} (p : xs.Perm ys) (h : xs.Pairwise fun a b => rle a b = true) (k : ys.Pairwise fun a b => rle a b = true) : xs = ys :=
  List.Perm.eq_of_pairwise (fun a b _ _ => rle_anti) h k p
theorem sortRows_perm {xs ys : List (List Str)} (p : xs.Perm ys) : sortRows xs = sortRows ys :=
  rows_one ((List.mergeSort_perm _ _).trans (p.trans (List.mergeSort_perm _ _).symm)) (sortRows_pw xs) (sortRows_pw ys)
theorem sortRows_id {xs : List (List Str)} (h : xs.Pairwise fun a b => rle a b = true) : sortRows xs = xs := rows_one (List.mergeSort_perm _ _) (sortRows_pw xs) h
end Ax
end
section
set_option maxHeartbeats 2000000
/-! defs that know that no repr is under way around them: repr of lists and tuples -/
namespace Ax
open PySem PySem.Spec PyProof.Rows L2
open StX
/-- a def's promise to callers around whom no repr runs -/
structure FnG (P : Program) (w : World) (K : PySem.W.Frag) (mg : Str → Option Value) (base : Heap) (k : Nat) (f : Addr) (ps : List Str) (sp : Sp) : Prop where
  len : ∀ vs H Q E, sp vs H Q E → vs.length = ps.length
  go : ∀ (A : Around) (outer : List Env) (s : Shared) (H : Hp) (us : List Value) (vs : List V) (Q : VK) (E : XK), A.guards = some [] → Room k A → Env0 P w K mg base A outer s H → Vals vs us → sp vs H Q E →
    codeAny (model P w) A (.call (.ref f) ⟨us, []⟩) (CR (L2.CX P w) outer P w H s Q E) s
structure CalleeG (P : Program) (w : World) (K : PySem.W.Frag) (mg : Str → Option Value) (base : Heap) (x : Str) (k : Nat) (ps : List Str) (sp : Sp) : Prop where
  ex : ∃ f, FnG P w K mg base k f ps sp ∧ mg x = some (.ref f) ∧ PySem.W.keepIn K (.ref f) = true
section
variable {P : Program} {w : World} {K : PySem.W.Frag} {mg : Str → Option Value} {base : Heap}
theorem fnG_of {x q : Str} {st : Stmt} {N ps : List Str} {k : Nat} {sp : Sp} {f : Addr} {fd : FuncData} (F : FunD K x q (defArgs st) (defBody st) (defScope st) [] [] f fd) (S : FnScope N ps (defScope st))
    (hb : ∀ (kV doc pm : Value) (an : Option Addr) (cdv ct : Value) (us : List Value), us.length = ps.length → bindArgs (PySem.W.fnOf x q (defArgs st) (defBody st) (defScope st) .none kV doc pm an cdv ct) ⟨us, []⟩ = pure (ps.zip us))
    (len : ∀ vs H Q E, sp vs H Q E → vs.length = ps.length)
    (body : ∀ (cdv : Value) (A : Around) (outer : List Env) (s : Shared) (H : Hp) (vs : List V) (Q : VK) (E : XK), A.guards = some [] → Room k (A.deeper (envOfC q (defScope st) s.heap.objs.size f cdv)) → sp vs H Q E →
      WB (cxOf (L2.CX P w) P w K mg base N q (defScope st) f cdv A outer s H E) (defBody st) { nx := fun _ H' => Q .non H', rt := Q } (start N vs) H) : FnG P w K mg base (k + 1) f ps sp := by
  refine ⟨len, fun A outer s H us vs Q E hgd hr e0 r h => ?_⟩
  obtain ⟨oc, od, kV, doc, pm, an, cdv, ct, osl, lk, hcd⟩ := none_dfl F
  have hl := len _ _ _ _ h
  refine run_bnd lk hcd S hr e0 (G := fun xs H2 => sp xs H2 Q E) (fun A' Ex Q' z => ?_) fun s2 H2 xs hx hr' => ⟨_, WB.pss, body cdv A outer s2 H2 xs Q E hgd hr' hx⟩
  rw [hb kV doc pm an cdv ct us (by rw [← r.length]; exact hl)]
  exact wpAny_pure (z s H vs us e0 Un.refl rfl (fun _ _ y => y) r hl h)
theorem def_okG {x : Str} {st : Stmt} {N ps : List Str} {k : Nat} {sp : Sp} (T : TxtF K mg x st) (S : FnScope N ps (defScope st))
    (hb : ∀ (kV doc pm : Value) (an : Option Addr) (cdv ct : Value) (us : List Value), us.length = ps.length → bindArgs (PySem.W.fnOf x x (defArgs st) (defBody st) (defScope st) .none kV doc pm an cdv ct) ⟨us, []⟩ = pure (ps.zip us))
    (len : ∀ vs H Q E, sp vs H Q E → vs.length = ps.length)
    (body : ∀ (f : Addr) (cdv : Value) (A : Around) (outer : List Env) (s : Shared) (H : Hp) (vs : List V) (Q : VK) (E : XK), A.guards = some [] → Room k (A.deeper (envOfC x (defScope st) s.heap.objs.size f cdv)) → sp vs H Q E →
      WB (cxOf (L2.CX P w) P w K mg base N x (defScope st) f cdv A outer s H E) (defBody st) { nx := fun _ H' => Q .non H', rt := Q } (start N vs) H) : CalleeG P w K mg base x (k + 1) ps sp := by
  obtain ⟨f, fd, F, g⟩ := T
  exact ⟨f, fnG_of F S hb len (body f), g, F.kp⟩
end
section
variable {X : Cx} {σ : L2.St} {H : Hp} {Q : VK} {e : Expr} {es : List Expr} {pos : Pos}
/-- one who knows calls one who asks for it -/
theorem w_callG {x : Str} {k : Nat} {ps : List Str} {sp : Sp} {p : Pos} {E : XK} (C : CalleeG X.prog X.w X.K X.mg X.base x k ps sp) (hgd : X.A.guards = some []) (hr : Room k X.A) (hx : Passes (L2.CX X.prog X.w) X E) (h : WA X (e :: es) σ H fun vs H1 => sp vs H1 Q E) (hg : Gl X x := by rfl)
    (hdb : (x == ("__debug__" : Str)) = false := by decide) (he : starEach (e :: es) X.env = (false, eval e X.env) :: starEach es X.env := by rfl) (hpl : (backTo pos (starEach es X.env)).any (·.1) = false := by rfl) : W X (.Call (.Name x p) (e :: es) [] pos) σ H Q := by
  obtain ⟨f, F, hm, hk⟩ := C.ex
  refine ⟨fun pins s I => wpAny_Call_Name_kw (ld_glob I hg hm (PySem.W.callWith_K (h₀ := X.base) I.ok.mod.kin hk (thn ((WA.pa (X := X) (es := e :: es)).run pos pins s σ H _ I h) fun us s1 ⟨vs, H1, I1, r, q⟩ => ⟨I1.kIn, ?_⟩) he hpl) hdb)⟩
  refine wpAny_call (codeAny_mono (F.go X.A X.stack s1 H1 us vs Q E hgd hr I1.env0 r q) fun res s' hq => ?_)
  cases res with
  | error e => exact hx pins σ H1 s1 e s' I1 hq
  | ok fl =>
    cases fl with
    | ret u => exact I1.after hq
    | _ => exact False.elim hq
/-- repr of what lists and tuples hold -/
theorem call_reprD (hgd : X.A.guards = some []) (hu : X.A.units + 64 < cLine) : CallR X (.builtin "repr") (fun xs H Q => ∃ a d, xs = [.ref a] ∧ Dp X.K H (.ref a) d ∧ d.showable = true ∧ d.hasDict = false ∧ d.depth ≤ 60 ∧ d.shown.length ≤ sizeLine ∧ Q (.str d.shown) H) := by
  intro pins s σ H xs us Q I r h
  obtain ⟨a, d, rfl, hD, h1, h2, h3, h4, q⟩ := h
  obtain ⟨u, rfl, ru⟩ := vals1 r
  obtain rfl : u = Value.ref a := ru
  obtain ⟨as, hr⟩ := hD.reads I d (.ref a) (.ref a) rfl
  refine repr_of_reads' hr h1 (fun z => by rw [h2] at z; cases z) hgd (by omega) (fun _ _ e => e) (fun h' u tk hk => ?_) h4
  exact ⟨.str d.shown, H, I.kept hk, ⟨_, rfl⟩, q⟩
theorem kv_reprD {a : Addr} {d : PyData} (hgd : X.A.guards = some []) (hu : X.A.units + 64 < cLine) (hD : Dp X.K H (.ref a) d) (h1 : d.showable = true) (h2 : d.hasDict = false) (h3 : d.depth ≤ 60) (h4 : d.shown.length ≤ sizeLine) (h : Q (.str d.shown) H) : CallV X (.builtin "repr") [.ref a] H Q :=
  ⟨_, call_reprD hgd hu, a, d, rfl, hD, h1, h2, h3, h4, h⟩
end
/-! ### the law's end -/
section
variable {P : Program} {w : World} {K : PySem.W.Frag} {mg mb : Str → Option Value} {k : Nat} {fa a : Addr} {x : Str} {sp : Sp} {s1 : Shared} {vs : List Value} {ns : List Int}
/-- what holds behind the call of the law -/
def LawEnd (s1 : Shared) : Result → Shared → Prop := fun r s' => r = .ok (.ret (.bool true)) ∧ OldK s1.heap s'.heap ∧ s'.os = s1.os ∧ AllBare s'.gens
theorem law_goes {H : Hp} (KX : K.In s1.heap) (hns : s1.heap.Ns mainGlobals mg) (hb : s1.heap.Ns builtinsNs mb) (hbb : ∀ x : Str, x ≠ "__name__" → mb x = bootBuiltins x) (hlim : s1.heap.NoLimit) (hg : s1.gens = #[])
    (ha : s1.heap.get? a = some { cls := .type "list", data := .seq vs.toArray }) (hr : Room k callerA) (F : ∀ base : Heap, K.In base → base.Ns mainGlobals mg → FnG P w K mg base k fa [x] sp)
    (hO : ∀ b, H b = none ∨ (b = a ∧ K.lookup a = none ∧ ∃ o xs, H b = some (.frz o (.lst xs)))) (hok : HOk P w H s1.heap) (hsp : sp [.ref a] H (fun v _ => v = .bl true) fun _ _ _ => False) :
    codeAny (model P w) callerA (.call (.ref fa) ⟨[.ref a], []⟩) (LawEnd s1) s1 := by
  have hid : ∀ {b : Addr} {o : Obj}, s1.heap.get? b = some o → (∀ xs n, o.data ≠ .seq xs n) → (hidT s1.heap H).get? b = some o := fun {b o} e n => hidT_get e (by
    rcases hO b with z | ⟨rfl, _, _⟩
    · exact z
    · rw [ha] at e
      cases e
      exact (n _ _ rfl).elim)
  have hns' : ∀ {b : Addr} {m : Str → Option Value}, s1.heap.Ns b m → (hidT s1.heap H).Ns b m := fun ⟨o, es, ep, e, d, r⟩ => ⟨o, es, ep, hid e (fun xs n z => by rw [d] at z; cases z), d, r⟩
  have hK : K.In (hidT s1.heap H) := fun b o e => hidT_get (KX b o e) (by
    rcases hO b with z | ⟨rfl, z, _⟩
    · exact z
    · rw [z] at e
      cases e)
  obtain ⟨mc, l1, l2⟩ := hlim
  have e0 : Env0 P w K mg (hidT s1.heap H) callerA [] s1 H :=
    ⟨rfl, ⟨hK, hns' hns, ⟨mb, hns' hb, hbb⟩, mc, hns' l1, l2⟩, fun b o e => of_hidT e, Nat.le_of_eq (hidT_size _ _), trivial, fun b z => (List.not_mem_nil (show b ∈ ([] : List Addr) from z)).elim, hok, .of_eq hg⟩
  refine codeAny_mono ((F _ hK (hns' hns)).go callerA [] s1 H [.ref a] [.ref a] _ _ rfl hr e0 (.cons rfl .nil) hsp) fun r s' h => ?_
  cases r with
  | error e =>
    obtain ⟨_, _, _, _, _, _, _, _, _, _, _, _, z⟩ := h
    exact z.elim
  | ok fl =>
    cases fl with
    | ret u =>
      obtain ⟨v, H', os, bare, un, hok', r', q⟩ := h
      cases (show v = V.bl true from q)
      cases (show u = Value.bool true from r')
      refine ⟨rfl, OldK.of_keep fun b o e => ?_, os, bare⟩
      rcases hO b with z | ⟨_, _, ob, xs, z⟩
      · exact un.keep b o e z (fun y => (List.not_mem_nil (show b ∈ ([] : List Addr) from y)).elim) (by simp)
      · have y1 := (hok b _ z).1
        have y2 := (hok' b _ (un.frzs b ob _ z)).1
        rw [e] at y1
        cases y1
        exact y2
    | _ => exact False.elim h
theorem law_callG (KX : K.In s1.heap) (hns : s1.heap.Ns mainGlobals mg) (hb : s1.heap.Ns builtinsNs mb) (hbb : ∀ x : Str, x ≠ "__name__" → mb x = bootBuiltins x) (hlim : s1.heap.NoLimit) (hg : s1.gens = #[])
    (ha : s1.heap.get? a = some { cls := .type "list", data := .seq vs.toArray }) (hi : IntsAre vs ns) (hl : ns.length ≤ sizeLine) (hr : Room k callerA) (F : ∀ base : Heap, K.In base → base.Ns mainGlobals mg → FnG P w K mg base k fa [x] sp)
    (hsp : ∀ H : Hp, SqL K H a (ns.map V.int) → sp [.ref a] H (fun v _ => v = .bl true) fun _ _ _ => False) : codeAny (model P w) callerA (.call (.ref fa) ⟨[.ref a], []⟩) (LawEnd s1) s1 := by
  have rv := vals_ints hi
  cases hk : K.lookup a with
  | some o =>
    have e := KX a o hk
    rw [ha] at e
    cases e
    exact law_goes (H := fun _ => none) KX hns hb hbb hlim hg ha hr F (fun _ => .inl rfl) (fun _ _ z => nomatch z)
      (hsp _ (.inr ⟨_, vs.toArray, _, hk, rfl, rfl, rfl, by rw [List.size_toArray, hi.length]; exact hl, by simpa using rv⟩))
  | none =>
    have e1 : ∀ {b : Addr}, b ≠ a → (if b = a then some (HO.frz { cls := .type "list", data := .seq vs.toArray } (.lst (ns.map V.int))) else none) = none := fun h => if_neg h
    refine law_goes (H := fun b => if b = a then some (.frz { cls := .type "list", data := .seq vs.toArray } (.lst (ns.map V.int))) else none) KX hns hb hbb hlim hg ha hr F (fun b => ?_) (fun b u z => ?_) (hsp _ (.inl (.inr ⟨_, if_pos rfl⟩)))
    · by_cases c : b = a
      · exact .inr ⟨c, hk, _, _, if_pos c⟩
      · exact .inl (e1 c)
    · by_cases c : b = a
      · cases (if_pos c).symm.trans z
        rw [c]
        exact ⟨ha, by rw [List.length_map]; exact hl, vs, _, rv, ha⟩
      · cases (e1 c).symm.trans z
end
/-- what the head must know of the law -/
def LawAtG (l : PySem.W.OpenLaw) (w : World) (K : PySem.W.Frag) (k n : Nat) (x : Str) (mg : Str → Option Value) (fa : Addr) : Prop :=
  ∃ sp : Sp, (∀ (H : Hp) (a : Addr) (ns : List Int), ns.length ≤ n → SqL K H a (ns.map V.int) → sp [.ref a] H (fun v _ => v = .bl true) fun _ _ _ => False) ∧
    ∀ base : Heap, K.In base → base.Ns mainGlobals mg → FnG l.prog w K mg base k fa [x] sp
theorem walk_G {l : PySem.W.OpenLaw} {n k : Nat} {q : Program} {loose : List Str} {XP : (Str → Option Value) → Heap → Prop} {YP : World → Heap → Prop} {d : DefRec} {x : Str} (hn : l.most = some n) (hn2 : n ≤ sizeLine) (hdf : d.params.defaults = []) (hr : Room k callerA)
    (F : ∀ (w : World) (mg : Str → Option Value) (fa : Addr) (h : Heap), YP w h → h.Ns mainGlobals mg → mg d.name = some (.ref fa) → ∃ K : PySem.W.Frag, K.In h ∧ LawAtG l w K k n x mg fa) :
    PySem.W.WalkO q loose XP YP l.row.toRowW d [] (fun f vs => PySem.call f vs) :=
  Att.attach_callB hn hdf fun w _ _ mg _ fa _ _ _ _ a _ ns G Y _ _ _ hmg hobj hints hlen _ hg =>
    let ⟨_, KX, _, hsp, hF⟩ := F w mg fa _ Y G.T.g hmg
    law_callG KX G.T.g G.T.b G.T.builtins G.T.nolimit hg hobj hints (Nat.le_trans hlen hn2) hr hF fun H hS => hsp H a ns hlen hS
end Ax
end
section
set_option maxHeartbeats 4000000
/-! list comprehensions of two fors -/
namespace Ax
open PySem PySem.Spec PyProof.Rows L2
section
variable {X : Cx} {iter elt tg iter1 tg1 : Expr} {σ : L2.St} {H : Hp} {Q : VK} {pos : Pos} {scope : Scope}
/-- n outer items, of each m inner ones; R: what is known of the k-th thing in the list at D -/
abbrev LcN2 (X : Cx) (tg iter elt tg1 iter1 : Expr) (scope : Scope) (own : List (Str × Nat)) (vs1 : List Nat) (g g1 : TG) (σ : L2.St) (H : Hp) (Q : VK) : Prop := WI X tg iter σ H fun J H1 => ∃ n Y, ItN J H1 n Y ∧ ∃ m, n * m < sizeLine ∧ ∃ R : Addr → Nat → V → Hp → Prop,
  (∀ D k y Ha Hb, R D k y Ha → Bt D Ha Hb → R D k y Hb) ∧
  (∀ D i x H2, H1 D = none → i < n → Same H1 H2 → Y i x H2 → g x (wipe σ (own.map (·.2))) H2 fun σ2 H3 => wipe σ2 (own.map (·.2)) = wipe σ (own.map (·.2)) ∧ Same H2 H3 ∧ Blk X scope fun Y => WI Y tg1 iter1 σ2 H3 fun J2 H4 => Same H3 H4 ∧ ∃ Y2, ItD D J2 H4 m Y2 ∧
    ∀ j y H5, j < m → Bt D H4 H5 → (∃ acc, H5 D = some (.lst acc)) → Y2 j y H5 → g1 y (wipe σ2 vs1) H5 fun σ3 H6 => wipe σ3 vs1 = wipe σ2 vs1 ∧ Blk X scope fun Y => W Y elt σ3 H6 fun v H7 => Same H5 H7 ∧ R D (i * m + j) v H7) ∧
  ∀ D ys H2, H1 D = none → Same H1 H2 → H2 D = some (.lst ys) → ys.length = n * m → (∀ k y, ys[k]? = some y → R D k y H2) → Q (.ref D) H2
theorem lcN2_t {own : List (Str × Nat)} {vs1 : List Nat} {g g1 : TG} (mg : ∀ v σ H (Q Q' : L2.St → Hp → Prop), (∀ a b, Q a b → Q' a b) → g v σ H Q → g v σ H Q') (mg1 : ∀ v σ H (Q Q' : L2.St → Hp → Prop), (∀ a b, Q a b → Q' a b) → g1 v σ H Q → g1 v σ H Q')
    (h : LcN2 X tg iter elt tg1 iter1 scope own vs1 g g1 σ H Q) : tLc2 (WI X tg iter) g tYes (fun σ2 H2 R => Blk X scope fun Y => WI Y tg1 iter1 σ2 H2 R) g1 tYes (fun σ2 H2 K => Blk X scope fun Y => W Y elt σ2 H2 K) (own.map (·.2)) vs1 σ H Q := by
  refine ⟨fun pins s I => thn (h.run pins s I) fun v s1 z => thn z fun it s2 q => ?_⟩
  obtain ⟨it', fp, tn, J, H1, e, I2, T, t0, f0, n, Y, ⟨G, wk, g0, gs⟩, m, hnm, R, rb, hel, hend⟩ := q
  refine ⟨it', fp, tn, J, H1, e, I2, T, t0, f0, fun D nD => ⟨fun i c Hx => c = n - i ∧ i ≤ n ∧ Same H1 Hx ∧ ∃ ys, Hx D = some (.lst ys) ∧ ys.length = i * m ∧ ∀ k y, ys[k]? = some y → R D k y Hx, ⟨n, by simp, Nat.zero_le _, same_new nD, [], upd_same, by simp, fun k y e => by simp at e⟩, ?_⟩⟩
  rintro i c Hx ⟨rfl, hi, sm, ys, hD, hl, hR⟩
  have gx := gs Hx sm
  by_cases lt : i < n
  · refine .inr ⟨wk.goes i Hx lt gx, fun Hy => Same H1 Hy ∧ ∃ ys, Hy D = some (.lst ys) ∧ ys.length = (i + 1) * m ∧ ∀ k y, ys[k]? = some y → R D k y Hy, fun Hy p => ⟨n - (i + 1), by omega, rfl, lt, p⟩, fun x H' hy => ?_⟩
    obtain ⟨sxx, yx⟩ := wk.yields i Hx x H' lt gx hy
    refine mg _ _ _ _ _ (fun σ2 H3 ⟨z1, s3, z2⟩ => ⟨z1, ?_⟩) (hel D i x H' nD lt (sm.trans sxx) yx)
    unfold tYes; dsimp only; rw [if_pos rfl]
    intro s' Hz C cl fp'
    refine ⟨fun pins s I => thn ((z2 s' Hz C cl fp').run pins s I) fun v s1 z => thn z fun it s2 q => ?_⟩
    obtain ⟨it2, fp2, tn2, J2, H4, e2, I4, T2, t2, f2, s4, Y2, ⟨G2, wk2, g20, gs2⟩, hel2⟩ := q
    have s14 : Same Hx H4 := sxx.trans (s3.trans s4)
    have hm1 : (i + 1) * m ≤ n * m := Nat.mul_le_mul_right m lt
    rw [Nat.succ_mul] at hm1
    refine ⟨it2, fp2, tn2, J2, H4, e2, I4, T2, t2, f2, fun j c Hc => c = m - j ∧ j ≤ m ∧ Same H1 Hc ∧ Bt D H4 Hc ∧ ∃ ys, Hc D = some (.lst ys) ∧ ys.length = i * m + j ∧ ∀ k y, ys[k]? = some y → R D k y Hc,
      ⟨m, by simp, Nat.zero_le _, sm.trans s14, Bt.refl _ _, ys, s14 _ _ hD, hl, fun k y e => rb D k y _ _ (hR k y e) (Bt.of s14)⟩, ?_⟩
    rintro j c Hc ⟨rfl, hj, smc, btc, ysc, hDc, hlc, hRc⟩
    have gc := gs2 Hc btc
    by_cases ltj : j < m
    · refine .inr ⟨wk2.goes j Hc ltj gc, fun Hd => Same H1 Hd ∧ Bt D H4 Hd ∧ ∃ ys, Hd D = some (.lst ys) ∧ ys.length = i * m + (j + 1) ∧ ∀ k y, ys[k]? = some y → R D k y Hd, fun Hd p => ⟨m - (j + 1), by omega, rfl, ltj, p⟩, fun y2 H5 hy2 => ?_⟩
      obtain ⟨scd, yy⟩ := wk2.yields j Hc y2 H5 ltj gc hy2
      have bt5 := btc.trans (Bt.of scd)
      refine mg1 _ _ _ _ _ (fun σ3 H6 ⟨w1, w2⟩ => ⟨w1, ?_⟩) (hel2 j y2 H5 ltj bt5 ⟨_, scd _ _ hDc⟩ yy)
      rw [if_pos rfl]
      intro s' Hz C cl fp'
      refine W.mono (w2 s' Hz C cl fp') fun v H7 ⟨s57, hv⟩ => ?_
      have hD7 := s57 _ _ (scd _ _ hDc)
      have bt7 : Bt D H7 (upd H7 D (.lst (ysc ++ [v]))) := (Bt.refl _ _).upd
      refine ⟨ysc, hD7, by omega, same_upd (smc.trans (scd.trans s57)) nD, (bt5.trans (Bt.of s57)).upd, _, upd_same, by rw [List.length_append, hlc]; rfl, fun k y e => ?_⟩
      refine rb D k y _ _ ?_ bt7
      by_cases ck : k < ysc.length
      · rw [List.getElem?_append_left ck] at e
        exact rb D k y _ _ (hRc k y e) (Bt.of (scd.trans s57))
      · rw [List.getElem?_append_right (Nat.le_of_not_lt ck)] at e
        have ek : k = ysc.length := by
          have := (List.getElem?_eq_some_iff.mp e).1
          simp at this
          omega
        rw [ek, Nat.sub_self] at e
        cases e
        rw [ek, hlc]
        exact hv
    · obtain rfl : j = m := by omega
      exact .inl ⟨wk2.stops Hc gc, smc, ysc, hDc, by rw [hlc, Nat.succ_mul], hRc⟩
  · obtain rfl : i = n := by omega
    exact .inl ⟨wk.stops Hx gx, hend D ys Hx nD sm hD hl hR⟩
/-- y = [elt for tg in iter for tg1 in iter1] -/
theorem ws_setLc2 {D : Ends} {y : Str} {py spos : Pos} (i : Nat) (own : List (Str × Nat)) (vs1 : List Nat) (g g1 : TG) (mg : ∀ v σ H (Q Q' : L2.St → Hp → Prop), (∀ a b, Q a b → Q' a b) → g v σ H Q → g v σ H Q') (mg1 : ∀ v σ H (Q Q' : L2.St → Hp → Prop), (∀ a b, Q a b → Q' a b) → g1 v σ H Q → g1 v σ H Q')
    (hg : Blk X scope fun Y => PG Y tg g) (hg1 : Blk X scope fun Y => PG Y tg1 g1) (hc : X.calm = true) (hN : X.N.Nodup) (ok : BlkOk X.N X.env.scope scope own) (hv : ∀ i ∈ vs1, i ∈ own.map (·.2)) (hy : X.N[i]? = some y) (h : LcN2 X tg iter elt tg1 iter1 scope own vs1 g g1 σ H fun v H1 => D.nx (σ.set i (some v)) H1)
    (hyl : X.env.scope.names.lookup y = some .local := by rfl) (hsw : swapsWith (.ListComp elt [⟨tg, iter, [], 0⟩, ⟨tg1, iter1, [], 0⟩] scope pos) (some (.Name y py)) spos.line X.env = pure true := by exact sw_true rfl rfl rfl rfl)
    (hs : ∀ x, foldedSetIterable iter X.env x = pure x := by intro _; rfl) (hs1 : ∀ env x, foldedSetIterable iter1 env x = pure x := by intro _ _; rfl) : WS X (.Assign [.Name y py] (.ListComp elt [⟨tg, iter, [], 0⟩, ⟨tg1, iter1, [], 0⟩] scope pos) spos) D σ H :=
  WS.of (ps_setLc2 (own := own) (vs1 := vs1) (g := g) (g1 := g1) (tt := tYes) (tt1 := tYes) (wi1 := fun σ2 H2 R => Blk X scope fun Y => WI Y tg1 iter1 σ2 H2 R) (te := fun σ2 H2 K => Blk X scope fun Y => W Y elt σ2 H2 K) hc hN hy hyl hsw WI.pi ok hv hg (fun _ _ _ _ _ => pts_nil)
    (fun s H C cl fp => ⟨fun pins s' σ' H' R' I' h' => (h' s H C cl fp).run pins s' I'⟩) hg1 (fun _ _ _ _ _ => pts_nil) (fun s H C cl fp => ⟨fun pins s' σ' H' Q' I' h' => (h' s H C cl fp).run pins s' I'⟩) hs hs1) (lcN2_t mg mg1 h)
end
end Ax
end
section
set_option maxHeartbeats 4000000
/-! methods of own classes, ==, !=, len by own ones; keys that are rows -/
namespace Ax
open PySem PySem.Spec PyProof.Rows L2
section
variable {X : Cx} {e a b o fe : Expr} {es : List Expr} {σ : L2.St} {H : Hp} {Q : VK} {D : Ends} {C g p : Addr} {f m x : Str} {pos np apos : Pos} {sp : Sp} {k : Nat} {E : XK}
theorem after_fnP {pins : List (Addr × Obj)} {s : Shared} {us : List Value} {vs : List V} (F : FnP X.prog X.w X.K X.mg X.base k g sp) (hr : Room k X.A) (hx : Passes (L2.CX X.prog X.w) X E) (I : Inv X pins σ H s) (r : Vals vs us) (h : sp vs H Q E) :
    wpAny (model X.prog X.w) X.A (call (.ref g) us) (EP X pins σ Q) X.xe s := wpAny_call (run_fnR F hr hx I r h)
/-- o.m(e, ..), a method of the class of o -/
theorem w_meth {pl : Sem Bool} (c : Cls X.K C) (hm : Meth X.K C m g) (F : FnP X.prog X.w X.K X.mg X.base k g sp) (hr : Room k X.A) (hx : Passes (L2.CX X.prog X.w) X E)
    (h : W X o σ H fun x H1 => ∃ a dx fs, x = .ref a ∧ H1 a = some (.ins C dx fs) ∧ fs.lookup m = none ∧ WA X (e :: es) σ H1 fun vs H2 => sp (.ref a :: vs) H2 Q E)
    (hst : starEach (e :: es) X.env = (false, eval e X.env) :: starEach es X.env := by rfl) (hpl : (backTo pos (starEach es X.env)).any (·.1) = false := by rfl)
    (ht : eval (.Call (.Attribute o m apos) (e :: es) [] pos) X.env = (do
      let ov ← eval o X.env
      standAt apos.atName
      let (f, first) ← holding [ov] (getMethod ov m pl)
      callWith pos f first (backTo pos (starEach (e :: es) X.env)) (backToKw pos (keywordEach [] X.env))) := by rfl) : W X (.Call (.Attribute o m apos) (e :: es) [] pos) σ H Q := by
  refine ⟨fun pins s I => PySem.W.methodCall_KW (pl := pl) (thn (h.run pins s I) fun u s1 ⟨x, H1, I1, rx, a, dx, fs, ex, ea, l, q⟩ => ?_) ht⟩
  subst ex
  obtain rfl : u = Value.ref a := rx
  refine getmeth_ok I1 ea c hm l (PySem.W.callWith_K (first := [.ref a]) (h₀ := X.base) I.ok.mod.kin hm.kp (thn (q.run pos pins s1 I1) fun us s2 ⟨vs, H2, I2, r, q2⟩ => ⟨I2.kIn, ?_⟩) hst hpl)
  exact after_fnP (us := .ref a :: us) (vs := .ref a :: vs) F hr hx I2 (.cons rfl r) q2
theorem w_meth0 {pl : Sem Bool} (c : Cls X.K C) (hm : Meth X.K C m g) (F : FnP X.prog X.w X.K X.mg X.base k g sp) (hr : Room k X.A) (hx : Passes (L2.CX X.prog X.w) X E)
    (h : W X o σ H fun x H1 => ∃ a dx fs, x = .ref a ∧ H1 a = some (.ins C dx fs) ∧ fs.lookup m = none ∧ sp [.ref a] H1 Q E)
    (ht : eval (.Call (.Attribute o m apos) [] [] pos) X.env = (do
      let ov ← eval o X.env
      standAt apos.atName
      let (f, first) ← holding [ov] (getMethod ov m pl)
      callWith pos f first (backTo pos (starEach [] X.env)) (backToKw pos (keywordEach [] X.env))) := by rfl) : W X (.Call (.Attribute o m apos) [] [] pos) σ H Q := by
  refine ⟨fun pins s I => PySem.W.methodCall_KW (pl := pl) (thn (h.run pins s I) fun u s1 ⟨x, H1, I1, rx, a, dx, fs, ex, ea, l, q⟩ => ?_) ht⟩
  subst ex
  obtain rfl : u = Value.ref a := rx
  exact getmeth_ok I1 ea c hm l (PySem.W.callWith_K0 (first := [.ref a]) I1.kIn hm.kp (after_fnP (us := [.ref a]) (vs := [.ref a]) F hr hx I1 (.cons rfl .nil) q))
/-! ### own operators -/
theorem ifb_ne {M : Model} {A : Around} {E : Value → Shared → Prop} {s : Shared} {K : PySem.W.Frag} {x C : Addr} {ox : Obj} {od : Option Obj} {args : List Value} {Q : Option Value → Shared → Prop} (X : K.In s.heap) (I : PySem.W.InstAt s.heap x ox C od) (hn : PySem.W.findIn K (.ref C) "__ne__" = some (some (.builtin "object.__ne__")))
    (h : wpAny M A (call (.builtin "object.__ne__") (.ref x :: args)) (fun v => Q (some v)) E s) : wpAny M A (callSpecialIfBound? (.ref x) "__ne__" args) Q E s := by
  have fin : wpAny M A (call (.builtin "object.__ne__") ([.ref x] ++ args) >>= fun v => pure (some v)) Q E s := wpAny_bind (wpAny_mono h (fun _ _ z => wpAny_pure z) fun _ _ z => z)
  simp only [callSpecialIfBound?, bindSpecialIfBound?]
  refine wpAny_holding (wpAny_bind (wpAny_bind (wpAny_bind (I.type.here ((PySem.W.looks_findIn X hn).here (wpAny_bind (wpAny_askSetting (wpAny_ite ?_))))))))
  split
  · exact wpAny_bind (wpAny_of_eq (F.cmp_object.ne.bind _) (wpAny_pure (by exact fin)))
  · exact wpAny_tryCatch (wpAny_bind (wpAny_of_eq (F.cmp_object.ne.bind _) (wpAny_pure (by exact fin))))
theorem ne_own {prog : Program} {w : World} {A : Around} {E : Value → Shared → Prop} {s : Shared} {K : PySem.W.Frag} {x y C f : Addr} {ox oy : Obj} {od od2 : Option Obj} {Q : Value → Shared → Prop} (hu : A.units + 1 < cLine) (X : K.In s.heap) (I : PySem.W.InstAt s.heap x ox C od) (J : PySem.W.InstAt s.heap y oy C od2)
    (hm : PySem.W.mroIn K C (.type "object") = some true) (hn : PySem.W.findIn K (.ref C) "__ne__" = some (some (.builtin "object.__ne__"))) (hs : PySem.W.findIn K (.ref C) "__eq__" = some (some (.ref f))) (hf : PySem.W.isFn K (.ref f) = true)
    (h : wpAny (model prog w) A.in1 (call (.ref f) [.ref x, .ref y]) (fun v s' => ∃ b, v = .bool b ∧ Q (.bool (!b)) s') E s) : wpAny (model prog w) A (richCompare .NotEq (.ref x) (.ref y)) Q E s := by
  have hu1 : A.in1.units < cLine := hu
  have ent : ∀ {Z : PySem.Fin → Shared → Prop}, wpAny (model prog w) A.in1 (call (.ref f) [.ref x, .ref y]) (fun v s' => ∃ b, v = .bool b ∧ Z (.done (.ret (.bool (!b)))) s') E s → wpAny (model prog w) A.in1 (Builtin.«object.__ne__» ⟨[.ref x, .ref y], []⟩) Z E s := fun {Z} hc => by
    unfold Builtin.«object.__ne__»
    repeat (first
      | with_reducible refine wpAny_cRoomFor hu1 ?_
      | (refine wpAny_bind (m := callSpecialIfBound? (.ref x) (Str.ofString "__eq__") [.ref y]) (PySem.W.ifBound_K X I hs hf (wpAny_mono hc (fun r s' hr => by
          obtain ⟨b, rfl, hq⟩ := hr
          repeat (first | exact hq | exact wpAny_pure hq | exact wpAny_truthy_bool hq | (refine wpAny_bind (m := truthy (.bool _)) (wpAny_truthy_bool ?_)) | wp_step)) fun _ _ e => e)))
      | wp_step)
  have one : wpAny (model prog w) A (tryCompare (.ref x) "__ne__" (.ref y)) (fun r s' => ∃ v, r = some v ∧ Q v s') E s := by
    unfold tryCompare
    refine wpAny_bind (ifb_ne X I hn (wpAny_call (codeAny_call_builtin F.cmp_object.ne.plain F.cmpEntry_ne (PySem.W.check_slot F.cmpKind_ne F.cmpSplit_ne (I.type.andThen (PySem.W.looks_mroIn X hm)) (F.cmpArgs_ne _ _) (ent (wpAny_mono h (fun v s' hv => ?_) fun _ _ e => e))))))
    obtain ⟨b, rfl, hq⟩ := hv
    exact ⟨_, rfl, wpAny_pure ⟨_, rfl, hq⟩⟩
  unfold richCompare
  simp only [oneThing_ref]
  refine wpAny_holding (wpAny_bind (wpAny_cRoomFor (Nat.lt_of_succ_lt hu) ?_))
  refine wpAny_bind (I.type.here (wpAny_bind (J.type.here ?_)))
  rw [show (Value.ref C != Value.ref C) = false from by simp]
  simp only [Bool.false_eq_true, if_false]
  refine wpAny_bind (wpAny_pure ?_)
  simp only [Bool.false_eq_true, if_false]
  refine wpAny_bind (wpAny_mono one (fun r s' z => ?_) fun _ _ e => e)
  obtain ⟨v, rfl, hq⟩ := z
  exact wpAny_pure hq
/-- a run of a def at another surrounding of the same frames -/
theorem run_at {pins : List (Addr × Obj)} {s : Shared} {A : Around} {us : List Value} {vs : List V} (F : FnP X.prog X.w X.K X.mg X.base k g sp) (hr : Room k A) (hA : A.frames = X.A.frames) (hx : Passes (L2.CX X.prog X.w) X E) (I : Inv X pins σ H s) (r : Vals vs us) (h : sp vs H Q E) :
    wpAny (model X.prog X.w) A (call (.ref g) us) (EP X pins σ Q) X.xe s := by
  have e := I.env0
  refine wpAny_call (codeAny_mono (F A X.stack s H us vs Q E hr ⟨by rw [hA]; exact e.frames, e.mod, e.bs, e.bsz, e.funs, e.frf, e.hok, e.bare⟩ r h) fun res s' hq => ?_)
  cases res with
  | error e => exact hx pins σ H s e s' I hq
  | ok fl =>
    cases fl with
    | ret u => exact I.after hq
    | _ => exact False.elim hq
theorem cv_eqO {a b dx dy : Addr} {fs gs : List (Str × V)} (hm : Meth X.K C "__eq__" g) (F : FnP X.prog X.w X.K X.mg X.base k g sp) (hr : Room k X.A) (hx : Passes (L2.CX X.prog X.w) X E) (ha : H a = some (.ins C dx fs)) (hb : H b = some (.ins C dy gs))
    (h : sp [.ref a, .ref b] H (fun v H2 => ∃ t, v = .bl t ∧ Q (.bl t) H2) E) : CmpV X .Eq (.ref a) (.ref b) H Q := by
  refine ⟨fun x y H' Q' => x = .ref a ∧ y = .ref b ∧ H' = H ∧ Q' = Q, ?_, rfl, rfl, rfl, rfl⟩
  rintro pins s σ' H' x y u v Q' I rx ry ⟨rfl, rfl, rfl, rfl⟩
  cases rx
  cases ry
  obtain ⟨mA, J, _⟩ := ins_get I.hok ha
  obtain ⟨mB, J', _⟩ := ins_get I.hok hb
  obtain ⟨od, J, _⟩ := J.look
  obtain ⟨od', J', _⟩ := J'.look
  obtain ⟨m, hF⟩ := I.fr
  refine PySem.W.cmp_K (op := .Eq) (tb := .ref C) hr.units0 hF I.ok.mod.kin J J'.type (by simp [PySem.W.notFirst]) hm.at_ hm.fn (wpAny_mono (run_at (vs := [.ref a, .ref b]) F hr rfl hx I (.cons rfl (.cons rfl .nil)) h) (fun v s' z => ?_) fun _ _ e => e)
  obtain ⟨x, H2, I2, r, t, rfl, q⟩ := z
  cases (show v = Value.bool t from r)
  exact ⟨.bl t, H2, I2, rfl, q⟩
theorem cv_neO {a b dx dy : Addr} {fs gs : List (Str × V)} (ob : PySem.W.mroIn X.K C (.type "object") = some true) (hn : PySem.W.findIn X.K (.ref C) "__ne__" = some (some (.builtin "object.__ne__"))) (hm : Meth X.K C "__eq__" g) (F : FnP X.prog X.w X.K X.mg X.base k g sp) (hr : Room (k + 1) X.A) (hx : Passes (L2.CX X.prog X.w) X E) (ha : H a = some (.ins C dx fs)) (hb : H b = some (.ins C dy gs))
    (h : sp [.ref a, .ref b] H (fun v H2 => ∃ t, v = .bl t ∧ Q (.bl (!t)) H2) E) : CmpV X .NotEq (.ref a) (.ref b) H Q := by
  refine ⟨fun x y H' Q' => x = .ref a ∧ y = .ref b ∧ H' = H ∧ Q' = Q, ?_, rfl, rfl, rfl, rfl⟩
  rintro pins s σ' H' x y u v Q' I rx ry ⟨rfl, rfl, rfl, rfl⟩
  cases rx
  cases ry
  obtain ⟨mA, J, _⟩ := ins_get I.hok ha
  obtain ⟨mB, J', _⟩ := ins_get I.hok hb
  obtain ⟨od, J, _⟩ := J.look
  obtain ⟨od', J', _⟩ := J'.look
  refine ne_own hr.in1.units0 I.kIn J J' ob hn hm.at_ hm.fn (wpAny_mono (run_at (vs := [.ref a, .ref b]) F hr.in1 rfl hx I (.cons rfl (.cons rfl .nil)) h) (fun v s' z => ?_) fun _ _ e => e)
  obtain ⟨x, H2, I2, r, t, rfl, q⟩ := z
  cases (show v = Value.bool t from r)
  exact ⟨t, rfl, .bl (!t), H2, I2, rfl, q⟩
/-- len(o) by an own __len__ -/
theorem kv_lenO {a dx : Addr} {fs : List (Str × V)} (hm : Meth X.K C "__len__" g) (F : FnP X.prog X.w X.K X.mg X.base k g sp) (hr : Room (k + 1) X.A) (hx : Passes (L2.CX X.prog X.w) X E) (ha : H a = some (.ins C dx fs))
    (h : sp [.ref a] H (fun v H2 => ∃ n : Nat, v = .int n ∧ n < 2 ^ 62 ∧ Q (.int n) H2) E) : CallV X (.builtin "len") [.ref a] H Q := by
  refine ⟨fun xs H' Q' => xs = [.ref a] ∧ H' = H ∧ Q' = Q, ?_, rfl, rfl, rfl⟩
  rintro pins s σ' H' xs us Q' I r ⟨rfl, rfl, rfl⟩
  rw [L2.Vals.ref1 r]
  obtain ⟨mA, J, _⟩ := ins_get I.hok ha
  obtain ⟨od, J, _⟩ := J.look
  obtain ⟨m, hF⟩ := I.fr
  refine PySem.W.len_K hF I.ok.mod.kin J hm.at_ hm.fn (wpAny_mono (run_at (vs := [.ref a]) F hr.in1 rfl hx I (.cons rfl .nil) h) (fun v s' z => ?_) fun _ _ e => e)
  obtain ⟨x, H2, I2, r, n, rfl, hn, q⟩ := z
  obtain ⟨t, rfl⟩ := r
  exact ⟨⟨by omega, by omega⟩, .int n, H2, I2.tok _, ⟨_, rfl⟩, q⟩
/-- a row among the keys of a dict -/
theorem cv_inT {a b : Addr} {kvs : List (List Key × V)} {k : List Key} (hu : X.A.units + 64 < cLine) (ha : H a = some (.dT kvs)) (hb : H b = some (.tup (k.map kV))) (h : Q (.bl (valV kvs k).isSome) H) : CmpV X .In (.ref b) (.ref a) H Q := by
  refine ⟨fun x y H' Q' => x = .ref b ∧ y = .ref a ∧ H' = H ∧ Q' = Q, ?_, rfl, rfl, rfl, rfl⟩
  rintro pins s σ' H' x y u v Q' I rx ry ⟨rfl, rfl, rfl, rfl⟩
  cases (show v = Value.ref a from ry)
  exact d_in (by omega) I (DGet.t ha hb) rx fun s2 I2 => ⟨.bl _, _, I2, rfl, h⟩
theorem cv_notInT {a b : Addr} {kvs : List (List Key × V)} {k : List Key} (hu : X.A.units + 64 < cLine) (ha : H a = some (.dT kvs)) (hb : H b = some (.tup (k.map kV))) (h : Q (.bl (!(valV kvs k).isSome)) H) : CmpV X .NotIn (.ref b) (.ref a) H Q := by
  refine ⟨fun x y H' Q' => x = .ref b ∧ y = .ref a ∧ H' = H ∧ Q' = Q, ?_, rfl, rfl, rfl, rfl⟩
  rintro pins s σ' H' x y u v Q' I rx ry ⟨rfl, rfl, rfl, rfl⟩
  cases (show v = Value.ref a from ry)
  exact d_notIn (by omega) I (DGet.t ha hb) rx fun s2 I2 => ⟨.bl _, _, I2, rfl, h⟩
/-- a text among the keys of a dict -/
theorem cv_inK {a : Addr} {kvs : List (Key × V)} {z : Str} (hu : X.A.units + 64 < cLine) (ha : H a = some (.dK kvs)) (h : Q (.bl (valV kvs (.inr z)).isSome) H) : CmpV X .In (.str z) (.ref a) H Q := by
  refine ⟨fun x y H' Q' => x = .str z ∧ y = .ref a ∧ H' = H ∧ Q' = Q, ?_, rfl, rfl, rfl, rfl⟩
  rintro pins s σ' H' x y u v Q' I rx ry ⟨rfl, rfl, rfl, rfl⟩
  cases (show v = Value.ref a from ry)
  exact d_in (by omega) I (DGet.k (k := .inr z) ha) rx fun s2 I2 => ⟨.bl _, _, I2, rfl, h⟩
end
end Ax
end
section
set_option maxHeartbeats 4000000
/-! tuple * n for any n; lists of ranges -/
namespace Ax
open PySem PySem.Spec PyProof.Rows L2
open PySem.AutoSeq1 (wpAny_loadPart')
theorem tuple_mul1 (l : Addr) (items : Array Value) (n : Nat) (dd : Option Addr) (sl : Array (Option Value)) (u : Tok) :
    Meets (Builtin.«tuple.__mul__» ⟨[.ref l, .int 1 u], []⟩) (fun _ R s => s.heap.get? l = some { cls := .type "tuple", dict := dd, data := .seq items n, slots := sl } ∧ R (.ok (.ret (Value.ref l))) s) :=
  .of_wp fun prog w A R s h => by
    obtain ⟨hp, g, d, tk, os⟩ := s
    obtain ⟨hl, h⟩ := h
    have f1 := AutoSeq1.idx_int
    have c0 : (decide ((1 : Int) < -(2 ^ 63)) || decide ((1 : Int) ≥ 2 ^ 63)) = false := by decide
    have c1 : (items.isEmpty || (1 : Int) == 1) = true := by simp
    wp_walk using wpAny_loadPart' hl
    exact ⟨_, rfl, h⟩
theorem tuple_mul0 (l : Addr) (items : Array Value) (n : Nat) (dd : Option Addr) (sl : Array (Option Value)) (u : Tok) (he : items.isEmpty = false) :
    Meets (Builtin.«tuple.__mul__» ⟨[.ref l, .int 0 u], []⟩) (fun _ R s => s.heap.get? l = some { cls := .type "tuple", dict := dd, data := .seq items n, slots := sl } ∧
      R (.ok (.ret (Value.ref s.heap.objs.size))) { s with heap := s.heap.push { cls := Value.type "tuple", data := Data.seq #[] }, toks := s.toks }) :=
  .of_wp fun prog w A R s h => by
    obtain ⟨hp, g, d, tk, os⟩ := s
    obtain ⟨hl, h⟩ := h
    have f1 := AutoSeq1.idx_int
    have c0 : (decide ((0 : Int) < -(2 ^ 63)) || decide ((0 : Int) ≥ 2 ^ 63)) = false := by decide
    have c1 : (items.isEmpty || (0 : Int) == 1) = false := by rw [he]; decide
    have c2 : (decide ((0 : Int) ≤ 0) || items.isEmpty) = true := by simp
    wp_walk using wpAny_loadPart' hl
    repeat (first
      | (refine wpAny_ite_false (decide_eq_false (by rw [c0]; exact Bool.false_ne_true)) ?_; wp_walk using wpAny_loadPart' hl)
      | (refine wpAny_ite_false (decide_eq_false (by rw [c1]; exact Bool.false_ne_true)) ?_; wp_walk using wpAny_loadPart' hl)
      | (refine wpAny_ite_true (decide_eq_true c2) ?_; wp_walk using wpAny_loadPart' hl))
    exact ⟨_, rfl, h⟩
section
variable {X : Cx} {H : Hp} {Q : VK}
theorem bv_mulT {l : Addr} {xs : List V} {k : Nat} (hl : H l = some (.tup xs)) (hne : xs ≠ []) (hk : k ≤ 1000) (hz : xs.length ≤ 1000) (h : ∀ r H2, Same H H2 → H2 r = some (.tup (List.replicate k xs).flatten) → Q (.ref r) H2) : BinV X .Mult (.ref l) (.int k) H Q := by
  by_cases k2 : 2 ≤ k
  · exact ⟨_, op_repT, l, k, xs, rfl, rfl, SqT.of hl, hne, by omega, by omega, hz, fun p hp => h p _ (same_new hp) (by rw [upd_same]; rfl)⟩
  refine ⟨fun x y H' Q' => x = .ref l ∧ y = .int k ∧ H' = H ∧ Q' = Q, ?_, rfl, rfl, rfl, rfl⟩
  rintro pins s σ' H' x y u v Q' I rx ry ⟨rfl, rfl, rfl, rfl⟩
  cases rx
  obtain ⟨t, rfl⟩ := ry
  obtain ⟨its, r, ⟨⟨cls, dd, data, sl⟩, ho, hc, n, hd⟩, hs⟩ := I.tuple (SqT.of hl)
  simp only at hc hd
  subst hc hd
  have hn : its.toArray.isEmpty = false := by
    cases r with
    | nil => exact absurd rfl hne
    | cons _ _ => rfl
  have go : ∀ (Z : Value → Shared → Prop) (c : Int), Meets (Builtin.«tuple.__mul__» ⟨[.ref l, .int c t], []⟩) (fun _ R s2 => s2 = s ∧ ∀ v s3, Z v s3 → R (.ok (.ret v)) s3) → wpAny (model X.prog X.w) X.A (binaryOp .Mult (.ref l) (.int c t)) Z X.xe s := fun Z c m =>
    wpAny_binaryOp_repeat_ref (T := "tuple") (U := "int") (by decide) ⟨_, ho, rfl⟩ (fun s' => typeIs_int s' c t) noFill_tuple_mul F.fills_int_mul F.slot_int_rmul repeat_tuple F.slot_int_index.lookup
      (call_meets F.slot_int_rmul (typeIs_int s c t) F.entry_int_rmul (F.args_int_rmul_2 _ _) (int_rmul_tuple c t l its.toArray n dd sl) ⟨ho, rfl, ⟨_, ho, rfl⟩, call_meets F.slot_tuple_mul ⟨_, ho, rfl⟩ F.entry_tuple_mul (F.args_tuple_mul_2 _ _) m ⟨rfl, fun v s3 z => z⟩⟩)
  have k01 : k = 0 ∨ k = 1 := by omega
  rcases k01 with rfl | rfl
  · refine wpAny_binaryOp_repeat_ref (T := "tuple") (U := "int") (by decide) ⟨_, ho, rfl⟩ (fun s' => typeIs_int s' _ t) noFill_tuple_mul F.fills_int_mul F.slot_int_rmul repeat_tuple F.slot_int_index.lookup
      (call_meets F.slot_int_rmul (typeIs_int s _ t) F.entry_int_rmul (F.args_int_rmul_2 _ _) (int_rmul_tuple _ t l its.toArray n dd sl) ⟨ho, rfl, ⟨_, ho, rfl⟩, call_meets F.slot_tuple_mul ⟨_, ho, rfl⟩ F.entry_tuple_mul (F.args_tuple_mul_2 _ _) (tuple_mul0 l its.toArray n dd sl t hn) ⟨ho, ?_⟩⟩)
    have hp := I.hok.fresh (Nat.le_refl s.heap.objs.size)
    exact ⟨.ref s.heap.objs.size, upd H' s.heap.objs.size (.tup []), I.laid (t' := s.toks) (o := .tup []) (fun b ob q => Heap.get?_push_of_some _ q) (Nat.le_refl _) ⟨by decide, [], .nil, IsTup.new _ _⟩, rfl, h _ _ (same_new hp) upd_same⟩
  · refine wpAny_binaryOp_repeat_ref (T := "tuple") (U := "int") (by decide) ⟨_, ho, rfl⟩ (fun s' => typeIs_int s' _ t) noFill_tuple_mul F.fills_int_mul F.slot_int_rmul repeat_tuple F.slot_int_index.lookup
      (call_meets F.slot_int_rmul (typeIs_int s _ t) F.entry_int_rmul (F.args_int_rmul_2 _ _) (int_rmul_tuple _ t l its.toArray n dd sl) ⟨ho, rfl, ⟨_, ho, rfl⟩, call_meets F.slot_tuple_mul ⟨_, ho, rfl⟩ F.entry_tuple_mul (F.args_tuple_mul_2 _ _) (tuple_mul1 l its.toArray n dd sl t) ⟨ho, ?_⟩⟩)
    exact ⟨.ref l, H', I, rfl, h l H' (Same.refl _) (by simpa using hl)⟩
/-- list(range(n)) -/
theorem w_listRg {a : Expr} {p rp pos rpos : Pos} {σ : L2.St} (hc : X.calm = true) (hm : X.mg "list" = none) (hr : X.mg "range" = none) (h : W X a σ H fun x H1 => ∃ n : Nat, x = .int n ∧ n ≤ 1000 ∧ ∀ q H2, Same H1 H2 → H1 q = none → H2 q = some (.lst ((List.range n).map fun i => V.int (i : Nat))) → Q (.ref q) H2)
    (hg : Gl X "list" := by rfl) (hg2 : Gl X "range" := by rfl) (na : starEach [a] X.env = (false, eval a X.env) :: starEach [] X.env := by rfl) (na2 : starEach [.Call (.Name "range" rp) [a] [] rpos] X.env = (false, eval (.Call (.Name "range" rp) [a] [] rpos) X.env) :: starEach [] X.env := by rfl) :
    W X (.Call (.Name "list" p) [.Call (.Name "range" rp) [a] [] rpos] [] pos) σ H Q := by
  refine W.of (pe_listRg hc hg hm (prg_1 hg2 hr W.pe na) na2) (W.mono h fun x H1 ⟨n, e, hn, k⟩ => ⟨n, e, RgOk.of_le (by omega) (by omega) (by omega) (by omega), fun q hq => k q _ (same_new hq) hq ?_⟩)
  rw [upd_same]
  unfold rgV
  simp
end
end Ax
end
section
set_option maxHeartbeats 4000000
/-! own operators, in, bool, str, iteration; f-strings; data in tuples -/
namespace Ax
open PySem PySem.Spec PyProof.Rows L2
/-- a def's promise that may know where the heap ended at the call -/
structure FnN (P : Program) (w : World) (K : PySem.W.Frag) (mg : Str → Option Value) (base : Heap) (k : Nat) (f : Addr) (sp : Nat → Sp) : Prop where
  go : ∀ (A : Around) (outer : List Env) (s : Shared) (H : Hp) (us : List Value) (vs : List V) (Q : VK) (E : XK), Room k A → Env0 P w K mg base A outer s H → Vals vs us → sp s.heap.objs.size vs H Q E →
    codeAny (model P w) A (.call (.ref f) ⟨us, []⟩) (CR (L2.CX P w) outer P w H s Q E) s
section
variable {P : Program} {w : World} {K : PySem.W.Frag} {mg : Str → Option Value} {base : Heap}
theorem fnN_of {x q : Str} {st : Stmt} {N ps : List Str} {k : Nat} {sp : Nat → Sp} {f : Addr} (T : ∃ fd, FunD K x q (defArgs st) (defBody st) (defScope st) [] [] f fd) (S : FnScope N ps (defScope st))
    (hb : ∀ (kV doc pm : Value) (an : Option Addr) (cdv ct : Value) (us : List Value), us.length = ps.length → bindArgs (PySem.W.fnOf x q (defArgs st) (defBody st) (defScope st) .none kV doc pm an cdv ct) ⟨us, []⟩ = pure (ps.zip us))
    (len : ∀ n vs H Q E, sp n vs H Q E → vs.length = ps.length)
    (body : ∀ (cdv : Value) (A : Around) (outer : List Env) (s : Shared) (H : Hp) (vs : List V) (Q : VK) (E : XK), Room k (A.deeper (envOfC q (defScope st) s.heap.objs.size f cdv)) → sp s.heap.objs.size vs H Q E →
      WB (cxOf (L2.CX P w) P w K mg base N q (defScope st) f cdv A outer s H E) (defBody st) { nx := fun _ H' => Q .non H', rt := Q } (start N vs) H) : FnN P w K mg base (k + 1) f sp := by
  obtain ⟨fd, F⟩ := T
  refine ⟨fun A outer s H us vs Q E hr e0 r h => ?_⟩
  obtain ⟨oc, od, kV, doc, pm, an, cdv, ct, osl, lk, hcd⟩ := none_dfl F
  have hl := len _ _ _ _ _ h
  have hlu : us.length = ps.length := by rw [← r.length]; exact hl
  have KX : K.In s.heap := e0.mod.kin.keeps fun b o e => (e0.bs b o e).1
  refine codeAny_call_function hr.depth (KX _ _ lk) rfl S.co S.gen rfl (PySem.W.codeRec_of KX hcd) ?_
  rw [hb kV doc pm an cdv ct us hlu]
  refine wpAny_pure ?_
  have lim : s.heap.NoLimit := e0.mod.nolimit.keeps fun b o e => (e0.bs b o e).1
  have hkind : ∀ y ∈ ps.zip us, (defScope st).names.lookup y.1 = some .local ∨ ((defScope st).names.lookup y.1 = some .cell ∧ ((cellsFrom (s.heap.objs.size + 1) (defScope st).names []).lookup y.1).isSome = true) := fun y hy => by
    rcases S.par y.1 (List.of_mem_zip hy).1 with q | q
    · exact .inl q
    · exact .inr ⟨q, PySem.W.cellsFrom_some _ _ _ (.inl q)⟩
  refine wpAny_newFunctionEnv_cells (s := s) S.kind hkind fun env he s1 x => ?_
  subst he
  refine ⟨lim.keeps x.toInCall.keep, codeAny_func ?_⟩
  have hq := body cdv A outer s H vs Q E (hr.deeper _) h
  have I : Inv (cxOf (L2.CX P w) P w K mg base N q (defScope st) f cdv A outer s H E) [] (start N vs) H s1 := inv_start S hr.hd e0 hl r x
  refine wpAny_mono (hq.run [] s1 I) (fun fl s' hs => ?_) fun e s' hs => ?_
  · have fin : ∀ {σ' : L2.St} {H' : Hp} {v' : V} {u' : Value}, Inv (cxOf (L2.CX P w) P w K mg base N q (defScope st) f cdv A outer s H E) [] σ' H' s' → RelV v' u' → Q v' H' → CE outer P w H s Q u' s' :=
      fun {σ' H' v' u'} J rv' q => ⟨v', H', J.os, J.bare, J.base, J.hok, rv', q⟩
    cases fl with
    | ret u' =>
      obtain ⟨v', σ', H', J, rv', q⟩ := hs
      exact fin J rv' q
    | next =>
      obtain ⟨σ', H', J, q⟩ := hs
      exact fin (v' := V.non) (u' := Value.none) J rfl q
    | brk =>
      obtain ⟨_, _, _, q⟩ := hs
      exact False.elim q
    | cont =>
      obtain ⟨_, _, _, q⟩ := hs
      exact False.elim q
  · exact hs
end
/-- at it an iterator over the tuple at l, at its start -/
def ItTO (l it : Addr) : HO := .ext fun h => h.IsTupleIter it l 0
section
variable {X : Cx} {a b c d : Expr} {o fe : Expr} {es : List Expr} {σ : L2.St} {H : Hp} {Q : VK} {D : Ends} {C g p : Addr} {f m x : Str} {pos np apos : Pos} {sp : Sp} {k : Nat} {E : XK}
/-- iter(xs) of a tuple -/
theorem kv_iterT {l : Addr} {xs : List V} (hl : SqT X.K H l xs) (h : ∀ it, H it = none → X.s_0.heap.objs.size ≤ it → Q (.ref it) (upd H it (ItTO l it))) : CallV X (.builtin "iter") [.ref l] H Q := by
  refine ⟨fun vs H' Q' => vs = [.ref l] ∧ H' = H ∧ Q' = Q, ?_, rfl, rfl, rfl⟩
  rintro pins s σ H0 vs us0 Q0 I r ⟨rfl, rfl, rfl⟩
  rw [L2.Vals.ref1 r]
  obtain ⟨its, rv, pl, hz⟩ := I.tuple hl
  refine Calls.call_function_entry (by decide +kernel) (by decide +kernel) PySem.W.kdk_entry_iter (PySem.W.kdk_args_iter _) ?_
  unfold Builtin.«iter»
  refine wpAny_bind (m := someArgs "iter" 1 2 _) (wpAny_of_eq (a := [Value.ref l]) (by first | rfl | kernel_rfl!) ?_)
  show wpAny _ _ (pyIter (.ref l) >>= _) _ _ _
  refine wpAny_bind (wpAny_pyIter_tuple (show s.heap.IsTuple l its.toArray from pl) ?_)
  have e : (s.heap.push { cls := .type "tuple_iterator", data := .fields #[.ref l, .int 0 0] }).IsTupleIter s.heap.objs.size l 0 := ⟨_, Heap.get?_push_size _ rfl, rfl, rfl⟩
  exact wpAny_pure ⟨_, rfl, .ref s.heap.objs.size, _, I.laid (t' := s.toks) (fun b u e => Heap.get?_push_of_some _ e) (Nat.le_refl _) (show ObjOk X.prog X.w _ _ _ (ItTO l s.heap.objs.size) from ⟨e, (let ⟨o, ho, _⟩ := e; ⟨o, ho⟩), fun h1 h2 ⟨o, ho, r⟩ k => ⟨o, k o ho, r⟩⟩), rfl, h _ (I.hok.fresh (Nat.le_refl _)) I.sz⟩
/-- for .. in o, o.__iter__ gives a tuple's iterator -/
theorem itv_own {tg : Expr} {a dx : Addr} {fs : List (Str × V)} {R : It → Hp → Prop} {sp : Nat → Sp} (hm : Meth X.K C "__iter__" g) (F : FnN X.prog X.w X.K X.mg X.base k g sp) (hr : Room k X.A) (hx : Passes (L2.CX X.prog X.w) X E) (ha : H a = some (.ins C dx fs))
    (h : ∀ n, X.s_0.heap.objs.size ≤ n → sp n [.ref a] H (fun v H2 => ∃ it l, v = .ref it ∧ n ≤ it ∧ H2 it = some (ItTO l it) ∧ R (Itt X.K l) (ItX.dropH H2 it)) E) : IterV X tg (.ref a) H R := by
  constructor
  intro pins s σ v I r
  cases r
  obtain ⟨mA, J, _⟩ := ins_get I.hok ha
  obtain ⟨od, J, _⟩ := J.look
  obtain ⟨m, hF⟩ := I.fr
  refine PySem.W.owit_iter hF I.ok.mod.kin J hm.at_ hm.fn ?_
  refine wpAny_call (codeAny_mono (F.go X.A X.stack s H [.ref a] [.ref a] _ E hr I.env0 (.cons rfl .nil) (h s.heap.objs.size I.sz)) fun res s' hq => ?_)
  cases res with
  | error e => exact hx pins σ H s e s' I hq
  | ok fl =>
    cases fl with
    | ret u =>
      obtain ⟨v, H2, I2, rv, it, l, rfl, hn, hi, q⟩ := I.after hq
      cases (show u = Value.ref it from rv)
      have st : s'.heap.IsTupleIter it l 0 := (I2.hok it _ hi).1
      unfold PySem.W.OwitIt
      refine wpAny_specialOf (name := Str.ofString "__next__") st.typeIs PyProof.Rows.slot_tupleiter_next.lookup ?_
      refine ⟨it, [it], _, _, ItX.dropH H2 it, rfl, ItX.inv_drop I2 hi, turn_tuple l it, st, fun b hb => ?_, q⟩
      have e : b = it := by simpa using hb
      subst e
      exact ItX.inv_fp I2 hi (Nat.le_trans I.sz hn)
    | _ => exact False.elim hq
/-- a op b, by the method of their class -/
theorem bv_own {op : Operator} {a b dx dy : Addr} {fs gs : List (Str × V)} {nm : Str} (hnm : PySem.dunder op.info.2 = nm) (sf : PySem.W.selfFirst X.K C = true) (hm : Meth X.K C nm g) (F : FnP X.prog X.w X.K X.mg X.base k g sp) (hr : Room k X.A) (hx : Passes (L2.CX X.prog X.w) X E)
    (ha : H a = some (.ins C dx fs)) (hb : H b = some (.ins C dy gs)) (h : sp [.ref a, .ref b] H (fun v H2 => ∃ r, v = .ref r ∧ Q v H2) E) : BinV X op (.ref a) (.ref b) H Q := by
  subst hnm
  refine ⟨fun x y H' Q' => x = .ref a ∧ y = .ref b ∧ H' = H ∧ Q' = Q, ?_, rfl, rfl, rfl, rfl⟩
  rintro pins s σ' H' x y u v Q' I rx ry ⟨rfl, rfl, rfl, rfl⟩
  cases rx
  cases ry
  obtain ⟨mA, J, _⟩ := ins_get I.hok ha
  obtain ⟨mB, J', _⟩ := ins_get I.hok hb
  obtain ⟨od, J, _⟩ := J.look
  obtain ⟨od', J', _⟩ := J'.look
  obtain ⟨m, hF⟩ := I.fr
  refine PySem.W.binop_K hF I.ok.mod.kin J J'.type sf hm.at_ hm.fn (wpAny_mono (run_at (vs := [.ref a, .ref b]) F hr rfl hx I (.cons rfl (.cons rfl .nil)) h) (fun v s' z => ?_) fun _ _ e => e)
  obtain ⟨x, H2, I2, r, b, rfl, q⟩ := z
  cases (show v = Value.ref b from r)
  exact ⟨.ref b, H2, I2, rfl, q⟩
/-- v in o, by o's own __contains__ -/
theorem cv_inO {v : V} {a dx : Addr} {fs : List (Str × V)} (hm : Meth X.K C "__contains__" g) (F : FnP X.prog X.w X.K X.mg X.base k g sp) (hr : Room k X.A) (hx : Passes (L2.CX X.prog X.w) X E) (ha : H a = some (.ins C dx fs))
    (h : sp [.ref a, v] H (fun v H2 => ∃ t, v = .bl t ∧ Q (.bl t) H2) E) : CmpV X .In v (.ref a) H Q := by
  refine ⟨fun x y H' Q' => x = v ∧ y = .ref a ∧ H' = H ∧ Q' = Q, ?_, rfl, rfl, rfl, rfl⟩
  rintro pins s σ' H' x y u v Q' I rx ry ⟨rfl, rfl, rfl, rfl⟩
  cases (show v = Value.ref a from ry)
  obtain ⟨mA, J, _⟩ := ins_get I.hok ha
  obtain ⟨od, J, _⟩ := J.look
  obtain ⟨m, hF⟩ := I.fr
  refine PySem.W.in_K hF I.ok.mod.kin J hm.at_ hm.fn (wpAny_mono (run_at (vs := [.ref a, x]) F hr rfl hx I (.cons rfl (.cons rx .nil)) h) (fun v s' z => ?_) fun _ _ e => e)
  obtain ⟨x, H2, I2, r, b, rfl, q⟩ := z
  cases (show v = Value.bool b from r)
  exact wpAny_truthy_bool ⟨.bl b, H2, I2, rfl, q⟩
theorem looks_ty {M : Model} {s : Shared} {u : Value} {T : String} (h : s.TypeIs u T) : PySem.W.Looks M s.heap (typeOf u) (.type T) := fun A Q E s2 k q => by
  refine wpAny_typeOf (T := T) ?_ q
  cases u with
  | ref a =>
    obtain ⟨o, e, c⟩ := h
    exact ⟨o, k _ _ e, c⟩
  | _ => exact h
/-- a thing of a built-in type -/
def IsTy (X : Cx) (H : Hp) (v : V) (T : String) : Prop := ∀ pins σ s u, Inv X pins σ H s → RelV v u → s.TypeIs u T
theorem isTy_dp {v : V} {d : PyData} (h : Dp X.K H v d) : IsTy X H v (tyD d) := by
  intro pins σ s u I r
  cases h with
  | non => cases (show u = Value.none from r); rfl
  | bl b => cases (show u = Value.bool b from r); rfl
  | int i => obtain ⟨t, rfl⟩ := r; rfl
  | str z => obtain ⟨t, rfl⟩ := r; rfl
  | lst h1 h2 =>
    cases (show u = Value.ref _ from r)
    obtain ⟨its, rv, pl, hz⟩ := I.list h1
    obtain ⟨o, e, c, _⟩ := pl.isList
    exact ⟨o, e, c⟩
  | tup h1 h2 =>
    cases (show u = Value.ref _ from r)
    obtain ⟨its, rv, ⟨o, e, c, _⟩, hz⟩ := I.tuple h1
    exact ⟨o, e, c⟩
theorem isTy_tup {a : Addr} {xs : List V} (h : SqT X.K H a xs) : IsTy X H (.ref a) "tuple" := by
  intro pins σ s u I r
  cases (show u = Value.ref _ from r)
  obtain ⟨its, rv, ⟨o, e, c, _⟩, hz⟩ := I.tuple h
  exact ⟨o, e, c⟩
theorem isTy_dct {a : Addr} {kvs : List (Key × V)} (h : H a = some (.dK kvs)) : IsTy X H (.ref a) "dict" := by
  intro pins σ s u I r
  cases (show u = Value.ref _ from r)
  obtain ⟨_, _, vs, _, o, es, ep, h1, h2, _⟩ := (show ObjOk X.prog X.w H s.heap a (.dK kvs) from I.hok a _ h)
  exact ⟨o, h1, h2.1⟩
/-- o == v, v a thing of a built-in type -/
theorem cv_eqX {a dx : Addr} {fs : List (Str × V)} {v : V} {T : String} (hm : Meth X.K C "__eq__" g) (F : FnP X.prog X.w X.K X.mg X.base k g sp) (hr : Room k X.A) (hx : Passes (L2.CX X.prog X.w) X E) (ha : H a = some (.ins C dx fs)) (ht : IsTy X H v T) (hn : PySem.W.notFirst X.K C (.type T) = true)
    (h : sp [.ref a, v] H (fun v H2 => ∃ t, v = .bl t ∧ Q (.bl t) H2) E) : CmpV X .Eq (.ref a) v H Q := by
  refine ⟨fun x y H' Q' => x = .ref a ∧ y = v ∧ H' = H ∧ Q' = Q, ?_, rfl, rfl, rfl, rfl⟩
  rintro pins s σ' H' x y u v Q' I rx ry ⟨rfl, rfl, rfl, rfl⟩
  cases rx
  obtain ⟨mA, J, _⟩ := ins_get I.hok ha
  obtain ⟨od, J, _⟩ := J.look
  obtain ⟨m, hF⟩ := I.fr
  refine PySem.W.cmp_K (op := .Eq) (tb := .type T) hr.units0 hF I.ok.mod.kin J (looks_ty (ht _ _ _ _ I ry)) hn hm.at_ hm.fn (wpAny_mono (run_at (vs := [.ref a, y]) F hr rfl hx I (.cons rfl (.cons ry .nil)) h) (fun v s' z => ?_) fun _ _ e => e)
  obtain ⟨x, H2, I2, r, t, rfl, q⟩ := z
  cases (show v = Value.bool t from r)
  exact ⟨.bl t, H2, I2, rfl, q⟩
theorem truthy_own {prog : Program} {w : World} {A : Around} {Ex : Value → Shared → Prop} {s : Shared} {K : PySem.W.Frag} {x f : Addr} {ox : Obj} {od : Option Obj} {R : Bool → Shared → Prop} (X : K.In s.heap) (I : PySem.W.InstAt s.heap x ox C od)
    (hs : PySem.W.findIn K (.ref C) "__bool__" = some none) (hl : PySem.W.findIn K (.ref C) "__len__" = some (some (.ref f))) (hf : PySem.W.isFn K (.ref f) = true)
    (h : wpAny (model prog w) A.in1 (call (.ref f) [.ref x]) (fun v s' => ∃ (n : Nat) (t : Tok), v = .int n t ∧ n < 2 ^ 62 ∧ R (n != 0) { s' with toks := s'.toks + 1 }) Ex s) : wpAny (model prog w) A (truthy (.ref x)) R Ex s := by
  unfold truthy
  refine wpAny_bind (m := callSpecial? (.ref x) (Str.ofString "__bool__")) (wpAny_bind (wpAny_bind (I.type.here ((PySem.W.looks_findIn X hs).here (wpAny_pure ?_)))))
  refine wpAny_bind (wpAny_bind (I.type.here ((PySem.W.looks_findIn X hl).here ?_)))
  show wpAny _ _ (if (some (Value.ref f)).isNone = true then _ else _) _ _ _
  rw [if_neg (by simp)]
  refine wpAny_bind ?_
  have key : wpAny (model prog w) A (runValue (.builtin "len" ⟨[.ref x], []⟩)) (fun r s' => ∃ (n : Nat) (t : Tok), r = .int n t ∧ R (n != 0) s') Ex s := by
    refine wpAny_runValue (codeAny_builtin entry_len ?_)
    rw [Around.under_plainId plain_len _]
    unfold Builtin.«len»
    refine wpAny_bind (m := oneArg "len" _) (wpAny_pure ?_)
    refine wpAny_bind (m := callSpecial? (.ref x) (Str.ofString "__len__")) (PySem.W.special_fn X I hl (beq_iff_eq.mp hf) (wpAny_mono h (fun r s' hr => ?_) fun _ _ y => y))
    obtain ⟨n, u, rfl, hn, hq⟩ := hr
    refine wpAny_bind (wpAny_holding (wpAny_pure ?_))
    refine wpAny_bind (wpAny_letGo ?_)
    show wpAny _ _ (if (n : Int) < 0 then _ else _) _ _ _
    rw [if_neg (by omega)]
    show wpAny _ _ (if (n : Int) ≥ 2 ^ 63 then _ else _) _ _ _
    rw [if_neg (by omega)]
    exact wpAny_bind (wpAny_mkInt (wpAny_pure ⟨n, _, rfl, hq⟩))
  refine wpAny_mono key (fun r s' hr => ?_) fun _ _ e => e
  obtain ⟨n, t, rfl, hq⟩ := hr
  refine wpAny_pure ?_
  have e : ((n : Int) != 0) = (n != 0) := by
    rw [Bool.eq_iff_iff]
    simp
  rw [e]
  exact hq
/-- bool(o) by an own __len__ -/
theorem kv_boolO {a dx : Addr} {fs : List (Str × V)} (nb : PySem.W.findIn X.K (.ref C) "__bool__" = some none) (hm : Meth X.K C "__len__" g) (F : FnP X.prog X.w X.K X.mg X.base k g sp) (hr : Room (k + 4) X.A) (hx : Passes (L2.CX X.prog X.w) X E) (ha : H a = some (.ins C dx fs))
    (h : sp [.ref a] H (fun v H2 => ∃ n : Nat, v = .int n ∧ n < 2 ^ 62 ∧ Q (.bl (n != 0)) H2) E) : CallV X (.type "bool") [.ref a] H Q := by
  refine ⟨fun xs H' Q' => xs = [.ref a] ∧ H' = H ∧ Q' = Q, ?_, rfl, rfl, rfl⟩
  rintro pins s σ' H' xs us Q' I r ⟨rfl, rfl, rfl⟩
  rw [L2.Vals.ref1 r]
  have r3 : Room k X.A.in1.in1.in1 := (Room.in1 (Room.in1 (Room.in1 (hr.mono (Nat.le_succ _)))))
  obtain ⟨mA, J, _⟩ := ins_get I.hok ha
  obtain ⟨od, J, _⟩ := J.look
  refine callType_codes (T := "bool") (Bi := Builtin.«object.__init__») (Q₁ := fun r s₁ => ∃ b, r = .bool b ∧ EP X pins σ' Q' r s₁) PySem.F.called_bool (PySem.F.typeCall_bool_1 _) PySem.F.entry_object_init ?_ ?_
  · refine codeAny_of_tree ?_
    show wpAny _ X.A.in1.in1 (do checkBuiltinCall "bool.__new__" ⟨[.type "bool", .ref a], []⟩; again (.builtin "bool.__new__" ⟨[.type "bool", .ref a], []⟩)) _ _ s
    refine wpAny_bind (wpAny_of_eq (PySem.F.newCall_bool_1 _) (wpAny_pure ⟨plainId_quiet (by decide +kernel) _, codeAny_builtin PySem.F.entry_bool_new ?_⟩))
    rw [Around.under_plainId (by decide +kernel) _]
    have tr : ∀ {Z : Bool → Shared → Prop}, (∀ b s', EP X pins σ' Q' (.bool b) s' → Z b s') → wpAny (model X.prog X.w) X.A.in1.in1 (truthy (.ref a)) Z X.xe s := fun {Z} k =>
      truthy_own (A := X.A.in1.in1) I.kIn J nb hm.at_ hm.fn (wpAny_mono (run_at (vs := [.ref a]) F r3 rfl hx I (.cons rfl .nil) h) (fun v s' z => by
        obtain ⟨x, H2, I2, r, n, rfl, hn, q⟩ := z
        obtain ⟨t, rfl⟩ := r
        exact ⟨n, t, rfl, hn, k _ _ ⟨.bl (n != 0), H2, I2.tok _, rfl, q⟩⟩) fun _ _ e => e)
    have f1 := PySem.F.conv_sub_bool
    unfold Builtin.«bool.__new__»
    repeat (any_goals (first | assumption | (refine wpAny_bind (m := truthy (.ref a)) (tr fun b s' z => ?_)) | wp_step))
    all_goals first | exact ⟨_, rfl, z⟩ | skip
  · rintro obj s₁ ⟨b, rfl, hq⟩
    exact ⟨rfl, PySem.F.args_object_init_2 _ _, object_init_meets PySem.F.called_bool.init.lookup PySem.F.called_bool.made (by decide) X.prog X.w X.A.in1 _ s₁ ⟨rfl, rfl, hq⟩⟩
/-- str(o) by an own __str__ -/
theorem kv_strO {a dx : Addr} {fs : List (Str × V)} (hm : Meth X.K C "__str__" g) (F : FnP X.prog X.w X.K X.mg X.base k g sp) (hr : Room (k + 2) X.A) (hx : Passes (L2.CX X.prog X.w) X E) (ha : H a = some (.ins C dx fs))
    (h : sp [.ref a] H (fun v H2 => ∃ z, v = .str z ∧ Q (.str z) H2) E) : CallV X (.type "str") [.ref a] H Q := by
  refine ⟨fun xs H' Q' => xs = [.ref a] ∧ H' = H ∧ Q' = Q, ?_, rfl, rfl, rfl⟩
  rintro pins s σ' H' xs us Q' I r ⟨rfl, rfl, rfl⟩
  rw [L2.Vals.ref1 r]
  obtain ⟨mA, J, _⟩ := ins_get I.hok ha
  obtain ⟨od, J, _⟩ := J.look
  refine PySem.W.kso_call (hr.in1.in1).units0 I.kIn J hm.at_ hm.fn (wpAny_mono (run_at (vs := [.ref a]) F hr.in1.in1 rfl hx I (.cons rfl .nil) h) (fun v s' z => ?_) fun _ _ e => e)
  obtain ⟨x, H2, I2, r, z, rfl, q⟩ := z
  obtain ⟨t, rfl⟩ := r
  exact ⟨.str z, H2, I2, ⟨_, rfl⟩, q⟩
/-- data among a list's or a tuple's -/
theorem cv_inDL {x y : V} {d : PyData} {ds : List PyData} (hu : X.A.units + 65 < cLine) (h1 : Dp X.K H x d) (h2 : Dp X.K H y (.list ds)) (s1 : SeqAt.shaped d = true) (s2 : SeqAt.shaped (.list ds) = true) (h : Q (.bl (ds.any fun z => PyData.eqv z d)) H) : CmpV X .In x y H Q :=
  ⟨_, op_inD hu, d, ds, h1, h2, s1, s2, h⟩
theorem cv_notInDL {x y : V} {d : PyData} {ds : List PyData} (hu : X.A.units + 65 < cLine) (h1 : Dp X.K H x d) (h2 : Dp X.K H y (.list ds)) (s1 : SeqAt.shaped d = true) (s2 : SeqAt.shaped (.list ds) = true) (h : Q (.bl (!ds.any fun z => PyData.eqv z d)) H) : CmpV X .NotIn x y H Q :=
  ⟨_, op_notInD hu, d, ds, h1, h2, s1, s2, h⟩
theorem cv_inDT {x y : V} {d : PyData} {ds : List PyData} (hu : X.A.units + 65 < cLine) (h1 : Dp X.K H x d) (h2 : Dp X.K H y (.tuple ds)) (s1 : SeqAt.shaped d = true) (s2 : SeqAt.shaped (.tuple ds) = true) (h : Q (.bl (ds.any fun z => PyData.eqv z d)) H) : CmpV X .In x y H Q := by
  refine ⟨fun x' y' H' Q' => x' = x ∧ y' = y ∧ H' = H ∧ Q' = Q, ?_, rfl, rfl, rfl, rfl⟩
  rintro pins s σ' H' x y u v Q' I rx ry ⟨rfl, rfl, rfl, rfl⟩
  obtain ⟨as, r1⟩ := Dp.reads I d x u h1 rx
  obtain ⟨bs, r2⟩ := Dp.reads I (.tuple ds) y v h2 ry
  exact SeqAt.in_tuple_reads r2 r1 (SeqAt.canLay_of_shaped s2) (SeqAt.canLay_of_shaped s1) (room_in_shaped s1 hu) ⟨.bl _, H', I, rfl, h⟩
/-- {e} of an int or a text in an f-string -/
theorem w_fmt {e : Expr} (h : W X e σ H fun x H1 => (∃ y : Str, x = .str y ∧ y.length ≤ sizeLine ∧ Q (.str y) H1) ∨ ∃ i : Int, x = .int i ∧ i.natAbs.log2 < 1920 ∧ Q (.str (toString i)) H1) : W X (.FormattedValue e (-1) none pos) σ H Q := W.of (pe_fmt W.pe) h
theorem w_fs4 {e1 e2 e3 e4 : Expr} (h : W X e1 σ H fun x H1 => ∃ y : Str, x = .str y ∧ (Str.empty ++ y).length ≤ sizeLine ∧ W X e2 σ H1 fun x H1 => ∃ y2 : Str, x = .str y2 ∧ (Str.empty ++ y ++ y2).length ≤ sizeLine ∧
    W X e3 σ H1 fun x H1 => ∃ y3 : Str, x = .str y3 ∧ (Str.empty ++ y ++ y2 ++ y3).length ≤ sizeLine ∧ W X e4 σ H1 fun x H1 => ∃ y4 : Str, x = .str y4 ∧ (Str.empty ++ y ++ y2 ++ y3 ++ y4).length ≤ sizeLine ∧ Q (.str (Str.empty ++ y ++ y2 ++ y3 ++ y4)) H1) : W X (.JoinedStr [e1, e2, e3, e4] pos) σ H Q :=
  W.of (pe_joined (.cons W.pe (.cons W.pe (.cons W.pe (.cons W.pe .nil))))) h
theorem w_fs5 {e1 e2 e3 e4 e5 : Expr} (h : W X e1 σ H fun x H1 => ∃ y : Str, x = .str y ∧ (Str.empty ++ y).length ≤ sizeLine ∧ W X e2 σ H1 fun x H1 => ∃ y2 : Str, x = .str y2 ∧ (Str.empty ++ y ++ y2).length ≤ sizeLine ∧
    W X e3 σ H1 fun x H1 => ∃ y3 : Str, x = .str y3 ∧ (Str.empty ++ y ++ y2 ++ y3).length ≤ sizeLine ∧ W X e4 σ H1 fun x H1 => ∃ y4 : Str, x = .str y4 ∧ (Str.empty ++ y ++ y2 ++ y3 ++ y4).length ≤ sizeLine ∧
    W X e5 σ H1 fun x H1 => ∃ y5 : Str, x = .str y5 ∧ (Str.empty ++ y ++ y2 ++ y3 ++ y4 ++ y5).length ≤ sizeLine ∧ Q (.str (Str.empty ++ y ++ y2 ++ y3 ++ y4 ++ y5)) H1) : W X (.JoinedStr [e1, e2, e3, e4, e5] pos) σ H Q :=
  W.of (pe_joined (.cons W.pe (.cons W.pe (.cons W.pe (.cons W.pe (.cons W.pe .nil)))))) h
end
end Ax
end
section
set_option maxHeartbeats 4000000
/-! tuples and texts are no dicts -/
namespace Ax
open PySem PySem.SeqAt PyProof PyProof.Rows
theorem tuple_eq_declines_dict (l b : Addr) (items : Array Value) (n : Nat) (dd dd2 : Option Addr) (dt : Data) (sl sl2 : Array (Option Value)) :
    Meets (Builtin.«tuple.__eq__» ⟨[.ref l, .ref b], []⟩) (fun _ R s => s.heap.get? l = some { cls := .type "tuple", dict := dd, data := .seq items n, slots := sl } ∧ s.heap.get? b = some { cls := .type "dict", dict := dd2, data := dt, slots := sl2 } ∧ R (.ok (.ret .notImplemented)) s) :=
  .of_wp fun prog w A R s h => by obtain ⟨hp, g, d, tk, os⟩ := s; obtain ⟨hl, hb, h⟩ := h; have f1 := PySem.F.sub_dict_tuple; wp_walk using wpAny_loadPart' hl, wpAny_loadPart' hb; exact ⟨_, rfl, h⟩
theorem dict_eq_declines_tuple (l b : Addr) (items : Array Value) (n : Nat) (dd dd2 : Option Addr) (dt : Data) (sl sl2 : Array (Option Value)) :
    Meets (Builtin.«dict.__eq__» ⟨[.ref b, .ref l], []⟩) (fun _ R s => s.heap.get? l = some { cls := .type "tuple", dict := dd, data := .seq items n, slots := sl } ∧ s.heap.get? b = some { cls := .type "dict", dict := dd2, data := dt, slots := sl2 } ∧ R (.ok (.ret .notImplemented)) s) :=
  .of_wp fun prog w A R s h => by obtain ⟨hp, g, d, tk, os⟩ := s; obtain ⟨hl, hb, h⟩ := h; have f1 := PySem.F.sub_tuple_dict; wp_walk using wpAny_loadPart' hl, wpAny_loadPart' hb; exact ⟨_, rfl, h⟩
theorem str_eq_declines_dict (x : Str) (u : Tok) (b : Addr) (dd2 : Option Addr) (es : Array DictEntry) (ep : Nat) (sl2 : Array (Option Value)) :
    Meets (Builtin.«str.__eq__» ⟨[.str x u, .ref b], []⟩) (fun _ R s => s.heap.get? b = some { cls := .type "dict", dict := dd2, data := .dict es ep, slots := sl2 } ∧ R (.ok (.ret .notImplemented)) s) :=
  .of_wp fun prog w A R s h => by obtain ⟨hp, g, d, tk, os⟩ := s; obtain ⟨hb, h⟩ := h; have f1 := PySem.F.sub_dict_str; wp_walk using wpAny_loadPart' hb, wpAny_load hb; exact ⟨_, rfl, h⟩
theorem dict_eq_declines_str (x : Str) (u : Tok) (b : Addr) (dd2 : Option Addr) (dt : Data) (sl2 : Array (Option Value)) :
    Meets (Builtin.«dict.__eq__» ⟨[.ref b, .str x u], []⟩) (fun _ R s => s.heap.get? b = some { cls := .type "dict", dict := dd2, data := dt, slots := sl2 } ∧ R (.ok (.ret .notImplemented)) s) :=
  .of_wp fun prog w A R s h => by obtain ⟨hp, g, d, tk, os⟩ := s; obtain ⟨hb, h⟩ := h; have f1 := PySem.F.sub_str_dict; wp_walk using wpAny_loadPart' hb, wpAny_load hb; exact ⟨_, rfl, h⟩
section
variable {A : Around} {s : Shared}
theorem eqAt_tuple_dict {l b : Addr} {items : Array Value} {o : Obj} (hl : s.heap.IsTuple l items) (hb : s.heap.get? b = some o) (hc : o.cls = .type "dict") (hu : A.units < cLine) : EqAt A s (.ref l) (.ref b) false := by
  have hne : l ≠ b := fun e => by
    subst e
    obtain ⟨o2, ho2, hc2, _⟩ := hl
    rw [hb] at ho2
    cases ho2
    rw [hc] at hc2
    exact absurd hc2 (by simp)
  refine .of_refs hne fun prog w E Q h => ?_
  obtain ⟨⟨cls, dd, data, sl⟩, ho, hc1, n, hd⟩ := id hl
  obtain ⟨cls2, dd2, data2, sl2⟩ := o
  simp only at hc1 hd hc
  subst hc1 hd hc
  exact (rc_eq_decline_or (k := false) ⟨_, ho, rfl⟩ ⟨_, hb, rfl⟩ (by decide) PySem.F.sub_dict_tuple PySem.F.slot_tuple_eq PySem.F.slot_dict_eq_refl
    (fun _ hq => call_meets PySem.F.slot_tuple_eq ⟨_, ho, rfl⟩ PySem.F.entry_tuple_eq (PySem.F.args_tuple_eq_2 _ _) (tuple_eq_declines_dict l b items n dd dd2 data2 sl sl2) ⟨ho, hb, hq⟩)
    (fun _ hq => call_meets PySem.F.slot_dict_eq_refl ⟨_, hb, rfl⟩ PySem.F.entry_dict_eq (PySem.F.args_dict_eq_2 _ _) (dict_eq_declines_tuple l b items n dd dd2 data2 sl sl2) ⟨ho, hb, hq⟩)
    (fun _ hq => wpAny_isSame_ref_other' hne ho hb (by simp) hq) (.inr hu) h)
theorem eqAt_str_dict {x : Str} {u : Tok} {b : Addr} {o : Obj} (hb : s.heap.get? b = some o) (hc : o.cls = .type "dict") {es : Array DictEntry} {ep : Nat} (hd : o.data = .dict es ep) (hu : A.units < cLine) : EqAt A s (.str x u) (.ref b) false := fun prog w E Q h => by
  unfold eqBool
  refine wpAny_holding ?_
  refine wpAny_ite_split (fun hab => absurd (eq_of_beq hab) nofun) (fun _ => ?_)
  obtain ⟨cls2, dd2, data2, sl2⟩ := o
  simp only at hc hd
  subst hc hd
  refine wpAny_bind ?_
  exact rc_eq_decline_or (k := false) (typeIs_str s x u) ⟨_, hb, rfl⟩ (by decide) PySem.F.sub_dict_str PySem.F.slot_str_eq PySem.F.slot_dict_eq_refl
    (fun _ hq => call_meets PySem.F.slot_str_eq (typeIs_str s x u) PySem.F.entry_str_eq (PySem.F.args_str_eq_2 _ _) (str_eq_declines_dict x u b dd2 es ep sl2) ⟨hb, hq⟩)
    (fun _ hq => call_meets PySem.F.slot_dict_eq_refl ⟨_, hb, rfl⟩ PySem.F.entry_dict_eq (PySem.F.args_dict_eq_2 _ _) (dict_eq_declines_str x u b dd2 _ sl2) ⟨hb, hq⟩)
    (fun _ hq => wpAny_of_eq (rfl : isSame (.str x u) (.ref b) = pure false) hq) (.inr hu) (wpAny_truthy_bool h)
end
end Ax
end
section
set_option maxHeartbeats 4000000
/-! == of sets whose members are tuples -/
namespace Ax
open PySem PySem.Spec PyProof.Rows L2
abbrev keysT (L : List (Addr × List Key)) : List (List Key) := L.map fun p => p.2
section
variable {P : Program} {w : World} {A : Around} {E : Value → Shared → Prop} {s : Shared} {a : Addr} {L : List (Addr × List Key)} {es : Array (Int × Value)} {ep : Nat} {t : SetTable}
/-- the search of a thing that is not to be put in -/
theorem findF_from (R : SetTK P w s.heap a L es ep t) {x : Addr} {k : List Key} (hx : TK P w s.heap k x) (hu : A.units < cLine) {K : Nat} (hf : K < 10 * SetTable.turns t.mask) (hK : way t.mask (hT P w k) K ∉ t.place.toList) (hb : ∀ c, c < K → way t.mask (hT P w k) c ∈ t.place.toList)
    {Q : SetFound → Shared → Prop} (yes : ∀ i, k ∈ L.map (·.2) → Q (.there (some i)) s) (no : k ∉ L.map (·.2) → Q (.free (way t.mask (hT P w k) K) false) s) :
    ∀ (f c : Nat) (st : Option SetTable.Probe), st.getD (t.probeStart (hT P w k)) = nth t.mask (way0 t (hT P w k)) c → c ≤ K → K < f + c → (∀ (i : Nat) p, L[i]? = some p → p.2 = k → ∃ c', c ≤ c' ∧ c' < K ∧ t.place.toList[i]? = some (way t.mask (hT P w k) c')) →
      wpAny (model P w) A (setSearchFrom a (.ref x) (hT P w k) false f st) Q E s := by
  obtain ⟨o, ho, hex, hd⟩ := R.ob
  intro f
  induction f with
  | zero => intro c st _ h1 h2; omega
  | succ f ih =>
    intro c st hst hc hf2 ahead
    have sh : ∀ q, nth t.mask (nth t.mask (way0 t (hT P w k)) c) q = nth t.mask (way0 t (hT P w k)) (c + q) := fun q => (nth_add t.mask c _ q).symm
    have shj : ∀ q, (nth t.mask (nth t.mask (way0 t (hT P w k)) c) q).j = way t.mask (hT P w k) (c + q) := fun q => congrArg SetTable.Probe.j (sh q)
    have cK : c + (K - c) = K := by omega
    have at_ : ∀ (i : Nat) p, L[i]? = some p → (es[i]?.map (·.1)).getD 0 = hT P w p.2 := fun i p e => by
      rw [R.at e]
      rfl
    rw [setSearchFrom_succ]
    refine wpAny_bind (wpAny_setState_of ho hd R.fits ?_); dsimp only; refine wp_if_neg R.whole ?_
    try refine wpAny_bind (wpAny_pure ?_)
    rcases go_spec t R.tab.ris R.tab.dm (fun i => (es[i]?.map (·.1)).getD 0) (hT P w k) (10 * SetTable.turns t.mask) (K - c) (nth t.mask (way0 t (hT P w k)) c) (nodummy _ _ _ rfl) (by omega)
      (fun q hq => by rw [shj]; exact hb _ (by omega)) (by rw [shj, cK]; exact hK) with ⟨q, i, hq, hi, hh, before, hp⟩ | ⟨before, hp⟩
    · have hp2 : t.probe (fun i => (es[i]?.map (·.1)).getD 0) (hT P w k) (st.getD (t.probeStart (hT P w k))) = some (.candidate (way t.mask (hT P w k) (c + q)) i (nth t.mask (way0 t (hT P w k)) (c + (q + 1)))) := by
        rw [hst, ← shj, ← sh]
        exact hp
      rw [hp2]
      dsimp only
      rw [shj] at hi
      obtain ⟨p, ep1, pm⟩ := R.slots hi
      have rest : wpAny (model P w) A (searchRest a (.ref x) (hT P w k) false f es t (way t.mask (hT P w k) (c + q)) i (nth t.mask (way0 t (hT P w k)) (c + (q + 1)))) Q E s := by
        unfold searchRest
        rw [R.at ep1]
        dsimp only
        refine wpAny_bind (wpAny_holding (wpAny_eqBool_tuple hu (R.tups p pm) hx (wpAny_bind (wpAny_setState_of ho hd R.fits ?_))))
        dsimp only
        have sl : t.slot (way t.mask (hT P w k) (c + q)) = .live i := slot_live R.tab.ris hi
        refine wp_if_neg (by simp) ?_
        try refine wpAny_bind (wpAny_pure ?_)
        rw [sameMem]
        simp only [if_true, sl, R.at ep1]
        refine wpAny_bind (wpAny_isSame_ref_self (wpAny_bind (wpAny_pure ?_)))
        simp only [if_true]
        by_cases same : p.2 = k
        · exact wp_if_pos (by simp [same]) (wpAny_pure (yes i (List.mem_map.mpr ⟨p, pm, same⟩)))
        · refine wp_if_neg (by simp [same]) (ih (c + (q + 1)) _ rfl (by omega) (by omega) fun i2 p2 e2 k2 => ?_)
          obtain ⟨c', g1, g2, g3⟩ := ahead i2 p2 e2 k2
          refine ⟨c', ?_, g2, g3⟩
          have n1 : ¬ c' < c + q := fun z => before (c' - c) i2 (by omega) (by rw [shj, show c + (c' - c) = c' by omega]; exact g3) ((at_ i2 p2 e2).trans (congrArg (hT P w) k2))
          have n2 : c' ≠ c + q := fun z => by
            rw [z] at g3
            have s2 := slot_live R.tab.ris g3
            rw [sl] at s2
            cases s2
            rw [ep1] at e2
            cases e2
            exact same k2
          omega
      cases hl : t.led with
      | true =>
        refine wp_if_neg (by simp) ?_
        first
          | exact rest
          | exact wpAny_bind (wpAny_pure rest)
      | false =>
        refine wp_if_pos (by simp) (wpAny_bind (tup_unseen hx (fun y hy => ?_) ?_))
        · obtain ⟨e, he, rfl⟩ := List.mem_map.mp hy
          have m1 : e ∈ es.toList := by simpa using (show e ∈ es ∧ e.1 = hT P w k by simpa using he).1
          rw [R.ents] at m1
          obtain ⟨p2, h2, rfl⟩ := List.mem_map.mp m1
          exact ⟨p2.2, p2.1, rfl, R.tups p2 h2⟩
        · refine wp_if_neg (by decide) ?_
          first
            | exact rest
            | exact wpAny_bind (wpAny_pure rest)
    · have hp2 : t.probe (fun i => (es[i]?.map (·.1)).getD 0) (hT P w k) (st.getD (t.probeStart (hT P w k))) = some (.empty (way t.mask (hT P w k) K) none) := by
        have e2 : way t.mask (hT P w k) K = (nth t.mask (nth t.mask (way0 t (hT P w k)) c) (K - c)).j := by rw [shj, cK]
        rw [hst, e2]
        exact hp
      rw [hp2]
      refine wpAny_pure (no fun hm => ?_)
      obtain ⟨p2, h2, k2⟩ := List.mem_map.mp hm
      obtain ⟨i2, e2⟩ := List.mem_iff_getElem?.mp h2
      obtain ⟨c', g1, g2, g3⟩ := ahead i2 p2 e2 k2
      exact before (c' - c) i2 (by omega) (by rw [shj, show c + (c' - c) = c' by omega]; exact g3) ((at_ i2 p2 e2).trans (congrArg (hT P w) k2))
theorem setFindT (R : SetTK P w s.heap a L es ep t) {x : Addr} {k : List Key} (hx : TK P w s.heap k x) (hu : A.units < cLine) {Q : Option Nat → Shared → Prop} (h : ∀ r : Option Nat, (r.isSome = true ↔ k ∈ keysT L) → Q r s) : wpAny (model P w) A (setFind a (.ref x) (hT P w k)) Q E s := by
  obtain ⟨o, ho, hex, hd⟩ := R.ob
  have r := R.room
  obtain ⟨K, h1, h2, h3⟩ := R.tab.first (by rw [List.length_map]; omega) (hT P w k)
  have small : 10 * SetTable.turns t.mask ≤ 90000 := by
    unfold SetTable.turns
    rcases R.tab.mok with e | e | e <;> omega
  unfold setFind setFindIn
  refine wpAny_bind (wpAny_setState_of ho hd R.fits ?_)
  dsimp only
  have nb : byScan (.ref x) es = false := by
    unfold byScan
    rfl
  rw [nb]
  simp only [Bool.false_eq_true, if_false]
  try refine wpAny_bind (wpAny_pure ?_)
  refine wpAny_bind ?_
  unfold setSearch
  refine findF_from R hx hu h1 h2 h3 (fun i hm => wpAny_pure (h _ (by simp [hm]))) (fun hm => wpAny_pure (h _ (by simp [hm]))) 100000 0 none rfl (Nat.zero_le _) (by omega) fun i p e ek => ?_
  have z := R.tab.sz
  have il := (List.getElem?_eq_some_iff.mp e).1
  rw [List.length_map] at z
  have ip : i < t.place.toList.length := by rw [Array.length_toList]; omega
  have ej := List.getElem?_eq_getElem ip
  obtain ⟨c, hc, e3⟩ := R.tab.before h2 (by rw [List.getElem?_map, e, ← ek]; rfl) ej
  exact ⟨c, Nat.zero_le _, hc, by rw [ej, e3]⟩
/-- a set's members in its order -/
theorem walkT (R : SetTK P w s.heap a L es ep t) {Q : Array (Int × Value) → Shared → Prop} (h : ∀ ys d, ys.toList.Perm es.toList → Q ys { s with drawn := d }) : wpAny (model P w) A (setWalk a) Q E s := by
  obtain ⟨o, ho, hex, hd⟩ := R.ob
  have led := R.led
  unfold setWalk
  refine wpAny_bind (wpAny_setState_of ho hd R.fits ?_)
  dsimp only
  refine wpAny_bind (wpAny_byText ?_)
  cases hbt : w.params.followText "set-order" with
  | true =>
    refine wp_if_pos rfl ?_
    exact wpAny_bind (wpAny_askSetting (wpAny_pure (h _ s.drawn (pick_perm _ _))))
  | false =>
    refine wp_if_neg (by simp) ?_
    try refine wpAny_bind (wpAny_pure ?_)
    cases hdr : (!t.plain && es.size > 1) with
    | true =>
      refine wp_if_pos hdr ?_
      exact wpAny_bind (drawOrder_at _ _ _ _ (Nat.le_of_eq Array.length_toList) fun ys d hp => wpAny_pure (h _ d (by simpa using hp)))
    | false =>
      refine wp_if_neg (fun z => absurd (hdr.symm.trans z) (by decide)) ?_
      try refine wpAny_bind (wpAny_pure ?_)
      have ld : t.led = true := by
        rcases led with z | z
        · rw [hbt] at z
          cases z
        · exact z
      refine wpAny_bind (wp_if_neg (show ¬ (!t.led && decide (es.size > 1)) = true by rw [ld]; simp) (wpAny_pure ?_))
      exact wpAny_pure (h es s.drawn (List.Perm.refl _))
end
/-- the members of one are those of the other one -/
def subK (L1 L2 : List (Addr × List Key)) : Prop := ∀ p ∈ L1, p.2 ∈ keysT L2
section
variable {P : Program} {w : World} {A : Around} {E : Value → Shared → Prop} {s : Shared} {a b : Addr} {L1 L2 : List (Addr × List Key)} {es1 es2 : Array (Int × Value)} {ep1 ep2 : Nat} {t1 t2 : SetTable}
theorem tup_loud {k : List Key} {x : Addr} (hx : TK P w s.heap k x) {Q : Bool → Shared → Prop} (h : Q false s) : wpAny (model P w) A (Builtin.Frozenset.quietEq (.ref x)) Q E s := by
  unfold Builtin.Frozenset.quietEq
  exact wpAny_bind (wpAny_specialOf (name := Str.ofString "__eq__") hx.typeIs PySem.F.slot_tuple_eq.lookup (wpAny_pure h))
theorem items_inj : ∀ {k1 k2 : List Key} {vs : List Value}, ItemsAre (mixKind P w) k1 vs → ItemsAre (mixKind P w) k2 vs → k1 = k2
  | _, _, _, .nil, .nil => rfl
  | _, _, _, .cons q1 h1, .cons q2 h2 => by
    rw [items_inj h1 h2]
    rcases keyIs_shape q1 with ⟨i, t, e1, e2⟩ | ⟨i, t, e1, e2⟩ <;> rcases keyIs_shape q2 with ⟨j, u, e3, e4⟩ | ⟨j, u, e3, e4⟩ <;> (rw [e4] at e2; cases e2) <;> rw [e1, e3]
theorem tk_inj {h : Heap} {k1 k2 : List Key} {x : Addr} (h1 : TK P w h k1 x) (h2 : TK P w h k2 x) : k1 = k2 := by
  obtain ⟨o, its, n, e1, _, e2, q1⟩ := h1
  obtain ⟨o', its', n', e3, _, e4, q2⟩ := h2
  rw [e1] at e3
  cases e3
  rw [e2] at e4
  cases e4
  exact items_inj q1 q2
theorem ents_mem {L : List (Addr × List Key)} {es : Array (Int × Value)} {ep : Nat} {t : SetTable} (R : SetTK P w s.heap a L es ep t) {e : Int × Value} (h : e ∈ es.toList) : ∃ p ∈ L, e = (hT P w p.2, Value.ref p.1) ∧ TK P w s.heap p.2 p.1 := by
  rw [R.ents] at h
  obtain ⟨p, hp, rfl⟩ := List.mem_map.mp h
  exact ⟨p, hp, rfl, R.tups p hp⟩
theorem walkUnseenT (R1 : SetTK P w s.heap a L1 es1 ep1 t1) (R2 : SetTK P w s.heap b L2 es2 ep2 t2) {Q : List (Int × Value) → Shared → Prop} (h : ∀ ys d, ys.Perm es1.toList → Q ys { s with drawn := d }) : wpAny (model P w) A (Builtin.Frozenset.walkUnseen a b) Q E s := by
  obtain ⟨o1, ho1, hex1, hd1⟩ := R1.ob
  obtain ⟨o2, ho2, hex2, hd2⟩ := R2.ob
  unfold Builtin.Frozenset.walkUnseen setEntries
  refine wpAny_bind (wpAny_bind (wpAny_setState_of ho1 hd1 R1.fits (wpAny_pure ?_)))
  refine wpAny_bind (wpAny_bind (wpAny_setState_of ho2 hd2 R2.fits (wpAny_pure ?_)))
  dsimp only
  have all : ∀ e ∈ es1.toList ++ es2.toList, ∃ k x, e.2 = Value.ref x ∧ TK P w s.heap k x := fun e he => by
    rcases List.mem_append.mp he with he | he
    · obtain ⟨p, _, rfl, tk⟩ := ents_mem R1 he
      exact ⟨p.2, p.1, rfl, tk⟩
    · obtain ⟨p, _, rfl, tk⟩ := ents_mem R2 he
      exact ⟨p.2, p.1, rfl, tk⟩
  refine wpAny_bind ?_
  cases hl : es1.toList ++ es2.toList with
  | nil =>
    refine wpAny_pure ?_
    exact wpAny_pure (h es1.toList s.drawn (List.Perm.refl _))
  | cons e rest =>
    obtain ⟨k, x, ex, tk⟩ := all e (by rw [hl]; exact List.mem_cons_self)
    obtain ⟨e1, e2⟩ := e
    cases (show e2 = Value.ref x from ex)
    rw [List.forIn_cons]
    refine wpAny_bind (wpAny_bind (tup_loud tk ?_))
    simp only [Bool.not_false, if_true]
    unfold Builtin.Frozenset.walk
    refine wpAny_bind (wpAny_bind (walkT R1 fun ys d hp => wpAny_pure ?_))
    refine wpAny_pure ?_
    exact wpAny_pure (wpAny_pure (h _ d hp))
theorem subsetT (nm : String) (R1 : SetTK P w s.heap a L1 es1 ep1 t1) (R2 : SetTK P w s.heap b L2 es2 ep2 t2) (hu : A.units < cLine) (hsz : L1.length ≤ L2.length) {Q : Bool → Shared → Prop} (h : ∀ r d, (r = true ↔ subK L1 L2) → Q r { s with drawn := d }) :
    wpAny (model P w) A (Builtin.Frozenset.subsetOf nm a b) Q E s := by
  obtain ⟨o1, ho1, hex1, hd1⟩ := id R1.ob
  obtain ⟨o2, ho2, hex2, hd2⟩ := id R2.ob
  unfold Builtin.Frozenset.subsetOf Builtin.Frozenset.sizeOf setEntries
  refine wpAny_bind (wpAny_bind (wpAny_bind (wpAny_setState_of ho1 hd1 R1.fits (wpAny_pure (wpAny_pure ?_)))))
  refine wpAny_bind (wpAny_bind (wpAny_bind (wpAny_setState_of ho2 hd2 R2.fits (wpAny_pure (wpAny_pure ?_)))))
  dsimp only
  refine wp_if_neg (by rw [R1.size, R2.size]; omega) ?_
  try refine wpAny_bind (wpAny_pure ?_)
  unfold setEpoch
  refine wpAny_bind (wpAny_bind (wpAny_setState_of ho1 hd1 R1.fits (wpAny_pure ?_)))
  refine wpAny_bind (walkUnseenT R1 R2 fun ys d hp => ?_)
  refine wpAny_bind (wpAny_forIn_list _ (fun rest r s2 => r.1 = none ∧ s2 = { s with drawn := d } ∧ (∀ e ∈ rest, e ∈ es1.toList) ∧ ∀ p ∈ L1, (hT P w p.2, Value.ref p.1) ∈ rest ∨ p.2 ∈ keysT L2) _ ?_ ?_ _ _ ⟨rfl, rfl, fun e he => hp.mem_iff.mp he, fun p hpm => .inl (hp.mem_iff.mpr ?_)⟩)
  · rintro ⟨e1, e2⟩ rest r s2 ⟨hr, rfl, sub, seen⟩
    obtain ⟨p, hpm, ee, tk⟩ := ents_mem R1 (sub _ List.mem_cons_self)
    cases ee
    dsimp only
    refine wpAny_bind (wpAny_holding (setFindT (s := { s with drawn := d }) (t := t2) ⟨R2.ob, R2.ents, R2.tab, R2.once, R2.tups, R2.led, R2.room, R2.few⟩ tk hu fun r2 hr2 => ?_))
    cases r2 with
    | none =>
      refine wp_if_pos rfl (wpAny_pure ?_)
      refine wpAny_pure (h false d ?_)
      constructor
      · intro z; cases z
      · intro z
        have := hr2.mpr (z p hpm)
        cases this
    | some i =>
      refine wp_if_neg (by simp) ?_
      try refine wpAny_bind (wpAny_pure ?_)
      unfold Builtin.Frozenset.unchanged setEpoch
      refine wpAny_bind (wpAny_bind (wpAny_bind (wpAny_setState_of (s := { s with drawn := d }) ho1 hd1 R1.fits (wpAny_pure ?_))))
      refine wp_if_neg (by simp) (wpAny_pure (wpAny_pure ⟨rfl, rfl, fun e he => sub e (List.mem_cons_of_mem _ he), fun p2 hp2 => ?_⟩))
      rcases seen p2 hp2 with z | z
      · rcases List.mem_cons.mp z with z | z
        · have e : p2.1 = p.1 := by
            have := congrArg Prod.snd z
            exact Value.ref.inj this
          have tk2 := R1.tups p2 hp2
          rw [e] at tk2
          rw [tk_inj tk2 tk]
          exact .inr (hr2.mp rfl)
        · exact .inl z
      · exact .inr z
  · rintro ⟨r1, r2⟩ s2 ⟨e, rfl, _, seen⟩
    cases (show r1 = none from e)
    refine wpAny_pure (h true d ⟨fun _ p hp => ?_, fun _ => rfl⟩)
    rcases seen p hp with z | z
    · cases z
    · exact z
  · rw [R1.ents]
    exact List.mem_map.mpr ⟨p, hpm, rfl⟩
theorem entry_set_eqF : entryFor table "set.__eq__" = some Builtin.«frozenset.__eq__» :=
  entryFor_alias (id' := "frozenset.__eq__") (by kernel_rfl) rfl (by decide +kernel) (by kernel_rfl)
theorem eq_setT (R1 : SetTK P w s.heap a L1 es1 ep1 t1) (R2 : SetTK P w s.heap b L2 es2 ep2 t2) (hu : A.units + 2 < cLine) {Q : Value → Shared → Prop} (h : ∀ r d, (r = true ↔ L1.length = L2.length ∧ subK L1 L2) → Q (.bool r) { s with drawn := d }) :
    wpAny (model P w) A (compareOp .Eq (.ref a) (.ref b)) Q E s := by
  obtain ⟨o1, ho1, hex1, hd1⟩ := id R1.ob
  obtain ⟨o2, ho2, hex2, hd2⟩ := id R2.ob
  have ty1 : s.TypeIs (.ref a) "set" := ⟨o1, ho1, hex1.1⟩
  have ty2 : s.TypeIs (.ref b) "set" := ⟨o2, ho2, hex2.1⟩
  show wpAny _ _ (richCompare .Eq (.ref a) (.ref b)) _ _ _
  refine wpAny_richCompare_same_room (op := .Eq) ty1 ty2 PySem.F.slot_set_eq (wpAny_call_entry PySem.F.slot_set_eq ty1 entry_set_eqF ?_ (PySem.F.args_set_eq_2 _ _)) (by omega)
  unfold Builtin.«frozenset.__eq__»
  wp_delta
  unfold Builtin.Frozenset.slot1
  refine wpAny_bind (wpAny_pure ?_)
  dsimp only
  unfold Builtin.Frozenset.isAnySet
  refine wpAny_bind (wpAny_bind (wpAny_isInstance ty2 sub_set_self ?_))
  refine wpAny_pure ?_
  refine wp_if_neg (by simp) ?_
  refine wpAny_bind (wpAny_pure ?_)
  refine wpAny_bind (wpAny_pure ?_)
  unfold Builtin.Frozenset.sizeOf setEntries
  refine wpAny_bind (wpAny_bind (wpAny_bind (wpAny_setState_of ho1 hd1 R1.fits (wpAny_pure (wpAny_pure ?_)))))
  refine wpAny_bind (wpAny_bind (wpAny_bind (wpAny_setState_of ho2 hd2 R2.fits (wpAny_pure (wpAny_pure ?_)))))
  dsimp only
  have z1 := R1.size
  have z2 := R2.size
  by_cases hl : L1.length = L2.length
  · refine wpAny_bind (wp_if_neg (by rw [z1, z2, hl]; simp) ?_)
    refine wpAny_bind (wpAny_bind (wpAny_isInstance ty1 PySem.F.sub_set_frozenset ?_))
    refine wpAny_pure ?_
    refine wp_if_neg (by simp) ?_
    refine subsetT _ R1 R2 (by show A.units + 1 < cLine; omega) (Nat.le_of_eq hl) fun r d hr => ?_
    exact wpAny_pure ⟨_, rfl, (fun z => nomatch z), h r d (hr.trans ⟨fun z => ⟨hl, z⟩, fun z => z.2⟩)⟩
  · refine wpAny_bind (wp_if_pos (by rw [z1, z2]; simp [hl]) (wpAny_pure ?_))
    exact wpAny_pure ⟨_, rfl, (fun z => nomatch z), h false s.drawn ⟨fun z => (nomatch z), fun z => absurd z.1 hl⟩⟩
end
end Ax
end
section
set_option maxHeartbeats 4000000
open PySem PySem.Spec PyProof.Rows L2 Ax
set_option hygiene false in
local macro_rules | `(tactic| tbr_iter "boot") => `(tactic| with_reducible first | exact Ax.b_len | exact Ax.b_all | exact Ax.b_any | exact Ax.b_sorted | exact Ax.b_isinstance | exact Ax.b_abs | exact Ax.b_max | exact Ax.b_min | exact Ax.b_sum | exact Ax.b_repr | exact Ax.b_iter | exact Ax.b_ord | exact Ax.b_chr | exact Ax.b_str | exact Ax.b_int | exact Ax.b_bool | exact Ax.b_tuple | exact Ax.b_list | exact Ax.b_dict | exact Ax.b_set | exact Ax.b_range | exact Ax.b_enumerate | exact Ax.b_zip)
set_option hygiene false in
local macro_rules | `(tactic| tbr_iter "vis") => `(tactic| first | exact Or.inl rfl | exact Or.inr (Or.inl rfl) | exact Or.inr (Or.inr rfl))
set_option hygiene false in
local macro_rules | `(tactic| tbr_iter "w") => `(tactic| first
  | refine wb_cons ?_
  | refine wb_nil ?_
  | refine ws_ret ?_
  | refine ws_if ?_
  | refine ws_sub ?_
  | refine wa_cons ?_
  | refine wa_nil ?_
  | refine w_int ?_
  | refine w_str ?_
  | refine w_bl ?_
  | refine w_non ?_
  | tbr_iter "var"
  | refine w_bin ?_
  | refine w_cmp ?_
  | refine w_chain ?_
  | refine w_and ?_
  | refine w_or ?_
  | refine w_one ?_
  | refine w_not ?_
  | refine w_ix ?_
  | refine w_ifExp ?_
  | refine w_tup ?_
  | refine w_lst ?_
  | refine wt_not ?_
  | refine wt_bool ?_
  | refine ww_and ?_
  | refine ww_and1 ?_
  | refine ww_or ?_
  | refine ww_or1 ?_
  | refine wt_cmp ?_
  | refine wt_val ?_
  | tbr_iter "call"
  | (refine w_glob (by tbr_iter "mg") ?_)
  | (refine w_callB (by tbr_iter "z") ?_)
  | (refine w_callTy (by tbr_iter "z") ?_)
  | (refine w_bltT (by tbr_iter "z") ?_))
set_option hygiene false in
local macro_rules | `(tactic| tbr_iter "blk") => `(tactic| first | exact blkOk_by (by dsimp only [cxOf, envOfC]; decide +kernel))
set_option hygiene false in
local macro_rules | `(tactic| tbr_iter "iff") => `(tactic| first
  | refine iteT ?_
  | refine iteF ?_
  | refine w_if2 (fun _ => ?_) (fun _ => ?_))
set_option hygiene false in
local macro_rules | `(tactic| tbr_iter "sc") => `(tactic| first | omega | decide)
set_option hygiene false in
local macro_rules | `(tactic| tbr_iter "at") => `(tactic| first | exact atI_0 | exact atI_1 | exact atI_2)
set_option hygiene false in
local macro_rules | `(tactic| tbr_iter "sql") => `(tactic| ((try dsimp only [L2.cxOf, L2.Cx.blk]); with_reducible first | assumption | exact SqL.of (by assumption)))
set_option hygiene false in
local macro_rules | `(tactic| tbr_iter "sqt") => `(tactic| ((try dsimp only [L2.cxOf, L2.Cx.blk]); with_reducible first | assumption | exact SqT.of (by assumption)))
set_option hygiene false in
local macro_rules | `(tactic| tbr_iter "v") => `(tactic| first
  | refine bv_add ?_
  | refine bv_sub ?_
  | ((with_reducible show BinV _ .Mult _ _ _ _); refine bv_mul (Or.inl ⟨by tbr_iter "sc", by tbr_iter "sc"⟩) ?_)
  | ((with_reducible show BinV _ .Mult _ _ _ _); refine bv_mul (Or.inr ⟨by tbr_iter "sc", by tbr_iter "sc"⟩) ?_)
  | ((with_reducible show BinV _ .Mod _ _ _ _); refine bv_mod (by tbr_iter "sc") ?_)
  | ((with_reducible show BinV _ .FloorDiv _ _ _ _); refine bv_fdiv ⟨by tbr_iter "sc", by tbr_iter "sc"⟩ ?_)
  | ((with_reducible show BinV _ .Pow _ _ _ _); refine bv_pow ⟨by decide, by decide +kernel⟩ ?_)
  | refine cv_lt ?_
  | refine cv_le ?_
  | refine cv_gt ?_
  | refine cv_ge ?_
  | ((with_reducible show CmpV _ .Eq _ _ _ _); refine cv_eq rfl ?_)
  | ((with_reducible show CmpV _ .NotEq _ _ _ _); refine cv_ne rfl ?_)
  | refine iv_list (by tbr_iter "sql") (by tbr_iter "at") ?_
  | refine iv_tup (by tbr_iter "sqt") (by tbr_iter "at") ?_
  | refine kv_len_seq (Or.inl (by tbr_iter "sql")) ?_
  | refine kv_len_seq (Or.inr (by tbr_iter "sqt")) ?_
  | refine kv_int ?_
  | refine kv_intB ?_
  | refine kv_abs ?_
  | refine kv_max2 rfl ?_
  | refine kv_min2 rfl ?_)
set_option hygiene false in
local macro_rules | `(tactic| tbr_iter "b") => `(tactic| first
  | refine ⟨_, rfl, iteT ?_⟩
  | refine ⟨_, rfl, iteF ?_⟩
  | refine iteT ?_
  | refine iteF ?_)
set_option hygiene false in
local macro_rules | `(tactic| tbr_iter "go") => `(tactic| repeat (first | tbr_iter "w" | tbr_iter "v" | tbr_iter "b"))
set_option hygiene false in
local macro_rules | `(tactic| tbr_iter "nof") => `(tactic| (intro d hd; cases d <;> first | rfl | exact absurd rfl (hd _)))
set_option hygiene false in
local macro_rules | `(tactic| tbr_iter "e1") => `(tactic| first | ((with_reducible show W _ _ _ _ _); tbr_iter "w") | ((with_reducible show WA _ _ _ _ _); tbr_iter "w") | ((with_reducible show WT _ _ _ _ _); tbr_iter "w") | ((with_reducible show WW _ _ _ _ _); tbr_iter "w") | tbr_iter "v")
set_option hygiene false in
local macro_rules | `(tactic| tbr_iter "ex") => `(tactic| repeat (tbr_iter "e1"))
set_option hygiene false in
local macro_rules | `(tactic| tbr_iter "z") => `(tactic| ((try dsimp only [L2.cxOf]); with_reducible first | exact T.z_IndexError | exact T.z_ValueError | exact T.z_abs | exact T.z_all | exact T.z_bool | exact T.z_classmethod | exact T.z_enumerate | exact T.z_int | exact T.z_isinstance | exact T.z_iter | exact T.z_len | exact T.z_list | exact T.z_max | exact T.z_min | exact T.z_property | exact T.z_range | exact T.z_repr | exact T.z_set | exact T.z_sorted | exact T.z_str | exact T.z_tuple))
set_option hygiene false in
local macro_rules | `(tactic| tbr_iter "mg") => `(tactic| ((try dsimp only [L2.cxOf]); with_reducible first | exact T.c_ALPHABET | exact T.c_MAX_LETTERS | exact T.c_MAX_COLUMNS))
namespace Ax
section
variable {P : Program} {w : World} {K : PySem.W.Frag} {mg : Str → Option Value} {base : Heap}
set_option hygiene false in
local macro_rules | `(tactic| tbr_iter "var") => `(tactic| first | ((with_reducible show W _ (.Name "script" _) _ _ _); refine w_var 0 rfl (by tbr_iter "vis") rfl ?_) | ((with_reducible show W _ (.Name "spot" _) _ _ _); refine w_var 1 rfl (by tbr_iter "vis") rfl ?_) | ((with_reducible show W _ (.Name "cell" _) _ _ _); refine w_var 2 rfl (by tbr_iter "vis") rfl ?_) | ((with_reducible show W _ (.Name "great" _) _ _ _); refine w_var 3 rfl (by tbr_iter "vis") rfl ?_) | ((with_reducible show W _ (.Name "blend" _) _ _ _); refine w_var 4 rfl (by tbr_iter "vis") rfl ?_))
set_option hygiene false in
local macro_rules | `(tactic| tbr_iter "set") => `(tactic| first | ((with_reducible show WB _ (.Assign [.Name "script" _] _ _ :: _) _ _ _); refine wb_cons (ws_set 0 ?_ rfl nd)) | ((with_reducible show WB _ (.Assign [.Name "spot" _] _ _ :: _) _ _ _); refine wb_cons (ws_set 1 ?_ rfl nd)) | ((with_reducible show WB _ (.Assign [.Name "cell" _] _ _ :: _) _ _ _); refine wb_cons (ws_set 2 ?_ rfl nd)) | ((with_reducible show WB _ (.Assign [.Name "great" _] _ _ :: _) _ _ _); refine wb_cons (ws_set 3 ?_ rfl nd)) | ((with_reducible show WB _ (.Assign [.Name "blend" _] _ _ :: _) _ _ _); refine wb_cons (ws_set 4 ?_ rfl nd)))
theorem ok_law_dice (T : Txt K mg) : Callee P w K mg base "_law_dice" 2 ["script", "spot"] (spDice K) := by
  refine def_ok T.f__law_dice sc__law_dice (fun _ _ _ _ _ _ us hl => match us, hl with | [_, _], _ => rfl) (fun vs H Q E h => ?_) fun f cdv A outer s H vs Q E hr h => ?_
  · obtain ⟨a, ns, j, rfl, _⟩ := h; rfl
  obtain ⟨a, ns, j, rfl, hs, hl, hj, k⟩ := h
  have nd := sc__law_dice.nd
  refine wb_cons (ws_set 2 ?_ rfl nd)
  refine W.mono (Q := fun v H1 => Same H H1 ∧ ∃ c, v = .int c) ?_ ?_
  · refine w_ifExp (wt_cmp ?_)
    tbr_iter "var"
    refine w_callB T.z_len (wa_cons ?_)
    tbr_iter "var"
    refine wa_nil (kv_len_seq (.inl hs) (cv_lt ⟨_, rfl, w_if2 (fun c => ?_) (fun c => ?_)⟩))
    · refine w_ix ?_
      tbr_iter "var"
      tbr_iter "var"
      have lt : j < ns.length := by simpa using c
      refine iv_list hs (v := .int ns[j]) ?_ ⟨Same.refl _, _, rfl⟩
      exact atI_nat (by simp [lt])
    · refine w_bin (w_bin (w_int ?_))
      tbr_iter "var"
      exact bv_mul (.inl ⟨by decide, by decide⟩) (w_int (bv_add ⟨Same.refl _, _, rfl⟩))
  rintro v H1 ⟨s1, c, rfl⟩
  refine wb_cons (ws_set 3 (w_bin (w_callTy T.z_int (wa_cons (w_callB T.z_abs (wa_cons ?_))))) rfl nd)
  tbr_iter "var"
  refine wa_nil (kv_abs (wa_nil (kv_int (w_bin (w_bin (w_int (w_int (bv_pow ⟨by decide, by decide +kernel⟩ (w_int (bv_pow ⟨by decide, by decide +kernel⟩ (bv_mod (by decide +kernel) ?_)))))))))))
  have g0 : 0 ≤ (if c < 0 then -c else c) % ((10 : Int) ^ (57 : Int).toNat) ^ (11 : Int).toNat := Int.emod_nonneg _ (by decide +kernel)
  revert g0
  generalize (if c < 0 then -c else c) % ((10 : Int) ^ (57 : Int).toNat) ^ (11 : Int).toNat = g
  intro g0
  tbr_iter "set"
  tbr_iter "ex"
  refine wb_cons (ws_ret (w_dice ?_))
  tbr_iter "go"
  refine ⟨three_line, fun p H2 s2 n2 hp => ⟨p, _, _, _, 0, hp, ⟨?_, ?_, ?_, ?_, ?_⟩, k p _ ?_ (same_nul s1 n2) upd_same⟩⟩
  · split <;> omega
  · exact Int.emod_nonneg _ (by decide)
  · exact Int.lt_trans (Int.emod_lt_of_pos _ (by decide)) (by decide)
  · exact Int.le_refl _
  · exact Int.le_refl _
  · exact same_upd (s1.trans s2) (same_nul s1 n2)
set_option hygiene false in
local macro_rules | `(tactic| tbr_iter "var") => `(tactic| first | ((with_reducible show W _ (.Name "dice" _) _ _ _); refine w_var 0 rfl (by tbr_iter "vis") rfl ?_) | ((with_reducible show W _ (.Name "size" _) _ _ _); refine w_var 1 rfl (by tbr_iter "vis") rfl ?_) | ((with_reducible show W _ (.Name "found" _) _ _ _); refine w_var 2 rfl (by tbr_iter "vis") rfl ?_) | ((with_reducible show W _ (.Name "one" _) _ _ _); refine w_var 3 rfl (by tbr_iter "vis") rfl ?_) | ((with_reducible show W _ (.Name "two" _) _ _ _); refine w_var 4 rfl (by tbr_iter "vis") rfl ?_))
set_option hygiene false in
local macro_rules | `(tactic| tbr_iter "set") => `(tactic| first | ((with_reducible show WB _ (.Assign [.Name "dice" _] _ _ :: _) _ _ _); refine wb_cons (ws_set 0 ?_ rfl nd)) | ((with_reducible show WB _ (.Assign [.Name "size" _] _ _ :: _) _ _ _); refine wb_cons (ws_set 1 ?_ rfl nd)) | ((with_reducible show WB _ (.Assign [.Name "found" _] _ _ :: _) _ _ _); refine wb_cons (ws_set 2 ?_ rfl nd)) | ((with_reducible show WB _ (.Assign [.Name "one" _] _ _ :: _) _ _ _); refine wb_cons (ws_set 3 ?_ rfl nd)) | ((with_reducible show WB _ (.Assign [.Name "two" _] _ _ :: _) _ _ _); refine wb_cons (ws_set 4 ?_ rfl nd)))
theorem ok_law_roll (T : Txt K mg) : Callee P w K mg base "_law_roll" 2 ["dice", "size"] spRoll := by
  refine def_ok T.f__law_roll sc__law_roll (fun _ _ _ _ _ _ us hl => match us, hl with | [_, _], _ => rfl) (fun vs H Q E h => ?_) fun f cdv A outer s H vs Q E hr h => ?_
  · obtain ⟨p, n, k, rfl, _⟩ := h; rfl
  obtain ⟨p, n, m, rfl, hp, hn, m0, m1, k⟩ := h
  have nd := sc__law_roll.nd
  refine wb_dice hp fun x y z d => ?_
  have d0 := d.x0
  have d1 := d.y0
  have d2 := d.y1
  have d3 := d.z0
  have d4 := d.z1
  have hL : SqL K (upd H p (.lst [.int x, .int y, .int z])) p [.int x, .int y, .int z] := SqL.of upd_same
  tbr_iter "go"
  refine ⟨_, rfl, w_if2 (fun c => ?_) (fun c => ?_)⟩
  · tbr_iter "set"
    tbr_iter "go"
    refine sv_list upd_same rfl ?_
    refine wb_cons (ws_ret (w_dice ?_))
    tbr_iter "go"
    refine ⟨p, _, _, _, n + 1, upd_same, ⟨?_, d1, d2, d3, by omega⟩, ?_⟩
    · exact Int.ediv_nonneg d0 (by omega)
    · rw [upd_upd, upd_upd]
      exact k _ _ (Sm.refl hp).upd upd_same (Int.emod_nonneg _ (by omega)) (Int.emod_lt_of_pos _ m0)
  · tbr_iter "go"
    refine sv_list upd_same rfl ?_
    rw [upd_upd]
    show WB _ _ _ _ (upd H p (.lst [.int x, .int y, .int (z + 1)]))
    clear hL
    have hL : SqL K (upd H p (.lst [.int x, .int y, .int (z + 1)])) p [.int x, .int y, .int (z + 1)] := SqL.of upd_same
    tbr_iter "set"
    tbr_iter "ex"
    have o0 := Int.emod_nonneg (y + 479001599 * (z + 1)) (show (72057594037927931 : Int) ≠ 0 by decide)
    have o1 := Int.emod_lt_of_pos (y + 479001599 * (z + 1)) (show (0 : Int) < 72057594037927931 by decide)
    revert o0 o1
    generalize (y + 479001599 * (z + 1)) % 72057594037927931 = one
    intro o0 o1
    tbr_iter "set"
    tbr_iter "ex"
    have t0 : 0 ≤ one * one % 36028797018963913 * one + 1299709 * (z + 1) := Int.add_nonneg (Int.mul_nonneg (Int.emod_nonneg _ (by decide)) o0) (by omega)
    have t1 : one * one % 36028797018963913 * one + 1299709 * (z + 1) < 2 ^ 130 := by
      have e1 : one * one % 36028797018963913 < 36028797018963913 := Int.emod_lt_of_pos _ (by decide)
      have e2 : one * one % 36028797018963913 * one ≤ 36028797018963913 * 72057594037927931 := Int.mul_le_mul (Int.le_of_lt e1) (Int.le_of_lt o1) o0 (by decide)
      omega
    revert t0 t1
    generalize one * one % 36028797018963913 * one + 1299709 * (z + 1) = two
    intro t0 t1
    have tn : two.natAbs < 2 ^ 130 := by omega
    refine wb_cons (ws_ret (w_dice ?_))
    tbr_iter "go"
    refine bv_mulW (wide_mul tn tn (by decide) (by decide) (by decide)) ?_
    tbr_iter "go"
    refine ⟨p, _, _, _, n + 1, upd_same, ⟨d0, d1, d2, by omega, by omega⟩, ?_⟩
    rw [upd_upd]
    exact k _ _ (Sm.refl hp).upd upd_same (Int.emod_nonneg _ (by omega)) (Int.emod_lt_of_pos _ m0)
set_option hygiene false in
local macro_rules | `(tactic| tbr_iter "var") => `(tactic| first | ((with_reducible show W _ (.Name "dice" _) _ _ _); refine w_var 0 rfl (by tbr_iter "vis") rfl ?_) | ((with_reducible show W _ (.Name "items" _) _ _ _); refine w_var 1 rfl (by tbr_iter "vis") rfl ?_))
set_option hygiene false in
local macro_rules | `(tactic| tbr_iter "set") => `(tactic| first | ((with_reducible show WB _ (.Assign [.Name "dice" _] _ _ :: _) _ _ _); refine wb_cons (ws_set 0 ?_ rfl nd)) | ((with_reducible show WB _ (.Assign [.Name "items" _] _ _ :: _) _ _ _); refine wb_cons (ws_set 1 ?_ rfl nd)))
theorem ok_law_pick (T : Txt K mg) : Callee P w K mg base "_law_pick" 3 ["dice", "items"] (spPick K) := by
  refine def_ok T.f__law_pick sc__law_pick (fun _ _ _ _ _ _ us hl => match us, hl with | [_, _], _ => rfl) (fun vs H Q E h => ?_) fun f cdv A outer s H vs Q E hr h => ?_
  · obtain ⟨p, l, n, xs, rfl, _⟩ := h; rfl
  obtain ⟨p, l, n, xs, rfl, hp, hn, hs, hne, hlen, k⟩ := h
  have nd := sc__law_pick.nd
  refine wb_cons (ws_ret (w_ix ?_))
  tbr_iter "ex"
  refine w_call (ok_law_roll T) hr passL ?_
  tbr_iter "ex"
  have h0 : 0 < xs.length := List.length_pos_iff.mpr hne
  refine ⟨p, n, _, rfl, hp, hn, by omega, by omega, fun r H1 s1 hp1 r0 r1 => ?_⟩
  have hi : r.toNat < xs.length := by omega
  exact iv_list (s1.seq hs) (atI_int r0 hi) (k _ (List.getElem_mem hi) _ s1 hp1)
end
end Ax

namespace Ax
def alpha : Str := "abcdefghijklmnopqrstuvwxyz"
def isNameS (z : Str) : Bool := decide (0 < z.length) && (decide (z.length ≤ 8) && z.cps.toList.all fun c => decide (c ∈ alpha.cps.toList))
def isNameD : PyData → Bool
  | .str z => isNameS z
  | _ => false
def isNameV : V → Bool
  | .str z => isNameS z
  | _ => false
theorem nameDV {K : PySem.W.Frag} {H : Hp} {v : V} {d : PyData} (h : Dp K H v d) : isNameD d = isNameV v := by cases h <;> rfl
theorem nameAll {K : PySem.W.Frag} {H : Hp} : ∀ {ds : List PyData} {vs : List V}, DpAll K H vs ds → vs.all isNameV = ds.all isNameD
  | [], _, h => by cases h; rfl
  | d :: ds, _, h => by
    cases h with
    | cons h1 h2 => rw [List.all_cons, List.all_cons, nameAll h2, nameDV h1]
def isRowD : PyData → Bool
  | .tuple ds => ds.all isNameD
  | _ => false
/-- a def that looks at any value -/
def spAny (K : PySem.W.Frag) (f : PyData → Bool) : Sp := fun vs H Q _ => ∃ v o, vs = [v] ∧ AnyV K H v o ∧ ∀ H', Same H H' → Q (.bl (o.any f)) H'
theorem signs_name (z : Str) : ((signsV z).all fun v => match v with | .str s => s.cps.toList.all fun c => decide (c ∈ alpha.cps.toList) | _ => false) = z.cps.toList.all fun c => decide (c ∈ alpha.cps.toList) := by
  unfold signsV
  rw [List.all_map]
  congr 1
  funext c
  simp
section
variable {P : Program} {w : World} {K : PySem.W.Frag} {mg : Str → Option Value} {base : Heap}
set_option hygiene false in
local macro_rules | `(tactic| tbr_iter "var") => `(tactic| first | ((with_reducible show W _ (.Name "value" _) _ _ _); refine w_var 0 rfl (by tbr_iter "vis") rfl ?_) | ((with_reducible show W _ (.Name "sign" _) _ _ _); refine w_var 1 rfl (by tbr_iter "vis") rfl ?_))
set_option hygiene false in
local macro_rules | `(tactic| tbr_iter "set") => `(tactic| first | ((with_reducible show WB _ (.Assign [.Name "value" _] _ _ :: _) _ _ _); refine wb_cons (ws_set 0 ?_ rfl nd)) | ((with_reducible show WB _ (.Assign [.Name "sign" _] _ _ :: _) _ _ _); refine wb_cons (ws_set 1 ?_ rfl nd)))
theorem ok_is_name (T : Txt K mg) : Callee P w K mg base "is_name" 1 ["value"] (spAny K isNameD) := by
  refine def_ok T.f_is_name sc_is_name (fun _ _ _ _ _ _ us hl => match us, hl with | [_], _ => rfl) (fun vs H Q E h => ?_) fun f cdv A outer s H vs Q E hr h => ?_
  · obtain ⟨v, o, rfl, _⟩ := h; rfl
  obtain ⟨v, o, rfl, a, k⟩ := h
  have nd := sc_is_name.nd
  tbr_iter "go"
  refine kv_isiA a (by decide) ⟨_, rfl, w_if2 (fun c => ?_) (fun c => ?_)⟩
  · cases a with
    | oth => cases c
    | @dat d hd ok =>
      rw [isiO_str] at c
      cases hd <;> first | cases c | skip
      rename_i z
      have hz := okD.str ok
      tbr_iter "go"
      refine kv_len_str hz ?_
      tbr_iter "go"
      refine ⟨_, rfl, w_if2 (fun c1 => ?_) (fun c1 => ?_)⟩
      · tbr_iter "go"
        refine ⟨_, rfl, w_if2 (fun c2 => ?_) (fun c2 => ?_)⟩
        · refine w_one ?_
          refine w_allLc 1 (fun v => match v with | .str s => s.cps.toList.all fun c => decide (c ∈ alpha.cps.toList) | _ => false) T.z_all rfl nd (by tbr_iter "blk") rfl (fun _ _ _ _ _ => ⟨Or.inl rfl, Or.inr rfl⟩) (wi_val ?_)
          tbr_iter "go"
          refine itv_str ⟨_, seqIt_str, ?_, fun v hv H2 s2 _ _ _ _ _ => ?_, fun H2 s2 => ?_⟩
          · have e : (signsV z).length = z.length := by simp [signsV, Str.length]
            have c2 : (z.length : Int) ≤ 8 := of_decide_eq_true c2
            rw [e]
            exact Nat.lt_of_le_of_lt (show z.length ≤ 8 by omega) (by decide)
          · obtain ⟨c, _, rfl⟩ := List.mem_map.mp hv
            tbr_iter "go"
            refine cv_inSign ⟨Same.refl _, ?_⟩
            simp [alpha]
          · have c1 : (0 : Int) < z.length := of_decide_eq_true c1
            have c2 : (z.length : Int) ≤ 8 := of_decide_eq_true c2
            refine qb (k H2 s2) ?_
            rw [signs_name]
            show (decide (0 < z.length) && (decide (z.length ≤ 8) && _)) = _
            rw [decide_eq_true (show 0 < z.length by omega), decide_eq_true (show z.length ≤ 8 by omega)]
            rfl
        · have c2 : ¬ (z.length : Int) ≤ 8 := of_decide_eq_false c2
          refine qb (k H (Same.refl _)) ?_
          show (_ && (decide (z.length ≤ 8) && _)) = _
          rw [decide_eq_false (show ¬ z.length ≤ 8 by omega), Bool.false_and, Bool.and_false]
      · have c1 : ¬ (0 : Int) < z.length := of_decide_eq_false c1
        refine ⟨_, rfl, iteF (qb (k H (Same.refl _)) ?_)⟩
        show (decide (0 < z.length) && _) = _
        rw [decide_eq_false (show ¬ 0 < z.length by omega), Bool.false_and]
  · have e := k H (Same.refl _)
    cases a with
    | oth => exact e
    | @dat d hd ok =>
      rw [isiO_str] at c
      cases hd <;> first | exact e | cases c
set_option hygiene false in
local macro_rules | `(tactic| tbr_iter "var") => `(tactic| first | ((with_reducible show W _ (.Name "value" _) _ _ _); refine w_var 0 rfl (by tbr_iter "vis") rfl ?_) | ((with_reducible show W _ (.Name "name" _) _ _ _); refine w_var 1 rfl (by tbr_iter "vis") rfl ?_))
set_option hygiene false in
local macro_rules | `(tactic| tbr_iter "set") => `(tactic| first | ((with_reducible show WB _ (.Assign [.Name "value" _] _ _ :: _) _ _ _); refine wb_cons (ws_set 0 ?_ rfl nd)) | ((with_reducible show WB _ (.Assign [.Name "name" _] _ _ :: _) _ _ _); refine wb_cons (ws_set 1 ?_ rfl nd)))
theorem ok_is_row (T : Txt K mg) : Callee P w K mg base "is_row" 2 ["value"] (spAny K isRowD) := by
  refine def_ok T.f_is_row sc_is_row (fun _ _ _ _ _ _ us hl => match us, hl with | [_], _ => rfl) (fun vs H Q E h => ?_) fun f cdv A outer s H vs Q E hr h => ?_
  · obtain ⟨v, o, rfl, _⟩ := h; rfl
  obtain ⟨v, o, rfl, a, k⟩ := h
  have nd := sc_is_row.nd
  tbr_iter "go"
  refine kv_isiA a (by decide) ⟨_, rfl, w_if2 (fun c => ?_) (fun c => ?_)⟩
  · cases a with
    | oth => cases c
    | @dat d hd ok =>
      rw [isiO_tuple] at c
      cases hd <;> first | cases c | skip
      rename_i p xs ds hx ha
      refine w_one ?_
      refine w_allLc 1 isNameV T.z_all rfl nd (by tbr_iter "blk") rfl (fun _ _ _ _ _ => ⟨Or.inl rfl, Or.inr rfl⟩) (wi_val ?_)
      tbr_iter "go"
      refine itv_tup hx ⟨_, seqIt_tup hx, ?_, fun v hv H2 s2 _ _ _ _ _ => ?_, fun H2 s2 => ?_⟩
      · rw [dpa_len ha]; exact okD.len ok
      · obtain ⟨i, hi⟩ := List.mem_iff_getElem?.mp hv
        obtain ⟨d, h1, h2⟩ := dpa_get ha hi
        have okd := okD.item ok d (List.mem_of_getElem? h1)
        refine w_call (ok_is_name T) (hr.mono (by decide)) passL ?_
        tbr_iter "go"
        refine ⟨v, some d, rfl, .dat (dp_same s2 h2) okd, fun H3 s3 => ⟨s3, ?_⟩⟩
        rw [← nameDV h2]
        rfl
      · have e := k H2 s2
        rw [nameAll ha]
        exact e
  · have e := k H (Same.refl _)
    cases a with
    | oth => exact e
    | @dat d hd ok =>
      rw [isiO_tuple] at c
      cases hd <;> first | exact e | cases c
/-- whole numbers, no truths -/
def spIsInt : Sp := fun vs H Q _ => ∃ i : Int, vs = [.int i] ∧ Q (.bl true) H
set_option hygiene false in
local macro_rules | `(tactic| tbr_iter "var") => `(tactic| first | ((with_reducible show W _ (.Name "value" _) _ _ _); refine w_var 0 rfl (by tbr_iter "vis") rfl ?_))
set_option hygiene false in
local macro_rules | `(tactic| tbr_iter "set") => `(tactic| first | ((with_reducible show WB _ (.Assign [.Name "value" _] _ _ :: _) _ _ _); refine wb_cons (ws_set 0 ?_ rfl nd)))
theorem ok_is_integer (T : Txt K mg) : Callee P w K mg base "is_integer" 1 ["value"] spIsInt := by
  refine def_ok T.f_is_integer sc_is_integer (fun _ _ _ _ _ _ us hl => match us, hl with | [_], _ => rfl) (fun vs H Q E h => ?_) fun f cdv A outer s H vs Q E hr h => ?_
  · obtain ⟨i, rfl, _⟩ := h; rfl
  obtain ⟨i, rfl, k⟩ := h
  have nd := sc_is_integer.nd
  tbr_iter "go"
  refine kv_isiB (t := "int") (.base (.int i)) (k := true) (by decide +kernel) ?_
  refine ⟨_, rfl, iteT ?_⟩
  tbr_iter "go"
  refine kv_isiB (t := "int") (.base (.int i)) (k := false) (by decide +kernel) ?_
  exact ⟨_, rfl, k⟩
def spBetween : Sp := fun vs H Q _ => ∃ i a b : Int, vs = [.int i, .int a, .int b] ∧ Q (.bl (decide (a ≤ i ∧ i ≤ b))) H
set_option hygiene false in
local macro_rules | `(tactic| tbr_iter "var") => `(tactic| first | ((with_reducible show W _ (.Name "value" _) _ _ _); refine w_var 0 rfl (by tbr_iter "vis") rfl ?_) | ((with_reducible show W _ (.Name "least" _) _ _ _); refine w_var 1 rfl (by tbr_iter "vis") rfl ?_) | ((with_reducible show W _ (.Name "most" _) _ _ _); refine w_var 2 rfl (by tbr_iter "vis") rfl ?_))
set_option hygiene false in
local macro_rules | `(tactic| tbr_iter "set") => `(tactic| first | ((with_reducible show WB _ (.Assign [.Name "value" _] _ _ :: _) _ _ _); refine wb_cons (ws_set 0 ?_ rfl nd)) | ((with_reducible show WB _ (.Assign [.Name "least" _] _ _ :: _) _ _ _); refine wb_cons (ws_set 1 ?_ rfl nd)) | ((with_reducible show WB _ (.Assign [.Name "most" _] _ _ :: _) _ _ _); refine wb_cons (ws_set 2 ?_ rfl nd)))
theorem ok_is_between (T : Txt K mg) : Callee P w K mg base "is_between" 2 ["value", "least", "most"] spBetween := by
  refine def_ok T.f_is_between sc_is_between (fun _ _ _ _ _ _ us hl => match us, hl with | [_, _, _], _ => rfl) (fun vs H Q E h => ?_) fun f cdv A outer s H vs Q E hr h => ?_
  · obtain ⟨i, a, b, rfl, _⟩ := h; rfl
  obtain ⟨i, a, b, rfl, k⟩ := h
  have nd := sc_is_between.nd
  tbr_iter "go"
  refine w_call (ok_is_integer T) (hr.mono (by decide)) passL ?_
  tbr_iter "go"
  refine ⟨i, rfl, ⟨_, rfl, iteT ?_⟩⟩
  tbr_iter "go"
  refine ⟨_, rfl, w_if2 (fun c => ?_) (fun c => ?_)⟩
  · have c : a ≤ i := of_decide_eq_true c
    tbr_iter "go"
    refine qb k ?_
    by_cases h : i ≤ b
    · rw [decide_eq_true h, decide_eq_true ⟨c, h⟩]
    · rw [decide_eq_false h, decide_eq_false fun z => h z.2]
  · have c : ¬ a ≤ i := of_decide_eq_false c
    refine qb k ?_
    rw [decide_eq_false fun z => c z.1]
def spReqCol : Sp := fun vs H Q _ => ∃ i : Int, vs = [.int i] ∧ 0 ≤ i ∧ i ≤ 3 ∧ Q .non H
set_option hygiene false in
local macro_rules | `(tactic| tbr_iter "var") => `(tactic| first | ((with_reducible show W _ (.Name "columns" _) _ _ _); refine w_var 0 rfl (by tbr_iter "vis") rfl ?_))
set_option hygiene false in
local macro_rules | `(tactic| tbr_iter "set") => `(tactic| first | ((with_reducible show WB _ (.Assign [.Name "columns" _] _ _ :: _) _ _ _); refine wb_cons (ws_set 0 ?_ rfl nd)))
theorem ok_require_columns (T : Txt K mg) : Callee P w K mg base "require_columns" 3 ["columns"] spReqCol := by
  refine def_ok T.f_require_columns sc_require_columns (fun _ _ _ _ _ _ us hl => match us, hl with | [_], _ => rfl) (fun vs H Q E h => ?_) fun f cdv A outer s H vs Q E hr h => ?_
  · obtain ⟨i, rfl, _⟩ := h; rfl
  obtain ⟨i, rfl, h0, h1, k⟩ := h
  have nd := sc_require_columns.nd
  refine wb_cons (ws_if (wt_not (wt_val (w_call (ok_is_between T) hr passL ?_))))
  tbr_iter "go"
  refine ⟨i, 0, 3, rfl, ⟨_, rfl, ?_⟩⟩
  rw [decide_eq_true ⟨h0, h1⟩]
  refine iteF (wb_nil (wb_nil k))
end
end Ax
end
section
set_option maxHeartbeats 4000000
open PySem PySem.Spec PyProof.Rows L2 Ax
set_option hygiene false in
local macro_rules | `(tactic| tbr_iter "boot") => `(tactic| with_reducible first | exact Ax.b_len | exact Ax.b_all | exact Ax.b_any | exact Ax.b_sorted | exact Ax.b_isinstance | exact Ax.b_abs | exact Ax.b_max | exact Ax.b_min | exact Ax.b_sum | exact Ax.b_repr | exact Ax.b_iter | exact Ax.b_ord | exact Ax.b_chr | exact Ax.b_str | exact Ax.b_int | exact Ax.b_bool | exact Ax.b_tuple | exact Ax.b_list | exact Ax.b_dict | exact Ax.b_set | exact Ax.b_range | exact Ax.b_enumerate | exact Ax.b_zip)
set_option hygiene false in
local macro_rules | `(tactic| tbr_iter "vis") => `(tactic| first | exact Or.inl rfl | exact Or.inr (Or.inl rfl) | exact Or.inr (Or.inr rfl))
set_option hygiene false in
local macro_rules | `(tactic| tbr_iter "w") => `(tactic| first
  | refine wb_cons ?_
  | refine wb_nil ?_
  | refine ws_ret ?_
  | refine ws_if ?_
  | refine ws_sub ?_
  | refine wa_cons ?_
  | refine wa_nil ?_
  | refine w_int ?_
  | refine w_str ?_
  | refine w_bl ?_
  | refine w_non ?_
  | tbr_iter "var"
  | refine w_bin ?_
  | refine w_cmp ?_
  | refine w_chain ?_
  | refine w_and ?_
  | refine w_or ?_
  | refine w_one ?_
  | refine w_not ?_
  | refine w_ix ?_
  | refine w_ifExp ?_
  | refine w_tup ?_
  | refine w_lst ?_
  | refine wt_not ?_
  | refine wt_bool ?_
  | refine ww_and ?_
  | refine ww_and1 ?_
  | refine ww_or ?_
  | refine ww_or1 ?_
  | refine wt_cmp ?_
  | refine wt_val ?_
  | tbr_iter "call"
  | (refine w_glob (by tbr_iter "mg") ?_)
  | (refine w_callB (by tbr_iter "z") ?_)
  | (refine w_callTy (by tbr_iter "z") ?_)
  | (refine w_bltT (by tbr_iter "z") ?_))
set_option hygiene false in
local macro_rules | `(tactic| tbr_iter "blk") => `(tactic| first | exact blkOk_by (by dsimp only [cxOf, envOfC]; decide +kernel))
set_option hygiene false in
local macro_rules | `(tactic| tbr_iter "iff") => `(tactic| first
  | refine iteT ?_
  | refine iteF ?_
  | refine w_if2 (fun _ => ?_) (fun _ => ?_))
set_option hygiene false in
local macro_rules | `(tactic| tbr_iter "sc") => `(tactic| first | omega | decide)
set_option hygiene false in
local macro_rules | `(tactic| tbr_iter "at") => `(tactic| first | exact atI_0 | exact atI_1 | exact atI_2)
set_option hygiene false in
local macro_rules | `(tactic| tbr_iter "sql") => `(tactic| ((try dsimp only [L2.cxOf, L2.Cx.blk]); with_reducible first | assumption | exact SqL.of (by assumption)))
set_option hygiene false in
local macro_rules | `(tactic| tbr_iter "sqt") => `(tactic| ((try dsimp only [L2.cxOf, L2.Cx.blk]); with_reducible first | assumption | exact SqT.of (by assumption)))
set_option hygiene false in
local macro_rules | `(tactic| tbr_iter "v") => `(tactic| first
  | refine bv_add ?_
  | refine bv_sub ?_
  | ((with_reducible show BinV _ .Mult _ _ _ _); refine bv_mul (Or.inl ⟨by tbr_iter "sc", by tbr_iter "sc"⟩) ?_)
  | ((with_reducible show BinV _ .Mult _ _ _ _); refine bv_mul (Or.inr ⟨by tbr_iter "sc", by tbr_iter "sc"⟩) ?_)
  | ((with_reducible show BinV _ .Mod _ _ _ _); refine bv_mod (by tbr_iter "sc") ?_)
  | ((with_reducible show BinV _ .FloorDiv _ _ _ _); refine bv_fdiv ⟨by tbr_iter "sc", by tbr_iter "sc"⟩ ?_)
  | ((with_reducible show BinV _ .Pow _ _ _ _); refine bv_pow ⟨by decide, by decide +kernel⟩ ?_)
  | refine cv_lt ?_
  | refine cv_le ?_
  | refine cv_gt ?_
  | refine cv_ge ?_
  | ((with_reducible show CmpV _ .Eq _ _ _ _); refine cv_eq rfl ?_)
  | ((with_reducible show CmpV _ .NotEq _ _ _ _); refine cv_ne rfl ?_)
  | refine iv_list (by tbr_iter "sql") (by tbr_iter "at") ?_
  | refine iv_tup (by tbr_iter "sqt") (by tbr_iter "at") ?_
  | refine kv_len_seq (Or.inl (by tbr_iter "sql")) ?_
  | refine kv_len_seq (Or.inr (by tbr_iter "sqt")) ?_
  | refine kv_int ?_
  | refine kv_intB ?_
  | refine kv_abs ?_
  | refine kv_max2 rfl ?_
  | refine kv_min2 rfl ?_)
set_option hygiene false in
local macro_rules | `(tactic| tbr_iter "b") => `(tactic| first
  | refine ⟨_, rfl, iteT ?_⟩
  | refine ⟨_, rfl, iteF ?_⟩
  | refine iteT ?_
  | refine iteF ?_)
set_option hygiene false in
local macro_rules | `(tactic| tbr_iter "go") => `(tactic| repeat (first | tbr_iter "w" | tbr_iter "v" | tbr_iter "b"))
set_option hygiene false in
local macro_rules | `(tactic| tbr_iter "nof") => `(tactic| (intro d hd; cases d <;> first | rfl | exact absurd rfl (hd _)))
set_option hygiene false in
local macro_rules | `(tactic| tbr_iter "e1") => `(tactic| first | ((with_reducible show W _ _ _ _ _); tbr_iter "w") | ((with_reducible show WA _ _ _ _ _); tbr_iter "w") | ((with_reducible show WT _ _ _ _ _); tbr_iter "w") | ((with_reducible show WW _ _ _ _ _); tbr_iter "w") | tbr_iter "v")
set_option hygiene false in
local macro_rules | `(tactic| tbr_iter "ex") => `(tactic| repeat (tbr_iter "e1"))
set_option hygiene false in
local macro_rules | `(tactic| tbr_iter "z") => `(tactic| ((try dsimp only [L2.cxOf]); with_reducible first | exact T.z_IndexError | exact T.z_ValueError | exact T.z_abs | exact T.z_all | exact T.z_bool | exact T.z_classmethod | exact T.z_enumerate | exact T.z_int | exact T.z_isinstance | exact T.z_iter | exact T.z_len | exact T.z_list | exact T.z_max | exact T.z_min | exact T.z_property | exact T.z_range | exact T.z_repr | exact T.z_set | exact T.z_sorted | exact T.z_str | exact T.z_tuple))
set_option hygiene false in
local macro_rules | `(tactic| tbr_iter "mg") => `(tactic| ((try dsimp only [L2.cxOf]); with_reducible first | exact T.c_ALPHABET | exact T.c_MAX_LETTERS | exact T.c_MAX_COLUMNS))
namespace Ax
theorem iteT2 {c : Bool} {A B : Prop} (h : c = true) (q : A) : if c = true then A else B := by rw [if_pos h]; exact q
theorem room64 {k : Nat} {A : Around} (r : Room k A) : A.units + 64 < cLine := by
  have := r.un
  omega
theorem alpha_ok : ∀ c ∈ alpha.cps.toList, PyData.strOk ⟨#[c]⟩ = true := by decide +kernel
theorem name_ok {z : Str} (h : isNameS z = true) : okD (.str z) = true := by
  unfold isNameS at h
  simp only [Bool.and_eq_true, decide_eq_true_eq, List.all_eq_true] at h
  obtain ⟨_, h1, h2⟩ := h
  have h3 : PyData.strOk z = true := by
    unfold PyData.strOk
    rw [← Array.all_toList]
    refine List.all_eq_true.mpr fun c hc => ?_
    have e := alpha_ok c (h2 c hc)
    unfold PyData.strOk at e
    simpa using e
  have e : okD (.str z) = ((PyData.strOk z && decide (z.length ≤ 1000)) && true) := rfl
  rw [e, h3, decide_eq_true (by omega)] <;> rfl
theorem tameAll_names : ∀ {r : List Str}, (∀ z ∈ r, isNameS z = true) → tameAll (r.map PyData.str) = true
  | [], _ => by simp [tameAll]
  | z :: r, h => by
    have e := name_ok (h z List.mem_cons_self)
    simp only [okD, Bool.and_eq_true] at e
    have e2 := tameAll_names fun y hy => h y (List.mem_cons_of_mem _ hy)
    simp [tameAll, e.1, e2]
/-- a row of c names -/
def NRow (c : Nat) (r : List Str) : Prop := r.length = c ∧ ∀ z ∈ r, isNameS z = true
theorem row_ok {c : Nat} {r : List Str} (h : NRow c r) (hc : c ≤ 100000) : okD (rowD r) = true := by
  have e := depth_row r
  simp only [okD, rowD, tame, Bool.and_eq_true, decide_eq_true_eq]
  refine ⟨⟨tameAll_names h.2, ?_⟩, ?_⟩
  · rw [List.length_map, h.1]
    exact hc
  · exact decide_eq_true (Nat.le_trans (show (PyData.tuple (r.map PyData.str)).depth ≤ 1 from e) (show 1 ≤ 60 by decide))
theorem row_is {c : Nat} {r : List Str} (h : NRow c r) : isRowD (rowD r) = true := by
  show (r.map PyData.str).all isNameD = true
  rw [List.all_map]
  exact List.all_eq_true.mpr fun z hz => h.2 z hz
/-- v is a tuple of the texts r -/
def RwV (H : Hp) (v : V) (r : List Str) : Prop := ∃ b, v = .ref b ∧ H b = some (.tup (r.map V.str))
theorem RwV.sl {H H' : Hp} {v : V} {r : List Str} (h : RwV H v r) (s : Sl H H') : RwV H' v r := let ⟨b, e, g⟩ := h; ⟨b, e, s _ _ g rfl⟩
theorem RwV.same {H H' : Hp} {v : V} {r : List Str} (h : RwV H v r) (s : Same H H') : RwV H' v r := h.sl (Sl.of s)
theorem RwV.bt {d : Addr} {H H' : Hp} {v : V} {r : List Str} (h : RwV H v r) (s : Bt d H H') (nd : ∀ xs, H d ≠ some (.tup xs)) : RwV H' v r := let ⟨b, e, g⟩ := h; ⟨b, e, s b _ (fun z => nd _ (z ▸ g)) g⟩
theorem rows_sl {H H' : Hp} {vs : List V} {rows : List (List Str)} (h : All2 (RwV H) vs rows) (s : Sl H H') : All2 (RwV H') vs rows := h.imp fun _ _ k => k.sl s
/-- rows in their order -/
def sortR (rows : List (List Str)) : List (List Str) := rows.mergeSort (PySem.W.dataLe false rowD)
/-- a table's rows -/
def tabRows (raw : List (List Str)) : List (List Str) := sortR (onceL raw)
theorem tabRows_mem {raw : List (List Str)} {r : List Str} : r ∈ tabRows raw ↔ r ∈ raw := by
  unfold tabRows sortR
  rw [List.mem_mergeSort]
  exact (onceL_mem raw).2 r
theorem tabRows_len (raw : List (List Str)) : (tabRows raw).length ≤ raw.length := by
  unfold tabRows sortR
  rw [List.length_mergeSort]
  exact nodup_len (onceL_mem raw).1 fun z hz => ((onceL_mem raw).2 z).mp hz
theorem tabRows_nodup (raw : List (List Str)) : (tabRows raw).Nodup := (List.mergeSort_perm _ _).nodup_iff.mpr (onceL_mem raw).1
/-- the table at a: c columns, these rows -/
structure TabIs (K : PySem.W.Frag) (H : Hp) (a : Addr) (c : Nat) (rows : List (List Str)) : Prop where
  ex : ∃ dx q d, H a = some (.ins (He.ga K "Table") dx [("own_columns", .int c), ("own_rows", .ref q), ("own_places", .ref d)]) ∧ (∃ vs, H q = some (.tup vs) ∧ All2 (RwV H) vs rows) ∧ ∃ kvs, H d = some (.dT kvs) ∧ kvs.map (·.1) = rows.map fun r => r.map Sum.inr
theorem TabIs.same {K : PySem.W.Frag} {H H' : Hp} {a : Addr} {c : Nat} {rows : List (List Str)} (h : TabIs K H a c rows) (s : Same H H') : TabIs K H' a c rows := by
  obtain ⟨dx, q, d, h1, ⟨vs, h2, h3⟩, kvs, h4, h5⟩ := h
  exact ⟨dx, q, d, s _ _ h1, ⟨vs, s _ _ h2, rows_sl h3 (Sl.of s)⟩, kvs, s _ _ h4, h5⟩
/-- what Table(c, *rows) does at the new x -/
def spTabI (K : PySem.W.Frag) : Sp := fun vs H Q _ => ∃ (x dx p : Addr) (c : Nat) (us : List V) (raw : List (List Str)), vs = [.ref x, .int c, .ref p] ∧ c ≤ 3 ∧ H x = some (.ins (He.ga K "Table") dx []) ∧ H p = some (.tup us) ∧ us.length < sizeLine ∧ All2 (RwV H) us raw ∧ (∀ r ∈ raw, NRow c r) ∧
  ∀ H', Bt x H H' → TabIs K H' x c (tabRows raw) → Q .non H'
theorem onceL_map {α β : Type} [DecidableEq α] [DecidableEq β] (f : α → β) (hf : ∀ a b, f a = f b → a = b) (l : List α) : onceL (l.map f) = (onceL l).map f := by
  have h : ∀ (zs d : List α), (zs.map f).foldl (fun d k => if k ∈ d then d else d ++ [k]) (d.map f) = (zs.foldl (fun d k => if k ∈ d then d else d ++ [k]) d).map f := by
    intro zs
    induction zs with
    | nil => intro d; rfl
    | cons z zs ih =>
      intro d
      rw [List.map_cons, List.foldl_cons, List.foldl_cons]
      by_cases c : z ∈ d
      · rw [if_pos c, if_pos (List.mem_map_of_mem c)]
        exact ih d
      · rw [if_neg c, if_neg (fun h => by
          obtain ⟨y, hy, e⟩ := List.mem_map.mp h
          rw [hf _ _ e] at hy
          exact c hy)]
        have e := ih (d ++ [z])
        rw [List.map_append] at e
        exact e
  exact h l []
theorem map_inr_inj : ∀ a b : List Str, a.map (Sum.inr (α := Int)) = b.map Sum.inr → a = b
  | [], [], _ => rfl
  | [], _ :: _, e => nomatch e
  | _ :: _, [], e => nomatch e
  | x :: a, y :: b, e => by
    rw [List.map_cons, List.map_cons] at e
    injection e with e1 e2
    injection e1 with e1
    rw [e1, map_inr_inj a b e2]
section
variable {P : Program} {w : World} {K : PySem.W.Frag} {mg : Str → Option Value} {base : Heap}
set_option hygiene false in
local macro_rules | `(tactic| tbr_iter "var") => `(tactic| first | ((with_reducible show W _ (.Name "self" _) _ _ _); refine w_var 0 rfl (by tbr_iter "vis") rfl ?_) | ((with_reducible show W _ (.Name "columns" _) _ _ _); refine w_var 1 rfl (by tbr_iter "vis") rfl ?_) | ((with_reducible show W _ (.Name "rows" _) _ _ _); refine w_var 2 rfl (by tbr_iter "vis") rfl ?_) | ((with_reducible show W _ (.Name "row" _) _ _ _); refine w_var 3 rfl (by tbr_iter "vis") rfl ?_) | ((with_reducible show W _ (.Name "place" _) _ _ _); refine w_var 4 rfl (by tbr_iter "vis") rfl ?_))
set_option hygiene false in
local macro_rules | `(tactic| tbr_iter "set") => `(tactic| first | ((with_reducible show WB _ (.Assign [.Name "self" _] _ _ :: _) _ _ _); refine wb_cons (ws_set 0 ?_ rfl nd)) | ((with_reducible show WB _ (.Assign [.Name "columns" _] _ _ :: _) _ _ _); refine wb_cons (ws_set 1 ?_ rfl nd)) | ((with_reducible show WB _ (.Assign [.Name "rows" _] _ _ :: _) _ _ _); refine wb_cons (ws_set 2 ?_ rfl nd)) | ((with_reducible show WB _ (.Assign [.Name "row" _] _ _ :: _) _ _ _); refine wb_cons (ws_set 3 ?_ rfl nd)) | ((with_reducible show WB _ (.Assign [.Name "place" _] _ _ :: _) _ _ _); refine wb_cons (ws_set 4 ?_ rfl nd)))
theorem ok_tab_init (T : Txt K mg) : FnP P w K mg base 5 (He.ma K (He.ga K "Table") "__init__") (fun vs H Q E => ∃ a b rest, vs = a :: b :: rest ∧ rest.length ≤ sizeLine ∧ ∀ p, H p = none → spTabI K [a, b, .ref p] (upd H p (.tup rest)) Q E) := by
  refine meth_okStar (p1 := "self") (p2 := "columns") (pv := "rows") T.f_Table___init__ sc_Table___init__ (fun _ _ _ _ _ _ _ _ => rfl) (by
    intro kV doc pm an cdv ct a b r rs
    unfold bindArgs
    dsimp only
    generalize decide (List.length (a :: b :: r :: rs) > List.length _) = g
    cases g <;> rfl) fun cdv A outer s H vs Q E hr h => ?_
  obtain ⟨x, dx, p, c, us, raw, rfl, hc, hx, hp, hl, hrs, hn, k⟩ := h
  have nd := sc_Table___init__.nd
  have kc := T.kc_Table
  have px : ∀ xs, H x ≠ some (.tup xs) := fun xs z => by rw [hx] at z; cases z
  refine wb_cons (ws_expr (w_call (ok_require_columns T) (hr.mono (by decide)) passL ?_))
  tbr_iter "go"
  refine ⟨c, rfl, by omega, by omega, ?_⟩
  have hrl := hrs.len
  refine wb_cons (ws_if (wt_not (wt_val (w_allLc 3 (fun _ => true) T.z_all rfl nd (by tbr_iter "blk") rfl (fun _ _ _ _ _ => ⟨Or.inl rfl, Or.inr rfl⟩) (wi_val ?_)))))
  tbr_iter "go"
  refine itv_tup (SqT.of hp) ⟨_, seqIt_tup (SqT.of hp), hl, fun v hv H2 s2 _ _ _ _ _ => ?_, fun H2 s2 => ⟨_, rfl, ?_⟩⟩
  · obtain ⟨i, hi⟩ := List.mem_iff_getElem?.mp hv
    obtain ⟨r, h1, b, rfl, hb⟩ := hrs.at hi
    have hr1 := hn r (List.mem_of_getElem? h1)
    refine w_and (w_call (ok_is_row T) (hr.mono (by decide)) passL ?_)
    tbr_iter "go"
    refine ⟨_, some (rowD r), rfl, .dat (.tup (SqT.of (s2 _ _ hb)) (dpa_strs r)) (row_ok hr1 (by omega)), fun H3 s3 => ⟨_, rfl, iteT2 (row_is hr1) ?_⟩⟩
    tbr_iter "go"
    refine kv_len_seq (Or.inr (SqT.of (s3 _ _ (s2 _ _ hb)))) ?_
    tbr_iter "go"
    refine ⟨s3, ?_⟩
    rw [List.length_map, hr1.1]
    simp
  have eall : us.all (fun _ => true) = true := by simp
  rw [eall]
  refine iteF (wb_nil ?_)
  have hx2 := s2 _ _ hx
  have hp2 := s2 _ _ hp
  have hrs2 := rows_sl hrs (Sl.of s2)
  refine wb_cons (ws_fld kc.c T.a_Table_own_columns ?_)
  tbr_iter "go"
  refine ⟨x, dx, [], rfl, hx2, by decide, ?_⟩
  show WB _ _ _ _ (upd H2 x (.ins (He.ga K "Table") dx [("own_columns", .int c)]))
  have pxx : p ≠ x := fun z => px us (z ▸ hp)
  have b3 : Bt x H2 (upd H2 x (.ins (He.ga K "Table") dx [("own_columns", .int c)])) := (Bt.refl x H2).upd
  have px2 : ∀ xs, H2 x ≠ some (.tup xs) := fun xs z => by rw [hx2] at z; cases z
  have hx3 : (upd H2 x (.ins (He.ga K "Table") dx [("own_columns", .int c)])) x = _ := upd_same
  have hp3 := b3 p _ pxx hp2
  have hrs3 : All2 (RwV (upd H2 x (.ins (He.ga K "Table") dx [("own_columns", .int c)]))) us raw := hrs2.imp fun _ _ z => z.bt b3 px2
  generalize upd H2 x (.ins (He.ga K "Table") dx [("own_columns", .int c)]) = H3 at b3 hx3 hp3 hrs3 ⊢
  refine wb_cons (ws_fld kc.c T.a_Table_own_rows (w_callTy T.z_tuple (wa_cons (w_callB T.z_sorted (wa_cons (w_dcN famT [("row", 3)] (gName 3) (room64 hr) mono_name (fun _ _ _ _ _ => pg_name nd rfl (Or.inl rfl) (Or.inr rfl)) rfl nd (by tbr_iter "blk") (wi_val ?_)))))))
  tbr_iter "go"
  refine itv_tup (SqT.of hp3) ⟨_, _, itN_seq (seqIt_tup (SqT.of hp3)), raw.map fun r => (r.map Sum.inr, V.bl true), by rw [List.length_map, hrl], hl, fun i v H4 k z hk s4 hv => ?_, fun D H4 s4 n4 hD => ?_⟩
  · rw [List.getElem?_map] at hk
    obtain ⟨r, h1, h2⟩ := Option.map_eq_some_iff.mp hk
    cases h2
    obtain ⟨r', h3, b, rfl, hb⟩ := hrs3.at hv
    rw [h1] at h3
    cases h3
    refine ⟨rfl, fun _ _ _ _ _ => ?_⟩
    tbr_iter "go"
    refine ⟨Same.refl _, ⟨b, rfl, ?_⟩, fun _ _ _ _ _ => ?_⟩
    · rw [s4 _ _ hb, List.map_map] <;> rfl
    · tbr_iter "go"
      exact ⟨Same.refl _, rfl⟩
  have hkeys : (putsL (raw.map fun r => (r.map (Sum.inr (α := Int)), V.bl true))).map (·.1) = (onceL raw).map fun r => r.map Sum.inr := by
    rw [putsL_keys, List.map_map]
    exact onceL_map (fun r => r.map (Sum.inr (α := Int))) map_inr_inj raw
  refine wa_nil ⟨_, call_sortedT rfl (room64 hr), D, _, onceL raw, c, rfl, hD, hkeys, fun r h => (hn r (((onceL_mem raw).2 r).mp h)).1, fun bs p5 n5 hbs => wa_nil (kv_tupleL (SqL.of upd_same) fun q H6 s6 n6 hq => ?_)⟩
  have s46 : Same H4 H6 := (same_new n5).trans s6
  have hbs6 : All2 (RwV H6) (bs.map V.ref) (tabRows raw) := by
    have key : ∀ {bs : List Addr} {rows : List (List Str)}, All2 (fun b r => H4 b = some (.tup (r.map V.str))) bs rows → All2 (RwV H6) (bs.map V.ref) rows := by
      intro bs rows h
      induction h with
      | nil => exact .nil
      | cons h t ih => exact .cons ⟨_, rfl, s46 _ _ h⟩ ih
    exact key hbs
  have s36 := s4.trans s46
  have hx6 := s36 _ _ hx3
  tbr_iter "go"
  refine ⟨x, dx, _, rfl, hx6, show 1 < 1000 by decide, ?_⟩
  show WB _ _ _ _ (upd H6 x (.ins (He.ga K "Table") dx [("own_columns", .int c), ("own_rows", .ref q)]))
  have px6 : ∀ xs, H6 x ≠ some (.tup xs) := fun xs z => by rw [hx6] at z; cases z
  have qx : q ≠ x := fun z => px6 _ (z ▸ hq)
  have b7 : Bt x H6 (upd H6 x (.ins (He.ga K "Table") dx [("own_columns", .int c), ("own_rows", .ref q)])) := (Bt.refl x H6).upd
  have hx7 : (upd H6 x (.ins (He.ga K "Table") dx [("own_columns", .int c), ("own_rows", .ref q)])) x = _ := upd_same
  have hq7 := b7 q _ qx hq
  have hbs7 : All2 (RwV (upd H6 x (.ins (He.ga K "Table") dx [("own_columns", .int c), ("own_rows", .ref q)]))) (bs.map V.ref) (tabRows raw) := hbs6.imp fun _ _ z => z.bt b7 px6
  have b37 : Bt x H2 (upd H6 x (.ins (He.ga K "Table") dx [("own_columns", .int c), ("own_rows", .ref q)])) := b3.trans ((Bt.of s36).trans b7)
  generalize upd H6 x (.ins (He.ga K "Table") dx [("own_columns", .int c), ("own_rows", .ref q)]) = H7 at b7 hx7 hq7 hbs7 b37 ⊢
  have hbl : bs.length = (tabRows raw).length := by
    have := hbs7.len
    rwa [List.length_map] at this
  have hrl2 : (tabRows raw).length < sizeLine := Nat.lt_of_le_of_lt (tabRows_len raw) (by omega)
  refine wb_cons (ws_fld kc.c T.a_Table_own_places (w_dcN famT [("row", 3), ("place", 4)] (gPair K 4 3) (room64 hr) mono_pair (fun _ _ _ _ _ => pg_tup rfl (pgs_cons (pg_name nd rfl (Or.inl rfl) (Or.inr rfl)) (pgs_cons (pg_name nd rfl (Or.inl rfl) (Or.inr rfl)) pgs_nil))) rfl nd (by tbr_iter "blk") (WI.of (pi_enumT rfl T.z_enumerate WA.pa) ?_)))
  refine wa_cons (w_fld kc.c T.a_Table_own_rows ?_)
  tbr_iter "go"
  refine ⟨x, dx, _, _, rfl, hx7, rfl, ?_⟩
  refine wa_nil ⟨q, bs.map V.ref, rfl, SqT.of hq7, _, _, itN_enumT (SqT.of hq7), (tabRows raw).zipIdx.map fun p => (p.1.map Sum.inr, V.int (p.2 : Nat)), by simp [hbl], by rw [List.length_map, hbl]; exact hrl2, fun i v H8 k z hk s8 hv => ?_, fun D H8 s8 n8 hD => ?_⟩
  · obtain ⟨t, y1, y2, rfl, e1, e2, ht⟩ := hv
    cases e1
    obtain ⟨r, h3, b, rfl, hb⟩ := hbs7.at e2
    rw [List.getElem?_map, List.getElem?_zipIdx, h3] at hk
    cases hk
    refine gPair_of (SqT.of ht) ⟨rfl, fun _ _ _ _ _ => ?_⟩
    tbr_iter "go"
    refine ⟨Same.refl _, ⟨b, rfl, ?_⟩, fun _ _ _ _ _ => ?_⟩
    · rw [s8 _ _ hb, List.map_map] <;> rfl
    · tbr_iter "go"
      refine ⟨Same.refl _, ?_⟩
      simp
  have hx8 := s8 _ _ hx7
  tbr_iter "go"
  refine ⟨x, dx, _, rfl, hx8, show 2 < 1000 by decide, ?_⟩
  show WB _ _ _ _ (upd H8 x (.ins (He.ga K "Table") dx [("own_columns", .int c), ("own_rows", .ref q), ("own_places", .ref D)]))
  have px8 : ∀ xs, H8 x ≠ some (.tup xs) := fun xs z => by rw [hx8] at z; cases z
  have b9 : Bt x H8 (upd H8 x (.ins (He.ga K "Table") dx [("own_columns", .int c), ("own_rows", .ref q), ("own_places", .ref D)])) := (Bt.refl x H8).upd
  have dne : D ≠ x := fun z => by
    rw [z, hx8] at hD
    cases hD
  refine wb_nil (k _ ((Bt.of s2).trans (b37.trans ((Bt.of s8).trans b9))) ⟨dx, q, D, upd_same, ⟨_, b9 _ _ qx (s8 _ _ hq7), hbs7.imp fun _ _ z => (z.same s8).bt b9 px8⟩, _, b9 _ _ dne hD, ?_⟩)
  have e1 : ((tabRows raw).zipIdx.map fun p => (p.1.map (Sum.inr (α := Int)), V.int (p.2 : Nat))).map (·.1) = (tabRows raw).map fun r => r.map Sum.inr := by
    rw [List.map_map]
    show List.map ((fun r : List Str => r.map (Sum.inr (α := Int))) ∘ Prod.fst) _ = _
    rw [← List.map_map, List.zipIdx_map_fst]
  rw [putsL_keys, e1]
  exact (onceL_map (fun r => r.map (Sum.inr (α := Int))) map_inr_inj (tabRows raw)).trans (by rw [onceL_id (tabRows_nodup raw)])
end
end Ax
end
section
set_option maxHeartbeats 4000000
open PySem PySem.Spec PyProof.Rows L2 Ax
set_option hygiene false in
local macro_rules | `(tactic| tbr_iter "boot") => `(tactic| with_reducible first | exact Ax.b_len | exact Ax.b_all | exact Ax.b_any | exact Ax.b_sorted | exact Ax.b_isinstance | exact Ax.b_abs | exact Ax.b_max | exact Ax.b_min | exact Ax.b_sum | exact Ax.b_repr | exact Ax.b_iter | exact Ax.b_ord | exact Ax.b_chr | exact Ax.b_str | exact Ax.b_int | exact Ax.b_bool | exact Ax.b_tuple | exact Ax.b_list | exact Ax.b_dict | exact Ax.b_set | exact Ax.b_range | exact Ax.b_enumerate | exact Ax.b_zip)
set_option hygiene false in
local macro_rules | `(tactic| tbr_iter "vis") => `(tactic| first | exact Or.inl rfl | exact Or.inr (Or.inl rfl) | exact Or.inr (Or.inr rfl))
set_option hygiene false in
local macro_rules | `(tactic| tbr_iter "w") => `(tactic| first
  | refine wb_cons ?_
  | refine wb_nil ?_
  | refine ws_ret ?_
  | refine ws_if ?_
  | refine ws_sub ?_
  | refine wa_cons ?_
  | refine wa_nil ?_
  | refine w_int ?_
  | refine w_str ?_
  | refine w_bl ?_
  | refine w_non ?_
  | tbr_iter "var"
  | refine w_bin ?_
  | refine w_cmp ?_
  | refine w_chain ?_
  | refine w_and ?_
  | refine w_or ?_
  | refine w_one ?_
  | refine w_not ?_
  | refine w_ix ?_
  | refine w_ifExp ?_
  | refine w_tup ?_
  | refine w_lst ?_
  | refine wt_not ?_
  | refine wt_bool ?_
  | refine ww_and ?_
  | refine ww_and1 ?_
  | refine ww_or ?_
  | refine ww_or1 ?_
  | refine wt_cmp ?_
  | refine wt_val ?_
  | tbr_iter "call"
  | (refine w_glob (by tbr_iter "mg") ?_)
  | (refine w_callB (by tbr_iter "z") ?_)
  | (refine w_callTy (by tbr_iter "z") ?_)
  | (refine w_bltT (by tbr_iter "z") ?_))
set_option hygiene false in
local macro_rules | `(tactic| tbr_iter "blk") => `(tactic| first | exact blkOk_by (by dsimp only [cxOf, envOfC]; decide +kernel))
set_option hygiene false in
local macro_rules | `(tactic| tbr_iter "iff") => `(tactic| first
  | refine iteT ?_
  | refine iteF ?_
  | refine w_if2 (fun _ => ?_) (fun _ => ?_))
set_option hygiene false in
local macro_rules | `(tactic| tbr_iter "sc") => `(tactic| first | omega | decide)
set_option hygiene false in
local macro_rules | `(tactic| tbr_iter "at") => `(tactic| first | exact atI_0 | exact atI_1 | exact atI_2)
set_option hygiene false in
local macro_rules | `(tactic| tbr_iter "sql") => `(tactic| ((try dsimp only [L2.cxOf, L2.Cx.blk]); with_reducible first | assumption | exact SqL.of (by assumption)))
set_option hygiene false in
local macro_rules | `(tactic| tbr_iter "sqt") => `(tactic| ((try dsimp only [L2.cxOf, L2.Cx.blk]); with_reducible first | assumption | exact SqT.of (by assumption)))
set_option hygiene false in
local macro_rules | `(tactic| tbr_iter "v") => `(tactic| first
  | refine bv_add ?_
  | refine bv_sub ?_
  | ((with_reducible show BinV _ .Mult _ _ _ _); refine bv_mul (Or.inl ⟨by tbr_iter "sc", by tbr_iter "sc"⟩) ?_)
  | ((with_reducible show BinV _ .Mult _ _ _ _); refine bv_mul (Or.inr ⟨by tbr_iter "sc", by tbr_iter "sc"⟩) ?_)
  | ((with_reducible show BinV _ .Mod _ _ _ _); refine bv_mod (by tbr_iter "sc") ?_)
  | ((with_reducible show BinV _ .FloorDiv _ _ _ _); refine bv_fdiv ⟨by tbr_iter "sc", by tbr_iter "sc"⟩ ?_)
  | ((with_reducible show BinV _ .Pow _ _ _ _); refine bv_pow ⟨by decide, by decide +kernel⟩ ?_)
  | refine cv_lt ?_
  | refine cv_le ?_
  | refine cv_gt ?_
  | refine cv_ge ?_
  | ((with_reducible show CmpV _ .Eq _ _ _ _); refine cv_eq rfl ?_)
  | ((with_reducible show CmpV _ .NotEq _ _ _ _); refine cv_ne rfl ?_)
  | refine iv_list (by tbr_iter "sql") (by tbr_iter "at") ?_
  | refine iv_tup (by tbr_iter "sqt") (by tbr_iter "at") ?_
  | refine kv_len_seq (Or.inl (by tbr_iter "sql")) ?_
  | refine kv_len_seq (Or.inr (by tbr_iter "sqt")) ?_
  | refine kv_int ?_
  | refine kv_intB ?_
  | refine kv_abs ?_
  | refine kv_max2 rfl ?_
  | refine kv_min2 rfl ?_)
set_option hygiene false in
local macro_rules | `(tactic| tbr_iter "b") => `(tactic| first
  | refine ⟨_, rfl, iteT ?_⟩
  | refine ⟨_, rfl, iteF ?_⟩
  | refine iteT ?_
  | refine iteF ?_)
set_option hygiene false in
local macro_rules | `(tactic| tbr_iter "go") => `(tactic| repeat (first | tbr_iter "w" | tbr_iter "v" | tbr_iter "b"))
set_option hygiene false in
local macro_rules | `(tactic| tbr_iter "nof") => `(tactic| (intro d hd; cases d <;> first | rfl | exact absurd rfl (hd _)))
set_option hygiene false in
local macro_rules | `(tactic| tbr_iter "e1") => `(tactic| first | ((with_reducible show W _ _ _ _ _); tbr_iter "w") | ((with_reducible show WA _ _ _ _ _); tbr_iter "w") | ((with_reducible show WT _ _ _ _ _); tbr_iter "w") | ((with_reducible show WW _ _ _ _ _); tbr_iter "w") | tbr_iter "v")
set_option hygiene false in
local macro_rules | `(tactic| tbr_iter "ex") => `(tactic| repeat (tbr_iter "e1"))
set_option hygiene false in
local macro_rules | `(tactic| tbr_iter "z") => `(tactic| ((try dsimp only [L2.cxOf]); with_reducible first | exact T.z_IndexError | exact T.z_ValueError | exact T.z_abs | exact T.z_all | exact T.z_bool | exact T.z_classmethod | exact T.z_enumerate | exact T.z_int | exact T.z_isinstance | exact T.z_iter | exact T.z_len | exact T.z_list | exact T.z_max | exact T.z_min | exact T.z_property | exact T.z_range | exact T.z_repr | exact T.z_set | exact T.z_sorted | exact T.z_str | exact T.z_tuple))
set_option hygiene false in
local macro_rules | `(tactic| tbr_iter "mg") => `(tactic| ((try dsimp only [L2.cxOf]); with_reducible first | exact T.c_ALPHABET | exact T.c_MAX_LETTERS | exact T.c_MAX_COLUMNS))
namespace Ax
section
variable {P : Program} {w : World} {K : PySem.W.Frag} {mg : Str → Option Value} {base : Heap}
theorem tabI_make {H1 : Hp} {c : Nat} {us : List V} {raw : List (List Str)} {Q : VK} {E : XK} (hc : c ≤ 3) (hl : us.length < sizeLine) (hrs : All2 (RwV H1) us raw) (hn : ∀ r ∈ raw, NRow c r) (k : ∀ x H2, Same H1 H2 → H1 x = none → TabIs K H2 x c (tabRows raw) → Q (.ref x) H2) :
    ∀ x dx, H1 x = none → H1 dx = none → dx ≠ x → ∃ a b rest, (V.ref x :: V.int c :: us) = a :: b :: rest ∧ rest.length ≤ sizeLine ∧ ∀ p, (upd (upd H1 dx (.own x)) x (.ins (He.ga K "Table") dx [])) p = none →
      spTabI K [a, b, .ref p] (upd (upd (upd H1 dx (.own x)) x (.ins (He.ga K "Table") dx [])) p (.tup rest)) (fun v H2 => v = .non ∧ Q (.ref x) H2) E := by
  intro x dx hx hdx hne
  refine ⟨_, _, us, rfl, Nat.le_of_lt hl, fun p hp => ?_⟩
  have px : p ≠ x := fun z => by rw [z, upd_same] at hp; cases hp
  have pd : p ≠ dx := fun z => by rw [z, upd_ne hne, upd_same] at hp; cases hp
  have hp1 : H1 p = none := by rw [upd_ne px, upd_ne pd] at hp; exact hp
  have s1 : Same H1 (upd (upd (upd H1 dx (.own x)) x (.ins (He.ga K "Table") dx [])) p (.tup us)) := fun y o hy => by
    rw [upd_ne (ne_of_none hy hp1), upd_ne (ne_of_none hy hx), upd_ne (ne_of_none hy hdx)]
    exact hy
  refine ⟨x, dx, p, c, us, raw, rfl, hc, by rw [upd_ne px.symm, upd_same], upd_same, hl, rows_sl hrs (Sl.of s1), hn, fun H' bt tab => ⟨rfl, k x H' (fun y o hy => ?_) hx tab⟩⟩
  exact bt y o (ne_of_none hy hx) (s1 y o hy)
/-- Table.of(c, rows) -/
def spTabOf (K : PySem.W.Frag) : Sp := fun vs H Q _ => ∃ (p : Addr) (c : Nat) (us : List V) (raw : List (List Str)), vs = [.ref (He.ga K "Table"), .int c, .ref p] ∧ c ≤ 3 ∧ SqT K H p us ∧ us.length < sizeLine ∧ All2 (RwV H) us raw ∧ (∀ r ∈ raw, NRow c r) ∧
  ∀ x H2, Same H H2 → H x = none → TabIs K H2 x c (tabRows raw) → Q (.ref x) H2
set_option hygiene false in
local macro_rules | `(tactic| tbr_iter "var") => `(tactic| first | ((with_reducible show W _ (.Name "cls" _) _ _ _); refine w_var 0 rfl (by tbr_iter "vis") rfl ?_) | ((with_reducible show W _ (.Name "columns" _) _ _ _); refine w_var 1 rfl (by tbr_iter "vis") rfl ?_) | ((with_reducible show W _ (.Name "rows" _) _ _ _); refine w_var 2 rfl (by tbr_iter "vis") rfl ?_))
set_option hygiene false in
local macro_rules | `(tactic| tbr_iter "set") => `(tactic| first | ((with_reducible show WB _ (.Assign [.Name "cls" _] _ _ :: _) _ _ _); refine wb_cons (ws_set 0 ?_ rfl nd)) | ((with_reducible show WB _ (.Assign [.Name "columns" _] _ _ :: _) _ _ _); refine wb_cons (ws_set 1 ?_ rfl nd)) | ((with_reducible show WB _ (.Assign [.Name "rows" _] _ _ :: _) _ _ _); refine wb_cons (ws_set 2 ?_ rfl nd)))
theorem ok_tab_of (T : Txt K mg) : FnP P w K mg base 7 (He5.wf K (He.ga K "Table") "classmethod" "of") (spTabOf K) := by
  refine meth_okR T.f_Table_of sc_Table_of (fun _ _ _ _ _ _ us hl => match us, hl with | [_, _, _], _ => rfl) (fun vs H Q E h => ?_) fun cdv A outer s H vs Q E hr h => ?_
  · obtain ⟨p, c, us, raw, rfl, _⟩ := h; rfl
  obtain ⟨p, c, us, raw, rfl, hc, hp, hl, hrs, hn, k⟩ := h
  have nd := sc_Table_of.nd
  refine wb_cons (ws_expr (w_call (ok_require_columns T) (hr.mono (by decide)) passL ?_))
  tbr_iter "go"
  refine ⟨c, rfl, by omega, by omega, ?_⟩
  tbr_iter "go"
  refine kv_isiB (tyX_tup hp) (k := true) (by decide +kernel) ?_
  refine ⟨_, rfl, iteF (wb_nil ?_)⟩
  refine wb_cons (ws_ret (w_makeS T.k_Table (ok_tab_init T) hr passL ?_))
  tbr_iter "go"
  refine ⟨rfl, ?_⟩
  tbr_iter "go"
  refine wa_star ?_
  tbr_iter "go"
  refine ⟨p, us, rfl, .inl hp, ?_⟩
  tbr_iter "go"
  rw [List.append_nil]
  exact tabI_make hc hl hrs hn k
/-- t.domain -/
def spDomain (K : PySem.W.Frag) : Sp := fun vs H Q _ => ∃ (a : Addr) (c : Nat) (rows : List (List Str)), vs = [.ref a] ∧ TabIs K H a c rows ∧ rows.flatten.length < sizeLine ∧ (onceL rows.flatten).length < 64 ∧
  ∀ ys q H2, ys.Perm (onceL rows.flatten) → sortedS ys = true → Same H H2 → H2 q = some (.tup (ys.map V.str)) → Q (.ref q) H2
set_option hygiene false in
local macro_rules | `(tactic| tbr_iter "var") => `(tactic| first | ((with_reducible show W _ (.Name "self" _) _ _ _); refine w_var 0 rfl (by tbr_iter "vis") rfl ?_) | ((with_reducible show W _ (.Name "row" _) _ _ _); refine w_var 1 rfl (by tbr_iter "vis") rfl ?_) | ((with_reducible show W _ (.Name "name" _) _ _ _); refine w_var 2 rfl (by tbr_iter "vis") rfl ?_))
set_option hygiene false in
local macro_rules | `(tactic| tbr_iter "set") => `(tactic| first | ((with_reducible show WB _ (.Assign [.Name "self" _] _ _ :: _) _ _ _); refine wb_cons (ws_set 0 ?_ rfl nd)) | ((with_reducible show WB _ (.Assign [.Name "row" _] _ _ :: _) _ _ _); refine wb_cons (ws_set 1 ?_ rfl nd)) | ((with_reducible show WB _ (.Assign [.Name "name" _] _ _ :: _) _ _ _); refine wb_cons (ws_set 2 ?_ rfl nd)))
theorem ok_domain (T : Txt K mg) : ∃ fd, FnOk P w K mg base (L2.CX P w) 1 (He5.wf K (He.ga K "Table") "property" "domain") fd ["self"] (spDomain K) ∧ Binds K fd ["self"] [] := by
  obtain ⟨fd, F⟩ := T.f_Table_domain
  refine ⟨fd, F.ok sc_Table_domain (fun vs H Q E h => ?_) fun cdv A outer s H vs Q E hr h => ⟨_, WB.pss, ?_⟩, F.bindsN fun _ _ _ _ _ _ us hl => match us, hl with | [_], _ => rfl⟩
  · obtain ⟨a, c, rows, rfl, _⟩ := h; rfl
  obtain ⟨a, c, rows, rfl, ht, hf, ho, k⟩ := h
  have nd := sc_Table_domain.nd
  obtain ⟨dx, q, d, h1, ⟨vs, h2, h3⟩, kvs, h4, h5⟩ := ht
  have kc := T.kc_Table
  have hvl := h3.len
  refine wb_cons (ws_ret (w_callTy T.z_tuple (wa_cons (w_callB T.z_sorted (wa_cons (w_dc2N famK [("row", 1), ("name", 2)] (gName 1) (gName 2) (room64 hr) mono_name mono_name (fun _ _ _ _ _ => pg_name nd rfl (Or.inl rfl) (Or.inr rfl)) (fun _ _ _ _ _ => pg_name nd rfl (Or.inl rfl) (Or.inr rfl)) rfl nd (by tbr_iter "blk") (wi_val (w_fld kc.c T.a_Table_own_rows ?_))))))))
  tbr_iter "go"
  refine ⟨a, dx, _, _, rfl, h1, rfl, ?_⟩
  refine itv_tup (SqT.of h2) ⟨_, _, itN_seq (seqIt_tup (SqT.of h2)), rows.map fun r => r.map fun z => (Sum.inr z, V.bl true), by rw [List.length_map, hvl], ?_, fun D i v H2 ps nD hk s2 hv => ?_, fun D H2 s2 n2 hD => ?_⟩
  · have e : (rows.map fun r => r.map fun z => ((Sum.inr z : Key), V.bl true)).flatten = rows.flatten.map fun z => (Sum.inr z, V.bl true) := by rw [List.map_flatten]
    rw [e, List.length_map]
    exact hf
  · rw [List.getElem?_map] at hk
    obtain ⟨r, e1, e2⟩ := Option.map_eq_some_iff.mp hk
    subst e2
    obtain ⟨r', e3, b, rfl, hb⟩ := h3.at hv
    rw [e1] at e3
    cases e3
    refine ⟨rfl, Same.refl _, fun _ _ _ _ _ => wi_val ?_⟩
    tbr_iter "go"
    have hbD : b ≠ D := ne_of_none hb nD
    refine itv_tup (SqT.of (s2 _ _ hb)) ⟨Same.refl _, YNth (r.map V.str), by rw [List.length_map, ← List.length_map (f := V.str)]; exact itD_tup (SqT.of (s2 _ _ hb)) hbD, fun j y H5 k z hk2 bt hy => ?_⟩
    rw [List.getElem?_map] at hk2
    obtain ⟨t, e4, e5⟩ := Option.map_eq_some_iff.mp hk2
    cases e5
    have hy : (r.map V.str)[j]? = some y := hy
    rw [List.getElem?_map, e4] at hy
    cases hy
    refine ⟨⟨rfl, keep_set rfl⟩, fun _ _ _ _ _ => ?_⟩
    · tbr_iter "go"
      refine ⟨Same.refl _, rfl, fun _ _ _ _ _ => ?_⟩
      tbr_iter "go"
      exact ⟨Same.refl _, rfl⟩
  · have e : (rows.map fun r => r.map fun z => ((Sum.inr z : Key), V.bl true)).flatten = rows.flatten.map fun z => (Sum.inr z, V.bl true) := by rw [List.map_flatten]
    rw [e] at hD
    have hkeys : (putsL (rows.flatten.map fun z => ((Sum.inr z : Key), V.bl true))).map (·.1) = (onceL rows.flatten).map Sum.inr := by
      rw [putsL_keys, List.map_map]
      exact onceL_map (fun z => (Sum.inr z : Key)) (fun a b e => Sum.inr.inj e) rows.flatten
    refine wa_nil (kv_sortedD rfl hD hkeys ho fun ys q1 H3 p3 so3 s3 n3 h3 => wa_nil (kv_tupleL (SqL.of h3) fun q2 H4 s4 n4 h4 => ?_))
    exact k ys q2 H4 p3 so3 (s2.trans (s3.trans s4)) h4
end
end Ax
end
section
set_option maxHeartbeats 4000000
open PySem PySem.Spec PyProof.Rows L2 Ax
set_option hygiene false in
local macro_rules | `(tactic| tbr_iter "boot") => `(tactic| with_reducible first | exact Ax.b_len | exact Ax.b_all | exact Ax.b_any | exact Ax.b_sorted | exact Ax.b_isinstance | exact Ax.b_abs | exact Ax.b_max | exact Ax.b_min | exact Ax.b_sum | exact Ax.b_repr | exact Ax.b_iter | exact Ax.b_ord | exact Ax.b_chr | exact Ax.b_str | exact Ax.b_int | exact Ax.b_bool | exact Ax.b_tuple | exact Ax.b_list | exact Ax.b_dict | exact Ax.b_set | exact Ax.b_range | exact Ax.b_enumerate | exact Ax.b_zip)
set_option hygiene false in
local macro_rules | `(tactic| tbr_iter "vis") => `(tactic| first | exact Or.inl rfl | exact Or.inr (Or.inl rfl) | exact Or.inr (Or.inr rfl))
set_option hygiene false in
local macro_rules | `(tactic| tbr_iter "w") => `(tactic| first
  | refine wb_cons ?_
  | refine wb_nil ?_
  | refine ws_ret ?_
  | refine ws_if ?_
  | refine ws_sub ?_
  | refine wa_cons ?_
  | refine wa_nil ?_
  | refine w_int ?_
  | refine w_str ?_
  | refine w_bl ?_
  | refine w_non ?_
  | tbr_iter "var"
  | refine w_bin ?_
  | refine w_cmp ?_
  | refine w_chain ?_
  | refine w_and ?_
  | refine w_or ?_
  | refine w_one ?_
  | refine w_not ?_
  | refine w_ix ?_
  | refine w_ifExp ?_
  | refine w_tup ?_
  | refine w_lst ?_
  | refine wt_not ?_
  | refine wt_bool ?_
  | refine ww_and ?_
  | refine ww_and1 ?_
  | refine ww_or ?_
  | refine ww_or1 ?_
  | refine wt_cmp ?_
  | refine wt_val ?_
  | tbr_iter "call"
  | (refine w_glob (by tbr_iter "mg") ?_)
  | (refine w_callB (by tbr_iter "z") ?_)
  | (refine w_callTy (by tbr_iter "z") ?_)
  | (refine w_bltT (by tbr_iter "z") ?_))
set_option hygiene false in
local macro_rules | `(tactic| tbr_iter "blk") => `(tactic| first | exact blkOk_by (by dsimp only [cxOf, envOfC]; decide +kernel))
set_option hygiene false in
local macro_rules | `(tactic| tbr_iter "iff") => `(tactic| first
  | refine iteT ?_
  | refine iteF ?_
  | refine w_if2 (fun _ => ?_) (fun _ => ?_))
set_option hygiene false in
local macro_rules | `(tactic| tbr_iter "sc") => `(tactic| first | omega | decide)
set_option hygiene false in
local macro_rules | `(tactic| tbr_iter "at") => `(tactic| first | exact atI_0 | exact atI_1 | exact atI_2)
set_option hygiene false in
local macro_rules | `(tactic| tbr_iter "sql") => `(tactic| ((try dsimp only [L2.cxOf, L2.Cx.blk]); with_reducible first | assumption | exact SqL.of (by assumption)))
set_option hygiene false in
local macro_rules | `(tactic| tbr_iter "sqt") => `(tactic| ((try dsimp only [L2.cxOf, L2.Cx.blk]); with_reducible first | assumption | exact SqT.of (by assumption)))
set_option hygiene false in
local macro_rules | `(tactic| tbr_iter "v") => `(tactic| first
  | refine bv_add ?_
  | refine bv_sub ?_
  | ((with_reducible show BinV _ .Mult _ _ _ _); refine bv_mul (Or.inl ⟨by tbr_iter "sc", by tbr_iter "sc"⟩) ?_)
  | ((with_reducible show BinV _ .Mult _ _ _ _); refine bv_mul (Or.inr ⟨by tbr_iter "sc", by tbr_iter "sc"⟩) ?_)
  | ((with_reducible show BinV _ .Mod _ _ _ _); refine bv_mod (by tbr_iter "sc") ?_)
  | ((with_reducible show BinV _ .FloorDiv _ _ _ _); refine bv_fdiv ⟨by tbr_iter "sc", by tbr_iter "sc"⟩ ?_)
  | ((with_reducible show BinV _ .Pow _ _ _ _); refine bv_pow ⟨by decide, by decide +kernel⟩ ?_)
  | refine cv_lt ?_
  | refine cv_le ?_
  | refine cv_gt ?_
  | refine cv_ge ?_
  | ((with_reducible show CmpV _ .Eq _ _ _ _); refine cv_eq rfl ?_)
  | ((with_reducible show CmpV _ .NotEq _ _ _ _); refine cv_ne rfl ?_)
  | refine iv_list (by tbr_iter "sql") (by tbr_iter "at") ?_
  | refine iv_tup (by tbr_iter "sqt") (by tbr_iter "at") ?_
  | refine kv_len_seq (Or.inl (by tbr_iter "sql")) ?_
  | refine kv_len_seq (Or.inr (by tbr_iter "sqt")) ?_
  | refine kv_int ?_
  | refine kv_intB ?_
  | refine kv_abs ?_
  | refine kv_max2 rfl ?_
  | refine kv_min2 rfl ?_)
set_option hygiene false in
local macro_rules | `(tactic| tbr_iter "b") => `(tactic| first
  | refine ⟨_, rfl, iteT ?_⟩
  | refine ⟨_, rfl, iteF ?_⟩
  | refine iteT ?_
  | refine iteF ?_)
set_option hygiene false in
local macro_rules | `(tactic| tbr_iter "go") => `(tactic| repeat (first | tbr_iter "w" | tbr_iter "v" | tbr_iter "b"))
set_option hygiene false in
local macro_rules | `(tactic| tbr_iter "nof") => `(tactic| (intro d hd; cases d <;> first | rfl | exact absurd rfl (hd _)))
set_option hygiene false in
local macro_rules | `(tactic| tbr_iter "e1") => `(tactic| first | ((with_reducible show W _ _ _ _ _); tbr_iter "w") | ((with_reducible show WA _ _ _ _ _); tbr_iter "w") | ((with_reducible show WT _ _ _ _ _); tbr_iter "w") | ((with_reducible show WW _ _ _ _ _); tbr_iter "w") | tbr_iter "v")
set_option hygiene false in
local macro_rules | `(tactic| tbr_iter "ex") => `(tactic| repeat (tbr_iter "e1"))
set_option hygiene false in
local macro_rules | `(tactic| tbr_iter "z") => `(tactic| ((try dsimp only [L2.cxOf]); with_reducible first | exact T.z_IndexError | exact T.z_ValueError | exact T.z_abs | exact T.z_all | exact T.z_bool | exact T.z_classmethod | exact T.z_enumerate | exact T.z_int | exact T.z_isinstance | exact T.z_iter | exact T.z_len | exact T.z_list | exact T.z_max | exact T.z_min | exact T.z_property | exact T.z_range | exact T.z_repr | exact T.z_set | exact T.z_sorted | exact T.z_str | exact T.z_tuple))
set_option hygiene false in
local macro_rules | `(tactic| tbr_iter "mg") => `(tactic| ((try dsimp only [L2.cxOf]); with_reducible first | exact T.c_ALPHABET | exact T.c_MAX_LETTERS | exact T.c_MAX_COLUMNS))
namespace Ax
open PySem.W (EachIs SortsAt dataKind AllAlike Sortable dataLe sortVals alike alikeAll sortingHeap sortingHeap_old)
/-! ### the set -/
def SetTB (P : Program) (w : World) (h : Heap) (a : Addr) (L : List (Addr × List Key)) : Prop :=
  ∃ es ep t, (∃ o, h.get? a = some o ∧ o.ExactSet ∧ o.data = .set es ep t) ∧ es.toList = entsT P w L ∧ TabOk t (L.map fun p => hT P w p.2) ∧ (L.map (·.2)).Nodup ∧ (w.params.followText "set-order" = true ∨ t.led = true) ∧ L.length * 5 < t.mask * 3 ∧ L.length < 64
def SetTO (P : Program) (w : World) (a : Addr) (L : List (Addr × List Key)) : HO := .ext fun h => SetTB P w h a L
theorem setTO_new {P : Program} {w : World} {H : Hp} {h : Heap} {a : Addr} {L : List (Addr × List Key)} {es : Array (Int × Value)} {ep : Nat} {t : SetTable} (R : SetTK P w h a L es ep t) : ObjOk P w H h a (SetTO P w a L) := by
  obtain ⟨o, ho, r⟩ := R.ob
  refine ⟨⟨es, ep, t, ⟨o, ho, r⟩, R.ents, R.tab, R.once, R.led, R.room, R.few⟩, ⟨o, ho⟩, ?_⟩
  rintro h1 h2 ⟨es, ep, t, ⟨o, ho, r⟩, z⟩ k
  exact ⟨es, ep, t, ⟨o, k o ho, r⟩, z⟩
/-- at a stands the set of these rows -/
def SetIs (X : Cx) (H : Hp) (a : Addr) (rows : List (List Str)) : Prop :=
  ∃ L : List (Addr × List Key), H a = some (SetTO X.prog X.w a L) ∧ (∀ p ∈ L, ∃ r, p.2 = r.map Sum.inr ∧ r ∈ rows ∧ H p.1 = some (.tup (r.map V.str))) ∧ ∀ r ∈ rows, r.map Sum.inr ∈ L.map (·.2)
theorem SetIs.same {X : Cx} {H H' : Hp} {a : Addr} {rows : List (List Str)} (h : SetIs X H a rows) (s : Same H H') : SetIs X H' a rows :=
  let ⟨L, h1, h2, h3⟩ := h
  ⟨L, s _ _ h1, fun p hp => let ⟨r, e1, e2, e3⟩ := h2 p hp; ⟨r, e1, e2, s _ _ e3⟩, h3⟩
theorem items_strs : ∀ {P : Program} {w : World} {r : List Str} {us : List Value}, Vals (r.map V.str) us → ItemsAre (mixKind P w) (r.map Sum.inr) us
  | _, _, [], _, h => by cases h; exact .nil
  | _, _, x :: r, _, h => by
    cases h with
    | cons h1 h2 =>
      obtain ⟨t, rfl⟩ := h1
      exact .cons (kV_is (k := Sum.inr x) ⟨t, rfl⟩) (items_strs h2)
section
variable {X : Cx} {H : Hp} {Q : VK}
theorem tk_of {pins : List (Addr × Obj)} {σ : L2.St} {s : Shared} (I : Inv X pins σ H s) {b : Addr} {r : List Str} (h : H b = some (.tup (r.map V.str))) : TK X.prog X.w s.heap (r.map Sum.inr) b := by
  obtain ⟨its, rv, ⟨o, ho, hc, n, hd⟩, _⟩ := I.tuple (SqT.of h)
  exact ⟨o, _, n, ho, hc, hd, by simpa using items_strs rv⟩
theorem rws_pairs : ∀ {us : List V} {rows : List (List Str)}, All2 (RwV H) us rows → ∃ L0 : List (Addr × List Str), us = L0.map (fun p => V.ref p.1) ∧ rows = L0.map (·.2) ∧ ∀ p ∈ L0, H p.1 = some (.tup (p.2.map V.str))
  | _, _, .nil => ⟨[], rfl, rfl, fun _ h => (List.not_mem_nil h).elim⟩
  | _, r :: _, .cons ⟨b, e, h⟩ t => by
    obtain ⟨L0, e1, e2, h2⟩ := rws_pairs t
    refine ⟨(b, r) :: L0, by rw [e, e1]; rfl, by rw [e2]; rfl, fun p hp => ?_⟩
    rcases List.mem_cons.mp hp with rfl | hp
    · exact h
    · exact h2 p hp
/-- set(xs) of a list of rows -/
theorem kv_setT {p : Addr} {us : List V} {rows : List (List Str)} (hc : X.calm = true) (hu : X.A.units + 64 < cLine) (hp : SqL X.K H p us) (hr : All2 (RwV H) us rows) (few : rows.length < 64) (h : ∀ q H2, Same H H2 → H q = none → SetIs X H2 q rows → Q (.ref q) H2) : CallV X (.type "set") [.ref p] H Q := by
  refine ⟨fun vs H' Q' => vs = [.ref p] ∧ H' = H ∧ Q' = Q, ?_, rfl, rfl, rfl⟩
  rintro pins s σ H0 vs us0 Q0 I r ⟨rfl, rfl, rfl⟩
  rw [L2.Vals.ref1 r]
  obtain ⟨L0, rfl, rfl, hL⟩ := rws_pairs hr
  obtain ⟨its, rv, pl, hz⟩ := I.list hp
  clear hz
  rw [List.length_map] at few
  have ei : its = L0.map fun p => Value.ref p.1 := by
    clear few hL hp hr pl
    clear h
    induction L0 generalizing its with
    | nil => cases rv; rfl
    | cons q L0 ih =>
      cases rv with
      | cons r1 r2 =>
        cases (show _ = Value.ref q.1 from r1)
        rw [ih _ r2]
        rfl
  have kl : (L0.map fun p => (p.1, p.2.map (Sum.inr (α := Int)))).length = L0.length := List.length_map ..
  refine call_setT (P := X.prog) (w := X.w) (L0.map fun p => (p.1, p.2.map Sum.inr)) (I.ok.hd hc) pl.isList (by rw [List.size_toArray, ei, kl, List.length_map]) (fun i v e => ?_) (fun q hq => ?_) (by rw [kl]; exact few) (by omega) fun h' tk L es ep t R g k => ?_
  · have e2 : (L0.map fun p => Value.ref p.1)[i]? = some v := by rw [← ei]; simpa using e
    rw [List.getElem?_map] at e2 ⊢
    obtain ⟨q, eq, rfl⟩ := Option.map_eq_some_iff.mp e2
    exact ⟨_, by rw [eq]; rfl, rfl⟩
  · obtain ⟨q0, h0, rfl⟩ := List.mem_map.mp hq
    exact tk_of I (hL q0 h0)
  have hn := I.hok.fresh (Nat.le_refl s.heap.objs.size)
  have ft : ∀ {xs : List (Addr × List Key)}, xs.take xs.length = xs := fun {xs} => List.take_length
  refine ⟨.ref s.heap.objs.size, upd H0 s.heap.objs.size (SetTO X.prog X.w s.heap.objs.size L), I.laid (t' := tk) k (Nat.le_refl _) (setTO_new R), rfl, h _ _ (same_new hn) hn ⟨L, upd_same, fun q hq => ?_, fun r hr => ?_⟩⟩
  · have z := g.sub q hq
    rw [ft] at z
    obtain ⟨q0, h0, rfl⟩ := List.mem_map.mp z
    exact ⟨q0.2, rfl, List.mem_map_of_mem h0, same_new hn _ _ (hL q0 h0)⟩
  · obtain ⟨q0, h0, rfl⟩ := List.mem_map.mp hr
    exact g.all (q0.1, q0.2.map Sum.inr) (by rw [ft]; exact List.mem_map.mpr ⟨q0, h0, rfl⟩)
end
theorem each_perm {α β : Type} {R : α → β → Prop} {xs ys : List α} (p : xs.Perm ys) : ∀ {bs : List β}, EachIs R xs bs → ∃ cs, EachIs R ys cs ∧ bs.Perm cs := by
  induction p with
  | nil => intro bs h; exact ⟨bs, h, .refl _⟩
  | cons x _ ih =>
    intro bs h
    cases h with
    | cons h1 h2 =>
      obtain ⟨cs, h3, h4⟩ := ih h2
      exact ⟨_ :: cs, .cons h1 h3, h4.cons _⟩
  | swap x y l =>
    intro bs h
    cases h with
    | cons h1 h2 =>
      cases h2 with
      | cons h3 h4 => exact ⟨_, .cons h3 (.cons h1 h4), .swap ..⟩
  | trans _ _ ih1 ih2 =>
    intro bs h
    obtain ⟨cs, h3, h4⟩ := ih1 h
    obtain ⟨ds, h5, h6⟩ := ih2 h3
    exact ⟨ds, h5, h4.trans h6⟩
theorem rows_keys {H : Hp} {rows : List (List Str)} : ∀ {L : List (Addr × List Key)}, (∀ p ∈ L, ∃ r, p.2 = r.map Sum.inr ∧ r ∈ rows ∧ H p.1 = some (.tup (r.map V.str))) → ∃ zs : List (List Str), L.map (·.2) = zs.map (fun r => r.map Sum.inr) ∧ (∀ r ∈ zs, r ∈ rows) ∧ EachIs (RowV H) (L.map fun p => Value.ref p.1) zs
  | [], _ => ⟨[], rfl, fun _ h => (List.not_mem_nil h).elim, .nil⟩
  | p :: L, h => by
    obtain ⟨r, e1, e2, e3⟩ := h p List.mem_cons_self
    obtain ⟨zs, g1, g2, g3⟩ := rows_keys fun q hq => h q (List.mem_cons_of_mem _ hq)
    refine ⟨r :: zs, by rw [List.map_cons, List.map_cons, e1, g1], fun z hz => ?_, .cons ⟨_, rfl, e3⟩ g3⟩
    rcases List.mem_cons.mp hz with rfl | hz
    · exact e2
    · exact g2 z hz
section
variable {X : Cx} {H : Hp} {Q : VK}
/-- sorted(s) of a set of rows of one length -/
theorem kv_sortedSetT {a : Addr} {rows : List (List Str)} {n : Nat} (hc : X.calm = true) (hu : X.A.units + 64 < cLine) (ha : SetIs X H a rows) (hn : ∀ r ∈ rows, r.length = n)
    (h : ∀ q H2 us, Same H H2 → H q = none → H2 q = some (.lst us) → All2 (RwV H2) us (sortRows (onceL rows)) → Q (.ref q) H2) : CallV X (.builtin "sorted") [.ref a] H Q := by
  refine ⟨fun vs H' Q' => vs = [.ref a] ∧ H' = H ∧ Q' = Q, ?_, rfl, rfl, rfl⟩
  rintro pins s σ H0 vs0 us0 Q0 I r ⟨rfl, rfl, rfl⟩
  rw [L2.Vals.ref1 r]
  obtain ⟨L, hO, hL, hR⟩ := ha
  obtain ⟨es, ep, t, ⟨o, ho, hex, hd⟩, ents, tab, once, led, room, few⟩ := (I.hok a _ hO).1
  have z := ents_len ents
  have tz := tab.sz
  rw [List.length_map] at tz
  refine Calls.call_function_entry PyProof.Rows.kind_sorted PyProof.Rows.plain_sorted PyProof.Rows.entry_sorted (PyProof.Rows.args_sorted1 _) ?_
  unfold Builtin.«sorted»
  refine wpAny_bind (m := checkCount "sorted" 1 1 _) (wpAny_pure ?_)
  refine wpAny_bind (collect_set (A := X.A.in1) (I.ok.hd hc) ⟨o, ho, hex.1, hd⟩ (by rw [z]; exact tab_fits tz tab.dm (by omega)) (by unfold scanBound; omega) tab.ris led fun s1 vs k1 hz g1 o1 pm => ?_)
  have e2 : es.toList.map (·.2) = L.map fun q => Value.ref q.1 := by
    rw [ents]
    unfold entsT
    rw [List.map_map]
    rfl
  rw [e2] at pm
  obtain ⟨zs, y1, y2, y3⟩ := rows_keys hL
  obtain ⟨cs, eR, pc⟩ := each_perm pm.symm y3
  have ndz : zs.Nodup := by
    have q := once
    rw [y1] at q
    exact (List.pairwise_map.mp q).imp fun {a b} h e => h (by rw [e])
  have memz : ∀ r, r ∈ zs ↔ r ∈ rows := fun r => ⟨y2 r, fun hr => by
    have q := hR r hr
    rw [y1] at q
    obtain ⟨r2, q1, q2⟩ := List.mem_map.mp q
    rw [← map_inr_inj _ _ q2]
    exact q1⟩
  have pz : cs.Perm (onceL rows) := pc.symm.trans ((List.perm_ext_iff_of_nodup ndz (onceL_mem rows).1).mpr fun r => (memz r).trans ((onceL_mem rows).2 r).symm)
  have hn2 : ∀ r ∈ cs, r.length = n := fun r hr => hn r ((memz r).mp (pc.mem_iff.mpr hr))
  have nd : cs.Nodup := pc.nodup_iff.mp ndz
  have h1 : n = 0 → cs.length ≤ 1 := fun h0 => by
    match cs, nd, hn2 with
    | [], _, _ => exact Nat.zero_le _
    | [_], _, _ => exact Nat.le_refl _
    | x :: y :: r, nd, hn =>
      have ex := List.eq_nil_of_length_eq_zero ((hn x (List.mem_cons_self ..)).trans h0)
      have ey := List.eq_nil_of_length_eq_zero ((hn y (List.mem_cons_of_mem _ (List.mem_cons_self ..))).trans h0)
      rw [ex, ey] at nd
      exact absurd (List.mem_cons_self ..) (List.nodup_cons.mp nd).1
  have hvl : vs.length < 64 := by rw [pm.length_eq, List.length_map]; exact few
  have I0 : Inv X pins σ H0 { s with heap := s1.heap, gens := s1.gens, drawn := s1.drawn, toks := s1.toks } := I.call (ch := []) (Un.kept k1) (I.hok.kept k1) (by rw [g1]; exact I.bare) (fun _ z => nomatch z)
  have e : s1 = { s with heap := s1.heap, gens := s1.gens, drawn := s1.drawn, toks := s1.toks } := by
    obtain ⟨_, _, _, _, _⟩ := s1
    cases o1
    rfl
  rw [← e] at I0
  have same01 : ∀ q Hx, H0 q = none → Same H0 (upd H0 q Hx) := fun q Hx hq => same_new hq
  clear e I hO hL hR y1 y2 y3 e2 tz z ents once led room few g1 ho hd tab
  generalize s1 = s2 at I0 k1 hz ⊢
  have big : sizeLine = 16777216 := by decide
  refine wpAny_bind (wpAny_newList ?_ (by omega))
  have hoL : (s2.heap.push (seqObj "list" vs.toArray 0)).get? s2.heap.objs.size = some (seqObj "list" vs.toArray 0) := Heap.get?_push_size _ rfl
  have keep : ∀ b ob, s2.heap.get? b = some ob → (sortingHeap (s2.heap.push (seqObj "list" vs.toArray 0)) s2.heap.objs.size vs).get? b = some ob := fun b ob z =>
    sortingHeap_old (Nat.ne_of_lt (Heap.lt_size z)) (Heap.get?_push_of_some _ z)
  have eS : EachIs (fun v r => ∃ as, Reads (sortingHeap (s2.heap.push (seqObj "list" vs.toArray 0)) s2.heap.objs.size vs) v (rowD r) as) vs cs := eR.mono fun v r ⟨b, ev, hb⟩ => by
    subst ev
    obtain ⟨as, rd⟩ := Dp.reads I0 (rowD r) (.ref b) (.ref b) (.tup (SqT.of hb) (dpa_strs r)) rfl
    exact ⟨as, PyProof.Rows.Reads.keeps keep rd⟩
  refine wpAny_bind (wpAny_holding (wpAny_call_entry PyProof.Rows.slot_list_sort ⟨_, hoL, rfl⟩ PyProof.Rows.entry_list_sort
    (PySem.W.list_sort_vals (s := { s2 with heap := s2.heap.push (seqObj "list" vs.toArray 0) }) hoL (sortsAt_rows (s := { s2 with heap := sortingHeap (s2.heap.push (seqObj "list" vs.toArray 0)) s2.heap.objs.size vs }) eS hn2 h1 (by show X.A.units + 1 + 1 + 2 < cLine; omega)) (by omega) ⟨_, rfl, ?_⟩) (PyProof.Rows.args_list_sort _)))
  have eO := PySem.W.sortVals_data (h' := sortingHeap (s2.heap.push (seqObj "list" vs.toArray 0)) s2.heap.objs.size vs) (enc := rowD) false eR eS (alike_rows cs)
  generalize sortVals (dataKind (sortingHeap (s2.heap.push (seqObj "list" vs.toArray 0)) s2.heap.objs.size vs) (cs.map rowD)) false vs vs = out at eO ⊢
  rw [sortRows_is, sortRows_perm pz] at eO
  obtain ⟨bs, eb, hbs⟩ := rows_out eO
  obtain ⟨e', he'⟩ := PyProof.Rows.sortedHeap_at (vs := vs) (out := out.toArray) hoL
  have hlen : (bs.map V.ref).length ≤ sizeLine := by
    have h2 := hbs.len
    have h3 : (sortRows (onceL rows)).length = (onceL rows).length := List.length_mergeSort _
    rw [h3, ← pz.length_eq, ← eR.length] at h2
    rw [List.length_map]
    omega
  have hq := I0.hok.fresh (Nat.le_refl s2.heap.objs.size)
  refine wpAny_pure ⟨_, rfl, .ref s2.heap.objs.size, upd H0 s2.heap.objs.size (.lst (bs.map V.ref)), I0.laid (t' := s2.toks) (fun b u ez => ?_) (Nat.le_refl _) (show ObjOk X.prog X.w _ _ _ (.lst (bs.map V.ref)) from ⟨hlen, out, e', by rw [eb] <;> exact vals_refs bs, he'⟩), rfl, h _ _ _ (same_new hq) hq upd_same ?_⟩
  · have hb : b < s2.heap.objs.size := Heap.lt_size ez
    rw [PyProof.Rows.sortedHeap_old (Nat.ne_of_lt hb) (by rw [size_push'] <;> exact Nat.lt_succ_of_lt hb)]
    exact Heap.get?_push_of_some _ ez
  · have go : ∀ {bs : List Addr} {rs : List (List Str)}, All2 (fun b r => H0 b = some (.tup (r.map V.str))) bs rs → All2 (RwV (upd H0 s2.heap.objs.size (.lst (bs.map V.ref)))) (bs.map V.ref) rs := fun {bs rs} q => by
      have key : ∀ {Hx : Hp} {bs : List Addr} {rs : List (List Str)}, Same H0 Hx → All2 (fun b r => H0 b = some (.tup (r.map V.str))) bs rs → All2 (RwV Hx) (bs.map V.ref) rs := fun {Hx bs rs} sm q => by
        induction q with
        | nil => exact .nil
        | cons h _ ih => exact .cons ⟨_, rfl, sm _ _ h⟩ ih
      exact key (same_new hq) q
    exact go hbs
end
end Ax
end
section
set_option maxHeartbeats 4000000
open PySem PySem.Spec PyProof.Rows L2 Ax
set_option hygiene false in
local macro_rules | `(tactic| tbr_iter "boot") => `(tactic| with_reducible first | exact Ax.b_len | exact Ax.b_all | exact Ax.b_any | exact Ax.b_sorted | exact Ax.b_isinstance | exact Ax.b_abs | exact Ax.b_max | exact Ax.b_min | exact Ax.b_sum | exact Ax.b_repr | exact Ax.b_iter | exact Ax.b_ord | exact Ax.b_chr | exact Ax.b_str | exact Ax.b_int | exact Ax.b_bool | exact Ax.b_tuple | exact Ax.b_list | exact Ax.b_dict | exact Ax.b_set | exact Ax.b_range | exact Ax.b_enumerate | exact Ax.b_zip)
set_option hygiene false in
local macro_rules | `(tactic| tbr_iter "vis") => `(tactic| first | exact Or.inl rfl | exact Or.inr (Or.inl rfl) | exact Or.inr (Or.inr rfl))
set_option hygiene false in
local macro_rules | `(tactic| tbr_iter "w") => `(tactic| first
  | refine wb_cons ?_
  | refine wb_nil ?_
  | refine ws_ret ?_
  | refine ws_if ?_
  | refine ws_sub ?_
  | refine wa_cons ?_
  | refine wa_nil ?_
  | refine w_int ?_
  | refine w_str ?_
  | refine w_bl ?_
  | refine w_non ?_
  | tbr_iter "var"
  | refine w_bin ?_
  | refine w_cmp ?_
  | refine w_chain ?_
  | refine w_and ?_
  | refine w_or ?_
  | refine w_one ?_
  | refine w_not ?_
  | refine w_ix ?_
  | refine w_ifExp ?_
  | refine w_tup ?_
  | refine w_lst ?_
  | refine wt_not ?_
  | refine wt_bool ?_
  | refine ww_and ?_
  | refine ww_and1 ?_
  | refine ww_or ?_
  | refine ww_or1 ?_
  | refine wt_cmp ?_
  | refine wt_val ?_
  | tbr_iter "call"
  | (refine w_glob (by tbr_iter "mg") ?_)
  | (refine w_callB (by tbr_iter "z") ?_)
  | (refine w_callTy (by tbr_iter "z") ?_)
  | (refine w_bltT (by tbr_iter "z") ?_))
set_option hygiene false in
local macro_rules | `(tactic| tbr_iter "blk") => `(tactic| first | exact blkOk_by (by dsimp only [cxOf, envOfC]; decide +kernel))
set_option hygiene false in
local macro_rules | `(tactic| tbr_iter "iff") => `(tactic| first
  | refine iteT ?_
  | refine iteF ?_
  | refine w_if2 (fun _ => ?_) (fun _ => ?_))
set_option hygiene false in
local macro_rules | `(tactic| tbr_iter "sc") => `(tactic| first | omega | decide)
set_option hygiene false in
local macro_rules | `(tactic| tbr_iter "at") => `(tactic| first | exact atI_0 | exact atI_1 | exact atI_2)
set_option hygiene false in
local macro_rules | `(tactic| tbr_iter "sql") => `(tactic| ((try dsimp only [L2.cxOf, L2.Cx.blk]); with_reducible first | assumption | exact SqL.of (by assumption)))
set_option hygiene false in
local macro_rules | `(tactic| tbr_iter "sqt") => `(tactic| ((try dsimp only [L2.cxOf, L2.Cx.blk]); with_reducible first | assumption | exact SqT.of (by assumption)))
set_option hygiene false in
local macro_rules | `(tactic| tbr_iter "v") => `(tactic| first
  | refine bv_add ?_
  | refine bv_sub ?_
  | ((with_reducible show BinV _ .Mult _ _ _ _); refine bv_mul (Or.inl ⟨by tbr_iter "sc", by tbr_iter "sc"⟩) ?_)
  | ((with_reducible show BinV _ .Mult _ _ _ _); refine bv_mul (Or.inr ⟨by tbr_iter "sc", by tbr_iter "sc"⟩) ?_)
  | ((with_reducible show BinV _ .Mod _ _ _ _); refine bv_mod (by tbr_iter "sc") ?_)
  | ((with_reducible show BinV _ .FloorDiv _ _ _ _); refine bv_fdiv ⟨by tbr_iter "sc", by tbr_iter "sc"⟩ ?_)
  | ((with_reducible show BinV _ .Pow _ _ _ _); refine bv_pow ⟨by decide, by decide +kernel⟩ ?_)
  | refine cv_lt ?_
  | refine cv_le ?_
  | refine cv_gt ?_
  | refine cv_ge ?_
  | ((with_reducible show CmpV _ .Eq _ _ _ _); refine cv_eq rfl ?_)
  | ((with_reducible show CmpV _ .NotEq _ _ _ _); refine cv_ne rfl ?_)
  | refine iv_list (by tbr_iter "sql") (by tbr_iter "at") ?_
  | refine iv_tup (by tbr_iter "sqt") (by tbr_iter "at") ?_
  | refine kv_len_seq (Or.inl (by tbr_iter "sql")) ?_
  | refine kv_len_seq (Or.inr (by tbr_iter "sqt")) ?_
  | refine kv_int ?_
  | refine kv_intB ?_
  | refine kv_abs ?_
  | refine kv_max2 rfl ?_
  | refine kv_min2 rfl ?_)
set_option hygiene false in
local macro_rules | `(tactic| tbr_iter "b") => `(tactic| first
  | refine ⟨_, rfl, iteT ?_⟩
  | refine ⟨_, rfl, iteF ?_⟩
  | refine iteT ?_
  | refine iteF ?_)
set_option hygiene false in
local macro_rules | `(tactic| tbr_iter "go") => `(tactic| repeat (first | tbr_iter "w" | tbr_iter "v" | tbr_iter "b"))
set_option hygiene false in
local macro_rules | `(tactic| tbr_iter "nof") => `(tactic| (intro d hd; cases d <;> first | rfl | exact absurd rfl (hd _)))
set_option hygiene false in
local macro_rules | `(tactic| tbr_iter "e1") => `(tactic| first | ((with_reducible show W _ _ _ _ _); tbr_iter "w") | ((with_reducible show WA _ _ _ _ _); tbr_iter "w") | ((with_reducible show WT _ _ _ _ _); tbr_iter "w") | ((with_reducible show WW _ _ _ _ _); tbr_iter "w") | tbr_iter "v")
set_option hygiene false in
local macro_rules | `(tactic| tbr_iter "ex") => `(tactic| repeat (tbr_iter "e1"))
set_option hygiene false in
local macro_rules | `(tactic| tbr_iter "z") => `(tactic| ((try dsimp only [L2.cxOf]); with_reducible first | exact T.z_IndexError | exact T.z_ValueError | exact T.z_abs | exact T.z_all | exact T.z_bool | exact T.z_classmethod | exact T.z_enumerate | exact T.z_int | exact T.z_isinstance | exact T.z_iter | exact T.z_len | exact T.z_list | exact T.z_max | exact T.z_min | exact T.z_property | exact T.z_range | exact T.z_repr | exact T.z_set | exact T.z_sorted | exact T.z_str | exact T.z_tuple))
set_option hygiene false in
local macro_rules | `(tactic| tbr_iter "mg") => `(tactic| ((try dsimp only [L2.cxOf]); with_reducible first | exact T.c_ALPHABET | exact T.c_MAX_LETTERS | exact T.c_MAX_COLUMNS))
namespace Ax
/-! ### data that are rows -/
theorem eqvAll_strs : ∀ a b : List Str, PyData.eqvAll (a.map .str) (b.map .str) = decide (a = b)
  | [], [] => rfl
  | [], _ :: _ => rfl
  | _ :: _, [] => rfl
  | x :: a, y :: b => by
    show (PyData.eqv (.str x) (.str y) && PyData.eqvAll (a.map .str) (b.map .str)) = _
    rw [eqvAll_strs a b, Bool.eq_iff_iff]
    simp [PyData.eqv]
theorem eqvAll_rows : ∀ a b : List (List Str), PyData.eqvAll (a.map rowD) (b.map rowD) = decide (a = b)
  | [], [] => rfl
  | [], _ :: _ => rfl
  | _ :: _, [] => rfl
  | x :: a, y :: b => by
    show (PyData.eqvAll (x.map .str) (y.map .str) && PyData.eqvAll (a.map rowD) (b.map rowD)) = _
    rw [eqvAll_rows a b, eqvAll_strs, Bool.eq_iff_iff]
    simp
/-- a table's rows as data -/
def rowsD (rows : List (List Str)) : PyData := .tuple (rows.map rowD)
theorem eqv_rows (a b : List (List Str)) : PyData.eqv (rowsD a) (rowsD b) = decide (a = b) := eqvAll_rows a b
theorem name_strOk {z : Str} (h : isNameS z = true) : PyData.strOk z = true := by
  have e := name_ok h
  simp only [okD, Bool.and_eq_true] at e
  have e2 := e.1
  simp only [tame, Bool.and_eq_true] at e2
  exact e2.1
theorem lay_strs : ∀ {r : List Str}, (∀ z ∈ r, isNameS z = true) → PyData.canLayAll0 (r.map .str) = true
  | [], _ => rfl
  | z :: r, h => by
    show (PyData.strOk z && PyData.canLayAll0 (r.map .str)) = true
    rw [name_strOk (h z List.mem_cons_self), lay_strs fun y hy => h y (List.mem_cons_of_mem _ hy)]
    rfl
theorem lay_rows {c : Nat} : ∀ {rows : List (List Str)}, (∀ r ∈ rows, NRow c r) → PyData.canLayAll0 (rows.map rowD) = true
  | [], _ => rfl
  | r :: rows, h => by
    show (PyData.canLayAll0 (r.map .str) && PyData.canLayAll0 (rows.map rowD)) = true
    rw [lay_strs (h r List.mem_cons_self).2, lay_rows fun y hy => h y (List.mem_cons_of_mem _ hy)]
    rfl
theorem depth_rows : ∀ rows : List (List Str), PyData.depthAll (rows.map rowD) ≤ 1
  | [] => Nat.zero_le _
  | r :: rows => by
    show max (PyData.depth (rowD r)) (PyData.depthAll (rows.map rowD)) ≤ 1
    exact Nat.max_le.mpr ⟨depth_row r, depth_rows rows⟩
theorem shaped_rows {c : Nat} {rows : List (List Str)} (h : ∀ r ∈ rows, NRow c r) : SeqAt.shaped (rowsD rows) = true := by
  show (PyData.canLayAll0 (rows.map rowD) && decide (PyData.depthAll (rows.map rowD) + 1 ≤ 64)) = true
  rw [lay_rows h]
  have := depth_rows rows
  simp
  omega
theorem dpa_rows {K : PySem.W.Frag} {H : Hp} : ∀ {us : List V} {rows : List (List Str)}, All2 (RwV H) us rows → DpAll K H us (rows.map rowD)
  | _, _, .nil => .nil
  | _, _, .cons ⟨b, e, h⟩ t => by
    subst e
    exact .cons (.tup (SqT.of h) (dpa_strs _)) (dpa_rows t)
theorem dp_rows {K : PySem.W.Frag} {H : Hp} {q : Addr} {us : List V} {rows : List (List Str)} (hq : H q = some (.tup us)) (h : All2 (RwV H) us rows) : Dp K H (.ref q) (rowsD rows) := .tup (SqT.of hq) (dpa_rows h)
/-! ### def m(self, *v) -/
section
open StX
variable {P : Program} {w : World} {K : PySem.W.Frag} {mg : Str → Option Value} {base : Heap}
theorem meth_okS1 {x q p1 pv : Str} {st : Stmt} {N : List Str} {k : Nat} {sp : Sp} {f : Addr} (T : ∃ fd, FunD K x q (defArgs st) (defBody st) (defScope st) [] [] f fd) (S : FnScope N ([p1] ++ [pv]) (defScope st))
    (h0 : ∀ (kV doc pm : Value) (an : Option Addr) (cdv ct : Value) (a : Value), bindArgs (PySem.W.fnOf x q (defArgs st) (defBody st) (defScope st) .none kV doc pm an cdv ct) ⟨[a], []⟩ = (newTuple [] >>= fun t => pure [(p1, a), (pv, t)]))
    (h1 : ∀ (kV doc pm : Value) (an : Option Addr) (cdv ct : Value) (a r : Value) (rs : List Value), bindArgs (PySem.W.fnOf x q (defArgs st) (defBody st) (defScope st) .none kV doc pm an cdv ct) ⟨a :: r :: rs, []⟩ = (newTuple (r :: rs) >>= fun t => pure [(p1, a), (pv, t)]))
    (body : ∀ (cdv : Value) (A : Around) (outer : List Env) (s : Shared) (H : Hp) (vs : List V) (Q : VK) (E : XK), Room k (A.deeper (envOfC q (defScope st) s.heap.objs.size f cdv)) → sp vs H Q E →
      WB (cxOf (L2.CX P w) P w K mg base N q (defScope st) f cdv A outer s H E) (defBody st) { nx := fun _ H' => Q .non H', rt := Q } (start N vs) H) :
    FnP P w K mg base (k + 1) f (fun vs H Q E => ∃ a rest, vs = a :: rest ∧ rest.length ≤ sizeLine ∧ ∀ p, H p = none → sp [a, .ref p] (upd H p (.tup rest)) Q E) := by
  obtain ⟨fd, F⟩ := T
  obtain ⟨oc, od, kV, doc, pm, an, cdv, ct, osl, lk, hcd⟩ := none_dfl F
  have Z := fn_star (P := P) (w := w) (mg := mg) (base := base) (ps := [p1]) (pv := pv) (k := k) (sp := sp) lk hcd S cxUp (fun us rest hl => match us, hl, rest with
      | [a], _, [] => h0 kV doc pm an cdv ct a
      | [a], _, r :: rs => h1 kV doc pm an cdv ct a r rs)
    fun A outer s H vs Q E hr h => ⟨_, WB.pss, body cdv A outer s H vs Q E hr h⟩
  exact Z.imp fun vs H Q E ⟨a, rest, e, z, q⟩ => ⟨[a], rest, e, rfl, z, q⟩
end
/-! ### functions of tables -/
def spTableIn (K : PySem.W.Frag) : Sp := fun vs H Q _ => ∃ (p : Addr) (c : Nat) (us : List V) (raw : List (List Str)), vs = [.int c, .ref p] ∧ c ≤ 3 ∧ (SqT K H p us ∨ SqL K H p us) ∧ us.length < sizeLine ∧ All2 (RwV H) us raw ∧ (∀ r ∈ raw, NRow c r) ∧
  ∀ x H2, Same H H2 → H x = none → TabIs K H2 x c (tabRows raw) → Q (.ref x) H2
def spTabEq (K : PySem.W.Frag) : Sp := fun vs H Q _ => ∃ (a b : Addr) (c d : Nat) (r1 r2 : List (List Str)), vs = [.ref a, .ref b] ∧ TabIs K H a c r1 ∧ TabIs K H b d r2 ∧ (∀ r ∈ r1, NRow c r) ∧ (∀ r ∈ r2, NRow d r) ∧ ∀ H2, Same H H2 → Q (.bl (decide (d = c ∧ r1 = r2))) H2
def spTabLen (K : PySem.W.Frag) : Sp := fun vs H Q _ => ∃ (a : Addr) (c : Nat) (r1 : List (List Str)), vs = [.ref a] ∧ TabIs K H a c r1 ∧ ∀ H2, Same H H2 → Q (.int r1.length) H2
def spTabCols (K : PySem.W.Frag) : Sp := fun vs H Q _ => ∃ (a : Addr) (c : Nat) (r1 : List (List Str)), vs = [.ref a] ∧ TabIs K H a c r1 ∧ Q (.int c) H
def spTabRows (K : PySem.W.Frag) : Sp := fun vs H Q _ => ∃ (a : Addr) (c : Nat) (r1 : List (List Str)), vs = [.ref a] ∧ TabIs K H a c r1 ∧ ∀ q us, H q = some (.tup us) → All2 (RwV H) us r1 → Q (.ref q) H

/-- a thing of a built-in type -/
def OtherV (K : PySem.W.Frag) (H : Hp) (v : V) : Prop := ∃ t, t ∈ tyNames ∧ TyX K H v (.type t)
theorem OtherV.same {K : PySem.W.Frag} {H H' : Hp} {v : V} (h : OtherV K H v) (s : Same H H') : OtherV K H' v := let ⟨t, m, z⟩ := h; ⟨t, m, tyX_same s z⟩
theorem kit_other {K : PySem.W.Frag} {mg : Str → Option Value} (T : Txt K mg) {t : String} (h : t ∈ tyNames) : PySem.W.kitOne K (.type t) (.ref (He.ga K "Table")) = some false := by
  simp only [tyNames, List.mem_cons, List.not_mem_nil, or_false] at h
  rcases h with rfl | rfl | rfl | rfl | rfl | rfl | rfl
  · exact T.i_NoneType_Table
  · exact T.i_bool_Table
  · exact T.i_int_Table
  · exact T.i_str_Table
  · exact T.i_list_Table
  · exact T.i_tuple_Table
  · exact T.i_dict_Table
/-- a value that may be a table: b, c the other's columns and rows -/
def TabO (K : PySem.W.Frag) (H : Hp) (v : V) (t : Option (Nat × List (List Str))) : Prop := match t with
  | some (d, r2) => ∃ b, v = .ref b ∧ TabIs K H b d r2
  | none => OtherV K H v
theorem TabO.same {K : PySem.W.Frag} {H H' : Hp} {v : V} {t : Option (Nat × List (List Str))} (h : TabO K H v t) (s : Same H H') : TabO K H' v t := by
  unfold TabO at h ⊢
  split at h
  · obtain ⟨b, e, z⟩ := h
    exact ⟨b, e, z.same s⟩
  · exact OtherV.same h s
def likeO (c : Nat) (t : Option (Nat × List (List Str))) : Bool := match t with
  | some (d, _) => decide (d = c)
  | none => false
def eqO (c : Nat) (r1 : List (List Str)) (t : Option (Nat × List (List Str))) : Bool := match t with
  | some (d, r2) => decide (d = c ∧ r1 = r2)
  | none => false
def inO (c : Nat) (r1 : List (List Str)) (t : Option (Nat × List (List Str))) : Bool := match t with
  | some (d, r2) => decide (d = c) && r1.all fun r => decide (r ∈ r2)
  | none => false
def rowsOkO (t : Option (Nat × List (List Str))) : Prop := ∀ d r2, t = some (d, r2) → ∀ r ∈ r2, NRow d r
def spLikeX (K : PySem.W.Frag) : Sp := fun vs H Q _ => ∃ (a : Addr) (v : V) (c : Nat) (r1 : List (List Str)) (t : Option (Nat × List (List Str))), vs = [.ref a, v] ∧ TabIs K H a c r1 ∧ TabO K H v t ∧ ∀ H2, Same H H2 → Q (.bl (likeO c t)) H2
def spReqLike (K : PySem.W.Frag) : Sp := fun vs H Q _ => ∃ (a b : Addr) (c : Nat) (r1 r2 : List (List Str)), vs = [.ref a, .ref b] ∧ TabIs K H a c r1 ∧ TabIs K H b c r2 ∧ ∀ H2, Same H H2 → Q .non H2
def spTabEqX (K : PySem.W.Frag) : Sp := fun vs H Q _ => ∃ (a : Addr) (v : V) (c : Nat) (r1 : List (List Str)) (t : Option (Nat × List (List Str))), vs = [.ref a, v] ∧ TabIs K H a c r1 ∧ TabO K H v t ∧ (∀ r ∈ r1, NRow c r) ∧ rowsOkO t ∧ ∀ H2, Same H H2 → Q (.bl (eqO c r1 t)) H2
def spTabInX (K : PySem.W.Frag) : Sp := fun vs H Q _ => ∃ (a : Addr) (v : V) (c : Nat) (r1 : List (List Str)) (t : Option (Nat × List (List Str))), vs = [.ref a, v] ∧ TabIs K H a c r1 ∧ TabO K H v t ∧ r1.length < sizeLine ∧ ∀ H2, Same H H2 → Q (.bl (inO c r1 t)) H2
/-- a operator b: the rows of f -/
def spTabOp (K : PySem.W.Frag) (f : List (List Str) → List (List Str) → List (List Str)) : Sp := fun vs H Q _ => ∃ (a b : Addr) (c : Nat) (r1 r2 : List (List Str)), vs = [.ref a, .ref b] ∧ c ≤ 3 ∧ TabIs K H a c r1 ∧ TabIs K H b c r2 ∧ (∀ r ∈ r1, NRow c r) ∧ (∀ r ∈ r2, NRow c r) ∧ r1.length ≤ 1000 ∧ r2.length ≤ 1000 ∧
  ∀ x H2, Same H H2 → H x = none → TabIs K H2 x c (tabRows (f r1 r2)) → Q (.ref x) H2
/-- values that may be rows: their texts -/
inductive OddV (K : PySem.W.Frag) (H : Hp) : V → Option (List Str) → Prop
  | row {a : Addr} {r : List Str} (h : H a = some (.tup (r.map V.str))) (ok : okD (rowD r) = true) : OddV K H (.ref a) (some r)
  | dat {v : V} {d : PyData} (h : Dp K H v d) (ok : okD d = true) (n : isRowD d = false) : OddV K H v none
  | dct {a : Addr} (h : H a = some (.dK [])) : OddV K H (.ref a) none
  | mix {a b : Addr} {z : Str} (h : H a = some (.tup [.str z, .ref b])) (hb : H b = some (.dK [])) (ok : okD (.str z) = true) : OddV K H (.ref a) none
theorem OddV.same {K : PySem.W.Frag} {H H' : Hp} {v : V} {o : Option (List Str)} (h : OddV K H v o) (s : Same H H') : OddV K H' v o := by
  cases h with
  | row h ok => exact .row (s _ _ h) ok
  | dat h ok n => exact .dat (dp_same s h) ok n
  | dct h => exact .dct (s _ _ h)
  | mix h hb ok => exact .mix (s _ _ h) (s _ _ hb) ok
theorem dict_ty {K : PySem.W.Frag} {H : Hp} {a : Addr} (h : H a = some (.dK [])) : TyX K H (.ref a) (.type "dict") := .base (.dK h)
theorem OddV.other {K : PySem.W.Frag} {H : Hp} {v : V} {o : Option (List Str)} (h : OddV K H v o) : OtherV K H v := by
  cases h with
  | row h ok => exact ⟨"tuple", by decide, tyX_tup (SqT.of h)⟩
  | dat h ok n => exact ⟨_, tyD_mem _, dp_ty h⟩
  | dct h => exact ⟨"dict", by decide, dict_ty h⟩
  | mix h hb ok => exact ⟨"tuple", by decide, tyX_tup (SqT.of h)⟩
def rowB (o : Option (List Str)) : Bool := match o with
  | some r => r.all isNameS
  | none => false
def spIsRowX (K : PySem.W.Frag) : Sp := fun vs H Q _ => ∃ v o, vs = [v] ∧ OddV K H v o ∧ ∀ H', Same H H' → Q (.bl (rowB o)) H'
def hasO (o : Option (List Str)) (rows : List (List Str)) : Bool := match o with
  | some r => decide (r ∈ rows)
  | none => false
def spTabHas (K : PySem.W.Frag) : Sp := fun vs H Q _ => ∃ (a : Addr) (v : V) (c : Nat) (r1 : List (List Str)) (o : Option (List Str)), vs = [.ref a, v] ∧ TabIs K H a c r1 ∧ OddV K H v o ∧ (∀ r ∈ r1, NRow c r) ∧ ∀ H2, Same H H2 → Q (.bl (hasO o r1)) H2
def spTabIter (K : PySem.W.Frag) (n : Nat) : Sp := fun vs H Q _ => ∃ (a : Addr) (c : Nat) (r1 : List (List Str)), vs = [.ref a] ∧ TabIs K H a c r1 ∧ ∀ it q us H2, H it = none → n ≤ it → H q = some (.tup us) → All2 (RwV H) us r1 → H2 = upd H it (ItTO q it) → Q (.ref it) H2
def tabText (c n : Nat) : Str := Str.empty ++ "table of " ++ toString (c : Int) ++ " columns, " ++ toString (n : Int) ++ " rows"
def spTabStr (K : PySem.W.Frag) : Sp := fun vs H Q _ => ∃ (a : Addr) (c : Nat) (r1 : List (List Str)), vs = [.ref a] ∧ TabIs K H a c r1 ∧ c ≤ 3 ∧ r1.length < 64 ∧ ∀ H2, Same H H2 → Q (.str (tabText c r1.length)) H2
theorem text_fits : ∀ c : Nat, c ≤ 3 → ∀ n : Nat, n < 64 → ((Str.empty ++ "table of " : Str).length ≤ 100 ∧ (Str.empty ++ "table of " ++ toString (c : Int)).length ≤ 100 ∧ (Str.empty ++ "table of " ++ toString (c : Int) ++ " columns, ").length ≤ 100 ∧ (Str.empty ++ "table of " ++ toString (c : Int) ++ " columns, " ++ toString (n : Int)).length ≤ 100 ∧ (tabText c n).length ≤ 100) ∧ c.log2 < 1920 ∧ n.log2 < 1920 := by decide +kernel
theorem all2_keep {α : Type} {R : V → α → Prop} (f : α → Bool) : ∀ {us : List V} {rows : List α}, All2 R us rows → All2 R ((List.range us.length).filterMap fun i => if (rows[i]?.any f) = true then us[i]? else none) (rows.filter f)
  | _, _, .nil => .nil
  | u :: us, r :: rows, .cons h t => by
    have ih := all2_keep f t
    rw [List.length_cons, List.range_succ_eq_map, List.filterMap_cons, List.filterMap_map, List.filter_cons]
    have e : ((fun i => if ((r :: rows)[i]?.any f) = true then (u :: us)[i]? else none) ∘ Nat.succ) = fun i => if (rows[i]?.any f) = true then us[i]? else none := by
      funext i
      simp
    rw [e]
    cases hf : f r
    · simpa [hf] using ih
    · simp only [List.getElem?_cons_zero, Option.any_some, hf, if_true]
      exact .cons h ih
theorem fm_get {α β : Type} (xs : List α) (g : α → β) : (List.range xs.length).filterMap (fun i => xs[i]?.map g) = xs.map g := by
  rw [← List.map_filterMap, range_get]
theorem valV_mem {κ : Type} [DecidableEq κ] {kvs : List (κ × V)} {k : κ} (h : k ∈ kvs.map (·.1)) : ∃ v, valV kvs k = some v ∧ (k, v) ∈ kvs := by
  cases e : valV kvs k with
  | none => exact absurd h (valV_not e)
  | some v =>
    refine ⟨v, rfl, ?_⟩
    unfold valV at e
    obtain ⟨p, hp, rfl⟩ := Option.map_eq_some_iff.mp e
    have h1 := List.find?_some hp
    have h2 := List.mem_of_find?_eq_some hp
    have h1 : p.1 = k := of_decide_eq_true h1
    rw [← h1]
    exact h2
theorem key_in {kvs : List (List Key × V)} {rows : List (List Str)} {r : List Str} (h : kvs.map (·.1) = rows.map fun r => r.map Sum.inr) : (valV kvs (r.map Sum.inr)).isSome = decide (r ∈ rows) := by
  by_cases m : r ∈ rows
  · rw [decide_eq_true m]
    have m2 : r.map Sum.inr ∈ kvs.map (·.1) := by
      rw [h]
      exact List.mem_map.mpr ⟨r, m, rfl⟩
    obtain ⟨v, ev, _⟩ := valV_mem m2
    rw [ev]
    rfl
  · rw [decide_eq_false m]
    cases e : valV kvs (r.map Sum.inr) with
    | none => rfl
    | some v =>
      have m2 : r.map Sum.inr ∈ kvs.map (·.1) := valV_in e
      rw [h] at m2
      obtain ⟨r2, hr2, e2⟩ := List.mem_map.mp m2
      exact absurd (map_inr_inj _ _ e2 ▸ hr2) m
end Ax
end
section
set_option maxHeartbeats 4000000
open PySem PySem.Spec PyProof.Rows L2 Ax
set_option hygiene false in
local macro_rules | `(tactic| tbr_iter "boot") => `(tactic| with_reducible first | exact Ax.b_len | exact Ax.b_all | exact Ax.b_any | exact Ax.b_sorted | exact Ax.b_isinstance | exact Ax.b_abs | exact Ax.b_max | exact Ax.b_min | exact Ax.b_sum | exact Ax.b_repr | exact Ax.b_iter | exact Ax.b_ord | exact Ax.b_chr | exact Ax.b_str | exact Ax.b_int | exact Ax.b_bool | exact Ax.b_tuple | exact Ax.b_list | exact Ax.b_dict | exact Ax.b_set | exact Ax.b_range | exact Ax.b_enumerate | exact Ax.b_zip)
set_option hygiene false in
local macro_rules | `(tactic| tbr_iter "vis") => `(tactic| first | exact Or.inl rfl | exact Or.inr (Or.inl rfl) | exact Or.inr (Or.inr rfl))
set_option hygiene false in
local macro_rules | `(tactic| tbr_iter "w") => `(tactic| first
  | refine wb_cons ?_
  | refine wb_nil ?_
  | refine ws_ret ?_
  | refine ws_if ?_
  | refine ws_sub ?_
  | refine wa_cons ?_
  | refine wa_nil ?_
  | refine w_int ?_
  | refine w_str ?_
  | refine w_bl ?_
  | refine w_non ?_
  | tbr_iter "var"
  | refine w_bin ?_
  | refine w_cmp ?_
  | refine w_chain ?_
  | refine w_and ?_
  | refine w_or ?_
  | refine w_one ?_
  | refine w_not ?_
  | refine w_ix ?_
  | refine w_ifExp ?_
  | refine w_tup ?_
  | refine w_lst ?_
  | refine wt_not ?_
  | refine wt_bool ?_
  | refine ww_and ?_
  | refine ww_and1 ?_
  | refine ww_or ?_
  | refine ww_or1 ?_
  | refine wt_cmp ?_
  | refine wt_val ?_
  | tbr_iter "call"
  | (refine w_glob (by tbr_iter "mg") ?_)
  | (refine w_callB (by tbr_iter "z") ?_)
  | (refine w_callTy (by tbr_iter "z") ?_)
  | (refine w_bltT (by tbr_iter "z") ?_))
set_option hygiene false in
local macro_rules | `(tactic| tbr_iter "blk") => `(tactic| first | exact blkOk_by (by dsimp only [cxOf, envOfC]; decide +kernel))
set_option hygiene false in
local macro_rules | `(tactic| tbr_iter "iff") => `(tactic| first
  | refine iteT ?_
  | refine iteF ?_
  | refine w_if2 (fun _ => ?_) (fun _ => ?_))
set_option hygiene false in
local macro_rules | `(tactic| tbr_iter "sc") => `(tactic| first | omega | decide)
set_option hygiene false in
local macro_rules | `(tactic| tbr_iter "at") => `(tactic| first | exact atI_0 | exact atI_1 | exact atI_2)
set_option hygiene false in
local macro_rules | `(tactic| tbr_iter "sql") => `(tactic| ((try dsimp only [L2.cxOf, L2.Cx.blk]); with_reducible first | assumption | exact SqL.of (by assumption)))
set_option hygiene false in
local macro_rules | `(tactic| tbr_iter "sqt") => `(tactic| ((try dsimp only [L2.cxOf, L2.Cx.blk]); with_reducible first | assumption | exact SqT.of (by assumption)))
set_option hygiene false in
local macro_rules | `(tactic| tbr_iter "v") => `(tactic| first
  | refine bv_add ?_
  | refine bv_sub ?_
  | ((with_reducible show BinV _ .Mult _ _ _ _); refine bv_mul (Or.inl ⟨by tbr_iter "sc", by tbr_iter "sc"⟩) ?_)
  | ((with_reducible show BinV _ .Mult _ _ _ _); refine bv_mul (Or.inr ⟨by tbr_iter "sc", by tbr_iter "sc"⟩) ?_)
  | ((with_reducible show BinV _ .Mod _ _ _ _); refine bv_mod (by tbr_iter "sc") ?_)
  | ((with_reducible show BinV _ .FloorDiv _ _ _ _); refine bv_fdiv ⟨by tbr_iter "sc", by tbr_iter "sc"⟩ ?_)
  | ((with_reducible show BinV _ .Pow _ _ _ _); refine bv_pow ⟨by decide, by decide +kernel⟩ ?_)
  | refine cv_lt ?_
  | refine cv_le ?_
  | refine cv_gt ?_
  | refine cv_ge ?_
  | ((with_reducible show CmpV _ .Eq _ _ _ _); refine cv_eq rfl ?_)
  | ((with_reducible show CmpV _ .NotEq _ _ _ _); refine cv_ne rfl ?_)
  | refine iv_list (by tbr_iter "sql") (by tbr_iter "at") ?_
  | refine iv_tup (by tbr_iter "sqt") (by tbr_iter "at") ?_
  | refine kv_len_seq (Or.inl (by tbr_iter "sql")) ?_
  | refine kv_len_seq (Or.inr (by tbr_iter "sqt")) ?_
  | refine kv_int ?_
  | refine kv_intB ?_
  | refine kv_abs ?_
  | refine kv_max2 rfl ?_
  | refine kv_min2 rfl ?_)
set_option hygiene false in
local macro_rules | `(tactic| tbr_iter "b") => `(tactic| first
  | refine ⟨_, rfl, iteT ?_⟩
  | refine ⟨_, rfl, iteF ?_⟩
  | refine iteT ?_
  | refine iteF ?_)
set_option hygiene false in
local macro_rules | `(tactic| tbr_iter "go") => `(tactic| repeat (first | tbr_iter "w" | tbr_iter "v" | tbr_iter "b"))
set_option hygiene false in
local macro_rules | `(tactic| tbr_iter "nof") => `(tactic| (intro d hd; cases d <;> first | rfl | exact absurd rfl (hd _)))
set_option hygiene false in
local macro_rules | `(tactic| tbr_iter "e1") => `(tactic| first | ((with_reducible show W _ _ _ _ _); tbr_iter "w") | ((with_reducible show WA _ _ _ _ _); tbr_iter "w") | ((with_reducible show WT _ _ _ _ _); tbr_iter "w") | ((with_reducible show WW _ _ _ _ _); tbr_iter "w") | tbr_iter "v")
set_option hygiene false in
local macro_rules | `(tactic| tbr_iter "ex") => `(tactic| repeat (tbr_iter "e1"))
set_option hygiene false in
local macro_rules | `(tactic| tbr_iter "z") => `(tactic| ((try dsimp only [L2.cxOf]); with_reducible first | exact T.z_IndexError | exact T.z_ValueError | exact T.z_abs | exact T.z_all | exact T.z_bool | exact T.z_classmethod | exact T.z_enumerate | exact T.z_int | exact T.z_isinstance | exact T.z_iter | exact T.z_len | exact T.z_list | exact T.z_max | exact T.z_min | exact T.z_property | exact T.z_range | exact T.z_repr | exact T.z_set | exact T.z_sorted | exact T.z_str | exact T.z_tuple))
set_option hygiene false in
local macro_rules | `(tactic| tbr_iter "mg") => `(tactic| ((try dsimp only [L2.cxOf]); with_reducible first | exact T.c_ALPHABET | exact T.c_MAX_LETTERS | exact T.c_MAX_COLUMNS))
namespace Ax
section
variable {P : Program} {w : World} {K : PySem.W.Frag} {mg : Str → Option Value} {base : Heap}
set_option hygiene false in
local macro_rules | `(tactic| tbr_iter "var") => `(tactic| first | ((with_reducible show W _ (.Name "columns" _) _ _ _); refine w_var 0 rfl (by tbr_iter "vis") rfl ?_) | ((with_reducible show W _ (.Name "rows" _) _ _ _); refine w_var 1 rfl (by tbr_iter "vis") rfl ?_))
set_option hygiene false in
local macro_rules | `(tactic| tbr_iter "set") => `(tactic| first | ((with_reducible show WB _ (.Assign [.Name "columns" _] _ _ :: _) _ _ _); refine wb_cons (ws_set 0 ?_ rfl nd)) | ((with_reducible show WB _ (.Assign [.Name "rows" _] _ _ :: _) _ _ _); refine wb_cons (ws_set 1 ?_ rfl nd)))
theorem ok_table_in (T : Txt K mg) : Callee P w K mg base "table_in" 7 ["columns", "rows"] (spTableIn K) := by
  refine def_ok T.f_table_in sc_table_in (fun _ _ _ _ _ _ us hl => match us, hl with | [_, _], _ => rfl) (fun vs H Q E h => ?_) fun f cdv A outer s H vs Q E hr h => ?_
  · obtain ⟨p, c, us, raw, rfl, _⟩ := h; rfl
  obtain ⟨p, c, us, raw, rfl, hc, hp, hl, hrs, hn, k⟩ := h
  have nd := sc_table_in.nd
  refine wb_cons (ws_ret (w_makeS T.k_Table (ok_tab_init T) hr passL (w_glob (glob_ref T.g_Table) ⟨rfl, ?_⟩)))
  tbr_iter "go"
  refine wa_star ?_
  tbr_iter "go"
  refine ⟨p, us, rfl, hp, ?_⟩
  tbr_iter "go"
  rw [List.append_nil]
  exact tabI_make hc hl hrs hn k
set_option hygiene false in
local macro_rules | `(tactic| tbr_iter "var") => `(tactic| first | ((with_reducible show W _ (.Name "self" _) _ _ _); refine w_var 0 rfl (by tbr_iter "vis") rfl ?_))
set_option hygiene false in
local macro_rules | `(tactic| tbr_iter "set") => `(tactic| first | ((with_reducible show WB _ (.Assign [.Name "self" _] _ _ :: _) _ _ _); refine wb_cons (ws_set 0 ?_ rfl nd)))
theorem ok_tab_len (T : Txt K mg) : FnP P w K mg base 1 (He.ma K (He.ga K "Table") "__len__") (spTabLen K) := by
  refine meth_okR T.f_Table___len__ sc_Table___len__ (fun _ _ _ _ _ _ us hl => match us, hl with | [_], _ => rfl) (fun vs H Q E h => ?_) fun cdv A outer s H vs Q E hr h => ?_
  · obtain ⟨a, c, r1, rfl, _⟩ := h; rfl
  obtain ⟨a, c, r1, rfl, ha, k⟩ := h
  have nd := sc_Table___len__.nd
  have kc := T.kc_Table
  obtain ⟨dx, q1, d1, h1, ⟨us1, t1, w1⟩, _⟩ := id ha
  tbr_iter "go"
  refine w_fld kc.c T.a_Table_own_rows ?_
  tbr_iter "go"
  refine ⟨a, dx, _, _, rfl, h1, rfl, wa_nil (kv_len_seq (Or.inr (SqT.of t1)) ?_)⟩
  rw [w1.len]
  exact k H (Same.refl _)
set_option hygiene false in
local macro_rules | `(tactic| tbr_iter "var") => `(tactic| first | ((with_reducible show W _ (.Name "self" _) _ _ _); refine w_var 0 rfl (by tbr_iter "vis") rfl ?_))
set_option hygiene false in
local macro_rules | `(tactic| tbr_iter "set") => `(tactic| first | ((with_reducible show WB _ (.Assign [.Name "self" _] _ _ :: _) _ _ _); refine wb_cons (ws_set 0 ?_ rfl nd)))
theorem ok_tab_cols (T : Txt K mg) : ∃ fd, FnOk P w K mg base (L2.CX P w) 1 (He5.wf K (He.ga K "Table") "property" "columns") fd ["self"] (spTabCols K) ∧ Binds K fd ["self"] [] := by
  obtain ⟨fd, F⟩ := T.f_Table_columns
  refine ⟨fd, F.ok sc_Table_columns (fun vs H Q E h => ?_) fun cdv A outer s H vs Q E hr h => ⟨_, WB.pss, ?_⟩, F.bindsN fun _ _ _ _ _ _ us hl => match us, hl with | [_], _ => rfl⟩
  · obtain ⟨a, c, rows, rfl, _⟩ := h; rfl
  obtain ⟨a, c, rows, rfl, ht, k⟩ := h
  have nd := sc_Table_columns.nd
  obtain ⟨dx, q, d, h1, _⟩ := ht
  refine wb_cons (ws_ret (w_fld T.kc_Table.c T.a_Table_own_columns ?_))
  tbr_iter "go"
  exact ⟨a, dx, _, _, rfl, h1, rfl, k⟩
set_option hygiene false in
local macro_rules | `(tactic| tbr_iter "var") => `(tactic| first | ((with_reducible show W _ (.Name "self" _) _ _ _); refine w_var 0 rfl (by tbr_iter "vis") rfl ?_))
set_option hygiene false in
local macro_rules | `(tactic| tbr_iter "set") => `(tactic| first | ((with_reducible show WB _ (.Assign [.Name "self" _] _ _ :: _) _ _ _); refine wb_cons (ws_set 0 ?_ rfl nd)))
theorem ok_tab_rows (T : Txt K mg) : ∃ fd, FnOk P w K mg base (L2.CX P w) 1 (He5.wf K (He.ga K "Table") "property" "rows") fd ["self"] (spTabRows K) ∧ Binds K fd ["self"] [] := by
  obtain ⟨fd, F⟩ := T.f_Table_rows
  refine ⟨fd, F.ok sc_Table_rows (fun vs H Q E h => ?_) fun cdv A outer s H vs Q E hr h => ⟨_, WB.pss, ?_⟩, F.bindsN fun _ _ _ _ _ _ us hl => match us, hl with | [_], _ => rfl⟩
  · obtain ⟨a, c, rows, rfl, _⟩ := h; rfl
  obtain ⟨a, c, rows, rfl, ht, k⟩ := h
  have nd := sc_Table_rows.nd
  obtain ⟨dx, q, d, h1, ⟨us, h2, h3⟩, _⟩ := ht
  refine wb_cons (ws_ret (w_fld T.kc_Table.c T.a_Table_own_rows ?_))
  tbr_iter "go"
  exact ⟨a, dx, _, _, rfl, h1, rfl, k q us h2 h3⟩
set_option hygiene false in
local macro_rules | `(tactic| tbr_iter "var") => `(tactic| first | ((with_reducible show W _ (.Name "value" _) _ _ _); refine w_var 0 rfl (by tbr_iter "vis") rfl ?_) | ((with_reducible show W _ (.Name "name" _) _ _ _); refine w_var 1 rfl (by tbr_iter "vis") rfl ?_))
set_option hygiene false in
local macro_rules | `(tactic| tbr_iter "set") => `(tactic| first | ((with_reducible show WB _ (.Assign [.Name "value" _] _ _ :: _) _ _ _); refine wb_cons (ws_set 0 ?_ rfl nd)) | ((with_reducible show WB _ (.Assign [.Name "name" _] _ _ :: _) _ _ _); refine wb_cons (ws_set 1 ?_ rfl nd)))
theorem ok_is_rowX (T : Txt K mg) : Callee P w K mg base "is_row" 2 ["value"] (spIsRowX K) := by
  refine def_ok T.f_is_row sc_is_row (fun _ _ _ _ _ _ us hl => match us, hl with | [_], _ => rfl) (fun vs H Q E h => ?_) fun f cdv A outer s H vs Q E hr h => ?_
  · obtain ⟨v, o, rfl, _⟩ := h; rfl
  obtain ⟨v, o, rfl, a, k⟩ := h
  have nd := sc_is_row.nd
  have go : ∀ {xs : List V} {q : Addr}, SqT K H q xs → xs.length < sizeLine → v = .ref q → (∀ x ∈ xs, ∃ d, AnyV K H x d ∧ d.any isNameD = isNameV x) → xs.all isNameV = rowB o → WB (cxOf (L2.CX P w) P w K mg base n_is_row "is_row" (defScope s_is_row) f cdv A outer s H E) (defBody s_is_row) { nx := fun _ H' => Q .non H', rt := Q } (start n_is_row [v]) H := fun {xs q} hq hl ev hx he => by
    subst ev
    tbr_iter "go"
    refine kv_isiB (tyX_tup hq) (k := true) (by decide +kernel) ⟨_, rfl, iteT ?_⟩
    refine w_one ?_
    refine w_allLc 1 isNameV T.z_all rfl nd (by tbr_iter "blk") rfl (fun _ _ _ _ _ => ⟨Or.inl rfl, Or.inr rfl⟩) (wi_val ?_)
    tbr_iter "go"
    refine itv_tup hq ⟨_, seqIt_tup hq, hl, fun x hxm H2 s2 _ _ _ _ _ => ?_, fun H2 s2 => ?_⟩
    · obtain ⟨d, hd, e⟩ := hx x hxm
      refine w_call (ok_is_name T) (hr.mono (by decide)) passL ?_
      tbr_iter "go"
      exact ⟨x, d, rfl, anyV_same s2 hd, fun H3 s3 => ⟨s3, by rw [e]⟩⟩
    · rw [he]
      exact k H2 s2
  cases a with
  | @row a r h ok =>
    refine go (SqT.of h) ?_ rfl (fun x hx => ?_) ?_
    · have := okD.len ok
      rwa [List.length_map] at this ⊢
    · obtain ⟨z, hz, rfl⟩ := List.mem_map.mp hx
      exact ⟨some (.str z), .dat (.str z) (okD.item ok _ (List.mem_map_of_mem hz)), rfl⟩
    · rw [List.all_map]
      rfl
  | @dat v d h ok n =>
    have e : WB (cxOf (L2.CX P w) P w K mg base n_is_row "is_row" (defScope s_is_row) f cdv A outer s H E) (defBody s_is_row) { nx := fun _ H' => Q .non H', rt := Q } (start n_is_row [v]) H := by
      cases h with
      | @tup p xs ds hx ha =>
        refine go hx ?_ rfl (fun x hx => ?_) ?_
        · rw [dpa_len ha]
          exact okD.len ok
        · obtain ⟨i, hi⟩ := List.mem_iff_getElem?.mp hx
          obtain ⟨d, h1, h2⟩ := dpa_get ha hi
          exact ⟨some d, .dat h2 (okD.item ok d (List.mem_of_getElem? h1)), nameDV h2⟩
        · rw [nameAll ha]
          exact n
      | non => tbr_iter "go"; exact kv_isiB (.base .non) (k := false) (by decide +kernel) ⟨_, rfl, iteF (k H (Same.refl _))⟩
      | bl b => tbr_iter "go"; exact kv_isiB (.base (.bl b)) (k := false) (by decide +kernel) ⟨_, rfl, iteF (k H (Same.refl _))⟩
      | int i => tbr_iter "go"; exact kv_isiB (.base (.int i)) (k := false) (by decide +kernel) ⟨_, rfl, iteF (k H (Same.refl _))⟩
      | str z => tbr_iter "go"; exact kv_isiB (.base (.str z)) (k := false) (by decide +kernel) ⟨_, rfl, iteF (k H (Same.refl _))⟩
      | @lst p xs ds h1 h2 => tbr_iter "go"; exact kv_isiB (t := "list") (dp_ty (.lst h1 h2)) (k := false) (by decide +kernel) ⟨_, rfl, iteF (k H (Same.refl _))⟩
    exact e
  | @dct a h =>
    tbr_iter "go"
    exact kv_isiB (dict_ty h) (k := false) (by decide +kernel) ⟨_, rfl, iteF (k H (Same.refl _))⟩
  | @mix a b z h hb ok =>
    refine go (SqT.of h) (show 2 < sizeLine by decide) rfl (fun x hx => ?_) ?_
    · rcases List.mem_cons.mp hx with rfl | hx
      · exact ⟨some (.str z), .dat (.str z) ok, rfl⟩
      · rw [List.mem_singleton.mp hx]
        exact ⟨none, AnyG.any (.reg (.dct hb)) rfl, rfl⟩
    · simp [isNameV, rowB]
set_option hygiene false in
local macro_rules | `(tactic| tbr_iter "var") => `(tactic| first | ((with_reducible show W _ (.Name "self" _) _ _ _); refine w_var 0 rfl (by tbr_iter "vis") rfl ?_) | ((with_reducible show W _ (.Name "value" _) _ _ _); refine w_var 1 rfl (by tbr_iter "vis") rfl ?_))
set_option hygiene false in
local macro_rules | `(tactic| tbr_iter "set") => `(tactic| first | ((with_reducible show WB _ (.Assign [.Name "self" _] _ _ :: _) _ _ _); refine wb_cons (ws_set 0 ?_ rfl nd)) | ((with_reducible show WB _ (.Assign [.Name "value" _] _ _ :: _) _ _ _); refine wb_cons (ws_set 1 ?_ rfl nd)))
theorem ok_likeX (T : Txt K mg) : FnP P w K mg base 1 (He.ma K (He.ga K "Table") "is_like") (spLikeX K) := by
  refine meth_okR T.f_Table_is_like sc_Table_is_like (fun _ _ _ _ _ _ us hl => match us, hl with | [_, _], _ => rfl) (fun vs H Q E h => ?_) fun cdv A outer s H vs Q E hr h => ?_
  · obtain ⟨a, v, c, r1, t, rfl, _⟩ := h; rfl
  obtain ⟨a, v, c, r1, t, rfl, ha, hv, k⟩ := h
  have nd := sc_Table_is_like.nd
  have kc := T.kc_Table
  obtain ⟨dx, q1, d1, h1, _⟩ := ha
  cases t with
  | none =>
    obtain ⟨ty, ht, hty⟩ := hv
    tbr_iter "go"
    refine w_glob (glob_ref T.g_Table) ?_
    tbr_iter "go"
    exact kv_isC hty (.own _) (kit_other T ht) ⟨_, rfl, iteF (k H (Same.refl _))⟩
  | some t =>
    obtain ⟨d, r2⟩ := t
    obtain ⟨b, rfl, hb⟩ := hv
    obtain ⟨dy, q2, d2, h2, _⟩ := hb
    tbr_iter "go"
    refine w_glob (glob_ref T.g_Table) ?_
    tbr_iter "go"
    refine kv_isC (kc.ty h2) (.own _) T.i_Table_Table ?_
    refine ⟨_, rfl, iteT (w_one (w_cmp (w_fld kc.c T.a_Table_own_columns ?_)))⟩
    tbr_iter "go"
    refine ⟨b, dy, _, _, rfl, h2, rfl, w_fld kc.c T.a_Table_own_columns ?_⟩
    tbr_iter "go"
    refine ⟨a, dx, _, _, rfl, h1, rfl, cv_eq rfl ?_⟩
    refine qb (k H (Same.refl _)) ?_
    show decide (d = c) = _
    simp
    constructor <;> intro e <;> omega
set_option hygiene false in
local macro_rules | `(tactic| tbr_iter "var") => `(tactic| first | ((with_reducible show W _ (.Name "self" _) _ _ _); refine w_var 0 rfl (by tbr_iter "vis") rfl ?_) | ((with_reducible show W _ (.Name "other" _) _ _ _); refine w_var 1 rfl (by tbr_iter "vis") rfl ?_))
set_option hygiene false in
local macro_rules | `(tactic| tbr_iter "set") => `(tactic| first | ((with_reducible show WB _ (.Assign [.Name "self" _] _ _ :: _) _ _ _); refine wb_cons (ws_set 0 ?_ rfl nd)) | ((with_reducible show WB _ (.Assign [.Name "other" _] _ _ :: _) _ _ _); refine wb_cons (ws_set 1 ?_ rfl nd)))
theorem ok_req_like (T : Txt K mg) : FnP P w K mg base 2 (He.ma K (He.ga K "Table") "require_like") (spReqLike K) := by
  refine meth_okR T.f_Table_require_like sc_Table_require_like (fun _ _ _ _ _ _ us hl => match us, hl with | [_, _], _ => rfl) (fun vs H Q E h => ?_) fun cdv A outer s H vs Q E hr h => ?_
  · obtain ⟨a, b, c, r1, r2, rfl, _⟩ := h; rfl
  obtain ⟨a, b, c, r1, r2, rfl, ha, hb, k⟩ := h
  have nd := sc_Table_require_like.nd
  have kc := T.kc_Table
  obtain ⟨dx, q1, d1, h1, _⟩ := id ha
  refine wb_cons (ws_if (wt_not (wt_val (w_meth kc.c T.m_Table_is_like (ok_likeX T) hr passL ?_))))
  tbr_iter "go"
  refine ⟨a, dx, _, rfl, h1, rfl, ?_⟩
  tbr_iter "go"
  refine ⟨a, .ref b, c, r1, some (c, r2), rfl, ha, ⟨b, rfl, hb⟩, fun H2 s2 => ⟨_, rfl, ?_⟩⟩
  rw [show likeO c (some (c, r2)) = true from decide_eq_true rfl]
  exact iteF (wb_nil (wb_nil (k H2 s2)))
set_option hygiene false in
local macro_rules | `(tactic| tbr_iter "var") => `(tactic| first | ((with_reducible show W _ (.Name "self" _) _ _ _); refine w_var 0 rfl (by tbr_iter "vis") rfl ?_) | ((with_reducible show W _ (.Name "other" _) _ _ _); refine w_var 1 rfl (by tbr_iter "vis") rfl ?_))
set_option hygiene false in
local macro_rules | `(tactic| tbr_iter "set") => `(tactic| first | ((with_reducible show WB _ (.Assign [.Name "self" _] _ _ :: _) _ _ _); refine wb_cons (ws_set 0 ?_ rfl nd)) | ((with_reducible show WB _ (.Assign [.Name "other" _] _ _ :: _) _ _ _); refine wb_cons (ws_set 1 ?_ rfl nd)))
theorem ok_tab_eqX (T : Txt K mg) : FnP P w K mg base 2 (He.ma K (He.ga K "Table") "__eq__") (spTabEqX K) := by
  refine meth_okR T.f_Table___eq__ sc_Table___eq__ (fun _ _ _ _ _ _ us hl => match us, hl with | [_, _], _ => rfl) (fun vs H Q E h => ?_) fun cdv A outer s H vs Q E hr h => ?_
  · obtain ⟨a, v, c, r1, t, rfl, _⟩ := h; rfl
  obtain ⟨a, v, c, r1, t, rfl, ha, hv, n1, n2, k⟩ := h
  have nd := sc_Table___eq__.nd
  have kc := T.kc_Table
  have hu := room64 hr
  obtain ⟨dx, q1, d1, h1, ⟨us1, t1, w1⟩, _⟩ := id ha
  cases t with
  | none =>
    obtain ⟨ty, ht, hty⟩ := hv
    tbr_iter "go"
    refine w_glob (glob_ref T.g_Table) ?_
    tbr_iter "go"
    exact kv_isC hty (.own _) (kit_other T ht) ⟨_, rfl, iteF (k H (Same.refl _))⟩
  | some t =>
    obtain ⟨d, r2⟩ := t
    obtain ⟨b, rfl, hb⟩ := hv
    have n2 := n2 d r2 rfl
    obtain ⟨dy, q2, d2, h2, ⟨us2, t2, w2⟩, _⟩ := id hb
    tbr_iter "go"
    refine w_glob (glob_ref T.g_Table) ?_
    tbr_iter "go"
    refine kv_isC (kc.ty h2) (.own _) T.i_Table_Table ?_
    refine ⟨_, rfl, iteT (w_and (w_meth kc.c T.m_Table_is_like (ok_likeX T) hr passL ?_))⟩
    tbr_iter "go"
    refine ⟨a, dx, _, rfl, h1, rfl, ?_⟩
    tbr_iter "go"
    refine ⟨a, .ref b, c, r1, some (d, r2), rfl, ha, ⟨b, rfl, hb⟩, fun H2 s2 => ⟨_, rfl, w_if2 (fun e => ?_) (fun e => ?_)⟩⟩
    · have e := of_decide_eq_true e
      refine w_one (w_cmp (w_fld kc.c T.a_Table_own_rows ?_))
      tbr_iter "go"
      refine ⟨a, dx, _, _, rfl, s2 _ _ h1, rfl, w_fld kc.c T.a_Table_own_rows ?_⟩
      tbr_iter "go"
      refine ⟨b, dy, _, _, rfl, s2 _ _ h2, rfl, cv_eqD hu (dp_rows (s2 _ _ t1) (rows_sl w1 (Sl.of s2))) (dp_rows (s2 _ _ t2) (rows_sl w2 (Sl.of s2))) (shaped_rows n1) (shaped_rows n2) ?_⟩
      rw [eqv_rows]
      refine qb (k H2 s2) ?_
      simp [eqO, e]
    · have e := of_decide_eq_false e
      refine qb (k H2 s2) ?_
      simp [eqO, e]
set_option hygiene false in
local macro_rules | `(tactic| tbr_iter "var") => `(tactic| first | ((with_reducible show W _ (.Name "self" _) _ _ _); refine w_var 0 rfl (by tbr_iter "vis") rfl ?_) | ((with_reducible show W _ (.Name "value" _) _ _ _); refine w_var 1 rfl (by tbr_iter "vis") rfl ?_) | ((with_reducible show W _ (.Name "row" _) _ _ _); refine w_var 2 rfl (by tbr_iter "vis") rfl ?_))
set_option hygiene false in
local macro_rules | `(tactic| tbr_iter "set") => `(tactic| first | ((with_reducible show WB _ (.Assign [.Name "self" _] _ _ :: _) _ _ _); refine wb_cons (ws_set 0 ?_ rfl nd)) | ((with_reducible show WB _ (.Assign [.Name "value" _] _ _ :: _) _ _ _); refine wb_cons (ws_set 1 ?_ rfl nd)) | ((with_reducible show WB _ (.Assign [.Name "row" _] _ _ :: _) _ _ _); refine wb_cons (ws_set 2 ?_ rfl nd)))
theorem ok_tab_inX (T : Txt K mg) : FnP P w K mg base 2 (He.ma K (He.ga K "Table") "is_within") (spTabInX K) := by
  refine meth_okR T.f_Table_is_within sc_Table_is_within (fun _ _ _ _ _ _ us hl => match us, hl with | [_, _], _ => rfl) (fun vs H Q E h => ?_) fun cdv A outer s H vs Q E hr h => ?_
  · obtain ⟨a, v, c, r1, t, rfl, _⟩ := h; rfl
  obtain ⟨a, v, c, r1, t, rfl, ha, hv, hl, k⟩ := h
  have nd := sc_Table_is_within.nd
  have kc := T.kc_Table
  have hu := room64 hr
  obtain ⟨dx, q1, d1, h1, ⟨us1, t1, w1⟩, _⟩ := id ha
  refine wb_cons (ws_ret (w_and (w_meth kc.c T.m_Table_is_like (ok_likeX T) hr passL ?_)))
  tbr_iter "go"
  refine ⟨a, dx, _, rfl, h1, rfl, ?_⟩
  tbr_iter "go"
  refine ⟨a, v, c, r1, t, rfl, ha, hv, fun H2 s2 => ⟨_, rfl, w_if2 (fun e => ?_) (fun e => ?_)⟩⟩
  · cases t with
    | none => cases e
    | some t =>
      obtain ⟨d, r2⟩ := t
      obtain ⟨b, rfl, hb⟩ := hv
      have e := of_decide_eq_true e
      obtain ⟨dy, q2, d2, h2, _, kvs, hk, ek⟩ := id hb
      refine w_one (w_callB T.z_all (wa_cons (w_lcI [("row", 2)] (gName 2) tYes (fun _ _ _ _ _ => pg_name nd rfl (Or.inl rfl) (Or.inr rfl)) (fun _ _ _ _ _ => pts_nil) rfl nd (by tbr_iter "blk") (lcC_I mono_name mono_yes (wi_val (w_fld kc.c T.a_Table_own_rows ?_))))))
      tbr_iter "go"
      refine ⟨a, dx, _, _, rfl, s2 _ _ h1, rfl, ?_⟩
      refine itv_tup (SqT.of (s2 _ _ t1)) ⟨_, _, itN_seq (seqIt_tup (SqT.of (s2 _ _ t1))), by rw [w1.len]; exact hl, fun i => r1[i]?.map fun r => V.bl (decide (r ∈ r2)), fun i x H3 hi s3 hv => ?_, fun D H3 s3 n3 h3 => ?_⟩
      · obtain ⟨r, er, p, rfl, hp⟩ := w1.at hv
        have s23 := s2.trans s3
        refine ⟨rfl, Same.refl _, fun _ _ _ _ _ => ?_⟩
        tbr_iter "go"
        refine w_fld kc.c T.a_Table_own_places ?_
        tbr_iter "go"
        refine ⟨b, dy, _, _, rfl, s23 _ _ h2, rfl, cv_inT (k := r.map Sum.inr) hu (s23 _ _ hk) ?_ ⟨Same.refl _, ?_⟩⟩
        · rw [List.map_map]
          exact s23 _ _ hp
        · show r1[i]?.map _ = _
          rw [er, key_in ek]
          rfl
      · rw [w1.len, fm_get] at h3
        refine wa_nil (kv_all rfl (bs := r1.map fun r => decide (r ∈ r2)) (SqL.of (by rw [h3, List.map_map]; rfl)) ?_)
        refine qb (k H3 (s2.trans s3)) ?_
        show (decide (d = c) && _) = _
        rw [decide_eq_true e, Bool.true_and, List.all_map]
        rfl
  · refine qb (k H2 s2) ?_
    cases t with
    | none => rfl
    | some t =>
      obtain ⟨d, r2⟩ := t
      show (decide (d = c) && _) = _
      rw [show decide (d = c) = false from e, Bool.false_and]
end
end Ax
end
section
set_option maxHeartbeats 4000000
open PySem PySem.Spec PyProof.Rows L2 Ax
set_option hygiene false in
local macro_rules | `(tactic| tbr_iter "boot") => `(tactic| with_reducible first | exact Ax.b_len | exact Ax.b_all | exact Ax.b_any | exact Ax.b_sorted | exact Ax.b_isinstance | exact Ax.b_abs | exact Ax.b_max | exact Ax.b_min | exact Ax.b_sum | exact Ax.b_repr | exact Ax.b_iter | exact Ax.b_ord | exact Ax.b_chr | exact Ax.b_str | exact Ax.b_int | exact Ax.b_bool | exact Ax.b_tuple | exact Ax.b_list | exact Ax.b_dict | exact Ax.b_set | exact Ax.b_range | exact Ax.b_enumerate | exact Ax.b_zip)
set_option hygiene false in
local macro_rules | `(tactic| tbr_iter "vis") => `(tactic| first | exact Or.inl rfl | exact Or.inr (Or.inl rfl) | exact Or.inr (Or.inr rfl))
set_option hygiene false in
local macro_rules | `(tactic| tbr_iter "w") => `(tactic| first
  | refine wb_cons ?_
  | refine wb_nil ?_
  | refine ws_ret ?_
  | refine ws_if ?_
  | refine ws_sub ?_
  | refine wa_cons ?_
  | refine wa_nil ?_
  | refine w_int ?_
  | refine w_str ?_
  | refine w_bl ?_
  | refine w_non ?_
  | tbr_iter "var"
  | refine w_bin ?_
  | refine w_cmp ?_
  | refine w_chain ?_
  | refine w_and ?_
  | refine w_or ?_
  | refine w_one ?_
  | refine w_not ?_
  | refine w_ix ?_
  | refine w_ifExp ?_
  | refine w_tup ?_
  | refine w_lst ?_
  | refine wt_not ?_
  | refine wt_bool ?_
  | refine ww_and ?_
  | refine ww_and1 ?_
  | refine ww_or ?_
  | refine ww_or1 ?_
  | refine wt_cmp ?_
  | refine wt_val ?_
  | tbr_iter "call"
  | (refine w_glob (by tbr_iter "mg") ?_)
  | (refine w_callB (by tbr_iter "z") ?_)
  | (refine w_callTy (by tbr_iter "z") ?_)
  | (refine w_bltT (by tbr_iter "z") ?_))
set_option hygiene false in
local macro_rules | `(tactic| tbr_iter "blk") => `(tactic| first | exact blkOk_by (by dsimp only [cxOf, envOfC]; decide +kernel))
set_option hygiene false in
local macro_rules | `(tactic| tbr_iter "iff") => `(tactic| first
  | refine iteT ?_
  | refine iteF ?_
  | refine w_if2 (fun _ => ?_) (fun _ => ?_))
set_option hygiene false in
local macro_rules | `(tactic| tbr_iter "sc") => `(tactic| first | omega | decide)
set_option hygiene false in
local macro_rules | `(tactic| tbr_iter "at") => `(tactic| first | exact atI_0 | exact atI_1 | exact atI_2)
set_option hygiene false in
local macro_rules | `(tactic| tbr_iter "sql") => `(tactic| ((try dsimp only [L2.cxOf, L2.Cx.blk]); with_reducible first | assumption | exact SqL.of (by assumption)))
set_option hygiene false in
local macro_rules | `(tactic| tbr_iter "sqt") => `(tactic| ((try dsimp only [L2.cxOf, L2.Cx.blk]); with_reducible first | assumption | exact SqT.of (by assumption)))
set_option hygiene false in
local macro_rules | `(tactic| tbr_iter "v") => `(tactic| first
  | refine bv_add ?_
  | refine bv_sub ?_
  | ((with_reducible show BinV _ .Mult _ _ _ _); refine bv_mul (Or.inl ⟨by tbr_iter "sc", by tbr_iter "sc"⟩) ?_)
  | ((with_reducible show BinV _ .Mult _ _ _ _); refine bv_mul (Or.inr ⟨by tbr_iter "sc", by tbr_iter "sc"⟩) ?_)
  | ((with_reducible show BinV _ .Mod _ _ _ _); refine bv_mod (by tbr_iter "sc") ?_)
  | ((with_reducible show BinV _ .FloorDiv _ _ _ _); refine bv_fdiv ⟨by tbr_iter "sc", by tbr_iter "sc"⟩ ?_)
  | ((with_reducible show BinV _ .Pow _ _ _ _); refine bv_pow ⟨by decide, by decide +kernel⟩ ?_)
  | refine cv_lt ?_
  | refine cv_le ?_
  | refine cv_gt ?_
  | refine cv_ge ?_
  | ((with_reducible show CmpV _ .Eq _ _ _ _); refine cv_eq rfl ?_)
  | ((with_reducible show CmpV _ .NotEq _ _ _ _); refine cv_ne rfl ?_)
  | refine iv_list (by tbr_iter "sql") (by tbr_iter "at") ?_
  | refine iv_tup (by tbr_iter "sqt") (by tbr_iter "at") ?_
  | refine kv_len_seq (Or.inl (by tbr_iter "sql")) ?_
  | refine kv_len_seq (Or.inr (by tbr_iter "sqt")) ?_
  | refine kv_int ?_
  | refine kv_intB ?_
  | refine kv_abs ?_
  | refine kv_max2 rfl ?_
  | refine kv_min2 rfl ?_)
set_option hygiene false in
local macro_rules | `(tactic| tbr_iter "b") => `(tactic| first
  | refine ⟨_, rfl, iteT ?_⟩
  | refine ⟨_, rfl, iteF ?_⟩
  | refine iteT ?_
  | refine iteF ?_)
set_option hygiene false in
local macro_rules | `(tactic| tbr_iter "go") => `(tactic| repeat (first | tbr_iter "w" | tbr_iter "v" | tbr_iter "b"))
set_option hygiene false in
local macro_rules | `(tactic| tbr_iter "nof") => `(tactic| (intro d hd; cases d <;> first | rfl | exact absurd rfl (hd _)))
set_option hygiene false in
local macro_rules | `(tactic| tbr_iter "e1") => `(tactic| first | ((with_reducible show W _ _ _ _ _); tbr_iter "w") | ((with_reducible show WA _ _ _ _ _); tbr_iter "w") | ((with_reducible show WT _ _ _ _ _); tbr_iter "w") | ((with_reducible show WW _ _ _ _ _); tbr_iter "w") | tbr_iter "v")
set_option hygiene false in
local macro_rules | `(tactic| tbr_iter "ex") => `(tactic| repeat (tbr_iter "e1"))
set_option hygiene false in
local macro_rules | `(tactic| tbr_iter "z") => `(tactic| ((try dsimp only [L2.cxOf]); with_reducible first | exact T.z_IndexError | exact T.z_ValueError | exact T.z_abs | exact T.z_all | exact T.z_bool | exact T.z_classmethod | exact T.z_enumerate | exact T.z_int | exact T.z_isinstance | exact T.z_iter | exact T.z_len | exact T.z_list | exact T.z_max | exact T.z_min | exact T.z_property | exact T.z_range | exact T.z_repr | exact T.z_set | exact T.z_sorted | exact T.z_str | exact T.z_tuple))
set_option hygiene false in
local macro_rules | `(tactic| tbr_iter "mg") => `(tactic| ((try dsimp only [L2.cxOf]); with_reducible first | exact T.c_ALPHABET | exact T.c_MAX_LETTERS | exact T.c_MAX_COLUMNS))
namespace Ax
section
variable {P : Program} {w : World} {K : PySem.W.Frag} {mg : Str → Option Value} {base : Heap}
set_option hygiene false in
local macro_rules | `(tactic| tbr_iter "var") => `(tactic| first | ((with_reducible show W _ (.Name "self" _) _ _ _); refine w_var 0 rfl (by tbr_iter "vis") rfl ?_) | ((with_reducible show W _ (.Name "other" _) _ _ _); refine w_var 1 rfl (by tbr_iter "vis") rfl ?_))
set_option hygiene false in
local macro_rules | `(tactic| tbr_iter "set") => `(tactic| first | ((with_reducible show WB _ (.Assign [.Name "self" _] _ _ :: _) _ _ _); refine wb_cons (ws_set 0 ?_ rfl nd)) | ((with_reducible show WB _ (.Assign [.Name "other" _] _ _ :: _) _ _ _); refine wb_cons (ws_set 1 ?_ rfl nd)))
theorem ok_tab_or (T : Txt K mg) : FnP P w K mg base 8 (He.ma K (He.ga K "Table") "__or__") (spTabOp K fun r1 r2 => r1 ++ r2) := by
  refine meth_okR T.f_Table___or__ sc_Table___or__ (fun _ _ _ _ _ _ us hl => match us, hl with | [_, _], _ => rfl) (fun vs H Q E h => ?_) fun cdv A outer s H vs Q E hr h => ?_
  · obtain ⟨a, b, c, r1, r2, rfl, _⟩ := h; rfl
  obtain ⟨a, b, c, r1, r2, rfl, hc, ha, hb, n1, n2, l1, l2, k⟩ := h
  have nd := sc_Table___or__.nd
  have kc := T.kc_Table
  obtain ⟨dx, q1, d1, h1, ⟨us1, t1, w1⟩, _⟩ := id ha
  obtain ⟨dy, q2, d2, h2, ⟨us2, t2, w2⟩, _⟩ := id hb
  refine wb_cons (ws_expr (w_meth kc.c T.m_Table_require_like (ok_req_like T) (hr.mono (by decide)) passL ?_))
  tbr_iter "go"
  refine ⟨a, dx, _, rfl, h1, rfl, ?_⟩
  tbr_iter "go"
  refine ⟨a, b, c, r1, r2, rfl, ha, hb, fun H2 s2 => ?_⟩
  refine wb_cons (ws_ret (w_call (ok_table_in T) hr passL (wa_cons (w_fld kc.c T.a_Table_own_columns ?_))))
  tbr_iter "go"
  refine ⟨a, dx, _, _, rfl, s2 _ _ h1, rfl, wa_cons (w_bin (w_fld kc.c T.a_Table_own_rows ?_))⟩
  tbr_iter "go"
  refine ⟨a, dx, _, _, rfl, s2 _ _ h1, rfl, w_fld kc.c T.a_Table_own_rows ?_⟩
  tbr_iter "go"
  have big : us1.length + us2.length ≤ 2000 := by rw [w1.len, w2.len]; omega
  refine ⟨b, dy, _, _, rfl, s2 _ _ h2, rfl, bv_catT (SqT.of (s2 _ _ t1)) (SqT.of (s2 _ _ t2)) (Nat.le_trans big (by decide)) fun q H3 s3 h3 => wa_nil ⟨q, c, _, _, rfl, hc, .inl h3, ?_, (rows_sl w1 (Sl.of (s2.trans s3))).app (rows_sl w2 (Sl.of (s2.trans s3))), fun r hr => ?_, fun x H4 s4 n4 t4 => k x H4 (s2.trans (s3.trans s4)) (same_nul (s2.trans s3) n4) t4⟩⟩
  · rw [List.length_append]
    exact Nat.lt_of_le_of_lt big (by decide)
  · rcases List.mem_append.mp hr with z | z
    · exact n1 r z
    · exact n2 r z
set_option hygiene false in
local macro_rules | `(tactic| tbr_iter "var") => `(tactic| first | ((with_reducible show W _ (.Name "self" _) _ _ _); refine w_var 0 rfl (by tbr_iter "vis") rfl ?_) | ((with_reducible show W _ (.Name "other" _) _ _ _); refine w_var 1 rfl (by tbr_iter "vis") rfl ?_) | ((with_reducible show W _ (.Name "row" _) _ _ _); refine w_var 2 rfl (by tbr_iter "vis") rfl ?_))
set_option hygiene false in
local macro_rules | `(tactic| tbr_iter "set") => `(tactic| first | ((with_reducible show WB _ (.Assign [.Name "self" _] _ _ :: _) _ _ _); refine wb_cons (ws_set 0 ?_ rfl nd)) | ((with_reducible show WB _ (.Assign [.Name "other" _] _ _ :: _) _ _ _); refine wb_cons (ws_set 1 ?_ rfl nd)) | ((with_reducible show WB _ (.Assign [.Name "row" _] _ _ :: _) _ _ _); refine wb_cons (ws_set 2 ?_ rfl nd)))
theorem ok_tab_and (T : Txt K mg) : FnP P w K mg base 8 (He.ma K (He.ga K "Table") "__and__") (spTabOp K fun r1 r2 => r1.filter fun r => decide (r ∈ r2)) := by
  refine meth_okR T.f_Table___and__ sc_Table___and__ (fun _ _ _ _ _ _ us hl => match us, hl with | [_, _], _ => rfl) (fun vs H Q E h => ?_) fun cdv A outer s H vs Q E hr h => ?_
  · obtain ⟨a, b, c, r1, r2, rfl, _⟩ := h; rfl
  obtain ⟨a, b, c, r1, r2, rfl, hc, ha, hb, n1, n2, l1, l2, k⟩ := h
  have nd := sc_Table___and__.nd
  have kc := T.kc_Table
  have hu := room64 hr
  obtain ⟨dx, q1, d1, h1, ⟨us1, t1, w1⟩, _⟩ := id ha
  obtain ⟨dy, q2, d2, h2, _, kvs, hk, ek⟩ := id hb
  refine wb_cons (ws_expr (w_meth kc.c T.m_Table_require_like (ok_req_like T) (hr.mono (by decide)) passL ?_))
  tbr_iter "go"
  refine ⟨a, dx, _, rfl, h1, rfl, ?_⟩
  tbr_iter "go"
  refine ⟨a, b, c, r1, r2, rfl, ha, hb, fun H2 s2 => ?_⟩
  refine wb_cons (ws_ret (w_call (ok_table_in T) hr passL (wa_cons (w_fld kc.c T.a_Table_own_columns ?_))))
  tbr_iter "go"
  refine ⟨a, dx, _, _, rfl, s2 _ _ h1, rfl, wa_cons (w_lcI [("row", 2)] (gName 2) (tWT _ _ _) (fun _ _ _ _ _ => pg_name nd rfl (Or.inl rfl) (Or.inr rfl)) pts_wt rfl nd (by tbr_iter "blk") (lcC_I mono_name mono_wt (wi_val (w_fld kc.c T.a_Table_own_rows ?_))))⟩
  tbr_iter "go"
  refine ⟨a, dx, _, _, rfl, s2 _ _ h1, rfl, ?_⟩
  have ul : us1.length ≤ 1000 := by rw [w1.len]; exact l1
  refine itv_tup (SqT.of (s2 _ _ t1)) ⟨_, _, itN_seq (seqIt_tup (SqT.of (s2 _ _ t1))), Nat.lt_of_le_of_lt ul (by decide), fun i => if (r1[i]?.any fun r => decide (r ∈ r2)) = true then us1[i]? else none, fun i x H3 hi s3 hv => ?_, fun D H3 s3 n3 h3 => ?_⟩
  · have hv : us1[i]? = some x := hv
    obtain ⟨r, er, p, rfl, hp⟩ := w1.at hv
    have s23 := s2.trans s3
    refine ⟨rfl, fun _ _ _ _ _ => wt_cmp ?_⟩
    tbr_iter "go"
    refine w_fld kc.c T.a_Table_own_places ?_
    tbr_iter "go"
    refine ⟨b, dy, _, _, rfl, s23 _ _ h2, rfl, cv_inT (k := r.map Sum.inr) hu (s23 _ _ hk) ?_ ⟨_, rfl, Same.refl _, ?_⟩⟩
    · rw [List.map_map]
      exact s23 _ _ hp
    · rw [key_in ek]
      show (if decide (r ∈ r2) = true then _ else (if (r1[i]?.any fun r => decide (r ∈ r2)) = true then us1[i]? else none) = none)
      rw [er, hv]
      cases e : decide (r ∈ r2) with
      | true =>
        rw [if_pos rfl]
        intro _ _ _ _ _
        tbr_iter "go"
        refine ⟨Same.refl _, ?_⟩
        show (if (r1[i]?.any fun r => decide (r ∈ r2)) = true then us1[i]? else none) = _
        rw [er, hv]
        rw [if_pos (show Option.any (fun r => decide (r ∈ r2)) (some r) = true from e)]
      | false =>
        rw [if_neg Bool.false_ne_true]
        rw [if_neg (show ¬ Option.any (fun r => decide (r ∈ r2)) (some r) = true from by rw [Option.any_some, e]; exact Bool.false_ne_true)]
  · refine wa_nil ⟨D, c, _, _, rfl, hc, .inr (SqL.of h3), ?_, all2_keep _ (rows_sl w1 (Sl.of (s2.trans s3))), fun r hr => n1 r (List.mem_filter.mp hr).1, fun x H4 s4 n4 t4 => k x H4 (s2.trans (s3.trans s4)) (same_nul (s2.trans s3) n4) t4⟩
    rw [(all2_keep (fun r => decide (r ∈ r2)) (rows_sl w1 (Sl.of (s2.trans s3)))).len]
    exact Nat.lt_of_le_of_lt (Nat.le_trans (List.length_filter_le _ _) l1) (by decide)
set_option hygiene false in
local macro_rules | `(tactic| tbr_iter "var") => `(tactic| first | ((with_reducible show W _ (.Name "self" _) _ _ _); refine w_var 0 rfl (by tbr_iter "vis") rfl ?_) | ((with_reducible show W _ (.Name "other" _) _ _ _); refine w_var 1 rfl (by tbr_iter "vis") rfl ?_) | ((with_reducible show W _ (.Name "row" _) _ _ _); refine w_var 2 rfl (by tbr_iter "vis") rfl ?_))
set_option hygiene false in
local macro_rules | `(tactic| tbr_iter "set") => `(tactic| first | ((with_reducible show WB _ (.Assign [.Name "self" _] _ _ :: _) _ _ _); refine wb_cons (ws_set 0 ?_ rfl nd)) | ((with_reducible show WB _ (.Assign [.Name "other" _] _ _ :: _) _ _ _); refine wb_cons (ws_set 1 ?_ rfl nd)) | ((with_reducible show WB _ (.Assign [.Name "row" _] _ _ :: _) _ _ _); refine wb_cons (ws_set 2 ?_ rfl nd)))
theorem ok_tab_sub (T : Txt K mg) : FnP P w K mg base 8 (He.ma K (He.ga K "Table") "__sub__") (spTabOp K fun r1 r2 => r1.filter fun r => !decide (r ∈ r2)) := by
  refine meth_okR T.f_Table___sub__ sc_Table___sub__ (fun _ _ _ _ _ _ us hl => match us, hl with | [_, _], _ => rfl) (fun vs H Q E h => ?_) fun cdv A outer s H vs Q E hr h => ?_
  · obtain ⟨a, b, c, r1, r2, rfl, _⟩ := h; rfl
  obtain ⟨a, b, c, r1, r2, rfl, hc, ha, hb, n1, n2, l1, l2, k⟩ := h
  have nd := sc_Table___sub__.nd
  have kc := T.kc_Table
  have hu := room64 hr
  obtain ⟨dx, q1, d1, h1, ⟨us1, t1, w1⟩, _⟩ := id ha
  obtain ⟨dy, q2, d2, h2, _, kvs, hk, ek⟩ := id hb
  refine wb_cons (ws_expr (w_meth kc.c T.m_Table_require_like (ok_req_like T) (hr.mono (by decide)) passL ?_))
  tbr_iter "go"
  refine ⟨a, dx, _, rfl, h1, rfl, ?_⟩
  tbr_iter "go"
  refine ⟨a, b, c, r1, r2, rfl, ha, hb, fun H2 s2 => ?_⟩
  refine wb_cons (ws_ret (w_call (ok_table_in T) hr passL (wa_cons (w_fld kc.c T.a_Table_own_columns ?_))))
  tbr_iter "go"
  refine ⟨a, dx, _, _, rfl, s2 _ _ h1, rfl, wa_cons (w_lcI [("row", 2)] (gName 2) (tWT _ _ _) (fun _ _ _ _ _ => pg_name nd rfl (Or.inl rfl) (Or.inr rfl)) pts_wt rfl nd (by tbr_iter "blk") (lcC_I mono_name mono_wt (wi_val (w_fld kc.c T.a_Table_own_rows ?_))))⟩
  tbr_iter "go"
  refine ⟨a, dx, _, _, rfl, s2 _ _ h1, rfl, ?_⟩
  have ul : us1.length ≤ 1000 := by rw [w1.len]; exact l1
  refine itv_tup (SqT.of (s2 _ _ t1)) ⟨_, _, itN_seq (seqIt_tup (SqT.of (s2 _ _ t1))), Nat.lt_of_le_of_lt ul (by decide), fun i => if (r1[i]?.any fun r => !decide (r ∈ r2)) = true then us1[i]? else none, fun i x H3 hi s3 hv => ?_, fun D H3 s3 n3 h3 => ?_⟩
  · have hv : us1[i]? = some x := hv
    obtain ⟨r, er, p, rfl, hp⟩ := w1.at hv
    have s23 := s2.trans s3
    refine ⟨rfl, fun _ _ _ _ _ => wt_cmp ?_⟩
    tbr_iter "go"
    refine w_fld kc.c T.a_Table_own_places ?_
    tbr_iter "go"
    refine ⟨b, dy, _, _, rfl, s23 _ _ h2, rfl, cv_notInT (k := r.map Sum.inr) hu (s23 _ _ hk) ?_ ⟨_, rfl, Same.refl _, ?_⟩⟩
    · rw [List.map_map]
      exact s23 _ _ hp
    · rw [key_in ek]
      show (if (!decide (r ∈ r2)) = true then _ else (if (r1[i]?.any fun r => !decide (r ∈ r2)) = true then us1[i]? else none) = none)
      rw [er, hv]
      cases e : !decide (r ∈ r2) with
      | true =>
        rw [if_pos rfl]
        intro _ _ _ _ _
        tbr_iter "go"
        refine ⟨Same.refl _, ?_⟩
        show (if (r1[i]?.any fun r => !decide (r ∈ r2)) = true then us1[i]? else none) = _
        rw [er, hv]
        rw [if_pos (show Option.any (fun r => !decide (r ∈ r2)) (some r) = true from e)]
      | false =>
        rw [if_neg Bool.false_ne_true]
        rw [if_neg (show ¬ Option.any (fun r => !decide (r ∈ r2)) (some r) = true from by rw [Option.any_some, e]; exact Bool.false_ne_true)]
  · refine wa_nil ⟨D, c, _, _, rfl, hc, .inr (SqL.of h3), ?_, all2_keep _ (rows_sl w1 (Sl.of (s2.trans s3))), fun r hr => n1 r (List.mem_filter.mp hr).1, fun x H4 s4 n4 t4 => k x H4 (s2.trans (s3.trans s4)) (same_nul (s2.trans s3) n4) t4⟩
    rw [(all2_keep (fun r => !decide (r ∈ r2)) (rows_sl w1 (Sl.of (s2.trans s3)))).len]
    exact Nat.lt_of_le_of_lt (Nat.le_trans (List.length_filter_le _ _) l1) (by decide)
end
end Ax
end
section
set_option maxHeartbeats 4000000
open PySem PySem.Spec PyProof.Rows L2 Ax
set_option hygiene false in
local macro_rules | `(tactic| tbr_iter "boot") => `(tactic| with_reducible first | exact Ax.b_len | exact Ax.b_all | exact Ax.b_any | exact Ax.b_sorted | exact Ax.b_isinstance | exact Ax.b_abs | exact Ax.b_max | exact Ax.b_min | exact Ax.b_sum | exact Ax.b_repr | exact Ax.b_iter | exact Ax.b_ord | exact Ax.b_chr | exact Ax.b_str | exact Ax.b_int | exact Ax.b_bool | exact Ax.b_tuple | exact Ax.b_list | exact Ax.b_dict | exact Ax.b_set | exact Ax.b_range | exact Ax.b_enumerate | exact Ax.b_zip)
set_option hygiene false in
local macro_rules | `(tactic| tbr_iter "vis") => `(tactic| first | exact Or.inl rfl | exact Or.inr (Or.inl rfl) | exact Or.inr (Or.inr rfl))
set_option hygiene false in
local macro_rules | `(tactic| tbr_iter "w") => `(tactic| first
  | refine wb_cons ?_
  | refine wb_nil ?_
  | refine ws_ret ?_
  | refine ws_if ?_
  | refine ws_sub ?_
  | refine wa_cons ?_
  | refine wa_nil ?_
  | refine w_int ?_
  | refine w_str ?_
  | refine w_bl ?_
  | refine w_non ?_
  | tbr_iter "var"
  | refine w_bin ?_
  | refine w_cmp ?_
  | refine w_chain ?_
  | refine w_and ?_
  | refine w_or ?_
  | refine w_one ?_
  | refine w_not ?_
  | refine w_ix ?_
  | refine w_ifExp ?_
  | refine w_tup ?_
  | refine w_lst ?_
  | refine wt_not ?_
  | refine wt_bool ?_
  | refine ww_and ?_
  | refine ww_and1 ?_
  | refine ww_or ?_
  | refine ww_or1 ?_
  | refine wt_cmp ?_
  | refine wt_val ?_
  | tbr_iter "call"
  | (refine w_glob (by tbr_iter "mg") ?_)
  | (refine w_callB (by tbr_iter "z") ?_)
  | (refine w_callTy (by tbr_iter "z") ?_)
  | (refine w_bltT (by tbr_iter "z") ?_))
set_option hygiene false in
local macro_rules | `(tactic| tbr_iter "blk") => `(tactic| first | exact blkOk_by (by dsimp only [cxOf, envOfC]; decide +kernel))
set_option hygiene false in
local macro_rules | `(tactic| tbr_iter "iff") => `(tactic| first
  | refine iteT ?_
  | refine iteF ?_
  | refine w_if2 (fun _ => ?_) (fun _ => ?_))
set_option hygiene false in
local macro_rules | `(tactic| tbr_iter "sc") => `(tactic| first | omega | decide)
set_option hygiene false in
local macro_rules | `(tactic| tbr_iter "at") => `(tactic| first | exact atI_0 | exact atI_1 | exact atI_2)
set_option hygiene false in
local macro_rules | `(tactic| tbr_iter "sql") => `(tactic| ((try dsimp only [L2.cxOf, L2.Cx.blk]); with_reducible first | assumption | exact SqL.of (by assumption)))
set_option hygiene false in
local macro_rules | `(tactic| tbr_iter "sqt") => `(tactic| ((try dsimp only [L2.cxOf, L2.Cx.blk]); with_reducible first | assumption | exact SqT.of (by assumption)))
set_option hygiene false in
local macro_rules | `(tactic| tbr_iter "v") => `(tactic| first
  | refine bv_add ?_
  | refine bv_sub ?_
  | ((with_reducible show BinV _ .Mult _ _ _ _); refine bv_mul (Or.inl ⟨by tbr_iter "sc", by tbr_iter "sc"⟩) ?_)
  | ((with_reducible show BinV _ .Mult _ _ _ _); refine bv_mul (Or.inr ⟨by tbr_iter "sc", by tbr_iter "sc"⟩) ?_)
  | ((with_reducible show BinV _ .Mod _ _ _ _); refine bv_mod (by tbr_iter "sc") ?_)
  | ((with_reducible show BinV _ .FloorDiv _ _ _ _); refine bv_fdiv ⟨by tbr_iter "sc", by tbr_iter "sc"⟩ ?_)
  | ((with_reducible show BinV _ .Pow _ _ _ _); refine bv_pow ⟨by decide, by decide +kernel⟩ ?_)
  | refine cv_lt ?_
  | refine cv_le ?_
  | refine cv_gt ?_
  | refine cv_ge ?_
  | ((with_reducible show CmpV _ .Eq _ _ _ _); refine cv_eq rfl ?_)
  | ((with_reducible show CmpV _ .NotEq _ _ _ _); refine cv_ne rfl ?_)
  | refine iv_list (by tbr_iter "sql") (by tbr_iter "at") ?_
  | refine iv_tup (by tbr_iter "sqt") (by tbr_iter "at") ?_
  | refine kv_len_seq (Or.inl (by tbr_iter "sql")) ?_
  | refine kv_len_seq (Or.inr (by tbr_iter "sqt")) ?_
  | refine kv_int ?_
  | refine kv_intB ?_
  | refine kv_abs ?_
  | refine kv_max2 rfl ?_
  | refine kv_min2 rfl ?_)
set_option hygiene false in
local macro_rules | `(tactic| tbr_iter "b") => `(tactic| first
  | refine ⟨_, rfl, iteT ?_⟩
  | refine ⟨_, rfl, iteF ?_⟩
  | refine iteT ?_
  | refine iteF ?_)
set_option hygiene false in
local macro_rules | `(tactic| tbr_iter "go") => `(tactic| repeat (first | tbr_iter "w" | tbr_iter "v" | tbr_iter "b"))
set_option hygiene false in
local macro_rules | `(tactic| tbr_iter "nof") => `(tactic| (intro d hd; cases d <;> first | rfl | exact absurd rfl (hd _)))
set_option hygiene false in
local macro_rules | `(tactic| tbr_iter "e1") => `(tactic| first | ((with_reducible show W _ _ _ _ _); tbr_iter "w") | ((with_reducible show WA _ _ _ _ _); tbr_iter "w") | ((with_reducible show WT _ _ _ _ _); tbr_iter "w") | ((with_reducible show WW _ _ _ _ _); tbr_iter "w") | tbr_iter "v")
set_option hygiene false in
local macro_rules | `(tactic| tbr_iter "ex") => `(tactic| repeat (tbr_iter "e1"))
set_option hygiene false in
local macro_rules | `(tactic| tbr_iter "z") => `(tactic| ((try dsimp only [L2.cxOf]); with_reducible first | exact T.z_IndexError | exact T.z_ValueError | exact T.z_abs | exact T.z_all | exact T.z_bool | exact T.z_classmethod | exact T.z_enumerate | exact T.z_int | exact T.z_isinstance | exact T.z_iter | exact T.z_len | exact T.z_list | exact T.z_max | exact T.z_min | exact T.z_property | exact T.z_range | exact T.z_repr | exact T.z_set | exact T.z_sorted | exact T.z_str | exact T.z_tuple))
set_option hygiene false in
local macro_rules | `(tactic| tbr_iter "mg") => `(tactic| ((try dsimp only [L2.cxOf]); with_reducible first | exact T.c_ALPHABET | exact T.c_MAX_LETTERS | exact T.c_MAX_COLUMNS))
namespace Ax
section
variable {P : Program} {w : World} {K : PySem.W.Frag} {mg : Str → Option Value} {base : Heap}
set_option hygiene false in
local macro_rules | `(tactic| tbr_iter "var") => `(tactic| first | ((with_reducible show W _ (.Name "self" _) _ _ _); refine w_var 0 rfl (by tbr_iter "vis") rfl ?_) | ((with_reducible show W _ (.Name "value" _) _ _ _); refine w_var 1 rfl (by tbr_iter "vis") rfl ?_))
set_option hygiene false in
local macro_rules | `(tactic| tbr_iter "set") => `(tactic| first | ((with_reducible show WB _ (.Assign [.Name "self" _] _ _ :: _) _ _ _); refine wb_cons (ws_set 0 ?_ rfl nd)) | ((with_reducible show WB _ (.Assign [.Name "value" _] _ _ :: _) _ _ _); refine wb_cons (ws_set 1 ?_ rfl nd)))
theorem ok_tab_has (T : Txt K mg) : FnP P w K mg base 3 (He.ma K (He.ga K "Table") "__contains__") (spTabHas K) := by
  refine meth_okR T.f_Table___contains__ sc_Table___contains__ (fun _ _ _ _ _ _ us hl => match us, hl with | [_, _], _ => rfl) (fun vs H Q E h => ?_) fun cdv A outer s H vs Q E hr h => ?_
  · obtain ⟨a, v, c, r1, o, rfl, _⟩ := h; rfl
  obtain ⟨a, v, c, r1, o, rfl, ha, hv, n1, k⟩ := h
  have nd := sc_Table___contains__.nd
  have kc := T.kc_Table
  have hu := room64 hr
  obtain ⟨dx, q1, d1, h1, _, kvs, hk, ek⟩ := id ha
  refine wb_cons (ws_ret (w_and (w_call (ok_is_rowX T) hr passL ?_)))
  tbr_iter "go"
  refine ⟨v, o, rfl, hv, fun H2 s2 => ⟨_, rfl, w_if2 (fun e => ?_) (fun e => ?_)⟩⟩
  · cases hv with
    | @row p r h ok =>
      refine w_one (w_cmp ?_)
      tbr_iter "var"
      refine w_fld kc.c T.a_Table_own_places ?_
      tbr_iter "go"
      refine ⟨a, dx, _, _, rfl, s2 _ _ h1, rfl, cv_inT (k := r.map Sum.inr) hu (s2 _ _ hk) ?_ ?_⟩
      · rw [List.map_map]
        exact s2 _ _ h
      · refine qb (k H2 s2) ?_
        rw [key_in ek]
        rfl
    | dat h ok n => cases e
    | dct h => cases e
    | mix h hb ok => cases e
  · refine qb (k H2 s2) ?_
    cases o with
    | none => rfl
    | some r =>
      refine decide_eq_false fun z => ?_
      have n := (n1 r z).2
      have e : r.all isNameS = false := e
      rw [List.all_eq_true.mpr n] at e
      cases e
set_option hygiene false in
local macro_rules | `(tactic| tbr_iter "var") => `(tactic| first | ((with_reducible show W _ (.Name "self" _) _ _ _); refine w_var 0 rfl (by tbr_iter "vis") rfl ?_))
set_option hygiene false in
local macro_rules | `(tactic| tbr_iter "set") => `(tactic| first | ((with_reducible show WB _ (.Assign [.Name "self" _] _ _ :: _) _ _ _); refine wb_cons (ws_set 0 ?_ rfl nd)))
theorem ok_tab_iter (T : Txt K mg) : FnN P w K mg base 1 (He.ma K (He.ga K "Table") "__iter__") (spTabIter K) := by
  refine fnN_of T.f_Table___iter__ sc_Table___iter__ (fun _ _ _ _ _ _ us hl => match us, hl with | [_], _ => rfl) (fun n vs H Q E h => ?_) fun cdv A outer s H vs Q E hr h => ?_
  · obtain ⟨a, c, r1, rfl, _⟩ := h; rfl
  obtain ⟨a, c, r1, rfl, ha, k⟩ := h
  have nd := sc_Table___iter__.nd
  have kc := T.kc_Table
  obtain ⟨dx, q1, d1, h1, ⟨us1, t1, w1⟩, _⟩ := id ha
  refine wb_cons (ws_ret (w_callB T.z_iter (wa_cons (w_fld kc.c T.a_Table_own_rows ?_))))
  tbr_iter "go"
  exact ⟨a, dx, _, _, rfl, h1, rfl, wa_nil (kv_iterT (SqT.of t1) fun it n hn => k it q1 us1 _ n hn t1 w1 rfl)⟩
set_option hygiene false in
local macro_rules | `(tactic| tbr_iter "var") => `(tactic| first | ((with_reducible show W _ (.Name "self" _) _ _ _); refine w_var 0 rfl (by tbr_iter "vis") rfl ?_))
set_option hygiene false in
local macro_rules | `(tactic| tbr_iter "set") => `(tactic| first | ((with_reducible show WB _ (.Assign [.Name "self" _] _ _ :: _) _ _ _); refine wb_cons (ws_set 0 ?_ rfl nd)))
theorem ok_tab_str (T : Txt K mg) : FnP P w K mg base 1 (He.ma K (He.ga K "Table") "__str__") (spTabStr K) := by
  refine meth_okR T.f_Table___str__ sc_Table___str__ (fun _ _ _ _ _ _ us hl => match us, hl with | [_], _ => rfl) (fun vs H Q E h => ?_) fun cdv A outer s H vs Q E hr h => ?_
  · obtain ⟨a, c, r1, rfl, _⟩ := h; rfl
  obtain ⟨a, c, r1, rfl, ha, hc, hl, k⟩ := h
  have nd := sc_Table___str__.nd
  have kc := T.kc_Table
  obtain ⟨dx, q1, d1, h1, ⟨us1, t1, w1⟩, _⟩ := id ha
  obtain ⟨⟨g1, g2, g3, g4, g5⟩, g6, g7⟩ := text_fits c hc r1.length hl
  have le : ∀ {n : Nat}, n ≤ 100 → n ≤ sizeLine := fun h => Nat.le_trans h (by decide)
  refine wb_cons (ws_ret (w_fs5 (w_str ⟨_, rfl, le g1, w_fmt (w_fld kc.c T.a_Table_own_columns ?_)⟩)))
  tbr_iter "go"
  refine ⟨a, dx, _, _, rfl, h1, rfl, .inr ⟨c, rfl, by simpa using g6, _, rfl, le g2, w_str ⟨_, rfl, le g3, w_fmt (w_callB T.z_len (wa_cons (w_fld kc.c T.a_Table_own_rows ?_)))⟩⟩⟩
  tbr_iter "go"
  refine ⟨a, dx, _, _, rfl, h1, rfl, wa_nil (kv_len_seq (Or.inr (SqT.of t1)) (.inr ⟨us1.length, rfl, by rw [w1.len]; simpa using g7, _, rfl, ?_, w_str ⟨_, rfl, ?_, ?_⟩⟩))⟩
  · rw [w1.len]
    exact le g4
  · rw [w1.len]
    exact le g5
  · rw [w1.len]
    exact k H (Same.refl _)
end
end Ax
end
section
set_option maxHeartbeats 4000000
open PySem PySem.Spec PyProof.Rows L2 Ax
set_option hygiene false in
local macro_rules | `(tactic| tbr_iter "boot") => `(tactic| with_reducible first | exact Ax.b_len | exact Ax.b_all | exact Ax.b_any | exact Ax.b_sorted | exact Ax.b_isinstance | exact Ax.b_abs | exact Ax.b_max | exact Ax.b_min | exact Ax.b_sum | exact Ax.b_repr | exact Ax.b_iter | exact Ax.b_ord | exact Ax.b_chr | exact Ax.b_str | exact Ax.b_int | exact Ax.b_bool | exact Ax.b_tuple | exact Ax.b_list | exact Ax.b_dict | exact Ax.b_set | exact Ax.b_range | exact Ax.b_enumerate | exact Ax.b_zip)
set_option hygiene false in
local macro_rules | `(tactic| tbr_iter "vis") => `(tactic| first | exact Or.inl rfl | exact Or.inr (Or.inl rfl) | exact Or.inr (Or.inr rfl))
set_option hygiene false in
local macro_rules | `(tactic| tbr_iter "w") => `(tactic| first
  | refine wb_cons ?_
  | refine wb_nil ?_
  | refine ws_ret ?_
  | refine ws_if ?_
  | refine ws_sub ?_
  | refine wa_cons ?_
  | refine wa_nil ?_
  | refine w_int ?_
  | refine w_str ?_
  | refine w_bl ?_
  | refine w_non ?_
  | tbr_iter "var"
  | refine w_bin ?_
  | refine w_cmp ?_
  | refine w_chain ?_
  | refine w_and ?_
  | refine w_or ?_
  | refine w_one ?_
  | refine w_not ?_
  | refine w_ix ?_
  | refine w_ifExp ?_
  | refine w_tup ?_
  | refine w_lst ?_
  | refine wt_not ?_
  | refine wt_bool ?_
  | refine ww_and ?_
  | refine ww_and1 ?_
  | refine ww_or ?_
  | refine ww_or1 ?_
  | refine wt_cmp ?_
  | refine wt_val ?_
  | tbr_iter "call"
  | (refine w_glob (by tbr_iter "mg") ?_)
  | (refine w_callB (by tbr_iter "z") ?_)
  | (refine w_callTy (by tbr_iter "z") ?_)
  | (refine w_bltT (by tbr_iter "z") ?_))
set_option hygiene false in
local macro_rules | `(tactic| tbr_iter "blk") => `(tactic| first | exact blkOk_by (by dsimp only [cxOf, envOfC]; decide +kernel))
set_option hygiene false in
local macro_rules | `(tactic| tbr_iter "iff") => `(tactic| first
  | refine iteT ?_
  | refine iteF ?_
  | refine w_if2 (fun _ => ?_) (fun _ => ?_))
set_option hygiene false in
local macro_rules | `(tactic| tbr_iter "sc") => `(tactic| first | omega | decide)
set_option hygiene false in
local macro_rules | `(tactic| tbr_iter "at") => `(tactic| first | exact atI_0 | exact atI_1 | exact atI_2)
set_option hygiene false in
local macro_rules | `(tactic| tbr_iter "sql") => `(tactic| ((try dsimp only [L2.cxOf, L2.Cx.blk]); with_reducible first | assumption | exact SqL.of (by assumption)))
set_option hygiene false in
local macro_rules | `(tactic| tbr_iter "sqt") => `(tactic| ((try dsimp only [L2.cxOf, L2.Cx.blk]); with_reducible first | assumption | exact SqT.of (by assumption)))
set_option hygiene false in
local macro_rules | `(tactic| tbr_iter "v") => `(tactic| first
  | refine bv_add ?_
  | refine bv_sub ?_
  | ((with_reducible show BinV _ .Mult _ _ _ _); refine bv_mul (Or.inl ⟨by tbr_iter "sc", by tbr_iter "sc"⟩) ?_)
  | ((with_reducible show BinV _ .Mult _ _ _ _); refine bv_mul (Or.inr ⟨by tbr_iter "sc", by tbr_iter "sc"⟩) ?_)
  | ((with_reducible show BinV _ .Mod _ _ _ _); refine bv_mod (by tbr_iter "sc") ?_)
  | ((with_reducible show BinV _ .FloorDiv _ _ _ _); refine bv_fdiv ⟨by tbr_iter "sc", by tbr_iter "sc"⟩ ?_)
  | ((with_reducible show BinV _ .Pow _ _ _ _); refine bv_pow ⟨by decide, by decide +kernel⟩ ?_)
  | refine cv_lt ?_
  | refine cv_le ?_
  | refine cv_gt ?_
  | refine cv_ge ?_
  | ((with_reducible show CmpV _ .Eq _ _ _ _); refine cv_eq rfl ?_)
  | ((with_reducible show CmpV _ .NotEq _ _ _ _); refine cv_ne rfl ?_)
  | refine iv_list (by tbr_iter "sql") (by tbr_iter "at") ?_
  | refine iv_tup (by tbr_iter "sqt") (by tbr_iter "at") ?_
  | refine kv_len_seq (Or.inl (by tbr_iter "sql")) ?_
  | refine kv_len_seq (Or.inr (by tbr_iter "sqt")) ?_
  | refine kv_int ?_
  | refine kv_intB ?_
  | refine kv_abs ?_
  | refine kv_max2 rfl ?_
  | refine kv_min2 rfl ?_)
set_option hygiene false in
local macro_rules | `(tactic| tbr_iter "b") => `(tactic| first
  | refine ⟨_, rfl, iteT ?_⟩
  | refine ⟨_, rfl, iteF ?_⟩
  | refine iteT ?_
  | refine iteF ?_)
set_option hygiene false in
local macro_rules | `(tactic| tbr_iter "go") => `(tactic| repeat (first | tbr_iter "w" | tbr_iter "v" | tbr_iter "b"))
set_option hygiene false in
local macro_rules | `(tactic| tbr_iter "nof") => `(tactic| (intro d hd; cases d <;> first | rfl | exact absurd rfl (hd _)))
set_option hygiene false in
local macro_rules | `(tactic| tbr_iter "e1") => `(tactic| first | ((with_reducible show W _ _ _ _ _); tbr_iter "w") | ((with_reducible show WA _ _ _ _ _); tbr_iter "w") | ((with_reducible show WT _ _ _ _ _); tbr_iter "w") | ((with_reducible show WW _ _ _ _ _); tbr_iter "w") | tbr_iter "v")
set_option hygiene false in
local macro_rules | `(tactic| tbr_iter "ex") => `(tactic| repeat (tbr_iter "e1"))
set_option hygiene false in
local macro_rules | `(tactic| tbr_iter "z") => `(tactic| ((try dsimp only [L2.cxOf]); with_reducible first | exact T.z_IndexError | exact T.z_ValueError | exact T.z_abs | exact T.z_all | exact T.z_bool | exact T.z_classmethod | exact T.z_enumerate | exact T.z_int | exact T.z_isinstance | exact T.z_iter | exact T.z_len | exact T.z_list | exact T.z_max | exact T.z_min | exact T.z_property | exact T.z_range | exact T.z_repr | exact T.z_set | exact T.z_sorted | exact T.z_str | exact T.z_tuple))
set_option hygiene false in
local macro_rules | `(tactic| tbr_iter "mg") => `(tactic| ((try dsimp only [L2.cxOf]); with_reducible first | exact T.c_ALPHABET | exact T.c_MAX_LETTERS | exact T.c_MAX_COLUMNS))
namespace Ax
/-- a new list of the same things in a drawn order -/
def spMixed (K : PySem.W.Frag) : Sp := fun vs H Q _ => ∃ (p l : Addr) (n : Nat) (xs : List V), vs = [.ref p, .ref l] ∧ H p = some (DiceO p n) ∧ n < 2 ^ 50 ∧ SqL K H l xs ∧ xs.length ≤ 1000 ∧
  ∀ ys q m H', ys.Perm xs → Sm p H H' → H' p = some (DiceO p m) → m ≤ n + xs.length → H q = none → H' q = some (.lst ys) → Q (.ref q) H'
/-- some of the things, in their order -/
def spSome (K : PySem.W.Frag) : Sp := fun vs H Q _ => ∃ (p l : Addr) (n : Nat) (few : Int) (xs : List V), vs = [.ref p, .ref l, .int few] ∧ H p = some (DiceO p n) ∧ n < 2 ^ 50 ∧ 0 < few ∧ few < 1000 ∧ SqL K H l xs ∧ xs.length ≤ 1000 ∧
  ∀ ys q m H', ys.Sublist xs → Sm p H H' → H' p = some (DiceO p m) → m ≤ n + xs.length → H q = none → H' q = some (.lst ys) → Q (.ref q) H'
section
variable {P : Program} {w : World} {K : PySem.W.Frag} {mg : Str → Option Value} {base : Heap}
set_option hygiene false in
local macro_rules | `(tactic| tbr_iter "var") => `(tactic| first | ((with_reducible show W _ (.Name "dice" _) _ _ _); refine w_var 0 rfl (by tbr_iter "vis") rfl ?_) | ((with_reducible show W _ (.Name "items" _) _ _ _); refine w_var 1 rfl (by tbr_iter "vis") rfl ?_) | ((with_reducible show W _ (.Name "left" _) _ _ _); refine w_var 2 rfl (by tbr_iter "vis") rfl ?_) | ((with_reducible show W _ (.Name "found" _) _ _ _); refine w_var 3 rfl (by tbr_iter "vis") rfl ?_))
set_option hygiene false in
local macro_rules | `(tactic| tbr_iter "set") => `(tactic| first | ((with_reducible show WB _ (.Assign [.Name "dice" _] _ _ :: _) _ _ _); refine wb_cons (ws_set 0 ?_ rfl nd)) | ((with_reducible show WB _ (.Assign [.Name "items" _] _ _ :: _) _ _ _); refine wb_cons (ws_set 1 ?_ rfl nd)) | ((with_reducible show WB _ (.Assign [.Name "left" _] _ _ :: _) _ _ _); refine wb_cons (ws_set 2 ?_ rfl nd)) | ((with_reducible show WB _ (.Assign [.Name "found" _] _ _ :: _) _ _ _); refine wb_cons (ws_set 3 ?_ rfl nd)))
theorem ok_law_mixed (T : Txt K mg) : Callee P w K mg base "_law_mixed" 3 ["dice", "items"] (spMixed K) := by
  refine def_ok T.f__law_mixed sc__law_mixed (fun _ _ _ _ _ _ us hl => match us, hl with | [_, _], _ => rfl) (fun vs H Q E h => ?_) fun f cdv A outer s H vs Q E hr h => ?_
  · obtain ⟨p, l, n, xs, rfl, _⟩ := h; rfl
  obtain ⟨p, l, n, xs, rfl, hp, hn, hl, hx, k⟩ := h
  have nd := sc__law_mixed.nd
  have hu : (cxOf (L2.CX P w) P w K mg base n__law_mixed "_law_mixed" (defScope s__law_mixed) f cdv A outer s H E).A.units < cLine := by
    have := room64 hr
    show (A.deeper _).units < cLine
    omega
  refine wb_cons (ws_par 2 3 (wa_cons (w_callTy T.z_list (wa_cons ?_))) rfl rfl nd)
  tbr_iter "go"
  refine kv_listS (.inl hl) fun pl H1 s1 n1 h1 => wa_cons ?_
  tbr_iter "go"
  refine ⟨zero_line, fun pf H2 s2 n2 h2 => wa_nil ⟨_, _, rfl, ?_⟩⟩
  have n2' := same_nul s1 n2
  have h12 := s2 _ _ h1
  have plf : pl ≠ pf := fun z => by rw [z, n2] at h1; cases h1
  have ppl : p ≠ pl := ne_of_none hp n1
  have ppf : p ≠ pf := ne_of_none hp n2'
  have s02 := s1.trans s2
  refine wb_cons (ws_while (fun m σ Hc => σ = [some (.ref p), some (.ref l), some (.ref pl), some (.ref pf)] ∧ ∃ left found d, Sm p H Hc ∧ Hc p = some (DiceO p d) ∧ d + left.length ≤ n + xs.length ∧ Hc pl = some (.lst left) ∧ Hc pf = some (.lst found) ∧ (found ++ left).Perm xs ∧ left.length = m) ⟨xs.length, rfl, xs, [], n, Sm.of hp s02, s02 _ _ hp, Nat.le_refl _, h12, h2, by simp, rfl⟩ ?_ (passes_of rfl))
  · rintro m σ Hc ⟨rfl, left, found, d, sm, hd, hdl, hpl, hpf, perm, rfl⟩
    have hll : left.length ≤ xs.length := by
      have := perm.length_eq
      rw [List.length_append] at this
      omega
    refine wt_cmp ?_
    tbr_iter "go"
    refine ⟨zero_line, fun pe He se ne hpe => cv_ne_nil hu (SqL.of (se _ _ hpl)) (SqL.of hpe) ⟨_, rfl, w_if2 (fun c => ?_) (fun c => ?_)⟩⟩
    · have hne : left ≠ [] := by
        rintro rfl
        cases c
      have hpos := List.length_pos_iff.mpr hne
      have sme := sm.same se
      refine wb_cons (ws_expr (w_bm1 PySem.F.plainAttrs_list PySem.F.slot_list_append PySem.F.type_list_append ?_))
      tbr_iter "go"
      refine ⟨tyV_list ⟨pf, _, rfl, SqL.of (se _ _ hpf)⟩, ?_⟩
      refine w_bm1 PySem.F.plainAttrs_list PySem.F.slot_list_pop PySem.F.type_list_pop ?_
      tbr_iter "go"
      refine ⟨tyV_list ⟨pl, _, rfl, SqL.of (se _ _ hpl)⟩, ?_⟩
      refine w_call (ok_law_roll T) hr passL ?_
      tbr_iter "go"
      refine kv_len_seq (Or.inl (SqL.of (se _ _ hpl))) (wa_nil ⟨p, d, _, rfl, se _ _ hd, by omega, by omega, by omega, fun r H3 s3 h3 r0 r1 => ?_⟩)
      have hpl3 := s3.lst (se _ _ hpl)
      have hpf3 := s3.lst (se _ _ hpf)
      have hr3 : r.toNat < left.length := by omega
      refine mv_popAt hpl3 r0 hr3 (by omega) (List.getElem?_eq_getElem hr3) ?_
      refine mv_append ((upd_ne plf.symm).trans hpf3) ?_ ?_
      · have := perm.length_eq
        rw [List.length_append] at this
        exact Nat.lt_of_le_of_lt (show found.length ≤ 1000 by omega) (by decide)
      refine wb_nil ⟨left.length - 1, by omega, rfl, left.eraseIdx r.toNat, found ++ [left[r.toNat]], d + 1, (Sm.new (Sm.new (sme.trans s3) n1) n2'), ?_, ?_, ?_, upd_same, ?_, ?_⟩
      · rw [upd_ne ppf, upd_ne ppl]
        exact h3
      · rw [List.length_eraseIdx_of_lt hr3]
        omega
      · rw [upd_ne plf, upd_same]
      · have e1 : (left[r.toNat] :: left.eraseIdx r.toNat).Perm left := by
          rw [List.eraseIdx_eq_take_drop_succ]
          have e2 : left.take r.toNat ++ left[r.toNat] :: left.drop (r.toNat + 1) = left := by rw [List.getElem_cons_drop, List.take_append_drop]
          exact List.perm_middle.symm.trans (by rw [e2])
        rw [List.append_assoc]
        exact (List.Perm.append_left found e1).trans perm
      · rw [List.length_eraseIdx_of_lt hr3]
    · have hnil : left = [] := by
        cases left with
        | nil => rfl
        | cons _ _ => cases c
      subst hnil
      rw [List.append_nil] at perm
      tbr_iter "go"
      exact k found pf d He perm (sm.same se) (se _ _ hd) hdl n2' (se _ _ hpf)
set_option hygiene false in
local macro_rules | `(tactic| tbr_iter "var") => `(tactic| first | ((with_reducible show W _ (.Name "dice" _) _ _ _); refine w_var 0 rfl (by tbr_iter "vis") rfl ?_) | ((with_reducible show W _ (.Name "items" _) _ _ _); refine w_var 1 rfl (by tbr_iter "vis") rfl ?_) | ((with_reducible show W _ (.Name "few" _) _ _ _); refine w_var 2 rfl (by tbr_iter "vis") rfl ?_) | ((with_reducible show W _ (.Name "item" _) _ _ _); refine w_var 3 rfl (by tbr_iter "vis") rfl ?_))
set_option hygiene false in
local macro_rules | `(tactic| tbr_iter "set") => `(tactic| first | ((with_reducible show WB _ (.Assign [.Name "dice" _] _ _ :: _) _ _ _); refine wb_cons (ws_set 0 ?_ rfl nd)) | ((with_reducible show WB _ (.Assign [.Name "items" _] _ _ :: _) _ _ _); refine wb_cons (ws_set 1 ?_ rfl nd)) | ((with_reducible show WB _ (.Assign [.Name "few" _] _ _ :: _) _ _ _); refine wb_cons (ws_set 2 ?_ rfl nd)) | ((with_reducible show WB _ (.Assign [.Name "item" _] _ _ :: _) _ _ _); refine wb_cons (ws_set 3 ?_ rfl nd)))
theorem ok_law_some (T : Txt K mg) : Callee P w K mg base "_law_some" 3 ["dice", "items", "few"] (spSome K) := by
  refine def_ok T.f__law_some sc__law_some (fun _ _ _ _ _ _ us hl => match us, hl with | [_, _, _], _ => rfl) (fun vs H Q E h => ?_) fun f cdv A outer s H vs Q E hr h => ?_
  · obtain ⟨p, l, n, few, xs, rfl, _⟩ := h; rfl
  obtain ⟨p, l, n, few, xs, rfl, hp, hn, hf0, hf1, hl, hx, k⟩ := h
  have nd := sc__law_some.nd
  refine wb_cons (ws_ret (w_lcI [("item", 3)] (gName 3) (tWT _ _ _) (fun _ _ _ _ _ => pg_name nd rfl (Or.inl rfl) (Or.inr rfl)) pts_wt rfl nd (by tbr_iter "blk") (wi_val ?_)))
  tbr_iter "go"
  obtain ⟨G, wk, g0, gs⟩ := seqItM_list (p := p) hl
  refine itv_list hl ⟨xs.length, G, _, wk, Nat.lt_of_le_of_lt hx (by decide), fun D nD => ⟨fun i ys H' => ∃ m, Sm p H H' ∧ H' p = some (DiceO p m) ∧ m ≤ n + i ∧ ys.Sublist (xs.take i), ⟨n, (Sm.refl hp).new nD, (upd_ne (ne_of_none hp nD)).trans hp, Nat.le_refl _, by simp⟩, fun i ys H' _ _ ⟨m, sm, _⟩ => gs _ sm, fun ys H' hD ⟨m, sm, hm, hb, sub⟩ => k ys D m H' (by rw [List.take_length] at sub; exact sub) sm hm hb nD hD, ?_⟩⟩
  rintro i ys x Ha Hb hi hD ⟨m, sm, hm, hb, sub⟩ ⟨e, hv⟩ Kf Kt kf kt
  subst e
  have etk : xs.take (i + 1) = xs.take i ++ [x] := by rw [List.take_add_one, hv] <;> rfl
  refine ⟨rfl, fun _ _ _ _ _ => wt_cmp (w_call (ok_law_roll T) hr passL ?_)⟩
  tbr_iter "go"
  refine ⟨p, m, few, rfl, hm, by omega, hf0, by omega, fun r H3 s3 h3 r0 r1 => ?_⟩
  tbr_iter "go"
  refine ⟨_, rfl, w_if2 (fun c => ?_) (fun c => ?_)⟩
  · intro _ _ _ _ _
    tbr_iter "go"
    refine kt _ _ (s3.lst hD) ⟨m + 1, (sm.trans s3).new nD, (upd_ne (ne_of_none hp nD)).trans h3, by omega, ?_⟩
    rw [etk]
    exact sub.append (List.Sublist.refl _)
  · refine kf _ (s3.lst hD) ⟨m + 1, sm.trans s3, h3, by omega, ?_⟩
    rw [etk]
    exact sub.trans (List.sublist_append_left _ _)
end
end Ax

namespace Ax
theorem flat_le {rows : List (List Str)} {c : Nat} (h : ∀ r ∈ rows, r.length ≤ c) : rows.flatten.length ≤ rows.length * c := by
  induction rows with
  | nil => simp
  | cons r rows ih =>
    rw [List.flatten_cons, List.length_append, List.length_cons, Nat.succ_mul]
    have h1 := h r List.mem_cons_self
    have h2 := ih fun z hz => h z (List.mem_cons_of_mem _ hz)
    omega
theorem tabRows_is (raw : List (List Str)) : sortRows (onceL raw) = tabRows raw := (sortRows_is _).symm
theorem tabRows_congr {xs ys : List (List Str)} (h : ∀ r, r ∈ xs ↔ r ∈ ys) : tabRows xs = tabRows ys := by
  rw [← tabRows_is, ← tabRows_is]
  exact sortRows_perm ((List.perm_ext_iff_of_nodup (onceL_mem xs).1 (onceL_mem ys).1).mpr fun r => ((onceL_mem xs).2 r).trans ((h r).trans ((onceL_mem ys).2 r).symm))
/-- the texts of the rows, each once, rising -/
def DomOf (rows : List (List Str)) (ys : List Str) : Prop := sortedS ys = true ∧ ys.Nodup ∧ ∀ z, z ∈ ys ↔ z ∈ rows.flatten
theorem DomOf.uniq {rows : List (List Str)} {xs ys : List Str} (a : DomOf rows xs) (b : DomOf rows ys) : xs = ys := sortedS_uniq a.1 b.1 a.2.1 b.2.1 fun z => (a.2.2 z).trans (b.2.2 z).symm
def spDrawnR (K : PySem.W.Frag) : Sp := fun vs H Q _ => ∃ (p l : Addr) (n c : Nat) (zs : List Str), vs = [.ref p, .ref l, .int c] ∧ H p = some (DiceO p n) ∧ n < 2 ^ 49 ∧ H l = some (.lst (zs.map V.str)) ∧ c ≤ 3 ∧ zs ≠ [] ∧ zs.length ≤ 6 ∧
  ∀ us rows q m H', All2 (RwV H') us rows → rows.length ≤ 6 → (∀ r ∈ rows, r.length = c ∧ ∀ z ∈ r, z ∈ zs) → Sm p H H' → H' p = some (DiceO p m) → m ≤ n + 30 → H q = none → H' q = some (.lst us) → Q (.ref q) H'
def spDomOf (K : PySem.W.Frag) : Sp := fun vs H Q _ => ∃ (l : Addr) (us : List V) (rows : List (List Str)) (L : List Str), vs = [.ref l] ∧ H l = some (.tup us) ∧ All2 (RwV H) us rows ∧ rows.length ≤ 300 ∧ (∀ r ∈ rows, r.length ≤ 3) ∧ L.length < 64 ∧ (∀ r ∈ rows, ∀ z ∈ r, z ∈ L) ∧
  ∀ ys q H2, Same H H2 → H q = none → H2 q = some (.tup (ys.map V.str)) → DomOf rows ys → Q (.ref q) H2
/-- how an odd value is written -/
inductive OddC where
  | dat (d : PyData)
  | row (r : List Str)
  | dct
  | mix (z : Str)
def okC : OddC → Bool
  | .dat d => okD d && !isRowD d
  | .row r => okD (rowD r)
  | .dct => true
  | .mix z => okD (.str z)
def rowC : OddC → Option (List Str)
  | .row r => some r
  | _ => none
inductive OddW (K : PySem.W.Frag) (H : Hp) : V → OddC → Prop
  | dat {v : V} {d : PyData} (h : Dp K H v d) : OddW K H v (.dat d)
  | row {a : Addr} {r : List Str} (h : H a = some (.tup (r.map V.str))) : OddW K H (.ref a) (.row r)
  | dct {a : Addr} (h : H a = some (.dK [])) : OddW K H (.ref a) .dct
  | mix {a b : Addr} {z : Str} (h : H a = some (.tup [.str z, .ref b])) (hb : H b = some (.dK [])) : OddW K H (.ref a) (.mix z)
theorem OddW.same {K : PySem.W.Frag} {H H' : Hp} {v : V} {c : OddC} (h : OddW K H v c) (s : Same H H') : OddW K H' v c := by
  cases h with
  | dat h => exact .dat (dp_same s h)
  | row h => exact .row (s _ _ h)
  | dct h => exact .dct (s _ _ h)
  | mix h hb => exact .mix (s _ _ h) (s _ _ hb)
theorem OddW.odd {K : PySem.W.Frag} {H : Hp} {v : V} {c : OddC} (h : OddW K H v c) (ok : okC c = true) : OddV K H v (rowC c) := by
  cases h with
  | dat h =>
    obtain ⟨o1, o2⟩ := Bool.and_eq_true_iff.mp ok
    exact .dat h o1 (by simpa using o2)
  | row h => exact .row h ok
  | dct h => exact .dct h
  | mix h hb => exact .mix h hb ok
/-- texts, written one by one -/
inductive StrsC : List Expr → List Str → Prop
  | nil : StrsC [] []
  | cons {z : Str} {j : Nat} {pos : Pos} {es : List Expr} {r : List Str} (h : StrsC es r) : StrsC (.Constant (.str z) j pos :: es) (z :: r)
section
variable {X : Cx} {e : Expr} {es es2 : List Expr} {σ : L2.St} {H H0 : Hp} {Q : VK} {pos : Pos} {d : PyData} {cs : List OddC}
theorem strsC_wa {r : List Str} (h : StrsC es r) : ∀ {Q : List V → Hp → Prop}, Q (r.map V.str) H → WA X es σ H Q := by
  induction h with
  | nil => exact fun q => wa_nil q
  | cons h ih => exact fun q => wa_cons (w_str (ih q)) (by rfl)
theorem strsC_len {r : List Str} (h : StrsC es r) : r.length = es.length := by
  induction h with
  | nil => rfl
  | cons h ih => rw [List.length_cons, List.length_cons, ih]
structure LitO (X : Cx) (es : List Expr) (σ : L2.St) (H0 : Hp) (cs : List OddC) : Prop where
  len : cs.length = es.length
  run : ∀ H Q, Same H0 H → (∀ vs H', Same H H' → All2 (OddW X.K H') vs cs → Q vs H') → WA X es σ H Q
theorem lito_nil : LitO X [] σ H0 [] := ⟨rfl, fun H Q _ h => wa_nil (h _ H (Same.refl _) .nil)⟩
theorem lito_dat (h1 : Lit X e σ H0 d) (h2 : LitO X es σ H0 cs) (hs : starEach (e :: es) X.env = (false, eval e X.env) :: starEach es X.env := by rfl) : LitO X (e :: es) σ H0 (.dat d :: cs) :=
  ⟨by rw [List.length_cons, List.length_cons, h2.len], fun H Q s h => wa_cons (h1.run H _ s fun v H1 s1 hd => h2.run H1 _ (s.trans s1) fun vs H2 s2 hds => h _ H2 (s1.trans s2) (.cons (.dat (dp_same s2 hd)) hds)) hs⟩
theorem lito_row {r : List Str} {j : Nat} {p : Pos} (h1 : StrsC es2 r) (h2 : LitO X es σ H0 cs) (hs : starEach (.Tuple es2 j p :: es) X.env = (false, eval (.Tuple es2 j p) X.env) :: starEach es X.env := by rfl) (hl : es2.length ≤ 100 := by decide) : LitO X (.Tuple es2 j p :: es) σ H0 (.row r :: cs) :=
  ⟨by rw [List.length_cons, List.length_cons, h2.len], fun H Q s h => wa_cons (w_tup (strsC_wa h1 ⟨by rw [List.length_map, strsC_len h1]; exact Nat.le_trans hl (by decide), fun q H1 s1 n1 hq => h2.run H1 _ (s.trans s1) fun vs H2 s2 hds => h _ H2 (s1.trans s2) (.cons (.row (s2 _ _ hq)) hds)⟩)) hs⟩
theorem lito_dict (h2 : LitO X es σ H0 cs) (hs : starEach (.Dict [] [] pos :: es) X.env = (false, eval (.Dict [] [] pos) X.env) :: starEach es X.env := by rfl) : LitO X (.Dict [] [] pos :: es) σ H0 (.dct :: cs) :=
  ⟨by rw [List.length_cons, List.length_cons, h2.len], fun H Q s h => wa_cons (w_dict0 fun p H1 s1 n1 hp => h2.run H1 _ (s.trans s1) fun vs H2 s2 hds => h _ H2 (s1.trans s2) (.cons (.dct (s2 _ _ hp)) hds)) hs⟩
theorem lito_mix {z : Str} {j j2 : Nat} {p p2 p3 : Pos} (h2 : LitO X es σ H0 cs) (hs : starEach (.Tuple [.Constant (.str z) j2 p2, .Dict [] [] p3] j p :: es) X.env = (false, eval (.Tuple [.Constant (.str z) j2 p2, .Dict [] [] p3] j p) X.env) :: starEach es X.env := by rfl)
    (hs2 : starEach [.Constant (.str z) j2 p2, .Dict [] [] p3] X.env = (false, eval (.Constant (.str z) j2 p2) X.env) :: starEach [.Dict [] [] p3] X.env := by rfl) (hs3 : starEach [.Dict [] [] p3] X.env = (false, eval (.Dict [] [] p3) X.env) :: starEach [] X.env := by rfl) : LitO X (.Tuple [.Constant (.str z) j2 p2, .Dict [] [] p3] j p :: es) σ H0 (.mix z :: cs) :=
  ⟨by rw [List.length_cons, List.length_cons, h2.len], fun H Q s h => wa_cons (w_tup (wa_cons (w_str (wa_cons (w_dict0 fun b H1 s1 n1 hb => wa_nil ⟨two_line, fun q H2 s2 n2 hq => h2.run H2 _ (s.trans (s1.trans s2)) fun vs H3 s3 hds => h _ H3 (s1.trans (s2.trans s3)) (.cons (.mix (s3 _ _ hq) ((s2.trans s3) _ _ hb)) hds)⟩) hs3)) hs2)) hs⟩
theorem w_listO (cs : List OddC) (h : LitO X es σ H0 cs) (s : Same H0 H) (q : ∀ p vs H2, Same H H2 → H p = none → H2 p = some (.lst vs) → All2 (OddW X.K H2) vs cs → Q (.ref p) H2) (hl : es.length ≤ 100 := by decide) : W X (.List es pos) σ H Q :=
  w_lst (h.run H _ s fun vs H1 s1 hd => ⟨by rw [hd.len, h.len]; exact Nat.le_trans hl (by decide), fun p H2 s2 n2 hp => q p vs H2 (s1.trans s2) (same_nul s1 n2) hp (hd.imp fun _ _ a => a.same s2)⟩)
end
def oddA : List OddC := [.dat .none, .dat (.int 0), .dat (.str "a"), .dat (.str ""), .row [], .row ["a"], .dat (.list [.str "a"]), .dct, .dat (.tuple [.str "a", .int 1]), .row ["A", "b"], .row ["a", "b"], .dat (.tuple [.tuple [.str "a"]]), .row ["zz", "a"], .dat (.bool true)]
def oddB : List OddC := [.dat (.tuple [.list [.str "a"]]), .mix "a", .dat (.tuple [.list [], .list [], .list []])]
theorem odd_fineO : ∀ c ∈ oddA ++ oddB, okC c = true := by
  have h : (oddA ++ oddB).all okC = true := by decide +kernel
  exact List.all_eq_true.mp h
def spOddVs (K : PySem.W.Frag) : Sp := fun vs H Q _ => vs = [] ∧ ∀ q us H2, Same H H2 → H q = none → H2 q = some (.lst us) → All2 (OddW K H2) us (oddA ++ oddB) → Q (.ref q) H2
set_option hygiene false in
local macro_rules | `(tactic| tbr_iter "lt") => `(tactic| repeat (first
  | exact lit_str | exact lit_int | exact lit_bl | exact lit_non | exact lito_nil | exact lita_nil | exact StrsC.nil
  | refine StrsC.cons ?_ | refine lito_dict ?_ | refine lito_mix ?_ | refine lito_row ?_ ?_ | refine lito_dat ?_ ?_ | refine lita_cons ?_ ?_ | refine lit_tup ?_ | refine lit_lst ?_ | refine lit_mulE ?_))
section
variable {P : Program} {w : World} {K : PySem.W.Frag} {mg : Str → Option Value} {base : Heap}
set_option hygiene false in
local macro_rules | `(tactic| tbr_iter "var") => `(tactic| first | ((with_reducible show W _ (.Name "found" _) _ _ _); refine w_var 0 rfl (by tbr_iter "vis") rfl ?_))
set_option hygiene false in
local macro_rules | `(tactic| tbr_iter "set") => `(tactic| first | ((with_reducible show WB _ (.Assign [.Name "found" _] _ _ :: _) _ _ _); refine wb_cons (ws_set 0 ?_ rfl nd)))
theorem ok_law_odd (T : Txt K mg) : Callee P w K mg base "_law_odd_values" 1 [] (spOddVs K) := by
  refine def_ok T.f__law_odd_values sc__law_odd_values (fun _ _ _ _ _ _ us hl => match us, hl with | [], _ => rfl) (fun vs H Q E h => ?_) fun f cdv A outer s H vs Q E hr h => ?_
  · obtain ⟨rfl, _⟩ := h; rfl
  obtain ⟨rfl, k⟩ := h
  have nd := sc__law_odd_values.nd
  refine wb_cons (ws_set 0 (w_listO (H0 := H) oddA (by unfold oddA; tbr_iter "lt") (Same.refl _) fun p1 v1 H1 s1 n1 h1 a1 => ?_) rfl nd)
  refine wb_cons (ws_ret (w_bin ?_))
  tbr_iter "var"
  refine w_listO (H0 := H1) oddB (by unfold oddB; tbr_iter "lt") (Same.refl _) fun p2 v2 H2 s2 n2 h2 a2 => ?_
  have l1 := a1.len
  have l2 := a2.len
  refine bv_cat (s2 _ _ h1) h2 (by rw [l1, l2]; exact (show 17 ≤ sizeLine by decide)) fun q H3 s3 n3 h3 => ?_
  exact k q _ H3 (s1.trans (s2.trans s3)) (same_nul (s1.trans s2) n3) h3 ((a1.imp fun _ _ z => z.same (s2.trans s3)).app (a2.imp fun _ _ z => z.same s3))
set_option hygiene false in
local macro_rules | `(tactic| tbr_iter "var") => `(tactic| first | ((with_reducible show W _ (.Name "rows" _) _ _ _); refine w_var 0 rfl (by tbr_iter "vis") rfl ?_) | ((with_reducible show W _ (.Name "found" _) _ _ _); refine w_var 1 rfl (by tbr_iter "vis") rfl ?_) | ((with_reducible show W _ (.Name "row" _) _ _ _); refine w_var 2 rfl (by tbr_iter "vis") rfl ?_))
set_option hygiene false in
local macro_rules | `(tactic| tbr_iter "set") => `(tactic| first | ((with_reducible show WB _ (.Assign [.Name "rows" _] _ _ :: _) _ _ _); refine wb_cons (ws_set 0 ?_ rfl nd)) | ((with_reducible show WB _ (.Assign [.Name "found" _] _ _ :: _) _ _ _); refine wb_cons (ws_set 1 ?_ rfl nd)) | ((with_reducible show WB _ (.Assign [.Name "row" _] _ _ :: _) _ _ _); refine wb_cons (ws_set 2 ?_ rfl nd)))
theorem ok_law_domain (T : Txt K mg) : Callee P w K mg base "_law_domain" 1 ["rows"] (spDomOf K) := by
  refine def_ok T.f__law_domain sc__law_domain (fun _ _ _ _ _ _ us hl => match us, hl with | [_], _ => rfl) (fun vs H Q E h => ?_) fun f cdv A outer s H vs Q E hr h => ?_
  · obtain ⟨l, us, rows, L, rfl, _⟩ := h; rfl
  obtain ⟨l, us, rows, L, rfl, hl, hu, hrl, hr3, hL, hz, k⟩ := h
  have nd := sc__law_domain.nd
  refine wb_cons (ws_set 1 (w_lst (wa_nil ⟨zero_line, fun pl H1 s1 n1 h1 => ?_⟩)) rfl nd)
  refine wb_cons (ws_for 2 (wi_val ?_) rfl nd (passes_of rfl))
  tbr_iter "go"
  have hul : us.length ≤ 300 := by rw [hu.len]; exact hrl
  refine itv_tup (same_tup s1 (SqT.of hl)) ⟨us.length, _, _, walk_tup (K := K) (xs := us), fun j σ Hd => ∃ y, σ = [some (.ref l), some (.ref pl), y] ∧ Same H Hd ∧ Hd pl = some (.lst (((rows.take j).flatten).map V.str)), ⟨none, rfl, s1, h1⟩, fun _ _ _ _ ⟨_, _, s, _⟩ => same_tup s (SqT.of hl), ?_, ?_⟩
  · rintro j x σ Hd Hd' hj ⟨y, rfl, sd, hpl⟩ ⟨e, hx⟩
    subst e
    obtain ⟨r, er, b, rfl, hb⟩ := hu.at hx
    refine wb_cons (ws_expr (w_bm1 PySem.F.plainAttrs_list PySem.F.slot_list_extend PySem.F.type_list_extend ?_))
    tbr_iter "go"
    refine ⟨tyV_list ⟨pl, _, rfl, SqL.of hpl⟩, w_callTy T.z_list (wa_cons ?_)⟩
    tbr_iter "go"
    refine kv_listS (.inr (SqT.of (sd _ _ hb))) fun pc H4 s4 n4 h4 => ?_
    have e1 := flat_le (rows := rows.take j) (c := 3) fun r hr => hr3 r (List.mem_of_mem_take hr)
    have e2 : (rows.take j).length ≤ 300 := by rw [List.length_take]; exact Nat.le_trans (Nat.min_le_right _ _) hrl
    have e3 := hr3 r (List.mem_of_getElem? er)
    refine mv_extend (s4 _ _ hpl) h4 (Nat.le_trans (show _ ≤ 1000 by rw [List.length_map, List.length_map]; omega) (by decide)) (wb_nil ⟨_, rfl, same_upd (sd.trans s4) n1, ?_⟩)
    rw [upd_same, List.take_add_one, er, List.flatten_append, List.map_append]
    simp
  · rintro σ Hd ⟨y, rfl, sd, hpl⟩
    rw [hu.len, List.take_length] at hpl
    refine wb_cons (ws_ret (w_callTy T.z_tuple (wa_cons (w_callB T.z_sorted (wa_cons (w_callTy T.z_set (wa_cons ?_)))))))
    tbr_iter "go"
    have e1 := flat_le (rows := rows) (c := 3) hr3
    refine kv_setS rfl (SqL.of hpl) (by omega) fun q H5 s5 n5 h5 => wa_nil (kv_sortedSetS rfl h5 ⟨L, hL, fun z hm => ?_⟩ fun ys q2 H6 s6 n6 h6 so nd1 mem => wa_nil (kv_tupleL (SqL.of h6) fun q3 H7 s7 n7 h7 => ?_))
    · obtain ⟨r, hr, hzr⟩ := List.mem_flatten.mp hm
      exact hz r hr z hzr
    · have s37 := sd.trans (s5.trans s6)
      exact k ys q3 H7 (s37.trans s7) (same_nul s37 n7) h7 ⟨so, nd1, mem⟩
set_option hygiene false in
local macro_rules | `(tactic| tbr_iter "var") => `(tactic| first | ((with_reducible show W _ (.Name "dice" _) _ _ _); refine w_var 0 rfl (by tbr_iter "vis") rfl ?_) | ((with_reducible show W _ (.Name "names" _) _ _ _); refine w_var 1 rfl (by tbr_iter "vis") rfl ?_) | ((with_reducible show W _ (.Name "columns" _) _ _ _); refine w_var 2 rfl (by tbr_iter "vis") rfl ?_) | ((with_reducible show W _ (.Name "found" _) _ _ _); refine w_var 3 rfl (by tbr_iter "vis") rfl ?_) | ((with_reducible show W _ (.Name "turn" _) _ _ _); refine w_var 4 rfl (by tbr_iter "vis") rfl ?_) | ((with_reducible show W _ (.Name "place" _) _ _ _); refine w_var 5 rfl (by tbr_iter "vis") rfl ?_))
set_option hygiene false in
local macro_rules | `(tactic| tbr_iter "set") => `(tactic| first | ((with_reducible show WB _ (.Assign [.Name "dice" _] _ _ :: _) _ _ _); refine wb_cons (ws_set 0 ?_ rfl nd)) | ((with_reducible show WB _ (.Assign [.Name "names" _] _ _ :: _) _ _ _); refine wb_cons (ws_set 1 ?_ rfl nd)) | ((with_reducible show WB _ (.Assign [.Name "columns" _] _ _ :: _) _ _ _); refine wb_cons (ws_set 2 ?_ rfl nd)) | ((with_reducible show WB _ (.Assign [.Name "found" _] _ _ :: _) _ _ _); refine wb_cons (ws_set 3 ?_ rfl nd)) | ((with_reducible show WB _ (.Assign [.Name "turn" _] _ _ :: _) _ _ _); refine wb_cons (ws_set 4 ?_ rfl nd)) | ((with_reducible show WB _ (.Assign [.Name "place" _] _ _ :: _) _ _ _); refine wb_cons (ws_set 5 ?_ rfl nd)))
theorem ok_law_drawnR (T : Txt K mg) : Callee P w K mg base "_law_drawn_rows" 4 ["dice", "names", "columns"] (spDrawnR K) := by
  refine def_ok T.f__law_drawn_rows sc__law_drawn_rows (fun _ _ _ _ _ _ us hl => match us, hl with | [_, _, _], _ => rfl) (fun vs H Q E h => ?_) fun f cdv A outer s H vs Q E hr h => ?_
  · obtain ⟨p, l, n, c, zs, rfl, _⟩ := h; rfl
  obtain ⟨p, l, n, c, zs, rfl, hp, hn, hl, hc, hz0, hz, k⟩ := h
  have nd := sc__law_drawn_rows.nd
  refine wb_cons (ws_set 3 (w_lst (wa_nil ⟨zero_line, fun pf H1 s1 n1 h1 => ?_⟩)) rfl nd)
  have ppf : p ≠ pf := ne_of_none hp n1
  refine wb_cons (ws_for 4 (wi_range1 T.z_range (wa_cons (w_call (ok_law_roll T) (hr.mono (by decide)) passL ?_))) rfl nd (passes_of rfl))
  tbr_iter "go"
  refine ⟨p, n, 7, rfl, s1 _ _ hp, by omega, by decide, by decide, fun r H2 s2 h2 r0 r1 => wa_nil ⟨r, rfl, by omega, by omega, r.toNat, _, _, walk_range (lo := 0) (n := r.toNat), fun i σ Hc => ∃ x4 x5 us raw m, σ = [some (.ref p), some (.ref l), some (.int c), some (.ref pf), x4, x5] ∧ Sm p H Hc ∧ Hc p = some (DiceO p m) ∧ m ≤ n + 1 + 3 * i ∧ Hc pf = some (.lst us) ∧ All2 (RwV Hc) us raw ∧ (∀ r ∈ raw, r.length = c ∧ ∀ z ∈ r, z ∈ zs) ∧ raw.length = i, ⟨_, _, [], [], n + 1, rfl, (Sm.of hp s1).trans s2, h2, by omega, s2.lst h1, .nil, fun _ h => absurd h List.not_mem_nil, rfl⟩, fun _ _ _ _ _ => trivial, ?_, ?_⟩⟩
  · rintro i v σ Hx Hc hi ⟨x4, x5, us, raw, m, rfl, sm, hpc, hm, hpf, hu, hrow, hlen⟩ ⟨e, rfl⟩
    subst e
    refine wb_cons (ws_expr (w_bm1 PySem.F.plainAttrs_list PySem.F.slot_list_append PySem.F.type_list_append ?_))
    tbr_iter "go"
    refine ⟨tyV_list ⟨pf, _, rfl, SqL.of hpf⟩, w_callTy T.z_tuple (wa_cons (w_lcI [("place", 5)] (gName 5) tYes (fun _ _ _ _ _ => pg_name nd rfl (Or.inl rfl) (Or.inr rfl)) (fun _ _ _ _ _ => pts_nil) rfl nd (by tbr_iter "blk") (wi_range1 T.z_range ?_)))⟩
    tbr_iter "go"
    refine ⟨c, rfl, by omega, by omega, c, _, _, walk_range (lo := 0) (n := c), Nat.lt_of_le_of_lt hc (by decide), fun D nD => ⟨fun j ys H' => ∃ m2 ws, Sm p Hc H' ∧ H' p = some (DiceO p m2) ∧ m2 ≤ m + j ∧ ys = ws.map V.str ∧ ws.length = j ∧ ∀ z ∈ ws, z ∈ zs,
      ⟨m, [], (Sm.refl hpc).new nD, (upd_ne (ne_of_none hpc nD)).trans hpc, by omega, rfl, rfl, fun z h => absurd h List.not_mem_nil⟩, fun _ _ _ _ _ _ => trivial, ?_, ?_⟩⟩
    · rintro ys H3 hD ⟨m2, ws, sm2, hp2, hm2, rfl, hwl, hws⟩
      refine wa_nil (kv_tupleL (SqL.of hD) fun q H4 s4 n4 h4 => ?_)
      have hpf4 := s4 _ _ (sm2.lst hpf)
      refine mv_append hpf4 (Nat.lt_of_le_of_lt (show us.length ≤ 7 by rw [hu.len]; omega) (by decide)) (wb_nil ⟨_, _, us ++ [.ref q], raw ++ [ws], m2, rfl, (((sm.trans sm2).same s4).new n1), (upd_ne ppf).trans (s4 _ _ hp2), by omega, upd_same, ?_, fun r hr => ?_, by rw [List.length_append, hlen]; rfl⟩)
      · have s1 : Sl Hc (upd H4 pf (.lst (us ++ [.ref q]))) := (sm2.sl.trans (Sl.of s4)).lst hpf4
        have qf : q ≠ pf := fun z => by rw [z] at h4; rw [hpf4] at h4; cases h4
        exact (rows_sl hu s1).app (.one ⟨q, rfl, (upd_ne qf).trans h4⟩)
      · rcases List.mem_append.mp hr with hr | hr
        · exact hrow r hr
        · rw [List.mem_singleton.mp hr]
          exact ⟨hwl, hws⟩
    · rintro j ys x Ha Hb hj hD ⟨m2, ws, sm2, hp2, hm2, rfl, hwl, hws⟩ ⟨e, rfl⟩ Kf Kt kf kt
      subst e
      refine ⟨rfl, ?_⟩
      unfold tYes
      dsimp only
      rw [if_pos rfl]
      intro _ _ _ _ _
      refine w_call (ok_law_pick T) hr passL ?_
      tbr_iter "go"
      refine ⟨p, l, m2, _, rfl, hp2, by omega, SqL.of (sm2.lst (sm.lst hl)), by simpa using hz0, by rw [List.length_map]; omega, fun v hv H4 s4 hp4 => ?_⟩
      obtain ⟨z, hz1, rfl⟩ := List.mem_map.mp hv
      refine kt _ _ (s4.lst hD) ⟨m2 + 1, ws ++ [z], (sm2.trans s4).new nD, (upd_ne (ne_of_none hpc nD)).trans hp4, by omega, by rw [List.map_append]; rfl, by rw [List.length_append, hwl]; rfl, fun y hy => ?_⟩
      rcases List.mem_append.mp hy with hy | hy
      · exact hws y hy
      · rw [List.mem_singleton.mp hy]
        exact hz1
  · rintro σ Hc ⟨x4, x5, us, raw, m, rfl, sm, hpc, hm, hpf, hu, hrow, hlen⟩
    tbr_iter "go"
    exact k us raw pf m Hc hu (by omega) hrow sm hpc (by omega) n1 hpf
end
end Ax
end
section
set_option maxHeartbeats 4000000
open PySem PySem.Spec PyProof.Rows L2 Ax
set_option hygiene false in
local macro_rules | `(tactic| tbr_iter "boot") => `(tactic| with_reducible first | exact Ax.b_len | exact Ax.b_all | exact Ax.b_any | exact Ax.b_sorted | exact Ax.b_isinstance | exact Ax.b_abs | exact Ax.b_max | exact Ax.b_min | exact Ax.b_sum | exact Ax.b_repr | exact Ax.b_iter | exact Ax.b_ord | exact Ax.b_chr | exact Ax.b_str | exact Ax.b_int | exact Ax.b_bool | exact Ax.b_tuple | exact Ax.b_list | exact Ax.b_dict | exact Ax.b_set | exact Ax.b_range | exact Ax.b_enumerate | exact Ax.b_zip)
set_option hygiene false in
local macro_rules | `(tactic| tbr_iter "vis") => `(tactic| first | exact Or.inl rfl | exact Or.inr (Or.inl rfl) | exact Or.inr (Or.inr rfl))
set_option hygiene false in
local macro_rules | `(tactic| tbr_iter "w") => `(tactic| first
  | refine wb_cons ?_
  | refine wb_nil ?_
  | refine ws_ret ?_
  | refine ws_if ?_
  | refine ws_sub ?_
  | refine wa_cons ?_
  | refine wa_nil ?_
  | refine w_int ?_
  | refine w_str ?_
  | refine w_bl ?_
  | refine w_non ?_
  | tbr_iter "var"
  | refine w_bin ?_
  | refine w_cmp ?_
  | refine w_chain ?_
  | refine w_and ?_
  | refine w_or ?_
  | refine w_one ?_
  | refine w_not ?_
  | refine w_ix ?_
  | refine w_ifExp ?_
  | refine w_tup ?_
  | refine w_lst ?_
  | refine wt_not ?_
  | refine wt_bool ?_
  | refine ww_and ?_
  | refine ww_and1 ?_
  | refine ww_or ?_
  | refine ww_or1 ?_
  | refine wt_cmp ?_
  | refine wt_val ?_
  | tbr_iter "call"
  | (refine w_glob (by tbr_iter "mg") ?_)
  | (refine w_callB (by tbr_iter "z") ?_)
  | (refine w_callTy (by tbr_iter "z") ?_)
  | (refine w_bltT (by tbr_iter "z") ?_))
set_option hygiene false in
local macro_rules | `(tactic| tbr_iter "blk") => `(tactic| first | exact blkOk_by (by dsimp only [cxOf, envOfC]; decide +kernel))
set_option hygiene false in
local macro_rules | `(tactic| tbr_iter "iff") => `(tactic| first
  | refine iteT ?_
  | refine iteF ?_
  | refine w_if2 (fun _ => ?_) (fun _ => ?_))
set_option hygiene false in
local macro_rules | `(tactic| tbr_iter "sc") => `(tactic| first | omega | decide)
set_option hygiene false in
local macro_rules | `(tactic| tbr_iter "at") => `(tactic| first | exact atI_0 | exact atI_1 | exact atI_2)
set_option hygiene false in
local macro_rules | `(tactic| tbr_iter "sql") => `(tactic| ((try dsimp only [L2.cxOf, L2.Cx.blk]); with_reducible first | assumption | exact SqL.of (by assumption)))
set_option hygiene false in
local macro_rules | `(tactic| tbr_iter "sqt") => `(tactic| ((try dsimp only [L2.cxOf, L2.Cx.blk]); with_reducible first | assumption | exact SqT.of (by assumption)))
set_option hygiene false in
local macro_rules | `(tactic| tbr_iter "v") => `(tactic| first
  | refine bv_add ?_
  | refine bv_sub ?_
  | ((with_reducible show BinV _ .Mult _ _ _ _); refine bv_mul (Or.inl ⟨by tbr_iter "sc", by tbr_iter "sc"⟩) ?_)
  | ((with_reducible show BinV _ .Mult _ _ _ _); refine bv_mul (Or.inr ⟨by tbr_iter "sc", by tbr_iter "sc"⟩) ?_)
  | ((with_reducible show BinV _ .Mod _ _ _ _); refine bv_mod (by tbr_iter "sc") ?_)
  | ((with_reducible show BinV _ .FloorDiv _ _ _ _); refine bv_fdiv ⟨by tbr_iter "sc", by tbr_iter "sc"⟩ ?_)
  | ((with_reducible show BinV _ .Pow _ _ _ _); refine bv_pow ⟨by decide, by decide +kernel⟩ ?_)
  | refine cv_lt ?_
  | refine cv_le ?_
  | refine cv_gt ?_
  | refine cv_ge ?_
  | ((with_reducible show CmpV _ .Eq _ _ _ _); refine cv_eq rfl ?_)
  | ((with_reducible show CmpV _ .NotEq _ _ _ _); refine cv_ne rfl ?_)
  | refine iv_list (by tbr_iter "sql") (by tbr_iter "at") ?_
  | refine iv_tup (by tbr_iter "sqt") (by tbr_iter "at") ?_
  | refine kv_len_seq (Or.inl (by tbr_iter "sql")) ?_
  | refine kv_len_seq (Or.inr (by tbr_iter "sqt")) ?_
  | refine kv_int ?_
  | refine kv_intB ?_
  | refine kv_abs ?_
  | refine kv_max2 rfl ?_
  | refine kv_min2 rfl ?_)
set_option hygiene false in
local macro_rules | `(tactic| tbr_iter "b") => `(tactic| first
  | refine ⟨_, rfl, iteT ?_⟩
  | refine ⟨_, rfl, iteF ?_⟩
  | refine iteT ?_
  | refine iteF ?_)
set_option hygiene false in
local macro_rules | `(tactic| tbr_iter "go") => `(tactic| repeat (first | tbr_iter "w" | tbr_iter "v" | tbr_iter "b"))
set_option hygiene false in
local macro_rules | `(tactic| tbr_iter "nof") => `(tactic| (intro d hd; cases d <;> first | rfl | exact absurd rfl (hd _)))
set_option hygiene false in
local macro_rules | `(tactic| tbr_iter "e1") => `(tactic| first | ((with_reducible show W _ _ _ _ _); tbr_iter "w") | ((with_reducible show WA _ _ _ _ _); tbr_iter "w") | ((with_reducible show WT _ _ _ _ _); tbr_iter "w") | ((with_reducible show WW _ _ _ _ _); tbr_iter "w") | tbr_iter "v")
set_option hygiene false in
local macro_rules | `(tactic| tbr_iter "ex") => `(tactic| repeat (tbr_iter "e1"))
set_option hygiene false in
local macro_rules | `(tactic| tbr_iter "z") => `(tactic| ((try dsimp only [L2.cxOf]); with_reducible first | exact T.z_IndexError | exact T.z_ValueError | exact T.z_abs | exact T.z_all | exact T.z_bool | exact T.z_classmethod | exact T.z_enumerate | exact T.z_int | exact T.z_isinstance | exact T.z_iter | exact T.z_len | exact T.z_list | exact T.z_max | exact T.z_min | exact T.z_property | exact T.z_range | exact T.z_repr | exact T.z_set | exact T.z_sorted | exact T.z_str | exact T.z_tuple))
set_option hygiene false in
local macro_rules | `(tactic| tbr_iter "mg") => `(tactic| ((try dsimp only [L2.cxOf]); with_reducible first | exact T.c_ALPHABET | exact T.c_MAX_LETTERS | exact T.c_MAX_COLUMNS))
namespace Ax
open PySem.SeqAt in
theorem eqv_rowD (a b : List Str) : PyData.eqv (rowD a) (rowD b) = decide (a = b) := eqvAll_strs a b
theorem any_row (rows : List (List Str)) (r : List Str) : ((rows.map rowD).any fun z => PyData.eqv z (rowD r)) = decide (r ∈ rows) := by
  rw [List.any_map, Bool.eq_iff_iff, List.any_eq_true, decide_eq_true_iff]
  constructor
  · rintro ⟨x, hx, e⟩
    have e : PyData.eqv (rowD x) (rowD r) = true := e
    rw [eqv_rowD, decide_eq_true_iff] at e
    exact e ▸ hx
  · intro h
    exact ⟨r, h, by show PyData.eqv (rowD r) (rowD r) = true; rw [eqv_rowD, decide_eq_true_iff]⟩
theorem names_eqv : ∀ {r : List Str} {ds : List PyData}, (∀ z ∈ r, isNameS z = true) → PyData.eqvAll (r.map .str) ds = true → ds.all isNameD = true
  | [], [], _, _ => rfl
  | [], _ :: _, _, h => by cases h
  | _ :: _, [], _, h => by cases h
  | z :: r, d :: ds, hn, h => by
    have h : (PyData.eqv (.str z) d && PyData.eqvAll (r.map .str) ds) = true := h
    obtain ⟨h1, h2⟩ := Bool.and_eq_true_iff.mp h
    rw [List.all_cons, names_eqv (fun y hy => hn y (List.mem_cons_of_mem _ hy)) h2, Bool.and_true]
    cases d with
    | str y =>
      have e : z = y := by simpa [PyData.eqv] using h1
      rw [← e]
      exact hn z List.mem_cons_self
    | _ => simp [PyData.eqv] at h1
theorem any_not_row {rows : List (List Str)} {c : Nat} {d : PyData} (n : ∀ r ∈ rows, NRow c r) (h : isRowD d = false) : ((rows.map rowD).any fun z => PyData.eqv z d) = false := by
  rw [List.any_map]
  refine Bool.eq_false_iff.mpr fun e => ?_
  obtain ⟨r, hr, e⟩ := List.any_eq_true.mp e
  have e : PyData.eqv (.tuple (r.map .str)) d = true := e
  cases d with
  | tuple ds =>
    have e : PyData.eqvAll (r.map .str) ds = true := e
    have z := names_eqv (n r hr).2 e
    rw [show isRowD (.tuple ds) = ds.all isNameD from rfl, z] at h
    cases h
  | _ => simp [PyData.eqv] at e
theorem vals_back : ∀ {xs : List V} {us : List Value} {i : Nat} {u : Value}, L2.Vals xs us → us[i]? = some u → ∃ x, xs[i]? = some x ∧ RelV x u
  | _, _, i, u, .nil, h => by simp at h
  | _, _, 0, u, .cons r _, h => by cases h; exact ⟨_, rfl, r⟩
  | _, _, i + 1, u, .cons _ t, h => vals_back (i := i) t h
section
variable {X : Cx} {H : Hp} {Q : VK}
theorem room65 {k : Nat} {A : Around} (r : Room k A) : A.units + 66 < cLine := by
  have := r.un
  omega
theorem cv_inOdd {v : V} {q : Addr} {us : List V} {o : Option (List Str)} {rows : List (List Str)} {c : Nat} (hu : X.A.units + 66 < cLine) (hv : OddV X.K H v o) (hq : H q = some (.tup us)) (hr : All2 (RwV H) us rows) (n : ∀ r ∈ rows, NRow c r)
    (h : Q (.bl (hasO o rows)) H) : CmpV X .In v (.ref q) H Q := by
  have hu2 : X.A.units + 65 < cLine := by omega
  cases hv with
  | @row a r g ok => exact cv_inDT (d := rowD r) hu2 (.tup (SqT.of g) (dpa_strs r)) (dp_rows hq hr) (okD.shaped ok) (shaped_rows n) (by rw [any_row]; exact h)
  | @dat v d g ok nr => exact cv_inDT hu2 g (dp_rows hq hr) (okD.shaped ok) (shaped_rows n) (by rw [any_not_row n nr]; exact h)
  | @dct a g =>
    refine ⟨fun x y H' Q' => x = .ref a ∧ y = .ref q ∧ H' = H ∧ Q' = Q, ?_, rfl, rfl, rfl, rfl⟩
    rintro pins s σ' H' x y u v Q' I rx ry ⟨rfl, rfl, rfl, rfl⟩
    cases (show u = Value.ref a from rx)
    cases (show v = Value.ref q from ry)
    obtain ⟨its, rv, pl, hz⟩ := I.tuple (SqT.of hq)
    obtain ⟨_, _, vs, _, ob, es, ep, e1, e2, _⟩ := (show ObjOk X.prog X.w H' s.heap a (.dK []) from I.hok a _ g)
    refine SeqAt.in_tupleAt (fun _ => false) (show s.heap.IsTuple q its.toArray from pl) (fun y hy => ?_) ?_
    · obtain ⟨i, hi⟩ := List.mem_iff_getElem?.mp (show y ∈ its by simpa using hy)
      obtain ⟨x, hx, rx⟩ := vals_back rv hi
      obtain ⟨r, _, b, rfl, hb⟩ := hr.at hx
      cases (show y = Value.ref b from rx)
      obtain ⟨its2, rv2, pl2, _⟩ := I.tuple (SqT.of hb)
      exact eqAt_tuple_dict (show s.heap.IsTuple b its2.toArray from pl2) e1 e2.1 (by show X.A.units + 1 < cLine; omega)
    · have e : its.toArray.any (fun _ => false) = false := by simp
      rw [e]
      exact ⟨.bl false, H', I, rfl, h⟩
  | @mix a d z g gb ok =>
    refine ⟨fun x y H' Q' => x = .ref a ∧ y = .ref q ∧ H' = H ∧ Q' = Q, ?_, rfl, rfl, rfl, rfl⟩
    rintro pins s σ' H' x y u v Q' I rx ry ⟨rfl, rfl, rfl, rfl⟩
    cases (show u = Value.ref a from rx)
    cases (show v = Value.ref q from ry)
    obtain ⟨its, rv, pl, hz⟩ := I.tuple (SqT.of hq)
    obtain ⟨_, _, vs, _, ob, es, ep, e1, e2, e3, _⟩ := (show ObjOk X.prog X.w H' s.heap d (.dK []) from I.hok d _ gb)
    obtain ⟨itm, rvm, plm, _⟩ := I.tuple (SqT.of g)
    obtain ⟨m1, m2, em, r1, r2⟩ := rvm.two
    subst em
    obtain ⟨tk, rfl⟩ := r1
    cases (show m2 = Value.ref d from r2)
    refine SeqAt.in_tupleAt (fun _ => false) (show s.heap.IsTuple q its.toArray from pl) (fun y hy => ?_) ?_
    · obtain ⟨i, hi⟩ := List.mem_iff_getElem?.mp (show y ∈ its by simpa using hy)
      obtain ⟨x, hx, rx⟩ := vals_back rv hi
      obtain ⟨r, _, b, rfl, hb⟩ := hr.at hx
      cases (show y = Value.ref b from rx)
      obtain ⟨its2, rv2, pl2, _⟩ := I.tuple (SqT.of hb)
      have ne : b ≠ a := fun e => by
        rw [e, g] at hb
        have e := congrArg (fun o => match o with | some (HO.tup xs) => xs | _ => []) hb
        have e : [V.str z, V.ref d] = r.map V.str := e
        match r, e with
        | [_, _], e => cases e
      have key := SeqAt.RcAt.tuples (A := X.A.in1) (e := fun j => decide (j = 0) && ((r.getD 0 "") == z)) (show s.heap.IsTuple b its2.toArray from pl2) (show s.heap.IsTuple a [Value.str z tk, Value.ref d].toArray from plm) (by show X.A.units + 1 < cLine; omega) fun j h1 h2 => ?_
      · refine SeqAt.EqAt.of_refs ne ?_
        have e : ((List.range (min its2.toArray.size [Value.str z tk, Value.ref d].toArray.size)).all (fun j => decide (j = 0) && ((r.getD 0 "") == z)) && its2.toArray.size == [Value.str z tk, Value.ref d].toArray.size) = false := by
          cases hs : (its2.toArray.size == [Value.str z tk, Value.ref d].toArray.size) with
          | false => rw [Bool.and_false]
          | true =>
            have hs : its2.toArray.size = 2 := by simpa using hs
            rw [hs, Bool.and_true]
            simp [List.range_succ]
        rw [e] at key
        exact key
      · have hl : its2.length = r.length := by rw [← rv2.length, List.length_map]
        have h1 : j < r.length := by rw [← hl]; simpa using h1
        have gj : (r.map V.str)[j]? = some (.str r[j]) := by rw [List.getElem?_map, List.getElem?_eq_getElem h1]; rfl
        obtain ⟨uj, hj, rj⟩ := rv2.get gj
        obtain ⟨tj, rfl⟩ := rj
        have ej : its2.toArray[j]'(by simpa [hl] using h1) = Value.str r[j] tj := by
          have := List.getElem?_eq_some_iff.mp hj
          simpa using this.2
        rw [ej]
        have h2 : j < 2 := h2
        rcases (show j = 0 ∨ j = 1 by omega) with rfl | rfl
        · have e0 : r.getD 0 "" = r[0] := by rw [List.getD_eq_getElem?_getD, List.getElem?_eq_getElem h1]; rfl
          show SeqAt.EqAt _ _ _ (Value.str z tk) (decide (0 = 0) && (r.getD 0 "" == z))
          rw [e0, decide_eq_true rfl, Bool.true_and]
          exact SeqAt.EqAt.str_str _ _ _ _
        · show SeqAt.EqAt _ _ _ (Value.ref d) (decide (1 = 0) && _)
          rw [decide_eq_false (by decide), Bool.false_and]
          exact eqAt_str_dict e1 e2.1 e3 (by show X.A.units + 1 + 1 < cLine; omega)
    · have e : its.toArray.any (fun _ => false) = false := by simp
      rw [e]
      exact ⟨.bl false, H', I, rfl, h⟩
end
end Ax
end
section
set_option maxHeartbeats 4000000
open PySem PySem.Spec PyProof.Rows L2 Ax
set_option hygiene false in
local macro_rules | `(tactic| tbr_iter "boot") => `(tactic| with_reducible first | exact Ax.b_len | exact Ax.b_all | exact Ax.b_any | exact Ax.b_sorted | exact Ax.b_isinstance | exact Ax.b_abs | exact Ax.b_max | exact Ax.b_min | exact Ax.b_sum | exact Ax.b_repr | exact Ax.b_iter | exact Ax.b_ord | exact Ax.b_chr | exact Ax.b_str | exact Ax.b_int | exact Ax.b_bool | exact Ax.b_tuple | exact Ax.b_list | exact Ax.b_dict | exact Ax.b_set | exact Ax.b_range | exact Ax.b_enumerate | exact Ax.b_zip)
set_option hygiene false in
local macro_rules | `(tactic| tbr_iter "vis") => `(tactic| first | exact Or.inl rfl | exact Or.inr (Or.inl rfl) | exact Or.inr (Or.inr rfl))
set_option hygiene false in
local macro_rules | `(tactic| tbr_iter "w") => `(tactic| first
  | refine wb_cons ?_
  | refine wb_nil ?_
  | refine ws_ret ?_
  | refine ws_if ?_
  | refine ws_sub ?_
  | refine wa_cons ?_
  | refine wa_nil ?_
  | refine w_int ?_
  | refine w_str ?_
  | refine w_bl ?_
  | refine w_non ?_
  | tbr_iter "var"
  | refine w_bin ?_
  | refine w_cmp ?_
  | refine w_chain ?_
  | refine w_and ?_
  | refine w_or ?_
  | refine w_one ?_
  | refine w_not ?_
  | refine w_ix ?_
  | refine w_ifExp ?_
  | refine w_tup ?_
  | refine w_lst ?_
  | refine wt_not ?_
  | refine wt_bool ?_
  | refine ww_and ?_
  | refine ww_and1 ?_
  | refine ww_or ?_
  | refine ww_or1 ?_
  | refine wt_cmp ?_
  | refine wt_val ?_
  | tbr_iter "call"
  | (refine w_glob (by tbr_iter "mg") ?_)
  | (refine w_callB (by tbr_iter "z") ?_)
  | (refine w_callTy (by tbr_iter "z") ?_)
  | (refine w_bltT (by tbr_iter "z") ?_))
set_option hygiene false in
local macro_rules | `(tactic| tbr_iter "blk") => `(tactic| first | exact blkOk_by (by dsimp only [cxOf, envOfC]; decide +kernel))
set_option hygiene false in
local macro_rules | `(tactic| tbr_iter "iff") => `(tactic| first
  | refine iteT ?_
  | refine iteF ?_
  | refine w_if2 (fun _ => ?_) (fun _ => ?_))
set_option hygiene false in
local macro_rules | `(tactic| tbr_iter "sc") => `(tactic| first | omega | decide)
set_option hygiene false in
local macro_rules | `(tactic| tbr_iter "at") => `(tactic| first | exact atI_0 | exact atI_1 | exact atI_2)
set_option hygiene false in
local macro_rules | `(tactic| tbr_iter "sql") => `(tactic| ((try dsimp only [L2.cxOf, L2.Cx.blk]); with_reducible first | assumption | exact SqL.of (by assumption)))
set_option hygiene false in
local macro_rules | `(tactic| tbr_iter "sqt") => `(tactic| ((try dsimp only [L2.cxOf, L2.Cx.blk]); with_reducible first | assumption | exact SqT.of (by assumption)))
set_option hygiene false in
local macro_rules | `(tactic| tbr_iter "v") => `(tactic| first
  | refine bv_add ?_
  | refine bv_sub ?_
  | ((with_reducible show BinV _ .Mult _ _ _ _); refine bv_mul (Or.inl ⟨by tbr_iter "sc", by tbr_iter "sc"⟩) ?_)
  | ((with_reducible show BinV _ .Mult _ _ _ _); refine bv_mul (Or.inr ⟨by tbr_iter "sc", by tbr_iter "sc"⟩) ?_)
  | ((with_reducible show BinV _ .Mod _ _ _ _); refine bv_mod (by tbr_iter "sc") ?_)
  | ((with_reducible show BinV _ .FloorDiv _ _ _ _); refine bv_fdiv ⟨by tbr_iter "sc", by tbr_iter "sc"⟩ ?_)
  | ((with_reducible show BinV _ .Pow _ _ _ _); refine bv_pow ⟨by decide, by decide +kernel⟩ ?_)
  | refine cv_lt ?_
  | refine cv_le ?_
  | refine cv_gt ?_
  | refine cv_ge ?_
  | ((with_reducible show CmpV _ .Eq _ _ _ _); refine cv_eq rfl ?_)
  | ((with_reducible show CmpV _ .NotEq _ _ _ _); refine cv_ne rfl ?_)
  | refine iv_list (by tbr_iter "sql") (by tbr_iter "at") ?_
  | refine iv_tup (by tbr_iter "sqt") (by tbr_iter "at") ?_
  | refine kv_len_seq (Or.inl (by tbr_iter "sql")) ?_
  | refine kv_len_seq (Or.inr (by tbr_iter "sqt")) ?_
  | refine kv_int ?_
  | refine kv_intB ?_
  | refine kv_abs ?_
  | refine kv_max2 rfl ?_
  | refine kv_min2 rfl ?_)
set_option hygiene false in
local macro_rules | `(tactic| tbr_iter "b") => `(tactic| first
  | refine ⟨_, rfl, iteT ?_⟩
  | refine ⟨_, rfl, iteF ?_⟩
  | refine iteT ?_
  | refine iteF ?_)
set_option hygiene false in
local macro_rules | `(tactic| tbr_iter "go") => `(tactic| repeat (first | tbr_iter "w" | tbr_iter "v" | tbr_iter "b"))
set_option hygiene false in
local macro_rules | `(tactic| tbr_iter "nof") => `(tactic| (intro d hd; cases d <;> first | rfl | exact absurd rfl (hd _)))
set_option hygiene false in
local macro_rules | `(tactic| tbr_iter "e1") => `(tactic| first | ((with_reducible show W _ _ _ _ _); tbr_iter "w") | ((with_reducible show WA _ _ _ _ _); tbr_iter "w") | ((with_reducible show WT _ _ _ _ _); tbr_iter "w") | ((with_reducible show WW _ _ _ _ _); tbr_iter "w") | tbr_iter "v")
set_option hygiene false in
local macro_rules | `(tactic| tbr_iter "ex") => `(tactic| repeat (tbr_iter "e1"))
set_option hygiene false in
local macro_rules | `(tactic| tbr_iter "z") => `(tactic| ((try dsimp only [L2.cxOf]); with_reducible first | exact T.z_IndexError | exact T.z_ValueError | exact T.z_abs | exact T.z_all | exact T.z_bool | exact T.z_classmethod | exact T.z_enumerate | exact T.z_int | exact T.z_isinstance | exact T.z_iter | exact T.z_len | exact T.z_list | exact T.z_max | exact T.z_min | exact T.z_property | exact T.z_range | exact T.z_repr | exact T.z_set | exact T.z_sorted | exact T.z_str | exact T.z_tuple))
set_option hygiene false in
local macro_rules | `(tactic| tbr_iter "mg") => `(tactic| ((try dsimp only [L2.cxOf]); with_reducible first | exact T.c_ALPHABET | exact T.c_MAX_LETTERS | exact T.c_MAX_COLUMNS))
namespace Ax
theorem alpha_lt : ∀ c ∈ alpha.cps.toList, c < 16 ^ 8 := by decide +kernel
theorem name_cps {z : Str} (h : isNameS z = true) : (∀ c ∈ z.cps.toList, c < 16 ^ 8) ∧ z.cps.size ≤ 8 := by
  unfold isNameS at h
  simp only [Bool.and_eq_true, decide_eq_true_eq, List.all_eq_true] at h
  exact ⟨fun c hc => alpha_lt c (h.2.2 c hc), h.2.1⟩
theorem showAll_strs : ∀ r : List Str, PyData.showableAll (r.map .str) = true
  | [] => rfl
  | z :: r => by
    show (PyData.showable (.str z) && PyData.showableAll (r.map .str)) = true
    rw [showAll_strs r]
    rfl
theorem showAll_rows : ∀ rows : List (List Str), PyData.showableAll (rows.map rowD) = true
  | [] => rfl
  | r :: rows => by
    show (PyData.showableAll (r.map .str) && PyData.showableAll (rows.map rowD)) = true
    rw [showAll_rows rows, showAll_strs]
    rfl
theorem short_strs : ∀ {r : List Str}, (∀ z ∈ r, isNameS z = true) → PyData.leavesShortAll 8 (r.map .str) = true ∧ PyData.bulkAll (r.map .str) ≤ 9 * r.length
  | [], _ => ⟨rfl, Nat.le_refl _⟩
  | z :: r, h => by
    obtain ⟨h1, h2⟩ := short_strs fun y hy => h y (List.mem_cons_of_mem _ hy)
    obtain ⟨h3, h4⟩ := name_cps (h z List.mem_cons_self)
    refine ⟨?_, ?_⟩
    · show (PyData.leavesShort 8 (.str z) && PyData.leavesShortAll 8 (r.map .str)) = true
      rw [h1, Bool.and_true]
      show (z.cps.toList.all fun c => decide (c < 16 ^ 8)) = true
      exact List.all_eq_true.mpr fun c hc => decide_eq_true (h3 c hc)
    · show z.cps.size + 1 + PyData.bulkAll (r.map .str) ≤ 9 * (r.length + 1)
      omega
theorem short_rows {c : Nat} (hc : c ≤ 3) : ∀ {rows : List (List Str)}, (∀ r ∈ rows, NRow c r) → PyData.leavesShortAll 8 (rows.map rowD) = true ∧ PyData.bulkAll (rows.map rowD) ≤ 28 * rows.length
  | [], _ => ⟨rfl, Nat.le_refl _⟩
  | r :: rows, h => by
    obtain ⟨h1, h2⟩ := short_rows hc fun y hy => h y (List.mem_cons_of_mem _ hy)
    obtain ⟨l, n⟩ := h r List.mem_cons_self
    obtain ⟨h3, h4⟩ := short_strs n
    refine ⟨?_, ?_⟩
    · show (PyData.leavesShortAll 8 (r.map .str) && PyData.leavesShortAll 8 (rows.map rowD)) = true
      rw [h1, h3]
      rfl
    · show PyData.bulkAll (r.map .str) + 1 + PyData.bulkAll (rows.map rowD) ≤ 28 * (rows.length + 1)
      omega
theorem int_short2 : ∀ n, n < 64 → (PyData.shown (.int (n : Nat))).length ≤ 8 := by decide +kernel
theorem nat_log : ∀ n, n < 64 → n.log2 < 1920 := by decide +kernel
theorem text_short : ∀ c : Nat, c ≤ 3 → ∀ n : Nat, n < 64 → ((tabText c n).cps.toList.all fun c => decide (c < 16 ^ 8)) = true ∧ (tabText c n).cps.size ≤ 100 := by decide +kernel
/-- what _law_told tells -/
def toldD (c : Nat) (rows : List (List Str)) (ys : List Str) : PyData := .list [.int (c : Int), rowsD rows, .tuple (ys.map .str), .int (rows.length : Nat), .bool (rows.length != 0), .str (tabText c rows.length), .list (rows.map rowD)]
theorem text_ok : ∀ c : Nat, c ≤ 3 → ∀ n : Nat, n < 64 → PyData.strOk (tabText c n) = true := by decide +kernel
theorem told_fine {c : Nat} {rows : List (List Str)} {ys : List Str} (hc : c ≤ 3) (h : ∀ r ∈ rows, NRow c r) (hl : rows.length < 64) (hy : ∀ z ∈ ys, isNameS z = true) (yl : ys.length < 64) : (toldD c rows ys).showable = true ∧ (toldD c rows ys).hasDict = false ∧ (toldD c rows ys).depth ≤ 60 ∧ (toldD c rows ys).shown.length ≤ sizeLine := by
  obtain ⟨s1, s2⟩ := short_rows hc h
  obtain ⟨y1, y2⟩ := short_strs hy
  obtain ⟨t1, t2⟩ := text_short c hc rows.length hl
  refine ⟨?_, ?_, ?_, ?_⟩
  · show (decide ((c : Int).natAbs.log2 < 1920) && (PyData.showableAll (rows.map rowD) && (PyData.showableAll (ys.map .str) && (decide ((rows.length : Int).natAbs.log2 < 1920) && (true && (true && (PyData.showableAll (rows.map rowD) && true))))))) = true
    rw [showAll_rows, showAll_strs]
    have e : (c : Int).natAbs = c := by omega
    have e2 : (rows.length : Int).natAbs = rows.length := by omega
    rw [e, e2, decide_eq_true (nat_log c (by omega)), decide_eq_true (nat_log _ hl)]
    rfl
  · refine PyData.hasDict_of_canLay _ ?_
    show (true && (PyData.canLayAll0 (rows.map rowD) && (PyData.canLayAll0 (ys.map .str) && (true && (true && (PyData.strOk (tabText c rows.length) && (PyData.canLayAll0 (rows.map rowD) && true))))))) = true
    rw [lay_rows h, lay_strs hy]
    have e : PyData.strOk (tabText c rows.length) = true := text_ok c hc rows.length hl
    rw [e]
    rfl
  · have d1 := depth_rows rows
    have d2 := depth_row ys
    have d2 : PyData.depthAll (ys.map .str) + 1 ≤ 1 := d2
    show max 0 (max (PyData.depthAll (rows.map rowD) + 1) (max (PyData.depthAll (ys.map .str) + 1) (max 0 (max 0 (max 0 (max (PyData.depthAll (rows.map rowD) + 1) 0)))))) + 1 ≤ 60
    omega
  · refine PyData.shown_fits_bulk (B := 8) (by decide) (by decide) ?_ ?_
    · show (decide ((PyData.shown (.int (c : Int))).length ≤ 8) && (PyData.leavesShortAll 8 (rows.map rowD) && (PyData.leavesShortAll 8 (ys.map .str) && (decide ((PyData.shown (.int (rows.length : Nat))).length ≤ 8) && (true && (((tabText c rows.length).cps.toList.all fun c => decide (c < 16 ^ 8)) && (PyData.leavesShortAll 8 (rows.map rowD) && true))))))) = true
      rw [s1, y1, t1, decide_eq_true (int_short2 c (by omega)), decide_eq_true (int_short2 _ hl)]
      rfl
    · show 0 + 1 + (PyData.bulkAll (rows.map rowD) + 1 + (PyData.bulkAll (ys.map .str) + 1 + (0 + 1 + (0 + 1 + ((tabText c rows.length).cps.size + 1 + (PyData.bulkAll (rows.map rowD) + 1 + 0)))))) ≤ 2 ^ 20
      omega
theorem tab_row {c : Nat} {raw : List (List Str)} (h : ∀ r ∈ raw, NRow c r) : ∀ r ∈ tabRows raw, NRow c r := fun r hr => h r (tabRows_mem.mp hr)
/-- the names in the rows are some of a few -/
def NamesIn (zs : List Str) (rows : List (List Str)) : Prop := ∀ r ∈ rows, ∀ z ∈ r, z ∈ zs
theorem names_few {zs : List Str} {rows : List (List Str)} (h : NamesIn zs rows) : (onceL rows.flatten).length ≤ zs.length := nodup_len (onceL_mem _).1 fun z hz => by
  obtain ⟨r, hr, hz2⟩ := List.mem_flatten.mp (((onceL_mem _).2 z).mp hz)
  exact h r hr z hz2
theorem dom_fine {zs : List Str} {c : Nat} {rows : List (List Str)} {ys : List Str} (hz : NamesIn zs rows) (zl : zs.length ≤ 6) (h : ∀ r ∈ rows, NRow c r) (d : DomOf rows ys) : (∀ z ∈ ys, isNameS z = true) ∧ ys.length < 64 := by
  refine ⟨fun z hm => ?_, ?_⟩
  · obtain ⟨r, hr, hz2⟩ := List.mem_flatten.mp ((d.2.2 z).mp hm)
    exact (h r hr).2 z hz2
  · have e := nodup_len d.2.1 (L := onceL rows.flatten) fun z hm => ((onceL_mem _).2 z).mpr ((d.2.2 z).mp hm)
    have := names_few hz
    omega
def spTold (K : PySem.W.Frag) : Sp := fun vs H Q _ => ∃ (a : Addr) (c : Nat) (rows : List (List Str)) (zs : List Str), vs = [.ref a] ∧ TabIs K H a c rows ∧ c ≤ 3 ∧ (∀ r ∈ rows, NRow c r) ∧ rows.length < 64 ∧ NamesIn zs rows ∧ zs.length ≤ 6 ∧
  ∀ ys H', DomOf rows ys → Same H H' → Q (.str (toldD c rows ys).shown) H'
theorem seven_line : 7 ≤ sizeLine := by decide
section
variable {P : Program} {w : World} {K : PySem.W.Frag} {mg : Str → Option Value} {base : Heap}
set_option hygiene false in
local macro_rules | `(tactic| tbr_iter "var") => `(tactic| first | ((with_reducible show W _ (.Name "made" _) _ _ _); refine w_var 0 rfl (by tbr_iter "vis") rfl ?_) | ((with_reducible show W _ (.Name "told" _) _ _ _); refine w_var 1 rfl (by tbr_iter "vis") rfl ?_) | ((with_reducible show W _ (.Name "row" _) _ _ _); refine w_var 2 rfl (by tbr_iter "vis") rfl ?_))
set_option hygiene false in
local macro_rules | `(tactic| tbr_iter "set") => `(tactic| first | ((with_reducible show WB _ (.Assign [.Name "made" _] _ _ :: _) _ _ _); refine wb_cons (ws_set 0 ?_ rfl nd)) | ((with_reducible show WB _ (.Assign [.Name "told" _] _ _ :: _) _ _ _); refine wb_cons (ws_set 1 ?_ rfl nd)) | ((with_reducible show WB _ (.Assign [.Name "row" _] _ _ :: _) _ _ _); refine wb_cons (ws_set 2 ?_ rfl nd)))
theorem ok_law_told (T : Txt K mg) : CalleeG P w K mg base "_law_told" 9 ["made"] (spTold K) := by
  refine def_okG T.f__law_told sc__law_told (fun _ _ _ _ _ _ us hl => match us, hl with | [_], _ => rfl) (fun vs H Q E h => ?_) fun f cdv A outer s H vs Q E hgd hr h => ?_
  · obtain ⟨a, c, rows, zs, rfl, _⟩ := h; rfl
  obtain ⟨a, c, rows, zs, rfl, ht, hc, hrow, hl, hz, zl, k⟩ := h
  have nd := sc__law_told.nd
  have hu := room64 hr
  have kc := T.kc_Table
  obtain ⟨fc, FC, BC⟩ := ok_tab_cols (P := P) (w := w) (base := base) T
  obtain ⟨fr, FR, BR⟩ := ok_tab_rows (P := P) (w := w) (base := base) T
  obtain ⟨fd, FD, BD⟩ := ok_domain (P := P) (w := w) (base := base) T
  obtain ⟨dx, q0, d0, e0, _⟩ := id ht
  have fl := flat_le (rows := rows) (c := 3) fun r hr => by rw [(hrow r hr).1]; exact hc
  have few := names_few hz
  refine wb_cons (ws_set 1 (w_lst (wa_cons (w_prop kc.c T.p_Table_columns FC (hr.mono (by decide)) BC passL ?_))) rfl nd)
  tbr_iter "go"
  refine ⟨a, dx, _, rfl, e0, a, c, rows, rfl, ht, wa_cons (w_prop kc.c T.p_Table_rows FR (hr.mono (by decide)) BR passL ?_)⟩
  tbr_iter "go"
  refine ⟨a, dx, _, rfl, e0, a, c, rows, rfl, ht, fun q us hq hu1 => wa_cons (w_prop kc.c T.p_Table_domain FD (hr.mono (by decide)) BD passL ?_)⟩
  tbr_iter "go"
  refine ⟨a, dx, _, rfl, e0, a, c, rows, rfl, ht, Nat.lt_of_le_of_lt (show _ ≤ 200 by omega) (by decide), by omega, fun ys qd H2 py so s2 h2 => wa_cons (w_callB T.z_len (wa_cons ?_))⟩
  have dom : DomOf rows ys := ⟨so, py.nodup_iff.mpr (onceL_mem _).1, fun z => py.mem_iff.trans ((onceL_mem _).2 z)⟩
  tbr_iter "var"
  refine wa_nil (kv_lenO T.m_Table___len__ (ok_tab_len T) (hr.mono (by decide)) passL (s2 _ _ e0) ⟨a, c, rows, rfl, ht.same s2, fun H3 s3 => ⟨_, rfl, by omega, wa_cons (w_callTy T.z_bool (wa_cons ?_))⟩⟩)
  have s23 := s2.trans s3
  tbr_iter "var"
  refine wa_nil (kv_boolO T.nb_Table T.m_Table___len__ (ok_tab_len T) (hr.mono (by decide)) passL (s23 _ _ e0) ⟨a, c, rows, rfl, ht.same s23, fun H4 s4 => ⟨_, rfl, by omega, wa_cons (w_callTy T.z_str (wa_cons ?_))⟩⟩)
  have s24 := s23.trans s4
  tbr_iter "var"
  refine wa_nil (kv_strO T.m_Table___str__ (ok_tab_str T) (hr.mono (by decide)) passL (s24 _ _ e0) ⟨a, c, rows, rfl, ht.same s24, hc, hl, fun H5 s5 => ⟨_, rfl, wa_cons ?_⟩⟩)
  have s25 := s24.trans s5
  refine w_lcI [("row", 2)] (gName 2) tYes (fun _ _ _ _ _ => pg_name nd rfl (Or.inl rfl) (Or.inr rfl)) (fun _ _ _ _ _ => pts_nil) rfl nd (by tbr_iter "blk") (lcC_I mono_name mono_yes (wi_val ?_))
  tbr_iter "go"
  refine itv_own T.m_Table___iter__ (ok_tab_iter T) (hr.mono (by decide)) passL (s25 _ _ e0) fun n hn => ⟨a, c, rows, rfl, ht.same s25, fun it qi ui H6 nit hn2 hqi hui eH => ⟨it, qi, rfl, hn2, by rw [eH]; exact upd_same, ?_⟩⟩
  rw [eH, ItX.dropH_upd nit]
  refine ⟨_, _, itN_seq (seqIt_tup (SqT.of hqi)), by rw [hui.len]; exact Nat.lt_of_lt_of_le hl (by decide), fun i => ui[i]?, fun i x H7 hi s7 hx => ⟨rfl, Same.refl _, fun _ _ _ _ _ => ?_⟩, fun D H7 s7 n7 h7 => ?_⟩
  · tbr_iter "go"
    exact ⟨Same.refl _, hx⟩
  · rw [range_get] at h7
    refine wa_nil ⟨seven_line, fun p8 H8 s8 n8 h8 => ?_⟩
    have s78 := s7.trans s8
    have s58 := s25.trans s78
    have dp : Dp K H8 (.ref p8) (toldD c rows ys) := .lst (SqL.of h8) (.cons (.int _) (.cons (dp_rows (s58 _ _ hq) (rows_sl hu1 (Sl.of s58))) (.cons (.tup (SqT.of ((s3.trans (s4.trans (s5.trans s78))) _ _ h2)) (dpa_strs ys)) (.cons (.int _) (.cons (.bl _) (.cons (.str _)
      (.cons (.lst (SqL.of (s8 _ _ h7)) (dpa_rows (rows_sl hui (Sl.of s78)))) .nil)))))))
    obtain ⟨g1, g2⟩ := dom_fine hz zl hrow dom
    obtain ⟨f1, f2, f3, f4⟩ := told_fine hc hrow hl g1 g2
    refine wb_cons (ws_ret (w_callB T.z_repr (wa_cons ?_)))
    tbr_iter "var"
    exact wa_nil (kv_reprD hgd hu dp f1 f2 f3 f4 (k ys H8 dom s58))
end
end Ax
end
section
set_option maxHeartbeats 4000000
open PySem PySem.Spec PyProof.Rows L2 Ax
set_option hygiene false in
local macro_rules | `(tactic| tbr_iter "boot") => `(tactic| with_reducible first | exact Ax.b_len | exact Ax.b_all | exact Ax.b_any | exact Ax.b_sorted | exact Ax.b_isinstance | exact Ax.b_abs | exact Ax.b_max | exact Ax.b_min | exact Ax.b_sum | exact Ax.b_repr | exact Ax.b_iter | exact Ax.b_ord | exact Ax.b_chr | exact Ax.b_str | exact Ax.b_int | exact Ax.b_bool | exact Ax.b_tuple | exact Ax.b_list | exact Ax.b_dict | exact Ax.b_set | exact Ax.b_range | exact Ax.b_enumerate | exact Ax.b_zip)
set_option hygiene false in
local macro_rules | `(tactic| tbr_iter "vis") => `(tactic| first | exact Or.inl rfl | exact Or.inr (Or.inl rfl) | exact Or.inr (Or.inr rfl))
set_option hygiene false in
local macro_rules | `(tactic| tbr_iter "w") => `(tactic| first
  | refine wb_cons ?_
  | refine wb_nil ?_
  | refine ws_ret ?_
  | refine ws_if ?_
  | refine ws_sub ?_
  | refine wa_cons ?_
  | refine wa_nil ?_
  | refine w_int ?_
  | refine w_str ?_
  | refine w_bl ?_
  | refine w_non ?_
  | tbr_iter "var"
  | refine w_bin ?_
  | refine w_cmp ?_
  | refine w_chain ?_
  | refine w_and ?_
  | refine w_or ?_
  | refine w_one ?_
  | refine w_not ?_
  | refine w_ix ?_
  | refine w_ifExp ?_
  | refine w_tup ?_
  | refine w_lst ?_
  | refine wt_not ?_
  | refine wt_bool ?_
  | refine ww_and ?_
  | refine ww_and1 ?_
  | refine ww_or ?_
  | refine ww_or1 ?_
  | refine wt_cmp ?_
  | refine wt_val ?_
  | tbr_iter "call"
  | (refine w_glob (by tbr_iter "mg") ?_)
  | (refine w_callB (by tbr_iter "z") ?_)
  | (refine w_callTy (by tbr_iter "z") ?_)
  | (refine w_bltT (by tbr_iter "z") ?_))
set_option hygiene false in
local macro_rules | `(tactic| tbr_iter "blk") => `(tactic| first | exact blkOk_by (by dsimp only [cxOf, envOfC]; decide +kernel))
set_option hygiene false in
local macro_rules | `(tactic| tbr_iter "iff") => `(tactic| first
  | refine iteT ?_
  | refine iteF ?_
  | refine w_if2 (fun _ => ?_) (fun _ => ?_))
set_option hygiene false in
local macro_rules | `(tactic| tbr_iter "sc") => `(tactic| first | omega | decide)
set_option hygiene false in
local macro_rules | `(tactic| tbr_iter "at") => `(tactic| first | exact atI_0 | exact atI_1 | exact atI_2)
set_option hygiene false in
local macro_rules | `(tactic| tbr_iter "sql") => `(tactic| ((try dsimp only [L2.cxOf, L2.Cx.blk]); with_reducible first | assumption | exact SqL.of (by assumption)))
set_option hygiene false in
local macro_rules | `(tactic| tbr_iter "sqt") => `(tactic| ((try dsimp only [L2.cxOf, L2.Cx.blk]); with_reducible first | assumption | exact SqT.of (by assumption)))
set_option hygiene false in
local macro_rules | `(tactic| tbr_iter "v") => `(tactic| first
  | refine bv_add ?_
  | refine bv_sub ?_
  | ((with_reducible show BinV _ .Mult _ _ _ _); refine bv_mul (Or.inl ⟨by tbr_iter "sc", by tbr_iter "sc"⟩) ?_)
  | ((with_reducible show BinV _ .Mult _ _ _ _); refine bv_mul (Or.inr ⟨by tbr_iter "sc", by tbr_iter "sc"⟩) ?_)
  | ((with_reducible show BinV _ .Mod _ _ _ _); refine bv_mod (by tbr_iter "sc") ?_)
  | ((with_reducible show BinV _ .FloorDiv _ _ _ _); refine bv_fdiv ⟨by tbr_iter "sc", by tbr_iter "sc"⟩ ?_)
  | ((with_reducible show BinV _ .Pow _ _ _ _); refine bv_pow ⟨by decide, by decide +kernel⟩ ?_)
  | refine cv_lt ?_
  | refine cv_le ?_
  | refine cv_gt ?_
  | refine cv_ge ?_
  | ((with_reducible show CmpV _ .Eq _ _ _ _); refine cv_eq rfl ?_)
  | ((with_reducible show CmpV _ .NotEq _ _ _ _); refine cv_ne rfl ?_)
  | refine iv_list (by tbr_iter "sql") (by tbr_iter "at") ?_
  | refine iv_tup (by tbr_iter "sqt") (by tbr_iter "at") ?_
  | refine kv_len_seq (Or.inl (by tbr_iter "sql")) ?_
  | refine kv_len_seq (Or.inr (by tbr_iter "sqt")) ?_
  | refine kv_int ?_
  | refine kv_intB ?_
  | refine kv_abs ?_
  | refine kv_max2 rfl ?_
  | refine kv_min2 rfl ?_)
set_option hygiene false in
local macro_rules | `(tactic| tbr_iter "b") => `(tactic| first
  | refine ⟨_, rfl, iteT ?_⟩
  | refine ⟨_, rfl, iteF ?_⟩
  | refine iteT ?_
  | refine iteF ?_)
set_option hygiene false in
local macro_rules | `(tactic| tbr_iter "go") => `(tactic| repeat (first | tbr_iter "w" | tbr_iter "v" | tbr_iter "b"))
set_option hygiene false in
local macro_rules | `(tactic| tbr_iter "nof") => `(tactic| (intro d hd; cases d <;> first | rfl | exact absurd rfl (hd _)))
set_option hygiene false in
local macro_rules | `(tactic| tbr_iter "e1") => `(tactic| first | ((with_reducible show W _ _ _ _ _); tbr_iter "w") | ((with_reducible show WA _ _ _ _ _); tbr_iter "w") | ((with_reducible show WT _ _ _ _ _); tbr_iter "w") | ((with_reducible show WW _ _ _ _ _); tbr_iter "w") | tbr_iter "v")
set_option hygiene false in
local macro_rules | `(tactic| tbr_iter "ex") => `(tactic| repeat (tbr_iter "e1"))
set_option hygiene false in
local macro_rules | `(tactic| tbr_iter "z") => `(tactic| ((try dsimp only [L2.cxOf]); with_reducible first | exact T.z_IndexError | exact T.z_ValueError | exact T.z_abs | exact T.z_all | exact T.z_bool | exact T.z_classmethod | exact T.z_enumerate | exact T.z_int | exact T.z_isinstance | exact T.z_iter | exact T.z_len | exact T.z_list | exact T.z_max | exact T.z_min | exact T.z_property | exact T.z_range | exact T.z_repr | exact T.z_set | exact T.z_sorted | exact T.z_str | exact T.z_tuple))
set_option hygiene false in
local macro_rules | `(tactic| tbr_iter "mg") => `(tactic| ((try dsimp only [L2.cxOf]); with_reducible first | exact T.c_ALPHABET | exact T.c_MAX_LETTERS | exact T.c_MAX_COLUMNS))
namespace Ax
theorem text_is (c n : Nat) : tabText c n = ("table of " : Str) ++ toString (c : Int) ++ " columns, " ++ toString (n : Int) ++ " rows" := by
  unfold tabText
  rw [show (Str.empty ++ "table of " : Str) = "table of " by decide +kernel]
theorem text_fits2 : ∀ c : Nat, c ≤ 3 → ∀ n : Nat, n < 64 → ("table of " : Str).length + Str.length (toString (c : Int)) ≤ 100 ∧ (("table of " : Str) ++ toString (c : Int)).length + (" columns, " : Str).length ≤ 100 ∧ (("table of " : Str) ++ toString (c : Int) ++ " columns, ").length + Str.length (toString (n : Int)) ≤ 100 ∧ (("table of " : Str) ++ toString (c : Int) ++ " columns, " ++ toString (n : Int)).length + (" rows" : Str).length ≤ 100 := by decide +kernel
theorem row_room {c : Nat} {r : List Str} (h : NRow c r) (hc : c ≤ 3) : okD (rowD r) = true := row_ok h (by omega)
def spIsTold (K : PySem.W.Frag) : Sp := fun vs H Q _ => ∃ (a l : Addr) (c : Nat) (us : List V) (rows raw : List (List Str)) (zs : List Str), vs = [.ref a, .int c, .ref l] ∧ TabIs K H a c (tabRows raw) ∧ H l = some (.lst us) ∧ All2 (RwV H) us rows ∧ (∀ r, r ∈ rows ↔ r ∈ raw) ∧ c ≤ 3 ∧ (∀ r ∈ rows, NRow c r) ∧ rows.length < 64 ∧ NamesIn zs rows ∧ zs.length ≤ 6 ∧
  ∀ H', Same H H' → Q (.bl true) H'
theorem eqv_nil (rows : List (List Str)) : (!PyData.eqv (rowsD rows) (.tuple [])) = (rows.length != 0) := by
  cases rows <;> rfl
section
variable {P : Program} {w : World} {K : PySem.W.Frag} {mg : Str → Option Value} {base : Heap}
set_option hygiene false in
local macro_rules | `(tactic| tbr_iter "var") => `(tactic| first | ((with_reducible show W _ (.Name "made" _) _ _ _); refine w_var 0 rfl (by tbr_iter "vis") rfl ?_) | ((with_reducible show W _ (.Name "columns" _) _ _ _); refine w_var 1 rfl (by tbr_iter "vis") rfl ?_) | ((with_reducible show W _ (.Name "rows" _) _ _ _); refine w_var 2 rfl (by tbr_iter "vis") rfl ?_) | ((with_reducible show W _ (.Name "due" _) _ _ _); refine w_var 3 rfl (by tbr_iter "vis") rfl ?_) | ((with_reducible show W _ (.Name "text" _) _ _ _); refine w_var 4 rfl (by tbr_iter "vis") rfl ?_) | ((with_reducible show W _ (.Name "value" _) _ _ _); refine w_var 5 rfl (by tbr_iter "vis") rfl ?_))
set_option hygiene false in
local macro_rules | `(tactic| tbr_iter "set") => `(tactic| first | ((with_reducible show WB _ (.Assign [.Name "made" _] _ _ :: _) _ _ _); refine wb_cons (ws_set 0 ?_ rfl nd)) | ((with_reducible show WB _ (.Assign [.Name "columns" _] _ _ :: _) _ _ _); refine wb_cons (ws_set 1 ?_ rfl nd)) | ((with_reducible show WB _ (.Assign [.Name "rows" _] _ _ :: _) _ _ _); refine wb_cons (ws_set 2 ?_ rfl nd)) | ((with_reducible show WB _ (.Assign [.Name "due" _] _ _ :: _) _ _ _); refine wb_cons (ws_set 3 ?_ rfl nd)) | ((with_reducible show WB _ (.Assign [.Name "text" _] _ _ :: _) _ _ _); refine wb_cons (ws_set 4 ?_ rfl nd)) | ((with_reducible show WB _ (.Assign [.Name "value" _] _ _ :: _) _ _ _); refine wb_cons (ws_set 5 ?_ rfl nd)))
theorem ok_law_is_told (T : Txt K mg) : CalleeG P w K mg base "_law_is_told" 10 ["made", "columns", "rows"] (spIsTold K) := by
  refine def_okG T.f__law_is_told sc__law_is_told (fun _ _ _ _ _ _ us hl => match us, hl with | [_, _, _], _ => rfl) (fun vs H Q E h => ?_) fun f cdv A outer s H vs Q E hgd hr h => ?_
  · obtain ⟨a, l, c, us, rows, raw, zs, rfl, _⟩ := h; rfl
  obtain ⟨a, l, c, us, rows, raw, zs, rfl, ht, hl, hu1, hmem, hc, hrow, hrl, hz, zl, k⟩ := h
  have nd := sc__law_is_told.nd
  have hu := room64 hr
  have hu6 := room65 hr
  have kc := T.kc_Table
  have et : tabRows raw = tabRows rows := tabRows_congr fun r => (hmem r).symm
  rw [et] at ht
  have trow := tab_row hrow
  have tlen : (tabRows rows).length < 64 := Nat.lt_of_le_of_lt (tabRows_len rows) hrl
  have tz : NamesIn zs (tabRows rows) := fun r hr => hz r (tabRows_mem.mp hr)
  obtain ⟨g1, g2, g3, g4⟩ := text_fits2 c hc (tabRows rows).length tlen
  have le : ∀ {n : Nat}, n ≤ 100 → n ≤ sizeLine := fun h => Nat.le_trans h (by decide)
  refine wb_cons (ws_set 3 (w_callTy T.z_tuple (wa_cons (w_callB T.z_sorted (wa_cons (w_callTy T.z_set (wa_cons ?_)))))) rfl nd)
  tbr_iter "var"
  refine wa_nil (kv_setT rfl hu (SqL.of hl) hu1 hrl fun q2 H5 s5 n5 h5 => wa_nil (kv_sortedSetT (n := c) rfl hu h5 (fun r hr => (hrow r hr).1) fun q3 H6 us3 s6 n6 h6 hu6' => wa_nil (kv_tupleL (SqL.of h6) fun q4 H7 s7 n7 h7 => ?_)))
  rw [tabRows_is] at hu6'
  have hu7 := rows_sl hu6' (Sl.of s7)
  have ul : us3.length = (tabRows rows).length := hu7.len
  have s07 := s5.trans (s6.trans s7)
  have t7 := ht.same s07
  refine wb_cons (ws_set 4 (w_bin (w_bin (w_bin (w_bin (w_str (w_callTy T.z_str (wa_cons ?_))))))) rfl nd)
  tbr_iter "var"
  refine wa_nil (kv_strI (by simpa using nat_log c (by omega)) (bv_catS (le g1) (w_str (bv_catS (le g2) (w_callTy T.z_str (wa_cons (w_callB T.z_len (wa_cons ?_))))))))
  tbr_iter "var"
  refine wa_nil (kv_len_seq (Or.inr (SqT.of h7)) ?_)
  rw [ul]
  refine wa_nil (kv_strI (by simpa using nat_log _ tlen) (bv_catS (le g3) (w_str (bv_catS (le g4) ?_))))
  rw [← text_is]
  refine wb_cons (ws_if (wt_cmp (w_callG (ok_law_told T) hgd hr passL (wa_cons ?_))))
  tbr_iter "var"
  refine wa_nil ⟨a, c, tabRows rows, zs, rfl, t7, hc, trow, tlen, tz, zl, fun ys H8 dom s8 => w_callB T.z_repr (wa_cons (w_lst (wa_cons ?_)))⟩
  have h8 := s8 _ _ h7
  have hu8 := rows_sl hu7 (Sl.of s8)
  tbr_iter "var"
  refine wa_cons ?_
  tbr_iter "var"
  refine wa_cons (w_call (ok_law_domain T) (hr.mono (by decide)) passL (wa_cons ?_))
  tbr_iter "var"
  refine wa_nil ⟨q4, us3, tabRows rows, zs, rfl, h8, hu8, by omega, fun r hr => by rw [(trow r hr).1]; exact hc, by omega, tz, fun ys2 qd H9 s9 n9 hd dom2 => wa_cons (w_callB T.z_len (wa_cons ?_))⟩
  have ey := dom2.uniq dom
  subst ey
  tbr_iter "var"
  refine wa_nil (kv_len_seq (Or.inr (SqT.of (s9 _ _ h8))) (wa_cons (w_cmp ?_)))
  tbr_iter "var"
  refine w_tup (wa_nil ⟨zero_line, fun pe Ha sa na ha => ?_⟩)
  have s9a := s9.trans sa
  refine cv_neD hu (dp_rows (s9a _ _ h8) (rows_sl hu8 (Sl.of s9a))) (d' := .tuple []) (.tup (SqT.of ha) .nil) (shaped_rows trow) (by decide) ?_
  rw [eqv_nil]
  refine wa_cons ?_
  tbr_iter "var"
  refine wa_cons (w_callTy T.z_list (wa_cons ?_))
  tbr_iter "var"
  refine wa_nil (kv_listS (.inr (SqT.of (s9a _ _ h8))) fun ql Hb sb nb hb => wa_nil ⟨seven_line, fun p8 Hc sc ncc hc8 => ?_⟩)
  have sac := sa.trans (sb.trans sc)
  have s8c := s9.trans sac
  have hu8c := rows_sl hu8 (Sl.of s8c)
  obtain ⟨y1, y2⟩ := dom_fine tz zl trow dom
  obtain ⟨f1, f2, f3, f4⟩ := told_fine hc trow tlen y1 y2
  have dp : Dp K Hc (.ref p8) (toldD c (tabRows rows) ys2) := by
    unfold toldD
    rw [ul] at hc8
    exact .lst (SqL.of hc8) (.cons (.int _) (.cons (dp_rows (s8c _ _ h8) hu8c) (.cons (.tup (SqT.of (sac _ _ hd)) (dpa_strs ys2)) (.cons (.int _) (.cons (.bl _) (.cons (.str _) (.cons (.lst (SqL.of (sc _ _ hb)) (dpa_rows hu8c)) .nil)))))))
  refine wa_nil (kv_reprD hgd hu dp f1 f2 f3 f4 (cv_ne rfl ⟨_, rfl, ?_⟩))
  rw [decide_eq_true rfl]
  refine iteF (wb_nil ?_)
  have s0c := s07.trans (s8.trans s8c)
  have tc := t7.same (s8.trans s8c)
  have hqc := s8c _ _ h8
  refine wb_cons (ws_for 5 (wi_val (w_bin (w_call0 (ok_law_odd T) (hr.mono (by decide)) passL ⟨rfl, fun qo uo Hd sd ndd hqo ao => w_callTy T.z_list (wa_cons ?_)⟩))) rfl nd (passes_of rfl))
  tbr_iter "var"
  refine wa_nil (kv_listS (.inr (SqT.of (sd _ _ hqc))) fun ql2 He se ne hl2 => bv_cat (se _ _ hqo) hl2 ?_ fun qa Hf sf nf hqa => ?_)
  · rw [ao.len, ul]
    exact Nat.le_trans (show _ ≤ 100 by have : (oddA ++ oddB).length = 17 := rfl; omega) (by decide)
  have sef := se.trans sf
  have sdf := sd.trans sef
  have tf := tc.same sdf
  have hqf := sdf _ _ hqc
  have huf := rows_sl hu8c (Sl.of sdf)
  have odds : ∀ x ∈ uo ++ us3, ∃ o, OddV K Hf x o := fun x hx => by
    rcases List.mem_append.mp hx with hx | hx
    · obtain ⟨i, hi⟩ := List.mem_iff_getElem?.mp hx
      obtain ⟨cd, hcd, ow⟩ := ao.at hi
      exact ⟨rowC cd, (ow.same sef).odd (odd_fineO cd (List.mem_of_getElem? hcd))⟩
    · obtain ⟨i, hi⟩ := List.mem_iff_getElem?.mp hx
      obtain ⟨r, hr2, b, rfl, hb2⟩ := huf.at hi
      exact ⟨some r, .row hb2 (row_room (trow r (List.mem_of_getElem? hr2)) hc)⟩
  refine itv_list (SqL.of hqa) ⟨_, _, _, walk_list (K := K) (xs := uo ++ us3), fun j σ Hg => ∃ x5, σ = [some (.ref a), some (.int c), some (.ref l), some (.ref q4), some (.str (tabText c (tabRows rows).length)), x5] ∧ Same Hf Hg, ⟨none, rfl, Same.refl _⟩, fun _ _ _ _ ⟨_, _, s⟩ => s.seq (SqL.of hqa), ?_, ?_⟩
  · rintro j x σ Hg Hg' hj ⟨x5, rfl, sg⟩ ⟨e, hx⟩
    subst e
    obtain ⟨o, ho⟩ := odds x (List.mem_of_getElem? hx)
    have tg := tf.same sg
    obtain ⟨dx, q0, d0, e0, _⟩ := id tg
    refine wb_cons (ws_if (wt_cmp (w_cmp ?_)))
    tbr_iter "var"
    tbr_iter "var"
    refine cv_inO T.m_Table___contains__ (ok_tab_has T) (hr.mono (by decide)) passL e0 ⟨a, x, c, tabRows rows, o, rfl, tg, ho.same sg, trow, fun Hh sh => ⟨_, rfl, w_cmp ?_⟩⟩
    tbr_iter "var"
    tbr_iter "var"
    have sgh := sg.trans sh
    refine cv_inOdd hu6 (ho.same sgh) (sgh _ _ hqf) (rows_sl huf (Sl.of sgh)) trow (cv_ne rfl ⟨_, rfl, ?_⟩)
    rw [decide_eq_true rfl]
    exact iteF (wb_nil (wb_nil ⟨_, rfl, sgh⟩))
  · rintro σ Hg ⟨x5, rfl, sg⟩
    tbr_iter "go"
    exact k Hg (s0c.trans (sdf.trans sg))
end
end Ax
end
section
set_option maxHeartbeats 4000000
open PySem PySem.Spec PyProof.Rows L2 Ax
set_option hygiene false in
local macro_rules | `(tactic| tbr_iter "boot") => `(tactic| with_reducible first | exact Ax.b_len | exact Ax.b_all | exact Ax.b_any | exact Ax.b_sorted | exact Ax.b_isinstance | exact Ax.b_abs | exact Ax.b_max | exact Ax.b_min | exact Ax.b_sum | exact Ax.b_repr | exact Ax.b_iter | exact Ax.b_ord | exact Ax.b_chr | exact Ax.b_str | exact Ax.b_int | exact Ax.b_bool | exact Ax.b_tuple | exact Ax.b_list | exact Ax.b_dict | exact Ax.b_set | exact Ax.b_range | exact Ax.b_enumerate | exact Ax.b_zip)
set_option hygiene false in
local macro_rules | `(tactic| tbr_iter "vis") => `(tactic| first | exact Or.inl rfl | exact Or.inr (Or.inl rfl) | exact Or.inr (Or.inr rfl))
set_option hygiene false in
local macro_rules | `(tactic| tbr_iter "w") => `(tactic| first
  | refine wb_cons ?_
  | refine wb_nil ?_
  | refine ws_ret ?_
  | refine ws_if ?_
  | refine ws_sub ?_
  | refine wa_cons ?_
  | refine wa_nil ?_
  | refine w_int ?_
  | refine w_str ?_
  | refine w_bl ?_
  | refine w_non ?_
  | tbr_iter "var"
  | refine w_bin ?_
  | refine w_cmp ?_
  | refine w_chain ?_
  | refine w_and ?_
  | refine w_or ?_
  | refine w_one ?_
  | refine w_not ?_
  | refine w_ix ?_
  | refine w_ifExp ?_
  | refine w_tup ?_
  | refine w_lst ?_
  | refine wt_not ?_
  | refine wt_bool ?_
  | refine ww_and ?_
  | refine ww_and1 ?_
  | refine ww_or ?_
  | refine ww_or1 ?_
  | refine wt_cmp ?_
  | refine wt_val ?_
  | tbr_iter "call"
  | (refine w_glob (by tbr_iter "mg") ?_)
  | (refine w_callB (by tbr_iter "z") ?_)
  | (refine w_callTy (by tbr_iter "z") ?_)
  | (refine w_bltT (by tbr_iter "z") ?_))
set_option hygiene false in
local macro_rules | `(tactic| tbr_iter "blk") => `(tactic| first | exact blkOk_by (by dsimp only [cxOf, envOfC]; decide +kernel))
set_option hygiene false in
local macro_rules | `(tactic| tbr_iter "iff") => `(tactic| first
  | refine iteT ?_
  | refine iteF ?_
  | refine w_if2 (fun _ => ?_) (fun _ => ?_))
set_option hygiene false in
local macro_rules | `(tactic| tbr_iter "sc") => `(tactic| first | omega | decide)
set_option hygiene false in
local macro_rules | `(tactic| tbr_iter "at") => `(tactic| first | exact atI_0 | exact atI_1 | exact atI_2)
set_option hygiene false in
local macro_rules | `(tactic| tbr_iter "sql") => `(tactic| ((try dsimp only [L2.cxOf, L2.Cx.blk]); with_reducible first | assumption | exact SqL.of (by assumption)))
set_option hygiene false in
local macro_rules | `(tactic| tbr_iter "sqt") => `(tactic| ((try dsimp only [L2.cxOf, L2.Cx.blk]); with_reducible first | assumption | exact SqT.of (by assumption)))
set_option hygiene false in
local macro_rules | `(tactic| tbr_iter "v") => `(tactic| first
  | refine bv_add ?_
  | refine bv_sub ?_
  | ((with_reducible show BinV _ .Mult _ _ _ _); refine bv_mul (Or.inl ⟨by tbr_iter "sc", by tbr_iter "sc"⟩) ?_)
  | ((with_reducible show BinV _ .Mult _ _ _ _); refine bv_mul (Or.inr ⟨by tbr_iter "sc", by tbr_iter "sc"⟩) ?_)
  | ((with_reducible show BinV _ .Mod _ _ _ _); refine bv_mod (by tbr_iter "sc") ?_)
  | ((with_reducible show BinV _ .FloorDiv _ _ _ _); refine bv_fdiv ⟨by tbr_iter "sc", by tbr_iter "sc"⟩ ?_)
  | ((with_reducible show BinV _ .Pow _ _ _ _); refine bv_pow ⟨by decide, by decide +kernel⟩ ?_)
  | refine cv_lt ?_
  | refine cv_le ?_
  | refine cv_gt ?_
  | refine cv_ge ?_
  | ((with_reducible show CmpV _ .Eq _ _ _ _); refine cv_eq rfl ?_)
  | ((with_reducible show CmpV _ .NotEq _ _ _ _); refine cv_ne rfl ?_)
  | refine iv_list (by tbr_iter "sql") (by tbr_iter "at") ?_
  | refine iv_tup (by tbr_iter "sqt") (by tbr_iter "at") ?_
  | refine kv_len_seq (Or.inl (by tbr_iter "sql")) ?_
  | refine kv_len_seq (Or.inr (by tbr_iter "sqt")) ?_
  | refine kv_int ?_
  | refine kv_intB ?_
  | refine kv_abs ?_
  | refine kv_max2 rfl ?_
  | refine kv_min2 rfl ?_)
set_option hygiene false in
local macro_rules | `(tactic| tbr_iter "b") => `(tactic| first
  | refine ⟨_, rfl, iteT ?_⟩
  | refine ⟨_, rfl, iteF ?_⟩
  | refine iteT ?_
  | refine iteF ?_)
set_option hygiene false in
local macro_rules | `(tactic| tbr_iter "go") => `(tactic| repeat (first | tbr_iter "w" | tbr_iter "v" | tbr_iter "b"))
set_option hygiene false in
local macro_rules | `(tactic| tbr_iter "nof") => `(tactic| (intro d hd; cases d <;> first | rfl | exact absurd rfl (hd _)))
set_option hygiene false in
local macro_rules | `(tactic| tbr_iter "e1") => `(tactic| first | ((with_reducible show W _ _ _ _ _); tbr_iter "w") | ((with_reducible show WA _ _ _ _ _); tbr_iter "w") | ((with_reducible show WT _ _ _ _ _); tbr_iter "w") | ((with_reducible show WW _ _ _ _ _); tbr_iter "w") | tbr_iter "v")
set_option hygiene false in
local macro_rules | `(tactic| tbr_iter "ex") => `(tactic| repeat (tbr_iter "e1"))
set_option hygiene false in
local macro_rules | `(tactic| tbr_iter "z") => `(tactic| ((try dsimp only [L2.cxOf]); with_reducible first | exact T.z_IndexError | exact T.z_ValueError | exact T.z_abs | exact T.z_all | exact T.z_bool | exact T.z_classmethod | exact T.z_enumerate | exact T.z_int | exact T.z_isinstance | exact T.z_iter | exact T.z_len | exact T.z_list | exact T.z_max | exact T.z_min | exact T.z_property | exact T.z_range | exact T.z_repr | exact T.z_set | exact T.z_sorted | exact T.z_str | exact T.z_tuple))
set_option hygiene false in
local macro_rules | `(tactic| tbr_iter "mg") => `(tactic| ((try dsimp only [L2.cxOf]); with_reducible first | exact T.c_ALPHABET | exact T.c_MAX_LETTERS | exact T.c_MAX_COLUMNS))
namespace Ax
def sameR (xs ys : List (List Str)) : Bool := (xs.all fun r => decide (r ∈ ys)) && ys.all fun r => decide (r ∈ xs)
theorem sameR_iff {xs ys : List (List Str)} : sameR xs ys = true ↔ ∀ r, r ∈ xs ↔ r ∈ ys := by
  unfold sameR
  rw [Bool.and_eq_true, List.all_eq_true, List.all_eq_true]
  constructor
  · rintro ⟨h1, h2⟩ r
    exact ⟨fun h => of_decide_eq_true (h1 r h), fun h => of_decide_eq_true (h2 r h)⟩
  · exact fun h => ⟨fun r hr => decide_eq_true ((h r).mp hr), fun r hr => decide_eq_true ((h r).mpr hr)⟩
section
variable {X : Cx} {H : Hp} {Q : VK}
theorem setIs_tk {pins : List (Addr × Obj)} {σ : L2.St} {s : Shared} {a : Addr} {rows : List (List Str)} (I : Inv X pins σ H s) (h : SetIs X H a rows) : ∃ L es ep t, SetTK X.prog X.w s.heap a L es ep t ∧ ∀ k, k ∈ keysT L ↔ ∃ r ∈ rows, k = r.map Sum.inr := by
  obtain ⟨L, hO, hL, hR⟩ := h
  obtain ⟨es, ep, t, ob, ents, tab, once, led, room, few⟩ := (I.hok a _ hO).1
  refine ⟨L, es, ep, t, ⟨ob, ents, tab, once, fun p hp => ?_, led, room, few⟩, fun k => ⟨fun hk => ?_, ?_⟩⟩
  · obtain ⟨r, e1, e2, e3⟩ := hL p hp
    rw [e1]
    exact tk_of I e3
  · obtain ⟨p, hp, rfl⟩ := List.mem_map.mp hk
    obtain ⟨r, e1, e2, e3⟩ := hL p hp
    exact ⟨r, e2, e1⟩
  · rintro ⟨r, hr, rfl⟩
    exact hR r hr
/-- set == set -/
theorem cv_eqSet {a b : Addr} {xs ys : List (List Str)} (hu : X.A.units + 64 < cLine) (ha : SetIs X H a xs) (hb : SetIs X H b ys) (h : Q (.bl (sameR xs ys)) H) : CmpV X .Eq (.ref a) (.ref b) H Q := by
  refine ⟨fun x y H' Q' => x = .ref a ∧ y = .ref b ∧ H' = H ∧ Q' = Q, ?_, rfl, rfl, rfl, rfl⟩
  rintro pins s σ' H' x y u v Q' I rx ry ⟨rfl, rfl, rfl, rfl⟩
  cases (show u = Value.ref a from rx)
  cases (show v = Value.ref b from ry)
  obtain ⟨L1, es1, ep1, t1, R1, m1⟩ := setIs_tk I ha
  obtain ⟨L2, es2, ep2, t2, R2, m2⟩ := setIs_tk I hb
  refine eq_setT R1 R2 (by omega) fun r d hr => ?_
  have e : r = sameR xs ys := by
    rw [Bool.eq_iff_iff, hr, sameR_iff]
    have l1 : (keysT L1).length = L1.length := List.length_map _
    have l2 : (keysT L2).length = L2.length := List.length_map _
    constructor
    · rintro ⟨hl, sub⟩
      have s1 : ∀ k ∈ keysT L1, k ∈ keysT L2 := fun k hk => by
        obtain ⟨p, hp, rfl⟩ := List.mem_map.mp hk
        exact sub p hp
      have s2 : ∀ k ∈ keysT L2, k ∈ keysT L1 := fun k hk => by
        by_cases z : k ∈ keysT L1
        · exact z
        · have nd : (k :: keysT L1).Nodup := List.nodup_cons.mpr ⟨z, R1.once⟩
          have := nodup_len nd (L := keysT L2) fun y hy => by
            rcases List.mem_cons.mp hy with rfl | hy
            · exact hk
            · exact s1 y hy
          rw [List.length_cons] at this
          omega
      intro r
      constructor
      · intro h
        obtain ⟨r2, h2, e2⟩ := (m2 _).mp (s1 _ ((m1 _).mpr ⟨r, h, rfl⟩))
        rw [map_inr_inj _ _ e2]
        exact h2
      · intro h
        obtain ⟨r2, h2, e2⟩ := (m1 _).mp (s2 _ ((m2 _).mpr ⟨r, h, rfl⟩))
        rw [map_inr_inj _ _ e2]
        exact h2
    · intro hm
      have s1 : ∀ k ∈ keysT L1, k ∈ keysT L2 := fun k hk => by
        obtain ⟨r, hr, e⟩ := (m1 _).mp hk
        exact (m2 _).mpr ⟨r, (hm r).mp hr, e⟩
      have s2 : ∀ k ∈ keysT L2, k ∈ keysT L1 := fun k hk => by
        obtain ⟨r, hr, e⟩ := (m2 _).mp hk
        exact (m1 _).mpr ⟨r, (hm r).mpr hr, e⟩
      have g1 : (keysT L1).length ≤ (keysT L2).length := nodup_len R1.once s1
      have g2 : (keysT L2).length ≤ (keysT L1).length := nodup_len R2.once s2
      rw [l1, l2] at g1 g2
      exact ⟨by omega, fun p hp => s1 _ (List.mem_map.mpr ⟨p, hp, rfl⟩)⟩
  have I0 : Inv X pins σ' H' { s with drawn := d } := I.call (ch := []) (Un.kept fun _ _ e => e) (I.hok.kept fun _ _ e => e) I.bare (fun _ z => nomatch z)
  exact ⟨.bl r, H', I0, rfl, by rw [e]; exact h⟩
end
end Ax
end
section
set_option maxHeartbeats 4000000
open PySem PySem.Spec PyProof.Rows L2 Ax
set_option hygiene false in
local macro_rules | `(tactic| tbr_iter "boot") => `(tactic| with_reducible first | exact Ax.b_len | exact Ax.b_all | exact Ax.b_any | exact Ax.b_sorted | exact Ax.b_isinstance | exact Ax.b_abs | exact Ax.b_max | exact Ax.b_min | exact Ax.b_sum | exact Ax.b_repr | exact Ax.b_iter | exact Ax.b_ord | exact Ax.b_chr | exact Ax.b_str | exact Ax.b_int | exact Ax.b_bool | exact Ax.b_tuple | exact Ax.b_list | exact Ax.b_dict | exact Ax.b_set | exact Ax.b_range | exact Ax.b_enumerate | exact Ax.b_zip)
set_option hygiene false in
local macro_rules | `(tactic| tbr_iter "vis") => `(tactic| first | exact Or.inl rfl | exact Or.inr (Or.inl rfl) | exact Or.inr (Or.inr rfl))
set_option hygiene false in
local macro_rules | `(tactic| tbr_iter "w") => `(tactic| first
  | refine wb_cons ?_
  | refine wb_nil ?_
  | refine ws_ret ?_
  | refine ws_if ?_
  | refine ws_sub ?_
  | refine wa_cons ?_
  | refine wa_nil ?_
  | refine w_int ?_
  | refine w_str ?_
  | refine w_bl ?_
  | refine w_non ?_
  | tbr_iter "var"
  | refine w_bin ?_
  | refine w_cmp ?_
  | refine w_chain ?_
  | refine w_and ?_
  | refine w_or ?_
  | refine w_one ?_
  | refine w_not ?_
  | refine w_ix ?_
  | refine w_ifExp ?_
  | refine w_tup ?_
  | refine w_lst ?_
  | refine wt_not ?_
  | refine wt_bool ?_
  | refine ww_and ?_
  | refine ww_and1 ?_
  | refine ww_or ?_
  | refine ww_or1 ?_
  | refine wt_cmp ?_
  | refine wt_val ?_
  | tbr_iter "call"
  | (refine w_glob (by tbr_iter "mg") ?_)
  | (refine w_callB (by tbr_iter "z") ?_)
  | (refine w_callTy (by tbr_iter "z") ?_)
  | (refine w_bltT (by tbr_iter "z") ?_))
set_option hygiene false in
local macro_rules | `(tactic| tbr_iter "blk") => `(tactic| first | exact blkOk_by (by dsimp only [cxOf, envOfC]; decide +kernel))
set_option hygiene false in
local macro_rules | `(tactic| tbr_iter "iff") => `(tactic| first
  | refine iteT ?_
  | refine iteF ?_
  | refine w_if2 (fun _ => ?_) (fun _ => ?_))
set_option hygiene false in
local macro_rules | `(tactic| tbr_iter "sc") => `(tactic| first | omega | decide)
set_option hygiene false in
local macro_rules | `(tactic| tbr_iter "at") => `(tactic| first | exact atI_0 | exact atI_1 | exact atI_2)
set_option hygiene false in
local macro_rules | `(tactic| tbr_iter "sql") => `(tactic| ((try dsimp only [L2.cxOf, L2.Cx.blk]); with_reducible first | assumption | exact SqL.of (by assumption)))
set_option hygiene false in
local macro_rules | `(tactic| tbr_iter "sqt") => `(tactic| ((try dsimp only [L2.cxOf, L2.Cx.blk]); with_reducible first | assumption | exact SqT.of (by assumption)))
set_option hygiene false in
local macro_rules | `(tactic| tbr_iter "v") => `(tactic| first
  | refine bv_add ?_
  | refine bv_sub ?_
  | ((with_reducible show BinV _ .Mult _ _ _ _); refine bv_mul (Or.inl ⟨by tbr_iter "sc", by tbr_iter "sc"⟩) ?_)
  | ((with_reducible show BinV _ .Mult _ _ _ _); refine bv_mul (Or.inr ⟨by tbr_iter "sc", by tbr_iter "sc"⟩) ?_)
  | ((with_reducible show BinV _ .Mod _ _ _ _); refine bv_mod (by tbr_iter "sc") ?_)
  | ((with_reducible show BinV _ .FloorDiv _ _ _ _); refine bv_fdiv ⟨by tbr_iter "sc", by tbr_iter "sc"⟩ ?_)
  | ((with_reducible show BinV _ .Pow _ _ _ _); refine bv_pow ⟨by decide, by decide +kernel⟩ ?_)
  | refine cv_lt ?_
  | refine cv_le ?_
  | refine cv_gt ?_
  | refine cv_ge ?_
  | ((with_reducible show CmpV _ .Eq _ _ _ _); refine cv_eq rfl ?_)
  | ((with_reducible show CmpV _ .NotEq _ _ _ _); refine cv_ne rfl ?_)
  | refine iv_list (by tbr_iter "sql") (by tbr_iter "at") ?_
  | refine iv_tup (by tbr_iter "sqt") (by tbr_iter "at") ?_
  | refine kv_len_seq (Or.inl (by tbr_iter "sql")) ?_
  | refine kv_len_seq (Or.inr (by tbr_iter "sqt")) ?_
  | refine kv_int ?_
  | refine kv_intB ?_
  | refine kv_abs ?_
  | refine kv_max2 rfl ?_
  | refine kv_min2 rfl ?_)
set_option hygiene false in
local macro_rules | `(tactic| tbr_iter "b") => `(tactic| first
  | refine ⟨_, rfl, iteT ?_⟩
  | refine ⟨_, rfl, iteF ?_⟩
  | refine iteT ?_
  | refine iteF ?_)
set_option hygiene false in
local macro_rules | `(tactic| tbr_iter "go") => `(tactic| repeat (first | tbr_iter "w" | tbr_iter "v" | tbr_iter "b"))
set_option hygiene false in
local macro_rules | `(tactic| tbr_iter "nof") => `(tactic| (intro d hd; cases d <;> first | rfl | exact absurd rfl (hd _)))
set_option hygiene false in
local macro_rules | `(tactic| tbr_iter "e1") => `(tactic| first | ((with_reducible show W _ _ _ _ _); tbr_iter "w") | ((with_reducible show WA _ _ _ _ _); tbr_iter "w") | ((with_reducible show WT _ _ _ _ _); tbr_iter "w") | ((with_reducible show WW _ _ _ _ _); tbr_iter "w") | tbr_iter "v")
set_option hygiene false in
local macro_rules | `(tactic| tbr_iter "ex") => `(tactic| repeat (tbr_iter "e1"))
set_option hygiene false in
local macro_rules | `(tactic| tbr_iter "z") => `(tactic| ((try dsimp only [L2.cxOf]); with_reducible first | exact T.z_IndexError | exact T.z_ValueError | exact T.z_abs | exact T.z_all | exact T.z_bool | exact T.z_classmethod | exact T.z_enumerate | exact T.z_int | exact T.z_isinstance | exact T.z_iter | exact T.z_len | exact T.z_list | exact T.z_max | exact T.z_min | exact T.z_property | exact T.z_range | exact T.z_repr | exact T.z_set | exact T.z_sorted | exact T.z_str | exact T.z_tuple))
set_option hygiene false in
local macro_rules | `(tactic| tbr_iter "mg") => `(tactic| ((try dsimp only [L2.cxOf]); with_reducible first | exact T.c_ALPHABET | exact T.c_MAX_LETTERS | exact T.c_MAX_COLUMNS))
namespace Ax
theorem shaped_rowsL {c : Nat} {rows : List (List Str)} (h : ∀ r ∈ rows, NRow c r) : SeqAt.shaped (.list (rows.map rowD)) = true := shaped_rows h
theorem told_len {c : Nat} {rows : List (List Str)} {ys : List Str} (hc : c ≤ 3) (h : ∀ r ∈ rows, NRow c r) (hl : rows.length < 64) (hy : ∀ z ∈ ys, isNameS z = true) (yl : ys.length < 64) : (toldD c rows ys).shown.length ≤ 100000 := by
  obtain ⟨s1, s2⟩ := short_rows hc h
  obtain ⟨y1, y2⟩ := short_strs hy
  obtain ⟨t1, t2⟩ := text_short c hc rows.length hl
  have g : (toldD c rows ys).leavesShort 8 = true := by
    show (decide ((PyData.shown (.int (c : Int))).length ≤ 8) && (PyData.leavesShortAll 8 (rows.map rowD) && (PyData.leavesShortAll 8 (ys.map .str) && (decide ((PyData.shown (.int (rows.length : Nat))).length ≤ 8) && (true && (((tabText c rows.length).cps.toList.all fun c => decide (c < 16 ^ 8)) && (PyData.leavesShortAll 8 (rows.map rowD) && true))))))) = true
    rw [s1, y1, t1, decide_eq_true (int_short2 c (by omega)), decide_eq_true (int_short2 _ hl)]
    rfl
  have b : (toldD c rows ys).bulk ≤ 5000 := by
    show 0 + 1 + (PyData.bulkAll (rows.map rowD) + 1 + (PyData.bulkAll (ys.map .str) + 1 + (0 + 1 + (0 + 1 + ((tabText c rows.length).cps.size + 1 + (PyData.bulkAll (rows.map rowD) + 1 + 0)))))) ≤ 5000
    omega
  have z := PyData.shown_le_bulk 8 (by decide) _ g
  omega
def boolsD (bs : List Bool) : PyData := .list (bs.map .bool)
theorem bools_fine : ∀ b1 b2 b3 b4 b5 : Bool, (boolsD [b1, b2, b3, b4, b5]).showable = true ∧ (boolsD [b1, b2, b3, b4, b5]).hasDict = false ∧ (boolsD [b1, b2, b3, b4, b5]).depth ≤ 60 ∧ (boolsD [b1, b2, b3, b4, b5]).shown.length ≤ 1000 := by decide +kernel
theorem within_is {c : Nat} (rows others : List (List Str)) : inO c (tabRows rows) (some (c, tabRows others)) = (rows.filter fun r => !decide (r ∈ others)).isEmpty := by
  show (decide (c = c) && (tabRows rows).all fun r => decide (r ∈ tabRows others)) = _
  rw [decide_eq_true rfl, Bool.true_and, Bool.eq_iff_iff, List.all_eq_true, List.isEmpty_iff, List.filter_eq_nil_iff]
  constructor
  · intro h r hr
    have := of_decide_eq_true (h r (tabRows_mem.mpr hr))
    simp [tabRows_mem.mp this]
  · intro h r hr
    have := h r (tabRows_mem.mp hr)
    simp at this
    exact decide_eq_true (tabRows_mem.mpr this)
theorem eq_is {c : Nat} (rows others : List (List Str)) : eqO c (tabRows rows) (some (c, tabRows others)) = sameR rows others := by
  show decide (c = c ∧ tabRows rows = tabRows others) = _
  rw [Bool.eq_iff_iff, decide_eq_true_iff, sameR_iff]
  constructor
  · rintro ⟨_, e⟩ r
    rw [← tabRows_mem (raw := rows), ← tabRows_mem (raw := others), e]
  · exact fun h => ⟨rfl, tabRows_congr h⟩
theorem in_own {c : Nat} (rows others : List (List Str)) : inO c (tabRows others) (some (c, tabRows (tabRows rows ++ tabRows others))) = true := by
  show (decide (c = c) && (tabRows others).all fun r => decide (r ∈ tabRows (tabRows rows ++ tabRows others))) = _
  rw [decide_eq_true rfl, Bool.true_and, List.all_eq_true]
  exact fun r hr => decide_eq_true (tabRows_mem.mpr (List.mem_append_right _ hr))
theorem minus_is {c : Nat} (rows others : List (List Str)) : eqO c (tabRows ((tabRows (tabRows rows ++ tabRows others)).filter fun r => !decide (r ∈ tabRows others))) (some (c, tabRows ((tabRows rows).filter fun r => !decide (r ∈ tabRows others)))) = true := by
  show decide (c = c ∧ _) = true
  refine decide_eq_true ⟨rfl, tabRows_congr fun r => ?_⟩
  rw [List.mem_filter, List.mem_filter, tabRows_mem, List.mem_append]
  constructor
  · rintro ⟨h1 | h1, h2⟩
    · exact ⟨h1, h2⟩
    · rw [decide_eq_true h1] at h2
      cases h2
  · exact fun ⟨h1, h2⟩ => ⟨.inl h1, h2⟩
def spBoth (K : PySem.W.Frag) : Sp := fun vs H Q _ => ∃ (l1 l2 : Addr) (c : Nat) (us1 us2 : List V) (rows others : List (List Str)) (zs : List Str), vs = [.int c, .ref l1, .ref l2] ∧ H l1 = some (.lst us1) ∧ H l2 = some (.lst us2) ∧ All2 (RwV H) us1 rows ∧ All2 (RwV H) us2 others ∧ c ≤ 3 ∧ (∀ r ∈ rows, NRow c r) ∧ (∀ r ∈ others, NRow c r) ∧ rows.length + others.length < 60 ∧ NamesIn zs rows ∧ NamesIn zs others ∧ zs.length ≤ 6 ∧
  ∀ H', Same H H' → Q (.bl true) H'
theorem five_line : 5 ≤ sizeLine := by decide
theorem len_s {α : Type} {f : α → Bool} (rows : List α) {n : Nat} (h : rows.length < n) : (rows.filter f).length < n := Nat.lt_of_le_of_lt (List.length_filter_le _ _) h
section
variable {P : Program} {w : World} {K : PySem.W.Frag} {mg : Str → Option Value} {base : Heap}
set_option hygiene false in
local macro_rules | `(tactic| tbr_iter "var") => `(tactic| first | ((with_reducible show W _ (.Name "columns" _) _ _ _); refine w_var 0 rfl (by tbr_iter "vis") rfl ?_) | ((with_reducible show W _ (.Name "rows" _) _ _ _); refine w_var 1 rfl (by tbr_iter "vis") rfl ?_) | ((with_reducible show W _ (.Name "others" _) _ _ _); refine w_var 2 rfl (by tbr_iter "vis") rfl ?_) | ((with_reducible show W _ (.Name "one" _) _ _ _); refine w_var 3 rfl (by tbr_iter "vis") rfl ?_) | ((with_reducible show W _ (.Name "two" _) _ _ _); refine w_var 4 rfl (by tbr_iter "vis") rfl ?_) | ((with_reducible show W _ (.Name "before" _) _ _ _); refine w_var 5 rfl (by tbr_iter "vis") rfl ?_) | ((with_reducible show W _ (.Name "due" _) _ _ _); refine w_var 6 rfl (by tbr_iter "vis") rfl ?_) | ((with_reducible show W _ (.Name "told" _) _ _ _); refine w_var 7 rfl (by tbr_iter "vis") rfl ?_) | ((with_reducible show W _ (.Name "row" _) _ _ _); refine w_var 8 rfl (by tbr_iter "vis") rfl ?_))
set_option hygiene false in
local macro_rules | `(tactic| tbr_iter "set") => `(tactic| first | ((with_reducible show WB _ (.Assign [.Name "columns" _] _ _ :: _) _ _ _); refine wb_cons (ws_set 0 ?_ rfl nd)) | ((with_reducible show WB _ (.Assign [.Name "rows" _] _ _ :: _) _ _ _); refine wb_cons (ws_set 1 ?_ rfl nd)) | ((with_reducible show WB _ (.Assign [.Name "others" _] _ _ :: _) _ _ _); refine wb_cons (ws_set 2 ?_ rfl nd)) | ((with_reducible show WB _ (.Assign [.Name "one" _] _ _ :: _) _ _ _); refine wb_cons (ws_set 3 ?_ rfl nd)) | ((with_reducible show WB _ (.Assign [.Name "two" _] _ _ :: _) _ _ _); refine wb_cons (ws_set 4 ?_ rfl nd)) | ((with_reducible show WB _ (.Assign [.Name "before" _] _ _ :: _) _ _ _); refine wb_cons (ws_set 5 ?_ rfl nd)) | ((with_reducible show WB _ (.Assign [.Name "due" _] _ _ :: _) _ _ _); refine wb_cons (ws_set 6 ?_ rfl nd)) | ((with_reducible show WB _ (.Assign [.Name "told" _] _ _ :: _) _ _ _); refine wb_cons (ws_set 7 ?_ rfl nd)) | ((with_reducible show WB _ (.Assign [.Name "row" _] _ _ :: _) _ _ _); refine wb_cons (ws_set 8 ?_ rfl nd)))
theorem ok_law_both (T : Txt K mg) : CalleeG P w K mg base "_law_both_right" 11 ["columns", "rows", "others"] (spBoth K) := by
  refine def_okG T.f__law_both_right sc__law_both_right (fun _ _ _ _ _ _ us hl => match us, hl with | [_, _, _], _ => rfl) (fun vs H Q E h => ?_) fun f cdv A outer s H vs Q E hgd hr h => ?_
  · obtain ⟨l1, l2, c, us1, us2, rows, others, zs, rfl, _⟩ := h; rfl
  obtain ⟨l1, l2, c, us1, us2, rows, others, zs, rfl, hl1, hl2, hu1, hu2, hc, n1, n2, hlen, z1, z2, zl, k⟩ := h
  have nd := sc__law_both_right.nd
  have hu := room64 hr
  have hu65 : (cxOf (L2.CX P w) P w K mg base n__law_both_right "_law_both_right" (defScope s__law_both_right) f cdv A outer s H E).A.units + 65 < cLine := by
    have := room65 hr
    show (A.deeper _).units + 65 < cLine
    omega
  have kc := T.kc_Table
  have big : ∀ {n : Nat}, n ≤ 1000000 → n ≤ sizeLine := fun h => Nat.le_trans h (by decide)
  have sml : ∀ {n : Nat}, n < 1000 → n < sizeLine := fun h => Nat.lt_of_lt_of_le h (by decide)
  have len1 := hu1.len
  have len2 := hu2.len
  have tn1 := tab_row n1
  have tn2 := tab_row n2
  have tl1 : (tabRows rows).length < 60 := Nat.lt_of_le_of_lt (tabRows_len rows) (by omega)
  have tl2 : (tabRows others).length < 60 := Nat.lt_of_le_of_lt (tabRows_len others) (by omega)
  have tz1 : NamesIn zs (tabRows rows) := fun r hr => z1 r (tabRows_mem.mp hr)
  have tz2 : NamesIn zs (tabRows others) := fun r hr => z2 r (tabRows_mem.mp hr)
  refine wb_cons (ws_par 3 4 (wa_cons (w_cmeth T.cr_Table T.cm_Table_of (ok_tab_of T) (hr.mono (by decide)) passL (w_glob (glob_ref T.g_Table) ⟨rfl, wa_cons ?_⟩))) rfl rfl nd)
  tbr_iter "var"
  refine wa_cons (w_callTy T.z_tuple (wa_cons ?_))
  tbr_iter "var"
  refine wa_nil (kv_tupleL (SqL.of hl1) fun q1 Ha sa na ha => wa_nil ⟨q1, c, us1, rows, rfl, hc, SqT.of ha, sml (by omega), rows_sl hu1 (Sl.of sa), n1, fun x1 Hb sb nb t1 => wa_cons (w_cmeth T.cr_Table T.cm_Table_of (ok_tab_of T) (hr.mono (by decide)) passL (w_glob (glob_ref T.g_Table) ⟨rfl, wa_cons ?_⟩))⟩)
  tbr_iter "var"
  refine wa_cons (w_callTy T.z_tuple (wa_cons ?_))
  tbr_iter "var"
  have sab := sa.trans sb
  refine wa_nil (kv_tupleL (SqL.of (sab _ _ hl2)) fun q2 Hc sc ncc hcc => wa_nil ⟨q2, c, us2, others, rfl, hc, SqT.of hcc, sml (by omega), rows_sl hu2 (Sl.of (sab.trans sc)), n2, fun x2 Hd sd ndd t2 => wa_nil ⟨_, _, rfl, ?_⟩⟩)
  have s0 := sab.trans (sc.trans sd)
  have t1 := t1.same (sc.trans sd)
  have hl1 := s0 _ _ hl1
  have hl2 := s0 _ _ hl2
  have hu1 := rows_sl hu1 (Sl.of s0)
  have hu2 := rows_sl hu2 (Sl.of s0)
  clear sa sb sc sd sab ha hcc na nb ncc ndd
  obtain ⟨dx1, qa1, da1, e1, _⟩ := id t1
  obtain ⟨dx2, qa2, da2, e2, _⟩ := id t2
  refine wb_cons (ws_set 5 (w_bin (w_callG (ok_law_told T) hgd (hr.mono (by decide)) passL (wa_cons ?_))) rfl nd)
  tbr_iter "var"
  refine wa_nil ⟨x1, c, tabRows rows, zs, rfl, t1, hc, tn1, by omega, tz1, zl, fun y1 He d1 se => w_callG (ok_law_told T) hgd (hr.mono (by decide)) passL (wa_cons ?_)⟩
  tbr_iter "var"
  refine wa_nil ⟨x2, c, tabRows others, zs, rfl, t2.same se, hc, tn2, by omega, tz2, zl, fun y2 Hf d2 sf => ?_⟩
  obtain ⟨ya1, yb1⟩ := dom_fine tz1 zl tn1 d1
  obtain ⟨ya2, yb2⟩ := dom_fine tz2 zl tn2 d2
  have lt1 := told_len hc tn1 (by omega) ya1 yb1
  have lt2 := told_len hc tn2 (by omega) ya2 yb2
  refine bv_catS (big (by omega)) ?_
  have sef := se.trans sf
  -- one | two
  refine wb_cons (ws_if (wt_not (wt_val (w_callG (ok_law_is_told T) hgd hr passL (wa_cons (w_bin ?_))))))
  tbr_iter "var"
  tbr_iter "var"
  refine bv_own (op := .BitOr) (nm := "__or__") rfl T.sf_Table T.m_Table___or__ (ok_tab_or T) (hr.mono (by decide)) passL (sef _ _ e1) (sef _ _ e2) ⟨x1, x2, c, _, _, rfl, hc, t1.same sef, t2.same sef, tn1, tn2, by omega, by omega, fun x3 Hg sg ng t3 => ⟨x3, rfl, wa_cons ?_⟩⟩
  tbr_iter "var"
  refine wa_cons (w_bin ?_)
  tbr_iter "var"
  tbr_iter "var"
  have s3 := sef.trans sg
  refine bv_cat (s3 _ _ hl1) (s3 _ _ hl2) (big (by omega)) fun q3 Hh sh nh hh => wa_nil ⟨x3, q3, c, us1 ++ us2, rows ++ others, tabRows rows ++ tabRows others, zs, rfl, t3.same sh, hh, (rows_sl hu1 (Sl.of (s3.trans sh))).app (rows_sl hu2 (Sl.of (s3.trans sh))), fun r => by rw [List.mem_append, List.mem_append, tabRows_mem, tabRows_mem], hc, fun r hr => (List.mem_append.mp hr).elim (n1 r) (n2 r), by rw [List.length_append]; omega, fun r hr => (List.mem_append.mp hr).elim (z1 r) (z2 r), zl, fun Hi si => ⟨_, rfl, iteF (wb_nil ?_)⟩⟩
  have s4 := s3.trans (sh.trans si)
  clear t3 hh nh ng
  -- one & two
  refine wb_cons (ws_if (wt_not (wt_val (w_callG (ok_law_is_told T) hgd hr passL (wa_cons (w_bin ?_))))))
  tbr_iter "var"
  tbr_iter "var"
  refine bv_own (op := .BitAnd) (nm := "__and__") rfl T.sf_Table T.m_Table___and__ (ok_tab_and T) (hr.mono (by decide)) passL (s4 _ _ e1) (s4 _ _ e2) ⟨x1, x2, c, _, _, rfl, hc, t1.same s4, t2.same s4, tn1, tn2, by omega, by omega, fun x3 Hg sg ng t3 => ⟨x3, rfl, wa_cons ?_⟩⟩
  tbr_iter "var"
  refine wa_cons (w_lcI [("row", 8)] (gName 8) (tWT _ _ _) (fun _ _ _ _ _ => pg_name nd rfl (Or.inl rfl) (Or.inr rfl)) pts_wt rfl nd (by tbr_iter "blk") (lcC_I mono_name mono_wt (wi_val ?_)))
  tbr_iter "go"
  have s5 := s4.trans sg
  refine itv_list (SqL.of (s5 _ _ hl1)) ⟨_, _, itN_seq (seqIt_list (SqL.of (s5 _ _ hl1))), sml (by omega), fun i => if (rows[i]?.any fun r => decide (r ∈ others)) = true then us1[i]? else none, fun i x Hj hi sj hv => ?_, fun D Hj sj nj hj => ?_⟩
  · have hv : us1[i]? = some x := hv
    obtain ⟨r, er, p, rfl, hp⟩ := hu1.at hv
    have s6 := s5.trans sj
    refine ⟨rfl, fun _ _ _ _ _ => wt_cmp ?_⟩
    tbr_iter "go"
    refine cv_inDL (d := rowD r) hu65 (.tup (SqT.of (s6 _ _ hp)) (dpa_strs r)) (.lst (SqL.of (s6 _ _ hl2)) (dpa_rows (rows_sl hu2 (Sl.of s6)))) (okD.shaped (row_room (n1 r (List.mem_of_getElem? er)) hc)) (shaped_rowsL n2) ⟨_, rfl, Same.refl _, ?_⟩
    rw [any_row]
    show (if decide (r ∈ others) = true then _ else (if (rows[i]?.any fun r => decide (r ∈ others)) = true then us1[i]? else none) = none)
    rw [er, hv]
    cases e : decide (r ∈ others) with
    | true =>
      rw [if_pos rfl]
      intro _ _ _ _ _
      tbr_iter "go"
      refine ⟨Same.refl _, ?_⟩
      show (if (rows[i]?.any fun r => decide (r ∈ others)) = true then us1[i]? else none) = _
      rw [er, hv, if_pos (show Option.any (fun r => decide (r ∈ others)) (some r) = true from e)]
    | false =>
      rw [if_neg Bool.false_ne_true]
      rw [if_neg (show ¬ Option.any (fun r => decide (r ∈ others)) (some r) = true from by rw [Option.any_some, e]; exact Bool.false_ne_true)]
  have s6 := s5.trans sj
  refine wa_nil ⟨x3, D, c, _, _, (tabRows rows).filter fun r => decide (r ∈ tabRows others), zs, rfl, t3.same sj, hj, all2_keep _ (rows_sl hu1 (Sl.of s6)), fun r => ?_, hc, fun r hr => n1 r (List.mem_filter.mp hr).1, len_s _ (by omega), fun r hr => z1 r (List.mem_filter.mp hr).1, zl, fun Hk sk => ⟨_, rfl, iteF (wb_nil ?_)⟩⟩
  · rw [List.mem_filter, List.mem_filter, tabRows_mem, decide_eq_true_iff, decide_eq_true_iff, tabRows_mem]
  have s7 := s6.trans sk
  clear t3 hj nj ng s5 s6 s3
  -- one - two
  refine wb_cons (ws_if (wt_not (wt_val (w_callG (ok_law_is_told T) hgd hr passL (wa_cons (w_bin ?_))))))
  tbr_iter "var"
  tbr_iter "var"
  refine bv_own (op := .Sub) (nm := "__sub__") rfl T.sf_Table T.m_Table___sub__ (ok_tab_sub T) (hr.mono (by decide)) passL (s7 _ _ e1) (s7 _ _ e2) ⟨x1, x2, c, _, _, rfl, hc, t1.same s7, t2.same s7, tn1, tn2, by omega, by omega, fun x3 Hg sg ng t3 => ⟨x3, rfl, wa_cons ?_⟩⟩
  tbr_iter "var"
  refine wa_cons (w_lcI [("row", 8)] (gName 8) (tWT _ _ _) (fun _ _ _ _ _ => pg_name nd rfl (Or.inl rfl) (Or.inr rfl)) pts_wt rfl nd (by tbr_iter "blk") (lcC_I mono_name mono_wt (wi_val ?_)))
  tbr_iter "go"
  have s5 := s7.trans sg
  refine itv_list (SqL.of (s5 _ _ hl1)) ⟨_, _, itN_seq (seqIt_list (SqL.of (s5 _ _ hl1))), sml (by omega), fun i => if (rows[i]?.any fun r => !decide (r ∈ others)) = true then us1[i]? else none, fun i x Hj hi sj hv => ?_, fun D Hj sj nj hj => ?_⟩
  · have hv : us1[i]? = some x := hv
    obtain ⟨r, er, p, rfl, hp⟩ := hu1.at hv
    have s6 := s5.trans sj
    refine ⟨rfl, fun _ _ _ _ _ => wt_cmp ?_⟩
    tbr_iter "go"
    refine cv_notInDL (d := rowD r) hu65 (.tup (SqT.of (s6 _ _ hp)) (dpa_strs r)) (.lst (SqL.of (s6 _ _ hl2)) (dpa_rows (rows_sl hu2 (Sl.of s6)))) (okD.shaped (row_room (n1 r (List.mem_of_getElem? er)) hc)) (shaped_rowsL n2) ⟨_, rfl, Same.refl _, ?_⟩
    rw [any_row]
    show (if (!decide (r ∈ others)) = true then _ else (if (rows[i]?.any fun r => !decide (r ∈ others)) = true then us1[i]? else none) = none)
    rw [er, hv]
    cases e : (!decide (r ∈ others)) with
    | true =>
      rw [if_pos rfl]
      intro _ _ _ _ _
      tbr_iter "go"
      refine ⟨Same.refl _, ?_⟩
      show (if (rows[i]?.any fun r => !decide (r ∈ others)) = true then us1[i]? else none) = _
      rw [er, hv, if_pos (show Option.any (fun r => !decide (r ∈ others)) (some r) = true from e)]
    | false =>
      rw [if_neg Bool.false_ne_true]
      rw [if_neg (show ¬ Option.any (fun r => !decide (r ∈ others)) (some r) = true from by rw [Option.any_some, e]; exact Bool.false_ne_true)]
  have s6 := s5.trans sj
  refine wa_nil ⟨x3, D, c, _, _, (tabRows rows).filter fun r => !decide (r ∈ tabRows others), zs, rfl, t3.same sj, hj, all2_keep _ (rows_sl hu1 (Sl.of s6)), fun r => ?_, hc, fun r hr => n1 r (List.mem_filter.mp hr).1, len_s _ (by omega), fun r hr => z1 r (List.mem_filter.mp hr).1, zl, fun Hk sk => ⟨_, rfl, iteF (wb_nil ?_)⟩⟩
  · rw [List.mem_filter, List.mem_filter, tabRows_mem, Bool.not_eq_true', Bool.not_eq_true', decide_eq_false_iff_not, decide_eq_false_iff_not, tabRows_mem]
  have s8 := s6.trans sk
  clear t3 hj nj ng s5 s6 s7 s4
  -- what is due
  refine wb_cons (ws_set 6 (w_lst (wa_cons (w_cmp (w_lcI [("row", 8)] (gName 8) (tWT _ _ _) (fun _ _ _ _ _ => pg_name nd rfl (Or.inl rfl) (Or.inr rfl)) pts_wt rfl nd (by tbr_iter "blk") (lcC_I mono_name mono_wt (wi_val ?_)))))) rfl nd)
  tbr_iter "go"
  refine itv_list (SqL.of (s8 _ _ hl1)) ⟨_, _, itN_seq (seqIt_list (SqL.of (s8 _ _ hl1))), sml (by omega), fun i => if (rows[i]?.any fun r => !decide (r ∈ others)) = true then us1[i]? else none, fun i x Hj hi sj hv => ?_, fun D Hj sj nj hj => ?_⟩
  · have hv : us1[i]? = some x := hv
    obtain ⟨r, er, p, rfl, hp⟩ := hu1.at hv
    have s6 := s8.trans sj
    refine ⟨rfl, fun _ _ _ _ _ => wt_cmp ?_⟩
    tbr_iter "go"
    refine cv_notInDL (d := rowD r) hu65 (.tup (SqT.of (s6 _ _ hp)) (dpa_strs r)) (.lst (SqL.of (s6 _ _ hl2)) (dpa_rows (rows_sl hu2 (Sl.of s6)))) (okD.shaped (row_room (n1 r (List.mem_of_getElem? er)) hc)) (shaped_rowsL n2) ⟨_, rfl, Same.refl _, ?_⟩
    rw [any_row]
    show (if (!decide (r ∈ others)) = true then _ else (if (rows[i]?.any fun r => !decide (r ∈ others)) = true then us1[i]? else none) = none)
    rw [er, hv]
    cases e : (!decide (r ∈ others)) with
    | true =>
      rw [if_pos rfl]
      intro _ _ _ _ _
      tbr_iter "go"
      refine ⟨Same.refl _, ?_⟩
      show (if (rows[i]?.any fun r => !decide (r ∈ others)) = true then us1[i]? else none) = _
      rw [er, hv, if_pos (show Option.any (fun r => !decide (r ∈ others)) (some r) = true from e)]
    | false =>
      rw [if_neg Bool.false_ne_true]
      rw [if_neg (show ¬ Option.any (fun r => !decide (r ∈ others)) (some r) = true from by rw [Option.any_some, e]; exact Bool.false_ne_true)]
  have al := (all2_keep (fun r => !decide (r ∈ others)) (rows_sl hu1 (Sl.of (s8.trans sj)))).len
  have ae : ((List.range us1.length).filterMap fun i => if (rows[i]?.any fun r => !decide (r ∈ others)) = true then us1[i]? else none).isEmpty = (rows.filter fun r => !decide (r ∈ others)).isEmpty := by
    rw [Bool.eq_iff_iff, List.isEmpty_iff, List.isEmpty_iff, ← List.length_eq_zero_iff, ← List.length_eq_zero_iff, al]
  refine w_lst (wa_nil ⟨zero_line, fun pe Hk sk nk hk => cv_eq_nil (by show (A.deeper _).units < cLine; have := room64 hr; omega) (SqL.of (sk _ _ hj)) (SqL.of hk) ?_⟩)
  rw [ae]
  have s9 := s8.trans (sj.trans sk)
  refine wa_cons (w_cmp (w_callTy T.z_set (wa_cons ?_)))
  tbr_iter "var"
  refine wa_nil (kv_setT rfl hu (SqL.of (s9 _ _ hl1)) (rows_sl hu1 (Sl.of s9)) (by omega) fun qs1 Hl sl nl hs1 => w_callTy T.z_set (wa_cons ?_))
  tbr_iter "var"
  have s10 := s9.trans sl
  refine wa_nil (kv_setT rfl hu (SqL.of (s10 _ _ hl2)) (rows_sl hu2 (Sl.of s10)) (by omega) fun qs2 Hm sm nm hs2 => cv_eqSet hu (hs1.same sm) hs2 (wa_nil ⟨two_line, fun pd Hn sn nn hpd => ?_⟩))
  have s11 := s10.trans (sm.trans sn)
  clear hs1 hs2 nl nm nj nk hk hj al ae
  -- what is told
  refine wb_cons (ws_set 7 (w_lst (wa_cons (w_meth kc.c T.m_Table_is_within (ok_tab_inX T) (hr.mono (by decide)) passL ?_))) rfl nd)
  tbr_iter "go"
  refine ⟨x1, dx1, _, rfl, s11 _ _ e1, rfl, ?_⟩
  tbr_iter "go"
  have ok2 : rowsOkO (some (c, tabRows others)) := fun d r2 e => by cases e; exact tn2
  refine ⟨x1, .ref x2, c, _, some (c, tabRows others), rfl, t1.same s11, ⟨x2, rfl, t2.same s11⟩, sml (by omega), fun Ho so => wa_cons (w_cmp ?_)⟩
  rw [within_is]
  have s12 := s11.trans so
  tbr_iter "var"
  tbr_iter "var"
  refine cv_eqO T.m_Table___eq__ (ok_tab_eqX T) (hr.mono (by decide)) passL (s12 _ _ e1) (s12 _ _ e2) ⟨x1, .ref x2, c, _, some (c, tabRows others), rfl, t1.same s12, ⟨x2, rfl, t2.same s12⟩, tn1, ok2, fun Hp sp => ⟨_, rfl, wa_cons (w_cmp ?_)⟩⟩
  rw [eq_is]
  have s13 := s12.trans sp
  tbr_iter "var"
  tbr_iter "var"
  refine cv_neO kc.hm T.b_Table___ne__ T.m_Table___eq__ (ok_tab_eqX T) (hr.mono (by decide)) passL (s13 _ _ e1) (s13 _ _ e2) ⟨x1, .ref x2, c, _, some (c, tabRows others), rfl, t1.same s13, ⟨x2, rfl, t2.same s13⟩, tn1, ok2, fun Hq sq => ⟨_, rfl, wa_cons (w_cmp (w_bin (w_bin ?_)))⟩⟩
  rw [eq_is]
  have s14 := s13.trans sq
  tbr_iter "var"
  tbr_iter "var"
  refine bv_own (op := .BitOr) (nm := "__or__") rfl T.sf_Table T.m_Table___or__ (ok_tab_or T) (hr.mono (by decide)) passL (s14 _ _ e1) (s14 _ _ e2) ⟨x1, x2, c, _, _, rfl, hc, t1.same s14, t2.same s14, tn1, tn2, by omega, by omega, fun x3 Hr sr nr t3 => ⟨x3, rfl, ?_⟩⟩
  have s15 := s14.trans sr
  have un1 : ∀ r ∈ tabRows rows ++ tabRows others, NRow c r := fun r hr => (List.mem_append.mp hr).elim (tn1 r) (tn2 r)
  have ul : (tabRows (tabRows rows ++ tabRows others)).length ≤ 1000 := by
    refine Nat.le_trans (tabRows_len _) ?_
    rw [List.length_append]
    omega
  obtain ⟨dx3, qa3, da3, e3, _⟩ := id t3
  tbr_iter "var"
  refine bv_own (op := .Sub) (nm := "__sub__") rfl T.sf_Table T.m_Table___sub__ (ok_tab_sub T) (hr.mono (by decide)) passL e3 (s15 _ _ e2) ⟨x3, x2, c, _, _, rfl, hc, t3, t2.same s15, tab_row un1, tn2, ul, by omega, fun x4 Hs ss ns t4 => ⟨x4, rfl, w_bin ?_⟩⟩
  have s16 := s15.trans ss
  tbr_iter "var"
  tbr_iter "var"
  refine bv_own (op := .Sub) (nm := "__sub__") rfl T.sf_Table T.m_Table___sub__ (ok_tab_sub T) (hr.mono (by decide)) passL (s16 _ _ e1) (s16 _ _ e2) ⟨x1, x2, c, _, _, rfl, hc, t1.same s16, t2.same s16, tn1, tn2, by omega, by omega, fun x5 Ht st nt t5 => ⟨x5, rfl, ?_⟩⟩
  have s17 := s16.trans st
  have t4 := t4.same st
  obtain ⟨dx4, qa4, da4, e4, _⟩ := id t4
  obtain ⟨dx5, qa5, da5, e5, _⟩ := id t5
  have ok5 : rowsOkO (some (c, tabRows ((tabRows rows).filter fun r => !decide (r ∈ tabRows others)))) := fun d r2 e => by
    cases e
    exact tab_row fun r hr => tn1 r (List.mem_filter.mp hr).1
  refine cv_eqO T.m_Table___eq__ (ok_tab_eqX T) (hr.mono (by decide)) passL e4 e5 ⟨x4, .ref x5, c, _, some (c, _), rfl, t4, ⟨x5, rfl, t5⟩, tab_row fun r hr => tab_row un1 r (List.mem_filter.mp hr).1, ok5, fun Hu su => ⟨_, rfl, ?_⟩⟩
  rw [minus_is]
  have s18 := s17.trans su
  refine wa_cons (w_meth kc.c T.m_Table_is_within (ok_tab_inX T) (hr.mono (by decide)) passL ?_)
  tbr_iter "go"
  refine ⟨x2, dx2, _, rfl, s18 _ _ e2, rfl, wa_cons (w_bin ?_)⟩
  tbr_iter "var"
  tbr_iter "var"
  refine bv_own (op := .BitOr) (nm := "__or__") rfl T.sf_Table T.m_Table___or__ (ok_tab_or T) (hr.mono (by decide)) passL (s18 _ _ e1) (s18 _ _ e2) ⟨x1, x2, c, _, _, rfl, hc, t1.same s18, t2.same s18, tn1, tn2, by omega, by omega, fun x6 Hv sv nv t6 => ⟨x6, rfl, wa_nil ?_⟩⟩
  have s19 := s18.trans sv
  refine ⟨x2, .ref x6, c, _, some (c, _), rfl, t2.same s19, ⟨x6, rfl, t6⟩, sml (by omega), fun Hw sw => wa_nil ⟨five_line, fun pt Hx sx nx hpt => ?_⟩⟩
  rw [in_own] at hpt
  have s20 := s19.trans (sw.trans sx)
  have spd : Same Hn Hx := so.trans (sp.trans (sq.trans (sr.trans (ss.trans (st.trans (su.trans (sv.trans (sw.trans sx))))))))
  have hpd := spd _ _ hpd
  clear t3 t4 t5 t6 e3 e4 e5 ok5 un1 ul
  have dt : Dp K Hx (.ref pt) (boolsD [(rows.filter fun r => !decide (r ∈ others)).isEmpty, sameR rows others, !sameR rows others, true, true]) := .lst (SqL.of hpt) (.cons (.bl _) (.cons (.bl _) (.cons (.bl _) (.cons (.bl _) (.cons (.bl _) .nil)))))
  obtain ⟨f1, f2, f3, f4⟩ := bools_fine (rows.filter fun r => !decide (r ∈ others)).isEmpty (sameR rows others) (!sameR rows others) true true
  refine wb_cons (ws_if (wt_cmp (w_callB T.z_repr (wa_cons ?_))))
  tbr_iter "var"
  refine wa_nil (kv_reprD hgd hu dt f1 f2 f3 (big (Nat.le_trans f4 (by decide))) (w_callB T.z_repr (wa_cons (w_bin ?_))))
  tbr_iter "var"
  refine w_lst (wa_cons (w_not (w_ix ?_)))
  tbr_iter "var"
  refine w_int (iv_list (SqL.of hpd) atI_1 ⟨_, rfl, wa_cons (w_bl (wa_cons (w_bl (wa_nil ⟨three_line, fun p3 Hy sy ny hy => ?_⟩))))⟩)
  refine bv_cat (sy _ _ hpd) hy (show 5 ≤ sizeLine from five_line) fun p5 Hz sz nz hz => wa_nil ?_
  have db : Dp K Hz (.ref p5) (boolsD [(rows.filter fun r => !decide (r ∈ others)).isEmpty, sameR rows others, !sameR rows others, true, true]) := .lst (SqL.of hz) (.cons (.bl _) (.cons (.bl _) (.cons (.bl _) (.cons (.bl _) (.cons (.bl _) .nil)))))
  refine kv_reprD hgd hu db f1 f2 f3 (big (Nat.le_trans f4 (by decide))) (cv_ne rfl ⟨_, rfl, ?_⟩)
  rw [decide_eq_true rfl]
  refine iteF (wb_nil ?_)
  have s21 := s20.trans (sy.trans sz)
  refine wb_cons (ws_ret (w_cmp (w_bin (w_callG (ok_law_told T) hgd (hr.mono (by decide)) passL (wa_cons ?_)))))
  tbr_iter "var"
  refine wa_nil ⟨x1, c, tabRows rows, zs, rfl, t1.same s21, hc, tn1, by omega, tz1, zl, fun y3 H3 d3 s3 => w_callG (ok_law_told T) hgd (hr.mono (by decide)) passL (wa_cons ?_)⟩
  tbr_iter "var"
  refine wa_nil ⟨x2, c, tabRows others, zs, rfl, t2.same (s21.trans s3), hc, tn2, by omega, tz2, zl, fun y4 H4 d4 s4 => ?_⟩
  have g3 := d3.uniq d1
  have g4 := d4.uniq d2
  subst g3 g4
  refine bv_catS (big (by omega)) ?_
  tbr_iter "var"
  refine cv_eq rfl ?_
  rw [decide_eq_true rfl]
  exact k H4 (s0.trans (s21.trans (s3.trans s4)))
end
end Ax
end
section
set_option maxHeartbeats 4000000
open PySem PySem.Spec PyProof.Rows L2 Ax
set_option hygiene false in
local macro_rules | `(tactic| tbr_iter "boot") => `(tactic| with_reducible first | exact Ax.b_len | exact Ax.b_all | exact Ax.b_any | exact Ax.b_sorted | exact Ax.b_isinstance | exact Ax.b_abs | exact Ax.b_max | exact Ax.b_min | exact Ax.b_sum | exact Ax.b_repr | exact Ax.b_iter | exact Ax.b_ord | exact Ax.b_chr | exact Ax.b_str | exact Ax.b_int | exact Ax.b_bool | exact Ax.b_tuple | exact Ax.b_list | exact Ax.b_dict | exact Ax.b_set | exact Ax.b_range | exact Ax.b_enumerate | exact Ax.b_zip)
set_option hygiene false in
local macro_rules | `(tactic| tbr_iter "vis") => `(tactic| first | exact Or.inl rfl | exact Or.inr (Or.inl rfl) | exact Or.inr (Or.inr rfl))
set_option hygiene false in
local macro_rules | `(tactic| tbr_iter "w") => `(tactic| first
  | refine wb_cons ?_
  | refine wb_nil ?_
  | refine ws_ret ?_
  | refine ws_if ?_
  | refine ws_sub ?_
  | refine wa_cons ?_
  | refine wa_nil ?_
  | refine w_int ?_
  | refine w_str ?_
  | refine w_bl ?_
  | refine w_non ?_
  | tbr_iter "var"
  | refine w_bin ?_
  | refine w_cmp ?_
  | refine w_chain ?_
  | refine w_and ?_
  | refine w_or ?_
  | refine w_one ?_
  | refine w_not ?_
  | refine w_ix ?_
  | refine w_ifExp ?_
  | refine w_tup ?_
  | refine w_lst ?_
  | refine wt_not ?_
  | refine wt_bool ?_
  | refine ww_and ?_
  | refine ww_and1 ?_
  | refine ww_or ?_
  | refine ww_or1 ?_
  | refine wt_cmp ?_
  | refine wt_val ?_
  | tbr_iter "call"
  | (refine w_glob (by tbr_iter "mg") ?_)
  | (refine w_callB (by tbr_iter "z") ?_)
  | (refine w_callTy (by tbr_iter "z") ?_)
  | (refine w_bltT (by tbr_iter "z") ?_))
set_option hygiene false in
local macro_rules | `(tactic| tbr_iter "blk") => `(tactic| first | exact blkOk_by (by dsimp only [cxOf, envOfC]; decide +kernel))
set_option hygiene false in
local macro_rules | `(tactic| tbr_iter "iff") => `(tactic| first
  | refine iteT ?_
  | refine iteF ?_
  | refine w_if2 (fun _ => ?_) (fun _ => ?_))
set_option hygiene false in
local macro_rules | `(tactic| tbr_iter "sc") => `(tactic| first | omega | decide)
set_option hygiene false in
local macro_rules | `(tactic| tbr_iter "at") => `(tactic| first | exact atI_0 | exact atI_1 | exact atI_2)
set_option hygiene false in
local macro_rules | `(tactic| tbr_iter "sql") => `(tactic| ((try dsimp only [L2.cxOf, L2.Cx.blk]); with_reducible first | assumption | exact SqL.of (by assumption)))
set_option hygiene false in
local macro_rules | `(tactic| tbr_iter "sqt") => `(tactic| ((try dsimp only [L2.cxOf, L2.Cx.blk]); with_reducible first | assumption | exact SqT.of (by assumption)))
set_option hygiene false in
local macro_rules | `(tactic| tbr_iter "v") => `(tactic| first
  | refine bv_add ?_
  | refine bv_sub ?_
  | ((with_reducible show BinV _ .Mult _ _ _ _); refine bv_mul (Or.inl ⟨by tbr_iter "sc", by tbr_iter "sc"⟩) ?_)
  | ((with_reducible show BinV _ .Mult _ _ _ _); refine bv_mul (Or.inr ⟨by tbr_iter "sc", by tbr_iter "sc"⟩) ?_)
  | ((with_reducible show BinV _ .Mod _ _ _ _); refine bv_mod (by tbr_iter "sc") ?_)
  | ((with_reducible show BinV _ .FloorDiv _ _ _ _); refine bv_fdiv ⟨by tbr_iter "sc", by tbr_iter "sc"⟩ ?_)
  | ((with_reducible show BinV _ .Pow _ _ _ _); refine bv_pow ⟨by decide, by decide +kernel⟩ ?_)
  | refine cv_lt ?_
  | refine cv_le ?_
  | refine cv_gt ?_
  | refine cv_ge ?_
  | ((with_reducible show CmpV _ .Eq _ _ _ _); refine cv_eq rfl ?_)
  | ((with_reducible show CmpV _ .NotEq _ _ _ _); refine cv_ne rfl ?_)
  | refine iv_list (by tbr_iter "sql") (by tbr_iter "at") ?_
  | refine iv_tup (by tbr_iter "sqt") (by tbr_iter "at") ?_
  | refine kv_len_seq (Or.inl (by tbr_iter "sql")) ?_
  | refine kv_len_seq (Or.inr (by tbr_iter "sqt")) ?_
  | refine kv_int ?_
  | refine kv_intB ?_
  | refine kv_abs ?_
  | refine kv_max2 rfl ?_
  | refine kv_min2 rfl ?_)
set_option hygiene false in
local macro_rules | `(tactic| tbr_iter "b") => `(tactic| first
  | refine ⟨_, rfl, iteT ?_⟩
  | refine ⟨_, rfl, iteF ?_⟩
  | refine iteT ?_
  | refine iteF ?_)
set_option hygiene false in
local macro_rules | `(tactic| tbr_iter "go") => `(tactic| repeat (first | tbr_iter "w" | tbr_iter "v" | tbr_iter "b"))
set_option hygiene false in
local macro_rules | `(tactic| tbr_iter "nof") => `(tactic| (intro d hd; cases d <;> first | rfl | exact absurd rfl (hd _)))
set_option hygiene false in
local macro_rules | `(tactic| tbr_iter "e1") => `(tactic| first | ((with_reducible show W _ _ _ _ _); tbr_iter "w") | ((with_reducible show WA _ _ _ _ _); tbr_iter "w") | ((with_reducible show WT _ _ _ _ _); tbr_iter "w") | ((with_reducible show WW _ _ _ _ _); tbr_iter "w") | tbr_iter "v")
set_option hygiene false in
local macro_rules | `(tactic| tbr_iter "ex") => `(tactic| repeat (tbr_iter "e1"))
set_option hygiene false in
local macro_rules | `(tactic| tbr_iter "z") => `(tactic| ((try dsimp only [L2.cxOf]); with_reducible first | exact T.z_IndexError | exact T.z_ValueError | exact T.z_abs | exact T.z_all | exact T.z_bool | exact T.z_classmethod | exact T.z_enumerate | exact T.z_int | exact T.z_isinstance | exact T.z_iter | exact T.z_len | exact T.z_list | exact T.z_max | exact T.z_min | exact T.z_property | exact T.z_range | exact T.z_repr | exact T.z_set | exact T.z_sorted | exact T.z_str | exact T.z_tuple))
set_option hygiene false in
local macro_rules | `(tactic| tbr_iter "mg") => `(tactic| ((try dsimp only [L2.cxOf]); with_reducible first | exact T.c_ALPHABET | exact T.c_MAX_LETTERS | exact T.c_MAX_COLUMNS))
namespace Ax
/-- an odd value, or data -/
def DatV (K : PySem.W.Frag) (H : Hp) (v : V) : Prop := (∃ o, OddW K H v o) ∨ ∃ d, Dp K H v d
theorem DatV.same {K : PySem.W.Frag} {H H' : Hp} {v : V} (h : DatV K H v) (s : Same H H') : DatV K H' v := h.elim (fun ⟨o, z⟩ => .inl ⟨o, z.same s⟩) fun ⟨d, z⟩ => .inr ⟨d, dp_same s z⟩
theorem DatV.other {K : PySem.W.Frag} {H : Hp} {v : V} (h : DatV K H v) : OtherV K H v := by
  rcases h with ⟨o, h⟩ | ⟨d, h⟩
  · cases h with
    | dat h => exact ⟨_, tyD_mem _, dp_ty h⟩
    | row h => exact ⟨"tuple", by decide, tyX_tup (SqT.of h)⟩
    | dct h => exact ⟨"dict", by decide, dict_ty h⟩
    | mix h hb => exact ⟨"tuple", by decide, tyX_tup (SqT.of h)⟩
  · exact ⟨_, tyD_mem _, dp_ty h⟩
theorem DatV.isTy {X : Cx} {H : Hp} {v : V} (h : DatV X.K H v) : ∃ t, t ∈ tyNames ∧ IsTy X H v t := by
  rcases h with ⟨o, h⟩ | ⟨d, h⟩
  · cases h with
    | dat h => exact ⟨_, tyD_mem _, isTy_dp h⟩
    | row h => exact ⟨"tuple", by decide, isTy_tup (SqT.of h)⟩
    | dct h => exact ⟨"dict", by decide, isTy_dct h⟩
    | mix h hb => exact ⟨"tuple", by decide, isTy_tup (SqT.of h)⟩
  · exact ⟨_, tyD_mem _, isTy_dp h⟩
def spOthers (K : PySem.W.Frag) : Sp := fun vs H Q _ => ∃ (l1 : Addr) (c : Nat) (us1 : List V) (rows : List (List Str)), vs = [.int c, .ref l1] ∧ H l1 = some (.lst us1) ∧ All2 (RwV H) us1 rows ∧ c ≤ 3 ∧ (∀ r ∈ rows, NRow c r) ∧ rows.length < 60 ∧ ∀ H', Same H H' → Q (.bl true) H'
theorem tab_nil : tabRows [] = [] := by
  have h := tabRows_len []
  exact List.eq_nil_of_length_eq_zero (Nat.le_zero.mp h)
theorem none_row {n : Nat} : ∀ r ∈ tabRows [], NRow n r := fun r hr => by
  rw [tab_nil] at hr
  cases hr
theorem ints_at {i : Nat} {x : V} {H : Hp} (h : YNth (intsV 0 4) i x H) : i < 4 ∧ x = .int (i : Nat) := by
  have h : (intsV 0 4)[i]? = some x := h
  unfold intsV at h
  rw [List.getElem?_map] at h
  obtain ⟨j, e1, e2⟩ := Option.map_eq_some_iff.mp h
  have hi : i < 4 := by
    have := (List.getElem?_eq_some_iff.mp e1).1
    simpa using this
  rw [List.getElem?_range hi] at e1
  cases e1
  exact ⟨hi, by rw [← e2]; simp⟩
theorem tabI_make2 {K : PySem.W.Frag} {H1 : Hp} {c : Nat} {us : List V} {raw : List (List Str)} {Q : Addr → Hp → Prop} {E : XK} (hc : c ≤ 3) (hl : us.length < sizeLine) (hrs : All2 (RwV H1) us raw) (hn : ∀ r ∈ raw, NRow c r) (k : ∀ x H2, Same H1 H2 → H1 x = none → TabIs K H2 x c (tabRows raw) → Q x H2) :
    ∀ x dx, H1 x = none → H1 dx = none → dx ≠ x → ∃ a b rest, (V.ref x :: V.int c :: us) = a :: b :: rest ∧ rest.length ≤ sizeLine ∧ ∀ p, (upd (upd H1 dx (.own x)) x (.ins (He.ga K "Table") dx [])) p = none →
      spTabI K [a, b, .ref p] (upd (upd (upd H1 dx (.own x)) x (.ins (He.ga K "Table") dx [])) p (.tup rest)) (fun v H2 => v = .non ∧ Q x H2) E :=
  fun x dx h1 h2 h3 => tabI_make (Q := fun v H2 => match v with | .ref y => Q y H2 | _ => False) hc hl hrs hn k x dx h1 h2 h3
section
variable {P : Program} {w : World} {K : PySem.W.Frag} {mg : Str → Option Value} {base : Heap}
theorem nf_all (T : Txt K mg) {t : String} (h : t ∈ tyNames) : PySem.W.notFirst K (He.ga K "Table") (.type t) = true := List.all_eq_true.mp T.nf_Table t h
set_option hygiene false in
local macro_rules | `(tactic| tbr_iter "var") => `(tactic| first | ((with_reducible show W _ (.Name "columns" _) _ _ _); refine w_var 0 rfl (by tbr_iter "vis") rfl ?_) | ((with_reducible show W _ (.Name "rows" _) _ _ _); refine w_var 1 rfl (by tbr_iter "vis") rfl ?_) | ((with_reducible show W _ (.Name "made" _) _ _ _); refine w_var 2 rfl (by tbr_iter "vis") rfl ?_) | ((with_reducible show W _ (.Name "bare" _) _ _ _); refine w_var 3 rfl (by tbr_iter "vis") rfl ?_) | ((with_reducible show W _ (.Name "value" _) _ _ _); refine w_var 4 rfl (by tbr_iter "vis") rfl ?_) | ((with_reducible show W _ (.Name "number" _) _ _ _); refine w_var 5 rfl (by tbr_iter "vis") rfl ?_))
set_option hygiene false in
local macro_rules | `(tactic| tbr_iter "set") => `(tactic| first | ((with_reducible show WB _ (.Assign [.Name "columns" _] _ _ :: _) _ _ _); refine wb_cons (ws_set 0 ?_ rfl nd)) | ((with_reducible show WB _ (.Assign [.Name "rows" _] _ _ :: _) _ _ _); refine wb_cons (ws_set 1 ?_ rfl nd)) | ((with_reducible show WB _ (.Assign [.Name "made" _] _ _ :: _) _ _ _); refine wb_cons (ws_set 2 ?_ rfl nd)) | ((with_reducible show WB _ (.Assign [.Name "bare" _] _ _ :: _) _ _ _); refine wb_cons (ws_set 3 ?_ rfl nd)) | ((with_reducible show WB _ (.Assign [.Name "value" _] _ _ :: _) _ _ _); refine wb_cons (ws_set 4 ?_ rfl nd)) | ((with_reducible show WB _ (.Assign [.Name "number" _] _ _ :: _) _ _ _); refine wb_cons (ws_set 5 ?_ rfl nd)))
theorem ok_law_others (T : Txt K mg) : Callee P w K mg base "_law_others_right" 10 ["columns", "rows"] (spOthers K) := by
  refine def_ok T.f__law_others_right sc__law_others_right (fun _ _ _ _ _ _ us hl => match us, hl with | [_, _], _ => rfl) (fun vs H Q E h => ?_) fun f cdv A outer s H vs Q E hr h => ?_
  · obtain ⟨l1, c, us1, rows, rfl, _⟩ := h; rfl
  obtain ⟨l1, c, us1, rows, rfl, hl1, hu1, hc, n1, hlen, k⟩ := h
  have nd := sc__law_others_right.nd
  have hu := room64 hr
  have kc := T.kc_Table
  have sml : ∀ {n : Nat}, n < 1000 → n < sizeLine := fun h => Nat.lt_of_lt_of_le h (by decide)
  have len1 := hu1.len
  have tn1 := tab_row n1
  have tl1 : (tabRows rows).length < 60 := Nat.lt_of_le_of_lt (tabRows_len rows) hlen
  have tl0 : (tabRows []).length < sizeLine := by rw [tab_nil]; decide
  obtain ⟨fr, FR, BR⟩ := ok_tab_rows (P := P) (w := w) (base := base) T
  refine wb_cons (ws_par 2 3 (wa_cons (w_cmeth T.cr_Table T.cm_Table_of (ok_tab_of T) (hr.mono (by decide)) passL (w_glob (glob_ref T.g_Table) ⟨rfl, wa_cons ?_⟩))) rfl rfl nd)
  tbr_iter "var"
  refine wa_cons (w_callTy T.z_tuple (wa_cons ?_))
  tbr_iter "var"
  refine wa_nil (kv_tupleL (SqL.of hl1) fun q1 Ha sa na ha => wa_nil ⟨q1, c, us1, rows, rfl, hc, SqT.of ha, sml (by omega), rows_sl hu1 (Sl.of sa), n1, fun x1 Hb sb nb t1 => wa_cons (w_make T.k_Table (ok_tab_init T) (hr.mono (by decide)) passL (w_glob (glob_ref T.g_Table) ⟨rfl, wa_cons ?_⟩))⟩)
  tbr_iter "var"
  refine wa_nil (tabI_make2 (us := []) (raw := []) hc (by decide) .nil (fun r hr => absurd hr List.not_mem_nil) fun x2 Hc sc nc t2 => wa_nil ⟨_, _, rfl, ?_⟩)
  have t1 := t1.same sc
  have s0 := sa.trans (sb.trans sc)
  obtain ⟨dx1, qa1, da1, e1, _⟩ := id t1
  obtain ⟨dx2, qa2, da2, e2, _⟩ := id t2
  clear sa sb sc na nb nc ha
  refine wb_cons (ws_for 4 (wi_val (w_bin (w_call0 (ok_law_odd T) (hr.mono (by decide)) passL ⟨rfl, fun qo uo Hd sd ndd hqo ao => w_lst (wa_cons (w_prop kc.c T.p_Table_rows FR (hr.mono (by decide)) BR passL ?_))⟩))) rfl nd (passes_of rfl))
  tbr_iter "go"
  have td := t1.same sd
  refine ⟨x1, dx1, _, rfl, sd _ _ e1, x1, c, _, rfl, td, fun qr1 ur1 hr1 vr1 => wa_cons (w_callTy T.z_list (wa_cons (w_prop kc.c T.p_Table_rows FR (hr.mono (by decide)) BR passL ?_)))⟩
  tbr_iter "go"
  refine ⟨x1, dx1, _, rfl, sd _ _ e1, x1, c, _, rfl, td, fun qr2 ur2 hr2 vr2 => wa_nil (kv_listS (.inr (SqT.of hr2)) fun ql He se ne hle => wa_cons (w_callTy T.z_str (wa_cons ?_)))⟩
  tbr_iter "var"
  have sde := sd.trans se
  refine wa_nil (kv_strO T.m_Table___str__ (ok_tab_str T) (hr.mono (by decide)) passL (sde _ _ e1) ⟨x1, c, _, rfl, t1.same sde, hc, by omega, fun Hf sf => ⟨_, rfl, wa_nil ⟨three_line, fun p3 Hg sg ng h3 => ?_⟩⟩⟩)
  have sef := se.trans (sf.trans sg)
  refine bv_cat (sef _ _ hqo) h3 ?_ fun qa Hh sh nh hqa => ?_
  · rw [ao.len]
    exact (show 20 ≤ sizeLine by decide)
  have seh := sef.trans sh
  have sdh := sd.trans seh
  have sfh := sf.trans (sg.trans sh)
  have odds : ∀ x ∈ uo ++ [V.ref qr1, .ref ql, .str (tabText c (tabRows rows).length)], DatV K Hh x := fun x hx => by
    rcases List.mem_append.mp hx with hx | hx
    · obtain ⟨i, hi⟩ := List.mem_iff_getElem?.mp hx
      obtain ⟨cd, hcd, ow⟩ := ao.at hi
      exact .inl ⟨cd, ow.same seh⟩
    · simp only [List.mem_cons, List.not_mem_nil, or_false] at hx
      rcases hx with rfl | rfl | rfl
      · exact .inr ⟨_, dp_rows (seh _ _ hr1) (rows_sl vr1 (Sl.of seh))⟩
      · exact .inr ⟨.list ((tabRows rows).map rowD), .lst (SqL.of (sfh _ _ hle)) (dpa_rows (rows_sl vr2 (Sl.of seh)))⟩
      · exact .inr ⟨_, .str _⟩
  have th := t1.same sdh
  have th2 := t2.same sdh
  have ho0 : rowsOkO none := fun d r2 e => by cases e
  refine itv_list (SqL.of hqa) ⟨_, _, _, walk_list (K := K) (xs := uo ++ [V.ref qr1, .ref ql, .str (tabText c (tabRows rows).length)]), fun j σ Hi => ∃ x4 x5, σ = [some (.int c), some (.ref l1), some (.ref x1), some (.ref x2), x4, x5] ∧ Same Hh Hi, ⟨none, none, rfl, Same.refl _⟩, fun _ _ _ _ ⟨_, _, _, s⟩ => s.seq (SqL.of hqa), ?_, ?_⟩
  · rintro j x σ Hi Hi' hj ⟨x4, x5, rfl, si⟩ ⟨e, hx⟩
    subst e
    have dv := (odds x (List.mem_of_getElem? hx)).same si
    obtain ⟨ty, hty, ist⟩ := dv.isTy (X := cxOf (L2.CX P w) P w K mg base n__law_others_right "_law_others_right" (defScope s__law_others_right) f cdv A outer s H E)
    have ti := th.same si
    refine wb_cons (ws_if (wt_bool (ww_or (wt_cmp (w_cmp ?_)))))
    tbr_iter "var"
    tbr_iter "var"
    refine cv_eqX T.m_Table___eq__ (ok_tab_eqX T) (hr.mono (by decide)) passL ((sdh.trans si) _ _ e1) ist (nf_all T hty) ⟨x1, x, c, _, none, rfl, ti, dv.other, tn1, ho0, fun Hj sj => ⟨_, rfl, w_bl (cv_notB ⟨_, rfl, ?_⟩)⟩⟩
    rw [show (!decide (eqO c (tabRows rows) none = false)) = false from rfl]
    refine iteF (ww_or1 (wt_cmp (w_meth kc.c T.m_Table_is_within (ok_tab_inX T) (hr.mono (by decide)) passL ?_)))
    have sij := si.trans sj
    tbr_iter "go"
    refine ⟨x1, dx1, _, rfl, (sdh.trans sij) _ _ e1, rfl, ?_⟩
    tbr_iter "go"
    refine ⟨x1, x, c, _, none, rfl, ti.same sj, (dv.same sj).other, sml (by omega), fun Hk sk => w_bl (cv_notB ⟨_, rfl, ?_⟩)⟩
    rw [show (!decide (inO c (tabRows rows) none = false)) = false from rfl]
    exact iteF (wb_nil (wb_nil ⟨_, _, rfl, sij.trans sk⟩))
  · rintro σ Hi ⟨x4, x5, rfl, si⟩
    have s1 := sdh.trans si
    refine wb_cons (ws_for 5 (wi_val (w_lcI [("number", 5)] (gName 5) (tWT _ _ _) (fun _ _ _ _ _ => pg_name nd rfl (Or.inl rfl) (Or.inr rfl)) pts_wt rfl nd (by tbr_iter "blk") (lcC_I mono_name mono_wt (wi_range1 T.z_range ?_)))) rfl nd (passes_of rfl))
    tbr_iter "go"
    refine ⟨4, rfl, by omega, by omega, _, _, itN_seq (seqIt_range (lo := 0) (n := 4)), by decide, fun i => if i = c then none else some (V.int (i : Nat)), fun i x Hj hi sj hx => ?_, fun D Hj sj nj hj => ?_⟩
    · obtain ⟨i4, rfl⟩ := ints_at hx
      refine ⟨rfl, fun _ _ _ _ _ => wt_cmp ?_⟩
      tbr_iter "go"
      refine ⟨_, rfl, Same.refl _, ?_⟩
      by_cases e : i = c
      · rw [show (!decide (V.int ((i : Nat) : Int) = V.int ((c : Nat) : Int))) = false by rw [e]; simp, if_neg Bool.false_ne_true]
        exact if_pos e
      · rw [show (!decide (V.int ((i : Nat) : Int) = V.int ((c : Nat) : Int))) = true by simp; omega, if_pos rfl]
        intro _ _ _ _ _
        tbr_iter "go"
        exact ⟨Same.refl _, if_neg e⟩
    · have s2 := s1.trans sj
      refine itv_list (SqL.of hj) ⟨_, _, _, walk_list (K := K), fun j σ Hk => ∃ x4 x5, σ = [some (.int c), some (.ref l1), some (.ref x1), some (.ref x2), x4, x5] ∧ Same Hj Hk, ⟨x4, x5, rfl, Same.refl _⟩, fun _ _ _ _ ⟨_, _, _, s⟩ => s.seq (SqL.of hj), ?_, ?_⟩
      · rintro j x σ Hk Hk' hj2 ⟨y4, y5, rfl, sk⟩ ⟨e, hx⟩
        subst e
        obtain ⟨n, hn, hne, rfl⟩ : ∃ n : Nat, n < 4 ∧ n ≠ c ∧ x = .int n := by
          obtain ⟨i, hi, e⟩ := List.mem_filterMap.mp (List.mem_of_getElem? hx)
          by_cases g : i = c
          · rw [if_pos g] at e
            cases e
          · rw [if_neg g] at e
            cases e
            exact ⟨i, by simpa [intsV] using hi, g, rfl⟩
        have s3 := s2.trans sk
        have okn : rowsOkO (some (n, tabRows [])) := fun d r2 e => by cases e; exact none_row
        have ef : ∀ R, eqO c R (some (n, tabRows [])) = false := fun R => decide_eq_false fun z => hne z.1
        have wf : ∀ R, inO c R (some (n, tabRows [])) = false := fun R => by
          show (decide (n = c) && _) = false
          rw [decide_eq_false hne, Bool.false_and]
        refine wb_cons (ws_if (wt_bool (ww_or (wt_cmp ?_))))
        tbr_iter "var"
        refine w_make T.k_Table (ok_tab_init T) (hr.mono (by decide)) passL (w_glob (glob_ref T.g_Table) ⟨rfl, wa_cons ?_⟩)
        tbr_iter "var"
        refine wa_nil (tabI_make2 (c := n) (us := []) (raw := []) (by omega) (by decide) .nil (fun r hr => absurd hr List.not_mem_nil) fun x6 Hl sl nl t6 => ?_)
        have s4 := s3.trans sl
        obtain ⟨dx6, qa6, da6, e6, _⟩ := id t6
        refine cv_eqO T.m_Table___eq__ (ok_tab_eqX T) (hr.mono (by decide)) passL (s4 _ _ e2) e6 ⟨x2, .ref x6, c, _, some (n, tabRows []), rfl, t2.same s4, ⟨x6, rfl, t6⟩, none_row, okn, fun Hm sm => ⟨_, rfl, _, rfl, ?_⟩⟩
        rw [ef]
        refine iteF (ww_or (wt_val (w_meth kc.c T.m_Table_is_within (ok_tab_inX T) (hr.mono (by decide)) passL ?_)))
        have s5 := s4.trans sm
        tbr_iter "go"
        refine ⟨x2, dx2, _, rfl, s5 _ _ e2, rfl, wa_cons (w_make T.k_Table (ok_tab_init T) (hr.mono (by decide)) passL (w_glob (glob_ref T.g_Table) ⟨rfl, wa_cons ?_⟩))⟩
        tbr_iter "var"
        refine wa_nil (tabI_make2 (c := n) (us := []) (raw := []) (by omega) (by decide) .nil (fun r hr => absurd hr List.not_mem_nil) fun x7 Hn sn nn t7 => wa_nil ?_)
        have s6 := s5.trans sn
        refine ⟨x2, .ref x7, c, _, some (n, tabRows []), rfl, t2.same s6, ⟨x7, rfl, t7⟩, tl0, fun Ho so => ⟨_, rfl, ?_⟩⟩
        rw [wf]
        refine iteF (ww_or1 (wt_cmp ?_))
        have s7 := s6.trans so
        tbr_iter "var"
        refine w_make T.k_Table (ok_tab_init T) (hr.mono (by decide)) passL (w_glob (glob_ref T.g_Table) ⟨rfl, wa_cons ?_⟩)
        tbr_iter "var"
        refine wa_nil (tabI_make2 (c := n) (us := []) (raw := []) (by omega) (by decide) .nil (fun r hr => absurd hr List.not_mem_nil) fun x8 Hp sp np t8 => ?_)
        have s8 := s7.trans sp
        obtain ⟨dx8, qa8, da8, e8, _⟩ := id t8
        refine cv_eqO T.m_Table___eq__ (ok_tab_eqX T) (hr.mono (by decide)) passL (s8 _ _ e1) e8 ⟨x1, .ref x8, c, _, some (n, tabRows []), rfl, t1.same s8, ⟨x8, rfl, t8⟩, tn1, okn, fun Hq sq => ⟨_, rfl, _, rfl, ?_⟩⟩
        rw [ef]
        exact iteF (wb_nil (wb_nil ⟨_, _, rfl, sk.trans (sl.trans (sm.trans (sn.trans (so.trans (sp.trans sq)))))⟩))
      · rintro σ Hk ⟨y4, y5, rfl, sk⟩
        have s3 := s2.trans sk
        have ok1 : rowsOkO (some (c, tabRows rows)) := fun d r2 e => by cases e; exact tn1
        have ok0 : rowsOkO (some (c, tabRows [])) := fun d r2 e => by cases e; exact none_row
        have w1 : inO c (tabRows []) (some (c, tabRows rows)) = true := by
          show (decide (c = c) && _) = true
          rw [decide_eq_true rfl, tab_nil]
          rfl
        have w2 : inO c (tabRows rows) (some (c, tabRows rows)) = true := by
          show (decide (c = c) && (tabRows rows).all fun r => decide (r ∈ tabRows rows)) = true
          rw [decide_eq_true rfl, Bool.true_and, List.all_eq_true]
          exact fun r hr => decide_eq_true hr
        refine wb_cons (ws_ret (w_and (w_meth kc.c T.m_Table_is_within (ok_tab_inX T) (hr.mono (by decide)) passL ?_)))
        tbr_iter "go"
        refine ⟨x2, dx2, _, rfl, s3 _ _ e2, rfl, ?_⟩
        tbr_iter "go"
        refine ⟨x2, .ref x1, c, _, some (c, tabRows rows), rfl, t2.same s3, ⟨x1, rfl, t1.same s3⟩, tl0, fun Hl sl => ⟨_, rfl, iteT2 w1 (w_and (w_meth kc.c T.m_Table_is_within (ok_tab_inX T) (hr.mono (by decide)) passL ?_))⟩⟩
        have s4 := s3.trans sl
        tbr_iter "go"
        refine ⟨x1, dx1, _, rfl, s4 _ _ e1, rfl, ?_⟩
        tbr_iter "go"
        refine ⟨x1, .ref x1, c, _, some (c, tabRows rows), rfl, t1.same s4, ⟨x1, rfl, t1.same s4⟩, sml (by omega), fun Hm sm => ⟨_, rfl, iteT2 w2 (w_one (w_cmp ?_))⟩⟩
        have s5 := s4.trans sm
        tbr_iter "var"
        refine w_cmeth T.cr_Table T.cm_Table_of (ok_tab_of T) (hr.mono (by decide)) passL (w_glob (glob_ref T.g_Table) ⟨rfl, wa_cons ?_⟩)
        tbr_iter "var"
        refine wa_cons (w_tup (wa_nil ⟨zero_line, fun pe Hn sn nn hn => wa_nil ⟨pe, c, [], [], rfl, hc, SqT.of hn, by decide, .nil, fun r hr => absurd hr List.not_mem_nil, fun x6 Ho so no t6 => ?_⟩⟩))
        have s6 := s5.trans (sn.trans so)
        obtain ⟨dx6, qa6, da6, e6, _⟩ := id t6
        refine cv_eqO T.m_Table___eq__ (ok_tab_eqX T) (hr.mono (by decide)) passL (s6 _ _ e2) e6 ⟨x2, .ref x6, c, _, some (c, tabRows []), rfl, t2.same s6, ⟨x6, rfl, t6⟩, none_row, ok0, fun Hp sp => ⟨_, rfl, ?_⟩⟩
        rw [show eqO c (tabRows []) (some (c, tabRows [])) = true from decide_eq_true ⟨rfl, rfl⟩]
        exact k Hp (s0.trans (s6.trans sp))
end
end Ax
end
section
set_option maxHeartbeats 4000000
open PySem PySem.Spec PyProof.Rows L2 Ax
set_option hygiene false in
local macro_rules | `(tactic| tbr_iter "boot") => `(tactic| with_reducible first | exact Ax.b_len | exact Ax.b_all | exact Ax.b_any | exact Ax.b_sorted | exact Ax.b_isinstance | exact Ax.b_abs | exact Ax.b_max | exact Ax.b_min | exact Ax.b_sum | exact Ax.b_repr | exact Ax.b_iter | exact Ax.b_ord | exact Ax.b_chr | exact Ax.b_str | exact Ax.b_int | exact Ax.b_bool | exact Ax.b_tuple | exact Ax.b_list | exact Ax.b_dict | exact Ax.b_set | exact Ax.b_range | exact Ax.b_enumerate | exact Ax.b_zip)
set_option hygiene false in
local macro_rules | `(tactic| tbr_iter "vis") => `(tactic| first | exact Or.inl rfl | exact Or.inr (Or.inl rfl) | exact Or.inr (Or.inr rfl))
set_option hygiene false in
local macro_rules | `(tactic| tbr_iter "w") => `(tactic| first
  | refine wb_cons ?_
  | refine wb_nil ?_
  | refine ws_ret ?_
  | refine ws_if ?_
  | refine ws_sub ?_
  | refine wa_cons ?_
  | refine wa_nil ?_
  | refine w_int ?_
  | refine w_str ?_
  | refine w_bl ?_
  | refine w_non ?_
  | tbr_iter "var"
  | refine w_bin ?_
  | refine w_cmp ?_
  | refine w_chain ?_
  | refine w_and ?_
  | refine w_or ?_
  | refine w_one ?_
  | refine w_not ?_
  | refine w_ix ?_
  | refine w_ifExp ?_
  | refine w_tup ?_
  | refine w_lst ?_
  | refine wt_not ?_
  | refine wt_bool ?_
  | refine ww_and ?_
  | refine ww_and1 ?_
  | refine ww_or ?_
  | refine ww_or1 ?_
  | refine wt_cmp ?_
  | refine wt_val ?_
  | tbr_iter "call"
  | (refine w_glob (by tbr_iter "mg") ?_)
  | (refine w_callB (by tbr_iter "z") ?_)
  | (refine w_callTy (by tbr_iter "z") ?_)
  | (refine w_bltT (by tbr_iter "z") ?_))
set_option hygiene false in
local macro_rules | `(tactic| tbr_iter "blk") => `(tactic| first | exact blkOk_by (by dsimp only [cxOf, envOfC]; decide +kernel))
set_option hygiene false in
local macro_rules | `(tactic| tbr_iter "iff") => `(tactic| first
  | refine iteT ?_
  | refine iteF ?_
  | refine w_if2 (fun _ => ?_) (fun _ => ?_))
set_option hygiene false in
local macro_rules | `(tactic| tbr_iter "sc") => `(tactic| first | omega | decide)
set_option hygiene false in
local macro_rules | `(tactic| tbr_iter "at") => `(tactic| first | exact atI_0 | exact atI_1 | exact atI_2)
set_option hygiene false in
local macro_rules | `(tactic| tbr_iter "sql") => `(tactic| ((try dsimp only [L2.cxOf, L2.Cx.blk]); with_reducible first | assumption | exact SqL.of (by assumption)))
set_option hygiene false in
local macro_rules | `(tactic| tbr_iter "sqt") => `(tactic| ((try dsimp only [L2.cxOf, L2.Cx.blk]); with_reducible first | assumption | exact SqT.of (by assumption)))
set_option hygiene false in
local macro_rules | `(tactic| tbr_iter "v") => `(tactic| first
  | refine bv_add ?_
  | refine bv_sub ?_
  | ((with_reducible show BinV _ .Mult _ _ _ _); refine bv_mul (Or.inl ⟨by tbr_iter "sc", by tbr_iter "sc"⟩) ?_)
  | ((with_reducible show BinV _ .Mult _ _ _ _); refine bv_mul (Or.inr ⟨by tbr_iter "sc", by tbr_iter "sc"⟩) ?_)
  | ((with_reducible show BinV _ .Mod _ _ _ _); refine bv_mod (by tbr_iter "sc") ?_)
  | ((with_reducible show BinV _ .FloorDiv _ _ _ _); refine bv_fdiv ⟨by tbr_iter "sc", by tbr_iter "sc"⟩ ?_)
  | ((with_reducible show BinV _ .Pow _ _ _ _); refine bv_pow ⟨by decide, by decide +kernel⟩ ?_)
  | refine cv_lt ?_
  | refine cv_le ?_
  | refine cv_gt ?_
  | refine cv_ge ?_
  | ((with_reducible show CmpV _ .Eq _ _ _ _); refine cv_eq rfl ?_)
  | ((with_reducible show CmpV _ .NotEq _ _ _ _); refine cv_ne rfl ?_)
  | refine iv_list (by tbr_iter "sql") (by tbr_iter "at") ?_
  | refine iv_tup (by tbr_iter "sqt") (by tbr_iter "at") ?_
  | refine kv_len_seq (Or.inl (by tbr_iter "sql")) ?_
  | refine kv_len_seq (Or.inr (by tbr_iter "sqt")) ?_
  | refine kv_int ?_
  | refine kv_intB ?_
  | refine kv_abs ?_
  | refine kv_max2 rfl ?_
  | refine kv_min2 rfl ?_)
set_option hygiene false in
local macro_rules | `(tactic| tbr_iter "b") => `(tactic| first
  | refine ⟨_, rfl, iteT ?_⟩
  | refine ⟨_, rfl, iteF ?_⟩
  | refine iteT ?_
  | refine iteF ?_)
set_option hygiene false in
local macro_rules | `(tactic| tbr_iter "go") => `(tactic| repeat (first | tbr_iter "w" | tbr_iter "v" | tbr_iter "b"))
set_option hygiene false in
local macro_rules | `(tactic| tbr_iter "nof") => `(tactic| (intro d hd; cases d <;> first | rfl | exact absurd rfl (hd _)))
set_option hygiene false in
local macro_rules | `(tactic| tbr_iter "e1") => `(tactic| first | ((with_reducible show W _ _ _ _ _); tbr_iter "w") | ((with_reducible show WA _ _ _ _ _); tbr_iter "w") | ((with_reducible show WT _ _ _ _ _); tbr_iter "w") | ((with_reducible show WW _ _ _ _ _); tbr_iter "w") | tbr_iter "v")
set_option hygiene false in
local macro_rules | `(tactic| tbr_iter "ex") => `(tactic| repeat (tbr_iter "e1"))
set_option hygiene false in
local macro_rules | `(tactic| tbr_iter "z") => `(tactic| ((try dsimp only [L2.cxOf]); with_reducible first | exact T.z_IndexError | exact T.z_ValueError | exact T.z_abs | exact T.z_all | exact T.z_bool | exact T.z_classmethod | exact T.z_enumerate | exact T.z_int | exact T.z_isinstance | exact T.z_iter | exact T.z_len | exact T.z_list | exact T.z_max | exact T.z_min | exact T.z_property | exact T.z_range | exact T.z_repr | exact T.z_set | exact T.z_sorted | exact T.z_str | exact T.z_tuple))
set_option hygiene false in
local macro_rules | `(tactic| tbr_iter "mg") => `(tactic| ((try dsimp only [L2.cxOf]); with_reducible first | exact T.c_ALPHABET | exact T.c_MAX_LETTERS | exact T.c_MAX_COLUMNS))
namespace Ax
theorem strs_perm {ys : List V} {zs : List Str} (p : ys.Perm (zs.map V.str)) : ∃ us : List Str, ys = us.map V.str ∧ us.Perm zs := by
  have e1 : ys = (ys.map fun v => match v with | .str z => z | _ => "").map V.str := by
    rw [List.map_map]
    have key : ∀ y ∈ ys, (V.str ∘ fun v => match v with | .str z => z | _ => "") y = y := fun y hy => by
      obtain ⟨z, _, rfl⟩ := List.mem_map.mp (p.mem_iff.mp hy)
      rfl
    exact ((List.map_congr_left key).trans (List.map_id _)).symm
  refine ⟨_, e1, ?_⟩
  have e2 := p.map fun v => match v with | V.str z => z | _ => ("" : Str)
  rw [List.map_map] at e2
  have e3 : (zs.map ((fun v => match v with | V.str z => z | _ => ("" : Str)) ∘ V.str)) = zs := (List.map_congr_left fun z _ => rfl).trans (List.map_id _)
  rw [e3] at e2
  exact e2
/-! ### all rows over rising names stand in their order -/
theorem all2_sub {α β : Type} {R : α → β → Prop} {xs ys : List α} (h : ys.Sublist xs) : ∀ {bs : List β}, All2 R xs bs → ∃ cs, All2 R ys cs ∧ cs.Sublist bs := by
  induction h with
  | slnil => intro bs h; exact ⟨bs, h, List.Sublist.refl _⟩
  | cons a _ ih =>
    intro bs h
    cases h with
    | cons h1 h2 =>
      obtain ⟨cs, h3, h4⟩ := ih h2
      exact ⟨cs, h3, h4.cons _⟩
  | cons_cons a _ ih =>
    intro bs h
    cases h with
    | cons h1 h2 =>
      obtain ⟨cs, h3, h4⟩ := ih h2
      exact ⟨_, .cons h1 h3, h4.cons_cons _⟩
theorem all2_perm {α β : Type} {R : α → β → Prop} {xs ys : List α} (p : xs.Perm ys) : ∀ {bs : List β}, All2 R xs bs → ∃ cs, All2 R ys cs ∧ bs.Perm cs := by
  induction p with
  | nil => intro bs h; exact ⟨bs, h, .refl _⟩
  | cons x _ ih =>
    intro bs h
    cases h with
    | cons h1 h2 =>
      obtain ⟨cs, h3, h4⟩ := ih h2
      exact ⟨_ :: cs, .cons h1 h3, h4.cons _⟩
  | swap x y l =>
    intro bs h
    cases h with
    | cons h1 h2 =>
      cases h2 with
      | cons h3 h4 => exact ⟨_, .cons h3 (.cons h1 h4), .swap ..⟩
  | trans _ _ ih1 ih2 =>
    intro bs h
    obtain ⟨cs, h3, h4⟩ := ih1 h
    obtain ⟨ds, h5, h6⟩ := ih2 h3
    exact ⟨ds, h5, h4.trans h6⟩
abbrev pool6 : List Str := ["a", "b", "ab", "zz", "name", "zzzzzzzz"]
theorem pool6_fine : ∀ z ∈ pool6, isNameS z = true := by decide +kernel
def spRightT (K : PySem.W.Frag) : Sp := fun vs H Q _ => ∃ (p : Addr) (n : Nat), vs = [.ref p] ∧ H p = some (DiceO p n) ∧ n < 2 ^ 40 ∧ ∀ m H', Sm p H H' → H' p = some (DiceO p m) → m ≤ n + 1000 → Q (.bl true) H'
section
variable {P : Program} {w : World} {K : PySem.W.Frag} {mg : Str → Option Value} {base : Heap}
set_option hygiene false in
local macro_rules | `(tactic| tbr_iter "var") => `(tactic| first | ((with_reducible show W _ (.Name "dice" _) _ _ _); refine w_var 0 rfl (by tbr_iter "vis") rfl ?_) | ((with_reducible show W _ (.Name "columns" _) _ _ _); refine w_var 1 rfl (by tbr_iter "vis") rfl ?_) | ((with_reducible show W _ (.Name "names" _) _ _ _); refine w_var 2 rfl (by tbr_iter "vis") rfl ?_) | ((with_reducible show W _ (.Name "rows" _) _ _ _); refine w_var 3 rfl (by tbr_iter "vis") rfl ?_) | ((with_reducible show W _ (.Name "others" _) _ _ _); refine w_var 4 rfl (by tbr_iter "vis") rfl ?_) | ((with_reducible show W _ (.Name "made" _) _ _ _); refine w_var 5 rfl (by tbr_iter "vis") rfl ?_))
set_option hygiene false in
local macro_rules | `(tactic| tbr_iter "set") => `(tactic| first | ((with_reducible show WB _ (.Assign [.Name "dice" _] _ _ :: _) _ _ _); refine wb_cons (ws_set 0 ?_ rfl nd)) | ((with_reducible show WB _ (.Assign [.Name "columns" _] _ _ :: _) _ _ _); refine wb_cons (ws_set 1 ?_ rfl nd)) | ((with_reducible show WB _ (.Assign [.Name "names" _] _ _ :: _) _ _ _); refine wb_cons (ws_set 2 ?_ rfl nd)) | ((with_reducible show WB _ (.Assign [.Name "rows" _] _ _ :: _) _ _ _); refine wb_cons (ws_set 3 ?_ rfl nd)) | ((with_reducible show WB _ (.Assign [.Name "others" _] _ _ :: _) _ _ _); refine wb_cons (ws_set 4 ?_ rfl nd)) | ((with_reducible show WB _ (.Assign [.Name "made" _] _ _ :: _) _ _ _); refine wb_cons (ws_set 5 ?_ rfl nd)))
theorem ok_law_rightT (T : Txt K mg) : CalleeG P w K mg base "_law_right" 12 ["dice"] (spRightT K) := by
  refine def_okG T.f__law_right sc__law_right (fun _ _ _ _ _ _ us hl => match us, hl with | [_], _ => rfl) (fun vs H Q E h => ?_) fun f cdv A outer s H vs Q E hgd hr h => ?_
  · obtain ⟨p, n, rfl, _⟩ := h; rfl
  obtain ⟨p, n, rfl, hp, hn, k⟩ := h
  have nd := sc__law_right.nd
  have hu := room64 hr
  have kc := T.kc_Table
  refine wb_cons (ws_set 1 (w_call (ok_law_pick T) (hr.mono (by decide)) passL (wa_cons ?_)) rfl nd)
  tbr_iter "go"
  refine ⟨show 6 ≤ sizeLine by decide, fun pp H1 s1 n1 h1 => wa_nil ⟨p, pp, n, _, rfl, s1 _ _ hp, by omega, SqL.of h1, (fun e => by cases e), (show 6 < 2 ^ 20 by decide), fun v hv H2 s2 hp2 => ?_⟩⟩
  obtain ⟨c, rfl, hc⟩ : ∃ c : Nat, v = .int c ∧ c ≤ 3 := by
    have hv2 : v ∈ [V.int 2, .int 1, .int 2, .int 3, .int 0, .int 2] := hv
    simp only [List.mem_cons, List.not_mem_nil, or_false] at hv2
    rcases hv2 with rfl | rfl | rfl | rfl | rfl | rfl
    · exact ⟨2, rfl, by omega⟩
    · exact ⟨1, rfl, by omega⟩
    · exact ⟨2, rfl, by omega⟩
    · exact ⟨3, rfl, by omega⟩
    · exact ⟨0, rfl, by omega⟩
    · exact ⟨2, rfl, by omega⟩
  have sm2 : Sm p H H2 := (Sm.of hp s1).trans s2
  refine wb_cons (ws_set 2 (w_cutTo (w_call (ok_law_mixed T) (hr.mono (by decide)) passL (wa_cons ?_))) rfl nd)
  tbr_iter "go"
  refine ⟨show 6 ≤ sizeLine by decide, fun pl H3 s3 n3 h3 => wa_nil ⟨p, pl, n + 1, _, rfl, s3 _ _ hp2, by omega, SqL.of (xs := pool6.map V.str) h3, show 6 ≤ 1000 by decide, fun ys q4 m4 H4 py s4 hp4 hm4 n4 h4 => ?_⟩⟩
  obtain ⟨us, rfl, pus⟩ := strs_perm py
  tbr_iter "go"
  refine w_call (ok_law_roll T) (hr.mono (by decide)) passL ?_
  tbr_iter "go"
  have hm4' : m4 ≤ n + 1 + 6 := hm4
  refine ⟨p, m4, 4, rfl, hp4, by omega, by decide, by decide, fun r H5 s5 hp5 r0 r1 => ?_⟩
  tbr_iter "go"
  have er : (2 : Int) + r = ((2 + r.toNat : Nat) : Int) := by omega
  rw [er]
  refine ⟨q4, 2 + r.toNat, us.map V.str, rfl, rfl, SqL.of (s5.lst h4), fun q6 H6 s6 n6 h6 => ?_⟩
  rw [← List.map_take] at h6
  have tl : (us.take (2 + r.toNat)).length ≤ 6 := by
    rw [List.length_take]
    have := Nat.min_le_left (2 + r.toNat) us.length
    omega
  have ul : us.length = 6 := pus.length_eq
  have tne : us.take (2 + r.toNat) ≠ [] := by
    rw [← List.length_pos_iff, List.length_take, ul]
    omega
  have znm : ∀ z ∈ us.take (2 + r.toNat), isNameS z = true := fun z hz => pool6_fine z (pus.mem_iff.mp (List.mem_of_mem_take hz))
  generalize us.take (2 + r.toNat) = zs at h6 tl tne znm
  have sm6 : Sm p H H6 := (((sm2.same s3).trans s4).trans s5).same s6
  have hp6 : H6 p = some (DiceO p (m4 + 1)) := s6 _ _ hp5
  clear sm2 s1 s2 s3 s4 s5 s6 h1 h3 h4 n1 n3 n4 n6
  refine wb_cons (ws_set 3 (w_call (ok_law_drawnR T) (hr.mono (by decide)) passL ?_) rfl nd)
  tbr_iter "go"
  refine ⟨p, q6, m4 + 1, c, zs, rfl, hp6, by omega, h6, hc, tne, tl, fun us8 rows q8 m8 H8 hur hrl hrz s8 hp8 hm8 n8 h8 => ?_⟩
  have ul8 : us8.length ≤ 6 := by rw [hur.len]; exact hrl
  have nrow : ∀ {raw : List (List Str)}, (∀ r ∈ raw, r.length = c ∧ ∀ z ∈ r, z ∈ zs) → ∀ r ∈ raw, NRow c r := fun h r hr => ⟨(h r hr).1, fun z hz => znm z ((h r hr).2 z hz)⟩
  have nin : ∀ {raw : List (List Str)}, (∀ r ∈ raw, r.length = c ∧ ∀ z ∈ r, z ∈ zs) → NamesIn zs raw := fun h r hr => (h r hr).2
  refine wb_cons (ws_set 4 (w_bin (w_call (ok_law_some T) (hr.mono (by decide)) passL ?_)) rfl nd)
  tbr_iter "go"
  refine ⟨p, q8, m8, 2, us8, rfl, hp8, by omega, by decide, by decide, SqL.of h8, by omega, fun ya qa ma Ha suba sa hpa hma na ha => ?_⟩
  refine w_call (ok_law_drawnR T) (hr.mono (by decide)) passL ?_
  tbr_iter "go"
  refine ⟨p, q6, ma, c, zs, rfl, hpa, by omega, sa.lst (s8.lst h6), hc, tne, tl, fun us9 rows9 q9 m9 H9 hu9 hl9 hz9 s9 hp9 hm9 n9 h9 => ?_⟩
  obtain ⟨rowsa, hua, subr⟩ := all2_sub suba hur
  have la : ya.length ≤ 6 := Nat.le_trans suba.length_le ul8
  have lra : rowsa.length ≤ 6 := Nat.le_trans subr.length_le hrl
  have l9 : us9.length ≤ 6 := by rw [hu9.len]; exact hl9
  refine bv_cat (s9.lst ha) h9 (Nat.le_trans (show _ ≤ 12 by omega) (by decide)) fun qo Ho so no ho => ?_
  have huo : All2 (RwV Ho) (ya ++ us9) (rowsa ++ rows9) := (rows_sl hua (sa.sl.trans (s9.sl.trans (Sl.of so)))).app (rows_sl hu9 (Sl.of so))
  have hzo : ∀ r ∈ rowsa ++ rows9, r.length = c ∧ ∀ z ∈ r, z ∈ zs := fun r hr => (List.mem_append.mp hr).elim (fun z => hrz r (subr.subset z)) (hz9 r)
  have sm8o : Sm p H8 Ho := (sa.trans s9).same so
  have smo : Sm p H Ho := (sm6.trans s8).trans sm8o
  have hpo := so _ _ hp9
  have h8o := sm8o.lst h8
  have huro := rows_sl hur sm8o.sl
  have lo : (rowsa ++ rows9).length ≤ 12 := by rw [List.length_append]; omega
  have hmo : m9 ≤ n + 200 := by omega
  clear sm6 hp6 h6 s8 hp8 hm8 n8 h8 sa hpa hma na ha s9 hp9 hm9 n9 h9 so no hua hu9 sm8o hur
  refine wb_cons (ws_set 5 (w_cmeth T.cr_Table T.cm_Table_of (ok_tab_of T) (hr.mono (by decide)) passL (w_glob (glob_ref T.g_Table) ⟨rfl, wa_cons ?_⟩)) rfl nd)
  tbr_iter "var"
  refine wa_cons (w_callTy T.z_tuple (wa_cons (w_call (ok_law_mixed T) (hr.mono (by decide)) passL (wa_cons ?_))))
  tbr_iter "var"
  refine wa_cons (w_bin ?_)
  tbr_iter "var"
  refine w_call (ok_law_some T) (hr.mono (by decide)) passL ?_
  tbr_iter "go"
  refine ⟨p, q8, m9, 2, us8, rfl, hpo, by omega, by decide, by decide, SqL.of h8o, by omega, fun yb qb mb Hb subb sb hpb hmb nb hb => ?_⟩
  obtain ⟨rowsb, hub, subr2⟩ := all2_sub subb huro
  have lb : yb.length ≤ 6 := Nat.le_trans subb.length_le ul8
  refine bv_cat (sb.lst h8o) hb (Nat.le_trans (show _ ≤ 12 by omega) (by decide)) fun qc Hc sc nc hcl => wa_nil ?_
  have lc : (us8 ++ yb).length ≤ 12 := by rw [List.length_append]; omega
  refine ⟨p, qc, mb, us8 ++ yb, rfl, sc _ _ hpb, by omega, SqL.of hcl, by omega, fun yd qd md Hd pd sd hpd hmd nd2 hd => wa_nil (kv_tupleL (SqL.of hd) fun qt He se ne he => wa_nil ?_)⟩
  have sbe : Sm p Ho He := ((sb.same sc).trans sd).same se
  have hall : All2 (RwV He) (us8 ++ yb) (rows ++ rowsb) := (rows_sl huro sbe.sl).app (rows_sl hub sbe.sl)
  obtain ⟨rowsd, hud, pr⟩ := all2_perm pd.symm hall
  have same : ∀ r, r ∈ rowsd ↔ r ∈ rows := fun r => pr.mem_iff.symm.trans (by
    rw [List.mem_append]
    exact ⟨fun z => z.elim id fun z => subr2.subset z, fun z => .inl z⟩)
  have ld : yd.length ≤ 12 := by rw [pd.length_eq]; exact lc
  have hzd : ∀ r ∈ rowsd, r.length = c ∧ ∀ z ∈ r, z ∈ zs := fun r hr => hrz r ((same r).mp hr)
  refine ⟨qt, c, yd, rowsd, rfl, hc, SqT.of he, Nat.lt_of_le_of_lt ld (by decide), hud, nrow hzd, fun x Hf sf nf tf => ?_⟩
  have smf := smo.trans (sbe.same sf)
  have sbf := sbe.same sf
  have hpf := sf _ _ (se _ _ hpd)
  have h8f := sbf.lst h8o
  have hof := sbf.lst ho
  have hurf := rows_sl huro sbf.sl
  have huof := rows_sl huo sbf.sl
  have hmf : md ≤ n + 300 := by omega
  have tm : tabRows rowsd = tabRows rows := tabRows_congr same
  rw [tm] at tf
  clear smo hpo h8o ho huro huo sb hpb hmb nb hb sc nc hcl sd hpd hmd nd2 hd se ne he sf nf sbe sbf hall hud hub
  have mrow := nrow hrz
  have trow := tab_row mrow
  have tl8 : (tabRows rows).length ≤ 6 := Nat.le_trans (tabRows_len rows) hrl
  obtain ⟨dx, qx, px, e1, _⟩ := id tf
  refine wb_cons (ws_if (wt_bool (ww_or (wt_not (wt_val (w_callG (ok_law_is_told T) hgd (hr.mono (by decide)) passL (wa_cons ?_)))))))
  tbr_iter "var"
  refine wa_cons ?_
  tbr_iter "var"
  refine wa_cons ?_
  tbr_iter "var"
  refine wa_nil ⟨x, q8, c, us8, rows, rows, zs, rfl, tf, h8f, hurf, fun r => Iff.rfl, hc, mrow, by omega, nin hrz, tl, fun Hg sg => ⟨_, rfl, iteF (ww_or1 (wt_cmp ?_))⟩⟩
  tbr_iter "var"
  refine w_cmeth T.cr_Table T.cm_Table_of (ok_tab_of T) (hr.mono (by decide)) passL (w_glob (glob_ref T.g_Table) ⟨rfl, wa_cons ?_⟩)
  tbr_iter "var"
  refine wa_cons (w_callTy T.z_tuple (wa_cons ?_))
  tbr_iter "var"
  refine wa_nil (kv_tupleL (SqL.of (sg _ _ h8f)) fun q1 Hh sh nh hh => wa_nil ⟨q1, c, us8, rows, rfl, hc, SqT.of hh, Nat.lt_of_le_of_lt ul8 (by decide), rows_sl hurf (Sl.of (sg.trans sh)), mrow, fun x2 Hi si ni ti => ?_⟩)
  have sgi := sg.trans (sh.trans si)
  obtain ⟨dy, qy, py2, e2, _⟩ := id ti
  have ok2 : rowsOkO (some (c, tabRows rows)) := fun d r2 e => by cases e; exact trow
  refine cv_neO kc.hm T.b_Table___ne__ T.m_Table___eq__ (ok_tab_eqX T) (hr.mono (by decide)) passL (sgi _ _ e1) e2 ⟨x, .ref x2, c, _, some (c, tabRows rows), rfl, tf.same sgi, ⟨x2, rfl, ti⟩, trow, ok2, fun Hj sj => ⟨_, rfl, _, rfl, ?_⟩⟩
  rw [show eqO c (tabRows rows) (some (c, tabRows rows)) = true from decide_eq_true ⟨rfl, rfl⟩]
  refine iteF (wb_nil ?_)
  have sgj := sgi.trans sj
  refine wb_cons (ws_ret (w_and (w_callG (ok_law_both T) hgd hr passL (wa_cons ?_))))
  tbr_iter "var"
  refine wa_cons ?_
  tbr_iter "var"
  refine wa_cons ?_
  tbr_iter "var"
  refine wa_nil ⟨q8, qo, c, us8, ya ++ us9, rows, rowsa ++ rows9, zs, rfl, sgj _ _ h8f, sgj _ _ hof, rows_sl hurf (Sl.of sgj), rows_sl huof (Sl.of sgj), hc, mrow, nrow hzo, by omega, nin hrz, nin hzo, tl, fun Hk sk => ⟨_, rfl, iteT (w_one (w_call (ok_law_others T) (hr.mono (by decide)) passL (wa_cons ?_)))⟩⟩
  tbr_iter "var"
  refine wa_cons ?_
  tbr_iter "var"
  have sgk := sgj.trans sk
  refine wa_nil ⟨q8, c, us8, rows, rfl, sgk _ _ h8f, rows_sl hurf (Sl.of sgk), hc, mrow, by omega, fun Hl sl => ?_⟩
  exact k md Hl (smf.same (sgk.trans sl)) ((sgk.trans sl) _ _ hpf) (by omega)
end
end Ax
end
section
set_option maxHeartbeats 4000000
open PySem PySem.Spec PyProof.Rows L2 Ax
set_option hygiene false in
local macro_rules | `(tactic| tbr_iter "boot") => `(tactic| with_reducible first | exact Ax.b_len | exact Ax.b_all | exact Ax.b_any | exact Ax.b_sorted | exact Ax.b_isinstance | exact Ax.b_abs | exact Ax.b_max | exact Ax.b_min | exact Ax.b_sum | exact Ax.b_repr | exact Ax.b_iter | exact Ax.b_ord | exact Ax.b_chr | exact Ax.b_str | exact Ax.b_int | exact Ax.b_bool | exact Ax.b_tuple | exact Ax.b_list | exact Ax.b_dict | exact Ax.b_set | exact Ax.b_range | exact Ax.b_enumerate | exact Ax.b_zip)
set_option hygiene false in
local macro_rules | `(tactic| tbr_iter "vis") => `(tactic| first | exact Or.inl rfl | exact Or.inr (Or.inl rfl) | exact Or.inr (Or.inr rfl))
set_option hygiene false in
local macro_rules | `(tactic| tbr_iter "w") => `(tactic| first
  | refine wb_cons ?_
  | refine wb_nil ?_
  | refine ws_ret ?_
  | refine ws_if ?_
  | refine ws_sub ?_
  | refine wa_cons ?_
  | refine wa_nil ?_
  | refine w_int ?_
  | refine w_str ?_
  | refine w_bl ?_
  | refine w_non ?_
  | tbr_iter "var"
  | refine w_bin ?_
  | refine w_cmp ?_
  | refine w_chain ?_
  | refine w_and ?_
  | refine w_or ?_
  | refine w_one ?_
  | refine w_not ?_
  | refine w_ix ?_
  | refine w_ifExp ?_
  | refine w_tup ?_
  | refine w_lst ?_
  | refine wt_not ?_
  | refine wt_bool ?_
  | refine ww_and ?_
  | refine ww_and1 ?_
  | refine ww_or ?_
  | refine ww_or1 ?_
  | refine wt_cmp ?_
  | refine wt_val ?_
  | tbr_iter "call"
  | (refine w_glob (by tbr_iter "mg") ?_)
  | (refine w_callB (by tbr_iter "z") ?_)
  | (refine w_callTy (by tbr_iter "z") ?_)
  | (refine w_bltT (by tbr_iter "z") ?_))
set_option hygiene false in
local macro_rules | `(tactic| tbr_iter "blk") => `(tactic| first | exact blkOk_by (by dsimp only [cxOf, envOfC]; decide +kernel))
set_option hygiene false in
local macro_rules | `(tactic| tbr_iter "iff") => `(tactic| first
  | refine iteT ?_
  | refine iteF ?_
  | refine w_if2 (fun _ => ?_) (fun _ => ?_))
set_option hygiene false in
local macro_rules | `(tactic| tbr_iter "sc") => `(tactic| first | omega | decide)
set_option hygiene false in
local macro_rules | `(tactic| tbr_iter "at") => `(tactic| first | exact atI_0 | exact atI_1 | exact atI_2)
set_option hygiene false in
local macro_rules | `(tactic| tbr_iter "sql") => `(tactic| ((try dsimp only [L2.cxOf, L2.Cx.blk]); with_reducible first | assumption | exact SqL.of (by assumption)))
set_option hygiene false in
local macro_rules | `(tactic| tbr_iter "sqt") => `(tactic| ((try dsimp only [L2.cxOf, L2.Cx.blk]); with_reducible first | assumption | exact SqT.of (by assumption)))
set_option hygiene false in
local macro_rules | `(tactic| tbr_iter "v") => `(tactic| first
  | refine bv_add ?_
  | refine bv_sub ?_
  | ((with_reducible show BinV _ .Mult _ _ _ _); refine bv_mul (Or.inl ⟨by tbr_iter "sc", by tbr_iter "sc"⟩) ?_)
  | ((with_reducible show BinV _ .Mult _ _ _ _); refine bv_mul (Or.inr ⟨by tbr_iter "sc", by tbr_iter "sc"⟩) ?_)
  | ((with_reducible show BinV _ .Mod _ _ _ _); refine bv_mod (by tbr_iter "sc") ?_)
  | ((with_reducible show BinV _ .FloorDiv _ _ _ _); refine bv_fdiv ⟨by tbr_iter "sc", by tbr_iter "sc"⟩ ?_)
  | ((with_reducible show BinV _ .Pow _ _ _ _); refine bv_pow ⟨by decide, by decide +kernel⟩ ?_)
  | refine cv_lt ?_
  | refine cv_le ?_
  | refine cv_gt ?_
  | refine cv_ge ?_
  | ((with_reducible show CmpV _ .Eq _ _ _ _); refine cv_eq rfl ?_)
  | ((with_reducible show CmpV _ .NotEq _ _ _ _); refine cv_ne rfl ?_)
  | refine iv_list (by tbr_iter "sql") (by tbr_iter "at") ?_
  | refine iv_tup (by tbr_iter "sqt") (by tbr_iter "at") ?_
  | refine kv_len_seq (Or.inl (by tbr_iter "sql")) ?_
  | refine kv_len_seq (Or.inr (by tbr_iter "sqt")) ?_
  | refine kv_int ?_
  | refine kv_intB ?_
  | refine kv_abs ?_
  | refine kv_max2 rfl ?_
  | refine kv_min2 rfl ?_)
set_option hygiene false in
local macro_rules | `(tactic| tbr_iter "b") => `(tactic| first
  | refine ⟨_, rfl, iteT ?_⟩
  | refine ⟨_, rfl, iteF ?_⟩
  | refine iteT ?_
  | refine iteF ?_)
set_option hygiene false in
local macro_rules | `(tactic| tbr_iter "go") => `(tactic| repeat (first | tbr_iter "w" | tbr_iter "v" | tbr_iter "b"))
set_option hygiene false in
local macro_rules | `(tactic| tbr_iter "nof") => `(tactic| (intro d hd; cases d <;> first | rfl | exact absurd rfl (hd _)))
set_option hygiene false in
local macro_rules | `(tactic| tbr_iter "e1") => `(tactic| first | ((with_reducible show W _ _ _ _ _); tbr_iter "w") | ((with_reducible show WA _ _ _ _ _); tbr_iter "w") | ((with_reducible show WT _ _ _ _ _); tbr_iter "w") | ((with_reducible show WW _ _ _ _ _); tbr_iter "w") | tbr_iter "v")
set_option hygiene false in
local macro_rules | `(tactic| tbr_iter "ex") => `(tactic| repeat (tbr_iter "e1"))
set_option hygiene false in
local macro_rules | `(tactic| tbr_iter "z") => `(tactic| ((try dsimp only [L2.cxOf]); with_reducible first | exact T.z_IndexError | exact T.z_ValueError | exact T.z_abs | exact T.z_all | exact T.z_bool | exact T.z_classmethod | exact T.z_enumerate | exact T.z_int | exact T.z_isinstance | exact T.z_iter | exact T.z_len | exact T.z_list | exact T.z_max | exact T.z_min | exact T.z_property | exact T.z_range | exact T.z_repr | exact T.z_set | exact T.z_sorted | exact T.z_str | exact T.z_tuple))
set_option hygiene false in
local macro_rules | `(tactic| tbr_iter "mg") => `(tactic| ((try dsimp only [L2.cxOf]); with_reducible first | exact T.c_ALPHABET | exact T.c_MAX_LETTERS | exact T.c_MAX_COLUMNS))
namespace Ax
theorem tab_sorted {raw : List (List Str)} (h : raw.Pairwise fun a b => rle a b = true ∧ a ≠ b) : tabRows raw = raw := by
  rw [← tabRows_is, onceL_id (h.imp fun h => h.2), sortRows_id (h.imp fun h => h.1)]
def spLaw01 (K : PySem.W.Frag) : Sp := fun vs H Q _ => ∃ (a : Addr) (ns : List Int), vs = [.ref a] ∧ SqL K H a (ns.map V.int) ∧ ns.length ≤ 63 ∧ ∀ H', Q (.bl true) H'
set_option hygiene false in
local macro_rules | `(tactic| tbr_iter "lt") => `(tactic| repeat (first
  | exact lit_str | exact lit_int | exact lit_bl | exact lit_non | exact lita_nil | refine lita_cons ?_ ?_ | refine lit_tup ?_ | refine lit_lst ?_))
abbrev edgeL : List (List Str) := [["a", "b"], ["b", "a"]]
abbrev edgeR : List (List Str) := [["b", "a"], ["a", "b"], ["b", "a"]]
theorem edge_pw : (edgeL : List (List Str)).Pairwise fun a b => rle a b = true ∧ a ≠ b := by decide +kernel
theorem edge_mem : (∀ r ∈ edgeR, r ∈ edgeL) ∧ ∀ r ∈ edgeL, r ∈ edgeR := by decide +kernel
theorem edge_tab : tabRows edgeR = edgeL := (tabRows_congr fun r => ⟨edge_mem.1 r, edge_mem.2 r⟩).trans (tab_sorted edge_pw)
theorem edge_rows : ∀ r ∈ edgeR, NRow 2 r := by
  have h : ∀ r ∈ edgeR, r.length = 2 ∧ ∀ z ∈ r, isNameS z = true := by decide +kernel
  exact h
theorem one_tab : tabRows [([] : List Str)] = [[]] := tab_sorted (List.pairwise_singleton _ _)
theorem two_tab : tabRows [([] : List Str), []] = [[]] := (tabRows_congr fun r => by simp).trans one_tab
theorem nil_row : ∀ r ∈ [([] : List Str), []], NRow 0 r := fun r hr => by
  have e : r = [] := by simpa using hr
  rw [e]
  exact ⟨rfl, fun z hz => absurd hz List.not_mem_nil⟩
theorem nil_row1 : ∀ r ∈ [([] : List Str)], NRow 0 r := fun r hr => by
  rw [List.mem_singleton.mp hr]
  exact ⟨rfl, fun z hz => absurd hz List.not_mem_nil⟩
def toldE : PyData := .list [.tuple [.tuple [.str "a", .str "b"], .tuple [.str "b", .str "a"]], .tuple [], .tuple [.tuple []], .bool true, .str "table of 2 columns, 2 rows"]
theorem told_fineE : SeqAt.shaped toldE = true ∧ PyData.eqv toldE toldE = true ∧ tabText 2 2 = "table of 2 columns, 2 rows" := by decide +kernel
section
variable {P : Program} {w : World} {K : PySem.W.Frag} {mg : Str → Option Value} {base : Heap}
set_option hygiene false in
local macro_rules | `(tactic| tbr_iter "var") => `(tactic| first | ((with_reducible show W _ (.Name "script" _) _ _ _); refine w_var 0 rfl (by tbr_iter "vis") rfl ?_) | ((with_reducible show W _ (.Name "spot" _) _ _ _); refine w_var 1 rfl (by tbr_iter "vis") rfl ?_) | ((with_reducible show W _ (.Name "dice" _) _ _ _); refine w_var 2 rfl (by tbr_iter "vis") rfl ?_) | ((with_reducible show W _ (.Name "turn" _) _ _ _); refine w_var 3 rfl (by tbr_iter "vis") rfl ?_) | ((with_reducible show W _ (.Name "edge" _) _ _ _); refine w_var 4 rfl (by tbr_iter "vis") rfl ?_) | ((with_reducible show W _ (.Name "told" _) _ _ _); refine w_var 5 rfl (by tbr_iter "vis") rfl ?_))
set_option hygiene false in
local macro_rules | `(tactic| tbr_iter "set") => `(tactic| first | ((with_reducible show WB _ (.Assign [.Name "script" _] _ _ :: _) _ _ _); refine wb_cons (ws_set 0 ?_ rfl nd)) | ((with_reducible show WB _ (.Assign [.Name "spot" _] _ _ :: _) _ _ _); refine wb_cons (ws_set 1 ?_ rfl nd)) | ((with_reducible show WB _ (.Assign [.Name "dice" _] _ _ :: _) _ _ _); refine wb_cons (ws_set 2 ?_ rfl nd)) | ((with_reducible show WB _ (.Assign [.Name "turn" _] _ _ :: _) _ _ _); refine wb_cons (ws_set 3 ?_ rfl nd)) | ((with_reducible show WB _ (.Assign [.Name "edge" _] _ _ :: _) _ _ _); refine wb_cons (ws_set 4 ?_ rfl nd)) | ((with_reducible show WB _ (.Assign [.Name "told" _] _ _ :: _) _ _ _); refine wb_cons (ws_set 5 ?_ rfl nd)))
theorem ok_law (T : Txt K mg) {f : Addr} {fd : FuncData} (F : FunD K "law" "law" (defArgs s_law) (defBody s_law) (defScope s_law) [] [] f fd) : FnG P w K mg base 13 f ["script"] (spLaw01 K) := by
  refine fnG_of F sc_law (fun _ _ _ _ _ _ us hl => match us, hl with | [_], _ => rfl) (fun vs H Q E h => ?_) fun cdv A outer s H vs Q E hgd hr h => ?_
  · obtain ⟨a, ns, rfl, _⟩ := h; rfl
  obtain ⟨a, ns, rfl, hs, hl, k⟩ := h
  have nd := sc_law.nd
  have hu := room64 hr
  have kc := T.kc_Table
  refine wb_cons (ws_for 1 (wi_range1 T.z_range ?_) rfl nd (passes_of rfl))
  tbr_iter "go"
  refine ⟨_, rfl, by split <;> split <;> omega, by split <;> split <;> omega, ?_⟩
  generalize hN : (if (if ((ns.map V.int).length : Int) < 6 then ((ns.map V.int).length : Int) else 6) > 1 then (if ((ns.map V.int).length : Int) < 6 then ((ns.map V.int).length : Int) else 6) else 1 : Int).toNat = N
  have hN5 : N ≤ 6 := by rw [← hN]; split <;> split <;> omega
  clear hN
  refine ⟨N, _, _, walk_range, fun i σ Hc => ∃ c1 c2 c3 c4 c5, σ = [some (.ref a), c1, c2, c3, c4, c5] ∧ Same H Hc, ⟨_, _, _, _, _, rfl, Same.refl _⟩, fun _ _ _ _ _ => trivial, ?_, ?_⟩
  · rintro i v σ Hx Hc hi ⟨c1, c2, c3, c4, c5, rfl, sc⟩ ⟨e, rfl⟩
    subst e
    refine wb_cons (ws_set 2 (w_call (ok_law_dice T) (hr.mono (by decide)) passL ?_) rfl nd)
    tbr_iter "go"
    refine ⟨a, ns, i, by show [V.ref a, V.int (0 + (i : Int))] = _; rw [Int.zero_add], sc.seq hs, hl, by omega, fun p H5 s5 n5 hp5 => ?_⟩
    refine wb_cons (ws_for 3 (wi_range1 T.z_range ?_) rfl nd (passes_of rfl))
    tbr_iter "go"
    refine ⟨4, rfl, by omega, by omega, 4, _, _, walk_range (lo := 0) (n := 4), fun j σ Hd => ∃ d1 d3 d4 d5 m, σ = [some (.ref a), d1, some (.ref p), d3, d4, d5] ∧ Sm p H5 Hd ∧ Hd p = some (DiceO p m) ∧ m ≤ 1000 * j, ⟨_, _, _, _, 0, rfl, Sm.refl hp5, hp5, by omega⟩, fun _ _ _ _ _ => trivial, ?_, ?_⟩
    · rintro j v σ Hy Hd hj ⟨d1, d3, d4, d5, m, rfl, sm, hpd, hm⟩ ⟨e, rfl⟩
      subst e
      refine wb_cons (ws_if (wt_not (wt_val (w_callG (ok_law_rightT T) hgd hr passL ?_))))
      tbr_iter "go"
      exact ⟨p, m, rfl, hpd, by omega, fun m2 H6 s6 hp6 hm2 => ⟨_, rfl, iteF (wb_nil (wb_nil ⟨_, _, _, _, m2, rfl, sm.trans s6, hp6, by omega⟩))⟩⟩
    · rintro σ Hd ⟨d1, d3, d4, d5, m, rfl, sm, hpd, hm⟩
      refine wb_nil ⟨_, _, _, _, _, rfl, fun b o hb => ?_⟩
      have hb5 := (sc.trans s5) b o hb
      refine sm.keep b o hb5 fun z => ?_
      have := sc b o hb
      rw [z, n5] at this
      cases this
  · rintro σ Hc ⟨c1, c2, c3, c4, c5, rfl, sc⟩
    obtain ⟨fr, FR, BR⟩ := ok_tab_rows (P := P) (w := w) (base := base) T
    refine wb_cons (ws_set 4 (w_make T.k_Table (ok_tab_init T) (hr.mono (by decide)) passL (w_glob (glob_ref T.g_Table) ⟨rfl, wa_cons (w_int (wa_cons (w_tup (wa_cons (w_str (wa_cons (w_str (wa_nil ⟨two_line, fun p1 H1 s1 n1 h1 => ?_⟩))))))))⟩)) rfl nd)
    refine wa_cons (w_tup (wa_cons (w_str (wa_cons (w_str (wa_nil ⟨two_line, fun p2 H2 s2 n2 h2 => wa_cons (w_tup (wa_cons (w_str (wa_cons (w_str (wa_nil ⟨two_line, fun p3 H3 s3 n3 h3 => wa_nil ?_⟩))))))⟩))))))
    refine tabI_make2 (c := 2) (us := [.ref p1, .ref p2, .ref p3]) (raw := edgeR) (by omega) (show 3 < sizeLine by decide) (.cons ⟨p1, rfl, (s2.trans s3) _ _ h1⟩ (.cons ⟨p2, rfl, s3 _ _ h2⟩ (.cons ⟨p3, rfl, h3⟩ .nil))) edge_rows fun x1 H4 s4 n4 t1 => ?_
    rw [edge_tab] at t1
    obtain ⟨dx, qx, px, e1, _⟩ := id t1
    refine wb_cons (ws_set 5 (w_lst (wa_cons (w_prop kc.c T.p_Table_rows FR (hr.mono (by decide)) BR passL ?_))) rfl nd)
    tbr_iter "go"
    refine ⟨x1, dx, _, rfl, e1, x1, 2, _, rfl, t1, fun q1 u1 f1 g1 => wa_cons (w_prop kc.c T.p_Table_rows FR (hr.mono (by decide)) BR passL ?_)⟩
    refine w_make T.k_Table (ok_tab_init T) (hr.mono (by decide)) passL (w_glob (glob_ref T.g_Table) ⟨rfl, wa_cons (w_int (wa_nil ?_))⟩)
    refine tabI_make2 (c := 0) (us := []) (raw := []) (by omega) (by decide) .nil (fun r hr => absurd hr List.not_mem_nil) fun x2 H5 s5 n5 t2 => ?_
    rw [tab_nil] at t2
    obtain ⟨dx2, qx2, px2, e2, _⟩ := id t2
    refine ⟨x2, dx2, _, rfl, e2, x2, 0, _, rfl, t2, fun q2 u2 f2 g2 => wa_cons (w_prop kc.c T.p_Table_rows FR (hr.mono (by decide)) BR passL ?_)⟩
    refine w_make T.k_Table (ok_tab_init T) (hr.mono (by decide)) passL (w_glob (glob_ref T.g_Table) ⟨rfl, wa_cons (w_int (wa_cons (w_tup (wa_nil ⟨zero_line, fun pe H6 s6 n6 h6 => wa_nil ?_⟩))))⟩)
    refine tabI_make2 (c := 0) (us := [.ref pe]) (raw := [[]]) (by omega) (show 1 < sizeLine by decide) (.one ⟨pe, rfl, h6⟩) nil_row1 fun x3 H7 s7 n7 t3 => ?_
    rw [one_tab] at t3
    obtain ⟨dx3, qx3, px3, e3, _⟩ := id t3
    refine ⟨x3, dx3, _, rfl, e3, x3, 0, _, rfl, t3, fun q3 u3 f3 g3 => wa_cons (w_cmp ?_)⟩
    refine w_make T.k_Table (ok_tab_init T) (hr.mono (by decide)) passL (w_glob (glob_ref T.g_Table) ⟨rfl, wa_cons (w_int (wa_cons (w_tup (wa_nil ⟨zero_line, fun pf H8 s8 n8 h8 => wa_cons (w_tup (wa_nil ⟨zero_line, fun pg H9 s9 n9 h9 => wa_nil ?_⟩))⟩))))⟩)
    refine tabI_make2 (c := 0) (us := [.ref pf, .ref pg]) (raw := [[], []]) (by omega) (show 2 < sizeLine by decide) (.cons ⟨pf, rfl, s9 _ _ h8⟩ (.one ⟨pg, rfl, h9⟩)) nil_row fun x4 Ha sa na t4 => ?_
    rw [two_tab] at t4
    refine w_cmeth T.cr_Table T.cm_Table_of (ok_tab_of T) (hr.mono (by decide)) passL (w_glob (glob_ref T.g_Table) ⟨rfl, wa_cons (w_int (wa_cons (w_tup (wa_cons (w_tup (wa_nil ⟨zero_line, fun ph Hb sb nb hb => wa_nil ⟨one_line, fun pi Hc2 sc2 nc2 hc2 => wa_nil ?_⟩⟩))))))⟩)
    refine ⟨pi, 0, [.ref ph], [[]], rfl, by omega, SqT.of hc2, show 1 < sizeLine by decide, .one ⟨ph, rfl, sc2 _ _ hb⟩, nil_row1, fun x5 Hd sd nd5 t5 => ?_⟩
    rw [one_tab] at t5
    have sbd := sb.trans (sc2.trans sd)
    have t4 := t4.same sbd
    obtain ⟨dx4, qx4, px4, e4, _⟩ := id t4
    obtain ⟨dx5, qx5, px5, e5, _⟩ := id t5
    have okE : rowsOkO (some (0, [[]])) := fun d r2 e => by cases e; exact nil_row1
    refine cv_eqO T.m_Table___eq__ (ok_tab_eqX T) (hr.mono (by decide)) passL e4 e5 ⟨x4, .ref x5, 0, _, some (0, [[]]), rfl, t4, ⟨x5, rfl, t5⟩, nil_row1, okE, fun He se => ⟨_, rfl, wa_cons (w_callTy T.z_str (wa_cons ?_))⟩⟩
    rw [show eqO 0 [[]] (some (0, [[]])) = true by decide]
    have s7e := s8.trans (s9.trans (sa.trans (sbd.trans se)))
    have s5e := s6.trans (s7.trans s7e)
    have s4e := s5.trans s5e
    tbr_iter "var"
    refine wa_nil (kv_strO T.m_Table___str__ (ok_tab_str T) (hr.mono (by decide)) passL (s4e _ _ e1) ⟨x1, 2, _, rfl, t1.same s4e, by omega, by decide, fun Hf sf => ⟨_, rfl, wa_nil ⟨five_line, fun pt Hg sg ng hg => ?_⟩⟩⟩)
    have hg' : Hg pt = some (.lst [.ref q1, .ref q2, .ref q3, .bl true, .str "table of 2 columns, 2 rows"]) := by
      rw [hg, ← told_fineE.2.2]
      rfl
    refine wb_cons (ws_ret (w_cmp ?_))
    tbr_iter "var"
    refine Lit.run (d := toldE) (H0 := Hg) (by unfold toldE; tbr_iter "lt") _ _ (Same.refl _) fun v Hh sh hd => ?_
    have sfh := sf.trans (sg.trans sh)
    have dp : Dp K Hh (.ref pt) toldE := .lst (SqL.of (sh _ _ hg')) (.cons (dp_rows (rows := edgeL) ((s4e.trans sfh) _ _ f1) (rows_sl g1 (Sl.of (s4e.trans sfh)))) (.cons (dp_rows (rows := []) ((s5e.trans sfh) _ _ f2) (rows_sl g2 (Sl.of (s5e.trans sfh))))
      (.cons (dp_rows (rows := [[]]) ((s7e.trans sfh) _ _ f3) (rows_sl g3 (Sl.of (s7e.trans sfh)))) (.cons (.bl _) (.cons (.str _) .nil)))))
    refine cv_eqD hu dp hd told_fineE.1 told_fineE.1 ?_
    rw [told_fineE.2.1]
    exact k Hh
end
end Ax
end
section
set_option maxHeartbeats 0
namespace Ax
open PySem PySem.Spec PyProof.Rows L2
theorem law_at {w : World} {K : PySem.W.Frag} {h : Heap} {mg : Str → Option Value} {fa : Addr} (X : K.In h) (G : h.Ns mainGlobals mg) (hfa : mg ("law" : Str) = some (.ref fa)) (c : He5.SaysA faL fnL K) (m : exA K = true) : LawAtG PySem.Challenge.rw_askable_k01_tables w K 13 63 "script" mg fa := by
  obtain ⟨m1, m2⟩ := Bool.and_eq_true_iff.mp m
  have T := txt_of X G c m1 m2
  obtain ⟨fd, F⟩ := c.def_ 20 (d := fnL[20]) rfl
  have e := hfa.symm.trans (He.glo_ok X G (c.fact 20 (f := .glo "law") rfl))
  cases e
  exact ⟨spLaw01 K, fun H a ns hl hs => ⟨a, ns, rfl, hs, hl, fun _ => rfl⟩, fun base Kb Gb => ok_law T F⟩
end Ax
open PySem PySem.W PySem.Calls PyProof.Rows
theorem PySem.Challenge.cw_askable_k01_tables_holds : PySem.Challenge.rw_askable_k01_tables.Holds := by
  w_on; o_law
  refine HandSHeadRun.head_any (r := OpenLaw.row PySem.Challenge.rw_askable_k01_tables) (q := view (OpenLaw.row PySem.Challenge.rw_askable_k01_tables).prog [31]) (H := Ax.hk) (ob := Ax.ob) (M := 9000) (loose := Ax.loose) (d := HandSHeadRun.topDef (OpenLaw.row PySem.Challenge.rw_askable_k01_tables).prog 31) (kwd := []) Ax.ob_eq
    (by kernel_rfl) (fun s => by kernel_rfl) Ax.run (by kernel_rfl) (by kernel_rfl) (by kernel_rfl) (by rfl) (by first | assumption | decide +kernel) (by decide +kernel) ⟨rfl, rfl, rfl, rfl, rfl, by decide +kernel⟩ ?hw ?hc
  case hw => w_witness2
  case hc =>
    refine Ax.walk_G (l := PySem.Challenge.rw_askable_k01_tables) (n := 63) (k := 13) (x := "script") rfl (by decide) (by kernel_rfl) ⟨rfl, by decide, by decide⟩ ?F
    case F =>
      intro w mg fa h Y G hmg0
      obtain ⟨K, KX, c, m⟩ := Y
      have hmg : mg ("law" : PySem.Str) = some (.ref fa) := by
        have e : (HandSHeadRun.topDef (OpenLaw.row PySem.Challenge.rw_askable_k01_tables).prog 31).name = ("law" : PySem.Str) := by kernel_rfl
        rw [← e]
        exact hmg0
      exact ⟨K, KX, Ax.law_at KX G hmg c m⟩
end
