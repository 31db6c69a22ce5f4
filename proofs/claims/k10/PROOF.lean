import PyProof.Rows.All
import Wide.All
import OpenK.AllK
import Wide.FinOn
import HandS.ForMost
import HandS.IsInst
import HandS.Defaults
import HandS.More
import HandS.Head0
import HandS.Head1
import HandS.Head2
import HandS.HeadEnd
import HandS.HeadHook1
import HandS.HeadHook2
import HandS.HeadHook3
import HandS.HeadHook4
import PySem.Challenge.RW_placedanyhow_k10_values_of_expressions
set_option Elab.async false
set_option linter.all false
set_option maxRecDepth 100000
set_option maxHeartbeats 4000000
/-! Lb: readings that compute, callables by name, data in the heap, the drawing of numbers. Knows no program. -/
namespace Lb
open PySem PySem.Spec PyProof.Rows L2

/-! ### weaker readings -/
section
variable {X : Cx} {e : Expr} {st : Stmt}
theorem pe_imp {t u : TE} (h : PE X e t) (k : ∀ σ H Q, u σ H Q → t σ H Q) : PE X e u := ⟨fun pins s σ H Q I hw => h.run pins s σ H Q I (k σ H Q hw)⟩
theorem pt_imp {t u : TT} (h : PT X e t) (k : ∀ σ H Q, u σ H Q → t σ H Q) : PT X e u := ⟨fun pins s σ H Q I hw => h.run pins s σ H Q I (k σ H Q hw)⟩
theorem ps_imp {t u : TS} (h : PS X st t) (k : ∀ D σ H, u D σ H → t D σ H) : PS X st u := ⟨fun pins s σ H D I hw => h.run pins s σ H D I (k D σ H hw)⟩
end

/-- a reading, made monotone -/
def upE (t : TE) : TE := fun σ H Q => ∃ R : VK, t σ H R ∧ ∀ x H', R x H' → Q x H'
def upT (t : TT) : TT := fun σ H Q => ∃ R : Bool → Hp → Prop, t σ H R ∧ ∀ x H', R x H' → Q x H'
theorem pe_up {X : Cx} {e : Expr} {t : TE} (h : PE X e t) : PE X e (upE t) := ⟨fun pins s σ H Q I ⟨R, h1, h2⟩ => thn (h.run pins s σ H R I h1) fun _ _ ⟨v, H', I', r, q⟩ => ⟨v, H', I', r, h2 v H' q⟩⟩
theorem pt_up {X : Cx} {e : Expr} {t : TT} (h : PT X e t) : PT X e (upT t) := ⟨fun pins s σ H Q I ⟨R, h1, h2⟩ => thn (h.run pins s σ H R I h1) fun _ _ ⟨H', I', q⟩ => ⟨H', I', h2 _ H' q⟩⟩

/-! ### callables: a def, a method, a class, each with its promise -/
structure Cal (P : Program) (w : World) (K : PySem.W.Frag) (mg : Str → Option Value) (base : Heap) (x : Str) (k : Nat) (ps : List Str) (sp : Sp) : Prop where
  ex : ∃ (f : Addr) (fd : FuncData), mg x = some (.ref f) ∧ PySem.W.keepIn K (.ref f) = true ∧ Binds K fd ps [] ∧ FnOk P w K mg base CX0 k f fd ps sp
structure CalM (P : Program) (w : World) (K : PySem.W.Frag) (mg : Str → Option Value) (base : Heap) (C : Addr) (m : Str) (k : Nat) (ps : List Str) (sp : Sp) : Prop where
  ex : ∃ (f : Addr) (fd : FuncData), Cls K C ∧ Meth K C m f ∧ Binds K fd ps [] ∧ FnOk P w K mg base CX0 k f fd ps sp
structure CalC (P : Program) (w : World) (K : PySem.W.Frag) (mg : Str → Option Value) (base : Heap) (x : Str) (C : Addr) (k : Nat) (ps : List Str) (sp : Sp) : Prop where
  ex : ∃ (f : Addr) (fd : FuncData), mg x = some (.ref C) ∧ Mk K C f ∧ Binds K fd ps [] ∧ FnOk P w K mg base CX0 k f fd ps sp
/-- a name of the module that holds a known value -/
structure GV (mg : Str → Option Value) (x : Str) (v : V) : Prop where
  ex : ∃ u, mg x = some u ∧ RelV v u
section
variable {X : Cx} {x m : Str} {C : Addr} {p pos apos : Pos} {o e : Expr} {es : List Expr} {ta : TE} {t : TA} {k : Nat} {ps : List Str} {sp : Sp} {v : V}
theorem pe_gv (c : GV X.mg x v) (hg : Gl X x) (hd : (x == ("__debug__" : Str)) = false := by decide) : PE X (.Name x pos) (tC v) := by
  obtain ⟨u, hm, r⟩ := c.ex
  exact pe_glob hg hm r hd
theorem pe_cal (c : Cal X.prog X.w X.K X.mg X.base x k ps sp) (hr : Room k X.A) (hg : Gl X x) (ha : PA X (e :: es) t) (hdb : (x == ("__debug__" : Str)) = false := by decide)
    (he : starEach (e :: es) X.env = (false, eval e X.env) :: starEach es X.env := by rfl) (hpl : (backTo pos (starEach es X.env)).any (·.1) = false := by rfl) : PE X (.Call (.Name x p) (e :: es) [] pos) (tCall sp [] E0 t) := by
  obtain ⟨f, fd, hm, hk, hb, F⟩ := c.ex
  exact pe_call F hr hg hm hk hb .nil pass0 ha hdb he hpl
theorem pe_cal0 (c : Cal X.prog X.w X.K X.mg X.base x k ps sp) (hr : Room k X.A) (hg : Gl X x) (hdb : (x == ("__debug__" : Str)) = false := by decide) : PE X (.Call (.Name x p) [] [] pos) (tCall sp [] E0 tNil) := by
  obtain ⟨f, fd, hm, hk, hb, F⟩ := c.ex
  exact pe_call0 F hr hg hm hk hb .nil pass0 hdb
theorem pe_calM {pl : Sem Bool} (he : PE X o ta) (c : CalM X.prog X.w X.K X.mg X.base C m k ps sp) (hr : Room k X.A) (ha : PA X (e :: es) t)
    (hst : starEach (e :: es) X.env = (false, eval e X.env) :: starEach es X.env := by rfl) (hpl : (backTo pos (starEach es X.env)).any (·.1) = false := by rfl)
    (ht : eval (.Call (.Attribute o m apos) (e :: es) [] pos) X.env = (do
      let ov ← eval o X.env
      standAt apos.atName
      let (f, first) ← holding [ov] (getMethod ov m pl)
      callWith pos f first (backTo pos (starEach (e :: es) X.env)) (backToKw pos (keywordEach [] X.env))) := by rfl) : PE X (.Call (.Attribute o m apos) (e :: es) [] pos) (tMeth C m sp [] E0 ta t) := by
  obtain ⟨f, fd, hc, hm, hb, F⟩ := c.ex
  exact pe_meth he hc hm F hr hb .nil pass0 ha hst hpl ht
theorem pe_calM0 {pl : Sem Bool} (he : PE X o ta) (c : CalM X.prog X.w X.K X.mg X.base C m k ps sp) (hr : Room k X.A)
    (ht : eval (.Call (.Attribute o m apos) [] [] pos) X.env = (do
      let ov ← eval o X.env
      standAt apos.atName
      let (f, first) ← holding [ov] (getMethod ov m pl)
      callWith pos f first (backTo pos (starEach [] X.env)) (backToKw pos (keywordEach [] X.env))) := by rfl) : PE X (.Call (.Attribute o m apos) [] [] pos) (tMeth C m sp [] E0 ta tNil) := by
  obtain ⟨f, fd, hc, hm, hb, F⟩ := c.ex
  exact pe_meth0 he hc hm F hr hb .nil pass0 ht
theorem pe_calC (c : CalC X.prog X.w X.K X.mg X.base x C k ps sp) (hr : Room (k + 1) X.A) (hg : Gl X x) (ha : PA X (e :: es) t) (hdb : (x == ("__debug__" : Str)) = false := by decide)
    (he : starEach (e :: es) X.env = (false, eval e X.env) :: starEach es X.env := by rfl) (hpl : (backTo pos (starEach es X.env)).any (·.1) = false := by rfl) : PE X (.Call (.Name x p) (e :: es) [] pos) (tMake C sp [] E0 t) := by
  obtain ⟨f, fd, hm, M, hb, F⟩ := c.ex
  exact pe_make M F hr hg hm hb .nil pass0 ha hdb he hpl
theorem pe_calC0 (c : CalC X.prog X.w X.K X.mg X.base x C k ps sp) (hr : Room (k + 1) X.A) (hg : Gl X x) (hdb : (x == ("__debug__" : Str)) = false := by decide) : PE X (.Call (.Name x p) [] [] pos) (tMake C sp [] E0 tNil) := by
  obtain ⟨f, fd, hm, M, hb, F⟩ := c.ex
  exact pe_make0 M F hr hg hm hb .nil pass0 hdb
end

/-! ### readings that compute -/
def rAddA : R2 := fun x y H Q => match x, y with
  | .int a, .int b => Q (.int (a + b)) H
  | .str a, .str b => a.length + b.length ≤ sizeLine ∧ Q (.str (a ++ b)) H
  | .ref p, .ref q => (match H p, H q with
    | some (.lst xs), some (.lst ys) => xs.length + ys.length ≤ sizeLine ∧ ∀ r, H r = none → Q (.ref r) (upd H r (.lst (xs ++ ys)))
    | _, _ => False)
  | _, _ => False
def rMulA : R2 := fun x y H Q => match x, y with
  | .int a, .int b => CMul a b ∧ Q (.int (a * b)) H
  | .ref p, .int k => (match H p with
    | some (.lst xs) => -(2 ^ 63) ≤ k ∧ k < 2 ^ 63 ∧ xs.length * k.toNat ≤ sizeLine ∧ ∀ r, H r = none → Q (.ref r) (upd H r (.lst (List.replicate k.toNat xs).flatten))
    | _ => False)
  | _, _ => False
def eqF : V → V → Option Bool
  | .int a, .int b => some (decide (a = b))
  | .str a, .str b => some (decide (a = b))
  | .bl a, .bl b => some (decide (a = b))
  | .non, .non => some true
  | .non, .int _ => some false
  | .int _, .non => some false
  | .non, .str _ => some false
  | .str _, .non => some false
  | .non, .bl _ => some false
  | .bl _, .non => some false
  | .int _, .str _ => some false
  | .str _, .int _ => some false
  | _, _ => none
def rEqA (K : PySem.W.Frag) : R2 := fun x y H Q => match eqF x y with
  | some b => Q (.bl b) H
  | none => rEqD K x y H Q
def rNeA (K : PySem.W.Frag) : R2 := fun x y H Q => match eqF x y with
  | some b => Q (.bl (!b)) H
  | none => rNeD K x y H Q
def rIsN : R2 := fun x y H Q => y = .non ∧ Q (.bl (decide (x = .non))) H
def rNotN : R2 := fun x y H Q => y = .non ∧ Q (.bl (!decide (x = .non))) H
/-- an item of a list, a tuple, a text -/
def rIxA : R2 := fun x y H Q => match x, y with
  | .ref p, .int i => (match H p with
    | some (.lst xs) => ∃ v, atI xs i = some v ∧ Q v H
    | some (.tup xs) => ∃ v, atI xs i = some v ∧ Q v H
    | _ => False)
  | .str z, .int i => z.length ≤ sizeLine ∧ ∃ c, atI z.cps.toList i = some c ∧ Q (.str ⟨#[c]⟩) H
  | _, _ => False
def rSlA : V → Option Int → Option Int → Hp → VK → Prop := fun x lo hi H Q => match x with
  | .ref p => (match H p with
    | some (.lst xs) => ∀ q, H q = none → Q (.ref q) (upd H q (.lst (cutV xs lo hi)))
    | some (.tup xs) => ¬ (HT.sIx xs.length 0 lo = 0 ∧ HT.sIx xs.length xs.length hi = xs.length) ∧ ∀ q, H q = none → Q (.ref q) (upd H q (.tup (cutV xs lo hi)))
    | _ => False)
  | _ => False
def rLenA : List V → Hp → VK → Prop := fun vs H Q => match vs with
  | [.str y] => y.length ≤ sizeLine ∧ Q (.int y.length) H
  | [.ref p] => (match H p with
    | some (.lst xs) => Q (.int xs.length) H
    | some (.tup xs) => Q (.int xs.length) H
    | some (.dK kvs) => Q (.int kvs.length) H
    | _ => False)
  | _ => False
def rIntA : List V → Hp → VK → Prop := fun vs H Q => match vs with
  | [.int i] => Q (.int i) H
  | [.bl k] => Q (.int (if k = true then 1 else 0)) H
  | _ => False
def rAbsA : List V → Hp → VK → Prop := fun vs H Q => match vs with
  | [.int i] => Q (.int (if i < 0 then -i else i)) H
  | _ => False
def rListA : List V → Hp → VK → Prop := fun vs H Q => match vs with
  | [.ref p] => (match H p with
    | some (.lst xs) => ∀ l, H l = none → Q (.ref l) (upd H l (.lst xs))
    | some (.tup xs) => ∀ l, H l = none → Q (.ref l) (upd H l (.lst xs))
    | _ => False)
  | _ => False
def rTupA : List V → Hp → VK → Prop := fun vs H Q => match vs with
  | [.ref p] => (match H p with
    | some (.lst xs) => ∀ l, H l = none → Q (.ref l) (upd H l (.tup xs))
    | some (.tup _) => Q (.ref p) H
    | _ => False)
  | _ => False
def tyN (x : V) (H : Hp) : Option String := match x with
  | .non => some "NoneType"
  | .bl _ => some "bool"
  | .int _ => some "int"
  | .str _ => some "str"
  | .ref p => (match H p with
    | some (.lst _) => some "list"
    | some (.tup _) => some "tuple"
    | some (.dK _) => some "dict"
    | some (.dT _) => some "dict"
    | _ => none)
  | _ => none
def rIsiA : List V → Hp → VK → Prop := fun vs H Q => match vs with
  | [x, .ty T] => (match tyN x H with
    | some t => ∃ b, kitB t T = some b ∧ Q (.bl b) H
    | none => False)
  | _ => False
def isL (x : V) (H : Hp) : Prop := match x with
  | .ref p => (match H p with
    | some (.lst _) => True
    | _ => False)
  | _ => False
/-- a method of a list -/
def tBML (r : V → List V → Hp → VK → Prop) (to : TE) (t : TA) : TE := fun σ H Q => to σ H fun x H1 => isL x H1 ∧ t σ H1 fun xs H2 => r x xs H2 Q
def rAppA : V → List V → Hp → VK → Prop := fun x vs H Q => match x, vs with
  | .ref l, [y] => (match H l with
    | some (.lst xs) => xs.length < sizeLine ∧ Q .non (upd H l (.lst (xs ++ [y])))
    | _ => False)
  | _, _ => False
def rExtA : V → List V → Hp → VK → Prop := fun x vs H Q => match x, vs with
  | .ref l, [.ref q] => (match H l, H q with
    | some (.lst xs), some (.lst ys) => xs.length + ys.length ≤ sizeLine ∧ Q .non (upd H l (.lst (xs ++ ys)))
    | _, _ => False)
  | _, _ => False
def rPopL : V → List V → Hp → VK → Prop := fun x vs H Q => match x, vs with
  | .ref l, [] => (match H l with
    | some (.lst xs) => ∃ y, xs[xs.length - 1]? = some y ∧ Q y (upd H l (.lst xs.dropLast))
    | _ => False)
  | _, _ => False
def rPopI : V → List V → Hp → VK → Prop := fun x vs H Q => match x, vs with
  | .ref l, [.int i] => (match H l with
    | some (.lst xs) => ∃ (k : Nat) (y : V), i = (k : Int) ∧ k < 2 ^ 62 ∧ xs[k]? = some y ∧ Q y (upd H l (.lst (xs.eraseIdx k)))
    | _ => False)
  | _, _ => False
def rSetA : TSet := fun o i v H Q => match o, i with
  | .ref p, .int k => (match H p with
    | some (.lst xs) => ∃ j, ixN xs.length k = some j ∧ Q (upd H p (.lst (xs.set j v)))
    | _ => False)
  | _, _ => False
section
variable {X : Cx}
theorem op_addA : OpR X (binaryOp .Add) rAddA := by
  intro pins s σ H x y v u Q I rx ry h
  unfold rAddA at h
  split at h
  · exact op_add pins s σ H _ _ v u Q I rx ry ⟨_, _, rfl, rfl, h⟩
  · exact op_add_str pins s σ H _ _ v u Q I rx ry ⟨_, _, rfl, rfl, h⟩
  · split at h
    · rename_i h1 h2
      exact op_cat pins s σ H _ _ v u Q I rx ry ⟨_, _, _, _, rfl, rfl, h1, h2, h⟩
    · exact h.elim
  · exact h.elim
theorem op_mulA : OpR X (binaryOp .Mult) rMulA := by
  intro pins s σ H x y v u Q I rx ry h
  unfold rMulA at h
  split at h
  · exact op_mul pins s σ H _ _ v u Q I rx ry ⟨_, _, rfl, rfl, h⟩
  · split at h
    · rename_i h1
      exact op_rep pins s σ H _ _ v u Q I rx ry ⟨_, _, _, rfl, rfl, h1, h⟩
    · exact h.elim
  · exact h.elim
theorem eqF_ok {x y : V} {b : Bool} (h : eqF x y = some b) : scal x y = true ∧ decide (x = y) = b := by
  cases x <;> cases y <;> simp only [eqF, Option.some.injEq, reduceCtorEq] at h <;> (subst h; refine ⟨rfl, ?_⟩; simp)
theorem op_eqA (hu : X.A.units + 64 < cLine) : OpR X (compareOp .Eq) (rEqA X.K) := by
  intro pins s σ H x y v u Q I rx ry h
  unfold rEqA at h
  split at h
  · rename_i b e
    obtain ⟨h1, h2⟩ := eqF_ok e
    exact op_eq pins s σ H x y v u Q I rx ry ⟨h1, by rw [h2]; exact h⟩
  · exact op_eqD hu pins s σ H x y v u Q I rx ry h
theorem op_neA (hu : X.A.units + 64 < cLine) : OpR X (compareOp .NotEq) (rNeA X.K) := by
  intro pins s σ H x y v u Q I rx ry h
  unfold rNeA at h
  split at h
  · rename_i b e
    obtain ⟨h1, h2⟩ := eqF_ok e
    exact op_ne pins s σ H x y v u Q I rx ry ⟨h1, by rw [h2]; exact h⟩
  · exact op_neD hu pins s σ H x y v u Q I rx ry h
theorem op_isNA : OpR X (compareOp .Is) rIsN := op_isN
theorem op_notNA : OpR X (compareOp .IsNot) rNotN := op_notN
theorem ix_A : IxR X rIxA := by
  intro value slice pins s σ H x y v u Q I rx ry h hs
  unfold rIxA at h
  split at h
  · split at h
    · rename_i h1
      obtain ⟨w, h2, h3⟩ := h
      exact ix_list value slice pins s σ H _ _ v u Q I rx ry ⟨_, _, _, _, rfl, rfl, SqL.of h1, h2, h3⟩ hs
    · rename_i h1
      obtain ⟨w, h2, h3⟩ := h
      exact ix_tup value slice pins s σ H _ _ v u Q I rx ry ⟨_, _, _, _, rfl, rfl, SqT.of h1, h2, h3⟩ hs
    · exact h.elim
  · obtain ⟨h1, c, h2, h3⟩ := h
    exact ix_str value slice pins s σ H _ _ v u Q I rx ry ⟨_, _, _, rfl, rfl, h1, h2, h3⟩ hs
  · exact h.elim
theorem sl_A : SlR X rSlA := by
  intro pins s σ H x v vl vu lo hi sl Q I rx hs pl pu h
  unfold rSlA at h
  split at h
  · split at h
    · rename_i h1
      exact sl_list pins s σ H _ v vl vu lo hi sl Q I rx hs pl pu ⟨_, _, rfl, SqL.of h1, h⟩
    · rename_i h1
      exact sl_tup pins s σ H _ v vl vu lo hi sl Q I rx hs pl pu ⟨_, _, rfl, SqT.of h1, h⟩
    · exact h.elim
  · exact h.elim
theorem call_lenA : CallR X (.builtin "len") rLenA := by
  intro pins s σ H vs us Q I r h
  unfold rLenA at h
  split at h
  · exact call_len_str pins s σ H _ us Q I r ⟨_, rfl, h⟩
  · split at h
    · rename_i h1
      exact call_len_seq pins s σ H _ us Q I r ⟨_, _, rfl, .inl (SqL.of h1), h⟩
    · rename_i h1
      exact call_len_seq pins s σ H _ us Q I r ⟨_, _, rfl, .inr (SqT.of h1), h⟩
    · rename_i h1
      exact call_lenD pins s σ H _ us Q I r ⟨_, _, rfl, h1, h⟩
    · exact h.elim
  · exact h.elim
theorem call_intA : CallR X (.type "int") rIntA := by
  intro pins s σ H vs us Q I r h
  unfold rIntA at h
  split at h
  · exact call_int1 pins s σ H _ us Q I r (.inl ⟨_, rfl, h⟩)
  · exact call_int1 pins s σ H _ us Q I r (.inr ⟨_, rfl, h⟩)
  · exact h.elim
theorem call_absA : CallR X (.builtin "abs") rAbsA := by
  intro pins s σ H vs us Q I r h
  unfold rAbsA at h
  split at h
  · exact call_abs pins s σ H _ us Q I r ⟨_, rfl, h⟩
  · exact h.elim
theorem call_listA : CallR X (.type "list") rListA := by
  intro pins s σ H vs us Q I r h
  unfold rListA at h
  split at h
  · split at h
    · rename_i h1
      exact call_list_of pins s σ H _ us Q I r ⟨_, _, rfl, .inl (SqL.of h1), h⟩
    · rename_i h1
      exact call_list_of pins s σ H _ us Q I r ⟨_, _, rfl, .inr (SqT.of h1), h⟩
    · exact h.elim
  · exact h.elim
theorem call_tupA : CallR X (.type "tuple") rTupA := by
  intro pins s σ H vs us Q I r h
  unfold rTupA at h
  split at h
  · split at h
    · rename_i h1
      exact call_tuple_of pins s σ H _ us Q I r ⟨_, _, rfl, .inl ⟨SqL.of h1, h⟩⟩
    · rename_i h1
      exact call_tuple_of pins s σ H _ us Q I r ⟨_, _, rfl, .inr ⟨SqT.of h1, h⟩⟩
    · exact h.elim
  · exact h.elim
theorem tyN_ok {K : PySem.W.Frag} {x : V} {H : Hp} {t : String} (h : tyN x H = some t) : TyX K H x (.type t) := by
  unfold tyN at h
  split at h
  · cases h; exact .base .non
  · cases h; exact .base (.bl _)
  · cases h; exact .base (.int _)
  · cases h; exact .base (.str _)
  · split at h
    · rename_i h1; cases h; exact .base (.lst h1)
    · rename_i h1; cases h; exact .base (.tup h1)
    · rename_i h1; cases h; exact .base (.dK h1)
    · rename_i h1; cases h; exact .base (.dT h1)
    · cases h
  · cases h
theorem call_isiA : CallR X (.builtin "isinstance") rIsiA := by
  intro pins s σ H vs us Q I r h
  unfold rIsiA at h
  split at h
  · split at h
    · rename_i h1
      obtain ⟨b, h2, h3⟩ := h
      exact call_isi pins s σ H _ us Q I r ⟨_, _, _, _, b, rfl, .ty _, tyN_ok h1, kit_ty h2, h3⟩
    · exact h.elim
  · exact h.elim
theorem isL_ty {K : PySem.W.Frag} {x : V} {H : Hp} (h : isL x H) : tyV K "list" x H := by
  unfold isL at h
  split at h
  · split at h
    · rename_i h1
      exact .inl ⟨rfl, _, SqL.of h1⟩
    · exact h.elim
  · exact h.elim
theorem mt_appA : MtR X "list.append" rAppA := by
  intro pins s σ H x vs v us Q I rx rv h
  unfold rAppA at h
  split at h
  · split at h
    · rename_i h1
      exact mt_append pins s σ H _ _ v us Q I rx rv ⟨_, _, _, rfl, rfl, h1, h⟩
    · exact h.elim
  · exact h.elim
theorem mt_extA : MtR X "list.extend" rExtA := by
  intro pins s σ H x vs v us Q I rx rv h
  unfold rExtA at h
  split at h
  · split at h
    · rename_i h1 h2
      exact mt_extend pins s σ H _ _ v us Q I rx rv ⟨_, _, _, _, rfl, rfl, h1, h2, h⟩
    · exact h.elim
  · exact h.elim
theorem mt_popL : MtR X "list.pop" rPopL := by
  intro pins s σ H x vs v us Q I rx rv h
  unfold rPopL at h
  split at h
  · split at h
    · rename_i h1
      obtain ⟨y, h2, h3⟩ := h
      exact mt_pop pins s σ H _ _ v us Q I rx rv ⟨_, _, _, rfl, rfl, h1, h2, h3⟩
    · exact h.elim
  · exact h.elim
theorem seqIx_nat {n k : Nat} (h : k < n) : seqIndex? (k : Int) n = some k := by
  obtain ⟨h1, _⟩ := ixN_seq (n := n) (i := (k : Int)) (j := k) (by unfold ixN; rw [if_pos (by omega), if_pos (by omega)]; simp)
  exact h1
theorem mt_popI : MtR X "list.pop" rPopI := by
  intro pins s σ H x vs v us Q I rx rv h
  unfold rPopI at h
  split at h
  · split at h
    · rename_i h1
      obtain ⟨k, y, h2, h3, h4, h5⟩ := h
      have hk := (List.getElem?_eq_some_iff.mp h4).1
      subst h2
      exact mt_popAt pins s σ H _ _ v us Q I rx rv ⟨_, _, _, k, y, rfl, rfl, h1, by omega, by omega, seqIx_nat hk, h4, h5⟩
    · exact h.elim
  · exact h.elim
theorem set_A : PSet X rSetA := by
  intro pins s σ H o i v ov iv u Q I ro ri rv h
  unfold rSetA at h
  split at h
  · split at h
    · rename_i h1
      obtain ⟨j, h2, h3⟩ := h
      exact set_list pins s σ H _ _ v ov iv u Q I ro ri rv ⟨_, _, _, _, rfl, rfl, h1, h2, h3⟩
    · exact h.elim
  · exact h.elim
variable {o e : Expr} {es : List Expr} {to : TE} {t : TA} {name : Str} {apos cpos : Pos} {id : String} {r : V → List V → Hp → VK → Prop}
theorem pe_bml0 (slot : Slot "list" name id) (hty : typeOf (.builtin id) = pure (.type "method_descriptor")) (hm : MtR X id r) (ho : PE X o to)
    (hbase : attributeBase o name X.env (eval o X.env) = eval o X.env := by rfl) (hline : (apos.endLine == cpos.line) = true := by rfl) : PE X (.Call (.Attribute o name apos) [] [] cpos) (tBML r to tNil) :=
  pe_imp (pe_bm0 PySem.F.plainAttrs_list slot hty hm (pe_up ho) hbase hline) fun σ H Q h => ⟨_, h, fun x H' q => ⟨isL_ty q.1, q.2⟩⟩
theorem pe_bml (slot : Slot "list" name id) (hty : typeOf (.builtin id) = pure (.type "method_descriptor")) (hm : MtR X id r) (ho : PE X o to) (ha : PA X (e :: es) t)
    (hbase : attributeBase o name X.env (eval o X.env) = eval o X.env := by rfl)
    (hfew : ((backTo cpos (starEach (e :: es) X.env)).all (fun x => !x.1) && (backToKw cpos (keywordEach [] X.env)).all (fun x => x.1.isSome)
      && decide ((e :: es).length + ([] : List Keyword).length + (if ([] : List Keyword).isEmpty then 0 else 1) < 30)) = true := by rfl)
    (hline : (apos.endLine == cpos.line) = true := by rfl) (hs : starEach (e :: es) X.env = (false, eval e X.env) :: starEach es X.env := by rfl) (hplain : (backTo cpos (starEach es X.env)).any (·.1) = false := by rfl) :
    PE X (.Call (.Attribute o name apos) (e :: es) [] cpos) (tBML r to t) :=
  pe_imp (pe_bm PySem.F.plainAttrs_list slot hty hm (pe_up ho) ha hbase hfew hline hs hplain) fun σ H Q h => ⟨_, h, fun x H' q => ⟨isL_ty q.1, q.2⟩⟩
end
end Lb
set_option Elab.async false
set_option linter.all false
set_option maxRecDepth 100000
set_option maxHeartbeats 4000000
/-! Lc: what simp steps by, data in the heap, mutable places, the drawing of numbers. Knows no program. -/
namespace Lb
open PySem PySem.Spec PyProof.Rows L2

/-! ### steps of the readings, each at its arguments -/
section
variable {σ : L2.St} {H : Hp} {Q : VK} {D : Ends}
theorem ap_seq {t u : TS} : tSeq t u D σ H = t { D with nx := u D } σ H := rfl
theorem ap_asg {te : TE} {g : TG} : tAsg te g D σ H = te σ H fun x H1 => g x σ H1 D.nx := rfl
theorem ap_gname {i : Nat} {v : V} {R : L2.St → Hp → Prop} : gName i v σ H R = R (σ.set i (some v)) H := rfl
theorem ap_var {i : Nat} : tVar i σ H Q = ∃ v, σ[i]? = some (some v) ∧ Q v H := rfl
theorem ap_c {v : V} : tC v σ H Q = Q v H := rfl
theorem ap_op {r : R2} {ta tb : TE} : tOp r ta tb σ H Q = ta σ H fun x H1 => tb σ H1 fun y H2 => r x y H2 Q := rfl
theorem ap_un {r : V → Hp → VK → Prop} {ta : TE} : tUn r ta σ H Q = ta σ H fun x H1 => r x H1 Q := rfl
theorem ap_rU {g : Int → V} {i : Int} : rU g (.int i) H Q = Q (g i) H := by
  apply propext
  constructor
  · rintro ⟨j, e, q⟩
    cases e
    exact q
  · intro q
    exact ⟨_, rfl, q⟩
theorem ap_rI0 {g : Int → Int → V} {i j : Int} : rI0 g (.int i) (.int j) H Q = Q (g i j) H := by
  apply propext
  constructor
  · rintro ⟨a, b, e1, e2, q⟩
    cases e1
    cases e2
    exact q
  · intro q
    exact ⟨_, _, rfl, rfl, q⟩
theorem ap_rI {C : Int → Int → Prop} {g : Int → Int → V} {i j : Int} : rI C g (.int i) (.int j) H Q = (C i j ∧ Q (g i j) H) := by
  apply propext
  constructor
  · rintro ⟨a, b, e1, e2, q⟩
    cases e1
    cases e2
    exact q
  · intro q
    exact ⟨_, _, rfl, rfl, q⟩
theorem ap_ifS {c : TT} {t u : TS} : tIfS c t u D σ H = c σ H fun b H1 => if b = true then t D σ H1 else u D σ H1 := rfl
theorem ap_test {t : TE} {R : Bool → Hp → Prop} : tTest t σ H R = t σ H fun x H' => ∃ k, x = .bl k ∧ R k H' := rfl
theorem ap_B {t : TE} {R : Bool → Hp → Prop} : tB t σ H R = t σ H fun x H' => ∃ k, x = .bl k ∧ R k H' := rfl
theorem ap_bl {b : Bool} {R : Bool → Hp → Prop} : (∃ k, V.bl b = .bl k ∧ R k H) = R b H := by
  apply propext
  constructor
  · rintro ⟨k, e, q⟩
    cases e
    exact q
  · intro q
    exact ⟨_, rfl, q⟩
theorem ap_ret {te : TE} : tRet te D σ H = te σ H D.rt := rfl
theorem ap_retN : tRetN D σ H = D.rt .non H := rfl
theorem ap_drop {te : TE} : tDrop te D σ H = te σ H fun _ H1 => D.nx σ H1 := rfl
theorem ap_next : tNext D σ H = D.nx σ H := rfl
theorem ap_brk : tBreak D σ H = D.bk σ H := rfl
theorem ap_cnt : tCont D σ H = D.ct σ H := rfl
theorem ap_and {t u : TT} {R : Bool → Hp → Prop} : tAnd t u σ H R = t σ H fun c H1 => if c = true then u σ H1 R else R false H1 := rfl
theorem ap_or {t u : TT} {R : Bool → Hp → Prop} : tOr t u σ H R = t σ H fun c H1 => if c = true then R true H1 else u σ H1 R := rfl
theorem ap_not {t : TT} {R : Bool → Hp → Prop} : tNot t σ H R = t σ H fun c H1 => R (!c) H1 := rfl
theorem ap_andV {ta tb : TE} : tAndV ta tb σ H Q = ta σ H fun x H1 => ∃ c, x = .bl c ∧ if c = true then tb σ H1 Q else Q (.bl false) H1 := rfl
theorem ap_orV {ta tb : TE} : tOrV ta tb σ H Q = ta σ H fun x H1 => ∃ c, x = .bl c ∧ if c = true then Q (.bl true) H1 else tb σ H1 Q := rfl
theorem ap_notV {ta : TE} : tNotV ta σ H Q = ta σ H fun x H1 => ∃ c, x = .bl c ∧ Q (.bl (!c)) H1 := rfl
theorem ap_if {t : TT} {ta tb : TE} : tIf t ta tb σ H Q = t σ H fun c H1 => if c = true then ta σ H1 Q else tb σ H1 Q := rfl
theorem ap_call {sp : Sp} {dvs : List V} {E : XK} {t : TA} : tCall sp dvs E t σ H Q = t σ H fun vs H1 => sp (vs ++ dvs) H1 Q E := rfl
theorem ap_cb {r : List V → Hp → VK → Prop} {t : TA} : tCB r t σ H Q = t σ H fun vs H1 => r vs H1 Q := rfl
theorem ap_cons {ta : TE} {tr : TA} {R : List V → Hp → Prop} : tCons ta tr σ H R = ta σ H fun x H1 => tr σ H1 fun xs H2 => R (x :: xs) H2 := rfl
theorem ap_nil {R : List V → Hp → Prop} : tNil σ H R = R [] H := rfl
theorem ap_tup {t : TA} : tTup t σ H Q = t σ H fun xs H1 => xs.length ≤ sizeLine ∧ ∀ p, H1 p = none → Q (.ref p) (upd H1 p (.tup xs)) := rfl
theorem ap_lst {t : TA} : tLst t σ H Q = t σ H fun xs H1 => xs.length ≤ sizeLine ∧ ∀ p, H1 p = none → Q (.ref p) (upd H1 p (.lst xs)) := rfl
theorem ap_bml {r : V → List V → Hp → VK → Prop} {to : TE} {t : TA} : tBML r to t σ H Q = to σ H fun x H1 => isL x H1 ∧ t σ H1 fun xs H2 => r x xs H2 Q := rfl
theorem ap_gsub {to ti : TE} {t : TSet} {v : V} {R : L2.St → Hp → Prop} : gSub to ti t v σ H R = to σ H fun o H1 => ti σ H1 fun i H2 => t o i v H2 fun H3 => R σ H3 := rfl
theorem ap_sl {r : V → Option Int → Option Int → Hp → VK → Prop} {te : TE} {tl th : TO} : tSl r te tl th σ H Q = te σ H fun x H1 => tl σ H1 fun l H2 => th σ H2 fun u H3 => r x l u H3 Q := rfl
theorem ap_nop {R : Option Int → Hp → Prop} : tNoPart σ H R = R none H := rfl
theorem ap_part {t : TE} {R : Option Int → Hp → Prop} : tPart t σ H R = t σ H fun x H1 => ∃ i, x = .int i ∧ R (some i) H1 := rfl
theorem ap_prt {i : Int} {R : Option Int → Hp → Prop} : (∃ j, V.int i = .int j ∧ R (some j) H) = R (some i) H := by
  apply propext
  constructor
  · rintro ⟨k, e, q⟩
    cases e
    exact q
  · intro q
    exact ⟨_, rfl, q⟩
theorem ap_isN {x : V} : rIsN x .non H Q = Q (.bl (decide (x = .non))) H := by
  apply propext
  constructor
  · rintro ⟨_, q⟩
    exact q
  · intro q
    exact ⟨rfl, q⟩
theorem ap_notN {x : V} : rNotN x .non H Q = Q (.bl (!decide (x = .non))) H := by
  apply propext
  constructor
  · rintro ⟨_, q⟩
    exact q
  · intro q
    exact ⟨rfl, q⟩
theorem ap_yes {R : Bool → Hp → Prop} : tYes σ H R = R true H := rfl
theorem ap_rng1 {ta : TA} {R : It → Hp → Prop} : iRng1 ta σ H R = ta σ H fun vs H1 => ∃ j : Int, vs = [.int j] ∧ -(2 ^ 62) ≤ j ∧ j < 2 ^ 62 ∧ R (Itr 0 j.toNat) H1 := rfl
theorem ap_rng1' {j : Int} {R : It → Hp → Prop} : (∃ i : Int, [V.int j] = [.int i] ∧ -(2 ^ 62) ≤ i ∧ i < 2 ^ 62 ∧ R (Itr 0 i.toNat) H) = (-(2 ^ 62) ≤ j ∧ j < 2 ^ 62 ∧ R (Itr 0 j.toNat) H) := by
  apply propext
  constructor
  · rintro ⟨k, e, q⟩
    cases e
    exact q
  · intro q
    exact ⟨_, rfl, q⟩
theorem ite_tt {A B : Prop} : (if true = true then A else B) = A := if_pos rfl
theorem ite_ff {A B : Prop} : (if false = true then A else B) = B := if_neg Bool.false_ne_true
end

/-! ### heaps that grow -/
theorem Same.newp {H : Hp} {p : Addr} {o : HO} (h : H p = none) : Same H (upd H p o) := fun b u e => by
  rw [upd_ne (ne_of_none e h)]
  exact e
/-- the heap without the places of S -/
def hid (S : List Addr) (H : Hp) : Hp := fun b => if b ∈ S then none else H b
theorem hid_out {S : List Addr} {H : Hp} {b : Addr} (h : b ∉ S) : hid S H b = H b := if_neg h
theorem hid_in {S : List Addr} {H : Hp} {b : Addr} (h : b ∈ S) : hid S H b = none := if_pos h
theorem hid_sub {S : List Addr} {H : Hp} : Same (hid S H) H := fun b o e => by
  by_cases h : b ∈ S
  · rw [hid_in h] at e
    cases e
  · rw [hid_out h] at e
    exact e
theorem hid_some {S : List Addr} {H : Hp} {b : Addr} {o : HO} (h : hid S H b = some o) : H b = some o ∧ b ∉ S := by
  by_cases q : b ∈ S
  · rw [hid_in q] at h
    cases h
  · rw [hid_out q] at h
    exact ⟨h, q⟩
theorem hid_upd {S : List Addr} {H : Hp} {a : Addr} {o : HO} (h : a ∈ S) : hid S (upd H a o) = hid S H := by
  funext b
  by_cases q : b ∈ S
  · rw [hid_in q, hid_in q]
  · rw [hid_out q, hid_out q, upd_ne fun e => q (by rw [e]; exact h)]
theorem hid_updN {S : List Addr} {H : Hp} {a : Addr} {o : HO} (h : a ∉ S) : hid S (upd H a o) = upd (hid S H) a o := by
  funext b
  by_cases q : b ∈ S
  · rw [hid_in q, upd_ne (fun e => h (by rw [← e]; exact q)), hid_in q]
  · rw [hid_out q]
    by_cases e : b = a
    · rw [e, upd_same, upd_same]
    · rw [upd_ne e, upd_ne e, hid_out q]
theorem hid_eq {S : List Addr} {H H' : Hp} (h : ∀ b, b ∉ S → H' b = H b) : hid S H' = hid S H := by
  funext b
  by_cases q : b ∈ S
  · rw [hid_in q, hid_in q]
  · rw [hid_out q, hid_out q, h b q]
theorem hid_mono {S S' : List Addr} {H : Hp} (h : ∀ b, b ∈ S → b ∈ S') : Same (hid S' H) (hid S H) := fun b o e => by
  obtain ⟨e1, e2⟩ := hid_some e
  rw [hid_out fun q => e2 (h b q)]
  exact e1
theorem Same.hid {S : List Addr} {H H' : Hp} (h : Same H H') : Same (hid S H) (hid S H') := fun b o e => by
  obtain ⟨e1, e2⟩ := hid_some e
  rw [hid_out e2]
  exact h b o e1

/-! ### data -/
mutual
inductive Dt (H : Hp) : V → PyData → Prop
  | non : Dt H .non .none
  | bl (b : Bool) : Dt H (.bl b) (.bool b)
  | int (i : Int) : Dt H (.int i) (.int i)
  | str (x : Str) : Dt H (.str x) (.str x)
  | lst {a : Addr} {xs : List V} {ds : List PyData} : H a = some (.lst xs) → DtAll H xs ds → Dt H (.ref a) (.list ds)
  | tup {a : Addr} {xs : List V} {ds : List PyData} : H a = some (.tup xs) → DtAll H xs ds → Dt H (.ref a) (.tuple ds)
inductive DtAll (H : Hp) : List V → List PyData → Prop
  | nil : DtAll H [] []
  | cons {v : V} {vs : List V} {d : PyData} {ds : List PyData} : Dt H v d → DtAll H vs ds → DtAll H (v :: vs) (d :: ds)
end
mutual
theorem Dt.mono {H H' : Hp} (e : Same H H') : ∀ {v : V} {d : PyData}, Dt H v d → Dt H' v d
  | _, _, .non => .non
  | _, _, .bl b => .bl b
  | _, _, .int i => .int i
  | _, _, .str x => .str x
  | _, _, .lst h k => .lst (e _ _ h) (DtAll.mono e k)
  | _, _, .tup h k => .tup (e _ _ h) (DtAll.mono e k)
theorem DtAll.mono {H H' : Hp} (e : Same H H') : ∀ {vs : List V} {ds : List PyData}, DtAll H vs ds → DtAll H' vs ds
  | _, _, .nil => .nil
  | _, _, .cons h k => .cons (Dt.mono e h) (DtAll.mono e k)
end
mutual
theorem Dt.dp {K : PySem.W.Frag} {H : Hp} : ∀ {v : V} {d : PyData}, Dt H v d → Dp K H v d
  | _, _, .non => .non
  | _, _, .bl b => .bl b
  | _, _, .int i => .int i
  | _, _, .str x => .str x
  | _, _, .lst h k => .lst (SqL.of h) (DtAll.dp k)
  | _, _, .tup h k => .tup (SqT.of h) (DtAll.dp k)
theorem DtAll.dp {K : PySem.W.Frag} {H : Hp} : ∀ {vs : List V} {ds : List PyData}, DtAll H vs ds → DpAll K H vs ds
  | _, _, .nil => .nil
  | _, _, .cons h k => .cons (Dt.dp h) (DtAll.dp k)
end
section
variable {H : Hp}
theorem DtAll.append : ∀ {xs ys : List V} {ds es : List PyData}, DtAll H xs ds → DtAll H ys es → DtAll H (xs ++ ys) (ds ++ es)
  | _, _, _, _, .nil, k => k
  | _, _, _, _, .cons a b, k => .cons a (DtAll.append b k)
theorem DtAll.length : ∀ {xs : List V} {ds : List PyData}, DtAll H xs ds → xs.length = ds.length
  | _, _, .nil => rfl
  | _, _, .cons _ k => by rw [List.length_cons, List.length_cons, DtAll.length k]
theorem DtAll.get : ∀ {xs : List V} {ds : List PyData} {i : Nat} {d : PyData}, DtAll H xs ds → ds[i]? = some d → ∃ v, xs[i]? = some v ∧ Dt H v d
  | _, _, _, _, .nil, e => by simp at e
  | _, _, 0, _, .cons a _, e => by simp at e; subst e; exact ⟨_, rfl, a⟩
  | _, _, i + 1, d, .cons _ k, e => by
    obtain ⟨v, h1, h2⟩ := DtAll.get (i := i) (d := d) k (by simpa using e)
    exact ⟨v, by simpa using h1, h2⟩
theorem DtAll.get' : ∀ {xs : List V} {ds : List PyData} {i : Nat} {v : V}, DtAll H xs ds → xs[i]? = some v → ∃ d, ds[i]? = some d ∧ Dt H v d
  | _, _, _, _, .nil, e => by simp at e
  | _, _, 0, _, .cons a _, e => by simp at e; subst e; exact ⟨_, rfl, a⟩
  | _, _, i + 1, v, .cons _ k, e => by
    obtain ⟨d, h1, h2⟩ := DtAll.get' (i := i) (v := v) k (by simpa using e)
    exact ⟨d, by simpa using h1, h2⟩
theorem DtAll.ints : ∀ ns : List Int, DtAll H (ns.map V.int) (ns.map PyData.int)
  | [] => .nil
  | n :: r => .cons (.int n) (DtAll.ints r)
theorem DtAll.intsI : ∀ {ns : List Int} {vs : List V}, DtAll H vs (ns.map PyData.int) → vs = ns.map V.int
  | [], _, .nil => rfl
  | n :: r, _, .cons (.int _) k => by rw [DtAll.intsI k]; rfl
theorem DtAll.take : ∀ {xs : List V} {ds : List PyData} (n : Nat), DtAll H xs ds → DtAll H (xs.take n) (ds.take n)
  | _, _, 0, _ => .nil
  | _, _, _ + 1, .nil => .nil
  | _, _, n + 1, .cons a k => .cons a (DtAll.take n k)
theorem DtAll.drop : ∀ {xs : List V} {ds : List PyData} (n : Nat), DtAll H xs ds → DtAll H (xs.drop n) (ds.drop n)
  | _, _, 0, k => k
  | _, _, _ + 1, .nil => .nil
  | _, _, n + 1, .cons _ k => DtAll.drop n k
theorem DtAll.set : ∀ {xs : List V} {ds : List PyData} {v : V} {d : PyData} (i : Nat), Dt H v d → DtAll H xs ds → DtAll H (xs.set i v) (ds.set i d)
  | _, _, _, _, _, _, .nil => .nil
  | _, _, _, _, 0, h, .cons _ k => .cons h k
  | _, _, _, _, i + 1, h, .cons a k => .cons a (DtAll.set i h k)
theorem DtAll.erase : ∀ {xs : List V} {ds : List PyData} (i : Nat), DtAll H xs ds → DtAll H (xs.eraseIdx i) (ds.eraseIdx i)
  | _, _, _, .nil => .nil
  | _, _, 0, .cons _ k => k
  | _, _, i + 1, .cons a k => .cons a (DtAll.erase i k)
theorem DtAll.rev {xs : List V} {ds : List PyData} (h : DtAll H xs ds) : DtAll H xs.reverse ds.reverse := by
  induction xs generalizing ds with
  | nil => cases h; exact .nil
  | cons x r ih =>
    cases h with
    | cons a k =>
      rw [List.reverse_cons, List.reverse_cons]
      exact DtAll.append (ih k) (.cons a .nil)
end
/-- data that are equal as Python says, where it can be looked at -/
abbrev Shp (d : PyData) : Prop := SeqAt.shaped d = true
theorem eqv_self {d : PyData} (h : Shp d) : PyData.eqv d d = true := SeqAt.eqv_refl d (SeqAt.canLay_of_shaped h)
section
variable {K : PySem.W.Frag} {H : Hp} {Q : VK} {x y : V} {d e : PyData}
/-- a == b of two data -/
theorem rd_eq (hx : Dt H x d) (hy : Dt H y e) (h1 : Shp d) (h2 : Shp e) (q : Q (.bl (PyData.eqv d e)) H) : rEqA K x y H Q := by
  unfold rEqA
  split
  · rename_i b h
    obtain ⟨h3, h4⟩ := eqF_ok h
    have e1 : PyData.eqv d e = b := by
      cases hx <;> cases hy <;> simp_all [eqF, PyData.eqv] <;> (rw [← h]; exact Bool.eq_iff_iff.mpr (by simp))
    rw [← e1]
    exact q
  · exact ⟨d, e, hx.dp, hy.dp, h1, h2, q⟩
theorem rd_ne (hx : Dt H x d) (hy : Dt H y e) (h1 : Shp d) (h2 : Shp e) (q : Q (.bl (!PyData.eqv d e)) H) : rNeA K x y H Q := by
  unfold rNeA
  split
  · rename_i b h
    obtain ⟨h3, h4⟩ := eqF_ok h
    have e1 : PyData.eqv d e = b := by
      cases hx <;> cases hy <;> simp_all [eqF, PyData.eqv] <;> (rw [← h]; exact Bool.eq_iff_iff.mpr (by simp))
    rw [← e1]
    exact q
  · exact ⟨d, e, hx.dp, hy.dp, h1, h2, q⟩
/-- the same data on both sides -/
theorem rd_eqT (hx : Dt H x d) (hy : Dt H y d) (h1 : Shp d) (q : Q (.bl true) H) : rEqA K x y H Q := rd_eq hx hy h1 h1 (by rw [eqv_self h1]; exact q)
theorem rd_neF (hx : Dt H x d) (hy : Dt H y d) (h1 : Shp d) (q : Q (.bl false) H) : rNeA K x y H Q := rd_ne hx hy h1 h1 (by rw [eqv_self h1]; exact q)
end
end Lb
set_option Elab.async false
set_option linter.all false
set_option maxRecDepth 100000
set_option maxHeartbeats 4000000
/-! Ld: the steps of a reading, one lemma a step; the drawing of numbers. Knows no program. -/
namespace Lb
open PySem PySem.Spec PyProof.Rows L2
section
variable {σ : L2.St} {H : Hp} {Q : VK} {nx : L2.St → Hp → Prop} {rt : VK} {bk ct : L2.St → Hp → Prop}
/-- a value as a test -/
def tTru (K : PySem.W.Frag) (ta : TE) : TT := fun σ H Q => ta σ H fun x H' => ∃ k, TruV K x H' k ∧ Q k H'
theorem i_seq {t u : TS} (q : t ⟨fun σ H => u ⟨nx, rt, bk, ct⟩ σ H, rt, bk, ct⟩ σ H) : tSeq t u ⟨nx, rt, bk, ct⟩ σ H := q
theorem i_asg {te : TE} {g : TG} (q : te σ H fun x H1 => g x σ H1 nx) : tAsg te g ⟨nx, rt, bk, ct⟩ σ H := q
theorem i_gname {i : Nat} {v : V} {R : L2.St → Hp → Prop} (q : R (σ.set i (some v)) H) : gName i v σ H R := q
theorem i_ifS {c : TT} {t u : TS} (q : c σ H fun b H1 => if b = true then t ⟨nx, rt, bk, ct⟩ σ H1 else u ⟨nx, rt, bk, ct⟩ σ H1) : tIfS c t u ⟨nx, rt, bk, ct⟩ σ H := q
theorem i_ret {te : TE} (q : te σ H rt) : tRet te ⟨nx, rt, bk, ct⟩ σ H := q
theorem i_retN (q : rt .non H) : tRetN ⟨nx, rt, bk, ct⟩ σ H := q
theorem i_drop {te : TE} (q : te σ H fun _ H1 => nx σ H1) : tDrop te ⟨nx, rt, bk, ct⟩ σ H := q
theorem i_next (q : nx σ H) : tNext ⟨nx, rt, bk, ct⟩ σ H := q
theorem i_brk (q : bk σ H) : tBreak ⟨nx, rt, bk, ct⟩ σ H := q
theorem i_cnt (q : ct σ H) : tCont ⟨nx, rt, bk, ct⟩ σ H := q
theorem i_par {i j : Nat} {ta : TA} (q : ta σ H fun vs H1 => ∃ v w, vs = [v, w] ∧ nx ((σ.set i (some v)).set j (some w)) H1) : tPar i j ta ⟨nx, rt, bk, ct⟩ σ H := q
theorem i_par2 {v w : V} {P : V → V → Prop} (q : P v w) : (∃ v' w', [v, w] = [v', w'] ∧ P v' w') := ⟨_, _, rfl, q⟩
theorem i_fldS {K : PySem.W.Frag} {ta tv : TE} {f : Str} (q : tv σ H fun y H1 => ta σ H1 fun x H2 => ∃ a C dx fs, x = .ref a ∧ H2 a = some (.ins C dx fs) ∧ Cls K C ∧ NoAttr K C f ∧ fs.length < 1000 ∧ nx σ (upd H2 a (.ins C dx (putF f y fs)))) : sFld K ta tv f ⟨nx, rt, bk, ct⟩ σ H := q
theorem i_dput {td ty tv : TE} (q : tv σ H fun v H1 => td σ H1 fun x H2 => ty σ H2 fun y H3 => ∃ a H4, x = .ref a ∧ DPut H3 a y v H4 ∧ nx σ H4) : sDPut td ty tv ⟨nx, rt, bk, ct⟩ σ H := q
theorem i_var {i : Nat} {v : V} (h : σ[i]? = some (some v)) (q : Q v H) : tVar i σ H Q := ⟨v, h, q⟩
theorem i_tB {b : Bool} {A B : Prop} (h : b = true) (q : A) : (if b = true then A else B) := by rw [if_pos h]; exact q
theorem i_fB {b : Bool} {A B : Prop} (h : b = false) (q : B) : (if b = true then A else B) := by rw [h, if_neg Bool.false_ne_true]; exact q
theorem i_c {v : V} (q : Q v H) : tC v σ H Q := q
theorem i_op {r : R2} {ta tb : TE} (q : ta σ H fun x H1 => tb σ H1 fun y H2 => r x y H2 Q) : tOp r ta tb σ H Q := q
theorem i_un {r : V → Hp → VK → Prop} {ta : TE} (q : ta σ H fun x H1 => r x H1 Q) : tUn r ta σ H Q := q
theorem i_rU {g : Int → V} {i : Int} (q : Q (g i) H) : rU g (.int i) H Q := ⟨i, rfl, q⟩
theorem i_rI0 {g : Int → Int → V} {i j : Int} (q : Q (g i j) H) : rI0 g (.int i) (.int j) H Q := ⟨i, j, rfl, rfl, q⟩
theorem i_rI {C : Int → Int → Prop} {g : Int → Int → V} {i j : Int} (c : C i j) (q : Q (g i j) H) : rI C g (.int i) (.int j) H Q := ⟨i, j, rfl, rfl, c, q⟩
theorem i_test {t : TE} {R : Bool → Hp → Prop} (q : t σ H fun x H' => ∃ k, x = .bl k ∧ R k H') : tTest t σ H R := q
theorem i_B {t : TE} {R : Bool → Hp → Prop} (q : t σ H fun x H' => ∃ k, x = .bl k ∧ R k H') : tB t σ H R := q
theorem i_bl {b : Bool} {R : Bool → Prop} (q : R b) : (∃ k, V.bl b = .bl k ∧ R k) := ⟨b, rfl, q⟩
theorem i_tru {K : PySem.W.Frag} {te : TE} {R : Bool → Hp → Prop} (q : te σ H fun x H' => ∃ k, TruV K x H' k ∧ R k H') : tTru K te σ H R := q
theorem i_truB {K : PySem.W.Frag} {b : Bool} {R : Bool → Prop} (q : R b) : (∃ k, TruV K (.bl b) H k ∧ R k) := ⟨b, rfl, q⟩
theorem i_and {t u : TT} {R : Bool → Hp → Prop} (q : t σ H fun c H1 => if c = true then u σ H1 R else R false H1) : tAnd t u σ H R := q
theorem i_or {t u : TT} {R : Bool → Hp → Prop} (q : t σ H fun c H1 => if c = true then R true H1 else u σ H1 R) : tOr t u σ H R := q
theorem i_not {t : TT} {R : Bool → Hp → Prop} (q : t σ H fun c H1 => R (!c) H1) : tNot t σ H R := q
theorem i_andV {ta tb : TE} (q : ta σ H fun x H1 => ∃ c, x = .bl c ∧ if c = true then tb σ H1 Q else Q (.bl false) H1) : tAndV ta tb σ H Q := q
theorem i_orV {ta tb : TE} (q : ta σ H fun x H1 => ∃ c, x = .bl c ∧ if c = true then Q (.bl true) H1 else tb σ H1 Q) : tOrV ta tb σ H Q := q
theorem i_notV {ta : TE} (q : ta σ H fun x H1 => ∃ c, x = .bl c ∧ Q (.bl (!c)) H1) : tNotV ta σ H Q := q
theorem i_if {t : TT} {ta tb : TE} (q : t σ H fun c H1 => if c = true then ta σ H1 Q else tb σ H1 Q) : tIf t ta tb σ H Q := q
theorem i_call {sp : Sp} {E : XK} {t : TA} (q : t σ H fun vs H1 => sp (vs ++ []) H1 Q E) : tCall sp [] E t σ H Q := q
theorem i_meth {C : Addr} {m : Str} {sp : Sp} {E : XK} {ta : TE} {t : TA} (q : ta σ H fun x H1 => ∃ a dx fs, x = .ref a ∧ H1 a = some (.ins C dx fs) ∧ fs.lookup m = none ∧ t σ H1 fun vs H2 => sp (x :: (vs ++ [])) H2 Q E) : tMeth C m sp [] E ta t σ H Q := q
theorem i_make {C : Addr} {sp : Sp} {E : XK} {t : TA} (q : t σ H fun vs H1 => ∀ x dx, H1 x = none → H1 dx = none → dx ≠ x → sp (.ref x :: (vs ++ [])) (upd (upd H1 dx (.own x)) x (.ins C dx [])) (fun v H2 => v = .non ∧ Q (.ref x) H2) E) : tMake C sp [] E t σ H Q := q
theorem i_cb {r : List V → Hp → VK → Prop} {t : TA} (q : t σ H fun vs H1 => r vs H1 Q) : tCB r t σ H Q := q
theorem i_cons {ta : TE} {tr : TA} {R : List V → Hp → Prop} (q : ta σ H fun x H1 => tr σ H1 fun xs H2 => R (x :: xs) H2) : tCons ta tr σ H R := q
theorem i_nil {R : List V → Hp → Prop} (q : R [] H) : tNil σ H R := q
theorem i_tup {t : TA} (q : t σ H fun xs H1 => xs.length ≤ sizeLine ∧ ∀ p, H1 p = none → Q (.ref p) (upd H1 p (.tup xs))) : tTup t σ H Q := q
theorem i_lst {t : TA} (q : t σ H fun xs H1 => xs.length ≤ sizeLine ∧ ∀ p, H1 p = none → Q (.ref p) (upd H1 p (.lst xs))) : tLst t σ H Q := q
theorem i_bml {r : V → List V → Hp → VK → Prop} {to : TE} {t : TA} (q : to σ H fun x H1 => isL x H1 ∧ t σ H1 fun xs H2 => r x xs H2 Q) : tBML r to t σ H Q := q
theorem i_isL {l : Addr} {xs : List V} {R : Prop} (h : H l = some (.lst xs)) (q : R) : isL (.ref l) H ∧ R := ⟨by simp only [isL, h], q⟩
theorem i_gsub {to ti : TE} {t : TSet} {v : V} {R : L2.St → Hp → Prop} (q : to σ H fun o H1 => ti σ H1 fun i H2 => t o i v H2 fun H3 => R σ H3) : gSub to ti t v σ H R := q
theorem i_gtup {K : PySem.W.Frag} {n : Nat} {t : TGs} {a : Addr} {xs : List V} {R : L2.St → Hp → Prop} (h : H a = some (.tup xs)) (hn : xs.length = n) (q : t xs σ H R) : gTup K n t (.ref a) σ H R := ⟨a, xs, rfl, SqT.of h, hn, q⟩
theorem i_gcons {t : TG} {u : TGs} {v : V} {vs : List V} {R : L2.St → Hp → Prop} (q : t v σ H fun σ' H' => u vs σ' H' R) : gCons t u (v :: vs) σ H R := ⟨v, vs, rfl, q⟩
theorem i_gnil {R : L2.St → Hp → Prop} (q : R σ H) : gNil [] σ H R := ⟨rfl, q⟩
theorem i_sl {r : V → Option Int → Option Int → Hp → VK → Prop} {te : TE} {tl th : TO} (q : te σ H fun x H1 => tl σ H1 fun l H2 => th σ H2 fun u H3 => r x l u H3 Q) : tSl r te tl th σ H Q := q
theorem i_nop {R : Option Int → Hp → Prop} (q : R none H) : tNoPart σ H R := q
theorem i_part {t : TE} {R : Option Int → Hp → Prop} (q : t σ H fun x H1 => ∃ i, x = .int i ∧ R (some i) H1) : tPart t σ H R := q
theorem i_prt {i : Int} {R : Int → Prop} (q : R i) : (∃ j, V.int i = .int j ∧ R j) := ⟨i, rfl, q⟩
theorem i_isN {x : V} (q : Q (.bl (decide (x = .non))) H) : rIsN x .non H Q := ⟨rfl, q⟩
theorem i_notN {x : V} (q : Q (.bl (!decide (x = .non))) H) : rNotN x .non H Q := ⟨rfl, q⟩
theorem i_yes {R : Bool → Hp → Prop} (q : R true H) : tYes σ H R := q
theorem i_tt {A B : Prop} (q : A) : (if true = true then A else B) := by rw [if_pos rfl]; exact q
theorem i_ff {A B : Prop} (q : B) : (if false = true then A else B) := by rw [if_neg Bool.false_ne_true]; exact q
theorem i_dy {p : Prop} [Decidable p] {A B : Prop} (h : p) (q : A) : (if decide p = true then A else B) := by rw [if_pos (decide_eq_true h)]; exact q
theorem i_dn {p : Prop} [Decidable p] {A B : Prop} (h : ¬ p) (q : B) : (if decide p = true then A else B) := by rw [if_neg (by simp [h])]; exact q
theorem i_ny {p : Prop} [Decidable p] {A B : Prop} (h : ¬ p) (q : A) : (if (!decide p) = true then A else B) := by rw [if_pos (by simp [h])]; exact q
theorem i_nn {p : Prop} [Decidable p] {A B : Prop} (h : p) (q : B) : (if (!decide p) = true then A else B) := by rw [if_neg (by simp [h])]; exact q
theorem i_d2 {p : Prop} [Decidable p] {A B : Prop} (q1 : p → A) (q2 : ¬ p → B) : (if decide p = true then A else B) := by
  by_cases h : p
  · exact i_dy h (q1 h)
  · exact i_dn h (q2 h)
theorem i_n2 {p : Prop} [Decidable p] {A B : Prop} (q1 : ¬ p → A) (q2 : p → B) : (if (!decide p) = true then A else B) := by
  by_cases h : p
  · exact i_nn h (q2 h)
  · exact i_ny h (q1 h)
theorem i_ntt {A B : Prop} (q : B) : (if (!true) = true then A else B) := by rw [if_neg (by simp)]; exact q
theorem i_nff {A B : Prop} (q : A) : (if (!false) = true then A else B) := by rw [if_pos (by simp)]; exact q
theorem i_dnI {i : Int} {A B : Prop} (q : B) : (if decide (V.int i = V.non) = true then A else B) := i_dn (by intro h; cases h) q
theorem i_nyI {i : Int} {A B : Prop} (q : A) : (if (!decide (V.int i = V.non)) = true then A else B) := i_ny (by intro h; cases h) q
theorem i_dnR {i : Addr} {A B : Prop} (q : B) : (if decide (V.ref i = V.non) = true then A else B) := i_dn (by intro h; cases h) q
theorem i_nyR {i : Addr} {A B : Prop} (q : A) : (if (!decide (V.ref i = V.non)) = true then A else B) := i_ny (by intro h; cases h) q
theorem i_dnS {i : Str} {A B : Prop} (q : B) : (if decide (V.str i = V.non) = true then A else B) := i_dn (by intro h; cases h) q
theorem i_nyS {i : Str} {A B : Prop} (q : A) : (if (!decide (V.str i = V.non)) = true then A else B) := i_ny (by intro h; cases h) q
theorem i_addI {a b : Int} (q : Q (.int (a + b)) H) : rAddA (.int a) (.int b) H Q := q
theorem i_addS {a b : Str} (h : a.length + b.length ≤ sizeLine) (q : Q (.str (a ++ b)) H) : rAddA (.str a) (.str b) H Q := ⟨h, q⟩
theorem i_addL {p q : Addr} {xs ys : List V} (h1 : H p = some (.lst xs)) (h2 : H q = some (.lst ys)) (h : xs.length + ys.length ≤ sizeLine) (k : ∀ r, H r = none → Q (.ref r) (upd H r (.lst (xs ++ ys)))) : rAddA (.ref p) (.ref q) H Q := by simp only [rAddA, h1, h2]; exact ⟨h, k⟩
theorem i_mulI {a b : Int} (c : CMul a b) (q : Q (.int (a * b)) H) : rMulA (.int a) (.int b) H Q := ⟨c, q⟩
theorem i_eqF {K : PySem.W.Frag} {x y : V} {b : Bool} (h : eqF x y = some b) (q : Q (.bl b) H) : rEqA K x y H Q := by simp only [rEqA, h]; exact q
theorem i_neF {K : PySem.W.Frag} {x y : V} {b : Bool} (h : eqF x y = some b) (q : Q (.bl (!b)) H) : rNeA K x y H Q := by simp only [rNeA, h]; exact q
theorem i_eqI {K : PySem.W.Frag} {a b : Int} (q : Q (.bl (decide (a = b))) H) : rEqA K (.int a) (.int b) H Q := q
theorem i_neI {K : PySem.W.Frag} {a b : Int} (q : Q (.bl (!decide (a = b))) H) : rNeA K (.int a) (.int b) H Q := q
theorem i_eqS {K : PySem.W.Frag} {a b : Str} (q : Q (.bl (decide (a = b))) H) : rEqA K (.str a) (.str b) H Q := q
theorem i_neS {K : PySem.W.Frag} {a b : Str} (q : Q (.bl (!decide (a = b))) H) : rNeA K (.str a) (.str b) H Q := q
theorem i_ixL {p : Addr} {xs : List V} {i : Int} {v : V} (h : H p = some (.lst xs)) (hi : atI xs i = some v) (q : Q v H) : rIxA (.ref p) (.int i) H Q := by simp only [rIxA, h]; exact ⟨v, hi, q⟩
theorem i_ixT {p : Addr} {xs : List V} {i : Int} {v : V} (h : H p = some (.tup xs)) (hi : atI xs i = some v) (q : Q v H) : rIxA (.ref p) (.int i) H Q := by simp only [rIxA, h]; exact ⟨v, hi, q⟩
theorem i_slL {p : Addr} {xs : List V} {lo hi : Option Int} (h : H p = some (.lst xs)) (k : ∀ q, H q = none → Q (.ref q) (upd H q (.lst (cutV xs lo hi)))) : rSlA (.ref p) lo hi H Q := by simp only [rSlA, h]; exact k
theorem i_slT {p : Addr} {xs : List V} {lo hi : Option Int} (h : H p = some (.tup xs)) (c : ¬ (HT.sIx xs.length 0 lo = 0 ∧ HT.sIx xs.length xs.length hi = xs.length)) (k : ∀ q, H q = none → Q (.ref q) (upd H q (.tup (cutV xs lo hi)))) : rSlA (.ref p) lo hi H Q := by simp only [rSlA, h]; exact ⟨c, k⟩
theorem i_lenL {p : Addr} {xs : List V} (h : H p = some (.lst xs)) (q : Q (.int xs.length) H) : rLenA [.ref p] H Q := by simp only [rLenA, h]; exact q
theorem i_lenT {p : Addr} {xs : List V} (h : H p = some (.tup xs)) (q : Q (.int xs.length) H) : rLenA [.ref p] H Q := by simp only [rLenA, h]; exact q
theorem i_lenD {p : Addr} {kvs : List (Key × V)} (h : H p = some (.dK kvs)) (q : Q (.int kvs.length) H) : rLenA [.ref p] H Q := by simp only [rLenA, h]; exact q
theorem i_lenS {y : Str} (h : y.length ≤ sizeLine) (q : Q (.int y.length) H) : rLenA [.str y] H Q := ⟨h, q⟩
theorem i_intI {i : Int} (q : Q (.int i) H) : rIntA [.int i] H Q := q
theorem i_intB {k : Bool} (q : Q (.int (if k = true then 1 else 0)) H) : rIntA [.bl k] H Q := q
theorem i_abs {i : Int} (q : Q (.int (if i < 0 then -i else i)) H) : rAbsA [.int i] H Q := q
theorem i_listL {p : Addr} {xs : List V} (h : H p = some (.lst xs)) (k : ∀ l, H l = none → Q (.ref l) (upd H l (.lst xs))) : rListA [.ref p] H Q := by simp only [rListA, h]; exact k
theorem i_listT {p : Addr} {xs : List V} (h : H p = some (.tup xs)) (k : ∀ l, H l = none → Q (.ref l) (upd H l (.lst xs))) : rListA [.ref p] H Q := by simp only [rListA, h]; exact k
theorem i_tupL {p : Addr} {xs : List V} (h : H p = some (.lst xs)) (k : ∀ l, H l = none → Q (.ref l) (upd H l (.tup xs))) : rTupA [.ref p] H Q := by simp only [rTupA, h]; exact k
theorem i_isi {x : V} {T t : String} {b : Bool} (h1 : tyN x H = some t) (h2 : kitB t T = some b) (q : Q (.bl b) H) : rIsiA [x, .ty T] H Q := by simp only [rIsiA, h1]; exact ⟨b, h2, q⟩
theorem i_isiLL {p : Addr} {xs : List V} (h : H p = some (.lst xs)) (q : Q (.bl true) H) : rIsiA [.ref p, .ty "list"] H Q := i_isi (t := "list") (by simp only [tyN, h]) (by decide +kernel) q
theorem i_isiTL {p : Addr} {xs : List V} (h : H p = some (.tup xs)) (q : Q (.bl false) H) : rIsiA [.ref p, .ty "list"] H Q := i_isi (t := "tuple") (by simp only [tyN, h]) (by decide +kernel) q
theorem i_isiIB {i : Int} (q : Q (.bl false) H) : rIsiA [.int i, .ty "bool"] H Q := i_isi (t := "int") rfl (by decide +kernel) q
theorem i_isiNB (q : Q (.bl false) H) : rIsiA [.non, .ty "bool"] H Q := i_isi (t := "NoneType") rfl (by decide +kernel) q
theorem i_isiBB {k : Bool} (q : Q (.bl true) H) : rIsiA [.bl k, .ty "bool"] H Q := i_isi (t := "bool") rfl (by decide +kernel) q
theorem i_app {l : Addr} {xs : List V} {y : V} (h : H l = some (.lst xs)) (hz : xs.length < sizeLine) (q : Q .non (upd H l (.lst (xs ++ [y])))) : rAppA (.ref l) [y] H Q := by simp only [rAppA, h]; exact ⟨hz, q⟩
theorem i_ext {l p : Addr} {xs ys : List V} (h : H l = some (.lst xs)) (h2 : H p = some (.lst ys)) (hz : xs.length + ys.length ≤ sizeLine) (q : Q .non (upd H l (.lst (xs ++ ys)))) : rExtA (.ref l) [.ref p] H Q := by simp only [rExtA, h, h2]; exact ⟨hz, q⟩
theorem i_popL {l : Addr} {xs : List V} {y : V} (h : H l = some (.lst xs)) (hy : xs[xs.length - 1]? = some y) (q : Q y (upd H l (.lst xs.dropLast))) : rPopL (.ref l) [] H Q := by simp only [rPopL, h]; exact ⟨y, hy, q⟩
theorem i_popI {l : Addr} {xs : List V} {k : Nat} {y : V} (h : H l = some (.lst xs)) (hk : k < 2 ^ 62) (hy : xs[k]? = some y) (q : Q y (upd H l (.lst (xs.eraseIdx k)))) : rPopI (.ref l) [.int (k : Int)] H Q := by simp only [rPopI, h]; exact ⟨k, y, rfl, hk, hy, q⟩
theorem i_pop0 {l : Addr} {ys : List V} {y : V} (h : H l = some (.lst (y :: ys))) (q : Q y (upd H l (.lst ys))) : rPopI (.ref l) [.int 0] H Q := i_popI (k := 0) h (by decide) rfl q
theorem i_setL {p : Addr} {xs : List V} {k : Int} {j : Nat} {v : V} {R : Hp → Prop} (h : H p = some (.lst xs)) (hj : ixN xs.length k = some j) (q : R (upd H p (.lst (xs.set j v)))) : rSetA (.ref p) (.int k) v H R := by simp only [rSetA, h]; exact ⟨j, hj, q⟩
theorem i_dget {td ty : TE} (q : td σ H fun x H1 => ty σ H1 fun y H2 => ∃ a v, x = .ref a ∧ DGet H2 a y (some v) ∧ Q v H2) : tDGet td ty σ H Q := q
theorem i_dgetK {a : Addr} {kvs : List (Key × V)} {k : Key} {y v : V} {R : V → Prop} (h : H a = some (.dK kvs)) (hy : y = kV k) (hv : valV kvs k = some v) (q : R v) : (∃ a' v', V.ref a = .ref a' ∧ DGet H a' y (some v') ∧ R v') := ⟨a, v, rfl, .inl ⟨kvs, k, Rd.of h, hy, hv.symm⟩, q⟩
theorem i_dputK {a : Addr} {kvs : List (Key × V)} {k : Key} {y v : V} {R : Hp → Prop} (h : H a = some (.dK kvs)) (hy : y = kV k) (hz : kvs.length < sizeLine) (q : R (upd H a (.dK (putK kvs k v)))) : (∃ a' H4, V.ref a = .ref a' ∧ DPut H a' y v H4 ∧ R H4) := ⟨a, _, rfl, .inl ⟨kvs, k, h, hy, hz, rfl⟩, q⟩
theorem i_disp {trs : List (TE × TE)} (q : ∀ p, H p = none → tPairs trs σ (upd H p (.dK [])) fun ps H2 => H2 p = some (.dK []) ∧ ∃ kvs : List (Key × V), ps = kvs.map (fun kv => (kV kv.1, kv.2)) ∧ kvs.length ≤ 15 ∧ Q (.ref p) (upd H2 p (.dK (mergeK [] kvs)))) : tDisp trs σ H Q := q
theorem i_pcons {tk tv : TE} {r : List (TE × TE)} {R : List (V × V) → Hp → Prop} (q : tk σ H fun x H1 => tv σ H1 fun y H2 => tPairs r σ H2 fun ps H3 => R ((x, y) :: ps) H3) : tPairs ((tk, tv) :: r) σ H R := q
theorem i_pnil {R : List (V × V) → Hp → Prop} (q : R [] H) : tPairs [] σ H R := q
theorem i_neN {K : PySem.W.Frag} (q : Q (.bl false) H) : rNeA K .non .non H Q := q
theorem i_eqN {K : PySem.W.Frag} (q : Q (.bl true) H) : rEqA K .non .non H Q := q
theorem i_neB {K : PySem.W.Frag} {a b : Bool} (q : Q (.bl (!decide (a = b))) H) : rNeA K (.bl a) (.bl b) H Q := q
theorem i_eqB {K : PySem.W.Frag} {a b : Bool} (q : Q (.bl (decide (a = b))) H) : rEqA K (.bl a) (.bl b) H Q := q
theorem i_for {wi : TI} {g : TG} {tb : TS} (q : wi σ H fun J H1 => ∃ W : Nat → Nat → L2.St → Hp → Prop, (∃ m, W 0 m σ H1) ∧ ∀ i m σ H, W i m σ H → (J.stop i H ∧ nx σ H) ∨ (J.go i H ∧ ∃ N : L2.St → Hp → Prop, (∀ σ' H', N σ' H' → ∃ m', m' < m ∧ W (i + 1) m' σ' H') ∧ ∀ x H', J.yld i H x H' → g x σ H' fun σ2 H2 => tb ⟨N, rt, nx, N⟩ σ2 H2)) : tFor wi g tb ⟨nx, rt, bk, ct⟩ σ H := q
theorem i_while {c : TT} {tb : TS} (W : Nat → L2.St → Hp → Prop) (m : Nat) (w0 : W m σ H) (q : ∀ m σ H, W m σ H → c σ H fun b H1 => if b = true then ∃ N : L2.St → Hp → Prop, (∀ σ' H', N σ' H' → ∃ m', m' < m ∧ W m' σ' H') ∧ tb ⟨N, rt, nx, N⟩ σ H1 else nx σ H1) : tWhile c tb ⟨nx, rt, bk, ct⟩ σ H := ⟨W, ⟨m, w0⟩, q⟩
theorem i_wgo {m : Nat} {W : Nat → L2.St → Hp → Prop} {tb : TS} (q : tb ⟨fun σ' H' => ∃ m', m' < m ∧ W m' σ' H', rt, nx, fun σ' H' => ∃ m', m' < m ∧ W m' σ' H'⟩ σ H) : (∃ N : L2.St → Hp → Prop, (∀ σ' H', N σ' H' → ∃ m', m' < m ∧ W m' σ' H') ∧ tb ⟨N, rt, nx, N⟩ σ H) := ⟨_, fun _ _ h => h, q⟩
theorem i_ilist {K : PySem.W.Frag} {tl : TE} {R : It → Hp → Prop} (q : tl σ H fun x H1 => ∃ a, x = .ref a ∧ (∃ xs, SqL K H1 a xs) ∧ R (Itl K a) H1) : iList K tl σ H R := q
theorem i_itup {K : PySem.W.Frag} {tl : TE} {R : It → Hp → Prop} (q : tl σ H fun x H1 => ∃ a, x = .ref a ∧ (∃ xs, SqT K H1 a xs) ∧ R (Itt K a) H1) : iTup K tl σ H R := q
theorem i_rng1 {ta : TA} {R : It → Hp → Prop} (q : ta σ H fun vs H1 => ∃ j : Int, vs = [.int j] ∧ -(2 ^ 62) ≤ j ∧ j < 2 ^ 62 ∧ R (Itr 0 j.toNat) H1) : iRng1 ta σ H R := q
theorem i_rng2 {ta : TA} {R : It → Hp → Prop} (q : ta σ H fun vs H1 => ∃ i j : Int, vs = [.int i, .int j] ∧ (-(2 ^ 62) ≤ i ∧ i < 2 ^ 62 ∧ -(2 ^ 62) ≤ j ∧ j < 2 ^ 62) ∧ R (Itr i (j - i).toNat) H1) : iRng2 ta σ H R := q
theorem i_ex1 {j : Int} {R : Int → Prop} (q : R j) : (∃ i : Int, [V.int j] = [.int i] ∧ R i) := ⟨j, rfl, q⟩
theorem i_ex2 {i j : Int} {R : Int → Int → Prop} (q : R i j) : (∃ i' j' : Int, [V.int i, V.int j] = [.int i', .int j'] ∧ R i' j') := ⟨i, j, rfl, q⟩
theorem i_exr {p : Addr} {R : Addr → Prop} (q : R p) : (∃ a, V.ref p = .ref a ∧ R a) := ⟨p, rfl, q⟩
theorem i_mth {p C dx : Addr} {fs : List (Str × V)} {m : Str} {R : Prop} (h : H p = some (.ins C dx fs)) (hl : fs.lookup m = none) (q : R) : (∃ a dx fs, V.ref p = .ref a ∧ H a = some (.ins C dx fs) ∧ fs.lookup m = none ∧ R) := ⟨p, dx, fs, rfl, h, hl, q⟩
theorem i_fld {K : PySem.W.Frag} {ta : TE} {f : Str} (q : ta σ H fun x H1 => ∃ a C dx fs v, x = .ref a ∧ H1 a = some (.ins C dx fs) ∧ Cls K C ∧ NoAttr K C f ∧ fs.lookup f = some v ∧ Q v H1) : tFld K ta f σ H Q := q
theorem i_lc {wi : TI} {g : TG} {tt : TT} {te : TE} {vs : List Nat} (q : wi σ H fun J H1 => ∀ D, H1 D = none → ∃ W : Nat → Nat → Hp → Prop, (∃ m, W 0 m (upd H1 D (.lst []))) ∧ ∀ i m H, W i m H → (J.stop i H ∧ Q (.ref D) H) ∨ (J.go i H ∧ ∃ Nx : Hp → Prop, (∀ H', Nx H' → ∃ m', m' < m ∧ W (i + 1) m' H') ∧ ∀ x H', J.yld i H x H' → g x (wipe σ vs) H' fun σ2 H2 => wipe σ2 vs = wipe σ vs ∧ tt σ2 H2 fun b H3 => if b = true then te σ2 H3 fun y H4 => ∃ acc, H4 D = some (.lst acc) ∧ acc.length < sizeLine ∧ Nx (upd H4 D (.lst (acc ++ [y]))) else Nx H3)) : tLc wi g tt te vs σ H Q := q
end
local macro_rules | `(tactic| walk_at "s1") => `(tactic| with_reducible first | refine i_seq ?_ | refine i_asg ?_ | refine i_gname ?_ | refine i_ifS ?_ | refine i_ret ?_ | refine i_retN ?_ | refine i_drop ?_ | refine i_next ?_ | refine i_brk ?_ | refine i_cnt ?_ | refine i_par ?_ | refine i_par2 ?_ | refine i_fldS ?_ | refine i_dput ?_ | refine i_c ?_ | refine i_op ?_ | refine i_un ?_ | refine i_rU ?_ | refine i_rI0 ?_ | refine i_test ?_ | refine i_B ?_ | refine i_bl ?_ | refine i_tru ?_ | refine i_truB ?_ | refine i_and ?_ | refine i_or ?_ | refine i_not ?_ | refine i_andV ?_ | refine i_orV ?_ | refine i_notV ?_ | refine i_if ?_ | refine i_call ?_ | refine i_meth ?_ | refine i_make ?_ | refine i_cb ?_ | refine i_cons ?_ | refine i_nil ?_ | refine i_tup ?_ | refine i_lst ?_ | refine i_bml ?_ | refine i_gsub ?_ | refine i_gcons ?_ | refine i_gnil ?_ | refine i_sl ?_ | refine i_nop ?_ | refine i_part ?_ | refine i_prt ?_ | refine i_isN ?_ | refine i_notN ?_ | refine i_yes ?_ | refine i_tt ?_ | refine i_ff ?_ | refine i_ntt ?_ | refine i_nff ?_ | refine i_addI ?_ | refine i_eqI ?_ | refine i_neI ?_ | refine i_eqS ?_ | refine i_neS ?_ | refine i_intI ?_ | refine i_intB ?_ | refine i_abs ?_ | refine i_isiIB ?_ | refine i_isiNB ?_ | refine i_isiBB ?_ | refine i_dget ?_ | refine i_for ?_ | refine i_ilist ?_ | refine i_itup ?_ | refine i_rng1 ?_ | refine i_rng2 ?_ | refine i_ex1 ?_ | refine i_ex2 ?_ | refine i_exr ?_ | refine i_fld ?_ | refine i_disp ?_ | refine i_pcons ?_ | refine i_pnil ?_ | refine i_neN ?_ | refine i_eqN ?_ | refine i_neB ?_ | refine i_eqB ?_ | refine i_lc ?_ | refine i_var (by with_unfolding_all rfl) ?_ | refine i_tB (by decide +kernel) ?_ | refine i_fB (by decide +kernel) ?_ | refine i_dnI ?_ | refine i_nyI ?_ | refine i_dnR ?_ | refine i_nyR ?_ | refine i_ixT (by assumption) (by with_unfolding_all rfl) ?_ | refine i_ixL (by assumption) (by with_unfolding_all rfl) ?_ | refine i_lenL (by assumption) ?_ | refine i_lenT (by assumption) ?_ | refine i_isL (by assumption) ?_ | refine i_isiLL (by assumption) ?_ | refine i_isiTL (by assumption) ?_ | refine i_gtup (by assumption) (by with_unfolding_all rfl) ?_)
local macro_rules | `(tactic| walk_at "s") => `(tactic| repeat (walk_at "s1"))
/-- the state of the draws: a list of a list of numbers and of a number -/
structure Rng (a c : Addr) (H : Hp) : Prop where
  ne : a ≠ c
  ex : ∃ (ns : List Int) (m : Int), H a = some (.lst [.ref c, .int m]) ∧ H c = some (.lst (ns.map V.int)) ∧ (∀ n ∈ ns, 0 ≤ n) ∧ 0 ≤ m
/-- what was so beside the two places is so -/
def Fra (a c : Addr) (H H' : Hp) : Prop := ∀ b, b ≠ a → b ≠ c → H' b = H b
theorem Fra.refl {a c : Addr} {H : Hp} : Fra a c H H := fun _ _ _ => rfl
theorem Fra.trans {a c : Addr} {H H1 H2 : Hp} (h : Fra a c H H1) (k : Fra a c H1 H2) : Fra a c H H2 := fun b p q => (k b p q).trans (h b p q)
def spDraw : Sp := fun vs H Q _ => ∃ (a c : Addr) (n : Int), vs = [.ref a, .int n] ∧ 0 < n ∧ n < 1073741824 ∧ Rng a c H ∧
  ∀ (H' : Hp) (r : Int), 0 ≤ r → r < n → Rng a c H' → Fra a c H H' → Q (.int r) H'
theorem len_draw {vs : List V} {H : Hp} {Q : VK} {E : XK} (h : spDraw vs H Q E) : vs.length = 2 := by
  obtain ⟨a, c, n, rfl, _⟩ := h
  rfl
def t_draw (K : PySem.W.Frag) : TS :=
  (tSeq (tAsg (tOp rIxA (tVar 0) (tC (.int 0))) (gName 2)) (tSeq (tWhile (tAnd (tTest (tOp (rI0 fun i j => .bl (decide (j < i))) (tCB rLenA (tCons (tVar 2) tNil)) (tC (.int 0)))) (tTest (tOp (rEqA K) (tOp rIxA (tVar 2) (tC (.int 0))) (tC (.int 0))))) (tDrop (tBML rPopI (tVar 2) (tCons (tC (.int 0)) tNil)))) (tSeq (tIfS (tTest (tOp (rI0 fun i j => .bl (decide (j < i))) (tCB rLenA (tCons (tVar 2) tNil)) (tC (.int 0)))) (tSeq (tAsg (tOp rIxA (tVar 2) (tC (.int 0))) (gName 3)) (tSeq (tAsg (tOp (rI CDiv fun i j => .int (i / j)) (tVar 3) (tVar 1)) (gSub (tVar 2) (tC (.int 0)) rSetA)) (tRet (tOp (rI (fun _ j => 0 < j) fun i j => .int (i % j)) (tCB rIntA (tCons (tVar 3) tNil)) (tVar 1))))) tNext) (tSeq (tAsg (tOp (rI (fun _ j => 0 < j) fun i j => .int (i % j)) (tCB rIntA (tCons (tOp rAddA (tOp rMulA (tOp rIxA (tVar 0) (tC (.int 1))) (tC (.int 48271))) (tC (.int 12345))) tNil)) (tC (.int 2147483647))) (gName 4)) (tSeq (tAsg (tVar 4) (gSub (tVar 0) (tC (.int 1)) rSetA)) (tRet (tOp (rI (fun _ j => 0 < j) fun i j => .int (i % j)) (tCB rIntA (tCons (tOp (rI CDiv fun i j => .int (i / j)) (tVar 4) (tC (.int 64))) tNil)) (tVar 1))))))))
theorem fra_upd2 {a c : Addr} {H H' : Hp} {o : HO} (h : Fra a c H H') : Fra a c H (upd H' c o) := fun b p q => by rw [upd_ne q]; exact h b p q
theorem fra_upd1 {a c : Addr} {H H' : Hp} {o : HO} (h : Fra a c H H') : Fra a c H (upd H' a o) := fun b p q => by rw [upd_ne p]; exact h b p q
theorem at0 {v : V} {xs : List V} : atI (v :: xs) 0 = some v := atI_nat (j := 0) rfl
theorem atN {xs : List V} {i : Int} {j : Nat} {v : V} (e : i = (j : Int)) (h : xs[j]? = some v) : atI xs i = some v := by
  rw [e]
  exact atI_nat h
theorem ixS0 {v : V} {xs : List V} : ixN (v :: xs).length 0 = some 0 := by
  unfold ixN
  rw [if_pos (by omega), if_pos (by simp <;> omega)]
  rfl
theorem pure_draw (K : PySem.W.Frag) {N : List Str} (vs : List V) (H : Hp) (Q : VK) (E : XK) (h : spDraw vs H Q E) (hN : N.length = 5) : t_draw K { nx := fun _ H' => Q .non H', rt := Q } (L2.start N vs) H := by
  obtain ⟨a, c, n, rfl, h0, h1, R, k⟩ := h
  obtain ⟨ne, ns, m, ha, hc, hn, hm⟩ := R
  have es : L2.start N [V.ref a, .int n] = [some (.ref a), some (.int n), none, none, none] := by
    unfold L2.start
    rw [hN]
    rfl
  rw [es]
  unfold t_draw
  walk_at "s"
  try refine i_ixL ha (by rfl) ?_
  walk_at "s"
  refine i_while (fun j σ H' => σ = [some (.ref a), some (.int n), some (.ref c), none, none] ∧ ∃ ns : List Int, j = ns.length ∧ H' a = some (.lst [.ref c, .int m]) ∧ H' c = some (.lst (ns.map V.int)) ∧ (∀ n ∈ ns, 0 ≤ n) ∧ Fra a c H H')
    _ ⟨rfl, ns, rfl, ha, hc, hn, Fra.refl⟩ ?_
  rintro j σ H1 ⟨rfl, ns, rfl, ha, hc, hn, fr⟩
  walk_at "s"
  try refine i_lenL hc ?_
  walk_at "s"
  cases ns with
  | nil =>
    try refine i_dn (by simp) ?_
    walk_at "s"
    try refine i_lenL hc ?_
    walk_at "s"
    try refine i_dn (by simp) ?_
    walk_at "s"
    try refine i_ixL ha (by rfl) ?_
    walk_at "s"
    try refine i_mulI (.inr ⟨by decide, by decide⟩) ?_
    walk_at "s"
    try refine i_rI (by show (0 : Int) < 2147483647; decide) ?_
    walk_at "s"
    refine i_setL ha (by rfl) ?_
    walk_at "s"
    refine i_rI ⟨by decide, by decide⟩ ?_
    walk_at "s"
    refine i_rI h0 ?_
    exact k _ _ (Int.emod_nonneg _ (by omega)) (Int.emod_lt_of_pos _ h0) ⟨ne, [], _, upd_same, by rw [upd_ne ne.symm]; exact hc, by simp, Int.emod_nonneg _ (by decide)⟩ (fra_upd1 fr)
  | cons z ns =>
    try refine i_dy (by simp <;> omega) ?_
    walk_at "s"
    try refine i_ixL hc at0 ?_
    walk_at "s"
    refine i_d2 (fun hz => ?_) (fun hz => ?_)
    · refine i_wgo ?_
      walk_at "s"
      try refine i_isL hc ?_
      walk_at "s"
      refine i_pop0 hc ?_
      exact ⟨ns.length, by simp, rfl, ns, rfl, by rw [upd_ne ne]; exact ha, upd_same, fun n h => hn n (List.mem_cons_of_mem _ h), fra_upd2 fr⟩
    · walk_at "s"
      try refine i_lenL hc ?_
      walk_at "s"
      try refine i_dy (by simp <;> omega) ?_
      walk_at "s"
      try refine i_ixL hc at0 ?_
      walk_at "s"
      refine i_rI ⟨h0, h1⟩ ?_
      walk_at "s"
      refine i_setL hc ixS0 ?_
      walk_at "s"
      refine i_rI h0 ?_
      have hz0 : 0 ≤ z := hn z List.mem_cons_self
      refine k _ _ (Int.emod_nonneg _ (by omega)) (Int.emod_lt_of_pos _ h0) ⟨ne, (z / n) :: ns, m, by rw [upd_ne ne]; exact ha, upd_same, fun y hy => ?_, hm⟩ (fra_upd2 fr)
      rcases List.mem_cons.mp hy with e | e
      · rw [e]
        exact Int.ediv_nonneg hz0 (by omega)
      · exact hn y (List.mem_cons_of_mem _ e)
theorem sz {n : Nat} (h : n ≤ 100000) : n ≤ sizeLine := Nat.le_trans h (by decide)
theorem szl {n : Nat} (h : n ≤ 100000) : n < sizeLine := Nat.lt_of_le_of_lt h (by decide)

/-! ### loops and comprehensions -/
section
variable {K : PySem.W.Frag} {a : Addr} {xs : List V} {g : TG} {tb : TS} {σ : L2.St} {H : Hp} {nx : L2.St → Hp → Prop} {rt : VK} {tt : TT} {te : TE} {v : Nat} {D : Addr} {Qd : Hp → Prop}
theorem i_forL (xs : List V) (Pv : Nat → L2.St → Hp → Prop) (h0 : Pv 0 σ H) (hl : ∀ i σ H, Pv i σ H → SqL K H a xs)
    (hs : ∀ i x σ H, xs[i]? = some x → Pv i σ H → g x σ H fun σ2 H2 => tb ⟨Pv (i + 1), rt, nx, Pv (i + 1)⟩ σ2 H2) (hd : ∀ σ H, Pv xs.length σ H → nx σ H) :
    (∃ xs, SqL K H a xs) ∧ ∃ W : Nat → Nat → L2.St → Hp → Prop, (∃ m, W 0 m σ H) ∧ ∀ i m σ H, W i m σ H → ((Itl K a).stop i H ∧ nx σ H) ∨ ((Itl K a).go i H ∧ ∃ N : L2.St → Hp → Prop, (∀ σ' H', N σ' H' → ∃ m', m' < m ∧ W (i + 1) m' σ' H') ∧ ∀ x H', (Itl K a).yld i H x H' → g x σ H' fun σ2 H2 => tb ⟨N, rt, nx, N⟩ σ2 H2) :=
  ⟨⟨xs, hl 0 σ H h0⟩, for_list (D := ⟨nx, rt, fun _ _ => False, fun _ _ => False⟩) (xs := xs) Pv h0 (fun i σ H _ p => hl i σ H p) hs hd⟩
theorem i_forT (xs : List V) (Pv : Nat → L2.St → Hp → Prop) (h0 : Pv 0 σ H) (hl : ∀ i σ H, Pv i σ H → SqT K H a xs)
    (hs : ∀ i x σ H, xs[i]? = some x → Pv i σ H → g x σ H fun σ2 H2 => tb ⟨Pv (i + 1), rt, nx, Pv (i + 1)⟩ σ2 H2) (hd : ∀ σ H, Pv xs.length σ H → nx σ H) :
    (∃ xs, SqT K H a xs) ∧ ∃ W : Nat → Nat → L2.St → Hp → Prop, (∃ m, W 0 m σ H) ∧ ∀ i m σ H, W i m σ H → ((Itt K a).stop i H ∧ nx σ H) ∨ ((Itt K a).go i H ∧ ∃ N : L2.St → Hp → Prop, (∀ σ' H', N σ' H' → ∃ m', m' < m ∧ W (i + 1) m' σ' H') ∧ ∀ x H', (Itt K a).yld i H x H' → g x σ H' fun σ2 H2 => tb ⟨N, rt, nx, N⟩ σ2 H2) :=
  ⟨⟨xs, hl 0 σ H h0⟩, for_tup (D := ⟨nx, rt, fun _ _ => False, fun _ _ => False⟩) (xs := xs) Pv h0 (fun i σ H _ p => hl i σ H p) hs hd⟩
theorem i_forR {j : Int} (n : Nat) (hj : j = (n : Int)) (hn : n ≤ 1000000000) (Pv : Nat → L2.St → Hp → Prop) (h0 : Pv 0 σ H)
    (hs : ∀ i σ H, i < n → Pv i σ H → g (.int (i : Int)) σ H fun σ2 H2 => tb ⟨Pv (i + 1), rt, nx, Pv (i + 1)⟩ σ2 H2) (hd : ∀ σ H, Pv n σ H → nx σ H) :
    -(2 ^ 62) ≤ j ∧ j < 2 ^ 62 ∧ ∃ W : Nat → Nat → L2.St → Hp → Prop, (∃ m, W 0 m σ H) ∧ ∀ i m σ H, W i m σ H → ((Itr 0 j.toNat).stop i H ∧ nx σ H) ∨ ((Itr 0 j.toNat).go i H ∧ ∃ N : L2.St → Hp → Prop, (∀ σ' H', N σ' H' → ∃ m', m' < m ∧ W (i + 1) m' σ' H') ∧ ∀ x H', (Itr 0 j.toNat).yld i H x H' → g x σ H' fun σ2 H2 => tb ⟨N, rt, nx, N⟩ σ2 H2) := by
  subst hj
  refine ⟨by omega, by omega, ?_⟩
  exact for_range (D := ⟨nx, rt, fun _ _ => False, fun _ _ => False⟩) (lo := 0) (n := n) Pv h0 (fun i σ H hi p => by rw [Int.zero_add]; exact hs i σ H hi p) hd
theorem i_forR2 {lo j : Int} (n : Nat) (hj : (j - lo).toNat = n) (hb : -(2 ^ 62) ≤ lo ∧ lo < 2 ^ 62 ∧ -(2 ^ 62) ≤ j ∧ j < 2 ^ 62) (Pv : Nat → L2.St → Hp → Prop) (h0 : Pv 0 σ H)
    (hs : ∀ (i : Nat) σ H, i < n → Pv i σ H → g (.int (lo + i)) σ H fun σ2 H2 => tb ⟨Pv (i + 1), rt, nx, Pv (i + 1)⟩ σ2 H2) (hd : ∀ σ H, Pv n σ H → nx σ H) :
    (-(2 ^ 62) ≤ lo ∧ lo < 2 ^ 62 ∧ -(2 ^ 62) ≤ j ∧ j < 2 ^ 62) ∧ ∃ W : Nat → Nat → L2.St → Hp → Prop, (∃ m, W 0 m σ H) ∧ ∀ i m σ H, W i m σ H → ((Itr lo (j - lo).toNat).stop i H ∧ nx σ H) ∨ ((Itr lo (j - lo).toNat).go i H ∧ ∃ N : L2.St → Hp → Prop, (∀ σ' H', N σ' H' → ∃ m', m' < m ∧ W (i + 1) m' σ' H') ∧ ∀ x H', (Itr lo (j - lo).toNat).yld i H x H' → g x σ H' fun σ2 H2 => tb ⟨N, rt, nx, N⟩ σ2 H2) := by
  subst hj
  exact ⟨hb, for_range (D := ⟨nx, rt, fun _ _ => False, fun _ _ => False⟩) (lo := lo) Pv h0 hs hd⟩
theorem wipe1 {v : Nat} {x : V} : (wipe σ [v]).set v (some x) = σ.set v (some x) := by
  show (σ.set v none).set v (some x) = _
  rw [List.set_set]
theorem wipe2 {v : Nat} {x : V} : wipe (σ.set v (some x)) [v] = wipe σ [v] := by
  show (σ.set v (some x)).set v none = σ.set v none
  rw [List.set_set]
/-- a comprehension over a list, one name -/
theorem i_lcL (xs : List V) (Pv : Nat → Hp → Prop) (h0 : Pv 0 (upd H D (.lst []))) (hl : ∀ i H, Pv i H → SqL K H a xs)
    (hs : ∀ i x H, xs[i]? = some x → Pv i H → tt (σ.set v (some x)) H fun b H3 => if b = true then te (σ.set v (some x)) H3 fun y H4 => ∃ acc, H4 D = some (.lst acc) ∧ acc.length < sizeLine ∧ Pv (i + 1) (upd H4 D (.lst (acc ++ [y]))) else Pv (i + 1) H3)
    (hd : ∀ H, Pv xs.length H → Qd H) :
    ∃ W : Nat → Nat → Hp → Prop, (∃ m, W 0 m (upd H D (.lst []))) ∧ ∀ i m H, W i m H → ((Itl K a).stop i H ∧ Qd H) ∨ ((Itl K a).go i H ∧ ∃ Nx : Hp → Prop, (∀ H', Nx H' → ∃ m', m' < m ∧ W (i + 1) m' H') ∧ ∀ x H', (Itl K a).yld i H x H' → gName v x (wipe σ [v]) H' fun σ2 H2 => wipe σ2 [v] = wipe σ [v] ∧ tt σ2 H2 fun b H3 => if b = true then te σ2 H3 fun y H4 => ∃ acc, H4 D = some (.lst acc) ∧ acc.length < sizeLine ∧ Nx (upd H4 D (.lst (acc ++ [y]))) else Nx H3) :=
  lc_list (xs := xs) Pv h0 (fun i H _ p => hl i H p) (fun i x H e p => by
    show wipe ((wipe σ [v]).set v (some x)) [v] = wipe σ [v] ∧ tt ((wipe σ [v]).set v (some x)) H _
    rw [wipe1]
    exact ⟨wipe2, hs i x H e p⟩) hd
/-- .. over range(n) -/
theorem i_lcR {j : Int} (n : Nat) (hj : j = (n : Int)) (Pv : Nat → Hp → Prop) (h0 : Pv 0 (upd H D (.lst [])))
    (hs : ∀ (i : Nat) H, i < n → Pv i H → tt (σ.set v (some (.int (i : Int)))) H fun b H3 => if b = true then te (σ.set v (some (.int (i : Int)))) H3 fun y H4 => ∃ acc, H4 D = some (.lst acc) ∧ acc.length < sizeLine ∧ Pv (i + 1) (upd H4 D (.lst (acc ++ [y]))) else Pv (i + 1) H3)
    (hd : ∀ H, Pv n H → Qd H) :
    ∃ W : Nat → Nat → Hp → Prop, (∃ m, W 0 m (upd H D (.lst []))) ∧ ∀ i m H, W i m H → ((Itr 0 j.toNat).stop i H ∧ Qd H) ∨ ((Itr 0 j.toNat).go i H ∧ ∃ Nx : Hp → Prop, (∀ H', Nx H' → ∃ m', m' < m ∧ W (i + 1) m' H') ∧ ∀ x H', (Itr 0 j.toNat).yld i H x H' → gName v x (wipe σ [v]) H' fun σ2 H2 => wipe σ2 [v] = wipe σ [v] ∧ tt σ2 H2 fun b H3 => if b = true then te σ2 H3 fun y H4 => ∃ acc, H4 D = some (.lst acc) ∧ acc.length < sizeLine ∧ Nx (upd H4 D (.lst (acc ++ [y]))) else Nx H3) := by
  subst hj
  exact lc_range (lo := 0) (n := n) Pv h0 (fun i H e p => by
    show wipe ((wipe σ [v]).set v (some (.int (0 + (i : Int))))) [v] = wipe σ [v] ∧ tt ((wipe σ [v]).set v (some (.int (0 + (i : Int))))) H _
    rw [wipe1, Int.zero_add]
    exact ⟨wipe2, hs i H e p⟩) hd
end

/-! ### the two places of the draws, and what grows beside them -/
/-- what stands beside the two places, grows -/
def Gr (a c : Addr) (H H' : Hp) : Prop := Same (hid [a, c] H) (hid [a, c] H')
section
variable {a c p : Addr} {H H' H1 : Hp} {o : HO}
theorem Gr.refl : Gr a c H H := Same.refl _
theorem Gr.trans (h : Gr a c H H1) (k : Gr a c H1 H') : Gr a c H H' := Same.trans h k
theorem Fra.hid (h : Fra a c H H') : hid [a, c] H' = hid [a, c] H := hid_eq fun b hb => h b (fun e => hb (by rw [e]; exact List.mem_cons_self)) fun e => hb (by rw [e]; exact List.mem_cons_of_mem _ List.mem_cons_self)
theorem Fra.gr (h : Fra a c H H') : Gr a c H H' := by
  unfold Gr
  rw [h.hid]
  exact Same.refl _
theorem Rng.at1 (R : Rng a c H) : ∃ o, H a = some o := let ⟨_, _, _, h, _⟩ := R; ⟨_, h⟩
theorem Rng.at2 (R : Rng a c H) : ∃ o, H c = some o := let ⟨_, _, _, _, h, _⟩ := R; ⟨_, h⟩
theorem Rng.fresh (R : Rng a c H) (h : H p = none) : p ≠ a ∧ p ≠ c := by
  obtain ⟨o1, e1⟩ := R.at1
  obtain ⟨o2, e2⟩ := R.at2
  exact ⟨fun e => (by rw [e, e1] at h; cases h), fun e => (by rw [e, e2] at h; cases h)⟩
theorem Rng.upd (R : Rng a c H) (h1 : p ≠ a) (h2 : p ≠ c) : Rng a c (L2.upd H p o) := by
  obtain ⟨ne, ns, m, ha, hc, hn, hm⟩ := R
  exact ⟨ne, ns, m, by rw [upd_ne h1.symm]; exact ha, by rw [upd_ne h2.symm]; exact hc, hn, hm⟩
theorem hid2 (h1 : p ≠ a) (h2 : p ≠ c) : p ∉ [a, c] := fun h => by
  rcases List.mem_cons.mp h with e | e
  · exact h1 e
  · rcases List.mem_cons.mp e with e | e
    · exact h2 e
    · cases e
/-- a new object -/
theorem new_step (R : Rng a c H) (h : H p = none) : Rng a c (L2.upd H p o) ∧ Gr a c H (L2.upd H p o) ∧ hid [a, c] (L2.upd H p o) p = some o ∧ p ≠ a ∧ p ≠ c := by
  obtain ⟨h1, h2⟩ := R.fresh h
  refine ⟨R.upd h1 h2, Lb.Same.hid (Same.newp h), ?_, h1, h2⟩
  rw [hid_out (hid2 h1 h2), upd_same]
theorem Gr.at (h : Gr a c H H') (e : hid [a, c] H p = some o) : H' p = some o := (hid_some (h _ _ e)).1
theorem hid_get (e : hid [a, c] H p = some o) : H p = some o := (hid_some e).1
theorem hid_ne (e : hid [a, c] H p = some o) : p ≠ a ∧ p ≠ c := by
  have h := (hid_some e).2
  exact ⟨fun q => h (by rw [q]; exact List.mem_cons_self), fun q => h (by rw [q]; exact List.mem_cons_of_mem _ List.mem_cons_self)⟩
end
def spPick : Sp := fun vs H Q _ => ∃ (a c p : Addr) (xs : List V), vs = [.ref a, .ref p] ∧ Rng a c H ∧ H p = some (.lst xs) ∧ p ≠ a ∧ p ≠ c ∧ xs ≠ [] ∧ xs.length ≤ 100000 ∧
  ∀ (H' : Hp) (v : V), v ∈ xs → Rng a c H' → Fra a c H H' → Q v H'
theorem len_pick {vs : List V} {H : Hp} {Q : VK} {E : XK} (h : spPick vs H Q E) : vs.length = 2 := by
  obtain ⟨a, c, p, xs, rfl, _⟩ := h
  rfl
def t_pick : TS := (tRet (tOp rIxA (tVar 1) (tCall spDraw [] E0 (tCons (tVar 0) (tCons (tCB rLenA (tCons (tVar 1) tNil)) tNil)))))
theorem pure_pick {N : List Str} (vs : List V) (H : Hp) (Q : VK) (E : XK) (h : spPick vs H Q E) (hN : N.length = 2) : t_pick { nx := fun _ H' => Q .non H', rt := Q } (L2.start N vs) H := by
  obtain ⟨a, c, p, xs, rfl, R, hp, n1, n2, hx, hz, k⟩ := h
  have es : L2.start N [V.ref a, .ref p] = [some (.ref a), some (.ref p)] := by
    unfold L2.start
    rw [hN]
    rfl
  rw [es]
  unfold t_pick
  walk_at "s"
  try refine i_lenL hp ?_
  walk_at "s"
  have hl : 0 < xs.length := List.length_pos_iff.mpr hx
  refine ⟨a, c, xs.length, rfl, by omega, by omega, R, fun H' r h0 h1 R' fr => ?_⟩
  have hp' : H' p = some (.lst xs) := by rw [fr p n1 n2]; exact hp
  obtain ⟨j, rfl⟩ : ∃ j : Nat, r = (j : Int) := ⟨r.toNat, by omega⟩
  have hj : j < xs.length := by omega
  refine i_ixL hp' (atI_nat (List.getElem?_eq_getElem hj)) ?_
  exact k H' _ (List.getElem_mem hj) R' fr
def spState (K : PySem.W.Frag) : Sp := fun vs H Q _ => ∃ (s : Addr) (ns : List Int), vs = [.ref s] ∧ SqL K H s (ns.map V.int) ∧ ns.length ≤ 63 ∧
  ∀ (H' : Hp) (a c : Addr), Same H H' → Rng a c H' → H a = none → H c = none → Q (.ref a) H'
theorem len_state {K : PySem.W.Frag} {vs : List V} {H : Hp} {Q : VK} {E : XK} (h : spState K vs H Q E) : vs.length = 1 := by
  obtain ⟨a, ns, rfl, _⟩ := h
  rfl
def t_state (K : PySem.W.Frag) : TS :=
  (tSeq (tAsg (tC (.int 7)) (gName 1)) (tSeq (tFor (iList K (tVar 0)) (gName 2) (tAsg (tOp (rI (fun _ j => 0 < j) fun i j => .int (i % j)) (tCB rIntA (tCons (tOp rAddA (tOp rMulA (tVar 1) (tC (.int 31))) (tVar 2)) tNil)) (tC (.int 1000003))) (gName 1))) (tRet (tLst (tCons (tLc (iList K (tVar 0)) (gName 2) tYes (tCB rAbsA (tCons (tVar 2) tNil)) [2]) (tCons (tOp rAddA (tVar 1) (tC (.int 1))) tNil))))))
theorem ints_at {ns : List Int} {i : Nat} {x : V} (h : (ns.map V.int)[i]? = some x) : ∃ z, x = .int z ∧ ns[i]? = some z := by
  rw [List.getElem?_map] at h
  cases e : ns[i]? with
  | none => rw [e] at h; cases h
  | some z => rw [e] at h; exact ⟨z, (Option.some.inj h).symm, rfl⟩
theorem pure_state (K : PySem.W.Frag) {N : List Str} (vs : List V) (H : Hp) (Q : VK) (E : XK) (h : spState K vs H Q E) (hN : N.length = 3) : t_state K { nx := fun _ H' => Q .non H', rt := Q } (L2.start N vs) H := by
  obtain ⟨s, ns, rfl, hS, hl, k⟩ := h
  have es : L2.start N [V.ref s] = [some (.ref s), none, none] := by
    unfold L2.start
    rw [hN]
    rfl
  rw [es]
  unfold t_state
  walk_at "s"
  refine i_forL (ns.map V.int) (fun i σ H' => H' = H ∧ ∃ (z : Int) (v : Option V), 0 ≤ z ∧ σ = [some (.ref s), some (.int z), v]) ⟨rfl, 7, none, by decide, rfl⟩ (fun i σ H' ⟨e, _⟩ => by rw [e]; exact hS) ?_ ?_
  · rintro i x σ H' hx ⟨rfl, z, v, hz, rfl⟩
    obtain ⟨y, rfl, _⟩ := ints_at hx
    walk_at "s"
    try refine i_mulI (.inr ⟨by decide, by decide⟩) ?_
    walk_at "s"
    refine i_rI (by show (0 : Int) < 1000003; decide) ?_
    walk_at "s"
    exact ⟨rfl, _, _, Int.emod_nonneg _ (by decide), rfl⟩
  · rintro σ H' ⟨rfl, z, v, hz, rfl⟩
    walk_at "s"
    refine ⟨⟨_, hS⟩, fun D hD => ?_⟩
    refine i_lcL (ns.map V.int) (fun i H2 => Same H' H2 ∧ ∃ ms : List Int, H2 D = some (.lst (ms.map V.int)) ∧ ms.length = i ∧ ∀ m ∈ ms, 0 ≤ m) ⟨Same.newp hD, [], upd_same, rfl, by simp⟩ (fun i H2 p => p.1.seq hS) ?_ ?_
    · rintro i x H2 hx ⟨sm, ms, hm, hml, hm0⟩
      obtain ⟨y, rfl, hy⟩ := ints_at hx
      have hi : i < ns.length := (List.getElem?_eq_some_iff.mp hy).1
      walk_at "s"
      refine ⟨_, hm, by rw [List.length_map]; exact szl (by omega), fun b o e => ?_, ms ++ [if y < 0 then -y else y], ?_, by rw [List.length_append, hml]; rfl, fun q hq => ?_⟩
      · rw [upd_ne (ne_of_none e hD)]
        exact sm b o e
      · rw [upd_same, List.map_append]
        rfl
      · rcases List.mem_append.mp hq with e | e
        · exact hm0 q e
        · rw [List.mem_singleton.mp e]
          split <;> omega
    · rintro H2 ⟨sm, ms, hm, hml, hm0⟩
      walk_at "s"
      refine ⟨sz (by simp), fun p hp => ?_⟩
      have npD : p ≠ D := fun e => by rw [e, hm] at hp; cases hp
      refine k _ p D (sm.trans (Same.newp hp)) ⟨npD, ms, z + 1, upd_same, by rw [upd_ne npD.symm]; exact hm, hm0, by omega⟩ (sm.free hp) hD

end Lb
set_option Elab.async false
set_option linter.all false
set_option maxRecDepth 100000
set_option maxHeartbeats 4000000
/-! Le: data that may be compared, heaps that only grow. Knows no program. -/
namespace Lb
open PySem PySem.Spec PyProof.Rows L2
/-- data without dicts, at most n deep -/
def Sh (n : Nat) (d : PyData) : Prop := d.canLay0 = true ∧ d.depth ≤ n
def ShA (n : Nat) (ds : List PyData) : Prop := PyData.canLayAll0 ds = true ∧ PyData.depthAll ds ≤ n
section
variable {n m : Nat} {d : PyData} {ds es : List PyData}
theorem Sh.shp (h : Sh n d) (hn : n ≤ 64 := by decide) : Shp d := by
  unfold Shp SeqAt.shaped
  rw [h.1, Bool.true_and, decide_eq_true (Nat.le_trans h.2 hn)]
theorem Sh.mono (h : Sh n d) (hn : n ≤ m) : Sh m d := ⟨h.1, Nat.le_trans h.2 hn⟩
theorem ShA.mono (h : ShA n ds) (hn : n ≤ m) : ShA m ds := ⟨h.1, Nat.le_trans h.2 hn⟩
theorem Sh.non : Sh n .none := ⟨rfl, Nat.zero_le _⟩
theorem Sh.bl {b : Bool} : Sh n (.bool b) := ⟨rfl, Nat.zero_le _⟩
theorem Sh.int {i : Int} : Sh n (.int i) := ⟨rfl, Nat.zero_le _⟩
theorem Sh.str {x : Str} (h : PyData.canLay0 (.str x) = true) : Sh n (.str x) := ⟨h, Nat.zero_le _⟩
theorem Sh.lst (h : ShA n ds) : Sh (n + 1) (.list ds) := ⟨h.1, Nat.succ_le_succ h.2⟩
theorem Sh.tup (h : ShA n ds) : Sh (n + 1) (.tuple ds) := ⟨h.1, Nat.succ_le_succ h.2⟩
theorem ShA.nil : ShA n [] := ⟨rfl, Nat.zero_le _⟩
theorem ShA.cons (h : Sh n d) (k : ShA n ds) : ShA n (d :: ds) := by
  refine ⟨?_, Nat.max_le.mpr ⟨h.2, k.2⟩⟩
  show (d.canLay0 && PyData.canLayAll0 ds) = true
  rw [h.1, k.1]
  rfl
theorem ShA.all : ∀ {ds : List PyData}, (∀ d ∈ ds, Sh n d) → ShA n ds
  | [], _ => .nil
  | d :: r, h => .cons (h d List.mem_cons_self) (ShA.all fun e he => h e (List.mem_cons_of_mem _ he))
theorem ShA.ints {ns : List Int} : ShA n (ns.map PyData.int) := .all fun d h => by
  obtain ⟨i, _, rfl⟩ := List.mem_map.mp h
  exact .int
theorem ShA.append (h : ShA n ds) (k : ShA n es) : ShA n (ds ++ es) := by
  induction ds with
  | nil => exact k
  | cons d r ih =>
    have h1 : (d.canLay0 && PyData.canLayAll0 r) = true := h.1
    have h2 := Bool.and_eq_true_iff.mp h1
    have h3 := Nat.max_le.mp h.2
    exact .cons ⟨h2.1, h3.1⟩ (ih ⟨h2.2, h3.2⟩)
end
section
variable {a c p : Addr} {H H' : Hp} {o : HO}
theorem Rng.same (R : Rng a c H) (s : Same H H') : Rng a c H' := by
  obtain ⟨ne, ns, m, ha, hc, hn, hm⟩ := R
  exact ⟨ne, ns, m, s _ _ ha, s _ _ hc, hn, hm⟩
theorem Gr.same (s : Same H H') : Gr a c H H' := Lb.Same.hid s
/-- what stands beside the two places stands -/
theorem Gr.keep (g : Gr a c H H') (h1 : p ≠ a) (h2 : p ≠ c) (e : H p = some o) : H' p = some o := g.at (by rw [hid_out (hid2 h1 h2)]; exact e)
theorem hid_of (h1 : p ≠ a) (h2 : p ≠ c) (e : H p = some o) : hid [a, c] H p = some o := by
  rw [hid_out (hid2 h1 h2)]
  exact e
theorem hid_upd_ne {b : Addr} {S : List Addr} (h : b ≠ p) : hid S (upd H p o) b = hid S H b := by
  by_cases q : b ∈ S
  · rw [hid_in q, hid_in q]
  · rw [hid_out q, hid_out q, upd_ne h]
end
end Lb
set_option Elab.async false
set_option linter.all false
set_option maxRecDepth 100000
set_option maxHeartbeats 4000000
/-! From a def's facts to its callable. -/
namespace Lb
open PySem PySem.Spec PyProof.Rows L2
section
variable {P : Program} {w : World} {K : PySem.W.Frag} {h : Heap} {mg : Str → Option Value} {base : Heap} {x m cls qual name : Str} {k : Nat} {ps : List Str} {sp : Sp} {f : Addr} {fd : FuncData}
variable {params : Arguments} {body : List Stmt} {scope : Scope}
def spF : Sp := fun _ _ _ _ => False
theorem okF : FnOk P w K mg base CX0 k f fd ps spF := ⟨fun _ _ _ _ q => False.elim q, fun _ _ _ _ _ _ _ _ _ _ _ _ _ q => False.elim q⟩
theorem mkCal (F : FunD K name qual params body scope [] [] f fd) (g : mg x = some (.ref f)) (hb : Binds K fd ps []) (O : FnOk P w K mg base CX0 k f fd ps sp) : Cal P w K mg base x k ps sp := ⟨⟨_, _, g, F.kp, hb, O⟩⟩
theorem mkCalM {C : Addr} (hc : Cls K C) (hm : Meth K C m f) (hb : Binds K fd ps []) (O : FnOk P w K mg base CX0 k f fd ps sp) : CalM P w K mg base C m k ps sp := ⟨⟨_, _, hc, hm, hb, O⟩⟩
theorem mkCalC {C : Addr} (g : mg x = some (.ref C)) (M : Mk K C f) (hb : Binds K fd ps []) (O : FnOk P w K mg base CX0 k f fd ps sp) : CalC P w K mg base x C k ps sp := ⟨⟨_, _, g, M, hb, O⟩⟩
theorem Cal.up {j : Nat} (c : Cal P w K mg base x j ps sp) (hl : j ≤ k) : Cal P w K mg base x k ps sp := by
  obtain ⟨f, fd, g, kp, hb, O⟩ := c.ex
  exact ⟨⟨f, fd, g, kp, hb, O.mono hl⟩⟩
theorem Cal.weak {sp' : Sp} (c : Cal P w K mg base x k ps sp) (hs : ∀ vs H Q E, sp' vs H Q E → sp vs H Q E) : Cal P w K mg base x k ps sp' := by
  obtain ⟨f, fd, g, kp, hb, O⟩ := c.ex
  exact ⟨⟨f, fd, g, kp, hb, O.imp hs⟩⟩
theorem gv_int (X : K.In h) (G : h.Ns mainGlobals mg) {i : Int} (c : (He.Fa.int x i).ok K = true) : GV mg x (.int i) := by
  obtain ⟨t, e⟩ := He.int_ok X G c
  exact ⟨⟨_, e, t, rfl⟩⟩
theorem gv_str (X : K.In h) (G : h.Ns mainGlobals mg) {i : Str} (c : (He.Fa.str x i).ok K = true) : GV mg x (.str i) := by
  obtain ⟨t, e⟩ := He.str_ok X G c
  exact ⟨⟨_, e, t, rfl⟩⟩
theorem gv_glo (X : K.In h) (G : h.Ns mainGlobals mg) (c : (He.Fa.glo x).ok K = true) : GV mg x (.ref (He.ga K x)) := ⟨⟨_, He.glo_ok X G c, rfl⟩⟩
end
end Lb
set_option Elab.async false
set_option linter.all false
set_option maxRecDepth 100000
set_option maxHeartbeats 4000000
/-! K10: values of expressions: data, mathematics, promises, readings. -/
namespace K10
open PySem PySem.Spec PyProof.Rows L2 Lb
local macro_rules | `(tactic| walk_at "s1") => `(tactic| with_reducible first | refine i_seq ?_ | refine i_asg ?_ | refine i_gname ?_ | refine i_ifS ?_ | refine i_ret ?_ | refine i_retN ?_ | refine i_drop ?_ | refine i_next ?_ | refine i_brk ?_ | refine i_cnt ?_ | refine i_par ?_ | refine i_par2 ?_ | refine i_fldS ?_ | refine i_dput ?_ | refine i_c ?_ | refine i_op ?_ | refine i_un ?_ | refine i_rU ?_ | refine i_rI0 ?_ | refine i_test ?_ | refine i_B ?_ | refine i_bl ?_ | refine i_tru ?_ | refine i_truB ?_ | refine i_and ?_ | refine i_or ?_ | refine i_not ?_ | refine i_andV ?_ | refine i_orV ?_ | refine i_notV ?_ | refine i_if ?_ | refine i_call ?_ | refine i_meth ?_ | refine i_make ?_ | refine i_cb ?_ | refine i_cons ?_ | refine i_nil ?_ | refine i_tup ?_ | refine i_lst ?_ | refine i_bml ?_ | refine i_gsub ?_ | refine i_gcons ?_ | refine i_gnil ?_ | refine i_sl ?_ | refine i_nop ?_ | refine i_part ?_ | refine i_prt ?_ | refine i_isN ?_ | refine i_notN ?_ | refine i_yes ?_ | refine i_tt ?_ | refine i_ff ?_ | refine i_ntt ?_ | refine i_nff ?_ | refine i_addI ?_ | refine i_eqI ?_ | refine i_neI ?_ | refine i_eqS ?_ | refine i_neS ?_ | refine i_intI ?_ | refine i_intB ?_ | refine i_abs ?_ | refine i_isiIB ?_ | refine i_isiNB ?_ | refine i_isiBB ?_ | refine i_dget ?_ | refine i_for ?_ | refine i_ilist ?_ | refine i_itup ?_ | refine i_rng1 ?_ | refine i_rng2 ?_ | refine i_ex1 ?_ | refine i_ex2 ?_ | refine i_exr ?_ | refine i_fld ?_ | refine i_disp ?_ | refine i_pcons ?_ | refine i_pnil ?_ | refine i_neN ?_ | refine i_eqN ?_ | refine i_neB ?_ | refine i_eqB ?_ | refine i_lc ?_ | refine i_var (by with_unfolding_all rfl) ?_ | refine i_tB (by decide +kernel) ?_ | refine i_fB (by decide +kernel) ?_ | refine i_dnI ?_ | refine i_nyI ?_ | refine i_dnR ?_ | refine i_nyR ?_ | refine i_ixT (by assumption) (by with_unfolding_all rfl) ?_ | refine i_ixL (by assumption) (by with_unfolding_all rfl) ?_ | refine i_lenL (by assumption) ?_ | refine i_lenT (by assumption) ?_ | refine i_isL (by assumption) ?_ | refine i_isiLL (by assumption) ?_ | refine i_isiTL (by assumption) ?_ | refine i_gtup (by assumption) (by with_unfolding_all rfl) ?_)
local macro_rules | `(tactic| walk_at "s") => `(tactic| repeat (walk_at "s1"))
structure Ad where
  K : PySem.W.Frag
/-! ### expressions -/
inductive Op where
  | add | sub | mul | div | mod | and | or | eq | ne | lt | le
def Op.nm : Op → Str
  | .add => "+" | .sub => "-" | .mul => "*" | .div => "/" | .mod => "mod" | .and => "and" | .or => "or" | .eq => "==" | .ne => "!=" | .lt => "<" | .le => "<="
inductive Ex where
  | num (i : Int)
  | cell (k : Nat)
  | at (f s : Nat) (e : Ex)
  | un (b : Bool) (e : Ex)
  | bin (o : Op) (a b : Ex)
def Ex.py : Ex → PyData
  | .num i => .tuple [.str "num", .int i]
  | .cell k => .tuple [.str "cell", .int k]
  | .at f s e => .tuple [.str "at", .int f, .int s, e.py]
  | .un true e => .tuple [.str "neg", e.py]
  | .un false e => .tuple [.str "not", e.py]
  | .bin o a b => .tuple [.str o.nm, a.py, b.py]
def Ex.dp : Ex → Nat
  | .num _ => 0
  | .cell _ => 0
  | .at _ _ e => e.dp + 1
  | .un _ e => e.dp + 1
  | .bin _ a b => max a.dp b.dp + 1
def Ex.ok : Ex → Prop
  | .num i => 0 ≤ i ∧ i < 65536
  | .cell k => k < 3
  | .at f s e => f = 3 ∧ s ≤ 5 ∧ e.ok
  | .un _ e => e.ok
  | .bin _ a b => a.ok ∧ b.ok
def b2 (p : Prop) [Decidable p] : Int := if p then 1 else 0
def opv : Op → Int → Int → Option Int
  | .add, a, b => some ((a + b) % 65536)
  | .sub, a, b => some ((a - b) % 65536)
  | .mul, a, b => some ((a * b) % 65536)
  | .div, a, b => if b = 0 then none else some (a / b)
  | .mod, a, b => if b = 0 then none else some (a % b)
  | .and, a, b => some (b2 (a ≠ 0 ∧ b ≠ 0))
  | .or, a, b => some (b2 (a ≠ 0 ∨ b ≠ 0))
  | .eq, a, b => some (b2 (a = b))
  | .ne, a, b => some (b2 (a ≠ b))
  | .lt, a, b => some (b2 (a < b))
  | .le, a, b => some (b2 (a ≤ b))
def Wd (i : Int) : Prop := 0 ≤ i ∧ i < 65536
theorem b2_wd {p : Prop} [Decidable p] : Wd (b2 p) := by
  unfold b2 Wd
  split <;> decide
theorem opv_wd {o : Op} {a b z : Int} (ha : Wd a) (hb : Wd b) (h : opv o a b = some z) : Wd z := by
  obtain ⟨a0, a1⟩ := ha
  obtain ⟨b0, b1⟩ := hb
  cases o <;> simp only [opv] at h
  case div =>
    split at h
    · cases h
    · rw [← Option.some.inj h]
      exact ⟨Int.ediv_nonneg a0 b0, Int.lt_of_le_of_lt (Int.ediv_le_self b a0) a1⟩
  case mod =>
    split at h
    · cases h
    · rename_i hb
      rw [← Option.some.inj h]
      exact ⟨Int.emod_nonneg _ hb, Int.lt_of_lt_of_le (Int.emod_lt_of_pos _ (by omega)) (by omega)⟩
  all_goals (rw [← Option.some.inj h]; first | exact b2_wd | exact ⟨Int.emod_nonneg _ (by decide), Int.emod_lt_of_pos _ (by decide)⟩)
def neg1 (a : Int) : Int := (0 - a) % 65536
def not1 (a : Int) : Int := b2 (a = 0)
def ev (cs : List Int) : Ex → Option Int
  | .num i => some i
  | .cell k => cs[k]?
  | .at f s e => (match ev cs e with
    | none => none
    | some i => if (s : Int) ≤ i then none else cs[f + i.toNat]?)
  | .un b e => (match ev cs e with
    | none => none
    | some a => some (if b = true then neg1 a else not1 a))
  | .bin o a b => (match ev cs a, ev cs b with
    | some x, some y => opv o x y
    | _, _ => none)
/-- the place of a target -/
def pl (cs : List Int) : Ex → Option Int
  | .cell k => some k
  | .at f s e => (match ev cs e with
    | none => none
    | some i => if (s : Int) ≤ i then none else some (f + i))
  | _ => none
structure Cells (cs : List Int) : Prop where
  len : cs.length = 8
  wd : ∀ i ∈ cs, Wd i
theorem ev_wd {cs : List Int} (C : Cells cs) : ∀ {e : Ex} {z : Int}, e.ok → ev cs e = some z → Wd z
  | .num i, z, h, e => by
    simp only [ev] at e
    rw [← Option.some.inj e]
    exact h
  | .cell k, z, h, e => C.wd z (List.mem_of_getElem? e)
  | .at f s x, z, h, e => by
    simp only [ev] at e
    split at e
    · cases e
    · split at e
      · cases e
      · exact C.wd z (List.mem_of_getElem? e)
  | .un b x, z, h, e => by
    simp only [ev] at e
    split at e
    · cases e
    · rw [← Option.some.inj e]
      split
      · exact ⟨Int.emod_nonneg _ (by decide), Int.emod_lt_of_pos _ (by decide)⟩
      · exact b2_wd
  | .bin o a b, z, h, e => by
    simp only [ev] at e
    split at e
    · rename_i e1 e2
      exact opv_wd (ev_wd C h.1 e1) (ev_wd C h.2 e2) e
    · cases e
def optV : Option Int → V
  | none => .non
  | some i => .int i
theorem at_cells {cs : List Int} {k : Nat} {z : Int} (h : cs[k]? = some z) : (cs.map V.int)[k]? = some (.int z) := by
  rw [List.getElem?_map, h]
  rfl
/-! ### promises -/
abbrev CellsAt (H : Hp) (p : Addr) (cs : List Int) : Prop := H p = some (.lst (cs.map V.int)) ∧ Cells cs
def spF : Sp := fun _ _ _ _ => False
def sp_calc : Sp := fun vs H Q _ => ∃ (o : Op) (a b : Int), vs = [.str o.nm, .int a, .int b] ∧ Wd a ∧ Wd b ∧ ∀ H', Same H H' → Q (optV (opv o a b)) H'
def sp_value (n : Nat) : Sp := fun vs H Q _ => ∃ (v : V) (p : Addr) (e : Ex) (cs : List Int), vs = [v, .ref p] ∧ Dt H v e.py ∧ e.dp ≤ n ∧ e.ok ∧ CellsAt H p cs ∧ ∀ H', Same H H' → Q (optV (ev cs e)) H'
def sp_place (n : Nat) : Sp := fun vs H Q _ => ∃ (v : V) (p : Addr) (e : Ex) (cs : List Int), vs = [v, .ref p] ∧ Dt H v e.py ∧ e.dp ≤ n ∧ e.ok ∧ (e.dp = 0 → ∃ k, e = .cell k) ∧ (∀ m, e.dp = m + 1 → ∃ f s x, e = .at f s x) ∧ CellsAt H p cs ∧ ∀ H', Same H H' → Q (optV (pl cs e)) H'
def sp_valueP : Nat → Sp
  | 0 => spF
  | n + 1 => sp_value n
def sp_lval (n : Nat) : Sp := sp_value n
def sp_lvalP : Nat → Sp
  | 0 => spF
  | n + 1 => sp_lval n
theorem inv_tup {H : Hp} {v : V} {ds : List PyData} (h : Dt H v (.tuple ds)) : ∃ p xs, v = .ref p ∧ H p = some (.tup xs) ∧ DtAll H xs ds := by
  cases h with
  | tup a b => exact ⟨_, _, rfl, a, b⟩
theorem inv_cons {H : Hp} {xs : List V} {d : PyData} {ds : List PyData} (h : DtAll H xs (d :: ds)) : ∃ x r, xs = x :: r ∧ Dt H x d ∧ DtAll H r ds := by
  cases h with
  | cons a b => exact ⟨_, _, rfl, a, b⟩
theorem inv_nil {H : Hp} {xs : List V} (h : DtAll H xs []) : xs = [] := by
  cases h
  rfl
theorem inv_int {H : Hp} {v : V} {i : Int} (h : Dt H v (.int i)) : v = .int i := by
  cases h
  rfl
theorem inv_str {H : Hp} {v : V} {x : Str} (h : Dt H v (.str x)) : v = .str x := by
  cases h
  rfl
theorem inv2 {H : Hp} {v : V} {d1 d2 : PyData} (h : Dt H v (.tuple [d1, d2])) : ∃ p x1 x2, v = .ref p ∧ H p = some (.tup [x1, x2]) ∧ Dt H x1 d1 ∧ Dt H x2 d2 := by
  obtain ⟨p, xs, rfl, hp, k⟩ := inv_tup h
  obtain ⟨x1, r, rfl, k1, k⟩ := inv_cons k
  obtain ⟨x2, r, rfl, k2, k⟩ := inv_cons k
  obtain rfl := inv_nil k
  exact ⟨p, x1, x2, rfl, hp, k1, k2⟩
theorem inv3 {H : Hp} {v : V} {d1 d2 d3 : PyData} (h : Dt H v (.tuple [d1, d2, d3])) : ∃ p x1 x2 x3, v = .ref p ∧ H p = some (.tup [x1, x2, x3]) ∧ Dt H x1 d1 ∧ Dt H x2 d2 ∧ Dt H x3 d3 := by
  obtain ⟨p, xs, rfl, hp, k⟩ := inv_tup h
  obtain ⟨x1, r, rfl, k1, k⟩ := inv_cons k
  obtain ⟨x2, r, rfl, k2, k⟩ := inv_cons k
  obtain ⟨x3, r, rfl, k3, k⟩ := inv_cons k
  obtain rfl := inv_nil k
  exact ⟨p, x1, x2, x3, rfl, hp, k1, k2, k3⟩
theorem inv4 {H : Hp} {v : V} {d1 d2 d3 d4 : PyData} (h : Dt H v (.tuple [d1, d2, d3, d4])) : ∃ p x1 x2 x3 x4, v = .ref p ∧ H p = some (.tup [x1, x2, x3, x4]) ∧ Dt H x1 d1 ∧ Dt H x2 d2 ∧ Dt H x3 d3 ∧ Dt H x4 d4 := by
  obtain ⟨p, xs, rfl, hp, k⟩ := inv_tup h
  obtain ⟨x1, r, rfl, k1, k⟩ := inv_cons k
  obtain ⟨x2, r, rfl, k2, k⟩ := inv_cons k
  obtain ⟨x3, r, rfl, k3, k⟩ := inv_cons k
  obtain ⟨x4, r, rfl, k4, k⟩ := inv_cons k
  obtain rfl := inv_nil k
  exact ⟨p, x1, x2, x3, x4, rfl, hp, k1, k2, k3, k4⟩
/-- x in a pair of texts that is made on the way -/
theorem in2 {K : PySem.W.Frag} {p : Addr} {H : Hp} {Q : VK} {x a b : Str} (h : H p = some (.tup [.str a, .str b])) (q : Q (.bl (a == x || b == x)) H) : rIn K false (.str x) (.ref p) H Q := by
  refine ⟨p, _, rfl, .inr (SqT.of h), rfl, rfl, ?_⟩
  have e : inV (.str x) [.str a, .str b] = (a == x || b == x) := by
    simp [inV, eqV]
  rw [if_neg (by simp), e]
  exact q


/-- the dict of the places and arrays -/
structure EnvAt (a c : Addr) (H : Hp) (d : Addr) : Prop where
  ex : ∃ (l1 l2 l3 t : Addr) (n : Nat), hid [a, c] H d = some (.dK [(.inr "cells", .ref l1), (.inr "reads", .ref l2), (.inr "spans", .ref l3)]) ∧ hid [a, c] H l1 = some (.lst [.int 0, .int 1, .int 2]) ∧ hid [a, c] H l2 = some (.lst [.int 0, .int 1, .int 2]) ∧
    hid [a, c] H l3 = some (.lst [.ref t]) ∧ hid [a, c] H t = some (.tup [.int 3, .int n]) ∧ n ≤ 5
def sp_number : Sp := fun vs H Q _ => ∃ (a c : Addr), vs = [.ref a] ∧ Rng a c H ∧ ∀ H' v (i : Int), Rng a c H' → Gr a c H H' → Wd i → Dt (hid [a, c] H') v (Ex.num i).py → Q v H'
def sp_oper : Sp := fun vs H Q _ => ∃ (a c : Addr), vs = [.ref a] ∧ Rng a c H ∧ ∀ H' (o : Op), Rng a c H' → Gr a c H H' → Q (.str o.nm) H'
def sp_index : Sp := fun vs H Q _ => ∃ (a c d : Addr) (n : Nat), vs = [.ref a, .ref d, .int n] ∧ n ≤ 5 ∧ Rng a c H ∧ EnvAt a c H d ∧ ∀ H' v (e : Ex), Rng a c H' → Gr a c H H' → e.ok → e.dp ≤ 1 → Dt (hid [a, c] H') v e.py → Q v H'
def sp_read : Sp := fun vs H Q _ => ∃ (a c d : Addr), vs = [.ref a, .ref d] ∧ Rng a c H ∧ EnvAt a c H d ∧ ∀ H' v (e : Ex), Rng a c H' → Gr a c H H' → e.ok → e.dp ≤ 2 → Dt (hid [a, c] H') v e.py → Q v H'
def sp_target : Sp := fun vs H Q _ => ∃ (a c d : Addr), vs = [.ref a, .ref d] ∧ Rng a c H ∧ EnvAt a c H d ∧ ∀ H' v (e : Ex), Rng a c H' → Gr a c H H' → e.ok → e.dp ≤ 2 → (e.dp = 0 → ∃ k, e = .cell k) → (∀ m, e.dp = m + 1 → ∃ f s x, e = .at f s x) → Dt (hid [a, c] H') v e.py → Q v H'
def sp_expr (n : Nat) : Sp := fun vs H Q _ => ∃ (a c d : Addr), vs = [.ref a, .ref d, .int n] ∧ Rng a c H ∧ EnvAt a c H d ∧ ∀ H' v (e : Ex), Rng a c H' → Gr a c H H' → e.ok → e.dp ≤ n + 2 → Dt (hid [a, c] H') v e.py → Q v H'
def sp_exprP : Nat → Sp
  | 0 => spF
  | n + 1 => sp_expr n
def sp_exprU : Sp := fun vs H Q E => ∃ n, n ≤ 4 ∧ sp_expr n vs H Q E
def sp_deep : Sp := fun vs H Q _ => ∃ (a c d : Addr) (n : Nat), vs = [.ref a, .ref d, .int n] ∧ n ≤ 4 ∧ Rng a c H ∧ EnvAt a c H d ∧ ∀ H' v (e : Ex), Rng a c H' → Gr a c H H' → e.ok → e.dp ≤ 7 → Dt (hid [a, c] H') v e.py → Q v H'
def sp_where : Sp := sp_place 2
def sp_valueU : Sp := sp_value 7
def sp_placeU : Sp := sp_place 2
def sp_lvalU : Sp := sp_value 7
def sp_law (K : PySem.W.Frag) : Sp := fun vs H Q _ => ∃ (s : Addr) (ns : List Int), vs = [.ref s] ∧ SqL K H s (ns.map V.int) ∧ ns.length ≤ 63 ∧ ∀ H', Q (.bl true) H'
def t_calculate (A : Ad) : TS :=
  (tSeq (tIfS (tTest (tOp (rIn A.K false) (tVar 0) (tTup (tCons (tC (.str "/")) (tCons (tC (.str "mod")) tNil))))) (tSeq (tIfS (tTest (tOp (rEqA A.K) (tVar 2) (tC (.int 0)))) (tRet (tC .non)) tNext) (tRet (tIf (tTest (tOp (rEqA A.K) (tVar 0) (tC (.str "/")))) (tOp (rI CDiv fun i j => .int (i / j)) (tVar 1) (tVar 2)) (tOp (rI0 fun i j => .int (i - j)) (tVar 1) (tOp rMulA (tOp (rI CDiv fun i j => .int (i / j)) (tVar 1) (tVar 2)) (tVar 2)))))) tNext) (tSeq (tIfS (tTest (tOp (rEqA A.K) (tVar 0) (tC (.str "+")))) (tRet (tOp (rI0 fun i j => .int (Builtin.bitAnd i j)) (tOp rAddA (tVar 1) (tVar 2)) (tOp (rI0 fun i j => .int (i - j)) (tC (.int 65536)) (tC (.int 1))))) tNext) (tSeq (tIfS (tTest (tOp (rEqA A.K) (tVar 0) (tC (.str "-")))) (tRet (tOp (rI0 fun i j => .int (Builtin.bitAnd i j)) (tOp (rI0 fun i j => .int (i - j)) (tVar 1) (tVar 2)) (tOp (rI0 fun i j => .int (i - j)) (tC (.int 65536)) (tC (.int 1))))) tNext) (tSeq (tIfS (tTest (tOp (rEqA A.K) (tVar 0) (tC (.str "*")))) (tRet (tOp (rI0 fun i j => .int (Builtin.bitAnd i j)) (tOp rMulA (tVar 1) (tVar 2)) (tOp (rI0 fun i j => .int (i - j)) (tC (.int 65536)) (tC (.int 1))))) tNext) (tSeq (tIfS (tTest (tOp (rEqA A.K) (tVar 0) (tC (.str "and")))) (tRet (tIf (tAnd (tTest (tOp (rNeA A.K) (tVar 1) (tC (.int 0)))) (tTest (tOp (rNeA A.K) (tVar 2) (tC (.int 0))))) (tC (.int 1)) (tC (.int 0)))) tNext) (tSeq (tIfS (tTest (tOp (rEqA A.K) (tVar 0) (tC (.str "or")))) (tRet (tIf (tOr (tTest (tOp (rNeA A.K) (tVar 1) (tC (.int 0)))) (tTest (tOp (rNeA A.K) (tVar 2) (tC (.int 0))))) (tC (.int 1)) (tC (.int 0)))) tNext) (tSeq (tIfS (tTest (tOp (rEqA A.K) (tVar 0) (tC (.str "==")))) (tRet (tIf (tTest (tOp (rEqA A.K) (tVar 1) (tVar 2))) (tC (.int 1)) (tC (.int 0)))) tNext) (tSeq (tIfS (tTest (tOp (rEqA A.K) (tVar 0) (tC (.str "!=")))) (tRet (tIf (tTest (tOp (rNeA A.K) (tVar 1) (tVar 2))) (tC (.int 1)) (tC (.int 0)))) tNext) (tSeq (tIfS (tTest (tOp (rEqA A.K) (tVar 0) (tC (.str "<")))) (tRet (tIf (tTest (tOp (rI0 fun i j => .bl (decide (i < j))) (tVar 1) (tVar 2))) (tC (.int 1)) (tC (.int 0)))) tNext) (tRet (tIf (tTest (tOp (rI0 fun i j => .bl (decide (i ≤ j))) (tVar 1) (tVar 2))) (tC (.int 1)) (tC (.int 0)))))))))))))
theorem st_calculate (v0 v1 v2 : V) : L2.start ["operator", "a", "b"] [v0, v1, v2] = [some v0, some v1, some v2] := rfl
def t_place (A : Ad) (n : Nat) : TS :=
  (tSeq (tIfS (tTest (tOp (rEqA A.K) (tOp rIxA (tVar 0) (tC (.int 0))) (tC (.str "cell")))) (tRet (tOp rIxA (tVar 0) (tC (.int 1)))) tNext) (tSeq (tAsg (tVar 0) (gTup A.K 4 (gCons (gName 2) (gCons (gName 3) (gCons (gName 4) (gCons (gName 5) gNil)))))) (tSeq (tAsg (tCall (sp_valueP n) [] E0 (tCons (tVar 5) (tCons (tVar 1) tNil))) (gName 6)) (tRet (tIf (tOr (tTest (tOp rIsN (tVar 6) (tC .non))) (tTest (tOp (rI0 fun i j => .bl (decide (j ≤ i))) (tVar 6) (tVar 4)))) (tC .non) (tOp rAddA (tVar 3) (tVar 6)))))))
theorem st_place (v0 v1 : V) : L2.start ["target", "cells", "_", "first", "size", "e", "index"] [v0, v1] = [some v0, some v1, none, none, none, none, none] := rfl
def t_value (A : Ad) (n : Nat) : TS :=
  (tSeq (tIfS (tTest (tOp (rEqA A.K) (tOp rIxA (tVar 0) (tC (.int 0))) (tC (.str "num")))) (tRet (tOp rIxA (tVar 0) (tC (.int 1)))) tNext) (tSeq (tIfS (tTest (tOp (rIn A.K false) (tOp rIxA (tVar 0) (tC (.int 0))) (tTup (tCons (tC (.str "cell")) (tCons (tC (.str "at")) tNil))))) (tSeq (tAsg (tCall (sp_place n) [] E0 (tCons (tVar 0) (tCons (tVar 1) tNil))) (gName 2)) (tRet (tIf (tTest (tOp rIsN (tVar 2) (tC .non))) (tC .non) (tOp rIxA (tVar 1) (tVar 2))))) tNext) (tSeq (tAsg (tCall (sp_valueP n) [] E0 (tCons (tOp rIxA (tVar 0) (tC (.int 1))) (tCons (tVar 1) tNil))) (gName 3)) (tSeq (tIfS (tTest (tOp (rEqA A.K) (tOp rIxA (tVar 0) (tC (.int 0))) (tC (.str "neg")))) (tRet (tIf (tTest (tOp rIsN (tVar 3) (tC .non))) (tC .non) (tOp (rI0 fun i j => .int (Builtin.bitAnd i j)) (tOp (rI0 fun i j => .int (i - j)) (tC (.int 0)) (tVar 3)) (tOp (rI0 fun i j => .int (i - j)) (tC (.int 65536)) (tC (.int 1)))))) tNext) (tSeq (tIfS (tTest (tOp (rEqA A.K) (tOp rIxA (tVar 0) (tC (.int 0))) (tC (.str "not")))) (tRet (tIf (tTest (tOp rIsN (tVar 3) (tC .non))) (tC .non) (tIf (tTest (tOp (rEqA A.K) (tVar 3) (tC (.int 0)))) (tC (.int 1)) (tC (.int 0))))) tNext) (tSeq (tAsg (tCall (sp_valueP n) [] E0 (tCons (tOp rIxA (tVar 0) (tC (.int 2))) (tCons (tVar 1) tNil))) (gName 4)) (tRet (tIf (tOr (tTest (tOp rIsN (tVar 3) (tC .non))) (tTest (tOp rIsN (tVar 4) (tC .non)))) (tC .non) (tCall sp_calc [] E0 (tCons (tOp rIxA (tVar 0) (tC (.int 0))) (tCons (tVar 3) (tCons (tVar 4) tNil))))))))))))
theorem st_value (v0 v1 : V) : L2.start ["e", "cells", "cell", "a", "b"] [v0, v1] = [some v0, some v1, none, none, none] := rfl
def t_l_number (A : Ad) : TS :=
  (tRet (tTup (tCons (tC (.str "num")) (tCons (tCall spPick [] E0 (tCons (tVar 0) (tCons (tLst (tCons (tC (.int 0)) (tCons (tC (.int 1)) (tCons (tC (.int 2)) (tCons (tC (.int 3)) (tCons (tCall spDraw [] E0 (tCons (tVar 0) (tCons (tC (.int 10)) tNil))) (tCons (tC (.int 65535)) (tCons (tCall spDraw [] E0 (tCons (tVar 0) (tCons (tC (.int 65536)) tNil))) tNil)))))))) tNil))) tNil))))
theorem st_l_number (v0 : V) : L2.start ["_law_state_here"] [v0] = [some v0] := rfl
def t_l_operator (A : Ad) : TS :=
  (tRet (tCall spPick [] E0 (tCons (tVar 0) (tCons (tLst (tCons (tC (.str "+")) (tCons (tC (.str "-")) (tCons (tC (.str "*")) (tCons (tC (.str "+")) (tCons (tC (.str "-")) (tCons (tC (.str "and")) (tCons (tC (.str "or")) (tCons (tC (.str "==")) (tCons (tC (.str "!=")) (tCons (tC (.str "<")) (tCons (tC (.str "<=")) (tCons (tC (.str "+")) (tCons (tCall spPick [] E0 (tCons (tVar 0) (tCons (tLst (tCons (tC (.str "/")) (tCons (tC (.str "mod")) tNil))) tNil))) tNil)))))))))))))) tNil))))
theorem st_l_operator (v0 : V) : L2.start ["_law_state_here"] [v0] = [some v0] := rfl
def t_l_index (A : Ad) : TS :=
  (tSeq (tAsg (tTup (tCons (tC (.str "cell")) (tCons (tCall spPick [] E0 (tCons (tVar 0) (tCons (tDGet (tVar 1) (tC (.str "reads"))) tNil))) tNil))) (gName 3)) (tRet (tIf (tTest (tOp (rEqA A.K) (tCall spDraw [] E0 (tCons (tVar 0) (tCons (tC (.int 8)) tNil))) (tC (.int 0)))) (tVar 3) (tTup (tCons (tC (.str "mod")) (tCons (tVar 3) (tCons (tTup (tCons (tC (.str "num")) (tCons (tVar 2) tNil))) tNil)))))))
theorem st_l_index (v0 v1 v2 : V) : L2.start ["_law_state_here", "_law_env", "_law_size", "_law_cell"] [v0, v1, v2] = [some v0, some v1, some v2, none] := rfl
def t_l_read (A : Ad) : TS :=
  (tSeq (tIfS (tAnd (tTest (tOp (rI0 fun i j => .bl (decide (j < i))) (tCB rLenA (tCons (tDGet (tVar 1) (tC (.str "spans"))) tNil)) (tC (.int 0)))) (tTest (tOp (rEqA A.K) (tCall spDraw [] E0 (tCons (tVar 0) (tCons (tC (.int 4)) tNil))) (tC (.int 0))))) (tSeq (tAsg (tCall spPick [] E0 (tCons (tVar 0) (tCons (tDGet (tVar 1) (tC (.str "spans"))) tNil))) (gTup A.K 2 (gCons (gName 2) (gCons (gName 3) gNil)))) (tRet (tTup (tCons (tC (.str "at")) (tCons (tVar 2) (tCons (tVar 3) (tCons (tCall sp_index [] E0 (tCons (tVar 0) (tCons (tVar 1) (tCons (tVar 3) tNil)))) tNil))))))) tNext) (tRet (tTup (tCons (tC (.str "cell")) (tCons (tCall spPick [] E0 (tCons (tVar 0) (tCons (tDGet (tVar 1) (tC (.str "reads"))) tNil))) tNil)))))
theorem st_l_read (v0 v1 : V) : L2.start ["_law_state_here", "_law_env", "_law_first", "_law_size"] [v0, v1] = [some v0, some v1, none, none] := rfl
def t_l_expression (A : Ad) (n : Nat) : TS :=
  (tSeq (tAsg (tCall spDraw [] E0 (tCons (tVar 0) (tCons (tC (.int 7)) tNil))) (gName 3)) (tSeq (tIfS (tOr (tTest (tOp (rEqA A.K) (tVar 2) (tC (.int 0)))) (tTest (tOp (rI0 fun i j => .bl (decide (i < j))) (tVar 3) (tC (.int 3))))) (tSeq (tIfS (tAnd (tTest (tOp (rI0 fun i j => .bl (decide (j < i))) (tCB rLenA (tCons (tDGet (tVar 1) (tC (.str "reads"))) tNil)) (tC (.int 0)))) (tTest (tOp (rI0 fun i j => .bl (decide (j < i))) (tCall spDraw [] E0 (tCons (tVar 0) (tCons (tC (.int 3)) tNil))) (tC (.int 0))))) (tRet (tCall sp_read [] E0 (tCons (tVar 0) (tCons (tVar 1) tNil)))) tNext) (tRet (tCall sp_number [] E0 (tCons (tVar 0) tNil)))) tNext) (tSeq (tIfS (tTest (tOp (rEqA A.K) (tVar 3) (tC (.int 3)))) (tRet (tTup (tCons (tCall spPick [] E0 (tCons (tVar 0) (tCons (tLst (tCons (tC (.str "neg")) (tCons (tC (.str "not")) tNil))) tNil))) (tCons (tCall (sp_exprP n) [] E0 (tCons (tVar 0) (tCons (tVar 1) (tCons (tOp (rI0 fun i j => .int (i - j)) (tVar 2) (tC (.int 1))) tNil)))) tNil)))) tNext) (tSeq (tAsg (tCall (sp_exprP n) [] E0 (tCons (tVar 0) (tCons (tVar 1) (tCons (tOp (rI0 fun i j => .int (i - j)) (tVar 2) (tC (.int 1))) tNil)))) (gName 4)) (tRet (tTup (tCons (tCall sp_oper [] E0 (tCons (tVar 0) tNil)) (tCons (tVar 4) (tCons (tCall (sp_exprP n) [] E0 (tCons (tVar 0) (tCons (tVar 1) (tCons (tOp (rI0 fun i j => .int (i - j)) (tVar 2) (tC (.int 1))) tNil)))) tNil)))))))))
theorem st_l_expression (v0 v1 v2 : V) : L2.start ["_law_state_here", "_law_env", "_law_deep_here", "_law_kind", "_law_first"] [v0, v1, v2] = [some v0, some v1, some v2, none, none] := rfl
def t_l_target (A : Ad) : TS :=
  (tSeq (tIfS (tAnd (tTest (tOp (rI0 fun i j => .bl (decide (j < i))) (tCB rLenA (tCons (tDGet (tVar 1) (tC (.str "spans"))) tNil)) (tC (.int 0)))) (tTest (tOp (rEqA A.K) (tCall spDraw [] E0 (tCons (tVar 0) (tCons (tC (.int 4)) tNil))) (tC (.int 0))))) (tSeq (tAsg (tCall spPick [] E0 (tCons (tVar 0) (tCons (tDGet (tVar 1) (tC (.str "spans"))) tNil))) (gTup A.K 2 (gCons (gName 2) (gCons (gName 3) gNil)))) (tRet (tTup (tCons (tC (.str "at")) (tCons (tVar 2) (tCons (tVar 3) (tCons (tCall sp_index [] E0 (tCons (tVar 0) (tCons (tVar 1) (tCons (tVar 3) tNil)))) tNil))))))) tNext) (tRet (tTup (tCons (tC (.str "cell")) (tCons (tCall spPick [] E0 (tCons (tVar 0) (tCons (tDGet (tVar 1) (tC (.str "cells"))) tNil))) tNil)))))
theorem st_l_target (v0 v1 : V) : L2.start ["_law_state_here", "_law_env", "_law_first", "_law_size"] [v0, v1] = [some v0, some v1, none, none] := rfl
def t_l_binary (A : Ad) : TS :=
  (tSeq (tIfS (tTest (tOp (rIn A.K false) (tVar 0) (tTup (tCons (tC (.str "/")) (tCons (tC (.str "mod")) tNil))))) (tSeq (tIfS (tTest (tOp (rEqA A.K) (tVar 2) (tC (.int 0)))) (tRet (tC .non)) tNext) (tRet (tIf (tTest (tOp (rEqA A.K) (tVar 0) (tC (.str "/")))) (tOp (rI CDiv fun i j => .int (i / j)) (tVar 1) (tVar 2)) (tOp (rI (fun _ j => 0 < j) fun i j => .int (i % j)) (tCB rIntA (tCons (tVar 1) tNil)) (tVar 2))))) tNext) (tSeq (tIfS (tTest (tOp (rIn A.K false) (tVar 0) (tTup (tCons (tC (.str "and")) (tCons (tC (.str "or")) tNil))))) (tRet (tIf (tTest (tOp (rEqA A.K) (tVar 0) (tC (.str "and")))) (tCB rIntA (tCons (tAndV (tOp (rI0 fun i j => .bl (decide (j < i))) (tVar 1) (tC (.int 0))) (tOp (rI0 fun i j => .bl (decide (j < i))) (tVar 2) (tC (.int 0)))) tNil)) (tCB rIntA (tCons (tOrV (tOp (rI0 fun i j => .bl (decide (j < i))) (tVar 1) (tC (.int 0))) (tOp (rI0 fun i j => .bl (decide (j < i))) (tVar 2) (tC (.int 0)))) tNil)))) tNext) (tSeq (tIfS (tTest (tOp (rIn A.K false) (tVar 0) (tTup (tCons (tC (.str "==")) (tCons (tC (.str "!=")) tNil))))) (tRet (tIf (tTest (tOp (rEqA A.K) (tVar 0) (tC (.str "==")))) (tCB rIntA (tCons (tOp (rEqA A.K) (tVar 1) (tVar 2)) tNil)) (tCB rIntA (tCons (tOp (rNeA A.K) (tVar 1) (tVar 2)) tNil)))) tNext) (tSeq (tIfS (tTest (tOp (rIn A.K false) (tVar 0) (tTup (tCons (tC (.str "<")) (tCons (tC (.str "<=")) tNil))))) (tRet (tIf (tTest (tOp (rEqA A.K) (tVar 0) (tC (.str "<")))) (tCB rIntA (tCons (tOp (rI0 fun i j => .bl (decide (i < j))) (tVar 1) (tVar 2)) tNil)) (tCB rIntA (tCons (tNotV (tOp (rI0 fun i j => .bl (decide (i < j))) (tVar 2) (tVar 1))) tNil)))) tNext) (tSeq (tAsg (tOp rMulA (tVar 1) (tVar 2)) (gName 3)) (tSeq (tIfS (tTest (tOp (rNeA A.K) (tVar 0) (tC (.str "*")))) (tAsg (tIf (tTest (tOp (rEqA A.K) (tVar 0) (tC (.str "+")))) (tOp rAddA (tVar 1) (tVar 2)) (tOp (rI0 fun i j => .int (i - j)) (tOp rAddA (tVar 1) (tC (.int 65536))) (tVar 2))) (gName 3)) tNext) (tRet (tOp (rI (fun _ j => 0 < j) fun i j => .int (i % j)) (tCB rIntA (tCons (tVar 3) tNil)) (tC (.int 65536))))))))))
theorem st_l_binary (v0 v1 v2 : V) : L2.start ["_law_sign", "_law_a", "_law_b", "_law_found"] [v0, v1, v2] = [some v0, some v1, some v2, none] := rfl
def t_l_value (A : Ad) (n : Nat) : TS :=
  (tSeq (tIfS (tTest (tOp (rEqA A.K) (tOp rIxA (tVar 0) (tC (.int 0))) (tC (.str "num")))) (tRet (tOp rIxA (tVar 0) (tC (.int 1)))) tNext) (tSeq (tIfS (tTest (tOp (rEqA A.K) (tOp rIxA (tVar 0) (tC (.int 0))) (tC (.str "cell")))) (tRet (tOp rIxA (tVar 1) (tOp rIxA (tVar 0) (tC (.int 1))))) tNext) (tSeq (tIfS (tTest (tOp (rEqA A.K) (tOp rIxA (tVar 0) (tC (.int 0))) (tC (.str "at")))) (tSeq (tAsg (tCall (sp_lvalP n) [] E0 (tCons (tOp rIxA (tVar 0) (tC (.int 3))) (tCons (tVar 1) tNil))) (gName 2)) (tRet (tIf (tOr (tTest (tOp rIsN (tVar 2) (tC .non))) (tTest (tOp (rI0 fun i j => .bl (decide (j ≤ i))) (tVar 2) (tOp rIxA (tVar 0) (tC (.int 2)))))) (tC .non) (tOp rIxA (tVar 1) (tOp rAddA (tOp rIxA (tVar 0) (tC (.int 1))) (tVar 2)))))) tNext) (tSeq (tAsg (tLc (iTup A.K (tSl rSlA (tVar 0) (tPart (tC (.int 1))) tNoPart)) (gName 4) tYes (tCall (sp_lvalP n) [] E0 (tCons (tVar 4) (tCons (tVar 1) tNil))) [4]) (gName 3)) (tSeq (tIfS (tTest (tOp (rIn A.K false) (tC .non) (tVar 3))) (tRet (tC .non)) tNext) (tSeq (tIfS (tTest (tOp (rEqA A.K) (tOp rIxA (tVar 0) (tC (.int 0))) (tC (.str "not")))) (tRet (tCB rIntA (tCons (tOp (rEqA A.K) (tOp rIxA (tVar 3) (tC (.int 0))) (tC (.int 0))) tNil))) tNext) (tSeq (tIfS (tTest (tOp (rEqA A.K) (tOp rIxA (tVar 0) (tC (.int 0))) (tC (.str "neg")))) (tRet (tOp (rI (fun _ j => 0 < j) fun i j => .int (i % j)) (tCB rIntA (tCons (tOp (rI0 fun i j => .int (i - j)) (tC (.int 65536)) (tOp rIxA (tVar 3) (tC (.int 0)))) tNil)) (tC (.int 65536)))) tNext) (tRet (tCall sp_calc [] E0 (tCons (tOp rIxA (tVar 0) (tC (.int 0))) (tCons (tOp rIxA (tVar 3) (tC (.int 0))) (tCons (tOp rIxA (tVar 3) (tC (.int 1))) tNil))))))))))))
theorem st_l_value (v0 v1 : V) : L2.start ["_law_e", "_law_cells", "_law_index_here", "_law_operands", "_law_operand"] [v0, v1] = [some v0, some v1, none, none, none] := rfl
def t_l_where (A : Ad) : TS :=
  (tSeq (tIfS (tTest (tOp (rEqA A.K) (tOp rIxA (tVar 0) (tC (.int 0))) (tC (.str "cell")))) (tRet (tOp rIxA (tVar 0) (tC (.int 1)))) tNext) (tSeq (tAsg (tCall sp_lvalU [] E0 (tCons (tOp rIxA (tVar 0) (tC (.int 3))) (tCons (tVar 1) tNil))) (gName 2)) (tRet (tIf (tOr (tTest (tOp rIsN (tVar 2) (tC .non))) (tTest (tOp (rI0 fun i j => .bl (decide (j ≤ i))) (tVar 2) (tOp rIxA (tVar 0) (tC (.int 2)))))) (tC .non) (tOp rAddA (tOp rIxA (tVar 0) (tC (.int 1))) (tVar 2))))))
theorem st_l_where (v0 v1 : V) : L2.start ["_law_target_here", "_law_cells", "_law_index_here"] [v0, v1] = [some v0, some v1, none] := rfl
def t_l_deep (A : Ad) : TS :=
  (tSeq (tAsg (tCall sp_exprU [] E0 (tCons (tVar 0) (tCons (tVar 1) (tCons (tVar 2) tNil)))) (gName 3)) (tSeq (tIfS (tTest (tOp (rEqA A.K) (tCall spDraw [] E0 (tCons (tVar 0) (tCons (tC (.int 3)) tNil))) (tC (.int 0)))) (tSeq (tAsg (tCall spPick [] E0 (tCons (tVar 0) (tCons (tLst (tCons (tC (.str "+")) (tCons (tC (.str "-")) (tCons (tC (.str "*")) (tCons (tC (.str "/")) (tCons (tC (.str "mod")) (tCons (tC (.str "and")) (tCons (tC (.str "or")) (tCons (tC (.str "==")) (tCons (tC (.str "!=")) (tCons (tC (.str "<")) (tCons (tC (.str "<=")) tNil)))))))))))) tNil))) (gName 4)) (tRet (tTup (tCons (tVar 4) (tCons (tVar 3) (tCons (tCall sp_exprU [] E0 (tCons (tVar 0) (tCons (tVar 1) (tCons (tVar 2) tNil)))) tNil)))))) tNext) (tRet (tVar 3))))
theorem st_l_deep (v0 v1 v2 : V) : L2.start ["_law_state_here", "_law_env", "_law_deep_here", "_law_e", "_law_sign"] [v0, v1, v2] = [some v0, some v1, some v2, none, none] := rfl
def t_law (A : Ad) : TS :=
  (tSeq (tAsg (tCall (spState A.K) [] E0 (tCons (tVar 0) tNil)) (gName 1)) (tSeq (tAsg (tLc (iRng1 (tCons (tC (.int 8)) tNil)) (gName 5) tYes (tCall spPick [] E0 (tCons (tVar 1) (tCons (tLst (tCons (tC (.int 0)) (tCons (tC (.int 1)) (tCons (tC (.int 2)) (tCons (tC (.int 65535)) (tCons (tCall spDraw [] E0 (tCons (tVar 1) (tCons (tC (.int 6)) tNil))) (tCons (tCall spDraw [] E0 (tCons (tVar 1) (tCons (tC (.int 65536)) tNil))) tNil))))))) tNil))) [5]) (gName 2)) (tSeq (tAsg (tDisp [((tC (.str "cells")), (tLst (tCons (tC (.int 0)) (tCons (tC (.int 1)) (tCons (tC (.int 2)) tNil))))), ((tC (.str "reads")), (tLst (tCons (tC (.int 0)) (tCons (tC (.int 1)) (tCons (tC (.int 2)) tNil))))), ((tC (.str "spans")), (tLst (tCons (tTup (tCons (tC (.int 3)) (tCons (tOp rAddA (tC (.int 1)) (tCall spDraw [] E0 (tCons (tVar 1) (tCons (tC (.int 5)) tNil)))) tNil))) tNil)))]) (gName 3)) (tSeq (tAsg (tCB rListA (tCons (tVar 2) tNil)) (gName 4)) (tSeq (tFor (iRng1 (tCons (tC (.int 12)) tNil)) (gName 5) (tSeq (tAsg (tCall sp_deep [] E0 (tCons (tVar 1) (tCons (tVar 3) (tCons (tCall spDraw [] E0 (tCons (tVar 1) (tCons (tC (.int 5)) tNil))) tNil)))) (gName 6)) (tSeq (tAsg (tCall sp_valueU [] E0 (tCons (tVar 6) (tCons (tVar 2) tNil))) (gName 7)) (tSeq (tAsg (tCall sp_lvalU [] E0 (tCons (tVar 6) (tCons (tVar 4) tNil))) (gName 8)) (tSeq (tIfS (tOr (tB (tCB rIsiA (tCons (tVar 7) (tCons (tC (.ty "bool")) tNil)))) (tOr (tTest (tOp (rNeA A.K) (tVar 7) (tVar 8))) (tTest (tOp (rNeA A.K) (tOp rIsN (tVar 7) (tC .non)) (tOp rIsN (tVar 8) (tC .non)))))) (tRet (tC (.bl false))) tNext) (tSeq (tAsg (tCall sp_target [] E0 (tCons (tVar 1) (tCons (tVar 3) tNil))) (gName 9)) (tSeq (tAsg (tCall sp_placeU [] E0 (tCons (tVar 9) (tCons (tVar 2) tNil))) (gName 7)) (tSeq (tIfS (tOr (tB (tCB rIsiA (tCons (tVar 7) (tCons (tC (.ty "bool")) tNil)))) (tTest (tOp (rNeA A.K) (tVar 7) (tCall sp_where [] E0 (tCons (tVar 9) (tCons (tVar 4) tNil)))))) (tRet (tC (.bl false))) tNext) (tIfS (tTest (tOp rNotN (tVar 7) (tC .non))) (tSeq (tAsg (tCall spDraw [] E0 (tCons (tVar 1) (tCons (tC (.int 65536)) tNil))) (gSub (tVar 2) (tVar 7) rSetA)) (tAsg (tCB rListA (tCons (tVar 2) tNil)) (gName 4))) tNext))))))))) (tRet (tOp (rEqA A.K) (tVar 2) (tVar 4))))))))
theorem st_law (v0 : V) : L2.start ["_law_script", "_law_state_here", "_law_cells", "_law_env", "_law_kept", "_law_k", "_law_e", "_law_told", "_law_due", "_law_target_here"] [v0] = [some v0, none, none, none, none, none, none, none, none, none] := rfl
theorem m16 (x : Int) : Builtin.bitAnd x (65536 - 1) = x % 65536 := bitAnd_m16 x
theorem len_calculate (A : Ad) {vs : List V} {H : Hp} {Q : VK} {E : XK} (h : sp_calc vs H Q E) : vs.length = 3 := by
  obtain ⟨o, a, b, rfl, _⟩ := h
  rfl
theorem b2t {p : Prop} [Decidable p] (h : p) : b2 p = 1 := if_pos h
theorem b2f {p : Prop} [Decidable p] (h : ¬ p) : b2 p = 0 := if_neg h
theorem pure_calculate (A : Ad) (vs : List V) (H : Hp) (Q : VK) (E : XK) (h : sp_calc vs H Q E) : t_calculate A { nx := fun _ H' => Q .non H', rt := Q } (L2.start ["operator", "a", "b"] vs) H := by
  obtain ⟨o, a, b, rfl, ⟨a0, a1⟩, ⟨b0, b1⟩, k⟩ := h
  rw [st_calculate]
  unfold t_calculate
  walk_at "s"
  refine ⟨sz (by simp), fun p hp => in2 upd_same ?_⟩
  have sm := Same.newp (o := .tup [.str "/", .str "mod"]) hp
  generalize upd H p (.tup [.str "/", .str "mod"]) = H1 at sm
  have k := k H1 sm
  cases o <;> simp only [Op.nm] <;> walk_at "s"
  case div =>
    refine i_d2 (fun h => ?_) (fun h => ?_)
    · walk_at "s"
      simp only [opv, if_pos h] at k
      exact k
    · walk_at "s"
      refine i_rI ⟨by omega, by omega⟩ ?_
      simp only [opv, if_neg h] at k
      exact k
  case mod =>
    refine i_d2 (fun h => ?_) (fun h => ?_)
    · walk_at "s"
      simp only [opv, if_pos h] at k
      exact k
    · walk_at "s"
      refine i_rI ⟨by omega, by omega⟩ ?_
      walk_at "s"
      have hd : 0 ≤ a / b ∧ a / b ≤ a := ⟨Int.ediv_nonneg a0 b0, Int.ediv_le_self b a0⟩
      refine i_mulI (.inl ⟨by omega, by omega⟩) ?_
      walk_at "s"
      have e : a - a / b * b = a % b := by rw [Int.mul_comm, Int.emod_def]
      rw [e]
      simp only [opv, if_neg h] at k
      exact k
  case mul =>
    refine i_mulI (.inl ⟨by omega, by omega⟩) ?_
    walk_at "s"
    rw [m16]
    exact k
  case and =>
    refine i_n2 (fun h => ?_) (fun h => ?_)
    · walk_at "s"
      refine i_n2 (fun h' => ?_) (fun h' => ?_)
      · walk_at "s"
        simp only [opv, b2t (show a ≠ 0 ∧ b ≠ 0 from ⟨h, h'⟩)] at k
        exact k
      · walk_at "s"
        simp only [opv, b2f (show ¬ (a ≠ 0 ∧ b ≠ 0) from fun q => q.2 h')] at k
        exact k
    · walk_at "s"
      simp only [opv, b2f (show ¬ (a ≠ 0 ∧ b ≠ 0) from fun q => q.1 h)] at k
      exact k
  case or =>
    refine i_n2 (fun h => ?_) (fun h => ?_)
    · walk_at "s"
      simp only [opv, b2t (show a ≠ 0 ∨ b ≠ 0 from .inl h)] at k
      exact k
    · walk_at "s"
      refine i_n2 (fun h' => ?_) (fun h' => ?_)
      · walk_at "s"
        simp only [opv, b2t (show a ≠ 0 ∨ b ≠ 0 from .inr h')] at k
        exact k
      · walk_at "s"
        simp only [opv, b2f (show ¬ (a ≠ 0 ∨ b ≠ 0) from fun q => q.elim (fun z => z h) (fun z => z h'))] at k
        exact k
  case eq =>
    refine i_d2 (fun h => ?_) (fun h => ?_) <;> walk_at "s"
    · simp only [opv, b2t h] at k
      exact k
    · simp only [opv, b2f h] at k
      exact k
  case ne =>
    refine i_n2 (fun h => ?_) (fun h => ?_) <;> walk_at "s"
    · simp only [opv, b2t (show a ≠ b from h)] at k
      exact k
    · simp only [opv, b2f (show ¬ (a ≠ b) from fun q => q h)] at k
      exact k
  case lt =>
    refine i_d2 (fun h => ?_) (fun h => ?_) <;> walk_at "s"
    · simp only [opv, b2t h] at k
      exact k
    · simp only [opv, b2f h] at k
      exact k
  case le =>
    refine i_d2 (fun h => ?_) (fun h => ?_) <;> walk_at "s"
    · simp only [opv, b2t h] at k
      exact k
    · simp only [opv, b2f h] at k
      exact k
  all_goals
    rw [m16]
    exact k
end K10
set_option Elab.async false
set_option linter.all false
set_option maxRecDepth 100000
set_option maxHeartbeats 4000000
namespace K10
open PySem PySem.Spec PyProof.Rows L2 Lb
local macro_rules | `(tactic| walk_at "s1") => `(tactic| with_reducible first | refine i_seq ?_ | refine i_asg ?_ | refine i_gname ?_ | refine i_ifS ?_ | refine i_ret ?_ | refine i_retN ?_ | refine i_drop ?_ | refine i_next ?_ | refine i_brk ?_ | refine i_cnt ?_ | refine i_par ?_ | refine i_par2 ?_ | refine i_fldS ?_ | refine i_dput ?_ | refine i_c ?_ | refine i_op ?_ | refine i_un ?_ | refine i_rU ?_ | refine i_rI0 ?_ | refine i_test ?_ | refine i_B ?_ | refine i_bl ?_ | refine i_tru ?_ | refine i_truB ?_ | refine i_and ?_ | refine i_or ?_ | refine i_not ?_ | refine i_andV ?_ | refine i_orV ?_ | refine i_notV ?_ | refine i_if ?_ | refine i_call ?_ | refine i_meth ?_ | refine i_make ?_ | refine i_cb ?_ | refine i_cons ?_ | refine i_nil ?_ | refine i_tup ?_ | refine i_lst ?_ | refine i_bml ?_ | refine i_gsub ?_ | refine i_gcons ?_ | refine i_gnil ?_ | refine i_sl ?_ | refine i_nop ?_ | refine i_part ?_ | refine i_prt ?_ | refine i_isN ?_ | refine i_notN ?_ | refine i_yes ?_ | refine i_tt ?_ | refine i_ff ?_ | refine i_ntt ?_ | refine i_nff ?_ | refine i_addI ?_ | refine i_eqI ?_ | refine i_neI ?_ | refine i_eqS ?_ | refine i_neS ?_ | refine i_intI ?_ | refine i_intB ?_ | refine i_abs ?_ | refine i_isiIB ?_ | refine i_isiNB ?_ | refine i_isiBB ?_ | refine i_dget ?_ | refine i_for ?_ | refine i_ilist ?_ | refine i_itup ?_ | refine i_rng1 ?_ | refine i_rng2 ?_ | refine i_ex1 ?_ | refine i_ex2 ?_ | refine i_exr ?_ | refine i_fld ?_ | refine i_disp ?_ | refine i_pcons ?_ | refine i_pnil ?_ | refine i_neN ?_ | refine i_eqN ?_ | refine i_neB ?_ | refine i_eqB ?_ | refine i_lc ?_ | refine i_var (by with_unfolding_all rfl) ?_ | refine i_tB (by decide +kernel) ?_ | refine i_fB (by decide +kernel) ?_ | refine i_dnI ?_ | refine i_nyI ?_ | refine i_dnR ?_ | refine i_nyR ?_ | refine i_ixT (by assumption) (by with_unfolding_all rfl) ?_ | refine i_ixL (by assumption) (by with_unfolding_all rfl) ?_ | refine i_lenL (by assumption) ?_ | refine i_lenT (by assumption) ?_ | refine i_isL (by assumption) ?_ | refine i_isiLL (by assumption) ?_ | refine i_isiTL (by assumption) ?_ | refine i_gtup (by assumption) (by with_unfolding_all rfl) ?_)
local macro_rules | `(tactic| walk_at "s") => `(tactic| repeat (walk_at "s1"))
theorem CellsAt.mono {H H' : Hp} {p : Addr} {cs : List Int} (h : CellsAt H p cs) (s : Same H H') : CellsAt H' p cs := ⟨s _ _ h.1, h.2⟩
theorem len_value (A : Ad) (n : Nat) {vs : List V} {H : Hp} {Q : VK} {E : XK} (h : sp_value n vs H Q E) : vs.length = 2 := by
  obtain ⟨v, p, e, cs, rfl, _⟩ := h
  rfl
theorem len_place (A : Ad) (n : Nat) {vs : List V} {H : Hp} {Q : VK} {E : XK} (h : sp_place n vs H Q E) : vs.length = 2 := by
  obtain ⟨v, p, e, cs, rfl, _⟩ := h
  rfl
theorem pure_place (A : Ad) (n : Nat) (vs : List V) (H : Hp) (Q : VK) (E : XK) (h : sp_place n vs H Q E) : t_place A n { nx := fun _ H' => Q .non H', rt := Q } (L2.start ["target", "cells", "_", "first", "size", "e", "index"] vs) H := by
  obtain ⟨v, p, e, cs, rfl, hd, hn, hok, h0, h1, hc, k⟩ := h
  rw [st_place]
  unfold t_place
  cases e with
  | num i => obtain ⟨k, q⟩ := h0 rfl; cases q
  | un b x => obtain ⟨f, s, y, q⟩ := h1 x.dp rfl; cases q
  | bin o x y => obtain ⟨f, s, y, q⟩ := h1 (max x.dp y.dp) rfl; cases q
  | cell j =>
    obtain ⟨q, x1, x2, rfl, hq, k1, k2⟩ := inv2 hd
    obtain rfl := inv_str k1
    obtain rfl := inv_int k2
    walk_at "s"
    exact k H (Same.refl _)
  | «at» f s x =>
    obtain ⟨q, x1, x2, x3, x4, rfl, hq, k1, k2, k3, k4⟩ := inv4 hd
    obtain rfl := inv_str k1
    obtain rfl := inv_int k2
    obtain rfl := inv_int k3
    walk_at "s"
    obtain ⟨m, rfl⟩ : ∃ m, n = m + 1 := ⟨n - 1, by simp only [Ex.dp] at hn; omega⟩
    refine ⟨x4, p, x, cs, rfl, k4, by simp only [Ex.dp] at hn; omega, hok.2.2, hc, fun H1 sm => ?_⟩
    have k := k H1 sm
    cases hv : ev cs x with
    | none =>
      simp only [pl, hv, optV] at k ⊢
      walk_at "s"
      exact k
    | some i =>
      simp only [pl, hv, optV] at k ⊢
      walk_at "s"
      refine i_d2 (fun h => ?_) (fun h => ?_)
      · walk_at "s"
        rw [if_pos h] at k
        exact k
      · walk_at "s"
        rw [if_neg h] at k
        exact k
theorem pure_value (A : Ad) (n : Nat) (vs : List V) (H : Hp) (Q : VK) (E : XK) (h : sp_value n vs H Q E) : t_value A n { nx := fun _ H' => Q .non H', rt := Q } (L2.start ["e", "cells", "cell", "a", "b"] vs) H := by
  obtain ⟨v, p, e, cs, rfl, hd, hn, hok, hc, k⟩ := h
  rw [st_value]
  unfold t_value
  cases e with
  | num i =>
    obtain ⟨q, x1, x2, rfl, hq, k1, k2⟩ := inv2 hd
    obtain rfl := inv_str k1
    obtain rfl := inv_int k2
    walk_at "s"
    exact k H (Same.refl _)
  | cell j =>
    have hd' := hd
    obtain ⟨q, x1, x2, rfl, hq, k1, k2⟩ := inv2 hd
    obtain rfl := inv_str k1
    obtain rfl := inv_int k2
    walk_at "s"
    refine ⟨sz (by simp), fun t ht => in2 upd_same ?_⟩
    have sm := Same.newp (o := .tup [.str "cell", .str "at"]) ht
    generalize upd H t (.tup [.str "cell", .str "at"]) = H1 at sm
    walk_at "s"
    refine ⟨_, p, .cell j, cs, rfl, hd'.mono sm, Nat.zero_le _, hok, fun _ => ⟨j, rfl⟩, fun m q => by simp [Ex.dp] at q, hc.mono sm, fun H2 sm2 => ?_⟩
    have hj : j < cs.length := by
      have := hc.2.len
      have : j < 3 := hok
      omega
    have hc2 := (hc.mono sm).mono sm2
    have k := k H2 (sm.trans sm2)
    simp only [ev, List.getElem?_eq_getElem hj] at k
    simp only [pl, optV]
    walk_at "s"
    exact i_ixL hc2.1 (atI_nat (at_cells (List.getElem?_eq_getElem hj))) k
  | «at» f s x =>
    have hd' := hd
    obtain ⟨q, x1, x2, x3, x4, rfl, hq, k1, k2, k3, k4⟩ := inv4 hd
    obtain rfl := inv_str k1
    walk_at "s"
    refine ⟨sz (by simp), fun t ht => in2 upd_same ?_⟩
    have sm := Same.newp (o := .tup [.str "cell", .str "at"]) ht
    generalize upd H t (.tup [.str "cell", .str "at"]) = H1 at sm
    walk_at "s"
    refine ⟨_, p, .at f s x, cs, rfl, hd'.mono sm, hn, hok, fun q => by simp [Ex.dp] at q, fun m q => ⟨f, s, x, rfl⟩, hc.mono sm, fun H2 sm2 => ?_⟩
    have hc2 := (hc.mono sm).mono sm2
    have k := k H2 (sm.trans sm2)
    obtain ⟨hf, hs, hx⟩ := hok
    cases hv : ev cs x with
    | none =>
      simp only [pl, ev, hv, optV] at k ⊢
      walk_at "s"
      exact k
    | some i =>
      obtain ⟨i0, i1⟩ := ev_wd hc.2 hx hv
      simp only [pl, ev, hv] at k ⊢
      by_cases hsi : (s : Int) ≤ i
      · rw [if_pos hsi] at k ⊢
        simp only [optV] at k ⊢
        walk_at "s"
        exact k
      · rw [if_neg hsi] at k ⊢
        simp only [optV]
        have hj : f + i.toNat < cs.length := by
          have := hc.2.len
          omega
        rw [List.getElem?_eq_getElem hj] at k
        walk_at "s"
        exact i_ixL hc2.1 (atN (j := f + i.toNat) (by omega) (at_cells (List.getElem?_eq_getElem hj))) k
  | un b x =>
    have hk : ∃ q, v = .ref q ∧ ∃ x2, H q = some (.tup [.str (if b = true then "neg" else "not"), x2]) ∧ Dt H x2 x.py := by
      cases b <;>
      · obtain ⟨q, x1, x2, rfl, hq, k1, k2⟩ := inv2 hd
        obtain rfl := inv_str k1
        exact ⟨q, rfl, x2, hq, k2⟩
    obtain ⟨q, rfl, x2, hq, k2⟩ := hk
    obtain ⟨m, rfl⟩ : ∃ m, n = m + 1 := ⟨n - 1, by simp only [Ex.dp] at hn; omega⟩
    cases b <;> simp only [if_pos, Bool.false_eq_true, if_false] at hq <;> walk_at "s"
    all_goals
      refine ⟨sz (by simp), fun t ht => in2 upd_same ?_⟩
      have sm := Same.newp (o := .tup [.str "cell", .str "at"]) ht
      generalize upd H t (.tup [.str "cell", .str "at"]) = H1 at sm
      have hq := sm _ _ hq
      walk_at "s"
      refine ⟨x2, p, x, cs, rfl, k2.mono sm, by simp only [Ex.dp] at hn; omega, hok, hc.mono sm, fun H2 sm2 => ?_⟩
      have hq := sm2 _ _ hq
      have k := k H2 (sm.trans sm2)
      cases hv : ev cs x with
      | none =>
        simp only [ev, hv, optV] at k ⊢
        walk_at "s"
        exact k
      | some i =>
        simp only [ev, hv, optV] at k ⊢
        walk_at "s"
        first
          | (rw [m16]; exact k)
          | (refine i_d2 (fun h => ?_) (fun h => ?_) <;> walk_at "s"
             · simp only [not1, b2t h] at k
               exact k
             · simp only [not1, b2f h] at k
               exact k)
  | bin o x y =>
    obtain ⟨q, x1, x2, x3, rfl, hq, k1, k2, k3⟩ := inv3 hd
    obtain rfl := inv_str k1
    obtain ⟨m, rfl⟩ : ∃ m, n = m + 1 := ⟨n - 1, by simp only [Ex.dp] at hn; omega⟩
    have hne : ∀ z : Str, z ∈ (["num", "cell", "at", "neg", "not"] : List Str) → o.nm ≠ z := by
      cases o <;> decide +kernel
    walk_at "s"
    refine i_dn (hne _ (by decide +kernel)) ?_
    walk_at "s"
    refine ⟨sz (by simp), fun t ht => in2 upd_same ?_⟩
    have sm := Same.newp (o := .tup [.str "cell", .str "at"]) ht
    generalize upd H t (.tup [.str "cell", .str "at"]) = H1 at sm
    have hq := sm _ _ hq
    refine i_bl ?_
    refine i_fB ?_ ?_
    · have a1 := hne "cell" (by decide +kernel)
      have a2 := hne "at" (by decide +kernel)
      simp [a1.symm, a2.symm]
    walk_at "s"
    refine ⟨x2, p, x, cs, rfl, k2.mono sm, by simp only [Ex.dp] at hn; omega, hok.1, hc.mono sm, fun H2 sm2 => ?_⟩
    have hq := sm2 _ _ hq
    walk_at "s"
    refine i_dn (hne _ (by decide +kernel)) ?_
    walk_at "s"
    refine i_dn (hne _ (by decide +kernel)) ?_
    walk_at "s"
    refine ⟨x3, p, y, cs, rfl, (k3.mono sm).mono sm2, by simp only [Ex.dp] at hn; omega, hok.2, (hc.mono sm).mono sm2, fun H3 sm3 => ?_⟩
    have hq := sm3 _ _ hq
    have sm4 := (sm.trans sm2).trans sm3
    cases hv : ev cs x with
    | none =>
      have k := k H3 sm4
      simp only [ev, hv, optV] at k ⊢
      walk_at "s"
      exact k
    | some i =>
      cases hw : ev cs y with
      | none =>
        have k := k H3 sm4
        simp only [ev, hv, hw, optV] at k ⊢
        walk_at "s"
        exact k
      | some j =>
        simp only [optV]
        walk_at "s"
        refine ⟨o, i, j, rfl, ev_wd hc.2 hok.1 hv, ev_wd hc.2 hok.2 hw, fun H4 sm5 => ?_⟩
        have k := k H4 (sm4.trans sm5)
        simp only [ev, hv, hw] at k
        exact k
end K10
set_option Elab.async false
set_option linter.all false
set_option maxRecDepth 100000
set_option maxHeartbeats 4000000
namespace K10
open PySem PySem.Spec PyProof.Rows L2 Lb
local macro_rules | `(tactic| walk_at "s1") => `(tactic| with_reducible first | refine i_seq ?_ | refine i_asg ?_ | refine i_gname ?_ | refine i_ifS ?_ | refine i_ret ?_ | refine i_retN ?_ | refine i_drop ?_ | refine i_next ?_ | refine i_brk ?_ | refine i_cnt ?_ | refine i_par ?_ | refine i_par2 ?_ | refine i_fldS ?_ | refine i_dput ?_ | refine i_c ?_ | refine i_op ?_ | refine i_un ?_ | refine i_rU ?_ | refine i_rI0 ?_ | refine i_test ?_ | refine i_B ?_ | refine i_bl ?_ | refine i_tru ?_ | refine i_truB ?_ | refine i_and ?_ | refine i_or ?_ | refine i_not ?_ | refine i_andV ?_ | refine i_orV ?_ | refine i_notV ?_ | refine i_if ?_ | refine i_call ?_ | refine i_meth ?_ | refine i_make ?_ | refine i_cb ?_ | refine i_cons ?_ | refine i_nil ?_ | refine i_tup ?_ | refine i_lst ?_ | refine i_bml ?_ | refine i_gsub ?_ | refine i_gcons ?_ | refine i_gnil ?_ | refine i_sl ?_ | refine i_nop ?_ | refine i_part ?_ | refine i_prt ?_ | refine i_isN ?_ | refine i_notN ?_ | refine i_yes ?_ | refine i_tt ?_ | refine i_ff ?_ | refine i_ntt ?_ | refine i_nff ?_ | refine i_addI ?_ | refine i_eqI ?_ | refine i_neI ?_ | refine i_eqS ?_ | refine i_neS ?_ | refine i_intI ?_ | refine i_intB ?_ | refine i_abs ?_ | refine i_isiIB ?_ | refine i_isiNB ?_ | refine i_isiBB ?_ | refine i_dget ?_ | refine i_for ?_ | refine i_ilist ?_ | refine i_itup ?_ | refine i_rng1 ?_ | refine i_rng2 ?_ | refine i_ex1 ?_ | refine i_ex2 ?_ | refine i_exr ?_ | refine i_fld ?_ | refine i_disp ?_ | refine i_pcons ?_ | refine i_pnil ?_ | refine i_neN ?_ | refine i_eqN ?_ | refine i_neB ?_ | refine i_eqB ?_ | refine i_lc ?_ | refine i_var (by with_unfolding_all rfl) ?_ | refine i_tB (by decide +kernel) ?_ | refine i_fB (by decide +kernel) ?_ | refine i_dnI ?_ | refine i_nyI ?_ | refine i_dnR ?_ | refine i_nyR ?_ | refine i_ixT (by assumption) (by with_unfolding_all rfl) ?_ | refine i_ixL (by assumption) (by with_unfolding_all rfl) ?_ | refine i_lenL (by assumption) ?_ | refine i_lenT (by assumption) ?_ | refine i_isL (by assumption) ?_ | refine i_isiLL (by assumption) ?_ | refine i_isiTL (by assumption) ?_ | refine i_gtup (by assumption) (by with_unfolding_all rfl) ?_)
local macro_rules | `(tactic| walk_at "s") => `(tactic| repeat (walk_at "s1"))
theorem env_cells {x y z : V} : valV [((.inr "cells" : Key), x), (.inr "reads", y), (.inr "spans", z)] (.inr "cells") = some x := by rw [valV_pos rfl]
theorem env_reads {x y z : V} : valV [((.inr "cells" : Key), x), (.inr "reads", y), (.inr "spans", z)] (.inr "reads") = some y := by
  rw [valV_neg (show ¬ ((Sum.inr "cells" : Key) = .inr "reads") by decide +kernel), valV_pos rfl]
theorem env_spans {x y z : V} : valV [((.inr "cells" : Key), x), (.inr "reads", y), (.inr "spans", z)] (.inr "spans") = some z := by
  rw [valV_neg (show ¬ ((Sum.inr "cells" : Key) = .inr "spans") by decide +kernel), valV_neg (show ¬ ((Sum.inr "reads" : Key) = .inr "spans") by decide +kernel), valV_pos rfl]
theorem EnvAt.mono {a c d : Addr} {H H' : Hp} (h : EnvAt a c H d) (g : Gr a c H H') : EnvAt a c H' d := by
  obtain ⟨l1, l2, l3, t, n, e1, e2, e3, e4, e5, hn⟩ := h
  exact ⟨l1, l2, l3, t, n, g _ _ e1, g _ _ e2, g _ _ e3, g _ _ e4, g _ _ e5, hn⟩
theorem len_l_number (A : Ad) {vs : List V} {H : Hp} {Q : VK} {E : XK} (h : sp_number vs H Q E) : vs.length = 1 := by
  obtain ⟨a, c, rfl, _⟩ := h
  rfl
theorem pure_l_number (A : Ad) (vs : List V) (H : Hp) (Q : VK) (E : XK) (h : sp_number vs H Q E) : t_l_number A { nx := fun _ H' => Q .non H', rt := Q } (L2.start ["_law_state_here"] vs) H := by
  obtain ⟨a, c, rfl, R, k⟩ := h
  rw [st_l_number]
  unfold t_l_number
  walk_at "s"
  refine ⟨a, c, 10, rfl, by decide, by decide, R, fun H1 r1 h1 h1' R f1 => ?_⟩
  walk_at "s"
  refine ⟨a, c, 65536, rfl, by decide, by decide, R, fun H2 r2 h2 h2' R f2 => ?_⟩
  walk_at "s"
  refine ⟨sz (by simp), fun p hp => ?_⟩
  obtain ⟨R, g3, e3, n1, n2⟩ := new_step (o := .lst [V.int 0, V.int 1, V.int 2, V.int 3, V.int r1, V.int 65535, V.int r2]) R hp
  walk_at "s"
  refine ⟨a, c, p, _, rfl, R, upd_same, n1, n2, by simp, by simp, fun H4 v hv R f4 => ?_⟩
  obtain ⟨i, rfl, hi⟩ : ∃ i, v = .int i ∧ Wd i := by
    simp only [List.mem_cons, List.not_mem_nil, or_false] at hv
    rcases hv with rfl | rfl | rfl | rfl | rfl | rfl | rfl <;> exact ⟨_, rfl, by constructor <;> omega⟩
  walk_at "s"
  refine ⟨sz (by simp), fun q hq => ?_⟩
  obtain ⟨R, g5, e5, _⟩ := new_step (o := .tup [V.str "num", V.int i]) R hq
  exact k _ _ i R (f1.gr.trans (f2.gr.trans (g3.trans (f4.gr.trans g5)))) hi (.tup e5 (.cons (.str _) (.cons (.int _) .nil)))
theorem len_l_operator (A : Ad) {vs : List V} {H : Hp} {Q : VK} {E : XK} (h : sp_oper vs H Q E) : vs.length = 1 := by
  obtain ⟨a, c, rfl, _⟩ := h
  rfl
theorem pure_l_operator (A : Ad) (vs : List V) (H : Hp) (Q : VK) (E : XK) (h : sp_oper vs H Q E) : t_l_operator A { nx := fun _ H' => Q .non H', rt := Q } (L2.start ["_law_state_here"] vs) H := by
  obtain ⟨a, c, rfl, R, k⟩ := h
  rw [st_l_operator]
  unfold t_l_operator
  walk_at "s"
  refine ⟨sz (by simp), fun p hp => ?_⟩
  obtain ⟨R, g1, e1, n1, n2⟩ := new_step (o := .lst [V.str "/", V.str "mod"]) R hp
  walk_at "s"
  refine ⟨a, c, p, _, rfl, R, upd_same, n1, n2, by simp, by simp, fun H2 v hv R f2 => ?_⟩
  obtain ⟨o1, rfl⟩ : ∃ o : Op, v = .str o.nm := by
    simp only [List.mem_cons, List.not_mem_nil, or_false] at hv
    rcases hv with rfl | rfl
    · exact ⟨.div, rfl⟩
    · exact ⟨.mod, rfl⟩
  walk_at "s"
  refine ⟨sz (by simp), fun q hq => ?_⟩
  obtain ⟨R, g3, e3, n1, n2⟩ := new_step (o := .lst [V.str "+", V.str "-", V.str "*", V.str "+", V.str "-", V.str "and", V.str "or", V.str "==", V.str "!=", V.str "<", V.str "<=", V.str "+", V.str o1.nm]) R hq
  walk_at "s"
  refine ⟨a, c, q, _, rfl, R, upd_same, n1, n2, by simp, by simp, fun H4 v hv R f4 => ?_⟩
  have gg := g1.trans (f2.gr.trans (g3.trans f4.gr))
  simp only [List.mem_cons, List.not_mem_nil, or_false] at hv
  rcases hv with rfl | rfl | rfl | rfl | rfl | rfl | rfl | rfl | rfl | rfl | rfl | rfl | rfl
  · exact k _ .add R gg
  · exact k _ .sub R gg
  · exact k _ .mul R gg
  · exact k _ .add R gg
  · exact k _ .sub R gg
  · exact k _ .and R gg
  · exact k _ .or R gg
  · exact k _ .eq R gg
  · exact k _ .ne R gg
  · exact k _ .lt R gg
  · exact k _ .le R gg
  · exact k _ .add R gg
  · exact k _ o1 R gg
theorem i3 {v : V} (h : v ∈ ([V.int 0, V.int 1, V.int 2] : List V)) : ∃ k : Nat, v = .int k ∧ k < 3 := by
  simp only [List.mem_cons, List.not_mem_nil, or_false] at h
  rcases h with rfl | rfl | rfl
  · exact ⟨0, rfl, by decide⟩
  · exact ⟨1, rfl, by decide⟩
  · exact ⟨2, rfl, by decide⟩
theorem len_l_index (A : Ad) {vs : List V} {H : Hp} {Q : VK} {E : XK} (h : sp_index vs H Q E) : vs.length = 3 := by
  obtain ⟨a, c, d, n, rfl, _⟩ := h
  rfl
theorem pure_l_index (A : Ad) (vs : List V) (H : Hp) (Q : VK) (E : XK) (h : sp_index vs H Q E) : t_l_index A { nx := fun _ H' => Q .non H', rt := Q } (L2.start ["_law_state_here", "_law_env", "_law_size", "_law_cell"] vs) H := by
  obtain ⟨a, c, d, n, rfl, hn, R, ⟨l1, l2, l3, t, m, e1, e2, e3, e4, e5, hm⟩, k⟩ := h
  rw [st_l_index]
  unfold t_l_index
  walk_at "s"
  refine i_dgetK (hid_get e1) (k := .inr "reads") rfl env_reads ?_
  walk_at "s"
  refine ⟨a, c, l2, _, rfl, R, hid_get e3, (hid_ne e3).1, (hid_ne e3).2, by simp, by simp, fun H1 v hv R f1 => ?_⟩
  obtain ⟨j, rfl, hj⟩ := i3 hv
  walk_at "s"
  refine ⟨sz (by simp), fun p hp => ?_⟩
  obtain ⟨R, g2, e2, n1, n2⟩ := new_step (o := .tup [V.str "cell", V.int j]) R hp
  walk_at "s"
  refine ⟨a, c, 8, rfl, by decide, by decide, R, fun H3 r h0 h1 R f3 => ?_⟩
  have e2 := f3.gr _ _ e2
  have gg := f1.gr.trans (g2.trans f3.gr)
  walk_at "s"
  refine i_d2 (fun h => ?_) (fun h => ?_)
  · walk_at "s"
    exact k _ _ (.cell j) R gg hj (Nat.zero_le _) (.tup e2 (.cons (.str _) (.cons (.int _) .nil)))
  · walk_at "s"
    refine ⟨sz (by simp), fun q hq => ?_⟩
    obtain ⟨R, g4, e4, _⟩ := new_step (o := .tup [V.str "num", V.int n]) R hq
    walk_at "s"
    refine ⟨sz (by simp), fun q2 hq2 => ?_⟩
    obtain ⟨R, g5, e5, _⟩ := new_step (o := .tup [V.str "mod", V.ref p, V.ref q]) R hq2
    refine k _ _ (.bin .mod (.cell j) (.num n)) R (gg.trans (g4.trans g5)) ⟨hj, by constructor <;> omega⟩ (by simp [Ex.dp]) ?_
    exact .tup e5 (.cons (.str _) (.cons (.tup ((g4.trans g5) _ _ e2) (.cons (.str _) (.cons (.int _) .nil))) (.cons (.tup (g5 _ _ e4) (.cons (.str _) (.cons (.int _) .nil))) .nil)))
theorem len_l_read (A : Ad) {vs : List V} {H : Hp} {Q : VK} {E : XK} (h : sp_read vs H Q E) : vs.length = 2 := by
  obtain ⟨a, c, d, rfl, _⟩ := h
  rfl
theorem pure_l_read (A : Ad) (vs : List V) (H : Hp) (Q : VK) (E : XK) (h : sp_read vs H Q E) : t_l_read A { nx := fun _ H' => Q .non H', rt := Q } (L2.start ["_law_state_here", "_law_env", "_law_first", "_law_size"] vs) H := by
  obtain ⟨a, c, d, rfl, R, En, k⟩ := h
  have En' := En
  obtain ⟨l1, l2, l3, t, m, e1, e2, e3, e4, e5, hm⟩ := En'
  rw [st_l_read]
  unfold t_l_read
  walk_at "s"
  refine i_dgetK (hid_get e1) (k := .inr "spans") rfl env_spans ?_
  walk_at "s"
  refine i_lenL (hid_get e4) ?_
  walk_at "s"
  refine i_dy (by simp) ?_
  walk_at "s"
  refine ⟨a, c, 4, rfl, by decide, by decide, R, fun H1 r h0 h1 R f1 => ?_⟩
  have g1 := f1.gr
  have En := En.mono g1
  walk_at "s"
  refine i_d2 (fun h => ?_) (fun h => ?_)
  · walk_at "s"
    refine i_dgetK (hid_get (g1 _ _ e1)) (k := .inr "spans") rfl env_spans ?_
    walk_at "s"
    refine ⟨a, c, l3, _, rfl, R, hid_get (g1 _ _ e4), (hid_ne e4).1, (hid_ne e4).2, by simp, by simp, fun H2 v hv R f2 => ?_⟩
    obtain rfl := List.mem_singleton.mp hv
    have g2 := g1.trans f2.gr
    have hT := hid_get (g2 _ _ e5)
    walk_at "s"
    refine ⟨a, c, d, m, rfl, hm, R, En.mono f2.gr, fun H3 v e R g3 he hd hv => ?_⟩
    walk_at "s"
    refine ⟨sz (by simp), fun q hq => ?_⟩
    obtain ⟨R, g4, e4, _⟩ := new_step (o := .tup [V.str "at", V.int 3, V.int m, v]) R hq
    refine k _ _ (.at 3 m e) R (g2.trans (g3.trans g4)) ⟨rfl, hm, he⟩ (by simp only [Ex.dp]; omega) ?_
    exact .tup e4 (.cons (.str _) (.cons (.int _) (.cons (.int _) (.cons (hv.mono g4) .nil))))
  · walk_at "s"
    refine i_dgetK (hid_get (g1 _ _ e1)) (k := .inr "reads") rfl env_reads ?_
    walk_at "s"
    refine ⟨a, c, l2, _, rfl, R, hid_get (g1 _ _ e3), (hid_ne e3).1, (hid_ne e3).2, by simp, by simp, fun H2 v hv R f2 => ?_⟩
    obtain ⟨j, rfl, hj⟩ := i3 hv
    walk_at "s"
    refine ⟨sz (by simp), fun q hq => ?_⟩
    obtain ⟨R, g4, e4, _⟩ := new_step (o := .tup [V.str "cell", V.int j]) R hq
    exact k _ _ (.cell j) R (g1.trans (f2.gr.trans g4)) hj (Nat.zero_le _) (.tup e4 (.cons (.str _) (.cons (.int _) .nil)))
theorem len_l_target (A : Ad) {vs : List V} {H : Hp} {Q : VK} {E : XK} (h : sp_target vs H Q E) : vs.length = 2 := by
  obtain ⟨a, c, d, rfl, _⟩ := h
  rfl
theorem pure_l_target (A : Ad) (vs : List V) (H : Hp) (Q : VK) (E : XK) (h : sp_target vs H Q E) : t_l_target A { nx := fun _ H' => Q .non H', rt := Q } (L2.start ["_law_state_here", "_law_env", "_law_first", "_law_size"] vs) H := by
  obtain ⟨a, c, d, rfl, R, En, k⟩ := h
  have En' := En
  obtain ⟨l1, l2, l3, t, m, e1, e2, e3, e4, e5, hm⟩ := En'
  rw [st_l_target]
  unfold t_l_target
  walk_at "s"
  refine i_dgetK (hid_get e1) (k := .inr "spans") rfl env_spans ?_
  walk_at "s"
  refine i_lenL (hid_get e4) ?_
  walk_at "s"
  refine i_dy (by simp) ?_
  walk_at "s"
  refine ⟨a, c, 4, rfl, by decide, by decide, R, fun H1 r h0 h1 R f1 => ?_⟩
  have g1 := f1.gr
  have En := En.mono g1
  walk_at "s"
  refine i_d2 (fun h => ?_) (fun h => ?_)
  · walk_at "s"
    refine i_dgetK (hid_get (g1 _ _ e1)) (k := .inr "spans") rfl env_spans ?_
    walk_at "s"
    refine ⟨a, c, l3, _, rfl, R, hid_get (g1 _ _ e4), (hid_ne e4).1, (hid_ne e4).2, by simp, by simp, fun H2 v hv R f2 => ?_⟩
    obtain rfl := List.mem_singleton.mp hv
    have g2 := g1.trans f2.gr
    have hT := hid_get (g2 _ _ e5)
    walk_at "s"
    refine ⟨a, c, d, m, rfl, hm, R, En.mono f2.gr, fun H3 v e R g3 he hd hv => ?_⟩
    walk_at "s"
    refine ⟨sz (by simp), fun q hq => ?_⟩
    obtain ⟨R, g4, e4, _⟩ := new_step (o := .tup [V.str "at", V.int 3, V.int m, v]) R hq
    refine k _ _ (.at 3 m e) R (g2.trans (g3.trans g4)) ⟨rfl, hm, he⟩ (by simp only [Ex.dp]; omega) (fun q => by simp [Ex.dp] at q) (fun _ _ => ⟨3, m, e, rfl⟩) ?_
    exact .tup e4 (.cons (.str _) (.cons (.int _) (.cons (.int _) (.cons (hv.mono g4) .nil))))
  · walk_at "s"
    refine i_dgetK (hid_get (g1 _ _ e1)) (k := .inr "cells") rfl env_cells ?_
    walk_at "s"
    refine ⟨a, c, l1, _, rfl, R, hid_get (g1 _ _ e2), (hid_ne e2).1, (hid_ne e2).2, by simp, by simp, fun H2 v hv R f2 => ?_⟩
    obtain ⟨j, rfl, hj⟩ := i3 hv
    walk_at "s"
    refine ⟨sz (by simp), fun q hq => ?_⟩
    obtain ⟨R, g4, e4, _⟩ := new_step (o := .tup [V.str "cell", V.int j]) R hq
    exact k _ _ (.cell j) R (g1.trans (f2.gr.trans g4)) hj (Nat.zero_le _) (fun _ => ⟨j, rfl⟩) (fun m q => by simp [Ex.dp] at q) (.tup e4 (.cons (.str _) (.cons (.int _) .nil)))
theorem len_l_expression (A : Ad) (n : Nat) {vs : List V} {H : Hp} {Q : VK} {E : XK} (h : sp_expr n vs H Q E) : vs.length = 3 := by
  obtain ⟨a, c, d, rfl, _⟩ := h
  rfl
theorem pure_l_expression (A : Ad) (n : Nat) (vs : List V) (H : Hp) (Q : VK) (E : XK) (h : sp_expr n vs H Q E) : t_l_expression A n { nx := fun _ H' => Q .non H', rt := Q } (L2.start ["_law_state_here", "_law_env", "_law_deep_here", "_law_kind", "_law_first"] vs) H := by
  obtain ⟨a, c, d, rfl, R, En, k⟩ := h
  rw [st_l_expression]
  unfold t_l_expression
  walk_at "s"
  refine ⟨a, c, 7, rfl, by decide, by decide, R, fun H1 r h0 h1 R f1 => ?_⟩
  have g1 := f1.gr
  have En := En.mono g1
  walk_at "s"
  have leaf : ∀ (nx bk ct : L2.St → Hp → Prop), (tSeq (tIfS (tAnd (tTest (tOp (rI0 fun i j => .bl (decide (j < i))) (tCB rLenA (tCons (tDGet (tVar 1) (tC (.str "reads"))) tNil)) (tC (.int 0)))) (tTest (tOp (rI0 fun i j => .bl (decide (j < i))) (tCall spDraw [] E0 (tCons (tVar 0) (tCons (tC (.int 3)) tNil))) (tC (.int 0))))) (tRet (tCall sp_read [] E0 (tCons (tVar 0) (tCons (tVar 1) tNil)))) tNext) (tRet (tCall sp_number [] E0 (tCons (tVar 0) tNil)))) ⟨nx, Q, bk, ct⟩ [some (.ref a), some (.ref d), some (.int n), some (.int r), none] H1 := by
    intro nx bk ct
    obtain ⟨l1, l2, l3, t, m, e1, e2, e3, e4, e5, hm⟩ := id En
    walk_at "s"
    refine i_dgetK (hid_get e1) (k := .inr "reads") rfl env_reads ?_
    walk_at "s"
    refine i_lenL (hid_get e3) ?_
    walk_at "s"
    try refine i_dy (by simp) ?_
    walk_at "s"
    refine ⟨a, c, 3, rfl, by decide, by decide, R, fun H2 r2 h0 h1 R f2 => ?_⟩
    have g2 := g1.trans f2.gr
    have En := En.mono f2.gr
    walk_at "s"
    refine i_d2 (fun h => ?_) (fun h => ?_)
    · walk_at "s"
      exact ⟨a, c, d, rfl, R, En, fun H3 v e R g3 he hd hv => k _ _ e R (g2.trans g3) he (by omega) hv⟩
    · walk_at "s"
      exact ⟨a, c, rfl, R, fun H3 v i R g3 hi hv => k _ _ (.num i) R (g2.trans g3) hi (by simp [Ex.dp]) hv⟩
  refine i_d2 (fun h => ?_) (fun h => ?_)
  · refine i_tt ?_
    exact leaf _ _ _
  obtain ⟨m, rfl⟩ : ∃ m, n = m + 1 := ⟨n - 1, by omega⟩
  walk_at "s"
  refine i_d2 (fun h => ?_) (fun h => ?_)
  · exact leaf _ _ _
  walk_at "s"
  have em : (((m + 1 : Nat) : Int) - 1) = (m : Int) := by omega
  refine i_d2 (fun h => ?_) (fun h => ?_)
  · walk_at "s"
    refine ⟨sz (by simp), fun p hp => ?_⟩
    obtain ⟨R, g2, e2, n1, n2⟩ := new_step (o := .lst [V.str "neg", V.str "not"]) R hp
    walk_at "s"
    refine ⟨a, c, p, _, rfl, R, upd_same, n1, n2, by simp, by simp, fun H3 v hv R f3 => ?_⟩
    have g3 := g1.trans (g2.trans f3.gr)
    obtain ⟨b, rfl⟩ : ∃ b : Bool, v = .str (if b = true then "neg" else "not") := by
      simp only [List.mem_cons, List.not_mem_nil, or_false] at hv
      rcases hv with rfl | rfl
      · exact ⟨true, rfl⟩
      · exact ⟨false, rfl⟩
    walk_at "s"
    rw [em]
    refine ⟨a, c, d, rfl, R, En.mono (g2.trans f3.gr), fun H4 v e R g4 he hd hvv => ?_⟩
    walk_at "s"
    refine ⟨sz (by simp), fun q hq => ?_⟩
    obtain ⟨R, g5, e5, _⟩ := new_step (o := .tup [V.str (if b = true then "neg" else "not"), v]) R hq
    refine k _ _ (.un b e) R (g3.trans (g4.trans g5)) he (by simp only [Ex.dp]; omega) ?_
    cases b
    · exact .tup e5 (.cons (.str _) (.cons (hvv.mono g5) .nil))
    · exact .tup e5 (.cons (.str _) (.cons (hvv.mono g5) .nil))
  · walk_at "s"
    rw [em]
    refine ⟨a, c, d, rfl, R, En, fun H2 v1 x R g2 hx hd1 hv1 => ?_⟩
    walk_at "s"
    refine ⟨a, c, rfl, R, fun H3 o R g3 => ?_⟩
    walk_at "s"
    rw [em]
    refine ⟨a, c, d, rfl, R, En.mono (g2.trans g3), fun H4 v2 y R g4 hy hd2 hv2 => ?_⟩
    walk_at "s"
    refine ⟨sz (by simp), fun q hq => ?_⟩
    obtain ⟨R, g5, e5, _⟩ := new_step (o := .tup [V.str o.nm, v1, v2]) R hq
    refine k _ _ (.bin o x y) R (g1.trans (g2.trans (g3.trans (g4.trans g5)))) ⟨hx, hy⟩ (by simp only [Ex.dp]; omega) ?_
    exact .tup e5 (.cons (.str _) (.cons (hv1.mono (g3.trans (g4.trans g5))) (.cons (hv2.mono g5) .nil)))
end K10
set_option Elab.async false
set_option linter.all false
set_option maxRecDepth 100000
set_option maxHeartbeats 4000000
namespace K10
open PySem PySem.Spec PyProof.Rows L2 Lb
local macro_rules | `(tactic| walk_at "s1") => `(tactic| with_reducible first | refine i_seq ?_ | refine i_asg ?_ | refine i_gname ?_ | refine i_ifS ?_ | refine i_ret ?_ | refine i_retN ?_ | refine i_drop ?_ | refine i_next ?_ | refine i_brk ?_ | refine i_cnt ?_ | refine i_par ?_ | refine i_par2 ?_ | refine i_fldS ?_ | refine i_dput ?_ | refine i_c ?_ | refine i_op ?_ | refine i_un ?_ | refine i_rU ?_ | refine i_rI0 ?_ | refine i_test ?_ | refine i_B ?_ | refine i_bl ?_ | refine i_tru ?_ | refine i_truB ?_ | refine i_and ?_ | refine i_or ?_ | refine i_not ?_ | refine i_andV ?_ | refine i_orV ?_ | refine i_notV ?_ | refine i_if ?_ | refine i_call ?_ | refine i_meth ?_ | refine i_make ?_ | refine i_cb ?_ | refine i_cons ?_ | refine i_nil ?_ | refine i_tup ?_ | refine i_lst ?_ | refine i_bml ?_ | refine i_gsub ?_ | refine i_gcons ?_ | refine i_gnil ?_ | refine i_sl ?_ | refine i_nop ?_ | refine i_part ?_ | refine i_prt ?_ | refine i_isN ?_ | refine i_notN ?_ | refine i_yes ?_ | refine i_tt ?_ | refine i_ff ?_ | refine i_ntt ?_ | refine i_nff ?_ | refine i_addI ?_ | refine i_eqI ?_ | refine i_neI ?_ | refine i_eqS ?_ | refine i_neS ?_ | refine i_intI ?_ | refine i_intB ?_ | refine i_abs ?_ | refine i_isiIB ?_ | refine i_isiNB ?_ | refine i_isiBB ?_ | refine i_dget ?_ | refine i_for ?_ | refine i_ilist ?_ | refine i_itup ?_ | refine i_rng1 ?_ | refine i_rng2 ?_ | refine i_ex1 ?_ | refine i_ex2 ?_ | refine i_exr ?_ | refine i_fld ?_ | refine i_disp ?_ | refine i_pcons ?_ | refine i_pnil ?_ | refine i_neN ?_ | refine i_eqN ?_ | refine i_neB ?_ | refine i_eqB ?_ | refine i_lc ?_ | refine i_var (by with_unfolding_all rfl) ?_ | refine i_tB (by decide +kernel) ?_ | refine i_fB (by decide +kernel) ?_ | refine i_dnI ?_ | refine i_nyI ?_ | refine i_dnR ?_ | refine i_nyR ?_ | refine i_ixT (by assumption) (by with_unfolding_all rfl) ?_ | refine i_ixL (by assumption) (by with_unfolding_all rfl) ?_ | refine i_lenL (by assumption) ?_ | refine i_lenT (by assumption) ?_ | refine i_isL (by assumption) ?_ | refine i_isiLL (by assumption) ?_ | refine i_isiTL (by assumption) ?_ | refine i_gtup (by assumption) (by with_unfolding_all rfl) ?_)
local macro_rules | `(tactic| walk_at "s") => `(tactic| repeat (walk_at "s1"))
theorem i_in2 {K : PySem.W.Frag} {H : Hp} {Q : VK} {x a b : Str} (k : ∀ H1, Same H H1 → Q (.bl (a == x || b == x)) H1) :
    ([.str a, .str b] : List V).length ≤ sizeLine ∧ ∀ p, H p = none → rIn K false (.str x) (.ref p) (upd H p (.tup [.str a, .str b])) Q :=
  ⟨sz (by simp), fun p hp => in2 upd_same (k _ (Same.newp hp))⟩
theorem i_sl1 {H : Hp} {Q : VK} {p : Addr} {x : V} {xs : List V} (h : H p = some (.tup (x :: xs))) (k : ∀ q, H q = none → Q (.ref q) (upd H q (.tup xs))) : rSlA (.ref p) (some 1) none H Q := by
  have e1 : HT.sIx (x :: xs).length 0 (some 1) = 1 := by
    simp [HT.sIx]
  have e : cutV (x :: xs) (some 1) none = xs := by
    unfold cutV
    rw [e1, HT.sIx_none]
    simp
  refine i_slT h (fun z => by rw [e1] at z; exact absurd z.1 (by decide)) ?_
  rw [e]
  exact k
theorem q_eq {Q : VK} {H : Hp} {x y : Int} (k : Q (.int y) H) (e : x = y) : Q (.int x) H := by rw [e]; exact k
theorem len_l_binary (A : Ad) {vs : List V} {H : Hp} {Q : VK} {E : XK} (h : sp_calc vs H Q E) : vs.length = 3 := len_calculate A h
theorem pure_l_binary (A : Ad) (vs : List V) (H : Hp) (Q : VK) (E : XK) (h : sp_calc vs H Q E) : t_l_binary A { nx := fun _ H' => Q .non H', rt := Q } (L2.start ["_law_sign", "_law_a", "_law_b", "_law_found"] vs) H := by
  obtain ⟨o, a, b, rfl, ⟨a0, a1⟩, ⟨b0, b1⟩, k⟩ := h
  rw [st_l_binary]
  unfold t_l_binary
  walk_at "s"
  refine i_in2 (fun H1 s1 => ?_)
  have k1 := k H1 s1
  cases o <;> simp only [Op.nm] <;> walk_at "s"
  case div =>
    refine i_d2 (fun h => ?_) (fun h => ?_)
    · walk_at "s"
      simp only [opv, if_pos h] at k1
      exact k1
    · walk_at "s"
      refine i_rI ⟨by omega, by omega⟩ ?_
      simp only [opv, if_neg h] at k1
      exact k1
  case mod =>
    refine i_d2 (fun h => ?_) (fun h => ?_)
    · walk_at "s"
      simp only [opv, if_pos h] at k1
      exact k1
    · walk_at "s"
      refine i_rI (show 0 < b by omega) ?_
      simp only [opv, if_neg h] at k1
      exact k1
  all_goals
    refine i_in2 (fun H2 s2 => ?_)
    have s2 := s1.trans s2
    walk_at "s"
  case and =>
    have k := k H2 s2
    refine i_d2 (fun h => ?_) (fun h => ?_) <;> walk_at "s"
    · refine q_eq k ?_
      simp only [b2, decide_eq_true_eq]
      split <;> split <;> omega
    · refine q_eq k ?_
      rw [b2f (show ¬ (a ≠ 0 ∧ b ≠ 0) by omega)]
      rfl
  case or =>
    have k := k H2 s2
    refine i_d2 (fun h => ?_) (fun h => ?_) <;> walk_at "s"
    · refine q_eq k ?_
      rw [b2t (show a ≠ 0 ∨ b ≠ 0 by omega)]
      rfl
    · refine q_eq k ?_
      simp only [b2, decide_eq_true_eq]
      split <;> split <;> omega
  all_goals
    refine i_in2 (fun H3 s3 => ?_)
    have s3 := s2.trans s3
    walk_at "s"
  case eq =>
    have k := k H3 s3
    by_cases h : a = b
    · simp only [opv, b2t h] at k
      simp only [decide_eq_true h]
      exact k
    · simp only [opv, b2f h] at k
      simp only [decide_eq_false h]
      exact k
  case ne =>
    have k := k H3 s3
    by_cases h : a = b
    · simp only [opv, b2f (show ¬ (a ≠ b) from fun q => q h)] at k
      simp only [decide_eq_true h]
      exact k
    · simp only [opv, b2t (show a ≠ b from h)] at k
      simp only [decide_eq_false h]
      exact k
  all_goals
    refine i_in2 (fun H4 s4 => ?_)
    have s4 := s3.trans s4
    have k := k H4 s4
    walk_at "s"
  case lt =>
    by_cases h : a < b
    · simp only [opv, b2t h] at k
      simp only [decide_eq_true h]
      exact k
    · simp only [opv, b2f h] at k
      simp only [decide_eq_false h]
      exact k
  case le =>
    by_cases h : b < a
    · simp only [opv, b2f (show ¬ (a ≤ b) by omega)] at k
      simp only [decide_eq_true h]
      exact k
    · simp only [opv, b2t (show a ≤ b by omega)] at k
      simp only [decide_eq_false h]
      exact k
  all_goals
    refine i_mulI (.inl ⟨by omega, by omega⟩) ?_
    walk_at "s"
    refine i_rI (show (0 : Int) < 65536 by decide) ?_
  case sub =>
    have e : (a + 65536 - b) % 65536 = (a - b) % 65536 := by omega
    rw [e]
    exact k
  all_goals exact k
theorem len_l_value (A : Ad) (n : Nat) {vs : List V} {H : Hp} {Q : VK} {E : XK} (h : sp_lval n vs H Q E) : vs.length = 2 := len_value A n h
/-- the operands' values, from the left -/
theorem ops_lc {n : Nat} {H1 : Hp} {cs : List Int} {p D t : Addr} {xs : List V} {es : List Ex} {σ : L2.St} {Qd : Hp → Prop} {K : PySem.W.Frag} (hD : H1 D = none) (ht : H1 t = some (.tup xs)) (hx : DtAll H1 xs (es.map Ex.py)) (hes : ∀ e ∈ es, e.dp ≤ n ∧ e.ok) (hc : CellsAt H1 p cs)
    (hl : es.length ≤ 2) (hp : σ[1]? = some (some (.ref p))) (hs : σ.length = 5)
    (hd : ∀ H', Same H1 H' → H' D = some (.lst (es.map fun e => optV (ev cs e))) → Qd H') :
    (∃ xs, SqT K H1 t xs) ∧ ∃ W : Nat → Nat → Hp → Prop, (∃ m, W 0 m (upd H1 D (.lst []))) ∧ ∀ i m H, W i m H → ((Itt K t).stop i H ∧ Qd H) ∨ ((Itt K t).go i H ∧ ∃ Nx : Hp → Prop, (∀ H', Nx H' → ∃ m', m' < m ∧ W (i + 1) m' H') ∧ ∀ x H', (Itt K t).yld i H x H' → gName 4 x (wipe σ [4]) H' fun σ2 H2 => wipe σ2 [4] = wipe σ [4] ∧ tYes σ2 H2 fun b H3 =>
      if b = true then tCall (sp_value n) [] E0 (tCons (tVar 4) (tCons (tVar 1) tNil)) σ2 H3 fun y H4 => ∃ acc, H4 D = some (.lst acc) ∧ acc.length < sizeLine ∧ Nx (upd H4 D (.lst (acc ++ [y]))) else Nx H3) := by
  refine ⟨⟨xs, SqT.of ht⟩, lc_tup (xs := xs) (fun i H' => Same H1 H' ∧ H' D = some (.lst ((es.take i).map fun e => optV (ev cs e)))) ⟨Same.newp hD, upd_same⟩ (fun i H' _ h => SqT.of (h.1 _ _ ht)) ?_ ?_⟩
  · rintro i x H' hi ⟨sm, hDD⟩
    obtain ⟨d, h1, h2⟩ := hx.get' hi
    rw [List.getElem?_map] at h1
    cases he : es[i]? with
    | none => rw [he] at h1; cases h1
    | some e =>
      rw [he] at h1
      cases h1
      obtain ⟨hdp, hok⟩ := hes e (List.mem_of_getElem? he)
      show wipe ((wipe σ [4]).set 4 (some x)) [4] = wipe σ [4] ∧ _
      rw [wipe1]
      refine ⟨wipe2, ?_⟩
      have l4 : (σ.set 4 (some x))[4]? = some (some x) := by
        rw [List.getElem?_set_self (by omega)]
      have l1 : (σ.set 4 (some x))[1]? = some (some (.ref p)) := by
        rw [List.getElem?_set_ne (by decide)]
        exact hp
      refine i_yes ?_
      refine i_tt ?_
      refine i_call (i_cons (i_var l4 (i_cons (i_var l1 (i_nil ?_)))))
      refine ⟨x, p, e, cs, rfl, h2.mono sm, hdp, hok, hc.mono sm, fun H2 sm2 => ?_⟩
      refine ⟨_, sm2 _ _ hDD, szl (by simp; omega), fun b o q => ?_, ?_⟩
      · rw [upd_ne (ne_of_none q hD)]
        exact sm2 _ _ (sm _ _ q)
      · rw [upd_same, List.take_add_one, he, List.map_append]
        rfl
  · rintro H' ⟨sm, hDD⟩
    refine hd H' sm ?_
    have e1 : xs.length = es.length := by rw [hx.length, List.length_map]
    rw [e1, List.take_length] at hDD
    exact hDD
theorem pure_l_value (A : Ad) (n : Nat) (vs : List V) (H : Hp) (Q : VK) (E : XK) (h : sp_lval n vs H Q E) : t_l_value A n { nx := fun _ H' => Q .non H', rt := Q } (L2.start ["_law_e", "_law_cells", "_law_index_here", "_law_operands", "_law_operand"] vs) H := by
  obtain ⟨v, p, e, cs, rfl, hd, hn, hok, hc, k⟩ := h
  have hcc := hc.1
  rw [st_l_value]
  unfold t_l_value
  cases e with
  | num i =>
    obtain ⟨q, x1, x2, rfl, hq, k1, k2⟩ := inv2 hd
    obtain rfl := inv_str k1
    obtain rfl := inv_int k2
    walk_at "s"
    exact k H (Same.refl _)
  | cell j =>
    obtain ⟨q, x1, x2, rfl, hq, k1, k2⟩ := inv2 hd
    obtain rfl := inv_str k1
    obtain rfl := inv_int k2
    have hj : j < cs.length := by
      have := hc.2.len
      have : j < 3 := hok
      omega
    have k := k H (Same.refl _)
    simp only [ev, List.getElem?_eq_getElem hj] at k
    walk_at "s"
    exact i_ixL hcc (atI_nat (at_cells (List.getElem?_eq_getElem hj))) k
  | «at» f s x =>
    obtain ⟨q, x1, x2, x3, x4, rfl, hq, k1, k2, k3, k4⟩ := inv4 hd
    obtain rfl := inv_str k1
    obtain rfl := inv_int k2
    obtain rfl := inv_int k3
    obtain ⟨m, rfl⟩ : ∃ m, n = m + 1 := ⟨n - 1, by simp only [Ex.dp] at hn; omega⟩
    obtain ⟨hf, hs, hx⟩ := hok
    walk_at "s"
    refine ⟨x4, p, x, cs, rfl, k4, by simp only [Ex.dp] at hn; omega, hx, hc, fun H1 sm => ?_⟩
    have hq := sm _ _ hq
    have hcc := sm _ _ hcc
    have k := k H1 sm
    cases hv : ev cs x with
    | none =>
      simp only [ev, hv, optV] at k ⊢
      walk_at "s"
      exact k
    | some i =>
      obtain ⟨i0, i1⟩ := ev_wd hc.2 hx hv
      simp only [ev, hv, optV] at k ⊢
      walk_at "s"
      refine i_d2 (fun h => ?_) (fun h => ?_)
      · walk_at "s"
        rw [if_pos h] at k
        exact k
      · walk_at "s"
        rw [if_neg h] at k
        have hj : f + i.toNat < cs.length := by
          have := hc.2.len
          omega
        rw [List.getElem?_eq_getElem hj] at k
        exact i_ixL hcc (atN (j := f + i.toNat) (by omega) (at_cells (List.getElem?_eq_getElem hj))) k
  | un b x =>
    have hk : ∃ q, v = .ref q ∧ ∃ x2, H q = some (.tup [.str (if b = true then "neg" else "not"), x2]) ∧ Dt H x2 x.py := by
      cases b <;>
      · obtain ⟨q, x1, x2, rfl, hq, k1, k2⟩ := inv2 hd
        obtain rfl := inv_str k1
        exact ⟨q, rfl, x2, hq, k2⟩
    obtain ⟨q, rfl, x2, hq, k2⟩ := hk
    obtain ⟨m, rfl⟩ : ∃ m, n = m + 1 := ⟨n - 1, by simp only [Ex.dp] at hn; omega⟩
    have hdx : x.dp ≤ m := by simp only [Ex.dp] at hn; omega
    cases b <;> simp only [if_pos, Bool.false_eq_true, if_false] at hq <;> walk_at "s"
    all_goals
      refine i_sl1 hq (fun t ht => ?_)
      have sm := Same.newp (o := .tup [x2]) ht
      have hT : (upd H t (.tup [x2])) t = some (.tup [x2]) := upd_same
      generalize upd H t (.tup [x2]) = H1 at sm hT
      walk_at "s"
      refine ⟨⟨_, SqT.of hT⟩, fun D hD => (ops_lc (n := m) (es := [x]) hD hT (.cons (k2.mono sm) .nil) (fun e he => by rw [List.mem_singleton.mp he]; exact ⟨hdx, hok⟩) (hc.mono sm) (by simp) rfl rfl fun H2 sm2 hDD => ?_).2⟩
      have hq := sm2 _ _ (sm _ _ hq)
      have k := k H2 (sm.trans sm2)
      simp only [List.map_cons, List.map_nil] at hDD
      walk_at "s"
      refine ⟨D, _, rfl, .inl (SqL.of hDD), rfl, by cases ev cs x <;> rfl, ?_⟩
      cases hv : ev cs x with
      | none =>
        simp only [ev, hv, optV] at k hDD ⊢
        walk_at "s"
        exact k
      | some i =>
        simp only [ev, hv, optV] at k hDD ⊢
        walk_at "s"
        refine i_fB (by rfl) ?_
        walk_at "s"
        first
          | (refine i_rI (show (0 : Int) < 65536 by decide) ?_
             refine q_eq k ?_
             simp only [if_true, neg1]
             omega)
          | (refine q_eq k ?_
             by_cases h : i = 0
             · simp only [decide_eq_true h, not1, b2t h, if_true, Bool.false_eq_true, if_false]
             · simp only [decide_eq_false h, not1, b2f h, Bool.false_eq_true, if_false])
  | bin o x y =>
    obtain ⟨q, x1, x2, x3, rfl, hq, k1, k2, k3⟩ := inv3 hd
    obtain rfl := inv_str k1
    obtain ⟨m, rfl⟩ : ∃ m, n = m + 1 := ⟨n - 1, by simp only [Ex.dp] at hn; omega⟩
    have hdx : x.dp ≤ m ∧ y.dp ≤ m := by simp only [Ex.dp] at hn; omega
    have hne : ∀ z : Str, z ∈ (["num", "cell", "at", "neg", "not"] : List Str) → o.nm ≠ z := by
      cases o <;> decide +kernel
    walk_at "s"
    refine i_dn (hne _ (by decide +kernel)) ?_
    walk_at "s"
    refine i_dn (hne _ (by decide +kernel)) ?_
    walk_at "s"
    refine i_dn (hne _ (by decide +kernel)) ?_
    walk_at "s"
    refine i_sl1 hq (fun t ht => ?_)
    have sm := Same.newp (o := .tup [x2, x3]) ht
    have hT : (upd H t (.tup [x2, x3])) t = some (.tup [x2, x3]) := upd_same
    generalize upd H t (.tup [x2, x3]) = H1 at sm hT
    walk_at "s"
    refine ⟨⟨_, SqT.of hT⟩, fun D hD => (ops_lc (n := m) (es := [x, y]) hD hT (.cons (k2.mono sm) (.cons (k3.mono sm) .nil)) (fun e he => by
      simp only [List.mem_cons, List.not_mem_nil, or_false] at he
      rcases he with rfl | rfl
      · exact ⟨hdx.1, hok.1⟩
      · exact ⟨hdx.2, hok.2⟩) (hc.mono sm) (by simp) rfl rfl fun H2 sm2 hDD => ?_).2⟩
    have hq := sm2 _ _ (sm _ _ hq)
    simp only [List.map_cons, List.map_nil] at hDD
    walk_at "s"
    refine ⟨D, _, rfl, .inl (SqL.of hDD), rfl, by cases ev cs x <;> cases ev cs y <;> rfl, ?_⟩
    have sm3 := sm.trans sm2
    cases hv : ev cs x with
    | none =>
      have k := k H2 sm3
      simp only [ev, hv, optV] at k hDD ⊢
      walk_at "s"
      refine i_tB (by rfl) ?_
      walk_at "s"
      exact k
    | some i =>
      cases hw : ev cs y with
      | none =>
        have k := k H2 sm3
        simp only [ev, hv, hw, optV] at k hDD ⊢
        walk_at "s"
        refine i_tB (by rfl) ?_
        walk_at "s"
        exact k
      | some j =>
        simp only [hv, hw, optV] at hDD ⊢
        walk_at "s"
        refine i_fB (by rfl) ?_
        walk_at "s"
        refine i_dn (hne _ (by decide +kernel)) ?_
        walk_at "s"
        refine i_dn (hne _ (by decide +kernel)) ?_
        walk_at "s"
        refine ⟨o, i, j, rfl, ev_wd hc.2 hok.1 hv, ev_wd hc.2 hok.2 hw, fun H4 sm5 => ?_⟩
        have k := k H4 (sm3.trans sm5)
        simp only [ev, hv, hw] at k
        exact k
theorem len_l_where (A : Ad) {vs : List V} {H : Hp} {Q : VK} {E : XK} (h : sp_where vs H Q E) : vs.length = 2 := len_place A 2 h
theorem pure_l_where (A : Ad) (vs : List V) (H : Hp) (Q : VK) (E : XK) (h : sp_where vs H Q E) : t_l_where A { nx := fun _ H' => Q .non H', rt := Q } (L2.start ["_law_target_here", "_law_cells", "_law_index_here"] vs) H := by
  obtain ⟨v, p, e, cs, rfl, hd, hn, hok, h0, h1, hc, k⟩ := h
  rw [st_l_where]
  unfold t_l_where
  cases e with
  | num i => obtain ⟨k, q⟩ := h0 rfl; cases q
  | un b x => obtain ⟨f, s, y, q⟩ := h1 x.dp rfl; cases q
  | bin o x y => obtain ⟨f, s, y, q⟩ := h1 (max x.dp y.dp) rfl; cases q
  | cell j =>
    obtain ⟨q, x1, x2, rfl, hq, k1, k2⟩ := inv2 hd
    obtain rfl := inv_str k1
    obtain rfl := inv_int k2
    walk_at "s"
    exact k H (Same.refl _)
  | «at» f s x =>
    obtain ⟨q, x1, x2, x3, x4, rfl, hq, k1, k2, k3, k4⟩ := inv4 hd
    obtain rfl := inv_str k1
    obtain rfl := inv_int k2
    obtain rfl := inv_int k3
    walk_at "s"
    refine ⟨x4, p, x, cs, rfl, k4, by simp only [Ex.dp] at hn; omega, hok.2.2, hc, fun H1 sm => ?_⟩
    have k := k H1 sm
    have hq := sm _ _ hq
    cases hv : ev cs x with
    | none =>
      simp only [pl, hv, optV] at k ⊢
      walk_at "s"
      exact k
    | some i =>
      simp only [pl, hv, optV] at k ⊢
      walk_at "s"
      refine i_d2 (fun h => ?_) (fun h => ?_)
      · walk_at "s"
        rw [if_pos h] at k
        exact k
      · walk_at "s"
        rw [if_neg h] at k
        exact k
theorem len_l_deep (A : Ad) {vs : List V} {H : Hp} {Q : VK} {E : XK} (h : sp_deep vs H Q E) : vs.length = 3 := by
  obtain ⟨a, c, d, n, rfl, _⟩ := h
  rfl
theorem pure_l_deep (A : Ad) (vs : List V) (H : Hp) (Q : VK) (E : XK) (h : sp_deep vs H Q E) : t_l_deep A { nx := fun _ H' => Q .non H', rt := Q } (L2.start ["_law_state_here", "_law_env", "_law_deep_here", "_law_e", "_law_sign"] vs) H := by
  obtain ⟨a, c, d, n, rfl, hn, R, En, k⟩ := h
  rw [st_l_deep]
  unfold t_l_deep
  walk_at "s"
  refine ⟨n, hn, a, c, d, rfl, R, En, fun H1 v e R g1 he hd hv => ?_⟩
  have En := En.mono g1
  walk_at "s"
  refine ⟨a, c, 3, rfl, by decide, by decide, R, fun H2 r h0 h1 R f2 => ?_⟩
  have En := En.mono f2.gr
  walk_at "s"
  refine i_d2 (fun h => ?_) (fun h => ?_)
  · walk_at "s"
    refine ⟨sz (by simp), fun q hq => ?_⟩
    obtain ⟨R, g3, e3, n1, n2⟩ := new_step (o := .lst [V.str "+", V.str "-", V.str "*", V.str "/", V.str "mod", V.str "and", V.str "or", V.str "==", V.str "!=", V.str "<", V.str "<="]) R hq
    walk_at "s"
    refine ⟨a, c, q, _, rfl, R, upd_same, n1, n2, by simp, by simp, fun H4 v4 hv4 R f4 => ?_⟩
    obtain ⟨o, rfl⟩ : ∃ o : Op, v4 = .str o.nm := by
      simp only [List.mem_cons, List.not_mem_nil, or_false] at hv4
      rcases hv4 with rfl | rfl | rfl | rfl | rfl | rfl | rfl | rfl | rfl | rfl | rfl
      · exact ⟨.add, rfl⟩
      · exact ⟨.sub, rfl⟩
      · exact ⟨.mul, rfl⟩
      · exact ⟨.div, rfl⟩
      · exact ⟨.mod, rfl⟩
      · exact ⟨.and, rfl⟩
      · exact ⟨.or, rfl⟩
      · exact ⟨.eq, rfl⟩
      · exact ⟨.ne, rfl⟩
      · exact ⟨.lt, rfl⟩
      · exact ⟨.le, rfl⟩
    walk_at "s"
    refine ⟨n, hn, a, c, d, rfl, R, En.mono (g3.trans f4.gr), fun H5 v5 e5 R g5 he5 hd5 hv5 => ?_⟩
    walk_at "s"
    refine ⟨sz (by simp), fun t ht => ?_⟩
    obtain ⟨R, g6, e6, _⟩ := new_step (o := .tup [V.str o.nm, v, v5]) R ht
    have gg := f2.gr.trans (g3.trans (f4.gr.trans (g5.trans g6)))
    refine k _ _ (.bin o e e5) R (g1.trans gg) ⟨he, he5⟩ (by simp only [Ex.dp]; omega) ?_
    exact .tup e6 (.cons (.str _) (.cons (hv.mono gg) (.cons (hv5.mono g6) .nil)))
  · walk_at "s"
    exact k _ _ e R (g1.trans f2.gr) he (by omega) (hv.mono f2.gr)
end K10
set_option Elab.async false
set_option linter.all false
set_option maxRecDepth 100000
set_option maxHeartbeats 4000000
namespace K10
open PySem PySem.Spec PyProof.Rows L2 Lb
local macro_rules | `(tactic| walk_at "s1") => `(tactic| with_reducible first | refine i_seq ?_ | refine i_asg ?_ | refine i_gname ?_ | refine i_ifS ?_ | refine i_ret ?_ | refine i_retN ?_ | refine i_drop ?_ | refine i_next ?_ | refine i_brk ?_ | refine i_cnt ?_ | refine i_par ?_ | refine i_par2 ?_ | refine i_fldS ?_ | refine i_dput ?_ | refine i_c ?_ | refine i_op ?_ | refine i_un ?_ | refine i_rU ?_ | refine i_rI0 ?_ | refine i_test ?_ | refine i_B ?_ | refine i_bl ?_ | refine i_tru ?_ | refine i_truB ?_ | refine i_and ?_ | refine i_or ?_ | refine i_not ?_ | refine i_andV ?_ | refine i_orV ?_ | refine i_notV ?_ | refine i_if ?_ | refine i_call ?_ | refine i_meth ?_ | refine i_make ?_ | refine i_cb ?_ | refine i_cons ?_ | refine i_nil ?_ | refine i_tup ?_ | refine i_lst ?_ | refine i_bml ?_ | refine i_gsub ?_ | refine i_gcons ?_ | refine i_gnil ?_ | refine i_sl ?_ | refine i_nop ?_ | refine i_part ?_ | refine i_prt ?_ | refine i_isN ?_ | refine i_notN ?_ | refine i_yes ?_ | refine i_tt ?_ | refine i_ff ?_ | refine i_ntt ?_ | refine i_nff ?_ | refine i_addI ?_ | refine i_eqI ?_ | refine i_neI ?_ | refine i_eqS ?_ | refine i_neS ?_ | refine i_intI ?_ | refine i_intB ?_ | refine i_abs ?_ | refine i_isiIB ?_ | refine i_isiNB ?_ | refine i_isiBB ?_ | refine i_dget ?_ | refine i_for ?_ | refine i_ilist ?_ | refine i_itup ?_ | refine i_rng1 ?_ | refine i_rng2 ?_ | refine i_ex1 ?_ | refine i_ex2 ?_ | refine i_exr ?_ | refine i_fld ?_ | refine i_disp ?_ | refine i_pcons ?_ | refine i_pnil ?_ | refine i_neN ?_ | refine i_eqN ?_ | refine i_neB ?_ | refine i_eqB ?_ | refine i_lc ?_ | refine i_var (by with_unfolding_all rfl) ?_ | refine i_tB (by decide +kernel) ?_ | refine i_fB (by decide +kernel) ?_ | refine i_dnI ?_ | refine i_nyI ?_ | refine i_dnR ?_ | refine i_nyR ?_ | refine i_ixT (by assumption) (by with_unfolding_all rfl) ?_ | refine i_ixL (by assumption) (by with_unfolding_all rfl) ?_ | refine i_lenL (by assumption) ?_ | refine i_lenT (by assumption) ?_ | refine i_isL (by assumption) ?_ | refine i_isiLL (by assumption) ?_ | refine i_isiTL (by assumption) ?_ | refine i_gtup (by assumption) (by with_unfolding_all rfl) ?_)
local macro_rules | `(tactic| walk_at "s") => `(tactic| repeat (walk_at "s1"))
theorem EnvAt.upd {a c d D : Addr} {H : Hp} {o : HO} {cs : List Int} (h : EnvAt a c H d) (hD : H D = some (.lst (cs.map V.int))) (hl : cs.length = 8) : EnvAt a c (L2.upd H D o) d := by
  obtain ⟨l1, l2, l3, t, n, e1, e2, e3, e4, e5, hn⟩ := h
  have nl : ∀ {l : Addr} {xs : List V}, hid [a, c] H l = some (.lst xs) → xs.length ≠ 8 → l ≠ D := fun e q => ne_of (hid_get e) hD fun z => q (by
    injection z with z
    rw [z, List.length_map, hl])
  have nd : d ≠ D := ne_of (hid_get e1) hD (by intro z; cases z)
  have nt : t ≠ D := ne_of (hid_get e5) hD (by intro z; cases z)
  exact ⟨l1, l2, l3, t, n, by rw [hid_upd_ne nd]; exact e1, by rw [hid_upd_ne (nl e2 (by simp))]; exact e2, by rw [hid_upd_ne (nl e3 (by simp))]; exact e3, by rw [hid_upd_ne (nl e4 (by simp))]; exact e4, by rw [hid_upd_ne nt]; exact e5, hn⟩
structure LI (a c D d kt : Addr) (H : Hp) : Prop where
  R : Rng a c H
  En : EnvAt a c H d
  ex : ∃ cs, Cells cs ∧ H D = some (.lst (cs.map V.int)) ∧ H kt = some (.lst (cs.map V.int))
  n1 : D ≠ a
  n2 : D ≠ c
  n3 : kt ≠ D
  n4 : kt ≠ a
  n5 : kt ≠ c
theorem LI.gr {a c D d kt : Addr} {H H' : Hp} (I : LI a c D d kt H) (R : Rng a c H') (g : Gr a c H H') : LI a c D d kt H' := by
  obtain ⟨cs, C, h1, h2⟩ := I.ex
  exact ⟨R, I.En.mono g, ⟨cs, C, g.keep I.n1 I.n2 h1, g.keep I.n4 I.n5 h2⟩, I.n1, I.n2, I.n3, I.n4, I.n5⟩
theorem LI.same {a c D d kt : Addr} {H H' : Hp} (I : LI a c D d kt H) (s : Same H H') : LI a c D d kt H' := I.gr (I.R.same s) (Gr.same s)
theorem pl_range {cs : List Int} (C : Cells cs) {e : Ex} {z : Int} (ho : e.ok) (h0 : e.dp = 0 → ∃ k, e = .cell k) (h1 : ∀ m, e.dp = m + 1 → ∃ f s x, e = .at f s x) (h : pl cs e = some z) : 0 ≤ z ∧ z < 8 := by
  cases e with
  | num i => cases h
  | un b x => cases h
  | bin o x y => cases h
  | cell k =>
    have hk : k < 3 := ho
    simp only [pl] at h
    have := Option.some.inj h
    omega
  | «at» f s x =>
    obtain ⟨hf, hs, hx⟩ := ho
    simp only [pl] at h
    split at h
    · cases h
    · rename_i i hi
      obtain ⟨i0, i1⟩ := ev_wd C hx hi
      split at h
      · cases h
      · have := Option.some.inj h
        omega
theorem env_merge {x y z : V} : mergeK [] [((.inr "cells" : Key), x), (.inr "reads", y), (.inr "spans", z)] = [((.inr "cells" : Key), x), (.inr "reads", y), (.inr "spans", z)] := by
  have n1 : ¬ ((Sum.inr "cells" : Key) = .inr "reads") := by decide +kernel
  have n2 : ¬ ((Sum.inr "cells" : Key) = .inr "spans") := by decide +kernel
  have n3 : ¬ ((Sum.inr "reads" : Key) = .inr "spans") := by decide +kernel
  show putK (putK (putK ([] : List (Key × V)) (.inr "cells") x) (.inr "reads") y) (.inr "spans") z = _
  rw [putK_new x valV_nil]
  show putK (putK ([(.inr "cells", x)] : List (Key × V)) (.inr "reads") y) (.inr "spans") z = _
  rw [putK_new y (by rw [valV_neg n1, valV_nil])]
  show putK ([(.inr "cells", x), (.inr "reads", y)] : List (Key × V)) (.inr "spans") z = _
  rw [putK_new z (by rw [valV_neg n2, valV_neg n3, valV_nil])]
  rfl
theorem len_law (A : Ad) {vs : List V} {H : Hp} {Q : VK} {E : XK} (h : sp_law A.K vs H Q E) : vs.length = 1 := by
  obtain ⟨s, ns, rfl, _⟩ := h
  rfl
theorem optV_int {o : Option Int} {z : Int} (h : o = some z) : optV o = .int z := by rw [h]; rfl
set_option maxHeartbeats 16000000 in
theorem pure_law (A : Ad) (vs : List V) (H : Hp) (Q : VK) (E : XK) (h : sp_law A.K vs H Q E) : t_law A { nx := fun _ H' => Q .non H', rt := Q } (L2.start ["_law_script", "_law_state_here", "_law_cells", "_law_env", "_law_kept", "_law_k", "_law_e", "_law_told", "_law_due", "_law_target_here"] vs) H := by
  obtain ⟨s, ns, rfl, hS, hl, k⟩ := h
  rw [st_law]
  unfold t_law
  walk_at "s"
  refine ⟨s, ns, rfl, hS, hl, fun H1 a c sm R na nc => ?_⟩
  walk_at "s"
  refine ⟨by decide, by decide, fun D hD => ?_⟩
  obtain ⟨nDa, nDc⟩ := R.fresh hD
  refine i_lcR 8 rfl (fun i H' => Rng a c H' ∧ ∃ cs : List Int, H' D = some (.lst (cs.map V.int)) ∧ cs.length = i ∧ ∀ z ∈ cs, Wd z) ⟨R.upd nDa nDc, [], upd_same, rfl, by simp⟩ ?_ ?_
  · rintro i H2 hi ⟨R, cs, hDD, hcl, hcw⟩
    walk_at "s"
    refine ⟨a, c, 6, rfl, by decide, by decide, R, fun H3 r1 h1 h1' R f1 => ?_⟩
    walk_at "s"
    refine ⟨a, c, 65536, rfl, by decide, by decide, R, fun H4 r2 h2 h2' R f2 => ?_⟩
    walk_at "s"
    refine ⟨sz (by simp), fun p hp => ?_⟩
    obtain ⟨R, g3, e3, n1, n2⟩ := new_step (o := .lst [V.int 0, V.int 1, V.int 2, V.int 65535, V.int r1, V.int r2]) R hp
    walk_at "s"
    refine ⟨a, c, p, _, rfl, R, upd_same, n1, n2, by simp, by simp, fun H5 v hv R f4 => ?_⟩
    obtain ⟨z, rfl, hz⟩ : ∃ i, v = .int i ∧ Wd i := by
      simp only [List.mem_cons, List.not_mem_nil, or_false] at hv
      rcases hv with rfl | rfl | rfl | rfl | rfl | rfl <;> exact ⟨_, rfl, by constructor <;> omega⟩
    have hDD := (f1.gr.trans (f2.gr.trans (g3.trans f4.gr))).keep nDa nDc hDD
    refine ⟨_, hDD, szl (by simp; omega), R.upd nDa nDc, cs ++ [z], by rw [upd_same, List.map_append]; rfl, by simp [hcl], fun y hy => ?_⟩
    rcases List.mem_append.mp hy with e | e
    · exact hcw y e
    · rw [List.mem_singleton.mp e]
      exact hz
  rintro H2 ⟨R, cs, hDD, hcl, hcw⟩
  have C : Cells cs := ⟨hcl, hcw⟩
  walk_at "s"
  intro d hd
  obtain ⟨R, g1, e1, nda, ndc⟩ := new_step (o := .dK []) R hd
  walk_at "s"
  refine ⟨sz (by simp), fun l1 hl1 => ?_⟩
  obtain ⟨R, g2, e2, _⟩ := new_step (o := .lst [V.int 0, V.int 1, V.int 2]) R hl1
  walk_at "s"
  refine ⟨sz (by simp), fun l2 hl2 => ?_⟩
  obtain ⟨R, g3, e3, _⟩ := new_step (o := .lst [V.int 0, V.int 1, V.int 2]) R hl2
  walk_at "s"
  refine ⟨a, c, 5, rfl, by decide, by decide, R, fun H3 r h0 h1 R f4 => ?_⟩
  walk_at "s"
  refine ⟨sz (by simp), fun t ht => ?_⟩
  obtain ⟨R, g5, e5, _⟩ := new_step (o := .tup [V.int 3, V.int (1 + r)]) R ht
  walk_at "s"
  refine ⟨sz (by simp), fun l3 hl3 => ?_⟩
  obtain ⟨R6, g6, e6, _⟩ := new_step (o := .lst [V.ref t]) R hl3
  walk_at "s"
  have g46 := f4.gr.trans (g5.trans g6)
  have e1 := (g2.trans (g3.trans g46)) _ _ e1
  have e2 := (g3.trans g46) _ _ e2
  have e3 := g46 _ _ e3
  have e5 := g6 _ _ e5
  have hDD := (g1.trans (g2.trans (g3.trans g46))).keep nDa nDc hDD
  generalize upd (upd H3 t (HO.tup [V.int 3, V.int (1 + r)])) l3 (HO.lst [V.ref t]) = H5 at *
  refine ⟨hid_get e1, [(.inr "cells", .ref l1), (.inr "reads", .ref l2), (.inr "spans", .ref l3)], rfl, by simp, ?_⟩
  rw [env_merge]
  have n1 : l1 ≠ d := ne_of (hid_get e2) (hid_get e1) (by intro z; cases z)
  have n2 : l2 ≠ d := ne_of (hid_get e3) (hid_get e1) (by intro z; cases z)
  have n3 : l3 ≠ d := ne_of (hid_get e6) (hid_get e1) (by intro z; cases z)
  have n4 : t ≠ d := ne_of (hid_get e5) (hid_get e1) (by intro z; cases z)
  have n5 : D ≠ d := ne_of hDD (hid_get e1) (by intro z; cases z)
  obtain ⟨m, rfl⟩ : ∃ m : Nat, r = (m : Int) := ⟨r.toNat, by omega⟩
  have En : EnvAt a c (upd H5 d (.dK [(.inr "cells", .ref l1), (.inr "reads", .ref l2), (.inr "spans", .ref l3)])) d :=
    ⟨l1, l2, l3, t, 1 + m, by rw [hid_out (hid2 nda ndc), upd_same], by rw [hid_upd_ne n1]; exact e2, by rw [hid_upd_ne n2]; exact e3, by rw [hid_upd_ne n3]; exact e6, by rw [hid_upd_ne n4, e5]; simp, by omega⟩
  have R7 := R6.upd (o := .dK [(.inr "cells", .ref l1), (.inr "reads", .ref l2), (.inr "spans", .ref l3)]) nda ndc
  have hDD : (upd H5 d (.dK [(.inr "cells", .ref l1), (.inr "reads", .ref l2), (.inr "spans", .ref l3)])) D = some (.lst (cs.map V.int)) := by rw [upd_ne n5]; exact hDD
  generalize upd H5 d (.dK [(.inr "cells", .ref l1), (.inr "reads", .ref l2), (.inr "spans", .ref l3)]) = H6 at *
  walk_at "s"
  refine i_listL hDD fun kt hkt => ?_
  obtain ⟨R8, g7, e7, m1, m2⟩ := new_step (o := .lst (cs.map V.int)) R7 hkt
  have m3 : kt ≠ D := (ne_of_none hDD hkt).symm
  have I : LI a c D d kt (upd H6 kt (.lst (cs.map V.int))) := ⟨R8, En.mono g7, ⟨cs, C, by rw [upd_ne m3.symm]; exact hDD, upd_same⟩, nDa, nDc, m3, m1, m2⟩
  generalize upd H6 kt (.lst (cs.map V.int)) = H7 at *
  walk_at "s"
  refine i_forR 12 rfl (by omega) (fun i σ H' => ∃ (kt : Addr) (x5 x6 x7 x8 x9 : Option V), σ = [some (.ref s), some (.ref a), some (.ref D), some (.ref d), some (.ref kt), x5, x6, x7, x8, x9] ∧ LI a c D d kt H') ⟨kt, none, none, none, none, none, rfl, I⟩ ?_ ?_
  · rintro i σ H8 hi ⟨kt, x5, x6, x7, x8, x9, rfl, I⟩
    walk_at "s"
    refine ⟨a, c, 5, rfl, by decide, by decide, I.R, fun H9 r h0 h1 R f1 => ?_⟩
    have I := I.gr R f1.gr
    obtain ⟨m, rfl⟩ : ∃ m : Nat, r = (m : Int) := ⟨r.toNat, by omega⟩
    walk_at "s"
    refine ⟨a, c, d, m, rfl, by omega, R, I.En, fun H10 v e R g2 he hd hv => ?_⟩
    have I := I.gr R g2
    obtain ⟨cs, C, h1, h2⟩ := I.ex
    walk_at "s"
    refine ⟨v, D, e, cs, rfl, hv.mono hid_sub, hd, he, ⟨h1, C⟩, fun H11 s3 => ?_⟩
    have I := I.same s3
    have h1 := s3 _ _ h1
    have h2 := s3 _ _ h2
    have hv := hv.mono (Gr.same s3 : Gr a c H10 H11)
    walk_at "s"
    refine ⟨v, kt, e, cs, rfl, hv.mono hid_sub, hd, he, ⟨h2, C⟩, fun H12 s4 => ?_⟩
    have I := I.same s4
    have h1 := s4 _ _ h1
    have h2 := s4 _ _ h2
    cases hr : ev cs e with
    | none =>
      simp only [optV]
      walk_at "s"
      refine ⟨a, c, d, rfl, I.R, I.En, fun H13 v2 e2 R g5 he2 hd2 hz0 hz1 hv2 => ?_⟩
      have I := I.gr R g5
      have h1 := g5.keep I.n1 I.n2 h1
      have h2 := g5.keep I.n4 I.n5 h2
      walk_at "s"
      refine ⟨v2, D, e2, cs, rfl, hv2.mono hid_sub, hd2, he2, hz0, hz1, ⟨h1, C⟩, fun H14 s6 => ?_⟩
      have I := I.same s6
      have h1 := s6 _ _ h1
      have h2 := s6 _ _ h2
      have hv2 := hv2.mono (Gr.same s6 : Gr a c H13 H14)
      cases hr : pl cs e2 with
      | none =>
        simp only [optV]
        walk_at "s"
        refine ⟨v2, kt, e2, cs, rfl, hv2.mono hid_sub, hd2, he2, hz0, hz1, ⟨h2, C⟩, fun H15 s7 => ?_⟩
        have I := I.same s7
        rw [hr]
        simp only [optV]
        walk_at "s"
        exact ⟨kt, _, _, _, _, _, rfl, I⟩
      | some z =>
        obtain ⟨z0, z1⟩ := pl_range C he2 hz0 hz1 hr
        simp only [optV]
        walk_at "s"
        refine ⟨v2, kt, e2, cs, rfl, hv2.mono hid_sub, hd2, he2, hz0, hz1, ⟨h2, C⟩, fun H15 s7 => ?_⟩
        have I := I.same s7
        have h1 := s7 _ _ h1
        have h2 := s7 _ _ h2
        rw [hr]
        simp only [optV]
        walk_at "s"
        refine i_nn rfl ?_
        walk_at "s"
        refine ⟨a, c, 65536, rfl, by decide, by decide, I.R, fun H16 r h0 h1' R f8 => ?_⟩
        have I := I.gr R f8.gr
        have h1 := f8.gr.keep I.n1 I.n2 h1
        obtain ⟨j, rfl⟩ : ∃ j : Nat, z = (j : Int) := ⟨z.toNat, by omega⟩
        have hix : ixN (cs.map V.int).length (j : Int) = some j := by
          unfold ixN
          rw [List.length_map, C.len, if_pos (by omega), if_pos (by omega)]
          simp
        walk_at "s"
        refine i_setL h1 hix ?_
        have es : (cs.map V.int).set j (.int r) = (cs.set j r).map V.int := by rw [List.map_set]
        rw [es]
        have C' : Cells (cs.set j r) := ⟨by rw [List.length_set]; exact C.len, fun y hy => by
          rcases List.mem_or_eq_of_mem_set hy with q | q
          · exact C.wd y q
          · rw [q]
            exact ⟨h0, h1'⟩⟩
        have En := I.En.upd (o := .lst ((cs.set j r).map V.int)) h1 C.len
        have R := I.R.upd (o := .lst ((cs.set j r).map V.int)) I.n1 I.n2
        have h1 : (upd H16 D (.lst ((cs.set j r).map V.int))) D = some (.lst ((cs.set j r).map V.int)) := upd_same
        generalize upd H16 D (.lst ((cs.set j r).map V.int)) = H17 at *
        walk_at "s"
        refine i_listL h1 fun kt2 hk2 => ?_
        obtain ⟨R, g9, e9, m1, m2⟩ := new_step (o := .lst ((cs.set j r).map V.int)) R hk2
        have m3 : kt2 ≠ D := (ne_of_none h1 hk2).symm
        walk_at "s"
        exact ⟨kt2, _, _, _, _, _, rfl, R, En.mono g9, ⟨_, C', by rw [upd_ne m3.symm]; exact h1, upd_same⟩, I.n1, I.n2, m3, m1, m2⟩
    | some z0 =>
      simp only [optV]
      walk_at "s"
      refine i_nn rfl ?_
      walk_at "s"
      refine i_nn rfl ?_
      walk_at "s"
      refine ⟨a, c, d, rfl, I.R, I.En, fun H13 v2 e2 R g5 he2 hd2 hz0 hz1 hv2 => ?_⟩
      have I := I.gr R g5
      have h1 := g5.keep I.n1 I.n2 h1
      have h2 := g5.keep I.n4 I.n5 h2
      walk_at "s"
      refine ⟨v2, D, e2, cs, rfl, hv2.mono hid_sub, hd2, he2, hz0, hz1, ⟨h1, C⟩, fun H14 s6 => ?_⟩
      have I := I.same s6
      have h1 := s6 _ _ h1
      have h2 := s6 _ _ h2
      have hv2 := hv2.mono (Gr.same s6 : Gr a c H13 H14)
      cases hr : pl cs e2 with
      | none =>
        simp only [optV]
        walk_at "s"
        refine ⟨v2, kt, e2, cs, rfl, hv2.mono hid_sub, hd2, he2, hz0, hz1, ⟨h2, C⟩, fun H15 s7 => ?_⟩
        have I := I.same s7
        rw [hr]
        simp only [optV]
        walk_at "s"
        exact ⟨kt, _, _, _, _, _, rfl, I⟩
      | some z =>
        obtain ⟨z0, z1⟩ := pl_range C he2 hz0 hz1 hr
        simp only [optV]
        walk_at "s"
        refine ⟨v2, kt, e2, cs, rfl, hv2.mono hid_sub, hd2, he2, hz0, hz1, ⟨h2, C⟩, fun H15 s7 => ?_⟩
        have I := I.same s7
        have h1 := s7 _ _ h1
        have h2 := s7 _ _ h2
        rw [hr]
        simp only [optV]
        walk_at "s"
        refine i_nn rfl ?_
        walk_at "s"
        refine ⟨a, c, 65536, rfl, by decide, by decide, I.R, fun H16 r h0 h1' R f8 => ?_⟩
        have I := I.gr R f8.gr
        have h1 := f8.gr.keep I.n1 I.n2 h1
        obtain ⟨j, rfl⟩ : ∃ j : Nat, z = (j : Int) := ⟨z.toNat, by omega⟩
        have hix : ixN (cs.map V.int).length (j : Int) = some j := by
          unfold ixN
          rw [List.length_map, C.len, if_pos (by omega), if_pos (by omega)]
          simp
        walk_at "s"
        refine i_setL h1 hix ?_
        have es : (cs.map V.int).set j (.int r) = (cs.set j r).map V.int := by rw [List.map_set]
        rw [es]
        have C' : Cells (cs.set j r) := ⟨by rw [List.length_set]; exact C.len, fun y hy => by
          rcases List.mem_or_eq_of_mem_set hy with q | q
          · exact C.wd y q
          · rw [q]
            exact ⟨h0, h1'⟩⟩
        have En := I.En.upd (o := .lst ((cs.set j r).map V.int)) h1 C.len
        have R := I.R.upd (o := .lst ((cs.set j r).map V.int)) I.n1 I.n2
        have h1 : (upd H16 D (.lst ((cs.set j r).map V.int))) D = some (.lst ((cs.set j r).map V.int)) := upd_same
        generalize upd H16 D (.lst ((cs.set j r).map V.int)) = H17 at *
        walk_at "s"
        refine i_listL h1 fun kt2 hk2 => ?_
        obtain ⟨R, g9, e9, m1, m2⟩ := new_step (o := .lst ((cs.set j r).map V.int)) R hk2
        have m3 : kt2 ≠ D := (ne_of_none h1 hk2).symm
        walk_at "s"
        exact ⟨kt2, _, _, _, _, _, rfl, R, En.mono g9, ⟨_, C', by rw [upd_ne m3.symm]; exact h1, upd_same⟩, I.n1, I.n2, m3, m1, m2⟩
  · rintro σ H8 ⟨kt, x5, x6, x7, x8, x9, rfl, I⟩
    obtain ⟨cs, C, h1, h2⟩ := I.ex
    walk_at "s"
    exact rd_eqT (.lst h1 (DtAll.ints cs)) (.lst h2 (DtAll.ints cs)) (Sh.shp (n := 1) (.lst .ints)) (k _)
end K10
set_option Elab.async false
set_option linter.all false
set_option maxRecDepth 100000
set_option maxHeartbeats 4000000
namespace K10
open PySem PySem.Spec PyProof.Rows L2 Lb
def top (i : Nat) : Stmt := PySem.Challenge.pw_placedanyhow_k10_values_of_expressions.main.body.getD i (.Pass ⟨0, 0, 0, 0⟩)
structure Tx (K : PySem.W.Frag) (mg : Str → Option Value) (A : Ad) : Prop where
  k : A.K = K
  b_abs : mg "abs" = none
  b_bool : mg "bool" = none
  b_int : mg "int" = none
  b_isinstance : mg "isinstance" = none
  b_len : mg "len" = none
  b_list : mg "list" = none
  b_range : mg "range" = none
  g_WORDS : GV mg "WORDS" (.int 65536)
section
variable {P : Program} {w : World} {K : PySem.W.Frag} {mg : Str → Option Value} {base : Heap}
abbrev s_calculate : Stmt := top 2
theorem sc_calculate : FnScope ["operator", "a", "b"] ["operator", "a", "b"] (defScope s_calculate) := ⟨rfl, rfl, rfl, by decide +kernel, rfl, by decide +kernel, by decide +kernel⟩
set_option maxHeartbeats 4000000 in
theorem ok_calculate {A : Ad} (T : Tx K mg A) {f : Addr} {fd : FuncData} (F : FunD K "calculate" "calculate" (defArgs s_calculate) (defBody s_calculate) (defScope s_calculate) [] [] f fd) : FnOk P w K mg base CX0 (1) f fd ["operator", "a", "b"] sp_calc := by
  obtain rfl := T.k
  refine F.ok sc_calculate (fun vs H Q E h => len_calculate A h) (fun cdv Ar outer s H vs Q E hr h => ⟨t_calculate A, PSs.nox ?_, pure_calculate A vs H Q E h⟩)
  exact (pss_cons (ps_if (pt_cmpR op_in_seq (pv 0) (pe_tup (pa_cons pe_str (pa_cons pe_str pa_nil))) (by rfl)) (pss_cons (ps_if (pt_cmpR (op_eqA hr.units) (pv 2) pe_int (nomark _)) (pss_one (ps_ret pe_non)) pss_nil) (pss_one (ps_ret (pe_ifExp (pt_cmpR (op_eqA hr.units) (pv 0) pe_str (nomark _)) (pe_op op_fdiv (pv 1) (pv 2)) (pe_op op_sub (pv 1) (pe_op op_mulA (pe_op op_fdiv (pv 1) (pv 2)) (pv 2))))))) pss_nil) (pss_cons (ps_if (pt_cmpR (op_eqA hr.units) (pv 0) pe_str (nomark _)) (pss_one (ps_ret (pe_op op_and (pe_op op_addA (pv 1) (pv 2)) (pe_op op_sub (pe_gv T.g_WORDS (by rfl)) pe_int)))) pss_nil) (pss_cons (ps_if (pt_cmpR (op_eqA hr.units) (pv 0) pe_str (nomark _)) (pss_one (ps_ret (pe_op op_and (pe_op op_sub (pv 1) (pv 2)) (pe_op op_sub (pe_gv T.g_WORDS (by rfl)) pe_int)))) pss_nil) (pss_cons (ps_if (pt_cmpR (op_eqA hr.units) (pv 0) pe_str (nomark _)) (pss_one (ps_ret (pe_op op_and (pe_op op_mulA (pv 1) (pv 2)) (pe_op op_sub (pe_gv T.g_WORDS (by rfl)) pe_int)))) pss_nil) (pss_cons (ps_if (pt_cmpR (op_eqA hr.units) (pv 0) pe_str (nomark _)) (pss_one (ps_ret (pe_ifExp (PW.pt (pw_and (pt_cmpR (op_neA hr.units) (pv 1) pe_int (nomark _)) (pw_and1 (pt_cmpR (op_neA hr.units) (pv 2) pe_int (nomark _))))) pe_int pe_int))) pss_nil) (pss_cons (ps_if (pt_cmpR (op_eqA hr.units) (pv 0) pe_str (nomark _)) (pss_one (ps_ret (pe_ifExp (PW.pt (pw_or (pt_cmpR (op_neA hr.units) (pv 1) pe_int (nomark _)) (pw_or1 (pt_cmpR (op_neA hr.units) (pv 2) pe_int (nomark _))))) pe_int pe_int))) pss_nil) (pss_cons (ps_if (pt_cmpR (op_eqA hr.units) (pv 0) pe_str (nomark _)) (pss_one (ps_ret (pe_ifExp (pt_cmpR (op_eqA hr.units) (pv 1) (pv 2) (nomark _)) pe_int pe_int))) pss_nil) (pss_cons (ps_if (pt_cmpR (op_eqA hr.units) (pv 0) pe_str (nomark _)) (pss_one (ps_ret (pe_ifExp (pt_cmpR (op_neA hr.units) (pv 1) (pv 2) (nomark _)) pe_int pe_int))) pss_nil) (pss_cons (ps_if (pt_cmpR (op_eqA hr.units) (pv 0) pe_str (nomark _)) (pss_one (ps_ret (pe_ifExp (pt_cmpR op_lt (pv 1) (pv 2) (nomark _)) pe_int pe_int))) pss_nil) (pss_one (ps_ret (pe_ifExp (pt_cmpR op_le (pv 1) (pv 2) (nomark _)) pe_int pe_int))))))))))))
abbrev s_place : Stmt := top 3
theorem sc_place : FnScope ["target", "cells", "_", "first", "size", "e", "index"] ["target", "cells"] (defScope s_place) := ⟨rfl, rfl, rfl, by decide +kernel, rfl, by decide +kernel, by decide +kernel⟩
set_option maxHeartbeats 4000000 in
theorem ok_place {A : Ad} (T : Tx K mg A) (n : Nat) {f : Addr} {fd : FuncData} (F : FunD K "place" "place" (defArgs s_place) (defBody s_place) (defScope s_place) [] [] f fd)
    (c_value : Cal P w K mg base "value" (2 * n) ["e", "cells"] (sp_valueP n)) : FnOk P w K mg base CX0 (2 * n + 1) f fd ["target", "cells"] (sp_place n) := by
  obtain rfl := T.k
  refine F.ok sc_place (fun vs H Q E h => len_place A n h) (fun cdv Ar outer s H vs Q E hr h => ⟨t_place A n, PSs.nox ?_, pure_place A n vs H Q E h⟩)
  exact (pss_cons (ps_if (pt_cmpR (op_eqA hr.units) (pe_ix ix_A (pv 0) pe_int (fun _ _ => rfl)) pe_str (nomark _)) (pss_one (ps_ret (pe_ix ix_A (pv 0) pe_int (fun _ _ => rfl)))) pss_nil) (pss_cons (ps_asg (pv 0) (pg_tup rfl (pgs_cons (pg_name (i := 2) sc_place.nd rfl (Or.inl rfl)) (pgs_cons (pg_name (i := 3) sc_place.nd rfl (Or.inl rfl)) (pgs_cons (pg_name (i := 4) sc_place.nd rfl (Or.inl rfl)) (pgs_cons (pg_name (i := 5) sc_place.nd rfl (Or.inl rfl)) pgs_nil)))))) (pss_cons (ps_set (i := 6) sc_place.nd rfl (Or.inl rfl) (pe_cal c_value (hr.mono (by omega)) (by rfl) (pa_cons (pv 5) (pa_cons (pv 1) pa_nil)))) (pss_one (ps_ret (pe_ifExp (PW.pt (pw_or (pt_cmpR op_isNA (pv 6) pe_non (nomark _)) (pw_or1 (pt_cmpR op_ge (pv 6) (pv 4) (nomark _))))) pe_non (pe_op op_addA (pv 3) (pv 6))))))))
abbrev s_value : Stmt := top 4
theorem sc_value : FnScope ["e", "cells", "cell", "a", "b"] ["e", "cells"] (defScope s_value) := ⟨rfl, rfl, rfl, by decide +kernel, rfl, by decide +kernel, by decide +kernel⟩
set_option maxHeartbeats 4000000 in
theorem ok_value {A : Ad} (T : Tx K mg A) (n : Nat) {f : Addr} {fd : FuncData} (F : FunD K "value" "value" (defArgs s_value) (defBody s_value) (defScope s_value) [] [] f fd)
    (c_place : Cal P w K mg base "place" (2 * n + 1) ["target", "cells"] (sp_place n))
    (c_value : Cal P w K mg base "value" (2 * n) ["e", "cells"] (sp_valueP n))
    (c_calculate : Cal P w K mg base "calculate" (1) ["operator", "a", "b"] sp_calc) : FnOk P w K mg base CX0 (2 * n + 2) f fd ["e", "cells"] (sp_value n) := by
  obtain rfl := T.k
  refine F.ok sc_value (fun vs H Q E h => len_value A n h) (fun cdv Ar outer s H vs Q E hr h => ⟨t_value A n, PSs.nox ?_, pure_value A n vs H Q E h⟩)
  exact (pss_cons (ps_if (pt_cmpR (op_eqA hr.units) (pe_ix ix_A (pv 0) pe_int (fun _ _ => rfl)) pe_str (nomark _)) (pss_one (ps_ret (pe_ix ix_A (pv 0) pe_int (fun _ _ => rfl)))) pss_nil) (pss_cons (ps_if (pt_cmpR op_in_seq (pe_ix ix_A (pv 0) pe_int (fun _ _ => rfl)) (pe_tup (pa_cons pe_str (pa_cons pe_str pa_nil))) (by rfl)) (pss_cons (ps_set (i := 2) sc_value.nd rfl (Or.inl rfl) (pe_cal c_place (hr.mono (by omega)) (by rfl) (pa_cons (pv 0) (pa_cons (pv 1) pa_nil)))) (pss_one (ps_ret (pe_ifExp (pt_cmpR op_isNA (pv 2) pe_non (nomark _)) pe_non (pe_ix ix_A (pv 1) (pv 2) (fun _ _ => rfl)))))) pss_nil) (pss_cons (ps_set (i := 3) sc_value.nd rfl (Or.inl rfl) (pe_cal c_value (hr.mono (by omega)) (by rfl) (pa_cons (pe_ix ix_A (pv 0) pe_int (fun _ _ => rfl)) (pa_cons (pv 1) pa_nil)))) (pss_cons (ps_if (pt_cmpR (op_eqA hr.units) (pe_ix ix_A (pv 0) pe_int (fun _ _ => rfl)) pe_str (nomark _)) (pss_one (ps_ret (pe_ifExp (pt_cmpR op_isNA (pv 3) pe_non (nomark _)) pe_non (pe_op op_and (pe_op op_sub pe_int (pv 3)) (pe_op op_sub (pe_gv T.g_WORDS (by rfl)) pe_int))))) pss_nil) (pss_cons (ps_if (pt_cmpR (op_eqA hr.units) (pe_ix ix_A (pv 0) pe_int (fun _ _ => rfl)) pe_str (nomark _)) (pss_one (ps_ret (pe_ifExp (pt_cmpR op_isNA (pv 3) pe_non (nomark _)) pe_non (pe_ifExp (pt_cmpR (op_eqA hr.units) (pv 3) pe_int (nomark _)) pe_int pe_int)))) pss_nil) (pss_cons (ps_set (i := 4) sc_value.nd rfl (Or.inl rfl) (pe_cal c_value (hr.mono (by omega)) (by rfl) (pa_cons (pe_ix ix_A (pv 0) pe_int (fun _ _ => rfl)) (pa_cons (pv 1) pa_nil)))) (pss_one (ps_ret (pe_ifExp (PW.pt (pw_or (pt_cmpR op_isNA (pv 3) pe_non (nomark _)) (pw_or1 (pt_cmpR op_isNA (pv 4) pe_non (nomark _))))) pe_non (pe_cal c_calculate (hr.mono (by omega)) (by rfl) (pa_cons (pe_ix ix_A (pv 0) pe_int (fun _ _ => rfl)) (pa_cons (pv 3) (pa_cons (pv 4) pa_nil)))))))))))))
abbrev s_l_state : Stmt := top 6
theorem sc_l_state : FnScope ["_law_script", "_law_seed", "_law_cell"] ["_law_script"] (defScope s_l_state) := ⟨rfl, rfl, rfl, by decide +kernel, rfl, by decide +kernel, by decide +kernel⟩
set_option maxHeartbeats 4000000 in
theorem ok_l_state {A : Ad} (T : Tx K mg A) {f : Addr} {fd : FuncData} (F : FunD K "_law_state" "_law_state" (defArgs s_l_state) (defBody s_l_state) (defScope s_l_state) [] [] f fd) : FnOk P w K mg base CX0 (1) f fd ["_law_script"] (spState A.K) := by
  obtain rfl := T.k
  refine F.ok sc_l_state (fun vs H Q E h => len_state h) (fun cdv Ar outer s H vs Q E hr h => ⟨t_state A.K, PSs.nox ?_, pure_state A.K vs H Q E h rfl⟩)
  exact (pss_cons (ps_set (i := 1) sc_l_state.nd rfl (Or.inl rfl) pe_int) (pss_cons (ps_for PassesOwn.never rfl (pi_list (pv 0)) (pg_name (i := 2) sc_l_state.nd rfl (Or.inl rfl)) (pss_one (ps_set (i := 1) sc_l_state.nd rfl (Or.inl rfl) (pe_op op_mod (pe_callTy call_intA (by rfl) T.b_int (by decide +kernel) (pa_cons (pe_op op_addA (pe_op op_mulA (pv 1) pe_int) (pv 2)) pa_nil)) pe_int)))) (pss_one (ps_ret (pe_lst (pa_cons (pe_lc (own := [("_law_cell", 2)]) rfl sc_l_state.nd (pi_list (pv 0)) (blkOk_by (own := [("_law_cell", 2)]) (N := ["_law_script", "_law_seed", "_law_cell"]) (sc := defScope s_l_state) (by decide +kernel)) (fun _ _ _ _ _ => (pg_name (i := 2) sc_l_state.nd rfl (Or.inl rfl))) (fun _ _ _ _ _ => pts_nil) (fun _ _ _ _ _ => (pe_callB call_absA (by rfl) T.b_abs (by decide +kernel) (pa_cons (pv 2) pa_nil)))) (pa_cons (pe_op op_addA (pv 1) pe_int) pa_nil)))))))
abbrev s_l_draw : Stmt := top 7
theorem sc_l_draw : FnScope ["_law_state_here", "_law_many", "_law_cells", "_law_number_here", "_law_mixed"] ["_law_state_here", "_law_many"] (defScope s_l_draw) := ⟨rfl, rfl, rfl, by decide +kernel, rfl, by decide +kernel, by decide +kernel⟩
set_option maxHeartbeats 4000000 in
theorem ok_l_draw {A : Ad} (T : Tx K mg A) {f : Addr} {fd : FuncData} (F : FunD K "_law_draw" "_law_draw" (defArgs s_l_draw) (defBody s_l_draw) (defScope s_l_draw) [] [] f fd) : FnOk P w K mg base CX0 (1) f fd ["_law_state_here", "_law_many"] spDraw := by
  obtain rfl := T.k
  refine F.ok sc_l_draw (fun vs H Q E h => len_draw h) (fun cdv Ar outer s H vs Q E hr h => ⟨t_draw A.K, PSs.nox ?_, pure_draw A.K vs H Q E h rfl⟩)
  exact (pss_cons (ps_set (i := 2) sc_l_draw.nd rfl (Or.inl rfl) (pe_ix ix_A (pv 0) pe_int (fun _ _ => rfl))) (pss_cons (ps_while PassesOwn.never (PW.pt (pw_and (pt_cmpR op_gt (pe_callB call_lenA (by rfl) T.b_len (by decide +kernel) (pa_cons (pv 2) pa_nil)) pe_int (nomark _)) (pw_and1 (pt_cmpR (op_eqA hr.units) (pe_ix ix_A (pv 2) pe_int (fun _ _ => rfl)) pe_int (nomark _))))) (pss_one (ps_expr (pe_bml PySem.F.slot_list_pop PySem.F.type_list_pop mt_popI (pv 2) (pa_cons pe_int pa_nil))))) (pss_cons (ps_if (pt_cmpR op_gt (pe_callB call_lenA (by rfl) T.b_len (by decide +kernel) (pa_cons (pv 2) pa_nil)) pe_int (nomark _)) (pss_cons (ps_set (i := 3) sc_l_draw.nd rfl (Or.inl rfl) (pe_ix ix_A (pv 2) pe_int (fun _ _ => rfl))) (pss_cons (ps_asg (pe_op op_fdiv (pv 3) (pv 1)) (pg_sub (pv 2) pe_int set_A)) (pss_one (ps_ret (pe_op op_mod (pe_callTy call_intA (by rfl) T.b_int (by decide +kernel) (pa_cons (pv 3) pa_nil)) (pv 1)))))) pss_nil) (pss_cons (ps_set (i := 4) sc_l_draw.nd rfl (Or.inl rfl) (pe_op op_mod (pe_callTy call_intA (by rfl) T.b_int (by decide +kernel) (pa_cons (pe_op op_addA (pe_op op_mulA (pe_ix ix_A (pv 0) pe_int (fun _ _ => rfl)) pe_int) pe_int) pa_nil)) pe_int)) (pss_cons (ps_asg (pv 4) (pg_sub (pv 0) pe_int set_A)) (pss_one (ps_ret (pe_op op_mod (pe_callTy call_intA (by rfl) T.b_int (by decide +kernel) (pa_cons (pe_op op_fdiv (pv 4) pe_int) pa_nil)) (pv 1)))))))))
abbrev s_l_pick : Stmt := top 8
theorem sc_l_pick : FnScope ["_law_state_here", "_law_row"] ["_law_state_here", "_law_row"] (defScope s_l_pick) := ⟨rfl, rfl, rfl, by decide +kernel, rfl, by decide +kernel, by decide +kernel⟩
set_option maxHeartbeats 4000000 in
theorem ok_l_pick {A : Ad} (T : Tx K mg A) {f : Addr} {fd : FuncData} (F : FunD K "_law_pick" "_law_pick" (defArgs s_l_pick) (defBody s_l_pick) (defScope s_l_pick) [] [] f fd)
    (c_l_draw : Cal P w K mg base "_law_draw" (1) ["_law_state_here", "_law_many"] spDraw) : FnOk P w K mg base CX0 (2) f fd ["_law_state_here", "_law_row"] spPick := by
  obtain rfl := T.k
  refine F.ok sc_l_pick (fun vs H Q E h => len_pick h) (fun cdv Ar outer s H vs Q E hr h => ⟨t_pick, PSs.nox ?_, pure_pick vs H Q E h rfl⟩)
  exact (pss_one (ps_ret (pe_ix ix_A (pv 1) (pe_cal c_l_draw (hr.mono (by omega)) (by rfl) (pa_cons (pv 0) (pa_cons (pe_callB call_lenA (by rfl) T.b_len (by decide +kernel) (pa_cons (pv 1) pa_nil)) pa_nil))) (fun _ _ => rfl))))
abbrev s_l_number : Stmt := top 9
theorem sc_l_number : FnScope ["_law_state_here"] ["_law_state_here"] (defScope s_l_number) := ⟨rfl, rfl, rfl, by decide +kernel, rfl, by decide +kernel, by decide +kernel⟩
set_option maxHeartbeats 4000000 in
theorem ok_l_number {A : Ad} (T : Tx K mg A) {f : Addr} {fd : FuncData} (F : FunD K "_law_number" "_law_number" (defArgs s_l_number) (defBody s_l_number) (defScope s_l_number) [] [] f fd)
    (c_l_pick : Cal P w K mg base "_law_pick" (2) ["_law_state_here", "_law_row"] spPick)
    (c_l_draw : Cal P w K mg base "_law_draw" (1) ["_law_state_here", "_law_many"] spDraw) : FnOk P w K mg base CX0 (3) f fd ["_law_state_here"] sp_number := by
  obtain rfl := T.k
  refine F.ok sc_l_number (fun vs H Q E h => len_l_number A h) (fun cdv Ar outer s H vs Q E hr h => ⟨t_l_number A, PSs.nox ?_, pure_l_number A vs H Q E h⟩)
  exact (pss_one (ps_ret (pe_tup (pa_cons pe_str (pa_cons (pe_cal c_l_pick (hr.mono (by omega)) (by rfl) (pa_cons (pv 0) (pa_cons (pe_lst (pa_cons pe_int (pa_cons pe_int (pa_cons pe_int (pa_cons pe_int (pa_cons (pe_cal c_l_draw (hr.mono (by omega)) (by rfl) (pa_cons (pv 0) (pa_cons pe_int pa_nil))) (pa_cons pe_int (pa_cons (pe_cal c_l_draw (hr.mono (by omega)) (by rfl) (pa_cons (pv 0) (pa_cons pe_int pa_nil))) pa_nil)))))))) pa_nil))) pa_nil)))))
abbrev s_l_operator : Stmt := top 10
theorem sc_l_operator : FnScope ["_law_state_here"] ["_law_state_here"] (defScope s_l_operator) := ⟨rfl, rfl, rfl, by decide +kernel, rfl, by decide +kernel, by decide +kernel⟩
set_option maxHeartbeats 4000000 in
theorem ok_l_operator {A : Ad} (T : Tx K mg A) {f : Addr} {fd : FuncData} (F : FunD K "_law_operator" "_law_operator" (defArgs s_l_operator) (defBody s_l_operator) (defScope s_l_operator) [] [] f fd)
    (c_l_pick : Cal P w K mg base "_law_pick" (2) ["_law_state_here", "_law_row"] spPick) : FnOk P w K mg base CX0 (3) f fd ["_law_state_here"] sp_oper := by
  obtain rfl := T.k
  refine F.ok sc_l_operator (fun vs H Q E h => len_l_operator A h) (fun cdv Ar outer s H vs Q E hr h => ⟨t_l_operator A, PSs.nox ?_, pure_l_operator A vs H Q E h⟩)
  exact (pss_one (ps_ret (pe_cal c_l_pick (hr.mono (by omega)) (by rfl) (pa_cons (pv 0) (pa_cons (pe_lst (pa_cons pe_str (pa_cons pe_str (pa_cons pe_str (pa_cons pe_str (pa_cons pe_str (pa_cons pe_str (pa_cons pe_str (pa_cons pe_str (pa_cons pe_str (pa_cons pe_str (pa_cons pe_str (pa_cons pe_str (pa_cons (pe_cal c_l_pick (hr.mono (by omega)) (by rfl) (pa_cons (pv 0) (pa_cons (pe_lst (pa_cons pe_str (pa_cons pe_str pa_nil))) pa_nil))) pa_nil)))))))))))))) pa_nil)))))
abbrev s_l_index : Stmt := top 11
theorem sc_l_index : FnScope ["_law_state_here", "_law_env", "_law_size", "_law_cell"] ["_law_state_here", "_law_env", "_law_size"] (defScope s_l_index) := ⟨rfl, rfl, rfl, by decide +kernel, rfl, by decide +kernel, by decide +kernel⟩
set_option maxHeartbeats 4000000 in
theorem ok_l_index {A : Ad} (T : Tx K mg A) {f : Addr} {fd : FuncData} (F : FunD K "_law_index" "_law_index" (defArgs s_l_index) (defBody s_l_index) (defScope s_l_index) [] [] f fd)
    (c_l_pick : Cal P w K mg base "_law_pick" (2) ["_law_state_here", "_law_row"] spPick)
    (c_l_draw : Cal P w K mg base "_law_draw" (1) ["_law_state_here", "_law_many"] spDraw) : FnOk P w K mg base CX0 (3) f fd ["_law_state_here", "_law_env", "_law_size"] sp_index := by
  obtain rfl := T.k
  refine F.ok sc_l_index (fun vs H Q E h => len_l_index A h) (fun cdv Ar outer s H vs Q E hr h => ⟨t_l_index A, PSs.nox ?_, pure_l_index A vs H Q E h⟩)
  exact (pss_cons (ps_set (i := 3) sc_l_index.nd rfl (Or.inl rfl) (pe_tup (pa_cons pe_str (pa_cons (pe_cal c_l_pick (hr.mono (by omega)) (by rfl) (pa_cons (pv 0) (pa_cons (pe_dget (hu_of hr) (pv 1) pe_str (fun _ _ => rfl)) pa_nil))) pa_nil)))) (pss_one (ps_ret (pe_ifExp (pt_cmpR (op_eqA hr.units) (pe_cal c_l_draw (hr.mono (by omega)) (by rfl) (pa_cons (pv 0) (pa_cons pe_int pa_nil))) pe_int (nomark _)) (pv 3) (pe_tup (pa_cons pe_str (pa_cons (pv 3) (pa_cons (pe_tup (pa_cons pe_str (pa_cons (pv 2) pa_nil))) pa_nil))))))))
abbrev s_l_read : Stmt := top 12
theorem sc_l_read : FnScope ["_law_state_here", "_law_env", "_law_first", "_law_size"] ["_law_state_here", "_law_env"] (defScope s_l_read) := ⟨rfl, rfl, rfl, by decide +kernel, rfl, by decide +kernel, by decide +kernel⟩
set_option maxHeartbeats 4000000 in
theorem ok_l_read {A : Ad} (T : Tx K mg A) {f : Addr} {fd : FuncData} (F : FunD K "_law_read" "_law_read" (defArgs s_l_read) (defBody s_l_read) (defScope s_l_read) [] [] f fd)
    (c_l_draw : Cal P w K mg base "_law_draw" (1) ["_law_state_here", "_law_many"] spDraw)
    (c_l_pick : Cal P w K mg base "_law_pick" (2) ["_law_state_here", "_law_row"] spPick)
    (c_l_index : Cal P w K mg base "_law_index" (3) ["_law_state_here", "_law_env", "_law_size"] sp_index) : FnOk P w K mg base CX0 (4) f fd ["_law_state_here", "_law_env"] sp_read := by
  obtain rfl := T.k
  refine F.ok sc_l_read (fun vs H Q E h => len_l_read A h) (fun cdv Ar outer s H vs Q E hr h => ⟨t_l_read A, PSs.nox ?_, pure_l_read A vs H Q E h⟩)
  exact (pss_cons (ps_if (PW.pt (pw_and (pt_cmpR op_gt (pe_callB call_lenA (by rfl) T.b_len (by decide +kernel) (pa_cons (pe_dget (hu_of hr) (pv 1) pe_str (fun _ _ => rfl)) pa_nil)) pe_int (nomark _)) (pw_and1 (pt_cmpR (op_eqA hr.units) (pe_cal c_l_draw (hr.mono (by omega)) (by rfl) (pa_cons (pv 0) (pa_cons pe_int pa_nil))) pe_int (nomark _))))) (pss_cons (ps_asg (pe_cal c_l_pick (hr.mono (by omega)) (by rfl) (pa_cons (pv 0) (pa_cons (pe_dget (hu_of hr) (pv 1) pe_str (fun _ _ => rfl)) pa_nil))) (pg_tup rfl (pgs_cons (pg_name (i := 2) sc_l_read.nd rfl (Or.inl rfl)) (pgs_cons (pg_name (i := 3) sc_l_read.nd rfl (Or.inl rfl)) pgs_nil)))) (pss_one (ps_ret (pe_tup (pa_cons pe_str (pa_cons (pv 2) (pa_cons (pv 3) (pa_cons (pe_cal c_l_index (hr.mono (by omega)) (by rfl) (pa_cons (pv 0) (pa_cons (pv 1) (pa_cons (pv 3) pa_nil)))) pa_nil)))))))) pss_nil) (pss_one (ps_ret (pe_tup (pa_cons pe_str (pa_cons (pe_cal c_l_pick (hr.mono (by omega)) (by rfl) (pa_cons (pv 0) (pa_cons (pe_dget (hu_of hr) (pv 1) pe_str (fun _ _ => rfl)) pa_nil))) pa_nil))))))
abbrev s_l_expression : Stmt := top 13
theorem sc_l_expression : FnScope ["_law_state_here", "_law_env", "_law_deep_here", "_law_kind", "_law_first"] ["_law_state_here", "_law_env", "_law_deep_here"] (defScope s_l_expression) := ⟨rfl, rfl, rfl, by decide +kernel, rfl, by decide +kernel, by decide +kernel⟩
set_option maxHeartbeats 4000000 in
theorem ok_l_expression {A : Ad} (T : Tx K mg A) (n : Nat) {f : Addr} {fd : FuncData} (F : FunD K "_law_expression" "_law_expression" (defArgs s_l_expression) (defBody s_l_expression) (defScope s_l_expression) [] [] f fd)
    (c_l_draw : Cal P w K mg base "_law_draw" (1) ["_law_state_here", "_law_many"] spDraw)
    (c_l_read : Cal P w K mg base "_law_read" (4) ["_law_state_here", "_law_env"] sp_read)
    (c_l_number : Cal P w K mg base "_law_number" (3) ["_law_state_here"] sp_number)
    (c_l_expression : Cal P w K mg base "_law_expression" (n + 4) ["_law_state_here", "_law_env", "_law_deep_here"] (sp_exprP n))
    (c_l_pick : Cal P w K mg base "_law_pick" (2) ["_law_state_here", "_law_row"] spPick)
    (c_l_operator : Cal P w K mg base "_law_operator" (3) ["_law_state_here"] sp_oper) : FnOk P w K mg base CX0 (n + 5) f fd ["_law_state_here", "_law_env", "_law_deep_here"] (sp_expr n) := by
  obtain rfl := T.k
  refine F.ok sc_l_expression (fun vs H Q E h => len_l_expression A n h) (fun cdv Ar outer s H vs Q E hr h => ⟨t_l_expression A n, PSs.nox ?_, pure_l_expression A n vs H Q E h⟩)
  exact (pss_cons (ps_set (i := 3) sc_l_expression.nd rfl (Or.inl rfl) (pe_cal c_l_draw (hr.mono (by omega)) (by rfl) (pa_cons (pv 0) (pa_cons pe_int pa_nil)))) (pss_cons (ps_if (PW.pt (pw_or (pt_cmpR (op_eqA hr.units) (pv 2) pe_int (nomark _)) (pw_or1 (pt_cmpR op_lt (pv 3) pe_int (nomark _))))) (pss_cons (ps_if (PW.pt (pw_and (pt_cmpR op_gt (pe_callB call_lenA (by rfl) T.b_len (by decide +kernel) (pa_cons (pe_dget (hu_of hr) (pv 1) pe_str (fun _ _ => rfl)) pa_nil)) pe_int (nomark _)) (pw_and1 (pt_cmpR op_gt (pe_cal c_l_draw (hr.mono (by omega)) (by rfl) (pa_cons (pv 0) (pa_cons pe_int pa_nil))) pe_int (nomark _))))) (pss_one (ps_ret (pe_cal c_l_read (hr.mono (by omega)) (by rfl) (pa_cons (pv 0) (pa_cons (pv 1) pa_nil))))) pss_nil) (pss_one (ps_ret (pe_cal c_l_number (hr.mono (by omega)) (by rfl) (pa_cons (pv 0) pa_nil))))) pss_nil) (pss_cons (ps_if (pt_cmpR (op_eqA hr.units) (pv 3) pe_int (nomark _)) (pss_one (ps_ret (pe_tup (pa_cons (pe_cal c_l_pick (hr.mono (by omega)) (by rfl) (pa_cons (pv 0) (pa_cons (pe_lst (pa_cons pe_str (pa_cons pe_str pa_nil))) pa_nil))) (pa_cons (pe_cal c_l_expression (hr.mono (by omega)) (by rfl) (pa_cons (pv 0) (pa_cons (pv 1) (pa_cons (pe_op op_sub (pv 2) pe_int) pa_nil)))) pa_nil))))) pss_nil) (pss_cons (ps_set (i := 4) sc_l_expression.nd rfl (Or.inl rfl) (pe_cal c_l_expression (hr.mono (by omega)) (by rfl) (pa_cons (pv 0) (pa_cons (pv 1) (pa_cons (pe_op op_sub (pv 2) pe_int) pa_nil))))) (pss_one (ps_ret (pe_tup (pa_cons (pe_cal c_l_operator (hr.mono (by omega)) (by rfl) (pa_cons (pv 0) pa_nil)) (pa_cons (pv 4) (pa_cons (pe_cal c_l_expression (hr.mono (by omega)) (by rfl) (pa_cons (pv 0) (pa_cons (pv 1) (pa_cons (pe_op op_sub (pv 2) pe_int) pa_nil)))) pa_nil))))))))))
abbrev s_l_target : Stmt := top 14
theorem sc_l_target : FnScope ["_law_state_here", "_law_env", "_law_first", "_law_size"] ["_law_state_here", "_law_env"] (defScope s_l_target) := ⟨rfl, rfl, rfl, by decide +kernel, rfl, by decide +kernel, by decide +kernel⟩
set_option maxHeartbeats 4000000 in
theorem ok_l_target {A : Ad} (T : Tx K mg A) {f : Addr} {fd : FuncData} (F : FunD K "_law_target" "_law_target" (defArgs s_l_target) (defBody s_l_target) (defScope s_l_target) [] [] f fd)
    (c_l_draw : Cal P w K mg base "_law_draw" (1) ["_law_state_here", "_law_many"] spDraw)
    (c_l_pick : Cal P w K mg base "_law_pick" (2) ["_law_state_here", "_law_row"] spPick)
    (c_l_index : Cal P w K mg base "_law_index" (3) ["_law_state_here", "_law_env", "_law_size"] sp_index) : FnOk P w K mg base CX0 (4) f fd ["_law_state_here", "_law_env"] sp_target := by
  obtain rfl := T.k
  refine F.ok sc_l_target (fun vs H Q E h => len_l_target A h) (fun cdv Ar outer s H vs Q E hr h => ⟨t_l_target A, PSs.nox ?_, pure_l_target A vs H Q E h⟩)
  exact (pss_cons (ps_if (PW.pt (pw_and (pt_cmpR op_gt (pe_callB call_lenA (by rfl) T.b_len (by decide +kernel) (pa_cons (pe_dget (hu_of hr) (pv 1) pe_str (fun _ _ => rfl)) pa_nil)) pe_int (nomark _)) (pw_and1 (pt_cmpR (op_eqA hr.units) (pe_cal c_l_draw (hr.mono (by omega)) (by rfl) (pa_cons (pv 0) (pa_cons pe_int pa_nil))) pe_int (nomark _))))) (pss_cons (ps_asg (pe_cal c_l_pick (hr.mono (by omega)) (by rfl) (pa_cons (pv 0) (pa_cons (pe_dget (hu_of hr) (pv 1) pe_str (fun _ _ => rfl)) pa_nil))) (pg_tup rfl (pgs_cons (pg_name (i := 2) sc_l_target.nd rfl (Or.inl rfl)) (pgs_cons (pg_name (i := 3) sc_l_target.nd rfl (Or.inl rfl)) pgs_nil)))) (pss_one (ps_ret (pe_tup (pa_cons pe_str (pa_cons (pv 2) (pa_cons (pv 3) (pa_cons (pe_cal c_l_index (hr.mono (by omega)) (by rfl) (pa_cons (pv 0) (pa_cons (pv 1) (pa_cons (pv 3) pa_nil)))) pa_nil)))))))) pss_nil) (pss_one (ps_ret (pe_tup (pa_cons pe_str (pa_cons (pe_cal c_l_pick (hr.mono (by omega)) (by rfl) (pa_cons (pv 0) (pa_cons (pe_dget (hu_of hr) (pv 1) pe_str (fun _ _ => rfl)) pa_nil))) pa_nil))))))
abbrev s_l_binary : Stmt := top 15
theorem sc_l_binary : FnScope ["_law_sign", "_law_a", "_law_b", "_law_found"] ["_law_sign", "_law_a", "_law_b"] (defScope s_l_binary) := ⟨rfl, rfl, rfl, by decide +kernel, rfl, by decide +kernel, by decide +kernel⟩
set_option maxHeartbeats 4000000 in
theorem ok_l_binary {A : Ad} (T : Tx K mg A) {f : Addr} {fd : FuncData} (F : FunD K "_law_binary" "_law_binary" (defArgs s_l_binary) (defBody s_l_binary) (defScope s_l_binary) [] [] f fd) : FnOk P w K mg base CX0 (1) f fd ["_law_sign", "_law_a", "_law_b"] sp_calc := by
  obtain rfl := T.k
  refine F.ok sc_l_binary (fun vs H Q E h => len_l_binary A h) (fun cdv Ar outer s H vs Q E hr h => ⟨t_l_binary A, PSs.nox ?_, pure_l_binary A vs H Q E h⟩)
  exact (pss_cons (ps_if (pt_cmpR op_in_seq (pv 0) (pe_tup (pa_cons pe_str (pa_cons pe_str pa_nil))) (by rfl)) (pss_cons (ps_if (pt_cmpR (op_eqA hr.units) (pv 2) pe_int (nomark _)) (pss_one (ps_ret pe_non)) pss_nil) (pss_one (ps_ret (pe_ifExp (pt_cmpR (op_eqA hr.units) (pv 0) pe_str (nomark _)) (pe_op op_fdiv (pv 1) (pv 2)) (pe_op op_mod (pe_callTy call_intA (by rfl) T.b_int (by decide +kernel) (pa_cons (pv 1) pa_nil)) (pv 2)))))) pss_nil) (pss_cons (ps_if (pt_cmpR op_in_seq (pv 0) (pe_tup (pa_cons pe_str (pa_cons pe_str pa_nil))) (by rfl)) (pss_one (ps_ret (pe_ifExp (pt_cmpR (op_eqA hr.units) (pv 0) pe_str (nomark _)) (pe_callTy call_intA (by rfl) T.b_int (by decide +kernel) (pa_cons (pe_and (pe_cmpR op_gt (pv 1) pe_int (nomark _)) (pe_one (pe_cmpR op_gt (pv 2) pe_int (nomark _)))) pa_nil)) (pe_callTy call_intA (by rfl) T.b_int (by decide +kernel) (pa_cons (pe_or (pe_cmpR op_gt (pv 1) pe_int (nomark _)) (pe_one (pe_cmpR op_gt (pv 2) pe_int (nomark _)))) pa_nil))))) pss_nil) (pss_cons (ps_if (pt_cmpR op_in_seq (pv 0) (pe_tup (pa_cons pe_str (pa_cons pe_str pa_nil))) (by rfl)) (pss_one (ps_ret (pe_ifExp (pt_cmpR (op_eqA hr.units) (pv 0) pe_str (nomark _)) (pe_callTy call_intA (by rfl) T.b_int (by decide +kernel) (pa_cons (pe_cmpR (op_eqA hr.units) (pv 1) (pv 2) (nomark _)) pa_nil)) (pe_callTy call_intA (by rfl) T.b_int (by decide +kernel) (pa_cons (pe_cmpR (op_neA hr.units) (pv 1) (pv 2) (nomark _)) pa_nil))))) pss_nil) (pss_cons (ps_if (pt_cmpR op_in_seq (pv 0) (pe_tup (pa_cons pe_str (pa_cons pe_str pa_nil))) (by rfl)) (pss_one (ps_ret (pe_ifExp (pt_cmpR (op_eqA hr.units) (pv 0) pe_str (nomark _)) (pe_callTy call_intA (by rfl) T.b_int (by decide +kernel) (pa_cons (pe_cmpR op_lt (pv 1) (pv 2) (nomark _)) pa_nil)) (pe_callTy call_intA (by rfl) T.b_int (by decide +kernel) (pa_cons (pe_not (pe_cmpR op_lt (pv 2) (pv 1) (nomark _))) pa_nil))))) pss_nil) (pss_cons (ps_set (i := 3) sc_l_binary.nd rfl (Or.inl rfl) (pe_op op_mulA (pv 1) (pv 2))) (pss_cons (ps_if (pt_cmpR (op_neA hr.units) (pv 0) pe_str (nomark _)) (pss_one (ps_set (i := 3) sc_l_binary.nd rfl (Or.inl rfl) (pe_ifExp (pt_cmpR (op_eqA hr.units) (pv 0) pe_str (nomark _)) (pe_op op_addA (pv 1) (pv 2)) (pe_op op_sub (pe_op op_addA (pv 1) pe_int) (pv 2))))) pss_nil) (pss_one (ps_ret (pe_op op_mod (pe_callTy call_intA (by rfl) T.b_int (by decide +kernel) (pa_cons (pv 3) pa_nil)) pe_int)))))))))
abbrev s_l_value : Stmt := top 16
theorem sc_l_value : FnScope ["_law_e", "_law_cells", "_law_index_here", "_law_operands", "_law_operand"] ["_law_e", "_law_cells"] (defScope s_l_value) := ⟨rfl, rfl, rfl, by decide +kernel, rfl, by decide +kernel, by decide +kernel⟩
set_option maxHeartbeats 4000000 in
theorem ok_l_value {A : Ad} (T : Tx K mg A) (n : Nat) {f : Addr} {fd : FuncData} (F : FunD K "_law_value" "_law_value" (defArgs s_l_value) (defBody s_l_value) (defScope s_l_value) [] [] f fd)
    (c_l_value : Cal P w K mg base "_law_value" (n + 1) ["_law_e", "_law_cells"] (sp_lvalP n))
    (c_l_binary : Cal P w K mg base "_law_binary" (1) ["_law_sign", "_law_a", "_law_b"] sp_calc) : FnOk P w K mg base CX0 (n + 2) f fd ["_law_e", "_law_cells"] (sp_lval n) := by
  obtain rfl := T.k
  refine F.ok sc_l_value (fun vs H Q E h => len_l_value A n h) (fun cdv Ar outer s H vs Q E hr h => ⟨t_l_value A n, PSs.nox ?_, pure_l_value A n vs H Q E h⟩)
  exact (pss_cons (ps_if (pt_cmpR (op_eqA hr.units) (pe_ix ix_A (pv 0) pe_int (fun _ _ => rfl)) pe_str (nomark _)) (pss_one (ps_ret (pe_ix ix_A (pv 0) pe_int (fun _ _ => rfl)))) pss_nil) (pss_cons (ps_if (pt_cmpR (op_eqA hr.units) (pe_ix ix_A (pv 0) pe_int (fun _ _ => rfl)) pe_str (nomark _)) (pss_one (ps_ret (pe_ix ix_A (pv 1) (pe_ix ix_A (pv 0) pe_int (fun _ _ => rfl)) (fun _ _ => rfl)))) pss_nil) (pss_cons (ps_if (pt_cmpR (op_eqA hr.units) (pe_ix ix_A (pv 0) pe_int (fun _ _ => rfl)) pe_str (nomark _)) (pss_cons (ps_set (i := 2) sc_l_value.nd rfl (Or.inl rfl) (pe_cal c_l_value (hr.mono (by omega)) (by rfl) (pa_cons (pe_ix ix_A (pv 0) pe_int (fun _ _ => rfl)) (pa_cons (pv 1) pa_nil)))) (pss_one (ps_ret (pe_ifExp (PW.pt (pw_or (pt_cmpR op_isNA (pv 2) pe_non (nomark _)) (pw_or1 (pt_cmpR op_ge (pv 2) (pe_ix ix_A (pv 0) pe_int (fun _ _ => rfl)) (nomark _))))) pe_non (pe_ix ix_A (pv 1) (pe_op op_addA (pe_ix ix_A (pv 0) pe_int (fun _ _ => rfl)) (pv 2)) (fun _ _ => rfl)))))) pss_nil) (pss_cons (ps_setLc (i := 3) (own := [("_law_operand", 4)]) rfl sc_l_value.nd rfl rfl (sw_true rfl rfl rfl (by decide +kernel)) (pi_tup (pe_slice sl_A (pv 0) (po_some pe_int) po_none)) (blkOk_by (own := [("_law_operand", 4)]) (N := ["_law_e", "_law_cells", "_law_index_here", "_law_operands", "_law_operand"]) (sc := defScope s_l_value) (by decide +kernel)) (fun _ _ _ _ _ => (pg_name (i := 4) sc_l_value.nd rfl (Or.inl rfl))) (fun _ _ _ _ _ => pts_nil) (fun _ _ _ _ _ => (pe_cal c_l_value (hr.mono (by omega)) (by rfl) (pa_cons (pv 4) (pa_cons (pv 1) pa_nil))))) (pss_cons (ps_if (pt_cmpR op_in_seq pe_non (pv 3) (by rfl)) (pss_one (ps_ret pe_non)) pss_nil) (pss_cons (ps_if (pt_cmpR (op_eqA hr.units) (pe_ix ix_A (pv 0) pe_int (fun _ _ => rfl)) pe_str (nomark _)) (pss_one (ps_ret (pe_callTy call_intA (by rfl) T.b_int (by decide +kernel) (pa_cons (pe_cmpR (op_eqA hr.units) (pe_ix ix_A (pv 3) pe_int (fun _ _ => rfl)) pe_int (nomark _)) pa_nil)))) pss_nil) (pss_cons (ps_if (pt_cmpR (op_eqA hr.units) (pe_ix ix_A (pv 0) pe_int (fun _ _ => rfl)) pe_str (nomark _)) (pss_one (ps_ret (pe_op op_mod (pe_callTy call_intA (by rfl) T.b_int (by decide +kernel) (pa_cons (pe_op op_sub pe_int (pe_ix ix_A (pv 3) pe_int (fun _ _ => rfl))) pa_nil)) pe_int))) pss_nil) (pss_one (ps_ret (pe_cal c_l_binary (hr.mono (by omega)) (by rfl) (pa_cons (pe_ix ix_A (pv 0) pe_int (fun _ _ => rfl)) (pa_cons (pe_ix ix_A (pv 3) pe_int (fun _ _ => rfl)) (pa_cons (pe_ix ix_A (pv 3) pe_int (fun _ _ => rfl)) pa_nil)))))))))))))
abbrev s_l_where : Stmt := top 17
theorem sc_l_where : FnScope ["_law_target_here", "_law_cells", "_law_index_here"] ["_law_target_here", "_law_cells"] (defScope s_l_where) := ⟨rfl, rfl, rfl, by decide +kernel, rfl, by decide +kernel, by decide +kernel⟩
set_option maxHeartbeats 4000000 in
theorem ok_l_where {A : Ad} (T : Tx K mg A) {f : Addr} {fd : FuncData} (F : FunD K "_law_where" "_law_where" (defArgs s_l_where) (defBody s_l_where) (defScope s_l_where) [] [] f fd)
    (c_l_value : Cal P w K mg base "_law_value" (12) ["_law_e", "_law_cells"] sp_lvalU) : FnOk P w K mg base CX0 (13) f fd ["_law_target_here", "_law_cells"] sp_where := by
  obtain rfl := T.k
  refine F.ok sc_l_where (fun vs H Q E h => len_l_where A h) (fun cdv Ar outer s H vs Q E hr h => ⟨t_l_where A, PSs.nox ?_, pure_l_where A vs H Q E h⟩)
  exact (pss_cons (ps_if (pt_cmpR (op_eqA hr.units) (pe_ix ix_A (pv 0) pe_int (fun _ _ => rfl)) pe_str (nomark _)) (pss_one (ps_ret (pe_ix ix_A (pv 0) pe_int (fun _ _ => rfl)))) pss_nil) (pss_cons (ps_set (i := 2) sc_l_where.nd rfl (Or.inl rfl) (pe_cal c_l_value (hr.mono (by omega)) (by rfl) (pa_cons (pe_ix ix_A (pv 0) pe_int (fun _ _ => rfl)) (pa_cons (pv 1) pa_nil)))) (pss_one (ps_ret (pe_ifExp (PW.pt (pw_or (pt_cmpR op_isNA (pv 2) pe_non (nomark _)) (pw_or1 (pt_cmpR op_ge (pv 2) (pe_ix ix_A (pv 0) pe_int (fun _ _ => rfl)) (nomark _))))) pe_non (pe_op op_addA (pe_ix ix_A (pv 0) pe_int (fun _ _ => rfl)) (pv 2)))))))
abbrev s_l_deep : Stmt := top 18
theorem sc_l_deep : FnScope ["_law_state_here", "_law_env", "_law_deep_here", "_law_e", "_law_sign"] ["_law_state_here", "_law_env", "_law_deep_here"] (defScope s_l_deep) := ⟨rfl, rfl, rfl, by decide +kernel, rfl, by decide +kernel, by decide +kernel⟩
set_option maxHeartbeats 4000000 in
theorem ok_l_deep {A : Ad} (T : Tx K mg A) {f : Addr} {fd : FuncData} (F : FunD K "_law_deep" "_law_deep" (defArgs s_l_deep) (defBody s_l_deep) (defScope s_l_deep) [] [] f fd)
    (c_l_expression : Cal P w K mg base "_law_expression" (9) ["_law_state_here", "_law_env", "_law_deep_here"] sp_exprU)
    (c_l_draw : Cal P w K mg base "_law_draw" (1) ["_law_state_here", "_law_many"] spDraw)
    (c_l_pick : Cal P w K mg base "_law_pick" (2) ["_law_state_here", "_law_row"] spPick) : FnOk P w K mg base CX0 (10) f fd ["_law_state_here", "_law_env", "_law_deep_here"] sp_deep := by
  obtain rfl := T.k
  refine F.ok sc_l_deep (fun vs H Q E h => len_l_deep A h) (fun cdv Ar outer s H vs Q E hr h => ⟨t_l_deep A, PSs.nox ?_, pure_l_deep A vs H Q E h⟩)
  exact (pss_cons (ps_set (i := 3) sc_l_deep.nd rfl (Or.inl rfl) (pe_cal c_l_expression (hr.mono (by omega)) (by rfl) (pa_cons (pv 0) (pa_cons (pv 1) (pa_cons (pv 2) pa_nil))))) (pss_cons (ps_if (pt_cmpR (op_eqA hr.units) (pe_cal c_l_draw (hr.mono (by omega)) (by rfl) (pa_cons (pv 0) (pa_cons pe_int pa_nil))) pe_int (nomark _)) (pss_cons (ps_set (i := 4) sc_l_deep.nd rfl (Or.inl rfl) (pe_cal c_l_pick (hr.mono (by omega)) (by rfl) (pa_cons (pv 0) (pa_cons (pe_lst (pa_cons pe_str (pa_cons pe_str (pa_cons pe_str (pa_cons pe_str (pa_cons pe_str (pa_cons pe_str (pa_cons pe_str (pa_cons pe_str (pa_cons pe_str (pa_cons pe_str (pa_cons pe_str pa_nil)))))))))))) pa_nil)))) (pss_one (ps_ret (pe_tup (pa_cons (pv 4) (pa_cons (pv 3) (pa_cons (pe_cal c_l_expression (hr.mono (by omega)) (by rfl) (pa_cons (pv 0) (pa_cons (pv 1) (pa_cons (pv 2) pa_nil)))) pa_nil))))))) pss_nil) (pss_one (ps_ret (pv 3)))))
abbrev s_law : Stmt := top 19
theorem sc_law : FnScope ["_law_script", "_law_state_here", "_law_cells", "_law_env", "_law_kept", "_law_k", "_law_e", "_law_told", "_law_due", "_law_target_here"] ["_law_script"] (defScope s_law) := ⟨rfl, rfl, rfl, by decide +kernel, rfl, by decide +kernel, by decide +kernel⟩
set_option maxHeartbeats 4000000 in
theorem ok_law {A : Ad} (T : Tx K mg A) {f : Addr} {fd : FuncData} (F : FunD K "law" "law" (defArgs s_law) (defBody s_law) (defScope s_law) [] [] f fd)
    (c_l_state : Cal P w K mg base "_law_state" (1) ["_law_script"] (spState A.K))
    (c_l_pick : Cal P w K mg base "_law_pick" (2) ["_law_state_here", "_law_row"] spPick)
    (c_l_draw : Cal P w K mg base "_law_draw" (1) ["_law_state_here", "_law_many"] spDraw)
    (c_l_deep : Cal P w K mg base "_law_deep" (10) ["_law_state_here", "_law_env", "_law_deep_here"] sp_deep)
    (c_value : Cal P w K mg base "value" (22) ["e", "cells"] sp_valueU)
    (c_l_value : Cal P w K mg base "_law_value" (12) ["_law_e", "_law_cells"] sp_lvalU)
    (c_l_target : Cal P w K mg base "_law_target" (4) ["_law_state_here", "_law_env"] sp_target)
    (c_place : Cal P w K mg base "place" (21) ["target", "cells"] sp_placeU)
    (c_l_where : Cal P w K mg base "_law_where" (13) ["_law_target_here", "_law_cells"] sp_where) : FnOk P w K mg base CX0 (30) f fd ["_law_script"] (sp_law A.K) := by
  obtain rfl := T.k
  refine F.ok sc_law (fun vs H Q E h => len_law A h) (fun cdv Ar outer s H vs Q E hr h => ⟨t_law A, PSs.nox ?_, pure_law A vs H Q E h⟩)
  exact (pss_cons (ps_set (i := 1) sc_law.nd rfl (Or.inr rfl) (pe_cal c_l_state (hr.mono (by omega)) (by rfl) (pa_cons (pv 0) pa_nil))) (pss_cons (ps_setLc (i := 2) (own := [("_law_k", 5)]) rfl sc_law.nd rfl rfl (sw_true rfl rfl rfl (by decide +kernel)) (pi_range1 (by rfl) T.b_range (pa_cons pe_int pa_nil)) (blkOk_by (own := [("_law_k", 5)]) (N := ["_law_script", "_law_state_here", "_law_cells", "_law_env", "_law_kept", "_law_k", "_law_e", "_law_told", "_law_due", "_law_target_here"]) (sc := defScope s_law) (by decide +kernel)) (fun _ _ _ _ _ => (pg_name (i := 5) sc_law.nd rfl (Or.inl rfl))) (fun _ _ _ _ _ => pts_nil) (fun _ _ _ _ _ => (pe_cal c_l_pick (hr.mono (by omega)) (by rfl) (pa_cons (pv 1) (pa_cons (pe_lst (pa_cons pe_int (pa_cons pe_int (pa_cons pe_int (pa_cons pe_int (pa_cons (pe_cal c_l_draw (hr.mono (by omega)) (by rfl) (pa_cons (pv 1) (pa_cons pe_int pa_nil))) (pa_cons (pe_cal c_l_draw (hr.mono (by omega)) (by rfl) (pa_cons (pv 1) (pa_cons pe_int pa_nil))) pa_nil))))))) pa_nil))))) (pss_cons (ps_set (i := 3) sc_law.nd rfl (Or.inl rfl) (pe_disp (pps_cons pe_str (pe_lst (pa_cons pe_int (pa_cons pe_int (pa_cons pe_int pa_nil)))) (pps_cons pe_str (pe_lst (pa_cons pe_int (pa_cons pe_int (pa_cons pe_int pa_nil)))) (pps_cons pe_str (pe_lst (pa_cons (pe_tup (pa_cons pe_int (pa_cons (pe_op op_addA pe_int (pe_cal c_l_draw (hr.mono (by omega)) (by rfl) (pa_cons (pv 1) (pa_cons pe_int pa_nil)))) pa_nil))) pa_nil)) pps_nil))) (by rfl) (by rfl) (fun z => by cases z) (by decide))) (pss_cons (ps_set (i := 4) sc_law.nd rfl (Or.inl rfl) (pe_callTy call_listA (by rfl) T.b_list (by decide +kernel) (pa_cons (pv 2) pa_nil))) (pss_cons (ps_for PassesOwn.never rfl (pi_range1 (by rfl) T.b_range (pa_cons pe_int pa_nil)) (pg_name (i := 5) sc_law.nd rfl (Or.inl rfl)) (pss_cons (ps_set (i := 6) sc_law.nd rfl (Or.inl rfl) (pe_cal c_l_deep (hr.mono (by omega)) (by rfl) (pa_cons (pv 1) (pa_cons (pv 3) (pa_cons (pe_cal c_l_draw (hr.mono (by omega)) (by rfl) (pa_cons (pv 1) (pa_cons pe_int pa_nil))) pa_nil))))) (pss_cons (ps_set (i := 7) sc_law.nd rfl (Or.inl rfl) (pe_cal c_value (hr.mono (by omega)) (by rfl) (pa_cons (pv 6) (pa_cons (pv 2) pa_nil)))) (pss_cons (ps_set (i := 8) sc_law.nd rfl (Or.inl rfl) (pe_cal c_l_value (hr.mono (by omega)) (by rfl) (pa_cons (pv 6) (pa_cons (pv 4) pa_nil)))) (pss_cons (ps_if (PW.pt (pw_or (pt_val (pe_callB call_isiA (by rfl) T.b_isinstance (by decide +kernel) (pa_cons (pv 7) (pa_cons (pe_bltn (v := .ty "bool") (by rfl) T.b_bool (by decide +kernel) rfl) pa_nil)))) (pw_or (pt_cmpR (op_neA hr.units) (pv 7) (pv 8) (nomark _)) (pw_or1 (pt_cmpR (op_neA hr.units) (pe_cmpR op_isNA (pv 7) pe_non (nomark _)) (pe_cmpR op_isNA (pv 8) pe_non (nomark _)) (nomark _)))))) (pss_one (ps_ret pe_bl)) pss_nil) (pss_cons (ps_set (i := 9) sc_law.nd rfl (Or.inl rfl) (pe_cal c_l_target (hr.mono (by omega)) (by rfl) (pa_cons (pv 1) (pa_cons (pv 3) pa_nil)))) (pss_cons (ps_set (i := 7) sc_law.nd rfl (Or.inl rfl) (pe_cal c_place (hr.mono (by omega)) (by rfl) (pa_cons (pv 9) (pa_cons (pv 2) pa_nil)))) (pss_cons (ps_if (PW.pt (pw_or (pt_val (pe_callB call_isiA (by rfl) T.b_isinstance (by decide +kernel) (pa_cons (pv 7) (pa_cons (pe_bltn (v := .ty "bool") (by rfl) T.b_bool (by decide +kernel) rfl) pa_nil)))) (pw_or1 (pt_cmpR (op_neA hr.units) (pv 7) (pe_cal c_l_where (hr.mono (by omega)) (by rfl) (pa_cons (pv 9) (pa_cons (pv 4) pa_nil))) (nomark _))))) (pss_one (ps_ret pe_bl)) pss_nil) (pss_one (ps_if (pt_cmpR op_notNA (pv 7) pe_non (nomark _)) (pss_cons (ps_asg (pe_cal c_l_draw (hr.mono (by omega)) (by rfl) (pa_cons (pv 1) (pa_cons pe_int pa_nil))) (pg_sub (pv 2) (pv 7) set_A)) (pss_one (ps_set (i := 4) sc_law.nd rfl (Or.inl rfl) (pe_callTy call_listA (by rfl) T.b_list (by decide +kernel) (pa_cons (pv 2) pa_nil))))) pss_nil)))))))))) (pss_one (ps_ret (pe_cmpR (op_eqA hr.units) (pv 2) (pv 4) (nomark _)))))))))
end
end K10
set_option Elab.async false
set_option linter.all false
set_option maxRecDepth 100000
set_option maxHeartbeats 4000000
namespace K10
open PySem PySem.Spec PyProof.Rows L2 Lb
def d_calculate : He.DefD := ⟨("calculate", none), "calculate", "calculate", defArgs s_calculate, defBody s_calculate, defScope s_calculate, [], []⟩
def d_place : He.DefD := ⟨("place", none), "place", "place", defArgs s_place, defBody s_place, defScope s_place, [], []⟩
def d_value : He.DefD := ⟨("value", none), "value", "value", defArgs s_value, defBody s_value, defScope s_value, [], []⟩
def d_l_state : He.DefD := ⟨("_law_state", none), "_law_state", "_law_state", defArgs s_l_state, defBody s_l_state, defScope s_l_state, [], []⟩
def d_l_draw : He.DefD := ⟨("_law_draw", none), "_law_draw", "_law_draw", defArgs s_l_draw, defBody s_l_draw, defScope s_l_draw, [], []⟩
def d_l_pick : He.DefD := ⟨("_law_pick", none), "_law_pick", "_law_pick", defArgs s_l_pick, defBody s_l_pick, defScope s_l_pick, [], []⟩
def d_l_number : He.DefD := ⟨("_law_number", none), "_law_number", "_law_number", defArgs s_l_number, defBody s_l_number, defScope s_l_number, [], []⟩
def d_l_operator : He.DefD := ⟨("_law_operator", none), "_law_operator", "_law_operator", defArgs s_l_operator, defBody s_l_operator, defScope s_l_operator, [], []⟩
def d_l_index : He.DefD := ⟨("_law_index", none), "_law_index", "_law_index", defArgs s_l_index, defBody s_l_index, defScope s_l_index, [], []⟩
def d_l_read : He.DefD := ⟨("_law_read", none), "_law_read", "_law_read", defArgs s_l_read, defBody s_l_read, defScope s_l_read, [], []⟩
def d_l_expression : He.DefD := ⟨("_law_expression", none), "_law_expression", "_law_expression", defArgs s_l_expression, defBody s_l_expression, defScope s_l_expression, [], []⟩
def d_l_target : He.DefD := ⟨("_law_target", none), "_law_target", "_law_target", defArgs s_l_target, defBody s_l_target, defScope s_l_target, [], []⟩
def d_l_binary : He.DefD := ⟨("_law_binary", none), "_law_binary", "_law_binary", defArgs s_l_binary, defBody s_l_binary, defScope s_l_binary, [], []⟩
def d_l_value : He.DefD := ⟨("_law_value", none), "_law_value", "_law_value", defArgs s_l_value, defBody s_l_value, defScope s_l_value, [], []⟩
def d_l_where : He.DefD := ⟨("_law_where", none), "_law_where", "_law_where", defArgs s_l_where, defBody s_l_where, defScope s_l_where, [], []⟩
def d_l_deep : He.DefD := ⟨("_law_deep", none), "_law_deep", "_law_deep", defArgs s_l_deep, defBody s_l_deep, defScope s_l_deep, [], []⟩
def d_law : He.DefD := ⟨("law", none), "law", "law", defArgs s_law, defBody s_law, defScope s_law, [], []⟩
def fn : List He.DefD := [d_calculate, d_place, d_value, d_l_state, d_l_draw, d_l_pick, d_l_number, d_l_operator, d_l_index, d_l_read, d_l_expression, d_l_target, d_l_binary, d_l_value, d_l_where, d_l_deep, d_law]
def fa : List He.Fa := [.free "abs", .free "bool", .free "int", .free "isinstance", .free "len", .free "list", .free "range", .int "WORDS" 65536, .glo "calculate", .glo "place", .glo "value", .glo "_law_state", .glo "_law_draw", .glo "_law_pick", .glo "_law_number", .glo "_law_operator", .glo "_law_index", .glo "_law_read", .glo "_law_expression", .glo "_law_target", .glo "_law_binary", .glo "_law_value", .glo "_law_where", .glo "_law_deep", .glo "law"]
def lo : List Str := ["WORDS", "calculate", "place", "value", "_law_state", "_law_draw", "_law_pick", "_law_number", "_law_operator", "_law_index", "_law_read", "_law_expression", "_law_target", "_law_binary", "_law_value", "_law_where", "_law_deep"]
abbrev RW : PySem.W.OpenLaw := PySem.Challenge.rw_placedanyhow_k10_values_of_expressions
abbrev RR : PySem.W.OpenRow := PySem.W.OpenLaw.row RW
abbrev hk : PySem.W.Hook := He.hookD 4 fa fn
def ob (s : PySem.W.SharedT) : He.AlD := He.obsDG 4 fa fn (HandSHeadRun.getT s)
theorem ob_eq (s : PySem.W.SharedT) : ob s = hk.obs s.abs := He.obsDG_eq (HandSHeadRun.getT_eq s)
theorem run (w : World) : HandSHeadRun.RunEq RR (PySem.W.view RR.prog [19]) hk ob 4000 lo w := by
  intro os
  kernel_rfl
theorem tx {K : PySem.W.Frag} {h : Heap} {mg : Str → Option Value} (X : K.In h) (G : h.Ns mainGlobals mg) (c : He.SaysD fa fn K) : Tx K mg ⟨K⟩ :=
  ⟨rfl, He.free_ok X G (c.fact 0 rfl), He.free_ok X G (c.fact 1 rfl), He.free_ok X G (c.fact 2 rfl), He.free_ok X G (c.fact 3 rfl), He.free_ok X G (c.fact 4 rfl), He.free_ok X G (c.fact 5 rfl), He.free_ok X G (c.fact 6 rfl), gv_int X G (c.fact 7 rfl)⟩
set_option maxHeartbeats 16000000 in
theorem facts {P : Program} {w : World} {K : PySem.W.Frag} {h : Heap} {mg : Str → Option Value} {f : Addr} (X : K.In h) (G : h.Ns mainGlobals mg) (hfa : mg ("law" : Str) = some (.ref f)) (c : He.SaysD fa fn K) :
    ∃ fd : FuncData, (∀ (s : Shared) (v : Value), BindsTo s fd ⟨[v], []⟩ [("_law_script", v)]) ∧ ∀ base : Heap, K.In base → base.Ns mainGlobals mg → FnOk P w K mg base CX0 (30) f fd ["_law_script"] (sp_law K) := by
  obtain ⟨fd_calculate, F_calculate⟩ := c.def_ 0 (d := d_calculate) rfl
  have b_calculate : Binds K fd_calculate ["operator", "a", "b"] [] := F_calculate.bindsN fun _ _ _ _ _ _ us hl => match us, hl with | [_, _, _], _ => rfl
  have g_calculate := He.glo_ok X G (c.fact 8 (f := .glo "calculate") rfl)
  obtain ⟨fd_place, F_place⟩ := c.def_ 1 (d := d_place) rfl
  have b_place : Binds K fd_place ["target", "cells"] [] := F_place.bindsN fun _ _ _ _ _ _ us hl => match us, hl with | [_, _], _ => rfl
  have g_place := He.glo_ok X G (c.fact 9 (f := .glo "place") rfl)
  obtain ⟨fd_value, F_value⟩ := c.def_ 2 (d := d_value) rfl
  have b_value : Binds K fd_value ["e", "cells"] [] := F_value.bindsN fun _ _ _ _ _ _ us hl => match us, hl with | [_, _], _ => rfl
  have g_value := He.glo_ok X G (c.fact 10 (f := .glo "value") rfl)
  obtain ⟨fd_l_state, F_l_state⟩ := c.def_ 3 (d := d_l_state) rfl
  have b_l_state : Binds K fd_l_state ["_law_script"] [] := F_l_state.bindsN fun _ _ _ _ _ _ us hl => match us, hl with | [_], _ => rfl
  have g_l_state := He.glo_ok X G (c.fact 11 (f := .glo "_law_state") rfl)
  obtain ⟨fd_l_draw, F_l_draw⟩ := c.def_ 4 (d := d_l_draw) rfl
  have b_l_draw : Binds K fd_l_draw ["_law_state_here", "_law_many"] [] := F_l_draw.bindsN fun _ _ _ _ _ _ us hl => match us, hl with | [_, _], _ => rfl
  have g_l_draw := He.glo_ok X G (c.fact 12 (f := .glo "_law_draw") rfl)
  obtain ⟨fd_l_pick, F_l_pick⟩ := c.def_ 5 (d := d_l_pick) rfl
  have b_l_pick : Binds K fd_l_pick ["_law_state_here", "_law_row"] [] := F_l_pick.bindsN fun _ _ _ _ _ _ us hl => match us, hl with | [_, _], _ => rfl
  have g_l_pick := He.glo_ok X G (c.fact 13 (f := .glo "_law_pick") rfl)
  obtain ⟨fd_l_number, F_l_number⟩ := c.def_ 6 (d := d_l_number) rfl
  have b_l_number : Binds K fd_l_number ["_law_state_here"] [] := F_l_number.bindsN fun _ _ _ _ _ _ us hl => match us, hl with | [_], _ => rfl
  have g_l_number := He.glo_ok X G (c.fact 14 (f := .glo "_law_number") rfl)
  obtain ⟨fd_l_operator, F_l_operator⟩ := c.def_ 7 (d := d_l_operator) rfl
  have b_l_operator : Binds K fd_l_operator ["_law_state_here"] [] := F_l_operator.bindsN fun _ _ _ _ _ _ us hl => match us, hl with | [_], _ => rfl
  have g_l_operator := He.glo_ok X G (c.fact 15 (f := .glo "_law_operator") rfl)
  obtain ⟨fd_l_index, F_l_index⟩ := c.def_ 8 (d := d_l_index) rfl
  have b_l_index : Binds K fd_l_index ["_law_state_here", "_law_env", "_law_size"] [] := F_l_index.bindsN fun _ _ _ _ _ _ us hl => match us, hl with | [_, _, _], _ => rfl
  have g_l_index := He.glo_ok X G (c.fact 16 (f := .glo "_law_index") rfl)
  obtain ⟨fd_l_read, F_l_read⟩ := c.def_ 9 (d := d_l_read) rfl
  have b_l_read : Binds K fd_l_read ["_law_state_here", "_law_env"] [] := F_l_read.bindsN fun _ _ _ _ _ _ us hl => match us, hl with | [_, _], _ => rfl
  have g_l_read := He.glo_ok X G (c.fact 17 (f := .glo "_law_read") rfl)
  obtain ⟨fd_l_expression, F_l_expression⟩ := c.def_ 10 (d := d_l_expression) rfl
  have b_l_expression : Binds K fd_l_expression ["_law_state_here", "_law_env", "_law_deep_here"] [] := F_l_expression.bindsN fun _ _ _ _ _ _ us hl => match us, hl with | [_, _, _], _ => rfl
  have g_l_expression := He.glo_ok X G (c.fact 18 (f := .glo "_law_expression") rfl)
  obtain ⟨fd_l_target, F_l_target⟩ := c.def_ 11 (d := d_l_target) rfl
  have b_l_target : Binds K fd_l_target ["_law_state_here", "_law_env"] [] := F_l_target.bindsN fun _ _ _ _ _ _ us hl => match us, hl with | [_, _], _ => rfl
  have g_l_target := He.glo_ok X G (c.fact 19 (f := .glo "_law_target") rfl)
  obtain ⟨fd_l_binary, F_l_binary⟩ := c.def_ 12 (d := d_l_binary) rfl
  have b_l_binary : Binds K fd_l_binary ["_law_sign", "_law_a", "_law_b"] [] := F_l_binary.bindsN fun _ _ _ _ _ _ us hl => match us, hl with | [_, _, _], _ => rfl
  have g_l_binary := He.glo_ok X G (c.fact 20 (f := .glo "_law_binary") rfl)
  obtain ⟨fd_l_value, F_l_value⟩ := c.def_ 13 (d := d_l_value) rfl
  have b_l_value : Binds K fd_l_value ["_law_e", "_law_cells"] [] := F_l_value.bindsN fun _ _ _ _ _ _ us hl => match us, hl with | [_, _], _ => rfl
  have g_l_value := He.glo_ok X G (c.fact 21 (f := .glo "_law_value") rfl)
  obtain ⟨fd_l_where, F_l_where⟩ := c.def_ 14 (d := d_l_where) rfl
  have b_l_where : Binds K fd_l_where ["_law_target_here", "_law_cells"] [] := F_l_where.bindsN fun _ _ _ _ _ _ us hl => match us, hl with | [_, _], _ => rfl
  have g_l_where := He.glo_ok X G (c.fact 22 (f := .glo "_law_where") rfl)
  obtain ⟨fd_l_deep, F_l_deep⟩ := c.def_ 15 (d := d_l_deep) rfl
  have b_l_deep : Binds K fd_l_deep ["_law_state_here", "_law_env", "_law_deep_here"] [] := F_l_deep.bindsN fun _ _ _ _ _ _ us hl => match us, hl with | [_, _, _], _ => rfl
  have g_l_deep := He.glo_ok X G (c.fact 23 (f := .glo "_law_deep") rfl)
  obtain ⟨fd_law, F_law⟩ := c.def_ 16 (d := d_law) rfl
  have e := hfa.symm.trans (He.glo_ok X G (c.fact 24 (f := .glo "law") rfl))
  cases e
  have b := FunD.bindsA (ps := ["_law_script"]) F_law fun _ _ _ _ _ _ us hl => match us, hl with | [_], _ => rfl
  have T := tx X G c
  refine ⟨fd_law, fun s v => b s [v] rfl, fun base _ _ => ?_⟩
  have C_calculate : Cal P w K mg base "calculate" (1) ["operator", "a", "b"] sp_calc := mkCal F_calculate g_calculate b_calculate (ok_calculate T F_calculate)
  have C_vp : ∀ n : Nat, Cal P w K mg base "value" (2 * n + 2) ["e", "cells"] (sp_value n) ∧ Cal P w K mg base "place" (2 * n + 1) ["target", "cells"] (sp_place n) := by
    have A0 : ∀ n : Nat, Cal P w K mg base "value" (2 * n) ["e", "cells"] (sp_valueP n) := by
      intro n
      induction n with
      | zero => exact mkCal F_value g_value b_value okF
      | succ n ih => exact mkCal F_value g_value b_value (ok_value T n F_value (mkCal F_place g_place b_place (ok_place T n F_place ih)) ih C_calculate)
    exact fun n => ⟨A0 (n + 1), mkCal F_place g_place b_place (ok_place T n F_place (A0 n))⟩
  have C_l_state : Cal P w K mg base "_law_state" (1) ["_law_script"] (spState K) := mkCal F_l_state g_l_state b_l_state (ok_l_state T F_l_state)
  have C_l_draw : Cal P w K mg base "_law_draw" (1) ["_law_state_here", "_law_many"] spDraw := mkCal F_l_draw g_l_draw b_l_draw (ok_l_draw T F_l_draw)
  have C_l_pick : Cal P w K mg base "_law_pick" (2) ["_law_state_here", "_law_row"] spPick := mkCal F_l_pick g_l_pick b_l_pick (ok_l_pick T F_l_pick C_l_draw)
  have C_l_number : Cal P w K mg base "_law_number" (3) ["_law_state_here"] sp_number := mkCal F_l_number g_l_number b_l_number (ok_l_number T F_l_number C_l_pick C_l_draw)
  have C_l_operator : Cal P w K mg base "_law_operator" (3) ["_law_state_here"] sp_oper := mkCal F_l_operator g_l_operator b_l_operator (ok_l_operator T F_l_operator C_l_pick)
  have C_l_index : Cal P w K mg base "_law_index" (3) ["_law_state_here", "_law_env", "_law_size"] sp_index := mkCal F_l_index g_l_index b_l_index (ok_l_index T F_l_index C_l_pick C_l_draw)
  have C_l_read : Cal P w K mg base "_law_read" (4) ["_law_state_here", "_law_env"] sp_read := mkCal F_l_read g_l_read b_l_read (ok_l_read T F_l_read C_l_draw C_l_pick C_l_index)
  have C_ex : ∀ n : Nat, Cal P w K mg base "_law_expression" (n + 4) ["_law_state_here", "_law_env", "_law_deep_here"] (sp_exprP n) := by
    intro n
    induction n with
    | zero => exact mkCal F_l_expression g_l_expression b_l_expression okF
    | succ n ih => exact mkCal F_l_expression g_l_expression b_l_expression (ok_l_expression T n F_l_expression C_l_draw C_l_read C_l_number ih C_l_pick C_l_operator)
  have C_l_expression : Cal P w K mg base "_law_expression" 9 ["_law_state_here", "_law_env", "_law_deep_here"] sp_exprU := mkCal F_l_expression g_l_expression b_l_expression ⟨fun vs H Q E q => by
    obtain ⟨n, _, a, c, d, rfl, _⟩ := q
    rfl, fun A outer s H args us vs Q E hr he hb hv hs => by
    obtain ⟨n, hn, hs⟩ := hs
    exact ((ok_l_expression T n F_l_expression C_l_draw C_l_read C_l_number (C_ex n) C_l_pick C_l_operator).mono (by omega)).run A outer s H args us vs Q E hr he hb hv hs⟩
  have C_l_target : Cal P w K mg base "_law_target" (4) ["_law_state_here", "_law_env"] sp_target := mkCal F_l_target g_l_target b_l_target (ok_l_target T F_l_target C_l_draw C_l_pick C_l_index)
  have C_l_binary : Cal P w K mg base "_law_binary" (1) ["_law_sign", "_law_a", "_law_b"] sp_calc := mkCal F_l_binary g_l_binary b_l_binary (ok_l_binary T F_l_binary)
  have C_lv : ∀ n : Nat, Cal P w K mg base "_law_value" (n + 1) ["_law_e", "_law_cells"] (sp_lvalP n) := by
    intro n
    induction n with
    | zero => exact mkCal F_l_value g_l_value b_l_value okF
    | succ n ih => exact mkCal F_l_value g_l_value b_l_value (ok_l_value T n F_l_value ih C_l_binary)
  have C_l_value : Cal P w K mg base "_law_value" 12 ["_law_e", "_law_cells"] sp_lvalU := ((C_lv 8).up (by decide)).weak fun _ _ _ _ h => h
  have C_l_where : Cal P w K mg base "_law_where" (13) ["_law_target_here", "_law_cells"] sp_where := mkCal F_l_where g_l_where b_l_where (ok_l_where T F_l_where C_l_value)
  have C_l_deep : Cal P w K mg base "_law_deep" (10) ["_law_state_here", "_law_env", "_law_deep_here"] sp_deep := mkCal F_l_deep g_l_deep b_l_deep (ok_l_deep T F_l_deep C_l_expression C_l_draw C_l_pick)
  exact (ok_law T F_law C_l_state C_l_pick C_l_draw C_l_deep (((C_vp 7).1.up (by decide)).weak fun _ _ _ _ h => h) C_l_value C_l_target (((C_vp 2).2.up (by decide)).weak fun _ _ _ _ h => h) C_l_where)
end K10
open PySem PySem.W PySem.Calls PyProof.Rows
theorem PySem.Challenge.cw_placedanyhow_k10_values_of_expressions_holds : PySem.Challenge.rw_placedanyhow_k10_values_of_expressions.Holds := by
  w_on; o_law
  refine HandSHeadRun.head_any (r := OpenLaw.row PySem.Challenge.rw_placedanyhow_k10_values_of_expressions) (q := view (OpenLaw.row PySem.Challenge.rw_placedanyhow_k10_values_of_expressions).prog [19]) (H := K10.hk) (ob := K10.ob) (M := 4000) (loose := K10.lo) (d := HandSHeadRun.topDef (OpenLaw.row PySem.Challenge.rw_placedanyhow_k10_values_of_expressions).prog 19) (kwd := []) K10.ob_eq
    (by kernel_rfl) (fun s => by kernel_rfl) K10.run (by kernel_rfl) (by kernel_rfl) (by kernel_rfl) (by rfl) (by first | assumption | decide +kernel) (by decide +kernel) ⟨rfl, rfl, rfl, rfl, rfl, by decide +kernel⟩ ?hw ?hc
  case hw => w_witness2
  case hc =>
    refine L2.walk_ofE (l := PySem.Challenge.rw_placedanyhow_k10_values_of_expressions) (n := 63) (k := 30) (x := "_law_script") (CX := L2.CX0) rfl (by decide) (by kernel_rfl) ⟨rfl, by decide, by decide⟩ ?F (fun _ _ _ _ z => z)
    intro w mg fa h Y G hmg0
    obtain ⟨K, KX, c⟩ := Y
    have hmg : mg ("law" : PySem.Str) = some (.ref fa) := by
      have e : (HandSHeadRun.topDef (OpenLaw.row PySem.Challenge.rw_placedanyhow_k10_values_of_expressions).prog 19).name = ("law" : PySem.Str) := by kernel_rfl
      rw [← e]
      exact hmg0
    obtain ⟨fd, hb, hF⟩ := K10.facts (P := (PySem.Challenge.rw_placedanyhow_k10_values_of_expressions).prog) (w := w) KX G hmg c
    exact ⟨K, fd, K10.sp_law K, KX, hb, fun H a ns hl _ hS => ⟨a, ns, rfl, hS, hl, fun _ => rfl⟩, hF⟩

