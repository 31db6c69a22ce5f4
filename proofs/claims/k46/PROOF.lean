import PyProof.Rows.All
import Wide.All
import OpenK.AllK
import Wide.FinOn
import HandS.ForMost
import HandS.IsInst
import HandS.Defaults
import HandS.More
import HandS.Head0
import HandS.Head1
import HandS.Head2
import HandS.HeadEnd
import HandS.HeadHook1
import HandS.HeadHook2
import HandS.HeadHook3
import HandS.HeadHook4
import PySem.Challenge.RW_placedanyhow_k46_homes_of_channels
set_option Elab.async false
set_option linter.all false
set_option maxRecDepth 100000
set_option maxHeartbeats 4000000
/-! Lb: readings that compute, callables by name, data in the heap, the drawing of numbers. Knows no program. -/
namespace Lb
open PySem PySem.Spec PyProof.Rows L2

/-! ### weaker readings -/
section
variable {X : Cx} {e : Expr} {st : Stmt}
theorem pe_imp {t u : TE} (h : PE X e t) (k : ∀ σ H Q, u σ H Q → t σ H Q) : PE X e u := ⟨fun pins s σ H Q I hw => h.run pins s σ H Q I (k σ H Q hw)⟩
theorem pt_imp {t u : TT} (h : PT X e t) (k : ∀ σ H Q, u σ H Q → t σ H Q) : PT X e u := ⟨fun pins s σ H Q I hw => h.run pins s σ H Q I (k σ H Q hw)⟩
theorem ps_imp {t u : TS} (h : PS X st t) (k : ∀ D σ H, u D σ H → t D σ H) : PS X st u := ⟨fun pins s σ H D I hw => h.run pins s σ H D I (k D σ H hw)⟩
end

/-- a reading, made monotone -/
def upE (t : TE) : TE := fun σ H Q => ∃ R : VK, t σ H R ∧ ∀ x H', R x H' → Q x H'
def upT (t : TT) : TT := fun σ H Q => ∃ R : Bool → Hp → Prop, t σ H R ∧ ∀ x H', R x H' → Q x H'
theorem pe_up {X : Cx} {e : Expr} {t : TE} (h : PE X e t) : PE X e (upE t) := ⟨fun pins s σ H Q I ⟨R, h1, h2⟩ => thn (h.run pins s σ H R I h1) fun _ _ ⟨v, H', I', r, q⟩ => ⟨v, H', I', r, h2 v H' q⟩⟩
theorem pt_up {X : Cx} {e : Expr} {t : TT} (h : PT X e t) : PT X e (upT t) := ⟨fun pins s σ H Q I ⟨R, h1, h2⟩ => thn (h.run pins s σ H R I h1) fun _ _ ⟨H', I', q⟩ => ⟨H', I', h2 _ H' q⟩⟩

/-! ### callables: a def, a method, a class, each with its promise -/
structure Cal (P : Program) (w : World) (K : PySem.W.Frag) (mg : Str → Option Value) (base : Heap) (x : Str) (k : Nat) (ps : List Str) (sp : Sp) : Prop where
  ex : ∃ (f : Addr) (fd : FuncData), mg x = some (.ref f) ∧ PySem.W.keepIn K (.ref f) = true ∧ Binds K fd ps [] ∧ FnOk P w K mg base CX0 k f fd ps sp
structure CalM (P : Program) (w : World) (K : PySem.W.Frag) (mg : Str → Option Value) (base : Heap) (C : Addr) (m : Str) (k : Nat) (ps : List Str) (sp : Sp) : Prop where
  ex : ∃ (f : Addr) (fd : FuncData), Cls K C ∧ Meth K C m f ∧ Binds K fd ps [] ∧ FnOk P w K mg base CX0 k f fd ps sp
structure CalC (P : Program) (w : World) (K : PySem.W.Frag) (mg : Str → Option Value) (base : Heap) (x : Str) (C : Addr) (k : Nat) (ps : List Str) (sp : Sp) : Prop where
  ex : ∃ (f : Addr) (fd : FuncData), mg x = some (.ref C) ∧ Mk K C f ∧ Binds K fd ps [] ∧ FnOk P w K mg base CX0 k f fd ps sp
/-- a name of the module that holds a known value -/
structure GV (mg : Str → Option Value) (x : Str) (v : V) : Prop where
  ex : ∃ u, mg x = some u ∧ RelV v u
section
variable {X : Cx} {x m : Str} {C : Addr} {p pos apos : Pos} {o e : Expr} {es : List Expr} {ta : TE} {t : TA} {k : Nat} {ps : List Str} {sp : Sp} {v : V}
theorem pe_gv (c : GV X.mg x v) (hg : Gl X x) (hd : (x == ("__debug__" : Str)) = false := by decide) : PE X (.Name x pos) (tC v) := by
  obtain ⟨u, hm, r⟩ := c.ex
  exact pe_glob hg hm r hd
theorem pe_cal (c : Cal X.prog X.w X.K X.mg X.base x k ps sp) (hr : Room k X.A) (hg : Gl X x) (ha : PA X (e :: es) t) (hdb : (x == ("__debug__" : Str)) = false := by decide)
    (he : starEach (e :: es) X.env = (false, eval e X.env) :: starEach es X.env := by rfl) (hpl : (backTo pos (starEach es X.env)).any (·.1) = false := by rfl) : PE X (.Call (.Name x p) (e :: es) [] pos) (tCall sp [] E0 t) := by
  obtain ⟨f, fd, hm, hk, hb, F⟩ := c.ex
  exact pe_call F hr hg hm hk hb .nil pass0 ha hdb he hpl
theorem pe_cal0 (c : Cal X.prog X.w X.K X.mg X.base x k ps sp) (hr : Room k X.A) (hg : Gl X x) (hdb : (x == ("__debug__" : Str)) = false := by decide) : PE X (.Call (.Name x p) [] [] pos) (tCall sp [] E0 tNil) := by
  obtain ⟨f, fd, hm, hk, hb, F⟩ := c.ex
  exact pe_call0 F hr hg hm hk hb .nil pass0 hdb
theorem pe_calM {pl : Sem Bool} (he : PE X o ta) (c : CalM X.prog X.w X.K X.mg X.base C m k ps sp) (hr : Room k X.A) (ha : PA X (e :: es) t)
    (hst : starEach (e :: es) X.env = (false, eval e X.env) :: starEach es X.env := by rfl) (hpl : (backTo pos (starEach es X.env)).any (·.1) = false := by rfl)
    (ht : eval (.Call (.Attribute o m apos) (e :: es) [] pos) X.env = (do
      let ov ← eval o X.env
      standAt apos.atName
      let (f, first) ← holding [ov] (getMethod ov m pl)
      callWith pos f first (backTo pos (starEach (e :: es) X.env)) (backToKw pos (keywordEach [] X.env))) := by rfl) : PE X (.Call (.Attribute o m apos) (e :: es) [] pos) (tMeth C m sp [] E0 ta t) := by
  obtain ⟨f, fd, hc, hm, hb, F⟩ := c.ex
  exact pe_meth he hc hm F hr hb .nil pass0 ha hst hpl ht
theorem pe_calM0 {pl : Sem Bool} (he : PE X o ta) (c : CalM X.prog X.w X.K X.mg X.base C m k ps sp) (hr : Room k X.A)
    (ht : eval (.Call (.Attribute o m apos) [] [] pos) X.env = (do
      let ov ← eval o X.env
      standAt apos.atName
      let (f, first) ← holding [ov] (getMethod ov m pl)
      callWith pos f first (backTo pos (starEach [] X.env)) (backToKw pos (keywordEach [] X.env))) := by rfl) : PE X (.Call (.Attribute o m apos) [] [] pos) (tMeth C m sp [] E0 ta tNil) := by
  obtain ⟨f, fd, hc, hm, hb, F⟩ := c.ex
  exact pe_meth0 he hc hm F hr hb .nil pass0 ht
theorem pe_calC (c : CalC X.prog X.w X.K X.mg X.base x C k ps sp) (hr : Room (k + 1) X.A) (hg : Gl X x) (ha : PA X (e :: es) t) (hdb : (x == ("__debug__" : Str)) = false := by decide)
    (he : starEach (e :: es) X.env = (false, eval e X.env) :: starEach es X.env := by rfl) (hpl : (backTo pos (starEach es X.env)).any (·.1) = false := by rfl) : PE X (.Call (.Name x p) (e :: es) [] pos) (tMake C sp [] E0 t) := by
  obtain ⟨f, fd, hm, M, hb, F⟩ := c.ex
  exact pe_make M F hr hg hm hb .nil pass0 ha hdb he hpl
theorem pe_calC0 (c : CalC X.prog X.w X.K X.mg X.base x C k ps sp) (hr : Room (k + 1) X.A) (hg : Gl X x) (hdb : (x == ("__debug__" : Str)) = false := by decide) : PE X (.Call (.Name x p) [] [] pos) (tMake C sp [] E0 tNil) := by
  obtain ⟨f, fd, hm, M, hb, F⟩ := c.ex
  exact pe_make0 M F hr hg hm hb .nil pass0 hdb
end

/-! ### readings that compute -/
def rAddA : R2 := fun x y H Q => match x, y with
  | .int a, .int b => Q (.int (a + b)) H
  | .str a, .str b => a.length + b.length ≤ sizeLine ∧ Q (.str (a ++ b)) H
  | .ref p, .ref q => (match H p, H q with
    | some (.lst xs), some (.lst ys) => xs.length + ys.length ≤ sizeLine ∧ ∀ r, H r = none → Q (.ref r) (upd H r (.lst (xs ++ ys)))
    | _, _ => False)
  | _, _ => False
def rMulA : R2 := fun x y H Q => match x, y with
  | .int a, .int b => CMul a b ∧ Q (.int (a * b)) H
  | .ref p, .int k => (match H p with
    | some (.lst xs) => -(2 ^ 63) ≤ k ∧ k < 2 ^ 63 ∧ xs.length * k.toNat ≤ sizeLine ∧ ∀ r, H r = none → Q (.ref r) (upd H r (.lst (List.replicate k.toNat xs).flatten))
    | _ => False)
  | _, _ => False
def eqF : V → V → Option Bool
  | .int a, .int b => some (decide (a = b))
  | .str a, .str b => some (decide (a = b))
  | .bl a, .bl b => some (decide (a = b))
  | .non, .non => some true
  | .non, .int _ => some false
  | .int _, .non => some false
  | .non, .str _ => some false
  | .str _, .non => some false
  | .non, .bl _ => some false
  | .bl _, .non => some false
  | .int _, .str _ => some false
  | .str _, .int _ => some false
  | _, _ => none
def rEqA (K : PySem.W.Frag) : R2 := fun x y H Q => match eqF x y with
  | some b => Q (.bl b) H
  | none => rEqD K x y H Q
def rNeA (K : PySem.W.Frag) : R2 := fun x y H Q => match eqF x y with
  | some b => Q (.bl (!b)) H
  | none => rNeD K x y H Q
def rIsN : R2 := fun x y H Q => y = .non ∧ Q (.bl (decide (x = .non))) H
def rNotN : R2 := fun x y H Q => y = .non ∧ Q (.bl (!decide (x = .non))) H
/-- an item of a list, a tuple, a text -/
def rIxA : R2 := fun x y H Q => match x, y with
  | .ref p, .int i => (match H p with
    | some (.lst xs) => ∃ v, atI xs i = some v ∧ Q v H
    | some (.tup xs) => ∃ v, atI xs i = some v ∧ Q v H
    | _ => False)
  | .str z, .int i => z.length ≤ sizeLine ∧ ∃ c, atI z.cps.toList i = some c ∧ Q (.str ⟨#[c]⟩) H
  | _, _ => False
def rSlA : V → Option Int → Option Int → Hp → VK → Prop := fun x lo hi H Q => match x with
  | .ref p => (match H p with
    | some (.lst xs) => ∀ q, H q = none → Q (.ref q) (upd H q (.lst (cutV xs lo hi)))
    | some (.tup xs) => ¬ (HT.sIx xs.length 0 lo = 0 ∧ HT.sIx xs.length xs.length hi = xs.length) ∧ ∀ q, H q = none → Q (.ref q) (upd H q (.tup (cutV xs lo hi)))
    | _ => False)
  | _ => False
def rLenA : List V → Hp → VK → Prop := fun vs H Q => match vs with
  | [.str y] => y.length ≤ sizeLine ∧ Q (.int y.length) H
  | [.ref p] => (match H p with
    | some (.lst xs) => Q (.int xs.length) H
    | some (.tup xs) => Q (.int xs.length) H
    | some (.dK kvs) => Q (.int kvs.length) H
    | _ => False)
  | _ => False
def rIntA : List V → Hp → VK → Prop := fun vs H Q => match vs with
  | [.int i] => Q (.int i) H
  | [.bl k] => Q (.int (if k = true then 1 else 0)) H
  | _ => False
def rAbsA : List V → Hp → VK → Prop := fun vs H Q => match vs with
  | [.int i] => Q (.int (if i < 0 then -i else i)) H
  | _ => False
def rListA : List V → Hp → VK → Prop := fun vs H Q => match vs with
  | [.ref p] => (match H p with
    | some (.lst xs) => ∀ l, H l = none → Q (.ref l) (upd H l (.lst xs))
    | some (.tup xs) => ∀ l, H l = none → Q (.ref l) (upd H l (.lst xs))
    | _ => False)
  | _ => False
def rTupA : List V → Hp → VK → Prop := fun vs H Q => match vs with
  | [.ref p] => (match H p with
    | some (.lst xs) => ∀ l, H l = none → Q (.ref l) (upd H l (.tup xs))
    | some (.tup _) => Q (.ref p) H
    | _ => False)
  | _ => False
def tyN (x : V) (H : Hp) : Option String := match x with
  | .non => some "NoneType"
  | .bl _ => some "bool"
  | .int _ => some "int"
  | .str _ => some "str"
  | .ref p => (match H p with
    | some (.lst _) => some "list"
    | some (.tup _) => some "tuple"
    | some (.dK _) => some "dict"
    | some (.dT _) => some "dict"
    | _ => none)
  | _ => none
def rIsiA : List V → Hp → VK → Prop := fun vs H Q => match vs with
  | [x, .ty T] => (match tyN x H with
    | some t => ∃ b, kitB t T = some b ∧ Q (.bl b) H
    | none => False)
  | _ => False
def isL (x : V) (H : Hp) : Prop := match x with
  | .ref p => (match H p with
    | some (.lst _) => True
    | _ => False)
  | _ => False
/-- a method of a list -/
def tBML (r : V → List V → Hp → VK → Prop) (to : TE) (t : TA) : TE := fun σ H Q => to σ H fun x H1 => isL x H1 ∧ t σ H1 fun xs H2 => r x xs H2 Q
def rAppA : V → List V → Hp → VK → Prop := fun x vs H Q => match x, vs with
  | .ref l, [y] => (match H l with
    | some (.lst xs) => xs.length < sizeLine ∧ Q .non (upd H l (.lst (xs ++ [y])))
    | _ => False)
  | _, _ => False
def rExtA : V → List V → Hp → VK → Prop := fun x vs H Q => match x, vs with
  | .ref l, [.ref q] => (match H l, H q with
    | some (.lst xs), some (.lst ys) => xs.length + ys.length ≤ sizeLine ∧ Q .non (upd H l (.lst (xs ++ ys)))
    | _, _ => False)
  | _, _ => False
def rPopL : V → List V → Hp → VK → Prop := fun x vs H Q => match x, vs with
  | .ref l, [] => (match H l with
    | some (.lst xs) => ∃ y, xs[xs.length - 1]? = some y ∧ Q y (upd H l (.lst xs.dropLast))
    | _ => False)
  | _, _ => False
def rPopI : V → List V → Hp → VK → Prop := fun x vs H Q => match x, vs with
  | .ref l, [.int i] => (match H l with
    | some (.lst xs) => ∃ (k : Nat) (y : V), i = (k : Int) ∧ k < 2 ^ 62 ∧ xs[k]? = some y ∧ Q y (upd H l (.lst (xs.eraseIdx k)))
    | _ => False)
  | _, _ => False
def rSetA : TSet := fun o i v H Q => match o, i with
  | .ref p, .int k => (match H p with
    | some (.lst xs) => ∃ j, ixN xs.length k = some j ∧ Q (upd H p (.lst (xs.set j v)))
    | _ => False)
  | _, _ => False
section
variable {X : Cx}
theorem op_addA : OpR X (binaryOp .Add) rAddA := by
  intro pins s σ H x y v u Q I rx ry h
  unfold rAddA at h
  split at h
  · exact op_add pins s σ H _ _ v u Q I rx ry ⟨_, _, rfl, rfl, h⟩
  · exact op_add_str pins s σ H _ _ v u Q I rx ry ⟨_, _, rfl, rfl, h⟩
  · split at h
    · rename_i h1 h2
      exact op_cat pins s σ H _ _ v u Q I rx ry ⟨_, _, _, _, rfl, rfl, h1, h2, h⟩
    · exact h.elim
  · exact h.elim
theorem op_mulA : OpR X (binaryOp .Mult) rMulA := by
  intro pins s σ H x y v u Q I rx ry h
  unfold rMulA at h
  split at h
  · exact op_mul pins s σ H _ _ v u Q I rx ry ⟨_, _, rfl, rfl, h⟩
  · split at h
    · rename_i h1
      exact op_rep pins s σ H _ _ v u Q I rx ry ⟨_, _, _, rfl, rfl, h1, h⟩
    · exact h.elim
  · exact h.elim
theorem eqF_ok {x y : V} {b : Bool} (h : eqF x y = some b) : scal x y = true ∧ decide (x = y) = b := by
  cases x <;> cases y <;> simp only [eqF, Option.some.injEq, reduceCtorEq] at h <;> (subst h; refine ⟨rfl, ?_⟩; simp)
theorem op_eqA (hu : X.A.units + 64 < cLine) : OpR X (compareOp .Eq) (rEqA X.K) := by
  intro pins s σ H x y v u Q I rx ry h
  unfold rEqA at h
  split at h
  · rename_i b e
    obtain ⟨h1, h2⟩ := eqF_ok e
    exact op_eq pins s σ H x y v u Q I rx ry ⟨h1, by rw [h2]; exact h⟩
  · exact op_eqD hu pins s σ H x y v u Q I rx ry h
theorem op_neA (hu : X.A.units + 64 < cLine) : OpR X (compareOp .NotEq) (rNeA X.K) := by
  intro pins s σ H x y v u Q I rx ry h
  unfold rNeA at h
  split at h
  · rename_i b e
    obtain ⟨h1, h2⟩ := eqF_ok e
    exact op_ne pins s σ H x y v u Q I rx ry ⟨h1, by rw [h2]; exact h⟩
  · exact op_neD hu pins s σ H x y v u Q I rx ry h
theorem op_isNA : OpR X (compareOp .Is) rIsN := op_isN
theorem op_notNA : OpR X (compareOp .IsNot) rNotN := op_notN
theorem ix_A : IxR X rIxA := by
  intro value slice pins s σ H x y v u Q I rx ry h hs
  unfold rIxA at h
  split at h
  · split at h
    · rename_i h1
      obtain ⟨w, h2, h3⟩ := h
      exact ix_list value slice pins s σ H _ _ v u Q I rx ry ⟨_, _, _, _, rfl, rfl, SqL.of h1, h2, h3⟩ hs
    · rename_i h1
      obtain ⟨w, h2, h3⟩ := h
      exact ix_tup value slice pins s σ H _ _ v u Q I rx ry ⟨_, _, _, _, rfl, rfl, SqT.of h1, h2, h3⟩ hs
    · exact h.elim
  · obtain ⟨h1, c, h2, h3⟩ := h
    exact ix_str value slice pins s σ H _ _ v u Q I rx ry ⟨_, _, _, rfl, rfl, h1, h2, h3⟩ hs
  · exact h.elim
theorem sl_A : SlR X rSlA := by
  intro pins s σ H x v vl vu lo hi sl Q I rx hs pl pu h
  unfold rSlA at h
  split at h
  · split at h
    · rename_i h1
      exact sl_list pins s σ H _ v vl vu lo hi sl Q I rx hs pl pu ⟨_, _, rfl, SqL.of h1, h⟩
    · rename_i h1
      exact sl_tup pins s σ H _ v vl vu lo hi sl Q I rx hs pl pu ⟨_, _, rfl, SqT.of h1, h⟩
    · exact h.elim
  · exact h.elim
theorem call_lenA : CallR X (.builtin "len") rLenA := by
  intro pins s σ H vs us Q I r h
  unfold rLenA at h
  split at h
  · exact call_len_str pins s σ H _ us Q I r ⟨_, rfl, h⟩
  · split at h
    · rename_i h1
      exact call_len_seq pins s σ H _ us Q I r ⟨_, _, rfl, .inl (SqL.of h1), h⟩
    · rename_i h1
      exact call_len_seq pins s σ H _ us Q I r ⟨_, _, rfl, .inr (SqT.of h1), h⟩
    · rename_i h1
      exact call_lenD pins s σ H _ us Q I r ⟨_, _, rfl, h1, h⟩
    · exact h.elim
  · exact h.elim
theorem call_intA : CallR X (.type "int") rIntA := by
  intro pins s σ H vs us Q I r h
  unfold rIntA at h
  split at h
  · exact call_int1 pins s σ H _ us Q I r (.inl ⟨_, rfl, h⟩)
  · exact call_int1 pins s σ H _ us Q I r (.inr ⟨_, rfl, h⟩)
  · exact h.elim
theorem call_absA : CallR X (.builtin "abs") rAbsA := by
  intro pins s σ H vs us Q I r h
  unfold rAbsA at h
  split at h
  · exact call_abs pins s σ H _ us Q I r ⟨_, rfl, h⟩
  · exact h.elim
theorem call_listA : CallR X (.type "list") rListA := by
  intro pins s σ H vs us Q I r h
  unfold rListA at h
  split at h
  · split at h
    · rename_i h1
      exact call_list_of pins s σ H _ us Q I r ⟨_, _, rfl, .inl (SqL.of h1), h⟩
    · rename_i h1
      exact call_list_of pins s σ H _ us Q I r ⟨_, _, rfl, .inr (SqT.of h1), h⟩
    · exact h.elim
  · exact h.elim
theorem call_tupA : CallR X (.type "tuple") rTupA := by
  intro pins s σ H vs us Q I r h
  unfold rTupA at h
  split at h
  · split at h
    · rename_i h1
      exact call_tuple_of pins s σ H _ us Q I r ⟨_, _, rfl, .inl ⟨SqL.of h1, h⟩⟩
    · rename_i h1
      exact call_tuple_of pins s σ H _ us Q I r ⟨_, _, rfl, .inr ⟨SqT.of h1, h⟩⟩
    · exact h.elim
  · exact h.elim
theorem tyN_ok {K : PySem.W.Frag} {x : V} {H : Hp} {t : String} (h : tyN x H = some t) : TyX K H x (.type t) := by
  unfold tyN at h
  split at h
  · cases h; exact .base .non
  · cases h; exact .base (.bl _)
  · cases h; exact .base (.int _)
  · cases h; exact .base (.str _)
  · split at h
    · rename_i h1; cases h; exact .base (.lst h1)
    · rename_i h1; cases h; exact .base (.tup h1)
    · rename_i h1; cases h; exact .base (.dK h1)
    · rename_i h1; cases h; exact .base (.dT h1)
    · cases h
  · cases h
theorem call_isiA : CallR X (.builtin "isinstance") rIsiA := by
  intro pins s σ H vs us Q I r h
  unfold rIsiA at h
  split at h
  · split at h
    · rename_i h1
      obtain ⟨b, h2, h3⟩ := h
      exact call_isi pins s σ H _ us Q I r ⟨_, _, _, _, b, rfl, .ty _, tyN_ok h1, kit_ty h2, h3⟩
    · exact h.elim
  · exact h.elim
theorem isL_ty {K : PySem.W.Frag} {x : V} {H : Hp} (h : isL x H) : tyV K "list" x H := by
  unfold isL at h
  split at h
  · split at h
    · rename_i h1
      exact .inl ⟨rfl, _, SqL.of h1⟩
    · exact h.elim
  · exact h.elim
theorem mt_appA : MtR X "list.append" rAppA := by
  intro pins s σ H x vs v us Q I rx rv h
  unfold rAppA at h
  split at h
  · split at h
    · rename_i h1
      exact mt_append pins s σ H _ _ v us Q I rx rv ⟨_, _, _, rfl, rfl, h1, h⟩
    · exact h.elim
  · exact h.elim
theorem mt_extA : MtR X "list.extend" rExtA := by
  intro pins s σ H x vs v us Q I rx rv h
  unfold rExtA at h
  split at h
  · split at h
    · rename_i h1 h2
      exact mt_extend pins s σ H _ _ v us Q I rx rv ⟨_, _, _, _, rfl, rfl, h1, h2, h⟩
    · exact h.elim
  · exact h.elim
theorem mt_popL : MtR X "list.pop" rPopL := by
  intro pins s σ H x vs v us Q I rx rv h
  unfold rPopL at h
  split at h
  · split at h
    · rename_i h1
      obtain ⟨y, h2, h3⟩ := h
      exact mt_pop pins s σ H _ _ v us Q I rx rv ⟨_, _, _, rfl, rfl, h1, h2, h3⟩
    · exact h.elim
  · exact h.elim
theorem seqIx_nat {n k : Nat} (h : k < n) : seqIndex? (k : Int) n = some k := by
  obtain ⟨h1, _⟩ := ixN_seq (n := n) (i := (k : Int)) (j := k) (by unfold ixN; rw [if_pos (by omega), if_pos (by omega)]; simp)
  exact h1
theorem mt_popI : MtR X "list.pop" rPopI := by
  intro pins s σ H x vs v us Q I rx rv h
  unfold rPopI at h
  split at h
  · split at h
    · rename_i h1
      obtain ⟨k, y, h2, h3, h4, h5⟩ := h
      have hk := (List.getElem?_eq_some_iff.mp h4).1
      subst h2
      exact mt_popAt pins s σ H _ _ v us Q I rx rv ⟨_, _, _, k, y, rfl, rfl, h1, by omega, by omega, seqIx_nat hk, h4, h5⟩
    · exact h.elim
  · exact h.elim
theorem set_A : PSet X rSetA := by
  intro pins s σ H o i v ov iv u Q I ro ri rv h
  unfold rSetA at h
  split at h
  · split at h
    · rename_i h1
      obtain ⟨j, h2, h3⟩ := h
      exact set_list pins s σ H _ _ v ov iv u Q I ro ri rv ⟨_, _, _, _, rfl, rfl, h1, h2, h3⟩
    · exact h.elim
  · exact h.elim
variable {o e : Expr} {es : List Expr} {to : TE} {t : TA} {name : Str} {apos cpos : Pos} {id : String} {r : V → List V → Hp → VK → Prop}
theorem pe_bml0 (slot : Slot "list" name id) (hty : typeOf (.builtin id) = pure (.type "method_descriptor")) (hm : MtR X id r) (ho : PE X o to)
    (hbase : attributeBase o name X.env (eval o X.env) = eval o X.env := by rfl) (hline : (apos.endLine == cpos.line) = true := by rfl) : PE X (.Call (.Attribute o name apos) [] [] cpos) (tBML r to tNil) :=
  pe_imp (pe_bm0 PySem.F.plainAttrs_list slot hty hm (pe_up ho) hbase hline) fun σ H Q h => ⟨_, h, fun x H' q => ⟨isL_ty q.1, q.2⟩⟩
theorem pe_bml (slot : Slot "list" name id) (hty : typeOf (.builtin id) = pure (.type "method_descriptor")) (hm : MtR X id r) (ho : PE X o to) (ha : PA X (e :: es) t)
    (hbase : attributeBase o name X.env (eval o X.env) = eval o X.env := by rfl)
    (hfew : ((backTo cpos (starEach (e :: es) X.env)).all (fun x => !x.1) && (backToKw cpos (keywordEach [] X.env)).all (fun x => x.1.isSome)
      && decide ((e :: es).length + ([] : List Keyword).length + (if ([] : List Keyword).isEmpty then 0 else 1) < 30)) = true := by rfl)
    (hline : (apos.endLine == cpos.line) = true := by rfl) (hs : starEach (e :: es) X.env = (false, eval e X.env) :: starEach es X.env := by rfl) (hplain : (backTo cpos (starEach es X.env)).any (·.1) = false := by rfl) :
    PE X (.Call (.Attribute o name apos) (e :: es) [] cpos) (tBML r to t) :=
  pe_imp (pe_bm PySem.F.plainAttrs_list slot hty hm (pe_up ho) ha hbase hfew hline hs hplain) fun σ H Q h => ⟨_, h, fun x H' q => ⟨isL_ty q.1, q.2⟩⟩
end
end Lb
set_option Elab.async false
set_option linter.all false
set_option maxRecDepth 100000
set_option maxHeartbeats 4000000
/-! Lc: what simp steps by, data in the heap, mutable places, the drawing of numbers. Knows no program. -/
namespace Lb
open PySem PySem.Spec PyProof.Rows L2

/-! ### steps of the readings, each at its arguments -/
section
variable {σ : L2.St} {H : Hp} {Q : VK} {D : Ends}
theorem ap_seq {t u : TS} : tSeq t u D σ H = t { D with nx := u D } σ H := rfl
theorem ap_asg {te : TE} {g : TG} : tAsg te g D σ H = te σ H fun x H1 => g x σ H1 D.nx := rfl
theorem ap_gname {i : Nat} {v : V} {R : L2.St → Hp → Prop} : gName i v σ H R = R (σ.set i (some v)) H := rfl
theorem ap_var {i : Nat} : tVar i σ H Q = ∃ v, σ[i]? = some (some v) ∧ Q v H := rfl
theorem ap_c {v : V} : tC v σ H Q = Q v H := rfl
theorem ap_op {r : R2} {ta tb : TE} : tOp r ta tb σ H Q = ta σ H fun x H1 => tb σ H1 fun y H2 => r x y H2 Q := rfl
theorem ap_un {r : V → Hp → VK → Prop} {ta : TE} : tUn r ta σ H Q = ta σ H fun x H1 => r x H1 Q := rfl
theorem ap_rU {g : Int → V} {i : Int} : rU g (.int i) H Q = Q (g i) H := by
  apply propext
  constructor
  · rintro ⟨j, e, q⟩
    cases e
    exact q
  · intro q
    exact ⟨_, rfl, q⟩
theorem ap_rI0 {g : Int → Int → V} {i j : Int} : rI0 g (.int i) (.int j) H Q = Q (g i j) H := by
  apply propext
  constructor
  · rintro ⟨a, b, e1, e2, q⟩
    cases e1
    cases e2
    exact q
  · intro q
    exact ⟨_, _, rfl, rfl, q⟩
theorem ap_rI {C : Int → Int → Prop} {g : Int → Int → V} {i j : Int} : rI C g (.int i) (.int j) H Q = (C i j ∧ Q (g i j) H) := by
  apply propext
  constructor
  · rintro ⟨a, b, e1, e2, q⟩
    cases e1
    cases e2
    exact q
  · intro q
    exact ⟨_, _, rfl, rfl, q⟩
theorem ap_ifS {c : TT} {t u : TS} : tIfS c t u D σ H = c σ H fun b H1 => if b = true then t D σ H1 else u D σ H1 := rfl
theorem ap_test {t : TE} {R : Bool → Hp → Prop} : tTest t σ H R = t σ H fun x H' => ∃ k, x = .bl k ∧ R k H' := rfl
theorem ap_B {t : TE} {R : Bool → Hp → Prop} : tB t σ H R = t σ H fun x H' => ∃ k, x = .bl k ∧ R k H' := rfl
theorem ap_bl {b : Bool} {R : Bool → Hp → Prop} : (∃ k, V.bl b = .bl k ∧ R k H) = R b H := by
  apply propext
  constructor
  · rintro ⟨k, e, q⟩
    cases e
    exact q
  · intro q
    exact ⟨_, rfl, q⟩
theorem ap_ret {te : TE} : tRet te D σ H = te σ H D.rt := rfl
theorem ap_retN : tRetN D σ H = D.rt .non H := rfl
theorem ap_drop {te : TE} : tDrop te D σ H = te σ H fun _ H1 => D.nx σ H1 := rfl
theorem ap_next : tNext D σ H = D.nx σ H := rfl
theorem ap_brk : tBreak D σ H = D.bk σ H := rfl
theorem ap_cnt : tCont D σ H = D.ct σ H := rfl
theorem ap_and {t u : TT} {R : Bool → Hp → Prop} : tAnd t u σ H R = t σ H fun c H1 => if c = true then u σ H1 R else R false H1 := rfl
theorem ap_or {t u : TT} {R : Bool → Hp → Prop} : tOr t u σ H R = t σ H fun c H1 => if c = true then R true H1 else u σ H1 R := rfl
theorem ap_not {t : TT} {R : Bool → Hp → Prop} : tNot t σ H R = t σ H fun c H1 => R (!c) H1 := rfl
theorem ap_andV {ta tb : TE} : tAndV ta tb σ H Q = ta σ H fun x H1 => ∃ c, x = .bl c ∧ if c = true then tb σ H1 Q else Q (.bl false) H1 := rfl
theorem ap_orV {ta tb : TE} : tOrV ta tb σ H Q = ta σ H fun x H1 => ∃ c, x = .bl c ∧ if c = true then Q (.bl true) H1 else tb σ H1 Q := rfl
theorem ap_notV {ta : TE} : tNotV ta σ H Q = ta σ H fun x H1 => ∃ c, x = .bl c ∧ Q (.bl (!c)) H1 := rfl
theorem ap_if {t : TT} {ta tb : TE} : tIf t ta tb σ H Q = t σ H fun c H1 => if c = true then ta σ H1 Q else tb σ H1 Q := rfl
theorem ap_call {sp : Sp} {dvs : List V} {E : XK} {t : TA} : tCall sp dvs E t σ H Q = t σ H fun vs H1 => sp (vs ++ dvs) H1 Q E := rfl
theorem ap_cb {r : List V → Hp → VK → Prop} {t : TA} : tCB r t σ H Q = t σ H fun vs H1 => r vs H1 Q := rfl
theorem ap_cons {ta : TE} {tr : TA} {R : List V → Hp → Prop} : tCons ta tr σ H R = ta σ H fun x H1 => tr σ H1 fun xs H2 => R (x :: xs) H2 := rfl
theorem ap_nil {R : List V → Hp → Prop} : tNil σ H R = R [] H := rfl
theorem ap_tup {t : TA} : tTup t σ H Q = t σ H fun xs H1 => xs.length ≤ sizeLine ∧ ∀ p, H1 p = none → Q (.ref p) (upd H1 p (.tup xs)) := rfl
theorem ap_lst {t : TA} : tLst t σ H Q = t σ H fun xs H1 => xs.length ≤ sizeLine ∧ ∀ p, H1 p = none → Q (.ref p) (upd H1 p (.lst xs)) := rfl
theorem ap_bml {r : V → List V → Hp → VK → Prop} {to : TE} {t : TA} : tBML r to t σ H Q = to σ H fun x H1 => isL x H1 ∧ t σ H1 fun xs H2 => r x xs H2 Q := rfl
theorem ap_gsub {to ti : TE} {t : TSet} {v : V} {R : L2.St → Hp → Prop} : gSub to ti t v σ H R = to σ H fun o H1 => ti σ H1 fun i H2 => t o i v H2 fun H3 => R σ H3 := rfl
theorem ap_sl {r : V → Option Int → Option Int → Hp → VK → Prop} {te : TE} {tl th : TO} : tSl r te tl th σ H Q = te σ H fun x H1 => tl σ H1 fun l H2 => th σ H2 fun u H3 => r x l u H3 Q := rfl
theorem ap_nop {R : Option Int → Hp → Prop} : tNoPart σ H R = R none H := rfl
theorem ap_part {t : TE} {R : Option Int → Hp → Prop} : tPart t σ H R = t σ H fun x H1 => ∃ i, x = .int i ∧ R (some i) H1 := rfl
theorem ap_prt {i : Int} {R : Option Int → Hp → Prop} : (∃ j, V.int i = .int j ∧ R (some j) H) = R (some i) H := by
  apply propext
  constructor
  · rintro ⟨k, e, q⟩
    cases e
    exact q
  · intro q
    exact ⟨_, rfl, q⟩
theorem ap_isN {x : V} : rIsN x .non H Q = Q (.bl (decide (x = .non))) H := by
  apply propext
  constructor
  · rintro ⟨_, q⟩
    exact q
  · intro q
    exact ⟨rfl, q⟩
theorem ap_notN {x : V} : rNotN x .non H Q = Q (.bl (!decide (x = .non))) H := by
  apply propext
  constructor
  · rintro ⟨_, q⟩
    exact q
  · intro q
    exact ⟨rfl, q⟩
theorem ap_yes {R : Bool → Hp → Prop} : tYes σ H R = R true H := rfl
theorem ap_rng1 {ta : TA} {R : It → Hp → Prop} : iRng1 ta σ H R = ta σ H fun vs H1 => ∃ j : Int, vs = [.int j] ∧ -(2 ^ 62) ≤ j ∧ j < 2 ^ 62 ∧ R (Itr 0 j.toNat) H1 := rfl
theorem ap_rng1' {j : Int} {R : It → Hp → Prop} : (∃ i : Int, [V.int j] = [.int i] ∧ -(2 ^ 62) ≤ i ∧ i < 2 ^ 62 ∧ R (Itr 0 i.toNat) H) = (-(2 ^ 62) ≤ j ∧ j < 2 ^ 62 ∧ R (Itr 0 j.toNat) H) := by
  apply propext
  constructor
  · rintro ⟨k, e, q⟩
    cases e
    exact q
  · intro q
    exact ⟨_, rfl, q⟩
theorem ite_tt {A B : Prop} : (if true = true then A else B) = A := if_pos rfl
theorem ite_ff {A B : Prop} : (if false = true then A else B) = B := if_neg Bool.false_ne_true
end

/-! ### heaps that grow -/
theorem Same.newp {H : Hp} {p : Addr} {o : HO} (h : H p = none) : Same H (upd H p o) := fun b u e => by
  rw [upd_ne (ne_of_none e h)]
  exact e
/-- the heap without the places of S -/
def hid (S : List Addr) (H : Hp) : Hp := fun b => if b ∈ S then none else H b
theorem hid_out {S : List Addr} {H : Hp} {b : Addr} (h : b ∉ S) : hid S H b = H b := if_neg h
theorem hid_in {S : List Addr} {H : Hp} {b : Addr} (h : b ∈ S) : hid S H b = none := if_pos h
theorem hid_sub {S : List Addr} {H : Hp} : Same (hid S H) H := fun b o e => by
  by_cases h : b ∈ S
  · rw [hid_in h] at e
    cases e
  · rw [hid_out h] at e
    exact e
theorem hid_some {S : List Addr} {H : Hp} {b : Addr} {o : HO} (h : hid S H b = some o) : H b = some o ∧ b ∉ S := by
  by_cases q : b ∈ S
  · rw [hid_in q] at h
    cases h
  · rw [hid_out q] at h
    exact ⟨h, q⟩
theorem hid_upd {S : List Addr} {H : Hp} {a : Addr} {o : HO} (h : a ∈ S) : hid S (upd H a o) = hid S H := by
  funext b
  by_cases q : b ∈ S
  · rw [hid_in q, hid_in q]
  · rw [hid_out q, hid_out q, upd_ne fun e => q (by rw [e]; exact h)]
theorem hid_updN {S : List Addr} {H : Hp} {a : Addr} {o : HO} (h : a ∉ S) : hid S (upd H a o) = upd (hid S H) a o := by
  funext b
  by_cases q : b ∈ S
  · rw [hid_in q, upd_ne (fun e => h (by rw [← e]; exact q)), hid_in q]
  · rw [hid_out q]
    by_cases e : b = a
    · rw [e, upd_same, upd_same]
    · rw [upd_ne e, upd_ne e, hid_out q]
theorem hid_eq {S : List Addr} {H H' : Hp} (h : ∀ b, b ∉ S → H' b = H b) : hid S H' = hid S H := by
  funext b
  by_cases q : b ∈ S
  · rw [hid_in q, hid_in q]
  · rw [hid_out q, hid_out q, h b q]
theorem hid_mono {S S' : List Addr} {H : Hp} (h : ∀ b, b ∈ S → b ∈ S') : Same (hid S' H) (hid S H) := fun b o e => by
  obtain ⟨e1, e2⟩ := hid_some e
  rw [hid_out fun q => e2 (h b q)]
  exact e1
theorem Same.hid {S : List Addr} {H H' : Hp} (h : Same H H') : Same (hid S H) (hid S H') := fun b o e => by
  obtain ⟨e1, e2⟩ := hid_some e
  rw [hid_out e2]
  exact h b o e1

/-! ### data -/
mutual
inductive Dt (H : Hp) : V → PyData → Prop
  | non : Dt H .non .none
  | bl (b : Bool) : Dt H (.bl b) (.bool b)
  | int (i : Int) : Dt H (.int i) (.int i)
  | str (x : Str) : Dt H (.str x) (.str x)
  | lst {a : Addr} {xs : List V} {ds : List PyData} : H a = some (.lst xs) → DtAll H xs ds → Dt H (.ref a) (.list ds)
  | tup {a : Addr} {xs : List V} {ds : List PyData} : H a = some (.tup xs) → DtAll H xs ds → Dt H (.ref a) (.tuple ds)
inductive DtAll (H : Hp) : List V → List PyData → Prop
  | nil : DtAll H [] []
  | cons {v : V} {vs : List V} {d : PyData} {ds : List PyData} : Dt H v d → DtAll H vs ds → DtAll H (v :: vs) (d :: ds)
end
mutual
theorem Dt.mono {H H' : Hp} (e : Same H H') : ∀ {v : V} {d : PyData}, Dt H v d → Dt H' v d
  | _, _, .non => .non
  | _, _, .bl b => .bl b
  | _, _, .int i => .int i
  | _, _, .str x => .str x
  | _, _, .lst h k => .lst (e _ _ h) (DtAll.mono e k)
  | _, _, .tup h k => .tup (e _ _ h) (DtAll.mono e k)
theorem DtAll.mono {H H' : Hp} (e : Same H H') : ∀ {vs : List V} {ds : List PyData}, DtAll H vs ds → DtAll H' vs ds
  | _, _, .nil => .nil
  | _, _, .cons h k => .cons (Dt.mono e h) (DtAll.mono e k)
end
mutual
theorem Dt.dp {K : PySem.W.Frag} {H : Hp} : ∀ {v : V} {d : PyData}, Dt H v d → Dp K H v d
  | _, _, .non => .non
  | _, _, .bl b => .bl b
  | _, _, .int i => .int i
  | _, _, .str x => .str x
  | _, _, .lst h k => .lst (SqL.of h) (DtAll.dp k)
  | _, _, .tup h k => .tup (SqT.of h) (DtAll.dp k)
theorem DtAll.dp {K : PySem.W.Frag} {H : Hp} : ∀ {vs : List V} {ds : List PyData}, DtAll H vs ds → DpAll K H vs ds
  | _, _, .nil => .nil
  | _, _, .cons h k => .cons (Dt.dp h) (DtAll.dp k)
end
section
variable {H : Hp}
theorem DtAll.append : ∀ {xs ys : List V} {ds es : List PyData}, DtAll H xs ds → DtAll H ys es → DtAll H (xs ++ ys) (ds ++ es)
  | _, _, _, _, .nil, k => k
  | _, _, _, _, .cons a b, k => .cons a (DtAll.append b k)
theorem DtAll.length : ∀ {xs : List V} {ds : List PyData}, DtAll H xs ds → xs.length = ds.length
  | _, _, .nil => rfl
  | _, _, .cons _ k => by rw [List.length_cons, List.length_cons, DtAll.length k]
theorem DtAll.get : ∀ {xs : List V} {ds : List PyData} {i : Nat} {d : PyData}, DtAll H xs ds → ds[i]? = some d → ∃ v, xs[i]? = some v ∧ Dt H v d
  | _, _, _, _, .nil, e => by simp at e
  | _, _, 0, _, .cons a _, e => by simp at e; subst e; exact ⟨_, rfl, a⟩
  | _, _, i + 1, d, .cons _ k, e => by
    obtain ⟨v, h1, h2⟩ := DtAll.get (i := i) (d := d) k (by simpa using e)
    exact ⟨v, by simpa using h1, h2⟩
theorem DtAll.get' : ∀ {xs : List V} {ds : List PyData} {i : Nat} {v : V}, DtAll H xs ds → xs[i]? = some v → ∃ d, ds[i]? = some d ∧ Dt H v d
  | _, _, _, _, .nil, e => by simp at e
  | _, _, 0, _, .cons a _, e => by simp at e; subst e; exact ⟨_, rfl, a⟩
  | _, _, i + 1, v, .cons _ k, e => by
    obtain ⟨d, h1, h2⟩ := DtAll.get' (i := i) (v := v) k (by simpa using e)
    exact ⟨d, by simpa using h1, h2⟩
theorem DtAll.ints : ∀ ns : List Int, DtAll H (ns.map V.int) (ns.map PyData.int)
  | [] => .nil
  | n :: r => .cons (.int n) (DtAll.ints r)
theorem DtAll.intsI : ∀ {ns : List Int} {vs : List V}, DtAll H vs (ns.map PyData.int) → vs = ns.map V.int
  | [], _, .nil => rfl
  | n :: r, _, .cons (.int _) k => by rw [DtAll.intsI k]; rfl
theorem DtAll.take : ∀ {xs : List V} {ds : List PyData} (n : Nat), DtAll H xs ds → DtAll H (xs.take n) (ds.take n)
  | _, _, 0, _ => .nil
  | _, _, _ + 1, .nil => .nil
  | _, _, n + 1, .cons a k => .cons a (DtAll.take n k)
theorem DtAll.drop : ∀ {xs : List V} {ds : List PyData} (n : Nat), DtAll H xs ds → DtAll H (xs.drop n) (ds.drop n)
  | _, _, 0, k => k
  | _, _, _ + 1, .nil => .nil
  | _, _, n + 1, .cons _ k => DtAll.drop n k
theorem DtAll.set : ∀ {xs : List V} {ds : List PyData} {v : V} {d : PyData} (i : Nat), Dt H v d → DtAll H xs ds → DtAll H (xs.set i v) (ds.set i d)
  | _, _, _, _, _, _, .nil => .nil
  | _, _, _, _, 0, h, .cons _ k => .cons h k
  | _, _, _, _, i + 1, h, .cons a k => .cons a (DtAll.set i h k)
theorem DtAll.erase : ∀ {xs : List V} {ds : List PyData} (i : Nat), DtAll H xs ds → DtAll H (xs.eraseIdx i) (ds.eraseIdx i)
  | _, _, _, .nil => .nil
  | _, _, 0, .cons _ k => k
  | _, _, i + 1, .cons a k => .cons a (DtAll.erase i k)
theorem DtAll.rev {xs : List V} {ds : List PyData} (h : DtAll H xs ds) : DtAll H xs.reverse ds.reverse := by
  induction xs generalizing ds with
  | nil => cases h; exact .nil
  | cons x r ih =>
    cases h with
    | cons a k =>
      rw [List.reverse_cons, List.reverse_cons]
      exact DtAll.append (ih k) (.cons a .nil)
end
/-- data that are equal as Python says, where it can be looked at -/
abbrev Shp (d : PyData) : Prop := SeqAt.shaped d = true
theorem eqv_self {d : PyData} (h : Shp d) : PyData.eqv d d = true := SeqAt.eqv_refl d (SeqAt.canLay_of_shaped h)
section
variable {K : PySem.W.Frag} {H : Hp} {Q : VK} {x y : V} {d e : PyData}
/-- a == b of two data -/
theorem rd_eq (hx : Dt H x d) (hy : Dt H y e) (h1 : Shp d) (h2 : Shp e) (q : Q (.bl (PyData.eqv d e)) H) : rEqA K x y H Q := by
  unfold rEqA
  split
  · rename_i b h
    obtain ⟨h3, h4⟩ := eqF_ok h
    have e1 : PyData.eqv d e = b := by
      cases hx <;> cases hy <;> simp_all [eqF, PyData.eqv] <;> (rw [← h]; exact Bool.eq_iff_iff.mpr (by simp))
    rw [← e1]
    exact q
  · exact ⟨d, e, hx.dp, hy.dp, h1, h2, q⟩
theorem rd_ne (hx : Dt H x d) (hy : Dt H y e) (h1 : Shp d) (h2 : Shp e) (q : Q (.bl (!PyData.eqv d e)) H) : rNeA K x y H Q := by
  unfold rNeA
  split
  · rename_i b h
    obtain ⟨h3, h4⟩ := eqF_ok h
    have e1 : PyData.eqv d e = b := by
      cases hx <;> cases hy <;> simp_all [eqF, PyData.eqv] <;> (rw [← h]; exact Bool.eq_iff_iff.mpr (by simp))
    rw [← e1]
    exact q
  · exact ⟨d, e, hx.dp, hy.dp, h1, h2, q⟩
/-- the same data on both sides -/
theorem rd_eqT (hx : Dt H x d) (hy : Dt H y d) (h1 : Shp d) (q : Q (.bl true) H) : rEqA K x y H Q := rd_eq hx hy h1 h1 (by rw [eqv_self h1]; exact q)
theorem rd_neF (hx : Dt H x d) (hy : Dt H y d) (h1 : Shp d) (q : Q (.bl false) H) : rNeA K x y H Q := rd_ne hx hy h1 h1 (by rw [eqv_self h1]; exact q)
end
end Lb
set_option Elab.async false
set_option linter.all false
set_option maxRecDepth 100000
set_option maxHeartbeats 4000000
/-! Ld: the steps of a reading, one lemma a step; the drawing of numbers. Knows no program. -/
namespace Lb
open PySem PySem.Spec PyProof.Rows L2
section
variable {σ : L2.St} {H : Hp} {Q : VK} {nx : L2.St → Hp → Prop} {rt : VK} {bk ct : L2.St → Hp → Prop}
/-- a value as a test -/
def tTru (K : PySem.W.Frag) (ta : TE) : TT := fun σ H Q => ta σ H fun x H' => ∃ k, TruV K x H' k ∧ Q k H'
theorem i_seq {t u : TS} (q : t ⟨fun σ H => u ⟨nx, rt, bk, ct⟩ σ H, rt, bk, ct⟩ σ H) : tSeq t u ⟨nx, rt, bk, ct⟩ σ H := q
theorem i_asg {te : TE} {g : TG} (q : te σ H fun x H1 => g x σ H1 nx) : tAsg te g ⟨nx, rt, bk, ct⟩ σ H := q
theorem i_gname {i : Nat} {v : V} {R : L2.St → Hp → Prop} (q : R (σ.set i (some v)) H) : gName i v σ H R := q
theorem i_ifS {c : TT} {t u : TS} (q : c σ H fun b H1 => if b = true then t ⟨nx, rt, bk, ct⟩ σ H1 else u ⟨nx, rt, bk, ct⟩ σ H1) : tIfS c t u ⟨nx, rt, bk, ct⟩ σ H := q
theorem i_ret {te : TE} (q : te σ H rt) : tRet te ⟨nx, rt, bk, ct⟩ σ H := q
theorem i_retN (q : rt .non H) : tRetN ⟨nx, rt, bk, ct⟩ σ H := q
theorem i_drop {te : TE} (q : te σ H fun _ H1 => nx σ H1) : tDrop te ⟨nx, rt, bk, ct⟩ σ H := q
theorem i_next (q : nx σ H) : tNext ⟨nx, rt, bk, ct⟩ σ H := q
theorem i_brk (q : bk σ H) : tBreak ⟨nx, rt, bk, ct⟩ σ H := q
theorem i_cnt (q : ct σ H) : tCont ⟨nx, rt, bk, ct⟩ σ H := q
theorem i_par {i j : Nat} {ta : TA} (q : ta σ H fun vs H1 => ∃ v w, vs = [v, w] ∧ nx ((σ.set i (some v)).set j (some w)) H1) : tPar i j ta ⟨nx, rt, bk, ct⟩ σ H := q
theorem i_par2 {v w : V} {P : V → V → Prop} (q : P v w) : (∃ v' w', [v, w] = [v', w'] ∧ P v' w') := ⟨_, _, rfl, q⟩
theorem i_fldS {K : PySem.W.Frag} {ta tv : TE} {f : Str} (q : tv σ H fun y H1 => ta σ H1 fun x H2 => ∃ a C dx fs, x = .ref a ∧ H2 a = some (.ins C dx fs) ∧ Cls K C ∧ NoAttr K C f ∧ fs.length < 1000 ∧ nx σ (upd H2 a (.ins C dx (putF f y fs)))) : sFld K ta tv f ⟨nx, rt, bk, ct⟩ σ H := q
theorem i_dput {td ty tv : TE} (q : tv σ H fun v H1 => td σ H1 fun x H2 => ty σ H2 fun y H3 => ∃ a H4, x = .ref a ∧ DPut H3 a y v H4 ∧ nx σ H4) : sDPut td ty tv ⟨nx, rt, bk, ct⟩ σ H := q
theorem i_var {i : Nat} {v : V} (h : σ[i]? = some (some v)) (q : Q v H) : tVar i σ H Q := ⟨v, h, q⟩
theorem i_tB {b : Bool} {A B : Prop} (h : b = true) (q : A) : (if b = true then A else B) := by rw [if_pos h]; exact q
theorem i_fB {b : Bool} {A B : Prop} (h : b = false) (q : B) : (if b = true then A else B) := by rw [h, if_neg Bool.false_ne_true]; exact q
theorem i_c {v : V} (q : Q v H) : tC v σ H Q := q
theorem i_op {r : R2} {ta tb : TE} (q : ta σ H fun x H1 => tb σ H1 fun y H2 => r x y H2 Q) : tOp r ta tb σ H Q := q
theorem i_un {r : V → Hp → VK → Prop} {ta : TE} (q : ta σ H fun x H1 => r x H1 Q) : tUn r ta σ H Q := q
theorem i_rU {g : Int → V} {i : Int} (q : Q (g i) H) : rU g (.int i) H Q := ⟨i, rfl, q⟩
theorem i_rI0 {g : Int → Int → V} {i j : Int} (q : Q (g i j) H) : rI0 g (.int i) (.int j) H Q := ⟨i, j, rfl, rfl, q⟩
theorem i_rI {C : Int → Int → Prop} {g : Int → Int → V} {i j : Int} (c : C i j) (q : Q (g i j) H) : rI C g (.int i) (.int j) H Q := ⟨i, j, rfl, rfl, c, q⟩
theorem i_test {t : TE} {R : Bool → Hp → Prop} (q : t σ H fun x H' => ∃ k, x = .bl k ∧ R k H') : tTest t σ H R := q
theorem i_B {t : TE} {R : Bool → Hp → Prop} (q : t σ H fun x H' => ∃ k, x = .bl k ∧ R k H') : tB t σ H R := q
theorem i_bl {b : Bool} {R : Bool → Prop} (q : R b) : (∃ k, V.bl b = .bl k ∧ R k) := ⟨b, rfl, q⟩
theorem i_tru {K : PySem.W.Frag} {te : TE} {R : Bool → Hp → Prop} (q : te σ H fun x H' => ∃ k, TruV K x H' k ∧ R k H') : tTru K te σ H R := q
theorem i_truB {K : PySem.W.Frag} {b : Bool} {R : Bool → Prop} (q : R b) : (∃ k, TruV K (.bl b) H k ∧ R k) := ⟨b, rfl, q⟩
theorem i_and {t u : TT} {R : Bool → Hp → Prop} (q : t σ H fun c H1 => if c = true then u σ H1 R else R false H1) : tAnd t u σ H R := q
theorem i_or {t u : TT} {R : Bool → Hp → Prop} (q : t σ H fun c H1 => if c = true then R true H1 else u σ H1 R) : tOr t u σ H R := q
theorem i_not {t : TT} {R : Bool → Hp → Prop} (q : t σ H fun c H1 => R (!c) H1) : tNot t σ H R := q
theorem i_andV {ta tb : TE} (q : ta σ H fun x H1 => ∃ c, x = .bl c ∧ if c = true then tb σ H1 Q else Q (.bl false) H1) : tAndV ta tb σ H Q := q
theorem i_orV {ta tb : TE} (q : ta σ H fun x H1 => ∃ c, x = .bl c ∧ if c = true then Q (.bl true) H1 else tb σ H1 Q) : tOrV ta tb σ H Q := q
theorem i_notV {ta : TE} (q : ta σ H fun x H1 => ∃ c, x = .bl c ∧ Q (.bl (!c)) H1) : tNotV ta σ H Q := q
theorem i_if {t : TT} {ta tb : TE} (q : t σ H fun c H1 => if c = true then ta σ H1 Q else tb σ H1 Q) : tIf t ta tb σ H Q := q
theorem i_call {sp : Sp} {E : XK} {t : TA} (q : t σ H fun vs H1 => sp (vs ++ []) H1 Q E) : tCall sp [] E t σ H Q := q
theorem i_meth {C : Addr} {m : Str} {sp : Sp} {E : XK} {ta : TE} {t : TA} (q : ta σ H fun x H1 => ∃ a dx fs, x = .ref a ∧ H1 a = some (.ins C dx fs) ∧ fs.lookup m = none ∧ t σ H1 fun vs H2 => sp (x :: (vs ++ [])) H2 Q E) : tMeth C m sp [] E ta t σ H Q := q
theorem i_make {C : Addr} {sp : Sp} {E : XK} {t : TA} (q : t σ H fun vs H1 => ∀ x dx, H1 x = none → H1 dx = none → dx ≠ x → sp (.ref x :: (vs ++ [])) (upd (upd H1 dx (.own x)) x (.ins C dx [])) (fun v H2 => v = .non ∧ Q (.ref x) H2) E) : tMake C sp [] E t σ H Q := q
theorem i_cb {r : List V → Hp → VK → Prop} {t : TA} (q : t σ H fun vs H1 => r vs H1 Q) : tCB r t σ H Q := q
theorem i_cons {ta : TE} {tr : TA} {R : List V → Hp → Prop} (q : ta σ H fun x H1 => tr σ H1 fun xs H2 => R (x :: xs) H2) : tCons ta tr σ H R := q
theorem i_nil {R : List V → Hp → Prop} (q : R [] H) : tNil σ H R := q
theorem i_tup {t : TA} (q : t σ H fun xs H1 => xs.length ≤ sizeLine ∧ ∀ p, H1 p = none → Q (.ref p) (upd H1 p (.tup xs))) : tTup t σ H Q := q
theorem i_lst {t : TA} (q : t σ H fun xs H1 => xs.length ≤ sizeLine ∧ ∀ p, H1 p = none → Q (.ref p) (upd H1 p (.lst xs))) : tLst t σ H Q := q
theorem i_bml {r : V → List V → Hp → VK → Prop} {to : TE} {t : TA} (q : to σ H fun x H1 => isL x H1 ∧ t σ H1 fun xs H2 => r x xs H2 Q) : tBML r to t σ H Q := q
theorem i_isL {l : Addr} {xs : List V} {R : Prop} (h : H l = some (.lst xs)) (q : R) : isL (.ref l) H ∧ R := ⟨by simp only [isL, h], q⟩
theorem i_gsub {to ti : TE} {t : TSet} {v : V} {R : L2.St → Hp → Prop} (q : to σ H fun o H1 => ti σ H1 fun i H2 => t o i v H2 fun H3 => R σ H3) : gSub to ti t v σ H R := q
theorem i_gtup {K : PySem.W.Frag} {n : Nat} {t : TGs} {a : Addr} {xs : List V} {R : L2.St → Hp → Prop} (h : H a = some (.tup xs)) (hn : xs.length = n) (q : t xs σ H R) : gTup K n t (.ref a) σ H R := ⟨a, xs, rfl, SqT.of h, hn, q⟩
theorem i_gcons {t : TG} {u : TGs} {v : V} {vs : List V} {R : L2.St → Hp → Prop} (q : t v σ H fun σ' H' => u vs σ' H' R) : gCons t u (v :: vs) σ H R := ⟨v, vs, rfl, q⟩
theorem i_gnil {R : L2.St → Hp → Prop} (q : R σ H) : gNil [] σ H R := ⟨rfl, q⟩
theorem i_sl {r : V → Option Int → Option Int → Hp → VK → Prop} {te : TE} {tl th : TO} (q : te σ H fun x H1 => tl σ H1 fun l H2 => th σ H2 fun u H3 => r x l u H3 Q) : tSl r te tl th σ H Q := q
theorem i_nop {R : Option Int → Hp → Prop} (q : R none H) : tNoPart σ H R := q
theorem i_part {t : TE} {R : Option Int → Hp → Prop} (q : t σ H fun x H1 => ∃ i, x = .int i ∧ R (some i) H1) : tPart t σ H R := q
theorem i_prt {i : Int} {R : Int → Prop} (q : R i) : (∃ j, V.int i = .int j ∧ R j) := ⟨i, rfl, q⟩
theorem i_isN {x : V} (q : Q (.bl (decide (x = .non))) H) : rIsN x .non H Q := ⟨rfl, q⟩
theorem i_notN {x : V} (q : Q (.bl (!decide (x = .non))) H) : rNotN x .non H Q := ⟨rfl, q⟩
theorem i_yes {R : Bool → Hp → Prop} (q : R true H) : tYes σ H R := q
theorem i_tt {A B : Prop} (q : A) : (if true = true then A else B) := by rw [if_pos rfl]; exact q
theorem i_ff {A B : Prop} (q : B) : (if false = true then A else B) := by rw [if_neg Bool.false_ne_true]; exact q
theorem i_dy {p : Prop} [Decidable p] {A B : Prop} (h : p) (q : A) : (if decide p = true then A else B) := by rw [if_pos (decide_eq_true h)]; exact q
theorem i_dn {p : Prop} [Decidable p] {A B : Prop} (h : ¬ p) (q : B) : (if decide p = true then A else B) := by rw [if_neg (by simp [h])]; exact q
theorem i_ny {p : Prop} [Decidable p] {A B : Prop} (h : ¬ p) (q : A) : (if (!decide p) = true then A else B) := by rw [if_pos (by simp [h])]; exact q
theorem i_nn {p : Prop} [Decidable p] {A B : Prop} (h : p) (q : B) : (if (!decide p) = true then A else B) := by rw [if_neg (by simp [h])]; exact q
theorem i_d2 {p : Prop} [Decidable p] {A B : Prop} (q1 : p → A) (q2 : ¬ p → B) : (if decide p = true then A else B) := by
  by_cases h : p
  · exact i_dy h (q1 h)
  · exact i_dn h (q2 h)
theorem i_n2 {p : Prop} [Decidable p] {A B : Prop} (q1 : ¬ p → A) (q2 : p → B) : (if (!decide p) = true then A else B) := by
  by_cases h : p
  · exact i_nn h (q2 h)
  · exact i_ny h (q1 h)
theorem i_ntt {A B : Prop} (q : B) : (if (!true) = true then A else B) := by rw [if_neg (by simp)]; exact q
theorem i_nff {A B : Prop} (q : A) : (if (!false) = true then A else B) := by rw [if_pos (by simp)]; exact q
theorem i_dnI {i : Int} {A B : Prop} (q : B) : (if decide (V.int i = V.non) = true then A else B) := i_dn (by intro h; cases h) q
theorem i_nyI {i : Int} {A B : Prop} (q : A) : (if (!decide (V.int i = V.non)) = true then A else B) := i_ny (by intro h; cases h) q
theorem i_dnR {i : Addr} {A B : Prop} (q : B) : (if decide (V.ref i = V.non) = true then A else B) := i_dn (by intro h; cases h) q
theorem i_nyR {i : Addr} {A B : Prop} (q : A) : (if (!decide (V.ref i = V.non)) = true then A else B) := i_ny (by intro h; cases h) q
theorem i_dnS {i : Str} {A B : Prop} (q : B) : (if decide (V.str i = V.non) = true then A else B) := i_dn (by intro h; cases h) q
theorem i_nyS {i : Str} {A B : Prop} (q : A) : (if (!decide (V.str i = V.non)) = true then A else B) := i_ny (by intro h; cases h) q
theorem i_addI {a b : Int} (q : Q (.int (a + b)) H) : rAddA (.int a) (.int b) H Q := q
theorem i_addS {a b : Str} (h : a.length + b.length ≤ sizeLine) (q : Q (.str (a ++ b)) H) : rAddA (.str a) (.str b) H Q := ⟨h, q⟩
theorem i_addL {p q : Addr} {xs ys : List V} (h1 : H p = some (.lst xs)) (h2 : H q = some (.lst ys)) (h : xs.length + ys.length ≤ sizeLine) (k : ∀ r, H r = none → Q (.ref r) (upd H r (.lst (xs ++ ys)))) : rAddA (.ref p) (.ref q) H Q := by simp only [rAddA, h1, h2]; exact ⟨h, k⟩
theorem i_mulI {a b : Int} (c : CMul a b) (q : Q (.int (a * b)) H) : rMulA (.int a) (.int b) H Q := ⟨c, q⟩
theorem i_eqF {K : PySem.W.Frag} {x y : V} {b : Bool} (h : eqF x y = some b) (q : Q (.bl b) H) : rEqA K x y H Q := by simp only [rEqA, h]; exact q
theorem i_neF {K : PySem.W.Frag} {x y : V} {b : Bool} (h : eqF x y = some b) (q : Q (.bl (!b)) H) : rNeA K x y H Q := by simp only [rNeA, h]; exact q
theorem i_eqI {K : PySem.W.Frag} {a b : Int} (q : Q (.bl (decide (a = b))) H) : rEqA K (.int a) (.int b) H Q := q
theorem i_neI {K : PySem.W.Frag} {a b : Int} (q : Q (.bl (!decide (a = b))) H) : rNeA K (.int a) (.int b) H Q := q
theorem i_eqS {K : PySem.W.Frag} {a b : Str} (q : Q (.bl (decide (a = b))) H) : rEqA K (.str a) (.str b) H Q := q
theorem i_neS {K : PySem.W.Frag} {a b : Str} (q : Q (.bl (!decide (a = b))) H) : rNeA K (.str a) (.str b) H Q := q
theorem i_ixL {p : Addr} {xs : List V} {i : Int} {v : V} (h : H p = some (.lst xs)) (hi : atI xs i = some v) (q : Q v H) : rIxA (.ref p) (.int i) H Q := by simp only [rIxA, h]; exact ⟨v, hi, q⟩
theorem i_ixT {p : Addr} {xs : List V} {i : Int} {v : V} (h : H p = some (.tup xs)) (hi : atI xs i = some v) (q : Q v H) : rIxA (.ref p) (.int i) H Q := by simp only [rIxA, h]; exact ⟨v, hi, q⟩
theorem i_slL {p : Addr} {xs : List V} {lo hi : Option Int} (h : H p = some (.lst xs)) (k : ∀ q, H q = none → Q (.ref q) (upd H q (.lst (cutV xs lo hi)))) : rSlA (.ref p) lo hi H Q := by simp only [rSlA, h]; exact k
theorem i_slT {p : Addr} {xs : List V} {lo hi : Option Int} (h : H p = some (.tup xs)) (c : ¬ (HT.sIx xs.length 0 lo = 0 ∧ HT.sIx xs.length xs.length hi = xs.length)) (k : ∀ q, H q = none → Q (.ref q) (upd H q (.tup (cutV xs lo hi)))) : rSlA (.ref p) lo hi H Q := by simp only [rSlA, h]; exact ⟨c, k⟩
theorem i_lenL {p : Addr} {xs : List V} (h : H p = some (.lst xs)) (q : Q (.int xs.length) H) : rLenA [.ref p] H Q := by simp only [rLenA, h]; exact q
theorem i_lenT {p : Addr} {xs : List V} (h : H p = some (.tup xs)) (q : Q (.int xs.length) H) : rLenA [.ref p] H Q := by simp only [rLenA, h]; exact q
theorem i_lenD {p : Addr} {kvs : List (Key × V)} (h : H p = some (.dK kvs)) (q : Q (.int kvs.length) H) : rLenA [.ref p] H Q := by simp only [rLenA, h]; exact q
theorem i_lenS {y : Str} (h : y.length ≤ sizeLine) (q : Q (.int y.length) H) : rLenA [.str y] H Q := ⟨h, q⟩
theorem i_intI {i : Int} (q : Q (.int i) H) : rIntA [.int i] H Q := q
theorem i_intB {k : Bool} (q : Q (.int (if k = true then 1 else 0)) H) : rIntA [.bl k] H Q := q
theorem i_abs {i : Int} (q : Q (.int (if i < 0 then -i else i)) H) : rAbsA [.int i] H Q := q
theorem i_listL {p : Addr} {xs : List V} (h : H p = some (.lst xs)) (k : ∀ l, H l = none → Q (.ref l) (upd H l (.lst xs))) : rListA [.ref p] H Q := by simp only [rListA, h]; exact k
theorem i_listT {p : Addr} {xs : List V} (h : H p = some (.tup xs)) (k : ∀ l, H l = none → Q (.ref l) (upd H l (.lst xs))) : rListA [.ref p] H Q := by simp only [rListA, h]; exact k
theorem i_tupL {p : Addr} {xs : List V} (h : H p = some (.lst xs)) (k : ∀ l, H l = none → Q (.ref l) (upd H l (.tup xs))) : rTupA [.ref p] H Q := by simp only [rTupA, h]; exact k
theorem i_isi {x : V} {T t : String} {b : Bool} (h1 : tyN x H = some t) (h2 : kitB t T = some b) (q : Q (.bl b) H) : rIsiA [x, .ty T] H Q := by simp only [rIsiA, h1]; exact ⟨b, h2, q⟩
theorem i_isiLL {p : Addr} {xs : List V} (h : H p = some (.lst xs)) (q : Q (.bl true) H) : rIsiA [.ref p, .ty "list"] H Q := i_isi (t := "list") (by simp only [tyN, h]) (by decide +kernel) q
theorem i_isiTL {p : Addr} {xs : List V} (h : H p = some (.tup xs)) (q : Q (.bl false) H) : rIsiA [.ref p, .ty "list"] H Q := i_isi (t := "tuple") (by simp only [tyN, h]) (by decide +kernel) q
theorem i_isiIB {i : Int} (q : Q (.bl false) H) : rIsiA [.int i, .ty "bool"] H Q := i_isi (t := "int") rfl (by decide +kernel) q
theorem i_isiNB (q : Q (.bl false) H) : rIsiA [.non, .ty "bool"] H Q := i_isi (t := "NoneType") rfl (by decide +kernel) q
theorem i_isiBB {k : Bool} (q : Q (.bl true) H) : rIsiA [.bl k, .ty "bool"] H Q := i_isi (t := "bool") rfl (by decide +kernel) q
theorem i_app {l : Addr} {xs : List V} {y : V} (h : H l = some (.lst xs)) (hz : xs.length < sizeLine) (q : Q .non (upd H l (.lst (xs ++ [y])))) : rAppA (.ref l) [y] H Q := by simp only [rAppA, h]; exact ⟨hz, q⟩
theorem i_ext {l p : Addr} {xs ys : List V} (h : H l = some (.lst xs)) (h2 : H p = some (.lst ys)) (hz : xs.length + ys.length ≤ sizeLine) (q : Q .non (upd H l (.lst (xs ++ ys)))) : rExtA (.ref l) [.ref p] H Q := by simp only [rExtA, h, h2]; exact ⟨hz, q⟩
theorem i_popL {l : Addr} {xs : List V} {y : V} (h : H l = some (.lst xs)) (hy : xs[xs.length - 1]? = some y) (q : Q y (upd H l (.lst xs.dropLast))) : rPopL (.ref l) [] H Q := by simp only [rPopL, h]; exact ⟨y, hy, q⟩
theorem i_popI {l : Addr} {xs : List V} {k : Nat} {y : V} (h : H l = some (.lst xs)) (hk : k < 2 ^ 62) (hy : xs[k]? = some y) (q : Q y (upd H l (.lst (xs.eraseIdx k)))) : rPopI (.ref l) [.int (k : Int)] H Q := by simp only [rPopI, h]; exact ⟨k, y, rfl, hk, hy, q⟩
theorem i_pop0 {l : Addr} {ys : List V} {y : V} (h : H l = some (.lst (y :: ys))) (q : Q y (upd H l (.lst ys))) : rPopI (.ref l) [.int 0] H Q := i_popI (k := 0) h (by decide) rfl q
theorem i_setL {p : Addr} {xs : List V} {k : Int} {j : Nat} {v : V} {R : Hp → Prop} (h : H p = some (.lst xs)) (hj : ixN xs.length k = some j) (q : R (upd H p (.lst (xs.set j v)))) : rSetA (.ref p) (.int k) v H R := by simp only [rSetA, h]; exact ⟨j, hj, q⟩
theorem i_dget {td ty : TE} (q : td σ H fun x H1 => ty σ H1 fun y H2 => ∃ a v, x = .ref a ∧ DGet H2 a y (some v) ∧ Q v H2) : tDGet td ty σ H Q := q
theorem i_dgetK {a : Addr} {kvs : List (Key × V)} {k : Key} {y v : V} {R : V → Prop} (h : H a = some (.dK kvs)) (hy : y = kV k) (hv : valV kvs k = some v) (q : R v) : (∃ a' v', V.ref a = .ref a' ∧ DGet H a' y (some v') ∧ R v') := ⟨a, v, rfl, .inl ⟨kvs, k, Rd.of h, hy, hv.symm⟩, q⟩
theorem i_dputK {a : Addr} {kvs : List (Key × V)} {k : Key} {y v : V} {R : Hp → Prop} (h : H a = some (.dK kvs)) (hy : y = kV k) (hz : kvs.length < sizeLine) (q : R (upd H a (.dK (putK kvs k v)))) : (∃ a' H4, V.ref a = .ref a' ∧ DPut H a' y v H4 ∧ R H4) := ⟨a, _, rfl, .inl ⟨kvs, k, h, hy, hz, rfl⟩, q⟩
theorem i_disp {trs : List (TE × TE)} (q : ∀ p, H p = none → tPairs trs σ (upd H p (.dK [])) fun ps H2 => H2 p = some (.dK []) ∧ ∃ kvs : List (Key × V), ps = kvs.map (fun kv => (kV kv.1, kv.2)) ∧ kvs.length ≤ 15 ∧ Q (.ref p) (upd H2 p (.dK (mergeK [] kvs)))) : tDisp trs σ H Q := q
theorem i_pcons {tk tv : TE} {r : List (TE × TE)} {R : List (V × V) → Hp → Prop} (q : tk σ H fun x H1 => tv σ H1 fun y H2 => tPairs r σ H2 fun ps H3 => R ((x, y) :: ps) H3) : tPairs ((tk, tv) :: r) σ H R := q
theorem i_pnil {R : List (V × V) → Hp → Prop} (q : R [] H) : tPairs [] σ H R := q
theorem i_neN {K : PySem.W.Frag} (q : Q (.bl false) H) : rNeA K .non .non H Q := q
theorem i_eqN {K : PySem.W.Frag} (q : Q (.bl true) H) : rEqA K .non .non H Q := q
theorem i_neB {K : PySem.W.Frag} {a b : Bool} (q : Q (.bl (!decide (a = b))) H) : rNeA K (.bl a) (.bl b) H Q := q
theorem i_eqB {K : PySem.W.Frag} {a b : Bool} (q : Q (.bl (decide (a = b))) H) : rEqA K (.bl a) (.bl b) H Q := q
theorem i_for {wi : TI} {g : TG} {tb : TS} (q : wi σ H fun J H1 => ∃ W : Nat → Nat → L2.St → Hp → Prop, (∃ m, W 0 m σ H1) ∧ ∀ i m σ H, W i m σ H → (J.stop i H ∧ nx σ H) ∨ (J.go i H ∧ ∃ N : L2.St → Hp → Prop, (∀ σ' H', N σ' H' → ∃ m', m' < m ∧ W (i + 1) m' σ' H') ∧ ∀ x H', J.yld i H x H' → g x σ H' fun σ2 H2 => tb ⟨N, rt, nx, N⟩ σ2 H2)) : tFor wi g tb ⟨nx, rt, bk, ct⟩ σ H := q
theorem i_while {c : TT} {tb : TS} (W : Nat → L2.St → Hp → Prop) (m : Nat) (w0 : W m σ H) (q : ∀ m σ H, W m σ H → c σ H fun b H1 => if b = true then ∃ N : L2.St → Hp → Prop, (∀ σ' H', N σ' H' → ∃ m', m' < m ∧ W m' σ' H') ∧ tb ⟨N, rt, nx, N⟩ σ H1 else nx σ H1) : tWhile c tb ⟨nx, rt, bk, ct⟩ σ H := ⟨W, ⟨m, w0⟩, q⟩
theorem i_wgo {m : Nat} {W : Nat → L2.St → Hp → Prop} {tb : TS} (q : tb ⟨fun σ' H' => ∃ m', m' < m ∧ W m' σ' H', rt, nx, fun σ' H' => ∃ m', m' < m ∧ W m' σ' H'⟩ σ H) : (∃ N : L2.St → Hp → Prop, (∀ σ' H', N σ' H' → ∃ m', m' < m ∧ W m' σ' H') ∧ tb ⟨N, rt, nx, N⟩ σ H) := ⟨_, fun _ _ h => h, q⟩
theorem i_ilist {K : PySem.W.Frag} {tl : TE} {R : It → Hp → Prop} (q : tl σ H fun x H1 => ∃ a, x = .ref a ∧ (∃ xs, SqL K H1 a xs) ∧ R (Itl K a) H1) : iList K tl σ H R := q
theorem i_itup {K : PySem.W.Frag} {tl : TE} {R : It → Hp → Prop} (q : tl σ H fun x H1 => ∃ a, x = .ref a ∧ (∃ xs, SqT K H1 a xs) ∧ R (Itt K a) H1) : iTup K tl σ H R := q
theorem i_rng1 {ta : TA} {R : It → Hp → Prop} (q : ta σ H fun vs H1 => ∃ j : Int, vs = [.int j] ∧ -(2 ^ 62) ≤ j ∧ j < 2 ^ 62 ∧ R (Itr 0 j.toNat) H1) : iRng1 ta σ H R := q
theorem i_rng2 {ta : TA} {R : It → Hp → Prop} (q : ta σ H fun vs H1 => ∃ i j : Int, vs = [.int i, .int j] ∧ (-(2 ^ 62) ≤ i ∧ i < 2 ^ 62 ∧ -(2 ^ 62) ≤ j ∧ j < 2 ^ 62) ∧ R (Itr i (j - i).toNat) H1) : iRng2 ta σ H R := q
theorem i_ex1 {j : Int} {R : Int → Prop} (q : R j) : (∃ i : Int, [V.int j] = [.int i] ∧ R i) := ⟨j, rfl, q⟩
theorem i_ex2 {i j : Int} {R : Int → Int → Prop} (q : R i j) : (∃ i' j' : Int, [V.int i, V.int j] = [.int i', .int j'] ∧ R i' j') := ⟨i, j, rfl, q⟩
theorem i_exr {p : Addr} {R : Addr → Prop} (q : R p) : (∃ a, V.ref p = .ref a ∧ R a) := ⟨p, rfl, q⟩
theorem i_mth {p C dx : Addr} {fs : List (Str × V)} {m : Str} {R : Prop} (h : H p = some (.ins C dx fs)) (hl : fs.lookup m = none) (q : R) : (∃ a dx fs, V.ref p = .ref a ∧ H a = some (.ins C dx fs) ∧ fs.lookup m = none ∧ R) := ⟨p, dx, fs, rfl, h, hl, q⟩
theorem i_fld {K : PySem.W.Frag} {ta : TE} {f : Str} (q : ta σ H fun x H1 => ∃ a C dx fs v, x = .ref a ∧ H1 a = some (.ins C dx fs) ∧ Cls K C ∧ NoAttr K C f ∧ fs.lookup f = some v ∧ Q v H1) : tFld K ta f σ H Q := q
theorem i_lc {wi : TI} {g : TG} {tt : TT} {te : TE} {vs : List Nat} (q : wi σ H fun J H1 => ∀ D, H1 D = none → ∃ W : Nat → Nat → Hp → Prop, (∃ m, W 0 m (upd H1 D (.lst []))) ∧ ∀ i m H, W i m H → (J.stop i H ∧ Q (.ref D) H) ∨ (J.go i H ∧ ∃ Nx : Hp → Prop, (∀ H', Nx H' → ∃ m', m' < m ∧ W (i + 1) m' H') ∧ ∀ x H', J.yld i H x H' → g x (wipe σ vs) H' fun σ2 H2 => wipe σ2 vs = wipe σ vs ∧ tt σ2 H2 fun b H3 => if b = true then te σ2 H3 fun y H4 => ∃ acc, H4 D = some (.lst acc) ∧ acc.length < sizeLine ∧ Nx (upd H4 D (.lst (acc ++ [y]))) else Nx H3)) : tLc wi g tt te vs σ H Q := q
end
local macro_rules | `(tactic| walk_at "s1") => `(tactic| with_reducible first | refine i_seq ?_ | refine i_asg ?_ | refine i_gname ?_ | refine i_ifS ?_ | refine i_ret ?_ | refine i_retN ?_ | refine i_drop ?_ | refine i_next ?_ | refine i_brk ?_ | refine i_cnt ?_ | refine i_par ?_ | refine i_par2 ?_ | refine i_fldS ?_ | refine i_dput ?_ | refine i_c ?_ | refine i_op ?_ | refine i_un ?_ | refine i_rU ?_ | refine i_rI0 ?_ | refine i_test ?_ | refine i_B ?_ | refine i_bl ?_ | refine i_tru ?_ | refine i_truB ?_ | refine i_and ?_ | refine i_or ?_ | refine i_not ?_ | refine i_andV ?_ | refine i_orV ?_ | refine i_notV ?_ | refine i_if ?_ | refine i_call ?_ | refine i_meth ?_ | refine i_make ?_ | refine i_cb ?_ | refine i_cons ?_ | refine i_nil ?_ | refine i_tup ?_ | refine i_lst ?_ | refine i_bml ?_ | refine i_gsub ?_ | refine i_gcons ?_ | refine i_gnil ?_ | refine i_sl ?_ | refine i_nop ?_ | refine i_part ?_ | refine i_prt ?_ | refine i_isN ?_ | refine i_notN ?_ | refine i_yes ?_ | refine i_tt ?_ | refine i_ff ?_ | refine i_ntt ?_ | refine i_nff ?_ | refine i_addI ?_ | refine i_eqI ?_ | refine i_neI ?_ | refine i_eqS ?_ | refine i_neS ?_ | refine i_intI ?_ | refine i_intB ?_ | refine i_abs ?_ | refine i_isiIB ?_ | refine i_isiNB ?_ | refine i_isiBB ?_ | refine i_dget ?_ | refine i_for ?_ | refine i_ilist ?_ | refine i_itup ?_ | refine i_rng1 ?_ | refine i_rng2 ?_ | refine i_ex1 ?_ | refine i_ex2 ?_ | refine i_exr ?_ | refine i_fld ?_ | refine i_disp ?_ | refine i_pcons ?_ | refine i_pnil ?_ | refine i_neN ?_ | refine i_eqN ?_ | refine i_neB ?_ | refine i_eqB ?_ | refine i_lc ?_ | refine i_var (by with_unfolding_all rfl) ?_ | refine i_tB (by decide +kernel) ?_ | refine i_fB (by decide +kernel) ?_ | refine i_dnI ?_ | refine i_nyI ?_ | refine i_dnR ?_ | refine i_nyR ?_ | refine i_ixT (by assumption) (by with_unfolding_all rfl) ?_ | refine i_ixL (by assumption) (by with_unfolding_all rfl) ?_ | refine i_lenL (by assumption) ?_ | refine i_lenT (by assumption) ?_ | refine i_isL (by assumption) ?_ | refine i_isiLL (by assumption) ?_ | refine i_isiTL (by assumption) ?_ | refine i_gtup (by assumption) (by with_unfolding_all rfl) ?_)
local macro_rules | `(tactic| walk_at "s") => `(tactic| repeat (walk_at "s1"))
/-- the state of the draws: a list of a list of numbers and of a number -/
structure Rng (a c : Addr) (H : Hp) : Prop where
  ne : a ≠ c
  ex : ∃ (ns : List Int) (m : Int), H a = some (.lst [.ref c, .int m]) ∧ H c = some (.lst (ns.map V.int)) ∧ (∀ n ∈ ns, 0 ≤ n) ∧ 0 ≤ m
/-- what was so beside the two places is so -/
def Fra (a c : Addr) (H H' : Hp) : Prop := ∀ b, b ≠ a → b ≠ c → H' b = H b
theorem Fra.refl {a c : Addr} {H : Hp} : Fra a c H H := fun _ _ _ => rfl
theorem Fra.trans {a c : Addr} {H H1 H2 : Hp} (h : Fra a c H H1) (k : Fra a c H1 H2) : Fra a c H H2 := fun b p q => (k b p q).trans (h b p q)
def spDraw : Sp := fun vs H Q _ => ∃ (a c : Addr) (n : Int), vs = [.ref a, .int n] ∧ 0 < n ∧ n < 1073741824 ∧ Rng a c H ∧
  ∀ (H' : Hp) (r : Int), 0 ≤ r → r < n → Rng a c H' → Fra a c H H' → Q (.int r) H'
theorem len_draw {vs : List V} {H : Hp} {Q : VK} {E : XK} (h : spDraw vs H Q E) : vs.length = 2 := by
  obtain ⟨a, c, n, rfl, _⟩ := h
  rfl
def t_draw (K : PySem.W.Frag) : TS :=
  (tSeq (tAsg (tOp rIxA (tVar 0) (tC (.int 0))) (gName 2)) (tSeq (tWhile (tAnd (tTest (tOp (rI0 fun i j => .bl (decide (j < i))) (tCB rLenA (tCons (tVar 2) tNil)) (tC (.int 0)))) (tTest (tOp (rEqA K) (tOp rIxA (tVar 2) (tC (.int 0))) (tC (.int 0))))) (tDrop (tBML rPopI (tVar 2) (tCons (tC (.int 0)) tNil)))) (tSeq (tIfS (tTest (tOp (rI0 fun i j => .bl (decide (j < i))) (tCB rLenA (tCons (tVar 2) tNil)) (tC (.int 0)))) (tSeq (tAsg (tOp rIxA (tVar 2) (tC (.int 0))) (gName 3)) (tSeq (tAsg (tOp (rI CDiv fun i j => .int (i / j)) (tVar 3) (tVar 1)) (gSub (tVar 2) (tC (.int 0)) rSetA)) (tRet (tOp (rI (fun _ j => 0 < j) fun i j => .int (i % j)) (tCB rIntA (tCons (tVar 3) tNil)) (tVar 1))))) tNext) (tSeq (tAsg (tOp (rI (fun _ j => 0 < j) fun i j => .int (i % j)) (tCB rIntA (tCons (tOp rAddA (tOp rMulA (tOp rIxA (tVar 0) (tC (.int 1))) (tC (.int 48271))) (tC (.int 12345))) tNil)) (tC (.int 2147483647))) (gName 4)) (tSeq (tAsg (tVar 4) (gSub (tVar 0) (tC (.int 1)) rSetA)) (tRet (tOp (rI (fun _ j => 0 < j) fun i j => .int (i % j)) (tCB rIntA (tCons (tOp (rI CDiv fun i j => .int (i / j)) (tVar 4) (tC (.int 64))) tNil)) (tVar 1))))))))
theorem fra_upd2 {a c : Addr} {H H' : Hp} {o : HO} (h : Fra a c H H') : Fra a c H (upd H' c o) := fun b p q => by rw [upd_ne q]; exact h b p q
theorem fra_upd1 {a c : Addr} {H H' : Hp} {o : HO} (h : Fra a c H H') : Fra a c H (upd H' a o) := fun b p q => by rw [upd_ne p]; exact h b p q
theorem at0 {v : V} {xs : List V} : atI (v :: xs) 0 = some v := atI_nat (j := 0) rfl
theorem atN {xs : List V} {i : Int} {j : Nat} {v : V} (e : i = (j : Int)) (h : xs[j]? = some v) : atI xs i = some v := by
  rw [e]
  exact atI_nat h
theorem ixS0 {v : V} {xs : List V} : ixN (v :: xs).length 0 = some 0 := by
  unfold ixN
  rw [if_pos (by omega), if_pos (by simp <;> omega)]
  rfl
theorem pure_draw (K : PySem.W.Frag) {N : List Str} (vs : List V) (H : Hp) (Q : VK) (E : XK) (h : spDraw vs H Q E) (hN : N.length = 5) : t_draw K { nx := fun _ H' => Q .non H', rt := Q } (L2.start N vs) H := by
  obtain ⟨a, c, n, rfl, h0, h1, R, k⟩ := h
  obtain ⟨ne, ns, m, ha, hc, hn, hm⟩ := R
  have es : L2.start N [V.ref a, .int n] = [some (.ref a), some (.int n), none, none, none] := by
    unfold L2.start
    rw [hN]
    rfl
  rw [es]
  unfold t_draw
  walk_at "s"
  try refine i_ixL ha (by rfl) ?_
  walk_at "s"
  refine i_while (fun j σ H' => σ = [some (.ref a), some (.int n), some (.ref c), none, none] ∧ ∃ ns : List Int, j = ns.length ∧ H' a = some (.lst [.ref c, .int m]) ∧ H' c = some (.lst (ns.map V.int)) ∧ (∀ n ∈ ns, 0 ≤ n) ∧ Fra a c H H')
    _ ⟨rfl, ns, rfl, ha, hc, hn, Fra.refl⟩ ?_
  rintro j σ H1 ⟨rfl, ns, rfl, ha, hc, hn, fr⟩
  walk_at "s"
  try refine i_lenL hc ?_
  walk_at "s"
  cases ns with
  | nil =>
    try refine i_dn (by simp) ?_
    walk_at "s"
    try refine i_lenL hc ?_
    walk_at "s"
    try refine i_dn (by simp) ?_
    walk_at "s"
    try refine i_ixL ha (by rfl) ?_
    walk_at "s"
    try refine i_mulI (.inr ⟨by decide, by decide⟩) ?_
    walk_at "s"
    try refine i_rI (by show (0 : Int) < 2147483647; decide) ?_
    walk_at "s"
    refine i_setL ha (by rfl) ?_
    walk_at "s"
    refine i_rI ⟨by decide, by decide⟩ ?_
    walk_at "s"
    refine i_rI h0 ?_
    exact k _ _ (Int.emod_nonneg _ (by omega)) (Int.emod_lt_of_pos _ h0) ⟨ne, [], _, upd_same, by rw [upd_ne ne.symm]; exact hc, by simp, Int.emod_nonneg _ (by decide)⟩ (fra_upd1 fr)
  | cons z ns =>
    try refine i_dy (by simp <;> omega) ?_
    walk_at "s"
    try refine i_ixL hc at0 ?_
    walk_at "s"
    refine i_d2 (fun hz => ?_) (fun hz => ?_)
    · refine i_wgo ?_
      walk_at "s"
      try refine i_isL hc ?_
      walk_at "s"
      refine i_pop0 hc ?_
      exact ⟨ns.length, by simp, rfl, ns, rfl, by rw [upd_ne ne]; exact ha, upd_same, fun n h => hn n (List.mem_cons_of_mem _ h), fra_upd2 fr⟩
    · walk_at "s"
      try refine i_lenL hc ?_
      walk_at "s"
      try refine i_dy (by simp <;> omega) ?_
      walk_at "s"
      try refine i_ixL hc at0 ?_
      walk_at "s"
      refine i_rI ⟨h0, h1⟩ ?_
      walk_at "s"
      refine i_setL hc ixS0 ?_
      walk_at "s"
      refine i_rI h0 ?_
      have hz0 : 0 ≤ z := hn z List.mem_cons_self
      refine k _ _ (Int.emod_nonneg _ (by omega)) (Int.emod_lt_of_pos _ h0) ⟨ne, (z / n) :: ns, m, by rw [upd_ne ne]; exact ha, upd_same, fun y hy => ?_, hm⟩ (fra_upd2 fr)
      rcases List.mem_cons.mp hy with e | e
      · rw [e]
        exact Int.ediv_nonneg hz0 (by omega)
      · exact hn y (List.mem_cons_of_mem _ e)
theorem sz {n : Nat} (h : n ≤ 100000) : n ≤ sizeLine := Nat.le_trans h (by decide)
theorem szl {n : Nat} (h : n ≤ 100000) : n < sizeLine := Nat.lt_of_le_of_lt h (by decide)

/-! ### loops and comprehensions -/
section
variable {K : PySem.W.Frag} {a : Addr} {xs : List V} {g : TG} {tb : TS} {σ : L2.St} {H : Hp} {nx : L2.St → Hp → Prop} {rt : VK} {tt : TT} {te : TE} {v : Nat} {D : Addr} {Qd : Hp → Prop}
theorem i_forL (xs : List V) (Pv : Nat → L2.St → Hp → Prop) (h0 : Pv 0 σ H) (hl : ∀ i σ H, Pv i σ H → SqL K H a xs)
    (hs : ∀ i x σ H, xs[i]? = some x → Pv i σ H → g x σ H fun σ2 H2 => tb ⟨Pv (i + 1), rt, nx, Pv (i + 1)⟩ σ2 H2) (hd : ∀ σ H, Pv xs.length σ H → nx σ H) :
    (∃ xs, SqL K H a xs) ∧ ∃ W : Nat → Nat → L2.St → Hp → Prop, (∃ m, W 0 m σ H) ∧ ∀ i m σ H, W i m σ H → ((Itl K a).stop i H ∧ nx σ H) ∨ ((Itl K a).go i H ∧ ∃ N : L2.St → Hp → Prop, (∀ σ' H', N σ' H' → ∃ m', m' < m ∧ W (i + 1) m' σ' H') ∧ ∀ x H', (Itl K a).yld i H x H' → g x σ H' fun σ2 H2 => tb ⟨N, rt, nx, N⟩ σ2 H2) :=
  ⟨⟨xs, hl 0 σ H h0⟩, for_list (D := ⟨nx, rt, fun _ _ => False, fun _ _ => False⟩) (xs := xs) Pv h0 (fun i σ H _ p => hl i σ H p) hs hd⟩
theorem i_forT (xs : List V) (Pv : Nat → L2.St → Hp → Prop) (h0 : Pv 0 σ H) (hl : ∀ i σ H, Pv i σ H → SqT K H a xs)
    (hs : ∀ i x σ H, xs[i]? = some x → Pv i σ H → g x σ H fun σ2 H2 => tb ⟨Pv (i + 1), rt, nx, Pv (i + 1)⟩ σ2 H2) (hd : ∀ σ H, Pv xs.length σ H → nx σ H) :
    (∃ xs, SqT K H a xs) ∧ ∃ W : Nat → Nat → L2.St → Hp → Prop, (∃ m, W 0 m σ H) ∧ ∀ i m σ H, W i m σ H → ((Itt K a).stop i H ∧ nx σ H) ∨ ((Itt K a).go i H ∧ ∃ N : L2.St → Hp → Prop, (∀ σ' H', N σ' H' → ∃ m', m' < m ∧ W (i + 1) m' σ' H') ∧ ∀ x H', (Itt K a).yld i H x H' → g x σ H' fun σ2 H2 => tb ⟨N, rt, nx, N⟩ σ2 H2) :=
  ⟨⟨xs, hl 0 σ H h0⟩, for_tup (D := ⟨nx, rt, fun _ _ => False, fun _ _ => False⟩) (xs := xs) Pv h0 (fun i σ H _ p => hl i σ H p) hs hd⟩
theorem i_forR {j : Int} (n : Nat) (hj : j = (n : Int)) (hn : n ≤ 1000000000) (Pv : Nat → L2.St → Hp → Prop) (h0 : Pv 0 σ H)
    (hs : ∀ i σ H, i < n → Pv i σ H → g (.int (i : Int)) σ H fun σ2 H2 => tb ⟨Pv (i + 1), rt, nx, Pv (i + 1)⟩ σ2 H2) (hd : ∀ σ H, Pv n σ H → nx σ H) :
    -(2 ^ 62) ≤ j ∧ j < 2 ^ 62 ∧ ∃ W : Nat → Nat → L2.St → Hp → Prop, (∃ m, W 0 m σ H) ∧ ∀ i m σ H, W i m σ H → ((Itr 0 j.toNat).stop i H ∧ nx σ H) ∨ ((Itr 0 j.toNat).go i H ∧ ∃ N : L2.St → Hp → Prop, (∀ σ' H', N σ' H' → ∃ m', m' < m ∧ W (i + 1) m' σ' H') ∧ ∀ x H', (Itr 0 j.toNat).yld i H x H' → g x σ H' fun σ2 H2 => tb ⟨N, rt, nx, N⟩ σ2 H2) := by
  subst hj
  refine ⟨by omega, by omega, ?_⟩
  exact for_range (D := ⟨nx, rt, fun _ _ => False, fun _ _ => False⟩) (lo := 0) (n := n) Pv h0 (fun i σ H hi p => by rw [Int.zero_add]; exact hs i σ H hi p) hd
theorem i_forR2 {lo j : Int} (n : Nat) (hj : (j - lo).toNat = n) (hb : -(2 ^ 62) ≤ lo ∧ lo < 2 ^ 62 ∧ -(2 ^ 62) ≤ j ∧ j < 2 ^ 62) (Pv : Nat → L2.St → Hp → Prop) (h0 : Pv 0 σ H)
    (hs : ∀ (i : Nat) σ H, i < n → Pv i σ H → g (.int (lo + i)) σ H fun σ2 H2 => tb ⟨Pv (i + 1), rt, nx, Pv (i + 1)⟩ σ2 H2) (hd : ∀ σ H, Pv n σ H → nx σ H) :
    (-(2 ^ 62) ≤ lo ∧ lo < 2 ^ 62 ∧ -(2 ^ 62) ≤ j ∧ j < 2 ^ 62) ∧ ∃ W : Nat → Nat → L2.St → Hp → Prop, (∃ m, W 0 m σ H) ∧ ∀ i m σ H, W i m σ H → ((Itr lo (j - lo).toNat).stop i H ∧ nx σ H) ∨ ((Itr lo (j - lo).toNat).go i H ∧ ∃ N : L2.St → Hp → Prop, (∀ σ' H', N σ' H' → ∃ m', m' < m ∧ W (i + 1) m' σ' H') ∧ ∀ x H', (Itr lo (j - lo).toNat).yld i H x H' → g x σ H' fun σ2 H2 => tb ⟨N, rt, nx, N⟩ σ2 H2) := by
  subst hj
  exact ⟨hb, for_range (D := ⟨nx, rt, fun _ _ => False, fun _ _ => False⟩) (lo := lo) Pv h0 hs hd⟩
theorem wipe1 {v : Nat} {x : V} : (wipe σ [v]).set v (some x) = σ.set v (some x) := by
  show (σ.set v none).set v (some x) = _
  rw [List.set_set]
theorem wipe2 {v : Nat} {x : V} : wipe (σ.set v (some x)) [v] = wipe σ [v] := by
  show (σ.set v (some x)).set v none = σ.set v none
  rw [List.set_set]
/-- a comprehension over a list, one name -/
theorem i_lcL (xs : List V) (Pv : Nat → Hp → Prop) (h0 : Pv 0 (upd H D (.lst []))) (hl : ∀ i H, Pv i H → SqL K H a xs)
    (hs : ∀ i x H, xs[i]? = some x → Pv i H → tt (σ.set v (some x)) H fun b H3 => if b = true then te (σ.set v (some x)) H3 fun y H4 => ∃ acc, H4 D = some (.lst acc) ∧ acc.length < sizeLine ∧ Pv (i + 1) (upd H4 D (.lst (acc ++ [y]))) else Pv (i + 1) H3)
    (hd : ∀ H, Pv xs.length H → Qd H) :
    ∃ W : Nat → Nat → Hp → Prop, (∃ m, W 0 m (upd H D (.lst []))) ∧ ∀ i m H, W i m H → ((Itl K a).stop i H ∧ Qd H) ∨ ((Itl K a).go i H ∧ ∃ Nx : Hp → Prop, (∀ H', Nx H' → ∃ m', m' < m ∧ W (i + 1) m' H') ∧ ∀ x H', (Itl K a).yld i H x H' → gName v x (wipe σ [v]) H' fun σ2 H2 => wipe σ2 [v] = wipe σ [v] ∧ tt σ2 H2 fun b H3 => if b = true then te σ2 H3 fun y H4 => ∃ acc, H4 D = some (.lst acc) ∧ acc.length < sizeLine ∧ Nx (upd H4 D (.lst (acc ++ [y]))) else Nx H3) :=
  lc_list (xs := xs) Pv h0 (fun i H _ p => hl i H p) (fun i x H e p => by
    show wipe ((wipe σ [v]).set v (some x)) [v] = wipe σ [v] ∧ tt ((wipe σ [v]).set v (some x)) H _
    rw [wipe1]
    exact ⟨wipe2, hs i x H e p⟩) hd
/-- .. over range(n) -/
theorem i_lcR {j : Int} (n : Nat) (hj : j = (n : Int)) (Pv : Nat → Hp → Prop) (h0 : Pv 0 (upd H D (.lst [])))
    (hs : ∀ (i : Nat) H, i < n → Pv i H → tt (σ.set v (some (.int (i : Int)))) H fun b H3 => if b = true then te (σ.set v (some (.int (i : Int)))) H3 fun y H4 => ∃ acc, H4 D = some (.lst acc) ∧ acc.length < sizeLine ∧ Pv (i + 1) (upd H4 D (.lst (acc ++ [y]))) else Pv (i + 1) H3)
    (hd : ∀ H, Pv n H → Qd H) :
    ∃ W : Nat → Nat → Hp → Prop, (∃ m, W 0 m (upd H D (.lst []))) ∧ ∀ i m H, W i m H → ((Itr 0 j.toNat).stop i H ∧ Qd H) ∨ ((Itr 0 j.toNat).go i H ∧ ∃ Nx : Hp → Prop, (∀ H', Nx H' → ∃ m', m' < m ∧ W (i + 1) m' H') ∧ ∀ x H', (Itr 0 j.toNat).yld i H x H' → gName v x (wipe σ [v]) H' fun σ2 H2 => wipe σ2 [v] = wipe σ [v] ∧ tt σ2 H2 fun b H3 => if b = true then te σ2 H3 fun y H4 => ∃ acc, H4 D = some (.lst acc) ∧ acc.length < sizeLine ∧ Nx (upd H4 D (.lst (acc ++ [y]))) else Nx H3) := by
  subst hj
  exact lc_range (lo := 0) (n := n) Pv h0 (fun i H e p => by
    show wipe ((wipe σ [v]).set v (some (.int (0 + (i : Int))))) [v] = wipe σ [v] ∧ tt ((wipe σ [v]).set v (some (.int (0 + (i : Int))))) H _
    rw [wipe1, Int.zero_add]
    exact ⟨wipe2, hs i H e p⟩) hd
end

/-! ### the two places of the draws, and what grows beside them -/
/-- what stands beside the two places, grows -/
def Gr (a c : Addr) (H H' : Hp) : Prop := Same (hid [a, c] H) (hid [a, c] H')
section
variable {a c p : Addr} {H H' H1 : Hp} {o : HO}
theorem Gr.refl : Gr a c H H := Same.refl _
theorem Gr.trans (h : Gr a c H H1) (k : Gr a c H1 H') : Gr a c H H' := Same.trans h k
theorem Fra.hid (h : Fra a c H H') : hid [a, c] H' = hid [a, c] H := hid_eq fun b hb => h b (fun e => hb (by rw [e]; exact List.mem_cons_self)) fun e => hb (by rw [e]; exact List.mem_cons_of_mem _ List.mem_cons_self)
theorem Fra.gr (h : Fra a c H H') : Gr a c H H' := by
  unfold Gr
  rw [h.hid]
  exact Same.refl _
theorem Rng.at1 (R : Rng a c H) : ∃ o, H a = some o := let ⟨_, _, _, h, _⟩ := R; ⟨_, h⟩
theorem Rng.at2 (R : Rng a c H) : ∃ o, H c = some o := let ⟨_, _, _, _, h, _⟩ := R; ⟨_, h⟩
theorem Rng.fresh (R : Rng a c H) (h : H p = none) : p ≠ a ∧ p ≠ c := by
  obtain ⟨o1, e1⟩ := R.at1
  obtain ⟨o2, e2⟩ := R.at2
  exact ⟨fun e => (by rw [e, e1] at h; cases h), fun e => (by rw [e, e2] at h; cases h)⟩
theorem Rng.upd (R : Rng a c H) (h1 : p ≠ a) (h2 : p ≠ c) : Rng a c (L2.upd H p o) := by
  obtain ⟨ne, ns, m, ha, hc, hn, hm⟩ := R
  exact ⟨ne, ns, m, by rw [upd_ne h1.symm]; exact ha, by rw [upd_ne h2.symm]; exact hc, hn, hm⟩
theorem hid2 (h1 : p ≠ a) (h2 : p ≠ c) : p ∉ [a, c] := fun h => by
  rcases List.mem_cons.mp h with e | e
  · exact h1 e
  · rcases List.mem_cons.mp e with e | e
    · exact h2 e
    · cases e
/-- a new object -/
theorem new_step (R : Rng a c H) (h : H p = none) : Rng a c (L2.upd H p o) ∧ Gr a c H (L2.upd H p o) ∧ hid [a, c] (L2.upd H p o) p = some o ∧ p ≠ a ∧ p ≠ c := by
  obtain ⟨h1, h2⟩ := R.fresh h
  refine ⟨R.upd h1 h2, Lb.Same.hid (Same.newp h), ?_, h1, h2⟩
  rw [hid_out (hid2 h1 h2), upd_same]
theorem Gr.at (h : Gr a c H H') (e : hid [a, c] H p = some o) : H' p = some o := (hid_some (h _ _ e)).1
theorem hid_get (e : hid [a, c] H p = some o) : H p = some o := (hid_some e).1
theorem hid_ne (e : hid [a, c] H p = some o) : p ≠ a ∧ p ≠ c := by
  have h := (hid_some e).2
  exact ⟨fun q => h (by rw [q]; exact List.mem_cons_self), fun q => h (by rw [q]; exact List.mem_cons_of_mem _ List.mem_cons_self)⟩
end
def spPick : Sp := fun vs H Q _ => ∃ (a c p : Addr) (xs : List V), vs = [.ref a, .ref p] ∧ Rng a c H ∧ H p = some (.lst xs) ∧ p ≠ a ∧ p ≠ c ∧ xs ≠ [] ∧ xs.length ≤ 100000 ∧
  ∀ (H' : Hp) (v : V), v ∈ xs → Rng a c H' → Fra a c H H' → Q v H'
theorem len_pick {vs : List V} {H : Hp} {Q : VK} {E : XK} (h : spPick vs H Q E) : vs.length = 2 := by
  obtain ⟨a, c, p, xs, rfl, _⟩ := h
  rfl
def t_pick : TS := (tRet (tOp rIxA (tVar 1) (tCall spDraw [] E0 (tCons (tVar 0) (tCons (tCB rLenA (tCons (tVar 1) tNil)) tNil)))))
theorem pure_pick {N : List Str} (vs : List V) (H : Hp) (Q : VK) (E : XK) (h : spPick vs H Q E) (hN : N.length = 2) : t_pick { nx := fun _ H' => Q .non H', rt := Q } (L2.start N vs) H := by
  obtain ⟨a, c, p, xs, rfl, R, hp, n1, n2, hx, hz, k⟩ := h
  have es : L2.start N [V.ref a, .ref p] = [some (.ref a), some (.ref p)] := by
    unfold L2.start
    rw [hN]
    rfl
  rw [es]
  unfold t_pick
  walk_at "s"
  try refine i_lenL hp ?_
  walk_at "s"
  have hl : 0 < xs.length := List.length_pos_iff.mpr hx
  refine ⟨a, c, xs.length, rfl, by omega, by omega, R, fun H' r h0 h1 R' fr => ?_⟩
  have hp' : H' p = some (.lst xs) := by rw [fr p n1 n2]; exact hp
  obtain ⟨j, rfl⟩ : ∃ j : Nat, r = (j : Int) := ⟨r.toNat, by omega⟩
  have hj : j < xs.length := by omega
  refine i_ixL hp' (atI_nat (List.getElem?_eq_getElem hj)) ?_
  exact k H' _ (List.getElem_mem hj) R' fr
def spState (K : PySem.W.Frag) : Sp := fun vs H Q _ => ∃ (s : Addr) (ns : List Int), vs = [.ref s] ∧ SqL K H s (ns.map V.int) ∧ ns.length ≤ 63 ∧
  ∀ (H' : Hp) (a c : Addr), Same H H' → Rng a c H' → H a = none → H c = none → Q (.ref a) H'
theorem len_state {K : PySem.W.Frag} {vs : List V} {H : Hp} {Q : VK} {E : XK} (h : spState K vs H Q E) : vs.length = 1 := by
  obtain ⟨a, ns, rfl, _⟩ := h
  rfl
def t_state (K : PySem.W.Frag) : TS :=
  (tSeq (tAsg (tC (.int 7)) (gName 1)) (tSeq (tFor (iList K (tVar 0)) (gName 2) (tAsg (tOp (rI (fun _ j => 0 < j) fun i j => .int (i % j)) (tCB rIntA (tCons (tOp rAddA (tOp rMulA (tVar 1) (tC (.int 31))) (tVar 2)) tNil)) (tC (.int 1000003))) (gName 1))) (tRet (tLst (tCons (tLc (iList K (tVar 0)) (gName 2) tYes (tCB rAbsA (tCons (tVar 2) tNil)) [2]) (tCons (tOp rAddA (tVar 1) (tC (.int 1))) tNil))))))
theorem ints_at {ns : List Int} {i : Nat} {x : V} (h : (ns.map V.int)[i]? = some x) : ∃ z, x = .int z ∧ ns[i]? = some z := by
  rw [List.getElem?_map] at h
  cases e : ns[i]? with
  | none => rw [e] at h; cases h
  | some z => rw [e] at h; exact ⟨z, (Option.some.inj h).symm, rfl⟩
theorem pure_state (K : PySem.W.Frag) {N : List Str} (vs : List V) (H : Hp) (Q : VK) (E : XK) (h : spState K vs H Q E) (hN : N.length = 3) : t_state K { nx := fun _ H' => Q .non H', rt := Q } (L2.start N vs) H := by
  obtain ⟨s, ns, rfl, hS, hl, k⟩ := h
  have es : L2.start N [V.ref s] = [some (.ref s), none, none] := by
    unfold L2.start
    rw [hN]
    rfl
  rw [es]
  unfold t_state
  walk_at "s"
  refine i_forL (ns.map V.int) (fun i σ H' => H' = H ∧ ∃ (z : Int) (v : Option V), 0 ≤ z ∧ σ = [some (.ref s), some (.int z), v]) ⟨rfl, 7, none, by decide, rfl⟩ (fun i σ H' ⟨e, _⟩ => by rw [e]; exact hS) ?_ ?_
  · rintro i x σ H' hx ⟨rfl, z, v, hz, rfl⟩
    obtain ⟨y, rfl, _⟩ := ints_at hx
    walk_at "s"
    try refine i_mulI (.inr ⟨by decide, by decide⟩) ?_
    walk_at "s"
    refine i_rI (by show (0 : Int) < 1000003; decide) ?_
    walk_at "s"
    exact ⟨rfl, _, _, Int.emod_nonneg _ (by decide), rfl⟩
  · rintro σ H' ⟨rfl, z, v, hz, rfl⟩
    walk_at "s"
    refine ⟨⟨_, hS⟩, fun D hD => ?_⟩
    refine i_lcL (ns.map V.int) (fun i H2 => Same H' H2 ∧ ∃ ms : List Int, H2 D = some (.lst (ms.map V.int)) ∧ ms.length = i ∧ ∀ m ∈ ms, 0 ≤ m) ⟨Same.newp hD, [], upd_same, rfl, by simp⟩ (fun i H2 p => p.1.seq hS) ?_ ?_
    · rintro i x H2 hx ⟨sm, ms, hm, hml, hm0⟩
      obtain ⟨y, rfl, hy⟩ := ints_at hx
      have hi : i < ns.length := (List.getElem?_eq_some_iff.mp hy).1
      walk_at "s"
      refine ⟨_, hm, by rw [List.length_map]; exact szl (by omega), fun b o e => ?_, ms ++ [if y < 0 then -y else y], ?_, by rw [List.length_append, hml]; rfl, fun q hq => ?_⟩
      · rw [upd_ne (ne_of_none e hD)]
        exact sm b o e
      · rw [upd_same, List.map_append]
        rfl
      · rcases List.mem_append.mp hq with e | e
        · exact hm0 q e
        · rw [List.mem_singleton.mp e]
          split <;> omega
    · rintro H2 ⟨sm, ms, hm, hml, hm0⟩
      walk_at "s"
      refine ⟨sz (by simp), fun p hp => ?_⟩
      have npD : p ≠ D := fun e => by rw [e, hm] at hp; cases hp
      refine k _ p D (sm.trans (Same.newp hp)) ⟨npD, ms, z + 1, upd_same, by rw [upd_ne npD.symm]; exact hm, hm0, by omega⟩ (sm.free hp) hD

end Lb
set_option Elab.async false
set_option linter.all false
set_option maxRecDepth 100000
set_option maxHeartbeats 4000000
/-! Le: data that may be compared, heaps that only grow. Knows no program. -/
namespace Lb
open PySem PySem.Spec PyProof.Rows L2
/-- data without dicts, at most n deep -/
def Sh (n : Nat) (d : PyData) : Prop := d.canLay0 = true ∧ d.depth ≤ n
def ShA (n : Nat) (ds : List PyData) : Prop := PyData.canLayAll0 ds = true ∧ PyData.depthAll ds ≤ n
section
variable {n m : Nat} {d : PyData} {ds es : List PyData}
theorem Sh.shp (h : Sh n d) (hn : n ≤ 64 := by decide) : Shp d := by
  unfold Shp SeqAt.shaped
  rw [h.1, Bool.true_and, decide_eq_true (Nat.le_trans h.2 hn)]
theorem Sh.mono (h : Sh n d) (hn : n ≤ m) : Sh m d := ⟨h.1, Nat.le_trans h.2 hn⟩
theorem ShA.mono (h : ShA n ds) (hn : n ≤ m) : ShA m ds := ⟨h.1, Nat.le_trans h.2 hn⟩
theorem Sh.non : Sh n .none := ⟨rfl, Nat.zero_le _⟩
theorem Sh.bl {b : Bool} : Sh n (.bool b) := ⟨rfl, Nat.zero_le _⟩
theorem Sh.int {i : Int} : Sh n (.int i) := ⟨rfl, Nat.zero_le _⟩
theorem Sh.str {x : Str} (h : PyData.canLay0 (.str x) = true) : Sh n (.str x) := ⟨h, Nat.zero_le _⟩
theorem Sh.lst (h : ShA n ds) : Sh (n + 1) (.list ds) := ⟨h.1, Nat.succ_le_succ h.2⟩
theorem Sh.tup (h : ShA n ds) : Sh (n + 1) (.tuple ds) := ⟨h.1, Nat.succ_le_succ h.2⟩
theorem ShA.nil : ShA n [] := ⟨rfl, Nat.zero_le _⟩
theorem ShA.cons (h : Sh n d) (k : ShA n ds) : ShA n (d :: ds) := by
  refine ⟨?_, Nat.max_le.mpr ⟨h.2, k.2⟩⟩
  show (d.canLay0 && PyData.canLayAll0 ds) = true
  rw [h.1, k.1]
  rfl
theorem ShA.all : ∀ {ds : List PyData}, (∀ d ∈ ds, Sh n d) → ShA n ds
  | [], _ => .nil
  | d :: r, h => .cons (h d List.mem_cons_self) (ShA.all fun e he => h e (List.mem_cons_of_mem _ he))
theorem ShA.ints {ns : List Int} : ShA n (ns.map PyData.int) := .all fun d h => by
  obtain ⟨i, _, rfl⟩ := List.mem_map.mp h
  exact .int
theorem ShA.append (h : ShA n ds) (k : ShA n es) : ShA n (ds ++ es) := by
  induction ds with
  | nil => exact k
  | cons d r ih =>
    have h1 : (d.canLay0 && PyData.canLayAll0 r) = true := h.1
    have h2 := Bool.and_eq_true_iff.mp h1
    have h3 := Nat.max_le.mp h.2
    exact .cons ⟨h2.1, h3.1⟩ (ih ⟨h2.2, h3.2⟩)
end
section
variable {a c p : Addr} {H H' : Hp} {o : HO}
theorem Rng.same (R : Rng a c H) (s : Same H H') : Rng a c H' := by
  obtain ⟨ne, ns, m, ha, hc, hn, hm⟩ := R
  exact ⟨ne, ns, m, s _ _ ha, s _ _ hc, hn, hm⟩
theorem Gr.same (s : Same H H') : Gr a c H H' := Lb.Same.hid s
/-- what stands beside the two places stands -/
theorem Gr.keep (g : Gr a c H H') (h1 : p ≠ a) (h2 : p ≠ c) (e : H p = some o) : H' p = some o := g.at (by rw [hid_out (hid2 h1 h2)]; exact e)
theorem hid_of (h1 : p ≠ a) (h2 : p ≠ c) (e : H p = some o) : hid [a, c] H p = some o := by
  rw [hid_out (hid2 h1 h2)]
  exact e
theorem hid_upd_ne {b : Addr} {S : List Addr} (h : b ≠ p) : hid S (upd H p o) b = hid S H b := by
  by_cases q : b ∈ S
  · rw [hid_in q, hid_in q]
  · rw [hid_out q, hid_out q, upd_ne h]
end
end Lb
set_option Elab.async false
set_option linter.all false
set_option maxRecDepth 100000
set_option maxHeartbeats 4000000
/-! From a def's facts to its callable. -/
namespace Lb
open PySem PySem.Spec PyProof.Rows L2
section
variable {P : Program} {w : World} {K : PySem.W.Frag} {h : Heap} {mg : Str → Option Value} {base : Heap} {x m cls qual name : Str} {k : Nat} {ps : List Str} {sp : Sp} {f : Addr} {fd : FuncData}
variable {params : Arguments} {body : List Stmt} {scope : Scope}
def spF : Sp := fun _ _ _ _ => False
theorem okF : FnOk P w K mg base CX0 k f fd ps spF := ⟨fun _ _ _ _ q => False.elim q, fun _ _ _ _ _ _ _ _ _ _ _ _ _ q => False.elim q⟩
theorem mkCal (F : FunD K name qual params body scope [] [] f fd) (g : mg x = some (.ref f)) (hb : Binds K fd ps []) (O : FnOk P w K mg base CX0 k f fd ps sp) : Cal P w K mg base x k ps sp := ⟨⟨_, _, g, F.kp, hb, O⟩⟩
theorem mkCalM {C : Addr} (hc : Cls K C) (hm : Meth K C m f) (hb : Binds K fd ps []) (O : FnOk P w K mg base CX0 k f fd ps sp) : CalM P w K mg base C m k ps sp := ⟨⟨_, _, hc, hm, hb, O⟩⟩
theorem mkCalC {C : Addr} (g : mg x = some (.ref C)) (M : Mk K C f) (hb : Binds K fd ps []) (O : FnOk P w K mg base CX0 k f fd ps sp) : CalC P w K mg base x C k ps sp := ⟨⟨_, _, g, M, hb, O⟩⟩
theorem Cal.up {j : Nat} (c : Cal P w K mg base x j ps sp) (hl : j ≤ k) : Cal P w K mg base x k ps sp := by
  obtain ⟨f, fd, g, kp, hb, O⟩ := c.ex
  exact ⟨⟨f, fd, g, kp, hb, O.mono hl⟩⟩
theorem Cal.weak {sp' : Sp} (c : Cal P w K mg base x k ps sp) (hs : ∀ vs H Q E, sp' vs H Q E → sp vs H Q E) : Cal P w K mg base x k ps sp' := by
  obtain ⟨f, fd, g, kp, hb, O⟩ := c.ex
  exact ⟨⟨f, fd, g, kp, hb, O.imp hs⟩⟩
theorem look_cf {c : Str → NameKind → Bool} {x : Str} : ∀ {names : List (Str × NameKind)}, names.lookup x = some .cell ∨ names.lookup x = some .free → (names.map fun (n, k) => if c n k = true then (n, NameKind.cell) else (n, k)).lookup x = some .cell ∨ (names.map fun (n, k) => if c n k = true then (n, NameKind.cell) else (n, k)).lookup x = some .free
  | [], h => by rcases h with h | h <;> cases h
  | (n, k) :: r, h => by
    show List.lookup x ((if c n k = true then (n, NameKind.cell) else (n, k)) :: _) = _ ∨ List.lookup x ((if c n k = true then (n, NameKind.cell) else (n, k)) :: _) = _
    by_cases e : x = n
    · subst e
      have h2 : k = .cell ∨ k = .free := by
        rcases h with h | h
        · rw [List.lookup_cons_self] at h
          exact .inl (Option.some.inj h)
        · rw [List.lookup_cons_self] at h
          exact .inr (Option.some.inj h)
      by_cases q : c x k = true
      · rw [if_pos q, List.lookup_cons_self]
        exact .inl rfl
      · rw [if_neg q, List.lookup_cons_self]
        rcases h2 with z | z <;> rw [z]
        · exact .inl rfl
        · exact .inr rfl
    · have hb : (x == n) = false := beq_false_of_ne e
      have h2 : r.lookup x = some .cell ∨ r.lookup x = some .free := by
        simp only [List.lookup, hb] at h
        exact h
      have ih := look_cf (c := c) h2
      by_cases q : c n k = true
      · rw [if_pos q]
        simp only [List.lookup, hb]
        exact ih
      · rw [if_neg q]
        simp only [List.lookup, hb]
        exact ih
theorem blkOk_in {N : List Str} {sc scope2 : Scope} {own : List (Str × Nat)} {cl : List (Str × Addr)} {C : Addr} {e : Env} (h : blkC N sc scope2 own = true) : BlkOk N (compEnvC sc cl C e).scope scope2 own := by
  have b := blkOk_by h
  exact ⟨b.kind, b.uniq, b.ix, fun y hy q => look_cf (c := fun n k => (k == NameKind.free && e.scope.kind == .function && e.kindOf n == some .cell)) (b.free y hy q), b.own⟩
theorem gv_int (X : K.In h) (G : h.Ns mainGlobals mg) {i : Int} (c : (He.Fa.int x i).ok K = true) : GV mg x (.int i) := by
  obtain ⟨t, e⟩ := He.int_ok X G c
  exact ⟨⟨_, e, t, rfl⟩⟩
theorem gv_str (X : K.In h) (G : h.Ns mainGlobals mg) {i : Str} (c : (He.Fa.str x i).ok K = true) : GV mg x (.str i) := by
  obtain ⟨t, e⟩ := He.str_ok X G c
  exact ⟨⟨_, e, t, rfl⟩⟩
theorem gv_glo (X : K.In h) (G : h.Ns mainGlobals mg) (c : (He.Fa.glo x).ok K = true) : GV mg x (.ref (He.ga K x)) := ⟨⟨_, He.glo_ok X G c, rfl⟩⟩
end
end Lb
set_option Elab.async false
set_option linter.all false
set_option maxRecDepth 100000
set_option maxHeartbeats 4000000
/-! Lo: what a walk owns: places that it may change, each with its contents, beside a part of the heap that stays. Knows no program. -/
namespace Lb
open PySem PySem.Spec PyProof.Rows L2
structure Own (a c : Addr) (B H : Hp) (ls : List (Addr × HO)) : Prop where
  R : Rng a c H
  keep : Same B H
  nd : (ls.map Prod.fst).Nodup
  out : ∀ x ∈ ls, B x.1 = none ∧ x.1 ≠ a ∧ x.1 ≠ c
  here : ∀ x ∈ ls, H x.1 = some x.2
  ha : B a = none
  hc : B c = none
inductive Up1 (p : Addr) (o o' : HO) : List (Addr × HO) → List (Addr × HO) → Prop
  | here {r : List (Addr × HO)} : Up1 p o o' ((p, o) :: r) ((p, o') :: r)
  | there {x : Addr × HO} {r r' : List (Addr × HO)} (h : Up1 p o o' r r') : Up1 p o o' (x :: r) (x :: r')
section
variable {a c p : Addr} {B H H' : Hp} {o o' : HO} {ls ls' l1 l2 : List (Addr × HO)}
theorem Up1.mem (h : Up1 p o o' ls ls') : (p, o) ∈ ls := by
  induction h with
  | here => exact List.mem_cons_self
  | there _ ih => exact List.mem_cons_of_mem _ ih
theorem Up1.fst (h : Up1 p o o' ls ls') : ls'.map Prod.fst = ls.map Prod.fst := by
  induction h with
  | here => rfl
  | there _ ih => rw [List.map_cons, List.map_cons, ih]
theorem Up1.of (h : Up1 p o o' ls ls') : ∀ x ∈ ls', x = (p, o') ∨ x ∈ ls := by
  induction h with
  | here => exact fun x hx => (List.mem_cons.mp hx).imp id (List.mem_cons_of_mem _)
  | there _ ih =>
    intro x hx
    rcases List.mem_cons.mp hx with e | e
    · exact .inr (by rw [e]; exact List.mem_cons_self)
    · exact (ih x e).imp id (List.mem_cons_of_mem _)
theorem Up1.other (h : Up1 p o o' ls ls') (nd : (ls.map Prod.fst).Nodup) : ∀ x ∈ ls', x = (p, o') ∨ (x ∈ ls ∧ x.1 ≠ p) := by
  induction h with
  | here =>
    intro x hx
    rcases List.mem_cons.mp hx with e | e
    · exact .inl e
    · refine .inr ⟨List.mem_cons_of_mem _ e, fun q => ?_⟩
      have h1 := (List.nodup_cons.mp nd).1
      exact h1 (by
        have z := List.mem_map_of_mem (f := Prod.fst) e
        rw [q] at z
        exact z)
  | @there y r r' k ih =>
    intro x hx
    have h1 := List.nodup_cons.mp nd
    rcases List.mem_cons.mp hx with e | e
    · refine .inr ⟨by rw [e]; exact List.mem_cons_self, fun q => ?_⟩
      exact h1.1 (by rw [← e, q]; exact List.mem_map_of_mem (f := Prod.fst) k.mem)
    · exact (ih h1.2 x e).imp id fun z => ⟨List.mem_cons_of_mem _ z.1, z.2⟩
theorem Own.mem (O : Own a c B H ls) (h : (p, o) ∈ ls) : H p = some o := O.here _ h
theorem Own.kp (O : Own a c B H ls) (h : B p = some o) : H p = some o := O.keep _ _ h
theorem Own.draw (O : Own a c B H ls) (R : Rng a c H') (f : Fra a c H H') : Own a c B H' ls := by
  refine ⟨R, fun b o e => ?_, O.nd, O.out, fun x hx => ?_, O.ha, O.hc⟩
  · rw [f b (fun q => by rw [q, O.ha] at e; cases e) fun q => by rw [q, O.hc] at e; cases e]
    exact O.keep _ _ e
  · rw [f _ (O.out x hx).2.1 (O.out x hx).2.2]
    exact O.here x hx
theorem Own.same (O : Own a c B H ls) (s : Same H H') : Own a c B H' ls := ⟨O.R.same s, fun b o e => s _ _ (O.keep _ _ e), O.nd, O.out, fun x hx => s _ _ (O.here x hx), O.ha, O.hc⟩
theorem Own.set (O : Own a c B H ls) (h : Up1 p o o' ls ls') : Own a c B (upd H p o') ls' := by
  have hp := O.out _ h.mem
  refine ⟨O.R.upd hp.2.1 hp.2.2, fun b u e => ?_, by rw [h.fst]; exact O.nd, fun x hx => ?_, fun x hx => ?_, O.ha, O.hc⟩
  · rw [upd_ne (fun q => by rw [q, hp.1] at e; cases e)]
    exact O.keep _ _ e
  · rcases h.of x hx with e | e
    · rw [e]
      exact hp
    · exact O.out x e
  · rcases h.other O.nd x hx with e | e
    · rw [e]
      exact upd_same
    · rw [upd_ne e.2]
      exact O.here x e.1
theorem Own.new (O : Own a c B H ls) (hp : H p = none) : Own a c B (upd H p o) ((p, o) :: ls) := by
  obtain ⟨n1, n2⟩ := O.R.fresh hp
  have hb : B p = none := by
    cases e : B p with
    | none => rfl
    | some u => rw [O.keep _ _ e] at hp; cases hp
  have hne : ∀ x ∈ ls, x.1 ≠ p := fun x hx q => by
    have := O.here x hx
    rw [q, hp] at this
    cases this
  refine ⟨O.R.upd n1 n2, fun b u e => ?_, ?_, fun x hx => ?_, fun x hx => ?_, O.ha, O.hc⟩
  · rw [upd_ne (fun q => by rw [q, hb] at e; cases e)]
    exact O.keep _ _ e
  · rw [List.map_cons]
    refine List.nodup_cons.mpr ⟨fun q => ?_, O.nd⟩
    obtain ⟨x, hx, e⟩ := List.mem_map.mp q
    exact hne x hx e
  · rcases List.mem_cons.mp hx with e | e
    · rw [e]
      exact ⟨hb, n1, n2⟩
    · exact O.out x e
  · rcases List.mem_cons.mp hx with e | e
    · rw [e]
      exact upd_same
    · rw [upd_ne (hne x e)]
      exact O.here x e
theorem Own.perm (O : Own a c B H ls) (h : ls.Perm ls') : Own a c B H ls' :=
  ⟨O.R, O.keep, (h.map _).nodup_iff.mp O.nd, fun x hx => O.out x (h.mem_iff.mpr hx), fun x hx => O.here x (h.mem_iff.mpr hx), O.ha, O.hc⟩
/-- the contents of a part of what is owned -/
def cellsH (ls : List (Addr × HO)) : Hp := fun p => ls.lookup p
theorem look_mem {x : Addr × HO} : ∀ {ls : List (Addr × HO)}, (ls.map Prod.fst).Nodup → x ∈ ls → ls.lookup x.1 = some x.2
  | [], _, h => by cases h
  | y :: r, nd, h => by
    have h1 := List.nodup_cons.mp nd
    rcases List.mem_cons.mp h with e | e
    · rw [e]
      show (match y.1 == y.1 with | true => some y.2 | false => r.lookup y.1) = _
      rw [beq_self_eq_true]
    · have ne : ¬ x.1 = y.1 := fun q => h1.1 (by rw [← q]; exact List.mem_map_of_mem e)
      show (match x.1 == y.1 with | true => some y.2 | false => r.lookup x.1) = _
      rw [beq_false_of_ne ne]
      exact look_mem h1.2 e
theorem look_none {p : Addr} : ∀ {ls : List (Addr × HO)}, p ∉ ls.map Prod.fst → ls.lookup p = none
  | [], _ => rfl
  | y :: r, h => by
    have ne : ¬ p = y.1 := fun q => h (by rw [q]; exact List.mem_cons_self)
    show (match p == y.1 with | true => some y.2 | false => r.lookup p) = _
    rw [beq_false_of_ne ne]
    exact look_none fun q => h (List.mem_cons_of_mem _ q)
/-- a part of it stays from now on -/
theorem Own.hide (O : Own a c B H (l1 ++ l2)) : ∃ B', Same B B' ∧ (∀ x ∈ l1, B' x.1 = some x.2) ∧ (∀ q ∉ l1.map Prod.fst, B' q = B q) ∧ Own a c B' H l2 := by
  have nd : (l1.map Prod.fst ++ l2.map Prod.fst).Nodup := by
    rw [← List.map_append]
    exact O.nd
  obtain ⟨n1, n2, n3⟩ := List.nodup_append.mp nd
  have key : ∀ q ∉ l1.map Prod.fst, (match l1.lookup q with | some o => some o | none => B q) = B q := fun q hq => by rw [look_none hq]
  have at1 : ∀ x ∈ l1, (match l1.lookup x.1 with | some o => some o | none => B x.1) = some x.2 := fun x hx => by rw [look_mem n1 hx]
  refine ⟨fun q => match l1.lookup q with | some o => some o | none => B q, fun b u e => ?_, at1, key, O.R, fun b u e => ?_, n2, fun x hx => ?_, fun x hx => O.here x (List.mem_append_right _ hx), ?_, ?_⟩
  · refine (key b fun hq => ?_).trans e
    obtain ⟨x, hx, ex⟩ := List.mem_map.mp hq
    have := (O.out x (List.mem_append_left _ hx)).1
    rw [ex, e] at this
    cases this
  · by_cases hq : b ∈ l1.map Prod.fst
    · obtain ⟨x, hx, ex⟩ := List.mem_map.mp hq
      rw [← ex] at e ⊢
      have e2 : some x.2 = some u := (at1 x hx).symm.trans e
      rw [← e2]
      exact O.here x (List.mem_append_left _ hx)
    · exact O.keep _ _ ((key b hq).symm.trans e)
  · have o1 := O.out x (List.mem_append_right _ hx)
    refine ⟨?_, o1.2⟩
    exact (key _ fun hq => n3 _ hq _ (List.mem_map_of_mem hx) rfl).trans o1.1
  · show (match l1.lookup a with | some o => some o | none => B a) = none
    rw [key a fun hq => ?_]
    · exact O.ha
    obtain ⟨x, hx, ex⟩ := List.mem_map.mp hq
    exact (O.out x (List.mem_append_left _ hx)).2.1 ex
  · show (match l1.lookup c with | some o => some o | none => B c) = none
    rw [key c fun hq => ?_]
    · exact O.hc
    obtain ⟨x, hx, ex⟩ := List.mem_map.mp hq
    exact (O.out x (List.mem_append_left _ hx)).2.2 ex
theorem Own.freeze (O : Own a c B H ((p, o) :: ls)) : ∃ B', Same B B' ∧ B' p = some o ∧ Own a c B' H ls := by
  obtain ⟨B', s, h, _, O'⟩ := Own.hide (l1 := [(p, o)]) O
  exact ⟨B', s, h _ List.mem_cons_self, O'⟩
/-- .. and is owned again -/
theorem Own.unhide (O : Own a c B H l2) (nd : (l1.map Prod.fst).Nodup) (h : ∀ x ∈ l1, B x.1 = some x.2) : Own a c (hid (l1.map Prod.fst) B) H (l1 ++ l2) := by
  refine ⟨O.R, fun b u e => O.keep _ _ (hid_some e).1, ?_, fun x hx => ?_, fun x hx => ?_, ?_, ?_⟩
  · rw [List.map_append]
    refine List.nodup_append.mpr ⟨nd, O.nd, fun u hu v hv e => ?_⟩
    obtain ⟨x, hx, ex⟩ := List.mem_map.mp hu
    obtain ⟨y, hy, ey⟩ := List.mem_map.mp hv
    have h1 := h x hx
    have h2 := (O.out y hy).1
    rw [ey, ← e, ← ex, h1] at h2
    cases h2
  · rcases List.mem_append.mp hx with e | e
    · refine ⟨hid_in (List.mem_map_of_mem e), fun q => ?_, fun q => ?_⟩
      · have := h x e
        rw [q, O.ha] at this
        cases this
      · have := h x e
        rw [q, O.hc] at this
        cases this
    · refine ⟨?_, (O.out x e).2⟩
      by_cases q : x.1 ∈ l1.map Prod.fst
      · exact hid_in q
      · rw [hid_out q]
        exact (O.out x e).1
  · rcases List.mem_append.mp hx with e | e
    · exact O.keep _ _ (h x e)
    · exact O.here x e
  · by_cases q : a ∈ l1.map Prod.fst
    · exact hid_in q
    · rw [hid_out q]
      exact O.ha
  · by_cases q : c ∈ l1.map Prod.fst
    · exact hid_in q
    · rw [hid_out q]
      exact O.hc
theorem Same.hidO {l : List Addr} (s : Same B H) (h : ∀ p ∈ l, B p = none) : Same B (Lb.hid l H) := fun b u e => by
  rw [hid_out fun q => by rw [h b q] at e; cases e]
  exact s _ _ e
end
/-- what came since -/
inductive Pre (l0 : List (Addr × HO)) : List (Addr × HO) → List (Addr × HO) → Prop
  | nil : Pre l0 l0 []
  | cons {x : Addr × HO} {l l1 : List (Addr × HO)} (h : Pre l0 l l1) : Pre l0 (x :: l) (x :: l1)
inductive PutF (f : Str) (y : V) : List (Str × V) → List (Str × V) → Prop
  | nil : PutF f y [] [(f, y)]
  | here {x : V} {r : List (Str × V)} : PutF f y ((f, x) :: r) ((f, y) :: r)
  | there {g : Str} {x : V} {r r' : List (Str × V)} (n : ¬ g = f) (h : PutF f y r r') : PutF f y ((g, x) :: r) ((g, x) :: r')
inductive LkF (f : Str) (v : Option V) : List (Str × V) → Prop
  | nil (h : v = none) : LkF f v []
  | here {x : V} {r : List (Str × V)} (h : v = some x) : LkF f v ((f, x) :: r)
  | there {g : Str} {x : V} {r : List (Str × V)} (n : ¬ f = g) (h : LkF f v r) : LkF f v ((g, x) :: r)
section
variable {a c p : Addr} {B H H' : Hp} {o o' : HO} {ls ls' l0 l1 l2 : List (Addr × HO)} {f : Str} {y : V} {fs fs' : List (Str × V)} {w : Option V}
theorem Pre.eq (h : Pre l0 l1 l2) : l1 = l2 ++ l0 := by
  induction h with
  | nil => rfl
  | cons _ ih => rw [ih]; rfl
theorem PutF.eq (h : PutF f y fs fs') : putF f y fs = fs' := by
  induction h with
  | nil => rfl
  | here => exact if_pos rfl
  | there n _ ih => exact (if_neg n).trans (by rw [ih])
theorem LkF.eq (h : LkF f w fs) : fs.lookup f = w := by
  induction h with
  | nil e => exact e.symm
  | @here x r e =>
    show (match f == f with | true => some x | false => r.lookup f) = w
    rw [beq_self_eq_true]
    exact e.symm
  | @there g x r n _ ih =>
    show (match f == g with | true => some x | false => r.lookup f) = w
    rw [beq_false_of_ne n]
    exact ih
theorem Own.settle (O : Own a c B H ls) (h : Pre l0 ls l1) : ∃ B', Same B B' ∧ (∀ x ∈ l1, B' x.1 = some x.2) ∧ Own a c B' H l0 := by
  rw [h.eq] at O
  obtain ⟨B', s, k, _, O'⟩ := O.hide
  exact ⟨B', s, k, O'⟩
theorem Own.drop (O : Own a c B H (l1 ++ l2)) : Own a c B H l2 :=
  ⟨O.R, O.keep, (by
    have nd := O.nd
    rw [List.map_append] at nd
    exact (List.nodup_append.mp nd).2.1), fun x hx => O.out x (List.mem_append_right _ hx), fun x hx => O.here x (List.mem_append_right _ hx), O.ha, O.hc⟩
theorem Own.dropP (O : Own a c B H ls) (h : Pre l0 ls l1) : Own a c B H l0 := by
  rw [h.eq] at O
  exact O.drop
theorem Own.start (R : Rng a c H) : Own a c (hid [a, c] H) H [] := ⟨R, hid_sub, List.nodup_nil, fun _ h => (List.not_mem_nil h).elim, fun _ h => (List.not_mem_nil h).elim, hid_in List.mem_cons_self, hid_in (List.mem_cons_of_mem _ List.mem_cons_self)⟩
end
/-! ### steps by what is owned -/
section
variable {a c p : Addr} {B H : Hp} {ls ls' : List (Addr × HO)} {Q : VK} {xs : List V} {o : HO} {σ : L2.St}
/-- a new place -/
def NewO (o : HO) (H : Hp) (Q : VK) : Prop := ∀ p, H p = none → Q (.ref p) (upd H p o)
def FldS (K : PySem.W.Frag) (x : V) (f : Str) (y : V) (H : Hp) (R : Hp → Prop) : Prop := ∃ a C dx fs, x = .ref a ∧ H a = some (.ins C dx fs) ∧ Cls K C ∧ NoAttr K C f ∧ fs.length < 1000 ∧ R (upd H a (.ins C dx (putF f y fs)))
def NewI (C : Addr) (sp : Sp) (vs : List V) (H : Hp) (Q : VK) (E : XK) : Prop := ∀ x dx, H x = none → H dx = none → dx ≠ x → sp (.ref x :: vs) (upd (upd H dx (.own x)) x (.ins C dx [])) (fun v H2 => v = .non ∧ Q (.ref x) H2) E
theorem i_tupN {t : TA} (q : t σ H fun xs H1 => xs.length ≤ sizeLine ∧ NewO (.tup xs) H1 Q) : tTup t σ H Q := q
theorem i_lstN {t : TA} (q : t σ H fun xs H1 => xs.length ≤ sizeLine ∧ NewO (.lst xs) H1 Q) : tLst t σ H Q := q
theorem i_dnewN (q : NewO (.dK []) H Q) : tDNewK σ H Q := q
theorem i_fldSN {K : PySem.W.Frag} {ta tv : TE} {f : Str} {nx : L2.St → Hp → Prop} {rt : VK} {bk ct : L2.St → Hp → Prop} (q : tv σ H fun y H1 => ta σ H1 fun x H2 => FldS K x f y H2 fun H3 => nx σ H3) : sFld K ta tv f ⟨nx, rt, bk, ct⟩ σ H := q
theorem i_makeN {C : Addr} {sp : Sp} {E : XK} {t : TA} (q : t σ H fun vs H1 => NewI C sp (vs ++ []) H1 Q E) : tMake C sp [] E t σ H Q := q
theorem i_listN {p : Addr} (h : H p = some (.lst xs)) (k : NewO (.lst xs) H Q) : rListA [.ref p] H Q := i_listL h k
theorem i_listTN {p : Addr} (h : H p = some (.tup xs)) (k : NewO (.lst xs) H Q) : rListA [.ref p] H Q := i_listT h k
theorem i_addN {p q : Addr} {ys : List V} (h1 : H p = some (.lst xs)) (h2 : H q = some (.lst ys)) (h : xs.length + ys.length ≤ sizeLine) (k : NewO (.lst (xs ++ ys)) H Q) : rAddA (.ref p) (.ref q) H Q := i_addL h1 h2 h k
theorem i_tupO (O : Own a c B H ls) (hz : xs.length ≤ sizeLine) (k : ∀ p H', Own a c B H' ((p, .tup xs) :: ls) → Q (.ref p) H') : xs.length ≤ sizeLine ∧ NewO (.tup xs) H Q := ⟨hz, fun p hp => k p _ (O.new hp)⟩
theorem i_lstO (O : Own a c B H ls) (hz : xs.length ≤ sizeLine) (k : ∀ p H', Own a c B H' ((p, .lst xs) :: ls) → Q (.ref p) H') : xs.length ≤ sizeLine ∧ NewO (.lst xs) H Q := ⟨hz, fun p hp => k p _ (O.new hp)⟩
theorem i_newO (O : Own a c B H ls) (k : ∀ p H', Own a c B H' ((p, o) :: ls) → Q (.ref p) H') : NewO o H Q := fun p hp => k p _ (O.new hp)
theorem i_dgetI {p : Addr} {kvs : List (Key × V)} {i : Int} {v : V} {R : V → Prop} (h : H p = some (.dK kvs)) (hv : valV kvs (.inl i) = some v) (q : R v) : (∃ a' v', V.ref p = .ref a' ∧ DGet H a' (.int i) (some v') ∧ R v') := i_dgetK h (k := .inl i) rfl hv q
inductive IxO : HO → Int → V → Prop
  | lst {xs : List V} {i : Int} {v : V} (h : atI xs i = some v) : IxO (.lst xs) i v
  | tup {xs : List V} {i : Int} {v : V} (h : atI xs i = some v) : IxO (.tup xs) i v
inductive LenO : HO → Int → Prop
  | lst {xs : List V} : LenO (.lst xs) xs.length
  | tup {xs : List V} : LenO (.tup xs) xs.length
  | dK {kvs : List (Key × V)} : LenO (.dK kvs) kvs.length
theorem i_ixA {p : Addr} {i : Int} {v : V} (h : H p = some o) (hi : IxO o i v) (q : Q v H) : rIxA (.ref p) (.int i) H Q := by
  cases hi with
  | lst hi => exact i_ixL h hi q
  | tup hi => exact i_ixT h hi q
theorem i_lenA {p : Addr} {i : Int} (h : H p = some o) (hi : LenO o i) (q : Q (.int i) H) : rLenA [.ref p] H Q := by
  cases hi with
  | lst => exact i_lenL h q
  | tup => exact i_lenT h q
  | dK => exact i_lenD h q
theorem i_appO {l : Addr} {y : V} (O : Own a c B H ls) (h : Up1 l (.lst xs) (.lst (xs ++ [y])) ls ls') (hz : xs.length < sizeLine) (k : ∀ H', Own a c B H' ls' → Q .non H') : rAppA (.ref l) [y] H Q := i_app (O.mem h.mem) hz (k _ (O.set h))
theorem i_setO {l : Addr} {i : Int} {j : Nat} {v : V} {R : Hp → Prop} (O : Own a c B H ls) (h : Up1 l (.lst xs) (.lst (xs.set j v)) ls ls') (hi : ixN xs.length i = some j) (k : ∀ H', Own a c B H' ls' → R H') : rSetA (.ref l) (.int i) v H R := i_setL (O.mem h.mem) hi (k _ (O.set h))
theorem i_popIO {l : Addr} {y : V} {i : Int} {j : Nat} (O : Own a c B H ls) (h : Up1 l (.lst xs) (.lst (xs.eraseIdx j)) ls ls') (hi : i = (j : Int)) (hj : j < 2 ^ 62) (hy : xs[j]? = some y) (k : ∀ H', Own a c B H' ls' → Q y H') : rPopI (.ref l) [.int i] H Q := by
  simp only [rPopI, O.mem h.mem]
  exact ⟨j, y, hi, hj, hy, k _ (O.set h)⟩
theorem i_popLO {l : Addr} {y : V} (O : Own a c B H ls) (h : Up1 l (.lst xs) (.lst xs.dropLast) ls ls') (hy : xs[xs.length - 1]? = some y) (k : ∀ H', Own a c B H' ls' → Q y H') : rPopL (.ref l) [] H Q := i_popL (O.mem h.mem) hy (k _ (O.set h))
theorem i_fldO {K : PySem.W.Frag} {l C dx : Addr} {fs : List (Str × V)} {f : Str} {v : V} {R : V → Prop} (h : H l = some (.ins C dx fs)) (hc : Cls K C) (hn : NoAttr K C f) (hv : LkF f (some v) fs) (k : R v) :
    (∃ a C dx fs v, V.ref l = .ref a ∧ H a = some (.ins C dx fs) ∧ Cls K C ∧ NoAttr K C f ∧ fs.lookup f = some v ∧ R v) := ⟨l, C, dx, fs, v, rfl, h, hc, hn, hv.eq, k⟩
theorem i_fldSO {K : PySem.W.Frag} {l C dx : Addr} {fs : List (Str × V)} {f : Str} {y : V} {R : Hp → Prop} (O : Own a c B H ls) {fs' : List (Str × V)} (h : Up1 l (.ins C dx fs) (.ins C dx fs') ls ls') (hf : PutF f y fs fs') (hc : Cls K C) (hn : NoAttr K C f) (hz : fs.length < 1000) (k : ∀ H', Own a c B H' ls' → R H') :
    FldS K (.ref l) f y H R := ⟨l, C, dx, fs, rfl, O.mem h.mem, hc, hn, hz, by rw [hf.eq]; exact k _ (O.set h)⟩
theorem i_methO {C l dx : Addr} {fs : List (Str × V)} {m : Str} {t : TA} {R : List V → Hp → Prop} (h : H l = some (.ins C dx fs)) (hm : LkF m none fs) (k : t σ H R) :
    (∃ a dx fs, V.ref l = .ref a ∧ H a = some (.ins C dx fs) ∧ fs.lookup m = none ∧ t σ H R) := ⟨l, dx, fs, rfl, h, hm.eq, k⟩
theorem i_mkd {R : Prop} (q : R) : (V.non = V.non ∧ R) := ⟨rfl, q⟩
theorem i_makeO {C : Addr} {sp : Sp} {E : XK} {vs : List V} (O : Own a c B H ls) (k : ∀ x dx H', Own a c B H' ((x, .ins C dx []) :: (dx, .own x) :: ls) → sp (.ref x :: vs) H' (fun v H2 => v = .non ∧ Q (.ref x) H2) E) : NewI C sp vs H Q E :=
  fun x dx hx hd ne => k x dx _ ((O.new hd).new (by rw [upd_ne ne.symm]; exact hx))
theorem i_drawO {s : Addr} {n : Int} {E : XK} (O : Own a c B H ls) (hs : s = a) (h0 : 0 < n) (h1 : n < 1073741824) (k : ∀ (r : Int) H', 0 ≤ r → r < n → Own a c B H' ls → Q (.int r) H') : spDraw ([.ref s, .int n] ++ []) H Q E := by
  subst hs
  exact ⟨_, c, n, rfl, h0, h1, O.R, fun H' r a1 a2 R f => k r H' a1 a2 (O.draw R f)⟩
theorem i_pickO {s p : Addr} {E : XK} (O : Own a c B H ls) (hs : s = a) (hp : (p, HO.lst xs) ∈ ls) (h0 : xs ≠ []) (h1 : xs.length ≤ 100000) (k : ∀ (v : V) H', v ∈ xs → Own a c B H' ls → Q v H') : spPick ([.ref s, .ref p] ++ []) H Q E := by
  subst hs
  exact ⟨_, c, p, xs, rfl, O.R, O.mem hp, (O.out _ hp).2.1, (O.out _ hp).2.2, h0, h1, fun H' v hv R f => k v H' hv (O.draw R f)⟩
/-! ### blocks of n alike -/
theorem blk_pull {α : Type} {n j : Nat} (h : j < n) (f : Nat → List α) : ((List.range n).flatMap f).Perm (f j ++ ((List.range n).erase j).flatMap f) := by
  have e := List.perm_cons_erase (List.mem_range.mpr h)
  exact (e.flatMap_right f)
theorem blk_other {α : Type} {n j : Nat} {f g : Nat → List α} (h : ∀ i, i ≠ j → g i = f i) : ((List.range n).erase j).flatMap g = ((List.range n).erase j).flatMap f := by
  have key : ∀ l : List Nat, j ∉ l → l.flatMap g = l.flatMap f := by
    intro l
    induction l with
    | nil => intro _; rfl
    | cons x r ih =>
      intro hj
      rw [List.flatMap_cons, List.flatMap_cons, h x (fun q => hj (by rw [q]; exact List.mem_cons_self)), ih fun q => hj (List.mem_cons_of_mem _ q)]
  exact key _ fun q => ((List.nodup_range).mem_erase_iff.mp q).1 rfl
theorem blk_below {α : Type} {n : Nat} {f g : Nat → List α} (h : ∀ i, i < n → g i = f i) : (List.range n).flatMap g = (List.range n).flatMap f := by
  have key : ∀ l : List Nat, (∀ i ∈ l, i < n) → l.flatMap g = l.flatMap f := by
    intro l
    induction l with
    | nil => intro _; rfl
    | cons x r ih =>
      intro hj
      rw [List.flatMap_cons, List.flatMap_cons, h x (hj x List.mem_cons_self), ih fun i hi => hj i (List.mem_cons_of_mem _ hi)]
  exact key _ fun i hi => List.mem_range.mp hi
theorem blk_succ {α : Type} {n : Nat} (f : Nat → List α) : (List.range (n + 1)).flatMap f = (List.range n).flatMap f ++ f n := by
  rw [List.range_succ, List.flatMap_append, List.flatMap_cons, List.flatMap_nil, List.append_nil]
theorem blk_join {α : Type} (f g : Nat → List α) : ∀ n, ((List.range n).flatMap f ++ (List.range n).flatMap g).Perm ((List.range n).flatMap fun i => f i ++ g i)
  | 0 => .nil
  | n + 1 => by
    rw [blk_succ, blk_succ, blk_succ]
    have ih := blk_join f g n
    refine List.Perm.trans ?_ (ih.append_right (f n ++ g n))
    rw [List.append_assoc, List.append_assoc]
    refine List.Perm.append_left _ ?_
    rw [← List.append_assoc, ← List.append_assoc]
    exact (List.perm_append_comm (l₁ := f n)).append_right _
/-- a def of the walk's own -/
def spIn (N : List Str) (n : Nat) (t : TS) : Sp := fun vs H Q _ => vs.length = n ∧ t { nx := fun _ H' => Q .non H', rt := Q } (L2.start N vs) H
inductive StE : List Str → List V → L2.St → Prop
  | nil : StE [] [] []
  | app {N : List Str} {vs : List V} {σ : L2.St} (h : StE N vs σ) : StE N (vs ++ []) σ
  | got {x : Str} {N : List Str} {v : V} {vs : List V} {σ : L2.St} (h : StE N vs σ) : StE (x :: N) (v :: vs) (some v :: σ)
  | lack {x : Str} {N : List Str} {σ : L2.St} (h : StE N [] σ) : StE (x :: N) [] (none :: σ)
theorem StE.eq {N : List Str} {vs : List V} {σ : L2.St} (h : StE N vs σ) : L2.start N vs = σ := by
  induction h with
  | nil => rfl
  | app _ ih => rw [List.append_nil]; exact ih
  | @got x N v vs σ _ ih =>
    rw [← ih]
    show (v :: vs).map some ++ List.replicate (N.length + 1 - (vs.length + 1)) none = some v :: (vs.map some ++ List.replicate (N.length - vs.length) none)
    rw [Nat.add_sub_add_right]
    rfl
  | @lack x N σ _ ih =>
    rw [← ih]
    rfl
theorem i_in {N : List Str} {n : Nat} {t : TS} {vs : List V} {σ : L2.St} {E : XK} (hn : vs.length = n) (hs : StE N vs σ) (q : t { nx := fun _ H' => Q .non H', rt := Q } σ H) : spIn N n t vs H Q E := ⟨hn, by rw [hs.eq]; exact q⟩
end
end Lb
set_option Elab.async false
set_option linter.all false
set_option maxRecDepth 100000
set_option maxHeartbeats 4000000
/-! K46: homes of channels. -/
namespace K46
open PySem PySem.Spec PyProof.Rows L2 Lb
local macro_rules | `(tactic| walk_at "h") => `(tactic| first | assumption | exact Own.mem (by assumption) (by walk_at "m") | exact Own.kp (by assumption) (by assumption))
local macro_rules | `(tactic| walk_at "m") => `(tactic| (focus ((repeat (first | assumption | exact List.mem_cons_self | apply List.mem_cons_of_mem)); done)))
local macro_rules | `(tactic| walk_at "u") => `(tactic| (focus ((repeat (first | exact Up1.here | apply Up1.there)); done)))
local macro_rules | `(tactic| walk_at "p") => `(tactic| (focus ((repeat (first | exact Pre.nil | apply Pre.cons)); done)))
local macro_rules | `(tactic| walk_at "f") => `(tactic| (focus ((repeat (first | exact PutF.here | exact PutF.nil | (apply PutF.there; (solve | decide +kernel)))); done)))
local macro_rules | `(tactic| walk_at "k") => `(tactic| (focus ((repeat (first | exact LkF.here rfl | exact LkF.nil rfl | refine LkF.there (by decide +kernel) ?_)); done)))
local macro_rules | `(tactic| walk_at "e") => `(tactic| (focus ((repeat (first | exact StE.nil | apply StE.app | apply StE.got | apply StE.lack)); done)))
local macro_rules | `(tactic| walk_at "d") => `(tactic| (focus ((repeat (first | exact Dt.int _ | exact Dt.str _ | exact Dt.non | exact Dt.bl _ | exact DtAll.nil | apply DtAll.cons | (apply Dt.tup; (solve | walk_at "h")) | (apply Dt.lst; (solve | walk_at "h")))); done)))
local macro_rules | `(tactic| walk_at "sh") => `(tactic| (focus ((repeat (first | exact Sh.int | exact Sh.non | exact Sh.str (by decide +kernel) | exact ShA.nil | apply ShA.cons | apply Sh.lst | apply Sh.tup)); done)))
local macro_rules | `(tactic| walk_at "ne") => `(tactic| (apply rd_neF; (solve | walk_at "d"); (solve | walk_at "d"); (solve | exact Sh.shp (n := 4) (by walk_at "sh"))))
local macro_rules | `(tactic| walk_at "s1") => `(tactic| with_reducible first | (apply i_var; (solve | with_unfolding_all rfl)) | apply i_cons | apply i_nil | apply i_c | apply i_op | apply i_asg | apply i_seq | apply i_gname | apply i_eqS | apply i_eqI | apply i_neS | apply i_tt | apply i_ff | (apply i_ixA; (solve | walk_at "h"); (solve | exact IxO.lst (by assumption) | exact .lst (by with_unfolding_all rfl) | exact .tup (by with_unfolding_all rfl))) | apply i_bl | apply i_test | apply i_ifS | apply i_tupN | (apply i_tupO; (solve | assumption); (exact (sz (by (try simp) <;> omega))); intro p H O) | apply i_fld | (apply i_fldO; (solve | walk_at "h"); (solve | assumption); (solve | assumption); (solve | walk_at "k")) | (apply i_tB; (solve | decide +kernel)) | (apply i_fB; (solve | decide +kernel)) | apply i_ret | apply i_retN | apply i_drop | apply i_next | apply i_brk | apply i_cnt | apply i_par | apply i_par2 | apply i_fldSN | apply i_dput | apply i_un | apply i_rU | apply i_rI0 | apply i_B | apply i_tru | apply i_truB | apply i_and | apply i_or | apply i_not | apply i_andV | apply i_orV | apply i_notV | apply i_if | apply i_call | apply i_meth | apply i_makeN | apply i_cb | apply i_dnewN | apply i_lstN | apply i_bml | apply i_gsub | apply i_gcons | apply i_gnil | apply i_sl | apply i_nop | apply i_part | apply i_prt | apply i_isN | apply i_notN | apply i_yes | apply i_ntt | apply i_nff | apply i_addI | apply i_neI | apply i_intI | apply i_intB | apply i_abs | apply i_isiIB | apply i_isiNB | apply i_isiBB | apply i_dget | apply i_for | apply i_ilist | apply i_itup | apply i_rng1 | apply i_rng2 | apply i_ex1 | apply i_ex2 | apply i_exr | apply i_disp | apply i_pcons | apply i_pnil | apply i_neN | apply i_eqN | apply i_neB | apply i_eqB | apply i_lc | apply i_dnI | apply i_nyI | apply i_dnR | apply i_nyR | (apply i_lenA; (solve | walk_at "h"); (solve | first | exact .lst | exact .tup | exact .dK)) | (apply i_isL; (solve | walk_at "h")) | (apply i_isiLL; (solve | walk_at "h")) | (apply i_isiTL; (solve | walk_at "h")) | (apply i_gtup; (solve | walk_at "h"); (solve | with_unfolding_all rfl)) | (apply i_fldSO; (solve | assumption); (solve | walk_at "u"); (solve | walk_at "f"); (solve | assumption); (solve | assumption); (solve | simp); intro H O) | (apply i_lstO; (solve | assumption); (exact (sz (by (try simp) <;> omega))); intro p H O) | (apply i_makeO; (solve | assumption); intro x dx H O) | (apply i_methO; (solve | walk_at "h"); (solve | walk_at "k")) | (apply i_newO; (solve | assumption); intro p H O) | (apply i_listN; (solve | walk_at "h")) | (apply i_listTN; (solve | walk_at "h")) | (apply i_addN; (solve | walk_at "h"); (solve | walk_at "h"); (exact (sz (by (try simp) <;> omega)))) | apply i_mkd | (apply i_dgetI; (solve | walk_at "h"); (solve | assumption)) | (apply i_in; (solve | with_unfolding_all rfl); (solve | walk_at "e")) | (apply i_setO; (solve | assumption); (solve | walk_at "u"); (solve | with_unfolding_all rfl); intro H O) | (apply i_appO; (solve | assumption); (solve | walk_at "u"); (exact (szl (by (try simp) <;> omega))); intro H O) | (apply i_drawO; (solve | assumption); (exact rfl); (solve | decide); (solve | decide); intro r H h0 h1 O))
local macro_rules | `(tactic| walk_at "s") => `(tactic| repeat (walk_at "s1"))
structure Ad where
  K : PySem.W.Frag
  c_Home : Addr
  c_Homes : Addr
/-- the two classes -/
structure CF (A : Ad) : Prop where
  h : Cls A.K A.c_Home
  hs : Cls A.K A.c_Homes
  n1 : NoAttr A.K A.c_Home "kind"
  n2 : NoAttr A.K A.c_Home "inputs"
  n3 : NoAttr A.K A.c_Home "used"
  n4 : NoAttr A.K A.c_Home "outputs"
  n5 : NoAttr A.K A.c_Home "offer"
  n6 : NoAttr A.K A.c_Home "asker"
  n7 : NoAttr A.K A.c_Homes "rows"
  n8 : NoAttr A.K A.c_Homes "log"
def Kd (k : Str) : Prop := k = "in" ∨ k = "out" ∨ k = "inner"
/-- a message that a state of a home allows -/
inductive Msg (kd : Str) (ch : Int) (off ask : V) (rest : List Int) : List V → Prop
  | offer {w : Int} (h : kd = "out" ∨ (kd = "inner" ∧ off = .non)) (h0 : 0 ≤ w) (h1 : w < 65536) : Msg kd ch off ask rest [.str "offer", .int ch, .int w, .int (20 + ch)]
  | ask (h : kd = "in" ∨ kd = "inner") (h1 : ask = .non) : Msg kd ch off ask rest [.str "ask", .int ch, .int (40 + ch)]
  | cancel {k : Int} (h : kd = "in" ∨ kd = "inner") (h1 : ask = .int k) : Msg kd ch off ask rest [.str "cancel", .int ch, .int k]
  | accept {k : Int} (h : kd = "in" ∨ kd = "inner") (h1 : ask = .int k) (h2 : off ≠ .non ∨ (kd = "in" ∧ rest ≠ [])) : Msg kd ch off ask rest [.str "accept", .int ch, .int k]
def sp_l_message : Sp := fun vs H Q _ => ∃ (a c m inp : Addr) (B : Hp) (ls : List (Addr × HO)) (kd : Str) (ch : Int) (off ask : V) (rest : List Int), vs = [.ref a, .int ch, .str kd, .ref m] ∧ Own a c B H ls ∧ Kd kd ∧
  (m, .lst [off, ask, .ref inp]) ∈ ls ∧ (inp, .lst (rest.map V.int)) ∈ ls ∧ (off = .non ∨ ∃ t, off = .ref t) ∧ (ask = .non ∨ ∃ k, ask = .int k) ∧
  (∀ H', Own a c B H' ls → Q .non H') ∧ ∀ H' B' p xs, Same B B' → Own a c B' H' ls → B' p = some (.tup xs) → Msg kd ch off ask rest xs → Q (.ref p) H'
def sp_law (A : Ad) : Sp := fun vs H Q _ => ∃ (s : Addr) (ns : List Int), vs = [.ref s] ∧ SqL A.K H s (ns.map V.int) ∧ ns.length ≤ 63 ∧ CF A ∧ ∀ H', Q (.bl true) H'
abbrev t_Home_init (A : Ad) : TS :=
  (tSeq (sFld A.K (tVar 0) (tVar 1) "kind") (tSeq (sFld A.K (tVar 0) (tCB rListA (tCons (tVar 2) tNil)) "inputs") (tSeq (sFld A.K (tVar 0) (tC (.int 0)) "used") (tSeq (sFld A.K (tVar 0) (tLst tNil) "outputs") (tSeq (sFld A.K (tVar 0) (tC .non) "offer") (sFld A.K (tVar 0) (tC .non) "asker"))))))
theorem st_Home_init (v0 v1 v2 : V) : L2.start ["self", "kind", "inputs"] [v0, v1, v2] = [some v0, some v1, some v2] := rfl
abbrev sp_Home_init (A : Ad) : Sp := spIn ["self", "kind", "inputs"] 3 (t_Home_init A)
theorem len_Home_init (A : Ad) {vs : List V} {H : Hp} {Q : VK} {E : XK} (h : sp_Home_init A vs H Q E) : vs.length = 3 := h.1
theorem pure_Home_init (A : Ad) (vs : List V) (H : Hp) (Q : VK) (E : XK) (h : sp_Home_init A vs H Q E) : t_Home_init A { nx := fun _ H' => Q .non H', rt := Q } (L2.start ["self", "kind", "inputs"] vs) H := h.2
abbrev t_Home_ready (A : Ad) : TS :=
  (tSeq (tIfS (tTest (tOp (rEqA A.K) (tFld A.K (tVar 0) "kind") (tC (.str "in")))) (tRet (tOp (rI0 fun i j => .bl (decide (i < j))) (tFld A.K (tVar 0) "used") (tCB rLenA (tCons (tFld A.K (tVar 0) "inputs") tNil)))) tNext) (tRet (tOp rNotN (tFld A.K (tVar 0) "offer") (tC .non))))
theorem st_Home_ready (v0 : V) : L2.start ["self"] [v0] = [some v0] := rfl
abbrev sp_Home_ready (A : Ad) : Sp := spIn ["self"] 1 (t_Home_ready A)
theorem len_Home_ready (A : Ad) {vs : List V} {H : Hp} {Q : VK} {E : XK} (h : sp_Home_ready A vs H Q E) : vs.length = 1 := h.1
theorem pure_Home_ready (A : Ad) (vs : List V) (H : Hp) (Q : VK) (E : XK) (h : sp_Home_ready A vs H Q E) : t_Home_ready A { nx := fun _ H' => Q .non H', rt := Q } (L2.start ["self"] vs) H := h.2
abbrev t_Home_take (A : Ad) : TS :=
  (tSeq (tIfS (tTest (tOp (rEqA A.K) (tFld A.K (tVar 0) "kind") (tC (.str "in")))) (tSeq (sFld A.K (tVar 0) (tOp rAddA (tFld A.K (tVar 0) "used") (tC (.int 1))) "used") (tRet (tTup (tCons (tOp rIxA (tFld A.K (tVar 0) "inputs") (tOp (rI0 fun i j => .int (i - j)) (tFld A.K (tVar 0) "used") (tC (.int 1)))) (tCons (tC .non) tNil))))) tNext) (tSeq (tAsg (tFld A.K (tVar 0) "offer") (gName 1)) (tSeq (sFld A.K (tVar 0) (tC .non) "offer") (tRet (tVar 1)))))
theorem st_Home_take (v0 : V) : L2.start ["self", "found"] [v0] = [some v0, none] := rfl
abbrev sp_Home_take (A : Ad) : Sp := spIn ["self", "found"] 1 (t_Home_take A)
theorem len_Home_take (A : Ad) {vs : List V} {H : Hp} {Q : VK} {E : XK} (h : sp_Home_take A vs H Q E) : vs.length = 1 := h.1
theorem pure_Home_take (A : Ad) (vs : List V) (H : Hp) (Q : VK) (E : XK) (h : sp_Home_take A vs H Q E) : t_Home_take A { nx := fun _ H' => Q .non H', rt := Q } (L2.start ["self", "found"] vs) H := h.2
abbrev t_Homes_init (A : Ad) : TS :=
  (tSeq (sFld A.K (tVar 0) (tVar 1) "rows") (sFld A.K (tVar 0) (tVar 2) "log"))
theorem st_Homes_init (v0 v1 v2 : V) : L2.start ["self", "rows", "log"] [v0, v1, v2] = [some v0, some v1, some v2] := rfl
abbrev sp_Homes_init (A : Ad) : Sp := spIn ["self", "rows", "log"] 3 (t_Homes_init A)
theorem len_Homes_init (A : Ad) {vs : List V} {H : Hp} {Q : VK} {E : XK} (h : sp_Homes_init A vs H Q E) : vs.length = 3 := h.1
theorem pure_Homes_init (A : Ad) (vs : List V) (H : Hp) (Q : VK) (E : XK) (h : sp_Homes_init A vs H Q E) : t_Homes_init A { nx := fun _ H' => Q .non H', rt := Q } (L2.start ["self", "rows", "log"] vs) H := h.2
abbrev t_Homes_offer (A : Ad) : TS :=
  (tSeq (tAsg (tDGet (tFld A.K (tVar 0) "rows") (tVar 1)) (gName 4)) (tSeq (tIfS (tTest (tOp (rEqA A.K) (tFld A.K (tVar 4) "kind") (tC (.str "out")))) (tSeq (tDrop (tBML rAppA (tFld A.K (tVar 4) "outputs") (tCons (tVar 2) tNil))) (tSeq (tDrop (tBML rAppA (tFld A.K (tVar 0) "log") (tCons (tTup (tCons (tVar 1) (tCons (tVar 2) tNil))) tNil))) (tRet (tLst (tCons (tTup (tCons (tVar 3) (tCons (tTup (tCons (tC (.str "taken")) (tCons (tVar 3) tNil))) tNil))) tNil))))) tNext) (tSeq (sFld A.K (tVar 4) (tTup (tCons (tVar 2) (tCons (tVar 3) tNil))) "offer") (tSeq (tIfS (tTest (tOp rIsN (tFld A.K (tVar 4) "asker") (tC .non))) (tRet (tLst tNil)) tNext) (tRet (tLst (tCons (tTup (tCons (tFld A.K (tVar 4) "asker") (tCons (tTup (tCons (tC (.str "offered")) (tCons (tVar 1) (tCons (tFld A.K (tVar 4) "asker") tNil)))) tNil))) tNil)))))))
theorem st_Homes_offer (v0 v1 v2 v3 : V) : L2.start ["self", "channel", "value", "giver", "home"] [v0, v1, v2, v3] = [some v0, some v1, some v2, some v3, none] := rfl
abbrev sp_Homes_offer (A : Ad) : Sp := spIn ["self", "channel", "value", "giver", "home"] 4 (t_Homes_offer A)
theorem len_Homes_offer (A : Ad) {vs : List V} {H : Hp} {Q : VK} {E : XK} (h : sp_Homes_offer A vs H Q E) : vs.length = 4 := h.1
theorem pure_Homes_offer (A : Ad) (vs : List V) (H : Hp) (Q : VK) (E : XK) (h : sp_Homes_offer A vs H Q E) : t_Homes_offer A { nx := fun _ H' => Q .non H', rt := Q } (L2.start ["self", "channel", "value", "giver", "home"] vs) H := h.2
abbrev t_Homes_ask (A : Ad) : TS :=
  (tSeq (tAsg (tDGet (tFld A.K (tVar 0) "rows") (tVar 1)) (gName 3)) (tSeq (sFld A.K (tVar 3) (tVar 2) "asker") (tRet (tIf (tB (tMeth A.c_Home "ready" (sp_Home_ready A) [] E0 (tVar 3) tNil)) (tLst (tCons (tTup (tCons (tVar 2) (tCons (tTup (tCons (tC (.str "offered")) (tCons (tVar 1) (tCons (tVar 2) tNil)))) tNil))) tNil)) (tLst tNil)))))
theorem st_Homes_ask (v0 v1 v2 : V) : L2.start ["self", "channel", "asker", "home"] [v0, v1, v2] = [some v0, some v1, some v2, none] := rfl
abbrev sp_Homes_ask (A : Ad) : Sp := spIn ["self", "channel", "asker", "home"] 3 (t_Homes_ask A)
theorem len_Homes_ask (A : Ad) {vs : List V} {H : Hp} {Q : VK} {E : XK} (h : sp_Homes_ask A vs H Q E) : vs.length = 3 := h.1
theorem pure_Homes_ask (A : Ad) (vs : List V) (H : Hp) (Q : VK) (E : XK) (h : sp_Homes_ask A vs H Q E) : t_Homes_ask A { nx := fun _ H' => Q .non H', rt := Q } (L2.start ["self", "channel", "asker", "home"] vs) H := h.2
abbrev t_Homes_accept (A : Ad) : TS :=
  (tSeq (tAsg (tDGet (tFld A.K (tVar 0) "rows") (tVar 1)) (gName 3)) (tSeq (tAsg (tMeth A.c_Home "take" (sp_Home_take A) [] E0 (tVar 3) tNil) (gTup A.K 2 (gCons (gName 4) (gCons (gName 5) gNil)))) (tSeq (sFld A.K (tVar 3) (tC .non) "asker") (tSeq (tDrop (tBML rAppA (tFld A.K (tVar 0) "log") (tCons (tTup (tCons (tVar 1) (tCons (tVar 4) tNil))) tNil))) (tSeq (tAsg (tLst (tCons (tTup (tCons (tVar 2) (tCons (tTup (tCons (tC (.str "word")) (tCons (tVar 1) (tCons (tVar 4) (tCons (tVar 2) tNil))))) tNil))) tNil)) (gName 6)) (tSeq (tIfS (tTest (tOp rNotN (tVar 5) (tC .non))) (tDrop (tBML rAppA (tVar 6) (tCons (tTup (tCons (tVar 5) (tCons (tTup (tCons (tC (.str "taken")) (tCons (tVar 5) tNil))) tNil))) tNil))) tNext) (tRet (tVar 6))))))))
theorem st_Homes_accept (v0 v1 v2 : V) : L2.start ["self", "channel", "asker", "home", "value", "giver", "found"] [v0, v1, v2] = [some v0, some v1, some v2, none, none, none, none] := rfl
abbrev sp_Homes_accept (A : Ad) : Sp := spIn ["self", "channel", "asker", "home", "value", "giver", "found"] 3 (t_Homes_accept A)
theorem len_Homes_accept (A : Ad) {vs : List V} {H : Hp} {Q : VK} {E : XK} (h : sp_Homes_accept A vs H Q E) : vs.length = 3 := h.1
theorem pure_Homes_accept (A : Ad) (vs : List V) (H : Hp) (Q : VK) (E : XK) (h : sp_Homes_accept A vs H Q E) : t_Homes_accept A { nx := fun _ H' => Q .non H', rt := Q } (L2.start ["self", "channel", "asker", "home", "value", "giver", "found"] vs) H := h.2
abbrev t_Homes_cancel (A : Ad) : TS :=
  (tSeq (sFld A.K (tDGet (tFld A.K (tVar 0) "rows") (tVar 1)) (tC .non) "asker") (tRet (tLst (tCons (tTup (tCons (tVar 2) (tCons (tTup (tCons (tC (.str "cancelled")) (tCons (tVar 1) (tCons (tVar 2) tNil)))) tNil))) tNil))))
theorem st_Homes_cancel (v0 v1 v2 : V) : L2.start ["self", "channel", "asker"] [v0, v1, v2] = [some v0, some v1, some v2] := rfl
abbrev sp_Homes_cancel (A : Ad) : Sp := spIn ["self", "channel", "asker"] 3 (t_Homes_cancel A)
theorem len_Homes_cancel (A : Ad) {vs : List V} {H : Hp} {Q : VK} {E : XK} (h : sp_Homes_cancel A vs H Q E) : vs.length = 3 := h.1
theorem pure_Homes_cancel (A : Ad) (vs : List V) (H : Hp) (Q : VK) (E : XK) (h : sp_Homes_cancel A vs H Q E) : t_Homes_cancel A { nx := fun _ H' => Q .non H', rt := Q } (L2.start ["self", "channel", "asker"] vs) H := h.2
abbrev t_Homes_handle (A : Ad) : TS :=
  (tSeq (tIfS (tTest (tOp (rEqA A.K) (tOp rIxA (tVar 1) (tC (.int 0))) (tC (.str "offer")))) (tRet (tMeth A.c_Homes "offer" (sp_Homes_offer A) [] E0 (tVar 0) (tCons (tOp rIxA (tVar 1) (tC (.int 1))) (tCons (tOp rIxA (tVar 1) (tC (.int 2))) (tCons (tOp rIxA (tVar 1) (tC (.int 3))) tNil))))) tNext) (tSeq (tIfS (tTest (tOp (rEqA A.K) (tOp rIxA (tVar 1) (tC (.int 0))) (tC (.str "ask")))) (tRet (tMeth A.c_Homes "ask" (sp_Homes_ask A) [] E0 (tVar 0) (tCons (tOp rIxA (tVar 1) (tC (.int 1))) (tCons (tOp rIxA (tVar 1) (tC (.int 2))) tNil)))) tNext) (tSeq (tIfS (tTest (tOp (rEqA A.K) (tOp rIxA (tVar 1) (tC (.int 0))) (tC (.str "accept")))) (tRet (tMeth A.c_Homes "accept" (sp_Homes_accept A) [] E0 (tVar 0) (tCons (tOp rIxA (tVar 1) (tC (.int 1))) (tCons (tOp rIxA (tVar 1) (tC (.int 2))) tNil)))) tNext) (tRet (tMeth A.c_Homes "cancel" (sp_Homes_cancel A) [] E0 (tVar 0) (tCons (tOp rIxA (tVar 1) (tC (.int 1))) (tCons (tOp rIxA (tVar 1) (tC (.int 2))) tNil)))))))
theorem st_Homes_handle (v0 v1 : V) : L2.start ["self", "message"] [v0, v1] = [some v0, some v1] := rfl
abbrev sp_Homes_handle (A : Ad) : Sp := spIn ["self", "message"] 2 (t_Homes_handle A)
theorem len_Homes_handle (A : Ad) {vs : List V} {H : Hp} {Q : VK} {E : XK} (h : sp_Homes_handle A vs H Q E) : vs.length = 2 := h.1
theorem pure_Homes_handle (A : Ad) (vs : List V) (H : Hp) (Q : VK) (E : XK) (h : sp_Homes_handle A vs H Q E) : t_Homes_handle A { nx := fun _ H' => Q .non H', rt := Q } (L2.start ["self", "message"] vs) H := h.2
def t_l_message (A : Ad) : TS :=
  (tSeq (tPar 4 5 (tCons (tOp rIxA (tVar 3) (tC (.int 0))) (tCons (tOp rIxA (tVar 3) (tC (.int 1))) tNil))) (tSeq (tAsg (tOrV (tOp rNotN (tVar 4) (tC .non)) (tAndV (tOp (rEqA A.K) (tVar 2) (tC (.str "in"))) (tOp (rI0 fun i j => .bl (decide (j < i))) (tCB rLenA (tCons (tOp rIxA (tVar 3) (tC (.int 2))) tNil)) (tC (.int 0))))) (gName 6)) (tSeq (tAsg (tLst tNil) (gName 7)) (tSeq (tIfS (tOr (tTest (tOp (rEqA A.K) (tVar 2) (tC (.str "out")))) (tAnd (tTest (tOp (rEqA A.K) (tVar 2) (tC (.str "inner")))) (tTest (tOp rIsN (tVar 4) (tC .non))))) (tDrop (tBML rAppA (tVar 7) (tCons (tTup (tCons (tC (.str "offer")) (tCons (tVar 1) (tCons (tCall spDraw [] E0 (tCons (tVar 0) (tCons (tC (.int 65536)) tNil))) (tCons (tOp rAddA (tC (.int 20)) (tVar 1)) tNil))))) tNil))) tNext) (tSeq (tIfS (tAnd (tTest (tOp (rNeA A.K) (tVar 2) (tC (.str "out")))) (tTest (tOp rIsN (tVar 5) (tC .non)))) (tDrop (tBML rAppA (tVar 7) (tCons (tTup (tCons (tC (.str "ask")) (tCons (tVar 1) (tCons (tOp rAddA (tC (.int 40)) (tVar 1)) tNil)))) tNil))) tNext) (tSeq (tIfS (tAnd (tTest (tOp (rNeA A.K) (tVar 2) (tC (.str "out")))) (tTest (tOp rNotN (tVar 5) (tC .non)))) (tSeq (tDrop (tBML rAppA (tVar 7) (tCons (tTup (tCons (tC (.str "cancel")) (tCons (tVar 1) (tCons (tVar 5) tNil)))) tNil))) (tIfS (tTru A.K (tVar 6)) (tAsg (tOp rAddA (tVar 7) (tLst (tCons (tTup (tCons (tC (.str "accept")) (tCons (tVar 1) (tCons (tVar 5) tNil)))) (tCons (tTup (tCons (tC (.str "accept")) (tCons (tVar 1) (tCons (tVar 5) tNil)))) tNil)))) (gName 7)) tNext)) tNext) (tRet (tIf (tTest (tOp (rI0 fun i j => .bl (decide (j < i))) (tCB rLenA (tCons (tVar 7) tNil)) (tC (.int 0)))) (tCall spPick [] E0 (tCons (tVar 0) (tCons (tVar 7) tNil))) (tC .non)))))))))
theorem st_l_message (v0 v1 v2 v3 : V) : L2.start ["_law_state_here", "_law_channel", "_law_kind", "_law_m", "_law_offered", "_law_asker", "_law_ready", "_law_menu"] [v0, v1, v2, v3] = [some v0, some v1, some v2, some v3, none, none, none, none] := rfl
abbrev t_l_due (A : Ad) : TS :=
  (tSeq (tPar 5 6 (tCons (tOp rIxA (tVar 2) (tC (.int 0))) (tCons (tOp rIxA (tVar 2) (tC (.int 1))) tNil))) (tSeq (tIfS (tAnd (tTest (tOp (rEqA A.K) (tVar 5) (tC (.str "offer")))) (tTest (tOp (rEqA A.K) (tVar 0) (tC (.str "out"))))) (tSeq (tDrop (tBML rAppA (tVar 4) (tCons (tOp rIxA (tVar 2) (tC (.int 2))) tNil))) (tSeq (tDrop (tBML rAppA (tVar 3) (tCons (tTup (tCons (tVar 6) (tCons (tOp rIxA (tVar 2) (tC (.int 2))) tNil))) tNil))) (tRet (tLst (tCons (tTup (tCons (tOp rIxA (tVar 2) (tC (.int 3))) (tCons (tTup (tCons (tC (.str "taken")) (tCons (tOp rIxA (tVar 2) (tC (.int 3))) tNil))) tNil))) tNil))))) tNext) (tSeq (tIfS (tTest (tOp (rEqA A.K) (tVar 5) (tC (.str "offer")))) (tSeq (tAsg (tTup (tCons (tOp rIxA (tVar 2) (tC (.int 2))) (tCons (tOp rIxA (tVar 2) (tC (.int 3))) tNil))) (gSub (tVar 1) (tC (.int 0)) rSetA)) (tRet (tIf (tTest (tOp rIsN (tOp rIxA (tVar 1) (tC (.int 1))) (tC .non))) (tLst tNil) (tLst (tCons (tTup (tCons (tOp rIxA (tVar 1) (tC (.int 1))) (tCons (tTup (tCons (tC (.str "offered")) (tCons (tVar 6) (tCons (tOp rIxA (tVar 1) (tC (.int 1))) tNil)))) tNil))) tNil))))) tNext) (tSeq (tAsg (tOp rIxA (tVar 2) (tC (.int 2))) (gName 7)) (tSeq (tIfS (tTest (tOp (rEqA A.K) (tVar 5) (tC (.str "ask")))) (tSeq (tAsg (tVar 7) (gSub (tVar 1) (tC (.int 1)) rSetA)) (tSeq (tAsg (tOrV (tOp rNotN (tOp rIxA (tVar 1) (tC (.int 0))) (tC .non)) (tOp (rI0 fun i j => .bl (decide (j < i))) (tCB rLenA (tCons (tOp rIxA (tVar 1) (tC (.int 2))) tNil)) (tC (.int 0)))) (gName 8)) (tRet (tIf (tTru A.K (tVar 8)) (tLst (tCons (tTup (tCons (tVar 7) (tCons (tTup (tCons (tC (.str "offered")) (tCons (tVar 6) (tCons (tVar 7) tNil)))) tNil))) tNil)) (tLst tNil))))) tNext) (tSeq (tAsg (tC .non) (gSub (tVar 1) (tC (.int 1)) rSetA)) (tSeq (tIfS (tTest (tOp (rEqA A.K) (tVar 5) (tC (.str "cancel")))) (tRet (tLst (tCons (tTup (tCons (tVar 7) (tCons (tTup (tCons (tC (.str "cancelled")) (tCons (tVar 6) (tCons (tVar 7) tNil)))) tNil))) tNil))) tNext) (tSeq (tIfS (tTest (tOp (rEqA A.K) (tVar 0) (tC (.str "in")))) (tSeq (tAsg (tBML rPopI (tOp rIxA (tVar 1) (tC (.int 2))) (tCons (tC (.int 0)) tNil)) (gName 9)) (tSeq (tDrop (tBML rAppA (tVar 3) (tCons (tTup (tCons (tVar 6) (tCons (tVar 9) tNil))) tNil))) (tRet (tLst (tCons (tTup (tCons (tVar 7) (tCons (tTup (tCons (tC (.str "word")) (tCons (tVar 6) (tCons (tVar 9) (tCons (tVar 7) tNil))))) tNil))) tNil))))) tNext) (tSeq (tAsg (tOp rIxA (tVar 1) (tC (.int 0))) (gTup A.K 2 (gCons (gName 9) (gCons (gName 10) gNil)))) (tSeq (tAsg (tC .non) (gSub (tVar 1) (tC (.int 0)) rSetA)) (tSeq (tDrop (tBML rAppA (tVar 3) (tCons (tTup (tCons (tVar 6) (tCons (tVar 9) tNil))) tNil))) (tRet (tLst (tCons (tTup (tCons (tVar 7) (tCons (tTup (tCons (tC (.str "word")) (tCons (tVar 6) (tCons (tVar 9) (tCons (tVar 7) tNil))))) tNil))) (tCons (tTup (tCons (tVar 10) (tCons (tTup (tCons (tC (.str "taken")) (tCons (tVar 10) tNil))) tNil))) tNil)))))))))))))))
theorem st_l_due (v0 v1 v2 v3 v4 : V) : L2.start ["_law_kind", "_law_m", "_law_message_here", "_law_log", "_law_outputs", "_law_name", "_law_channel", "_law_asker", "_law_ready", "_law_word", "_law_giver"] [v0, v1, v2, v3, v4] = [some v0, some v1, some v2, some v3, some v4, none, none, none, none, none, none] := rfl
abbrev sp_l_due (A : Ad) : Sp := spIn ["_law_kind", "_law_m", "_law_message_here", "_law_log", "_law_outputs", "_law_name", "_law_channel", "_law_asker", "_law_ready", "_law_word", "_law_giver"] 5 (t_l_due A)
theorem len_l_due (A : Ad) {vs : List V} {H : Hp} {Q : VK} {E : XK} (h : sp_l_due A vs H Q E) : vs.length = 5 := h.1
theorem pure_l_due (A : Ad) (vs : List V) (H : Hp) (Q : VK) (E : XK) (h : sp_l_due A vs H Q E) : t_l_due A { nx := fun _ H' => Q .non H', rt := Q } (L2.start ["_law_kind", "_law_m", "_law_message_here", "_law_log", "_law_outputs", "_law_name", "_law_channel", "_law_asker", "_law_ready", "_law_word", "_law_giver"] vs) H := h.2
def t_law (A : Ad) : TS :=
  (tSeq (tAsg (tCall (spState A.K) [] E0 (tCons (tVar 0) tNil)) (gName 1)) (tSeq (tAsg (tLc (iRng1 (tCons (tOp rAddA (tC (.int 1)) (tCall spDraw [] E0 (tCons (tVar 1) (tCons (tC (.int 4)) tNil)))) tNil)) (gName 11) tYes (tCall spPick [] E0 (tCons (tVar 1) (tCons (tLst (tCons (tC (.str "in")) (tCons (tC (.str "out")) (tCons (tC (.str "inner")) (tCons (tC (.str "inner")) tNil))))) tNil))) [11]) (gName 2)) (tSeq (tAsg (tLc (iList A.K (tVar 2)) (gName 15) tYes (tIf (tTest (tOp (rEqA A.K) (tVar 15) (tC (.str "in")))) (tLc (iRng1 (tCons (tCall spDraw [] E0 (tCons (tVar 1) (tCons (tC (.int 5)) tNil))) tNil)) (gName 11) tYes (tCall spDraw [] E0 (tCons (tVar 1) (tCons (tC (.int 65536)) tNil))) [11]) (tLst tNil)) [15]) (gName 3)) (tSeq (tAsg tDNewK (gName 4)) (tSeq (tFor (iRng1 (tCons (tCB rLenA (tCons (tVar 2) tNil)) tNil)) (gName 5) (sDPut (tVar 4) (tVar 5) (tMake A.c_Home (sp_Home_init A) [] E0 (tCons (tOp rIxA (tVar 2) (tVar 5)) (tCons (tCB rListA (tCons (tOp rIxA (tVar 3) (tVar 5)) tNil)) tNil))))) (tSeq (tAsg (tLst tNil) (gName 6)) (tSeq (tAsg (tMake A.c_Homes (sp_Homes_init A) [] E0 (tCons (tVar 4) (tCons (tVar 6) tNil))) (gName 7)) (tSeq (tAsg (tLc (iRng1 (tCons (tCB rLenA (tCons (tVar 2) tNil)) tNil)) (gName 5) tYes (tLst (tCons (tC .non) (tCons (tC .non) (tCons (tOp rIxA (tVar 3) (tVar 5)) tNil)))) [5]) (gName 8)) (tSeq (tAsg (tLc (iList A.K (tVar 2)) (gName 15) tYes (tLst tNil) [15]) (gName 9)) (tSeq (tAsg (tLst tNil) (gName 10)) (tSeq (tFor (iRng1 (tCons (tOp rAddA (tC (.int 10)) (tCall spDraw [] E0 (tCons (tVar 1) (tCons (tC (.int 31)) tNil)))) tNil)) (gName 11) (tSeq (tAsg (tCall spDraw [] E0 (tCons (tVar 1) (tCons (tCB rLenA (tCons (tVar 2) tNil)) tNil))) (gName 5)) (tSeq (tAsg (tCall sp_l_message [] E0 (tCons (tVar 1) (tCons (tVar 5) (tCons (tOp rIxA (tVar 2) (tVar 5)) (tCons (tOp rIxA (tVar 8) (tVar 5)) tNil))))) (gName 12)) (tIfS (tTest (tOp rNotN (tVar 12) (tC .non))) (tSeq (tAsg (tCall (sp_l_due A) [] E0 (tCons (tOp rIxA (tVar 2) (tVar 5)) (tCons (tOp rIxA (tVar 8) (tVar 5)) (tCons (tVar 12) (tCons (tVar 10) (tCons (tOp rIxA (tVar 9) (tVar 5)) tNil)))))) (gName 13)) (tSeq (tAsg (tMeth A.c_Homes "handle" (sp_Homes_handle A) [] E0 (tVar 7) (tCons (tVar 12) tNil)) (gName 14)) (tSeq (tIfS (tOr (tNot (tB (tCB rIsiA (tCons (tVar 14) (tCons (tC (.ty "list")) tNil))))) (tOr (tTest (tOp (rNeA A.K) (tVar 14) (tVar 13))) (tTest (tOp (rNeA A.K) (tVar 6) (tVar 10))))) (tRet (tC (.bl false))) tNext) (tIfS (tOr (tTest (tOp (rNeA A.K) (tFld A.K (tDGet (tVar 4) (tVar 5)) "outputs") (tOp rIxA (tVar 9) (tVar 5)))) (tTest (tOp (rNeA A.K) (tFld A.K (tDGet (tVar 4) (tVar 5)) "kind") (tOp rIxA (tVar 2) (tVar 5))))) (tRet (tC (.bl false))) tNext)))) tNext)))) (tRet (tC (.bl true))))))))))))))
theorem st_law (v0 : V) : L2.start ["_law_script", "_law_state_here", "_law_kinds", "_law_inputs", "_law_rows", "_law_channel", "_law_events", "_law_homes", "_law_models", "_law_outputs", "_law_log", "_law_k", "_law_message_here", "_law_due_here", "_law_told", "_law_kind"] [v0] = [some v0, none, none, none, none, none, none, none, none, none, none, none, none, none, none, none] := rfl
theorem len_l_message (A : Ad) {vs : List V} {H : Hp} {Q : VK} {E : XK} (h : sp_l_message vs H Q E) : vs.length = 4 := by
  obtain ⟨a, c, m, inp, B, ls, kd, ch, off, ask, rest, rfl, _⟩ := h
  rfl
theorem i_truB2 {K : PySem.W.Frag} {H : Hp} {b : Bool} {R : Bool → Prop} (q : R b) : (∃ k, TruV K (.bl b) H k ∧ R k) := ⟨b, rfl, q⟩
theorem ref_ne {t : Addr} : V.ref t ≠ V.non := by
  intro h
  cases h
set_option maxHeartbeats 16000000 in
theorem pure_l_message (A : Ad) (vs : List V) (H : Hp) (Q : VK) (E : XK) (h : sp_l_message vs H Q E) : t_l_message A { nx := fun _ H' => Q .non H', rt := Q } (L2.start ["_law_state_here", "_law_channel", "_law_kind", "_law_m", "_law_offered", "_law_asker", "_law_ready", "_law_menu"] vs) H := by
  obtain ⟨a, c, m, inp, B, ls, kd, ch, off, ask, rest, rfl, O, hk, hm, hi, ho, ha, k1, k2⟩ := h
  rw [st_l_message]
  unfold t_l_message
  have fin : ∀ {l1 ls' : List (Addr × HO)} {H' : Hp} {v : V} (O : Own a c B H' ls'), Pre ls ls' l1 → (∃ p xs, v = .ref p ∧ (p, HO.tup xs) ∈ l1 ∧ Msg kd ch off ask rest xs) → Q v H' := by
    rintro l1 ls' H' v O hp ⟨p, xs, rfl, hm, hM⟩
    obtain ⟨B', s, k, O'⟩ := O.settle hp
    exact k2 _ B' p xs s O' (k _ hm) hM
  have hk2 : (kd = "in" ∧ rest = []) ∨ (kd = "in" ∧ ∃ r1 r2, rest = r1 :: r2) ∨ kd = "out" ∨ kd = "inner" := by
    rcases hk with h | h | h
    · rcases rest with _ | ⟨r1, r2⟩
      · exact .inl ⟨h, rfl⟩
      · exact .inr (.inl ⟨h, r1, r2, rfl⟩)
    · exact .inr (.inr (.inl h))
    · exact .inr (.inr (.inr h))
  rcases hk2 with ⟨rfl, rfl⟩ | ⟨rfl, r1, r2, rfl⟩ | rfl | rfl <;> rcases ho with rfl | ⟨t, rfl⟩ <;> rcases ha with rfl | ⟨k, rfl⟩
  all_goals walk_at "s"
  all_goals try (apply i_tB; (solve | simp); walk_at "s")
  all_goals try (apply i_fB; (solve | simp); walk_at "s")
  all_goals try (apply i_tB; (solve | simp); walk_at "s")
  all_goals
    first
      | exact k1 _ (by first | assumption | exact Own.dropP (by assumption) (by walk_at "p"))
      | (apply i_pickO; (solve | assumption); (solve | rfl); (solve | walk_at "m"); (solve | simp); (solve | simp)
         intro v H hv O
         simp only [List.nil_append, List.cons_append, List.append_nil, List.mem_cons, List.not_mem_nil, or_false] at hv
         rcases hv with rfl | rfl | rfl <;> refine fin O (by walk_at "p") ⟨_, _, rfl, (by walk_at "m"), ?_⟩
         all_goals
            first
            | exact .ask (.inl rfl) rfl
            | exact .ask (.inr rfl) rfl
            | exact .cancel (.inl rfl) rfl
            | exact .cancel (.inr rfl) rfl
            | exact .offer (.inl rfl) (by assumption) (by assumption)
            | exact .offer (.inr ⟨rfl, rfl⟩) (by assumption) (by assumption)
            | exact .accept (.inl rfl) rfl (.inr ⟨rfl, List.cons_ne_nil _ _⟩)
            | exact .accept (.inl rfl) rfl (.inl ref_ne)
            | exact .accept (.inr rfl) rfl (.inl ref_ne))
      | (apply i_pickO; (solve | assumption); (solve | rfl); (solve | walk_at "m"); (solve | simp); (solve | simp)
         intro v H hv O
         simp only [List.nil_append, List.cons_append, List.append_nil, List.mem_cons, List.not_mem_nil, or_false] at hv
         rcases hv with rfl | rfl <;> refine fin O (by walk_at "p") ⟨_, _, rfl, (by walk_at "m"), ?_⟩
         all_goals
            first
            | exact .ask (.inl rfl) rfl
            | exact .ask (.inr rfl) rfl
            | exact .cancel (.inl rfl) rfl
            | exact .cancel (.inr rfl) rfl
            | exact .offer (.inl rfl) (by assumption) (by assumption)
            | exact .offer (.inr ⟨rfl, rfl⟩) (by assumption) (by assumption))
      | (apply i_pickO; (solve | assumption); (solve | rfl); (solve | walk_at "m"); (solve | simp); (solve | simp)
         intro v H hv O
         simp only [List.nil_append, List.cons_append, List.append_nil, List.mem_cons, List.not_mem_nil, or_false] at hv
         subst hv
         refine fin O (by walk_at "p") ⟨_, _, rfl, (by walk_at "m"), ?_⟩
         first
            | exact .ask (.inl rfl) rfl
            | exact .ask (.inr rfl) rfl
            | exact .cancel (.inl rfl) rfl
            | exact .cancel (.inr rfl) rfl
            | exact .offer (.inl rfl) (by assumption) (by assumption)
            | exact .offer (.inr ⟨rfl, rfl⟩) (by assumption) (by assumption))
end K46
set_option Elab.async false
set_option linter.all false
set_option maxRecDepth 100000
set_option maxHeartbeats 4000000
namespace K46
open PySem PySem.Spec PyProof.Rows L2 Lb
local macro_rules | `(tactic| walk_at "h") => `(tactic| first | assumption | exact Own.mem (by assumption) (by walk_at "m") | exact Own.kp (by assumption) (by assumption))
local macro_rules | `(tactic| walk_at "m") => `(tactic| (focus ((repeat (first | assumption | exact List.mem_cons_self | apply List.mem_cons_of_mem)); done)))
local macro_rules | `(tactic| walk_at "u") => `(tactic| (focus ((repeat (first | exact Up1.here | apply Up1.there)); done)))
local macro_rules | `(tactic| walk_at "p") => `(tactic| (focus ((repeat (first | exact Pre.nil | apply Pre.cons)); done)))
local macro_rules | `(tactic| walk_at "f") => `(tactic| (focus ((repeat (first | exact PutF.here | exact PutF.nil | (apply PutF.there; (solve | decide +kernel)))); done)))
local macro_rules | `(tactic| walk_at "k") => `(tactic| (focus ((repeat (first | exact LkF.here rfl | exact LkF.nil rfl | refine LkF.there (by decide +kernel) ?_)); done)))
local macro_rules | `(tactic| walk_at "e") => `(tactic| (focus ((repeat (first | exact StE.nil | apply StE.app | apply StE.got | apply StE.lack)); done)))
local macro_rules | `(tactic| walk_at "d") => `(tactic| (focus ((repeat (first | exact Dt.int _ | exact Dt.str _ | exact Dt.non | exact Dt.bl _ | exact DtAll.nil | apply DtAll.cons | (apply Dt.tup; (solve | walk_at "h")) | (apply Dt.lst; (solve | walk_at "h")))); done)))
local macro_rules | `(tactic| walk_at "sh") => `(tactic| (focus ((repeat (first | exact Sh.int | exact Sh.non | exact Sh.str (by decide +kernel) | exact ShA.nil | apply ShA.cons | apply Sh.lst | apply Sh.tup)); done)))
local macro_rules | `(tactic| walk_at "ne") => `(tactic| (apply rd_neF; (solve | walk_at "d"); (solve | walk_at "d"); (solve | exact Sh.shp (n := 4) (by walk_at "sh"))))
local macro_rules | `(tactic| walk_at "s1") => `(tactic| with_reducible first | (apply i_var; (solve | with_unfolding_all rfl)) | apply i_cons | apply i_nil | apply i_c | apply i_op | apply i_asg | apply i_seq | apply i_gname | apply i_eqS | apply i_eqI | apply i_neS | apply i_tt | apply i_ff | (apply i_ixA; (solve | walk_at "h"); (solve | exact IxO.lst (by assumption) | exact .lst (by with_unfolding_all rfl) | exact .tup (by with_unfolding_all rfl))) | apply i_bl | apply i_test | apply i_ifS | apply i_tupN | (apply i_tupO; (solve | assumption); (exact (sz (by (try simp) <;> omega))); intro p H O) | apply i_fld | (apply i_fldO; (solve | walk_at "h"); (solve | assumption); (solve | assumption); (solve | walk_at "k")) | (apply i_tB; (solve | decide +kernel)) | (apply i_fB; (solve | decide +kernel)) | apply i_ret | apply i_retN | apply i_drop | apply i_next | apply i_brk | apply i_cnt | apply i_par | apply i_par2 | apply i_fldSN | apply i_dput | apply i_un | apply i_rU | apply i_rI0 | apply i_B | apply i_tru | apply i_truB | apply i_and | apply i_or | apply i_not | apply i_andV | apply i_orV | apply i_notV | apply i_if | apply i_call | apply i_meth | apply i_makeN | apply i_cb | apply i_dnewN | apply i_lstN | apply i_bml | apply i_gsub | apply i_gcons | apply i_gnil | apply i_sl | apply i_nop | apply i_part | apply i_prt | apply i_isN | apply i_notN | apply i_yes | apply i_ntt | apply i_nff | apply i_addI | apply i_neI | apply i_intI | apply i_intB | apply i_abs | apply i_isiIB | apply i_isiNB | apply i_isiBB | apply i_dget | apply i_for | apply i_ilist | apply i_itup | apply i_rng1 | apply i_rng2 | apply i_ex1 | apply i_ex2 | apply i_exr | apply i_disp | apply i_pcons | apply i_pnil | apply i_neN | apply i_eqN | apply i_neB | apply i_eqB | apply i_lc | apply i_dnI | apply i_nyI | apply i_dnR | apply i_nyR | (apply i_lenA; (solve | walk_at "h"); (solve | first | exact .lst | exact .tup | exact .dK)) | (apply i_isL; (solve | walk_at "h")) | (apply i_isiLL; (solve | walk_at "h")) | (apply i_isiTL; (solve | walk_at "h")) | (apply i_gtup; (solve | walk_at "h"); (solve | with_unfolding_all rfl)) | (apply i_fldSO; (solve | assumption); (solve | walk_at "u"); (solve | walk_at "f"); (solve | assumption); (solve | assumption); (solve | simp); intro H O) | (apply i_lstO; (solve | assumption); (exact (sz (by (try simp) <;> omega))); intro p H O) | (apply i_makeO; (solve | assumption); intro x dx H O) | (apply i_methO; (solve | walk_at "h"); (solve | walk_at "k")) | (apply i_newO; (solve | assumption); intro p H O) | (apply i_listN; (solve | walk_at "h")) | (apply i_listTN; (solve | walk_at "h")) | (apply i_addN; (solve | walk_at "h"); (solve | walk_at "h"); (exact (sz (by (try simp) <;> omega)))) | apply i_mkd | (apply i_dgetI; (solve | walk_at "h"); (solve | assumption)) | (apply i_in; (solve | with_unfolding_all rfl); (solve | walk_at "e")) | (apply i_setO; (solve | assumption); (solve | walk_at "u"); (solve | with_unfolding_all rfl); intro H O) | (apply i_appO; (solve | assumption); (solve | walk_at "u"); (exact (szl (by (try simp) <;> omega))); intro H O) | (apply i_drawO; (solve | assumption); (exact rfl); (solve | decide); (solve | decide); intro r H h0 h1 O))
local macro_rules | `(tactic| walk_at "s") => `(tactic| repeat (walk_at "s1"))
/-- what is known of the channels -/
structure G where
  kd : Nat → Str
  x : Nat → Addr
  dx : Nat → Addr
  o : Nat → Addr
  m : Nat → Addr
  q : Nat → Addr
  inp : Nat → Addr
  hin : Nat → Addr
  ins : Nat → List Int
  used : Nat → Nat
  outs : Nat → List Int
  off : Nat → V
  moff : Nat → V
  ask : Nat → V
def fsOf (kd : Str) (hin o : Addr) (used : Nat) (off ask : V) : List (Str × V) := [("kind", .str kd), ("inputs", .ref hin), ("used", .int used), ("outputs", .ref o), ("offer", off), ("asker", ask)]
def cells (A : Ad) (g : G) (i : Nat) : List (Addr × HO) :=
  [(g.x i, .ins A.c_Home (g.dx i) (fsOf (g.kd i) (g.hin i) (g.o i) (g.used i) (g.off i) (g.ask i))), (g.o i, .lst ((g.outs i).map V.int)), (g.m i, .lst [g.moff i, g.ask i, .ref (g.inp i)]), (g.q i, .lst ((g.outs i).map V.int)), (g.inp i, .lst (((g.ins i).drop (g.used i)).map V.int))]
structure Co where
  kp : Addr
  rows : Addr
  E : Addr
  hs : Addr
  dxs : Addr
  mp : Addr
  qp : Addr
  L : Addr
structure St (A : Ad) (B : Hp) (C : Co) (n : Nat) (g : G) : Prop where
  n1 : 1 ≤ n
  n4 : n ≤ 4
  kp : B C.kp = some (.lst ((List.range n).map fun i => V.str (g.kd i)))
  mp : B C.mp = some (.lst ((List.range n).map fun i => V.ref (g.m i)))
  qp : B C.qp = some (.lst ((List.range n).map fun i => V.ref (g.q i)))
  rows : B C.rows = some (.dK ((List.range n).map fun (i : Nat) => ((Sum.inl (i : Int) : Key), V.ref (g.x i))))
  hs : B C.hs = some (.ins A.c_Homes C.dxs [("rows", .ref C.rows), ("log", .ref C.E)])
  hin : ∀ i, i < n → B (g.hin i) = some (.lst ((g.ins i).map V.int))
  kd : ∀ i, i < n → Kd (g.kd i)
  no : ∀ i, i < n → g.kd i ≠ "in" → g.ins i = []
def OffR (B : Hp) (kd : Str) (off moff : V) : Prop := (off = .non ∧ moff = .non) ∨ (kd = "inner" ∧ ∃ (t1 t2 : Addr) (w u : Int), off = .ref t1 ∧ moff = .ref t2 ∧ B t1 = some (.tup [.int w, .int u]) ∧ B t2 = some (.tup [.int w, .int u]))
structure Dy (B : Hp) (g : G) (k i : Nat) : Prop where
  off : OffR B (g.kd i) (g.off i) (g.moff i)
  ask : g.ask i = .non ∨ ∃ k, g.ask i = .int k
  used : g.used i ≤ (g.ins i).length
  outs : (g.outs i).length ≤ k
def Rows (B : Hp) : List V → List (Int × Int) → Prop
  | [], [] => True
  | v :: vs, d :: ds => (∃ p, v = .ref p ∧ B p = some (.tup [.int d.1, .int d.2])) ∧ Rows B vs ds
  | _, _ => False
theorem Rows.snoc {B : Hp} {p : Addr} {d : Int × Int} (h : B p = some (.tup [.int d.1, .int d.2])) : ∀ {vs : List V} {ds : List (Int × Int)}, Rows B vs ds → Rows B (vs ++ [.ref p]) (ds ++ [d])
  | [], [], _ => ⟨⟨p, rfl, h⟩, trivial⟩
  | _ :: _, _ :: _, k => ⟨k.1, Rows.snoc h k.2⟩
  | [], _ :: _, k => k.elim
  | _ :: _, [], k => k.elim
def Tups (B B' : Hp) : Prop := ∀ p xs, B p = some (.tup xs) → B' p = some (.tup xs)
theorem Rows.mono {B B' : Hp} (s : Tups B B') : ∀ {vs : List V} {ds : List (Int × Int)}, Rows B vs ds → Rows B' vs ds
  | [], [], _ => trivial
  | _ :: _, _ :: _, ⟨⟨p, e, h⟩, k⟩ => ⟨⟨p, e, s _ _ h⟩, Rows.mono s k⟩
  | [], _ :: _, k => k.elim
  | _ :: _, [], k => k.elim
def rowsD (ds : List (Int × Int)) : List PyData := ds.map fun d => .tuple [.int d.1, .int d.2]
theorem Rows.dt {B : Hp} : ∀ {vs : List V} {ds : List (Int × Int)}, Rows B vs ds → DtAll B vs (rowsD ds)
  | [], [], _ => .nil
  | _ :: _, _ :: _, ⟨⟨p, e, h⟩, k⟩ => by
    subst e
    exact .cons (.tup h (.cons (.int _) (.cons (.int _) .nil))) (Rows.dt k)
  | [], _ :: _, k => k.elim
  | _ :: _, [], k => k.elim
theorem rowsD_sh (ds : List (Int × Int)) : Sh 2 (.list (rowsD ds)) := .lst (.all fun d h => by
  obtain ⟨x, _, rfl⟩ := List.mem_map.mp h
  exact .tup (n := 0) (.cons .int (.cons .int .nil)))
structure Inv (A : Ad) (a c : Addr) (C : Co) (n k : Nat) (g : G) (H : Hp) : Prop where
  ex : ∃ (B : Hp) (es lg : List V) (ds : List (Int × Int)), Own a c B H ((List.range n).flatMap (cells A g) ++ [(C.E, .lst es), (C.L, .lst lg)]) ∧ St A B C n g ∧ (∀ i, i < n → Dy B g k i) ∧ Rows B es ds ∧ Rows B lg ds ∧ es.length ≤ k ∧ lg.length ≤ k
theorem rng_get {α : Type} {n j : Nat} {f : Nat → α} (h : j < n) : ((List.range n).map f)[j]? = some (f j) := by
  rw [List.getElem?_map, List.getElem?_range h]
  rfl
theorem rows_val {n j : Nat} {f : Nat → V} (h : j < n) : valV (κ := Key) ((List.range n).map fun (i : Nat) => ((Sum.inl (i : Int) : Key), f i)) (.inl (j : Int)) = some (f j) := by
  induction n with
  | zero => omega
  | succ n ih =>
    rw [List.range_succ, List.map_append]
    unfold valV
    rw [List.find?_append]
    by_cases e : j < n
    · have := ih e
      unfold valV at this
      cases q : List.find? (fun kv : Key × V => decide (kv.1 = Sum.inl (j : Int))) ((List.range n).map fun (i : Nat) => ((Sum.inl (i : Int) : Key), f i)) with
      | none => rw [q] at this; cases this
      | some y => rw [q] at this; exact this
    · have e2 : j = n := by omega
      subst e2
      have q : List.find? (fun kv : Key × V => decide (kv.1 = Sum.inl (j : Int))) ((List.range j).map fun (i : Nat) => ((Sum.inl (i : Int) : Key), f i)) = none := by
        rw [List.find?_eq_none]
        intro x hx
        obtain ⟨i, hi, rfl⟩ := List.mem_map.mp hx
        have := List.mem_range.mp hi
        simp
        omega
      rw [q]
      simp
/-- the state behind a step of channel j -/
def G.up (g : G) (j : Nat) (used : Nat) (outs : List Int) (off moff ask : V) : G := { g with
  used := fun i => if i = j then used else g.used i, outs := fun i => if i = j then outs else g.outs i, off := fun i => if i = j then off else g.off i, moff := fun i => if i = j then moff else g.moff i, ask := fun i => if i = j then ask else g.ask i }
def cell1 (A : Ad) (g : G) (j : Nat) (used : Nat) (outs : List Int) (off moff ask : V) : List (Addr × HO) :=
  [(g.x j, .ins A.c_Home (g.dx j) (fsOf (g.kd j) (g.hin j) (g.o j) used off ask)), (g.o j, .lst (outs.map V.int)), (g.m j, .lst [moff, ask, .ref (g.inp j)]), (g.q j, .lst (outs.map V.int)), (g.inp j, .lst (((g.ins j).drop used).map V.int))]
theorem cells_up (A : Ad) (g : G) (j used : Nat) (outs : List Int) (off moff ask : V) : cells A (g.up j used outs off moff ask) j = cell1 A g j used outs off moff ask := by
  simp [cells, cell1, G.up]
theorem cells_ne (A : Ad) (g : G) {i j used : Nat} {outs : List Int} {off moff ask : V} (h : i ≠ j) : cells A (g.up j used outs off moff ask) i = cells A g i := by
  simp [cells, G.up, h]
theorem notTup {A : Ad} {g : G} {l : List Nat} {p : Addr} {xs : List V} : (p, HO.tup xs) ∉ l.flatMap (cells A g) := fun h => by
  obtain ⟨i, _, hi⟩ := List.mem_flatMap.mp h
  simp [cells] at hi
theorem back {A : Ad} {a c : Addr} {C : Co} {n k j : Nat} {g : G} {B0 B1 B3 H' : Hp} {es lg : List V} {ds : List (Int × Int)} {used : Nat} {outs : List Int} {off moff ask : V} (hj : j < n)
    (S : St A B0 C n g) (D : ∀ i, i < n → Dy B0 g k i)
    (out0 : ∀ y ∈ ((List.range n).erase j).flatMap (cells A g), B0 y.1 = none) (nd : ((((List.range n).erase j).flatMap (cells A g)).map Prod.fst).Nodup)
    (s01 : Same B0 B1) (k1 : ∀ y ∈ ((List.range n).erase j).flatMap (cells A g), B1 y.1 = some y.2) (s13 : Same B1 B3)
    (O : Own a c B3 H' (cell1 A g j used outs off moff ask ++ [(C.E, .lst es), (C.L, .lst lg)]))
    (ho : OffR B3 (g.kd j) off moff) (ha : ask = .non ∨ ∃ k, ask = .int k) (hu : used ≤ (g.ins j).length) (hz : outs.length ≤ k + 1)
    (r1 : Rows B3 es ds) (r2 : Rows B3 lg ds) (z1 : es.length ≤ k + 1) (z2 : lg.length ≤ k + 1) : Inv A a c C n (k + 1) (g.up j used outs off moff ask) H' := by
  have O2 := O.unhide nd fun y hy => s13 _ _ (k1 y hy)
  have sB : Same B0 (hid ((((List.range n).erase j).flatMap (cells A g)).map Prod.fst) B3) := Same.hidO (Same.trans s01 s13) fun p hp => by
    obtain ⟨y, hy, e⟩ := List.mem_map.mp hp
    rw [← e]
    exact out0 y hy
  have tT : Tups B3 (hid ((((List.range n).erase j).flatMap (cells A g)).map Prod.fst) B3) := fun p xs e => by
    rw [hid_out fun hp => ?_]
    · exact e
    obtain ⟨y, hy, q⟩ := List.mem_map.mp hp
    have e2 := s13 _ _ (k1 y hy)
    rw [q, e] at e2
    refine notTup (A := A) (g := g) (l := (List.range n).erase j) (p := p) (xs := xs) ?_
    have : y = (p, HO.tup xs) := by
      cases y
      simp only at q e2
      rw [q, ← Option.some.inj e2]
    rw [← this]
    exact hy
  refine ⟨_, es, lg, ds, O2.perm ?_, ?_, fun i hi => ?_, r1.mono tT, r2.mono tT, z1, z2⟩
  · have e1 : ((List.range n).erase j).flatMap (cells A g) = ((List.range n).erase j).flatMap (cells A (g.up j used outs off moff ask)) := (blk_other fun i hi => cells_ne A g hi).symm
    rw [e1, ← List.append_assoc, ← cells_up]
    refine List.Perm.append_right _ (List.Perm.trans List.perm_append_comm (blk_pull hj _).symm)
  · exact ⟨S.n1, S.n4, sB _ _ S.kp, sB _ _ S.mp, sB _ _ S.qp, sB _ _ S.rows, sB _ _ S.hs, fun i hi => sB _ _ (S.hin i hi), S.kd, S.no⟩
  · by_cases e : i = j
    · subst e
      refine ⟨?_, by simp only [G.up, if_pos]; exact ha, by simp only [G.up, if_pos]; exact hu, by simp only [G.up, if_pos]; exact hz⟩
      simp only [G.up, if_pos]
      rcases ho with q | ⟨q, t1, t2, w, u, q1, q2, q3, q4⟩
      · exact .inl q
      · exact .inr ⟨q, t1, t2, w, u, q1, q2, tT _ _ q3, tT _ _ q4⟩
    · have d := D i hi
      refine ⟨?_, by simp only [G.up, if_neg e]; exact d.ask, by simp only [G.up, if_neg e]; exact d.used, by simp only [G.up, if_neg e]; exact Nat.le_succ_of_le d.outs⟩
      simp only [G.up, if_neg e]
      rcases d.off with q | ⟨q, t1, t2, w, u, q1, q2, q3, q4⟩
      · exact .inl q
      · exact .inr ⟨q, t1, t2, w, u, q1, q2, sB _ _ q3, sB _ _ q4⟩
end K46
set_option Elab.async false
set_option linter.all false
set_option maxRecDepth 100000
set_option maxHeartbeats 4000000
namespace K46
open PySem PySem.Spec PyProof.Rows L2 Lb
local macro_rules | `(tactic| walk_at "h") => `(tactic| first | assumption | exact Own.mem (by assumption) (by walk_at "m") | exact Own.kp (by assumption) (by assumption))
local macro_rules | `(tactic| walk_at "m") => `(tactic| (focus ((repeat (first | assumption | exact List.mem_cons_self | apply List.mem_cons_of_mem)); done)))
local macro_rules | `(tactic| walk_at "u") => `(tactic| (focus ((repeat (first | exact Up1.here | apply Up1.there)); done)))
local macro_rules | `(tactic| walk_at "p") => `(tactic| (focus ((repeat (first | exact Pre.nil | apply Pre.cons)); done)))
local macro_rules | `(tactic| walk_at "f") => `(tactic| (focus ((repeat (first | exact PutF.here | exact PutF.nil | (apply PutF.there; (solve | decide +kernel)))); done)))
local macro_rules | `(tactic| walk_at "k") => `(tactic| (focus ((repeat (first | exact LkF.here rfl | exact LkF.nil rfl | refine LkF.there (by decide +kernel) ?_)); done)))
local macro_rules | `(tactic| walk_at "e") => `(tactic| (focus ((repeat (first | exact StE.nil | apply StE.app | apply StE.got | apply StE.lack)); done)))
local macro_rules | `(tactic| walk_at "d") => `(tactic| (focus ((repeat (first | exact Dt.int _ | exact Dt.str _ | exact Dt.non | exact Dt.bl _ | exact DtAll.nil | apply DtAll.cons | (apply Dt.tup; (solve | walk_at "h")) | (apply Dt.lst; (solve | walk_at "h")))); done)))
local macro_rules | `(tactic| walk_at "sh") => `(tactic| (focus ((repeat (first | exact Sh.int | exact Sh.non | exact Sh.str (by decide +kernel) | exact ShA.nil | apply ShA.cons | apply Sh.lst | apply Sh.tup)); done)))
local macro_rules | `(tactic| walk_at "ne") => `(tactic| (apply rd_neF; (solve | walk_at "d"); (solve | walk_at "d"); (solve | exact Sh.shp (n := 4) (by walk_at "sh"))))
local macro_rules | `(tactic| walk_at "s1") => `(tactic| with_reducible first | (apply i_var; (solve | with_unfolding_all rfl)) | apply i_cons | apply i_nil | apply i_c | apply i_op | apply i_asg | apply i_seq | apply i_gname | apply i_eqS | apply i_eqI | apply i_neS | apply i_tt | apply i_ff | (apply i_ixA; (solve | walk_at "h"); (solve | exact IxO.lst (by assumption) | exact .lst (by with_unfolding_all rfl) | exact .tup (by with_unfolding_all rfl))) | apply i_bl | apply i_test | apply i_ifS | apply i_tupN | (apply i_tupO; (solve | assumption); (exact (sz (by (try simp) <;> omega))); intro p H O) | apply i_fld | (apply i_fldO; (solve | walk_at "h"); (solve | assumption); (solve | assumption); (solve | walk_at "k")) | (apply i_tB; (solve | decide +kernel)) | (apply i_fB; (solve | decide +kernel)) | apply i_ret | apply i_retN | apply i_drop | apply i_next | apply i_brk | apply i_cnt | apply i_par | apply i_par2 | apply i_fldSN | apply i_dput | apply i_un | apply i_rU | apply i_rI0 | apply i_B | apply i_tru | apply i_truB | apply i_and | apply i_or | apply i_not | apply i_andV | apply i_orV | apply i_notV | apply i_if | apply i_call | apply i_meth | apply i_makeN | apply i_cb | apply i_dnewN | apply i_lstN | apply i_bml | apply i_gsub | apply i_gcons | apply i_gnil | apply i_sl | apply i_nop | apply i_part | apply i_prt | apply i_isN | apply i_notN | apply i_yes | apply i_ntt | apply i_nff | apply i_addI | apply i_neI | apply i_intI | apply i_intB | apply i_abs | apply i_isiIB | apply i_isiNB | apply i_isiBB | apply i_dget | apply i_for | apply i_ilist | apply i_itup | apply i_rng1 | apply i_rng2 | apply i_ex1 | apply i_ex2 | apply i_exr | apply i_disp | apply i_pcons | apply i_pnil | apply i_neN | apply i_eqN | apply i_neB | apply i_eqB | apply i_lc | apply i_dnI | apply i_nyI | apply i_dnR | apply i_nyR | (apply i_lenA; (solve | walk_at "h"); (solve | first | exact .lst | exact .tup | exact .dK)) | (apply i_isL; (solve | walk_at "h")) | (apply i_isiLL; (solve | walk_at "h")) | (apply i_isiTL; (solve | walk_at "h")) | (apply i_gtup; (solve | walk_at "h"); (solve | with_unfolding_all rfl)) | (apply i_fldSO; (solve | assumption); (solve | walk_at "u"); (solve | walk_at "f"); (solve | assumption); (solve | assumption); (solve | simp); intro H O) | (apply i_lstO; (solve | assumption); (exact (sz (by (try simp) <;> omega))); intro p H O) | (apply i_makeO; (solve | assumption); intro x dx H O) | (apply i_methO; (solve | walk_at "h"); (solve | walk_at "k")) | (apply i_newO; (solve | assumption); intro p H O) | (apply i_listN; (solve | walk_at "h")) | (apply i_listTN; (solve | walk_at "h")) | (apply i_addN; (solve | walk_at "h"); (solve | walk_at "h"); (exact (sz (by (try simp) <;> omega)))) | apply i_mkd | (apply i_dgetI; (solve | walk_at "h"); (solve | assumption)) | (apply i_in; (solve | with_unfolding_all rfl); (solve | walk_at "e")) | (apply i_setO; (solve | assumption); (solve | walk_at "u"); (solve | with_unfolding_all rfl); intro H O) | (apply i_appO; (solve | assumption); (solve | walk_at "u"); (exact (szl (by (try simp) <;> omega))); intro H O) | (apply i_drawO; (solve | assumption); (exact rfl); (solve | decide); (solve | decide); intro r H h0 h1 O))
local macro_rules | `(tactic| walk_at "s") => `(tactic| repeat (walk_at "s1"))
def t_body (A : Ad) : TS := (tSeq (tAsg (tCall spDraw [] E0 (tCons (tVar 1) (tCons (tCB rLenA (tCons (tVar 2) tNil)) tNil))) (gName 5)) (tSeq (tAsg (tCall sp_l_message [] E0 (tCons (tVar 1) (tCons (tVar 5) (tCons (tOp rIxA (tVar 2) (tVar 5)) (tCons (tOp rIxA (tVar 8) (tVar 5)) tNil))))) (gName 12)) (tIfS (tTest (tOp rNotN (tVar 12) (tC .non))) (tSeq (tAsg (tCall (sp_l_due A) [] E0 (tCons (tOp rIxA (tVar 2) (tVar 5)) (tCons (tOp rIxA (tVar 8) (tVar 5)) (tCons (tVar 12) (tCons (tVar 10) (tCons (tOp rIxA (tVar 9) (tVar 5)) tNil)))))) (gName 13)) (tSeq (tAsg (tMeth A.c_Homes "handle" (sp_Homes_handle A) [] E0 (tVar 7) (tCons (tVar 12) tNil)) (gName 14)) (tSeq (tIfS (tOr (tNot (tB (tCB rIsiA (tCons (tVar 14) (tCons (tC (.ty "list")) tNil))))) (tOr (tTest (tOp (rNeA A.K) (tVar 14) (tVar 13))) (tTest (tOp (rNeA A.K) (tVar 6) (tVar 10))))) (tRet (tC (.bl false))) tNext) (tIfS (tOr (tTest (tOp (rNeA A.K) (tFld A.K (tDGet (tVar 4) (tVar 5)) "outputs") (tOp rIxA (tVar 9) (tVar 5)))) (tTest (tOp (rNeA A.K) (tFld A.K (tDGet (tVar 4) (tVar 5)) "kind") (tOp rIxA (tVar 2) (tVar 5))))) (tRet (tC (.bl false))) tNext)))) tNext)))
theorem neRows {K : PySem.W.Frag} {H : Hp} {Q : VK} {p q : Addr} {es lg : List V} {ds : List (Int × Int)} (h1 : H p = some (.lst es)) (h2 : H q = some (.lst lg)) (r1 : Rows H es ds) (r2 : Rows H lg ds) (k : Q (.bl false) H) : rNeA K (.ref p) (.ref q) H Q :=
  rd_neF (.lst h1 r1.dt) (.lst h2 r2.dt) (rowsD_sh ds).shp k
theorem neInts {K : PySem.W.Frag} {H : Hp} {Q : VK} {p q : Addr} {xs : List V} {ns : List Int} (h1 : H p = some (.lst xs)) (h2 : H q = some (.lst xs)) (e : xs = ns.map V.int) (k : Q (.bl false) H) : rNeA K (.ref p) (.ref q) H Q := by
  subst e
  exact rd_neF (.lst h1 (DtAll.ints ns)) (.lst h2 (DtAll.ints ns)) (Sh.shp (n := 1) (.lst .ints)) k
set_option maxHeartbeats 64000000 in
theorem body (A : Ad) (F : CF A) {a c s ip : Addr} {n k : Nat} {g : G} {H : Hp} {C : Co} (I : Inv A a c C n k g H) (hk : k ≤ 40) {x5 x11 x12 x13 x14 x15 : Option V} {nx : L2.St → Hp → Prop} {rt : VK} {bk ct : L2.St → Hp → Prop}
    (hnx : ∀ g' H' x5 x11 x12 x13 x14 x15, Inv A a c C n (k + 1) g' H' → nx [some (.ref s), some (.ref a), some (.ref C.kp), some (.ref ip), some (.ref C.rows), x5, some (.ref C.E), some (.ref C.hs), some (.ref C.mp), some (.ref C.qp), some (.ref C.L), x11, x12, x13, x14, x15] H') :
    t_body A ⟨nx, rt, bk, ct⟩ [some (.ref s), some (.ref a), some (.ref C.kp), some (.ref ip), some (.ref C.rows), x5, some (.ref C.E), some (.ref C.hs), some (.ref C.mp), some (.ref C.qp), some (.ref C.L), x11, x12, x13, x14, x15] H := by
  obtain ⟨B0, es, lg, ds, O, S, D, r1, r2, z1, z2⟩ := I.ex
  obtain ⟨F1, F2, n1, n2, n3, n4, n5, n6, n7, n8⟩ := F
  have kp0 := S.kp
  have q1 := S.n1
  have q2 := S.n4
  unfold t_body
  walk_at "s"
  refine i_drawO O rfl (by simp; omega) (by simp; omega) fun r H1 h0 h1 O => ?_
  obtain ⟨j, rfl⟩ : ∃ j : Nat, r = (j : Int) := ⟨r.toNat, by omega⟩
  have hj : j < n := by simpa using h1
  have O1 := O.perm (((blk_pull hj (cells A g)).trans List.perm_append_comm).append_right _)
  rw [List.append_assoc] at O1
  have nd : ((((List.range n).erase j).flatMap (cells A g)).map Prod.fst).Nodup := by
    have := O1.nd
    rw [List.map_append] at this
    exact (List.nodup_append.mp this).1
  have out0 : ∀ y ∈ ((List.range n).erase j).flatMap (cells A g), B0 y.1 = none := fun y hy => (O1.out y (List.mem_append_left _ hy)).1
  obtain ⟨B1, s01, k1, _, O⟩ := O1.hide
  have bk := fun B3 H' es lg ds used outs off moff ask => @back A a c C n k j g B0 B1 B3 H' es lg ds used outs off moff ask hj S D out0 nd s01 k1
  have fin : ∀ {B3 H' es lg ds used outs off moff ask} {x5 x11 x12 x13 x14 x15}, Same B1 B3 → Own a c B3 H' (cell1 A g j used outs off moff ask ++ [(C.E, .lst es), (C.L, .lst lg)]) → OffR B3 (g.kd j) off moff → (ask = .non ∨ ∃ k, ask = .int k) → used ≤ (g.ins j).length → outs.length ≤ k + 1 → Rows B3 es ds → Rows B3 lg ds → es.length ≤ k + 1 → lg.length ≤ k + 1 →
      nx [some (.ref s), some (.ref a), some (.ref C.kp), some (.ref ip), some (.ref C.rows), x5, some (.ref C.E), some (.ref C.hs), some (.ref C.mp), some (.ref C.qp), some (.ref C.L), x11, x12, x13, x14, x15] H' :=
    fun h1 h2 h3 h4 h5 h6 h7 h8 h9 h10 => hnx _ _ _ _ _ _ _ _ (bk _ _ _ _ _ _ _ _ _ _ h1 h2 h3 h4 h5 h6 h7 h8 h9 h10)
  have kp1 := s01 _ _ S.kp
  have mp1 := s01 _ _ S.mp
  have qp1 := s01 _ _ S.qp
  have rows1 := s01 _ _ S.rows
  have hs1 := s01 _ _ S.hs
  have hin1 := s01 _ _ (S.hin j hj)
  have a1 := atI_nat (rng_get (f := fun i => V.str (g.kd i)) hj)
  have a2 := atI_nat (rng_get (f := fun i => V.ref (g.m i)) hj)
  have a3 := atI_nat (rng_get (f := fun i => V.ref (g.q i)) hj)
  have a4 := rows_val (f := fun i => V.ref (g.x i)) hj
  have Dj := D j hj
  have hkd := S.kd j hj
  have hno := S.no j hj
  clear bk S D out0 nd k1 O1 kp0 hnx I
  obtain ⟨d1, d2, d3, d4⟩ := Dj
  simp only [cells, cell1, fsOf, List.cons_append, List.nil_append] at O fin
  have r1 := r1.mono (B' := B1) fun p xs e => s01 _ _ e
  have r2 := r2.mono (B' := B1) fun p xs e => s01 _ _ e
  have d1 : OffR B1 (g.kd j) (g.off j) (g.moff j) := by
    rcases d1 with q | ⟨q, t1, t2, w, u, q1, q2, q3, q4⟩
    · exact .inl q
    · exact .inr ⟨q, t1, t2, w, u, q1, q2, s01 _ _ q3, s01 _ _ q4⟩
  generalize (List.range n).map (fun i => V.str (g.kd i)) = kl at *
  generalize (List.range n).map (fun i => V.ref (g.m i)) = ml at *
  generalize (List.range n).map (fun i => V.ref (g.q i)) = ql at *
  generalize (List.range n).map (fun (i : Nat) => ((Sum.inl (i : Int) : Key), V.ref (g.x i))) = rl at *
  generalize g.kd j = kd at *
  generalize g.x j = x at *
  generalize g.dx j = dx at *
  generalize g.o j = o at *
  generalize g.m j = m at *
  generalize g.q j = q at *
  generalize g.inp j = inp at *
  generalize g.hin j = hin at *
  generalize g.ins j = ins at *
  generalize g.used j = used at *
  generalize g.outs j = outs at *
  generalize g.off j = off at *
  generalize g.moff j = moff at *
  generalize g.ask j = ask at *
  walk_at "s"
  refine ⟨a, c, m, inp, B1, _, kd, (j : Int), moff, ask, _, rfl, O, hkd, (by walk_at "m"), (by walk_at "m"), ?_, d2, fun H2 O => ?_, fun H2 B2 p xs s2 O hp hM => ?_⟩
  · rcases d1 with ⟨_, e⟩ | ⟨_, t1, t2, w, u, _, e, _⟩
    · exact .inl e
    · exact .inr ⟨t2, e⟩
  · walk_at "s"
    exact fin (Same.refl _) O d1 d2 d3 (by omega) r1 r2 (by omega) (by omega)
  have r1 := r1.mono (B' := B2) fun p xs e => s2 _ _ e
  have r2 := r2.mono (B' := B2) fun p xs e => s2 _ _ e
  have d1 : OffR B2 kd off moff := by
    rcases d1 with q | ⟨q, t1, t2, w, u, q1, q2, q3, q4⟩
    · exact .inl q
    · exact .inr ⟨q, t1, t2, w, u, q1, q2, s2 _ _ q3, s2 _ _ q4⟩
  have kp1 := s2 _ _ kp1
  have mp1 := s2 _ _ mp1
  have qp1 := s2 _ _ qp1
  have rows1 := s2 _ _ rows1
  have hs1 := s2 _ _ hs1
  have hin1 := s2 _ _ hin1
  have fin : ∀ {H' es lg ds used outs off moff ask l1 ls'} {x5 x11 x12 x13 x14 x15}, Own a c B2 H' ls' → Pre [(x, HO.ins A.c_Home dx [("kind", V.str kd), ("inputs", V.ref hin), ("used", V.int (used : Nat)), ("outputs", V.ref o), ("offer", off), ("asker", ask)]), (o, HO.lst (List.map V.int outs)), (m, HO.lst [moff, ask, V.ref inp]), (q, HO.lst (List.map V.int outs)), (inp, HO.lst (List.map V.int (List.drop used ins))), (C.E, HO.lst es), (C.L, HO.lst lg)] ls' l1 →
      (∀ B3, Same B2 B3 → (∀ p o, (p, o) ∈ l1 → B3 p = some o) → OffR B3 kd off moff ∧ Rows B3 es ds ∧ Rows B3 lg ds) → (ask = .non ∨ ∃ k, ask = .int k) → used ≤ ins.length → outs.length ≤ k + 1 → es.length ≤ k + 1 → lg.length ≤ k + 1 →
      nx [some (.ref s), some (.ref a), some (.ref C.kp), some (.ref ip), some (.ref C.rows), x5, some (.ref C.E), some (.ref C.hs), some (.ref C.mp), some (.ref C.qp), some (.ref C.L), x11, x12, x13, x14, x15] H' := by
    intro H' es lg ds used outs off moff ask l1 ls' x5 x11 x12 x13 x14 x15 O hP hB g1 g2 g3 g4 g5
    obtain ⟨B3, s3, k3, O⟩ := O.settle hP
    obtain ⟨f1, f2, f3⟩ := hB B3 s3 fun p o h => k3 _ h
    exact fin (Same.trans s2 s3) O f1 g1 g2 g3 f2 f3 g4 g5
  have L1 := List.length_map (as := ins) V.int
  have L2 := List.length_map (as := ins.drop used) V.int
  have L3 : (ins.drop used).length = ins.length - used := List.length_drop
  have eo : ∀ w, List.map V.int outs ++ [V.int w] = List.map V.int (outs ++ [w]) := fun w => by simp
  have dout : kd ≠ "inner" → off = .non ∧ moff = .non := fun h => by
    rcases d1 with q | ⟨q, _⟩
    · exact q
    · exact absurd q h
  cases hM with
  | @offer w hh w0 w1 =>
    rcases hh with rfl | ⟨rfl, rfl⟩
    · walk_at "s"
      walk_at "ne"
      walk_at "s"
      refine neRows (by walk_at "h") (by walk_at "h") (Rows.snoc (d := (_, _)) (by walk_at "h") (r1.mono fun p xs e => Own.kp (by assumption) e)) (Rows.snoc (d := (_, _)) (by walk_at "h") (r2.mono fun p xs e => Own.kp (by assumption) e)) ?_
      walk_at "s"
      refine neInts (ns := outs ++ [w]) (by walk_at "h") (by walk_at "h") (eo w) ?_
      walk_at "s"
      rename_i O9
      rw [eo] at O9
      exact fin O9 (by walk_at "p") (fun B3 s3 k3 => ⟨.inl (dout (by decide +kernel)), Rows.snoc (d := (j, w)) (k3 _ _ (by walk_at "m")) (r1.mono fun p xs e => s3 _ _ e), Rows.snoc (d := (j, w)) (k3 _ _ (by walk_at "m")) (r2.mono fun p xs e => s3 _ _ e)⟩) d2 d3 (by simp; omega) (by simp; omega) (by simp; omega)
    · rcases d2 with rfl | ⟨kk, rfl⟩
      · walk_at "s"
        walk_at "ne"
        walk_at "s"
        refine neRows (by walk_at "h") (by walk_at "h") (r1.mono fun p xs e => Own.kp (by assumption) e) (r2.mono fun p xs e => Own.kp (by assumption) e) ?_
        walk_at "s"
        refine neInts (ns := outs) (by walk_at "h") (by walk_at "h") rfl ?_
        walk_at "s"
        exact fin ‹Own a c B2 _ _› (by walk_at "p") (fun B3 s3 k3 => ⟨.inr ⟨rfl, _, _, w, _, rfl, rfl, k3 _ _ (by walk_at "m"), k3 _ _ (by walk_at "m")⟩, r1.mono fun p xs e => s3 _ _ e, r2.mono fun p xs e => s3 _ _ e⟩) (.inl rfl) d3 (by omega) (by omega) (by omega)
      · walk_at "s"
        walk_at "ne"
        walk_at "s"
        refine neRows (by walk_at "h") (by walk_at "h") (r1.mono fun p xs e => Own.kp (by assumption) e) (r2.mono fun p xs e => Own.kp (by assumption) e) ?_
        walk_at "s"
        refine neInts (ns := outs) (by walk_at "h") (by walk_at "h") rfl ?_
        walk_at "s"
        exact fin ‹Own a c B2 _ _› (by walk_at "p") (fun B3 s3 k3 => ⟨.inr ⟨rfl, _, _, w, _, rfl, rfl, k3 _ _ (by walk_at "m"), k3 _ _ (by walk_at "m")⟩, r1.mono fun p xs e => s3 _ _ e, r2.mono fun p xs e => s3 _ _ e⟩) (.inr ⟨_, rfl⟩) d3 (by omega) (by omega) (by omega)
  | ask hh e =>
    subst e
    rcases hh with rfl | rfl
    · obtain ⟨rfl, rfl⟩ := dout (by decide +kernel)
      by_cases hu : used < ins.length
      · repeat (first | walk_at "s1" | (apply i_dy; (solve | omega)) | (apply i_dn; (solve | omega)))
        walk_at "ne"
        walk_at "s"
        refine neRows (by walk_at "h") (by walk_at "h") (r1.mono fun p xs e => Own.kp (by assumption) e) (r2.mono fun p xs e => Own.kp (by assumption) e) ?_
        walk_at "s"
        refine neInts (ns := outs) (by walk_at "h") (by walk_at "h") rfl ?_
        walk_at "s"
        exact fin ‹Own a c B2 _ _› (by walk_at "p") (fun B3 s3 k3 => ⟨.inl ⟨rfl, rfl⟩, r1.mono fun p xs e => s3 _ _ e, r2.mono fun p xs e => s3 _ _ e⟩) (.inr ⟨_, rfl⟩) d3 (by omega) (by omega) (by omega)
      · repeat (first | walk_at "s1" | (apply i_dy; (solve | omega)) | (apply i_dn; (solve | omega)))
        walk_at "ne"
        walk_at "s"
        refine neRows (by walk_at "h") (by walk_at "h") (r1.mono fun p xs e => Own.kp (by assumption) e) (r2.mono fun p xs e => Own.kp (by assumption) e) ?_
        walk_at "s"
        refine neInts (ns := outs) (by walk_at "h") (by walk_at "h") rfl ?_
        walk_at "s"
        exact fin ‹Own a c B2 _ _› (by walk_at "p") (fun B3 s3 k3 => ⟨.inl ⟨rfl, rfl⟩, r1.mono fun p xs e => s3 _ _ e, r2.mono fun p xs e => s3 _ _ e⟩) (.inr ⟨_, rfl⟩) d3 (by omega) (by omega) (by omega)
    · obtain rfl := hno (by decide +kernel)
      have L4 : ([] : List Int).length = 0 := rfl
      rcases d1 with ⟨rfl, rfl⟩ | ⟨_, t1, t2, w, u, rfl, rfl, b1, b2⟩
      · repeat (first | walk_at "s1" | (apply i_dy; (solve | omega)) | (apply i_dn; (solve | omega)))
        walk_at "ne"
        walk_at "s"
        refine neRows (by walk_at "h") (by walk_at "h") (r1.mono fun p xs e => Own.kp (by assumption) e) (r2.mono fun p xs e => Own.kp (by assumption) e) ?_
        walk_at "s"
        refine neInts (ns := outs) (by walk_at "h") (by walk_at "h") rfl ?_
        walk_at "s"
        exact fin ‹Own a c B2 _ _› (by walk_at "p") (fun B3 s3 k3 => ⟨.inl ⟨rfl, rfl⟩, r1.mono fun p xs e => s3 _ _ e, r2.mono fun p xs e => s3 _ _ e⟩) (.inr ⟨_, rfl⟩) d3 (by omega) (by omega) (by omega)
      · repeat (first | walk_at "s1" | (apply i_dy; (solve | omega)) | (apply i_dn; (solve | omega)))
        walk_at "ne"
        walk_at "s"
        refine neRows (by walk_at "h") (by walk_at "h") (r1.mono fun p xs e => Own.kp (by assumption) e) (r2.mono fun p xs e => Own.kp (by assumption) e) ?_
        walk_at "s"
        refine neInts (ns := outs) (by walk_at "h") (by walk_at "h") rfl ?_
        walk_at "s"
        exact fin ‹Own a c B2 _ _› (by walk_at "p") (fun B3 s3 k3 => ⟨.inr ⟨rfl, t1, t2, w, u, rfl, rfl, s3 _ _ b1, s3 _ _ b2⟩, r1.mono fun p xs e => s3 _ _ e, r2.mono fun p xs e => s3 _ _ e⟩) (.inr ⟨_, rfl⟩) d3 (by omega) (by omega) (by omega)
  | @cancel kk hh e =>
    subst e
    rcases hh with rfl | rfl
    · obtain ⟨rfl, rfl⟩ := dout (by decide +kernel)
      repeat (first | walk_at "s1" | (apply i_dy; (solve | omega)) | (apply i_dn; (solve | omega)))
      walk_at "ne"
      walk_at "s"
      refine neRows (by walk_at "h") (by walk_at "h") (r1.mono fun p xs e => Own.kp (by assumption) e) (r2.mono fun p xs e => Own.kp (by assumption) e) ?_
      walk_at "s"
      refine neInts (ns := outs) (by walk_at "h") (by walk_at "h") rfl ?_
      walk_at "s"
      exact fin ‹Own a c B2 _ _› (by walk_at "p") (fun B3 s3 k3 => ⟨.inl ⟨rfl, rfl⟩, r1.mono fun p xs e => s3 _ _ e, r2.mono fun p xs e => s3 _ _ e⟩) (.inl rfl) d3 (by omega) (by omega) (by omega)
    · rcases d1 with ⟨rfl, rfl⟩ | ⟨_, t1, t2, w, u, rfl, rfl, b1, b2⟩
      · repeat (first | walk_at "s1" | (apply i_dy; (solve | omega)) | (apply i_dn; (solve | omega)))
        walk_at "ne"
        walk_at "s"
        refine neRows (by walk_at "h") (by walk_at "h") (r1.mono fun p xs e => Own.kp (by assumption) e) (r2.mono fun p xs e => Own.kp (by assumption) e) ?_
        walk_at "s"
        refine neInts (ns := outs) (by walk_at "h") (by walk_at "h") rfl ?_
        walk_at "s"
        exact fin ‹Own a c B2 _ _› (by walk_at "p") (fun B3 s3 k3 => ⟨.inl ⟨rfl, rfl⟩, r1.mono fun p xs e => s3 _ _ e, r2.mono fun p xs e => s3 _ _ e⟩) (.inl rfl) d3 (by omega) (by omega) (by omega)
      · repeat (first | walk_at "s1" | (apply i_dy; (solve | omega)) | (apply i_dn; (solve | omega)))
        walk_at "ne"
        walk_at "s"
        refine neRows (by walk_at "h") (by walk_at "h") (r1.mono fun p xs e => Own.kp (by assumption) e) (r2.mono fun p xs e => Own.kp (by assumption) e) ?_
        walk_at "s"
        refine neInts (ns := outs) (by walk_at "h") (by walk_at "h") rfl ?_
        walk_at "s"
        exact fin ‹Own a c B2 _ _› (by walk_at "p") (fun B3 s3 k3 => ⟨.inr ⟨rfl, t1, t2, w, u, rfl, rfl, s3 _ _ b1, s3 _ _ b2⟩, r1.mono fun p xs e => s3 _ _ e, r2.mono fun p xs e => s3 _ _ e⟩) (.inl rfl) d3 (by omega) (by omega) (by omega)
  | @accept kk hh e h2 =>
    subst e
    rcases hh with rfl | rfl
    · obtain ⟨rfl, rfl⟩ := dout (by decide +kernel)
      have hu : used < ins.length := by
        rcases h2 with h | ⟨_, h⟩
        · exact absurd rfl h
        · have := List.length_pos_iff.mpr h
          omega
      have hx : atI (List.map V.int ins) ((used : Int) + 1 - 1) = some (V.int ins[used]) := by
        rw [show (used : Int) + 1 - 1 = (used : Int) by omega]
        exact atI_nat (by rw [List.getElem?_map, List.getElem?_eq_getElem hu]; rfl)
      have hd := List.drop_eq_getElem_cons hu
      have hE : ((List.drop used ins).map V.int).eraseIdx 0 = (List.drop (used + 1) ins).map V.int := by
        rw [hd]
        rfl
      have hy : ((List.drop used ins).map V.int)[0]? = some (V.int ins[used]) := by
        rw [hd]
        rfl
      repeat (first | walk_at "s1" | (apply i_dy; (solve | omega)) | (apply i_dn; (solve | omega)))
      refine i_popIO (j := 0) ‹Own a c B2 _ _› (by walk_at "u") rfl (by decide) hy fun H9 O9 => ?_
      rw [hE] at O9
      repeat (first | walk_at "s1" | (apply i_dy; (solve | omega)) | (apply i_dn; (solve | omega)))
      walk_at "ne"
      walk_at "s"
      refine neRows (by walk_at "h") (by walk_at "h") (Rows.snoc (d := (_, _)) (by walk_at "h") (r1.mono fun p xs e => Own.kp (by assumption) e)) (Rows.snoc (d := (_, _)) (by walk_at "h") (r2.mono fun p xs e => Own.kp (by assumption) e)) ?_
      walk_at "s"
      refine neInts (ns := outs) (by walk_at "h") (by walk_at "h") rfl ?_
      walk_at "s"
      exact fin (used := used + 1) (ds := ds ++ [((j : Int), ins[used])]) ‹Own a c B2 _ _› (by walk_at "p") (fun B3 s3 k3 => ⟨.inl ⟨rfl, rfl⟩, (by
        refine Rows.snoc (d := (_, _)) ?_ (r1.mono fun p xs e => s3 _ _ e)
        exact k3 _ _ (by walk_at "m")), (by
        refine Rows.snoc (d := (_, _)) ?_ (r2.mono fun p xs e => s3 _ _ e)
        exact k3 _ _ (by walk_at "m"))⟩) (.inl rfl) (by omega) (by omega) (by simp; omega) (by simp; omega)
    · rcases d1 with ⟨rfl, rfl⟩ | ⟨_, t1, t2, w, u, rfl, rfl, b1, b2⟩
      · rcases h2 with h | ⟨h, _⟩
        · exact absurd rfl h
        · exact absurd h (by decide +kernel)
      · repeat (first | walk_at "s1" | (apply i_dy; (solve | omega)) | (apply i_dn; (solve | omega)))
        walk_at "ne"
        walk_at "s"
        refine neRows (by walk_at "h") (by walk_at "h") (Rows.snoc (d := (_, _)) (by walk_at "h") (r1.mono fun p xs e => Own.kp (by assumption) e)) (Rows.snoc (d := (_, _)) (by walk_at "h") (r2.mono fun p xs e => Own.kp (by assumption) e)) ?_
        walk_at "s"
        refine neInts (ns := outs) (by walk_at "h") (by walk_at "h") rfl ?_
        walk_at "s"
        exact fin ‹Own a c B2 _ _› (by walk_at "p") (fun B3 s3 k3 => ⟨.inl ⟨rfl, rfl⟩, Rows.snoc (d := (j, w)) (k3 _ _ (by walk_at "m")) (r1.mono fun p xs e => s3 _ _ e), Rows.snoc (d := (j, w)) (k3 _ _ (by walk_at "m")) (r2.mono fun p xs e => s3 _ _ e)⟩) (.inl rfl) d3 (by omega) (by simp; omega) (by simp; omega)
end K46
set_option Elab.async false
set_option linter.all false
set_option maxRecDepth 100000
set_option maxHeartbeats 4000000
namespace K46
open PySem PySem.Spec PyProof.Rows L2 Lb
local macro_rules | `(tactic| walk_at "h") => `(tactic| first | assumption | exact Own.mem (by assumption) (by walk_at "m") | exact Own.kp (by assumption) (by assumption))
local macro_rules | `(tactic| walk_at "m") => `(tactic| (focus ((repeat (first | assumption | exact List.mem_cons_self | apply List.mem_cons_of_mem)); done)))
local macro_rules | `(tactic| walk_at "u") => `(tactic| (focus ((repeat (first | exact Up1.here | apply Up1.there)); done)))
local macro_rules | `(tactic| walk_at "p") => `(tactic| (focus ((repeat (first | exact Pre.nil | apply Pre.cons)); done)))
local macro_rules | `(tactic| walk_at "f") => `(tactic| (focus ((repeat (first | exact PutF.here | exact PutF.nil | (apply PutF.there; (solve | decide +kernel)))); done)))
local macro_rules | `(tactic| walk_at "k") => `(tactic| (focus ((repeat (first | exact LkF.here rfl | exact LkF.nil rfl | refine LkF.there (by decide +kernel) ?_)); done)))
local macro_rules | `(tactic| walk_at "e") => `(tactic| (focus ((repeat (first | exact StE.nil | apply StE.app | apply StE.got | apply StE.lack)); done)))
local macro_rules | `(tactic| walk_at "d") => `(tactic| (focus ((repeat (first | exact Dt.int _ | exact Dt.str _ | exact Dt.non | exact Dt.bl _ | exact DtAll.nil | apply DtAll.cons | (apply Dt.tup; (solve | walk_at "h")) | (apply Dt.lst; (solve | walk_at "h")))); done)))
local macro_rules | `(tactic| walk_at "sh") => `(tactic| (focus ((repeat (first | exact Sh.int | exact Sh.non | exact Sh.str (by decide +kernel) | exact ShA.nil | apply ShA.cons | apply Sh.lst | apply Sh.tup)); done)))
local macro_rules | `(tactic| walk_at "ne") => `(tactic| (apply rd_neF; (solve | walk_at "d"); (solve | walk_at "d"); (solve | exact Sh.shp (n := 4) (by walk_at "sh"))))
local macro_rules | `(tactic| walk_at "s1") => `(tactic| with_reducible first | (apply i_var; (solve | with_unfolding_all rfl)) | apply i_cons | apply i_nil | apply i_c | apply i_op | apply i_asg | apply i_seq | apply i_gname | apply i_eqS | apply i_eqI | apply i_neS | apply i_tt | apply i_ff | (apply i_ixA; (solve | walk_at "h"); (solve | exact IxO.lst (by assumption) | exact .lst (by with_unfolding_all rfl) | exact .tup (by with_unfolding_all rfl))) | apply i_bl | apply i_test | apply i_ifS | apply i_tupN | (apply i_tupO; (solve | assumption); (exact (sz (by (try simp) <;> omega))); intro p H O) | apply i_fld | (apply i_fldO; (solve | walk_at "h"); (solve | assumption); (solve | assumption); (solve | walk_at "k")) | (apply i_tB; (solve | decide +kernel)) | (apply i_fB; (solve | decide +kernel)) | apply i_ret | apply i_retN | apply i_drop | apply i_next | apply i_brk | apply i_cnt | apply i_par | apply i_par2 | apply i_fldSN | apply i_dput | apply i_un | apply i_rU | apply i_rI0 | apply i_B | apply i_tru | apply i_truB | apply i_and | apply i_or | apply i_not | apply i_andV | apply i_orV | apply i_notV | apply i_if | apply i_call | apply i_meth | apply i_makeN | apply i_cb | apply i_dnewN | apply i_lstN | apply i_bml | apply i_gsub | apply i_gcons | apply i_gnil | apply i_sl | apply i_nop | apply i_part | apply i_prt | apply i_isN | apply i_notN | apply i_yes | apply i_ntt | apply i_nff | apply i_addI | apply i_neI | apply i_intI | apply i_intB | apply i_abs | apply i_isiIB | apply i_isiNB | apply i_isiBB | apply i_dget | apply i_for | apply i_ilist | apply i_itup | apply i_rng1 | apply i_rng2 | apply i_ex1 | apply i_ex2 | apply i_exr | apply i_disp | apply i_pcons | apply i_pnil | apply i_neN | apply i_eqN | apply i_neB | apply i_eqB | apply i_lc | apply i_dnI | apply i_nyI | apply i_dnR | apply i_nyR | (apply i_lenA; (solve | walk_at "h"); (solve | first | exact .lst | exact .tup | exact .dK)) | (apply i_isL; (solve | walk_at "h")) | (apply i_isiLL; (solve | walk_at "h")) | (apply i_isiTL; (solve | walk_at "h")) | (apply i_gtup; (solve | walk_at "h"); (solve | with_unfolding_all rfl)) | (apply i_fldSO; (solve | assumption); (solve | walk_at "u"); (solve | walk_at "f"); (solve | assumption); (solve | assumption); (solve | simp); intro H O) | (apply i_lstO; (solve | assumption); (exact (sz (by (try simp) <;> omega))); intro p H O) | (apply i_makeO; (solve | assumption); intro x dx H O) | (apply i_methO; (solve | walk_at "h"); (solve | walk_at "k")) | (apply i_newO; (solve | assumption); intro p H O) | (apply i_listN; (solve | walk_at "h")) | (apply i_listTN; (solve | walk_at "h")) | (apply i_addN; (solve | walk_at "h"); (solve | walk_at "h"); (exact (sz (by (try simp) <;> omega)))) | apply i_mkd | (apply i_dgetI; (solve | walk_at "h"); (solve | assumption)) | (apply i_in; (solve | with_unfolding_all rfl); (solve | walk_at "e")) | (apply i_setO; (solve | assumption); (solve | walk_at "u"); (solve | with_unfolding_all rfl); intro H O) | (apply i_appO; (solve | assumption); (solve | walk_at "u"); (exact (szl (by (try simp) <;> omega))); intro H O) | (apply i_drawO; (solve | assumption); (exact rfl); (solve | decide); (solve | decide); intro r H h0 h1 O))
local macro_rules | `(tactic| walk_at "s") => `(tactic| repeat (walk_at "s1"))
theorem map_snoc {α : Type} {n : Nat} {f g : Nat → α} {x : α} (h : ∀ j, j < n → g j = f j) (hx : g n = x) : (List.range n).map f ++ [x] = (List.range (n + 1)).map g := by
  rw [List.range_succ, List.map_append]
  have e : (List.range n).map f = (List.range n).map g := List.map_congr_left fun j hj => (h j (List.mem_range.mp hj)).symm
  rw [e, ← hx]
  rfl
theorem blk_snoc {α : Type} {n : Nat} {f g : Nat → List α} {x : List α} (h : ∀ j, j < n → g j = f j) (hx : g n = x) : (List.range n).flatMap f ++ x = (List.range (n + 1)).flatMap g := by
  rw [blk_succ, hx, blk_below h]
inductive Pick (y : Addr × HO) : List (Addr × HO) → List (Addr × HO) → Prop
  | here {r : List (Addr × HO)} : Pick y (y :: r) r
  | there {x : Addr × HO} {r r' : List (Addr × HO)} (h : Pick y r r') : Pick y (x :: r) (x :: r')
theorem Pick.perm1 {y : Addr × HO} {l r : List (Addr × HO)} (h : Pick y l r) : l.Perm (y :: r) := by
  induction h with
  | here => exact .refl _
  | there _ ih => exact (ih.cons _).trans (.swap ..)
theorem Pick.perm {y : Addr × HO} {l r ys : List (Addr × HO)} (h : Pick y l r) (k : r.Perm ys) : l.Perm (y :: ys) := h.perm1.trans (k.cons _)
local macro_rules | `(tactic| walk_at "pm") => `(tactic| (focus ((repeat (first | exact List.Perm.refl _ | (apply Pick.perm; (solve | repeat (first | exact Pick.here | apply Pick.there))))); done)))
theorem upK {α : Type} {n : Nat} {f : Nat → α} {x : α} : ∀ j, j < n → (fun i => if i = n then x else f i) j = f j := fun j h => if_neg (by omega)
theorem rows_none {n : Nat} {f : Nat → V} : valV (κ := Key) ((List.range n).map fun (i : Nat) => ((Sum.inl (i : Int) : Key), f i)) (.inl (n : Int)) = none := by
  unfold valV
  have q : List.find? (fun kv : Key × V => decide (kv.1 = Sum.inl (n : Int))) ((List.range n).map fun (i : Nat) => ((Sum.inl (i : Int) : Key), f i)) = none := by
    rw [List.find?_eq_none]
    intro x hx
    obtain ⟨i, hi, rfl⟩ := List.mem_map.mp hx
    have := List.mem_range.mp hi
    simp
    omega
  rw [q]
  rfl
theorem i_dputO {a c p : Addr} {B H : Hp} {ls ls' : List (Addr × HO)} {kvs kvs' : List (Key × V)} {i : Int} {v : V} {R : Hp → Prop} (O : Own a c B H ls) (h : Up1 p (.dK kvs) (.dK kvs') ls ls') (e : putK kvs (.inl i) v = kvs') (hz : kvs.length < sizeLine) (q : ∀ H', Own a c B H' ls' → R H') :
    (∃ a' H4, V.ref p = .ref a' ∧ DPut H a' (.int i) v H4 ∧ R H4) := i_dputK (O.mem h.mem) (k := .inl i) rfl hz (by rw [e]; exact q _ (O.set h))
theorem len_law (A : Ad) {vs : List V} {H : Hp} {Q : VK} {E : XK} (h : sp_law A vs H Q E) : vs.length = 1 := by
  obtain ⟨s, ns, rfl, _⟩ := h
  rfl
theorem perm5 {α : Type} (l e : α) (A B C D : List α) : (l :: (C ++ (B ++ (e :: (A ++ D))))).Perm ((((A ++ B) ++ C) ++ D) ++ [e, l]) := by
  have h1 : (C ++ (B ++ (e :: (A ++ D)))).Perm (e :: (C ++ (B ++ (A ++ D)))) := ((List.perm_middle (l₁ := B) (l₂ := A ++ D) (a := e)).append_left C).trans List.perm_middle
  have h2 : (C ++ (B ++ (A ++ D))).Perm (((A ++ B) ++ C) ++ D) := by
    refine ((List.perm_append_comm_assoc B A D).append_left C).trans ?_
    refine (List.perm_append_comm_assoc C A (B ++ D)).trans ?_
    rw [List.append_assoc, List.append_assoc]
    exact (List.perm_append_comm_assoc C B D).append_left A
  refine ((h1.trans (h2.cons e)).cons l).trans ?_
  refine (List.Perm.swap ..).trans ?_
  exact List.perm_append_comm (l₁ := [e, l])
theorem rows_put {n : Nat} {f : Nat → V} {v : V} : putK ((List.range n).map fun (i : Nat) => ((Sum.inl (i : Int) : Key), f i)) (.inl (n : Int)) v = ((List.range n).map fun (i : Nat) => ((Sum.inl (i : Int) : Key), f i)) ++ [((Sum.inl (n : Int) : Key), v)] := putK_new v rows_none
theorem st3 {A : Ad} {a c R0 xx dxx oo hh tmp : Addr} {B H : Hp} {i : Nat} {ks : Nat → Str} {x dx o hin : Nat → Addr} {ins : Nat → List Int} {L2 : List (Addr × HO)} (hd : ∀ j, j < i → B (hin j) = some (.lst ((ins j).map V.int)))
    (O : Own a c B H ((oo, .lst []) :: (hh, .lst ((ins i).map V.int)) :: (xx, .ins A.c_Home dxx (fsOf (ks i) hh oo (0 : Nat) .non .non)) :: (dxx, .own xx) :: (tmp, .lst ((ins i).map V.int)) :: (R0, .dK (((List.range i).map fun (j : Nat) => ((Sum.inl (j : Int) : Key), V.ref (x j))) ++ [((Sum.inl (i : Int) : Key), V.ref xx)])) :: ((List.range i).flatMap (fun j => [(x j, HO.ins A.c_Home (dx j) (fsOf (ks j) (hin j) (o j) 0 .non .non)), (o j, .lst [])]) ++ L2))) :
    ∃ (B3 : Hp) (x dx o hin : Nat → Addr), Same B B3 ∧ (∀ j, j < i + 1 → B3 (hin j) = some (.lst ((ins j).map V.int))) ∧
    Own a c B3 H ((R0, .dK ((List.range (i + 1)).map fun (j : Nat) => ((Sum.inl (j : Int) : Key), V.ref (x j)))) :: ((List.range (i + 1)).flatMap (fun j => [(x j, HO.ins A.c_Home (dx j) (fsOf (ks j) (hin j) (o j) 0 .non .non)), (o j, .lst [])]) ++ L2)) := by
  have O2 := O.perm (ls' := (hh, .lst ((ins i).map V.int)) :: (dxx, .own xx) :: (tmp, .lst ((ins i).map V.int)) :: (R0, .dK (((List.range i).map fun (j : Nat) => ((Sum.inl (j : Int) : Key), V.ref (x j))) ++ [((Sum.inl (i : Int) : Key), V.ref xx)])) :: (xx, .ins A.c_Home dxx (fsOf (ks i) hh oo (0 : Nat) .non .non)) :: (oo, .lst []) :: ((List.range i).flatMap (fun j => [(x j, HO.ins A.c_Home (dx j) (fsOf (ks j) (hin j) (o j) 0 .non .non)), (o j, .lst [])]) ++ L2)) (by walk_at "pm")
  obtain ⟨B3, s3, k3, O3⟩ := Own.settle (l0 := (R0, .dK (((List.range i).map fun (j : Nat) => ((Sum.inl (j : Int) : Key), V.ref (x j))) ++ [((Sum.inl (i : Int) : Key), V.ref xx)])) :: (xx, .ins A.c_Home dxx (fsOf (ks i) hh oo (0 : Nat) .non .non)) :: (oo, .lst []) :: ((List.range i).flatMap (fun j => [(x j, HO.ins A.c_Home (dx j) (fsOf (ks j) (hin j) (o j) 0 .non .non)), (o j, .lst [])]) ++ L2)) O2 (by walk_at "p")
  have e1 := map_snoc (n := i) (f := fun (j : Nat) => ((Sum.inl (j : Int) : Key), V.ref (x j))) (g := fun (j : Nat) => ((Sum.inl (j : Int) : Key), V.ref (if j = i then xx else x j))) (x := ((Sum.inl (i : Int) : Key), V.ref xx)) (fun j hj => by simp only [if_neg (show ¬ j = i by omega)]) (by simp)
  have e2 := blk_snoc (n := i) (f := fun j => [(x j, HO.ins A.c_Home (dx j) (fsOf (ks j) (hin j) (o j) 0 .non .non)), (o j, .lst [])]) (g := fun j => [((if j = i then xx else x j), HO.ins A.c_Home (if j = i then dxx else dx j) (fsOf (ks j) (if j = i then hh else hin j) (if j = i then oo else o j) 0 .non .non)), ((if j = i then oo else o j), .lst [])]) (x := [(xx, .ins A.c_Home dxx (fsOf (ks i) hh oo (0 : Nat) .non .non)), (oo, .lst [])]) (fun j hj => by simp only [if_neg (show ¬ j = i by omega)]) (by simp)
  refine ⟨B3, fun j => if j = i then xx else x j, fun j => if j = i then dxx else dx j, fun j => if j = i then oo else o j, fun j => if j = i then hh else hin j, s3, fun j hj => ?_, ?_⟩
  · show B3 (if j = i then hh else hin j) = _
    by_cases e : j = i
    · subst e
      rw [if_pos rfl]
      exact k3 _ List.mem_cons_self
    · rw [if_neg e]
      exact s3 _ _ (hd j (by omega))
  · show Own a c B3 H ((R0, .dK ((List.range (i + 1)).map fun (j : Nat) => ((Sum.inl (j : Int) : Key), V.ref (if j = i then xx else x j)))) :: ((List.range (i + 1)).flatMap (fun j => [((if j = i then xx else x j), HO.ins A.c_Home (if j = i then dxx else dx j) (fsOf (ks j) (if j = i then hh else hin j) (if j = i then oo else o j) 0 .non .non)), ((if j = i then oo else o j), .lst [])]) ++ L2))
    rw [← e1, ← e2]
    refine O3.perm (List.Perm.cons _ ?_)
    rw [List.append_assoc]
    exact List.perm_append_comm_assoc [(xx, HO.ins A.c_Home dxx (fsOf (ks i) hh oo (0 : Nat) .non .non)), (oo, .lst [])] _ _
theorem stM {a c D p : Addr} {B H : Hp} {i : Nat} {m : Nat → Addr} {ob : Nat → HO} {T : List (Addr × HO)} {o : HO} (ho : o = ob i) (hz : i < 1000) (O : Own a c B H ((p, o) :: (D, .lst ((List.range i).map fun j => V.ref (m j))) :: ((List.range i).flatMap (fun j => [(m j, ob j)]) ++ T))) :
    ∃ acc, H D = some (.lst acc) ∧ acc.length < sizeLine ∧ ∃ m : Nat → Addr, Own a c B (upd H D (.lst (acc ++ [V.ref p]))) ((D, .lst ((List.range (i + 1)).map fun j => V.ref (m j))) :: ((List.range (i + 1)).flatMap (fun j => [(m j, ob j)]) ++ T)) := by
  subst ho
  refine ⟨_, O.mem (by walk_at "m"), szl (by simp; omega), fun j => if j = i then p else m j, ?_⟩
  have O2 := O.set (p := D) (o' := .lst ((List.range i).map (fun j => V.ref (m j)) ++ [V.ref p])) (by walk_at "u")
  have e1 := map_snoc (n := i) (f := fun j => V.ref (m j)) (g := fun j => V.ref (if j = i then p else m j)) (x := V.ref p) (fun j hj => by simp only [if_neg (show ¬ j = i by omega)]) (by simp)
  have e2 := blk_snoc (n := i) (f := fun j => [(m j, ob j)]) (g := fun j => [((if j = i then p else m j), ob j)]) (x := [(p, ob i)]) (fun j hj => by simp only [if_neg (show ¬ j = i by omega)]) (by simp)
  show Own a c B _ ((D, .lst ((List.range (i + 1)).map fun j => V.ref (if j = i then p else m j))) :: ((List.range (i + 1)).flatMap (fun j => [((if j = i then p else m j), ob j)]) ++ T))
  rw [← e1, ← e2]
  refine O2.perm ((List.Perm.swap ..).trans (List.Perm.cons _ ?_))
  rw [List.append_assoc]
  exact List.perm_append_comm_assoc [(p, ob i)] _ _
set_option maxHeartbeats 64000000 in
theorem pure_law (A : Ad) (vs : List V) (H : Hp) (Q : VK) (E : XK) (h : sp_law A vs H Q E) : t_law A { nx := fun _ H' => Q .non H', rt := Q } (L2.start ["_law_script", "_law_state_here", "_law_kinds", "_law_inputs", "_law_rows", "_law_channel", "_law_events", "_law_homes", "_law_models", "_law_outputs", "_law_log", "_law_k", "_law_message_here", "_law_due_here", "_law_told", "_law_kind"] vs) H := by
  obtain ⟨s, ns, rfl, hS, hl, F, kQ⟩ := h
  rw [st_law]
  unfold t_law
  walk_at "s"
  refine ⟨s, ns, rfl, hS, hl, fun H1 a c sm R na nc => ?_⟩
  have O := Own.start R
  generalize hid [a, c] H1 = B at O
  walk_at "s"
  rename_i r H2 h0 h1 O
  obtain ⟨n0, rfl⟩ : ∃ j : Nat, r = (j : Int) := ⟨r.toNat, by omega⟩
  refine ⟨by omega, by omega, fun D hD => ?_⟩
  refine i_lcR (1 + n0) (by omega) (fun i H' => ∃ ks : Nat → Str, (∀ j, j < i → Kd (ks j)) ∧ Own a c B H' [(D, .lst ((List.range i).map fun j => V.str (ks j)))]) ⟨fun _ => "in", fun _ h => by omega, O.new hD⟩ ?_ ?_
  · rintro i H3 hi ⟨ks, hk, O⟩
    walk_at "s"
    refine i_pickO ‹Own a c B _ _› rfl (by walk_at "m") (by simp) (by simp) fun v H4 hv O => ?_
    obtain ⟨kd, rfl, hkd⟩ : ∃ kd, v = .str kd ∧ Kd kd := by
      simp only [List.mem_cons, List.not_mem_nil, or_false] at hv
      rcases hv with rfl | rfl | rfl | rfl
      · exact ⟨_, rfl, .inl rfl⟩
      · exact ⟨_, rfl, .inr (.inl rfl)⟩
      · exact ⟨_, rfl, .inr (.inr rfl)⟩
      · exact ⟨_, rfl, .inr (.inr rfl)⟩
    refine ⟨_, O.mem (by walk_at "m"), szl (by simp; omega), fun j => if j = i then kd else ks j, fun j hj => ?_, ?_⟩
    · show Kd (if j = i then kd else ks j)
      split
      · exact hkd
      · exact hk j (by omega)
    · have O2 := (O.set (p := D) (o' := .lst ((List.range i).map (fun j => V.str (ks j)) ++ [V.str kd])) (by walk_at "u")).dropP (l0 := [(D, _)]) (by walk_at "p")
      have e := map_snoc (n := i) (f := fun j => V.str (ks j)) (g := fun j => V.str (if j = i then kd else ks j)) (x := V.str kd) (fun j hj => by simp only [if_neg (show ¬ j = i by omega)]) (by simp)
      refine (show Own a c B _ [(D, .lst (List.map (fun j => V.str (if j = i then kd else ks j)) (List.range (i + 1))))] from ?_)
      rw [← e]
      exact O2
  rintro H3 ⟨ks, hk, O⟩
  obtain ⟨B1, s1, kp1, O⟩ := O.freeze
  obtain ⟨n, hn⟩ : ∃ n, 1 + n0 = n := ⟨_, rfl⟩
  rw [hn] at hk kp1
  walk_at "s"
  refine ⟨⟨_, SqL.of (O.kp kp1)⟩, fun D2 hD2 => ?_⟩
  have hn4 : 1 ≤ n ∧ n ≤ 4 := by omega
  have len1 : ((List.range n).map fun j => V.str (ks j)).length = n := by simp
  refine i_lcL ((List.range n).map fun j => V.str (ks j)) (fun i H' => ∃ (inp : Nat → Addr) (ins : Nat → List Int), (∀ j, j < i → ks j ≠ "in" → ins j = []) ∧ Own a c B1 H' ((D2, .lst ((List.range i).map fun j => V.ref (inp j))) :: (List.range i).flatMap fun j => [(inp j, HO.lst ((ins j).map V.int))]))
    ⟨fun _ => a, fun _ => [], fun _ h => by omega, O.new hD2⟩ (fun i H' ⟨_, _, _, O⟩ => SqL.of (O.kp kp1)) ?_ ?_
  · rintro i x H4 hx ⟨inp, ins, hno, O⟩
    have hi : i < n := by
      have := (List.getElem?_eq_some_iff.mp hx).1
      rw [len1] at this
      exact this
    obtain rfl : x = V.str (ks i) := by
      rw [rng_get hi] at hx
      exact (Option.some.inj hx).symm
    have fin : ∀ (p : Addr) (zs : List Int) H5, (ks i ≠ "in" → zs = []) → Own a c B1 H5 ((p, .lst (zs.map V.int)) :: (D2, .lst ((List.range i).map fun j => V.ref (inp j))) :: (List.range i).flatMap fun j => [(inp j, HO.lst ((ins j).map V.int))]) →
        ∃ acc, H5 D2 = some (.lst acc) ∧ acc.length < sizeLine ∧ ∃ (inp : Nat → Addr) (ins : Nat → List Int), (∀ j, j < i + 1 → ks j ≠ "in" → ins j = []) ∧ Own a c B1 (upd H5 D2 (.lst (acc ++ [V.ref p]))) ((D2, .lst ((List.range (i + 1)).map fun j => V.ref (inp j))) :: (List.range (i + 1)).flatMap fun j => [(inp j, HO.lst ((ins j).map V.int))]) := by
      intro p zs H5 hz O
      refine ⟨_, O.mem (by walk_at "m"), szl (by simp; omega), fun j => if j = i then p else inp j, fun j => if j = i then zs else ins j, fun j hj hne => ?_, ?_⟩
      · show (if j = i then zs else ins j) = []
        by_cases e : j = i
        · subst e
          rw [if_pos rfl]
          exact hz hne
        · rw [if_neg e]
          exact hno j (by omega) hne
      · have O2 := O.set (p := D2) (o' := .lst ((List.range i).map (fun j => V.ref (inp j)) ++ [V.ref p])) (by walk_at "u")
        have e1 := map_snoc (n := i) (f := fun j => V.ref (inp j)) (g := fun j => V.ref (if j = i then p else inp j)) (x := V.ref p) (fun j hj => by simp only [if_neg (show ¬ j = i by omega)]) (by simp)
        have e2 := blk_snoc (n := i) (f := fun j => [(inp j, HO.lst ((ins j).map V.int))]) (g := fun j => [((if j = i then p else inp j), HO.lst ((if j = i then zs else ins j).map V.int))]) (x := [(p, HO.lst (zs.map V.int))]) (fun j hj => by simp only [if_neg (show ¬ j = i by omega)]) (by simp)
        refine (show Own a c B1 _ ((D2, .lst ((List.range (i + 1)).map fun j => V.ref (if j = i then p else inp j))) :: (List.range (i + 1)).flatMap fun j => [((if j = i then p else inp j), HO.lst ((if j = i then zs else ins j).map V.int))]) from ?_)
        rw [← e1, ← e2]
        refine O2.perm ((List.Perm.swap ..).trans (List.Perm.cons _ ?_))
        exact (List.perm_append_comm (l₁ := [_]))
    walk_at "s"
    refine i_d2 (fun hin => ?_) (fun hne => ?_)
    · walk_at "s"
      rename_i r H5 h0 h1 O
      obtain ⟨m, rfl⟩ : ∃ j : Nat, r = (j : Int) := ⟨r.toNat, by omega⟩
      refine ⟨by omega, by omega, fun D3 hD3 => ?_⟩
      refine i_lcR m rfl (fun i2 H' => ∃ zs : List Int, zs.length = i2 ∧ Own a c B1 H' ((D3, .lst (zs.map V.int)) :: (D2, .lst ((List.range i).map fun j => V.ref (inp j))) :: (List.range i).flatMap fun j => [(inp j, HO.lst ((ins j).map V.int))])) ⟨[], rfl, O.new hD3⟩ ?_ ?_
      · rintro i2 H6 hi2 ⟨zs, hz, O⟩
        walk_at "s"
        rename_i w H7 w0 w1 O
        refine ⟨_, O.mem (by walk_at "m"), szl (by simp; omega), zs ++ [w], by simp [hz], ?_⟩
        have O2 := O.set (p := D3) (o' := .lst (zs.map V.int ++ [V.int w])) (by walk_at "u")
        rw [List.map_append]
        exact O2
      · rintro H6 ⟨zs, hz, O⟩
        exact fin D3 zs H6 (fun h => absurd hin h) O
    · walk_at "s"
      rename_i p H5 O
      exact fin p [] H5 (fun _ => rfl) O
  rw [len1]
  rintro H4 ⟨inp, ins, hno, O⟩
  obtain ⟨B2, s2, ip2, O⟩ := O.freeze
  have kp2 := s2 _ _ kp1
  clear kp1 s2
  walk_at "s"
  rename_i R0 H5 O
  have hlen : ((List.range n).map fun j => V.str (ks j)).length = n := by simp
  refine i_forR n (by rw [hlen]) (by omega) (fun i σ H' => ∃ (x5 : Option V) (B3 : Hp) (x dx o hin : Nat → Addr), σ = [some (.ref s), some (.ref a), some (.ref D), some (.ref D2), some (.ref R0), x5, none, none, none, none, none, none, none, none, none, none] ∧ Same B2 B3 ∧ (∀ j, j < i → B3 (hin j) = some (.lst ((ins j).map V.int))) ∧
    Own a c B3 H' ((R0, .dK ((List.range i).map fun (j : Nat) => ((Sum.inl (j : Int) : Key), V.ref (x j)))) :: ((List.range i).flatMap (fun j => [(x j, HO.ins A.c_Home (dx j) (fsOf (ks j) (hin j) (o j) 0 .non .non)), (o j, .lst [])]) ++ (List.range n).flatMap fun j => [(inp j, HO.lst ((ins j).map V.int))])))
    ⟨none, B2, fun _ => a, fun _ => a, fun _ => a, fun _ => a, rfl, Same.refl _, fun _ h => by omega, O⟩ ?_ ?_
  · rintro i σ H6 hi ⟨x5, B3, x, dx, o, hin, rfl, s23, hh, O⟩
    have kp3 := s23 _ _ kp2
    have ip3 := s23 _ _ ip2
    have a1 := atI_nat (rng_get (f := fun i => V.str (ks i)) hi)
    have a2 := atI_nat (rng_get (f := fun i => V.ref (inp i)) hi)
    have hm : (inp i, HO.lst ((ins i).map V.int)) ∈ ((List.range i).flatMap (fun j => [(x j, HO.ins A.c_Home (dx j) (fsOf (ks j) (hin j) (o j) 0 .non .non)), (o j, .lst [])]) ++ (List.range n).flatMap fun j => [(inp j, HO.lst ((ins j).map V.int))]) :=
      List.mem_append_right _ (List.mem_flatMap.mpr ⟨i, List.mem_range.mpr hi, List.mem_cons_self⟩)
    obtain ⟨F1, F2, n1, n2, n3, n4, n5, n6, n7, n8⟩ := F
    walk_at "s"
    refine i_dputO ‹Own a c B3 _ _› (by walk_at "u") rows_put (szl (by simp; omega)) fun H7 O7 => ?_
    obtain ⟨B4, x', dx', o', hin', s4, hh4, O4⟩ := st3 (A := A) (ks := ks) hh O7
    exact ⟨_, B4, x', dx', o', hin', rfl, Same.trans s23 s4, hh4, O4⟩
  rintro σ H6 ⟨x5, B3, x, dx, o, hin, rfl, s23, hh, O⟩
  have kp3 := s23 _ _ kp2
  have ip3 := s23 _ _ ip2
  clear kp2 ip2 s23
  have F0 := F
  obtain ⟨F1, F2, n1, n2, n3, n4, n5, n6, n7, n8⟩ := F
  walk_at "s"
  rename_i E0 Ha Oa hs dxs Hb Ob Hc Oc Hd O
  clear Oa Ob Oc
  obtain ⟨B4, s34, k4, O⟩ := Own.settle (l0 := (E0, .lst []) :: ((List.range n).flatMap (fun j => [(x j, HO.ins A.c_Home (dx j) (fsOf (ks j) (hin j) (o j) 0 .non .non)), (o j, .lst [])]) ++ (List.range n).flatMap fun j => [(inp j, HO.lst ((ins j).map V.int))])) (O.perm (ls' := (hs, .ins A.c_Homes dxs [("rows", .ref R0), ("log", .ref E0)]) :: (dxs, .own hs) :: (R0, .dK ((List.range n).map fun (j : Nat) => ((Sum.inl (j : Int) : Key), V.ref (x j)))) :: (E0, .lst []) :: ((List.range n).flatMap (fun j => [(x j, HO.ins A.c_Home (dx j) (fsOf (ks j) (hin j) (o j) 0 .non .non)), (o j, .lst [])]) ++ (List.range n).flatMap fun j => [(inp j, HO.lst ((ins j).map V.int))])) (by walk_at "pm")) (by walk_at "p")
  have kp4 := s34 _ _ kp3
  have ip4 := s34 _ _ ip3
  have hh4 := fun j hj => s34 _ _ (hh j hj)
  have hs4 := k4 _ List.mem_cons_self
  have R4 := k4 (R0, _) (List.mem_cons_of_mem _ (List.mem_cons_of_mem _ List.mem_cons_self))
  simp only at hs4 R4
  clear kp3 ip3 hh k4 s34
  generalize hT : (E0, HO.lst []) :: ((List.range n).flatMap (fun j => [(x j, HO.ins A.c_Home (dx j) (fsOf (ks j) (hin j) (o j) 0 .non .non)), (o j, .lst [])]) ++ (List.range n).flatMap fun j => [(inp j, HO.lst ((ins j).map V.int))]) = T at O
  refine ⟨by omega, by omega, fun D5 hD5 => ?_⟩
  refine i_lcR n (by rw [hlen]) (fun i H' => ∃ m : Nat → Addr, Own a c B4 H' ((D5, .lst ((List.range i).map fun j => V.ref (m j))) :: ((List.range i).flatMap (fun j => [(m j, HO.lst [.non, .non, .ref (inp j)])]) ++ T))) ⟨fun _ => a, O.new hD5⟩ ?_ ?_
  · rintro i H7 hi ⟨m, O⟩
    have a2 := atI_nat (rng_get (f := fun i => V.ref (inp i)) hi)
    walk_at "s"
    exact stM (ob := fun j => HO.lst [.non, .non, .ref (inp j)]) rfl (by omega) ‹Own a c B4 _ _›
  rintro H7 ⟨m, O⟩
  obtain ⟨B5, s45, mp5, O⟩ := O.freeze
  have kp5 := s45 _ _ kp4
  have ip5 := s45 _ _ ip4
  have hh5 := fun j hj => s45 _ _ (hh4 j hj)
  have hs5 := s45 _ _ hs4
  have R5 := s45 _ _ R4
  clear kp4 ip4 hh4 hs4 R4 s45
  walk_at "s"
  refine ⟨⟨_, SqL.of (O.kp kp5)⟩, fun D6 hD6 => ?_⟩
  refine i_lcL ((List.range n).map fun j => V.str (ks j)) (fun i H' => ∃ q : Nat → Addr, Own a c B5 H' ((D6, .lst ((List.range i).map fun j => V.ref (q j))) :: ((List.range i).flatMap (fun j => [(q j, HO.lst [])]) ++ ((List.range n).flatMap (fun j => [(m j, HO.lst [.non, .non, .ref (inp j)])]) ++ T)))) ⟨fun _ => a, O.new hD6⟩ (fun i H' ⟨_, O⟩ => SqL.of (O.kp kp5)) ?_ ?_
  · rintro i y H8 hx ⟨q, O⟩
    have hi : i < n := by
      have := (List.getElem?_eq_some_iff.mp hx).1
      rw [hlen] at this
      exact this
    walk_at "s"
    exact stM (ob := fun j => HO.lst []) rfl (by omega) ‹Own a c B5 _ _›
  rw [hlen]
  rintro H8 ⟨q, O⟩
  obtain ⟨B6, s56, qp6, O⟩ := O.freeze
  have kp6 := s56 _ _ kp5
  have ip6 := s56 _ _ ip5
  have mp6 := s56 _ _ mp5
  have hh6 := fun j hj => s56 _ _ (hh5 j hj)
  have hs6 := s56 _ _ hs5
  have R6 := s56 _ _ R5
  clear kp5 ip5 hh5 hs5 R5 s56 mp5
  walk_at "s"
  rename_i L0 H9 O9 r9 H10 w0 w1 O
  obtain ⟨m10, rfl⟩ : ∃ j : Nat, r9 = (j : Int) := ⟨r9.toNat, by omega⟩
  refine i_forR (10 + m10) (by omega) (by omega) (fun i σ H' => ∃ (g : G) (x5 x11 x12 x13 x14 x15 : Option V), σ = [some (.ref s), some (.ref a), some (.ref D), some (.ref D2), some (.ref R0), x5, some (.ref E0), some (.ref hs), some (.ref D5), some (.ref D6), some (.ref L0), x11, x12, x13, x14, x15] ∧ Inv A a c ⟨D, R0, E0, hs, dxs, D5, D6, L0⟩ n i g H')
    ⟨⟨ks, x, dx, o, m, q, inp, hin, ins, fun _ => 0, fun _ => [], fun _ => .non, fun _ => .non, fun _ => .non⟩, _, _, _, _, _, _, rfl, ⟨B6, [], [], [], O.perm ?_, ⟨by omega, by omega, kp6, mp6, qp6, R6, hs6, hh6, hk, hno⟩, fun i hi => ⟨.inl ⟨rfl, rfl⟩, .inl rfl, Nat.zero_le _, Nat.zero_le _⟩, trivial, trivial, Nat.zero_le _, Nat.zero_le _⟩⟩ ?_ ?_
  · subst hT
    refine (perm5 _ _ _ _ _ _).trans (List.Perm.append_right _ ?_)
    exact ((((blk_join _ _ n).append_right _).trans (blk_join _ _ n)).append_right _).trans (blk_join _ _ n)
  · rintro i σ H11 hi ⟨g, x5, x11, x12, x13, x14, x15, rfl, I⟩
    walk_at "s1"
    exact body A F0 I (by omega) fun g' H' y5 y11 y12 y13 y14 y15 I' => ⟨g', y5, y11, y12, y13, y14, y15, rfl, I'⟩
  · rintro σ H11 ⟨g, x5, x11, x12, x13, x14, x15, rfl, I⟩
    walk_at "s"
    exact kQ _
end K46
set_option Elab.async false
set_option linter.all false
set_option maxRecDepth 100000
set_option maxHeartbeats 4000000
namespace K46
open PySem PySem.Spec PyProof.Rows L2 Lb
def top (i : Nat) : Stmt := PySem.Challenge.pw_placedanyhow_k46_homes_of_channels.main.body.getD i (.Pass ⟨0, 0, 0, 0⟩)
structure Tx (K : PySem.W.Frag) (mg : Str → Option Value) (A : Ad) : Prop where
  k : A.K = K
  b_abs : mg "abs" = none
  b_int : mg "int" = none
  b_isinstance : mg "isinstance" = none
  b_len : mg "len" = none
  b_list : mg "list" = none
  b_range : mg "range" = none
section
variable {P : Program} {w : World} {K : PySem.W.Frag} {mg : Str → Option Value} {base : Heap}
abbrev s_Home_init : Stmt := inClass (top 1) 0
theorem sc_Home_init : FnScope ["self", "kind", "inputs"] ["self", "kind", "inputs"] (defScope s_Home_init) := ⟨rfl, rfl, rfl, by decide +kernel, rfl, by decide +kernel, by decide +kernel⟩
set_option maxHeartbeats 4000000 in
theorem ok_Home_init {A : Ad} (T : Tx K mg A) {f : Addr} {fd : FuncData} (F : FunD K "__init__" "Home.__init__" (defArgs s_Home_init) (defBody s_Home_init) (defScope s_Home_init) [] [] f fd) : FnOk P w K mg base CX0 (1) f fd ["self", "kind", "inputs"] (sp_Home_init A) := by
  obtain rfl := T.k
  refine F.ok sc_Home_init (fun vs H Q E h => len_Home_init A h) (fun cdv Ar outer s H vs Q E hr h => ⟨t_Home_init A, PSs.nox ?_, pure_Home_init A vs H Q E h⟩)
  exact (pss_cons (ps_fld (pv 0) (pv 1) rfl) (pss_cons (ps_fld (pv 0) (pe_callTy call_listA (by rfl) T.b_list (by decide +kernel) (pa_cons (pv 2) pa_nil)) rfl) (pss_cons (ps_fld (pv 0) pe_int rfl) (pss_cons (ps_fld (pv 0) (pe_lst pa_nil) rfl) (pss_cons (ps_fld (pv 0) pe_non rfl) (pss_one (ps_fld (pv 0) pe_non rfl)))))))
abbrev s_Home_ready : Stmt := inClass (top 1) 1
theorem sc_Home_ready : FnScope ["self"] ["self"] (defScope s_Home_ready) := ⟨rfl, rfl, rfl, by decide +kernel, rfl, by decide +kernel, by decide +kernel⟩
set_option maxHeartbeats 4000000 in
theorem ok_Home_ready {A : Ad} (T : Tx K mg A) {f : Addr} {fd : FuncData} (F : FunD K "ready" "Home.ready" (defArgs s_Home_ready) (defBody s_Home_ready) (defScope s_Home_ready) [] [] f fd) : FnOk P w K mg base CX0 (1) f fd ["self"] (sp_Home_ready A) := by
  obtain rfl := T.k
  refine F.ok sc_Home_ready (fun vs H Q E h => len_Home_ready A h) (fun cdv Ar outer s H vs Q E hr h => ⟨t_Home_ready A, PSs.nox ?_, pure_Home_ready A vs H Q E h⟩)
  exact (pss_cons (ps_if (pt_cmpR (op_eqA hr.units) (pe_fld (pv 0) rfl) pe_str (nomark _)) (pss_one (ps_ret (pe_cmpR op_lt (pe_fld (pv 0) rfl) (pe_callB call_lenA (by rfl) T.b_len (by decide +kernel) (pa_cons (pe_fld (pv 0) rfl) pa_nil)) (nomark _)))) pss_nil) (pss_one (ps_ret (pe_cmpR op_notNA (pe_fld (pv 0) rfl) pe_non (nomark _)))))
abbrev s_Home_take : Stmt := inClass (top 1) 2
theorem sc_Home_take : FnScope ["self", "found"] ["self"] (defScope s_Home_take) := ⟨rfl, rfl, rfl, by decide +kernel, rfl, by decide +kernel, by decide +kernel⟩
set_option maxHeartbeats 4000000 in
theorem ok_Home_take {A : Ad} (T : Tx K mg A) {f : Addr} {fd : FuncData} (F : FunD K "take" "Home.take" (defArgs s_Home_take) (defBody s_Home_take) (defScope s_Home_take) [] [] f fd) : FnOk P w K mg base CX0 (1) f fd ["self"] (sp_Home_take A) := by
  obtain rfl := T.k
  refine F.ok sc_Home_take (fun vs H Q E h => len_Home_take A h) (fun cdv Ar outer s H vs Q E hr h => ⟨t_Home_take A, PSs.nox ?_, pure_Home_take A vs H Q E h⟩)
  exact (pss_cons (ps_if (pt_cmpR (op_eqA hr.units) (pe_fld (pv 0) rfl) pe_str (nomark _)) (pss_cons (ps_fld (pv 0) (pe_op op_addA (pe_fld (pv 0) rfl) pe_int) rfl) (pss_one (ps_ret (pe_tup (pa_cons (pe_ix ix_A (pe_fld (pv 0) rfl) (pe_op op_sub (pe_fld (pv 0) rfl) pe_int) (fun _ _ => rfl)) (pa_cons pe_non pa_nil)))))) pss_nil) (pss_cons (ps_set (i := 1) sc_Home_take.nd rfl (Or.inl rfl) (pe_fld (pv 0) rfl)) (pss_cons (ps_fld (pv 0) pe_non rfl) (pss_one (ps_ret (pv 1))))))
abbrev s_Homes_init : Stmt := inClass (top 2) 0
theorem sc_Homes_init : FnScope ["self", "rows", "log"] ["self", "rows", "log"] (defScope s_Homes_init) := ⟨rfl, rfl, rfl, by decide +kernel, rfl, by decide +kernel, by decide +kernel⟩
set_option maxHeartbeats 4000000 in
theorem ok_Homes_init {A : Ad} (T : Tx K mg A) {f : Addr} {fd : FuncData} (F : FunD K "__init__" "Homes.__init__" (defArgs s_Homes_init) (defBody s_Homes_init) (defScope s_Homes_init) [] [] f fd) : FnOk P w K mg base CX0 (1) f fd ["self", "rows", "log"] (sp_Homes_init A) := by
  obtain rfl := T.k
  refine F.ok sc_Homes_init (fun vs H Q E h => len_Homes_init A h) (fun cdv Ar outer s H vs Q E hr h => ⟨t_Homes_init A, PSs.nox ?_, pure_Homes_init A vs H Q E h⟩)
  exact (pss_cons (ps_fld (pv 0) (pv 1) rfl) (pss_one (ps_fld (pv 0) (pv 2) rfl)))
abbrev s_Homes_offer : Stmt := inClass (top 2) 1
theorem sc_Homes_offer : FnScope ["self", "channel", "value", "giver", "home"] ["self", "channel", "value", "giver"] (defScope s_Homes_offer) := ⟨rfl, rfl, rfl, by decide +kernel, rfl, by decide +kernel, by decide +kernel⟩
set_option maxHeartbeats 4000000 in
theorem ok_Homes_offer {A : Ad} (T : Tx K mg A) {f : Addr} {fd : FuncData} (F : FunD K "offer" "Homes.offer" (defArgs s_Homes_offer) (defBody s_Homes_offer) (defScope s_Homes_offer) [] [] f fd) : FnOk P w K mg base CX0 (2) f fd ["self", "channel", "value", "giver"] (sp_Homes_offer A) := by
  obtain rfl := T.k
  refine F.ok sc_Homes_offer (fun vs H Q E h => len_Homes_offer A h) (fun cdv Ar outer s H vs Q E hr h => ⟨t_Homes_offer A, PSs.nox ?_, pure_Homes_offer A vs H Q E h⟩)
  exact (pss_cons (ps_set (i := 4) sc_Homes_offer.nd rfl (Or.inl rfl) (pe_dget (hu_of hr) (pe_fld (pv 0) rfl) (pv 1) (fun _ _ => rfl))) (pss_cons (ps_if (pt_cmpR (op_eqA hr.units) (pe_fld (pv 4) rfl) pe_str (nomark _)) (pss_cons (ps_expr (pe_bml PySem.F.slot_list_append PySem.F.type_list_append mt_appA (pe_fld (pv 4) rfl) (pa_cons (pv 2) pa_nil))) (pss_cons (ps_expr (pe_bml PySem.F.slot_list_append PySem.F.type_list_append mt_appA (pe_fld (pv 0) rfl) (pa_cons (pe_tup (pa_cons (pv 1) (pa_cons (pv 2) pa_nil))) pa_nil))) (pss_one (ps_ret (pe_lst (pa_cons (pe_tup (pa_cons (pv 3) (pa_cons (pe_tup (pa_cons pe_str (pa_cons (pv 3) pa_nil))) pa_nil))) pa_nil)))))) pss_nil) (pss_cons (ps_fld (pv 4) (pe_tup (pa_cons (pv 2) (pa_cons (pv 3) pa_nil))) rfl) (pss_cons (ps_if (pt_cmpR op_isNA (pe_fld (pv 4) rfl) pe_non (nomark _)) (pss_one (ps_ret (pe_lst pa_nil))) pss_nil) (pss_one (ps_ret (pe_lst (pa_cons (pe_tup (pa_cons (pe_fld (pv 4) rfl) (pa_cons (pe_tup (pa_cons pe_str (pa_cons (pv 1) (pa_cons (pe_fld (pv 4) rfl) pa_nil)))) pa_nil))) pa_nil))))))))
abbrev s_Homes_ask : Stmt := inClass (top 2) 2
theorem sc_Homes_ask : FnScope ["self", "channel", "asker", "home"] ["self", "channel", "asker"] (defScope s_Homes_ask) := ⟨rfl, rfl, rfl, by decide +kernel, rfl, by decide +kernel, by decide +kernel⟩
set_option maxHeartbeats 4000000 in
theorem ok_Homes_ask {A : Ad} (T : Tx K mg A) {f : Addr} {fd : FuncData} (F : FunD K "ask" "Homes.ask" (defArgs s_Homes_ask) (defBody s_Homes_ask) (defScope s_Homes_ask) [] [] f fd)
    (c_Home_ready : CalM P w K mg base A.c_Home "ready" (1) ["self"] (sp_Home_ready A)) : FnOk P w K mg base CX0 (2) f fd ["self", "channel", "asker"] (sp_Homes_ask A) := by
  obtain rfl := T.k
  refine F.ok sc_Homes_ask (fun vs H Q E h => len_Homes_ask A h) (fun cdv Ar outer s H vs Q E hr h => ⟨t_Homes_ask A, PSs.nox ?_, pure_Homes_ask A vs H Q E h⟩)
  exact (pss_cons (ps_set (i := 3) sc_Homes_ask.nd rfl (Or.inl rfl) (pe_dget (hu_of hr) (pe_fld (pv 0) rfl) (pv 1) (fun _ _ => rfl))) (pss_cons (ps_fld (pv 3) (pv 2) rfl) (pss_one (ps_ret (pe_ifExp (pt_val (pe_calM0 (pv 3) c_Home_ready (hr.mono (by omega)))) (pe_lst (pa_cons (pe_tup (pa_cons (pv 2) (pa_cons (pe_tup (pa_cons pe_str (pa_cons (pv 1) (pa_cons (pv 2) pa_nil)))) pa_nil))) pa_nil)) (pe_lst pa_nil))))))
abbrev s_Homes_accept : Stmt := inClass (top 2) 3
theorem sc_Homes_accept : FnScope ["self", "channel", "asker", "home", "value", "giver", "found"] ["self", "channel", "asker"] (defScope s_Homes_accept) := ⟨rfl, rfl, rfl, by decide +kernel, rfl, by decide +kernel, by decide +kernel⟩
set_option maxHeartbeats 4000000 in
theorem ok_Homes_accept {A : Ad} (T : Tx K mg A) {f : Addr} {fd : FuncData} (F : FunD K "accept" "Homes.accept" (defArgs s_Homes_accept) (defBody s_Homes_accept) (defScope s_Homes_accept) [] [] f fd)
    (c_Home_take : CalM P w K mg base A.c_Home "take" (1) ["self"] (sp_Home_take A)) : FnOk P w K mg base CX0 (2) f fd ["self", "channel", "asker"] (sp_Homes_accept A) := by
  obtain rfl := T.k
  refine F.ok sc_Homes_accept (fun vs H Q E h => len_Homes_accept A h) (fun cdv Ar outer s H vs Q E hr h => ⟨t_Homes_accept A, PSs.nox ?_, pure_Homes_accept A vs H Q E h⟩)
  exact (pss_cons (ps_set (i := 3) sc_Homes_accept.nd rfl (Or.inl rfl) (pe_dget (hu_of hr) (pe_fld (pv 0) rfl) (pv 1) (fun _ _ => rfl))) (pss_cons (ps_asg (pe_calM0 (pv 3) c_Home_take (hr.mono (by omega))) (pg_tup rfl (pgs_cons (pg_name (i := 4) sc_Homes_accept.nd rfl (Or.inl rfl)) (pgs_cons (pg_name (i := 5) sc_Homes_accept.nd rfl (Or.inl rfl)) pgs_nil)))) (pss_cons (ps_fld (pv 3) pe_non rfl) (pss_cons (ps_expr (pe_bml PySem.F.slot_list_append PySem.F.type_list_append mt_appA (pe_fld (pv 0) rfl) (pa_cons (pe_tup (pa_cons (pv 1) (pa_cons (pv 4) pa_nil))) pa_nil))) (pss_cons (ps_set (i := 6) sc_Homes_accept.nd rfl (Or.inl rfl) (pe_lst (pa_cons (pe_tup (pa_cons (pv 2) (pa_cons (pe_tup (pa_cons pe_str (pa_cons (pv 1) (pa_cons (pv 4) (pa_cons (pv 2) pa_nil))))) pa_nil))) pa_nil))) (pss_cons (ps_if (pt_cmpR op_notNA (pv 5) pe_non (nomark _)) (pss_one (ps_expr (pe_bml PySem.F.slot_list_append PySem.F.type_list_append mt_appA (pv 6) (pa_cons (pe_tup (pa_cons (pv 5) (pa_cons (pe_tup (pa_cons pe_str (pa_cons (pv 5) pa_nil))) pa_nil))) pa_nil)))) pss_nil) (pss_one (ps_ret (pv 6)))))))))
abbrev s_Homes_cancel : Stmt := inClass (top 2) 4
theorem sc_Homes_cancel : FnScope ["self", "channel", "asker"] ["self", "channel", "asker"] (defScope s_Homes_cancel) := ⟨rfl, rfl, rfl, by decide +kernel, rfl, by decide +kernel, by decide +kernel⟩
set_option maxHeartbeats 4000000 in
theorem ok_Homes_cancel {A : Ad} (T : Tx K mg A) {f : Addr} {fd : FuncData} (F : FunD K "cancel" "Homes.cancel" (defArgs s_Homes_cancel) (defBody s_Homes_cancel) (defScope s_Homes_cancel) [] [] f fd) : FnOk P w K mg base CX0 (2) f fd ["self", "channel", "asker"] (sp_Homes_cancel A) := by
  obtain rfl := T.k
  refine F.ok sc_Homes_cancel (fun vs H Q E h => len_Homes_cancel A h) (fun cdv Ar outer s H vs Q E hr h => ⟨t_Homes_cancel A, PSs.nox ?_, pure_Homes_cancel A vs H Q E h⟩)
  exact (pss_cons (ps_fld (pe_dget (hu_of hr) (pe_fld (pv 0) rfl) (pv 1) (fun _ _ => rfl)) pe_non rfl) (pss_one (ps_ret (pe_lst (pa_cons (pe_tup (pa_cons (pv 2) (pa_cons (pe_tup (pa_cons pe_str (pa_cons (pv 1) (pa_cons (pv 2) pa_nil)))) pa_nil))) pa_nil)))))
abbrev s_Homes_handle : Stmt := inClass (top 2) 5
theorem sc_Homes_handle : FnScope ["self", "message"] ["self", "message"] (defScope s_Homes_handle) := ⟨rfl, rfl, rfl, by decide +kernel, rfl, by decide +kernel, by decide +kernel⟩
set_option maxHeartbeats 4000000 in
theorem ok_Homes_handle {A : Ad} (T : Tx K mg A) {f : Addr} {fd : FuncData} (F : FunD K "handle" "Homes.handle" (defArgs s_Homes_handle) (defBody s_Homes_handle) (defScope s_Homes_handle) [] [] f fd)
    (c_Homes_offer : CalM P w K mg base A.c_Homes "offer" (2) ["self", "channel", "value", "giver"] (sp_Homes_offer A))
    (c_Homes_ask : CalM P w K mg base A.c_Homes "ask" (2) ["self", "channel", "asker"] (sp_Homes_ask A))
    (c_Homes_accept : CalM P w K mg base A.c_Homes "accept" (2) ["self", "channel", "asker"] (sp_Homes_accept A))
    (c_Homes_cancel : CalM P w K mg base A.c_Homes "cancel" (2) ["self", "channel", "asker"] (sp_Homes_cancel A)) : FnOk P w K mg base CX0 (3) f fd ["self", "message"] (sp_Homes_handle A) := by
  obtain rfl := T.k
  refine F.ok sc_Homes_handle (fun vs H Q E h => len_Homes_handle A h) (fun cdv Ar outer s H vs Q E hr h => ⟨t_Homes_handle A, PSs.nox ?_, pure_Homes_handle A vs H Q E h⟩)
  exact (pss_cons (ps_if (pt_cmpR (op_eqA hr.units) (pe_ix ix_A (pv 1) pe_int (fun _ _ => rfl)) pe_str (nomark _)) (pss_one (ps_ret (pe_calM (pv 0) c_Homes_offer (hr.mono (by omega)) (pa_cons (pe_ix ix_A (pv 1) pe_int (fun _ _ => rfl)) (pa_cons (pe_ix ix_A (pv 1) pe_int (fun _ _ => rfl)) (pa_cons (pe_ix ix_A (pv 1) pe_int (fun _ _ => rfl)) pa_nil)))))) pss_nil) (pss_cons (ps_if (pt_cmpR (op_eqA hr.units) (pe_ix ix_A (pv 1) pe_int (fun _ _ => rfl)) pe_str (nomark _)) (pss_one (ps_ret (pe_calM (pv 0) c_Homes_ask (hr.mono (by omega)) (pa_cons (pe_ix ix_A (pv 1) pe_int (fun _ _ => rfl)) (pa_cons (pe_ix ix_A (pv 1) pe_int (fun _ _ => rfl)) pa_nil))))) pss_nil) (pss_cons (ps_if (pt_cmpR (op_eqA hr.units) (pe_ix ix_A (pv 1) pe_int (fun _ _ => rfl)) pe_str (nomark _)) (pss_one (ps_ret (pe_calM (pv 0) c_Homes_accept (hr.mono (by omega)) (pa_cons (pe_ix ix_A (pv 1) pe_int (fun _ _ => rfl)) (pa_cons (pe_ix ix_A (pv 1) pe_int (fun _ _ => rfl)) pa_nil))))) pss_nil) (pss_one (ps_ret (pe_calM (pv 0) c_Homes_cancel (hr.mono (by omega)) (pa_cons (pe_ix ix_A (pv 1) pe_int (fun _ _ => rfl)) (pa_cons (pe_ix ix_A (pv 1) pe_int (fun _ _ => rfl)) pa_nil))))))))
abbrev s_l_state : Stmt := top 4
theorem sc_l_state : FnScope ["_law_script", "_law_seed", "_law_cell"] ["_law_script"] (defScope s_l_state) := ⟨rfl, rfl, rfl, by decide +kernel, rfl, by decide +kernel, by decide +kernel⟩
set_option maxHeartbeats 4000000 in
theorem ok_l_state {A : Ad} (T : Tx K mg A) {f : Addr} {fd : FuncData} (F : FunD K "_law_state" "_law_state" (defArgs s_l_state) (defBody s_l_state) (defScope s_l_state) [] [] f fd) : FnOk P w K mg base CX0 (1) f fd ["_law_script"] (spState A.K) := by
  obtain rfl := T.k
  refine F.ok sc_l_state (fun vs H Q E h => len_state h) (fun cdv Ar outer s H vs Q E hr h => ⟨t_state A.K, PSs.nox ?_, pure_state A.K vs H Q E h rfl⟩)
  exact (pss_cons (ps_set (i := 1) sc_l_state.nd rfl (Or.inl rfl) pe_int) (pss_cons (ps_for PassesOwn.never rfl (pi_list (pv 0)) (pg_name (i := 2) sc_l_state.nd rfl (Or.inl rfl)) (pss_one (ps_set (i := 1) sc_l_state.nd rfl (Or.inl rfl) (pe_op op_mod (pe_callTy call_intA (by rfl) T.b_int (by decide +kernel) (pa_cons (pe_op op_addA (pe_op op_mulA (pv 1) pe_int) (pv 2)) pa_nil)) pe_int)))) (pss_one (ps_ret (pe_lst (pa_cons (pe_lc (own := [("_law_cell", 2)]) rfl sc_l_state.nd (pi_list (pv 0)) (blkOk_by (own := [("_law_cell", 2)]) (N := ["_law_script", "_law_seed", "_law_cell"]) (sc := defScope s_l_state) (by decide +kernel)) (fun _ _ _ _ _ => (pg_name (i := 2) sc_l_state.nd rfl (Or.inl rfl))) (fun _ _ _ _ _ => pts_nil) (fun _ _ _ _ _ => (pe_callB call_absA (by rfl) T.b_abs (by decide +kernel) (pa_cons (pv 2) pa_nil)))) (pa_cons (pe_op op_addA (pv 1) pe_int) pa_nil)))))))
abbrev s_l_draw : Stmt := top 5
theorem sc_l_draw : FnScope ["_law_state_here", "_law_many", "_law_cells", "_law_number", "_law_mixed"] ["_law_state_here", "_law_many"] (defScope s_l_draw) := ⟨rfl, rfl, rfl, by decide +kernel, rfl, by decide +kernel, by decide +kernel⟩
set_option maxHeartbeats 4000000 in
theorem ok_l_draw {A : Ad} (T : Tx K mg A) {f : Addr} {fd : FuncData} (F : FunD K "_law_draw" "_law_draw" (defArgs s_l_draw) (defBody s_l_draw) (defScope s_l_draw) [] [] f fd) : FnOk P w K mg base CX0 (1) f fd ["_law_state_here", "_law_many"] spDraw := by
  obtain rfl := T.k
  refine F.ok sc_l_draw (fun vs H Q E h => len_draw h) (fun cdv Ar outer s H vs Q E hr h => ⟨t_draw A.K, PSs.nox ?_, pure_draw A.K vs H Q E h rfl⟩)
  exact (pss_cons (ps_set (i := 2) sc_l_draw.nd rfl (Or.inl rfl) (pe_ix ix_A (pv 0) pe_int (fun _ _ => rfl))) (pss_cons (ps_while PassesOwn.never (PW.pt (pw_and (pt_cmpR op_gt (pe_callB call_lenA (by rfl) T.b_len (by decide +kernel) (pa_cons (pv 2) pa_nil)) pe_int (nomark _)) (pw_and1 (pt_cmpR (op_eqA hr.units) (pe_ix ix_A (pv 2) pe_int (fun _ _ => rfl)) pe_int (nomark _))))) (pss_one (ps_expr (pe_bml PySem.F.slot_list_pop PySem.F.type_list_pop mt_popI (pv 2) (pa_cons pe_int pa_nil))))) (pss_cons (ps_if (pt_cmpR op_gt (pe_callB call_lenA (by rfl) T.b_len (by decide +kernel) (pa_cons (pv 2) pa_nil)) pe_int (nomark _)) (pss_cons (ps_set (i := 3) sc_l_draw.nd rfl (Or.inl rfl) (pe_ix ix_A (pv 2) pe_int (fun _ _ => rfl))) (pss_cons (ps_asg (pe_op op_fdiv (pv 3) (pv 1)) (pg_sub (pv 2) pe_int set_A)) (pss_one (ps_ret (pe_op op_mod (pe_callTy call_intA (by rfl) T.b_int (by decide +kernel) (pa_cons (pv 3) pa_nil)) (pv 1)))))) pss_nil) (pss_cons (ps_set (i := 4) sc_l_draw.nd rfl (Or.inl rfl) (pe_op op_mod (pe_callTy call_intA (by rfl) T.b_int (by decide +kernel) (pa_cons (pe_op op_addA (pe_op op_mulA (pe_ix ix_A (pv 0) pe_int (fun _ _ => rfl)) pe_int) pe_int) pa_nil)) pe_int)) (pss_cons (ps_asg (pv 4) (pg_sub (pv 0) pe_int set_A)) (pss_one (ps_ret (pe_op op_mod (pe_callTy call_intA (by rfl) T.b_int (by decide +kernel) (pa_cons (pe_op op_fdiv (pv 4) pe_int) pa_nil)) (pv 1)))))))))
abbrev s_l_pick : Stmt := top 6
theorem sc_l_pick : FnScope ["_law_state_here", "_law_row"] ["_law_state_here", "_law_row"] (defScope s_l_pick) := ⟨rfl, rfl, rfl, by decide +kernel, rfl, by decide +kernel, by decide +kernel⟩
set_option maxHeartbeats 4000000 in
theorem ok_l_pick {A : Ad} (T : Tx K mg A) {f : Addr} {fd : FuncData} (F : FunD K "_law_pick" "_law_pick" (defArgs s_l_pick) (defBody s_l_pick) (defScope s_l_pick) [] [] f fd)
    (c_l_draw : Cal P w K mg base "_law_draw" (1) ["_law_state_here", "_law_many"] spDraw) : FnOk P w K mg base CX0 (2) f fd ["_law_state_here", "_law_row"] spPick := by
  obtain rfl := T.k
  refine F.ok sc_l_pick (fun vs H Q E h => len_pick h) (fun cdv Ar outer s H vs Q E hr h => ⟨t_pick, PSs.nox ?_, pure_pick vs H Q E h rfl⟩)
  exact (pss_one (ps_ret (pe_ix ix_A (pv 1) (pe_cal c_l_draw (hr.mono (by omega)) (by rfl) (pa_cons (pv 0) (pa_cons (pe_callB call_lenA (by rfl) T.b_len (by decide +kernel) (pa_cons (pv 1) pa_nil)) pa_nil))) (fun _ _ => rfl))))
abbrev s_l_message : Stmt := top 7
theorem sc_l_message : FnScope ["_law_state_here", "_law_channel", "_law_kind", "_law_m", "_law_offered", "_law_asker", "_law_ready", "_law_menu"] ["_law_state_here", "_law_channel", "_law_kind", "_law_m"] (defScope s_l_message) := ⟨rfl, rfl, rfl, by decide +kernel, rfl, by decide +kernel, by decide +kernel⟩
set_option maxHeartbeats 4000000 in
theorem ok_l_message {A : Ad} (T : Tx K mg A) {f : Addr} {fd : FuncData} (F : FunD K "_law_message" "_law_message" (defArgs s_l_message) (defBody s_l_message) (defScope s_l_message) [] [] f fd)
    (c_l_draw : Cal P w K mg base "_law_draw" (1) ["_law_state_here", "_law_many"] spDraw)
    (c_l_pick : Cal P w K mg base "_law_pick" (2) ["_law_state_here", "_law_row"] spPick) : FnOk P w K mg base CX0 (3) f fd ["_law_state_here", "_law_channel", "_law_kind", "_law_m"] sp_l_message := by
  obtain rfl := T.k
  refine F.ok sc_l_message (fun vs H Q E h => len_l_message A h) (fun cdv Ar outer s H vs Q E hr h => ⟨t_l_message A, PSs.nox ?_, pure_l_message A vs H Q E h⟩)
  exact (pss_cons (ps_par (i := 4) (j := 5) rfl sc_l_message.nd rfl rfl (by decide) rfl rfl (pa_cons (pe_ix ix_A (pv 3) pe_int (fun _ _ => rfl)) (pa_cons (pe_ix ix_A (pv 3) pe_int (fun _ _ => rfl)) pa_nil)) rfl) (pss_cons (ps_set (i := 6) sc_l_message.nd rfl (Or.inl rfl) (pe_or (pe_cmpR op_notNA (pv 4) pe_non (nomark _)) (pe_one (pe_and (pe_cmpR (op_eqA hr.units) (pv 2) pe_str (nomark _)) (pe_one (pe_cmpR op_gt (pe_callB call_lenA (by rfl) T.b_len (by decide +kernel) (pa_cons (pe_ix ix_A (pv 3) pe_int (fun _ _ => rfl)) pa_nil)) pe_int (nomark _))))))) (pss_cons (ps_set (i := 7) sc_l_message.nd rfl (Or.inl rfl) (pe_lst pa_nil)) (pss_cons (ps_if (PW.pt (pw_or (pt_cmpR (op_eqA hr.units) (pv 2) pe_str (nomark _)) (pw_or1 (PW.pt (pw_and (pt_cmpR (op_eqA hr.units) (pv 2) pe_str (nomark _)) (pw_and1 (pt_cmpR op_isNA (pv 4) pe_non (nomark _)))))))) (pss_one (ps_expr (pe_bml PySem.F.slot_list_append PySem.F.type_list_append mt_appA (pv 7) (pa_cons (pe_tup (pa_cons pe_str (pa_cons (pv 1) (pa_cons (pe_cal c_l_draw (hr.mono (by omega)) (by rfl) (pa_cons (pv 0) (pa_cons pe_int pa_nil))) (pa_cons (pe_op op_addA pe_int (pv 1)) pa_nil))))) pa_nil)))) pss_nil) (pss_cons (ps_if (PW.pt (pw_and (pt_cmpR (op_neA hr.units) (pv 2) pe_str (nomark _)) (pw_and1 (pt_cmpR op_isNA (pv 5) pe_non (nomark _))))) (pss_one (ps_expr (pe_bml PySem.F.slot_list_append PySem.F.type_list_append mt_appA (pv 7) (pa_cons (pe_tup (pa_cons pe_str (pa_cons (pv 1) (pa_cons (pe_op op_addA pe_int (pv 1)) pa_nil)))) pa_nil)))) pss_nil) (pss_cons (ps_if (PW.pt (pw_and (pt_cmpR (op_neA hr.units) (pv 2) pe_str (nomark _)) (pw_and1 (pt_cmpR op_notNA (pv 5) pe_non (nomark _))))) (pss_cons (ps_expr (pe_bml PySem.F.slot_list_append PySem.F.type_list_append mt_appA (pv 7) (pa_cons (pe_tup (pa_cons pe_str (pa_cons (pv 1) (pa_cons (pv 5) pa_nil)))) pa_nil))) (pss_one (ps_if (pt_truth (pv 6) (fun _ => rfl)) (pss_one (ps_set (i := 7) sc_l_message.nd rfl (Or.inl rfl) (pe_op op_addA (pv 7) (pe_lst (pa_cons (pe_tup (pa_cons pe_str (pa_cons (pv 1) (pa_cons (pv 5) pa_nil)))) (pa_cons (pe_tup (pa_cons pe_str (pa_cons (pv 1) (pa_cons (pv 5) pa_nil)))) pa_nil)))))) pss_nil))) pss_nil) (pss_one (ps_ret (pe_ifExp (pt_cmpR op_gt (pe_callB call_lenA (by rfl) T.b_len (by decide +kernel) (pa_cons (pv 7) pa_nil)) pe_int (nomark _)) (pe_cal c_l_pick (hr.mono (by omega)) (by rfl) (pa_cons (pv 0) (pa_cons (pv 7) pa_nil))) pe_non)))))))))
abbrev s_l_due : Stmt := top 8
theorem sc_l_due : FnScope ["_law_kind", "_law_m", "_law_message_here", "_law_log", "_law_outputs", "_law_name", "_law_channel", "_law_asker", "_law_ready", "_law_word", "_law_giver"] ["_law_kind", "_law_m", "_law_message_here", "_law_log", "_law_outputs"] (defScope s_l_due) := ⟨rfl, rfl, rfl, by decide +kernel, rfl, by decide +kernel, by decide +kernel⟩
set_option maxHeartbeats 4000000 in
theorem ok_l_due {A : Ad} (T : Tx K mg A) {f : Addr} {fd : FuncData} (F : FunD K "_law_due" "_law_due" (defArgs s_l_due) (defBody s_l_due) (defScope s_l_due) [] [] f fd) : FnOk P w K mg base CX0 (1) f fd ["_law_kind", "_law_m", "_law_message_here", "_law_log", "_law_outputs"] (sp_l_due A) := by
  obtain rfl := T.k
  refine F.ok sc_l_due (fun vs H Q E h => len_l_due A h) (fun cdv Ar outer s H vs Q E hr h => ⟨t_l_due A, PSs.nox ?_, pure_l_due A vs H Q E h⟩)
  exact (pss_cons (ps_par (i := 5) (j := 6) rfl sc_l_due.nd rfl rfl (by decide) rfl rfl (pa_cons (pe_ix ix_A (pv 2) pe_int (fun _ _ => rfl)) (pa_cons (pe_ix ix_A (pv 2) pe_int (fun _ _ => rfl)) pa_nil)) rfl) (pss_cons (ps_if (PW.pt (pw_and (pt_cmpR (op_eqA hr.units) (pv 5) pe_str (nomark _)) (pw_and1 (pt_cmpR (op_eqA hr.units) (pv 0) pe_str (nomark _))))) (pss_cons (ps_expr (pe_bml PySem.F.slot_list_append PySem.F.type_list_append mt_appA (pv 4) (pa_cons (pe_ix ix_A (pv 2) pe_int (fun _ _ => rfl)) pa_nil))) (pss_cons (ps_expr (pe_bml PySem.F.slot_list_append PySem.F.type_list_append mt_appA (pv 3) (pa_cons (pe_tup (pa_cons (pv 6) (pa_cons (pe_ix ix_A (pv 2) pe_int (fun _ _ => rfl)) pa_nil))) pa_nil))) (pss_one (ps_ret (pe_lst (pa_cons (pe_tup (pa_cons (pe_ix ix_A (pv 2) pe_int (fun _ _ => rfl)) (pa_cons (pe_tup (pa_cons pe_str (pa_cons (pe_ix ix_A (pv 2) pe_int (fun _ _ => rfl)) pa_nil))) pa_nil))) pa_nil)))))) pss_nil) (pss_cons (ps_if (pt_cmpR (op_eqA hr.units) (pv 5) pe_str (nomark _)) (pss_cons (ps_asg (pe_tup (pa_cons (pe_ix ix_A (pv 2) pe_int (fun _ _ => rfl)) (pa_cons (pe_ix ix_A (pv 2) pe_int (fun _ _ => rfl)) pa_nil))) (pg_sub (pv 1) pe_int set_A)) (pss_one (ps_ret (pe_ifExp (pt_cmpR op_isNA (pe_ix ix_A (pv 1) pe_int (fun _ _ => rfl)) pe_non (nomark _)) (pe_lst pa_nil) (pe_lst (pa_cons (pe_tup (pa_cons (pe_ix ix_A (pv 1) pe_int (fun _ _ => rfl)) (pa_cons (pe_tup (pa_cons pe_str (pa_cons (pv 6) (pa_cons (pe_ix ix_A (pv 1) pe_int (fun _ _ => rfl)) pa_nil)))) pa_nil))) pa_nil)))))) pss_nil) (pss_cons (ps_set (i := 7) sc_l_due.nd rfl (Or.inl rfl) (pe_ix ix_A (pv 2) pe_int (fun _ _ => rfl))) (pss_cons (ps_if (pt_cmpR (op_eqA hr.units) (pv 5) pe_str (nomark _)) (pss_cons (ps_asg (pv 7) (pg_sub (pv 1) pe_int set_A)) (pss_cons (ps_set (i := 8) sc_l_due.nd rfl (Or.inl rfl) (pe_or (pe_cmpR op_notNA (pe_ix ix_A (pv 1) pe_int (fun _ _ => rfl)) pe_non (nomark _)) (pe_one (pe_cmpR op_gt (pe_callB call_lenA (by rfl) T.b_len (by decide +kernel) (pa_cons (pe_ix ix_A (pv 1) pe_int (fun _ _ => rfl)) pa_nil)) pe_int (nomark _))))) (pss_one (ps_ret (pe_ifExp (pt_truth (pv 8) (fun _ => rfl)) (pe_lst (pa_cons (pe_tup (pa_cons (pv 7) (pa_cons (pe_tup (pa_cons pe_str (pa_cons (pv 6) (pa_cons (pv 7) pa_nil)))) pa_nil))) pa_nil)) (pe_lst pa_nil)))))) pss_nil) (pss_cons (ps_asg pe_non (pg_sub (pv 1) pe_int set_A)) (pss_cons (ps_if (pt_cmpR (op_eqA hr.units) (pv 5) pe_str (nomark _)) (pss_one (ps_ret (pe_lst (pa_cons (pe_tup (pa_cons (pv 7) (pa_cons (pe_tup (pa_cons pe_str (pa_cons (pv 6) (pa_cons (pv 7) pa_nil)))) pa_nil))) pa_nil)))) pss_nil) (pss_cons (ps_if (pt_cmpR (op_eqA hr.units) (pv 0) pe_str (nomark _)) (pss_cons (ps_set (i := 9) sc_l_due.nd rfl (Or.inl rfl) (pe_bml PySem.F.slot_list_pop PySem.F.type_list_pop mt_popI (pe_ix ix_A (pv 1) pe_int (fun _ _ => rfl)) (pa_cons pe_int pa_nil))) (pss_cons (ps_expr (pe_bml PySem.F.slot_list_append PySem.F.type_list_append mt_appA (pv 3) (pa_cons (pe_tup (pa_cons (pv 6) (pa_cons (pv 9) pa_nil))) pa_nil))) (pss_one (ps_ret (pe_lst (pa_cons (pe_tup (pa_cons (pv 7) (pa_cons (pe_tup (pa_cons pe_str (pa_cons (pv 6) (pa_cons (pv 9) (pa_cons (pv 7) pa_nil))))) pa_nil))) pa_nil)))))) pss_nil) (pss_cons (ps_asg (pe_ix ix_A (pv 1) pe_int (fun _ _ => rfl)) (pg_tup rfl (pgs_cons (pg_name (i := 9) sc_l_due.nd rfl (Or.inl rfl)) (pgs_cons (pg_name (i := 10) sc_l_due.nd rfl (Or.inl rfl)) pgs_nil)))) (pss_cons (ps_asg pe_non (pg_sub (pv 1) pe_int set_A)) (pss_cons (ps_expr (pe_bml PySem.F.slot_list_append PySem.F.type_list_append mt_appA (pv 3) (pa_cons (pe_tup (pa_cons (pv 6) (pa_cons (pv 9) pa_nil))) pa_nil))) (pss_one (ps_ret (pe_lst (pa_cons (pe_tup (pa_cons (pv 7) (pa_cons (pe_tup (pa_cons pe_str (pa_cons (pv 6) (pa_cons (pv 9) (pa_cons (pv 7) pa_nil))))) pa_nil))) (pa_cons (pe_tup (pa_cons (pv 10) (pa_cons (pe_tup (pa_cons pe_str (pa_cons (pv 10) pa_nil))) pa_nil))) pa_nil))))))))))))))))
abbrev s_law : Stmt := top 9
theorem sc_law : FnScope ["_law_script", "_law_state_here", "_law_kinds", "_law_inputs", "_law_rows", "_law_channel", "_law_events", "_law_homes", "_law_models", "_law_outputs", "_law_log", "_law_k", "_law_message_here", "_law_due_here", "_law_told", "_law_kind"] ["_law_script"] (defScope s_law) := ⟨rfl, rfl, rfl, by decide +kernel, rfl, by decide +kernel, by decide +kernel⟩
set_option maxHeartbeats 4000000 in
theorem ok_law {A : Ad} (T : Tx K mg A) {f : Addr} {fd : FuncData} (F : FunD K "law" "law" (defArgs s_law) (defBody s_law) (defScope s_law) [] [] f fd)
    (c_l_state : Cal P w K mg base "_law_state" (1) ["_law_script"] (spState A.K))
    (c_l_draw : Cal P w K mg base "_law_draw" (1) ["_law_state_here", "_law_many"] spDraw)
    (c_l_pick : Cal P w K mg base "_law_pick" (2) ["_law_state_here", "_law_row"] spPick)
    (c_Home_init : CalC P w K mg base "Home" A.c_Home (1) ["self", "kind", "inputs"] (sp_Home_init A))
    (c_Homes_init : CalC P w K mg base "Homes" A.c_Homes (1) ["self", "rows", "log"] (sp_Homes_init A))
    (c_l_message : Cal P w K mg base "_law_message" (3) ["_law_state_here", "_law_channel", "_law_kind", "_law_m"] sp_l_message)
    (c_l_due : Cal P w K mg base "_law_due" (1) ["_law_kind", "_law_m", "_law_message_here", "_law_log", "_law_outputs"] (sp_l_due A))
    (c_Homes_handle : CalM P w K mg base A.c_Homes "handle" (3) ["self", "message"] (sp_Homes_handle A)) : FnOk P w K mg base CX0 (10) f fd ["_law_script"] (sp_law A) := by
  obtain rfl := T.k
  refine F.ok sc_law (fun vs H Q E h => len_law A h) (fun cdv Ar outer s H vs Q E hr h => ⟨t_law A, PSs.nox ?_, pure_law A vs H Q E h⟩)
  exact (pss_cons (ps_set (i := 1) sc_law.nd rfl (Or.inr rfl) (pe_cal c_l_state (hr.mono (by omega)) (by rfl) (pa_cons (pv 0) pa_nil))) (pss_cons (ps_setLc (i := 2) (own := [("_law_k", 11)]) rfl sc_law.nd rfl rfl (sw_true rfl rfl rfl (by decide +kernel)) (pi_range1 (by rfl) T.b_range (pa_cons (pe_op op_addA pe_int (pe_cal c_l_draw (hr.mono (by omega)) (by rfl) (pa_cons (pv 1) (pa_cons pe_int pa_nil)))) pa_nil)) (blkOk_by (own := [("_law_k", 11)]) (N := ["_law_script", "_law_state_here", "_law_kinds", "_law_inputs", "_law_rows", "_law_channel", "_law_events", "_law_homes", "_law_models", "_law_outputs", "_law_log", "_law_k", "_law_message_here", "_law_due_here", "_law_told", "_law_kind"]) (sc := defScope s_law) (by decide +kernel)) (fun _ _ _ _ _ => (pg_name (i := 11) sc_law.nd rfl (Or.inl rfl))) (fun _ _ _ _ _ => pts_nil) (fun _ _ _ _ _ => (pe_cal c_l_pick (hr.mono (by omega)) (by rfl) (pa_cons (pv 1) (pa_cons (pe_lst (pa_cons pe_str (pa_cons pe_str (pa_cons pe_str (pa_cons pe_str pa_nil))))) pa_nil))))) (pss_cons (ps_set (i := 3) sc_law.nd rfl (Or.inr rfl) (pe_lc (own := [("_law_kind", 15)]) rfl sc_law.nd (pi_list (pv 2)) (blkOk_by (own := [("_law_kind", 15)]) (N := ["_law_script", "_law_state_here", "_law_kinds", "_law_inputs", "_law_rows", "_law_channel", "_law_events", "_law_homes", "_law_models", "_law_outputs", "_law_log", "_law_k", "_law_message_here", "_law_due_here", "_law_told", "_law_kind"]) (sc := defScope s_law) (by decide +kernel)) (fun _ _ _ _ _ => (pg_name (i := 15) sc_law.nd rfl (Or.inl rfl))) (fun _ _ _ _ _ => pts_nil) (fun _ _ _ _ _ => (pe_ifExp (pt_cmpR (op_eqA hr.units) (pv 15) pe_str (nomark _)) (pe_lc (own := [("_law_k", 11)]) rfl sc_law.nd (pi_range1 (by rfl) T.b_range (pa_cons (pe_cal c_l_draw (hr.mono (by omega)) (by rfl) (pa_cons (pv 1) (pa_cons pe_int pa_nil))) pa_nil)) (blkOk_in (own := [("_law_k", 11)]) (N := ["_law_script", "_law_state_here", "_law_kinds", "_law_inputs", "_law_rows", "_law_channel", "_law_events", "_law_homes", "_law_models", "_law_outputs", "_law_log", "_law_k", "_law_message_here", "_law_due_here", "_law_told", "_law_kind"]) (by decide +kernel)) (fun _ _ _ _ _ => (pg_name (i := 11) sc_law.nd rfl (Or.inl rfl))) (fun _ _ _ _ _ => pts_nil) (fun _ _ _ _ _ => (pe_cal c_l_draw (hr.mono (by omega)) (by rfl) (pa_cons (pv 1) (pa_cons pe_int pa_nil))))) (pe_lst pa_nil))))) (pss_cons (ps_set (i := 4) sc_law.nd rfl (Or.inl rfl) pe_dnewK) (pss_cons (ps_for PassesOwn.never rfl (pi_range1 (by rfl) T.b_range (pa_cons (pe_callB call_lenA (by rfl) T.b_len (by decide +kernel) (pa_cons (pv 2) pa_nil)) pa_nil)) (pg_name (i := 5) sc_law.nd rfl (Or.inl rfl)) (pss_one (ps_dput (hu_of hr) (pv 4) (pv 5) (pe_calC c_Home_init (hr.mono (by omega)) (by rfl) (pa_cons (pe_ix ix_A (pv 2) (pv 5) (fun _ _ => rfl)) (pa_cons (pe_callTy call_listA (by rfl) T.b_list (by decide +kernel) (pa_cons (pe_ix ix_A (pv 3) (pv 5) (fun _ _ => rfl)) pa_nil)) pa_nil))) rfl))) (pss_cons (ps_set (i := 6) sc_law.nd rfl (Or.inl rfl) (pe_lst pa_nil)) (pss_cons (ps_set (i := 7) sc_law.nd rfl (Or.inl rfl) (pe_calC c_Homes_init (hr.mono (by omega)) (by rfl) (pa_cons (pv 4) (pa_cons (pv 6) pa_nil)))) (pss_cons (ps_setLc (i := 8) (own := [("_law_channel", 5)]) rfl sc_law.nd rfl rfl (sw_true rfl rfl rfl (by decide +kernel)) (pi_range1 (by rfl) T.b_range (pa_cons (pe_callB call_lenA (by rfl) T.b_len (by decide +kernel) (pa_cons (pv 2) pa_nil)) pa_nil)) (blkOk_by (own := [("_law_channel", 5)]) (N := ["_law_script", "_law_state_here", "_law_kinds", "_law_inputs", "_law_rows", "_law_channel", "_law_events", "_law_homes", "_law_models", "_law_outputs", "_law_log", "_law_k", "_law_message_here", "_law_due_here", "_law_told", "_law_kind"]) (sc := defScope s_law) (by decide +kernel)) (fun _ _ _ _ _ => (pg_name (i := 5) sc_law.nd rfl (Or.inl rfl))) (fun _ _ _ _ _ => pts_nil) (fun _ _ _ _ _ => (pe_lst (pa_cons pe_non (pa_cons pe_non (pa_cons (pe_ix ix_A (pv 3) (pv 5) (fun _ _ => rfl)) pa_nil)))))) (pss_cons (ps_setLc (i := 9) (own := [("_law_kind", 15)]) rfl sc_law.nd rfl rfl (sw_true rfl rfl rfl (by decide +kernel)) (pi_list (pv 2)) (blkOk_by (own := [("_law_kind", 15)]) (N := ["_law_script", "_law_state_here", "_law_kinds", "_law_inputs", "_law_rows", "_law_channel", "_law_events", "_law_homes", "_law_models", "_law_outputs", "_law_log", "_law_k", "_law_message_here", "_law_due_here", "_law_told", "_law_kind"]) (sc := defScope s_law) (by decide +kernel)) (fun _ _ _ _ _ => (pg_name (i := 15) sc_law.nd rfl (Or.inl rfl))) (fun _ _ _ _ _ => pts_nil) (fun _ _ _ _ _ => (pe_lst pa_nil))) (pss_cons (ps_set (i := 10) sc_law.nd rfl (Or.inl rfl) (pe_lst pa_nil)) (pss_cons (ps_for PassesOwn.never rfl (pi_range1 (by rfl) T.b_range (pa_cons (pe_op op_addA pe_int (pe_cal c_l_draw (hr.mono (by omega)) (by rfl) (pa_cons (pv 1) (pa_cons pe_int pa_nil)))) pa_nil)) (pg_name (i := 11) sc_law.nd rfl (Or.inl rfl)) (pss_cons (ps_set (i := 5) sc_law.nd rfl (Or.inl rfl) (pe_cal c_l_draw (hr.mono (by omega)) (by rfl) (pa_cons (pv 1) (pa_cons (pe_callB call_lenA (by rfl) T.b_len (by decide +kernel) (pa_cons (pv 2) pa_nil)) pa_nil)))) (pss_cons (ps_set (i := 12) sc_law.nd rfl (Or.inl rfl) (pe_cal c_l_message (hr.mono (by omega)) (by rfl) (pa_cons (pv 1) (pa_cons (pv 5) (pa_cons (pe_ix ix_A (pv 2) (pv 5) (fun _ _ => rfl)) (pa_cons (pe_ix ix_A (pv 8) (pv 5) (fun _ _ => rfl)) pa_nil)))))) (pss_one (ps_if (pt_cmpR op_notNA (pv 12) pe_non (nomark _)) (pss_cons (ps_set (i := 13) sc_law.nd rfl (Or.inl rfl) (pe_cal c_l_due (hr.mono (by omega)) (by rfl) (pa_cons (pe_ix ix_A (pv 2) (pv 5) (fun _ _ => rfl)) (pa_cons (pe_ix ix_A (pv 8) (pv 5) (fun _ _ => rfl)) (pa_cons (pv 12) (pa_cons (pv 10) (pa_cons (pe_ix ix_A (pv 9) (pv 5) (fun _ _ => rfl)) pa_nil))))))) (pss_cons (ps_set (i := 14) sc_law.nd rfl (Or.inl rfl) (pe_calM (pv 7) c_Homes_handle (hr.mono (by omega)) (pa_cons (pv 12) pa_nil))) (pss_cons (ps_if (PW.pt (pw_or (pt_not (pt_val (pe_callB call_isiA (by rfl) T.b_isinstance (by decide +kernel) (pa_cons (pv 14) (pa_cons (pe_bltn (v := .ty "list") (by rfl) T.b_list (by decide +kernel) rfl) pa_nil))))) (pw_or (pt_cmpR (op_neA hr.units) (pv 14) (pv 13) (nomark _)) (pw_or1 (pt_cmpR (op_neA hr.units) (pv 6) (pv 10) (nomark _)))))) (pss_one (ps_ret pe_bl)) pss_nil) (pss_one (ps_if (PW.pt (pw_or (pt_cmpR (op_neA hr.units) (pe_fld (pe_dget (hu_of hr) (pv 4) (pv 5) (fun _ _ => rfl)) rfl) (pe_ix ix_A (pv 9) (pv 5) (fun _ _ => rfl)) (nomark _)) (pw_or1 (pt_cmpR (op_neA hr.units) (pe_fld (pe_dget (hu_of hr) (pv 4) (pv 5) (fun _ _ => rfl)) rfl) (pe_ix ix_A (pv 2) (pv 5) (fun _ _ => rfl)) (nomark _))))) (pss_one (ps_ret pe_bl)) pss_nil))))) pss_nil))))) (pss_one (ps_ret pe_bl)))))))))))))
end
end K46
set_option Elab.async false
set_option linter.all false
set_option maxRecDepth 100000
set_option maxHeartbeats 4000000
namespace K46
open PySem PySem.Spec PyProof.Rows L2 Lb
def d_Home_init : He.DefD := ⟨("Home", some "__init__"), "__init__", "Home.__init__", defArgs s_Home_init, defBody s_Home_init, defScope s_Home_init, [], []⟩
def d_Home_ready : He.DefD := ⟨("Home", some "ready"), "ready", "Home.ready", defArgs s_Home_ready, defBody s_Home_ready, defScope s_Home_ready, [], []⟩
def d_Home_take : He.DefD := ⟨("Home", some "take"), "take", "Home.take", defArgs s_Home_take, defBody s_Home_take, defScope s_Home_take, [], []⟩
def d_Homes_init : He.DefD := ⟨("Homes", some "__init__"), "__init__", "Homes.__init__", defArgs s_Homes_init, defBody s_Homes_init, defScope s_Homes_init, [], []⟩
def d_Homes_offer : He.DefD := ⟨("Homes", some "offer"), "offer", "Homes.offer", defArgs s_Homes_offer, defBody s_Homes_offer, defScope s_Homes_offer, [], []⟩
def d_Homes_ask : He.DefD := ⟨("Homes", some "ask"), "ask", "Homes.ask", defArgs s_Homes_ask, defBody s_Homes_ask, defScope s_Homes_ask, [], []⟩
def d_Homes_accept : He.DefD := ⟨("Homes", some "accept"), "accept", "Homes.accept", defArgs s_Homes_accept, defBody s_Homes_accept, defScope s_Homes_accept, [], []⟩
def d_Homes_cancel : He.DefD := ⟨("Homes", some "cancel"), "cancel", "Homes.cancel", defArgs s_Homes_cancel, defBody s_Homes_cancel, defScope s_Homes_cancel, [], []⟩
def d_Homes_handle : He.DefD := ⟨("Homes", some "handle"), "handle", "Homes.handle", defArgs s_Homes_handle, defBody s_Homes_handle, defScope s_Homes_handle, [], []⟩
def d_l_state : He.DefD := ⟨("_law_state", none), "_law_state", "_law_state", defArgs s_l_state, defBody s_l_state, defScope s_l_state, [], []⟩
def d_l_draw : He.DefD := ⟨("_law_draw", none), "_law_draw", "_law_draw", defArgs s_l_draw, defBody s_l_draw, defScope s_l_draw, [], []⟩
def d_l_pick : He.DefD := ⟨("_law_pick", none), "_law_pick", "_law_pick", defArgs s_l_pick, defBody s_l_pick, defScope s_l_pick, [], []⟩
def d_l_message : He.DefD := ⟨("_law_message", none), "_law_message", "_law_message", defArgs s_l_message, defBody s_l_message, defScope s_l_message, [], []⟩
def d_l_due : He.DefD := ⟨("_law_due", none), "_law_due", "_law_due", defArgs s_l_due, defBody s_l_due, defScope s_l_due, [], []⟩
def d_law : He.DefD := ⟨("law", none), "law", "law", defArgs s_law, defBody s_law, defScope s_law, [], []⟩
def fn : List He.DefD := [d_Home_init, d_Home_ready, d_Home_take, d_Homes_init, d_Homes_offer, d_Homes_ask, d_Homes_accept, d_Homes_cancel, d_Homes_handle, d_l_state, d_l_draw, d_l_pick, d_l_message, d_l_due, d_law]
def fa0 : List He.Fa := [.free "abs", .free "int", .free "isinstance", .free "len", .free "list", .free "range", .glo "_law_state", .glo "_law_draw", .glo "_law_pick", .glo "_law_message", .glo "_law_due", .glo "law", .glo "Home", .cls "Home", .mkr "Home", .glo "Homes", .cls "Homes", .mkr "Homes", .meth "Home" "ready", .meth "Home" "take", .meth "Homes" "offer", .meth "Homes" "ask", .meth "Homes" "accept", .meth "Homes" "cancel", .meth "Homes" "handle", .noat "Home" "kind", .noat "Home" "inputs", .noat "Home" "used", .noat "Home" "outputs", .noat "Home" "offer"]
def fa1 : List He.Fa := [.noat "Home" "asker", .noat "Homes" "rows", .noat "Homes" "log"]
def fa : List He.Fa := fa0 ++ fa1
def lo : List Str := ["Home", "Homes", "_law_state", "_law_draw", "_law_pick", "_law_message", "_law_due"]
abbrev RW : PySem.W.OpenLaw := PySem.Challenge.rw_placedanyhow_k46_homes_of_channels
abbrev RR : PySem.W.OpenRow := PySem.W.OpenLaw.row RW
abbrev hk : PySem.W.Hook := He.hookD 4 fa fn
def ob (s : PySem.W.SharedT) : He.AlD := He.obsDG 4 fa fn (HandSHeadRun.getT s)
theorem ob_eq (s : PySem.W.SharedT) : ob s = hk.obs s.abs := He.obsDG_eq (HandSHeadRun.getT_eq s)
theorem run (w : World) : HandSHeadRun.RunEq RR (PySem.W.view RR.prog [9]) hk ob 4000 lo w := by
  intro os
  kernel_rfl
theorem tx {K : PySem.W.Frag} {h : Heap} {mg : Str → Option Value} (X : K.In h) (G : h.Ns mainGlobals mg) (c : He.SaysD fa fn K) : Tx K mg ⟨K, He.ga K "Home", He.ga K "Homes"⟩ :=
  ⟨rfl, He.free_ok X G (c.fact 0 rfl), He.free_ok X G (c.fact 1 rfl), He.free_ok X G (c.fact 2 rfl), He.free_ok X G (c.fact 3 rfl), He.free_ok X G (c.fact 4 rfl), He.free_ok X G (c.fact 5 rfl)⟩
theorem cf {K : PySem.W.Frag} (c : He.SaysD fa fn K) : CF ⟨K, He.ga K "Home", He.ga K "Homes"⟩ :=
  ⟨He.cls_ok (c.fact 13 (f := .cls "Home") rfl), He.cls_ok (c.fact 16 (f := .cls "Homes") rfl),
  He.noat_ok (c.fact 25 (f := .noat "Home" "kind") rfl),
  He.noat_ok (c.fact 26 (f := .noat "Home" "inputs") rfl),
  He.noat_ok (c.fact 27 (f := .noat "Home" "used") rfl),
  He.noat_ok (c.fact 28 (f := .noat "Home" "outputs") rfl),
  He.noat_ok (c.fact 29 (f := .noat "Home" "offer") rfl),
  He.noat_ok (c.fact 30 (f := .noat "Home" "asker") rfl),
  He.noat_ok (c.fact 31 (f := .noat "Homes" "rows") rfl),
  He.noat_ok (c.fact 32 (f := .noat "Homes" "log") rfl)⟩
set_option maxHeartbeats 16000000 in
theorem facts {P : Program} {w : World} {K : PySem.W.Frag} {h : Heap} {mg : Str → Option Value} {f : Addr} (X : K.In h) (G : h.Ns mainGlobals mg) (hfa : mg ("law" : Str) = some (.ref f)) (c : He.SaysD fa fn K) :
    ∃ fd : FuncData, (∀ (s : Shared) (v : Value), BindsTo s fd ⟨[v], []⟩ [("_law_script", v)]) ∧ ∀ base : Heap, K.In base → base.Ns mainGlobals mg → FnOk P w K mg base CX0 (10) f fd ["_law_script"] (sp_law ⟨K, He.ga K "Home", He.ga K "Homes"⟩) := by
  obtain ⟨fd_Home_init, F_Home_init⟩ := c.def_ 0 (d := d_Home_init) rfl
  have b_Home_init : Binds K fd_Home_init ["self", "kind", "inputs"] [] := F_Home_init.bindsN fun _ _ _ _ _ _ us hl => match us, hl with | [_, _, _], _ => rfl
  obtain ⟨fd_Home_ready, F_Home_ready⟩ := c.def_ 1 (d := d_Home_ready) rfl
  have b_Home_ready : Binds K fd_Home_ready ["self"] [] := F_Home_ready.bindsN fun _ _ _ _ _ _ us hl => match us, hl with | [_], _ => rfl
  obtain ⟨fd_Home_take, F_Home_take⟩ := c.def_ 2 (d := d_Home_take) rfl
  have b_Home_take : Binds K fd_Home_take ["self"] [] := F_Home_take.bindsN fun _ _ _ _ _ _ us hl => match us, hl with | [_], _ => rfl
  obtain ⟨fd_Homes_init, F_Homes_init⟩ := c.def_ 3 (d := d_Homes_init) rfl
  have b_Homes_init : Binds K fd_Homes_init ["self", "rows", "log"] [] := F_Homes_init.bindsN fun _ _ _ _ _ _ us hl => match us, hl with | [_, _, _], _ => rfl
  obtain ⟨fd_Homes_offer, F_Homes_offer⟩ := c.def_ 4 (d := d_Homes_offer) rfl
  have b_Homes_offer : Binds K fd_Homes_offer ["self", "channel", "value", "giver"] [] := F_Homes_offer.bindsN fun _ _ _ _ _ _ us hl => match us, hl with | [_, _, _, _], _ => rfl
  obtain ⟨fd_Homes_ask, F_Homes_ask⟩ := c.def_ 5 (d := d_Homes_ask) rfl
  have b_Homes_ask : Binds K fd_Homes_ask ["self", "channel", "asker"] [] := F_Homes_ask.bindsN fun _ _ _ _ _ _ us hl => match us, hl with | [_, _, _], _ => rfl
  obtain ⟨fd_Homes_accept, F_Homes_accept⟩ := c.def_ 6 (d := d_Homes_accept) rfl
  have b_Homes_accept : Binds K fd_Homes_accept ["self", "channel", "asker"] [] := F_Homes_accept.bindsN fun _ _ _ _ _ _ us hl => match us, hl with | [_, _, _], _ => rfl
  obtain ⟨fd_Homes_cancel, F_Homes_cancel⟩ := c.def_ 7 (d := d_Homes_cancel) rfl
  have b_Homes_cancel : Binds K fd_Homes_cancel ["self", "channel", "asker"] [] := F_Homes_cancel.bindsN fun _ _ _ _ _ _ us hl => match us, hl with | [_, _, _], _ => rfl
  obtain ⟨fd_Homes_handle, F_Homes_handle⟩ := c.def_ 8 (d := d_Homes_handle) rfl
  have b_Homes_handle : Binds K fd_Homes_handle ["self", "message"] [] := F_Homes_handle.bindsN fun _ _ _ _ _ _ us hl => match us, hl with | [_, _], _ => rfl
  obtain ⟨fd_l_state, F_l_state⟩ := c.def_ 9 (d := d_l_state) rfl
  have b_l_state : Binds K fd_l_state ["_law_script"] [] := F_l_state.bindsN fun _ _ _ _ _ _ us hl => match us, hl with | [_], _ => rfl
  have g_l_state := He.glo_ok X G (c.fact 6 (f := .glo "_law_state") rfl)
  obtain ⟨fd_l_draw, F_l_draw⟩ := c.def_ 10 (d := d_l_draw) rfl
  have b_l_draw : Binds K fd_l_draw ["_law_state_here", "_law_many"] [] := F_l_draw.bindsN fun _ _ _ _ _ _ us hl => match us, hl with | [_, _], _ => rfl
  have g_l_draw := He.glo_ok X G (c.fact 7 (f := .glo "_law_draw") rfl)
  obtain ⟨fd_l_pick, F_l_pick⟩ := c.def_ 11 (d := d_l_pick) rfl
  have b_l_pick : Binds K fd_l_pick ["_law_state_here", "_law_row"] [] := F_l_pick.bindsN fun _ _ _ _ _ _ us hl => match us, hl with | [_, _], _ => rfl
  have g_l_pick := He.glo_ok X G (c.fact 8 (f := .glo "_law_pick") rfl)
  obtain ⟨fd_l_message, F_l_message⟩ := c.def_ 12 (d := d_l_message) rfl
  have b_l_message : Binds K fd_l_message ["_law_state_here", "_law_channel", "_law_kind", "_law_m"] [] := F_l_message.bindsN fun _ _ _ _ _ _ us hl => match us, hl with | [_, _, _, _], _ => rfl
  have g_l_message := He.glo_ok X G (c.fact 9 (f := .glo "_law_message") rfl)
  obtain ⟨fd_l_due, F_l_due⟩ := c.def_ 13 (d := d_l_due) rfl
  have b_l_due : Binds K fd_l_due ["_law_kind", "_law_m", "_law_message_here", "_law_log", "_law_outputs"] [] := F_l_due.bindsN fun _ _ _ _ _ _ us hl => match us, hl with | [_, _, _, _, _], _ => rfl
  have g_l_due := He.glo_ok X G (c.fact 10 (f := .glo "_law_due") rfl)
  obtain ⟨fd_law, F_law⟩ := c.def_ 14 (d := d_law) rfl
  have g_Home := He.glo_ok X G (c.fact 12 (f := .glo "Home") rfl)
  have k_Home := He.cls_ok (c.fact 13 (f := .cls "Home") rfl)
  have m_Home := He.mkr_ok (c.fact 14 (f := .mkr "Home") rfl)
  have g_Homes := He.glo_ok X G (c.fact 15 (f := .glo "Homes") rfl)
  have k_Homes := He.cls_ok (c.fact 16 (f := .cls "Homes") rfl)
  have m_Homes := He.mkr_ok (c.fact 17 (f := .mkr "Homes") rfl)
  have e_Home_ready := He.meth_ok (c.fact 18 (f := .meth "Home" "ready") rfl)
  have e_Home_take := He.meth_ok (c.fact 19 (f := .meth "Home" "take") rfl)
  have e_Homes_offer := He.meth_ok (c.fact 20 (f := .meth "Homes" "offer") rfl)
  have e_Homes_ask := He.meth_ok (c.fact 21 (f := .meth "Homes" "ask") rfl)
  have e_Homes_accept := He.meth_ok (c.fact 22 (f := .meth "Homes" "accept") rfl)
  have e_Homes_cancel := He.meth_ok (c.fact 23 (f := .meth "Homes" "cancel") rfl)
  have e_Homes_handle := He.meth_ok (c.fact 24 (f := .meth "Homes" "handle") rfl)
  have e := hfa.symm.trans (He.glo_ok X G (c.fact 11 (f := .glo "law") rfl))
  cases e
  have b := FunD.bindsA (ps := ["_law_script"]) F_law fun _ _ _ _ _ _ us hl => match us, hl with | [_], _ => rfl
  have T := tx X G c
  refine ⟨fd_law, fun s v => b s [v] rfl, fun base _ _ => ?_⟩
  have C_Home_init : CalC P w K mg base "Home" (He.ga K "Home") (1) ["self", "kind", "inputs"] (sp_Home_init ⟨K, He.ga K "Home", He.ga K "Homes"⟩) := mkCalC g_Home m_Home b_Home_init (ok_Home_init T F_Home_init)
  have C_Home_ready : CalM P w K mg base (He.ga K "Home") "ready" (1) ["self"] (sp_Home_ready ⟨K, He.ga K "Home", He.ga K "Homes"⟩) := mkCalM k_Home e_Home_ready b_Home_ready (ok_Home_ready T F_Home_ready)
  have C_Home_take : CalM P w K mg base (He.ga K "Home") "take" (1) ["self"] (sp_Home_take ⟨K, He.ga K "Home", He.ga K "Homes"⟩) := mkCalM k_Home e_Home_take b_Home_take (ok_Home_take T F_Home_take)
  have C_Homes_init : CalC P w K mg base "Homes" (He.ga K "Homes") (1) ["self", "rows", "log"] (sp_Homes_init ⟨K, He.ga K "Home", He.ga K "Homes"⟩) := mkCalC g_Homes m_Homes b_Homes_init (ok_Homes_init T F_Homes_init)
  have C_Homes_offer : CalM P w K mg base (He.ga K "Homes") "offer" (2) ["self", "channel", "value", "giver"] (sp_Homes_offer ⟨K, He.ga K "Home", He.ga K "Homes"⟩) := mkCalM k_Homes e_Homes_offer b_Homes_offer (ok_Homes_offer T F_Homes_offer)
  have C_Homes_ask : CalM P w K mg base (He.ga K "Homes") "ask" (2) ["self", "channel", "asker"] (sp_Homes_ask ⟨K, He.ga K "Home", He.ga K "Homes"⟩) := mkCalM k_Homes e_Homes_ask b_Homes_ask (ok_Homes_ask T F_Homes_ask C_Home_ready)
  have C_Homes_accept : CalM P w K mg base (He.ga K "Homes") "accept" (2) ["self", "channel", "asker"] (sp_Homes_accept ⟨K, He.ga K "Home", He.ga K "Homes"⟩) := mkCalM k_Homes e_Homes_accept b_Homes_accept (ok_Homes_accept T F_Homes_accept C_Home_take)
  have C_Homes_cancel : CalM P w K mg base (He.ga K "Homes") "cancel" (2) ["self", "channel", "asker"] (sp_Homes_cancel ⟨K, He.ga K "Home", He.ga K "Homes"⟩) := mkCalM k_Homes e_Homes_cancel b_Homes_cancel (ok_Homes_cancel T F_Homes_cancel)
  have C_Homes_handle : CalM P w K mg base (He.ga K "Homes") "handle" (3) ["self", "message"] (sp_Homes_handle ⟨K, He.ga K "Home", He.ga K "Homes"⟩) := mkCalM k_Homes e_Homes_handle b_Homes_handle (ok_Homes_handle T F_Homes_handle C_Homes_offer C_Homes_ask C_Homes_accept C_Homes_cancel)
  have C_l_state : Cal P w K mg base "_law_state" (1) ["_law_script"] (spState K) := mkCal F_l_state g_l_state b_l_state (ok_l_state T F_l_state)
  have C_l_draw : Cal P w K mg base "_law_draw" (1) ["_law_state_here", "_law_many"] spDraw := mkCal F_l_draw g_l_draw b_l_draw (ok_l_draw T F_l_draw)
  have C_l_pick : Cal P w K mg base "_law_pick" (2) ["_law_state_here", "_law_row"] spPick := mkCal F_l_pick g_l_pick b_l_pick (ok_l_pick T F_l_pick C_l_draw)
  have C_l_message : Cal P w K mg base "_law_message" (3) ["_law_state_here", "_law_channel", "_law_kind", "_law_m"] sp_l_message := mkCal F_l_message g_l_message b_l_message (ok_l_message T F_l_message C_l_draw C_l_pick)
  have C_l_due : Cal P w K mg base "_law_due" (1) ["_law_kind", "_law_m", "_law_message_here", "_law_log", "_law_outputs"] (sp_l_due ⟨K, He.ga K "Home", He.ga K "Homes"⟩) := mkCal F_l_due g_l_due b_l_due (ok_l_due T F_l_due)
  exact (ok_law T F_law C_l_state C_l_draw C_l_pick C_Home_init C_Homes_init C_l_message C_l_due C_Homes_handle)
end K46
open PySem PySem.W PySem.Calls PyProof.Rows
theorem PySem.Challenge.cw_placedanyhow_k46_homes_of_channels_holds : PySem.Challenge.rw_placedanyhow_k46_homes_of_channels.Holds := by
  w_on; o_law
  refine HandSHeadRun.head_any (r := OpenLaw.row PySem.Challenge.rw_placedanyhow_k46_homes_of_channels) (q := view (OpenLaw.row PySem.Challenge.rw_placedanyhow_k46_homes_of_channels).prog [9]) (H := K46.hk) (ob := K46.ob) (M := 4000) (loose := K46.lo) (d := HandSHeadRun.topDef (OpenLaw.row PySem.Challenge.rw_placedanyhow_k46_homes_of_channels).prog 9) (kwd := []) K46.ob_eq
    (by kernel_rfl) (fun s => by kernel_rfl) K46.run (by kernel_rfl) (by kernel_rfl) (by kernel_rfl) (by rfl) (by first | assumption | decide +kernel) (by decide +kernel) ⟨rfl, rfl, rfl, rfl, rfl, by decide +kernel⟩ ?hw ?hc
  case hw => w_witness2
  case hc =>
    refine L2.walk_ofE (l := PySem.Challenge.rw_placedanyhow_k46_homes_of_channels) (n := 63) (k := 10) (x := "_law_script") (CX := L2.CX0) rfl (by decide) (by kernel_rfl) ⟨rfl, by decide, by decide⟩ ?F (fun _ _ _ _ z => z)
    intro w mg fa h Y G hmg0
    obtain ⟨K, KX, c⟩ := Y
    have hmg : mg ("law" : PySem.Str) = some (.ref fa) := by
      have e : (HandSHeadRun.topDef (OpenLaw.row PySem.Challenge.rw_placedanyhow_k46_homes_of_channels).prog 9).name = ("law" : PySem.Str) := by kernel_rfl
      rw [← e]
      exact hmg0
    obtain ⟨fd, hb, hF⟩ := K46.facts (P := (PySem.Challenge.rw_placedanyhow_k46_homes_of_channels).prog) (w := w) KX G hmg c
    exact ⟨K, fd, K46.sp_law ⟨K, He.ga K "Home", He.ga K "Homes"⟩, KX, hb, fun H a ns hl _ hS => ⟨a, ns, rfl, hS, hl, K46.cf c, fun _ => rfl⟩, hF⟩

