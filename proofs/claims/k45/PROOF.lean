import PyProof.Rows.All
import Wide.All
import OpenK.AllK
import Wide.FinOn
import HandS.ForMost
import HandS.IsInst
import HandS.Defaults
import HandS.More
import HandS.Head0
import HandS.Head1
import HandS.Head2
import HandS.HeadEnd
import HandS.HeadHook1
import HandS.HeadHook2
import HandS.HeadHook3
import HandS.HeadHook4
import HandS.Style
import HandS.TryOnly
import KE.KAssignIn
import PySem.Challenge.RW_placedanyhow_k45_steps_of_a_workspace
set_option Elab.async false
set_option linter.all false
set_option maxRecDepth 100000
set_option maxHeartbeats 4000000
/-! Lb: readings that compute, callables by name, data in the heap, the drawing of numbers. Knows no program. -/
namespace Lb
open PySem PySem.Spec PyProof.Rows L2

/-! ### weaker readings -/
section
variable {X : Cx} {e : Expr} {st : Stmt}
theorem pe_imp {t u : TE} (h : PE X e t) (k : ∀ σ H Q, u σ H Q → t σ H Q) : PE X e u := ⟨fun pins s σ H Q I hw => h.run pins s σ H Q I (k σ H Q hw)⟩
theorem pt_imp {t u : TT} (h : PT X e t) (k : ∀ σ H Q, u σ H Q → t σ H Q) : PT X e u := ⟨fun pins s σ H Q I hw => h.run pins s σ H Q I (k σ H Q hw)⟩
theorem ps_imp {t u : TS} (h : PS X st t) (k : ∀ D σ H, u D σ H → t D σ H) : PS X st u := ⟨fun pins s σ H D I hw => h.run pins s σ H D I (k D σ H hw)⟩
end

/-- a reading, made monotone -/
def upE (t : TE) : TE := fun σ H Q => ∃ R : VK, t σ H R ∧ ∀ x H', R x H' → Q x H'
def upT (t : TT) : TT := fun σ H Q => ∃ R : Bool → Hp → Prop, t σ H R ∧ ∀ x H', R x H' → Q x H'
theorem pe_up {X : Cx} {e : Expr} {t : TE} (h : PE X e t) : PE X e (upE t) := ⟨fun pins s σ H Q I ⟨R, h1, h2⟩ => thn (h.run pins s σ H R I h1) fun _ _ ⟨v, H', I', r, q⟩ => ⟨v, H', I', r, h2 v H' q⟩⟩
theorem pt_up {X : Cx} {e : Expr} {t : TT} (h : PT X e t) : PT X e (upT t) := ⟨fun pins s σ H Q I ⟨R, h1, h2⟩ => thn (h.run pins s σ H R I h1) fun _ _ ⟨H', I', q⟩ => ⟨H', I', h2 _ H' q⟩⟩

/-! ### callables: a def, a method, a class, each with its promise -/
structure Cal (P : Program) (w : World) (K : PySem.W.Frag) (mg : Str → Option Value) (base : Heap) (x : Str) (k : Nat) (ps : List Str) (sp : Sp) : Prop where
  ex : ∃ (f : Addr) (fd : FuncData), mg x = some (.ref f) ∧ PySem.W.keepIn K (.ref f) = true ∧ Binds K fd ps [] ∧ FnOk P w K mg base CX0 k f fd ps sp
structure CalM (P : Program) (w : World) (K : PySem.W.Frag) (mg : Str → Option Value) (base : Heap) (C : Addr) (m : Str) (k : Nat) (ps : List Str) (sp : Sp) : Prop where
  ex : ∃ (f : Addr) (fd : FuncData), Cls K C ∧ Meth K C m f ∧ Binds K fd ps [] ∧ FnOk P w K mg base CX0 k f fd ps sp
structure CalC (P : Program) (w : World) (K : PySem.W.Frag) (mg : Str → Option Value) (base : Heap) (x : Str) (C : Addr) (k : Nat) (ps : List Str) (sp : Sp) : Prop where
  ex : ∃ (f : Addr) (fd : FuncData), mg x = some (.ref C) ∧ Mk K C f ∧ Binds K fd ps [] ∧ FnOk P w K mg base CX0 k f fd ps sp
/-- a name of the module that holds a known value -/
structure GV (mg : Str → Option Value) (x : Str) (v : V) : Prop where
  ex : ∃ u, mg x = some u ∧ RelV v u
section
variable {X : Cx} {x m : Str} {C : Addr} {p pos apos : Pos} {o e : Expr} {es : List Expr} {ta : TE} {t : TA} {k : Nat} {ps : List Str} {sp : Sp} {v : V}
theorem pe_gv (c : GV X.mg x v) (hg : Gl X x) (hd : (x == ("__debug__" : Str)) = false := by decide) : PE X (.Name x pos) (tC v) := by
  obtain ⟨u, hm, r⟩ := c.ex
  exact pe_glob hg hm r hd
theorem pe_cal (c : Cal X.prog X.w X.K X.mg X.base x k ps sp) (hr : Room k X.A) (hg : Gl X x) (ha : PA X (e :: es) t) (hdb : (x == ("__debug__" : Str)) = false := by decide)
    (he : starEach (e :: es) X.env = (false, eval e X.env) :: starEach es X.env := by rfl) (hpl : (backTo pos (starEach es X.env)).any (·.1) = false := by rfl) : PE X (.Call (.Name x p) (e :: es) [] pos) (tCall sp [] E0 t) := by
  obtain ⟨f, fd, hm, hk, hb, F⟩ := c.ex
  exact pe_call F hr hg hm hk hb .nil pass0 ha hdb he hpl
theorem pe_cal0 (c : Cal X.prog X.w X.K X.mg X.base x k ps sp) (hr : Room k X.A) (hg : Gl X x) (hdb : (x == ("__debug__" : Str)) = false := by decide) : PE X (.Call (.Name x p) [] [] pos) (tCall sp [] E0 tNil) := by
  obtain ⟨f, fd, hm, hk, hb, F⟩ := c.ex
  exact pe_call0 F hr hg hm hk hb .nil pass0 hdb
theorem pe_calM {pl : Sem Bool} (he : PE X o ta) (c : CalM X.prog X.w X.K X.mg X.base C m k ps sp) (hr : Room k X.A) (ha : PA X (e :: es) t)
    (hst : starEach (e :: es) X.env = (false, eval e X.env) :: starEach es X.env := by rfl) (hpl : (backTo pos (starEach es X.env)).any (·.1) = false := by rfl)
    (ht : eval (.Call (.Attribute o m apos) (e :: es) [] pos) X.env = (do
      let ov ← eval o X.env
      standAt apos.atName
      let (f, first) ← holding [ov] (getMethod ov m pl)
      callWith pos f first (backTo pos (starEach (e :: es) X.env)) (backToKw pos (keywordEach [] X.env))) := by rfl) : PE X (.Call (.Attribute o m apos) (e :: es) [] pos) (tMeth C m sp [] E0 ta t) := by
  obtain ⟨f, fd, hc, hm, hb, F⟩ := c.ex
  exact pe_meth he hc hm F hr hb .nil pass0 ha hst hpl ht
theorem pe_calM0 {pl : Sem Bool} (he : PE X o ta) (c : CalM X.prog X.w X.K X.mg X.base C m k ps sp) (hr : Room k X.A)
    (ht : eval (.Call (.Attribute o m apos) [] [] pos) X.env = (do
      let ov ← eval o X.env
      standAt apos.atName
      let (f, first) ← holding [ov] (getMethod ov m pl)
      callWith pos f first (backTo pos (starEach [] X.env)) (backToKw pos (keywordEach [] X.env))) := by rfl) : PE X (.Call (.Attribute o m apos) [] [] pos) (tMeth C m sp [] E0 ta tNil) := by
  obtain ⟨f, fd, hc, hm, hb, F⟩ := c.ex
  exact pe_meth0 he hc hm F hr hb .nil pass0 ht
theorem pe_calC (c : CalC X.prog X.w X.K X.mg X.base x C k ps sp) (hr : Room (k + 1) X.A) (hg : Gl X x) (ha : PA X (e :: es) t) (hdb : (x == ("__debug__" : Str)) = false := by decide)
    (he : starEach (e :: es) X.env = (false, eval e X.env) :: starEach es X.env := by rfl) (hpl : (backTo pos (starEach es X.env)).any (·.1) = false := by rfl) : PE X (.Call (.Name x p) (e :: es) [] pos) (tMake C sp [] E0 t) := by
  obtain ⟨f, fd, hm, M, hb, F⟩ := c.ex
  exact pe_make M F hr hg hm hb .nil pass0 ha hdb he hpl
theorem pe_calC0 (c : CalC X.prog X.w X.K X.mg X.base x C k ps sp) (hr : Room (k + 1) X.A) (hg : Gl X x) (hdb : (x == ("__debug__" : Str)) = false := by decide) : PE X (.Call (.Name x p) [] [] pos) (tMake C sp [] E0 tNil) := by
  obtain ⟨f, fd, hm, M, hb, F⟩ := c.ex
  exact pe_make0 M F hr hg hm hb .nil pass0 hdb
end

/-! ### readings that compute -/
def rAddA : R2 := fun x y H Q => match x, y with
  | .int a, .int b => Q (.int (a + b)) H
  | .str a, .str b => a.length + b.length ≤ sizeLine ∧ Q (.str (a ++ b)) H
  | .ref p, .ref q => (match H p, H q with
    | some (.lst xs), some (.lst ys) => xs.length + ys.length ≤ sizeLine ∧ ∀ r, H r = none → Q (.ref r) (upd H r (.lst (xs ++ ys)))
    | _, _ => False)
  | _, _ => False
def rMulA : R2 := fun x y H Q => match x, y with
  | .int a, .int b => CMul a b ∧ Q (.int (a * b)) H
  | .ref p, .int k => (match H p with
    | some (.lst xs) => -(2 ^ 63) ≤ k ∧ k < 2 ^ 63 ∧ xs.length * k.toNat ≤ sizeLine ∧ ∀ r, H r = none → Q (.ref r) (upd H r (.lst (List.replicate k.toNat xs).flatten))
    | _ => False)
  | _, _ => False
def eqF : V → V → Option Bool
  | .int a, .int b => some (decide (a = b))
  | .str a, .str b => some (decide (a = b))
  | .bl a, .bl b => some (decide (a = b))
  | .non, .non => some true
  | .non, .int _ => some false
  | .int _, .non => some false
  | .non, .str _ => some false
  | .str _, .non => some false
  | .non, .bl _ => some false
  | .bl _, .non => some false
  | .int _, .str _ => some false
  | .str _, .int _ => some false
  | _, _ => none
def rEqA (K : PySem.W.Frag) : R2 := fun x y H Q => match eqF x y with
  | some b => Q (.bl b) H
  | none => rEqD K x y H Q
def rNeA (K : PySem.W.Frag) : R2 := fun x y H Q => match eqF x y with
  | some b => Q (.bl (!b)) H
  | none => rNeD K x y H Q
def rIsN : R2 := fun x y H Q => y = .non ∧ Q (.bl (decide (x = .non))) H
def rNotN : R2 := fun x y H Q => y = .non ∧ Q (.bl (!decide (x = .non))) H
/-- an item of a list, a tuple, a text -/
def rIxA : R2 := fun x y H Q => match x, y with
  | .ref p, .int i => (match H p with
    | some (.lst xs) => ∃ v, atI xs i = some v ∧ Q v H
    | some (.tup xs) => ∃ v, atI xs i = some v ∧ Q v H
    | _ => False)
  | .str z, .int i => z.length ≤ sizeLine ∧ ∃ c, atI z.cps.toList i = some c ∧ Q (.str ⟨#[c]⟩) H
  | _, _ => False
def rSlA : V → Option Int → Option Int → Hp → VK → Prop := fun x lo hi H Q => match x with
  | .ref p => (match H p with
    | some (.lst xs) => ∀ q, H q = none → Q (.ref q) (upd H q (.lst (cutV xs lo hi)))
    | some (.tup xs) => ¬ (HT.sIx xs.length 0 lo = 0 ∧ HT.sIx xs.length xs.length hi = xs.length) ∧ ∀ q, H q = none → Q (.ref q) (upd H q (.tup (cutV xs lo hi)))
    | _ => False)
  | _ => False
def rLenA : List V → Hp → VK → Prop := fun vs H Q => match vs with
  | [.str y] => y.length ≤ sizeLine ∧ Q (.int y.length) H
  | [.ref p] => (match H p with
    | some (.lst xs) => Q (.int xs.length) H
    | some (.tup xs) => Q (.int xs.length) H
    | some (.dK kvs) => Q (.int kvs.length) H
    | _ => False)
  | _ => False
def rIntA : List V → Hp → VK → Prop := fun vs H Q => match vs with
  | [.int i] => Q (.int i) H
  | [.bl k] => Q (.int (if k = true then 1 else 0)) H
  | _ => False
def rAbsA : List V → Hp → VK → Prop := fun vs H Q => match vs with
  | [.int i] => Q (.int (if i < 0 then -i else i)) H
  | _ => False
def rListA : List V → Hp → VK → Prop := fun vs H Q => match vs with
  | [.ref p] => (match H p with
    | some (.lst xs) => ∀ l, H l = none → Q (.ref l) (upd H l (.lst xs))
    | some (.tup xs) => ∀ l, H l = none → Q (.ref l) (upd H l (.lst xs))
    | _ => False)
  | _ => False
def rTupA : List V → Hp → VK → Prop := fun vs H Q => match vs with
  | [.ref p] => (match H p with
    | some (.lst xs) => ∀ l, H l = none → Q (.ref l) (upd H l (.tup xs))
    | some (.tup _) => Q (.ref p) H
    | _ => False)
  | _ => False
def tyN (x : V) (H : Hp) : Option String := match x with
  | .non => some "NoneType"
  | .bl _ => some "bool"
  | .int _ => some "int"
  | .str _ => some "str"
  | .ref p => (match H p with
    | some (.lst _) => some "list"
    | some (.tup _) => some "tuple"
    | some (.dK _) => some "dict"
    | some (.dT _) => some "dict"
    | _ => none)
  | _ => none
def rIsiA : List V → Hp → VK → Prop := fun vs H Q => match vs with
  | [x, .ty T] => (match tyN x H with
    | some t => ∃ b, kitB t T = some b ∧ Q (.bl b) H
    | none => False)
  | _ => False
def isL (x : V) (H : Hp) : Prop := match x with
  | .ref p => (match H p with
    | some (.lst _) => True
    | _ => False)
  | _ => False
/-- a method of a list -/
def tBML (r : V → List V → Hp → VK → Prop) (to : TE) (t : TA) : TE := fun σ H Q => to σ H fun x H1 => isL x H1 ∧ t σ H1 fun xs H2 => r x xs H2 Q
def rAppA : V → List V → Hp → VK → Prop := fun x vs H Q => match x, vs with
  | .ref l, [y] => (match H l with
    | some (.lst xs) => xs.length < sizeLine ∧ Q .non (upd H l (.lst (xs ++ [y])))
    | _ => False)
  | _, _ => False
def rExtA : V → List V → Hp → VK → Prop := fun x vs H Q => match x, vs with
  | .ref l, [.ref q] => (match H l, H q with
    | some (.lst xs), some (.lst ys) => xs.length + ys.length ≤ sizeLine ∧ Q .non (upd H l (.lst (xs ++ ys)))
    | _, _ => False)
  | _, _ => False
def rPopL : V → List V → Hp → VK → Prop := fun x vs H Q => match x, vs with
  | .ref l, [] => (match H l with
    | some (.lst xs) => ∃ y, xs[xs.length - 1]? = some y ∧ Q y (upd H l (.lst xs.dropLast))
    | _ => False)
  | _, _ => False
def rPopI : V → List V → Hp → VK → Prop := fun x vs H Q => match x, vs with
  | .ref l, [.int i] => (match H l with
    | some (.lst xs) => ∃ (k : Nat) (y : V), i = (k : Int) ∧ k < 2 ^ 62 ∧ xs[k]? = some y ∧ Q y (upd H l (.lst (xs.eraseIdx k)))
    | _ => False)
  | _, _ => False
def rSetA : TSet := fun o i v H Q => match o, i with
  | .ref p, .int k => (match H p with
    | some (.lst xs) => ∃ j, ixN xs.length k = some j ∧ Q (upd H p (.lst (xs.set j v)))
    | _ => False)
  | _, _ => False
section
variable {X : Cx}
theorem op_addA : OpR X (binaryOp .Add) rAddA := by
  intro pins s σ H x y v u Q I rx ry h
  unfold rAddA at h
  split at h
  · exact op_add pins s σ H _ _ v u Q I rx ry ⟨_, _, rfl, rfl, h⟩
  · exact op_add_str pins s σ H _ _ v u Q I rx ry ⟨_, _, rfl, rfl, h⟩
  · split at h
    · rename_i h1 h2
      exact op_cat pins s σ H _ _ v u Q I rx ry ⟨_, _, _, _, rfl, rfl, h1, h2, h⟩
    · exact h.elim
  · exact h.elim
theorem op_mulA : OpR X (binaryOp .Mult) rMulA := by
  intro pins s σ H x y v u Q I rx ry h
  unfold rMulA at h
  split at h
  · exact op_mul pins s σ H _ _ v u Q I rx ry ⟨_, _, rfl, rfl, h⟩
  · split at h
    · rename_i h1
      exact op_rep pins s σ H _ _ v u Q I rx ry ⟨_, _, _, rfl, rfl, h1, h⟩
    · exact h.elim
  · exact h.elim
theorem eqF_ok {x y : V} {b : Bool} (h : eqF x y = some b) : scal x y = true ∧ decide (x = y) = b := by
  cases x <;> cases y <;> simp only [eqF, Option.some.injEq, reduceCtorEq] at h <;> (subst h; refine ⟨rfl, ?_⟩; simp)
theorem op_eqA (hu : X.A.units + 64 < cLine) : OpR X (compareOp .Eq) (rEqA X.K) := by
  intro pins s σ H x y v u Q I rx ry h
  unfold rEqA at h
  split at h
  · rename_i b e
    obtain ⟨h1, h2⟩ := eqF_ok e
    exact op_eq pins s σ H x y v u Q I rx ry ⟨h1, by rw [h2]; exact h⟩
  · exact op_eqD hu pins s σ H x y v u Q I rx ry h
theorem op_neA (hu : X.A.units + 64 < cLine) : OpR X (compareOp .NotEq) (rNeA X.K) := by
  intro pins s σ H x y v u Q I rx ry h
  unfold rNeA at h
  split at h
  · rename_i b e
    obtain ⟨h1, h2⟩ := eqF_ok e
    exact op_ne pins s σ H x y v u Q I rx ry ⟨h1, by rw [h2]; exact h⟩
  · exact op_neD hu pins s σ H x y v u Q I rx ry h
theorem op_isNA : OpR X (compareOp .Is) rIsN := op_isN
theorem op_notNA : OpR X (compareOp .IsNot) rNotN := op_notN
theorem ix_A : IxR X rIxA := by
  intro value slice pins s σ H x y v u Q I rx ry h hs
  unfold rIxA at h
  split at h
  · split at h
    · rename_i h1
      obtain ⟨w, h2, h3⟩ := h
      exact ix_list value slice pins s σ H _ _ v u Q I rx ry ⟨_, _, _, _, rfl, rfl, SqL.of h1, h2, h3⟩ hs
    · rename_i h1
      obtain ⟨w, h2, h3⟩ := h
      exact ix_tup value slice pins s σ H _ _ v u Q I rx ry ⟨_, _, _, _, rfl, rfl, SqT.of h1, h2, h3⟩ hs
    · exact h.elim
  · obtain ⟨h1, c, h2, h3⟩ := h
    exact ix_str value slice pins s σ H _ _ v u Q I rx ry ⟨_, _, _, rfl, rfl, h1, h2, h3⟩ hs
  · exact h.elim
theorem sl_A : SlR X rSlA := by
  intro pins s σ H x v vl vu lo hi sl Q I rx hs pl pu h
  unfold rSlA at h
  split at h
  · split at h
    · rename_i h1
      exact sl_list pins s σ H _ v vl vu lo hi sl Q I rx hs pl pu ⟨_, _, rfl, SqL.of h1, h⟩
    · rename_i h1
      exact sl_tup pins s σ H _ v vl vu lo hi sl Q I rx hs pl pu ⟨_, _, rfl, SqT.of h1, h⟩
    · exact h.elim
  · exact h.elim
theorem call_lenA : CallR X (.builtin "len") rLenA := by
  intro pins s σ H vs us Q I r h
  unfold rLenA at h
  split at h
  · exact call_len_str pins s σ H _ us Q I r ⟨_, rfl, h⟩
  · split at h
    · rename_i h1
      exact call_len_seq pins s σ H _ us Q I r ⟨_, _, rfl, .inl (SqL.of h1), h⟩
    · rename_i h1
      exact call_len_seq pins s σ H _ us Q I r ⟨_, _, rfl, .inr (SqT.of h1), h⟩
    · rename_i h1
      exact call_lenD pins s σ H _ us Q I r ⟨_, _, rfl, h1, h⟩
    · exact h.elim
  · exact h.elim
theorem call_intA : CallR X (.type "int") rIntA := by
  intro pins s σ H vs us Q I r h
  unfold rIntA at h
  split at h
  · exact call_int1 pins s σ H _ us Q I r (.inl ⟨_, rfl, h⟩)
  · exact call_int1 pins s σ H _ us Q I r (.inr ⟨_, rfl, h⟩)
  · exact h.elim
theorem call_absA : CallR X (.builtin "abs") rAbsA := by
  intro pins s σ H vs us Q I r h
  unfold rAbsA at h
  split at h
  · exact call_abs pins s σ H _ us Q I r ⟨_, rfl, h⟩
  · exact h.elim
theorem call_listA : CallR X (.type "list") rListA := by
  intro pins s σ H vs us Q I r h
  unfold rListA at h
  split at h
  · split at h
    · rename_i h1
      exact call_list_of pins s σ H _ us Q I r ⟨_, _, rfl, .inl (SqL.of h1), h⟩
    · rename_i h1
      exact call_list_of pins s σ H _ us Q I r ⟨_, _, rfl, .inr (SqT.of h1), h⟩
    · exact h.elim
  · exact h.elim
theorem call_tupA : CallR X (.type "tuple") rTupA := by
  intro pins s σ H vs us Q I r h
  unfold rTupA at h
  split at h
  · split at h
    · rename_i h1
      exact call_tuple_of pins s σ H _ us Q I r ⟨_, _, rfl, .inl ⟨SqL.of h1, h⟩⟩
    · rename_i h1
      exact call_tuple_of pins s σ H _ us Q I r ⟨_, _, rfl, .inr ⟨SqT.of h1, h⟩⟩
    · exact h.elim
  · exact h.elim
theorem tyN_ok {K : PySem.W.Frag} {x : V} {H : Hp} {t : String} (h : tyN x H = some t) : TyX K H x (.type t) := by
  unfold tyN at h
  split at h
  · cases h; exact .base .non
  · cases h; exact .base (.bl _)
  · cases h; exact .base (.int _)
  · cases h; exact .base (.str _)
  · split at h
    · rename_i h1; cases h; exact .base (.lst h1)
    · rename_i h1; cases h; exact .base (.tup h1)
    · rename_i h1; cases h; exact .base (.dK h1)
    · rename_i h1; cases h; exact .base (.dT h1)
    · cases h
  · cases h
theorem call_isiA : CallR X (.builtin "isinstance") rIsiA := by
  intro pins s σ H vs us Q I r h
  unfold rIsiA at h
  split at h
  · split at h
    · rename_i h1
      obtain ⟨b, h2, h3⟩ := h
      exact call_isi pins s σ H _ us Q I r ⟨_, _, _, _, b, rfl, .ty _, tyN_ok h1, kit_ty h2, h3⟩
    · exact h.elim
  · exact h.elim
theorem isL_ty {K : PySem.W.Frag} {x : V} {H : Hp} (h : isL x H) : tyV K "list" x H := by
  unfold isL at h
  split at h
  · split at h
    · rename_i h1
      exact .inl ⟨rfl, _, SqL.of h1⟩
    · exact h.elim
  · exact h.elim
theorem mt_appA : MtR X "list.append" rAppA := by
  intro pins s σ H x vs v us Q I rx rv h
  unfold rAppA at h
  split at h
  · split at h
    · rename_i h1
      exact mt_append pins s σ H _ _ v us Q I rx rv ⟨_, _, _, rfl, rfl, h1, h⟩
    · exact h.elim
  · exact h.elim
theorem mt_extA : MtR X "list.extend" rExtA := by
  intro pins s σ H x vs v us Q I rx rv h
  unfold rExtA at h
  split at h
  · split at h
    · rename_i h1 h2
      exact mt_extend pins s σ H _ _ v us Q I rx rv ⟨_, _, _, _, rfl, rfl, h1, h2, h⟩
    · exact h.elim
  · exact h.elim
theorem mt_popL : MtR X "list.pop" rPopL := by
  intro pins s σ H x vs v us Q I rx rv h
  unfold rPopL at h
  split at h
  · split at h
    · rename_i h1
      obtain ⟨y, h2, h3⟩ := h
      exact mt_pop pins s σ H _ _ v us Q I rx rv ⟨_, _, _, rfl, rfl, h1, h2, h3⟩
    · exact h.elim
  · exact h.elim
theorem seqIx_nat {n k : Nat} (h : k < n) : seqIndex? (k : Int) n = some k := by
  obtain ⟨h1, _⟩ := ixN_seq (n := n) (i := (k : Int)) (j := k) (by unfold ixN; rw [if_pos (by omega), if_pos (by omega)]; simp)
  exact h1
theorem mt_popI : MtR X "list.pop" rPopI := by
  intro pins s σ H x vs v us Q I rx rv h
  unfold rPopI at h
  split at h
  · split at h
    · rename_i h1
      obtain ⟨k, y, h2, h3, h4, h5⟩ := h
      have hk := (List.getElem?_eq_some_iff.mp h4).1
      subst h2
      exact mt_popAt pins s σ H _ _ v us Q I rx rv ⟨_, _, _, k, y, rfl, rfl, h1, by omega, by omega, seqIx_nat hk, h4, h5⟩
    · exact h.elim
  · exact h.elim
theorem set_A : PSet X rSetA := by
  intro pins s σ H o i v ov iv u Q I ro ri rv h
  unfold rSetA at h
  split at h
  · split at h
    · rename_i h1
      obtain ⟨j, h2, h3⟩ := h
      exact set_list pins s σ H _ _ v ov iv u Q I ro ri rv ⟨_, _, _, _, rfl, rfl, h1, h2, h3⟩
    · exact h.elim
  · exact h.elim
variable {o e : Expr} {es : List Expr} {to : TE} {t : TA} {name : Str} {apos cpos : Pos} {id : String} {r : V → List V → Hp → VK → Prop}
theorem pe_bml0 (slot : Slot "list" name id) (hty : typeOf (.builtin id) = pure (.type "method_descriptor")) (hm : MtR X id r) (ho : PE X o to)
    (hbase : attributeBase o name X.env (eval o X.env) = eval o X.env := by rfl) (hline : (apos.endLine == cpos.line) = true := by rfl) : PE X (.Call (.Attribute o name apos) [] [] cpos) (tBML r to tNil) :=
  pe_imp (pe_bm0 PySem.F.plainAttrs_list slot hty hm (pe_up ho) hbase hline) fun σ H Q h => ⟨_, h, fun x H' q => ⟨isL_ty q.1, q.2⟩⟩
theorem pe_bml (slot : Slot "list" name id) (hty : typeOf (.builtin id) = pure (.type "method_descriptor")) (hm : MtR X id r) (ho : PE X o to) (ha : PA X (e :: es) t)
    (hbase : attributeBase o name X.env (eval o X.env) = eval o X.env := by rfl)
    (hfew : ((backTo cpos (starEach (e :: es) X.env)).all (fun x => !x.1) && (backToKw cpos (keywordEach [] X.env)).all (fun x => x.1.isSome)
      && decide ((e :: es).length + ([] : List Keyword).length + (if ([] : List Keyword).isEmpty then 0 else 1) < 30)) = true := by rfl)
    (hline : (apos.endLine == cpos.line) = true := by rfl) (hs : starEach (e :: es) X.env = (false, eval e X.env) :: starEach es X.env := by rfl) (hplain : (backTo cpos (starEach es X.env)).any (·.1) = false := by rfl) :
    PE X (.Call (.Attribute o name apos) (e :: es) [] cpos) (tBML r to t) :=
  pe_imp (pe_bm PySem.F.plainAttrs_list slot hty hm (pe_up ho) ha hbase hfew hline hs hplain) fun σ H Q h => ⟨_, h, fun x H' q => ⟨isL_ty q.1, q.2⟩⟩
end
end Lb
set_option Elab.async false
set_option linter.all false
set_option maxRecDepth 100000
set_option maxHeartbeats 4000000
/-! Lc: what simp steps by, data in the heap, mutable places, the drawing of numbers. Knows no program. -/
namespace Lb
open PySem PySem.Spec PyProof.Rows L2

/-! ### steps of the readings, each at its arguments -/
section
variable {σ : L2.St} {H : Hp} {Q : VK} {D : Ends}
theorem ap_seq {t u : TS} : tSeq t u D σ H = t { D with nx := u D } σ H := rfl
theorem ap_asg {te : TE} {g : TG} : tAsg te g D σ H = te σ H fun x H1 => g x σ H1 D.nx := rfl
theorem ap_gname {i : Nat} {v : V} {R : L2.St → Hp → Prop} : gName i v σ H R = R (σ.set i (some v)) H := rfl
theorem ap_var {i : Nat} : tVar i σ H Q = ∃ v, σ[i]? = some (some v) ∧ Q v H := rfl
theorem ap_c {v : V} : tC v σ H Q = Q v H := rfl
theorem ap_op {r : R2} {ta tb : TE} : tOp r ta tb σ H Q = ta σ H fun x H1 => tb σ H1 fun y H2 => r x y H2 Q := rfl
theorem ap_un {r : V → Hp → VK → Prop} {ta : TE} : tUn r ta σ H Q = ta σ H fun x H1 => r x H1 Q := rfl
theorem ap_rU {g : Int → V} {i : Int} : rU g (.int i) H Q = Q (g i) H := by
  apply propext
  constructor
  · rintro ⟨j, e, q⟩
    cases e
    exact q
  · intro q
    exact ⟨_, rfl, q⟩
theorem ap_rI0 {g : Int → Int → V} {i j : Int} : rI0 g (.int i) (.int j) H Q = Q (g i j) H := by
  apply propext
  constructor
  · rintro ⟨a, b, e1, e2, q⟩
    cases e1
    cases e2
    exact q
  · intro q
    exact ⟨_, _, rfl, rfl, q⟩
theorem ap_rI {C : Int → Int → Prop} {g : Int → Int → V} {i j : Int} : rI C g (.int i) (.int j) H Q = (C i j ∧ Q (g i j) H) := by
  apply propext
  constructor
  · rintro ⟨a, b, e1, e2, q⟩
    cases e1
    cases e2
    exact q
  · intro q
    exact ⟨_, _, rfl, rfl, q⟩
theorem ap_ifS {c : TT} {t u : TS} : tIfS c t u D σ H = c σ H fun b H1 => if b = true then t D σ H1 else u D σ H1 := rfl
theorem ap_test {t : TE} {R : Bool → Hp → Prop} : tTest t σ H R = t σ H fun x H' => ∃ k, x = .bl k ∧ R k H' := rfl
theorem ap_B {t : TE} {R : Bool → Hp → Prop} : tB t σ H R = t σ H fun x H' => ∃ k, x = .bl k ∧ R k H' := rfl
theorem ap_bl {b : Bool} {R : Bool → Hp → Prop} : (∃ k, V.bl b = .bl k ∧ R k H) = R b H := by
  apply propext
  constructor
  · rintro ⟨k, e, q⟩
    cases e
    exact q
  · intro q
    exact ⟨_, rfl, q⟩
theorem ap_ret {te : TE} : tRet te D σ H = te σ H D.rt := rfl
theorem ap_retN : tRetN D σ H = D.rt .non H := rfl
theorem ap_drop {te : TE} : tDrop te D σ H = te σ H fun _ H1 => D.nx σ H1 := rfl
theorem ap_next : tNext D σ H = D.nx σ H := rfl
theorem ap_brk : tBreak D σ H = D.bk σ H := rfl
theorem ap_cnt : tCont D σ H = D.ct σ H := rfl
theorem ap_and {t u : TT} {R : Bool → Hp → Prop} : tAnd t u σ H R = t σ H fun c H1 => if c = true then u σ H1 R else R false H1 := rfl
theorem ap_or {t u : TT} {R : Bool → Hp → Prop} : tOr t u σ H R = t σ H fun c H1 => if c = true then R true H1 else u σ H1 R := rfl
theorem ap_not {t : TT} {R : Bool → Hp → Prop} : tNot t σ H R = t σ H fun c H1 => R (!c) H1 := rfl
theorem ap_andV {ta tb : TE} : tAndV ta tb σ H Q = ta σ H fun x H1 => ∃ c, x = .bl c ∧ if c = true then tb σ H1 Q else Q (.bl false) H1 := rfl
theorem ap_orV {ta tb : TE} : tOrV ta tb σ H Q = ta σ H fun x H1 => ∃ c, x = .bl c ∧ if c = true then Q (.bl true) H1 else tb σ H1 Q := rfl
theorem ap_notV {ta : TE} : tNotV ta σ H Q = ta σ H fun x H1 => ∃ c, x = .bl c ∧ Q (.bl (!c)) H1 := rfl
theorem ap_if {t : TT} {ta tb : TE} : tIf t ta tb σ H Q = t σ H fun c H1 => if c = true then ta σ H1 Q else tb σ H1 Q := rfl
theorem ap_call {sp : Sp} {dvs : List V} {E : XK} {t : TA} : tCall sp dvs E t σ H Q = t σ H fun vs H1 => sp (vs ++ dvs) H1 Q E := rfl
theorem ap_cb {r : List V → Hp → VK → Prop} {t : TA} : tCB r t σ H Q = t σ H fun vs H1 => r vs H1 Q := rfl
theorem ap_cons {ta : TE} {tr : TA} {R : List V → Hp → Prop} : tCons ta tr σ H R = ta σ H fun x H1 => tr σ H1 fun xs H2 => R (x :: xs) H2 := rfl
theorem ap_nil {R : List V → Hp → Prop} : tNil σ H R = R [] H := rfl
theorem ap_tup {t : TA} : tTup t σ H Q = t σ H fun xs H1 => xs.length ≤ sizeLine ∧ ∀ p, H1 p = none → Q (.ref p) (upd H1 p (.tup xs)) := rfl
theorem ap_lst {t : TA} : tLst t σ H Q = t σ H fun xs H1 => xs.length ≤ sizeLine ∧ ∀ p, H1 p = none → Q (.ref p) (upd H1 p (.lst xs)) := rfl
theorem ap_bml {r : V → List V → Hp → VK → Prop} {to : TE} {t : TA} : tBML r to t σ H Q = to σ H fun x H1 => isL x H1 ∧ t σ H1 fun xs H2 => r x xs H2 Q := rfl
theorem ap_gsub {to ti : TE} {t : TSet} {v : V} {R : L2.St → Hp → Prop} : gSub to ti t v σ H R = to σ H fun o H1 => ti σ H1 fun i H2 => t o i v H2 fun H3 => R σ H3 := rfl
theorem ap_sl {r : V → Option Int → Option Int → Hp → VK → Prop} {te : TE} {tl th : TO} : tSl r te tl th σ H Q = te σ H fun x H1 => tl σ H1 fun l H2 => th σ H2 fun u H3 => r x l u H3 Q := rfl
theorem ap_nop {R : Option Int → Hp → Prop} : tNoPart σ H R = R none H := rfl
theorem ap_part {t : TE} {R : Option Int → Hp → Prop} : tPart t σ H R = t σ H fun x H1 => ∃ i, x = .int i ∧ R (some i) H1 := rfl
theorem ap_prt {i : Int} {R : Option Int → Hp → Prop} : (∃ j, V.int i = .int j ∧ R (some j) H) = R (some i) H := by
  apply propext
  constructor
  · rintro ⟨k, e, q⟩
    cases e
    exact q
  · intro q
    exact ⟨_, rfl, q⟩
theorem ap_isN {x : V} : rIsN x .non H Q = Q (.bl (decide (x = .non))) H := by
  apply propext
  constructor
  · rintro ⟨_, q⟩
    exact q
  · intro q
    exact ⟨rfl, q⟩
theorem ap_notN {x : V} : rNotN x .non H Q = Q (.bl (!decide (x = .non))) H := by
  apply propext
  constructor
  · rintro ⟨_, q⟩
    exact q
  · intro q
    exact ⟨rfl, q⟩
theorem ap_yes {R : Bool → Hp → Prop} : tYes σ H R = R true H := rfl
theorem ap_rng1 {ta : TA} {R : It → Hp → Prop} : iRng1 ta σ H R = ta σ H fun vs H1 => ∃ j : Int, vs = [.int j] ∧ -(2 ^ 62) ≤ j ∧ j < 2 ^ 62 ∧ R (Itr 0 j.toNat) H1 := rfl
theorem ap_rng1' {j : Int} {R : It → Hp → Prop} : (∃ i : Int, [V.int j] = [.int i] ∧ -(2 ^ 62) ≤ i ∧ i < 2 ^ 62 ∧ R (Itr 0 i.toNat) H) = (-(2 ^ 62) ≤ j ∧ j < 2 ^ 62 ∧ R (Itr 0 j.toNat) H) := by
  apply propext
  constructor
  · rintro ⟨k, e, q⟩
    cases e
    exact q
  · intro q
    exact ⟨_, rfl, q⟩
theorem ite_tt {A B : Prop} : (if true = true then A else B) = A := if_pos rfl
theorem ite_ff {A B : Prop} : (if false = true then A else B) = B := if_neg Bool.false_ne_true
end

/-! ### heaps that grow -/
theorem Same.newp {H : Hp} {p : Addr} {o : HO} (h : H p = none) : Same H (upd H p o) := fun b u e => by
  rw [upd_ne (ne_of_none e h)]
  exact e
/-- the heap without the places of S -/
def hid (S : List Addr) (H : Hp) : Hp := fun b => if b ∈ S then none else H b
theorem hid_out {S : List Addr} {H : Hp} {b : Addr} (h : b ∉ S) : hid S H b = H b := if_neg h
theorem hid_in {S : List Addr} {H : Hp} {b : Addr} (h : b ∈ S) : hid S H b = none := if_pos h
theorem hid_sub {S : List Addr} {H : Hp} : Same (hid S H) H := fun b o e => by
  by_cases h : b ∈ S
  · rw [hid_in h] at e
    cases e
  · rw [hid_out h] at e
    exact e
theorem hid_some {S : List Addr} {H : Hp} {b : Addr} {o : HO} (h : hid S H b = some o) : H b = some o ∧ b ∉ S := by
  by_cases q : b ∈ S
  · rw [hid_in q] at h
    cases h
  · rw [hid_out q] at h
    exact ⟨h, q⟩
theorem hid_upd {S : List Addr} {H : Hp} {a : Addr} {o : HO} (h : a ∈ S) : hid S (upd H a o) = hid S H := by
  funext b
  by_cases q : b ∈ S
  · rw [hid_in q, hid_in q]
  · rw [hid_out q, hid_out q, upd_ne fun e => q (by rw [e]; exact h)]
theorem hid_updN {S : List Addr} {H : Hp} {a : Addr} {o : HO} (h : a ∉ S) : hid S (upd H a o) = upd (hid S H) a o := by
  funext b
  by_cases q : b ∈ S
  · rw [hid_in q, upd_ne (fun e => h (by rw [← e]; exact q)), hid_in q]
  · rw [hid_out q]
    by_cases e : b = a
    · rw [e, upd_same, upd_same]
    · rw [upd_ne e, upd_ne e, hid_out q]
theorem hid_eq {S : List Addr} {H H' : Hp} (h : ∀ b, b ∉ S → H' b = H b) : hid S H' = hid S H := by
  funext b
  by_cases q : b ∈ S
  · rw [hid_in q, hid_in q]
  · rw [hid_out q, hid_out q, h b q]
theorem hid_mono {S S' : List Addr} {H : Hp} (h : ∀ b, b ∈ S → b ∈ S') : Same (hid S' H) (hid S H) := fun b o e => by
  obtain ⟨e1, e2⟩ := hid_some e
  rw [hid_out fun q => e2 (h b q)]
  exact e1
theorem Same.hid {S : List Addr} {H H' : Hp} (h : Same H H') : Same (hid S H) (hid S H') := fun b o e => by
  obtain ⟨e1, e2⟩ := hid_some e
  rw [hid_out e2]
  exact h b o e1

/-! ### data -/
mutual
inductive Dt (H : Hp) : V → PyData → Prop
  | non : Dt H .non .none
  | bl (b : Bool) : Dt H (.bl b) (.bool b)
  | int (i : Int) : Dt H (.int i) (.int i)
  | str (x : Str) : Dt H (.str x) (.str x)
  | lst {a : Addr} {xs : List V} {ds : List PyData} : H a = some (.lst xs) → DtAll H xs ds → Dt H (.ref a) (.list ds)
  | tup {a : Addr} {xs : List V} {ds : List PyData} : H a = some (.tup xs) → DtAll H xs ds → Dt H (.ref a) (.tuple ds)
inductive DtAll (H : Hp) : List V → List PyData → Prop
  | nil : DtAll H [] []
  | cons {v : V} {vs : List V} {d : PyData} {ds : List PyData} : Dt H v d → DtAll H vs ds → DtAll H (v :: vs) (d :: ds)
end
mutual
theorem Dt.mono {H H' : Hp} (e : Same H H') : ∀ {v : V} {d : PyData}, Dt H v d → Dt H' v d
  | _, _, .non => .non
  | _, _, .bl b => .bl b
  | _, _, .int i => .int i
  | _, _, .str x => .str x
  | _, _, .lst h k => .lst (e _ _ h) (DtAll.mono e k)
  | _, _, .tup h k => .tup (e _ _ h) (DtAll.mono e k)
theorem DtAll.mono {H H' : Hp} (e : Same H H') : ∀ {vs : List V} {ds : List PyData}, DtAll H vs ds → DtAll H' vs ds
  | _, _, .nil => .nil
  | _, _, .cons h k => .cons (Dt.mono e h) (DtAll.mono e k)
end
mutual
theorem Dt.dp {K : PySem.W.Frag} {H : Hp} : ∀ {v : V} {d : PyData}, Dt H v d → Dp K H v d
  | _, _, .non => .non
  | _, _, .bl b => .bl b
  | _, _, .int i => .int i
  | _, _, .str x => .str x
  | _, _, .lst h k => .lst (SqL.of h) (DtAll.dp k)
  | _, _, .tup h k => .tup (SqT.of h) (DtAll.dp k)
theorem DtAll.dp {K : PySem.W.Frag} {H : Hp} : ∀ {vs : List V} {ds : List PyData}, DtAll H vs ds → DpAll K H vs ds
  | _, _, .nil => .nil
  | _, _, .cons h k => .cons (Dt.dp h) (DtAll.dp k)
end
section
variable {H : Hp}
theorem DtAll.append : ∀ {xs ys : List V} {ds es : List PyData}, DtAll H xs ds → DtAll H ys es → DtAll H (xs ++ ys) (ds ++ es)
  | _, _, _, _, .nil, k => k
  | _, _, _, _, .cons a b, k => .cons a (DtAll.append b k)
theorem DtAll.length : ∀ {xs : List V} {ds : List PyData}, DtAll H xs ds → xs.length = ds.length
  | _, _, .nil => rfl
  | _, _, .cons _ k => by rw [List.length_cons, List.length_cons, DtAll.length k]
theorem DtAll.get : ∀ {xs : List V} {ds : List PyData} {i : Nat} {d : PyData}, DtAll H xs ds → ds[i]? = some d → ∃ v, xs[i]? = some v ∧ Dt H v d
  | _, _, _, _, .nil, e => by simp at e
  | _, _, 0, _, .cons a _, e => by simp at e; subst e; exact ⟨_, rfl, a⟩
  | _, _, i + 1, d, .cons _ k, e => by
    obtain ⟨v, h1, h2⟩ := DtAll.get (i := i) (d := d) k (by simpa using e)
    exact ⟨v, by simpa using h1, h2⟩
theorem DtAll.get' : ∀ {xs : List V} {ds : List PyData} {i : Nat} {v : V}, DtAll H xs ds → xs[i]? = some v → ∃ d, ds[i]? = some d ∧ Dt H v d
  | _, _, _, _, .nil, e => by simp at e
  | _, _, 0, _, .cons a _, e => by simp at e; subst e; exact ⟨_, rfl, a⟩
  | _, _, i + 1, v, .cons _ k, e => by
    obtain ⟨d, h1, h2⟩ := DtAll.get' (i := i) (v := v) k (by simpa using e)
    exact ⟨d, by simpa using h1, h2⟩
theorem DtAll.ints : ∀ ns : List Int, DtAll H (ns.map V.int) (ns.map PyData.int)
  | [] => .nil
  | n :: r => .cons (.int n) (DtAll.ints r)
theorem DtAll.intsI : ∀ {ns : List Int} {vs : List V}, DtAll H vs (ns.map PyData.int) → vs = ns.map V.int
  | [], _, .nil => rfl
  | n :: r, _, .cons (.int _) k => by rw [DtAll.intsI k]; rfl
theorem DtAll.take : ∀ {xs : List V} {ds : List PyData} (n : Nat), DtAll H xs ds → DtAll H (xs.take n) (ds.take n)
  | _, _, 0, _ => .nil
  | _, _, _ + 1, .nil => .nil
  | _, _, n + 1, .cons a k => .cons a (DtAll.take n k)
theorem DtAll.drop : ∀ {xs : List V} {ds : List PyData} (n : Nat), DtAll H xs ds → DtAll H (xs.drop n) (ds.drop n)
  | _, _, 0, k => k
  | _, _, _ + 1, .nil => .nil
  | _, _, n + 1, .cons _ k => DtAll.drop n k
theorem DtAll.set : ∀ {xs : List V} {ds : List PyData} {v : V} {d : PyData} (i : Nat), Dt H v d → DtAll H xs ds → DtAll H (xs.set i v) (ds.set i d)
  | _, _, _, _, _, _, .nil => .nil
  | _, _, _, _, 0, h, .cons _ k => .cons h k
  | _, _, _, _, i + 1, h, .cons a k => .cons a (DtAll.set i h k)
theorem DtAll.erase : ∀ {xs : List V} {ds : List PyData} (i : Nat), DtAll H xs ds → DtAll H (xs.eraseIdx i) (ds.eraseIdx i)
  | _, _, _, .nil => .nil
  | _, _, 0, .cons _ k => k
  | _, _, i + 1, .cons a k => .cons a (DtAll.erase i k)
theorem DtAll.rev {xs : List V} {ds : List PyData} (h : DtAll H xs ds) : DtAll H xs.reverse ds.reverse := by
  induction xs generalizing ds with
  | nil => cases h; exact .nil
  | cons x r ih =>
    cases h with
    | cons a k =>
      rw [List.reverse_cons, List.reverse_cons]
      exact DtAll.append (ih k) (.cons a .nil)
end
/-- data that are equal as Python says, where it can be looked at -/
abbrev Shp (d : PyData) : Prop := SeqAt.shaped d = true
theorem eqv_self {d : PyData} (h : Shp d) : PyData.eqv d d = true := SeqAt.eqv_refl d (SeqAt.canLay_of_shaped h)
section
variable {K : PySem.W.Frag} {H : Hp} {Q : VK} {x y : V} {d e : PyData}
/-- a == b of two data -/
theorem rd_eq (hx : Dt H x d) (hy : Dt H y e) (h1 : Shp d) (h2 : Shp e) (q : Q (.bl (PyData.eqv d e)) H) : rEqA K x y H Q := by
  unfold rEqA
  split
  · rename_i b h
    obtain ⟨h3, h4⟩ := eqF_ok h
    have e1 : PyData.eqv d e = b := by
      cases hx <;> cases hy <;> simp_all [eqF, PyData.eqv] <;> (rw [← h]; exact Bool.eq_iff_iff.mpr (by simp))
    rw [← e1]
    exact q
  · exact ⟨d, e, hx.dp, hy.dp, h1, h2, q⟩
theorem rd_ne (hx : Dt H x d) (hy : Dt H y e) (h1 : Shp d) (h2 : Shp e) (q : Q (.bl (!PyData.eqv d e)) H) : rNeA K x y H Q := by
  unfold rNeA
  split
  · rename_i b h
    obtain ⟨h3, h4⟩ := eqF_ok h
    have e1 : PyData.eqv d e = b := by
      cases hx <;> cases hy <;> simp_all [eqF, PyData.eqv] <;> (rw [← h]; exact Bool.eq_iff_iff.mpr (by simp))
    rw [← e1]
    exact q
  · exact ⟨d, e, hx.dp, hy.dp, h1, h2, q⟩
/-- the same data on both sides -/
theorem rd_eqT (hx : Dt H x d) (hy : Dt H y d) (h1 : Shp d) (q : Q (.bl true) H) : rEqA K x y H Q := rd_eq hx hy h1 h1 (by rw [eqv_self h1]; exact q)
theorem rd_neF (hx : Dt H x d) (hy : Dt H y d) (h1 : Shp d) (q : Q (.bl false) H) : rNeA K x y H Q := rd_ne hx hy h1 h1 (by rw [eqv_self h1]; exact q)
end
end Lb
set_option Elab.async false
set_option linter.all false
set_option maxRecDepth 100000
set_option maxHeartbeats 4000000
/-! Ld: the steps of a reading, one lemma a step; the drawing of numbers. Knows no program. -/
namespace Lb
open PySem PySem.Spec PyProof.Rows L2
section
variable {σ : L2.St} {H : Hp} {Q : VK} {nx : L2.St → Hp → Prop} {rt : VK} {bk ct : L2.St → Hp → Prop}
/-- a value as a test -/
def tTru (K : PySem.W.Frag) (ta : TE) : TT := fun σ H Q => ta σ H fun x H' => ∃ k, TruV K x H' k ∧ Q k H'
theorem i_seq {t u : TS} (q : t ⟨fun σ H => u ⟨nx, rt, bk, ct⟩ σ H, rt, bk, ct⟩ σ H) : tSeq t u ⟨nx, rt, bk, ct⟩ σ H := q
theorem i_asg {te : TE} {g : TG} (q : te σ H fun x H1 => g x σ H1 nx) : tAsg te g ⟨nx, rt, bk, ct⟩ σ H := q
theorem i_gname {i : Nat} {v : V} {R : L2.St → Hp → Prop} (q : R (σ.set i (some v)) H) : gName i v σ H R := q
theorem i_ifS {c : TT} {t u : TS} (q : c σ H fun b H1 => if b = true then t ⟨nx, rt, bk, ct⟩ σ H1 else u ⟨nx, rt, bk, ct⟩ σ H1) : tIfS c t u ⟨nx, rt, bk, ct⟩ σ H := q
theorem i_ret {te : TE} (q : te σ H rt) : tRet te ⟨nx, rt, bk, ct⟩ σ H := q
theorem i_retN (q : rt .non H) : tRetN ⟨nx, rt, bk, ct⟩ σ H := q
theorem i_drop {te : TE} (q : te σ H fun _ H1 => nx σ H1) : tDrop te ⟨nx, rt, bk, ct⟩ σ H := q
theorem i_next (q : nx σ H) : tNext ⟨nx, rt, bk, ct⟩ σ H := q
theorem i_brk (q : bk σ H) : tBreak ⟨nx, rt, bk, ct⟩ σ H := q
theorem i_cnt (q : ct σ H) : tCont ⟨nx, rt, bk, ct⟩ σ H := q
theorem i_par {i j : Nat} {ta : TA} (q : ta σ H fun vs H1 => ∃ v w, vs = [v, w] ∧ nx ((σ.set i (some v)).set j (some w)) H1) : tPar i j ta ⟨nx, rt, bk, ct⟩ σ H := q
theorem i_par2 {v w : V} {P : V → V → Prop} (q : P v w) : (∃ v' w', [v, w] = [v', w'] ∧ P v' w') := ⟨_, _, rfl, q⟩
theorem i_fldS {K : PySem.W.Frag} {ta tv : TE} {f : Str} (q : tv σ H fun y H1 => ta σ H1 fun x H2 => ∃ a C dx fs, x = .ref a ∧ H2 a = some (.ins C dx fs) ∧ Cls K C ∧ NoAttr K C f ∧ fs.length < 1000 ∧ nx σ (upd H2 a (.ins C dx (putF f y fs)))) : sFld K ta tv f ⟨nx, rt, bk, ct⟩ σ H := q
theorem i_dput {td ty tv : TE} (q : tv σ H fun v H1 => td σ H1 fun x H2 => ty σ H2 fun y H3 => ∃ a H4, x = .ref a ∧ DPut H3 a y v H4 ∧ nx σ H4) : sDPut td ty tv ⟨nx, rt, bk, ct⟩ σ H := q
theorem i_var {i : Nat} {v : V} (h : σ[i]? = some (some v)) (q : Q v H) : tVar i σ H Q := ⟨v, h, q⟩
theorem i_tB {b : Bool} {A B : Prop} (h : b = true) (q : A) : (if b = true then A else B) := by rw [if_pos h]; exact q
theorem i_fB {b : Bool} {A B : Prop} (h : b = false) (q : B) : (if b = true then A else B) := by rw [h, if_neg Bool.false_ne_true]; exact q
theorem i_c {v : V} (q : Q v H) : tC v σ H Q := q
theorem i_op {r : R2} {ta tb : TE} (q : ta σ H fun x H1 => tb σ H1 fun y H2 => r x y H2 Q) : tOp r ta tb σ H Q := q
theorem i_un {r : V → Hp → VK → Prop} {ta : TE} (q : ta σ H fun x H1 => r x H1 Q) : tUn r ta σ H Q := q
theorem i_rU {g : Int → V} {i : Int} (q : Q (g i) H) : rU g (.int i) H Q := ⟨i, rfl, q⟩
theorem i_rI0 {g : Int → Int → V} {i j : Int} (q : Q (g i j) H) : rI0 g (.int i) (.int j) H Q := ⟨i, j, rfl, rfl, q⟩
theorem i_rI {C : Int → Int → Prop} {g : Int → Int → V} {i j : Int} (c : C i j) (q : Q (g i j) H) : rI C g (.int i) (.int j) H Q := ⟨i, j, rfl, rfl, c, q⟩
theorem i_test {t : TE} {R : Bool → Hp → Prop} (q : t σ H fun x H' => ∃ k, x = .bl k ∧ R k H') : tTest t σ H R := q
theorem i_B {t : TE} {R : Bool → Hp → Prop} (q : t σ H fun x H' => ∃ k, x = .bl k ∧ R k H') : tB t σ H R := q
theorem i_bl {b : Bool} {R : Bool → Prop} (q : R b) : (∃ k, V.bl b = .bl k ∧ R k) := ⟨b, rfl, q⟩
theorem i_tru {K : PySem.W.Frag} {te : TE} {R : Bool → Hp → Prop} (q : te σ H fun x H' => ∃ k, TruV K x H' k ∧ R k H') : tTru K te σ H R := q
theorem i_truB {K : PySem.W.Frag} {b : Bool} {R : Bool → Prop} (q : R b) : (∃ k, TruV K (.bl b) H k ∧ R k) := ⟨b, rfl, q⟩
theorem i_and {t u : TT} {R : Bool → Hp → Prop} (q : t σ H fun c H1 => if c = true then u σ H1 R else R false H1) : tAnd t u σ H R := q
theorem i_or {t u : TT} {R : Bool → Hp → Prop} (q : t σ H fun c H1 => if c = true then R true H1 else u σ H1 R) : tOr t u σ H R := q
theorem i_not {t : TT} {R : Bool → Hp → Prop} (q : t σ H fun c H1 => R (!c) H1) : tNot t σ H R := q
theorem i_andV {ta tb : TE} (q : ta σ H fun x H1 => ∃ c, x = .bl c ∧ if c = true then tb σ H1 Q else Q (.bl false) H1) : tAndV ta tb σ H Q := q
theorem i_orV {ta tb : TE} (q : ta σ H fun x H1 => ∃ c, x = .bl c ∧ if c = true then Q (.bl true) H1 else tb σ H1 Q) : tOrV ta tb σ H Q := q
theorem i_notV {ta : TE} (q : ta σ H fun x H1 => ∃ c, x = .bl c ∧ Q (.bl (!c)) H1) : tNotV ta σ H Q := q
theorem i_if {t : TT} {ta tb : TE} (q : t σ H fun c H1 => if c = true then ta σ H1 Q else tb σ H1 Q) : tIf t ta tb σ H Q := q
theorem i_call {sp : Sp} {E : XK} {t : TA} (q : t σ H fun vs H1 => sp (vs ++ []) H1 Q E) : tCall sp [] E t σ H Q := q
theorem i_meth {C : Addr} {m : Str} {sp : Sp} {E : XK} {ta : TE} {t : TA} (q : ta σ H fun x H1 => ∃ a dx fs, x = .ref a ∧ H1 a = some (.ins C dx fs) ∧ fs.lookup m = none ∧ t σ H1 fun vs H2 => sp (x :: (vs ++ [])) H2 Q E) : tMeth C m sp [] E ta t σ H Q := q
theorem i_make {C : Addr} {sp : Sp} {E : XK} {t : TA} (q : t σ H fun vs H1 => ∀ x dx, H1 x = none → H1 dx = none → dx ≠ x → sp (.ref x :: (vs ++ [])) (upd (upd H1 dx (.own x)) x (.ins C dx [])) (fun v H2 => v = .non ∧ Q (.ref x) H2) E) : tMake C sp [] E t σ H Q := q
theorem i_cb {r : List V → Hp → VK → Prop} {t : TA} (q : t σ H fun vs H1 => r vs H1 Q) : tCB r t σ H Q := q
theorem i_cons {ta : TE} {tr : TA} {R : List V → Hp → Prop} (q : ta σ H fun x H1 => tr σ H1 fun xs H2 => R (x :: xs) H2) : tCons ta tr σ H R := q
theorem i_nil {R : List V → Hp → Prop} (q : R [] H) : tNil σ H R := q
theorem i_tup {t : TA} (q : t σ H fun xs H1 => xs.length ≤ sizeLine ∧ ∀ p, H1 p = none → Q (.ref p) (upd H1 p (.tup xs))) : tTup t σ H Q := q
theorem i_lst {t : TA} (q : t σ H fun xs H1 => xs.length ≤ sizeLine ∧ ∀ p, H1 p = none → Q (.ref p) (upd H1 p (.lst xs))) : tLst t σ H Q := q
theorem i_bml {r : V → List V → Hp → VK → Prop} {to : TE} {t : TA} (q : to σ H fun x H1 => isL x H1 ∧ t σ H1 fun xs H2 => r x xs H2 Q) : tBML r to t σ H Q := q
theorem i_isL {l : Addr} {xs : List V} {R : Prop} (h : H l = some (.lst xs)) (q : R) : isL (.ref l) H ∧ R := ⟨by simp only [isL, h], q⟩
theorem i_gsub {to ti : TE} {t : TSet} {v : V} {R : L2.St → Hp → Prop} (q : to σ H fun o H1 => ti σ H1 fun i H2 => t o i v H2 fun H3 => R σ H3) : gSub to ti t v σ H R := q
theorem i_gtup {K : PySem.W.Frag} {n : Nat} {t : TGs} {a : Addr} {xs : List V} {R : L2.St → Hp → Prop} (h : H a = some (.tup xs)) (hn : xs.length = n) (q : t xs σ H R) : gTup K n t (.ref a) σ H R := ⟨a, xs, rfl, SqT.of h, hn, q⟩
theorem i_gcons {t : TG} {u : TGs} {v : V} {vs : List V} {R : L2.St → Hp → Prop} (q : t v σ H fun σ' H' => u vs σ' H' R) : gCons t u (v :: vs) σ H R := ⟨v, vs, rfl, q⟩
theorem i_gnil {R : L2.St → Hp → Prop} (q : R σ H) : gNil [] σ H R := ⟨rfl, q⟩
theorem i_sl {r : V → Option Int → Option Int → Hp → VK → Prop} {te : TE} {tl th : TO} (q : te σ H fun x H1 => tl σ H1 fun l H2 => th σ H2 fun u H3 => r x l u H3 Q) : tSl r te tl th σ H Q := q
theorem i_nop {R : Option Int → Hp → Prop} (q : R none H) : tNoPart σ H R := q
theorem i_part {t : TE} {R : Option Int → Hp → Prop} (q : t σ H fun x H1 => ∃ i, x = .int i ∧ R (some i) H1) : tPart t σ H R := q
theorem i_prt {i : Int} {R : Int → Prop} (q : R i) : (∃ j, V.int i = .int j ∧ R j) := ⟨i, rfl, q⟩
theorem i_isN {x : V} (q : Q (.bl (decide (x = .non))) H) : rIsN x .non H Q := ⟨rfl, q⟩
theorem i_notN {x : V} (q : Q (.bl (!decide (x = .non))) H) : rNotN x .non H Q := ⟨rfl, q⟩
theorem i_yes {R : Bool → Hp → Prop} (q : R true H) : tYes σ H R := q
theorem i_tt {A B : Prop} (q : A) : (if true = true then A else B) := by rw [if_pos rfl]; exact q
theorem i_ff {A B : Prop} (q : B) : (if false = true then A else B) := by rw [if_neg Bool.false_ne_true]; exact q
theorem i_dy {p : Prop} [Decidable p] {A B : Prop} (h : p) (q : A) : (if decide p = true then A else B) := by rw [if_pos (decide_eq_true h)]; exact q
theorem i_dn {p : Prop} [Decidable p] {A B : Prop} (h : ¬ p) (q : B) : (if decide p = true then A else B) := by rw [if_neg (by simp [h])]; exact q
theorem i_ny {p : Prop} [Decidable p] {A B : Prop} (h : ¬ p) (q : A) : (if (!decide p) = true then A else B) := by rw [if_pos (by simp [h])]; exact q
theorem i_nn {p : Prop} [Decidable p] {A B : Prop} (h : p) (q : B) : (if (!decide p) = true then A else B) := by rw [if_neg (by simp [h])]; exact q
theorem i_d2 {p : Prop} [Decidable p] {A B : Prop} (q1 : p → A) (q2 : ¬ p → B) : (if decide p = true then A else B) := by
  by_cases h : p
  · exact i_dy h (q1 h)
  · exact i_dn h (q2 h)
theorem i_n2 {p : Prop} [Decidable p] {A B : Prop} (q1 : ¬ p → A) (q2 : p → B) : (if (!decide p) = true then A else B) := by
  by_cases h : p
  · exact i_nn h (q2 h)
  · exact i_ny h (q1 h)
theorem i_ntt {A B : Prop} (q : B) : (if (!true) = true then A else B) := by rw [if_neg (by simp)]; exact q
theorem i_nff {A B : Prop} (q : A) : (if (!false) = true then A else B) := by rw [if_pos (by simp)]; exact q
theorem i_dnI {i : Int} {A B : Prop} (q : B) : (if decide (V.int i = V.non) = true then A else B) := i_dn (by intro h; cases h) q
theorem i_nyI {i : Int} {A B : Prop} (q : A) : (if (!decide (V.int i = V.non)) = true then A else B) := i_ny (by intro h; cases h) q
theorem i_dnR {i : Addr} {A B : Prop} (q : B) : (if decide (V.ref i = V.non) = true then A else B) := i_dn (by intro h; cases h) q
theorem i_nyR {i : Addr} {A B : Prop} (q : A) : (if (!decide (V.ref i = V.non)) = true then A else B) := i_ny (by intro h; cases h) q
theorem i_dnS {i : Str} {A B : Prop} (q : B) : (if decide (V.str i = V.non) = true then A else B) := i_dn (by intro h; cases h) q
theorem i_nyS {i : Str} {A B : Prop} (q : A) : (if (!decide (V.str i = V.non)) = true then A else B) := i_ny (by intro h; cases h) q
theorem i_addI {a b : Int} (q : Q (.int (a + b)) H) : rAddA (.int a) (.int b) H Q := q
theorem i_addS {a b : Str} (h : a.length + b.length ≤ sizeLine) (q : Q (.str (a ++ b)) H) : rAddA (.str a) (.str b) H Q := ⟨h, q⟩
theorem i_addL {p q : Addr} {xs ys : List V} (h1 : H p = some (.lst xs)) (h2 : H q = some (.lst ys)) (h : xs.length + ys.length ≤ sizeLine) (k : ∀ r, H r = none → Q (.ref r) (upd H r (.lst (xs ++ ys)))) : rAddA (.ref p) (.ref q) H Q := by simp only [rAddA, h1, h2]; exact ⟨h, k⟩
theorem i_mulI {a b : Int} (c : CMul a b) (q : Q (.int (a * b)) H) : rMulA (.int a) (.int b) H Q := ⟨c, q⟩
theorem i_eqF {K : PySem.W.Frag} {x y : V} {b : Bool} (h : eqF x y = some b) (q : Q (.bl b) H) : rEqA K x y H Q := by simp only [rEqA, h]; exact q
theorem i_neF {K : PySem.W.Frag} {x y : V} {b : Bool} (h : eqF x y = some b) (q : Q (.bl (!b)) H) : rNeA K x y H Q := by simp only [rNeA, h]; exact q
theorem i_eqI {K : PySem.W.Frag} {a b : Int} (q : Q (.bl (decide (a = b))) H) : rEqA K (.int a) (.int b) H Q := q
theorem i_neI {K : PySem.W.Frag} {a b : Int} (q : Q (.bl (!decide (a = b))) H) : rNeA K (.int a) (.int b) H Q := q
theorem i_eqS {K : PySem.W.Frag} {a b : Str} (q : Q (.bl (decide (a = b))) H) : rEqA K (.str a) (.str b) H Q := q
theorem i_neS {K : PySem.W.Frag} {a b : Str} (q : Q (.bl (!decide (a = b))) H) : rNeA K (.str a) (.str b) H Q := q
theorem i_ixL {p : Addr} {xs : List V} {i : Int} {v : V} (h : H p = some (.lst xs)) (hi : atI xs i = some v) (q : Q v H) : rIxA (.ref p) (.int i) H Q := by simp only [rIxA, h]; exact ⟨v, hi, q⟩
theorem i_ixT {p : Addr} {xs : List V} {i : Int} {v : V} (h : H p = some (.tup xs)) (hi : atI xs i = some v) (q : Q v H) : rIxA (.ref p) (.int i) H Q := by simp only [rIxA, h]; exact ⟨v, hi, q⟩
theorem i_slL {p : Addr} {xs : List V} {lo hi : Option Int} (h : H p = some (.lst xs)) (k : ∀ q, H q = none → Q (.ref q) (upd H q (.lst (cutV xs lo hi)))) : rSlA (.ref p) lo hi H Q := by simp only [rSlA, h]; exact k
theorem i_slT {p : Addr} {xs : List V} {lo hi : Option Int} (h : H p = some (.tup xs)) (c : ¬ (HT.sIx xs.length 0 lo = 0 ∧ HT.sIx xs.length xs.length hi = xs.length)) (k : ∀ q, H q = none → Q (.ref q) (upd H q (.tup (cutV xs lo hi)))) : rSlA (.ref p) lo hi H Q := by simp only [rSlA, h]; exact ⟨c, k⟩
theorem i_lenL {p : Addr} {xs : List V} (h : H p = some (.lst xs)) (q : Q (.int xs.length) H) : rLenA [.ref p] H Q := by simp only [rLenA, h]; exact q
theorem i_lenT {p : Addr} {xs : List V} (h : H p = some (.tup xs)) (q : Q (.int xs.length) H) : rLenA [.ref p] H Q := by simp only [rLenA, h]; exact q
theorem i_lenD {p : Addr} {kvs : List (Key × V)} (h : H p = some (.dK kvs)) (q : Q (.int kvs.length) H) : rLenA [.ref p] H Q := by simp only [rLenA, h]; exact q
theorem i_lenS {y : Str} (h : y.length ≤ sizeLine) (q : Q (.int y.length) H) : rLenA [.str y] H Q := ⟨h, q⟩
theorem i_intI {i : Int} (q : Q (.int i) H) : rIntA [.int i] H Q := q
theorem i_intB {k : Bool} (q : Q (.int (if k = true then 1 else 0)) H) : rIntA [.bl k] H Q := q
theorem i_abs {i : Int} (q : Q (.int (if i < 0 then -i else i)) H) : rAbsA [.int i] H Q := q
theorem i_listL {p : Addr} {xs : List V} (h : H p = some (.lst xs)) (k : ∀ l, H l = none → Q (.ref l) (upd H l (.lst xs))) : rListA [.ref p] H Q := by simp only [rListA, h]; exact k
theorem i_listT {p : Addr} {xs : List V} (h : H p = some (.tup xs)) (k : ∀ l, H l = none → Q (.ref l) (upd H l (.lst xs))) : rListA [.ref p] H Q := by simp only [rListA, h]; exact k
theorem i_tupL {p : Addr} {xs : List V} (h : H p = some (.lst xs)) (k : ∀ l, H l = none → Q (.ref l) (upd H l (.tup xs))) : rTupA [.ref p] H Q := by simp only [rTupA, h]; exact k
theorem i_isi {x : V} {T t : String} {b : Bool} (h1 : tyN x H = some t) (h2 : kitB t T = some b) (q : Q (.bl b) H) : rIsiA [x, .ty T] H Q := by simp only [rIsiA, h1]; exact ⟨b, h2, q⟩
theorem i_isiLL {p : Addr} {xs : List V} (h : H p = some (.lst xs)) (q : Q (.bl true) H) : rIsiA [.ref p, .ty "list"] H Q := i_isi (t := "list") (by simp only [tyN, h]) (by decide +kernel) q
theorem i_isiTL {p : Addr} {xs : List V} (h : H p = some (.tup xs)) (q : Q (.bl false) H) : rIsiA [.ref p, .ty "list"] H Q := i_isi (t := "tuple") (by simp only [tyN, h]) (by decide +kernel) q
theorem i_isiIB {i : Int} (q : Q (.bl false) H) : rIsiA [.int i, .ty "bool"] H Q := i_isi (t := "int") rfl (by decide +kernel) q
theorem i_isiNB (q : Q (.bl false) H) : rIsiA [.non, .ty "bool"] H Q := i_isi (t := "NoneType") rfl (by decide +kernel) q
theorem i_isiBB {k : Bool} (q : Q (.bl true) H) : rIsiA [.bl k, .ty "bool"] H Q := i_isi (t := "bool") rfl (by decide +kernel) q
theorem i_app {l : Addr} {xs : List V} {y : V} (h : H l = some (.lst xs)) (hz : xs.length < sizeLine) (q : Q .non (upd H l (.lst (xs ++ [y])))) : rAppA (.ref l) [y] H Q := by simp only [rAppA, h]; exact ⟨hz, q⟩
theorem i_ext {l p : Addr} {xs ys : List V} (h : H l = some (.lst xs)) (h2 : H p = some (.lst ys)) (hz : xs.length + ys.length ≤ sizeLine) (q : Q .non (upd H l (.lst (xs ++ ys)))) : rExtA (.ref l) [.ref p] H Q := by simp only [rExtA, h, h2]; exact ⟨hz, q⟩
theorem i_popL {l : Addr} {xs : List V} {y : V} (h : H l = some (.lst xs)) (hy : xs[xs.length - 1]? = some y) (q : Q y (upd H l (.lst xs.dropLast))) : rPopL (.ref l) [] H Q := by simp only [rPopL, h]; exact ⟨y, hy, q⟩
theorem i_popI {l : Addr} {xs : List V} {k : Nat} {y : V} (h : H l = some (.lst xs)) (hk : k < 2 ^ 62) (hy : xs[k]? = some y) (q : Q y (upd H l (.lst (xs.eraseIdx k)))) : rPopI (.ref l) [.int (k : Int)] H Q := by simp only [rPopI, h]; exact ⟨k, y, rfl, hk, hy, q⟩
theorem i_pop0 {l : Addr} {ys : List V} {y : V} (h : H l = some (.lst (y :: ys))) (q : Q y (upd H l (.lst ys))) : rPopI (.ref l) [.int 0] H Q := i_popI (k := 0) h (by decide) rfl q
theorem i_setL {p : Addr} {xs : List V} {k : Int} {j : Nat} {v : V} {R : Hp → Prop} (h : H p = some (.lst xs)) (hj : ixN xs.length k = some j) (q : R (upd H p (.lst (xs.set j v)))) : rSetA (.ref p) (.int k) v H R := by simp only [rSetA, h]; exact ⟨j, hj, q⟩
theorem i_dget {td ty : TE} (q : td σ H fun x H1 => ty σ H1 fun y H2 => ∃ a v, x = .ref a ∧ DGet H2 a y (some v) ∧ Q v H2) : tDGet td ty σ H Q := q
theorem i_dgetK {a : Addr} {kvs : List (Key × V)} {k : Key} {y v : V} {R : V → Prop} (h : H a = some (.dK kvs)) (hy : y = kV k) (hv : valV kvs k = some v) (q : R v) : (∃ a' v', V.ref a = .ref a' ∧ DGet H a' y (some v') ∧ R v') := ⟨a, v, rfl, .inl ⟨kvs, k, Rd.of h, hy, hv.symm⟩, q⟩
theorem i_dputK {a : Addr} {kvs : List (Key × V)} {k : Key} {y v : V} {R : Hp → Prop} (h : H a = some (.dK kvs)) (hy : y = kV k) (hz : kvs.length < sizeLine) (q : R (upd H a (.dK (putK kvs k v)))) : (∃ a' H4, V.ref a = .ref a' ∧ DPut H a' y v H4 ∧ R H4) := ⟨a, _, rfl, .inl ⟨kvs, k, h, hy, hz, rfl⟩, q⟩
theorem i_disp {trs : List (TE × TE)} (q : ∀ p, H p = none → tPairs trs σ (upd H p (.dK [])) fun ps H2 => H2 p = some (.dK []) ∧ ∃ kvs : List (Key × V), ps = kvs.map (fun kv => (kV kv.1, kv.2)) ∧ kvs.length ≤ 15 ∧ Q (.ref p) (upd H2 p (.dK (mergeK [] kvs)))) : tDisp trs σ H Q := q
theorem i_pcons {tk tv : TE} {r : List (TE × TE)} {R : List (V × V) → Hp → Prop} (q : tk σ H fun x H1 => tv σ H1 fun y H2 => tPairs r σ H2 fun ps H3 => R ((x, y) :: ps) H3) : tPairs ((tk, tv) :: r) σ H R := q
theorem i_pnil {R : List (V × V) → Hp → Prop} (q : R [] H) : tPairs [] σ H R := q
theorem i_neN {K : PySem.W.Frag} (q : Q (.bl false) H) : rNeA K .non .non H Q := q
theorem i_eqN {K : PySem.W.Frag} (q : Q (.bl true) H) : rEqA K .non .non H Q := q
theorem i_neB {K : PySem.W.Frag} {a b : Bool} (q : Q (.bl (!decide (a = b))) H) : rNeA K (.bl a) (.bl b) H Q := q
theorem i_eqB {K : PySem.W.Frag} {a b : Bool} (q : Q (.bl (decide (a = b))) H) : rEqA K (.bl a) (.bl b) H Q := q
theorem i_for {wi : TI} {g : TG} {tb : TS} (q : wi σ H fun J H1 => ∃ W : Nat → Nat → L2.St → Hp → Prop, (∃ m, W 0 m σ H1) ∧ ∀ i m σ H, W i m σ H → (J.stop i H ∧ nx σ H) ∨ (J.go i H ∧ ∃ N : L2.St → Hp → Prop, (∀ σ' H', N σ' H' → ∃ m', m' < m ∧ W (i + 1) m' σ' H') ∧ ∀ x H', J.yld i H x H' → g x σ H' fun σ2 H2 => tb ⟨N, rt, nx, N⟩ σ2 H2)) : tFor wi g tb ⟨nx, rt, bk, ct⟩ σ H := q
theorem i_while {c : TT} {tb : TS} (W : Nat → L2.St → Hp → Prop) (m : Nat) (w0 : W m σ H) (q : ∀ m σ H, W m σ H → c σ H fun b H1 => if b = true then ∃ N : L2.St → Hp → Prop, (∀ σ' H', N σ' H' → ∃ m', m' < m ∧ W m' σ' H') ∧ tb ⟨N, rt, nx, N⟩ σ H1 else nx σ H1) : tWhile c tb ⟨nx, rt, bk, ct⟩ σ H := ⟨W, ⟨m, w0⟩, q⟩
theorem i_wgo {m : Nat} {W : Nat → L2.St → Hp → Prop} {tb : TS} (q : tb ⟨fun σ' H' => ∃ m', m' < m ∧ W m' σ' H', rt, nx, fun σ' H' => ∃ m', m' < m ∧ W m' σ' H'⟩ σ H) : (∃ N : L2.St → Hp → Prop, (∀ σ' H', N σ' H' → ∃ m', m' < m ∧ W m' σ' H') ∧ tb ⟨N, rt, nx, N⟩ σ H) := ⟨_, fun _ _ h => h, q⟩
theorem i_ilist {K : PySem.W.Frag} {tl : TE} {R : It → Hp → Prop} (q : tl σ H fun x H1 => ∃ a, x = .ref a ∧ (∃ xs, SqL K H1 a xs) ∧ R (Itl K a) H1) : iList K tl σ H R := q
theorem i_itup {K : PySem.W.Frag} {tl : TE} {R : It → Hp → Prop} (q : tl σ H fun x H1 => ∃ a, x = .ref a ∧ (∃ xs, SqT K H1 a xs) ∧ R (Itt K a) H1) : iTup K tl σ H R := q
theorem i_rng1 {ta : TA} {R : It → Hp → Prop} (q : ta σ H fun vs H1 => ∃ j : Int, vs = [.int j] ∧ -(2 ^ 62) ≤ j ∧ j < 2 ^ 62 ∧ R (Itr 0 j.toNat) H1) : iRng1 ta σ H R := q
theorem i_rng2 {ta : TA} {R : It → Hp → Prop} (q : ta σ H fun vs H1 => ∃ i j : Int, vs = [.int i, .int j] ∧ (-(2 ^ 62) ≤ i ∧ i < 2 ^ 62 ∧ -(2 ^ 62) ≤ j ∧ j < 2 ^ 62) ∧ R (Itr i (j - i).toNat) H1) : iRng2 ta σ H R := q
theorem i_ex1 {j : Int} {R : Int → Prop} (q : R j) : (∃ i : Int, [V.int j] = [.int i] ∧ R i) := ⟨j, rfl, q⟩
theorem i_ex2 {i j : Int} {R : Int → Int → Prop} (q : R i j) : (∃ i' j' : Int, [V.int i, V.int j] = [.int i', .int j'] ∧ R i' j') := ⟨i, j, rfl, q⟩
theorem i_exr {p : Addr} {R : Addr → Prop} (q : R p) : (∃ a, V.ref p = .ref a ∧ R a) := ⟨p, rfl, q⟩
theorem i_mth {p C dx : Addr} {fs : List (Str × V)} {m : Str} {R : Prop} (h : H p = some (.ins C dx fs)) (hl : fs.lookup m = none) (q : R) : (∃ a dx fs, V.ref p = .ref a ∧ H a = some (.ins C dx fs) ∧ fs.lookup m = none ∧ R) := ⟨p, dx, fs, rfl, h, hl, q⟩
theorem i_fld {K : PySem.W.Frag} {ta : TE} {f : Str} (q : ta σ H fun x H1 => ∃ a C dx fs v, x = .ref a ∧ H1 a = some (.ins C dx fs) ∧ Cls K C ∧ NoAttr K C f ∧ fs.lookup f = some v ∧ Q v H1) : tFld K ta f σ H Q := q
theorem i_lc {wi : TI} {g : TG} {tt : TT} {te : TE} {vs : List Nat} (q : wi σ H fun J H1 => ∀ D, H1 D = none → ∃ W : Nat → Nat → Hp → Prop, (∃ m, W 0 m (upd H1 D (.lst []))) ∧ ∀ i m H, W i m H → (J.stop i H ∧ Q (.ref D) H) ∨ (J.go i H ∧ ∃ Nx : Hp → Prop, (∀ H', Nx H' → ∃ m', m' < m ∧ W (i + 1) m' H') ∧ ∀ x H', J.yld i H x H' → g x (wipe σ vs) H' fun σ2 H2 => wipe σ2 vs = wipe σ vs ∧ tt σ2 H2 fun b H3 => if b = true then te σ2 H3 fun y H4 => ∃ acc, H4 D = some (.lst acc) ∧ acc.length < sizeLine ∧ Nx (upd H4 D (.lst (acc ++ [y]))) else Nx H3)) : tLc wi g tt te vs σ H Q := q
end
local macro_rules | `(tactic| walk_at "s1") => `(tactic| with_reducible first | refine i_seq ?_ | refine i_asg ?_ | refine i_gname ?_ | refine i_ifS ?_ | refine i_ret ?_ | refine i_retN ?_ | refine i_drop ?_ | refine i_next ?_ | refine i_brk ?_ | refine i_cnt ?_ | refine i_par ?_ | refine i_par2 ?_ | refine i_fldS ?_ | refine i_dput ?_ | refine i_c ?_ | refine i_op ?_ | refine i_un ?_ | refine i_rU ?_ | refine i_rI0 ?_ | refine i_test ?_ | refine i_B ?_ | refine i_bl ?_ | refine i_tru ?_ | refine i_truB ?_ | refine i_and ?_ | refine i_or ?_ | refine i_not ?_ | refine i_andV ?_ | refine i_orV ?_ | refine i_notV ?_ | refine i_if ?_ | refine i_call ?_ | refine i_meth ?_ | refine i_make ?_ | refine i_cb ?_ | refine i_cons ?_ | refine i_nil ?_ | refine i_tup ?_ | refine i_lst ?_ | refine i_bml ?_ | refine i_gsub ?_ | refine i_gcons ?_ | refine i_gnil ?_ | refine i_sl ?_ | refine i_nop ?_ | refine i_part ?_ | refine i_prt ?_ | refine i_isN ?_ | refine i_notN ?_ | refine i_yes ?_ | refine i_tt ?_ | refine i_ff ?_ | refine i_ntt ?_ | refine i_nff ?_ | refine i_addI ?_ | refine i_eqI ?_ | refine i_neI ?_ | refine i_eqS ?_ | refine i_neS ?_ | refine i_intI ?_ | refine i_intB ?_ | refine i_abs ?_ | refine i_isiIB ?_ | refine i_isiNB ?_ | refine i_isiBB ?_ | refine i_dget ?_ | refine i_for ?_ | refine i_ilist ?_ | refine i_itup ?_ | refine i_rng1 ?_ | refine i_rng2 ?_ | refine i_ex1 ?_ | refine i_ex2 ?_ | refine i_exr ?_ | refine i_fld ?_ | refine i_disp ?_ | refine i_pcons ?_ | refine i_pnil ?_ | refine i_neN ?_ | refine i_eqN ?_ | refine i_neB ?_ | refine i_eqB ?_ | refine i_lc ?_ | refine i_var (by with_unfolding_all rfl) ?_ | refine i_tB (by decide +kernel) ?_ | refine i_fB (by decide +kernel) ?_ | refine i_dnI ?_ | refine i_nyI ?_ | refine i_dnR ?_ | refine i_nyR ?_ | refine i_ixT (by assumption) (by with_unfolding_all rfl) ?_ | refine i_ixL (by assumption) (by with_unfolding_all rfl) ?_ | refine i_lenL (by assumption) ?_ | refine i_lenT (by assumption) ?_ | refine i_isL (by assumption) ?_ | refine i_isiLL (by assumption) ?_ | refine i_isiTL (by assumption) ?_ | refine i_gtup (by assumption) (by with_unfolding_all rfl) ?_)
local macro_rules | `(tactic| walk_at "s") => `(tactic| repeat (walk_at "s1"))
/-- the state of the draws: a list of a list of numbers and of a number -/
structure Rng (a c : Addr) (H : Hp) : Prop where
  ne : a ≠ c
  ex : ∃ (ns : List Int) (m : Int), H a = some (.lst [.ref c, .int m]) ∧ H c = some (.lst (ns.map V.int)) ∧ (∀ n ∈ ns, 0 ≤ n) ∧ 0 ≤ m
/-- what was so beside the two places is so -/
def Fra (a c : Addr) (H H' : Hp) : Prop := ∀ b, b ≠ a → b ≠ c → H' b = H b
theorem Fra.refl {a c : Addr} {H : Hp} : Fra a c H H := fun _ _ _ => rfl
theorem Fra.trans {a c : Addr} {H H1 H2 : Hp} (h : Fra a c H H1) (k : Fra a c H1 H2) : Fra a c H H2 := fun b p q => (k b p q).trans (h b p q)
def spDraw : Sp := fun vs H Q _ => ∃ (a c : Addr) (n : Int), vs = [.ref a, .int n] ∧ 0 < n ∧ n < 1073741824 ∧ Rng a c H ∧
  ∀ (H' : Hp) (r : Int), 0 ≤ r → r < n → Rng a c H' → Fra a c H H' → Q (.int r) H'
theorem len_draw {vs : List V} {H : Hp} {Q : VK} {E : XK} (h : spDraw vs H Q E) : vs.length = 2 := by
  obtain ⟨a, c, n, rfl, _⟩ := h
  rfl
def t_draw (K : PySem.W.Frag) : TS :=
  (tSeq (tAsg (tOp rIxA (tVar 0) (tC (.int 0))) (gName 2)) (tSeq (tWhile (tAnd (tTest (tOp (rI0 fun i j => .bl (decide (j < i))) (tCB rLenA (tCons (tVar 2) tNil)) (tC (.int 0)))) (tTest (tOp (rEqA K) (tOp rIxA (tVar 2) (tC (.int 0))) (tC (.int 0))))) (tDrop (tBML rPopI (tVar 2) (tCons (tC (.int 0)) tNil)))) (tSeq (tIfS (tTest (tOp (rI0 fun i j => .bl (decide (j < i))) (tCB rLenA (tCons (tVar 2) tNil)) (tC (.int 0)))) (tSeq (tAsg (tOp rIxA (tVar 2) (tC (.int 0))) (gName 3)) (tSeq (tAsg (tOp (rI CDiv fun i j => .int (i / j)) (tVar 3) (tVar 1)) (gSub (tVar 2) (tC (.int 0)) rSetA)) (tRet (tOp (rI (fun _ j => 0 < j) fun i j => .int (i % j)) (tCB rIntA (tCons (tVar 3) tNil)) (tVar 1))))) tNext) (tSeq (tAsg (tOp (rI (fun _ j => 0 < j) fun i j => .int (i % j)) (tCB rIntA (tCons (tOp rAddA (tOp rMulA (tOp rIxA (tVar 0) (tC (.int 1))) (tC (.int 48271))) (tC (.int 12345))) tNil)) (tC (.int 2147483647))) (gName 4)) (tSeq (tAsg (tVar 4) (gSub (tVar 0) (tC (.int 1)) rSetA)) (tRet (tOp (rI (fun _ j => 0 < j) fun i j => .int (i % j)) (tCB rIntA (tCons (tOp (rI CDiv fun i j => .int (i / j)) (tVar 4) (tC (.int 64))) tNil)) (tVar 1))))))))
theorem fra_upd2 {a c : Addr} {H H' : Hp} {o : HO} (h : Fra a c H H') : Fra a c H (upd H' c o) := fun b p q => by rw [upd_ne q]; exact h b p q
theorem fra_upd1 {a c : Addr} {H H' : Hp} {o : HO} (h : Fra a c H H') : Fra a c H (upd H' a o) := fun b p q => by rw [upd_ne p]; exact h b p q
theorem at0 {v : V} {xs : List V} : atI (v :: xs) 0 = some v := atI_nat (j := 0) rfl
theorem atN {xs : List V} {i : Int} {j : Nat} {v : V} (e : i = (j : Int)) (h : xs[j]? = some v) : atI xs i = some v := by
  rw [e]
  exact atI_nat h
theorem ixS0 {v : V} {xs : List V} : ixN (v :: xs).length 0 = some 0 := by
  unfold ixN
  rw [if_pos (by omega), if_pos (by simp <;> omega)]
  rfl
theorem pure_draw (K : PySem.W.Frag) {N : List Str} (vs : List V) (H : Hp) (Q : VK) (E : XK) (h : spDraw vs H Q E) (hN : N.length = 5) : t_draw K { nx := fun _ H' => Q .non H', rt := Q } (L2.start N vs) H := by
  obtain ⟨a, c, n, rfl, h0, h1, R, k⟩ := h
  obtain ⟨ne, ns, m, ha, hc, hn, hm⟩ := R
  have es : L2.start N [V.ref a, .int n] = [some (.ref a), some (.int n), none, none, none] := by
    unfold L2.start
    rw [hN]
    rfl
  rw [es]
  unfold t_draw
  walk_at "s"
  try refine i_ixL ha (by rfl) ?_
  walk_at "s"
  refine i_while (fun j σ H' => σ = [some (.ref a), some (.int n), some (.ref c), none, none] ∧ ∃ ns : List Int, j = ns.length ∧ H' a = some (.lst [.ref c, .int m]) ∧ H' c = some (.lst (ns.map V.int)) ∧ (∀ n ∈ ns, 0 ≤ n) ∧ Fra a c H H')
    _ ⟨rfl, ns, rfl, ha, hc, hn, Fra.refl⟩ ?_
  rintro j σ H1 ⟨rfl, ns, rfl, ha, hc, hn, fr⟩
  walk_at "s"
  try refine i_lenL hc ?_
  walk_at "s"
  cases ns with
  | nil =>
    try refine i_dn (by simp) ?_
    walk_at "s"
    try refine i_lenL hc ?_
    walk_at "s"
    try refine i_dn (by simp) ?_
    walk_at "s"
    try refine i_ixL ha (by rfl) ?_
    walk_at "s"
    try refine i_mulI (.inr ⟨by decide, by decide⟩) ?_
    walk_at "s"
    try refine i_rI (by show (0 : Int) < 2147483647; decide) ?_
    walk_at "s"
    refine i_setL ha (by rfl) ?_
    walk_at "s"
    refine i_rI ⟨by decide, by decide⟩ ?_
    walk_at "s"
    refine i_rI h0 ?_
    exact k _ _ (Int.emod_nonneg _ (by omega)) (Int.emod_lt_of_pos _ h0) ⟨ne, [], _, upd_same, by rw [upd_ne ne.symm]; exact hc, by simp, Int.emod_nonneg _ (by decide)⟩ (fra_upd1 fr)
  | cons z ns =>
    try refine i_dy (by simp <;> omega) ?_
    walk_at "s"
    try refine i_ixL hc at0 ?_
    walk_at "s"
    refine i_d2 (fun hz => ?_) (fun hz => ?_)
    · refine i_wgo ?_
      walk_at "s"
      try refine i_isL hc ?_
      walk_at "s"
      refine i_pop0 hc ?_
      exact ⟨ns.length, by simp, rfl, ns, rfl, by rw [upd_ne ne]; exact ha, upd_same, fun n h => hn n (List.mem_cons_of_mem _ h), fra_upd2 fr⟩
    · walk_at "s"
      try refine i_lenL hc ?_
      walk_at "s"
      try refine i_dy (by simp <;> omega) ?_
      walk_at "s"
      try refine i_ixL hc at0 ?_
      walk_at "s"
      refine i_rI ⟨h0, h1⟩ ?_
      walk_at "s"
      refine i_setL hc ixS0 ?_
      walk_at "s"
      refine i_rI h0 ?_
      have hz0 : 0 ≤ z := hn z List.mem_cons_self
      refine k _ _ (Int.emod_nonneg _ (by omega)) (Int.emod_lt_of_pos _ h0) ⟨ne, (z / n) :: ns, m, by rw [upd_ne ne]; exact ha, upd_same, fun y hy => ?_, hm⟩ (fra_upd2 fr)
      rcases List.mem_cons.mp hy with e | e
      · rw [e]
        exact Int.ediv_nonneg hz0 (by omega)
      · exact hn y (List.mem_cons_of_mem _ e)
theorem sz {n : Nat} (h : n ≤ 100000) : n ≤ sizeLine := Nat.le_trans h (by decide)
theorem szl {n : Nat} (h : n ≤ 100000) : n < sizeLine := Nat.lt_of_le_of_lt h (by decide)

/-! ### loops and comprehensions -/
section
variable {K : PySem.W.Frag} {a : Addr} {xs : List V} {g : TG} {tb : TS} {σ : L2.St} {H : Hp} {nx : L2.St → Hp → Prop} {rt : VK} {tt : TT} {te : TE} {v : Nat} {D : Addr} {Qd : Hp → Prop}
theorem i_forL (xs : List V) (Pv : Nat → L2.St → Hp → Prop) (h0 : Pv 0 σ H) (hl : ∀ i σ H, Pv i σ H → SqL K H a xs)
    (hs : ∀ i x σ H, xs[i]? = some x → Pv i σ H → g x σ H fun σ2 H2 => tb ⟨Pv (i + 1), rt, nx, Pv (i + 1)⟩ σ2 H2) (hd : ∀ σ H, Pv xs.length σ H → nx σ H) :
    (∃ xs, SqL K H a xs) ∧ ∃ W : Nat → Nat → L2.St → Hp → Prop, (∃ m, W 0 m σ H) ∧ ∀ i m σ H, W i m σ H → ((Itl K a).stop i H ∧ nx σ H) ∨ ((Itl K a).go i H ∧ ∃ N : L2.St → Hp → Prop, (∀ σ' H', N σ' H' → ∃ m', m' < m ∧ W (i + 1) m' σ' H') ∧ ∀ x H', (Itl K a).yld i H x H' → g x σ H' fun σ2 H2 => tb ⟨N, rt, nx, N⟩ σ2 H2) :=
  ⟨⟨xs, hl 0 σ H h0⟩, for_list (D := ⟨nx, rt, fun _ _ => False, fun _ _ => False⟩) (xs := xs) Pv h0 (fun i σ H _ p => hl i σ H p) hs hd⟩
theorem i_forT (xs : List V) (Pv : Nat → L2.St → Hp → Prop) (h0 : Pv 0 σ H) (hl : ∀ i σ H, Pv i σ H → SqT K H a xs)
    (hs : ∀ i x σ H, xs[i]? = some x → Pv i σ H → g x σ H fun σ2 H2 => tb ⟨Pv (i + 1), rt, nx, Pv (i + 1)⟩ σ2 H2) (hd : ∀ σ H, Pv xs.length σ H → nx σ H) :
    (∃ xs, SqT K H a xs) ∧ ∃ W : Nat → Nat → L2.St → Hp → Prop, (∃ m, W 0 m σ H) ∧ ∀ i m σ H, W i m σ H → ((Itt K a).stop i H ∧ nx σ H) ∨ ((Itt K a).go i H ∧ ∃ N : L2.St → Hp → Prop, (∀ σ' H', N σ' H' → ∃ m', m' < m ∧ W (i + 1) m' σ' H') ∧ ∀ x H', (Itt K a).yld i H x H' → g x σ H' fun σ2 H2 => tb ⟨N, rt, nx, N⟩ σ2 H2) :=
  ⟨⟨xs, hl 0 σ H h0⟩, for_tup (D := ⟨nx, rt, fun _ _ => False, fun _ _ => False⟩) (xs := xs) Pv h0 (fun i σ H _ p => hl i σ H p) hs hd⟩
theorem i_forR {j : Int} (n : Nat) (hj : j = (n : Int)) (hn : n ≤ 1000000000) (Pv : Nat → L2.St → Hp → Prop) (h0 : Pv 0 σ H)
    (hs : ∀ i σ H, i < n → Pv i σ H → g (.int (i : Int)) σ H fun σ2 H2 => tb ⟨Pv (i + 1), rt, nx, Pv (i + 1)⟩ σ2 H2) (hd : ∀ σ H, Pv n σ H → nx σ H) :
    -(2 ^ 62) ≤ j ∧ j < 2 ^ 62 ∧ ∃ W : Nat → Nat → L2.St → Hp → Prop, (∃ m, W 0 m σ H) ∧ ∀ i m σ H, W i m σ H → ((Itr 0 j.toNat).stop i H ∧ nx σ H) ∨ ((Itr 0 j.toNat).go i H ∧ ∃ N : L2.St → Hp → Prop, (∀ σ' H', N σ' H' → ∃ m', m' < m ∧ W (i + 1) m' σ' H') ∧ ∀ x H', (Itr 0 j.toNat).yld i H x H' → g x σ H' fun σ2 H2 => tb ⟨N, rt, nx, N⟩ σ2 H2) := by
  subst hj
  refine ⟨by omega, by omega, ?_⟩
  exact for_range (D := ⟨nx, rt, fun _ _ => False, fun _ _ => False⟩) (lo := 0) (n := n) Pv h0 (fun i σ H hi p => by rw [Int.zero_add]; exact hs i σ H hi p) hd
theorem i_forR2 {lo j : Int} (n : Nat) (hj : (j - lo).toNat = n) (hb : -(2 ^ 62) ≤ lo ∧ lo < 2 ^ 62 ∧ -(2 ^ 62) ≤ j ∧ j < 2 ^ 62) (Pv : Nat → L2.St → Hp → Prop) (h0 : Pv 0 σ H)
    (hs : ∀ (i : Nat) σ H, i < n → Pv i σ H → g (.int (lo + i)) σ H fun σ2 H2 => tb ⟨Pv (i + 1), rt, nx, Pv (i + 1)⟩ σ2 H2) (hd : ∀ σ H, Pv n σ H → nx σ H) :
    (-(2 ^ 62) ≤ lo ∧ lo < 2 ^ 62 ∧ -(2 ^ 62) ≤ j ∧ j < 2 ^ 62) ∧ ∃ W : Nat → Nat → L2.St → Hp → Prop, (∃ m, W 0 m σ H) ∧ ∀ i m σ H, W i m σ H → ((Itr lo (j - lo).toNat).stop i H ∧ nx σ H) ∨ ((Itr lo (j - lo).toNat).go i H ∧ ∃ N : L2.St → Hp → Prop, (∀ σ' H', N σ' H' → ∃ m', m' < m ∧ W (i + 1) m' σ' H') ∧ ∀ x H', (Itr lo (j - lo).toNat).yld i H x H' → g x σ H' fun σ2 H2 => tb ⟨N, rt, nx, N⟩ σ2 H2) := by
  subst hj
  exact ⟨hb, for_range (D := ⟨nx, rt, fun _ _ => False, fun _ _ => False⟩) (lo := lo) Pv h0 hs hd⟩
theorem wipe1 {v : Nat} {x : V} : (wipe σ [v]).set v (some x) = σ.set v (some x) := by
  show (σ.set v none).set v (some x) = _
  rw [List.set_set]
theorem wipe2 {v : Nat} {x : V} : wipe (σ.set v (some x)) [v] = wipe σ [v] := by
  show (σ.set v (some x)).set v none = σ.set v none
  rw [List.set_set]
/-- a comprehension over a list, one name -/
theorem i_lcL (xs : List V) (Pv : Nat → Hp → Prop) (h0 : Pv 0 (upd H D (.lst []))) (hl : ∀ i H, Pv i H → SqL K H a xs)
    (hs : ∀ i x H, xs[i]? = some x → Pv i H → tt (σ.set v (some x)) H fun b H3 => if b = true then te (σ.set v (some x)) H3 fun y H4 => ∃ acc, H4 D = some (.lst acc) ∧ acc.length < sizeLine ∧ Pv (i + 1) (upd H4 D (.lst (acc ++ [y]))) else Pv (i + 1) H3)
    (hd : ∀ H, Pv xs.length H → Qd H) :
    ∃ W : Nat → Nat → Hp → Prop, (∃ m, W 0 m (upd H D (.lst []))) ∧ ∀ i m H, W i m H → ((Itl K a).stop i H ∧ Qd H) ∨ ((Itl K a).go i H ∧ ∃ Nx : Hp → Prop, (∀ H', Nx H' → ∃ m', m' < m ∧ W (i + 1) m' H') ∧ ∀ x H', (Itl K a).yld i H x H' → gName v x (wipe σ [v]) H' fun σ2 H2 => wipe σ2 [v] = wipe σ [v] ∧ tt σ2 H2 fun b H3 => if b = true then te σ2 H3 fun y H4 => ∃ acc, H4 D = some (.lst acc) ∧ acc.length < sizeLine ∧ Nx (upd H4 D (.lst (acc ++ [y]))) else Nx H3) :=
  lc_list (xs := xs) Pv h0 (fun i H _ p => hl i H p) (fun i x H e p => by
    show wipe ((wipe σ [v]).set v (some x)) [v] = wipe σ [v] ∧ tt ((wipe σ [v]).set v (some x)) H _
    rw [wipe1]
    exact ⟨wipe2, hs i x H e p⟩) hd
/-- .. over range(n) -/
theorem i_lcR {j : Int} (n : Nat) (hj : j = (n : Int)) (Pv : Nat → Hp → Prop) (h0 : Pv 0 (upd H D (.lst [])))
    (hs : ∀ (i : Nat) H, i < n → Pv i H → tt (σ.set v (some (.int (i : Int)))) H fun b H3 => if b = true then te (σ.set v (some (.int (i : Int)))) H3 fun y H4 => ∃ acc, H4 D = some (.lst acc) ∧ acc.length < sizeLine ∧ Pv (i + 1) (upd H4 D (.lst (acc ++ [y]))) else Pv (i + 1) H3)
    (hd : ∀ H, Pv n H → Qd H) :
    ∃ W : Nat → Nat → Hp → Prop, (∃ m, W 0 m (upd H D (.lst []))) ∧ ∀ i m H, W i m H → ((Itr 0 j.toNat).stop i H ∧ Qd H) ∨ ((Itr 0 j.toNat).go i H ∧ ∃ Nx : Hp → Prop, (∀ H', Nx H' → ∃ m', m' < m ∧ W (i + 1) m' H') ∧ ∀ x H', (Itr 0 j.toNat).yld i H x H' → gName v x (wipe σ [v]) H' fun σ2 H2 => wipe σ2 [v] = wipe σ [v] ∧ tt σ2 H2 fun b H3 => if b = true then te σ2 H3 fun y H4 => ∃ acc, H4 D = some (.lst acc) ∧ acc.length < sizeLine ∧ Nx (upd H4 D (.lst (acc ++ [y]))) else Nx H3) := by
  subst hj
  exact lc_range (lo := 0) (n := n) Pv h0 (fun i H e p => by
    show wipe ((wipe σ [v]).set v (some (.int (0 + (i : Int))))) [v] = wipe σ [v] ∧ tt ((wipe σ [v]).set v (some (.int (0 + (i : Int))))) H _
    rw [wipe1, Int.zero_add]
    exact ⟨wipe2, hs i H e p⟩) hd
end

/-! ### the two places of the draws, and what grows beside them -/
/-- what stands beside the two places, grows -/
def Gr (a c : Addr) (H H' : Hp) : Prop := Same (hid [a, c] H) (hid [a, c] H')
section
variable {a c p : Addr} {H H' H1 : Hp} {o : HO}
theorem Gr.refl : Gr a c H H := Same.refl _
theorem Gr.trans (h : Gr a c H H1) (k : Gr a c H1 H') : Gr a c H H' := Same.trans h k
theorem Fra.hid (h : Fra a c H H') : hid [a, c] H' = hid [a, c] H := hid_eq fun b hb => h b (fun e => hb (by rw [e]; exact List.mem_cons_self)) fun e => hb (by rw [e]; exact List.mem_cons_of_mem _ List.mem_cons_self)
theorem Fra.gr (h : Fra a c H H') : Gr a c H H' := by
  unfold Gr
  rw [h.hid]
  exact Same.refl _
theorem Rng.at1 (R : Rng a c H) : ∃ o, H a = some o := let ⟨_, _, _, h, _⟩ := R; ⟨_, h⟩
theorem Rng.at2 (R : Rng a c H) : ∃ o, H c = some o := let ⟨_, _, _, _, h, _⟩ := R; ⟨_, h⟩
theorem Rng.fresh (R : Rng a c H) (h : H p = none) : p ≠ a ∧ p ≠ c := by
  obtain ⟨o1, e1⟩ := R.at1
  obtain ⟨o2, e2⟩ := R.at2
  exact ⟨fun e => (by rw [e, e1] at h; cases h), fun e => (by rw [e, e2] at h; cases h)⟩
theorem Rng.upd (R : Rng a c H) (h1 : p ≠ a) (h2 : p ≠ c) : Rng a c (L2.upd H p o) := by
  obtain ⟨ne, ns, m, ha, hc, hn, hm⟩ := R
  exact ⟨ne, ns, m, by rw [upd_ne h1.symm]; exact ha, by rw [upd_ne h2.symm]; exact hc, hn, hm⟩
theorem hid2 (h1 : p ≠ a) (h2 : p ≠ c) : p ∉ [a, c] := fun h => by
  rcases List.mem_cons.mp h with e | e
  · exact h1 e
  · rcases List.mem_cons.mp e with e | e
    · exact h2 e
    · cases e
/-- a new object -/
theorem new_step (R : Rng a c H) (h : H p = none) : Rng a c (L2.upd H p o) ∧ Gr a c H (L2.upd H p o) ∧ hid [a, c] (L2.upd H p o) p = some o ∧ p ≠ a ∧ p ≠ c := by
  obtain ⟨h1, h2⟩ := R.fresh h
  refine ⟨R.upd h1 h2, Lb.Same.hid (Same.newp h), ?_, h1, h2⟩
  rw [hid_out (hid2 h1 h2), upd_same]
theorem Gr.at (h : Gr a c H H') (e : hid [a, c] H p = some o) : H' p = some o := (hid_some (h _ _ e)).1
theorem hid_get (e : hid [a, c] H p = some o) : H p = some o := (hid_some e).1
theorem hid_ne (e : hid [a, c] H p = some o) : p ≠ a ∧ p ≠ c := by
  have h := (hid_some e).2
  exact ⟨fun q => h (by rw [q]; exact List.mem_cons_self), fun q => h (by rw [q]; exact List.mem_cons_of_mem _ List.mem_cons_self)⟩
end
def spPick : Sp := fun vs H Q _ => ∃ (a c p : Addr) (xs : List V), vs = [.ref a, .ref p] ∧ Rng a c H ∧ H p = some (.lst xs) ∧ p ≠ a ∧ p ≠ c ∧ xs ≠ [] ∧ xs.length ≤ 100000 ∧
  ∀ (H' : Hp) (v : V), v ∈ xs → Rng a c H' → Fra a c H H' → Q v H'
theorem len_pick {vs : List V} {H : Hp} {Q : VK} {E : XK} (h : spPick vs H Q E) : vs.length = 2 := by
  obtain ⟨a, c, p, xs, rfl, _⟩ := h
  rfl
def t_pick : TS := (tRet (tOp rIxA (tVar 1) (tCall spDraw [] E0 (tCons (tVar 0) (tCons (tCB rLenA (tCons (tVar 1) tNil)) tNil)))))
theorem pure_pick {N : List Str} (vs : List V) (H : Hp) (Q : VK) (E : XK) (h : spPick vs H Q E) (hN : N.length = 2) : t_pick { nx := fun _ H' => Q .non H', rt := Q } (L2.start N vs) H := by
  obtain ⟨a, c, p, xs, rfl, R, hp, n1, n2, hx, hz, k⟩ := h
  have es : L2.start N [V.ref a, .ref p] = [some (.ref a), some (.ref p)] := by
    unfold L2.start
    rw [hN]
    rfl
  rw [es]
  unfold t_pick
  walk_at "s"
  try refine i_lenL hp ?_
  walk_at "s"
  have hl : 0 < xs.length := List.length_pos_iff.mpr hx
  refine ⟨a, c, xs.length, rfl, by omega, by omega, R, fun H' r h0 h1 R' fr => ?_⟩
  have hp' : H' p = some (.lst xs) := by rw [fr p n1 n2]; exact hp
  obtain ⟨j, rfl⟩ : ∃ j : Nat, r = (j : Int) := ⟨r.toNat, by omega⟩
  have hj : j < xs.length := by omega
  refine i_ixL hp' (atI_nat (List.getElem?_eq_getElem hj)) ?_
  exact k H' _ (List.getElem_mem hj) R' fr
def spState (K : PySem.W.Frag) : Sp := fun vs H Q _ => ∃ (s : Addr) (ns : List Int), vs = [.ref s] ∧ SqL K H s (ns.map V.int) ∧ ns.length ≤ 63 ∧
  ∀ (H' : Hp) (a c : Addr), Same H H' → Rng a c H' → H a = none → H c = none → Q (.ref a) H'
theorem len_state {K : PySem.W.Frag} {vs : List V} {H : Hp} {Q : VK} {E : XK} (h : spState K vs H Q E) : vs.length = 1 := by
  obtain ⟨a, ns, rfl, _⟩ := h
  rfl
def t_state (K : PySem.W.Frag) : TS :=
  (tSeq (tAsg (tC (.int 7)) (gName 1)) (tSeq (tFor (iList K (tVar 0)) (gName 2) (tAsg (tOp (rI (fun _ j => 0 < j) fun i j => .int (i % j)) (tCB rIntA (tCons (tOp rAddA (tOp rMulA (tVar 1) (tC (.int 31))) (tVar 2)) tNil)) (tC (.int 1000003))) (gName 1))) (tRet (tLst (tCons (tLc (iList K (tVar 0)) (gName 2) tYes (tCB rAbsA (tCons (tVar 2) tNil)) [2]) (tCons (tOp rAddA (tVar 1) (tC (.int 1))) tNil))))))
theorem ints_at {ns : List Int} {i : Nat} {x : V} (h : (ns.map V.int)[i]? = some x) : ∃ z, x = .int z ∧ ns[i]? = some z := by
  rw [List.getElem?_map] at h
  cases e : ns[i]? with
  | none => rw [e] at h; cases h
  | some z => rw [e] at h; exact ⟨z, (Option.some.inj h).symm, rfl⟩
theorem pure_state (K : PySem.W.Frag) {N : List Str} (vs : List V) (H : Hp) (Q : VK) (E : XK) (h : spState K vs H Q E) (hN : N.length = 3) : t_state K { nx := fun _ H' => Q .non H', rt := Q } (L2.start N vs) H := by
  obtain ⟨s, ns, rfl, hS, hl, k⟩ := h
  have es : L2.start N [V.ref s] = [some (.ref s), none, none] := by
    unfold L2.start
    rw [hN]
    rfl
  rw [es]
  unfold t_state
  walk_at "s"
  refine i_forL (ns.map V.int) (fun i σ H' => H' = H ∧ ∃ (z : Int) (v : Option V), 0 ≤ z ∧ σ = [some (.ref s), some (.int z), v]) ⟨rfl, 7, none, by decide, rfl⟩ (fun i σ H' ⟨e, _⟩ => by rw [e]; exact hS) ?_ ?_
  · rintro i x σ H' hx ⟨rfl, z, v, hz, rfl⟩
    obtain ⟨y, rfl, _⟩ := ints_at hx
    walk_at "s"
    try refine i_mulI (.inr ⟨by decide, by decide⟩) ?_
    walk_at "s"
    refine i_rI (by show (0 : Int) < 1000003; decide) ?_
    walk_at "s"
    exact ⟨rfl, _, _, Int.emod_nonneg _ (by decide), rfl⟩
  · rintro σ H' ⟨rfl, z, v, hz, rfl⟩
    walk_at "s"
    refine ⟨⟨_, hS⟩, fun D hD => ?_⟩
    refine i_lcL (ns.map V.int) (fun i H2 => Same H' H2 ∧ ∃ ms : List Int, H2 D = some (.lst (ms.map V.int)) ∧ ms.length = i ∧ ∀ m ∈ ms, 0 ≤ m) ⟨Same.newp hD, [], upd_same, rfl, by simp⟩ (fun i H2 p => p.1.seq hS) ?_ ?_
    · rintro i x H2 hx ⟨sm, ms, hm, hml, hm0⟩
      obtain ⟨y, rfl, hy⟩ := ints_at hx
      have hi : i < ns.length := (List.getElem?_eq_some_iff.mp hy).1
      walk_at "s"
      refine ⟨_, hm, by rw [List.length_map]; exact szl (by omega), fun b o e => ?_, ms ++ [if y < 0 then -y else y], ?_, by rw [List.length_append, hml]; rfl, fun q hq => ?_⟩
      · rw [upd_ne (ne_of_none e hD)]
        exact sm b o e
      · rw [upd_same, List.map_append]
        rfl
      · rcases List.mem_append.mp hq with e | e
        · exact hm0 q e
        · rw [List.mem_singleton.mp e]
          split <;> omega
    · rintro H2 ⟨sm, ms, hm, hml, hm0⟩
      walk_at "s"
      refine ⟨sz (by simp), fun p hp => ?_⟩
      have npD : p ≠ D := fun e => by rw [e, hm] at hp; cases hp
      refine k _ p D (sm.trans (Same.newp hp)) ⟨npD, ms, z + 1, upd_same, by rw [upd_ne npD.symm]; exact hm, hm0, by omega⟩ (sm.free hp) hD

end Lb
set_option Elab.async false
set_option linter.all false
set_option maxRecDepth 100000
set_option maxHeartbeats 4000000
/-! Le: data that may be compared, heaps that only grow. Knows no program. -/
namespace Lb
open PySem PySem.Spec PyProof.Rows L2
/-- data without dicts, at most n deep -/
def Sh (n : Nat) (d : PyData) : Prop := d.canLay0 = true ∧ d.depth ≤ n
def ShA (n : Nat) (ds : List PyData) : Prop := PyData.canLayAll0 ds = true ∧ PyData.depthAll ds ≤ n
section
variable {n m : Nat} {d : PyData} {ds es : List PyData}
theorem Sh.shp (h : Sh n d) (hn : n ≤ 64 := by decide) : Shp d := by
  unfold Shp SeqAt.shaped
  rw [h.1, Bool.true_and, decide_eq_true (Nat.le_trans h.2 hn)]
theorem Sh.mono (h : Sh n d) (hn : n ≤ m) : Sh m d := ⟨h.1, Nat.le_trans h.2 hn⟩
theorem ShA.mono (h : ShA n ds) (hn : n ≤ m) : ShA m ds := ⟨h.1, Nat.le_trans h.2 hn⟩
theorem Sh.non : Sh n .none := ⟨rfl, Nat.zero_le _⟩
theorem Sh.bl {b : Bool} : Sh n (.bool b) := ⟨rfl, Nat.zero_le _⟩
theorem Sh.int {i : Int} : Sh n (.int i) := ⟨rfl, Nat.zero_le _⟩
theorem Sh.str {x : Str} (h : PyData.canLay0 (.str x) = true) : Sh n (.str x) := ⟨h, Nat.zero_le _⟩
theorem Sh.lst (h : ShA n ds) : Sh (n + 1) (.list ds) := ⟨h.1, Nat.succ_le_succ h.2⟩
theorem Sh.tup (h : ShA n ds) : Sh (n + 1) (.tuple ds) := ⟨h.1, Nat.succ_le_succ h.2⟩
theorem ShA.nil : ShA n [] := ⟨rfl, Nat.zero_le _⟩
theorem ShA.cons (h : Sh n d) (k : ShA n ds) : ShA n (d :: ds) := by
  refine ⟨?_, Nat.max_le.mpr ⟨h.2, k.2⟩⟩
  show (d.canLay0 && PyData.canLayAll0 ds) = true
  rw [h.1, k.1]
  rfl
theorem ShA.all : ∀ {ds : List PyData}, (∀ d ∈ ds, Sh n d) → ShA n ds
  | [], _ => .nil
  | d :: r, h => .cons (h d List.mem_cons_self) (ShA.all fun e he => h e (List.mem_cons_of_mem _ he))
theorem ShA.ints {ns : List Int} : ShA n (ns.map PyData.int) := .all fun d h => by
  obtain ⟨i, _, rfl⟩ := List.mem_map.mp h
  exact .int
theorem ShA.append (h : ShA n ds) (k : ShA n es) : ShA n (ds ++ es) := by
  induction ds with
  | nil => exact k
  | cons d r ih =>
    have h1 : (d.canLay0 && PyData.canLayAll0 r) = true := h.1
    have h2 := Bool.and_eq_true_iff.mp h1
    have h3 := Nat.max_le.mp h.2
    exact .cons ⟨h2.1, h3.1⟩ (ih ⟨h2.2, h3.2⟩)
end
section
variable {a c p : Addr} {H H' : Hp} {o : HO}
theorem Rng.same (R : Rng a c H) (s : Same H H') : Rng a c H' := by
  obtain ⟨ne, ns, m, ha, hc, hn, hm⟩ := R
  exact ⟨ne, ns, m, s _ _ ha, s _ _ hc, hn, hm⟩
theorem Gr.same (s : Same H H') : Gr a c H H' := Lb.Same.hid s
/-- what stands beside the two places stands -/
theorem Gr.keep (g : Gr a c H H') (h1 : p ≠ a) (h2 : p ≠ c) (e : H p = some o) : H' p = some o := g.at (by rw [hid_out (hid2 h1 h2)]; exact e)
theorem hid_of (h1 : p ≠ a) (h2 : p ≠ c) (e : H p = some o) : hid [a, c] H p = some o := by
  rw [hid_out (hid2 h1 h2)]
  exact e
theorem hid_upd_ne {b : Addr} {S : List Addr} (h : b ≠ p) : hid S (upd H p o) b = hid S H b := by
  by_cases q : b ∈ S
  · rw [hid_in q, hid_in q]
  · rw [hid_out q, hid_out q, upd_ne h]
end
end Lb
set_option Elab.async false
set_option linter.all false
set_option maxRecDepth 100000
set_option maxHeartbeats 4000000
/-! From a def's facts to its callable. -/
namespace Lb
open PySem PySem.Spec PyProof.Rows L2
section
variable {P : Program} {w : World} {K : PySem.W.Frag} {h : Heap} {mg : Str → Option Value} {base : Heap} {x m cls qual name : Str} {k : Nat} {ps : List Str} {sp : Sp} {f : Addr} {fd : FuncData}
variable {params : Arguments} {body : List Stmt} {scope : Scope}
def spF : Sp := fun _ _ _ _ => False
theorem okF : FnOk P w K mg base CX0 k f fd ps spF := ⟨fun _ _ _ _ q => False.elim q, fun _ _ _ _ _ _ _ _ _ _ _ _ _ q => False.elim q⟩
theorem mkCal (F : FunD K name qual params body scope [] [] f fd) (g : mg x = some (.ref f)) (hb : Binds K fd ps []) (O : FnOk P w K mg base CX0 k f fd ps sp) : Cal P w K mg base x k ps sp := ⟨⟨_, _, g, F.kp, hb, O⟩⟩
theorem mkCalM {C : Addr} (hc : Cls K C) (hm : Meth K C m f) (hb : Binds K fd ps []) (O : FnOk P w K mg base CX0 k f fd ps sp) : CalM P w K mg base C m k ps sp := ⟨⟨_, _, hc, hm, hb, O⟩⟩
theorem mkCalC {C : Addr} (g : mg x = some (.ref C)) (M : Mk K C f) (hb : Binds K fd ps []) (O : FnOk P w K mg base CX0 k f fd ps sp) : CalC P w K mg base x C k ps sp := ⟨⟨_, _, g, M, hb, O⟩⟩
theorem Cal.up {j : Nat} (c : Cal P w K mg base x j ps sp) (hl : j ≤ k) : Cal P w K mg base x k ps sp := by
  obtain ⟨f, fd, g, kp, hb, O⟩ := c.ex
  exact ⟨⟨f, fd, g, kp, hb, O.mono hl⟩⟩
theorem Cal.weak {sp' : Sp} (c : Cal P w K mg base x k ps sp) (hs : ∀ vs H Q E, sp' vs H Q E → sp vs H Q E) : Cal P w K mg base x k ps sp' := by
  obtain ⟨f, fd, g, kp, hb, O⟩ := c.ex
  exact ⟨⟨f, fd, g, kp, hb, O.imp hs⟩⟩
theorem look_cf {c : Str → NameKind → Bool} {x : Str} : ∀ {names : List (Str × NameKind)}, names.lookup x = some .cell ∨ names.lookup x = some .free → (names.map fun (n, k) => if c n k = true then (n, NameKind.cell) else (n, k)).lookup x = some .cell ∨ (names.map fun (n, k) => if c n k = true then (n, NameKind.cell) else (n, k)).lookup x = some .free
  | [], h => by rcases h with h | h <;> cases h
  | (n, k) :: r, h => by
    show List.lookup x ((if c n k = true then (n, NameKind.cell) else (n, k)) :: _) = _ ∨ List.lookup x ((if c n k = true then (n, NameKind.cell) else (n, k)) :: _) = _
    by_cases e : x = n
    · subst e
      have h2 : k = .cell ∨ k = .free := by
        rcases h with h | h
        · rw [List.lookup_cons_self] at h
          exact .inl (Option.some.inj h)
        · rw [List.lookup_cons_self] at h
          exact .inr (Option.some.inj h)
      by_cases q : c x k = true
      · rw [if_pos q, List.lookup_cons_self]
        exact .inl rfl
      · rw [if_neg q, List.lookup_cons_self]
        rcases h2 with z | z <;> rw [z]
        · exact .inl rfl
        · exact .inr rfl
    · have hb : (x == n) = false := beq_false_of_ne e
      have h2 : r.lookup x = some .cell ∨ r.lookup x = some .free := by
        simp only [List.lookup, hb] at h
        exact h
      have ih := look_cf (c := c) h2
      by_cases q : c n k = true
      · rw [if_pos q]
        simp only [List.lookup, hb]
        exact ih
      · rw [if_neg q]
        simp only [List.lookup, hb]
        exact ih
theorem blkOk_in {N : List Str} {sc scope2 : Scope} {own : List (Str × Nat)} {cl : List (Str × Addr)} {C : Addr} {e : Env} (h : blkC N sc scope2 own = true) : BlkOk N (compEnvC sc cl C e).scope scope2 own := by
  have b := blkOk_by h
  exact ⟨b.kind, b.uniq, b.ix, fun y hy q => look_cf (c := fun n k => (k == NameKind.free && e.scope.kind == .function && e.kindOf n == some .cell)) (b.free y hy q), b.own⟩
theorem gv_int (X : K.In h) (G : h.Ns mainGlobals mg) {i : Int} (c : (He.Fa.int x i).ok K = true) : GV mg x (.int i) := by
  obtain ⟨t, e⟩ := He.int_ok X G c
  exact ⟨⟨_, e, t, rfl⟩⟩
theorem gv_str (X : K.In h) (G : h.Ns mainGlobals mg) {i : Str} (c : (He.Fa.str x i).ok K = true) : GV mg x (.str i) := by
  obtain ⟨t, e⟩ := He.str_ok X G c
  exact ⟨⟨_, e, t, rfl⟩⟩
theorem gv_glo (X : K.In h) (G : h.Ns mainGlobals mg) (c : (He.Fa.glo x).ok K = true) : GV mg x (.ref (He.ga K x)) := ⟨⟨_, He.glo_ok X G c, rfl⟩⟩
end
end Lb
set_option Elab.async false
set_option linter.all false
set_option maxRecDepth 100000
set_option maxHeartbeats 4000000
/-! Lo: what a walk owns: places that it may change, each with its contents, beside a part of the heap that stays. Knows no program. -/
namespace Lb
open PySem PySem.Spec PyProof.Rows L2
structure Own (a c : Addr) (B H : Hp) (ls : List (Addr × HO)) : Prop where
  R : Rng a c H
  keep : Same B H
  nd : (ls.map Prod.fst).Nodup
  out : ∀ x ∈ ls, B x.1 = none ∧ x.1 ≠ a ∧ x.1 ≠ c
  here : ∀ x ∈ ls, H x.1 = some x.2
  ha : B a = none
  hc : B c = none
inductive Up1 (p : Addr) (o o' : HO) : List (Addr × HO) → List (Addr × HO) → Prop
  | here {r : List (Addr × HO)} : Up1 p o o' ((p, o) :: r) ((p, o') :: r)
  | there {x : Addr × HO} {r r' : List (Addr × HO)} (h : Up1 p o o' r r') : Up1 p o o' (x :: r) (x :: r')
section
variable {a c p : Addr} {B H H' : Hp} {o o' : HO} {ls ls' l1 l2 : List (Addr × HO)}
theorem Up1.mem (h : Up1 p o o' ls ls') : (p, o) ∈ ls := by
  induction h with
  | here => exact List.mem_cons_self
  | there _ ih => exact List.mem_cons_of_mem _ ih
theorem Up1.fst (h : Up1 p o o' ls ls') : ls'.map Prod.fst = ls.map Prod.fst := by
  induction h with
  | here => rfl
  | there _ ih => rw [List.map_cons, List.map_cons, ih]
theorem Up1.of (h : Up1 p o o' ls ls') : ∀ x ∈ ls', x = (p, o') ∨ x ∈ ls := by
  induction h with
  | here => exact fun x hx => (List.mem_cons.mp hx).imp id (List.mem_cons_of_mem _)
  | there _ ih =>
    intro x hx
    rcases List.mem_cons.mp hx with e | e
    · exact .inr (by rw [e]; exact List.mem_cons_self)
    · exact (ih x e).imp id (List.mem_cons_of_mem _)
theorem Up1.other (h : Up1 p o o' ls ls') (nd : (ls.map Prod.fst).Nodup) : ∀ x ∈ ls', x = (p, o') ∨ (x ∈ ls ∧ x.1 ≠ p) := by
  induction h with
  | here =>
    intro x hx
    rcases List.mem_cons.mp hx with e | e
    · exact .inl e
    · refine .inr ⟨List.mem_cons_of_mem _ e, fun q => ?_⟩
      have h1 := (List.nodup_cons.mp nd).1
      exact h1 (by
        have z := List.mem_map_of_mem (f := Prod.fst) e
        rw [q] at z
        exact z)
  | @there y r r' k ih =>
    intro x hx
    have h1 := List.nodup_cons.mp nd
    rcases List.mem_cons.mp hx with e | e
    · refine .inr ⟨by rw [e]; exact List.mem_cons_self, fun q => ?_⟩
      exact h1.1 (by rw [← e, q]; exact List.mem_map_of_mem (f := Prod.fst) k.mem)
    · exact (ih h1.2 x e).imp id fun z => ⟨List.mem_cons_of_mem _ z.1, z.2⟩
theorem Own.mem (O : Own a c B H ls) (h : (p, o) ∈ ls) : H p = some o := O.here _ h
theorem Own.kp (O : Own a c B H ls) (h : B p = some o) : H p = some o := O.keep _ _ h
theorem Own.draw (O : Own a c B H ls) (R : Rng a c H') (f : Fra a c H H') : Own a c B H' ls := by
  refine ⟨R, fun b o e => ?_, O.nd, O.out, fun x hx => ?_, O.ha, O.hc⟩
  · rw [f b (fun q => by rw [q, O.ha] at e; cases e) fun q => by rw [q, O.hc] at e; cases e]
    exact O.keep _ _ e
  · rw [f _ (O.out x hx).2.1 (O.out x hx).2.2]
    exact O.here x hx
theorem Own.same (O : Own a c B H ls) (s : Same H H') : Own a c B H' ls := ⟨O.R.same s, fun b o e => s _ _ (O.keep _ _ e), O.nd, O.out, fun x hx => s _ _ (O.here x hx), O.ha, O.hc⟩
theorem Own.set (O : Own a c B H ls) (h : Up1 p o o' ls ls') : Own a c B (upd H p o') ls' := by
  have hp := O.out _ h.mem
  refine ⟨O.R.upd hp.2.1 hp.2.2, fun b u e => ?_, by rw [h.fst]; exact O.nd, fun x hx => ?_, fun x hx => ?_, O.ha, O.hc⟩
  · rw [upd_ne (fun q => by rw [q, hp.1] at e; cases e)]
    exact O.keep _ _ e
  · rcases h.of x hx with e | e
    · rw [e]
      exact hp
    · exact O.out x e
  · rcases h.other O.nd x hx with e | e
    · rw [e]
      exact upd_same
    · rw [upd_ne e.2]
      exact O.here x e.1
theorem Own.new (O : Own a c B H ls) (hp : H p = none) : Own a c B (upd H p o) ((p, o) :: ls) := by
  obtain ⟨n1, n2⟩ := O.R.fresh hp
  have hb : B p = none := by
    cases e : B p with
    | none => rfl
    | some u => rw [O.keep _ _ e] at hp; cases hp
  have hne : ∀ x ∈ ls, x.1 ≠ p := fun x hx q => by
    have := O.here x hx
    rw [q, hp] at this
    cases this
  refine ⟨O.R.upd n1 n2, fun b u e => ?_, ?_, fun x hx => ?_, fun x hx => ?_, O.ha, O.hc⟩
  · rw [upd_ne (fun q => by rw [q, hb] at e; cases e)]
    exact O.keep _ _ e
  · rw [List.map_cons]
    refine List.nodup_cons.mpr ⟨fun q => ?_, O.nd⟩
    obtain ⟨x, hx, e⟩ := List.mem_map.mp q
    exact hne x hx e
  · rcases List.mem_cons.mp hx with e | e
    · rw [e]
      exact ⟨hb, n1, n2⟩
    · exact O.out x e
  · rcases List.mem_cons.mp hx with e | e
    · rw [e]
      exact upd_same
    · rw [upd_ne (hne x e)]
      exact O.here x e
theorem Own.perm (O : Own a c B H ls) (h : ls.Perm ls') : Own a c B H ls' :=
  ⟨O.R, O.keep, (h.map _).nodup_iff.mp O.nd, fun x hx => O.out x (h.mem_iff.mpr hx), fun x hx => O.here x (h.mem_iff.mpr hx), O.ha, O.hc⟩
/-- the contents of a part of what is owned -/
def cellsH (ls : List (Addr × HO)) : Hp := fun p => ls.lookup p
theorem look_mem {x : Addr × HO} : ∀ {ls : List (Addr × HO)}, (ls.map Prod.fst).Nodup → x ∈ ls → ls.lookup x.1 = some x.2
  | [], _, h => by cases h
  | y :: r, nd, h => by
    have h1 := List.nodup_cons.mp nd
    rcases List.mem_cons.mp h with e | e
    · rw [e]
      show (match y.1 == y.1 with | true => some y.2 | false => r.lookup y.1) = _
      rw [beq_self_eq_true]
    · have ne : ¬ x.1 = y.1 := fun q => h1.1 (by rw [← q]; exact List.mem_map_of_mem e)
      show (match x.1 == y.1 with | true => some y.2 | false => r.lookup x.1) = _
      rw [beq_false_of_ne ne]
      exact look_mem h1.2 e
theorem look_none {p : Addr} : ∀ {ls : List (Addr × HO)}, p ∉ ls.map Prod.fst → ls.lookup p = none
  | [], _ => rfl
  | y :: r, h => by
    have ne : ¬ p = y.1 := fun q => h (by rw [q]; exact List.mem_cons_self)
    show (match p == y.1 with | true => some y.2 | false => r.lookup p) = _
    rw [beq_false_of_ne ne]
    exact look_none fun q => h (List.mem_cons_of_mem _ q)
/-- a part of it stays from now on -/
theorem Own.hide (O : Own a c B H (l1 ++ l2)) : ∃ B', Same B B' ∧ (∀ x ∈ l1, B' x.1 = some x.2) ∧ (∀ q ∉ l1.map Prod.fst, B' q = B q) ∧ Own a c B' H l2 := by
  have nd : (l1.map Prod.fst ++ l2.map Prod.fst).Nodup := by
    rw [← List.map_append]
    exact O.nd
  obtain ⟨n1, n2, n3⟩ := List.nodup_append.mp nd
  have key : ∀ q ∉ l1.map Prod.fst, (match l1.lookup q with | some o => some o | none => B q) = B q := fun q hq => by rw [look_none hq]
  have at1 : ∀ x ∈ l1, (match l1.lookup x.1 with | some o => some o | none => B x.1) = some x.2 := fun x hx => by rw [look_mem n1 hx]
  refine ⟨fun q => match l1.lookup q with | some o => some o | none => B q, fun b u e => ?_, at1, key, O.R, fun b u e => ?_, n2, fun x hx => ?_, fun x hx => O.here x (List.mem_append_right _ hx), ?_, ?_⟩
  · refine (key b fun hq => ?_).trans e
    obtain ⟨x, hx, ex⟩ := List.mem_map.mp hq
    have := (O.out x (List.mem_append_left _ hx)).1
    rw [ex, e] at this
    cases this
  · by_cases hq : b ∈ l1.map Prod.fst
    · obtain ⟨x, hx, ex⟩ := List.mem_map.mp hq
      rw [← ex] at e ⊢
      have e2 : some x.2 = some u := (at1 x hx).symm.trans e
      rw [← e2]
      exact O.here x (List.mem_append_left _ hx)
    · exact O.keep _ _ ((key b hq).symm.trans e)
  · have o1 := O.out x (List.mem_append_right _ hx)
    refine ⟨?_, o1.2⟩
    exact (key _ fun hq => n3 _ hq _ (List.mem_map_of_mem hx) rfl).trans o1.1
  · show (match l1.lookup a with | some o => some o | none => B a) = none
    rw [key a fun hq => ?_]
    · exact O.ha
    obtain ⟨x, hx, ex⟩ := List.mem_map.mp hq
    exact (O.out x (List.mem_append_left _ hx)).2.1 ex
  · show (match l1.lookup c with | some o => some o | none => B c) = none
    rw [key c fun hq => ?_]
    · exact O.hc
    obtain ⟨x, hx, ex⟩ := List.mem_map.mp hq
    exact (O.out x (List.mem_append_left _ hx)).2.2 ex
theorem Own.freeze (O : Own a c B H ((p, o) :: ls)) : ∃ B', Same B B' ∧ B' p = some o ∧ Own a c B' H ls := by
  obtain ⟨B', s, h, _, O'⟩ := Own.hide (l1 := [(p, o)]) O
  exact ⟨B', s, h _ List.mem_cons_self, O'⟩
/-- .. and is owned again -/
theorem Own.unhide (O : Own a c B H l2) (nd : (l1.map Prod.fst).Nodup) (h : ∀ x ∈ l1, B x.1 = some x.2) : Own a c (hid (l1.map Prod.fst) B) H (l1 ++ l2) := by
  refine ⟨O.R, fun b u e => O.keep _ _ (hid_some e).1, ?_, fun x hx => ?_, fun x hx => ?_, ?_, ?_⟩
  · rw [List.map_append]
    refine List.nodup_append.mpr ⟨nd, O.nd, fun u hu v hv e => ?_⟩
    obtain ⟨x, hx, ex⟩ := List.mem_map.mp hu
    obtain ⟨y, hy, ey⟩ := List.mem_map.mp hv
    have h1 := h x hx
    have h2 := (O.out y hy).1
    rw [ey, ← e, ← ex, h1] at h2
    cases h2
  · rcases List.mem_append.mp hx with e | e
    · refine ⟨hid_in (List.mem_map_of_mem e), fun q => ?_, fun q => ?_⟩
      · have := h x e
        rw [q, O.ha] at this
        cases this
      · have := h x e
        rw [q, O.hc] at this
        cases this
    · refine ⟨?_, (O.out x e).2⟩
      by_cases q : x.1 ∈ l1.map Prod.fst
      · exact hid_in q
      · rw [hid_out q]
        exact (O.out x e).1
  · rcases List.mem_append.mp hx with e | e
    · exact O.keep _ _ (h x e)
    · exact O.here x e
  · by_cases q : a ∈ l1.map Prod.fst
    · exact hid_in q
    · rw [hid_out q]
      exact O.ha
  · by_cases q : c ∈ l1.map Prod.fst
    · exact hid_in q
    · rw [hid_out q]
      exact O.hc
theorem Same.hidO {l : List Addr} (s : Same B H) (h : ∀ p ∈ l, B p = none) : Same B (Lb.hid l H) := fun b u e => by
  rw [hid_out fun q => by rw [h b q] at e; cases e]
  exact s _ _ e
end
/-- what came since -/
inductive Pre (l0 : List (Addr × HO)) : List (Addr × HO) → List (Addr × HO) → Prop
  | nil : Pre l0 l0 []
  | cons {x : Addr × HO} {l l1 : List (Addr × HO)} (h : Pre l0 l l1) : Pre l0 (x :: l) (x :: l1)
inductive PutF (f : Str) (y : V) : List (Str × V) → List (Str × V) → Prop
  | nil : PutF f y [] [(f, y)]
  | here {x : V} {r : List (Str × V)} : PutF f y ((f, x) :: r) ((f, y) :: r)
  | there {g : Str} {x : V} {r r' : List (Str × V)} (n : ¬ g = f) (h : PutF f y r r') : PutF f y ((g, x) :: r) ((g, x) :: r')
inductive LkF (f : Str) (v : Option V) : List (Str × V) → Prop
  | nil (h : v = none) : LkF f v []
  | here {x : V} {r : List (Str × V)} (h : v = some x) : LkF f v ((f, x) :: r)
  | there {g : Str} {x : V} {r : List (Str × V)} (n : ¬ f = g) (h : LkF f v r) : LkF f v ((g, x) :: r)
section
variable {a c p : Addr} {B H H' : Hp} {o o' : HO} {ls ls' l0 l1 l2 : List (Addr × HO)} {f : Str} {y : V} {fs fs' : List (Str × V)} {w : Option V}
theorem Pre.eq (h : Pre l0 l1 l2) : l1 = l2 ++ l0 := by
  induction h with
  | nil => rfl
  | cons _ ih => rw [ih]; rfl
theorem PutF.eq (h : PutF f y fs fs') : putF f y fs = fs' := by
  induction h with
  | nil => rfl
  | here => exact if_pos rfl
  | there n _ ih => exact (if_neg n).trans (by rw [ih])
theorem LkF.eq (h : LkF f w fs) : fs.lookup f = w := by
  induction h with
  | nil e => exact e.symm
  | @here x r e =>
    show (match f == f with | true => some x | false => r.lookup f) = w
    rw [beq_self_eq_true]
    exact e.symm
  | @there g x r n _ ih =>
    show (match f == g with | true => some x | false => r.lookup f) = w
    rw [beq_false_of_ne n]
    exact ih
theorem Own.settle (O : Own a c B H ls) (h : Pre l0 ls l1) : ∃ B', Same B B' ∧ (∀ x ∈ l1, B' x.1 = some x.2) ∧ Own a c B' H l0 := by
  rw [h.eq] at O
  obtain ⟨B', s, k, _, O'⟩ := O.hide
  exact ⟨B', s, k, O'⟩
theorem Own.drop (O : Own a c B H (l1 ++ l2)) : Own a c B H l2 :=
  ⟨O.R, O.keep, (by
    have nd := O.nd
    rw [List.map_append] at nd
    exact (List.nodup_append.mp nd).2.1), fun x hx => O.out x (List.mem_append_right _ hx), fun x hx => O.here x (List.mem_append_right _ hx), O.ha, O.hc⟩
theorem Own.dropP (O : Own a c B H ls) (h : Pre l0 ls l1) : Own a c B H l0 := by
  rw [h.eq] at O
  exact O.drop
theorem Own.start (R : Rng a c H) : Own a c (hid [a, c] H) H [] := ⟨R, hid_sub, List.nodup_nil, fun _ h => (List.not_mem_nil h).elim, fun _ h => (List.not_mem_nil h).elim, hid_in List.mem_cons_self, hid_in (List.mem_cons_of_mem _ List.mem_cons_self)⟩
end
/-! ### steps by what is owned -/
section
variable {a c p : Addr} {B H : Hp} {ls ls' : List (Addr × HO)} {Q : VK} {xs : List V} {o : HO} {σ : L2.St}
/-- a new place -/
def NewO (o : HO) (H : Hp) (Q : VK) : Prop := ∀ p, H p = none → Q (.ref p) (upd H p o)
def FldS (K : PySem.W.Frag) (x : V) (f : Str) (y : V) (H : Hp) (R : Hp → Prop) : Prop := ∃ a C dx fs, x = .ref a ∧ H a = some (.ins C dx fs) ∧ Cls K C ∧ NoAttr K C f ∧ fs.length < 1000 ∧ R (upd H a (.ins C dx (putF f y fs)))
def NewI (C : Addr) (sp : Sp) (vs : List V) (H : Hp) (Q : VK) (E : XK) : Prop := ∀ x dx, H x = none → H dx = none → dx ≠ x → sp (.ref x :: vs) (upd (upd H dx (.own x)) x (.ins C dx [])) (fun v H2 => v = .non ∧ Q (.ref x) H2) E
theorem i_tupN {t : TA} (q : t σ H fun xs H1 => xs.length ≤ sizeLine ∧ NewO (.tup xs) H1 Q) : tTup t σ H Q := q
theorem i_lstN {t : TA} (q : t σ H fun xs H1 => xs.length ≤ sizeLine ∧ NewO (.lst xs) H1 Q) : tLst t σ H Q := q
theorem i_dnewN (q : NewO (.dK []) H Q) : tDNewK σ H Q := q
theorem i_fldSN {K : PySem.W.Frag} {ta tv : TE} {f : Str} {nx : L2.St → Hp → Prop} {rt : VK} {bk ct : L2.St → Hp → Prop} (q : tv σ H fun y H1 => ta σ H1 fun x H2 => FldS K x f y H2 fun H3 => nx σ H3) : sFld K ta tv f ⟨nx, rt, bk, ct⟩ σ H := q
theorem i_makeN {C : Addr} {sp : Sp} {E : XK} {t : TA} (q : t σ H fun vs H1 => NewI C sp (vs ++ []) H1 Q E) : tMake C sp [] E t σ H Q := q
theorem i_listN {p : Addr} (h : H p = some (.lst xs)) (k : NewO (.lst xs) H Q) : rListA [.ref p] H Q := i_listL h k
theorem i_listTN {p : Addr} (h : H p = some (.tup xs)) (k : NewO (.lst xs) H Q) : rListA [.ref p] H Q := i_listT h k
theorem i_addN {p q : Addr} {ys : List V} (h1 : H p = some (.lst xs)) (h2 : H q = some (.lst ys)) (h : xs.length + ys.length ≤ sizeLine) (k : NewO (.lst (xs ++ ys)) H Q) : rAddA (.ref p) (.ref q) H Q := i_addL h1 h2 h k
theorem i_tupO (O : Own a c B H ls) (hz : xs.length ≤ sizeLine) (k : ∀ p H', Own a c B H' ((p, .tup xs) :: ls) → Q (.ref p) H') : xs.length ≤ sizeLine ∧ NewO (.tup xs) H Q := ⟨hz, fun p hp => k p _ (O.new hp)⟩
theorem i_lstO (O : Own a c B H ls) (hz : xs.length ≤ sizeLine) (k : ∀ p H', Own a c B H' ((p, .lst xs) :: ls) → Q (.ref p) H') : xs.length ≤ sizeLine ∧ NewO (.lst xs) H Q := ⟨hz, fun p hp => k p _ (O.new hp)⟩
theorem i_newO (O : Own a c B H ls) (k : ∀ p H', Own a c B H' ((p, o) :: ls) → Q (.ref p) H') : NewO o H Q := fun p hp => k p _ (O.new hp)
theorem i_dgetI {p : Addr} {kvs : List (Key × V)} {i : Int} {v : V} {R : V → Prop} (h : H p = some (.dK kvs)) (hv : valV kvs (.inl i) = some v) (q : R v) : (∃ a' v', V.ref p = .ref a' ∧ DGet H a' (.int i) (some v') ∧ R v') := i_dgetK h (k := .inl i) rfl hv q
inductive IxO : HO → Int → V → Prop
  | lst {xs : List V} {i : Int} {v : V} (h : atI xs i = some v) : IxO (.lst xs) i v
  | tup {xs : List V} {i : Int} {v : V} (h : atI xs i = some v) : IxO (.tup xs) i v
inductive LenO : HO → Int → Prop
  | lst {xs : List V} : LenO (.lst xs) xs.length
  | tup {xs : List V} : LenO (.tup xs) xs.length
  | dK {kvs : List (Key × V)} : LenO (.dK kvs) kvs.length
theorem i_ixA {p : Addr} {i : Int} {v : V} (h : H p = some o) (hi : IxO o i v) (q : Q v H) : rIxA (.ref p) (.int i) H Q := by
  cases hi with
  | lst hi => exact i_ixL h hi q
  | tup hi => exact i_ixT h hi q
theorem i_lenA {p : Addr} {i : Int} (h : H p = some o) (hi : LenO o i) (q : Q (.int i) H) : rLenA [.ref p] H Q := by
  cases hi with
  | lst => exact i_lenL h q
  | tup => exact i_lenT h q
  | dK => exact i_lenD h q
theorem i_appO {l : Addr} {y : V} (O : Own a c B H ls) (h : Up1 l (.lst xs) (.lst (xs ++ [y])) ls ls') (hz : xs.length < sizeLine) (k : ∀ H', Own a c B H' ls' → Q .non H') : rAppA (.ref l) [y] H Q := i_app (O.mem h.mem) hz (k _ (O.set h))
theorem i_setO {l : Addr} {i : Int} {j : Nat} {v : V} {R : Hp → Prop} (O : Own a c B H ls) (h : Up1 l (.lst xs) (.lst (xs.set j v)) ls ls') (hi : ixN xs.length i = some j) (k : ∀ H', Own a c B H' ls' → R H') : rSetA (.ref l) (.int i) v H R := i_setL (O.mem h.mem) hi (k _ (O.set h))
theorem i_popIO {l : Addr} {y : V} {i : Int} {j : Nat} (O : Own a c B H ls) (h : Up1 l (.lst xs) (.lst (xs.eraseIdx j)) ls ls') (hi : i = (j : Int)) (hj : j < 2 ^ 62) (hy : xs[j]? = some y) (k : ∀ H', Own a c B H' ls' → Q y H') : rPopI (.ref l) [.int i] H Q := by
  simp only [rPopI, O.mem h.mem]
  exact ⟨j, y, hi, hj, hy, k _ (O.set h)⟩
theorem i_popLO {l : Addr} {y : V} (O : Own a c B H ls) (h : Up1 l (.lst xs) (.lst xs.dropLast) ls ls') (hy : xs[xs.length - 1]? = some y) (k : ∀ H', Own a c B H' ls' → Q y H') : rPopL (.ref l) [] H Q := i_popL (O.mem h.mem) hy (k _ (O.set h))
theorem i_fldO {K : PySem.W.Frag} {l C dx : Addr} {fs : List (Str × V)} {f : Str} {v : V} {R : V → Prop} (h : H l = some (.ins C dx fs)) (hc : Cls K C) (hn : NoAttr K C f) (hv : LkF f (some v) fs) (k : R v) :
    (∃ a C dx fs v, V.ref l = .ref a ∧ H a = some (.ins C dx fs) ∧ Cls K C ∧ NoAttr K C f ∧ fs.lookup f = some v ∧ R v) := ⟨l, C, dx, fs, v, rfl, h, hc, hn, hv.eq, k⟩
theorem i_fldSO {K : PySem.W.Frag} {l C dx : Addr} {fs : List (Str × V)} {f : Str} {y : V} {R : Hp → Prop} (O : Own a c B H ls) {fs' : List (Str × V)} (h : Up1 l (.ins C dx fs) (.ins C dx fs') ls ls') (hf : PutF f y fs fs') (hc : Cls K C) (hn : NoAttr K C f) (hz : fs.length < 1000) (k : ∀ H', Own a c B H' ls' → R H') :
    FldS K (.ref l) f y H R := ⟨l, C, dx, fs, rfl, O.mem h.mem, hc, hn, hz, by rw [hf.eq]; exact k _ (O.set h)⟩
theorem i_methO {C l dx : Addr} {fs : List (Str × V)} {m : Str} {t : TA} {R : List V → Hp → Prop} (h : H l = some (.ins C dx fs)) (hm : LkF m none fs) (k : t σ H R) :
    (∃ a dx fs, V.ref l = .ref a ∧ H a = some (.ins C dx fs) ∧ fs.lookup m = none ∧ t σ H R) := ⟨l, dx, fs, rfl, h, hm.eq, k⟩
theorem i_mkd {R : Prop} (q : R) : (V.non = V.non ∧ R) := ⟨rfl, q⟩
theorem i_makeO {C : Addr} {sp : Sp} {E : XK} {vs : List V} (O : Own a c B H ls) (k : ∀ x dx H', Own a c B H' ((x, .ins C dx []) :: (dx, .own x) :: ls) → sp (.ref x :: vs) H' (fun v H2 => v = .non ∧ Q (.ref x) H2) E) : NewI C sp vs H Q E :=
  fun x dx hx hd ne => k x dx _ ((O.new hd).new (by rw [upd_ne ne.symm]; exact hx))
theorem i_drawO {s : Addr} {n : Int} {E : XK} (O : Own a c B H ls) (hs : s = a) (h0 : 0 < n) (h1 : n < 1073741824) (k : ∀ (r : Int) H', 0 ≤ r → r < n → Own a c B H' ls → Q (.int r) H') : spDraw ([.ref s, .int n] ++ []) H Q E := by
  subst hs
  exact ⟨_, c, n, rfl, h0, h1, O.R, fun H' r a1 a2 R f => k r H' a1 a2 (O.draw R f)⟩
theorem i_pickO {s p : Addr} {E : XK} (O : Own a c B H ls) (hs : s = a) (hp : (p, HO.lst xs) ∈ ls) (h0 : xs ≠ []) (h1 : xs.length ≤ 100000) (k : ∀ (v : V) H', v ∈ xs → Own a c B H' ls → Q v H') : spPick ([.ref s, .ref p] ++ []) H Q E := by
  subst hs
  exact ⟨_, c, p, xs, rfl, O.R, O.mem hp, (O.out _ hp).2.1, (O.out _ hp).2.2, h0, h1, fun H' v hv R f => k v H' hv (O.draw R f)⟩
/-! ### blocks of n alike -/
theorem blk_pull {α : Type} {n j : Nat} (h : j < n) (f : Nat → List α) : ((List.range n).flatMap f).Perm (f j ++ ((List.range n).erase j).flatMap f) := by
  have e := List.perm_cons_erase (List.mem_range.mpr h)
  exact (e.flatMap_right f)
theorem blk_other {α : Type} {n j : Nat} {f g : Nat → List α} (h : ∀ i, i ≠ j → g i = f i) : ((List.range n).erase j).flatMap g = ((List.range n).erase j).flatMap f := by
  have key : ∀ l : List Nat, j ∉ l → l.flatMap g = l.flatMap f := by
    intro l
    induction l with
    | nil => intro _; rfl
    | cons x r ih =>
      intro hj
      rw [List.flatMap_cons, List.flatMap_cons, h x (fun q => hj (by rw [q]; exact List.mem_cons_self)), ih fun q => hj (List.mem_cons_of_mem _ q)]
  exact key _ fun q => ((List.nodup_range).mem_erase_iff.mp q).1 rfl
theorem blk_below {α : Type} {n : Nat} {f g : Nat → List α} (h : ∀ i, i < n → g i = f i) : (List.range n).flatMap g = (List.range n).flatMap f := by
  have key : ∀ l : List Nat, (∀ i ∈ l, i < n) → l.flatMap g = l.flatMap f := by
    intro l
    induction l with
    | nil => intro _; rfl
    | cons x r ih =>
      intro hj
      rw [List.flatMap_cons, List.flatMap_cons, h x (hj x List.mem_cons_self), ih fun i hi => hj i (List.mem_cons_of_mem _ hi)]
  exact key _ fun i hi => List.mem_range.mp hi
theorem blk_succ {α : Type} {n : Nat} (f : Nat → List α) : (List.range (n + 1)).flatMap f = (List.range n).flatMap f ++ f n := by
  rw [List.range_succ, List.flatMap_append, List.flatMap_cons, List.flatMap_nil, List.append_nil]
theorem blk_join {α : Type} (f g : Nat → List α) : ∀ n, ((List.range n).flatMap f ++ (List.range n).flatMap g).Perm ((List.range n).flatMap fun i => f i ++ g i)
  | 0 => .nil
  | n + 1 => by
    rw [blk_succ, blk_succ, blk_succ]
    have ih := blk_join f g n
    refine List.Perm.trans ?_ (ih.append_right (f n ++ g n))
    rw [List.append_assoc, List.append_assoc]
    refine List.Perm.append_left _ ?_
    rw [← List.append_assoc, ← List.append_assoc]
    exact (List.perm_append_comm (l₁ := f n)).append_right _
/-- a def of the walk's own -/
def spIn (N : List Str) (n : Nat) (t : TS) : Sp := fun vs H Q _ => vs.length = n ∧ t { nx := fun _ H' => Q .non H', rt := Q } (L2.start N vs) H
inductive StE : List Str → List V → L2.St → Prop
  | nil : StE [] [] []
  | app {N : List Str} {vs : List V} {σ : L2.St} (h : StE N vs σ) : StE N (vs ++ []) σ
  | got {x : Str} {N : List Str} {v : V} {vs : List V} {σ : L2.St} (h : StE N vs σ) : StE (x :: N) (v :: vs) (some v :: σ)
  | lack {x : Str} {N : List Str} {σ : L2.St} (h : StE N [] σ) : StE (x :: N) [] (none :: σ)
theorem StE.eq {N : List Str} {vs : List V} {σ : L2.St} (h : StE N vs σ) : L2.start N vs = σ := by
  induction h with
  | nil => rfl
  | app _ ih => rw [List.append_nil]; exact ih
  | @got x N v vs σ _ ih =>
    rw [← ih]
    show (v :: vs).map some ++ List.replicate (N.length + 1 - (vs.length + 1)) none = some v :: (vs.map some ++ List.replicate (N.length - vs.length) none)
    rw [Nat.add_sub_add_right]
    rfl
  | @lack x N σ _ ih =>
    rw [← ih]
    rfl
theorem i_in {N : List Str} {n : Nat} {t : TS} {vs : List V} {σ : L2.St} {E : XK} (hn : vs.length = n) (hs : StE N vs σ) (q : t { nx := fun _ H' => Q .non H', rt := Q } σ H) : spIn N n t vs H Q E := ⟨hn, by rw [hs.eq]; exact q⟩
end
end Lb
set_option Elab.async false
set_option linter.all false
set_option maxRecDepth 100000
set_option maxHeartbeats 4000000
/-! Lp: attributes as targets, is of bools, index of ints. Knows no program. -/
namespace Lb
open PySem PySem.Spec PyProof.Rows L2
/-- o.f as a target -/
def gFld (K : PySem.W.Frag) (ta : TE) (f : Str) : TG := fun v σ H R => ta σ H fun x H1 => FldS K x f v H1 fun H2 => R σ H2
section
variable {X : Cx} {o : Expr} {f : Str} {ta : TE} {pos : Pos}
theorem pg_fld (ha : PE X o ta) : PG X (.Attribute o f pos) (gFld X.K ta f) := by
  refine ⟨fun pins s σ H v u Q I r h => ?_⟩
  refine PySem.W.kas_attr (thn (ha.run pins s σ H _ I h) fun ov s1 ⟨x, H1, I1, rx, a, C, dx, fs, ex, ea, c, n, l, q⟩ => ?_)
  subst ex
  obtain rfl : ov = Value.ref a := rx
  exact setattr_ok I1 ea c n l r fun s2 I2 => ⟨σ, _, I2, q⟩
end
section
variable {H : Hp} {Q : VK} {σ : L2.St}
theorem i_gfld {K : PySem.W.Frag} {ta : TE} {f : Str} {v : V} {R : L2.St → Hp → Prop} (q : ta σ H fun x H1 => FldS K x f v H1 fun H2 => R σ H2) : gFld K ta f v σ H R := q
theorem i_glst {K : PySem.W.Frag} {n : Nat} {t : TGs} {a : Addr} {xs : List V} {R : L2.St → Hp → Prop} (h : H a = some (.lst xs)) (hn : xs.length = n) (q : t xs σ H R) : gLst K n t (.ref a) σ H R := ⟨a, xs, rfl, SqL.of h, hn, q⟩
theorem i_isB {a b : Bool} (q : Q (.bl (decide (a = b))) H) : rIsB (.bl a) (.bl b) H Q := ⟨a, b, rfl, rfl, q⟩
theorem i_notB {a b : Bool} (q : Q (.bl (!decide (a = b))) H) : rNotB (.bl a) (.bl b) H Q := ⟨a, b, rfl, rfl, q⟩
theorem i_bm {K : PySem.W.Frag} {T : String} {r : V → List V → Hp → VK → Prop} {to : TE} {t : TA} (q : to σ H fun x H1 => tyV K T x H1 ∧ t σ H1 fun xs H2 => r x xs H2 Q) : tBM K T r to t σ H Q := q
theorem eqV_int {a b : Int} : eqV (.int a) (.int b) = decide (a = b) := by
  by_cases h : a = b <;> simp [eqV, h]
/-- xs.index(y), ints -/
theorem i_indexI {K : PySem.W.Frag} {p : Addr} {ns : List Int} {y : Int} {j : Nat} (h : H p = some (.lst (ns.map V.int))) (hj : ns[j]? = some y) (hn : ∀ m, m < j → ns[m]? ≠ some y) (q : Q (.int (j : Nat)) H) : rIndex K (.ref p) [.int y] H Q := by
  refine ⟨p, ns.map V.int, .int y, j, .int y, rfl, rfl, SqL.of h, rfl, ?_, ?_, ?_, fun m z' hm hz => ?_, q⟩
  · rw [List.all_eq_true]
    intro v hv
    obtain ⟨i, _, rfl⟩ := List.mem_map.mp hv
    rfl
  · rw [List.getElem?_map, hj]
    rfl
  · rw [eqV_int]
    exact decide_eq_true rfl
  · rw [List.getElem?_map] at hz
    cases e : ns[m]? with
    | none => rw [e] at hz; cases hz
    | some u =>
      rw [e] at hz
      rw [← Option.some.inj hz]
      show eqV (.int u) (.int y) = false
      rw [eqV_int]
      exact decide_eq_false fun q => hn m hm (by rw [e, q])
end
end Lb
set_option Elab.async false
set_option linter.all false
set_option maxRecDepth 100000
set_option maxHeartbeats 4000000
/-! K45: steps of a workspace. -/
namespace K45
open PySem PySem.Spec PyProof.Rows L2 Lb
local macro_rules | `(tactic| walk_at "s1") => `(tactic| with_reducible first | refine i_seq ?_ | refine i_asg ?_ | refine i_gname ?_ | refine i_ifS ?_ | refine i_ret ?_ | refine i_retN ?_ | refine i_drop ?_ | refine i_next ?_ | refine i_brk ?_ | refine i_cnt ?_ | refine i_par ?_ | refine i_par2 ?_ | refine i_fldS ?_ | refine i_dput ?_ | refine i_c ?_ | refine i_op ?_ | refine i_un ?_ | refine i_rU ?_ | refine i_rI0 ?_ | refine i_test ?_ | refine i_B ?_ | refine i_bl ?_ | refine i_tru ?_ | refine i_truB ?_ | refine i_and ?_ | refine i_or ?_ | refine i_not ?_ | refine i_andV ?_ | refine i_orV ?_ | refine i_notV ?_ | refine i_if ?_ | refine i_call ?_ | refine i_meth ?_ | refine i_make ?_ | refine i_cb ?_ | refine i_cons ?_ | refine i_nil ?_ | refine i_tup ?_ | refine i_lst ?_ | refine i_bml ?_ | refine i_gsub ?_ | refine i_gcons ?_ | refine i_gnil ?_ | refine i_sl ?_ | refine i_nop ?_ | refine i_part ?_ | refine i_prt ?_ | refine i_isN ?_ | refine i_notN ?_ | refine i_yes ?_ | refine i_tt ?_ | refine i_ff ?_ | refine i_ntt ?_ | refine i_nff ?_ | refine i_addI ?_ | refine i_eqI ?_ | refine i_neI ?_ | refine i_eqS ?_ | refine i_neS ?_ | refine i_intI ?_ | refine i_intB ?_ | refine i_abs ?_ | refine i_isiIB ?_ | refine i_isiNB ?_ | refine i_isiBB ?_ | refine i_dget ?_ | refine i_for ?_ | refine i_ilist ?_ | refine i_itup ?_ | refine i_rng1 ?_ | refine i_rng2 ?_ | refine i_ex1 ?_ | refine i_ex2 ?_ | refine i_exr ?_ | refine i_fld ?_ | refine i_disp ?_ | refine i_pcons ?_ | refine i_pnil ?_ | refine i_neN ?_ | refine i_eqN ?_ | refine i_neB ?_ | refine i_eqB ?_ | refine i_lc ?_ | refine i_var (by with_unfolding_all rfl) ?_ | refine i_tB (by decide +kernel) ?_ | refine i_fB (by decide +kernel) ?_ | refine i_dnI ?_ | refine i_nyI ?_ | refine i_dnR ?_ | refine i_nyR ?_ | refine i_ixT (by assumption) (by with_unfolding_all rfl) ?_ | refine i_ixL (by assumption) (by with_unfolding_all rfl) ?_ | refine i_lenL (by assumption) ?_ | refine i_lenT (by assumption) ?_ | refine i_isL (by assumption) ?_ | refine i_isiLL (by assumption) ?_ | refine i_isiTL (by assumption) ?_ | refine i_gtup (by assumption) (by with_unfolding_all rfl) ?_)
local macro_rules | `(tactic| walk_at "s") => `(tactic| repeat (walk_at "s1"))
structure Ad where
  K : PySem.W.Frag
  c_Workspace : Addr
inductive Op where
  | add | sub | mul | div | mod | and | or | eq | ne | lt | le
def Op.nm : Op → Str
  | .add => "+" | .sub => "-" | .mul => "*" | .div => "/" | .mod => "mod" | .and => "and" | .or => "or" | .eq => "==" | .ne => "!=" | .lt => "<" | .le => "<="
def b2 (p : Prop) [Decidable p] : Int := if p then 1 else 0
def opv : Op → Int → Int → Option Int
  | .add, a, b => some ((a + b) % 65536)
  | .sub, a, b => some ((a - b) % 65536)
  | .mul, a, b => some ((a * b) % 65536)
  | .div, a, b => if b = 0 then none else some (a / b)
  | .mod, a, b => if b = 0 then none else some (a % b)
  | .and, a, b => some (b2 (a ≠ 0 ∧ b ≠ 0))
  | .or, a, b => some (b2 (a ≠ 0 ∨ b ≠ 0))
  | .eq, a, b => some (b2 (a = b))
  | .ne, a, b => some (b2 (a ≠ b))
  | .lt, a, b => some (b2 (a < b))
  | .le, a, b => some (b2 (a ≤ b))
def Wd (i : Int) : Prop := 0 ≤ i ∧ i < 65536
theorem b2_wd {p : Prop} [Decidable p] : Wd (b2 p) := by
  unfold b2 Wd
  split <;> decide
theorem opv_wd {o : Op} {a b z : Int} (ha : Wd a) (hb : Wd b) (h : opv o a b = some z) : Wd z := by
  obtain ⟨a0, a1⟩ := ha
  obtain ⟨b0, b1⟩ := hb
  cases o <;> simp only [opv] at h
  case div =>
    split at h
    · cases h
    · rw [← Option.some.inj h]
      exact ⟨Int.ediv_nonneg a0 b0, Int.lt_of_le_of_lt (Int.ediv_le_self b a0) a1⟩
  case mod =>
    split at h
    · cases h
    · rename_i hb
      rw [← Option.some.inj h]
      exact ⟨Int.emod_nonneg _ hb, Int.lt_of_lt_of_le (Int.emod_lt_of_pos _ (by omega)) (by omega)⟩
  all_goals (rw [← Option.some.inj h]; first | exact b2_wd | exact ⟨Int.emod_nonneg _ (by decide), Int.emod_lt_of_pos _ (by decide)⟩)
def neg1 (a : Int) : Int := (0 - a) % 65536
def not1 (a : Int) : Int := b2 (a = 0)
def optV : Option Int → V
  | none => .non
  | some i => .int i
def sp_calc : Sp := fun vs H Q _ => ∃ (o : Op) (a b : Int), vs = [.str o.nm, .int a, .int b] ∧ Wd a ∧ Wd b ∧ ∀ H', Same H H' → Q (optV (opv o a b)) H'
theorem in2 {K : PySem.W.Frag} {p : Addr} {H : Hp} {Q : VK} {x a b : Str} (h : H p = some (.tup [.str a, .str b])) (q : Q (.bl (a == x || b == x)) H) : rIn K false (.str x) (.ref p) H Q := by
  refine ⟨p, _, rfl, .inr (SqT.of h), rfl, rfl, ?_⟩
  have e : inV (.str x) [.str a, .str b] = (a == x || b == x) := by
    simp [inV, eqV]
  rw [if_neg (by simp), e]
  exact q


/-- what value is asked here -/
inductive Vf (H : Hp) : Nat → Addr → Option Int → Prop
  | num {p : Addr} {w : Int} (h : H p = some (.tup [.str "num", .int w])) (hw : Wd w) : Vf H 0 p (some w)
  | neg {p t : Addr} {w : Int} (h : H p = some (.tup [.str "neg", .ref t])) (ht : H t = some (.tup [.str "num", .int w])) (hw : Wd w) : Vf H 1 p (some (neg1 w))
  | not {p t : Addr} {w : Int} (h : H p = some (.tup [.str "not", .ref t])) (ht : H t = some (.tup [.str "num", .int w])) (hw : Wd w) : Vf H 1 p (some (not1 w))
  | bin {p t u : Addr} {o : Op} {a b : Int} (h : H p = some (.tup [.str o.nm, .ref t, .ref u])) (ht : H t = some (.tup [.str "num", .int a])) (hu : H u = some (.tup [.str "num", .int b])) (ha : Wd a) (hb : Wd b) : Vf H 1 p (opv o a b)
def sp_val (n : Nat) : Sp := fun vs H Q _ => ∃ (p q : Addr) (r : Option Int), vs = [.ref p, .ref q] ∧ Vf H n p r ∧ ∀ H', Same H H' → Q (optV r) H'
def sp_valP : Nat → Sp
  | 0 => spF
  | n + 1 => sp_val n
def sp_place : Sp := spF
def sp_l_word : Sp := fun vs H Q _ => ∃ (a c : Addr) (B : Hp) (ls : List (Addr × HO)), vs = [.ref a] ∧ Own a c B H ls ∧ ∀ H' (w : Int), Wd w → Own a c B H' ls → Q (.int w) H'

/-- an instruction of the law, m places -/
inductive InR (m : Nat) : List V → Prop
  | push {w : Int} (hw : Wd w) : InR m [.str "push", .int w]
  | load {k : Nat} (hk : k < m) : InR m [.str "load", .int k]
  | store {k : Nat} (hk : k < m) : InR m [.str "store", .int k]
  | loadx {k s : Nat} (hk : k + s ≤ m) (hs : 1 ≤ s) : InR m [.str "loadx", .int k, .int s]
  | storex {k s : Nat} (hk : k + s ≤ m) (hs : 1 ≤ s) : InR m [.str "storex", .int k, .int s]
  | check {s : Nat} (hk : s ≤ m) (hs : 1 ≤ s) : InR m [.str "check", .int s]
  | neg : InR m [.str "neg"]
  | not : InR m [.str "not"]
  | calc_ (o : Op) : InR m [.str "calc", .str o.nm]
  | jump : InR m [.str "jump", .int 5]
  | jzero : InR m [.str "jzero", .int 6]
  | stop : InR m [.str "stop"]
  | give : InR m [.str "give", .int 1]
  | take_ : InR m [.str "take", .int 2]
  | either {v : V} : InR m [.str "either", v]
  | fork {v : V} : InR m [.str "fork", v]
  | end_ : InR m [.str "end"]
def sp_l_instr : Sp := fun vs H Q _ => ∃ (a c : Addr) (B : Hp) (ls : List (Addr × HO)) (m : Nat), vs = [.ref a, .int m] ∧ 1 ≤ m ∧ m ≤ 6 ∧ Own a c B H ls ∧ ∀ H' B' p xs, Same B B' → Own a c B' H' ls → B' p = some (.tup xs) → InR m xs → Q (.ref p) H'
structure CF (A : Ad) : Prop where
  h : Cls A.K A.c_Workspace
  n1 : NoAttr A.K A.c_Workspace "number"
  n2 : NoAttr A.K A.c_Workspace "parent"
  n3 : NoAttr A.K A.c_Workspace "takes"
  n4 : NoAttr A.K A.c_Workspace "gives"
  n5 : NoAttr A.K A.c_Workspace "code"
  n6 : NoAttr A.K A.c_Workspace "cells"
  n7 : NoAttr A.K A.c_Workspace "stack"
  n8 : NoAttr A.K A.c_Workspace "at"
  n9 : NoAttr A.K A.c_Workspace "state"
  n10 : NoAttr A.K A.c_Workspace "children"
  n11 : NoAttr A.K A.c_Workspace "joined"
  n12 : NoAttr A.K A.c_Workspace "rows"
  n13 : NoAttr A.K A.c_Workspace "chosen"
  n14 : NoAttr A.K A.c_Workspace "asked"
  n15 : NoAttr A.K A.c_Workspace "word"
def sp_law (A : Ad) : Sp := fun vs H Q _ => ∃ (s : Addr) (ns : List Int), vs = [.ref s] ∧ SqL A.K H s (ns.map V.int) ∧ ns.length ≤ 63 ∧ CF A ∧ ∀ H', Q (.bl true) H'
def t_wall (A : Ad) : TS :=
  (tWhile (tTru A.K (tC (.bl true))) tNext)
theorem st_wall (v0 : V) : L2.start ["k"] [v0] = [some v0] := rfl
def t_calculate (A : Ad) : TS :=
  (tSeq (tIfS (tTest (tOp (rIn A.K false) (tVar 0) (tTup (tCons (tC (.str "/")) (tCons (tC (.str "mod")) tNil))))) (tSeq (tIfS (tTest (tOp (rEqA A.K) (tVar 2) (tC (.int 0)))) (tRet (tC .non)) tNext) (tRet (tIf (tTest (tOp (rEqA A.K) (tVar 0) (tC (.str "/")))) (tOp (rI CDiv fun i j => .int (i / j)) (tVar 1) (tVar 2)) (tOp (rI0 fun i j => .int (i - j)) (tVar 1) (tOp rMulA (tOp (rI CDiv fun i j => .int (i / j)) (tVar 1) (tVar 2)) (tVar 2)))))) tNext) (tSeq (tIfS (tTest (tOp (rEqA A.K) (tVar 0) (tC (.str "+")))) (tRet (tOp (rI0 fun i j => .int (Builtin.bitAnd i j)) (tOp rAddA (tVar 1) (tVar 2)) (tOp (rI0 fun i j => .int (i - j)) (tC (.int 65536)) (tC (.int 1))))) tNext) (tSeq (tIfS (tTest (tOp (rEqA A.K) (tVar 0) (tC (.str "-")))) (tRet (tOp (rI0 fun i j => .int (Builtin.bitAnd i j)) (tOp (rI0 fun i j => .int (i - j)) (tVar 1) (tVar 2)) (tOp (rI0 fun i j => .int (i - j)) (tC (.int 65536)) (tC (.int 1))))) tNext) (tSeq (tIfS (tTest (tOp (rEqA A.K) (tVar 0) (tC (.str "*")))) (tRet (tOp (rI0 fun i j => .int (Builtin.bitAnd i j)) (tOp rMulA (tVar 1) (tVar 2)) (tOp (rI0 fun i j => .int (i - j)) (tC (.int 65536)) (tC (.int 1))))) tNext) (tSeq (tIfS (tTest (tOp (rEqA A.K) (tVar 0) (tC (.str "and")))) (tRet (tIf (tAnd (tTest (tOp (rNeA A.K) (tVar 1) (tC (.int 0)))) (tTest (tOp (rNeA A.K) (tVar 2) (tC (.int 0))))) (tC (.int 1)) (tC (.int 0)))) tNext) (tSeq (tIfS (tTest (tOp (rEqA A.K) (tVar 0) (tC (.str "or")))) (tRet (tIf (tOr (tTest (tOp (rNeA A.K) (tVar 1) (tC (.int 0)))) (tTest (tOp (rNeA A.K) (tVar 2) (tC (.int 0))))) (tC (.int 1)) (tC (.int 0)))) tNext) (tSeq (tIfS (tTest (tOp (rEqA A.K) (tVar 0) (tC (.str "==")))) (tRet (tIf (tTest (tOp (rEqA A.K) (tVar 1) (tVar 2))) (tC (.int 1)) (tC (.int 0)))) tNext) (tSeq (tIfS (tTest (tOp (rEqA A.K) (tVar 0) (tC (.str "!=")))) (tRet (tIf (tTest (tOp (rNeA A.K) (tVar 1) (tVar 2))) (tC (.int 1)) (tC (.int 0)))) tNext) (tSeq (tIfS (tTest (tOp (rEqA A.K) (tVar 0) (tC (.str "<")))) (tRet (tIf (tTest (tOp (rI0 fun i j => .bl (decide (i < j))) (tVar 1) (tVar 2))) (tC (.int 1)) (tC (.int 0)))) tNext) (tRet (tIf (tTest (tOp (rI0 fun i j => .bl (decide (i ≤ j))) (tVar 1) (tVar 2))) (tC (.int 1)) (tC (.int 0)))))))))))))
theorem st_calculate (v0 v1 v2 : V) : L2.start ["operator", "a", "b"] [v0, v1, v2] = [some v0, some v1, some v2] := rfl
def t_value (A : Ad) (n : Nat) : TS :=
  (tSeq (tIfS (tTest (tOp (rEqA A.K) (tOp rIxA (tVar 0) (tC (.int 0))) (tC (.str "num")))) (tRet (tOp rIxA (tVar 0) (tC (.int 1)))) tNext) (tSeq (tIfS (tTest (tOp (rIn A.K false) (tOp rIxA (tVar 0) (tC (.int 0))) (tTup (tCons (tC (.str "cell")) (tCons (tC (.str "at")) tNil))))) (tSeq (tAsg (tCall spF [] E0 (tCons (tVar 0) (tCons (tVar 1) tNil))) (gName 2)) (tRet (tIf (tTest (tOp rIsN (tVar 2) (tC .non))) (tC .non) (tOp rIxA (tVar 1) (tVar 2))))) tNext) (tSeq (tAsg (tCall (sp_valP n) [] E0 (tCons (tOp rIxA (tVar 0) (tC (.int 1))) (tCons (tVar 1) tNil))) (gName 3)) (tSeq (tIfS (tTest (tOp (rEqA A.K) (tOp rIxA (tVar 0) (tC (.int 0))) (tC (.str "neg")))) (tRet (tIf (tTest (tOp rIsN (tVar 3) (tC .non))) (tC .non) (tOp (rI0 fun i j => .int (Builtin.bitAnd i j)) (tOp (rI0 fun i j => .int (i - j)) (tC (.int 0)) (tVar 3)) (tOp (rI0 fun i j => .int (i - j)) (tC (.int 65536)) (tC (.int 1)))))) tNext) (tSeq (tIfS (tTest (tOp (rEqA A.K) (tOp rIxA (tVar 0) (tC (.int 0))) (tC (.str "not")))) (tRet (tIf (tTest (tOp rIsN (tVar 3) (tC .non))) (tC .non) (tIf (tTest (tOp (rEqA A.K) (tVar 3) (tC (.int 0)))) (tC (.int 1)) (tC (.int 0))))) tNext) (tSeq (tAsg (tCall (sp_valP n) [] E0 (tCons (tOp rIxA (tVar 0) (tC (.int 2))) (tCons (tVar 1) tNil))) (gName 4)) (tRet (tIf (tOr (tTest (tOp rIsN (tVar 3) (tC .non))) (tTest (tOp rIsN (tVar 4) (tC .non)))) (tC .non) (tCall sp_calc [] E0 (tCons (tOp rIxA (tVar 0) (tC (.int 0))) (tCons (tVar 3) (tCons (tVar 4) tNil))))))))))))
theorem st_value (v0 v1 : V) : L2.start ["e", "cells", "cell", "a", "b"] [v0, v1] = [some v0, some v1, none, none, none] := rfl
def t_place (A : Ad) : TS :=
  (tSeq (tIfS (tTest (tOp (rEqA A.K) (tOp rIxA (tVar 0) (tC (.int 0))) (tC (.str "cell")))) (tRet (tOp rIxA (tVar 0) (tC (.int 1)))) tNext) (tSeq (tAsg (tVar 0) (gTup A.K 4 (gCons (gName 2) (gCons (gName 3) (gCons (gName 4) (gCons (gName 5) gNil)))))) (tSeq (tAsg (tCall spF [] E0 (tCons (tVar 5) (tCons (tVar 1) tNil))) (gName 6)) (tRet (tIf (tOr (tTest (tOp rIsN (tVar 6) (tC .non))) (tTest (tOp (rI0 fun i j => .bl (decide (j ≤ i))) (tVar 6) (tVar 4)))) (tC .non) (tOp rAddA (tVar 3) (tVar 6)))))))
theorem st_place (v0 v1 : V) : L2.start ["target", "cells", "_", "first", "size", "e", "index"] [v0, v1] = [some v0, some v1, none, none, none, none, none] := rfl
abbrev t_Workspace_init (A : Ad) : TS :=
  (tSeq (sFld A.K (tVar 0) (tVar 1) "number") (tSeq (tAsg (tVar 2) (gTup A.K 5 (gCons (gFld A.K (tVar 0) "parent") (gCons (gName 4) (gCons (gFld A.K (tVar 0) "takes") (gCons (gFld A.K (tVar 0) "gives") (gCons (gFld A.K (tVar 0) "code") gNil))))))) (tSeq (sFld A.K (tVar 0) (tOp rAddA (tCB rListA (tCons (tVar 3) tNil)) (tOp rMulA (tLst (tCons (tC (.int 0)) tNil)) (tOp (rI0 fun i j => .int (i - j)) (tVar 4) (tCB rLenA (tCons (tVar 3) tNil))))) "cells") (tSeq (sFld A.K (tVar 0) (tLst tNil) "stack") (tSeq (sFld A.K (tVar 0) (tC (.int 0)) "at") (tSeq (sFld A.K (tVar 0) (tC (.str "ready")) "state") (tSeq (sFld A.K (tVar 0) (tC (.int 0)) "children") (tSeq (sFld A.K (tVar 0) (tLst tNil) "joined") (tSeq (sFld A.K (tVar 0) (tLst tNil) "rows") (tSeq (sFld A.K (tVar 0) (tC .non) "chosen") (tSeq (sFld A.K (tVar 0) (tC (.int 0)) "asked") (sFld A.K (tVar 0) (tC .non) "word"))))))))))))
theorem st_Workspace_init (v0 v1 v2 v3 : V) : L2.start ["self", "number", "thread", "values", "places"] [v0, v1, v2, v3] = [some v0, some v1, some v2, some v3, none] := rfl
abbrev sp_Workspace_init (A : Ad) : Sp := spIn ["self", "number", "thread", "values", "places"] 4 (t_Workspace_init A)
theorem len_Workspace_init (A : Ad) {vs : List V} {H : Hp} {Q : VK} {E : XK} (h : sp_Workspace_init A vs H Q E) : vs.length = 4 := h.1
theorem pure_Workspace_init (A : Ad) (vs : List V) (H : Hp) (Q : VK) (E : XK) (h : sp_Workspace_init A vs H Q E) : t_Workspace_init A { nx := fun _ H' => Q .non H', rt := Q } (L2.start ["self", "number", "thread", "values", "places"] vs) H := h.2
abbrev t_Workspace_cell (A : Ad) : TS :=
  (tRet (tOp rIxA (tFld A.K (tVar 0) "cells") (tBM A.K "list" (rIndex A.K) (tFld A.K (tVar 0) "takes") (tCons (tVar 1) tNil))))
theorem st_Workspace_cell (v0 v1 : V) : L2.start ["self", "number"] [v0, v1] = [some v0, some v1] := rfl
abbrev sp_Workspace_cell (A : Ad) : Sp := spIn ["self", "number"] 2 (t_Workspace_cell A)
theorem len_Workspace_cell (A : Ad) {vs : List V} {H : Hp} {Q : VK} {E : XK} (h : sp_Workspace_cell A vs H Q E) : vs.length = 2 := h.1
theorem pure_Workspace_cell (A : Ad) (vs : List V) (H : Hp) (Q : VK) (E : XK) (h : sp_Workspace_cell A vs H Q E) : t_Workspace_cell A { nx := fun _ H' => Q .non H', rt := Q } (L2.start ["self", "number"] vs) H := h.2
abbrev t_Workspace_store (A : Ad) : TS :=
  (tAsg (tVar 2) (gSub (tFld A.K (tVar 0) "cells") (tBM A.K "list" (rIndex A.K) (tFld A.K (tVar 0) "takes") (tCons (tVar 1) tNil)) rSetA))
theorem st_Workspace_store (v0 v1 v2 : V) : L2.start ["self", "number", "word"] [v0, v1, v2] = [some v0, some v1, some v2] := rfl
abbrev sp_Workspace_store (A : Ad) : Sp := spIn ["self", "number", "word"] 3 (t_Workspace_store A)
theorem len_Workspace_store (A : Ad) {vs : List V} {H : Hp} {Q : VK} {E : XK} (h : sp_Workspace_store A vs H Q E) : vs.length = 3 := h.1
theorem pure_Workspace_store (A : Ad) (vs : List V) (H : Hp) (Q : VK) (E : XK) (h : sp_Workspace_store A vs H Q E) : t_Workspace_store A { nx := fun _ H' => Q .non H', rt := Q } (L2.start ["self", "number", "word"] vs) H := h.2
abbrev t_Workspace_push (A : Ad) : TS :=
  (tIfS (tTest (tOp rIsN (tVar 1) (tC .non))) (sFld A.K (tVar 0) (tC (.str "faulted")) "state") (tDrop (tBML rAppA (tFld A.K (tVar 0) "stack") (tCons (tVar 1) tNil))))
theorem st_Workspace_push (v0 v1 : V) : L2.start ["self", "word"] [v0, v1] = [some v0, some v1] := rfl
abbrev sp_Workspace_push (A : Ad) : Sp := spIn ["self", "word"] 2 (t_Workspace_push A)
theorem len_Workspace_push (A : Ad) {vs : List V} {H : Hp} {Q : VK} {E : XK} (h : sp_Workspace_push A vs H Q E) : vs.length = 2 := h.1
theorem pure_Workspace_push (A : Ad) (vs : List V) (H : Hp) (Q : VK) (E : XK) (h : sp_Workspace_push A vs H Q E) : t_Workspace_push A { nx := fun _ H' => Q .non H', rt := Q } (L2.start ["self", "word"] vs) H := h.2
def t_Workspace_advance (A : Ad) : TS :=
  (tDrop (tCall spF [] E0 (tCons (tC (.int 0)) tNil)))
theorem st_Workspace_advance (v0 : V) : L2.start ["self"] [v0] = [some v0] := rfl
abbrev t_Workspace_simple (A : Ad) : TS :=
  (tIfS (tTest (tOp (rEqA A.K) (tVar 1) (tC (.str "push")))) (tDrop (tBML rAppA (tFld A.K (tVar 0) "stack") (tCons (tVar 2) tNil))) (tIfS (tTest (tOp (rEqA A.K) (tVar 1) (tC (.str "load")))) (tDrop (tBML rAppA (tFld A.K (tVar 0) "stack") (tCons (tOp rIxA (tFld A.K (tVar 0) "cells") (tVar 2)) tNil))) (tIfS (tTest (tOp (rEqA A.K) (tVar 1) (tC (.str "store")))) (tAsg (tBML rPopL (tFld A.K (tVar 0) "stack") tNil) (gSub (tFld A.K (tVar 0) "cells") (tVar 2) rSetA)) (tIfS (tTest (tOp (rEqA A.K) (tVar 1) (tC (.str "jump")))) (sFld A.K (tVar 0) (tVar 2) "at") (tIfS (tTest (tOp (rEqA A.K) (tBML rPopL (tFld A.K (tVar 0) "stack") tNil) (tC (.int 0)))) (sFld A.K (tVar 0) (tVar 2) "at") tNext)))))
theorem st_Workspace_simple (v0 v1 v2 : V) : L2.start ["self", "kind", "operand"] [v0, v1, v2] = [some v0, some v1, some v2] := rfl
abbrev sp_Workspace_simple (A : Ad) : Sp := spIn ["self", "kind", "operand"] 3 (t_Workspace_simple A)
theorem len_Workspace_simple (A : Ad) {vs : List V} {H : Hp} {Q : VK} {E : XK} (h : sp_Workspace_simple A vs H Q E) : vs.length = 3 := h.1
theorem pure_Workspace_simple (A : Ad) (vs : List V) (H : Hp) (Q : VK) (E : XK) (h : sp_Workspace_simple A vs H Q E) : t_Workspace_simple A { nx := fun _ H' => Q .non H', rt := Q } (L2.start ["self", "kind", "operand"] vs) H := h.2
abbrev t_Workspace_indexed (A : Ad) : TS :=
  (tSeq (tAsg (tOp rIxA (tVar 1) (tC (.int 0))) (gName 2)) (tSeq (tAsg (tOp rIxA (tVar 1) (tUn (rU fun i => .int (-i)) (tC (.int 1)))) (gName 3)) (tSeq (tAsg (tOp rIxA (tFld A.K (tVar 0) "stack") (tUn (rU fun i => .int (-i)) (tC (.int 1)))) (gName 4)) (tIfS (tTest (tOp (rI0 fun i j => .bl (decide (j ≤ i))) (tVar 4) (tVar 3))) (sFld A.K (tVar 0) (tC (.str "faulted")) "state") (tIfS (tTest (tOp (rEqA A.K) (tVar 2) (tC (.str "loadx")))) (tAsg (tOp rIxA (tFld A.K (tVar 0) "cells") (tOp rAddA (tOp rIxA (tVar 1) (tC (.int 1))) (tVar 4))) (gSub (tFld A.K (tVar 0) "stack") (tUn (rU fun i => .int (-i)) (tC (.int 1))) rSetA)) (tIfS (tTest (tOp (rEqA A.K) (tVar 2) (tC (.str "storex")))) (tSeq (tDrop (tBML rPopL (tFld A.K (tVar 0) "stack") tNil)) (tAsg (tBML rPopL (tFld A.K (tVar 0) "stack") tNil) (gSub (tFld A.K (tVar 0) "cells") (tOp rAddA (tOp rIxA (tVar 1) (tC (.int 1))) (tVar 4)) rSetA))) tNext))))))
theorem st_Workspace_indexed (v0 v1 : V) : L2.start ["self", "instruction", "kind", "size", "index"] [v0, v1] = [some v0, some v1, none, none, none] := rfl
abbrev sp_Workspace_indexed (A : Ad) : Sp := spIn ["self", "instruction", "kind", "size", "index"] 2 (t_Workspace_indexed A)
theorem len_Workspace_indexed (A : Ad) {vs : List V} {H : Hp} {Q : VK} {E : XK} (h : sp_Workspace_indexed A vs H Q E) : vs.length = 2 := h.1
theorem pure_Workspace_indexed (A : Ad) (vs : List V) (H : Hp) (Q : VK) (E : XK) (h : sp_Workspace_indexed A vs H Q E) : t_Workspace_indexed A { nx := fun _ H' => Q .non H', rt := Q } (L2.start ["self", "instruction", "kind", "size", "index"] vs) H := h.2
abbrev t_Workspace_step (A : Ad) : TS :=
  (tSeq (tAsg (tOp rIxA (tVar 1) (tC (.int 0))) (gName 2)) (tSeq (tIfS (tTest (tOp (rIn A.K false) (tVar 2) (tTup (tCons (tC (.str "push")) (tCons (tC (.str "load")) (tCons (tC (.str "store")) (tCons (tC (.str "jump")) (tCons (tC (.str "jzero")) tNil)))))))) (tDrop (tMeth A.c_Workspace "simple" (sp_Workspace_simple A) [] E0 (tVar 0) (tCons (tVar 2) (tCons (tOp rIxA (tVar 1) (tC (.int 1))) tNil)))) (tIfS (tTest (tOp (rIn A.K false) (tVar 2) (tTup (tCons (tC (.str "loadx")) (tCons (tC (.str "storex")) (tCons (tC (.str "check")) tNil)))))) (tDrop (tMeth A.c_Workspace "indexed" (sp_Workspace_indexed A) [] E0 (tVar 0) (tCons (tVar 1) tNil))) (tIfS (tTest (tOp (rIn A.K false) (tVar 2) (tTup (tCons (tC (.str "neg")) (tCons (tC (.str "not")) tNil))))) (tDrop (tMeth A.c_Workspace "push" (sp_Workspace_push A) [] E0 (tVar 0) (tCons (tCall (sp_val 1) [] E0 (tCons (tTup (tCons (tVar 2) (tCons (tTup (tCons (tC (.str "num")) (tCons (tBML rPopL (tFld A.K (tVar 0) "stack") tNil) tNil))) tNil))) (tCons (tLst tNil) tNil))) tNil))) (tIfS (tTest (tOp (rEqA A.K) (tVar 2) (tC (.str "calc")))) (tSeq (tAsg (tBML rPopL (tFld A.K (tVar 0) "stack") tNil) (gName 3)) (tDrop (tMeth A.c_Workspace "push" (sp_Workspace_push A) [] E0 (tVar 0) (tCons (tCall (sp_val 1) [] E0 (tCons (tTup (tCons (tOp rIxA (tVar 1) (tC (.int 1))) (tCons (tTup (tCons (tC (.str "num")) (tCons (tBML rPopL (tFld A.K (tVar 0) "stack") tNil) tNil))) (tCons (tTup (tCons (tC (.str "num")) (tCons (tVar 3) tNil))) tNil)))) (tCons (tLst tNil) tNil))) tNil)))) (tIfS (tTest (tOp (rEqA A.K) (tVar 2) (tC (.str "stop")))) (sFld A.K (tVar 0) (tC (.str "stopped")) "state") (tRet (tC (.bl false)))))))) (tRet (tC (.bl true)))))
theorem st_Workspace_step (v0 v1 : V) : L2.start ["self", "instruction", "kind", "right"] [v0, v1] = [some v0, some v1, none, none] := rfl
abbrev sp_Workspace_step (A : Ad) : Sp := spIn ["self", "instruction", "kind", "right"] 2 (t_Workspace_step A)
theorem len_Workspace_step (A : Ad) {vs : List V} {H : Hp} {Q : VK} {E : XK} (h : sp_Workspace_step A vs H Q E) : vs.length = 2 := h.1
theorem pure_Workspace_step (A : Ad) (vs : List V) (H : Hp) (Q : VK) (E : XK) (h : sp_Workspace_step A vs H Q E) : t_Workspace_step A { nx := fun _ H' => Q .non H', rt := Q } (L2.start ["self", "instruction", "kind", "right"] vs) H := h.2
def t_l_two (A : Ad) : TS :=
  (tSeq (tIfS (tTest (tOp (rIn A.K false) (tVar 0) (tTup (tCons (tC (.str "/")) (tCons (tC (.str "mod")) tNil))))) (tSeq (tIfS (tTest (tOp (rEqA A.K) (tVar 2) (tC (.int 0)))) (tRet (tC .non)) tNext) (tRet (tIf (tTest (tOp (rEqA A.K) (tVar 0) (tC (.str "/")))) (tOp (rI CDiv fun i j => .int (i / j)) (tVar 1) (tVar 2)) (tOp (rI (fun _ j => 0 < j) fun i j => .int (i % j)) (tCB rIntA (tCons (tVar 1) tNil)) (tVar 2))))) tNext) (tSeq (tAsg (tDisp [((tC (.str "+")), (tOp rAddA (tVar 1) (tVar 2))), ((tC (.str "-")), (tOp (rI0 fun i j => .int (i - j)) (tVar 1) (tVar 2))), ((tC (.str "*")), (tOp rMulA (tVar 1) (tVar 2))), ((tC (.str "and")), (tCB rIntA (tCons (tAndV (tOp (rI0 fun i j => .bl (decide (j < i))) (tVar 1) (tC (.int 0))) (tOp (rI0 fun i j => .bl (decide (j < i))) (tVar 2) (tC (.int 0)))) tNil))), ((tC (.str "or")), (tCB rIntA (tCons (tOrV (tOp (rI0 fun i j => .bl (decide (j < i))) (tVar 1) (tC (.int 0))) (tOp (rI0 fun i j => .bl (decide (j < i))) (tVar 2) (tC (.int 0)))) tNil))), ((tC (.str "==")), (tCB rIntA (tCons (tOp (rEqA A.K) (tVar 1) (tVar 2)) tNil)))]) (gName 3)) (tSeq (sDPut (tVar 3) (tC (.str "!=")) (tCB rIntA (tCons (tOp (rNeA A.K) (tVar 1) (tVar 2)) tNil))) (tSeq (sDPut (tVar 3) (tC (.str "<")) (tCB rIntA (tCons (tOp (rI0 fun i j => .bl (decide (i < j))) (tVar 1) (tVar 2)) tNil))) (tSeq (sDPut (tVar 3) (tC (.str "<=")) (tCB rIntA (tCons (tOp (rI0 fun i j => .bl (decide (i ≤ j))) (tVar 1) (tVar 2)) tNil))) (tRet (tOp (rI (fun _ j => 0 < j) fun i j => .int (i % j)) (tCB rIntA (tCons (tDGet (tVar 3) (tVar 0)) tNil)) (tC (.int 65536)))))))))
theorem st_l_two (v0 v1 v2 : V) : L2.start ["_law_operator", "_law_a", "_law_b", "_law_rows"] [v0, v1, v2] = [some v0, some v1, some v2, none] := rfl
def t_l_word (A : Ad) : TS :=
  (tRet (tCall spPick [] E0 (tCons (tVar 0) (tCons (tLst (tCons (tC (.int 0)) (tCons (tC (.int 1)) (tCons (tC (.int 2)) (tCons (tC (.int 65535)) (tCons (tCall spDraw [] E0 (tCons (tVar 0) (tCons (tC (.int 8)) tNil))) (tCons (tCall spDraw [] E0 (tCons (tVar 0) (tCons (tC (.int 65536)) tNil))) tNil))))))) tNil))))
theorem st_l_word (v0 : V) : L2.start ["_law_state_here"] [v0] = [some v0] := rfl
def t_l_instruction (A : Ad) : TS :=
  (tSeq (tAsg (tCall spDraw [] E0 (tCons (tVar 0) (tCons (tVar 1) tNil))) (gName 2)) (tSeq (tAsg (tOp rAddA (tC (.int 1)) (tCall spDraw [] E0 (tCons (tVar 0) (tCons (tOp (rI0 fun i j => .int (i - j)) (tVar 1) (tVar 2)) tNil)))) (gName 3)) (tSeq (tAsg (tLst (tCons (tC (.str "+")) (tCons (tC (.str "-")) (tCons (tC (.str "*")) (tCons (tC (.str "/")) (tCons (tC (.str "mod")) (tCons (tC (.str "and")) (tCons (tC (.str "or")) (tCons (tC (.str "==")) (tCons (tC (.str "!=")) (tCons (tC (.str "<")) (tCons (tC (.str "<=")) tNil)))))))))))) (gName 4)) (tSeq (tAsg (tLst (tCons (tTup (tCons (tC (.str "push")) (tCons (tCall sp_l_word [] E0 (tCons (tVar 0) tNil)) tNil))) (tCons (tTup (tCons (tC (.str "load")) (tCons (tVar 2) tNil))) (tCons (tTup (tCons (tC (.str "store")) (tCons (tVar 2) tNil))) (tCons (tTup (tCons (tC (.str "loadx")) (tCons (tVar 2) (tCons (tVar 3) tNil)))) (tCons (tTup (tCons (tC (.str "storex")) (tCons (tVar 2) (tCons (tVar 3) tNil)))) (tCons (tTup (tCons (tC (.str "check")) (tCons (tVar 3) tNil))) tNil))))))) (gName 5)) (tSeq (tAsg (tOp rAddA (tVar 5) (tLst (tCons (tTup (tCons (tC (.str "neg")) tNil)) (tCons (tTup (tCons (tC (.str "not")) tNil)) (tCons (tTup (tCons (tC (.str "calc")) (tCons (tCall spPick [] E0 (tCons (tVar 0) (tCons (tVar 4) tNil))) tNil))) (tCons (tTup (tCons (tC (.str "jump")) (tCons (tC (.int 5)) tNil))) (tCons (tTup (tCons (tC (.str "jzero")) (tCons (tC (.int 6)) tNil))) (tCons (tTup (tCons (tC (.str "stop")) tNil)) tNil)))))))) (gName 5)) (tSeq (tAsg (tOp rAddA (tVar 5) (tLst (tCons (tTup (tCons (tC (.str "give")) (tCons (tC (.int 1)) tNil))) (tCons (tTup (tCons (tC (.str "take")) (tCons (tC (.int 2)) tNil))) (tCons (tTup (tCons (tC (.str "either")) (tCons (tLst (tCons (tTup (tCons (tC (.int 1)) (tCons (tC (.int 0)) (tCons (tC (.int 3)) tNil)))) tNil)) tNil))) (tCons (tTup (tCons (tC (.str "fork")) (tCons (tLst (tCons (tTup (tCons (tC (.int 1)) (tCons (tLst tNil) tNil))) tNil)) tNil))) (tCons (tTup (tCons (tC (.str "end")) tNil)) tNil))))))) (gName 5)) (tSeq (tAsg (tCall spDraw [] E0 (tCons (tVar 0) (tCons (tC (.int 22)) tNil))) (gName 6)) (tRet (tIf (tTest (tOp (rI0 fun i j => .bl (decide (i < j))) (tVar 6) (tC (.int 17)))) (tOp rIxA (tVar 5) (tVar 6)) (tTup (tCons (tC (.str "calc")) (tCons (tCall spPick [] E0 (tCons (tVar 0) (tCons (tVar 4) tNil))) tNil))))))))))))
theorem st_l_instruction (v0 v1 : V) : L2.start ["_law_state_here", "_law_many", "_law_k", "_law_size", "_law_operators", "_law_menu", "_law_at"] [v0, v1] = [some v0, some v1, none, none, none, none, none] := rfl
abbrev t_l_do (A : Ad) : TS :=
  (tSeq (tAsg (tVar 0) (gLst A.K 4 (gCons (gName 2) (gCons (gName 3) (gCons (gName 4) (gCons (gName 5) gNil)))))) (tSeq (tAsg (tOp rIxA (tVar 1) (tC (.int 0))) (gName 6)) (tSeq (tIfS (tTest (tOp (rEqA A.K) (tVar 6) (tC (.str "push")))) (tRet (tLst (tCons (tVar 2) (tCons (tOp rAddA (tVar 3) (tLst (tCons (tOp rIxA (tVar 1) (tC (.int 1))) tNil))) (tCons (tVar 4) (tCons (tVar 5) tNil)))))) tNext) (tSeq (tIfS (tTest (tOp (rEqA A.K) (tVar 6) (tC (.str "load")))) (tRet (tLst (tCons (tVar 2) (tCons (tOp rAddA (tVar 3) (tLst (tCons (tOp rIxA (tVar 2) (tOp rIxA (tVar 1) (tC (.int 1)))) tNil))) (tCons (tVar 4) (tCons (tVar 5) tNil)))))) tNext) (tSeq (tIfS (tTest (tOp (rEqA A.K) (tVar 6) (tC (.str "store")))) (tRet (tLst (tCons (tOp rAddA (tOp rAddA (tSl rSlA (tVar 2) tNoPart (tPart (tOp rIxA (tVar 1) (tC (.int 1))))) (tSl rSlA (tVar 3) (tPart (tUn (rU fun i => .int (-i)) (tC (.int 1)))) tNoPart)) (tSl rSlA (tVar 2) (tPart (tOp rAddA (tOp rIxA (tVar 1) (tC (.int 1))) (tC (.int 1)))) tNoPart)) (tCons (tSl rSlA (tVar 3) tNoPart (tPart (tUn (rU fun i => .int (-i)) (tC (.int 1))))) (tCons (tVar 4) (tCons (tVar 5) tNil)))))) tNext) (tSeq (tIfS (tTest (tOp (rEqA A.K) (tVar 6) (tC (.str "jump")))) (tRet (tLst (tCons (tVar 2) (tCons (tVar 3) (tCons (tOp rIxA (tVar 1) (tC (.int 1))) (tCons (tVar 5) tNil)))))) tNext) (tSeq (tIfS (tTest (tOp (rEqA A.K) (tVar 6) (tC (.str "jzero")))) (tRet (tLst (tCons (tVar 2) (tCons (tSl rSlA (tVar 3) tNoPart (tPart (tUn (rU fun i => .int (-i)) (tC (.int 1))))) (tCons (tIf (tTest (tOp (rEqA A.K) (tOp rIxA (tVar 3) (tUn (rU fun i => .int (-i)) (tC (.int 1)))) (tC (.int 0)))) (tOp rIxA (tVar 1) (tC (.int 1))) (tVar 4)) (tCons (tVar 5) tNil)))))) tNext) (tSeq (tIfS (tTest (tOp (rEqA A.K) (tVar 6) (tC (.str "stop")))) (tRet (tLst (tCons (tVar 2) (tCons (tVar 3) (tCons (tVar 4) (tCons (tC (.str "stopped")) tNil)))))) tNext) (tSeq (tIfS (tTest (tOp (rIn A.K false) (tVar 6) (tTup (tCons (tC (.str "loadx")) (tCons (tC (.str "storex")) (tCons (tC (.str "check")) tNil)))))) (tSeq (tIfS (tTest (tOp (rI0 fun i j => .bl (decide (j ≤ i))) (tOp rIxA (tVar 3) (tUn (rU fun i => .int (-i)) (tC (.int 1)))) (tOp rIxA (tVar 1) (tUn (rU fun i => .int (-i)) (tC (.int 1)))))) (tRet (tC .non)) tNext) (tSeq (tAsg (tOp rAddA (tOp rIxA (tVar 1) (tC (.int 1))) (tOp rIxA (tVar 3) (tUn (rU fun i => .int (-i)) (tC (.int 1))))) (gName 7)) (tSeq (tIfS (tTest (tOp (rEqA A.K) (tVar 6) (tC (.str "loadx")))) (tRet (tLst (tCons (tVar 2) (tCons (tOp rAddA (tSl rSlA (tVar 3) tNoPart (tPart (tUn (rU fun i => .int (-i)) (tC (.int 1))))) (tLst (tCons (tOp rIxA (tVar 2) (tVar 7)) tNil))) (tCons (tVar 4) (tCons (tVar 5) tNil)))))) tNext) (tSeq (tIfS (tTest (tOp (rEqA A.K) (tVar 6) (tC (.str "storex")))) (tRet (tLst (tCons (tOp rAddA (tOp rAddA (tSl rSlA (tVar 2) tNoPart (tPart (tVar 7))) (tLst (tCons (tOp rIxA (tVar 3) (tUn (rU fun i => .int (-i)) (tC (.int 2)))) tNil))) (tSl rSlA (tVar 2) (tPart (tOp rAddA (tVar 7) (tC (.int 1)))) tNoPart)) (tCons (tSl rSlA (tVar 3) tNoPart (tPart (tUn (rU fun i => .int (-i)) (tC (.int 2))))) (tCons (tVar 4) (tCons (tVar 5) tNil)))))) tNext) (tRet (tVar 0)))))) tNext) (tSeq (tIfS (tTest (tOp (rEqA A.K) (tVar 6) (tC (.str "neg")))) (tRet (tLst (tCons (tVar 2) (tCons (tOp rAddA (tSl rSlA (tVar 3) tNoPart (tPart (tUn (rU fun i => .int (-i)) (tC (.int 1))))) (tLst (tCons (tOp (rI (fun _ j => 0 < j) fun i j => .int (i % j)) (tCB rIntA (tCons (tOp (rI0 fun i j => .int (i - j)) (tC (.int 65536)) (tOp rIxA (tVar 3) (tUn (rU fun i => .int (-i)) (tC (.int 1))))) tNil)) (tC (.int 65536))) tNil))) (tCons (tVar 4) (tCons (tVar 5) tNil)))))) tNext) (tSeq (tIfS (tTest (tOp (rEqA A.K) (tVar 6) (tC (.str "not")))) (tRet (tLst (tCons (tVar 2) (tCons (tOp rAddA (tSl rSlA (tVar 3) tNoPart (tPart (tUn (rU fun i => .int (-i)) (tC (.int 1))))) (tLst (tCons (tCB rIntA (tCons (tOp (rEqA A.K) (tOp rIxA (tVar 3) (tUn (rU fun i => .int (-i)) (tC (.int 1)))) (tC (.int 0))) tNil)) tNil))) (tCons (tVar 4) (tCons (tVar 5) tNil)))))) tNext) (tSeq (tAsg (tCall sp_calc [] E0 (tCons (tOp rIxA (tVar 1) (tC (.int 1))) (tCons (tOp rIxA (tVar 3) (tUn (rU fun i => .int (-i)) (tC (.int 2)))) (tCons (tOp rIxA (tVar 3) (tUn (rU fun i => .int (-i)) (tC (.int 1)))) tNil)))) (gName 8)) (tRet (tIf (tTest (tOp rIsN (tVar 8) (tC .non))) (tC .non) (tLst (tCons (tVar 2) (tCons (tOp rAddA (tSl rSlA (tVar 3) tNoPart (tPart (tUn (rU fun i => .int (-i)) (tC (.int 2))))) (tLst (tCons (tVar 8) tNil))) (tCons (tVar 4) (tCons (tVar 5) tNil)))))))))))))))))))
theorem st_l_do (v0 v1 : V) : L2.start ["_law_m", "_law_instruction_here", "_law_cells", "_law_stack", "_law_at", "_law_state_here", "_law_name", "_law_place", "_law_word_here"] [v0, v1] = [some v0, some v1, none, none, none, none, none, none, none] := rfl
abbrev sp_l_do (A : Ad) : Sp := spIn ["_law_m", "_law_instruction_here", "_law_cells", "_law_stack", "_law_at", "_law_state_here", "_law_name", "_law_place", "_law_word_here"] 2 (t_l_do A)
theorem len_l_do (A : Ad) {vs : List V} {H : Hp} {Q : VK} {E : XK} (h : sp_l_do A vs H Q E) : vs.length = 2 := h.1
theorem pure_l_do (A : Ad) (vs : List V) (H : Hp) (Q : VK) (E : XK) (h : sp_l_do A vs H Q E) : t_l_do A { nx := fun _ H' => Q .non H', rt := Q } (L2.start ["_law_m", "_law_instruction_here", "_law_cells", "_law_stack", "_law_at", "_law_state_here", "_law_name", "_law_place", "_law_word_here"] vs) H := h.2
def t_law (A : Ad) : TS :=
  (tSeq (tAsg (tCall (spState A.K) [] E0 (tCons (tVar 0) tNil)) (gName 1)) (tSeq (tAsg (tOp rAddA (tC (.int 1)) (tCall spDraw [] E0 (tCons (tVar 1) (tCons (tC (.int 6)) tNil)))) (gName 2)) (tSeq (tAsg (tLc (iRng1 (tCons (tVar 2) tNil)) (gName 14) tYes (tCall sp_l_word [] E0 (tCons (tVar 1) tNil)) [14]) (gName 3)) (tSeq (tAsg (tLc (iRng1 (tCons (tVar 2) tNil)) (gName 14) tYes (tOp rAddA (tOp rMulA (tC (.int 2)) (tVar 14)) (tC (.int 1))) [14]) (gName 4)) (tSeq (tAsg (tCB rListA (tCons (tVar 3) tNil)) (gName 5)) (tSeq (tFor (iRng1 (tCons (tC (.int 5)) tNil)) (gName 6) (tSeq (tAsg (tMake A.c_Workspace (sp_Workspace_init A) [] E0 (tCons (tC (.int 4)) (tCons (tTup (tCons (tC (.int 1)) (tCons (tOp rAddA (tVar 2) (tC (.int 2))) (tCons (tVar 4) (tCons (tLst tNil) (tCons (tLst (tCons (tTup (tCons (tC (.str "end")) tNil)) tNil)) tNil)))))) (tCons (tVar 3) tNil)))) (gName 7)) (tSeq (tIfS (tOr (tTest (tOp (rNeA A.K) (tFld A.K (tVar 7) "cells") (tOp rAddA (tVar 3) (tLst (tCons (tC (.int 0)) (tCons (tC (.int 0)) tNil)))))) (tOr (tTest (tOp (rNeA A.K) (tFld A.K (tVar 7) "stack") (tLst tNil))) (tOr (tTest (tOp (rNeA A.K) (tFld A.K (tVar 7) "at") (tC (.int 0)))) (tTest (tOp (rNeA A.K) (tFld A.K (tVar 7) "state") (tC (.str "ready"))))))) (tRet (tC (.bl false))) tNext) (tSeq (tAsg (tLc (iRng1 (tCons (tOp rAddA (tC (.int 2)) (tCall spDraw [] E0 (tCons (tVar 1) (tCons (tC (.int 5)) tNil)))) tNil)) (gName 14) tYes (tCall sp_l_word [] E0 (tCons (tVar 1) tNil)) [14]) (gName 8)) (tSeq (tFor (iList A.K (tVar 8)) (gName 9) (tIfS (tTest (tOp rNotB (tMeth A.c_Workspace "step" (sp_Workspace_step A) [] E0 (tVar 7) (tCons (tTup (tCons (tC (.str "push")) (tCons (tVar 9) tNil))) tNil)) (tC (.bl true)))) (tRet (tC (.bl false))) tNext)) (tSeq (tAsg (tCall sp_l_instr [] E0 (tCons (tVar 1) (tCons (tVar 2) tNil))) (gName 10)) (tSeq (tAsg (tLst (tCons (tOp rAddA (tVar 3) (tLst (tCons (tC (.int 0)) (tCons (tC (.int 0)) tNil)))) (tCons (tVar 8) (tCons (tC (.int 0)) (tCons (tC (.str "ready")) tNil))))) (gName 11)) (tSeq (tAsg (tMeth A.c_Workspace "step" (sp_Workspace_step A) [] E0 (tVar 7) (tCons (tVar 10) tNil)) (gName 12)) (tSeq (tIfS (tTest (tOp (rIn A.K false) (tOp rIxA (tVar 10) (tC (.int 0))) (tTup (tCons (tC (.str "give")) (tCons (tC (.str "take")) (tCons (tC (.str "either")) (tCons (tC (.str "fork")) (tCons (tC (.str "end")) tNil)))))))) (tSeq (tAsg (tVar 11) (gName 13)) (tIfS (tTest (tOp rNotB (tVar 12) (tC (.bl false)))) (tRet (tC (.bl false))) tNext)) (tSeq (tAsg (tCall (sp_l_do A) [] E0 (tCons (tVar 11) (tCons (tVar 10) tNil))) (gName 13)) (tIfS (tTest (tOp rNotB (tVar 12) (tC (.bl true)))) (tRet (tC (.bl false))) tNext))) (tSeq (tIfS (tTest (tOp rIsN (tVar 13) (tC .non))) (tIfS (tTest (tOp (rNeA A.K) (tFld A.K (tVar 7) "state") (tC (.str "faulted")))) (tRet (tC (.bl false))) tNext) (tIfS (tTest (tOp (rNeA A.K) (tLst (tCons (tFld A.K (tVar 7) "cells") (tCons (tFld A.K (tVar 7) "stack") (tCons (tFld A.K (tVar 7) "at") (tCons (tFld A.K (tVar 7) "state") tNil))))) (tVar 13))) (tRet (tC (.bl false))) tNext)) (tIfS (tTest (tOp rNotN (tVar 13) (tC .non))) (tSeq (tDrop (tMeth A.c_Workspace "store" (sp_Workspace_store A) [] E0 (tVar 7) (tCons (tOp rIxA (tVar 4) (tUn (rU fun i => .int (-i)) (tC (.int 1)))) (tCons (tC (.int 77)) tNil)))) (tIfS (tOr (tTest (tOp (rNeA A.K) (tMeth A.c_Workspace "cell" (sp_Workspace_cell A) [] E0 (tVar 7) (tCons (tOp rIxA (tVar 4) (tUn (rU fun i => .int (-i)) (tC (.int 1)))) tNil)) (tC (.int 77)))) (tOr (tTest (tOp (rNeA A.K) (tOp rIxA (tFld A.K (tVar 7) "cells") (tOp (rI0 fun i j => .int (i - j)) (tVar 2) (tC (.int 1)))) (tC (.int 77)))) (tOr (tTest (tOp (rNeA A.K) (tFld A.K (tVar 7) "number") (tC (.int 4)))) (tTest (tOp (rNeA A.K) (tFld A.K (tVar 7) "parent") (tC (.int 1))))))) (tRet (tC (.bl false))) tNext)) tNext))))))))))) (tRet (tOp (rEqA A.K) (tVar 3) (tVar 5)))))))))
theorem st_law (v0 : V) : L2.start ["_law_script", "_law_state_here", "_law_many", "_law_values", "_law_takes", "_law_kept", "_law_turn", "_law_work", "_law_stack", "_law_word_here", "_law_instruction_here", "_law_before", "_law_told", "_law_due", "_law_k"] [v0] = [some v0, none, none, none, none, none, none, none, none, none, none, none, none, none, none] := rfl
theorem m16 (x : Int) : Builtin.bitAnd x (65536 - 1) = x % 65536 := bitAnd_m16 x
theorem len_calculate (A : Ad) {vs : List V} {H : Hp} {Q : VK} {E : XK} (h : sp_calc vs H Q E) : vs.length = 3 := by
  obtain ⟨o, a, b, rfl, _⟩ := h
  rfl
theorem b2t {p : Prop} [Decidable p] (h : p) : b2 p = 1 := if_pos h
theorem b2f {p : Prop} [Decidable p] (h : ¬ p) : b2 p = 0 := if_neg h
theorem pure_calculate (A : Ad) (vs : List V) (H : Hp) (Q : VK) (E : XK) (h : sp_calc vs H Q E) : t_calculate A { nx := fun _ H' => Q .non H', rt := Q } (L2.start ["operator", "a", "b"] vs) H := by
  obtain ⟨o, a, b, rfl, ⟨a0, a1⟩, ⟨b0, b1⟩, k⟩ := h
  rw [st_calculate]
  unfold t_calculate
  walk_at "s"
  refine ⟨sz (by simp), fun p hp => in2 upd_same ?_⟩
  have sm := Same.newp (o := .tup [.str "/", .str "mod"]) hp
  generalize upd H p (.tup [.str "/", .str "mod"]) = H1 at sm
  have k := k H1 sm
  cases o <;> simp only [Op.nm] <;> walk_at "s"
  case div =>
    refine i_d2 (fun h => ?_) (fun h => ?_)
    · walk_at "s"
      simp only [opv, if_pos h] at k
      exact k
    · walk_at "s"
      refine i_rI ⟨by omega, by omega⟩ ?_
      simp only [opv, if_neg h] at k
      exact k
  case mod =>
    refine i_d2 (fun h => ?_) (fun h => ?_)
    · walk_at "s"
      simp only [opv, if_pos h] at k
      exact k
    · walk_at "s"
      refine i_rI ⟨by omega, by omega⟩ ?_
      walk_at "s"
      have hd : 0 ≤ a / b ∧ a / b ≤ a := ⟨Int.ediv_nonneg a0 b0, Int.ediv_le_self b a0⟩
      refine i_mulI (.inl ⟨by omega, by omega⟩) ?_
      walk_at "s"
      have e : a - a / b * b = a % b := by rw [Int.mul_comm, Int.emod_def]
      rw [e]
      simp only [opv, if_neg h] at k
      exact k
  case mul =>
    refine i_mulI (.inl ⟨by omega, by omega⟩) ?_
    walk_at "s"
    rw [m16]
    exact k
  case and =>
    refine i_n2 (fun h => ?_) (fun h => ?_)
    · walk_at "s"
      refine i_n2 (fun h' => ?_) (fun h' => ?_)
      · walk_at "s"
        simp only [opv, b2t (show a ≠ 0 ∧ b ≠ 0 from ⟨h, h'⟩)] at k
        exact k
      · walk_at "s"
        simp only [opv, b2f (show ¬ (a ≠ 0 ∧ b ≠ 0) from fun q => q.2 h')] at k
        exact k
    · walk_at "s"
      simp only [opv, b2f (show ¬ (a ≠ 0 ∧ b ≠ 0) from fun q => q.1 h)] at k
      exact k
  case or =>
    refine i_n2 (fun h => ?_) (fun h => ?_)
    · walk_at "s"
      simp only [opv, b2t (show a ≠ 0 ∨ b ≠ 0 from .inl h)] at k
      exact k
    · walk_at "s"
      refine i_n2 (fun h' => ?_) (fun h' => ?_)
      · walk_at "s"
        simp only [opv, b2t (show a ≠ 0 ∨ b ≠ 0 from .inr h')] at k
        exact k
      · walk_at "s"
        simp only [opv, b2f (show ¬ (a ≠ 0 ∨ b ≠ 0) from fun q => q.elim (fun z => z h) (fun z => z h'))] at k
        exact k
  case eq =>
    refine i_d2 (fun h => ?_) (fun h => ?_) <;> walk_at "s"
    · simp only [opv, b2t h] at k
      exact k
    · simp only [opv, b2f h] at k
      exact k
  case ne =>
    refine i_n2 (fun h => ?_) (fun h => ?_) <;> walk_at "s"
    · simp only [opv, b2t (show a ≠ b from h)] at k
      exact k
    · simp only [opv, b2f (show ¬ (a ≠ b) from fun q => q h)] at k
      exact k
  case lt =>
    refine i_d2 (fun h => ?_) (fun h => ?_) <;> walk_at "s"
    · simp only [opv, b2t h] at k
      exact k
    · simp only [opv, b2f h] at k
      exact k
  case le =>
    refine i_d2 (fun h => ?_) (fun h => ?_) <;> walk_at "s"
    · simp only [opv, b2t h] at k
      exact k
    · simp only [opv, b2f h] at k
      exact k
  all_goals
    rw [m16]
    exact k
theorem len_val (A : Ad) (n : Nat) {vs : List V} {H : Hp} {Q : VK} {E : XK} (h : sp_val n vs H Q E) : vs.length = 2 := by
  obtain ⟨p, q, r, rfl, _⟩ := h
  rfl
theorem len_value (A : Ad) (n : Nat) {vs : List V} {H : Hp} {Q : VK} {E : XK} (h : sp_val n vs H Q E) : vs.length = 2 := len_val A n h
theorem nm_num (o : Op) : (o.nm = "num") = False := by cases o <;> exact eq_false (by decide +kernel)
theorem nm_neg (o : Op) : (o.nm = "neg") = False := by cases o <;> exact eq_false (by decide +kernel)
theorem nm_not (o : Op) : (o.nm = "not") = False := by cases o <;> exact eq_false (by decide +kernel)
theorem nm_cell (o : Op) : (("cell" : Str) == o.nm || ("at" : Str) == o.nm) = false := by cases o <;> decide +kernel
theorem pure_value (A : Ad) (n : Nat) (vs : List V) (H : Hp) (Q : VK) (E : XK) (h : sp_val n vs H Q E) : t_value A n { nx := fun _ H' => Q .non H', rt := Q } (L2.start ["e", "cells", "cell", "a", "b"] vs) H := by
  obtain ⟨p, q, r, rfl, hv, k⟩ := h
  rw [st_value]
  unfold t_value
  cases hv with
  | num h hw =>
    walk_at "s"
    exact k H (Same.refl _)
  | @neg _ t w h ht hw =>
    walk_at "s"
    refine ⟨sz (by simp), fun u hu => in2 upd_same ?_⟩
    have sm := Same.newp (o := .tup [.str "cell", .str "at"]) hu
    generalize upd H u (.tup [.str "cell", .str "at"]) = H1 at sm
    have h := sm _ _ h
    have ht := sm _ _ ht
    walk_at "s"
    refine ⟨t, q, _, rfl, .num ht hw, fun H2 s2 => ?_⟩
    have h := s2 _ _ h
    have k := k H2 (sm.trans s2)
    simp only [optV] at k ⊢
    walk_at "s"
    rw [m16]
    exact k
  | @not _ t w h ht hw =>
    walk_at "s"
    refine ⟨sz (by simp), fun u hu => in2 upd_same ?_⟩
    have sm := Same.newp (o := .tup [.str "cell", .str "at"]) hu
    generalize upd H u (.tup [.str "cell", .str "at"]) = H1 at sm
    have h := sm _ _ h
    have ht := sm _ _ ht
    walk_at "s"
    refine ⟨t, q, _, rfl, .num ht hw, fun H2 s2 => ?_⟩
    have h := s2 _ _ h
    have k := k H2 (sm.trans s2)
    simp only [optV, not1] at k ⊢
    walk_at "s"
    refine i_d2 (fun h => ?_) (fun h => ?_)
    · rw [b2t h] at k
      walk_at "s"
      exact k
    · rw [b2f h] at k
      walk_at "s"
      exact k
  | @bin _ t u o a b h ht hu ha hb =>
    walk_at "s"
    refine i_dn (by rw [nm_num]; exact id) ?_
    walk_at "s"
    refine ⟨sz (by simp), fun u2 hu2 => in2 upd_same ?_⟩
    have sm := Same.newp (o := .tup [.str "cell", .str "at"]) hu2
    generalize upd H u2 (.tup [.str "cell", .str "at"]) = H1 at sm
    have h := sm _ _ h
    have ht := sm _ _ ht
    have hu := sm _ _ hu
    rw [nm_cell]
    walk_at "s"
    refine ⟨t, q, _, rfl, .num ht ha, fun H2 s2 => ?_⟩
    have h := s2 _ _ h
    have ht := s2 _ _ ht
    have hu := s2 _ _ hu
    simp only [optV]
    walk_at "s"
    refine i_dn (by rw [nm_neg]; exact id) ?_
    walk_at "s"
    refine i_dn (by rw [nm_not]; exact id) ?_
    walk_at "s"
    refine ⟨u, q, _, rfl, .num hu hb, fun H3 s3 => ?_⟩
    have h := s3 _ _ h
    simp only [optV]
    walk_at "s"
    exact ⟨o, a, b, rfl, ha, hb, fun H4 s4 => k H4 (sm.trans (s2.trans (s3.trans s4)))⟩
theorem len_l_two (A : Ad) {vs : List V} {H : Hp} {Q : VK} {E : XK} (h : sp_calc vs H Q E) : vs.length = 3 := len_calculate A h
theorem len_l_word (A : Ad) {vs : List V} {H : Hp} {Q : VK} {E : XK} (h : sp_l_word vs H Q E) : vs.length = 1 := by
  obtain ⟨a, c, B, ls, rfl, _⟩ := h
  rfl
end K45
set_option Elab.async false
set_option linter.all false
set_option maxRecDepth 100000
set_option maxHeartbeats 4000000
namespace K45
open PySem PySem.Spec PyProof.Rows L2 Lb
local macro_rules | `(tactic| walk_at "h") => `(tactic| first | assumption | exact Own.mem (by assumption) (by walk_at "m") | exact Own.kp (by assumption) (by assumption))
local macro_rules | `(tactic| walk_at "m") => `(tactic| (focus ((repeat (first | assumption | exact List.mem_cons_self | apply List.mem_cons_of_mem)); done)))
local macro_rules | `(tactic| walk_at "u") => `(tactic| (focus ((repeat (first | exact Up1.here | apply Up1.there)); done)))
local macro_rules | `(tactic| walk_at "p") => `(tactic| (focus ((repeat (first | exact Pre.nil | apply Pre.cons)); done)))
local macro_rules | `(tactic| walk_at "f") => `(tactic| (focus ((repeat (first | exact PutF.here | exact PutF.nil | (apply PutF.there; (solve | decide +kernel)))); done)))
local macro_rules | `(tactic| walk_at "k") => `(tactic| (focus ((repeat (first | exact LkF.here rfl | exact LkF.nil rfl | refine LkF.there (by decide +kernel) ?_)); done)))
local macro_rules | `(tactic| walk_at "e") => `(tactic| (focus ((repeat (first | exact StE.nil | apply StE.app | apply StE.got | apply StE.lack)); done)))
local macro_rules | `(tactic| walk_at "d") => `(tactic| (focus ((repeat (first | exact Dt.int _ | exact Dt.str _ | exact Dt.non | exact Dt.bl _ | exact DtAll.nil | apply DtAll.cons | (apply Dt.tup; (solve | walk_at "h")) | (apply Dt.lst; (solve | walk_at "h")))); done)))
local macro_rules | `(tactic| walk_at "sh") => `(tactic| (focus ((repeat (first | exact Sh.int | exact Sh.non | exact Sh.str (by decide +kernel) | exact ShA.nil | apply ShA.cons | apply Sh.lst | apply Sh.tup)); done)))
local macro_rules | `(tactic| walk_at "ne") => `(tactic| (apply rd_neF; (solve | walk_at "d"); (solve | walk_at "d"); (solve | exact Sh.shp (n := 4) (by walk_at "sh"))))
local macro_rules | `(tactic| walk_at "s1") => `(tactic| with_reducible first | (apply i_var; (solve | with_unfolding_all rfl)) | apply i_cons | apply i_nil | apply i_c | apply i_op | apply i_asg | apply i_seq | apply i_gname | apply i_eqS | apply i_eqI | apply i_neS | apply i_tt | apply i_ff | (apply i_ixA; (solve | walk_at "h"); (solve | exact IxO.lst (by assumption) | exact .lst (by with_unfolding_all rfl) | exact .tup (by with_unfolding_all rfl))) | apply i_bl | apply i_test | apply i_ifS | apply i_tupN | (apply i_tupO; (solve | assumption); (exact (sz (by (try simp) <;> omega))); intro p H O) | apply i_fld | (apply i_fldO; (solve | walk_at "h"); (solve | assumption); (solve | assumption); (solve | walk_at "k")) | (apply i_tB; (solve | decide +kernel)) | (apply i_fB; (solve | decide +kernel)) | apply i_ret | apply i_retN | apply i_drop | apply i_next | apply i_brk | apply i_cnt | apply i_par | apply i_par2 | apply i_fldSN | apply i_dput | apply i_un | apply i_rU | apply i_rI0 | apply i_B | apply i_tru | apply i_truB | apply i_and | apply i_or | apply i_not | apply i_andV | apply i_orV | apply i_notV | apply i_if | apply i_call | apply i_meth | apply i_makeN | apply i_cb | apply i_dnewN | apply i_lstN | apply i_bml | apply i_gsub | apply i_gcons | apply i_gnil | apply i_sl | apply i_nop | apply i_part | apply i_prt | apply i_isN | apply i_notN | apply i_yes | apply i_ntt | apply i_nff | apply i_addI | apply i_neI | apply i_intI | apply i_intB | apply i_abs | apply i_isiIB | apply i_isiNB | apply i_isiBB | apply i_dget | apply i_for | apply i_ilist | apply i_itup | apply i_rng1 | apply i_rng2 | apply i_ex1 | apply i_ex2 | apply i_exr | apply i_disp | apply i_pcons | apply i_pnil | apply i_neN | apply i_eqN | apply i_neB | apply i_eqB | apply i_lc | apply i_dnI | apply i_nyI | apply i_dnR | apply i_nyR | (apply i_lenA; (solve | walk_at "h"); (solve | first | exact .lst | exact .tup | exact .dK)) | (apply i_isL; (solve | walk_at "h")) | (apply i_isiLL; (solve | walk_at "h")) | (apply i_isiTL; (solve | walk_at "h")) | (apply i_gtup; (solve | walk_at "h"); (solve | with_unfolding_all rfl)) | (apply i_fldSO; (solve | assumption); (solve | walk_at "u"); (solve | walk_at "f"); (solve | assumption); (solve | assumption); (solve | simp); intro H O) | (apply i_lstO; (solve | assumption); (exact (sz (by (try simp) <;> omega))); intro p H O) | (apply i_makeO; (solve | assumption); intro x dx H O) | (apply i_methO; (solve | walk_at "h"); (solve | walk_at "k")) | (apply i_newO; (solve | assumption); intro p H O) | (apply i_listN; (solve | walk_at "h")) | (apply i_listTN; (solve | walk_at "h")) | (apply i_addN; (solve | walk_at "h"); (solve | walk_at "h"); (exact (sz (by (try simp) <;> omega)))) | apply i_mkd | (apply i_dgetI; (solve | walk_at "h"); (solve | assumption)) | (apply i_in; (solve | with_unfolding_all rfl); (solve | walk_at "e")) | (apply i_setO; (solve | assumption); (solve | walk_at "u"); (solve | with_unfolding_all rfl); intro H O) | (apply i_appO; (solve | assumption); (solve | walk_at "u"); (exact (szl (by (try simp) <;> omega))); intro H O) | (apply i_drawO; (solve | assumption); (exact rfl); (solve | decide); (solve | decide); intro r H h0 h1 O))
local macro_rules | `(tactic| walk_at "s") => `(tactic| repeat (walk_at "s1"))
set_option maxHeartbeats 16000000 in
theorem pure_l_word (A : Ad) (vs : List V) (H : Hp) (Q : VK) (E : XK) (h : sp_l_word vs H Q E) : t_l_word A { nx := fun _ H' => Q .non H', rt := Q } (L2.start ["_law_state_here"] vs) H := by
  obtain ⟨a, c, B, ls, rfl, O, k⟩ := h
  rw [st_l_word]
  unfold t_l_word
  walk_at "s"
  apply i_pickO; (solve | assumption); (solve | rfl); (solve | walk_at "m"); (solve | simp); (solve | simp)
  intro v H' hv O
  obtain ⟨z, rfl, hz⟩ : ∃ i, v = .int i ∧ Wd i := by
    simp only [List.mem_cons, List.not_mem_nil, or_false] at hv
    rcases hv with rfl | rfl | rfl | rfl | rfl | rfl <;> exact ⟨_, rfl, by constructor <;> omega⟩
  exact k _ z hz (O.dropP (by walk_at "p"))
theorem len_l_instruction (A : Ad) {vs : List V} {H : Hp} {Q : VK} {E : XK} (h : sp_l_instr vs H Q E) : vs.length = 2 := by
  obtain ⟨a, c, B, ls, m, rfl, _⟩ := h
  rfl
theorem op_of {x : Str} (h : x ∈ ([ "+", "-", "*", "/", "mod", "and", "or", "==", "!=", "<", "<=" ] : List Str)) : ∃ o : Op, x = o.nm := by
  simp only [List.mem_cons, List.not_mem_nil, or_false] at h
  rcases h with rfl | rfl | rfl | rfl | rfl | rfl | rfl | rfl | rfl | rfl | rfl
  · exact ⟨.add, rfl⟩
  · exact ⟨.sub, rfl⟩
  · exact ⟨.mul, rfl⟩
  · exact ⟨.div, rfl⟩
  · exact ⟨.mod, rfl⟩
  · exact ⟨.and, rfl⟩
  · exact ⟨.or, rfl⟩
  · exact ⟨.eq, rfl⟩
  · exact ⟨.ne, rfl⟩
  · exact ⟨.lt, rfl⟩
  · exact ⟨.le, rfl⟩
theorem i_ixM {H : Hp} {Q : VK} {p : Addr} {xs : List V} {j : Nat} (h : H p = some (.lst xs)) (hj : j < xs.length) (k : ∀ v, v ∈ xs → Q v H) : rIxA (.ref p) (.int (j : Int)) H Q := i_ixL h (atI_nat (List.getElem?_eq_getElem hj)) (k _ (List.getElem_mem hj))
set_option maxHeartbeats 16000000 in
theorem pure_l_instruction (A : Ad) (vs : List V) (H : Hp) (Q : VK) (E : XK) (h : sp_l_instr vs H Q E) : t_l_instruction A { nx := fun _ H' => Q .non H', rt := Q } (L2.start ["_law_state_here", "_law_many", "_law_k", "_law_size", "_law_operators", "_law_menu", "_law_at"] vs) H := by
  obtain ⟨a, c, B, ls, m, rfl, m1, m6, O, k⟩ := h
  rw [st_l_instruction]
  unfold t_l_instruction
  walk_at "s"
  refine i_drawO O rfl (by omega) (by omega) fun r H1 h0 h1 O => ?_
  obtain ⟨kk, rfl⟩ : ∃ j : Nat, r = (j : Int) := ⟨r.toNat, by omega⟩
  walk_at "s"
  refine i_drawO O rfl (by omega) (by omega) fun r H2 g0 g1 O => ?_
  obtain ⟨ss, rfl⟩ : ∃ j : Nat, r = (j : Int) := ⟨r.toNat, by omega⟩
  walk_at "s"
  refine ⟨a, c, B, _, rfl, ‹Own a c B _ _›, fun H3 w hw O => ?_⟩
  have fin : ∀ {l1 ls' : List (Addr × HO)} {H' : Hp} {v : V} (O : Own a c B H' ls'), Pre ls ls' l1 → (∃ p xs, v = .ref p ∧ (p, HO.tup xs) ∈ l1 ∧ InR m xs) → Q v H' := by
    rintro l1 ls' H' v O hp ⟨p, xs, rfl, hm, hM⟩
    obtain ⟨B', s, k2, O'⟩ := O.settle hp
    exact k _ B' p xs s O' (k2 _ hm) hM
  have e1 : (1 : Int) + (ss : Int) = ((1 + ss : Nat) : Int) := by omega
  rw [e1] at *
  walk_at "s"
  apply i_pickO; (solve | assumption); (solve | rfl); (solve | walk_at "m"); (solve | simp); (solve | simp)
  intro v H4 hv O
  obtain ⟨x, rfl, hx⟩ : ∃ x, v = .str x ∧ x ∈ ([ "+", "-", "*", "/", "mod", "and", "or", "==", "!=", "<", "<=" ] : List Str) := by
    simp only [List.mem_cons, List.not_mem_nil, or_false] at hv
    rcases hv with rfl | rfl | rfl | rfl | rfl | rfl | rfl | rfl | rfl | rfl | rfl <;> exact ⟨_, rfl, by simp⟩
  obtain ⟨o, rfl⟩ := op_of hx
  walk_at "s"
  rename_i r H5 f0 f1 O
  obtain ⟨j, rfl⟩ : ∃ j : Nat, r = (j : Int) := ⟨r.toNat, by omega⟩
  refine i_d2 (fun h17 => ?_) (fun _ => ?_)
  · walk_at "s"
    refine i_ixM (by walk_at "h") (by simp; omega) fun v hv => ?_
    simp only [List.cons_append, List.nil_append, List.mem_cons, List.not_mem_nil, or_false] at hv
    rcases hv with rfl | rfl | rfl | rfl | rfl | rfl | rfl | rfl | rfl | rfl | rfl | rfl | rfl | rfl | rfl | rfl | rfl
    · exact fin ‹Own a c B _ _› (by walk_at "p") ⟨_, _, rfl, (by walk_at "m"), .push hw⟩
    · exact fin ‹Own a c B _ _› (by walk_at "p") ⟨_, _, rfl, (by walk_at "m"), .load (by omega)⟩
    · exact fin ‹Own a c B _ _› (by walk_at "p") ⟨_, _, rfl, (by walk_at "m"), .store (by omega)⟩
    · exact fin ‹Own a c B _ _› (by walk_at "p") ⟨_, _, rfl, (by walk_at "m"), .loadx (by omega) (by omega)⟩
    · exact fin ‹Own a c B _ _› (by walk_at "p") ⟨_, _, rfl, (by walk_at "m"), .storex (by omega) (by omega)⟩
    · exact fin ‹Own a c B _ _› (by walk_at "p") ⟨_, _, rfl, (by walk_at "m"), .check (by omega) (by omega)⟩
    · exact fin ‹Own a c B _ _› (by walk_at "p") ⟨_, _, rfl, (by walk_at "m"), .neg⟩
    · exact fin ‹Own a c B _ _› (by walk_at "p") ⟨_, _, rfl, (by walk_at "m"), .not⟩
    · exact fin ‹Own a c B _ _› (by walk_at "p") ⟨_, _, rfl, (by walk_at "m"), .calc_ o⟩
    · exact fin ‹Own a c B _ _› (by walk_at "p") ⟨_, _, rfl, (by walk_at "m"), .jump⟩
    · exact fin ‹Own a c B _ _› (by walk_at "p") ⟨_, _, rfl, (by walk_at "m"), .jzero⟩
    · exact fin ‹Own a c B _ _› (by walk_at "p") ⟨_, _, rfl, (by walk_at "m"), .stop⟩
    · exact fin ‹Own a c B _ _› (by walk_at "p") ⟨_, _, rfl, (by walk_at "m"), .give⟩
    · exact fin ‹Own a c B _ _› (by walk_at "p") ⟨_, _, rfl, (by walk_at "m"), .take_⟩
    · exact fin ‹Own a c B _ _› (by walk_at "p") ⟨_, _, rfl, (by walk_at "m"), .either⟩
    · exact fin ‹Own a c B _ _› (by walk_at "p") ⟨_, _, rfl, (by walk_at "m"), .fork⟩
    · exact fin ‹Own a c B _ _› (by walk_at "p") ⟨_, _, rfl, (by walk_at "m"), .end_⟩
  · walk_at "s"
    apply i_pickO; (solve | assumption); (solve | rfl); (solve | walk_at "m"); (solve | simp); (solve | simp)
    intro v H6 hv O
    obtain ⟨x, rfl, hx⟩ : ∃ x, v = .str x ∧ x ∈ ([ "+", "-", "*", "/", "mod", "and", "or", "==", "!=", "<", "<=" ] : List Str) := by
      simp only [List.mem_cons, List.not_mem_nil, or_false] at hv
      rcases hv with rfl | rfl | rfl | rfl | rfl | rfl | rfl | rfl | rfl | rfl | rfl <;> exact ⟨_, rfl, by simp⟩
    obtain ⟨o2, rfl⟩ := op_of hx
    walk_at "s"
    exact fin ‹Own a c B _ _› (by walk_at "p") ⟨_, _, rfl, (by walk_at "m"), .calc_ o2⟩
end K45
set_option Elab.async false
set_option linter.all false
set_option maxRecDepth 100000
set_option maxHeartbeats 4000000
namespace K45
open PySem PySem.Spec PyProof.Rows L2 Lb
local macro_rules | `(tactic| walk_at "s1") => `(tactic| with_reducible first | refine i_seq ?_ | refine i_asg ?_ | refine i_gname ?_ | refine i_ifS ?_ | refine i_ret ?_ | refine i_retN ?_ | refine i_drop ?_ | refine i_next ?_ | refine i_brk ?_ | refine i_cnt ?_ | refine i_par ?_ | refine i_par2 ?_ | refine i_fldS ?_ | refine i_dput ?_ | refine i_c ?_ | refine i_op ?_ | refine i_un ?_ | refine i_rU ?_ | refine i_rI0 ?_ | refine i_test ?_ | refine i_B ?_ | refine i_bl ?_ | refine i_tru ?_ | refine i_truB ?_ | refine i_and ?_ | refine i_or ?_ | refine i_not ?_ | refine i_andV ?_ | refine i_orV ?_ | refine i_notV ?_ | refine i_if ?_ | refine i_call ?_ | refine i_meth ?_ | refine i_make ?_ | refine i_cb ?_ | refine i_cons ?_ | refine i_nil ?_ | refine i_tup ?_ | refine i_lst ?_ | refine i_bml ?_ | refine i_gsub ?_ | refine i_gcons ?_ | refine i_gnil ?_ | refine i_sl ?_ | refine i_nop ?_ | refine i_part ?_ | refine i_prt ?_ | refine i_isN ?_ | refine i_notN ?_ | refine i_yes ?_ | refine i_tt ?_ | refine i_ff ?_ | refine i_ntt ?_ | refine i_nff ?_ | refine i_addI ?_ | refine i_eqI ?_ | refine i_neI ?_ | refine i_eqS ?_ | refine i_neS ?_ | refine i_intI ?_ | refine i_intB ?_ | refine i_abs ?_ | refine i_isiIB ?_ | refine i_isiNB ?_ | refine i_isiBB ?_ | refine i_dget ?_ | refine i_for ?_ | refine i_ilist ?_ | refine i_itup ?_ | refine i_rng1 ?_ | refine i_rng2 ?_ | refine i_ex1 ?_ | refine i_ex2 ?_ | refine i_exr ?_ | refine i_fld ?_ | refine i_disp ?_ | refine i_pcons ?_ | refine i_pnil ?_ | refine i_neN ?_ | refine i_eqN ?_ | refine i_neB ?_ | refine i_eqB ?_ | refine i_lc ?_ | refine i_var (by with_unfolding_all rfl) ?_ | refine i_tB (by decide +kernel) ?_ | refine i_fB (by decide +kernel) ?_ | refine i_dnI ?_ | refine i_nyI ?_ | refine i_dnR ?_ | refine i_nyR ?_ | refine i_ixT (by assumption) (by with_unfolding_all rfl) ?_ | refine i_ixL (by assumption) (by with_unfolding_all rfl) ?_ | refine i_lenL (by assumption) ?_ | refine i_lenT (by assumption) ?_ | refine i_isL (by assumption) ?_ | refine i_isiLL (by assumption) ?_ | refine i_isiTL (by assumption) ?_ | refine i_gtup (by assumption) (by with_unfolding_all rfl) ?_)
local macro_rules | `(tactic| walk_at "s") => `(tactic| repeat (walk_at "s1"))
theorem mergeK_nd : ∀ {kvs acc : List (Key × V)}, ((acc ++ kvs).map Prod.fst).Nodup → mergeK acc kvs = acc ++ kvs
  | [], acc, _ => (List.append_nil acc).symm
  | (k, v) :: r, acc, h => by
    have hk : valV acc k = none := by
      unfold valV
      have q : List.find? (fun kv : Key × V => decide (kv.1 = k)) acc = none := by
        rw [List.find?_eq_none]
        intro x hx
        rw [List.map_append] at h
        have h2 := (List.nodup_append.mp h).2.2
        have := h2 _ (List.mem_map_of_mem (f := Prod.fst) hx) k (by rw [List.map_cons]; exact List.mem_cons_self)
        simp [this]
      rw [q]
      rfl
    show mergeK (putK acc k v) r = _
    rw [putK_new v hk]
    rw [mergeK_nd (by rw [List.append_assoc]; exact h), List.append_assoc]
    rfl
theorem nm_dm (o : Op) (h1 : o ≠ .div) (h2 : o ≠ .mod) : (("/" : Str) == o.nm || ("mod" : Str) == o.nm) = false := by
  cases o <;> first | exact absurd rfl h1 | exact absurd rfl h2 | decide +kernel
def tab (a b x y : Int) : List (Key × V) := [(.inr "+", .int (a + b)), (.inr "-", .int (a - b)), (.inr "*", .int (a * b)), (.inr "and", .int x), (.inr "or", .int y), (.inr "==", .int (b2 (a = b)))]
theorem tab_nd {a b x y : Int} : ((([] : List (Key × V)) ++ tab a b x y).map Prod.fst).Nodup := by
  show ([.inr "+", .inr "-", .inr "*", .inr "and", .inr "or", .inr "=="] : List Key).Nodup
  decide +kernel
def tab9 (a b x y : Int) : List (Key × V) := tab a b x y ++ [(.inr "!=", .int (b2 (a ≠ b))), (.inr "<", .int (b2 (a < b))), (.inr "<=", .int (b2 (a ≤ b)))]
def tz (a b : Int) : Op → Int
  | .add => a + b | .sub => a - b | .mul => a * b | .and => b2 (a ≠ 0 ∧ b ≠ 0) | .or => b2 (a ≠ 0 ∨ b ≠ 0) | .eq => b2 (a = b) | .ne => b2 (a ≠ b) | .lt => b2 (a < b) | .le => b2 (a ≤ b)
  | _ => 0
theorem tab9_get {a b : Int} (o : Op) (h1 : o ≠ .div) (h2 : o ≠ .mod) : valV (tab9 a b (b2 (a ≠ 0 ∧ b ≠ 0)) (b2 (a ≠ 0 ∨ b ≠ 0))) (.inr o.nm) = some (.int (tz a b o)) ∧ opv o a b = some (tz a b o % 65536) := by
  have hb : ∀ {p : Prop} [Decidable p], b2 p = b2 p % 65536 := by
    intro p _
    unfold b2
    split <;> rfl
  have pos : ∀ {k : Key} {v : V} {r : List (Key × V)}, valV ((k, v) :: r) k = some v := fun {k v r} => by rw [valV_pos rfl]
  have neg : ∀ {k k' : Key} {v : V} {r : List (Key × V)}, ¬ k' = k → valV ((k', v) :: r) k = valV r k := fun {k k' v r} e => valV_neg e
  cases o
  case div => exact absurd rfl h1
  case mod => exact absurd rfl h2
  all_goals
    refine ⟨?_, ?_⟩
    · show valV (κ := Key) ([(.inr "+", .int (a + b)), (.inr "-", .int (a - b)), (.inr "*", .int (a * b)), (.inr "and", .int (b2 (a ≠ 0 ∧ b ≠ 0))), (.inr "or", .int (b2 (a ≠ 0 ∨ b ≠ 0))), (.inr "==", .int (b2 (a = b))), (.inr "!=", .int (b2 (a ≠ b))), (.inr "<", .int (b2 (a < b))), (.inr "<=", .int (b2 (a ≤ b)))]) _ = _
      repeat (first | exact pos | rw [neg (by decide +kernel)])
    · first
        | rfl
        | (simp only [opv]; exact congrArg some hb)
theorem mb {p q : Prop} [Decidable p] [Decidable q] (h : p ↔ q) : (if decide p = true then (1 : Int) else 0) = b2 q := by
  unfold b2
  by_cases e : p
  · rw [if_pos (decide_eq_true e), if_pos (h.mp e)]
  · rw [if_neg (by simp [e]), if_neg fun z => e (h.mpr z)]
theorem mtt {q : Prop} [Decidable q] (h : q) : (if true = true then (1 : Int) else 0) = b2 q := by
  rw [b2t h]
  rfl
theorem mff {q : Prop} [Decidable q] (h : ¬ q) : (if false = true then (1 : Int) else 0) = b2 q := by
  rw [b2f h]
  rfl
theorem mnb {a b : Int} : (if (!decide (a = b)) = true then (1 : Int) else 0) = b2 (a ≠ b) := by
  by_cases e : a = b
  · rw [b2f (fun z => z e), if_neg (by simp [e])]
  · rw [b2t e, if_pos (by simp [e])]
theorem neg9 {k k' : Key} {v : V} {r : List (Key × V)} (e : ¬ k' = k) : valV ((k', v) :: r) k = valV r k := valV_neg e
theorem puts1 {a b x y : Int} {X : V} : putK (tab a b x y) (.inr "!=") X = tab a b x y ++ [(.inr "!=", X)] := by
  rw [putK_new X ?_]
  show valV (κ := Key) [(.inr "+", .int (a + b)), (.inr "-", .int (a - b)), (.inr "*", .int (a * b)), (.inr "and", .int x), (.inr "or", .int y), (.inr "==", .int (b2 (a = b)))] _ = _
  repeat (rw [neg9 (by decide +kernel)])
  rfl
theorem puts2 {a b x y : Int} {X Y : V} : putK (tab a b x y ++ [((.inr "!=" : Key), X)]) (.inr "<") Y = tab a b x y ++ [(.inr "!=", X), (.inr "<", Y)] := by
  rw [putK_new Y ?_, List.append_assoc]
  · rfl
  show valV (κ := Key) [(.inr "+", .int (a + b)), (.inr "-", .int (a - b)), (.inr "*", .int (a * b)), (.inr "and", .int x), (.inr "or", .int y), (.inr "==", .int (b2 (a = b))), (.inr "!=", X)] _ = _
  repeat (rw [neg9 (by decide +kernel)])
  rfl
theorem puts3 {a b x y : Int} {X Y Z : V} : putK (tab a b x y ++ [((.inr "!=" : Key), X), (.inr "<", Y)]) (.inr "<=") Z = tab a b x y ++ [(.inr "!=", X), (.inr "<", Y), (.inr "<=", Z)] := by
  rw [putK_new Z ?_, List.append_assoc]
  · rfl
  show valV (κ := Key) [(.inr "+", .int (a + b)), (.inr "-", .int (a - b)), (.inr "*", .int (a * b)), (.inr "and", .int x), (.inr "or", .int y), (.inr "==", .int (b2 (a = b))), (.inr "!=", X), (.inr "<", Y)] _ = _
  repeat (rw [neg9 (by decide +kernel)])
  rfl
theorem i_bt {p : Prop} [Decidable p] {H : Hp} {Q : VK} (q : Q (.int (b2 p)) H) : rIntA [.bl (decide p)] H Q := by
  refine i_intB ?_
  unfold b2 at q
  by_cases h : p
  · rw [if_pos h] at q
    rw [if_pos (decide_eq_true h)]
    exact q
  · rw [if_neg h] at q
    rw [if_neg (by simp [h])]
    exact q
set_option maxHeartbeats 16000000 in
theorem pure_l_two (A : Ad) (vs : List V) (H : Hp) (Q : VK) (E : XK) (h : sp_calc vs H Q E) : t_l_two A { nx := fun _ H' => Q .non H', rt := Q } (L2.start ["_law_operator", "_law_a", "_law_b", "_law_rows"] vs) H := by
  obtain ⟨o, a, b, rfl, ⟨a0, a1⟩, ⟨b0, b1⟩, k⟩ := h
  rw [st_l_two]
  unfold t_l_two
  walk_at "s"
  refine ⟨sz (by simp), fun p hp => in2 upd_same ?_⟩
  have s1 := Same.newp (o := .tup [.str "/", .str "mod"]) hp
  generalize upd H p (.tup [.str "/", .str "mod"]) = H1 at s1
  have k1 := k H1 s1
  by_cases hd : o = .div
  · subst hd
    simp only [Op.nm]
    walk_at "s"
    refine i_d2 (fun h => ?_) (fun h => ?_)
    · walk_at "s"
      simp only [opv, if_pos h] at k1
      exact k1
    · walk_at "s"
      refine i_rI ⟨by omega, by omega⟩ ?_
      simp only [opv, if_neg h] at k1
      exact k1
  by_cases hm : o = .mod
  · subst hm
    simp only [Op.nm]
    walk_at "s"
    refine i_d2 (fun h => ?_) (fun h => ?_)
    · walk_at "s"
      simp only [opv, if_pos h] at k1
      exact k1
    · walk_at "s"
      refine i_rI (show 0 < b by omega) ?_
      simp only [opv, if_neg h] at k1
      exact k1
  obtain ⟨g1, g2⟩ := tab9_get (a := a) (b := b) o hd hm
  rw [nm_dm o hd hm]
  walk_at "s"
  intro d hd2
  have s2 := s1.trans (Same.newp (o := .dK []) hd2)
  walk_at "s"
  refine i_mulI (.inl ⟨by omega, by omega⟩) ?_
  walk_at "s"
  have e : ∀ X Y Z : Int, X = b2 (a ≠ 0 ∧ b ≠ 0) → Y = b2 (a ≠ 0 ∨ b ≠ 0) → Z = b2 (a = b) → [(V.str "+", V.int (a + b)), (V.str "-", V.int (a - b)), (V.str "*", V.int (a * b)), (V.str "and", V.int X), (V.str "or", V.int Y), (V.str "==", V.int Z)] = (tab a b (b2 (a ≠ 0 ∧ b ≠ 0)) (b2 (a ≠ 0 ∨ b ≠ 0))).map (fun kv => (kV kv.1, kv.2)) := by
    rintro _ _ _ rfl rfl rfl
    rfl
  have key : ∀ H9, (∀ q, q ≠ d → H9 q = H1 q) → Q (.int (tz a b o % 65536)) H9 := fun H9 f => by
    have kk := k H9 (fun q u z => by
      rw [f q (ne_of_none (s1 _ _ z) hd2)]
      exact s1 _ _ z)
    rw [g2] at kk
    exact kk
  by_cases ha : 0 < a <;> by_cases hb : 0 < b
  all_goals repeat (first | walk_at "s1" | (apply i_dy; (solve | omega)) | (apply i_dn; (solve | omega)))
  all_goals
    refine ⟨upd_same, tab a b (b2 (a ≠ 0 ∧ b ≠ 0)) (b2 (a ≠ 0 ∨ b ≠ 0)), e _ _ _ (by first | exact mb (by omega) | exact mtt (by omega) | exact mff (by omega)) (by first | exact mb (by omega) | exact mtt (by omega) | exact mff (by omega)) (mb Iff.rfl), by simp [tab], ?_⟩
    rw [mergeK_nd tab_nd, List.nil_append]
    walk_at "s"
    refine i_dputK upd_same (k := .inr "!=") rfl (szl (by simp [tab])) ?_
    rw [puts1]
    walk_at "s"
    refine i_dputK upd_same (k := .inr "<") rfl (szl (by simp [tab])) ?_
    rw [puts2]
    walk_at "s"
    refine i_dputK upd_same (k := .inr "<=") rfl (szl (by simp [tab])) ?_
    rw [puts3, mnb, mb (Iff.refl (a < b)), mb (Iff.refl (a ≤ b))]
    walk_at "s"
    refine i_dgetK upd_same (k := .inr o.nm) rfl g1 ?_
    walk_at "s"
    refine i_rI (show (0 : Int) < 65536 by decide) ?_
    refine key _ fun q nq => ?_
    rw [upd_ne nq, upd_ne nq, upd_ne nq, upd_ne nq, upd_ne nq]
end K45
set_option Elab.async false
set_option linter.all false
set_option maxRecDepth 100000
set_option maxHeartbeats 4000000
namespace K45
open PySem PySem.Spec PyProof.Rows L2 Lb
local macro_rules | `(tactic| walk_at "h") => `(tactic| first | assumption | exact Own.mem (by assumption) (by walk_at "m") | exact Own.kp (by assumption) (by assumption))
local macro_rules | `(tactic| walk_at "m") => `(tactic| (focus ((repeat (first | assumption | exact List.mem_cons_self | apply List.mem_cons_of_mem)); done)))
local macro_rules | `(tactic| walk_at "u") => `(tactic| (focus ((repeat (first | exact Up1.here | apply Up1.there)); done)))
local macro_rules | `(tactic| walk_at "p") => `(tactic| (focus ((repeat (first | exact Pre.nil | apply Pre.cons)); done)))
local macro_rules | `(tactic| walk_at "f") => `(tactic| (focus ((repeat (first | exact PutF.here | exact PutF.nil | (apply PutF.there; (solve | decide +kernel)))); done)))
local macro_rules | `(tactic| walk_at "k") => `(tactic| (focus ((repeat (first | exact LkF.here rfl | exact LkF.nil rfl | refine LkF.there (by decide +kernel) ?_)); done)))
local macro_rules | `(tactic| walk_at "e") => `(tactic| (focus ((repeat (first | exact StE.nil | apply StE.app | apply StE.got | apply StE.lack)); done)))
local macro_rules | `(tactic| walk_at "d") => `(tactic| (focus ((repeat (first | exact Dt.int _ | exact Dt.str _ | exact Dt.non | exact Dt.bl _ | exact DtAll.nil | apply DtAll.cons | (apply Dt.tup; (solve | walk_at "h")) | (apply Dt.lst; (solve | walk_at "h")))); done)))
local macro_rules | `(tactic| walk_at "sh") => `(tactic| (focus ((repeat (first | exact Sh.int | exact Sh.non | exact Sh.str (by decide +kernel) | exact ShA.nil | apply ShA.cons | apply Sh.lst | apply Sh.tup)); done)))
local macro_rules | `(tactic| walk_at "ne") => `(tactic| (apply rd_neF; (solve | walk_at "d"); (solve | walk_at "d"); (solve | exact Sh.shp (n := 4) (by walk_at "sh"))))
local macro_rules | `(tactic| walk_at "s1") => `(tactic| with_reducible first | (apply i_var; (solve | with_unfolding_all rfl)) | apply i_cons | apply i_nil | apply i_c | apply i_op | apply i_asg | apply i_seq | apply i_gname | apply i_eqS | apply i_eqI | apply i_neS | apply i_tt | apply i_ff | (apply i_ixA; (solve | walk_at "h"); (solve | exact IxO.lst (by assumption) | exact .lst (by with_unfolding_all rfl) | exact .tup (by with_unfolding_all rfl))) | apply i_bl | apply i_test | apply i_ifS | apply i_tupN | (apply i_tupO; (solve | assumption); (exact (sz (by (try simp) <;> omega))); intro p H O) | apply i_fld | (apply i_fldO; (solve | walk_at "h"); (solve | assumption); (solve | assumption); (solve | walk_at "k")) | (apply i_tB; (solve | decide +kernel)) | (apply i_fB; (solve | decide +kernel)) | apply i_ret | apply i_retN | apply i_drop | apply i_next | apply i_brk | apply i_cnt | apply i_par | apply i_par2 | apply i_fldSN | apply i_dput | apply i_un | apply i_rU | apply i_rI0 | apply i_B | apply i_tru | apply i_truB | apply i_and | apply i_or | apply i_not | apply i_andV | apply i_orV | apply i_notV | apply i_if | apply i_call | apply i_meth | apply i_makeN | apply i_cb | apply i_dnewN | apply i_lstN | apply i_bml | apply i_gsub | apply i_gcons | apply i_gnil | apply i_sl | apply i_nop | apply i_part | apply i_prt | apply i_isN | apply i_notN | apply i_yes | apply i_ntt | apply i_nff | apply i_addI | apply i_neI | apply i_intI | apply i_intB | apply i_abs | apply i_isiIB | apply i_isiNB | apply i_isiBB | apply i_dget | apply i_for | apply i_ilist | apply i_itup | apply i_rng1 | apply i_rng2 | apply i_ex1 | apply i_ex2 | apply i_exr | apply i_disp | apply i_pcons | apply i_pnil | apply i_neN | apply i_eqN | apply i_neB | apply i_eqB | apply i_lc | apply i_dnI | apply i_nyI | apply i_dnR | apply i_nyR | (apply i_lenA; (solve | walk_at "h"); (solve | first | exact .lst | exact .tup | exact .dK)) | (apply i_isL; (solve | walk_at "h")) | (apply i_isiLL; (solve | walk_at "h")) | (apply i_isiTL; (solve | walk_at "h")) | (apply i_gtup; (solve | walk_at "h"); (solve | with_unfolding_all rfl)) | (apply i_fldSO; (solve | assumption); (solve | walk_at "u"); (solve | walk_at "f"); (solve | assumption); (solve | assumption); (solve | simp); intro H O) | (apply i_lstO; (solve | assumption); (exact (sz (by (try simp) <;> omega))); intro p H O) | (apply i_makeO; (solve | assumption); intro x dx H O) | (apply i_methO; (solve | walk_at "h"); (solve | walk_at "k")) | (apply i_newO; (solve | assumption); intro p H O) | (apply i_listN; (solve | walk_at "h")) | (apply i_listTN; (solve | walk_at "h")) | (apply i_addN; (solve | walk_at "h"); (solve | walk_at "h"); (exact (sz (by (try simp) <;> omega)))) | apply i_mkd | (apply i_dgetI; (solve | walk_at "h"); (solve | assumption)) | (apply i_in; (solve | with_unfolding_all rfl); (solve | walk_at "e")) | (apply i_setO; (solve | assumption); (solve | walk_at "u"); (solve | with_unfolding_all rfl); intro H O) | (apply i_appO; (solve | assumption); (solve | walk_at "u"); (exact (szl (by (try simp) <;> omega))); intro H O) | (apply i_drawO; (solve | assumption); (exact rfl); (solve | decide); (solve | decide); intro r H h0 h1 O))
local macro_rules | `(tactic| walk_at "s") => `(tactic| repeat (walk_at "s1"))
theorem i_inO {K : PySem.W.Frag} {H : Hp} {Q : VK} {p : Addr} {x : V} {xs : List V} (h : H p = some (.tup xs)) (f : flatV x = true) (g : xs.all flatV = true) (q : Q (.bl (inV x xs)) H) : rIn K false x (.ref p) H Q := by
  refine ⟨p, _, rfl, .inr (SqT.of h), f, g, ?_⟩
  rw [if_neg (by simp)]
  exact q
theorem i_mulN {H : Hp} {Q : VK} {p : Addr} {xs : List V} {k : Int} (h : H p = some (.lst xs)) (hk : k = 2) (hz : xs.length ≤ 1000) (q : NewO (.lst (xs ++ xs)) H Q) : rMulA (.ref p) (.int k) H Q := by
  subst hk
  simp only [rMulA, h]
  have e : (List.replicate (2 : Int).toNat xs).flatten = xs ++ xs := by
    show (List.replicate 2 xs).flatten = _
    simp [List.replicate]
  rw [e]
  exact ⟨by decide, by decide, Nat.le_trans (show xs.length * 2 ≤ 100000 by omega) (by decide), q⟩
theorem i_slO {H : Hp} {Q : VK} {a c p : Addr} {B : Hp} {ls : List (Addr × HO)} {xs ys : List V} {lo hi : Option Int} (O : Own a c B H ls) (h : H p = some (.lst xs)) (e : cutV xs lo hi = ys) (k : ∀ p H', Own a c B H' ((p, .lst ys) :: ls) → Q (.ref p) H') : rSlA (.ref p) lo hi H Q := by
  subst e
  exact i_slL h fun q hq => k q _ (O.new hq)
section
variable {us : List V} {p q : V}
theorem at_1 : atI (us ++ [p, q]) (-1) = some q := by
  unfold atI ixN
  simp
  rw [show (-1 + ((us.length : Int) + 2)).toNat = us.length + 1 by omega, if_pos (by omega)]
  show (us ++ [p, q])[us.length + 1]? = some q
  rw [List.getElem?_append_right (by omega)]
  simp
theorem at_2 : atI (us ++ [p, q]) (-2) = some p := by
  unfold atI ixN
  simp
  rw [show (-2 + ((us.length : Int) + 2)).toNat = us.length by omega, if_pos (by omega)]
  show (us ++ [p, q])[us.length]? = some p
  rw [List.getElem?_append_right (by omega)]
  simp
theorem dl2 : (us ++ [p, q]).dropLast = us ++ [p] := by simp
theorem dl1 : (us ++ [p]).dropLast = us := by simp
theorem la2 : (us ++ [p, q])[(us ++ [p, q]).length - 1]? = some q := by simp
theorem la1 : (us ++ [p])[(us ++ [p]).length - 1]? = some p := by simp
theorem sIx_neg {n d k : Nat} (h : 1 ≤ k) (h2 : k ≤ n) : HT.sIx n d (some (-(k : Int))) = n - k := by
  show (if -(k : Int) < 0 then (-(k : Int) + (n : Int)).toNat else _) = _
  rw [if_pos (by omega)]
  omega
theorem cut_m1 : cutV (us ++ [p, q]) none (some (-1)) = us ++ [p] := by
  unfold cutV
  rw [HT.sIx_none, show (-1 : Int) = -((1 : Nat) : Int) from rfl, sIx_neg (by decide) (by simp)]
  simp [List.take_append]
  exact List.take_of_length_le (by omega)
theorem cut_m2 : cutV (us ++ [p, q]) none (some (-2)) = us := by
  unfold cutV
  rw [HT.sIx_none, show (-2 : Int) = -((2 : Nat) : Int) from rfl, sIx_neg (by decide) (by simp)]
  simp
theorem cut_l1 : cutV (us ++ [p, q]) (some (-1)) none = [q] := by
  unfold cutV
  rw [HT.sIx_none, show (-1 : Int) = -((1 : Nat) : Int) from rfl, sIx_neg (by decide) (by simp)]
  simp [List.drop_append]
  rw [List.drop_of_length_le (by omega)]
  rfl
theorem cut_to {xs : List V} {k : Nat} (h : k ≤ xs.length) : cutV xs none (some (k : Int)) = xs.take k := by
  unfold cutV
  rw [HT.sIx_none, HT.sIx_nat, Nat.min_eq_left h]
  simp
theorem cut_from {xs : List V} {k : Nat} (h : k ≤ xs.length) : cutV xs (some (k : Int)) none = xs.drop k := by
  unfold cutV
  rw [HT.sIx_none, HT.sIx_nat, Nat.min_eq_left h]
  rw [List.take_of_length_le (by rw [List.length_drop]; omega)]
theorem set_cut {xs : List V} {k : Nat} {v : V} (h : k < xs.length) : xs.take k ++ [v] ++ xs.drop (k + 1) = xs.set k v := by
  rw [List.set_eq_take_append_cons_drop, if_pos h, List.append_assoc]
  rfl
end
end K45
set_option Elab.async false
set_option linter.all false
set_option maxRecDepth 100000
set_option maxHeartbeats 4000000
namespace K45
open PySem PySem.Spec PyProof.Rows L2 Lb
local macro_rules | `(tactic| walk_at "h") => `(tactic| first | assumption | exact Own.mem (by assumption) (by walk_at "m") | exact Own.kp (by assumption) (by assumption))
local macro_rules | `(tactic| walk_at "m") => `(tactic| (focus ((repeat (first | assumption | exact List.mem_cons_self | apply List.mem_cons_of_mem)); done)))
local macro_rules | `(tactic| walk_at "u") => `(tactic| (focus ((repeat (first | exact Up1.here | apply Up1.there)); done)))
local macro_rules | `(tactic| walk_at "p") => `(tactic| (focus ((repeat (first | exact Pre.nil | apply Pre.cons)); done)))
local macro_rules | `(tactic| walk_at "f") => `(tactic| (focus ((repeat (first | exact PutF.here | exact PutF.nil | (apply PutF.there; (solve | decide +kernel)))); done)))
local macro_rules | `(tactic| walk_at "k") => `(tactic| (focus ((repeat (first | exact LkF.here rfl | exact LkF.nil rfl | refine LkF.there (by decide +kernel) ?_)); done)))
local macro_rules | `(tactic| walk_at "e") => `(tactic| (focus ((repeat (first | exact StE.nil | apply StE.app | apply StE.got | apply StE.lack)); done)))
local macro_rules | `(tactic| walk_at "d") => `(tactic| (focus ((repeat (first | exact Dt.int _ | exact Dt.str _ | exact Dt.non | exact Dt.bl _ | exact DtAll.nil | exact DtAll.ints _ | apply DtAll.cons | (apply Dt.tup; (solve | walk_at "h")) | (apply Dt.lst; (solve | walk_at "h")))); done)))
local macro_rules | `(tactic| walk_at "sh") => `(tactic| (focus ((repeat (first | exact Sh.int | exact Sh.non | exact Sh.str (by decide +kernel) | exact ShA.nil | exact ShA.ints | apply ShA.cons | apply Sh.lst | apply Sh.tup)); done)))
local macro_rules | `(tactic| walk_at "ne") => `(tactic| (apply rd_neF; (solve | walk_at "d"); (solve | walk_at "d"); (solve | exact Sh.shp (n := 4) (by walk_at "sh"))))
local macro_rules | `(tactic| walk_at "s1") => `(tactic| with_reducible first | (apply i_var; (solve | with_unfolding_all rfl)) | apply i_cons | apply i_nil | apply i_c | apply i_op | apply i_asg | apply i_seq | apply i_gname | apply i_eqS | apply i_eqI | apply i_neS | apply i_tt | apply i_ff | (apply i_ixA; (solve | walk_at "h"); (solve | exact IxO.lst (by assumption) | exact .lst (by with_unfolding_all rfl) | exact .tup (by with_unfolding_all rfl))) | apply i_bl | apply i_test | apply i_ifS | apply i_tupN | (apply i_tupO; (solve | assumption); (exact (sz (by (try simp) <;> omega))); intro p H O) | apply i_fld | (apply i_fldO; (solve | walk_at "h"); (solve | assumption); (solve | assumption); (solve | walk_at "k")) | (apply i_tB; (solve | decide +kernel)) | (apply i_fB; (solve | decide +kernel)) | apply i_ret | apply i_retN | apply i_drop | apply i_next | apply i_brk | apply i_cnt | apply i_par | apply i_par2 | apply i_fldSN | apply i_dput | apply i_un | apply i_rU | apply i_rI0 | apply i_B | apply i_tru | apply i_truB | apply i_and | apply i_or | apply i_not | apply i_andV | apply i_orV | apply i_notV | apply i_if | apply i_call | apply i_meth | apply i_makeN | apply i_cb | apply i_dnewN | apply i_lstN | apply i_bml | apply i_gsub | apply i_gcons | apply i_gnil | apply i_sl | apply i_nop | apply i_part | apply i_prt | apply i_isN | apply i_notN | apply i_yes | apply i_ntt | apply i_nff | apply i_addI | apply i_neI | apply i_intI | apply i_intB | apply i_abs | apply i_isiIB | apply i_isiNB | apply i_isiBB | apply i_dget | apply i_for | apply i_ilist | apply i_itup | apply i_rng1 | apply i_rng2 | apply i_ex1 | apply i_ex2 | apply i_exr | apply i_disp | apply i_pcons | apply i_pnil | apply i_neN | apply i_eqN | apply i_neB | apply i_eqB | apply i_lc | apply i_dnI | apply i_nyI | apply i_dnR | apply i_nyR | (apply i_lenA; (solve | walk_at "h"); (solve | first | exact .lst | exact .tup | exact .dK)) | (apply i_isL; (solve | walk_at "h")) | (apply i_isiLL; (solve | walk_at "h")) | (apply i_isiTL; (solve | walk_at "h")) | (apply i_gtup; (solve | walk_at "h"); (solve | with_unfolding_all rfl)) | (apply i_fldSO; (solve | assumption); (solve | walk_at "u"); (solve | walk_at "f"); (solve | assumption); (solve | assumption); (solve | simp); intro H O) | (apply i_lstO; (solve | assumption); (exact (sz (by (try simp) <;> omega))); intro p H O) | (apply i_makeO; (solve | assumption); intro x dx H O) | (apply i_methO; (solve | walk_at "h"); (solve | walk_at "k")) | (apply i_newO; (solve | assumption); intro p H O) | (apply i_listN; (solve | walk_at "h")) | (apply i_listTN; (solve | walk_at "h")) | (apply i_addN; (solve | walk_at "h"); (solve | walk_at "h"); (exact (sz (by (try simp) <;> omega)))) | apply i_mkd | apply i_gfld | (apply i_glst; (solve | walk_at "h"); (solve | with_unfolding_all rfl)) | apply i_isB | apply i_notB | (apply i_inO; (solve | walk_at "h"); (solve | with_unfolding_all rfl); (solve | with_unfolding_all rfl)) | (apply i_dgetI; (solve | walk_at "h"); (solve | assumption)) | (apply i_in; (solve | with_unfolding_all rfl); (solve | walk_at "e")) | (apply i_setO; (solve | assumption); (solve | walk_at "u"); (solve | with_unfolding_all rfl); intro H O) | (apply i_appO; (solve | assumption); (solve | walk_at "u"); (exact (szl (by (try simp) <;> omega))); intro H O) | (apply i_drawO; (solve | assumption); (exact rfl); (solve | decide); (solve | decide); intro r H h0 h1 O))
local macro_rules | `(tactic| walk_at "s") => `(tactic| repeat (walk_at "s1"))
def t_end : Ad → TS := fun A => (tSeq (tIfS (tTest (tOp rIsN (tVar 13) (tC .non))) (tIfS (tTest (tOp (rNeA A.K) (tFld A.K (tVar 7) "state") (tC (.str "faulted")))) (tRet (tC (.bl false))) tNext) (tIfS (tTest (tOp (rNeA A.K) (tLst (tCons (tFld A.K (tVar 7) "cells") (tCons (tFld A.K (tVar 7) "stack") (tCons (tFld A.K (tVar 7) "at") (tCons (tFld A.K (tVar 7) "state") tNil))))) (tVar 13))) (tRet (tC (.bl false))) tNext)) (tIfS (tTest (tOp rNotN (tVar 13) (tC .non))) (tSeq (tDrop (tMeth A.c_Workspace "store" (sp_Workspace_store A) [] E0 (tVar 7) (tCons (tOp rIxA (tVar 4) (tUn (rU fun i => .int (-i)) (tC (.int 1)))) (tCons (tC (.int 77)) tNil)))) (tIfS (tOr (tTest (tOp (rNeA A.K) (tMeth A.c_Workspace "cell" (sp_Workspace_cell A) [] E0 (tVar 7) (tCons (tOp rIxA (tVar 4) (tUn (rU fun i => .int (-i)) (tC (.int 1)))) tNil)) (tC (.int 77)))) (tOr (tTest (tOp (rNeA A.K) (tOp rIxA (tFld A.K (tVar 7) "cells") (tOp (rI0 fun i j => .int (i - j)) (tVar 2) (tC (.int 1)))) (tC (.int 77)))) (tOr (tTest (tOp (rNeA A.K) (tFld A.K (tVar 7) "number") (tC (.int 4)))) (tTest (tOp (rNeA A.K) (tFld A.K (tVar 7) "parent") (tC (.int 1))))))) (tRet (tC (.bl false))) tNext)) tNext))
def t_rest : Ad → TS := fun A => (tSeq (tAsg (tLst (tCons (tOp rAddA (tVar 3) (tLst (tCons (tC (.int 0)) (tCons (tC (.int 0)) tNil)))) (tCons (tVar 8) (tCons (tC (.int 0)) (tCons (tC (.str "ready")) tNil))))) (gName 11)) (tSeq (tAsg (tMeth A.c_Workspace "step" (sp_Workspace_step A) [] E0 (tVar 7) (tCons (tVar 10) tNil)) (gName 12)) (tSeq (tIfS (tTest (tOp (rIn A.K false) (tOp rIxA (tVar 10) (tC (.int 0))) (tTup (tCons (tC (.str "give")) (tCons (tC (.str "take")) (tCons (tC (.str "either")) (tCons (tC (.str "fork")) (tCons (tC (.str "end")) tNil)))))))) (tSeq (tAsg (tVar 11) (gName 13)) (tIfS (tTest (tOp rNotB (tVar 12) (tC (.bl false)))) (tRet (tC (.bl false))) tNext)) (tSeq (tAsg (tCall (sp_l_do A) [] E0 (tCons (tVar 11) (tCons (tVar 10) tNil))) (gName 13)) (tIfS (tTest (tOp rNotB (tVar 12) (tC (.bl true)))) (tRet (tC (.bl false))) tNext))) (t_end A))))
/-- the attributes of a workspace -/
def fsW (tk g cd cl st : Addr) (at_ : Int) (stt : Str) (jn rw_ : Addr) : List (Str × V) := [("number", .int 4), ("parent", .int 1), ("takes", .ref tk), ("gives", .ref g), ("code", .ref cd), ("cells", .ref cl), ("stack", .ref st), ("at", .int at_), ("state", .str stt), ("children", .int 0), ("joined", .ref jn), ("rows", .ref rw_), ("chosen", .non), ("asked", .int 0), ("word", .non)]
def tks (m : Nat) : List Int := (List.range m).map fun (k : Nat) => 2 * (k : Int) + 1
theorem tks_get {m j : Nat} (h : j < m) : (tks m)[j]? = some (2 * (j : Int) + 1) := by
  unfold tks
  rw [List.getElem?_map, List.getElem?_range h]
  rfl
theorem tks_last {m : Nat} (h : 1 ≤ m) : atI ((tks m).map V.int) (-1) = some (.int (2 * ((m - 1 : Nat) : Int) + 1)) := by
  have hl : ((tks m).map V.int).length = m := by simp [tks]
  unfold atI ixN
  rw [if_neg (by decide), hl, if_pos (by omega)]
  show ((tks m).map V.int)[(-1 + (m : Int)).toNat]? = _
  rw [show (-1 + (m : Int)).toNat = m - 1 by omega, List.getElem?_map, tks_get (by omega)]
  rfl
theorem tks_first {m j : Nat} (h : j < m) : ∀ i, i < j → (tks m)[i]? ≠ some (2 * (j : Int) + 1) := fun i hi e => by
  rw [tks_get (by omega)] at e
  have := Option.some.inj e
  omega
theorem i_indexO {K : PySem.W.Frag} {H : Hp} {σ : L2.St} {p : Addr} {m : Nat} {t : TA} {R : List V → Hp → Prop} (h : H p = some (.lst ((tks m).map V.int))) (k : t σ H R) : tyV K "list" (.ref p) H ∧ t σ H R := by
  exact ⟨.inl ⟨rfl, _, SqL.of h⟩, k⟩
theorem Up1.ofMem {p : Addr} {o o' : HO} : ∀ {ls : List (Addr × HO)}, (p, o) ∈ ls → ∃ ls', Up1 p o o' ls ls'
  | [], h => by cases h
  | x :: r, h => by
    rcases List.mem_cons.mp h with e | e
    · rw [← e]
      exact ⟨_, .here⟩
    · obtain ⟨r', h'⟩ := Up1.ofMem (o' := o') e
      exact ⟨_, .there h'⟩
theorem Up1.keep {p : Addr} {o o' : HO} {ls ls' : List (Addr × HO)} (h : Up1 p o o' ls ls') : ∀ x ∈ ls, x.1 ≠ p → x ∈ ls' := by
  induction h with
  | here =>
    intro x hx ne
    rcases List.mem_cons.mp hx with e | e
    · exact absurd (by rw [e]) ne
    · exact List.mem_cons_of_mem _ e
  | there _ ih =>
    intro x hx ne
    rcases List.mem_cons.mp hx with e | e
    · rw [e]
      exact List.mem_cons_self
    · exact List.mem_cons_of_mem _ (ih x e ne)
theorem Up1.got {p : Addr} {o o' : HO} {ls ls' : List (Addr × HO)} (h : Up1 p o o' ls ls') : (p, o') ∈ ls' := by
  induction h with
  | here => exact List.mem_cons_self
  | there _ ih => exact List.mem_cons_of_mem _ ih
set_option maxHeartbeats 16000000 in
theorem end_ok (A : Ad) (F : CF A) {a c s vp tk kp W dx g cd cl st jn rw_ D c2 s2 : Addr} {B H : Hp} {ls : List (Addr × HO)} {m : Nat} {x6 x8 x9 x10 x11 x12 x14 : Option V} {ns ks : List Int} {cs cs2 ss ss2 : List V} {at_ : Int} {stt : Str} {nx : L2.St → Hp → Prop} {rt : VK} {bk ct : L2.St → Hp → Prop}
    (m1 : 1 ≤ m) (hn : ns.length = m + 2) (m6 : m ≤ 6) (htk : B tk = some (.lst ((tks m).map V.int))) (O : Own a c B H ls) (hW : (W, HO.ins A.c_Workspace dx (fsW tk g cd cl st at_ stt jn rw_)) ∈ ls) (hc : (cl, HO.lst cs) ∈ ls) (hs : (st, HO.lst ss) ∈ ls)
    (hD : (D, HO.lst [.ref c2, .ref s2, .int at_, .str stt]) ∈ ls) (hc2 : (c2, HO.lst cs2) ∈ ls) (hs2 : (s2, HO.lst ss2) ∈ ls) (ec : cs = ns.map V.int) (ec2 : cs2 = ns.map V.int) (es : ss = ks.map V.int) (es2 : ss2 = ks.map V.int) (hst : PyData.canLay0 (.str stt) = true)
    (hnx : ∀ H', Own a c B H' [] → nx [some (.ref s), some (.ref a), some (.int m), some (.ref vp), some (.ref tk), some (.ref kp), x6, some (.ref W), x8, x9, x10, x11, x12, some (.ref D), x14] H') :
    t_end A ⟨nx, rt, bk, ct⟩ [some (.ref s), some (.ref a), some (.int m), some (.ref vp), some (.ref tk), some (.ref kp), x6, some (.ref W), x8, x9, x10, x11, x12, some (.ref D), x14] H := by
  obtain ⟨F1, n1, n2, n3, n4, n5, n6, n7, n8, n9, n10, n11, n12, n13, n14, n15⟩ := F
  subst ec ec2 es es2
  unfold t_end
  unfold fsW at hW
  have tl := tks_last m1
  walk_at "s"
  apply rd_neF
  · walk_at "d"
  · walk_at "d"
  · exact Sh.shp (n := 4) (.lst (.cons (.lst .ints) (.cons (.lst .ints) (.cons .int (.cons (.str hst) .nil)))))
  walk_at "s"
  obtain ⟨ls', hu⟩ := Up1.ofMem (o' := HO.lst ((ns.map V.int).set (m - 1) (.int 77))) hc
  have hlen : (ns.map V.int).length = m + 2 := by rw [List.length_map, hn]
  have a77 : atI ((ns.map V.int).set (m - 1) (.int 77)) ((m - 1 : Nat) : Int) = some (.int 77) := atI_nat (by
    rw [List.getElem?_set_self (by omega)])
  have a78 : atI ((ns.map V.int).set (m - 1) (.int 77)) ((m : Int) - 1) = some (.int 77) := by
    rw [show (m : Int) - 1 = ((m - 1 : Nat) : Int) by omega]
    exact a77
  have ne : W ≠ cl := ne_of (O.mem hW) (O.mem hc) (by intro z; cases z)
  have hW2 := Up1.keep hu _ hW ne
  have hc2 := Up1.got hu
  refine i_bm ?_
  walk_at "s"
  refine i_indexO (by walk_at "h") ?_
  walk_at "s"
  refine i_indexI (ns := tks m) (by walk_at "h") (tks_get (j := m - 1) (by omega)) (tks_first (by omega)) ?_
  refine i_setO (j := m - 1) ‹Own a c B _ _› (by repeat (first | exact hu | apply Up1.there)) (by unfold ixN; rw [if_pos (by omega), if_pos (by omega)]; simp) fun H2 O2 => ?_
  walk_at "s"
  refine i_bm ?_
  walk_at "s"
  refine i_indexO (by walk_at "h") ?_
  walk_at "s"
  refine i_indexI (ns := tks m) (by walk_at "h") (tks_get (j := m - 1) (by omega)) (tks_first (by omega)) ?_
  walk_at "s"
  exact hnx _ (Own.drop (l2 := []) (by rw [List.append_nil]; exact ‹Own a c B _ _›))
/-- a fault -/
theorem end_fault (A : Ad) (F : CF A) {a c s vp tk kp W dx g cd cl st jn rw_ : Addr} {B H : Hp} {ls : List (Addr × HO)} {m : Nat} {x6 x8 x9 x10 x11 x12 x14 : Option V} {at_ : Int} {nx : L2.St → Hp → Prop} {rt : VK} {bk ct : L2.St → Hp → Prop}
    (O : Own a c B H ls) (hW : (W, HO.ins A.c_Workspace dx (fsW tk g cd cl st at_ "faulted" jn rw_)) ∈ ls)
    (hnx : ∀ H', Own a c B H' [] → nx [some (.ref s), some (.ref a), some (.int m), some (.ref vp), some (.ref tk), some (.ref kp), x6, some (.ref W), x8, x9, x10, x11, x12, some .non, x14] H') :
    t_end A ⟨nx, rt, bk, ct⟩ [some (.ref s), some (.ref a), some (.int m), some (.ref vp), some (.ref tk), some (.ref kp), x6, some (.ref W), x8, x9, x10, x11, x12, some .non, x14] H := by
  obtain ⟨F1, n1, n2, n3, n4, n5, n6, n7, n8, n9, n10, n11, n12, n13, n14, n15⟩ := F
  unfold t_end
  unfold fsW at hW
  walk_at "s"
  exact hnx _ (Own.drop (l2 := []) (by rw [List.append_nil]; exact ‹Own a c B _ _›))
end K45
set_option Elab.async false
set_option linter.all false
set_option maxRecDepth 100000
set_option maxHeartbeats 4000000
namespace K45
open PySem PySem.Spec PyProof.Rows L2 Lb
local macro_rules | `(tactic| walk_at "h") => `(tactic| first | assumption | exact Own.mem (by assumption) (by walk_at "m") | exact Own.kp (by assumption) (by assumption))
local macro_rules | `(tactic| walk_at "m") => `(tactic| (focus ((repeat (first | assumption | exact List.mem_cons_self | apply List.mem_cons_of_mem)); done)))
local macro_rules | `(tactic| walk_at "u") => `(tactic| (focus ((repeat (first | exact Up1.here | apply Up1.there)); done)))
local macro_rules | `(tactic| walk_at "p") => `(tactic| (focus ((repeat (first | exact Pre.nil | apply Pre.cons)); done)))
local macro_rules | `(tactic| walk_at "f") => `(tactic| (focus ((repeat (first | exact PutF.here | exact PutF.nil | (apply PutF.there; (solve | decide +kernel)))); done)))
local macro_rules | `(tactic| walk_at "k") => `(tactic| (focus ((repeat (first | exact LkF.here rfl | exact LkF.nil rfl | refine LkF.there (by decide +kernel) ?_)); done)))
local macro_rules | `(tactic| walk_at "e") => `(tactic| (focus ((repeat (first | exact StE.nil | apply StE.app | apply StE.got | apply StE.lack)); done)))
local macro_rules | `(tactic| walk_at "d") => `(tactic| (focus ((repeat (first | exact Dt.int _ | exact Dt.str _ | exact Dt.non | exact Dt.bl _ | exact DtAll.nil | exact DtAll.ints _ | apply DtAll.cons | (apply Dt.tup; (solve | walk_at "h")) | (apply Dt.lst; (solve | walk_at "h")))); done)))
local macro_rules | `(tactic| walk_at "sh") => `(tactic| (focus ((repeat (first | exact Sh.int | exact Sh.non | exact Sh.str (by decide +kernel) | exact ShA.nil | exact ShA.ints | apply ShA.cons | apply Sh.lst | apply Sh.tup)); done)))
local macro_rules | `(tactic| walk_at "ne") => `(tactic| (apply rd_neF; (solve | walk_at "d"); (solve | walk_at "d"); (solve | exact Sh.shp (n := 4) (by walk_at "sh"))))
local macro_rules | `(tactic| walk_at "s1") => `(tactic| with_reducible first | (apply i_var; (solve | with_unfolding_all rfl)) | apply i_cons | apply i_nil | apply i_c | apply i_op | apply i_asg | apply i_seq | apply i_gname | apply i_eqS | apply i_eqI | apply i_neS | apply i_tt | apply i_ff | (apply i_ixA; (solve | walk_at "h"); (solve | exact IxO.lst (by assumption) | exact .lst (by with_unfolding_all rfl) | exact .tup (by with_unfolding_all rfl))) | apply i_bl | apply i_test | apply i_ifS | apply i_tupN | (apply i_tupO; (solve | assumption); (exact (sz (by (try simp) <;> omega))); intro p H O) | apply i_fld | (apply i_fldO; (solve | walk_at "h"); (solve | assumption); (solve | assumption); (solve | walk_at "k")) | (apply i_tB; (solve | decide +kernel)) | (apply i_fB; (solve | decide +kernel)) | apply i_ret | apply i_retN | apply i_drop | apply i_next | apply i_brk | apply i_cnt | apply i_par | apply i_par2 | apply i_fldSN | apply i_dput | apply i_un | apply i_rU | apply i_rI0 | apply i_B | apply i_tru | apply i_truB | apply i_and | apply i_or | apply i_not | apply i_andV | apply i_orV | apply i_notV | apply i_if | apply i_call | apply i_meth | apply i_makeN | apply i_cb | apply i_dnewN | apply i_lstN | apply i_bml | apply i_gsub | apply i_gcons | apply i_gnil | apply i_sl | apply i_nop | apply i_part | apply i_prt | apply i_isN | apply i_notN | apply i_yes | apply i_ntt | apply i_nff | apply i_addI | apply i_neI | apply i_intI | apply i_intB | apply i_abs | apply i_isiIB | apply i_isiNB | apply i_isiBB | apply i_dget | apply i_for | apply i_ilist | apply i_itup | apply i_rng1 | apply i_rng2 | apply i_ex1 | apply i_ex2 | apply i_exr | apply i_disp | apply i_pcons | apply i_pnil | apply i_neN | apply i_eqN | apply i_neB | apply i_eqB | apply i_lc | apply i_dnI | apply i_nyI | apply i_dnR | apply i_nyR | (apply i_lenA; (solve | walk_at "h"); (solve | first | exact .lst | exact .tup | exact .dK)) | (apply i_isL; (solve | walk_at "h")) | (apply i_isiLL; (solve | walk_at "h")) | (apply i_isiTL; (solve | walk_at "h")) | (apply i_gtup; (solve | walk_at "h"); (solve | with_unfolding_all rfl)) | (apply i_fldSO; (solve | assumption); (solve | walk_at "u"); (solve | walk_at "f"); (solve | assumption); (solve | assumption); (solve | simp); intro H O) | (apply i_lstO; (solve | assumption); (exact (sz (by (try simp) <;> omega))); intro p H O) | (apply i_makeO; (solve | assumption); intro x dx H O) | (apply i_methO; (solve | walk_at "h"); (solve | walk_at "k")) | (apply i_newO; (solve | assumption); intro p H O) | (apply i_listN; (solve | walk_at "h")) | (apply i_listTN; (solve | walk_at "h")) | (apply i_addN; (solve | walk_at "h"); (solve | walk_at "h"); (exact (sz (by (try simp) <;> omega)))) | apply i_mkd | apply i_gfld | (apply i_glst; (solve | walk_at "h"); (solve | with_unfolding_all rfl)) | apply i_isB | apply i_notB | (apply i_inO; (solve | walk_at "h"); (solve | with_unfolding_all rfl); (solve | with_unfolding_all rfl)) | (apply i_dgetI; (solve | walk_at "h"); (solve | assumption)) | (apply i_in; (solve | with_unfolding_all rfl); (solve | walk_at "e")) | (apply i_setO; (solve | assumption); (solve | walk_at "u"); (solve | with_unfolding_all rfl); intro H O) | (apply i_appO; (solve | assumption); (solve | walk_at "u"); (exact (szl (by (try simp) <;> omega))); intro H O) | (apply i_drawO; (solve | assumption); (exact rfl); (solve | decide); (solve | decide); intro r H h0 h1 O))
local macro_rules | `(tactic| walk_at "s") => `(tactic| repeat (walk_at "s1"))
inductive Sn : List V → List V → V → Prop
  | two {us : List V} {p q : V} : Sn (us ++ [p, q]) (us ++ [p]) q
  | one {us : List V} {p : V} : Sn (us ++ [p]) us p
theorem Sn.eq {xs zs : List V} {y : V} (h : Sn xs zs y) : xs.dropLast = zs ∧ xs[xs.length - 1]? = some y := by
  cases h with
  | two => exact ⟨dl2, la2⟩
  | one => exact ⟨dl1, la1⟩
theorem i_popSn {H : Hp} {Q : VK} {a c l : Addr} {B : Hp} {ls ls' : List (Addr × HO)} {xs zs : List V} {y : V} (O : Own a c B H ls) (h : Up1 l (.lst xs) (.lst zs) ls ls') (s : Sn xs zs y) (k : ∀ H', Own a c B H' ls' → Q y H') : rPopL (.ref l) [] H Q := by
  obtain ⟨e1, e2⟩ := s.eq
  subst e1
  exact i_popLO O h e2 k
theorem i_setLast {H : Hp} {a c l : Addr} {B : Hp} {ls ls' : List (Addr × HO)} {us : List V} {p q v : V} {R : Hp → Prop} (O : Own a c B H ls) (h : Up1 l (.lst (us ++ [p, q])) (.lst (us ++ [p, v])) ls ls') (k : ∀ H', Own a c B H' ls' → R H') : rSetA (.ref l) (.int (-1)) v H R := by
  have e : (us ++ [p, q]).set (us.length + 1) v = us ++ [p, v] := by
    rw [List.set_append_right _ _ (by omega), Nat.add_sub_cancel_left]
    rfl
  rw [← e] at h
  refine i_setO O h ?_ k
  unfold ixN
  rw [if_neg (by decide), if_pos (by simp; omega)]
  simp
  omega
local macro_rules | `(tactic| walk_at "s1") => `(tactic| with_reducible first | (apply i_popSn; (solve | assumption); (solve | walk_at "u"); (solve | exact Sn.two | exact Sn.one); intro H O) | (apply i_slO; (solve | assumption); (solve | walk_at "h"); (solve | exact cut_m1 | exact cut_m2 | exact cut_l1 | assumption); intro p H O) | (apply i_ixA; (solve | walk_at "h"); (solve | exact IxO.lst at_1 | exact IxO.lst at_2)) | (apply i_setLast; (solve | assumption); (solve | walk_at "u"); intro H O))
set_option maxHeartbeats 64000000 in
theorem rest_ok (A : Ad) (F : CF A) {a c s vp tk kp W dx g cd cl st jn rw_ sp ip : Addr} {B H : Hp} {m : Nat} {x6 x9 x11 x12 x13 x14 : Option V} {vs us : List Int} {x y : Int} {xs : List V} {nx : L2.St → Hp → Prop} {rt : VK} {bk ct : L2.St → Hp → Prop}
    (m1 : 1 ≤ m) (hn : vs.length = m) (m6 : m ≤ 6) (hu : us.length ≤ 4) (hx : Wd x) (hy : Wd y) (hv : ∀ v ∈ vs, Wd v) (hvp : B vp = some (.lst (vs.map V.int))) (htk : B tk = some (.lst ((tks m).map V.int))) (hip : B ip = some (.tup xs)) (hi : InR m xs)
    (O : Own a c B H [(W, .ins A.c_Workspace dx (fsW tk g cd cl st 0 "ready" jn rw_)), (cl, .lst (vs.map V.int ++ [.int 0, .int 0])), (st, .lst (us.map V.int ++ [.int y, .int x])), (sp, .lst (us.map V.int ++ [.int y, .int x]))])
    (hnx : ∀ H' x11 x12 x13, Own a c B H' [] → nx [some (.ref s), some (.ref a), some (.int m), some (.ref vp), some (.ref tk), some (.ref kp), x6, some (.ref W), some (.ref sp), x9, some (.ref ip), x11, x12, x13, x14] H') :
    t_rest A ⟨nx, rt, bk, ct⟩ [some (.ref s), some (.ref a), some (.int m), some (.ref vp), some (.ref tk), some (.ref kp), x6, some (.ref W), some (.ref sp), x9, some (.ref ip), x11, x12, x13, x14] H := by
  have F0 := F
  obtain ⟨F1, n1, n2, n3, n4, n5, n6, n7, n8, n9, n10, n11, n12, n13, n14, n15⟩ := F
  unfold t_rest
  simp only [fsW] at O
  have hM : (vs ++ [0, 0]).map V.int = vs.map V.int ++ [.int 0, .int 0] := by simp
  have hL : (vs.map V.int ++ [.int 0, .int 0] : List V).length = m + 2 := by simp [hn]
  cases hi with
  | @push w hw =>
    walk_at "s"
    exact end_ok A F0 m1 (ns := (vs ++ [0, 0])) (ks := (us ++ [y, x] ++ [w])) (by simp [hn]) m6 htk ‹Own a c B _ _› (by walk_at "m") (by walk_at "m") (by walk_at "m") (by walk_at "m") (by walk_at "m") (by walk_at "m") (by simp) (by simp) (by simp) (by simp) (by decide +kernel) fun H' O => hnx _ _ _ _ O
  | @load k hk =>
    obtain ⟨v, hvk⟩ : ∃ v, (vs ++ [0, 0])[k]? = some v := ⟨_, List.getElem?_eq_getElem (by simp; omega)⟩
    have ak : atI (vs.map V.int ++ [.int 0, .int 0]) ((k : Nat) : Int) = some (.int v) := atI_nat (by rw [← hM, List.getElem?_map, hvk]; rfl)
    walk_at "s"
    exact end_ok A F0 m1 (ns := (vs ++ [0, 0])) (ks := (us ++ [y, x] ++ [v])) (by simp [hn]) m6 htk ‹Own a c B _ _› (by walk_at "m") (by walk_at "m") (by walk_at "m") (by walk_at "m") (by walk_at "m") (by walk_at "m") (by simp) (by simp) (by simp) (by simp) (by decide +kernel) fun H' O => hnx _ _ _ _ O
  | @store k hk =>
    have c1 := cut_to (xs := vs.map V.int ++ [.int 0, .int 0]) (k := k) (by omega)
    have c2 := cut_from (xs := vs.map V.int ++ [.int 0, .int 0]) (k := k + 1) (by omega)
    rw [show ((k + 1 : Nat) : Int) = (k : Int) + 1 from rfl] at c2
    have e9 := set_cut (xs := vs.map V.int ++ [.int 0, .int 0]) (k := k) (v := V.int x) (by omega)
    have i9 : ixN (vs.map V.int ++ [.int 0, .int 0] : List V).length (k : Int) = some k := by
      unfold ixN
      rw [if_pos (by omega), if_pos (by omega)]
      simp
    repeat (first | walk_at "s1" | (apply i_setO; (solve | assumption); (solve | walk_at "u"); (solve | exact i9); intro H O))
    exact end_ok A F0 m1 (ns := ((vs ++ [0, 0]).set k x)) (ks := (us ++ [y])) (by simp [hn]) m6 htk ‹Own a c B _ _› (by walk_at "m") (by walk_at "m") (by walk_at "m") (by walk_at "m") (by walk_at "m") (by walk_at "m") (by rw [← hM, List.map_set]) (by rw [e9, ← hM, List.map_set]) (by simp) (by simp) (by decide +kernel) fun H' O => hnx _ _ _ _ O
  | @loadx k z hk hs =>
    obtain ⟨xn, rfl⟩ : ∃ j : Nat, x = (j : Int) := ⟨x.toNat, by have := hx.1; omega⟩
    by_cases hz : (z : Int) ≤ (xn : Int)
    · repeat (first | walk_at "s1" | (apply i_dy; (solve | assumption)))
      exact end_fault A F0 ‹Own a c B _ _› (by walk_at "m") fun H' O => hnx _ _ _ _ O
    · have hx2 := hx
      obtain ⟨v, hvk⟩ : ∃ v, (vs ++ [0, 0])[k + xn]? = some v := ⟨_, List.getElem?_eq_getElem (by simp; omega)⟩
      have ak : atI (vs.map V.int ++ [.int 0, .int 0]) ((k + xn : Nat) : Int) = some (.int v) := atI_nat (by rw [← hM, List.getElem?_map, hvk]; rfl)
      rw [show ((k + xn : Nat) : Int) = (k : Int) + (xn : Int) from rfl] at ak
      repeat (first | walk_at "s1" | (apply i_dn; (solve | assumption)))
      exact end_ok A F0 m1 (ns := (vs ++ [0, 0])) (ks := (us ++ [y, v])) (by simp [hn]) m6 htk ‹Own a c B _ _› (by walk_at "m") (by walk_at "m") (by walk_at "m") (by walk_at "m") (by walk_at "m") (by walk_at "m") (by simp) (by simp) (by simp) (by simp) (by decide +kernel) fun H' O => hnx _ _ _ _ O
  | @storex k z hk hs =>
    obtain ⟨xn, rfl⟩ : ∃ j : Nat, x = (j : Int) := ⟨x.toNat, by have := hx.1; omega⟩
    by_cases hz : (z : Int) ≤ (xn : Int)
    · repeat (first | walk_at "s1" | (apply i_dy; (solve | assumption)))
      exact end_fault A F0 ‹Own a c B _ _› (by walk_at "m") fun H' O => hnx _ _ _ _ O
    · have c1 := cut_to (xs := vs.map V.int ++ [.int 0, .int 0]) (k := k + xn) (by omega)
      have c2 := cut_from (xs := vs.map V.int ++ [.int 0, .int 0]) (k := k + xn + 1) (by omega)
      rw [show ((k + xn : Nat) : Int) = (k : Int) + (xn : Int) from rfl] at c1
      rw [show ((k + xn + 1 : Nat) : Int) = (k : Int) + (xn : Int) + 1 from rfl] at c2
      have e9 := set_cut (xs := vs.map V.int ++ [.int 0, .int 0]) (k := k + xn) (v := V.int y) (by omega)
      have i9 : ixN (vs.map V.int ++ [.int 0, .int 0] : List V).length ((k : Int) + (xn : Int)) = some (k + xn) := by
        unfold ixN
        rw [if_pos (by omega), if_pos (by omega)]
        exact congrArg some (by omega)
      repeat (first | walk_at "s1" | (apply i_dn; (solve | assumption)) | (apply i_setO; (solve | assumption); (solve | walk_at "u"); (solve | exact i9); intro H O))
      exact end_ok A F0 m1 (ns := ((vs ++ [0, 0]).set (k + xn) y)) (ks := us) (by simp [hn]) m6 htk ‹Own a c B _ _› (by walk_at "m") (by walk_at "m") (by walk_at "m") (by walk_at "m") (by walk_at "m") (by walk_at "m") (by rw [← hM, List.map_set]) (by rw [e9, ← hM, List.map_set]) (by simp) (by simp) (by decide +kernel) fun H' O => hnx _ _ _ _ O
  | @check k hk hs =>
    by_cases hz : (k : Int) ≤ x
    · repeat (first | walk_at "s1" | (apply i_dy; (solve | assumption)))
      exact end_fault A F0 ‹Own a c B _ _› (by walk_at "m") fun H' O => hnx _ _ _ _ O
    · repeat (first | walk_at "s1" | (apply i_dn; (solve | assumption)))
      exact end_ok A F0 m1 (ns := (vs ++ [0, 0])) (ks := (us ++ [y, x])) (by simp [hn]) m6 htk ‹Own a c B _ _› (by walk_at "m") (by walk_at "m") (by walk_at "m") (by walk_at "m") (by walk_at "m") (by walk_at "m") (by simp) (by simp) (by simp) (by simp) (by decide +kernel) fun H' O => hnx _ _ _ _ O
  | neg =>
    walk_at "s"
    refine ⟨_, _, _, rfl, Vf.neg (by walk_at "h") (by walk_at "h") hx, fun H2 s2 => ?_⟩
    have O2 := Own.same ‹Own a c B _ _› s2
    simp only [optV]
    repeat (first | walk_at "s1" | (apply i_rI; (solve | exact (show (0 : Int) < 65536 by decide))))
    exact end_ok A F0 m1 (ns := (vs ++ [0, 0])) (ks := (us ++ [y, neg1 x])) (by simp [hn]) m6 htk ‹Own a c B _ _› (by walk_at "m") (by walk_at "m") (by walk_at "m") (by walk_at "m") (by walk_at "m") (by walk_at "m") (by simp) (by simp) (by simp [neg1]) (by simp [neg1] <;> omega) (by decide +kernel) fun H' O => hnx _ _ _ _ O
  | not =>
    walk_at "s"
    refine ⟨_, _, _, rfl, Vf.not (by walk_at "h") (by walk_at "h") hx, fun H2 s2 => ?_⟩
    have O2 := Own.same ‹Own a c B _ _› s2
    simp only [optV]
    repeat (first | walk_at "s1" | (apply i_rI; (solve | exact (show (0 : Int) < 65536 by decide))))
    exact end_ok A F0 m1 (ns := (vs ++ [0, 0])) (ks := (us ++ [y, not1 x])) (by simp [hn]) m6 htk ‹Own a c B _ _› (by walk_at "m") (by walk_at "m") (by walk_at "m") (by walk_at "m") (by walk_at "m") (by walk_at "m") (by simp) (by simp) (by simp [not1, b2]) (by simp [not1, b2]) (by decide +kernel) fun H' O => hnx _ _ _ _ O
  | calc_ o =>
    walk_at "s"
    refine ⟨_, _, _, rfl, Vf.bin (by walk_at "h") (by walk_at "h") (by walk_at "h") hy hx, fun H2 s2 => ?_⟩
    have O2 := Own.same ‹Own a c B _ _› s2
    cases hr : opv o y x with
    | none =>
      simp only [optV]
      walk_at "s"
      refine ⟨o, y, x, rfl, hy, hx, fun H3 s3 => ?_⟩
      have O3 := Own.same ‹Own a c B _ _› s3
      rw [hr]
      simp only [optV]
      walk_at "s"
      exact end_fault A F0 ‹Own a c B _ _› (by walk_at "m") fun H' O => hnx _ _ _ _ O
    | some z =>
      simp only [optV]
      walk_at "s"
      refine ⟨o, y, x, rfl, hy, hx, fun H3 s3 => ?_⟩
      have O3 := Own.same ‹Own a c B _ _› s3
      rw [hr]
      simp only [optV]
      walk_at "s"
      exact end_ok A F0 m1 (ns := (vs ++ [0, 0])) (ks := (us ++ [z])) (by simp [hn]) m6 htk ‹Own a c B _ _› (by walk_at "m") (by walk_at "m") (by walk_at "m") (by walk_at "m") (by walk_at "m") (by walk_at "m") (by simp) (by simp) (by simp) (by simp) (by decide +kernel) fun H' O => hnx _ _ _ _ O
  | jump =>
    walk_at "s"
    exact end_ok A F0 m1 (ns := (vs ++ [0, 0])) (ks := (us ++ [y, x])) (by simp [hn]) m6 htk ‹Own a c B _ _› (by walk_at "m") (by walk_at "m") (by walk_at "m") (by walk_at "m") (by walk_at "m") (by walk_at "m") (by simp) (by simp) (by simp) (by simp) (by decide +kernel) fun H' O => hnx _ _ _ _ O
  | jzero =>
    by_cases hz : x = 0
    · repeat (first | walk_at "s1" | (apply i_dy; (solve | assumption)))
      exact end_ok A F0 m1 (ns := (vs ++ [0, 0])) (ks := (us ++ [y])) (by simp [hn]) m6 htk ‹Own a c B _ _› (by walk_at "m") (by walk_at "m") (by walk_at "m") (by walk_at "m") (by walk_at "m") (by walk_at "m") (by simp) (by simp) (by simp) (by simp) (by decide +kernel) fun H' O => hnx _ _ _ _ O
    · repeat (first | walk_at "s1" | (apply i_dn; (solve | assumption)))
      exact end_ok A F0 m1 (ns := (vs ++ [0, 0])) (ks := (us ++ [y])) (by simp [hn]) m6 htk ‹Own a c B _ _› (by walk_at "m") (by walk_at "m") (by walk_at "m") (by walk_at "m") (by walk_at "m") (by walk_at "m") (by simp) (by simp) (by simp) (by simp) (by decide +kernel) fun H' O => hnx _ _ _ _ O
  | stop =>
    walk_at "s"
    exact end_ok A F0 m1 (ns := (vs ++ [0, 0])) (ks := (us ++ [y, x])) (by simp [hn]) m6 htk ‹Own a c B _ _› (by walk_at "m") (by walk_at "m") (by walk_at "m") (by walk_at "m") (by walk_at "m") (by walk_at "m") (by simp) (by simp) (by simp) (by simp) (by decide +kernel) fun H' O => hnx _ _ _ _ O
  | give =>
    walk_at "s"
    exact end_ok A F0 m1 (ns := (vs ++ [0, 0])) (ks := (us ++ [y, x])) (by simp [hn]) m6 htk ‹Own a c B _ _› (by walk_at "m") (by walk_at "m") (by walk_at "m") (by walk_at "m") (by walk_at "m") (by walk_at "m") (by simp) (by simp) (by simp) (by simp) (by decide +kernel) fun H' O => hnx _ _ _ _ O
  | take_ =>
    walk_at "s"
    exact end_ok A F0 m1 (ns := (vs ++ [0, 0])) (ks := (us ++ [y, x])) (by simp [hn]) m6 htk ‹Own a c B _ _› (by walk_at "m") (by walk_at "m") (by walk_at "m") (by walk_at "m") (by walk_at "m") (by walk_at "m") (by simp) (by simp) (by simp) (by simp) (by decide +kernel) fun H' O => hnx _ _ _ _ O
  | either =>
    walk_at "s"
    exact end_ok A F0 m1 (ns := (vs ++ [0, 0])) (ks := (us ++ [y, x])) (by simp [hn]) m6 htk ‹Own a c B _ _› (by walk_at "m") (by walk_at "m") (by walk_at "m") (by walk_at "m") (by walk_at "m") (by walk_at "m") (by simp) (by simp) (by simp) (by simp) (by decide +kernel) fun H' O => hnx _ _ _ _ O
  | fork =>
    walk_at "s"
    exact end_ok A F0 m1 (ns := (vs ++ [0, 0])) (ks := (us ++ [y, x])) (by simp [hn]) m6 htk ‹Own a c B _ _› (by walk_at "m") (by walk_at "m") (by walk_at "m") (by walk_at "m") (by walk_at "m") (by walk_at "m") (by simp) (by simp) (by simp) (by simp) (by decide +kernel) fun H' O => hnx _ _ _ _ O
  | end_ =>
    walk_at "s"
    exact end_ok A F0 m1 (ns := (vs ++ [0, 0])) (ks := (us ++ [y, x])) (by simp [hn]) m6 htk ‹Own a c B _ _› (by walk_at "m") (by walk_at "m") (by walk_at "m") (by walk_at "m") (by walk_at "m") (by walk_at "m") (by simp) (by simp) (by simp) (by simp) (by decide +kernel) fun H' O => hnx _ _ _ _ O
end K45
set_option Elab.async false
set_option linter.all false
set_option maxRecDepth 100000
set_option maxHeartbeats 4000000
namespace K45
open PySem PySem.Spec PyProof.Rows L2 Lb
local macro_rules | `(tactic| walk_at "h") => `(tactic| first | assumption | exact Own.mem (by assumption) (by walk_at "m") | exact Own.kp (by assumption) (by assumption))
local macro_rules | `(tactic| walk_at "m") => `(tactic| (focus ((repeat (first | assumption | exact List.mem_cons_self | apply List.mem_cons_of_mem)); done)))
local macro_rules | `(tactic| walk_at "u") => `(tactic| (focus ((repeat (first | exact Up1.here | apply Up1.there)); done)))
local macro_rules | `(tactic| walk_at "p") => `(tactic| (focus ((repeat (first | exact Pre.nil | apply Pre.cons)); done)))
local macro_rules | `(tactic| walk_at "f") => `(tactic| (focus ((repeat (first | exact PutF.here | exact PutF.nil | (apply PutF.there; (solve | decide +kernel)))); done)))
local macro_rules | `(tactic| walk_at "k") => `(tactic| (focus ((repeat (first | exact LkF.here rfl | exact LkF.nil rfl | refine LkF.there (by decide +kernel) ?_)); done)))
local macro_rules | `(tactic| walk_at "e") => `(tactic| (focus ((repeat (first | exact StE.nil | apply StE.app | apply StE.got | apply StE.lack)); done)))
local macro_rules | `(tactic| walk_at "d") => `(tactic| (focus ((repeat (first | exact Dt.int _ | exact Dt.str _ | exact Dt.non | exact Dt.bl _ | exact DtAll.nil | exact DtAll.ints _ | apply DtAll.cons | (apply Dt.tup; (solve | walk_at "h")) | (apply Dt.lst; (solve | walk_at "h")))); done)))
local macro_rules | `(tactic| walk_at "sh") => `(tactic| (focus ((repeat (first | exact Sh.int | exact Sh.non | exact Sh.str (by decide +kernel) | exact ShA.nil | exact ShA.ints | apply ShA.cons | apply Sh.lst | apply Sh.tup)); done)))
local macro_rules | `(tactic| walk_at "ne") => `(tactic| (apply rd_neF; (solve | walk_at "d"); (solve | walk_at "d"); (solve | exact Sh.shp (n := 4) (by walk_at "sh"))))
local macro_rules | `(tactic| walk_at "s1") => `(tactic| with_reducible first | (apply i_var; (solve | with_unfolding_all rfl)) | apply i_cons | apply i_nil | apply i_c | apply i_op | apply i_asg | apply i_seq | apply i_gname | apply i_eqS | apply i_eqI | apply i_neS | apply i_tt | apply i_ff | (apply i_ixA; (solve | walk_at "h"); (solve | exact IxO.lst (by assumption) | exact .lst (by with_unfolding_all rfl) | exact .tup (by with_unfolding_all rfl))) | apply i_bl | apply i_test | apply i_ifS | apply i_tupN | (apply i_tupO; (solve | assumption); (exact (sz (by (try simp) <;> omega))); intro p H O) | apply i_fld | (apply i_fldO; (solve | walk_at "h"); (solve | assumption); (solve | assumption); (solve | walk_at "k")) | (apply i_tB; (solve | decide +kernel)) | (apply i_fB; (solve | decide +kernel)) | apply i_ret | apply i_retN | apply i_drop | apply i_next | apply i_brk | apply i_cnt | apply i_par | apply i_par2 | apply i_fldSN | apply i_dput | apply i_un | apply i_rU | apply i_rI0 | apply i_B | apply i_tru | apply i_truB | apply i_and | apply i_or | apply i_not | apply i_andV | apply i_orV | apply i_notV | apply i_if | apply i_call | apply i_meth | apply i_makeN | apply i_cb | apply i_dnewN | apply i_lstN | apply i_bml | apply i_gsub | apply i_gcons | apply i_gnil | apply i_sl | apply i_nop | apply i_part | apply i_prt | apply i_isN | apply i_notN | apply i_yes | apply i_ntt | apply i_nff | apply i_addI | apply i_neI | apply i_intI | apply i_intB | apply i_abs | apply i_isiIB | apply i_isiNB | apply i_isiBB | apply i_dget | apply i_for | apply i_ilist | apply i_itup | apply i_rng1 | apply i_rng2 | apply i_ex1 | apply i_ex2 | apply i_exr | apply i_disp | apply i_pcons | apply i_pnil | apply i_neN | apply i_eqN | apply i_neB | apply i_eqB | apply i_lc | apply i_dnI | apply i_nyI | apply i_dnR | apply i_nyR | (apply i_lenA; (solve | walk_at "h"); (solve | first | exact .lst | exact .tup | exact .dK)) | (apply i_isL; (solve | walk_at "h")) | (apply i_isiLL; (solve | walk_at "h")) | (apply i_isiTL; (solve | walk_at "h")) | (apply i_gtup; (solve | walk_at "h"); (solve | with_unfolding_all rfl)) | (apply i_fldSO; (solve | assumption); (solve | walk_at "u"); (solve | walk_at "f"); (solve | assumption); (solve | assumption); (solve | simp); intro H O) | (apply i_lstO; (solve | assumption); (exact (sz (by (try simp) <;> omega))); intro p H O) | (apply i_makeO; (solve | assumption); intro x dx H O) | (apply i_methO; (solve | walk_at "h"); (solve | walk_at "k")) | (apply i_newO; (solve | assumption); intro p H O) | (apply i_listN; (solve | walk_at "h")) | (apply i_listTN; (solve | walk_at "h")) | (apply i_addN; (solve | walk_at "h"); (solve | walk_at "h"); (exact (sz (by (try simp) <;> omega)))) | apply i_mkd | apply i_gfld | (apply i_glst; (solve | walk_at "h"); (solve | with_unfolding_all rfl)) | apply i_isB | apply i_notB | (apply i_inO; (solve | walk_at "h"); (solve | with_unfolding_all rfl); (solve | with_unfolding_all rfl)) | (apply i_dgetI; (solve | walk_at "h"); (solve | assumption)) | (apply i_in; (solve | with_unfolding_all rfl); (solve | walk_at "e")) | (apply i_setO; (solve | assumption); (solve | walk_at "u"); (solve | with_unfolding_all rfl); intro H O) | (apply i_appO; (solve | assumption); (solve | walk_at "u"); (exact (szl (by (try simp) <;> omega))); intro H O) | (apply i_drawO; (solve | assumption); (exact rfl); (solve | decide); (solve | decide); intro r H h0 h1 O))
local macro_rules | `(tactic| walk_at "s") => `(tactic| repeat (walk_at "s1"))
def t_turn2 : Ad → TS := fun A => (tSeq (tAsg (tLc (iRng1 (tCons (tOp rAddA (tC (.int 2)) (tCall spDraw [] E0 (tCons (tVar 1) (tCons (tC (.int 5)) tNil)))) tNil)) (gName 14) tYes (tCall sp_l_word [] E0 (tCons (tVar 1) tNil)) [14]) (gName 8)) (tSeq (tFor (iList A.K (tVar 8)) (gName 9) (tIfS (tTest (tOp rNotB (tMeth A.c_Workspace "step" (sp_Workspace_step A) [] E0 (tVar 7) (tCons (tTup (tCons (tC (.str "push")) (tCons (tVar 9) tNil))) tNil)) (tC (.bl true)))) (tRet (tC (.bl false))) tNext)) (tSeq (tAsg (tCall sp_l_instr [] E0 (tCons (tVar 1) (tCons (tVar 2) tNil))) (gName 10)) (t_rest A))))
def t_turn : Ad → TS := fun A => (tSeq (tAsg (tMake A.c_Workspace (sp_Workspace_init A) [] E0 (tCons (tC (.int 4)) (tCons (tTup (tCons (tC (.int 1)) (tCons (tOp rAddA (tVar 2) (tC (.int 2))) (tCons (tVar 4) (tCons (tLst tNil) (tCons (tLst (tCons (tTup (tCons (tC (.str "end")) tNil)) tNil)) tNil)))))) (tCons (tVar 3) tNil)))) (gName 7)) (tSeq (tIfS (tOr (tTest (tOp (rNeA A.K) (tFld A.K (tVar 7) "cells") (tOp rAddA (tVar 3) (tLst (tCons (tC (.int 0)) (tCons (tC (.int 0)) tNil)))))) (tOr (tTest (tOp (rNeA A.K) (tFld A.K (tVar 7) "stack") (tLst tNil))) (tOr (tTest (tOp (rNeA A.K) (tFld A.K (tVar 7) "at") (tC (.int 0)))) (tTest (tOp (rNeA A.K) (tFld A.K (tVar 7) "state") (tC (.str "ready"))))))) (tRet (tC (.bl false))) tNext) (t_turn2 A)))
theorem len_law (A : Ad) {vs : List V} {H : Hp} {Q : VK} {E : XK} (h : sp_law A vs H Q E) : vs.length = 1 := by
  obtain ⟨s, ns, rfl, _⟩ := h
  rfl
inductive Pick (y : Addr × HO) : List (Addr × HO) → List (Addr × HO) → Prop
  | here {r : List (Addr × HO)} : Pick y (y :: r) r
  | there {x : Addr × HO} {r r' : List (Addr × HO)} (h : Pick y r r') : Pick y (x :: r) (x :: r')
theorem Pick.perm1 {y : Addr × HO} {l r : List (Addr × HO)} (h : Pick y l r) : l.Perm (y :: r) := by
  induction h with
  | here => exact .refl _
  | there _ ih => exact (ih.cons _).trans (.swap ..)
theorem Pick.perm {y : Addr × HO} {l r ys : List (Addr × HO)} (h : Pick y l r) (k : r.Perm ys) : l.Perm (y :: ys) := h.perm1.trans (k.cons _)
local macro_rules | `(tactic| walk_at "pm") => `(tactic| (focus ((repeat (first | exact List.Perm.refl _ | (apply Pick.perm; (solve | repeat (first | exact Pick.here | apply Pick.there))))); done)))
theorem st0 {a c : Addr} {B H : Hp} {l2 l1 l0 rw_ jn st cl p4 p5 p6 W dx p7 cd p9 g C : Addr} {vs : List V} {o1 o2 o3 o4 o5 o6 o7 o8 o9 o10 o11 : HO} {fs : List (Str × V)}
    (O : Own a c B H [(l2, o1), (l1, o2), (l0, o3), (rw_, o4), (jn, o5), (st, .lst []), (cl, .lst (vs ++ ([.int 0] ++ [.int 0]))), (p4, o6), (p5, o7), (p6, o8), (W, .ins C dx fs), (dx, o9), (p7, o10), (cd, o11), (p9, .tup [.str "end"]), (g, .lst [])]) :
    Own a c B H [(W, .ins C dx fs), (cl, .lst (vs ++ [.int 0, .int 0])), (st, .lst [])] := by
  have O2 := O.perm (ls' := [(l2, o1), (l1, o2), (l0, o3), (rw_, o4), (jn, o5), (p4, o6), (p5, o7), (p6, o8), (dx, o9), (p7, o10), (cd, o11), (p9, .tup [.str "end"]), (g, .lst [])] ++ [(W, .ins C dx fs), (cl, .lst (vs ++ [.int 0, .int 0])), (st, .lst [])]) (by
    simp only [List.cons_append, List.nil_append]
    walk_at "pm")
  exact O2.drop
theorem neInts2 {K : PySem.W.Frag} {H : Hp} {Q : VK} {p q : Addr} {xs ys : List V} {ns : List Int} (h1 : H p = some (.lst xs)) (h2 : H q = some (.lst ys)) (e1 : xs = ns.map V.int) (e2 : ys = ns.map V.int) (k : Q (.bl false) H) : rNeA K (.ref p) (.ref q) H Q := by
  subst e1 e2
  exact rd_neF (.lst h1 (DtAll.ints ns)) (.lst h2 (DtAll.ints ns)) (Sh.shp (n := 1) (.lst .ints)) k
theorem two_last {ws : List Int} (h : 2 ≤ ws.length) : ∃ us y x, ws = us ++ [y, x] := by
  have hl := List.length_reverse (as := ws)
  rcases hr : ws.reverse with _ | ⟨x, _ | ⟨y, r⟩⟩
  · rw [hr] at hl
    simp at hl
    omega
  · rw [hr] at hl
    simp at hl
    omega
  · have e := congrArg List.reverse hr
    rw [List.reverse_reverse] at e
    exact ⟨r.reverse, y, x, by rw [e]; simp⟩
set_option maxHeartbeats 64000000 in
theorem turn2_ok (A : Ad) (F : CF A) {a c s vp tk kp W dx g cd cl st jn rw_ : Addr} {B H : Hp} {m : Nat} {x6 x8 x9 x10 x11 x12 x13 x14 : Option V} {vs : List Int} {nx : L2.St → Hp → Prop} {rt : VK} {bk ct : L2.St → Hp → Prop}
    (m1 : 1 ≤ m) (hn : vs.length = m) (m6 : m ≤ 6) (hv : ∀ v ∈ vs, Wd v) (hvp : B vp = some (.lst (vs.map V.int))) (htk : B tk = some (.lst ((tks m).map V.int)))
    (O : Own a c B H [(W, .ins A.c_Workspace dx (fsW tk g cd cl st 0 "ready" jn rw_)), (cl, .lst (vs.map V.int ++ [.int 0, .int 0])), (st, .lst [])])
    (hnx : ∀ H' B' x8 x9 x10 x11 x12 x13, Same B B' → Own a c B' H' [] → nx [some (.ref s), some (.ref a), some (.int m), some (.ref vp), some (.ref tk), some (.ref kp), x6, some (.ref W), x8, x9, x10, x11, x12, x13, x14] H') :
    t_turn2 A ⟨nx, rt, bk, ct⟩ [some (.ref s), some (.ref a), some (.int m), some (.ref vp), some (.ref tk), some (.ref kp), x6, some (.ref W), x8, x9, x10, x11, x12, x13, x14] H := by
  have F0 := F
  obtain ⟨F1, n1, n2, n3, n4, n5, n6, n7, n8, n9, n10, n11, n12, n13, n14, n15⟩ := F
  unfold t_turn2
  walk_at "s"
  rename_i r H1 r0 r1 O
  obtain ⟨j, rfl⟩ : ∃ j : Nat, r = (j : Int) := ⟨r.toNat, by omega⟩
  refine ⟨by omega, by omega, fun D hD => ?_⟩
  refine i_lcR (2 + j) (by omega) (fun i H' => ∃ ws : List Int, ws.length = i ∧ (∀ w ∈ ws, Wd w) ∧ Own a c B H' [(D, .lst (ws.map V.int)), (W, .ins A.c_Workspace dx (fsW tk g cd cl st 0 "ready" jn rw_)), (cl, .lst (vs.map V.int ++ [.int 0, .int 0])), (st, .lst [])]) ⟨[], rfl, by simp, O.new hD⟩ ?_ ?_
  · rintro i H2 hi ⟨ws, hl, hw, O⟩
    walk_at "s"
    refine ⟨a, c, B, _, rfl, O, fun H3 w h1 O => ?_⟩
    refine ⟨_, O.mem (by walk_at "m"), szl (by simp; omega), ws ++ [w], by simp [hl], fun z hz => ?_, ?_⟩
    · rcases List.mem_append.mp hz with e | e
      · exact hw z e
      · rw [List.mem_singleton.mp e]
        exact h1
    · have O2 := O.set (p := D) (o' := .lst (ws.map V.int ++ [V.int w])) (by walk_at "u")
      rw [List.map_append]
      exact O2
  rintro H2 ⟨ws, hl, hw, O⟩
  walk_at "s"
  refine i_forL (ws.map V.int) (fun i σ H' => ∃ x9, σ = [some (.ref s), some (.ref a), some (.int m), some (.ref vp), some (.ref tk), some (.ref kp), x6, some (.ref W), some (.ref D), x9, x10, x11, x12, x13, x14] ∧ Own a c B H' [(D, .lst (ws.map V.int)), (W, .ins A.c_Workspace dx (fsW tk g cd cl st 0 "ready" jn rw_)), (cl, .lst (vs.map V.int ++ [.int 0, .int 0])), (st, .lst ((ws.take i).map V.int))]) ⟨_, rfl, O⟩ (fun i σ H' ⟨_, _, O⟩ => SqL.of (O.mem (by walk_at "m"))) ?_ ?_
  · rintro i v σ H3 hx ⟨x9, rfl, O⟩
    obtain ⟨w, rfl, hw2⟩ := ints_at hx
    have hi : i < ws.length := (List.getElem?_eq_some_iff.mp hw2).1
    have hz : (ws.take i).length ≤ 10 := by rw [List.length_take]; omega
    simp only [fsW] at O
    walk_at "s"
    refine ⟨_, rfl, ?_⟩
    have e9 : (ws.take (i + 1)).map V.int = (ws.take i).map V.int ++ [V.int w] := by
      rw [List.take_add_one, hw2, List.map_append]
      rfl
    rw [e9]
    exact Own.dropP ‹Own a c B _ _› (by walk_at "p")
  · rintro σ H3 ⟨x9, rfl, O⟩
    rw [List.length_map, List.take_length] at O
    obtain ⟨us, y, x, rfl⟩ := two_last (ws := ws) (by omega)
    have e9 : (us ++ [y, x]).map V.int = us.map V.int ++ [V.int y, V.int x] := by simp
    rw [e9] at O
    walk_at "s"
    refine ⟨a, c, B, _, m, rfl, m1, m6, O, fun H4 B' p xs s2 O hp hi => ?_⟩
    have O := O.perm (ls' := [(W, .ins A.c_Workspace dx (fsW tk g cd cl st 0 "ready" jn rw_)), (cl, .lst (vs.map V.int ++ [.int 0, .int 0])), (st, .lst (us.map V.int ++ [.int y, .int x])), (D, .lst (us.map V.int ++ [.int y, .int x]))]) (by walk_at "pm")
    walk_at "s"
    have l9 : us.length ≤ 4 := by
      rw [List.length_append] at hl
      simp at hl
      omega
    exact rest_ok A F0 m1 hn m6 l9 (hw x (by simp)) (hw y (by simp)) hv (s2 _ _ hvp) (s2 _ _ htk) hp hi O fun H' x11 x12 x13 O => hnx _ B' _ _ _ _ _ _ s2 O
set_option maxHeartbeats 64000000 in
theorem turn_ok (A : Ad) (F : CF A) {a c s vp tk kp : Addr} {B H : Hp} {m : Nat} {x6 x7 x8 x9 x10 x11 x12 x13 x14 : Option V} {vs : List Int} {nx : L2.St → Hp → Prop} {rt : VK} {bk ct : L2.St → Hp → Prop}
    (m1 : 1 ≤ m) (hn : vs.length = m) (m6 : m ≤ 6) (hv : ∀ v ∈ vs, Wd v) (hvp : B vp = some (.lst (vs.map V.int))) (htk : B tk = some (.lst ((tks m).map V.int))) (O : Own a c B H [])
    (hnx : ∀ H' B' x7 x8 x9 x10 x11 x12 x13, Same B B' → Own a c B' H' [] → nx [some (.ref s), some (.ref a), some (.int m), some (.ref vp), some (.ref tk), some (.ref kp), x6, x7, x8, x9, x10, x11, x12, x13, x14] H') :
    t_turn A ⟨nx, rt, bk, ct⟩ [some (.ref s), some (.ref a), some (.int m), some (.ref vp), some (.ref tk), some (.ref kp), x6, x7, x8, x9, x10, x11, x12, x13, x14] H := by
  have F0 := F
  obtain ⟨F1, n1, n2, n3, n4, n5, n6, n7, n8, n9, n10, n11, n12, n13, n14, n15⟩ := F
  unfold t_turn
  walk_at "s"
  refine i_mulN (by walk_at "h") (by rw [List.length_map]; omega) (by simp) ?_
  walk_at "s"
  have eI : ∀ zs : List V, zs = vs.map V.int ++ [.int 0, .int 0] → zs = (vs ++ [0, 0]).map V.int := fun zs e => by rw [e]; simp
  refine neInts2 (ns := vs ++ [0, 0]) (by walk_at "h") (by walk_at "h") (by simp) (by simp) ?_
  walk_at "s"
  walk_at "ne"
  walk_at "s"
  exact turn2_ok A F0 m1 hn m6 hv hvp htk (st0 ‹Own a c B _ _›) fun H' B' x8 x9 x10 x11 x12 x13 s1 O => hnx _ _ _ _ _ _ _ _ _ s1 O
end K45
set_option Elab.async false
set_option linter.all false
set_option maxRecDepth 100000
set_option maxHeartbeats 4000000
namespace K45
open PySem PySem.Spec PyProof.Rows L2 Lb
local macro_rules | `(tactic| walk_at "h") => `(tactic| first | assumption | exact Own.mem (by assumption) (by walk_at "m") | exact Own.kp (by assumption) (by assumption))
local macro_rules | `(tactic| walk_at "m") => `(tactic| (focus ((repeat (first | assumption | exact List.mem_cons_self | apply List.mem_cons_of_mem)); done)))
local macro_rules | `(tactic| walk_at "u") => `(tactic| (focus ((repeat (first | exact Up1.here | apply Up1.there)); done)))
local macro_rules | `(tactic| walk_at "p") => `(tactic| (focus ((repeat (first | exact Pre.nil | apply Pre.cons)); done)))
local macro_rules | `(tactic| walk_at "f") => `(tactic| (focus ((repeat (first | exact PutF.here | exact PutF.nil | (apply PutF.there; (solve | decide +kernel)))); done)))
local macro_rules | `(tactic| walk_at "k") => `(tactic| (focus ((repeat (first | exact LkF.here rfl | exact LkF.nil rfl | refine LkF.there (by decide +kernel) ?_)); done)))
local macro_rules | `(tactic| walk_at "e") => `(tactic| (focus ((repeat (first | exact StE.nil | apply StE.app | apply StE.got | apply StE.lack)); done)))
local macro_rules | `(tactic| walk_at "d") => `(tactic| (focus ((repeat (first | exact Dt.int _ | exact Dt.str _ | exact Dt.non | exact Dt.bl _ | exact DtAll.nil | exact DtAll.ints _ | apply DtAll.cons | (apply Dt.tup; (solve | walk_at "h")) | (apply Dt.lst; (solve | walk_at "h")))); done)))
local macro_rules | `(tactic| walk_at "sh") => `(tactic| (focus ((repeat (first | exact Sh.int | exact Sh.non | exact Sh.str (by decide +kernel) | exact ShA.nil | exact ShA.ints | apply ShA.cons | apply Sh.lst | apply Sh.tup)); done)))
local macro_rules | `(tactic| walk_at "ne") => `(tactic| (apply rd_neF; (solve | walk_at "d"); (solve | walk_at "d"); (solve | exact Sh.shp (n := 4) (by walk_at "sh"))))
local macro_rules | `(tactic| walk_at "s1") => `(tactic| with_reducible first | (apply i_var; (solve | with_unfolding_all rfl)) | apply i_cons | apply i_nil | apply i_c | apply i_op | apply i_asg | apply i_seq | apply i_gname | apply i_eqS | apply i_eqI | apply i_neS | apply i_tt | apply i_ff | (apply i_ixA; (solve | walk_at "h"); (solve | exact IxO.lst (by assumption) | exact .lst (by with_unfolding_all rfl) | exact .tup (by with_unfolding_all rfl))) | apply i_bl | apply i_test | apply i_ifS | apply i_tupN | (apply i_tupO; (solve | assumption); (exact (sz (by (try simp) <;> omega))); intro p H O) | apply i_fld | (apply i_fldO; (solve | walk_at "h"); (solve | assumption); (solve | assumption); (solve | walk_at "k")) | (apply i_tB; (solve | decide +kernel)) | (apply i_fB; (solve | decide +kernel)) | apply i_ret | apply i_retN | apply i_drop | apply i_next | apply i_brk | apply i_cnt | apply i_par | apply i_par2 | apply i_fldSN | apply i_dput | apply i_un | apply i_rU | apply i_rI0 | apply i_B | apply i_tru | apply i_truB | apply i_and | apply i_or | apply i_not | apply i_andV | apply i_orV | apply i_notV | apply i_if | apply i_call | apply i_meth | apply i_makeN | apply i_cb | apply i_dnewN | apply i_lstN | apply i_bml | apply i_gsub | apply i_gcons | apply i_gnil | apply i_sl | apply i_nop | apply i_part | apply i_prt | apply i_isN | apply i_notN | apply i_yes | apply i_ntt | apply i_nff | apply i_addI | apply i_neI | apply i_intI | apply i_intB | apply i_abs | apply i_isiIB | apply i_isiNB | apply i_isiBB | apply i_dget | apply i_for | apply i_ilist | apply i_itup | apply i_rng1 | apply i_rng2 | apply i_ex1 | apply i_ex2 | apply i_exr | apply i_disp | apply i_pcons | apply i_pnil | apply i_neN | apply i_eqN | apply i_neB | apply i_eqB | apply i_lc | apply i_dnI | apply i_nyI | apply i_dnR | apply i_nyR | (apply i_lenA; (solve | walk_at "h"); (solve | first | exact .lst | exact .tup | exact .dK)) | (apply i_isL; (solve | walk_at "h")) | (apply i_isiLL; (solve | walk_at "h")) | (apply i_isiTL; (solve | walk_at "h")) | (apply i_gtup; (solve | walk_at "h"); (solve | with_unfolding_all rfl)) | (apply i_fldSO; (solve | assumption); (solve | walk_at "u"); (solve | walk_at "f"); (solve | assumption); (solve | assumption); (solve | simp); intro H O) | (apply i_lstO; (solve | assumption); (exact (sz (by (try simp) <;> omega))); intro p H O) | (apply i_makeO; (solve | assumption); intro x dx H O) | (apply i_methO; (solve | walk_at "h"); (solve | walk_at "k")) | (apply i_newO; (solve | assumption); intro p H O) | (apply i_listN; (solve | walk_at "h")) | (apply i_listTN; (solve | walk_at "h")) | (apply i_addN; (solve | walk_at "h"); (solve | walk_at "h"); (exact (sz (by (try simp) <;> omega)))) | apply i_mkd | apply i_gfld | (apply i_glst; (solve | walk_at "h"); (solve | with_unfolding_all rfl)) | apply i_isB | apply i_notB | (apply i_inO; (solve | walk_at "h"); (solve | with_unfolding_all rfl); (solve | with_unfolding_all rfl)) | (apply i_dgetI; (solve | walk_at "h"); (solve | assumption)) | (apply i_in; (solve | with_unfolding_all rfl); (solve | walk_at "e")) | (apply i_setO; (solve | assumption); (solve | walk_at "u"); (solve | with_unfolding_all rfl); intro H O) | (apply i_appO; (solve | assumption); (solve | walk_at "u"); (exact (szl (by (try simp) <;> omega))); intro H O) | (apply i_drawO; (solve | assumption); (exact rfl); (solve | decide); (solve | decide); intro r H h0 h1 O))
local macro_rules | `(tactic| walk_at "s") => `(tactic| repeat (walk_at "s1"))
set_option maxHeartbeats 64000000 in
theorem pure_law (A : Ad) (vs : List V) (H : Hp) (Q : VK) (E : XK) (h : sp_law A vs H Q E) : t_law A { nx := fun _ H' => Q .non H', rt := Q } (L2.start ["_law_script", "_law_state_here", "_law_many", "_law_values", "_law_takes", "_law_kept", "_law_turn", "_law_work", "_law_stack", "_law_word_here", "_law_instruction_here", "_law_before", "_law_told", "_law_due", "_law_k"] vs) H := by
  obtain ⟨s, ns, rfl, hS, hl, F, kQ⟩ := h
  rw [st_law]
  unfold t_law
  walk_at "s"
  refine ⟨s, ns, rfl, hS, hl, fun H1 a c sm R na nc => ?_⟩
  have O := Own.start R
  generalize hid [a, c] H1 = B at O
  walk_at "s"
  rename_i r H2 h0 h1 O
  obtain ⟨n0, rfl⟩ : ∃ j : Nat, r = (j : Int) := ⟨r.toNat, by omega⟩
  refine ⟨by omega, by omega, fun D hD => ?_⟩
  refine i_lcR (1 + n0) (by omega) (fun i H' => ∃ ws : List Int, ws.length = i ∧ (∀ w ∈ ws, Wd w) ∧ Own a c B H' [(D, .lst (ws.map V.int))]) ⟨[], rfl, by simp, O.new hD⟩ ?_ ?_
  · rintro i H2 hi ⟨ws, hl, hw, O⟩
    walk_at "s"
    refine ⟨a, c, B, _, rfl, O, fun H3 w h1 O => ?_⟩
    refine ⟨_, O.mem (by walk_at "m"), szl (by simp; omega), ws ++ [w], by simp [hl], fun z hz => ?_, ?_⟩
    · rcases List.mem_append.mp hz with e | e
      · exact hw z e
      · rw [List.mem_singleton.mp e]
        exact h1
    · have O2 := O.set (p := D) (o' := .lst (ws.map V.int ++ [V.int w])) (by walk_at "u")
      rw [List.map_append]
      exact O2
  rintro H2 ⟨ws, hwl, hw, O⟩
  obtain ⟨B2, s2, vp2, O⟩ := O.freeze
  clear s2
  walk_at "s"
  refine ⟨by omega, by omega, fun D2 hD2 => ?_⟩
  refine i_lcR (1 + n0) (by omega) (fun i H' => Own a c B2 H' [(D2, .lst ((tks i).map V.int))]) (O.new hD2) ?_ ?_
  · rintro i H3 hi O
    walk_at "s"
    refine i_mulI (.inl ⟨by omega, by omega⟩) ?_
    walk_at "s"
    refine ⟨_, O.mem (by walk_at "m"), szl (by simp [tks]; omega), ?_⟩
    have O2 := O.set (p := D2) (o' := .lst ((tks i).map V.int ++ [V.int (2 * (i : Int) + 1)])) (by walk_at "u")
    have e9 : (tks (i + 1)).map V.int = (tks i).map V.int ++ [V.int (2 * (i : Int) + 1)] := by
      unfold tks
      rw [List.range_succ, List.map_append, List.map_append]
      rfl
    rw [e9]
    exact O2
  rintro H3 O
  obtain ⟨B3, s3, tk3, O⟩ := O.freeze
  have vp3 := s3 _ _ vp2
  clear s3 vp2
  walk_at "s"
  rename_i kp H4 O
  obtain ⟨B4, s4, kp4, O⟩ := O.freeze
  have vp4 := s4 _ _ vp3
  have tk4 := s4 _ _ tk3
  clear s4 vp3 tk3
  have hm1 : ((1 + n0 : Nat) : Int) = 1 + (n0 : Int) := by omega
  walk_at "s"
  refine i_forR 5 (by omega) (by omega) (fun i σ H' => ∃ B' x6 x7 x8 x9 x10 x11 x12 x13 x14, σ = [some (.ref s), some (.ref a), some (.int ((1 + n0 : Nat) : Int)), some (.ref D), some (.ref D2), some (.ref kp), x6, x7, x8, x9, x10, x11, x12, x13, x14] ∧ Same B4 B' ∧ Own a c B' H' []) ⟨B4, none, none, none, none, none, none, none, none, none, by rw [hm1]; rfl, Same.refl _, O⟩ ?_ ?_
  · rintro i σ H5 hi ⟨B', x6, x7, x8, x9, x10, x11, x12, x13, x14, rfl, s5, O⟩
    walk_at "s1"
    exact turn_ok A F (by omega) hwl (by omega) hw (s5 _ _ vp4) (s5 _ _ tk4) O fun H' B6 x7 x8 x9 x10 x11 x12 x13 s6 O => ⟨B6, _, _, _, _, _, _, _, _, _, rfl, Same.trans s5 s6, O⟩
  · rintro σ H5 ⟨B', x6, x7, x8, x9, x10, x11, x12, x13, x14, rfl, s5, O⟩
    have vp5 := s5 _ _ vp4
    have kp5 := s5 _ _ kp4
    walk_at "s"
    exact rd_eqT (.lst (O.kp vp5) (DtAll.ints ws)) (.lst (O.kp kp5) (DtAll.ints ws)) (Sh.shp (n := 1) (.lst .ints)) (kQ _)
end K45
set_option Elab.async false
set_option linter.all false
set_option maxRecDepth 100000
set_option maxHeartbeats 4000000
namespace K45
open PySem PySem.Spec PyProof.Rows L2 Lb
def top (i : Nat) : Stmt := PySem.Challenge.pw_placedanyhow_k45_steps_of_a_workspace.main.body.getD i (.Pass ⟨0, 0, 0, 0⟩)
structure Tx (K : PySem.W.Frag) (mg : Str → Option Value) (A : Ad) : Prop where
  k : A.K = K
  b_abs : mg "abs" = none
  b_int : mg "int" = none
  b_len : mg "len" = none
  b_list : mg "list" = none
  b_range : mg "range" = none
  g_WORDS : GV mg "WORDS" (.int 65536)
section
variable {P : Program} {w : World} {K : PySem.W.Frag} {mg : Str → Option Value} {base : Heap}
abbrev s_wall : Stmt := top 0
theorem sc_wall : FnScope ["k"] ["k"] (defScope s_wall) := ⟨rfl, rfl, rfl, by decide +kernel, rfl, by decide +kernel, by decide +kernel⟩
abbrev s_calculate : Stmt := top 3
theorem sc_calculate : FnScope ["operator", "a", "b"] ["operator", "a", "b"] (defScope s_calculate) := ⟨rfl, rfl, rfl, by decide +kernel, rfl, by decide +kernel, by decide +kernel⟩
set_option maxHeartbeats 4000000 in
theorem ok_calculate {A : Ad} (T : Tx K mg A) {f : Addr} {fd : FuncData} (F : FunD K "calculate" "calculate" (defArgs s_calculate) (defBody s_calculate) (defScope s_calculate) [] [] f fd) : FnOk P w K mg base CX0 (1) f fd ["operator", "a", "b"] sp_calc := by
  obtain rfl := T.k
  refine F.ok sc_calculate (fun vs H Q E h => len_calculate A h) (fun cdv Ar outer s H vs Q E hr h => ⟨t_calculate A, PSs.nox ?_, pure_calculate A vs H Q E h⟩)
  exact (pss_cons (ps_if (pt_cmpR op_in_seq (pv 0) (pe_tup (pa_cons pe_str (pa_cons pe_str pa_nil))) (by rfl)) (pss_cons (ps_if (pt_cmpR (op_eqA hr.units) (pv 2) pe_int (nomark _)) (pss_one (ps_ret pe_non)) pss_nil) (pss_one (ps_ret (pe_ifExp (pt_cmpR (op_eqA hr.units) (pv 0) pe_str (nomark _)) (pe_op op_fdiv (pv 1) (pv 2)) (pe_op op_sub (pv 1) (pe_op op_mulA (pe_op op_fdiv (pv 1) (pv 2)) (pv 2))))))) pss_nil) (pss_cons (ps_if (pt_cmpR (op_eqA hr.units) (pv 0) pe_str (nomark _)) (pss_one (ps_ret (pe_op op_and (pe_op op_addA (pv 1) (pv 2)) (pe_op op_sub (pe_gv T.g_WORDS (by rfl)) pe_int)))) pss_nil) (pss_cons (ps_if (pt_cmpR (op_eqA hr.units) (pv 0) pe_str (nomark _)) (pss_one (ps_ret (pe_op op_and (pe_op op_sub (pv 1) (pv 2)) (pe_op op_sub (pe_gv T.g_WORDS (by rfl)) pe_int)))) pss_nil) (pss_cons (ps_if (pt_cmpR (op_eqA hr.units) (pv 0) pe_str (nomark _)) (pss_one (ps_ret (pe_op op_and (pe_op op_mulA (pv 1) (pv 2)) (pe_op op_sub (pe_gv T.g_WORDS (by rfl)) pe_int)))) pss_nil) (pss_cons (ps_if (pt_cmpR (op_eqA hr.units) (pv 0) pe_str (nomark _)) (pss_one (ps_ret (pe_ifExp (PW.pt (pw_and (pt_cmpR (op_neA hr.units) (pv 1) pe_int (nomark _)) (pw_and1 (pt_cmpR (op_neA hr.units) (pv 2) pe_int (nomark _))))) pe_int pe_int))) pss_nil) (pss_cons (ps_if (pt_cmpR (op_eqA hr.units) (pv 0) pe_str (nomark _)) (pss_one (ps_ret (pe_ifExp (PW.pt (pw_or (pt_cmpR (op_neA hr.units) (pv 1) pe_int (nomark _)) (pw_or1 (pt_cmpR (op_neA hr.units) (pv 2) pe_int (nomark _))))) pe_int pe_int))) pss_nil) (pss_cons (ps_if (pt_cmpR (op_eqA hr.units) (pv 0) pe_str (nomark _)) (pss_one (ps_ret (pe_ifExp (pt_cmpR (op_eqA hr.units) (pv 1) (pv 2) (nomark _)) pe_int pe_int))) pss_nil) (pss_cons (ps_if (pt_cmpR (op_eqA hr.units) (pv 0) pe_str (nomark _)) (pss_one (ps_ret (pe_ifExp (pt_cmpR (op_neA hr.units) (pv 1) (pv 2) (nomark _)) pe_int pe_int))) pss_nil) (pss_cons (ps_if (pt_cmpR (op_eqA hr.units) (pv 0) pe_str (nomark _)) (pss_one (ps_ret (pe_ifExp (pt_cmpR op_lt (pv 1) (pv 2) (nomark _)) pe_int pe_int))) pss_nil) (pss_one (ps_ret (pe_ifExp (pt_cmpR op_le (pv 1) (pv 2) (nomark _)) pe_int pe_int))))))))))))
abbrev s_place : Stmt := top 4
theorem sc_place : FnScope ["target", "cells", "_", "first", "size", "e", "index"] ["target", "cells"] (defScope s_place) := ⟨rfl, rfl, rfl, by decide +kernel, rfl, by decide +kernel, by decide +kernel⟩
abbrev s_value : Stmt := top 5
theorem sc_value : FnScope ["e", "cells", "cell", "a", "b"] ["e", "cells"] (defScope s_value) := ⟨rfl, rfl, rfl, by decide +kernel, rfl, by decide +kernel, by decide +kernel⟩
set_option maxHeartbeats 4000000 in
theorem ok_value {A : Ad} (T : Tx K mg A) (n : Nat) {f : Addr} {fd : FuncData} (F : FunD K "value" "value" (defArgs s_value) (defBody s_value) (defScope s_value) [] [] f fd)
    (c_place : Cal P w K mg base "place" (1) ["target", "cells"] spF)
    (c_value : Cal P w K mg base "value" (n + 1) ["e", "cells"] (sp_valP n))
    (c_calculate : Cal P w K mg base "calculate" (1) ["operator", "a", "b"] sp_calc) : FnOk P w K mg base CX0 (n + 2) f fd ["e", "cells"] (sp_val n) := by
  obtain rfl := T.k
  refine F.ok sc_value (fun vs H Q E h => len_value A n h) (fun cdv Ar outer s H vs Q E hr h => ⟨t_value A n, PSs.nox ?_, pure_value A n vs H Q E h⟩)
  exact (pss_cons (ps_if (pt_cmpR (op_eqA hr.units) (pe_ix ix_A (pv 0) pe_int (fun _ _ => rfl)) pe_str (nomark _)) (pss_one (ps_ret (pe_ix ix_A (pv 0) pe_int (fun _ _ => rfl)))) pss_nil) (pss_cons (ps_if (pt_cmpR op_in_seq (pe_ix ix_A (pv 0) pe_int (fun _ _ => rfl)) (pe_tup (pa_cons pe_str (pa_cons pe_str pa_nil))) (by rfl)) (pss_cons (ps_set (i := 2) sc_value.nd rfl (Or.inl rfl) (pe_cal c_place (hr.mono (by omega)) (by rfl) (pa_cons (pv 0) (pa_cons (pv 1) pa_nil)))) (pss_one (ps_ret (pe_ifExp (pt_cmpR op_isNA (pv 2) pe_non (nomark _)) pe_non (pe_ix ix_A (pv 1) (pv 2) (fun _ _ => rfl)))))) pss_nil) (pss_cons (ps_set (i := 3) sc_value.nd rfl (Or.inl rfl) (pe_cal c_value (hr.mono (by omega)) (by rfl) (pa_cons (pe_ix ix_A (pv 0) pe_int (fun _ _ => rfl)) (pa_cons (pv 1) pa_nil)))) (pss_cons (ps_if (pt_cmpR (op_eqA hr.units) (pe_ix ix_A (pv 0) pe_int (fun _ _ => rfl)) pe_str (nomark _)) (pss_one (ps_ret (pe_ifExp (pt_cmpR op_isNA (pv 3) pe_non (nomark _)) pe_non (pe_op op_and (pe_op op_sub pe_int (pv 3)) (pe_op op_sub (pe_gv T.g_WORDS (by rfl)) pe_int))))) pss_nil) (pss_cons (ps_if (pt_cmpR (op_eqA hr.units) (pe_ix ix_A (pv 0) pe_int (fun _ _ => rfl)) pe_str (nomark _)) (pss_one (ps_ret (pe_ifExp (pt_cmpR op_isNA (pv 3) pe_non (nomark _)) pe_non (pe_ifExp (pt_cmpR (op_eqA hr.units) (pv 3) pe_int (nomark _)) pe_int pe_int)))) pss_nil) (pss_cons (ps_set (i := 4) sc_value.nd rfl (Or.inl rfl) (pe_cal c_value (hr.mono (by omega)) (by rfl) (pa_cons (pe_ix ix_A (pv 0) pe_int (fun _ _ => rfl)) (pa_cons (pv 1) pa_nil)))) (pss_one (ps_ret (pe_ifExp (PW.pt (pw_or (pt_cmpR op_isNA (pv 3) pe_non (nomark _)) (pw_or1 (pt_cmpR op_isNA (pv 4) pe_non (nomark _))))) pe_non (pe_cal c_calculate (hr.mono (by omega)) (by rfl) (pa_cons (pe_ix ix_A (pv 0) pe_int (fun _ _ => rfl)) (pa_cons (pv 3) (pa_cons (pv 4) pa_nil)))))))))))))
abbrev s_Workspace_init : Stmt := inClass (top 7) 0
theorem sc_Workspace_init : FnScope ["self", "number", "thread", "values", "places"] ["self", "number", "thread", "values"] (defScope s_Workspace_init) := ⟨rfl, rfl, rfl, by decide +kernel, rfl, by decide +kernel, by decide +kernel⟩
set_option maxHeartbeats 4000000 in
theorem ok_Workspace_init {A : Ad} (T : Tx K mg A) {f : Addr} {fd : FuncData} (F : FunD K "__init__" "Workspace.__init__" (defArgs s_Workspace_init) (defBody s_Workspace_init) (defScope s_Workspace_init) [] [] f fd) : FnOk P w K mg base CX0 (1) f fd ["self", "number", "thread", "values"] (sp_Workspace_init A) := by
  obtain rfl := T.k
  refine F.ok sc_Workspace_init (fun vs H Q E h => len_Workspace_init A h) (fun cdv Ar outer s H vs Q E hr h => ⟨t_Workspace_init A, PSs.nox ?_, pure_Workspace_init A vs H Q E h⟩)
  exact (pss_cons (ps_fld (pv 0) (pv 1) rfl) (pss_cons (ps_asg (pv 2) (pg_tup rfl (pgs_cons (pg_fld (pv 0)) (pgs_cons (pg_name (i := 4) sc_Workspace_init.nd rfl (Or.inl rfl)) (pgs_cons (pg_fld (pv 0)) (pgs_cons (pg_fld (pv 0)) (pgs_cons (pg_fld (pv 0)) pgs_nil))))))) (pss_cons (ps_fld (pv 0) (pe_op op_addA (pe_callTy call_listA (by rfl) T.b_list (by decide +kernel) (pa_cons (pv 3) pa_nil)) (pe_op op_mulA (pe_lst (pa_cons pe_int pa_nil)) (pe_op op_sub (pv 4) (pe_callB call_lenA (by rfl) T.b_len (by decide +kernel) (pa_cons (pv 3) pa_nil))))) rfl) (pss_cons (ps_fld (pv 0) (pe_lst pa_nil) rfl) (pss_cons (ps_fld (pv 0) pe_int rfl) (pss_cons (ps_fld (pv 0) pe_str rfl) (pss_cons (ps_fld (pv 0) pe_int rfl) (pss_cons (ps_fld (pv 0) (pe_lst pa_nil) rfl) (pss_cons (ps_fld (pv 0) (pe_lst pa_nil) rfl) (pss_cons (ps_fld (pv 0) pe_non rfl) (pss_cons (ps_fld (pv 0) pe_int rfl) (pss_one (ps_fld (pv 0) pe_non rfl)))))))))))))
abbrev s_Workspace_cell : Stmt := inClass (top 7) 1
theorem sc_Workspace_cell : FnScope ["self", "number"] ["self", "number"] (defScope s_Workspace_cell) := ⟨rfl, rfl, rfl, by decide +kernel, rfl, by decide +kernel, by decide +kernel⟩
set_option maxHeartbeats 4000000 in
theorem ok_Workspace_cell {A : Ad} (T : Tx K mg A) {f : Addr} {fd : FuncData} (F : FunD K "cell" "Workspace.cell" (defArgs s_Workspace_cell) (defBody s_Workspace_cell) (defScope s_Workspace_cell) [] [] f fd) : FnOk P w K mg base CX0 (1) f fd ["self", "number"] (sp_Workspace_cell A) := by
  obtain rfl := T.k
  refine F.ok sc_Workspace_cell (fun vs H Q E h => len_Workspace_cell A h) (fun cdv Ar outer s H vs Q E hr h => ⟨t_Workspace_cell A, PSs.nox ?_, pure_Workspace_cell A vs H Q E h⟩)
  exact (pss_one (ps_ret (pe_ix ix_A (pe_fld (pv 0) rfl) (pe_bm PySem.F.plainAttrs_list PySem.F.slot_list_index PySem.F.type_list_index mt_index (pe_fld (pv 0) rfl) (pa_cons (pv 1) pa_nil)) (fun _ _ => rfl))))
abbrev s_Workspace_store : Stmt := inClass (top 7) 2
theorem sc_Workspace_store : FnScope ["self", "number", "word"] ["self", "number", "word"] (defScope s_Workspace_store) := ⟨rfl, rfl, rfl, by decide +kernel, rfl, by decide +kernel, by decide +kernel⟩
set_option maxHeartbeats 4000000 in
theorem ok_Workspace_store {A : Ad} (T : Tx K mg A) {f : Addr} {fd : FuncData} (F : FunD K "store" "Workspace.store" (defArgs s_Workspace_store) (defBody s_Workspace_store) (defScope s_Workspace_store) [] [] f fd) : FnOk P w K mg base CX0 (1) f fd ["self", "number", "word"] (sp_Workspace_store A) := by
  obtain rfl := T.k
  refine F.ok sc_Workspace_store (fun vs H Q E h => len_Workspace_store A h) (fun cdv Ar outer s H vs Q E hr h => ⟨t_Workspace_store A, PSs.nox ?_, pure_Workspace_store A vs H Q E h⟩)
  exact (pss_one (ps_asg (pv 2) (pg_sub (pe_fld (pv 0) rfl) (pe_bm PySem.F.plainAttrs_list PySem.F.slot_list_index PySem.F.type_list_index mt_index (pe_fld (pv 0) rfl) (pa_cons (pv 1) pa_nil)) set_A)))
abbrev s_Workspace_push : Stmt := inClass (top 7) 3
theorem sc_Workspace_push : FnScope ["self", "word"] ["self", "word"] (defScope s_Workspace_push) := ⟨rfl, rfl, rfl, by decide +kernel, rfl, by decide +kernel, by decide +kernel⟩
set_option maxHeartbeats 4000000 in
theorem ok_Workspace_push {A : Ad} (T : Tx K mg A) {f : Addr} {fd : FuncData} (F : FunD K "push" "Workspace.push" (defArgs s_Workspace_push) (defBody s_Workspace_push) (defScope s_Workspace_push) [] [] f fd) : FnOk P w K mg base CX0 (1) f fd ["self", "word"] (sp_Workspace_push A) := by
  obtain rfl := T.k
  refine F.ok sc_Workspace_push (fun vs H Q E h => len_Workspace_push A h) (fun cdv Ar outer s H vs Q E hr h => ⟨t_Workspace_push A, PSs.nox ?_, pure_Workspace_push A vs H Q E h⟩)
  exact (pss_one (ps_if (pt_cmpR op_isNA (pv 1) pe_non (nomark _)) (pss_one (ps_fld (pv 0) pe_str rfl)) (pss_one (ps_expr (pe_bml PySem.F.slot_list_append PySem.F.type_list_append mt_appA (pe_fld (pv 0) rfl) (pa_cons (pv 1) pa_nil))))))
abbrev s_Workspace_advance : Stmt := inClass (top 7) 4
theorem sc_Workspace_advance : FnScope ["self"] ["self"] (defScope s_Workspace_advance) := ⟨rfl, rfl, rfl, by decide +kernel, rfl, by decide +kernel, by decide +kernel⟩
abbrev s_Workspace_step : Stmt := inClass (top 7) 5
theorem sc_Workspace_step : FnScope ["self", "instruction", "kind", "right"] ["self", "instruction"] (defScope s_Workspace_step) := ⟨rfl, rfl, rfl, by decide +kernel, rfl, by decide +kernel, by decide +kernel⟩
set_option maxHeartbeats 4000000 in
theorem ok_Workspace_step {A : Ad} (T : Tx K mg A) {f : Addr} {fd : FuncData} (F : FunD K "step" "Workspace.step" (defArgs s_Workspace_step) (defBody s_Workspace_step) (defScope s_Workspace_step) [] [] f fd)
    (c_Workspace_simple : CalM P w K mg base A.c_Workspace "simple" (1) ["self", "kind", "operand"] (sp_Workspace_simple A))
    (c_Workspace_indexed : CalM P w K mg base A.c_Workspace "indexed" (1) ["self", "instruction"] (sp_Workspace_indexed A))
    (c_Workspace_push : CalM P w K mg base A.c_Workspace "push" (1) ["self", "word"] (sp_Workspace_push A))
    (c_value : Cal P w K mg base "value" (3) ["e", "cells"] (sp_val 1)) : FnOk P w K mg base CX0 (5) f fd ["self", "instruction"] (sp_Workspace_step A) := by
  obtain rfl := T.k
  refine F.ok sc_Workspace_step (fun vs H Q E h => len_Workspace_step A h) (fun cdv Ar outer s H vs Q E hr h => ⟨t_Workspace_step A, PSs.nox ?_, pure_Workspace_step A vs H Q E h⟩)
  exact (pss_cons (ps_set (i := 2) sc_Workspace_step.nd rfl (Or.inl rfl) (pe_ix ix_A (pv 1) pe_int (fun _ _ => rfl))) (pss_cons (ps_if (pt_cmpR op_in_seq (pv 2) (pe_tup (pa_cons pe_str (pa_cons pe_str (pa_cons pe_str (pa_cons pe_str (pa_cons pe_str pa_nil)))))) (by rfl)) (pss_one (ps_expr (pe_calM (pv 0) c_Workspace_simple (hr.mono (by omega)) (pa_cons (pv 2) (pa_cons (pe_ix ix_A (pv 1) pe_int (fun _ _ => rfl)) pa_nil))))) (pss_one (ps_if (pt_cmpR op_in_seq (pv 2) (pe_tup (pa_cons pe_str (pa_cons pe_str (pa_cons pe_str pa_nil)))) (by rfl)) (pss_one (ps_expr (pe_calM (pv 0) c_Workspace_indexed (hr.mono (by omega)) (pa_cons (pv 1) pa_nil)))) (pss_one (ps_if (pt_cmpR op_in_seq (pv 2) (pe_tup (pa_cons pe_str (pa_cons pe_str pa_nil))) (by rfl)) (pss_one (ps_expr (pe_calM (pv 0) c_Workspace_push (hr.mono (by omega)) (pa_cons (pe_cal c_value (hr.mono (by omega)) (by rfl) (pa_cons (pe_tup (pa_cons (pv 2) (pa_cons (pe_tup (pa_cons pe_str (pa_cons (pe_bml0 PySem.F.slot_list_pop PySem.F.type_list_pop mt_popL (pe_fld (pv 0) rfl)) pa_nil))) pa_nil))) (pa_cons (pe_lst pa_nil) pa_nil))) pa_nil)))) (pss_one (ps_if (pt_cmpR (op_eqA hr.units) (pv 2) pe_str (nomark _)) (pss_cons (ps_set (i := 3) sc_Workspace_step.nd rfl (Or.inl rfl) (pe_bml0 PySem.F.slot_list_pop PySem.F.type_list_pop mt_popL (pe_fld (pv 0) rfl))) (pss_one (ps_expr (pe_calM (pv 0) c_Workspace_push (hr.mono (by omega)) (pa_cons (pe_cal c_value (hr.mono (by omega)) (by rfl) (pa_cons (pe_tup (pa_cons (pe_ix ix_A (pv 1) pe_int (fun _ _ => rfl)) (pa_cons (pe_tup (pa_cons pe_str (pa_cons (pe_bml0 PySem.F.slot_list_pop PySem.F.type_list_pop mt_popL (pe_fld (pv 0) rfl)) pa_nil))) (pa_cons (pe_tup (pa_cons pe_str (pa_cons (pv 3) pa_nil))) pa_nil)))) (pa_cons (pe_lst pa_nil) pa_nil))) pa_nil))))) (pss_one (ps_if (pt_cmpR (op_eqA hr.units) (pv 2) pe_str (nomark _)) (pss_one (ps_fld (pv 0) pe_str rfl)) (pss_one (ps_ret pe_bl))))))))))) (pss_one (ps_ret pe_bl))))
abbrev s_Workspace_simple : Stmt := inClass (top 7) 6
theorem sc_Workspace_simple : FnScope ["self", "kind", "operand"] ["self", "kind", "operand"] (defScope s_Workspace_simple) := ⟨rfl, rfl, rfl, by decide +kernel, rfl, by decide +kernel, by decide +kernel⟩
set_option maxHeartbeats 4000000 in
theorem ok_Workspace_simple {A : Ad} (T : Tx K mg A) {f : Addr} {fd : FuncData} (F : FunD K "simple" "Workspace.simple" (defArgs s_Workspace_simple) (defBody s_Workspace_simple) (defScope s_Workspace_simple) [] [] f fd) : FnOk P w K mg base CX0 (1) f fd ["self", "kind", "operand"] (sp_Workspace_simple A) := by
  obtain rfl := T.k
  refine F.ok sc_Workspace_simple (fun vs H Q E h => len_Workspace_simple A h) (fun cdv Ar outer s H vs Q E hr h => ⟨t_Workspace_simple A, PSs.nox ?_, pure_Workspace_simple A vs H Q E h⟩)
  exact (pss_one (ps_if (pt_cmpR (op_eqA hr.units) (pv 1) pe_str (nomark _)) (pss_one (ps_expr (pe_bml PySem.F.slot_list_append PySem.F.type_list_append mt_appA (pe_fld (pv 0) rfl) (pa_cons (pv 2) pa_nil)))) (pss_one (ps_if (pt_cmpR (op_eqA hr.units) (pv 1) pe_str (nomark _)) (pss_one (ps_expr (pe_bml PySem.F.slot_list_append PySem.F.type_list_append mt_appA (pe_fld (pv 0) rfl) (pa_cons (pe_ix ix_A (pe_fld (pv 0) rfl) (pv 2) (fun _ _ => rfl)) pa_nil)))) (pss_one (ps_if (pt_cmpR (op_eqA hr.units) (pv 1) pe_str (nomark _)) (pss_one (ps_asg (pe_bml0 PySem.F.slot_list_pop PySem.F.type_list_pop mt_popL (pe_fld (pv 0) rfl)) (pg_sub (pe_fld (pv 0) rfl) (pv 2) set_A))) (pss_one (ps_if (pt_cmpR (op_eqA hr.units) (pv 1) pe_str (nomark _)) (pss_one (ps_fld (pv 0) (pv 2) rfl)) (pss_one (ps_if (pt_cmpR (op_eqA hr.units) (pe_bml0 PySem.F.slot_list_pop PySem.F.type_list_pop mt_popL (pe_fld (pv 0) rfl)) pe_int (nomark _)) (pss_one (ps_fld (pv 0) (pv 2) rfl)) pss_nil))))))))))
abbrev s_Workspace_indexed : Stmt := inClass (top 7) 7
theorem sc_Workspace_indexed : FnScope ["self", "instruction", "kind", "size", "index"] ["self", "instruction"] (defScope s_Workspace_indexed) := ⟨rfl, rfl, rfl, by decide +kernel, rfl, by decide +kernel, by decide +kernel⟩
set_option maxHeartbeats 4000000 in
theorem ok_Workspace_indexed {A : Ad} (T : Tx K mg A) {f : Addr} {fd : FuncData} (F : FunD K "indexed" "Workspace.indexed" (defArgs s_Workspace_indexed) (defBody s_Workspace_indexed) (defScope s_Workspace_indexed) [] [] f fd) : FnOk P w K mg base CX0 (1) f fd ["self", "instruction"] (sp_Workspace_indexed A) := by
  obtain rfl := T.k
  refine F.ok sc_Workspace_indexed (fun vs H Q E h => len_Workspace_indexed A h) (fun cdv Ar outer s H vs Q E hr h => ⟨t_Workspace_indexed A, PSs.nox ?_, pure_Workspace_indexed A vs H Q E h⟩)
  exact (pss_cons (ps_set (i := 2) sc_Workspace_indexed.nd rfl (Or.inl rfl) (pe_ix ix_A (pv 1) pe_int (fun _ _ => rfl))) (pss_cons (ps_set (i := 3) sc_Workspace_indexed.nd rfl (Or.inl rfl) (pe_ix ix_A (pv 1) (pe_un un_neg pe_int) (fun _ _ => rfl))) (pss_cons (ps_set (i := 4) sc_Workspace_indexed.nd rfl (Or.inl rfl) (pe_ix ix_A (pe_fld (pv 0) rfl) (pe_un un_neg pe_int) (fun _ _ => rfl))) (pss_one (ps_if (pt_cmpR op_ge (pv 4) (pv 3) (nomark _)) (pss_one (ps_fld (pv 0) pe_str rfl)) (pss_one (ps_if (pt_cmpR (op_eqA hr.units) (pv 2) pe_str (nomark _)) (pss_one (ps_asg (pe_ix ix_A (pe_fld (pv 0) rfl) (pe_op op_addA (pe_ix ix_A (pv 1) pe_int (fun _ _ => rfl)) (pv 4)) (fun _ _ => rfl)) (pg_sub (pe_fld (pv 0) rfl) (pe_un un_neg pe_int) set_A))) (pss_one (ps_if (pt_cmpR (op_eqA hr.units) (pv 2) pe_str (nomark _)) (pss_cons (ps_expr (pe_bml0 PySem.F.slot_list_pop PySem.F.type_list_pop mt_popL (pe_fld (pv 0) rfl))) (pss_one (ps_asg (pe_bml0 PySem.F.slot_list_pop PySem.F.type_list_pop mt_popL (pe_fld (pv 0) rfl)) (pg_sub (pe_fld (pv 0) rfl) (pe_op op_addA (pe_ix ix_A (pv 1) pe_int (fun _ _ => rfl)) (pv 4)) set_A)))) pss_nil)))))))))
abbrev s_l_state : Stmt := top 9
theorem sc_l_state : FnScope ["_law_script", "_law_seed", "_law_cell"] ["_law_script"] (defScope s_l_state) := ⟨rfl, rfl, rfl, by decide +kernel, rfl, by decide +kernel, by decide +kernel⟩
set_option maxHeartbeats 4000000 in
theorem ok_l_state {A : Ad} (T : Tx K mg A) {f : Addr} {fd : FuncData} (F : FunD K "_law_state" "_law_state" (defArgs s_l_state) (defBody s_l_state) (defScope s_l_state) [] [] f fd) : FnOk P w K mg base CX0 (1) f fd ["_law_script"] (spState A.K) := by
  obtain rfl := T.k
  refine F.ok sc_l_state (fun vs H Q E h => len_state h) (fun cdv Ar outer s H vs Q E hr h => ⟨t_state A.K, PSs.nox ?_, pure_state A.K vs H Q E h rfl⟩)
  exact (pss_cons (ps_set (i := 1) sc_l_state.nd rfl (Or.inl rfl) pe_int) (pss_cons (ps_for PassesOwn.never rfl (pi_list (pv 0)) (pg_name (i := 2) sc_l_state.nd rfl (Or.inl rfl)) (pss_one (ps_set (i := 1) sc_l_state.nd rfl (Or.inl rfl) (pe_op op_mod (pe_callTy call_intA (by rfl) T.b_int (by decide +kernel) (pa_cons (pe_op op_addA (pe_op op_mulA (pv 1) pe_int) (pv 2)) pa_nil)) pe_int)))) (pss_one (ps_ret (pe_lst (pa_cons (pe_lc (own := [("_law_cell", 2)]) rfl sc_l_state.nd (pi_list (pv 0)) (blkOk_by (own := [("_law_cell", 2)]) (N := ["_law_script", "_law_seed", "_law_cell"]) (sc := defScope s_l_state) (by decide +kernel)) (fun _ _ _ _ _ => (pg_name (i := 2) sc_l_state.nd rfl (Or.inl rfl))) (fun _ _ _ _ _ => pts_nil) (fun _ _ _ _ _ => (pe_callB call_absA (by rfl) T.b_abs (by decide +kernel) (pa_cons (pv 2) pa_nil)))) (pa_cons (pe_op op_addA (pv 1) pe_int) pa_nil)))))))
abbrev s_l_draw : Stmt := top 10
theorem sc_l_draw : FnScope ["_law_state_here", "_law_many", "_law_cells", "_law_number", "_law_mixed"] ["_law_state_here", "_law_many"] (defScope s_l_draw) := ⟨rfl, rfl, rfl, by decide +kernel, rfl, by decide +kernel, by decide +kernel⟩
set_option maxHeartbeats 4000000 in
theorem ok_l_draw {A : Ad} (T : Tx K mg A) {f : Addr} {fd : FuncData} (F : FunD K "_law_draw" "_law_draw" (defArgs s_l_draw) (defBody s_l_draw) (defScope s_l_draw) [] [] f fd) : FnOk P w K mg base CX0 (1) f fd ["_law_state_here", "_law_many"] spDraw := by
  obtain rfl := T.k
  refine F.ok sc_l_draw (fun vs H Q E h => len_draw h) (fun cdv Ar outer s H vs Q E hr h => ⟨t_draw A.K, PSs.nox ?_, pure_draw A.K vs H Q E h rfl⟩)
  exact (pss_cons (ps_set (i := 2) sc_l_draw.nd rfl (Or.inl rfl) (pe_ix ix_A (pv 0) pe_int (fun _ _ => rfl))) (pss_cons (ps_while PassesOwn.never (PW.pt (pw_and (pt_cmpR op_gt (pe_callB call_lenA (by rfl) T.b_len (by decide +kernel) (pa_cons (pv 2) pa_nil)) pe_int (nomark _)) (pw_and1 (pt_cmpR (op_eqA hr.units) (pe_ix ix_A (pv 2) pe_int (fun _ _ => rfl)) pe_int (nomark _))))) (pss_one (ps_expr (pe_bml PySem.F.slot_list_pop PySem.F.type_list_pop mt_popI (pv 2) (pa_cons pe_int pa_nil))))) (pss_cons (ps_if (pt_cmpR op_gt (pe_callB call_lenA (by rfl) T.b_len (by decide +kernel) (pa_cons (pv 2) pa_nil)) pe_int (nomark _)) (pss_cons (ps_set (i := 3) sc_l_draw.nd rfl (Or.inl rfl) (pe_ix ix_A (pv 2) pe_int (fun _ _ => rfl))) (pss_cons (ps_asg (pe_op op_fdiv (pv 3) (pv 1)) (pg_sub (pv 2) pe_int set_A)) (pss_one (ps_ret (pe_op op_mod (pe_callTy call_intA (by rfl) T.b_int (by decide +kernel) (pa_cons (pv 3) pa_nil)) (pv 1)))))) pss_nil) (pss_cons (ps_set (i := 4) sc_l_draw.nd rfl (Or.inl rfl) (pe_op op_mod (pe_callTy call_intA (by rfl) T.b_int (by decide +kernel) (pa_cons (pe_op op_addA (pe_op op_mulA (pe_ix ix_A (pv 0) pe_int (fun _ _ => rfl)) pe_int) pe_int) pa_nil)) pe_int)) (pss_cons (ps_asg (pv 4) (pg_sub (pv 0) pe_int set_A)) (pss_one (ps_ret (pe_op op_mod (pe_callTy call_intA (by rfl) T.b_int (by decide +kernel) (pa_cons (pe_op op_fdiv (pv 4) pe_int) pa_nil)) (pv 1)))))))))
abbrev s_l_pick : Stmt := top 11
theorem sc_l_pick : FnScope ["_law_state_here", "_law_row"] ["_law_state_here", "_law_row"] (defScope s_l_pick) := ⟨rfl, rfl, rfl, by decide +kernel, rfl, by decide +kernel, by decide +kernel⟩
set_option maxHeartbeats 4000000 in
theorem ok_l_pick {A : Ad} (T : Tx K mg A) {f : Addr} {fd : FuncData} (F : FunD K "_law_pick" "_law_pick" (defArgs s_l_pick) (defBody s_l_pick) (defScope s_l_pick) [] [] f fd)
    (c_l_draw : Cal P w K mg base "_law_draw" (1) ["_law_state_here", "_law_many"] spDraw) : FnOk P w K mg base CX0 (2) f fd ["_law_state_here", "_law_row"] spPick := by
  obtain rfl := T.k
  refine F.ok sc_l_pick (fun vs H Q E h => len_pick h) (fun cdv Ar outer s H vs Q E hr h => ⟨t_pick, PSs.nox ?_, pure_pick vs H Q E h rfl⟩)
  exact (pss_one (ps_ret (pe_ix ix_A (pv 1) (pe_cal c_l_draw (hr.mono (by omega)) (by rfl) (pa_cons (pv 0) (pa_cons (pe_callB call_lenA (by rfl) T.b_len (by decide +kernel) (pa_cons (pv 1) pa_nil)) pa_nil))) (fun _ _ => rfl))))
abbrev s_l_two : Stmt := top 12
theorem sc_l_two : FnScope ["_law_operator", "_law_a", "_law_b", "_law_rows"] ["_law_operator", "_law_a", "_law_b"] (defScope s_l_two) := ⟨rfl, rfl, rfl, by decide +kernel, rfl, by decide +kernel, by decide +kernel⟩
set_option maxHeartbeats 4000000 in
theorem ok_l_two {A : Ad} (T : Tx K mg A) {f : Addr} {fd : FuncData} (F : FunD K "_law_two" "_law_two" (defArgs s_l_two) (defBody s_l_two) (defScope s_l_two) [] [] f fd) : FnOk P w K mg base CX0 (1) f fd ["_law_operator", "_law_a", "_law_b"] sp_calc := by
  obtain rfl := T.k
  refine F.ok sc_l_two (fun vs H Q E h => len_l_two A h) (fun cdv Ar outer s H vs Q E hr h => ⟨t_l_two A, PSs.nox ?_, pure_l_two A vs H Q E h⟩)
  exact (pss_cons (ps_if (pt_cmpR op_in_seq (pv 0) (pe_tup (pa_cons pe_str (pa_cons pe_str pa_nil))) (by rfl)) (pss_cons (ps_if (pt_cmpR (op_eqA hr.units) (pv 2) pe_int (nomark _)) (pss_one (ps_ret pe_non)) pss_nil) (pss_one (ps_ret (pe_ifExp (pt_cmpR (op_eqA hr.units) (pv 0) pe_str (nomark _)) (pe_op op_fdiv (pv 1) (pv 2)) (pe_op op_mod (pe_callTy call_intA (by rfl) T.b_int (by decide +kernel) (pa_cons (pv 1) pa_nil)) (pv 2)))))) pss_nil) (pss_cons (ps_set (i := 3) sc_l_two.nd rfl (Or.inl rfl) (pe_disp (pps_cons pe_str (pe_op op_addA (pv 1) (pv 2)) (pps_cons pe_str (pe_op op_sub (pv 1) (pv 2)) (pps_cons pe_str (pe_op op_mulA (pv 1) (pv 2)) (pps_cons pe_str (pe_callTy call_intA (by rfl) T.b_int (by decide +kernel) (pa_cons (pe_and (pe_cmpR op_gt (pv 1) pe_int (nomark _)) (pe_one (pe_cmpR op_gt (pv 2) pe_int (nomark _)))) pa_nil)) (pps_cons pe_str (pe_callTy call_intA (by rfl) T.b_int (by decide +kernel) (pa_cons (pe_or (pe_cmpR op_gt (pv 1) pe_int (nomark _)) (pe_one (pe_cmpR op_gt (pv 2) pe_int (nomark _)))) pa_nil)) (pps_cons pe_str (pe_callTy call_intA (by rfl) T.b_int (by decide +kernel) (pa_cons (pe_cmpR (op_eqA hr.units) (pv 1) (pv 2) (nomark _)) pa_nil)) pps_nil)))))) (by rfl) (by rfl) (fun z => by cases z) (by decide))) (pss_cons (ps_dput (hu_of hr) (pv 3) pe_str (pe_callTy call_intA (by rfl) T.b_int (by decide +kernel) (pa_cons (pe_cmpR (op_neA hr.units) (pv 1) (pv 2) (nomark _)) pa_nil)) rfl) (pss_cons (ps_dput (hu_of hr) (pv 3) pe_str (pe_callTy call_intA (by rfl) T.b_int (by decide +kernel) (pa_cons (pe_cmpR op_lt (pv 1) (pv 2) (nomark _)) pa_nil)) rfl) (pss_cons (ps_dput (hu_of hr) (pv 3) pe_str (pe_callTy call_intA (by rfl) T.b_int (by decide +kernel) (pa_cons (pe_cmpR op_le (pv 1) (pv 2) (nomark _)) pa_nil)) rfl) (pss_one (ps_ret (pe_op op_mod (pe_callTy call_intA (by rfl) T.b_int (by decide +kernel) (pa_cons (pe_dget (hu_of hr) (pv 3) (pv 0) (fun _ _ => rfl)) pa_nil)) pe_int))))))))
abbrev s_l_word : Stmt := top 13
theorem sc_l_word : FnScope ["_law_state_here"] ["_law_state_here"] (defScope s_l_word) := ⟨rfl, rfl, rfl, by decide +kernel, rfl, by decide +kernel, by decide +kernel⟩
set_option maxHeartbeats 4000000 in
theorem ok_l_word {A : Ad} (T : Tx K mg A) {f : Addr} {fd : FuncData} (F : FunD K "_law_word" "_law_word" (defArgs s_l_word) (defBody s_l_word) (defScope s_l_word) [] [] f fd)
    (c_l_pick : Cal P w K mg base "_law_pick" (2) ["_law_state_here", "_law_row"] spPick)
    (c_l_draw : Cal P w K mg base "_law_draw" (1) ["_law_state_here", "_law_many"] spDraw) : FnOk P w K mg base CX0 (3) f fd ["_law_state_here"] sp_l_word := by
  obtain rfl := T.k
  refine F.ok sc_l_word (fun vs H Q E h => len_l_word A h) (fun cdv Ar outer s H vs Q E hr h => ⟨t_l_word A, PSs.nox ?_, pure_l_word A vs H Q E h⟩)
  exact (pss_one (ps_ret (pe_cal c_l_pick (hr.mono (by omega)) (by rfl) (pa_cons (pv 0) (pa_cons (pe_lst (pa_cons pe_int (pa_cons pe_int (pa_cons pe_int (pa_cons pe_int (pa_cons (pe_cal c_l_draw (hr.mono (by omega)) (by rfl) (pa_cons (pv 0) (pa_cons pe_int pa_nil))) (pa_cons (pe_cal c_l_draw (hr.mono (by omega)) (by rfl) (pa_cons (pv 0) (pa_cons pe_int pa_nil))) pa_nil))))))) pa_nil)))))
abbrev s_l_instruction : Stmt := top 14
theorem sc_l_instruction : FnScope ["_law_state_here", "_law_many", "_law_k", "_law_size", "_law_operators", "_law_menu", "_law_at"] ["_law_state_here", "_law_many"] (defScope s_l_instruction) := ⟨rfl, rfl, rfl, by decide +kernel, rfl, by decide +kernel, by decide +kernel⟩
set_option maxHeartbeats 4000000 in
theorem ok_l_instruction {A : Ad} (T : Tx K mg A) {f : Addr} {fd : FuncData} (F : FunD K "_law_instruction" "_law_instruction" (defArgs s_l_instruction) (defBody s_l_instruction) (defScope s_l_instruction) [] [] f fd)
    (c_l_draw : Cal P w K mg base "_law_draw" (1) ["_law_state_here", "_law_many"] spDraw)
    (c_l_word : Cal P w K mg base "_law_word" (3) ["_law_state_here"] sp_l_word)
    (c_l_pick : Cal P w K mg base "_law_pick" (2) ["_law_state_here", "_law_row"] spPick) : FnOk P w K mg base CX0 (4) f fd ["_law_state_here", "_law_many"] sp_l_instr := by
  obtain rfl := T.k
  refine F.ok sc_l_instruction (fun vs H Q E h => len_l_instruction A h) (fun cdv Ar outer s H vs Q E hr h => ⟨t_l_instruction A, PSs.nox ?_, pure_l_instruction A vs H Q E h⟩)
  exact (pss_cons (ps_set (i := 2) sc_l_instruction.nd rfl (Or.inl rfl) (pe_cal c_l_draw (hr.mono (by omega)) (by rfl) (pa_cons (pv 0) (pa_cons (pv 1) pa_nil)))) (pss_cons (ps_set (i := 3) sc_l_instruction.nd rfl (Or.inl rfl) (pe_op op_addA pe_int (pe_cal c_l_draw (hr.mono (by omega)) (by rfl) (pa_cons (pv 0) (pa_cons (pe_op op_sub (pv 1) (pv 2)) pa_nil))))) (pss_cons (ps_set (i := 4) sc_l_instruction.nd rfl (Or.inl rfl) (pe_lst (pa_cons pe_str (pa_cons pe_str (pa_cons pe_str (pa_cons pe_str (pa_cons pe_str (pa_cons pe_str (pa_cons pe_str (pa_cons pe_str (pa_cons pe_str (pa_cons pe_str (pa_cons pe_str pa_nil))))))))))))) (pss_cons (ps_set (i := 5) sc_l_instruction.nd rfl (Or.inl rfl) (pe_lst (pa_cons (pe_tup (pa_cons pe_str (pa_cons (pe_cal c_l_word (hr.mono (by omega)) (by rfl) (pa_cons (pv 0) pa_nil)) pa_nil))) (pa_cons (pe_tup (pa_cons pe_str (pa_cons (pv 2) pa_nil))) (pa_cons (pe_tup (pa_cons pe_str (pa_cons (pv 2) pa_nil))) (pa_cons (pe_tup (pa_cons pe_str (pa_cons (pv 2) (pa_cons (pv 3) pa_nil)))) (pa_cons (pe_tup (pa_cons pe_str (pa_cons (pv 2) (pa_cons (pv 3) pa_nil)))) (pa_cons (pe_tup (pa_cons pe_str (pa_cons (pv 3) pa_nil))) pa_nil)))))))) (pss_cons (ps_set (i := 5) sc_l_instruction.nd rfl (Or.inl rfl) (pe_op op_addA (pv 5) (pe_lst (pa_cons (pe_tup (pa_cons pe_str pa_nil)) (pa_cons (pe_tup (pa_cons pe_str pa_nil)) (pa_cons (pe_tup (pa_cons pe_str (pa_cons (pe_cal c_l_pick (hr.mono (by omega)) (by rfl) (pa_cons (pv 0) (pa_cons (pv 4) pa_nil))) pa_nil))) (pa_cons (pe_tup (pa_cons pe_str (pa_cons pe_int pa_nil))) (pa_cons (pe_tup (pa_cons pe_str (pa_cons pe_int pa_nil))) (pa_cons (pe_tup (pa_cons pe_str pa_nil)) pa_nil))))))))) (pss_cons (ps_set (i := 5) sc_l_instruction.nd rfl (Or.inl rfl) (pe_op op_addA (pv 5) (pe_lst (pa_cons (pe_tup (pa_cons pe_str (pa_cons pe_int pa_nil))) (pa_cons (pe_tup (pa_cons pe_str (pa_cons pe_int pa_nil))) (pa_cons (pe_tup (pa_cons pe_str (pa_cons (pe_lst (pa_cons (pe_tup (pa_cons pe_int (pa_cons pe_int (pa_cons pe_int pa_nil)))) pa_nil)) pa_nil))) (pa_cons (pe_tup (pa_cons pe_str (pa_cons (pe_lst (pa_cons (pe_tup (pa_cons pe_int (pa_cons (pe_lst pa_nil) pa_nil))) pa_nil)) pa_nil))) (pa_cons (pe_tup (pa_cons pe_str pa_nil)) pa_nil)))))))) (pss_cons (ps_set (i := 6) sc_l_instruction.nd rfl (Or.inl rfl) (pe_cal c_l_draw (hr.mono (by omega)) (by rfl) (pa_cons (pv 0) (pa_cons pe_int pa_nil)))) (pss_one (ps_ret (pe_ifExp (pt_cmpR op_lt (pv 6) pe_int (nomark _)) (pe_ix ix_A (pv 5) (pv 6) (fun _ _ => rfl)) (pe_tup (pa_cons pe_str (pa_cons (pe_cal c_l_pick (hr.mono (by omega)) (by rfl) (pa_cons (pv 0) (pa_cons (pv 4) pa_nil))) pa_nil)))))))))))))
abbrev s_l_do : Stmt := top 15
theorem sc_l_do : FnScope ["_law_m", "_law_instruction_here", "_law_cells", "_law_stack", "_law_at", "_law_state_here", "_law_name", "_law_place", "_law_word_here"] ["_law_m", "_law_instruction_here"] (defScope s_l_do) := ⟨rfl, rfl, rfl, by decide +kernel, rfl, by decide +kernel, by decide +kernel⟩
set_option maxHeartbeats 4000000 in
theorem ok_l_do {A : Ad} (T : Tx K mg A) {f : Addr} {fd : FuncData} (F : FunD K "_law_do" "_law_do" (defArgs s_l_do) (defBody s_l_do) (defScope s_l_do) [] [] f fd)
    (c_l_two : Cal P w K mg base "_law_two" (1) ["_law_operator", "_law_a", "_law_b"] sp_calc) : FnOk P w K mg base CX0 (2) f fd ["_law_m", "_law_instruction_here"] (sp_l_do A) := by
  obtain rfl := T.k
  refine F.ok sc_l_do (fun vs H Q E h => len_l_do A h) (fun cdv Ar outer s H vs Q E hr h => ⟨t_l_do A, PSs.nox ?_, pure_l_do A vs H Q E h⟩)
  exact (pss_cons (ps_asg (pv 0) (pg_lst rfl (pgs_cons (pg_name (i := 2) sc_l_do.nd rfl (Or.inl rfl)) (pgs_cons (pg_name (i := 3) sc_l_do.nd rfl (Or.inl rfl)) (pgs_cons (pg_name (i := 4) sc_l_do.nd rfl (Or.inl rfl)) (pgs_cons (pg_name (i := 5) sc_l_do.nd rfl (Or.inl rfl)) pgs_nil)))))) (pss_cons (ps_set (i := 6) sc_l_do.nd rfl (Or.inl rfl) (pe_ix ix_A (pv 1) pe_int (fun _ _ => rfl))) (pss_cons (ps_if (pt_cmpR (op_eqA hr.units) (pv 6) pe_str (nomark _)) (pss_one (ps_ret (pe_lst (pa_cons (pv 2) (pa_cons (pe_op op_addA (pv 3) (pe_lst (pa_cons (pe_ix ix_A (pv 1) pe_int (fun _ _ => rfl)) pa_nil))) (pa_cons (pv 4) (pa_cons (pv 5) pa_nil))))))) pss_nil) (pss_cons (ps_if (pt_cmpR (op_eqA hr.units) (pv 6) pe_str (nomark _)) (pss_one (ps_ret (pe_lst (pa_cons (pv 2) (pa_cons (pe_op op_addA (pv 3) (pe_lst (pa_cons (pe_ix ix_A (pv 2) (pe_ix ix_A (pv 1) pe_int (fun _ _ => rfl)) (fun _ _ => rfl)) pa_nil))) (pa_cons (pv 4) (pa_cons (pv 5) pa_nil))))))) pss_nil) (pss_cons (ps_if (pt_cmpR (op_eqA hr.units) (pv 6) pe_str (nomark _)) (pss_one (ps_ret (pe_lst (pa_cons (pe_op op_addA (pe_op op_addA (pe_slice sl_A (pv 2) po_none (po_some (pe_ix ix_A (pv 1) pe_int (fun _ _ => rfl)))) (pe_slice sl_A (pv 3) (po_some (pe_un un_neg pe_int)) po_none)) (pe_slice sl_A (pv 2) (po_some (pe_op op_addA (pe_ix ix_A (pv 1) pe_int (fun _ _ => rfl)) pe_int)) po_none)) (pa_cons (pe_slice sl_A (pv 3) po_none (po_some (pe_un un_neg pe_int))) (pa_cons (pv 4) (pa_cons (pv 5) pa_nil))))))) pss_nil) (pss_cons (ps_if (pt_cmpR (op_eqA hr.units) (pv 6) pe_str (nomark _)) (pss_one (ps_ret (pe_lst (pa_cons (pv 2) (pa_cons (pv 3) (pa_cons (pe_ix ix_A (pv 1) pe_int (fun _ _ => rfl)) (pa_cons (pv 5) pa_nil))))))) pss_nil) (pss_cons (ps_if (pt_cmpR (op_eqA hr.units) (pv 6) pe_str (nomark _)) (pss_one (ps_ret (pe_lst (pa_cons (pv 2) (pa_cons (pe_slice sl_A (pv 3) po_none (po_some (pe_un un_neg pe_int))) (pa_cons (pe_ifExp (pt_cmpR (op_eqA hr.units) (pe_ix ix_A (pv 3) (pe_un un_neg pe_int) (fun _ _ => rfl)) pe_int (nomark _)) (pe_ix ix_A (pv 1) pe_int (fun _ _ => rfl)) (pv 4)) (pa_cons (pv 5) pa_nil))))))) pss_nil) (pss_cons (ps_if (pt_cmpR (op_eqA hr.units) (pv 6) pe_str (nomark _)) (pss_one (ps_ret (pe_lst (pa_cons (pv 2) (pa_cons (pv 3) (pa_cons (pv 4) (pa_cons pe_str pa_nil))))))) pss_nil) (pss_cons (ps_if (pt_cmpR op_in_seq (pv 6) (pe_tup (pa_cons pe_str (pa_cons pe_str (pa_cons pe_str pa_nil)))) (by rfl)) (pss_cons (ps_if (pt_cmpR op_ge (pe_ix ix_A (pv 3) (pe_un un_neg pe_int) (fun _ _ => rfl)) (pe_ix ix_A (pv 1) (pe_un un_neg pe_int) (fun _ _ => rfl)) (nomark _)) (pss_one (ps_ret pe_non)) pss_nil) (pss_cons (ps_set (i := 7) sc_l_do.nd rfl (Or.inl rfl) (pe_op op_addA (pe_ix ix_A (pv 1) pe_int (fun _ _ => rfl)) (pe_ix ix_A (pv 3) (pe_un un_neg pe_int) (fun _ _ => rfl)))) (pss_cons (ps_if (pt_cmpR (op_eqA hr.units) (pv 6) pe_str (nomark _)) (pss_one (ps_ret (pe_lst (pa_cons (pv 2) (pa_cons (pe_op op_addA (pe_slice sl_A (pv 3) po_none (po_some (pe_un un_neg pe_int))) (pe_lst (pa_cons (pe_ix ix_A (pv 2) (pv 7) (fun _ _ => rfl)) pa_nil))) (pa_cons (pv 4) (pa_cons (pv 5) pa_nil))))))) pss_nil) (pss_cons (ps_if (pt_cmpR (op_eqA hr.units) (pv 6) pe_str (nomark _)) (pss_one (ps_ret (pe_lst (pa_cons (pe_op op_addA (pe_op op_addA (pe_slice sl_A (pv 2) po_none (po_some (pv 7))) (pe_lst (pa_cons (pe_ix ix_A (pv 3) (pe_un un_neg pe_int) (fun _ _ => rfl)) pa_nil))) (pe_slice sl_A (pv 2) (po_some (pe_op op_addA (pv 7) pe_int)) po_none)) (pa_cons (pe_slice sl_A (pv 3) po_none (po_some (pe_un un_neg pe_int))) (pa_cons (pv 4) (pa_cons (pv 5) pa_nil))))))) pss_nil) (pss_one (ps_ret (pv 0))))))) pss_nil) (pss_cons (ps_if (pt_cmpR (op_eqA hr.units) (pv 6) pe_str (nomark _)) (pss_one (ps_ret (pe_lst (pa_cons (pv 2) (pa_cons (pe_op op_addA (pe_slice sl_A (pv 3) po_none (po_some (pe_un un_neg pe_int))) (pe_lst (pa_cons (pe_op op_mod (pe_callTy call_intA (by rfl) T.b_int (by decide +kernel) (pa_cons (pe_op op_sub pe_int (pe_ix ix_A (pv 3) (pe_un un_neg pe_int) (fun _ _ => rfl))) pa_nil)) pe_int) pa_nil))) (pa_cons (pv 4) (pa_cons (pv 5) pa_nil))))))) pss_nil) (pss_cons (ps_if (pt_cmpR (op_eqA hr.units) (pv 6) pe_str (nomark _)) (pss_one (ps_ret (pe_lst (pa_cons (pv 2) (pa_cons (pe_op op_addA (pe_slice sl_A (pv 3) po_none (po_some (pe_un un_neg pe_int))) (pe_lst (pa_cons (pe_callTy call_intA (by rfl) T.b_int (by decide +kernel) (pa_cons (pe_cmpR (op_eqA hr.units) (pe_ix ix_A (pv 3) (pe_un un_neg pe_int) (fun _ _ => rfl)) pe_int (nomark _)) pa_nil)) pa_nil))) (pa_cons (pv 4) (pa_cons (pv 5) pa_nil))))))) pss_nil) (pss_cons (ps_set (i := 8) sc_l_do.nd rfl (Or.inl rfl) (pe_cal c_l_two (hr.mono (by omega)) (by rfl) (pa_cons (pe_ix ix_A (pv 1) pe_int (fun _ _ => rfl)) (pa_cons (pe_ix ix_A (pv 3) (pe_un un_neg pe_int) (fun _ _ => rfl)) (pa_cons (pe_ix ix_A (pv 3) (pe_un un_neg pe_int) (fun _ _ => rfl)) pa_nil))))) (pss_one (ps_ret (pe_ifExp (pt_cmpR op_isNA (pv 8) pe_non (nomark _)) pe_non (pe_lst (pa_cons (pv 2) (pa_cons (pe_op op_addA (pe_slice sl_A (pv 3) po_none (po_some (pe_un un_neg pe_int))) (pe_lst (pa_cons (pv 8) pa_nil))) (pa_cons (pv 4) (pa_cons (pv 5) pa_nil))))))))))))))))))))
abbrev s_law : Stmt := top 16
theorem sc_law : FnScope ["_law_script", "_law_state_here", "_law_many", "_law_values", "_law_takes", "_law_kept", "_law_turn", "_law_work", "_law_stack", "_law_word_here", "_law_instruction_here", "_law_before", "_law_told", "_law_due", "_law_k"] ["_law_script"] (defScope s_law) := ⟨rfl, rfl, rfl, by decide +kernel, rfl, by decide +kernel, by decide +kernel⟩
set_option maxHeartbeats 4000000 in
theorem ok_law {A : Ad} (T : Tx K mg A) {f : Addr} {fd : FuncData} (F : FunD K "law" "law" (defArgs s_law) (defBody s_law) (defScope s_law) [] [] f fd)
    (c_l_state : Cal P w K mg base "_law_state" (1) ["_law_script"] (spState A.K))
    (c_l_draw : Cal P w K mg base "_law_draw" (1) ["_law_state_here", "_law_many"] spDraw)
    (c_l_word : Cal P w K mg base "_law_word" (3) ["_law_state_here"] sp_l_word)
    (c_Workspace_init : CalC P w K mg base "Workspace" A.c_Workspace (1) ["self", "number", "thread", "values"] (sp_Workspace_init A))
    (c_Workspace_step : CalM P w K mg base A.c_Workspace "step" (5) ["self", "instruction"] (sp_Workspace_step A))
    (c_l_instruction : Cal P w K mg base "_law_instruction" (4) ["_law_state_here", "_law_many"] sp_l_instr)
    (c_l_do : Cal P w K mg base "_law_do" (2) ["_law_m", "_law_instruction_here"] (sp_l_do A))
    (c_Workspace_store : CalM P w K mg base A.c_Workspace "store" (1) ["self", "number", "word"] (sp_Workspace_store A))
    (c_Workspace_cell : CalM P w K mg base A.c_Workspace "cell" (1) ["self", "number"] (sp_Workspace_cell A)) : FnOk P w K mg base CX0 (20) f fd ["_law_script"] (sp_law A) := by
  obtain rfl := T.k
  refine F.ok sc_law (fun vs H Q E h => len_law A h) (fun cdv Ar outer s H vs Q E hr h => ⟨t_law A, PSs.nox ?_, pure_law A vs H Q E h⟩)
  exact (pss_cons (ps_set (i := 1) sc_law.nd rfl (Or.inr rfl) (pe_cal c_l_state (hr.mono (by omega)) (by rfl) (pa_cons (pv 0) pa_nil))) (pss_cons (ps_set (i := 2) sc_law.nd rfl (Or.inl rfl) (pe_op op_addA pe_int (pe_cal c_l_draw (hr.mono (by omega)) (by rfl) (pa_cons (pv 1) (pa_cons pe_int pa_nil))))) (pss_cons (ps_setLc (i := 3) (own := [("_law_k", 14)]) rfl sc_law.nd rfl rfl (sw_true rfl rfl rfl (by decide +kernel)) (pi_range1 (by rfl) T.b_range (pa_cons (pv 2) pa_nil)) (blkOk_by (own := [("_law_k", 14)]) (N := ["_law_script", "_law_state_here", "_law_many", "_law_values", "_law_takes", "_law_kept", "_law_turn", "_law_work", "_law_stack", "_law_word_here", "_law_instruction_here", "_law_before", "_law_told", "_law_due", "_law_k"]) (sc := defScope s_law) (by decide +kernel)) (fun _ _ _ _ _ => (pg_name (i := 14) sc_law.nd rfl (Or.inl rfl))) (fun _ _ _ _ _ => pts_nil) (fun _ _ _ _ _ => (pe_cal c_l_word (hr.mono (by omega)) (by rfl) (pa_cons (pv 1) pa_nil)))) (pss_cons (ps_setLc (i := 4) (own := [("_law_k", 14)]) rfl sc_law.nd rfl rfl (sw_true rfl rfl rfl (by decide +kernel)) (pi_range1 (by rfl) T.b_range (pa_cons (pv 2) pa_nil)) (blkOk_by (own := [("_law_k", 14)]) (N := ["_law_script", "_law_state_here", "_law_many", "_law_values", "_law_takes", "_law_kept", "_law_turn", "_law_work", "_law_stack", "_law_word_here", "_law_instruction_here", "_law_before", "_law_told", "_law_due", "_law_k"]) (sc := defScope s_law) (by decide +kernel)) (fun _ _ _ _ _ => (pg_name (i := 14) sc_law.nd rfl (Or.inl rfl))) (fun _ _ _ _ _ => pts_nil) (fun _ _ _ _ _ => (pe_op op_addA (pe_op op_mulA pe_int (pv 14)) pe_int))) (pss_cons (ps_set (i := 5) sc_law.nd rfl (Or.inl rfl) (pe_callTy call_listA (by rfl) T.b_list (by decide +kernel) (pa_cons (pv 3) pa_nil))) (pss_cons (ps_for PassesOwn.never rfl (pi_range1 (by rfl) T.b_range (pa_cons pe_int pa_nil)) (pg_name (i := 6) sc_law.nd rfl (Or.inl rfl)) (pss_cons (ps_set (i := 7) sc_law.nd rfl (Or.inl rfl) (pe_calC c_Workspace_init (hr.mono (by omega)) (by rfl) (pa_cons pe_int (pa_cons (pe_tup (pa_cons pe_int (pa_cons (pe_op op_addA (pv 2) pe_int) (pa_cons (pv 4) (pa_cons (pe_lst pa_nil) (pa_cons (pe_lst (pa_cons (pe_tup (pa_cons pe_str pa_nil)) pa_nil)) pa_nil)))))) (pa_cons (pv 3) pa_nil))))) (pss_cons (ps_if (PW.pt (pw_or (pt_cmpR (op_neA hr.units) (pe_fld (pv 7) rfl) (pe_op op_addA (pv 3) (pe_lst (pa_cons pe_int (pa_cons pe_int pa_nil)))) (nomark _)) (pw_or (pt_cmpR (op_neA hr.units) (pe_fld (pv 7) rfl) (pe_lst pa_nil) (nomark _)) (pw_or (pt_cmpR (op_neA hr.units) (pe_fld (pv 7) rfl) pe_int (nomark _)) (pw_or1 (pt_cmpR (op_neA hr.units) (pe_fld (pv 7) rfl) pe_str (nomark _))))))) (pss_one (ps_ret pe_bl)) pss_nil) (pss_cons (ps_setLc (i := 8) (own := [("_law_k", 14)]) rfl sc_law.nd rfl rfl (sw_true rfl rfl rfl (by decide +kernel)) (pi_range1 (by rfl) T.b_range (pa_cons (pe_op op_addA pe_int (pe_cal c_l_draw (hr.mono (by omega)) (by rfl) (pa_cons (pv 1) (pa_cons pe_int pa_nil)))) pa_nil)) (blkOk_by (own := [("_law_k", 14)]) (N := ["_law_script", "_law_state_here", "_law_many", "_law_values", "_law_takes", "_law_kept", "_law_turn", "_law_work", "_law_stack", "_law_word_here", "_law_instruction_here", "_law_before", "_law_told", "_law_due", "_law_k"]) (sc := defScope s_law) (by decide +kernel)) (fun _ _ _ _ _ => (pg_name (i := 14) sc_law.nd rfl (Or.inl rfl))) (fun _ _ _ _ _ => pts_nil) (fun _ _ _ _ _ => (pe_cal c_l_word (hr.mono (by omega)) (by rfl) (pa_cons (pv 1) pa_nil)))) (pss_cons (ps_for PassesOwn.never rfl (pi_list (pv 8)) (pg_name (i := 9) sc_law.nd rfl (Or.inl rfl)) (pss_one (ps_if (pt_cmpR op_notBl (pe_calM (pv 7) c_Workspace_step (hr.mono (by omega)) (pa_cons (pe_tup (pa_cons pe_str (pa_cons (pv 9) pa_nil))) pa_nil)) pe_bl (nomark _)) (pss_one (ps_ret pe_bl)) pss_nil))) (pss_cons (ps_set (i := 10) sc_law.nd rfl (Or.inl rfl) (pe_cal c_l_instruction (hr.mono (by omega)) (by rfl) (pa_cons (pv 1) (pa_cons (pv 2) pa_nil)))) (pss_cons (ps_set (i := 11) sc_law.nd rfl (Or.inl rfl) (pe_lst (pa_cons (pe_op op_addA (pv 3) (pe_lst (pa_cons pe_int (pa_cons pe_int pa_nil)))) (pa_cons (pv 8) (pa_cons pe_int (pa_cons pe_str pa_nil)))))) (pss_cons (ps_set (i := 12) sc_law.nd rfl (Or.inl rfl) (pe_calM (pv 7) c_Workspace_step (hr.mono (by omega)) (pa_cons (pv 10) pa_nil))) (pss_cons (ps_if (pt_cmpR op_in_seq (pe_ix ix_A (pv 10) pe_int (fun _ _ => rfl)) (pe_tup (pa_cons pe_str (pa_cons pe_str (pa_cons pe_str (pa_cons pe_str (pa_cons pe_str pa_nil)))))) (by rfl)) (pss_cons (ps_set (i := 13) sc_law.nd rfl (Or.inl rfl) (pv 11)) (pss_one (ps_if (pt_cmpR op_notBl (pv 12) pe_bl (nomark _)) (pss_one (ps_ret pe_bl)) pss_nil))) (pss_cons (ps_set (i := 13) sc_law.nd rfl (Or.inl rfl) (pe_cal c_l_do (hr.mono (by omega)) (by rfl) (pa_cons (pv 11) (pa_cons (pv 10) pa_nil)))) (pss_one (ps_if (pt_cmpR op_notBl (pv 12) pe_bl (nomark _)) (pss_one (ps_ret pe_bl)) pss_nil)))) (pss_cons (ps_if (pt_cmpR op_isNA (pv 13) pe_non (nomark _)) (pss_one (ps_if (pt_cmpR (op_neA hr.units) (pe_fld (pv 7) rfl) pe_str (nomark _)) (pss_one (ps_ret pe_bl)) pss_nil)) (pss_one (ps_if (pt_cmpR (op_neA hr.units) (pe_lst (pa_cons (pe_fld (pv 7) rfl) (pa_cons (pe_fld (pv 7) rfl) (pa_cons (pe_fld (pv 7) rfl) (pa_cons (pe_fld (pv 7) rfl) pa_nil))))) (pv 13) (nomark _)) (pss_one (ps_ret pe_bl)) pss_nil))) (pss_one (ps_if (pt_cmpR op_notNA (pv 13) pe_non (nomark _)) (pss_cons (ps_expr (pe_calM (pv 7) c_Workspace_store (hr.mono (by omega)) (pa_cons (pe_ix ix_A (pv 4) (pe_un un_neg pe_int) (fun _ _ => rfl)) (pa_cons pe_int pa_nil)))) (pss_one (ps_if (PW.pt (pw_or (pt_cmpR (op_neA hr.units) (pe_calM (pv 7) c_Workspace_cell (hr.mono (by omega)) (pa_cons (pe_ix ix_A (pv 4) (pe_un un_neg pe_int) (fun _ _ => rfl)) pa_nil)) pe_int (nomark _)) (pw_or (pt_cmpR (op_neA hr.units) (pe_ix ix_A (pe_fld (pv 7) rfl) (pe_op op_sub (pv 2) pe_int) (fun _ _ => rfl)) pe_int (nomark _)) (pw_or (pt_cmpR (op_neA hr.units) (pe_fld (pv 7) rfl) pe_int (nomark _)) (pw_or1 (pt_cmpR (op_neA hr.units) (pe_fld (pv 7) rfl) pe_int (nomark _))))))) (pss_one (ps_ret pe_bl)) pss_nil))) pss_nil)))))))))))) (pss_one (ps_ret (pe_cmpR (op_eqA hr.units) (pv 3) (pv 5) (nomark _))))))))))
end
end K45
set_option Elab.async false
set_option linter.all false
set_option maxRecDepth 100000
set_option maxHeartbeats 4000000
namespace K45
open PySem PySem.Spec PyProof.Rows L2 Lb
def d_wall : He.DefD := ⟨("_wall", none), "_wall", "_wall", defArgs s_wall, defBody s_wall, defScope s_wall, [], []⟩
def d_calculate : He.DefD := ⟨("calculate", none), "calculate", "calculate", defArgs s_calculate, defBody s_calculate, defScope s_calculate, [], []⟩
def d_place : He.DefD := ⟨("place", none), "place", "place", defArgs s_place, defBody s_place, defScope s_place, [], []⟩
def d_value : He.DefD := ⟨("value", none), "value", "value", defArgs s_value, defBody s_value, defScope s_value, [], []⟩
def d_Workspace_init : He.DefD := ⟨("Workspace", some "__init__"), "__init__", "Workspace.__init__", defArgs s_Workspace_init, defBody s_Workspace_init, defScope s_Workspace_init, [], []⟩
def d_Workspace_cell : He.DefD := ⟨("Workspace", some "cell"), "cell", "Workspace.cell", defArgs s_Workspace_cell, defBody s_Workspace_cell, defScope s_Workspace_cell, [], []⟩
def d_Workspace_store : He.DefD := ⟨("Workspace", some "store"), "store", "Workspace.store", defArgs s_Workspace_store, defBody s_Workspace_store, defScope s_Workspace_store, [], []⟩
def d_Workspace_push : He.DefD := ⟨("Workspace", some "push"), "push", "Workspace.push", defArgs s_Workspace_push, defBody s_Workspace_push, defScope s_Workspace_push, [], []⟩
def d_Workspace_advance : He.DefD := ⟨("Workspace", some "advance"), "advance", "Workspace.advance", defArgs s_Workspace_advance, defBody s_Workspace_advance, defScope s_Workspace_advance, [], []⟩
def d_Workspace_step : He.DefD := ⟨("Workspace", some "step"), "step", "Workspace.step", defArgs s_Workspace_step, defBody s_Workspace_step, defScope s_Workspace_step, [], []⟩
def d_Workspace_simple : He.DefD := ⟨("Workspace", some "simple"), "simple", "Workspace.simple", defArgs s_Workspace_simple, defBody s_Workspace_simple, defScope s_Workspace_simple, [], []⟩
def d_Workspace_indexed : He.DefD := ⟨("Workspace", some "indexed"), "indexed", "Workspace.indexed", defArgs s_Workspace_indexed, defBody s_Workspace_indexed, defScope s_Workspace_indexed, [], []⟩
def d_l_state : He.DefD := ⟨("_law_state", none), "_law_state", "_law_state", defArgs s_l_state, defBody s_l_state, defScope s_l_state, [], []⟩
def d_l_draw : He.DefD := ⟨("_law_draw", none), "_law_draw", "_law_draw", defArgs s_l_draw, defBody s_l_draw, defScope s_l_draw, [], []⟩
def d_l_pick : He.DefD := ⟨("_law_pick", none), "_law_pick", "_law_pick", defArgs s_l_pick, defBody s_l_pick, defScope s_l_pick, [], []⟩
def d_l_two : He.DefD := ⟨("_law_two", none), "_law_two", "_law_two", defArgs s_l_two, defBody s_l_two, defScope s_l_two, [], []⟩
def d_l_word : He.DefD := ⟨("_law_word", none), "_law_word", "_law_word", defArgs s_l_word, defBody s_l_word, defScope s_l_word, [], []⟩
def d_l_instruction : He.DefD := ⟨("_law_instruction", none), "_law_instruction", "_law_instruction", defArgs s_l_instruction, defBody s_l_instruction, defScope s_l_instruction, [], []⟩
def d_l_do : He.DefD := ⟨("_law_do", none), "_law_do", "_law_do", defArgs s_l_do, defBody s_l_do, defScope s_l_do, [], []⟩
def d_law : He.DefD := ⟨("law", none), "law", "law", defArgs s_law, defBody s_law, defScope s_law, [], []⟩
def fn : List He.DefD := [d_wall, d_calculate, d_place, d_value, d_Workspace_init, d_Workspace_cell, d_Workspace_store, d_Workspace_push, d_Workspace_advance, d_Workspace_step, d_Workspace_simple, d_Workspace_indexed, d_l_state, d_l_draw, d_l_pick, d_l_two, d_l_word, d_l_instruction, d_l_do, d_law]
def fa0 : List He.Fa := [.free "abs", .free "int", .free "len", .free "list", .free "range", .int "WORDS" 65536, .glo "_wall", .glo "calculate", .glo "place", .glo "value", .glo "_law_state", .glo "_law_draw", .glo "_law_pick", .glo "_law_two", .glo "_law_word", .glo "_law_instruction", .glo "_law_do", .glo "law", .glo "Workspace", .cls "Workspace", .mkr "Workspace", .meth "Workspace" "cell", .meth "Workspace" "store", .meth "Workspace" "push", .meth "Workspace" "advance", .meth "Workspace" "step", .meth "Workspace" "simple", .meth "Workspace" "indexed", .noat "Workspace" "number", .noat "Workspace" "parent"]
def fa1 : List He.Fa := [.noat "Workspace" "takes", .noat "Workspace" "gives", .noat "Workspace" "code", .noat "Workspace" "cells", .noat "Workspace" "stack", .noat "Workspace" "at", .noat "Workspace" "state", .noat "Workspace" "children", .noat "Workspace" "joined", .noat "Workspace" "rows", .noat "Workspace" "chosen", .noat "Workspace" "asked", .noat "Workspace" "word"]
def fa : List He.Fa := fa0 ++ fa1
def lo : List Str := ["_wall", "WORDS", "calculate", "place", "value", "Workspace", "_law_state", "_law_draw", "_law_pick", "_law_two", "_law_word", "_law_instruction", "_law_do"]
abbrev RW : PySem.W.OpenLaw := PySem.Challenge.rw_placedanyhow_k45_steps_of_a_workspace
abbrev RR : PySem.W.OpenRow := PySem.W.OpenLaw.row RW
abbrev hk : PySem.W.Hook := He.hookD 4 fa fn
def ob (s : PySem.W.SharedT) : He.AlD := He.obsDG 4 fa fn (HandSHeadRun.getT s)
theorem ob_eq (s : PySem.W.SharedT) : ob s = hk.obs s.abs := He.obsDG_eq (HandSHeadRun.getT_eq s)
theorem run (w : World) : HandSHeadRun.RunEq RR (PySem.W.view RR.prog [16]) hk ob 4000 lo w := by
  intro os
  kernel_rfl
theorem tx {K : PySem.W.Frag} {h : Heap} {mg : Str → Option Value} (X : K.In h) (G : h.Ns mainGlobals mg) (c : He.SaysD fa fn K) : Tx K mg ⟨K, He.ga K "Workspace"⟩ :=
  ⟨rfl, He.free_ok X G (c.fact 0 rfl), He.free_ok X G (c.fact 1 rfl), He.free_ok X G (c.fact 2 rfl), He.free_ok X G (c.fact 3 rfl), He.free_ok X G (c.fact 4 rfl), gv_int X G (c.fact 5 rfl)⟩
theorem cf {K : PySem.W.Frag} (c : He.SaysD fa fn K) : CF ⟨K, He.ga K "Workspace"⟩ :=
  ⟨He.cls_ok (c.fact 19 (f := .cls "Workspace") rfl), He.noat_ok (c.fact 28 (f := .noat "Workspace" "number") rfl),
  He.noat_ok (c.fact 29 (f := .noat "Workspace" "parent") rfl),
  He.noat_ok (c.fact 30 (f := .noat "Workspace" "takes") rfl),
  He.noat_ok (c.fact 31 (f := .noat "Workspace" "gives") rfl),
  He.noat_ok (c.fact 32 (f := .noat "Workspace" "code") rfl),
  He.noat_ok (c.fact 33 (f := .noat "Workspace" "cells") rfl),
  He.noat_ok (c.fact 34 (f := .noat "Workspace" "stack") rfl),
  He.noat_ok (c.fact 35 (f := .noat "Workspace" "at") rfl),
  He.noat_ok (c.fact 36 (f := .noat "Workspace" "state") rfl),
  He.noat_ok (c.fact 37 (f := .noat "Workspace" "children") rfl),
  He.noat_ok (c.fact 38 (f := .noat "Workspace" "joined") rfl),
  He.noat_ok (c.fact 39 (f := .noat "Workspace" "rows") rfl),
  He.noat_ok (c.fact 40 (f := .noat "Workspace" "chosen") rfl),
  He.noat_ok (c.fact 41 (f := .noat "Workspace" "asked") rfl),
  He.noat_ok (c.fact 42 (f := .noat "Workspace" "word") rfl)⟩
set_option maxHeartbeats 16000000 in
theorem facts {P : Program} {w : World} {K : PySem.W.Frag} {h : Heap} {mg : Str → Option Value} {f : Addr} (X : K.In h) (G : h.Ns mainGlobals mg) (hfa : mg ("law" : Str) = some (.ref f)) (c : He.SaysD fa fn K) :
    ∃ fd : FuncData, (∀ (s : Shared) (v : Value), BindsTo s fd ⟨[v], []⟩ [("_law_script", v)]) ∧ ∀ base : Heap, K.In base → base.Ns mainGlobals mg → FnOk P w K mg base CX0 (20) f fd ["_law_script"] (sp_law ⟨K, He.ga K "Workspace"⟩) := by
  obtain ⟨fd_wall, F_wall⟩ := c.def_ 0 (d := d_wall) rfl
  have b_wall : Binds K fd_wall ["k"] [] := F_wall.bindsN fun _ _ _ _ _ _ us hl => match us, hl with | [_], _ => rfl
  have g_wall := He.glo_ok X G (c.fact 6 (f := .glo "_wall") rfl)
  obtain ⟨fd_calculate, F_calculate⟩ := c.def_ 1 (d := d_calculate) rfl
  have b_calculate : Binds K fd_calculate ["operator", "a", "b"] [] := F_calculate.bindsN fun _ _ _ _ _ _ us hl => match us, hl with | [_, _, _], _ => rfl
  have g_calculate := He.glo_ok X G (c.fact 7 (f := .glo "calculate") rfl)
  obtain ⟨fd_place, F_place⟩ := c.def_ 2 (d := d_place) rfl
  have b_place : Binds K fd_place ["target", "cells"] [] := F_place.bindsN fun _ _ _ _ _ _ us hl => match us, hl with | [_, _], _ => rfl
  have g_place := He.glo_ok X G (c.fact 8 (f := .glo "place") rfl)
  obtain ⟨fd_value, F_value⟩ := c.def_ 3 (d := d_value) rfl
  have b_value : Binds K fd_value ["e", "cells"] [] := F_value.bindsN fun _ _ _ _ _ _ us hl => match us, hl with | [_, _], _ => rfl
  have g_value := He.glo_ok X G (c.fact 9 (f := .glo "value") rfl)
  obtain ⟨fd_Workspace_init, F_Workspace_init⟩ := c.def_ 4 (d := d_Workspace_init) rfl
  have b_Workspace_init : Binds K fd_Workspace_init ["self", "number", "thread", "values"] [] := F_Workspace_init.bindsN fun _ _ _ _ _ _ us hl => match us, hl with | [_, _, _, _], _ => rfl
  obtain ⟨fd_Workspace_cell, F_Workspace_cell⟩ := c.def_ 5 (d := d_Workspace_cell) rfl
  have b_Workspace_cell : Binds K fd_Workspace_cell ["self", "number"] [] := F_Workspace_cell.bindsN fun _ _ _ _ _ _ us hl => match us, hl with | [_, _], _ => rfl
  obtain ⟨fd_Workspace_store, F_Workspace_store⟩ := c.def_ 6 (d := d_Workspace_store) rfl
  have b_Workspace_store : Binds K fd_Workspace_store ["self", "number", "word"] [] := F_Workspace_store.bindsN fun _ _ _ _ _ _ us hl => match us, hl with | [_, _, _], _ => rfl
  obtain ⟨fd_Workspace_push, F_Workspace_push⟩ := c.def_ 7 (d := d_Workspace_push) rfl
  have b_Workspace_push : Binds K fd_Workspace_push ["self", "word"] [] := F_Workspace_push.bindsN fun _ _ _ _ _ _ us hl => match us, hl with | [_, _], _ => rfl
  obtain ⟨fd_Workspace_advance, F_Workspace_advance⟩ := c.def_ 8 (d := d_Workspace_advance) rfl
  have b_Workspace_advance : Binds K fd_Workspace_advance ["self"] [] := F_Workspace_advance.bindsN fun _ _ _ _ _ _ us hl => match us, hl with | [_], _ => rfl
  obtain ⟨fd_Workspace_step, F_Workspace_step⟩ := c.def_ 9 (d := d_Workspace_step) rfl
  have b_Workspace_step : Binds K fd_Workspace_step ["self", "instruction"] [] := F_Workspace_step.bindsN fun _ _ _ _ _ _ us hl => match us, hl with | [_, _], _ => rfl
  obtain ⟨fd_Workspace_simple, F_Workspace_simple⟩ := c.def_ 10 (d := d_Workspace_simple) rfl
  have b_Workspace_simple : Binds K fd_Workspace_simple ["self", "kind", "operand"] [] := F_Workspace_simple.bindsN fun _ _ _ _ _ _ us hl => match us, hl with | [_, _, _], _ => rfl
  obtain ⟨fd_Workspace_indexed, F_Workspace_indexed⟩ := c.def_ 11 (d := d_Workspace_indexed) rfl
  have b_Workspace_indexed : Binds K fd_Workspace_indexed ["self", "instruction"] [] := F_Workspace_indexed.bindsN fun _ _ _ _ _ _ us hl => match us, hl with | [_, _], _ => rfl
  obtain ⟨fd_l_state, F_l_state⟩ := c.def_ 12 (d := d_l_state) rfl
  have b_l_state : Binds K fd_l_state ["_law_script"] [] := F_l_state.bindsN fun _ _ _ _ _ _ us hl => match us, hl with | [_], _ => rfl
  have g_l_state := He.glo_ok X G (c.fact 10 (f := .glo "_law_state") rfl)
  obtain ⟨fd_l_draw, F_l_draw⟩ := c.def_ 13 (d := d_l_draw) rfl
  have b_l_draw : Binds K fd_l_draw ["_law_state_here", "_law_many"] [] := F_l_draw.bindsN fun _ _ _ _ _ _ us hl => match us, hl with | [_, _], _ => rfl
  have g_l_draw := He.glo_ok X G (c.fact 11 (f := .glo "_law_draw") rfl)
  obtain ⟨fd_l_pick, F_l_pick⟩ := c.def_ 14 (d := d_l_pick) rfl
  have b_l_pick : Binds K fd_l_pick ["_law_state_here", "_law_row"] [] := F_l_pick.bindsN fun _ _ _ _ _ _ us hl => match us, hl with | [_, _], _ => rfl
  have g_l_pick := He.glo_ok X G (c.fact 12 (f := .glo "_law_pick") rfl)
  obtain ⟨fd_l_two, F_l_two⟩ := c.def_ 15 (d := d_l_two) rfl
  have b_l_two : Binds K fd_l_two ["_law_operator", "_law_a", "_law_b"] [] := F_l_two.bindsN fun _ _ _ _ _ _ us hl => match us, hl with | [_, _, _], _ => rfl
  have g_l_two := He.glo_ok X G (c.fact 13 (f := .glo "_law_two") rfl)
  obtain ⟨fd_l_word, F_l_word⟩ := c.def_ 16 (d := d_l_word) rfl
  have b_l_word : Binds K fd_l_word ["_law_state_here"] [] := F_l_word.bindsN fun _ _ _ _ _ _ us hl => match us, hl with | [_], _ => rfl
  have g_l_word := He.glo_ok X G (c.fact 14 (f := .glo "_law_word") rfl)
  obtain ⟨fd_l_instruction, F_l_instruction⟩ := c.def_ 17 (d := d_l_instruction) rfl
  have b_l_instruction : Binds K fd_l_instruction ["_law_state_here", "_law_many"] [] := F_l_instruction.bindsN fun _ _ _ _ _ _ us hl => match us, hl with | [_, _], _ => rfl
  have g_l_instruction := He.glo_ok X G (c.fact 15 (f := .glo "_law_instruction") rfl)
  obtain ⟨fd_l_do, F_l_do⟩ := c.def_ 18 (d := d_l_do) rfl
  have b_l_do : Binds K fd_l_do ["_law_m", "_law_instruction_here"] [] := F_l_do.bindsN fun _ _ _ _ _ _ us hl => match us, hl with | [_, _], _ => rfl
  have g_l_do := He.glo_ok X G (c.fact 16 (f := .glo "_law_do") rfl)
  obtain ⟨fd_law, F_law⟩ := c.def_ 19 (d := d_law) rfl
  have g_Workspace := He.glo_ok X G (c.fact 18 (f := .glo "Workspace") rfl)
  have k_Workspace := He.cls_ok (c.fact 19 (f := .cls "Workspace") rfl)
  have m_Workspace := He.mkr_ok (c.fact 20 (f := .mkr "Workspace") rfl)
  have e_Workspace_cell := He.meth_ok (c.fact 21 (f := .meth "Workspace" "cell") rfl)
  have e_Workspace_store := He.meth_ok (c.fact 22 (f := .meth "Workspace" "store") rfl)
  have e_Workspace_push := He.meth_ok (c.fact 23 (f := .meth "Workspace" "push") rfl)
  have e_Workspace_advance := He.meth_ok (c.fact 24 (f := .meth "Workspace" "advance") rfl)
  have e_Workspace_step := He.meth_ok (c.fact 25 (f := .meth "Workspace" "step") rfl)
  have e_Workspace_simple := He.meth_ok (c.fact 26 (f := .meth "Workspace" "simple") rfl)
  have e_Workspace_indexed := He.meth_ok (c.fact 27 (f := .meth "Workspace" "indexed") rfl)
  have e := hfa.symm.trans (He.glo_ok X G (c.fact 17 (f := .glo "law") rfl))
  cases e
  have b := FunD.bindsA (ps := ["_law_script"]) F_law fun _ _ _ _ _ _ us hl => match us, hl with | [_], _ => rfl
  have T := tx X G c
  refine ⟨fd_law, fun s v => b s [v] rfl, fun base _ _ => ?_⟩
  have C_wall : Cal P w K mg base "_wall" (1) ["k"] spF := mkCal F_wall g_wall b_wall okF
  have C_calculate : Cal P w K mg base "calculate" (1) ["operator", "a", "b"] sp_calc := mkCal F_calculate g_calculate b_calculate (ok_calculate T F_calculate)
  have C_vp : ∀ n : Nat, Cal P w K mg base "value" (n + 1) ["e", "cells"] (sp_valP n) := by
    intro n
    induction n with
    | zero => exact mkCal F_value g_value b_value okF
    | succ n ih => exact mkCal F_value g_value b_value (ok_value T n F_value (mkCal F_place g_place b_place okF) ih C_calculate)
  have C_place : Cal P w K mg base "place" (1) ["target", "cells"] spF := mkCal F_place g_place b_place okF
  have C_Workspace_init : CalC P w K mg base "Workspace" (He.ga K "Workspace") (1) ["self", "number", "thread", "values"] (sp_Workspace_init ⟨K, He.ga K "Workspace"⟩) := mkCalC g_Workspace m_Workspace b_Workspace_init (ok_Workspace_init T F_Workspace_init)
  have C_Workspace_cell : CalM P w K mg base (He.ga K "Workspace") "cell" (1) ["self", "number"] (sp_Workspace_cell ⟨K, He.ga K "Workspace"⟩) := mkCalM k_Workspace e_Workspace_cell b_Workspace_cell (ok_Workspace_cell T F_Workspace_cell)
  have C_Workspace_store : CalM P w K mg base (He.ga K "Workspace") "store" (1) ["self", "number", "word"] (sp_Workspace_store ⟨K, He.ga K "Workspace"⟩) := mkCalM k_Workspace e_Workspace_store b_Workspace_store (ok_Workspace_store T F_Workspace_store)
  have C_Workspace_push : CalM P w K mg base (He.ga K "Workspace") "push" (1) ["self", "word"] (sp_Workspace_push ⟨K, He.ga K "Workspace"⟩) := mkCalM k_Workspace e_Workspace_push b_Workspace_push (ok_Workspace_push T F_Workspace_push)
  have C_Workspace_advance : CalM P w K mg base (He.ga K "Workspace") "advance" (1) ["self"] spF := mkCalM k_Workspace e_Workspace_advance b_Workspace_advance okF
  have C_Workspace_simple : CalM P w K mg base (He.ga K "Workspace") "simple" (1) ["self", "kind", "operand"] (sp_Workspace_simple ⟨K, He.ga K "Workspace"⟩) := mkCalM k_Workspace e_Workspace_simple b_Workspace_simple (ok_Workspace_simple T F_Workspace_simple)
  have C_Workspace_indexed : CalM P w K mg base (He.ga K "Workspace") "indexed" (1) ["self", "instruction"] (sp_Workspace_indexed ⟨K, He.ga K "Workspace"⟩) := mkCalM k_Workspace e_Workspace_indexed b_Workspace_indexed (ok_Workspace_indexed T F_Workspace_indexed)
  have C_Workspace_step : CalM P w K mg base (He.ga K "Workspace") "step" (5) ["self", "instruction"] (sp_Workspace_step ⟨K, He.ga K "Workspace"⟩) := mkCalM k_Workspace e_Workspace_step b_Workspace_step (ok_Workspace_step T F_Workspace_step C_Workspace_simple C_Workspace_indexed C_Workspace_push (C_vp 2))
  have C_l_state : Cal P w K mg base "_law_state" (1) ["_law_script"] (spState K) := mkCal F_l_state g_l_state b_l_state (ok_l_state T F_l_state)
  have C_l_draw : Cal P w K mg base "_law_draw" (1) ["_law_state_here", "_law_many"] spDraw := mkCal F_l_draw g_l_draw b_l_draw (ok_l_draw T F_l_draw)
  have C_l_pick : Cal P w K mg base "_law_pick" (2) ["_law_state_here", "_law_row"] spPick := mkCal F_l_pick g_l_pick b_l_pick (ok_l_pick T F_l_pick C_l_draw)
  have C_l_two : Cal P w K mg base "_law_two" (1) ["_law_operator", "_law_a", "_law_b"] sp_calc := mkCal F_l_two g_l_two b_l_two (ok_l_two T F_l_two)
  have C_l_word : Cal P w K mg base "_law_word" (3) ["_law_state_here"] sp_l_word := mkCal F_l_word g_l_word b_l_word (ok_l_word T F_l_word C_l_pick C_l_draw)
  have C_l_instruction : Cal P w K mg base "_law_instruction" (4) ["_law_state_here", "_law_many"] sp_l_instr := mkCal F_l_instruction g_l_instruction b_l_instruction (ok_l_instruction T F_l_instruction C_l_draw C_l_word C_l_pick)
  have C_l_do : Cal P w K mg base "_law_do" (2) ["_law_m", "_law_instruction_here"] (sp_l_do ⟨K, He.ga K "Workspace"⟩) := mkCal F_l_do g_l_do b_l_do (ok_l_do T F_l_do C_l_two)
  exact (ok_law T F_law C_l_state C_l_draw C_l_word C_Workspace_init C_Workspace_step C_l_instruction C_l_do C_Workspace_store C_Workspace_cell)
end K45
open PySem PySem.W PySem.Calls PyProof.Rows
theorem PySem.Challenge.cw_placedanyhow_k45_steps_of_a_workspace_holds : PySem.Challenge.rw_placedanyhow_k45_steps_of_a_workspace.Holds := by
  w_on; o_law
  refine HandSHeadRun.head_any (r := OpenLaw.row PySem.Challenge.rw_placedanyhow_k45_steps_of_a_workspace) (q := view (OpenLaw.row PySem.Challenge.rw_placedanyhow_k45_steps_of_a_workspace).prog [16]) (H := K45.hk) (ob := K45.ob) (M := 4000) (loose := K45.lo) (d := HandSHeadRun.topDef (OpenLaw.row PySem.Challenge.rw_placedanyhow_k45_steps_of_a_workspace).prog 16) (kwd := []) K45.ob_eq
    (by kernel_rfl) (fun s => by kernel_rfl) K45.run (by kernel_rfl) (by kernel_rfl) (by kernel_rfl) (by rfl) (by first | assumption | decide +kernel) (by decide +kernel) ⟨rfl, rfl, rfl, rfl, rfl, by decide +kernel⟩ ?hw ?hc
  case hw => w_witness2
  case hc =>
    refine L2.walk_ofE (l := PySem.Challenge.rw_placedanyhow_k45_steps_of_a_workspace) (n := 63) (k := 20) (x := "_law_script") (CX := L2.CX0) rfl (by decide) (by kernel_rfl) ⟨rfl, by decide, by decide⟩ ?F (fun _ _ _ _ z => z)
    intro w mg fa h Y G hmg0
    obtain ⟨K, KX, c⟩ := Y
    have hmg : mg ("law" : PySem.Str) = some (.ref fa) := by
      have e : (HandSHeadRun.topDef (OpenLaw.row PySem.Challenge.rw_placedanyhow_k45_steps_of_a_workspace).prog 16).name = ("law" : PySem.Str) := by kernel_rfl
      rw [← e]
      exact hmg0
    obtain ⟨fd, hb, hF⟩ := K45.facts (P := (PySem.Challenge.rw_placedanyhow_k45_steps_of_a_workspace).prog) (w := w) KX G hmg c
    exact ⟨K, fd, K45.sp_law ⟨K, He.ga K "Workspace"⟩, KX, hb, fun H a ns hl _ hS => ⟨a, ns, rfl, hS, hl, K45.cf c, fun _ => rfl⟩, hF⟩

