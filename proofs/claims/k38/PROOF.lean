import PyProof.Rows.All
import Wide.All
import OpenK.AllK
import Wide.FinOn
import HandS.ForMost
import HandS.IsInst
import HandS.Defaults
import HandS.More
import HandS.Head0
import HandS.Head1
import HandS.Head2
import HandS.HeadEnd
import HandS.HeadHook1
import HandS.HeadHook2
import HandS.HeadHook3
import HandS.HeadHook4
import HandS.Style
import HandS.TryOnly
import KE.KAssignIn
import HandS.Strs
import HandS.Text
import PySem.Challenge.RW_placedanyhow_k38_instructions_come_back
set_option Elab.async false
set_option linter.all false
set_option maxRecDepth 100000
set_option maxHeartbeats 4000000
/-! Lb: readings that compute, callables by name, data in the heap, the drawing of numbers. Knows no program. -/
namespace Lb
open PySem PySem.Spec PyProof.Rows L2

/-! ### weaker readings -/
section
variable {X : Cx} {e : Expr} {st : Stmt}
theorem pe_imp {t u : TE} (h : PE X e t) (k : ∀ σ H Q, u σ H Q → t σ H Q) : PE X e u := ⟨fun pins s σ H Q I hw => h.run pins s σ H Q I (k σ H Q hw)⟩
theorem pt_imp {t u : TT} (h : PT X e t) (k : ∀ σ H Q, u σ H Q → t σ H Q) : PT X e u := ⟨fun pins s σ H Q I hw => h.run pins s σ H Q I (k σ H Q hw)⟩
theorem ps_imp {t u : TS} (h : PS X st t) (k : ∀ D σ H, u D σ H → t D σ H) : PS X st u := ⟨fun pins s σ H D I hw => h.run pins s σ H D I (k D σ H hw)⟩
end

/-- a reading, made monotone -/
def upE (t : TE) : TE := fun σ H Q => ∃ R : VK, t σ H R ∧ ∀ x H', R x H' → Q x H'
def upT (t : TT) : TT := fun σ H Q => ∃ R : Bool → Hp → Prop, t σ H R ∧ ∀ x H', R x H' → Q x H'
theorem pe_up {X : Cx} {e : Expr} {t : TE} (h : PE X e t) : PE X e (upE t) := ⟨fun pins s σ H Q I ⟨R, h1, h2⟩ => thn (h.run pins s σ H R I h1) fun _ _ ⟨v, H', I', r, q⟩ => ⟨v, H', I', r, h2 v H' q⟩⟩
theorem pt_up {X : Cx} {e : Expr} {t : TT} (h : PT X e t) : PT X e (upT t) := ⟨fun pins s σ H Q I ⟨R, h1, h2⟩ => thn (h.run pins s σ H R I h1) fun _ _ ⟨H', I', q⟩ => ⟨H', I', h2 _ H' q⟩⟩

/-! ### callables: a def, a method, a class, each with its promise -/
structure Cal (P : Program) (w : World) (K : PySem.W.Frag) (mg : Str → Option Value) (base : Heap) (x : Str) (k : Nat) (ps : List Str) (sp : Sp) : Prop where
  ex : ∃ (f : Addr) (fd : FuncData), mg x = some (.ref f) ∧ PySem.W.keepIn K (.ref f) = true ∧ Binds K fd ps [] ∧ FnOk P w K mg base CX0 k f fd ps sp
structure CalM (P : Program) (w : World) (K : PySem.W.Frag) (mg : Str → Option Value) (base : Heap) (C : Addr) (m : Str) (k : Nat) (ps : List Str) (sp : Sp) : Prop where
  ex : ∃ (f : Addr) (fd : FuncData), Cls K C ∧ Meth K C m f ∧ Binds K fd ps [] ∧ FnOk P w K mg base CX0 k f fd ps sp
structure CalC (P : Program) (w : World) (K : PySem.W.Frag) (mg : Str → Option Value) (base : Heap) (x : Str) (C : Addr) (k : Nat) (ps : List Str) (sp : Sp) : Prop where
  ex : ∃ (f : Addr) (fd : FuncData), mg x = some (.ref C) ∧ Mk K C f ∧ Binds K fd ps [] ∧ FnOk P w K mg base CX0 k f fd ps sp
/-- a name of the module that holds a known value -/
structure GV (mg : Str → Option Value) (x : Str) (v : V) : Prop where
  ex : ∃ u, mg x = some u ∧ RelV v u
section
variable {X : Cx} {x m : Str} {C : Addr} {p pos apos : Pos} {o e : Expr} {es : List Expr} {ta : TE} {t : TA} {k : Nat} {ps : List Str} {sp : Sp} {v : V}
theorem pe_gv (c : GV X.mg x v) (hg : Gl X x) (hd : (x == ("__debug__" : Str)) = false := by decide) : PE X (.Name x pos) (tC v) := by
  obtain ⟨u, hm, r⟩ := c.ex
  exact pe_glob hg hm r hd
theorem pe_cal (c : Cal X.prog X.w X.K X.mg X.base x k ps sp) (hr : Room k X.A) (hg : Gl X x) (ha : PA X (e :: es) t) (hdb : (x == ("__debug__" : Str)) = false := by decide)
    (he : starEach (e :: es) X.env = (false, eval e X.env) :: starEach es X.env := by rfl) (hpl : (backTo pos (starEach es X.env)).any (·.1) = false := by rfl) : PE X (.Call (.Name x p) (e :: es) [] pos) (tCall sp [] E0 t) := by
  obtain ⟨f, fd, hm, hk, hb, F⟩ := c.ex
  exact pe_call F hr hg hm hk hb .nil pass0 ha hdb he hpl
theorem pe_cal0 (c : Cal X.prog X.w X.K X.mg X.base x k ps sp) (hr : Room k X.A) (hg : Gl X x) (hdb : (x == ("__debug__" : Str)) = false := by decide) : PE X (.Call (.Name x p) [] [] pos) (tCall sp [] E0 tNil) := by
  obtain ⟨f, fd, hm, hk, hb, F⟩ := c.ex
  exact pe_call0 F hr hg hm hk hb .nil pass0 hdb
theorem pe_calM {pl : Sem Bool} (he : PE X o ta) (c : CalM X.prog X.w X.K X.mg X.base C m k ps sp) (hr : Room k X.A) (ha : PA X (e :: es) t)
    (hst : starEach (e :: es) X.env = (false, eval e X.env) :: starEach es X.env := by rfl) (hpl : (backTo pos (starEach es X.env)).any (·.1) = false := by rfl)
    (ht : eval (.Call (.Attribute o m apos) (e :: es) [] pos) X.env = (do
      let ov ← eval o X.env
      standAt apos.atName
      let (f, first) ← holding [ov] (getMethod ov m pl)
      callWith pos f first (backTo pos (starEach (e :: es) X.env)) (backToKw pos (keywordEach [] X.env))) := by rfl) : PE X (.Call (.Attribute o m apos) (e :: es) [] pos) (tMeth C m sp [] E0 ta t) := by
  obtain ⟨f, fd, hc, hm, hb, F⟩ := c.ex
  exact pe_meth he hc hm F hr hb .nil pass0 ha hst hpl ht
theorem pe_calM0 {pl : Sem Bool} (he : PE X o ta) (c : CalM X.prog X.w X.K X.mg X.base C m k ps sp) (hr : Room k X.A)
    (ht : eval (.Call (.Attribute o m apos) [] [] pos) X.env = (do
      let ov ← eval o X.env
      standAt apos.atName
      let (f, first) ← holding [ov] (getMethod ov m pl)
      callWith pos f first (backTo pos (starEach [] X.env)) (backToKw pos (keywordEach [] X.env))) := by rfl) : PE X (.Call (.Attribute o m apos) [] [] pos) (tMeth C m sp [] E0 ta tNil) := by
  obtain ⟨f, fd, hc, hm, hb, F⟩ := c.ex
  exact pe_meth0 he hc hm F hr hb .nil pass0 ht
theorem pe_calC (c : CalC X.prog X.w X.K X.mg X.base x C k ps sp) (hr : Room (k + 1) X.A) (hg : Gl X x) (ha : PA X (e :: es) t) (hdb : (x == ("__debug__" : Str)) = false := by decide)
    (he : starEach (e :: es) X.env = (false, eval e X.env) :: starEach es X.env := by rfl) (hpl : (backTo pos (starEach es X.env)).any (·.1) = false := by rfl) : PE X (.Call (.Name x p) (e :: es) [] pos) (tMake C sp [] E0 t) := by
  obtain ⟨f, fd, hm, M, hb, F⟩ := c.ex
  exact pe_make M F hr hg hm hb .nil pass0 ha hdb he hpl
theorem pe_calC0 (c : CalC X.prog X.w X.K X.mg X.base x C k ps sp) (hr : Room (k + 1) X.A) (hg : Gl X x) (hdb : (x == ("__debug__" : Str)) = false := by decide) : PE X (.Call (.Name x p) [] [] pos) (tMake C sp [] E0 tNil) := by
  obtain ⟨f, fd, hm, M, hb, F⟩ := c.ex
  exact pe_make0 M F hr hg hm hb .nil pass0 hdb
end

/-! ### readings that compute -/
def rAddA : R2 := fun x y H Q => match x, y with
  | .int a, .int b => Q (.int (a + b)) H
  | .str a, .str b => a.length + b.length ≤ sizeLine ∧ Q (.str (a ++ b)) H
  | .ref p, .ref q => (match H p, H q with
    | some (.lst xs), some (.lst ys) => xs.length + ys.length ≤ sizeLine ∧ ∀ r, H r = none → Q (.ref r) (upd H r (.lst (xs ++ ys)))
    | _, _ => False)
  | _, _ => False
def rMulA : R2 := fun x y H Q => match x, y with
  | .int a, .int b => CMul a b ∧ Q (.int (a * b)) H
  | .ref p, .int k => (match H p with
    | some (.lst xs) => -(2 ^ 63) ≤ k ∧ k < 2 ^ 63 ∧ xs.length * k.toNat ≤ sizeLine ∧ ∀ r, H r = none → Q (.ref r) (upd H r (.lst (List.replicate k.toNat xs).flatten))
    | _ => False)
  | _, _ => False
def eqF : V → V → Option Bool
  | .int a, .int b => some (decide (a = b))
  | .str a, .str b => some (decide (a = b))
  | .bl a, .bl b => some (decide (a = b))
  | .non, .non => some true
  | .non, .int _ => some false
  | .int _, .non => some false
  | .non, .str _ => some false
  | .str _, .non => some false
  | .non, .bl _ => some false
  | .bl _, .non => some false
  | .int _, .str _ => some false
  | .str _, .int _ => some false
  | _, _ => none
def rEqA (K : PySem.W.Frag) : R2 := fun x y H Q => match eqF x y with
  | some b => Q (.bl b) H
  | none => rEqD K x y H Q
def rNeA (K : PySem.W.Frag) : R2 := fun x y H Q => match eqF x y with
  | some b => Q (.bl (!b)) H
  | none => rNeD K x y H Q
def rIsN : R2 := fun x y H Q => y = .non ∧ Q (.bl (decide (x = .non))) H
def rNotN : R2 := fun x y H Q => y = .non ∧ Q (.bl (!decide (x = .non))) H
/-- an item of a list, a tuple, a text -/
def rIxA : R2 := fun x y H Q => match x, y with
  | .ref p, .int i => (match H p with
    | some (.lst xs) => ∃ v, atI xs i = some v ∧ Q v H
    | some (.tup xs) => ∃ v, atI xs i = some v ∧ Q v H
    | _ => False)
  | .str z, .int i => z.length ≤ sizeLine ∧ ∃ c, atI z.cps.toList i = some c ∧ Q (.str ⟨#[c]⟩) H
  | _, _ => False
def rSlA : V → Option Int → Option Int → Hp → VK → Prop := fun x lo hi H Q => match x with
  | .ref p => (match H p with
    | some (.lst xs) => ∀ q, H q = none → Q (.ref q) (upd H q (.lst (cutV xs lo hi)))
    | some (.tup xs) => ¬ (HT.sIx xs.length 0 lo = 0 ∧ HT.sIx xs.length xs.length hi = xs.length) ∧ ∀ q, H q = none → Q (.ref q) (upd H q (.tup (cutV xs lo hi)))
    | _ => False)
  | _ => False
def rLenA : List V → Hp → VK → Prop := fun vs H Q => match vs with
  | [.str y] => y.length ≤ sizeLine ∧ Q (.int y.length) H
  | [.ref p] => (match H p with
    | some (.lst xs) => Q (.int xs.length) H
    | some (.tup xs) => Q (.int xs.length) H
    | some (.dK kvs) => Q (.int kvs.length) H
    | _ => False)
  | _ => False
def rIntA : List V → Hp → VK → Prop := fun vs H Q => match vs with
  | [.int i] => Q (.int i) H
  | [.bl k] => Q (.int (if k = true then 1 else 0)) H
  | _ => False
def rAbsA : List V → Hp → VK → Prop := fun vs H Q => match vs with
  | [.int i] => Q (.int (if i < 0 then -i else i)) H
  | _ => False
def rListA : List V → Hp → VK → Prop := fun vs H Q => match vs with
  | [.ref p] => (match H p with
    | some (.lst xs) => ∀ l, H l = none → Q (.ref l) (upd H l (.lst xs))
    | some (.tup xs) => ∀ l, H l = none → Q (.ref l) (upd H l (.lst xs))
    | _ => False)
  | _ => False
def rTupA : List V → Hp → VK → Prop := fun vs H Q => match vs with
  | [.ref p] => (match H p with
    | some (.lst xs) => ∀ l, H l = none → Q (.ref l) (upd H l (.tup xs))
    | some (.tup _) => Q (.ref p) H
    | _ => False)
  | _ => False
def tyN (x : V) (H : Hp) : Option String := match x with
  | .non => some "NoneType"
  | .bl _ => some "bool"
  | .int _ => some "int"
  | .str _ => some "str"
  | .ref p => (match H p with
    | some (.lst _) => some "list"
    | some (.tup _) => some "tuple"
    | some (.dK _) => some "dict"
    | some (.dT _) => some "dict"
    | _ => none)
  | _ => none
def rIsiA : List V → Hp → VK → Prop := fun vs H Q => match vs with
  | [x, .ty T] => (match tyN x H with
    | some t => ∃ b, kitB t T = some b ∧ Q (.bl b) H
    | none => False)
  | _ => False
def isL (x : V) (H : Hp) : Prop := match x with
  | .ref p => (match H p with
    | some (.lst _) => True
    | _ => False)
  | _ => False
/-- a method of a list -/
def tBML (r : V → List V → Hp → VK → Prop) (to : TE) (t : TA) : TE := fun σ H Q => to σ H fun x H1 => isL x H1 ∧ t σ H1 fun xs H2 => r x xs H2 Q
def rAppA : V → List V → Hp → VK → Prop := fun x vs H Q => match x, vs with
  | .ref l, [y] => (match H l with
    | some (.lst xs) => xs.length < sizeLine ∧ Q .non (upd H l (.lst (xs ++ [y])))
    | _ => False)
  | _, _ => False
def rExtA : V → List V → Hp → VK → Prop := fun x vs H Q => match x, vs with
  | .ref l, [.ref q] => (match H l, H q with
    | some (.lst xs), some (.lst ys) => xs.length + ys.length ≤ sizeLine ∧ Q .non (upd H l (.lst (xs ++ ys)))
    | _, _ => False)
  | _, _ => False
def rPopL : V → List V → Hp → VK → Prop := fun x vs H Q => match x, vs with
  | .ref l, [] => (match H l with
    | some (.lst xs) => ∃ y, xs[xs.length - 1]? = some y ∧ Q y (upd H l (.lst xs.dropLast))
    | _ => False)
  | _, _ => False
def rPopI : V → List V → Hp → VK → Prop := fun x vs H Q => match x, vs with
  | .ref l, [.int i] => (match H l with
    | some (.lst xs) => ∃ (k : Nat) (y : V), i = (k : Int) ∧ k < 2 ^ 62 ∧ xs[k]? = some y ∧ Q y (upd H l (.lst (xs.eraseIdx k)))
    | _ => False)
  | _, _ => False
def rSetA : TSet := fun o i v H Q => match o, i with
  | .ref p, .int k => (match H p with
    | some (.lst xs) => ∃ j, ixN xs.length k = some j ∧ Q (upd H p (.lst (xs.set j v)))
    | _ => False)
  | _, _ => False
section
variable {X : Cx}
theorem op_addA : OpR X (binaryOp .Add) rAddA := by
  intro pins s σ H x y v u Q I rx ry h
  unfold rAddA at h
  split at h
  · exact op_add pins s σ H _ _ v u Q I rx ry ⟨_, _, rfl, rfl, h⟩
  · exact op_add_str pins s σ H _ _ v u Q I rx ry ⟨_, _, rfl, rfl, h⟩
  · split at h
    · rename_i h1 h2
      exact op_cat pins s σ H _ _ v u Q I rx ry ⟨_, _, _, _, rfl, rfl, h1, h2, h⟩
    · exact h.elim
  · exact h.elim
theorem op_mulA : OpR X (binaryOp .Mult) rMulA := by
  intro pins s σ H x y v u Q I rx ry h
  unfold rMulA at h
  split at h
  · exact op_mul pins s σ H _ _ v u Q I rx ry ⟨_, _, rfl, rfl, h⟩
  · split at h
    · rename_i h1
      exact op_rep pins s σ H _ _ v u Q I rx ry ⟨_, _, _, rfl, rfl, h1, h⟩
    · exact h.elim
  · exact h.elim
theorem eqF_ok {x y : V} {b : Bool} (h : eqF x y = some b) : scal x y = true ∧ decide (x = y) = b := by
  cases x <;> cases y <;> simp only [eqF, Option.some.injEq, reduceCtorEq] at h <;> (subst h; refine ⟨rfl, ?_⟩; simp)
theorem op_eqA (hu : X.A.units + 64 < cLine) : OpR X (compareOp .Eq) (rEqA X.K) := by
  intro pins s σ H x y v u Q I rx ry h
  unfold rEqA at h
  split at h
  · rename_i b e
    obtain ⟨h1, h2⟩ := eqF_ok e
    exact op_eq pins s σ H x y v u Q I rx ry ⟨h1, by rw [h2]; exact h⟩
  · exact op_eqD hu pins s σ H x y v u Q I rx ry h
theorem op_neA (hu : X.A.units + 64 < cLine) : OpR X (compareOp .NotEq) (rNeA X.K) := by
  intro pins s σ H x y v u Q I rx ry h
  unfold rNeA at h
  split at h
  · rename_i b e
    obtain ⟨h1, h2⟩ := eqF_ok e
    exact op_ne pins s σ H x y v u Q I rx ry ⟨h1, by rw [h2]; exact h⟩
  · exact op_neD hu pins s σ H x y v u Q I rx ry h
theorem op_isNA : OpR X (compareOp .Is) rIsN := op_isN
theorem op_notNA : OpR X (compareOp .IsNot) rNotN := op_notN
theorem ix_A : IxR X rIxA := by
  intro value slice pins s σ H x y v u Q I rx ry h hs
  unfold rIxA at h
  split at h
  · split at h
    · rename_i h1
      obtain ⟨w, h2, h3⟩ := h
      exact ix_list value slice pins s σ H _ _ v u Q I rx ry ⟨_, _, _, _, rfl, rfl, SqL.of h1, h2, h3⟩ hs
    · rename_i h1
      obtain ⟨w, h2, h3⟩ := h
      exact ix_tup value slice pins s σ H _ _ v u Q I rx ry ⟨_, _, _, _, rfl, rfl, SqT.of h1, h2, h3⟩ hs
    · exact h.elim
  · obtain ⟨h1, c, h2, h3⟩ := h
    exact ix_str value slice pins s σ H _ _ v u Q I rx ry ⟨_, _, _, rfl, rfl, h1, h2, h3⟩ hs
  · exact h.elim
theorem sl_A : SlR X rSlA := by
  intro pins s σ H x v vl vu lo hi sl Q I rx hs pl pu h
  unfold rSlA at h
  split at h
  · split at h
    · rename_i h1
      exact sl_list pins s σ H _ v vl vu lo hi sl Q I rx hs pl pu ⟨_, _, rfl, SqL.of h1, h⟩
    · rename_i h1
      exact sl_tup pins s σ H _ v vl vu lo hi sl Q I rx hs pl pu ⟨_, _, rfl, SqT.of h1, h⟩
    · exact h.elim
  · exact h.elim
theorem call_lenA : CallR X (.builtin "len") rLenA := by
  intro pins s σ H vs us Q I r h
  unfold rLenA at h
  split at h
  · exact call_len_str pins s σ H _ us Q I r ⟨_, rfl, h⟩
  · split at h
    · rename_i h1
      exact call_len_seq pins s σ H _ us Q I r ⟨_, _, rfl, .inl (SqL.of h1), h⟩
    · rename_i h1
      exact call_len_seq pins s σ H _ us Q I r ⟨_, _, rfl, .inr (SqT.of h1), h⟩
    · rename_i h1
      exact call_lenD pins s σ H _ us Q I r ⟨_, _, rfl, h1, h⟩
    · exact h.elim
  · exact h.elim
theorem call_intA : CallR X (.type "int") rIntA := by
  intro pins s σ H vs us Q I r h
  unfold rIntA at h
  split at h
  · exact call_int1 pins s σ H _ us Q I r (.inl ⟨_, rfl, h⟩)
  · exact call_int1 pins s σ H _ us Q I r (.inr ⟨_, rfl, h⟩)
  · exact h.elim
theorem call_absA : CallR X (.builtin "abs") rAbsA := by
  intro pins s σ H vs us Q I r h
  unfold rAbsA at h
  split at h
  · exact call_abs pins s σ H _ us Q I r ⟨_, rfl, h⟩
  · exact h.elim
theorem call_listA : CallR X (.type "list") rListA := by
  intro pins s σ H vs us Q I r h
  unfold rListA at h
  split at h
  · split at h
    · rename_i h1
      exact call_list_of pins s σ H _ us Q I r ⟨_, _, rfl, .inl (SqL.of h1), h⟩
    · rename_i h1
      exact call_list_of pins s σ H _ us Q I r ⟨_, _, rfl, .inr (SqT.of h1), h⟩
    · exact h.elim
  · exact h.elim
theorem call_tupA : CallR X (.type "tuple") rTupA := by
  intro pins s σ H vs us Q I r h
  unfold rTupA at h
  split at h
  · split at h
    · rename_i h1
      exact call_tuple_of pins s σ H _ us Q I r ⟨_, _, rfl, .inl ⟨SqL.of h1, h⟩⟩
    · rename_i h1
      exact call_tuple_of pins s σ H _ us Q I r ⟨_, _, rfl, .inr ⟨SqT.of h1, h⟩⟩
    · exact h.elim
  · exact h.elim
theorem tyN_ok {K : PySem.W.Frag} {x : V} {H : Hp} {t : String} (h : tyN x H = some t) : TyX K H x (.type t) := by
  unfold tyN at h
  split at h
  · cases h; exact .base .non
  · cases h; exact .base (.bl _)
  · cases h; exact .base (.int _)
  · cases h; exact .base (.str _)
  · split at h
    · rename_i h1; cases h; exact .base (.lst h1)
    · rename_i h1; cases h; exact .base (.tup h1)
    · rename_i h1; cases h; exact .base (.dK h1)
    · rename_i h1; cases h; exact .base (.dT h1)
    · cases h
  · cases h
theorem call_isiA : CallR X (.builtin "isinstance") rIsiA := by
  intro pins s σ H vs us Q I r h
  unfold rIsiA at h
  split at h
  · split at h
    · rename_i h1
      obtain ⟨b, h2, h3⟩ := h
      exact call_isi pins s σ H _ us Q I r ⟨_, _, _, _, b, rfl, .ty _, tyN_ok h1, kit_ty h2, h3⟩
    · exact h.elim
  · exact h.elim
theorem isL_ty {K : PySem.W.Frag} {x : V} {H : Hp} (h : isL x H) : tyV K "list" x H := by
  unfold isL at h
  split at h
  · split at h
    · rename_i h1
      exact .inl ⟨rfl, _, SqL.of h1⟩
    · exact h.elim
  · exact h.elim
theorem mt_appA : MtR X "list.append" rAppA := by
  intro pins s σ H x vs v us Q I rx rv h
  unfold rAppA at h
  split at h
  · split at h
    · rename_i h1
      exact mt_append pins s σ H _ _ v us Q I rx rv ⟨_, _, _, rfl, rfl, h1, h⟩
    · exact h.elim
  · exact h.elim
theorem mt_extA : MtR X "list.extend" rExtA := by
  intro pins s σ H x vs v us Q I rx rv h
  unfold rExtA at h
  split at h
  · split at h
    · rename_i h1 h2
      exact mt_extend pins s σ H _ _ v us Q I rx rv ⟨_, _, _, _, rfl, rfl, h1, h2, h⟩
    · exact h.elim
  · exact h.elim
theorem mt_popL : MtR X "list.pop" rPopL := by
  intro pins s σ H x vs v us Q I rx rv h
  unfold rPopL at h
  split at h
  · split at h
    · rename_i h1
      obtain ⟨y, h2, h3⟩ := h
      exact mt_pop pins s σ H _ _ v us Q I rx rv ⟨_, _, _, rfl, rfl, h1, h2, h3⟩
    · exact h.elim
  · exact h.elim
theorem seqIx_nat {n k : Nat} (h : k < n) : seqIndex? (k : Int) n = some k := by
  obtain ⟨h1, _⟩ := ixN_seq (n := n) (i := (k : Int)) (j := k) (by unfold ixN; rw [if_pos (by omega), if_pos (by omega)]; simp)
  exact h1
theorem mt_popI : MtR X "list.pop" rPopI := by
  intro pins s σ H x vs v us Q I rx rv h
  unfold rPopI at h
  split at h
  · split at h
    · rename_i h1
      obtain ⟨k, y, h2, h3, h4, h5⟩ := h
      have hk := (List.getElem?_eq_some_iff.mp h4).1
      subst h2
      exact mt_popAt pins s σ H _ _ v us Q I rx rv ⟨_, _, _, k, y, rfl, rfl, h1, by omega, by omega, seqIx_nat hk, h4, h5⟩
    · exact h.elim
  · exact h.elim
theorem set_A : PSet X rSetA := by
  intro pins s σ H o i v ov iv u Q I ro ri rv h
  unfold rSetA at h
  split at h
  · split at h
    · rename_i h1
      obtain ⟨j, h2, h3⟩ := h
      exact set_list pins s σ H _ _ v ov iv u Q I ro ri rv ⟨_, _, _, _, rfl, rfl, h1, h2, h3⟩
    · exact h.elim
  · exact h.elim
variable {o e : Expr} {es : List Expr} {to : TE} {t : TA} {name : Str} {apos cpos : Pos} {id : String} {r : V → List V → Hp → VK → Prop}
theorem pe_bml0 (slot : Slot "list" name id) (hty : typeOf (.builtin id) = pure (.type "method_descriptor")) (hm : MtR X id r) (ho : PE X o to)
    (hbase : attributeBase o name X.env (eval o X.env) = eval o X.env := by rfl) (hline : (apos.endLine == cpos.line) = true := by rfl) : PE X (.Call (.Attribute o name apos) [] [] cpos) (tBML r to tNil) :=
  pe_imp (pe_bm0 PySem.F.plainAttrs_list slot hty hm (pe_up ho) hbase hline) fun σ H Q h => ⟨_, h, fun x H' q => ⟨isL_ty q.1, q.2⟩⟩
theorem pe_bml (slot : Slot "list" name id) (hty : typeOf (.builtin id) = pure (.type "method_descriptor")) (hm : MtR X id r) (ho : PE X o to) (ha : PA X (e :: es) t)
    (hbase : attributeBase o name X.env (eval o X.env) = eval o X.env := by rfl)
    (hfew : ((backTo cpos (starEach (e :: es) X.env)).all (fun x => !x.1) && (backToKw cpos (keywordEach [] X.env)).all (fun x => x.1.isSome)
      && decide ((e :: es).length + ([] : List Keyword).length + (if ([] : List Keyword).isEmpty then 0 else 1) < 30)) = true := by rfl)
    (hline : (apos.endLine == cpos.line) = true := by rfl) (hs : starEach (e :: es) X.env = (false, eval e X.env) :: starEach es X.env := by rfl) (hplain : (backTo cpos (starEach es X.env)).any (·.1) = false := by rfl) :
    PE X (.Call (.Attribute o name apos) (e :: es) [] cpos) (tBML r to t) :=
  pe_imp (pe_bm PySem.F.plainAttrs_list slot hty hm (pe_up ho) ha hbase hfew hline hs hplain) fun σ H Q h => ⟨_, h, fun x H' q => ⟨isL_ty q.1, q.2⟩⟩
end
end Lb
set_option Elab.async false
set_option linter.all false
set_option maxRecDepth 100000
set_option maxHeartbeats 4000000
/-! Lc: what simp steps by, data in the heap, mutable places, the drawing of numbers. Knows no program. -/
namespace Lb
open PySem PySem.Spec PyProof.Rows L2

/-! ### steps of the readings, each at its arguments -/
section
variable {σ : L2.St} {H : Hp} {Q : VK} {D : Ends}
theorem ap_seq {t u : TS} : tSeq t u D σ H = t { D with nx := u D } σ H := rfl
theorem ap_asg {te : TE} {g : TG} : tAsg te g D σ H = te σ H fun x H1 => g x σ H1 D.nx := rfl
theorem ap_gname {i : Nat} {v : V} {R : L2.St → Hp → Prop} : gName i v σ H R = R (σ.set i (some v)) H := rfl
theorem ap_var {i : Nat} : tVar i σ H Q = ∃ v, σ[i]? = some (some v) ∧ Q v H := rfl
theorem ap_c {v : V} : tC v σ H Q = Q v H := rfl
theorem ap_op {r : R2} {ta tb : TE} : tOp r ta tb σ H Q = ta σ H fun x H1 => tb σ H1 fun y H2 => r x y H2 Q := rfl
theorem ap_un {r : V → Hp → VK → Prop} {ta : TE} : tUn r ta σ H Q = ta σ H fun x H1 => r x H1 Q := rfl
theorem ap_rU {g : Int → V} {i : Int} : rU g (.int i) H Q = Q (g i) H := by
  apply propext
  constructor
  · rintro ⟨j, e, q⟩
    cases e
    exact q
  · intro q
    exact ⟨_, rfl, q⟩
theorem ap_rI0 {g : Int → Int → V} {i j : Int} : rI0 g (.int i) (.int j) H Q = Q (g i j) H := by
  apply propext
  constructor
  · rintro ⟨a, b, e1, e2, q⟩
    cases e1
    cases e2
    exact q
  · intro q
    exact ⟨_, _, rfl, rfl, q⟩
theorem ap_rI {C : Int → Int → Prop} {g : Int → Int → V} {i j : Int} : rI C g (.int i) (.int j) H Q = (C i j ∧ Q (g i j) H) := by
  apply propext
  constructor
  · rintro ⟨a, b, e1, e2, q⟩
    cases e1
    cases e2
    exact q
  · intro q
    exact ⟨_, _, rfl, rfl, q⟩
theorem ap_ifS {c : TT} {t u : TS} : tIfS c t u D σ H = c σ H fun b H1 => if b = true then t D σ H1 else u D σ H1 := rfl
theorem ap_test {t : TE} {R : Bool → Hp → Prop} : tTest t σ H R = t σ H fun x H' => ∃ k, x = .bl k ∧ R k H' := rfl
theorem ap_B {t : TE} {R : Bool → Hp → Prop} : tB t σ H R = t σ H fun x H' => ∃ k, x = .bl k ∧ R k H' := rfl
theorem ap_bl {b : Bool} {R : Bool → Hp → Prop} : (∃ k, V.bl b = .bl k ∧ R k H) = R b H := by
  apply propext
  constructor
  · rintro ⟨k, e, q⟩
    cases e
    exact q
  · intro q
    exact ⟨_, rfl, q⟩
theorem ap_ret {te : TE} : tRet te D σ H = te σ H D.rt := rfl
theorem ap_retN : tRetN D σ H = D.rt .non H := rfl
theorem ap_drop {te : TE} : tDrop te D σ H = te σ H fun _ H1 => D.nx σ H1 := rfl
theorem ap_next : tNext D σ H = D.nx σ H := rfl
theorem ap_brk : tBreak D σ H = D.bk σ H := rfl
theorem ap_cnt : tCont D σ H = D.ct σ H := rfl
theorem ap_and {t u : TT} {R : Bool → Hp → Prop} : tAnd t u σ H R = t σ H fun c H1 => if c = true then u σ H1 R else R false H1 := rfl
theorem ap_or {t u : TT} {R : Bool → Hp → Prop} : tOr t u σ H R = t σ H fun c H1 => if c = true then R true H1 else u σ H1 R := rfl
theorem ap_not {t : TT} {R : Bool → Hp → Prop} : tNot t σ H R = t σ H fun c H1 => R (!c) H1 := rfl
theorem ap_andV {ta tb : TE} : tAndV ta tb σ H Q = ta σ H fun x H1 => ∃ c, x = .bl c ∧ if c = true then tb σ H1 Q else Q (.bl false) H1 := rfl
theorem ap_orV {ta tb : TE} : tOrV ta tb σ H Q = ta σ H fun x H1 => ∃ c, x = .bl c ∧ if c = true then Q (.bl true) H1 else tb σ H1 Q := rfl
theorem ap_notV {ta : TE} : tNotV ta σ H Q = ta σ H fun x H1 => ∃ c, x = .bl c ∧ Q (.bl (!c)) H1 := rfl
theorem ap_if {t : TT} {ta tb : TE} : tIf t ta tb σ H Q = t σ H fun c H1 => if c = true then ta σ H1 Q else tb σ H1 Q := rfl
theorem ap_call {sp : Sp} {dvs : List V} {E : XK} {t : TA} : tCall sp dvs E t σ H Q = t σ H fun vs H1 => sp (vs ++ dvs) H1 Q E := rfl
theorem ap_cb {r : List V → Hp → VK → Prop} {t : TA} : tCB r t σ H Q = t σ H fun vs H1 => r vs H1 Q := rfl
theorem ap_cons {ta : TE} {tr : TA} {R : List V → Hp → Prop} : tCons ta tr σ H R = ta σ H fun x H1 => tr σ H1 fun xs H2 => R (x :: xs) H2 := rfl
theorem ap_nil {R : List V → Hp → Prop} : tNil σ H R = R [] H := rfl
theorem ap_tup {t : TA} : tTup t σ H Q = t σ H fun xs H1 => xs.length ≤ sizeLine ∧ ∀ p, H1 p = none → Q (.ref p) (upd H1 p (.tup xs)) := rfl
theorem ap_lst {t : TA} : tLst t σ H Q = t σ H fun xs H1 => xs.length ≤ sizeLine ∧ ∀ p, H1 p = none → Q (.ref p) (upd H1 p (.lst xs)) := rfl
theorem ap_bml {r : V → List V → Hp → VK → Prop} {to : TE} {t : TA} : tBML r to t σ H Q = to σ H fun x H1 => isL x H1 ∧ t σ H1 fun xs H2 => r x xs H2 Q := rfl
theorem ap_gsub {to ti : TE} {t : TSet} {v : V} {R : L2.St → Hp → Prop} : gSub to ti t v σ H R = to σ H fun o H1 => ti σ H1 fun i H2 => t o i v H2 fun H3 => R σ H3 := rfl
theorem ap_sl {r : V → Option Int → Option Int → Hp → VK → Prop} {te : TE} {tl th : TO} : tSl r te tl th σ H Q = te σ H fun x H1 => tl σ H1 fun l H2 => th σ H2 fun u H3 => r x l u H3 Q := rfl
theorem ap_nop {R : Option Int → Hp → Prop} : tNoPart σ H R = R none H := rfl
theorem ap_part {t : TE} {R : Option Int → Hp → Prop} : tPart t σ H R = t σ H fun x H1 => ∃ i, x = .int i ∧ R (some i) H1 := rfl
theorem ap_prt {i : Int} {R : Option Int → Hp → Prop} : (∃ j, V.int i = .int j ∧ R (some j) H) = R (some i) H := by
  apply propext
  constructor
  · rintro ⟨k, e, q⟩
    cases e
    exact q
  · intro q
    exact ⟨_, rfl, q⟩
theorem ap_isN {x : V} : rIsN x .non H Q = Q (.bl (decide (x = .non))) H := by
  apply propext
  constructor
  · rintro ⟨_, q⟩
    exact q
  · intro q
    exact ⟨rfl, q⟩
theorem ap_notN {x : V} : rNotN x .non H Q = Q (.bl (!decide (x = .non))) H := by
  apply propext
  constructor
  · rintro ⟨_, q⟩
    exact q
  · intro q
    exact ⟨rfl, q⟩
theorem ap_yes {R : Bool → Hp → Prop} : tYes σ H R = R true H := rfl
theorem ap_rng1 {ta : TA} {R : It → Hp → Prop} : iRng1 ta σ H R = ta σ H fun vs H1 => ∃ j : Int, vs = [.int j] ∧ -(2 ^ 62) ≤ j ∧ j < 2 ^ 62 ∧ R (Itr 0 j.toNat) H1 := rfl
theorem ap_rng1' {j : Int} {R : It → Hp → Prop} : (∃ i : Int, [V.int j] = [.int i] ∧ -(2 ^ 62) ≤ i ∧ i < 2 ^ 62 ∧ R (Itr 0 i.toNat) H) = (-(2 ^ 62) ≤ j ∧ j < 2 ^ 62 ∧ R (Itr 0 j.toNat) H) := by
  apply propext
  constructor
  · rintro ⟨k, e, q⟩
    cases e
    exact q
  · intro q
    exact ⟨_, rfl, q⟩
theorem ite_tt {A B : Prop} : (if true = true then A else B) = A := if_pos rfl
theorem ite_ff {A B : Prop} : (if false = true then A else B) = B := if_neg Bool.false_ne_true
end

/-! ### heaps that grow -/
theorem Same.newp {H : Hp} {p : Addr} {o : HO} (h : H p = none) : Same H (upd H p o) := fun b u e => by
  rw [upd_ne (ne_of_none e h)]
  exact e
/-- the heap without the places of S -/
def hid (S : List Addr) (H : Hp) : Hp := fun b => if b ∈ S then none else H b
theorem hid_out {S : List Addr} {H : Hp} {b : Addr} (h : b ∉ S) : hid S H b = H b := if_neg h
theorem hid_in {S : List Addr} {H : Hp} {b : Addr} (h : b ∈ S) : hid S H b = none := if_pos h
theorem hid_sub {S : List Addr} {H : Hp} : Same (hid S H) H := fun b o e => by
  by_cases h : b ∈ S
  · rw [hid_in h] at e
    cases e
  · rw [hid_out h] at e
    exact e
theorem hid_some {S : List Addr} {H : Hp} {b : Addr} {o : HO} (h : hid S H b = some o) : H b = some o ∧ b ∉ S := by
  by_cases q : b ∈ S
  · rw [hid_in q] at h
    cases h
  · rw [hid_out q] at h
    exact ⟨h, q⟩
theorem hid_upd {S : List Addr} {H : Hp} {a : Addr} {o : HO} (h : a ∈ S) : hid S (upd H a o) = hid S H := by
  funext b
  by_cases q : b ∈ S
  · rw [hid_in q, hid_in q]
  · rw [hid_out q, hid_out q, upd_ne fun e => q (by rw [e]; exact h)]
theorem hid_updN {S : List Addr} {H : Hp} {a : Addr} {o : HO} (h : a ∉ S) : hid S (upd H a o) = upd (hid S H) a o := by
  funext b
  by_cases q : b ∈ S
  · rw [hid_in q, upd_ne (fun e => h (by rw [← e]; exact q)), hid_in q]
  · rw [hid_out q]
    by_cases e : b = a
    · rw [e, upd_same, upd_same]
    · rw [upd_ne e, upd_ne e, hid_out q]
theorem hid_eq {S : List Addr} {H H' : Hp} (h : ∀ b, b ∉ S → H' b = H b) : hid S H' = hid S H := by
  funext b
  by_cases q : b ∈ S
  · rw [hid_in q, hid_in q]
  · rw [hid_out q, hid_out q, h b q]
theorem hid_mono {S S' : List Addr} {H : Hp} (h : ∀ b, b ∈ S → b ∈ S') : Same (hid S' H) (hid S H) := fun b o e => by
  obtain ⟨e1, e2⟩ := hid_some e
  rw [hid_out fun q => e2 (h b q)]
  exact e1
theorem Same.hid {S : List Addr} {H H' : Hp} (h : Same H H') : Same (hid S H) (hid S H') := fun b o e => by
  obtain ⟨e1, e2⟩ := hid_some e
  rw [hid_out e2]
  exact h b o e1

/-! ### data -/
mutual
inductive Dt (H : Hp) : V → PyData → Prop
  | non : Dt H .non .none
  | bl (b : Bool) : Dt H (.bl b) (.bool b)
  | int (i : Int) : Dt H (.int i) (.int i)
  | str (x : Str) : Dt H (.str x) (.str x)
  | lst {a : Addr} {xs : List V} {ds : List PyData} : H a = some (.lst xs) → DtAll H xs ds → Dt H (.ref a) (.list ds)
  | tup {a : Addr} {xs : List V} {ds : List PyData} : H a = some (.tup xs) → DtAll H xs ds → Dt H (.ref a) (.tuple ds)
inductive DtAll (H : Hp) : List V → List PyData → Prop
  | nil : DtAll H [] []
  | cons {v : V} {vs : List V} {d : PyData} {ds : List PyData} : Dt H v d → DtAll H vs ds → DtAll H (v :: vs) (d :: ds)
end
mutual
theorem Dt.mono {H H' : Hp} (e : Same H H') : ∀ {v : V} {d : PyData}, Dt H v d → Dt H' v d
  | _, _, .non => .non
  | _, _, .bl b => .bl b
  | _, _, .int i => .int i
  | _, _, .str x => .str x
  | _, _, .lst h k => .lst (e _ _ h) (DtAll.mono e k)
  | _, _, .tup h k => .tup (e _ _ h) (DtAll.mono e k)
theorem DtAll.mono {H H' : Hp} (e : Same H H') : ∀ {vs : List V} {ds : List PyData}, DtAll H vs ds → DtAll H' vs ds
  | _, _, .nil => .nil
  | _, _, .cons h k => .cons (Dt.mono e h) (DtAll.mono e k)
end
mutual
theorem Dt.dp {K : PySem.W.Frag} {H : Hp} : ∀ {v : V} {d : PyData}, Dt H v d → Dp K H v d
  | _, _, .non => .non
  | _, _, .bl b => .bl b
  | _, _, .int i => .int i
  | _, _, .str x => .str x
  | _, _, .lst h k => .lst (SqL.of h) (DtAll.dp k)
  | _, _, .tup h k => .tup (SqT.of h) (DtAll.dp k)
theorem DtAll.dp {K : PySem.W.Frag} {H : Hp} : ∀ {vs : List V} {ds : List PyData}, DtAll H vs ds → DpAll K H vs ds
  | _, _, .nil => .nil
  | _, _, .cons h k => .cons (Dt.dp h) (DtAll.dp k)
end
section
variable {H : Hp}
theorem DtAll.append : ∀ {xs ys : List V} {ds es : List PyData}, DtAll H xs ds → DtAll H ys es → DtAll H (xs ++ ys) (ds ++ es)
  | _, _, _, _, .nil, k => k
  | _, _, _, _, .cons a b, k => .cons a (DtAll.append b k)
theorem DtAll.length : ∀ {xs : List V} {ds : List PyData}, DtAll H xs ds → xs.length = ds.length
  | _, _, .nil => rfl
  | _, _, .cons _ k => by rw [List.length_cons, List.length_cons, DtAll.length k]
theorem DtAll.get : ∀ {xs : List V} {ds : List PyData} {i : Nat} {d : PyData}, DtAll H xs ds → ds[i]? = some d → ∃ v, xs[i]? = some v ∧ Dt H v d
  | _, _, _, _, .nil, e => by simp at e
  | _, _, 0, _, .cons a _, e => by simp at e; subst e; exact ⟨_, rfl, a⟩
  | _, _, i + 1, d, .cons _ k, e => by
    obtain ⟨v, h1, h2⟩ := DtAll.get (i := i) (d := d) k (by simpa using e)
    exact ⟨v, by simpa using h1, h2⟩
theorem DtAll.get' : ∀ {xs : List V} {ds : List PyData} {i : Nat} {v : V}, DtAll H xs ds → xs[i]? = some v → ∃ d, ds[i]? = some d ∧ Dt H v d
  | _, _, _, _, .nil, e => by simp at e
  | _, _, 0, _, .cons a _, e => by simp at e; subst e; exact ⟨_, rfl, a⟩
  | _, _, i + 1, v, .cons _ k, e => by
    obtain ⟨d, h1, h2⟩ := DtAll.get' (i := i) (v := v) k (by simpa using e)
    exact ⟨d, by simpa using h1, h2⟩
theorem DtAll.ints : ∀ ns : List Int, DtAll H (ns.map V.int) (ns.map PyData.int)
  | [] => .nil
  | n :: r => .cons (.int n) (DtAll.ints r)
theorem DtAll.intsI : ∀ {ns : List Int} {vs : List V}, DtAll H vs (ns.map PyData.int) → vs = ns.map V.int
  | [], _, .nil => rfl
  | n :: r, _, .cons (.int _) k => by rw [DtAll.intsI k]; rfl
theorem DtAll.take : ∀ {xs : List V} {ds : List PyData} (n : Nat), DtAll H xs ds → DtAll H (xs.take n) (ds.take n)
  | _, _, 0, _ => .nil
  | _, _, _ + 1, .nil => .nil
  | _, _, n + 1, .cons a k => .cons a (DtAll.take n k)
theorem DtAll.drop : ∀ {xs : List V} {ds : List PyData} (n : Nat), DtAll H xs ds → DtAll H (xs.drop n) (ds.drop n)
  | _, _, 0, k => k
  | _, _, _ + 1, .nil => .nil
  | _, _, n + 1, .cons _ k => DtAll.drop n k
theorem DtAll.set : ∀ {xs : List V} {ds : List PyData} {v : V} {d : PyData} (i : Nat), Dt H v d → DtAll H xs ds → DtAll H (xs.set i v) (ds.set i d)
  | _, _, _, _, _, _, .nil => .nil
  | _, _, _, _, 0, h, .cons _ k => .cons h k
  | _, _, _, _, i + 1, h, .cons a k => .cons a (DtAll.set i h k)
theorem DtAll.erase : ∀ {xs : List V} {ds : List PyData} (i : Nat), DtAll H xs ds → DtAll H (xs.eraseIdx i) (ds.eraseIdx i)
  | _, _, _, .nil => .nil
  | _, _, 0, .cons _ k => k
  | _, _, i + 1, .cons a k => .cons a (DtAll.erase i k)
theorem DtAll.rev {xs : List V} {ds : List PyData} (h : DtAll H xs ds) : DtAll H xs.reverse ds.reverse := by
  induction xs generalizing ds with
  | nil => cases h; exact .nil
  | cons x r ih =>
    cases h with
    | cons a k =>
      rw [List.reverse_cons, List.reverse_cons]
      exact DtAll.append (ih k) (.cons a .nil)
end
/-- data that are equal as Python says, where it can be looked at -/
abbrev Shp (d : PyData) : Prop := SeqAt.shaped d = true
theorem eqv_self {d : PyData} (h : Shp d) : PyData.eqv d d = true := SeqAt.eqv_refl d (SeqAt.canLay_of_shaped h)
section
variable {K : PySem.W.Frag} {H : Hp} {Q : VK} {x y : V} {d e : PyData}
/-- a == b of two data -/
theorem rd_eq (hx : Dt H x d) (hy : Dt H y e) (h1 : Shp d) (h2 : Shp e) (q : Q (.bl (PyData.eqv d e)) H) : rEqA K x y H Q := by
  unfold rEqA
  split
  · rename_i b h
    obtain ⟨h3, h4⟩ := eqF_ok h
    have e1 : PyData.eqv d e = b := by
      cases hx <;> cases hy <;> simp_all [eqF, PyData.eqv] <;> (rw [← h]; exact Bool.eq_iff_iff.mpr (by simp))
    rw [← e1]
    exact q
  · exact ⟨d, e, hx.dp, hy.dp, h1, h2, q⟩
theorem rd_ne (hx : Dt H x d) (hy : Dt H y e) (h1 : Shp d) (h2 : Shp e) (q : Q (.bl (!PyData.eqv d e)) H) : rNeA K x y H Q := by
  unfold rNeA
  split
  · rename_i b h
    obtain ⟨h3, h4⟩ := eqF_ok h
    have e1 : PyData.eqv d e = b := by
      cases hx <;> cases hy <;> simp_all [eqF, PyData.eqv] <;> (rw [← h]; exact Bool.eq_iff_iff.mpr (by simp))
    rw [← e1]
    exact q
  · exact ⟨d, e, hx.dp, hy.dp, h1, h2, q⟩
/-- the same data on both sides -/
theorem rd_eqT (hx : Dt H x d) (hy : Dt H y d) (h1 : Shp d) (q : Q (.bl true) H) : rEqA K x y H Q := rd_eq hx hy h1 h1 (by rw [eqv_self h1]; exact q)
theorem rd_neF (hx : Dt H x d) (hy : Dt H y d) (h1 : Shp d) (q : Q (.bl false) H) : rNeA K x y H Q := rd_ne hx hy h1 h1 (by rw [eqv_self h1]; exact q)
end
end Lb
set_option Elab.async false
set_option linter.all false
set_option maxRecDepth 100000
set_option maxHeartbeats 4000000
/-! Ld: the steps of a reading, one lemma a step; the drawing of numbers. Knows no program. -/
namespace Lb
open PySem PySem.Spec PyProof.Rows L2
section
variable {σ : L2.St} {H : Hp} {Q : VK} {nx : L2.St → Hp → Prop} {rt : VK} {bk ct : L2.St → Hp → Prop}
/-- a value as a test -/
def tTru (K : PySem.W.Frag) (ta : TE) : TT := fun σ H Q => ta σ H fun x H' => ∃ k, TruV K x H' k ∧ Q k H'
theorem i_seq {t u : TS} (q : t ⟨fun σ H => u ⟨nx, rt, bk, ct⟩ σ H, rt, bk, ct⟩ σ H) : tSeq t u ⟨nx, rt, bk, ct⟩ σ H := q
theorem i_asg {te : TE} {g : TG} (q : te σ H fun x H1 => g x σ H1 nx) : tAsg te g ⟨nx, rt, bk, ct⟩ σ H := q
theorem i_gname {i : Nat} {v : V} {R : L2.St → Hp → Prop} (q : R (σ.set i (some v)) H) : gName i v σ H R := q
theorem i_ifS {c : TT} {t u : TS} (q : c σ H fun b H1 => if b = true then t ⟨nx, rt, bk, ct⟩ σ H1 else u ⟨nx, rt, bk, ct⟩ σ H1) : tIfS c t u ⟨nx, rt, bk, ct⟩ σ H := q
theorem i_ret {te : TE} (q : te σ H rt) : tRet te ⟨nx, rt, bk, ct⟩ σ H := q
theorem i_retN (q : rt .non H) : tRetN ⟨nx, rt, bk, ct⟩ σ H := q
theorem i_drop {te : TE} (q : te σ H fun _ H1 => nx σ H1) : tDrop te ⟨nx, rt, bk, ct⟩ σ H := q
theorem i_next (q : nx σ H) : tNext ⟨nx, rt, bk, ct⟩ σ H := q
theorem i_brk (q : bk σ H) : tBreak ⟨nx, rt, bk, ct⟩ σ H := q
theorem i_cnt (q : ct σ H) : tCont ⟨nx, rt, bk, ct⟩ σ H := q
theorem i_par {i j : Nat} {ta : TA} (q : ta σ H fun vs H1 => ∃ v w, vs = [v, w] ∧ nx ((σ.set i (some v)).set j (some w)) H1) : tPar i j ta ⟨nx, rt, bk, ct⟩ σ H := q
theorem i_par2 {v w : V} {P : V → V → Prop} (q : P v w) : (∃ v' w', [v, w] = [v', w'] ∧ P v' w') := ⟨_, _, rfl, q⟩
theorem i_fldS {K : PySem.W.Frag} {ta tv : TE} {f : Str} (q : tv σ H fun y H1 => ta σ H1 fun x H2 => ∃ a C dx fs, x = .ref a ∧ H2 a = some (.ins C dx fs) ∧ Cls K C ∧ NoAttr K C f ∧ fs.length < 1000 ∧ nx σ (upd H2 a (.ins C dx (putF f y fs)))) : sFld K ta tv f ⟨nx, rt, bk, ct⟩ σ H := q
theorem i_dput {td ty tv : TE} (q : tv σ H fun v H1 => td σ H1 fun x H2 => ty σ H2 fun y H3 => ∃ a H4, x = .ref a ∧ DPut H3 a y v H4 ∧ nx σ H4) : sDPut td ty tv ⟨nx, rt, bk, ct⟩ σ H := q
theorem i_var {i : Nat} {v : V} (h : σ[i]? = some (some v)) (q : Q v H) : tVar i σ H Q := ⟨v, h, q⟩
theorem i_tB {b : Bool} {A B : Prop} (h : b = true) (q : A) : (if b = true then A else B) := by rw [if_pos h]; exact q
theorem i_fB {b : Bool} {A B : Prop} (h : b = false) (q : B) : (if b = true then A else B) := by rw [h, if_neg Bool.false_ne_true]; exact q
theorem i_c {v : V} (q : Q v H) : tC v σ H Q := q
theorem i_op {r : R2} {ta tb : TE} (q : ta σ H fun x H1 => tb σ H1 fun y H2 => r x y H2 Q) : tOp r ta tb σ H Q := q
theorem i_un {r : V → Hp → VK → Prop} {ta : TE} (q : ta σ H fun x H1 => r x H1 Q) : tUn r ta σ H Q := q
theorem i_rU {g : Int → V} {i : Int} (q : Q (g i) H) : rU g (.int i) H Q := ⟨i, rfl, q⟩
theorem i_rI0 {g : Int → Int → V} {i j : Int} (q : Q (g i j) H) : rI0 g (.int i) (.int j) H Q := ⟨i, j, rfl, rfl, q⟩
theorem i_rI {C : Int → Int → Prop} {g : Int → Int → V} {i j : Int} (c : C i j) (q : Q (g i j) H) : rI C g (.int i) (.int j) H Q := ⟨i, j, rfl, rfl, c, q⟩
theorem i_test {t : TE} {R : Bool → Hp → Prop} (q : t σ H fun x H' => ∃ k, x = .bl k ∧ R k H') : tTest t σ H R := q
theorem i_B {t : TE} {R : Bool → Hp → Prop} (q : t σ H fun x H' => ∃ k, x = .bl k ∧ R k H') : tB t σ H R := q
theorem i_bl {b : Bool} {R : Bool → Prop} (q : R b) : (∃ k, V.bl b = .bl k ∧ R k) := ⟨b, rfl, q⟩
theorem i_tru {K : PySem.W.Frag} {te : TE} {R : Bool → Hp → Prop} (q : te σ H fun x H' => ∃ k, TruV K x H' k ∧ R k H') : tTru K te σ H R := q
theorem i_truB {K : PySem.W.Frag} {b : Bool} {R : Bool → Prop} (q : R b) : (∃ k, TruV K (.bl b) H k ∧ R k) := ⟨b, rfl, q⟩
theorem i_and {t u : TT} {R : Bool → Hp → Prop} (q : t σ H fun c H1 => if c = true then u σ H1 R else R false H1) : tAnd t u σ H R := q
theorem i_or {t u : TT} {R : Bool → Hp → Prop} (q : t σ H fun c H1 => if c = true then R true H1 else u σ H1 R) : tOr t u σ H R := q
theorem i_not {t : TT} {R : Bool → Hp → Prop} (q : t σ H fun c H1 => R (!c) H1) : tNot t σ H R := q
theorem i_andV {ta tb : TE} (q : ta σ H fun x H1 => ∃ c, x = .bl c ∧ if c = true then tb σ H1 Q else Q (.bl false) H1) : tAndV ta tb σ H Q := q
theorem i_orV {ta tb : TE} (q : ta σ H fun x H1 => ∃ c, x = .bl c ∧ if c = true then Q (.bl true) H1 else tb σ H1 Q) : tOrV ta tb σ H Q := q
theorem i_notV {ta : TE} (q : ta σ H fun x H1 => ∃ c, x = .bl c ∧ Q (.bl (!c)) H1) : tNotV ta σ H Q := q
theorem i_if {t : TT} {ta tb : TE} (q : t σ H fun c H1 => if c = true then ta σ H1 Q else tb σ H1 Q) : tIf t ta tb σ H Q := q
theorem i_call {sp : Sp} {E : XK} {t : TA} (q : t σ H fun vs H1 => sp (vs ++ []) H1 Q E) : tCall sp [] E t σ H Q := q
theorem i_meth {C : Addr} {m : Str} {sp : Sp} {E : XK} {ta : TE} {t : TA} (q : ta σ H fun x H1 => ∃ a dx fs, x = .ref a ∧ H1 a = some (.ins C dx fs) ∧ fs.lookup m = none ∧ t σ H1 fun vs H2 => sp (x :: (vs ++ [])) H2 Q E) : tMeth C m sp [] E ta t σ H Q := q
theorem i_make {C : Addr} {sp : Sp} {E : XK} {t : TA} (q : t σ H fun vs H1 => ∀ x dx, H1 x = none → H1 dx = none → dx ≠ x → sp (.ref x :: (vs ++ [])) (upd (upd H1 dx (.own x)) x (.ins C dx [])) (fun v H2 => v = .non ∧ Q (.ref x) H2) E) : tMake C sp [] E t σ H Q := q
theorem i_cb {r : List V → Hp → VK → Prop} {t : TA} (q : t σ H fun vs H1 => r vs H1 Q) : tCB r t σ H Q := q
theorem i_cons {ta : TE} {tr : TA} {R : List V → Hp → Prop} (q : ta σ H fun x H1 => tr σ H1 fun xs H2 => R (x :: xs) H2) : tCons ta tr σ H R := q
theorem i_nil {R : List V → Hp → Prop} (q : R [] H) : tNil σ H R := q
theorem i_tup {t : TA} (q : t σ H fun xs H1 => xs.length ≤ sizeLine ∧ ∀ p, H1 p = none → Q (.ref p) (upd H1 p (.tup xs))) : tTup t σ H Q := q
theorem i_lst {t : TA} (q : t σ H fun xs H1 => xs.length ≤ sizeLine ∧ ∀ p, H1 p = none → Q (.ref p) (upd H1 p (.lst xs))) : tLst t σ H Q := q
theorem i_bml {r : V → List V → Hp → VK → Prop} {to : TE} {t : TA} (q : to σ H fun x H1 => isL x H1 ∧ t σ H1 fun xs H2 => r x xs H2 Q) : tBML r to t σ H Q := q
theorem i_isL {l : Addr} {xs : List V} {R : Prop} (h : H l = some (.lst xs)) (q : R) : isL (.ref l) H ∧ R := ⟨by simp only [isL, h], q⟩
theorem i_gsub {to ti : TE} {t : TSet} {v : V} {R : L2.St → Hp → Prop} (q : to σ H fun o H1 => ti σ H1 fun i H2 => t o i v H2 fun H3 => R σ H3) : gSub to ti t v σ H R := q
theorem i_gtup {K : PySem.W.Frag} {n : Nat} {t : TGs} {a : Addr} {xs : List V} {R : L2.St → Hp → Prop} (h : H a = some (.tup xs)) (hn : xs.length = n) (q : t xs σ H R) : gTup K n t (.ref a) σ H R := ⟨a, xs, rfl, SqT.of h, hn, q⟩
theorem i_gcons {t : TG} {u : TGs} {v : V} {vs : List V} {R : L2.St → Hp → Prop} (q : t v σ H fun σ' H' => u vs σ' H' R) : gCons t u (v :: vs) σ H R := ⟨v, vs, rfl, q⟩
theorem i_gnil {R : L2.St → Hp → Prop} (q : R σ H) : gNil [] σ H R := ⟨rfl, q⟩
theorem i_sl {r : V → Option Int → Option Int → Hp → VK → Prop} {te : TE} {tl th : TO} (q : te σ H fun x H1 => tl σ H1 fun l H2 => th σ H2 fun u H3 => r x l u H3 Q) : tSl r te tl th σ H Q := q
theorem i_nop {R : Option Int → Hp → Prop} (q : R none H) : tNoPart σ H R := q
theorem i_part {t : TE} {R : Option Int → Hp → Prop} (q : t σ H fun x H1 => ∃ i, x = .int i ∧ R (some i) H1) : tPart t σ H R := q
theorem i_prt {i : Int} {R : Int → Prop} (q : R i) : (∃ j, V.int i = .int j ∧ R j) := ⟨i, rfl, q⟩
theorem i_isN {x : V} (q : Q (.bl (decide (x = .non))) H) : rIsN x .non H Q := ⟨rfl, q⟩
theorem i_notN {x : V} (q : Q (.bl (!decide (x = .non))) H) : rNotN x .non H Q := ⟨rfl, q⟩
theorem i_yes {R : Bool → Hp → Prop} (q : R true H) : tYes σ H R := q
theorem i_tt {A B : Prop} (q : A) : (if true = true then A else B) := by rw [if_pos rfl]; exact q
theorem i_ff {A B : Prop} (q : B) : (if false = true then A else B) := by rw [if_neg Bool.false_ne_true]; exact q
theorem i_dy {p : Prop} [Decidable p] {A B : Prop} (h : p) (q : A) : (if decide p = true then A else B) := by rw [if_pos (decide_eq_true h)]; exact q
theorem i_dn {p : Prop} [Decidable p] {A B : Prop} (h : ¬ p) (q : B) : (if decide p = true then A else B) := by rw [if_neg (by simp [h])]; exact q
theorem i_ny {p : Prop} [Decidable p] {A B : Prop} (h : ¬ p) (q : A) : (if (!decide p) = true then A else B) := by rw [if_pos (by simp [h])]; exact q
theorem i_nn {p : Prop} [Decidable p] {A B : Prop} (h : p) (q : B) : (if (!decide p) = true then A else B) := by rw [if_neg (by simp [h])]; exact q
theorem i_d2 {p : Prop} [Decidable p] {A B : Prop} (q1 : p → A) (q2 : ¬ p → B) : (if decide p = true then A else B) := by
  by_cases h : p
  · exact i_dy h (q1 h)
  · exact i_dn h (q2 h)
theorem i_n2 {p : Prop} [Decidable p] {A B : Prop} (q1 : ¬ p → A) (q2 : p → B) : (if (!decide p) = true then A else B) := by
  by_cases h : p
  · exact i_nn h (q2 h)
  · exact i_ny h (q1 h)
theorem i_ntt {A B : Prop} (q : B) : (if (!true) = true then A else B) := by rw [if_neg (by simp)]; exact q
theorem i_nff {A B : Prop} (q : A) : (if (!false) = true then A else B) := by rw [if_pos (by simp)]; exact q
theorem i_dnI {i : Int} {A B : Prop} (q : B) : (if decide (V.int i = V.non) = true then A else B) := i_dn (by intro h; cases h) q
theorem i_nyI {i : Int} {A B : Prop} (q : A) : (if (!decide (V.int i = V.non)) = true then A else B) := i_ny (by intro h; cases h) q
theorem i_dnR {i : Addr} {A B : Prop} (q : B) : (if decide (V.ref i = V.non) = true then A else B) := i_dn (by intro h; cases h) q
theorem i_nyR {i : Addr} {A B : Prop} (q : A) : (if (!decide (V.ref i = V.non)) = true then A else B) := i_ny (by intro h; cases h) q
theorem i_dnS {i : Str} {A B : Prop} (q : B) : (if decide (V.str i = V.non) = true then A else B) := i_dn (by intro h; cases h) q
theorem i_nyS {i : Str} {A B : Prop} (q : A) : (if (!decide (V.str i = V.non)) = true then A else B) := i_ny (by intro h; cases h) q
theorem i_addI {a b : Int} (q : Q (.int (a + b)) H) : rAddA (.int a) (.int b) H Q := q
theorem i_addS {a b : Str} (h : a.length + b.length ≤ sizeLine) (q : Q (.str (a ++ b)) H) : rAddA (.str a) (.str b) H Q := ⟨h, q⟩
theorem i_addL {p q : Addr} {xs ys : List V} (h1 : H p = some (.lst xs)) (h2 : H q = some (.lst ys)) (h : xs.length + ys.length ≤ sizeLine) (k : ∀ r, H r = none → Q (.ref r) (upd H r (.lst (xs ++ ys)))) : rAddA (.ref p) (.ref q) H Q := by simp only [rAddA, h1, h2]; exact ⟨h, k⟩
theorem i_mulI {a b : Int} (c : CMul a b) (q : Q (.int (a * b)) H) : rMulA (.int a) (.int b) H Q := ⟨c, q⟩
theorem i_eqF {K : PySem.W.Frag} {x y : V} {b : Bool} (h : eqF x y = some b) (q : Q (.bl b) H) : rEqA K x y H Q := by simp only [rEqA, h]; exact q
theorem i_neF {K : PySem.W.Frag} {x y : V} {b : Bool} (h : eqF x y = some b) (q : Q (.bl (!b)) H) : rNeA K x y H Q := by simp only [rNeA, h]; exact q
theorem i_eqI {K : PySem.W.Frag} {a b : Int} (q : Q (.bl (decide (a = b))) H) : rEqA K (.int a) (.int b) H Q := q
theorem i_neI {K : PySem.W.Frag} {a b : Int} (q : Q (.bl (!decide (a = b))) H) : rNeA K (.int a) (.int b) H Q := q
theorem i_eqS {K : PySem.W.Frag} {a b : Str} (q : Q (.bl (decide (a = b))) H) : rEqA K (.str a) (.str b) H Q := q
theorem i_neS {K : PySem.W.Frag} {a b : Str} (q : Q (.bl (!decide (a = b))) H) : rNeA K (.str a) (.str b) H Q := q
theorem i_ixL {p : Addr} {xs : List V} {i : Int} {v : V} (h : H p = some (.lst xs)) (hi : atI xs i = some v) (q : Q v H) : rIxA (.ref p) (.int i) H Q := by simp only [rIxA, h]; exact ⟨v, hi, q⟩
theorem i_ixT {p : Addr} {xs : List V} {i : Int} {v : V} (h : H p = some (.tup xs)) (hi : atI xs i = some v) (q : Q v H) : rIxA (.ref p) (.int i) H Q := by simp only [rIxA, h]; exact ⟨v, hi, q⟩
theorem i_slL {p : Addr} {xs : List V} {lo hi : Option Int} (h : H p = some (.lst xs)) (k : ∀ q, H q = none → Q (.ref q) (upd H q (.lst (cutV xs lo hi)))) : rSlA (.ref p) lo hi H Q := by simp only [rSlA, h]; exact k
theorem i_slT {p : Addr} {xs : List V} {lo hi : Option Int} (h : H p = some (.tup xs)) (c : ¬ (HT.sIx xs.length 0 lo = 0 ∧ HT.sIx xs.length xs.length hi = xs.length)) (k : ∀ q, H q = none → Q (.ref q) (upd H q (.tup (cutV xs lo hi)))) : rSlA (.ref p) lo hi H Q := by simp only [rSlA, h]; exact ⟨c, k⟩
theorem i_lenL {p : Addr} {xs : List V} (h : H p = some (.lst xs)) (q : Q (.int xs.length) H) : rLenA [.ref p] H Q := by simp only [rLenA, h]; exact q
theorem i_lenT {p : Addr} {xs : List V} (h : H p = some (.tup xs)) (q : Q (.int xs.length) H) : rLenA [.ref p] H Q := by simp only [rLenA, h]; exact q
theorem i_lenD {p : Addr} {kvs : List (Key × V)} (h : H p = some (.dK kvs)) (q : Q (.int kvs.length) H) : rLenA [.ref p] H Q := by simp only [rLenA, h]; exact q
theorem i_lenS {y : Str} (h : y.length ≤ sizeLine) (q : Q (.int y.length) H) : rLenA [.str y] H Q := ⟨h, q⟩
theorem i_intI {i : Int} (q : Q (.int i) H) : rIntA [.int i] H Q := q
theorem i_intB {k : Bool} (q : Q (.int (if k = true then 1 else 0)) H) : rIntA [.bl k] H Q := q
theorem i_abs {i : Int} (q : Q (.int (if i < 0 then -i else i)) H) : rAbsA [.int i] H Q := q
theorem i_listL {p : Addr} {xs : List V} (h : H p = some (.lst xs)) (k : ∀ l, H l = none → Q (.ref l) (upd H l (.lst xs))) : rListA [.ref p] H Q := by simp only [rListA, h]; exact k
theorem i_listT {p : Addr} {xs : List V} (h : H p = some (.tup xs)) (k : ∀ l, H l = none → Q (.ref l) (upd H l (.lst xs))) : rListA [.ref p] H Q := by simp only [rListA, h]; exact k
theorem i_tupL {p : Addr} {xs : List V} (h : H p = some (.lst xs)) (k : ∀ l, H l = none → Q (.ref l) (upd H l (.tup xs))) : rTupA [.ref p] H Q := by simp only [rTupA, h]; exact k
theorem i_isi {x : V} {T t : String} {b : Bool} (h1 : tyN x H = some t) (h2 : kitB t T = some b) (q : Q (.bl b) H) : rIsiA [x, .ty T] H Q := by simp only [rIsiA, h1]; exact ⟨b, h2, q⟩
theorem i_isiLL {p : Addr} {xs : List V} (h : H p = some (.lst xs)) (q : Q (.bl true) H) : rIsiA [.ref p, .ty "list"] H Q := i_isi (t := "list") (by simp only [tyN, h]) (by decide +kernel) q
theorem i_isiTL {p : Addr} {xs : List V} (h : H p = some (.tup xs)) (q : Q (.bl false) H) : rIsiA [.ref p, .ty "list"] H Q := i_isi (t := "tuple") (by simp only [tyN, h]) (by decide +kernel) q
theorem i_isiIB {i : Int} (q : Q (.bl false) H) : rIsiA [.int i, .ty "bool"] H Q := i_isi (t := "int") rfl (by decide +kernel) q
theorem i_isiNB (q : Q (.bl false) H) : rIsiA [.non, .ty "bool"] H Q := i_isi (t := "NoneType") rfl (by decide +kernel) q
theorem i_isiBB {k : Bool} (q : Q (.bl true) H) : rIsiA [.bl k, .ty "bool"] H Q := i_isi (t := "bool") rfl (by decide +kernel) q
theorem i_app {l : Addr} {xs : List V} {y : V} (h : H l = some (.lst xs)) (hz : xs.length < sizeLine) (q : Q .non (upd H l (.lst (xs ++ [y])))) : rAppA (.ref l) [y] H Q := by simp only [rAppA, h]; exact ⟨hz, q⟩
theorem i_ext {l p : Addr} {xs ys : List V} (h : H l = some (.lst xs)) (h2 : H p = some (.lst ys)) (hz : xs.length + ys.length ≤ sizeLine) (q : Q .non (upd H l (.lst (xs ++ ys)))) : rExtA (.ref l) [.ref p] H Q := by simp only [rExtA, h, h2]; exact ⟨hz, q⟩
theorem i_popL {l : Addr} {xs : List V} {y : V} (h : H l = some (.lst xs)) (hy : xs[xs.length - 1]? = some y) (q : Q y (upd H l (.lst xs.dropLast))) : rPopL (.ref l) [] H Q := by simp only [rPopL, h]; exact ⟨y, hy, q⟩
theorem i_popI {l : Addr} {xs : List V} {k : Nat} {y : V} (h : H l = some (.lst xs)) (hk : k < 2 ^ 62) (hy : xs[k]? = some y) (q : Q y (upd H l (.lst (xs.eraseIdx k)))) : rPopI (.ref l) [.int (k : Int)] H Q := by simp only [rPopI, h]; exact ⟨k, y, rfl, hk, hy, q⟩
theorem i_pop0 {l : Addr} {ys : List V} {y : V} (h : H l = some (.lst (y :: ys))) (q : Q y (upd H l (.lst ys))) : rPopI (.ref l) [.int 0] H Q := i_popI (k := 0) h (by decide) rfl q
theorem i_setL {p : Addr} {xs : List V} {k : Int} {j : Nat} {v : V} {R : Hp → Prop} (h : H p = some (.lst xs)) (hj : ixN xs.length k = some j) (q : R (upd H p (.lst (xs.set j v)))) : rSetA (.ref p) (.int k) v H R := by simp only [rSetA, h]; exact ⟨j, hj, q⟩
theorem i_dget {td ty : TE} (q : td σ H fun x H1 => ty σ H1 fun y H2 => ∃ a v, x = .ref a ∧ DGet H2 a y (some v) ∧ Q v H2) : tDGet td ty σ H Q := q
theorem i_dgetK {a : Addr} {kvs : List (Key × V)} {k : Key} {y v : V} {R : V → Prop} (h : H a = some (.dK kvs)) (hy : y = kV k) (hv : valV kvs k = some v) (q : R v) : (∃ a' v', V.ref a = .ref a' ∧ DGet H a' y (some v') ∧ R v') := ⟨a, v, rfl, .inl ⟨kvs, k, Rd.of h, hy, hv.symm⟩, q⟩
theorem i_dputK {a : Addr} {kvs : List (Key × V)} {k : Key} {y v : V} {R : Hp → Prop} (h : H a = some (.dK kvs)) (hy : y = kV k) (hz : kvs.length < sizeLine) (q : R (upd H a (.dK (putK kvs k v)))) : (∃ a' H4, V.ref a = .ref a' ∧ DPut H a' y v H4 ∧ R H4) := ⟨a, _, rfl, .inl ⟨kvs, k, h, hy, hz, rfl⟩, q⟩
theorem i_disp {trs : List (TE × TE)} (q : ∀ p, H p = none → tPairs trs σ (upd H p (.dK [])) fun ps H2 => H2 p = some (.dK []) ∧ ∃ kvs : List (Key × V), ps = kvs.map (fun kv => (kV kv.1, kv.2)) ∧ kvs.length ≤ 15 ∧ Q (.ref p) (upd H2 p (.dK (mergeK [] kvs)))) : tDisp trs σ H Q := q
theorem i_pcons {tk tv : TE} {r : List (TE × TE)} {R : List (V × V) → Hp → Prop} (q : tk σ H fun x H1 => tv σ H1 fun y H2 => tPairs r σ H2 fun ps H3 => R ((x, y) :: ps) H3) : tPairs ((tk, tv) :: r) σ H R := q
theorem i_pnil {R : List (V × V) → Hp → Prop} (q : R [] H) : tPairs [] σ H R := q
theorem i_neN {K : PySem.W.Frag} (q : Q (.bl false) H) : rNeA K .non .non H Q := q
theorem i_eqN {K : PySem.W.Frag} (q : Q (.bl true) H) : rEqA K .non .non H Q := q
theorem i_neB {K : PySem.W.Frag} {a b : Bool} (q : Q (.bl (!decide (a = b))) H) : rNeA K (.bl a) (.bl b) H Q := q
theorem i_eqB {K : PySem.W.Frag} {a b : Bool} (q : Q (.bl (decide (a = b))) H) : rEqA K (.bl a) (.bl b) H Q := q
theorem i_for {wi : TI} {g : TG} {tb : TS} (q : wi σ H fun J H1 => ∃ W : Nat → Nat → L2.St → Hp → Prop, (∃ m, W 0 m σ H1) ∧ ∀ i m σ H, W i m σ H → (J.stop i H ∧ nx σ H) ∨ (J.go i H ∧ ∃ N : L2.St → Hp → Prop, (∀ σ' H', N σ' H' → ∃ m', m' < m ∧ W (i + 1) m' σ' H') ∧ ∀ x H', J.yld i H x H' → g x σ H' fun σ2 H2 => tb ⟨N, rt, nx, N⟩ σ2 H2)) : tFor wi g tb ⟨nx, rt, bk, ct⟩ σ H := q
theorem i_while {c : TT} {tb : TS} (W : Nat → L2.St → Hp → Prop) (m : Nat) (w0 : W m σ H) (q : ∀ m σ H, W m σ H → c σ H fun b H1 => if b = true then ∃ N : L2.St → Hp → Prop, (∀ σ' H', N σ' H' → ∃ m', m' < m ∧ W m' σ' H') ∧ tb ⟨N, rt, nx, N⟩ σ H1 else nx σ H1) : tWhile c tb ⟨nx, rt, bk, ct⟩ σ H := ⟨W, ⟨m, w0⟩, q⟩
theorem i_wgo {m : Nat} {W : Nat → L2.St → Hp → Prop} {tb : TS} (q : tb ⟨fun σ' H' => ∃ m', m' < m ∧ W m' σ' H', rt, nx, fun σ' H' => ∃ m', m' < m ∧ W m' σ' H'⟩ σ H) : (∃ N : L2.St → Hp → Prop, (∀ σ' H', N σ' H' → ∃ m', m' < m ∧ W m' σ' H') ∧ tb ⟨N, rt, nx, N⟩ σ H) := ⟨_, fun _ _ h => h, q⟩
theorem i_ilist {K : PySem.W.Frag} {tl : TE} {R : It → Hp → Prop} (q : tl σ H fun x H1 => ∃ a, x = .ref a ∧ (∃ xs, SqL K H1 a xs) ∧ R (Itl K a) H1) : iList K tl σ H R := q
theorem i_itup {K : PySem.W.Frag} {tl : TE} {R : It → Hp → Prop} (q : tl σ H fun x H1 => ∃ a, x = .ref a ∧ (∃ xs, SqT K H1 a xs) ∧ R (Itt K a) H1) : iTup K tl σ H R := q
theorem i_rng1 {ta : TA} {R : It → Hp → Prop} (q : ta σ H fun vs H1 => ∃ j : Int, vs = [.int j] ∧ -(2 ^ 62) ≤ j ∧ j < 2 ^ 62 ∧ R (Itr 0 j.toNat) H1) : iRng1 ta σ H R := q
theorem i_rng2 {ta : TA} {R : It → Hp → Prop} (q : ta σ H fun vs H1 => ∃ i j : Int, vs = [.int i, .int j] ∧ (-(2 ^ 62) ≤ i ∧ i < 2 ^ 62 ∧ -(2 ^ 62) ≤ j ∧ j < 2 ^ 62) ∧ R (Itr i (j - i).toNat) H1) : iRng2 ta σ H R := q
theorem i_ex1 {j : Int} {R : Int → Prop} (q : R j) : (∃ i : Int, [V.int j] = [.int i] ∧ R i) := ⟨j, rfl, q⟩
theorem i_ex2 {i j : Int} {R : Int → Int → Prop} (q : R i j) : (∃ i' j' : Int, [V.int i, V.int j] = [.int i', .int j'] ∧ R i' j') := ⟨i, j, rfl, q⟩
theorem i_exr {p : Addr} {R : Addr → Prop} (q : R p) : (∃ a, V.ref p = .ref a ∧ R a) := ⟨p, rfl, q⟩
theorem i_mth {p C dx : Addr} {fs : List (Str × V)} {m : Str} {R : Prop} (h : H p = some (.ins C dx fs)) (hl : fs.lookup m = none) (q : R) : (∃ a dx fs, V.ref p = .ref a ∧ H a = some (.ins C dx fs) ∧ fs.lookup m = none ∧ R) := ⟨p, dx, fs, rfl, h, hl, q⟩
theorem i_fld {K : PySem.W.Frag} {ta : TE} {f : Str} (q : ta σ H fun x H1 => ∃ a C dx fs v, x = .ref a ∧ H1 a = some (.ins C dx fs) ∧ Cls K C ∧ NoAttr K C f ∧ fs.lookup f = some v ∧ Q v H1) : tFld K ta f σ H Q := q
theorem i_lc {wi : TI} {g : TG} {tt : TT} {te : TE} {vs : List Nat} (q : wi σ H fun J H1 => ∀ D, H1 D = none → ∃ W : Nat → Nat → Hp → Prop, (∃ m, W 0 m (upd H1 D (.lst []))) ∧ ∀ i m H, W i m H → (J.stop i H ∧ Q (.ref D) H) ∨ (J.go i H ∧ ∃ Nx : Hp → Prop, (∀ H', Nx H' → ∃ m', m' < m ∧ W (i + 1) m' H') ∧ ∀ x H', J.yld i H x H' → g x (wipe σ vs) H' fun σ2 H2 => wipe σ2 vs = wipe σ vs ∧ tt σ2 H2 fun b H3 => if b = true then te σ2 H3 fun y H4 => ∃ acc, H4 D = some (.lst acc) ∧ acc.length < sizeLine ∧ Nx (upd H4 D (.lst (acc ++ [y]))) else Nx H3)) : tLc wi g tt te vs σ H Q := q
end
local macro_rules | `(tactic| walk_at "s1") => `(tactic| with_reducible first | refine i_seq ?_ | refine i_asg ?_ | refine i_gname ?_ | refine i_ifS ?_ | refine i_ret ?_ | refine i_retN ?_ | refine i_drop ?_ | refine i_next ?_ | refine i_brk ?_ | refine i_cnt ?_ | refine i_par ?_ | refine i_par2 ?_ | refine i_fldS ?_ | refine i_dput ?_ | refine i_c ?_ | refine i_op ?_ | refine i_un ?_ | refine i_rU ?_ | refine i_rI0 ?_ | refine i_test ?_ | refine i_B ?_ | refine i_bl ?_ | refine i_tru ?_ | refine i_truB ?_ | refine i_and ?_ | refine i_or ?_ | refine i_not ?_ | refine i_andV ?_ | refine i_orV ?_ | refine i_notV ?_ | refine i_if ?_ | refine i_call ?_ | refine i_meth ?_ | refine i_make ?_ | refine i_cb ?_ | refine i_cons ?_ | refine i_nil ?_ | refine i_tup ?_ | refine i_lst ?_ | refine i_bml ?_ | refine i_gsub ?_ | refine i_gcons ?_ | refine i_gnil ?_ | refine i_sl ?_ | refine i_nop ?_ | refine i_part ?_ | refine i_prt ?_ | refine i_isN ?_ | refine i_notN ?_ | refine i_yes ?_ | refine i_tt ?_ | refine i_ff ?_ | refine i_ntt ?_ | refine i_nff ?_ | refine i_addI ?_ | refine i_eqI ?_ | refine i_neI ?_ | refine i_eqS ?_ | refine i_neS ?_ | refine i_intI ?_ | refine i_intB ?_ | refine i_abs ?_ | refine i_isiIB ?_ | refine i_isiNB ?_ | refine i_isiBB ?_ | refine i_dget ?_ | refine i_for ?_ | refine i_ilist ?_ | refine i_itup ?_ | refine i_rng1 ?_ | refine i_rng2 ?_ | refine i_ex1 ?_ | refine i_ex2 ?_ | refine i_exr ?_ | refine i_fld ?_ | refine i_disp ?_ | refine i_pcons ?_ | refine i_pnil ?_ | refine i_neN ?_ | refine i_eqN ?_ | refine i_neB ?_ | refine i_eqB ?_ | refine i_lc ?_ | refine i_var (by with_unfolding_all rfl) ?_ | refine i_tB (by decide +kernel) ?_ | refine i_fB (by decide +kernel) ?_ | refine i_dnI ?_ | refine i_nyI ?_ | refine i_dnR ?_ | refine i_nyR ?_ | refine i_ixT (by assumption) (by with_unfolding_all rfl) ?_ | refine i_ixL (by assumption) (by with_unfolding_all rfl) ?_ | refine i_lenL (by assumption) ?_ | refine i_lenT (by assumption) ?_ | refine i_isL (by assumption) ?_ | refine i_isiLL (by assumption) ?_ | refine i_isiTL (by assumption) ?_ | refine i_gtup (by assumption) (by with_unfolding_all rfl) ?_)
local macro_rules | `(tactic| walk_at "s") => `(tactic| repeat (walk_at "s1"))
/-- the state of the draws: a list of a list of numbers and of a number -/
structure Rng (a c : Addr) (H : Hp) : Prop where
  ne : a ≠ c
  ex : ∃ (ns : List Int) (m : Int), H a = some (.lst [.ref c, .int m]) ∧ H c = some (.lst (ns.map V.int)) ∧ (∀ n ∈ ns, 0 ≤ n) ∧ 0 ≤ m
/-- what was so beside the two places is so -/
def Fra (a c : Addr) (H H' : Hp) : Prop := ∀ b, b ≠ a → b ≠ c → H' b = H b
theorem Fra.refl {a c : Addr} {H : Hp} : Fra a c H H := fun _ _ _ => rfl
theorem Fra.trans {a c : Addr} {H H1 H2 : Hp} (h : Fra a c H H1) (k : Fra a c H1 H2) : Fra a c H H2 := fun b p q => (k b p q).trans (h b p q)
def spDraw : Sp := fun vs H Q _ => ∃ (a c : Addr) (n : Int), vs = [.ref a, .int n] ∧ 0 < n ∧ n < 1073741824 ∧ Rng a c H ∧
  ∀ (H' : Hp) (r : Int), 0 ≤ r → r < n → Rng a c H' → Fra a c H H' → Q (.int r) H'
theorem len_draw {vs : List V} {H : Hp} {Q : VK} {E : XK} (h : spDraw vs H Q E) : vs.length = 2 := by
  obtain ⟨a, c, n, rfl, _⟩ := h
  rfl
def t_draw (K : PySem.W.Frag) : TS :=
  (tSeq (tAsg (tOp rIxA (tVar 0) (tC (.int 0))) (gName 2)) (tSeq (tWhile (tAnd (tTest (tOp (rI0 fun i j => .bl (decide (j < i))) (tCB rLenA (tCons (tVar 2) tNil)) (tC (.int 0)))) (tTest (tOp (rEqA K) (tOp rIxA (tVar 2) (tC (.int 0))) (tC (.int 0))))) (tDrop (tBML rPopI (tVar 2) (tCons (tC (.int 0)) tNil)))) (tSeq (tIfS (tTest (tOp (rI0 fun i j => .bl (decide (j < i))) (tCB rLenA (tCons (tVar 2) tNil)) (tC (.int 0)))) (tSeq (tAsg (tOp rIxA (tVar 2) (tC (.int 0))) (gName 3)) (tSeq (tAsg (tOp (rI CDiv fun i j => .int (i / j)) (tVar 3) (tVar 1)) (gSub (tVar 2) (tC (.int 0)) rSetA)) (tRet (tOp (rI (fun _ j => 0 < j) fun i j => .int (i % j)) (tCB rIntA (tCons (tVar 3) tNil)) (tVar 1))))) tNext) (tSeq (tAsg (tOp (rI (fun _ j => 0 < j) fun i j => .int (i % j)) (tCB rIntA (tCons (tOp rAddA (tOp rMulA (tOp rIxA (tVar 0) (tC (.int 1))) (tC (.int 48271))) (tC (.int 12345))) tNil)) (tC (.int 2147483647))) (gName 4)) (tSeq (tAsg (tVar 4) (gSub (tVar 0) (tC (.int 1)) rSetA)) (tRet (tOp (rI (fun _ j => 0 < j) fun i j => .int (i % j)) (tCB rIntA (tCons (tOp (rI CDiv fun i j => .int (i / j)) (tVar 4) (tC (.int 64))) tNil)) (tVar 1))))))))
theorem fra_upd2 {a c : Addr} {H H' : Hp} {o : HO} (h : Fra a c H H') : Fra a c H (upd H' c o) := fun b p q => by rw [upd_ne q]; exact h b p q
theorem fra_upd1 {a c : Addr} {H H' : Hp} {o : HO} (h : Fra a c H H') : Fra a c H (upd H' a o) := fun b p q => by rw [upd_ne p]; exact h b p q
theorem at0 {v : V} {xs : List V} : atI (v :: xs) 0 = some v := atI_nat (j := 0) rfl
theorem atN {xs : List V} {i : Int} {j : Nat} {v : V} (e : i = (j : Int)) (h : xs[j]? = some v) : atI xs i = some v := by
  rw [e]
  exact atI_nat h
theorem ixS0 {v : V} {xs : List V} : ixN (v :: xs).length 0 = some 0 := by
  unfold ixN
  rw [if_pos (by omega), if_pos (by simp <;> omega)]
  rfl
theorem pure_draw (K : PySem.W.Frag) {N : List Str} (vs : List V) (H : Hp) (Q : VK) (E : XK) (h : spDraw vs H Q E) (hN : N.length = 5) : t_draw K { nx := fun _ H' => Q .non H', rt := Q } (L2.start N vs) H := by
  obtain ⟨a, c, n, rfl, h0, h1, R, k⟩ := h
  obtain ⟨ne, ns, m, ha, hc, hn, hm⟩ := R
  have es : L2.start N [V.ref a, .int n] = [some (.ref a), some (.int n), none, none, none] := by
    unfold L2.start
    rw [hN]
    rfl
  rw [es]
  unfold t_draw
  walk_at "s"
  try refine i_ixL ha (by rfl) ?_
  walk_at "s"
  refine i_while (fun j σ H' => σ = [some (.ref a), some (.int n), some (.ref c), none, none] ∧ ∃ ns : List Int, j = ns.length ∧ H' a = some (.lst [.ref c, .int m]) ∧ H' c = some (.lst (ns.map V.int)) ∧ (∀ n ∈ ns, 0 ≤ n) ∧ Fra a c H H')
    _ ⟨rfl, ns, rfl, ha, hc, hn, Fra.refl⟩ ?_
  rintro j σ H1 ⟨rfl, ns, rfl, ha, hc, hn, fr⟩
  walk_at "s"
  try refine i_lenL hc ?_
  walk_at "s"
  cases ns with
  | nil =>
    try refine i_dn (by simp) ?_
    walk_at "s"
    try refine i_lenL hc ?_
    walk_at "s"
    try refine i_dn (by simp) ?_
    walk_at "s"
    try refine i_ixL ha (by rfl) ?_
    walk_at "s"
    try refine i_mulI (.inr ⟨by decide, by decide⟩) ?_
    walk_at "s"
    try refine i_rI (by show (0 : Int) < 2147483647; decide) ?_
    walk_at "s"
    refine i_setL ha (by rfl) ?_
    walk_at "s"
    refine i_rI ⟨by decide, by decide⟩ ?_
    walk_at "s"
    refine i_rI h0 ?_
    exact k _ _ (Int.emod_nonneg _ (by omega)) (Int.emod_lt_of_pos _ h0) ⟨ne, [], _, upd_same, by rw [upd_ne ne.symm]; exact hc, by simp, Int.emod_nonneg _ (by decide)⟩ (fra_upd1 fr)
  | cons z ns =>
    try refine i_dy (by simp <;> omega) ?_
    walk_at "s"
    try refine i_ixL hc at0 ?_
    walk_at "s"
    refine i_d2 (fun hz => ?_) (fun hz => ?_)
    · refine i_wgo ?_
      walk_at "s"
      try refine i_isL hc ?_
      walk_at "s"
      refine i_pop0 hc ?_
      exact ⟨ns.length, by simp, rfl, ns, rfl, by rw [upd_ne ne]; exact ha, upd_same, fun n h => hn n (List.mem_cons_of_mem _ h), fra_upd2 fr⟩
    · walk_at "s"
      try refine i_lenL hc ?_
      walk_at "s"
      try refine i_dy (by simp <;> omega) ?_
      walk_at "s"
      try refine i_ixL hc at0 ?_
      walk_at "s"
      refine i_rI ⟨h0, h1⟩ ?_
      walk_at "s"
      refine i_setL hc ixS0 ?_
      walk_at "s"
      refine i_rI h0 ?_
      have hz0 : 0 ≤ z := hn z List.mem_cons_self
      refine k _ _ (Int.emod_nonneg _ (by omega)) (Int.emod_lt_of_pos _ h0) ⟨ne, (z / n) :: ns, m, by rw [upd_ne ne]; exact ha, upd_same, fun y hy => ?_, hm⟩ (fra_upd2 fr)
      rcases List.mem_cons.mp hy with e | e
      · rw [e]
        exact Int.ediv_nonneg hz0 (by omega)
      · exact hn y (List.mem_cons_of_mem _ e)
theorem sz {n : Nat} (h : n ≤ 100000) : n ≤ sizeLine := Nat.le_trans h (by decide)
theorem szl {n : Nat} (h : n ≤ 100000) : n < sizeLine := Nat.lt_of_le_of_lt h (by decide)

/-! ### loops and comprehensions -/
section
variable {K : PySem.W.Frag} {a : Addr} {xs : List V} {g : TG} {tb : TS} {σ : L2.St} {H : Hp} {nx : L2.St → Hp → Prop} {rt : VK} {tt : TT} {te : TE} {v : Nat} {D : Addr} {Qd : Hp → Prop}
theorem i_forL (xs : List V) (Pv : Nat → L2.St → Hp → Prop) (h0 : Pv 0 σ H) (hl : ∀ i σ H, Pv i σ H → SqL K H a xs)
    (hs : ∀ i x σ H, xs[i]? = some x → Pv i σ H → g x σ H fun σ2 H2 => tb ⟨Pv (i + 1), rt, nx, Pv (i + 1)⟩ σ2 H2) (hd : ∀ σ H, Pv xs.length σ H → nx σ H) :
    (∃ xs, SqL K H a xs) ∧ ∃ W : Nat → Nat → L2.St → Hp → Prop, (∃ m, W 0 m σ H) ∧ ∀ i m σ H, W i m σ H → ((Itl K a).stop i H ∧ nx σ H) ∨ ((Itl K a).go i H ∧ ∃ N : L2.St → Hp → Prop, (∀ σ' H', N σ' H' → ∃ m', m' < m ∧ W (i + 1) m' σ' H') ∧ ∀ x H', (Itl K a).yld i H x H' → g x σ H' fun σ2 H2 => tb ⟨N, rt, nx, N⟩ σ2 H2) :=
  ⟨⟨xs, hl 0 σ H h0⟩, for_list (D := ⟨nx, rt, fun _ _ => False, fun _ _ => False⟩) (xs := xs) Pv h0 (fun i σ H _ p => hl i σ H p) hs hd⟩
theorem i_forT (xs : List V) (Pv : Nat → L2.St → Hp → Prop) (h0 : Pv 0 σ H) (hl : ∀ i σ H, Pv i σ H → SqT K H a xs)
    (hs : ∀ i x σ H, xs[i]? = some x → Pv i σ H → g x σ H fun σ2 H2 => tb ⟨Pv (i + 1), rt, nx, Pv (i + 1)⟩ σ2 H2) (hd : ∀ σ H, Pv xs.length σ H → nx σ H) :
    (∃ xs, SqT K H a xs) ∧ ∃ W : Nat → Nat → L2.St → Hp → Prop, (∃ m, W 0 m σ H) ∧ ∀ i m σ H, W i m σ H → ((Itt K a).stop i H ∧ nx σ H) ∨ ((Itt K a).go i H ∧ ∃ N : L2.St → Hp → Prop, (∀ σ' H', N σ' H' → ∃ m', m' < m ∧ W (i + 1) m' σ' H') ∧ ∀ x H', (Itt K a).yld i H x H' → g x σ H' fun σ2 H2 => tb ⟨N, rt, nx, N⟩ σ2 H2) :=
  ⟨⟨xs, hl 0 σ H h0⟩, for_tup (D := ⟨nx, rt, fun _ _ => False, fun _ _ => False⟩) (xs := xs) Pv h0 (fun i σ H _ p => hl i σ H p) hs hd⟩
theorem i_forR {j : Int} (n : Nat) (hj : j = (n : Int)) (hn : n ≤ 1000000000) (Pv : Nat → L2.St → Hp → Prop) (h0 : Pv 0 σ H)
    (hs : ∀ i σ H, i < n → Pv i σ H → g (.int (i : Int)) σ H fun σ2 H2 => tb ⟨Pv (i + 1), rt, nx, Pv (i + 1)⟩ σ2 H2) (hd : ∀ σ H, Pv n σ H → nx σ H) :
    -(2 ^ 62) ≤ j ∧ j < 2 ^ 62 ∧ ∃ W : Nat → Nat → L2.St → Hp → Prop, (∃ m, W 0 m σ H) ∧ ∀ i m σ H, W i m σ H → ((Itr 0 j.toNat).stop i H ∧ nx σ H) ∨ ((Itr 0 j.toNat).go i H ∧ ∃ N : L2.St → Hp → Prop, (∀ σ' H', N σ' H' → ∃ m', m' < m ∧ W (i + 1) m' σ' H') ∧ ∀ x H', (Itr 0 j.toNat).yld i H x H' → g x σ H' fun σ2 H2 => tb ⟨N, rt, nx, N⟩ σ2 H2) := by
  subst hj
  refine ⟨by omega, by omega, ?_⟩
  exact for_range (D := ⟨nx, rt, fun _ _ => False, fun _ _ => False⟩) (lo := 0) (n := n) Pv h0 (fun i σ H hi p => by rw [Int.zero_add]; exact hs i σ H hi p) hd
theorem i_forR2 {lo j : Int} (n : Nat) (hj : (j - lo).toNat = n) (hb : -(2 ^ 62) ≤ lo ∧ lo < 2 ^ 62 ∧ -(2 ^ 62) ≤ j ∧ j < 2 ^ 62) (Pv : Nat → L2.St → Hp → Prop) (h0 : Pv 0 σ H)
    (hs : ∀ (i : Nat) σ H, i < n → Pv i σ H → g (.int (lo + i)) σ H fun σ2 H2 => tb ⟨Pv (i + 1), rt, nx, Pv (i + 1)⟩ σ2 H2) (hd : ∀ σ H, Pv n σ H → nx σ H) :
    (-(2 ^ 62) ≤ lo ∧ lo < 2 ^ 62 ∧ -(2 ^ 62) ≤ j ∧ j < 2 ^ 62) ∧ ∃ W : Nat → Nat → L2.St → Hp → Prop, (∃ m, W 0 m σ H) ∧ ∀ i m σ H, W i m σ H → ((Itr lo (j - lo).toNat).stop i H ∧ nx σ H) ∨ ((Itr lo (j - lo).toNat).go i H ∧ ∃ N : L2.St → Hp → Prop, (∀ σ' H', N σ' H' → ∃ m', m' < m ∧ W (i + 1) m' σ' H') ∧ ∀ x H', (Itr lo (j - lo).toNat).yld i H x H' → g x σ H' fun σ2 H2 => tb ⟨N, rt, nx, N⟩ σ2 H2) := by
  subst hj
  exact ⟨hb, for_range (D := ⟨nx, rt, fun _ _ => False, fun _ _ => False⟩) (lo := lo) Pv h0 hs hd⟩
theorem wipe1 {v : Nat} {x : V} : (wipe σ [v]).set v (some x) = σ.set v (some x) := by
  show (σ.set v none).set v (some x) = _
  rw [List.set_set]
theorem wipe2 {v : Nat} {x : V} : wipe (σ.set v (some x)) [v] = wipe σ [v] := by
  show (σ.set v (some x)).set v none = σ.set v none
  rw [List.set_set]
/-- a comprehension over a list, one name -/
theorem i_lcL (xs : List V) (Pv : Nat → Hp → Prop) (h0 : Pv 0 (upd H D (.lst []))) (hl : ∀ i H, Pv i H → SqL K H a xs)
    (hs : ∀ i x H, xs[i]? = some x → Pv i H → tt (σ.set v (some x)) H fun b H3 => if b = true then te (σ.set v (some x)) H3 fun y H4 => ∃ acc, H4 D = some (.lst acc) ∧ acc.length < sizeLine ∧ Pv (i + 1) (upd H4 D (.lst (acc ++ [y]))) else Pv (i + 1) H3)
    (hd : ∀ H, Pv xs.length H → Qd H) :
    ∃ W : Nat → Nat → Hp → Prop, (∃ m, W 0 m (upd H D (.lst []))) ∧ ∀ i m H, W i m H → ((Itl K a).stop i H ∧ Qd H) ∨ ((Itl K a).go i H ∧ ∃ Nx : Hp → Prop, (∀ H', Nx H' → ∃ m', m' < m ∧ W (i + 1) m' H') ∧ ∀ x H', (Itl K a).yld i H x H' → gName v x (wipe σ [v]) H' fun σ2 H2 => wipe σ2 [v] = wipe σ [v] ∧ tt σ2 H2 fun b H3 => if b = true then te σ2 H3 fun y H4 => ∃ acc, H4 D = some (.lst acc) ∧ acc.length < sizeLine ∧ Nx (upd H4 D (.lst (acc ++ [y]))) else Nx H3) :=
  lc_list (xs := xs) Pv h0 (fun i H _ p => hl i H p) (fun i x H e p => by
    show wipe ((wipe σ [v]).set v (some x)) [v] = wipe σ [v] ∧ tt ((wipe σ [v]).set v (some x)) H _
    rw [wipe1]
    exact ⟨wipe2, hs i x H e p⟩) hd
/-- .. over range(n) -/
theorem i_lcR {j : Int} (n : Nat) (hj : j = (n : Int)) (Pv : Nat → Hp → Prop) (h0 : Pv 0 (upd H D (.lst [])))
    (hs : ∀ (i : Nat) H, i < n → Pv i H → tt (σ.set v (some (.int (i : Int)))) H fun b H3 => if b = true then te (σ.set v (some (.int (i : Int)))) H3 fun y H4 => ∃ acc, H4 D = some (.lst acc) ∧ acc.length < sizeLine ∧ Pv (i + 1) (upd H4 D (.lst (acc ++ [y]))) else Pv (i + 1) H3)
    (hd : ∀ H, Pv n H → Qd H) :
    ∃ W : Nat → Nat → Hp → Prop, (∃ m, W 0 m (upd H D (.lst []))) ∧ ∀ i m H, W i m H → ((Itr 0 j.toNat).stop i H ∧ Qd H) ∨ ((Itr 0 j.toNat).go i H ∧ ∃ Nx : Hp → Prop, (∀ H', Nx H' → ∃ m', m' < m ∧ W (i + 1) m' H') ∧ ∀ x H', (Itr 0 j.toNat).yld i H x H' → gName v x (wipe σ [v]) H' fun σ2 H2 => wipe σ2 [v] = wipe σ [v] ∧ tt σ2 H2 fun b H3 => if b = true then te σ2 H3 fun y H4 => ∃ acc, H4 D = some (.lst acc) ∧ acc.length < sizeLine ∧ Nx (upd H4 D (.lst (acc ++ [y]))) else Nx H3) := by
  subst hj
  exact lc_range (lo := 0) (n := n) Pv h0 (fun i H e p => by
    show wipe ((wipe σ [v]).set v (some (.int (0 + (i : Int))))) [v] = wipe σ [v] ∧ tt ((wipe σ [v]).set v (some (.int (0 + (i : Int))))) H _
    rw [wipe1, Int.zero_add]
    exact ⟨wipe2, hs i H e p⟩) hd
end

/-! ### the two places of the draws, and what grows beside them -/
/-- what stands beside the two places, grows -/
def Gr (a c : Addr) (H H' : Hp) : Prop := Same (hid [a, c] H) (hid [a, c] H')
section
variable {a c p : Addr} {H H' H1 : Hp} {o : HO}
theorem Gr.refl : Gr a c H H := Same.refl _
theorem Gr.trans (h : Gr a c H H1) (k : Gr a c H1 H') : Gr a c H H' := Same.trans h k
theorem Fra.hid (h : Fra a c H H') : hid [a, c] H' = hid [a, c] H := hid_eq fun b hb => h b (fun e => hb (by rw [e]; exact List.mem_cons_self)) fun e => hb (by rw [e]; exact List.mem_cons_of_mem _ List.mem_cons_self)
theorem Fra.gr (h : Fra a c H H') : Gr a c H H' := by
  unfold Gr
  rw [h.hid]
  exact Same.refl _
theorem Rng.at1 (R : Rng a c H) : ∃ o, H a = some o := let ⟨_, _, _, h, _⟩ := R; ⟨_, h⟩
theorem Rng.at2 (R : Rng a c H) : ∃ o, H c = some o := let ⟨_, _, _, _, h, _⟩ := R; ⟨_, h⟩
theorem Rng.fresh (R : Rng a c H) (h : H p = none) : p ≠ a ∧ p ≠ c := by
  obtain ⟨o1, e1⟩ := R.at1
  obtain ⟨o2, e2⟩ := R.at2
  exact ⟨fun e => (by rw [e, e1] at h; cases h), fun e => (by rw [e, e2] at h; cases h)⟩
theorem Rng.upd (R : Rng a c H) (h1 : p ≠ a) (h2 : p ≠ c) : Rng a c (L2.upd H p o) := by
  obtain ⟨ne, ns, m, ha, hc, hn, hm⟩ := R
  exact ⟨ne, ns, m, by rw [upd_ne h1.symm]; exact ha, by rw [upd_ne h2.symm]; exact hc, hn, hm⟩
theorem hid2 (h1 : p ≠ a) (h2 : p ≠ c) : p ∉ [a, c] := fun h => by
  rcases List.mem_cons.mp h with e | e
  · exact h1 e
  · rcases List.mem_cons.mp e with e | e
    · exact h2 e
    · cases e
/-- a new object -/
theorem new_step (R : Rng a c H) (h : H p = none) : Rng a c (L2.upd H p o) ∧ Gr a c H (L2.upd H p o) ∧ hid [a, c] (L2.upd H p o) p = some o ∧ p ≠ a ∧ p ≠ c := by
  obtain ⟨h1, h2⟩ := R.fresh h
  refine ⟨R.upd h1 h2, Lb.Same.hid (Same.newp h), ?_, h1, h2⟩
  rw [hid_out (hid2 h1 h2), upd_same]
theorem Gr.at (h : Gr a c H H') (e : hid [a, c] H p = some o) : H' p = some o := (hid_some (h _ _ e)).1
theorem hid_get (e : hid [a, c] H p = some o) : H p = some o := (hid_some e).1
theorem hid_ne (e : hid [a, c] H p = some o) : p ≠ a ∧ p ≠ c := by
  have h := (hid_some e).2
  exact ⟨fun q => h (by rw [q]; exact List.mem_cons_self), fun q => h (by rw [q]; exact List.mem_cons_of_mem _ List.mem_cons_self)⟩
end
def spPick : Sp := fun vs H Q _ => ∃ (a c p : Addr) (xs : List V), vs = [.ref a, .ref p] ∧ Rng a c H ∧ H p = some (.lst xs) ∧ p ≠ a ∧ p ≠ c ∧ xs ≠ [] ∧ xs.length ≤ 100000 ∧
  ∀ (H' : Hp) (v : V), v ∈ xs → Rng a c H' → Fra a c H H' → Q v H'
theorem len_pick {vs : List V} {H : Hp} {Q : VK} {E : XK} (h : spPick vs H Q E) : vs.length = 2 := by
  obtain ⟨a, c, p, xs, rfl, _⟩ := h
  rfl
def t_pick : TS := (tRet (tOp rIxA (tVar 1) (tCall spDraw [] E0 (tCons (tVar 0) (tCons (tCB rLenA (tCons (tVar 1) tNil)) tNil)))))
theorem pure_pick {N : List Str} (vs : List V) (H : Hp) (Q : VK) (E : XK) (h : spPick vs H Q E) (hN : N.length = 2) : t_pick { nx := fun _ H' => Q .non H', rt := Q } (L2.start N vs) H := by
  obtain ⟨a, c, p, xs, rfl, R, hp, n1, n2, hx, hz, k⟩ := h
  have es : L2.start N [V.ref a, .ref p] = [some (.ref a), some (.ref p)] := by
    unfold L2.start
    rw [hN]
    rfl
  rw [es]
  unfold t_pick
  walk_at "s"
  try refine i_lenL hp ?_
  walk_at "s"
  have hl : 0 < xs.length := List.length_pos_iff.mpr hx
  refine ⟨a, c, xs.length, rfl, by omega, by omega, R, fun H' r h0 h1 R' fr => ?_⟩
  have hp' : H' p = some (.lst xs) := by rw [fr p n1 n2]; exact hp
  obtain ⟨j, rfl⟩ : ∃ j : Nat, r = (j : Int) := ⟨r.toNat, by omega⟩
  have hj : j < xs.length := by omega
  refine i_ixL hp' (atI_nat (List.getElem?_eq_getElem hj)) ?_
  exact k H' _ (List.getElem_mem hj) R' fr
def spState (K : PySem.W.Frag) : Sp := fun vs H Q _ => ∃ (s : Addr) (ns : List Int), vs = [.ref s] ∧ SqL K H s (ns.map V.int) ∧ ns.length ≤ 63 ∧
  ∀ (H' : Hp) (a c : Addr), Same H H' → Rng a c H' → H a = none → H c = none → Q (.ref a) H'
theorem len_state {K : PySem.W.Frag} {vs : List V} {H : Hp} {Q : VK} {E : XK} (h : spState K vs H Q E) : vs.length = 1 := by
  obtain ⟨a, ns, rfl, _⟩ := h
  rfl
def t_state (K : PySem.W.Frag) : TS :=
  (tSeq (tAsg (tC (.int 7)) (gName 1)) (tSeq (tFor (iList K (tVar 0)) (gName 2) (tAsg (tOp (rI (fun _ j => 0 < j) fun i j => .int (i % j)) (tCB rIntA (tCons (tOp rAddA (tOp rMulA (tVar 1) (tC (.int 31))) (tVar 2)) tNil)) (tC (.int 1000003))) (gName 1))) (tRet (tLst (tCons (tLc (iList K (tVar 0)) (gName 2) tYes (tCB rAbsA (tCons (tVar 2) tNil)) [2]) (tCons (tOp rAddA (tVar 1) (tC (.int 1))) tNil))))))
theorem ints_at {ns : List Int} {i : Nat} {x : V} (h : (ns.map V.int)[i]? = some x) : ∃ z, x = .int z ∧ ns[i]? = some z := by
  rw [List.getElem?_map] at h
  cases e : ns[i]? with
  | none => rw [e] at h; cases h
  | some z => rw [e] at h; exact ⟨z, (Option.some.inj h).symm, rfl⟩
theorem pure_state (K : PySem.W.Frag) {N : List Str} (vs : List V) (H : Hp) (Q : VK) (E : XK) (h : spState K vs H Q E) (hN : N.length = 3) : t_state K { nx := fun _ H' => Q .non H', rt := Q } (L2.start N vs) H := by
  obtain ⟨s, ns, rfl, hS, hl, k⟩ := h
  have es : L2.start N [V.ref s] = [some (.ref s), none, none] := by
    unfold L2.start
    rw [hN]
    rfl
  rw [es]
  unfold t_state
  walk_at "s"
  refine i_forL (ns.map V.int) (fun i σ H' => H' = H ∧ ∃ (z : Int) (v : Option V), 0 ≤ z ∧ σ = [some (.ref s), some (.int z), v]) ⟨rfl, 7, none, by decide, rfl⟩ (fun i σ H' ⟨e, _⟩ => by rw [e]; exact hS) ?_ ?_
  · rintro i x σ H' hx ⟨rfl, z, v, hz, rfl⟩
    obtain ⟨y, rfl, _⟩ := ints_at hx
    walk_at "s"
    try refine i_mulI (.inr ⟨by decide, by decide⟩) ?_
    walk_at "s"
    refine i_rI (by show (0 : Int) < 1000003; decide) ?_
    walk_at "s"
    exact ⟨rfl, _, _, Int.emod_nonneg _ (by decide), rfl⟩
  · rintro σ H' ⟨rfl, z, v, hz, rfl⟩
    walk_at "s"
    refine ⟨⟨_, hS⟩, fun D hD => ?_⟩
    refine i_lcL (ns.map V.int) (fun i H2 => Same H' H2 ∧ ∃ ms : List Int, H2 D = some (.lst (ms.map V.int)) ∧ ms.length = i ∧ ∀ m ∈ ms, 0 ≤ m) ⟨Same.newp hD, [], upd_same, rfl, by simp⟩ (fun i H2 p => p.1.seq hS) ?_ ?_
    · rintro i x H2 hx ⟨sm, ms, hm, hml, hm0⟩
      obtain ⟨y, rfl, hy⟩ := ints_at hx
      have hi : i < ns.length := (List.getElem?_eq_some_iff.mp hy).1
      walk_at "s"
      refine ⟨_, hm, by rw [List.length_map]; exact szl (by omega), fun b o e => ?_, ms ++ [if y < 0 then -y else y], ?_, by rw [List.length_append, hml]; rfl, fun q hq => ?_⟩
      · rw [upd_ne (ne_of_none e hD)]
        exact sm b o e
      · rw [upd_same, List.map_append]
        rfl
      · rcases List.mem_append.mp hq with e | e
        · exact hm0 q e
        · rw [List.mem_singleton.mp e]
          split <;> omega
    · rintro H2 ⟨sm, ms, hm, hml, hm0⟩
      walk_at "s"
      refine ⟨sz (by simp), fun p hp => ?_⟩
      have npD : p ≠ D := fun e => by rw [e, hm] at hp; cases hp
      refine k _ p D (sm.trans (Same.newp hp)) ⟨npD, ms, z + 1, upd_same, by rw [upd_ne npD.symm]; exact hm, hm0, by omega⟩ (sm.free hp) hD

end Lb
set_option Elab.async false
set_option linter.all false
set_option maxRecDepth 100000
set_option maxHeartbeats 4000000
/-! Le: data that may be compared, heaps that only grow. Knows no program. -/
namespace Lb
open PySem PySem.Spec PyProof.Rows L2
/-- data without dicts, at most n deep -/
def Sh (n : Nat) (d : PyData) : Prop := d.canLay0 = true ∧ d.depth ≤ n
def ShA (n : Nat) (ds : List PyData) : Prop := PyData.canLayAll0 ds = true ∧ PyData.depthAll ds ≤ n
section
variable {n m : Nat} {d : PyData} {ds es : List PyData}
theorem Sh.shp (h : Sh n d) (hn : n ≤ 64 := by decide) : Shp d := by
  unfold Shp SeqAt.shaped
  rw [h.1, Bool.true_and, decide_eq_true (Nat.le_trans h.2 hn)]
theorem Sh.mono (h : Sh n d) (hn : n ≤ m) : Sh m d := ⟨h.1, Nat.le_trans h.2 hn⟩
theorem ShA.mono (h : ShA n ds) (hn : n ≤ m) : ShA m ds := ⟨h.1, Nat.le_trans h.2 hn⟩
theorem Sh.non : Sh n .none := ⟨rfl, Nat.zero_le _⟩
theorem Sh.bl {b : Bool} : Sh n (.bool b) := ⟨rfl, Nat.zero_le _⟩
theorem Sh.int {i : Int} : Sh n (.int i) := ⟨rfl, Nat.zero_le _⟩
theorem Sh.str {x : Str} (h : PyData.canLay0 (.str x) = true) : Sh n (.str x) := ⟨h, Nat.zero_le _⟩
theorem Sh.lst (h : ShA n ds) : Sh (n + 1) (.list ds) := ⟨h.1, Nat.succ_le_succ h.2⟩
theorem Sh.tup (h : ShA n ds) : Sh (n + 1) (.tuple ds) := ⟨h.1, Nat.succ_le_succ h.2⟩
theorem ShA.nil : ShA n [] := ⟨rfl, Nat.zero_le _⟩
theorem ShA.cons (h : Sh n d) (k : ShA n ds) : ShA n (d :: ds) := by
  refine ⟨?_, Nat.max_le.mpr ⟨h.2, k.2⟩⟩
  show (d.canLay0 && PyData.canLayAll0 ds) = true
  rw [h.1, k.1]
  rfl
theorem ShA.all : ∀ {ds : List PyData}, (∀ d ∈ ds, Sh n d) → ShA n ds
  | [], _ => .nil
  | d :: r, h => .cons (h d List.mem_cons_self) (ShA.all fun e he => h e (List.mem_cons_of_mem _ he))
theorem ShA.ints {ns : List Int} : ShA n (ns.map PyData.int) := .all fun d h => by
  obtain ⟨i, _, rfl⟩ := List.mem_map.mp h
  exact .int
theorem ShA.append (h : ShA n ds) (k : ShA n es) : ShA n (ds ++ es) := by
  induction ds with
  | nil => exact k
  | cons d r ih =>
    have h1 : (d.canLay0 && PyData.canLayAll0 r) = true := h.1
    have h2 := Bool.and_eq_true_iff.mp h1
    have h3 := Nat.max_le.mp h.2
    exact .cons ⟨h2.1, h3.1⟩ (ih ⟨h2.2, h3.2⟩)
end
section
variable {a c p : Addr} {H H' : Hp} {o : HO}
theorem Rng.same (R : Rng a c H) (s : Same H H') : Rng a c H' := by
  obtain ⟨ne, ns, m, ha, hc, hn, hm⟩ := R
  exact ⟨ne, ns, m, s _ _ ha, s _ _ hc, hn, hm⟩
theorem Gr.same (s : Same H H') : Gr a c H H' := Lb.Same.hid s
/-- what stands beside the two places stands -/
theorem Gr.keep (g : Gr a c H H') (h1 : p ≠ a) (h2 : p ≠ c) (e : H p = some o) : H' p = some o := g.at (by rw [hid_out (hid2 h1 h2)]; exact e)
theorem hid_of (h1 : p ≠ a) (h2 : p ≠ c) (e : H p = some o) : hid [a, c] H p = some o := by
  rw [hid_out (hid2 h1 h2)]
  exact e
theorem hid_upd_ne {b : Addr} {S : List Addr} (h : b ≠ p) : hid S (upd H p o) b = hid S H b := by
  by_cases q : b ∈ S
  · rw [hid_in q, hid_in q]
  · rw [hid_out q, hid_out q, upd_ne h]
end
end Lb
set_option Elab.async false
set_option linter.all false
set_option maxRecDepth 100000
set_option maxHeartbeats 4000000
/-! From a def's facts to its callable. -/
namespace Lb
open PySem PySem.Spec PyProof.Rows L2
section
variable {P : Program} {w : World} {K : PySem.W.Frag} {h : Heap} {mg : Str → Option Value} {base : Heap} {x m cls qual name : Str} {k : Nat} {ps : List Str} {sp : Sp} {f : Addr} {fd : FuncData}
variable {params : Arguments} {body : List Stmt} {scope : Scope}
def spF : Sp := fun _ _ _ _ => False
theorem okF : FnOk P w K mg base CX0 k f fd ps spF := ⟨fun _ _ _ _ q => False.elim q, fun _ _ _ _ _ _ _ _ _ _ _ _ _ q => False.elim q⟩
theorem mkCal (F : FunD K name qual params body scope [] [] f fd) (g : mg x = some (.ref f)) (hb : Binds K fd ps []) (O : FnOk P w K mg base CX0 k f fd ps sp) : Cal P w K mg base x k ps sp := ⟨⟨_, _, g, F.kp, hb, O⟩⟩
theorem mkCalM {C : Addr} (hc : Cls K C) (hm : Meth K C m f) (hb : Binds K fd ps []) (O : FnOk P w K mg base CX0 k f fd ps sp) : CalM P w K mg base C m k ps sp := ⟨⟨_, _, hc, hm, hb, O⟩⟩
theorem mkCalC {C : Addr} (g : mg x = some (.ref C)) (M : Mk K C f) (hb : Binds K fd ps []) (O : FnOk P w K mg base CX0 k f fd ps sp) : CalC P w K mg base x C k ps sp := ⟨⟨_, _, g, M, hb, O⟩⟩
theorem Cal.up {j : Nat} (c : Cal P w K mg base x j ps sp) (hl : j ≤ k) : Cal P w K mg base x k ps sp := by
  obtain ⟨f, fd, g, kp, hb, O⟩ := c.ex
  exact ⟨⟨f, fd, g, kp, hb, O.mono hl⟩⟩
theorem Cal.weak {sp' : Sp} (c : Cal P w K mg base x k ps sp) (hs : ∀ vs H Q E, sp' vs H Q E → sp vs H Q E) : Cal P w K mg base x k ps sp' := by
  obtain ⟨f, fd, g, kp, hb, O⟩ := c.ex
  exact ⟨⟨f, fd, g, kp, hb, O.imp hs⟩⟩
theorem look_cf {c : Str → NameKind → Bool} {x : Str} : ∀ {names : List (Str × NameKind)}, names.lookup x = some .cell ∨ names.lookup x = some .free → (names.map fun (n, k) => if c n k = true then (n, NameKind.cell) else (n, k)).lookup x = some .cell ∨ (names.map fun (n, k) => if c n k = true then (n, NameKind.cell) else (n, k)).lookup x = some .free
  | [], h => by rcases h with h | h <;> cases h
  | (n, k) :: r, h => by
    show List.lookup x ((if c n k = true then (n, NameKind.cell) else (n, k)) :: _) = _ ∨ List.lookup x ((if c n k = true then (n, NameKind.cell) else (n, k)) :: _) = _
    by_cases e : x = n
    · subst e
      have h2 : k = .cell ∨ k = .free := by
        rcases h with h | h
        · rw [List.lookup_cons_self] at h
          exact .inl (Option.some.inj h)
        · rw [List.lookup_cons_self] at h
          exact .inr (Option.some.inj h)
      by_cases q : c x k = true
      · rw [if_pos q, List.lookup_cons_self]
        exact .inl rfl
      · rw [if_neg q, List.lookup_cons_self]
        rcases h2 with z | z <;> rw [z]
        · exact .inl rfl
        · exact .inr rfl
    · have hb : (x == n) = false := beq_false_of_ne e
      have h2 : r.lookup x = some .cell ∨ r.lookup x = some .free := by
        simp only [List.lookup, hb] at h
        exact h
      have ih := look_cf (c := c) h2
      by_cases q : c n k = true
      · rw [if_pos q]
        simp only [List.lookup, hb]
        exact ih
      · rw [if_neg q]
        simp only [List.lookup, hb]
        exact ih
theorem blkOk_in {N : List Str} {sc scope2 : Scope} {own : List (Str × Nat)} {cl : List (Str × Addr)} {C : Addr} {e : Env} (h : blkC N sc scope2 own = true) : BlkOk N (compEnvC sc cl C e).scope scope2 own := by
  have b := blkOk_by h
  exact ⟨b.kind, b.uniq, b.ix, fun y hy q => look_cf (c := fun n k => (k == NameKind.free && e.scope.kind == .function && e.kindOf n == some .cell)) (b.free y hy q), b.own⟩
theorem gv_int (X : K.In h) (G : h.Ns mainGlobals mg) {i : Int} (c : (He.Fa.int x i).ok K = true) : GV mg x (.int i) := by
  obtain ⟨t, e⟩ := He.int_ok X G c
  exact ⟨⟨_, e, t, rfl⟩⟩
theorem gv_str (X : K.In h) (G : h.Ns mainGlobals mg) {i : Str} (c : (He.Fa.str x i).ok K = true) : GV mg x (.str i) := by
  obtain ⟨t, e⟩ := He.str_ok X G c
  exact ⟨⟨_, e, t, rfl⟩⟩
theorem gv_glo (X : K.In h) (G : h.Ns mainGlobals mg) (c : (He.Fa.glo x).ok K = true) : GV mg x (.ref (He.ga K x)) := ⟨⟨_, He.glo_ok X G c, rfl⟩⟩
end
end Lb
set_option Elab.async false
set_option linter.all false
set_option maxRecDepth 100000
set_option maxHeartbeats 4000000
/-! Lo: what a walk owns: places that it may change, each with its contents, beside a part of the heap that stays. Knows no program. -/
namespace Lb
open PySem PySem.Spec PyProof.Rows L2
structure Own (a c : Addr) (B H : Hp) (ls : List (Addr × HO)) : Prop where
  R : Rng a c H
  keep : Same B H
  nd : (ls.map Prod.fst).Nodup
  out : ∀ x ∈ ls, B x.1 = none ∧ x.1 ≠ a ∧ x.1 ≠ c
  here : ∀ x ∈ ls, H x.1 = some x.2
  ha : B a = none
  hc : B c = none
inductive Up1 (p : Addr) (o o' : HO) : List (Addr × HO) → List (Addr × HO) → Prop
  | here {r : List (Addr × HO)} : Up1 p o o' ((p, o) :: r) ((p, o') :: r)
  | there {x : Addr × HO} {r r' : List (Addr × HO)} (h : Up1 p o o' r r') : Up1 p o o' (x :: r) (x :: r')
section
variable {a c p : Addr} {B H H' : Hp} {o o' : HO} {ls ls' l1 l2 : List (Addr × HO)}
theorem Up1.mem (h : Up1 p o o' ls ls') : (p, o) ∈ ls := by
  induction h with
  | here => exact List.mem_cons_self
  | there _ ih => exact List.mem_cons_of_mem _ ih
theorem Up1.fst (h : Up1 p o o' ls ls') : ls'.map Prod.fst = ls.map Prod.fst := by
  induction h with
  | here => rfl
  | there _ ih => rw [List.map_cons, List.map_cons, ih]
theorem Up1.of (h : Up1 p o o' ls ls') : ∀ x ∈ ls', x = (p, o') ∨ x ∈ ls := by
  induction h with
  | here => exact fun x hx => (List.mem_cons.mp hx).imp id (List.mem_cons_of_mem _)
  | there _ ih =>
    intro x hx
    rcases List.mem_cons.mp hx with e | e
    · exact .inr (by rw [e]; exact List.mem_cons_self)
    · exact (ih x e).imp id (List.mem_cons_of_mem _)
theorem Up1.other (h : Up1 p o o' ls ls') (nd : (ls.map Prod.fst).Nodup) : ∀ x ∈ ls', x = (p, o') ∨ (x ∈ ls ∧ x.1 ≠ p) := by
  induction h with
  | here =>
    intro x hx
    rcases List.mem_cons.mp hx with e | e
    · exact .inl e
    · refine .inr ⟨List.mem_cons_of_mem _ e, fun q => ?_⟩
      have h1 := (List.nodup_cons.mp nd).1
      exact h1 (by
        have z := List.mem_map_of_mem (f := Prod.fst) e
        rw [q] at z
        exact z)
  | @there y r r' k ih =>
    intro x hx
    have h1 := List.nodup_cons.mp nd
    rcases List.mem_cons.mp hx with e | e
    · refine .inr ⟨by rw [e]; exact List.mem_cons_self, fun q => ?_⟩
      exact h1.1 (by rw [← e, q]; exact List.mem_map_of_mem (f := Prod.fst) k.mem)
    · exact (ih h1.2 x e).imp id fun z => ⟨List.mem_cons_of_mem _ z.1, z.2⟩
theorem Own.mem (O : Own a c B H ls) (h : (p, o) ∈ ls) : H p = some o := O.here _ h
theorem Own.kp (O : Own a c B H ls) (h : B p = some o) : H p = some o := O.keep _ _ h
theorem Own.draw (O : Own a c B H ls) (R : Rng a c H') (f : Fra a c H H') : Own a c B H' ls := by
  refine ⟨R, fun b o e => ?_, O.nd, O.out, fun x hx => ?_, O.ha, O.hc⟩
  · rw [f b (fun q => by rw [q, O.ha] at e; cases e) fun q => by rw [q, O.hc] at e; cases e]
    exact O.keep _ _ e
  · rw [f _ (O.out x hx).2.1 (O.out x hx).2.2]
    exact O.here x hx
theorem Own.same (O : Own a c B H ls) (s : Same H H') : Own a c B H' ls := ⟨O.R.same s, fun b o e => s _ _ (O.keep _ _ e), O.nd, O.out, fun x hx => s _ _ (O.here x hx), O.ha, O.hc⟩
theorem Own.set (O : Own a c B H ls) (h : Up1 p o o' ls ls') : Own a c B (upd H p o') ls' := by
  have hp := O.out _ h.mem
  refine ⟨O.R.upd hp.2.1 hp.2.2, fun b u e => ?_, by rw [h.fst]; exact O.nd, fun x hx => ?_, fun x hx => ?_, O.ha, O.hc⟩
  · rw [upd_ne (fun q => by rw [q, hp.1] at e; cases e)]
    exact O.keep _ _ e
  · rcases h.of x hx with e | e
    · rw [e]
      exact hp
    · exact O.out x e
  · rcases h.other O.nd x hx with e | e
    · rw [e]
      exact upd_same
    · rw [upd_ne e.2]
      exact O.here x e.1
theorem Own.new (O : Own a c B H ls) (hp : H p = none) : Own a c B (upd H p o) ((p, o) :: ls) := by
  obtain ⟨n1, n2⟩ := O.R.fresh hp
  have hb : B p = none := by
    cases e : B p with
    | none => rfl
    | some u => rw [O.keep _ _ e] at hp; cases hp
  have hne : ∀ x ∈ ls, x.1 ≠ p := fun x hx q => by
    have := O.here x hx
    rw [q, hp] at this
    cases this
  refine ⟨O.R.upd n1 n2, fun b u e => ?_, ?_, fun x hx => ?_, fun x hx => ?_, O.ha, O.hc⟩
  · rw [upd_ne (fun q => by rw [q, hb] at e; cases e)]
    exact O.keep _ _ e
  · rw [List.map_cons]
    refine List.nodup_cons.mpr ⟨fun q => ?_, O.nd⟩
    obtain ⟨x, hx, e⟩ := List.mem_map.mp q
    exact hne x hx e
  · rcases List.mem_cons.mp hx with e | e
    · rw [e]
      exact ⟨hb, n1, n2⟩
    · exact O.out x e
  · rcases List.mem_cons.mp hx with e | e
    · rw [e]
      exact upd_same
    · rw [upd_ne (hne x e)]
      exact O.here x e
theorem Own.perm (O : Own a c B H ls) (h : ls.Perm ls') : Own a c B H ls' :=
  ⟨O.R, O.keep, (h.map _).nodup_iff.mp O.nd, fun x hx => O.out x (h.mem_iff.mpr hx), fun x hx => O.here x (h.mem_iff.mpr hx), O.ha, O.hc⟩
/-- the contents of a part of what is owned -/
def cellsH (ls : List (Addr × HO)) : Hp := fun p => ls.lookup p
theorem look_mem {x : Addr × HO} : ∀ {ls : List (Addr × HO)}, (ls.map Prod.fst).Nodup → x ∈ ls → ls.lookup x.1 = some x.2
  | [], _, h => by cases h
  | y :: r, nd, h => by
    have h1 := List.nodup_cons.mp nd
    rcases List.mem_cons.mp h with e | e
    · rw [e]
      show (match y.1 == y.1 with | true => some y.2 | false => r.lookup y.1) = _
      rw [beq_self_eq_true]
    · have ne : ¬ x.1 = y.1 := fun q => h1.1 (by rw [← q]; exact List.mem_map_of_mem e)
      show (match x.1 == y.1 with | true => some y.2 | false => r.lookup x.1) = _
      rw [beq_false_of_ne ne]
      exact look_mem h1.2 e
theorem look_none {p : Addr} : ∀ {ls : List (Addr × HO)}, p ∉ ls.map Prod.fst → ls.lookup p = none
  | [], _ => rfl
  | y :: r, h => by
    have ne : ¬ p = y.1 := fun q => h (by rw [q]; exact List.mem_cons_self)
    show (match p == y.1 with | true => some y.2 | false => r.lookup p) = _
    rw [beq_false_of_ne ne]
    exact look_none fun q => h (List.mem_cons_of_mem _ q)
/-- a part of it stays from now on -/
theorem Own.hide (O : Own a c B H (l1 ++ l2)) : ∃ B', Same B B' ∧ (∀ x ∈ l1, B' x.1 = some x.2) ∧ (∀ q ∉ l1.map Prod.fst, B' q = B q) ∧ Own a c B' H l2 := by
  have nd : (l1.map Prod.fst ++ l2.map Prod.fst).Nodup := by
    rw [← List.map_append]
    exact O.nd
  obtain ⟨n1, n2, n3⟩ := List.nodup_append.mp nd
  have key : ∀ q ∉ l1.map Prod.fst, (match l1.lookup q with | some o => some o | none => B q) = B q := fun q hq => by rw [look_none hq]
  have at1 : ∀ x ∈ l1, (match l1.lookup x.1 with | some o => some o | none => B x.1) = some x.2 := fun x hx => by rw [look_mem n1 hx]
  refine ⟨fun q => match l1.lookup q with | some o => some o | none => B q, fun b u e => ?_, at1, key, O.R, fun b u e => ?_, n2, fun x hx => ?_, fun x hx => O.here x (List.mem_append_right _ hx), ?_, ?_⟩
  · refine (key b fun hq => ?_).trans e
    obtain ⟨x, hx, ex⟩ := List.mem_map.mp hq
    have := (O.out x (List.mem_append_left _ hx)).1
    rw [ex, e] at this
    cases this
  · by_cases hq : b ∈ l1.map Prod.fst
    · obtain ⟨x, hx, ex⟩ := List.mem_map.mp hq
      rw [← ex] at e ⊢
      have e2 : some x.2 = some u := (at1 x hx).symm.trans e
      rw [← e2]
      exact O.here x (List.mem_append_left _ hx)
    · exact O.keep _ _ ((key b hq).symm.trans e)
  · have o1 := O.out x (List.mem_append_right _ hx)
    refine ⟨?_, o1.2⟩
    exact (key _ fun hq => n3 _ hq _ (List.mem_map_of_mem hx) rfl).trans o1.1
  · show (match l1.lookup a with | some o => some o | none => B a) = none
    rw [key a fun hq => ?_]
    · exact O.ha
    obtain ⟨x, hx, ex⟩ := List.mem_map.mp hq
    exact (O.out x (List.mem_append_left _ hx)).2.1 ex
  · show (match l1.lookup c with | some o => some o | none => B c) = none
    rw [key c fun hq => ?_]
    · exact O.hc
    obtain ⟨x, hx, ex⟩ := List.mem_map.mp hq
    exact (O.out x (List.mem_append_left _ hx)).2.2 ex
theorem Own.freeze (O : Own a c B H ((p, o) :: ls)) : ∃ B', Same B B' ∧ B' p = some o ∧ Own a c B' H ls := by
  obtain ⟨B', s, h, _, O'⟩ := Own.hide (l1 := [(p, o)]) O
  exact ⟨B', s, h _ List.mem_cons_self, O'⟩
/-- .. and is owned again -/
theorem Own.unhide (O : Own a c B H l2) (nd : (l1.map Prod.fst).Nodup) (h : ∀ x ∈ l1, B x.1 = some x.2) : Own a c (hid (l1.map Prod.fst) B) H (l1 ++ l2) := by
  refine ⟨O.R, fun b u e => O.keep _ _ (hid_some e).1, ?_, fun x hx => ?_, fun x hx => ?_, ?_, ?_⟩
  · rw [List.map_append]
    refine List.nodup_append.mpr ⟨nd, O.nd, fun u hu v hv e => ?_⟩
    obtain ⟨x, hx, ex⟩ := List.mem_map.mp hu
    obtain ⟨y, hy, ey⟩ := List.mem_map.mp hv
    have h1 := h x hx
    have h2 := (O.out y hy).1
    rw [ey, ← e, ← ex, h1] at h2
    cases h2
  · rcases List.mem_append.mp hx with e | e
    · refine ⟨hid_in (List.mem_map_of_mem e), fun q => ?_, fun q => ?_⟩
      · have := h x e
        rw [q, O.ha] at this
        cases this
      · have := h x e
        rw [q, O.hc] at this
        cases this
    · refine ⟨?_, (O.out x e).2⟩
      by_cases q : x.1 ∈ l1.map Prod.fst
      · exact hid_in q
      · rw [hid_out q]
        exact (O.out x e).1
  · rcases List.mem_append.mp hx with e | e
    · exact O.keep _ _ (h x e)
    · exact O.here x e
  · by_cases q : a ∈ l1.map Prod.fst
    · exact hid_in q
    · rw [hid_out q]
      exact O.ha
  · by_cases q : c ∈ l1.map Prod.fst
    · exact hid_in q
    · rw [hid_out q]
      exact O.hc
theorem Same.hidO {l : List Addr} (s : Same B H) (h : ∀ p ∈ l, B p = none) : Same B (Lb.hid l H) := fun b u e => by
  rw [hid_out fun q => by rw [h b q] at e; cases e]
  exact s _ _ e
end
/-- what came since -/
inductive Pre (l0 : List (Addr × HO)) : List (Addr × HO) → List (Addr × HO) → Prop
  | nil : Pre l0 l0 []
  | cons {x : Addr × HO} {l l1 : List (Addr × HO)} (h : Pre l0 l l1) : Pre l0 (x :: l) (x :: l1)
inductive PutF (f : Str) (y : V) : List (Str × V) → List (Str × V) → Prop
  | nil : PutF f y [] [(f, y)]
  | here {x : V} {r : List (Str × V)} : PutF f y ((f, x) :: r) ((f, y) :: r)
  | there {g : Str} {x : V} {r r' : List (Str × V)} (n : ¬ g = f) (h : PutF f y r r') : PutF f y ((g, x) :: r) ((g, x) :: r')
inductive LkF (f : Str) (v : Option V) : List (Str × V) → Prop
  | nil (h : v = none) : LkF f v []
  | here {x : V} {r : List (Str × V)} (h : v = some x) : LkF f v ((f, x) :: r)
  | there {g : Str} {x : V} {r : List (Str × V)} (n : ¬ f = g) (h : LkF f v r) : LkF f v ((g, x) :: r)
section
variable {a c p : Addr} {B H H' : Hp} {o o' : HO} {ls ls' l0 l1 l2 : List (Addr × HO)} {f : Str} {y : V} {fs fs' : List (Str × V)} {w : Option V}
theorem Pre.eq (h : Pre l0 l1 l2) : l1 = l2 ++ l0 := by
  induction h with
  | nil => rfl
  | cons _ ih => rw [ih]; rfl
theorem PutF.eq (h : PutF f y fs fs') : putF f y fs = fs' := by
  induction h with
  | nil => rfl
  | here => exact if_pos rfl
  | there n _ ih => exact (if_neg n).trans (by rw [ih])
theorem LkF.eq (h : LkF f w fs) : fs.lookup f = w := by
  induction h with
  | nil e => exact e.symm
  | @here x r e =>
    show (match f == f with | true => some x | false => r.lookup f) = w
    rw [beq_self_eq_true]
    exact e.symm
  | @there g x r n _ ih =>
    show (match f == g with | true => some x | false => r.lookup f) = w
    rw [beq_false_of_ne n]
    exact ih
theorem Own.settle (O : Own a c B H ls) (h : Pre l0 ls l1) : ∃ B', Same B B' ∧ (∀ x ∈ l1, B' x.1 = some x.2) ∧ Own a c B' H l0 := by
  rw [h.eq] at O
  obtain ⟨B', s, k, _, O'⟩ := O.hide
  exact ⟨B', s, k, O'⟩
theorem Own.drop (O : Own a c B H (l1 ++ l2)) : Own a c B H l2 :=
  ⟨O.R, O.keep, (by
    have nd := O.nd
    rw [List.map_append] at nd
    exact (List.nodup_append.mp nd).2.1), fun x hx => O.out x (List.mem_append_right _ hx), fun x hx => O.here x (List.mem_append_right _ hx), O.ha, O.hc⟩
theorem Own.dropP (O : Own a c B H ls) (h : Pre l0 ls l1) : Own a c B H l0 := by
  rw [h.eq] at O
  exact O.drop
theorem Own.start (R : Rng a c H) : Own a c (hid [a, c] H) H [] := ⟨R, hid_sub, List.nodup_nil, fun _ h => (List.not_mem_nil h).elim, fun _ h => (List.not_mem_nil h).elim, hid_in List.mem_cons_self, hid_in (List.mem_cons_of_mem _ List.mem_cons_self)⟩
end
/-! ### steps by what is owned -/
section
variable {a c p : Addr} {B H : Hp} {ls ls' : List (Addr × HO)} {Q : VK} {xs : List V} {o : HO} {σ : L2.St}
/-- a new place -/
def NewO (o : HO) (H : Hp) (Q : VK) : Prop := ∀ p, H p = none → Q (.ref p) (upd H p o)
def FldS (K : PySem.W.Frag) (x : V) (f : Str) (y : V) (H : Hp) (R : Hp → Prop) : Prop := ∃ a C dx fs, x = .ref a ∧ H a = some (.ins C dx fs) ∧ Cls K C ∧ NoAttr K C f ∧ fs.length < 1000 ∧ R (upd H a (.ins C dx (putF f y fs)))
def NewI (C : Addr) (sp : Sp) (vs : List V) (H : Hp) (Q : VK) (E : XK) : Prop := ∀ x dx, H x = none → H dx = none → dx ≠ x → sp (.ref x :: vs) (upd (upd H dx (.own x)) x (.ins C dx [])) (fun v H2 => v = .non ∧ Q (.ref x) H2) E
theorem i_tupN {t : TA} (q : t σ H fun xs H1 => xs.length ≤ sizeLine ∧ NewO (.tup xs) H1 Q) : tTup t σ H Q := q
theorem i_lstN {t : TA} (q : t σ H fun xs H1 => xs.length ≤ sizeLine ∧ NewO (.lst xs) H1 Q) : tLst t σ H Q := q
theorem i_dnewN (q : NewO (.dK []) H Q) : tDNewK σ H Q := q
theorem i_fldSN {K : PySem.W.Frag} {ta tv : TE} {f : Str} {nx : L2.St → Hp → Prop} {rt : VK} {bk ct : L2.St → Hp → Prop} (q : tv σ H fun y H1 => ta σ H1 fun x H2 => FldS K x f y H2 fun H3 => nx σ H3) : sFld K ta tv f ⟨nx, rt, bk, ct⟩ σ H := q
theorem i_makeN {C : Addr} {sp : Sp} {E : XK} {t : TA} (q : t σ H fun vs H1 => NewI C sp (vs ++ []) H1 Q E) : tMake C sp [] E t σ H Q := q
theorem i_listN {p : Addr} (h : H p = some (.lst xs)) (k : NewO (.lst xs) H Q) : rListA [.ref p] H Q := i_listL h k
theorem i_listTN {p : Addr} (h : H p = some (.tup xs)) (k : NewO (.lst xs) H Q) : rListA [.ref p] H Q := i_listT h k
theorem i_addN {p q : Addr} {ys : List V} (h1 : H p = some (.lst xs)) (h2 : H q = some (.lst ys)) (h : xs.length + ys.length ≤ sizeLine) (k : NewO (.lst (xs ++ ys)) H Q) : rAddA (.ref p) (.ref q) H Q := i_addL h1 h2 h k
theorem i_tupO (O : Own a c B H ls) (hz : xs.length ≤ sizeLine) (k : ∀ p H', Own a c B H' ((p, .tup xs) :: ls) → Q (.ref p) H') : xs.length ≤ sizeLine ∧ NewO (.tup xs) H Q := ⟨hz, fun p hp => k p _ (O.new hp)⟩
theorem i_lstO (O : Own a c B H ls) (hz : xs.length ≤ sizeLine) (k : ∀ p H', Own a c B H' ((p, .lst xs) :: ls) → Q (.ref p) H') : xs.length ≤ sizeLine ∧ NewO (.lst xs) H Q := ⟨hz, fun p hp => k p _ (O.new hp)⟩
theorem i_newO (O : Own a c B H ls) (k : ∀ p H', Own a c B H' ((p, o) :: ls) → Q (.ref p) H') : NewO o H Q := fun p hp => k p _ (O.new hp)
theorem i_dgetI {p : Addr} {kvs : List (Key × V)} {i : Int} {v : V} {R : V → Prop} (h : H p = some (.dK kvs)) (hv : valV kvs (.inl i) = some v) (q : R v) : (∃ a' v', V.ref p = .ref a' ∧ DGet H a' (.int i) (some v') ∧ R v') := i_dgetK h (k := .inl i) rfl hv q
inductive IxO : HO → Int → V → Prop
  | lst {xs : List V} {i : Int} {v : V} (h : atI xs i = some v) : IxO (.lst xs) i v
  | tup {xs : List V} {i : Int} {v : V} (h : atI xs i = some v) : IxO (.tup xs) i v
inductive LenO : HO → Int → Prop
  | lst {xs : List V} : LenO (.lst xs) xs.length
  | tup {xs : List V} : LenO (.tup xs) xs.length
  | dK {kvs : List (Key × V)} : LenO (.dK kvs) kvs.length
theorem i_ixA {p : Addr} {i : Int} {v : V} (h : H p = some o) (hi : IxO o i v) (q : Q v H) : rIxA (.ref p) (.int i) H Q := by
  cases hi with
  | lst hi => exact i_ixL h hi q
  | tup hi => exact i_ixT h hi q
theorem i_lenA {p : Addr} {i : Int} (h : H p = some o) (hi : LenO o i) (q : Q (.int i) H) : rLenA [.ref p] H Q := by
  cases hi with
  | lst => exact i_lenL h q
  | tup => exact i_lenT h q
  | dK => exact i_lenD h q
theorem i_appO {l : Addr} {y : V} (O : Own a c B H ls) (h : Up1 l (.lst xs) (.lst (xs ++ [y])) ls ls') (hz : xs.length < sizeLine) (k : ∀ H', Own a c B H' ls' → Q .non H') : rAppA (.ref l) [y] H Q := i_app (O.mem h.mem) hz (k _ (O.set h))
theorem i_setO {l : Addr} {i : Int} {j : Nat} {v : V} {R : Hp → Prop} (O : Own a c B H ls) (h : Up1 l (.lst xs) (.lst (xs.set j v)) ls ls') (hi : ixN xs.length i = some j) (k : ∀ H', Own a c B H' ls' → R H') : rSetA (.ref l) (.int i) v H R := i_setL (O.mem h.mem) hi (k _ (O.set h))
theorem i_popIO {l : Addr} {y : V} {i : Int} {j : Nat} (O : Own a c B H ls) (h : Up1 l (.lst xs) (.lst (xs.eraseIdx j)) ls ls') (hi : i = (j : Int)) (hj : j < 2 ^ 62) (hy : xs[j]? = some y) (k : ∀ H', Own a c B H' ls' → Q y H') : rPopI (.ref l) [.int i] H Q := by
  simp only [rPopI, O.mem h.mem]
  exact ⟨j, y, hi, hj, hy, k _ (O.set h)⟩
theorem i_popLO {l : Addr} {y : V} (O : Own a c B H ls) (h : Up1 l (.lst xs) (.lst xs.dropLast) ls ls') (hy : xs[xs.length - 1]? = some y) (k : ∀ H', Own a c B H' ls' → Q y H') : rPopL (.ref l) [] H Q := i_popL (O.mem h.mem) hy (k _ (O.set h))
theorem i_fldO {K : PySem.W.Frag} {l C dx : Addr} {fs : List (Str × V)} {f : Str} {v : V} {R : V → Prop} (h : H l = some (.ins C dx fs)) (hc : Cls K C) (hn : NoAttr K C f) (hv : LkF f (some v) fs) (k : R v) :
    (∃ a C dx fs v, V.ref l = .ref a ∧ H a = some (.ins C dx fs) ∧ Cls K C ∧ NoAttr K C f ∧ fs.lookup f = some v ∧ R v) := ⟨l, C, dx, fs, v, rfl, h, hc, hn, hv.eq, k⟩
theorem i_fldSO {K : PySem.W.Frag} {l C dx : Addr} {fs : List (Str × V)} {f : Str} {y : V} {R : Hp → Prop} (O : Own a c B H ls) {fs' : List (Str × V)} (h : Up1 l (.ins C dx fs) (.ins C dx fs') ls ls') (hf : PutF f y fs fs') (hc : Cls K C) (hn : NoAttr K C f) (hz : fs.length < 1000) (k : ∀ H', Own a c B H' ls' → R H') :
    FldS K (.ref l) f y H R := ⟨l, C, dx, fs, rfl, O.mem h.mem, hc, hn, hz, by rw [hf.eq]; exact k _ (O.set h)⟩
theorem i_methO {C l dx : Addr} {fs : List (Str × V)} {m : Str} {t : TA} {R : List V → Hp → Prop} (h : H l = some (.ins C dx fs)) (hm : LkF m none fs) (k : t σ H R) :
    (∃ a dx fs, V.ref l = .ref a ∧ H a = some (.ins C dx fs) ∧ fs.lookup m = none ∧ t σ H R) := ⟨l, dx, fs, rfl, h, hm.eq, k⟩
theorem i_mkd {R : Prop} (q : R) : (V.non = V.non ∧ R) := ⟨rfl, q⟩
theorem i_makeO {C : Addr} {sp : Sp} {E : XK} {vs : List V} (O : Own a c B H ls) (k : ∀ x dx H', Own a c B H' ((x, .ins C dx []) :: (dx, .own x) :: ls) → sp (.ref x :: vs) H' (fun v H2 => v = .non ∧ Q (.ref x) H2) E) : NewI C sp vs H Q E :=
  fun x dx hx hd ne => k x dx _ ((O.new hd).new (by rw [upd_ne ne.symm]; exact hx))
theorem i_drawO {s : Addr} {n : Int} {E : XK} (O : Own a c B H ls) (hs : s = a) (h0 : 0 < n) (h1 : n < 1073741824) (k : ∀ (r : Int) H', 0 ≤ r → r < n → Own a c B H' ls → Q (.int r) H') : spDraw ([.ref s, .int n] ++ []) H Q E := by
  subst hs
  exact ⟨_, c, n, rfl, h0, h1, O.R, fun H' r a1 a2 R f => k r H' a1 a2 (O.draw R f)⟩
theorem i_pickO {s p : Addr} {E : XK} (O : Own a c B H ls) (hs : s = a) (hp : (p, HO.lst xs) ∈ ls) (h0 : xs ≠ []) (h1 : xs.length ≤ 100000) (k : ∀ (v : V) H', v ∈ xs → Own a c B H' ls → Q v H') : spPick ([.ref s, .ref p] ++ []) H Q E := by
  subst hs
  exact ⟨_, c, p, xs, rfl, O.R, O.mem hp, (O.out _ hp).2.1, (O.out _ hp).2.2, h0, h1, fun H' v hv R f => k v H' hv (O.draw R f)⟩
/-! ### blocks of n alike -/
theorem blk_pull {α : Type} {n j : Nat} (h : j < n) (f : Nat → List α) : ((List.range n).flatMap f).Perm (f j ++ ((List.range n).erase j).flatMap f) := by
  have e := List.perm_cons_erase (List.mem_range.mpr h)
  exact (e.flatMap_right f)
theorem blk_other {α : Type} {n j : Nat} {f g : Nat → List α} (h : ∀ i, i ≠ j → g i = f i) : ((List.range n).erase j).flatMap g = ((List.range n).erase j).flatMap f := by
  have key : ∀ l : List Nat, j ∉ l → l.flatMap g = l.flatMap f := by
    intro l
    induction l with
    | nil => intro _; rfl
    | cons x r ih =>
      intro hj
      rw [List.flatMap_cons, List.flatMap_cons, h x (fun q => hj (by rw [q]; exact List.mem_cons_self)), ih fun q => hj (List.mem_cons_of_mem _ q)]
  exact key _ fun q => ((List.nodup_range).mem_erase_iff.mp q).1 rfl
theorem blk_below {α : Type} {n : Nat} {f g : Nat → List α} (h : ∀ i, i < n → g i = f i) : (List.range n).flatMap g = (List.range n).flatMap f := by
  have key : ∀ l : List Nat, (∀ i ∈ l, i < n) → l.flatMap g = l.flatMap f := by
    intro l
    induction l with
    | nil => intro _; rfl
    | cons x r ih =>
      intro hj
      rw [List.flatMap_cons, List.flatMap_cons, h x (hj x List.mem_cons_self), ih fun i hi => hj i (List.mem_cons_of_mem _ hi)]
  exact key _ fun i hi => List.mem_range.mp hi
theorem blk_succ {α : Type} {n : Nat} (f : Nat → List α) : (List.range (n + 1)).flatMap f = (List.range n).flatMap f ++ f n := by
  rw [List.range_succ, List.flatMap_append, List.flatMap_cons, List.flatMap_nil, List.append_nil]
theorem blk_join {α : Type} (f g : Nat → List α) : ∀ n, ((List.range n).flatMap f ++ (List.range n).flatMap g).Perm ((List.range n).flatMap fun i => f i ++ g i)
  | 0 => .nil
  | n + 1 => by
    rw [blk_succ, blk_succ, blk_succ]
    have ih := blk_join f g n
    refine List.Perm.trans ?_ (ih.append_right (f n ++ g n))
    rw [List.append_assoc, List.append_assoc]
    refine List.Perm.append_left _ ?_
    rw [← List.append_assoc, ← List.append_assoc]
    exact (List.perm_append_comm (l₁ := f n)).append_right _
/-- a def of the walk's own -/
def spIn (N : List Str) (n : Nat) (t : TS) : Sp := fun vs H Q _ => vs.length = n ∧ t { nx := fun _ H' => Q .non H', rt := Q } (L2.start N vs) H
inductive StE : List Str → List V → L2.St → Prop
  | nil : StE [] [] []
  | app {N : List Str} {vs : List V} {σ : L2.St} (h : StE N vs σ) : StE N (vs ++ []) σ
  | got {x : Str} {N : List Str} {v : V} {vs : List V} {σ : L2.St} (h : StE N vs σ) : StE (x :: N) (v :: vs) (some v :: σ)
  | lack {x : Str} {N : List Str} {σ : L2.St} (h : StE N [] σ) : StE (x :: N) [] (none :: σ)
theorem StE.eq {N : List Str} {vs : List V} {σ : L2.St} (h : StE N vs σ) : L2.start N vs = σ := by
  induction h with
  | nil => rfl
  | app _ ih => rw [List.append_nil]; exact ih
  | @got x N v vs σ _ ih =>
    rw [← ih]
    show (v :: vs).map some ++ List.replicate (N.length + 1 - (vs.length + 1)) none = some v :: (vs.map some ++ List.replicate (N.length - vs.length) none)
    rw [Nat.add_sub_add_right]
    rfl
  | @lack x N σ _ ih =>
    rw [← ih]
    rfl
theorem i_in {N : List Str} {n : Nat} {t : TS} {vs : List V} {σ : L2.St} {E : XK} (hn : vs.length = n) (hs : StE N vs σ) (q : t { nx := fun _ H' => Q .non H', rt := Q } σ H) : spIn N n t vs H Q E := ⟨hn, by rw [hs.eq]; exact q⟩
end
end Lb
set_option Elab.async false
set_option linter.all false
set_option maxRecDepth 100000
set_option maxHeartbeats 4000000
/-! Lp: attributes as targets, is of bools, index of ints. Knows no program. -/
namespace Lb
open PySem PySem.Spec PyProof.Rows L2
/-- o.f as a target -/
def gFld (K : PySem.W.Frag) (ta : TE) (f : Str) : TG := fun v σ H R => ta σ H fun x H1 => FldS K x f v H1 fun H2 => R σ H2
section
variable {X : Cx} {o : Expr} {f : Str} {ta : TE} {pos : Pos}
theorem pg_fld (ha : PE X o ta) : PG X (.Attribute o f pos) (gFld X.K ta f) := by
  refine ⟨fun pins s σ H v u Q I r h => ?_⟩
  refine PySem.W.kas_attr (thn (ha.run pins s σ H _ I h) fun ov s1 ⟨x, H1, I1, rx, a, C, dx, fs, ex, ea, c, n, l, q⟩ => ?_)
  subst ex
  obtain rfl : ov = Value.ref a := rx
  exact setattr_ok I1 ea c n l r fun s2 I2 => ⟨σ, _, I2, q⟩
end
section
variable {H : Hp} {Q : VK} {σ : L2.St}
theorem i_gfld {K : PySem.W.Frag} {ta : TE} {f : Str} {v : V} {R : L2.St → Hp → Prop} (q : ta σ H fun x H1 => FldS K x f v H1 fun H2 => R σ H2) : gFld K ta f v σ H R := q
theorem i_glst {K : PySem.W.Frag} {n : Nat} {t : TGs} {a : Addr} {xs : List V} {R : L2.St → Hp → Prop} (h : H a = some (.lst xs)) (hn : xs.length = n) (q : t xs σ H R) : gLst K n t (.ref a) σ H R := ⟨a, xs, rfl, SqL.of h, hn, q⟩
theorem i_isB {a b : Bool} (q : Q (.bl (decide (a = b))) H) : rIsB (.bl a) (.bl b) H Q := ⟨a, b, rfl, rfl, q⟩
theorem i_notB {a b : Bool} (q : Q (.bl (!decide (a = b))) H) : rNotB (.bl a) (.bl b) H Q := ⟨a, b, rfl, rfl, q⟩
theorem i_bm {K : PySem.W.Frag} {T : String} {r : V → List V → Hp → VK → Prop} {to : TE} {t : TA} (q : to σ H fun x H1 => tyV K T x H1 ∧ t σ H1 fun xs H2 => r x xs H2 Q) : tBM K T r to t σ H Q := q
theorem eqV_int {a b : Int} : eqV (.int a) (.int b) = decide (a = b) := by
  by_cases h : a = b <;> simp [eqV, h]
/-- xs.index(y), ints -/
theorem i_indexI {K : PySem.W.Frag} {p : Addr} {ns : List Int} {y : Int} {j : Nat} (h : H p = some (.lst (ns.map V.int))) (hj : ns[j]? = some y) (hn : ∀ m, m < j → ns[m]? ≠ some y) (q : Q (.int (j : Nat)) H) : rIndex K (.ref p) [.int y] H Q := by
  refine ⟨p, ns.map V.int, .int y, j, .int y, rfl, rfl, SqL.of h, rfl, ?_, ?_, ?_, fun m z' hm hz => ?_, q⟩
  · rw [List.all_eq_true]
    intro v hv
    obtain ⟨i, _, rfl⟩ := List.mem_map.mp hv
    rfl
  · rw [List.getElem?_map, hj]
    rfl
  · rw [eqV_int]
    exact decide_eq_true rfl
  · rw [List.getElem?_map] at hz
    cases e : ns[m]? with
    | none => rw [e] at hz; cases hz
    | some u =>
      rw [e] at hz
      rw [← Option.some.inj hz]
      show eqV (.int u) (.int y) = false
      rw [eqV_int]
      exact decide_eq_false fun q => hn m hm (by rw [e, q])
end
end Lb
set_option Elab.async false
set_option linter.all false
set_option maxRecDepth 100000
set_option maxHeartbeats 4000000
/-! Lt: constant tuples of the program, index of a tuple, split, extend by a tuple. Knows no program. -/
namespace Lb
open PySem PySem.Spec PyProof.Rows L2
def allB : List V → List Value → Bool
  | [], [] => true
  | x :: xs, u :: us => He.relB x u && allB xs us
  | _, _ => false
theorem allB_ok : ∀ {xs : List V} {us : List Value}, allB xs us = true → Vals xs us
  | [], [], _ => .nil
  | x :: xs, u :: us, h => by
    obtain ⟨h1, h2⟩ := He.ba (show (He.relB x u && allB xs us) = true from h)
    exact .cons (He.relB_ok h1) (allB_ok h2)
  | [], _ :: _, h => by cases h
  | _ :: _, [], h => by cases h
/-- the global x is a tuple of these -/
def tupB (K : PySem.W.Frag) (x : Str) (xs : List V) : Bool := match K.lookup (He.ga K x) with
  | some ⟨.type c, none, .seq its _, _⟩ => decide (c = "tuple") && (decide (its.size ≤ 1000) && allB xs its.toList)
  | _ => false
/-- what a constant tuple is -/
structure KT (K : PySem.W.Frag) (a : Addr) (xs : List V) : Prop where
  sq : ∀ H, SqT K H a xs
  ty : ∀ H, tyV K "tuple" (.ref a) H
theorem tupB_ok {K : PySem.W.Frag} {x : Str} {xs : List V} (h : tupB K x xs = true) : KT K (He.ga K x) xs := by
  unfold tupB at h
  cases q : K.lookup (He.ga K x) with
  | none =>
    rw [q] at h
    cases h
  | some o =>
    obtain ⟨oc, od, dt, osl⟩ := o
    rw [q] at h
    cases oc with
    | type c =>
      cases od with
      | none =>
        cases dt with
        | seq its n =>
          obtain ⟨h1, h2⟩ := He.ba h
          obtain ⟨h3, h4⟩ := He.ba h2
          have e : c = "tuple" := of_decide_eq_true h1
          subst e
          exact ⟨fun H => .inr ⟨_, its, n, q, rfl, rfl, sz (Nat.le_trans (of_decide_eq_true h3) (by decide)), allB_ok h4⟩, fun H => .inr (.inl ⟨rfl, _, q, rfl, rfl⟩)⟩
        | _ => cases h
      | some d => cases dt <;> cases h
    | _ => cases od <;> cases dt <;> cases h
def rLenK (K : PySem.W.Frag) : List V → Hp → VK → Prop := fun xs H Q => ∃ p ys, xs = [.ref p] ∧ (SqL K H p ys ∨ SqT K H p ys) ∧ Q (.int ys.length) H
def rTixA (K : PySem.W.Frag) : V → List V → Hp → VK → Prop := fun x xs H Q => ∃ p, ∃ ys : List Str, ∃ z j, x = .ref p ∧ xs = [.str z] ∧ SqT K H p (ys.map V.str) ∧ ys[j]? = some z ∧ (∀ m, m < j → ys[m]? ≠ some z) ∧ Q (.int (j : Nat)) H
def rSplitA : V → List V → Hp → VK → Prop := fun x xs H Q => ∃ a b, x = .str a ∧ xs = [.str b] ∧ (b.length == 0) = false ∧ a.length + 2 ≤ sizeLine ∧ ∀ p, H p = none → Q (.ref p) (upd H p (.lst ((Txt.split a b).map V.str)))
def rExtT : V → List V → Hp → VK → Prop := fun x vs H Q => ∃ l b xs ys, x = .ref l ∧ vs = [.ref b] ∧ H l = some (.lst xs) ∧ H b = some (.tup ys) ∧ xs.length + ys.length ≤ sizeLine ∧ Q .non (upd H l (.lst (xs ++ ys)))
theorem ext_tup (l : Addr) (items : Array Value) (n : Nat) (b : Addr) (items2 : Array Value) (n2 : Nat) (dd : Option Addr) (sl : Array (Option Value)) (hs0 : ¬(!items.isEmpty && Builtin.List.listTooLong (items.size + items2.size)) = true) (hs1 : items.size ≤ sizeLine) (hs2 : items.size + items2.size ≤ sizeLine + 1) :
    Meets (Builtin.«list.extend» ⟨[.ref l, .ref b], []⟩) (fun _ R s => s.heap.get? l = some { cls := .type "list", dict := none, data := .seq items n, slots := #[] } ∧ s.heap.get? b = some { cls := .type "tuple", dict := dd, data := .seq items2 n2, slots := sl } ∧ R (.ok (.ret Value.none)) { s with heap := s.heap.update l (Obj.mapSeq fun x => x ++ items2), toks := s.toks }) :=
  .of_wp fun prog w A R s h => by
    obtain ⟨hp, g, d, tk, os⟩ := s; obtain ⟨hl, hb, h⟩ := h; have f1 := AutoSeq1.idx_int; have f2 := AutoSeq1.sub_tuple_tuple; have f3 := AutoSeq1.sub_list_list; have f4 := AutoSeq1.sub_tuple_list; have f5 := AutoSeq1.sub_list_tuple;
    have hz' : (items ++ items2).size ≤ sizeLine + 1 := by rw [Array.size_append]; exact hs2
    wp_walk using (wpAny_updateSeq hl rfl (hz := hs1) (_hz' := hz')), AutoSeq1.wpAny_loadPart' hl, AutoSeq1.wpAny_loadPart' hb; exact ⟨_, rfl, h⟩
section
variable {X : Cx} {H : Hp} {Q : VK} {σ : L2.St}
theorem call_lenK : CallR X (.builtin "len") (rLenK X.K) := call_len_seq
theorem mt_tixA : MtR X "tuple.index" (rTixA X.K) := mt_tup_index
theorem mt_splitA : MtR X "str.split" rSplitA := mt_split
theorem mt_extT : MtR X "list.extend" rExtT := by
  intro pins s σ H x vs v us Q I rx rv h
  obtain ⟨l, b, xs, zs, rfl, rfl, hH, hB, hz, q⟩ := h
  cases rx
  obtain ⟨u, rfl, ru⟩ := rv.one
  cases ru
  obtain ⟨z, its, n, r, hl, e⟩ := I.lstM hH
  obtain ⟨its2, r2, ⟨⟨cls, dd, dt, sl⟩, ho, hc, n2, hd⟩, hz2⟩ := I.tuple (SqT.of (K := X.K) hB)
  simp only at hc hd
  subst hc
  subst hd
  have hl2 := r2.length
  have hsz : its.toArray.size + its2.toArray.size ≤ sizeLine := by rw [List.size_toArray, List.size_toArray]; omega
  have hlong : ¬ (!its.toArray.isEmpty && Builtin.List.listTooLong (its.toArray.size + its2.toArray.size)) = true := by
    rw [notLongL hsz, Bool.and_false]
    exact Bool.false_ne_true
  refine call_meets F.slot_list_extend ⟨_, e, rfl⟩ F.entry_list_extend (F.args_list_extend_2 _ _)
    (ext_tup l its.toArray n b its2.toArray n2 dd sl hlong (by rw [List.size_toArray]; omega) (by omega)) ⟨e, ho, ?_⟩
  refine ⟨.non, _, I.lset (its' := its ++ its2) hH e (by simp) (r.append r2) ?_, rfl, q⟩
  rw [List.length_append]
  omega
end
theorem Up1.mid {p : Addr} {o o' : HO} {ls ls' : List (Addr × HO)} (h : Up1 p o o' ls ls') (m : HO) : ∃ l1, Up1 p o m ls l1 ∧ Up1 p m o' l1 ls' := by
  induction h with
  | here => exact ⟨_, .here, .here⟩
  | there _ ih =>
    obtain ⟨l1, h1, h2⟩ := ih
    exact ⟨_, .there h1, .there h2⟩
theorem Up1.mem' {p : Addr} {o o' : HO} {ls ls' : List (Addr × HO)} (h : Up1 p o o' ls ls') : (p, o') ∈ ls' := by
  induction h with
  | here => exact List.mem_cons_self
  | there _ ih => exact List.mem_cons_of_mem _ ih
theorem Up1.comp {p : Addr} {o o' o'' : HO} {ls l1 ls' : List (Addr × HO)} (h : Up1 p o o' ls l1) (k : Up1 p o' o'' l1 ls') (nd : (l1.map Prod.fst).Nodup) : Up1 p o o'' ls ls' := by
  induction h generalizing ls' with
  | here =>
    cases k with
    | here => exact .here
    | there k => exact ((List.nodup_cons.mp nd).1 (List.mem_map_of_mem (f := Prod.fst) k.mem)).elim
  | there h ih =>
    cases k with
    | here => exact ((List.nodup_cons.mp nd).1 (List.mem_map_of_mem (f := Prod.fst) h.mem')).elim
    | there k => exact .there (ih k (List.nodup_cons.mp nd).2)
theorem Up1.eq {p : Addr} {o : HO} {ls ls' : List (Addr × HO)} (h : Up1 p o o ls ls') : ls' = ls := by
  induction h with
  | here => rfl
  | there _ ih => rw [ih]
section
variable {H : Hp} {Q : VK} {σ : L2.St} {K : PySem.W.Frag}
theorem i_ixK {p : Addr} {xs : List V} {i : Int} {v : V} (h : KT K p xs) (e : atI xs i = some v) (q : Q v H) : rIxT K (.ref p) (.int i) H Q := ⟨p, xs, i, v, rfl, rfl, h.sq H, e, q⟩
theorem i_lenK {p : Addr} {xs : List V} {n : Int} (h : KT K p xs) (e : (xs.length : Int) = n) (q : Q (.int n) H) : rLenK K [.ref p] H Q := by
  subst e
  exact ⟨p, xs, rfl, .inr (h.sq H), q⟩
theorem i_tixK {p : Addr} {ys : List Str} {z : Str} {j : Nat} (h : KT K p (ys.map V.str)) (h1 : ys[j]? = some z) (h2 : ∀ m, m < j → ys[m]? ≠ some z) (q : Q (.int (j : Nat)) H) : rTixA K (.ref p) [.str z] H Q := ⟨p, ys, z, j, rfl, rfl, h.sq H, h1, h2, q⟩
theorem i_split {a b : Str} {ys : List Str} (e : Txt.split a b = ys) (h1 : (b.length == 0) = false) (h2 : a.length + 2 ≤ 100000) (q : NewO (.lst (ys.map V.str)) H Q) : rSplitA (.str a) [.str b] H Q := by
  subst e
  exact ⟨a, b, rfl, rfl, h1, sz h2, q⟩
theorem i_extT {a c l b : Addr} {B : Hp} {ls ls' : List (Addr × HO)} {xs ys : List V} (O : Own a c B H ls) (hb : H b = some (.tup ys)) (h : Up1 l (.lst xs) (.lst (xs ++ ys)) ls ls') (hz : xs.length + ys.length ≤ sizeLine) (k : ∀ H', Own a c B H' ls' → Q .non H') : rExtT (.ref l) [.ref b] H Q :=
  ⟨l, b, xs, ys, rfl, rfl, O.mem h.mem, hb, hz, k _ (O.set h)⟩
theorem i_extO {a c l b : Addr} {B : Hp} {ls ls' : List (Addr × HO)} {xs ys : List V} (O : Own a c B H ls) (hb : H b = some (.lst ys)) (h : Up1 l (.lst xs) (.lst (xs ++ ys)) ls ls') (hz : xs.length + ys.length ≤ sizeLine) (k : ∀ H', Own a c B H' ls' → Q .non H') : rExtA (.ref l) [.ref b] H Q := by
  simp only [rExtA, O.mem h.mem, hb]
  exact ⟨hz, k _ (O.set h)⟩
theorem i_tupLN {p : Addr} {xs : List V} (h : H p = some (.lst xs)) (k : NewO (.tup xs) H Q) : rTupA [.ref p] H Q := i_tupL h k
theorem i_tyK {p : Addr} {xs : List V} {R : Prop} (h : KT K p xs) (q : R) : tyV K "tuple" (.ref p) H ∧ R := ⟨h.ty H, q⟩
theorem i_tyS {z : Str} {R : Prop} (q : R) : tyV K "str" (.str z) H ∧ R := ⟨rfl, q⟩
end
theorem Own.skipP {a c : Addr} {B H : Hp} {x : Addr × HO} {l l0 l1 : List (Addr × HO)} (O : Own a c B H (x :: l)) (h : Pre l0 l l1) : Own a c B H (x :: l0) := by
  have e := h.eq
  subst e
  have O2 := O.perm (ls' := l1 ++ x :: l0) (by
    refine (List.Perm.cons x (List.Perm.refl _)).trans ?_
    exact (List.perm_middle).symm)
  exact O2.drop
theorem i_inO {K : PySem.W.Frag} {H : Hp} {Q : VK} {p : Addr} {x : V} {xs : List V} (h : H p = some (.tup xs)) (f : flatV x = true) (g : xs.all flatV = true) (q : Q (.bl (inV x xs)) H) : rIn K false x (.ref p) H Q := by
  refine ⟨p, _, rfl, .inr (SqT.of h), f, g, ?_⟩
  rw [if_neg (by simp)]
  exact q
inductive Pick (y : Addr × HO) : List (Addr × HO) → List (Addr × HO) → Prop
  | here {r : List (Addr × HO)} : Pick y (y :: r) r
  | there {x : Addr × HO} {r r' : List (Addr × HO)} (h : Pick y r r') : Pick y (x :: r) (x :: r')
theorem Pick.perm1 {y : Addr × HO} {l r : List (Addr × HO)} (h : Pick y l r) : l.Perm (y :: r) := by
  induction h with
  | here => exact .refl _
  | there _ ih => exact (ih.cons _).trans (.swap ..)
theorem Pick.perm {y : Addr × HO} {l r ys : List (Addr × HO)} (h : Pick y l r) (k : r.Perm ys) : l.Perm (y :: ys) := h.perm1.trans (k.cons _)
end Lb
set_option Elab.async false
set_option linter.all false
set_option maxRecDepth 100000
set_option maxHeartbeats 4000000
namespace K38
open PySem PySem.Spec PyProof.Rows L2 Lb
local macro_rules | `(tactic| walk_at "pm") => `(tactic| (focus ((repeat (first | exact List.Perm.refl _ | (apply Pick.perm; (solve | repeat (first | exact Pick.here | apply Pick.there))))); done)))
local macro_rules | `(tactic| walk_at "h") => `(tactic| first | assumption | exact Own.mem (by assumption) (by walk_at "m") | exact Own.kp (by assumption) (by assumption))
local macro_rules | `(tactic| walk_at "m") => `(tactic| (focus ((repeat (first | assumption | exact List.mem_cons_self | apply List.mem_cons_of_mem)); done)))
local macro_rules | `(tactic| walk_at "u") => `(tactic| (focus ((repeat (first | exact Up1.here | apply Up1.there)); done)))
local macro_rules | `(tactic| walk_at "p") => `(tactic| (focus ((repeat (first | exact Pre.nil | apply Pre.cons)); done)))
local macro_rules | `(tactic| walk_at "f") => `(tactic| (focus ((repeat (first | exact PutF.here | exact PutF.nil | (apply PutF.there; (solve | decide +kernel)))); done)))
local macro_rules | `(tactic| walk_at "k") => `(tactic| (focus ((repeat (first | exact LkF.here rfl | exact LkF.nil rfl | refine LkF.there (by decide +kernel) ?_)); done)))
local macro_rules | `(tactic| walk_at "e") => `(tactic| (focus ((repeat (first | exact StE.nil | apply StE.app | apply StE.got | apply StE.lack)); done)))
local macro_rules | `(tactic| walk_at "d") => `(tactic| (focus ((repeat (first | exact Dt.int _ | exact Dt.str _ | exact Dt.non | exact Dt.bl _ | exact DtAll.nil | exact DtAll.ints _ | apply DtAll.cons | (apply Dt.tup; (solve | walk_at "h")) | (apply Dt.lst; (solve | walk_at "h")))); done)))
local macro_rules | `(tactic| walk_at "sh") => `(tactic| (focus ((repeat (first | exact Sh.int | exact Sh.non | exact Sh.str (by decide +kernel) | exact ShA.nil | exact ShA.ints | apply ShA.cons | apply Sh.lst | apply Sh.tup)); done)))
local macro_rules | `(tactic| walk_at "ne") => `(tactic| (apply rd_neF; (solve | walk_at "d"); (solve | walk_at "d"); (solve | exact Sh.shp (n := 4) (by walk_at "sh"))))
local macro_rules | `(tactic| walk_at "s1") => `(tactic| with_reducible first | (apply i_bm) | (apply i_tyK; (solve | assumption)) | apply i_tyS | (apply i_ixK; (solve | assumption); (solve | assumption | with_unfolding_all rfl)) | (apply i_lenK; (solve | assumption); (exact rfl)) | (apply i_tupLN; (solve | walk_at "h")) | (apply i_var; (solve | with_unfolding_all rfl)) | apply i_cons | apply i_nil | apply i_c | apply i_op | apply i_asg | apply i_seq | apply i_gname | apply i_eqS | apply i_eqI | apply i_neS | apply i_tt | apply i_ff | (apply i_ixA; (solve | walk_at "h"); (solve | exact IxO.lst (by assumption) | exact IxO.tup (by assumption) | exact .lst (by with_unfolding_all rfl) | exact .tup (by with_unfolding_all rfl))) | apply i_bl | apply i_test | apply i_ifS | apply i_tupN | (apply i_tupO; (solve | assumption); (exact (sz (by (try simp) <;> omega))); intro p H O) | apply i_fld | (apply i_fldO; (solve | walk_at "h"); (solve | assumption); (solve | assumption); (solve | walk_at "k")) | (apply i_tB; (solve | decide +kernel)) | (apply i_fB; (solve | decide +kernel)) | apply i_ret | apply i_retN | apply i_drop | apply i_next | apply i_brk | apply i_cnt | apply i_par | apply i_par2 | apply i_fldSN | apply i_dput | apply i_un | apply i_rU | apply i_rI0 | apply i_B | apply i_tru | apply i_truB | apply i_and | apply i_or | apply i_not | apply i_andV | apply i_orV | apply i_notV | apply i_if | apply i_call | apply i_meth | apply i_makeN | apply i_cb | apply i_dnewN | apply i_lstN | apply i_bml | apply i_gsub | apply i_gcons | apply i_gnil | apply i_sl | apply i_nop | apply i_part | apply i_prt | apply i_isN | apply i_notN | apply i_yes | apply i_ntt | apply i_nff | apply i_addI | apply i_neI | apply i_intI | apply i_intB | apply i_abs | apply i_isiIB | apply i_isiNB | apply i_isiBB | apply i_dget | apply i_for | apply i_ilist | apply i_itup | apply i_rng1 | apply i_rng2 | apply i_ex1 | apply i_ex2 | apply i_exr | apply i_disp | apply i_pcons | apply i_pnil | apply i_neN | apply i_eqN | apply i_neB | apply i_eqB | apply i_lc | apply i_dnI | apply i_nyI | apply i_dnR | apply i_nyR | (apply i_lenA; (solve | walk_at "h"); (solve | first | exact .lst | exact .tup | exact .dK)) | (apply i_isL; (solve | walk_at "h")) | (apply i_isiLL; (solve | walk_at "h")) | (apply i_isiTL; (solve | walk_at "h")) | (apply i_gtup; (solve | walk_at "h"); (solve | with_unfolding_all rfl)) | (apply i_fldSO; (solve | assumption); (solve | walk_at "u"); (solve | walk_at "f"); (solve | assumption); (solve | assumption); (solve | simp); intro H O) | (apply i_lstO; (solve | assumption); (exact (sz (by (try simp) <;> omega))); intro p H O) | (apply i_makeO; (solve | assumption); intro x dx H O) | (apply i_methO; (solve | walk_at "h"); (solve | walk_at "k")) | (apply i_newO; (solve | assumption); intro p H O) | (apply i_listN; (solve | walk_at "h")) | (apply i_listTN; (solve | walk_at "h")) | (apply i_addN; (solve | walk_at "h"); (solve | walk_at "h"); (exact (sz (by (try simp) <;> omega)))) | apply i_mkd | apply i_gfld | (apply i_glst; (solve | walk_at "h"); (solve | with_unfolding_all rfl)) | apply i_isB | apply i_notB | (apply i_inO; (solve | walk_at "h"); (solve | with_unfolding_all rfl); (solve | with_unfolding_all rfl)) | (apply i_dgetI; (solve | walk_at "h"); (solve | assumption)) | (apply i_in; (solve | with_unfolding_all rfl); (solve | walk_at "e")) | (apply i_setO; (solve | assumption); (solve | walk_at "u"); (solve | with_unfolding_all rfl); intro H O) | (apply i_appO; (solve | assumption); (solve | walk_at "u"); (exact (szl (by (try simp) <;> omega))); intro H O) | (apply i_drawO; (solve | assumption); (exact rfl); (solve | decide); (solve | decide); intro r H h0 h1 O))
local macro_rules | `(tactic| walk_at "s") => `(tactic| repeat (walk_at "s1"))
structure Ad where
  K : PySem.W.Frag
  c_Reader : Addr
  a_NAMES : Addr
  a_SIZES : Addr
  a_OPERATORS : Addr
def nms : List Str := ["push", "load", "store", "loadx", "storex", "check", "neg", "not", "calc", "jump", "jzero", "give", "take", "either", "fork", "end", "stop"]
def szs : List Nat := [1, 1, 1, 2, 2, 1, 0, 0, 1, 1, 1, 1, 1, 0, 0, 0, 0]
def ops : List Str := ["+", "-", "*", "/", "mod", "and", "or", "==", "!=", "<", "<="]
structure CF (A : Ad) : Prop where
  h : Cls A.K A.c_Reader
  n1 : NoAttr A.K A.c_Reader "words"
  n2 : NoAttr A.K A.c_Reader "at"
  k1 : KT A.K A.a_NAMES (nms.map V.str)
  k2 : KT A.K A.a_SIZES (szs.map fun (n : Nat) => V.int n)
  k3 : KT A.K A.a_OPERATORS (ops.map V.str)
/-- an instruction -/
inductive Ins where
  | plain (k : Nat) (x : Str) (n : Nat) (ws : List Int)
  | cal (j : Nat) (x : Str)
  | either (rs : List (Int × Int × Int))
  | fork (rs : List (Int × List Int))
def eRow (r : Int × Int × Int) : PyData := .tuple [.int r.1, .int r.2.1, .int r.2.2]
def fRow (r : Int × List Int) : PyData := .tuple [.int r.1, .list (r.2.map .int)]
def eWs (r : Int × Int × Int) : List Int := [r.1, r.2.1, r.2.2]
def fWs (r : Int × List Int) : List Int := r.1 :: (r.2.length : Int) :: r.2
def Ins.py : Ins → PyData
  | .plain _ x _ ws => .tuple (.str x :: ws.map .int)
  | .cal _ x => .tuple [.str "calc", .str x]
  | .either rs => .tuple [.str "either", .list (rs.map eRow)]
  | .fork rs => .tuple [.str "fork", .list (rs.map fRow)]
def Ins.ws : Ins → List Int
  | .plain k _ _ ws => (k : Int) :: ws
  | .cal j _ => [8, (j : Int)]
  | .either rs => 13 :: (rs.length : Int) :: rs.flatMap eWs
  | .fork rs => 14 :: (rs.length : Int) :: rs.flatMap fWs
def Ins.ok : Ins → Prop
  | .plain k x n ws => nms[k]? = some x ∧ szs[k]? = some n ∧ k ≠ 8 ∧ k ≠ 13 ∧ k ≠ 14 ∧ ws.length = n
  | .cal j x => ops[j]? = some x
  | .either rs => rs.length ≤ 4
  | .fork rs => rs.length ≤ 3 ∧ ∀ r ∈ rs, r.2.length ≤ 4
theorem nms_lt {k : Nat} {x : Str} (h : nms[k]? = some x) : k < 17 := (List.getElem?_eq_some_iff.mp h).1
theorem szs_le {k n : Nat} (h : szs[k]? = some n) : n ≤ 2 := by
  have hk : k < 17 := (List.getElem?_eq_some_iff.mp h).1
  have z : ∀ k < 17, ∀ n, szs[k]? = some n → n ≤ 2 := by decide +kernel
  rcases Nat.lt_or_ge n 3 with q | q
  · omega
  · have z2 : ∀ k < 17, (szs[k]?).getD 0 ≤ 2 := by decide +kernel
    have := z2 k hk
    rw [h] at this
    exact this
theorem nms_lay {k : Nat} {x : Str} (h : nms[k]? = some x) : PyData.canLay0 (.str x) = true := by
  have z : ∀ k < 17, PyData.canLay0 (.str ((nms[k]?).getD "")) = true := by decide +kernel
  have := z k (nms_lt h)
  rw [h] at this
  exact this
theorem ops_lt {k : Nat} {x : Str} (h : ops[k]? = some x) : k < 11 := (List.getElem?_eq_some_iff.mp h).1
theorem ops_lay {k : Nat} {x : Str} (h : ops[k]? = some x) : PyData.canLay0 (.str x) = true := by
  have z : ∀ k < 11, PyData.canLay0 (.str ((ops[k]?).getD "")) = true := by decide +kernel
  have := z k (ops_lt h)
  rw [h] at this
  exact this
theorem nms_nd : ∀ k < 17, ∀ j < 17, nms[k]? = nms[j]? → k = j := by decide +kernel
theorem ops_nd : ∀ k < 11, ∀ j < 11, ops[k]? = ops[j]? → k = j := by decide +kernel
theorem nms_first {k : Nat} {x : Str} (h : nms[k]? = some x) : ∀ m, m < k → nms[m]? ≠ some x := fun m hm e => by
  have := nms_nd m (nms_lt e) k (nms_lt h) (e.trans h.symm)
  omega
theorem ops_first {k : Nat} {x : Str} (h : ops[k]? = some x) : ∀ m, m < k → ops[m]? ≠ some x := fun m hm e => by
  have := ops_nd m (ops_lt e) k (ops_lt h) (e.trans h.symm)
  omega
theorem nms_ne {k j : Nat} {x y : Str} (h : nms[k]? = some x) (hj : nms[j]? = some y) (n : k ≠ j) : x ≠ y := fun e => n (nms_nd k (nms_lt h) j (nms_lt hj) (by rw [h, hj, e]))
theorem Sh.row {r : Int × Int × Int} : Sh 4 (eRow r) := .tup (.cons .int (.cons .int (.cons .int .nil)))
theorem Sh.frow {r : Int × List Int} : Sh 4 (fRow r) := .tup (.cons .int (.cons (.lst .ints) .nil))
theorem Ins.sh {I : Ins} (h : I.ok) : Sh 6 I.py := by
  cases I with
  | plain k x n ws => exact .tup (.cons (.str (nms_lay h.1)) .ints)
  | cal j x => exact .tup (.cons (.str (by decide +kernel)) (.cons (.str (ops_lay h)) .nil))
  | either rs => exact .tup (.cons (.str (by decide +kernel)) (.cons (.lst (.all fun d hd => by
      obtain ⟨r, _, rfl⟩ := List.mem_map.mp hd
      exact Sh.row)) .nil))
  | fork rs => exact .tup (.cons (.str (by decide +kernel)) (.cons (.lst (.all fun d hd => by
      obtain ⟨r, _, rfl⟩ := List.mem_map.mp hd
      exact Sh.frow)) .nil))
theorem flat_len {α : Type} {f : α → List Int} {b : Nat} : ∀ {rs : List α}, (∀ r ∈ rs, (f r).length ≤ b) → (rs.flatMap f).length ≤ rs.length * b
  | [], _ => Nat.zero_le _
  | r :: rs, h => by
    rw [List.flatMap_cons, List.length_append, List.length_cons, Nat.succ_mul]
    have h1 := h r List.mem_cons_self
    have h2 := flat_len (rs := rs) fun q hq => h q (List.mem_cons_of_mem _ hq)
    omega
theorem Ins.len {I : Ins} (h : I.ok) : I.ws.length ≤ 20 := by
  cases I with
  | plain k x n ws =>
    have h1 := szs_le h.2.1
    have h2 := h.2.2.2.2.2
    show ws.length + 1 ≤ 20
    omega
  | cal j x => exact (by decide : 2 ≤ 20)
  | either rs =>
    have h1 := flat_len (f := eWs) (b := 3) (rs := rs) fun r _ => Nat.le_refl _
    have h2 : rs.length ≤ 4 := h
    show (rs.flatMap eWs).length + 1 + 1 ≤ 20
    omega
  | fork rs =>
    have h1 := flat_len (f := fWs) (b := 6) (rs := rs) fun r hr => by
      have := h.2 r hr
      show r.2.length + 1 + 1 ≤ 6
      omega
    have h2 : rs.length ≤ 3 := h.1
    show (rs.flatMap fWs).length + 1 + 1 ≤ 20
    omega
/-- ws stand in all from k on -/
def At (all : List Int) (k : Nat) (ws : List Int) : Prop := ∃ p q, all = p ++ (ws ++ q) ∧ p.length = k
theorem At.cons {all ws : List Int} {k : Nat} {w : Int} (h : At all k (w :: ws)) : all[k]? = some w ∧ At all (k + 1) ws := by
  obtain ⟨p, q, rfl, rfl⟩ := h
  exact ⟨by simp, p ++ [w], q, by simp, by simp⟩
theorem At.app {all us vs : List Int} {k : Nat} (h : At all k (us ++ vs)) : At all k us ∧ At all (k + us.length) vs := by
  obtain ⟨p, q, rfl, rfl⟩ := h
  exact ⟨⟨p, vs ++ q, by simp, rfl⟩, ⟨p ++ us, q, by simp, by simp⟩⟩
theorem At.lt {all ws : List Int} {k : Nat} (h : At all k ws) : k + ws.length ≤ all.length := by
  obtain ⟨p, q, rfl, rfl⟩ := h
  simp
/-- a reader's fields -/
abbrev rd (C dx w : Addr) (k : Nat) : HO := .ins C dx [("words", .ref w), ("at", .int (k : Int))]
def sp_l_word : Sp := fun vs H Q _ => ∃ (a c : Addr) (B : Hp) (ls : List (Addr × HO)), vs = [.ref a] ∧ Own a c B H ls ∧ ∀ H' (w : Int), Own a c B H' ls → Q (.int w) H'
def sp_l_names : Sp := fun vs H Q _ => ∃ (a c : Addr) (B : Hp) (ls : List (Addr × HO)), vs = [] ∧ Own a c B H ls ∧ ∀ p H', Own a c B H' ((p, .lst (nms.map V.str)) :: ls) → Q (.ref p) H'
def sp_l_instr : Sp := fun vs H Q _ => ∃ (a c : Addr) (B : Hp) (ls : List (Addr × HO)), vs = [.ref a] ∧ Own a c B H ls ∧
  ∀ H' B' t i w (I : Ins), Same B B' → Own a c B' H' ls → B' t = some (.tup [.ref i, .ref w]) → Dt B' (.ref i) I.py → B' w = some (.lst (I.ws.map V.int)) → I.ok → Q (.ref t) H'
def sp_encode (A : Ad) : Sp := fun vs H Q _ => ∃ (a c : Addr) (B : Hp) (ls : List (Addr × HO)) (i : Addr) (I : Ins), vs = [.ref i] ∧ CF A ∧ Own a c B H ls ∧ Dt B (.ref i) I.py ∧ I.ok ∧
  ∀ p H', Own a c B H' ((p, .lst (I.ws.map V.int)) :: ls) → Q (.ref p) H'
def sp_word (A : Ad) : Sp := fun vs H Q _ => ∃ (a c : Addr) (B : Hp) (ls ls' : List (Addr × HO)) (x dx w : Addr) (k : Nat) (v : Int) (all : List Int), vs = [.ref x] ∧ CF A ∧ Own a c B H ls ∧ Up1 x (rd A.c_Reader dx w k) (rd A.c_Reader dx w (k + 1)) ls ls' ∧
  B w = some (.lst (all.map V.int)) ∧ all[k]? = some v ∧ ∀ H', Own a c B H' ls' → Q (.int v) H'
def sp_row (A : Ad) : Sp := fun vs H Q _ => ∃ (a c : Addr) (B : Hp) (ls ls' : List (Addr × HO)) (x dx w : Addr) (k n k' : Nat) (ws all : List Int), vs = [.ref x, .int (n : Int)] ∧ CF A ∧ Own a c B H ls ∧ Up1 x (rd A.c_Reader dx w k) (rd A.c_Reader dx w k') ls ls' ∧ k' = k + n ∧
  B w = some (.lst (all.map V.int)) ∧ At all k ws ∧ ws.length = n ∧ all.length ≤ 1000 ∧ ∀ p H', Own a c B H' ((p, .lst (ws.map V.int)) :: ls') → Q (.ref p) H'
def sp_read (A : Ad) : Sp := fun vs H Q _ => ∃ (a c : Addr) (B : Hp) (ls : List (Addr × HO)) (x dx w : Addr) (k : Nat) (I : Ins) (all : List Int), vs = [.ref x] ∧ CF A ∧ Own a c B H ((x, rd A.c_Reader dx w k) :: ls) ∧
  B w = some (.lst (all.map V.int)) ∧ At all k I.ws ∧ I.ok ∧ all.length ≤ 1000 ∧ ∀ p H' B', Same B B' → Own a c B' H' ((x, rd A.c_Reader dx w (k + I.ws.length)) :: ls) → Dt B' (.ref p) I.py → Q (.ref p) H'
def sp_decode (A : Ad) : Sp := fun vs H Q _ => ∃ (a c : Addr) (B : Hp) (ls : List (Addr × HO)) (w : Addr) (Is : List Ins), vs = [.ref w] ∧ CF A ∧ Own a c B H ls ∧ B w = some (.lst ((Is.flatMap Ins.ws).map V.int)) ∧ (∀ I ∈ Is, I.ok) ∧ Is.length ≤ 31 ∧
  ∀ p H' B', Same B B' → Own a c B' H' ls → Dt B' (.ref p) (.list (Is.map Ins.py)) → Q (.ref p) H'
def sp_law (A : Ad) : Sp := fun vs H Q _ => ∃ (s : Addr) (ns : List Int), vs = [.ref s] ∧ SqL A.K H s (ns.map V.int) ∧ ns.length ≤ 63 ∧ CF A ∧ ∀ H', Q (.bl true) H'
def t_encode (A : Ad) : TS :=
  (tSeq (tAsg (tOp rIxA (tVar 0) (tC (.int 0))) (gName 1)) (tSeq (tAsg (tLst (tCons (tBM A.K "tuple" (rTixA A.K) (tC (.ref A.a_NAMES)) (tCons (tVar 1) tNil)) tNil)) (gName 2)) (tSeq (tIfS (tTest (tOp (rEqA A.K) (tVar 1) (tC (.str "calc")))) (tRet (tOp rAddA (tVar 2) (tLst (tCons (tBM A.K "tuple" (rTixA A.K) (tC (.ref A.a_OPERATORS)) (tCons (tOp rIxA (tVar 0) (tC (.int 1))) tNil)) tNil)))) tNext) (tSeq (tIfS (tTest (tOp (rEqA A.K) (tVar 1) (tC (.str "either")))) (tSeq (tDrop (tBML rAppA (tVar 2) (tCons (tCB rLenA (tCons (tOp rIxA (tVar 0) (tC (.int 1))) tNil)) tNil))) (tSeq (tFor (iList A.K (tOp rIxA (tVar 0) (tC (.int 1)))) (gName 3) (tDrop (tBML rExtT (tVar 2) (tCons (tVar 3) tNil)))) (tRet (tVar 2)))) tNext) (tSeq (tIfS (tTest (tOp (rEqA A.K) (tVar 1) (tC (.str "fork")))) (tSeq (tDrop (tBML rAppA (tVar 2) (tCons (tCB rLenA (tCons (tOp rIxA (tVar 0) (tC (.int 1))) tNil)) tNil))) (tSeq (tFor (iList A.K (tOp rIxA (tVar 0) (tC (.int 1)))) (gTup A.K 2 (gCons (gName 4) (gCons (gName 5) gNil))) (tDrop (tBML rExtA (tVar 2) (tCons (tOp rAddA (tLst (tCons (tVar 4) (tCons (tCB rLenA (tCons (tVar 5) tNil)) tNil))) (tVar 5)) tNil)))) (tRet (tVar 2)))) tNext) (tRet (tOp rAddA (tVar 2) (tCB rListA (tCons (tSl rSlA (tVar 0) (tPart (tC (.int 1))) tNoPart) tNil)))))))))
theorem st_encode (v0 : V) : L2.start ["instruction", "kind", "found", "row", "number", "takes"] [v0] = [some v0, none, none, none, none, none] := rfl
abbrev t_Reader_init (A : Ad) : TS :=
  (tSeq (sFld A.K (tVar 0) (tVar 1) "words") (sFld A.K (tVar 0) (tC (.int 0)) "at"))
theorem st_Reader_init (v0 v1 : V) : L2.start ["self", "words"] [v0, v1] = [some v0, some v1] := rfl
abbrev sp_Reader_init (A : Ad) : Sp := spIn ["self", "words"] 2 (t_Reader_init A)
theorem len_Reader_init (A : Ad) {vs : List V} {H : Hp} {Q : VK} {E : XK} (h : sp_Reader_init A vs H Q E) : vs.length = 2 := h.1
theorem pure_Reader_init (A : Ad) (vs : List V) (H : Hp) (Q : VK) (E : XK) (h : sp_Reader_init A vs H Q E) : t_Reader_init A { nx := fun _ H' => Q .non H', rt := Q } (L2.start ["self", "words"] vs) H := h.2
def t_Reader_word (A : Ad) : TS :=
  (tSeq (tIfS (tTest (tOp (rI0 fun i j => .bl (decide (j ≤ i))) (tFld A.K (tVar 0) "at") (tCB rLenA (tCons (tFld A.K (tVar 0) "words") tNil)))) tNever tNext) (tSeq (sFld A.K (tVar 0) (tOp rAddA (tFld A.K (tVar 0) "at") (tC (.int 1))) "at") (tRet (tOp rIxA (tFld A.K (tVar 0) "words") (tOp (rI0 fun i j => .int (i - j)) (tFld A.K (tVar 0) "at") (tC (.int 1)))))))
theorem st_Reader_word (v0 : V) : L2.start ["self"] [v0] = [some v0] := rfl
def t_Reader_row (A : Ad) : TS :=
  (tRet (tLc (iRng1 (tCons (tVar 1) tNil)) (gName 2) tYes (tMeth A.c_Reader "word" (sp_word A) [] E0 (tVar 0) tNil) [2]))
theorem st_Reader_row (v0 v1 : V) : L2.start ["self", "many", "_"] [v0, v1] = [some v0, some v1, none] := rfl
def t_read_instruction (A : Ad) : TS :=
  (tSeq (tAsg (tFld A.K (tVar 0) "at") (gName 1)) (tSeq (tAsg (tMeth A.c_Reader "word" (sp_word A) [] E0 (tVar 0) tNil) (gName 2)) (tSeq (tIfS (tTest (tOp (rI0 fun i j => .bl (decide (j ≤ i))) (tVar 2) (tCB (rLenK A.K) (tCons (tC (.ref A.a_NAMES)) tNil)))) tNever tNext) (tSeq (tAsg (tOp (rIxT A.K) (tC (.ref A.a_NAMES)) (tVar 2)) (gName 3)) (tSeq (tIfS (tTest (tOp (rEqA A.K) (tVar 3) (tC (.str "calc")))) (tSeq (tAsg (tMeth A.c_Reader "word" (sp_word A) [] E0 (tVar 0) tNil) (gName 4)) (tSeq (tIfS (tTest (tOp (rI0 fun i j => .bl (decide (j ≤ i))) (tVar 4) (tCB (rLenK A.K) (tCons (tC (.ref A.a_OPERATORS)) tNil)))) tNever tNext) (tRet (tTup (tCons (tVar 3) (tCons (tOp (rIxT A.K) (tC (.ref A.a_OPERATORS)) (tVar 4)) tNil)))))) tNext) (tSeq (tIfS (tTest (tOp (rEqA A.K) (tVar 3) (tC (.str "either")))) (tRet (tTup (tCons (tVar 3) (tCons (tLc (iRng1 (tCons (tMeth A.c_Reader "word" (sp_word A) [] E0 (tVar 0) tNil) tNil)) (gName 5) tYes (tCB rTupA (tCons (tMeth A.c_Reader "row" (sp_row A) [] E0 (tVar 0) (tCons (tC (.int 3)) tNil)) tNil)) [5]) tNil)))) tNext) (tSeq (tIfS (tTest (tOp (rEqA A.K) (tVar 3) (tC (.str "fork")))) (tRet (tTup (tCons (tVar 3) (tCons (tLc (iRng1 (tCons (tMeth A.c_Reader "word" (sp_word A) [] E0 (tVar 0) tNil) tNil)) (gName 5) tYes (tTup (tCons (tMeth A.c_Reader "word" (sp_word A) [] E0 (tVar 0) tNil) (tCons (tMeth A.c_Reader "row" (sp_row A) [] E0 (tVar 0) (tCons (tMeth A.c_Reader "word" (sp_word A) [] E0 (tVar 0) tNil) tNil)) tNil))) [5]) tNil)))) tNext) (tRet (tCB rTupA (tCons (tOp rAddA (tLst (tCons (tVar 3) tNil)) (tMeth A.c_Reader "row" (sp_row A) [] E0 (tVar 0) (tCons (tOp (rIxT A.K) (tC (.ref A.a_SIZES)) (tVar 2)) tNil))) tNil))))))))))
theorem st_read_instruction (v0 : V) : L2.start ["reader", "start", "opcode", "kind", "operator", "_"] [v0] = [some v0, none, none, none, none, none] := rfl
def t_decode (A : Ad) : TS :=
  (tSeq (tAsg (tMake A.c_Reader (sp_Reader_init A) [] E0 (tCons (tVar 0) tNil)) (gName 1)) (tSeq (tAsg (tLst tNil) (gName 2)) (tSeq (tWhile (tTest (tOp (rI0 fun i j => .bl (decide (i < j))) (tFld A.K (tVar 1) "at") (tCB rLenA (tCons (tVar 0) tNil)))) (tDrop (tBML rAppA (tVar 2) (tCons (tCall (sp_read A) [] E0 (tCons (tVar 1) tNil)) tNil)))) (tRet (tVar 2)))))
theorem st_decode (v0 : V) : L2.start ["words", "reader", "found"] [v0] = [some v0, none, none] := rfl
def t_l_names (A : Ad) : TS :=
  (tSeq (tAsg (tC (.str "push load store loadx storex check neg not calc jump jzero give take either fork end stop")) (gName 0)) (tRet (tBM A.K "str" rSplitA (tVar 0) (tCons (tC (.str " ")) tNil))))
theorem st_l_names : L2.start ["_law_text"] [] = [none] := rfl
def t_l_word (A : Ad) : TS :=
  (tRet (tCall spPick [] E0 (tCons (tVar 0) (tCons (tLst (tCons (tC (.int 0)) (tCons (tC (.int 1)) (tCons (tC (.int 65535)) (tCons (tCall spDraw [] E0 (tCons (tVar 0) (tCons (tC (.int 20)) tNil))) (tCons (tCall spDraw [] E0 (tCons (tVar 0) (tCons (tC (.int 65536)) tNil))) tNil)))))) tNil))))
theorem st_l_word (v0 : V) : L2.start ["_law_state_here"] [v0] = [some v0] := rfl
def t_l_instruction (A : Ad) : TS :=
  (tSeq (tAsg (tCall spDraw [] E0 (tCons (tVar 0) (tCons (tC (.int 17)) tNil))) (gName 1)) (tSeq (tAsg (tOp rIxA (tCall sp_l_names [] E0 tNil) (tVar 1)) (gName 2)) (tSeq (tAsg (tLst (tCons (tVar 1) tNil)) (gName 3)) (tSeq (tIfS (tTest (tOp (rEqA A.K) (tVar 2) (tC (.str "calc")))) (tSeq (tAsg (tLst (tCons (tC (.str "+")) (tCons (tC (.str "-")) (tCons (tC (.str "*")) (tCons (tC (.str "/")) (tCons (tC (.str "mod")) (tCons (tC (.str "and")) (tCons (tC (.str "or")) (tCons (tC (.str "==")) (tCons (tC (.str "!=")) (tCons (tC (.str "<")) (tCons (tC (.str "<=")) tNil)))))))))))) (gName 4)) (tSeq (tAsg (tCall spDraw [] E0 (tCons (tVar 0) (tCons (tC (.int 11)) tNil))) (gName 5)) (tRet (tTup (tCons (tTup (tCons (tC (.str "calc")) (tCons (tOp rIxA (tVar 4) (tVar 5)) tNil))) (tCons (tLst (tCons (tC (.int 8)) (tCons (tVar 5) tNil))) tNil)))))) tNext) (tSeq (tIfS (tTest (tOp (rEqA A.K) (tVar 2) (tC (.str "either")))) (tSeq (tAsg (tLc (iRng1 (tCons (tCall spDraw [] E0 (tCons (tVar 0) (tCons (tC (.int 5)) tNil))) tNil)) (gName 5) tYes (tTup (tCons (tCall sp_l_word [] E0 (tCons (tVar 0) tNil)) (tCons (tCall sp_l_word [] E0 (tCons (tVar 0) tNil)) (tCons (tCall sp_l_word [] E0 (tCons (tVar 0) tNil)) tNil)))) [5]) (gName 6)) (tSeq (tDrop (tBML rAppA (tVar 3) (tCons (tCB rLenA (tCons (tVar 6) tNil)) tNil))) (tSeq (tFor (iList A.K (tVar 6)) (gName 7) (tAsg (tOp rAddA (tVar 3) (tCB rListA (tCons (tVar 7) tNil))) (gName 3))) (tRet (tTup (tCons (tTup (tCons (tC (.str "either")) (tCons (tVar 6) tNil))) (tCons (tVar 3) tNil))))))) tNext) (tSeq (tIfS (tTest (tOp (rEqA A.K) (tVar 2) (tC (.str "fork")))) (tSeq (tAsg (tLc (iRng1 (tCons (tCall spDraw [] E0 (tCons (tVar 0) (tCons (tC (.int 4)) tNil))) tNil)) (gName 5) tYes (tTup (tCons (tCall sp_l_word [] E0 (tCons (tVar 0) tNil)) (tCons (tLc (iRng1 (tCons (tCall spDraw [] E0 (tCons (tVar 0) (tCons (tC (.int 5)) tNil))) tNil)) (gName 12) tYes (tCall sp_l_word [] E0 (tCons (tVar 0) tNil)) [12]) tNil))) [5]) (gName 6)) (tSeq (tDrop (tBML rAppA (tVar 3) (tCons (tCB rLenA (tCons (tVar 6) tNil)) tNil))) (tSeq (tFor (iList A.K (tVar 6)) (gTup A.K 2 (gCons (gName 8) (gCons (gName 9) gNil))) (tAsg (tOp rAddA (tOp rAddA (tVar 3) (tLst (tCons (tVar 8) (tCons (tCB rLenA (tCons (tVar 9) tNil)) tNil)))) (tVar 9)) (gName 3))) (tRet (tTup (tCons (tTup (tCons (tC (.str "fork")) (tCons (tVar 6) tNil))) (tCons (tVar 3) tNil))))))) tNext) (tSeq (tAsg (tIf (tTest (tOp (rIn A.K false) (tVar 2) (tTup (tCons (tC (.str "neg")) (tCons (tC (.str "not")) (tCons (tC (.str "end")) (tCons (tC (.str "stop")) tNil))))))) (tC (.int 0)) (tIf (tTest (tOp (rIn A.K false) (tVar 2) (tTup (tCons (tC (.str "loadx")) (tCons (tC (.str "storex")) tNil))))) (tC (.int 2)) (tC (.int 1)))) (gName 10)) (tSeq (tAsg (tLc (iRng1 (tCons (tVar 10) tNil)) (gName 5) tYes (tCall sp_l_word [] E0 (tCons (tVar 0) tNil)) [5]) (gName 11)) (tRet (tTup (tCons (tCB rTupA (tCons (tOp rAddA (tLst (tCons (tVar 2) tNil)) (tVar 11)) tNil)) (tCons (tOp rAddA (tVar 3) (tVar 11)) tNil))))))))))))
theorem st_l_instruction (v0 : V) : L2.start ["_law_state_here", "_law_at", "_law_name", "_law_words", "_law_operators", "_law_k", "_law_rows", "_law_row", "_law_number", "_law_takes", "_law_many", "_law_numbers", "_law_j"] [v0] = [some v0, none, none, none, none, none, none, none, none, none, none, none, none] := rfl
def t_law (A : Ad) : TS :=
  (tSeq (tAsg (tCall (spState A.K) [] E0 (tCons (tVar 0) tNil)) (gName 1)) (tSeq (tAsg (tLst tNil) (gName 2)) (tSeq (tAsg (tLst tNil) (gName 3)) (tSeq (tFor (iRng1 (tCons (tCall spDraw [] E0 (tCons (tVar 1) (tCons (tC (.int 31)) tNil))) tNil)) (gName 4) (tSeq (tAsg (tCall sp_l_instr [] E0 (tCons (tVar 1) tNil)) (gTup A.K 2 (gCons (gName 5) (gCons (gName 6) gNil)))) (tSeq (tAsg (tCall (sp_encode A) [] E0 (tCons (tVar 5) tNil)) (gName 7)) (tSeq (tIfS (tOr (tNot (tB (tCB rIsiA (tCons (tVar 7) (tCons (tC (.ty "list")) tNil))))) (tTest (tOp (rNeA A.K) (tVar 7) (tVar 6)))) (tRet (tC (.bl false))) tNext) (tSeq (tDrop (tBML rAppA (tVar 2) (tCons (tVar 5) tNil))) (tAsg (tOp rAddA (tVar 3) (tVar 6)) (gName 3))))))) (tSeq (tAsg (tCB rListA (tCons (tVar 3) tNil)) (gName 8)) (tSeq (tAsg (tCall (sp_decode A) [] E0 (tCons (tVar 8) tNil)) (gName 9)) (tRet (tAndV (tCB rIsiA (tCons (tVar 9) (tCons (tC (.ty "list")) tNil))) (tAndV (tOp (rEqA A.K) (tVar 9) (tVar 2)) (tOp (rEqA A.K) (tVar 8) (tVar 3)))))))))))
theorem st_law (v0 : V) : L2.start ["_law_script", "_law_state_here", "_law_code", "_law_words", "_law_k", "_law_instruction_here", "_law_due", "_law_told", "_law_given", "_law_found"] [v0] = [some v0, none, none, none, none, none, none, none, none, none] := rfl

theorem len_l_word (A : Ad) {vs : List V} {H : Hp} {Q : VK} {E : XK} (h : sp_l_word vs H Q E) : vs.length = 1 := by
  obtain ⟨a, c, B, ls, rfl, _⟩ := h
  rfl
theorem len_l_names (A : Ad) {vs : List V} {H : Hp} {Q : VK} {E : XK} (h : sp_l_names vs H Q E) : vs.length = 0 := by
  obtain ⟨a, c, B, ls, rfl, _⟩ := h
  rfl
theorem len_l_instruction (A : Ad) {vs : List V} {H : Hp} {Q : VK} {E : XK} (h : sp_l_instr vs H Q E) : vs.length = 1 := by
  obtain ⟨a, c, B, ls, rfl, _⟩ := h
  rfl
theorem len_encode (A : Ad) {vs : List V} {H : Hp} {Q : VK} {E : XK} (h : sp_encode A vs H Q E) : vs.length = 1 := by
  obtain ⟨a, c, B, ls, i, I, rfl, _⟩ := h
  rfl
theorem len_Reader_word (A : Ad) {vs : List V} {H : Hp} {Q : VK} {E : XK} (h : sp_word A vs H Q E) : vs.length = 1 := by
  obtain ⟨a, c, B, ls, ls', x, dx, w, k, v, all, rfl, _⟩ := h
  rfl
theorem len_Reader_row (A : Ad) {vs : List V} {H : Hp} {Q : VK} {E : XK} (h : sp_row A vs H Q E) : vs.length = 2 := by
  obtain ⟨a, c, B, ls, ls', x, dx, w, k, n, k', ws, all, rfl, _⟩ := h
  rfl
theorem len_read_instruction (A : Ad) {vs : List V} {H : Hp} {Q : VK} {E : XK} (h : sp_read A vs H Q E) : vs.length = 1 := by
  obtain ⟨a, c, B, ls, x, dx, w, k, I, all, rfl, _⟩ := h
  rfl
theorem len_decode (A : Ad) {vs : List V} {H : Hp} {Q : VK} {E : XK} (h : sp_decode A vs H Q E) : vs.length = 1 := by
  obtain ⟨a, c, B, ls, w, Is, rfl, _⟩ := h
  rfl
theorem len_law (A : Ad) {vs : List V} {H : Hp} {Q : VK} {E : XK} (h : sp_law A vs H Q E) : vs.length = 1 := by
  obtain ⟨s, ns, rfl, _⟩ := h
  rfl
set_option maxHeartbeats 16000000 in
theorem pure_l_word (A : Ad) (vs : List V) (H : Hp) (Q : VK) (E : XK) (h : sp_l_word vs H Q E) : t_l_word A { nx := fun _ H' => Q .non H', rt := Q } (L2.start ["_law_state_here"] vs) H := by
  obtain ⟨a, c, B, ls, rfl, O, k⟩ := h
  rw [st_l_word]
  unfold t_l_word
  walk_at "s"
  apply i_pickO; (solve | assumption); (solve | rfl); (solve | walk_at "m"); (solve | simp); (solve | simp)
  intro v H' hv O
  obtain ⟨z, rfl⟩ : ∃ i, v = .int i := by
    simp only [List.mem_cons, List.not_mem_nil, or_false] at hv
    rcases hv with rfl | rfl | rfl | rfl | rfl <;> exact ⟨_, rfl⟩
  exact k _ z (O.dropP (by walk_at "p"))
theorem split_nms : Txt.split ("push load store loadx storex check neg not calc jump jzero give take either fork end stop" : Str) (" " : Str) = nms := by decide +kernel
set_option maxHeartbeats 16000000 in
theorem pure_l_names (A : Ad) (vs : List V) (H : Hp) (Q : VK) (E : XK) (h : sp_l_names vs H Q E) : t_l_names A { nx := fun _ H' => Q .non H', rt := Q } (L2.start ["_law_text"] vs) H := by
  obtain ⟨a, c, B, ls, rfl, O, k⟩ := h
  rw [st_l_names]
  unfold t_l_names
  walk_at "s"
  refine i_split split_nms (by decide +kernel) (by decide +kernel) ?_
  walk_at "s"
  exact k _ _ ‹Own a c B _ _›
set_option maxHeartbeats 16000000 in
theorem pure_Reader_word (A : Ad) (vs : List V) (H : Hp) (Q : VK) (E : XK) (h : sp_word A vs H Q E) : t_Reader_word A { nx := fun _ H' => Q .non H', rt := Q } (L2.start ["self"] vs) H := by
  obtain ⟨a, c, B, ls, ls', x, dx, w, k, v, all, rfl, F, O, U, hw, hv, kk⟩ := h
  obtain ⟨F1, n1, n2, k1, k2, k3⟩ := F
  rw [st_Reader_word]
  unfold t_Reader_word
  have hx : H x = some (rd A.c_Reader dx w k) := O.mem U.mem
  have hk := (List.getElem?_eq_some_iff.mp hv).1
  unfold rd at hx
  walk_at "s"
  refine i_dn (by rw [List.length_map]; omega) ?_
  walk_at "s1"
  walk_at "s1"
  walk_at "s"
  refine i_fldSO O U (by walk_at "f") F1 n2 (by simp) fun H1 O => ?_
  have hx := O.mem U.mem'
  unfold rd at hx
  walk_at "s"
  refine i_ixA (O.kp hw) (IxO.lst (v := .int v) ?_) ?_
  · rw [show ((k + 1 : Nat) : Int) - 1 = (k : Int) by omega]
    exact atI_nat (by rw [List.getElem?_map, hv]; rfl)
  · exact kk _ O
end K38
set_option Elab.async false
set_option linter.all false
set_option maxRecDepth 100000
set_option maxHeartbeats 4000000
namespace K38
open PySem PySem.Spec PyProof.Rows L2 Lb
local macro_rules | `(tactic| walk_at "pm") => `(tactic| (focus ((repeat (first | exact List.Perm.refl _ | (apply Pick.perm; (solve | repeat (first | exact Pick.here | apply Pick.there))))); done)))
local macro_rules | `(tactic| walk_at "h") => `(tactic| first | assumption | exact Own.mem (by assumption) (by walk_at "m") | exact Own.kp (by assumption) (by assumption))
local macro_rules | `(tactic| walk_at "m") => `(tactic| (focus ((repeat (first | assumption | exact List.mem_cons_self | apply List.mem_cons_of_mem)); done)))
local macro_rules | `(tactic| walk_at "u") => `(tactic| (focus ((repeat (first | exact Up1.here | apply Up1.there)); done)))
local macro_rules | `(tactic| walk_at "p") => `(tactic| (focus ((repeat (first | exact Pre.nil | apply Pre.cons)); done)))
local macro_rules | `(tactic| walk_at "f") => `(tactic| (focus ((repeat (first | exact PutF.here | exact PutF.nil | (apply PutF.there; (solve | decide +kernel)))); done)))
local macro_rules | `(tactic| walk_at "k") => `(tactic| (focus ((repeat (first | exact LkF.here rfl | exact LkF.nil rfl | refine LkF.there (by decide +kernel) ?_)); done)))
local macro_rules | `(tactic| walk_at "e") => `(tactic| (focus ((repeat (first | exact StE.nil | apply StE.app | apply StE.got | apply StE.lack)); done)))
local macro_rules | `(tactic| walk_at "d") => `(tactic| (focus ((repeat (first | exact Dt.int _ | exact Dt.str _ | exact Dt.non | exact Dt.bl _ | exact DtAll.nil | exact DtAll.ints _ | apply DtAll.cons | (apply Dt.tup; (solve | walk_at "h")) | (apply Dt.lst; (solve | walk_at "h")))); done)))
local macro_rules | `(tactic| walk_at "sh") => `(tactic| (focus ((repeat (first | exact Sh.int | exact Sh.non | exact Sh.str (by decide +kernel) | exact ShA.nil | exact ShA.ints | apply ShA.cons | apply Sh.lst | apply Sh.tup)); done)))
local macro_rules | `(tactic| walk_at "ne") => `(tactic| (apply rd_neF; (solve | walk_at "d"); (solve | walk_at "d"); (solve | exact Sh.shp (n := 4) (by walk_at "sh"))))
local macro_rules | `(tactic| walk_at "s1") => `(tactic| with_reducible first | (apply i_bm) | (apply i_tyK; (solve | assumption)) | apply i_tyS | (apply i_ixK; (solve | assumption); (solve | assumption | with_unfolding_all rfl)) | (apply i_lenK; (solve | assumption); (exact rfl)) | (apply i_tupLN; (solve | walk_at "h")) | (apply i_var; (solve | with_unfolding_all rfl)) | apply i_cons | apply i_nil | apply i_c | apply i_op | apply i_asg | apply i_seq | apply i_gname | apply i_eqS | apply i_eqI | apply i_neS | apply i_tt | apply i_ff | (apply i_ixA; (solve | walk_at "h"); (solve | exact IxO.lst (by assumption) | exact IxO.tup (by assumption) | exact .lst (by with_unfolding_all rfl) | exact .tup (by with_unfolding_all rfl))) | apply i_bl | apply i_test | apply i_ifS | apply i_tupN | (apply i_tupO; (solve | assumption); (exact (sz (by (try simp) <;> omega))); intro p H O) | apply i_fld | (apply i_fldO; (solve | walk_at "h"); (solve | assumption); (solve | assumption); (solve | walk_at "k")) | (apply i_tB; (solve | decide +kernel)) | (apply i_fB; (solve | decide +kernel)) | apply i_ret | apply i_retN | apply i_drop | apply i_next | apply i_brk | apply i_cnt | apply i_par | apply i_par2 | apply i_fldSN | apply i_dput | apply i_un | apply i_rU | apply i_rI0 | apply i_B | apply i_tru | apply i_truB | apply i_and | apply i_or | apply i_not | apply i_andV | apply i_orV | apply i_notV | apply i_if | apply i_call | apply i_meth | apply i_makeN | apply i_cb | apply i_dnewN | apply i_lstN | apply i_bml | apply i_gsub | apply i_gcons | apply i_gnil | apply i_sl | apply i_nop | apply i_part | apply i_prt | apply i_isN | apply i_notN | apply i_yes | apply i_ntt | apply i_nff | apply i_addI | apply i_neI | apply i_intI | apply i_intB | apply i_abs | apply i_isiIB | apply i_isiNB | apply i_isiBB | apply i_dget | apply i_for | apply i_ilist | apply i_itup | apply i_rng1 | apply i_rng2 | apply i_ex1 | apply i_ex2 | apply i_exr | apply i_disp | apply i_pcons | apply i_pnil | apply i_neN | apply i_eqN | apply i_neB | apply i_eqB | apply i_lc | apply i_dnI | apply i_nyI | apply i_dnR | apply i_nyR | (apply i_lenA; (solve | walk_at "h"); (solve | first | exact .lst | exact .tup | exact .dK)) | (apply i_isL; (solve | walk_at "h")) | (apply i_isiLL; (solve | walk_at "h")) | (apply i_isiTL; (solve | walk_at "h")) | (apply i_gtup; (solve | walk_at "h"); (solve | with_unfolding_all rfl)) | (apply i_fldSO; (solve | assumption); (solve | walk_at "u"); (solve | walk_at "f"); (solve | assumption); (solve | assumption); (solve | simp); intro H O) | (apply i_lstO; (solve | assumption); (exact (sz (by (try simp) <;> omega))); intro p H O) | (apply i_makeO; (solve | assumption); intro x dx H O) | (apply i_methO; (solve | walk_at "h"); (solve | walk_at "k")) | (apply i_newO; (solve | assumption); intro p H O) | (apply i_listN; (solve | walk_at "h")) | (apply i_listTN; (solve | walk_at "h")) | (apply i_addN; (solve | walk_at "h"); (solve | walk_at "h"); (exact (sz (by (try simp) <;> omega)))) | apply i_mkd | apply i_gfld | (apply i_glst; (solve | walk_at "h"); (solve | with_unfolding_all rfl)) | apply i_isB | apply i_notB | (apply i_inO; (solve | walk_at "h"); (solve | with_unfolding_all rfl); (solve | with_unfolding_all rfl)) | (apply i_dgetI; (solve | walk_at "h"); (solve | assumption)) | (apply i_in; (solve | with_unfolding_all rfl); (solve | walk_at "e")) | (apply i_setO; (solve | assumption); (solve | walk_at "u"); (solve | with_unfolding_all rfl); intro H O) | (apply i_appO; (solve | assumption); (solve | walk_at "u"); (exact (szl (by (try simp) <;> omega))); intro H O) | (apply i_drawO; (solve | assumption); (exact rfl); (solve | decide); (solve | decide); intro r H h0 h1 O))
local macro_rules | `(tactic| walk_at "s") => `(tactic| repeat (walk_at "s1"))
set_option maxHeartbeats 16000000 in
theorem pure_Reader_row (A : Ad) (vs : List V) (H : Hp) (Q : VK) (E : XK) (h : sp_row A vs H Q E) : t_Reader_row A { nx := fun _ H' => Q .non H', rt := Q } (L2.start ["self", "many", "_"] vs) H := by
  obtain ⟨a, c, B, ls, ls', x, dx, w, k, n, k', ws, all, rfl, F, O, U, rfl, hw, hat, hn, hal, kk⟩ := h
  rw [st_Reader_row]
  unfold t_Reader_row
  have hlt := hat.lt
  walk_at "s"
  refine ⟨by omega, by omega, fun D hD => ?_⟩
  refine i_lcR n rfl (fun i H' => ∃ l1, Up1 x (rd A.c_Reader dx w k) (rd A.c_Reader dx w (k + i)) ls l1 ∧ Up1 x (rd A.c_Reader dx w (k + i)) (rd A.c_Reader dx w (k + n)) l1 ls' ∧ Own a c B H' ((D, .lst ((ws.take i).map V.int)) :: l1)) ?_ ?_ ?_
  · obtain ⟨l1, u1, u2⟩ := U.mid (rd A.c_Reader dx w k)
    have e := u1.eq
    subst e
    exact ⟨_, u1, u2, O.new hD⟩
  · rintro i H2 hi ⟨l1, u1, u2, O⟩
    have hx := O.mem (List.mem_cons_of_mem _ u1.mem')
    have nd9 : (l1.map Prod.fst).Nodup := (List.nodup_cons.mp O.nd).2
    obtain ⟨l2, u3, u4⟩ := u2.mid (rd A.c_Reader dx w (k + (i + 1)))
    unfold rd at hx
    walk_at "s"
    have hv : ws[i]? = some ws[i] := List.getElem?_eq_getElem (by omega)
    refine ⟨a, c, B, _, _, x, dx, w, k + i, ws[i], all, rfl, F, O, .there u3, hw, ?_, fun H3 O => ?_⟩
    · obtain ⟨p, q, rfl, rfl⟩ := hat
      rw [List.getElem?_append_right (by omega), show p.length + i - p.length = i by omega, List.getElem?_append_left (by omega)]
      exact hv
    · refine ⟨_, O.mem List.mem_cons_self, szl (by simp; omega), l2, ?_, u4, ?_⟩
      · exact u1.comp u3 nd9
      · have O2 := O.set (p := D) (o' := .lst ((ws.take i).map V.int ++ [V.int ws[i]])) .here
        rw [List.take_add_one, hv, List.map_append]
        exact O2
  · rintro H2 ⟨l1, u1, u2, O⟩
    have e := u2.eq
    subst e
    rw [List.take_of_length_le (by omega)] at O
    walk_at "s"
    exact kk _ _ O
end K38
set_option Elab.async false
set_option linter.all false
set_option maxRecDepth 100000
set_option maxHeartbeats 4000000
namespace K38
open PySem PySem.Spec PyProof.Rows L2 Lb
local macro_rules | `(tactic| walk_at "pm") => `(tactic| (focus ((repeat (first | exact List.Perm.refl _ | (apply Pick.perm; (solve | repeat (first | exact Pick.here | apply Pick.there))))); done)))
local macro_rules | `(tactic| walk_at "h") => `(tactic| first | assumption | exact Own.mem (by assumption) (by walk_at "m") | exact Own.kp (by assumption) (by assumption))
local macro_rules | `(tactic| walk_at "m") => `(tactic| (focus ((repeat (first | assumption | exact List.mem_cons_self | apply List.mem_cons_of_mem)); done)))
local macro_rules | `(tactic| walk_at "u") => `(tactic| (focus ((repeat (first | exact Up1.here | apply Up1.there)); done)))
local macro_rules | `(tactic| walk_at "p") => `(tactic| (focus ((repeat (first | exact Pre.nil | apply Pre.cons)); done)))
local macro_rules | `(tactic| walk_at "f") => `(tactic| (focus ((repeat (first | exact PutF.here | exact PutF.nil | (apply PutF.there; (solve | decide +kernel)))); done)))
local macro_rules | `(tactic| walk_at "k") => `(tactic| (focus ((repeat (first | exact LkF.here rfl | exact LkF.nil rfl | refine LkF.there (by decide +kernel) ?_)); done)))
local macro_rules | `(tactic| walk_at "e") => `(tactic| (focus ((repeat (first | exact StE.nil | apply StE.app | apply StE.got | apply StE.lack)); done)))
local macro_rules | `(tactic| walk_at "d") => `(tactic| (focus ((repeat (first | exact Dt.int _ | exact Dt.str _ | exact Dt.non | exact Dt.bl _ | exact DtAll.nil | exact DtAll.ints _ | apply DtAll.cons | (apply Dt.tup; (solve | walk_at "h")) | (apply Dt.lst; (solve | walk_at "h")))); done)))
local macro_rules | `(tactic| walk_at "sh") => `(tactic| (focus ((repeat (first | exact Sh.int | exact Sh.non | exact Sh.str (by decide +kernel) | exact ShA.nil | exact ShA.ints | apply ShA.cons | apply Sh.lst | apply Sh.tup)); done)))
local macro_rules | `(tactic| walk_at "ne") => `(tactic| (apply rd_neF; (solve | walk_at "d"); (solve | walk_at "d"); (solve | exact Sh.shp (n := 4) (by walk_at "sh"))))
local macro_rules | `(tactic| walk_at "s1") => `(tactic| with_reducible first | (apply i_bm) | (apply i_tyK; (solve | assumption)) | apply i_tyS | (apply i_ixK; (solve | assumption); (solve | assumption | with_unfolding_all rfl)) | (apply i_lenK; (solve | assumption); (exact rfl)) | (apply i_tupLN; (solve | walk_at "h")) | (apply i_var; (solve | with_unfolding_all rfl)) | apply i_cons | apply i_nil | apply i_c | apply i_op | apply i_asg | apply i_seq | apply i_gname | apply i_eqS | apply i_eqI | apply i_neS | apply i_tt | apply i_ff | (apply i_ixA; (solve | walk_at "h"); (solve | exact IxO.lst (by assumption) | exact IxO.tup (by assumption) | exact .lst (by with_unfolding_all rfl) | exact .tup (by with_unfolding_all rfl))) | apply i_bl | apply i_test | apply i_ifS | apply i_tupN | (apply i_tupO; (solve | assumption); (exact (sz (by (try simp) <;> omega))); intro p H O) | apply i_fld | (apply i_fldO; (solve | walk_at "h"); (solve | assumption); (solve | assumption); (solve | walk_at "k")) | (apply i_tB; (solve | decide +kernel)) | (apply i_fB; (solve | decide +kernel)) | apply i_ret | apply i_retN | apply i_drop | apply i_next | apply i_brk | apply i_cnt | apply i_par | apply i_par2 | apply i_fldSN | apply i_dput | apply i_un | apply i_rU | apply i_rI0 | apply i_B | apply i_tru | apply i_truB | apply i_and | apply i_or | apply i_not | apply i_andV | apply i_orV | apply i_notV | apply i_if | apply i_call | apply i_meth | apply i_makeN | apply i_cb | apply i_dnewN | apply i_lstN | apply i_bml | apply i_gsub | apply i_gcons | apply i_gnil | apply i_sl | apply i_nop | apply i_part | apply i_prt | apply i_isN | apply i_notN | apply i_yes | apply i_ntt | apply i_nff | apply i_addI | apply i_neI | apply i_intI | apply i_intB | apply i_abs | apply i_isiIB | apply i_isiNB | apply i_isiBB | apply i_dget | apply i_for | apply i_ilist | apply i_itup | apply i_rng1 | apply i_rng2 | apply i_ex1 | apply i_ex2 | apply i_exr | apply i_disp | apply i_pcons | apply i_pnil | apply i_neN | apply i_eqN | apply i_neB | apply i_eqB | apply i_lc | apply i_dnI | apply i_nyI | apply i_dnR | apply i_nyR | (apply i_lenA; (solve | walk_at "h"); (solve | first | exact .lst | exact .tup | exact .dK)) | (apply i_isL; (solve | walk_at "h")) | (apply i_isiLL; (solve | walk_at "h")) | (apply i_isiTL; (solve | walk_at "h")) | (apply i_gtup; (solve | walk_at "h"); (solve | with_unfolding_all rfl)) | (apply i_fldSO; (solve | assumption); (solve | walk_at "u"); (solve | walk_at "f"); (solve | assumption); (solve | assumption); (solve | simp); intro H O) | (apply i_lstO; (solve | assumption); (exact (sz (by (try simp) <;> omega))); intro p H O) | (apply i_makeO; (solve | assumption); intro x dx H O) | (apply i_methO; (solve | walk_at "h"); (solve | walk_at "k")) | (apply i_newO; (solve | assumption); intro p H O) | (apply i_listN; (solve | walk_at "h")) | (apply i_listTN; (solve | walk_at "h")) | (apply i_addN; (solve | walk_at "h"); (solve | walk_at "h"); (exact (sz (by (try simp) <;> omega)))) | apply i_mkd | apply i_gfld | (apply i_glst; (solve | walk_at "h"); (solve | with_unfolding_all rfl)) | apply i_isB | apply i_notB | (apply i_inO; (solve | walk_at "h"); (solve | with_unfolding_all rfl); (solve | with_unfolding_all rfl)) | (apply i_dgetI; (solve | walk_at "h"); (solve | assumption)) | (apply i_in; (solve | with_unfolding_all rfl); (solve | walk_at "e")) | (apply i_setO; (solve | assumption); (solve | walk_at "u"); (solve | with_unfolding_all rfl); intro H O) | (apply i_appO; (solve | assumption); (solve | walk_at "u"); (exact (szl (by (try simp) <;> omega))); intro H O) | (apply i_drawO; (solve | assumption); (exact rfl); (solve | decide); (solve | decide); intro r H h0 h1 O))
local macro_rules | `(tactic| walk_at "s") => `(tactic| repeat (walk_at "s1"))
theorem take_flat {α : Type} {f : α → List Int} {rs : List α} {i : Nat} {r : α} (h : rs[i]? = some r) : (rs.take (i + 1)).flatMap f = (rs.take i).flatMap f ++ f r := by
  rw [List.take_add_one, h, List.flatMap_append]
  simp
theorem flat_at {α : Type} {f : α → List Int} {rs : List α} {i k : Nat} {r : α} {all : List Int} (h : rs[i]? = some r) (hat : At all k (rs.flatMap f)) : At all (k + ((rs.take i).flatMap f).length) (f r) := by
  have e : rs.flatMap f = (rs.take i).flatMap f ++ (f r ++ (rs.drop (i + 1)).flatMap f) := by
    rw [← List.append_assoc, ← take_flat h, ← List.flatMap_append, List.take_append_drop]
  rw [e] at hat
  exact (hat.app.2).app.1
theorem dtSnoc {H : Hp} {vs : List V} {v : V} {ds : List PyData} {d : PyData} (h : DtAll H vs ds) (k : Dt H v d) : DtAll H (vs ++ [v]) (ds ++ [d]) := by
  induction vs generalizing ds with
  | nil =>
    cases h
    exact .cons k .nil
  | cons v vs ih =>
    cases h with
    | cons h1 h2 => exact .cons h1 (ih h2)
theorem dtLen {H : Hp} {vs : List V} {ds : List PyData} (h : DtAll H vs ds) : vs.length = ds.length := by
  induction vs generalizing ds with
  | nil =>
    cases h
    rfl
  | cons v vs ih =>
    cases h with
    | cons h1 h2 => exact congrArg (· + 1) (ih h2)
set_option maxHeartbeats 32000000 in
theorem pure_read_instruction (A : Ad) (vs : List V) (H : Hp) (Q : VK) (E : XK) (h : sp_read A vs H Q E) : t_read_instruction A { nx := fun _ H' => Q .non H', rt := Q } (L2.start ["reader", "start", "opcode", "kind", "operator", "_"] vs) H := by
  obtain ⟨a, c, B, ls, x, dx, w, k, I, all, rfl, F, O, hw, hat, ok, hal, kk⟩ := h
  have F0 := F
  obtain ⟨F1, n1, n2, k1, k2, k3⟩ := F
  rw [st_read_instruction]
  unfold t_read_instruction
  have hx := O.mem List.mem_cons_self
  walk_at "s"
  clear hx
  have hlt := hat.lt
  cases I with
  | plain q y n ws =>
    obtain ⟨o1, o2, o3, o4, o5, o6⟩ := ok
    have hq := nms_lt o1
    have m1 := atI_nat (show (nms.map V.str)[q]? = some (V.str y) by rw [List.getElem?_map, o1]; rfl)
    have m2 := atI_nat (show (szs.map fun (n : Nat) => V.int n)[q]? = some (V.int n) by rw [List.getElem?_map, o2]; rfl)
    obtain ⟨hv, hat2⟩ := hat.cons
    refine ⟨a, c, B, _, _, x, dx, w, k, (q : Int), all, rfl, F0, O, .here, hw, hv, fun H2 O => ?_⟩
    walk_at "s"
    refine i_dn (by simp [nms]; omega) ?_
    walk_at "s"
    refine i_dn (nms_ne o1 (j := 8) rfl o3) ?_
    walk_at "s"
    refine i_dn (nms_ne o1 (j := 13) rfl o4) ?_
    walk_at "s"
    refine i_dn (nms_ne o1 (j := 14) rfl o5) ?_
    walk_at "s"
    refine ⟨a, c, B, _, _, x, dx, w, k + 1, n, k + (Ins.plain q y n ws).ws.length, ws, all, rfl, F0, ‹Own a c B _ _›, by walk_at "u", ?_, hw, hat2, o6, hal, fun p H3 O => ?_⟩
    · show k + (ws.length + 1) = _
      omega
    have l9 := szs_le o2
    walk_at "s"
    rename_i O
    obtain ⟨B', s, ht, O⟩ := O.freeze
    exact kk _ _ B' s (O.dropP (by walk_at "p")) (.tup ht (.cons (.str _) (DtAll.ints ws)))
  | cal j y =>
    have m3 := atI_nat (show (ops.map V.str)[j]? = some (V.str y) by rw [List.getElem?_map, show ops[j]? = some y from ok]; rfl)
    have hj := ops_lt ok
    obtain ⟨hv, hat2⟩ := At.cons (w := 8) (ws := [(j : Int)]) hat
    obtain ⟨hv2, _⟩ := hat2.cons
    refine ⟨a, c, B, _, _, x, dx, w, k, 8, all, rfl, F0, O, .here, hw, hv, fun H2 O => ?_⟩
    walk_at "s"
    refine ⟨a, c, B, _, _, x, dx, w, k + 1, (j : Int), all, rfl, F0, ‹Own a c B _ _›, by walk_at "u", hw, hv2, fun H3 O => ?_⟩
    walk_at "s"
    refine i_dn (by simp [ops]; omega) ?_
    walk_at "s"
    rename_i O
    obtain ⟨B', s, ht, O⟩ := O.freeze
    exact kk _ _ B' s O (.tup ht (.cons (.str _) (.cons (.str _) .nil)))
  | either rs =>
    obtain ⟨hv, hat2⟩ := At.cons (w := 13) (ws := (rs.length : Int) :: rs.flatMap eWs) hat
    obtain ⟨hv2, hat3⟩ := hat2.cons
    refine ⟨a, c, B, _, _, x, dx, w, k, 13, all, rfl, F0, O, .here, hw, hv, fun H2 O => ?_⟩
    walk_at "s"
    refine ⟨a, c, B, _, _, x, dx, w, k + 1, (rs.length : Int), all, rfl, F0, ‹Own a c B _ _›, by walk_at "u", hw, hv2, fun H3 O => ?_⟩
    walk_at "s"
    have hl4 : rs.length ≤ 4 := ok
    refine ⟨by omega, by omega, fun D hD => ?_⟩
    refine i_lcR rs.length rfl (fun i H' => ∃ B' ps, Same B B' ∧ DtAll B' ps ((rs.take i).map eRow) ∧ Own a c B' H' ((D, .lst ps) :: (x, rd A.c_Reader dx w (k + 1 + 1 + ((rs.take i).flatMap eWs).length)) :: ls)) ⟨B, [], Same.refl _, .nil, O.new hD⟩ ?_ ?_
    · rintro i H4 hi ⟨B', ps, s, dt, O⟩
      have hr : rs[i]? = some rs[i] := List.getElem?_eq_getElem hi
      have hpl := dtLen dt
      rw [List.length_map, List.length_take] at hpl
      walk_at "s"
      refine ⟨a, c, B', _, _, x, dx, w, _, 3, k + 1 + 1 + ((rs.take (i + 1)).flatMap eWs).length, eWs rs[i], all, rfl, F0, ‹Own a c B' _ _›, by walk_at "u", ?_, s _ _ hw, flat_at hr hat3, rfl, hal, fun p H5 O => ?_⟩
      · rw [take_flat hr, List.length_append]
        show _ = _ + 3
        show _ + (_ + 3) = _
        omega
      walk_at "s"
      rename_i t H6 O
      obtain ⟨B2, s2, ht, O⟩ := O.freeze
      have O := O.dropP (l0 := (D, .lst ps) :: (x, rd A.c_Reader dx w (k + 1 + 1 + ((rs.take (i + 1)).flatMap eWs).length)) :: ls) (by walk_at "p")
      refine ⟨_, O.mem (by walk_at "m"), szl (by omega), B2, ps ++ [.ref t], Same.trans s s2, ?_, O.set .here⟩
      rw [List.take_add_one, hr, List.map_append]
      exact dtSnoc (DtAll.mono s2 dt) (.tup ht (.cons (.int _) (.cons (.int _) (.cons (.int _) .nil))))
    · rintro H4 ⟨B', ps, s, dt, O⟩
      rw [List.take_length] at dt O
      obtain ⟨B2, s2, hD2, O⟩ := O.freeze
      walk_at "s"
      rename_i t H6 O
      obtain ⟨B3, s3, ht, O⟩ := O.freeze
      have e9 : k + 1 + 1 + (rs.flatMap eWs).length = k + (Ins.either rs).ws.length := by
        show _ = k + ((rs.flatMap eWs).length + 1 + 1)
        omega
      rw [e9] at O
      exact kk _ _ B3 (Same.trans s (Same.trans s2 s3)) O (.tup ht (.cons (.str _) (.cons (.lst (s3 _ _ hD2) (DtAll.mono (Same.trans s2 s3) dt)) .nil)))
  | fork rs =>
    obtain ⟨hv, hat2⟩ := At.cons (w := 14) (ws := (rs.length : Int) :: rs.flatMap fWs) hat
    obtain ⟨hv2, hat3⟩ := hat2.cons
    refine ⟨a, c, B, _, _, x, dx, w, k, 14, all, rfl, F0, O, .here, hw, hv, fun H2 O => ?_⟩
    walk_at "s"
    refine ⟨a, c, B, _, _, x, dx, w, k + 1, (rs.length : Int), all, rfl, F0, ‹Own a c B _ _›, by walk_at "u", hw, hv2, fun H3 O => ?_⟩
    walk_at "s"
    have hl3 : rs.length ≤ 3 := ok.1
    refine ⟨by omega, by omega, fun D hD => ?_⟩
    refine i_lcR rs.length rfl (fun i H' => ∃ B' ps, Same B B' ∧ DtAll B' ps ((rs.take i).map fRow) ∧ Own a c B' H' ((D, .lst ps) :: (x, rd A.c_Reader dx w (k + 1 + 1 + ((rs.take i).flatMap fWs).length)) :: ls)) ⟨B, [], Same.refl _, .nil, O.new hD⟩ ?_ ?_
    · rintro i H4 hi ⟨B', ps, s, dt, O⟩
      have hr : rs[i]? = some rs[i] := List.getElem?_eq_getElem hi
      have hpl := dtLen dt
      rw [List.length_map, List.length_take] at hpl
      obtain ⟨g1, g2⟩ := At.cons (w := rs[i].1) (ws := (rs[i].2.length : Int) :: rs[i].2) (flat_at (f := fWs) hr hat3)
      obtain ⟨g3, g4⟩ := g2.cons
      have l4 := ok.2 rs[i] (List.getElem_mem hi)
      walk_at "s"
      refine ⟨a, c, B', _, _, x, dx, w, _, rs[i].1, all, rfl, F0, ‹Own a c B' _ _›, by walk_at "u", s _ _ hw, g1, fun H5 O => ?_⟩
      walk_at "s"
      refine ⟨a, c, B', _, _, x, dx, w, _, (rs[i].2.length : Int), all, rfl, F0, ‹Own a c B' _ _›, by walk_at "u", s _ _ hw, g3, fun H6 O => ?_⟩
      walk_at "s"
      refine ⟨a, c, B', _, _, x, dx, w, _, rs[i].2.length, k + 1 + 1 + ((rs.take (i + 1)).flatMap fWs).length, rs[i].2, all, rfl, F0, ‹Own a c B' _ _›, by walk_at "u", ?_, s _ _ hw, g4, rfl, hal, fun p H7 O => ?_⟩
      · rw [take_flat hr, List.length_append]
        show _ + (_ + (rs[i].2.length + 1 + 1)) = _
        omega
      obtain ⟨B2, s2, hp2, O⟩ := O.freeze
      walk_at "s"
      rename_i t H8 O
      obtain ⟨B3, s3, ht, O⟩ := O.freeze
      refine ⟨_, O.mem (by walk_at "m"), szl (by omega), B3, ps ++ [.ref t], Same.trans s (Same.trans s2 s3), ?_, O.set .here⟩
      rw [List.take_add_one, hr, List.map_append]
      exact dtSnoc (DtAll.mono (Same.trans s2 s3) dt) (.tup ht (.cons (.int _) (.cons (.lst (s3 _ _ hp2) (DtAll.ints _)) .nil)))
    · rintro H4 ⟨B', ps, s, dt, O⟩
      rw [List.take_length] at dt O
      obtain ⟨B2, s2, hD2, O⟩ := O.freeze
      walk_at "s"
      rename_i t H6 O
      obtain ⟨B3, s3, ht, O⟩ := O.freeze
      have e9 : k + 1 + 1 + (rs.flatMap fWs).length = k + (Ins.fork rs).ws.length := by
        show _ = k + ((rs.flatMap fWs).length + 1 + 1)
        omega
      rw [e9] at O
      exact kk _ _ B3 (Same.trans s (Same.trans s2 s3)) O (.tup ht (.cons (.str _) (.cons (.lst (s3 _ _ hD2) (DtAll.mono (Same.trans s2 s3) dt)) .nil)))
end K38
set_option Elab.async false
set_option linter.all false
set_option maxRecDepth 100000
set_option maxHeartbeats 4000000
namespace K38
open PySem PySem.Spec PyProof.Rows L2 Lb
local macro_rules | `(tactic| walk_at "pm") => `(tactic| (focus ((repeat (first | exact List.Perm.refl _ | (apply Pick.perm; (solve | repeat (first | exact Pick.here | apply Pick.there))))); done)))
local macro_rules | `(tactic| walk_at "h") => `(tactic| first | assumption | exact Own.mem (by assumption) (by walk_at "m") | exact Own.kp (by assumption) (by assumption))
local macro_rules | `(tactic| walk_at "m") => `(tactic| (focus ((repeat (first | assumption | exact List.mem_cons_self | apply List.mem_cons_of_mem)); done)))
local macro_rules | `(tactic| walk_at "u") => `(tactic| (focus ((repeat (first | exact Up1.here | apply Up1.there)); done)))
local macro_rules | `(tactic| walk_at "p") => `(tactic| (focus ((repeat (first | exact Pre.nil | apply Pre.cons)); done)))
local macro_rules | `(tactic| walk_at "f") => `(tactic| (focus ((repeat (first | exact PutF.here | exact PutF.nil | (apply PutF.there; (solve | decide +kernel)))); done)))
local macro_rules | `(tactic| walk_at "k") => `(tactic| (focus ((repeat (first | exact LkF.here rfl | exact LkF.nil rfl | refine LkF.there (by decide +kernel) ?_)); done)))
local macro_rules | `(tactic| walk_at "e") => `(tactic| (focus ((repeat (first | exact StE.nil | apply StE.app | apply StE.got | apply StE.lack)); done)))
local macro_rules | `(tactic| walk_at "d") => `(tactic| (focus ((repeat (first | exact Dt.int _ | exact Dt.str _ | exact Dt.non | exact Dt.bl _ | exact DtAll.nil | exact DtAll.ints _ | apply DtAll.cons | (apply Dt.tup; (solve | walk_at "h")) | (apply Dt.lst; (solve | walk_at "h")))); done)))
local macro_rules | `(tactic| walk_at "sh") => `(tactic| (focus ((repeat (first | exact Sh.int | exact Sh.non | exact Sh.str (by decide +kernel) | exact ShA.nil | exact ShA.ints | apply ShA.cons | apply Sh.lst | apply Sh.tup)); done)))
local macro_rules | `(tactic| walk_at "ne") => `(tactic| (apply rd_neF; (solve | walk_at "d"); (solve | walk_at "d"); (solve | exact Sh.shp (n := 4) (by walk_at "sh"))))
local macro_rules | `(tactic| walk_at "s1") => `(tactic| with_reducible first | (apply i_bm) | (apply i_tyK; (solve | assumption)) | apply i_tyS | (apply i_ixK; (solve | assumption); (solve | assumption | with_unfolding_all rfl)) | (apply i_lenK; (solve | assumption); (exact rfl)) | (apply i_tupLN; (solve | walk_at "h")) | (apply i_var; (solve | with_unfolding_all rfl)) | apply i_cons | apply i_nil | apply i_c | apply i_op | apply i_asg | apply i_seq | apply i_gname | apply i_eqS | apply i_eqI | apply i_neS | apply i_tt | apply i_ff | (apply i_ixA; (solve | walk_at "h"); (solve | exact IxO.lst (by assumption) | exact IxO.tup (by assumption) | exact .lst (by with_unfolding_all rfl) | exact .tup (by with_unfolding_all rfl))) | apply i_bl | apply i_test | apply i_ifS | apply i_tupN | (apply i_tupO; (solve | assumption); (exact (sz (by (try simp) <;> omega))); intro p H O) | apply i_fld | (apply i_fldO; (solve | walk_at "h"); (solve | assumption); (solve | assumption); (solve | walk_at "k")) | (apply i_tB; (solve | decide +kernel)) | (apply i_fB; (solve | decide +kernel)) | apply i_ret | apply i_retN | apply i_drop | apply i_next | apply i_brk | apply i_cnt | apply i_par | apply i_par2 | apply i_fldSN | apply i_dput | apply i_un | apply i_rU | apply i_rI0 | apply i_B | apply i_tru | apply i_truB | apply i_and | apply i_or | apply i_not | apply i_andV | apply i_orV | apply i_notV | apply i_if | apply i_call | apply i_meth | apply i_makeN | apply i_cb | apply i_dnewN | apply i_lstN | apply i_bml | apply i_gsub | apply i_gcons | apply i_gnil | apply i_sl | apply i_nop | apply i_part | apply i_prt | apply i_isN | apply i_notN | apply i_yes | apply i_ntt | apply i_nff | apply i_addI | apply i_neI | apply i_intI | apply i_intB | apply i_abs | apply i_isiIB | apply i_isiNB | apply i_isiBB | apply i_dget | apply i_for | apply i_ilist | apply i_itup | apply i_rng1 | apply i_rng2 | apply i_ex1 | apply i_ex2 | apply i_exr | apply i_disp | apply i_pcons | apply i_pnil | apply i_neN | apply i_eqN | apply i_neB | apply i_eqB | apply i_lc | apply i_dnI | apply i_nyI | apply i_dnR | apply i_nyR | (apply i_lenA; (solve | walk_at "h"); (solve | first | exact .lst | exact .tup | exact .dK)) | (apply i_isL; (solve | walk_at "h")) | (apply i_isiLL; (solve | walk_at "h")) | (apply i_isiTL; (solve | walk_at "h")) | (apply i_gtup; (solve | walk_at "h"); (solve | with_unfolding_all rfl)) | (apply i_fldSO; (solve | assumption); (solve | walk_at "u"); (solve | walk_at "f"); (solve | assumption); (solve | assumption); (solve | simp); intro H O) | (apply i_lstO; (solve | assumption); (exact (sz (by (try simp) <;> omega))); intro p H O) | (apply i_makeO; (solve | assumption); intro x dx H O) | (apply i_methO; (solve | walk_at "h"); (solve | walk_at "k")) | (apply i_newO; (solve | assumption); intro p H O) | (apply i_listN; (solve | walk_at "h")) | (apply i_listTN; (solve | walk_at "h")) | (apply i_addN; (solve | walk_at "h"); (solve | walk_at "h"); (exact (sz (by (try simp) <;> omega)))) | apply i_mkd | apply i_gfld | (apply i_glst; (solve | walk_at "h"); (solve | with_unfolding_all rfl)) | apply i_isB | apply i_notB | (apply i_inO; (solve | walk_at "h"); (solve | with_unfolding_all rfl); (solve | with_unfolding_all rfl)) | (apply i_dgetI; (solve | walk_at "h"); (solve | assumption)) | (apply i_in; (solve | with_unfolding_all rfl); (solve | walk_at "e")) | (apply i_setO; (solve | assumption); (solve | walk_at "u"); (solve | with_unfolding_all rfl); intro H O) | (apply i_appO; (solve | assumption); (solve | walk_at "u"); (exact (szl (by (try simp) <;> omega))); intro H O) | (apply i_drawO; (solve | assumption); (exact rfl); (solve | decide); (solve | decide); intro r H h0 h1 O))
local macro_rules | `(tactic| walk_at "s") => `(tactic| repeat (walk_at "s1"))
theorem dtGet {H : Hp} {vs : List V} {ds : List PyData} (h : DtAll H vs ds) {i : Nat} {d : PyData} (e : ds[i]? = some d) : ∃ v, vs[i]? = some v ∧ Dt H v d := by
  induction vs generalizing ds i with
  | nil =>
    cases h
    cases e
  | cons v vs ih =>
    cases h with
    | cons h1 h2 =>
      cases i with
      | zero =>
        cases e
        exact ⟨v, rfl, h1⟩
      | succ i => exact ih h2 e
theorem dtGet2 {H : Hp} {vs : List V} {ds : List PyData} (h : DtAll H vs ds) {i : Nat} {v : V} (e : vs[i]? = some v) : ∃ d, ds[i]? = some d ∧ Dt H v d := by
  induction vs generalizing ds i with
  | nil => cases e
  | cons w vs ih =>
    cases h with
    | cons h1 h2 =>
      cases i with
      | zero =>
        cases e
        exact ⟨_, rfl, h1⟩
      | succ i => exact ih h2 e
theorem dtInts {H : Hp} {vs : List V} {ws : List Int} (h : DtAll H vs (ws.map PyData.int)) : vs = ws.map V.int := by
  induction vs generalizing ws with
  | nil =>
    cases ws with
    | nil => rfl
    | cons w ws => cases h
  | cons v vs ih =>
    cases ws with
    | nil => cases h
    | cons w ws =>
      cases h with
      | cons h1 h2 =>
        cases h1
        rw [ih h2]
        rfl
theorem cut1 {v : V} {vs : List V} : cutV (v :: vs) (some 1) none = vs := by
  unfold cutV
  rw [HT.sIx_none, show (1 : Int) = ((1 : Nat) : Int) from rfl, HT.sIx_nat, Nat.min_eq_left (by simp)]
  simp
theorem i_slO1 {H : Hp} {Q : VK} {a c p : Addr} {B : Hp} {ls : List (Addr × HO)} {v : V} {vs : List V} (O : Own a c B H ls) (h : H p = some (.tup (v :: vs))) (k : ∀ p H', Own a c B H' ((p, .tup vs) :: ls) → Q (.ref p) H') : rSlA (.ref p) (some 1) none H Q := by
  refine i_slT h ?_ fun q hq => ?_
  · rw [show (1 : Int) = ((1 : Nat) : Int) from rfl, HT.sIx_nat, Nat.min_eq_left (by simp)]
    exact fun e => absurd e.1 (by decide)
  · rw [cut1]
    exact k q _ (O.new hq)
theorem mapGet {α β : Type} {f : α → β} {rs : List α} {i : Nat} {d : β} (h : (rs.map f)[i]? = some d) : ∃ r, rs[i]? = some r ∧ f r = d := by
  rw [List.getElem?_map] at h
  cases e : rs[i]? with
  | none =>
    rw [e] at h
    cases h
  | some r =>
    rw [e] at h
    exact ⟨r, rfl, Option.some.inj h⟩
set_option maxHeartbeats 32000000 in
theorem pure_encode (A : Ad) (vs : List V) (H : Hp) (Q : VK) (E : XK) (h : sp_encode A vs H Q E) : t_encode A { nx := fun _ H' => Q .non H', rt := Q } (L2.start ["instruction", "kind", "found", "row", "number", "takes"] vs) H := by
  obtain ⟨a, c, B, ls, p, I, rfl, F, O, dt, ok, kk⟩ := h
  obtain ⟨F1, n1, n2, k1, k2, k3⟩ := F
  rw [st_encode]
  unfold t_encode
  cases I with
  | plain q y n ws =>
    obtain ⟨o1, o2, o3, o4, o5, o6⟩ := ok
    have l9 := szs_le o2
    cases dt with
    | tup hp d =>
      cases d with
      | cons d1 d2 =>
        cases d1
        have e := dtInts d2
        subst e
        have m0 : atI (V.str y :: ws.map V.int) 0 = some (V.str y) := atI_nat (j := 0) rfl
        walk_at "s"
        refine i_tixK k1 o1 (nms_first o1) ?_
        walk_at "s"
        refine i_dn (nms_ne o1 (j := 8) rfl o3) ?_
        walk_at "s"
        refine i_dn (nms_ne o1 (j := 13) rfl o4) ?_
        walk_at "s"
        refine i_dn (nms_ne o1 (j := 14) rfl o5) ?_
        walk_at "s"
        refine i_slO1 ‹Own a c B _ _› (by walk_at "h") fun p2 H2 O => ?_
        walk_at "s"
        exact kk _ _ (Own.skipP ‹Own a c B _ _› (by walk_at "p"))
  | cal j y =>
    cases dt with
    | tup hp d =>
      cases d with
      | cons d1 d2 =>
        cases d1
        cases d2 with
        | cons d3 d4 =>
          cases d3
          cases d4
          walk_at "s"
          refine i_tixK k1 (j := 8) rfl (nms_first rfl) ?_
          walk_at "s"
          refine i_tixK k3 (j := j) ok (ops_first ok) ?_
          walk_at "s"
          exact kk _ _ (Own.skipP ‹Own a c B _ _› (by walk_at "p"))
  | either rs =>
    cases dt with
    | tup hp d =>
      cases d with
      | cons d1 d2 =>
        cases d1
        cases d2 with
        | cons d3 d4 =>
          cases d4
          cases d3 with
          | lst hr dr =>
            rename_i b xs
            have hl := dtLen dr
            rw [List.length_map] at hl
            have l4 : rs.length ≤ 4 := ok
            walk_at "s"
            refine i_tixK k1 (j := 13) rfl (nms_first rfl) ?_
            walk_at "s"
            rename_i f H2 O H3 O'
            rw [hl] at O'
            refine i_forL xs (fun i σ H' => ∃ x3, σ = [some (.ref p), some (.str "either"), some (.ref f), x3, none, none] ∧ Own a c B H' ((f, .lst ((13 :: (rs.length : Int) :: (rs.take i).flatMap eWs).map V.int)) :: ls)) ⟨none, rfl, O'⟩ (fun i σ H' ⟨_, _, O⟩ => SqL.of (O.kp hr)) ?_ ?_
            · rintro i v σ H4 hv ⟨x3, rfl, O⟩
              obtain ⟨d, hd, dv⟩ := dtGet2 dr hv
              obtain ⟨r, hr2, rfl⟩ := mapGet hd
              cases dv with
              | tup ht dt2 =>
                have e := dtInts (ws := eWs r) dt2
                subst e
                have l5 := flat_len (f := eWs) (b := 3) (rs := rs.take i) fun r _ => Nat.le_refl _
                rw [List.length_take] at l5
                walk_at "s"
                refine i_extT O (O.kp ht) .here (sz (by simp only [List.length_map, List.length_cons, List.length_nil, eWs]; omega)) fun H5 O => ?_
                walk_at "s"
                refine ⟨_, rfl, ?_⟩
                rw [take_flat hr2]
                rw [← List.map_append] at O
                exact O
            · rintro σ H4 ⟨x3, rfl, O⟩
              rw [hl, List.take_length] at O
              walk_at "s"
              exact kk _ _ O
  | fork rs =>
    cases dt with
    | tup hp d =>
      cases d with
      | cons d1 d2 =>
        cases d1
        cases d2 with
        | cons d3 d4 =>
          cases d4
          cases d3 with
          | lst hr dr =>
            rename_i b xs
            have hl := dtLen dr
            rw [List.length_map] at hl
            have l3 : rs.length ≤ 3 := ok.1
            walk_at "s"
            refine i_tixK k1 (j := 14) rfl (nms_first rfl) ?_
            walk_at "s"
            rename_i f H2 O H3 O'
            rw [hl] at O'
            refine i_forL xs (fun i σ H' => ∃ x3 x4, σ = [some (.ref p), some (.str "fork"), some (.ref f), none, x3, x4] ∧ Own a c B H' ((f, .lst ((14 :: (rs.length : Int) :: (rs.take i).flatMap fWs).map V.int)) :: ls)) ⟨none, none, rfl, O'⟩ (fun i σ H' ⟨_, _, _, O⟩ => SqL.of (O.kp hr)) ?_ ?_
            · rintro i v σ H4 hv ⟨x3, x4, rfl, O⟩
              obtain ⟨d, hd, dv⟩ := dtGet2 dr hv
              obtain ⟨r, hr2, rfl⟩ := mapGet hd
              cases dv with
              | tup ht dt2 =>
                cases dt2 with
                | cons e1 e2 =>
                  cases e1
                  cases e2 with
                  | cons e3 e4 =>
                    cases e4
                    cases e3 with
                    | lst hw dw =>
                      have e := dtInts dw
                      subst e
                      have l6 := ok.2 r (List.mem_of_getElem? hr2)
                      have l5 := flat_len (f := fWs) (b := 6) (rs := rs.take i) fun r hr => by
                        have := ok.2 r (List.mem_of_mem_take hr)
                        show r.2.length + 1 + 1 ≤ 6
                        omega
                      rw [List.length_take] at l5
                      walk_at "s"
                      refine i_extO ‹Own a c B _ _› (by walk_at "h") (by walk_at "u") (sz (by simp only [List.length_append, List.length_map, List.length_cons, List.length_nil]; omega)) fun H5 O => ?_
                      walk_at "s"
                      refine ⟨_, _, rfl, ?_⟩
                      rw [take_flat hr2]
                      have O := O.dropP (l0 := _ :: ls) (by walk_at "p")
                      have e9 : (14 :: (rs.length : Int) :: ((rs.take i).flatMap fWs ++ fWs r)).map V.int = (14 :: (rs.length : Int) :: (rs.take i).flatMap fWs).map V.int ++ ([V.int r.1, V.int ((r.2.map V.int).length : Nat)] ++ r.2.map V.int) := by simp [fWs]
                      rw [e9]
                      exact O
            · rintro σ H4 ⟨x3, x4, rfl, O⟩
              rw [hl, List.take_length] at O
              walk_at "s"
              exact kk _ _ O
end K38
set_option Elab.async false
set_option linter.all false
set_option maxRecDepth 100000
set_option maxHeartbeats 4000000
namespace K38
open PySem PySem.Spec PyProof.Rows L2 Lb
local macro_rules | `(tactic| walk_at "pm") => `(tactic| (focus ((repeat (first | exact List.Perm.refl _ | (apply Pick.perm; (solve | repeat (first | exact Pick.here | apply Pick.there))))); done)))
local macro_rules | `(tactic| walk_at "h") => `(tactic| first | assumption | exact Own.mem (by assumption) (by walk_at "m") | exact Own.kp (by assumption) (by assumption))
local macro_rules | `(tactic| walk_at "m") => `(tactic| (focus ((repeat (first | assumption | exact List.mem_cons_self | apply List.mem_cons_of_mem)); done)))
local macro_rules | `(tactic| walk_at "u") => `(tactic| (focus ((repeat (first | exact Up1.here | apply Up1.there)); done)))
local macro_rules | `(tactic| walk_at "p") => `(tactic| (focus ((repeat (first | exact Pre.nil | apply Pre.cons)); done)))
local macro_rules | `(tactic| walk_at "f") => `(tactic| (focus ((repeat (first | exact PutF.here | exact PutF.nil | (apply PutF.there; (solve | decide +kernel)))); done)))
local macro_rules | `(tactic| walk_at "k") => `(tactic| (focus ((repeat (first | exact LkF.here rfl | exact LkF.nil rfl | refine LkF.there (by decide +kernel) ?_)); done)))
local macro_rules | `(tactic| walk_at "e") => `(tactic| (focus ((repeat (first | exact StE.nil | apply StE.app | apply StE.got | apply StE.lack)); done)))
local macro_rules | `(tactic| walk_at "d") => `(tactic| (focus ((repeat (first | exact Dt.int _ | exact Dt.str _ | exact Dt.non | exact Dt.bl _ | exact DtAll.nil | exact DtAll.ints _ | apply DtAll.cons | (apply Dt.tup; (solve | walk_at "h")) | (apply Dt.lst; (solve | walk_at "h")))); done)))
local macro_rules | `(tactic| walk_at "sh") => `(tactic| (focus ((repeat (first | exact Sh.int | exact Sh.non | exact Sh.str (by decide +kernel) | exact ShA.nil | exact ShA.ints | apply ShA.cons | apply Sh.lst | apply Sh.tup)); done)))
local macro_rules | `(tactic| walk_at "ne") => `(tactic| (apply rd_neF; (solve | walk_at "d"); (solve | walk_at "d"); (solve | exact Sh.shp (n := 4) (by walk_at "sh"))))
local macro_rules | `(tactic| walk_at "s1") => `(tactic| with_reducible first | (apply i_bm) | (apply i_tyK; (solve | assumption)) | apply i_tyS | (apply i_ixK; (solve | assumption); (solve | assumption | with_unfolding_all rfl)) | (apply i_lenK; (solve | assumption); (exact rfl)) | (apply i_tupLN; (solve | walk_at "h")) | (apply i_var; (solve | with_unfolding_all rfl)) | apply i_cons | apply i_nil | apply i_c | apply i_op | apply i_asg | apply i_seq | apply i_gname | apply i_eqS | apply i_eqI | apply i_neS | apply i_tt | apply i_ff | (apply i_ixA; (solve | walk_at "h"); (solve | exact IxO.lst (by assumption) | exact IxO.tup (by assumption) | exact .lst (by with_unfolding_all rfl) | exact .tup (by with_unfolding_all rfl))) | apply i_bl | apply i_test | apply i_ifS | apply i_tupN | (apply i_tupO; (solve | assumption); (exact (sz (by (try simp) <;> omega))); intro p H O) | apply i_fld | (apply i_fldO; (solve | walk_at "h"); (solve | assumption); (solve | assumption); (solve | walk_at "k")) | (apply i_tB; (solve | decide +kernel)) | (apply i_fB; (solve | decide +kernel)) | apply i_ret | apply i_retN | apply i_drop | apply i_next | apply i_brk | apply i_cnt | apply i_par | apply i_par2 | apply i_fldSN | apply i_dput | apply i_un | apply i_rU | apply i_rI0 | apply i_B | apply i_tru | apply i_truB | apply i_and | apply i_or | apply i_not | apply i_andV | apply i_orV | apply i_notV | apply i_if | apply i_call | apply i_meth | apply i_makeN | apply i_cb | apply i_dnewN | apply i_lstN | apply i_bml | apply i_gsub | apply i_gcons | apply i_gnil | apply i_sl | apply i_nop | apply i_part | apply i_prt | apply i_isN | apply i_notN | apply i_yes | apply i_ntt | apply i_nff | apply i_addI | apply i_neI | apply i_intI | apply i_intB | apply i_abs | apply i_isiIB | apply i_isiNB | apply i_isiBB | apply i_dget | apply i_for | apply i_ilist | apply i_itup | apply i_rng1 | apply i_rng2 | apply i_ex1 | apply i_ex2 | apply i_exr | apply i_disp | apply i_pcons | apply i_pnil | apply i_neN | apply i_eqN | apply i_neB | apply i_eqB | apply i_lc | apply i_dnI | apply i_nyI | apply i_dnR | apply i_nyR | (apply i_lenA; (solve | walk_at "h"); (solve | first | exact .lst | exact .tup | exact .dK)) | (apply i_isL; (solve | walk_at "h")) | (apply i_isiLL; (solve | walk_at "h")) | (apply i_isiTL; (solve | walk_at "h")) | (apply i_gtup; (solve | walk_at "h"); (solve | with_unfolding_all rfl)) | (apply i_fldSO; (solve | assumption); (solve | walk_at "u"); (solve | walk_at "f"); (solve | assumption); (solve | assumption); (solve | simp); intro H O) | (apply i_lstO; (solve | assumption); (exact (sz (by (try simp) <;> omega))); intro p H O) | (apply i_makeO; (solve | assumption); intro x dx H O) | (apply i_methO; (solve | walk_at "h"); (solve | walk_at "k")) | (apply i_newO; (solve | assumption); intro p H O) | (apply i_listN; (solve | walk_at "h")) | (apply i_listTN; (solve | walk_at "h")) | (apply i_addN; (solve | walk_at "h"); (solve | walk_at "h"); (exact (sz (by (try simp) <;> omega)))) | apply i_mkd | apply i_gfld | (apply i_glst; (solve | walk_at "h"); (solve | with_unfolding_all rfl)) | apply i_isB | apply i_notB | (apply i_inO; (solve | walk_at "h"); (solve | with_unfolding_all rfl); (solve | with_unfolding_all rfl)) | (apply i_dgetI; (solve | walk_at "h"); (solve | assumption)) | (apply i_in; (solve | with_unfolding_all rfl); (solve | walk_at "e")) | (apply i_setO; (solve | assumption); (solve | walk_at "u"); (solve | with_unfolding_all rfl); intro H O) | (apply i_appO; (solve | assumption); (solve | walk_at "u"); (exact (szl (by (try simp) <;> omega))); intro H O) | (apply i_drawO; (solve | assumption); (exact rfl); (solve | decide); (solve | decide); intro r H h0 h1 O))
local macro_rules | `(tactic| walk_at "s") => `(tactic| repeat (walk_at "s1"))
theorem ws_pos (I : Ins) : 1 ≤ I.ws.length := by
  cases I <;> exact Nat.succ_le_succ (Nat.zero_le _)
theorem off_lt {Is : List Ins} {i : Nat} (h : i < Is.length) : ((Is.take i).flatMap Ins.ws).length < (Is.flatMap Ins.ws).length := by
  have hr : Is[i]? = some Is[i] := List.getElem?_eq_getElem h
  have e : Is.flatMap Ins.ws = (Is.take (i + 1)).flatMap Ins.ws ++ (Is.drop (i + 1)).flatMap Ins.ws := by
    rw [← List.flatMap_append, List.take_append_drop]
  rw [e, take_flat hr, List.length_append, List.length_append]
  have := ws_pos Is[i]
  omega
set_option maxHeartbeats 32000000 in
theorem pure_decode (A : Ad) (vs : List V) (H : Hp) (Q : VK) (E : XK) (h : sp_decode A vs H Q E) : t_decode A { nx := fun _ H' => Q .non H', rt := Q } (L2.start ["words", "reader", "found"] vs) H := by
  obtain ⟨a, c, B, ls, w, Is, rfl, F, O, hw, ok, hl, kk⟩ := h
  have F0 := F
  obtain ⟨F1, n1, n2, k1, k2, k3⟩ := F
  rw [st_decode]
  unfold t_decode
  have hlen : (Is.flatMap Ins.ws).length ≤ 31 * 20 := Nat.le_trans (flat_len (b := 20) fun I hI => Ins.len (ok I hI)) (Nat.mul_le_mul_right _ hl)
  walk_at "s"
  rename_i x dx H1 O1 H2 O2 H3 O3 f H4 O4
  refine i_while (fun m σ H' => ∃ i B' ps, m + i = Is.length ∧ σ = [some (.ref w), some (.ref x), some (.ref f)] ∧ Same B B' ∧ DtAll B' ps ((Is.take i).map Ins.py) ∧ Own a c B' H' ((x, rd A.c_Reader dx w ((Is.take i).flatMap Ins.ws).length) :: (dx, .own x) :: (f, .lst ps) :: ls)) Is.length ⟨0, B, [], rfl, rfl, Same.refl _, .nil, O4.perm (by walk_at "pm")⟩ ?_
  rintro m σ H5 ⟨i, B', ps, hm, rfl, s, dt, O⟩
  have hpl := dtLen dt
  rw [List.length_map, List.length_take] at hpl
  have hw' := s _ _ hw
  walk_at "s"
  refine i_d2 (fun h5 => ?_) (fun h5 => ?_)
  · rw [List.length_map] at h5
    have hi : i < Is.length := by
      rcases Nat.lt_or_ge i Is.length with q | q
      · exact q
      · rw [List.take_of_length_le q] at h5
        omega
    have hr : Is[i]? = some Is[i] := List.getElem?_eq_getElem hi
    refine i_wgo ?_
    walk_at "s"
    have hat : At (Is.flatMap Ins.ws) ((Is.take i).flatMap Ins.ws).length Is[i].ws := by
      have z := flat_at (f := Ins.ws) (k := 0) (all := Is.flatMap Ins.ws) hr ⟨[], [], by simp, rfl⟩
      rw [Nat.zero_add] at z
      exact z
    refine ⟨a, c, B', _, x, dx, w, _, Is[i], _, rfl, F0, O, s _ _ hw, hat, ok _ (List.getElem_mem hi), by omega, fun p H6 B2 s2 O dp => ?_⟩
    rw [← List.length_append, ← take_flat hr] at O
    walk_at "s"
    refine ⟨m - 1, by omega, i + 1, B2, ps ++ [.ref p], by omega, rfl, Same.trans s s2, ?_, ‹Own a c B2 _ _›⟩
    rw [List.take_add_one, hr, List.map_append]
    exact dtSnoc (DtAll.mono s2 dt) dp
  · rw [List.length_map] at h5
    have hi : i = Is.length := by
      rcases Nat.lt_or_ge i Is.length with q | q
      · have := off_lt q
        omega
      · omega
    subst hi
    rw [List.take_length] at dt
    walk_at "s"
    have O := O.perm (ls' := (f, .lst ps) :: (x, rd A.c_Reader dx w ((Is.take Is.length).flatMap Ins.ws).length) :: (dx, .own x) :: ls) (by walk_at "pm")
    obtain ⟨B2, s2, hf, O⟩ := O.freeze
    exact kk _ _ B2 (Same.trans s s2) (O.dropP (by walk_at "p")) (.lst hf (DtAll.mono s2 dt))
set_option maxHeartbeats 32000000 in
theorem pure_law (A : Ad) (vs : List V) (H : Hp) (Q : VK) (E : XK) (h : sp_law A vs H Q E) : t_law A { nx := fun _ H' => Q .non H', rt := Q } (L2.start ["_law_script", "_law_state_here", "_law_code", "_law_words", "_law_k", "_law_instruction_here", "_law_due", "_law_told", "_law_given", "_law_found"] vs) H := by
  obtain ⟨s, ns, rfl, hS, hl, F, kQ⟩ := h
  rw [st_law]
  unfold t_law
  walk_at "s"
  refine ⟨s, ns, rfl, hS, hl, fun H1 a c sm R na nc => ?_⟩
  have O := Own.start R
  generalize hid [a, c] H1 = B at O
  walk_at "s"
  rename_i D H2 O2 W H3 O3 r H4 h0 h1 O
  obtain ⟨n0, rfl⟩ : ∃ j : Nat, r = (j : Int) := ⟨r.toNat, by omega⟩
  have O := O.perm (ls' := [(W, .lst []), (D, .lst [])]) (by walk_at "pm")
  obtain ⟨B2, s2, hW, O⟩ := O.freeze
  clear s2 O2 O3
  refine i_forR n0 (by omega) (by omega) (fun i σ H' => ∃ B' ps w Is x4 x5 x6 x7, σ = [some (.ref s), some (.ref a), some (.ref D), some (.ref w), x4, x5, x6, x7, none, none] ∧ Same B2 B' ∧ Is.length = i ∧ (∀ I ∈ Is, I.ok) ∧ DtAll B' ps (Is.map Ins.py) ∧ B' w = some (.lst ((Is.flatMap Ins.ws).map V.int)) ∧ Own a c B' H' [(D, .lst ps)]) ⟨B2, [], W, [], none, none, none, none, rfl, Same.refl _, rfl, by simp, .nil, hW, O⟩ ?_ ?_
  · rintro i σ H5 hi ⟨B', ps, w, Is, x4, x5, x6, x7, rfl, s5, hIl, ok, dt, hw, O⟩
    have hpl := dtLen dt
    rw [List.length_map] at hpl
    have hlen : (Is.flatMap Ins.ws).length ≤ Is.length * 20 := flat_len (b := 20) fun I hI => Ins.len (ok I hI)
    walk_at "s"
    refine ⟨a, c, B', _, rfl, O, fun H6 B3 t p q I s6 O ht dp hq okI => ?_⟩
    have hI := Ins.len okI
    have hlen2 := hlen
    rw [List.length_flatMap] at hlen2
    have hw := s6 _ _ hw
    walk_at "s"
    refine ⟨a, c, B3, _, p, I, rfl, F, O, dp, okI, fun p7 H7 O => ?_⟩
    walk_at "s"
    refine rd_neF (.lst (O.mem List.mem_cons_self) (DtAll.ints _)) (.lst (O.kp hq) (DtAll.ints _)) (Sh.shp (n := 1) (.lst .ints)) ?_
    walk_at "s"
    rename_i w2 H8 O
    obtain ⟨B4, s7, hw2, O⟩ := O.freeze
    refine ⟨B4, ps ++ [.ref p], w2, Is ++ [I], _, _, _, _, rfl, Same.trans s5 (Same.trans s6 s7), by rw [List.length_append, hIl]; rfl, fun J hJ => ?_, ?_, ?_, O.dropP (by walk_at "p")⟩
    · rcases List.mem_append.mp hJ with e | e
      · exact ok J e
      · rw [List.mem_singleton.mp e]
        exact okI
    · rw [List.map_append]
      exact dtSnoc (DtAll.mono (Same.trans s6 s7) dt) (Dt.mono s7 dp)
    · rw [hw2, List.flatMap_append, List.map_append]
      simp
  · rintro σ H5 ⟨B', ps, w, Is, x4, x5, x6, x7, rfl, s5, hIl, ok, dt, hw, O⟩
    walk_at "s"
    rename_i g H6 O
    obtain ⟨B3, s6, hg, O⟩ := O.freeze
    walk_at "s"
    refine ⟨a, c, B3, _, g, Is, rfl, F, O, hg, ok, by omega, fun p H7 B4 s7 O dp => ?_⟩
    have hw4 := s7 _ _ (s6 _ _ hw)
    have hg4 := s7 _ _ hg
    have dt4 := DtAll.mono (Same.trans s6 s7) dt
    cases dp with
    | lst hp dps =>
      walk_at "s"
      refine rd_eqT (.lst (O.kp hp) (DtAll.mono O.keep dps)) (.lst (O.mem List.mem_cons_self) (DtAll.mono O.keep dt4)) (Sh.shp (n := 7) (.lst (.all fun d hd => ?_))) ?_
      · obtain ⟨I, hI, rfl⟩ := List.mem_map.mp hd
        exact Ins.sh (ok I hI)
      walk_at "s"
      exact rd_eqT (.lst (O.kp hg4) (DtAll.ints _)) (.lst (O.kp hw4) (DtAll.ints _)) (Sh.shp (n := 1) (.lst .ints)) (kQ _)
end K38
set_option Elab.async false
set_option linter.all false
set_option maxRecDepth 100000
set_option maxHeartbeats 4000000
namespace K38
open PySem PySem.Spec PyProof.Rows L2 Lb
local macro_rules | `(tactic| walk_at "pm") => `(tactic| (focus ((repeat (first | exact List.Perm.refl _ | (apply Pick.perm; (solve | repeat (first | exact Pick.here | apply Pick.there))))); done)))
local macro_rules | `(tactic| walk_at "h") => `(tactic| first | assumption | exact Own.mem (by assumption) (by walk_at "m") | exact Own.kp (by assumption) (by assumption))
local macro_rules | `(tactic| walk_at "m") => `(tactic| (focus ((repeat (first | assumption | exact List.mem_cons_self | apply List.mem_cons_of_mem)); done)))
local macro_rules | `(tactic| walk_at "u") => `(tactic| (focus ((repeat (first | exact Up1.here | apply Up1.there)); done)))
local macro_rules | `(tactic| walk_at "p") => `(tactic| (focus ((repeat (first | exact Pre.nil | apply Pre.cons)); done)))
local macro_rules | `(tactic| walk_at "f") => `(tactic| (focus ((repeat (first | exact PutF.here | exact PutF.nil | (apply PutF.there; (solve | decide +kernel)))); done)))
local macro_rules | `(tactic| walk_at "k") => `(tactic| (focus ((repeat (first | exact LkF.here rfl | exact LkF.nil rfl | refine LkF.there (by decide +kernel) ?_)); done)))
local macro_rules | `(tactic| walk_at "e") => `(tactic| (focus ((repeat (first | exact StE.nil | apply StE.app | apply StE.got | apply StE.lack)); done)))
local macro_rules | `(tactic| walk_at "d") => `(tactic| (focus ((repeat (first | exact Dt.int _ | exact Dt.str _ | exact Dt.non | exact Dt.bl _ | exact DtAll.nil | exact DtAll.ints _ | apply DtAll.cons | (apply Dt.tup; (solve | walk_at "h")) | (apply Dt.lst; (solve | walk_at "h")))); done)))
local macro_rules | `(tactic| walk_at "sh") => `(tactic| (focus ((repeat (first | exact Sh.int | exact Sh.non | exact Sh.str (by decide +kernel) | exact ShA.nil | exact ShA.ints | apply ShA.cons | apply Sh.lst | apply Sh.tup)); done)))
local macro_rules | `(tactic| walk_at "ne") => `(tactic| (apply rd_neF; (solve | walk_at "d"); (solve | walk_at "d"); (solve | exact Sh.shp (n := 4) (by walk_at "sh"))))
local macro_rules | `(tactic| walk_at "s1") => `(tactic| with_reducible first | (apply i_bm) | (apply i_tyK; (solve | assumption)) | apply i_tyS | (apply i_ixK; (solve | assumption); (solve | assumption | with_unfolding_all rfl)) | (apply i_lenK; (solve | assumption); (exact rfl)) | (apply i_tupLN; (solve | walk_at "h")) | (apply i_var; (solve | with_unfolding_all rfl)) | apply i_cons | apply i_nil | apply i_c | apply i_op | apply i_asg | apply i_seq | apply i_gname | apply i_eqS | apply i_eqI | apply i_neS | apply i_tt | apply i_ff | (apply i_ixA; (solve | walk_at "h"); (solve | exact IxO.lst (by assumption) | exact IxO.tup (by assumption) | exact .lst (by with_unfolding_all rfl) | exact .tup (by with_unfolding_all rfl))) | apply i_bl | apply i_test | apply i_ifS | apply i_tupN | (apply i_tupO; (solve | assumption); (exact (sz (by (try simp) <;> omega))); intro p H O) | apply i_fld | (apply i_fldO; (solve | walk_at "h"); (solve | assumption); (solve | assumption); (solve | walk_at "k")) | (apply i_tB; (solve | decide +kernel)) | (apply i_fB; (solve | decide +kernel)) | apply i_ret | apply i_retN | apply i_drop | apply i_next | apply i_brk | apply i_cnt | apply i_par | apply i_par2 | apply i_fldSN | apply i_dput | apply i_un | apply i_rU | apply i_rI0 | apply i_B | apply i_tru | apply i_truB | apply i_and | apply i_or | apply i_not | apply i_andV | apply i_orV | apply i_notV | apply i_if | apply i_call | apply i_meth | apply i_makeN | apply i_cb | apply i_dnewN | apply i_lstN | apply i_bml | apply i_gsub | apply i_gcons | apply i_gnil | apply i_sl | apply i_nop | apply i_part | apply i_prt | apply i_isN | apply i_notN | apply i_yes | apply i_ntt | apply i_nff | apply i_addI | apply i_neI | apply i_intI | apply i_intB | apply i_abs | apply i_isiIB | apply i_isiNB | apply i_isiBB | apply i_dget | apply i_for | apply i_ilist | apply i_itup | apply i_rng1 | apply i_rng2 | apply i_ex1 | apply i_ex2 | apply i_exr | apply i_disp | apply i_pcons | apply i_pnil | apply i_neN | apply i_eqN | apply i_neB | apply i_eqB | apply i_lc | apply i_dnI | apply i_nyI | apply i_dnR | apply i_nyR | (apply i_lenA; (solve | walk_at "h"); (solve | first | exact .lst | exact .tup | exact .dK)) | (apply i_isL; (solve | walk_at "h")) | (apply i_isiLL; (solve | walk_at "h")) | (apply i_isiTL; (solve | walk_at "h")) | (apply i_gtup; (solve | walk_at "h"); (solve | with_unfolding_all rfl)) | (apply i_fldSO; (solve | assumption); (solve | walk_at "u"); (solve | walk_at "f"); (solve | assumption); (solve | assumption); (solve | simp); intro H O) | (apply i_lstO; (solve | assumption); (exact (sz (by (try simp) <;> omega))); intro p H O) | (apply i_makeO; (solve | assumption); intro x dx H O) | (apply i_methO; (solve | walk_at "h"); (solve | walk_at "k")) | (apply i_newO; (solve | assumption); intro p H O) | (apply i_listN; (solve | walk_at "h")) | (apply i_listTN; (solve | walk_at "h")) | (apply i_addN; (solve | walk_at "h"); (solve | walk_at "h"); (exact (sz (by (try simp) <;> omega)))) | apply i_mkd | apply i_gfld | (apply i_glst; (solve | walk_at "h"); (solve | with_unfolding_all rfl)) | apply i_isB | apply i_notB | (apply i_inO; (solve | walk_at "h"); (solve | with_unfolding_all rfl); (solve | with_unfolding_all rfl)) | (apply i_dgetI; (solve | walk_at "h"); (solve | assumption)) | (apply i_in; (solve | with_unfolding_all rfl); (solve | walk_at "e")) | (apply i_setO; (solve | assumption); (solve | walk_at "u"); (solve | with_unfolding_all rfl); intro H O) | (apply i_appO; (solve | assumption); (solve | walk_at "u"); (exact (szl (by (try simp) <;> omega))); intro H O) | (apply i_drawO; (solve | assumption); (exact rfl); (solve | decide); (solve | decide); intro r H h0 h1 O))
local macro_rules | `(tactic| walk_at "s") => `(tactic| repeat (walk_at "s1"))
theorem many_of {k n : Nat} {x : Str} (h : nms[k]? = some x) (h2 : szs[k]? = some n) (h8 : k ≠ 8) (h13 : k ≠ 13) (h14 : k ≠ 14) :
    n = if inV (.str x) [.str "neg", .str "not", .str "end", .str "stop"] = true then 0 else if inV (.str x) [.str "loadx", .str "storex"] = true then 2 else 1 := by
  have z : ∀ k < 17, k = 8 ∨ k = 13 ∨ k = 14 ∨ (szs[k]?).getD 0 = if inV (.str ((nms[k]?).getD "")) [.str "neg", .str "not", .str "end", .str "stop"] = true then 0 else if inV (.str ((nms[k]?).getD "")) [.str "loadx", .str "storex"] = true then 2 else 1 := by decide +kernel
  rcases z k (nms_lt h) with e | e | e | e
  · exact (h8 e).elim
  · exact (h13 e).elim
  · exact (h14 e).elim
  · rw [h, h2] at e
    exact e
theorem nms_get {k : Nat} {x : Str} {j : Nat} {y : Str} (h : nms[k]? = some x) (hj : nms[j]? = some y) (e : x = y) : k = j := nms_nd k (nms_lt h) j (nms_lt hj) (by rw [h, hj, e])
set_option maxHeartbeats 32000000 in
theorem pure_l_instruction (A : Ad) (vs : List V) (H : Hp) (Q : VK) (E : XK) (h : sp_l_instr vs H Q E) : t_l_instruction A { nx := fun _ H' => Q .non H', rt := Q } (L2.start ["_law_state_here", "_law_at", "_law_name", "_law_words", "_law_operators", "_law_k", "_law_rows", "_law_row", "_law_number", "_law_takes", "_law_many", "_law_numbers", "_law_j"] vs) H := by
  obtain ⟨a, c, B, ls, rfl, O, kk⟩ := h
  rw [st_l_instruction]
  unfold t_l_instruction
  walk_at "s"
  rename_i r H1 h0 h1 O
  obtain ⟨k, rfl⟩ : ∃ j : Nat, r = (j : Int) := ⟨r.toNat, by omega⟩
  refine ⟨a, c, B, _, rfl, O, fun N H2 O => ?_⟩
  have o1 : nms[k]? = some (nms[k]'(by show k < 17; omega)) := List.getElem?_eq_getElem _
  generalize (nms[k]'(by show k < 17; omega)) = x at o1
  have m1 := atI_nat (show (nms.map V.str)[k]? = some (V.str x) by rw [List.getElem?_map, o1]; rfl)
  walk_at "s"
  refine i_d2 (fun hx => ?_) (fun hx => ?_)
  · have e := nms_get o1 (j := 8) rfl hx
    subst e
    walk_at "s"
    rename_i r H4 g0 g1 O
    obtain ⟨j, rfl⟩ : ∃ j : Nat, r = (j : Int) := ⟨r.toNat, by omega⟩
    have o2 : ops[j]? = some (ops[j]'(by show j < 11; omega)) := List.getElem?_eq_getElem _
    generalize (ops[j]'(by show j < 11; omega)) = y at o2
    have m2 := atI_nat (show (ops.map V.str)[j]? = some (V.str y) by rw [List.getElem?_map, o2]; rfl)
    simp only [ops, List.map_cons, List.map_nil] at m2
    walk_at "s"
    rename_i O
    obtain ⟨B1, s1, ht, O⟩ := O.freeze
    obtain ⟨B2, s2, hw, O⟩ := O.freeze
    obtain ⟨B3, s3, hi, O⟩ := O.freeze
    exact kk _ B3 _ _ _ (.cal j y) (Same.trans s1 (Same.trans s2 s3)) (O.dropP (by walk_at "p")) (s3 _ _ (s2 _ _ ht)) (.tup hi (.cons (.str _) (.cons (.str _) .nil))) (s3 _ _ hw) o2
  walk_at "s"
  refine i_d2 (fun hx2 => ?_) (fun hx2 => ?_)
  · have e := nms_get o1 (j := 13) rfl hx2
    subst e
    subst hx2
    walk_at "s"
    rename_i r H4 g0 g1 O
    obtain ⟨n, rfl⟩ : ∃ j : Nat, r = (j : Int) := ⟨r.toNat, by omega⟩
    walk_at "s"
    refine ⟨by omega, by omega, fun D hD => ?_⟩
    refine i_lcR n rfl (fun i H' => ∃ B' ps rs, Same B B' ∧ rs.length = i ∧ DtAll B' ps (rs.map eRow) ∧ Own a c B' H' ((D, .lst ps) :: _)) ⟨B, [], [], Same.refl _, rfl, .nil, O.new hD⟩ ?_ ?_
    · rintro i H5 hi ⟨B', ps, rs, s, hrl, dt, O⟩
      have hpl := dtLen dt
      rw [List.length_map] at hpl
      walk_at "s"
      refine ⟨a, c, B', _, rfl, O, fun H6 w1 O => ?_⟩
      walk_at "s"
      refine ⟨a, c, B', _, rfl, O, fun H7 w2 O => ?_⟩
      walk_at "s"
      refine ⟨a, c, B', _, rfl, O, fun H8 w3 O => ?_⟩
      walk_at "s"
      rename_i t H9 O
      obtain ⟨B1, s1, ht, O⟩ := O.freeze
      refine ⟨_, O.mem (by walk_at "m"), szl (by omega), B1, ps ++ [.ref t], rs ++ [(w1, w2, w3)], Same.trans s s1, by rw [List.length_append, hrl]; rfl, ?_, O.set .here⟩
      rw [List.map_append]
      exact dtSnoc (DtAll.mono s1 dt) (.tup ht (.cons (.int _) (.cons (.int _) (.cons (.int _) .nil))))
    rintro H5 ⟨B', ps, rs, s, hrl, dt, O⟩
    have hpl := dtLen dt
    rw [List.length_map] at hpl
    obtain ⟨B1, s1, hD1, O⟩ := O.freeze
    have dt := DtAll.mono s1 dt
    have O := Own.skipP (l0 := ls) O (by walk_at "p")
    walk_at "s"
    rename_i O
    rw [hpl] at O
    refine i_forL ps (fun i σ H' => ∃ wl x7, σ = [some (.ref a), some (.int ((13 : Nat) : Int)), some (.str "either"), some (.ref wl), none, none, some (.ref D), x7, none, none, none, none, none] ∧ Own a c B1 H' ((wl, .lst ((13 :: (rs.length : Int) :: (rs.take i).flatMap eWs).map V.int)) :: ls)) ⟨_, none, rfl, O⟩ (fun i σ H' ⟨_, _, _, O⟩ => SqL.of (O.kp hD1)) ?_ ?_
    · rintro i v σ H6 hv ⟨wl, x7, rfl, O⟩
      obtain ⟨d, hd, dv⟩ := dtGet2 dt hv
      obtain ⟨r, hr2, rfl⟩ := mapGet hd
      cases dv with
      | tup ht dt2 =>
        have e := dtInts (ws := eWs r) dt2
        subst e
        have l5 := flat_len (f := eWs) (b := 3) (rs := rs.take i) fun r _ => Nat.le_refl _
        rw [List.length_take] at l5
        have l6 := l5
        rw [List.length_flatMap, List.map_take] at l6
        have l8 : (eWs r).length = 3 := rfl
        walk_at "s"
        refine ⟨_, _, rfl, ?_⟩
        rw [take_flat hr2]
        have e9 : (13 :: (rs.length : Int) :: ((rs.take i).flatMap eWs ++ eWs r)).map V.int = (13 :: (rs.length : Int) :: (rs.take i).flatMap eWs).map V.int ++ (eWs r).map V.int := by simp
        rw [e9]
        exact Own.skipP ‹Own a c B1 _ _› (by walk_at "p")
    · rintro σ H6 ⟨wl, x7, rfl, O⟩
      rw [hpl, List.take_length] at O
      walk_at "s"
      rename_i O
      obtain ⟨B2, s2, ht, O⟩ := O.freeze
      obtain ⟨B3, s3, hi, O⟩ := O.freeze
      obtain ⟨B4, s4, hw, O⟩ := O.freeze
      have s34 := Same.trans s3 s4
      exact kk _ B4 _ _ _ (.either rs) (Same.trans s (Same.trans s1 (Same.trans s2 s34))) O (s34 _ _ ht) (.tup (s4 _ _ hi) (.cons (.str _) (.cons (.lst (s34 _ _ (s2 _ _ hD1)) (DtAll.mono (Same.trans s2 s34) dt)) .nil))) hw (show rs.length ≤ 4 by omega)
  walk_at "s"
  refine i_d2 (fun hx3 => ?_) (fun hx3 => ?_)
  · have e := nms_get o1 (j := 14) rfl hx3
    subst e
    subst hx3
    walk_at "s"
    rename_i r H4 g0 g1 O
    obtain ⟨n, rfl⟩ : ∃ j : Nat, r = (j : Int) := ⟨r.toNat, by omega⟩
    walk_at "s"
    refine ⟨by omega, by omega, fun D hD => ?_⟩
    refine i_lcR n rfl (fun i H' => ∃ B' ps rs, Same B B' ∧ rs.length = i ∧ (∀ r ∈ rs, r.2.length ≤ 4) ∧ DtAll B' ps (rs.map fRow) ∧ Own a c B' H' ((D, .lst ps) :: _)) ⟨B, [], [], Same.refl _, rfl, by simp, .nil, O.new hD⟩ ?_ ?_
    · rintro i H5 hi ⟨B', ps, rs, s, hrl, h4, dt, O⟩
      have hpl := dtLen dt
      rw [List.length_map] at hpl
      walk_at "s"
      refine ⟨a, c, B', _, rfl, O, fun H6 w1 O => ?_⟩
      walk_at "s"
      rename_i r H7 q0 q1 O
      obtain ⟨m, rfl⟩ : ∃ j : Nat, r = (j : Int) := ⟨r.toNat, by omega⟩
      refine ⟨by omega, by omega, fun D2 hD2 => ?_⟩
      refine i_lcR m rfl (fun j H' => ∃ ws : List Int, ws.length = j ∧ Own a c B' H' ((D2, .lst (ws.map V.int)) :: (D, .lst ps) :: _)) ⟨[], rfl, O.new hD2⟩ ?_ ?_
      · rintro j H8 hj ⟨ws, hwl, O⟩
        walk_at "s"
        refine ⟨a, c, B', _, rfl, O, fun H9 w2 O => ?_⟩
        refine ⟨_, O.mem (by walk_at "m"), szl (by simp; omega), ws ++ [w2], by simp [hwl], ?_⟩
        have O2 := O.set (p := D2) (o' := .lst (ws.map V.int ++ [V.int w2])) .here
        rw [List.map_append]
        exact O2
      rintro H8 ⟨ws, hwl, O⟩
      obtain ⟨B1, s1, hD3, O⟩ := O.freeze
      walk_at "s"
      rename_i t H9 O
      obtain ⟨B2, s2, ht, O⟩ := O.freeze
      have s12 := Same.trans s1 s2
      refine ⟨_, O.mem (by walk_at "m"), szl (by omega), B2, ps ++ [.ref t], rs ++ [(w1, ws)], Same.trans s s12, by rw [List.length_append, hrl]; rfl, fun r hr => ?_, ?_, O.set .here⟩
      · rcases List.mem_append.mp hr with e | e
        · exact h4 r e
        · rw [List.mem_singleton.mp e]
          show ws.length ≤ 4
          omega
      rw [List.map_append]
      exact dtSnoc (DtAll.mono s12 dt) (.tup ht (.cons (.int _) (.cons (.lst (s2 _ _ hD3) (DtAll.ints _)) .nil)))
    rintro H5 ⟨B', ps, rs, s, hrl, h4, dt, O⟩
    have hpl := dtLen dt
    rw [List.length_map] at hpl
    obtain ⟨B1, s1, hD1, O⟩ := O.freeze
    have dt := DtAll.mono s1 dt
    have O := Own.skipP (l0 := ls) O (by walk_at "p")
    walk_at "s"
    rename_i O
    rw [hpl] at O
    refine i_forL ps (fun i σ H' => ∃ wl x8 x9, σ = [some (.ref a), some (.int ((14 : Nat) : Int)), some (.str "fork"), some (.ref wl), none, none, some (.ref D), none, x8, x9, none, none, none] ∧ Own a c B1 H' ((wl, .lst ((14 :: (rs.length : Int) :: (rs.take i).flatMap fWs).map V.int)) :: ls)) ⟨_, none, none, rfl, O⟩ (fun i σ H' ⟨_, _, _, _, O⟩ => SqL.of (O.kp hD1)) ?_ ?_
    · rintro i v σ H6 hv ⟨wl, x8, x9, rfl, O⟩
      obtain ⟨d, hd, dv⟩ := dtGet2 dt hv
      obtain ⟨r, hr2, rfl⟩ := mapGet hd
      cases dv with
      | tup ht dt2 =>
        cases dt2 with
        | cons e1 e2 =>
          cases e1
          cases e2 with
          | cons e3 e4 =>
            cases e4
            cases e3 with
            | lst hw dw =>
              have e := dtInts dw
              subst e
              have l7 := h4 r (List.mem_of_getElem? hr2)
              have l5 := flat_len (f := fWs) (b := 6) (rs := rs.take i) fun r hr => by
                have := h4 r (List.mem_of_mem_take hr)
                show r.2.length + 1 + 1 ≤ 6
                omega
              rw [List.length_take] at l5
              have l6 := l5
              rw [List.length_flatMap, List.map_take] at l6
              walk_at "s"
              refine ⟨_, _, _, rfl, ?_⟩
              rw [take_flat hr2]
              have e9 : (14 :: (rs.length : Int) :: ((rs.take i).flatMap fWs ++ fWs r)).map V.int = (14 :: (rs.length : Int) :: (rs.take i).flatMap fWs).map V.int ++ [V.int r.1, V.int ((r.2.map V.int).length : Nat)] ++ r.2.map V.int := by simp [fWs]
              rw [e9]
              exact Own.skipP ‹Own a c B1 _ _› (by walk_at "p")
    · rintro σ H6 ⟨wl, x8, x9, rfl, O⟩
      rw [hpl, List.take_length] at O
      walk_at "s"
      rename_i O
      obtain ⟨B2, s2, ht, O⟩ := O.freeze
      obtain ⟨B3, s3, hi, O⟩ := O.freeze
      obtain ⟨B4, s4, hw, O⟩ := O.freeze
      have s34 := Same.trans s3 s4
      exact kk _ B4 _ _ _ (.fork rs) (Same.trans s (Same.trans s1 (Same.trans s2 s34))) O (s34 _ _ ht) (.tup (s4 _ _ hi) (.cons (.str _) (.cons (.lst (s34 _ _ (s2 _ _ hD1)) (DtAll.mono (Same.trans s2 s34) dt)) .nil))) hw ⟨show rs.length ≤ 3 by omega, h4⟩
  have n8 : k ≠ 8 := fun e => by
    subst e
    cases o1
    exact hx rfl
  have n13 : k ≠ 13 := fun e => by
    subst e
    cases o1
    exact hx2 rfl
  have n14 : k ≠ 14 := fun e => by
    subst e
    cases o1
    exact hx3 rfl
  have o3 : szs[k]? = some (szs[k]'(by show k < 17; omega)) := List.getElem?_eq_getElem _
  generalize (szs[k]'(by show k < 17; omega)) = n at o3
  have hmany := many_of o1 o3 n8 n13 n14
  have l2 := szs_le o3
  walk_at "s"
  cases b1 : inV (V.str x) [V.str "neg", V.str "not", V.str "end", V.str "stop"] with
  | true =>
    rw [b1, if_pos rfl] at hmany
    walk_at "s"
    refine ⟨by omega, by omega, fun D hD => ?_⟩
    refine i_lcR n (by omega) (fun i H' => ∃ ws : List Int, ws.length = i ∧ Own a c B H' ((D, .lst (ws.map V.int)) :: _)) ⟨[], rfl, Own.new ‹Own a c B _ _› hD⟩ ?_ ?_
    · rintro i H5 hi ⟨ws, hwl, O⟩
      walk_at "s"
      refine ⟨a, c, B, _, rfl, O, fun H6 w1 O => ?_⟩
      refine ⟨_, O.mem (by walk_at "m"), szl (by simp; omega), ws ++ [w1], by simp [hwl], ?_⟩
      have O2 := O.set (p := D) (o' := .lst (ws.map V.int ++ [V.int w1])) .here
      rw [List.map_append]
      exact O2
    rintro H5 ⟨ws, hwl, O⟩
    walk_at "s"
    rename_i O
    obtain ⟨B1, s1, ht, O⟩ := O.freeze
    obtain ⟨B2, s2, hw, O⟩ := O.freeze
    obtain ⟨B3, s3, hi, O⟩ := O.freeze
    have s23 := Same.trans s2 s3
    exact kk _ B3 _ _ _ (.plain k x n ws) (Same.trans s1 s23) (O.dropP (by walk_at "p")) (s23 _ _ ht) (.tup hi (.cons (.str _) (DtAll.ints ws))) (s3 _ _ hw) ⟨o1, o3, n8, n13, n14, hwl⟩
  | false =>
    rw [b1, if_neg (by decide)] at hmany
    walk_at "s"
    cases b2 : inV (V.str x) [V.str "loadx", V.str "storex"] with
    | true =>
      rw [b2, if_pos rfl] at hmany
      walk_at "s"
      refine ⟨by omega, by omega, fun D hD => ?_⟩
      refine i_lcR n (by omega) (fun i H' => ∃ ws : List Int, ws.length = i ∧ Own a c B H' ((D, .lst (ws.map V.int)) :: _)) ⟨[], rfl, Own.new ‹Own a c B _ _› hD⟩ ?_ ?_
      · rintro i H5 hi ⟨ws, hwl, O⟩
        walk_at "s"
        refine ⟨a, c, B, _, rfl, O, fun H6 w1 O => ?_⟩
        refine ⟨_, O.mem (by walk_at "m"), szl (by simp; omega), ws ++ [w1], by simp [hwl], ?_⟩
        have O2 := O.set (p := D) (o' := .lst (ws.map V.int ++ [V.int w1])) .here
        rw [List.map_append]
        exact O2
      rintro H5 ⟨ws, hwl, O⟩
      walk_at "s"
      rename_i O
      obtain ⟨B1, s1, ht, O⟩ := O.freeze
      obtain ⟨B2, s2, hw, O⟩ := O.freeze
      obtain ⟨B3, s3, hi, O⟩ := O.freeze
      have s23 := Same.trans s2 s3
      exact kk _ B3 _ _ _ (.plain k x n ws) (Same.trans s1 s23) (O.dropP (by walk_at "p")) (s23 _ _ ht) (.tup hi (.cons (.str _) (DtAll.ints ws))) (s3 _ _ hw) ⟨o1, o3, n8, n13, n14, hwl⟩
    | false =>
      rw [b2, if_neg (by decide)] at hmany
      walk_at "s"
      refine ⟨by omega, by omega, fun D hD => ?_⟩
      refine i_lcR n (by omega) (fun i H' => ∃ ws : List Int, ws.length = i ∧ Own a c B H' ((D, .lst (ws.map V.int)) :: _)) ⟨[], rfl, Own.new ‹Own a c B _ _› hD⟩ ?_ ?_
      · rintro i H5 hi ⟨ws, hwl, O⟩
        walk_at "s"
        refine ⟨a, c, B, _, rfl, O, fun H6 w1 O => ?_⟩
        refine ⟨_, O.mem (by walk_at "m"), szl (by simp; omega), ws ++ [w1], by simp [hwl], ?_⟩
        have O2 := O.set (p := D) (o' := .lst (ws.map V.int ++ [V.int w1])) .here
        rw [List.map_append]
        exact O2
      rintro H5 ⟨ws, hwl, O⟩
      walk_at "s"
      rename_i O
      obtain ⟨B1, s1, ht, O⟩ := O.freeze
      obtain ⟨B2, s2, hw, O⟩ := O.freeze
      obtain ⟨B3, s3, hi, O⟩ := O.freeze
      have s23 := Same.trans s2 s3
      exact kk _ B3 _ _ _ (.plain k x n ws) (Same.trans s1 s23) (O.dropP (by walk_at "p")) (s23 _ _ ht) (.tup hi (.cons (.str _) (DtAll.ints ws))) (s3 _ _ hw) ⟨o1, o3, n8, n13, n14, hwl⟩
end K38
set_option Elab.async false
set_option linter.all false
set_option maxRecDepth 100000
set_option maxHeartbeats 4000000
namespace K38
open PySem PySem.Spec PyProof.Rows L2 Lb
def top (i : Nat) : Stmt := PySem.Challenge.pw_placedanyhow_k38_instructions_come_back.main.body.getD i (.Pass ⟨0, 0, 0, 0⟩)
structure Tx (K : PySem.W.Frag) (mg : Str → Option Value) (A : Ad) : Prop where
  k : A.K = K
  b_abs : mg "abs" = none
  b_int : mg "int" = none
  b_isinstance : mg "isinstance" = none
  b_len : mg "len" = none
  b_list : mg "list" = none
  b_range : mg "range" = none
  b_tuple : mg "tuple" = none
  g_NAMES : GV mg "NAMES" (.ref A.a_NAMES)
  g_SIZES : GV mg "SIZES" (.ref A.a_SIZES)
  g_OPERATORS : GV mg "OPERATORS" (.ref A.a_OPERATORS)
section
variable {P : Program} {w : World} {K : PySem.W.Frag} {mg : Str → Option Value} {base : Heap}
abbrev s_encode : Stmt := top 7
theorem sc_encode : FnScope ["instruction", "kind", "found", "row", "number", "takes"] ["instruction"] (defScope s_encode) := ⟨rfl, rfl, rfl, by decide +kernel, rfl, by decide +kernel, by decide +kernel⟩
set_option maxHeartbeats 4000000 in
theorem ok_encode {A : Ad} (T : Tx K mg A) {f : Addr} {fd : FuncData} (F : FunD K "encode" "encode" (defArgs s_encode) (defBody s_encode) (defScope s_encode) [] [] f fd) : FnOk P w K mg base CX0 (1) f fd ["instruction"] (sp_encode A) := by
  obtain rfl := T.k
  refine F.ok sc_encode (fun vs H Q E h => len_encode A h) (fun cdv Ar outer s H vs Q E hr h => ⟨t_encode A, PSs.nox ?_, pure_encode A vs H Q E h⟩)
  exact (pss_cons (ps_set (i := 1) sc_encode.nd rfl (Or.inl rfl) (pe_ix ix_A (pv 0) pe_int (fun _ _ => rfl))) (pss_cons (ps_set (i := 2) sc_encode.nd rfl (Or.inl rfl) (pe_lst (pa_cons (pe_bm PySem.F.plainAttrs_tuple PySem.F.slot_tuple_index PySem.F.type_tuple_index mt_tixA (pe_gv T.g_NAMES (by rfl)) (pa_cons (pv 1) pa_nil)) pa_nil))) (pss_cons (ps_if (pt_cmpR (op_eqA hr.units) (pv 1) pe_str (nomark _)) (pss_one (ps_ret (pe_op op_addA (pv 2) (pe_lst (pa_cons (pe_bm PySem.F.plainAttrs_tuple PySem.F.slot_tuple_index PySem.F.type_tuple_index mt_tixA (pe_gv T.g_OPERATORS (by rfl)) (pa_cons (pe_ix ix_A (pv 0) pe_int (fun _ _ => rfl)) pa_nil)) pa_nil))))) pss_nil) (pss_cons (ps_if (pt_cmpR (op_eqA hr.units) (pv 1) pe_str (nomark _)) (pss_cons (ps_expr (pe_bml PySem.F.slot_list_append PySem.F.type_list_append mt_appA (pv 2) (pa_cons (pe_callB call_lenA (by rfl) T.b_len (by decide +kernel) (pa_cons (pe_ix ix_A (pv 0) pe_int (fun _ _ => rfl)) pa_nil)) pa_nil))) (pss_cons (ps_for PassesOwn.never rfl (pi_list (pe_ix ix_A (pv 0) pe_int (fun _ _ => rfl))) (pg_name (i := 3) sc_encode.nd rfl (Or.inl rfl)) (pss_one (ps_expr (pe_bml PySem.F.slot_list_extend PySem.F.type_list_extend mt_extT (pv 2) (pa_cons (pv 3) pa_nil))))) (pss_one (ps_ret (pv 2))))) pss_nil) (pss_cons (ps_if (pt_cmpR (op_eqA hr.units) (pv 1) pe_str (nomark _)) (pss_cons (ps_expr (pe_bml PySem.F.slot_list_append PySem.F.type_list_append mt_appA (pv 2) (pa_cons (pe_callB call_lenA (by rfl) T.b_len (by decide +kernel) (pa_cons (pe_ix ix_A (pv 0) pe_int (fun _ _ => rfl)) pa_nil)) pa_nil))) (pss_cons (ps_for PassesOwn.never rfl (pi_list (pe_ix ix_A (pv 0) pe_int (fun _ _ => rfl))) (pg_tup rfl (pgs_cons (pg_name (i := 4) sc_encode.nd rfl (Or.inl rfl)) (pgs_cons (pg_name (i := 5) sc_encode.nd rfl (Or.inl rfl)) pgs_nil))) (pss_one (ps_expr (pe_bml PySem.F.slot_list_extend PySem.F.type_list_extend mt_extA (pv 2) (pa_cons (pe_op op_addA (pe_lst (pa_cons (pv 4) (pa_cons (pe_callB call_lenA (by rfl) T.b_len (by decide +kernel) (pa_cons (pv 5) pa_nil)) pa_nil))) (pv 5)) pa_nil))))) (pss_one (ps_ret (pv 2))))) pss_nil) (pss_one (ps_ret (pe_op op_addA (pv 2) (pe_callTy call_listA (by rfl) T.b_list (by decide +kernel) (pa_cons (pe_slice sl_A (pv 0) (po_some pe_int) po_none) pa_nil))))))))))
abbrev s_Reader_init : Stmt := inClass (top 8) 0
theorem sc_Reader_init : FnScope ["self", "words"] ["self", "words"] (defScope s_Reader_init) := ⟨rfl, rfl, rfl, by decide +kernel, rfl, by decide +kernel, by decide +kernel⟩
set_option maxHeartbeats 4000000 in
theorem ok_Reader_init {A : Ad} (T : Tx K mg A) {f : Addr} {fd : FuncData} (F : FunD K "__init__" "Reader.__init__" (defArgs s_Reader_init) (defBody s_Reader_init) (defScope s_Reader_init) [] [] f fd) : FnOk P w K mg base CX0 (1) f fd ["self", "words"] (sp_Reader_init A) := by
  obtain rfl := T.k
  refine F.ok sc_Reader_init (fun vs H Q E h => len_Reader_init A h) (fun cdv Ar outer s H vs Q E hr h => ⟨t_Reader_init A, PSs.nox ?_, pure_Reader_init A vs H Q E h⟩)
  exact (pss_cons (ps_fld (pv 0) (pv 1) rfl) (pss_one (ps_fld (pv 0) pe_int rfl)))
abbrev s_Reader_word : Stmt := inClass (top 8) 1
theorem sc_Reader_word : FnScope ["self"] ["self"] (defScope s_Reader_word) := ⟨rfl, rfl, rfl, by decide +kernel, rfl, by decide +kernel, by decide +kernel⟩
set_option maxHeartbeats 4000000 in
theorem ok_Reader_word {A : Ad} (T : Tx K mg A) {f : Addr} {fd : FuncData} (F : FunD K "word" "Reader.word" (defArgs s_Reader_word) (defBody s_Reader_word) (defScope s_Reader_word) [] [] f fd) : FnOk P w K mg base CX0 (1) f fd ["self"] (sp_word A) := by
  obtain rfl := T.k
  refine F.ok sc_Reader_word (fun vs H Q E h => len_Reader_word A h) (fun cdv Ar outer s H vs Q E hr h => ⟨t_Reader_word A, PSs.nox ?_, pure_Reader_word A vs H Q E h⟩)
  exact (pss_cons (ps_if (pt_cmpR op_ge (pe_fld (pv 0) rfl) (pe_callB call_lenA (by rfl) T.b_len (by decide +kernel) (pa_cons (pe_fld (pv 0) rfl) pa_nil)) (nomark _)) (pss_one ps_never) pss_nil) (pss_cons (ps_fld (pv 0) (pe_op op_addA (pe_fld (pv 0) rfl) pe_int) rfl) (pss_one (ps_ret (pe_ix ix_A (pe_fld (pv 0) rfl) (pe_op op_sub (pe_fld (pv 0) rfl) pe_int) (fun _ _ => rfl))))))
abbrev s_Reader_row : Stmt := inClass (top 8) 2
theorem sc_Reader_row : FnScope ["self", "many", "_"] ["self", "many"] (defScope s_Reader_row) := ⟨rfl, rfl, rfl, by decide +kernel, rfl, by decide +kernel, by decide +kernel⟩
set_option maxHeartbeats 4000000 in
theorem ok_Reader_row {A : Ad} (T : Tx K mg A) {f : Addr} {fd : FuncData} (F : FunD K "row" "Reader.row" (defArgs s_Reader_row) (defBody s_Reader_row) (defScope s_Reader_row) [] [] f fd)
    (c_Reader_word : CalM P w K mg base A.c_Reader "word" (1) ["self"] (sp_word A)) : FnOk P w K mg base CX0 (2) f fd ["self", "many"] (sp_row A) := by
  obtain rfl := T.k
  refine F.ok sc_Reader_row (fun vs H Q E h => len_Reader_row A h) (fun cdv Ar outer s H vs Q E hr h => ⟨t_Reader_row A, PSs.nox ?_, pure_Reader_row A vs H Q E h⟩)
  exact (pss_one (ps_ret (pe_lc (own := [("_", 2)]) rfl sc_Reader_row.nd (pi_range1 (by rfl) T.b_range (pa_cons (pv 1) pa_nil)) (blkOk_by (own := [("_", 2)]) (N := ["self", "many", "_"]) (sc := defScope s_Reader_row) (by decide +kernel)) (fun _ _ _ _ _ => (pg_name (i := 2) sc_Reader_row.nd rfl (Or.inl rfl))) (fun _ _ _ _ _ => pts_nil) (fun _ _ _ _ _ => (pe_calM0 (pv 0) c_Reader_word (hr.mono (by omega)))))))
abbrev s_read_instruction : Stmt := top 9
theorem sc_read_instruction : FnScope ["reader", "start", "opcode", "kind", "operator", "_"] ["reader"] (defScope s_read_instruction) := ⟨rfl, rfl, rfl, by decide +kernel, rfl, by decide +kernel, by decide +kernel⟩
set_option maxHeartbeats 4000000 in
theorem ok_read_instruction {A : Ad} (T : Tx K mg A) {f : Addr} {fd : FuncData} (F : FunD K "read_instruction" "read_instruction" (defArgs s_read_instruction) (defBody s_read_instruction) (defScope s_read_instruction) [] [] f fd)
    (c_Reader_word : CalM P w K mg base A.c_Reader "word" (1) ["self"] (sp_word A))
    (c_Reader_row : CalM P w K mg base A.c_Reader "row" (2) ["self", "many"] (sp_row A)) : FnOk P w K mg base CX0 (3) f fd ["reader"] (sp_read A) := by
  obtain rfl := T.k
  refine F.ok sc_read_instruction (fun vs H Q E h => len_read_instruction A h) (fun cdv Ar outer s H vs Q E hr h => ⟨t_read_instruction A, PSs.nox ?_, pure_read_instruction A vs H Q E h⟩)
  exact (pss_cons (ps_set (i := 1) sc_read_instruction.nd rfl (Or.inl rfl) (pe_fld (pv 0) rfl)) (pss_cons (ps_set (i := 2) sc_read_instruction.nd rfl (Or.inl rfl) (pe_calM0 (pv 0) c_Reader_word (hr.mono (by omega)))) (pss_cons (ps_if (pt_cmpR op_ge (pv 2) (pe_callB call_lenK (by rfl) T.b_len (by decide +kernel) (pa_cons (pe_gv T.g_NAMES (by rfl)) pa_nil)) (nomark _)) (pss_one ps_never) pss_nil) (pss_cons (ps_set (i := 3) sc_read_instruction.nd rfl (Or.inl rfl) (pe_ix ix_tup (pe_gv T.g_NAMES (by rfl)) (pv 2) (fun _ _ => rfl))) (pss_cons (ps_if (pt_cmpR (op_eqA hr.units) (pv 3) pe_str (nomark _)) (pss_cons (ps_set (i := 4) sc_read_instruction.nd rfl (Or.inl rfl) (pe_calM0 (pv 0) c_Reader_word (hr.mono (by omega)))) (pss_cons (ps_if (pt_cmpR op_ge (pv 4) (pe_callB call_lenK (by rfl) T.b_len (by decide +kernel) (pa_cons (pe_gv T.g_OPERATORS (by rfl)) pa_nil)) (nomark _)) (pss_one ps_never) pss_nil) (pss_one (ps_ret (pe_tup (pa_cons (pv 3) (pa_cons (pe_ix ix_tup (pe_gv T.g_OPERATORS (by rfl)) (pv 4) (fun _ _ => rfl)) pa_nil))))))) pss_nil) (pss_cons (ps_if (pt_cmpR (op_eqA hr.units) (pv 3) pe_str (nomark _)) (pss_one (ps_ret (pe_tup (pa_cons (pv 3) (pa_cons (pe_lc (own := [("_", 5)]) rfl sc_read_instruction.nd (pi_range1 (by rfl) T.b_range (pa_cons (pe_calM0 (pv 0) c_Reader_word (hr.mono (by omega))) pa_nil)) (blkOk_by (own := [("_", 5)]) (N := ["reader", "start", "opcode", "kind", "operator", "_"]) (sc := defScope s_read_instruction) (by decide +kernel)) (fun _ _ _ _ _ => (pg_name (i := 5) sc_read_instruction.nd rfl (Or.inl rfl))) (fun _ _ _ _ _ => pts_nil) (fun _ _ _ _ _ => (pe_callTy call_tupA (by rfl) T.b_tuple (by decide +kernel) (pa_cons (pe_calM (pv 0) c_Reader_row (hr.mono (by omega)) (pa_cons pe_int pa_nil)) pa_nil)))) pa_nil))))) pss_nil) (pss_cons (ps_if (pt_cmpR (op_eqA hr.units) (pv 3) pe_str (nomark _)) (pss_one (ps_ret (pe_tup (pa_cons (pv 3) (pa_cons (pe_lc (own := [("_", 5)]) rfl sc_read_instruction.nd (pi_range1 (by rfl) T.b_range (pa_cons (pe_calM0 (pv 0) c_Reader_word (hr.mono (by omega))) pa_nil)) (blkOk_by (own := [("_", 5)]) (N := ["reader", "start", "opcode", "kind", "operator", "_"]) (sc := defScope s_read_instruction) (by decide +kernel)) (fun _ _ _ _ _ => (pg_name (i := 5) sc_read_instruction.nd rfl (Or.inl rfl))) (fun _ _ _ _ _ => pts_nil) (fun _ _ _ _ _ => (pe_tup (pa_cons (pe_calM0 (pv 0) c_Reader_word (hr.mono (by omega))) (pa_cons (pe_calM (pv 0) c_Reader_row (hr.mono (by omega)) (pa_cons (pe_calM0 (pv 0) c_Reader_word (hr.mono (by omega))) pa_nil)) pa_nil))))) pa_nil))))) pss_nil) (pss_one (ps_ret (pe_callTy call_tupA (by rfl) T.b_tuple (by decide +kernel) (pa_cons (pe_op op_addA (pe_lst (pa_cons (pv 3) pa_nil)) (pe_calM (pv 0) c_Reader_row (hr.mono (by omega)) (pa_cons (pe_ix ix_tup (pe_gv T.g_SIZES (by rfl)) (pv 2) (fun _ _ => rfl)) pa_nil))) pa_nil)))))))))))
abbrev s_decode : Stmt := top 10
theorem sc_decode : FnScope ["words", "reader", "found"] ["words"] (defScope s_decode) := ⟨rfl, rfl, rfl, by decide +kernel, rfl, by decide +kernel, by decide +kernel⟩
set_option maxHeartbeats 4000000 in
theorem ok_decode {A : Ad} (T : Tx K mg A) {f : Addr} {fd : FuncData} (F : FunD K "decode" "decode" (defArgs s_decode) (defBody s_decode) (defScope s_decode) [] [] f fd)
    (c_Reader_init : CalC P w K mg base "Reader" A.c_Reader (1) ["self", "words"] (sp_Reader_init A))
    (c_read_instruction : Cal P w K mg base "read_instruction" (3) ["reader"] (sp_read A)) : FnOk P w K mg base CX0 (4) f fd ["words"] (sp_decode A) := by
  obtain rfl := T.k
  refine F.ok sc_decode (fun vs H Q E h => len_decode A h) (fun cdv Ar outer s H vs Q E hr h => ⟨t_decode A, PSs.nox ?_, pure_decode A vs H Q E h⟩)
  exact (pss_cons (ps_set (i := 1) sc_decode.nd rfl (Or.inl rfl) (pe_calC c_Reader_init (hr.mono (by omega)) (by rfl) (pa_cons (pv 0) pa_nil))) (pss_cons (ps_set (i := 2) sc_decode.nd rfl (Or.inl rfl) (pe_lst pa_nil)) (pss_cons (ps_while PassesOwn.never (pt_cmpR op_lt (pe_fld (pv 1) rfl) (pe_callB call_lenA (by rfl) T.b_len (by decide +kernel) (pa_cons (pv 0) pa_nil)) (nomark _)) (pss_one (ps_expr (pe_bml PySem.F.slot_list_append PySem.F.type_list_append mt_appA (pv 2) (pa_cons (pe_cal c_read_instruction (hr.mono (by omega)) (by rfl) (pa_cons (pv 1) pa_nil)) pa_nil))))) (pss_one (ps_ret (pv 2))))))
abbrev s_l_state : Stmt := top 12
theorem sc_l_state : FnScope ["_law_script", "_law_seed", "_law_cell"] ["_law_script"] (defScope s_l_state) := ⟨rfl, rfl, rfl, by decide +kernel, rfl, by decide +kernel, by decide +kernel⟩
set_option maxHeartbeats 4000000 in
theorem ok_l_state {A : Ad} (T : Tx K mg A) {f : Addr} {fd : FuncData} (F : FunD K "_law_state" "_law_state" (defArgs s_l_state) (defBody s_l_state) (defScope s_l_state) [] [] f fd) : FnOk P w K mg base CX0 (1) f fd ["_law_script"] (spState A.K) := by
  obtain rfl := T.k
  refine F.ok sc_l_state (fun vs H Q E h => len_state h) (fun cdv Ar outer s H vs Q E hr h => ⟨t_state A.K, PSs.nox ?_, pure_state A.K vs H Q E h rfl⟩)
  exact (pss_cons (ps_set (i := 1) sc_l_state.nd rfl (Or.inl rfl) pe_int) (pss_cons (ps_for PassesOwn.never rfl (pi_list (pv 0)) (pg_name (i := 2) sc_l_state.nd rfl (Or.inl rfl)) (pss_one (ps_set (i := 1) sc_l_state.nd rfl (Or.inl rfl) (pe_op op_mod (pe_callTy call_intA (by rfl) T.b_int (by decide +kernel) (pa_cons (pe_op op_addA (pe_op op_mulA (pv 1) pe_int) (pv 2)) pa_nil)) pe_int)))) (pss_one (ps_ret (pe_lst (pa_cons (pe_lc (own := [("_law_cell", 2)]) rfl sc_l_state.nd (pi_list (pv 0)) (blkOk_by (own := [("_law_cell", 2)]) (N := ["_law_script", "_law_seed", "_law_cell"]) (sc := defScope s_l_state) (by decide +kernel)) (fun _ _ _ _ _ => (pg_name (i := 2) sc_l_state.nd rfl (Or.inl rfl))) (fun _ _ _ _ _ => pts_nil) (fun _ _ _ _ _ => (pe_callB call_absA (by rfl) T.b_abs (by decide +kernel) (pa_cons (pv 2) pa_nil)))) (pa_cons (pe_op op_addA (pv 1) pe_int) pa_nil)))))))
abbrev s_l_draw : Stmt := top 13
theorem sc_l_draw : FnScope ["_law_state_here", "_law_many", "_law_cells", "_law_number", "_law_mixed"] ["_law_state_here", "_law_many"] (defScope s_l_draw) := ⟨rfl, rfl, rfl, by decide +kernel, rfl, by decide +kernel, by decide +kernel⟩
set_option maxHeartbeats 4000000 in
theorem ok_l_draw {A : Ad} (T : Tx K mg A) {f : Addr} {fd : FuncData} (F : FunD K "_law_draw" "_law_draw" (defArgs s_l_draw) (defBody s_l_draw) (defScope s_l_draw) [] [] f fd) : FnOk P w K mg base CX0 (1) f fd ["_law_state_here", "_law_many"] spDraw := by
  obtain rfl := T.k
  refine F.ok sc_l_draw (fun vs H Q E h => len_draw h) (fun cdv Ar outer s H vs Q E hr h => ⟨t_draw A.K, PSs.nox ?_, pure_draw A.K vs H Q E h rfl⟩)
  exact (pss_cons (ps_set (i := 2) sc_l_draw.nd rfl (Or.inl rfl) (pe_ix ix_A (pv 0) pe_int (fun _ _ => rfl))) (pss_cons (ps_while PassesOwn.never (PW.pt (pw_and (pt_cmpR op_gt (pe_callB call_lenA (by rfl) T.b_len (by decide +kernel) (pa_cons (pv 2) pa_nil)) pe_int (nomark _)) (pw_and1 (pt_cmpR (op_eqA hr.units) (pe_ix ix_A (pv 2) pe_int (fun _ _ => rfl)) pe_int (nomark _))))) (pss_one (ps_expr (pe_bml PySem.F.slot_list_pop PySem.F.type_list_pop mt_popI (pv 2) (pa_cons pe_int pa_nil))))) (pss_cons (ps_if (pt_cmpR op_gt (pe_callB call_lenA (by rfl) T.b_len (by decide +kernel) (pa_cons (pv 2) pa_nil)) pe_int (nomark _)) (pss_cons (ps_set (i := 3) sc_l_draw.nd rfl (Or.inl rfl) (pe_ix ix_A (pv 2) pe_int (fun _ _ => rfl))) (pss_cons (ps_asg (pe_op op_fdiv (pv 3) (pv 1)) (pg_sub (pv 2) pe_int set_A)) (pss_one (ps_ret (pe_op op_mod (pe_callTy call_intA (by rfl) T.b_int (by decide +kernel) (pa_cons (pv 3) pa_nil)) (pv 1)))))) pss_nil) (pss_cons (ps_set (i := 4) sc_l_draw.nd rfl (Or.inl rfl) (pe_op op_mod (pe_callTy call_intA (by rfl) T.b_int (by decide +kernel) (pa_cons (pe_op op_addA (pe_op op_mulA (pe_ix ix_A (pv 0) pe_int (fun _ _ => rfl)) pe_int) pe_int) pa_nil)) pe_int)) (pss_cons (ps_asg (pv 4) (pg_sub (pv 0) pe_int set_A)) (pss_one (ps_ret (pe_op op_mod (pe_callTy call_intA (by rfl) T.b_int (by decide +kernel) (pa_cons (pe_op op_fdiv (pv 4) pe_int) pa_nil)) (pv 1)))))))))
abbrev s_l_pick : Stmt := top 14
theorem sc_l_pick : FnScope ["_law_state_here", "_law_row"] ["_law_state_here", "_law_row"] (defScope s_l_pick) := ⟨rfl, rfl, rfl, by decide +kernel, rfl, by decide +kernel, by decide +kernel⟩
set_option maxHeartbeats 4000000 in
theorem ok_l_pick {A : Ad} (T : Tx K mg A) {f : Addr} {fd : FuncData} (F : FunD K "_law_pick" "_law_pick" (defArgs s_l_pick) (defBody s_l_pick) (defScope s_l_pick) [] [] f fd)
    (c_l_draw : Cal P w K mg base "_law_draw" (1) ["_law_state_here", "_law_many"] spDraw) : FnOk P w K mg base CX0 (2) f fd ["_law_state_here", "_law_row"] spPick := by
  obtain rfl := T.k
  refine F.ok sc_l_pick (fun vs H Q E h => len_pick h) (fun cdv Ar outer s H vs Q E hr h => ⟨t_pick, PSs.nox ?_, pure_pick vs H Q E h rfl⟩)
  exact (pss_one (ps_ret (pe_ix ix_A (pv 1) (pe_cal c_l_draw (hr.mono (by omega)) (by rfl) (pa_cons (pv 0) (pa_cons (pe_callB call_lenA (by rfl) T.b_len (by decide +kernel) (pa_cons (pv 1) pa_nil)) pa_nil))) (fun _ _ => rfl))))
abbrev s_l_names : Stmt := top 15
theorem sc_l_names : FnScope ["_law_text"] [] (defScope s_l_names) := ⟨rfl, rfl, rfl, by decide +kernel, rfl, by decide +kernel, by decide +kernel⟩
set_option maxHeartbeats 4000000 in
theorem ok_l_names {A : Ad} (T : Tx K mg A) {f : Addr} {fd : FuncData} (F : FunD K "_law_names" "_law_names" (defArgs s_l_names) (defBody s_l_names) (defScope s_l_names) [] [] f fd) : FnOk P w K mg base CX0 (1) f fd [] sp_l_names := by
  obtain rfl := T.k
  refine F.ok sc_l_names (fun vs H Q E h => len_l_names A h) (fun cdv Ar outer s H vs Q E hr h => ⟨t_l_names A, PSs.nox ?_, pure_l_names A vs H Q E h⟩)
  exact (pss_cons (ps_set (i := 0) sc_l_names.nd rfl (Or.inl rfl) pe_str) (pss_one (ps_ret (pe_bm PySem.F.plainAttrs_str PySem.F.slot_str_split PySem.F.type_str_split mt_splitA (pv 0) (pa_cons pe_str pa_nil)))))
abbrev s_l_word : Stmt := top 16
theorem sc_l_word : FnScope ["_law_state_here"] ["_law_state_here"] (defScope s_l_word) := ⟨rfl, rfl, rfl, by decide +kernel, rfl, by decide +kernel, by decide +kernel⟩
set_option maxHeartbeats 4000000 in
theorem ok_l_word {A : Ad} (T : Tx K mg A) {f : Addr} {fd : FuncData} (F : FunD K "_law_word" "_law_word" (defArgs s_l_word) (defBody s_l_word) (defScope s_l_word) [] [] f fd)
    (c_l_pick : Cal P w K mg base "_law_pick" (2) ["_law_state_here", "_law_row"] spPick)
    (c_l_draw : Cal P w K mg base "_law_draw" (1) ["_law_state_here", "_law_many"] spDraw) : FnOk P w K mg base CX0 (3) f fd ["_law_state_here"] sp_l_word := by
  obtain rfl := T.k
  refine F.ok sc_l_word (fun vs H Q E h => len_l_word A h) (fun cdv Ar outer s H vs Q E hr h => ⟨t_l_word A, PSs.nox ?_, pure_l_word A vs H Q E h⟩)
  exact (pss_one (ps_ret (pe_cal c_l_pick (hr.mono (by omega)) (by rfl) (pa_cons (pv 0) (pa_cons (pe_lst (pa_cons pe_int (pa_cons pe_int (pa_cons pe_int (pa_cons (pe_cal c_l_draw (hr.mono (by omega)) (by rfl) (pa_cons (pv 0) (pa_cons pe_int pa_nil))) (pa_cons (pe_cal c_l_draw (hr.mono (by omega)) (by rfl) (pa_cons (pv 0) (pa_cons pe_int pa_nil))) pa_nil)))))) pa_nil)))))
abbrev s_l_instruction : Stmt := top 17
theorem sc_l_instruction : FnScope ["_law_state_here", "_law_at", "_law_name", "_law_words", "_law_operators", "_law_k", "_law_rows", "_law_row", "_law_number", "_law_takes", "_law_many", "_law_numbers", "_law_j"] ["_law_state_here"] (defScope s_l_instruction) := ⟨rfl, rfl, rfl, by decide +kernel, rfl, by decide +kernel, by decide +kernel⟩
set_option maxHeartbeats 4000000 in
theorem ok_l_instruction {A : Ad} (T : Tx K mg A) {f : Addr} {fd : FuncData} (F : FunD K "_law_instruction" "_law_instruction" (defArgs s_l_instruction) (defBody s_l_instruction) (defScope s_l_instruction) [] [] f fd)
    (c_l_draw : Cal P w K mg base "_law_draw" (1) ["_law_state_here", "_law_many"] spDraw)
    (c_l_names : Cal P w K mg base "_law_names" (1) [] sp_l_names)
    (c_l_word : Cal P w K mg base "_law_word" (3) ["_law_state_here"] sp_l_word) : FnOk P w K mg base CX0 (4) f fd ["_law_state_here"] sp_l_instr := by
  obtain rfl := T.k
  refine F.ok sc_l_instruction (fun vs H Q E h => len_l_instruction A h) (fun cdv Ar outer s H vs Q E hr h => ⟨t_l_instruction A, PSs.nox ?_, pure_l_instruction A vs H Q E h⟩)
  exact (pss_cons (ps_set (i := 1) sc_l_instruction.nd rfl (Or.inl rfl) (pe_cal c_l_draw (hr.mono (by omega)) (by rfl) (pa_cons (pv 0) (pa_cons pe_int pa_nil)))) (pss_cons (ps_set (i := 2) sc_l_instruction.nd rfl (Or.inl rfl) (pe_ix ix_A (pe_cal0 c_l_names (hr.mono (by omega)) (by rfl)) (pv 1) (fun _ _ => rfl))) (pss_cons (ps_set (i := 3) sc_l_instruction.nd rfl (Or.inl rfl) (pe_lst (pa_cons (pv 1) pa_nil))) (pss_cons (ps_if (pt_cmpR (op_eqA hr.units) (pv 2) pe_str (nomark _)) (pss_cons (ps_set (i := 4) sc_l_instruction.nd rfl (Or.inl rfl) (pe_lst (pa_cons pe_str (pa_cons pe_str (pa_cons pe_str (pa_cons pe_str (pa_cons pe_str (pa_cons pe_str (pa_cons pe_str (pa_cons pe_str (pa_cons pe_str (pa_cons pe_str (pa_cons pe_str pa_nil))))))))))))) (pss_cons (ps_set (i := 5) sc_l_instruction.nd rfl (Or.inl rfl) (pe_cal c_l_draw (hr.mono (by omega)) (by rfl) (pa_cons (pv 0) (pa_cons pe_int pa_nil)))) (pss_one (ps_ret (pe_tup (pa_cons (pe_tup (pa_cons pe_str (pa_cons (pe_ix ix_A (pv 4) (pv 5) (fun _ _ => rfl)) pa_nil))) (pa_cons (pe_lst (pa_cons pe_int (pa_cons (pv 5) pa_nil))) pa_nil))))))) pss_nil) (pss_cons (ps_if (pt_cmpR (op_eqA hr.units) (pv 2) pe_str (nomark _)) (pss_cons (ps_setLc (i := 6) (own := [("_law_k", 5)]) rfl sc_l_instruction.nd rfl rfl (sw_true rfl rfl rfl (by decide +kernel)) (pi_range1 (by rfl) T.b_range (pa_cons (pe_cal c_l_draw (hr.mono (by omega)) (by rfl) (pa_cons (pv 0) (pa_cons pe_int pa_nil))) pa_nil)) (blkOk_by (own := [("_law_k", 5)]) (N := ["_law_state_here", "_law_at", "_law_name", "_law_words", "_law_operators", "_law_k", "_law_rows", "_law_row", "_law_number", "_law_takes", "_law_many", "_law_numbers", "_law_j"]) (sc := defScope s_l_instruction) (by decide +kernel)) (fun _ _ _ _ _ => (pg_name (i := 5) sc_l_instruction.nd rfl (Or.inl rfl))) (fun _ _ _ _ _ => pts_nil) (fun _ _ _ _ _ => (pe_tup (pa_cons (pe_cal c_l_word (hr.mono (by omega)) (by rfl) (pa_cons (pv 0) pa_nil)) (pa_cons (pe_cal c_l_word (hr.mono (by omega)) (by rfl) (pa_cons (pv 0) pa_nil)) (pa_cons (pe_cal c_l_word (hr.mono (by omega)) (by rfl) (pa_cons (pv 0) pa_nil)) pa_nil)))))) (pss_cons (ps_expr (pe_bml PySem.F.slot_list_append PySem.F.type_list_append mt_appA (pv 3) (pa_cons (pe_callB call_lenA (by rfl) T.b_len (by decide +kernel) (pa_cons (pv 6) pa_nil)) pa_nil))) (pss_cons (ps_for PassesOwn.never rfl (pi_list (pv 6)) (pg_name (i := 7) sc_l_instruction.nd rfl (Or.inl rfl)) (pss_one (ps_set (i := 3) sc_l_instruction.nd rfl (Or.inl rfl) (pe_op op_addA (pv 3) (pe_callTy call_listA (by rfl) T.b_list (by decide +kernel) (pa_cons (pv 7) pa_nil)))))) (pss_one (ps_ret (pe_tup (pa_cons (pe_tup (pa_cons pe_str (pa_cons (pv 6) pa_nil))) (pa_cons (pv 3) pa_nil)))))))) pss_nil) (pss_cons (ps_if (pt_cmpR (op_eqA hr.units) (pv 2) pe_str (nomark _)) (pss_cons (ps_setLc (i := 6) (own := [("_law_k", 5)]) rfl sc_l_instruction.nd rfl rfl (sw_true rfl rfl rfl (by decide +kernel)) (pi_range1 (by rfl) T.b_range (pa_cons (pe_cal c_l_draw (hr.mono (by omega)) (by rfl) (pa_cons (pv 0) (pa_cons pe_int pa_nil))) pa_nil)) (blkOk_by (own := [("_law_k", 5)]) (N := ["_law_state_here", "_law_at", "_law_name", "_law_words", "_law_operators", "_law_k", "_law_rows", "_law_row", "_law_number", "_law_takes", "_law_many", "_law_numbers", "_law_j"]) (sc := defScope s_l_instruction) (by decide +kernel)) (fun _ _ _ _ _ => (pg_name (i := 5) sc_l_instruction.nd rfl (Or.inl rfl))) (fun _ _ _ _ _ => pts_nil) (fun _ _ _ _ _ => (pe_tup (pa_cons (pe_cal c_l_word (hr.mono (by omega)) (by rfl) (pa_cons (pv 0) pa_nil)) (pa_cons (pe_lc (own := [("_law_j", 12)]) rfl sc_l_instruction.nd (pi_range1 (by rfl) T.b_range (pa_cons (pe_cal c_l_draw (hr.mono (by omega)) (by rfl) (pa_cons (pv 0) (pa_cons pe_int pa_nil))) pa_nil)) (blkOk_in (own := [("_law_j", 12)]) (N := ["_law_state_here", "_law_at", "_law_name", "_law_words", "_law_operators", "_law_k", "_law_rows", "_law_row", "_law_number", "_law_takes", "_law_many", "_law_numbers", "_law_j"]) (by decide +kernel)) (fun _ _ _ _ _ => (pg_name (i := 12) sc_l_instruction.nd rfl (Or.inl rfl))) (fun _ _ _ _ _ => pts_nil) (fun _ _ _ _ _ => (pe_cal c_l_word (hr.mono (by omega)) (by rfl) (pa_cons (pv 0) pa_nil)))) pa_nil))))) (pss_cons (ps_expr (pe_bml PySem.F.slot_list_append PySem.F.type_list_append mt_appA (pv 3) (pa_cons (pe_callB call_lenA (by rfl) T.b_len (by decide +kernel) (pa_cons (pv 6) pa_nil)) pa_nil))) (pss_cons (ps_for PassesOwn.never rfl (pi_list (pv 6)) (pg_tup rfl (pgs_cons (pg_name (i := 8) sc_l_instruction.nd rfl (Or.inl rfl)) (pgs_cons (pg_name (i := 9) sc_l_instruction.nd rfl (Or.inl rfl)) pgs_nil))) (pss_one (ps_set (i := 3) sc_l_instruction.nd rfl (Or.inl rfl) (pe_op op_addA (pe_op op_addA (pv 3) (pe_lst (pa_cons (pv 8) (pa_cons (pe_callB call_lenA (by rfl) T.b_len (by decide +kernel) (pa_cons (pv 9) pa_nil)) pa_nil)))) (pv 9))))) (pss_one (ps_ret (pe_tup (pa_cons (pe_tup (pa_cons pe_str (pa_cons (pv 6) pa_nil))) (pa_cons (pv 3) pa_nil)))))))) pss_nil) (pss_cons (ps_set (i := 10) sc_l_instruction.nd rfl (Or.inl rfl) (pe_ifExp (pt_cmpR op_in_seq (pv 2) (pe_tup (pa_cons pe_str (pa_cons pe_str (pa_cons pe_str (pa_cons pe_str pa_nil))))) (by rfl)) pe_int (pe_ifExp (pt_cmpR op_in_seq (pv 2) (pe_tup (pa_cons pe_str (pa_cons pe_str pa_nil))) (by rfl)) pe_int pe_int))) (pss_cons (ps_setLc (i := 11) (own := [("_law_k", 5)]) rfl sc_l_instruction.nd rfl rfl (sw_true rfl rfl rfl (by decide +kernel)) (pi_range1 (by rfl) T.b_range (pa_cons (pv 10) pa_nil)) (blkOk_by (own := [("_law_k", 5)]) (N := ["_law_state_here", "_law_at", "_law_name", "_law_words", "_law_operators", "_law_k", "_law_rows", "_law_row", "_law_number", "_law_takes", "_law_many", "_law_numbers", "_law_j"]) (sc := defScope s_l_instruction) (by decide +kernel)) (fun _ _ _ _ _ => (pg_name (i := 5) sc_l_instruction.nd rfl (Or.inl rfl))) (fun _ _ _ _ _ => pts_nil) (fun _ _ _ _ _ => (pe_cal c_l_word (hr.mono (by omega)) (by rfl) (pa_cons (pv 0) pa_nil)))) (pss_one (ps_ret (pe_tup (pa_cons (pe_callTy call_tupA (by rfl) T.b_tuple (by decide +kernel) (pa_cons (pe_op op_addA (pe_lst (pa_cons (pv 2) pa_nil)) (pv 11)) pa_nil)) (pa_cons (pe_op op_addA (pv 3) (pv 11)) pa_nil)))))))))))))
abbrev s_law : Stmt := top 18
theorem sc_law : FnScope ["_law_script", "_law_state_here", "_law_code", "_law_words", "_law_k", "_law_instruction_here", "_law_due", "_law_told", "_law_given", "_law_found"] ["_law_script"] (defScope s_law) := ⟨rfl, rfl, rfl, by decide +kernel, rfl, by decide +kernel, by decide +kernel⟩
set_option maxHeartbeats 4000000 in
theorem ok_law {A : Ad} (T : Tx K mg A) {f : Addr} {fd : FuncData} (F : FunD K "law" "law" (defArgs s_law) (defBody s_law) (defScope s_law) [] [] f fd)
    (c_l_state : Cal P w K mg base "_law_state" (1) ["_law_script"] (spState A.K))
    (c_l_draw : Cal P w K mg base "_law_draw" (1) ["_law_state_here", "_law_many"] spDraw)
    (c_l_instruction : Cal P w K mg base "_law_instruction" (4) ["_law_state_here"] sp_l_instr)
    (c_encode : Cal P w K mg base "encode" (1) ["instruction"] (sp_encode A))
    (c_decode : Cal P w K mg base "decode" (4) ["words"] (sp_decode A)) : FnOk P w K mg base CX0 (10) f fd ["_law_script"] (sp_law A) := by
  obtain rfl := T.k
  refine F.ok sc_law (fun vs H Q E h => len_law A h) (fun cdv Ar outer s H vs Q E hr h => ⟨t_law A, PSs.nox ?_, pure_law A vs H Q E h⟩)
  exact (pss_cons (ps_set (i := 1) sc_law.nd rfl (Or.inl rfl) (pe_cal c_l_state (hr.mono (by omega)) (by rfl) (pa_cons (pv 0) pa_nil))) (pss_cons (ps_set (i := 2) sc_law.nd rfl (Or.inl rfl) (pe_lst pa_nil)) (pss_cons (ps_set (i := 3) sc_law.nd rfl (Or.inl rfl) (pe_lst pa_nil)) (pss_cons (ps_for PassesOwn.never rfl (pi_range1 (by rfl) T.b_range (pa_cons (pe_cal c_l_draw (hr.mono (by omega)) (by rfl) (pa_cons (pv 1) (pa_cons pe_int pa_nil))) pa_nil)) (pg_name (i := 4) sc_law.nd rfl (Or.inl rfl)) (pss_cons (ps_asg (pe_cal c_l_instruction (hr.mono (by omega)) (by rfl) (pa_cons (pv 1) pa_nil)) (pg_tup rfl (pgs_cons (pg_name (i := 5) sc_law.nd rfl (Or.inl rfl)) (pgs_cons (pg_name (i := 6) sc_law.nd rfl (Or.inl rfl)) pgs_nil)))) (pss_cons (ps_set (i := 7) sc_law.nd rfl (Or.inl rfl) (pe_cal c_encode (hr.mono (by omega)) (by rfl) (pa_cons (pv 5) pa_nil))) (pss_cons (ps_if (PW.pt (pw_or (pt_not (pt_val (pe_callB call_isiA (by rfl) T.b_isinstance (by decide +kernel) (pa_cons (pv 7) (pa_cons (pe_bltn (v := .ty "list") (by rfl) T.b_list (by decide +kernel) rfl) pa_nil))))) (pw_or1 (pt_cmpR (op_neA hr.units) (pv 7) (pv 6) (nomark _))))) (pss_one (ps_ret pe_bl)) pss_nil) (pss_cons (ps_expr (pe_bml PySem.F.slot_list_append PySem.F.type_list_append mt_appA (pv 2) (pa_cons (pv 5) pa_nil))) (pss_one (ps_set (i := 3) sc_law.nd rfl (Or.inl rfl) (pe_op op_addA (pv 3) (pv 6))))))))) (pss_cons (ps_set (i := 8) sc_law.nd rfl (Or.inl rfl) (pe_callTy call_listA (by rfl) T.b_list (by decide +kernel) (pa_cons (pv 3) pa_nil))) (pss_cons (ps_set (i := 9) sc_law.nd rfl (Or.inl rfl) (pe_cal c_decode (hr.mono (by omega)) (by rfl) (pa_cons (pv 8) pa_nil))) (pss_one (ps_ret (pe_and (pe_callB call_isiA (by rfl) T.b_isinstance (by decide +kernel) (pa_cons (pv 9) (pa_cons (pe_bltn (v := .ty "list") (by rfl) T.b_list (by decide +kernel) rfl) pa_nil))) (pe_and (pe_cmpR (op_eqA hr.units) (pv 9) (pv 2) (nomark _)) (pe_one (pe_cmpR (op_eqA hr.units) (pv 8) (pv 3) (nomark _)))))))))))))
end
end K38
set_option Elab.async false
set_option linter.all false
set_option maxRecDepth 100000
set_option maxHeartbeats 4000000
namespace K38
open PySem PySem.Spec PyProof.Rows L2 Lb
def d_encode : He.DefD := ⟨("encode", none), "encode", "encode", defArgs s_encode, defBody s_encode, defScope s_encode, [], []⟩
def d_Reader_init : He.DefD := ⟨("Reader", some "__init__"), "__init__", "Reader.__init__", defArgs s_Reader_init, defBody s_Reader_init, defScope s_Reader_init, [], []⟩
def d_Reader_word : He.DefD := ⟨("Reader", some "word"), "word", "Reader.word", defArgs s_Reader_word, defBody s_Reader_word, defScope s_Reader_word, [], []⟩
def d_Reader_row : He.DefD := ⟨("Reader", some "row"), "row", "Reader.row", defArgs s_Reader_row, defBody s_Reader_row, defScope s_Reader_row, [], []⟩
def d_read_instruction : He.DefD := ⟨("read_instruction", none), "read_instruction", "read_instruction", defArgs s_read_instruction, defBody s_read_instruction, defScope s_read_instruction, [], []⟩
def d_decode : He.DefD := ⟨("decode", none), "decode", "decode", defArgs s_decode, defBody s_decode, defScope s_decode, [], []⟩
def d_l_state : He.DefD := ⟨("_law_state", none), "_law_state", "_law_state", defArgs s_l_state, defBody s_l_state, defScope s_l_state, [], []⟩
def d_l_draw : He.DefD := ⟨("_law_draw", none), "_law_draw", "_law_draw", defArgs s_l_draw, defBody s_l_draw, defScope s_l_draw, [], []⟩
def d_l_pick : He.DefD := ⟨("_law_pick", none), "_law_pick", "_law_pick", defArgs s_l_pick, defBody s_l_pick, defScope s_l_pick, [], []⟩
def d_l_names : He.DefD := ⟨("_law_names", none), "_law_names", "_law_names", defArgs s_l_names, defBody s_l_names, defScope s_l_names, [], []⟩
def d_l_word : He.DefD := ⟨("_law_word", none), "_law_word", "_law_word", defArgs s_l_word, defBody s_l_word, defScope s_l_word, [], []⟩
def d_l_instruction : He.DefD := ⟨("_law_instruction", none), "_law_instruction", "_law_instruction", defArgs s_l_instruction, defBody s_l_instruction, defScope s_l_instruction, [], []⟩
def d_law : He.DefD := ⟨("law", none), "law", "law", defArgs s_law, defBody s_law, defScope s_law, [], []⟩
def fn : List He.DefD := [d_encode, d_Reader_init, d_Reader_word, d_Reader_row, d_read_instruction, d_decode, d_l_state, d_l_draw, d_l_pick, d_l_names, d_l_word, d_l_instruction, d_law]
def fa : List He.Fa := [.free "abs", .free "int", .free "isinstance", .free "len", .free "list", .free "range", .free "tuple", .glo "NAMES", .glo "SIZES", .glo "OPERATORS", .glo "encode", .glo "read_instruction", .glo "decode", .glo "_law_state", .glo "_law_draw", .glo "_law_pick", .glo "_law_names", .glo "_law_word", .glo "_law_instruction", .glo "law", .glo "Reader", .cls "Reader", .mkr "Reader", .meth "Reader" "word", .meth "Reader" "row", .noat "Reader" "words", .noat "Reader" "at"]
def lo : List Str := ["PlacedError", "CodeError", "NAMES", "SIZES", "OPERATORS", "encode", "Reader", "read_instruction", "decode", "_law_state", "_law_draw", "_law_pick", "_law_names", "_law_word", "_law_instruction"]
abbrev RW : PySem.W.OpenLaw := PySem.Challenge.rw_placedanyhow_k38_instructions_come_back
abbrev RR : PySem.W.OpenRow := PySem.W.OpenLaw.row RW
def ex (K : PySem.W.Frag) : Bool := tupB K "NAMES" [V.str "push", V.str "load", V.str "store", V.str "loadx", V.str "storex", V.str "check", V.str "neg", V.str "not", V.str "calc", V.str "jump", V.str "jzero", V.str "give", V.str "take", V.str "either", V.str "fork", V.str "end", V.str "stop"] && (tupB K "SIZES" [V.int 1, V.int 1, V.int 1, V.int 2, V.int 2, V.int 1, V.int 0, V.int 0, V.int 1, V.int 1, V.int 1, V.int 1, V.int 1, V.int 0, V.int 0, V.int 0, V.int 0] && (tupB K "OPERATORS" [V.str "+", V.str "-", V.str "*", V.str "/", V.str "mod", V.str "and", V.str "or", V.str "==", V.str "!=", V.str "<", V.str "<="]))
abbrev hk : PySem.W.Hook := He.hookX 4 fa fn [] [] ex
def ob (s : PySem.W.SharedT) : He.AlX := He.obsX 4 fa fn [] [] ex (HandSHeadRun.getT s)
theorem ob_eq (s : PySem.W.SharedT) : ob s = hk.obs s.abs := He.obsX_eq (HandSHeadRun.getT_eq s)
theorem run (w : World) : HandSHeadRun.RunEq RR (PySem.W.view RR.prog [18]) hk ob 4000 lo w := by
  intro os
  kernel_rfl
theorem tx {K : PySem.W.Frag} {h : Heap} {mg : Str → Option Value} (X : K.In h) (G : h.Ns mainGlobals mg) (c : He.SaysD fa fn K) : Tx K mg ⟨K, He.ga K "Reader", He.ga K "NAMES", He.ga K "SIZES", He.ga K "OPERATORS"⟩ :=
  ⟨rfl, He.free_ok X G (c.fact 0 rfl), He.free_ok X G (c.fact 1 rfl), He.free_ok X G (c.fact 2 rfl), He.free_ok X G (c.fact 3 rfl), He.free_ok X G (c.fact 4 rfl), He.free_ok X G (c.fact 5 rfl), He.free_ok X G (c.fact 6 rfl), gv_glo X G (c.fact 7 rfl), gv_glo X G (c.fact 8 rfl), gv_glo X G (c.fact 9 rfl)⟩
theorem cf {K : PySem.W.Frag} (c : He.SaysD fa fn K) (e : ex K = true) : CF ⟨K, He.ga K "Reader", He.ga K "NAMES", He.ga K "SIZES", He.ga K "OPERATORS"⟩ :=
  ⟨He.cls_ok (c.fact 21 (f := .cls "Reader") rfl), He.noat_ok (c.fact 25 (f := .noat "Reader" "words") rfl), He.noat_ok (c.fact 26 (f := .noat "Reader" "at") rfl), tupB_ok (He.ba e).1, tupB_ok (He.ba (He.ba e).2).1, tupB_ok (He.ba (He.ba e).2).2⟩
set_option maxHeartbeats 16000000 in
theorem facts {P : Program} {w : World} {K : PySem.W.Frag} {h : Heap} {mg : Str → Option Value} {f : Addr} (X : K.In h) (G : h.Ns mainGlobals mg) (hfa : mg ("law" : Str) = some (.ref f)) (c : He.SaysD fa fn K) :
    ∃ fd : FuncData, (∀ (s : Shared) (v : Value), BindsTo s fd ⟨[v], []⟩ [("_law_script", v)]) ∧ ∀ base : Heap, K.In base → base.Ns mainGlobals mg → FnOk P w K mg base CX0 (10) f fd ["_law_script"] (sp_law ⟨K, He.ga K "Reader", He.ga K "NAMES", He.ga K "SIZES", He.ga K "OPERATORS"⟩) := by
  obtain ⟨fd_encode, F_encode⟩ := c.def_ 0 (d := d_encode) rfl
  have b_encode : Binds K fd_encode ["instruction"] [] := F_encode.bindsN fun _ _ _ _ _ _ us hl => match us, hl with | [_], _ => rfl
  have g_encode := He.glo_ok X G (c.fact 10 (f := .glo "encode") rfl)
  obtain ⟨fd_Reader_init, F_Reader_init⟩ := c.def_ 1 (d := d_Reader_init) rfl
  have b_Reader_init : Binds K fd_Reader_init ["self", "words"] [] := F_Reader_init.bindsN fun _ _ _ _ _ _ us hl => match us, hl with | [_, _], _ => rfl
  obtain ⟨fd_Reader_word, F_Reader_word⟩ := c.def_ 2 (d := d_Reader_word) rfl
  have b_Reader_word : Binds K fd_Reader_word ["self"] [] := F_Reader_word.bindsN fun _ _ _ _ _ _ us hl => match us, hl with | [_], _ => rfl
  obtain ⟨fd_Reader_row, F_Reader_row⟩ := c.def_ 3 (d := d_Reader_row) rfl
  have b_Reader_row : Binds K fd_Reader_row ["self", "many"] [] := F_Reader_row.bindsN fun _ _ _ _ _ _ us hl => match us, hl with | [_, _], _ => rfl
  obtain ⟨fd_read_instruction, F_read_instruction⟩ := c.def_ 4 (d := d_read_instruction) rfl
  have b_read_instruction : Binds K fd_read_instruction ["reader"] [] := F_read_instruction.bindsN fun _ _ _ _ _ _ us hl => match us, hl with | [_], _ => rfl
  have g_read_instruction := He.glo_ok X G (c.fact 11 (f := .glo "read_instruction") rfl)
  obtain ⟨fd_decode, F_decode⟩ := c.def_ 5 (d := d_decode) rfl
  have b_decode : Binds K fd_decode ["words"] [] := F_decode.bindsN fun _ _ _ _ _ _ us hl => match us, hl with | [_], _ => rfl
  have g_decode := He.glo_ok X G (c.fact 12 (f := .glo "decode") rfl)
  obtain ⟨fd_l_state, F_l_state⟩ := c.def_ 6 (d := d_l_state) rfl
  have b_l_state : Binds K fd_l_state ["_law_script"] [] := F_l_state.bindsN fun _ _ _ _ _ _ us hl => match us, hl with | [_], _ => rfl
  have g_l_state := He.glo_ok X G (c.fact 13 (f := .glo "_law_state") rfl)
  obtain ⟨fd_l_draw, F_l_draw⟩ := c.def_ 7 (d := d_l_draw) rfl
  have b_l_draw : Binds K fd_l_draw ["_law_state_here", "_law_many"] [] := F_l_draw.bindsN fun _ _ _ _ _ _ us hl => match us, hl with | [_, _], _ => rfl
  have g_l_draw := He.glo_ok X G (c.fact 14 (f := .glo "_law_draw") rfl)
  obtain ⟨fd_l_pick, F_l_pick⟩ := c.def_ 8 (d := d_l_pick) rfl
  have b_l_pick : Binds K fd_l_pick ["_law_state_here", "_law_row"] [] := F_l_pick.bindsN fun _ _ _ _ _ _ us hl => match us, hl with | [_, _], _ => rfl
  have g_l_pick := He.glo_ok X G (c.fact 15 (f := .glo "_law_pick") rfl)
  obtain ⟨fd_l_names, F_l_names⟩ := c.def_ 9 (d := d_l_names) rfl
  have b_l_names : Binds K fd_l_names [] [] := F_l_names.bindsN fun _ _ _ _ _ _ us hl => match us, hl with | [], _ => rfl
  have g_l_names := He.glo_ok X G (c.fact 16 (f := .glo "_law_names") rfl)
  obtain ⟨fd_l_word, F_l_word⟩ := c.def_ 10 (d := d_l_word) rfl
  have b_l_word : Binds K fd_l_word ["_law_state_here"] [] := F_l_word.bindsN fun _ _ _ _ _ _ us hl => match us, hl with | [_], _ => rfl
  have g_l_word := He.glo_ok X G (c.fact 17 (f := .glo "_law_word") rfl)
  obtain ⟨fd_l_instruction, F_l_instruction⟩ := c.def_ 11 (d := d_l_instruction) rfl
  have b_l_instruction : Binds K fd_l_instruction ["_law_state_here"] [] := F_l_instruction.bindsN fun _ _ _ _ _ _ us hl => match us, hl with | [_], _ => rfl
  have g_l_instruction := He.glo_ok X G (c.fact 18 (f := .glo "_law_instruction") rfl)
  obtain ⟨fd_law, F_law⟩ := c.def_ 12 (d := d_law) rfl
  have g_Reader := He.glo_ok X G (c.fact 20 (f := .glo "Reader") rfl)
  have k_Reader := He.cls_ok (c.fact 21 (f := .cls "Reader") rfl)
  have m_Reader := He.mkr_ok (c.fact 22 (f := .mkr "Reader") rfl)
  have e_Reader_word := He.meth_ok (c.fact 23 (f := .meth "Reader" "word") rfl)
  have e_Reader_row := He.meth_ok (c.fact 24 (f := .meth "Reader" "row") rfl)
  have e := hfa.symm.trans (He.glo_ok X G (c.fact 19 (f := .glo "law") rfl))
  cases e
  have b := FunD.bindsA (ps := ["_law_script"]) F_law fun _ _ _ _ _ _ us hl => match us, hl with | [_], _ => rfl
  have T := tx X G c
  refine ⟨fd_law, fun s v => b s [v] rfl, fun base _ _ => ?_⟩
  have C_encode : Cal P w K mg base "encode" (1) ["instruction"] (sp_encode ⟨K, He.ga K "Reader", He.ga K "NAMES", He.ga K "SIZES", He.ga K "OPERATORS"⟩) := mkCal F_encode g_encode b_encode (ok_encode T F_encode)
  have C_Reader_init : CalC P w K mg base "Reader" (He.ga K "Reader") (1) ["self", "words"] (sp_Reader_init ⟨K, He.ga K "Reader", He.ga K "NAMES", He.ga K "SIZES", He.ga K "OPERATORS"⟩) := mkCalC g_Reader m_Reader b_Reader_init (ok_Reader_init T F_Reader_init)
  have C_Reader_word : CalM P w K mg base (He.ga K "Reader") "word" (1) ["self"] (sp_word ⟨K, He.ga K "Reader", He.ga K "NAMES", He.ga K "SIZES", He.ga K "OPERATORS"⟩) := mkCalM k_Reader e_Reader_word b_Reader_word (ok_Reader_word T F_Reader_word)
  have C_Reader_row : CalM P w K mg base (He.ga K "Reader") "row" (2) ["self", "many"] (sp_row ⟨K, He.ga K "Reader", He.ga K "NAMES", He.ga K "SIZES", He.ga K "OPERATORS"⟩) := mkCalM k_Reader e_Reader_row b_Reader_row (ok_Reader_row T F_Reader_row C_Reader_word)
  have C_read_instruction : Cal P w K mg base "read_instruction" (3) ["reader"] (sp_read ⟨K, He.ga K "Reader", He.ga K "NAMES", He.ga K "SIZES", He.ga K "OPERATORS"⟩) := mkCal F_read_instruction g_read_instruction b_read_instruction (ok_read_instruction T F_read_instruction C_Reader_word C_Reader_row)
  have C_decode : Cal P w K mg base "decode" (4) ["words"] (sp_decode ⟨K, He.ga K "Reader", He.ga K "NAMES", He.ga K "SIZES", He.ga K "OPERATORS"⟩) := mkCal F_decode g_decode b_decode (ok_decode T F_decode C_Reader_init C_read_instruction)
  have C_l_state : Cal P w K mg base "_law_state" (1) ["_law_script"] (spState K) := mkCal F_l_state g_l_state b_l_state (ok_l_state T F_l_state)
  have C_l_draw : Cal P w K mg base "_law_draw" (1) ["_law_state_here", "_law_many"] spDraw := mkCal F_l_draw g_l_draw b_l_draw (ok_l_draw T F_l_draw)
  have C_l_pick : Cal P w K mg base "_law_pick" (2) ["_law_state_here", "_law_row"] spPick := mkCal F_l_pick g_l_pick b_l_pick (ok_l_pick T F_l_pick C_l_draw)
  have C_l_names : Cal P w K mg base "_law_names" (1) [] sp_l_names := mkCal F_l_names g_l_names b_l_names (ok_l_names T F_l_names)
  have C_l_word : Cal P w K mg base "_law_word" (3) ["_law_state_here"] sp_l_word := mkCal F_l_word g_l_word b_l_word (ok_l_word T F_l_word C_l_pick C_l_draw)
  have C_l_instruction : Cal P w K mg base "_law_instruction" (4) ["_law_state_here"] sp_l_instr := mkCal F_l_instruction g_l_instruction b_l_instruction (ok_l_instruction T F_l_instruction C_l_draw C_l_names C_l_word)
  exact (ok_law T F_law C_l_state C_l_draw C_l_instruction C_encode C_decode)
end K38
open PySem PySem.W PySem.Calls PyProof.Rows
theorem PySem.Challenge.cw_placedanyhow_k38_instructions_come_back_holds : PySem.Challenge.rw_placedanyhow_k38_instructions_come_back.Holds := by
  w_on; o_law
  refine HandSHeadRun.head_any (r := OpenLaw.row PySem.Challenge.rw_placedanyhow_k38_instructions_come_back) (q := view (OpenLaw.row PySem.Challenge.rw_placedanyhow_k38_instructions_come_back).prog [18]) (H := K38.hk) (ob := K38.ob) (M := 4000) (loose := K38.lo) (d := HandSHeadRun.topDef (OpenLaw.row PySem.Challenge.rw_placedanyhow_k38_instructions_come_back).prog 18) (kwd := []) K38.ob_eq
    (by kernel_rfl) (fun s => by kernel_rfl) K38.run (by kernel_rfl) (by kernel_rfl) (by kernel_rfl) (by rfl) (by first | assumption | decide +kernel) (by decide +kernel) ⟨rfl, rfl, rfl, rfl, rfl, by decide +kernel⟩ ?hw ?hc
  case hw => w_witness2
  case hc =>
    refine L2.walk_ofE (l := PySem.Challenge.rw_placedanyhow_k38_instructions_come_back) (n := 63) (k := 10) (x := "_law_script") (CX := L2.CX0) rfl (by decide) (by kernel_rfl) ⟨rfl, by decide, by decide⟩ ?F (fun _ _ _ _ z => z)
    intro w mg fa h Y G hmg0
    obtain ⟨K, KX, cx⟩ := Y
    have c := cx.t.d
    have hmg : mg ("law" : PySem.Str) = some (.ref fa) := by
      have e : (HandSHeadRun.topDef (OpenLaw.row PySem.Challenge.rw_placedanyhow_k38_instructions_come_back).prog 18).name = ("law" : PySem.Str) := by kernel_rfl
      rw [← e]
      exact hmg0
    obtain ⟨fd, hb, hF⟩ := K38.facts (P := (PySem.Challenge.rw_placedanyhow_k38_instructions_come_back).prog) (w := w) KX G hmg c
    exact ⟨K, fd, K38.sp_law ⟨K, He.ga K "Reader", He.ga K "NAMES", He.ga K "SIZES", He.ga K "OPERATORS"⟩, KX, hb, fun H a ns hl _ hS => ⟨a, ns, rfl, hS, hl, K38.cf c cx.more, fun _ => rfl⟩, hF⟩

