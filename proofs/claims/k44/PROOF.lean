import PyProof.Rows.All
import Wide.All
import OpenK.AllK
import Wide.FinOn
import HandS.ForMost
import HandS.IsInst
import HandS.Defaults
import HandS.More
import HandS.Head0
import HandS.Head1
import HandS.Head2
import HandS.HeadEnd
import HandS.HeadHook1
import HandS.HeadHook2
import HandS.HeadHook3
import HandS.HeadHook4
import HandS.Style
import HandS.TryOnly
import KE.KAssignIn
import HandS.Strs
import HandS.Text
import HandS.ExcInit
import HandS.ExcField
import HandS.ExcOwn
import HandS.WordsExc
import HandS.ClsMeth
import KE.KExcIs
import HandS.Iter
import PySem.Challenge.RW_placedanyhow_k44_parts_of_images
set_option Elab.async false
set_option linter.all false
set_option maxRecDepth 100000
set_option maxHeartbeats 4000000
/-! Lb: readings that compute, callables by name, data in the heap, the drawing of numbers. Knows no program. -/
namespace Lb
open PySem PySem.Spec PyProof.Rows L2

/-! ### weaker readings -/
section
variable {X : Cx} {e : Expr} {st : Stmt}
theorem pe_imp {t u : TE} (h : PE X e t) (k : ∀ σ H Q, u σ H Q → t σ H Q) : PE X e u := ⟨fun pins s σ H Q I hw => h.run pins s σ H Q I (k σ H Q hw)⟩
theorem pt_imp {t u : TT} (h : PT X e t) (k : ∀ σ H Q, u σ H Q → t σ H Q) : PT X e u := ⟨fun pins s σ H Q I hw => h.run pins s σ H Q I (k σ H Q hw)⟩
theorem ps_imp {t u : TS} (h : PS X st t) (k : ∀ D σ H, u D σ H → t D σ H) : PS X st u := ⟨fun pins s σ H D I hw => h.run pins s σ H D I (k D σ H hw)⟩
end

/-- a reading, made monotone -/
def upE (t : TE) : TE := fun σ H Q => ∃ R : VK, t σ H R ∧ ∀ x H', R x H' → Q x H'
def upT (t : TT) : TT := fun σ H Q => ∃ R : Bool → Hp → Prop, t σ H R ∧ ∀ x H', R x H' → Q x H'
theorem pe_up {X : Cx} {e : Expr} {t : TE} (h : PE X e t) : PE X e (upE t) := ⟨fun pins s σ H Q I ⟨R, h1, h2⟩ => thn (h.run pins s σ H R I h1) fun _ _ ⟨v, H', I', r, q⟩ => ⟨v, H', I', r, h2 v H' q⟩⟩
theorem pt_up {X : Cx} {e : Expr} {t : TT} (h : PT X e t) : PT X e (upT t) := ⟨fun pins s σ H Q I ⟨R, h1, h2⟩ => thn (h.run pins s σ H R I h1) fun _ _ ⟨H', I', q⟩ => ⟨H', I', h2 _ H' q⟩⟩

/-! ### callables: a def, a method, a class, each with its promise -/
structure Cal (P : Program) (w : World) (K : PySem.W.Frag) (mg : Str → Option Value) (base : Heap) (x : Str) (k : Nat) (ps : List Str) (sp : Sp) : Prop where
  ex : ∃ (f : Addr) (fd : FuncData), mg x = some (.ref f) ∧ PySem.W.keepIn K (.ref f) = true ∧ Binds K fd ps [] ∧ FnOk P w K mg base CX0 k f fd ps sp
structure CalM (P : Program) (w : World) (K : PySem.W.Frag) (mg : Str → Option Value) (base : Heap) (C : Addr) (m : Str) (k : Nat) (ps : List Str) (sp : Sp) : Prop where
  ex : ∃ (f : Addr) (fd : FuncData), Cls K C ∧ Meth K C m f ∧ Binds K fd ps [] ∧ FnOk P w K mg base CX0 k f fd ps sp
structure CalC (P : Program) (w : World) (K : PySem.W.Frag) (mg : Str → Option Value) (base : Heap) (x : Str) (C : Addr) (k : Nat) (ps : List Str) (sp : Sp) : Prop where
  ex : ∃ (f : Addr) (fd : FuncData), mg x = some (.ref C) ∧ Mk K C f ∧ Binds K fd ps [] ∧ FnOk P w K mg base CX0 k f fd ps sp
/-- a name of the module that holds a known value -/
structure GV (mg : Str → Option Value) (x : Str) (v : V) : Prop where
  ex : ∃ u, mg x = some u ∧ RelV v u
section
variable {X : Cx} {x m : Str} {C : Addr} {p pos apos : Pos} {o e : Expr} {es : List Expr} {ta : TE} {t : TA} {k : Nat} {ps : List Str} {sp : Sp} {v : V}
theorem pe_gv (c : GV X.mg x v) (hg : Gl X x) (hd : (x == ("__debug__" : Str)) = false := by decide) : PE X (.Name x pos) (tC v) := by
  obtain ⟨u, hm, r⟩ := c.ex
  exact pe_glob hg hm r hd
theorem pe_cal (c : Cal X.prog X.w X.K X.mg X.base x k ps sp) (hr : Room k X.A) (hg : Gl X x) (ha : PA X (e :: es) t) (hdb : (x == ("__debug__" : Str)) = false := by decide)
    (he : starEach (e :: es) X.env = (false, eval e X.env) :: starEach es X.env := by rfl) (hpl : (backTo pos (starEach es X.env)).any (·.1) = false := by rfl) : PE X (.Call (.Name x p) (e :: es) [] pos) (tCall sp [] E0 t) := by
  obtain ⟨f, fd, hm, hk, hb, F⟩ := c.ex
  exact pe_call F hr hg hm hk hb .nil pass0 ha hdb he hpl
theorem pe_cal0 (c : Cal X.prog X.w X.K X.mg X.base x k ps sp) (hr : Room k X.A) (hg : Gl X x) (hdb : (x == ("__debug__" : Str)) = false := by decide) : PE X (.Call (.Name x p) [] [] pos) (tCall sp [] E0 tNil) := by
  obtain ⟨f, fd, hm, hk, hb, F⟩ := c.ex
  exact pe_call0 F hr hg hm hk hb .nil pass0 hdb
theorem pe_calM {pl : Sem Bool} (he : PE X o ta) (c : CalM X.prog X.w X.K X.mg X.base C m k ps sp) (hr : Room k X.A) (ha : PA X (e :: es) t)
    (hst : starEach (e :: es) X.env = (false, eval e X.env) :: starEach es X.env := by rfl) (hpl : (backTo pos (starEach es X.env)).any (·.1) = false := by rfl)
    (ht : eval (.Call (.Attribute o m apos) (e :: es) [] pos) X.env = (do
      let ov ← eval o X.env
      standAt apos.atName
      let (f, first) ← holding [ov] (getMethod ov m pl)
      callWith pos f first (backTo pos (starEach (e :: es) X.env)) (backToKw pos (keywordEach [] X.env))) := by rfl) : PE X (.Call (.Attribute o m apos) (e :: es) [] pos) (tMeth C m sp [] E0 ta t) := by
  obtain ⟨f, fd, hc, hm, hb, F⟩ := c.ex
  exact pe_meth he hc hm F hr hb .nil pass0 ha hst hpl ht
theorem pe_calM0 {pl : Sem Bool} (he : PE X o ta) (c : CalM X.prog X.w X.K X.mg X.base C m k ps sp) (hr : Room k X.A)
    (ht : eval (.Call (.Attribute o m apos) [] [] pos) X.env = (do
      let ov ← eval o X.env
      standAt apos.atName
      let (f, first) ← holding [ov] (getMethod ov m pl)
      callWith pos f first (backTo pos (starEach [] X.env)) (backToKw pos (keywordEach [] X.env))) := by rfl) : PE X (.Call (.Attribute o m apos) [] [] pos) (tMeth C m sp [] E0 ta tNil) := by
  obtain ⟨f, fd, hc, hm, hb, F⟩ := c.ex
  exact pe_meth0 he hc hm F hr hb .nil pass0 ht
theorem pe_calC (c : CalC X.prog X.w X.K X.mg X.base x C k ps sp) (hr : Room (k + 1) X.A) (hg : Gl X x) (ha : PA X (e :: es) t) (hdb : (x == ("__debug__" : Str)) = false := by decide)
    (he : starEach (e :: es) X.env = (false, eval e X.env) :: starEach es X.env := by rfl) (hpl : (backTo pos (starEach es X.env)).any (·.1) = false := by rfl) : PE X (.Call (.Name x p) (e :: es) [] pos) (tMake C sp [] E0 t) := by
  obtain ⟨f, fd, hm, M, hb, F⟩ := c.ex
  exact pe_make M F hr hg hm hb .nil pass0 ha hdb he hpl
theorem pe_calC0 (c : CalC X.prog X.w X.K X.mg X.base x C k ps sp) (hr : Room (k + 1) X.A) (hg : Gl X x) (hdb : (x == ("__debug__" : Str)) = false := by decide) : PE X (.Call (.Name x p) [] [] pos) (tMake C sp [] E0 tNil) := by
  obtain ⟨f, fd, hm, M, hb, F⟩ := c.ex
  exact pe_make0 M F hr hg hm hb .nil pass0 hdb
end

/-! ### readings that compute -/
def rAddA : R2 := fun x y H Q => match x, y with
  | .int a, .int b => Q (.int (a + b)) H
  | .str a, .str b => a.length + b.length ≤ sizeLine ∧ Q (.str (a ++ b)) H
  | .ref p, .ref q => (match H p, H q with
    | some (.lst xs), some (.lst ys) => xs.length + ys.length ≤ sizeLine ∧ ∀ r, H r = none → Q (.ref r) (upd H r (.lst (xs ++ ys)))
    | _, _ => False)
  | _, _ => False
def rMulA : R2 := fun x y H Q => match x, y with
  | .int a, .int b => CMul a b ∧ Q (.int (a * b)) H
  | .ref p, .int k => (match H p with
    | some (.lst xs) => -(2 ^ 63) ≤ k ∧ k < 2 ^ 63 ∧ xs.length * k.toNat ≤ sizeLine ∧ ∀ r, H r = none → Q (.ref r) (upd H r (.lst (List.replicate k.toNat xs).flatten))
    | _ => False)
  | _, _ => False
def eqF : V → V → Option Bool
  | .int a, .int b => some (decide (a = b))
  | .str a, .str b => some (decide (a = b))
  | .bl a, .bl b => some (decide (a = b))
  | .non, .non => some true
  | .non, .int _ => some false
  | .int _, .non => some false
  | .non, .str _ => some false
  | .str _, .non => some false
  | .non, .bl _ => some false
  | .bl _, .non => some false
  | .int _, .str _ => some false
  | .str _, .int _ => some false
  | _, _ => none
def rEqA (K : PySem.W.Frag) : R2 := fun x y H Q => match eqF x y with
  | some b => Q (.bl b) H
  | none => rEqD K x y H Q
def rNeA (K : PySem.W.Frag) : R2 := fun x y H Q => match eqF x y with
  | some b => Q (.bl (!b)) H
  | none => rNeD K x y H Q
def rIsN : R2 := fun x y H Q => y = .non ∧ Q (.bl (decide (x = .non))) H
def rNotN : R2 := fun x y H Q => y = .non ∧ Q (.bl (!decide (x = .non))) H
/-- an item of a list, a tuple, a text -/
def rIxA : R2 := fun x y H Q => match x, y with
  | .ref p, .int i => (match H p with
    | some (.lst xs) => ∃ v, atI xs i = some v ∧ Q v H
    | some (.tup xs) => ∃ v, atI xs i = some v ∧ Q v H
    | _ => False)
  | .str z, .int i => z.length ≤ sizeLine ∧ ∃ c, atI z.cps.toList i = some c ∧ Q (.str ⟨#[c]⟩) H
  | _, _ => False
def rSlA : V → Option Int → Option Int → Hp → VK → Prop := fun x lo hi H Q => match x with
  | .ref p => (match H p with
    | some (.lst xs) => ∀ q, H q = none → Q (.ref q) (upd H q (.lst (cutV xs lo hi)))
    | some (.tup xs) => ¬ (HT.sIx xs.length 0 lo = 0 ∧ HT.sIx xs.length xs.length hi = xs.length) ∧ ∀ q, H q = none → Q (.ref q) (upd H q (.tup (cutV xs lo hi)))
    | _ => False)
  | _ => False
def rLenA : List V → Hp → VK → Prop := fun vs H Q => match vs with
  | [.str y] => y.length ≤ sizeLine ∧ Q (.int y.length) H
  | [.ref p] => (match H p with
    | some (.lst xs) => Q (.int xs.length) H
    | some (.tup xs) => Q (.int xs.length) H
    | some (.dK kvs) => Q (.int kvs.length) H
    | _ => False)
  | _ => False
def rIntA : List V → Hp → VK → Prop := fun vs H Q => match vs with
  | [.int i] => Q (.int i) H
  | [.bl k] => Q (.int (if k = true then 1 else 0)) H
  | _ => False
def rAbsA : List V → Hp → VK → Prop := fun vs H Q => match vs with
  | [.int i] => Q (.int (if i < 0 then -i else i)) H
  | _ => False
def rListA : List V → Hp → VK → Prop := fun vs H Q => match vs with
  | [.ref p] => (match H p with
    | some (.lst xs) => ∀ l, H l = none → Q (.ref l) (upd H l (.lst xs))
    | some (.tup xs) => ∀ l, H l = none → Q (.ref l) (upd H l (.lst xs))
    | _ => False)
  | _ => False
def rTupA : List V → Hp → VK → Prop := fun vs H Q => match vs with
  | [.ref p] => (match H p with
    | some (.lst xs) => ∀ l, H l = none → Q (.ref l) (upd H l (.tup xs))
    | some (.tup _) => Q (.ref p) H
    | _ => False)
  | _ => False
def tyN (x : V) (H : Hp) : Option String := match x with
  | .non => some "NoneType"
  | .bl _ => some "bool"
  | .int _ => some "int"
  | .str _ => some "str"
  | .ref p => (match H p with
    | some (.lst _) => some "list"
    | some (.tup _) => some "tuple"
    | some (.dK _) => some "dict"
    | some (.dT _) => some "dict"
    | _ => none)
  | _ => none
def rIsiA : List V → Hp → VK → Prop := fun vs H Q => match vs with
  | [x, .ty T] => (match tyN x H with
    | some t => ∃ b, kitB t T = some b ∧ Q (.bl b) H
    | none => False)
  | _ => False
def isL (x : V) (H : Hp) : Prop := match x with
  | .ref p => (match H p with
    | some (.lst _) => True
    | _ => False)
  | _ => False
/-- a method of a list -/
def tBML (r : V → List V → Hp → VK → Prop) (to : TE) (t : TA) : TE := fun σ H Q => to σ H fun x H1 => isL x H1 ∧ t σ H1 fun xs H2 => r x xs H2 Q
def rAppA : V → List V → Hp → VK → Prop := fun x vs H Q => match x, vs with
  | .ref l, [y] => (match H l with
    | some (.lst xs) => xs.length < sizeLine ∧ Q .non (upd H l (.lst (xs ++ [y])))
    | _ => False)
  | _, _ => False
def rExtA : V → List V → Hp → VK → Prop := fun x vs H Q => match x, vs with
  | .ref l, [.ref q] => (match H l, H q with
    | some (.lst xs), some (.lst ys) => xs.length + ys.length ≤ sizeLine ∧ Q .non (upd H l (.lst (xs ++ ys)))
    | _, _ => False)
  | _, _ => False
def rPopL : V → List V → Hp → VK → Prop := fun x vs H Q => match x, vs with
  | .ref l, [] => (match H l with
    | some (.lst xs) => ∃ y, xs[xs.length - 1]? = some y ∧ Q y (upd H l (.lst xs.dropLast))
    | _ => False)
  | _, _ => False
def rPopI : V → List V → Hp → VK → Prop := fun x vs H Q => match x, vs with
  | .ref l, [.int i] => (match H l with
    | some (.lst xs) => ∃ (k : Nat) (y : V), i = (k : Int) ∧ k < 2 ^ 62 ∧ xs[k]? = some y ∧ Q y (upd H l (.lst (xs.eraseIdx k)))
    | _ => False)
  | _, _ => False
def rSetA : TSet := fun o i v H Q => match o, i with
  | .ref p, .int k => (match H p with
    | some (.lst xs) => ∃ j, ixN xs.length k = some j ∧ Q (upd H p (.lst (xs.set j v)))
    | _ => False)
  | _, _ => False
section
variable {X : Cx}
theorem op_addA : OpR X (binaryOp .Add) rAddA := by
  intro pins s σ H x y v u Q I rx ry h
  unfold rAddA at h
  split at h
  · exact op_add pins s σ H _ _ v u Q I rx ry ⟨_, _, rfl, rfl, h⟩
  · exact op_add_str pins s σ H _ _ v u Q I rx ry ⟨_, _, rfl, rfl, h⟩
  · split at h
    · rename_i h1 h2
      exact op_cat pins s σ H _ _ v u Q I rx ry ⟨_, _, _, _, rfl, rfl, h1, h2, h⟩
    · exact h.elim
  · exact h.elim
theorem op_mulA : OpR X (binaryOp .Mult) rMulA := by
  intro pins s σ H x y v u Q I rx ry h
  unfold rMulA at h
  split at h
  · exact op_mul pins s σ H _ _ v u Q I rx ry ⟨_, _, rfl, rfl, h⟩
  · split at h
    · rename_i h1
      exact op_rep pins s σ H _ _ v u Q I rx ry ⟨_, _, _, rfl, rfl, h1, h⟩
    · exact h.elim
  · exact h.elim
theorem eqF_ok {x y : V} {b : Bool} (h : eqF x y = some b) : scal x y = true ∧ decide (x = y) = b := by
  cases x <;> cases y <;> simp only [eqF, Option.some.injEq, reduceCtorEq] at h <;> (subst h; refine ⟨rfl, ?_⟩; simp)
theorem op_eqA (hu : X.A.units + 64 < cLine) : OpR X (compareOp .Eq) (rEqA X.K) := by
  intro pins s σ H x y v u Q I rx ry h
  unfold rEqA at h
  split at h
  · rename_i b e
    obtain ⟨h1, h2⟩ := eqF_ok e
    exact op_eq pins s σ H x y v u Q I rx ry ⟨h1, by rw [h2]; exact h⟩
  · exact op_eqD hu pins s σ H x y v u Q I rx ry h
theorem op_neA (hu : X.A.units + 64 < cLine) : OpR X (compareOp .NotEq) (rNeA X.K) := by
  intro pins s σ H x y v u Q I rx ry h
  unfold rNeA at h
  split at h
  · rename_i b e
    obtain ⟨h1, h2⟩ := eqF_ok e
    exact op_ne pins s σ H x y v u Q I rx ry ⟨h1, by rw [h2]; exact h⟩
  · exact op_neD hu pins s σ H x y v u Q I rx ry h
theorem op_isNA : OpR X (compareOp .Is) rIsN := op_isN
theorem op_notNA : OpR X (compareOp .IsNot) rNotN := op_notN
theorem ix_A : IxR X rIxA := by
  intro value slice pins s σ H x y v u Q I rx ry h hs
  unfold rIxA at h
  split at h
  · split at h
    · rename_i h1
      obtain ⟨w, h2, h3⟩ := h
      exact ix_list value slice pins s σ H _ _ v u Q I rx ry ⟨_, _, _, _, rfl, rfl, SqL.of h1, h2, h3⟩ hs
    · rename_i h1
      obtain ⟨w, h2, h3⟩ := h
      exact ix_tup value slice pins s σ H _ _ v u Q I rx ry ⟨_, _, _, _, rfl, rfl, SqT.of h1, h2, h3⟩ hs
    · exact h.elim
  · obtain ⟨h1, c, h2, h3⟩ := h
    exact ix_str value slice pins s σ H _ _ v u Q I rx ry ⟨_, _, _, rfl, rfl, h1, h2, h3⟩ hs
  · exact h.elim
theorem sl_A : SlR X rSlA := by
  intro pins s σ H x v vl vu lo hi sl Q I rx hs pl pu h
  unfold rSlA at h
  split at h
  · split at h
    · rename_i h1
      exact sl_list pins s σ H _ v vl vu lo hi sl Q I rx hs pl pu ⟨_, _, rfl, SqL.of h1, h⟩
    · rename_i h1
      exact sl_tup pins s σ H _ v vl vu lo hi sl Q I rx hs pl pu ⟨_, _, rfl, SqT.of h1, h⟩
    · exact h.elim
  · exact h.elim
theorem call_lenA : CallR X (.builtin "len") rLenA := by
  intro pins s σ H vs us Q I r h
  unfold rLenA at h
  split at h
  · exact call_len_str pins s σ H _ us Q I r ⟨_, rfl, h⟩
  · split at h
    · rename_i h1
      exact call_len_seq pins s σ H _ us Q I r ⟨_, _, rfl, .inl (SqL.of h1), h⟩
    · rename_i h1
      exact call_len_seq pins s σ H _ us Q I r ⟨_, _, rfl, .inr (SqT.of h1), h⟩
    · rename_i h1
      exact call_lenD pins s σ H _ us Q I r ⟨_, _, rfl, h1, h⟩
    · exact h.elim
  · exact h.elim
theorem call_intA : CallR X (.type "int") rIntA := by
  intro pins s σ H vs us Q I r h
  unfold rIntA at h
  split at h
  · exact call_int1 pins s σ H _ us Q I r (.inl ⟨_, rfl, h⟩)
  · exact call_int1 pins s σ H _ us Q I r (.inr ⟨_, rfl, h⟩)
  · exact h.elim
theorem call_absA : CallR X (.builtin "abs") rAbsA := by
  intro pins s σ H vs us Q I r h
  unfold rAbsA at h
  split at h
  · exact call_abs pins s σ H _ us Q I r ⟨_, rfl, h⟩
  · exact h.elim
theorem call_listA : CallR X (.type "list") rListA := by
  intro pins s σ H vs us Q I r h
  unfold rListA at h
  split at h
  · split at h
    · rename_i h1
      exact call_list_of pins s σ H _ us Q I r ⟨_, _, rfl, .inl (SqL.of h1), h⟩
    · rename_i h1
      exact call_list_of pins s σ H _ us Q I r ⟨_, _, rfl, .inr (SqT.of h1), h⟩
    · exact h.elim
  · exact h.elim
theorem call_tupA : CallR X (.type "tuple") rTupA := by
  intro pins s σ H vs us Q I r h
  unfold rTupA at h
  split at h
  · split at h
    · rename_i h1
      exact call_tuple_of pins s σ H _ us Q I r ⟨_, _, rfl, .inl ⟨SqL.of h1, h⟩⟩
    · rename_i h1
      exact call_tuple_of pins s σ H _ us Q I r ⟨_, _, rfl, .inr ⟨SqT.of h1, h⟩⟩
    · exact h.elim
  · exact h.elim
theorem tyN_ok {K : PySem.W.Frag} {x : V} {H : Hp} {t : String} (h : tyN x H = some t) : TyX K H x (.type t) := by
  unfold tyN at h
  split at h
  · cases h; exact .base .non
  · cases h; exact .base (.bl _)
  · cases h; exact .base (.int _)
  · cases h; exact .base (.str _)
  · split at h
    · rename_i h1; cases h; exact .base (.lst h1)
    · rename_i h1; cases h; exact .base (.tup h1)
    · rename_i h1; cases h; exact .base (.dK h1)
    · rename_i h1; cases h; exact .base (.dT h1)
    · cases h
  · cases h
theorem call_isiA : CallR X (.builtin "isinstance") rIsiA := by
  intro pins s σ H vs us Q I r h
  unfold rIsiA at h
  split at h
  · split at h
    · rename_i h1
      obtain ⟨b, h2, h3⟩ := h
      exact call_isi pins s σ H _ us Q I r ⟨_, _, _, _, b, rfl, .ty _, tyN_ok h1, kit_ty h2, h3⟩
    · exact h.elim
  · exact h.elim
theorem isL_ty {K : PySem.W.Frag} {x : V} {H : Hp} (h : isL x H) : tyV K "list" x H := by
  unfold isL at h
  split at h
  · split at h
    · rename_i h1
      exact .inl ⟨rfl, _, SqL.of h1⟩
    · exact h.elim
  · exact h.elim
theorem mt_appA : MtR X "list.append" rAppA := by
  intro pins s σ H x vs v us Q I rx rv h
  unfold rAppA at h
  split at h
  · split at h
    · rename_i h1
      exact mt_append pins s σ H _ _ v us Q I rx rv ⟨_, _, _, rfl, rfl, h1, h⟩
    · exact h.elim
  · exact h.elim
theorem mt_extA : MtR X "list.extend" rExtA := by
  intro pins s σ H x vs v us Q I rx rv h
  unfold rExtA at h
  split at h
  · split at h
    · rename_i h1 h2
      exact mt_extend pins s σ H _ _ v us Q I rx rv ⟨_, _, _, _, rfl, rfl, h1, h2, h⟩
    · exact h.elim
  · exact h.elim
theorem mt_popL : MtR X "list.pop" rPopL := by
  intro pins s σ H x vs v us Q I rx rv h
  unfold rPopL at h
  split at h
  · split at h
    · rename_i h1
      obtain ⟨y, h2, h3⟩ := h
      exact mt_pop pins s σ H _ _ v us Q I rx rv ⟨_, _, _, rfl, rfl, h1, h2, h3⟩
    · exact h.elim
  · exact h.elim
theorem seqIx_nat {n k : Nat} (h : k < n) : seqIndex? (k : Int) n = some k := by
  obtain ⟨h1, _⟩ := ixN_seq (n := n) (i := (k : Int)) (j := k) (by unfold ixN; rw [if_pos (by omega), if_pos (by omega)]; simp)
  exact h1
theorem mt_popI : MtR X "list.pop" rPopI := by
  intro pins s σ H x vs v us Q I rx rv h
  unfold rPopI at h
  split at h
  · split at h
    · rename_i h1
      obtain ⟨k, y, h2, h3, h4, h5⟩ := h
      have hk := (List.getElem?_eq_some_iff.mp h4).1
      subst h2
      exact mt_popAt pins s σ H _ _ v us Q I rx rv ⟨_, _, _, k, y, rfl, rfl, h1, by omega, by omega, seqIx_nat hk, h4, h5⟩
    · exact h.elim
  · exact h.elim
theorem set_A : PSet X rSetA := by
  intro pins s σ H o i v ov iv u Q I ro ri rv h
  unfold rSetA at h
  split at h
  · split at h
    · rename_i h1
      obtain ⟨j, h2, h3⟩ := h
      exact set_list pins s σ H _ _ v ov iv u Q I ro ri rv ⟨_, _, _, _, rfl, rfl, h1, h2, h3⟩
    · exact h.elim
  · exact h.elim
variable {o e : Expr} {es : List Expr} {to : TE} {t : TA} {name : Str} {apos cpos : Pos} {id : String} {r : V → List V → Hp → VK → Prop}
theorem pe_bml0 (slot : Slot "list" name id) (hty : typeOf (.builtin id) = pure (.type "method_descriptor")) (hm : MtR X id r) (ho : PE X o to)
    (hbase : attributeBase o name X.env (eval o X.env) = eval o X.env := by rfl) (hline : (apos.endLine == cpos.line) = true := by rfl) : PE X (.Call (.Attribute o name apos) [] [] cpos) (tBML r to tNil) :=
  pe_imp (pe_bm0 PySem.F.plainAttrs_list slot hty hm (pe_up ho) hbase hline) fun σ H Q h => ⟨_, h, fun x H' q => ⟨isL_ty q.1, q.2⟩⟩
theorem pe_bml (slot : Slot "list" name id) (hty : typeOf (.builtin id) = pure (.type "method_descriptor")) (hm : MtR X id r) (ho : PE X o to) (ha : PA X (e :: es) t)
    (hbase : attributeBase o name X.env (eval o X.env) = eval o X.env := by rfl)
    (hfew : ((backTo cpos (starEach (e :: es) X.env)).all (fun x => !x.1) && (backToKw cpos (keywordEach [] X.env)).all (fun x => x.1.isSome)
      && decide ((e :: es).length + ([] : List Keyword).length + (if ([] : List Keyword).isEmpty then 0 else 1) < 30)) = true := by rfl)
    (hline : (apos.endLine == cpos.line) = true := by rfl) (hs : starEach (e :: es) X.env = (false, eval e X.env) :: starEach es X.env := by rfl) (hplain : (backTo cpos (starEach es X.env)).any (·.1) = false := by rfl) :
    PE X (.Call (.Attribute o name apos) (e :: es) [] cpos) (tBML r to t) :=
  pe_imp (pe_bm PySem.F.plainAttrs_list slot hty hm (pe_up ho) ha hbase hfew hline hs hplain) fun σ H Q h => ⟨_, h, fun x H' q => ⟨isL_ty q.1, q.2⟩⟩
end
end Lb
set_option Elab.async false
set_option linter.all false
set_option maxRecDepth 100000
set_option maxHeartbeats 4000000
/-! Lc: what simp steps by, data in the heap, mutable places, the drawing of numbers. Knows no program. -/
namespace Lb
open PySem PySem.Spec PyProof.Rows L2

/-! ### steps of the readings, each at its arguments -/
section
variable {σ : L2.St} {H : Hp} {Q : VK} {D : Ends}
theorem ap_seq {t u : TS} : tSeq t u D σ H = t { D with nx := u D } σ H := rfl
theorem ap_asg {te : TE} {g : TG} : tAsg te g D σ H = te σ H fun x H1 => g x σ H1 D.nx := rfl
theorem ap_gname {i : Nat} {v : V} {R : L2.St → Hp → Prop} : gName i v σ H R = R (σ.set i (some v)) H := rfl
theorem ap_var {i : Nat} : tVar i σ H Q = ∃ v, σ[i]? = some (some v) ∧ Q v H := rfl
theorem ap_c {v : V} : tC v σ H Q = Q v H := rfl
theorem ap_op {r : R2} {ta tb : TE} : tOp r ta tb σ H Q = ta σ H fun x H1 => tb σ H1 fun y H2 => r x y H2 Q := rfl
theorem ap_un {r : V → Hp → VK → Prop} {ta : TE} : tUn r ta σ H Q = ta σ H fun x H1 => r x H1 Q := rfl
theorem ap_rU {g : Int → V} {i : Int} : rU g (.int i) H Q = Q (g i) H := by
  apply propext
  constructor
  · rintro ⟨j, e, q⟩
    cases e
    exact q
  · intro q
    exact ⟨_, rfl, q⟩
theorem ap_rI0 {g : Int → Int → V} {i j : Int} : rI0 g (.int i) (.int j) H Q = Q (g i j) H := by
  apply propext
  constructor
  · rintro ⟨a, b, e1, e2, q⟩
    cases e1
    cases e2
    exact q
  · intro q
    exact ⟨_, _, rfl, rfl, q⟩
theorem ap_rI {C : Int → Int → Prop} {g : Int → Int → V} {i j : Int} : rI C g (.int i) (.int j) H Q = (C i j ∧ Q (g i j) H) := by
  apply propext
  constructor
  · rintro ⟨a, b, e1, e2, q⟩
    cases e1
    cases e2
    exact q
  · intro q
    exact ⟨_, _, rfl, rfl, q⟩
theorem ap_ifS {c : TT} {t u : TS} : tIfS c t u D σ H = c σ H fun b H1 => if b = true then t D σ H1 else u D σ H1 := rfl
theorem ap_test {t : TE} {R : Bool → Hp → Prop} : tTest t σ H R = t σ H fun x H' => ∃ k, x = .bl k ∧ R k H' := rfl
theorem ap_B {t : TE} {R : Bool → Hp → Prop} : tB t σ H R = t σ H fun x H' => ∃ k, x = .bl k ∧ R k H' := rfl
theorem ap_bl {b : Bool} {R : Bool → Hp → Prop} : (∃ k, V.bl b = .bl k ∧ R k H) = R b H := by
  apply propext
  constructor
  · rintro ⟨k, e, q⟩
    cases e
    exact q
  · intro q
    exact ⟨_, rfl, q⟩
theorem ap_ret {te : TE} : tRet te D σ H = te σ H D.rt := rfl
theorem ap_retN : tRetN D σ H = D.rt .non H := rfl
theorem ap_drop {te : TE} : tDrop te D σ H = te σ H fun _ H1 => D.nx σ H1 := rfl
theorem ap_next : tNext D σ H = D.nx σ H := rfl
theorem ap_brk : tBreak D σ H = D.bk σ H := rfl
theorem ap_cnt : tCont D σ H = D.ct σ H := rfl
theorem ap_and {t u : TT} {R : Bool → Hp → Prop} : tAnd t u σ H R = t σ H fun c H1 => if c = true then u σ H1 R else R false H1 := rfl
theorem ap_or {t u : TT} {R : Bool → Hp → Prop} : tOr t u σ H R = t σ H fun c H1 => if c = true then R true H1 else u σ H1 R := rfl
theorem ap_not {t : TT} {R : Bool → Hp → Prop} : tNot t σ H R = t σ H fun c H1 => R (!c) H1 := rfl
theorem ap_andV {ta tb : TE} : tAndV ta tb σ H Q = ta σ H fun x H1 => ∃ c, x = .bl c ∧ if c = true then tb σ H1 Q else Q (.bl false) H1 := rfl
theorem ap_orV {ta tb : TE} : tOrV ta tb σ H Q = ta σ H fun x H1 => ∃ c, x = .bl c ∧ if c = true then Q (.bl true) H1 else tb σ H1 Q := rfl
theorem ap_notV {ta : TE} : tNotV ta σ H Q = ta σ H fun x H1 => ∃ c, x = .bl c ∧ Q (.bl (!c)) H1 := rfl
theorem ap_if {t : TT} {ta tb : TE} : tIf t ta tb σ H Q = t σ H fun c H1 => if c = true then ta σ H1 Q else tb σ H1 Q := rfl
theorem ap_call {sp : Sp} {dvs : List V} {E : XK} {t : TA} : tCall sp dvs E t σ H Q = t σ H fun vs H1 => sp (vs ++ dvs) H1 Q E := rfl
theorem ap_cb {r : List V → Hp → VK → Prop} {t : TA} : tCB r t σ H Q = t σ H fun vs H1 => r vs H1 Q := rfl
theorem ap_cons {ta : TE} {tr : TA} {R : List V → Hp → Prop} : tCons ta tr σ H R = ta σ H fun x H1 => tr σ H1 fun xs H2 => R (x :: xs) H2 := rfl
theorem ap_nil {R : List V → Hp → Prop} : tNil σ H R = R [] H := rfl
theorem ap_tup {t : TA} : tTup t σ H Q = t σ H fun xs H1 => xs.length ≤ sizeLine ∧ ∀ p, H1 p = none → Q (.ref p) (upd H1 p (.tup xs)) := rfl
theorem ap_lst {t : TA} : tLst t σ H Q = t σ H fun xs H1 => xs.length ≤ sizeLine ∧ ∀ p, H1 p = none → Q (.ref p) (upd H1 p (.lst xs)) := rfl
theorem ap_bml {r : V → List V → Hp → VK → Prop} {to : TE} {t : TA} : tBML r to t σ H Q = to σ H fun x H1 => isL x H1 ∧ t σ H1 fun xs H2 => r x xs H2 Q := rfl
theorem ap_gsub {to ti : TE} {t : TSet} {v : V} {R : L2.St → Hp → Prop} : gSub to ti t v σ H R = to σ H fun o H1 => ti σ H1 fun i H2 => t o i v H2 fun H3 => R σ H3 := rfl
theorem ap_sl {r : V → Option Int → Option Int → Hp → VK → Prop} {te : TE} {tl th : TO} : tSl r te tl th σ H Q = te σ H fun x H1 => tl σ H1 fun l H2 => th σ H2 fun u H3 => r x l u H3 Q := rfl
theorem ap_nop {R : Option Int → Hp → Prop} : tNoPart σ H R = R none H := rfl
theorem ap_part {t : TE} {R : Option Int → Hp → Prop} : tPart t σ H R = t σ H fun x H1 => ∃ i, x = .int i ∧ R (some i) H1 := rfl
theorem ap_prt {i : Int} {R : Option Int → Hp → Prop} : (∃ j, V.int i = .int j ∧ R (some j) H) = R (some i) H := by
  apply propext
  constructor
  · rintro ⟨k, e, q⟩
    cases e
    exact q
  · intro q
    exact ⟨_, rfl, q⟩
theorem ap_isN {x : V} : rIsN x .non H Q = Q (.bl (decide (x = .non))) H := by
  apply propext
  constructor
  · rintro ⟨_, q⟩
    exact q
  · intro q
    exact ⟨rfl, q⟩
theorem ap_notN {x : V} : rNotN x .non H Q = Q (.bl (!decide (x = .non))) H := by
  apply propext
  constructor
  · rintro ⟨_, q⟩
    exact q
  · intro q
    exact ⟨rfl, q⟩
theorem ap_yes {R : Bool → Hp → Prop} : tYes σ H R = R true H := rfl
theorem ap_rng1 {ta : TA} {R : It → Hp → Prop} : iRng1 ta σ H R = ta σ H fun vs H1 => ∃ j : Int, vs = [.int j] ∧ -(2 ^ 62) ≤ j ∧ j < 2 ^ 62 ∧ R (Itr 0 j.toNat) H1 := rfl
theorem ap_rng1' {j : Int} {R : It → Hp → Prop} : (∃ i : Int, [V.int j] = [.int i] ∧ -(2 ^ 62) ≤ i ∧ i < 2 ^ 62 ∧ R (Itr 0 i.toNat) H) = (-(2 ^ 62) ≤ j ∧ j < 2 ^ 62 ∧ R (Itr 0 j.toNat) H) := by
  apply propext
  constructor
  · rintro ⟨k, e, q⟩
    cases e
    exact q
  · intro q
    exact ⟨_, rfl, q⟩
theorem ite_tt {A B : Prop} : (if true = true then A else B) = A := if_pos rfl
theorem ite_ff {A B : Prop} : (if false = true then A else B) = B := if_neg Bool.false_ne_true
end

/-! ### heaps that grow -/
theorem Same.newp {H : Hp} {p : Addr} {o : HO} (h : H p = none) : Same H (upd H p o) := fun b u e => by
  rw [upd_ne (ne_of_none e h)]
  exact e
/-- the heap without the places of S -/
def hid (S : List Addr) (H : Hp) : Hp := fun b => if b ∈ S then none else H b
theorem hid_out {S : List Addr} {H : Hp} {b : Addr} (h : b ∉ S) : hid S H b = H b := if_neg h
theorem hid_in {S : List Addr} {H : Hp} {b : Addr} (h : b ∈ S) : hid S H b = none := if_pos h
theorem hid_sub {S : List Addr} {H : Hp} : Same (hid S H) H := fun b o e => by
  by_cases h : b ∈ S
  · rw [hid_in h] at e
    cases e
  · rw [hid_out h] at e
    exact e
theorem hid_some {S : List Addr} {H : Hp} {b : Addr} {o : HO} (h : hid S H b = some o) : H b = some o ∧ b ∉ S := by
  by_cases q : b ∈ S
  · rw [hid_in q] at h
    cases h
  · rw [hid_out q] at h
    exact ⟨h, q⟩
theorem hid_upd {S : List Addr} {H : Hp} {a : Addr} {o : HO} (h : a ∈ S) : hid S (upd H a o) = hid S H := by
  funext b
  by_cases q : b ∈ S
  · rw [hid_in q, hid_in q]
  · rw [hid_out q, hid_out q, upd_ne fun e => q (by rw [e]; exact h)]
theorem hid_updN {S : List Addr} {H : Hp} {a : Addr} {o : HO} (h : a ∉ S) : hid S (upd H a o) = upd (hid S H) a o := by
  funext b
  by_cases q : b ∈ S
  · rw [hid_in q, upd_ne (fun e => h (by rw [← e]; exact q)), hid_in q]
  · rw [hid_out q]
    by_cases e : b = a
    · rw [e, upd_same, upd_same]
    · rw [upd_ne e, upd_ne e, hid_out q]
theorem hid_eq {S : List Addr} {H H' : Hp} (h : ∀ b, b ∉ S → H' b = H b) : hid S H' = hid S H := by
  funext b
  by_cases q : b ∈ S
  · rw [hid_in q, hid_in q]
  · rw [hid_out q, hid_out q, h b q]
theorem hid_mono {S S' : List Addr} {H : Hp} (h : ∀ b, b ∈ S → b ∈ S') : Same (hid S' H) (hid S H) := fun b o e => by
  obtain ⟨e1, e2⟩ := hid_some e
  rw [hid_out fun q => e2 (h b q)]
  exact e1
theorem Same.hid {S : List Addr} {H H' : Hp} (h : Same H H') : Same (hid S H) (hid S H') := fun b o e => by
  obtain ⟨e1, e2⟩ := hid_some e
  rw [hid_out e2]
  exact h b o e1

/-! ### data -/
mutual
inductive Dt (H : Hp) : V → PyData → Prop
  | non : Dt H .non .none
  | bl (b : Bool) : Dt H (.bl b) (.bool b)
  | int (i : Int) : Dt H (.int i) (.int i)
  | str (x : Str) : Dt H (.str x) (.str x)
  | lst {a : Addr} {xs : List V} {ds : List PyData} : H a = some (.lst xs) → DtAll H xs ds → Dt H (.ref a) (.list ds)
  | tup {a : Addr} {xs : List V} {ds : List PyData} : H a = some (.tup xs) → DtAll H xs ds → Dt H (.ref a) (.tuple ds)
inductive DtAll (H : Hp) : List V → List PyData → Prop
  | nil : DtAll H [] []
  | cons {v : V} {vs : List V} {d : PyData} {ds : List PyData} : Dt H v d → DtAll H vs ds → DtAll H (v :: vs) (d :: ds)
end
mutual
theorem Dt.mono {H H' : Hp} (e : Same H H') : ∀ {v : V} {d : PyData}, Dt H v d → Dt H' v d
  | _, _, .non => .non
  | _, _, .bl b => .bl b
  | _, _, .int i => .int i
  | _, _, .str x => .str x
  | _, _, .lst h k => .lst (e _ _ h) (DtAll.mono e k)
  | _, _, .tup h k => .tup (e _ _ h) (DtAll.mono e k)
theorem DtAll.mono {H H' : Hp} (e : Same H H') : ∀ {vs : List V} {ds : List PyData}, DtAll H vs ds → DtAll H' vs ds
  | _, _, .nil => .nil
  | _, _, .cons h k => .cons (Dt.mono e h) (DtAll.mono e k)
end
mutual
theorem Dt.dp {K : PySem.W.Frag} {H : Hp} : ∀ {v : V} {d : PyData}, Dt H v d → Dp K H v d
  | _, _, .non => .non
  | _, _, .bl b => .bl b
  | _, _, .int i => .int i
  | _, _, .str x => .str x
  | _, _, .lst h k => .lst (SqL.of h) (DtAll.dp k)
  | _, _, .tup h k => .tup (SqT.of h) (DtAll.dp k)
theorem DtAll.dp {K : PySem.W.Frag} {H : Hp} : ∀ {vs : List V} {ds : List PyData}, DtAll H vs ds → DpAll K H vs ds
  | _, _, .nil => .nil
  | _, _, .cons h k => .cons (Dt.dp h) (DtAll.dp k)
end
section
variable {H : Hp}
theorem DtAll.append : ∀ {xs ys : List V} {ds es : List PyData}, DtAll H xs ds → DtAll H ys es → DtAll H (xs ++ ys) (ds ++ es)
  | _, _, _, _, .nil, k => k
  | _, _, _, _, .cons a b, k => .cons a (DtAll.append b k)
theorem DtAll.length : ∀ {xs : List V} {ds : List PyData}, DtAll H xs ds → xs.length = ds.length
  | _, _, .nil => rfl
  | _, _, .cons _ k => by rw [List.length_cons, List.length_cons, DtAll.length k]
theorem DtAll.get : ∀ {xs : List V} {ds : List PyData} {i : Nat} {d : PyData}, DtAll H xs ds → ds[i]? = some d → ∃ v, xs[i]? = some v ∧ Dt H v d
  | _, _, _, _, .nil, e => by simp at e
  | _, _, 0, _, .cons a _, e => by simp at e; subst e; exact ⟨_, rfl, a⟩
  | _, _, i + 1, d, .cons _ k, e => by
    obtain ⟨v, h1, h2⟩ := DtAll.get (i := i) (d := d) k (by simpa using e)
    exact ⟨v, by simpa using h1, h2⟩
theorem DtAll.get' : ∀ {xs : List V} {ds : List PyData} {i : Nat} {v : V}, DtAll H xs ds → xs[i]? = some v → ∃ d, ds[i]? = some d ∧ Dt H v d
  | _, _, _, _, .nil, e => by simp at e
  | _, _, 0, _, .cons a _, e => by simp at e; subst e; exact ⟨_, rfl, a⟩
  | _, _, i + 1, v, .cons _ k, e => by
    obtain ⟨d, h1, h2⟩ := DtAll.get' (i := i) (v := v) k (by simpa using e)
    exact ⟨d, by simpa using h1, h2⟩
theorem DtAll.ints : ∀ ns : List Int, DtAll H (ns.map V.int) (ns.map PyData.int)
  | [] => .nil
  | n :: r => .cons (.int n) (DtAll.ints r)
theorem DtAll.intsI : ∀ {ns : List Int} {vs : List V}, DtAll H vs (ns.map PyData.int) → vs = ns.map V.int
  | [], _, .nil => rfl
  | n :: r, _, .cons (.int _) k => by rw [DtAll.intsI k]; rfl
theorem DtAll.take : ∀ {xs : List V} {ds : List PyData} (n : Nat), DtAll H xs ds → DtAll H (xs.take n) (ds.take n)
  | _, _, 0, _ => .nil
  | _, _, _ + 1, .nil => .nil
  | _, _, n + 1, .cons a k => .cons a (DtAll.take n k)
theorem DtAll.drop : ∀ {xs : List V} {ds : List PyData} (n : Nat), DtAll H xs ds → DtAll H (xs.drop n) (ds.drop n)
  | _, _, 0, k => k
  | _, _, _ + 1, .nil => .nil
  | _, _, n + 1, .cons _ k => DtAll.drop n k
theorem DtAll.set : ∀ {xs : List V} {ds : List PyData} {v : V} {d : PyData} (i : Nat), Dt H v d → DtAll H xs ds → DtAll H (xs.set i v) (ds.set i d)
  | _, _, _, _, _, _, .nil => .nil
  | _, _, _, _, 0, h, .cons _ k => .cons h k
  | _, _, _, _, i + 1, h, .cons a k => .cons a (DtAll.set i h k)
theorem DtAll.erase : ∀ {xs : List V} {ds : List PyData} (i : Nat), DtAll H xs ds → DtAll H (xs.eraseIdx i) (ds.eraseIdx i)
  | _, _, _, .nil => .nil
  | _, _, 0, .cons _ k => k
  | _, _, i + 1, .cons a k => .cons a (DtAll.erase i k)
theorem DtAll.rev {xs : List V} {ds : List PyData} (h : DtAll H xs ds) : DtAll H xs.reverse ds.reverse := by
  induction xs generalizing ds with
  | nil => cases h; exact .nil
  | cons x r ih =>
    cases h with
    | cons a k =>
      rw [List.reverse_cons, List.reverse_cons]
      exact DtAll.append (ih k) (.cons a .nil)
end
/-- data that are equal as Python says, where it can be looked at -/
abbrev Shp (d : PyData) : Prop := SeqAt.shaped d = true
theorem eqv_self {d : PyData} (h : Shp d) : PyData.eqv d d = true := SeqAt.eqv_refl d (SeqAt.canLay_of_shaped h)
section
variable {K : PySem.W.Frag} {H : Hp} {Q : VK} {x y : V} {d e : PyData}
/-- a == b of two data -/
theorem rd_eq (hx : Dt H x d) (hy : Dt H y e) (h1 : Shp d) (h2 : Shp e) (q : Q (.bl (PyData.eqv d e)) H) : rEqA K x y H Q := by
  unfold rEqA
  split
  · rename_i b h
    obtain ⟨h3, h4⟩ := eqF_ok h
    have e1 : PyData.eqv d e = b := by
      cases hx <;> cases hy <;> simp_all [eqF, PyData.eqv] <;> (rw [← h]; exact Bool.eq_iff_iff.mpr (by simp))
    rw [← e1]
    exact q
  · exact ⟨d, e, hx.dp, hy.dp, h1, h2, q⟩
theorem rd_ne (hx : Dt H x d) (hy : Dt H y e) (h1 : Shp d) (h2 : Shp e) (q : Q (.bl (!PyData.eqv d e)) H) : rNeA K x y H Q := by
  unfold rNeA
  split
  · rename_i b h
    obtain ⟨h3, h4⟩ := eqF_ok h
    have e1 : PyData.eqv d e = b := by
      cases hx <;> cases hy <;> simp_all [eqF, PyData.eqv] <;> (rw [← h]; exact Bool.eq_iff_iff.mpr (by simp))
    rw [← e1]
    exact q
  · exact ⟨d, e, hx.dp, hy.dp, h1, h2, q⟩
/-- the same data on both sides -/
theorem rd_eqT (hx : Dt H x d) (hy : Dt H y d) (h1 : Shp d) (q : Q (.bl true) H) : rEqA K x y H Q := rd_eq hx hy h1 h1 (by rw [eqv_self h1]; exact q)
theorem rd_neF (hx : Dt H x d) (hy : Dt H y d) (h1 : Shp d) (q : Q (.bl false) H) : rNeA K x y H Q := rd_ne hx hy h1 h1 (by rw [eqv_self h1]; exact q)
end
end Lb
set_option Elab.async false
set_option linter.all false
set_option maxRecDepth 100000
set_option maxHeartbeats 4000000
/-! Ld: the steps of a reading, one lemma a step; the drawing of numbers. Knows no program. -/
namespace Lb
open PySem PySem.Spec PyProof.Rows L2
section
variable {σ : L2.St} {H : Hp} {Q : VK} {nx : L2.St → Hp → Prop} {rt : VK} {bk ct : L2.St → Hp → Prop}
/-- a value as a test -/
def tTru (K : PySem.W.Frag) (ta : TE) : TT := fun σ H Q => ta σ H fun x H' => ∃ k, TruV K x H' k ∧ Q k H'
theorem i_seq {t u : TS} (q : t ⟨fun σ H => u ⟨nx, rt, bk, ct⟩ σ H, rt, bk, ct⟩ σ H) : tSeq t u ⟨nx, rt, bk, ct⟩ σ H := q
theorem i_asg {te : TE} {g : TG} (q : te σ H fun x H1 => g x σ H1 nx) : tAsg te g ⟨nx, rt, bk, ct⟩ σ H := q
theorem i_gname {i : Nat} {v : V} {R : L2.St → Hp → Prop} (q : R (σ.set i (some v)) H) : gName i v σ H R := q
theorem i_ifS {c : TT} {t u : TS} (q : c σ H fun b H1 => if b = true then t ⟨nx, rt, bk, ct⟩ σ H1 else u ⟨nx, rt, bk, ct⟩ σ H1) : tIfS c t u ⟨nx, rt, bk, ct⟩ σ H := q
theorem i_ret {te : TE} (q : te σ H rt) : tRet te ⟨nx, rt, bk, ct⟩ σ H := q
theorem i_retN (q : rt .non H) : tRetN ⟨nx, rt, bk, ct⟩ σ H := q
theorem i_drop {te : TE} (q : te σ H fun _ H1 => nx σ H1) : tDrop te ⟨nx, rt, bk, ct⟩ σ H := q
theorem i_next (q : nx σ H) : tNext ⟨nx, rt, bk, ct⟩ σ H := q
theorem i_brk (q : bk σ H) : tBreak ⟨nx, rt, bk, ct⟩ σ H := q
theorem i_cnt (q : ct σ H) : tCont ⟨nx, rt, bk, ct⟩ σ H := q
theorem i_par {i j : Nat} {ta : TA} (q : ta σ H fun vs H1 => ∃ v w, vs = [v, w] ∧ nx ((σ.set i (some v)).set j (some w)) H1) : tPar i j ta ⟨nx, rt, bk, ct⟩ σ H := q
theorem i_par2 {v w : V} {P : V → V → Prop} (q : P v w) : (∃ v' w', [v, w] = [v', w'] ∧ P v' w') := ⟨_, _, rfl, q⟩
theorem i_fldS {K : PySem.W.Frag} {ta tv : TE} {f : Str} (q : tv σ H fun y H1 => ta σ H1 fun x H2 => ∃ a C dx fs, x = .ref a ∧ H2 a = some (.ins C dx fs) ∧ Cls K C ∧ NoAttr K C f ∧ fs.length < 1000 ∧ nx σ (upd H2 a (.ins C dx (putF f y fs)))) : sFld K ta tv f ⟨nx, rt, bk, ct⟩ σ H := q
theorem i_dput {td ty tv : TE} (q : tv σ H fun v H1 => td σ H1 fun x H2 => ty σ H2 fun y H3 => ∃ a H4, x = .ref a ∧ DPut H3 a y v H4 ∧ nx σ H4) : sDPut td ty tv ⟨nx, rt, bk, ct⟩ σ H := q
theorem i_var {i : Nat} {v : V} (h : σ[i]? = some (some v)) (q : Q v H) : tVar i σ H Q := ⟨v, h, q⟩
theorem i_tB {b : Bool} {A B : Prop} (h : b = true) (q : A) : (if b = true then A else B) := by rw [if_pos h]; exact q
theorem i_fB {b : Bool} {A B : Prop} (h : b = false) (q : B) : (if b = true then A else B) := by rw [h, if_neg Bool.false_ne_true]; exact q
theorem i_c {v : V} (q : Q v H) : tC v σ H Q := q
theorem i_op {r : R2} {ta tb : TE} (q : ta σ H fun x H1 => tb σ H1 fun y H2 => r x y H2 Q) : tOp r ta tb σ H Q := q
theorem i_un {r : V → Hp → VK → Prop} {ta : TE} (q : ta σ H fun x H1 => r x H1 Q) : tUn r ta σ H Q := q
theorem i_rU {g : Int → V} {i : Int} (q : Q (g i) H) : rU g (.int i) H Q := ⟨i, rfl, q⟩
theorem i_rI0 {g : Int → Int → V} {i j : Int} (q : Q (g i j) H) : rI0 g (.int i) (.int j) H Q := ⟨i, j, rfl, rfl, q⟩
theorem i_rI {C : Int → Int → Prop} {g : Int → Int → V} {i j : Int} (c : C i j) (q : Q (g i j) H) : rI C g (.int i) (.int j) H Q := ⟨i, j, rfl, rfl, c, q⟩
theorem i_test {t : TE} {R : Bool → Hp → Prop} (q : t σ H fun x H' => ∃ k, x = .bl k ∧ R k H') : tTest t σ H R := q
theorem i_B {t : TE} {R : Bool → Hp → Prop} (q : t σ H fun x H' => ∃ k, x = .bl k ∧ R k H') : tB t σ H R := q
theorem i_bl {b : Bool} {R : Bool → Prop} (q : R b) : (∃ k, V.bl b = .bl k ∧ R k) := ⟨b, rfl, q⟩
theorem i_tru {K : PySem.W.Frag} {te : TE} {R : Bool → Hp → Prop} (q : te σ H fun x H' => ∃ k, TruV K x H' k ∧ R k H') : tTru K te σ H R := q
theorem i_truB {K : PySem.W.Frag} {b : Bool} {R : Bool → Prop} (q : R b) : (∃ k, TruV K (.bl b) H k ∧ R k) := ⟨b, rfl, q⟩
theorem i_and {t u : TT} {R : Bool → Hp → Prop} (q : t σ H fun c H1 => if c = true then u σ H1 R else R false H1) : tAnd t u σ H R := q
theorem i_or {t u : TT} {R : Bool → Hp → Prop} (q : t σ H fun c H1 => if c = true then R true H1 else u σ H1 R) : tOr t u σ H R := q
theorem i_not {t : TT} {R : Bool → Hp → Prop} (q : t σ H fun c H1 => R (!c) H1) : tNot t σ H R := q
theorem i_andV {ta tb : TE} (q : ta σ H fun x H1 => ∃ c, x = .bl c ∧ if c = true then tb σ H1 Q else Q (.bl false) H1) : tAndV ta tb σ H Q := q
theorem i_orV {ta tb : TE} (q : ta σ H fun x H1 => ∃ c, x = .bl c ∧ if c = true then Q (.bl true) H1 else tb σ H1 Q) : tOrV ta tb σ H Q := q
theorem i_notV {ta : TE} (q : ta σ H fun x H1 => ∃ c, x = .bl c ∧ Q (.bl (!c)) H1) : tNotV ta σ H Q := q
theorem i_if {t : TT} {ta tb : TE} (q : t σ H fun c H1 => if c = true then ta σ H1 Q else tb σ H1 Q) : tIf t ta tb σ H Q := q
theorem i_call {sp : Sp} {E : XK} {t : TA} (q : t σ H fun vs H1 => sp (vs ++ []) H1 Q E) : tCall sp [] E t σ H Q := q
theorem i_meth {C : Addr} {m : Str} {sp : Sp} {E : XK} {ta : TE} {t : TA} (q : ta σ H fun x H1 => ∃ a dx fs, x = .ref a ∧ H1 a = some (.ins C dx fs) ∧ fs.lookup m = none ∧ t σ H1 fun vs H2 => sp (x :: (vs ++ [])) H2 Q E) : tMeth C m sp [] E ta t σ H Q := q
theorem i_make {C : Addr} {sp : Sp} {E : XK} {t : TA} (q : t σ H fun vs H1 => ∀ x dx, H1 x = none → H1 dx = none → dx ≠ x → sp (.ref x :: (vs ++ [])) (upd (upd H1 dx (.own x)) x (.ins C dx [])) (fun v H2 => v = .non ∧ Q (.ref x) H2) E) : tMake C sp [] E t σ H Q := q
theorem i_cb {r : List V → Hp → VK → Prop} {t : TA} (q : t σ H fun vs H1 => r vs H1 Q) : tCB r t σ H Q := q
theorem i_cons {ta : TE} {tr : TA} {R : List V → Hp → Prop} (q : ta σ H fun x H1 => tr σ H1 fun xs H2 => R (x :: xs) H2) : tCons ta tr σ H R := q
theorem i_nil {R : List V → Hp → Prop} (q : R [] H) : tNil σ H R := q
theorem i_tup {t : TA} (q : t σ H fun xs H1 => xs.length ≤ sizeLine ∧ ∀ p, H1 p = none → Q (.ref p) (upd H1 p (.tup xs))) : tTup t σ H Q := q
theorem i_lst {t : TA} (q : t σ H fun xs H1 => xs.length ≤ sizeLine ∧ ∀ p, H1 p = none → Q (.ref p) (upd H1 p (.lst xs))) : tLst t σ H Q := q
theorem i_bml {r : V → List V → Hp → VK → Prop} {to : TE} {t : TA} (q : to σ H fun x H1 => isL x H1 ∧ t σ H1 fun xs H2 => r x xs H2 Q) : tBML r to t σ H Q := q
theorem i_isL {l : Addr} {xs : List V} {R : Prop} (h : H l = some (.lst xs)) (q : R) : isL (.ref l) H ∧ R := ⟨by simp only [isL, h], q⟩
theorem i_gsub {to ti : TE} {t : TSet} {v : V} {R : L2.St → Hp → Prop} (q : to σ H fun o H1 => ti σ H1 fun i H2 => t o i v H2 fun H3 => R σ H3) : gSub to ti t v σ H R := q
theorem i_gtup {K : PySem.W.Frag} {n : Nat} {t : TGs} {a : Addr} {xs : List V} {R : L2.St → Hp → Prop} (h : H a = some (.tup xs)) (hn : xs.length = n) (q : t xs σ H R) : gTup K n t (.ref a) σ H R := ⟨a, xs, rfl, SqT.of h, hn, q⟩
theorem i_gcons {t : TG} {u : TGs} {v : V} {vs : List V} {R : L2.St → Hp → Prop} (q : t v σ H fun σ' H' => u vs σ' H' R) : gCons t u (v :: vs) σ H R := ⟨v, vs, rfl, q⟩
theorem i_gnil {R : L2.St → Hp → Prop} (q : R σ H) : gNil [] σ H R := ⟨rfl, q⟩
theorem i_sl {r : V → Option Int → Option Int → Hp → VK → Prop} {te : TE} {tl th : TO} (q : te σ H fun x H1 => tl σ H1 fun l H2 => th σ H2 fun u H3 => r x l u H3 Q) : tSl r te tl th σ H Q := q
theorem i_nop {R : Option Int → Hp → Prop} (q : R none H) : tNoPart σ H R := q
theorem i_part {t : TE} {R : Option Int → Hp → Prop} (q : t σ H fun x H1 => ∃ i, x = .int i ∧ R (some i) H1) : tPart t σ H R := q
theorem i_prt {i : Int} {R : Int → Prop} (q : R i) : (∃ j, V.int i = .int j ∧ R j) := ⟨i, rfl, q⟩
theorem i_isN {x : V} (q : Q (.bl (decide (x = .non))) H) : rIsN x .non H Q := ⟨rfl, q⟩
theorem i_notN {x : V} (q : Q (.bl (!decide (x = .non))) H) : rNotN x .non H Q := ⟨rfl, q⟩
theorem i_yes {R : Bool → Hp → Prop} (q : R true H) : tYes σ H R := q
theorem i_tt {A B : Prop} (q : A) : (if true = true then A else B) := by rw [if_pos rfl]; exact q
theorem i_ff {A B : Prop} (q : B) : (if false = true then A else B) := by rw [if_neg Bool.false_ne_true]; exact q
theorem i_dy {p : Prop} [Decidable p] {A B : Prop} (h : p) (q : A) : (if decide p = true then A else B) := by rw [if_pos (decide_eq_true h)]; exact q
theorem i_dn {p : Prop} [Decidable p] {A B : Prop} (h : ¬ p) (q : B) : (if decide p = true then A else B) := by rw [if_neg (by simp [h])]; exact q
theorem i_ny {p : Prop} [Decidable p] {A B : Prop} (h : ¬ p) (q : A) : (if (!decide p) = true then A else B) := by rw [if_pos (by simp [h])]; exact q
theorem i_nn {p : Prop} [Decidable p] {A B : Prop} (h : p) (q : B) : (if (!decide p) = true then A else B) := by rw [if_neg (by simp [h])]; exact q
theorem i_d2 {p : Prop} [Decidable p] {A B : Prop} (q1 : p → A) (q2 : ¬ p → B) : (if decide p = true then A else B) := by
  by_cases h : p
  · exact i_dy h (q1 h)
  · exact i_dn h (q2 h)
theorem i_n2 {p : Prop} [Decidable p] {A B : Prop} (q1 : ¬ p → A) (q2 : p → B) : (if (!decide p) = true then A else B) := by
  by_cases h : p
  · exact i_nn h (q2 h)
  · exact i_ny h (q1 h)
theorem i_ntt {A B : Prop} (q : B) : (if (!true) = true then A else B) := by rw [if_neg (by simp)]; exact q
theorem i_nff {A B : Prop} (q : A) : (if (!false) = true then A else B) := by rw [if_pos (by simp)]; exact q
theorem i_dnI {i : Int} {A B : Prop} (q : B) : (if decide (V.int i = V.non) = true then A else B) := i_dn (by intro h; cases h) q
theorem i_nyI {i : Int} {A B : Prop} (q : A) : (if (!decide (V.int i = V.non)) = true then A else B) := i_ny (by intro h; cases h) q
theorem i_dnR {i : Addr} {A B : Prop} (q : B) : (if decide (V.ref i = V.non) = true then A else B) := i_dn (by intro h; cases h) q
theorem i_nyR {i : Addr} {A B : Prop} (q : A) : (if (!decide (V.ref i = V.non)) = true then A else B) := i_ny (by intro h; cases h) q
theorem i_dnS {i : Str} {A B : Prop} (q : B) : (if decide (V.str i = V.non) = true then A else B) := i_dn (by intro h; cases h) q
theorem i_nyS {i : Str} {A B : Prop} (q : A) : (if (!decide (V.str i = V.non)) = true then A else B) := i_ny (by intro h; cases h) q
theorem i_addI {a b : Int} (q : Q (.int (a + b)) H) : rAddA (.int a) (.int b) H Q := q
theorem i_addS {a b : Str} (h : a.length + b.length ≤ sizeLine) (q : Q (.str (a ++ b)) H) : rAddA (.str a) (.str b) H Q := ⟨h, q⟩
theorem i_addL {p q : Addr} {xs ys : List V} (h1 : H p = some (.lst xs)) (h2 : H q = some (.lst ys)) (h : xs.length + ys.length ≤ sizeLine) (k : ∀ r, H r = none → Q (.ref r) (upd H r (.lst (xs ++ ys)))) : rAddA (.ref p) (.ref q) H Q := by simp only [rAddA, h1, h2]; exact ⟨h, k⟩
theorem i_mulI {a b : Int} (c : CMul a b) (q : Q (.int (a * b)) H) : rMulA (.int a) (.int b) H Q := ⟨c, q⟩
theorem i_eqF {K : PySem.W.Frag} {x y : V} {b : Bool} (h : eqF x y = some b) (q : Q (.bl b) H) : rEqA K x y H Q := by simp only [rEqA, h]; exact q
theorem i_neF {K : PySem.W.Frag} {x y : V} {b : Bool} (h : eqF x y = some b) (q : Q (.bl (!b)) H) : rNeA K x y H Q := by simp only [rNeA, h]; exact q
theorem i_eqI {K : PySem.W.Frag} {a b : Int} (q : Q (.bl (decide (a = b))) H) : rEqA K (.int a) (.int b) H Q := q
theorem i_neI {K : PySem.W.Frag} {a b : Int} (q : Q (.bl (!decide (a = b))) H) : rNeA K (.int a) (.int b) H Q := q
theorem i_eqS {K : PySem.W.Frag} {a b : Str} (q : Q (.bl (decide (a = b))) H) : rEqA K (.str a) (.str b) H Q := q
theorem i_neS {K : PySem.W.Frag} {a b : Str} (q : Q (.bl (!decide (a = b))) H) : rNeA K (.str a) (.str b) H Q := q
theorem i_ixL {p : Addr} {xs : List V} {i : Int} {v : V} (h : H p = some (.lst xs)) (hi : atI xs i = some v) (q : Q v H) : rIxA (.ref p) (.int i) H Q := by simp only [rIxA, h]; exact ⟨v, hi, q⟩
theorem i_ixT {p : Addr} {xs : List V} {i : Int} {v : V} (h : H p = some (.tup xs)) (hi : atI xs i = some v) (q : Q v H) : rIxA (.ref p) (.int i) H Q := by simp only [rIxA, h]; exact ⟨v, hi, q⟩
theorem i_slL {p : Addr} {xs : List V} {lo hi : Option Int} (h : H p = some (.lst xs)) (k : ∀ q, H q = none → Q (.ref q) (upd H q (.lst (cutV xs lo hi)))) : rSlA (.ref p) lo hi H Q := by simp only [rSlA, h]; exact k
theorem i_slT {p : Addr} {xs : List V} {lo hi : Option Int} (h : H p = some (.tup xs)) (c : ¬ (HT.sIx xs.length 0 lo = 0 ∧ HT.sIx xs.length xs.length hi = xs.length)) (k : ∀ q, H q = none → Q (.ref q) (upd H q (.tup (cutV xs lo hi)))) : rSlA (.ref p) lo hi H Q := by simp only [rSlA, h]; exact ⟨c, k⟩
theorem i_lenL {p : Addr} {xs : List V} (h : H p = some (.lst xs)) (q : Q (.int xs.length) H) : rLenA [.ref p] H Q := by simp only [rLenA, h]; exact q
theorem i_lenT {p : Addr} {xs : List V} (h : H p = some (.tup xs)) (q : Q (.int xs.length) H) : rLenA [.ref p] H Q := by simp only [rLenA, h]; exact q
theorem i_lenD {p : Addr} {kvs : List (Key × V)} (h : H p = some (.dK kvs)) (q : Q (.int kvs.length) H) : rLenA [.ref p] H Q := by simp only [rLenA, h]; exact q
theorem i_lenS {y : Str} (h : y.length ≤ sizeLine) (q : Q (.int y.length) H) : rLenA [.str y] H Q := ⟨h, q⟩
theorem i_intI {i : Int} (q : Q (.int i) H) : rIntA [.int i] H Q := q
theorem i_intB {k : Bool} (q : Q (.int (if k = true then 1 else 0)) H) : rIntA [.bl k] H Q := q
theorem i_abs {i : Int} (q : Q (.int (if i < 0 then -i else i)) H) : rAbsA [.int i] H Q := q
theorem i_listL {p : Addr} {xs : List V} (h : H p = some (.lst xs)) (k : ∀ l, H l = none → Q (.ref l) (upd H l (.lst xs))) : rListA [.ref p] H Q := by simp only [rListA, h]; exact k
theorem i_listT {p : Addr} {xs : List V} (h : H p = some (.tup xs)) (k : ∀ l, H l = none → Q (.ref l) (upd H l (.lst xs))) : rListA [.ref p] H Q := by simp only [rListA, h]; exact k
theorem i_tupL {p : Addr} {xs : List V} (h : H p = some (.lst xs)) (k : ∀ l, H l = none → Q (.ref l) (upd H l (.tup xs))) : rTupA [.ref p] H Q := by simp only [rTupA, h]; exact k
theorem i_isi {x : V} {T t : String} {b : Bool} (h1 : tyN x H = some t) (h2 : kitB t T = some b) (q : Q (.bl b) H) : rIsiA [x, .ty T] H Q := by simp only [rIsiA, h1]; exact ⟨b, h2, q⟩
theorem i_isiLL {p : Addr} {xs : List V} (h : H p = some (.lst xs)) (q : Q (.bl true) H) : rIsiA [.ref p, .ty "list"] H Q := i_isi (t := "list") (by simp only [tyN, h]) (by decide +kernel) q
theorem i_isiTL {p : Addr} {xs : List V} (h : H p = some (.tup xs)) (q : Q (.bl false) H) : rIsiA [.ref p, .ty "list"] H Q := i_isi (t := "tuple") (by simp only [tyN, h]) (by decide +kernel) q
theorem i_isiIB {i : Int} (q : Q (.bl false) H) : rIsiA [.int i, .ty "bool"] H Q := i_isi (t := "int") rfl (by decide +kernel) q
theorem i_isiNB (q : Q (.bl false) H) : rIsiA [.non, .ty "bool"] H Q := i_isi (t := "NoneType") rfl (by decide +kernel) q
theorem i_isiBB {k : Bool} (q : Q (.bl true) H) : rIsiA [.bl k, .ty "bool"] H Q := i_isi (t := "bool") rfl (by decide +kernel) q
theorem i_app {l : Addr} {xs : List V} {y : V} (h : H l = some (.lst xs)) (hz : xs.length < sizeLine) (q : Q .non (upd H l (.lst (xs ++ [y])))) : rAppA (.ref l) [y] H Q := by simp only [rAppA, h]; exact ⟨hz, q⟩
theorem i_ext {l p : Addr} {xs ys : List V} (h : H l = some (.lst xs)) (h2 : H p = some (.lst ys)) (hz : xs.length + ys.length ≤ sizeLine) (q : Q .non (upd H l (.lst (xs ++ ys)))) : rExtA (.ref l) [.ref p] H Q := by simp only [rExtA, h, h2]; exact ⟨hz, q⟩
theorem i_popL {l : Addr} {xs : List V} {y : V} (h : H l = some (.lst xs)) (hy : xs[xs.length - 1]? = some y) (q : Q y (upd H l (.lst xs.dropLast))) : rPopL (.ref l) [] H Q := by simp only [rPopL, h]; exact ⟨y, hy, q⟩
theorem i_popI {l : Addr} {xs : List V} {k : Nat} {y : V} (h : H l = some (.lst xs)) (hk : k < 2 ^ 62) (hy : xs[k]? = some y) (q : Q y (upd H l (.lst (xs.eraseIdx k)))) : rPopI (.ref l) [.int (k : Int)] H Q := by simp only [rPopI, h]; exact ⟨k, y, rfl, hk, hy, q⟩
theorem i_pop0 {l : Addr} {ys : List V} {y : V} (h : H l = some (.lst (y :: ys))) (q : Q y (upd H l (.lst ys))) : rPopI (.ref l) [.int 0] H Q := i_popI (k := 0) h (by decide) rfl q
theorem i_setL {p : Addr} {xs : List V} {k : Int} {j : Nat} {v : V} {R : Hp → Prop} (h : H p = some (.lst xs)) (hj : ixN xs.length k = some j) (q : R (upd H p (.lst (xs.set j v)))) : rSetA (.ref p) (.int k) v H R := by simp only [rSetA, h]; exact ⟨j, hj, q⟩
theorem i_dget {td ty : TE} (q : td σ H fun x H1 => ty σ H1 fun y H2 => ∃ a v, x = .ref a ∧ DGet H2 a y (some v) ∧ Q v H2) : tDGet td ty σ H Q := q
theorem i_dgetK {a : Addr} {kvs : List (Key × V)} {k : Key} {y v : V} {R : V → Prop} (h : H a = some (.dK kvs)) (hy : y = kV k) (hv : valV kvs k = some v) (q : R v) : (∃ a' v', V.ref a = .ref a' ∧ DGet H a' y (some v') ∧ R v') := ⟨a, v, rfl, .inl ⟨kvs, k, Rd.of h, hy, hv.symm⟩, q⟩
theorem i_dputK {a : Addr} {kvs : List (Key × V)} {k : Key} {y v : V} {R : Hp → Prop} (h : H a = some (.dK kvs)) (hy : y = kV k) (hz : kvs.length < sizeLine) (q : R (upd H a (.dK (putK kvs k v)))) : (∃ a' H4, V.ref a = .ref a' ∧ DPut H a' y v H4 ∧ R H4) := ⟨a, _, rfl, .inl ⟨kvs, k, h, hy, hz, rfl⟩, q⟩
theorem i_disp {trs : List (TE × TE)} (q : ∀ p, H p = none → tPairs trs σ (upd H p (.dK [])) fun ps H2 => H2 p = some (.dK []) ∧ ∃ kvs : List (Key × V), ps = kvs.map (fun kv => (kV kv.1, kv.2)) ∧ kvs.length ≤ 15 ∧ Q (.ref p) (upd H2 p (.dK (mergeK [] kvs)))) : tDisp trs σ H Q := q
theorem i_pcons {tk tv : TE} {r : List (TE × TE)} {R : List (V × V) → Hp → Prop} (q : tk σ H fun x H1 => tv σ H1 fun y H2 => tPairs r σ H2 fun ps H3 => R ((x, y) :: ps) H3) : tPairs ((tk, tv) :: r) σ H R := q
theorem i_pnil {R : List (V × V) → Hp → Prop} (q : R [] H) : tPairs [] σ H R := q
theorem i_neN {K : PySem.W.Frag} (q : Q (.bl false) H) : rNeA K .non .non H Q := q
theorem i_eqN {K : PySem.W.Frag} (q : Q (.bl true) H) : rEqA K .non .non H Q := q
theorem i_neB {K : PySem.W.Frag} {a b : Bool} (q : Q (.bl (!decide (a = b))) H) : rNeA K (.bl a) (.bl b) H Q := q
theorem i_eqB {K : PySem.W.Frag} {a b : Bool} (q : Q (.bl (decide (a = b))) H) : rEqA K (.bl a) (.bl b) H Q := q
theorem i_for {wi : TI} {g : TG} {tb : TS} (q : wi σ H fun J H1 => ∃ W : Nat → Nat → L2.St → Hp → Prop, (∃ m, W 0 m σ H1) ∧ ∀ i m σ H, W i m σ H → (J.stop i H ∧ nx σ H) ∨ (J.go i H ∧ ∃ N : L2.St → Hp → Prop, (∀ σ' H', N σ' H' → ∃ m', m' < m ∧ W (i + 1) m' σ' H') ∧ ∀ x H', J.yld i H x H' → g x σ H' fun σ2 H2 => tb ⟨N, rt, nx, N⟩ σ2 H2)) : tFor wi g tb ⟨nx, rt, bk, ct⟩ σ H := q
theorem i_while {c : TT} {tb : TS} (W : Nat → L2.St → Hp → Prop) (m : Nat) (w0 : W m σ H) (q : ∀ m σ H, W m σ H → c σ H fun b H1 => if b = true then ∃ N : L2.St → Hp → Prop, (∀ σ' H', N σ' H' → ∃ m', m' < m ∧ W m' σ' H') ∧ tb ⟨N, rt, nx, N⟩ σ H1 else nx σ H1) : tWhile c tb ⟨nx, rt, bk, ct⟩ σ H := ⟨W, ⟨m, w0⟩, q⟩
theorem i_wgo {m : Nat} {W : Nat → L2.St → Hp → Prop} {tb : TS} (q : tb ⟨fun σ' H' => ∃ m', m' < m ∧ W m' σ' H', rt, nx, fun σ' H' => ∃ m', m' < m ∧ W m' σ' H'⟩ σ H) : (∃ N : L2.St → Hp → Prop, (∀ σ' H', N σ' H' → ∃ m', m' < m ∧ W m' σ' H') ∧ tb ⟨N, rt, nx, N⟩ σ H) := ⟨_, fun _ _ h => h, q⟩
theorem i_ilist {K : PySem.W.Frag} {tl : TE} {R : It → Hp → Prop} (q : tl σ H fun x H1 => ∃ a, x = .ref a ∧ (∃ xs, SqL K H1 a xs) ∧ R (Itl K a) H1) : iList K tl σ H R := q
theorem i_itup {K : PySem.W.Frag} {tl : TE} {R : It → Hp → Prop} (q : tl σ H fun x H1 => ∃ a, x = .ref a ∧ (∃ xs, SqT K H1 a xs) ∧ R (Itt K a) H1) : iTup K tl σ H R := q
theorem i_rng1 {ta : TA} {R : It → Hp → Prop} (q : ta σ H fun vs H1 => ∃ j : Int, vs = [.int j] ∧ -(2 ^ 62) ≤ j ∧ j < 2 ^ 62 ∧ R (Itr 0 j.toNat) H1) : iRng1 ta σ H R := q
theorem i_rng2 {ta : TA} {R : It → Hp → Prop} (q : ta σ H fun vs H1 => ∃ i j : Int, vs = [.int i, .int j] ∧ (-(2 ^ 62) ≤ i ∧ i < 2 ^ 62 ∧ -(2 ^ 62) ≤ j ∧ j < 2 ^ 62) ∧ R (Itr i (j - i).toNat) H1) : iRng2 ta σ H R := q
theorem i_ex1 {j : Int} {R : Int → Prop} (q : R j) : (∃ i : Int, [V.int j] = [.int i] ∧ R i) := ⟨j, rfl, q⟩
theorem i_ex2 {i j : Int} {R : Int → Int → Prop} (q : R i j) : (∃ i' j' : Int, [V.int i, V.int j] = [.int i', .int j'] ∧ R i' j') := ⟨i, j, rfl, q⟩
theorem i_exr {p : Addr} {R : Addr → Prop} (q : R p) : (∃ a, V.ref p = .ref a ∧ R a) := ⟨p, rfl, q⟩
theorem i_mth {p C dx : Addr} {fs : List (Str × V)} {m : Str} {R : Prop} (h : H p = some (.ins C dx fs)) (hl : fs.lookup m = none) (q : R) : (∃ a dx fs, V.ref p = .ref a ∧ H a = some (.ins C dx fs) ∧ fs.lookup m = none ∧ R) := ⟨p, dx, fs, rfl, h, hl, q⟩
theorem i_fld {K : PySem.W.Frag} {ta : TE} {f : Str} (q : ta σ H fun x H1 => ∃ a C dx fs v, x = .ref a ∧ H1 a = some (.ins C dx fs) ∧ Cls K C ∧ NoAttr K C f ∧ fs.lookup f = some v ∧ Q v H1) : tFld K ta f σ H Q := q
theorem i_lc {wi : TI} {g : TG} {tt : TT} {te : TE} {vs : List Nat} (q : wi σ H fun J H1 => ∀ D, H1 D = none → ∃ W : Nat → Nat → Hp → Prop, (∃ m, W 0 m (upd H1 D (.lst []))) ∧ ∀ i m H, W i m H → (J.stop i H ∧ Q (.ref D) H) ∨ (J.go i H ∧ ∃ Nx : Hp → Prop, (∀ H', Nx H' → ∃ m', m' < m ∧ W (i + 1) m' H') ∧ ∀ x H', J.yld i H x H' → g x (wipe σ vs) H' fun σ2 H2 => wipe σ2 vs = wipe σ vs ∧ tt σ2 H2 fun b H3 => if b = true then te σ2 H3 fun y H4 => ∃ acc, H4 D = some (.lst acc) ∧ acc.length < sizeLine ∧ Nx (upd H4 D (.lst (acc ++ [y]))) else Nx H3)) : tLc wi g tt te vs σ H Q := q
end
local macro_rules | `(tactic| walk_at "s1") => `(tactic| with_reducible first | refine i_seq ?_ | refine i_asg ?_ | refine i_gname ?_ | refine i_ifS ?_ | refine i_ret ?_ | refine i_retN ?_ | refine i_drop ?_ | refine i_next ?_ | refine i_brk ?_ | refine i_cnt ?_ | refine i_par ?_ | refine i_par2 ?_ | refine i_fldS ?_ | refine i_dput ?_ | refine i_c ?_ | refine i_op ?_ | refine i_un ?_ | refine i_rU ?_ | refine i_rI0 ?_ | refine i_test ?_ | refine i_B ?_ | refine i_bl ?_ | refine i_tru ?_ | refine i_truB ?_ | refine i_and ?_ | refine i_or ?_ | refine i_not ?_ | refine i_andV ?_ | refine i_orV ?_ | refine i_notV ?_ | refine i_if ?_ | refine i_call ?_ | refine i_meth ?_ | refine i_make ?_ | refine i_cb ?_ | refine i_cons ?_ | refine i_nil ?_ | refine i_tup ?_ | refine i_lst ?_ | refine i_bml ?_ | refine i_gsub ?_ | refine i_gcons ?_ | refine i_gnil ?_ | refine i_sl ?_ | refine i_nop ?_ | refine i_part ?_ | refine i_prt ?_ | refine i_isN ?_ | refine i_notN ?_ | refine i_yes ?_ | refine i_tt ?_ | refine i_ff ?_ | refine i_ntt ?_ | refine i_nff ?_ | refine i_addI ?_ | refine i_eqI ?_ | refine i_neI ?_ | refine i_eqS ?_ | refine i_neS ?_ | refine i_intI ?_ | refine i_intB ?_ | refine i_abs ?_ | refine i_isiIB ?_ | refine i_isiNB ?_ | refine i_isiBB ?_ | refine i_dget ?_ | refine i_for ?_ | refine i_ilist ?_ | refine i_itup ?_ | refine i_rng1 ?_ | refine i_rng2 ?_ | refine i_ex1 ?_ | refine i_ex2 ?_ | refine i_exr ?_ | refine i_fld ?_ | refine i_disp ?_ | refine i_pcons ?_ | refine i_pnil ?_ | refine i_neN ?_ | refine i_eqN ?_ | refine i_neB ?_ | refine i_eqB ?_ | refine i_lc ?_ | refine i_var (by with_unfolding_all rfl) ?_ | refine i_tB (by decide +kernel) ?_ | refine i_fB (by decide +kernel) ?_ | refine i_dnI ?_ | refine i_nyI ?_ | refine i_dnR ?_ | refine i_nyR ?_ | refine i_ixT (by assumption) (by with_unfolding_all rfl) ?_ | refine i_ixL (by assumption) (by with_unfolding_all rfl) ?_ | refine i_lenL (by assumption) ?_ | refine i_lenT (by assumption) ?_ | refine i_isL (by assumption) ?_ | refine i_isiLL (by assumption) ?_ | refine i_isiTL (by assumption) ?_ | refine i_gtup (by assumption) (by with_unfolding_all rfl) ?_)
local macro_rules | `(tactic| walk_at "s") => `(tactic| repeat (walk_at "s1"))
/-- the state of the draws: a list of a list of numbers and of a number -/
structure Rng (a c : Addr) (H : Hp) : Prop where
  ne : a ≠ c
  ex : ∃ (ns : List Int) (m : Int), H a = some (.lst [.ref c, .int m]) ∧ H c = some (.lst (ns.map V.int)) ∧ (∀ n ∈ ns, 0 ≤ n) ∧ 0 ≤ m
/-- what was so beside the two places is so -/
def Fra (a c : Addr) (H H' : Hp) : Prop := ∀ b, b ≠ a → b ≠ c → H' b = H b
theorem Fra.refl {a c : Addr} {H : Hp} : Fra a c H H := fun _ _ _ => rfl
theorem Fra.trans {a c : Addr} {H H1 H2 : Hp} (h : Fra a c H H1) (k : Fra a c H1 H2) : Fra a c H H2 := fun b p q => (k b p q).trans (h b p q)
def spDraw : Sp := fun vs H Q _ => ∃ (a c : Addr) (n : Int), vs = [.ref a, .int n] ∧ 0 < n ∧ n < 1073741824 ∧ Rng a c H ∧
  ∀ (H' : Hp) (r : Int), 0 ≤ r → r < n → Rng a c H' → Fra a c H H' → Q (.int r) H'
theorem len_draw {vs : List V} {H : Hp} {Q : VK} {E : XK} (h : spDraw vs H Q E) : vs.length = 2 := by
  obtain ⟨a, c, n, rfl, _⟩ := h
  rfl
def t_draw (K : PySem.W.Frag) : TS :=
  (tSeq (tAsg (tOp rIxA (tVar 0) (tC (.int 0))) (gName 2)) (tSeq (tWhile (tAnd (tTest (tOp (rI0 fun i j => .bl (decide (j < i))) (tCB rLenA (tCons (tVar 2) tNil)) (tC (.int 0)))) (tTest (tOp (rEqA K) (tOp rIxA (tVar 2) (tC (.int 0))) (tC (.int 0))))) (tDrop (tBML rPopI (tVar 2) (tCons (tC (.int 0)) tNil)))) (tSeq (tIfS (tTest (tOp (rI0 fun i j => .bl (decide (j < i))) (tCB rLenA (tCons (tVar 2) tNil)) (tC (.int 0)))) (tSeq (tAsg (tOp rIxA (tVar 2) (tC (.int 0))) (gName 3)) (tSeq (tAsg (tOp (rI CDiv fun i j => .int (i / j)) (tVar 3) (tVar 1)) (gSub (tVar 2) (tC (.int 0)) rSetA)) (tRet (tOp (rI (fun _ j => 0 < j) fun i j => .int (i % j)) (tCB rIntA (tCons (tVar 3) tNil)) (tVar 1))))) tNext) (tSeq (tAsg (tOp (rI (fun _ j => 0 < j) fun i j => .int (i % j)) (tCB rIntA (tCons (tOp rAddA (tOp rMulA (tOp rIxA (tVar 0) (tC (.int 1))) (tC (.int 48271))) (tC (.int 12345))) tNil)) (tC (.int 2147483647))) (gName 4)) (tSeq (tAsg (tVar 4) (gSub (tVar 0) (tC (.int 1)) rSetA)) (tRet (tOp (rI (fun _ j => 0 < j) fun i j => .int (i % j)) (tCB rIntA (tCons (tOp (rI CDiv fun i j => .int (i / j)) (tVar 4) (tC (.int 64))) tNil)) (tVar 1))))))))
theorem fra_upd2 {a c : Addr} {H H' : Hp} {o : HO} (h : Fra a c H H') : Fra a c H (upd H' c o) := fun b p q => by rw [upd_ne q]; exact h b p q
theorem fra_upd1 {a c : Addr} {H H' : Hp} {o : HO} (h : Fra a c H H') : Fra a c H (upd H' a o) := fun b p q => by rw [upd_ne p]; exact h b p q
theorem at0 {v : V} {xs : List V} : atI (v :: xs) 0 = some v := atI_nat (j := 0) rfl
theorem atN {xs : List V} {i : Int} {j : Nat} {v : V} (e : i = (j : Int)) (h : xs[j]? = some v) : atI xs i = some v := by
  rw [e]
  exact atI_nat h
theorem ixS0 {v : V} {xs : List V} : ixN (v :: xs).length 0 = some 0 := by
  unfold ixN
  rw [if_pos (by omega), if_pos (by simp <;> omega)]
  rfl
theorem pure_draw (K : PySem.W.Frag) {N : List Str} (vs : List V) (H : Hp) (Q : VK) (E : XK) (h : spDraw vs H Q E) (hN : N.length = 5) : t_draw K { nx := fun _ H' => Q .non H', rt := Q } (L2.start N vs) H := by
  obtain ⟨a, c, n, rfl, h0, h1, R, k⟩ := h
  obtain ⟨ne, ns, m, ha, hc, hn, hm⟩ := R
  have es : L2.start N [V.ref a, .int n] = [some (.ref a), some (.int n), none, none, none] := by
    unfold L2.start
    rw [hN]
    rfl
  rw [es]
  unfold t_draw
  walk_at "s"
  try refine i_ixL ha (by rfl) ?_
  walk_at "s"
  refine i_while (fun j σ H' => σ = [some (.ref a), some (.int n), some (.ref c), none, none] ∧ ∃ ns : List Int, j = ns.length ∧ H' a = some (.lst [.ref c, .int m]) ∧ H' c = some (.lst (ns.map V.int)) ∧ (∀ n ∈ ns, 0 ≤ n) ∧ Fra a c H H')
    _ ⟨rfl, ns, rfl, ha, hc, hn, Fra.refl⟩ ?_
  rintro j σ H1 ⟨rfl, ns, rfl, ha, hc, hn, fr⟩
  walk_at "s"
  try refine i_lenL hc ?_
  walk_at "s"
  cases ns with
  | nil =>
    try refine i_dn (by simp) ?_
    walk_at "s"
    try refine i_lenL hc ?_
    walk_at "s"
    try refine i_dn (by simp) ?_
    walk_at "s"
    try refine i_ixL ha (by rfl) ?_
    walk_at "s"
    try refine i_mulI (.inr ⟨by decide, by decide⟩) ?_
    walk_at "s"
    try refine i_rI (by show (0 : Int) < 2147483647; decide) ?_
    walk_at "s"
    refine i_setL ha (by rfl) ?_
    walk_at "s"
    refine i_rI ⟨by decide, by decide⟩ ?_
    walk_at "s"
    refine i_rI h0 ?_
    exact k _ _ (Int.emod_nonneg _ (by omega)) (Int.emod_lt_of_pos _ h0) ⟨ne, [], _, upd_same, by rw [upd_ne ne.symm]; exact hc, by simp, Int.emod_nonneg _ (by decide)⟩ (fra_upd1 fr)
  | cons z ns =>
    try refine i_dy (by simp <;> omega) ?_
    walk_at "s"
    try refine i_ixL hc at0 ?_
    walk_at "s"
    refine i_d2 (fun hz => ?_) (fun hz => ?_)
    · refine i_wgo ?_
      walk_at "s"
      try refine i_isL hc ?_
      walk_at "s"
      refine i_pop0 hc ?_
      exact ⟨ns.length, by simp, rfl, ns, rfl, by rw [upd_ne ne]; exact ha, upd_same, fun n h => hn n (List.mem_cons_of_mem _ h), fra_upd2 fr⟩
    · walk_at "s"
      try refine i_lenL hc ?_
      walk_at "s"
      try refine i_dy (by simp <;> omega) ?_
      walk_at "s"
      try refine i_ixL hc at0 ?_
      walk_at "s"
      refine i_rI ⟨h0, h1⟩ ?_
      walk_at "s"
      refine i_setL hc ixS0 ?_
      walk_at "s"
      refine i_rI h0 ?_
      have hz0 : 0 ≤ z := hn z List.mem_cons_self
      refine k _ _ (Int.emod_nonneg _ (by omega)) (Int.emod_lt_of_pos _ h0) ⟨ne, (z / n) :: ns, m, by rw [upd_ne ne]; exact ha, upd_same, fun y hy => ?_, hm⟩ (fra_upd2 fr)
      rcases List.mem_cons.mp hy with e | e
      · rw [e]
        exact Int.ediv_nonneg hz0 (by omega)
      · exact hn y (List.mem_cons_of_mem _ e)
theorem sz {n : Nat} (h : n ≤ 100000) : n ≤ sizeLine := Nat.le_trans h (by decide)
theorem szl {n : Nat} (h : n ≤ 100000) : n < sizeLine := Nat.lt_of_le_of_lt h (by decide)

/-! ### loops and comprehensions -/
section
variable {K : PySem.W.Frag} {a : Addr} {xs : List V} {g : TG} {tb : TS} {σ : L2.St} {H : Hp} {nx : L2.St → Hp → Prop} {rt : VK} {tt : TT} {te : TE} {v : Nat} {D : Addr} {Qd : Hp → Prop}
theorem i_forL (xs : List V) (Pv : Nat → L2.St → Hp → Prop) (h0 : Pv 0 σ H) (hl : ∀ i σ H, Pv i σ H → SqL K H a xs)
    (hs : ∀ i x σ H, xs[i]? = some x → Pv i σ H → g x σ H fun σ2 H2 => tb ⟨Pv (i + 1), rt, nx, Pv (i + 1)⟩ σ2 H2) (hd : ∀ σ H, Pv xs.length σ H → nx σ H) :
    (∃ xs, SqL K H a xs) ∧ ∃ W : Nat → Nat → L2.St → Hp → Prop, (∃ m, W 0 m σ H) ∧ ∀ i m σ H, W i m σ H → ((Itl K a).stop i H ∧ nx σ H) ∨ ((Itl K a).go i H ∧ ∃ N : L2.St → Hp → Prop, (∀ σ' H', N σ' H' → ∃ m', m' < m ∧ W (i + 1) m' σ' H') ∧ ∀ x H', (Itl K a).yld i H x H' → g x σ H' fun σ2 H2 => tb ⟨N, rt, nx, N⟩ σ2 H2) :=
  ⟨⟨xs, hl 0 σ H h0⟩, for_list (D := ⟨nx, rt, fun _ _ => False, fun _ _ => False⟩) (xs := xs) Pv h0 (fun i σ H _ p => hl i σ H p) hs hd⟩
theorem i_forT (xs : List V) (Pv : Nat → L2.St → Hp → Prop) (h0 : Pv 0 σ H) (hl : ∀ i σ H, Pv i σ H → SqT K H a xs)
    (hs : ∀ i x σ H, xs[i]? = some x → Pv i σ H → g x σ H fun σ2 H2 => tb ⟨Pv (i + 1), rt, nx, Pv (i + 1)⟩ σ2 H2) (hd : ∀ σ H, Pv xs.length σ H → nx σ H) :
    (∃ xs, SqT K H a xs) ∧ ∃ W : Nat → Nat → L2.St → Hp → Prop, (∃ m, W 0 m σ H) ∧ ∀ i m σ H, W i m σ H → ((Itt K a).stop i H ∧ nx σ H) ∨ ((Itt K a).go i H ∧ ∃ N : L2.St → Hp → Prop, (∀ σ' H', N σ' H' → ∃ m', m' < m ∧ W (i + 1) m' σ' H') ∧ ∀ x H', (Itt K a).yld i H x H' → g x σ H' fun σ2 H2 => tb ⟨N, rt, nx, N⟩ σ2 H2) :=
  ⟨⟨xs, hl 0 σ H h0⟩, for_tup (D := ⟨nx, rt, fun _ _ => False, fun _ _ => False⟩) (xs := xs) Pv h0 (fun i σ H _ p => hl i σ H p) hs hd⟩
theorem i_forR {j : Int} (n : Nat) (hj : j = (n : Int)) (hn : n ≤ 1000000000) (Pv : Nat → L2.St → Hp → Prop) (h0 : Pv 0 σ H)
    (hs : ∀ i σ H, i < n → Pv i σ H → g (.int (i : Int)) σ H fun σ2 H2 => tb ⟨Pv (i + 1), rt, nx, Pv (i + 1)⟩ σ2 H2) (hd : ∀ σ H, Pv n σ H → nx σ H) :
    -(2 ^ 62) ≤ j ∧ j < 2 ^ 62 ∧ ∃ W : Nat → Nat → L2.St → Hp → Prop, (∃ m, W 0 m σ H) ∧ ∀ i m σ H, W i m σ H → ((Itr 0 j.toNat).stop i H ∧ nx σ H) ∨ ((Itr 0 j.toNat).go i H ∧ ∃ N : L2.St → Hp → Prop, (∀ σ' H', N σ' H' → ∃ m', m' < m ∧ W (i + 1) m' σ' H') ∧ ∀ x H', (Itr 0 j.toNat).yld i H x H' → g x σ H' fun σ2 H2 => tb ⟨N, rt, nx, N⟩ σ2 H2) := by
  subst hj
  refine ⟨by omega, by omega, ?_⟩
  exact for_range (D := ⟨nx, rt, fun _ _ => False, fun _ _ => False⟩) (lo := 0) (n := n) Pv h0 (fun i σ H hi p => by rw [Int.zero_add]; exact hs i σ H hi p) hd
theorem i_forR2 {lo j : Int} (n : Nat) (hj : (j - lo).toNat = n) (hb : -(2 ^ 62) ≤ lo ∧ lo < 2 ^ 62 ∧ -(2 ^ 62) ≤ j ∧ j < 2 ^ 62) (Pv : Nat → L2.St → Hp → Prop) (h0 : Pv 0 σ H)
    (hs : ∀ (i : Nat) σ H, i < n → Pv i σ H → g (.int (lo + i)) σ H fun σ2 H2 => tb ⟨Pv (i + 1), rt, nx, Pv (i + 1)⟩ σ2 H2) (hd : ∀ σ H, Pv n σ H → nx σ H) :
    (-(2 ^ 62) ≤ lo ∧ lo < 2 ^ 62 ∧ -(2 ^ 62) ≤ j ∧ j < 2 ^ 62) ∧ ∃ W : Nat → Nat → L2.St → Hp → Prop, (∃ m, W 0 m σ H) ∧ ∀ i m σ H, W i m σ H → ((Itr lo (j - lo).toNat).stop i H ∧ nx σ H) ∨ ((Itr lo (j - lo).toNat).go i H ∧ ∃ N : L2.St → Hp → Prop, (∀ σ' H', N σ' H' → ∃ m', m' < m ∧ W (i + 1) m' σ' H') ∧ ∀ x H', (Itr lo (j - lo).toNat).yld i H x H' → g x σ H' fun σ2 H2 => tb ⟨N, rt, nx, N⟩ σ2 H2) := by
  subst hj
  exact ⟨hb, for_range (D := ⟨nx, rt, fun _ _ => False, fun _ _ => False⟩) (lo := lo) Pv h0 hs hd⟩
theorem wipe1 {v : Nat} {x : V} : (wipe σ [v]).set v (some x) = σ.set v (some x) := by
  show (σ.set v none).set v (some x) = _
  rw [List.set_set]
theorem wipe2 {v : Nat} {x : V} : wipe (σ.set v (some x)) [v] = wipe σ [v] := by
  show (σ.set v (some x)).set v none = σ.set v none
  rw [List.set_set]
/-- a comprehension over a list, one name -/
theorem i_lcL (xs : List V) (Pv : Nat → Hp → Prop) (h0 : Pv 0 (upd H D (.lst []))) (hl : ∀ i H, Pv i H → SqL K H a xs)
    (hs : ∀ i x H, xs[i]? = some x → Pv i H → tt (σ.set v (some x)) H fun b H3 => if b = true then te (σ.set v (some x)) H3 fun y H4 => ∃ acc, H4 D = some (.lst acc) ∧ acc.length < sizeLine ∧ Pv (i + 1) (upd H4 D (.lst (acc ++ [y]))) else Pv (i + 1) H3)
    (hd : ∀ H, Pv xs.length H → Qd H) :
    ∃ W : Nat → Nat → Hp → Prop, (∃ m, W 0 m (upd H D (.lst []))) ∧ ∀ i m H, W i m H → ((Itl K a).stop i H ∧ Qd H) ∨ ((Itl K a).go i H ∧ ∃ Nx : Hp → Prop, (∀ H', Nx H' → ∃ m', m' < m ∧ W (i + 1) m' H') ∧ ∀ x H', (Itl K a).yld i H x H' → gName v x (wipe σ [v]) H' fun σ2 H2 => wipe σ2 [v] = wipe σ [v] ∧ tt σ2 H2 fun b H3 => if b = true then te σ2 H3 fun y H4 => ∃ acc, H4 D = some (.lst acc) ∧ acc.length < sizeLine ∧ Nx (upd H4 D (.lst (acc ++ [y]))) else Nx H3) :=
  lc_list (xs := xs) Pv h0 (fun i H _ p => hl i H p) (fun i x H e p => by
    show wipe ((wipe σ [v]).set v (some x)) [v] = wipe σ [v] ∧ tt ((wipe σ [v]).set v (some x)) H _
    rw [wipe1]
    exact ⟨wipe2, hs i x H e p⟩) hd
/-- .. over range(n) -/
theorem i_lcR {j : Int} (n : Nat) (hj : j = (n : Int)) (Pv : Nat → Hp → Prop) (h0 : Pv 0 (upd H D (.lst [])))
    (hs : ∀ (i : Nat) H, i < n → Pv i H → tt (σ.set v (some (.int (i : Int)))) H fun b H3 => if b = true then te (σ.set v (some (.int (i : Int)))) H3 fun y H4 => ∃ acc, H4 D = some (.lst acc) ∧ acc.length < sizeLine ∧ Pv (i + 1) (upd H4 D (.lst (acc ++ [y]))) else Pv (i + 1) H3)
    (hd : ∀ H, Pv n H → Qd H) :
    ∃ W : Nat → Nat → Hp → Prop, (∃ m, W 0 m (upd H D (.lst []))) ∧ ∀ i m H, W i m H → ((Itr 0 j.toNat).stop i H ∧ Qd H) ∨ ((Itr 0 j.toNat).go i H ∧ ∃ Nx : Hp → Prop, (∀ H', Nx H' → ∃ m', m' < m ∧ W (i + 1) m' H') ∧ ∀ x H', (Itr 0 j.toNat).yld i H x H' → gName v x (wipe σ [v]) H' fun σ2 H2 => wipe σ2 [v] = wipe σ [v] ∧ tt σ2 H2 fun b H3 => if b = true then te σ2 H3 fun y H4 => ∃ acc, H4 D = some (.lst acc) ∧ acc.length < sizeLine ∧ Nx (upd H4 D (.lst (acc ++ [y]))) else Nx H3) := by
  subst hj
  exact lc_range (lo := 0) (n := n) Pv h0 (fun i H e p => by
    show wipe ((wipe σ [v]).set v (some (.int (0 + (i : Int))))) [v] = wipe σ [v] ∧ tt ((wipe σ [v]).set v (some (.int (0 + (i : Int))))) H _
    rw [wipe1, Int.zero_add]
    exact ⟨wipe2, hs i H e p⟩) hd
end

/-! ### the two places of the draws, and what grows beside them -/
/-- what stands beside the two places, grows -/
def Gr (a c : Addr) (H H' : Hp) : Prop := Same (hid [a, c] H) (hid [a, c] H')
section
variable {a c p : Addr} {H H' H1 : Hp} {o : HO}
theorem Gr.refl : Gr a c H H := Same.refl _
theorem Gr.trans (h : Gr a c H H1) (k : Gr a c H1 H') : Gr a c H H' := Same.trans h k
theorem Fra.hid (h : Fra a c H H') : hid [a, c] H' = hid [a, c] H := hid_eq fun b hb => h b (fun e => hb (by rw [e]; exact List.mem_cons_self)) fun e => hb (by rw [e]; exact List.mem_cons_of_mem _ List.mem_cons_self)
theorem Fra.gr (h : Fra a c H H') : Gr a c H H' := by
  unfold Gr
  rw [h.hid]
  exact Same.refl _
theorem Rng.at1 (R : Rng a c H) : ∃ o, H a = some o := let ⟨_, _, _, h, _⟩ := R; ⟨_, h⟩
theorem Rng.at2 (R : Rng a c H) : ∃ o, H c = some o := let ⟨_, _, _, _, h, _⟩ := R; ⟨_, h⟩
theorem Rng.fresh (R : Rng a c H) (h : H p = none) : p ≠ a ∧ p ≠ c := by
  obtain ⟨o1, e1⟩ := R.at1
  obtain ⟨o2, e2⟩ := R.at2
  exact ⟨fun e => (by rw [e, e1] at h; cases h), fun e => (by rw [e, e2] at h; cases h)⟩
theorem Rng.upd (R : Rng a c H) (h1 : p ≠ a) (h2 : p ≠ c) : Rng a c (L2.upd H p o) := by
  obtain ⟨ne, ns, m, ha, hc, hn, hm⟩ := R
  exact ⟨ne, ns, m, by rw [upd_ne h1.symm]; exact ha, by rw [upd_ne h2.symm]; exact hc, hn, hm⟩
theorem hid2 (h1 : p ≠ a) (h2 : p ≠ c) : p ∉ [a, c] := fun h => by
  rcases List.mem_cons.mp h with e | e
  · exact h1 e
  · rcases List.mem_cons.mp e with e | e
    · exact h2 e
    · cases e
/-- a new object -/
theorem new_step (R : Rng a c H) (h : H p = none) : Rng a c (L2.upd H p o) ∧ Gr a c H (L2.upd H p o) ∧ hid [a, c] (L2.upd H p o) p = some o ∧ p ≠ a ∧ p ≠ c := by
  obtain ⟨h1, h2⟩ := R.fresh h
  refine ⟨R.upd h1 h2, Lb.Same.hid (Same.newp h), ?_, h1, h2⟩
  rw [hid_out (hid2 h1 h2), upd_same]
theorem Gr.at (h : Gr a c H H') (e : hid [a, c] H p = some o) : H' p = some o := (hid_some (h _ _ e)).1
theorem hid_get (e : hid [a, c] H p = some o) : H p = some o := (hid_some e).1
theorem hid_ne (e : hid [a, c] H p = some o) : p ≠ a ∧ p ≠ c := by
  have h := (hid_some e).2
  exact ⟨fun q => h (by rw [q]; exact List.mem_cons_self), fun q => h (by rw [q]; exact List.mem_cons_of_mem _ List.mem_cons_self)⟩
end
def spPick : Sp := fun vs H Q _ => ∃ (a c p : Addr) (xs : List V), vs = [.ref a, .ref p] ∧ Rng a c H ∧ H p = some (.lst xs) ∧ p ≠ a ∧ p ≠ c ∧ xs ≠ [] ∧ xs.length ≤ 100000 ∧
  ∀ (H' : Hp) (v : V), v ∈ xs → Rng a c H' → Fra a c H H' → Q v H'
theorem len_pick {vs : List V} {H : Hp} {Q : VK} {E : XK} (h : spPick vs H Q E) : vs.length = 2 := by
  obtain ⟨a, c, p, xs, rfl, _⟩ := h
  rfl
def t_pick : TS := (tRet (tOp rIxA (tVar 1) (tCall spDraw [] E0 (tCons (tVar 0) (tCons (tCB rLenA (tCons (tVar 1) tNil)) tNil)))))
theorem pure_pick {N : List Str} (vs : List V) (H : Hp) (Q : VK) (E : XK) (h : spPick vs H Q E) (hN : N.length = 2) : t_pick { nx := fun _ H' => Q .non H', rt := Q } (L2.start N vs) H := by
  obtain ⟨a, c, p, xs, rfl, R, hp, n1, n2, hx, hz, k⟩ := h
  have es : L2.start N [V.ref a, .ref p] = [some (.ref a), some (.ref p)] := by
    unfold L2.start
    rw [hN]
    rfl
  rw [es]
  unfold t_pick
  walk_at "s"
  try refine i_lenL hp ?_
  walk_at "s"
  have hl : 0 < xs.length := List.length_pos_iff.mpr hx
  refine ⟨a, c, xs.length, rfl, by omega, by omega, R, fun H' r h0 h1 R' fr => ?_⟩
  have hp' : H' p = some (.lst xs) := by rw [fr p n1 n2]; exact hp
  obtain ⟨j, rfl⟩ : ∃ j : Nat, r = (j : Int) := ⟨r.toNat, by omega⟩
  have hj : j < xs.length := by omega
  refine i_ixL hp' (atI_nat (List.getElem?_eq_getElem hj)) ?_
  exact k H' _ (List.getElem_mem hj) R' fr
def spState (K : PySem.W.Frag) : Sp := fun vs H Q _ => ∃ (s : Addr) (ns : List Int), vs = [.ref s] ∧ SqL K H s (ns.map V.int) ∧ ns.length ≤ 63 ∧
  ∀ (H' : Hp) (a c : Addr), Same H H' → Rng a c H' → H a = none → H c = none → Q (.ref a) H'
theorem len_state {K : PySem.W.Frag} {vs : List V} {H : Hp} {Q : VK} {E : XK} (h : spState K vs H Q E) : vs.length = 1 := by
  obtain ⟨a, ns, rfl, _⟩ := h
  rfl
def t_state (K : PySem.W.Frag) : TS :=
  (tSeq (tAsg (tC (.int 7)) (gName 1)) (tSeq (tFor (iList K (tVar 0)) (gName 2) (tAsg (tOp (rI (fun _ j => 0 < j) fun i j => .int (i % j)) (tCB rIntA (tCons (tOp rAddA (tOp rMulA (tVar 1) (tC (.int 31))) (tVar 2)) tNil)) (tC (.int 1000003))) (gName 1))) (tRet (tLst (tCons (tLc (iList K (tVar 0)) (gName 2) tYes (tCB rAbsA (tCons (tVar 2) tNil)) [2]) (tCons (tOp rAddA (tVar 1) (tC (.int 1))) tNil))))))
theorem ints_at {ns : List Int} {i : Nat} {x : V} (h : (ns.map V.int)[i]? = some x) : ∃ z, x = .int z ∧ ns[i]? = some z := by
  rw [List.getElem?_map] at h
  cases e : ns[i]? with
  | none => rw [e] at h; cases h
  | some z => rw [e] at h; exact ⟨z, (Option.some.inj h).symm, rfl⟩
theorem pure_state (K : PySem.W.Frag) {N : List Str} (vs : List V) (H : Hp) (Q : VK) (E : XK) (h : spState K vs H Q E) (hN : N.length = 3) : t_state K { nx := fun _ H' => Q .non H', rt := Q } (L2.start N vs) H := by
  obtain ⟨s, ns, rfl, hS, hl, k⟩ := h
  have es : L2.start N [V.ref s] = [some (.ref s), none, none] := by
    unfold L2.start
    rw [hN]
    rfl
  rw [es]
  unfold t_state
  walk_at "s"
  refine i_forL (ns.map V.int) (fun i σ H' => H' = H ∧ ∃ (z : Int) (v : Option V), 0 ≤ z ∧ σ = [some (.ref s), some (.int z), v]) ⟨rfl, 7, none, by decide, rfl⟩ (fun i σ H' ⟨e, _⟩ => by rw [e]; exact hS) ?_ ?_
  · rintro i x σ H' hx ⟨rfl, z, v, hz, rfl⟩
    obtain ⟨y, rfl, _⟩ := ints_at hx
    walk_at "s"
    try refine i_mulI (.inr ⟨by decide, by decide⟩) ?_
    walk_at "s"
    refine i_rI (by show (0 : Int) < 1000003; decide) ?_
    walk_at "s"
    exact ⟨rfl, _, _, Int.emod_nonneg _ (by decide), rfl⟩
  · rintro σ H' ⟨rfl, z, v, hz, rfl⟩
    walk_at "s"
    refine ⟨⟨_, hS⟩, fun D hD => ?_⟩
    refine i_lcL (ns.map V.int) (fun i H2 => Same H' H2 ∧ ∃ ms : List Int, H2 D = some (.lst (ms.map V.int)) ∧ ms.length = i ∧ ∀ m ∈ ms, 0 ≤ m) ⟨Same.newp hD, [], upd_same, rfl, by simp⟩ (fun i H2 p => p.1.seq hS) ?_ ?_
    · rintro i x H2 hx ⟨sm, ms, hm, hml, hm0⟩
      obtain ⟨y, rfl, hy⟩ := ints_at hx
      have hi : i < ns.length := (List.getElem?_eq_some_iff.mp hy).1
      walk_at "s"
      refine ⟨_, hm, by rw [List.length_map]; exact szl (by omega), fun b o e => ?_, ms ++ [if y < 0 then -y else y], ?_, by rw [List.length_append, hml]; rfl, fun q hq => ?_⟩
      · rw [upd_ne (ne_of_none e hD)]
        exact sm b o e
      · rw [upd_same, List.map_append]
        rfl
      · rcases List.mem_append.mp hq with e | e
        · exact hm0 q e
        · rw [List.mem_singleton.mp e]
          split <;> omega
    · rintro H2 ⟨sm, ms, hm, hml, hm0⟩
      walk_at "s"
      refine ⟨sz (by simp), fun p hp => ?_⟩
      have npD : p ≠ D := fun e => by rw [e, hm] at hp; cases hp
      refine k _ p D (sm.trans (Same.newp hp)) ⟨npD, ms, z + 1, upd_same, by rw [upd_ne npD.symm]; exact hm, hm0, by omega⟩ (sm.free hp) hD

end Lb
set_option Elab.async false
set_option linter.all false
set_option maxRecDepth 100000
set_option maxHeartbeats 4000000
/-! Le: data that may be compared, heaps that only grow. Knows no program. -/
namespace Lb
open PySem PySem.Spec PyProof.Rows L2
/-- data without dicts, at most n deep -/
def Sh (n : Nat) (d : PyData) : Prop := d.canLay0 = true ∧ d.depth ≤ n
def ShA (n : Nat) (ds : List PyData) : Prop := PyData.canLayAll0 ds = true ∧ PyData.depthAll ds ≤ n
section
variable {n m : Nat} {d : PyData} {ds es : List PyData}
theorem Sh.shp (h : Sh n d) (hn : n ≤ 64 := by decide) : Shp d := by
  unfold Shp SeqAt.shaped
  rw [h.1, Bool.true_and, decide_eq_true (Nat.le_trans h.2 hn)]
theorem Sh.mono (h : Sh n d) (hn : n ≤ m) : Sh m d := ⟨h.1, Nat.le_trans h.2 hn⟩
theorem ShA.mono (h : ShA n ds) (hn : n ≤ m) : ShA m ds := ⟨h.1, Nat.le_trans h.2 hn⟩
theorem Sh.non : Sh n .none := ⟨rfl, Nat.zero_le _⟩
theorem Sh.bl {b : Bool} : Sh n (.bool b) := ⟨rfl, Nat.zero_le _⟩
theorem Sh.int {i : Int} : Sh n (.int i) := ⟨rfl, Nat.zero_le _⟩
theorem Sh.str {x : Str} (h : PyData.canLay0 (.str x) = true) : Sh n (.str x) := ⟨h, Nat.zero_le _⟩
theorem Sh.lst (h : ShA n ds) : Sh (n + 1) (.list ds) := ⟨h.1, Nat.succ_le_succ h.2⟩
theorem Sh.tup (h : ShA n ds) : Sh (n + 1) (.tuple ds) := ⟨h.1, Nat.succ_le_succ h.2⟩
theorem ShA.nil : ShA n [] := ⟨rfl, Nat.zero_le _⟩
theorem ShA.cons (h : Sh n d) (k : ShA n ds) : ShA n (d :: ds) := by
  refine ⟨?_, Nat.max_le.mpr ⟨h.2, k.2⟩⟩
  show (d.canLay0 && PyData.canLayAll0 ds) = true
  rw [h.1, k.1]
  rfl
theorem ShA.all : ∀ {ds : List PyData}, (∀ d ∈ ds, Sh n d) → ShA n ds
  | [], _ => .nil
  | d :: r, h => .cons (h d List.mem_cons_self) (ShA.all fun e he => h e (List.mem_cons_of_mem _ he))
theorem ShA.ints {ns : List Int} : ShA n (ns.map PyData.int) := .all fun d h => by
  obtain ⟨i, _, rfl⟩ := List.mem_map.mp h
  exact .int
theorem ShA.append (h : ShA n ds) (k : ShA n es) : ShA n (ds ++ es) := by
  induction ds with
  | nil => exact k
  | cons d r ih =>
    have h1 : (d.canLay0 && PyData.canLayAll0 r) = true := h.1
    have h2 := Bool.and_eq_true_iff.mp h1
    have h3 := Nat.max_le.mp h.2
    exact .cons ⟨h2.1, h3.1⟩ (ih ⟨h2.2, h3.2⟩)
end
section
variable {a c p : Addr} {H H' : Hp} {o : HO}
theorem Rng.same (R : Rng a c H) (s : Same H H') : Rng a c H' := by
  obtain ⟨ne, ns, m, ha, hc, hn, hm⟩ := R
  exact ⟨ne, ns, m, s _ _ ha, s _ _ hc, hn, hm⟩
theorem Gr.same (s : Same H H') : Gr a c H H' := Lb.Same.hid s
/-- what stands beside the two places stands -/
theorem Gr.keep (g : Gr a c H H') (h1 : p ≠ a) (h2 : p ≠ c) (e : H p = some o) : H' p = some o := g.at (by rw [hid_out (hid2 h1 h2)]; exact e)
theorem hid_of (h1 : p ≠ a) (h2 : p ≠ c) (e : H p = some o) : hid [a, c] H p = some o := by
  rw [hid_out (hid2 h1 h2)]
  exact e
theorem hid_upd_ne {b : Addr} {S : List Addr} (h : b ≠ p) : hid S (upd H p o) b = hid S H b := by
  by_cases q : b ∈ S
  · rw [hid_in q, hid_in q]
  · rw [hid_out q, hid_out q, upd_ne h]
end
end Lb
set_option Elab.async false
set_option linter.all false
set_option maxRecDepth 100000
set_option maxHeartbeats 4000000
/-! From a def's facts to its callable. -/
namespace Lb
open PySem PySem.Spec PyProof.Rows L2
section
variable {P : Program} {w : World} {K : PySem.W.Frag} {h : Heap} {mg : Str → Option Value} {base : Heap} {x m cls qual name : Str} {k : Nat} {ps : List Str} {sp : Sp} {f : Addr} {fd : FuncData}
variable {params : Arguments} {body : List Stmt} {scope : Scope}
def spF : Sp := fun _ _ _ _ => False
theorem okF : FnOk P w K mg base CX0 k f fd ps spF := ⟨fun _ _ _ _ q => False.elim q, fun _ _ _ _ _ _ _ _ _ _ _ _ _ q => False.elim q⟩
theorem mkCal (F : FunD K name qual params body scope [] [] f fd) (g : mg x = some (.ref f)) (hb : Binds K fd ps []) (O : FnOk P w K mg base CX0 k f fd ps sp) : Cal P w K mg base x k ps sp := ⟨⟨_, _, g, F.kp, hb, O⟩⟩
theorem mkCalM {C : Addr} (hc : Cls K C) (hm : Meth K C m f) (hb : Binds K fd ps []) (O : FnOk P w K mg base CX0 k f fd ps sp) : CalM P w K mg base C m k ps sp := ⟨⟨_, _, hc, hm, hb, O⟩⟩
theorem mkCalC {C : Addr} (g : mg x = some (.ref C)) (M : Mk K C f) (hb : Binds K fd ps []) (O : FnOk P w K mg base CX0 k f fd ps sp) : CalC P w K mg base x C k ps sp := ⟨⟨_, _, g, M, hb, O⟩⟩
theorem Cal.up {j : Nat} (c : Cal P w K mg base x j ps sp) (hl : j ≤ k) : Cal P w K mg base x k ps sp := by
  obtain ⟨f, fd, g, kp, hb, O⟩ := c.ex
  exact ⟨⟨f, fd, g, kp, hb, O.mono hl⟩⟩
theorem Cal.weak {sp' : Sp} (c : Cal P w K mg base x k ps sp) (hs : ∀ vs H Q E, sp' vs H Q E → sp vs H Q E) : Cal P w K mg base x k ps sp' := by
  obtain ⟨f, fd, g, kp, hb, O⟩ := c.ex
  exact ⟨⟨f, fd, g, kp, hb, O.imp hs⟩⟩
theorem look_cf {c : Str → NameKind → Bool} {x : Str} : ∀ {names : List (Str × NameKind)}, names.lookup x = some .cell ∨ names.lookup x = some .free → (names.map fun (n, k) => if c n k = true then (n, NameKind.cell) else (n, k)).lookup x = some .cell ∨ (names.map fun (n, k) => if c n k = true then (n, NameKind.cell) else (n, k)).lookup x = some .free
  | [], h => by rcases h with h | h <;> cases h
  | (n, k) :: r, h => by
    show List.lookup x ((if c n k = true then (n, NameKind.cell) else (n, k)) :: _) = _ ∨ List.lookup x ((if c n k = true then (n, NameKind.cell) else (n, k)) :: _) = _
    by_cases e : x = n
    · subst e
      have h2 : k = .cell ∨ k = .free := by
        rcases h with h | h
        · rw [List.lookup_cons_self] at h
          exact .inl (Option.some.inj h)
        · rw [List.lookup_cons_self] at h
          exact .inr (Option.some.inj h)
      by_cases q : c x k = true
      · rw [if_pos q, List.lookup_cons_self]
        exact .inl rfl
      · rw [if_neg q, List.lookup_cons_self]
        rcases h2 with z | z <;> rw [z]
        · exact .inl rfl
        · exact .inr rfl
    · have hb : (x == n) = false := beq_false_of_ne e
      have h2 : r.lookup x = some .cell ∨ r.lookup x = some .free := by
        simp only [List.lookup, hb] at h
        exact h
      have ih := look_cf (c := c) h2
      by_cases q : c n k = true
      · rw [if_pos q]
        simp only [List.lookup, hb]
        exact ih
      · rw [if_neg q]
        simp only [List.lookup, hb]
        exact ih
theorem blkOk_in {N : List Str} {sc scope2 : Scope} {own : List (Str × Nat)} {cl : List (Str × Addr)} {C : Addr} {e : Env} (h : blkC N sc scope2 own = true) : BlkOk N (compEnvC sc cl C e).scope scope2 own := by
  have b := blkOk_by h
  exact ⟨b.kind, b.uniq, b.ix, fun y hy q => look_cf (c := fun n k => (k == NameKind.free && e.scope.kind == .function && e.kindOf n == some .cell)) (b.free y hy q), b.own⟩
theorem gv_int (X : K.In h) (G : h.Ns mainGlobals mg) {i : Int} (c : (He.Fa.int x i).ok K = true) : GV mg x (.int i) := by
  obtain ⟨t, e⟩ := He.int_ok X G c
  exact ⟨⟨_, e, t, rfl⟩⟩
theorem gv_str (X : K.In h) (G : h.Ns mainGlobals mg) {i : Str} (c : (He.Fa.str x i).ok K = true) : GV mg x (.str i) := by
  obtain ⟨t, e⟩ := He.str_ok X G c
  exact ⟨⟨_, e, t, rfl⟩⟩
theorem gv_glo (X : K.In h) (G : h.Ns mainGlobals mg) (c : (He.Fa.glo x).ok K = true) : GV mg x (.ref (He.ga K x)) := ⟨⟨_, He.glo_ok X G c, rfl⟩⟩
end
end Lb
set_option Elab.async false
set_option linter.all false
set_option maxRecDepth 100000
set_option maxHeartbeats 4000000
/-! Lo: what a walk owns: places that it may change, each with its contents, beside a part of the heap that stays. Knows no program. -/
namespace Lb
open PySem PySem.Spec PyProof.Rows L2
structure Own (a c : Addr) (B H : Hp) (ls : List (Addr × HO)) : Prop where
  R : Rng a c H
  keep : Same B H
  nd : (ls.map Prod.fst).Nodup
  out : ∀ x ∈ ls, B x.1 = none ∧ x.1 ≠ a ∧ x.1 ≠ c
  here : ∀ x ∈ ls, H x.1 = some x.2
  ha : B a = none
  hc : B c = none
inductive Up1 (p : Addr) (o o' : HO) : List (Addr × HO) → List (Addr × HO) → Prop
  | here {r : List (Addr × HO)} : Up1 p o o' ((p, o) :: r) ((p, o') :: r)
  | there {x : Addr × HO} {r r' : List (Addr × HO)} (h : Up1 p o o' r r') : Up1 p o o' (x :: r) (x :: r')
section
variable {a c p : Addr} {B H H' : Hp} {o o' : HO} {ls ls' l1 l2 : List (Addr × HO)}
theorem Up1.mem (h : Up1 p o o' ls ls') : (p, o) ∈ ls := by
  induction h with
  | here => exact List.mem_cons_self
  | there _ ih => exact List.mem_cons_of_mem _ ih
theorem Up1.fst (h : Up1 p o o' ls ls') : ls'.map Prod.fst = ls.map Prod.fst := by
  induction h with
  | here => rfl
  | there _ ih => rw [List.map_cons, List.map_cons, ih]
theorem Up1.of (h : Up1 p o o' ls ls') : ∀ x ∈ ls', x = (p, o') ∨ x ∈ ls := by
  induction h with
  | here => exact fun x hx => (List.mem_cons.mp hx).imp id (List.mem_cons_of_mem _)
  | there _ ih =>
    intro x hx
    rcases List.mem_cons.mp hx with e | e
    · exact .inr (by rw [e]; exact List.mem_cons_self)
    · exact (ih x e).imp id (List.mem_cons_of_mem _)
theorem Up1.other (h : Up1 p o o' ls ls') (nd : (ls.map Prod.fst).Nodup) : ∀ x ∈ ls', x = (p, o') ∨ (x ∈ ls ∧ x.1 ≠ p) := by
  induction h with
  | here =>
    intro x hx
    rcases List.mem_cons.mp hx with e | e
    · exact .inl e
    · refine .inr ⟨List.mem_cons_of_mem _ e, fun q => ?_⟩
      have h1 := (List.nodup_cons.mp nd).1
      exact h1 (by
        have z := List.mem_map_of_mem (f := Prod.fst) e
        rw [q] at z
        exact z)
  | @there y r r' k ih =>
    intro x hx
    have h1 := List.nodup_cons.mp nd
    rcases List.mem_cons.mp hx with e | e
    · refine .inr ⟨by rw [e]; exact List.mem_cons_self, fun q => ?_⟩
      exact h1.1 (by rw [← e, q]; exact List.mem_map_of_mem (f := Prod.fst) k.mem)
    · exact (ih h1.2 x e).imp id fun z => ⟨List.mem_cons_of_mem _ z.1, z.2⟩
theorem Own.mem (O : Own a c B H ls) (h : (p, o) ∈ ls) : H p = some o := O.here _ h
theorem Own.kp (O : Own a c B H ls) (h : B p = some o) : H p = some o := O.keep _ _ h
theorem Own.draw (O : Own a c B H ls) (R : Rng a c H') (f : Fra a c H H') : Own a c B H' ls := by
  refine ⟨R, fun b o e => ?_, O.nd, O.out, fun x hx => ?_, O.ha, O.hc⟩
  · rw [f b (fun q => by rw [q, O.ha] at e; cases e) fun q => by rw [q, O.hc] at e; cases e]
    exact O.keep _ _ e
  · rw [f _ (O.out x hx).2.1 (O.out x hx).2.2]
    exact O.here x hx
theorem Own.same (O : Own a c B H ls) (s : Same H H') : Own a c B H' ls := ⟨O.R.same s, fun b o e => s _ _ (O.keep _ _ e), O.nd, O.out, fun x hx => s _ _ (O.here x hx), O.ha, O.hc⟩
theorem Own.set (O : Own a c B H ls) (h : Up1 p o o' ls ls') : Own a c B (upd H p o') ls' := by
  have hp := O.out _ h.mem
  refine ⟨O.R.upd hp.2.1 hp.2.2, fun b u e => ?_, by rw [h.fst]; exact O.nd, fun x hx => ?_, fun x hx => ?_, O.ha, O.hc⟩
  · rw [upd_ne (fun q => by rw [q, hp.1] at e; cases e)]
    exact O.keep _ _ e
  · rcases h.of x hx with e | e
    · rw [e]
      exact hp
    · exact O.out x e
  · rcases h.other O.nd x hx with e | e
    · rw [e]
      exact upd_same
    · rw [upd_ne e.2]
      exact O.here x e.1
theorem Own.new (O : Own a c B H ls) (hp : H p = none) : Own a c B (upd H p o) ((p, o) :: ls) := by
  obtain ⟨n1, n2⟩ := O.R.fresh hp
  have hb : B p = none := by
    cases e : B p with
    | none => rfl
    | some u => rw [O.keep _ _ e] at hp; cases hp
  have hne : ∀ x ∈ ls, x.1 ≠ p := fun x hx q => by
    have := O.here x hx
    rw [q, hp] at this
    cases this
  refine ⟨O.R.upd n1 n2, fun b u e => ?_, ?_, fun x hx => ?_, fun x hx => ?_, O.ha, O.hc⟩
  · rw [upd_ne (fun q => by rw [q, hb] at e; cases e)]
    exact O.keep _ _ e
  · rw [List.map_cons]
    refine List.nodup_cons.mpr ⟨fun q => ?_, O.nd⟩
    obtain ⟨x, hx, e⟩ := List.mem_map.mp q
    exact hne x hx e
  · rcases List.mem_cons.mp hx with e | e
    · rw [e]
      exact ⟨hb, n1, n2⟩
    · exact O.out x e
  · rcases List.mem_cons.mp hx with e | e
    · rw [e]
      exact upd_same
    · rw [upd_ne (hne x e)]
      exact O.here x e
theorem Own.perm (O : Own a c B H ls) (h : ls.Perm ls') : Own a c B H ls' :=
  ⟨O.R, O.keep, (h.map _).nodup_iff.mp O.nd, fun x hx => O.out x (h.mem_iff.mpr hx), fun x hx => O.here x (h.mem_iff.mpr hx), O.ha, O.hc⟩
/-- the contents of a part of what is owned -/
def cellsH (ls : List (Addr × HO)) : Hp := fun p => ls.lookup p
theorem look_mem {x : Addr × HO} : ∀ {ls : List (Addr × HO)}, (ls.map Prod.fst).Nodup → x ∈ ls → ls.lookup x.1 = some x.2
  | [], _, h => by cases h
  | y :: r, nd, h => by
    have h1 := List.nodup_cons.mp nd
    rcases List.mem_cons.mp h with e | e
    · rw [e]
      show (match y.1 == y.1 with | true => some y.2 | false => r.lookup y.1) = _
      rw [beq_self_eq_true]
    · have ne : ¬ x.1 = y.1 := fun q => h1.1 (by rw [← q]; exact List.mem_map_of_mem e)
      show (match x.1 == y.1 with | true => some y.2 | false => r.lookup x.1) = _
      rw [beq_false_of_ne ne]
      exact look_mem h1.2 e
theorem look_none {p : Addr} : ∀ {ls : List (Addr × HO)}, p ∉ ls.map Prod.fst → ls.lookup p = none
  | [], _ => rfl
  | y :: r, h => by
    have ne : ¬ p = y.1 := fun q => h (by rw [q]; exact List.mem_cons_self)
    show (match p == y.1 with | true => some y.2 | false => r.lookup p) = _
    rw [beq_false_of_ne ne]
    exact look_none fun q => h (List.mem_cons_of_mem _ q)
/-- a part of it stays from now on -/
theorem Own.hide (O : Own a c B H (l1 ++ l2)) : ∃ B', Same B B' ∧ (∀ x ∈ l1, B' x.1 = some x.2) ∧ (∀ q ∉ l1.map Prod.fst, B' q = B q) ∧ Own a c B' H l2 := by
  have nd : (l1.map Prod.fst ++ l2.map Prod.fst).Nodup := by
    rw [← List.map_append]
    exact O.nd
  obtain ⟨n1, n2, n3⟩ := List.nodup_append.mp nd
  have key : ∀ q ∉ l1.map Prod.fst, (match l1.lookup q with | some o => some o | none => B q) = B q := fun q hq => by rw [look_none hq]
  have at1 : ∀ x ∈ l1, (match l1.lookup x.1 with | some o => some o | none => B x.1) = some x.2 := fun x hx => by rw [look_mem n1 hx]
  refine ⟨fun q => match l1.lookup q with | some o => some o | none => B q, fun b u e => ?_, at1, key, O.R, fun b u e => ?_, n2, fun x hx => ?_, fun x hx => O.here x (List.mem_append_right _ hx), ?_, ?_⟩
  · refine (key b fun hq => ?_).trans e
    obtain ⟨x, hx, ex⟩ := List.mem_map.mp hq
    have := (O.out x (List.mem_append_left _ hx)).1
    rw [ex, e] at this
    cases this
  · by_cases hq : b ∈ l1.map Prod.fst
    · obtain ⟨x, hx, ex⟩ := List.mem_map.mp hq
      rw [← ex] at e ⊢
      have e2 : some x.2 = some u := (at1 x hx).symm.trans e
      rw [← e2]
      exact O.here x (List.mem_append_left _ hx)
    · exact O.keep _ _ ((key b hq).symm.trans e)
  · have o1 := O.out x (List.mem_append_right _ hx)
    refine ⟨?_, o1.2⟩
    exact (key _ fun hq => n3 _ hq _ (List.mem_map_of_mem hx) rfl).trans o1.1
  · show (match l1.lookup a with | some o => some o | none => B a) = none
    rw [key a fun hq => ?_]
    · exact O.ha
    obtain ⟨x, hx, ex⟩ := List.mem_map.mp hq
    exact (O.out x (List.mem_append_left _ hx)).2.1 ex
  · show (match l1.lookup c with | some o => some o | none => B c) = none
    rw [key c fun hq => ?_]
    · exact O.hc
    obtain ⟨x, hx, ex⟩ := List.mem_map.mp hq
    exact (O.out x (List.mem_append_left _ hx)).2.2 ex
theorem Own.freeze (O : Own a c B H ((p, o) :: ls)) : ∃ B', Same B B' ∧ B' p = some o ∧ Own a c B' H ls := by
  obtain ⟨B', s, h, _, O'⟩ := Own.hide (l1 := [(p, o)]) O
  exact ⟨B', s, h _ List.mem_cons_self, O'⟩
/-- .. and is owned again -/
theorem Own.unhide (O : Own a c B H l2) (nd : (l1.map Prod.fst).Nodup) (h : ∀ x ∈ l1, B x.1 = some x.2) : Own a c (hid (l1.map Prod.fst) B) H (l1 ++ l2) := by
  refine ⟨O.R, fun b u e => O.keep _ _ (hid_some e).1, ?_, fun x hx => ?_, fun x hx => ?_, ?_, ?_⟩
  · rw [List.map_append]
    refine List.nodup_append.mpr ⟨nd, O.nd, fun u hu v hv e => ?_⟩
    obtain ⟨x, hx, ex⟩ := List.mem_map.mp hu
    obtain ⟨y, hy, ey⟩ := List.mem_map.mp hv
    have h1 := h x hx
    have h2 := (O.out y hy).1
    rw [ey, ← e, ← ex, h1] at h2
    cases h2
  · rcases List.mem_append.mp hx with e | e
    · refine ⟨hid_in (List.mem_map_of_mem e), fun q => ?_, fun q => ?_⟩
      · have := h x e
        rw [q, O.ha] at this
        cases this
      · have := h x e
        rw [q, O.hc] at this
        cases this
    · refine ⟨?_, (O.out x e).2⟩
      by_cases q : x.1 ∈ l1.map Prod.fst
      · exact hid_in q
      · rw [hid_out q]
        exact (O.out x e).1
  · rcases List.mem_append.mp hx with e | e
    · exact O.keep _ _ (h x e)
    · exact O.here x e
  · by_cases q : a ∈ l1.map Prod.fst
    · exact hid_in q
    · rw [hid_out q]
      exact O.ha
  · by_cases q : c ∈ l1.map Prod.fst
    · exact hid_in q
    · rw [hid_out q]
      exact O.hc
theorem Same.hidO {l : List Addr} (s : Same B H) (h : ∀ p ∈ l, B p = none) : Same B (Lb.hid l H) := fun b u e => by
  rw [hid_out fun q => by rw [h b q] at e; cases e]
  exact s _ _ e
end
/-- what came since -/
inductive Pre (l0 : List (Addr × HO)) : List (Addr × HO) → List (Addr × HO) → Prop
  | nil : Pre l0 l0 []
  | cons {x : Addr × HO} {l l1 : List (Addr × HO)} (h : Pre l0 l l1) : Pre l0 (x :: l) (x :: l1)
inductive PutF (f : Str) (y : V) : List (Str × V) → List (Str × V) → Prop
  | nil : PutF f y [] [(f, y)]
  | here {x : V} {r : List (Str × V)} : PutF f y ((f, x) :: r) ((f, y) :: r)
  | there {g : Str} {x : V} {r r' : List (Str × V)} (n : ¬ g = f) (h : PutF f y r r') : PutF f y ((g, x) :: r) ((g, x) :: r')
inductive LkF (f : Str) (v : Option V) : List (Str × V) → Prop
  | nil (h : v = none) : LkF f v []
  | here {x : V} {r : List (Str × V)} (h : v = some x) : LkF f v ((f, x) :: r)
  | there {g : Str} {x : V} {r : List (Str × V)} (n : ¬ f = g) (h : LkF f v r) : LkF f v ((g, x) :: r)
section
variable {a c p : Addr} {B H H' : Hp} {o o' : HO} {ls ls' l0 l1 l2 : List (Addr × HO)} {f : Str} {y : V} {fs fs' : List (Str × V)} {w : Option V}
theorem Pre.eq (h : Pre l0 l1 l2) : l1 = l2 ++ l0 := by
  induction h with
  | nil => rfl
  | cons _ ih => rw [ih]; rfl
theorem PutF.eq (h : PutF f y fs fs') : putF f y fs = fs' := by
  induction h with
  | nil => rfl
  | here => exact if_pos rfl
  | there n _ ih => exact (if_neg n).trans (by rw [ih])
theorem LkF.eq (h : LkF f w fs) : fs.lookup f = w := by
  induction h with
  | nil e => exact e.symm
  | @here x r e =>
    show (match f == f with | true => some x | false => r.lookup f) = w
    rw [beq_self_eq_true]
    exact e.symm
  | @there g x r n _ ih =>
    show (match f == g with | true => some x | false => r.lookup f) = w
    rw [beq_false_of_ne n]
    exact ih
theorem Own.settle (O : Own a c B H ls) (h : Pre l0 ls l1) : ∃ B', Same B B' ∧ (∀ x ∈ l1, B' x.1 = some x.2) ∧ Own a c B' H l0 := by
  rw [h.eq] at O
  obtain ⟨B', s, k, _, O'⟩ := O.hide
  exact ⟨B', s, k, O'⟩
theorem Own.drop (O : Own a c B H (l1 ++ l2)) : Own a c B H l2 :=
  ⟨O.R, O.keep, (by
    have nd := O.nd
    rw [List.map_append] at nd
    exact (List.nodup_append.mp nd).2.1), fun x hx => O.out x (List.mem_append_right _ hx), fun x hx => O.here x (List.mem_append_right _ hx), O.ha, O.hc⟩
theorem Own.dropP (O : Own a c B H ls) (h : Pre l0 ls l1) : Own a c B H l0 := by
  rw [h.eq] at O
  exact O.drop
theorem Own.start (R : Rng a c H) : Own a c (hid [a, c] H) H [] := ⟨R, hid_sub, List.nodup_nil, fun _ h => (List.not_mem_nil h).elim, fun _ h => (List.not_mem_nil h).elim, hid_in List.mem_cons_self, hid_in (List.mem_cons_of_mem _ List.mem_cons_self)⟩
end
/-! ### steps by what is owned -/
section
variable {a c p : Addr} {B H : Hp} {ls ls' : List (Addr × HO)} {Q : VK} {xs : List V} {o : HO} {σ : L2.St}
/-- a new place -/
def NewO (o : HO) (H : Hp) (Q : VK) : Prop := ∀ p, H p = none → Q (.ref p) (upd H p o)
def FldS (K : PySem.W.Frag) (x : V) (f : Str) (y : V) (H : Hp) (R : Hp → Prop) : Prop := ∃ a C dx fs, x = .ref a ∧ H a = some (.ins C dx fs) ∧ Cls K C ∧ NoAttr K C f ∧ fs.length < 1000 ∧ R (upd H a (.ins C dx (putF f y fs)))
def NewI (C : Addr) (sp : Sp) (vs : List V) (H : Hp) (Q : VK) (E : XK) : Prop := ∀ x dx, H x = none → H dx = none → dx ≠ x → sp (.ref x :: vs) (upd (upd H dx (.own x)) x (.ins C dx [])) (fun v H2 => v = .non ∧ Q (.ref x) H2) E
theorem i_tupN {t : TA} (q : t σ H fun xs H1 => xs.length ≤ sizeLine ∧ NewO (.tup xs) H1 Q) : tTup t σ H Q := q
theorem i_lstN {t : TA} (q : t σ H fun xs H1 => xs.length ≤ sizeLine ∧ NewO (.lst xs) H1 Q) : tLst t σ H Q := q
theorem i_dnewN (q : NewO (.dK []) H Q) : tDNewK σ H Q := q
theorem i_fldSN {K : PySem.W.Frag} {ta tv : TE} {f : Str} {nx : L2.St → Hp → Prop} {rt : VK} {bk ct : L2.St → Hp → Prop} (q : tv σ H fun y H1 => ta σ H1 fun x H2 => FldS K x f y H2 fun H3 => nx σ H3) : sFld K ta tv f ⟨nx, rt, bk, ct⟩ σ H := q
theorem i_makeN {C : Addr} {sp : Sp} {E : XK} {t : TA} (q : t σ H fun vs H1 => NewI C sp (vs ++ []) H1 Q E) : tMake C sp [] E t σ H Q := q
theorem i_listN {p : Addr} (h : H p = some (.lst xs)) (k : NewO (.lst xs) H Q) : rListA [.ref p] H Q := i_listL h k
theorem i_listTN {p : Addr} (h : H p = some (.tup xs)) (k : NewO (.lst xs) H Q) : rListA [.ref p] H Q := i_listT h k
theorem i_addN {p q : Addr} {ys : List V} (h1 : H p = some (.lst xs)) (h2 : H q = some (.lst ys)) (h : xs.length + ys.length ≤ sizeLine) (k : NewO (.lst (xs ++ ys)) H Q) : rAddA (.ref p) (.ref q) H Q := i_addL h1 h2 h k
theorem i_tupO (O : Own a c B H ls) (hz : xs.length ≤ sizeLine) (k : ∀ p H', Own a c B H' ((p, .tup xs) :: ls) → Q (.ref p) H') : xs.length ≤ sizeLine ∧ NewO (.tup xs) H Q := ⟨hz, fun p hp => k p _ (O.new hp)⟩
theorem i_lstO (O : Own a c B H ls) (hz : xs.length ≤ sizeLine) (k : ∀ p H', Own a c B H' ((p, .lst xs) :: ls) → Q (.ref p) H') : xs.length ≤ sizeLine ∧ NewO (.lst xs) H Q := ⟨hz, fun p hp => k p _ (O.new hp)⟩
theorem i_newO (O : Own a c B H ls) (k : ∀ p H', Own a c B H' ((p, o) :: ls) → Q (.ref p) H') : NewO o H Q := fun p hp => k p _ (O.new hp)
theorem i_dgetI {p : Addr} {kvs : List (Key × V)} {i : Int} {v : V} {R : V → Prop} (h : H p = some (.dK kvs)) (hv : valV kvs (.inl i) = some v) (q : R v) : (∃ a' v', V.ref p = .ref a' ∧ DGet H a' (.int i) (some v') ∧ R v') := i_dgetK h (k := .inl i) rfl hv q
inductive IxO : HO → Int → V → Prop
  | lst {xs : List V} {i : Int} {v : V} (h : atI xs i = some v) : IxO (.lst xs) i v
  | tup {xs : List V} {i : Int} {v : V} (h : atI xs i = some v) : IxO (.tup xs) i v
inductive LenO : HO → Int → Prop
  | lst {xs : List V} : LenO (.lst xs) xs.length
  | tup {xs : List V} : LenO (.tup xs) xs.length
  | dK {kvs : List (Key × V)} : LenO (.dK kvs) kvs.length
theorem i_ixA {p : Addr} {i : Int} {v : V} (h : H p = some o) (hi : IxO o i v) (q : Q v H) : rIxA (.ref p) (.int i) H Q := by
  cases hi with
  | lst hi => exact i_ixL h hi q
  | tup hi => exact i_ixT h hi q
theorem i_lenA {p : Addr} {i : Int} (h : H p = some o) (hi : LenO o i) (q : Q (.int i) H) : rLenA [.ref p] H Q := by
  cases hi with
  | lst => exact i_lenL h q
  | tup => exact i_lenT h q
  | dK => exact i_lenD h q
theorem i_appO {l : Addr} {y : V} (O : Own a c B H ls) (h : Up1 l (.lst xs) (.lst (xs ++ [y])) ls ls') (hz : xs.length < sizeLine) (k : ∀ H', Own a c B H' ls' → Q .non H') : rAppA (.ref l) [y] H Q := i_app (O.mem h.mem) hz (k _ (O.set h))
theorem i_setO {l : Addr} {i : Int} {j : Nat} {v : V} {R : Hp → Prop} (O : Own a c B H ls) (h : Up1 l (.lst xs) (.lst (xs.set j v)) ls ls') (hi : ixN xs.length i = some j) (k : ∀ H', Own a c B H' ls' → R H') : rSetA (.ref l) (.int i) v H R := i_setL (O.mem h.mem) hi (k _ (O.set h))
theorem i_popIO {l : Addr} {y : V} {i : Int} {j : Nat} (O : Own a c B H ls) (h : Up1 l (.lst xs) (.lst (xs.eraseIdx j)) ls ls') (hi : i = (j : Int)) (hj : j < 2 ^ 62) (hy : xs[j]? = some y) (k : ∀ H', Own a c B H' ls' → Q y H') : rPopI (.ref l) [.int i] H Q := by
  simp only [rPopI, O.mem h.mem]
  exact ⟨j, y, hi, hj, hy, k _ (O.set h)⟩
theorem i_popLO {l : Addr} {y : V} (O : Own a c B H ls) (h : Up1 l (.lst xs) (.lst xs.dropLast) ls ls') (hy : xs[xs.length - 1]? = some y) (k : ∀ H', Own a c B H' ls' → Q y H') : rPopL (.ref l) [] H Q := i_popL (O.mem h.mem) hy (k _ (O.set h))
theorem i_fldO {K : PySem.W.Frag} {l C dx : Addr} {fs : List (Str × V)} {f : Str} {v : V} {R : V → Prop} (h : H l = some (.ins C dx fs)) (hc : Cls K C) (hn : NoAttr K C f) (hv : LkF f (some v) fs) (k : R v) :
    (∃ a C dx fs v, V.ref l = .ref a ∧ H a = some (.ins C dx fs) ∧ Cls K C ∧ NoAttr K C f ∧ fs.lookup f = some v ∧ R v) := ⟨l, C, dx, fs, v, rfl, h, hc, hn, hv.eq, k⟩
theorem i_fldSO {K : PySem.W.Frag} {l C dx : Addr} {fs : List (Str × V)} {f : Str} {y : V} {R : Hp → Prop} (O : Own a c B H ls) {fs' : List (Str × V)} (h : Up1 l (.ins C dx fs) (.ins C dx fs') ls ls') (hf : PutF f y fs fs') (hc : Cls K C) (hn : NoAttr K C f) (hz : fs.length < 1000) (k : ∀ H', Own a c B H' ls' → R H') :
    FldS K (.ref l) f y H R := ⟨l, C, dx, fs, rfl, O.mem h.mem, hc, hn, hz, by rw [hf.eq]; exact k _ (O.set h)⟩
theorem i_methO {C l dx : Addr} {fs : List (Str × V)} {m : Str} {t : TA} {R : List V → Hp → Prop} (h : H l = some (.ins C dx fs)) (hm : LkF m none fs) (k : t σ H R) :
    (∃ a dx fs, V.ref l = .ref a ∧ H a = some (.ins C dx fs) ∧ fs.lookup m = none ∧ t σ H R) := ⟨l, dx, fs, rfl, h, hm.eq, k⟩
theorem i_mkd {R : Prop} (q : R) : (V.non = V.non ∧ R) := ⟨rfl, q⟩
theorem i_makeO {C : Addr} {sp : Sp} {E : XK} {vs : List V} (O : Own a c B H ls) (k : ∀ x dx H', Own a c B H' ((x, .ins C dx []) :: (dx, .own x) :: ls) → sp (.ref x :: vs) H' (fun v H2 => v = .non ∧ Q (.ref x) H2) E) : NewI C sp vs H Q E :=
  fun x dx hx hd ne => k x dx _ ((O.new hd).new (by rw [upd_ne ne.symm]; exact hx))
theorem i_drawO {s : Addr} {n : Int} {E : XK} (O : Own a c B H ls) (hs : s = a) (h0 : 0 < n) (h1 : n < 1073741824) (k : ∀ (r : Int) H', 0 ≤ r → r < n → Own a c B H' ls → Q (.int r) H') : spDraw ([.ref s, .int n] ++ []) H Q E := by
  subst hs
  exact ⟨_, c, n, rfl, h0, h1, O.R, fun H' r a1 a2 R f => k r H' a1 a2 (O.draw R f)⟩
theorem i_pickO {s p : Addr} {E : XK} (O : Own a c B H ls) (hs : s = a) (hp : (p, HO.lst xs) ∈ ls) (h0 : xs ≠ []) (h1 : xs.length ≤ 100000) (k : ∀ (v : V) H', v ∈ xs → Own a c B H' ls → Q v H') : spPick ([.ref s, .ref p] ++ []) H Q E := by
  subst hs
  exact ⟨_, c, p, xs, rfl, O.R, O.mem hp, (O.out _ hp).2.1, (O.out _ hp).2.2, h0, h1, fun H' v hv R f => k v H' hv (O.draw R f)⟩
/-! ### blocks of n alike -/
theorem blk_pull {α : Type} {n j : Nat} (h : j < n) (f : Nat → List α) : ((List.range n).flatMap f).Perm (f j ++ ((List.range n).erase j).flatMap f) := by
  have e := List.perm_cons_erase (List.mem_range.mpr h)
  exact (e.flatMap_right f)
theorem blk_other {α : Type} {n j : Nat} {f g : Nat → List α} (h : ∀ i, i ≠ j → g i = f i) : ((List.range n).erase j).flatMap g = ((List.range n).erase j).flatMap f := by
  have key : ∀ l : List Nat, j ∉ l → l.flatMap g = l.flatMap f := by
    intro l
    induction l with
    | nil => intro _; rfl
    | cons x r ih =>
      intro hj
      rw [List.flatMap_cons, List.flatMap_cons, h x (fun q => hj (by rw [q]; exact List.mem_cons_self)), ih fun q => hj (List.mem_cons_of_mem _ q)]
  exact key _ fun q => ((List.nodup_range).mem_erase_iff.mp q).1 rfl
theorem blk_below {α : Type} {n : Nat} {f g : Nat → List α} (h : ∀ i, i < n → g i = f i) : (List.range n).flatMap g = (List.range n).flatMap f := by
  have key : ∀ l : List Nat, (∀ i ∈ l, i < n) → l.flatMap g = l.flatMap f := by
    intro l
    induction l with
    | nil => intro _; rfl
    | cons x r ih =>
      intro hj
      rw [List.flatMap_cons, List.flatMap_cons, h x (hj x List.mem_cons_self), ih fun i hi => hj i (List.mem_cons_of_mem _ hi)]
  exact key _ fun i hi => List.mem_range.mp hi
theorem blk_succ {α : Type} {n : Nat} (f : Nat → List α) : (List.range (n + 1)).flatMap f = (List.range n).flatMap f ++ f n := by
  rw [List.range_succ, List.flatMap_append, List.flatMap_cons, List.flatMap_nil, List.append_nil]
theorem blk_join {α : Type} (f g : Nat → List α) : ∀ n, ((List.range n).flatMap f ++ (List.range n).flatMap g).Perm ((List.range n).flatMap fun i => f i ++ g i)
  | 0 => .nil
  | n + 1 => by
    rw [blk_succ, blk_succ, blk_succ]
    have ih := blk_join f g n
    refine List.Perm.trans ?_ (ih.append_right (f n ++ g n))
    rw [List.append_assoc, List.append_assoc]
    refine List.Perm.append_left _ ?_
    rw [← List.append_assoc, ← List.append_assoc]
    exact (List.perm_append_comm (l₁ := f n)).append_right _
/-- a def of the walk's own -/
def spIn (N : List Str) (n : Nat) (t : TS) : Sp := fun vs H Q _ => vs.length = n ∧ t { nx := fun _ H' => Q .non H', rt := Q } (L2.start N vs) H
inductive StE : List Str → List V → L2.St → Prop
  | nil : StE [] [] []
  | app {N : List Str} {vs : List V} {σ : L2.St} (h : StE N vs σ) : StE N (vs ++ []) σ
  | got {x : Str} {N : List Str} {v : V} {vs : List V} {σ : L2.St} (h : StE N vs σ) : StE (x :: N) (v :: vs) (some v :: σ)
  | lack {x : Str} {N : List Str} {σ : L2.St} (h : StE N [] σ) : StE (x :: N) [] (none :: σ)
theorem StE.eq {N : List Str} {vs : List V} {σ : L2.St} (h : StE N vs σ) : L2.start N vs = σ := by
  induction h with
  | nil => rfl
  | app _ ih => rw [List.append_nil]; exact ih
  | @got x N v vs σ _ ih =>
    rw [← ih]
    show (v :: vs).map some ++ List.replicate (N.length + 1 - (vs.length + 1)) none = some v :: (vs.map some ++ List.replicate (N.length - vs.length) none)
    rw [Nat.add_sub_add_right]
    rfl
  | @lack x N σ _ ih =>
    rw [← ih]
    rfl
theorem i_in {N : List Str} {n : Nat} {t : TS} {vs : List V} {σ : L2.St} {E : XK} (hn : vs.length = n) (hs : StE N vs σ) (q : t { nx := fun _ H' => Q .non H', rt := Q } σ H) : spIn N n t vs H Q E := ⟨hn, by rw [hs.eq]; exact q⟩
end
end Lb
set_option Elab.async false
set_option linter.all false
set_option maxRecDepth 100000
set_option maxHeartbeats 4000000
/-! Lp: attributes as targets, is of bools, index of ints. Knows no program. -/
namespace Lb
open PySem PySem.Spec PyProof.Rows L2
/-- o.f as a target -/
def gFld (K : PySem.W.Frag) (ta : TE) (f : Str) : TG := fun v σ H R => ta σ H fun x H1 => FldS K x f v H1 fun H2 => R σ H2
section
variable {X : Cx} {o : Expr} {f : Str} {ta : TE} {pos : Pos}
theorem pg_fld (ha : PE X o ta) : PG X (.Attribute o f pos) (gFld X.K ta f) := by
  refine ⟨fun pins s σ H v u Q I r h => ?_⟩
  refine PySem.W.kas_attr (thn (ha.run pins s σ H _ I h) fun ov s1 ⟨x, H1, I1, rx, a, C, dx, fs, ex, ea, c, n, l, q⟩ => ?_)
  subst ex
  obtain rfl : ov = Value.ref a := rx
  exact setattr_ok I1 ea c n l r fun s2 I2 => ⟨σ, _, I2, q⟩
end
section
variable {H : Hp} {Q : VK} {σ : L2.St}
theorem i_gfld {K : PySem.W.Frag} {ta : TE} {f : Str} {v : V} {R : L2.St → Hp → Prop} (q : ta σ H fun x H1 => FldS K x f v H1 fun H2 => R σ H2) : gFld K ta f v σ H R := q
theorem i_glst {K : PySem.W.Frag} {n : Nat} {t : TGs} {a : Addr} {xs : List V} {R : L2.St → Hp → Prop} (h : H a = some (.lst xs)) (hn : xs.length = n) (q : t xs σ H R) : gLst K n t (.ref a) σ H R := ⟨a, xs, rfl, SqL.of h, hn, q⟩
theorem i_isB {a b : Bool} (q : Q (.bl (decide (a = b))) H) : rIsB (.bl a) (.bl b) H Q := ⟨a, b, rfl, rfl, q⟩
theorem i_notB {a b : Bool} (q : Q (.bl (!decide (a = b))) H) : rNotB (.bl a) (.bl b) H Q := ⟨a, b, rfl, rfl, q⟩
theorem i_bm {K : PySem.W.Frag} {T : String} {r : V → List V → Hp → VK → Prop} {to : TE} {t : TA} (q : to σ H fun x H1 => tyV K T x H1 ∧ t σ H1 fun xs H2 => r x xs H2 Q) : tBM K T r to t σ H Q := q
theorem eqV_int {a b : Int} : eqV (.int a) (.int b) = decide (a = b) := by
  by_cases h : a = b <;> simp [eqV, h]
/-- xs.index(y), ints -/
theorem i_indexI {K : PySem.W.Frag} {p : Addr} {ns : List Int} {y : Int} {j : Nat} (h : H p = some (.lst (ns.map V.int))) (hj : ns[j]? = some y) (hn : ∀ m, m < j → ns[m]? ≠ some y) (q : Q (.int (j : Nat)) H) : rIndex K (.ref p) [.int y] H Q := by
  refine ⟨p, ns.map V.int, .int y, j, .int y, rfl, rfl, SqL.of h, rfl, ?_, ?_, ?_, fun m z' hm hz => ?_, q⟩
  · rw [List.all_eq_true]
    intro v hv
    obtain ⟨i, _, rfl⟩ := List.mem_map.mp hv
    rfl
  · rw [List.getElem?_map, hj]
    rfl
  · rw [eqV_int]
    exact decide_eq_true rfl
  · rw [List.getElem?_map] at hz
    cases e : ns[m]? with
    | none => rw [e] at hz; cases hz
    | some u =>
      rw [e] at hz
      rw [← Option.some.inj hz]
      show eqV (.int u) (.int y) = false
      rw [eqV_int]
      exact decide_eq_false fun q => hn m hm (by rw [e, q])
end
end Lb
set_option Elab.async false
set_option linter.all false
set_option maxRecDepth 100000
set_option maxHeartbeats 4000000
/-! Lt: constant tuples of the program, index of a tuple, split, extend by a tuple. Knows no program. -/
namespace Lb
open PySem PySem.Spec PyProof.Rows L2
def allB : List V → List Value → Bool
  | [], [] => true
  | x :: xs, u :: us => He.relB x u && allB xs us
  | _, _ => false
theorem allB_ok : ∀ {xs : List V} {us : List Value}, allB xs us = true → Vals xs us
  | [], [], _ => .nil
  | x :: xs, u :: us, h => by
    obtain ⟨h1, h2⟩ := He.ba (show (He.relB x u && allB xs us) = true from h)
    exact .cons (He.relB_ok h1) (allB_ok h2)
  | [], _ :: _, h => by cases h
  | _ :: _, [], h => by cases h
/-- the global x is a tuple of these -/
def tupB (K : PySem.W.Frag) (x : Str) (xs : List V) : Bool := match K.lookup (He.ga K x) with
  | some ⟨.type c, none, .seq its _, _⟩ => decide (c = "tuple") && (decide (its.size ≤ 1000) && allB xs its.toList)
  | _ => false
/-- what a constant tuple is -/
structure KT (K : PySem.W.Frag) (a : Addr) (xs : List V) : Prop where
  sq : ∀ H, SqT K H a xs
  ty : ∀ H, tyV K "tuple" (.ref a) H
theorem tupB_ok {K : PySem.W.Frag} {x : Str} {xs : List V} (h : tupB K x xs = true) : KT K (He.ga K x) xs := by
  unfold tupB at h
  cases q : K.lookup (He.ga K x) with
  | none =>
    rw [q] at h
    cases h
  | some o =>
    obtain ⟨oc, od, dt, osl⟩ := o
    rw [q] at h
    cases oc with
    | type c =>
      cases od with
      | none =>
        cases dt with
        | seq its n =>
          obtain ⟨h1, h2⟩ := He.ba h
          obtain ⟨h3, h4⟩ := He.ba h2
          have e : c = "tuple" := of_decide_eq_true h1
          subst e
          exact ⟨fun H => .inr ⟨_, its, n, q, rfl, rfl, sz (Nat.le_trans (of_decide_eq_true h3) (by decide)), allB_ok h4⟩, fun H => .inr (.inl ⟨rfl, _, q, rfl, rfl⟩)⟩
        | _ => cases h
      | some d => cases dt <;> cases h
    | _ => cases od <;> cases dt <;> cases h
def rLenK (K : PySem.W.Frag) : List V → Hp → VK → Prop := fun xs H Q => ∃ p ys, xs = [.ref p] ∧ (SqL K H p ys ∨ SqT K H p ys) ∧ Q (.int ys.length) H
def rTixA (K : PySem.W.Frag) : V → List V → Hp → VK → Prop := fun x xs H Q => ∃ p, ∃ ys : List Str, ∃ z j, x = .ref p ∧ xs = [.str z] ∧ SqT K H p (ys.map V.str) ∧ ys[j]? = some z ∧ (∀ m, m < j → ys[m]? ≠ some z) ∧ Q (.int (j : Nat)) H
def rSplitA : V → List V → Hp → VK → Prop := fun x xs H Q => ∃ a b, x = .str a ∧ xs = [.str b] ∧ (b.length == 0) = false ∧ a.length + 2 ≤ sizeLine ∧ ∀ p, H p = none → Q (.ref p) (upd H p (.lst ((Txt.split a b).map V.str)))
def rExtT : V → List V → Hp → VK → Prop := fun x vs H Q => ∃ l b xs ys, x = .ref l ∧ vs = [.ref b] ∧ H l = some (.lst xs) ∧ H b = some (.tup ys) ∧ xs.length + ys.length ≤ sizeLine ∧ Q .non (upd H l (.lst (xs ++ ys)))
theorem ext_tup (l : Addr) (items : Array Value) (n : Nat) (b : Addr) (items2 : Array Value) (n2 : Nat) (dd : Option Addr) (sl : Array (Option Value)) (hs0 : ¬(!items.isEmpty && Builtin.List.listTooLong (items.size + items2.size)) = true) (hs1 : items.size ≤ sizeLine) (hs2 : items.size + items2.size ≤ sizeLine + 1) :
    Meets (Builtin.«list.extend» ⟨[.ref l, .ref b], []⟩) (fun _ R s => s.heap.get? l = some { cls := .type "list", dict := none, data := .seq items n, slots := #[] } ∧ s.heap.get? b = some { cls := .type "tuple", dict := dd, data := .seq items2 n2, slots := sl } ∧ R (.ok (.ret Value.none)) { s with heap := s.heap.update l (Obj.mapSeq fun x => x ++ items2), toks := s.toks }) :=
  .of_wp fun prog w A R s h => by
    obtain ⟨hp, g, d, tk, os⟩ := s; obtain ⟨hl, hb, h⟩ := h; have f1 := AutoSeq1.idx_int; have f2 := AutoSeq1.sub_tuple_tuple; have f3 := AutoSeq1.sub_list_list; have f4 := AutoSeq1.sub_tuple_list; have f5 := AutoSeq1.sub_list_tuple;
    have hz' : (items ++ items2).size ≤ sizeLine + 1 := by rw [Array.size_append]; exact hs2
    wp_walk using (wpAny_updateSeq hl rfl (hz := hs1) (_hz' := hz')), AutoSeq1.wpAny_loadPart' hl, AutoSeq1.wpAny_loadPart' hb; exact ⟨_, rfl, h⟩
section
variable {X : Cx} {H : Hp} {Q : VK} {σ : L2.St}
theorem call_lenK : CallR X (.builtin "len") (rLenK X.K) := call_len_seq
theorem mt_tixA : MtR X "tuple.index" (rTixA X.K) := mt_tup_index
theorem mt_splitA : MtR X "str.split" rSplitA := mt_split
theorem mt_extT : MtR X "list.extend" rExtT := by
  intro pins s σ H x vs v us Q I rx rv h
  obtain ⟨l, b, xs, zs, rfl, rfl, hH, hB, hz, q⟩ := h
  cases rx
  obtain ⟨u, rfl, ru⟩ := rv.one
  cases ru
  obtain ⟨z, its, n, r, hl, e⟩ := I.lstM hH
  obtain ⟨its2, r2, ⟨⟨cls, dd, dt, sl⟩, ho, hc, n2, hd⟩, hz2⟩ := I.tuple (SqT.of (K := X.K) hB)
  simp only at hc hd
  subst hc
  subst hd
  have hl2 := r2.length
  have hsz : its.toArray.size + its2.toArray.size ≤ sizeLine := by rw [List.size_toArray, List.size_toArray]; omega
  have hlong : ¬ (!its.toArray.isEmpty && Builtin.List.listTooLong (its.toArray.size + its2.toArray.size)) = true := by
    rw [notLongL hsz, Bool.and_false]
    exact Bool.false_ne_true
  refine call_meets F.slot_list_extend ⟨_, e, rfl⟩ F.entry_list_extend (F.args_list_extend_2 _ _)
    (ext_tup l its.toArray n b its2.toArray n2 dd sl hlong (by rw [List.size_toArray]; omega) (by omega)) ⟨e, ho, ?_⟩
  refine ⟨.non, _, I.lset (its' := its ++ its2) hH e (by simp) (r.append r2) ?_, rfl, q⟩
  rw [List.length_append]
  omega
end
theorem Up1.mid {p : Addr} {o o' : HO} {ls ls' : List (Addr × HO)} (h : Up1 p o o' ls ls') (m : HO) : ∃ l1, Up1 p o m ls l1 ∧ Up1 p m o' l1 ls' := by
  induction h with
  | here => exact ⟨_, .here, .here⟩
  | there _ ih =>
    obtain ⟨l1, h1, h2⟩ := ih
    exact ⟨_, .there h1, .there h2⟩
theorem Up1.mem' {p : Addr} {o o' : HO} {ls ls' : List (Addr × HO)} (h : Up1 p o o' ls ls') : (p, o') ∈ ls' := by
  induction h with
  | here => exact List.mem_cons_self
  | there _ ih => exact List.mem_cons_of_mem _ ih
theorem Up1.comp {p : Addr} {o o' o'' : HO} {ls l1 ls' : List (Addr × HO)} (h : Up1 p o o' ls l1) (k : Up1 p o' o'' l1 ls') (nd : (l1.map Prod.fst).Nodup) : Up1 p o o'' ls ls' := by
  induction h generalizing ls' with
  | here =>
    cases k with
    | here => exact .here
    | there k => exact ((List.nodup_cons.mp nd).1 (List.mem_map_of_mem (f := Prod.fst) k.mem)).elim
  | there h ih =>
    cases k with
    | here => exact ((List.nodup_cons.mp nd).1 (List.mem_map_of_mem (f := Prod.fst) h.mem')).elim
    | there k => exact .there (ih k (List.nodup_cons.mp nd).2)
theorem Up1.eq {p : Addr} {o : HO} {ls ls' : List (Addr × HO)} (h : Up1 p o o ls ls') : ls' = ls := by
  induction h with
  | here => rfl
  | there _ ih => rw [ih]
section
variable {H : Hp} {Q : VK} {σ : L2.St} {K : PySem.W.Frag}
theorem i_ixK {p : Addr} {xs : List V} {i : Int} {v : V} (h : KT K p xs) (e : atI xs i = some v) (q : Q v H) : rIxT K (.ref p) (.int i) H Q := ⟨p, xs, i, v, rfl, rfl, h.sq H, e, q⟩
theorem i_lenK {p : Addr} {xs : List V} {n : Int} (h : KT K p xs) (e : (xs.length : Int) = n) (q : Q (.int n) H) : rLenK K [.ref p] H Q := by
  subst e
  exact ⟨p, xs, rfl, .inr (h.sq H), q⟩
theorem i_tixK {p : Addr} {ys : List Str} {z : Str} {j : Nat} (h : KT K p (ys.map V.str)) (h1 : ys[j]? = some z) (h2 : ∀ m, m < j → ys[m]? ≠ some z) (q : Q (.int (j : Nat)) H) : rTixA K (.ref p) [.str z] H Q := ⟨p, ys, z, j, rfl, rfl, h.sq H, h1, h2, q⟩
theorem i_split {a b : Str} {ys : List Str} (e : Txt.split a b = ys) (h1 : (b.length == 0) = false) (h2 : a.length + 2 ≤ 100000) (q : NewO (.lst (ys.map V.str)) H Q) : rSplitA (.str a) [.str b] H Q := by
  subst e
  exact ⟨a, b, rfl, rfl, h1, sz h2, q⟩
theorem i_extT {a c l b : Addr} {B : Hp} {ls ls' : List (Addr × HO)} {xs ys : List V} (O : Own a c B H ls) (hb : H b = some (.tup ys)) (h : Up1 l (.lst xs) (.lst (xs ++ ys)) ls ls') (hz : xs.length + ys.length ≤ sizeLine) (k : ∀ H', Own a c B H' ls' → Q .non H') : rExtT (.ref l) [.ref b] H Q :=
  ⟨l, b, xs, ys, rfl, rfl, O.mem h.mem, hb, hz, k _ (O.set h)⟩
theorem i_extO {a c l b : Addr} {B : Hp} {ls ls' : List (Addr × HO)} {xs ys : List V} (O : Own a c B H ls) (hb : H b = some (.lst ys)) (h : Up1 l (.lst xs) (.lst (xs ++ ys)) ls ls') (hz : xs.length + ys.length ≤ sizeLine) (k : ∀ H', Own a c B H' ls' → Q .non H') : rExtA (.ref l) [.ref b] H Q := by
  simp only [rExtA, O.mem h.mem, hb]
  exact ⟨hz, k _ (O.set h)⟩
theorem i_tupLN {p : Addr} {xs : List V} (h : H p = some (.lst xs)) (k : NewO (.tup xs) H Q) : rTupA [.ref p] H Q := i_tupL h k
theorem i_tyK {p : Addr} {xs : List V} {R : Prop} (h : KT K p xs) (q : R) : tyV K "tuple" (.ref p) H ∧ R := ⟨h.ty H, q⟩
theorem i_tyS {z : Str} {R : Prop} (q : R) : tyV K "str" (.str z) H ∧ R := ⟨rfl, q⟩
end
theorem Own.skipP {a c : Addr} {B H : Hp} {x : Addr × HO} {l l0 l1 : List (Addr × HO)} (O : Own a c B H (x :: l)) (h : Pre l0 l l1) : Own a c B H (x :: l0) := by
  have e := h.eq
  subst e
  have O2 := O.perm (ls' := l1 ++ x :: l0) (by
    refine (List.Perm.cons x (List.Perm.refl _)).trans ?_
    exact (List.perm_middle).symm)
  exact O2.drop
theorem i_inO {K : PySem.W.Frag} {H : Hp} {Q : VK} {p : Addr} {x : V} {xs : List V} (h : H p = some (.tup xs)) (f : flatV x = true) (g : xs.all flatV = true) (q : Q (.bl (inV x xs)) H) : rIn K false x (.ref p) H Q := by
  refine ⟨p, _, rfl, .inr (SqT.of h), f, g, ?_⟩
  rw [if_neg (by simp)]
  exact q
inductive Pick (y : Addr × HO) : List (Addr × HO) → List (Addr × HO) → Prop
  | here {r : List (Addr × HO)} : Pick y (y :: r) r
  | there {x : Addr × HO} {r r' : List (Addr × HO)} (h : Pick y r r') : Pick y (x :: r) (x :: r')
theorem Pick.perm1 {y : Addr × HO} {l r : List (Addr × HO)} (h : Pick y l r) : l.Perm (y :: r) := by
  induction h with
  | here => exact .refl _
  | there _ ih => exact (ih.cons _).trans (.swap ..)
theorem Pick.perm {y : Addr × HO} {l r ys : List (Addr × HO)} (h : Pick y l r) (k : r.Perm ys) : l.Perm (y :: ys) := h.perm1.trans (k.cons _)
end Lb
set_option Elab.async false
set_option linter.all false
set_option maxRecDepth 100000
set_option maxHeartbeats 4000000
/-! Lx: own exceptions with a field, made by an __init__ that calls its base's; raised, caught, looked at. Knows no program. -/
namespace Lb
open PySem PySem.Spec PyProof.Rows L2
/-- the class object, as an own class over ValueError -/
def oexB (K : PySem.W.Frag) (C : Addr) : Bool := match K.lookup C with
  | some ⟨.type "type", _, .cls cd, sl⟩ => (match cd.mro, sl.toList with
    | .ref C' :: bm, [_, _, _, _, some (.builtin n), _] => C' == C && n == "ValueError.__new__" && !cd.hasDel && cd.hasDict && PySem.HandSPX.refsVE bm
    | _, _ => false)
  | _ => false
theorem oexB_ok {K : PySem.W.Frag} {C : Addr} (q : oexB K C = true) : ∃ nm q N bs bm sn sub ab col dd k0 k1 k2 k3 k5, K.lookup C = some (excClassObj nm q C N bs bm true sn sub ab col dd k0 k1 k2 k3 k5 "ValueError.__new__") ∧ PySem.HandSPX.refsVE bm = true := by
  unfold oexB at q
  split at q
  · rename_i dd cd sl ho
    split at q
    · rename_i C' bm k0 k1 k2 k3 n k5 hm hs
      simp only [Bool.and_eq_true, beq_iff_eq, Bool.not_eq_true'] at q
      obtain ⟨⟨⟨⟨rfl, rfl⟩, hdel⟩, hdi⟩, ht⟩ := q
      obtain ⟨nm, bs, mro, ns, qn, hd, sn, sub, ab, col, del⟩ := cd
      dsimp only at hm hdel hdi
      subst hm hdel hdi
      have hsl : sl = #[k0, k1, k2, k3, some (.builtin "ValueError.__new__"), k5] := by
        obtain ⟨l⟩ := sl
        simp only at hs
        rw [hs]
      subst hsl
      exact ⟨nm, qn, ns, bs, bm, sn, sub, ab, col, dd, k0, k1, k2, k3, k5, ho, ht⟩
    · cases q
  · cases q
/-- C an own exception class, its __init__ (at fI) storing f, B its base among the own classes -/
structure EC (K : PySem.W.Frag) (C B fI : Addr) (f : Str) : Prop where
  oex : OexC K C
  xf : XfC K C
  no : PySem.W.findIn K (.ref C) f = some none
  iC : PySem.W.findIn K (.ref C) "__init__" = some (some (.ref fI))
  tI : PySem.W.typeIn K (.ref fI) = some (.type "function")
  ha : PySem.W.findIn K (.ref C) "__class__" = some (some (.builtin "object.__class__"))
  hn : PySem.W.specialIn K (.builtin "object.__class__") "__get__" = some (some (.builtin "getset_descriptor.__get__"))
  ht : PySem.W.takesIn K (.builtin "object.__class__") = some true
  hm : PySem.W.mroIn K C (.type "object") = some true
  hc : (PySem.W.clsIn K C).isSome = true
  ki : PySem.W.kitOne K (.ref C) (.ref B) = some true
  em : PySem.W.exmOne K (.ref C) (.ref C) = some true
  rd : PySem.W.readsIn K B (.type "type") = true
  ga : PySem.W.specialIn K (.ref B) "__getattribute__" = some (some (.builtin "type.__getattribute__"))
  bi : PySem.W.findCls K (.ref B) (.type "type") "__init__" = some (.val (.builtin "ValueError.__init__"))
def ecB (K : PySem.W.Frag) (C B fI : Addr) (f : Str) : Bool :=
  oexB K C && (decide (PySem.W.findIn K (.ref C) "__setattr__" = some (some (.builtin "object.__setattr__"))) && (decide (PySem.W.subIn K (.ref C) (.type "BaseException") = some true) && (decide (PySem.W.typeIn K (.ref C) = some (.type "type")) && (PySem.W.keepIn K (.ref C) &&
  (xfB K C && (decide (PySem.W.findIn K (.ref C) f = some none) && (decide (PySem.W.findIn K (.ref C) "__init__" = some (some (.ref fI))) && (decide (PySem.W.typeIn K (.ref fI) = some (.type "function")) &&
  (decide (PySem.W.findIn K (.ref C) "__class__" = some (some (.builtin "object.__class__"))) && (decide (PySem.W.specialIn K (.builtin "object.__class__") "__get__" = some (some (.builtin "getset_descriptor.__get__"))) && (decide (PySem.W.takesIn K (.builtin "object.__class__") = some true) &&
  (decide (PySem.W.mroIn K C (.type "object") = some true) && ((PySem.W.clsIn K C).isSome && (decide (PySem.W.kitOne K (.ref C) (.ref B) = some true) && (decide (PySem.W.exmOne K (.ref C) (.ref C) = some true) &&
  (PySem.W.readsIn K B (.type "type") && (decide (PySem.W.specialIn K (.ref B) "__getattribute__" = some (some (.builtin "type.__getattribute__"))) && (match PySem.W.findCls K (.ref B) (.type "type") "__init__" with
    | some (.val (.builtin n)) => decide (n = "ValueError.__init__")
    | _ => false))))))))))))))))))
theorem ecB_ok {K : PySem.W.Frag} {C B fI : Addr} {f : Str} (h : ecB K C B fI f = true) : EC K C B fI f := by
  unfold ecB at h
  obtain ⟨a1, h⟩ := He.ba h
  obtain ⟨a2, h⟩ := He.ba h
  obtain ⟨a3, h⟩ := He.ba h
  obtain ⟨a4, h⟩ := He.ba h
  obtain ⟨a5, h⟩ := He.ba h
  obtain ⟨a6, h⟩ := He.ba h
  obtain ⟨a7, h⟩ := He.ba h
  obtain ⟨a8, h⟩ := He.ba h
  obtain ⟨a9, h⟩ := He.ba h
  obtain ⟨b1, h⟩ := He.ba h
  obtain ⟨b2, h⟩ := He.ba h
  obtain ⟨b3, h⟩ := He.ba h
  obtain ⟨b4, h⟩ := He.ba h
  obtain ⟨b5, h⟩ := He.ba h
  obtain ⟨b6, h⟩ := He.ba h
  obtain ⟨b7, h⟩ := He.ba h
  obtain ⟨b8, h⟩ := He.ba h
  obtain ⟨b9, h⟩ := He.ba h
  refine ⟨⟨oexB_ok a1, of_decide_eq_true a2, of_decide_eq_true a3, of_decide_eq_true a4, a5⟩, xfB_ok a6, of_decide_eq_true a7, of_decide_eq_true a8, of_decide_eq_true a9, of_decide_eq_true b1, of_decide_eq_true b2, of_decide_eq_true b3, of_decide_eq_true b4, b5, of_decide_eq_true b6, of_decide_eq_true b7, b8, of_decide_eq_true b9, ?_⟩
  split at h
  · rename_i n e
    rw [e, of_decide_eq_true h]
  · cases h
/-! ### the base's __init__, called by the base's name -/
section
variable {X : Cx} {o e : Expr} {es : List Expr} {to te : TE} {ta : TA} {f x : Str} {p p' p1 p2 pos : Pos} {C B fI : Addr}
theorem pe_exinit {pl : Sem Bool} (T : EC X.K C B fI f) (hg : Gl X x) (hm : X.mg x = some (.ref B)) (ha : PA X (e :: es) ta) (hdb : (x == ("__debug__" : Str)) = false := by decide)
    (hc : eval (.Call (.Attribute (.Name x p1) "__init__" p2) (e :: es) [] pos) X.env = (do
      let ov ← eval (.Name x p1) X.env
      standAt p2.atName
      let (f, first) ← holding [ov] (getMethod ov "__init__" pl)
      callWith pos f first (backTo pos (starEach (e :: es) X.env)) (backToKw pos (keywordEach [] X.env))) := by rfl)
    (he : starEach (e :: es) X.env = (false, eval e X.env) :: starEach es X.env := by rfl) (hpl : (backTo pos (starEach es X.env)).any (·.1) = false := by rfl) :
    PE X (.Call (.Attribute (.Name x p1) "__init__" p2) (e :: es) [] pos) (tVeI X.K ta) := by
  refine ⟨fun pins s σ H Q I h => ?_⟩
  refine PySem.W.methodCall_KW (ld_glob I hg hm ?_ hdb) hc
  refine PySem.W.method_cls I.kIn T.ga ?_
  refine PySem.W.cls_value I.kIn T.rd T.bi (by decide +kernel) ?_
  show wpAny _ _ (callWith pos (Value.builtin "ValueError.__init__") [] (backTo pos (starEach (e :: es) X.env)) []) _ _ _
  refine PyProof.Rows.callWith_method1 (thn (ha.run pos pins _ σ H _ (I.tok _) h) fun us s1 ⟨vs, H1, I1, r1, a, C, ws, ev, hl, T, ea, q⟩ => ?_) he hpl
  subst ev
  cases r1 with
  | @cons _ u0 _ ur ra rw' =>
    obtain rfl : u0 = Value.ref a := ra
    have hlen : ur.length ≤ sizeLine := by
      rw [← Paired.length rw', sizeLine_eq]
      omega
    exact oinit_ok T I1 ea hlen fun s' J => ⟨.non, H1, J, rfl, q⟩
end
/-! ### making and raising -/
/-- what such an __init__ leaves -/
def spExi (K : PySem.W.Frag) (C B fI : Addr) (f : Str) : Sp := fun vs H Q _ => ∃ (a : Addr) (v : V), vs = [.ref a, v] ∧ EC K C B fI f ∧ H a = some (exo a C none) ∧ ∀ dx, H dx = none → dx ≠ a → Q .non (upd (upd H dx (exd dx [(f, v)])) a (exo a C (some dx)))
theorem len_exi {K : PySem.W.Frag} {C B fI : Addr} {f : Str} {vs : List V} {H : Hp} {Q : VK} {E : XK} (h : spExi K C B fI f vs H Q E) : vs.length = 2 := by
  obtain ⟨a, v, rfl, _⟩ := h
  rfl
def t_exi (K : PySem.W.Frag) (f m : Str) : TS := tSeq (tDrop (tVeI K (tCons (tVar 0) (tCons (tC (.str m)) tNil)))) (tOst K f (tVar 0) (tVar 1))
theorem pure_exi {K : PySem.W.Frag} {C B fI : Addr} {f m n1 n2 : Str} {vs : List V} {H : Hp} {Q : VK} {E : XK} (h : spExi K C B fI f vs H Q E) : t_exi K f m { nx := fun _ H' => Q .non H', rt := Q } (L2.start [n1, n2] vs) H := by
  obtain ⟨a, v, rfl, T, ha, k⟩ := h
  show tSeq (tDrop (tVeI K (tCons (tVar 0) (tCons (tC (.str m)) tNil)))) (tOst K f (tVar 0) (tVar 1)) { nx := fun _ H' => Q .non H', rt := Q } [some (.ref a), some v] H
  refine i_seq (i_drop ?_)
  refine i_cons (i_var rfl (i_cons (i_c (i_nil ?_))))
  refine ⟨a, C, [.str m], rfl, (by simp), T.oex, ha, ?_⟩
  refine i_var (i := 1) rfl (i_var (i := 0) rfl ?_)
  exact ⟨a, C, rfl, T.oex, T.no, .inl ⟨ha, k⟩⟩
/-- a class of exceptions that may be made here -/
structure CalE (P : Program) (w : World) (K : PySem.W.Frag) (mg : Str → Option Value) (base : Heap) (x : Str) (C B fI : Addr) (f : Str) (k : Nat) (ps : List Str) : Prop where
  ex : ∃ fd : FuncData, EC K C B fI f ∧ mg x = some (.ref C) ∧ Binds K fd ps [] ∧ FnOk P w K mg base CX0 k fI fd ps (spExi K C B fI f)
/-- what the making of C(v) asks -/
def MkS (K : PySem.W.Frag) (C B fI : Addr) (f : Str) (v : V) (H1 : Hp) (Q : XK) : Prop := [v].length ≤ 1000 ∧ ∀ a, H1 a = none → spExi K C B fI f (.ref a :: ([v] ++ [])) (upd H1 a (exo a C none))
  (fun v' H2 => v' = .non ∧ ∃ (d : Addr) (fs : List (Str × V)), H2 a = some (exo a C (some d)) ∧ H2 d = some (exd d fs) ∧ H1 d = none ∧ Q (.ref C) (some d) (upd (del H2 a) d (.xd fs))) (fun _ _ _ => False)
def tMkX (K : PySem.W.Frag) (C B fI : Addr) (f : Str) (te : TE) : L2.St → Hp → XK → Prop := fun σ H Q => te σ H fun v H1 => MkS K C B fI f v H1 Q
def tRaiseX (K : PySem.W.Frag) (C B fI : Addr) (f : Str) (W : WX) (te : TE) : TS := fun _ σ H => te σ H fun v H1 => MkS K C B fI f v H1 fun cls d H' => W cls d σ H'
theorem i_mks {K : PySem.W.Frag} {C B fI : Addr} {f : Str} {v : V} {H1 : Hp} {Q : XK} (T : EC K C B fI f) (k : ∀ d, H1 d = none → Q (.ref C) (some d) (upd H1 d (.xd [(f, v)]))) : MkS K C B fI f v H1 Q := by
  refine ⟨by simp, fun a ha => ⟨a, v, rfl, T, upd_same, fun dx hdx hne => ⟨rfl, dx, [(f, v)], upd_same, ?_, ?_, ?_⟩⟩⟩
  · rw [upd_ne hne, upd_same]
  · rw [upd_ne hne] at hdx
    exact hdx
  · have hd1 : H1 dx = none := by
      rw [upd_ne hne] at hdx
      exact hdx
    have e : upd (del (upd (upd (upd H1 a (exo a C none)) dx (exd dx [(f, v)])) a (exo a C (some dx))) a) dx (.xd [(f, v)]) = upd H1 dx (.xd [(f, v)]) := by
      funext b
      by_cases h1 : b = dx
      · subst h1
        rw [upd_same, upd_same]
      · rw [upd_ne h1, upd_ne h1]
        by_cases h2 : b = a
        · subst h2
          rw [del_same, ha]
        · rw [del_ne h2, upd_ne h2, upd_ne h1, upd_ne h2]
    rw [e]
    exact k dx hd1
section
variable {X : Cx} {e : Expr} {te : TE} {f x : Str} {p pos pos2 : Pos} {C B fI : Addr} {k : Nat} {ps : List Str} {W : WX}
theorem pmk_x (c : CalE X.prog X.w X.K X.mg X.base x C B fI f k ps) (hr : Room (k + 1) X.A) (hg : Gl X x) (he : PE X e te) (hdb : (x == ("__debug__" : Str)) = false := by decide)
    (hst : starEach [e] X.env = (false, eval e X.env) :: starEach [] X.env := by rfl) (hpl : (backTo pos (starEach [] X.env)).any (·.1) = false := by rfl) :
    PMk X (.Call (.Name x p) [e] [] pos) (tMkX X.K C B fI f te) := by
  obtain ⟨fd, T, hm, hb, F⟩ := c.ex
  exact pmk_oex (X := X) (x := x) (e := e) (es := []) (p := p) (pos := pos) (dvs := []) (ds := []) T.oex T.iC T.tI F hr hb .nil pass0 hg hm (pa_cons he pa_nil hst) hdb hst hpl
theorem ps_raiseX (hc : X.calm = true) (tk : Takes X W) (c : CalE X.prog X.w X.K X.mg X.base x C B fI f k ps) (hr : Room (k + 1) X.A) (hg : Gl X x) (he : PE X e te) (hdb : (x == ("__debug__" : Str)) = false := by decide)
    (hst : starEach [e] X.env = (false, eval e X.env) :: starEach [] X.env := by rfl) (hpl : (backTo pos (starEach [] X.env)).any (·.1) = false := by rfl) :
    PS X (.Raise (some (.Call (.Name x p) [e] [] pos)) none pos2) (tRaiseX X.K C B fI f W te) := ps_raise hc tk (pmk_x c hr hg he hdb hst hpl)
end
/-! ### calls that may raise -/
structure CalX (P : Program) (w : World) (K : PySem.W.Frag) (mg : Str → Option Value) (base : Heap) (x : Str) (k : Nat) (ps : List Str) (sp : Sp) : Prop where
  ex : ∃ (f : Addr) (fd : FuncData), mg x = some (.ref f) ∧ PySem.W.keepIn K (.ref f) = true ∧ Binds K fd ps [] ∧ FnOk P w K mg base (L2.CX P w) k f fd ps sp
structure CalMX (P : Program) (w : World) (K : PySem.W.Frag) (mg : Str → Option Value) (base : Heap) (C : Addr) (m : Str) (k : Nat) (ps : List Str) (sp : Sp) : Prop where
  ex : ∃ (f : Addr) (fd : FuncData), Cls K C ∧ Meth K C m f ∧ Binds K fd ps [] ∧ FnOk P w K mg base (L2.CX P w) k f fd ps sp
def tMethS (C : Addr) (m : Str) (sp : Sp) (E : L2.St → XK) (to : TE) (t : TA) : TE := fun σ H Q => to σ H fun x H1 => ∃ a dx fs, x = .ref a ∧ H1 a = some (.ins C dx fs) ∧ fs.lookup m = none ∧ t σ H1 fun vs H2 => sp (x :: vs) H2 Q (E σ)
section
variable {X : Cx} {o e : Expr} {es : List Expr} {to te : TE} {t : TA} {m x : Str} {p apos pos : Pos} {C : Addr} {k : Nat} {ps : List Str} {sp : Sp} {W : WX}
theorem pe_calX (c : CalX X.prog X.w X.K X.mg X.base x k ps sp) (hr : Room k X.A) (hg : Gl X x) (tk : Takes X W) (ha : PA X (e :: es) t) (hdb : (x == ("__debug__" : Str)) = false := by decide)
    (he : starEach (e :: es) X.env = (false, eval e X.env) :: starEach es X.env := by rfl) (hpl : (backTo pos (starEach es X.env)).any (·.1) = false := by rfl) : PE X (.Call (.Name x p) (e :: es) [] pos) (tCallS sp (WE W) t) := by
  obtain ⟨f, fd, hm, hk, hb, F⟩ := c.ex
  exact pe_callS F hr hg hm hk hb (fun σ => passAt tk σ) ha hdb he hpl
theorem pe_calMX {pl : Sem Bool} (he : PE X o to) (c : CalMX X.prog X.w X.K X.mg X.base C m k ps sp) (hr : Room k X.A) (tk : Takes X W) (ha : PA X (e :: es) t)
    (hst : starEach (e :: es) X.env = (false, eval e X.env) :: starEach es X.env := by rfl) (hpl : (backTo pos (starEach es X.env)).any (·.1) = false := by rfl)
    (ht : eval (.Call (.Attribute o m apos) (e :: es) [] pos) X.env = (do
      let ov ← eval o X.env
      standAt apos.atName
      let (f, first) ← holding [ov] (getMethod ov m pl)
      callWith pos f first (backTo pos (starEach (e :: es) X.env)) (backToKw pos (keywordEach [] X.env))) := by rfl) : PE X (.Call (.Attribute o m apos) (e :: es) [] pos) (tMethS C m sp (WE W) to t) := by
  obtain ⟨f, fd, hc, hm, hb, F⟩ := c.ex
  refine ⟨fun pins s σ H Q I h => ?_⟩
  refine PySem.W.methodCall_KW (pl := pl) (thn (he.run pins s σ H _ I h) fun u s1 ⟨x, H1, I1, rx, a, dx, fs, ex, ea, l, q⟩ => ?_) ht
  subst ex
  obtain rfl : u = Value.ref a := rx
  refine getmeth_ok I1 ea hc hm l ?_
  refine PySem.W.callWith_K (first := [.ref a]) (h₀ := X.base) I.ok.mod.kin hm.kp (thn (ha.run pos pins s1 σ H1 _ I1 q) fun us s2 ⟨vs, H2, I2, r, q2⟩ => ⟨I2.kIn, ?_⟩) hst hpl
  exact run_fnS (us := .ref a :: us) (vs := .ref a :: vs) F hr hb (passAt tk σ) I2 (.cons rfl r) q2
end
/-! ### in the suite -/
section
variable {X : Cx} {a C B fI : Addr} {oe : Obj} {d : Option Addr} {pn : List (Addr × Obj)} {f : Str}
def rIsX (K : PySem.W.Frag) (a : Addr) (cls : Value) (d : Option Addr) (C B fI : Addr) (f : Str) : List V → Hp → VK → Prop := fun xs H Q => cls = .ref C ∧ xs = [.ref a, .ref B] ∧ EC K C B fI f ∧ (∃ (dd : Addr) (fs : List (Str × V)), d = some dd ∧ H dd = some (.xd fs)) ∧ Q (.bl true) H
theorem call_isX {cls : Value} (hz : Zc cls d oe) (hf : ∃ vs, oe.data = .fields vs) : CallR (X.suite a ((a, oe) :: pn)) (.builtin "isinstance") (rIsX X.K a cls d C B fI f) := by
  intro pins s σ H xs us Q I r h
  obtain ⟨ec, rfl, T, ⟨dd, fs, ed, ea⟩, q⟩ := h
  subst ec ed
  cases r with
  | cons rx rr =>
    cases rr with
    | cons rt rr =>
      cases rr
      cases rx
      cases rt
      obtain ⟨hget, _⟩ := I.pin (a, oe) (List.mem_append.mpr (.inl List.mem_cons_self))
      obtain ⟨vs, hv⟩ := hf
      have hx : ObjOk X.prog X.w H s.heap dd (.xd fs) := I.hok dd _ ea
      obtain ⟨mA, hns, hr⟩ := hx
      obtain ⟨od, ho, hl⟩ := lookIn_ns hns
      have J : PySem.W.InstAt s.heap a oe C (some od) := ⟨hget, hz.1, by unfold PySem.W.notCls; rw [hv] <;> rfl, by rw [hz.2]; exact ho⟩
      exact PySem.W.kia_one (PySem.W.kitx_exc T.hc T.xf.ga T.xf.gg T.xf.exC T.ha T.hn T.ht T.hm) I.kIn J T.ki (fun z => nomatch z) fun tk => ⟨.bl true, H, I.kept (t' := tk) fun _ _ z => z, rfl, q⟩
end
/-! ### try .. except C as n -/
def tTry (K : PySem.W.Frag) (c : Value) (i : Nat) (tb : WX → TS) (ts : Addr → Value → Option Addr → TS) : TS := fun D σ H => tb (wAs K c i ts (fun _ _ _ _ => False) D) D σ H
section
variable {P : Program} {w : World} {K : PySem.W.Frag} {mg : Str → Option Value} {base : Heap} {x m f : Str} {C B fI fa : Addr} {fd : FuncData} {k : Nat} {ps : List Str} {sp : Sp}
theorem CalE.ec (c : CalE P w K mg base x C B fI f k ps) : EC K C B fI f := c.ex.choose_spec.1
theorem CalE.gm (c : CalE P w K mg base x C B fI f k ps) : mg x = some (.ref C) := c.ex.choose_spec.2.1
theorem mkCalE (T : EC K C B fI f) (g : mg x = some (.ref C)) (hb : Binds K fd ps []) (O : FnOk P w K mg base CX0 k fI fd ps (spExi K C B fI f)) : CalE P w K mg base x C B fI f k ps := ⟨⟨_, T, g, hb, O⟩⟩
theorem mkCalX {name qual : Str} {params : Arguments} {body : List Stmt} {scope : Scope} (F : FunD K name qual params body scope [] [] fa fd) (g : mg x = some (.ref fa)) (hb : Binds K fd ps []) (O : FnOk P w K mg base (L2.CX P w) k fa fd ps sp) : CalX P w K mg base x k ps sp := ⟨⟨_, _, g, F.kp, hb, O⟩⟩
theorem mkCalMX (hc : Cls K C) (hm : Meth K C m fa) (hb : Binds K fd ps []) (O : FnOk P w K mg base (L2.CX P w) k fa fd ps sp) : CalMX P w K mg base C m k ps sp := ⟨⟨_, _, hc, hm, hb, O⟩⟩
end
section
variable {K : PySem.W.Frag} {H : Hp} {Q : VK} {σ : L2.St} {D : Ends} {C B fI a dd : Addr} {f : Str}
theorem i_try {c : Value} {i : Nat} {tb : WX → TS} {ts : Addr → Value → Option Addr → TS} (q : tb (wAs K c i ts (fun _ _ _ _ => False) D) D σ H) : tTry K c i tb ts D σ H := q
theorem i_was {i : Nat} {ts : Addr → Value → Option Addr → TS} {Wo : WX} {d : Option Addr} (T : EC K C B fI f)
    (k : ∀ a, H a = none → ts a (.ref C) d { nx := fun σ' H' => D.nx (σ'.set i none) H', rt := D.rt, bk := fun σ' H' => D.bk (σ'.set i none) H', ct := fun σ' H' => D.ct (σ'.set i none) H' } (σ.set i (some (.ref a))) H) :
    WE (wAs K (.ref C) i ts Wo D) σ (.ref C) d H := ⟨true, T.em, fun _ => k, fun h => by cases h⟩
theorem i_raiseX {W : WX} {te : TE} (q : te σ H fun v H1 => MkS K C B fI f v H1 fun cls d H' => W cls d σ H') : tRaiseX K C B fI f W te D σ H := q
theorem i_callS {sp : Sp} {E : L2.St → XK} {t : TA} (q : t σ H fun vs H1 => sp vs H1 Q (E σ)) : tCallS sp E t σ H Q := q
theorem i_methS {m : Str} {sp : Sp} {E : L2.St → XK} {to : TE} {t : TA} (q : to σ H fun x H1 => ∃ a dx fs, x = .ref a ∧ H1 a = some (.ins C dx fs) ∧ fs.lookup m = none ∧ t σ H1 fun vs H2 => sp (x :: vs) H2 Q (E σ)) : tMethS C m sp E to t σ H Q := q
theorem i_txf {cls : Value} {d : Option Addr} {te : TE} (q : te σ H fun x H1 => x = .ref a ∧ cls = .ref C ∧ ∃ (dd : Addr) (fs : List (Str × V)) (v : V), d = some dd ∧ H1 dd = some (.xd fs) ∧ fs.lookup f = some v ∧ Q v H1) : tXf a cls d C f te σ H Q := q
theorem i_xf {fs : List (Str × V)} {v : V} (h : H dd = some (.xd fs)) (l : LkF f (some v) fs) (q : Q v H) : (V.ref a = .ref a ∧ Value.ref C = .ref C ∧ ∃ (dd' : Addr) (fs : List (Str × V)) (v : V), some dd = some dd' ∧ H dd' = some (.xd fs) ∧ fs.lookup f = some v ∧ Q v H) := ⟨rfl, rfl, dd, fs, v, rfl, h, l.eq, q⟩
theorem i_isX {fs : List (Str × V)} (T : EC K C B fI f) (h : H dd = some (.xd fs)) (q : Q (.bl true) H) : rIsX K a (.ref C) (some dd) C B fI f [.ref a, .ref B] H Q := ⟨rfl, rfl, T, ⟨dd, fs, rfl, h⟩, q⟩
end
/-! ### the Hook, its part of the heap with the statics -/
def obsY (n : Nat) (fa : List He.Fa) (fn : List He.DefD) (ex : PySem.W.Frag → Bool) (g : Addr → Option Obj) : He.AlD × Bool := (He.obsD fa fn (He.frG g (cStatics :: He.asD g n)), ex (He.frG g (cStatics :: He.asD g n)))
def hookY (n : Nat) (fa : List He.Fa) (fn : List He.DefD) (ex : PySem.W.Frag → Bool) : PySem.W.Hook where
  α := He.AlD × Bool
  obs := fun s => obsY n fa fn ex s.heap.get?
  val := fun _ => (He.valD fn, true)
  says := fun _ h => ∃ K : PySem.W.Frag, K.In h ∧ He.SaysD fa fn K ∧ ex K = true
  of := fun _ _ e => ⟨_, He.frG_in, congrArg (fun z : He.AlD × Bool => z.1) e, congrArg (fun z : He.AlD × Bool => z.2) e⟩
  keeps := fun _ _ _ ⟨K, hK, c⟩ k => ⟨K, PySem.W.Frag.In.keeps hK k, c⟩
theorem obsY_eq {n : Nat} {fa : List He.Fa} {fn : List He.DefD} {ex : PySem.W.Frag → Bool} {g : Addr → Option Obj} {s : Shared} (h : ∀ a, g a = s.heap.get? a) : obsY n fa fn ex g = (hookY n fa fn ex).obs s := by
  have e : g = s.heap.get? := funext h
  rw [e] <;> rfl
end Lb
set_option Elab.async false
set_option linter.all false
set_option maxRecDepth 100000
set_option maxHeartbeats 4000000
/-! Ly: data lists, ranges with a step, slices, all. Knows no program. -/
namespace Lb
open PySem PySem.Spec PyProof.Rows L2
section
variable {H : Hp}
theorem dtSnoc {vs : List V} {v : V} {ds : List PyData} {d : PyData} (h : DtAll H vs ds) (k : Dt H v d) : DtAll H (vs ++ [v]) (ds ++ [d]) := by
  induction vs generalizing ds with
  | nil =>
    cases h
    exact .cons k .nil
  | cons v vs ih =>
    cases h with
    | cons h1 h2 => exact .cons h1 (ih h2)
theorem dtLen {vs : List V} {ds : List PyData} (h : DtAll H vs ds) : vs.length = ds.length := by
  induction vs generalizing ds with
  | nil =>
    cases h
    rfl
  | cons v vs ih =>
    cases h with
    | cons h1 h2 => exact congrArg (· + 1) (ih h2)
theorem dtGet {vs : List V} {ds : List PyData} (h : DtAll H vs ds) {i : Nat} {v : V} (e : vs[i]? = some v) : ∃ d, ds[i]? = some d ∧ Dt H v d := by
  induction vs generalizing ds i with
  | nil => cases e
  | cons w vs ih =>
    cases h with
    | cons h1 h2 =>
      cases i with
      | zero =>
        cases e
        exact ⟨_, rfl, h1⟩
      | succ i => exact ih h2 e
theorem dtAt {vs : List V} {ds : List PyData} (h : DtAll H vs ds) {i : Nat} {d : PyData} (e : ds[i]? = some d) : ∃ v, vs[i]? = some v ∧ Dt H v d := by
  have hl := dtLen h
  have hi : i < vs.length := by rw [hl]; exact (List.getElem?_eq_some_iff.mp e).1
  obtain ⟨d', e', k⟩ := dtGet h (List.getElem?_eq_getElem hi)
  rw [e] at e'
  cases e'
  exact ⟨_, List.getElem?_eq_getElem hi, k⟩
theorem dtInts {vs : List V} {ws : List Int} (h : DtAll H vs (ws.map PyData.int)) : vs = ws.map V.int := by
  induction vs generalizing ws with
  | nil =>
    cases ws with
    | nil => rfl
    | cons w ws => cases h
  | cons v vs ih =>
    cases ws with
    | nil => cases h
    | cons w ws =>
      cases h with
      | cons h1 h2 =>
        cases h1
        rw [ih h2]
        rfl
theorem dtErase {vs : List V} {ds : List PyData} (h : DtAll H vs ds) (i : Nat) : DtAll H (vs.eraseIdx i) (ds.eraseIdx i) := by
  induction vs generalizing ds i with
  | nil =>
    cases h
    exact .nil
  | cons v vs ih =>
    cases h with
    | cons h1 h2 =>
      cases i with
      | zero => exact h2
      | succ i => exact .cons h1 (ih h2 i)
theorem mapGet {α β : Type} {f : α → β} {rs : List α} {i : Nat} {d : β} (h : (rs.map f)[i]? = some d) : ∃ r, rs[i]? = some r ∧ f r = d := by
  rw [List.getElem?_map] at h
  cases e : rs[i]? with
  | none =>
    rw [e] at h
    cases h
  | some r =>
    rw [e] at h
    exact ⟨r, rfl, Option.some.inj h⟩
end
section
variable {H : Hp} {Q : VK} {σ : L2.St}
theorem i_slO {a c p : Addr} {B : Hp} {ls : List (Addr × HO)} {xs ys : List V} {lo hi : Option Int} (O : Own a c B H ls) (h : H p = some (.lst xs)) (e : cutV xs lo hi = ys) (k : ∀ p H', Own a c B H' ((p, .lst ys) :: ls) → Q (.ref p) H') : rSlA (.ref p) lo hi H Q := by
  subst e
  exact i_slL h fun q hq => k q _ (O.new hq)
theorem cut_to {xs : List V} {k : Nat} (h : k ≤ xs.length) : cutV xs none (some (k : Int)) = xs.take k := by
  unfold cutV
  rw [HT.sIx_none, HT.sIx_nat, Nat.min_eq_left h]
  simp
theorem cut_from {xs : List V} {k : Nat} (h : k ≤ xs.length) : cutV xs (some (k : Int)) none = xs.drop k := by
  unfold cutV
  rw [HT.sIx_none, HT.sIx_nat, Nat.min_eq_left h]
  rw [List.take_of_length_le (by rw [List.length_drop]; omega)]
theorem cut_mid {xs : List V} {k n : Nat} (h : k ≤ xs.length) : cutV xs (some (k : Int)) (some ((k + n : Nat) : Int)) = (xs.drop k).take n := by
  unfold cutV
  rw [HT.sIx_nat, HT.sIx_nat, Nat.min_eq_left h]
  rcases Nat.le_total (k + n) xs.length with q | q
  · rw [Nat.min_eq_left q, Nat.add_sub_cancel_left]
  · rw [Nat.min_eq_right q, List.take_of_length_le (by rw [List.length_drop]; omega), List.take_of_length_le (by rw [List.length_drop]; omega)]
theorem i_rng3 {ta : TA} {R : It → Hp → Prop} (q : ta σ H fun vs H1 => ∃ (i j c : Int) (n : Nat), vs = [.int i, .int j, .int c] ∧ RgC i j c n ∧ R (Itc i c n) H1) : iRng3 ta σ H R := q
theorem i_forC {lo hi c : Int} {nx : L2.St → Hp → Prop} {rt : VK} {g : TG} {tb : TS} (n : Nat) (hr : RgC lo hi c n) (Pv : Nat → L2.St → Hp → Prop) (h0 : Pv 0 σ H)
    (hs : ∀ i σ H, i < n → Pv i σ H → g (.int (lo + (i : Nat) * c)) σ H fun σ2 H2 => tb ⟨Pv (i + 1), rt, nx, Pv (i + 1)⟩ σ2 H2) (hd : ∀ σ H, Pv n σ H → nx σ H) :
    ∃ (i j c' : Int) (n : Nat), [V.int lo, V.int hi, V.int c] = [.int i, .int j, .int c'] ∧ RgC i j c' n ∧ ∃ W : Nat → Nat → L2.St → Hp → Prop, (∃ m, W 0 m σ H) ∧ ∀ i' m σ H, W i' m σ H → ((Itc i c' n).stop i' H ∧ nx σ H) ∨ ((Itc i c' n).go i' H ∧ ∃ N : L2.St → Hp → Prop, (∀ σ' H', N σ' H' → ∃ m', m' < m ∧ W (i' + 1) m' σ' H') ∧ ∀ x H', (Itc i c' n).yld i' H x H' → g x σ H' fun σ2 H2 => tb ⟨N, rt, nx, N⟩ σ2 H2) :=
  ⟨lo, hi, c, n, rfl, hr, for_rangeC (D := ⟨nx, rt, fun _ _ => False, fun _ _ => False⟩) Pv h0 hs hd⟩
theorem i_all {K : PySem.W.Frag} {p : Addr} {bs : List Bool} (h : H p = some (.lst (bs.map V.bl))) (q : Q (.bl (bs.all id)) H) : rAll K [.ref p] H Q := ⟨p, bs, rfl, SqL.of h, q⟩
theorem i_niL {K : PySem.W.Frag} {p : Addr} {x : V} {xs : List V} (h : H p = some (.lst xs)) (f : flatV x = true) (g : xs.all flatV = true) (q : Q (.bl (!inV x xs)) H) : rIn K true x (.ref p) H Q := ⟨p, xs, rfl, .inl (SqL.of h), f, g, q⟩
end
end Lb
set_option Elab.async false
set_option linter.all false
set_option maxRecDepth 100000
set_option maxHeartbeats 4000000
namespace K44
open PySem PySem.Spec PyProof.Rows L2 Lb
local macro_rules | `(tactic| walk_at "pm") => `(tactic| (focus ((repeat (first | exact List.Perm.refl _ | (apply Pick.perm; (solve | repeat (first | exact Pick.here | apply Pick.there))))); done)))
local macro_rules | `(tactic| walk_at "h") => `(tactic| first | assumption | exact Own.mem (by assumption) (by walk_at "m") | exact Own.kp (by assumption) (by assumption))
local macro_rules | `(tactic| walk_at "m") => `(tactic| (focus ((repeat (first | assumption | exact List.mem_cons_self | apply List.mem_cons_of_mem)); done)))
local macro_rules | `(tactic| walk_at "u") => `(tactic| (focus ((repeat (first | exact Up1.here | apply Up1.there)); done)))
local macro_rules | `(tactic| walk_at "p") => `(tactic| (focus ((repeat (first | exact Pre.nil | apply Pre.cons)); done)))
local macro_rules | `(tactic| walk_at "f") => `(tactic| (focus ((repeat (first | exact PutF.here | exact PutF.nil | (apply PutF.there; (solve | decide +kernel)))); done)))
local macro_rules | `(tactic| walk_at "k") => `(tactic| (focus ((repeat (first | exact LkF.here rfl | exact LkF.nil rfl | refine LkF.there (by decide +kernel) ?_)); done)))
local macro_rules | `(tactic| walk_at "e") => `(tactic| (focus ((repeat (first | exact StE.nil | apply StE.app | apply StE.got | apply StE.lack)); done)))
local macro_rules | `(tactic| walk_at "d") => `(tactic| (focus ((repeat (first | exact Dt.int _ | exact Dt.str _ | exact Dt.non | exact Dt.bl _ | exact DtAll.nil | exact DtAll.ints _ | apply DtAll.cons | (apply Dt.tup; (solve | walk_at "h")) | (apply Dt.lst; (solve | walk_at "h")))); done)))
local macro_rules | `(tactic| walk_at "sh") => `(tactic| (focus ((repeat (first | exact Sh.int | exact Sh.non | exact Sh.str (by decide +kernel) | exact ShA.nil | exact ShA.ints | apply ShA.cons | apply Sh.lst | apply Sh.tup)); done)))
local macro_rules | `(tactic| walk_at "ne") => `(tactic| (apply rd_neF; (solve | walk_at "d"); (solve | walk_at "d"); (solve | exact Sh.shp (n := 4) (by walk_at "sh"))))
local macro_rules | `(tactic| walk_at "s1") => `(tactic| with_reducible first | (apply i_bm) | apply i_try | apply i_callS | apply i_methS | apply i_raiseX | (apply i_mks; (solve | assumption)) | apply i_rng3 | apply i_txf | (apply i_isX; (solve | assumption); (solve | walk_at "h")) | (apply i_xf; (solve | walk_at "h"); (solve | walk_at "k")) | (apply i_tyK; (solve | assumption)) | apply i_tyS | (apply i_ixK; (solve | assumption); (solve | assumption | with_unfolding_all rfl)) | (apply i_lenK; (solve | assumption); (exact rfl)) | (apply i_tupLN; (solve | walk_at "h")) | (apply i_var; (solve | with_unfolding_all rfl)) | apply i_cons | apply i_nil | apply i_c | apply i_op | apply i_asg | apply i_seq | apply i_gname | apply i_eqS | apply i_eqI | apply i_neS | apply i_tt | apply i_ff | (apply i_ixA; (solve | walk_at "h"); (solve | exact IxO.lst (by assumption) | exact IxO.tup (by assumption) | exact .lst (by with_unfolding_all rfl) | exact .tup (by with_unfolding_all rfl))) | apply i_bl | apply i_test | apply i_ifS | apply i_tupN | (apply i_tupO; (solve | assumption); (exact (sz (by (try simp) <;> omega))); intro p H O) | apply i_fld | (apply i_fldO; (solve | walk_at "h"); (solve | assumption); (solve | assumption); (solve | walk_at "k")) | (apply i_tB; (solve | decide +kernel)) | (apply i_fB; (solve | decide +kernel)) | apply i_ret | apply i_retN | apply i_drop | apply i_next | apply i_brk | apply i_cnt | apply i_par | apply i_par2 | apply i_fldSN | apply i_dput | apply i_un | apply i_rU | apply i_rI0 | apply i_B | apply i_tru | apply i_truB | apply i_and | apply i_or | apply i_not | apply i_andV | apply i_orV | apply i_notV | apply i_if | apply i_call | apply i_meth | apply i_makeN | apply i_cb | apply i_dnewN | apply i_lstN | apply i_bml | apply i_gsub | apply i_gcons | apply i_gnil | apply i_sl | apply i_nop | apply i_part | apply i_prt | apply i_isN | apply i_notN | apply i_yes | apply i_ntt | apply i_nff | apply i_addI | apply i_neI | apply i_intI | apply i_intB | apply i_abs | apply i_isiIB | apply i_isiNB | apply i_isiBB | apply i_dget | apply i_for | apply i_ilist | apply i_itup | apply i_rng1 | apply i_rng2 | apply i_ex1 | apply i_ex2 | apply i_exr | apply i_disp | apply i_pcons | apply i_pnil | apply i_neN | apply i_eqN | apply i_neB | apply i_eqB | apply i_lc | apply i_dnI | apply i_nyI | apply i_dnR | apply i_nyR | (apply i_lenA; (solve | walk_at "h"); (solve | first | exact .lst | exact .tup | exact .dK)) | (apply i_isL; (solve | walk_at "h")) | (apply i_isiLL; (solve | walk_at "h")) | (apply i_isiTL; (solve | walk_at "h")) | (apply i_gtup; (solve | walk_at "h"); (solve | with_unfolding_all rfl)) | (apply i_fldSO; (solve | assumption); (solve | walk_at "u"); (solve | walk_at "f"); (solve | assumption); (solve | assumption); (solve | simp); intro H O) | (apply i_lstO; (solve | assumption); (exact (sz (by (try simp) <;> omega))); intro p H O) | (apply i_makeO; (solve | assumption); intro x dx H O) | (apply i_methO; (solve | walk_at "h"); (solve | walk_at "k")) | (apply i_newO; (solve | assumption); intro p H O) | (apply i_listN; (solve | walk_at "h")) | (apply i_listTN; (solve | walk_at "h")) | (apply i_addN; (solve | walk_at "h"); (solve | walk_at "h"); (exact (sz (by (try simp) <;> omega)))) | apply i_mkd | apply i_gfld | (apply i_glst; (solve | walk_at "h"); (solve | with_unfolding_all rfl)) | apply i_isB | apply i_notB | (apply i_inO; (solve | walk_at "h"); (solve | with_unfolding_all rfl); (solve | with_unfolding_all rfl)) | (apply i_dgetI; (solve | walk_at "h"); (solve | assumption)) | (apply i_in; (solve | with_unfolding_all rfl); (solve | walk_at "e")) | (apply i_setO; (solve | assumption); (solve | walk_at "u"); (solve | with_unfolding_all rfl); intro H O) | (apply i_appO; (solve | assumption); (solve | walk_at "u"); (exact (szl (by (try simp) <;> omega))); intro H O) | (apply i_drawO; (solve | assumption); (exact rfl); (solve | decide); (solve | decide); intro r H h0 h1 O))
local macro_rules | `(tactic| walk_at "s") => `(tactic| repeat (walk_at "s1"))
structure Ad where
  K : PySem.W.Frag
  c_Memory : Addr
  c_CodeError : Addr
  c_PlacedError : Addr
  i_CodeError : Addr
structure CF (A : Ad) : Prop where
  h : Cls A.K A.c_Memory
  n1 : NoAttr A.K A.c_Memory "words"
  ec : EC A.K A.c_CodeError A.c_PlacedError A.i_CodeError "at"
def optV : Option Int → V
  | none => .non
  | some i => .int i
def optD : Option Int → PyData
  | none => .none
  | some i => .int i
theorem dtOpts (H : Hp) : ∀ hs : List (Option Int), DtAll H (hs.map optV) (hs.map optD)
  | [] => .nil
  | none :: r => .cons .non (dtOpts H r)
  | some i :: r => .cons (.int i) (dtOpts H r)
theorem shOpts {n : Nat} (hs : List (Option Int)) : ShA n (hs.map optD) := .all fun d hd => by
  obtain ⟨o, _, rfl⟩ := List.mem_map.mp hd
  cases o
  · exact .non
  · exact .int
theorem flatOpts (hs : List (Option Int)) : (hs.map optV).all flatV = true := by
  rw [List.all_eq_true]
  intro v hv
  obtain ⟨o, _, rfl⟩ := List.mem_map.mp hv
  cases o <;> rfl
theorem inNon (hs : List (Option Int)) : (!inV .non (hs.map optV)) = (hs.map Option.isSome).all id := by
  induction hs with
  | nil => rfl
  | cons o r ih =>
    cases o with
    | none => simp [inV, eqV, optV]
    | some i =>
      rw [List.map_cons, List.map_cons, List.all_cons, ← ih]
      simp [inV, eqV, optV]
theorem optsInts (ws : List Int) : (ws.map some).map optV = ws.map V.int := by
  rw [List.map_map]
  rfl
/-- how many parts -/
def np (n : Nat) : Nat := (n + 7) / 8
def wk (img : List Int) (k : Nat) : List Int := (img.drop (8 * k)).take 8
def pD (img : List Int) (k : Nat) : PyData := .tuple [.str "load", .int ((8 * k : Nat) : Int), .list ((wk img k).map .int), .int (img.length : Nat)]
def psD (img : List Int) : List PyData := (List.range (np img.length)).map (pD img)
theorem np_lt {n k : Nat} (h : k < np n) : 8 * k < n := by
  unfold np at h
  omega
theorem np_le {n : Nat} (h : n ≤ 60) : np n ≤ 8 := by
  unfold np
  omega
theorem wk_len {img : List Int} {k : Nat} : (wk img k).length = min 8 (img.length - 8 * k) := by
  unfold wk
  rw [List.length_take, List.length_drop]
theorem shP {img : List Int} {k : Nat} : Sh 2 (pD img k) := .tup (.cons (.str (by decide +kernel)) (.cons .int (.cons (.lst .ints) (.cons .int .nil))))
/-- what is looked at by a load -/
def hd (hs : List (Option Int)) (t : Nat) : List (Option Int) := if hs = [] then List.replicate t none else hs
def newH (hs : List (Option Int)) (f : Nat) (ws : List Int) (t : Nat) : List (Option Int) := (hd hs t).take f ++ ws.map some ++ (hd hs t).drop (f + ws.length)
def ErrAt (hs : List (Option Int)) (f n t e : Nat) : Prop := (((hd hs t).length ≠ t ∨ t < f + n) ∧ e = f) ∨ (¬ ((hd hs t).length ≠ t ∨ t < f + n) ∧ ∃ i, i < n ∧ e = f + i ∧ (∃ v, (hd hs t)[f + i]? = some (some v)) ∧ ∀ j, j < i → (hd hs t)[f + j]? = some none)
def OkAt (hs : List (Option Int)) (f n t : Nat) : Prop := ¬ ((hd hs t).length ≠ t ∨ t < f + n) ∧ ∀ j, j < n → (hd hs t)[f + j]? = some none
theorem ErrAt.uniq {hs : List (Option Int)} {f n t e e' : Nat} (h : ErrAt hs f n t e) (k : ErrAt hs f n t e') : e = e' := by
  rcases h with ⟨h1, h2⟩ | ⟨h1, i, hi, he, ⟨v, hv⟩, ha⟩
  · rcases k with ⟨k1, k2⟩ | ⟨k1, _⟩
    · rw [h2, k2]
    · exact (k1 h1).elim
  · rcases k with ⟨k1, k2⟩ | ⟨k1, i', hi', he', ⟨v', hv'⟩, ha'⟩
    · exact (h1 k1).elim
    · rcases Nat.lt_trichotomy i i' with q | q | q
      · rw [ha' i q] at hv
        cases hv
      · subst q
        omega
      · rw [ha i' q] at hv'
        cases hv'
theorem ErrAt.not {hs : List (Option Int)} {f n t e : Nat} (h : ErrAt hs f n t e) : ¬ OkAt hs f n t := fun k => by
  rcases h with ⟨h1, h2⟩ | ⟨h1, i, hi, he, ⟨v, hv⟩, ha⟩
  · exact k.1 h1
  · rw [k.2 i hi] at hv
    cases hv
/-- what is held when these parts are left -/
def heldOf (img : List Int) (left : List Nat) : List (Option Int) := (List.range img.length).map fun j => if j / 8 ∈ left then none else img[j]?
theorem heldOf_len {img : List Int} {left : List Nat} : (heldOf img left).length = img.length := by simp [heldOf]
theorem heldOf_get {img : List Int} {left : List Nat} {j : Nat} (h : j < img.length) : (heldOf img left)[j]? = some (if j / 8 ∈ left then none else img[j]?) := by
  unfold heldOf
  rw [List.getElem?_map, List.getElem?_range h]
  rfl
theorem heldOf_all {img : List Int} : heldOf img (List.range (np img.length)) = List.replicate img.length none := by
  apply List.ext_getElem?
  intro j
  rcases Nat.lt_or_ge j img.length with q | q
  · rw [heldOf_get q, if_pos (List.mem_range.mpr (by unfold np; omega)), List.getElem?_replicate, if_pos q]
  · rw [List.getElem?_eq_none (by rw [heldOf_len]; exact q), List.getElem?_eq_none (by simp; exact q)]
theorem heldOf_nil {img : List Int} : heldOf img [] = img.map some := by
  apply List.ext_getElem?
  intro j
  rcases Nat.lt_or_ge j img.length with q | q
  · rw [heldOf_get q, if_neg (by simp), List.getElem?_map, List.getElem?_eq_getElem q]
    rfl
  · rw [List.getElem?_eq_none (by rw [heldOf_len]; exact q), List.getElem?_eq_none (by simp; exact q)]
theorem mem_erase {left : List Nat} {i k m : Nat} (hk : left[i]? = some k) (nd : left.Nodup) : m ∈ left.eraseIdx i ↔ m ∈ left ∧ m ≠ k := by
  induction left generalizing i with
  | nil => cases hk
  | cons x r ih =>
    have h2 := List.nodup_cons.mp nd
    cases i with
    | zero =>
      cases hk
      show m ∈ r ↔ _
      constructor
      · intro z
        exact ⟨List.mem_cons_of_mem _ z, fun e => h2.1 (e ▸ z)⟩
      · rintro ⟨z, n⟩
        rcases List.mem_cons.mp z with e | e
        · exact (n e).elim
        · exact e
    | succ i =>
      have hk' : r[i]? = some k := hk
      show m ∈ x :: r.eraseIdx i ↔ _
      rw [List.mem_cons, List.mem_cons, ih hk' h2.2]
      constructor
      · rintro (e | ⟨z, n⟩)
        · refine ⟨.inl e, fun q => h2.1 ?_⟩
          rw [← e, q]
          exact List.mem_of_getElem? hk'
        · exact ⟨.inr z, n⟩
      · rintro ⟨e | z, n⟩
        · exact .inl e
        · exact .inr ⟨z, n⟩
theorem step_ok {img : List Int} {left : List Nat} {hs : List (Option Int)} {i k : Nat} (hk : left[i]? = some k) (hb : ∀ m ∈ left, m < np img.length) (hh : hd hs img.length = heldOf img left) : OkAt hs (8 * k) (wk img k).length img.length := by
  have km : k ∈ left := List.mem_of_getElem? hk
  have hkn := np_lt (hb k km)
  have hl := wk_len (img := img) (k := k)
  refine ⟨?_, fun j hj => ?_⟩
  · rw [hh, heldOf_len]
    omega
  · rw [hh, heldOf_get (by omega), if_pos (by rw [show (8 * k + j) / 8 = k by omega]; exact km)]
theorem step_new {img : List Int} {left : List Nat} {hs : List (Option Int)} {i k : Nat} (hk : left[i]? = some k) (nd : left.Nodup) (hb : ∀ m ∈ left, m < np img.length) (hh : hd hs img.length = heldOf img left) :
    newH hs (8 * k) (wk img k) img.length = heldOf img (left.eraseIdx i) := by
  have km : k ∈ left := List.mem_of_getElem? hk
  have hkn := np_lt (hb k km)
  have hl := wk_len (img := img) (k := k)
  unfold newH
  rw [hh]
  apply List.ext_getElem?
  intro j
  have e1 : ((heldOf img left).take (8 * k)).length = 8 * k := by rw [List.length_take, heldOf_len]; omega
  have e2 : ((wk img k).map some).length = (wk img k).length := List.length_map _
  rcases Nat.lt_or_ge j (8 * k) with q | q
  · rw [List.append_assoc, List.getElem?_append_left (by omega), List.getElem?_take, if_pos q, heldOf_get (by omega), heldOf_get (by omega)]
    have h9 : j / 8 ≠ k := by omega
    have h8 : (j / 8 ∈ left.eraseIdx i) ↔ (j / 8 ∈ left) := (mem_erase hk nd).trans ⟨fun z => z.1, fun z => ⟨z, h9⟩⟩
    by_cases hm : j / 8 ∈ left
    · rw [if_pos hm, if_pos (h8.mpr hm)]
    · rw [if_neg hm, if_neg (fun z => hm (h8.mp z))]
  · rw [List.append_assoc, List.getElem?_append_right (by omega), e1]
    rcases Nat.lt_or_ge j (8 * k + (wk img k).length) with q2 | q2
    · rw [List.getElem?_append_left (by omega), heldOf_get (by omega), if_neg (fun z => ((mem_erase hk nd).mp z).2 (by omega)), List.getElem?_map]
      unfold wk
      rw [List.getElem?_take, if_pos (by omega), List.getElem?_drop, show 8 * k + (j - 8 * k) = j by omega, List.getElem?_eq_getElem (show j < img.length by omega)]
      rfl
    · rw [List.getElem?_append_right (by omega), e2, List.getElem?_drop, show 8 * k + (wk img k).length + (j - 8 * k - (wk img k).length) = j by omega]
      rcases Nat.lt_or_ge j img.length with q3 | q3
      · rw [heldOf_get q3, heldOf_get q3]
        have h9 : j / 8 ≠ k := by omega
        have h8 : (j / 8 ∈ left.eraseIdx i) ↔ (j / 8 ∈ left) := (mem_erase hk nd).trans ⟨fun z => z.1, fun z => ⟨z, h9⟩⟩
        by_cases hm : j / 8 ∈ left
        · rw [if_pos hm, if_pos (h8.mpr hm)]
        · rw [if_neg hm, if_neg (fun z => hm (h8.mp z))]
      · rw [List.getElem?_eq_none (by rw [heldOf_len]; exact q3), List.getElem?_eq_none (by rw [heldOf_len]; exact q3)]
theorem newH_len {hs : List (Option Int)} {f t : Nat} {ws : List Int} (h : OkAt hs f ws.length t) : (newH hs f ws t).length = t := by
  have h1 := h.1
  unfold newH
  rw [List.length_append, List.length_append, List.length_take, List.length_drop, List.length_map]
  omega
def dueD : Option Nat → PyData
  | none => .tuple [.str "", .bool false]
  | some e => .tuple [.str "error", .int (e : Nat)]
abbrev mem (C dm wl : Addr) : HO := .ins C dm [("words", .ref wl)]
def sp_l_parts (A : Ad) : Sp := fun vs H Q _ => ∃ (a c : Addr) (B : Hp) (ls : List (Addr × HO)) (im : Addr) (img : List Int), vs = [.ref im] ∧ Own a c B H ls ∧ B im = some (.lst (img.map V.int)) ∧ img.length ≤ 60 ∧
  ∀ p ps H' B', Same B B' → Own a c B' H' ((p, .lst ps) :: ls) → DtAll B' ps (psD img) → Q (.ref p) H'
def sp_packets (A : Ad) : Sp := fun vs H Q _ => ∃ (a c : Addr) (B : Hp) (ls : List (Addr × HO)) (im : Addr) (img : List Int) (tg : Int), vs = [.int tg, .ref im] ∧ Own a c B H ls ∧ B im = some (.lst (img.map V.int)) ∧ img.length ≤ 60 ∧
  ∀ p ps H' B', Same B B' → Own a c B' H' ((p, .lst ps) :: ls) → DtAll B' ps ((psD img).map fun d => .tuple [.int tg, d]) → Q (.ref p) H'
def sp_Memory_load (A : Ad) : Sp := fun vs H Q E => ∃ (a c : Addr) (B : Hp) (ls : List (Addr × HO)) (m dm wl wa : Addr) (hs : List (Option Int)) (ws : List Int) (f t : Nat), vs = [.ref m, .int (f : Nat), .ref wa, .int (t : Nat)] ∧ CF A ∧ Own a c B H ((m, mem A.c_Memory dm wl) :: ls) ∧
  B wl = some (.lst (hs.map optV)) ∧ B wa = some (.lst (ws.map V.int)) ∧ hs.length ≤ 1000 ∧ ws.length ≤ 1000 ∧ f ≤ 1000 ∧ t ≤ 1000 ∧
  (∀ e, ErrAt hs f ws.length t e → ∀ d H', Own a c B H' ((d, .xd [("at", .int (e : Nat))]) :: (m, mem A.c_Memory dm wl) :: ls) → E (.ref A.c_CodeError) (some d) H') ∧
  (OkAt hs f ws.length t → ∀ wl' H' B', Same B B' → Own a c B' H' ((m, mem A.c_Memory dm wl') :: ls) → B' wl' = some (.lst ((newH hs f ws t).map optV)) → Q (.bl (((newH hs f ws t).map Option.isSome).all id)) H')
def sp_l_load (A : Ad) : Sp := fun vs H Q _ => ∃ (a c : Addr) (B : Hp) (ls : List (Addr × HO)) (m dm wl wa : Addr) (hs : List (Option Int)) (ws : List Int) (f t : Nat), vs = [.ref m, .int (f : Nat), .ref wa, .int (t : Nat)] ∧ CF A ∧ Own a c B H ((m, mem A.c_Memory dm wl) :: ls) ∧
  B wl = some (.lst (hs.map optV)) ∧ B wa = some (.lst (ws.map V.int)) ∧ hs.length ≤ 1000 ∧ ws.length ≤ 1000 ∧ f ≤ 1000 ∧ t ≤ 1000 ∧
  (∀ e, ErrAt hs f ws.length t e → ∀ p H', Own a c B H' ((p, .tup [.str "error", .int (e : Nat)]) :: (m, mem A.c_Memory dm wl) :: ls) → Q (.ref p) H') ∧
  (OkAt hs f ws.length t → ∀ p wl' H' B', Same B B' → Own a c B' H' ((p, .tup [.str "", .bl (((newH hs f ws t).map Option.isSome).all id)]) :: (m, mem A.c_Memory dm wl') :: ls) → B' wl' = some (.lst ((newH hs f ws t).map optV)) → Q (.ref p) H')
/-- the size that the law keeps beside what is held -/
def SzOk (hs : List (Option Int)) (size : Int) : Prop := (size = -1 ∧ hs = []) ∨ (size = (hs.length : Nat) ∧ hs ≠ [])
def sp_l_due (A : Ad) : Sp := fun vs H Q _ => ∃ (a c : Addr) (B : Hp) (ls : List (Addr × HO)) (hl wa : Addr) (hs : List (Option Int)) (ws : List Int) (size : Int) (f t : Nat), vs = [.ref hl, .int size, .int (f : Nat), .ref wa, .int (t : Nat)] ∧ Own a c B H ls ∧
  B hl = some (.lst (hs.map optV)) ∧ B wa = some (.lst (ws.map V.int)) ∧ SzOk hs size ∧ ws.length ≤ 1000 ∧
  ∀ (r : Option Nat) p H', (∀ e, r = some e → ErrAt hs f ws.length t e) → Own a c B H' ((p, match r with | none => .tup [.str "", .bl false] | some e => .tup [.str "error", .int (e : Nat)]) :: ls) → Q (.ref p) H'
def sp_l_wrong (A : Ad) : Sp := fun vs H Q _ => ∃ (a c : Addr) (B : Hp) (ls : List (Addr × HO)) (im hl : Addr) (img : List Int) (hs : List (Option Int)) (size : Int), vs = [.ref a, .ref im, .ref hl, .int size] ∧ Own a c B H ls ∧ B im = some (.lst (img.map V.int)) ∧ 1 ≤ img.length ∧ img.length ≤ 60 ∧
  B hl = some (.lst (hs.map optV)) ∧ SzOk hs size ∧
  ∀ (r : Option Nat) f t wa (ws : List Int) p q H' B', Same B B' → Own a c B' H' ls → B' p = some (.tup [.int (f : Nat), .ref wa, .int (t : Nat), .ref q]) → B' wa = some (.lst (ws.map V.int)) → Dt B' (.ref q) (dueD r) → (∀ e, r = some e → ErrAt hs f ws.length t e) → f ≤ 500 → t ≤ 500 → ws.length ≤ 8 → Q (.ref p) H'
def sp_law (A : Ad) : Sp := fun vs H Q _ => ∃ (s : Addr) (ns : List Int), vs = [.ref s] ∧ SqL A.K H s (ns.map V.int) ∧ ns.length ≤ 63 ∧ CF A ∧ ∀ H', Q (.bl true) H'
def t_packets (A : Ad) : TS :=
  (tSeq (tAsg (tLst tNil) (gName 2)) (tSeq (tFor (iRng3 (tCons (tC (.int 0)) (tCons (tCB rLenA (tCons (tVar 1) tNil)) (tCons (tC (.int 8)) tNil)))) (gName 3) (tDrop (tBML rAppA (tVar 2) (tCons (tTup (tCons (tVar 0) (tCons (tTup (tCons (tC (.str "load")) (tCons (tVar 3) (tCons (tSl rSlA (tVar 1) (tPart (tVar 3)) (tPart (tOp rAddA (tVar 3) (tC (.int 8))))) (tCons (tCB rLenA (tCons (tVar 1) tNil)) tNil))))) tNil))) tNil)))) (tRet (tVar 2))))
theorem st_packets (v0 v1 : V) : L2.start ["target", "image", "found", "first"] [v0, v1] = [some v0, some v1, none, none] := rfl
abbrev t_Memory_init (A : Ad) : TS :=
  (sFld A.K (tVar 0) (tLst tNil) "words")
theorem st_Memory_init (v0 : V) : L2.start ["self"] [v0] = [some v0] := rfl
abbrev sp_Memory_init (A : Ad) : Sp := spIn ["self"] 1 (t_Memory_init A)
theorem len_Memory_init (A : Ad) {vs : List V} {H : Hp} {Q : VK} {E : XK} (h : sp_Memory_init A vs H Q E) : vs.length = 1 := h.1
theorem pure_Memory_init (A : Ad) (vs : List V) (H : Hp) (Q : VK) (E : XK) (h : sp_Memory_init A vs H Q E) : t_Memory_init A { nx := fun _ H' => Q .non H', rt := Q } (L2.start ["self"] vs) H := h.2
def t_Memory_load (A : Ad) (W : WX) : TS :=
  (tSeq (tAsg (tIf (tTest (tOp (rI0 fun i j => .bl (decide (j < i))) (tCB rLenA (tCons (tFld A.K (tVar 0) "words") tNil)) (tC (.int 0)))) (tFld A.K (tVar 0) "words") (tOp rMulA (tLst (tCons (tC .non) tNil)) (tVar 3))) (gName 4)) (tSeq (tIfS (tOr (tTest (tOp (rNeA A.K) (tCB rLenA (tCons (tVar 4) tNil)) (tVar 3))) (tTest (tOp (rI0 fun i j => .bl (decide (j < i))) (tOp rAddA (tVar 1) (tCB rLenA (tCons (tVar 2) tNil))) (tVar 3)))) (tRaiseX A.K A.c_CodeError A.c_PlacedError A.i_CodeError "at" W (tVar 1)) tNext) (tSeq (tFor (iRng2 (tCons (tVar 1) (tCons (tOp rAddA (tVar 1) (tCB rLenA (tCons (tVar 2) tNil))) tNil))) (gName 5) (tIfS (tTest (tOp rNotN (tOp rIxA (tVar 4) (tVar 5)) (tC .non))) (tRaiseX A.K A.c_CodeError A.c_PlacedError A.i_CodeError "at" W (tVar 5)) tNext)) (tSeq (sFld A.K (tVar 0) (tOp rAddA (tOp rAddA (tSl rSlA (tVar 4) tNoPart (tPart (tVar 1))) (tCB rListA (tCons (tVar 2) tNil))) (tSl rSlA (tVar 4) (tPart (tOp rAddA (tVar 1) (tCB rLenA (tCons (tVar 2) tNil)))) tNoPart)) "words") (tRet (tCB (rAll A.K) (tCons (tLc (iList A.K (tFld A.K (tVar 0) "words")) (gName 6) tYes (tOp rNotN (tVar 6) (tC .non)) [6]) tNil)))))))
theorem st_Memory_load (v0 v1 v2 v3 : V) : L2.start ["self", "first", "words", "total", "held", "at", "word"] [v0, v1, v2, v3] = [some v0, some v1, some v2, some v3, none, none, none] := rfl
def t_l_parts (A : Ad) : TS :=
  (tSeq (tAsg (tLst tNil) (gName 1)) (tSeq (tAsg (tC (.int 0)) (gName 2)) (tSeq (tWhile (tTest (tOp (rI0 fun i j => .bl (decide (i < j))) (tVar 2) (tCB rLenA (tCons (tVar 0) tNil)))) (tSeq (tDrop (tBML rAppA (tVar 1) (tCons (tTup (tCons (tC (.str "load")) (tCons (tVar 2) (tCons (tSl rSlA (tVar 0) (tPart (tVar 2)) (tPart (tOp rAddA (tVar 2) (tC (.int 8))))) (tCons (tCB rLenA (tCons (tVar 0) tNil)) tNil))))) tNil))) (tAsg (tOp rAddA (tVar 2) (tC (.int 8))) (gName 2)))) (tRet (tVar 1)))))
theorem st_l_parts (v0 : V) : L2.start ["_law_image", "_law_found", "_law_at"] [v0] = [some v0, none, none] := rfl
def t_l_load (A : Ad) : TS :=
  (tTry A.K (.ref A.c_CodeError) 4 (fun W => (tRet (tTup (tCons (tC (.str "")) (tCons (tMethS A.c_Memory "load" (sp_Memory_load A) (WE W) (tVar 0) (tCons (tVar 1) (tCons (tVar 2) (tCons (tVar 3) tNil)))) tNil))))) (fun a cls d => (tRet (tTup (tCons (tC (.str "error")) (tCons (tIf (tB (tCB (rIsX A.K a cls d A.c_CodeError A.c_PlacedError A.i_CodeError "at") (tCons (tVar 4) (tCons (tC (.ref A.c_PlacedError)) tNil)))) (tXf a cls d A.c_CodeError "at" (tVar 4)) (tUn (rU fun i => .int (-i)) (tC (.int 1)))) tNil))))))
theorem st_l_load (v0 v1 v2 v3 : V) : L2.start ["_law_memory", "_law_first", "_law_words", "_law_total", "e"] [v0, v1, v2, v3] = [some v0, some v1, some v2, some v3, none] := rfl
def t_l_due (A : Ad) : TS :=
  (tSeq (tIfS (tOr (tAnd (tTest (tOp (rI0 fun i j => .bl (decide (j ≤ i))) (tVar 1) (tC (.int 0)))) (tTest (tOp (rNeA A.K) (tVar 4) (tVar 1)))) (tTest (tOp (rI0 fun i j => .bl (decide (j < i))) (tOp rAddA (tVar 2) (tCB rLenA (tCons (tVar 3) tNil))) (tVar 4)))) (tRet (tTup (tCons (tC (.str "error")) (tCons (tVar 2) tNil)))) tNext) (tSeq (tFor (iRng1 (tCons (tCB rLenA (tCons (tVar 3) tNil)) tNil)) (gName 5) (tIfS (tAnd (tTest (tOp (rI0 fun i j => .bl (decide (j ≤ i))) (tVar 1) (tC (.int 0)))) (tTest (tOp rNotN (tOp rIxA (tVar 0) (tOp rAddA (tVar 2) (tVar 5))) (tC .non)))) (tRet (tTup (tCons (tC (.str "error")) (tCons (tOp rAddA (tVar 2) (tVar 5)) tNil)))) tNext)) (tRet (tTup (tCons (tC (.str "")) (tCons (tC (.bl false)) tNil))))))
theorem st_l_due (v0 v1 v2 v3 v4 : V) : L2.start ["_law_held", "_law_size", "_law_first", "_law_words", "_law_total", "_law_k"] [v0, v1, v2, v3, v4] = [some v0, some v1, some v2, some v3, some v4, none] := rfl
def t_l_wrong (A : Ad) : TS :=
  (tSeq (tAsg (tCall spPick [] E0 (tCons (tVar 0) (tCons (tCall (sp_l_parts A) [] E0 (tCons (tVar 1) tNil)) tNil))) (gName 4)) (tSeq (tAsg (tOp rAddA (tCB rLenA (tCons (tVar 1) tNil)) (tCall spDraw [] E0 (tCons (tVar 0) (tCons (tC (.int 2)) tNil)))) (gName 5)) (tSeq (tAsg (tOp rAddA (tOp rIxA (tVar 4) (tC (.int 1))) (tCall spDraw [] E0 (tCons (tVar 0) (tCons (tC (.int 9)) tNil)))) (gName 6)) (tSeq (tIfS (tTest (tOp (rI0 fun i j => .bl (decide (i < j))) (tVar 3) (tC (.int 0)))) (tAsg (tOp rAddA (tOp (rI0 fun i j => .int (i - j)) (tVar 5) (tCB rLenA (tCons (tOp rIxA (tVar 4) (tC (.int 2))) tNil))) (tC (.int 1))) (gName 6)) tNext) (tSeq (tAsg (tCall (sp_l_due A) [] E0 (tCons (tVar 2) (tCons (tVar 3) (tCons (tVar 6) (tCons (tOp rIxA (tVar 4) (tC (.int 2))) (tCons (tVar 5) tNil)))))) (gName 7)) (tRet (tTup (tCons (tVar 6) (tCons (tOp rIxA (tVar 4) (tC (.int 2))) (tCons (tVar 5) (tCons (tVar 7) tNil)))))))))))
theorem st_l_wrong (v0 v1 v2 v3 : V) : L2.start ["_law_state_here", "_law_image", "_law_held", "_law_size", "_law_part", "_law_total", "_law_first", "_law_due_here"] [v0, v1, v2, v3] = [some v0, some v1, some v2, some v3, none, none, none, none] := rfl
def t_law (A : Ad) : TS :=
  (tSeq (tAsg (tCall (spState A.K) [] E0 (tCons (tVar 0) tNil)) (gName 1)) (tSeq (tAsg (tLc (iRng1 (tCons (tOp rAddA (tC (.int 1)) (tCall spDraw [] E0 (tCons (tVar 1) (tCons (tC (.int 60)) tNil)))) tNil)) (gName 9) tYes (tCall spDraw [] E0 (tCons (tVar 1) (tCons (tC (.int 65536)) tNil))) [9]) (gName 2)) (tSeq (tAsg (tCall spDraw [] E0 (tCons (tVar 1) (tCons (tC (.int 6)) tNil))) (gName 3)) (tSeq (tIfS (tTest (tOp (rNeA A.K) (tCall (sp_packets A) [] E0 (tCons (tVar 3) (tCons (tVar 2) tNil))) (tLc (iList A.K (tCall (sp_l_parts A) [] E0 (tCons (tVar 2) tNil))) (gName 14) tYes (tTup (tCons (tVar 3) (tCons (tVar 14) tNil))) [14]))) (tRet (tC (.bl false))) tNext) (tSeq (tAsg (tMake A.c_Memory (sp_Memory_init A) [] E0 tNil) (gName 4)) (tSeq (tAsg (tLst tNil) (gName 5)) (tSeq (tAsg (tCall (sp_l_parts A) [] E0 (tCons (tVar 2) tNil)) (gName 6)) (tSeq (tFor (iRng1 (tCons (tCB rLenA (tCons (tVar 6) tNil)) tNil)) (gName 7) (tSeq (tAsg (tIf (tTest (tOp (rI0 fun i j => .bl (decide (j < i))) (tVar 7) (tC (.int 0)))) (tCB rLenA (tCons (tVar 5) tNil)) (tUn (rU fun i => .int (-i)) (tC (.int 1)))) (gName 8)) (tSeq (tFor (iRng1 (tCons (tCall spDraw [] E0 (tCons (tVar 1) (tCons (tC (.int 3)) tNil))) tNil)) (gName 9) (tSeq (tAsg (tCall (sp_l_wrong A) [] E0 (tCons (tVar 1) (tCons (tVar 2) (tCons (tVar 5) (tCons (tVar 8) tNil))))) (gTup A.K 4 (gCons (gName 10) (gCons (gName 11) (gCons (gName 12) (gCons (gName 13) gNil)))))) (tIfS (tTest (tOp (rEqA A.K) (tOp rIxA (tVar 13) (tC (.int 0))) (tC (.str "error")))) (tIfS (tOr (tTest (tOp (rNeA A.K) (tCall (sp_l_load A) [] E0 (tCons (tVar 4) (tCons (tVar 10) (tCons (tCB rListA (tCons (tVar 11) tNil)) (tCons (tVar 12) tNil))))) (tVar 13))) (tTest (tOp (rNeA A.K) (tFld A.K (tVar 4) "words") (tVar 5)))) (tRet (tC (.bl false))) tNext) tNext))) (tSeq (tAsg (tBML rPopI (tVar 6) (tCons (tCall spDraw [] E0 (tCons (tVar 1) (tCons (tCB rLenA (tCons (tVar 6) tNil)) tNil))) tNil)) (gName 14)) (tSeq (tIfS (tTest (tOp (rEqA A.K) (tVar 7) (tC (.int 0)))) (tAsg (tLc (iRng1 (tCons (tCB rLenA (tCons (tVar 2) tNil)) tNil)) (gName 9) tYes (tC .non) [9]) (gName 5)) tNext) (tSeq (tAsg (tOp rAddA (tOp rAddA (tSl rSlA (tVar 5) tNoPart (tPart (tOp rIxA (tVar 14) (tC (.int 1))))) (tOp rIxA (tVar 14) (tC (.int 2)))) (tSl rSlA (tVar 5) (tPart (tOp rAddA (tOp rIxA (tVar 14) (tC (.int 1))) (tCB rLenA (tCons (tOp rIxA (tVar 14) (tC (.int 2))) tNil)))) tNoPart)) (gName 5)) (tIfS (tOr (tTest (tOp (rNeA A.K) (tCall (sp_l_load A) [] E0 (tCons (tVar 4) (tCons (tOp rIxA (tVar 14) (tC (.int 1))) (tCons (tCB rListA (tCons (tOp rIxA (tVar 14) (tC (.int 2))) tNil)) (tCons (tOp rIxA (tVar 14) (tC (.int 3))) tNil))))) (tTup (tCons (tC (.str "")) (tCons (tOp (rIn A.K true) (tC .non) (tVar 5)) tNil))))) (tTest (tOp (rNeA A.K) (tFld A.K (tVar 4) "words") (tVar 5)))) (tRet (tC (.bl false))) tNext))))))) (tRet (tOp (rEqA A.K) (tFld A.K (tVar 4) "words") (tVar 2)))))))))))
theorem st_law (v0 : V) : L2.start ["_law_script", "_law_state_here", "_law_image", "_law_target", "_law_memory", "_law_held", "_law_left", "_law_turn", "_law_size", "_law_k", "_law_first", "_law_words", "_law_total", "_law_due_here", "_law_part"] [v0] = [some v0, none, none, none, none, none, none, none, none, none, none, none, none, none, none] := rfl

theorem len_l_parts (A : Ad) {vs : List V} {H : Hp} {Q : VK} {E : XK} (h : sp_l_parts A vs H Q E) : vs.length = 1 := by
  obtain ⟨a, c, B, ls, im, img, rfl, _⟩ := h
  rfl
theorem len_packets (A : Ad) {vs : List V} {H : Hp} {Q : VK} {E : XK} (h : sp_packets A vs H Q E) : vs.length = 2 := by
  obtain ⟨a, c, B, ls, im, img, tg, rfl, _⟩ := h
  rfl
theorem len_Memory_load (A : Ad) {vs : List V} {H : Hp} {Q : VK} {E : XK} (h : sp_Memory_load A vs H Q E) : vs.length = 4 := by
  obtain ⟨a, c, B, ls, m, dm, wl, wa, hs, ws, f, t, rfl, _⟩ := h
  rfl
theorem len_l_load (A : Ad) {vs : List V} {H : Hp} {Q : VK} {E : XK} (h : sp_l_load A vs H Q E) : vs.length = 4 := by
  obtain ⟨a, c, B, ls, m, dm, wl, wa, hs, ws, f, t, rfl, _⟩ := h
  rfl
theorem len_l_due (A : Ad) {vs : List V} {H : Hp} {Q : VK} {E : XK} (h : sp_l_due A vs H Q E) : vs.length = 5 := by
  obtain ⟨a, c, B, ls, hl, wa, hs, ws, size, f, t, rfl, _⟩ := h
  rfl
theorem len_l_wrong (A : Ad) {vs : List V} {H : Hp} {Q : VK} {E : XK} (h : sp_l_wrong A vs H Q E) : vs.length = 4 := by
  obtain ⟨a, c, B, ls, im, hl, img, hs, size, rfl, _⟩ := h
  rfl
theorem len_law (A : Ad) {vs : List V} {H : Hp} {Q : VK} {E : XK} (h : sp_law A vs H Q E) : vs.length = 1 := by
  obtain ⟨s, ns, rfl, _⟩ := h
  rfl
end K44
set_option Elab.async false
set_option linter.all false
set_option maxRecDepth 100000
set_option maxHeartbeats 4000000
namespace K44
open PySem PySem.Spec PyProof.Rows L2 Lb
local macro_rules | `(tactic| walk_at "pm") => `(tactic| (focus ((repeat (first | exact List.Perm.refl _ | (apply Pick.perm; (solve | repeat (first | exact Pick.here | apply Pick.there))))); done)))
local macro_rules | `(tactic| walk_at "h") => `(tactic| first | assumption | exact Own.mem (by assumption) (by walk_at "m") | exact Own.kp (by assumption) (by assumption))
local macro_rules | `(tactic| walk_at "m") => `(tactic| (focus ((repeat (first | assumption | exact List.mem_cons_self | apply List.mem_cons_of_mem)); done)))
local macro_rules | `(tactic| walk_at "u") => `(tactic| (focus ((repeat (first | exact Up1.here | apply Up1.there)); done)))
local macro_rules | `(tactic| walk_at "p") => `(tactic| (focus ((repeat (first | exact Pre.nil | apply Pre.cons)); done)))
local macro_rules | `(tactic| walk_at "f") => `(tactic| (focus ((repeat (first | exact PutF.here | exact PutF.nil | (apply PutF.there; (solve | decide +kernel)))); done)))
local macro_rules | `(tactic| walk_at "k") => `(tactic| (focus ((repeat (first | exact LkF.here rfl | exact LkF.nil rfl | refine LkF.there (by decide +kernel) ?_)); done)))
local macro_rules | `(tactic| walk_at "e") => `(tactic| (focus ((repeat (first | exact StE.nil | apply StE.app | apply StE.got | apply StE.lack)); done)))
local macro_rules | `(tactic| walk_at "d") => `(tactic| (focus ((repeat (first | exact Dt.int _ | exact Dt.str _ | exact Dt.non | exact Dt.bl _ | exact DtAll.nil | exact DtAll.ints _ | apply DtAll.cons | (apply Dt.tup; (solve | walk_at "h")) | (apply Dt.lst; (solve | walk_at "h")))); done)))
local macro_rules | `(tactic| walk_at "sh") => `(tactic| (focus ((repeat (first | exact Sh.int | exact Sh.non | exact Sh.str (by decide +kernel) | exact ShA.nil | exact ShA.ints | apply ShA.cons | apply Sh.lst | apply Sh.tup)); done)))
local macro_rules | `(tactic| walk_at "ne") => `(tactic| (apply rd_neF; (solve | walk_at "d"); (solve | walk_at "d"); (solve | exact Sh.shp (n := 4) (by walk_at "sh"))))
local macro_rules | `(tactic| walk_at "s1") => `(tactic| with_reducible first | (apply i_bm) | apply i_try | apply i_callS | apply i_methS | apply i_raiseX | (apply i_mks; (solve | assumption)) | apply i_rng3 | apply i_txf | (apply i_isX; (solve | assumption); (solve | walk_at "h")) | (apply i_xf; (solve | walk_at "h"); (solve | walk_at "k")) | (apply i_tyK; (solve | assumption)) | apply i_tyS | (apply i_ixK; (solve | assumption); (solve | assumption | with_unfolding_all rfl)) | (apply i_lenK; (solve | assumption); (exact rfl)) | (apply i_tupLN; (solve | walk_at "h")) | (apply i_var; (solve | with_unfolding_all rfl)) | apply i_cons | apply i_nil | apply i_c | apply i_op | apply i_asg | apply i_seq | apply i_gname | apply i_eqS | apply i_eqI | apply i_neS | apply i_tt | apply i_ff | (apply i_ixA; (solve | walk_at "h"); (solve | exact IxO.lst (by assumption) | exact IxO.tup (by assumption) | exact .lst (by with_unfolding_all rfl) | exact .tup (by with_unfolding_all rfl))) | apply i_bl | apply i_test | apply i_ifS | apply i_tupN | (apply i_tupO; (solve | assumption); (exact (sz (by (try simp) <;> omega))); intro p H O) | apply i_fld | (apply i_fldO; (solve | walk_at "h"); (solve | assumption); (solve | assumption); (solve | walk_at "k")) | (apply i_tB; (solve | decide +kernel)) | (apply i_fB; (solve | decide +kernel)) | apply i_ret | apply i_retN | apply i_drop | apply i_next | apply i_brk | apply i_cnt | apply i_par | apply i_par2 | apply i_fldSN | apply i_dput | apply i_un | apply i_rU | apply i_rI0 | apply i_B | apply i_tru | apply i_truB | apply i_and | apply i_or | apply i_not | apply i_andV | apply i_orV | apply i_notV | apply i_if | apply i_call | apply i_meth | apply i_makeN | apply i_cb | apply i_dnewN | apply i_lstN | apply i_bml | apply i_gsub | apply i_gcons | apply i_gnil | apply i_sl | apply i_nop | apply i_part | apply i_prt | apply i_isN | apply i_notN | apply i_yes | apply i_ntt | apply i_nff | apply i_addI | apply i_neI | apply i_intI | apply i_intB | apply i_abs | apply i_isiIB | apply i_isiNB | apply i_isiBB | apply i_dget | apply i_for | apply i_ilist | apply i_itup | apply i_rng1 | apply i_rng2 | apply i_ex1 | apply i_ex2 | apply i_exr | apply i_disp | apply i_pcons | apply i_pnil | apply i_neN | apply i_eqN | apply i_neB | apply i_eqB | apply i_lc | apply i_dnI | apply i_nyI | apply i_dnR | apply i_nyR | (apply i_lenA; (solve | walk_at "h"); (solve | first | exact .lst | exact .tup | exact .dK)) | (apply i_isL; (solve | walk_at "h")) | (apply i_isiLL; (solve | walk_at "h")) | (apply i_isiTL; (solve | walk_at "h")) | (apply i_gtup; (solve | walk_at "h"); (solve | with_unfolding_all rfl)) | (apply i_fldSO; (solve | assumption); (solve | walk_at "u"); (solve | walk_at "f"); (solve | assumption); (solve | assumption); (solve | simp); intro H O) | (apply i_lstO; (solve | assumption); (exact (sz (by (try simp) <;> omega))); intro p H O) | (apply i_makeO; (solve | assumption); intro x dx H O) | (apply i_methO; (solve | walk_at "h"); (solve | walk_at "k")) | (apply i_newO; (solve | assumption); intro p H O) | (apply i_listN; (solve | walk_at "h")) | (apply i_listTN; (solve | walk_at "h")) | (apply i_addN; (solve | walk_at "h"); (solve | walk_at "h"); (exact (sz (by (try simp) <;> omega)))) | apply i_mkd | apply i_gfld | (apply i_glst; (solve | walk_at "h"); (solve | with_unfolding_all rfl)) | apply i_isB | apply i_notB | (apply i_inO; (solve | walk_at "h"); (solve | with_unfolding_all rfl); (solve | with_unfolding_all rfl)) | (apply i_dgetI; (solve | walk_at "h"); (solve | assumption)) | (apply i_in; (solve | with_unfolding_all rfl); (solve | walk_at "e")) | (apply i_setO; (solve | assumption); (solve | walk_at "u"); (solve | with_unfolding_all rfl); intro H O) | (apply i_appO; (solve | assumption); (solve | walk_at "u"); (exact (szl (by (try simp) <;> omega))); intro H O) | (apply i_drawO; (solve | assumption); (exact rfl); (solve | decide); (solve | decide); intro r H h0 h1 O))
local macro_rules | `(tactic| walk_at "s") => `(tactic| repeat (walk_at "s1"))
theorem cut8 {img : List Int} {i : Nat} (h : 8 * i ≤ img.length) : cutV (img.map V.int) (some ((8 * i : Nat) : Int)) (some (((8 * i : Nat) : Int) + 8)) = (wk img i).map V.int := by
  rw [show ((8 * i : Nat) : Int) + 8 = ((8 * i + 8 : Nat) : Int) by omega, cut_mid (by rw [List.length_map]; exact h)]
  unfold wk
  rw [List.map_take, List.map_drop]
theorem psD_succ {img : List Int} {i : Nat} : (List.range (i + 1)).map (pD img) = (List.range i).map (pD img) ++ [pD img i] := by
  rw [List.range_succ, List.map_append]
  rfl
set_option maxHeartbeats 16000000 in
theorem pure_l_parts (A : Ad) (vs : List V) (H : Hp) (Q : VK) (E : XK) (h : sp_l_parts A vs H Q E) : t_l_parts A { nx := fun _ H' => Q .non H', rt := Q } (L2.start ["_law_image", "_law_found", "_law_at"] vs) H := by
  obtain ⟨a, c, B, ls, im, img, rfl, O, him, hl, kk⟩ := h
  rw [st_l_parts]
  unfold t_l_parts
  walk_at "s"
  rename_i D H2 O2
  refine i_while (fun m σ H' => ∃ i B' ps, m + i = np img.length ∧ σ = [some (.ref im), some (.ref D), some (.int ((8 * i : Nat) : Int))] ∧ Same B B' ∧ DtAll B' ps ((List.range i).map (pD img)) ∧ Own a c B' H' ((D, .lst ps) :: ls)) (np img.length) ⟨0, B, [], rfl, rfl, Same.refl _, .nil, O2⟩ ?_
  rintro m σ H3 ⟨i, B', ps, hm, rfl, s, dt, O⟩
  have hpl := dtLen dt
  rw [List.length_map, List.length_range] at hpl
  have him' := s _ _ him
  have n8 := np_le hl
  walk_at "s"
  refine i_d2 (fun h5 => ?_) (fun h5 => ?_)
  · rw [List.length_map] at h5
    refine i_wgo ?_
    walk_at "s"
    refine i_slO O (O.kp him') (cut8 (by omega)) fun w H4 O => ?_
    obtain ⟨B2, s2, hw, O⟩ := O.freeze
    have him' := s2 _ _ him'
    walk_at "s"
    rename_i t H5 O3 H6 O
    have O := Own.perm O (ls' := (t, _) :: (D, _) :: ls) (by walk_at "pm")
    obtain ⟨B3, s3, ht, O⟩ := O.freeze
    refine ⟨m - 1, by unfold np at *; omega, i + 1, B3, ps ++ [.ref t], by unfold np at *; omega, ?_, Same.trans s (Same.trans s2 s3), ?_, O⟩
    · show [_, _, _] = [_, _, _]
      rw [show ((8 * (i + 1) : Nat) : Int) = ((8 * i : Nat) : Int) + 8 by omega]
    · rw [psD_succ]
      refine dtSnoc (DtAll.mono (Same.trans s2 s3) dt) (.tup ht (.cons (.str _) (.cons (.int _) (.cons (.lst (s3 _ _ hw) (DtAll.ints _)) (.cons ?_ .nil)))))
      rw [List.length_map]
      exact .int _
  · rw [List.length_map] at h5
    have e9 : i = np img.length := by unfold np at *; omega
    subst e9
    walk_at "s"
    exact kk _ _ _ _ s O dt
theorem rgc : ∀ n < 61, RgC 0 ((n : Nat) : Int) 8 (np n) := by
  unfold RgC np
  decide +kernel
set_option maxHeartbeats 16000000 in
theorem pure_packets (A : Ad) (vs : List V) (H : Hp) (Q : VK) (E : XK) (h : sp_packets A vs H Q E) : t_packets A { nx := fun _ H' => Q .non H', rt := Q } (L2.start ["target", "image", "found", "first"] vs) H := by
  obtain ⟨a, c, B, ls, im, img, tg, rfl, O, him, hl, kk⟩ := h
  rw [st_packets]
  unfold t_packets
  walk_at "s"
  rename_i D H2 O2
  rw [List.length_map]
  have n8 := np_le hl
  refine i_forC (np img.length) (rgc _ (by omega)) (fun i σ H' => ∃ B' ps x3, σ = [some (.int tg), some (.ref im), some (.ref D), x3] ∧ Same B B' ∧ DtAll B' ps (((List.range i).map (pD img)).map fun d => .tuple [.int tg, d]) ∧ Own a c B' H' ((D, .lst ps) :: ls)) ⟨B, [], none, rfl, Same.refl _, .nil, O2⟩ ?_ ?_
  · rintro i σ H3 hi ⟨B', ps, x3, rfl, s, dt, O⟩
    have hpl := dtLen dt
    rw [List.length_map, List.length_map, List.length_range] at hpl
    have him' := s _ _ him
    have h8 := np_lt hi
    rw [show (0 : Int) + (i : Nat) * 8 = ((8 * i : Nat) : Int) by omega]
    walk_at "s"
    refine i_slO O (O.kp him') (cut8 (by omega)) fun w H4 O => ?_
    obtain ⟨B2, s2, hw, O⟩ := O.freeze
    have him' := s2 _ _ him'
    walk_at "s"
    rename_i t H5 O3 t2 H6 O4 H7 O
    have O := Own.perm O (ls' := (t2, _) :: (t, _) :: (D, _) :: ls) (by walk_at "pm")
    obtain ⟨B3, s3, ht2, O⟩ := O.freeze
    obtain ⟨B4, s4, ht, O⟩ := O.freeze
    refine ⟨B4, ps ++ [.ref t2], _, rfl, Same.trans s (Same.trans s2 (Same.trans s3 s4)), ?_, O⟩
    rw [psD_succ, List.map_append]
    refine dtSnoc (DtAll.mono (Same.trans s2 (Same.trans s3 s4)) dt) (.tup (s4 _ _ ht2) (.cons (.int _) (.cons (.tup ht (.cons (.str _) (.cons (.int _) (.cons (.lst (s4 _ _ (s3 _ _ hw)) (DtAll.ints _)) (.cons ?_ .nil))))) .nil)))
    rw [List.length_map]
    exact .int _
  · rintro σ H3 ⟨B', ps, x3, rfl, s, dt, O⟩
    walk_at "s"
    exact kk _ _ _ _ s O dt
theorem hd_size {hs : List (Option Int)} {size : Int} {t : Nat} (h : SzOk hs size) (h0 : 0 ≤ size) : hd hs t = hs ∧ size = (hs.length : Nat) := by
  rcases h with ⟨rfl, _⟩ | ⟨e, n⟩
  · exact absurd h0 (by decide)
  · unfold hd
    rw [if_neg n]
    exact ⟨rfl, e⟩
set_option maxHeartbeats 16000000 in
theorem pure_l_due (A : Ad) (vs : List V) (H : Hp) (Q : VK) (E : XK) (h : sp_l_due A vs H Q E) : t_l_due A { nx := fun _ H' => Q .non H', rt := Q } (L2.start ["_law_held", "_law_size", "_law_first", "_law_words", "_law_total", "_law_k"] vs) H := by
  obtain ⟨a, c, B, ls, hl, wa, hs, ws, size, f, t, rfl, O, hh, hw, hz, hl2, kk⟩ := h
  rw [st_l_due]
  unfold t_l_due
  have rest : ¬ ((hd hs t).length ≠ t ∨ t < f + ws.length) → tSeq (tFor (iRng1 (tCons (tCB rLenA (tCons (tVar 3) tNil)) tNil)) (gName 5) (tIfS (tAnd (tTest (tOp (rI0 fun i j => .bl (decide (j ≤ i))) (tVar 1) (tC (.int 0)))) (tTest (tOp rNotN (tOp rIxA (tVar 0) (tOp rAddA (tVar 2) (tVar 5))) (tC .non)))) (tRet (tTup (tCons (tC (.str "error")) (tCons (tOp rAddA (tVar 2) (tVar 5)) tNil)))) tNext)) (tRet (tTup (tCons (tC (.str "")) (tCons (tC (.bl false)) tNil)))) { nx := fun _ H' => Q .non H', rt := Q } [some (.ref hl), some (.int size), some (.int (f : Nat)), some (.ref wa), some (.int (t : Nat)), none] H := by
    intro hb
    walk_at "s"
    refine i_forR ws.length (by rw [List.length_map]) (by omega) (fun i σ H' => ∃ x5, σ = [some (.ref hl), some (.int size), some (.int (f : Nat)), some (.ref wa), some (.int (t : Nat)), x5] ∧ (0 ≤ size → ∀ j, j < i → hs[f + j]? = some none) ∧ Own a c B H' ls) ⟨none, rfl, fun _ _ h => by omega, O⟩ ?_ ?_
    · rintro i σ H2 hi ⟨x5, rfl, ha, O⟩
      walk_at "s"
      refine i_d2 (fun h0 => ?_) (fun h0 => ?_)
      · obtain ⟨e1, e2⟩ := hd_size (t := t) hz h0
        rw [e1] at hb
        have hx : f + i < hs.length := by omega
        have ak : atI (hs.map optV) ((f : Int) + (i : Int)) = some (optV hs[f + i]) := by
          rw [show (f : Int) + (i : Int) = ((f + i : Nat) : Int) by omega]
          exact atI_nat (by rw [List.getElem?_map, List.getElem?_eq_getElem hx]; rfl)
        walk_at "s"
        cases hv : hs[f + i] with
        | none =>
          refine i_nn rfl ?_
          walk_at "s"
          refine ⟨_, rfl, fun h0 j hj => ?_, O⟩
          rcases Nat.lt_or_ge j i with q | q
          · exact ha h0 j q
          · rw [show j = i by omega, List.getElem?_eq_getElem hx, hv]
        | some v =>
          refine i_ny (by intro z; cases z) ?_
          walk_at "s"
          refine kk (some (f + i)) _ _ (fun e he => ?_) ‹Own a c B _ _›
          cases he
          refine .inr ⟨by rw [e1]; exact hb, i, hi, rfl, ⟨v, ?_⟩, fun j hj => ?_⟩
          · rw [e1, List.getElem?_eq_getElem hx, hv]
          · rw [e1]
            exact ha h0 j hj
      · walk_at "s"
        exact ⟨_, rfl, fun h => absurd h h0, O⟩
    · rintro σ H2 ⟨x5, rfl, ha, O⟩
      walk_at "s"
      exact kk none _ _ (fun e he => by cases he) ‹Own a c B _ _›
  walk_at "s"
  refine i_d2 (fun h0 => ?_) (fun h0 => ?_)
  · obtain ⟨e1, e2⟩ := hd_size (t := t) hz h0
    walk_at "s"
    refine i_n2 (fun h1 => ?_) (fun h1 => ?_)
    · walk_at "s"
      refine kk (some f) _ _ (fun e he => ?_) ‹Own a c B _ _›
      cases he
      refine .inl ⟨.inl ?_, rfl⟩
      rw [e1]
      omega
    · walk_at "s"
      refine i_d2 (fun h2 => ?_) (fun h2 => ?_)
      · rw [List.length_map] at h2
        walk_at "s"
        refine kk (some f) _ _ (fun e he => ?_) ‹Own a c B _ _›
        cases he
        exact .inl ⟨.inr (by omega), rfl⟩
      · rw [List.length_map] at h2
        walk_at "s1"
        exact rest (by rw [e1]; omega)
  · walk_at "s"
    refine i_d2 (fun h2 => ?_) (fun h2 => ?_)
    · rw [List.length_map] at h2
      walk_at "s"
      refine kk (some f) _ _ (fun e he => ?_) ‹Own a c B _ _›
      cases he
      exact .inl ⟨.inr (by omega), rfl⟩
    · rw [List.length_map] at h2
      walk_at "s1"
      refine rest ?_
      rcases hz with ⟨_, rfl⟩ | ⟨e, _⟩
      · unfold hd
        rw [if_pos rfl, List.length_replicate]
        omega
      · omega
end K44
set_option Elab.async false
set_option linter.all false
set_option maxRecDepth 100000
set_option maxHeartbeats 4000000
namespace K44
open PySem PySem.Spec PyProof.Rows L2 Lb
local macro_rules | `(tactic| walk_at "pm") => `(tactic| (focus ((repeat (first | exact List.Perm.refl _ | (apply Pick.perm; (solve | repeat (first | exact Pick.here | apply Pick.there))))); done)))
local macro_rules | `(tactic| walk_at "h") => `(tactic| first | assumption | exact Own.mem (by assumption) (by walk_at "m") | exact Own.kp (by assumption) (by assumption))
local macro_rules | `(tactic| walk_at "m") => `(tactic| (focus ((repeat (first | assumption | exact List.mem_cons_self | apply List.mem_cons_of_mem)); done)))
local macro_rules | `(tactic| walk_at "u") => `(tactic| (focus ((repeat (first | exact Up1.here | apply Up1.there)); done)))
local macro_rules | `(tactic| walk_at "p") => `(tactic| (focus ((repeat (first | exact Pre.nil | apply Pre.cons)); done)))
local macro_rules | `(tactic| walk_at "f") => `(tactic| (focus ((repeat (first | exact PutF.here | exact PutF.nil | (apply PutF.there; (solve | decide +kernel)))); done)))
local macro_rules | `(tactic| walk_at "k") => `(tactic| (focus ((repeat (first | exact LkF.here rfl | exact LkF.nil rfl | refine LkF.there (by decide +kernel) ?_)); done)))
local macro_rules | `(tactic| walk_at "e") => `(tactic| (focus ((repeat (first | exact StE.nil | apply StE.app | apply StE.got | apply StE.lack)); done)))
local macro_rules | `(tactic| walk_at "d") => `(tactic| (focus ((repeat (first | exact Dt.int _ | exact Dt.str _ | exact Dt.non | exact Dt.bl _ | exact DtAll.nil | exact DtAll.ints _ | apply DtAll.cons | (apply Dt.tup; (solve | walk_at "h")) | (apply Dt.lst; (solve | walk_at "h")))); done)))
local macro_rules | `(tactic| walk_at "sh") => `(tactic| (focus ((repeat (first | exact Sh.int | exact Sh.non | exact Sh.str (by decide +kernel) | exact ShA.nil | exact ShA.ints | apply ShA.cons | apply Sh.lst | apply Sh.tup)); done)))
local macro_rules | `(tactic| walk_at "ne") => `(tactic| (apply rd_neF; (solve | walk_at "d"); (solve | walk_at "d"); (solve | exact Sh.shp (n := 4) (by walk_at "sh"))))
local macro_rules | `(tactic| walk_at "s1") => `(tactic| with_reducible first | (apply i_bm) | apply i_try | apply i_callS | apply i_methS | apply i_raiseX | (apply i_mks; (solve | assumption)) | apply i_rng3 | apply i_txf | (apply i_isX; (solve | assumption); (solve | walk_at "h")) | (apply i_xf; (solve | walk_at "h"); (solve | walk_at "k")) | (apply i_tyK; (solve | assumption)) | apply i_tyS | (apply i_ixK; (solve | assumption); (solve | assumption | with_unfolding_all rfl)) | (apply i_lenK; (solve | assumption); (exact rfl)) | (apply i_tupLN; (solve | walk_at "h")) | (apply i_var; (solve | with_unfolding_all rfl)) | apply i_cons | apply i_nil | apply i_c | apply i_op | apply i_asg | apply i_seq | apply i_gname | apply i_eqS | apply i_eqI | apply i_neS | apply i_tt | apply i_ff | (apply i_ixA; (solve | walk_at "h"); (solve | exact IxO.lst (by assumption) | exact IxO.tup (by assumption) | exact .lst (by with_unfolding_all rfl) | exact .tup (by with_unfolding_all rfl))) | apply i_bl | apply i_test | apply i_ifS | apply i_tupN | (apply i_tupO; (solve | assumption); (exact (sz (by (try simp) <;> omega))); intro p H O) | apply i_fld | (apply i_fldO; (solve | walk_at "h"); (solve | assumption); (solve | assumption); (solve | walk_at "k")) | (apply i_tB; (solve | decide +kernel)) | (apply i_fB; (solve | decide +kernel)) | apply i_ret | apply i_retN | apply i_drop | apply i_next | apply i_brk | apply i_cnt | apply i_par | apply i_par2 | apply i_fldSN | apply i_dput | apply i_un | apply i_rU | apply i_rI0 | apply i_B | apply i_tru | apply i_truB | apply i_and | apply i_or | apply i_not | apply i_andV | apply i_orV | apply i_notV | apply i_if | apply i_call | apply i_meth | apply i_makeN | apply i_cb | apply i_dnewN | apply i_lstN | apply i_bml | apply i_gsub | apply i_gcons | apply i_gnil | apply i_sl | apply i_nop | apply i_part | apply i_prt | apply i_isN | apply i_notN | apply i_yes | apply i_ntt | apply i_nff | apply i_addI | apply i_neI | apply i_intI | apply i_intB | apply i_abs | apply i_isiIB | apply i_isiNB | apply i_isiBB | apply i_dget | apply i_for | apply i_ilist | apply i_itup | apply i_rng1 | apply i_rng2 | apply i_ex1 | apply i_ex2 | apply i_exr | apply i_disp | apply i_pcons | apply i_pnil | apply i_neN | apply i_eqN | apply i_neB | apply i_eqB | apply i_lc | apply i_dnI | apply i_nyI | apply i_dnR | apply i_nyR | (apply i_lenA; (solve | walk_at "h"); (solve | first | exact .lst | exact .tup | exact .dK)) | (apply i_isL; (solve | walk_at "h")) | (apply i_isiLL; (solve | walk_at "h")) | (apply i_isiTL; (solve | walk_at "h")) | (apply i_gtup; (solve | walk_at "h"); (solve | with_unfolding_all rfl)) | (apply i_fldSO; (solve | assumption); (solve | walk_at "u"); (solve | walk_at "f"); (solve | assumption); (solve | assumption); (solve | simp); intro H O) | (apply i_lstO; (solve | assumption); (exact (sz (by (try simp) <;> omega))); intro p H O) | (apply i_makeO; (solve | assumption); intro x dx H O) | (apply i_methO; (solve | walk_at "h"); (solve | walk_at "k")) | (apply i_newO; (solve | assumption); intro p H O) | (apply i_listN; (solve | walk_at "h")) | (apply i_listTN; (solve | walk_at "h")) | (apply i_addN; (solve | walk_at "h"); (solve | walk_at "h"); (exact (sz (by (try simp) <;> omega)))) | apply i_mkd | apply i_gfld | (apply i_glst; (solve | walk_at "h"); (solve | with_unfolding_all rfl)) | apply i_isB | apply i_notB | (apply i_inO; (solve | walk_at "h"); (solve | with_unfolding_all rfl); (solve | with_unfolding_all rfl)) | (apply i_dgetI; (solve | walk_at "h"); (solve | assumption)) | (apply i_in; (solve | with_unfolding_all rfl); (solve | walk_at "e")) | (apply i_setO; (solve | assumption); (solve | walk_at "u"); (solve | with_unfolding_all rfl); intro H O) | (apply i_appO; (solve | assumption); (solve | walk_at "u"); (exact (szl (by (try simp) <;> omega))); intro H O) | (apply i_drawO; (solve | assumption); (exact rfl); (solve | decide); (solve | decide); intro r H h0 h1 O))
local macro_rules | `(tactic| walk_at "s") => `(tactic| repeat (walk_at "s1"))
def t_load2 : Ad → WX → TS := fun A W => (tSeq (tIfS (tOr (tTest (tOp (rNeA A.K) (tCB rLenA (tCons (tVar 4) tNil)) (tVar 3))) (tTest (tOp (rI0 fun i j => .bl (decide (j < i))) (tOp rAddA (tVar 1) (tCB rLenA (tCons (tVar 2) tNil))) (tVar 3)))) (tRaiseX A.K A.c_CodeError A.c_PlacedError A.i_CodeError "at" W (tVar 1)) tNext) (tSeq (tFor (iRng2 (tCons (tVar 1) (tCons (tOp rAddA (tVar 1) (tCB rLenA (tCons (tVar 2) tNil))) tNil))) (gName 5) (tIfS (tTest (tOp rNotN (tOp rIxA (tVar 4) (tVar 5)) (tC .non))) (tRaiseX A.K A.c_CodeError A.c_PlacedError A.i_CodeError "at" W (tVar 5)) tNext)) (tSeq (sFld A.K (tVar 0) (tOp rAddA (tOp rAddA (tSl rSlA (tVar 4) tNoPart (tPart (tVar 1))) (tCB rListA (tCons (tVar 2) tNil))) (tSl rSlA (tVar 4) (tPart (tOp rAddA (tVar 1) (tCB rLenA (tCons (tVar 2) tNil)))) tNoPart)) "words") (tRet (tCB (rAll A.K) (tCons (tLc (iList A.K (tFld A.K (tVar 0) "words")) (gName 6) tYes (tOp rNotN (tVar 6) (tC .non)) [6]) tNil))))))
theorem i_mul1 {H : Hp} {Q : VK} {a c p : Addr} {B : Hp} {ls : List (Addr × HO)} {v : V} {t : Nat} (O : Own a c B H ls) (h : H p = some (.lst [v])) (ht : t ≤ 1000) (k : ∀ r H', Own a c B H' ((r, .lst (List.replicate t v)) :: ls) → Q (.ref r) H') : rMulA (.ref p) (.int (t : Nat)) H Q := by
  simp only [rMulA, h]
  have e : ∀ t : Nat, (List.replicate ((t : Nat) : Int).toNat [v]).flatten = List.replicate t v := fun t => by
    rw [Int.toNat_natCast]
    induction t with
    | zero => rfl
    | succ n ih => rw [List.replicate_succ, List.flatten_cons, ih, List.replicate_succ]; rfl
  rw [e]
  refine ⟨by omega, by omega, sz (by simp; omega), fun r hr => k r _ (O.new hr)⟩
theorem Own.weak {a c : Addr} {B B' H : Hp} {ls : List (Addr × HO)} (s : Same B B') (O : Own a c B' H ls) : Own a c B H ls := by
  have nn : ∀ p, B' p = none → B p = none := fun p h => by
    cases e : B p with
    | none => rfl
    | some o =>
      rw [s _ _ e] at h
      cases h
  exact ⟨O.R, Same.trans s O.keep, O.nd, fun x hx => ⟨nn _ (O.out x hx).1, (O.out x hx).2⟩, O.here, nn _ O.ha, nn _ O.hc⟩
set_option maxHeartbeats 32000000 in
theorem load2_ok (A : Ad) (F : CF A) {a c m dm wl wa hr : Addr} {B H : Hp} {ls : List (Addr × HO)} {hs : List (Option Int)} {ws : List Int} {f t : Nat} {Q : VK} {E : XK} (O : Own a c B H ((m, mem A.c_Memory dm wl) :: ls))
    (hh : B hr = some (.lst ((hd hs t).map optV))) (hw : B wa = some (.lst (ws.map V.int))) (l1 : (hd hs t).length ≤ 1000) (l2 : ws.length ≤ 1000) (l3 : f ≤ 1000) (l4 : t ≤ 1000)
    (kE : ∀ e, ErrAt hs f ws.length t e → ∀ d H', Own a c B H' ((d, .xd [("at", .int (e : Nat))]) :: (m, mem A.c_Memory dm wl) :: ls) → E (.ref A.c_CodeError) (some d) H')
    (kQ : OkAt hs f ws.length t → ∀ wl' H' B', Same B B' → Own a c B' H' ((m, mem A.c_Memory dm wl') :: ls) → B' wl' = some (.lst ((newH hs f ws t).map optV)) → Q (.bl (((newH hs f ws t).map Option.isSome).all id)) H') :
    t_load2 A (fun cls d _ H => E cls d H) { nx := fun _ H' => Q .non H', rt := Q } [some (.ref m), some (.int (f : Nat)), some (.ref wa), some (.int (t : Nat)), some (.ref hr), none, none] H := by
  obtain ⟨F1, n1, ec⟩ := F
  unfold t_load2
  walk_at "s"
  refine i_n2 (fun h1 => ?_) (fun h1 => ?_)
  · walk_at "s"
    intro d hd1
    rw [List.length_map] at h1
    exact kE f (.inl ⟨.inl (by omega), rfl⟩) d _ (O.new hd1)
  rw [List.length_map] at h1
  walk_at "s"
  refine i_d2 (fun h2 => ?_) (fun h2 => ?_)
  · walk_at "s"
    intro d hd1
    rw [List.length_map] at h2
    exact kE f (.inl ⟨.inr (by omega), rfl⟩) d _ (O.new hd1)
  rw [List.length_map] at h2
  have hb : ¬ ((hd hs t).length ≠ t ∨ t < f + ws.length) := by omega
  walk_at "s"
  rw [List.length_map]
  refine i_forR2 ws.length (by omega) (by omega) (fun i σ H' => ∃ x5, σ = [some (.ref m), some (.int (f : Nat)), some (.ref wa), some (.int (t : Nat)), some (.ref hr), x5, none] ∧ (∀ j, j < i → (hd hs t)[f + j]? = some none) ∧ Own a c B H' ((m, mem A.c_Memory dm wl) :: ls)) ⟨none, rfl, fun _ h => by omega, O⟩ ?_ ?_
  · rintro i σ H2 hi ⟨x5, rfl, ha, O⟩
    have hx : f + i < (hd hs t).length := by omega
    rw [show (f : Int) + (i : Int) = ((f + i : Nat) : Int) by omega]
    have ak : atI ((hd hs t).map optV) ((f + i : Nat) : Int) = some (optV (hd hs t)[f + i]) := atI_nat (by rw [List.getElem?_map, List.getElem?_eq_getElem hx]; rfl)
    walk_at "s"
    cases hv : (hd hs t)[f + i] with
    | none =>
      refine i_nn rfl ?_
      walk_at "s"
      refine ⟨_, rfl, fun j hj => ?_, O⟩
      rcases Nat.lt_or_ge j i with q | q
      · exact ha j q
      · rw [show j = i by omega, List.getElem?_eq_getElem hx, hv]
    | some v =>
      refine i_ny (by intro z; cases z) ?_
      walk_at "s"
      intro d hd1
      exact kE (f + i) (.inr ⟨hb, i, hi, rfl, ⟨v, by rw [List.getElem?_eq_getElem hx, hv]⟩, ha⟩) d _ (O.new hd1)
  · rintro σ H2 ⟨x5, rfl, ha, O⟩
    walk_at "s"
    refine i_slO O (O.kp hh) (cut_to (by rw [List.length_map]; omega)) fun p1 H3 O => ?_
    have t1 : (((hd hs t).map optV).take f).length = f := by rw [List.length_take, List.length_map]; omega
    walk_at "s"
    have e9 : (f : Int) + ((ws.map V.int).length : Nat) = ((f + ws.length : Nat) : Int) := by rw [List.length_map]; omega
    rw [e9]
    refine i_slO ‹Own a c B _ _› (Own.kp ‹Own a c B _ _› hh) (cut_from (by rw [List.length_map]; omega)) fun p2 H4 O => ?_
    walk_at "s"
    have eN : (((hd hs t).map optV).take f ++ ws.map V.int) ++ ((hd hs t).map optV).drop (f + ws.length) = (newH hs f ws t).map optV := by
      unfold newH
      rw [List.map_append, List.map_append, List.map_take, List.map_drop, optsInts]
    rename_i w' H5 O5 H6 O
    rw [eN] at O
    obtain ⟨B2, s2, hw2, O⟩ := O.freeze
    have O := O.dropP (l0 := (m, mem A.c_Memory dm w') :: ls) (by walk_at "p")
    have hok : OkAt hs f ws.length t := ⟨hb, ha⟩
    have nl := newH_len hok
    refine ⟨⟨_, SqL.of (O.kp hw2)⟩, fun D hD => ?_⟩
    refine i_lcL ((newH hs f ws t).map optV) (fun i H' => Own a c B2 H' ((D, .lst (((newH hs f ws t).take i).map fun o => V.bl o.isSome)) :: (m, mem A.c_Memory dm w') :: ls)) (O.new hD) (fun i H' O => SqL.of (O.kp hw2)) ?_ ?_
    · rintro i v H7 hv O
      obtain ⟨o, ho, rfl⟩ := mapGet hv
      have hi := (List.getElem?_eq_some_iff.mp ho).1
      walk_at "s"
      refine ⟨_, O.mem (by walk_at "m"), szl (by rw [List.length_map, List.length_take]; omega), ?_⟩
      have O2 := O.set (p := D) (o' := .lst (((newH hs f ws t).take i).map (fun o => V.bl o.isSome) ++ [V.bl o.isSome])) .here
      rw [List.take_add_one, ho, List.map_append]
      cases o <;> exact O2
    · rintro H7 O
      rw [List.length_map, List.take_length] at O
      walk_at "s"
      refine i_all (bs := (newH hs f ws t).map Option.isSome) ?_ ?_
      · rw [List.map_map]
        exact O.mem List.mem_cons_self
      · exact kQ hok _ _ _ s2 (O.dropP (by walk_at "p")) hw2
theorem hd_nil {t : Nat} : hd [] t = List.replicate t none := rfl
theorem hd_cons {hs : List (Option Int)} {t : Nat} (h : hs ≠ []) : hd hs t = hs := if_neg h
set_option maxHeartbeats 32000000 in
theorem pure_Memory_load (A : Ad) (vs : List V) (H : Hp) (Q : VK) (E : XK) (h : sp_Memory_load A vs H Q E) : t_Memory_load A (fun cls d _ H => E cls d H) { nx := fun _ H' => Q .non H', rt := Q } (L2.start ["self", "first", "words", "total", "held", "at", "word"] vs) H := by
  obtain ⟨a, c, B, ls, m, dm, wl, wa, hs, ws, f, t, rfl, F, O, hwl, hwa, l1, l2, l3, l4, kE, kQ⟩ := h
  have F0 := F
  obtain ⟨F1, n1, ec⟩ := F
  rw [st_Memory_load]
  unfold t_Memory_load
  walk_at "s"
  refine i_d2 (fun h1 => ?_) (fun h1 => ?_)
  · rw [List.length_map] at h1
    have hne : hs ≠ [] := fun e => by
      subst e
      exact absurd h1 (by decide)
    walk_at "s1"
    walk_at "s1"
    refine i_fldO (by walk_at "h") F1 n1 (by walk_at "k") ?_
    walk_at "s1"
    exact load2_ok A F0 O (by rw [hd_cons hne]; exact hwl) hwa (by rw [hd_cons hne]; exact l1) l2 l3 l4 kE kQ
  · rw [List.length_map] at h1
    have hne : hs = [] := List.length_eq_zero_iff.mp (by omega)
    subst hne
    walk_at "s"
    rename_i p H1 O
    refine i_mul1 O (by walk_at "h") l4 fun r H2 O => ?_
    obtain ⟨B2, s2, hr, O⟩ := O.freeze
    have O := O.dropP (l0 := (m, mem A.c_Memory dm wl) :: ls) (by walk_at "p")
    walk_at "s1"
    refine load2_ok A F0 O (hs := []) (hr := r) (by rw [hd_nil, hr, List.map_replicate]; rfl) (s2 _ _ hwa) (by rw [hd_nil, List.length_replicate]; exact l4) l2 l3 l4 (fun e he d H' O => kE e he d H' (Own.weak s2 O)) fun hok wl' H' B' s O hw' => kQ hok wl' H' B' (Same.trans s2 s) O hw'
set_option maxHeartbeats 32000000 in
theorem pure_l_load (A : Ad) (vs : List V) (H : Hp) (Q : VK) (E : XK) (h : sp_l_load A vs H Q E) : t_l_load A { nx := fun _ H' => Q .non H', rt := Q } (L2.start ["_law_memory", "_law_first", "_law_words", "_law_total", "e"] vs) H := by
  obtain ⟨a, c, B, ls, m, dm, wl, wa, hs, ws, f, t, rfl, F, O, hwl, hwa, l1, l2, l3, l4, kE, kQ⟩ := h
  have F0 := F
  obtain ⟨F1, n1, ec⟩ := F
  rw [st_l_load]
  unfold t_l_load
  walk_at "s"
  refine ⟨a, c, B, ls, m, dm, wl, wa, hs, ws, f, t, rfl, F0, O, hwl, hwa, l1, l2, l3, l4, fun e he d H' O => ?_, fun hok wl' H' B' s O hw' => ?_⟩
  · refine i_was ec fun a' ha' => ?_
    walk_at "s"
    exact kE e he _ _ (Own.skipP ‹Own a c B _ _› (by walk_at "p"))
  · walk_at "s"
    exact kQ hok _ _ _ _ s ‹Own a c B' _ _› hw'
end K44
set_option Elab.async false
set_option linter.all false
set_option maxRecDepth 100000
set_option maxHeartbeats 4000000
namespace K44
open PySem PySem.Spec PyProof.Rows L2 Lb
local macro_rules | `(tactic| walk_at "pm") => `(tactic| (focus ((repeat (first | exact List.Perm.refl _ | (apply Pick.perm; (solve | repeat (first | exact Pick.here | apply Pick.there))))); done)))
local macro_rules | `(tactic| walk_at "h") => `(tactic| first | assumption | exact Own.mem (by assumption) (by walk_at "m") | exact Own.kp (by assumption) (by assumption))
local macro_rules | `(tactic| walk_at "m") => `(tactic| (focus ((repeat (first | assumption | exact List.mem_cons_self | apply List.mem_cons_of_mem)); done)))
local macro_rules | `(tactic| walk_at "u") => `(tactic| (focus ((repeat (first | exact Up1.here | apply Up1.there)); done)))
local macro_rules | `(tactic| walk_at "p") => `(tactic| (focus ((repeat (first | exact Pre.nil | apply Pre.cons)); done)))
local macro_rules | `(tactic| walk_at "f") => `(tactic| (focus ((repeat (first | exact PutF.here | exact PutF.nil | (apply PutF.there; (solve | decide +kernel)))); done)))
local macro_rules | `(tactic| walk_at "k") => `(tactic| (focus ((repeat (first | exact LkF.here rfl | exact LkF.nil rfl | refine LkF.there (by decide +kernel) ?_)); done)))
local macro_rules | `(tactic| walk_at "e") => `(tactic| (focus ((repeat (first | exact StE.nil | apply StE.app | apply StE.got | apply StE.lack)); done)))
local macro_rules | `(tactic| walk_at "d") => `(tactic| (focus ((repeat (first | exact Dt.int _ | exact Dt.str _ | exact Dt.non | exact Dt.bl _ | exact DtAll.nil | exact DtAll.ints _ | apply DtAll.cons | (apply Dt.tup; (solve | walk_at "h")) | (apply Dt.lst; (solve | walk_at "h")))); done)))
local macro_rules | `(tactic| walk_at "sh") => `(tactic| (focus ((repeat (first | exact Sh.int | exact Sh.non | exact Sh.str (by decide +kernel) | exact ShA.nil | exact ShA.ints | apply ShA.cons | apply Sh.lst | apply Sh.tup)); done)))
local macro_rules | `(tactic| walk_at "ne") => `(tactic| (apply rd_neF; (solve | walk_at "d"); (solve | walk_at "d"); (solve | exact Sh.shp (n := 4) (by walk_at "sh"))))
local macro_rules | `(tactic| walk_at "s1") => `(tactic| with_reducible first | (apply i_bm) | apply i_try | apply i_callS | apply i_methS | apply i_raiseX | (apply i_mks; (solve | assumption)) | apply i_rng3 | apply i_txf | (apply i_isX; (solve | assumption); (solve | walk_at "h")) | (apply i_xf; (solve | walk_at "h"); (solve | walk_at "k")) | (apply i_tyK; (solve | assumption)) | apply i_tyS | (apply i_ixK; (solve | assumption); (solve | assumption | with_unfolding_all rfl)) | (apply i_lenK; (solve | assumption); (exact rfl)) | (apply i_tupLN; (solve | walk_at "h")) | (apply i_var; (solve | with_unfolding_all rfl)) | apply i_cons | apply i_nil | apply i_c | apply i_op | apply i_asg | apply i_seq | apply i_gname | apply i_eqS | apply i_eqI | apply i_neS | apply i_tt | apply i_ff | (apply i_ixA; (solve | walk_at "h"); (solve | exact IxO.lst (by assumption) | exact IxO.tup (by assumption) | exact .lst (by with_unfolding_all rfl) | exact .tup (by with_unfolding_all rfl))) | apply i_bl | apply i_test | apply i_ifS | apply i_tupN | (apply i_tupO; (solve | assumption); (exact (sz (by (try simp) <;> omega))); intro p H O) | apply i_fld | (apply i_fldO; (solve | walk_at "h"); (solve | assumption); (solve | assumption); (solve | walk_at "k")) | (apply i_tB; (solve | decide +kernel)) | (apply i_fB; (solve | decide +kernel)) | apply i_ret | apply i_retN | apply i_drop | apply i_next | apply i_brk | apply i_cnt | apply i_par | apply i_par2 | apply i_fldSN | apply i_dput | apply i_un | apply i_rU | apply i_rI0 | apply i_B | apply i_tru | apply i_truB | apply i_and | apply i_or | apply i_not | apply i_andV | apply i_orV | apply i_notV | apply i_if | apply i_call | apply i_meth | apply i_makeN | apply i_cb | apply i_dnewN | apply i_lstN | apply i_bml | apply i_gsub | apply i_gcons | apply i_gnil | apply i_sl | apply i_nop | apply i_part | apply i_prt | apply i_isN | apply i_notN | apply i_yes | apply i_ntt | apply i_nff | apply i_addI | apply i_neI | apply i_intI | apply i_intB | apply i_abs | apply i_isiIB | apply i_isiNB | apply i_isiBB | apply i_dget | apply i_for | apply i_ilist | apply i_itup | apply i_rng1 | apply i_rng2 | apply i_ex1 | apply i_ex2 | apply i_exr | apply i_disp | apply i_pcons | apply i_pnil | apply i_neN | apply i_eqN | apply i_neB | apply i_eqB | apply i_lc | apply i_dnI | apply i_nyI | apply i_dnR | apply i_nyR | (apply i_lenA; (solve | walk_at "h"); (solve | first | exact .lst | exact .tup | exact .dK)) | (apply i_isL; (solve | walk_at "h")) | (apply i_isiLL; (solve | walk_at "h")) | (apply i_isiTL; (solve | walk_at "h")) | (apply i_gtup; (solve | walk_at "h"); (solve | with_unfolding_all rfl)) | (apply i_fldSO; (solve | assumption); (solve | walk_at "u"); (solve | walk_at "f"); (solve | assumption); (solve | assumption); (solve | simp); intro H O) | (apply i_lstO; (solve | assumption); (exact (sz (by (try simp) <;> omega))); intro p H O) | (apply i_makeO; (solve | assumption); intro x dx H O) | (apply i_methO; (solve | walk_at "h"); (solve | walk_at "k")) | (apply i_newO; (solve | assumption); intro p H O) | (apply i_listN; (solve | walk_at "h")) | (apply i_listTN; (solve | walk_at "h")) | (apply i_addN; (solve | walk_at "h"); (solve | walk_at "h"); (exact (sz (by (try simp) <;> omega)))) | apply i_mkd | apply i_gfld | (apply i_glst; (solve | walk_at "h"); (solve | with_unfolding_all rfl)) | apply i_isB | apply i_notB | (apply i_inO; (solve | walk_at "h"); (solve | with_unfolding_all rfl); (solve | with_unfolding_all rfl)) | (apply i_dgetI; (solve | walk_at "h"); (solve | assumption)) | (apply i_in; (solve | with_unfolding_all rfl); (solve | walk_at "e")) | (apply i_setO; (solve | assumption); (solve | walk_at "u"); (solve | with_unfolding_all rfl); intro H O) | (apply i_appO; (solve | assumption); (solve | walk_at "u"); (exact (szl (by (try simp) <;> omega))); intro H O) | (apply i_drawO; (solve | assumption); (exact rfl); (solve | decide); (solve | decide); intro r H h0 h1 O))
local macro_rules | `(tactic| walk_at "s") => `(tactic| repeat (walk_at "s1"))
def t_r45 : Ad → TS := fun A => (tSeq (tAsg (tOp rAddA (tOp rAddA (tSl rSlA (tVar 5) tNoPart (tPart (tOp rIxA (tVar 14) (tC (.int 1))))) (tOp rIxA (tVar 14) (tC (.int 2)))) (tSl rSlA (tVar 5) (tPart (tOp rAddA (tOp rIxA (tVar 14) (tC (.int 1))) (tCB rLenA (tCons (tOp rIxA (tVar 14) (tC (.int 2))) tNil)))) tNoPart)) (gName 5)) (tIfS (tOr (tTest (tOp (rNeA A.K) (tCall (sp_l_load A) [] E0 (tCons (tVar 4) (tCons (tOp rIxA (tVar 14) (tC (.int 1))) (tCons (tCB rListA (tCons (tOp rIxA (tVar 14) (tC (.int 2))) tNil)) (tCons (tOp rIxA (tVar 14) (tC (.int 3))) tNil))))) (tTup (tCons (tC (.str "")) (tCons (tOp (rIn A.K true) (tC .non) (tVar 5)) tNil))))) (tTest (tOp (rNeA A.K) (tFld A.K (tVar 4) "words") (tVar 5)))) (tRet (tC (.bl false))) tNext))
def t_body : Ad → TS := fun A => (tSeq (tFor (iRng1 (tCons (tCall spDraw [] E0 (tCons (tVar 1) (tCons (tC (.int 3)) tNil))) tNil)) (gName 9) (tSeq (tAsg (tCall (sp_l_wrong A) [] E0 (tCons (tVar 1) (tCons (tVar 2) (tCons (tVar 5) (tCons (tVar 8) tNil))))) (gTup A.K 4 (gCons (gName 10) (gCons (gName 11) (gCons (gName 12) (gCons (gName 13) gNil)))))) (tIfS (tTest (tOp (rEqA A.K) (tOp rIxA (tVar 13) (tC (.int 0))) (tC (.str "error")))) (tIfS (tOr (tTest (tOp (rNeA A.K) (tCall (sp_l_load A) [] E0 (tCons (tVar 4) (tCons (tVar 10) (tCons (tCB rListA (tCons (tVar 11) tNil)) (tCons (tVar 12) tNil))))) (tVar 13))) (tTest (tOp (rNeA A.K) (tFld A.K (tVar 4) "words") (tVar 5)))) (tRet (tC (.bl false))) tNext) tNext))) (tSeq (tAsg (tBML rPopI (tVar 6) (tCons (tCall spDraw [] E0 (tCons (tVar 1) (tCons (tCB rLenA (tCons (tVar 6) tNil)) tNil))) tNil)) (gName 14)) (tSeq (tIfS (tTest (tOp (rEqA A.K) (tVar 7) (tC (.int 0)))) (tAsg (tLc (iRng1 (tCons (tCB rLenA (tCons (tVar 2) tNil)) tNil)) (gName 9) tYes (tC .non) [9]) (gName 5)) tNext) (tSeq (tAsg (tOp rAddA (tOp rAddA (tSl rSlA (tVar 5) tNoPart (tPart (tOp rIxA (tVar 14) (tC (.int 1))))) (tOp rIxA (tVar 14) (tC (.int 2)))) (tSl rSlA (tVar 5) (tPart (tOp rAddA (tOp rIxA (tVar 14) (tC (.int 1))) (tCB rLenA (tCons (tOp rIxA (tVar 14) (tC (.int 2))) tNil)))) tNoPart)) (gName 5)) (tIfS (tOr (tTest (tOp (rNeA A.K) (tCall (sp_l_load A) [] E0 (tCons (tVar 4) (tCons (tOp rIxA (tVar 14) (tC (.int 1))) (tCons (tCB rListA (tCons (tOp rIxA (tVar 14) (tC (.int 2))) tNil)) (tCons (tOp rIxA (tVar 14) (tC (.int 3))) tNil))))) (tTup (tCons (tC (.str "")) (tCons (tOp (rIn A.K true) (tC .non) (tVar 5)) tNil))))) (tTest (tOp (rNeA A.K) (tFld A.K (tVar 4) "words") (tVar 5)))) (tRet (tC (.bl false))) tNext)))))
def t_wrong2 : Ad → TS := fun A => (tSeq (tAsg (tCall (sp_l_due A) [] E0 (tCons (tVar 2) (tCons (tVar 3) (tCons (tVar 6) (tCons (tOp rIxA (tVar 4) (tC (.int 2))) (tCons (tVar 5) tNil)))))) (gName 7)) (tRet (tTup (tCons (tVar 6) (tCons (tOp rIxA (tVar 4) (tC (.int 2))) (tCons (tVar 5) (tCons (tVar 7) tNil)))))))
theorem mapErase {α β : Type} (f : α → β) : ∀ (l : List α) (j : Nat), (l.eraseIdx j).map f = (l.map f).eraseIdx j
  | [], _ => rfl
  | _ :: _, 0 => rfl
  | x :: r, j + 1 => by
    show f x :: (r.eraseIdx j).map f = f x :: (r.map f).eraseIdx j
    rw [mapErase f r j]
theorem dtPart {H : Hp} {v : V} {img : List Int} {k : Nat} (h : Dt H v (pD img k)) : ∃ t w, v = .ref t ∧ H t = some (.tup [.str "load", .int ((8 * k : Nat) : Int), .ref w, .int (img.length : Nat)]) ∧ H w = some (.lst ((wk img k).map V.int)) := by
  cases h with
  | tup ht h1 =>
    cases h1 with
    | cons e1 h2 =>
      cases e1
      cases h2 with
      | cons e2 h3 =>
        cases e2
        cases h3 with
        | cons e3 h4 =>
          cases h4 with
          | cons e4 h5 =>
            cases e4
            cases h5
            cases e3 with
            | lst hw hd =>
              have e := dtInts hd
              subst e
              exact ⟨_, _, rfl, ht, hw⟩
set_option maxHeartbeats 32000000 in
theorem pure_l_wrong (A : Ad) (vs : List V) (H : Hp) (Q : VK) (E : XK) (h : sp_l_wrong A vs H Q E) : t_l_wrong A { nx := fun _ H' => Q .non H', rt := Q } (L2.start ["_law_state_here", "_law_image", "_law_held", "_law_size", "_law_part", "_law_total", "_law_first", "_law_due_here"] vs) H := by
  obtain ⟨a, c, B, ls, im, hl, img, hs, size, rfl, O, him, n1, n60, hh, hz, kk⟩ := h
  rw [st_l_wrong]
  show (tSeq (tAsg (tCall spPick [] E0 (tCons (tVar 0) (tCons (tCall (sp_l_parts A) [] E0 (tCons (tVar 1) tNil)) tNil))) (gName 4)) (tSeq (tAsg (tOp rAddA (tCB rLenA (tCons (tVar 1) tNil)) (tCall spDraw [] E0 (tCons (tVar 0) (tCons (tC (.int 2)) tNil)))) (gName 5)) (tSeq (tAsg (tOp rAddA (tOp rIxA (tVar 4) (tC (.int 1))) (tCall spDraw [] E0 (tCons (tVar 0) (tCons (tC (.int 9)) tNil)))) (gName 6)) (tSeq (tIfS (tTest (tOp (rI0 fun i j => .bl (decide (i < j))) (tVar 3) (tC (.int 0)))) (tAsg (tOp rAddA (tOp (rI0 fun i j => .int (i - j)) (tVar 5) (tCB rLenA (tCons (tOp rIxA (tVar 4) (tC (.int 2))) tNil))) (tC (.int 1))) (gName 6)) tNext) (t_wrong2 A))))) { nx := fun _ H' => Q .non H', rt := Q } _ H
  walk_at "s"
  refine ⟨a, c, B, ls, im, img, rfl, O, him, n60, fun p ps H1 B1 s1 O dt => ?_⟩
  have hpl := dtLen dt
  unfold psD at hpl
  rw [List.length_map, List.length_range] at hpl
  have np1 : 1 ≤ np img.length := by unfold np; omega
  have n8 := np_le n60
  walk_at "s"
  refine i_pickO O rfl List.mem_cons_self (by intro e; subst e; simp at hpl; omega) (by omega) fun v H2 hv O => ?_
  obtain ⟨i, hi⟩ := List.mem_iff_getElem?.mp hv
  obtain ⟨d, hd1, dv⟩ := dtGet dt hi
  obtain ⟨k, hk, rfl⟩ := mapGet hd1
  have hkn : 8 * k < img.length := np_lt (List.mem_range.mp (List.mem_of_getElem? hk))
  obtain ⟨t, w, rfl, ht, hw⟩ := dtPart dv
  have him1 := s1 _ _ him
  have hh1 := s1 _ _ hh
  have wl := wk_len (img := img) (k := k)
  walk_at "s"
  rename_i r H3 r0 r1 O3 r2 H4 q0 q1 O
  rw [List.length_map]
  obtain ⟨r, rfl⟩ : ∃ j : Nat, r = (j : Int) := ⟨r.toNat, by omega⟩
  obtain ⟨r2, rfl⟩ : ∃ j : Nat, r2 = (j : Int) := ⟨r2.toNat, by omega⟩
  have e1 : ((img.length : Nat) : Int) + (r : Int) = ((img.length + r : Nat) : Int) := by omega
  have e2 : ((8 * k : Nat) : Int) + (r2 : Int) = ((8 * k + r2 : Nat) : Int) := by omega
  rw [e1, e2]
  have fin : ∀ f : Nat, f ≤ 500 → t_wrong2 A { nx := fun _ H' => Q .non H', rt := Q } [some (.ref a), some (.ref im), some (.ref hl), some (.int size), some (.ref t), some (.int ((img.length + r : Nat) : Int)), some (.int (f : Nat)), none] H4 := by
    intro f hf
    unfold t_wrong2
    walk_at "s"
    refine ⟨a, c, B1, _, hl, w, hs, wk img k, size, f, img.length + r, rfl, O, hh1, hw, hz, by omega, fun ro q H5 hr O => ?_⟩
    walk_at "s"
    rename_i p9 H6 O
    obtain ⟨B2, s2, hp9, O⟩ := O.freeze
    obtain ⟨B3, s3, hq, O⟩ := O.freeze
    refine kk ro f (img.length + r) w (wk img k) p9 q _ B3 (Same.trans s1 (Same.trans s2 s3)) (O.dropP (by walk_at "p")) (s3 _ _ hp9) (s3 _ _ (s2 _ _ hw)) ?_ hr hf (by omega) (by omega)
    cases ro with
    | none => exact .tup hq (.cons (.str _) (.cons (.bl _) .nil))
    | some e => exact .tup hq (.cons (.str _) (.cons (.int _) .nil))
  walk_at "s"
  refine i_d2 (fun h0 => ?_) (fun h0 => ?_)
  · walk_at "s"
    rw [List.length_map, show ((img.length + r : Nat) : Int) - ((wk img k).length : Nat) + 1 = ((img.length + r + 1 - (wk img k).length : Nat) : Int) by omega]
    exact fin _ (by omega)
  · walk_at "s1"
    exact fin _ (by omega)
structure Inv0 (img : List Int) (im : Addr) (left : List Nat) (hs : List (Option Int)) (hl wl : Addr) (lv : List V) (B : Hp) : Prop where
  him : B im = some (.lst (img.map V.int))
  n1 : 1 ≤ img.length
  n60 : img.length ≤ 60
  nd : left.Nodup
  hb : ∀ k ∈ left, k < np img.length
  hh : hd hs img.length = heldOf img left
  hlen : hs.length ≤ 60
  dt : DtAll B lv (left.map (pD img))
  hhl : B hl = some (.lst (hs.map optV))
  hwl : B wl = some (.lst (hs.map optV))
structure Inv (A : Ad) (a c im L m dm : Addr) (img : List Int) (left : List Nat) (hs : List (Option Int)) (hl wl : Addr) (lv : List V) (B H : Hp) : Prop where
  i : Inv0 img im left hs hl wl lv B
  O : Own a c B H [(m, mem A.c_Memory dm wl), (dm, .own m), (L, .lst lv)]
theorem Inv0.mono {im hl wl : Addr} {img : List Int} {left : List Nat} {hs : List (Option Int)} {lv : List V} {B B' : Hp} (I : Inv0 img im left hs hl wl lv B) (s : Same B B') : Inv0 img im left hs hl wl lv B' :=
  ⟨s _ _ I.him, I.n1, I.n60, I.nd, I.hb, I.hh, I.hlen, DtAll.mono s I.dt, s _ _ I.hhl, s _ _ I.hwl⟩
theorem eqOpts {K : PySem.W.Frag} {H : Hp} {Q : VK} {p q : Addr} {hs : List (Option Int)} (h1 : H p = some (.lst (hs.map optV))) (h2 : H q = some (.lst (hs.map optV))) (k : Q (.bl false) H) : rNeA K (.ref p) (.ref q) H Q :=
  rd_neF (.lst h1 (dtOpts H hs)) (.lst h2 (dtOpts H hs)) (Sh.shp (n := 1) (.lst (shOpts hs))) k
set_option maxHeartbeats 32000000 in
theorem r45_ok (A : Ad) (F : CF A) {a c s im L m dm hl wl hl0 t w : Addr} {B H : Hp} {img : List Int} {left : List Nat} {hs : List (Option Int)} {lv : List V} {i j k : Nat} {tg size : Int} {x9 x10 x11 x12 x13 : Option V} {nx : L2.St → Hp → Prop} {rt : VK} {bk ct : L2.St → Hp → Prop}
    (I : Inv0 img im left hs hl wl lv B) (hk : left[j]? = some k) (O : Own a c B H [(m, mem A.c_Memory dm wl), (dm, .own m), (L, .lst (lv.eraseIdx j))]) (h0 : B hl0 = some (.lst ((hd hs img.length).map optV)))
    (ht : B t = some (.tup [.str "load", .int ((8 * k : Nat) : Int), .ref w, .int (img.length : Nat)])) (hw : B w = some (.lst ((wk img k).map V.int)))
    (hnx : ∀ H' B' left' hs' hl' wl' lv' x9 x10 x11 x12 x13 x14, Same B B' → left'.length + 1 = left.length → hs' ≠ [] → Inv A a c im L m dm img left' hs' hl' wl' lv' B' H' → nx [some (.ref s), some (.ref a), some (.ref im), some (.int tg), some (.ref m), some (.ref hl'), some (.ref L), some (.int (i : Nat)), some (.int size), x9, x10, x11, x12, x13, x14] H') :
    t_r45 A ⟨nx, rt, bk, ct⟩ [some (.ref s), some (.ref a), some (.ref im), some (.int tg), some (.ref m), some (.ref hl0), some (.ref L), some (.int (i : Nat)), some (.int size), x9, x10, x11, x12, x13, some (.ref t)] H := by
  have F0 := F
  obtain ⟨F1, n1, ec⟩ := F
  have km : k ∈ left := List.mem_of_getElem? hk
  have hkn := np_lt (I.hb k km)
  have hwl := wk_len (img := img) (k := k)
  have hok := step_ok hk I.hb I.hh
  have hne := step_new hk I.nd I.hb I.hh
  have hlen : (hd hs img.length).length = img.length := by rw [I.hh, heldOf_len]
  have n60 := I.n60
  unfold t_r45
  walk_at "s"
  refine i_slO O (O.kp h0) (cut_to (by rw [List.length_map]; omega)) fun p1 H3 O => ?_
  have t1 : (((hd hs img.length).map optV).take (8 * k)).length = 8 * k := by rw [List.length_take, List.length_map]; omega
  walk_at "s"
  have e9 : ((8 * k : Nat) : Int) + (((wk img k).map V.int).length : Nat) = ((8 * k + (wk img k).length : Nat) : Int) := by rw [List.length_map]; omega
  rw [e9]
  refine i_slO ‹Own a c B _ _› (Own.kp ‹Own a c B _ _› h0) (cut_from (by rw [List.length_map]; omega)) fun p2 H4 O => ?_
  have eN : (((hd hs img.length).map optV).take (8 * k) ++ (wk img k).map V.int) ++ ((hd hs img.length).map optV).drop (8 * k + (wk img k).length) = (newH hs (8 * k) (wk img k) img.length).map optV := by
    unfold newH
    rw [List.map_append, List.map_append, List.map_take, List.map_drop, optsInts]
  walk_at "s"
  rename_i p3 H5 O5 h' H6 O6 w2 H7 O
  rw [eN] at O
  obtain ⟨B1, s1, hw2, O⟩ := O.freeze
  obtain ⟨B2, s2, hh', O⟩ := O.freeze
  have O := O.dropP (l0 := [(m, mem A.c_Memory dm wl), (dm, .own m), (L, .lst (lv.eraseIdx j))]) (by walk_at "p")
  have hl60 := I.hlen
  refine ⟨a, c, B2, _, m, dm, wl, w2, hs, wk img k, 8 * k, img.length, rfl, F0, O, s2 _ _ (s1 _ _ I.hwl), s2 _ _ hw2, by omega, by omega, by omega, by omega, fun e he => (he.not hok).elim, fun _ p wl' H8 B3 s3 O hw' => ?_⟩
  have h3' := s3 _ _ hh'
  walk_at "s"
  refine i_niL (O.kp h3') rfl (flatOpts _) ?_
  rw [inNon]
  walk_at "s"
  rename_i p5 H9 O
  refine rd_neF (.tup (O.mem (by walk_at "m")) (.cons (.str _) (.cons (.bl _) .nil))) (.tup (O.mem List.mem_cons_self) (.cons (.str _) (.cons (.bl _) .nil))) (Sh.shp (n := 1) (.tup (.cons (.str (by decide +kernel)) (.cons .bl .nil)))) ?_
  walk_at "s"
  refine eqOpts (O.kp hw') (O.kp h3') ?_
  walk_at "s"
  have s123 := Same.trans s1 (Same.trans s2 s3)
  have nl := newH_len hok
  refine hnx _ B3 (left.eraseIdx j) _ _ wl' (lv.eraseIdx j) _ _ _ _ _ _ s123 ?_ ?_ ⟨⟨s123 _ _ I.him, I.n1, I.n60, ?_, fun z hz => I.hb z (List.mem_of_mem_eraseIdx hz), ?_, by rw [nl]; exact n60, ?_, h3', hw'⟩, O.dropP (by walk_at "p")⟩
  · rw [List.length_eraseIdx, if_pos (List.getElem?_eq_some_iff.mp hk).1]
    have := (List.getElem?_eq_some_iff.mp hk).1
    omega
  · intro e
    rw [e] at nl
    have := I.n1
    simp at nl
    omega
  · exact List.Nodup.eraseIdx _ I.nd
  · rw [hd_cons ?_]
    · exact hne
    · intro e
      rw [e] at nl
      have := I.n1
      simp at nl
      omega
  · have z := dtErase (DtAll.mono s123 I.dt) j
    rw [mapErase]
    exact z
end K44
set_option Elab.async false
set_option linter.all false
set_option maxRecDepth 100000
set_option maxHeartbeats 4000000
namespace K44
open PySem PySem.Spec PyProof.Rows L2 Lb
local macro_rules | `(tactic| walk_at "pm") => `(tactic| (focus ((repeat (first | exact List.Perm.refl _ | (apply Pick.perm; (solve | repeat (first | exact Pick.here | apply Pick.there))))); done)))
local macro_rules | `(tactic| walk_at "h") => `(tactic| first | assumption | exact Own.mem (by assumption) (by walk_at "m") | exact Own.kp (by assumption) (by assumption))
local macro_rules | `(tactic| walk_at "m") => `(tactic| (focus ((repeat (first | assumption | exact List.mem_cons_self | apply List.mem_cons_of_mem)); done)))
local macro_rules | `(tactic| walk_at "u") => `(tactic| (focus ((repeat (first | exact Up1.here | apply Up1.there)); done)))
local macro_rules | `(tactic| walk_at "p") => `(tactic| (focus ((repeat (first | exact Pre.nil | apply Pre.cons)); done)))
local macro_rules | `(tactic| walk_at "f") => `(tactic| (focus ((repeat (first | exact PutF.here | exact PutF.nil | (apply PutF.there; (solve | decide +kernel)))); done)))
local macro_rules | `(tactic| walk_at "k") => `(tactic| (focus ((repeat (first | exact LkF.here rfl | exact LkF.nil rfl | refine LkF.there (by decide +kernel) ?_)); done)))
local macro_rules | `(tactic| walk_at "e") => `(tactic| (focus ((repeat (first | exact StE.nil | apply StE.app | apply StE.got | apply StE.lack)); done)))
local macro_rules | `(tactic| walk_at "d") => `(tactic| (focus ((repeat (first | exact Dt.int _ | exact Dt.str _ | exact Dt.non | exact Dt.bl _ | exact DtAll.nil | exact DtAll.ints _ | apply DtAll.cons | (apply Dt.tup; (solve | walk_at "h")) | (apply Dt.lst; (solve | walk_at "h")))); done)))
local macro_rules | `(tactic| walk_at "sh") => `(tactic| (focus ((repeat (first | exact Sh.int | exact Sh.non | exact Sh.str (by decide +kernel) | exact ShA.nil | exact ShA.ints | apply ShA.cons | apply Sh.lst | apply Sh.tup)); done)))
local macro_rules | `(tactic| walk_at "ne") => `(tactic| (apply rd_neF; (solve | walk_at "d"); (solve | walk_at "d"); (solve | exact Sh.shp (n := 4) (by walk_at "sh"))))
local macro_rules | `(tactic| walk_at "s1") => `(tactic| with_reducible first | (apply i_bm) | apply i_try | apply i_callS | apply i_methS | apply i_raiseX | (apply i_mks; (solve | assumption)) | apply i_rng3 | apply i_txf | (apply i_isX; (solve | assumption); (solve | walk_at "h")) | (apply i_xf; (solve | walk_at "h"); (solve | walk_at "k")) | (apply i_tyK; (solve | assumption)) | apply i_tyS | (apply i_ixK; (solve | assumption); (solve | assumption | with_unfolding_all rfl)) | (apply i_lenK; (solve | assumption); (exact rfl)) | (apply i_tupLN; (solve | walk_at "h")) | (apply i_var; (solve | with_unfolding_all rfl)) | apply i_cons | apply i_nil | apply i_c | apply i_op | apply i_asg | apply i_seq | apply i_gname | apply i_eqS | apply i_eqI | apply i_neS | apply i_tt | apply i_ff | (apply i_ixA; (solve | walk_at "h"); (solve | exact IxO.lst (by assumption) | exact IxO.tup (by assumption) | exact .lst (by with_unfolding_all rfl) | exact .tup (by with_unfolding_all rfl))) | apply i_bl | apply i_test | apply i_ifS | apply i_tupN | (apply i_tupO; (solve | assumption); (exact (sz (by (try simp) <;> omega))); intro p H O) | apply i_fld | (apply i_fldO; (solve | walk_at "h"); (solve | assumption); (solve | assumption); (solve | walk_at "k")) | (apply i_tB; (solve | decide +kernel)) | (apply i_fB; (solve | decide +kernel)) | apply i_ret | apply i_retN | apply i_drop | apply i_next | apply i_brk | apply i_cnt | apply i_par | apply i_par2 | apply i_fldSN | apply i_dput | apply i_un | apply i_rU | apply i_rI0 | apply i_B | apply i_tru | apply i_truB | apply i_and | apply i_or | apply i_not | apply i_andV | apply i_orV | apply i_notV | apply i_if | apply i_call | apply i_meth | apply i_makeN | apply i_cb | apply i_dnewN | apply i_lstN | apply i_bml | apply i_gsub | apply i_gcons | apply i_gnil | apply i_sl | apply i_nop | apply i_part | apply i_prt | apply i_isN | apply i_notN | apply i_yes | apply i_ntt | apply i_nff | apply i_addI | apply i_neI | apply i_intI | apply i_intB | apply i_abs | apply i_isiIB | apply i_isiNB | apply i_isiBB | apply i_dget | apply i_for | apply i_ilist | apply i_itup | apply i_rng1 | apply i_rng2 | apply i_ex1 | apply i_ex2 | apply i_exr | apply i_disp | apply i_pcons | apply i_pnil | apply i_neN | apply i_eqN | apply i_neB | apply i_eqB | apply i_lc | apply i_dnI | apply i_nyI | apply i_dnR | apply i_nyR | (apply i_lenA; (solve | walk_at "h"); (solve | first | exact .lst | exact .tup | exact .dK)) | (apply i_isL; (solve | walk_at "h")) | (apply i_isiLL; (solve | walk_at "h")) | (apply i_isiTL; (solve | walk_at "h")) | (apply i_gtup; (solve | walk_at "h"); (solve | with_unfolding_all rfl)) | (apply i_fldSO; (solve | assumption); (solve | walk_at "u"); (solve | walk_at "f"); (solve | assumption); (solve | assumption); (solve | simp); intro H O) | (apply i_lstO; (solve | assumption); (exact (sz (by (try simp) <;> omega))); intro p H O) | (apply i_makeO; (solve | assumption); intro x dx H O) | (apply i_methO; (solve | walk_at "h"); (solve | walk_at "k")) | (apply i_newO; (solve | assumption); intro p H O) | (apply i_listN; (solve | walk_at "h")) | (apply i_listTN; (solve | walk_at "h")) | (apply i_addN; (solve | walk_at "h"); (solve | walk_at "h"); (exact (sz (by (try simp) <;> omega)))) | apply i_mkd | apply i_gfld | (apply i_glst; (solve | walk_at "h"); (solve | with_unfolding_all rfl)) | apply i_isB | apply i_notB | (apply i_inO; (solve | walk_at "h"); (solve | with_unfolding_all rfl); (solve | with_unfolding_all rfl)) | (apply i_dgetI; (solve | walk_at "h"); (solve | assumption)) | (apply i_in; (solve | with_unfolding_all rfl); (solve | walk_at "e")) | (apply i_setO; (solve | assumption); (solve | walk_at "u"); (solve | with_unfolding_all rfl); intro H O) | (apply i_appO; (solve | assumption); (solve | walk_at "u"); (exact (szl (by (try simp) <;> omega))); intro H O) | (apply i_drawO; (solve | assumption); (exact rfl); (solve | decide); (solve | decide); intro r H h0 h1 O))
local macro_rules | `(tactic| walk_at "s") => `(tactic| repeat (walk_at "s1"))
set_option maxHeartbeats 32000000 in
theorem body_ok (A : Ad) (F : CF A) {a c s im L m dm hl wl : Addr} {B H : Hp} {img : List Int} {left : List Nat} {hs : List (Option Int)} {lv : List V} {i : Nat} {tg size : Int} {x9 x10 x11 x12 x13 x14 : Option V} {nx : L2.St → Hp → Prop} {rt : VK} {bk ct : L2.St → Hp → Prop}
    (I : Inv0 img im left hs hl wl lv B) (O : Own a c B H [(m, mem A.c_Memory dm wl), (dm, .own m), (L, .lst lv)]) (hz : SzOk hs size) (hi : (i = 0 ∧ hs = []) ∨ (1 ≤ i ∧ hs ≠ [])) (hleft : left ≠ [])
    (hnx : ∀ H' B' left' hs' hl' wl' lv' x9 x10 x11 x12 x13 x14, Same B B' → left'.length + 1 = left.length → hs' ≠ [] → Inv A a c im L m dm img left' hs' hl' wl' lv' B' H' → nx [some (.ref s), some (.ref a), some (.ref im), some (.int tg), some (.ref m), some (.ref hl'), some (.ref L), some (.int (i : Nat)), some (.int size), x9, x10, x11, x12, x13, x14] H') :
    t_body A ⟨nx, rt, bk, ct⟩ [some (.ref s), some (.ref a), some (.ref im), some (.int tg), some (.ref m), some (.ref hl), some (.ref L), some (.int (i : Nat)), some (.int size), x9, x10, x11, x12, x13, x14] H := by
  have F0 := F
  obtain ⟨F1, n1, ec⟩ := F
  show (tSeq (tFor (iRng1 (tCons (tCall spDraw [] E0 (tCons (tVar 1) (tCons (tC (.int 3)) tNil))) tNil)) (gName 9) (tSeq (tAsg (tCall (sp_l_wrong A) [] E0 (tCons (tVar 1) (tCons (tVar 2) (tCons (tVar 5) (tCons (tVar 8) tNil))))) (gTup A.K 4 (gCons (gName 10) (gCons (gName 11) (gCons (gName 12) (gCons (gName 13) gNil)))))) (tIfS (tTest (tOp (rEqA A.K) (tOp rIxA (tVar 13) (tC (.int 0))) (tC (.str "error")))) (tIfS (tOr (tTest (tOp (rNeA A.K) (tCall (sp_l_load A) [] E0 (tCons (tVar 4) (tCons (tVar 10) (tCons (tCB rListA (tCons (tVar 11) tNil)) (tCons (tVar 12) tNil))))) (tVar 13))) (tTest (tOp (rNeA A.K) (tFld A.K (tVar 4) "words") (tVar 5)))) (tRet (tC (.bl false))) tNext) tNext))) (tSeq (tAsg (tBML rPopI (tVar 6) (tCons (tCall spDraw [] E0 (tCons (tVar 1) (tCons (tCB rLenA (tCons (tVar 6) tNil)) tNil))) tNil)) (gName 14)) (tSeq (tIfS (tTest (tOp (rEqA A.K) (tVar 7) (tC (.int 0)))) (tAsg (tLc (iRng1 (tCons (tCB rLenA (tCons (tVar 2) tNil)) tNil)) (gName 9) tYes (tC .non) [9]) (gName 5)) tNext) (t_r45 A)))) ⟨nx, rt, bk, ct⟩ [some (.ref s), some (.ref a), some (.ref im), some (.int tg), some (.ref m), some (.ref hl), some (.ref L), some (.int (i : Nat)), some (.int size), x9, x10, x11, x12, x13, x14] H
  walk_at "s"
  rename_i r H1 r0 r1 O
  obtain ⟨r, rfl⟩ : ∃ j : Nat, r = (j : Int) := ⟨r.toNat, by omega⟩
  refine i_forR r (by omega) (by omega) (fun i' σ H' => ∃ B' x9 x10 x11 x12 x13, σ = [some (.ref s), some (.ref a), some (.ref im), some (.int tg), some (.ref m), some (.ref hl), some (.ref L), some (.int (i : Nat)), some (.int size), x9, x10, x11, x12, x13, x14] ∧ Same B B' ∧ Own a c B' H' [(m, mem A.c_Memory dm wl), (dm, .own m), (L, .lst lv)]) ⟨B, x9, x10, x11, x12, x13, rfl, Same.refl _, O⟩ ?_ ?_
  · rintro i' σ H2 hi' ⟨B', x9, x10, x11, x12, x13, rfl, s1, O⟩
    walk_at "s"
    refine ⟨a, c, B', _, im, hl, img, hs, size, rfl, O, s1 _ _ I.him, I.n1, I.n60, s1 _ _ I.hhl, hz, fun ro f t wa ws p q H3 B2 s2 O hp hwa dq hr f5 t5 w8 => ?_⟩
    have hl60 := I.hlen
    cases ro with
    | none =>
      cases dq with
      | tup hq dq2 =>
        cases dq2 with
        | cons e1 e2 =>
          cases e1
          cases e2 with
          | cons e3 e4 =>
          cases e3
          cases e4
          walk_at "s"
          exact ⟨B2, _, _, _, _, _, rfl, Same.trans s1 s2, O⟩
    | some e =>
      cases dq with
      | tup hq dq2 =>
        cases dq2 with
        | cons e1 e2 =>
          cases e1
          cases e2 with
          | cons e3 e4 =>
            cases e3
            cases e4
            walk_at "s"
            rename_i w2 H4 O
            obtain ⟨B3, s3, hw2, O⟩ := O.freeze
            have s13 := Same.trans s1 (Same.trans s2 s3)
            refine ⟨a, c, B3, _, m, dm, wl, w2, hs, ws, f, t, rfl, F0, O, s13 _ _ I.hwl, hw2, by omega, by omega, by omega, by omega, fun e' he p5 H5 O => ?_, fun hok => ((hr e rfl).not hok).elim⟩
            have ee := he.uniq (hr e rfl)
            subst ee
            have hq3 := s3 _ _ hq
            walk_at "s"
            refine rd_neF (.tup (O.mem List.mem_cons_self) (.cons (.str _) (.cons (.int _) .nil))) (.tup (O.kp hq3) (.cons (.str _) (.cons (.int _) .nil))) (Sh.shp (n := 1) (.tup (.cons (.str (by decide +kernel)) (.cons .int .nil)))) ?_
            walk_at "s"
            refine eqOpts (O.kp (s13 _ _ I.hwl)) (O.kp (s13 _ _ I.hhl)) ?_
            walk_at "s"
            exact ⟨B3, _, _, _, _, _, rfl, s13, O.dropP (by walk_at "p")⟩
  · rintro σ H2 ⟨B', x9, x10, x11, x12, x13, rfl, s1, O⟩
    have hpl := dtLen I.dt
    rw [List.length_map] at hpl
    have l1 : 1 ≤ left.length := by
      cases left with
      | nil => exact (hleft rfl).elim
      | cons x r => simp
    have hbl : left.length ≤ 100 := by
      have h1 := List.Nodup.length_le_of_subset I.nd (l₂ := List.range (np img.length)) fun z hz => List.mem_range.mpr (I.hb z hz)
      have h2 := np_le I.n60
      rw [List.length_range] at h1
      omega
    walk_at "s"
    refine i_drawO O rfl (by omega) (by omega) fun j0 H3 j1 j2 O => ?_
    obtain ⟨j, rfl⟩ : ∃ j : Nat, j0 = (j : Int) := ⟨j0.toNat, by omega⟩
    have hj : j < left.length := by omega
    obtain ⟨v, hv, dv⟩ := dtAt I.dt (i := j) (d := pD img left[j]) (by rw [List.getElem?_map, List.getElem?_eq_getElem hj]; rfl)
    obtain ⟨t, w, rfl, ht, hw⟩ := dtPart dv
    walk_at "s"
    refine i_popIO O (by walk_at "u") rfl (by omega) hv fun H4 O => ?_
    have hk : left[j]? = some left[j] := List.getElem?_eq_getElem hj
    walk_at "s"
    refine i_d2 (fun h0 => ?_) (fun h0 => ?_)
    · have hs0 : hs = [] := by
        rcases hi with ⟨_, e⟩ | ⟨e, _⟩
        · exact e
        · omega
      subst hs0
      have him' := s1 _ _ I.him
      have n60 := I.n60
      walk_at "s"
      refine ⟨by rw [List.length_map]; omega, by rw [List.length_map]; omega, fun D hD => ?_⟩
      refine i_lcR img.length (by rw [List.length_map]) (fun i2 H' => Own a c B' H' ((D, .lst (List.replicate i2 .non)) :: [(m, mem A.c_Memory dm wl), (dm, .own m), (L, .lst (lv.eraseIdx j))])) (O.new hD) ?_ ?_
      · rintro i2 H5 hi2 O
        walk_at "s"
        refine ⟨_, O.mem (by walk_at "m"), szl (by simp; omega), ?_⟩
        have O2 := O.set (p := D) (o' := .lst (List.replicate i2 .non ++ [.non])) .here
        rw [List.replicate_succ']
        exact O2
      · rintro H5 O
        obtain ⟨B2, s2, hD2, O⟩ := O.freeze
        have s12 := Same.trans s1 s2
        walk_at "s1"
        exact r45_ok A F0 (I.mono s12) hk O (by rw [hd_nil, hD2, List.map_replicate]; rfl) (s12 _ _ ht) (s12 _ _ hw) fun H' B3 left' hs' hl' wl' lv' x9 x10 x11 x12 x13 x14 s3 => hnx H' B3 left' hs' hl' wl' lv' x9 x10 x11 x12 x13 x14 (Same.trans s12 s3)
    · have hs0 : hs ≠ [] := by
        rcases hi with ⟨e, _⟩ | ⟨_, e⟩
        · omega
        · exact e
      walk_at "s1"
      exact r45_ok A F0 (I.mono s1) hk O (by rw [hd_cons hs0]; exact s1 _ _ I.hhl) (s1 _ _ ht) (s1 _ _ hw) fun H' B3 left' hs' hl' wl' lv' x9 x10 x11 x12 x13 x14 s3 => hnx H' B3 left' hs' hl' wl' lv' x9 x10 x11 x12 x13 x14 (Same.trans s1 s3)
set_option maxHeartbeats 32000000 in
theorem pure_law (A : Ad) (vs : List V) (H : Hp) (Q : VK) (E : XK) (h : sp_law A vs H Q E) : t_law A { nx := fun _ H' => Q .non H', rt := Q } (L2.start ["_law_script", "_law_state_here", "_law_image", "_law_target", "_law_memory", "_law_held", "_law_left", "_law_turn", "_law_size", "_law_k", "_law_first", "_law_words", "_law_total", "_law_due_here", "_law_part"] vs) H := by
  obtain ⟨s, ns, rfl, hS, hl, F, kQ⟩ := h
  have F0 := F
  obtain ⟨F1, n1, ec⟩ := F
  rw [st_law]
  show (tSeq (tAsg (tCall (spState A.K) [] E0 (tCons (tVar 0) tNil)) (gName 1)) (tSeq (tAsg (tLc (iRng1 (tCons (tOp rAddA (tC (.int 1)) (tCall spDraw [] E0 (tCons (tVar 1) (tCons (tC (.int 60)) tNil)))) tNil)) (gName 9) tYes (tCall spDraw [] E0 (tCons (tVar 1) (tCons (tC (.int 65536)) tNil))) [9]) (gName 2)) (tSeq (tAsg (tCall spDraw [] E0 (tCons (tVar 1) (tCons (tC (.int 6)) tNil))) (gName 3)) (tSeq (tIfS (tTest (tOp (rNeA A.K) (tCall (sp_packets A) [] E0 (tCons (tVar 3) (tCons (tVar 2) tNil))) (tLc (iList A.K (tCall (sp_l_parts A) [] E0 (tCons (tVar 2) tNil))) (gName 14) tYes (tTup (tCons (tVar 3) (tCons (tVar 14) tNil))) [14]))) (tRet (tC (.bl false))) tNext) (tSeq (tAsg (tMake A.c_Memory (sp_Memory_init A) [] E0 tNil) (gName 4)) (tSeq (tAsg (tLst tNil) (gName 5)) (tSeq (tAsg (tCall (sp_l_parts A) [] E0 (tCons (tVar 2) tNil)) (gName 6)) (tSeq (tFor (iRng1 (tCons (tCB rLenA (tCons (tVar 6) tNil)) tNil)) (gName 7) (tSeq (tAsg (tIf (tTest (tOp (rI0 fun i j => .bl (decide (j < i))) (tVar 7) (tC (.int 0)))) (tCB rLenA (tCons (tVar 5) tNil)) (tUn (rU fun i => .int (-i)) (tC (.int 1)))) (gName 8)) (t_body A))) (tRet (tOp (rEqA A.K) (tFld A.K (tVar 4) "words") (tVar 2))))))))))) { nx := fun _ H' => Q .non H', rt := Q } _ H
  walk_at "s"
  refine ⟨s, ns, rfl, hS, hl, fun H1 a c sm R na nc => ?_⟩
  have O := Own.start R
  generalize hid [a, c] H1 = B at O
  walk_at "s"
  rename_i r H2 h0 h1 O
  obtain ⟨n0, rfl⟩ : ∃ j : Nat, r = (j : Int) := ⟨r.toNat, by omega⟩
  refine ⟨by omega, by omega, fun im him0 => ?_⟩
  refine i_lcR (1 + n0) (by omega) (fun i H' => ∃ ws : List Int, ws.length = i ∧ Own a c B H' [(im, .lst (ws.map V.int))]) ⟨[], rfl, O.new him0⟩ ?_ ?_
  · rintro i H3 hi ⟨ws, hwl, O⟩
    walk_at "s"
    rename_i w H4 w0 w1 O
    refine ⟨_, O.mem (by walk_at "m"), szl (by simp; omega), ws ++ [w], by simp [hwl], ?_⟩
    have O2 := O.set (p := im) (o' := .lst (ws.map V.int ++ [V.int w])) .here
    rw [List.map_append]
    exact O2
  rintro H3 ⟨img, hil, O⟩
  obtain ⟨B1, s1, him, O⟩ := O.freeze
  clear s1
  have i1 : 1 ≤ img.length := by omega
  have i60 : img.length ≤ 60 := by omega
  have n8 := np_le i60
  have np1 : 1 ≤ np img.length := by unfold np; omega
  walk_at "s"
  rename_i tg H4 g0 g1 O
  refine ⟨a, c, B1, [], im, img, tg, rfl, O, him, i60, fun p1 ps1 H5 B2 s2 O dt1 => ?_⟩
  have him2 := s2 _ _ him
  walk_at "s"
  refine ⟨a, c, B2, _, im, img, rfl, O, him2, i60, fun p2 ps2 H6 B3 s3 O dt2 => ?_⟩
  obtain ⟨B4, s4, hp2, O⟩ := O.freeze
  have dt2 := DtAll.mono s4 dt2
  have him4 := s4 _ _ (s3 _ _ him2)
  have pl2 := dtLen dt2
  unfold psD at pl2
  rw [List.length_map, List.length_range] at pl2
  refine ⟨_, rfl, ⟨_, SqL.of (O.kp hp2)⟩, fun D hD => ?_⟩
  refine i_lcL ps2 (fun i H' => ∃ B' qs, Same B4 B' ∧ DtAll B' qs (((psD img).take i).map fun d => .tuple [.int tg, d]) ∧ Own a c B' H' ((D, .lst qs) :: [(p1, .lst ps1)])) ⟨B4, [], Same.refl _, .nil, O.new hD⟩ (fun i H' ⟨_, _, s5, _, O⟩ => SqL.of (O.kp (s5 _ _ hp2))) ?_ ?_
  · rintro i v H7 hv ⟨B5, qs, s5, dq, O⟩
    obtain ⟨d, hd1, dv⟩ := dtGet dt2 hv
    have hql := dtLen dq
    rw [List.length_map, List.length_take] at hql
    have hi8 := (List.getElem?_eq_some_iff.mp hv).1
    walk_at "s"
    rename_i t H8 O
    obtain ⟨B6, s6, ht, O⟩ := O.freeze
    refine ⟨_, O.mem (by walk_at "m"), szl (by omega), B6, qs ++ [.ref t], Same.trans s5 s6, ?_, O.set .here⟩
    rw [List.take_add_one, hd1, List.map_append]
    exact dtSnoc (DtAll.mono s6 dq) (.tup ht (.cons (.int _) (.cons (Dt.mono (Same.trans s5 s6) dv) .nil)))
  rintro H7 ⟨B5, qs, s5, dq, O⟩
  have hpl : ps2.length = (psD img).length := dtLen dt2
  rw [hpl, List.take_length] at dq
  have s25 := Same.trans s3 (Same.trans s4 s5)
  refine rd_neF (.lst (O.mem (by walk_at "m")) (DtAll.mono O.keep (DtAll.mono s25 dt1))) (.lst (O.mem List.mem_cons_self) (DtAll.mono O.keep dq)) (Sh.shp (n := 4) (.lst (.all fun d hd => ?_))) ?_
  · obtain ⟨d', hd', rfl⟩ := List.mem_map.mp hd
    unfold psD at hd'
    obtain ⟨k, _, rfl⟩ := List.mem_map.mp hd'
    exact .tup (.cons .int (.cons (Sh.mono shP (by decide)) .nil))
  have O := O.dropP (l0 := []) (by walk_at "p")
  have him5 := s25 _ _ him2
  walk_at "s"
  rename_i m dm H8 O8 wl H9 O9 H10 O10 hl0 H11 O
  refine ⟨a, c, B5, _, im, img, rfl, O, him5, i60, fun L lv H12 B6 s6 O dt => ?_⟩
  have O := O.perm (ls' := [(hl0, .lst []), (wl, .lst []), (m, mem A.c_Memory dm wl), (dm, .own m), (L, .lst lv)]) (by walk_at "pm")
  obtain ⟨B7, s7, hhl, O⟩ := O.freeze
  obtain ⟨B8, s8, hwl, O⟩ := O.freeze
  have s78 := Same.trans s7 s8
  have dt8 := DtAll.mono s78 dt
  have him8 := s78 _ _ (s6 _ _ him5)
  have lvl := dtLen dt8
  unfold psD at lvl dt8
  rw [List.length_map, List.length_range] at lvl
  walk_at "s"
  rw [lvl]
  refine i_forR (np img.length) rfl (by omega) (fun i σ H' => ∃ B' left hs hl wl lv x7 x8 x9 x10 x11 x12 x13 x14, σ = [some (.ref s), some (.ref a), some (.ref im), some (.int tg), some (.ref m), some (.ref hl), some (.ref L), x7, x8, x9, x10, x11, x12, x13, x14] ∧ left.length + i = np img.length ∧ ((i = 0 ∧ hs = []) ∨ (1 ≤ i ∧ hs ≠ [])) ∧ Inv A a c im L m dm img left hs hl wl lv B' H')
    ⟨B8, List.range (np img.length), [], hl0, wl, lv, none, none, none, none, none, none, none, none, rfl, by simp, .inl ⟨rfl, rfl⟩, ⟨him8, i1, i60, List.nodup_range, fun k hk => List.mem_range.mp hk, by rw [hd_nil, heldOf_all], by simp, dt8, s8 _ _ hhl, hwl⟩, O⟩ ?_ ?_
  · rintro i σ H13 hi ⟨B', left, hs, hl, wl, lv, x7, x8, x9, x10, x11, x12, x13, x14, rfl, hli, hor, I⟩
    have hle : left ≠ [] := fun e => by
      subst e
      simp at hli
      omega
    have O := I.O
    have hhl' := I.i.hhl
    walk_at "s"
    refine i_d2 (fun h0 => ?_) (fun h0 => ?_)
    · walk_at "s"
      refine body_ok A F0 I.i O (.inr ⟨by rw [List.length_map], ?_⟩) hor hle fun H' B'' left' hs' hl' wl' lv' x9 x10 x11 x12 x13 x14 s9 hl9 hne I9 => ⟨B'', left', hs', hl', wl', lv', _, _, x9, x10, x11, x12, x13, x14, rfl, by omega, .inr ⟨by omega, hne⟩, I9⟩
      rcases hor with ⟨e, _⟩ | ⟨_, e⟩
      · omega
      · exact e
    · walk_at "s"
      refine body_ok A F0 I.i O (.inl ⟨rfl, ?_⟩) hor hle fun H' B'' left' hs' hl' wl' lv' x9 x10 x11 x12 x13 x14 s9 hl9 hne I9 => ⟨B'', left', hs', hl', wl', lv', _, _, x9, x10, x11, x12, x13, x14, rfl, by omega, .inr ⟨by omega, hne⟩, I9⟩
      rcases hor with ⟨_, e⟩ | ⟨e, _⟩
      · exact e
      · omega
  · rintro σ H13 ⟨B', left, hs, hl, wl, lv, x7, x8, x9, x10, x11, x12, x13, x14, rfl, hli, hor, I⟩
    have hle : left = [] := List.length_eq_zero_iff.mp (by omega)
    subst hle
    have hne : hs ≠ [] := by
      rcases hor with ⟨e, _⟩ | ⟨_, e⟩
      · omega
      · exact e
    have hh := I.i.hh
    rw [hd_cons hne, heldOf_nil] at hh
    have hwl' := I.i.hwl
    rw [hh, optsInts] at hwl'
    have O := I.O
    have him' := I.i.him
    walk_at "s"
    exact rd_eqT (.lst (O.kp hwl') (DtAll.ints _)) (.lst (O.kp him') (DtAll.ints _)) (Sh.shp (n := 1) (.lst .ints)) (kQ _)
end K44
set_option Elab.async false
set_option linter.all false
set_option maxRecDepth 100000
set_option maxHeartbeats 4000000
namespace K44
open PySem PySem.Spec PyProof.Rows L2 Lb
def top (i : Nat) : Stmt := PySem.Challenge.pw_placedanyhow_k44_parts_of_images.main.body.getD i (.Pass ⟨0, 0, 0, 0⟩)
structure Tx (K : PySem.W.Frag) (mg : Str → Option Value) (A : Ad) : Prop where
  k : A.K = K
  g_CodeError : GV mg "CodeError" (.ref A.c_CodeError)
  h_CodeError : mg "CodeError" = some (.ref A.c_CodeError)
  g_PlacedError : GV mg "PlacedError" (.ref A.c_PlacedError)
  h_PlacedError : mg "PlacedError" = some (.ref A.c_PlacedError)
  b_abs : mg "abs" = none
  b_all : mg "all" = none
  b_int : mg "int" = none
  b_isinstance : mg "isinstance" = none
  b_len : mg "len" = none
  b_list : mg "list" = none
  b_range : mg "range" = none
  g_PART : GV mg "PART" (.int 8)
section
variable {P : Program} {w : World} {K : PySem.W.Frag} {mg : Str → Option Value} {base : Heap}
abbrev s_CodeError_init : Stmt := inClass (top 2) 0
theorem sc_CodeError_init : FnScope ["self", "at"] ["self", "at"] (defScope s_CodeError_init) := ⟨rfl, rfl, rfl, by decide +kernel, rfl, by decide +kernel, by decide +kernel⟩
theorem ok_CodeError_init {A : Ad} (T : Tx K mg A) (TE : EC A.K A.c_CodeError A.c_PlacedError A.i_CodeError "at") {fd : FuncData} (F : FunD K "__init__" "CodeError.__init__" (defArgs s_CodeError_init) (defBody s_CodeError_init) (defScope s_CodeError_init) [] [] A.i_CodeError fd) : FnOk P w K mg base CX0 1 A.i_CodeError fd ["self", "at"] (spExi A.K A.c_CodeError A.c_PlacedError A.i_CodeError "at") := by
  obtain rfl := T.k
  refine F.ok sc_CodeError_init (fun vs H Q E h => len_exi h) (fun cdv Ar outer s H vs Q E hr h => ⟨t_exi A.K "at" "invalid code", PSs.nox ?_, pure_exi h⟩)
  exact (pss_cons (ps_expr (pe_exinit TE (by rfl) T.h_PlacedError (pa_cons (pv 0) (pa_cons pe_str pa_nil)))) (pss_one (ps_ost (pv 0) (pv 1))))
abbrev s_packets : Stmt := top 5
theorem sc_packets : FnScope ["target", "image", "found", "first"] ["target", "image"] (defScope s_packets) := ⟨rfl, rfl, rfl, by decide +kernel, rfl, by decide +kernel, by decide +kernel⟩
set_option maxHeartbeats 4000000 in
theorem ok_packets {A : Ad} (T : Tx K mg A) {f : Addr} {fd : FuncData} (F : FunD K "packets" "packets" (defArgs s_packets) (defBody s_packets) (defScope s_packets) [] [] f fd) : FnOk P w K mg base CX0 (1) f fd ["target", "image"] (sp_packets A) := by
  obtain rfl := T.k
  refine F.ok sc_packets (fun vs H Q E h => len_packets A h) (fun cdv Ar outer s H vs Q E hr h => ⟨t_packets A, PSs.nox ?_, pure_packets A vs H Q E h⟩)
  exact (pss_cons (ps_set (i := 2) sc_packets.nd rfl (Or.inl rfl) (pe_lst pa_nil)) (pss_cons (ps_for PassesOwn.never rfl (pi_range3 (by rfl) T.b_range (pa_cons pe_int (pa_cons (pe_callB call_lenA (by rfl) T.b_len (by decide +kernel) (pa_cons (pv 1) pa_nil)) (pa_cons (pe_gv T.g_PART (by rfl)) pa_nil)))) (pg_name (i := 3) sc_packets.nd rfl (Or.inl rfl)) (pss_one (ps_expr (pe_bml PySem.F.slot_list_append PySem.F.type_list_append mt_appA (pv 2) (pa_cons (pe_tup (pa_cons (pv 0) (pa_cons (pe_tup (pa_cons pe_str (pa_cons (pv 3) (pa_cons (pe_slice sl_A (pv 1) (po_some (pv 3)) (po_some (pe_op op_addA (pv 3) (pe_gv T.g_PART (by rfl))))) (pa_cons (pe_callB call_lenA (by rfl) T.b_len (by decide +kernel) (pa_cons (pv 1) pa_nil)) pa_nil))))) pa_nil))) pa_nil))))) (pss_one (ps_ret (pv 2)))))
abbrev s_Memory_init : Stmt := inClass (top 6) 0
theorem sc_Memory_init : FnScope ["self"] ["self"] (defScope s_Memory_init) := ⟨rfl, rfl, rfl, by decide +kernel, rfl, by decide +kernel, by decide +kernel⟩
set_option maxHeartbeats 4000000 in
theorem ok_Memory_init {A : Ad} (T : Tx K mg A) {f : Addr} {fd : FuncData} (F : FunD K "__init__" "Memory.__init__" (defArgs s_Memory_init) (defBody s_Memory_init) (defScope s_Memory_init) [] [] f fd) : FnOk P w K mg base CX0 (1) f fd ["self"] (sp_Memory_init A) := by
  obtain rfl := T.k
  refine F.ok sc_Memory_init (fun vs H Q E h => len_Memory_init A h) (fun cdv Ar outer s H vs Q E hr h => ⟨t_Memory_init A, PSs.nox ?_, pure_Memory_init A vs H Q E h⟩)
  exact (pss_one (ps_fld (pv 0) (pe_lst pa_nil) rfl))
abbrev s_Memory_load : Stmt := inClass (top 6) 1
theorem sc_Memory_load : FnScope ["self", "first", "words", "total", "held", "at", "word"] ["self", "first", "words", "total"] (defScope s_Memory_load) := ⟨rfl, rfl, rfl, by decide +kernel, rfl, by decide +kernel, by decide +kernel⟩
set_option maxHeartbeats 4000000 in
theorem ok_Memory_load {A : Ad} (T : Tx K mg A) {f : Addr} {fd : FuncData} (F : FunD K "load" "Memory.load" (defArgs s_Memory_load) (defBody s_Memory_load) (defScope s_Memory_load) [] [] f fd)
    (c_CodeError : CalE P w K mg base "CodeError" A.c_CodeError A.c_PlacedError A.i_CodeError "at" 1 ["self", "at"]) : FnOk P w K mg base (L2.CX P w) (3) f fd ["self", "first", "words", "total"] (sp_Memory_load A) := by
  obtain rfl := T.k
  refine F.ok sc_Memory_load (fun vs H Q E h => len_Memory_load A h) (fun cdv Ar outer s H vs Q E hr h => ⟨t_Memory_load A (fun cls d _ H => E cls d H), ?_, pure_Memory_load A vs H Q E h⟩)
  exact (pss_cons (ps_set (i := 4) sc_Memory_load.nd rfl (Or.inl rfl) (pe_ifExp (pt_cmpR op_gt (pe_callB call_lenA (by rfl) T.b_len (by decide +kernel) (pa_cons (pe_fld (pv 0) rfl) pa_nil)) pe_int (nomark _)) (pe_fld (pv 0) rfl) (pe_op op_mulA (pe_lst (pa_cons pe_non pa_nil)) (pv 3)))) (pss_cons (ps_if (PW.pt (pw_or (pt_cmpR (op_neA hr.units) (pe_callB call_lenA (by rfl) T.b_len (by decide +kernel) (pa_cons (pv 4) pa_nil)) (pv 3) (nomark _)) (pw_or1 (pt_cmpR op_gt (pe_op op_addA (pv 1) (pe_callB call_lenA (by rfl) T.b_len (by decide +kernel) (pa_cons (pv 2) pa_nil))) (pv 3) (nomark _))))) (pss_one (ps_raiseX rfl (takes_of rfl rfl rfl rfl) c_CodeError (hr.mono (by omega)) (by rfl) (pv 1))) pss_nil) (pss_cons (ps_for (passes_of rfl) rfl (pi_range2 (by rfl) T.b_range (pa_cons (pv 1) (pa_cons (pe_op op_addA (pv 1) (pe_callB call_lenA (by rfl) T.b_len (by decide +kernel) (pa_cons (pv 2) pa_nil))) pa_nil))) (pg_name (i := 5) sc_Memory_load.nd rfl (Or.inl rfl)) (pss_one (ps_if (pt_cmpR op_notNA (pe_ix ix_A (pv 4) (pv 5) (fun _ _ => rfl)) pe_non (nomark _)) (pss_one (ps_raiseX rfl (takes_of rfl rfl rfl rfl) c_CodeError (hr.mono (by omega)) (by rfl) (pv 5))) pss_nil))) (pss_cons (ps_fld (pv 0) (pe_op op_addA (pe_op op_addA (pe_slice sl_A (pv 4) po_none (po_some (pv 1))) (pe_callTy call_listA (by rfl) T.b_list (by decide +kernel) (pa_cons (pv 2) pa_nil))) (pe_slice sl_A (pv 4) (po_some (pe_op op_addA (pv 1) (pe_callB call_lenA (by rfl) T.b_len (by decide +kernel) (pa_cons (pv 2) pa_nil)))) po_none)) rfl) (pss_one (ps_ret (pe_callB (cr_all rfl) (by rfl) T.b_all (by decide +kernel) (pa_cons (pe_lc (own := [("word", 6)]) rfl sc_Memory_load.nd (pi_list (pe_fld (pv 0) rfl)) (blkOk_by (own := [("word", 6)]) (N := ["self", "first", "words", "total", "held", "at", "word"]) (sc := defScope s_Memory_load) (by decide +kernel)) (fun _ _ _ _ _ => (pg_name (i := 6) sc_Memory_load.nd rfl (Or.inl rfl))) (fun _ _ _ _ _ => pts_nil) (fun _ _ _ _ _ => (pe_cmpR op_notNA (pv 6) pe_non (nomark _)))) pa_nil))))))))
abbrev s_l_state : Stmt := top 8
theorem sc_l_state : FnScope ["_law_script", "_law_seed", "_law_cell"] ["_law_script"] (defScope s_l_state) := ⟨rfl, rfl, rfl, by decide +kernel, rfl, by decide +kernel, by decide +kernel⟩
set_option maxHeartbeats 4000000 in
theorem ok_l_state {A : Ad} (T : Tx K mg A) {f : Addr} {fd : FuncData} (F : FunD K "_law_state" "_law_state" (defArgs s_l_state) (defBody s_l_state) (defScope s_l_state) [] [] f fd) : FnOk P w K mg base CX0 (1) f fd ["_law_script"] (spState A.K) := by
  obtain rfl := T.k
  refine F.ok sc_l_state (fun vs H Q E h => len_state h) (fun cdv Ar outer s H vs Q E hr h => ⟨t_state A.K, PSs.nox ?_, pure_state A.K vs H Q E h rfl⟩)
  exact (pss_cons (ps_set (i := 1) sc_l_state.nd rfl (Or.inl rfl) pe_int) (pss_cons (ps_for PassesOwn.never rfl (pi_list (pv 0)) (pg_name (i := 2) sc_l_state.nd rfl (Or.inl rfl)) (pss_one (ps_set (i := 1) sc_l_state.nd rfl (Or.inl rfl) (pe_op op_mod (pe_callTy call_intA (by rfl) T.b_int (by decide +kernel) (pa_cons (pe_op op_addA (pe_op op_mulA (pv 1) pe_int) (pv 2)) pa_nil)) pe_int)))) (pss_one (ps_ret (pe_lst (pa_cons (pe_lc (own := [("_law_cell", 2)]) rfl sc_l_state.nd (pi_list (pv 0)) (blkOk_by (own := [("_law_cell", 2)]) (N := ["_law_script", "_law_seed", "_law_cell"]) (sc := defScope s_l_state) (by decide +kernel)) (fun _ _ _ _ _ => (pg_name (i := 2) sc_l_state.nd rfl (Or.inl rfl))) (fun _ _ _ _ _ => pts_nil) (fun _ _ _ _ _ => (pe_callB call_absA (by rfl) T.b_abs (by decide +kernel) (pa_cons (pv 2) pa_nil)))) (pa_cons (pe_op op_addA (pv 1) pe_int) pa_nil)))))))
abbrev s_l_draw : Stmt := top 9
theorem sc_l_draw : FnScope ["_law_state_here", "_law_many", "_law_cells", "_law_number", "_law_mixed"] ["_law_state_here", "_law_many"] (defScope s_l_draw) := ⟨rfl, rfl, rfl, by decide +kernel, rfl, by decide +kernel, by decide +kernel⟩
set_option maxHeartbeats 4000000 in
theorem ok_l_draw {A : Ad} (T : Tx K mg A) {f : Addr} {fd : FuncData} (F : FunD K "_law_draw" "_law_draw" (defArgs s_l_draw) (defBody s_l_draw) (defScope s_l_draw) [] [] f fd) : FnOk P w K mg base CX0 (1) f fd ["_law_state_here", "_law_many"] spDraw := by
  obtain rfl := T.k
  refine F.ok sc_l_draw (fun vs H Q E h => len_draw h) (fun cdv Ar outer s H vs Q E hr h => ⟨t_draw A.K, PSs.nox ?_, pure_draw A.K vs H Q E h rfl⟩)
  exact (pss_cons (ps_set (i := 2) sc_l_draw.nd rfl (Or.inl rfl) (pe_ix ix_A (pv 0) pe_int (fun _ _ => rfl))) (pss_cons (ps_while PassesOwn.never (PW.pt (pw_and (pt_cmpR op_gt (pe_callB call_lenA (by rfl) T.b_len (by decide +kernel) (pa_cons (pv 2) pa_nil)) pe_int (nomark _)) (pw_and1 (pt_cmpR (op_eqA hr.units) (pe_ix ix_A (pv 2) pe_int (fun _ _ => rfl)) pe_int (nomark _))))) (pss_one (ps_expr (pe_bml PySem.F.slot_list_pop PySem.F.type_list_pop mt_popI (pv 2) (pa_cons pe_int pa_nil))))) (pss_cons (ps_if (pt_cmpR op_gt (pe_callB call_lenA (by rfl) T.b_len (by decide +kernel) (pa_cons (pv 2) pa_nil)) pe_int (nomark _)) (pss_cons (ps_set (i := 3) sc_l_draw.nd rfl (Or.inl rfl) (pe_ix ix_A (pv 2) pe_int (fun _ _ => rfl))) (pss_cons (ps_asg (pe_op op_fdiv (pv 3) (pv 1)) (pg_sub (pv 2) pe_int set_A)) (pss_one (ps_ret (pe_op op_mod (pe_callTy call_intA (by rfl) T.b_int (by decide +kernel) (pa_cons (pv 3) pa_nil)) (pv 1)))))) pss_nil) (pss_cons (ps_set (i := 4) sc_l_draw.nd rfl (Or.inl rfl) (pe_op op_mod (pe_callTy call_intA (by rfl) T.b_int (by decide +kernel) (pa_cons (pe_op op_addA (pe_op op_mulA (pe_ix ix_A (pv 0) pe_int (fun _ _ => rfl)) pe_int) pe_int) pa_nil)) pe_int)) (pss_cons (ps_asg (pv 4) (pg_sub (pv 0) pe_int set_A)) (pss_one (ps_ret (pe_op op_mod (pe_callTy call_intA (by rfl) T.b_int (by decide +kernel) (pa_cons (pe_op op_fdiv (pv 4) pe_int) pa_nil)) (pv 1)))))))))
abbrev s_l_pick : Stmt := top 10
theorem sc_l_pick : FnScope ["_law_state_here", "_law_row"] ["_law_state_here", "_law_row"] (defScope s_l_pick) := ⟨rfl, rfl, rfl, by decide +kernel, rfl, by decide +kernel, by decide +kernel⟩
set_option maxHeartbeats 4000000 in
theorem ok_l_pick {A : Ad} (T : Tx K mg A) {f : Addr} {fd : FuncData} (F : FunD K "_law_pick" "_law_pick" (defArgs s_l_pick) (defBody s_l_pick) (defScope s_l_pick) [] [] f fd)
    (c_l_draw : Cal P w K mg base "_law_draw" (1) ["_law_state_here", "_law_many"] spDraw) : FnOk P w K mg base CX0 (2) f fd ["_law_state_here", "_law_row"] spPick := by
  obtain rfl := T.k
  refine F.ok sc_l_pick (fun vs H Q E h => len_pick h) (fun cdv Ar outer s H vs Q E hr h => ⟨t_pick, PSs.nox ?_, pure_pick vs H Q E h rfl⟩)
  exact (pss_one (ps_ret (pe_ix ix_A (pv 1) (pe_cal c_l_draw (hr.mono (by omega)) (by rfl) (pa_cons (pv 0) (pa_cons (pe_callB call_lenA (by rfl) T.b_len (by decide +kernel) (pa_cons (pv 1) pa_nil)) pa_nil))) (fun _ _ => rfl))))
abbrev s_l_parts : Stmt := top 11
theorem sc_l_parts : FnScope ["_law_image", "_law_found", "_law_at"] ["_law_image"] (defScope s_l_parts) := ⟨rfl, rfl, rfl, by decide +kernel, rfl, by decide +kernel, by decide +kernel⟩
set_option maxHeartbeats 4000000 in
theorem ok_l_parts {A : Ad} (T : Tx K mg A) {f : Addr} {fd : FuncData} (F : FunD K "_law_parts" "_law_parts" (defArgs s_l_parts) (defBody s_l_parts) (defScope s_l_parts) [] [] f fd) : FnOk P w K mg base CX0 (1) f fd ["_law_image"] (sp_l_parts A) := by
  obtain rfl := T.k
  refine F.ok sc_l_parts (fun vs H Q E h => len_l_parts A h) (fun cdv Ar outer s H vs Q E hr h => ⟨t_l_parts A, PSs.nox ?_, pure_l_parts A vs H Q E h⟩)
  exact (pss_cons (ps_set (i := 1) sc_l_parts.nd rfl (Or.inl rfl) (pe_lst pa_nil)) (pss_cons (ps_set (i := 2) sc_l_parts.nd rfl (Or.inl rfl) pe_int) (pss_cons (ps_while PassesOwn.never (pt_cmpR op_lt (pv 2) (pe_callB call_lenA (by rfl) T.b_len (by decide +kernel) (pa_cons (pv 0) pa_nil)) (nomark _)) (pss_cons (ps_expr (pe_bml PySem.F.slot_list_append PySem.F.type_list_append mt_appA (pv 1) (pa_cons (pe_tup (pa_cons pe_str (pa_cons (pv 2) (pa_cons (pe_slice sl_A (pv 0) (po_some (pv 2)) (po_some (pe_op op_addA (pv 2) pe_int))) (pa_cons (pe_callB call_lenA (by rfl) T.b_len (by decide +kernel) (pa_cons (pv 0) pa_nil)) pa_nil))))) pa_nil))) (pss_one (ps_set (i := 2) sc_l_parts.nd rfl (Or.inl rfl) (pe_op op_addA (pv 2) pe_int))))) (pss_one (ps_ret (pv 1))))))
abbrev s_l_load : Stmt := top 12
theorem sc_l_load : FnScope ["_law_memory", "_law_first", "_law_words", "_law_total", "e"] ["_law_memory", "_law_first", "_law_words", "_law_total"] (defScope s_l_load) := ⟨rfl, rfl, rfl, by decide +kernel, rfl, by decide +kernel, by decide +kernel⟩
set_option maxHeartbeats 4000000 in
theorem ok_l_load {A : Ad} (T : Tx K mg A) {f : Addr} {fd : FuncData} (F : FunD K "_law_load" "_law_load" (defArgs s_l_load) (defBody s_l_load) (defScope s_l_load) [] [] f fd)
    (c_CodeError : CalE P w K mg base "CodeError" A.c_CodeError A.c_PlacedError A.i_CodeError "at" 1 ["self", "at"])
    (c_Memory_load : CalMX P w K mg base A.c_Memory "load" (3) ["self", "first", "words", "total"] (sp_Memory_load A)) : FnOk P w K mg base CX0 (4) f fd ["_law_memory", "_law_first", "_law_words", "_law_total"] (sp_l_load A) := by
  obtain rfl := T.k
  refine F.ok sc_l_load (fun vs H Q E h => len_l_load A h) (fun cdv Ar outer s H vs Q E hr h => ⟨t_l_load A, PSs.nox ?_, pure_l_load A vs H Q E h⟩)
  exact (pss_one (ps_try_as (i := 4) rfl rfl sc_l_load.nd rfl rfl (by exact ⟨by rfl, by decide, .inl c_CodeError.gm⟩) takes0 (fun W pn xe tk _ => (pss_one (ps_ret (pe_tup (pa_cons pe_str (pa_cons (pe_calMX (pv 0) c_Memory_load (hr.mono (by omega)) tk (pa_cons (pv 1) (pa_cons (pv 2) (pa_cons (pv 3) pa_nil)))) pa_nil)))))) (fun a oe cls d pn hz hf => (pss_one (ps_ret (pe_tup (pa_cons pe_str (pa_cons (pe_ifExp (pt_val (pe_callB (call_isX hz hf) (by rfl) T.b_isinstance (by decide +kernel) (pa_cons (pv 4) (pa_cons (pe_gv T.g_PlacedError (by rfl)) pa_nil)))) (pe_xf c_CodeError.ec.xf c_CodeError.ec.no hz hf (pv 4)) (pe_un un_neg pe_int)) pa_nil))))))))
abbrev s_l_due : Stmt := top 13
theorem sc_l_due : FnScope ["_law_held", "_law_size", "_law_first", "_law_words", "_law_total", "_law_k"] ["_law_held", "_law_size", "_law_first", "_law_words", "_law_total"] (defScope s_l_due) := ⟨rfl, rfl, rfl, by decide +kernel, rfl, by decide +kernel, by decide +kernel⟩
set_option maxHeartbeats 4000000 in
theorem ok_l_due {A : Ad} (T : Tx K mg A) {f : Addr} {fd : FuncData} (F : FunD K "_law_due" "_law_due" (defArgs s_l_due) (defBody s_l_due) (defScope s_l_due) [] [] f fd) : FnOk P w K mg base CX0 (1) f fd ["_law_held", "_law_size", "_law_first", "_law_words", "_law_total"] (sp_l_due A) := by
  obtain rfl := T.k
  refine F.ok sc_l_due (fun vs H Q E h => len_l_due A h) (fun cdv Ar outer s H vs Q E hr h => ⟨t_l_due A, PSs.nox ?_, pure_l_due A vs H Q E h⟩)
  exact (pss_cons (ps_if (PW.pt (pw_or (PW.pt (pw_and (pt_cmpR op_ge (pv 1) pe_int (nomark _)) (pw_and1 (pt_cmpR (op_neA hr.units) (pv 4) (pv 1) (nomark _))))) (pw_or1 (pt_cmpR op_gt (pe_op op_addA (pv 2) (pe_callB call_lenA (by rfl) T.b_len (by decide +kernel) (pa_cons (pv 3) pa_nil))) (pv 4) (nomark _))))) (pss_one (ps_ret (pe_tup (pa_cons pe_str (pa_cons (pv 2) pa_nil))))) pss_nil) (pss_cons (ps_for PassesOwn.never rfl (pi_range1 (by rfl) T.b_range (pa_cons (pe_callB call_lenA (by rfl) T.b_len (by decide +kernel) (pa_cons (pv 3) pa_nil)) pa_nil)) (pg_name (i := 5) sc_l_due.nd rfl (Or.inl rfl)) (pss_one (ps_if (PW.pt (pw_and (pt_cmpR op_ge (pv 1) pe_int (nomark _)) (pw_and1 (pt_cmpR op_notNA (pe_ix ix_A (pv 0) (pe_op op_addA (pv 2) (pv 5)) (fun _ _ => rfl)) pe_non (nomark _))))) (pss_one (ps_ret (pe_tup (pa_cons pe_str (pa_cons (pe_op op_addA (pv 2) (pv 5)) pa_nil))))) pss_nil))) (pss_one (ps_ret (pe_tup (pa_cons pe_str (pa_cons pe_bl pa_nil)))))))
abbrev s_l_wrong : Stmt := top 14
theorem sc_l_wrong : FnScope ["_law_state_here", "_law_image", "_law_held", "_law_size", "_law_part", "_law_total", "_law_first", "_law_due_here"] ["_law_state_here", "_law_image", "_law_held", "_law_size"] (defScope s_l_wrong) := ⟨rfl, rfl, rfl, by decide +kernel, rfl, by decide +kernel, by decide +kernel⟩
set_option maxHeartbeats 4000000 in
theorem ok_l_wrong {A : Ad} (T : Tx K mg A) {f : Addr} {fd : FuncData} (F : FunD K "_law_wrong" "_law_wrong" (defArgs s_l_wrong) (defBody s_l_wrong) (defScope s_l_wrong) [] [] f fd)
    (c_l_pick : Cal P w K mg base "_law_pick" (2) ["_law_state_here", "_law_row"] spPick)
    (c_l_parts : Cal P w K mg base "_law_parts" (1) ["_law_image"] (sp_l_parts A))
    (c_l_draw : Cal P w K mg base "_law_draw" (1) ["_law_state_here", "_law_many"] spDraw)
    (c_l_due : Cal P w K mg base "_law_due" (1) ["_law_held", "_law_size", "_law_first", "_law_words", "_law_total"] (sp_l_due A)) : FnOk P w K mg base CX0 (3) f fd ["_law_state_here", "_law_image", "_law_held", "_law_size"] (sp_l_wrong A) := by
  obtain rfl := T.k
  refine F.ok sc_l_wrong (fun vs H Q E h => len_l_wrong A h) (fun cdv Ar outer s H vs Q E hr h => ⟨t_l_wrong A, PSs.nox ?_, pure_l_wrong A vs H Q E h⟩)
  exact (pss_cons (ps_set (i := 4) sc_l_wrong.nd rfl (Or.inl rfl) (pe_cal c_l_pick (hr.mono (by omega)) (by rfl) (pa_cons (pv 0) (pa_cons (pe_cal c_l_parts (hr.mono (by omega)) (by rfl) (pa_cons (pv 1) pa_nil)) pa_nil)))) (pss_cons (ps_set (i := 5) sc_l_wrong.nd rfl (Or.inl rfl) (pe_op op_addA (pe_callB call_lenA (by rfl) T.b_len (by decide +kernel) (pa_cons (pv 1) pa_nil)) (pe_cal c_l_draw (hr.mono (by omega)) (by rfl) (pa_cons (pv 0) (pa_cons pe_int pa_nil))))) (pss_cons (ps_set (i := 6) sc_l_wrong.nd rfl (Or.inl rfl) (pe_op op_addA (pe_ix ix_A (pv 4) pe_int (fun _ _ => rfl)) (pe_cal c_l_draw (hr.mono (by omega)) (by rfl) (pa_cons (pv 0) (pa_cons pe_int pa_nil))))) (pss_cons (ps_if (pt_cmpR op_lt (pv 3) pe_int (nomark _)) (pss_one (ps_set (i := 6) sc_l_wrong.nd rfl (Or.inl rfl) (pe_op op_addA (pe_op op_sub (pv 5) (pe_callB call_lenA (by rfl) T.b_len (by decide +kernel) (pa_cons (pe_ix ix_A (pv 4) pe_int (fun _ _ => rfl)) pa_nil))) pe_int))) pss_nil) (pss_cons (ps_set (i := 7) sc_l_wrong.nd rfl (Or.inl rfl) (pe_cal c_l_due (hr.mono (by omega)) (by rfl) (pa_cons (pv 2) (pa_cons (pv 3) (pa_cons (pv 6) (pa_cons (pe_ix ix_A (pv 4) pe_int (fun _ _ => rfl)) (pa_cons (pv 5) pa_nil))))))) (pss_one (ps_ret (pe_tup (pa_cons (pv 6) (pa_cons (pe_ix ix_A (pv 4) pe_int (fun _ _ => rfl)) (pa_cons (pv 5) (pa_cons (pv 7) pa_nil))))))))))))
abbrev s_law : Stmt := top 15
theorem sc_law : FnScope ["_law_script", "_law_state_here", "_law_image", "_law_target", "_law_memory", "_law_held", "_law_left", "_law_turn", "_law_size", "_law_k", "_law_first", "_law_words", "_law_total", "_law_due_here", "_law_part"] ["_law_script"] (defScope s_law) := ⟨rfl, rfl, rfl, by decide +kernel, rfl, by decide +kernel, by decide +kernel⟩
set_option maxHeartbeats 4000000 in
theorem ok_law {A : Ad} (T : Tx K mg A) {f : Addr} {fd : FuncData} (F : FunD K "law" "law" (defArgs s_law) (defBody s_law) (defScope s_law) [] [] f fd)
    (c_l_state : Cal P w K mg base "_law_state" (1) ["_law_script"] (spState A.K))
    (c_l_draw : Cal P w K mg base "_law_draw" (1) ["_law_state_here", "_law_many"] spDraw)
    (c_packets : Cal P w K mg base "packets" (1) ["target", "image"] (sp_packets A))
    (c_l_parts : Cal P w K mg base "_law_parts" (1) ["_law_image"] (sp_l_parts A))
    (c_Memory_init : CalC P w K mg base "Memory" A.c_Memory (1) ["self"] (sp_Memory_init A))
    (c_l_wrong : Cal P w K mg base "_law_wrong" (3) ["_law_state_here", "_law_image", "_law_held", "_law_size"] (sp_l_wrong A))
    (c_l_load : Cal P w K mg base "_law_load" (4) ["_law_memory", "_law_first", "_law_words", "_law_total"] (sp_l_load A)) : FnOk P w K mg base CX0 (20) f fd ["_law_script"] (sp_law A) := by
  obtain rfl := T.k
  refine F.ok sc_law (fun vs H Q E h => len_law A h) (fun cdv Ar outer s H vs Q E hr h => ⟨t_law A, PSs.nox ?_, pure_law A vs H Q E h⟩)
  exact (pss_cons (ps_set (i := 1) sc_law.nd rfl (Or.inr rfl) (pe_cal c_l_state (hr.mono (by omega)) (by rfl) (pa_cons (pv 0) pa_nil))) (pss_cons (ps_setLc (i := 2) (own := [("_law_k", 9)]) rfl sc_law.nd rfl rfl (sw_true rfl rfl rfl (by decide +kernel)) (pi_range1 (by rfl) T.b_range (pa_cons (pe_op op_addA pe_int (pe_cal c_l_draw (hr.mono (by omega)) (by rfl) (pa_cons (pv 1) (pa_cons pe_int pa_nil)))) pa_nil)) (blkOk_by (own := [("_law_k", 9)]) (N := ["_law_script", "_law_state_here", "_law_image", "_law_target", "_law_memory", "_law_held", "_law_left", "_law_turn", "_law_size", "_law_k", "_law_first", "_law_words", "_law_total", "_law_due_here", "_law_part"]) (sc := defScope s_law) (by decide +kernel)) (fun _ _ _ _ _ => (pg_name (i := 9) sc_law.nd rfl (Or.inl rfl))) (fun _ _ _ _ _ => pts_nil) (fun _ _ _ _ _ => (pe_cal c_l_draw (hr.mono (by omega)) (by rfl) (pa_cons (pv 1) (pa_cons pe_int pa_nil))))) (pss_cons (ps_set (i := 3) sc_law.nd rfl (Or.inr rfl) (pe_cal c_l_draw (hr.mono (by omega)) (by rfl) (pa_cons (pv 1) (pa_cons pe_int pa_nil)))) (pss_cons (ps_if (pt_cmpR (op_neA hr.units) (pe_cal c_packets (hr.mono (by omega)) (by rfl) (pa_cons (pv 3) (pa_cons (pv 2) pa_nil))) (pe_lc (own := [("_law_part", 14)]) rfl sc_law.nd (pi_list (pe_cal c_l_parts (hr.mono (by omega)) (by rfl) (pa_cons (pv 2) pa_nil))) (blkOk_by (own := [("_law_part", 14)]) (N := ["_law_script", "_law_state_here", "_law_image", "_law_target", "_law_memory", "_law_held", "_law_left", "_law_turn", "_law_size", "_law_k", "_law_first", "_law_words", "_law_total", "_law_due_here", "_law_part"]) (sc := defScope s_law) (by decide +kernel)) (fun _ _ _ _ _ => (pg_name (i := 14) sc_law.nd rfl (Or.inl rfl))) (fun _ _ _ _ _ => pts_nil) (fun _ _ _ _ _ => (pe_tup (pa_cons (pv 3) (pa_cons (pv 14) pa_nil))))) (nomark _)) (pss_one (ps_ret pe_bl)) pss_nil) (pss_cons (ps_set (i := 4) sc_law.nd rfl (Or.inl rfl) (pe_calC0 c_Memory_init (hr.mono (by omega)) (by rfl))) (pss_cons (ps_set (i := 5) sc_law.nd rfl (Or.inl rfl) (pe_lst pa_nil)) (pss_cons (ps_set (i := 6) sc_law.nd rfl (Or.inl rfl) (pe_cal c_l_parts (hr.mono (by omega)) (by rfl) (pa_cons (pv 2) pa_nil))) (pss_cons (ps_for PassesOwn.never rfl (pi_range1 (by rfl) T.b_range (pa_cons (pe_callB call_lenA (by rfl) T.b_len (by decide +kernel) (pa_cons (pv 6) pa_nil)) pa_nil)) (pg_name (i := 7) sc_law.nd rfl (Or.inl rfl)) (pss_cons (ps_set (i := 8) sc_law.nd rfl (Or.inl rfl) (pe_ifExp (pt_cmpR op_gt (pv 7) pe_int (nomark _)) (pe_callB call_lenA (by rfl) T.b_len (by decide +kernel) (pa_cons (pv 5) pa_nil)) (pe_un un_neg pe_int))) (pss_cons (ps_for PassesOwn.never rfl (pi_range1 (by rfl) T.b_range (pa_cons (pe_cal c_l_draw (hr.mono (by omega)) (by rfl) (pa_cons (pv 1) (pa_cons pe_int pa_nil))) pa_nil)) (pg_name (i := 9) sc_law.nd rfl (Or.inl rfl)) (pss_cons (ps_asg (pe_cal c_l_wrong (hr.mono (by omega)) (by rfl) (pa_cons (pv 1) (pa_cons (pv 2) (pa_cons (pv 5) (pa_cons (pv 8) pa_nil))))) (pg_tup rfl (pgs_cons (pg_name (i := 10) sc_law.nd rfl (Or.inl rfl)) (pgs_cons (pg_name (i := 11) sc_law.nd rfl (Or.inl rfl)) (pgs_cons (pg_name (i := 12) sc_law.nd rfl (Or.inl rfl)) (pgs_cons (pg_name (i := 13) sc_law.nd rfl (Or.inl rfl)) pgs_nil)))))) (pss_one (ps_if (pt_cmpR (op_eqA hr.units) (pe_ix ix_A (pv 13) pe_int (fun _ _ => rfl)) pe_str (nomark _)) (pss_one (ps_if (PW.pt (pw_or (pt_cmpR (op_neA hr.units) (pe_cal c_l_load (hr.mono (by omega)) (by rfl) (pa_cons (pv 4) (pa_cons (pv 10) (pa_cons (pe_callTy call_listA (by rfl) T.b_list (by decide +kernel) (pa_cons (pv 11) pa_nil)) (pa_cons (pv 12) pa_nil))))) (pv 13) (nomark _)) (pw_or1 (pt_cmpR (op_neA hr.units) (pe_fld (pv 4) rfl) (pv 5) (nomark _))))) (pss_one (ps_ret pe_bl)) pss_nil)) pss_nil)))) (pss_cons (ps_set (i := 14) sc_law.nd rfl (Or.inl rfl) (pe_bml PySem.F.slot_list_pop PySem.F.type_list_pop mt_popI (pv 6) (pa_cons (pe_cal c_l_draw (hr.mono (by omega)) (by rfl) (pa_cons (pv 1) (pa_cons (pe_callB call_lenA (by rfl) T.b_len (by decide +kernel) (pa_cons (pv 6) pa_nil)) pa_nil))) pa_nil))) (pss_cons (ps_if (pt_cmpR (op_eqA hr.units) (pv 7) pe_int (nomark _)) (pss_one (ps_setLc (i := 5) (own := [("_law_k", 9)]) rfl sc_law.nd rfl rfl (sw_true rfl rfl rfl (by decide +kernel)) (pi_range1 (by rfl) T.b_range (pa_cons (pe_callB call_lenA (by rfl) T.b_len (by decide +kernel) (pa_cons (pv 2) pa_nil)) pa_nil)) (blkOk_by (own := [("_law_k", 9)]) (N := ["_law_script", "_law_state_here", "_law_image", "_law_target", "_law_memory", "_law_held", "_law_left", "_law_turn", "_law_size", "_law_k", "_law_first", "_law_words", "_law_total", "_law_due_here", "_law_part"]) (sc := defScope s_law) (by decide +kernel)) (fun _ _ _ _ _ => (pg_name (i := 9) sc_law.nd rfl (Or.inl rfl))) (fun _ _ _ _ _ => pts_nil) (fun _ _ _ _ _ => pe_non))) pss_nil) (pss_cons (ps_set (i := 5) sc_law.nd rfl (Or.inl rfl) (pe_op op_addA (pe_op op_addA (pe_slice sl_A (pv 5) po_none (po_some (pe_ix ix_A (pv 14) pe_int (fun _ _ => rfl)))) (pe_ix ix_A (pv 14) pe_int (fun _ _ => rfl))) (pe_slice sl_A (pv 5) (po_some (pe_op op_addA (pe_ix ix_A (pv 14) pe_int (fun _ _ => rfl)) (pe_callB call_lenA (by rfl) T.b_len (by decide +kernel) (pa_cons (pe_ix ix_A (pv 14) pe_int (fun _ _ => rfl)) pa_nil)))) po_none))) (pss_one (ps_if (PW.pt (pw_or (pt_cmpR (op_neA hr.units) (pe_cal c_l_load (hr.mono (by omega)) (by rfl) (pa_cons (pv 4) (pa_cons (pe_ix ix_A (pv 14) pe_int (fun _ _ => rfl)) (pa_cons (pe_callTy call_listA (by rfl) T.b_list (by decide +kernel) (pa_cons (pe_ix ix_A (pv 14) pe_int (fun _ _ => rfl)) pa_nil)) (pa_cons (pe_ix ix_A (pv 14) pe_int (fun _ _ => rfl)) pa_nil))))) (pe_tup (pa_cons pe_str (pa_cons (pe_cmpR op_notIn_seq pe_non (pv 5) (by rfl)) pa_nil))) (nomark _)) (pw_or1 (pt_cmpR (op_neA hr.units) (pe_fld (pv 4) rfl) (pv 5) (nomark _))))) (pss_one (ps_ret pe_bl)) pss_nil)))))))) (pss_one (ps_ret (pe_cmpR (op_eqA hr.units) (pe_fld (pv 4) rfl) (pv 2) (nomark _))))))))))))
end
end K44
set_option Elab.async false
set_option linter.all false
set_option maxRecDepth 100000
set_option maxHeartbeats 4000000
namespace K44
open PySem PySem.Spec PyProof.Rows L2 Lb
def d_CodeError_init : He.DefD := ⟨("CodeError", some "__init__"), "__init__", "CodeError.__init__", defArgs s_CodeError_init, defBody s_CodeError_init, defScope s_CodeError_init, [], []⟩
def d_packets : He.DefD := ⟨("packets", none), "packets", "packets", defArgs s_packets, defBody s_packets, defScope s_packets, [], []⟩
def d_Memory_init : He.DefD := ⟨("Memory", some "__init__"), "__init__", "Memory.__init__", defArgs s_Memory_init, defBody s_Memory_init, defScope s_Memory_init, [], []⟩
def d_Memory_load : He.DefD := ⟨("Memory", some "load"), "load", "Memory.load", defArgs s_Memory_load, defBody s_Memory_load, defScope s_Memory_load, [], []⟩
def d_l_state : He.DefD := ⟨("_law_state", none), "_law_state", "_law_state", defArgs s_l_state, defBody s_l_state, defScope s_l_state, [], []⟩
def d_l_draw : He.DefD := ⟨("_law_draw", none), "_law_draw", "_law_draw", defArgs s_l_draw, defBody s_l_draw, defScope s_l_draw, [], []⟩
def d_l_pick : He.DefD := ⟨("_law_pick", none), "_law_pick", "_law_pick", defArgs s_l_pick, defBody s_l_pick, defScope s_l_pick, [], []⟩
def d_l_parts : He.DefD := ⟨("_law_parts", none), "_law_parts", "_law_parts", defArgs s_l_parts, defBody s_l_parts, defScope s_l_parts, [], []⟩
def d_l_load : He.DefD := ⟨("_law_load", none), "_law_load", "_law_load", defArgs s_l_load, defBody s_l_load, defScope s_l_load, [], []⟩
def d_l_due : He.DefD := ⟨("_law_due", none), "_law_due", "_law_due", defArgs s_l_due, defBody s_l_due, defScope s_l_due, [], []⟩
def d_l_wrong : He.DefD := ⟨("_law_wrong", none), "_law_wrong", "_law_wrong", defArgs s_l_wrong, defBody s_l_wrong, defScope s_l_wrong, [], []⟩
def d_law : He.DefD := ⟨("law", none), "law", "law", defArgs s_law, defBody s_law, defScope s_law, [], []⟩
def fn : List He.DefD := [d_CodeError_init, d_packets, d_Memory_init, d_Memory_load, d_l_state, d_l_draw, d_l_pick, d_l_parts, d_l_load, d_l_due, d_l_wrong, d_law]
def fa : List He.Fa := [.glo "CodeError", .glo "CodeError", .glo "PlacedError", .glo "PlacedError", .free "abs", .free "all", .free "int", .free "isinstance", .free "len", .free "list", .free "range", .int "PART" 8, .glo "packets", .glo "_law_state", .glo "_law_draw", .glo "_law_pick", .glo "_law_parts", .glo "_law_load", .glo "_law_due", .glo "_law_wrong", .glo "law", .glo "Memory", .cls "Memory", .mkr "Memory", .meth "Memory" "load", .noat "Memory" "words"]
def lo : List Str := ["PlacedError", "CodeError", "PART", "packets", "Memory", "_law_state", "_law_draw", "_law_pick", "_law_parts", "_law_load", "_law_due", "_law_wrong"]
abbrev RW : PySem.W.OpenLaw := PySem.Challenge.rw_placedanyhow_k44_parts_of_images
abbrev RR : PySem.W.OpenRow := PySem.W.OpenLaw.row RW
def ex (K : PySem.W.Frag) : Bool := ecB K (He.ga K "CodeError") (He.ga K "PlacedError") (He.ma K (He.ga K "CodeError") "__init__") "at"
abbrev hk : PySem.W.Hook := hookY 4 fa fn ex
def ob (s : PySem.W.SharedT) : He.AlD × Bool := obsY 4 fa fn ex (HandSHeadRun.getT s)
theorem ob_eq (s : PySem.W.SharedT) : ob s = hk.obs s.abs := obsY_eq (HandSHeadRun.getT_eq s)
theorem run (w : World) : HandSHeadRun.RunEq RR (PySem.W.view RR.prog [15]) hk ob 4000 lo w := by
  intro os
  kernel_rfl
theorem tx {K : PySem.W.Frag} {h : Heap} {mg : Str → Option Value} (X : K.In h) (G : h.Ns mainGlobals mg) (c : He.SaysD fa fn K) : Tx K mg ⟨K, He.ga K "Memory", He.ga K "CodeError", He.ga K "PlacedError", He.ma K (He.ga K "CodeError") "__init__"⟩ :=
  ⟨rfl, gv_glo X G (c.fact 0 rfl), He.glo_ok X G (c.fact 1 rfl), gv_glo X G (c.fact 2 rfl), He.glo_ok X G (c.fact 3 rfl), He.free_ok X G (c.fact 4 rfl), He.free_ok X G (c.fact 5 rfl), He.free_ok X G (c.fact 6 rfl), He.free_ok X G (c.fact 7 rfl), He.free_ok X G (c.fact 8 rfl), He.free_ok X G (c.fact 9 rfl), He.free_ok X G (c.fact 10 rfl), gv_int X G (c.fact 11 rfl)⟩
theorem cf {K : PySem.W.Frag} (c : He.SaysD fa fn K) (e : ex K = true) : CF ⟨K, He.ga K "Memory", He.ga K "CodeError", He.ga K "PlacedError", He.ma K (He.ga K "CodeError") "__init__"⟩ :=
  ⟨He.cls_ok (c.fact 22 (f := .cls "Memory") rfl), He.noat_ok (c.fact 25 (f := .noat "Memory" "words") rfl), ecB_ok e⟩
set_option maxHeartbeats 16000000 in
theorem facts {P : Program} {w : World} {K : PySem.W.Frag} {h : Heap} {mg : Str → Option Value} {f : Addr} (X : K.In h) (G : h.Ns mainGlobals mg) (hfa : mg ("law" : Str) = some (.ref f)) (c : He.SaysD fa fn K) (cx : ex K = true) :
    ∃ fd : FuncData, (∀ (s : Shared) (v : Value), BindsTo s fd ⟨[v], []⟩ [("_law_script", v)]) ∧ ∀ base : Heap, K.In base → base.Ns mainGlobals mg → FnOk P w K mg base CX0 (20) f fd ["_law_script"] (sp_law ⟨K, He.ga K "Memory", He.ga K "CodeError", He.ga K "PlacedError", He.ma K (He.ga K "CodeError") "__init__"⟩) := by
  obtain ⟨fd_CodeError_init, F_CodeError_init⟩ := c.def_ 0 (d := d_CodeError_init) rfl
  have b_CodeError_init : Binds K fd_CodeError_init ["self", "at"] [] := F_CodeError_init.bindsN fun _ _ _ _ _ _ us hl => match us, hl with | [_, _], _ => rfl
  obtain ⟨fd_packets, F_packets⟩ := c.def_ 1 (d := d_packets) rfl
  have b_packets : Binds K fd_packets ["target", "image"] [] := F_packets.bindsN fun _ _ _ _ _ _ us hl => match us, hl with | [_, _], _ => rfl
  have g_packets := He.glo_ok X G (c.fact 12 (f := .glo "packets") rfl)
  obtain ⟨fd_Memory_init, F_Memory_init⟩ := c.def_ 2 (d := d_Memory_init) rfl
  have b_Memory_init : Binds K fd_Memory_init ["self"] [] := F_Memory_init.bindsN fun _ _ _ _ _ _ us hl => match us, hl with | [_], _ => rfl
  obtain ⟨fd_Memory_load, F_Memory_load⟩ := c.def_ 3 (d := d_Memory_load) rfl
  have b_Memory_load : Binds K fd_Memory_load ["self", "first", "words", "total"] [] := F_Memory_load.bindsN fun _ _ _ _ _ _ us hl => match us, hl with | [_, _, _, _], _ => rfl
  obtain ⟨fd_l_state, F_l_state⟩ := c.def_ 4 (d := d_l_state) rfl
  have b_l_state : Binds K fd_l_state ["_law_script"] [] := F_l_state.bindsN fun _ _ _ _ _ _ us hl => match us, hl with | [_], _ => rfl
  have g_l_state := He.glo_ok X G (c.fact 13 (f := .glo "_law_state") rfl)
  obtain ⟨fd_l_draw, F_l_draw⟩ := c.def_ 5 (d := d_l_draw) rfl
  have b_l_draw : Binds K fd_l_draw ["_law_state_here", "_law_many"] [] := F_l_draw.bindsN fun _ _ _ _ _ _ us hl => match us, hl with | [_, _], _ => rfl
  have g_l_draw := He.glo_ok X G (c.fact 14 (f := .glo "_law_draw") rfl)
  obtain ⟨fd_l_pick, F_l_pick⟩ := c.def_ 6 (d := d_l_pick) rfl
  have b_l_pick : Binds K fd_l_pick ["_law_state_here", "_law_row"] [] := F_l_pick.bindsN fun _ _ _ _ _ _ us hl => match us, hl with | [_, _], _ => rfl
  have g_l_pick := He.glo_ok X G (c.fact 15 (f := .glo "_law_pick") rfl)
  obtain ⟨fd_l_parts, F_l_parts⟩ := c.def_ 7 (d := d_l_parts) rfl
  have b_l_parts : Binds K fd_l_parts ["_law_image"] [] := F_l_parts.bindsN fun _ _ _ _ _ _ us hl => match us, hl with | [_], _ => rfl
  have g_l_parts := He.glo_ok X G (c.fact 16 (f := .glo "_law_parts") rfl)
  obtain ⟨fd_l_load, F_l_load⟩ := c.def_ 8 (d := d_l_load) rfl
  have b_l_load : Binds K fd_l_load ["_law_memory", "_law_first", "_law_words", "_law_total"] [] := F_l_load.bindsN fun _ _ _ _ _ _ us hl => match us, hl with | [_, _, _, _], _ => rfl
  have g_l_load := He.glo_ok X G (c.fact 17 (f := .glo "_law_load") rfl)
  obtain ⟨fd_l_due, F_l_due⟩ := c.def_ 9 (d := d_l_due) rfl
  have b_l_due : Binds K fd_l_due ["_law_held", "_law_size", "_law_first", "_law_words", "_law_total"] [] := F_l_due.bindsN fun _ _ _ _ _ _ us hl => match us, hl with | [_, _, _, _, _], _ => rfl
  have g_l_due := He.glo_ok X G (c.fact 18 (f := .glo "_law_due") rfl)
  obtain ⟨fd_l_wrong, F_l_wrong⟩ := c.def_ 10 (d := d_l_wrong) rfl
  have b_l_wrong : Binds K fd_l_wrong ["_law_state_here", "_law_image", "_law_held", "_law_size"] [] := F_l_wrong.bindsN fun _ _ _ _ _ _ us hl => match us, hl with | [_, _, _, _], _ => rfl
  have g_l_wrong := He.glo_ok X G (c.fact 19 (f := .glo "_law_wrong") rfl)
  obtain ⟨fd_law, F_law⟩ := c.def_ 11 (d := d_law) rfl
  have E_CodeError := ecB_ok cx
  have g_Memory := He.glo_ok X G (c.fact 21 (f := .glo "Memory") rfl)
  have k_Memory := He.cls_ok (c.fact 22 (f := .cls "Memory") rfl)
  have m_Memory := He.mkr_ok (c.fact 23 (f := .mkr "Memory") rfl)
  have e_Memory_load := He.meth_ok (c.fact 24 (f := .meth "Memory" "load") rfl)
  have e := hfa.symm.trans (He.glo_ok X G (c.fact 20 (f := .glo "law") rfl))
  cases e
  have b := FunD.bindsA (ps := ["_law_script"]) F_law fun _ _ _ _ _ _ us hl => match us, hl with | [_], _ => rfl
  have T := tx X G c
  refine ⟨fd_law, fun s v => b s [v] rfl, fun base _ _ => ?_⟩
  have C_CodeError := mkCalE E_CodeError (He.glo_ok X G (c.fact 0 (f := .glo "CodeError") rfl)) b_CodeError_init (ok_CodeError_init (P := P) (w := w) (base := base) T E_CodeError F_CodeError_init)
  have C_packets : Cal P w K mg base "packets" (1) ["target", "image"] (sp_packets ⟨K, He.ga K "Memory", He.ga K "CodeError", He.ga K "PlacedError", He.ma K (He.ga K "CodeError") "__init__"⟩) := mkCal F_packets g_packets b_packets (ok_packets T F_packets)
  have C_Memory_init : CalC P w K mg base "Memory" (He.ga K "Memory") (1) ["self"] (sp_Memory_init ⟨K, He.ga K "Memory", He.ga K "CodeError", He.ga K "PlacedError", He.ma K (He.ga K "CodeError") "__init__"⟩) := mkCalC g_Memory m_Memory b_Memory_init (ok_Memory_init T F_Memory_init)
  have C_Memory_load : CalMX P w K mg base (He.ga K "Memory") "load" (3) ["self", "first", "words", "total"] (sp_Memory_load ⟨K, He.ga K "Memory", He.ga K "CodeError", He.ga K "PlacedError", He.ma K (He.ga K "CodeError") "__init__"⟩) := mkCalMX k_Memory e_Memory_load b_Memory_load (ok_Memory_load T F_Memory_load C_CodeError)
  have C_l_state : Cal P w K mg base "_law_state" (1) ["_law_script"] (spState K) := mkCal F_l_state g_l_state b_l_state (ok_l_state T F_l_state)
  have C_l_draw : Cal P w K mg base "_law_draw" (1) ["_law_state_here", "_law_many"] spDraw := mkCal F_l_draw g_l_draw b_l_draw (ok_l_draw T F_l_draw)
  have C_l_pick : Cal P w K mg base "_law_pick" (2) ["_law_state_here", "_law_row"] spPick := mkCal F_l_pick g_l_pick b_l_pick (ok_l_pick T F_l_pick C_l_draw)
  have C_l_parts : Cal P w K mg base "_law_parts" (1) ["_law_image"] (sp_l_parts ⟨K, He.ga K "Memory", He.ga K "CodeError", He.ga K "PlacedError", He.ma K (He.ga K "CodeError") "__init__"⟩) := mkCal F_l_parts g_l_parts b_l_parts (ok_l_parts T F_l_parts)
  have C_l_load : Cal P w K mg base "_law_load" (4) ["_law_memory", "_law_first", "_law_words", "_law_total"] (sp_l_load ⟨K, He.ga K "Memory", He.ga K "CodeError", He.ga K "PlacedError", He.ma K (He.ga K "CodeError") "__init__"⟩) := mkCal F_l_load g_l_load b_l_load (ok_l_load T F_l_load C_CodeError C_Memory_load)
  have C_l_due : Cal P w K mg base "_law_due" (1) ["_law_held", "_law_size", "_law_first", "_law_words", "_law_total"] (sp_l_due ⟨K, He.ga K "Memory", He.ga K "CodeError", He.ga K "PlacedError", He.ma K (He.ga K "CodeError") "__init__"⟩) := mkCal F_l_due g_l_due b_l_due (ok_l_due T F_l_due)
  have C_l_wrong : Cal P w K mg base "_law_wrong" (3) ["_law_state_here", "_law_image", "_law_held", "_law_size"] (sp_l_wrong ⟨K, He.ga K "Memory", He.ga K "CodeError", He.ga K "PlacedError", He.ma K (He.ga K "CodeError") "__init__"⟩) := mkCal F_l_wrong g_l_wrong b_l_wrong (ok_l_wrong T F_l_wrong C_l_pick C_l_parts C_l_draw C_l_due)
  exact (ok_law T F_law C_l_state C_l_draw C_packets C_l_parts C_Memory_init C_l_wrong C_l_load)
end K44
open PySem PySem.W PySem.Calls PyProof.Rows
theorem PySem.Challenge.cw_placedanyhow_k44_parts_of_images_holds : PySem.Challenge.rw_placedanyhow_k44_parts_of_images.Holds := by
  w_on; o_law
  refine HandSHeadRun.head_any (r := OpenLaw.row PySem.Challenge.rw_placedanyhow_k44_parts_of_images) (q := view (OpenLaw.row PySem.Challenge.rw_placedanyhow_k44_parts_of_images).prog [15]) (H := K44.hk) (ob := K44.ob) (M := 4000) (loose := K44.lo) (d := HandSHeadRun.topDef (OpenLaw.row PySem.Challenge.rw_placedanyhow_k44_parts_of_images).prog 15) (kwd := []) K44.ob_eq
    (by kernel_rfl) (fun s => by kernel_rfl) K44.run (by kernel_rfl) (by kernel_rfl) (by kernel_rfl) (by rfl) (by first | assumption | decide +kernel) (by decide +kernel) ⟨rfl, rfl, rfl, rfl, rfl, by decide +kernel⟩ ?hw ?hc
  case hw => w_witness2
  case hc =>
    refine L2.walk_ofE (l := PySem.Challenge.rw_placedanyhow_k44_parts_of_images) (n := 63) (k := 20) (x := "_law_script") (CX := L2.CX0) rfl (by decide) (by kernel_rfl) ⟨rfl, by decide, by decide⟩ ?F (fun _ _ _ _ z => z)
    intro w mg fa h Y G hmg0
    obtain ⟨K, KX, cx⟩ := Y
    have c := cx.1
    have hmg : mg ("law" : PySem.Str) = some (.ref fa) := by
      have e : (HandSHeadRun.topDef (OpenLaw.row PySem.Challenge.rw_placedanyhow_k44_parts_of_images).prog 15).name = ("law" : PySem.Str) := by kernel_rfl
      rw [← e]
      exact hmg0
    obtain ⟨fd, hb, hF⟩ := K44.facts (P := (PySem.Challenge.rw_placedanyhow_k44_parts_of_images).prog) (w := w) KX G hmg c cx.2
    exact ⟨K, fd, K44.sp_law ⟨K, He.ga K "Memory", He.ga K "CodeError", He.ga K "PlacedError", He.ma K (He.ga K "CodeError") "__init__"⟩, KX, hb, fun H a ns hl _ hS => ⟨a, ns, rfl, hS, hl, K44.cf c cx.2, fun _ => rfl⟩, hF⟩

