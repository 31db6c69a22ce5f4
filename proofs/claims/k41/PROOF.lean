import PyProof.Rows.All
import Wide.All
import OpenK.AllK
import Wide.FinOn
import HandS.ForMost
import HandS.IsInst
import HandS.Defaults
import HandS.More
import HandS.Head0
import HandS.Head1
import HandS.Head2
import HandS.HeadEnd
import HandS.HeadHook1
import HandS.HeadHook2
import HandS.HeadHook3
import HandS.HeadHook4
import HandS.Style
import HandS.TryOnly
import KE.KAssignIn
import HandS.Strs
import HandS.Text
import HandS.ExcInit
import HandS.ExcField
import HandS.ExcOwn
import HandS.WordsExc
import HandS.ClsMeth
import KE.KExcIs
import HandS.Iter
import HandS.SortOrd
import HandS.SortRule
import HandS.Conv
import HandS.Walk
import KE.KDictSum
import HandS.SetBool
import HandS.Rev
import HandS.Deep
import PyProof.ReprRoads
import PyProof.ReprLen
import HandS.SortKw
import KE.SortKeyHeap
import HandS.DictComp
import PySem.Challenge.RW_placedanyhow_k41_plans_that_fit
set_option Elab.async false
set_option linter.all false
set_option maxRecDepth 100000
set_option maxHeartbeats 4000000
/-! Lb: readings that compute, callables by name, data in the heap, the drawing of numbers. Knows no program. -/
namespace Lb
open PySem PySem.Spec PyProof.Rows L2

/-! ### weaker readings -/
section
variable {X : Cx} {e : Expr} {st : Stmt}
theorem pe_imp {t u : TE} (h : PE X e t) (k : ∀ σ H Q, u σ H Q → t σ H Q) : PE X e u := ⟨fun pins s σ H Q I hw => h.run pins s σ H Q I (k σ H Q hw)⟩
theorem pt_imp {t u : TT} (h : PT X e t) (k : ∀ σ H Q, u σ H Q → t σ H Q) : PT X e u := ⟨fun pins s σ H Q I hw => h.run pins s σ H Q I (k σ H Q hw)⟩
theorem ps_imp {t u : TS} (h : PS X st t) (k : ∀ D σ H, u D σ H → t D σ H) : PS X st u := ⟨fun pins s σ H D I hw => h.run pins s σ H D I (k D σ H hw)⟩
end

/-- a reading, made monotone -/
def upE (t : TE) : TE := fun σ H Q => ∃ R : VK, t σ H R ∧ ∀ x H', R x H' → Q x H'
def upT (t : TT) : TT := fun σ H Q => ∃ R : Bool → Hp → Prop, t σ H R ∧ ∀ x H', R x H' → Q x H'
theorem pe_up {X : Cx} {e : Expr} {t : TE} (h : PE X e t) : PE X e (upE t) := ⟨fun pins s σ H Q I ⟨R, h1, h2⟩ => thn (h.run pins s σ H R I h1) fun _ _ ⟨v, H', I', r, q⟩ => ⟨v, H', I', r, h2 v H' q⟩⟩
theorem pt_up {X : Cx} {e : Expr} {t : TT} (h : PT X e t) : PT X e (upT t) := ⟨fun pins s σ H Q I ⟨R, h1, h2⟩ => thn (h.run pins s σ H R I h1) fun _ _ ⟨H', I', q⟩ => ⟨H', I', h2 _ H' q⟩⟩

/-! ### callables: a def, a method, a class, each with its promise -/
structure Cal (P : Program) (w : World) (K : PySem.W.Frag) (mg : Str → Option Value) (base : Heap) (x : Str) (k : Nat) (ps : List Str) (sp : Sp) : Prop where
  ex : ∃ (f : Addr) (fd : FuncData), mg x = some (.ref f) ∧ PySem.W.keepIn K (.ref f) = true ∧ Binds K fd ps [] ∧ FnOk P w K mg base CX0 k f fd ps sp
structure CalM (P : Program) (w : World) (K : PySem.W.Frag) (mg : Str → Option Value) (base : Heap) (C : Addr) (m : Str) (k : Nat) (ps : List Str) (sp : Sp) : Prop where
  ex : ∃ (f : Addr) (fd : FuncData), Cls K C ∧ Meth K C m f ∧ Binds K fd ps [] ∧ FnOk P w K mg base CX0 k f fd ps sp
structure CalC (P : Program) (w : World) (K : PySem.W.Frag) (mg : Str → Option Value) (base : Heap) (x : Str) (C : Addr) (k : Nat) (ps : List Str) (sp : Sp) : Prop where
  ex : ∃ (f : Addr) (fd : FuncData), mg x = some (.ref C) ∧ Mk K C f ∧ Binds K fd ps [] ∧ FnOk P w K mg base CX0 k f fd ps sp
/-- a name of the module that holds a known value -/
structure GV (mg : Str → Option Value) (x : Str) (v : V) : Prop where
  ex : ∃ u, mg x = some u ∧ RelV v u
section
variable {X : Cx} {x m : Str} {C : Addr} {p pos apos : Pos} {o e : Expr} {es : List Expr} {ta : TE} {t : TA} {k : Nat} {ps : List Str} {sp : Sp} {v : V}
theorem pe_gv (c : GV X.mg x v) (hg : Gl X x) (hd : (x == ("__debug__" : Str)) = false := by decide) : PE X (.Name x pos) (tC v) := by
  obtain ⟨u, hm, r⟩ := c.ex
  exact pe_glob hg hm r hd
theorem pe_cal (c : Cal X.prog X.w X.K X.mg X.base x k ps sp) (hr : Room k X.A) (hg : Gl X x) (ha : PA X (e :: es) t) (hdb : (x == ("__debug__" : Str)) = false := by decide)
    (he : starEach (e :: es) X.env = (false, eval e X.env) :: starEach es X.env := by rfl) (hpl : (backTo pos (starEach es X.env)).any (·.1) = false := by rfl) : PE X (.Call (.Name x p) (e :: es) [] pos) (tCall sp [] E0 t) := by
  obtain ⟨f, fd, hm, hk, hb, F⟩ := c.ex
  exact pe_call F hr hg hm hk hb .nil pass0 ha hdb he hpl
theorem pe_cal0 (c : Cal X.prog X.w X.K X.mg X.base x k ps sp) (hr : Room k X.A) (hg : Gl X x) (hdb : (x == ("__debug__" : Str)) = false := by decide) : PE X (.Call (.Name x p) [] [] pos) (tCall sp [] E0 tNil) := by
  obtain ⟨f, fd, hm, hk, hb, F⟩ := c.ex
  exact pe_call0 F hr hg hm hk hb .nil pass0 hdb
theorem pe_calM {pl : Sem Bool} (he : PE X o ta) (c : CalM X.prog X.w X.K X.mg X.base C m k ps sp) (hr : Room k X.A) (ha : PA X (e :: es) t)
    (hst : starEach (e :: es) X.env = (false, eval e X.env) :: starEach es X.env := by rfl) (hpl : (backTo pos (starEach es X.env)).any (·.1) = false := by rfl)
    (ht : eval (.Call (.Attribute o m apos) (e :: es) [] pos) X.env = (do
      let ov ← eval o X.env
      standAt apos.atName
      let (f, first) ← holding [ov] (getMethod ov m pl)
      callWith pos f first (backTo pos (starEach (e :: es) X.env)) (backToKw pos (keywordEach [] X.env))) := by rfl) : PE X (.Call (.Attribute o m apos) (e :: es) [] pos) (tMeth C m sp [] E0 ta t) := by
  obtain ⟨f, fd, hc, hm, hb, F⟩ := c.ex
  exact pe_meth he hc hm F hr hb .nil pass0 ha hst hpl ht
theorem pe_calM0 {pl : Sem Bool} (he : PE X o ta) (c : CalM X.prog X.w X.K X.mg X.base C m k ps sp) (hr : Room k X.A)
    (ht : eval (.Call (.Attribute o m apos) [] [] pos) X.env = (do
      let ov ← eval o X.env
      standAt apos.atName
      let (f, first) ← holding [ov] (getMethod ov m pl)
      callWith pos f first (backTo pos (starEach [] X.env)) (backToKw pos (keywordEach [] X.env))) := by rfl) : PE X (.Call (.Attribute o m apos) [] [] pos) (tMeth C m sp [] E0 ta tNil) := by
  obtain ⟨f, fd, hc, hm, hb, F⟩ := c.ex
  exact pe_meth0 he hc hm F hr hb .nil pass0 ht
theorem pe_calC (c : CalC X.prog X.w X.K X.mg X.base x C k ps sp) (hr : Room (k + 1) X.A) (hg : Gl X x) (ha : PA X (e :: es) t) (hdb : (x == ("__debug__" : Str)) = false := by decide)
    (he : starEach (e :: es) X.env = (false, eval e X.env) :: starEach es X.env := by rfl) (hpl : (backTo pos (starEach es X.env)).any (·.1) = false := by rfl) : PE X (.Call (.Name x p) (e :: es) [] pos) (tMake C sp [] E0 t) := by
  obtain ⟨f, fd, hm, M, hb, F⟩ := c.ex
  exact pe_make M F hr hg hm hb .nil pass0 ha hdb he hpl
theorem pe_calC0 (c : CalC X.prog X.w X.K X.mg X.base x C k ps sp) (hr : Room (k + 1) X.A) (hg : Gl X x) (hdb : (x == ("__debug__" : Str)) = false := by decide) : PE X (.Call (.Name x p) [] [] pos) (tMake C sp [] E0 tNil) := by
  obtain ⟨f, fd, hm, M, hb, F⟩ := c.ex
  exact pe_make0 M F hr hg hm hb .nil pass0 hdb
end

/-! ### readings that compute -/
def rAddA : R2 := fun x y H Q => match x, y with
  | .int a, .int b => Q (.int (a + b)) H
  | .str a, .str b => a.length + b.length ≤ sizeLine ∧ Q (.str (a ++ b)) H
  | .ref p, .ref q => (match H p, H q with
    | some (.lst xs), some (.lst ys) => xs.length + ys.length ≤ sizeLine ∧ ∀ r, H r = none → Q (.ref r) (upd H r (.lst (xs ++ ys)))
    | _, _ => False)
  | _, _ => False
def rMulA : R2 := fun x y H Q => match x, y with
  | .int a, .int b => CMul a b ∧ Q (.int (a * b)) H
  | .ref p, .int k => (match H p with
    | some (.lst xs) => -(2 ^ 63) ≤ k ∧ k < 2 ^ 63 ∧ xs.length * k.toNat ≤ sizeLine ∧ ∀ r, H r = none → Q (.ref r) (upd H r (.lst (List.replicate k.toNat xs).flatten))
    | _ => False)
  | _, _ => False
def eqF : V → V → Option Bool
  | .int a, .int b => some (decide (a = b))
  | .str a, .str b => some (decide (a = b))
  | .bl a, .bl b => some (decide (a = b))
  | .non, .non => some true
  | .non, .int _ => some false
  | .int _, .non => some false
  | .non, .str _ => some false
  | .str _, .non => some false
  | .non, .bl _ => some false
  | .bl _, .non => some false
  | .int _, .str _ => some false
  | .str _, .int _ => some false
  | _, _ => none
def rEqA (K : PySem.W.Frag) : R2 := fun x y H Q => match eqF x y with
  | some b => Q (.bl b) H
  | none => rEqD K x y H Q
def rNeA (K : PySem.W.Frag) : R2 := fun x y H Q => match eqF x y with
  | some b => Q (.bl (!b)) H
  | none => rNeD K x y H Q
def rIsN : R2 := fun x y H Q => y = .non ∧ Q (.bl (decide (x = .non))) H
def rNotN : R2 := fun x y H Q => y = .non ∧ Q (.bl (!decide (x = .non))) H
/-- an item of a list, a tuple, a text -/
def rIxA : R2 := fun x y H Q => match x, y with
  | .ref p, .int i => (match H p with
    | some (.lst xs) => ∃ v, atI xs i = some v ∧ Q v H
    | some (.tup xs) => ∃ v, atI xs i = some v ∧ Q v H
    | _ => False)
  | .str z, .int i => z.length ≤ sizeLine ∧ ∃ c, atI z.cps.toList i = some c ∧ Q (.str ⟨#[c]⟩) H
  | _, _ => False
def rSlA : V → Option Int → Option Int → Hp → VK → Prop := fun x lo hi H Q => match x with
  | .ref p => (match H p with
    | some (.lst xs) => ∀ q, H q = none → Q (.ref q) (upd H q (.lst (cutV xs lo hi)))
    | some (.tup xs) => ¬ (HT.sIx xs.length 0 lo = 0 ∧ HT.sIx xs.length xs.length hi = xs.length) ∧ ∀ q, H q = none → Q (.ref q) (upd H q (.tup (cutV xs lo hi)))
    | _ => False)
  | _ => False
def rLenA : List V → Hp → VK → Prop := fun vs H Q => match vs with
  | [.str y] => y.length ≤ sizeLine ∧ Q (.int y.length) H
  | [.ref p] => (match H p with
    | some (.lst xs) => Q (.int xs.length) H
    | some (.tup xs) => Q (.int xs.length) H
    | some (.dK kvs) => Q (.int kvs.length) H
    | _ => False)
  | _ => False
def rIntA : List V → Hp → VK → Prop := fun vs H Q => match vs with
  | [.int i] => Q (.int i) H
  | [.bl k] => Q (.int (if k = true then 1 else 0)) H
  | _ => False
def rAbsA : List V → Hp → VK → Prop := fun vs H Q => match vs with
  | [.int i] => Q (.int (if i < 0 then -i else i)) H
  | _ => False
def rListA : List V → Hp → VK → Prop := fun vs H Q => match vs with
  | [.ref p] => (match H p with
    | some (.lst xs) => ∀ l, H l = none → Q (.ref l) (upd H l (.lst xs))
    | some (.tup xs) => ∀ l, H l = none → Q (.ref l) (upd H l (.lst xs))
    | _ => False)
  | _ => False
def rTupA : List V → Hp → VK → Prop := fun vs H Q => match vs with
  | [.ref p] => (match H p with
    | some (.lst xs) => ∀ l, H l = none → Q (.ref l) (upd H l (.tup xs))
    | some (.tup _) => Q (.ref p) H
    | _ => False)
  | _ => False
def tyN (x : V) (H : Hp) : Option String := match x with
  | .non => some "NoneType"
  | .bl _ => some "bool"
  | .int _ => some "int"
  | .str _ => some "str"
  | .ref p => (match H p with
    | some (.lst _) => some "list"
    | some (.tup _) => some "tuple"
    | some (.dK _) => some "dict"
    | some (.dT _) => some "dict"
    | _ => none)
  | _ => none
def rIsiA : List V → Hp → VK → Prop := fun vs H Q => match vs with
  | [x, .ty T] => (match tyN x H with
    | some t => ∃ b, kitB t T = some b ∧ Q (.bl b) H
    | none => False)
  | _ => False
def isL (x : V) (H : Hp) : Prop := match x with
  | .ref p => (match H p with
    | some (.lst _) => True
    | _ => False)
  | _ => False
/-- a method of a list -/
def tBML (r : V → List V → Hp → VK → Prop) (to : TE) (t : TA) : TE := fun σ H Q => to σ H fun x H1 => isL x H1 ∧ t σ H1 fun xs H2 => r x xs H2 Q
def rAppA : V → List V → Hp → VK → Prop := fun x vs H Q => match x, vs with
  | .ref l, [y] => (match H l with
    | some (.lst xs) => xs.length < sizeLine ∧ Q .non (upd H l (.lst (xs ++ [y])))
    | _ => False)
  | _, _ => False
def rExtA : V → List V → Hp → VK → Prop := fun x vs H Q => match x, vs with
  | .ref l, [.ref q] => (match H l, H q with
    | some (.lst xs), some (.lst ys) => xs.length + ys.length ≤ sizeLine ∧ Q .non (upd H l (.lst (xs ++ ys)))
    | _, _ => False)
  | _, _ => False
def rPopL : V → List V → Hp → VK → Prop := fun x vs H Q => match x, vs with
  | .ref l, [] => (match H l with
    | some (.lst xs) => ∃ y, xs[xs.length - 1]? = some y ∧ Q y (upd H l (.lst xs.dropLast))
    | _ => False)
  | _, _ => False
def rPopI : V → List V → Hp → VK → Prop := fun x vs H Q => match x, vs with
  | .ref l, [.int i] => (match H l with
    | some (.lst xs) => ∃ (k : Nat) (y : V), i = (k : Int) ∧ k < 2 ^ 62 ∧ xs[k]? = some y ∧ Q y (upd H l (.lst (xs.eraseIdx k)))
    | _ => False)
  | _, _ => False
def rSetA : TSet := fun o i v H Q => match o, i with
  | .ref p, .int k => (match H p with
    | some (.lst xs) => ∃ j, ixN xs.length k = some j ∧ Q (upd H p (.lst (xs.set j v)))
    | _ => False)
  | _, _ => False
section
variable {X : Cx}
theorem op_addA : OpR X (binaryOp .Add) rAddA := by
  intro pins s σ H x y v u Q I rx ry h
  unfold rAddA at h
  split at h
  · exact op_add pins s σ H _ _ v u Q I rx ry ⟨_, _, rfl, rfl, h⟩
  · exact op_add_str pins s σ H _ _ v u Q I rx ry ⟨_, _, rfl, rfl, h⟩
  · split at h
    · rename_i h1 h2
      exact op_cat pins s σ H _ _ v u Q I rx ry ⟨_, _, _, _, rfl, rfl, h1, h2, h⟩
    · exact h.elim
  · exact h.elim
theorem op_mulA : OpR X (binaryOp .Mult) rMulA := by
  intro pins s σ H x y v u Q I rx ry h
  unfold rMulA at h
  split at h
  · exact op_mul pins s σ H _ _ v u Q I rx ry ⟨_, _, rfl, rfl, h⟩
  · split at h
    · rename_i h1
      exact op_rep pins s σ H _ _ v u Q I rx ry ⟨_, _, _, rfl, rfl, h1, h⟩
    · exact h.elim
  · exact h.elim
theorem eqF_ok {x y : V} {b : Bool} (h : eqF x y = some b) : scal x y = true ∧ decide (x = y) = b := by
  cases x <;> cases y <;> simp only [eqF, Option.some.injEq, reduceCtorEq] at h <;> (subst h; refine ⟨rfl, ?_⟩; simp)
theorem op_eqA (hu : X.A.units + 64 < cLine) : OpR X (compareOp .Eq) (rEqA X.K) := by
  intro pins s σ H x y v u Q I rx ry h
  unfold rEqA at h
  split at h
  · rename_i b e
    obtain ⟨h1, h2⟩ := eqF_ok e
    exact op_eq pins s σ H x y v u Q I rx ry ⟨h1, by rw [h2]; exact h⟩
  · exact op_eqD hu pins s σ H x y v u Q I rx ry h
theorem op_neA (hu : X.A.units + 64 < cLine) : OpR X (compareOp .NotEq) (rNeA X.K) := by
  intro pins s σ H x y v u Q I rx ry h
  unfold rNeA at h
  split at h
  · rename_i b e
    obtain ⟨h1, h2⟩ := eqF_ok e
    exact op_ne pins s σ H x y v u Q I rx ry ⟨h1, by rw [h2]; exact h⟩
  · exact op_neD hu pins s σ H x y v u Q I rx ry h
theorem op_isNA : OpR X (compareOp .Is) rIsN := op_isN
theorem op_notNA : OpR X (compareOp .IsNot) rNotN := op_notN
theorem ix_A : IxR X rIxA := by
  intro value slice pins s σ H x y v u Q I rx ry h hs
  unfold rIxA at h
  split at h
  · split at h
    · rename_i h1
      obtain ⟨w, h2, h3⟩ := h
      exact ix_list value slice pins s σ H _ _ v u Q I rx ry ⟨_, _, _, _, rfl, rfl, SqL.of h1, h2, h3⟩ hs
    · rename_i h1
      obtain ⟨w, h2, h3⟩ := h
      exact ix_tup value slice pins s σ H _ _ v u Q I rx ry ⟨_, _, _, _, rfl, rfl, SqT.of h1, h2, h3⟩ hs
    · exact h.elim
  · obtain ⟨h1, c, h2, h3⟩ := h
    exact ix_str value slice pins s σ H _ _ v u Q I rx ry ⟨_, _, _, rfl, rfl, h1, h2, h3⟩ hs
  · exact h.elim
theorem sl_A : SlR X rSlA := by
  intro pins s σ H x v vl vu lo hi sl Q I rx hs pl pu h
  unfold rSlA at h
  split at h
  · split at h
    · rename_i h1
      exact sl_list pins s σ H _ v vl vu lo hi sl Q I rx hs pl pu ⟨_, _, rfl, SqL.of h1, h⟩
    · rename_i h1
      exact sl_tup pins s σ H _ v vl vu lo hi sl Q I rx hs pl pu ⟨_, _, rfl, SqT.of h1, h⟩
    · exact h.elim
  · exact h.elim
theorem call_lenA : CallR X (.builtin "len") rLenA := by
  intro pins s σ H vs us Q I r h
  unfold rLenA at h
  split at h
  · exact call_len_str pins s σ H _ us Q I r ⟨_, rfl, h⟩
  · split at h
    · rename_i h1
      exact call_len_seq pins s σ H _ us Q I r ⟨_, _, rfl, .inl (SqL.of h1), h⟩
    · rename_i h1
      exact call_len_seq pins s σ H _ us Q I r ⟨_, _, rfl, .inr (SqT.of h1), h⟩
    · rename_i h1
      exact call_lenD pins s σ H _ us Q I r ⟨_, _, rfl, h1, h⟩
    · exact h.elim
  · exact h.elim
theorem call_intA : CallR X (.type "int") rIntA := by
  intro pins s σ H vs us Q I r h
  unfold rIntA at h
  split at h
  · exact call_int1 pins s σ H _ us Q I r (.inl ⟨_, rfl, h⟩)
  · exact call_int1 pins s σ H _ us Q I r (.inr ⟨_, rfl, h⟩)
  · exact h.elim
theorem call_absA : CallR X (.builtin "abs") rAbsA := by
  intro pins s σ H vs us Q I r h
  unfold rAbsA at h
  split at h
  · exact call_abs pins s σ H _ us Q I r ⟨_, rfl, h⟩
  · exact h.elim
theorem call_listA : CallR X (.type "list") rListA := by
  intro pins s σ H vs us Q I r h
  unfold rListA at h
  split at h
  · split at h
    · rename_i h1
      exact call_list_of pins s σ H _ us Q I r ⟨_, _, rfl, .inl (SqL.of h1), h⟩
    · rename_i h1
      exact call_list_of pins s σ H _ us Q I r ⟨_, _, rfl, .inr (SqT.of h1), h⟩
    · exact h.elim
  · exact h.elim
theorem call_tupA : CallR X (.type "tuple") rTupA := by
  intro pins s σ H vs us Q I r h
  unfold rTupA at h
  split at h
  · split at h
    · rename_i h1
      exact call_tuple_of pins s σ H _ us Q I r ⟨_, _, rfl, .inl ⟨SqL.of h1, h⟩⟩
    · rename_i h1
      exact call_tuple_of pins s σ H _ us Q I r ⟨_, _, rfl, .inr ⟨SqT.of h1, h⟩⟩
    · exact h.elim
  · exact h.elim
theorem tyN_ok {K : PySem.W.Frag} {x : V} {H : Hp} {t : String} (h : tyN x H = some t) : TyX K H x (.type t) := by
  unfold tyN at h
  split at h
  · cases h; exact .base .non
  · cases h; exact .base (.bl _)
  · cases h; exact .base (.int _)
  · cases h; exact .base (.str _)
  · split at h
    · rename_i h1; cases h; exact .base (.lst h1)
    · rename_i h1; cases h; exact .base (.tup h1)
    · rename_i h1; cases h; exact .base (.dK h1)
    · rename_i h1; cases h; exact .base (.dT h1)
    · cases h
  · cases h
theorem call_isiA : CallR X (.builtin "isinstance") rIsiA := by
  intro pins s σ H vs us Q I r h
  unfold rIsiA at h
  split at h
  · split at h
    · rename_i h1
      obtain ⟨b, h2, h3⟩ := h
      exact call_isi pins s σ H _ us Q I r ⟨_, _, _, _, b, rfl, .ty _, tyN_ok h1, kit_ty h2, h3⟩
    · exact h.elim
  · exact h.elim
theorem isL_ty {K : PySem.W.Frag} {x : V} {H : Hp} (h : isL x H) : tyV K "list" x H := by
  unfold isL at h
  split at h
  · split at h
    · rename_i h1
      exact .inl ⟨rfl, _, SqL.of h1⟩
    · exact h.elim
  · exact h.elim
theorem mt_appA : MtR X "list.append" rAppA := by
  intro pins s σ H x vs v us Q I rx rv h
  unfold rAppA at h
  split at h
  · split at h
    · rename_i h1
      exact mt_append pins s σ H _ _ v us Q I rx rv ⟨_, _, _, rfl, rfl, h1, h⟩
    · exact h.elim
  · exact h.elim
theorem mt_extA : MtR X "list.extend" rExtA := by
  intro pins s σ H x vs v us Q I rx rv h
  unfold rExtA at h
  split at h
  · split at h
    · rename_i h1 h2
      exact mt_extend pins s σ H _ _ v us Q I rx rv ⟨_, _, _, _, rfl, rfl, h1, h2, h⟩
    · exact h.elim
  · exact h.elim
theorem mt_popL : MtR X "list.pop" rPopL := by
  intro pins s σ H x vs v us Q I rx rv h
  unfold rPopL at h
  split at h
  · split at h
    · rename_i h1
      obtain ⟨y, h2, h3⟩ := h
      exact mt_pop pins s σ H _ _ v us Q I rx rv ⟨_, _, _, rfl, rfl, h1, h2, h3⟩
    · exact h.elim
  · exact h.elim
theorem seqIx_nat {n k : Nat} (h : k < n) : seqIndex? (k : Int) n = some k := by
  obtain ⟨h1, _⟩ := ixN_seq (n := n) (i := (k : Int)) (j := k) (by unfold ixN; rw [if_pos (by omega), if_pos (by omega)]; simp)
  exact h1
theorem mt_popI : MtR X "list.pop" rPopI := by
  intro pins s σ H x vs v us Q I rx rv h
  unfold rPopI at h
  split at h
  · split at h
    · rename_i h1
      obtain ⟨k, y, h2, h3, h4, h5⟩ := h
      have hk := (List.getElem?_eq_some_iff.mp h4).1
      subst h2
      exact mt_popAt pins s σ H _ _ v us Q I rx rv ⟨_, _, _, k, y, rfl, rfl, h1, by omega, by omega, seqIx_nat hk, h4, h5⟩
    · exact h.elim
  · exact h.elim
theorem set_A : PSet X rSetA := by
  intro pins s σ H o i v ov iv u Q I ro ri rv h
  unfold rSetA at h
  split at h
  · split at h
    · rename_i h1
      obtain ⟨j, h2, h3⟩ := h
      exact set_list pins s σ H _ _ v ov iv u Q I ro ri rv ⟨_, _, _, _, rfl, rfl, h1, h2, h3⟩
    · exact h.elim
  · exact h.elim
variable {o e : Expr} {es : List Expr} {to : TE} {t : TA} {name : Str} {apos cpos : Pos} {id : String} {r : V → List V → Hp → VK → Prop}
theorem pe_bml0 (slot : Slot "list" name id) (hty : typeOf (.builtin id) = pure (.type "method_descriptor")) (hm : MtR X id r) (ho : PE X o to)
    (hbase : attributeBase o name X.env (eval o X.env) = eval o X.env := by rfl) (hline : (apos.endLine == cpos.line) = true := by rfl) : PE X (.Call (.Attribute o name apos) [] [] cpos) (tBML r to tNil) :=
  pe_imp (pe_bm0 PySem.F.plainAttrs_list slot hty hm (pe_up ho) hbase hline) fun σ H Q h => ⟨_, h, fun x H' q => ⟨isL_ty q.1, q.2⟩⟩
theorem pe_bml (slot : Slot "list" name id) (hty : typeOf (.builtin id) = pure (.type "method_descriptor")) (hm : MtR X id r) (ho : PE X o to) (ha : PA X (e :: es) t)
    (hbase : attributeBase o name X.env (eval o X.env) = eval o X.env := by rfl)
    (hfew : ((backTo cpos (starEach (e :: es) X.env)).all (fun x => !x.1) && (backToKw cpos (keywordEach [] X.env)).all (fun x => x.1.isSome)
      && decide ((e :: es).length + ([] : List Keyword).length + (if ([] : List Keyword).isEmpty then 0 else 1) < 30)) = true := by rfl)
    (hline : (apos.endLine == cpos.line) = true := by rfl) (hs : starEach (e :: es) X.env = (false, eval e X.env) :: starEach es X.env := by rfl) (hplain : (backTo cpos (starEach es X.env)).any (·.1) = false := by rfl) :
    PE X (.Call (.Attribute o name apos) (e :: es) [] cpos) (tBML r to t) :=
  pe_imp (pe_bm PySem.F.plainAttrs_list slot hty hm (pe_up ho) ha hbase hfew hline hs hplain) fun σ H Q h => ⟨_, h, fun x H' q => ⟨isL_ty q.1, q.2⟩⟩
end
end Lb
set_option Elab.async false
set_option linter.all false
set_option maxRecDepth 100000
set_option maxHeartbeats 4000000
/-! Lc: what simp steps by, data in the heap, mutable places, the drawing of numbers. Knows no program. -/
namespace Lb
open PySem PySem.Spec PyProof.Rows L2

/-! ### steps of the readings, each at its arguments -/
section
variable {σ : L2.St} {H : Hp} {Q : VK} {D : Ends}
theorem ap_seq {t u : TS} : tSeq t u D σ H = t { D with nx := u D } σ H := rfl
theorem ap_asg {te : TE} {g : TG} : tAsg te g D σ H = te σ H fun x H1 => g x σ H1 D.nx := rfl
theorem ap_gname {i : Nat} {v : V} {R : L2.St → Hp → Prop} : gName i v σ H R = R (σ.set i (some v)) H := rfl
theorem ap_var {i : Nat} : tVar i σ H Q = ∃ v, σ[i]? = some (some v) ∧ Q v H := rfl
theorem ap_c {v : V} : tC v σ H Q = Q v H := rfl
theorem ap_op {r : R2} {ta tb : TE} : tOp r ta tb σ H Q = ta σ H fun x H1 => tb σ H1 fun y H2 => r x y H2 Q := rfl
theorem ap_un {r : V → Hp → VK → Prop} {ta : TE} : tUn r ta σ H Q = ta σ H fun x H1 => r x H1 Q := rfl
theorem ap_rU {g : Int → V} {i : Int} : rU g (.int i) H Q = Q (g i) H := by
  apply propext
  constructor
  · rintro ⟨j, e, q⟩
    cases e
    exact q
  · intro q
    exact ⟨_, rfl, q⟩
theorem ap_rI0 {g : Int → Int → V} {i j : Int} : rI0 g (.int i) (.int j) H Q = Q (g i j) H := by
  apply propext
  constructor
  · rintro ⟨a, b, e1, e2, q⟩
    cases e1
    cases e2
    exact q
  · intro q
    exact ⟨_, _, rfl, rfl, q⟩
theorem ap_rI {C : Int → Int → Prop} {g : Int → Int → V} {i j : Int} : rI C g (.int i) (.int j) H Q = (C i j ∧ Q (g i j) H) := by
  apply propext
  constructor
  · rintro ⟨a, b, e1, e2, q⟩
    cases e1
    cases e2
    exact q
  · intro q
    exact ⟨_, _, rfl, rfl, q⟩
theorem ap_ifS {c : TT} {t u : TS} : tIfS c t u D σ H = c σ H fun b H1 => if b = true then t D σ H1 else u D σ H1 := rfl
theorem ap_test {t : TE} {R : Bool → Hp → Prop} : tTest t σ H R = t σ H fun x H' => ∃ k, x = .bl k ∧ R k H' := rfl
theorem ap_B {t : TE} {R : Bool → Hp → Prop} : tB t σ H R = t σ H fun x H' => ∃ k, x = .bl k ∧ R k H' := rfl
theorem ap_bl {b : Bool} {R : Bool → Hp → Prop} : (∃ k, V.bl b = .bl k ∧ R k H) = R b H := by
  apply propext
  constructor
  · rintro ⟨k, e, q⟩
    cases e
    exact q
  · intro q
    exact ⟨_, rfl, q⟩
theorem ap_ret {te : TE} : tRet te D σ H = te σ H D.rt := rfl
theorem ap_retN : tRetN D σ H = D.rt .non H := rfl
theorem ap_drop {te : TE} : tDrop te D σ H = te σ H fun _ H1 => D.nx σ H1 := rfl
theorem ap_next : tNext D σ H = D.nx σ H := rfl
theorem ap_brk : tBreak D σ H = D.bk σ H := rfl
theorem ap_cnt : tCont D σ H = D.ct σ H := rfl
theorem ap_and {t u : TT} {R : Bool → Hp → Prop} : tAnd t u σ H R = t σ H fun c H1 => if c = true then u σ H1 R else R false H1 := rfl
theorem ap_or {t u : TT} {R : Bool → Hp → Prop} : tOr t u σ H R = t σ H fun c H1 => if c = true then R true H1 else u σ H1 R := rfl
theorem ap_not {t : TT} {R : Bool → Hp → Prop} : tNot t σ H R = t σ H fun c H1 => R (!c) H1 := rfl
theorem ap_andV {ta tb : TE} : tAndV ta tb σ H Q = ta σ H fun x H1 => ∃ c, x = .bl c ∧ if c = true then tb σ H1 Q else Q (.bl false) H1 := rfl
theorem ap_orV {ta tb : TE} : tOrV ta tb σ H Q = ta σ H fun x H1 => ∃ c, x = .bl c ∧ if c = true then Q (.bl true) H1 else tb σ H1 Q := rfl
theorem ap_notV {ta : TE} : tNotV ta σ H Q = ta σ H fun x H1 => ∃ c, x = .bl c ∧ Q (.bl (!c)) H1 := rfl
theorem ap_if {t : TT} {ta tb : TE} : tIf t ta tb σ H Q = t σ H fun c H1 => if c = true then ta σ H1 Q else tb σ H1 Q := rfl
theorem ap_call {sp : Sp} {dvs : List V} {E : XK} {t : TA} : tCall sp dvs E t σ H Q = t σ H fun vs H1 => sp (vs ++ dvs) H1 Q E := rfl
theorem ap_cb {r : List V → Hp → VK → Prop} {t : TA} : tCB r t σ H Q = t σ H fun vs H1 => r vs H1 Q := rfl
theorem ap_cons {ta : TE} {tr : TA} {R : List V → Hp → Prop} : tCons ta tr σ H R = ta σ H fun x H1 => tr σ H1 fun xs H2 => R (x :: xs) H2 := rfl
theorem ap_nil {R : List V → Hp → Prop} : tNil σ H R = R [] H := rfl
theorem ap_tup {t : TA} : tTup t σ H Q = t σ H fun xs H1 => xs.length ≤ sizeLine ∧ ∀ p, H1 p = none → Q (.ref p) (upd H1 p (.tup xs)) := rfl
theorem ap_lst {t : TA} : tLst t σ H Q = t σ H fun xs H1 => xs.length ≤ sizeLine ∧ ∀ p, H1 p = none → Q (.ref p) (upd H1 p (.lst xs)) := rfl
theorem ap_bml {r : V → List V → Hp → VK → Prop} {to : TE} {t : TA} : tBML r to t σ H Q = to σ H fun x H1 => isL x H1 ∧ t σ H1 fun xs H2 => r x xs H2 Q := rfl
theorem ap_gsub {to ti : TE} {t : TSet} {v : V} {R : L2.St → Hp → Prop} : gSub to ti t v σ H R = to σ H fun o H1 => ti σ H1 fun i H2 => t o i v H2 fun H3 => R σ H3 := rfl
theorem ap_sl {r : V → Option Int → Option Int → Hp → VK → Prop} {te : TE} {tl th : TO} : tSl r te tl th σ H Q = te σ H fun x H1 => tl σ H1 fun l H2 => th σ H2 fun u H3 => r x l u H3 Q := rfl
theorem ap_nop {R : Option Int → Hp → Prop} : tNoPart σ H R = R none H := rfl
theorem ap_part {t : TE} {R : Option Int → Hp → Prop} : tPart t σ H R = t σ H fun x H1 => ∃ i, x = .int i ∧ R (some i) H1 := rfl
theorem ap_prt {i : Int} {R : Option Int → Hp → Prop} : (∃ j, V.int i = .int j ∧ R (some j) H) = R (some i) H := by
  apply propext
  constructor
  · rintro ⟨k, e, q⟩
    cases e
    exact q
  · intro q
    exact ⟨_, rfl, q⟩
theorem ap_isN {x : V} : rIsN x .non H Q = Q (.bl (decide (x = .non))) H := by
  apply propext
  constructor
  · rintro ⟨_, q⟩
    exact q
  · intro q
    exact ⟨rfl, q⟩
theorem ap_notN {x : V} : rNotN x .non H Q = Q (.bl (!decide (x = .non))) H := by
  apply propext
  constructor
  · rintro ⟨_, q⟩
    exact q
  · intro q
    exact ⟨rfl, q⟩
theorem ap_yes {R : Bool → Hp → Prop} : tYes σ H R = R true H := rfl
theorem ap_rng1 {ta : TA} {R : It → Hp → Prop} : iRng1 ta σ H R = ta σ H fun vs H1 => ∃ j : Int, vs = [.int j] ∧ -(2 ^ 62) ≤ j ∧ j < 2 ^ 62 ∧ R (Itr 0 j.toNat) H1 := rfl
theorem ap_rng1' {j : Int} {R : It → Hp → Prop} : (∃ i : Int, [V.int j] = [.int i] ∧ -(2 ^ 62) ≤ i ∧ i < 2 ^ 62 ∧ R (Itr 0 i.toNat) H) = (-(2 ^ 62) ≤ j ∧ j < 2 ^ 62 ∧ R (Itr 0 j.toNat) H) := by
  apply propext
  constructor
  · rintro ⟨k, e, q⟩
    cases e
    exact q
  · intro q
    exact ⟨_, rfl, q⟩
theorem ite_tt {A B : Prop} : (if true = true then A else B) = A := if_pos rfl
theorem ite_ff {A B : Prop} : (if false = true then A else B) = B := if_neg Bool.false_ne_true
end

/-! ### heaps that grow -/
theorem Same.newp {H : Hp} {p : Addr} {o : HO} (h : H p = none) : Same H (upd H p o) := fun b u e => by
  rw [upd_ne (ne_of_none e h)]
  exact e
/-- the heap without the places of S -/
def hid (S : List Addr) (H : Hp) : Hp := fun b => if b ∈ S then none else H b
theorem hid_out {S : List Addr} {H : Hp} {b : Addr} (h : b ∉ S) : hid S H b = H b := if_neg h
theorem hid_in {S : List Addr} {H : Hp} {b : Addr} (h : b ∈ S) : hid S H b = none := if_pos h
theorem hid_sub {S : List Addr} {H : Hp} : Same (hid S H) H := fun b o e => by
  by_cases h : b ∈ S
  · rw [hid_in h] at e
    cases e
  · rw [hid_out h] at e
    exact e
theorem hid_some {S : List Addr} {H : Hp} {b : Addr} {o : HO} (h : hid S H b = some o) : H b = some o ∧ b ∉ S := by
  by_cases q : b ∈ S
  · rw [hid_in q] at h
    cases h
  · rw [hid_out q] at h
    exact ⟨h, q⟩
theorem hid_upd {S : List Addr} {H : Hp} {a : Addr} {o : HO} (h : a ∈ S) : hid S (upd H a o) = hid S H := by
  funext b
  by_cases q : b ∈ S
  · rw [hid_in q, hid_in q]
  · rw [hid_out q, hid_out q, upd_ne fun e => q (by rw [e]; exact h)]
theorem hid_updN {S : List Addr} {H : Hp} {a : Addr} {o : HO} (h : a ∉ S) : hid S (upd H a o) = upd (hid S H) a o := by
  funext b
  by_cases q : b ∈ S
  · rw [hid_in q, upd_ne (fun e => h (by rw [← e]; exact q)), hid_in q]
  · rw [hid_out q]
    by_cases e : b = a
    · rw [e, upd_same, upd_same]
    · rw [upd_ne e, upd_ne e, hid_out q]
theorem hid_eq {S : List Addr} {H H' : Hp} (h : ∀ b, b ∉ S → H' b = H b) : hid S H' = hid S H := by
  funext b
  by_cases q : b ∈ S
  · rw [hid_in q, hid_in q]
  · rw [hid_out q, hid_out q, h b q]
theorem hid_mono {S S' : List Addr} {H : Hp} (h : ∀ b, b ∈ S → b ∈ S') : Same (hid S' H) (hid S H) := fun b o e => by
  obtain ⟨e1, e2⟩ := hid_some e
  rw [hid_out fun q => e2 (h b q)]
  exact e1
theorem Same.hid {S : List Addr} {H H' : Hp} (h : Same H H') : Same (hid S H) (hid S H') := fun b o e => by
  obtain ⟨e1, e2⟩ := hid_some e
  rw [hid_out e2]
  exact h b o e1

/-! ### data -/
mutual
inductive Dt (H : Hp) : V → PyData → Prop
  | non : Dt H .non .none
  | bl (b : Bool) : Dt H (.bl b) (.bool b)
  | int (i : Int) : Dt H (.int i) (.int i)
  | str (x : Str) : Dt H (.str x) (.str x)
  | lst {a : Addr} {xs : List V} {ds : List PyData} : H a = some (.lst xs) → DtAll H xs ds → Dt H (.ref a) (.list ds)
  | tup {a : Addr} {xs : List V} {ds : List PyData} : H a = some (.tup xs) → DtAll H xs ds → Dt H (.ref a) (.tuple ds)
inductive DtAll (H : Hp) : List V → List PyData → Prop
  | nil : DtAll H [] []
  | cons {v : V} {vs : List V} {d : PyData} {ds : List PyData} : Dt H v d → DtAll H vs ds → DtAll H (v :: vs) (d :: ds)
end
mutual
theorem Dt.mono {H H' : Hp} (e : Same H H') : ∀ {v : V} {d : PyData}, Dt H v d → Dt H' v d
  | _, _, .non => .non
  | _, _, .bl b => .bl b
  | _, _, .int i => .int i
  | _, _, .str x => .str x
  | _, _, .lst h k => .lst (e _ _ h) (DtAll.mono e k)
  | _, _, .tup h k => .tup (e _ _ h) (DtAll.mono e k)
theorem DtAll.mono {H H' : Hp} (e : Same H H') : ∀ {vs : List V} {ds : List PyData}, DtAll H vs ds → DtAll H' vs ds
  | _, _, .nil => .nil
  | _, _, .cons h k => .cons (Dt.mono e h) (DtAll.mono e k)
end
mutual
theorem Dt.dp {K : PySem.W.Frag} {H : Hp} : ∀ {v : V} {d : PyData}, Dt H v d → Dp K H v d
  | _, _, .non => .non
  | _, _, .bl b => .bl b
  | _, _, .int i => .int i
  | _, _, .str x => .str x
  | _, _, .lst h k => .lst (SqL.of h) (DtAll.dp k)
  | _, _, .tup h k => .tup (SqT.of h) (DtAll.dp k)
theorem DtAll.dp {K : PySem.W.Frag} {H : Hp} : ∀ {vs : List V} {ds : List PyData}, DtAll H vs ds → DpAll K H vs ds
  | _, _, .nil => .nil
  | _, _, .cons h k => .cons (Dt.dp h) (DtAll.dp k)
end
section
variable {H : Hp}
theorem DtAll.append : ∀ {xs ys : List V} {ds es : List PyData}, DtAll H xs ds → DtAll H ys es → DtAll H (xs ++ ys) (ds ++ es)
  | _, _, _, _, .nil, k => k
  | _, _, _, _, .cons a b, k => .cons a (DtAll.append b k)
theorem DtAll.length : ∀ {xs : List V} {ds : List PyData}, DtAll H xs ds → xs.length = ds.length
  | _, _, .nil => rfl
  | _, _, .cons _ k => by rw [List.length_cons, List.length_cons, DtAll.length k]
theorem DtAll.get : ∀ {xs : List V} {ds : List PyData} {i : Nat} {d : PyData}, DtAll H xs ds → ds[i]? = some d → ∃ v, xs[i]? = some v ∧ Dt H v d
  | _, _, _, _, .nil, e => by simp at e
  | _, _, 0, _, .cons a _, e => by simp at e; subst e; exact ⟨_, rfl, a⟩
  | _, _, i + 1, d, .cons _ k, e => by
    obtain ⟨v, h1, h2⟩ := DtAll.get (i := i) (d := d) k (by simpa using e)
    exact ⟨v, by simpa using h1, h2⟩
theorem DtAll.get' : ∀ {xs : List V} {ds : List PyData} {i : Nat} {v : V}, DtAll H xs ds → xs[i]? = some v → ∃ d, ds[i]? = some d ∧ Dt H v d
  | _, _, _, _, .nil, e => by simp at e
  | _, _, 0, _, .cons a _, e => by simp at e; subst e; exact ⟨_, rfl, a⟩
  | _, _, i + 1, v, .cons _ k, e => by
    obtain ⟨d, h1, h2⟩ := DtAll.get' (i := i) (v := v) k (by simpa using e)
    exact ⟨d, by simpa using h1, h2⟩
theorem DtAll.ints : ∀ ns : List Int, DtAll H (ns.map V.int) (ns.map PyData.int)
  | [] => .nil
  | n :: r => .cons (.int n) (DtAll.ints r)
theorem DtAll.intsI : ∀ {ns : List Int} {vs : List V}, DtAll H vs (ns.map PyData.int) → vs = ns.map V.int
  | [], _, .nil => rfl
  | n :: r, _, .cons (.int _) k => by rw [DtAll.intsI k]; rfl
theorem DtAll.take : ∀ {xs : List V} {ds : List PyData} (n : Nat), DtAll H xs ds → DtAll H (xs.take n) (ds.take n)
  | _, _, 0, _ => .nil
  | _, _, _ + 1, .nil => .nil
  | _, _, n + 1, .cons a k => .cons a (DtAll.take n k)
theorem DtAll.drop : ∀ {xs : List V} {ds : List PyData} (n : Nat), DtAll H xs ds → DtAll H (xs.drop n) (ds.drop n)
  | _, _, 0, k => k
  | _, _, _ + 1, .nil => .nil
  | _, _, n + 1, .cons _ k => DtAll.drop n k
theorem DtAll.set : ∀ {xs : List V} {ds : List PyData} {v : V} {d : PyData} (i : Nat), Dt H v d → DtAll H xs ds → DtAll H (xs.set i v) (ds.set i d)
  | _, _, _, _, _, _, .nil => .nil
  | _, _, _, _, 0, h, .cons _ k => .cons h k
  | _, _, _, _, i + 1, h, .cons a k => .cons a (DtAll.set i h k)
theorem DtAll.erase : ∀ {xs : List V} {ds : List PyData} (i : Nat), DtAll H xs ds → DtAll H (xs.eraseIdx i) (ds.eraseIdx i)
  | _, _, _, .nil => .nil
  | _, _, 0, .cons _ k => k
  | _, _, i + 1, .cons a k => .cons a (DtAll.erase i k)
theorem DtAll.rev {xs : List V} {ds : List PyData} (h : DtAll H xs ds) : DtAll H xs.reverse ds.reverse := by
  induction xs generalizing ds with
  | nil => cases h; exact .nil
  | cons x r ih =>
    cases h with
    | cons a k =>
      rw [List.reverse_cons, List.reverse_cons]
      exact DtAll.append (ih k) (.cons a .nil)
end
/-- data that are equal as Python says, where it can be looked at -/
abbrev Shp (d : PyData) : Prop := SeqAt.shaped d = true
theorem eqv_self {d : PyData} (h : Shp d) : PyData.eqv d d = true := SeqAt.eqv_refl d (SeqAt.canLay_of_shaped h)
section
variable {K : PySem.W.Frag} {H : Hp} {Q : VK} {x y : V} {d e : PyData}
/-- a == b of two data -/
theorem rd_eq (hx : Dt H x d) (hy : Dt H y e) (h1 : Shp d) (h2 : Shp e) (q : Q (.bl (PyData.eqv d e)) H) : rEqA K x y H Q := by
  unfold rEqA
  split
  · rename_i b h
    obtain ⟨h3, h4⟩ := eqF_ok h
    have e1 : PyData.eqv d e = b := by
      cases hx <;> cases hy <;> simp_all [eqF, PyData.eqv] <;> (rw [← h]; exact Bool.eq_iff_iff.mpr (by simp))
    rw [← e1]
    exact q
  · exact ⟨d, e, hx.dp, hy.dp, h1, h2, q⟩
theorem rd_ne (hx : Dt H x d) (hy : Dt H y e) (h1 : Shp d) (h2 : Shp e) (q : Q (.bl (!PyData.eqv d e)) H) : rNeA K x y H Q := by
  unfold rNeA
  split
  · rename_i b h
    obtain ⟨h3, h4⟩ := eqF_ok h
    have e1 : PyData.eqv d e = b := by
      cases hx <;> cases hy <;> simp_all [eqF, PyData.eqv] <;> (rw [← h]; exact Bool.eq_iff_iff.mpr (by simp))
    rw [← e1]
    exact q
  · exact ⟨d, e, hx.dp, hy.dp, h1, h2, q⟩
/-- the same data on both sides -/
theorem rd_eqT (hx : Dt H x d) (hy : Dt H y d) (h1 : Shp d) (q : Q (.bl true) H) : rEqA K x y H Q := rd_eq hx hy h1 h1 (by rw [eqv_self h1]; exact q)
theorem rd_neF (hx : Dt H x d) (hy : Dt H y d) (h1 : Shp d) (q : Q (.bl false) H) : rNeA K x y H Q := rd_ne hx hy h1 h1 (by rw [eqv_self h1]; exact q)
end
end Lb
set_option Elab.async false
set_option linter.all false
set_option maxRecDepth 100000
set_option maxHeartbeats 4000000
/-! Ld: the steps of a reading, one lemma a step; the drawing of numbers. Knows no program. -/
namespace Lb
open PySem PySem.Spec PyProof.Rows L2
section
variable {σ : L2.St} {H : Hp} {Q : VK} {nx : L2.St → Hp → Prop} {rt : VK} {bk ct : L2.St → Hp → Prop}
/-- a value as a test -/
def tTru (K : PySem.W.Frag) (ta : TE) : TT := fun σ H Q => ta σ H fun x H' => ∃ k, TruV K x H' k ∧ Q k H'
theorem i_seq {t u : TS} (q : t ⟨fun σ H => u ⟨nx, rt, bk, ct⟩ σ H, rt, bk, ct⟩ σ H) : tSeq t u ⟨nx, rt, bk, ct⟩ σ H := q
theorem i_asg {te : TE} {g : TG} (q : te σ H fun x H1 => g x σ H1 nx) : tAsg te g ⟨nx, rt, bk, ct⟩ σ H := q
theorem i_gname {i : Nat} {v : V} {R : L2.St → Hp → Prop} (q : R (σ.set i (some v)) H) : gName i v σ H R := q
theorem i_ifS {c : TT} {t u : TS} (q : c σ H fun b H1 => if b = true then t ⟨nx, rt, bk, ct⟩ σ H1 else u ⟨nx, rt, bk, ct⟩ σ H1) : tIfS c t u ⟨nx, rt, bk, ct⟩ σ H := q
theorem i_ret {te : TE} (q : te σ H rt) : tRet te ⟨nx, rt, bk, ct⟩ σ H := q
theorem i_retN (q : rt .non H) : tRetN ⟨nx, rt, bk, ct⟩ σ H := q
theorem i_drop {te : TE} (q : te σ H fun _ H1 => nx σ H1) : tDrop te ⟨nx, rt, bk, ct⟩ σ H := q
theorem i_next (q : nx σ H) : tNext ⟨nx, rt, bk, ct⟩ σ H := q
theorem i_brk (q : bk σ H) : tBreak ⟨nx, rt, bk, ct⟩ σ H := q
theorem i_cnt (q : ct σ H) : tCont ⟨nx, rt, bk, ct⟩ σ H := q
theorem i_par {i j : Nat} {ta : TA} (q : ta σ H fun vs H1 => ∃ v w, vs = [v, w] ∧ nx ((σ.set i (some v)).set j (some w)) H1) : tPar i j ta ⟨nx, rt, bk, ct⟩ σ H := q
theorem i_par2 {v w : V} {P : V → V → Prop} (q : P v w) : (∃ v' w', [v, w] = [v', w'] ∧ P v' w') := ⟨_, _, rfl, q⟩
theorem i_fldS {K : PySem.W.Frag} {ta tv : TE} {f : Str} (q : tv σ H fun y H1 => ta σ H1 fun x H2 => ∃ a C dx fs, x = .ref a ∧ H2 a = some (.ins C dx fs) ∧ Cls K C ∧ NoAttr K C f ∧ fs.length < 1000 ∧ nx σ (upd H2 a (.ins C dx (putF f y fs)))) : sFld K ta tv f ⟨nx, rt, bk, ct⟩ σ H := q
theorem i_dput {td ty tv : TE} (q : tv σ H fun v H1 => td σ H1 fun x H2 => ty σ H2 fun y H3 => ∃ a H4, x = .ref a ∧ DPut H3 a y v H4 ∧ nx σ H4) : sDPut td ty tv ⟨nx, rt, bk, ct⟩ σ H := q
theorem i_var {i : Nat} {v : V} (h : σ[i]? = some (some v)) (q : Q v H) : tVar i σ H Q := ⟨v, h, q⟩
theorem i_tB {b : Bool} {A B : Prop} (h : b = true) (q : A) : (if b = true then A else B) := by rw [if_pos h]; exact q
theorem i_fB {b : Bool} {A B : Prop} (h : b = false) (q : B) : (if b = true then A else B) := by rw [h, if_neg Bool.false_ne_true]; exact q
theorem i_c {v : V} (q : Q v H) : tC v σ H Q := q
theorem i_op {r : R2} {ta tb : TE} (q : ta σ H fun x H1 => tb σ H1 fun y H2 => r x y H2 Q) : tOp r ta tb σ H Q := q
theorem i_un {r : V → Hp → VK → Prop} {ta : TE} (q : ta σ H fun x H1 => r x H1 Q) : tUn r ta σ H Q := q
theorem i_rU {g : Int → V} {i : Int} (q : Q (g i) H) : rU g (.int i) H Q := ⟨i, rfl, q⟩
theorem i_rI0 {g : Int → Int → V} {i j : Int} (q : Q (g i j) H) : rI0 g (.int i) (.int j) H Q := ⟨i, j, rfl, rfl, q⟩
theorem i_rI {C : Int → Int → Prop} {g : Int → Int → V} {i j : Int} (c : C i j) (q : Q (g i j) H) : rI C g (.int i) (.int j) H Q := ⟨i, j, rfl, rfl, c, q⟩
theorem i_test {t : TE} {R : Bool → Hp → Prop} (q : t σ H fun x H' => ∃ k, x = .bl k ∧ R k H') : tTest t σ H R := q
theorem i_B {t : TE} {R : Bool → Hp → Prop} (q : t σ H fun x H' => ∃ k, x = .bl k ∧ R k H') : tB t σ H R := q
theorem i_bl {b : Bool} {R : Bool → Prop} (q : R b) : (∃ k, V.bl b = .bl k ∧ R k) := ⟨b, rfl, q⟩
theorem i_tru {K : PySem.W.Frag} {te : TE} {R : Bool → Hp → Prop} (q : te σ H fun x H' => ∃ k, TruV K x H' k ∧ R k H') : tTru K te σ H R := q
theorem i_truB {K : PySem.W.Frag} {b : Bool} {R : Bool → Prop} (q : R b) : (∃ k, TruV K (.bl b) H k ∧ R k) := ⟨b, rfl, q⟩
theorem i_and {t u : TT} {R : Bool → Hp → Prop} (q : t σ H fun c H1 => if c = true then u σ H1 R else R false H1) : tAnd t u σ H R := q
theorem i_or {t u : TT} {R : Bool → Hp → Prop} (q : t σ H fun c H1 => if c = true then R true H1 else u σ H1 R) : tOr t u σ H R := q
theorem i_not {t : TT} {R : Bool → Hp → Prop} (q : t σ H fun c H1 => R (!c) H1) : tNot t σ H R := q
theorem i_andV {ta tb : TE} (q : ta σ H fun x H1 => ∃ c, x = .bl c ∧ if c = true then tb σ H1 Q else Q (.bl false) H1) : tAndV ta tb σ H Q := q
theorem i_orV {ta tb : TE} (q : ta σ H fun x H1 => ∃ c, x = .bl c ∧ if c = true then Q (.bl true) H1 else tb σ H1 Q) : tOrV ta tb σ H Q := q
theorem i_notV {ta : TE} (q : ta σ H fun x H1 => ∃ c, x = .bl c ∧ Q (.bl (!c)) H1) : tNotV ta σ H Q := q
theorem i_if {t : TT} {ta tb : TE} (q : t σ H fun c H1 => if c = true then ta σ H1 Q else tb σ H1 Q) : tIf t ta tb σ H Q := q
theorem i_call {sp : Sp} {E : XK} {t : TA} (q : t σ H fun vs H1 => sp (vs ++ []) H1 Q E) : tCall sp [] E t σ H Q := q
theorem i_meth {C : Addr} {m : Str} {sp : Sp} {E : XK} {ta : TE} {t : TA} (q : ta σ H fun x H1 => ∃ a dx fs, x = .ref a ∧ H1 a = some (.ins C dx fs) ∧ fs.lookup m = none ∧ t σ H1 fun vs H2 => sp (x :: (vs ++ [])) H2 Q E) : tMeth C m sp [] E ta t σ H Q := q
theorem i_make {C : Addr} {sp : Sp} {E : XK} {t : TA} (q : t σ H fun vs H1 => ∀ x dx, H1 x = none → H1 dx = none → dx ≠ x → sp (.ref x :: (vs ++ [])) (upd (upd H1 dx (.own x)) x (.ins C dx [])) (fun v H2 => v = .non ∧ Q (.ref x) H2) E) : tMake C sp [] E t σ H Q := q
theorem i_cb {r : List V → Hp → VK → Prop} {t : TA} (q : t σ H fun vs H1 => r vs H1 Q) : tCB r t σ H Q := q
theorem i_cons {ta : TE} {tr : TA} {R : List V → Hp → Prop} (q : ta σ H fun x H1 => tr σ H1 fun xs H2 => R (x :: xs) H2) : tCons ta tr σ H R := q
theorem i_nil {R : List V → Hp → Prop} (q : R [] H) : tNil σ H R := q
theorem i_tup {t : TA} (q : t σ H fun xs H1 => xs.length ≤ sizeLine ∧ ∀ p, H1 p = none → Q (.ref p) (upd H1 p (.tup xs))) : tTup t σ H Q := q
theorem i_lst {t : TA} (q : t σ H fun xs H1 => xs.length ≤ sizeLine ∧ ∀ p, H1 p = none → Q (.ref p) (upd H1 p (.lst xs))) : tLst t σ H Q := q
theorem i_bml {r : V → List V → Hp → VK → Prop} {to : TE} {t : TA} (q : to σ H fun x H1 => isL x H1 ∧ t σ H1 fun xs H2 => r x xs H2 Q) : tBML r to t σ H Q := q
theorem i_isL {l : Addr} {xs : List V} {R : Prop} (h : H l = some (.lst xs)) (q : R) : isL (.ref l) H ∧ R := ⟨by simp only [isL, h], q⟩
theorem i_gsub {to ti : TE} {t : TSet} {v : V} {R : L2.St → Hp → Prop} (q : to σ H fun o H1 => ti σ H1 fun i H2 => t o i v H2 fun H3 => R σ H3) : gSub to ti t v σ H R := q
theorem i_gtup {K : PySem.W.Frag} {n : Nat} {t : TGs} {a : Addr} {xs : List V} {R : L2.St → Hp → Prop} (h : H a = some (.tup xs)) (hn : xs.length = n) (q : t xs σ H R) : gTup K n t (.ref a) σ H R := ⟨a, xs, rfl, SqT.of h, hn, q⟩
theorem i_gcons {t : TG} {u : TGs} {v : V} {vs : List V} {R : L2.St → Hp → Prop} (q : t v σ H fun σ' H' => u vs σ' H' R) : gCons t u (v :: vs) σ H R := ⟨v, vs, rfl, q⟩
theorem i_gnil {R : L2.St → Hp → Prop} (q : R σ H) : gNil [] σ H R := ⟨rfl, q⟩
theorem i_sl {r : V → Option Int → Option Int → Hp → VK → Prop} {te : TE} {tl th : TO} (q : te σ H fun x H1 => tl σ H1 fun l H2 => th σ H2 fun u H3 => r x l u H3 Q) : tSl r te tl th σ H Q := q
theorem i_nop {R : Option Int → Hp → Prop} (q : R none H) : tNoPart σ H R := q
theorem i_part {t : TE} {R : Option Int → Hp → Prop} (q : t σ H fun x H1 => ∃ i, x = .int i ∧ R (some i) H1) : tPart t σ H R := q
theorem i_prt {i : Int} {R : Int → Prop} (q : R i) : (∃ j, V.int i = .int j ∧ R j) := ⟨i, rfl, q⟩
theorem i_isN {x : V} (q : Q (.bl (decide (x = .non))) H) : rIsN x .non H Q := ⟨rfl, q⟩
theorem i_notN {x : V} (q : Q (.bl (!decide (x = .non))) H) : rNotN x .non H Q := ⟨rfl, q⟩
theorem i_yes {R : Bool → Hp → Prop} (q : R true H) : tYes σ H R := q
theorem i_tt {A B : Prop} (q : A) : (if true = true then A else B) := by rw [if_pos rfl]; exact q
theorem i_ff {A B : Prop} (q : B) : (if false = true then A else B) := by rw [if_neg Bool.false_ne_true]; exact q
theorem i_dy {p : Prop} [Decidable p] {A B : Prop} (h : p) (q : A) : (if decide p = true then A else B) := by rw [if_pos (decide_eq_true h)]; exact q
theorem i_dn {p : Prop} [Decidable p] {A B : Prop} (h : ¬ p) (q : B) : (if decide p = true then A else B) := by rw [if_neg (by simp [h])]; exact q
theorem i_ny {p : Prop} [Decidable p] {A B : Prop} (h : ¬ p) (q : A) : (if (!decide p) = true then A else B) := by rw [if_pos (by simp [h])]; exact q
theorem i_nn {p : Prop} [Decidable p] {A B : Prop} (h : p) (q : B) : (if (!decide p) = true then A else B) := by rw [if_neg (by simp [h])]; exact q
theorem i_d2 {p : Prop} [Decidable p] {A B : Prop} (q1 : p → A) (q2 : ¬ p → B) : (if decide p = true then A else B) := by
  by_cases h : p
  · exact i_dy h (q1 h)
  · exact i_dn h (q2 h)
theorem i_n2 {p : Prop} [Decidable p] {A B : Prop} (q1 : ¬ p → A) (q2 : p → B) : (if (!decide p) = true then A else B) := by
  by_cases h : p
  · exact i_nn h (q2 h)
  · exact i_ny h (q1 h)
theorem i_ntt {A B : Prop} (q : B) : (if (!true) = true then A else B) := by rw [if_neg (by simp)]; exact q
theorem i_nff {A B : Prop} (q : A) : (if (!false) = true then A else B) := by rw [if_pos (by simp)]; exact q
theorem i_dnI {i : Int} {A B : Prop} (q : B) : (if decide (V.int i = V.non) = true then A else B) := i_dn (by intro h; cases h) q
theorem i_nyI {i : Int} {A B : Prop} (q : A) : (if (!decide (V.int i = V.non)) = true then A else B) := i_ny (by intro h; cases h) q
theorem i_dnR {i : Addr} {A B : Prop} (q : B) : (if decide (V.ref i = V.non) = true then A else B) := i_dn (by intro h; cases h) q
theorem i_nyR {i : Addr} {A B : Prop} (q : A) : (if (!decide (V.ref i = V.non)) = true then A else B) := i_ny (by intro h; cases h) q
theorem i_dnS {i : Str} {A B : Prop} (q : B) : (if decide (V.str i = V.non) = true then A else B) := i_dn (by intro h; cases h) q
theorem i_nyS {i : Str} {A B : Prop} (q : A) : (if (!decide (V.str i = V.non)) = true then A else B) := i_ny (by intro h; cases h) q
theorem i_addI {a b : Int} (q : Q (.int (a + b)) H) : rAddA (.int a) (.int b) H Q := q
theorem i_addS {a b : Str} (h : a.length + b.length ≤ sizeLine) (q : Q (.str (a ++ b)) H) : rAddA (.str a) (.str b) H Q := ⟨h, q⟩
theorem i_addL {p q : Addr} {xs ys : List V} (h1 : H p = some (.lst xs)) (h2 : H q = some (.lst ys)) (h : xs.length + ys.length ≤ sizeLine) (k : ∀ r, H r = none → Q (.ref r) (upd H r (.lst (xs ++ ys)))) : rAddA (.ref p) (.ref q) H Q := by simp only [rAddA, h1, h2]; exact ⟨h, k⟩
theorem i_mulI {a b : Int} (c : CMul a b) (q : Q (.int (a * b)) H) : rMulA (.int a) (.int b) H Q := ⟨c, q⟩
theorem i_eqF {K : PySem.W.Frag} {x y : V} {b : Bool} (h : eqF x y = some b) (q : Q (.bl b) H) : rEqA K x y H Q := by simp only [rEqA, h]; exact q
theorem i_neF {K : PySem.W.Frag} {x y : V} {b : Bool} (h : eqF x y = some b) (q : Q (.bl (!b)) H) : rNeA K x y H Q := by simp only [rNeA, h]; exact q
theorem i_eqI {K : PySem.W.Frag} {a b : Int} (q : Q (.bl (decide (a = b))) H) : rEqA K (.int a) (.int b) H Q := q
theorem i_neI {K : PySem.W.Frag} {a b : Int} (q : Q (.bl (!decide (a = b))) H) : rNeA K (.int a) (.int b) H Q := q
theorem i_eqS {K : PySem.W.Frag} {a b : Str} (q : Q (.bl (decide (a = b))) H) : rEqA K (.str a) (.str b) H Q := q
theorem i_neS {K : PySem.W.Frag} {a b : Str} (q : Q (.bl (!decide (a = b))) H) : rNeA K (.str a) (.str b) H Q := q
theorem i_ixL {p : Addr} {xs : List V} {i : Int} {v : V} (h : H p = some (.lst xs)) (hi : atI xs i = some v) (q : Q v H) : rIxA (.ref p) (.int i) H Q := by simp only [rIxA, h]; exact ⟨v, hi, q⟩
theorem i_ixT {p : Addr} {xs : List V} {i : Int} {v : V} (h : H p = some (.tup xs)) (hi : atI xs i = some v) (q : Q v H) : rIxA (.ref p) (.int i) H Q := by simp only [rIxA, h]; exact ⟨v, hi, q⟩
theorem i_slL {p : Addr} {xs : List V} {lo hi : Option Int} (h : H p = some (.lst xs)) (k : ∀ q, H q = none → Q (.ref q) (upd H q (.lst (cutV xs lo hi)))) : rSlA (.ref p) lo hi H Q := by simp only [rSlA, h]; exact k
theorem i_slT {p : Addr} {xs : List V} {lo hi : Option Int} (h : H p = some (.tup xs)) (c : ¬ (HT.sIx xs.length 0 lo = 0 ∧ HT.sIx xs.length xs.length hi = xs.length)) (k : ∀ q, H q = none → Q (.ref q) (upd H q (.tup (cutV xs lo hi)))) : rSlA (.ref p) lo hi H Q := by simp only [rSlA, h]; exact ⟨c, k⟩
theorem i_lenL {p : Addr} {xs : List V} (h : H p = some (.lst xs)) (q : Q (.int xs.length) H) : rLenA [.ref p] H Q := by simp only [rLenA, h]; exact q
theorem i_lenT {p : Addr} {xs : List V} (h : H p = some (.tup xs)) (q : Q (.int xs.length) H) : rLenA [.ref p] H Q := by simp only [rLenA, h]; exact q
theorem i_lenD {p : Addr} {kvs : List (Key × V)} (h : H p = some (.dK kvs)) (q : Q (.int kvs.length) H) : rLenA [.ref p] H Q := by simp only [rLenA, h]; exact q
theorem i_lenS {y : Str} (h : y.length ≤ sizeLine) (q : Q (.int y.length) H) : rLenA [.str y] H Q := ⟨h, q⟩
theorem i_intI {i : Int} (q : Q (.int i) H) : rIntA [.int i] H Q := q
theorem i_intB {k : Bool} (q : Q (.int (if k = true then 1 else 0)) H) : rIntA [.bl k] H Q := q
theorem i_abs {i : Int} (q : Q (.int (if i < 0 then -i else i)) H) : rAbsA [.int i] H Q := q
theorem i_listL {p : Addr} {xs : List V} (h : H p = some (.lst xs)) (k : ∀ l, H l = none → Q (.ref l) (upd H l (.lst xs))) : rListA [.ref p] H Q := by simp only [rListA, h]; exact k
theorem i_listT {p : Addr} {xs : List V} (h : H p = some (.tup xs)) (k : ∀ l, H l = none → Q (.ref l) (upd H l (.lst xs))) : rListA [.ref p] H Q := by simp only [rListA, h]; exact k
theorem i_tupL {p : Addr} {xs : List V} (h : H p = some (.lst xs)) (k : ∀ l, H l = none → Q (.ref l) (upd H l (.tup xs))) : rTupA [.ref p] H Q := by simp only [rTupA, h]; exact k
theorem i_isi {x : V} {T t : String} {b : Bool} (h1 : tyN x H = some t) (h2 : kitB t T = some b) (q : Q (.bl b) H) : rIsiA [x, .ty T] H Q := by simp only [rIsiA, h1]; exact ⟨b, h2, q⟩
theorem i_isiLL {p : Addr} {xs : List V} (h : H p = some (.lst xs)) (q : Q (.bl true) H) : rIsiA [.ref p, .ty "list"] H Q := i_isi (t := "list") (by simp only [tyN, h]) (by decide +kernel) q
theorem i_isiTL {p : Addr} {xs : List V} (h : H p = some (.tup xs)) (q : Q (.bl false) H) : rIsiA [.ref p, .ty "list"] H Q := i_isi (t := "tuple") (by simp only [tyN, h]) (by decide +kernel) q
theorem i_isiIB {i : Int} (q : Q (.bl false) H) : rIsiA [.int i, .ty "bool"] H Q := i_isi (t := "int") rfl (by decide +kernel) q
theorem i_isiNB (q : Q (.bl false) H) : rIsiA [.non, .ty "bool"] H Q := i_isi (t := "NoneType") rfl (by decide +kernel) q
theorem i_isiBB {k : Bool} (q : Q (.bl true) H) : rIsiA [.bl k, .ty "bool"] H Q := i_isi (t := "bool") rfl (by decide +kernel) q
theorem i_app {l : Addr} {xs : List V} {y : V} (h : H l = some (.lst xs)) (hz : xs.length < sizeLine) (q : Q .non (upd H l (.lst (xs ++ [y])))) : rAppA (.ref l) [y] H Q := by simp only [rAppA, h]; exact ⟨hz, q⟩
theorem i_ext {l p : Addr} {xs ys : List V} (h : H l = some (.lst xs)) (h2 : H p = some (.lst ys)) (hz : xs.length + ys.length ≤ sizeLine) (q : Q .non (upd H l (.lst (xs ++ ys)))) : rExtA (.ref l) [.ref p] H Q := by simp only [rExtA, h, h2]; exact ⟨hz, q⟩
theorem i_popL {l : Addr} {xs : List V} {y : V} (h : H l = some (.lst xs)) (hy : xs[xs.length - 1]? = some y) (q : Q y (upd H l (.lst xs.dropLast))) : rPopL (.ref l) [] H Q := by simp only [rPopL, h]; exact ⟨y, hy, q⟩
theorem i_popI {l : Addr} {xs : List V} {k : Nat} {y : V} (h : H l = some (.lst xs)) (hk : k < 2 ^ 62) (hy : xs[k]? = some y) (q : Q y (upd H l (.lst (xs.eraseIdx k)))) : rPopI (.ref l) [.int (k : Int)] H Q := by simp only [rPopI, h]; exact ⟨k, y, rfl, hk, hy, q⟩
theorem i_pop0 {l : Addr} {ys : List V} {y : V} (h : H l = some (.lst (y :: ys))) (q : Q y (upd H l (.lst ys))) : rPopI (.ref l) [.int 0] H Q := i_popI (k := 0) h (by decide) rfl q
theorem i_setL {p : Addr} {xs : List V} {k : Int} {j : Nat} {v : V} {R : Hp → Prop} (h : H p = some (.lst xs)) (hj : ixN xs.length k = some j) (q : R (upd H p (.lst (xs.set j v)))) : rSetA (.ref p) (.int k) v H R := by simp only [rSetA, h]; exact ⟨j, hj, q⟩
theorem i_dget {td ty : TE} (q : td σ H fun x H1 => ty σ H1 fun y H2 => ∃ a v, x = .ref a ∧ DGet H2 a y (some v) ∧ Q v H2) : tDGet td ty σ H Q := q
theorem i_dgetK {a : Addr} {kvs : List (Key × V)} {k : Key} {y v : V} {R : V → Prop} (h : H a = some (.dK kvs)) (hy : y = kV k) (hv : valV kvs k = some v) (q : R v) : (∃ a' v', V.ref a = .ref a' ∧ DGet H a' y (some v') ∧ R v') := ⟨a, v, rfl, .inl ⟨kvs, k, Rd.of h, hy, hv.symm⟩, q⟩
theorem i_dputK {a : Addr} {kvs : List (Key × V)} {k : Key} {y v : V} {R : Hp → Prop} (h : H a = some (.dK kvs)) (hy : y = kV k) (hz : kvs.length < sizeLine) (q : R (upd H a (.dK (putK kvs k v)))) : (∃ a' H4, V.ref a = .ref a' ∧ DPut H a' y v H4 ∧ R H4) := ⟨a, _, rfl, .inl ⟨kvs, k, h, hy, hz, rfl⟩, q⟩
theorem i_disp {trs : List (TE × TE)} (q : ∀ p, H p = none → tPairs trs σ (upd H p (.dK [])) fun ps H2 => H2 p = some (.dK []) ∧ ∃ kvs : List (Key × V), ps = kvs.map (fun kv => (kV kv.1, kv.2)) ∧ kvs.length ≤ 15 ∧ Q (.ref p) (upd H2 p (.dK (mergeK [] kvs)))) : tDisp trs σ H Q := q
theorem i_pcons {tk tv : TE} {r : List (TE × TE)} {R : List (V × V) → Hp → Prop} (q : tk σ H fun x H1 => tv σ H1 fun y H2 => tPairs r σ H2 fun ps H3 => R ((x, y) :: ps) H3) : tPairs ((tk, tv) :: r) σ H R := q
theorem i_pnil {R : List (V × V) → Hp → Prop} (q : R [] H) : tPairs [] σ H R := q
theorem i_neN {K : PySem.W.Frag} (q : Q (.bl false) H) : rNeA K .non .non H Q := q
theorem i_eqN {K : PySem.W.Frag} (q : Q (.bl true) H) : rEqA K .non .non H Q := q
theorem i_neB {K : PySem.W.Frag} {a b : Bool} (q : Q (.bl (!decide (a = b))) H) : rNeA K (.bl a) (.bl b) H Q := q
theorem i_eqB {K : PySem.W.Frag} {a b : Bool} (q : Q (.bl (decide (a = b))) H) : rEqA K (.bl a) (.bl b) H Q := q
theorem i_for {wi : TI} {g : TG} {tb : TS} (q : wi σ H fun J H1 => ∃ W : Nat → Nat → L2.St → Hp → Prop, (∃ m, W 0 m σ H1) ∧ ∀ i m σ H, W i m σ H → (J.stop i H ∧ nx σ H) ∨ (J.go i H ∧ ∃ N : L2.St → Hp → Prop, (∀ σ' H', N σ' H' → ∃ m', m' < m ∧ W (i + 1) m' σ' H') ∧ ∀ x H', J.yld i H x H' → g x σ H' fun σ2 H2 => tb ⟨N, rt, nx, N⟩ σ2 H2)) : tFor wi g tb ⟨nx, rt, bk, ct⟩ σ H := q
theorem i_while {c : TT} {tb : TS} (W : Nat → L2.St → Hp → Prop) (m : Nat) (w0 : W m σ H) (q : ∀ m σ H, W m σ H → c σ H fun b H1 => if b = true then ∃ N : L2.St → Hp → Prop, (∀ σ' H', N σ' H' → ∃ m', m' < m ∧ W m' σ' H') ∧ tb ⟨N, rt, nx, N⟩ σ H1 else nx σ H1) : tWhile c tb ⟨nx, rt, bk, ct⟩ σ H := ⟨W, ⟨m, w0⟩, q⟩
theorem i_wgo {m : Nat} {W : Nat → L2.St → Hp → Prop} {tb : TS} (q : tb ⟨fun σ' H' => ∃ m', m' < m ∧ W m' σ' H', rt, nx, fun σ' H' => ∃ m', m' < m ∧ W m' σ' H'⟩ σ H) : (∃ N : L2.St → Hp → Prop, (∀ σ' H', N σ' H' → ∃ m', m' < m ∧ W m' σ' H') ∧ tb ⟨N, rt, nx, N⟩ σ H) := ⟨_, fun _ _ h => h, q⟩
theorem i_ilist {K : PySem.W.Frag} {tl : TE} {R : It → Hp → Prop} (q : tl σ H fun x H1 => ∃ a, x = .ref a ∧ (∃ xs, SqL K H1 a xs) ∧ R (Itl K a) H1) : iList K tl σ H R := q
theorem i_itup {K : PySem.W.Frag} {tl : TE} {R : It → Hp → Prop} (q : tl σ H fun x H1 => ∃ a, x = .ref a ∧ (∃ xs, SqT K H1 a xs) ∧ R (Itt K a) H1) : iTup K tl σ H R := q
theorem i_rng1 {ta : TA} {R : It → Hp → Prop} (q : ta σ H fun vs H1 => ∃ j : Int, vs = [.int j] ∧ -(2 ^ 62) ≤ j ∧ j < 2 ^ 62 ∧ R (Itr 0 j.toNat) H1) : iRng1 ta σ H R := q
theorem i_rng2 {ta : TA} {R : It → Hp → Prop} (q : ta σ H fun vs H1 => ∃ i j : Int, vs = [.int i, .int j] ∧ (-(2 ^ 62) ≤ i ∧ i < 2 ^ 62 ∧ -(2 ^ 62) ≤ j ∧ j < 2 ^ 62) ∧ R (Itr i (j - i).toNat) H1) : iRng2 ta σ H R := q
theorem i_ex1 {j : Int} {R : Int → Prop} (q : R j) : (∃ i : Int, [V.int j] = [.int i] ∧ R i) := ⟨j, rfl, q⟩
theorem i_ex2 {i j : Int} {R : Int → Int → Prop} (q : R i j) : (∃ i' j' : Int, [V.int i, V.int j] = [.int i', .int j'] ∧ R i' j') := ⟨i, j, rfl, q⟩
theorem i_exr {p : Addr} {R : Addr → Prop} (q : R p) : (∃ a, V.ref p = .ref a ∧ R a) := ⟨p, rfl, q⟩
theorem i_mth {p C dx : Addr} {fs : List (Str × V)} {m : Str} {R : Prop} (h : H p = some (.ins C dx fs)) (hl : fs.lookup m = none) (q : R) : (∃ a dx fs, V.ref p = .ref a ∧ H a = some (.ins C dx fs) ∧ fs.lookup m = none ∧ R) := ⟨p, dx, fs, rfl, h, hl, q⟩
theorem i_fld {K : PySem.W.Frag} {ta : TE} {f : Str} (q : ta σ H fun x H1 => ∃ a C dx fs v, x = .ref a ∧ H1 a = some (.ins C dx fs) ∧ Cls K C ∧ NoAttr K C f ∧ fs.lookup f = some v ∧ Q v H1) : tFld K ta f σ H Q := q
theorem i_lc {wi : TI} {g : TG} {tt : TT} {te : TE} {vs : List Nat} (q : wi σ H fun J H1 => ∀ D, H1 D = none → ∃ W : Nat → Nat → Hp → Prop, (∃ m, W 0 m (upd H1 D (.lst []))) ∧ ∀ i m H, W i m H → (J.stop i H ∧ Q (.ref D) H) ∨ (J.go i H ∧ ∃ Nx : Hp → Prop, (∀ H', Nx H' → ∃ m', m' < m ∧ W (i + 1) m' H') ∧ ∀ x H', J.yld i H x H' → g x (wipe σ vs) H' fun σ2 H2 => wipe σ2 vs = wipe σ vs ∧ tt σ2 H2 fun b H3 => if b = true then te σ2 H3 fun y H4 => ∃ acc, H4 D = some (.lst acc) ∧ acc.length < sizeLine ∧ Nx (upd H4 D (.lst (acc ++ [y]))) else Nx H3)) : tLc wi g tt te vs σ H Q := q
end
local macro_rules | `(tactic| walk_at "s1") => `(tactic| with_reducible first | refine i_seq ?_ | refine i_asg ?_ | refine i_gname ?_ | refine i_ifS ?_ | refine i_ret ?_ | refine i_retN ?_ | refine i_drop ?_ | refine i_next ?_ | refine i_brk ?_ | refine i_cnt ?_ | refine i_par ?_ | refine i_par2 ?_ | refine i_fldS ?_ | refine i_dput ?_ | refine i_c ?_ | refine i_op ?_ | refine i_un ?_ | refine i_rU ?_ | refine i_rI0 ?_ | refine i_test ?_ | refine i_B ?_ | refine i_bl ?_ | refine i_tru ?_ | refine i_truB ?_ | refine i_and ?_ | refine i_or ?_ | refine i_not ?_ | refine i_andV ?_ | refine i_orV ?_ | refine i_notV ?_ | refine i_if ?_ | refine i_call ?_ | refine i_meth ?_ | refine i_make ?_ | refine i_cb ?_ | refine i_cons ?_ | refine i_nil ?_ | refine i_tup ?_ | refine i_lst ?_ | refine i_bml ?_ | refine i_gsub ?_ | refine i_gcons ?_ | refine i_gnil ?_ | refine i_sl ?_ | refine i_nop ?_ | refine i_part ?_ | refine i_prt ?_ | refine i_isN ?_ | refine i_notN ?_ | refine i_yes ?_ | refine i_tt ?_ | refine i_ff ?_ | refine i_ntt ?_ | refine i_nff ?_ | refine i_addI ?_ | refine i_eqI ?_ | refine i_neI ?_ | refine i_eqS ?_ | refine i_neS ?_ | refine i_intI ?_ | refine i_intB ?_ | refine i_abs ?_ | refine i_isiIB ?_ | refine i_isiNB ?_ | refine i_isiBB ?_ | refine i_dget ?_ | refine i_for ?_ | refine i_ilist ?_ | refine i_itup ?_ | refine i_rng1 ?_ | refine i_rng2 ?_ | refine i_ex1 ?_ | refine i_ex2 ?_ | refine i_exr ?_ | refine i_fld ?_ | refine i_disp ?_ | refine i_pcons ?_ | refine i_pnil ?_ | refine i_neN ?_ | refine i_eqN ?_ | refine i_neB ?_ | refine i_eqB ?_ | refine i_lc ?_ | refine i_var (by with_unfolding_all rfl) ?_ | refine i_tB (by decide +kernel) ?_ | refine i_fB (by decide +kernel) ?_ | refine i_dnI ?_ | refine i_nyI ?_ | refine i_dnR ?_ | refine i_nyR ?_ | refine i_ixT (by assumption) (by with_unfolding_all rfl) ?_ | refine i_ixL (by assumption) (by with_unfolding_all rfl) ?_ | refine i_lenL (by assumption) ?_ | refine i_lenT (by assumption) ?_ | refine i_isL (by assumption) ?_ | refine i_isiLL (by assumption) ?_ | refine i_isiTL (by assumption) ?_ | refine i_gtup (by assumption) (by with_unfolding_all rfl) ?_)
local macro_rules | `(tactic| walk_at "s") => `(tactic| repeat (walk_at "s1"))
/-- the state of the draws: a list of a list of numbers and of a number -/
structure Rng (a c : Addr) (H : Hp) : Prop where
  ne : a ≠ c
  ex : ∃ (ns : List Int) (m : Int), H a = some (.lst [.ref c, .int m]) ∧ H c = some (.lst (ns.map V.int)) ∧ (∀ n ∈ ns, 0 ≤ n) ∧ 0 ≤ m
/-- what was so beside the two places is so -/
def Fra (a c : Addr) (H H' : Hp) : Prop := ∀ b, b ≠ a → b ≠ c → H' b = H b
theorem Fra.refl {a c : Addr} {H : Hp} : Fra a c H H := fun _ _ _ => rfl
theorem Fra.trans {a c : Addr} {H H1 H2 : Hp} (h : Fra a c H H1) (k : Fra a c H1 H2) : Fra a c H H2 := fun b p q => (k b p q).trans (h b p q)
def spDraw : Sp := fun vs H Q _ => ∃ (a c : Addr) (n : Int), vs = [.ref a, .int n] ∧ 0 < n ∧ n < 1073741824 ∧ Rng a c H ∧
  ∀ (H' : Hp) (r : Int), 0 ≤ r → r < n → Rng a c H' → Fra a c H H' → Q (.int r) H'
theorem len_draw {vs : List V} {H : Hp} {Q : VK} {E : XK} (h : spDraw vs H Q E) : vs.length = 2 := by
  obtain ⟨a, c, n, rfl, _⟩ := h
  rfl
def t_draw (K : PySem.W.Frag) : TS :=
  (tSeq (tAsg (tOp rIxA (tVar 0) (tC (.int 0))) (gName 2)) (tSeq (tWhile (tAnd (tTest (tOp (rI0 fun i j => .bl (decide (j < i))) (tCB rLenA (tCons (tVar 2) tNil)) (tC (.int 0)))) (tTest (tOp (rEqA K) (tOp rIxA (tVar 2) (tC (.int 0))) (tC (.int 0))))) (tDrop (tBML rPopI (tVar 2) (tCons (tC (.int 0)) tNil)))) (tSeq (tIfS (tTest (tOp (rI0 fun i j => .bl (decide (j < i))) (tCB rLenA (tCons (tVar 2) tNil)) (tC (.int 0)))) (tSeq (tAsg (tOp rIxA (tVar 2) (tC (.int 0))) (gName 3)) (tSeq (tAsg (tOp (rI CDiv fun i j => .int (i / j)) (tVar 3) (tVar 1)) (gSub (tVar 2) (tC (.int 0)) rSetA)) (tRet (tOp (rI (fun _ j => 0 < j) fun i j => .int (i % j)) (tCB rIntA (tCons (tVar 3) tNil)) (tVar 1))))) tNext) (tSeq (tAsg (tOp (rI (fun _ j => 0 < j) fun i j => .int (i % j)) (tCB rIntA (tCons (tOp rAddA (tOp rMulA (tOp rIxA (tVar 0) (tC (.int 1))) (tC (.int 48271))) (tC (.int 12345))) tNil)) (tC (.int 2147483647))) (gName 4)) (tSeq (tAsg (tVar 4) (gSub (tVar 0) (tC (.int 1)) rSetA)) (tRet (tOp (rI (fun _ j => 0 < j) fun i j => .int (i % j)) (tCB rIntA (tCons (tOp (rI CDiv fun i j => .int (i / j)) (tVar 4) (tC (.int 64))) tNil)) (tVar 1))))))))
theorem fra_upd2 {a c : Addr} {H H' : Hp} {o : HO} (h : Fra a c H H') : Fra a c H (upd H' c o) := fun b p q => by rw [upd_ne q]; exact h b p q
theorem fra_upd1 {a c : Addr} {H H' : Hp} {o : HO} (h : Fra a c H H') : Fra a c H (upd H' a o) := fun b p q => by rw [upd_ne p]; exact h b p q
theorem at0 {v : V} {xs : List V} : atI (v :: xs) 0 = some v := atI_nat (j := 0) rfl
theorem atN {xs : List V} {i : Int} {j : Nat} {v : V} (e : i = (j : Int)) (h : xs[j]? = some v) : atI xs i = some v := by
  rw [e]
  exact atI_nat h
theorem ixS0 {v : V} {xs : List V} : ixN (v :: xs).length 0 = some 0 := by
  unfold ixN
  rw [if_pos (by omega), if_pos (by simp <;> omega)]
  rfl
theorem pure_draw (K : PySem.W.Frag) {N : List Str} (vs : List V) (H : Hp) (Q : VK) (E : XK) (h : spDraw vs H Q E) (hN : N.length = 5) : t_draw K { nx := fun _ H' => Q .non H', rt := Q } (L2.start N vs) H := by
  obtain ⟨a, c, n, rfl, h0, h1, R, k⟩ := h
  obtain ⟨ne, ns, m, ha, hc, hn, hm⟩ := R
  have es : L2.start N [V.ref a, .int n] = [some (.ref a), some (.int n), none, none, none] := by
    unfold L2.start
    rw [hN]
    rfl
  rw [es]
  unfold t_draw
  walk_at "s"
  try refine i_ixL ha (by rfl) ?_
  walk_at "s"
  refine i_while (fun j σ H' => σ = [some (.ref a), some (.int n), some (.ref c), none, none] ∧ ∃ ns : List Int, j = ns.length ∧ H' a = some (.lst [.ref c, .int m]) ∧ H' c = some (.lst (ns.map V.int)) ∧ (∀ n ∈ ns, 0 ≤ n) ∧ Fra a c H H')
    _ ⟨rfl, ns, rfl, ha, hc, hn, Fra.refl⟩ ?_
  rintro j σ H1 ⟨rfl, ns, rfl, ha, hc, hn, fr⟩
  walk_at "s"
  try refine i_lenL hc ?_
  walk_at "s"
  cases ns with
  | nil =>
    try refine i_dn (by simp) ?_
    walk_at "s"
    try refine i_lenL hc ?_
    walk_at "s"
    try refine i_dn (by simp) ?_
    walk_at "s"
    try refine i_ixL ha (by rfl) ?_
    walk_at "s"
    try refine i_mulI (.inr ⟨by decide, by decide⟩) ?_
    walk_at "s"
    try refine i_rI (by show (0 : Int) < 2147483647; decide) ?_
    walk_at "s"
    refine i_setL ha (by rfl) ?_
    walk_at "s"
    refine i_rI ⟨by decide, by decide⟩ ?_
    walk_at "s"
    refine i_rI h0 ?_
    exact k _ _ (Int.emod_nonneg _ (by omega)) (Int.emod_lt_of_pos _ h0) ⟨ne, [], _, upd_same, by rw [upd_ne ne.symm]; exact hc, by simp, Int.emod_nonneg _ (by decide)⟩ (fra_upd1 fr)
  | cons z ns =>
    try refine i_dy (by simp <;> omega) ?_
    walk_at "s"
    try refine i_ixL hc at0 ?_
    walk_at "s"
    refine i_d2 (fun hz => ?_) (fun hz => ?_)
    · refine i_wgo ?_
      walk_at "s"
      try refine i_isL hc ?_
      walk_at "s"
      refine i_pop0 hc ?_
      exact ⟨ns.length, by simp, rfl, ns, rfl, by rw [upd_ne ne]; exact ha, upd_same, fun n h => hn n (List.mem_cons_of_mem _ h), fra_upd2 fr⟩
    · walk_at "s"
      try refine i_lenL hc ?_
      walk_at "s"
      try refine i_dy (by simp <;> omega) ?_
      walk_at "s"
      try refine i_ixL hc at0 ?_
      walk_at "s"
      refine i_rI ⟨h0, h1⟩ ?_
      walk_at "s"
      refine i_setL hc ixS0 ?_
      walk_at "s"
      refine i_rI h0 ?_
      have hz0 : 0 ≤ z := hn z List.mem_cons_self
      refine k _ _ (Int.emod_nonneg _ (by omega)) (Int.emod_lt_of_pos _ h0) ⟨ne, (z / n) :: ns, m, by rw [upd_ne ne]; exact ha, upd_same, fun y hy => ?_, hm⟩ (fra_upd2 fr)
      rcases List.mem_cons.mp hy with e | e
      · rw [e]
        exact Int.ediv_nonneg hz0 (by omega)
      · exact hn y (List.mem_cons_of_mem _ e)
theorem sz {n : Nat} (h : n ≤ 100000) : n ≤ sizeLine := Nat.le_trans h (by decide)
theorem szl {n : Nat} (h : n ≤ 100000) : n < sizeLine := Nat.lt_of_le_of_lt h (by decide)

/-! ### loops and comprehensions -/
section
variable {K : PySem.W.Frag} {a : Addr} {xs : List V} {g : TG} {tb : TS} {σ : L2.St} {H : Hp} {nx : L2.St → Hp → Prop} {rt : VK} {tt : TT} {te : TE} {v : Nat} {D : Addr} {Qd : Hp → Prop}
theorem i_forL (xs : List V) (Pv : Nat → L2.St → Hp → Prop) (h0 : Pv 0 σ H) (hl : ∀ i σ H, Pv i σ H → SqL K H a xs)
    (hs : ∀ i x σ H, xs[i]? = some x → Pv i σ H → g x σ H fun σ2 H2 => tb ⟨Pv (i + 1), rt, nx, Pv (i + 1)⟩ σ2 H2) (hd : ∀ σ H, Pv xs.length σ H → nx σ H) :
    (∃ xs, SqL K H a xs) ∧ ∃ W : Nat → Nat → L2.St → Hp → Prop, (∃ m, W 0 m σ H) ∧ ∀ i m σ H, W i m σ H → ((Itl K a).stop i H ∧ nx σ H) ∨ ((Itl K a).go i H ∧ ∃ N : L2.St → Hp → Prop, (∀ σ' H', N σ' H' → ∃ m', m' < m ∧ W (i + 1) m' σ' H') ∧ ∀ x H', (Itl K a).yld i H x H' → g x σ H' fun σ2 H2 => tb ⟨N, rt, nx, N⟩ σ2 H2) :=
  ⟨⟨xs, hl 0 σ H h0⟩, for_list (D := ⟨nx, rt, fun _ _ => False, fun _ _ => False⟩) (xs := xs) Pv h0 (fun i σ H _ p => hl i σ H p) hs hd⟩
theorem i_forT (xs : List V) (Pv : Nat → L2.St → Hp → Prop) (h0 : Pv 0 σ H) (hl : ∀ i σ H, Pv i σ H → SqT K H a xs)
    (hs : ∀ i x σ H, xs[i]? = some x → Pv i σ H → g x σ H fun σ2 H2 => tb ⟨Pv (i + 1), rt, nx, Pv (i + 1)⟩ σ2 H2) (hd : ∀ σ H, Pv xs.length σ H → nx σ H) :
    (∃ xs, SqT K H a xs) ∧ ∃ W : Nat → Nat → L2.St → Hp → Prop, (∃ m, W 0 m σ H) ∧ ∀ i m σ H, W i m σ H → ((Itt K a).stop i H ∧ nx σ H) ∨ ((Itt K a).go i H ∧ ∃ N : L2.St → Hp → Prop, (∀ σ' H', N σ' H' → ∃ m', m' < m ∧ W (i + 1) m' σ' H') ∧ ∀ x H', (Itt K a).yld i H x H' → g x σ H' fun σ2 H2 => tb ⟨N, rt, nx, N⟩ σ2 H2) :=
  ⟨⟨xs, hl 0 σ H h0⟩, for_tup (D := ⟨nx, rt, fun _ _ => False, fun _ _ => False⟩) (xs := xs) Pv h0 (fun i σ H _ p => hl i σ H p) hs hd⟩
theorem i_forR {j : Int} (n : Nat) (hj : j = (n : Int)) (hn : n ≤ 1000000000) (Pv : Nat → L2.St → Hp → Prop) (h0 : Pv 0 σ H)
    (hs : ∀ i σ H, i < n → Pv i σ H → g (.int (i : Int)) σ H fun σ2 H2 => tb ⟨Pv (i + 1), rt, nx, Pv (i + 1)⟩ σ2 H2) (hd : ∀ σ H, Pv n σ H → nx σ H) :
    -(2 ^ 62) ≤ j ∧ j < 2 ^ 62 ∧ ∃ W : Nat → Nat → L2.St → Hp → Prop, (∃ m, W 0 m σ H) ∧ ∀ i m σ H, W i m σ H → ((Itr 0 j.toNat).stop i H ∧ nx σ H) ∨ ((Itr 0 j.toNat).go i H ∧ ∃ N : L2.St → Hp → Prop, (∀ σ' H', N σ' H' → ∃ m', m' < m ∧ W (i + 1) m' σ' H') ∧ ∀ x H', (Itr 0 j.toNat).yld i H x H' → g x σ H' fun σ2 H2 => tb ⟨N, rt, nx, N⟩ σ2 H2) := by
  subst hj
  refine ⟨by omega, by omega, ?_⟩
  exact for_range (D := ⟨nx, rt, fun _ _ => False, fun _ _ => False⟩) (lo := 0) (n := n) Pv h0 (fun i σ H hi p => by rw [Int.zero_add]; exact hs i σ H hi p) hd
theorem i_forR2 {lo j : Int} (n : Nat) (hj : (j - lo).toNat = n) (hb : -(2 ^ 62) ≤ lo ∧ lo < 2 ^ 62 ∧ -(2 ^ 62) ≤ j ∧ j < 2 ^ 62) (Pv : Nat → L2.St → Hp → Prop) (h0 : Pv 0 σ H)
    (hs : ∀ (i : Nat) σ H, i < n → Pv i σ H → g (.int (lo + i)) σ H fun σ2 H2 => tb ⟨Pv (i + 1), rt, nx, Pv (i + 1)⟩ σ2 H2) (hd : ∀ σ H, Pv n σ H → nx σ H) :
    (-(2 ^ 62) ≤ lo ∧ lo < 2 ^ 62 ∧ -(2 ^ 62) ≤ j ∧ j < 2 ^ 62) ∧ ∃ W : Nat → Nat → L2.St → Hp → Prop, (∃ m, W 0 m σ H) ∧ ∀ i m σ H, W i m σ H → ((Itr lo (j - lo).toNat).stop i H ∧ nx σ H) ∨ ((Itr lo (j - lo).toNat).go i H ∧ ∃ N : L2.St → Hp → Prop, (∀ σ' H', N σ' H' → ∃ m', m' < m ∧ W (i + 1) m' σ' H') ∧ ∀ x H', (Itr lo (j - lo).toNat).yld i H x H' → g x σ H' fun σ2 H2 => tb ⟨N, rt, nx, N⟩ σ2 H2) := by
  subst hj
  exact ⟨hb, for_range (D := ⟨nx, rt, fun _ _ => False, fun _ _ => False⟩) (lo := lo) Pv h0 hs hd⟩
theorem wipe1 {v : Nat} {x : V} : (wipe σ [v]).set v (some x) = σ.set v (some x) := by
  show (σ.set v none).set v (some x) = _
  rw [List.set_set]
theorem wipe2 {v : Nat} {x : V} : wipe (σ.set v (some x)) [v] = wipe σ [v] := by
  show (σ.set v (some x)).set v none = σ.set v none
  rw [List.set_set]
/-- a comprehension over a list, one name -/
theorem i_lcL (xs : List V) (Pv : Nat → Hp → Prop) (h0 : Pv 0 (upd H D (.lst []))) (hl : ∀ i H, Pv i H → SqL K H a xs)
    (hs : ∀ i x H, xs[i]? = some x → Pv i H → tt (σ.set v (some x)) H fun b H3 => if b = true then te (σ.set v (some x)) H3 fun y H4 => ∃ acc, H4 D = some (.lst acc) ∧ acc.length < sizeLine ∧ Pv (i + 1) (upd H4 D (.lst (acc ++ [y]))) else Pv (i + 1) H3)
    (hd : ∀ H, Pv xs.length H → Qd H) :
    ∃ W : Nat → Nat → Hp → Prop, (∃ m, W 0 m (upd H D (.lst []))) ∧ ∀ i m H, W i m H → ((Itl K a).stop i H ∧ Qd H) ∨ ((Itl K a).go i H ∧ ∃ Nx : Hp → Prop, (∀ H', Nx H' → ∃ m', m' < m ∧ W (i + 1) m' H') ∧ ∀ x H', (Itl K a).yld i H x H' → gName v x (wipe σ [v]) H' fun σ2 H2 => wipe σ2 [v] = wipe σ [v] ∧ tt σ2 H2 fun b H3 => if b = true then te σ2 H3 fun y H4 => ∃ acc, H4 D = some (.lst acc) ∧ acc.length < sizeLine ∧ Nx (upd H4 D (.lst (acc ++ [y]))) else Nx H3) :=
  lc_list (xs := xs) Pv h0 (fun i H _ p => hl i H p) (fun i x H e p => by
    show wipe ((wipe σ [v]).set v (some x)) [v] = wipe σ [v] ∧ tt ((wipe σ [v]).set v (some x)) H _
    rw [wipe1]
    exact ⟨wipe2, hs i x H e p⟩) hd
/-- .. over range(n) -/
theorem i_lcR {j : Int} (n : Nat) (hj : j = (n : Int)) (Pv : Nat → Hp → Prop) (h0 : Pv 0 (upd H D (.lst [])))
    (hs : ∀ (i : Nat) H, i < n → Pv i H → tt (σ.set v (some (.int (i : Int)))) H fun b H3 => if b = true then te (σ.set v (some (.int (i : Int)))) H3 fun y H4 => ∃ acc, H4 D = some (.lst acc) ∧ acc.length < sizeLine ∧ Pv (i + 1) (upd H4 D (.lst (acc ++ [y]))) else Pv (i + 1) H3)
    (hd : ∀ H, Pv n H → Qd H) :
    ∃ W : Nat → Nat → Hp → Prop, (∃ m, W 0 m (upd H D (.lst []))) ∧ ∀ i m H, W i m H → ((Itr 0 j.toNat).stop i H ∧ Qd H) ∨ ((Itr 0 j.toNat).go i H ∧ ∃ Nx : Hp → Prop, (∀ H', Nx H' → ∃ m', m' < m ∧ W (i + 1) m' H') ∧ ∀ x H', (Itr 0 j.toNat).yld i H x H' → gName v x (wipe σ [v]) H' fun σ2 H2 => wipe σ2 [v] = wipe σ [v] ∧ tt σ2 H2 fun b H3 => if b = true then te σ2 H3 fun y H4 => ∃ acc, H4 D = some (.lst acc) ∧ acc.length < sizeLine ∧ Nx (upd H4 D (.lst (acc ++ [y]))) else Nx H3) := by
  subst hj
  exact lc_range (lo := 0) (n := n) Pv h0 (fun i H e p => by
    show wipe ((wipe σ [v]).set v (some (.int (0 + (i : Int))))) [v] = wipe σ [v] ∧ tt ((wipe σ [v]).set v (some (.int (0 + (i : Int))))) H _
    rw [wipe1, Int.zero_add]
    exact ⟨wipe2, hs i H e p⟩) hd
end

/-! ### the two places of the draws, and what grows beside them -/
/-- what stands beside the two places, grows -/
def Gr (a c : Addr) (H H' : Hp) : Prop := Same (hid [a, c] H) (hid [a, c] H')
section
variable {a c p : Addr} {H H' H1 : Hp} {o : HO}
theorem Gr.refl : Gr a c H H := Same.refl _
theorem Gr.trans (h : Gr a c H H1) (k : Gr a c H1 H') : Gr a c H H' := Same.trans h k
theorem Fra.hid (h : Fra a c H H') : hid [a, c] H' = hid [a, c] H := hid_eq fun b hb => h b (fun e => hb (by rw [e]; exact List.mem_cons_self)) fun e => hb (by rw [e]; exact List.mem_cons_of_mem _ List.mem_cons_self)
theorem Fra.gr (h : Fra a c H H') : Gr a c H H' := by
  unfold Gr
  rw [h.hid]
  exact Same.refl _
theorem Rng.at1 (R : Rng a c H) : ∃ o, H a = some o := let ⟨_, _, _, h, _⟩ := R; ⟨_, h⟩
theorem Rng.at2 (R : Rng a c H) : ∃ o, H c = some o := let ⟨_, _, _, _, h, _⟩ := R; ⟨_, h⟩
theorem Rng.fresh (R : Rng a c H) (h : H p = none) : p ≠ a ∧ p ≠ c := by
  obtain ⟨o1, e1⟩ := R.at1
  obtain ⟨o2, e2⟩ := R.at2
  exact ⟨fun e => (by rw [e, e1] at h; cases h), fun e => (by rw [e, e2] at h; cases h)⟩
theorem Rng.upd (R : Rng a c H) (h1 : p ≠ a) (h2 : p ≠ c) : Rng a c (L2.upd H p o) := by
  obtain ⟨ne, ns, m, ha, hc, hn, hm⟩ := R
  exact ⟨ne, ns, m, by rw [upd_ne h1.symm]; exact ha, by rw [upd_ne h2.symm]; exact hc, hn, hm⟩
theorem hid2 (h1 : p ≠ a) (h2 : p ≠ c) : p ∉ [a, c] := fun h => by
  rcases List.mem_cons.mp h with e | e
  · exact h1 e
  · rcases List.mem_cons.mp e with e | e
    · exact h2 e
    · cases e
/-- a new object -/
theorem new_step (R : Rng a c H) (h : H p = none) : Rng a c (L2.upd H p o) ∧ Gr a c H (L2.upd H p o) ∧ hid [a, c] (L2.upd H p o) p = some o ∧ p ≠ a ∧ p ≠ c := by
  obtain ⟨h1, h2⟩ := R.fresh h
  refine ⟨R.upd h1 h2, Lb.Same.hid (Same.newp h), ?_, h1, h2⟩
  rw [hid_out (hid2 h1 h2), upd_same]
theorem Gr.at (h : Gr a c H H') (e : hid [a, c] H p = some o) : H' p = some o := (hid_some (h _ _ e)).1
theorem hid_get (e : hid [a, c] H p = some o) : H p = some o := (hid_some e).1
theorem hid_ne (e : hid [a, c] H p = some o) : p ≠ a ∧ p ≠ c := by
  have h := (hid_some e).2
  exact ⟨fun q => h (by rw [q]; exact List.mem_cons_self), fun q => h (by rw [q]; exact List.mem_cons_of_mem _ List.mem_cons_self)⟩
end
def spPick : Sp := fun vs H Q _ => ∃ (a c p : Addr) (xs : List V), vs = [.ref a, .ref p] ∧ Rng a c H ∧ H p = some (.lst xs) ∧ p ≠ a ∧ p ≠ c ∧ xs ≠ [] ∧ xs.length ≤ 10000000 ∧
  ∀ (H' : Hp) (v : V), v ∈ xs → Rng a c H' → Fra a c H H' → Q v H'
theorem len_pick {vs : List V} {H : Hp} {Q : VK} {E : XK} (h : spPick vs H Q E) : vs.length = 2 := by
  obtain ⟨a, c, p, xs, rfl, _⟩ := h
  rfl
def t_pick : TS := (tRet (tOp rIxA (tVar 1) (tCall spDraw [] E0 (tCons (tVar 0) (tCons (tCB rLenA (tCons (tVar 1) tNil)) tNil)))))
theorem pure_pick {N : List Str} (vs : List V) (H : Hp) (Q : VK) (E : XK) (h : spPick vs H Q E) (hN : N.length = 2) : t_pick { nx := fun _ H' => Q .non H', rt := Q } (L2.start N vs) H := by
  obtain ⟨a, c, p, xs, rfl, R, hp, n1, n2, hx, hz, k⟩ := h
  have es : L2.start N [V.ref a, .ref p] = [some (.ref a), some (.ref p)] := by
    unfold L2.start
    rw [hN]
    rfl
  rw [es]
  unfold t_pick
  walk_at "s"
  try refine i_lenL hp ?_
  walk_at "s"
  have hl : 0 < xs.length := List.length_pos_iff.mpr hx
  refine ⟨a, c, xs.length, rfl, by omega, by omega, R, fun H' r h0 h1 R' fr => ?_⟩
  have hp' : H' p = some (.lst xs) := by rw [fr p n1 n2]; exact hp
  obtain ⟨j, rfl⟩ : ∃ j : Nat, r = (j : Int) := ⟨r.toNat, by omega⟩
  have hj : j < xs.length := by omega
  refine i_ixL hp' (atI_nat (List.getElem?_eq_getElem hj)) ?_
  exact k H' _ (List.getElem_mem hj) R' fr
def spState (K : PySem.W.Frag) : Sp := fun vs H Q _ => ∃ (s : Addr) (ns : List Int), vs = [.ref s] ∧ SqL K H s (ns.map V.int) ∧ ns.length ≤ 63 ∧
  ∀ (H' : Hp) (a c : Addr), Same H H' → Rng a c H' → H a = none → H c = none → Q (.ref a) H'
theorem len_state {K : PySem.W.Frag} {vs : List V} {H : Hp} {Q : VK} {E : XK} (h : spState K vs H Q E) : vs.length = 1 := by
  obtain ⟨a, ns, rfl, _⟩ := h
  rfl
def t_state (K : PySem.W.Frag) : TS :=
  (tSeq (tAsg (tC (.int 7)) (gName 1)) (tSeq (tFor (iList K (tVar 0)) (gName 2) (tAsg (tOp (rI (fun _ j => 0 < j) fun i j => .int (i % j)) (tCB rIntA (tCons (tOp rAddA (tOp rMulA (tVar 1) (tC (.int 31))) (tVar 2)) tNil)) (tC (.int 1000003))) (gName 1))) (tRet (tLst (tCons (tLc (iList K (tVar 0)) (gName 2) tYes (tCB rAbsA (tCons (tVar 2) tNil)) [2]) (tCons (tOp rAddA (tVar 1) (tC (.int 1))) tNil))))))
theorem ints_at {ns : List Int} {i : Nat} {x : V} (h : (ns.map V.int)[i]? = some x) : ∃ z, x = .int z ∧ ns[i]? = some z := by
  rw [List.getElem?_map] at h
  cases e : ns[i]? with
  | none => rw [e] at h; cases h
  | some z => rw [e] at h; exact ⟨z, (Option.some.inj h).symm, rfl⟩
theorem pure_state (K : PySem.W.Frag) {N : List Str} (vs : List V) (H : Hp) (Q : VK) (E : XK) (h : spState K vs H Q E) (hN : N.length = 3) : t_state K { nx := fun _ H' => Q .non H', rt := Q } (L2.start N vs) H := by
  obtain ⟨s, ns, rfl, hS, hl, k⟩ := h
  have es : L2.start N [V.ref s] = [some (.ref s), none, none] := by
    unfold L2.start
    rw [hN]
    rfl
  rw [es]
  unfold t_state
  walk_at "s"
  refine i_forL (ns.map V.int) (fun i σ H' => H' = H ∧ ∃ (z : Int) (v : Option V), 0 ≤ z ∧ σ = [some (.ref s), some (.int z), v]) ⟨rfl, 7, none, by decide, rfl⟩ (fun i σ H' ⟨e, _⟩ => by rw [e]; exact hS) ?_ ?_
  · rintro i x σ H' hx ⟨rfl, z, v, hz, rfl⟩
    obtain ⟨y, rfl, _⟩ := ints_at hx
    walk_at "s"
    try refine i_mulI (.inr ⟨by decide, by decide⟩) ?_
    walk_at "s"
    refine i_rI (by show (0 : Int) < 1000003; decide) ?_
    walk_at "s"
    exact ⟨rfl, _, _, Int.emod_nonneg _ (by decide), rfl⟩
  · rintro σ H' ⟨rfl, z, v, hz, rfl⟩
    walk_at "s"
    refine ⟨⟨_, hS⟩, fun D hD => ?_⟩
    refine i_lcL (ns.map V.int) (fun i H2 => Same H' H2 ∧ ∃ ms : List Int, H2 D = some (.lst (ms.map V.int)) ∧ ms.length = i ∧ ∀ m ∈ ms, 0 ≤ m) ⟨Same.newp hD, [], upd_same, rfl, by simp⟩ (fun i H2 p => p.1.seq hS) ?_ ?_
    · rintro i x H2 hx ⟨sm, ms, hm, hml, hm0⟩
      obtain ⟨y, rfl, hy⟩ := ints_at hx
      have hi : i < ns.length := (List.getElem?_eq_some_iff.mp hy).1
      walk_at "s"
      refine ⟨_, hm, by rw [List.length_map]; exact szl (by omega), fun b o e => ?_, ms ++ [if y < 0 then -y else y], ?_, by rw [List.length_append, hml]; rfl, fun q hq => ?_⟩
      · rw [upd_ne (ne_of_none e hD)]
        exact sm b o e
      · rw [upd_same, List.map_append]
        rfl
      · rcases List.mem_append.mp hq with e | e
        · exact hm0 q e
        · rw [List.mem_singleton.mp e]
          split <;> omega
    · rintro H2 ⟨sm, ms, hm, hml, hm0⟩
      walk_at "s"
      refine ⟨sz (by simp), fun p hp => ?_⟩
      have npD : p ≠ D := fun e => by rw [e, hm] at hp; cases hp
      refine k _ p D (sm.trans (Same.newp hp)) ⟨npD, ms, z + 1, upd_same, by rw [upd_ne npD.symm]; exact hm, hm0, by omega⟩ (sm.free hp) hD

end Lb
set_option Elab.async false
set_option linter.all false
set_option maxRecDepth 100000
set_option maxHeartbeats 4000000
/-! Le: data that may be compared, heaps that only grow. Knows no program. -/
namespace Lb
open PySem PySem.Spec PyProof.Rows L2
/-- data without dicts, at most n deep -/
def Sh (n : Nat) (d : PyData) : Prop := d.canLay0 = true ∧ d.depth ≤ n
def ShA (n : Nat) (ds : List PyData) : Prop := PyData.canLayAll0 ds = true ∧ PyData.depthAll ds ≤ n
section
variable {n m : Nat} {d : PyData} {ds es : List PyData}
theorem Sh.shp (h : Sh n d) (hn : n ≤ 64 := by decide) : Shp d := by
  unfold Shp SeqAt.shaped
  rw [h.1, Bool.true_and, decide_eq_true (Nat.le_trans h.2 hn)]
theorem Sh.mono (h : Sh n d) (hn : n ≤ m) : Sh m d := ⟨h.1, Nat.le_trans h.2 hn⟩
theorem ShA.mono (h : ShA n ds) (hn : n ≤ m) : ShA m ds := ⟨h.1, Nat.le_trans h.2 hn⟩
theorem Sh.non : Sh n .none := ⟨rfl, Nat.zero_le _⟩
theorem Sh.bl {b : Bool} : Sh n (.bool b) := ⟨rfl, Nat.zero_le _⟩
theorem Sh.int {i : Int} : Sh n (.int i) := ⟨rfl, Nat.zero_le _⟩
theorem Sh.str {x : Str} (h : PyData.canLay0 (.str x) = true) : Sh n (.str x) := ⟨h, Nat.zero_le _⟩
theorem Sh.lst (h : ShA n ds) : Sh (n + 1) (.list ds) := ⟨h.1, Nat.succ_le_succ h.2⟩
theorem Sh.tup (h : ShA n ds) : Sh (n + 1) (.tuple ds) := ⟨h.1, Nat.succ_le_succ h.2⟩
theorem ShA.nil : ShA n [] := ⟨rfl, Nat.zero_le _⟩
theorem ShA.cons (h : Sh n d) (k : ShA n ds) : ShA n (d :: ds) := by
  refine ⟨?_, Nat.max_le.mpr ⟨h.2, k.2⟩⟩
  show (d.canLay0 && PyData.canLayAll0 ds) = true
  rw [h.1, k.1]
  rfl
theorem ShA.all : ∀ {ds : List PyData}, (∀ d ∈ ds, Sh n d) → ShA n ds
  | [], _ => .nil
  | d :: r, h => .cons (h d List.mem_cons_self) (ShA.all fun e he => h e (List.mem_cons_of_mem _ he))
theorem ShA.ints {ns : List Int} : ShA n (ns.map PyData.int) := .all fun d h => by
  obtain ⟨i, _, rfl⟩ := List.mem_map.mp h
  exact .int
theorem ShA.append (h : ShA n ds) (k : ShA n es) : ShA n (ds ++ es) := by
  induction ds with
  | nil => exact k
  | cons d r ih =>
    have h1 : (d.canLay0 && PyData.canLayAll0 r) = true := h.1
    have h2 := Bool.and_eq_true_iff.mp h1
    have h3 := Nat.max_le.mp h.2
    exact .cons ⟨h2.1, h3.1⟩ (ih ⟨h2.2, h3.2⟩)
end
section
variable {a c p : Addr} {H H' : Hp} {o : HO}
theorem Rng.same (R : Rng a c H) (s : Same H H') : Rng a c H' := by
  obtain ⟨ne, ns, m, ha, hc, hn, hm⟩ := R
  exact ⟨ne, ns, m, s _ _ ha, s _ _ hc, hn, hm⟩
theorem Gr.same (s : Same H H') : Gr a c H H' := Lb.Same.hid s
/-- what stands beside the two places stands -/
theorem Gr.keep (g : Gr a c H H') (h1 : p ≠ a) (h2 : p ≠ c) (e : H p = some o) : H' p = some o := g.at (by rw [hid_out (hid2 h1 h2)]; exact e)
theorem hid_of (h1 : p ≠ a) (h2 : p ≠ c) (e : H p = some o) : hid [a, c] H p = some o := by
  rw [hid_out (hid2 h1 h2)]
  exact e
theorem hid_upd_ne {b : Addr} {S : List Addr} (h : b ≠ p) : hid S (upd H p o) b = hid S H b := by
  by_cases q : b ∈ S
  · rw [hid_in q, hid_in q]
  · rw [hid_out q, hid_out q, upd_ne h]
end
end Lb
set_option Elab.async false
set_option linter.all false
set_option maxRecDepth 100000
set_option maxHeartbeats 4000000
/-! From a def's facts to its callable. -/
namespace Lb
open PySem PySem.Spec PyProof.Rows L2
section
variable {P : Program} {w : World} {K : PySem.W.Frag} {h : Heap} {mg : Str → Option Value} {base : Heap} {x m cls qual name : Str} {k : Nat} {ps : List Str} {sp : Sp} {f : Addr} {fd : FuncData}
variable {params : Arguments} {body : List Stmt} {scope : Scope}
def spF : Sp := fun _ _ _ _ => False
theorem okF : FnOk P w K mg base CX0 k f fd ps spF := ⟨fun _ _ _ _ q => False.elim q, fun _ _ _ _ _ _ _ _ _ _ _ _ _ q => False.elim q⟩
theorem mkCal (F : FunD K name qual params body scope [] [] f fd) (g : mg x = some (.ref f)) (hb : Binds K fd ps []) (O : FnOk P w K mg base CX0 k f fd ps sp) : Cal P w K mg base x k ps sp := ⟨⟨_, _, g, F.kp, hb, O⟩⟩
theorem mkCalM {C : Addr} (hc : Cls K C) (hm : Meth K C m f) (hb : Binds K fd ps []) (O : FnOk P w K mg base CX0 k f fd ps sp) : CalM P w K mg base C m k ps sp := ⟨⟨_, _, hc, hm, hb, O⟩⟩
theorem mkCalC {C : Addr} (g : mg x = some (.ref C)) (M : Mk K C f) (hb : Binds K fd ps []) (O : FnOk P w K mg base CX0 k f fd ps sp) : CalC P w K mg base x C k ps sp := ⟨⟨_, _, g, M, hb, O⟩⟩
theorem Cal.up {j : Nat} (c : Cal P w K mg base x j ps sp) (hl : j ≤ k) : Cal P w K mg base x k ps sp := by
  obtain ⟨f, fd, g, kp, hb, O⟩ := c.ex
  exact ⟨⟨f, fd, g, kp, hb, O.mono hl⟩⟩
theorem Cal.weak {sp' : Sp} (c : Cal P w K mg base x k ps sp) (hs : ∀ vs H Q E, sp' vs H Q E → sp vs H Q E) : Cal P w K mg base x k ps sp' := by
  obtain ⟨f, fd, g, kp, hb, O⟩ := c.ex
  exact ⟨⟨f, fd, g, kp, hb, O.imp hs⟩⟩
theorem look_cf {c : Str → NameKind → Bool} {x : Str} : ∀ {names : List (Str × NameKind)}, names.lookup x = some .cell ∨ names.lookup x = some .free → (names.map fun (n, k) => if c n k = true then (n, NameKind.cell) else (n, k)).lookup x = some .cell ∨ (names.map fun (n, k) => if c n k = true then (n, NameKind.cell) else (n, k)).lookup x = some .free
  | [], h => by rcases h with h | h <;> cases h
  | (n, k) :: r, h => by
    show List.lookup x ((if c n k = true then (n, NameKind.cell) else (n, k)) :: _) = _ ∨ List.lookup x ((if c n k = true then (n, NameKind.cell) else (n, k)) :: _) = _
    by_cases e : x = n
    · subst e
      have h2 : k = .cell ∨ k = .free := by
        rcases h with h | h
        · rw [List.lookup_cons_self] at h
          exact .inl (Option.some.inj h)
        · rw [List.lookup_cons_self] at h
          exact .inr (Option.some.inj h)
      by_cases q : c x k = true
      · rw [if_pos q, List.lookup_cons_self]
        exact .inl rfl
      · rw [if_neg q, List.lookup_cons_self]
        rcases h2 with z | z <;> rw [z]
        · exact .inl rfl
        · exact .inr rfl
    · have hb : (x == n) = false := beq_false_of_ne e
      have h2 : r.lookup x = some .cell ∨ r.lookup x = some .free := by
        simp only [List.lookup, hb] at h
        exact h
      have ih := look_cf (c := c) h2
      by_cases q : c n k = true
      · rw [if_pos q]
        simp only [List.lookup, hb]
        exact ih
      · rw [if_neg q]
        simp only [List.lookup, hb]
        exact ih
theorem blkOk_in {N : List Str} {sc scope2 : Scope} {own : List (Str × Nat)} {cl : List (Str × Addr)} {C : Addr} {e : Env} (h : blkC N sc scope2 own = true) : BlkOk N (compEnvC sc cl C e).scope scope2 own := by
  have b := blkOk_by h
  exact ⟨b.kind, b.uniq, b.ix, fun y hy q => look_cf (c := fun n k => (k == NameKind.free && e.scope.kind == .function && e.kindOf n == some .cell)) (b.free y hy q), b.own⟩
theorem gv_int (X : K.In h) (G : h.Ns mainGlobals mg) {i : Int} (c : (He.Fa.int x i).ok K = true) : GV mg x (.int i) := by
  obtain ⟨t, e⟩ := He.int_ok X G c
  exact ⟨⟨_, e, t, rfl⟩⟩
theorem gv_str (X : K.In h) (G : h.Ns mainGlobals mg) {i : Str} (c : (He.Fa.str x i).ok K = true) : GV mg x (.str i) := by
  obtain ⟨t, e⟩ := He.str_ok X G c
  exact ⟨⟨_, e, t, rfl⟩⟩
theorem gv_glo (X : K.In h) (G : h.Ns mainGlobals mg) (c : (He.Fa.glo x).ok K = true) : GV mg x (.ref (He.ga K x)) := ⟨⟨_, He.glo_ok X G c, rfl⟩⟩
end
end Lb
set_option Elab.async false
set_option linter.all false
set_option maxRecDepth 100000
set_option maxHeartbeats 4000000
/-! Lo: what a walk owns: places that it may change, each with its contents, beside a part of the heap that stays. Knows no program. -/
namespace Lb
open PySem PySem.Spec PyProof.Rows L2
structure Own (a c : Addr) (B H : Hp) (ls : List (Addr × HO)) : Prop where
  R : Rng a c H
  keep : Same B H
  nd : (ls.map Prod.fst).Nodup
  out : ∀ x ∈ ls, B x.1 = none ∧ x.1 ≠ a ∧ x.1 ≠ c
  here : ∀ x ∈ ls, H x.1 = some x.2
  ha : B a = none
  hc : B c = none
inductive Up1 (p : Addr) (o o' : HO) : List (Addr × HO) → List (Addr × HO) → Prop
  | here {r : List (Addr × HO)} : Up1 p o o' ((p, o) :: r) ((p, o') :: r)
  | there {x : Addr × HO} {r r' : List (Addr × HO)} (h : Up1 p o o' r r') : Up1 p o o' (x :: r) (x :: r')
section
variable {a c p : Addr} {B H H' : Hp} {o o' : HO} {ls ls' l1 l2 : List (Addr × HO)}
theorem Up1.mem (h : Up1 p o o' ls ls') : (p, o) ∈ ls := by
  induction h with
  | here => exact List.mem_cons_self
  | there _ ih => exact List.mem_cons_of_mem _ ih
theorem Up1.fst (h : Up1 p o o' ls ls') : ls'.map Prod.fst = ls.map Prod.fst := by
  induction h with
  | here => rfl
  | there _ ih => rw [List.map_cons, List.map_cons, ih]
theorem Up1.of (h : Up1 p o o' ls ls') : ∀ x ∈ ls', x = (p, o') ∨ x ∈ ls := by
  induction h with
  | here => exact fun x hx => (List.mem_cons.mp hx).imp id (List.mem_cons_of_mem _)
  | there _ ih =>
    intro x hx
    rcases List.mem_cons.mp hx with e | e
    · exact .inr (by rw [e]; exact List.mem_cons_self)
    · exact (ih x e).imp id (List.mem_cons_of_mem _)
theorem Up1.other (h : Up1 p o o' ls ls') (nd : (ls.map Prod.fst).Nodup) : ∀ x ∈ ls', x = (p, o') ∨ (x ∈ ls ∧ x.1 ≠ p) := by
  induction h with
  | here =>
    intro x hx
    rcases List.mem_cons.mp hx with e | e
    · exact .inl e
    · refine .inr ⟨List.mem_cons_of_mem _ e, fun q => ?_⟩
      have h1 := (List.nodup_cons.mp nd).1
      exact h1 (by
        have z := List.mem_map_of_mem (f := Prod.fst) e
        rw [q] at z
        exact z)
  | @there y r r' k ih =>
    intro x hx
    have h1 := List.nodup_cons.mp nd
    rcases List.mem_cons.mp hx with e | e
    · refine .inr ⟨by rw [e]; exact List.mem_cons_self, fun q => ?_⟩
      exact h1.1 (by rw [← e, q]; exact List.mem_map_of_mem (f := Prod.fst) k.mem)
    · exact (ih h1.2 x e).imp id fun z => ⟨List.mem_cons_of_mem _ z.1, z.2⟩
theorem Own.mem (O : Own a c B H ls) (h : (p, o) ∈ ls) : H p = some o := O.here _ h
theorem Own.kp (O : Own a c B H ls) (h : B p = some o) : H p = some o := O.keep _ _ h
theorem Own.draw (O : Own a c B H ls) (R : Rng a c H') (f : Fra a c H H') : Own a c B H' ls := by
  refine ⟨R, fun b o e => ?_, O.nd, O.out, fun x hx => ?_, O.ha, O.hc⟩
  · rw [f b (fun q => by rw [q, O.ha] at e; cases e) fun q => by rw [q, O.hc] at e; cases e]
    exact O.keep _ _ e
  · rw [f _ (O.out x hx).2.1 (O.out x hx).2.2]
    exact O.here x hx
theorem Own.same (O : Own a c B H ls) (s : Same H H') : Own a c B H' ls := ⟨O.R.same s, fun b o e => s _ _ (O.keep _ _ e), O.nd, O.out, fun x hx => s _ _ (O.here x hx), O.ha, O.hc⟩
theorem Own.set (O : Own a c B H ls) (h : Up1 p o o' ls ls') : Own a c B (upd H p o') ls' := by
  have hp := O.out _ h.mem
  refine ⟨O.R.upd hp.2.1 hp.2.2, fun b u e => ?_, by rw [h.fst]; exact O.nd, fun x hx => ?_, fun x hx => ?_, O.ha, O.hc⟩
  · rw [upd_ne (fun q => by rw [q, hp.1] at e; cases e)]
    exact O.keep _ _ e
  · rcases h.of x hx with e | e
    · rw [e]
      exact hp
    · exact O.out x e
  · rcases h.other O.nd x hx with e | e
    · rw [e]
      exact upd_same
    · rw [upd_ne e.2]
      exact O.here x e.1
theorem Own.new (O : Own a c B H ls) (hp : H p = none) : Own a c B (upd H p o) ((p, o) :: ls) := by
  obtain ⟨n1, n2⟩ := O.R.fresh hp
  have hb : B p = none := by
    cases e : B p with
    | none => rfl
    | some u => rw [O.keep _ _ e] at hp; cases hp
  have hne : ∀ x ∈ ls, x.1 ≠ p := fun x hx q => by
    have := O.here x hx
    rw [q, hp] at this
    cases this
  refine ⟨O.R.upd n1 n2, fun b u e => ?_, ?_, fun x hx => ?_, fun x hx => ?_, O.ha, O.hc⟩
  · rw [upd_ne (fun q => by rw [q, hb] at e; cases e)]
    exact O.keep _ _ e
  · rw [List.map_cons]
    refine List.nodup_cons.mpr ⟨fun q => ?_, O.nd⟩
    obtain ⟨x, hx, e⟩ := List.mem_map.mp q
    exact hne x hx e
  · rcases List.mem_cons.mp hx with e | e
    · rw [e]
      exact ⟨hb, n1, n2⟩
    · exact O.out x e
  · rcases List.mem_cons.mp hx with e | e
    · rw [e]
      exact upd_same
    · rw [upd_ne (hne x e)]
      exact O.here x e
theorem Own.perm (O : Own a c B H ls) (h : ls.Perm ls') : Own a c B H ls' :=
  ⟨O.R, O.keep, (h.map _).nodup_iff.mp O.nd, fun x hx => O.out x (h.mem_iff.mpr hx), fun x hx => O.here x (h.mem_iff.mpr hx), O.ha, O.hc⟩
/-- the contents of a part of what is owned -/
def cellsH (ls : List (Addr × HO)) : Hp := fun p => ls.lookup p
theorem look_mem {x : Addr × HO} : ∀ {ls : List (Addr × HO)}, (ls.map Prod.fst).Nodup → x ∈ ls → ls.lookup x.1 = some x.2
  | [], _, h => by cases h
  | y :: r, nd, h => by
    have h1 := List.nodup_cons.mp nd
    rcases List.mem_cons.mp h with e | e
    · rw [e]
      show (match y.1 == y.1 with | true => some y.2 | false => r.lookup y.1) = _
      rw [beq_self_eq_true]
    · have ne : ¬ x.1 = y.1 := fun q => h1.1 (by rw [← q]; exact List.mem_map_of_mem e)
      show (match x.1 == y.1 with | true => some y.2 | false => r.lookup x.1) = _
      rw [beq_false_of_ne ne]
      exact look_mem h1.2 e
theorem look_none {p : Addr} : ∀ {ls : List (Addr × HO)}, p ∉ ls.map Prod.fst → ls.lookup p = none
  | [], _ => rfl
  | y :: r, h => by
    have ne : ¬ p = y.1 := fun q => h (by rw [q]; exact List.mem_cons_self)
    show (match p == y.1 with | true => some y.2 | false => r.lookup p) = _
    rw [beq_false_of_ne ne]
    exact look_none fun q => h (List.mem_cons_of_mem _ q)
/-- a part of it stays from now on -/
theorem Own.hide (O : Own a c B H (l1 ++ l2)) : ∃ B', Same B B' ∧ (∀ x ∈ l1, B' x.1 = some x.2) ∧ (∀ q ∉ l1.map Prod.fst, B' q = B q) ∧ Own a c B' H l2 := by
  have nd : (l1.map Prod.fst ++ l2.map Prod.fst).Nodup := by
    rw [← List.map_append]
    exact O.nd
  obtain ⟨n1, n2, n3⟩ := List.nodup_append.mp nd
  have key : ∀ q ∉ l1.map Prod.fst, (match l1.lookup q with | some o => some o | none => B q) = B q := fun q hq => by rw [look_none hq]
  have at1 : ∀ x ∈ l1, (match l1.lookup x.1 with | some o => some o | none => B x.1) = some x.2 := fun x hx => by rw [look_mem n1 hx]
  refine ⟨fun q => match l1.lookup q with | some o => some o | none => B q, fun b u e => ?_, at1, key, O.R, fun b u e => ?_, n2, fun x hx => ?_, fun x hx => O.here x (List.mem_append_right _ hx), ?_, ?_⟩
  · refine (key b fun hq => ?_).trans e
    obtain ⟨x, hx, ex⟩ := List.mem_map.mp hq
    have := (O.out x (List.mem_append_left _ hx)).1
    rw [ex, e] at this
    cases this
  · by_cases hq : b ∈ l1.map Prod.fst
    · obtain ⟨x, hx, ex⟩ := List.mem_map.mp hq
      rw [← ex] at e ⊢
      have e2 : some x.2 = some u := (at1 x hx).symm.trans e
      rw [← e2]
      exact O.here x (List.mem_append_left _ hx)
    · exact O.keep _ _ ((key b hq).symm.trans e)
  · have o1 := O.out x (List.mem_append_right _ hx)
    refine ⟨?_, o1.2⟩
    exact (key _ fun hq => n3 _ hq _ (List.mem_map_of_mem hx) rfl).trans o1.1
  · show (match l1.lookup a with | some o => some o | none => B a) = none
    rw [key a fun hq => ?_]
    · exact O.ha
    obtain ⟨x, hx, ex⟩ := List.mem_map.mp hq
    exact (O.out x (List.mem_append_left _ hx)).2.1 ex
  · show (match l1.lookup c with | some o => some o | none => B c) = none
    rw [key c fun hq => ?_]
    · exact O.hc
    obtain ⟨x, hx, ex⟩ := List.mem_map.mp hq
    exact (O.out x (List.mem_append_left _ hx)).2.2 ex
theorem Own.freeze (O : Own a c B H ((p, o) :: ls)) : ∃ B', Same B B' ∧ B' p = some o ∧ Own a c B' H ls := by
  obtain ⟨B', s, h, _, O'⟩ := Own.hide (l1 := [(p, o)]) O
  exact ⟨B', s, h _ List.mem_cons_self, O'⟩
/-- .. and is owned again -/
theorem Own.unhide (O : Own a c B H l2) (nd : (l1.map Prod.fst).Nodup) (h : ∀ x ∈ l1, B x.1 = some x.2) : Own a c (hid (l1.map Prod.fst) B) H (l1 ++ l2) := by
  refine ⟨O.R, fun b u e => O.keep _ _ (hid_some e).1, ?_, fun x hx => ?_, fun x hx => ?_, ?_, ?_⟩
  · rw [List.map_append]
    refine List.nodup_append.mpr ⟨nd, O.nd, fun u hu v hv e => ?_⟩
    obtain ⟨x, hx, ex⟩ := List.mem_map.mp hu
    obtain ⟨y, hy, ey⟩ := List.mem_map.mp hv
    have h1 := h x hx
    have h2 := (O.out y hy).1
    rw [ey, ← e, ← ex, h1] at h2
    cases h2
  · rcases List.mem_append.mp hx with e | e
    · refine ⟨hid_in (List.mem_map_of_mem e), fun q => ?_, fun q => ?_⟩
      · have := h x e
        rw [q, O.ha] at this
        cases this
      · have := h x e
        rw [q, O.hc] at this
        cases this
    · refine ⟨?_, (O.out x e).2⟩
      by_cases q : x.1 ∈ l1.map Prod.fst
      · exact hid_in q
      · rw [hid_out q]
        exact (O.out x e).1
  · rcases List.mem_append.mp hx with e | e
    · exact O.keep _ _ (h x e)
    · exact O.here x e
  · by_cases q : a ∈ l1.map Prod.fst
    · exact hid_in q
    · rw [hid_out q]
      exact O.ha
  · by_cases q : c ∈ l1.map Prod.fst
    · exact hid_in q
    · rw [hid_out q]
      exact O.hc
theorem Same.hidO {l : List Addr} (s : Same B H) (h : ∀ p ∈ l, B p = none) : Same B (Lb.hid l H) := fun b u e => by
  rw [hid_out fun q => by rw [h b q] at e; cases e]
  exact s _ _ e
end
/-- what came since -/
inductive Pre (l0 : List (Addr × HO)) : List (Addr × HO) → List (Addr × HO) → Prop
  | nil : Pre l0 l0 []
  | cons {x : Addr × HO} {l l1 : List (Addr × HO)} (h : Pre l0 l l1) : Pre l0 (x :: l) (x :: l1)
inductive PutF (f : Str) (y : V) : List (Str × V) → List (Str × V) → Prop
  | nil : PutF f y [] [(f, y)]
  | here {x : V} {r : List (Str × V)} : PutF f y ((f, x) :: r) ((f, y) :: r)
  | there {g : Str} {x : V} {r r' : List (Str × V)} (n : ¬ g = f) (h : PutF f y r r') : PutF f y ((g, x) :: r) ((g, x) :: r')
inductive LkF (f : Str) (v : Option V) : List (Str × V) → Prop
  | nil (h : v = none) : LkF f v []
  | here {x : V} {r : List (Str × V)} (h : v = some x) : LkF f v ((f, x) :: r)
  | there {g : Str} {x : V} {r : List (Str × V)} (n : ¬ f = g) (h : LkF f v r) : LkF f v ((g, x) :: r)
section
variable {a c p : Addr} {B H H' : Hp} {o o' : HO} {ls ls' l0 l1 l2 : List (Addr × HO)} {f : Str} {y : V} {fs fs' : List (Str × V)} {w : Option V}
theorem Pre.eq (h : Pre l0 l1 l2) : l1 = l2 ++ l0 := by
  induction h with
  | nil => rfl
  | cons _ ih => rw [ih]; rfl
theorem PutF.eq (h : PutF f y fs fs') : putF f y fs = fs' := by
  induction h with
  | nil => rfl
  | here => exact if_pos rfl
  | there n _ ih => exact (if_neg n).trans (by rw [ih])
theorem LkF.eq (h : LkF f w fs) : fs.lookup f = w := by
  induction h with
  | nil e => exact e.symm
  | @here x r e =>
    show (match f == f with | true => some x | false => r.lookup f) = w
    rw [beq_self_eq_true]
    exact e.symm
  | @there g x r n _ ih =>
    show (match f == g with | true => some x | false => r.lookup f) = w
    rw [beq_false_of_ne n]
    exact ih
theorem Own.settle (O : Own a c B H ls) (h : Pre l0 ls l1) : ∃ B', Same B B' ∧ (∀ x ∈ l1, B' x.1 = some x.2) ∧ Own a c B' H l0 := by
  rw [h.eq] at O
  obtain ⟨B', s, k, _, O'⟩ := O.hide
  exact ⟨B', s, k, O'⟩
theorem Own.drop (O : Own a c B H (l1 ++ l2)) : Own a c B H l2 :=
  ⟨O.R, O.keep, (by
    have nd := O.nd
    rw [List.map_append] at nd
    exact (List.nodup_append.mp nd).2.1), fun x hx => O.out x (List.mem_append_right _ hx), fun x hx => O.here x (List.mem_append_right _ hx), O.ha, O.hc⟩
theorem Own.dropP (O : Own a c B H ls) (h : Pre l0 ls l1) : Own a c B H l0 := by
  rw [h.eq] at O
  exact O.drop
theorem Own.start (R : Rng a c H) : Own a c (hid [a, c] H) H [] := ⟨R, hid_sub, List.nodup_nil, fun _ h => (List.not_mem_nil h).elim, fun _ h => (List.not_mem_nil h).elim, hid_in List.mem_cons_self, hid_in (List.mem_cons_of_mem _ List.mem_cons_self)⟩
end
/-! ### steps by what is owned -/
section
variable {a c p : Addr} {B H : Hp} {ls ls' : List (Addr × HO)} {Q : VK} {xs : List V} {o : HO} {σ : L2.St}
/-- a new place -/
def NewO (o : HO) (H : Hp) (Q : VK) : Prop := ∀ p, H p = none → Q (.ref p) (upd H p o)
def FldS (K : PySem.W.Frag) (x : V) (f : Str) (y : V) (H : Hp) (R : Hp → Prop) : Prop := ∃ a C dx fs, x = .ref a ∧ H a = some (.ins C dx fs) ∧ Cls K C ∧ NoAttr K C f ∧ fs.length < 1000 ∧ R (upd H a (.ins C dx (putF f y fs)))
def NewI (C : Addr) (sp : Sp) (vs : List V) (H : Hp) (Q : VK) (E : XK) : Prop := ∀ x dx, H x = none → H dx = none → dx ≠ x → sp (.ref x :: vs) (upd (upd H dx (.own x)) x (.ins C dx [])) (fun v H2 => v = .non ∧ Q (.ref x) H2) E
theorem i_tupN {t : TA} (q : t σ H fun xs H1 => xs.length ≤ sizeLine ∧ NewO (.tup xs) H1 Q) : tTup t σ H Q := q
theorem i_lstN {t : TA} (q : t σ H fun xs H1 => xs.length ≤ sizeLine ∧ NewO (.lst xs) H1 Q) : tLst t σ H Q := q
theorem i_dnewN (q : NewO (.dK []) H Q) : tDNewK σ H Q := q
theorem i_fldSN {K : PySem.W.Frag} {ta tv : TE} {f : Str} {nx : L2.St → Hp → Prop} {rt : VK} {bk ct : L2.St → Hp → Prop} (q : tv σ H fun y H1 => ta σ H1 fun x H2 => FldS K x f y H2 fun H3 => nx σ H3) : sFld K ta tv f ⟨nx, rt, bk, ct⟩ σ H := q
theorem i_makeN {C : Addr} {sp : Sp} {E : XK} {t : TA} (q : t σ H fun vs H1 => NewI C sp (vs ++ []) H1 Q E) : tMake C sp [] E t σ H Q := q
theorem i_listN {p : Addr} (h : H p = some (.lst xs)) (k : NewO (.lst xs) H Q) : rListA [.ref p] H Q := i_listL h k
theorem i_listTN {p : Addr} (h : H p = some (.tup xs)) (k : NewO (.lst xs) H Q) : rListA [.ref p] H Q := i_listT h k
theorem i_addN {p q : Addr} {ys : List V} (h1 : H p = some (.lst xs)) (h2 : H q = some (.lst ys)) (h : xs.length + ys.length ≤ sizeLine) (k : NewO (.lst (xs ++ ys)) H Q) : rAddA (.ref p) (.ref q) H Q := i_addL h1 h2 h k
theorem i_tupO (O : Own a c B H ls) (hz : xs.length ≤ sizeLine) (k : ∀ p H', Own a c B H' ((p, .tup xs) :: ls) → Q (.ref p) H') : xs.length ≤ sizeLine ∧ NewO (.tup xs) H Q := ⟨hz, fun p hp => k p _ (O.new hp)⟩
theorem i_lstO (O : Own a c B H ls) (hz : xs.length ≤ sizeLine) (k : ∀ p H', Own a c B H' ((p, .lst xs) :: ls) → Q (.ref p) H') : xs.length ≤ sizeLine ∧ NewO (.lst xs) H Q := ⟨hz, fun p hp => k p _ (O.new hp)⟩
theorem i_newO (O : Own a c B H ls) (k : ∀ p H', Own a c B H' ((p, o) :: ls) → Q (.ref p) H') : NewO o H Q := fun p hp => k p _ (O.new hp)
theorem i_dgetI {p : Addr} {kvs : List (Key × V)} {i : Int} {v : V} {R : V → Prop} (h : H p = some (.dK kvs)) (hv : valV kvs (.inl i) = some v) (q : R v) : (∃ a' v', V.ref p = .ref a' ∧ DGet H a' (.int i) (some v') ∧ R v') := i_dgetK h (k := .inl i) rfl hv q
inductive IxO : HO → Int → V → Prop
  | lst {xs : List V} {i : Int} {v : V} (h : atI xs i = some v) : IxO (.lst xs) i v
  | tup {xs : List V} {i : Int} {v : V} (h : atI xs i = some v) : IxO (.tup xs) i v
inductive LenO : HO → Int → Prop
  | lst {xs : List V} : LenO (.lst xs) xs.length
  | tup {xs : List V} : LenO (.tup xs) xs.length
  | dK {kvs : List (Key × V)} : LenO (.dK kvs) kvs.length
theorem i_ixA {p : Addr} {i : Int} {v : V} (h : H p = some o) (hi : IxO o i v) (q : Q v H) : rIxA (.ref p) (.int i) H Q := by
  cases hi with
  | lst hi => exact i_ixL h hi q
  | tup hi => exact i_ixT h hi q
theorem i_lenA {p : Addr} {i : Int} (h : H p = some o) (hi : LenO o i) (q : Q (.int i) H) : rLenA [.ref p] H Q := by
  cases hi with
  | lst => exact i_lenL h q
  | tup => exact i_lenT h q
  | dK => exact i_lenD h q
theorem i_appO {l : Addr} {y : V} (O : Own a c B H ls) (h : Up1 l (.lst xs) (.lst (xs ++ [y])) ls ls') (hz : xs.length < sizeLine) (k : ∀ H', Own a c B H' ls' → Q .non H') : rAppA (.ref l) [y] H Q := i_app (O.mem h.mem) hz (k _ (O.set h))
theorem i_setO {l : Addr} {i : Int} {j : Nat} {v : V} {R : Hp → Prop} (O : Own a c B H ls) (h : Up1 l (.lst xs) (.lst (xs.set j v)) ls ls') (hi : ixN xs.length i = some j) (k : ∀ H', Own a c B H' ls' → R H') : rSetA (.ref l) (.int i) v H R := i_setL (O.mem h.mem) hi (k _ (O.set h))
theorem i_popIO {l : Addr} {y : V} {i : Int} {j : Nat} (O : Own a c B H ls) (h : Up1 l (.lst xs) (.lst (xs.eraseIdx j)) ls ls') (hi : i = (j : Int)) (hj : j < 2 ^ 62) (hy : xs[j]? = some y) (k : ∀ H', Own a c B H' ls' → Q y H') : rPopI (.ref l) [.int i] H Q := by
  simp only [rPopI, O.mem h.mem]
  exact ⟨j, y, hi, hj, hy, k _ (O.set h)⟩
theorem i_popLO {l : Addr} {y : V} (O : Own a c B H ls) (h : Up1 l (.lst xs) (.lst xs.dropLast) ls ls') (hy : xs[xs.length - 1]? = some y) (k : ∀ H', Own a c B H' ls' → Q y H') : rPopL (.ref l) [] H Q := i_popL (O.mem h.mem) hy (k _ (O.set h))
theorem i_fldO {K : PySem.W.Frag} {l C dx : Addr} {fs : List (Str × V)} {f : Str} {v : V} {R : V → Prop} (h : H l = some (.ins C dx fs)) (hc : Cls K C) (hn : NoAttr K C f) (hv : LkF f (some v) fs) (k : R v) :
    (∃ a C dx fs v, V.ref l = .ref a ∧ H a = some (.ins C dx fs) ∧ Cls K C ∧ NoAttr K C f ∧ fs.lookup f = some v ∧ R v) := ⟨l, C, dx, fs, v, rfl, h, hc, hn, hv.eq, k⟩
theorem i_fldSO {K : PySem.W.Frag} {l C dx : Addr} {fs : List (Str × V)} {f : Str} {y : V} {R : Hp → Prop} (O : Own a c B H ls) {fs' : List (Str × V)} (h : Up1 l (.ins C dx fs) (.ins C dx fs') ls ls') (hf : PutF f y fs fs') (hc : Cls K C) (hn : NoAttr K C f) (hz : fs.length < 1000) (k : ∀ H', Own a c B H' ls' → R H') :
    FldS K (.ref l) f y H R := ⟨l, C, dx, fs, rfl, O.mem h.mem, hc, hn, hz, by rw [hf.eq]; exact k _ (O.set h)⟩
theorem i_methO {C l dx : Addr} {fs : List (Str × V)} {m : Str} {t : TA} {R : List V → Hp → Prop} (h : H l = some (.ins C dx fs)) (hm : LkF m none fs) (k : t σ H R) :
    (∃ a dx fs, V.ref l = .ref a ∧ H a = some (.ins C dx fs) ∧ fs.lookup m = none ∧ t σ H R) := ⟨l, dx, fs, rfl, h, hm.eq, k⟩
theorem i_mkd {R : Prop} (q : R) : (V.non = V.non ∧ R) := ⟨rfl, q⟩
theorem i_makeO {C : Addr} {sp : Sp} {E : XK} {vs : List V} (O : Own a c B H ls) (k : ∀ x dx H', Own a c B H' ((x, .ins C dx []) :: (dx, .own x) :: ls) → sp (.ref x :: vs) H' (fun v H2 => v = .non ∧ Q (.ref x) H2) E) : NewI C sp vs H Q E :=
  fun x dx hx hd ne => k x dx _ ((O.new hd).new (by rw [upd_ne ne.symm]; exact hx))
theorem i_drawO {s : Addr} {n : Int} {E : XK} (O : Own a c B H ls) (hs : s = a) (h0 : 0 < n) (h1 : n < 1073741824) (k : ∀ (r : Int) H', 0 ≤ r → r < n → Own a c B H' ls → Q (.int r) H') : spDraw ([.ref s, .int n] ++ []) H Q E := by
  subst hs
  exact ⟨_, c, n, rfl, h0, h1, O.R, fun H' r a1 a2 R f => k r H' a1 a2 (O.draw R f)⟩
theorem i_pickO {s p : Addr} {E : XK} (O : Own a c B H ls) (hs : s = a) (hp : (p, HO.lst xs) ∈ ls) (h0 : xs ≠ []) (h1 : xs.length ≤ 10000000) (k : ∀ (v : V) H', v ∈ xs → Own a c B H' ls → Q v H') : spPick ([.ref s, .ref p] ++ []) H Q E := by
  subst hs
  exact ⟨_, c, p, xs, rfl, O.R, O.mem hp, (O.out _ hp).2.1, (O.out _ hp).2.2, h0, h1, fun H' v hv R f => k v H' hv (O.draw R f)⟩
/-! ### blocks of n alike -/
theorem blk_pull {α : Type} {n j : Nat} (h : j < n) (f : Nat → List α) : ((List.range n).flatMap f).Perm (f j ++ ((List.range n).erase j).flatMap f) := by
  have e := List.perm_cons_erase (List.mem_range.mpr h)
  exact (e.flatMap_right f)
theorem blk_other {α : Type} {n j : Nat} {f g : Nat → List α} (h : ∀ i, i ≠ j → g i = f i) : ((List.range n).erase j).flatMap g = ((List.range n).erase j).flatMap f := by
  have key : ∀ l : List Nat, j ∉ l → l.flatMap g = l.flatMap f := by
    intro l
    induction l with
    | nil => intro _; rfl
    | cons x r ih =>
      intro hj
      rw [List.flatMap_cons, List.flatMap_cons, h x (fun q => hj (by rw [q]; exact List.mem_cons_self)), ih fun q => hj (List.mem_cons_of_mem _ q)]
  exact key _ fun q => ((List.nodup_range).mem_erase_iff.mp q).1 rfl
theorem blk_below {α : Type} {n : Nat} {f g : Nat → List α} (h : ∀ i, i < n → g i = f i) : (List.range n).flatMap g = (List.range n).flatMap f := by
  have key : ∀ l : List Nat, (∀ i ∈ l, i < n) → l.flatMap g = l.flatMap f := by
    intro l
    induction l with
    | nil => intro _; rfl
    | cons x r ih =>
      intro hj
      rw [List.flatMap_cons, List.flatMap_cons, h x (hj x List.mem_cons_self), ih fun i hi => hj i (List.mem_cons_of_mem _ hi)]
  exact key _ fun i hi => List.mem_range.mp hi
theorem blk_succ {α : Type} {n : Nat} (f : Nat → List α) : (List.range (n + 1)).flatMap f = (List.range n).flatMap f ++ f n := by
  rw [List.range_succ, List.flatMap_append, List.flatMap_cons, List.flatMap_nil, List.append_nil]
theorem blk_join {α : Type} (f g : Nat → List α) : ∀ n, ((List.range n).flatMap f ++ (List.range n).flatMap g).Perm ((List.range n).flatMap fun i => f i ++ g i)
  | 0 => .nil
  | n + 1 => by
    rw [blk_succ, blk_succ, blk_succ]
    have ih := blk_join f g n
    refine List.Perm.trans ?_ (ih.append_right (f n ++ g n))
    rw [List.append_assoc, List.append_assoc]
    refine List.Perm.append_left _ ?_
    rw [← List.append_assoc, ← List.append_assoc]
    exact (List.perm_append_comm (l₁ := f n)).append_right _
/-- a def of the walk's own -/
def spIn (N : List Str) (n : Nat) (t : TS) : Sp := fun vs H Q _ => vs.length = n ∧ t { nx := fun _ H' => Q .non H', rt := Q } (L2.start N vs) H
inductive StE : List Str → List V → L2.St → Prop
  | nil : StE [] [] []
  | app {N : List Str} {vs : List V} {σ : L2.St} (h : StE N vs σ) : StE N (vs ++ []) σ
  | got {x : Str} {N : List Str} {v : V} {vs : List V} {σ : L2.St} (h : StE N vs σ) : StE (x :: N) (v :: vs) (some v :: σ)
  | lack {x : Str} {N : List Str} {σ : L2.St} (h : StE N [] σ) : StE (x :: N) [] (none :: σ)
theorem StE.eq {N : List Str} {vs : List V} {σ : L2.St} (h : StE N vs σ) : L2.start N vs = σ := by
  induction h with
  | nil => rfl
  | app _ ih => rw [List.append_nil]; exact ih
  | @got x N v vs σ _ ih =>
    rw [← ih]
    show (v :: vs).map some ++ List.replicate (N.length + 1 - (vs.length + 1)) none = some v :: (vs.map some ++ List.replicate (N.length - vs.length) none)
    rw [Nat.add_sub_add_right]
    rfl
  | @lack x N σ _ ih =>
    rw [← ih]
    rfl
theorem i_in {N : List Str} {n : Nat} {t : TS} {vs : List V} {σ : L2.St} {E : XK} (hn : vs.length = n) (hs : StE N vs σ) (q : t { nx := fun _ H' => Q .non H', rt := Q } σ H) : spIn N n t vs H Q E := ⟨hn, by rw [hs.eq]; exact q⟩
end
end Lb
set_option Elab.async false
set_option linter.all false
set_option maxRecDepth 100000
set_option maxHeartbeats 4000000
/-! Lp: attributes as targets, is of bools, index of ints. Knows no program. -/
namespace Lb
open PySem PySem.Spec PyProof.Rows L2
/-- o.f as a target -/
def gFld (K : PySem.W.Frag) (ta : TE) (f : Str) : TG := fun v σ H R => ta σ H fun x H1 => FldS K x f v H1 fun H2 => R σ H2
section
variable {X : Cx} {o : Expr} {f : Str} {ta : TE} {pos : Pos}
theorem pg_fld (ha : PE X o ta) : PG X (.Attribute o f pos) (gFld X.K ta f) := by
  refine ⟨fun pins s σ H v u Q I r h => ?_⟩
  refine PySem.W.kas_attr (thn (ha.run pins s σ H _ I h) fun ov s1 ⟨x, H1, I1, rx, a, C, dx, fs, ex, ea, c, n, l, q⟩ => ?_)
  subst ex
  obtain rfl : ov = Value.ref a := rx
  exact setattr_ok I1 ea c n l r fun s2 I2 => ⟨σ, _, I2, q⟩
end
section
variable {H : Hp} {Q : VK} {σ : L2.St}
theorem i_gfld {K : PySem.W.Frag} {ta : TE} {f : Str} {v : V} {R : L2.St → Hp → Prop} (q : ta σ H fun x H1 => FldS K x f v H1 fun H2 => R σ H2) : gFld K ta f v σ H R := q
theorem i_glst {K : PySem.W.Frag} {n : Nat} {t : TGs} {a : Addr} {xs : List V} {R : L2.St → Hp → Prop} (h : H a = some (.lst xs)) (hn : xs.length = n) (q : t xs σ H R) : gLst K n t (.ref a) σ H R := ⟨a, xs, rfl, SqL.of h, hn, q⟩
theorem i_isB {a b : Bool} (q : Q (.bl (decide (a = b))) H) : rIsB (.bl a) (.bl b) H Q := ⟨a, b, rfl, rfl, q⟩
theorem i_notB {a b : Bool} (q : Q (.bl (!decide (a = b))) H) : rNotB (.bl a) (.bl b) H Q := ⟨a, b, rfl, rfl, q⟩
theorem i_bm {K : PySem.W.Frag} {T : String} {r : V → List V → Hp → VK → Prop} {to : TE} {t : TA} (q : to σ H fun x H1 => tyV K T x H1 ∧ t σ H1 fun xs H2 => r x xs H2 Q) : tBM K T r to t σ H Q := q
theorem eqV_int {a b : Int} : eqV (.int a) (.int b) = decide (a = b) := by
  by_cases h : a = b <;> simp [eqV, h]
/-- xs.index(y), ints -/
theorem i_indexI {K : PySem.W.Frag} {p : Addr} {ns : List Int} {y : Int} {j : Nat} (h : H p = some (.lst (ns.map V.int))) (hj : ns[j]? = some y) (hn : ∀ m, m < j → ns[m]? ≠ some y) (q : Q (.int (j : Nat)) H) : rIndex K (.ref p) [.int y] H Q := by
  refine ⟨p, ns.map V.int, .int y, j, .int y, rfl, rfl, SqL.of h, rfl, ?_, ?_, ?_, fun m z' hm hz => ?_, q⟩
  · rw [List.all_eq_true]
    intro v hv
    obtain ⟨i, _, rfl⟩ := List.mem_map.mp hv
    rfl
  · rw [List.getElem?_map, hj]
    rfl
  · rw [eqV_int]
    exact decide_eq_true rfl
  · rw [List.getElem?_map] at hz
    cases e : ns[m]? with
    | none => rw [e] at hz; cases hz
    | some u =>
      rw [e] at hz
      rw [← Option.some.inj hz]
      show eqV (.int u) (.int y) = false
      rw [eqV_int]
      exact decide_eq_false fun q => hn m hm (by rw [e, q])
end
end Lb
set_option Elab.async false
set_option linter.all false
set_option maxRecDepth 100000
set_option maxHeartbeats 4000000
/-! Lt: constant tuples of the program, index of a tuple, split, extend by a tuple. Knows no program. -/
namespace Lb
open PySem PySem.Spec PyProof.Rows L2
def allB : List V → List Value → Bool
  | [], [] => true
  | x :: xs, u :: us => He.relB x u && allB xs us
  | _, _ => false
theorem allB_ok : ∀ {xs : List V} {us : List Value}, allB xs us = true → Vals xs us
  | [], [], _ => .nil
  | x :: xs, u :: us, h => by
    obtain ⟨h1, h2⟩ := He.ba (show (He.relB x u && allB xs us) = true from h)
    exact .cons (He.relB_ok h1) (allB_ok h2)
  | [], _ :: _, h => by cases h
  | _ :: _, [], h => by cases h
/-- the global x is a tuple of these -/
def tupB (K : PySem.W.Frag) (x : Str) (xs : List V) : Bool := match K.lookup (He.ga K x) with
  | some ⟨.type c, none, .seq its _, _⟩ => decide (c = "tuple") && (decide (its.size ≤ 1000) && allB xs its.toList)
  | _ => false
/-- what a constant tuple is -/
structure KT (K : PySem.W.Frag) (a : Addr) (xs : List V) : Prop where
  sq : ∀ H, SqT K H a xs
  ty : ∀ H, tyV K "tuple" (.ref a) H
theorem tupB_ok {K : PySem.W.Frag} {x : Str} {xs : List V} (h : tupB K x xs = true) : KT K (He.ga K x) xs := by
  unfold tupB at h
  cases q : K.lookup (He.ga K x) with
  | none =>
    rw [q] at h
    cases h
  | some o =>
    obtain ⟨oc, od, dt, osl⟩ := o
    rw [q] at h
    cases oc with
    | type c =>
      cases od with
      | none =>
        cases dt with
        | seq its n =>
          obtain ⟨h1, h2⟩ := He.ba h
          obtain ⟨h3, h4⟩ := He.ba h2
          have e : c = "tuple" := of_decide_eq_true h1
          subst e
          exact ⟨fun H => .inr ⟨_, its, n, q, rfl, rfl, sz (Nat.le_trans (of_decide_eq_true h3) (by decide)), allB_ok h4⟩, fun H => .inr (.inl ⟨rfl, _, q, rfl, rfl⟩)⟩
        | _ => cases h
      | some d => cases dt <;> cases h
    | _ => cases od <;> cases dt <;> cases h
def rLenK (K : PySem.W.Frag) : List V → Hp → VK → Prop := fun xs H Q => ∃ p ys, xs = [.ref p] ∧ (SqL K H p ys ∨ SqT K H p ys) ∧ Q (.int ys.length) H
def rTixA (K : PySem.W.Frag) : V → List V → Hp → VK → Prop := fun x xs H Q => ∃ p, ∃ ys : List Str, ∃ z j, x = .ref p ∧ xs = [.str z] ∧ SqT K H p (ys.map V.str) ∧ ys[j]? = some z ∧ (∀ m, m < j → ys[m]? ≠ some z) ∧ Q (.int (j : Nat)) H
def rSplitA : V → List V → Hp → VK → Prop := fun x xs H Q => ∃ a b, x = .str a ∧ xs = [.str b] ∧ (b.length == 0) = false ∧ a.length + 2 ≤ sizeLine ∧ ∀ p, H p = none → Q (.ref p) (upd H p (.lst ((Txt.split a b).map V.str)))
def rExtT : V → List V → Hp → VK → Prop := fun x vs H Q => ∃ l b xs ys, x = .ref l ∧ vs = [.ref b] ∧ H l = some (.lst xs) ∧ H b = some (.tup ys) ∧ xs.length + ys.length ≤ sizeLine ∧ Q .non (upd H l (.lst (xs ++ ys)))
theorem ext_tup (l : Addr) (items : Array Value) (n : Nat) (b : Addr) (items2 : Array Value) (n2 : Nat) (dd : Option Addr) (sl : Array (Option Value)) (hs0 : ¬(!items.isEmpty && Builtin.List.listTooLong (items.size + items2.size)) = true) (hs1 : items.size ≤ sizeLine) (hs2 : items.size + items2.size ≤ sizeLine + 1) :
    Meets (Builtin.«list.extend» ⟨[.ref l, .ref b], []⟩) (fun _ R s => s.heap.get? l = some { cls := .type "list", dict := none, data := .seq items n, slots := #[] } ∧ s.heap.get? b = some { cls := .type "tuple", dict := dd, data := .seq items2 n2, slots := sl } ∧ R (.ok (.ret Value.none)) { s with heap := s.heap.update l (Obj.mapSeq fun x => x ++ items2), toks := s.toks }) :=
  .of_wp fun prog w A R s h => by
    obtain ⟨hp, g, d, tk, os⟩ := s; obtain ⟨hl, hb, h⟩ := h; have f1 := AutoSeq1.idx_int; have f2 := AutoSeq1.sub_tuple_tuple; have f3 := AutoSeq1.sub_list_list; have f4 := AutoSeq1.sub_tuple_list; have f5 := AutoSeq1.sub_list_tuple;
    have hz' : (items ++ items2).size ≤ sizeLine + 1 := by rw [Array.size_append]; exact hs2
    wp_walk using (wpAny_updateSeq hl rfl (hz := hs1) (_hz' := hz')), AutoSeq1.wpAny_loadPart' hl, AutoSeq1.wpAny_loadPart' hb; exact ⟨_, rfl, h⟩
section
variable {X : Cx} {H : Hp} {Q : VK} {σ : L2.St}
theorem call_lenK : CallR X (.builtin "len") (rLenK X.K) := call_len_seq
theorem mt_tixA : MtR X "tuple.index" (rTixA X.K) := mt_tup_index
theorem mt_splitA : MtR X "str.split" rSplitA := mt_split
theorem mt_extT : MtR X "list.extend" rExtT := by
  intro pins s σ H x vs v us Q I rx rv h
  obtain ⟨l, b, xs, zs, rfl, rfl, hH, hB, hz, q⟩ := h
  cases rx
  obtain ⟨u, rfl, ru⟩ := rv.one
  cases ru
  obtain ⟨z, its, n, r, hl, e⟩ := I.lstM hH
  obtain ⟨its2, r2, ⟨⟨cls, dd, dt, sl⟩, ho, hc, n2, hd⟩, hz2⟩ := I.tuple (SqT.of (K := X.K) hB)
  simp only at hc hd
  subst hc
  subst hd
  have hl2 := r2.length
  have hsz : its.toArray.size + its2.toArray.size ≤ sizeLine := by rw [List.size_toArray, List.size_toArray]; omega
  have hlong : ¬ (!its.toArray.isEmpty && Builtin.List.listTooLong (its.toArray.size + its2.toArray.size)) = true := by
    rw [notLongL hsz, Bool.and_false]
    exact Bool.false_ne_true
  refine call_meets F.slot_list_extend ⟨_, e, rfl⟩ F.entry_list_extend (F.args_list_extend_2 _ _)
    (ext_tup l its.toArray n b its2.toArray n2 dd sl hlong (by rw [List.size_toArray]; omega) (by omega)) ⟨e, ho, ?_⟩
  refine ⟨.non, _, I.lset (its' := its ++ its2) hH e (by simp) (r.append r2) ?_, rfl, q⟩
  rw [List.length_append]
  omega
end
theorem Up1.mid {p : Addr} {o o' : HO} {ls ls' : List (Addr × HO)} (h : Up1 p o o' ls ls') (m : HO) : ∃ l1, Up1 p o m ls l1 ∧ Up1 p m o' l1 ls' := by
  induction h with
  | here => exact ⟨_, .here, .here⟩
  | there _ ih =>
    obtain ⟨l1, h1, h2⟩ := ih
    exact ⟨_, .there h1, .there h2⟩
theorem Up1.mem' {p : Addr} {o o' : HO} {ls ls' : List (Addr × HO)} (h : Up1 p o o' ls ls') : (p, o') ∈ ls' := by
  induction h with
  | here => exact List.mem_cons_self
  | there _ ih => exact List.mem_cons_of_mem _ ih
theorem Up1.comp {p : Addr} {o o' o'' : HO} {ls l1 ls' : List (Addr × HO)} (h : Up1 p o o' ls l1) (k : Up1 p o' o'' l1 ls') (nd : (l1.map Prod.fst).Nodup) : Up1 p o o'' ls ls' := by
  induction h generalizing ls' with
  | here =>
    cases k with
    | here => exact .here
    | there k => exact ((List.nodup_cons.mp nd).1 (List.mem_map_of_mem (f := Prod.fst) k.mem)).elim
  | there h ih =>
    cases k with
    | here => exact ((List.nodup_cons.mp nd).1 (List.mem_map_of_mem (f := Prod.fst) h.mem')).elim
    | there k => exact .there (ih k (List.nodup_cons.mp nd).2)
theorem Up1.eq {p : Addr} {o : HO} {ls ls' : List (Addr × HO)} (h : Up1 p o o ls ls') : ls' = ls := by
  induction h with
  | here => rfl
  | there _ ih => rw [ih]
section
variable {H : Hp} {Q : VK} {σ : L2.St} {K : PySem.W.Frag}
theorem i_ixK {p : Addr} {xs : List V} {i : Int} {v : V} (h : KT K p xs) (e : atI xs i = some v) (q : Q v H) : rIxT K (.ref p) (.int i) H Q := ⟨p, xs, i, v, rfl, rfl, h.sq H, e, q⟩
theorem i_lenK {p : Addr} {xs : List V} {n : Int} (h : KT K p xs) (e : (xs.length : Int) = n) (q : Q (.int n) H) : rLenK K [.ref p] H Q := by
  subst e
  exact ⟨p, xs, rfl, .inr (h.sq H), q⟩
theorem i_tixK {p : Addr} {ys : List Str} {z : Str} {j : Nat} (h : KT K p (ys.map V.str)) (h1 : ys[j]? = some z) (h2 : ∀ m, m < j → ys[m]? ≠ some z) (q : Q (.int (j : Nat)) H) : rTixA K (.ref p) [.str z] H Q := ⟨p, ys, z, j, rfl, rfl, h.sq H, h1, h2, q⟩
theorem i_split {a b : Str} {ys : List Str} (e : Txt.split a b = ys) (h1 : (b.length == 0) = false) (h2 : a.length + 2 ≤ 100000) (q : NewO (.lst (ys.map V.str)) H Q) : rSplitA (.str a) [.str b] H Q := by
  subst e
  exact ⟨a, b, rfl, rfl, h1, sz h2, q⟩
theorem i_extT {a c l b : Addr} {B : Hp} {ls ls' : List (Addr × HO)} {xs ys : List V} (O : Own a c B H ls) (hb : H b = some (.tup ys)) (h : Up1 l (.lst xs) (.lst (xs ++ ys)) ls ls') (hz : xs.length + ys.length ≤ sizeLine) (k : ∀ H', Own a c B H' ls' → Q .non H') : rExtT (.ref l) [.ref b] H Q :=
  ⟨l, b, xs, ys, rfl, rfl, O.mem h.mem, hb, hz, k _ (O.set h)⟩
theorem i_extO {a c l b : Addr} {B : Hp} {ls ls' : List (Addr × HO)} {xs ys : List V} (O : Own a c B H ls) (hb : H b = some (.lst ys)) (h : Up1 l (.lst xs) (.lst (xs ++ ys)) ls ls') (hz : xs.length + ys.length ≤ sizeLine) (k : ∀ H', Own a c B H' ls' → Q .non H') : rExtA (.ref l) [.ref b] H Q := by
  simp only [rExtA, O.mem h.mem, hb]
  exact ⟨hz, k _ (O.set h)⟩
theorem i_tupLN {p : Addr} {xs : List V} (h : H p = some (.lst xs)) (k : NewO (.tup xs) H Q) : rTupA [.ref p] H Q := i_tupL h k
theorem i_tyK {p : Addr} {xs : List V} {R : Prop} (h : KT K p xs) (q : R) : tyV K "tuple" (.ref p) H ∧ R := ⟨h.ty H, q⟩
theorem i_tyS {z : Str} {R : Prop} (q : R) : tyV K "str" (.str z) H ∧ R := ⟨rfl, q⟩
end
theorem Own.skipP {a c : Addr} {B H : Hp} {x : Addr × HO} {l l0 l1 : List (Addr × HO)} (O : Own a c B H (x :: l)) (h : Pre l0 l l1) : Own a c B H (x :: l0) := by
  have e := h.eq
  subst e
  have O2 := O.perm (ls' := l1 ++ x :: l0) (by
    refine (List.Perm.cons x (List.Perm.refl _)).trans ?_
    exact (List.perm_middle).symm)
  exact O2.drop
theorem i_inO {K : PySem.W.Frag} {H : Hp} {Q : VK} {p : Addr} {x : V} {xs : List V} (h : H p = some (.tup xs)) (f : flatV x = true) (g : xs.all flatV = true) (q : Q (.bl (inV x xs)) H) : rIn K false x (.ref p) H Q := by
  refine ⟨p, _, rfl, .inr (SqT.of h), f, g, ?_⟩
  rw [if_neg (by simp)]
  exact q
inductive Pick (y : Addr × HO) : List (Addr × HO) → List (Addr × HO) → Prop
  | here {r : List (Addr × HO)} : Pick y (y :: r) r
  | there {x : Addr × HO} {r r' : List (Addr × HO)} (h : Pick y r r') : Pick y (x :: r) (x :: r')
theorem Pick.perm1 {y : Addr × HO} {l r : List (Addr × HO)} (h : Pick y l r) : l.Perm (y :: r) := by
  induction h with
  | here => exact .refl _
  | there _ ih => exact (ih.cons _).trans (.swap ..)
theorem Pick.perm {y : Addr × HO} {l r ys : List (Addr × HO)} (h : Pick y l r) (k : r.Perm ys) : l.Perm (y :: ys) := h.perm1.trans (k.cons _)
end Lb
set_option Elab.async false
set_option linter.all false
set_option maxRecDepth 100000
set_option maxHeartbeats 4000000
/-! Lx: own exceptions with a field, made by an __init__ that calls its base's; raised, caught, looked at. Knows no program. -/
namespace Lb
open PySem PySem.Spec PyProof.Rows L2
/-- the class object, as an own class over ValueError -/
def oexB (K : PySem.W.Frag) (C : Addr) : Bool := match K.lookup C with
  | some ⟨.type "type", _, .cls cd, sl⟩ => (match cd.mro, sl.toList with
    | .ref C' :: bm, [_, _, _, _, some (.builtin n), _] => C' == C && n == "ValueError.__new__" && !cd.hasDel && cd.hasDict && PySem.HandSPX.refsVE bm
    | _, _ => false)
  | _ => false
theorem oexB_ok {K : PySem.W.Frag} {C : Addr} (q : oexB K C = true) : ∃ nm q N bs bm sn sub ab col dd k0 k1 k2 k3 k5, K.lookup C = some (excClassObj nm q C N bs bm true sn sub ab col dd k0 k1 k2 k3 k5 "ValueError.__new__") ∧ PySem.HandSPX.refsVE bm = true := by
  unfold oexB at q
  split at q
  · rename_i dd cd sl ho
    split at q
    · rename_i C' bm k0 k1 k2 k3 n k5 hm hs
      simp only [Bool.and_eq_true, beq_iff_eq, Bool.not_eq_true'] at q
      obtain ⟨⟨⟨⟨rfl, rfl⟩, hdel⟩, hdi⟩, ht⟩ := q
      obtain ⟨nm, bs, mro, ns, qn, hd, sn, sub, ab, col, del⟩ := cd
      dsimp only at hm hdel hdi
      subst hm hdel hdi
      have hsl : sl = #[k0, k1, k2, k3, some (.builtin "ValueError.__new__"), k5] := by
        obtain ⟨l⟩ := sl
        simp only at hs
        rw [hs]
      subst hsl
      exact ⟨nm, qn, ns, bs, bm, sn, sub, ab, col, dd, k0, k1, k2, k3, k5, ho, ht⟩
    · cases q
  · cases q
/-- C an own exception class, its __init__ (at fI) storing f, B its base among the own classes -/
structure EC (K : PySem.W.Frag) (C B fI : Addr) (f : Str) : Prop where
  oex : OexC K C
  xf : XfC K C
  no : PySem.W.findIn K (.ref C) f = some none
  iC : PySem.W.findIn K (.ref C) "__init__" = some (some (.ref fI))
  tI : PySem.W.typeIn K (.ref fI) = some (.type "function")
  ha : PySem.W.findIn K (.ref C) "__class__" = some (some (.builtin "object.__class__"))
  hn : PySem.W.specialIn K (.builtin "object.__class__") "__get__" = some (some (.builtin "getset_descriptor.__get__"))
  ht : PySem.W.takesIn K (.builtin "object.__class__") = some true
  hm : PySem.W.mroIn K C (.type "object") = some true
  hc : (PySem.W.clsIn K C).isSome = true
  ki : PySem.W.kitOne K (.ref C) (.ref B) = some true
  em : PySem.W.exmOne K (.ref C) (.ref C) = some true
  rd : PySem.W.readsIn K B (.type "type") = true
  ga : PySem.W.specialIn K (.ref B) "__getattribute__" = some (some (.builtin "type.__getattribute__"))
  bi : PySem.W.findCls K (.ref B) (.type "type") "__init__" = some (.val (.builtin "ValueError.__init__"))
def ecB (K : PySem.W.Frag) (C B fI : Addr) (f : Str) : Bool :=
  oexB K C && (decide (PySem.W.findIn K (.ref C) "__setattr__" = some (some (.builtin "object.__setattr__"))) && (decide (PySem.W.subIn K (.ref C) (.type "BaseException") = some true) && (decide (PySem.W.typeIn K (.ref C) = some (.type "type")) && (PySem.W.keepIn K (.ref C) &&
  (xfB K C && (decide (PySem.W.findIn K (.ref C) f = some none) && (decide (PySem.W.findIn K (.ref C) "__init__" = some (some (.ref fI))) && (decide (PySem.W.typeIn K (.ref fI) = some (.type "function")) &&
  (decide (PySem.W.findIn K (.ref C) "__class__" = some (some (.builtin "object.__class__"))) && (decide (PySem.W.specialIn K (.builtin "object.__class__") "__get__" = some (some (.builtin "getset_descriptor.__get__"))) && (decide (PySem.W.takesIn K (.builtin "object.__class__") = some true) &&
  (decide (PySem.W.mroIn K C (.type "object") = some true) && ((PySem.W.clsIn K C).isSome && (decide (PySem.W.kitOne K (.ref C) (.ref B) = some true) && (decide (PySem.W.exmOne K (.ref C) (.ref C) = some true) &&
  (PySem.W.readsIn K B (.type "type") && (decide (PySem.W.specialIn K (.ref B) "__getattribute__" = some (some (.builtin "type.__getattribute__"))) && (match PySem.W.findCls K (.ref B) (.type "type") "__init__" with
    | some (.val (.builtin n)) => decide (n = "ValueError.__init__")
    | _ => false))))))))))))))))))
theorem ecB_ok {K : PySem.W.Frag} {C B fI : Addr} {f : Str} (h : ecB K C B fI f = true) : EC K C B fI f := by
  unfold ecB at h
  obtain ⟨a1, h⟩ := He.ba h
  obtain ⟨a2, h⟩ := He.ba h
  obtain ⟨a3, h⟩ := He.ba h
  obtain ⟨a4, h⟩ := He.ba h
  obtain ⟨a5, h⟩ := He.ba h
  obtain ⟨a6, h⟩ := He.ba h
  obtain ⟨a7, h⟩ := He.ba h
  obtain ⟨a8, h⟩ := He.ba h
  obtain ⟨a9, h⟩ := He.ba h
  obtain ⟨b1, h⟩ := He.ba h
  obtain ⟨b2, h⟩ := He.ba h
  obtain ⟨b3, h⟩ := He.ba h
  obtain ⟨b4, h⟩ := He.ba h
  obtain ⟨b5, h⟩ := He.ba h
  obtain ⟨b6, h⟩ := He.ba h
  obtain ⟨b7, h⟩ := He.ba h
  obtain ⟨b8, h⟩ := He.ba h
  obtain ⟨b9, h⟩ := He.ba h
  refine ⟨⟨oexB_ok a1, of_decide_eq_true a2, of_decide_eq_true a3, of_decide_eq_true a4, a5⟩, xfB_ok a6, of_decide_eq_true a7, of_decide_eq_true a8, of_decide_eq_true a9, of_decide_eq_true b1, of_decide_eq_true b2, of_decide_eq_true b3, of_decide_eq_true b4, b5, of_decide_eq_true b6, of_decide_eq_true b7, b8, of_decide_eq_true b9, ?_⟩
  split at h
  · rename_i n e
    rw [e, of_decide_eq_true h]
  · cases h
/-! ### the base's __init__, called by the base's name -/
section
variable {X : Cx} {o e : Expr} {es : List Expr} {to te : TE} {ta : TA} {f x : Str} {p p' p1 p2 pos : Pos} {C B fI : Addr}
theorem pe_exinit {pl : Sem Bool} (T : EC X.K C B fI f) (hg : Gl X x) (hm : X.mg x = some (.ref B)) (ha : PA X (e :: es) ta) (hdb : (x == ("__debug__" : Str)) = false := by decide)
    (hc : eval (.Call (.Attribute (.Name x p1) "__init__" p2) (e :: es) [] pos) X.env = (do
      let ov ← eval (.Name x p1) X.env
      standAt p2.atName
      let (f, first) ← holding [ov] (getMethod ov "__init__" pl)
      callWith pos f first (backTo pos (starEach (e :: es) X.env)) (backToKw pos (keywordEach [] X.env))) := by rfl)
    (he : starEach (e :: es) X.env = (false, eval e X.env) :: starEach es X.env := by rfl) (hpl : (backTo pos (starEach es X.env)).any (·.1) = false := by rfl) :
    PE X (.Call (.Attribute (.Name x p1) "__init__" p2) (e :: es) [] pos) (tVeI X.K ta) := by
  refine ⟨fun pins s σ H Q I h => ?_⟩
  refine PySem.W.methodCall_KW (ld_glob I hg hm ?_ hdb) hc
  refine PySem.W.method_cls I.kIn T.ga ?_
  refine PySem.W.cls_value I.kIn T.rd T.bi (by decide +kernel) ?_
  show wpAny _ _ (callWith pos (Value.builtin "ValueError.__init__") [] (backTo pos (starEach (e :: es) X.env)) []) _ _ _
  refine PyProof.Rows.callWith_method1 (thn (ha.run pos pins _ σ H _ (I.tok _) h) fun us s1 ⟨vs, H1, I1, r1, a, C, ws, ev, hl, T, ea, q⟩ => ?_) he hpl
  subst ev
  cases r1 with
  | @cons _ u0 _ ur ra rw' =>
    obtain rfl : u0 = Value.ref a := ra
    have hlen : ur.length ≤ sizeLine := by
      rw [← Paired.length rw', sizeLine_eq]
      omega
    exact oinit_ok T I1 ea hlen fun s' J => ⟨.non, H1, J, rfl, q⟩
end
/-! ### making and raising -/
/-- what such an __init__ leaves -/
def spExi (K : PySem.W.Frag) (C B fI : Addr) (f : Str) : Sp := fun vs H Q _ => ∃ (a : Addr) (v : V), vs = [.ref a, v] ∧ EC K C B fI f ∧ H a = some (exo a C none) ∧ ∀ dx, H dx = none → dx ≠ a → Q .non (upd (upd H dx (exd dx [(f, v)])) a (exo a C (some dx)))
theorem len_exi {K : PySem.W.Frag} {C B fI : Addr} {f : Str} {vs : List V} {H : Hp} {Q : VK} {E : XK} (h : spExi K C B fI f vs H Q E) : vs.length = 2 := by
  obtain ⟨a, v, rfl, _⟩ := h
  rfl
def t_exi (K : PySem.W.Frag) (f m : Str) : TS := tSeq (tDrop (tVeI K (tCons (tVar 0) (tCons (tC (.str m)) tNil)))) (tOst K f (tVar 0) (tVar 1))
theorem pure_exi {K : PySem.W.Frag} {C B fI : Addr} {f m n1 n2 : Str} {vs : List V} {H : Hp} {Q : VK} {E : XK} (h : spExi K C B fI f vs H Q E) : t_exi K f m { nx := fun _ H' => Q .non H', rt := Q } (L2.start [n1, n2] vs) H := by
  obtain ⟨a, v, rfl, T, ha, k⟩ := h
  show tSeq (tDrop (tVeI K (tCons (tVar 0) (tCons (tC (.str m)) tNil)))) (tOst K f (tVar 0) (tVar 1)) { nx := fun _ H' => Q .non H', rt := Q } [some (.ref a), some v] H
  refine i_seq (i_drop ?_)
  refine i_cons (i_var rfl (i_cons (i_c (i_nil ?_))))
  refine ⟨a, C, [.str m], rfl, (by simp), T.oex, ha, ?_⟩
  refine i_var (i := 1) rfl (i_var (i := 0) rfl ?_)
  exact ⟨a, C, rfl, T.oex, T.no, .inl ⟨ha, k⟩⟩
/-- a class of exceptions that may be made here -/
structure CalE (P : Program) (w : World) (K : PySem.W.Frag) (mg : Str → Option Value) (base : Heap) (x : Str) (C B fI : Addr) (f : Str) (k : Nat) (ps : List Str) : Prop where
  ex : ∃ fd : FuncData, EC K C B fI f ∧ mg x = some (.ref C) ∧ Binds K fd ps [] ∧ FnOk P w K mg base CX0 k fI fd ps (spExi K C B fI f)
/-- what the making of C(v) asks -/
def MkS (K : PySem.W.Frag) (C B fI : Addr) (f : Str) (v : V) (H1 : Hp) (Q : XK) : Prop := [v].length ≤ 1000 ∧ ∀ a, H1 a = none → spExi K C B fI f (.ref a :: ([v] ++ [])) (upd H1 a (exo a C none))
  (fun v' H2 => v' = .non ∧ ∃ (d : Addr) (fs : List (Str × V)), H2 a = some (exo a C (some d)) ∧ H2 d = some (exd d fs) ∧ H1 d = none ∧ Q (.ref C) (some d) (upd (del H2 a) d (.xd fs))) (fun _ _ _ => False)
def tMkX (K : PySem.W.Frag) (C B fI : Addr) (f : Str) (te : TE) : L2.St → Hp → XK → Prop := fun σ H Q => te σ H fun v H1 => MkS K C B fI f v H1 Q
def tRaiseX (K : PySem.W.Frag) (C B fI : Addr) (f : Str) (W : WX) (te : TE) : TS := fun _ σ H => te σ H fun v H1 => MkS K C B fI f v H1 fun cls d H' => W cls d σ H'
theorem i_mks {K : PySem.W.Frag} {C B fI : Addr} {f : Str} {v : V} {H1 : Hp} {Q : XK} (T : EC K C B fI f) (k : ∀ d, H1 d = none → Q (.ref C) (some d) (upd H1 d (.xd [(f, v)]))) : MkS K C B fI f v H1 Q := by
  refine ⟨by simp, fun a ha => ⟨a, v, rfl, T, upd_same, fun dx hdx hne => ⟨rfl, dx, [(f, v)], upd_same, ?_, ?_, ?_⟩⟩⟩
  · rw [upd_ne hne, upd_same]
  · rw [upd_ne hne] at hdx
    exact hdx
  · have hd1 : H1 dx = none := by
      rw [upd_ne hne] at hdx
      exact hdx
    have e : upd (del (upd (upd (upd H1 a (exo a C none)) dx (exd dx [(f, v)])) a (exo a C (some dx))) a) dx (.xd [(f, v)]) = upd H1 dx (.xd [(f, v)]) := by
      funext b
      by_cases h1 : b = dx
      · subst h1
        rw [upd_same, upd_same]
      · rw [upd_ne h1, upd_ne h1]
        by_cases h2 : b = a
        · subst h2
          rw [del_same, ha]
        · rw [del_ne h2, upd_ne h2, upd_ne h1, upd_ne h2]
    rw [e]
    exact k dx hd1
section
variable {X : Cx} {e : Expr} {te : TE} {f x : Str} {p pos pos2 : Pos} {C B fI : Addr} {k : Nat} {ps : List Str} {W : WX}
theorem pmk_x (c : CalE X.prog X.w X.K X.mg X.base x C B fI f k ps) (hr : Room (k + 1) X.A) (hg : Gl X x) (he : PE X e te) (hdb : (x == ("__debug__" : Str)) = false := by decide)
    (hst : starEach [e] X.env = (false, eval e X.env) :: starEach [] X.env := by rfl) (hpl : (backTo pos (starEach [] X.env)).any (·.1) = false := by rfl) :
    PMk X (.Call (.Name x p) [e] [] pos) (tMkX X.K C B fI f te) := by
  obtain ⟨fd, T, hm, hb, F⟩ := c.ex
  exact pmk_oex (X := X) (x := x) (e := e) (es := []) (p := p) (pos := pos) (dvs := []) (ds := []) T.oex T.iC T.tI F hr hb .nil pass0 hg hm (pa_cons he pa_nil hst) hdb hst hpl
theorem ps_raiseX (hc : X.calm = true) (tk : Takes X W) (c : CalE X.prog X.w X.K X.mg X.base x C B fI f k ps) (hr : Room (k + 1) X.A) (hg : Gl X x) (he : PE X e te) (hdb : (x == ("__debug__" : Str)) = false := by decide)
    (hst : starEach [e] X.env = (false, eval e X.env) :: starEach [] X.env := by rfl) (hpl : (backTo pos (starEach [] X.env)).any (·.1) = false := by rfl) :
    PS X (.Raise (some (.Call (.Name x p) [e] [] pos)) none pos2) (tRaiseX X.K C B fI f W te) := ps_raise hc tk (pmk_x c hr hg he hdb hst hpl)
end
/-! ### calls that may raise -/
structure CalX (P : Program) (w : World) (K : PySem.W.Frag) (mg : Str → Option Value) (base : Heap) (x : Str) (k : Nat) (ps : List Str) (sp : Sp) : Prop where
  ex : ∃ (f : Addr) (fd : FuncData), mg x = some (.ref f) ∧ PySem.W.keepIn K (.ref f) = true ∧ Binds K fd ps [] ∧ FnOk P w K mg base (L2.CX P w) k f fd ps sp
structure CalMX (P : Program) (w : World) (K : PySem.W.Frag) (mg : Str → Option Value) (base : Heap) (C : Addr) (m : Str) (k : Nat) (ps : List Str) (sp : Sp) : Prop where
  ex : ∃ (f : Addr) (fd : FuncData), Cls K C ∧ Meth K C m f ∧ Binds K fd ps [] ∧ FnOk P w K mg base (L2.CX P w) k f fd ps sp
def tMethS (C : Addr) (m : Str) (sp : Sp) (E : L2.St → XK) (to : TE) (t : TA) : TE := fun σ H Q => to σ H fun x H1 => ∃ a dx fs, x = .ref a ∧ H1 a = some (.ins C dx fs) ∧ fs.lookup m = none ∧ t σ H1 fun vs H2 => sp (x :: vs) H2 Q (E σ)
section
variable {X : Cx} {o e : Expr} {es : List Expr} {to te : TE} {t : TA} {m x : Str} {p apos pos : Pos} {C : Addr} {k : Nat} {ps : List Str} {sp : Sp} {W : WX}
theorem pe_calX (c : CalX X.prog X.w X.K X.mg X.base x k ps sp) (hr : Room k X.A) (hg : Gl X x) (tk : Takes X W) (ha : PA X (e :: es) t) (hdb : (x == ("__debug__" : Str)) = false := by decide)
    (he : starEach (e :: es) X.env = (false, eval e X.env) :: starEach es X.env := by rfl) (hpl : (backTo pos (starEach es X.env)).any (·.1) = false := by rfl) : PE X (.Call (.Name x p) (e :: es) [] pos) (tCallS sp (WE W) t) := by
  obtain ⟨f, fd, hm, hk, hb, F⟩ := c.ex
  exact pe_callS F hr hg hm hk hb (fun σ => passAt tk σ) ha hdb he hpl
theorem pe_calMX {pl : Sem Bool} (he : PE X o to) (c : CalMX X.prog X.w X.K X.mg X.base C m k ps sp) (hr : Room k X.A) (tk : Takes X W) (ha : PA X (e :: es) t)
    (hst : starEach (e :: es) X.env = (false, eval e X.env) :: starEach es X.env := by rfl) (hpl : (backTo pos (starEach es X.env)).any (·.1) = false := by rfl)
    (ht : eval (.Call (.Attribute o m apos) (e :: es) [] pos) X.env = (do
      let ov ← eval o X.env
      standAt apos.atName
      let (f, first) ← holding [ov] (getMethod ov m pl)
      callWith pos f first (backTo pos (starEach (e :: es) X.env)) (backToKw pos (keywordEach [] X.env))) := by rfl) : PE X (.Call (.Attribute o m apos) (e :: es) [] pos) (tMethS C m sp (WE W) to t) := by
  obtain ⟨f, fd, hc, hm, hb, F⟩ := c.ex
  refine ⟨fun pins s σ H Q I h => ?_⟩
  refine PySem.W.methodCall_KW (pl := pl) (thn (he.run pins s σ H _ I h) fun u s1 ⟨x, H1, I1, rx, a, dx, fs, ex, ea, l, q⟩ => ?_) ht
  subst ex
  obtain rfl : u = Value.ref a := rx
  refine getmeth_ok I1 ea hc hm l ?_
  refine PySem.W.callWith_K (first := [.ref a]) (h₀ := X.base) I.ok.mod.kin hm.kp (thn (ha.run pos pins s1 σ H1 _ I1 q) fun us s2 ⟨vs, H2, I2, r, q2⟩ => ⟨I2.kIn, ?_⟩) hst hpl
  exact run_fnS (us := .ref a :: us) (vs := .ref a :: vs) F hr hb (passAt tk σ) I2 (.cons rfl r) q2
end
/-! ### in the suite -/
section
variable {X : Cx} {a C B fI : Addr} {oe : Obj} {d : Option Addr} {pn : List (Addr × Obj)} {f : Str}
def rIsX (K : PySem.W.Frag) (a : Addr) (cls : Value) (d : Option Addr) (C B fI : Addr) (f : Str) : List V → Hp → VK → Prop := fun xs H Q => cls = .ref C ∧ xs = [.ref a, .ref B] ∧ EC K C B fI f ∧ (∃ (dd : Addr) (fs : List (Str × V)), d = some dd ∧ H dd = some (.xd fs)) ∧ Q (.bl true) H
theorem call_isX {cls : Value} (hz : Zc cls d oe) (hf : ∃ vs, oe.data = .fields vs) : CallR (X.suite a ((a, oe) :: pn)) (.builtin "isinstance") (rIsX X.K a cls d C B fI f) := by
  intro pins s σ H xs us Q I r h
  obtain ⟨ec, rfl, T, ⟨dd, fs, ed, ea⟩, q⟩ := h
  subst ec ed
  cases r with
  | cons rx rr =>
    cases rr with
    | cons rt rr =>
      cases rr
      cases rx
      cases rt
      obtain ⟨hget, _⟩ := I.pin (a, oe) (List.mem_append.mpr (.inl List.mem_cons_self))
      obtain ⟨vs, hv⟩ := hf
      have hx : ObjOk X.prog X.w H s.heap dd (.xd fs) := I.hok dd _ ea
      obtain ⟨mA, hns, hr⟩ := hx
      obtain ⟨od, ho, hl⟩ := lookIn_ns hns
      have J : PySem.W.InstAt s.heap a oe C (some od) := ⟨hget, hz.1, by unfold PySem.W.notCls; rw [hv] <;> rfl, by rw [hz.2]; exact ho⟩
      exact PySem.W.kia_one (PySem.W.kitx_exc T.hc T.xf.ga T.xf.gg T.xf.exC T.ha T.hn T.ht T.hm) I.kIn J T.ki (fun z => nomatch z) fun tk => ⟨.bl true, H, I.kept (t' := tk) fun _ _ z => z, rfl, q⟩
end
/-! ### try .. except C as n -/
def tTry (K : PySem.W.Frag) (c : Value) (i : Nat) (tb : WX → TS) (ts : Addr → Value → Option Addr → TS) : TS := fun D σ H => tb (wAs K c i ts (fun _ _ _ _ => False) D) D σ H
section
variable {P : Program} {w : World} {K : PySem.W.Frag} {mg : Str → Option Value} {base : Heap} {x m f : Str} {C B fI fa : Addr} {fd : FuncData} {k : Nat} {ps : List Str} {sp : Sp}
theorem CalE.ec (c : CalE P w K mg base x C B fI f k ps) : EC K C B fI f := c.ex.choose_spec.1
theorem CalE.gm (c : CalE P w K mg base x C B fI f k ps) : mg x = some (.ref C) := c.ex.choose_spec.2.1
theorem mkCalE (T : EC K C B fI f) (g : mg x = some (.ref C)) (hb : Binds K fd ps []) (O : FnOk P w K mg base CX0 k fI fd ps (spExi K C B fI f)) : CalE P w K mg base x C B fI f k ps := ⟨⟨_, T, g, hb, O⟩⟩
theorem mkCalX {name qual : Str} {params : Arguments} {body : List Stmt} {scope : Scope} (F : FunD K name qual params body scope [] [] fa fd) (g : mg x = some (.ref fa)) (hb : Binds K fd ps []) (O : FnOk P w K mg base (L2.CX P w) k fa fd ps sp) : CalX P w K mg base x k ps sp := ⟨⟨_, _, g, F.kp, hb, O⟩⟩
theorem mkCalMX (hc : Cls K C) (hm : Meth K C m fa) (hb : Binds K fd ps []) (O : FnOk P w K mg base (L2.CX P w) k fa fd ps sp) : CalMX P w K mg base C m k ps sp := ⟨⟨_, _, hc, hm, hb, O⟩⟩
end
section
variable {K : PySem.W.Frag} {H : Hp} {Q : VK} {σ : L2.St} {D : Ends} {C B fI a dd : Addr} {f : Str}
theorem i_try {c : Value} {i : Nat} {tb : WX → TS} {ts : Addr → Value → Option Addr → TS} (q : tb (wAs K c i ts (fun _ _ _ _ => False) D) D σ H) : tTry K c i tb ts D σ H := q
theorem i_was {i : Nat} {ts : Addr → Value → Option Addr → TS} {Wo : WX} {d : Option Addr} (T : EC K C B fI f)
    (k : ∀ a, H a = none → ts a (.ref C) d { nx := fun σ' H' => D.nx (σ'.set i none) H', rt := D.rt, bk := fun σ' H' => D.bk (σ'.set i none) H', ct := fun σ' H' => D.ct (σ'.set i none) H' } (σ.set i (some (.ref a))) H) :
    WE (wAs K (.ref C) i ts Wo D) σ (.ref C) d H := ⟨true, T.em, fun _ => k, fun h => by cases h⟩
theorem i_raiseX {W : WX} {te : TE} (q : te σ H fun v H1 => MkS K C B fI f v H1 fun cls d H' => W cls d σ H') : tRaiseX K C B fI f W te D σ H := q
theorem i_callS {sp : Sp} {E : L2.St → XK} {t : TA} (q : t σ H fun vs H1 => sp vs H1 Q (E σ)) : tCallS sp E t σ H Q := q
theorem i_methS {m : Str} {sp : Sp} {E : L2.St → XK} {to : TE} {t : TA} (q : to σ H fun x H1 => ∃ a dx fs, x = .ref a ∧ H1 a = some (.ins C dx fs) ∧ fs.lookup m = none ∧ t σ H1 fun vs H2 => sp (x :: vs) H2 Q (E σ)) : tMethS C m sp E to t σ H Q := q
theorem i_txf {cls : Value} {d : Option Addr} {te : TE} (q : te σ H fun x H1 => x = .ref a ∧ cls = .ref C ∧ ∃ (dd : Addr) (fs : List (Str × V)) (v : V), d = some dd ∧ H1 dd = some (.xd fs) ∧ fs.lookup f = some v ∧ Q v H1) : tXf a cls d C f te σ H Q := q
theorem i_xf {fs : List (Str × V)} {v : V} (h : H dd = some (.xd fs)) (l : LkF f (some v) fs) (q : Q v H) : (V.ref a = .ref a ∧ Value.ref C = .ref C ∧ ∃ (dd' : Addr) (fs : List (Str × V)) (v : V), some dd = some dd' ∧ H dd' = some (.xd fs) ∧ fs.lookup f = some v ∧ Q v H) := ⟨rfl, rfl, dd, fs, v, rfl, h, l.eq, q⟩
theorem i_isX {fs : List (Str × V)} (T : EC K C B fI f) (h : H dd = some (.xd fs)) (q : Q (.bl true) H) : rIsX K a (.ref C) (some dd) C B fI f [.ref a, .ref B] H Q := ⟨rfl, rfl, T, ⟨dd, fs, rfl, h⟩, q⟩
end
/-! ### the Hook, its part of the heap with the statics -/
def obsY (n : Nat) (fa : List He.Fa) (fn : List He.DefD) (ex : PySem.W.Frag → Bool) (g : Addr → Option Obj) : He.AlD × Bool := (He.obsD fa fn (He.frG g (cStatics :: He.asD g n)), ex (He.frG g (cStatics :: He.asD g n)))
def hookY (n : Nat) (fa : List He.Fa) (fn : List He.DefD) (ex : PySem.W.Frag → Bool) : PySem.W.Hook where
  α := He.AlD × Bool
  obs := fun s => obsY n fa fn ex s.heap.get?
  val := fun _ => (He.valD fn, true)
  says := fun _ h => ∃ K : PySem.W.Frag, K.In h ∧ He.SaysD fa fn K ∧ ex K = true
  of := fun _ _ e => ⟨_, He.frG_in, congrArg (fun z : He.AlD × Bool => z.1) e, congrArg (fun z : He.AlD × Bool => z.2) e⟩
  keeps := fun _ _ _ ⟨K, hK, c⟩ k => ⟨K, PySem.W.Frag.In.keeps hK k, c⟩
theorem obsY_eq {n : Nat} {fa : List He.Fa} {fn : List He.DefD} {ex : PySem.W.Frag → Bool} {g : Addr → Option Obj} {s : Shared} (h : ∀ a, g a = s.heap.get? a) : obsY n fa fn ex g = (hookY n fa fn ex).obs s := by
  have e : g = s.heap.get? := funext h
  rw [e] <;> rfl
end Lb
set_option Elab.async false
set_option linter.all false
set_option maxRecDepth 100000
set_option maxHeartbeats 4000000
/-! Ly: data lists, ranges with a step, slices, all. Knows no program. -/
namespace Lb
open PySem PySem.Spec PyProof.Rows L2
section
variable {H : Hp}
theorem dtSnoc {vs : List V} {v : V} {ds : List PyData} {d : PyData} (h : DtAll H vs ds) (k : Dt H v d) : DtAll H (vs ++ [v]) (ds ++ [d]) := by
  induction vs generalizing ds with
  | nil =>
    cases h
    exact .cons k .nil
  | cons v vs ih =>
    cases h with
    | cons h1 h2 => exact .cons h1 (ih h2)
theorem dtLen {vs : List V} {ds : List PyData} (h : DtAll H vs ds) : vs.length = ds.length := by
  induction vs generalizing ds with
  | nil =>
    cases h
    rfl
  | cons v vs ih =>
    cases h with
    | cons h1 h2 => exact congrArg (· + 1) (ih h2)
theorem dtGet {vs : List V} {ds : List PyData} (h : DtAll H vs ds) {i : Nat} {v : V} (e : vs[i]? = some v) : ∃ d, ds[i]? = some d ∧ Dt H v d := by
  induction vs generalizing ds i with
  | nil => cases e
  | cons w vs ih =>
    cases h with
    | cons h1 h2 =>
      cases i with
      | zero =>
        cases e
        exact ⟨_, rfl, h1⟩
      | succ i => exact ih h2 e
theorem dtAt {vs : List V} {ds : List PyData} (h : DtAll H vs ds) {i : Nat} {d : PyData} (e : ds[i]? = some d) : ∃ v, vs[i]? = some v ∧ Dt H v d := by
  have hl := dtLen h
  have hi : i < vs.length := by rw [hl]; exact (List.getElem?_eq_some_iff.mp e).1
  obtain ⟨d', e', k⟩ := dtGet h (List.getElem?_eq_getElem hi)
  rw [e] at e'
  cases e'
  exact ⟨_, List.getElem?_eq_getElem hi, k⟩
theorem dtInts {vs : List V} {ws : List Int} (h : DtAll H vs (ws.map PyData.int)) : vs = ws.map V.int := by
  induction vs generalizing ws with
  | nil =>
    cases ws with
    | nil => rfl
    | cons w ws => cases h
  | cons v vs ih =>
    cases ws with
    | nil => cases h
    | cons w ws =>
      cases h with
      | cons h1 h2 =>
        cases h1
        rw [ih h2]
        rfl
theorem dtErase {vs : List V} {ds : List PyData} (h : DtAll H vs ds) (i : Nat) : DtAll H (vs.eraseIdx i) (ds.eraseIdx i) := by
  induction vs generalizing ds i with
  | nil =>
    cases h
    exact .nil
  | cons v vs ih =>
    cases h with
    | cons h1 h2 =>
      cases i with
      | zero => exact h2
      | succ i => exact .cons h1 (ih h2 i)
theorem mapGet {α β : Type} {f : α → β} {rs : List α} {i : Nat} {d : β} (h : (rs.map f)[i]? = some d) : ∃ r, rs[i]? = some r ∧ f r = d := by
  rw [List.getElem?_map] at h
  cases e : rs[i]? with
  | none =>
    rw [e] at h
    cases h
  | some r =>
    rw [e] at h
    exact ⟨r, rfl, Option.some.inj h⟩
end
section
variable {H : Hp} {Q : VK} {σ : L2.St}
theorem i_slO {a c p : Addr} {B : Hp} {ls : List (Addr × HO)} {xs ys : List V} {lo hi : Option Int} (O : Own a c B H ls) (h : H p = some (.lst xs)) (e : cutV xs lo hi = ys) (k : ∀ p H', Own a c B H' ((p, .lst ys) :: ls) → Q (.ref p) H') : rSlA (.ref p) lo hi H Q := by
  subst e
  exact i_slL h fun q hq => k q _ (O.new hq)
theorem cut_to {xs : List V} {k : Nat} (h : k ≤ xs.length) : cutV xs none (some (k : Int)) = xs.take k := by
  unfold cutV
  rw [HT.sIx_none, HT.sIx_nat, Nat.min_eq_left h]
  simp
theorem cut_from {xs : List V} {k : Nat} (h : k ≤ xs.length) : cutV xs (some (k : Int)) none = xs.drop k := by
  unfold cutV
  rw [HT.sIx_none, HT.sIx_nat, Nat.min_eq_left h]
  rw [List.take_of_length_le (by rw [List.length_drop]; omega)]
theorem cut_mid {xs : List V} {k n : Nat} (h : k ≤ xs.length) : cutV xs (some (k : Int)) (some ((k + n : Nat) : Int)) = (xs.drop k).take n := by
  unfold cutV
  rw [HT.sIx_nat, HT.sIx_nat, Nat.min_eq_left h]
  rcases Nat.le_total (k + n) xs.length with q | q
  · rw [Nat.min_eq_left q, Nat.add_sub_cancel_left]
  · rw [Nat.min_eq_right q, List.take_of_length_le (by rw [List.length_drop]; omega), List.take_of_length_le (by rw [List.length_drop]; omega)]
theorem i_rng3 {ta : TA} {R : It → Hp → Prop} (q : ta σ H fun vs H1 => ∃ (i j c : Int) (n : Nat), vs = [.int i, .int j, .int c] ∧ RgC i j c n ∧ R (Itc i c n) H1) : iRng3 ta σ H R := q
theorem i_forC {lo hi c : Int} {nx : L2.St → Hp → Prop} {rt : VK} {g : TG} {tb : TS} (n : Nat) (hr : RgC lo hi c n) (Pv : Nat → L2.St → Hp → Prop) (h0 : Pv 0 σ H)
    (hs : ∀ i σ H, i < n → Pv i σ H → g (.int (lo + (i : Nat) * c)) σ H fun σ2 H2 => tb ⟨Pv (i + 1), rt, nx, Pv (i + 1)⟩ σ2 H2) (hd : ∀ σ H, Pv n σ H → nx σ H) :
    ∃ (i j c' : Int) (n : Nat), [V.int lo, V.int hi, V.int c] = [.int i, .int j, .int c'] ∧ RgC i j c' n ∧ ∃ W : Nat → Nat → L2.St → Hp → Prop, (∃ m, W 0 m σ H) ∧ ∀ i' m σ H, W i' m σ H → ((Itc i c' n).stop i' H ∧ nx σ H) ∨ ((Itc i c' n).go i' H ∧ ∃ N : L2.St → Hp → Prop, (∀ σ' H', N σ' H' → ∃ m', m' < m ∧ W (i' + 1) m' σ' H') ∧ ∀ x H', (Itc i c' n).yld i' H x H' → g x σ H' fun σ2 H2 => tb ⟨N, rt, nx, N⟩ σ2 H2) :=
  ⟨lo, hi, c, n, rfl, hr, for_rangeC (D := ⟨nx, rt, fun _ _ => False, fun _ _ => False⟩) Pv h0 hs hd⟩
theorem i_all {K : PySem.W.Frag} {p : Addr} {bs : List Bool} (h : H p = some (.lst (bs.map V.bl))) (q : Q (.bl (bs.all id)) H) : rAll K [.ref p] H Q := ⟨p, bs, rfl, SqL.of h, q⟩
theorem i_niL {K : PySem.W.Frag} {p : Addr} {x : V} {xs : List V} (h : H p = some (.lst xs)) (f : flatV x = true) (g : xs.all flatV = true) (q : Q (.bl (!inV x xs)) H) : rIn K true x (.ref p) H Q := ⟨p, xs, rfl, .inl (SqL.of h), f, g, q⟩
end
end Lb
set_option Elab.async false
set_option linter.all false
set_option maxRecDepth 100000
set_option maxHeartbeats 4000000
/-! Lz: dicts with pairs of ints as keys, sorted. Knows no program. -/
namespace Lb
open PySem PySem.Spec PyProof.Rows L2
/-- the pair that a value names -/
def pairAt (H : Hp) (v : V) : Int × Int := match v with
  | .ref t => (match H t with
    | some (.tup [.int i, .int j]) => (i, j)
    | _ => (0, 0))
  | _ => (0, 0)
def PairV (H : Hp) (v : V) (j : Int × Int) : Prop := ∃ t, v = .ref t ∧ H t = some (.tup [.int j.1, .int j.2])
def rSortDT : List V → Hp → VK → Prop := fun vs H Q => ∃ (a : Addr) (kvs : List (List Key × V)) (ps : List (Int × Int)), vs = [.ref a] ∧ H a = some (.dT kvs) ∧ kvs.map (·.1) = ps.map (fun p => [Sum.inl p.1, Sum.inl p.2]) ∧
  ∀ (ys : List V) (p : Addr) (js : List (Int × Int)), js.Perm ps → js.Pairwise (fun x y => SrtO.lexB y x = false) → Paired (PairV H) ys js → H p = none → Q (.ref p) (upd H p (.lst ys))
theorem paired_map {α β γ : Type} {R : β → γ → Prop} (f : α → β) (g : α → γ) : ∀ (l : List α), (∀ x ∈ l, R (f x) (g x)) → Paired R (l.map f) (l.map g)
  | [], _ => .nil
  | x :: r, h => .cons (h x List.mem_cons_self) (paired_map f g r fun y hy => h y (List.mem_cons_of_mem _ hy))
section
variable {X : Cx}
theorem cr_sortedDT (hc : X.calm = true) : CallR X (.builtin "sorted") rSortDT := by
  intro pins s σ H vs us Q I r h
  obtain ⟨d, kvs, ps, rfl, hd, hps, q⟩ := h
  obtain ⟨u, rfl, rx⟩ := vals1 r
  cases rx
  obtain ⟨z, hs, ks, pr, o, es, ep, ho, hx, hdt, he, hn⟩ := (show ObjOk X.prog X.w H s.heap d (.dT kvs) from I.hok _ _ hd)
  have l1 : es.size = ks.length := size_of_entries he
  have l2 : kvs.length = ks.length := Paired.length pr
  refine Calls.call_function_entry PyProof.Rows.kind_sorted PyProof.Rows.plain_sorted PyProof.Rows.entry_sorted (PyProof.Rows.args_sorted1 _) ?_
  unfold Builtin.«sorted»
  refine wpAny_bind (m := checkCount "sorted" 1 1 _) (wpAny_pure ?_)
  refine wpAny_bind (PySem.W.kdu_collect (A := X.A.in1) (kdl_raw hs hx hdt) (I.ok.hd hc) ho (by omega) fun h' tk acc hk it => ?_)
  have ea : acc.toList = ks.map fun x => Value.ref x.2.1 := by
    have hl : acc.toList.length = ks.length := by rw [Array.length_toList, it.1]; exact l1
    apply List.ext_getElem?
    intro j
    rw [List.getElem?_map]
    cases hj : acc.toList[j]? with
    | none =>
      have h1 := List.getElem?_eq_none_iff.mp hj
      rw [List.getElem?_eq_none (by omega)]
      all_goals rfl
    | some v =>
      obtain ⟨en, hen, hv⟩ := it.2 j v (by rw [← Array.getElem?_toList]; exact hj)
      have qe := entry_at he j
      rw [hen] at qe
      cases hb : ks[j]? with
      | none =>
        rw [hb] at qe
        exact nomatch (show some en = none from qe)
      | some b =>
        rw [hb] at qe
        have e2 : en = entryOfKey (tupleKind (mixKind X.prog X.w)) b := Option.some.inj qe
        rw [hv, e2]
        all_goals rfl
  have I1 : Inv X pins σ H { s with heap := h', toks := tk } := I.kept hk
  have hz : acc.toList.length ≤ sizeLine := by rw [ea, List.length_map]; omega
  refine wpAny_bind (wpAny_newList ?_ hz)
  have hoL : (h'.push (seqObj "list" acc.toList.toArray 0)).get? h'.objs.size = some (seqObj "list" acc.toList.toArray 0) := Heap.get?_push_size _ rfl
  show wpAny _ _ _ _ _ { s with heap := h'.push (seqObj "list" acc.toList.toArray 0), toks := tk }
  -- each key is a pair
  have hpair : ∀ v ∈ acc.toList, ∃ t, v = Value.ref t ∧ ∃ i j : Int, H t = some (.tup [.int i, .int j]) := fun v hv => by
    rw [ea] at hv
    obtain ⟨x, hxm, rfl⟩ := List.mem_map.mp hv
    have key : ∀ {kvs : List (List Key × V)} {ks : List (List Key × Addr × Value)} {ps : List (Int × Int)}, L2.KT H kvs ks → kvs.map (·.1) = ps.map (fun p => [Sum.inl p.1, Sum.inl p.2]) → ∀ x ∈ ks, ∃ i j : Int, H x.2.1 = some (.tup [.int i, .int j]) := by
      intro kvs ks ps pr
      induction pr generalizing ps with
      | nil => intro _ x hx; cases hx
      | @cons p q pp qq h t ih =>
        intro hps x hx
        cases ps with
        | nil => cases hps
        | cons p0 ps0 =>
          have h1 : p.1 = [Sum.inl p0.1, Sum.inl p0.2] := (List.cons.inj hps).1
          have h2 := (List.cons.inj hps).2
          rcases List.mem_cons.mp hx with e | e
          · subst e
            refine ⟨p0.1, p0.2, ?_⟩
            rw [h.2.1, h1]
            rfl
          · exact ih h2 x e
    exact ⟨_, rfl, key pr hps x hxm⟩
  have kmap : acc.toList.map (fun v => pairAt H (backV v)) = ps := by
    rw [ea, List.map_map]
    have key : ∀ {kvs : List (List Key × V)} {ks : List (List Key × Addr × Value)} {ps : List (Int × Int)}, L2.KT H kvs ks → kvs.map (·.1) = ps.map (fun p => [Sum.inl p.1, Sum.inl p.2]) → ks.map ((fun v => pairAt H (backV v)) ∘ fun x => Value.ref x.2.1) = ps := by
      intro kvs ks ps pr
      induction pr generalizing ps with
      | nil =>
        intro hps
        cases ps with
        | nil => rfl
        | cons _ _ => cases hps
      | @cons p q pp qq h t ih =>
        intro hps
        cases ps with
        | nil => cases hps
        | cons p0 ps0 =>
          have h1 : p.1 = [Sum.inl p0.1, Sum.inl p0.2] := (List.cons.inj hps).1
          have h2 := (List.cons.inj hps).2
          rw [List.map_cons, ih h2]
          have e : H q.2.1 = some (.tup [.int p0.1, .int p0.2]) := by
            rw [h.2.1, h1]
            rfl
          show pairAt H (.ref q.2.1) :: ps0 = p0 :: ps0
          unfold pairAt
          simp only [e]
    exact key pr hps
  let k : Value → Int × Int := fun v => pairAt H (backV v)
  have hk2 : ∀ t (i j : Int), H t = some (.tup [.int i, .int j]) → k (.ref t) = (i, j) := fun t i j e => by
    show pairAt H (.ref t) = (i, j)
    unfold pairAt
    simp only [e]
  have isp : ∀ v ∈ acc.toList, Srt.IsPair (h'.push (seqObj "list" acc.toList.toArray 0)) v (k v).1 (k v).2 := fun v hv => by
    obtain ⟨t, rfl, i, j, e⟩ := hpair v hv
    rw [hk2 t i j e]
    obtain ⟨_, its2, r2, o2, ho2, hc2, n2, hd2⟩ := I1.hok _ _ e
    obtain ⟨u1, u2, rfl, ri, rj⟩ := vals2 r2
    obtain ⟨t1, rfl⟩ := ri
    obtain ⟨t2, rfl⟩ := rj
    exact ⟨t, o2, t1, t2, n2, rfl, Heap.get?_push_of_some _ ho2, hc2, hd2⟩
  refine wpAny_bind (wpAny_holding (wpAny_call_entry PyProof.Rows.slot_list_sort ⟨_, hoL, rfl⟩ PyProof.Rows.entry_list_sort
    (SrtO.list_sort_ord (ltv := fun v u => SrtO.lexB (k v) (k u)) (s := { s with heap := h'.push (seqObj "list" acc.toList.toArray 0), toks := tk }) (SrtO.swo_lex k) hoL hz (fun h2 => ?_) fun out g1 g2 => ⟨_, rfl, ?_⟩) (PyProof.Rows.args_list_sort _)))
  · refine SrtO.pairs_sortableO (k := k) (by omega) isp fun o e => ?_
    have e' : some o = some (seqObj "list" acc.toList.toArray 0) := e.symm.trans hoL
    cases e'
    intro c
    exact absurd (Value.type.inj c) (by decide)
  obtain ⟨e', he'⟩ := PyProof.Rows.sortedHeap_at (vs := acc.toList) (out := out.toArray) hoL
  have hm : ∀ u ∈ out, ∃ a, u = Value.ref a ∧ ∃ i j : Int, H a = some (.tup [.int i, .int j]) := fun u hu => hpair u (g2.perm.mem_iff.mp hu)
  have hlen : (out.map backV).length ≤ sizeLine := by
    rw [List.length_map, g2.perm.length_eq]
    exact hz
  refine wpAny_pure ⟨_, rfl, .ref h'.objs.size, upd H h'.objs.size (.lst (out.map backV)), I1.laid (t' := tk) (fun b u e => ?_) (Nat.le_refl _) ⟨hlen, out, e', vals_back (fun u hu => (hm u hu).imp fun _ z => z.1), he'⟩, rfl, ?_⟩
  · have hb : b < h'.objs.size := Heap.lt_size e
    rw [PyProof.Rows.sortedHeap_old (Nat.ne_of_lt hb) (by rw [size_push']; exact Nat.lt_succ_of_lt hb)]
    exact Heap.get?_push_of_some _ e
  · refine q (out.map backV) h'.objs.size (out.map k) ?_ ?_ ?_ (I1.hok.fresh (Nat.le_refl _))
    · rw [← kmap]
      exact g2.perm.map _
    · exact List.pairwise_map.mpr g1
    · refine paired_map backV k out fun u hu => ?_
      obtain ⟨a, rfl, i, j, e⟩ := hm u hu
      refine ⟨a, rfl, ?_⟩
      rw [hk2 a i j e]
      exact e
end
/-! ### steps -/
section
variable {H : Hp} {Q : VK} {σ : L2.St}
theorem i_dnin {ty td : TE} (q : ty σ H fun y H1 => td σ H1 fun x H2 => ∃ a o, x = .ref a ∧ DGet H2 a y o ∧ Q (.bl (!o.isSome)) H2) : tDNotIn ty td σ H Q := q
theorem i_dget2 {td ty tx : TE} (q : td σ H fun x H1 => ∃ a, x = .ref a ∧ IsD H1 a ∧ ty σ H1 fun y H2 => tx σ H2 fun z H3 => ∃ o, DGet H3 a y o ∧ Q (o.getD z) H3) : tDGet2 td ty tx σ H Q := q
theorem i_dnewT (q : NewO (.dT []) H Q) : tDNewT σ H Q := q
def pk (p : Int × Int) : List Key := [.inl p.1, .inl p.2]
theorem i_dgetT {D b : Addr} {kvs : List (List Key × V)} {i j : Int} {v : V} {R : V → Prop} (h : H D = some (.dT kvs)) (hb : H b = some (.tup [.int i, .int j])) (hv : valV kvs (pk (i, j)) = some v) (q : R v) : (∃ a' v', V.ref D = .ref a' ∧ DGet H a' (.ref b) (some v') ∧ R v') :=
  ⟨D, v, rfl, .inr ⟨kvs, pk (i, j), b, .inl h, rfl, hb, hv.symm⟩, q⟩
theorem i_dnotT {D b : Addr} {kvs : List (List Key × V)} {i j : Int} {o : Option V} {R : V → Prop} (h : H D = some (.dT kvs)) (hb : H b = some (.tup [.int i, .int j])) (hv : valV kvs (pk (i, j)) = o) (q : R (.bl (!o.isSome))) : (∃ a' o', V.ref D = .ref a' ∧ DGet H a' (.ref b) o' ∧ R (.bl (!o'.isSome))) :=
  ⟨D, o, rfl, .inr ⟨kvs, pk (i, j), b, .inl h, rfl, hb, hv.symm⟩, q⟩
theorem i_dget2T {D b : Addr} {kvs : List (List Key × V)} {i j : Int} {z : V} {o : Option V} {R : V → Prop} (h : H D = some (.dT kvs)) (hb : H b = some (.tup [.int i, .int j])) (hv : valV kvs (pk (i, j)) = o) (q : R (o.getD z)) : (∃ o', DGet H D (.ref b) o' ∧ R (o'.getD z)) :=
  ⟨o, .inr ⟨kvs, pk (i, j), b, .inl h, rfl, hb, hv.symm⟩, q⟩
theorem i_dputT {a c D b : Addr} {B : Hp} {ls ls' : List (Addr × HO)} {kvs : List (List Key × V)} {i j : Int} {v : V} {R : Hp → Prop} (O : Own a c B H ls) (h : Up1 D (.dT kvs) (.dT (putK kvs (pk (i, j)) v)) ls ls') (hb : H b = some (.tup [.int i, .int j])) (hz : kvs.length < sizeLine)
    (k : ∀ H', Own a c B H' ls' → R H') : (∃ a' H4, V.ref D = .ref a' ∧ DPut H a' (.ref b) v H4 ∧ R H4) :=
  ⟨D, _, rfl, .inr ⟨kvs, pk (i, j), b, O.mem h.mem, rfl, hb, hz, rfl⟩, k _ (O.set h)⟩
theorem i_sortDT {a c D : Addr} {B : Hp} {ls : List (Addr × HO)} {kvs : List (List Key × V)} {ps : List (Int × Int)} (O : Own a c B H ls) (h : H D = some (.dT kvs)) (hk : kvs.map (·.1) = ps.map pk)
    (k : ∀ ys p js H', js.Perm ps → js.Pairwise (fun x y => SrtO.lexB y x = false) → Paired (PairV H') ys js → Own a c B H' ((p, .lst ys) :: ls) → Q (.ref p) H') : rSortDT [.ref D] H Q :=
  ⟨D, kvs, ps, rfl, h, hk, fun ys p js h1 h2 h3 hp => k ys p js _ h1 h2 (Paired.mono (fun y j ⟨t, e, ht⟩ => ⟨t, e, by rw [upd_ne (ne_of_none ht hp)]; exact ht⟩) h3) (O.new hp)⟩
/-- what stands and never changes may stay -/
theorem Own.adopt {a c t : Addr} {B : Hp} {ls : List (Addr × HO)} {xs : List V} (O : Own a c B H ls) (ht : H t = some (.tup xs)) (hn : ∀ x ∈ ls, ∀ xs, x.2 ≠ .tup xs) : ∃ B', Same B B' ∧ B' t = some (.tup xs) ∧ Own a c B' H ls := by
  obtain ⟨ne, ns, m, ha, hc, _, _⟩ := O.R
  have ta : t ≠ a := fun e => by
    rw [e, ha] at ht
    cases ht
  have tc : t ≠ c := fun e => by
    rw [e, hc] at ht
    cases ht
  have tl : ∀ x ∈ ls, x.1 ≠ t := fun x hx e => by
    have z := O.here x hx
    rw [e, ht] at z
    exact hn x hx xs (Option.some.inj z).symm
  refine ⟨upd B t (.tup xs), fun b o e => ?_, upd_same, ⟨O.R, fun b o e => ?_, O.nd, fun x hx => ⟨?_, (O.out x hx).2⟩, O.here, ?_, ?_⟩⟩
  · by_cases h : b = t
    · rw [h, upd_same]
      rw [h] at e
      have z := O.keep _ _ e
      rw [ht] at z
      exact z
    · rw [upd_ne h]
      exact e
  · by_cases h : b = t
    · rw [h, upd_same] at e
      rw [h, ht]
      exact e
    · rw [upd_ne h] at e
      exact O.keep _ _ e
  · rw [upd_ne (tl x hx)]
    exact (O.out x hx).1
  · rw [upd_ne (Ne.symm ta)]
    exact O.ha
  · rw [upd_ne (Ne.symm tc)]
    exact O.hc
theorem PairV.mono {H H' : Hp} {y : V} {j : Int × Int} (s : Same H H') (h : PairV H y j) : PairV H' y j := h.imp fun _ z => ⟨z.1, s _ _ z.2⟩
theorem Own.adoptAll {a c : Addr} {ls : List (Addr × HO)} (hn : ∀ x ∈ ls, ∀ xs, x.2 ≠ .tup xs) : ∀ {ys : List V} {js : List (Int × Int)} {B : Hp}, Paired (PairV H) ys js → Own a c B H ls → ∃ B', Same B B' ∧ Paired (PairV B') ys js ∧ Own a c B' H ls
  | _, _, B, .nil, O => ⟨B, Same.refl _, .nil, O⟩
  | _, _, B, .cons h t, O => by
    obtain ⟨p, e, hp⟩ := h
    obtain ⟨B1, s1, h1, O1⟩ := O.adopt hp hn
    obtain ⟨B2, s2, h2, O2⟩ := Own.adoptAll hn t O1
    exact ⟨B2, Same.trans s1 s2, .cons ⟨p, e, s2 _ _ h1⟩ h2, O2⟩
theorem Paired.at {α β : Type} {R : α → β → Prop} : ∀ {xs : List α} {ys : List β}, Paired R xs ys → ∀ {i : Nat} {x : α}, xs[i]? = some x → ∃ y, ys[i]? = some y ∧ R x y
  | _, _, .nil, i, x, e => by cases e
  | _, _, .cons h t, 0, x, e => by
    cases e
    exact ⟨_, rfl, h⟩
  | _, _, .cons h t, i + 1, x, e => Paired.at t e
end
theorem i_lcKT {d : Addr} {H : Hp} {o : Obj} {kv : List (List Key × V)} {v : Nat} {tt : TT} {te : TE} {σ : L2.St} {Qd : Hp → Prop} {E : Addr} (Pv : Nat → Hp → Prop) (h0 : Pv 0 (upd H E (.lst []))) (hG : ∀ i H, Pv i H → H d = some (.frz o (.dT kv)))
    (hs : ∀ i (p : List Key) (x : V) (q : Addr) H, kv[i]? = some (p, x) → H q = some (.tup (p.map kV)) → Pv i H → tt (σ.set v (some (.ref q))) H fun b H3 => if b = true then te (σ.set v (some (.ref q))) H3 fun y H4 => ∃ acc, H4 E = some (.lst acc) ∧ acc.length < sizeLine ∧ Pv (i + 1) (upd H4 E (.lst (acc ++ [y]))) else Pv (i + 1) H3)
    (hd : ∀ H, Pv kv.length H → Qd H) :
    ∃ W : Nat → Nat → Hp → Prop, (∃ m, W 0 m (upd H E (.lst []))) ∧ ∀ i m H, W i m H → ((Itkt d o kv).stop i H ∧ Qd H) ∨ ((Itkt d o kv).go i H ∧ ∃ Nx : Hp → Prop, (∀ H', Nx H' → ∃ m', m' < m ∧ W (i + 1) m' H') ∧ ∀ x H', (Itkt d o kv).yld i H x H' → gName v x (wipe σ [v]) H' fun σ2 H2 => wipe σ2 [v] = wipe σ [v] ∧ tt σ2 H2 fun b H3 => if b = true then te σ2 H3 fun y H4 => ∃ acc, H4 E = some (.lst acc) ∧ acc.length < sizeLine ∧ Nx (upd H4 E (.lst (acc ++ [y]))) else Nx H3) :=
  lc_it walk_keysT Pv h0 (fun i H _ p => hG i H p) (fun i x H H' hi p y => by
    obtain ⟨e, k, x', q, h1, h2, h3⟩ := y
    subst e h2
    show wipe ((wipe σ [v]).set v (some (.ref q))) [v] = wipe σ [v] ∧ tt ((wipe σ [v]).set v (some (.ref q))) _ _
    rw [wipe1]
    exact ⟨wipe2, hs i k x' q _ h1 h3 p⟩) hd
section
variable {H : Hp} {Q : VK} {σ : L2.St}
theorem i_keys {td : TE} {R : It → Hp → Prop} (q : td σ H fun x H1 => ∃ d o, x = .ref d ∧ ((∃ kvs, H1 d = some (.frz o (.dK kvs)) ∧ R (Itk d o kvs) H1) ∨ ∃ kvs, H1 d = some (.frz o (.dT kvs)) ∧ R (Itkt d o kvs) H1)) : iKeys td σ H R := q
theorem i_dgetF {D b : Addr} {od : Obj} {kvs : List (List Key × V)} {i j : Int} {v : V} {R : V → Prop} (h : H D = some (.frz od (.dT kvs))) (hb : H b = some (.tup [.int i, .int j])) (hv : valV kvs (pk (i, j)) = some v) (q : R v) : (∃ a' v', V.ref D = .ref a' ∧ DGet H a' (.ref b) (some v') ∧ R v') :=
  ⟨D, v, rfl, .inr ⟨kvs, pk (i, j), b, .inr ⟨od, h⟩, rfl, hb, hv.symm⟩, q⟩
theorem i_lock {t : TE} {D : Addr} {kvs : List (List Key × V)} (h : H D = some (.dT kvs)) (k : ∀ od, t σ (upd H D (.frz od (.dT kvs))) fun v H' => H' D = some (.frz od (.dT kvs)) ∧ Q v (upd H' D (.dT kvs))) : tLockE t σ H Q := ⟨D, _, h, trivial, k⟩
theorem i_sum {K : PySem.W.Frag} {p : Addr} {ns : List Int} (h : H p = some (.lst (ns.map V.int))) (q : Q (.int ns.sum) H) : rSum K [.ref p] H Q := ⟨p, ns, rfl, SqL.of h, q⟩
end
end Lb
set_option Elab.async false
set_option linter.all false
set_option maxRecDepth 100000
set_option maxHeartbeats 4000000
/-! Lw: comprehensions that make a set of ints. Knows no program. -/
namespace Lb
open PySem PySem.Spec PyProof.Rows L2 PpSet
/-- {elt for target in iter}, ints: D the new set -/
def tScI (w : World) (wi : TI) (g : TG) (te : TE) (vs : List Nat) : TE := fun σ H Q => wi σ H fun J H1 => ∀ D, H1 D = none → ∃ W : Nat → Nat → Hp → Prop, (∃ m, W 0 m (upd H1 D (SetO w D (fun _ => false) 0))) ∧ ∀ i m H, W i m H →
  (J.stop i H ∧ Q (.ref D) H) ∨ (J.go i H ∧ ∃ Nx : Hp → Prop, (∀ H', Nx H' → ∃ m', m' < m ∧ W (i + 1) m' H') ∧ ∀ x H', J.yld i H x H' → g x (wipe σ vs) H' fun σ2 H2 => wipe σ2 vs = wipe σ vs ∧
    te σ2 H2 fun y H4 => ∃ (k : Int) (S : Int → Bool) (n : Nat), y = .int k ∧ H4 D = some (SetO w D S n) ∧ n + 1 < scanBound ∧ Nx (upd H4 D (SetO w D (fun j => S j || decide (j = k)) (if S k = true then n else n + 1))))
section
variable {X : Cx}
/-- a member more -/
theorem setO_add {pins : List (Addr × Obj)} {σ : L2.St} {H : Hp} {s : Shared} {E : Value → Shared → Prop} {D : Addr} {S : Int → Bool} {n : Nat} {y : Int} {u : Value} {Q : Value → Shared → Prop} (I : L2.Inv X pins σ H s) (hD : H D = some (SetO X.w D S n)) (hu : RelV (.int y) u) (room : n + 1 < scanBound)
    (h : ∀ s', L2.Inv X pins σ (upd H D (SetO X.w D (fun j => S j || decide (j = y)) (if S y = true then n else n + 1))) s' → Q .none s') : wpAny (model X.prog X.w) X.A (call (.builtin "set.add") [.ref D, u]) Q E s := by
  obtain ⟨t, rfl⟩ := hu
  refine setR_add (setO_get I hD) room fun h' sb new => h _ (I.write (e := D) (t' := s.toks + 1) (by rw [hD]; trivial) (.inl rfl) (fun b u hb hu => (sb.2 b hb).trans hu) ?_ (setO_new new))
  have ⟨o, _, _, _, ho, _⟩ := new
  exact ⟨o, ho⟩
theorem pe_scI {elt tg iter : Expr} {scope : Scope} {own : List (PySem.Str × Nat)} {pos : Pos} {wi : TI} {g : TG} {te : TE} (hc : X.calm = true) (hN : X.N.Nodup) (hi : PI X tg iter wi) (ok : BlkOk X.N X.env.scope scope own)
    (hg : ∀ (s : Shared) (H : Hp) (C : Addr) (cl : List (PySem.Str × Addr)) (fp : List Addr), PG (X.blk s H scope (compEnvC scope cl C X.env) fp) tg g)
    (he : ∀ (s : Shared) (H : Hp) (C : Addr) (cl : List (PySem.Str × Addr)) (fp : List Addr), PE (X.blk s H scope (compEnvC scope cl C X.env) fp) elt te) (hs : ∀ x, foldedSetIterable iter X.env x = pure x := by intro _; rfl) :
    PE X (.SetComp elt [⟨tg, iter, [], 0⟩] scope pos) (tScI X.w wi g te (own.map (·.2))) := by
  refine ⟨fun pins s σ H Q I h => ?_⟩
  rw [eval_SetComp]
  refine wpAny_comprehension_free rfl hs (closure_ok fun y hy e => ?_) ok.kind (fun y hy e => by rw [ok.uniq y hy, e]) (thn (hi.run pins s σ H _ I h) fun xv s1 hx => thn hx fun itv s2 h2 => ?_)
  · exact (ok.free y hy e).elim (fun k => I.ok.has _ (.inl k)) fun k => I.ok.has _ (.inr k)
  obtain ⟨it, fp, tn, J, H2, rfl, I2, T, st2, f2, q⟩ := h2
  refine newSet_ok (newEnv_comp ?_)
  have Dn : H2 s2.heap.objs.size = none := I2.hok.fresh (Nat.le_refl _)
  obtain ⟨W, ⟨m0, w0⟩, turn⟩ := q s2.heap.objs.size Dn
  generalize hs3 : ({ s2 with heap := s2.heap.push { cls := .type "set", dict := none, data := .set #[] 0 (.fresh 0 0 (!X.w.params.followText "set-order")) } } : Shared) = s3
  have up3 : ∀ b o, s2.heap.get? b = some o → s3.heap.get? b = some o := fun b o e => by
    rw [← hs3]
    exact Heap.get?_push_of_some _ e
  have z3 : s3.heap.objs.size = s2.heap.objs.size + 1 := by rw [← hs3, Heap.size_push]
  have I3 : L2.Inv X pins σ (upd H2 s2.heap.objs.size (SetO X.w s2.heap.objs.size (fun _ => false) 0)) s3 := by
    rw [← hs3]
    exact I2.laid (t' := s2.toks) (fun b o e => Heap.get?_push_of_some _ e) (Nat.le_refl _) (setO_new (setR_fresh X.w))
  generalize hH3 : upd H2 s2.heap.objs.size (SetO X.w s2.heap.objs.size (fun _ => false) 0) = H3 at I3 w0
  have lt2 : ∀ b ∈ fp, b < s2.heap.objs.size := fun b hb => (T.obj _ _ st2 b hb).elim fun o e => Heap.lt_size e.1
  have nb3 : ∀ b ∈ fp, H3 b = none := fun b hb => by
    rw [← hH3, upd_ne (Nat.ne_of_lt (lt2 b hb))]
    exact (f2 b hb).1
  have f3 : ∀ b ∈ fp, FpOk X pins H3 b ∧ b < s3.heap.objs.size := fun b hb => ⟨⟨nb3 b hb, (f2 b hb).2⟩, Nat.lt_of_lt_of_le (lt2 b hb) (by rw [z3]; exact Nat.le_succ _)⟩
  have I4 := block_start I3 ok hN f3
  have st4' : tn 0 (pushCells (s3.heap.push { cls := .type "dict", data := .dict #[] }) scope.names) := T.keep _ _ _ st2 fun b _ o e => pushCells_keeps _ _ _ _ (Heap.get?_push_of_some _ (up3 b o e))
  generalize hcc : cellsFrom (s3.heap.objs.size + 1) scope.names (cloFrom X.env.cells scope.names []) = cl at I4
  have pg := hg s3 H3 s3.heap.objs.size cl fp
  have pe := he s3 H3 s3.heap.objs.size cl fp
  show codeAny _ _ (.compStart (.SetComp elt [⟨tg, iter, [], 0⟩] scope pos) 0 (.ref it) (.ref s2.heap.objs.size) (compEnvC scope cl s3.heap.objs.size X.env)) (compPost (model X.prog X.w) X.A X.xe none (EP X pins σ Q) (.ref s2.heap.objs.size) s3.heap.objs.size) { s3 with heap := pushCells (s3.heap.push { cls := .type "dict", data := .dict #[] }) scope.names }
  generalize hce : compEnvC scope cl s3.heap.objs.size X.env = ce at I4 pg pe ⊢
  have cL : ce.locals = s3.heap.objs.size := by rw [← hce]; rfl
  generalize hs4 : ({ s3 with heap := pushCells (s3.heap.push { cls := .type "dict", data := .dict #[] }) scope.names } : Shared) = s4 at I4 ⊢
  have st4 : tn 0 s4.heap := by rw [← hs4]; exact st4'
  -- the iterator's objects in the block's context
  have fpb : ∀ {σ' : L2.St} {H' : Hp} {s' : Shared}, L2.Inv (X.blk s3 H3 scope ce fp) [] σ' H' s' → (∀ b ∈ fp, H' b = none) → ∀ b ∈ fp, FpOk (X.blk s3 H3 scope ce fp) [] H' b := fun {σ' H' s'} J hn b hb =>
    ⟨hn b hb, (J.ok.exf b hb).1, J.ok.exfs b hb, .inl hb, fun x c e => (J.ok.exf b hb).2 x c e, fun p hp => absurd (show p ∈ ([] : List (Addr × Obj)) ++ [] from hp) (by simp)⟩
  suffices loop : codeAny (model X.prog X.w) X.A (.compLoop (.SetComp elt [⟨tg, iter, [], 0⟩] scope pos) 0 (.ref it) (.ref s2.heap.objs.size) ce) (compPost (model X.prog X.w) X.A X.xe none (EP X pins σ Q) (.ref s2.heap.objs.size) s3.heap.objs.size) s4 from codeAny_compStart_set loop (T.self X.A 0 _ _ _ st4 loop)
  refine compLoopS_any (fun n s' => ∃ i H', L2.Inv (X.blk s3 H3 scope ce fp) [] (wipe σ (own.map (·.2))) H' s' ∧ tn i s'.heap ∧ (∀ b ∈ fp, H' b = none) ∧ W i n H') ?_ m0 ⟨0, H3, I4, st4, nb3, w0⟩
  rintro n s5 ⟨i, H5, I5, st5, n5, w5⟩
  rcases turn i n H5 w5 with ⟨stop, qq⟩ | ⟨go, Nx, hNx, step⟩
  · refine thnF (T.done (X.blk s3 H3 scope ce fp) rfl rfl rfl hc i [] s5 _ H5 (fun _ _ => False) I5 (fpb I5 n5) st5 stop) fun r s6 ⟨hr, I6⟩ => ?_
    subst hr
    obtain ⟨m, hn, _⟩ := I6.loc
    have hn' : s6.heap.Ns ce.locals m := hn
    have nC : H5 ce.locals = none := I6.free
    rw [cL] at hn' nC
    have I7 : L2.Inv X pins σ H5 s6 := I3.call' (ch := fp) I6.os I6.base I6.hok I6.bare fun b hb => ⟨(f3 b hb).1.2.2.2.1, (f3 b hb).1.2.1, (f3 b hb).1.2.2.2.2.1, (f3 b hb).1.2.2.2.2.2⟩
    obtain ⟨c0, c1, c2, c3, c4, c5⟩ : FpOk X pins H5 s3.heap.objs.size := I3.fpOk (Nat.le_refl _) nC
    exact ⟨m, hn', fun h'' sb => ⟨.ref s2.heap.objs.size, H5, I7.turned (t' := s6.toks) (fun b o hb e => (sb.2 b hb).trans e) c0 c1 c3 c4 c5, rfl, qq⟩⟩
  · refine thnF (T.item (X.blk s3 H3 scope ce fp) rfl rfl rfl hc i [] s5 _ H5 (fun _ _ => False) I5 (fpb I5 n5) st5 go) fun r s6 ⟨u, hr, h6⟩ => ?_
    subst hr
    refine thnF h6 fun _ s7 ⟨x, H7, I7, r7, y7, st7, n7⟩ => ?_
    have objs := T.obj _ _ st7
    refine thnF (pg.run _ s7 _ H7 x u _ (I7.pinned (fpb I7 n7) objs) r7 (step x H7 y7)) fun _ s8 ⟨σ8, H8, I8, w8, q8⟩ => ?_
    refine wpAny_pure ?_
    simp only [if_true]
    refine thnF (pe.run _ s8 σ8 H8 _ I8 q8) fun z s9 ⟨yv, H9, I9, r9, k, S0, n0, ey, hD9, room, nx⟩ => ?_
    subst ey
    refine setO_add (X := X.blk s3 H3 scope ce fp) I9 hD9 r9 room fun s10 I10 => ?_
    obtain ⟨m', hm, w'⟩ := hNx _ nx
    have kept : ∀ b ∈ fp, ∀ o, s7.heap.get? b = some o → s10.heap.get? b = some o ∧ _ = none := fun b hb o e =>
      let z := I10.pin (b, o) (List.mem_append_right _ (List.mem_append_right _ (mem_pinsAt hb e)))
      ⟨z.1, z.2.1⟩
    refine ⟨m', hm, i + 1, _, (I10.unpinned (pins := [])).weak (by rw [← w8, wipe_length]) (fun j v e => ?_), T.keep _ _ _ st7 fun b hb o e => (kept b hb o e).1, fun b hb => (objs b hb).elim fun o e => (kept b hb o e.1).2, w'⟩
    rw [← w8] at e
    exact (wipe_some e).1
end
end Lb
set_option Elab.async false
set_option linter.all false
set_option maxRecDepth 100000
set_option maxHeartbeats 4000000
/-! Lv: sets of ints, sorted sets, least and greatest, pairs in lists, enumerate, reversed. Knows no program. -/
namespace Lb
open PySem PySem.Spec PyProof.Rows L2
section
variable {X : Cx}
theorem units65 {k : Nat} {A : Around} (r : Room k A) : A.units + 65 < cLine := by
  have := r.un
  omega
/-- min(a, b), max(a, b) -/
def rMin2 : List V → Hp → VK → Prop := fun xs H Q => ∃ i j, xs = [.int i, .int j] ∧ Q (.int (if j < i then j else i)) H
def rMax2 : List V → Hp → VK → Prop := fun xs H Q => ∃ i j, xs = [.int i, .int j] ∧ Q (.int (if j > i then j else i)) H
theorem cr_min2 (hc : X.calm = true) : CallR X (.builtin "min") rMin2 := call_min2 hc
theorem cr_max2 (hc : X.calm = true) : CallR X (.builtin "max") rMax2 := call_max2 hc
end
section
variable {K : PySem.W.Frag} {H : Hp} {Q : VK} {a c p : Addr} {B : Hp} {ls : List (Addr × HO)} {σ : L2.St} {g : TG} {tb : TS} {nx : L2.St → Hp → Prop} {rt : VK} {xs : List V}
theorem i_min2 {i j : Int} (q : Q (.int (if j < i then j else i)) H) : rMin2 [.int i, .int j] H Q := ⟨i, j, rfl, q⟩
theorem i_max2 {i j : Int} (q : Q (.int (if j > i then j else i)) H) : rMax2 [.int i, .int j] H Q := ⟨i, j, rfl, q⟩
theorem i_minL {ns : List Int} (h : H p = some (.lst (ns.map V.int))) (h0 : 0 < ns.length) (q : ∀ m, m ∈ ns → (∀ y, y ∈ ns → m ≤ y) → Q (.int m) H) : rMin K [.ref p] H Q := ⟨p, ns, rfl, SqL.of h, h0, q⟩
/-- {x for x in list of ints} -/
theorem i_scI {w : World} {i v : Nat} {ns : List Int} (O : Own a c B H ls) (hi : σ[i]? = some (some (.ref p))) (hp : H p = some (.lst (ns.map V.int))) (hl : ns.length + 1 < PySem.scanBound) (hv : v < σ.length)
    (k : ∀ D S n H', Own a c B H' ((D, SetO w D S n) :: ls) → (∀ j, S j = true ↔ j ∈ ns) → n ≤ ns.length → Q (.ref D) H') : tScI w (iList K (tVar i)) (gName v) (tVar v) [v] σ H Q := by
  refine ⟨_, hi, _, rfl, ⟨_, SqL.of hp⟩, fun D hD => ?_⟩
  have pD : p ≠ D := fun e => by
    rw [e, hD] at hp
    cases hp
  refine ⟨fun i m H' => m = ns.length - i ∧ i ≤ ns.length ∧ H' p = some (.lst (ns.map V.int)) ∧ ∃ S n, Own a c B H' ((D, SetO w D S n) :: ls) ∧ (∀ j, S j = true ↔ j ∈ ns.take i) ∧ n ≤ i, ⟨ns.length, by simp, Nat.zero_le _, by rw [upd_ne pD]; exact hp, _, 0, O.new hD, fun j => by simp, Nat.le_refl _⟩, ?_⟩
  rintro i m H2 ⟨rfl, hi, hq, S, n, O, hS, hn⟩
  by_cases hlt : i < ns.length
  · refine .inr ⟨⟨_, .int ns[i], SqL.of hq, by rw [List.getElem?_map, List.getElem?_eq_getElem hlt]; rfl⟩, _, fun H' p' => ⟨ns.length - (i + 1), by omega, rfl, hlt, p'⟩, fun x H' y => ?_⟩
    obtain ⟨rfl, y⟩ := y
    have ex := y _ (SqL.of hq)
    rw [List.getElem?_map, List.getElem?_eq_getElem hlt] at ex
    cases ex
    refine ⟨?_, _, (by
      show ((σ.set v none).set v _)[v]? = _
      rw [List.set_set, List.getElem?_set_self hv]), _, S, n, rfl, O.mem List.mem_cons_self, by omega, by rw [upd_ne pD]; exact hq, _, _, O.set .here, fun j => ?_, by split <;> omega⟩
    · show ((σ.set v none).set v _).set v none = σ.set v none
      rw [List.set_set, List.set_set]
    · rw [List.take_add_one, List.getElem?_eq_getElem hlt]
      simp only [Bool.or_eq_true, decide_eq_true_eq, hS, Option.toList, List.mem_append, List.mem_singleton]
  · have e : i = ns.length := by omega
    subst e
    exact .inl ⟨⟨_, SqL.of hq, by simp⟩, k D S n H2 O (fun j => by rw [hS, List.take_length]) hn⟩
/-- sorted(set of ints) -/
theorem i_sortSet {w : World} {S : Int → Bool} {n : Nat} (O : Own a c B H ls) (h : H p = some (SetO w p S n)) (hn : n < 64)
    (k : ∀ (ns : List Int) q H', ns.Pairwise (· < ·) → (∀ j : Int, j ∈ ns ↔ S j = true) → Own a c B H' ((q, .lst (ns.map V.int)) :: ls) → Q (.ref q) H') : rSortedSet w [.ref p] H Q :=
  ⟨p, S, n, rfl, h, hn, fun ns q h1 h2 _ hq => k ns q _ h1 h2 (O.new hq)⟩
theorem i_enum {ta : TA} {R : It → Hp → Prop} (q : ta σ H fun vs H1 => ∃ a xs, vs = [.ref a] ∧ SqL K H1 a xs ∧ R (Ite K a) H1) : iEnum K ta σ H R := q
theorem i_rev {ta : TA} {R : It → Hp → Prop} (q : ta σ H fun vs H1 => ∃ (a : Addr) (xs : List V), vs = [.ref a] ∧ SqL K H1 a xs ∧ R (Itv K a xs.length) H1) : iRev K ta σ H R := q
theorem i_forE (h : H p = some (.lst xs)) (Pv : Nat → L2.St → Hp → Prop) (h0 : Pv 0 σ H) (hl : ∀ i σ H, Pv i σ H → SqL K H p xs)
    (hs : ∀ i x T σ H, xs[i]? = some x → H T = none → Pv i σ H → g (.ref T) σ (upd H T (.tup [.int (i : Nat), x])) fun σ2 H2 => tb ⟨Pv (i + 1), rt, nx, Pv (i + 1)⟩ σ2 H2) (hd : ∀ σ H, Pv xs.length σ H → nx σ H) :
    ∃ a' xs', [V.ref p] = [V.ref a'] ∧ SqL K H a' xs' ∧ ∃ W : Nat → Nat → L2.St → Hp → Prop, (∃ m, W 0 m σ H) ∧ ∀ i m σ H, W i m σ H → ((Ite K a').stop i H ∧ nx σ H) ∨ ((Ite K a').go i H ∧ ∃ N : L2.St → Hp → Prop, (∀ σ' H', N σ' H' → ∃ m', m' < m ∧ W (i + 1) m' σ' H') ∧ ∀ x H', (Ite K a').yld i H x H' → g x σ H' fun σ2 H2 => tb ⟨N, rt, nx, N⟩ σ2 H2) := by
  refine ⟨p, xs, rfl, SqL.of h, fun i m σ H => m = xs.length - i ∧ i ≤ xs.length ∧ Pv i σ H, ⟨xs.length, by simp, Nat.zero_le _, h0⟩, ?_⟩
  rintro i m σ H ⟨rfl, hi, pv⟩
  have q := hl i σ H pv
  by_cases hlt : i < xs.length
  · refine .inr ⟨⟨xs, xs[i], q, by simp [hlt]⟩, Pv (i + 1), fun σ' H' p' => ⟨xs.length - (i + 1), by omega, rfl, hlt, p'⟩, fun x H' y => ?_⟩
    obtain ⟨T, z, rfl, hT, rfl, y⟩ := y
    exact hs i z T σ _ (y xs q) hT pv
  · have e : i = xs.length := by omega
    subst e
    exact .inl ⟨⟨xs, q, Nat.le_refl _⟩, hd σ H pv⟩
theorem i_forV (h : H p = some (.lst xs)) (Pv : Nat → L2.St → Hp → Prop) (h0 : Pv 0 σ H) (hl : ∀ i σ H, Pv i σ H → SqL K H p xs)
    (hs : ∀ i x σ H, xs.reverse[i]? = some x → Pv i σ H → g x σ H fun σ2 H2 => tb ⟨Pv (i + 1), rt, nx, Pv (i + 1)⟩ σ2 H2) (hd : ∀ σ H, Pv xs.length σ H → nx σ H) :
    ∃ (a' : Addr) (xs' : List V), [V.ref p] = [V.ref a'] ∧ SqL K H a' xs' ∧ ∃ W : Nat → Nat → L2.St → Hp → Prop, (∃ m, W 0 m σ H) ∧ ∀ i m σ H, W i m σ H → ((Itv K a' xs'.length).stop i H ∧ nx σ H) ∨ ((Itv K a' xs'.length).go i H ∧ ∃ N : L2.St → Hp → Prop, (∀ σ' H', N σ' H' → ∃ m', m' < m ∧ W (i + 1) m' σ' H') ∧ ∀ x H', (Itv K a' xs'.length).yld i H x H' → g x σ H' fun σ2 H2 => tb ⟨N, rt, nx, N⟩ σ2 H2) := by
  refine ⟨p, xs, rfl, SqL.of h, fun i m σ H => m = xs.length - i ∧ i ≤ xs.length ∧ Pv i σ H, ⟨xs.length, by simp, Nat.zero_le _, h0⟩, ?_⟩
  rintro i m σ H ⟨rfl, hi, pv⟩
  have q := hl i σ H pv
  by_cases hlt : i < xs.length
  · refine .inr ⟨⟨hlt, xs, xs[xs.length - 1 - i], q, List.getElem?_eq_getElem (by omega)⟩, Pv (i + 1), fun σ' H' p' => ⟨xs.length - (i + 1), by omega, rfl, hlt, p'⟩, fun x H' y => ?_⟩
    obtain ⟨rfl, y⟩ := y
    exact hs i x σ _ (by rw [List.getElem?_reverse hlt]; exact y xs q) pv
  · have e : i = xs.length := by omega
    subst e
    exact .inl ⟨Nat.le_refl _, hd σ H pv⟩
/-- x in l, deep -/
theorem i_inD {x y : V} {d : PyData} {ds : List PyData} (hx : Dt H x d) (hy : Dt H y (.list ds)) (h1 : Shp d) (h2 : Shp (.list ds)) (q : Q (.bl (ds.any fun z => PyData.eqv z d)) H) : rInD K x y H Q := ⟨d, ds, hx.dp, hy.dp, h1, h2, q⟩
def prD (j : Int × Int) : PyData := .tuple [.int j.1, .int j.2]
theorem PairV.dt {y : V} {j : Int × Int} (h : PairV H y j) : Dt H y (prD j) := by
  obtain ⟨t, rfl, ht⟩ := h
  exact .tup ht (.cons (.int _) (.cons (.int _) .nil))
theorem pairs_dt : ∀ {vs : List V} {ps : List (Int × Int)}, Paired (PairV H) vs ps → DtAll H vs (ps.map prD)
  | _, _, .nil => .nil
  | _, _, .cons h t => .cons h.dt (pairs_dt t)
theorem prD_eqv {i j : Int × Int} : PyData.eqv (prD i) (prD j) = decide (i = j) := by
  obtain ⟨a, b⟩ := i
  obtain ⟨c, d⟩ := j
  simp only [prD, PyData.eqv, PyData.eqvAll, Bool.and_true, Prod.mk.injEq]
  by_cases h1 : a = c <;> by_cases h2 : b = d <;> simp [h1, h2]
theorem prD_any {ps : List (Int × Int)} {j : Int × Int} : ((ps.map prD).any fun z => PyData.eqv z (prD j)) = decide (j ∈ ps) := by
  rw [List.any_map]
  induction ps with
  | nil => rfl
  | cons p r ih =>
    rw [List.any_cons, ih]
    show (PyData.eqv (prD p) (prD j) || _) = _
    rw [prD_eqv]
    by_cases h1 : p = j
    · simp [h1]
    · have h2 : ¬ j = p := fun e => h1 e.symm
      simp [h1, h2]
theorem prD_sh {j : Int × Int} : Sh 1 (prD j) := .tup (.cons .int (.cons .int .nil))
theorem prD_shA {ps : List (Int × Int)} : Sh 2 (.list (ps.map prD)) := .lst (.all fun d hd => by
  obtain ⟨j, _, rfl⟩ := List.mem_map.mp hd
  exact prD_sh)
theorem Paired.take {α β : Type} {R : α → β → Prop} : ∀ {xs : List α} {ys : List β}, Paired R xs ys → ∀ n, Paired R (xs.take n) (ys.take n)
  | _, _, .nil, n => by rw [List.take_nil, List.take_nil]; exact .nil
  | _, _, .cons h t, 0 => .nil
  | _, _, .cons h t, n + 1 => .cons h (Paired.take t n)
theorem Paired.app {α β : Type} {R : α → β → Prop} : ∀ {xs zs : List α} {ys ws : List β}, Paired R xs ys → Paired R zs ws → Paired R (xs ++ zs) (ys ++ ws)
  | _, _, _, _, .nil, k => k
  | _, _, _, _, .cons h t, k => .cons h (Paired.app t k)
theorem Paired.mono {α β : Type} {R S : α → β → Prop} (f : ∀ x y, R x y → S x y) : ∀ {xs : List α} {ys : List β}, Paired R xs ys → Paired S xs ys
  | _, _, .nil => .nil
  | _, _, .cons h t => .cons (f _ _ h) (Paired.mono f t)
/-- pair in list of pairs -/
theorem i_inP {x : V} {j : Int × Int} {vs : List V} {ps : List (Int × Int)} (hx : PairV H x j) (hy : H p = some (.lst vs)) (hp : Paired (PairV H) vs ps) (q : Q (.bl (decide (j ∈ ps))) H) : rInD K x (.ref p) H Q :=
  i_inD hx.dt (.lst hy (pairs_dt hp)) (Sh.shp prD_sh) (Sh.shp prD_shA) (by rw [prD_any]; exact q)
/-- [x] * n -/
theorem i_mul1 {v : V} {t : Nat} (O : Own a c B H ls) (h : H p = some (.lst [v])) (ht : t ≤ 1000) (k : ∀ r H', Own a c B H' ((r, .lst (List.replicate t v)) :: ls) → Q (.ref r) H') : rMulA (.ref p) (.int (t : Nat)) H Q := by
  simp only [rMulA, h]
  have e : ∀ t : Nat, (List.replicate ((t : Nat) : Int).toNat [v]).flatten = List.replicate t v := fun t => by
    rw [Int.toNat_natCast]
    induction t with
    | zero => rfl
    | succ n ih => rw [List.replicate_succ, List.flatten_cons, ih, List.replicate_succ]; rfl
  rw [e]
  refine ⟨by omega, by omega, sz (by simp; omega), fun r hr => k r _ (O.new hr)⟩
/-- [elt for x, y in list of pairs if test], the element an int -/
theorem i_lcP {D : Addr} {v w : Nat} {tt : TT} {te : TE} {Qd : Hp → Prop} {vs : List V} {ps : List (Int × Int)} {f : Int × Int → Bool} {e : Int × Int → Int} (O : Own a c B H ls) (hD : H D = none) (hp : B p = some (.lst vs)) (hP : Paired (PairV B) vs ps) (hz : ps.length ≤ 100000) (hvw : v ≠ w) (hv : v < σ.length) (hw : w < σ.length)
    (ht : ∀ j H' (R : Bool → Hp → Prop), j ∈ ps → Same B H' → R (f j) H' → tt ((σ.set v (some (.int j.1))).set w (some (.int j.2))) H' R)
    (hs : ∀ j H' (R : VK), j ∈ ps → f j = true → Same B H' → R (.int (e j)) H' → te ((σ.set v (some (.int j.1))).set w (some (.int j.2))) H' R)
    (hd : ∀ H', Own a c B H' ((D, .lst (((ps.filter f).map e).map V.int)) :: ls) → Qd H') :
    ∃ W : Nat → Nat → Hp → Prop, (∃ m, W 0 m (upd H D (.lst []))) ∧ ∀ i m H, W i m H → ((Itl K p).stop i H ∧ Qd H) ∨ ((Itl K p).go i H ∧ ∃ Nx : Hp → Prop, (∀ H', Nx H' → ∃ m', m' < m ∧ W (i + 1) m' H') ∧ ∀ x H', (Itl K p).yld i H x H' → gTup K 2 (gCons (gName v) (gCons (gName w) gNil)) x (wipe σ [v, w]) H' fun σ2 H2 => wipe σ2 [v, w] = wipe σ [v, w] ∧ tt σ2 H2 fun b H3 => if b = true then te σ2 H3 fun y H4 => ∃ acc, H4 D = some (.lst acc) ∧ acc.length < sizeLine ∧ Nx (upd H4 D (.lst (acc ++ [y]))) else Nx H3) := by
  refine lc_list (xs := vs) (fun i H' => Own a c B H' ((D, .lst ((((ps.take i).filter f).map e).map V.int)) :: ls)) (O.new hD) (fun i H' _ O => SqL.of (O.kp hp)) ?_ ?_
  · intro i x H' hx O
    obtain ⟨j, hj, t, rfl, hT⟩ := Lb.Paired.at hP hx
    refine i_gtup (O.kp hT) rfl ?_
    refine i_gcons (i_gname (i_gcons (i_gname (i_gnil ?_))))
    have e1 : ∀ x y : V, ((wipe σ [v, w]).set v (some x)).set w (some y) = (σ.set v (some x)).set w (some y) := fun x y => by
      show ((((σ.set w none).set v none).set v (some x)).set w (some y) : L2.St) = _
      rw [List.set_set, List.set_comm _ _ (Ne.symm hvw), List.set_set]
    rw [e1]
    have jm : j ∈ ps := List.mem_of_getElem? hj
    refine ⟨?_, ht j H' _ jm O.keep ?_⟩
    · show ((((σ.set v (some (.int j.1))).set w (some (.int j.2))).set w none).set v none : L2.St) = (σ.set w none).set v none
      rw [List.set_set, List.set_comm _ _ (Ne.symm hvw), List.set_set]
      exact List.set_comm _ _ hvw
    have es := take_succ_filter f ps i j hj
    cases hf : f j with
    | false =>
      rw [hf] at es
      show Own a c B H' _
      rw [es]
      simpa using O
    | true =>
      rw [hf] at es
      refine hs j H' _ jm hf O.keep ⟨_, O.mem List.mem_cons_self, szl ?_, ?_⟩
      · rw [List.length_map, List.length_map]
        exact Nat.le_trans (List.length_filter_le _ _) (by rw [List.length_take]; omega)
      · have O2 := O.set (p := D) (o' := .lst ((((ps.take i).filter f).map e).map V.int ++ [.int (e j)])) .here
        rw [es]
        simpa using O2
  · intro H' O
    refine hd H' ?_
    have l := hP.length
    rw [l, List.take_length] at O
    exact O
end
end Lb
set_option Elab.async false
set_option linter.all false
set_option maxRecDepth 100000
set_option maxHeartbeats 4000000
/-! Lu: dicts with text keys, rows of lists, tuples joined. Knows no program. -/
namespace Lb
open PySem PySem.Spec PyProof.Rows L2
inductive VK1 (k : Key) (v : V) : List (Key × V) → Prop
  | here {r : List (Key × V)} : VK1 k v ((k, v) :: r)
  | there {k' : Key} {v' : V} {r : List (Key × V)} (n : ¬ k' = k) (h : VK1 k v r) : VK1 k v ((k', v') :: r)
inductive NoK (k : Key) : List (Key × V) → Prop
  | nil : NoK k []
  | cons {k' : Key} {v' : V} {r : List (Key × V)} (n : ¬ k' = k) (h : NoK k r) : NoK k ((k', v') :: r)
theorem NoK.all {k : Key} {r : List (Key × V)} (h : NoK k r) : ∀ x ∈ r, ¬ x.1 = k := by
  induction h with
  | nil => exact fun x h => (List.not_mem_nil h).elim
  | cons n _ ih =>
    intro x hx
    rcases List.mem_cons.mp hx with e | e
    · rw [e]; exact n
    · exact ih x e
inductive PK1 (k : Key) (v : V) : List (Key × V) → List (Key × V) → Prop
  | here {u : V} {r : List (Key × V)} (n : NoK k r) : PK1 k v ((k, u) :: r) ((k, v) :: r)
  | there {k' : Key} {v' : V} {r r' : List (Key × V)} (n : ¬ k' = k) (h : PK1 k v r r') : PK1 k v ((k', v') :: r) ((k', v') :: r')
theorem VK1.eq {k : Key} {v : V} {kvs : List (Key × V)} (h : VK1 k v kvs) : valV kvs k = some v := by
  induction h with
  | here => exact valV_pos rfl
  | there n _ ih => rw [valV_neg n]; exact ih
theorem PK1.eq {k : Key} {v : V} {kvs kvs' : List (Key × V)} (h : PK1 k v kvs kvs') : putK kvs k v = kvs' := by
  have key : (kvs.any fun kv => decide (kv.1 = k)) = true ∧ kvs.map (fun kv => if kv.1 = k then (kv.1, v) else kv) = kvs' := by
    induction h with
    | @here u r n =>
      refine ⟨by simp, ?_⟩
      rw [List.map_cons, if_pos rfl]
      refine congrArg _ ?_
      conv => rhs; rw [← List.map_id r]
      exact List.map_congr_left fun x hx => if_neg (n.all x hx)
    | @there k' v' r r' n _ ih =>
      refine ⟨by rw [List.any_cons, ih.1, Bool.or_true], ?_⟩
      rw [List.map_cons, if_neg n, ih.2]
  unfold putK
  rw [if_pos key.1, key.2]
theorem PK1.len {k : Key} {v : V} {kvs kvs' : List (Key × V)} (h : PK1 k v kvs kvs') : kvs'.length = kvs.length := by
  induction h with
  | here => rfl
  | there _ _ ih => rw [List.length_cons, List.length_cons, ih]
theorem merge_nd : ∀ {kvs acc : List (Key × V)}, ((acc ++ kvs).map (·.1)).Nodup → mergeK acc kvs = acc ++ kvs
  | [], acc, _ => by rw [List.append_nil]; rfl
  | p :: r, acc, nd => by
    have e : putK acc p.1 p.2 = acc ++ [p] := by
      unfold putK
      rw [if_neg]
      intro h
      obtain ⟨x, hx, hk⟩ := List.any_eq_true.mp h
      rw [List.map_append, List.nodup_append] at nd
      exact nd.2.2 x.1 (List.mem_map_of_mem hx) p.1 (List.mem_map_of_mem List.mem_cons_self) (of_decide_eq_true hk)
    show mergeK (putK acc p.1 p.2) r = _
    rw [e, merge_nd (by rw [List.append_assoc]; exact nd), List.append_assoc]
    rfl
theorem merge0 {kvs : List (Key × V)} (nd : (kvs.map (·.1)).Nodup) : mergeK [] kvs = kvs := merge_nd (acc := []) (by simpa using nd)
section
variable {K : PySem.W.Frag} {H : Hp} {Q : VK} {a c p : Addr} {B : Hp} {ls ls' : List (Addr × HO)} {σ : L2.St} {xs ys : List V}
theorem i_dgetS {kvs : List (Key × V)} {x : Str} {v : V} {R : V → Prop} (h : H p = some (.dK kvs)) (hv : VK1 (.inr x) v kvs) (q : R v) : (∃ a' v', V.ref p = .ref a' ∧ DGet H a' (.str x) (some v') ∧ R v') := i_dgetK h (k := .inr x) rfl hv.eq q
theorem i_dputS {kvs kvs' : List (Key × V)} {x : Str} {v : V} {R : Hp → Prop} (O : Own a c B H ls) (h : Up1 p (.dK kvs) (.dK kvs') ls ls') (hp : PK1 (.inr x) v kvs kvs') (hz : kvs.length < sizeLine) (k : ∀ H', Own a c B H' ls' → R H') :
    (∃ a' H4, V.ref p = .ref a' ∧ DPut H a' (.str x) v H4 ∧ R H4) := i_dputK (O.mem h.mem) (k := .inr x) rfl hz (by rw [hp.eq]; exact k _ (O.set h))
/-- tuple + tuple -/
theorem i_catT {q : Addr} (O : Own a c B H ls) (h1 : H p = some (.tup xs)) (h2 : H q = some (.tup ys)) (hx : xs ≠ []) (hy : ys ≠ []) (hz : xs.length + ys.length ≤ sizeLine) (k : ∀ r H', Own a c B H' ((r, .tup (xs ++ ys)) :: ls) → Q (.ref r) H') : rCatT K (.ref p) (.ref q) H Q :=
  ⟨p, q, xs, ys, rfl, rfl, SqT.of h1, SqT.of h2, hx, hz, fun e => absurd e hy, fun _ r hr => k r _ (O.new hr)⟩
theorem i_slTO {lo hi : Option Int} {zs : List V} (O : Own a c B H ls) (h : H p = some (.tup xs)) (cc : ¬ (HT.sIx xs.length 0 lo = 0 ∧ HT.sIx xs.length xs.length hi = xs.length)) (e : cutV xs lo hi = zs) (k : ∀ q H', Own a c B H' ((q, .tup zs) :: ls) → Q (.ref q) H') : rSlA (.ref p) lo hi H Q :=
  i_slT h cc fun q hq => by
    rw [e]
    exact k q _ (O.new hq)
end
/-! rows of lists, by a number -/
def rl (ra : Nat → Addr) (T : Nat → List V) (m : Nat) : List (Addr × HO) := (List.range m).map fun j => (ra j, .lst (T j))
def fu {α : Type} (T : Nat → α) (i : Nat) (g : α) : Nat → α := fun j => if j = i then g else T j
section
variable {ra ra' : Nat → Addr} {T T' : Nat → List V} {m i : Nat} {g : List V}
theorem fu_at {α : Type} {T : Nat → α} {i : Nat} {g : α} : fu T i g i = g := if_pos rfl
theorem fu_ne {α : Type} {T : Nat → α} {i j : Nat} {g : α} (h : j ≠ i) : fu T i g j = T j := if_neg h
theorem rl_succ : rl ra T (m + 1) = rl ra T m ++ [(ra m, .lst (T m))] := by
  unfold rl
  rw [List.range_succ, List.map_append]
  rfl
theorem rl_congr (h : ∀ i, i < m → ra i = ra' i ∧ T i = T' i) : rl ra T m = rl ra' T' m := by
  unfold rl
  exact List.map_congr_left fun i hi => by rw [(h i (List.mem_range.mp hi)).1, (h i (List.mem_range.mp hi)).2]
theorem Up1.app {p : Addr} {o o' : HO} {l l' : List (Addr × HO)} (h : Up1 p o o' l l') : ∀ r : List (Addr × HO), Up1 p o o' (r ++ l) (r ++ l')
  | [] => h
  | _ :: r => .there (Up1.app h r)
theorem up_rl : ∀ {m : Nat} {ls : List (Addr × HO)}, i < m → Up1 (ra i) (.lst (T i)) (.lst g) (rl ra T m ++ ls) (rl ra (fu T i g) m ++ ls)
  | 0, _, h => absurd h (by omega)
  | m + 1, ls, h => by
    rw [rl_succ, rl_succ, List.append_assoc, List.append_assoc]
    rcases Nat.lt_or_ge i m with q | q
    · rw [fu_ne (show m ≠ i by omega)]
      exact up_rl q
    · have e : i = m := by omega
      subst e
      rw [fu_at, rl_congr (ra' := ra) (T' := T) fun j hj => ⟨rfl, fu_ne (by omega)⟩]
      exact Up1.app .here _
theorem mem_rl (h : i < m) : (ra i, HO.lst (T i)) ∈ rl ra T m := List.mem_map.mpr ⟨i, List.mem_range.mpr h, rfl⟩
def rf (ra : Nat → Addr) (n : Nat) : List V := (List.range n).map fun i => V.ref (ra i)
theorem rf_len {n : Nat} : (rf ra n).length = n := by unfold rf; rw [List.length_map, List.length_range]
theorem rf_snoc {n : Nat} : rf ra n ++ [.ref (ra n)] = rf ra (n + 1) := by
  unfold rf
  rw [List.range_succ, List.map_append]
  rfl
theorem rf_congr {n : Nat} (h : ∀ i, i < n → ra i = ra' i) : rf ra n = rf ra' n := by
  unfold rf
  exact List.map_congr_left fun i hi => by rw [h i (List.mem_range.mp hi)]
theorem rf_get {n i : Nat} (h : i < n) : (rf ra n)[i]? = some (.ref (ra i)) := by
  unfold rf
  rw [List.getElem?_map, List.getElem?_range h]
  rfl
theorem rf_at {n i : Nat} (h : i < n) : atI (rf ra n) (i : Nat) = some (.ref (ra i)) := atI_nat (rf_get h)
end
end Lb
set_option Elab.async false
set_option linter.all false
set_option maxRecDepth 100000
set_option maxHeartbeats 4000000
/-! Lr: repr of data. It asks that no repr is under way: so the law's own def is walked where the guards are known. Knows no program. -/
namespace Lb
open PySem PySem.Spec PyProof.Rows L2
/-- a def walked only where no repr is under way -/
structure FnG (P : Program) (w : World) (K : PySem.W.Frag) (mg : Str → Option Value) (base : Heap) (k : Nat) (f : Addr) (fd : FuncData) (ps : List Str) (sp : Sp) : Prop where
  go : ∀ (outer : List Env) (A : Around) (s : Shared) (H : Hp) (vs : List V) (us : List Value) (args : Args) (Q : VK) (E : XK), A.guards = some [] → Env0 P w K mg base A outer s H → Room k A → sp vs H Q E → Vals vs us → BindsTo s fd args (ps.zip us) →
    codeAny (model P w) A (.call (.ref f) args) (CR CX0 outer P w H s Q E) s
section
variable {P : Program} {w : World} {K : PySem.W.Frag} {mg : Str → Option Value} {base : Heap} {x qual : Str} {params : Arguments} {body : List Stmt} {scope : Scope} {dvs : List V} {kws : List (Str × V)} {f : Addr} {fd : FuncData} {N ps : List Str} {k : Nat} {sp : Sp}
theorem okG (F : FunD K x qual params body scope dvs kws f fd) (S : FnScope N ps scope) (hlen : ∀ vs H Q E, sp vs H Q E → vs.length = ps.length)
    (B : ∀ (cdv : Value) (A : Around) (outer : List Env) (s : Shared) (H : Hp) (vs : List V) (Q : VK) (E : XK), A.guards = some [] → Room k (A.deeper (envOfC qual scope s.heap.objs.size f cdv)) → sp vs H Q E →
      ∃ t, PSs (cxOf CX0 P w K mg base N qual scope f cdv A outer s H E) body t ∧ t { nx := fun _ H' => Q .non H', rt := Q } (L2.start N vs) H) : FnG P w K mg base (k + 1) f fd ps sp := by
  obtain ⟨oc, od, dV, kV, doc, pm, an, cdv, ct, osl, e, lk, hcd, _, _⟩ := F.ex
  subst e
  constructor
  intro outer A s H vs us args Q E hg env hr hsp hv hb
  obtain ⟨t, ht, hq⟩ := B cdv A outer s H vs Q E hg (hr.deeper _) hsp
  have inK : K.In s.heap := env.mod.kin.keeps fun b o z => And.left (env.bs b o z)
  have noL : s.heap.NoLimit := env.mod.nolimit.keeps fun b o z => And.left (env.bs b o z)
  have kinds : ∀ z ∈ ps.zip us, scope.names.lookup z.1 = some .local ∨ (scope.names.lookup z.1 = some .cell ∧ ((cellsFrom (s.heap.objs.size + 1) scope.names []).lookup z.1).isSome = true) := by
    intro z hz
    cases S.par z.1 (List.of_mem_zip (a := z.1) (b := z.2) hz).1 with
    | inl q => exact Or.inl q
    | inr q => exact Or.inr ⟨q, PySem.W.cellsFrom_some _ _ _ (Or.inl q)⟩
  apply codeAny_call_function (hroom := hr.depth) (ho := inK _ _ lk) (hd' := rfl) (hco := S.co) (hgen := S.gen) (hbody := rfl) (hcd := PySem.W.codeRec_of inK hcd)
  apply hb
  apply wpAny_newFunctionEnv_cells S.kind kinds
  rintro env1 rfl s1 ic
  refine And.intro (noL.keeps ic.toInCall.keep) (codeAny_func ?_)
  refine wpAny_mono (ht.run [] s1 _ H _ (inv_start S hr.hd env (hlen _ _ _ _ hsp) hv ic) hq) ?_ fun _ _ z => z
  intro fl s' hs
  cases fl with
  | next => exact hs.elim fun σ' z => z.elim fun H' y => ⟨.non, H', y.1.os, y.1.bare, y.1.base, y.1.hok, rfl, y.2⟩
  | ret u =>
    obtain ⟨v, σ', H', J, rv, q⟩ := hs
    exact ⟨v, H', J.os, J.bare, J.base, J.hok, rv, q⟩
  | brk => exact (hs.elim fun _ z => z.elim fun _ y => y.2 : False).elim
  | cont => exact (hs.elim fun _ z => z.elim fun _ y => y.2 : False).elim
/-- what may be tracked at a law's start -/
structure Top (P : Program) (w : World) (K : PySem.W.Frag) (a : Addr) (s : Shared) (ns : List Int) (H : Hp) : Prop where
  only : Only H
  sq : SqL K H a (ns.map V.int)
  hok : HOk P w H s.heap
  one : ∀ b, H b ≠ none → b = a
  out : H a ≠ none → K.lookup a = none
theorem top_ex {a : Addr} {s : Shared} {vs : List Value} {ns : List Int} (KX : K.In s.heap) (ha : s.heap.get? a = some { cls := .type "list", data := .seq vs.toArray }) (hi : IntsAre vs ns) (hl : ns.length ≤ sizeLine) : ∃ H, Top P w K a s ns H := by
  have rv := vals_ints hi
  by_cases hk : (K.lookup a).isSome = true
  · obtain ⟨o, hk⟩ := Option.isSome_iff_exists.mp hk
    have e := ha.symm.trans (KX a o hk)
    cases e
    exact ⟨fun _ => none, ⟨fun _ => Or.inl rfl, Or.inr ⟨_, vs.toArray, _, hk, rfl, rfl, rfl, by rw [List.size_toArray, hi.length]; exact hl, rv⟩, fun _ _ z => (nomatch (show none = some _ from z)), fun _ z => (z rfl).elim, fun z => (z rfl).elim⟩⟩
  · have hk : K.lookup a = none := Option.not_isSome_iff_eq_none.mp hk
    refine ⟨upd (fun _ => none) a (.frz { cls := .type "list", data := .seq vs.toArray } (.lst (ns.map V.int))), ⟨fun b => ?_, Or.inl (Or.inr ⟨_, upd_same⟩), fun b u z => ?_, fun b z => ?_, fun _ => hk⟩⟩
    · cases Decidable.em (b = a) with
      | inl h => exact Or.inr ⟨_, _, by rw [h]; exact upd_same⟩
      | inr h => exact Or.inl (upd_ne h)
    · cases Decidable.em (b = a) with
      | inl h =>
        subst h
        rw [upd_same] at z
        cases z
        exact ⟨ha, by simpa using hl, vs, _, rv, ha⟩
      | inr h => rw [upd_ne h] at z; cases z
    · cases Decidable.em (b = a) with
      | inl h => exact h
      | inr h => exact (z (upd_ne h)).elim
/-- a law's call, by its def's promise -/
theorem callG {mb : Str → Option Value} {a : Addr} {s : Shared} {vs : List Value} {ns : List Int} (KX : K.In s.heap) (hns : s.heap.Ns mainGlobals mg) (hb : s.heap.Ns builtinsNs mb) (hbb : ∀ x : Str, x ≠ "__name__" → mb x = bootBuiltins x) (hlim : s.heap.NoLimit) (hg : s.gens = #[])
    (ha : s.heap.get? a = some { cls := .type "list", data := .seq vs.toArray }) (hi : IntsAre vs ns) (hl : ns.length ≤ sizeLine) (hr : Room k callerA)
    (F : ∀ base : Heap, K.In base → base.Ns mainGlobals mg → FnG P w K mg base k f fd [x] sp) (hbind : ∀ (s : Shared) (u : Value), BindsTo s fd ⟨[u], []⟩ [(x, u)])
    (hsp : ∀ H : Hp, Only H → SqL K H a (ns.map V.int) → sp [.ref a] H (fun v _ => v = .bl true) fun _ _ _ => False) :
    codeAny (model P w) callerA (.call (.ref f) ⟨[.ref a], []⟩) (fun r s' => r = .ok (.ret (.bool true)) ∧ OldK s.heap s'.heap ∧ s'.os = s.os ∧ AllBare s'.gens) s := by
  obtain ⟨H, T⟩ := top_ex (P := P) (w := w) KX ha hi hl
  have plain : ∀ (b : Addr) (o : Obj) (es : Array DictEntry) (ep : Nat), s.heap.get? b = some o → o.data = .dict es ep → H b = none := by
    intro b o es ep e d
    apply Classical.byContradiction
    intro z
    have q := T.one b z
    subst q
    have q := ha.symm.trans e
    cases q
    exact (nomatch (show Data.seq vs.toArray _ = Data.dict es ep from d))
  have ns' : ∀ {b : Addr} {m : Str → Option Value}, s.heap.Ns b m → (hidT s.heap H).Ns b m := by
    rintro b m ⟨o, es, ep, e, d, r⟩
    exact ⟨o, es, ep, hidT_get e (plain b o es ep e d), d, r⟩
  have kin' : K.In (hidT s.heap H) := by
    intro b o e
    refine hidT_get (KX b o e) (Classical.byContradiction fun z => ?_)
    have q := T.one b z
    subst q
    rw [T.out z] at e
    cases e
  have env : Env0 P w K mg (hidT s.heap H) callerA [] s H :=
    { frames := rfl
      mod := ⟨kin', ns' hns, ⟨mb, ns' hb, hbb⟩, hlim.elim fun mc z => ⟨mc, ns' z.1, z.2⟩⟩
      bs := fun _ _ e => of_hidT e
      bsz := Nat.le_of_eq (hidT_size _ _)
      funs := trivial
      frf := fun b z => (List.not_mem_nil (a := b) z).elim
      hok := T.hok
      bare := .of_eq hg }
  have run := (F _ kin' (ns' hns)).go [] callerA s H [.ref a] [.ref a] ⟨[.ref a], []⟩ _ _ rfl env hr (hsp H T.only T.sq) (.cons rfl .nil) (hbind s (.ref a))
  refine codeAny_mono run ?_
  intro r s' h
  match r, h with
  | .ok (.ret u), ⟨v, H', os, bare, un, hok', rv, q⟩ =>
    subst q
    cases (show u = Value.bool true from rv)
    refine ⟨rfl, OldK.of_keep fun b o e => ?_, os, bare⟩
    match T.only b with
    | .inl z => exact un.keep b o e z (fun y => (List.not_mem_nil (a := b) y).elim) (by simp)
    | .inr ⟨ob, xs, z⟩ =>
      have h1 := (T.hok b _ z).1
      have h2 := (hok' b _ (un.frzs b ob _ z)).1
      have h3 := h1.symm.trans e
      cases h3
      exact h2
  | .ok .next, h => exact False.elim h
  | .ok .brk, h => exact False.elim h
  | .ok .cont, h => exact False.elim h
  | .error _, h => exact False.elim h
end
/-- a law over a head by facts, its def walked where the guards are known -/
theorem walk_G {l : PySem.W.OpenLaw} {n k : Nat} {q : Program} {loose : List Str} {XP : (Str → Option Value) → Heap → Prop} {YP : World → Heap → Prop} {d : DefRec} {x : Str} (hn : l.most = some n) (hz : n ≤ sizeLine) (hdf : d.params.defaults = []) (hr : Room k callerA)
    (F : ∀ (w : World) (mg : Str → Option Value) (fa : Addr) (h : Heap), YP w h → h.Ns mainGlobals mg → mg d.name = some (.ref fa) → ∃ (K : PySem.W.Frag) (fd : FuncData) (sp : Sp), K.In h ∧ (∀ (s : Shared) (u : Value), BindsTo s fd ⟨[u], []⟩ [(x, u)]) ∧
      (∀ (H : Hp) (a : Addr) (ns : List Int), ns.length ≤ n → Only H → SqL K H a (ns.map V.int) → sp [.ref a] H (fun v _ => v = .bl true) fun _ _ _ => False) ∧ ∀ base : Heap, K.In base → base.Ns mainGlobals mg → FnG l.prog w K mg base k fa fd [x] sp) :
    PySem.W.WalkO q loose XP YP l.row.toRowW d [] (fun f vs => PySem.call f vs) := by
  apply Att.attach_call hn hdf
  intro w s₀ s₁ mg mb fa o pm cd doc a vs ns G Y _ _ _ hmg hobj hints hlen hg
  obtain ⟨K, fd, sp, h1, h2, h3, h4⟩ := F w mg fa s₁.heap Y G.T.g hmg
  exact callG h1 G.T.g G.T.b G.T.builtins G.T.nolimit hg hobj hints (Nat.le_trans hlen hz) hr h4 h2 fun H => h3 H a ns hlen
theorem units66 {k : Nat} {A : Around} (r : Room k A) : A.units + 66 < cLine := by
  have := r.un
  omega
/-! ### repr -/
def rReprA (K : PySem.W.Frag) : List V → Hp → VK → Prop := fun vs H Q => ∃ (a : Addr) (d : PyData), vs = [.ref a] ∧ Dp K H (.ref a) d ∧ Shp d ∧ d.showable = true ∧ d.shown.length ≤ sizeLine ∧ Q (.str d.shown) H
theorem call_reprA {X : Cx} (hg : X.A.guards = some []) (hu : X.A.units + 66 < cLine) : CallR X (.builtin "repr") (rReprA X.K) := by
  intro pins s σ H vs us Q I r h
  obtain ⟨a, d, rfl, hd, sh, hs, hz, q⟩ := h
  obtain ⟨u, rfl, rx⟩ := vals1 r
  obtain ⟨as, rd⟩ := Dp.reads I d _ u hd rx
  cases rx
  have lay := SeqAt.canLay_of_shaped sh
  have dp : d.depth ≤ 64 := by
    have : (d.canLay0 && decide (d.depth ≤ 64)) = true := sh
    rw [Bool.and_eq_true] at this
    exact of_decide_eq_true this.2
  exact repr_of_reads' rd hs (fun z => by rw [PyData.hasDict_of_canLay d lay] at z; cases z) hg (by omega) (fun _ _ e => e) (fun h' u tk hk => ⟨.str d.shown, H, I.kept hk, ⟨_, rfl⟩, q⟩) hz
theorem i_repr {K : PySem.W.Frag} {H : Hp} {Q : VK} {a : Addr} {d : PyData} (hd : Dt H (.ref a) d) (sh : Shp d) (hs : d.showable = true) (hz : d.shown.length ≤ sizeLine) (q : Q (.str d.shown) H) : rReprA K [.ref a] H Q := ⟨a, d, rfl, hd.dp, sh, hs, hz, q⟩
end Lb
set_option Elab.async false
set_option linter.all false
set_option maxRecDepth 100000
set_option maxHeartbeats 4000000
/-! Ls: sorted by a def that gives a tuple's first item. Knows no program. -/
namespace Lb
open PySem PySem.Spec PyProof.Rows L2
section
variable {P : Program} {w : World} {K : PySem.W.Frag}
/-- f(row) is row's first item, a whole number; nothing else happens -/
structure FirstF (P : Program) (w : World) (K : PySem.W.Frag) (f : Addr) : Prop where
  go : ∀ (A : Around) (s : Shared) (p : Addr) (its : List Value) (i : Int) (t : Tok), A.depth < recursionLimit → K.In s.heap → s.heap.NoLimit → IsTup s.heap p its.toArray → its[0]? = some (.int i t) → its.length ≤ sizeLine →
    wpAny (model P w) A (call (.ref f) [.ref p]) (PySem.W.KeyPure (.int i) s) (fun _ _ => False) s
theorem firstF {f : Addr} {fd : FuncData} {name qual x : Str} {params : Arguments} {scope : Scope} {p1 p2 p3 p4 : Pos} {j : Nat} (F : FunD K name qual params [.Return (some (.Subscript (.Name x p1) (.Constant (.int 0) j p2) p3)) p4] scope [] [] f fd) (S : FnScope [x] [x] scope)
    (hl : scope.names.lookup x = some .local) (hb : Binds K fd [x] []) (hx : (x == ("__debug__" : Str)) = false) : FirstF P w K f := by
  obtain ⟨oc, od, dV, kV, doc, pm, an, cdv, ct, osl, e, lk, hcd, _, _⟩ := F.ex
  subst e
  constructor
  intro A s p its i t hd inK noL ht h0 hz
  apply wpAny_call
  apply codeAny_call_function (hroom := hd) (ho := inK _ _ lk) (hd' := rfl) (hco := S.co) (hgen := S.gen) (hbody := rfl) (hcd := PySem.W.codeRec_of inK hcd)
  apply hb s [.ref p] inK rfl
  apply wpAny_newFunctionEnv_cells S.kind
  · intro z hz
    have : z = (x, Value.ref p) := by simpa using hz
    rw [this]
    exact Or.inl hl
  rintro env1 rfl s1 ic
  refine And.intro (noL.keeps ic.toInCall.keep) (codeAny_func ?_)
  obtain ⟨h1, tk, rfl, keep⟩ := ic.done
  refine wpAny_execs_cons (wpAny_Return_some ?_)
  refine Subscript_ (wpAny_Name (ldLC ic S.kind hl (v := .ref p) ?_ ?_) hx)
  · have e1 : ([x].zip ([.ref p] ++ []) : List (Str × Value)) = [(x, .ref p)] := rfl
    rw [e1]
    exact bindL_get (P := [x]) (vs := [.ref p]) (i := 0) (by simp) rfl rfl hl
  refine wpAny_Constant_int ?_
  have ht' : IsTup h1 p its.toArray := by
    obtain ⟨o, ho, hc, n, hd⟩ := ht
    exact ⟨o, keep _ _ ho, hc, n, hd⟩
  have hl0 : 0 < its.length := (List.getElem?_eq_some_iff.mp h0).1
  have n63 := line63
  refine subscriptTail_builtinR (x := .int i t) ht'.typeIs slot_tuple_getitem.lookup (getItem_tuple (j := 0) ht' (by omega) (by omega) (by rw [List.size_toArray]; exact seqIx_nat hl0) (by simpa using h0) ⟨rfl, ?_⟩) (by with_unfolding_all rfl)
  exact ⟨h1, _, rfl, keep, .int i t⟩
end
/-- what is asked of sorted(rows, key=f) -/
def KeyV (H : Hp) (x : V) (k : Int) : Prop := ∃ t r, x = .ref t ∧ H t = some (.tup (.int k :: r))
def rSortKey (f : Addr) : List V → List V → Hp → VK → Prop := fun vs zs H Q => ∃ (a : Addr) (xs : List V) (ks : List Int), vs = [.ref a] ∧ zs = [.ref f] ∧ H a = some (.lst xs) ∧ Paired (KeyV H) xs ks ∧
  ∀ p, H p = none → Q (.ref p) (upd H p (.lst (((xs.zip ks).mergeSort fun a b => decide (a.2 ≤ b.2)).map (·.1))))
theorem each_of_paired {α β : Type} {R : α → β → Prop} : ∀ {xs : List α} {ys : List β}, Paired R xs ys → PySem.W.EachIs R xs ys
  | _, _, .nil => .nil
  | _, _, .cons h t => .cons h (each_of_paired t)
theorem vals_each {α : Type} {g : α → V} : ∀ {us : List Value} {bs : List α}, PySem.W.EachIs (fun u b => RelV (g b) u) us bs → Vals (bs.map g) us
  | _, _, .nil => .nil
  | _, _, .cons h t => .cons h (vals_each t)
theorem cr_sortKey {X : Cx} {k : Nat} {f : Addr} (F : FirstF X.prog X.w X.K f) (hr : Room k X.A) : CallRK X (.builtin "sorted") [Str.ofString "key"] (rSortKey f) := by
  intro pins s σ H vs zs us ws Q I r rz h
  obtain ⟨a, xs, ks, rfl, rfl, ha, hk, q⟩ := h
  obtain rfl := Vals.ref1 r
  obtain ⟨w1, rfl, e1⟩ := vals1 rz
  obtain rfl : w1 = Value.ref f := e1
  obtain ⟨its, rv, hl, hz⟩ := I.list (SqL.of (K := X.K) ha)
  have hdp := hr.dp
  have hun := hr.un
  have hlen : xs.length = ks.length := hk.length
  have each : PySem.W.EachIs (fun u (b : V × Int) => RelV b.1 u ∧ KeyV H b.1 b.2) its (xs.zip ks) := by
    clear ha hl hz q r rz hlen
    induction hk generalizing its with
    | nil => cases rv; exact .nil
    | cons h t ih =>
      cases rv with
      | cons r1 r2 => exact .cons ⟨r1, h⟩ (ih _ r2)
  have zl : (xs.zip ks).length = xs.length := by rw [List.length_zip, ← hlen, Nat.min_self]
  refine PySem.W.sorted_key_data (b := false) (R := fun u (b : V × Int) => RelV b.1 u ∧ KeyV H b.1 b.2) (fun b => .int b.2) hl.isList each (PySem.W.AllAlike.of fun _ _ => by simp [PySem.W.alike]) (.inr fun d hd => ?_) (by rw [zl]; exact hz) (fun b _ => ?_) (PyProof.Rows.ksk_s1 _ _) (fun _ => PyProof.Rows.ksk_l1 _ _) (fun _ => PyProof.Rows.ksk_t1 _ _)
    (fun v b hR hb h tk kp => ?_) fun out c h' tk kp fr hD ho eo => ?_
  · obtain ⟨b, _, rfl⟩ := List.mem_map.mp hd
    exact ⟨(fun z => by cases z), (fun xs z => by cases z)⟩
  · show X.A.units + 2 + 0 < cLine
    omega
  · obtain ⟨h1, t, rr, e, ht⟩ := hR
    have h1' := h1
    rw [e] at h1'
    obtain rfl : v = Value.ref t := h1'
    have I2 : Inv X pins σ H { s with heap := h, toks := tk } := I.kept kp
    obtain ⟨its2, r2, pl, hz2⟩ := I2.tuple (SqT.of (K := X.K) ht)
    cases r2 with
    | @cons _ u0 _ ur ra rw' =>
      obtain ⟨t0, rfl⟩ := ra
      have lu := Paired.length rw'
      refine F.go _ _ t _ b.2 t0 ?_ I2.kIn I2.nolimit pl rfl ?_
      · show X.A.depth < recursionLimit
        omega
      · rw [List.length_cons] at hz2 ⊢
        omega
  · have nd : H (s.heap.objs.size + 1) = none := I.hok.fresh (Nat.le_succ _)
    rw [PySem.W.dataLe_int (fun b : V × Int => b.2)] at eo
    refine ⟨.ref _, upd H (s.heap.objs.size + 1) (.lst (((xs.zip ks).mergeSort fun a b => decide (a.2 ≤ b.2)).map (·.1))), I.laid (t' := tk) kp (Nat.le_succ _) ⟨?_, out, c, vals_each (eo.mono fun _ _ z => z.1), hD⟩, rfl, q _ nd⟩
    rw [List.length_map, List.length_mergeSort, zl]
    exact hz
/-- rows that stand in the order of their keys stay so -/
theorem i_sortKey {f : Addr} {a c p : Addr} {B H : Hp} {ls : List (Addr × HO)} {Q : VK} {xs : List V} {ks : List Int} (O : Own a c B H ls) (hp : H p = some (.lst xs)) (hk : Paired (KeyV H) xs ks) (hs : ks.Pairwise (· ≤ ·)) (k : ∀ q H', Own a c B H' ((q, .lst xs) :: ls) → Q (.ref q) H') : rSortKey f [.ref p] [.ref f] H Q := by
  refine ⟨p, xs, ks, rfl, rfl, hp, hk, fun q hq => ?_⟩
  have hlen : xs.length = ks.length := hk.length
  have e : (xs.zip ks).mergeSort (fun a b => decide (a.2 ≤ b.2)) = xs.zip ks := by
    apply List.mergeSort_of_pairwise
    have h2 : ((xs.zip ks).map (·.2)).Pairwise (· ≤ ·) := by
      rw [List.map_snd_zip (by omega)]
      exact hs
    exact (List.pairwise_map.mp h2).imp fun h => decide_eq_true h
  rw [e, List.map_fst_zip (by omega)]
  exact k q _ (O.new hq)
theorem i_ckw {r : List V → List V → Hp → VK → Prop} {t tk : TA} {σ : L2.St} {H : Hp} {Q : VK} (q : t σ H fun vs H1 => tk σ H1 fun zs H2 => r vs zs H2 Q) : tCKw r t tk σ H Q := q
end Lb
set_option Elab.async false
set_option linter.all false
set_option maxRecDepth 100000
set_option maxHeartbeats 4000000
/-! Lk: {n: True for n in ints}, sorted; numbers below 64 in ascending order. Knows no program. -/
namespace Lb
open PySem PySem.Spec PyProof.Rows L2
/-- the numbers below 64 that are in l, ascending -/
def asc (l : List Nat) : List Nat := (List.range 64).filter fun k => decide (k ∈ l)
theorem asc_mem {l : List Nat} {k : Nat} : k ∈ asc l ↔ k < 64 ∧ k ∈ l := by
  unfold asc
  rw [List.mem_filter, List.mem_range, decide_eq_true_eq]
theorem asc_congr {l m : List Nat} (h : ∀ k, k ∈ l ↔ k ∈ m) : asc l = asc m := by
  unfold asc
  exact List.filter_congr fun k _ => by simp only [h k]
theorem asc_lt {l : List Nat} : (asc l).Pairwise (· < ·) := List.Pairwise.filter _ List.pairwise_lt_range
def zs (l : List Nat) : List Int := l.map fun (k : Nat) => ((k : Nat) : Int)
theorem zs_mem {l : List Nat} {k : Int} : k ∈ zs l ↔ ∃ n : Nat, n ∈ l ∧ (n : Int) = k := List.mem_map
/-- strictly ascending, with these members: the one list -/
theorem asc_uniq {ys : List Int} {l : List Nat} (hs : ys.Pairwise (· < ·)) (hm : ∀ k : Int, k ∈ ys ↔ k ∈ zs l) (hb : ∀ n ∈ l, n < 64) : ys = zs (asc l) := by
  have h2 : (zs (asc l)).Pairwise (· < ·) := by
    unfold zs
    rw [List.pairwise_map]
    exact asc_lt.imp fun h => by omega
  have nd : ∀ {xs : List Int}, xs.Pairwise (· < ·) → xs.Nodup := fun h => h.imp fun h => by omega
  refine List.Perm.eq_of_pairwise (le := fun a b : Int => a < b) (fun a b _ _ h1 h2 => by omega) hs h2 ((List.perm_ext_iff_of_nodup (nd hs) (nd h2)).mpr fun k => ?_)
  rw [hm, zs_mem, zs_mem]
  constructor
  · rintro ⟨n, hn, e⟩
    exact ⟨n, asc_mem.mpr ⟨hb n hn, hn⟩, e⟩
  · rintro ⟨n, hn, e⟩
    exact ⟨n, (asc_mem.mp hn).2, e⟩
theorem le_lt {ys : List Int} (h : ys.Pairwise (· ≤ ·)) (nd : ys.Nodup) : ys.Pairwise (· < ·) := (h.and nd).imp fun h => by omega
def rSortDI : List V → Hp → VK → Prop := fun xs H Q => ∃ (a : Addr) (kvs : List (Key × V)) (ks : List Int), xs = [.ref a] ∧ Rd H a (.dK kvs) ∧ kvs.map (·.1) = ks.map Sum.inl ∧ ks.length < 64 ∧
  ∀ (ys : List Int) (p : Addr), ys.Perm ks → ys.Pairwise (· ≤ ·) → H p = none → Q (.ref p) (upd H p (.lst (ys.map V.int)))
theorem cr_sortedDI {X : Cx} (hc : X.calm = true) : CallR X (.builtin "sorted") rSortDI := call_sortedDI hc
def tk (ks : List Int) : List (Key × V) := ks.map fun k => (.inl k, .bl true)
theorem szl2' {n : Nat} (h : n ≤ 10000000) : n < sizeLine := Nat.lt_of_le_of_lt h (by decide)
theorem tk_put {ks : List Int} {k : Int} : putK (tk ks) (.inl k) (.bl true) = if k ∈ ks then tk ks else tk (ks ++ [k]) := by
  unfold putK
  have e : ((tk ks).any fun kv => decide (kv.1 = Sum.inl k)) = decide (k ∈ ks) := by
    unfold tk
    rw [List.any_map]
    rw [Bool.eq_iff_iff, List.any_eq_true, decide_eq_true_eq]
    constructor
    · rintro ⟨x, hx, h⟩
      have : (Sum.inl x : Key) = Sum.inl k := of_decide_eq_true h
      cases this
      exact hx
    · exact fun h => ⟨k, h, decide_eq_true rfl⟩
  rw [e]
  by_cases h : k ∈ ks
  · rw [if_pos (decide_eq_true h), if_pos h]
    unfold tk
    rw [List.map_map]
    refine List.map_congr_left fun x _ => ?_
    show (if (Sum.inl x : Key) = Sum.inl k then ((Sum.inl x : Key), V.bl true) else (Sum.inl x, .bl true)) = _
    split <;> rfl
  · rw [if_neg (by simpa using h), if_neg h]
    unfold tk
    rw [List.map_append]
    rfl
section
variable {K : PySem.W.Frag} {a c p : Addr} {B H : Hp} {ls : List (Addr × HO)} {σ : L2.St} {Q : VK}
/-- {n: True for n in ints} -/
theorem i_dcN {v : Nat} {ns : List Nat} {D : Addr} {Qd : Hp → Prop} (O : Own a c B H ls) (hD : H D = none) (hp : H p = some (.lst (ns.map fun (k : Nat) => V.int (k : Nat)))) (hz : ns.length ≤ 10000000) (hv : v < σ.length)
    (k : ∀ ks H', Own a c B H' ((D, .dK (tk ks)) :: ls) → ks.Nodup → (∀ k : Int, k ∈ ks ↔ k ∈ zs ns) → Qd H') :
    ∃ W : Nat → Nat → Hp → Prop, (∃ m, W 0 m (upd H D (.dK []))) ∧ ∀ i m H, W i m H → ((Itl K p).stop i H ∧ Qd H) ∨ ((Itl K p).go i H ∧ ∃ Nx : Hp → Prop, (∀ H', Nx H' → ∃ m', m' < m ∧ W (i + 1) m' H') ∧ ∀ x H', (Itl K p).yld i H x H' → gName v x (wipe σ [v]) H' fun σ2 H2 => wipe σ2 [v] = wipe σ [v] ∧ tYes σ2 H2 fun b H3 =>
      if b = true then tVar v σ2 H3 fun y H4 => tC (.bl true) σ2 H4 fun z H5 => ∃ kvs k, y = kV k ∧ H5 D = some (.dK kvs) ∧ kvs.length < sizeLine ∧ Nx (upd H5 D (.dK (putK kvs k z))) else Nx H3) := by
  have pD : p ≠ D := fun e => by rw [e, hD] at hp; cases hp
  refine ⟨fun i m H' => m = ns.length - i ∧ i ≤ ns.length ∧ H' p = some (.lst (ns.map fun (k : Nat) => V.int (k : Nat))) ∧ ∃ ks, Own a c B H' ((D, .dK (tk ks)) :: ls) ∧ ks.Nodup ∧ (∀ k : Int, k ∈ ks ↔ k ∈ zs (ns.take i)) ∧ ks.length ≤ i, ⟨ns.length, by simp, Nat.zero_le _, by rw [upd_ne pD]; exact hp, [], O.new hD, List.nodup_nil, fun k => by simp [zs], Nat.le_refl _⟩, ?_⟩
  rintro i m H2 ⟨rfl, hi, hq, ks, O, nd, hm, hl⟩
  by_cases hlt : i < ns.length
  · refine .inr ⟨⟨_, .int (ns[i] : Nat), SqL.of hq, by rw [List.getElem?_map, List.getElem?_eq_getElem hlt]; rfl⟩, _, fun H' p' => ⟨ns.length - (i + 1), by omega, rfl, hlt, p'⟩, fun x H' y => ?_⟩
    obtain ⟨rfl, y⟩ := y
    have ex := y _ (SqL.of hq)
    rw [List.getElem?_map, List.getElem?_eq_getElem hlt] at ex
    cases ex
    refine ⟨?_, ?_⟩
    · show ((σ.set v none).set v _).set v none = σ.set v none
      rw [List.set_set, List.set_set]
    show ∃ w, ((σ.set v none).set v _)[v]? = some (some w) ∧ _
    refine ⟨.int (ns[i] : Nat), by rw [List.set_set, List.getElem?_set_self hv], ?_⟩
    refine ⟨tk ks, .inl (ns[i] : Nat), rfl, O.mem List.mem_cons_self, szl2' ?_, by rw [upd_ne pD]; exact hq, if ((ns[i] : Nat) : Int) ∈ ks then ks else ks ++ [((ns[i] : Nat) : Int)], ?_, ?_, fun k => ?_, ?_⟩
    · unfold tk
      rw [List.length_map]
      omega
    · have O2 := O.set (p := D) (o' := .dK (putK (tk ks) (.inl (ns[i] : Nat)) (.bl true))) .here
      rw [tk_put] at O2
      rw [tk_put]
      split <;> rename_i h
      · rw [if_pos h] at O2
        exact O2
      · rw [if_neg h] at O2
        exact O2
    · split
      · exact nd
      · rename_i h
        refine List.nodup_append.mpr ⟨nd, by simp, fun x hx y hy e => h ?_⟩
        rw [List.mem_singleton.mp hy] at e
        rw [← e]
        exact hx
    · have e : zs (ns.take (i + 1)) = zs (ns.take i) ++ [((ns[i] : Nat) : Int)] := by
        unfold zs
        rw [List.take_add_one, List.getElem?_eq_getElem hlt, List.map_append]
        rfl
      rw [e, List.mem_append, List.mem_singleton, ← hm]
      split
      · rename_i h
        exact ⟨.inl, fun z => z.elim id fun e => by rw [e]; exact h⟩
      · rw [List.mem_append, List.mem_singleton]
    · split
      · omega
      · rw [List.length_append]
        show _ + 1 ≤ _
        omega
  · have e : i = ns.length := by omega
    subst e
    rw [List.take_length] at hm
    exact .inl ⟨⟨_, SqL.of hq, by simp⟩, k ks H2 O nd hm⟩
theorem nodup_len {ks : List Int} {m : Nat} (nd : ks.Nodup) (h : ∀ k ∈ ks, 0 ≤ k ∧ k < (m : Int)) : ks.length ≤ m := by
  have h2 : ks.map Int.toNat ⊆ List.range m := by
    intro x hx
    obtain ⟨k, hk, rfl⟩ := List.mem_map.mp hx
    have := h k hk
    exact List.mem_range.mpr (by omega)
  have nd2 : (ks.map Int.toNat).Nodup := by
    rw [List.nodup_iff_pairwise_ne, List.pairwise_map]
    refine (List.Pairwise.and_mem.mp nd).imp fun ⟨ha, hb, hab⟩ => ?_
    have := h _ ha
    have := h _ hb
    omega
  have pm : (ks.map Int.toNat).Perm ((List.range m).filter fun x => decide (x ∈ ks.map Int.toNat)) := by
    refine (List.perm_ext_iff_of_nodup nd2 (List.Pairwise.filter _ List.nodup_range)).mpr fun x => ?_
    rw [List.mem_filter, decide_eq_true_eq]
    exact ⟨fun h => ⟨h2 h, h⟩, fun h => h.2⟩
  have := pm.length_eq
  rw [List.length_map] at this
  have l2 := List.length_filter_le (fun x => decide (x ∈ ks.map Int.toNat)) (List.range m)
  rw [List.length_range] at l2
  omega
/-- sorted of such a dict -/
theorem i_sortDI {D : Addr} {ks : List Int} {ns : List Nat} (O : Own a c B H ls) (h : H D = some (.dK (tk ks))) (nd : ks.Nodup) (hm : ∀ k : Int, k ∈ ks ↔ k ∈ zs ns) (hb : ∀ n ∈ ns, n < 63) (k : ∀ q H', Own a c B H' ((q, .lst ((asc ns).map fun (k : Nat) => V.int (k : Nat))) :: ls) → Q (.ref q) H') : rSortDI [.ref D] H Q := by
  have hk : ∀ k ∈ ks, 0 ≤ k ∧ k < ((63 : Nat) : Int) := fun k hk => by
    obtain ⟨n, hn, e⟩ := zs_mem.mp ((hm k).mp hk)
    have := hb n hn
    omega
  refine ⟨D, tk ks, ks, rfl, Rd.of h, ?_, Nat.lt_succ_of_le (nodup_len nd hk), fun ys p hp hs hq => ?_⟩
  · unfold tk
    rw [List.map_map]
    rfl
  · have e := asc_uniq (l := ns) (le_lt hs (hp.nodup_iff.mpr nd)) (fun k => by rw [hp.mem_iff, hm]) fun n hn => by have := hb n hn; omega
    have O2 := O.new (p := p) hq (o := .lst ((asc ns).map fun (k : Nat) => V.int (k : Nat)))
    have e2 : ys.map V.int = (asc ns).map fun (k : Nat) => V.int (k : Nat) := by
      rw [e]
      unfold zs
      rw [List.map_map]
      rfl
    rw [e2]
    exact k p _ O2
end
end Lb
set_option Elab.async false
set_option linter.all false
set_option maxRecDepth 100000
set_option maxHeartbeats 4000000
/-! Lf: steps of a reading found by class (one instance a step): the plain steps of a walk at once. Knows no program. -/
namespace Lb
open PySem PySem.Spec PyProof.Rows L2
/-- one step: P holds if P' does -/
class St (P : Prop) (P' : outParam Prop) : Prop where
  h : P' → P
/-- steps, as many as there are -/
class Sts (P : Prop) (P' : outParam Prop) : Prop where
  h : P' → P
instance (priority := 10) sts_stop {P : Prop} : Sts P P := ⟨id⟩
instance sts_go {P P' P'' : Prop} [a : St P P'] [b : Sts P' P''] : Sts P P'' := ⟨fun h => a.h (b.h h)⟩
theorem go1 {P P' P'' : Prop} [a : St P P'] [b : Sts P' P''] (h : P'') : P := a.h (b.h h)
/-- a name as the model asks it -/
structure Nm (x : Str) : Prop where
  d : (x == ("__debug__" : Str)) = false
  c : (x == ("__classdict__" : Str)) = false
theorem pvx {X : Cx} {i : Nat} {x : Str} {pos : Pos} (n : Nm x) (hN : X.N[i]? = some x) (hv : Vis X.env.scope x) : PE X (.Name x pos) (tVar i) := pv i hN hv n.d n.c
theorem one1 {P P' : Prop} [a : St P P'] (h : P') : P := a.h h
class LkS (σ : L2.St) (i : Nat) (v : outParam V) : Prop where
  h : σ[i]? = some (some v)
class SetS (σ : L2.St) (i : Nat) (v : V) (τ : outParam L2.St) : Prop where
  h : σ.set i (some v) = τ
section
variable {x0 x1 x2 x3 x4 x5 x6 x7 x8 x9 x10 x11 x12 x13 x14 x15 x16 x17 x18 x19 x20 x21 x22 x23 x24 x25 x26 x27 x28 x29 : Option V} {r : List (Option V)} {v : V}
instance lk0 : LkS (some v :: r) 0 v := ⟨rfl⟩
instance ss0 : SetS (x0 :: r) 0 v (some v :: r) := ⟨rfl⟩
instance lk1 : LkS (x0 :: some v :: r) 1 v := ⟨rfl⟩
instance ss1 : SetS (x0 :: x1 :: r) 1 v (x0 :: some v :: r) := ⟨rfl⟩
instance lk2 : LkS (x0 :: x1 :: some v :: r) 2 v := ⟨rfl⟩
instance ss2 : SetS (x0 :: x1 :: x2 :: r) 2 v (x0 :: x1 :: some v :: r) := ⟨rfl⟩
instance lk3 : LkS (x0 :: x1 :: x2 :: some v :: r) 3 v := ⟨rfl⟩
instance ss3 : SetS (x0 :: x1 :: x2 :: x3 :: r) 3 v (x0 :: x1 :: x2 :: some v :: r) := ⟨rfl⟩
instance lk4 : LkS (x0 :: x1 :: x2 :: x3 :: some v :: r) 4 v := ⟨rfl⟩
instance ss4 : SetS (x0 :: x1 :: x2 :: x3 :: x4 :: r) 4 v (x0 :: x1 :: x2 :: x3 :: some v :: r) := ⟨rfl⟩
instance lk5 : LkS (x0 :: x1 :: x2 :: x3 :: x4 :: some v :: r) 5 v := ⟨rfl⟩
instance ss5 : SetS (x0 :: x1 :: x2 :: x3 :: x4 :: x5 :: r) 5 v (x0 :: x1 :: x2 :: x3 :: x4 :: some v :: r) := ⟨rfl⟩
instance lk6 : LkS (x0 :: x1 :: x2 :: x3 :: x4 :: x5 :: some v :: r) 6 v := ⟨rfl⟩
instance ss6 : SetS (x0 :: x1 :: x2 :: x3 :: x4 :: x5 :: x6 :: r) 6 v (x0 :: x1 :: x2 :: x3 :: x4 :: x5 :: some v :: r) := ⟨rfl⟩
instance lk7 : LkS (x0 :: x1 :: x2 :: x3 :: x4 :: x5 :: x6 :: some v :: r) 7 v := ⟨rfl⟩
instance ss7 : SetS (x0 :: x1 :: x2 :: x3 :: x4 :: x5 :: x6 :: x7 :: r) 7 v (x0 :: x1 :: x2 :: x3 :: x4 :: x5 :: x6 :: some v :: r) := ⟨rfl⟩
instance lk8 : LkS (x0 :: x1 :: x2 :: x3 :: x4 :: x5 :: x6 :: x7 :: some v :: r) 8 v := ⟨rfl⟩
instance ss8 : SetS (x0 :: x1 :: x2 :: x3 :: x4 :: x5 :: x6 :: x7 :: x8 :: r) 8 v (x0 :: x1 :: x2 :: x3 :: x4 :: x5 :: x6 :: x7 :: some v :: r) := ⟨rfl⟩
instance lk9 : LkS (x0 :: x1 :: x2 :: x3 :: x4 :: x5 :: x6 :: x7 :: x8 :: some v :: r) 9 v := ⟨rfl⟩
instance ss9 : SetS (x0 :: x1 :: x2 :: x3 :: x4 :: x5 :: x6 :: x7 :: x8 :: x9 :: r) 9 v (x0 :: x1 :: x2 :: x3 :: x4 :: x5 :: x6 :: x7 :: x8 :: some v :: r) := ⟨rfl⟩
instance lk10 : LkS (x0 :: x1 :: x2 :: x3 :: x4 :: x5 :: x6 :: x7 :: x8 :: x9 :: some v :: r) 10 v := ⟨rfl⟩
instance ss10 : SetS (x0 :: x1 :: x2 :: x3 :: x4 :: x5 :: x6 :: x7 :: x8 :: x9 :: x10 :: r) 10 v (x0 :: x1 :: x2 :: x3 :: x4 :: x5 :: x6 :: x7 :: x8 :: x9 :: some v :: r) := ⟨rfl⟩
instance lk11 : LkS (x0 :: x1 :: x2 :: x3 :: x4 :: x5 :: x6 :: x7 :: x8 :: x9 :: x10 :: some v :: r) 11 v := ⟨rfl⟩
instance ss11 : SetS (x0 :: x1 :: x2 :: x3 :: x4 :: x5 :: x6 :: x7 :: x8 :: x9 :: x10 :: x11 :: r) 11 v (x0 :: x1 :: x2 :: x3 :: x4 :: x5 :: x6 :: x7 :: x8 :: x9 :: x10 :: some v :: r) := ⟨rfl⟩
instance lk12 : LkS (x0 :: x1 :: x2 :: x3 :: x4 :: x5 :: x6 :: x7 :: x8 :: x9 :: x10 :: x11 :: some v :: r) 12 v := ⟨rfl⟩
instance ss12 : SetS (x0 :: x1 :: x2 :: x3 :: x4 :: x5 :: x6 :: x7 :: x8 :: x9 :: x10 :: x11 :: x12 :: r) 12 v (x0 :: x1 :: x2 :: x3 :: x4 :: x5 :: x6 :: x7 :: x8 :: x9 :: x10 :: x11 :: some v :: r) := ⟨rfl⟩
instance lk13 : LkS (x0 :: x1 :: x2 :: x3 :: x4 :: x5 :: x6 :: x7 :: x8 :: x9 :: x10 :: x11 :: x12 :: some v :: r) 13 v := ⟨rfl⟩
instance ss13 : SetS (x0 :: x1 :: x2 :: x3 :: x4 :: x5 :: x6 :: x7 :: x8 :: x9 :: x10 :: x11 :: x12 :: x13 :: r) 13 v (x0 :: x1 :: x2 :: x3 :: x4 :: x5 :: x6 :: x7 :: x8 :: x9 :: x10 :: x11 :: x12 :: some v :: r) := ⟨rfl⟩
instance lk14 : LkS (x0 :: x1 :: x2 :: x3 :: x4 :: x5 :: x6 :: x7 :: x8 :: x9 :: x10 :: x11 :: x12 :: x13 :: some v :: r) 14 v := ⟨rfl⟩
instance ss14 : SetS (x0 :: x1 :: x2 :: x3 :: x4 :: x5 :: x6 :: x7 :: x8 :: x9 :: x10 :: x11 :: x12 :: x13 :: x14 :: r) 14 v (x0 :: x1 :: x2 :: x3 :: x4 :: x5 :: x6 :: x7 :: x8 :: x9 :: x10 :: x11 :: x12 :: x13 :: some v :: r) := ⟨rfl⟩
instance lk15 : LkS (x0 :: x1 :: x2 :: x3 :: x4 :: x5 :: x6 :: x7 :: x8 :: x9 :: x10 :: x11 :: x12 :: x13 :: x14 :: some v :: r) 15 v := ⟨rfl⟩
instance ss15 : SetS (x0 :: x1 :: x2 :: x3 :: x4 :: x5 :: x6 :: x7 :: x8 :: x9 :: x10 :: x11 :: x12 :: x13 :: x14 :: x15 :: r) 15 v (x0 :: x1 :: x2 :: x3 :: x4 :: x5 :: x6 :: x7 :: x8 :: x9 :: x10 :: x11 :: x12 :: x13 :: x14 :: some v :: r) := ⟨rfl⟩
instance lk16 : LkS (x0 :: x1 :: x2 :: x3 :: x4 :: x5 :: x6 :: x7 :: x8 :: x9 :: x10 :: x11 :: x12 :: x13 :: x14 :: x15 :: some v :: r) 16 v := ⟨rfl⟩
instance ss16 : SetS (x0 :: x1 :: x2 :: x3 :: x4 :: x5 :: x6 :: x7 :: x8 :: x9 :: x10 :: x11 :: x12 :: x13 :: x14 :: x15 :: x16 :: r) 16 v (x0 :: x1 :: x2 :: x3 :: x4 :: x5 :: x6 :: x7 :: x8 :: x9 :: x10 :: x11 :: x12 :: x13 :: x14 :: x15 :: some v :: r) := ⟨rfl⟩
instance lk17 : LkS (x0 :: x1 :: x2 :: x3 :: x4 :: x5 :: x6 :: x7 :: x8 :: x9 :: x10 :: x11 :: x12 :: x13 :: x14 :: x15 :: x16 :: some v :: r) 17 v := ⟨rfl⟩
instance ss17 : SetS (x0 :: x1 :: x2 :: x3 :: x4 :: x5 :: x6 :: x7 :: x8 :: x9 :: x10 :: x11 :: x12 :: x13 :: x14 :: x15 :: x16 :: x17 :: r) 17 v (x0 :: x1 :: x2 :: x3 :: x4 :: x5 :: x6 :: x7 :: x8 :: x9 :: x10 :: x11 :: x12 :: x13 :: x14 :: x15 :: x16 :: some v :: r) := ⟨rfl⟩
instance lk18 : LkS (x0 :: x1 :: x2 :: x3 :: x4 :: x5 :: x6 :: x7 :: x8 :: x9 :: x10 :: x11 :: x12 :: x13 :: x14 :: x15 :: x16 :: x17 :: some v :: r) 18 v := ⟨rfl⟩
instance ss18 : SetS (x0 :: x1 :: x2 :: x3 :: x4 :: x5 :: x6 :: x7 :: x8 :: x9 :: x10 :: x11 :: x12 :: x13 :: x14 :: x15 :: x16 :: x17 :: x18 :: r) 18 v (x0 :: x1 :: x2 :: x3 :: x4 :: x5 :: x6 :: x7 :: x8 :: x9 :: x10 :: x11 :: x12 :: x13 :: x14 :: x15 :: x16 :: x17 :: some v :: r) := ⟨rfl⟩
instance lk19 : LkS (x0 :: x1 :: x2 :: x3 :: x4 :: x5 :: x6 :: x7 :: x8 :: x9 :: x10 :: x11 :: x12 :: x13 :: x14 :: x15 :: x16 :: x17 :: x18 :: some v :: r) 19 v := ⟨rfl⟩
instance ss19 : SetS (x0 :: x1 :: x2 :: x3 :: x4 :: x5 :: x6 :: x7 :: x8 :: x9 :: x10 :: x11 :: x12 :: x13 :: x14 :: x15 :: x16 :: x17 :: x18 :: x19 :: r) 19 v (x0 :: x1 :: x2 :: x3 :: x4 :: x5 :: x6 :: x7 :: x8 :: x9 :: x10 :: x11 :: x12 :: x13 :: x14 :: x15 :: x16 :: x17 :: x18 :: some v :: r) := ⟨rfl⟩
instance lk20 : LkS (x0 :: x1 :: x2 :: x3 :: x4 :: x5 :: x6 :: x7 :: x8 :: x9 :: x10 :: x11 :: x12 :: x13 :: x14 :: x15 :: x16 :: x17 :: x18 :: x19 :: some v :: r) 20 v := ⟨rfl⟩
instance ss20 : SetS (x0 :: x1 :: x2 :: x3 :: x4 :: x5 :: x6 :: x7 :: x8 :: x9 :: x10 :: x11 :: x12 :: x13 :: x14 :: x15 :: x16 :: x17 :: x18 :: x19 :: x20 :: r) 20 v (x0 :: x1 :: x2 :: x3 :: x4 :: x5 :: x6 :: x7 :: x8 :: x9 :: x10 :: x11 :: x12 :: x13 :: x14 :: x15 :: x16 :: x17 :: x18 :: x19 :: some v :: r) := ⟨rfl⟩
instance lk21 : LkS (x0 :: x1 :: x2 :: x3 :: x4 :: x5 :: x6 :: x7 :: x8 :: x9 :: x10 :: x11 :: x12 :: x13 :: x14 :: x15 :: x16 :: x17 :: x18 :: x19 :: x20 :: some v :: r) 21 v := ⟨rfl⟩
instance ss21 : SetS (x0 :: x1 :: x2 :: x3 :: x4 :: x5 :: x6 :: x7 :: x8 :: x9 :: x10 :: x11 :: x12 :: x13 :: x14 :: x15 :: x16 :: x17 :: x18 :: x19 :: x20 :: x21 :: r) 21 v (x0 :: x1 :: x2 :: x3 :: x4 :: x5 :: x6 :: x7 :: x8 :: x9 :: x10 :: x11 :: x12 :: x13 :: x14 :: x15 :: x16 :: x17 :: x18 :: x19 :: x20 :: some v :: r) := ⟨rfl⟩
instance lk22 : LkS (x0 :: x1 :: x2 :: x3 :: x4 :: x5 :: x6 :: x7 :: x8 :: x9 :: x10 :: x11 :: x12 :: x13 :: x14 :: x15 :: x16 :: x17 :: x18 :: x19 :: x20 :: x21 :: some v :: r) 22 v := ⟨rfl⟩
instance ss22 : SetS (x0 :: x1 :: x2 :: x3 :: x4 :: x5 :: x6 :: x7 :: x8 :: x9 :: x10 :: x11 :: x12 :: x13 :: x14 :: x15 :: x16 :: x17 :: x18 :: x19 :: x20 :: x21 :: x22 :: r) 22 v (x0 :: x1 :: x2 :: x3 :: x4 :: x5 :: x6 :: x7 :: x8 :: x9 :: x10 :: x11 :: x12 :: x13 :: x14 :: x15 :: x16 :: x17 :: x18 :: x19 :: x20 :: x21 :: some v :: r) := ⟨rfl⟩
instance lk23 : LkS (x0 :: x1 :: x2 :: x3 :: x4 :: x5 :: x6 :: x7 :: x8 :: x9 :: x10 :: x11 :: x12 :: x13 :: x14 :: x15 :: x16 :: x17 :: x18 :: x19 :: x20 :: x21 :: x22 :: some v :: r) 23 v := ⟨rfl⟩
instance ss23 : SetS (x0 :: x1 :: x2 :: x3 :: x4 :: x5 :: x6 :: x7 :: x8 :: x9 :: x10 :: x11 :: x12 :: x13 :: x14 :: x15 :: x16 :: x17 :: x18 :: x19 :: x20 :: x21 :: x22 :: x23 :: r) 23 v (x0 :: x1 :: x2 :: x3 :: x4 :: x5 :: x6 :: x7 :: x8 :: x9 :: x10 :: x11 :: x12 :: x13 :: x14 :: x15 :: x16 :: x17 :: x18 :: x19 :: x20 :: x21 :: x22 :: some v :: r) := ⟨rfl⟩
instance lk24 : LkS (x0 :: x1 :: x2 :: x3 :: x4 :: x5 :: x6 :: x7 :: x8 :: x9 :: x10 :: x11 :: x12 :: x13 :: x14 :: x15 :: x16 :: x17 :: x18 :: x19 :: x20 :: x21 :: x22 :: x23 :: some v :: r) 24 v := ⟨rfl⟩
instance ss24 : SetS (x0 :: x1 :: x2 :: x3 :: x4 :: x5 :: x6 :: x7 :: x8 :: x9 :: x10 :: x11 :: x12 :: x13 :: x14 :: x15 :: x16 :: x17 :: x18 :: x19 :: x20 :: x21 :: x22 :: x23 :: x24 :: r) 24 v (x0 :: x1 :: x2 :: x3 :: x4 :: x5 :: x6 :: x7 :: x8 :: x9 :: x10 :: x11 :: x12 :: x13 :: x14 :: x15 :: x16 :: x17 :: x18 :: x19 :: x20 :: x21 :: x22 :: x23 :: some v :: r) := ⟨rfl⟩
instance lk25 : LkS (x0 :: x1 :: x2 :: x3 :: x4 :: x5 :: x6 :: x7 :: x8 :: x9 :: x10 :: x11 :: x12 :: x13 :: x14 :: x15 :: x16 :: x17 :: x18 :: x19 :: x20 :: x21 :: x22 :: x23 :: x24 :: some v :: r) 25 v := ⟨rfl⟩
instance ss25 : SetS (x0 :: x1 :: x2 :: x3 :: x4 :: x5 :: x6 :: x7 :: x8 :: x9 :: x10 :: x11 :: x12 :: x13 :: x14 :: x15 :: x16 :: x17 :: x18 :: x19 :: x20 :: x21 :: x22 :: x23 :: x24 :: x25 :: r) 25 v (x0 :: x1 :: x2 :: x3 :: x4 :: x5 :: x6 :: x7 :: x8 :: x9 :: x10 :: x11 :: x12 :: x13 :: x14 :: x15 :: x16 :: x17 :: x18 :: x19 :: x20 :: x21 :: x22 :: x23 :: x24 :: some v :: r) := ⟨rfl⟩
instance lk26 : LkS (x0 :: x1 :: x2 :: x3 :: x4 :: x5 :: x6 :: x7 :: x8 :: x9 :: x10 :: x11 :: x12 :: x13 :: x14 :: x15 :: x16 :: x17 :: x18 :: x19 :: x20 :: x21 :: x22 :: x23 :: x24 :: x25 :: some v :: r) 26 v := ⟨rfl⟩
instance ss26 : SetS (x0 :: x1 :: x2 :: x3 :: x4 :: x5 :: x6 :: x7 :: x8 :: x9 :: x10 :: x11 :: x12 :: x13 :: x14 :: x15 :: x16 :: x17 :: x18 :: x19 :: x20 :: x21 :: x22 :: x23 :: x24 :: x25 :: x26 :: r) 26 v (x0 :: x1 :: x2 :: x3 :: x4 :: x5 :: x6 :: x7 :: x8 :: x9 :: x10 :: x11 :: x12 :: x13 :: x14 :: x15 :: x16 :: x17 :: x18 :: x19 :: x20 :: x21 :: x22 :: x23 :: x24 :: x25 :: some v :: r) := ⟨rfl⟩
instance lk27 : LkS (x0 :: x1 :: x2 :: x3 :: x4 :: x5 :: x6 :: x7 :: x8 :: x9 :: x10 :: x11 :: x12 :: x13 :: x14 :: x15 :: x16 :: x17 :: x18 :: x19 :: x20 :: x21 :: x22 :: x23 :: x24 :: x25 :: x26 :: some v :: r) 27 v := ⟨rfl⟩
instance ss27 : SetS (x0 :: x1 :: x2 :: x3 :: x4 :: x5 :: x6 :: x7 :: x8 :: x9 :: x10 :: x11 :: x12 :: x13 :: x14 :: x15 :: x16 :: x17 :: x18 :: x19 :: x20 :: x21 :: x22 :: x23 :: x24 :: x25 :: x26 :: x27 :: r) 27 v (x0 :: x1 :: x2 :: x3 :: x4 :: x5 :: x6 :: x7 :: x8 :: x9 :: x10 :: x11 :: x12 :: x13 :: x14 :: x15 :: x16 :: x17 :: x18 :: x19 :: x20 :: x21 :: x22 :: x23 :: x24 :: x25 :: x26 :: some v :: r) := ⟨rfl⟩
instance lk28 : LkS (x0 :: x1 :: x2 :: x3 :: x4 :: x5 :: x6 :: x7 :: x8 :: x9 :: x10 :: x11 :: x12 :: x13 :: x14 :: x15 :: x16 :: x17 :: x18 :: x19 :: x20 :: x21 :: x22 :: x23 :: x24 :: x25 :: x26 :: x27 :: some v :: r) 28 v := ⟨rfl⟩
instance ss28 : SetS (x0 :: x1 :: x2 :: x3 :: x4 :: x5 :: x6 :: x7 :: x8 :: x9 :: x10 :: x11 :: x12 :: x13 :: x14 :: x15 :: x16 :: x17 :: x18 :: x19 :: x20 :: x21 :: x22 :: x23 :: x24 :: x25 :: x26 :: x27 :: x28 :: r) 28 v (x0 :: x1 :: x2 :: x3 :: x4 :: x5 :: x6 :: x7 :: x8 :: x9 :: x10 :: x11 :: x12 :: x13 :: x14 :: x15 :: x16 :: x17 :: x18 :: x19 :: x20 :: x21 :: x22 :: x23 :: x24 :: x25 :: x26 :: x27 :: some v :: r) := ⟨rfl⟩
instance lk29 : LkS (x0 :: x1 :: x2 :: x3 :: x4 :: x5 :: x6 :: x7 :: x8 :: x9 :: x10 :: x11 :: x12 :: x13 :: x14 :: x15 :: x16 :: x17 :: x18 :: x19 :: x20 :: x21 :: x22 :: x23 :: x24 :: x25 :: x26 :: x27 :: x28 :: some v :: r) 29 v := ⟨rfl⟩
instance ss29 : SetS (x0 :: x1 :: x2 :: x3 :: x4 :: x5 :: x6 :: x7 :: x8 :: x9 :: x10 :: x11 :: x12 :: x13 :: x14 :: x15 :: x16 :: x17 :: x18 :: x19 :: x20 :: x21 :: x22 :: x23 :: x24 :: x25 :: x26 :: x27 :: x28 :: x29 :: r) 29 v (x0 :: x1 :: x2 :: x3 :: x4 :: x5 :: x6 :: x7 :: x8 :: x9 :: x10 :: x11 :: x12 :: x13 :: x14 :: x15 :: x16 :: x17 :: x18 :: x19 :: x20 :: x21 :: x22 :: x23 :: x24 :: x25 :: x26 :: x27 :: x28 :: some v :: r) := ⟨rfl⟩
end
section
variable {σ τ ρ : L2.St} {H : Hp} {Q : VK} {nx : L2.St → Hp → Prop} {rt : VK} {bk ct : L2.St → Hp → Prop} {K : PySem.W.Frag} {C B fI a : Addr} {f : Str} {D : Ends}
instance f_gname {i : Nat} {v : V} {R : L2.St → Hp → Prop} [s : SetS σ i v τ] : St (gName i v σ H R) (R τ H) := ⟨fun h => i_gname (by rw [s.h]; exact h)⟩
instance f_var {i : Nat} {v : V} [s : LkS σ i v] : St (tVar i σ H Q) (Q v H) := ⟨i_var s.h⟩
instance f_seq {t u : TS} : St (tSeq t u ⟨nx, rt, bk, ct⟩ σ H) (t ⟨fun σ H => u ⟨nx, rt, bk, ct⟩ σ H, rt, bk, ct⟩ σ H) := ⟨i_seq⟩
instance f_asg {te : TE} {g : TG} : St (tAsg te g ⟨nx, rt, bk, ct⟩ σ H) (te σ H fun x H1 => g x σ H1 nx) := ⟨i_asg⟩
instance f_ifS {c : TT} {t u : TS} : St (tIfS c t u ⟨nx, rt, bk, ct⟩ σ H) (c σ H fun b H1 => if b = true then t ⟨nx, rt, bk, ct⟩ σ H1 else u ⟨nx, rt, bk, ct⟩ σ H1) := ⟨i_ifS⟩
instance f_ret {te : TE} : St (tRet te ⟨nx, rt, bk, ct⟩ σ H) (te σ H rt) := ⟨i_ret⟩
instance f_retN  : St (tRetN ⟨nx, rt, bk, ct⟩ σ H) (rt .non H) := ⟨i_retN⟩
instance f_drop {te : TE} : St (tDrop te ⟨nx, rt, bk, ct⟩ σ H) (te σ H fun _ H1 => nx σ H1) := ⟨i_drop⟩
instance f_next  : St (tNext ⟨nx, rt, bk, ct⟩ σ H) (nx σ H) := ⟨i_next⟩
instance f_brk  : St (tBreak ⟨nx, rt, bk, ct⟩ σ H) (bk σ H) := ⟨i_brk⟩
instance f_cnt  : St (tCont ⟨nx, rt, bk, ct⟩ σ H) (ct σ H) := ⟨i_cnt⟩
instance f_par {i j : Nat} {ta : TA} : St (tPar i j ta ⟨nx, rt, bk, ct⟩ σ H) (ta σ H fun vs H1 => ∃ v w, vs = [v, w] ∧ nx ((σ.set i (some v)).set j (some w)) H1) := ⟨i_par⟩
instance f_par2 {v w : V} {P : V → V → Prop} : St ((∃ v' w', [v, w] = [v', w'] ∧ P v' w')) (P v w) := ⟨i_par2⟩
instance f_dput {td ty tv : TE} : St (sDPut td ty tv ⟨nx, rt, bk, ct⟩ σ H) (tv σ H fun v H1 => td σ H1 fun x H2 => ty σ H2 fun y H3 => ∃ a H4, x = .ref a ∧ DPut H3 a y v H4 ∧ nx σ H4) := ⟨i_dput⟩
instance f_c {v : V} : St (tC v σ H Q) (Q v H) := ⟨i_c⟩
instance f_op {r : R2} {ta tb : TE} : St (tOp r ta tb σ H Q) (ta σ H fun x H1 => tb σ H1 fun y H2 => r x y H2 Q) := ⟨i_op⟩
instance f_un {r : V → Hp → VK → Prop} {ta : TE} : St (tUn r ta σ H Q) (ta σ H fun x H1 => r x H1 Q) := ⟨i_un⟩
instance f_rU {g : Int → V} {i : Int} : St (rU g (.int i) H Q) (Q (g i) H) := ⟨i_rU⟩
instance f_rI0 {g : Int → Int → V} {i j : Int} : St (rI0 g (.int i) (.int j) H Q) (Q (g i j) H) := ⟨i_rI0⟩
instance f_test {t : TE} {R : Bool → Hp → Prop} : St (tTest t σ H R) (t σ H fun x H' => ∃ k, x = .bl k ∧ R k H') := ⟨i_test⟩
instance f_B {t : TE} {R : Bool → Hp → Prop} : St (tB t σ H R) (t σ H fun x H' => ∃ k, x = .bl k ∧ R k H') := ⟨i_B⟩
instance f_bl {b : Bool} {R : Bool → Prop} : St ((∃ k, V.bl b = .bl k ∧ R k)) (R b) := ⟨i_bl⟩
instance f_tru {K : PySem.W.Frag} {te : TE} {R : Bool → Hp → Prop} : St (tTru K te σ H R) (te σ H fun x H' => ∃ k, TruV K x H' k ∧ R k H') := ⟨i_tru⟩
instance f_truB {K : PySem.W.Frag} {b : Bool} {R : Bool → Prop} : St ((∃ k, TruV K (.bl b) H k ∧ R k)) (R b) := ⟨i_truB⟩
instance f_and {t u : TT} {R : Bool → Hp → Prop} : St (tAnd t u σ H R) (t σ H fun c H1 => if c = true then u σ H1 R else R false H1) := ⟨i_and⟩
instance f_or {t u : TT} {R : Bool → Hp → Prop} : St (tOr t u σ H R) (t σ H fun c H1 => if c = true then R true H1 else u σ H1 R) := ⟨i_or⟩
instance f_not {t : TT} {R : Bool → Hp → Prop} : St (tNot t σ H R) (t σ H fun c H1 => R (!c) H1) := ⟨i_not⟩
instance f_andV {ta tb : TE} : St (tAndV ta tb σ H Q) (ta σ H fun x H1 => ∃ c, x = .bl c ∧ if c = true then tb σ H1 Q else Q (.bl false) H1) := ⟨i_andV⟩
instance f_orV {ta tb : TE} : St (tOrV ta tb σ H Q) (ta σ H fun x H1 => ∃ c, x = .bl c ∧ if c = true then Q (.bl true) H1 else tb σ H1 Q) := ⟨i_orV⟩
instance f_notV {ta : TE} : St (tNotV ta σ H Q) (ta σ H fun x H1 => ∃ c, x = .bl c ∧ Q (.bl (!c)) H1) := ⟨i_notV⟩
instance f_if {t : TT} {ta tb : TE} : St (tIf t ta tb σ H Q) (t σ H fun c H1 => if c = true then ta σ H1 Q else tb σ H1 Q) := ⟨i_if⟩
instance f_call {sp : Sp} {E : XK} {t : TA} : St (tCall sp [] E t σ H Q) (t σ H fun vs H1 => sp (vs ++ []) H1 Q E) := ⟨i_call⟩
instance f_meth {C : Addr} {m : Str} {sp : Sp} {E : XK} {ta : TE} {t : TA} : St (tMeth C m sp [] E ta t σ H Q) (ta σ H fun x H1 => ∃ a dx fs, x = .ref a ∧ H1 a = some (.ins C dx fs) ∧ fs.lookup m = none ∧ t σ H1 fun vs H2 => sp (x :: (vs ++ [])) H2 Q E) := ⟨i_meth⟩
instance f_cb {r : List V → Hp → VK → Prop} {t : TA} : St (tCB r t σ H Q) (t σ H fun vs H1 => r vs H1 Q) := ⟨i_cb⟩
instance f_cons {ta : TE} {tr : TA} {R : List V → Hp → Prop} : St (tCons ta tr σ H R) (ta σ H fun x H1 => tr σ H1 fun xs H2 => R (x :: xs) H2) := ⟨i_cons⟩
instance f_nil {R : List V → Hp → Prop} : St (tNil σ H R) (R [] H) := ⟨i_nil⟩
instance f_bml {r : V → List V → Hp → VK → Prop} {to : TE} {t : TA} : St (tBML r to t σ H Q) (to σ H fun x H1 => isL x H1 ∧ t σ H1 fun xs H2 => r x xs H2 Q) := ⟨i_bml⟩
instance f_gsub {to ti : TE} {t : TSet} {v : V} {R : L2.St → Hp → Prop} : St (gSub to ti t v σ H R) (to σ H fun o H1 => ti σ H1 fun i H2 => t o i v H2 fun H3 => R σ H3) := ⟨i_gsub⟩
instance f_gcons {t : TG} {u : TGs} {v : V} {vs : List V} {R : L2.St → Hp → Prop} : St (gCons t u (v :: vs) σ H R) (t v σ H fun σ' H' => u vs σ' H' R) := ⟨i_gcons⟩
instance f_gnil {R : L2.St → Hp → Prop} : St (gNil [] σ H R) (R σ H) := ⟨i_gnil⟩
instance f_sl {r : V → Option Int → Option Int → Hp → VK → Prop} {te : TE} {tl th : TO} : St (tSl r te tl th σ H Q) (te σ H fun x H1 => tl σ H1 fun l H2 => th σ H2 fun u H3 => r x l u H3 Q) := ⟨i_sl⟩
instance f_nop {R : Option Int → Hp → Prop} : St (tNoPart σ H R) (R none H) := ⟨i_nop⟩
instance f_part {t : TE} {R : Option Int → Hp → Prop} : St (tPart t σ H R) (t σ H fun x H1 => ∃ i, x = .int i ∧ R (some i) H1) := ⟨i_part⟩
instance f_prt {i : Int} {R : Int → Prop} : St ((∃ j, V.int i = .int j ∧ R j)) (R i) := ⟨i_prt⟩
instance f_isN {x : V} : St (rIsN x .non H Q) (Q (.bl (decide (x = .non))) H) := ⟨i_isN⟩
instance f_notN {x : V} : St (rNotN x .non H Q) (Q (.bl (!decide (x = .non))) H) := ⟨i_notN⟩
instance f_yes {R : Bool → Hp → Prop} : St (tYes σ H R) (R true H) := ⟨i_yes⟩
instance f_tt {A B : Prop} : St ((if true = true then A else B)) (A) := ⟨i_tt⟩
instance f_ff {A B : Prop} : St ((if false = true then A else B)) (B) := ⟨i_ff⟩
instance f_ntt {A B : Prop} : St ((if (!true) = true then A else B)) (B) := ⟨i_ntt⟩
instance f_nff {A B : Prop} : St ((if (!false) = true then A else B)) (A) := ⟨i_nff⟩
instance f_dnI {i : Int} {A B : Prop} : St ((if decide (V.int i = V.non) = true then A else B)) (B) := ⟨i_dnI⟩
instance f_nyI {i : Int} {A B : Prop} : St ((if (!decide (V.int i = V.non)) = true then A else B)) (A) := ⟨i_nyI⟩
instance f_dnR {i : Addr} {A B : Prop} : St ((if decide (V.ref i = V.non) = true then A else B)) (B) := ⟨i_dnR⟩
instance f_nyR {i : Addr} {A B : Prop} : St ((if (!decide (V.ref i = V.non)) = true then A else B)) (A) := ⟨i_nyR⟩
instance f_dnS {i : Str} {A B : Prop} : St ((if decide (V.str i = V.non) = true then A else B)) (B) := ⟨i_dnS⟩
instance f_nyS {i : Str} {A B : Prop} : St ((if (!decide (V.str i = V.non)) = true then A else B)) (A) := ⟨i_nyS⟩
instance f_addI {a b : Int} : St (rAddA (.int a) (.int b) H Q) (Q (.int (a + b)) H) := ⟨i_addI⟩
instance f_eqI {K : PySem.W.Frag} {a b : Int} : St (rEqA K (.int a) (.int b) H Q) (Q (.bl (decide (a = b))) H) := ⟨i_eqI⟩
instance f_neI {K : PySem.W.Frag} {a b : Int} : St (rNeA K (.int a) (.int b) H Q) (Q (.bl (!decide (a = b))) H) := ⟨i_neI⟩
instance f_eqS {K : PySem.W.Frag} {a b : Str} : St (rEqA K (.str a) (.str b) H Q) (Q (.bl (decide (a = b))) H) := ⟨i_eqS⟩
instance f_neS {K : PySem.W.Frag} {a b : Str} : St (rNeA K (.str a) (.str b) H Q) (Q (.bl (!decide (a = b))) H) := ⟨i_neS⟩
instance f_intI {i : Int} : St (rIntA [.int i] H Q) (Q (.int i) H) := ⟨i_intI⟩
instance f_intB {k : Bool} : St (rIntA [.bl k] H Q) (Q (.int (if k = true then 1 else 0)) H) := ⟨i_intB⟩
instance f_abs {i : Int} : St (rAbsA [.int i] H Q) (Q (.int (if i < 0 then -i else i)) H) := ⟨i_abs⟩
instance f_isiIB {i : Int} : St (rIsiA [.int i, .ty "bool"] H Q) (Q (.bl false) H) := ⟨i_isiIB⟩
instance f_isiNB  : St (rIsiA [.non, .ty "bool"] H Q) (Q (.bl false) H) := ⟨i_isiNB⟩
instance f_isiBB {k : Bool} : St (rIsiA [.bl k, .ty "bool"] H Q) (Q (.bl true) H) := ⟨i_isiBB⟩
instance f_dget {td ty : TE} : St (tDGet td ty σ H Q) (td σ H fun x H1 => ty σ H1 fun y H2 => ∃ a v, x = .ref a ∧ DGet H2 a y (some v) ∧ Q v H2) := ⟨i_dget⟩
instance f_disp {trs : List (TE × TE)} : St (tDisp trs σ H Q) (∀ p, H p = none → tPairs trs σ (upd H p (.dK [])) fun ps H2 => H2 p = some (.dK []) ∧ ∃ kvs : List (Key × V), ps = kvs.map (fun kv => (kV kv.1, kv.2)) ∧ kvs.length ≤ 15 ∧ Q (.ref p) (upd H2 p (.dK (mergeK [] kvs)))) := ⟨i_disp⟩
instance f_pcons {tk tv : TE} {r : List (TE × TE)} {R : List (V × V) → Hp → Prop} : St (tPairs ((tk, tv) :: r) σ H R) (tk σ H fun x H1 => tv σ H1 fun y H2 => tPairs r σ H2 fun ps H3 => R ((x, y) :: ps) H3) := ⟨i_pcons⟩
instance f_pnil {R : List (V × V) → Hp → Prop} : St (tPairs [] σ H R) (R [] H) := ⟨i_pnil⟩
instance f_neN {K : PySem.W.Frag} : St (rNeA K .non .non H Q) (Q (.bl false) H) := ⟨i_neN⟩
instance f_eqN {K : PySem.W.Frag} : St (rEqA K .non .non H Q) (Q (.bl true) H) := ⟨i_eqN⟩
instance f_neB {K : PySem.W.Frag} {a b : Bool} : St (rNeA K (.bl a) (.bl b) H Q) (Q (.bl (!decide (a = b))) H) := ⟨i_neB⟩
instance f_eqB {K : PySem.W.Frag} {a b : Bool} : St (rEqA K (.bl a) (.bl b) H Q) (Q (.bl (decide (a = b))) H) := ⟨i_eqB⟩
instance f_for {wi : TI} {g : TG} {tb : TS} : St (tFor wi g tb ⟨nx, rt, bk, ct⟩ σ H) (wi σ H fun J H1 => ∃ W : Nat → Nat → L2.St → Hp → Prop, (∃ m, W 0 m σ H1) ∧ ∀ i m σ H, W i m σ H → (J.stop i H ∧ nx σ H) ∨ (J.go i H ∧ ∃ N : L2.St → Hp → Prop, (∀ σ' H', N σ' H' → ∃ m', m' < m ∧ W (i + 1) m' σ' H') ∧ ∀ x H', J.yld i H x H' → g x σ H' fun σ2 H2 => tb ⟨N, rt, nx, N⟩ σ2 H2)) := ⟨i_for⟩
instance f_ilist {K : PySem.W.Frag} {tl : TE} {R : It → Hp → Prop} : St (iList K tl σ H R) (tl σ H fun x H1 => ∃ a, x = .ref a ∧ (∃ xs, SqL K H1 a xs) ∧ R (Itl K a) H1) := ⟨i_ilist⟩
instance f_itup {K : PySem.W.Frag} {tl : TE} {R : It → Hp → Prop} : St (iTup K tl σ H R) (tl σ H fun x H1 => ∃ a, x = .ref a ∧ (∃ xs, SqT K H1 a xs) ∧ R (Itt K a) H1) := ⟨i_itup⟩
instance f_rng1 {ta : TA} {R : It → Hp → Prop} : St (iRng1 ta σ H R) (ta σ H fun vs H1 => ∃ j : Int, vs = [.int j] ∧ -(2 ^ 62) ≤ j ∧ j < 2 ^ 62 ∧ R (Itr 0 j.toNat) H1) := ⟨i_rng1⟩
instance f_rng2 {ta : TA} {R : It → Hp → Prop} : St (iRng2 ta σ H R) (ta σ H fun vs H1 => ∃ i j : Int, vs = [.int i, .int j] ∧ (-(2 ^ 62) ≤ i ∧ i < 2 ^ 62 ∧ -(2 ^ 62) ≤ j ∧ j < 2 ^ 62) ∧ R (Itr i (j - i).toNat) H1) := ⟨i_rng2⟩
instance f_ex1 {j : Int} {R : Int → Prop} : St ((∃ i : Int, [V.int j] = [.int i] ∧ R i)) (R j) := ⟨i_ex1⟩
instance f_ex2 {i j : Int} {R : Int → Int → Prop} : St ((∃ i' j' : Int, [V.int i, V.int j] = [.int i', .int j'] ∧ R i' j')) (R i j) := ⟨i_ex2⟩
instance f_exr {p : Addr} {R : Addr → Prop} : St ((∃ a, V.ref p = .ref a ∧ R a)) (R p) := ⟨i_exr⟩
instance f_fld {K : PySem.W.Frag} {ta : TE} {f : Str} : St (tFld K ta f σ H Q) (ta σ H fun x H1 => ∃ a C dx fs v, x = .ref a ∧ H1 a = some (.ins C dx fs) ∧ Cls K C ∧ NoAttr K C f ∧ fs.lookup f = some v ∧ Q v H1) := ⟨i_fld⟩
instance f_lc {wi : TI} {g : TG} {tt : TT} {te : TE} {vs : List Nat} : St (tLc wi g tt te vs σ H Q) (wi σ H fun J H1 => ∀ D, H1 D = none → ∃ W : Nat → Nat → Hp → Prop, (∃ m, W 0 m (upd H1 D (.lst []))) ∧ ∀ i m H, W i m H → (J.stop i H ∧ Q (.ref D) H) ∨ (J.go i H ∧ ∃ Nx : Hp → Prop, (∀ H', Nx H' → ∃ m', m' < m ∧ W (i + 1) m' H') ∧ ∀ x H', J.yld i H x H' → g x (wipe σ vs) H' fun σ2 H2 => wipe σ2 vs = wipe σ vs ∧ tt σ2 H2 fun b H3 => if b = true then te σ2 H3 fun y H4 => ∃ acc, H4 D = some (.lst acc) ∧ acc.length < sizeLine ∧ Nx (upd H4 D (.lst (acc ++ [y]))) else Nx H3)) := ⟨i_lc⟩
instance f_tupN {t : TA} : St (tTup t σ H Q) (t σ H fun xs H1 => xs.length ≤ sizeLine ∧ NewO (.tup xs) H1 Q) := ⟨i_tupN⟩
instance f_lstN {t : TA} : St (tLst t σ H Q) (t σ H fun xs H1 => xs.length ≤ sizeLine ∧ NewO (.lst xs) H1 Q) := ⟨i_lstN⟩
instance f_dnewN  : St (tDNewK σ H Q) (NewO (.dK []) H Q) := ⟨i_dnewN⟩
instance f_fldSN {K : PySem.W.Frag} {ta tv : TE} {f : Str} {nx : L2.St → Hp → Prop} {rt : VK} {bk ct : L2.St → Hp → Prop} : St (sFld K ta tv f ⟨nx, rt, bk, ct⟩ σ H) (tv σ H fun y H1 => ta σ H1 fun x H2 => FldS K x f y H2 fun H3 => nx σ H3) := ⟨i_fldSN⟩
instance f_makeN {C : Addr} {sp : Sp} {E : XK} {t : TA} : St (tMake C sp [] E t σ H Q) (t σ H fun vs H1 => NewI C sp (vs ++ []) H1 Q E) := ⟨i_makeN⟩
instance f_mkd {R : Prop} : St ((V.non = V.non ∧ R)) (R) := ⟨i_mkd⟩
instance f_gfld {K : PySem.W.Frag} {ta : TE} {f : Str} {v : V} {R : L2.St → Hp → Prop} : St (gFld K ta f v σ H R) (ta σ H fun x H1 => FldS K x f v H1 fun H2 => R σ H2) := ⟨i_gfld⟩
instance f_isB {a b : Bool} : St (rIsB (.bl a) (.bl b) H Q) (Q (.bl (decide (a = b))) H) := ⟨i_isB⟩
instance f_notB {a b : Bool} : St (rNotB (.bl a) (.bl b) H Q) (Q (.bl (!decide (a = b))) H) := ⟨i_notB⟩
instance f_bm {K : PySem.W.Frag} {T : String} {r : V → List V → Hp → VK → Prop} {to : TE} {t : TA} : St (tBM K T r to t σ H Q) (to σ H fun x H1 => tyV K T x H1 ∧ t σ H1 fun xs H2 => r x xs H2 Q) := ⟨i_bm⟩
instance f_tyS {z : Str} {R : Prop} : St (tyV K "str" (.str z) H ∧ R) (R) := ⟨i_tyS⟩
instance f_raiseX {W : WX} {te : TE} : St (tRaiseX K C B fI f W te D σ H) (te σ H fun v H1 => MkS K C B fI f v H1 fun cls d H' => W cls d σ H') := ⟨i_raiseX⟩
instance f_callS {sp : Sp} {E : L2.St → XK} {t : TA} : St (tCallS sp E t σ H Q) (t σ H fun vs H1 => sp vs H1 Q (E σ)) := ⟨i_callS⟩
instance f_methS {m : Str} {sp : Sp} {E : L2.St → XK} {to : TE} {t : TA} : St (tMethS C m sp E to t σ H Q) (to σ H fun x H1 => ∃ a dx fs, x = .ref a ∧ H1 a = some (.ins C dx fs) ∧ fs.lookup m = none ∧ t σ H1 fun vs H2 => sp (x :: vs) H2 Q (E σ)) := ⟨i_methS⟩
instance f_txf {cls : Value} {d : Option Addr} {te : TE} : St (tXf a cls d C f te σ H Q) (te σ H fun x H1 => x = .ref a ∧ cls = .ref C ∧ ∃ (dd : Addr) (fs : List (Str × V)) (v : V), d = some dd ∧ H1 dd = some (.xd fs) ∧ fs.lookup f = some v ∧ Q v H1) := ⟨i_txf⟩
instance f_rng3 {ta : TA} {R : It → Hp → Prop} : St (iRng3 ta σ H R) (ta σ H fun vs H1 => ∃ (i j c : Int) (n : Nat), vs = [.int i, .int j, .int c] ∧ RgC i j c n ∧ R (Itc i c n) H1) := ⟨i_rng3⟩
instance f_dnin {ty td : TE} : St (tDNotIn ty td σ H Q) (ty σ H fun y H1 => td σ H1 fun x H2 => ∃ a o, x = .ref a ∧ DGet H2 a y o ∧ Q (.bl (!o.isSome)) H2) := ⟨i_dnin⟩
instance f_dget2 {td ty tx : TE} : St (tDGet2 td ty tx σ H Q) (td σ H fun x H1 => ∃ a, x = .ref a ∧ IsD H1 a ∧ ty σ H1 fun y H2 => tx σ H2 fun z H3 => ∃ o, DGet H3 a y o ∧ Q (o.getD z) H3) := ⟨i_dget2⟩
instance f_dnewT  : St (tDNewT σ H Q) (NewO (.dT []) H Q) := ⟨i_dnewT⟩
instance f_keys {td : TE} {R : It → Hp → Prop} : St (iKeys td σ H R) (td σ H fun x H1 => ∃ d o, x = .ref d ∧ ((∃ kvs, H1 d = some (.frz o (.dK kvs)) ∧ R (Itk d o kvs) H1) ∨ ∃ kvs, H1 d = some (.frz o (.dT kvs)) ∧ R (Itkt d o kvs) H1)) := ⟨i_keys⟩
instance f_min2 {i j : Int} : St (rMin2 [.int i, .int j] H Q) (Q (.int (if j < i then j else i)) H) := ⟨i_min2⟩
instance f_max2 {i j : Int} : St (rMax2 [.int i, .int j] H Q) (Q (.int (if j > i then j else i)) H) := ⟨i_max2⟩
instance f_enum {ta : TA} {R : It → Hp → Prop} : St (iEnum K ta σ H R) (ta σ H fun vs H1 => ∃ a xs, vs = [.ref a] ∧ SqL K H1 a xs ∧ R (Ite K a) H1) := ⟨i_enum⟩
instance f_rev {ta : TA} {R : It → Hp → Prop} : St (iRev K ta σ H R) (ta σ H fun vs H1 => ∃ (a : Addr) (xs : List V), vs = [.ref a] ∧ SqL K H1 a xs ∧ R (Itv K a xs.length) H1) := ⟨i_rev⟩
instance f_ckw {r : List V → List V → Hp → VK → Prop} {t tk : TA} {σ : L2.St} {H : Hp} {Q : VK} : St (tCKw r t tk σ H Q) (t σ H fun vs H1 => tk σ H1 fun zs H2 => r vs zs H2 Q) := ⟨i_ckw⟩
-- 109
end
end Lb
set_option Elab.async false
set_option linter.all false
set_option maxRecDepth 100000
set_option maxHeartbeats 4000000
/-! Lj: zip of two lists, comprehensions over range(i, j), not in of a tuple. Knows no program. -/
namespace Lb
open PySem PySem.Spec PyProof.Rows L2
section
variable {K : PySem.W.Frag} {a b D : Addr} {xs ys : List V} {g : TG} {tb : TS} {σ : L2.St} {H : Hp} {Q : VK} {nx : L2.St → Hp → Prop} {rt : VK} {tt : TT} {te : TE} {v : Nat} {Qd : Hp → Prop}
instance f_zip {ta : TA} {R : It → Hp → Prop} : St (iZip K ta σ H R) (ta σ H fun vs H1 => ∃ a b xs ys, vs = [.ref a, .ref b] ∧ SqL K H1 a xs ∧ SqL K H1 b ys ∧ R (Itz K a b) H1) := ⟨fun h => h⟩
/-- for x, y in zip(a, b), lists of one length that stay -/
theorem i_forZ (ha : H a = some (.lst xs)) (hb : H b = some (.lst ys)) (he : xs.length = ys.length) (Pv : Nat → L2.St → Hp → Prop) (h0 : Pv 0 σ H) (hl : ∀ i σ H, Pv i σ H → SqL K H a xs ∧ SqL K H b ys)
    (hs : ∀ i x y T σ H, xs[i]? = some x → ys[i]? = some y → H T = none → Pv i σ H → g (.ref T) σ (upd H T (.tup [x, y])) fun σ2 H2 => tb ⟨Pv (i + 1), rt, nx, Pv (i + 1)⟩ σ2 H2) (hd : ∀ σ H, Pv xs.length σ H → nx σ H) :
    ∃ a' b' xs' ys', [V.ref a, V.ref b] = [V.ref a', V.ref b'] ∧ SqL K H a' xs' ∧ SqL K H b' ys' ∧ ∃ W : Nat → Nat → L2.St → Hp → Prop, (∃ m, W 0 m σ H) ∧ ∀ i m σ H, W i m σ H → ((Itz K a' b').stop i H ∧ nx σ H) ∨ ((Itz K a' b').go i H ∧ ∃ N : L2.St → Hp → Prop, (∀ σ' H', N σ' H' → ∃ m', m' < m ∧ W (i + 1) m' σ' H') ∧ ∀ x H', (Itz K a' b').yld i H x H' → g x σ H' fun σ2 H2 => tb ⟨N, rt, nx, N⟩ σ2 H2) := by
  refine ⟨a, b, xs, ys, rfl, SqL.of ha, SqL.of hb, fun i m σ H => m = xs.length - i ∧ i ≤ xs.length ∧ Pv i σ H, ⟨xs.length, by simp, Nat.zero_le _, h0⟩, ?_⟩
  rintro i m σ H ⟨rfl, hi, pv⟩
  obtain ⟨q1, q2⟩ := hl i σ H pv
  by_cases hlt : i < xs.length
  · have h2 : i < ys.length := by omega
    refine .inr ⟨⟨xs, ys, xs[i], ys[i], q1, q2, by simp [hlt], by simp [h2]⟩, Pv (i + 1), fun σ' H' p' => ⟨xs.length - (i + 1), by omega, rfl, hlt, p'⟩, fun x H' y => ?_⟩
    obtain ⟨T, u, z, rfl, hT, rfl, y1, y2⟩ := y
    exact hs i u z T σ _ (y1 xs q1) (y2 ys q2) hT pv
  · have e : i = xs.length := by omega
    subst e
    exact .inl ⟨⟨xs, ys, q1, q2, .inl (Nat.le_refl _)⟩, hd σ H pv⟩
/-- a comprehension over range(lo, j) -/
theorem i_lcR2 {lo j : Int} (n : Nat) (hj : (j - lo).toNat = n) (Pv : Nat → Hp → Prop) (h0 : Pv 0 (upd H D (.lst [])))
    (hs : ∀ (i : Nat) H, i < n → Pv i H → tt (σ.set v (some (.int (lo + i)))) H fun b H3 => if b = true then te (σ.set v (some (.int (lo + i)))) H3 fun y H4 => ∃ acc, H4 D = some (.lst acc) ∧ acc.length < sizeLine ∧ Pv (i + 1) (upd H4 D (.lst (acc ++ [y]))) else Pv (i + 1) H3)
    (hd : ∀ H, Pv n H → Qd H) :
    ∃ W : Nat → Nat → Hp → Prop, (∃ m, W 0 m (upd H D (.lst []))) ∧ ∀ i m H, W i m H → ((Itr lo (j - lo).toNat).stop i H ∧ Qd H) ∨ ((Itr lo (j - lo).toNat).go i H ∧ ∃ Nx : Hp → Prop, (∀ H', Nx H' → ∃ m', m' < m ∧ W (i + 1) m' H') ∧ ∀ x H', (Itr lo (j - lo).toNat).yld i H x H' → gName v x (wipe σ [v]) H' fun σ2 H2 => wipe σ2 [v] = wipe σ [v] ∧ tt σ2 H2 fun b H3 => if b = true then te σ2 H3 fun y H4 => ∃ acc, H4 D = some (.lst acc) ∧ acc.length < sizeLine ∧ Nx (upd H4 D (.lst (acc ++ [y]))) else Nx H3) := by
  subst hj
  exact lc_range (lo := lo) Pv h0 (fun i H e p => by
    show wipe ((wipe σ [v]).set v (some (.int (lo + (i : Int))))) [v] = wipe σ [v] ∧ tt ((wipe σ [v]).set v (some (.int (lo + (i : Int))))) H _
    rw [wipe1]
    exact ⟨wipe2, hs i H e p⟩) hd
theorem i_notInO {p : Addr} {x : V} (h : H p = some (.tup xs)) (f : flatV x = true) (g : xs.all flatV = true) (q : Q (.bl (!inV x xs)) H) : rIn K true x (.ref p) H Q := by
  refine ⟨p, _, rfl, .inr (SqT.of h), f, g, ?_⟩
  rw [if_pos rfl]
  exact q
end
end Lb
set_option Elab.async false
set_option linter.all false
set_option maxRecDepth 100000
set_option maxHeartbeats 4000000
/-! Lq: a def that may raise, called where it does not. Knows no program. -/
namespace Lb
open PySem PySem.Spec PyProof.Rows L2
def quietS (sp : Sp) : Sp := fun vs H Q _ => sp vs H Q fun _ _ _ => False
section
variable {P : Program} {w : World} {K : PySem.W.Frag} {mg : Str → Option Value} {base : Heap} {x : Str} {k : Nat} {ps : List Str} {sp : Sp} {f C : Addr} {fd : FuncData} {m : Str}
theorem fnQuiet (F : FnOk P w K mg base (L2.CX P w) k f fd ps sp) : FnOk P w K mg base CX0 k f fd ps (quietS sp) :=
  ⟨fun vs H Q E h => F.len _ _ _ _ h, fun A outer s H args us vs Q E hr he hb hv hs => codeAny_mono (F.run A outer s H args us vs Q _ hr he hb hv hs) fun r s' h => by
    cases r with
    | error e =>
      obtain ⟨a, B, H', cls, d, _, _, _, _, _, _, _, z⟩ := h
      exact z.elim
    | ok fl => cases fl <;> exact h⟩
theorem CalX.quiet (c : CalX P w K mg base x k ps sp) : Cal P w K mg base x k ps (quietS sp) := by
  obtain ⟨f, fd, h1, h2, h3, F⟩ := c.ex
  exact ⟨⟨f, fd, h1, h2, h3, fnQuiet F⟩⟩
theorem CalMX.quiet (c : CalMX P w K mg base C m k ps sp) : CalM P w K mg base C m k ps (quietS sp) := by
  obtain ⟨f, fd, h1, h2, h3, F⟩ := c.ex
  exact ⟨⟨f, fd, h1, h2, h3, fnQuiet F⟩⟩
end
end Lb
set_option Elab.async false
set_option linter.all false
set_option maxRecDepth 100000
set_option maxHeartbeats 4000000
namespace K41
open PySem PySem.Spec PyProof.Rows L2 Lb
local macro_rules | `(tactic| fail "pm") => `(tactic| (focus ((repeat (first | exact List.Perm.refl _ | (apply Pick.perm; (solve | repeat (first | exact Pick.here | apply Pick.there))))); done)))
local macro_rules | `(tactic| fail "nk") => `(tactic| (focus ((repeat (first | exact NoK.nil | (apply NoK.cons; (solve | decide +kernel)))); done)))
local macro_rules | `(tactic| fail "pk") => `(tactic| (focus ((repeat (first | (apply PK1.here; (solve | fail "nk")) | (apply PK1.there; (solve | decide +kernel)))); done)))
local macro_rules | `(tactic| fail "vk") => `(tactic| (focus ((repeat (first | exact VK1.here | (apply VK1.there; (solve | decide +kernel)))); done)))
local macro_rules | `(tactic| fail "ur") => `(tactic| (focus ((repeat (first | exact up_rl (by assumption) | apply Up1.there | apply Up1.app)); done)))
local macro_rules | `(tactic| fail "mr") => `(tactic| (focus ((repeat (first | exact List.mem_append_left _ (mem_rl (by assumption)) | apply List.mem_append_right | apply List.mem_cons_of_mem)); done)))
local macro_rules | `(tactic| fail "h") => `(tactic| first | assumption | exact Own.mem (by assumption) (by fail "m") | exact Own.kp (by assumption) (by assumption) | exact Own.mem (by assumption) (by fail "mr"))
local macro_rules | `(tactic| fail "m") => `(tactic| (focus ((repeat (first | assumption | exact List.mem_cons_self | apply List.mem_cons_of_mem)); done)))
local macro_rules | `(tactic| fail "u") => `(tactic| (focus ((repeat (first | exact Up1.here | apply Up1.there)); done)))
local macro_rules | `(tactic| fail "p") => `(tactic| (focus ((repeat (first | exact Pre.nil | apply Pre.cons)); done)))
local macro_rules | `(tactic| fail "f") => `(tactic| (focus ((repeat (first | exact PutF.here | exact PutF.nil | (apply PutF.there; (solve | decide +kernel)))); done)))
local macro_rules | `(tactic| fail "k") => `(tactic| (focus ((repeat (first | exact LkF.here rfl | exact LkF.nil rfl | refine LkF.there (by decide +kernel) ?_)); done)))
local macro_rules | `(tactic| fail "e") => `(tactic| (focus ((repeat (first | exact StE.nil | apply StE.app | apply StE.got | apply StE.lack)); done)))
local macro_rules | `(tactic| fail "d") => `(tactic| (focus ((repeat (first | exact Dt.int _ | exact Dt.str _ | exact Dt.non | exact Dt.bl _ | exact DtAll.nil | exact DtAll.ints _ | apply DtAll.cons | (apply Dt.tup; (solve | fail "h")) | (apply Dt.lst; (solve | fail "h")))); done)))
local macro_rules | `(tactic| fail "sh") => `(tactic| (focus ((repeat (first | exact Sh.int | exact Sh.non | exact Sh.str (by decide +kernel) | exact ShA.nil | exact ShA.ints | apply ShA.cons | apply Sh.lst | apply Sh.tup)); done)))
local macro_rules | `(tactic| fail "ne") => `(tactic| (apply rd_neF; (solve | fail "d"); (solve | fail "d"); (solve | exact Sh.shp (n := 4) (by fail "sh"))))
local macro_rules | `(tactic| fail "s1") => `(tactic| with_reducible first | (apply i_dgetS; (solve | fail "h"); (solve | fail "vk")) | (apply i_dputS; (solve | assumption); (solve | fail "u"); (solve | fail "pk"); (exact (szl (by (try simp) <;> omega))); intro H O) | apply i_try | (apply i_mks; (solve | assumption)) | (apply i_isX; (solve | assumption); (solve | fail "h")) | (apply i_xf; (solve | fail "h"); (solve | fail "k")) | (apply i_tyK; (solve | assumption)) | (apply i_ixK; (solve | assumption); (solve | assumption | with_unfolding_all rfl)) | (apply i_lenK; (solve | assumption); (exact rfl)) | (apply i_tupLN; (solve | fail "h")) | (apply i_var; (solve | with_unfolding_all rfl)) | apply i_gname | (apply i_fldO; (solve | fail "h"); (solve | assumption); (solve | assumption); (solve | fail "k")) | (apply i_isiLL; (solve | fail "h")) | (apply i_isiTL; (solve | fail "h")) | (apply i_gtup; (solve | fail "h"); (solve | with_unfolding_all rfl)) | (apply i_fldSO; (solve | assumption); (solve | fail "u"); (solve | fail "f"); (solve | assumption); (solve | assumption); (solve | simp); intro H O) | (apply i_makeO; (solve | assumption); intro x dx H O) | (apply i_methO; (solve | fail "h"); (solve | fail "k")) | (apply i_listN; (solve | fail "h")) | (apply i_listTN; (solve | fail "h")) | (apply i_addN; (solve | fail "h"); (solve | fail "h"); (exact (sz (by (try simp) <;> omega)))) | (apply i_glst; (solve | fail "h"); (solve | with_unfolding_all rfl)) | (apply i_dgetI; (solve | fail "h"); (solve | assumption)) | (apply i_in; (solve | with_unfolding_all rfl); (solve | fail "e")) | (apply i_setO; (solve | assumption); (solve | fail "u"); (solve | with_unfolding_all rfl); intro H O) | (apply i_appO; (solve | assumption); (solve | fail "u"); (exact (szl (by (try simp) <;> omega))); intro H O))
local macro_rules | `(tactic| fail "sf") => `(tactic| (set_option synthInstance.maxSize 10000 in set_option synthInstance.maxHeartbeats 400000 in with_reducible apply go1))
local macro_rules | `(tactic| fail "sa") => `(tactic| with_reducible first | (apply i_ixA; (solve | fail "h"); (solve | exact .tup (by with_unfolding_all rfl) | exact .lst (by with_unfolding_all rfl) | exact IxO.lst (by assumption) | exact IxO.tup (by assumption))) | (apply i_tupO; (solve | assumption); (exact (sz (by (try simp) <;> omega))); intro p H O) | (apply i_lstO; (solve | assumption); (exact (sz (by (try simp) <;> omega))); intro p H O) | (apply i_isL; (solve | fail "h")) | (apply i_lenA; (solve | fail "h"); (solve | first | exact .lst | exact .tup | exact .dK)) | (apply i_newO; (solve | assumption); intro p H O) | (apply i_drawO; (solve | assumption); (exact rfl); (solve | decide); (solve | decide); intro r H h0 h1 O) | (apply i_inO; (solve | fail "h"); (solve | with_unfolding_all rfl); (solve | with_unfolding_all rfl)))
local macro_rules | `(tactic| fail "sb") => `(tactic| with_reducible first | (apply i_tB; (solve | decide +kernel)) | (apply i_fB; (solve | decide +kernel)))
local macro_rules | `(tactic| fail "s") => `(tactic| repeat (first | fail "sf" | fail "sa" | fail "sb" | fail "s1"))

local macro_rules | `(tactic| fail "o") => `(tactic| first | (set_option synthInstance.maxSize 10000 in set_option synthInstance.maxHeartbeats 400000 in with_reducible apply one1) | fail "sa" | fail "sb" | fail "s1")

structure Ad where
  K : PySem.W.Frag
  w : World
  c_PlanError : Addr
  c_PlacedError : Addr
  i_PlanError : Addr
  c_Plan : Addr
  f_thread_number : Addr
/-! ### the trees that the law draws -/
inductive Ex
  | num (i : Int)
  | cell (c : Nat)
  | arr (f z : Nat) (i : Ex)
  | un (o : Str) (e : Ex)
  | bin (o : Str) (x y : Ex)
def Ex.D : Ex → PyData
  | .num i => .tuple [.str "num", .int i]
  | .cell c => .tuple [.str "cell", .int (c : Nat)]
  | .arr f z i => .tuple [.str "at", .int (f : Nat), .int (z : Nat), i.D]
  | .un o e => .tuple [.str o, e.D]
  | .bin o x y => .tuple [.str o, x.D, y.D]
def opsL : List Str := ["+", "-", "*", "and", "or", "==", "!=", "<", "<=", "/", "mod"]
def unL : List Str := ["neg", "not"]
theorem ops_lay {o : Str} (h : o ∈ opsL) : PyData.canLay0 (.str o) = true := by
  have : opsL.all (fun o => PyData.canLay0 (.str o)) = true := by decide +kernel
  exact List.all_eq_true.mp this o h
theorem un_lay {o : Str} (h : o ∈ unL) : PyData.canLay0 (.str o) = true := by
  have : unL.all (fun o => PyData.canLay0 (.str o)) = true := by decide +kernel
  exact List.all_eq_true.mp this o h
def Ex.ok (C : Nat) : Ex → Prop
  | .num i => 0 ≤ i ∧ i ≤ 65535
  | .cell c => c < C
  | .arr f z i => f + z ≤ C ∧ 1 ≤ z ∧ z ≤ 4 ∧ i.ok C
  | .un o e => o ∈ unL ∧ e.ok C
  | .bin o x y => o ∈ opsL ∧ x.ok C ∧ y.ok C
theorem Ex.ok.mono {C C' : Nat} (h : C ≤ C') : ∀ {x : Ex}, x.ok C → x.ok C'
  | .num _, k => k
  | .cell _, k => Nat.lt_of_lt_of_le k h
  | .arr _ _ _, ⟨a, b, c, d⟩ => ⟨Nat.le_trans a h, b, c, d.mono h⟩
  | .un _ _, ⟨a, b⟩ => ⟨a, b.mono h⟩
  | .bin _ _ _, ⟨a, b, c⟩ => ⟨a, b.mono h, c.mono h⟩
def Ex.wt : Ex → Nat
  | .num _ => 20
  | .cell _ => 20
  | .arr _ _ i => 40 + i.wt
  | .un _ e => 30 + e.wt
  | .bin _ x y => 30 + x.wt + y.wt
def wE : Nat → Nat
  | 0 => 130
  | d + 1 => 2 * wE d + 30
structure XB (C d : Nat) (x : Ex) : Prop where
  ok : x.ok C
  wt : x.wt ≤ wE d
  sh : Sh (d + 3) x.D
theorem XB.mono {C C' d : Nat} {x : Ex} (h : XB C d x) (k : C ≤ C') : XB C' d x := ⟨h.ok.mono k, h.wt, h.sh⟩
theorem wE_le {d e : Nat} (h : d ≤ e) : wE d ≤ wE e := by
  induction h with
  | refl => exact Nat.le_refl _
  | step _ ih => exact Nat.le_trans ih (by show _ ≤ 2 * wE _ + 30; omega)
theorem XB.up {C d e : Nat} {x : Ex} (h : XB C d x) (k : d ≤ e) : XB C e x := ⟨h.ok, Nat.le_trans h.wt (wE_le k), h.sh.mono (by omega)⟩
theorem XB.bin {C d : Nat} {o : Str} {x y : Ex} (ho : o ∈ opsL) (hx : XB C d x) (hy : XB C d y) : XB C (d + 1) (.bin o x y) :=
  ⟨⟨ho, hx.ok, hy.ok⟩, by
    have := hx.wt
    have := hy.wt
    show 30 + x.wt + y.wt ≤ 2 * wE d + 30
    omega, by
    have h1 := hx.sh.mono (show d + 3 ≤ d + 3 from Nat.le_refl _)
    exact .tup (n := d + 3) (.cons (.str (ops_lay ho)) (.cons hx.sh (.cons hy.sh .nil)))⟩
theorem XB.un {C d : Nat} {o : Str} {x : Ex} (ho : o ∈ unL) (hx : XB C d x) : XB C (d + 1) (.un o x) :=
  ⟨⟨ho, hx.ok⟩, by
    have := hx.wt
    show 30 + x.wt ≤ 2 * wE d + 30
    omega, .tup (n := d + 3) (.cons (.str (un_lay ho)) (.cons hx.sh .nil))⟩
theorem XB.num {C d : Nat} {i : Int} (h0 : 0 ≤ i) (h1 : i ≤ 65535) : XB C d (.num i) := XB.up (d := 0) ⟨⟨h0, h1⟩, by show 20 ≤ 130; decide, .tup (n := 2) (.cons (.str (by decide +kernel)) (.cons .int .nil))⟩ (Nat.zero_le _)
theorem XB.cell {C d c : Nat} (h : c < C) : XB C d (.cell c) := XB.up (d := 0) ⟨h, by show 20 ≤ 130; decide, .tup (n := 2) (.cons (.str (by decide +kernel)) (.cons .int .nil))⟩ (Nat.zero_le _)
/-- a place to be set -/
inductive Ex.tg : Ex → Prop
  | cell {c : Nat} : Ex.tg (.cell c)
  | arr {f z : Nat} {i : Ex} : Ex.tg (.arr f z i)
structure AR where
  g : Option Ex
  c : Nat
  t : Ex
inductive Sm
  | skip
  | stop
  | set (t x : Ex)
  | take (c : Nat) (t : Ex)
  | give (c : Nat) (x : Ex)
  | ite (x : Ex) (a b : Sm)
  | rep (x : Ex) (m : Int) (s : Sm)
  | seq (l : List Sm)
  | par (ts : List Nat) (l : List Sm)
  | alt (rs : List AR) (l : List Sm)
def optD : Option Ex → PyData
  | none => .none
  | some x => x.D
def parD (ts : List Nat) (ds : List PyData) : List PyData := List.zipWith (fun (t : Nat) d => .tuple [.int (t : Nat), d]) ts ds
def altD (rs : List AR) (ds : List PyData) : List PyData := List.zipWith (fun r d => .tuple [optD r.g, .int (r.c : Nat), r.t.D, d]) rs ds
mutual
def Sm.D : Sm → PyData
  | .skip => .tuple [.str "skip"]
  | .stop => .tuple [.str "stop"]
  | .set t x => .tuple [.str "set", t.D, x.D]
  | .take c t => .tuple [.str "take", .int (c : Nat), t.D]
  | .give c x => .tuple [.str "give", .int (c : Nat), x.D]
  | .ite x a b => .tuple [.str "if", x.D, a.D, b.D]
  | .rep x m s => .tuple [.str "repeat", x.D, .int m, s.D]
  | .seq l => .tuple [.str "seq", .list (smDs l)]
  | .par ts l => .tuple [.str "par", .list (parD ts (smDs l))]
  | .alt rs l => .tuple [.str "alt", .list (altD rs (smDs l))]
def smDs : List Sm → List PyData
  | [] => []
  | s :: r => s.D :: smDs r
end
mutual
/-- the numbers of the threads, in the order of the text -/
def Sm.thr : Sm → List Nat
  | .ite _ a b => a.thr ++ b.thr
  | .rep _ _ s => s.thr
  | .seq l => (thrs l).flatten
  | .par ts l => (List.zipWith (fun t r => t :: r) ts (thrs l)).flatten
  | .alt _ l => (thrs l).flatten
  | _ => []
def thrs : List Sm → List (List Nat)
  | [] => []
  | s :: r => s.thr :: thrs r
end
mutual
def Sm.wt : Sm → Nat
  | .skip => 20
  | .stop => 20
  | .set t x => 20 + t.wt + x.wt
  | .take _ t => 20 + t.wt
  | .give _ x => 20 + x.wt
  | .ite x a b => 20 + x.wt + a.wt + b.wt
  | .rep x _ s => 30 + x.wt + s.wt
  | .seq l => 20 + wts l
  | .par _ l => 20 + wts l
  | .alt rs l => 20 + (rs.map fun r => (r.g.map Ex.wt).getD 10 + r.t.wt + 20).sum + wts l
def wts : List Sm → Nat
  | [] => 0
  | s :: r => s.wt + 20 + wts r
end
def AR.ok (C K : Nat) (r : AR) : Prop := (∀ x, r.g = some x → x.ok C) ∧ r.c < K ∧ r.t.ok C ∧ r.t.tg
mutual
def Sm.ok (C K : Nat) : Sm → Prop
  | .skip => True
  | .stop => True
  | .set t x => t.ok C ∧ t.tg ∧ x.ok C
  | .take c t => c < K ∧ t.ok C ∧ t.tg
  | .give c x => c < K ∧ x.ok C
  | .ite x a b => x.ok C ∧ a.ok C K ∧ b.ok C K
  | .rep x m s => x.ok C ∧ 0 ≤ m ∧ m ≤ 100 ∧ s.ok C K
  | .seq l => oks C K l
  | .par ts l => ts.length = l.length ∧ oks C K l
  | .alt rs l => rs.length = l.length ∧ (∀ r ∈ rs, r.ok C K) ∧ oks C K l
def oks (C K : Nat) : List Sm → Prop
  | [] => True
  | s :: r => s.ok C K ∧ oks C K r
end
theorem AR.ok.mono {C C' K K' : Nat} (h : C ≤ C') (k : K ≤ K') {r : AR} (o : r.ok C K) : r.ok C' K' := ⟨fun x hx => (o.1 x hx).mono h, Nat.lt_of_lt_of_le o.2.1 k, o.2.2.1.mono h, o.2.2.2⟩
mutual
theorem Sm.ok.mono {C C' K K' : Nat} (h : C ≤ C') (k : K ≤ K') : ∀ {s : Sm}, s.ok C K → s.ok C' K'
  | .skip, _ => trivial
  | .stop, _ => trivial
  | .set _ _, ⟨a, b, c⟩ => ⟨a.mono h, b, c.mono h⟩
  | .take _ _, ⟨a, b, c⟩ => ⟨Nat.lt_of_lt_of_le a k, b.mono h, c⟩
  | .give _ _, ⟨a, b⟩ => ⟨Nat.lt_of_lt_of_le a k, b.mono h⟩
  | .ite _ _ _, ⟨a, b, c⟩ => ⟨a.mono h, Sm.ok.mono h k b, Sm.ok.mono h k c⟩
  | .rep _ _ _, ⟨a, b, c, d⟩ => ⟨a.mono h, b, c, Sm.ok.mono h k d⟩
  | .seq _, a => oks.mono h k a
  | .par _ _, ⟨a, b⟩ => ⟨a, oks.mono h k b⟩
  | .alt _ _, ⟨a, b, c⟩ => ⟨a, fun r hr => (b r hr).mono h k, oks.mono h k c⟩
theorem oks.mono {C C' K K' : Nat} (h : C ≤ C') (k : K ≤ K') : ∀ {l : List Sm}, oks C K l → oks C' K' l
  | [], _ => trivial
  | _ :: _, ⟨a, b⟩ => ⟨Sm.ok.mono h k a, oks.mono h k b⟩
end
theorem smDs_app : ∀ {l m : List Sm}, smDs (l ++ m) = smDs l ++ smDs m
  | [], _ => rfl
  | s :: r, m => by show s.D :: smDs (r ++ m) = _; rw [smDs_app]; rfl
theorem thrs_app : ∀ {l m : List Sm}, thrs (l ++ m) = thrs l ++ thrs m
  | [], _ => rfl
  | s :: r, m => by show s.thr :: thrs (r ++ m) = _; rw [thrs_app]; rfl
theorem wts_app : ∀ {l m : List Sm}, wts (l ++ m) = wts l + wts m
  | [], _ => by show wts _ = 0 + _; rw [Nat.zero_add]; rfl
  | s :: r, m => by show s.wt + 20 + wts (r ++ m) = s.wt + 20 + wts r + wts m; rw [wts_app]; omega
theorem oks_app {C K : Nat} : ∀ {l m : List Sm}, oks C K l → oks C K m → oks C K (l ++ m)
  | [], _, _, k => k
  | _ :: _, _, ⟨a, b⟩, k => ⟨a, oks_app b k⟩
theorem smDs_len : ∀ {l : List Sm}, (smDs l).length = l.length
  | [] => rfl
  | s :: r => by show (s.D :: smDs r).length = _; rw [List.length_cons, smDs_len]; rfl
theorem thrs_len : ∀ {l : List Sm}, (thrs l).length = l.length
  | [] => rfl
  | s :: r => by show (s.thr :: thrs r).length = _; rw [List.length_cons, thrs_len]; rfl
/-- the threads from a to b -/
def Thr (a b : Nat) (l : List Nat) : Prop := a ≤ b ∧ l = List.range' a (b - a)
theorem Thr.nil {a : Nat} : Thr a a [] := ⟨Nat.le_refl _, by rw [Nat.sub_self]; rfl⟩
theorem Thr.app {a b c : Nat} {l m : List Nat} (h : Thr a b l) (k : Thr b c m) : Thr a c (l ++ m) := by
  have := h.1
  have := k.1
  refine ⟨by omega, ?_⟩
  rw [h.2, k.2, show c - a = (b - a) + (c - b) by omega, ← List.range'_append_1, show a + (b - a) = b by omega]
theorem Thr.cons {a b : Nat} {l : List Nat} (h : Thr (a + 1) b l) : Thr a b (a :: l) := by
  have := h.1
  refine ⟨by omega, ?_⟩
  rw [h.2, show b - a = (b - (a + 1)) + 1 by omega, List.range'_succ]
structure SB (C K n w : Nat) (s : Sm) : Prop where
  ok : s.ok C K
  wt : s.wt ≤ w
  sh : Sh n s.D
theorem SB.mono {C C' K K' n n' w w' : Nat} {s : Sm} (h : SB C K n w s) (h1 : C ≤ C') (h2 : K ≤ K') (h3 : n ≤ n') (h4 : w ≤ w') : SB C' K' n' w' s := ⟨h.ok.mono h1 h2, Nat.le_trans h.wt h4, h.sh.mono h3⟩
/-! ### what a thread may touch -/
structure En where
  cells : List Nat
  reads : List Nat
  spans : List (Nat × Nat)
  gives : List Nat
  takes : List Nat
structure En.ok (C K : Nat) (en : En) : Prop where
  c0 : en.cells ≠ []
  r0 : en.reads ≠ []
  c : ∀ k ∈ en.cells, k < C
  r : ∀ k ∈ en.reads, k < C
  s : ∀ p ∈ en.spans, p.1 + p.2 ≤ C ∧ 1 ≤ p.2 ∧ p.2 ≤ 4
  g : ∀ k ∈ en.gives, k < K
  t : ∀ k ∈ en.takes, k < K
  lc : en.cells.length ≤ C
  lr : en.reads.length ≤ C
  lS : en.spans.length ≤ 1
  lg : en.gives.length ≤ K
  lt : en.takes.length ≤ K
theorem En.ok.mono {C C' K K' : Nat} {en : En} (h : en.ok C K) (h1 : C ≤ C') (h2 : K ≤ K') : en.ok C' K' :=
  { h with
    c := fun k hk => Nat.lt_of_lt_of_le (h.c k hk) h1
    r := fun k hk => Nat.lt_of_lt_of_le (h.r k hk) h1
    s := fun p hp => ⟨Nat.le_trans (h.s p hp).1 h1, (h.s p hp).2⟩
    g := fun k hk => Nat.lt_of_lt_of_le (h.g k hk) h2
    t := fun k hk => Nat.lt_of_lt_of_le (h.t k hk) h2
    lc := Nat.le_trans h.lc h1
    lr := Nat.le_trans h.lr h1
    lg := Nat.le_trans h.lg h2
    lt := Nat.le_trans h.lt h2 }
def nv (l : List Nat) : List V := l.map fun (k : Nat) => V.int (k : Nat)
theorem nv_len {l : List Nat} : (nv l).length = l.length := List.length_map _
theorem nv_mem {l : List Nat} {v : V} (h : v ∈ nv l) : ∃ k : Nat, k ∈ l ∧ v = .int (k : Nat) := by
  obtain ⟨k, hk, rfl⟩ := List.mem_map.mp h
  exact ⟨k, hk, rfl⟩
theorem nv_get {l : List Nat} {i : Nat} {v : V} (h : (nv l)[i]? = some v) : ∃ k : Nat, l[i]? = some k ∧ v = .int (k : Nat) := by
  obtain ⟨k, h1, h2⟩ := mapGet h
  exact ⟨k, h1, h2.symm⟩
theorem nv_snoc {l : List Nat} {k : Nat} : nv l ++ [.int (k : Nat)] = nv (l ++ [k]) := by
  unfold nv
  rw [List.map_append]
  rfl
theorem nv_nil {l : List Nat} (h : l ≠ []) : nv l ≠ [] := fun e => h (List.map_eq_nil_iff.mp e)
def pz (l : List (Nat × Nat)) : List (Int × Int) := l.map fun p => ((p.1 : Int), (p.2 : Int))
abbrev enO (c r s g t : Addr) : HO := .dK [(.inr "cells", .ref c), (.inr "reads", .ref r), (.inr "spans", .ref s), (.inr "gives", .ref g), (.inr "takes", .ref t)]
structure EnvB (B : Hp) (e : Addr) (en : En) : Prop where
  ex : ∃ c r s g t sv, B e = some (enO c r s g t) ∧ B c = some (.lst (nv en.cells)) ∧ B r = some (.lst (nv en.reads)) ∧ B s = some (.lst sv) ∧ Paired (PairV B) sv (pz en.spans) ∧ B g = some (.lst (nv en.gives)) ∧ B t = some (.lst (nv en.takes))
theorem EnvB.mono {B B' : Hp} {e : Addr} {en : En} (h : EnvB B e en) (s : Same B B') : EnvB B' e en := by
  obtain ⟨c, r, sp, g, t, sv, h1, h2, h3, h4, h5, h6, h7⟩ := h
  exact ⟨c, r, sp, g, t, sv, s _ _ h1, s _ _ h2, s _ _ h3, s _ _ h4, Lb.Paired.mono (fun _ _ h => h.mono s) h5, s _ _ h6, s _ _ h7⟩
theorem i_pickB {a c p : Addr} {B H : Hp} {ls : List (Addr × HO)} {Q : VK} {s : Addr} {xs : List V} {E : XK} (O : Own a c B H ls) (hs : s = a) (hp : B p = some (.lst xs)) (h0 : xs ≠ []) (h1 : xs.length ≤ 10000000) (k : ∀ (v : V) H', v ∈ xs → Own a c B H' ls → Q v H') : spPick ([.ref s, .ref p] ++ []) H Q E := by
  subst hs
  have n1 : p ≠ s := fun e => by
    rw [e, O.ha] at hp
    cases hp
  have n2 : p ≠ c := fun e => by
    rw [e, O.hc] at hp
    cases hp
  exact ⟨_, c, p, xs, rfl, O.R, O.kp hp, n1, n2, h0, h1, fun H' v hv R f => k v H' hv (O.draw R f)⟩
/-! ### promises -/
def sp_l_number (A : Ad) : Sp := fun vs H Q _ => ∃ (a c : Addr) (B : Hp) (ls : List (Addr × HO)), vs = [.ref a] ∧ Own a c B H ls ∧ ∀ p H' B' i, Same B B' → Dt B' (.ref p) (Ex.num i).D → 0 ≤ i → i ≤ 65535 → Own a c B' H' ls → Q (.ref p) H'
def sp_l_operator (A : Ad) : Sp := fun vs H Q _ => ∃ (a c : Addr) (B : Hp) (ls : List (Addr × HO)), vs = [.ref a] ∧ Own a c B H ls ∧ ∀ o H', o ∈ opsL → Own a c B H' ls → Q (.str o) H'
def sp_l_index (A : Ad) : Sp := fun vs H Q _ => ∃ (a c : Addr) (B : Hp) (ls : List (Addr × HO)) (e : Addr) (en : En) (C K z : Nat), vs = [.ref a, .ref e, .int (z : Nat)] ∧ Own a c B H ls ∧ EnvB B e en ∧ en.ok C K ∧ 1 ≤ z ∧ z ≤ 4 ∧ C ≤ 1000 ∧ K ≤ 100 ∧
  ∀ p H' B' (x : Ex), Same B B' → Dt B' (.ref p) x.D → x.ok C → x.wt ≤ 80 → Sh 2 x.D → Own a c B' H' ls → Q (.ref p) H'
def sp_l_read (A : Ad) : Sp := fun vs H Q _ => ∃ (a c : Addr) (B : Hp) (ls : List (Addr × HO)) (e : Addr) (en : En) (C K : Nat), vs = [.ref a, .ref e] ∧ Own a c B H ls ∧ EnvB B e en ∧ en.ok C K ∧ C ≤ 1000 ∧ K ≤ 100 ∧
  ∀ p H' B' x, Same B B' → Dt B' (.ref p) (Ex.D x) → XB C 0 x → Own a c B' H' ls → Q (.ref p) H'
def sp_l_target (A : Ad) : Sp := fun vs H Q _ => ∃ (a c : Addr) (B : Hp) (ls : List (Addr × HO)) (e : Addr) (en : En) (C K : Nat), vs = [.ref a, .ref e] ∧ Own a c B H ls ∧ EnvB B e en ∧ en.ok C K ∧ C ≤ 1000 ∧ K ≤ 100 ∧
  ∀ p H' B' x, Same B B' → Dt B' (.ref p) (Ex.D x) → XB C 0 x → x.tg → Own a c B' H' ls → Q (.ref p) H'
def sp_l_expression (A : Ad) (n : Nat) : Sp := fun vs H Q _ => ∃ (a c : Addr) (B : Hp) (ls : List (Addr × HO)) (e : Addr) (en : En) (C K d : Nat), vs = [.ref a, .ref e, .int (d : Nat)] ∧ d ≤ n ∧ Own a c B H ls ∧ EnvB B e en ∧ en.ok C K ∧ C ≤ 1000 ∧ K ≤ 100 ∧
  ∀ p H' B' x, Same B B' → Dt B' (.ref p) (Ex.D x) → XB C d x → Own a c B' H' ls → Q (.ref p) H'
def sp_exprP (A : Ad) : Nat → Sp
  | 0 => spF
  | n + 1 => sp_l_expression A n
def sp_l_set (A : Ad) : Sp := fun vs H Q _ => ∃ (a c : Addr) (B : Hp) (ls : List (Addr × HO)) (e : Addr) (en : En) (C K : Nat), vs = [.ref a, .ref e] ∧ Own a c B H ls ∧ EnvB B e en ∧ en.ok C K ∧ C ≤ 1000 ∧ K ≤ 100 ∧
  ∀ p H' B' t x, Same B B' → Dt B' (.ref p) (Sm.set t x).D → SB C K 6 800 (.set t x) → Own a c B' H' ls → Q (.ref p) H'
def sp_l_simple (A : Ad) : Sp := fun vs H Q _ => ∃ (a c : Addr) (B : Hp) (ls : List (Addr × HO)) (e : Addr) (en : En) (C K : Nat), vs = [.ref a, .ref e] ∧ Own a c B H ls ∧ EnvB B e en ∧ en.ok C K ∧ C ≤ 1000 ∧ K ≤ 100 ∧
  ∀ p H' B' s, Same B B' → Dt B' (.ref p) (Sm.D s) → SB C K 9 3000 s → s.thr = [] → Own a c B' H' ls → Q (.ref p) H'

set_option Elab.async false
set_option linter.all false
set_option maxRecDepth 100000
set_option maxHeartbeats 4000000
open PySem PySem.Spec PyProof.Rows L2 Lb


structure AB (C K : Nat) (r : AR) : Prop where
  ok : r.ok C K
  g : ∀ x, r.g = some x → XB C 1 x
  t : XB C 0 r.t
/-! ### the world, scripts -/
structure Wd where
  th : Nat
  left : Nat
  it : Nat
  ce : Nat
  ch : List Str
  al : Bool
  lo : Bool
abbrev wdO (wd : Wd) (cw : Addr) : HO := .dK [(.inr "threads", .int (wd.th : Nat)), (.inr "left", .int (wd.left : Nat)), (.inr "items", .int (wd.it : Nat)), (.inr "cells", .int (wd.ce : Nat)), (.inr "channels", .ref cw), (.inr "alts", .bl wd.al), (.inr "loops", .bl wd.lo)]
inductive It
  | gt (k : Bool) (c : Nat) (tag : Bool)
  | loop (m : Nat) (ps : List (Bool × Nat)) (cell : Nat)
  | nest
def kS : Bool → Str
  | true => "give"
  | false => "take"
def tS : Bool → Str
  | true => "loop"
  | false => ""
def gtD (tag : Bool) (p : Bool × Nat) : PyData := .tuple [.str (kS p.1), .int (p.2 : Nat), .str (tS tag)]
def It.D : It → PyData
  | .gt k c tag => gtD tag (k, c)
  | .loop m ps cell => .tuple [.str "loop", .int (m : Nat), .list (ps.map (gtD false)), .int (cell : Nat)]
  | .nest => .tuple [.str "nest"]
def itDs (l : List It) : List PyData := l.map It.D
def It.ok (C K : Nat) : It → Prop
  | .gt _ c _ => c < K
  | .loop m ps cell => 2 ≤ m ∧ m ≤ 3 ∧ ps.length ≤ 20 ∧ (∀ p ∈ ps, p.2 < K) ∧ cell < C
  | .nest => True
theorem It.ok.mono {C C' K K' : Nat} (h : C ≤ C') (k : K ≤ K') : ∀ {x : It}, x.ok C K → x.ok C' K'
  | .gt _ _ _, o => Nat.lt_of_lt_of_le o k
  | .loop _ _ _, ⟨a, b, c, d, e⟩ => ⟨a, b, c, fun p hp => Nat.lt_of_lt_of_le (d p hp) k, Nat.lt_of_lt_of_le e h⟩
  | .nest, _ => trivial
def It.tagged : It → Prop
  | .gt _ _ true => True
  | _ => False
def sp_l_more_cells (A : Ad) : Sp := fun vs H Q _ => ∃ (a c : Addr) (B : Hp) (ls : List (Addr × HO)) (w cw : Addr) (wd : Wd) (m : Nat), vs = [.ref w, .int (m : Nat)] ∧ Own a c B H ((w, wdO wd cw) :: ls) ∧ ∀ H', Own a c B H' ((w, wdO { wd with ce := wd.ce + m } cw) :: ls) → Q (.int (wd.ce : Nat)) H'
def sp_l_env (A : Ad) : Sp := fun vs H Q _ => ∃ (a c : Addr) (B : Hp) (ls : List (Addr × HO)) (w cw : Addr) (wd : Wd), vs = [.ref a, .ref w] ∧ Own a c B H ((w, wdO wd cw) :: ls) ∧
  ∀ e ec er es eg et sv (en : En) H' B' ce, Same B B' → Own a c B' H' ((e, enO ec er es eg et) :: (ec, .lst (nv en.cells)) :: (er, .lst (nv en.reads)) :: (es, .lst sv) :: (eg, .lst []) :: (et, .lst []) :: (w, wdO { wd with ce := ce } cw) :: ls) → Paired (PairV B') sv (pz en.spans) → en.gives = [] → en.takes = [] →
    (∀ K, en.ok ce K) → en.cells.length = 2 → en.reads.length = 2 → wd.ce + 2 ≤ ce → (ce ≤ wd.ce + 2 ∨ ce ≤ 33) → Q (.ref e) H'
def sp_l_alt (A : Ad) : Sp := fun vs H Q _ => ∃ (a c : Addr) (B : Hp) (ls : List (Addr × HO)) (e : Addr) (en : En) (C K ch : Nat), vs = [.ref a, .ref e, .int (ch : Nat)] ∧ Own a c B H ls ∧ EnvB B e en ∧ en.ok C K ∧ C ≤ 1000 ∧ K ≤ 30 ∧ ch < K ∧
  ∀ p H' B' rs l, Same B B' → Dt B' (.ref p) (Sm.alt rs l).D → (∀ r ∈ rs, AB C K r) → (∀ s ∈ l, SB C K 9 3000 s ∧ s.thr = []) → rs.length = l.length → 1 ≤ l.length → l.length ≤ 31 → Own a c B' H' ls → Q (.ref p) H'
def sp_l_wrapped (A : Ad) : Sp := fun vs H Q _ => ∃ (a c : Addr) (B : Hp) (ls : List (Addr × HO)) (e w cw p : Addr) (en : En) (wd : Wd) (K n wt : Nat) (s : Sm), vs = [.ref a, .ref e, .ref w, .ref p] ∧ Own a c B H ((w, wdO wd cw) :: ls) ∧ EnvB B e en ∧ en.ok wd.ce K ∧ wd.ce ≤ 1000 ∧ K ≤ 100 ∧ Dt B (.ref p) s.D ∧ SB wd.ce K n wt s ∧ 6 ≤ n ∧
  ∀ p H' B' s' ce, Same B B' → Dt B' (.ref p) (Sm.D s') → SB ce K (n + 5) (wt + 2000) s' → s'.thr = s.thr → wd.ce ≤ ce → (ce ≤ wd.ce ∨ ce ≤ 38) → Own a c B' H' ((w, wdO { wd with ce := ce } cw) :: ls) → Q (.ref p) H'
def sp_l_faulty (A : Ad) : Sp := fun vs H Q _ => ∃ (a c : Addr) (B : Hp) (ls : List (Addr × HO)) (sp : Addr) (sv : List V) (its : List It), vs = [.ref a, .ref sp] ∧ Own a c B H ls ∧ B sp = some (.lst sv) ∧ DtAll B sv (itDs its) ∧ its.length ≤ 1000 ∧
  ∀ p H' B' sv' its', Same B B' → B' p = some (.lst sv') → DtAll B' sv' (itDs its') → (∀ x ∈ its', x ∈ its) → its'.length ≤ its.length → Own a c B' H' ls → Q (.ref p) H'

/-! ### steps of the world -/
abbrev chv (l : List Str) : List V := l.map V.str
structure Step (wd wd' : Wd) : Prop where
  left : wd'.left ≤ wd.left
  it : wd'.it ≤ wd.it
  ce : wd.ce ≤ wd'.ce
  ch : ∃ k, wd'.ch = wd.ch ++ List.replicate k ("inner" : Str)
  al : wd'.al = wd.al
  lo : wd'.lo = wd.lo
  tl : wd'.th + wd'.left ≤ wd.th + wd.left
theorem Step.refl {wd : Wd} : Step wd wd := ⟨Nat.le_refl _, Nat.le_refl _, Nat.le_refl _, ⟨0, by simp⟩, rfl, rfl, Nat.le_refl _⟩
theorem Step.trans {a b c : Wd} (h : Step a b) (k : Step b c) : Step a c :=
  ⟨Nat.le_trans k.left h.left, Nat.le_trans k.it h.it, Nat.le_trans h.ce k.ce, by
    obtain ⟨m, e⟩ := h.ch
    obtain ⟨n, e'⟩ := k.ch
    exact ⟨m + n, by rw [e', e, List.append_assoc, List.replicate_append_replicate]⟩, k.al.trans h.al, k.lo.trans h.lo, Nat.le_trans k.tl h.tl⟩
theorem Step.chl {a b : Wd} (h : Step a b) : a.ch.length ≤ b.ch.length := by
  obtain ⟨m, e⟩ := h.ch
  rw [e, List.length_append]
  omega
/-- what holds of the world at all times -/
structure WI (wd : Wd) : Prop where
  pot : wd.ce + 2 * wd.left ≤ 60
  l11 : wd.left ≤ 11
  ch : wd.ch.length ≤ 24
inductive DpI (its : List It) (left nn : Nat) : Prop
  | tag (h : ∀ x ∈ its, x.tagged) (k : 12 ≤ nn)
  | plain (h : ∀ x ∈ its, x ≠ .nest) (k : 4 * left + 15 ≤ nn)
  | nest (k : 4 * left + 17 ≤ nn)
def cst (wd : Wd) : Nat := 130000 * wd.it + 5000 * wd.left
def sp_l_par (A : Ad) (n : Nat) : Sp := fun vs H Q _ => ∃ (a c : Addr) (B : Hp) (ls : List (Addr × HO)) (e w cw : Addr) (en : En) (wd : Wd) (deep : Nat), vs = [.ref a, .ref e, .ref w, .int (deep : Nat)] ∧ Own a c B H ((w, wdO wd cw) :: (cw, .lst (chv wd.ch)) :: ls) ∧ EnvB B e en ∧ en.ok wd.ce wd.ch.length ∧ WI wd ∧ deep ≤ 1 ∧ wd.left ≤ n ∧
  ∀ p H' B' (s : Sm) wd', Same B B' → Dt B' (.ref p) s.D → Step wd wd' → WI wd' → Thr wd.th wd'.th s.thr → s.ok wd'.ce wd'.ch.length → Sh (4 * wd.left + 12 + 2 * deep) s.D → s.wt + cst wd' ≤ cst wd + 100 → Own a c B' H' ((w, wdO wd' cw) :: (cw, .lst (chv wd'.ch)) :: ls) → Q (.ref p) H'
def sp_parP (A : Ad) : Nat → Sp
  | 0 => spF
  | n + 1 => sp_l_par A n
def sp_l_items (A : Ad) (n : Nat) : Sp := fun vs H Q _ => ∃ (a c : Addr) (B : Hp) (ls : List (Addr × HO)) (e w cw ip : Addr) (en : En) (wd : Wd) (iv : List V) (its : List It) (nn : Nat), vs = [.ref a, .ref e, .ref w, .ref ip] ∧ Own a c B H ((w, wdO wd cw) :: (cw, .lst (chv wd.ch)) :: ls) ∧ EnvB B e en ∧ en.ok wd.ce wd.ch.length ∧ WI wd ∧
  B ip = some (.lst iv) ∧ DtAll B iv (itDs its) ∧ (∀ x ∈ its, x.ok wd.ce wd.ch.length) ∧ its.length ≤ 1000 ∧ ((∀ x ∈ its, x.tagged) ∨ wd.left + 1 ≤ n) ∧ DpI its wd.left nn ∧
  ∀ p H' B' fv (l : List Sm) wd', Same B B' → B' p = some (.lst fv) → DtAll B' fv (smDs l) → Step wd wd' → WI wd' → Thr wd.th wd'.th (thrs l).flatten → oks wd'.ce wd'.ch.length l → (∀ s ∈ l, Sh nn s.D) → l.length ≤ 3000 → wts l + cst wd' ≤ cst wd → Own a c B' H' ((w, wdO wd' cw) :: (cw, .lst (chv wd'.ch)) :: ls) → Q (.ref p) H'
def sp_itemsP (A : Ad) : Nat → Sp
  | 0 => spF
  | n + 1 => sp_l_items A n

/-! ### meetings -/
structure MS (B : Hp) (n K0 K C : Nat) (its : Nat → List It) (S : Nat → List V) (gi ti : Nat → List Nat) (m : Nat) : Prop where
  sd : ∀ j, j < n → DtAll B (S j) (itDs (its j))
  so : ∀ j, j < n → ∀ x ∈ its j, x.ok C K ∧ x ≠ .nest
  sl : ∀ j, j < n → (its j).length ≤ m
  g : ∀ j, j < n → (gi j).length + K0 ≤ K ∧ ∀ k ∈ gi j, k < K
  t : ∀ j, j < n → (ti j).length + K0 ≤ K ∧ ∀ k ∈ ti j, k < K
def MO (w cw sp : Addr) (rS rg rt : Nat → Addr) (n : Nat) (ls : List (Addr × HO)) (wd : Wd) (S : Nat → List V) (gi ti : Nat → List Nat) : List (Addr × HO) :=
  (w, wdO wd cw) :: (cw, .lst (chv wd.ch)) :: (sp, .lst (rf rS n)) :: (rl rS S n ++ (rl rg (fun j => nv (gi j)) n ++ (rl rt (fun j => nv (ti j)) n ++ ls)))
def sp_l_meetings (A : Ad) : Sp := fun vs H Q _ => ∃ (a c : Addr) (B : Hp) (ls : List (Addr × HO)) (w cw sp ep : Addr) (wd : Wd) (n : Nat) (re rc rr rs rg rt rS : Nat → Addr), vs = [.ref a, .ref w, .ref sp, .ref ep] ∧
  Own a c B H (MO w cw sp rS rg rt n ls wd (fun _ => []) (fun _ => []) fun _ => []) ∧ B ep = some (.lst (rf re n)) ∧ (∀ i, i < n → B (re i) = some (enO (rc i) (rr i) (rs i) (rg i) (rt i))) ∧ 2 ≤ n ∧ n ≤ 4 ∧ wd.ch.length ≤ 24 ∧ wd.ce ≤ 900 ∧
  ∀ H' B' ce ch its S gi ti, Same B B' → MS B' n wd.ch.length (List.length ch) ce its S gi ti 18 → wd.ce ≤ ce → (ce ≤ wd.ce ∨ ce ≤ 38) → (∃ k, ch = wd.ch ++ List.replicate k ("inner" : Str)) → ch.length ≤ 24 → Own a c B' H' (MO w cw sp rS rg rt n ls { wd with ce := ce, ch := ch } S gi ti) → Q .non H'

/-! ### what is shared -/
structure SS (B : Hp) (n K C : Nat) (rS : Nat → Addr) (its : Nat → List It) (S : Nat → List V) (ci ri gi ti : Nat → List Nat) (mc mr mg mt ms : Nat) : Prop where
  sp : ∀ j, j < n → B (rS j) = some (.lst (S j)) ∧ DtAll B (S j) (itDs (its j))
  so : ∀ j, j < n → ∀ x ∈ its j, x.ok C K ∧ x ≠ .nest
  sl : ∀ j, j < n → (its j).length ≤ ms
  c : ∀ j, j < n → ci j ≠ [] ∧ (ci j).length ≤ mc ∧ ∀ k ∈ ci j, k < C
  r : ∀ j, j < n → ri j ≠ [] ∧ (ri j).length ≤ mr ∧ ∀ k ∈ ri j, k < C
  g : ∀ j, j < n → (gi j).length ≤ mg ∧ ∀ k ∈ gi j, k < K
  t : ∀ j, j < n → (ti j).length ≤ mt ∧ ∀ k ∈ ti j, k < K
abbrev SO (sp : Addr) (rS rc rr rg rt : Nat → Addr) (n : Nat) (ci ri gi ti : Nat → List Nat) (ls : List (Addr × HO)) : List (Addr × HO) :=
  (sp, .lst (rf rS n)) :: (rl rc (fun j => nv (ci j)) n ++ (rl rr (fun j => nv (ri j)) n ++ (rl rg (fun j => nv (gi j)) n ++ (rl rt (fun j => nv (ti j)) n ++ ls))))
def sp_l_shared (A : Ad) : Sp := fun vs H Q _ => ∃ (a c : Addr) (B : Hp) (ls : List (Addr × HO)) (e ep sp : Addr) (en : En) (n : Nat) (re rc rr rs rg rt rS : Nat → Addr) (its : Nat → List It) (S : Nat → List V) (ci ri gi ti : Nat → List Nat) (K C mc mr mg mt ms : Nat), vs = [.ref a, .ref e, .ref ep, .ref sp] ∧
  Own a c B H (SO sp rS rc rr rg rt n ci ri gi ti ls) ∧ EnvB B e en ∧ B ep = some (.lst (rf re n)) ∧ (∀ i, i < n → B (re i) = some (enO (rc i) (rr i) (rs i) (rg i) (rt i))) ∧ 2 ≤ n ∧ n ≤ 4 ∧ SS B n K C rS its S ci ri gi ti mc mr mg mt ms ∧
  (∀ k ∈ en.cells, k < C) ∧ (∀ k ∈ en.gives, k < K) ∧ (∀ k ∈ en.takes, k < K) ∧ en.cells.length ≤ 1000 ∧ en.gives.length ≤ 100 ∧ en.takes.length ≤ 100 ∧ mc ≤ 1000 ∧ mr ≤ 1000 ∧ mg ≤ 1000 ∧ mt ≤ 1000 ∧ ms ≤ 1000 ∧
  ∀ H' B' rS' its' S' ci' ri' gi' ti', Same B B' → SS B' n K C rS' its' S' ci' ri' gi' ti' (mc + en.cells.length) (mr + en.cells.length) (mg + en.gives.length) (mt + en.takes.length) (ms + 2 * (en.gives.length + en.takes.length)) → Own a c B' H' (SO sp rS' rc rr rg rt n ci' ri' gi' ti' ls) → Q .non H'

/-! ### a core -/
def coreD (ce : Nat) (ch : List Str) (l : List Sm) : PyData := .tuple [.str "core", .int (ce : Nat), .list (ch.map PyData.str), (Sm.seq l).D]
structure CoreOk (ce : Nat) (ch : List Str) (l : List Sm) (th : Nat) : Prop where
  hce : 2 ≤ ce ∧ ce ≤ 60
  hch : ∃ i o k, ch = List.replicate i ("in" : Str) ++ List.replicate o ("out" : Str) ++ List.replicate k ("inner" : Str) ∧ i ≤ 2 ∧ o ≤ 2
  c24 : ch.length ≤ 24
  ok : oks ce ch.length l
  thr : Thr 1 th (thrs l).flatten
  hth : th ≤ 12
  sh : ∀ s ∈ l, Sh 58 s.D
  wt : wts l ≤ 5000000
  len : l.length ≤ 20
def sp_l_core (A : Ad) : Sp := fun vs H Q _ => ∃ (a c : Addr) (B : Hp) (ls : List (Addr × HO)) (al : Bool), vs = [.ref a, .bl al] ∧ Own a c B H ls ∧
  ∀ p H' B' ce ch l th, Same B B' → Dt B' (.ref p) (coreD ce ch l) → CoreOk ce ch l th → Own a c B' H' ls → Q (.ref p) H'

def t_l_number (A : Ad) : TS :=
  (tRet (tTup (tCons (tC (.str "num")) (tCons (tCall spPick [] E0 (tCons (tVar 0) (tCons (tLst (tCons (tC (.int 0)) (tCons (tC (.int 1)) (tCons (tC (.int 2)) (tCons (tC (.int 3)) (tCons (tCall spDraw [] E0 (tCons (tVar 0) (tCons (tC (.int 10)) tNil))) (tCons (tC (.int 65535)) (tCons (tCall spDraw [] E0 (tCons (tVar 0) (tCons (tC (.int 65536)) tNil))) tNil)))))))) tNil))) tNil))))
theorem st_l_number (v0 : V) : L2.start ["_law_state_here"] [v0] = [some v0] := rfl
def t_l_operator (A : Ad) : TS :=
  (tRet (tCall spPick [] E0 (tCons (tVar 0) (tCons (tLst (tCons (tC (.str "+")) (tCons (tC (.str "-")) (tCons (tC (.str "*")) (tCons (tC (.str "+")) (tCons (tC (.str "-")) (tCons (tC (.str "and")) (tCons (tC (.str "or")) (tCons (tC (.str "==")) (tCons (tC (.str "!=")) (tCons (tC (.str "<")) (tCons (tC (.str "<=")) (tCons (tC (.str "+")) (tCons (tCall spPick [] E0 (tCons (tVar 0) (tCons (tLst (tCons (tC (.str "/")) (tCons (tC (.str "mod")) tNil))) tNil))) tNil)))))))))))))) tNil))))
theorem st_l_operator (v0 : V) : L2.start ["_law_state_here"] [v0] = [some v0] := rfl
def t_l_index (A : Ad) : TS :=
  (tSeq (tAsg (tTup (tCons (tC (.str "cell")) (tCons (tCall spPick [] E0 (tCons (tVar 0) (tCons (tDGet (tVar 1) (tC (.str "reads"))) tNil))) tNil))) (gName 3)) (tRet (tIf (tTest (tOp (rEqA A.K) (tCall spDraw [] E0 (tCons (tVar 0) (tCons (tC (.int 8)) tNil))) (tC (.int 0)))) (tVar 3) (tTup (tCons (tC (.str "mod")) (tCons (tVar 3) (tCons (tTup (tCons (tC (.str "num")) (tCons (tVar 2) tNil))) tNil)))))))
theorem st_l_index (v0 v1 v2 : V) : L2.start ["_law_state_here", "_law_env_here", "_law_size", "_law_cell"] [v0, v1, v2] = [some v0, some v1, some v2, none] := rfl
def t_l_read (A : Ad) : TS :=
  (tSeq (tIfS (tAnd (tTest (tOp (rI0 fun i j => .bl (decide (j < i))) (tCB rLenA (tCons (tDGet (tVar 1) (tC (.str "spans"))) tNil)) (tC (.int 0)))) (tTest (tOp (rEqA A.K) (tCall spDraw [] E0 (tCons (tVar 0) (tCons (tC (.int 4)) tNil))) (tC (.int 0))))) (tSeq (tAsg (tCall spPick [] E0 (tCons (tVar 0) (tCons (tDGet (tVar 1) (tC (.str "spans"))) tNil))) (gTup A.K 2 (gCons (gName 2) (gCons (gName 3) gNil)))) (tRet (tTup (tCons (tC (.str "at")) (tCons (tVar 2) (tCons (tVar 3) (tCons (tCall (sp_l_index A) [] E0 (tCons (tVar 0) (tCons (tVar 1) (tCons (tVar 3) tNil)))) tNil))))))) tNext) (tRet (tTup (tCons (tC (.str "cell")) (tCons (tCall spPick [] E0 (tCons (tVar 0) (tCons (tDGet (tVar 1) (tC (.str "reads"))) tNil))) tNil)))))
theorem st_l_read (v0 v1 : V) : L2.start ["_law_state_here", "_law_env_here", "_law_first", "_law_size"] [v0, v1] = [some v0, some v1, none, none] := rfl
def t_l_expression (A : Ad) (n : Nat) : TS :=
  (tSeq (tAsg (tCall spDraw [] E0 (tCons (tVar 0) (tCons (tC (.int 7)) tNil))) (gName 3)) (tSeq (tIfS (tOr (tTest (tOp (rEqA A.K) (tVar 2) (tC (.int 0)))) (tTest (tOp (rI0 fun i j => .bl (decide (i < j))) (tVar 3) (tC (.int 3))))) (tSeq (tIfS (tAnd (tTest (tOp (rI0 fun i j => .bl (decide (j < i))) (tCB rLenA (tCons (tDGet (tVar 1) (tC (.str "reads"))) tNil)) (tC (.int 0)))) (tTest (tOp (rI0 fun i j => .bl (decide (j < i))) (tCall spDraw [] E0 (tCons (tVar 0) (tCons (tC (.int 3)) tNil))) (tC (.int 0))))) (tRet (tCall (sp_l_read A) [] E0 (tCons (tVar 0) (tCons (tVar 1) tNil)))) tNext) (tRet (tCall (sp_l_number A) [] E0 (tCons (tVar 0) tNil)))) tNext) (tSeq (tIfS (tTest (tOp (rEqA A.K) (tVar 3) (tC (.int 3)))) (tRet (tTup (tCons (tCall spPick [] E0 (tCons (tVar 0) (tCons (tLst (tCons (tC (.str "neg")) (tCons (tC (.str "not")) tNil))) tNil))) (tCons (tCall (sp_exprP A n) [] E0 (tCons (tVar 0) (tCons (tVar 1) (tCons (tOp (rI0 fun i j => .int (i - j)) (tVar 2) (tC (.int 1))) tNil)))) tNil)))) tNext) (tSeq (tAsg (tCall (sp_exprP A n) [] E0 (tCons (tVar 0) (tCons (tVar 1) (tCons (tOp (rI0 fun i j => .int (i - j)) (tVar 2) (tC (.int 1))) tNil)))) (gName 4)) (tRet (tTup (tCons (tCall (sp_l_operator A) [] E0 (tCons (tVar 0) tNil)) (tCons (tVar 4) (tCons (tCall (sp_exprP A n) [] E0 (tCons (tVar 0) (tCons (tVar 1) (tCons (tOp (rI0 fun i j => .int (i - j)) (tVar 2) (tC (.int 1))) tNil)))) tNil)))))))))
theorem st_l_expression (v0 v1 v2 : V) : L2.start ["_law_state_here", "_law_env_here", "_law_deep", "_law_kind", "_law_first"] [v0, v1, v2] = [some v0, some v1, some v2, none, none] := rfl
def t_l_target (A : Ad) : TS :=
  (tSeq (tIfS (tAnd (tTest (tOp (rI0 fun i j => .bl (decide (j < i))) (tCB rLenA (tCons (tDGet (tVar 1) (tC (.str "spans"))) tNil)) (tC (.int 0)))) (tTest (tOp (rEqA A.K) (tCall spDraw [] E0 (tCons (tVar 0) (tCons (tC (.int 4)) tNil))) (tC (.int 0))))) (tSeq (tAsg (tCall spPick [] E0 (tCons (tVar 0) (tCons (tDGet (tVar 1) (tC (.str "spans"))) tNil))) (gTup A.K 2 (gCons (gName 2) (gCons (gName 3) gNil)))) (tRet (tTup (tCons (tC (.str "at")) (tCons (tVar 2) (tCons (tVar 3) (tCons (tCall (sp_l_index A) [] E0 (tCons (tVar 0) (tCons (tVar 1) (tCons (tVar 3) tNil)))) tNil))))))) tNext) (tRet (tTup (tCons (tC (.str "cell")) (tCons (tCall spPick [] E0 (tCons (tVar 0) (tCons (tDGet (tVar 1) (tC (.str "cells"))) tNil))) tNil)))))
theorem st_l_target (v0 v1 : V) : L2.start ["_law_state_here", "_law_env_here", "_law_first", "_law_size"] [v0, v1] = [some v0, some v1, none, none] := rfl
def t_l_set (A : Ad) : TS :=
  (tRet (tTup (tCons (tC (.str "set")) (tCons (tCall (sp_l_target A) [] E0 (tCons (tVar 0) (tCons (tVar 1) tNil))) (tCons (tCall (sp_l_expression A 2) [] E0 (tCons (tVar 0) (tCons (tVar 1) (tCons (tC (.int 2)) tNil)))) tNil)))))
theorem st_l_set (v0 v1 : V) : L2.start ["_law_state_here", "_law_env_here"] [v0, v1] = [some v0, some v1] := rfl
def t_l_simple (A : Ad) : TS :=
  (tSeq (tAsg (tCall spDraw [] E0 (tCons (tVar 0) (tCons (tC (.int 14)) tNil))) (gName 2)) (tSeq (tIfS (tTest (tOp (rEqA A.K) (tVar 2) (tC (.int 0)))) (tRet (tTup (tCons (tC (.str "skip")) tNil))) tNext) (tSeq (tIfS (tAnd (tTest (tOp (rEqA A.K) (tVar 2) (tC (.int 1)))) (tTest (tOp (rEqA A.K) (tCall spDraw [] E0 (tCons (tVar 0) (tCons (tC (.int 6)) tNil))) (tC (.int 0))))) (tRet (tTup (tCons (tC (.str "stop")) tNil))) tNext) (tSeq (tIfS (tTest (tOp (rEqA A.K) (tVar 2) (tC (.int 2)))) (tRet (tTup (tCons (tC (.str "if")) (tCons (tCall (sp_l_expression A 2) [] E0 (tCons (tVar 0) (tCons (tVar 1) (tCons (tC (.int 1)) tNil)))) (tCons (tCall (sp_l_set A) [] E0 (tCons (tVar 0) (tCons (tVar 1) tNil))) (tCons (tTup (tCons (tC (.str "seq")) (tCons (tLst (tCons (tCall (sp_l_set A) [] E0 (tCons (tVar 0) (tCons (tVar 1) tNil))) (tCons (tCall (sp_l_set A) [] E0 (tCons (tVar 0) (tCons (tVar 1) tNil))) tNil))) tNil))) tNil)))))) tNext) (tSeq (tIfS (tTest (tOp (rEqA A.K) (tVar 2) (tC (.int 3)))) (tSeq (tAsg (tTup (tCons (tC (.str "cell")) (tCons (tCall spPick [] E0 (tCons (tVar 0) (tCons (tDGet (tVar 1) (tC (.str "cells"))) tNil))) tNil))) (gName 3)) (tSeq (tAsg (tTup (tCons (tC (.str "set")) (tCons (tVar 3) (tCons (tTup (tCons (tC (.str "+")) (tCons (tVar 3) (tCons (tTup (tCons (tC (.str "num")) (tCons (tOp rAddA (tC (.int 1)) (tCall spDraw [] E0 (tCons (tVar 0) (tCons (tC (.int 3)) tNil)))) tNil))) tNil)))) tNil)))) (gName 4)) (tRet (tTup (tCons (tC (.str "repeat")) (tCons (tTup (tCons (tC (.str "<")) (tCons (tVar 3) (tCons (tTup (tCons (tC (.str "num")) (tCons (tCall spDraw [] E0 (tCons (tVar 0) (tCons (tC (.int 9)) tNil))) tNil))) tNil)))) (tCons (tCall spDraw [] E0 (tCons (tVar 0) (tCons (tC (.int 4)) tNil))) (tCons (tVar 4) tNil)))))))) tNext) (tRet (tCall (sp_l_set A) [] E0 (tCons (tVar 0) (tCons (tVar 1) tNil)))))))))
theorem st_l_simple (v0 v1 : V) : L2.start ["_law_state_here", "_law_env_here", "_law_kind", "_law_cell", "_law_more"] [v0, v1] = [some v0, some v1, none, none, none] := rfl
def t_l_more_cells (A : Ad) : TS :=
  (tSeq (sDPut (tVar 0) (tC (.str "cells")) (tOp rAddA (tDGet (tVar 0) (tC (.str "cells"))) (tVar 1))) (tRet (tOp (rI0 fun i j => .int (i - j)) (tDGet (tVar 0) (tC (.str "cells"))) (tVar 1))))
theorem st_l_more_cells (v0 v1 : V) : L2.start ["_law_world", "_law_many"] [v0, v1] = [some v0, some v1] := rfl
def t_l_env (A : Ad) : TS :=
  (tSeq (tAsg (tCall (sp_l_more_cells A) [] E0 (tCons (tVar 1) (tCons (tC (.int 2)) tNil))) (gName 2)) (tSeq (tAsg (tDisp [((tC (.str "cells")), (tLst (tCons (tVar 2) (tCons (tOp rAddA (tVar 2) (tC (.int 1))) tNil)))), ((tC (.str "reads")), (tLst (tCons (tVar 2) (tCons (tOp rAddA (tVar 2) (tC (.int 1))) tNil)))), ((tC (.str "spans")), (tLst tNil)), ((tC (.str "gives")), (tLst tNil)), ((tC (.str "takes")), (tLst tNil))]) (gName 3)) (tSeq (tIfS (tAnd (tTest (tOp (rI0 fun i j => .bl (decide (i < j))) (tDGet (tVar 1) (tC (.str "cells"))) (tC (.int 30)))) (tTest (tOp (rEqA A.K) (tCall spDraw [] E0 (tCons (tVar 0) (tCons (tC (.int 3)) tNil))) (tC (.int 0))))) (tSeq (tAsg (tOp rAddA (tC (.int 1)) (tCall spDraw [] E0 (tCons (tVar 0) (tCons (tC (.int 4)) tNil)))) (gName 4)) (sDPut (tVar 3) (tC (.str "spans")) (tLst (tCons (tTup (tCons (tCall (sp_l_more_cells A) [] E0 (tCons (tVar 1) (tCons (tVar 4) tNil))) (tCons (tVar 4) tNil))) tNil)))) tNext) (tRet (tVar 3)))))
theorem st_l_env (v0 v1 : V) : L2.start ["_law_state_here", "_law_world", "_law_first", "_law_env_here", "_law_size"] [v0, v1] = [some v0, some v1, none, none, none] := rfl
def t_l_alt (A : Ad) : TS :=
  (tSeq (tAsg (tLst (tCons (tTup (tCons (tC .non) (tCons (tVar 2) (tCons (tCall (sp_l_target A) [] E0 (tCons (tVar 0) (tCons (tVar 1) tNil))) (tCons (tCall (sp_l_simple A) [] E0 (tCons (tVar 0) (tCons (tVar 1) tNil))) tNil))))) tNil)) (gName 3)) (tSeq (tFor (iList A.K (tDGet (tVar 1) (tC (.str "takes")))) (gName 4) (tIfS (tAnd (tTest (tOp (rEqA A.K) (tCB rLenA (tCons (tLc (iList A.K (tVar 3)) (gName 6) (tTest (tOp (rEqA A.K) (tOp rIxA (tVar 6) (tC (.int 1))) (tVar 4))) (tVar 6) [6]) tNil)) (tC (.int 0)))) (tTest (tOp (rEqA A.K) (tCall spDraw [] E0 (tCons (tVar 0) (tCons (tC (.int 2)) tNil))) (tC (.int 0))))) (tSeq (tAsg (tIf (tTest (tOp (rEqA A.K) (tCall spDraw [] E0 (tCons (tVar 0) (tCons (tC (.int 2)) tNil))) (tC (.int 0)))) (tC .non) (tCall (sp_l_expression A 2) [] E0 (tCons (tVar 0) (tCons (tVar 1) (tCons (tC (.int 1)) tNil))))) (gName 5)) (tSeq (tAsg (tTup (tCons (tVar 5) (tCons (tVar 4) (tCons (tCall (sp_l_target A) [] E0 (tCons (tVar 0) (tCons (tVar 1) tNil))) (tCons (tCall (sp_l_simple A) [] E0 (tCons (tVar 0) (tCons (tVar 1) tNil))) tNil))))) (gName 6)) (tAsg (tIf (tTest (tOp (rEqA A.K) (tCall spDraw [] E0 (tCons (tVar 0) (tCons (tC (.int 2)) tNil))) (tC (.int 0)))) (tOp rAddA (tVar 3) (tLst (tCons (tVar 6) tNil))) (tOp rAddA (tLst (tCons (tVar 6) tNil)) (tVar 3))) (gName 3)))) tNext)) (tRet (tTup (tCons (tC (.str "alt")) (tCons (tVar 3) tNil))))))
theorem st_l_alt (v0 v1 v2 : V) : L2.start ["_law_state_here", "_law_env_here", "_law_c", "_law_rows", "_law_other", "_law_guard", "_law_row"] [v0, v1, v2] = [some v0, some v1, some v2, none, none, none, none] := rfl
def t_l_wrapped (A : Ad) : TS :=
  (tSeq (tAsg (tCall spDraw [] E0 (tCons (tVar 0) (tCons (tC (.int 6)) tNil))) (gName 4)) (tSeq (tIfS (tTest (tOp (rEqA A.K) (tVar 4) (tC (.int 0)))) (tRet (tTup (tCons (tC (.str "if")) (tCons (tCall (sp_l_expression A 2) [] E0 (tCons (tVar 0) (tCons (tVar 1) (tCons (tC (.int 1)) tNil)))) (tCons (tVar 3) (tCons (tCall (sp_l_set A) [] E0 (tCons (tVar 0) (tCons (tVar 1) tNil))) tNil)))))) tNext) (tSeq (tIfS (tTest (tOp (rEqA A.K) (tVar 4) (tC (.int 1)))) (tRet (tTup (tCons (tC (.str "if")) (tCons (tTup (tCons (tC (.str "<")) (tCons (tTup (tCons (tC (.str "num")) (tCons (tC (.int 1)) tNil))) (tCons (tCall (sp_l_expression A 2) [] E0 (tCons (tVar 0) (tCons (tVar 1) (tCons (tC (.int 0)) tNil)))) tNil)))) (tCons (tCall (sp_l_set A) [] E0 (tCons (tVar 0) (tCons (tVar 1) tNil))) (tCons (tVar 3) tNil)))))) tNext) (tSeq (tIfS (tAnd (tTest (tOp (rI0 fun i j => .bl (decide (i < j))) (tVar 4) (tC (.int 4)))) (tAnd (tTru A.K (tDGet (tVar 2) (tC (.str "loops")))) (tTest (tOp (rI0 fun i j => .bl (decide (i ≤ j))) (tDGet (tVar 2) (tC (.str "cells"))) (tC (.int 37)))))) (tSeq (tAsg (tTup (tCons (tC (.str "cell")) (tCons (tCall (sp_l_more_cells A) [] E0 (tCons (tVar 2) (tCons (tC (.int 1)) tNil))) tNil))) (gName 5)) (tSeq (tAsg (tTup (tCons (tC (.str "repeat")) (tCons (tTup (tCons (tC (.str "<")) (tCons (tVar 5) (tCons (tTup (tCons (tC (.str "num")) (tCons (tC (.int 2)) tNil))) tNil)))) (tCons (tC (.int 2)) (tCons (tTup (tCons (tC (.str "seq")) (tCons (tLst (tCons (tVar 3) (tCons (tTup (tCons (tC (.str "set")) (tCons (tVar 5) (tCons (tTup (tCons (tC (.str "+")) (tCons (tVar 5) (tCons (tTup (tCons (tC (.str "num")) (tCons (tC (.int 1)) tNil))) tNil)))) tNil)))) tNil))) tNil))) tNil))))) (gName 6)) (tRet (tTup (tCons (tC (.str "seq")) (tCons (tLst (tCons (tTup (tCons (tC (.str "set")) (tCons (tVar 5) (tCons (tTup (tCons (tC (.str "num")) (tCons (tC (.int 0)) tNil))) tNil)))) (tCons (tVar 6) tNil))) tNil)))))) tNext) (tRet (tVar 3))))))
theorem st_l_wrapped (v0 v1 v2 v3 : V) : L2.start ["_law_state_here", "_law_env_here", "_law_world", "_law_part", "_law_turn", "_law_counter", "_law_turns"] [v0, v1, v2, v3] = [some v0, some v1, some v2, some v3, none, none, none] := rfl
def t_l_meetings (A : Ad) : TS :=
  (tSeq (tAsg tDNewT (gName 4)) (tFor (iRng1 (tCons (tOp rAddA (tC (.int 1)) (tCall spDraw [] E0 (tCons (tVar 0) (tCons (tC (.int 3)) tNil)))) tNil)) (gName 5) (tSeq (tAsg (tIf (tTest (tOp (rI0 fun i j => .bl (decide (i ≤ j))) (tOp rAddA (tDGet (tVar 1) (tC (.str "cells"))) (tCB rLenA (tCons (tVar 2) tNil))) (tC (.int 38)))) (tCall spPick [] E0 (tCons (tVar 0) (tCons (tLst (tCons (tC (.int 1)) (tCons (tC (.int 1)) (tCons (tC (.int 2)) (tCons (tC (.int 3)) tNil))))) tNil))) (tC (.int 1))) (gName 6)) (tSeq (tAsg (tLc (iList A.K (tVar 2)) (gName 11) tYes (tLst tNil) [11]) (gName 7)) (tSeq (tFor (iRng1 (tCons (tOp rAddA (tC (.int 1)) (tCall spDraw [] E0 (tCons (tVar 0) (tCons (tC (.int 3)) tNil)))) tNil)) (gName 8) (tSeq (tAsg (tCall spDraw [] E0 (tCons (tVar 0) (tCons (tCB rLenA (tCons (tVar 2) tNil)) tNil))) (gName 9)) (tSeq (tAsg (tOp (rI (fun _ j => 0 < j) fun i j => .int (i % j)) (tCB rIntA (tCons (tOp rAddA (tOp rAddA (tVar 9) (tC (.int 1))) (tCall spDraw [] E0 (tCons (tVar 0) (tCons (tOp (rI0 fun i j => .int (i - j)) (tCB rLenA (tCons (tVar 2) tNil)) (tC (.int 1))) tNil)))) tNil)) (tCB rLenA (tCons (tVar 2) tNil))) (gName 10)) (tSeq (tIfS (tAnd (tB (tDNotIn (tTup (tCons (tVar 9) (tCons (tVar 10) tNil))) (tVar 4))) (tTest (tOp (rI0 fun i j => .bl (decide (i < j))) (tCB rLenA (tCons (tDGet (tVar 1) (tC (.str "channels"))) tNil)) (tC (.int 24))))) (tSeq (sDPut (tVar 4) (tTup (tCons (tVar 9) (tCons (tVar 10) tNil))) (tCB rLenA (tCons (tDGet (tVar 1) (tC (.str "channels"))) tNil))) (tSeq (tDrop (tBML rAppA (tDGet (tVar 1) (tC (.str "channels"))) (tCons (tC (.str "inner")) tNil))) (tSeq (tDrop (tBML rAppA (tDGet (tOp rIxA (tVar 3) (tVar 9)) (tC (.str "gives"))) (tCons (tDGet (tVar 4) (tTup (tCons (tVar 9) (tCons (tVar 10) tNil)))) tNil))) (tDrop (tBML rAppA (tDGet (tOp rIxA (tVar 3) (tVar 10)) (tC (.str "takes"))) (tCons (tDGet (tVar 4) (tTup (tCons (tVar 9) (tCons (tVar 10) tNil)))) tNil)))))) tNext) (tIfS (tB (tDIn (tTup (tCons (tVar 9) (tCons (tVar 10) tNil))) (tVar 4))) (tSeq (tDrop (tBML rAppA (tOp rIxA (tVar 7) (tVar 9)) (tCons (tTup (tCons (tC (.str "give")) (tCons (tDGet (tVar 4) (tTup (tCons (tVar 9) (tCons (tVar 10) tNil)))) (tCons (tC (.str "")) tNil)))) tNil))) (tDrop (tBML rAppA (tOp rIxA (tVar 7) (tVar 10)) (tCons (tTup (tCons (tC (.str "take")) (tCons (tDGet (tVar 4) (tTup (tCons (tVar 9) (tCons (tVar 10) tNil)))) (tCons (tC (.str "")) tNil)))) tNil)))) tNext))))) (tFor (iRng1 (tCons (tCB rLenA (tCons (tVar 2) tNil)) tNil)) (gName 8) (tIfS (tAnd (tTest (tOp (rI0 fun i j => .bl (decide (j < i))) (tCB rLenA (tCons (tOp rIxA (tVar 7) (tVar 8)) tNil)) (tC (.int 0)))) (tTest (tOp (rI0 fun i j => .bl (decide (j < i))) (tVar 6) (tC (.int 1))))) (tDrop (tBML rAppA (tOp rIxA (tVar 2) (tVar 8)) (tCons (tTup (tCons (tC (.str "loop")) (tCons (tVar 6) (tCons (tOp rIxA (tVar 7) (tVar 8)) (tCons (tCall (sp_l_more_cells A) [] E0 (tCons (tVar 1) (tCons (tC (.int 1)) tNil))) tNil))))) tNil))) (tDrop (tBML rExtA (tOp rIxA (tVar 2) (tVar 8)) (tCons (tOp rIxA (tVar 7) (tVar 8)) tNil))))))))))
theorem st_l_meetings (v0 v1 v2 v3 : V) : L2.start ["_law_state_here", "_law_world", "_law_scripts", "_law_envs", "_law_known", "_law_group", "_law_many", "_law_parts", "_law_k", "_law_giver", "_law_taker", "_law_script"] [v0, v1, v2, v3] = [some v0, some v1, some v2, some v3, none, none, none, none, none, none, none, none] := rfl
def t_l_shared (A : Ad) : TS :=
  (tSeq (tFor (iList A.K (tDGet (tVar 1) (tC (.str "cells")))) (gName 4) (tSeq (tAsg (tCall spDraw [] E0 (tCons (tVar 0) (tCons (tOp rAddA (tCB rLenA (tCons (tVar 2) tNil)) (tC (.int 1))) tNil))) (gName 5)) (tSeq (tFor (iRng1 (tCons (tCB rLenA (tCons (tVar 2) tNil)) tNil)) (gName 6) (tIfS (tTest (tOp (rIn A.K false) (tVar 5) (tTup (tCons (tVar 6) (tCons (tCB rLenA (tCons (tVar 2) tNil)) tNil))))) (tDrop (tBML rAppA (tDGet (tOp rIxA (tVar 2) (tVar 6)) (tC (.str "reads"))) (tCons (tVar 4) tNil))) tNext)) (tIfS (tTest (tOp (rI0 fun i j => .bl (decide (i < j))) (tVar 5) (tCB rLenA (tCons (tVar 2) tNil)))) (tDrop (tBML rAppA (tDGet (tOp rIxA (tVar 2) (tVar 5)) (tC (.str "cells"))) (tCons (tVar 4) tNil))) tNext)))) (tSeq (tFor (iList A.K (tDGet (tVar 1) (tC (.str "gives")))) (gName 7) (tSeq (tAsg (tCall spDraw [] E0 (tCons (tVar 0) (tCons (tCB rLenA (tCons (tVar 2) tNil)) tNil))) (gName 5)) (tSeq (tDrop (tBML rAppA (tDGet (tOp rIxA (tVar 2) (tVar 5)) (tC (.str "gives"))) (tCons (tVar 7) tNil))) (tAsg (tOp rAddA (tOp rIxA (tVar 3) (tVar 5)) (tLc (iRng1 (tCons (tCall spDraw [] E0 (tCons (tVar 0) (tCons (tC (.int 3)) tNil))) tNil)) (gName 6) tYes (tTup (tCons (tC (.str "give")) (tCons (tVar 7) (tCons (tC (.str "")) tNil)))) [6])) (gSub (tVar 3) (tVar 5) rSetA))))) (tFor (iList A.K (tDGet (tVar 1) (tC (.str "takes")))) (gName 7) (tSeq (tAsg (tCall spDraw [] E0 (tCons (tVar 0) (tCons (tCB rLenA (tCons (tVar 2) tNil)) tNil))) (gName 5)) (tSeq (tDrop (tBML rAppA (tDGet (tOp rIxA (tVar 2) (tVar 5)) (tC (.str "takes"))) (tCons (tVar 7) tNil))) (tAsg (tOp rAddA (tOp rIxA (tVar 3) (tVar 5)) (tLc (iRng1 (tCons (tCall spDraw [] E0 (tCons (tVar 0) (tCons (tC (.int 3)) tNil))) tNil)) (gName 6) tYes (tTup (tCons (tC (.str "take")) (tCons (tVar 7) (tCons (tC (.str "")) tNil)))) [6])) (gSub (tVar 3) (tVar 5) rSetA)))))))
theorem st_l_shared (v0 v1 v2 v3 : V) : L2.start ["_law_state_here", "_law_env_here", "_law_envs", "_law_scripts", "_law_cell", "_law_at", "_law_k", "_law_c"] [v0, v1, v2, v3] = [some v0, some v1, some v2, some v3, none, none, none, none] := rfl
def t_l_faulty (A : Ad) : TS :=
  (tSeq (tIfS (tAnd (tTest (tOp (rI0 fun i j => .bl (decide (j < i))) (tCB rLenA (tCons (tVar 1) tNil)) (tC (.int 1)))) (tTest (tOp (rEqA A.K) (tCall spDraw [] E0 (tCons (tVar 0) (tCons (tC (.int 6)) tNil))) (tC (.int 0))))) (tSeq (tAsg (tCall spDraw [] E0 (tCons (tVar 0) (tCons (tOp (rI0 fun i j => .int (i - j)) (tCB rLenA (tCons (tVar 1) tNil)) (tC (.int 1))) tNil))) (gName 2)) (tRet (tOp rAddA (tOp rAddA (tSl rSlA (tVar 1) tNoPart (tPart (tVar 2))) (tLst (tCons (tOp rIxA (tVar 1) (tOp rAddA (tVar 2) (tC (.int 1)))) (tCons (tOp rIxA (tVar 1) (tVar 2)) tNil)))) (tSl rSlA (tVar 1) (tPart (tOp rAddA (tVar 2) (tC (.int 2)))) tNoPart)))) tNext) (tSeq (tIfS (tAnd (tTest (tOp (rI0 fun i j => .bl (decide (j < i))) (tCB rLenA (tCons (tVar 1) tNil)) (tC (.int 0)))) (tTest (tOp (rEqA A.K) (tCall spDraw [] E0 (tCons (tVar 0) (tCons (tC (.int 12)) tNil))) (tC (.int 0))))) (tSeq (tAsg (tCall spDraw [] E0 (tCons (tVar 0) (tCons (tCB rLenA (tCons (tVar 1) tNil)) tNil))) (gName 2)) (tRet (tOp rAddA (tSl rSlA (tVar 1) tNoPart (tPart (tVar 2))) (tSl rSlA (tVar 1) (tPart (tOp rAddA (tVar 2) (tC (.int 1)))) tNoPart)))) tNext) (tRet (tVar 1))))
theorem st_l_faulty (v0 v1 : V) : L2.start ["_law_state_here", "_law_script", "_law_at"] [v0, v1] = [some v0, some v1, none] := rfl
def t_l_items (A : Ad) (n : Nat) : TS :=
  (tSeq (tAsg (tLst tNil) (gName 4)) (tSeq (tFor (iList A.K (tVar 3)) (gName 5) (tIfS (tTest (tOp (rI0 fun i j => .bl (decide (j < i))) (tDGet (tVar 2) (tC (.str "items"))) (tC (.int 0)))) (tSeq (sDPut (tVar 2) (tC (.str "items")) (tOp (rI0 fun i j => .int (i - j)) (tDGet (tVar 2) (tC (.str "items"))) (tC (.int 1)))) (tSeq (tIfS (tTest (tOp (rEqA A.K) (tCall spDraw [] E0 (tCons (tVar 0) (tCons (tC (.int 2)) tNil))) (tC (.int 0)))) (tDrop (tBML rAppA (tVar 4) (tCons (tCall (sp_l_simple A) [] E0 (tCons (tVar 0) (tCons (tVar 1) tNil))) tNil))) tNext) (tIfS (tTest (tOp (rEqA A.K) (tOp rIxA (tVar 5) (tC (.int 0))) (tC (.str "give")))) (tDrop (tBML rAppA (tVar 4) (tCons (tTup (tCons (tC (.str "give")) (tCons (tOp rIxA (tVar 5) (tC (.int 1))) (tCons (tCall (sp_l_expression A 2) [] E0 (tCons (tVar 0) (tCons (tVar 1) (tCons (tC (.int 2)) tNil)))) tNil)))) tNil))) (tIfS (tAnd (tTest (tOp (rEqA A.K) (tOp rIxA (tVar 5) (tC (.int 0))) (tC (.str "take")))) (tAnd (tTru A.K (tDGet (tVar 2) (tC (.str "alts")))) (tTest (tOp (rEqA A.K) (tCall spDraw [] E0 (tCons (tVar 0) (tCons (tC (.int 2)) tNil))) (tC (.int 0)))))) (tSeq (tDrop (tBML rAppA (tVar 4) (tCons (tCall (sp_l_alt A) [] E0 (tCons (tVar 0) (tCons (tVar 1) (tCons (tOp rIxA (tVar 5) (tC (.int 1))) tNil)))) tNil))) (tIfS (tAnd (tTest (tOp (rEqA A.K) (tOp rIxA (tVar 5) (tUn (rU fun i => .int (-i)) (tC (.int 1)))) (tC (.str "")))) (tTest (tOp (rEqA A.K) (tCall spDraw [] E0 (tCons (tVar 0) (tCons (tC (.int 6)) tNil))) (tC (.int 0))))) (tSeq (tAsg (tOp rIxA (tOp rIxA (tOp rIxA (tVar 4) (tUn (rU fun i => .int (-i)) (tC (.int 1)))) (tC (.int 1))) (tC (.int 0))) (gName 6)) (tAsg (tTup (tCons (tC (.str "alt")) (tCons (tOp rAddA (tLst (tCons (tOp (rCatT A.K) (tSl rSlA (tVar 6) tNoPart (tPart (tC (.int 3)))) (tTup (tCons (tCall (sp_parP A n) [] E0 (tCons (tVar 0) (tCons (tVar 1) (tCons (tVar 2) (tCons (tC (.int 0)) tNil))))) tNil))) tNil)) (tSl rSlA (tOp rIxA (tOp rIxA (tVar 4) (tUn (rU fun i => .int (-i)) (tC (.int 1)))) (tC (.int 1))) (tPart (tC (.int 1))) tNoPart)) tNil))) (gSub (tVar 4) (tUn (rU fun i => .int (-i)) (tC (.int 1))) rSetA))) tNext)) (tIfS (tTest (tOp (rEqA A.K) (tOp rIxA (tVar 5) (tC (.int 0))) (tC (.str "take")))) (tDrop (tBML rAppA (tVar 4) (tCons (tTup (tCons (tC (.str "take")) (tCons (tOp rIxA (tVar 5) (tC (.int 1))) (tCons (tCall (sp_l_target A) [] E0 (tCons (tVar 0) (tCons (tVar 1) tNil))) tNil)))) tNil))) (tIfS (tTest (tOp (rEqA A.K) (tOp rIxA (tVar 5) (tC (.int 0))) (tC (.str "loop")))) (tSeq (tAsg (tTup (tCons (tC (.str "cell")) (tCons (tOp rIxA (tVar 5) (tC (.int 3))) tNil))) (gName 7)) (tSeq (tAsg (tLc (iList A.K (tOp rIxA (tVar 5) (tC (.int 2)))) (gName 10) tYes (tTup (tCons (tOp rIxA (tVar 10) (tC (.int 0))) (tCons (tOp rIxA (tVar 10) (tC (.int 1))) (tCons (tC (.str "loop")) tNil)))) [10]) (gName 8)) (tSeq (tAsg (tOp rAddA (tCall (sp_itemsP A n) [] E0 (tCons (tVar 0) (tCons (tVar 1) (tCons (tVar 2) (tCons (tVar 8) tNil))))) (tLst (tCons (tTup (tCons (tC (.str "set")) (tCons (tVar 7) (tCons (tTup (tCons (tC (.str "+")) (tCons (tVar 7) (tCons (tTup (tCons (tC (.str "num")) (tCons (tC (.int 1)) tNil))) tNil)))) tNil)))) tNil))) (gName 9)) (tSeq (tDrop (tBML rAppA (tVar 4) (tCons (tTup (tCons (tC (.str "set")) (tCons (tVar 7) (tCons (tTup (tCons (tC (.str "num")) (tCons (tC (.int 0)) tNil))) tNil)))) tNil))) (tDrop (tBML rAppA (tVar 4) (tCons (tTup (tCons (tC (.str "repeat")) (tCons (tTup (tCons (tC (.str "<")) (tCons (tVar 7) (tCons (tTup (tCons (tC (.str "num")) (tCons (tOp rIxA (tVar 5) (tC (.int 1))) tNil))) tNil)))) (tCons (tOp rAddA (tOp rIxA (tVar 5) (tC (.int 1))) (tCall spDraw [] E0 (tCons (tVar 0) (tCons (tC (.int 2)) tNil)))) (tCons (tTup (tCons (tC (.str "seq")) (tCons (tVar 9) tNil))) tNil))))) tNil))))))) (tDrop (tBML rAppA (tVar 4) (tCons (tCall (sp_l_wrapped A) [] E0 (tCons (tVar 0) (tCons (tVar 1) (tCons (tVar 2) (tCons (tCall (sp_parP A n) [] E0 (tCons (tVar 0) (tCons (tVar 1) (tCons (tVar 2) (tCons (tC (.int 0)) tNil))))) tNil))))) tNil))))))))) tNext)) (tRet (tVar 4))))
theorem st_l_items (v0 v1 v2 v3 : V) : L2.start ["_law_state_here", "_law_env_here", "_law_world", "_law_items_here", "_law_found", "_law_item", "_law_row", "_law_counter", "_law_parts", "_law_inner", "_law_part"] [v0, v1, v2, v3] = [some v0, some v1, some v2, some v3, none, none, none, none, none, none, none] := rfl
def t_l_par (A : Ad) (n : Nat) : TS :=
  (tSeq (tAsg (tCB rMin2 (tCons (tDGet (tVar 2) (tC (.str "left"))) (tCons (tOp rAddA (tC (.int 2)) (tCall spDraw [] E0 (tCons (tVar 0) (tCons (tC (.int 3)) tNil)))) tNil))) (gName 4)) (tSeq (tIfS (tTest (tOp (rI0 fun i j => .bl (decide (i < j))) (tVar 4) (tC (.int 2)))) (tRet (tTup (tCons (tC (.str "skip")) tNil))) tNext) (tSeq (sDPut (tVar 2) (tC (.str "left")) (tOp (rI0 fun i j => .int (i - j)) (tDGet (tVar 2) (tC (.str "left"))) (tVar 4))) (tSeq (tAsg (tLc (iRng1 (tCons (tVar 4) tNil)) (gName 8) tYes (tCall (sp_l_env A) [] E0 (tCons (tVar 0) (tCons (tVar 2) tNil))) [8]) (gName 5)) (tSeq (tAsg (tLc (iRng1 (tCons (tVar 4) tNil)) (gName 8) tYes (tLst tNil) [8]) (gName 6)) (tSeq (tDrop (tCall (sp_l_meetings A) [] E0 (tCons (tVar 0) (tCons (tVar 2) (tCons (tVar 6) (tCons (tVar 5) tNil)))))) (tSeq (tDrop (tCall (sp_l_shared A) [] E0 (tCons (tVar 0) (tCons (tVar 1) (tCons (tVar 5) (tCons (tVar 6) tNil)))))) (tSeq (tAsg (tLst tNil) (gName 7)) (tSeq (tFor (iRng1 (tCons (tVar 4) tNil)) (gName 8) (tSeq (tAsg (tDGet (tVar 2) (tC (.str "threads"))) (gName 9)) (tSeq (sDPut (tVar 2) (tC (.str "threads")) (tOp rAddA (tVar 9) (tC (.int 1)))) (tSeq (tAsg (tCall (sp_l_faulty A) [] E0 (tCons (tVar 0) (tCons (tOp rIxA (tVar 6) (tVar 8)) tNil))) (gName 10)) (tSeq (tIfS (tAnd (tTest (tOp (rI0 fun i j => .bl (decide (j < i))) (tVar 3) (tC (.int 0)))) (tTest (tOp (rEqA A.K) (tCall spDraw [] E0 (tCons (tVar 0) (tCons (tC (.int 3)) tNil))) (tC (.int 0))))) (tSeq (tAsg (tCall spDraw [] E0 (tCons (tVar 0) (tCons (tOp rAddA (tCB rLenA (tCons (tVar 10) tNil)) (tC (.int 1))) tNil))) (gName 11)) (tAsg (tOp rAddA (tOp rAddA (tSl rSlA (tVar 10) tNoPart (tPart (tVar 11))) (tLst (tCons (tTup (tCons (tC (.str "nest")) tNil)) tNil))) (tSl rSlA (tVar 10) (tPart (tVar 11)) tNoPart)) (gName 10))) tNext) (tDrop (tBML rAppA (tVar 7) (tCons (tTup (tCons (tVar 9) (tCons (tTup (tCons (tC (.str "seq")) (tCons (tOp rAddA (tCall (sp_itemsP A n) [] E0 (tCons (tVar 0) (tCons (tOp rIxA (tVar 5) (tVar 8)) (tCons (tVar 2) (tCons (tVar 10) tNil))))) (tLst (tCons (tCall (sp_l_simple A) [] E0 (tCons (tVar 0) (tCons (tOp rIxA (tVar 5) (tVar 8)) tNil))) tNil))) tNil))) tNil))) tNil)))))))) (tRet (tTup (tCons (tC (.str "par")) (tCons (tVar 7) tNil)))))))))))))
theorem st_l_par (v0 v1 v2 v3 : V) : L2.start ["_law_state_here", "_law_env_here", "_law_world", "_law_deep", "_law_many", "_law_envs", "_law_scripts", "_law_rows", "_law_k", "_law_thread", "_law_script", "_law_at"] [v0, v1, v2, v3] = [some v0, some v1, some v2, some v3, none, none, none, none, none, none, none, none] := rfl
def t_l_core (A : Ad) : TS :=
  (tSeq (tAsg (tCall spDraw [] E0 (tCons (tVar 0) (tCons (tC (.int 3)) tNil))) (gName 2)) (tSeq (tAsg (tCall spDraw [] E0 (tCons (tVar 0) (tCons (tC (.int 3)) tNil))) (gName 3)) (tSeq (tAsg (tOp rAddA (tLc (iRng1 (tCons (tVar 2) tNil)) (gName 9) tYes (tC (.str "in")) [9]) (tLc (iRng1 (tCons (tVar 3) tNil)) (gName 9) tYes (tC (.str "out")) [9])) (gName 4)) (tSeq (tAsg (tOp (rEqA A.K) (tCall spDraw [] E0 (tCons (tVar 0) (tCons (tC (.int 2)) tNil))) (tC (.int 0))) (gName 5)) (tSeq (tAsg (tDisp [((tC (.str "threads")), (tC (.int 1))), ((tC (.str "left")), (tC (.int 11))), ((tC (.str "items")), (tIf (tTru A.K (tVar 5)) (tC (.int 10)) (tC (.int 14)))), ((tC (.str "cells")), (tC (.int 0))), ((tC (.str "channels")), (tVar 4)), ((tC (.str "alts")), (tVar 1)), ((tC (.str "loops")), (tVar 5))]) (gName 6)) (tSeq (tAsg (tCall (sp_l_env A) [] E0 (tCons (tVar 0) (tCons (tVar 6) tNil))) (gName 7)) (tSeq (sDPut (tVar 7) (tC (.str "takes")) (tLc (iRng1 (tCons (tVar 2) tNil)) (gName 10) tYes (tVar 10) [10])) (tSeq (sDPut (tVar 7) (tC (.str "gives")) (tLc (iRng1 (tCons (tVar 3) tNil)) (gName 10) tYes (tOp rAddA (tVar 2) (tVar 10)) [10])) (tSeq (tAsg (tLc (iRng1 (tCons (tCall spDraw [] E0 (tCons (tVar 0) (tCons (tC (.int 3)) tNil))) tNil)) (gName 9) tYes (tCall (sp_l_set A) [] E0 (tCons (tVar 0) (tCons (tVar 7) tNil))) [9]) (gName 8)) (tSeq (tFor (iRng1 (tCons (tOp rAddA (tC (.int 1)) (tCall spDraw [] E0 (tCons (tVar 0) (tCons (tC (.int 2)) tNil)))) tNil)) (gName 9) (tSeq (tDrop (tBML rAppA (tVar 8) (tCons (tCall (sp_l_par A 11) [] E0 (tCons (tVar 0) (tCons (tVar 7) (tCons (tVar 6) (tCons (tC (.int 1)) tNil))))) tNil))) (tDrop (tBML rAppA (tVar 8) (tCons (tCall (sp_l_simple A) [] E0 (tCons (tVar 0) (tCons (tVar 7) tNil))) tNil))))) (tSeq (tFor (iList A.K (tDGet (tVar 7) (tC (.str "gives")))) (gName 10) (tIfS (tTest (tOp (rEqA A.K) (tCall spDraw [] E0 (tCons (tVar 0) (tCons (tC (.int 2)) tNil))) (tC (.int 0)))) (tDrop (tBML rAppA (tVar 8) (tCons (tTup (tCons (tC (.str "give")) (tCons (tVar 10) (tCons (tCall (sp_l_expression A 2) [] E0 (tCons (tVar 0) (tCons (tVar 7) (tCons (tC (.int 2)) tNil)))) tNil)))) tNil))) tNext)) (tRet (tTup (tCons (tC (.str "core")) (tCons (tDGet (tVar 6) (tC (.str "cells"))) (tCons (tDGet (tVar 6) (tC (.str "channels"))) (tCons (tTup (tCons (tC (.str "seq")) (tCons (tVar 8) tNil))) tNil)))))))))))))))))
theorem st_l_core (v0 v1 : V) : L2.start ["_law_state_here", "_law_alts", "_law_ins", "_law_outs", "_law_channels", "_law_loops", "_law_world", "_law_env_here", "_law_body", "_law_k", "_law_c"] [v0, v1] = [some v0, some v1, none, none, none, none, none, none, none, none, none] := rfl

theorem frz {a c p : Addr} {B H : Hp} {ls ls' l1 : List (Addr × HO)} {o : HO} (O : Own a c B H ((p, o) :: ls)) (h : Pre ls' ls l1) : ∃ B', Same B B' ∧ B' p = some o ∧ Own a c B' H ls' := by
  obtain ⟨B', s, hp, O⟩ := O.freeze
  exact ⟨B', s, hp, O.dropP h⟩
theorem len_l_number (A : Ad) {vs : List V} {H : Hp} {Q : VK} {E : XK} (h : sp_l_number A vs H Q E) : vs.length = 1 := by
  obtain ⟨a, c, B, ls, rfl, _⟩ := h
  rfl
theorem len_l_operator (A : Ad) {vs : List V} {H : Hp} {Q : VK} {E : XK} (h : sp_l_operator A vs H Q E) : vs.length = 1 := by
  obtain ⟨a, c, B, ls, rfl, _⟩ := h
  rfl
theorem len_l_index (A : Ad) {vs : List V} {H : Hp} {Q : VK} {E : XK} (h : sp_l_index A vs H Q E) : vs.length = 3 := by
  obtain ⟨a, c, B, ls, e, en, C, K, z, rfl, _⟩ := h
  rfl
theorem len_l_read (A : Ad) {vs : List V} {H : Hp} {Q : VK} {E : XK} (h : sp_l_read A vs H Q E) : vs.length = 2 := by
  obtain ⟨a, c, B, ls, e, en, C, K, rfl, _⟩ := h
  rfl
theorem len_l_target (A : Ad) {vs : List V} {H : Hp} {Q : VK} {E : XK} (h : sp_l_target A vs H Q E) : vs.length = 2 := by
  obtain ⟨a, c, B, ls, e, en, C, K, rfl, _⟩ := h
  rfl
theorem len_l_expression (A : Ad) {n : Nat} {vs : List V} {H : Hp} {Q : VK} {E : XK} (h : sp_l_expression A n vs H Q E) : vs.length = 3 := by
  obtain ⟨a, c, B, ls, e, en, C, K, d, rfl, _⟩ := h
  rfl
theorem len_l_set (A : Ad) {vs : List V} {H : Hp} {Q : VK} {E : XK} (h : sp_l_set A vs H Q E) : vs.length = 2 := by
  obtain ⟨a, c, B, ls, e, en, C, K, rfl, _⟩ := h
  rfl
theorem len_l_simple (A : Ad) {vs : List V} {H : Hp} {Q : VK} {E : XK} (h : sp_l_simple A vs H Q E) : vs.length = 2 := by
  obtain ⟨a, c, B, ls, e, en, C, K, rfl, _⟩ := h
  rfl
set_option maxHeartbeats 32000000 in
theorem pure_l_number (A : Ad) (vs : List V) (H : Hp) (Q : VK) (E : XK) (h : sp_l_number A vs H Q E) : t_l_number A { nx := fun _ H' => Q .non H', rt := Q } (L2.start ["_law_state_here"] vs) H := by
  obtain ⟨a, c, B, ls, rfl, O, k⟩ := h
  rw [st_l_number]
  unfold t_l_number
  fail "s"
  rename_i r1 K1 r10 r11 O1 r2 K2 r20 r21 O2 p K4 O4
  refine i_pickO O4 rfl List.mem_cons_self (by simp) (by simp) fun v H5 hv O => ?_
  obtain ⟨i, rfl, i0, i1⟩ : ∃ i : Int, v = .int i ∧ 0 ≤ i ∧ i ≤ 65535 := by
    simp only [List.mem_cons, List.not_mem_nil, or_false] at hv
    rcases hv with rfl | rfl | rfl | rfl | rfl | rfl | rfl
    all_goals exact ⟨_, rfl, by omega, by omega⟩
  fail "s"
  rename_i t H6 O
  obtain ⟨B2, s2, ht, O⟩ := frz (ls' := ls) O (by fail "p")
  exact k t _ B2 i s2 (.tup ht (.cons (.str _) (.cons (.int _) .nil))) i0 i1 O
set_option maxHeartbeats 32000000 in
theorem pure_l_operator (A : Ad) (vs : List V) (H : Hp) (Q : VK) (E : XK) (h : sp_l_operator A vs H Q E) : t_l_operator A { nx := fun _ H' => Q .non H', rt := Q } (L2.start ["_law_state_here"] vs) H := by
  obtain ⟨a, c, B, ls, rfl, O, k⟩ := h
  rw [st_l_operator]
  unfold t_l_operator
  fail "s"
  rename_i p H1 O
  refine i_pickO O rfl List.mem_cons_self (by simp) (by simp) fun v H2 hv O => ?_
  fail "s"
  rename_i p H3 O
  refine i_pickO O rfl List.mem_cons_self (by simp) (by simp) fun w H4 hw O => ?_
  obtain ⟨o, rfl, ho⟩ : ∃ o : Str, w = .str o ∧ o ∈ opsL := by
    simp only [List.mem_cons, List.not_mem_nil, or_false] at hv hw
    rcases hv with rfl | rfl <;> rcases hw with rfl | rfl | rfl | rfl | rfl | rfl | rfl | rfl | rfl | rfl | rfl | rfl | rfl
    all_goals exact ⟨_, rfl, by decide +kernel⟩
  exact k o _ ho (O.dropP (by fail "p"))
set_option maxHeartbeats 32000000 in
theorem pure_l_index (A : Ad) (vs : List V) (H : Hp) (Q : VK) (E : XK) (h : sp_l_index A vs H Q E) : t_l_index A { nx := fun _ H' => Q .non H', rt := Q } (L2.start ["_law_state_here", "_law_env_here", "_law_size", "_law_cell"] vs) H := by
  obtain ⟨a, c, B, ls, e, en, C, K, z, rfl, O, EB, eo, z1, z4, hC, hK, k⟩ := h
  obtain ⟨ec, er, es, eg, et, sv, he, hec, her, hes, hsv, heg, het⟩ := EB
  rw [st_l_index]
  unfold t_l_index
  unfold enO at he
  fail "s"
  refine i_pickB O rfl her (nv_nil eo.r0) (by have := eo.lr; rw [nv_len]; omega) fun v H1 hv O => ?_
  obtain ⟨r, hr, rfl⟩ := nv_mem hv
  have rC := eo.r r hr
  fail "s"
  rename_i t H2 O2 d H3 d0 d1 O
  refine i_d2 (fun _ => ?_) (fun _ => ?_)
  · fail "s"
    obtain ⟨B2, s2, ht, O⟩ := frz (ls' := ls) O (by fail "p")
    exact k t _ B2 (.cell r) s2 (.tup ht (.cons (.str _) (.cons (.int _) .nil))) rC (by show 20 ≤ 80; decide) (.tup (n := 1) (.cons (.str (by decide +kernel)) (.cons .int .nil))) O
  · fail "s"
    rename_i t2 H4 O4 t3 H5 O
    obtain ⟨B2, s2, h3, O⟩ := O.freeze
    obtain ⟨B3, s3, h2, O⟩ := O.freeze
    obtain ⟨B4, s4, h1, O⟩ := O.freeze
    have x1 : Dt B4 (.ref t) (Ex.D (.cell r)) := .tup h1 (.cons (.str _) (.cons (.int _) .nil))
    have x2 : Dt B4 (.ref t2) (Ex.D (.num z)) := .tup (s4 _ _ h2) (.cons (.str _) (.cons (.int _) .nil))
    exact k t3 _ B4 (.bin "mod" (.cell r) (.num z)) (Same.trans s2 (Same.trans s3 s4)) (.tup (s4 _ _ (s3 _ _ h3)) (.cons (.str _) (.cons x1 (.cons x2 .nil)))) ⟨by decide +kernel, rC, by omega, by omega⟩ (by show 30 + 20 + 20 ≤ 80; decide) (.tup (n := 1) (.cons (.str (by decide +kernel)) (.cons (.tup (n := 0) (.cons (.str (by decide +kernel)) (.cons .int .nil))) (.cons (.tup (n := 0) (.cons (.str (by decide +kernel)) (.cons .int .nil))) .nil)))) O
theorem pz_get {l : List (Nat × Nat)} {j : Int × Int} (h : j ∈ pz l) : ∃ p ∈ l, j = ((p.1 : Int), (p.2 : Int)) := by
  obtain ⟨p, h1, h2⟩ := List.mem_map.mp h
  exact ⟨p, h1, h2.symm⟩
theorem paired_mem {α β : Type} {R : α → β → Prop} {xs : List α} {ys : List β} (h : Paired R xs ys) {x : α} (hx : x ∈ xs) : ∃ y ∈ ys, R x y := by
  obtain ⟨i, hi⟩ := List.mem_iff_getElem?.mp hx
  obtain ⟨y, h1, h2⟩ := Lb.Paired.at h hi
  exact ⟨y, List.mem_of_getElem? h1, h2⟩
theorem arr_xb {C f z : Nat} {x : Ex} (h : f + z ≤ C) (h1 : 1 ≤ z) (h4 : z ≤ 4) (ok : x.ok C) (wt : x.wt ≤ 80) (sh : Sh 2 x.D) : XB C 0 (.arr f z x) := ⟨⟨h, h1, h4, ok⟩, by show 40 + x.wt ≤ 130; omega, .tup (n := 2) (.cons (.str (by decide +kernel)) (.cons .int (.cons .int (.cons sh .nil))))⟩
set_option maxHeartbeats 32000000 in
theorem pure_l_read (A : Ad) (vs : List V) (H : Hp) (Q : VK) (E : XK) (h : sp_l_read A vs H Q E) : t_l_read A { nx := fun _ H' => Q .non H', rt := Q } (L2.start ["_law_state_here", "_law_env_here", "_law_first", "_law_size"] vs) H := by
  obtain ⟨a, c, B, ls, e, en, C, K, rfl, O, EB, eo, hC, hK, k⟩ := h
  have EB0 := EB
  obtain ⟨ec, er, es, eg, et, sv, he, hec, her, hes, hsv, heg, het⟩ := EB
  unfold enO at he
  rw [st_l_read]
  unfold t_l_read
  have tail : ∀ H', Own a c B H' ls → tRet (tTup (tCons (tC (.str "cell")) (tCons (tCall spPick [] E0 (tCons (tVar 0) (tCons (tDGet (tVar 1) (tC (.str "reads"))) tNil))) tNil))) { nx := fun _ H' => Q .non H', rt := Q } [some (.ref a), some (.ref e), none, none] H' := by
    intro H' O
    fail "s"
    refine i_pickB O rfl her (nv_nil eo.r0) (by have := eo.lr; rw [nv_len]; omega) fun v H1 hv O => ?_
    obtain ⟨r, hr, rfl⟩ := nv_mem hv
    fail "s"
    rename_i t H2 O
    obtain ⟨B2, s2, ht, O⟩ := frz (ls' := ls) O (by fail "p")
    exact k t _ B2 (.cell r) s2 (.tup ht (.cons (.str _) (.cons (.int _) .nil))) (.cell (eo.r r hr)) O
  fail "s"
  refine i_d2 (fun h1 => ?_) (fun h1 => ?_)
  · fail "s"
    rename_i r1 H1 _ _ O
    refine i_d2 (fun _ => ?_) (fun _ => tail _ O)
    fail "s"
    refine i_pickB O rfl hes (fun z => by rw [z] at h1; exact absurd h1 (by decide)) (by have := eo.lS; have := hsv.length; unfold pz at this; rw [List.length_map] at this; omega) fun v H2 hv O => ?_
    obtain ⟨j, hj, t, rfl, ht⟩ := paired_mem hsv hv
    obtain ⟨⟨f, z⟩, hp, rfl⟩ := pz_get hj
    obtain ⟨q1, q2, q3⟩ := eo.s _ hp
    fail "s"
    refine ⟨a, c, B, ls, e, en, C, K, z, rfl, O, EB0, eo, q2, q3, hC, hK, fun p H' B2 x s2 dx ok wt sh O => ?_⟩
    fail "s"
    rename_i t2 H4 O
    obtain ⟨B3, s3, h3, O⟩ := frz (ls' := ls) O (by fail "p")
    exact k t2 _ B3 (.arr f z x) (Same.trans s2 s3) (.tup h3 (.cons (.str _) (.cons (.int _) (.cons (.int _) (.cons (dx.mono s3) .nil))))) (arr_xb q1 q2 q3 ok wt sh) O
  · exact tail _ O
set_option maxHeartbeats 32000000 in
theorem pure_l_target (A : Ad) (vs : List V) (H : Hp) (Q : VK) (E : XK) (h : sp_l_target A vs H Q E) : t_l_target A { nx := fun _ H' => Q .non H', rt := Q } (L2.start ["_law_state_here", "_law_env_here", "_law_first", "_law_size"] vs) H := by
  obtain ⟨a, c, B, ls, e, en, C, K, rfl, O, EB, eo, hC, hK, k⟩ := h
  have EB0 := EB
  obtain ⟨ec, er, es, eg, et, sv, he, hec, her, hes, hsv, heg, het⟩ := EB
  unfold enO at he
  rw [st_l_target]
  unfold t_l_target
  have tail : ∀ H', Own a c B H' ls → tRet (tTup (tCons (tC (.str "cell")) (tCons (tCall spPick [] E0 (tCons (tVar 0) (tCons (tDGet (tVar 1) (tC (.str "cells"))) tNil))) tNil))) { nx := fun _ H' => Q .non H', rt := Q } [some (.ref a), some (.ref e), none, none] H' := by
    intro H' O
    fail "s"
    refine i_pickB O rfl hec (nv_nil eo.c0) (by have := eo.lc; rw [nv_len]; omega) fun v H1 hv O => ?_
    obtain ⟨r, hr, rfl⟩ := nv_mem hv
    fail "s"
    rename_i t H2 O
    obtain ⟨B2, s2, ht, O⟩ := frz (ls' := ls) O (by fail "p")
    exact k t _ B2 (.cell r) s2 (.tup ht (.cons (.str _) (.cons (.int _) .nil))) (.cell (eo.c r hr)) .cell O
  fail "s"
  refine i_d2 (fun h1 => ?_) (fun h1 => ?_)
  · fail "s"
    rename_i r1 H1 _ _ O
    refine i_d2 (fun _ => ?_) (fun _ => tail _ O)
    fail "s"
    refine i_pickB O rfl hes (fun z => by rw [z] at h1; exact absurd h1 (by decide)) (by have := eo.lS; have := hsv.length; unfold pz at this; rw [List.length_map] at this; omega) fun v H2 hv O => ?_
    obtain ⟨j, hj, t, rfl, ht⟩ := paired_mem hsv hv
    obtain ⟨⟨f, z⟩, hp, rfl⟩ := pz_get hj
    obtain ⟨q1, q2, q3⟩ := eo.s _ hp
    fail "s"
    refine ⟨a, c, B, ls, e, en, C, K, z, rfl, O, EB0, eo, q2, q3, hC, hK, fun p H' B2 x s2 dx ok wt sh O => ?_⟩
    fail "s"
    rename_i t2 H4 O
    obtain ⟨B3, s3, h3, O⟩ := frz (ls' := ls) O (by fail "p")
    exact k t2 _ B3 (.arr f z x) (Same.trans s2 s3) (.tup h3 (.cons (.str _) (.cons (.int _) (.cons (.int _) (.cons (dx.mono s3) .nil))))) (arr_xb q1 q2 q3 ok wt sh) .arr O
  · exact tail _ O

set_option Elab.async false
set_option linter.all false
set_option maxRecDepth 100000
set_option maxHeartbeats 4000000
open PySem PySem.Spec PyProof.Rows L2 Lb


set_option maxHeartbeats 32000000 in
theorem pure_l_expression (A : Ad) (n : Nat) (vs : List V) (H : Hp) (Q : VK) (E : XK) (h : sp_l_expression A n vs H Q E) : t_l_expression A n { nx := fun _ H' => Q .non H', rt := Q } (L2.start ["_law_state_here", "_law_env_here", "_law_deep", "_law_kind", "_law_first"] vs) H := by
  obtain ⟨a, c, B, ls, e, en, C, K, d, rfl, hd, O, EB, eo, hC, hK, k⟩ := h
  have EB0 := EB
  obtain ⟨ec, er, es, eg, et, sv, he, hec, her, hes, hsv, heg, het⟩ := EB
  unfold enO at he
  rw [st_l_expression]
  unfold t_l_expression
  have leaf : ∀ (kd : Int) H', Own a c B H' ls → (tSeq (tIfS (tAnd (tTest (tOp (rI0 fun i j => .bl (decide (j < i))) (tCB rLenA (tCons (tDGet (tVar 1) (tC (.str "reads"))) tNil)) (tC (.int 0)))) (tTest (tOp (rI0 fun i j => .bl (decide (j < i))) (tCall spDraw [] E0 (tCons (tVar 0) (tCons (tC (.int 3)) tNil))) (tC (.int 0))))) (tRet (tCall (sp_l_read A) [] E0 (tCons (tVar 0) (tCons (tVar 1) tNil)))) tNext) (tRet (tCall (sp_l_number A) [] E0 (tCons (tVar 0) tNil)))) { nx := fun _ H' => Q .non H', rt := Q } [some (.ref a), some (.ref e), some (.int (d : Nat)), some (.int kd), none] H' := by
    intro kd H' O
    have num : ∀ H', Own a c B H' ls → tRet (tCall (sp_l_number A) [] E0 (tCons (tVar 0) tNil)) { nx := fun _ H' => Q .non H', rt := Q } [some (.ref a), some (.ref e), some (.int (d : Nat)), some (.int kd), none] H' := by
      intro H' O
      fail "s"
      exact ⟨a, c, B, ls, rfl, O, fun p H2 B2 i s2 dx i0 i1 O => k p H2 B2 (.num i) s2 dx (.num i0 i1) O⟩
    fail "s"
    refine i_d2 (fun h1 => ?_) (fun h1 => num _ O)
    fail "s"
    rename_i r1 H1 _ _ O
    refine i_d2 (fun _ => ?_) (fun _ => num _ O)
    fail "s"
    exact ⟨a, c, B, ls, e, en, C, K, rfl, O, EB0, eo, hC, hK, fun p H2 B2 x s2 dx xb O => k p H2 B2 x s2 dx (xb.up (Nat.zero_le _)) O⟩
  fail "s"
  rename_i kd H1 k0 k1 O1
  have O := O1
  refine i_d2 (fun h1 => ?_) (fun h1 => ?_)
  · exact leaf kd _ O
  · fail "o"
    fail "o"
    fail "o"
    fail "o"
    fail "o"
    fail "o"
    refine i_d2 (fun h2 => leaf kd _ O) (fun h2 => ?_)
    obtain ⟨d, rfl⟩ : ∃ j, d = j + 1 := ⟨d - 1, by omega⟩
    obtain ⟨n, rfl⟩ : ∃ j, n = j + 1 := ⟨n - 1, by omega⟩
    have ed : ((d + 1 : Nat) : Int) - 1 = (d : Nat) := by omega
    fail "s"
    refine i_d2 (fun h3 => ?_) (fun h3 => ?_)
    · fail "s"
      rename_i p H2 O
      refine i_pickO O rfl List.mem_cons_self (by simp) (by simp) fun v H3 hv O => ?_
      obtain ⟨o, rfl, ho⟩ : ∃ o : Str, v = .str o ∧ o ∈ unL := by
        simp only [List.mem_cons, List.not_mem_nil, or_false] at hv
        rcases hv with rfl | rfl
        all_goals exact ⟨_, rfl, by decide +kernel⟩
      fail "s"
      rw [ed]
      refine ⟨a, c, B, _, e, en, C, K, d, rfl, by omega, O, EB0, eo, hC, hK, fun q H4 B2 x s2 dx xb O => ?_⟩
      fail "s"
      rename_i t H5 O
      obtain ⟨B3, s3, h3, O⟩ := frz (ls' := ls) O (by fail "p")
      exact k t _ B3 (.un o x) (Same.trans s2 s3) (.tup h3 (.cons (.str _) (.cons (dx.mono s3) .nil))) (.un ho xb) O
    · fail "s"
      rw [ed]
      refine ⟨a, c, B, ls, e, en, C, K, d, rfl, by omega, O, EB0, eo, hC, hK, fun q H4 B2 x s2 dx xb O => ?_⟩
      fail "s"
      refine ⟨a, c, B2, ls, rfl, O, fun o H5 ho O => ?_⟩
      fail "s"
      rw [ed]
      refine ⟨a, c, B2, ls, e, en, C, K, d, rfl, by omega, O, EB0.mono s2, eo, hC, hK, fun q2 H4 B3 y s3 dy yb O => ?_⟩
      fail "s"
      rename_i t H5 O
      obtain ⟨B4, s4, h4, O⟩ := frz (ls' := ls) O (by fail "p")
      exact k t _ B4 (.bin o x y) (Same.trans s2 (Same.trans s3 s4)) (.tup h4 (.cons (.str _) (.cons (dx.mono (Same.trans s3 s4)) (.cons (dy.mono s4) .nil)))) (.bin ho xb yb) O
theorem set_sb {C K : Nat} {t x : Ex} (ht : XB C 0 t) (tg : t.tg) (hx : XB C 2 x) : SB C K 6 800 (.set t x) :=
  ⟨⟨ht.ok, tg, hx.ok⟩, by
    have h1 : t.wt ≤ 130 := ht.wt
    have h2 : x.wt ≤ 610 := hx.wt
    show 20 + t.wt + x.wt ≤ 800
    omega, .tup (n := 5) (.cons (.str (by decide +kernel)) (.cons (ht.sh.mono (by decide)) (.cons hx.sh .nil)))⟩
set_option maxHeartbeats 32000000 in
theorem pure_l_set (A : Ad) (vs : List V) (H : Hp) (Q : VK) (E : XK) (h : sp_l_set A vs H Q E) : t_l_set A { nx := fun _ H' => Q .non H', rt := Q } (L2.start ["_law_state_here", "_law_env_here"] vs) H := by
  obtain ⟨a, c, B, ls, e, en, C, K, rfl, O, EB, eo, hC, hK, k⟩ := h
  rw [st_l_set]
  unfold t_l_set
  fail "s"
  refine ⟨a, c, B, ls, e, en, C, K, rfl, O, EB, eo, hC, hK, fun p H1 B1 t s1 dt tb tg O => ?_⟩
  fail "s"
  refine ⟨a, c, B1, ls, e, en, C, K, 2, rfl, by decide, O, EB.mono s1, eo, hC, hK, fun q H2 B2 x s2 dx xb O => ?_⟩
  fail "s"
  rename_i r H3 O
  obtain ⟨B3, s3, h3, O⟩ := frz (ls' := ls) O (by fail "p")
  exact k r _ B3 t x (Same.trans s1 (Same.trans s2 s3)) (.tup h3 (.cons (.str _) (.cons (dt.mono (Same.trans s2 s3)) (.cons (dx.mono s3) .nil)))) (set_sb tb tg xb) O
theorem mx_sb {C K n w : Nat} {s t : Sm} (hs : SB C K n w s) (ht : SB C K n w t) : SB C K (n + 2) (2 * w + 60) (.seq [s, t]) :=
  ⟨⟨hs.ok, ht.ok, trivial⟩, by
    have h1 := hs.wt
    have h2 := ht.wt
    show 20 + (s.wt + 20 + (t.wt + 20 + 0)) ≤ _
    omega, .tup (n := n + 1) (.cons (.str (by decide +kernel)) (.cons (.lst (n := n) (.cons hs.sh (.cons ht.sh .nil))) .nil))⟩
set_option maxHeartbeats 32000000 in
theorem pure_l_simple (A : Ad) (vs : List V) (H : Hp) (Q : VK) (E : XK) (h : sp_l_simple A vs H Q E) : t_l_simple A { nx := fun _ H' => Q .non H', rt := Q } (L2.start ["_law_state_here", "_law_env_here", "_law_kind", "_law_cell", "_law_more"] vs) H := by
  obtain ⟨a, c, B, ls, e, en, C, K, rfl, O, EB, eo, hC, hK, k⟩ := h
  have EB0 := EB
  obtain ⟨ec, er, es, eg, et, sv, he, hec, her, hes, hsv, heg, het⟩ := EB
  unfold enO at he
  rw [st_l_simple]
  unfold t_l_simple
  fail "s"
  rename_i kd H1 k0 k1 O
  refine i_d2 (fun h1 => ?_) (fun h1 => ?_)
  · fail "s"
    rename_i t H2 O
    obtain ⟨B2, s2, h2, O⟩ := frz (ls' := ls) O (by fail "p")
    exact k t _ B2 .skip s2 (.tup h2 (.cons (.str _) .nil)) ⟨trivial, by show 20 ≤ 3000; decide, .tup (n := 8) (.cons (.str (by decide +kernel)) .nil)⟩ rfl O
  have rest : ∀ H', Own a c B H' ls → (tSeq (tIfS (tTest (tOp (rEqA A.K) (tVar 2) (tC (.int 2)))) (tRet (tTup (tCons (tC (.str "if")) (tCons (tCall (sp_l_expression A 2) [] E0 (tCons (tVar 0) (tCons (tVar 1) (tCons (tC (.int 1)) tNil)))) (tCons (tCall (sp_l_set A) [] E0 (tCons (tVar 0) (tCons (tVar 1) tNil))) (tCons (tTup (tCons (tC (.str "seq")) (tCons (tLst (tCons (tCall (sp_l_set A) [] E0 (tCons (tVar 0) (tCons (tVar 1) tNil))) (tCons (tCall (sp_l_set A) [] E0 (tCons (tVar 0) (tCons (tVar 1) tNil))) tNil))) tNil))) tNil)))))) tNext) (tSeq (tIfS (tTest (tOp (rEqA A.K) (tVar 2) (tC (.int 3)))) (tSeq (tAsg (tTup (tCons (tC (.str "cell")) (tCons (tCall spPick [] E0 (tCons (tVar 0) (tCons (tDGet (tVar 1) (tC (.str "cells"))) tNil))) tNil))) (gName 3)) (tSeq (tAsg (tTup (tCons (tC (.str "set")) (tCons (tVar 3) (tCons (tTup (tCons (tC (.str "+")) (tCons (tVar 3) (tCons (tTup (tCons (tC (.str "num")) (tCons (tOp rAddA (tC (.int 1)) (tCall spDraw [] E0 (tCons (tVar 0) (tCons (tC (.int 3)) tNil)))) tNil))) tNil)))) tNil)))) (gName 4)) (tRet (tTup (tCons (tC (.str "repeat")) (tCons (tTup (tCons (tC (.str "<")) (tCons (tVar 3) (tCons (tTup (tCons (tC (.str "num")) (tCons (tCall spDraw [] E0 (tCons (tVar 0) (tCons (tC (.int 9)) tNil))) tNil))) tNil)))) (tCons (tCall spDraw [] E0 (tCons (tVar 0) (tCons (tC (.int 4)) tNil))) (tCons (tVar 4) tNil)))))))) tNext) (tRet (tCall (sp_l_set A) [] E0 (tCons (tVar 0) (tCons (tVar 1) tNil)))))) { nx := fun _ H' => Q .non H', rt := Q } [some (.ref a), some (.ref e), some (.int kd), none, none] H' := by
    intro H' O
    fail "s"
    refine i_d2 (fun h3 => ?_) (fun h3 => ?_)
    · fail "s"
      refine ⟨a, c, B, ls, e, en, C, K, 1, rfl, by decide, O, EB0, eo, hC, hK, fun p H2 B2 x s2 dx xb O => ?_⟩
      fail "s"
      refine ⟨a, c, B2, ls, e, en, C, K, rfl, O, EB0.mono s2, eo, hC, hK, fun p3 H3 B3 t3 x3 s3 d3 b3 O => ?_⟩
      fail "s"
      refine ⟨a, c, B3, ls, e, en, C, K, rfl, O, EB0.mono (Same.trans s2 s3), eo, hC, hK, fun p4 H4 B4 t4 x4 s4 d4 b4 O => ?_⟩
      fail "s"
      refine ⟨a, c, B4, ls, e, en, C, K, rfl, O, EB0.mono (Same.trans s2 (Same.trans s3 s4)), eo, hC, hK, fun p5 H5 B5 t5 x5 s5 d5 b5 O => ?_⟩
      fail "s"
      rename_i l6 H6 O6 p7 H7 O7 p8 H8 O
      obtain ⟨B6, s6, h8, O⟩ := O.freeze
      obtain ⟨B7, s7, h7, O⟩ := O.freeze
      obtain ⟨B8, s8, h6, O⟩ := O.freeze
      have dq : Dt B8 (.ref p7) (Sm.D (.seq [.set t4 x4, .set t5 x5])) := .tup (s8 _ _ h7) (.cons (.str _) (.cons (.lst h6 (.cons (d4.mono (Same.trans s5 (Same.trans s6 (Same.trans s7 s8)))) (.cons (d5.mono (Same.trans s6 (Same.trans s7 s8))) .nil))) .nil))
      have bq := mx_sb b4 b5
      refine k p8 _ B8 (.ite x (.set t3 x3) (.seq [.set t4 x4, .set t5 x5])) (Same.trans s2 (Same.trans s3 (Same.trans s4 (Same.trans s5 (Same.trans s6 (Same.trans s7 s8)))))) (.tup (s8 _ _ (s7 _ _ h8)) (.cons (.str _) (.cons (dx.mono (Same.trans s3 (Same.trans s4 (Same.trans s5 (Same.trans s6 (Same.trans s7 s8)))))) (.cons (d3.mono (Same.trans s4 (Same.trans s5 (Same.trans s6 (Same.trans s7 s8))))) (.cons dq .nil))))) ?_ rfl O
      refine ⟨⟨xb.ok, b3.ok, bq.ok⟩, ?_, .tup (n := 8) (.cons (.str (by decide +kernel)) (.cons (xb.sh.mono (by decide)) (.cons (b3.sh.mono (by decide)) (.cons bq.sh .nil))))⟩
      have h1 : x.wt ≤ 290 := xb.wt
      have h2 := b3.wt
      have h3 := bq.wt
      show 20 + x.wt + Sm.wt (.set t3 x3) + Sm.wt (.seq [.set t4 x4, .set t5 x5]) ≤ 3000
      omega
    · fail "s"
      refine i_d2 (fun h4 => ?_) (fun h4 => ?_)
      · fail "s"
        refine i_pickB O rfl hec (nv_nil eo.c0) (by have := eo.lc; rw [nv_len]; omega) fun v H1 hv O => ?_
        obtain ⟨r, hr, rfl⟩ := nv_mem hv
        have rC := eo.c r hr
        fail "s"
        rename_i pc H2 O2 r3 H3 r30 r31 O3 pn H4 O4 pb H5 O5 ps H6 O6 r7 H7 r70 r71 O7 pm H8 O8 pl H9 O9 r10 H10 r100 r101 O10 pr H11 O
        obtain ⟨B2, s2, f1, O⟩ := O.freeze
        obtain ⟨B3, s3, f2, O⟩ := O.freeze
        obtain ⟨B4, s4, f3, O⟩ := O.freeze
        obtain ⟨B5, s5, f4, O⟩ := O.freeze
        obtain ⟨B6, s6, f5, O⟩ := O.freeze
        obtain ⟨B7, s7, f6, O⟩ := O.freeze
        obtain ⟨B8, s8, f7, O⟩ := O.freeze
        have f1 := s8 _ _ (s7 _ _ (s6 _ _ (s5 _ _ (s4 _ _ (s3 _ _ f1)))))
        have f2 := s8 _ _ (s7 _ _ (s6 _ _ (s5 _ _ (s4 _ _ f2))))
        have f3 := s8 _ _ (s7 _ _ (s6 _ _ (s5 _ _ f3)))
        have f4 := s8 _ _ (s7 _ _ (s6 _ _ f4))
        have f5 := s8 _ _ (s7 _ _ f5)
        have f6 := s8 _ _ f6
        have dc : Dt B8 (.ref pc) (Ex.D (.cell r)) := .tup f7 (.cons (.str _) (.cons (.int _) .nil))
        have dn : Dt B8 (.ref pn) (Ex.D (.num (1 + r3))) := .tup f6 (.cons (.str _) (.cons (.int _) .nil))
        have db : Dt B8 (.ref pb) (Ex.D (.bin "+" (.cell r) (.num (1 + r3)))) := .tup f5 (.cons (.str _) (.cons dc (.cons dn .nil)))
        have ds : Dt B8 (.ref ps) (Sm.D (.set (.cell r) (.bin "+" (.cell r) (.num (1 + r3))))) := .tup f4 (.cons (.str _) (.cons dc (.cons db .nil)))
        have dm : Dt B8 (.ref pm) (Ex.D (.num r7)) := .tup f3 (.cons (.str _) (.cons (.int _) .nil))
        have dl : Dt B8 (.ref pl) (Ex.D (.bin "<" (.cell r) (.num r7))) := .tup f2 (.cons (.str _) (.cons dc (.cons dm .nil)))
        have b1 : XB C 1 (.bin "+" (.cell r) (.num (1 + r3))) := .bin (by decide +kernel) (.cell rC) (.num (by omega) (by omega))
        have b2 : XB C 1 (.bin "<" (.cell r) (.num r7)) := .bin (by decide +kernel) (.cell rC) (.num (by omega) (by omega))
        have b3 : SB C K 6 800 (.set (.cell r) (.bin "+" (.cell r) (.num (1 + r3)))) := set_sb (.cell rC) .cell (b1.up (by decide))
        refine k pr _ B8 (.rep (.bin "<" (.cell r) (.num r7)) r10 (.set (.cell r) (.bin "+" (.cell r) (.num (1 + r3))))) (Same.trans s2 (Same.trans s3 (Same.trans s4 (Same.trans s5 (Same.trans s6 (Same.trans s7 s8)))))) (.tup f1 (.cons (.str _) (.cons dl (.cons (.int _) (.cons ds .nil))))) ?_ rfl O
        refine ⟨⟨b2.ok, by omega, by omega, b3.ok⟩, ?_, .tup (n := 8) (.cons (.str (by decide +kernel)) (.cons (b2.sh.mono (by decide)) (.cons .int (.cons (b3.sh.mono (by decide)) .nil))))⟩
        have h1 : Ex.wt (.bin "<" (.cell r) (.num r7)) ≤ 290 := b2.wt
        have h2 := b3.wt
        show 30 + Ex.wt (.bin "<" (.cell r) (.num r7)) + Sm.wt (.set (.cell r) (.bin "+" (.cell r) (.num (1 + r3)))) ≤ 3000
        omega
      · fail "s"
        exact ⟨a, c, B, ls, e, en, C, K, rfl, O, EB0, eo, hC, hK, fun p H2 B2 t x s2 dx xb O => k p H2 B2 _ s2 dx (xb.mono (Nat.le_refl _) (Nat.le_refl _) (by decide) (by decide)) rfl O⟩
  fail "s"
  refine i_d2 (fun h2 => ?_) (fun h2 => rest _ O)
  fail "s"
  rename_i r2 H2 _ _ O
  refine i_d2 (fun h3 => ?_) (fun h3 => rest _ O)
  fail "s"
  rename_i t H3 O
  obtain ⟨B2, s2, h2, O⟩ := frz (ls' := ls) O (by fail "p")
  exact k t _ B2 .stop s2 (.tup h2 (.cons (.str _) .nil)) ⟨trivial, by show 20 ≤ 3000; decide, .tup (n := 8) (.cons (.str (by decide +kernel)) .nil)⟩ rfl O

set_option Elab.async false
set_option linter.all false
set_option maxRecDepth 100000
set_option maxHeartbeats 4000000
open PySem PySem.Spec PyProof.Rows L2 Lb


theorem len_l_more_cells (A : Ad) {vs : List V} {H : Hp} {Q : VK} {E : XK} (h : sp_l_more_cells A vs H Q E) : vs.length = 2 := by
  obtain ⟨a, c, B, ls, w, cw, wd, m, rfl, _⟩ := h
  rfl
theorem len_l_env (A : Ad) {vs : List V} {H : Hp} {Q : VK} {E : XK} (h : sp_l_env A vs H Q E) : vs.length = 2 := by
  obtain ⟨a, c, B, ls, w, cw, wd, rfl, _⟩ := h
  rfl
theorem len_l_alt (A : Ad) {vs : List V} {H : Hp} {Q : VK} {E : XK} (h : sp_l_alt A vs H Q E) : vs.length = 3 := by
  obtain ⟨a, c, B, ls, e, en, C, K, ch, rfl, _⟩ := h
  rfl
theorem len_l_wrapped (A : Ad) {vs : List V} {H : Hp} {Q : VK} {E : XK} (h : sp_l_wrapped A vs H Q E) : vs.length = 4 := by
  obtain ⟨a, c, B, ls, e, w, cw, p, en, wd, K, n, wt, s, rfl, _⟩ := h
  rfl
theorem len_l_faulty (A : Ad) {vs : List V} {H : Hp} {Q : VK} {E : XK} (h : sp_l_faulty A vs H Q E) : vs.length = 2 := by
  obtain ⟨a, c, B, ls, sp, sv, its, rfl, _⟩ := h
  rfl
set_option maxHeartbeats 32000000 in
theorem pure_l_more_cells (A : Ad) (vs : List V) (H : Hp) (Q : VK) (E : XK) (h : sp_l_more_cells A vs H Q E) : t_l_more_cells A { nx := fun _ H' => Q .non H', rt := Q } (L2.start ["_law_world", "_law_many"] vs) H := by
  obtain ⟨a, c, B, ls, w, cw, wd, m, rfl, O, k⟩ := h
  rw [st_l_more_cells]
  unfold t_l_more_cells
  fail "s"
  rename_i H1 O
  rw [show ((wd.ce : Int) + (m : Int)) - (m : Int) = (wd.ce : Nat) by omega]
  exact k _ O
set_option maxHeartbeats 32000000 in
theorem pure_l_env (A : Ad) (vs : List V) (H : Hp) (Q : VK) (E : XK) (h : sp_l_env A vs H Q E) : t_l_env A { nx := fun _ H' => Q .non H', rt := Q } (L2.start ["_law_state_here", "_law_world", "_law_first", "_law_env_here", "_law_size"] vs) H := by
  obtain ⟨a, c, B, ls, w, cw, wd, rfl, O, k⟩ := h
  rw [st_l_env]
  unfold t_l_env
  fail "s"
  refine ⟨a, c, B, ls, w, cw, wd, 2, rfl, O, fun H1 O => ?_⟩
  fail "s"
  intro e he
  have O := O.new he (o := .dK [])
  fail "s"
  rename_i p1 G1 O1 p2 G2 O2 p3 G3 O3 p4 G4 O4 p5 H2 O
  have O := Own.perm O (ls' := (e, .dK []) :: (p1, .lst [.int (wd.ce : Nat), .int ((wd.ce : Nat) + 1)]) :: (p2, .lst [.int (wd.ce : Nat), .int ((wd.ce : Nat) + 1)]) :: (p3, .lst []) :: (p4, .lst []) :: (p5, .lst []) :: (w, wdO { wd with ce := wd.ce + 2 } cw) :: ls) (by fail "pm")
  refine ⟨O.mem List.mem_cons_self, [(.inr "cells", .ref p1), (.inr "reads", .ref p2), (.inr "spans", .ref p3), (.inr "gives", .ref p4), (.inr "takes", .ref p5)], rfl, by simp, ?_⟩
  rw [merge0 (by show List.Nodup [(.inr "cells" : Key), .inr "reads", .inr "spans", .inr "gives", .inr "takes"]; decide +kernel)]
  have O := O.set (p := e) (o' := enO p1 p2 p3 p4 p5) .here
  generalize upd H2 e (enO p1 p2 p3 p4 p5) = H3 at O ⊢
  have enok : ∀ (sp : List (Nat × Nat)) (ce K : Nat), wd.ce + 2 ≤ ce → (∀ p ∈ sp, p.1 + p.2 ≤ ce ∧ 1 ≤ p.2 ∧ p.2 ≤ 4) → sp.length ≤ 1 → En.ok ce K ⟨[wd.ce, wd.ce + 1], [wd.ce, wd.ce + 1], sp, [], []⟩ := fun sp ce K h hs hl =>
    ⟨by simp, by simp, by simp; omega, by simp; omega, hs, by simp, by simp, by simp; omega, by simp; omega, hl, by simp, by simp⟩
  have e2 : ([.int (wd.ce : Nat), .int ((wd.ce : Nat) + 1)] : List V) = nv [wd.ce, wd.ce + 1] := by
    show _ = [V.int (wd.ce : Nat), V.int ((wd.ce + 1 : Nat) : Int)]
    rw [show ((wd.ce + 1 : Nat) : Int) = (wd.ce : Int) + 1 by omega]
  rw [e2] at O
  have fin : ∀ H', Own a c B H' ((e, enO p1 p2 p3 p4 p5) :: (p1, .lst (nv [wd.ce, wd.ce + 1])) :: (p2, .lst (nv [wd.ce, wd.ce + 1])) :: (p3, .lst []) :: (p4, .lst []) :: (p5, .lst []) :: (w, wdO { wd with ce := wd.ce + 2 } cw) :: ls) → Q (.ref e) H' := fun H' O =>
    k e p1 p2 p3 p4 p5 [] ⟨[wd.ce, wd.ce + 1], [wd.ce, wd.ce + 1], [], [], []⟩ H' B (wd.ce + 2) (Same.refl _) O .nil rfl rfl (fun K => enok [] _ K (Nat.le_refl _) (by simp) (by simp)) rfl rfl (Nat.le_refl _) (.inl (Nat.le_refl _))
  fail "s"
  rename_i O
  refine i_d2 (fun hc30 => ?_) (fun _ => ?_)
  rotate_left
  · fail "s"
    exact fin _ O
  fail "s"
  rename_i r1 H4 r10 r11 O
  refine i_d2 (fun _ => ?_) (fun _ => ?_)
  rotate_left
  · fail "s"
    exact fin _ O
  fail "s"
  rename_i r2 H5 r20 r21 O
  obtain ⟨z, hz⟩ : ∃ z : Nat, 1 + r2 = (z : Int) := ⟨(1 + r2).toNat, by omega⟩
  rw [hz]
  have O := Own.perm O (ls' := (w, wdO { wd with ce := wd.ce + 2 } cw) :: (e, enO p1 p2 p3 p4 p5) :: (p1, .lst (nv [wd.ce, wd.ce + 1])) :: (p2, .lst (nv [wd.ce, wd.ce + 1])) :: (p3, .lst []) :: (p4, .lst []) :: (p5, .lst []) :: ls) (by fail "pm")
  fail "s"
  refine ⟨a, c, B, _, w, cw, { wd with ce := wd.ce + 2 }, z, rfl, O, fun H6 O => ?_⟩
  fail "s"
  rename_i t G6 O6 p G7 O7 H8 O
  have O := Own.perm O (ls' := (t, .tup [.int ((wd.ce + 2 : Nat) : Int), .int (z : Nat)]) :: (p3, .lst []) :: (e, enO p1 p2 p p4 p5) :: (p1, .lst (nv [wd.ce, wd.ce + 1])) :: (p2, .lst (nv [wd.ce, wd.ce + 1])) :: (p, .lst [.ref t]) :: (p4, .lst []) :: (p5, .lst []) :: (w, wdO { wd with ce := wd.ce + 2 + z } cw) :: ls) (by fail "pm")
  obtain ⟨B2, s2, ht, O⟩ := O.freeze
  have O := Own.drop (l1 := [(p3, .lst [])]) O
  refine k e p1 p2 p p4 p5 [.ref t] ⟨[wd.ce, wd.ce + 1], [wd.ce, wd.ce + 1], [(wd.ce + 2, z)], [], []⟩ _ B2 (wd.ce + 2 + z) s2 O (.cons ⟨t, rfl, ht⟩ .nil) rfl rfl (fun K => enok _ _ K (by omega) ?_ (by simp)) rfl rfl (by omega) (.inr (by have h30 : ((wd.ce + 2 : Nat) : Int) < 30 := hc30; show wd.ce + 2 + z ≤ 33; omega))
  intro q hq
  rw [List.mem_singleton.mp hq]
  exact ⟨Nat.le_refl _, by show 1 ≤ z; omega, by show z ≤ 4; omega⟩
theorem it_get {B : Hp} {sv : List V} {its : List It} (h : DtAll B sv (itDs its)) {i : Nat} {v : V} (e : sv[i]? = some v) : ∃ x, its[i]? = some x ∧ Dt B v x.D := by
  obtain ⟨d, h1, h2⟩ := dtGet h e
  obtain ⟨x, h3, h4⟩ := mapGet h1
  exact ⟨x, h3, h4 ▸ h2⟩
theorem dtTake {B : Hp} : ∀ {vs : List V} {ds : List PyData}, DtAll B vs ds → ∀ n, DtAll B (vs.take n) (ds.take n)
  | _, _, .nil, n => by rw [List.take_nil, List.take_nil]; exact .nil
  | _, _, .cons _ _, 0 => .nil
  | _, _, .cons a b, n + 1 => .cons a (dtTake b n)
theorem dtDrop {B : Hp} : ∀ {vs : List V} {ds : List PyData}, DtAll B vs ds → ∀ n, DtAll B (vs.drop n) (ds.drop n)
  | _, _, .nil, n => by rw [List.drop_nil, List.drop_nil]; exact .nil
  | _, _, .cons a b, 0 => .cons a b
  | _, _, .cons a b, n + 1 => dtDrop b n
theorem itDs_take {l : List It} {n : Nat} : (itDs l).take n = itDs (l.take n) := by unfold itDs; rw [List.map_take]
theorem itDs_drop {l : List It} {n : Nat} : (itDs l).drop n = itDs (l.drop n) := by unfold itDs; rw [List.map_drop]
theorem itDs_app {l m : List It} : itDs l ++ itDs m = itDs (l ++ m) := by unfold itDs; rw [List.map_append]
set_option maxHeartbeats 32000000 in
theorem pure_l_faulty (A : Ad) (vs : List V) (H : Hp) (Q : VK) (E : XK) (h : sp_l_faulty A vs H Q E) : t_l_faulty A { nx := fun _ H' => Q .non H', rt := Q } (L2.start ["_law_state_here", "_law_script", "_law_at"] vs) H := by
  obtain ⟨a, c, B, ls, sp, sv, its, rfl, O, hs, hd, hz, k⟩ := h
  have sl := dtLen hd
  unfold itDs at sl
  rw [List.length_map] at sl
  rw [st_l_faulty]
  unfold t_l_faulty
  have rest : ∀ H', Own a c B H' ls → (tSeq (tIfS (tAnd (tTest (tOp (rI0 fun i j => .bl (decide (j < i))) (tCB rLenA (tCons (tVar 1) tNil)) (tC (.int 0)))) (tTest (tOp (rEqA A.K) (tCall spDraw [] E0 (tCons (tVar 0) (tCons (tC (.int 12)) tNil))) (tC (.int 0))))) (tSeq (tAsg (tCall spDraw [] E0 (tCons (tVar 0) (tCons (tCB rLenA (tCons (tVar 1) tNil)) tNil))) (gName 2)) (tRet (tOp rAddA (tSl rSlA (tVar 1) tNoPart (tPart (tVar 2))) (tSl rSlA (tVar 1) (tPart (tOp rAddA (tVar 2) (tC (.int 1)))) tNoPart)))) tNext) (tRet (tVar 1))) { nx := fun _ H' => Q .non H', rt := Q } [some (.ref a), some (.ref sp), none] H' := by
    intro H' O
    have fin : ∀ H', Own a c B H' ls → Q (.ref sp) H' := fun H' O => k sp H' B sv its (Same.refl _) hs hd (fun x h => h) (Nat.le_refl _) O
    fail "s"
    refine i_d2 (fun h1 => ?_) (fun h1 => ?_)
    rotate_left
    · fail "s"
      exact fin _ O
    fail "s"
    rename_i r1 H1 r10 r11 O
    refine i_d2 (fun _ => ?_) (fun _ => ?_)
    rotate_left
    · fail "s"
      exact fin _ O
    fail "s"
    refine i_drawO O rfl (by omega) (by omega) fun r H2 r0 r1 O => ?_
    obtain ⟨m, rfl⟩ : ∃ m : Nat, r = (m : Int) := ⟨r.toNat, by omega⟩
    fail "s"
    refine i_slO O (O.kp hs) (cut_to (k := m) (by omega)) fun p1 H3 O => ?_
    fail "s"
    rw [show (m : Int) + 1 = ((m + 1 : Nat) : Int) by omega]
    refine i_slO O (O.kp hs) (cut_from (k := m + 1) (by omega)) fun p2 H4 O => ?_
    refine i_addN (O.mem (by fail "m")) (O.mem (by fail "m")) (sz (by rw [List.length_take, List.length_drop]; omega)) ?_
    fail "s"
    rename_i p3 H5 O
    obtain ⟨B2, s2, h3, O⟩ := frz (ls' := ls) O (by fail "p")
    refine k p3 _ B2 _ (its.take m ++ its.drop (m + 1)) s2 h3 ?_ ?_ (by rw [List.length_append, List.length_take, List.length_drop]; omega) O
    · rw [← itDs_app, ← itDs_take, ← itDs_drop]
      exact DtAll.append (dtTake (hd.mono s2) m) (dtDrop (hd.mono s2) (m + 1))
    · intro x hx
      rcases List.mem_append.mp hx with q | q
      · exact List.mem_of_mem_take q
      · exact List.mem_of_mem_drop q
  fail "s"
  refine i_d2 (fun h1 => ?_) (fun h1 => rest _ O)
  fail "s"
  rename_i r1 H1 r10 r11 O
  refine i_d2 (fun _ => ?_) (fun _ => rest _ O)
  fail "s"
  refine i_drawO O rfl (by omega) (by omega) fun r H2 r0 r1 O => ?_
  obtain ⟨m, rfl⟩ : ∃ m : Nat, r = (m : Int) := ⟨r.toNat, by omega⟩
  have l1 : m + 1 < sv.length := by omega
  have l2 : m < sv.length := by omega
  have e1 := List.getElem?_eq_getElem l1
  have e2 := List.getElem?_eq_getElem l2
  generalize sv[m + 1] = v1 at e1
  generalize sv[m] = v2 at e2
  obtain ⟨x1, i1, d1⟩ := it_get hd e1
  obtain ⟨x2, i2, d2⟩ := it_get hd e2
  have a1 : atI sv ((m : Int) + 1) = some v1 := by
    rw [show (m : Int) + 1 = ((m + 1 : Nat) : Int) by omega]
    exact atI_nat e1
  have a2 : atI sv (m : Nat) = some v2 := atI_nat e2
  fail "s"
  refine i_slO O (O.kp hs) (cut_to (k := m) (by omega)) fun p1 H3 O => ?_
  have lt : (sv.take m).length = m := by rw [List.length_take]; omega
  fail "s"
  rename_i p2 H4 O4 p3 H5 O
  rw [show (m : Int) + 2 = ((m + 2 : Nat) : Int) by omega]
  refine i_slO O (O.kp hs) (cut_from (k := m + 2) (by omega)) fun p4 H6 O => ?_
  refine i_addN (O.mem (by fail "m")) (O.mem (by fail "m")) (sz (by rw [List.length_append, List.length_take, List.length_drop]; show _ + 2 + _ ≤ _; omega)) ?_
  fail "s"
  rename_i p5 H7 O
  obtain ⟨B2, s2, h3, O⟩ := frz (ls' := ls) O (by fail "p")
  refine k p5 _ B2 _ (its.take m ++ [x1, x2] ++ its.drop (m + 2)) s2 h3 ?_ ?_ (by rw [List.length_append, List.length_append, List.length_take, List.length_drop]; show _ + 2 + _ ≤ _; omega) O
  · rw [← itDs_app, ← itDs_app, ← itDs_take, ← itDs_drop]
    exact DtAll.append (DtAll.append (dtTake (hd.mono s2) m) (.cons (d1.mono s2) (.cons (d2.mono s2) .nil))) (dtDrop (hd.mono s2) (m + 2))
  · intro x hx
    rcases List.mem_append.mp hx with q | q
    · rcases List.mem_append.mp q with q | q
      · exact List.mem_of_mem_take q
      · simp only [List.mem_cons, List.not_mem_nil, or_false] at q
        rcases q with rfl | rfl
        · exact List.mem_of_getElem? i1
        · exact List.mem_of_getElem? i2
    · exact List.mem_of_mem_drop q

set_option Elab.async false
set_option linter.all false
set_option maxRecDepth 100000
set_option maxHeartbeats 4000000
open PySem PySem.Spec PyProof.Rows L2 Lb


theorem zget {α β γ : Type} {f : α → β → γ} : ∀ {xs : List α} {ys : List β} {i : Nat} {z : γ}, (List.zipWith f xs ys)[i]? = some z → ∃ x y, xs[i]? = some x ∧ ys[i]? = some y ∧ f x y = z
  | [], _, _, _, h => by simp at h
  | _ :: _, [], _, _, h => by simp at h
  | x :: r, y :: t, 0, z, h => ⟨x, y, rfl, rfl, by simpa using h⟩
  | x :: r, y :: t, i + 1, z, h => zget (xs := r) (ys := t) (i := i) (by simpa using h)
theorem zapp {α β γ : Type} {f : α → β → γ} : ∀ {xs : List α} {ys : List β} {xs' : List α} {ys' : List β}, xs.length = ys.length → List.zipWith f (xs ++ xs') (ys ++ ys') = List.zipWith f xs ys ++ List.zipWith f xs' ys'
  | [], [], _, _, _ => rfl
  | x :: r, y :: t, _, _, h => by
    show f x y :: List.zipWith f (r ++ _) (t ++ _) = _
    rw [zapp (by simpa using h)]
    rfl
  | [], _ :: _, _, _, h => by simp at h
  | _ :: _, [], _, _, h => by simp at h
theorem smDs_get : ∀ {l : List Sm} {i : Nat} {d : PyData}, (smDs l)[i]? = some d → ∃ s, l[i]? = some s ∧ d = s.D
  | [], _, _, h => by simp [smDs] at h
  | s :: r, 0, d, h => ⟨s, rfl, by
    have : some s.D = some d := h
    cases this
    rfl⟩
  | s :: r, i + 1, d, h => smDs_get (l := r) (i := i) h
theorem dt4 {B : Hp} {v : V} {d0 d1 d2 d3 : PyData} (h : Dt B v (.tuple [d0, d1, d2, d3])) : ∃ t v0 v1 v2 v3, v = .ref t ∧ B t = some (.tup [v0, v1, v2, v3]) ∧ Dt B v0 d0 ∧ Dt B v1 d1 ∧ Dt B v2 d2 ∧ Dt B v3 d3 := by
  cases h with
  | tup ht ha =>
    cases ha with
    | cons a0 ha =>
      cases ha with
      | cons a1 ha =>
        cases ha with
        | cons a2 ha =>
          cases ha with
          | cons a3 ha =>
            cases ha
            exact ⟨_, _, _, _, _, rfl, ht, a0, a1, a2, a3⟩
theorem dtI {B : Hp} {v : V} {i : Int} (h : Dt B v (.int i)) : v = .int i := by
  cases h
  rfl
theorem row_at {B : Hp} {rv : List V} {rs : List AR} {l : List Sm} (h : DtAll B rv (altD rs (smDs l))) {i : Nat} {v : V} (e : rv[i]? = some v) :
    ∃ t v0 v2 v3 r s, v = .ref t ∧ B t = some (.tup [v0, .int (r.c : Nat), v2, v3]) ∧ rs[i]? = some r ∧ l[i]? = some s ∧ Dt B v0 (optD r.g) ∧ Dt B v2 r.t.D ∧ Dt B v3 s.D := by
  obtain ⟨d, h1, h2⟩ := dtGet h e
  obtain ⟨r, d', h3, h4, rfl⟩ := zget h1
  obtain ⟨s, h5, rfl⟩ := smDs_get h4
  obtain ⟨t, v0, v1, v2, v3, rfl, ht, d0, d1, d2, d3⟩ := dt4 h2
  rw [dtI d1] at ht
  exact ⟨t, v0, v2, v3, r, s, rfl, ht, h3, h5, d0, d2, d3⟩
theorem oks_of {C K : Nat} : ∀ {l : List Sm}, (∀ s ∈ l, s.ok C K) → oks C K l
  | [], _ => trivial
  | s :: r, h => ⟨h s List.mem_cons_self, oks_of fun x hx => h x (List.mem_cons_of_mem _ hx)⟩
theorem wts_le {w : Nat} : ∀ {l : List Sm}, (∀ s ∈ l, s.wt ≤ w) → wts l ≤ (w + 20) * l.length
  | [], _ => Nat.zero_le _
  | s :: r, h => by
    have h1 := h s List.mem_cons_self
    have h2 := wts_le (l := r) fun x hx => h x (List.mem_cons_of_mem _ hx)
    show s.wt + 20 + wts r ≤ _
    rw [List.length_cons, Nat.mul_add, Nat.mul_one]
    omega
theorem sum_le {α : Type} {f : α → Nat} {w : Nat} : ∀ {l : List α}, (∀ s ∈ l, f s ≤ w) → (l.map f).sum ≤ w * l.length
  | [], _ => Nat.zero_le _
  | s :: r, h => by
    have h1 := h s List.mem_cons_self
    have h2 := sum_le (l := r) fun x hx => h x (List.mem_cons_of_mem _ hx)
    rw [List.map_cons, List.sum_cons, List.length_cons, Nat.mul_add, Nat.mul_one]
    omega
theorem thrs_nil : ∀ {l : List Sm}, (∀ s ∈ l, s.thr = []) → (thrs l).flatten = []
  | [], _ => rfl
  | s :: r, h => by
    show (s.thr :: thrs r).flatten = []
    rw [List.flatten_cons, h s List.mem_cons_self, thrs_nil fun x hx => h x (List.mem_cons_of_mem _ hx)]
    rfl
theorem opt_sh {C : Nat} {g : Option Ex} (h : ∀ x, g = some x → XB C 1 x) : Sh 4 (optD g) := by
  cases g with
  | none => exact .non
  | some x => exact (h x rfl).sh
theorem smDs_mem {l : List Sm} {d : PyData} (h : d ∈ smDs l) : ∃ s ∈ l, d = s.D := by
  obtain ⟨i, hi⟩ := List.mem_iff_getElem?.mp h
  obtain ⟨s, h1, h2⟩ := smDs_get hi
  exact ⟨s, List.mem_of_getElem? h1, h2⟩
theorem alt_sh {C K n : Nat} {rs : List AR} {l : List Sm} (hn : 4 ≤ n) (hr : ∀ r ∈ rs, AB C K r) (hs : ∀ s ∈ l, Sh n s.D) : Sh (n + 3) (Sm.alt rs l).D := by
  refine .tup (n := n + 2) (.cons (.str (by decide +kernel)) (.cons (.lst (n := n + 1) (.all fun d hd => ?_)) .nil))
  obtain ⟨i, hi⟩ := List.mem_iff_getElem?.mp hd
  obtain ⟨r, d', h1, h2, rfl⟩ := zget hi
  obtain ⟨s, h3, rfl⟩ := smDs_get h2
  have ab := hr r (List.mem_of_getElem? h1)
  exact .tup (n := n) (.cons ((opt_sh ab.g).mono hn) (.cons .int (.cons (ab.t.sh.mono (by omega)) (.cons (hs s (List.mem_of_getElem? h3)) .nil))))
theorem alt_sb {C K : Nat} {rs : List AR} {l : List Sm} (he : rs.length = l.length) (hl : l.length ≤ 31) (hr : ∀ r ∈ rs, AB C K r) (hs : ∀ s ∈ l, SB C K 9 3000 s) : SB C K 12 120000 (.alt rs l) := by
  refine ⟨⟨he, fun r h => (hr r h).ok, oks_of fun s h => (hs s h).ok⟩, ?_, alt_sh (by decide) hr fun s h => (hs s h).sh⟩
  have h1 := wts_le (w := 3000) fun s h => (hs s h).wt
  have h2 := sum_le (f := fun r : AR => (r.g.map Ex.wt).getD 10 + r.t.wt + 20) (w := 440) (l := rs) fun r h => by
    have a := hr r h
    have t1 : r.t.wt ≤ 130 := a.t.wt
    cases e : r.g with
    | none =>
      show 10 + r.t.wt + 20 ≤ 440
      omega
    | some x =>
      have t2 : x.wt ≤ 290 := (a.g x e).wt
      show x.wt + r.t.wt + 20 ≤ 440
      omega
  show 20 + (rs.map fun r : AR => (r.g.map Ex.wt).getD 10 + r.t.wt + 20).sum + wts l ≤ 120000
  have h3 : 440 * rs.length ≤ 440 * 31 := Nat.mul_le_mul_left _ (by omega)
  have h4 : (3000 + 20) * l.length ≤ (3000 + 20) * 31 := Nat.mul_le_mul_left _ hl
  omega
def rowD (r : AR) (s : Sm) : PyData := .tuple [optD r.g, .int (r.c : Nat), r.t.D, s.D]
theorem smDs_snoc {l : List Sm} {s : Sm} : smDs (l ++ [s]) = smDs l ++ [s.D] := by rw [smDs_app]; rfl
set_option maxHeartbeats 64000000 in
theorem pure_l_alt (A : Ad) (vs : List V) (H : Hp) (Q : VK) (E : XK) (h : sp_l_alt A vs H Q E) : t_l_alt A { nx := fun _ H' => Q .non H', rt := Q } (L2.start ["_law_state_here", "_law_env_here", "_law_c", "_law_rows", "_law_other", "_law_guard", "_law_row"] vs) H := by
  obtain ⟨a, c, B, ls, e, en, C, K, ch, rfl, O, EB, eo, hC, hK, hch, k⟩ := h
  have EB0 := EB
  obtain ⟨ec, er, es, eg, et, sv, he, hec, her, hes, hsv, heg, het⟩ := EB
  unfold enO at he
  rw [st_l_alt]
  unfold t_l_alt
  fail "s"
  refine ⟨a, c, B, ls, e, en, C, K, rfl, O, EB0, eo, hC, by omega, fun p H1 B1 t s1 dt tb tg O => ?_⟩
  fail "s"
  refine ⟨a, c, B1, ls, e, en, C, K, rfl, O, EB0.mono s1, eo, hC, by omega, fun q H2 B2 s s2 ds sb sth O => ?_⟩
  fail "s"
  rename_i r H3 O3 R0 H4 O
  obtain ⟨B3, s3, hR, O⟩ := O.freeze
  obtain ⟨B4, s4, hr, O⟩ := O.freeze
  have dr : Dt B4 (.ref r) (rowD ⟨none, ch, t⟩ s) := .tup hr (.cons .non (.cons (.int _) (.cons (dt.mono (Same.trans s2 (Same.trans s3 s4))) (.cons (ds.mono (Same.trans s3 s4)) .nil))))
  have sB4 : Same B B4 := Same.trans s1 (Same.trans s2 (Same.trans s3 s4))
  have het' := sB4 _ _ het
  have he' := sB4 _ _ he
  have ab0 : AB C K ⟨none, ch, t⟩ := ⟨⟨fun x h => (by cases h), hch, tb.ok, tg⟩, fun x h => (by cases h), tb⟩
  fail "s"
  refine i_forL (nv en.takes) (fun i σ H' => ∃ B' R rv rs l x4 x5 x6, Same B4 B' ∧ B' R = some (.lst rv) ∧ DtAll B' rv (altD rs (smDs l)) ∧ rs.length = l.length ∧ 1 ≤ l.length ∧ l.length ≤ i + 1 ∧ (∀ r ∈ rs, AB C K r) ∧ (∀ s ∈ l, SB C K 9 3000 s ∧ s.thr = []) ∧
    σ = [some (.ref a), some (.ref e), some (.int (ch : Nat)), some (.ref R), x4, x5, x6] ∧ Own a c B' H' ls)
    ⟨B4, R0, [.ref r], [⟨none, ch, t⟩], [s], none, none, none, Same.refl _, s4 _ _ hR, .cons dr .nil, rfl, Nat.le_refl _, Nat.le_refl _, fun x hx => by rw [List.mem_singleton.mp hx]; exact ab0, fun x hx => by rw [List.mem_singleton.mp hx]; exact ⟨sb, sth⟩, rfl, O⟩ ?_ ?_ ?_
  · rintro i σ H' ⟨B', R, rv, rs, l, x4, x5, x6, s5, _, _, _, _, _, _, _, _, O⟩
    exact SqL.of (O.kp (s5 _ _ het'))
  · rintro i x σ H' hx ⟨B5, R, rv, rs, l, x4, x5, x6, s5, hR, dR, el, l1, l2, hab, hsb, rfl, O⟩
    obtain ⟨o, ho, rfl⟩ := nv_get hx
    have oK := eo.t o (List.mem_of_getElem? ho)
    have li : i < en.takes.length := (List.getElem?_eq_some_iff.mp ho).1
    have lK := eo.lt
    have sB5 : Same B B5 := Same.trans sB4 s5
    have rvl := dtLen dR
    unfold altD at rvl
    rw [List.length_zipWith, smDs_len, el, Nat.min_self] at rvl
    fail "s"
    refine ⟨⟨_, SqL.of (O.kp hR)⟩, fun D hD => ?_⟩
    refine i_lcL rv (fun i H' => ∃ acc, acc.length ≤ i ∧ Own a c B5 H' ((D, .lst acc) :: ls)) ⟨[], Nat.le_refl _, O.new hD⟩ (fun i H' ⟨acc, _, O⟩ => SqL.of (O.kp hR)) (fun i x H' hx ⟨acc, hacc, O⟩ => ?_) fun H6 ⟨acc, hacc, O⟩ => ?_
    · obtain ⟨t, v0, v2, v3, r, s, rfl, ht, _, _, _, _, _⟩ := row_at dR hx
      have li2 := (List.getElem?_eq_some_iff.mp hx).1
      fail "s"
      refine i_d2 (fun _ => ?_) (fun _ => ?_)
      · fail "s"
        exact ⟨_, O.mem (by fail "m"), szl (by omega), _, by rw [List.length_append]; show _ + 1 ≤ _; omega, O.set .here⟩
      · fail "s"
        exact ⟨acc, by omega, O⟩
    fail "s"
    have O := Own.drop (l1 := [(D, .lst acc)]) O
    have skip : ∀ H', Own a c B5 H' ls → ∀ x4 x5 x6, ∃ B' R rv rs l y4 y5 y6, Same B4 B' ∧ B' R = some (.lst rv) ∧ DtAll B' rv (altD rs (smDs l)) ∧ rs.length = l.length ∧ 1 ≤ l.length ∧ l.length ≤ i + 1 + 1 ∧ (∀ r ∈ rs, AB C K r) ∧ (∀ s ∈ l, SB C K 9 3000 s ∧ s.thr = []) ∧
        ([some (.ref a), some (.ref e), some (.int (ch : Nat)), some (.ref R0), x4, x5, x6] : L2.St).set 3 (some (.ref R)) = [some (.ref a), some (.ref e), some (.int (ch : Nat)), some (.ref R), y4, y5, y6] ∧ Own a c B' H' ls := fun H' O x4 x5 x6 =>
      ⟨B5, R, rv, rs, l, x4, x5, x6, s5, hR, dR, el, l1, by omega, hab, hsb, rfl, O⟩
    refine i_d2 (fun h1 => ?_) (fun h1 => ?_)
    rotate_left
    · fail "s"
      exact ⟨B5, R, rv, rs, l, _, _, _, s5, hR, dR, el, l1, by omega, hab, hsb, rfl, O⟩
    fail "s"
    rename_i r1 H7 r10 r11 O
    refine i_d2 (fun h2 => ?_) (fun h2 => ?_)
    rotate_left
    · fail "s"
      exact ⟨B5, R, rv, rs, l, _, _, _, s5, hR, dR, el, l1, by omega, hab, hsb, rfl, O⟩
    have tail : ∀ (gv : V) (g : Option Ex) (B6 : Hp) H', Same B5 B6 → Dt B6 gv (optD g) → (∀ x, g = some x → XB C 1 x) → Own a c B6 H' ls → ∀ y6, (tSeq (tAsg (tTup (tCons (tVar 5) (tCons (tVar 4) (tCons (tCall (sp_l_target A) [] E0 (tCons (tVar 0) (tCons (tVar 1) tNil))) (tCons (tCall (sp_l_simple A) [] E0 (tCons (tVar 0) (tCons (tVar 1) tNil))) tNil))))) (gName 6)) (tAsg (tIf (tTest (tOp (rEqA A.K) (tCall spDraw [] E0 (tCons (tVar 0) (tCons (tC (.int 2)) tNil))) (tC (.int 0)))) (tOp rAddA (tVar 3) (tLst (tCons (tVar 6) tNil))) (tOp rAddA (tLst (tCons (tVar 6) tNil)) (tVar 3))) (gName 3))) ⟨fun σ H' => ∃ B' R rv rs l x4 x5 x6, Same B4 B' ∧ B' R = some (.lst rv) ∧ DtAll B' rv (altD rs (smDs l)) ∧ rs.length = l.length ∧ 1 ≤ l.length ∧ l.length ≤ i + 1 + 1 ∧ (∀ r ∈ rs, AB C K r) ∧ (∀ s ∈ l, SB C K 9 3000 s ∧ s.thr = []) ∧
        σ = [some (.ref a), some (.ref e), some (.int (ch : Nat)), some (.ref R), x4, x5, x6] ∧ Own a c B' H' ls, Q, fun σ H => tRet (tTup (tCons (tC (.str "alt")) (tCons (tVar 3) tNil))) ⟨fun _ H' => Q .non H', Q, fun _ _ => False, fun _ _ => False⟩ σ H, fun σ H' => ∃ B' R rv rs l x4 x5 x6, Same B4 B' ∧ B' R = some (.lst rv) ∧ DtAll B' rv (altD rs (smDs l)) ∧ rs.length = l.length ∧ 1 ≤ l.length ∧ l.length ≤ i + 1 + 1 ∧ (∀ r ∈ rs, AB C K r) ∧ (∀ s ∈ l, SB C K 9 3000 s ∧ s.thr = []) ∧
        σ = [some (.ref a), some (.ref e), some (.int (ch : Nat)), some (.ref R), x4, x5, x6] ∧ Own a c B' H' ls⟩ [some (.ref a), some (.ref e), some (.int (ch : Nat)), some (.ref R), some (.int (o : Nat)), some gv, y6] H' := by
      intro gv g B6 H' s6 dg bg O y6
      fail "s"
      refine ⟨a, c, B6, ls, e, en, C, K, rfl, O, EB0.mono (Same.trans sB5 s6), eo, hC, by omega, fun p H1 B7 t s7 dt tb tg O => ?_⟩
      fail "s"
      refine ⟨a, c, B7, ls, e, en, C, K, rfl, O, EB0.mono (Same.trans sB5 (Same.trans s6 s7)), eo, hC, by omega, fun q H2 B8 s s8 ds sb sth O => ?_⟩
      fail "s"
      rename_i r H3 O3 r5 H9 _ _ O
      have hR8 := s8 _ _ (s7 _ _ (s6 _ _ hR))
      have ab1 : AB C K ⟨g, o, t⟩ := ⟨⟨fun x h => (bg x h).ok, oK, tb.ok, tg⟩, bg, tb⟩
      have fin : ∀ (p1 : Addr) (B9 : Hp) H' rv' rs' l', Same B8 B9 → B9 p1 = some (.lst rv') → DtAll B9 rv' (altD rs' (smDs l')) → rs'.length = l'.length → 1 ≤ l'.length → l'.length ≤ i + 1 + 1 → (∀ r ∈ rs', r ∈ rs ∨ r = ⟨g, o, t⟩) → (∀ x ∈ l', x ∈ l ∨ x = s) → Own a c B9 H' ls → ∀ y6, ∃ B' R rv rs l x4 x5 x6, Same B4 B' ∧ B' R = some (.lst rv) ∧ DtAll B' rv (altD rs (smDs l)) ∧ rs.length = l.length ∧ 1 ≤ l.length ∧ l.length ≤ i + 1 + 1 ∧ (∀ r ∈ rs, AB C K r) ∧ (∀ s ∈ l, SB C K 9 3000 s ∧ s.thr = []) ∧
          ([some (.ref a), some (.ref e), some (.int (ch : Nat)), some (.ref p1), some (.int (o : Nat)), some gv, y6] : L2.St) = [some (.ref a), some (.ref e), some (.int (ch : Nat)), some (.ref R), x4, x5, x6] ∧ Own a c B' H' ls := fun p1 B9 H' rv' rs' l' s9 h1 h2 h3 h4 h5 h6 h7 O y6 =>
        ⟨B9, p1, rv', rs', l', _, _, _, Same.trans s5 (Same.trans s6 (Same.trans s7 (Same.trans s8 s9))), h1, h2, h3, h4, h5, fun r hr => (h6 r hr).elim (hab r) fun e => by rw [e]; exact ab1, fun x hx => (h7 x hx).elim (hsb x) fun e => by rw [e]; exact ⟨sb, sth⟩, rfl, O⟩
      have dr : ∀ B9, Same B8 B9 → B9 r = some (.tup [gv, .int (o : Nat), .ref p, .ref q]) → Dt B9 (.ref r) (rowD ⟨g, o, t⟩ s) := fun B9 s9 hr => .tup hr (.cons (dg.mono (Same.trans s7 (Same.trans s8 s9))) (.cons (.int _) (.cons (dt.mono (Same.trans s8 s9)) (.cons (ds.mono s9) .nil))))
      have dR8 := dR.mono (Same.trans s6 (Same.trans s7 s8))
      refine i_d2 (fun h3 => ?_) (fun h3 => ?_)
      · fail "s"
        rename_i lt H10 O10 nr H11 O
        have O := Own.perm O (ls' := (nr, .lst (rv ++ [.ref r])) :: (r, .tup [gv, .int (o : Nat), .ref p, .ref q]) :: (lt, .lst [.ref r]) :: ls) (by fail "pm")
        obtain ⟨B9, s9, h9, O⟩ := O.freeze
        obtain ⟨B10, s10, h10, O⟩ := O.freeze
        refine fin nr B10 _ _ (rs ++ [⟨g, o, t⟩]) (l ++ [s]) (Same.trans s9 s10) (s10 _ _ h9) ?_ (by rw [List.length_append, List.length_append, el]; rfl) (by rw [List.length_append]; omega) (by rw [List.length_append]; show _ + 1 ≤ _; omega) (fun r hr => (List.mem_append.mp hr).imp id fun h => List.mem_singleton.mp h) (fun r hr => (List.mem_append.mp hr).imp id fun h => List.mem_singleton.mp h) (Own.drop (l1 := [(lt, .lst [.ref r])]) O) _
        unfold altD
        rw [smDs_snoc, zapp (by rw [smDs_len, el])]
        exact DtAll.append (dR8.mono (Same.trans s9 s10)) (.cons (dr B10 (Same.trans s9 s10) h10) .nil)
      · fail "s"
        rename_i lt H10 O10 nr H11 O
        have O := Own.perm O (ls' := (nr, .lst ([.ref r] ++ rv)) :: (r, .tup [gv, .int (o : Nat), .ref p, .ref q]) :: (lt, .lst [.ref r]) :: ls) (by fail "pm")
        obtain ⟨B9, s9, h9, O⟩ := O.freeze
        obtain ⟨B10, s10, h10, O⟩ := O.freeze
        exact fin nr B10 _ _ (⟨g, o, t⟩ :: rs) (s :: l) (Same.trans s9 s10) (s10 _ _ h9) (.cons (dr B10 (Same.trans s9 s10) h10) (dR8.mono (Same.trans s9 s10))) (by rw [List.length_cons, List.length_cons, el]) (by rw [List.length_cons]; omega) (by rw [List.length_cons]; omega) (fun r hr => (List.mem_cons.mp hr).symm) (fun r hr => (List.mem_cons.mp hr).symm) (Own.drop (l1 := [(lt, .lst [.ref r])]) O) _
    fail "s"
    rename_i r2 H8 r20 r21 O
    refine i_d2 (fun h3 => ?_) (fun h3 => ?_)
    · exact tail .non none B5 _ (Same.refl _) .non (fun x h => by cases h) O _
    · fail "o"
      fail "o"
      fail "o"
      fail "o"
      fail "o"
      fail "o"
      fail "o"
      fail "o"
      refine ⟨a, c, B5, ls, e, en, C, K, 1, rfl, by decide, O, EB0.mono sB5, eo, hC, by omega, fun p H1 B6 x s6 dx xb O => ?_⟩
      exact tail (.ref p) (some x) B6 _ s6 dx (fun y h => by cases h; exact xb) O _
  · rintro σ H' ⟨B5, R, rv, rs, l, x4, x5, x6, s5, hR, dR, el, l1, l2, hab, hsb, rfl, O⟩
    fail "s"
    rename_i p6 H6 O
    obtain ⟨B6, s6, h6, O⟩ := O.freeze
    have lt := eo.lt
    rw [nv_len] at l2
    exact k p6 _ B6 rs l (Same.trans sB4 (Same.trans s5 s6)) (.tup h6 (.cons (.str _) (.cons (.lst (s6 _ _ hR) (dR.mono s6)) .nil))) hab hsb el l1 (by omega) O

set_option Elab.async false
set_option linter.all false
set_option maxRecDepth 100000
set_option maxHeartbeats 4000000
open PySem PySem.Spec PyProof.Rows L2 Lb


theorem ite_sb {C K n w : Nat} {x : Ex} {s t : Sm} (hx : XB C 1 x) (hs : SB C K n w s) (ht : SB C K n w t) (hn : 4 ≤ n) : s.wt + t.wt ≤ w + 1000 → SB C K (n + 5) (w + 2000) (.ite x s t) := fun h =>
  ⟨⟨hx.ok, hs.ok, ht.ok⟩, by
    have h1 : x.wt ≤ 290 := hx.wt
    show 20 + x.wt + s.wt + t.wt ≤ _
    omega, .mono (n := n + 1) (.tup (n := n) (.cons (.str (by decide +kernel)) (.cons (hx.sh.mono (by omega)) (.cons hs.sh (.cons ht.sh .nil))))) (by omega)⟩
set_option maxHeartbeats 64000000 in
theorem pure_l_wrapped (A : Ad) (vs : List V) (H : Hp) (Q : VK) (E : XK) (h : sp_l_wrapped A vs H Q E) : t_l_wrapped A { nx := fun _ H' => Q .non H', rt := Q } (L2.start ["_law_state_here", "_law_env_here", "_law_world", "_law_part", "_law_turn", "_law_counter", "_law_turns"] vs) H := by
  obtain ⟨a, c, B, ls, e, w, cw, p, en, wd, K, n, wt, s, rfl, O, EB0, eo, hC, hK, dp, sb, hn, k⟩ := h
  rw [st_l_wrapped]
  unfold t_l_wrapped
  fail "s"
  rename_i tn H1 _ _ O
  refine i_d2 (fun h1 => ?_) (fun h1 => ?_)
  · fail "s"
    refine ⟨a, c, B, _, e, en, wd.ce, K, 1, rfl, by decide, O, EB0, eo, hC, hK, fun q H2 B2 x s2 dx xb O => ?_⟩
    fail "s"
    refine ⟨a, c, B2, _, e, en, wd.ce, K, rfl, O, EB0.mono s2, eo, hC, hK, fun q3 H3 B3 t3 x3 s3 d3 b3 O => ?_⟩
    fail "s"
    rename_i r H4 O
    obtain ⟨B4, s4, h4, O⟩ := O.freeze
    refine k r _ B4 (.ite x s (.set t3 x3)) wd.ce (Same.trans s2 (Same.trans s3 s4)) (.tup h4 (.cons (.str _) (.cons (dx.mono (Same.trans s3 s4)) (.cons (dp.mono (Same.trans s2 (Same.trans s3 s4))) (.cons (d3.mono s4) .nil))))) ?_ (by show s.thr ++ [] = _; rw [List.append_nil]) (Nat.le_refl _) (.inl (Nat.le_refl _)) O
    have w3 := b3.wt
    have ws := sb.wt
    refine ⟨⟨xb.ok, sb.ok, b3.ok⟩, ?_, .mono (n := n + 1) (.tup (n := n) (.cons (.str (by decide +kernel)) (.cons (xb.sh.mono (by omega)) (.cons sb.sh (.cons (b3.sh.mono hn) .nil))))) (by omega)⟩
    have h1 : x.wt ≤ 290 := xb.wt
    show 20 + x.wt + s.wt + Sm.wt (.set t3 x3) ≤ _
    omega
  fail "s"
  refine i_d2 (fun h2 => ?_) (fun h2 => ?_)
  · fail "s"
    rename_i pn H2 O
    refine ⟨a, c, B, _, e, en, wd.ce, K, 0, rfl, by decide, O, EB0, eo, hC, hK, fun q H2 B2 x s2 dx xb O => ?_⟩
    fail "s"
    rename_i pl H3 O
    refine ⟨a, c, B2, _, e, en, wd.ce, K, rfl, O, EB0.mono s2, eo, hC, hK, fun q3 H3 B3 t3 x3 s3 d3 b3 O => ?_⟩
    fail "s"
    rename_i r H4 O
    obtain ⟨B4, s4, h4, O⟩ := O.freeze
    obtain ⟨B5, s5, h5, O⟩ := O.freeze
    obtain ⟨B6, s6, h6, O⟩ := O.freeze
    have dn : Dt B6 (.ref pn) (Ex.D (.num 1)) := .tup h6 (.cons (.str _) (.cons (.int _) .nil))
    have dl : Dt B6 (.ref pl) (Ex.D (.bin "<" (.num 1) x)) := .tup (s6 _ _ h5) (.cons (.str _) (.cons dn (.cons (dx.mono (Same.trans s3 (Same.trans s4 (Same.trans s5 s6)))) .nil)))
    have bl : XB wd.ce 1 (.bin "<" (.num 1) x) := .bin (by decide +kernel) (.num (by decide) (by decide)) xb
    refine k r _ B6 (.ite (.bin "<" (.num 1) x) (.set t3 x3) s) wd.ce (Same.trans s2 (Same.trans s3 (Same.trans s4 (Same.trans s5 s6)))) (.tup (s6 _ _ (s5 _ _ h4)) (.cons (.str _) (.cons dl (.cons (d3.mono (Same.trans s4 (Same.trans s5 s6))) (.cons (dp.mono (Same.trans s2 (Same.trans s3 (Same.trans s4 (Same.trans s5 s6))))) .nil))))) ?_ (by show [] ++ s.thr = _; rw [List.nil_append]) (Nat.le_refl _) (.inl (Nat.le_refl _)) O
    have w3 := b3.wt
    have ws := sb.wt
    refine ⟨⟨bl.ok, b3.ok, sb.ok⟩, ?_, .mono (n := n + 1) (.tup (n := n) (.cons (.str (by decide +kernel)) (.cons (bl.sh.mono (by omega)) (.cons (b3.sh.mono hn) (.cons sb.sh .nil))))) (by omega)⟩
    have h1 : Ex.wt (.bin "<" (.num 1) x) ≤ 290 := bl.wt
    show 20 + Ex.wt (.bin "<" (.num 1) x) + Sm.wt (.set t3 x3) + s.wt ≤ _
    omega
  have same : ∀ H', Own a c B H' ((w, wdO wd cw) :: ls) → Q (.ref p) H' := fun H' O => k p H' B s wd.ce (Same.refl _) dp (sb.mono (Nat.le_refl _) (Nat.le_refl _) (by omega) (by omega)) rfl (Nat.le_refl _) (.inl (Nat.le_refl _)) O
  fail "s"
  refine i_d2 (fun h3 => ?_) (fun h3 => ?_)
  rotate_left
  · fail "s"
    exact same _ O
  fail "s"
  cases hlo : wd.lo with
  | false =>
    fail "s"
    exact same _ O
  | true =>
    fail "s"
    refine i_d2 (fun h4 => ?_) (fun h4 => ?_)
    rotate_left
    · fail "s"
      exact same _ O
    fail "s"
    refine ⟨a, c, B, ls, w, cw, wd, 1, rfl, O, fun H2 O => ?_⟩
    fail "s"
    rename_i pc _ _ n2 _ _ lt _ _ n1 _ _ ad _ _ st _ _ l6 _ _ q5 _ _ rp _ _ n0 _ _ s0 _ _ l1 _ _ q0 H9 O
    obtain ⟨B2, s2, hb, O⟩ := Own.settle (l0 := (w, wdO { wd with ce := wd.ce + 1 } cw) :: ls) O (by fail "p")
    have cC : wd.ce < wd.ce + 1 := Nat.lt_succ_self _
    have dc : Dt B2 (.ref pc) (Ex.D (.cell wd.ce)) := .tup (hb (pc, _) (by fail "m")) (.cons (.str _) (.cons (.int _) .nil))
    have d2 : Dt B2 (.ref n2) (Ex.D (.num 2)) := .tup (hb (n2, _) (by fail "m")) (.cons (.str _) (.cons (.int _) .nil))
    have dl : Dt B2 (.ref lt) (Ex.D (.bin "<" (.cell wd.ce) (.num 2))) := .tup (hb (lt, _) (by fail "m")) (.cons (.str _) (.cons dc (.cons d2 .nil)))
    have d1 : Dt B2 (.ref n1) (Ex.D (.num 1)) := .tup (hb (n1, _) (by fail "m")) (.cons (.str _) (.cons (.int _) .nil))
    have da : Dt B2 (.ref ad) (Ex.D (.bin "+" (.cell wd.ce) (.num 1))) := .tup (hb (ad, _) (by fail "m")) (.cons (.str _) (.cons dc (.cons d1 .nil)))
    have ds : Dt B2 (.ref st) (Sm.D (.set (.cell wd.ce) (.bin "+" (.cell wd.ce) (.num 1)))) := .tup (hb (st, _) (by fail "m")) (.cons (.str _) (.cons dc (.cons da .nil)))
    have dq : Dt B2 (.ref q5) (Sm.D (.seq [s, .set (.cell wd.ce) (.bin "+" (.cell wd.ce) (.num 1))])) := .tup (hb (q5, _) (by fail "m")) (.cons (.str _) (.cons (.lst (hb (l6, _) (by fail "m")) (.cons (dp.mono s2) (.cons ds .nil))) .nil))
    have dr : Dt B2 (.ref rp) (Sm.D (.rep (.bin "<" (.cell wd.ce) (.num 2)) 2 (.seq [s, .set (.cell wd.ce) (.bin "+" (.cell wd.ce) (.num 1))]))) := .tup (hb (rp, _) (by fail "m")) (.cons (.str _) (.cons dl (.cons (.int _) (.cons dq .nil))))
    have d0 : Dt B2 (.ref n0) (Ex.D (.num 0)) := .tup (hb (n0, _) (by fail "m")) (.cons (.str _) (.cons (.int _) .nil))
    have dz : Dt B2 (.ref s0) (Sm.D (.set (.cell wd.ce) (.num 0))) := .tup (hb (s0, _) (by fail "m")) (.cons (.str _) (.cons dc (.cons d0 .nil)))
    have dk : Dt B2 (.ref q0) (Sm.D (.seq [.set (.cell wd.ce) (.num 0), .rep (.bin "<" (.cell wd.ce) (.num 2)) 2 (.seq [s, .set (.cell wd.ce) (.bin "+" (.cell wd.ce) (.num 1))])])) := .tup (hb (q0, _) (by fail "m")) (.cons (.str _) (.cons (.lst (hb (l1, _) (by fail "m")) (.cons dz (.cons dr .nil))) .nil))
    have bl : XB (wd.ce + 1) 1 (.bin "<" (.cell wd.ce) (.num 2)) := .bin (by decide +kernel) (.cell cC) (.num (by decide) (by decide))
    have ba : XB (wd.ce + 1) 1 (.bin "+" (.cell wd.ce) (.num 1)) := .bin (by decide +kernel) (.cell cC) (.num (by decide) (by decide))
    have bs : SB (wd.ce + 1) K 6 800 (.set (.cell wd.ce) (.bin "+" (.cell wd.ce) (.num 1))) := set_sb (.cell cC) .cell (ba.up (by decide))
    have bz : SB (wd.ce + 1) K 6 800 (.set (.cell wd.ce) (.num 0)) := set_sb (.cell cC) .cell (.num (by decide) (by decide))
    have sb' := sb.mono (Nat.le_succ wd.ce) (Nat.le_refl K) (Nat.le_refl n) (Nat.le_refl wt)
    have ws := sb.wt
    refine k q0 _ B2 _ (wd.ce + 1) s2 dk ?_ ?_ (Nat.le_succ _) (.inr (by omega)) O
    · refine ⟨⟨bz.ok, ⟨bl.ok, by decide, by decide, sb'.ok, bs.ok, trivial⟩, trivial⟩, ?_, ?_⟩
      · show 20 + ((20 + 20 + 20) + 20 + ((30 + (30 + 20 + 20) + (20 + (s.wt + 20 + ((20 + 20 + (30 + 20 + 20)) + 20 + 0)))) + 20 + 0)) ≤ _
        omega
      · exact .tup (n := n + 4) (.cons (.str (by decide +kernel)) (.cons (.lst (n := n + 3) (.cons (bz.sh.mono (by omega)) (.cons (.tup (n := n + 2) (.cons (.str (by decide +kernel)) (.cons (bl.sh.mono (by omega)) (.cons .int (.cons (.tup (n := n + 1) (.cons (.str (by decide +kernel)) (.cons (.lst (n := n) (.cons sb.sh (.cons (bs.sh.mono hn) .nil))) .nil))) .nil))))) .nil))) .nil))
    · show ([] : List Nat) ++ (((s.thr ++ ([] ++ [])) ++ []) : List Nat) = s.thr
      simp

set_option Elab.async false
set_option linter.all false
set_option maxRecDepth 100000
set_option maxHeartbeats 4000000
open PySem PySem.Spec PyProof.Rows L2 Lb


theorem len_l_par (A : Ad) {n : Nat} {vs : List V} {H : Hp} {Q : VK} {E : XK} (h : sp_l_par A n vs H Q E) : vs.length = 4 := by
  obtain ⟨a, c, B, ls, e, w, cw, en, wd, deep, rfl, _⟩ := h
  rfl
theorem len_l_items (A : Ad) {n : Nat} {vs : List V} {H : Hp} {Q : VK} {E : XK} (h : sp_l_items A n vs H Q E) : vs.length = 4 := by
  obtain ⟨a, c, B, ls, e, w, cw, ip, en, wd, iv, its, nn, rfl, _⟩ := h
  rfl
/-- the list that is being made by items -/
structure IS (a c cw w F : Addr) (B0 : Hp) (ls : List (Addr × HO)) (wd0 : Wd) (nn : Nat) (B H : Hp) (wd : Wd) (fv : List V) (l : List Sm) (m β : Nat) : Prop where
  s : Same B0 B
  st : Step wd0 wd
  k : WI wd
  O : Own a c B H ((F, .lst fv) :: (w, wdO wd cw) :: (cw, .lst (chv wd.ch)) :: ls)
  d : DtAll B fv (smDs l)
  thr : Thr wd0.th wd.th (thrs l).flatten
  ok : oks wd.ce wd.ch.length l
  sh : ∀ s ∈ l, Sh nn s.D
  len : l.length ≤ m
  wt : wts l + cst wd + β ≤ cst wd0
section
variable {a c cw w F : Addr} {B0 : Hp} {ls : List (Addr × HO)} {wd0 : Wd} {nn : Nat} {B B' H H' : Hp} {wd wd' : Wd} {fv : List V} {l : List Sm} {m β β' : Nat} {v : V} {s : Sm}
theorem IS.fl (I : IS a c cw w F B0 ls wd0 nn B H wd fv l m β) : fv.length = l.length := by
  have := dtLen I.d
  rw [smDs_len] at this
  exact this
theorem IS.push (I : IS a c cw w F B0 ls wd0 nn B H wd fv l m β) (sB : Same B B') (st0 : Step wd0 wd') (h1 : wd.ce ≤ wd'.ce) (h2 : wd.ch.length ≤ wd'.ch.length) (hk : WI wd') (O : Own a c B' H' ((F, .lst (fv ++ [v])) :: (w, wdO wd' cw) :: (cw, .lst (chv wd'.ch)) :: ls)) (dv : Dt B' v s.D) (th : Thr wd.th wd'.th s.thr) (ok : s.ok wd'.ce wd'.ch.length) (sh : Sh nn s.D)
    (hw : s.wt + 20 + cst wd' + β' ≤ cst wd + β) : IS a c cw w F B0 ls wd0 nn B' H' wd' (fv ++ [v]) (l ++ [s]) (m + 1) β' where
  s := Same.trans I.s sB
  st := st0
  k := hk
  O := O
  d := by
    rw [smDs_snoc]
    exact DtAll.append (I.d.mono sB) (.cons dv .nil)
  thr := by
    rw [thrs_app, List.flatten_append]
    have : (thrs [s]).flatten = s.thr := by
      show (s.thr :: []).flatten = _
      rw [List.flatten_cons, List.flatten_nil, List.append_nil]
    rw [this]
    exact I.thr.app th
  ok := oks_app (I.ok.mono h1 h2) ⟨ok, trivial⟩
  sh := fun x hx => (List.mem_append.mp hx).elim (I.sh x) fun h => by rw [List.mem_singleton.mp h]; exact sh
  len := by rw [List.length_append]; have := I.len; show _ + 1 ≤ _; omega
  wt := by
    rw [wts_app]
    have := I.wt
    show wts l + (s.wt + 20 + 0) + _ + _ ≤ _
    omega
/-- the world not touched -/
theorem IS.add (I : IS a c cw w F B0 ls wd0 nn B H wd fv l m β) (sB : Same B B') (O : Own a c B' H' ((F, .lst (fv ++ [v])) :: (w, wdO wd cw) :: (cw, .lst (chv wd.ch)) :: ls)) (dv : Dt B' v s.D) (th : s.thr = []) {n wt : Nat} (sb : SB wd.ce wd.ch.length n wt s) (hn : n ≤ nn) (hw : wt + 20 + β' ≤ β) : IS a c cw w F B0 ls wd0 nn B' H' wd (fv ++ [v]) (l ++ [s]) (m + 1) β' :=
  I.push sB I.st (Nat.le_refl _) (Nat.le_refl _) I.k O dv (by rw [th]; exact .nil) sb.ok (sb.sh.mono hn) (by have := sb.wt; omega)
theorem IS.weak (I : IS a c cw w F B0 ls wd0 nn B H wd fv l m β) {m' : Nat} (h : m ≤ m') (k : β' ≤ β) : IS a c cw w F B0 ls wd0 nn B H wd fv l m' β' :=
  { I with
    len := Nat.le_trans I.len h
    wt := by have := I.wt; omega }
theorem IS.same (I : IS a c cw w F B0 ls wd0 nn B H wd fv l m β) (O : Own a c B H' ((F, .lst fv) :: (w, wdO wd cw) :: (cw, .lst (chv wd.ch)) :: ls)) : IS a c cw w F B0 ls wd0 nn B H' wd fv l m β := { I with O := O }
theorem IS.same2 (I : IS a c cw w F B0 ls wd0 nn B H wd fv l m β) (sB : Same B B') (O : Own a c B' H' ((F, .lst fv) :: (w, wdO wd cw) :: (cw, .lst (chv wd.ch)) :: ls)) : IS a c cw w F B0 ls wd0 nn B' H' wd fv l m β := { I with s := Same.trans I.s sB, O := O, d := I.d.mono sB }
/-- one item taken -/
theorem IS.take (I : IS a c cw w F B0 ls wd0 nn B H wd fv l m β) (hi : 0 < wd.it) (O : Own a c B H' ((F, .lst fv) :: (w, wdO { wd with it := wd.it - 1 } cw) :: (cw, .lst (chv wd.ch)) :: ls)) : IS a c cw w F B0 ls wd0 nn B H' { wd with it := wd.it - 1 } fv l m (β + 130000) where
  s := I.s
  st := I.st.trans ⟨Nat.le_refl _, Nat.sub_le _ _, Nat.le_refl _, ⟨0, by simp⟩, rfl, rfl, Nat.le_refl _⟩
  k := ⟨I.k.pot, I.k.l11, I.k.ch⟩
  O := O
  d := I.d
  thr := I.thr
  ok := I.ok
  sh := I.sh
  len := I.len
  wt := by
    have := I.wt
    unfold cst at this ⊢
    show wts l + (130000 * (wd.it - 1) + 5000 * wd.left) + _ ≤ _
    omega
end

set_option Elab.async false
set_option linter.all false
set_option maxRecDepth 100000
set_option maxHeartbeats 4000000
open PySem PySem.Spec PyProof.Rows L2 Lb


abbrev t_chain (A : Ad) (n : Nat) : TS := (tIfS (tTest (tOp (rEqA A.K) (tOp rIxA (tVar 5) (tC (.int 0))) (tC (.str "give")))) (tDrop (tBML rAppA (tVar 4) (tCons (tTup (tCons (tC (.str "give")) (tCons (tOp rIxA (tVar 5) (tC (.int 1))) (tCons (tCall (sp_l_expression A 2) [] E0 (tCons (tVar 0) (tCons (tVar 1) (tCons (tC (.int 2)) tNil)))) tNil)))) tNil))) (tIfS (tAnd (tTest (tOp (rEqA A.K) (tOp rIxA (tVar 5) (tC (.int 0))) (tC (.str "take")))) (tAnd (tTru A.K (tDGet (tVar 2) (tC (.str "alts")))) (tTest (tOp (rEqA A.K) (tCall spDraw [] E0 (tCons (tVar 0) (tCons (tC (.int 2)) tNil))) (tC (.int 0)))))) (tSeq (tDrop (tBML rAppA (tVar 4) (tCons (tCall (sp_l_alt A) [] E0 (tCons (tVar 0) (tCons (tVar 1) (tCons (tOp rIxA (tVar 5) (tC (.int 1))) tNil)))) tNil))) (tIfS (tAnd (tTest (tOp (rEqA A.K) (tOp rIxA (tVar 5) (tUn (rU fun i => .int (-i)) (tC (.int 1)))) (tC (.str "")))) (tTest (tOp (rEqA A.K) (tCall spDraw [] E0 (tCons (tVar 0) (tCons (tC (.int 6)) tNil))) (tC (.int 0))))) (tSeq (tAsg (tOp rIxA (tOp rIxA (tOp rIxA (tVar 4) (tUn (rU fun i => .int (-i)) (tC (.int 1)))) (tC (.int 1))) (tC (.int 0))) (gName 6)) (tAsg (tTup (tCons (tC (.str "alt")) (tCons (tOp rAddA (tLst (tCons (tOp (rCatT A.K) (tSl rSlA (tVar 6) tNoPart (tPart (tC (.int 3)))) (tTup (tCons (tCall (sp_parP A n) [] E0 (tCons (tVar 0) (tCons (tVar 1) (tCons (tVar 2) (tCons (tC (.int 0)) tNil))))) tNil))) tNil)) (tSl rSlA (tOp rIxA (tOp rIxA (tVar 4) (tUn (rU fun i => .int (-i)) (tC (.int 1)))) (tC (.int 1))) (tPart (tC (.int 1))) tNoPart)) tNil))) (gSub (tVar 4) (tUn (rU fun i => .int (-i)) (tC (.int 1))) rSetA))) tNext)) (tIfS (tTest (tOp (rEqA A.K) (tOp rIxA (tVar 5) (tC (.int 0))) (tC (.str "take")))) (tDrop (tBML rAppA (tVar 4) (tCons (tTup (tCons (tC (.str "take")) (tCons (tOp rIxA (tVar 5) (tC (.int 1))) (tCons (tCall (sp_l_target A) [] E0 (tCons (tVar 0) (tCons (tVar 1) tNil))) tNil)))) tNil))) (tIfS (tTest (tOp (rEqA A.K) (tOp rIxA (tVar 5) (tC (.int 0))) (tC (.str "loop")))) (tSeq (tAsg (tTup (tCons (tC (.str "cell")) (tCons (tOp rIxA (tVar 5) (tC (.int 3))) tNil))) (gName 7)) (tSeq (tAsg (tLc (iList A.K (tOp rIxA (tVar 5) (tC (.int 2)))) (gName 10) tYes (tTup (tCons (tOp rIxA (tVar 10) (tC (.int 0))) (tCons (tOp rIxA (tVar 10) (tC (.int 1))) (tCons (tC (.str "loop")) tNil)))) [10]) (gName 8)) (tSeq (tAsg (tOp rAddA (tCall (sp_itemsP A n) [] E0 (tCons (tVar 0) (tCons (tVar 1) (tCons (tVar 2) (tCons (tVar 8) tNil))))) (tLst (tCons (tTup (tCons (tC (.str "set")) (tCons (tVar 7) (tCons (tTup (tCons (tC (.str "+")) (tCons (tVar 7) (tCons (tTup (tCons (tC (.str "num")) (tCons (tC (.int 1)) tNil))) tNil)))) tNil)))) tNil))) (gName 9)) (tSeq (tDrop (tBML rAppA (tVar 4) (tCons (tTup (tCons (tC (.str "set")) (tCons (tVar 7) (tCons (tTup (tCons (tC (.str "num")) (tCons (tC (.int 0)) tNil))) tNil)))) tNil))) (tDrop (tBML rAppA (tVar 4) (tCons (tTup (tCons (tC (.str "repeat")) (tCons (tTup (tCons (tC (.str "<")) (tCons (tVar 7) (tCons (tTup (tCons (tC (.str "num")) (tCons (tOp rIxA (tVar 5) (tC (.int 1))) tNil))) tNil)))) (tCons (tOp rAddA (tOp rIxA (tVar 5) (tC (.int 1))) (tCall spDraw [] E0 (tCons (tVar 0) (tCons (tC (.int 2)) tNil)))) (tCons (tTup (tCons (tC (.str "seq")) (tCons (tVar 9) tNil))) tNil))))) tNil))))))) (tDrop (tBML rAppA (tVar 4) (tCons (tCall (sp_l_wrapped A) [] E0 (tCons (tVar 0) (tCons (tVar 1) (tCons (tVar 2) (tCons (tCall (sp_parP A n) [] E0 (tCons (tVar 0) (tCons (tVar 1) (tCons (tVar 2) (tCons (tC (.int 0)) tNil))))) tNil))))) tNil)))))))
inductive DpX (x : It) (left nn : Nat) : Prop
  | tag (h : x.tagged) (k : 12 ≤ nn)
  | plain (h : x ≠ .nest) (k : 4 * left + 15 ≤ nn)
  | nest (k : 4 * left + 17 ≤ nn)
theorem DpX.t {x : It} {left nn : Nat} (h : DpX x left nn) : 12 ≤ nn := by
  cases h <;> omega
theorem dt3 {B : Hp} {v : V} {d0 d1 d2 : PyData} (h : Dt B v (.tuple [d0, d1, d2])) : ∃ t v0 v1 v2, v = .ref t ∧ B t = some (.tup [v0, v1, v2]) ∧ Dt B v0 d0 ∧ Dt B v1 d1 ∧ Dt B v2 d2 := by
  cases h with
  | tup ht ha =>
    cases ha with
    | cons a0 ha =>
      cases ha with
      | cons a1 ha =>
        cases ha with
        | cons a2 ha =>
          cases ha
          exact ⟨_, _, _, _, rfl, ht, a0, a1, a2⟩
theorem dt2 {B : Hp} {v : V} {d0 d1 : PyData} (h : Dt B v (.tuple [d0, d1])) : ∃ t v0 v1, v = .ref t ∧ B t = some (.tup [v0, v1]) ∧ Dt B v0 d0 ∧ Dt B v1 d1 := by
  cases h with
  | tup ht ha =>
    cases ha with
    | cons a0 ha =>
      cases ha with
      | cons a1 ha =>
        cases ha
        exact ⟨_, _, _, rfl, ht, a0, a1⟩
theorem dt1 {B : Hp} {v : V} {d0 : PyData} (h : Dt B v (.tuple [d0])) : ∃ t v0, v = .ref t ∧ B t = some (.tup [v0]) ∧ Dt B v0 d0 := by
  cases h with
  | tup ht ha =>
    cases ha with
    | cons a0 ha =>
      cases ha
      exact ⟨_, _, rfl, ht, a0⟩
theorem dtS {B : Hp} {v : V} {x : Str} (h : Dt B v (.str x)) : v = .str x := by
  cases h
  rfl
theorem dtL {B : Hp} {v : V} {ds : List PyData} (h : Dt B v (.list ds)) : ∃ p xs, v = .ref p ∧ B p = some (.lst xs) ∧ DtAll B xs ds := by
  cases h with
  | lst hp ha => exact ⟨_, _, rfl, hp, ha⟩
theorem gt_at {B : Hp} {v : V} {k : Bool} {c : Nat} {tag : Bool} (h : Dt B v (It.gt k c tag).D) : ∃ t, v = .ref t ∧ B t = some (.tup [.str (kS k), .int (c : Nat), .str (tS tag)]) := by
  obtain ⟨t, v0, v1, v2, rfl, ht, d0, d1, d2⟩ := dt3 h
  rw [dtS d0, dtI d1, dtS d2] at ht
  exact ⟨t, rfl, ht⟩
section
variable {a c cw w F e ip : Addr} {B0 : Hp} {ls : List (Addr × HO)} {wd0 : Wd} {nn : Nat} {B H : Hp} {wd : Wd} {fv : List V} {l : List Sm} {m β n : Nat} {en : En} {v x6 x7 x8 x9 x10 : V} {nx : L2.St → Hp → Prop} {rt : VK} {bk ct : L2.St → Hp → Prop}
structure Ctx (n : Nat) (B0 : Hp) (e : Addr) (en : En) (wd0 : Wd) : Prop where
  EB : EnvB B0 e en
  eo : en.ok wd0.ce wd0.ch.length
  wi : WI wd0
theorem Ctx.cc {n : Nat} (X : Ctx n B0 e en wd0) (I : IS a c cw w F B0 ls wd0 nn B H wd fv l m β) : en.ok wd.ce wd.ch.length ∧ wd.ce ≤ 1000 ∧ wd.ch.length ≤ 24 ∧ wd.left ≤ wd0.left ∧ WI wd := by
  have h1 := I.k.pot
  exact ⟨X.eo.mono I.st.ce I.st.chl, by omega, I.k.ch, I.st.left, I.k⟩
def Kn (a c cw w F : Addr) (B0 : Hp) (ls : List (Addr × HO)) (wd0 : Wd) (nn m : Nat) (e ip : Addr) (v : V) (nx : L2.St → Hp → Prop) : Prop := ∀ B' H' wd' fv' l' y6 y7 y8 y9 y10, IS a c cw w F B0 ls wd0 nn B' H' wd' fv' l' m 0 → nx [some (.ref a), some (.ref e), some (.ref w), some (.ref ip), some (.ref F), some v, y6, y7, y8, y9, y10] H'
set_option maxHeartbeats 64000000 in
theorem item_give (A : Ad) (X : Ctx n B0 e en wd0) (I : IS a c cw w F B0 ls wd0 nn B H wd fv l m β) (hβ : 126000 ≤ β) (hm : m ≤ 3000) {ch : Nat} {tag : Bool} (hx : Dt B v (It.gt true ch tag).D) (xo : ch < wd0.ch.length) (dp : 12 ≤ nn) {x6 x7 x8 x9 x10 : Option V}
    (kn : Kn a c cw w F B0 ls wd0 nn (m + 2) e ip v nx) : t_chain A n ⟨nx, rt, bk, ct⟩ [some (.ref a), some (.ref e), some (.ref w), some (.ref ip), some (.ref F), some v, x6, x7, x8, x9, x10] H := by
  obtain ⟨eo, hC, hK, _, _⟩ := X.cc I
  obtain ⟨t, rfl, ht⟩ := gt_at hx
  unfold kS at ht
  have O := I.O
  have fl := I.fl
  have len := I.len
  unfold t_chain
  fail "s"
  refine ⟨a, c, B, _, e, en, wd.ce, wd.ch.length, 2, rfl, by decide, O, X.EB.mono I.s, eo, hC, by omega, fun q H2 B2 x s2 dx xb O => ?_⟩
  fail "s"
  rename_i g H3 O3 H4 O
  have O := Own.perm O (ls' := (g, .tup [.str "give", .int (ch : Nat), .ref q]) :: (F, .lst (fv ++ [.ref g])) :: (w, wdO wd cw) :: (cw, .lst (chv wd.ch)) :: ls) (by fail "pm")
  obtain ⟨B3, s3, hg, O⟩ := O.freeze
  refine kn _ _ _ _ _ _ _ _ _ _ ((I.add (s := .give ch x) (n := 6) (wt := 800) (β' := 0) (Same.trans s2 s3) O (.tup hg (.cons (.str _) (.cons (.int _) (.cons (dx.mono s3) .nil)))) rfl ⟨⟨Nat.lt_of_lt_of_le xo I.st.chl, xb.ok⟩, ?_, .tup (n := 5) (.cons (.str (by decide +kernel)) (.cons .int (.cons xb.sh .nil)))⟩ (by omega) (by omega)).weak (by omega) (Nat.le_refl _))
  have : x.wt ≤ 610 := xb.wt
  show 20 + x.wt ≤ 800
  omega
theorem atLast {xs : List V} {v : V} : atI (xs ++ [v]) (-1) = some v := by
  unfold atI ixN
  rw [if_neg (by decide), if_pos (by rw [List.length_append]; show -(((xs.length + 1 : Nat) : Int)) ≤ -1; omega)]
  show (xs ++ [v])[((-1 : Int) + ((xs ++ [v]).length : Nat)).toNat]? = some v
  rw [List.length_append, show ((-1 : Int) + ((xs.length + [v].length : Nat) : Int)).toNat = xs.length by show ((-1 : Int) + ((xs.length + 1 : Nat) : Int)).toNat = _; omega]
  simp
theorem ixLast {xs : List V} {v : V} : ixN (xs ++ [v]).length (-1) = some xs.length := by
  unfold ixN
  rw [if_neg (by decide), if_pos (by rw [List.length_append]; show -(((xs.length + 1 : Nat) : Int)) ≤ -1; omega), List.length_append]
  show some ((-1 : Int) + ((xs.length + 1 : Nat) : Int)).toNat = _
  rw [show ((-1 : Int) + ((xs.length + 1 : Nat) : Int)).toNat = xs.length by omega]
theorem setLast {xs : List V} {v u : V} : (xs ++ [v]).set xs.length u = xs ++ [u] := by
  rw [List.set_append_right _ _ (Nat.le_refl _), Nat.sub_self]
  rfl
theorem alt_new {C C' K K' n : Nat} {rs : List AR} {s0 s' : Sm} {ll : List Sm} (h1 : C ≤ C') (h2 : K ≤ K') (he : rs.length = (s0 :: ll).length) (hl : (s0 :: ll).length ≤ 31) (hr : ∀ r ∈ rs, AB C K r) (hs : ∀ s ∈ s0 :: ll, SB C K 9 3000 s) (ok : s'.ok C' K') (sh : Sh n s'.D) (hn : 9 ≤ n) :
    (Sm.alt rs (s' :: ll)).ok C' K' ∧ Sh (n + 3) (Sm.alt rs (s' :: ll)).D ∧ (Sm.alt rs (s' :: ll)).wt ≤ 120000 + s'.wt := by
  have a := alt_sb he hl hr hs
  refine ⟨⟨he, fun r h => (hr r h).ok.mono h1 h2, ok, oks_of fun s h => (hs s (List.mem_cons_of_mem _ h)).ok.mono h1 h2⟩, alt_sh (C := C) (K := K) (by omega) hr fun s h => ?_, ?_⟩
  · rcases List.mem_cons.mp h with e | e
    · rw [e]; exact sh
    · exact (hs s (List.mem_cons_of_mem _ e)).sh.mono hn
  · have w : 20 + (rs.map fun r : AR => (r.g.map Ex.wt).getD 10 + r.t.wt + 20).sum + (s0.wt + 20 + wts ll) ≤ 120000 := a.wt
    show 20 + (rs.map fun r : AR => (r.g.map Ex.wt).getD 10 + r.t.wt + 20).sum + (s'.wt + 20 + wts ll) ≤ _
    omega
set_option maxHeartbeats 64000000 in
theorem item_take (A : Ad) (X : Ctx n B0 e en wd0) (I : IS a c cw w F B0 ls wd0 nn B H wd fv l m β) (hβ : 126000 ≤ β) (hm : m ≤ 3000) {ch : Nat} {tag : Bool} (hx : Dt B v (It.gt false ch tag).D) (xo : ch < wd0.ch.length) (fuel : tag = true ∨ wd0.left + 1 ≤ n) (dp : 12 ≤ nn) (dp2 : tag = true ∨ 4 * wd0.left + 15 ≤ nn) {x6 x7 x8 x9 x10 : Option V}
    (kn : Kn a c cw w F B0 ls wd0 nn (m + 2) e ip v nx) : t_chain A n ⟨nx, rt, bk, ct⟩ [some (.ref a), some (.ref e), some (.ref w), some (.ref ip), some (.ref F), some v, x6, x7, x8, x9, x10] H := by
  obtain ⟨eo, hC, hK, hleft, wi⟩ := X.cc I
  obtain ⟨t, rfl, ht⟩ := gt_at hx
  unfold kS at ht
  have O := I.O
  have fl := I.fl
  have len := I.len
  have xoK := Nat.lt_of_lt_of_le xo I.st.chl
  unfold t_chain
  have plain : ∀ H', Own a c B H' ((F, .lst fv) :: (w, wdO wd cw) :: (cw, .lst (chv wd.ch)) :: ls) → (tIfS (tTest (tOp (rEqA A.K) (tOp rIxA (tVar 5) (tC (.int 0))) (tC (.str "take")))) (tDrop (tBML rAppA (tVar 4) (tCons (tTup (tCons (tC (.str "take")) (tCons (tOp rIxA (tVar 5) (tC (.int 1))) (tCons (tCall (sp_l_target A) [] E0 (tCons (tVar 0) (tCons (tVar 1) tNil))) tNil)))) tNil))) (tIfS (tTest (tOp (rEqA A.K) (tOp rIxA (tVar 5) (tC (.int 0))) (tC (.str "loop")))) (tSeq (tAsg (tTup (tCons (tC (.str "cell")) (tCons (tOp rIxA (tVar 5) (tC (.int 3))) tNil))) (gName 7)) (tSeq (tAsg (tLc (iList A.K (tOp rIxA (tVar 5) (tC (.int 2)))) (gName 10) tYes (tTup (tCons (tOp rIxA (tVar 10) (tC (.int 0))) (tCons (tOp rIxA (tVar 10) (tC (.int 1))) (tCons (tC (.str "loop")) tNil)))) [10]) (gName 8)) (tSeq (tAsg (tOp rAddA (tCall (sp_itemsP A n) [] E0 (tCons (tVar 0) (tCons (tVar 1) (tCons (tVar 2) (tCons (tVar 8) tNil))))) (tLst (tCons (tTup (tCons (tC (.str "set")) (tCons (tVar 7) (tCons (tTup (tCons (tC (.str "+")) (tCons (tVar 7) (tCons (tTup (tCons (tC (.str "num")) (tCons (tC (.int 1)) tNil))) tNil)))) tNil)))) tNil))) (gName 9)) (tSeq (tDrop (tBML rAppA (tVar 4) (tCons (tTup (tCons (tC (.str "set")) (tCons (tVar 7) (tCons (tTup (tCons (tC (.str "num")) (tCons (tC (.int 0)) tNil))) tNil)))) tNil))) (tDrop (tBML rAppA (tVar 4) (tCons (tTup (tCons (tC (.str "repeat")) (tCons (tTup (tCons (tC (.str "<")) (tCons (tVar 7) (tCons (tTup (tCons (tC (.str "num")) (tCons (tOp rIxA (tVar 5) (tC (.int 1))) tNil))) tNil)))) (tCons (tOp rAddA (tOp rIxA (tVar 5) (tC (.int 1))) (tCall spDraw [] E0 (tCons (tVar 0) (tCons (tC (.int 2)) tNil)))) (tCons (tTup (tCons (tC (.str "seq")) (tCons (tVar 9) tNil))) tNil))))) tNil))))))) (tDrop (tBML rAppA (tVar 4) (tCons (tCall (sp_l_wrapped A) [] E0 (tCons (tVar 0) (tCons (tVar 1) (tCons (tVar 2) (tCons (tCall (sp_parP A n) [] E0 (tCons (tVar 0) (tCons (tVar 1) (tCons (tVar 2) (tCons (tC (.int 0)) tNil))))) tNil))))) tNil))))) ⟨nx, rt, bk, ct⟩ [some (.ref a), some (.ref e), some (.ref w), some (.ref ip), some (.ref F), some (.ref t), x6, x7, x8, x9, x10] H' := by
    intro H' O
    fail "s"
    refine ⟨a, c, B, _, e, en, wd.ce, wd.ch.length, rfl, O, X.EB.mono I.s, eo, hC, by omega, fun q H2 B2 x s2 dx xb tg O => ?_⟩
    fail "s"
    rename_i g H3 O3 H4 O
    have O := Own.perm O (ls' := (g, .tup [.str "take", .int (ch : Nat), .ref q]) :: (F, .lst (fv ++ [.ref g])) :: (w, wdO wd cw) :: (cw, .lst (chv wd.ch)) :: ls) (by fail "pm")
    obtain ⟨B3, s3, hg, O⟩ := O.freeze
    refine kn _ _ _ _ _ _ _ _ _ _ ((I.add (s := .take ch x) (n := 4) (wt := 200) (β' := 0) (Same.trans s2 s3) O (.tup hg (.cons (.str _) (.cons (.int _) (.cons (dx.mono s3) .nil)))) rfl ⟨⟨xoK, xb.ok, tg⟩, ?_, .tup (n := 3) (.cons (.str (by decide +kernel)) (.cons .int (.cons xb.sh .nil)))⟩ (by omega) (by omega)).weak (by omega) (Nat.le_refl _))
    have : x.wt ≤ 130 := xb.wt
    show 20 + x.wt ≤ 200
    omega
  fail "s"
  cases hal : wd.al with
  | false =>
    refine i_ff ?_
    exact plain _ O
  | true =>
    fail "s"
    rename_i r1 H1 r10 r11 O
    refine i_d2 (fun h1 => ?_) (fun h1 => plain _ O)
    fail "s"
    refine ⟨a, c, B, _, e, en, wd.ce, wd.ch.length, ch, rfl, O, X.EB.mono I.s, eo, hC, by omega, xoK, fun p H2 B2 rs l' s2 dA hab hsb el l1 l31 O => ?_⟩
    fail "s"
    rename_i H3 O
    have hst : Thr wd.th wd.th (Sm.alt rs l').thr := by
      show Thr _ _ (thrs l').flatten
      rw [thrs_nil fun s h => (hsb s h).2]
      exact .nil
    have asb := alt_sb el l31 hab fun s h => (hsb s h).1
    have fin0 : ∀ H', Own a c B2 H' ((F, .lst (fv ++ [.ref p])) :: (w, wdO wd cw) :: (cw, .lst (chv wd.ch)) :: ls) → ∀ y6 y7 y8 y9 y10, nx [some (.ref a), some (.ref e), some (.ref w), some (.ref ip), some (.ref F), some (.ref t), y6, y7, y8, y9, y10] H' := fun H' O y6 y7 y8 y9 y10 =>
      kn _ _ _ _ _ _ _ _ _ _ ((I.push (s := .alt rs l') (β' := 0) s2 I.st (Nat.le_refl _) (Nat.le_refl _) I.k O dA hst asb.ok (asb.sh.mono dp) (by have := asb.wt; omega)).weak (by omega) (Nat.le_refl _))
    have ht2 := s2 _ _ ht
    have a1 : atI [V.str "take", V.int (ch : Nat), V.str (tS tag)] (-1) = some (.str (tS tag)) := rfl
    fail "s"
    cases tag with
    | true =>
      unfold tS
      fail "s"
      exact fin0 _ O _ _ _ _ _
    | false =>
      unfold tS
      fail "s"
      rename_i r2 H4 r20 r21 O
      refine i_d2 (fun h2 => ?_) (fun h2 => ?_)
      rotate_left
      · fail "s"
        exact fin0 _ O _ _ _ _ _
      have hf : wd0.left + 1 ≤ n := fuel.resolve_left (by decide)
      obtain ⟨n, rfl⟩ : ∃ j, n = j + 1 := ⟨n - 1, by omega⟩
      obtain ⟨tA, v0, v1, hpA, hA, dA0, dA1⟩ := dt2 dA
      cases hpA
      rw [dtS dA0] at hA
      obtain ⟨L, rv, rfl, hL, dL⟩ := dtL dA1
      cases l' with
      | nil => exact absurd l1 (by decide)
      | cons s0 ll =>
        cases rs with
        | nil => exact absurd el (by simp)
        | cons r0 rr =>
          cases dL with
          | @cons rv0 rvr _ _ d0 dr =>
            obtain ⟨tr, g0, g1, g2, g3, rfl, htr, e0, e1, e2, e3⟩ := dt4 d0
            have a2 : atI (fv ++ [V.ref p]) (-1) = some (.ref p) := atLast
            have a3 : atI (V.ref tr :: rvr) 0 = some (.ref tr) := at0
            fail "s"
            refine i_slTO O (O.kp htr) (by show ¬ (HT.sIx 4 0 none = 0 ∧ HT.sIx 4 4 (some 3) = 4); decide) (zs := [g0, g1, g2]) rfl fun q1 H5 O => ?_
            fail "s"
            have O := Own.perm O (ls' := (w, wdO wd cw) :: (cw, .lst (chv wd.ch)) :: (q1, .tup [g0, g1, g2]) :: (F, .lst (fv ++ [.ref p])) :: ls) (by fail "pm")
            refine ⟨a, c, B2, _, e, w, cw, en, wd, 0, rfl, O, X.EB.mono (Same.trans I.s s2), eo, wi, by decide, by omega, fun pp H6 B3 s' wd' s3 dpp st hk th ok sh hw O => ?_⟩
            have hA3 := s3 _ _ hA
            have hL3 := s3 _ _ hL
            fail "s"
            rename_i q2 H7 O
            refine i_catT O (O.mem (by fail "m")) (O.mem (by fail "m")) (by simp) (by simp) (sz (by show 3 + 1 ≤ 100000; decide)) fun q3 H8 O => ?_
            fail "s"
            rename_i q4 H9 O
            have hrv : rvr.length ≤ 31 := by
              have h1 := dtLen dr
              have h2 : (List.zipWith (fun (r : AR) d => PyData.tuple [optD r.g, .int (r.c : Nat), r.t.D, d]) rr (smDs ll)).length ≤ 31 := by
                rw [List.length_zipWith, smDs_len]
                have : (s0 :: ll).length = ll.length + 1 := rfl
                omega
              rw [h1]
              exact h2
            refine i_slO O (O.kp hL3) (cut_from (k := 1) (by simp)) fun q5 H10 O => ?_
            refine i_addN (ys := rvr) (O.mem (by fail "m")) (O.mem (by fail "m")) (sz (by show 1 + rvr.length ≤ 100000; omega)) ?_
            fail "s"
            rename_i q6 H11 O11 q7 H12 O
            refine i_setO O (by fail "u") ixLast fun H13 O => ?_
            rw [setLast] at O
            have O := Own.perm O (ls' := (q7, .tup [.str "alt", .ref q6]) :: (q6, .lst ([.ref q3] ++ rvr)) :: (q3, .tup ([g0, g1, g2] ++ [.ref pp])) :: (q5, .lst rvr) :: (q4, .lst [.ref q3]) :: (q2, .tup [.ref pp]) :: (q1, .tup [g0, g1, g2]) :: (F, .lst (fv ++ [.ref q7])) :: (w, wdO wd' cw) :: (cw, .lst (chv wd'.ch)) :: ls) (by fail "pm")
            obtain ⟨B4, s4, hb, O⟩ := Own.settle (l0 := (F, .lst (fv ++ [.ref q7])) :: (w, wdO wd' cw) :: (cw, .lst (chv wd'.ch)) :: ls) O (by fail "p")
            have s34 := Same.trans s3 s4
            have dq : Dt B4 (.ref q7) (Sm.alt (r0 :: rr) (s' :: ll)).D := .tup (hb (q7, _) (by fail "m")) (.cons (.str _) (.cons (.lst (hb (q6, _) (by fail "m")) (.cons (.tup (hb (q3, _) (by fail "m")) (.cons (e0.mono s34) (.cons (e1.mono s34) (.cons (e2.mono s34) (.cons (dpp.mono s4) .nil))))) (dr.mono s34))) .nil))
            obtain ⟨n1, n2, n3⟩ := alt_new st.ce st.chl el l31 hab (fun s h => (hsb s h).1) ok sh (by omega)
            have tll : (thrs ll).flatten = [] := thrs_nil fun s h => (hsb s (List.mem_cons_of_mem _ h)).2
            refine kn _ _ _ _ _ _ _ _ _ _ ((I.push (s := .alt (r0 :: rr) (s' :: ll)) (β' := 0) (Same.trans s2 s34) (I.st.trans st) st.ce st.chl hk O dq ?_ n1 (n2.mono (by have := dp2.resolve_left (by decide); omega)) (by omega)).weak (by omega) (Nat.le_refl _))
            show Thr _ _ ((s'.thr :: thrs ll).flatten)
            rw [List.flatten_cons, tll, List.append_nil]
            exact th
end

set_option Elab.async false
set_option linter.all false
set_option maxRecDepth 100000
set_option maxHeartbeats 4000000
open PySem PySem.Spec PyProof.Rows L2 Lb


section
variable {a c cw w F e ip : Addr} {B0 : Hp} {ls : List (Addr × HO)} {wd0 : Wd} {nn : Nat} {B H : Hp} {wd : Wd} {fv : List V} {l : List Sm} {m β n : Nat} {en : En} {v : V} {nx : L2.St → Hp → Prop} {rt : VK} {bk ct : L2.St → Hp → Prop} {x6 x7 x8 x9 x10 : Option V}
theorem IS.pushL {B' H' : Hp} {wd' : Wd} {β' j : Nat} {vs2 : List V} {l2 : List Sm} (I : IS a c cw w F B0 ls wd0 nn B H wd fv l m β) (sB : Same B B') (st0 : Step wd0 wd') (h1 : wd.ce ≤ wd'.ce) (h2 : wd.ch.length ≤ wd'.ch.length) (hk : WI wd') (O : Own a c B' H' ((F, .lst (fv ++ vs2)) :: (w, wdO wd' cw) :: (cw, .lst (chv wd'.ch)) :: ls)) (dv : DtAll B' vs2 (smDs l2)) (th : Thr wd.th wd'.th (thrs l2).flatten) (ok : oks wd'.ce wd'.ch.length l2) (sh : ∀ s ∈ l2, Sh nn s.D) (hj : l2.length = j)
    (hw : wts l2 + cst wd' + β' ≤ cst wd + β) : IS a c cw w F B0 ls wd0 nn B' H' wd' (fv ++ vs2) (l ++ l2) (m + j) β' where
  s := Same.trans I.s sB
  st := st0
  k := hk
  O := O
  d := by
    rw [smDs_app]
    exact DtAll.append (I.d.mono sB) dv
  thr := by
    rw [thrs_app, List.flatten_append]
    exact I.thr.app th
  ok := oks_app (I.ok.mono h1 h2) ok
  sh := fun x hx => (List.mem_append.mp hx).elim (I.sh x) (sh x)
  len := by rw [List.length_append]; have := I.len; omega
  wt := by
    rw [wts_app]
    have := I.wt
    omega
theorem wts_loop {l : List Sm} {k m : Int} {cell : Nat} : wts [.set (.cell cell) (.num 0), .rep (.bin "<" (.cell cell) (.num k)) m (.seq (l ++ [.set (.cell cell) (.bin "+" (.cell cell) (.num 1))]))] = wts l + 350 := by
  simp only [wts, Sm.wt, Ex.wt, wts_app]
  omega
set_option maxHeartbeats 64000000 in
theorem item_nest (A : Ad) (X : Ctx n B0 e en wd0) (I : IS a c cw w F B0 ls wd0 nn B H wd fv l m β) (hβ : 126000 ≤ β) (hm : m ≤ 3000) (hx : Dt B v It.nest.D) (fuel : wd0.left + 1 ≤ n) (dp : 4 * wd0.left + 17 ≤ nn)
    (kn : Kn a c cw w F B0 ls wd0 nn (m + 2) e ip v nx) : t_chain A n ⟨nx, rt, bk, ct⟩ [some (.ref a), some (.ref e), some (.ref w), some (.ref ip), some (.ref F), some v, x6, x7, x8, x9, x10] H := by
  obtain ⟨eo, hC, hK, hleft, wi⟩ := X.cc I
  obtain ⟨t, v0, rfl, ht, d0⟩ := dt1 hx
  rw [dtS d0] at ht
  have O := I.O
  have fl := I.fl
  have len := I.len
  obtain ⟨n, rfl⟩ : ∃ j, n = j + 1 := ⟨n - 1, by omega⟩
  unfold t_chain
  fail "s"
  have O := Own.perm O (ls' := (w, wdO wd cw) :: (cw, .lst (chv wd.ch)) :: (F, .lst fv) :: ls) (by fail "pm")
  refine ⟨a, c, B, _, e, w, cw, en, wd, 0, rfl, O, X.EB.mono I.s, eo, wi, by decide, by omega, fun pp H6 B3 s' wd' s3 dpp st hk th ok sh hw O => ?_⟩
  fail "s"
  have pot' := hk.pot
  have l11 := hk.l11
  have c24 := hk.ch
  refine ⟨a, c, B3, _, e, w, cw, pp, en, wd', wd'.ch.length, 4 * wd.left + 12 + 2 * 0, s'.wt, s', rfl, O, X.EB.mono (Same.trans I.s s3), eo.mono st.ce st.chl, by omega, by omega, dpp, ⟨ok, Nat.le_refl _, sh⟩, by omega, fun q H7 B4 s'' ce s4 dq sb th' c1 c2 O => ?_⟩
  fail "s"
  rename_i H8 O
  have O := Own.perm O (ls' := (F, .lst (fv ++ [.ref q])) :: (w, wdO { wd' with ce := ce } cw) :: (cw, .lst (chv wd'.ch)) :: ls) (by fail "pm")
  have st2 : Step wd0 { wd' with ce := ce } := by
    have s1 := I.st.trans st
    exact ⟨s1.left, s1.it, Nat.le_trans s1.ce c1, s1.ch, s1.al, s1.lo, s1.tl⟩
  refine kn _ _ _ _ _ _ _ _ _ _ ((I.push (s := s'') (wd' := { wd' with ce := ce }) (β' := 0) (Same.trans s3 s4) st2 (Nat.le_trans st.ce c1) st.chl ⟨by show ce + 2 * wd'.left ≤ 60; omega, l11, c24⟩ O dq (by rw [th']; exact th) sb.ok (sb.sh.mono (by omega)) ?_).weak (by omega) (Nat.le_refl _))
  have := sb.wt
  show s''.wt + 20 + cst wd' + 0 ≤ _
  omega
theorem loop_at {B : Hp} {v : V} {k : Nat} {ps : List (Bool × Nat)} {cell : Nat} (h : Dt B v (It.loop k ps cell).D) : ∃ t p pv, v = .ref t ∧ B t = some (.tup [.str "loop", .int (k : Nat), .ref p, .int (cell : Nat)]) ∧ B p = some (.lst pv) ∧ DtAll B pv (ps.map (gtD false)) := by
  obtain ⟨t, v0, v1, v2, v3, rfl, ht, d0, d1, d2, d3⟩ := dt4 h
  obtain ⟨p, pv, rfl, hp, dp⟩ := dtL d2
  rw [dtS d0, dtI d1, dtI d3] at ht
  exact ⟨t, p, pv, rfl, ht, hp, dp⟩
theorem part_at {B : Hp} {pv : List V} {ps : List (Bool × Nat)} {tag : Bool} (h : DtAll B pv (ps.map (gtD tag))) {i : Nat} {v : V} (e : pv[i]? = some v) : ∃ p t, ps[i]? = some p ∧ v = .ref t ∧ B t = some (.tup [.str (kS p.1), .int (p.2 : Nat), .str (tS tag)]) := by
  obtain ⟨d, h1, h2⟩ := dtGet h e
  obtain ⟨p, h3, rfl⟩ := mapGet h1
  obtain ⟨t, rfl, ht⟩ := gt_at (k := p.1) (c := p.2) h2
  exact ⟨p, t, h3, rfl, ht⟩
def tgs (ps : List (Bool × Nat)) : List It := ps.map fun p => .gt p.1 p.2 true
theorem tgs_D {ps : List (Bool × Nat)} : itDs (tgs ps) = ps.map (gtD true) := by
  unfold itDs tgs
  rw [List.map_map]
  rfl
set_option maxHeartbeats 64000000 in
theorem item_loop (A : Ad) (X : Ctx n B0 e en wd0) (I : IS a c cw w F B0 ls wd0 nn B H wd fv l m β) (hβ : 126000 ≤ β) (hm : m ≤ 3000) {k cell : Nat} {ps : List (Bool × Nat)} (hx : Dt B v (It.loop k ps cell).D) (xo : (It.loop k ps cell).ok wd0.ce wd0.ch.length) (fuel : wd0.left + 1 ≤ n) (dp : 4 * wd0.left + 15 ≤ nn)
    (kn : Kn a c cw w F B0 ls wd0 nn (m + 2) e ip v nx) : t_chain A n ⟨nx, rt, bk, ct⟩ [some (.ref a), some (.ref e), some (.ref w), some (.ref ip), some (.ref F), some v, x6, x7, x8, x9, x10] H := by
  obtain ⟨eo, hC, hK, hleft, wi⟩ := X.cc I
  obtain ⟨t, pp, pv, rfl, ht, hpp, dpv⟩ := loop_at hx
  obtain ⟨k2, k3, ps20, psK, cellC⟩ := xo
  have O := I.O
  have fl := I.fl
  have len := I.len
  have pvl := dtLen dpv
  rw [List.length_map] at pvl
  obtain ⟨n, rfl⟩ : ∃ j, n = j + 1 := ⟨n - 1, by omega⟩
  unfold t_chain
  fail "s"
  rename_i pc H1 O
  obtain ⟨B2, s2, hpc, O⟩ := O.freeze
  have hpp2 := s2 _ _ hpp
  have ht2 := s2 _ _ ht
  have dpv2 := dpv.mono s2
  refine ⟨⟨_, SqL.of (O.kp hpp2)⟩, fun D hD => ?_⟩
  refine i_lcL pv (fun i H' => ∃ B' acc, Same B2 B' ∧ acc.length ≤ i ∧ DtAll B' acc ((ps.take i).map (gtD true)) ∧ Own a c B' H' ((D, .lst acc) :: (F, .lst fv) :: (w, wdO wd cw) :: (cw, .lst (chv wd.ch)) :: ls)) ⟨B2, [], Same.refl _, Nat.le_refl _, .nil, O.new hD⟩ (fun i H' ⟨B', acc, s, _, _, O⟩ => SqL.of (O.kp (s _ _ hpp2))) (fun i x H' hx ⟨B3, acc, s3, hacc, dacc, O⟩ => ?_) fun H2 ⟨B3, acc, s3, hacc, dacc, O⟩ => ?_
  · obtain ⟨p, tp, hps, rfl, htp⟩ := part_at dpv2 hx
    have htp := s3 _ _ htp
    have li := (List.getElem?_eq_some_iff.mp hps).1
    fail "s"
    rename_i nt H4 O
    obtain ⟨B4, s4, h4, O⟩ := O.freeze
    refine ⟨acc, O.mem (by fail "m"), szl (by omega), B4, acc ++ [.ref nt], Same.trans s3 s4, by rw [List.length_append]; show _ + 1 ≤ _; omega, ?_, O.set .here⟩
    rw [List.take_add_one, hps, List.map_append]
    exact DtAll.append (dacc.mono s4) (.cons (.tup h4 (.cons (.str _) (.cons (.int _) (.cons (.str _) .nil)))) .nil)
  rw [pvl, List.take_length, ← tgs_D] at dacc
  obtain ⟨B4, s4, hD, O⟩ := O.freeze
  fail "s"
  have O := Own.perm O (ls' := (w, wdO wd cw) :: (cw, .lst (chv wd.ch)) :: (F, .lst fv) :: ls) (by fail "pm")
  have s24 := Same.trans s2 (Same.trans s3 s4)
  refine ⟨a, c, B4, _, e, w, cw, D, en, wd, acc, tgs ps, 12, rfl, O, X.EB.mono (Same.trans I.s s24), eo, wi, hD, dacc.mono s4, ?_, by unfold tgs; rw [List.length_map]; omega, .inl ?_, .tag ?_ (Nat.le_refl _), fun q H5 B5 iv l' wd' s5 hq dq st hk th ok sh hl hw O => ?_⟩
  · intro x hx
    obtain ⟨p, hp, rfl⟩ := List.mem_map.mp hx
    exact Nat.lt_of_lt_of_le (psK p hp) I.st.chl
  · intro x hx
    obtain ⟨p, hp, rfl⟩ := List.mem_map.mp hx
    trivial
  · intro x hx
    obtain ⟨p, hp, rfl⟩ := List.mem_map.mp hx
    trivial
  have s35 := Same.trans s3 (Same.trans s4 s5)
  have ht5 := s35 _ _ ht2
  have ivl := dtLen dq
  rw [smDs_len] at ivl
  fail "s"
  rename_i n1 _ _ ad _ _ st1 _ _ l7 _ _ l6 _ _ n0 _ _ s0 _ _ _ _ nk _ _ lt _ _ r _ r0 r1 _ q1 _ _ rp _ _ H9 O
  have O := Own.perm O (ls' := (rp, .tup [.str "repeat", .ref lt, .int (k + r), .ref q1]) :: (q1, .tup [.str "seq", .ref l6]) :: (lt, .tup [.str "<", .ref pc, .ref nk]) :: (nk, .tup [.str "num", .int (k : Nat)]) :: (s0, .tup [.str "set", .ref pc, .ref n0]) :: (n0, .tup [.str "num", .int 0]) :: (l6, .lst (iv ++ [.ref st1])) :: (l7, .lst [.ref st1]) :: (st1, .tup [.str "set", .ref pc, .ref ad]) :: (ad, .tup [.str "+", .ref pc, .ref n1]) :: (n1, .tup [.str "num", .int 1]) :: (F, .lst (fv ++ [.ref s0] ++ [.ref rp])) :: (w, wdO wd' cw) :: (cw, .lst (chv wd'.ch)) :: ls) (by fail "pm")
  obtain ⟨B6, s6, hb, O⟩ := Own.settle (l0 := (F, .lst (fv ++ [.ref s0] ++ [.ref rp])) :: (w, wdO wd' cw) :: (cw, .lst (chv wd'.ch)) :: ls) O (by fail "p")
  have s36 := Same.trans s35 s6
  have cC : cell < wd'.ce := Nat.lt_of_lt_of_le cellC (Nat.le_trans I.st.ce st.ce)
  have dc : Dt B6 (.ref pc) (Ex.D (.cell cell)) := .tup (s36 _ _ hpc) (.cons (.str _) (.cons (.int _) .nil))
  have dn1 : Dt B6 (.ref n1) (Ex.D (.num 1)) := .tup (hb (n1, _) (by fail "m")) (.cons (.str _) (.cons (.int _) .nil))
  have dad : Dt B6 (.ref ad) (Ex.D (.bin "+" (.cell cell) (.num 1))) := .tup (hb (ad, _) (by fail "m")) (.cons (.str _) (.cons dc (.cons dn1 .nil)))
  have dst : Dt B6 (.ref st1) (Sm.D (.set (.cell cell) (.bin "+" (.cell cell) (.num 1)))) := .tup (hb (st1, _) (by fail "m")) (.cons (.str _) (.cons dc (.cons dad .nil)))
  have dl6 : DtAll B6 (iv ++ [.ref st1]) (smDs (l' ++ [.set (.cell cell) (.bin "+" (.cell cell) (.num 1))])) := by
    rw [smDs_snoc]
    exact DtAll.append (dq.mono s6) (.cons dst .nil)
  have dq1 : Dt B6 (.ref q1) (Sm.D (.seq (l' ++ [.set (.cell cell) (.bin "+" (.cell cell) (.num 1))]))) := .tup (hb (q1, _) (by fail "m")) (.cons (.str _) (.cons (.lst (hb (l6, _) (by fail "m")) dl6) .nil))
  have dnk : Dt B6 (.ref nk) (Ex.D (.num k)) := .tup (hb (nk, _) (by fail "m")) (.cons (.str _) (.cons (.int _) .nil))
  have dlt : Dt B6 (.ref lt) (Ex.D (.bin "<" (.cell cell) (.num k))) := .tup (hb (lt, _) (by fail "m")) (.cons (.str _) (.cons dc (.cons dnk .nil)))
  have drp : Dt B6 (.ref rp) (Sm.D (.rep (.bin "<" (.cell cell) (.num k)) (k + r) (.seq (l' ++ [.set (.cell cell) (.bin "+" (.cell cell) (.num 1))])))) := .tup (hb (rp, _) (by fail "m")) (.cons (.str _) (.cons dlt (.cons (.int _) (.cons dq1 .nil))))
  have dn0 : Dt B6 (.ref n0) (Ex.D (.num 0)) := .tup (hb (n0, _) (by fail "m")) (.cons (.str _) (.cons (.int _) .nil))
  have ds0 : Dt B6 (.ref s0) (Sm.D (.set (.cell cell) (.num 0))) := .tup (hb (s0, _) (by fail "m")) (.cons (.str _) (.cons dc (.cons dn0 .nil)))
  have bl : XB wd'.ce 1 (.bin "<" (.cell cell) (.num k)) := .bin (by decide +kernel) (.cell cC) (.num (by omega) (by omega))
  have ba : XB wd'.ce 1 (.bin "+" (.cell cell) (.num 1)) := .bin (by decide +kernel) (.cell cC) (.num (by decide) (by decide))
  have bs : SB wd'.ce wd'.ch.length 6 800 (.set (.cell cell) (.bin "+" (.cell cell) (.num 1))) := set_sb (.cell cC) .cell (ba.up (by decide))
  have bz : SB wd'.ce wd'.ch.length 6 800 (.set (.cell cell) (.num 0)) := set_sb (.cell cC) .cell (.num (by decide) (by decide))
  rw [List.append_assoc] at O
  refine kn _ _ _ _ _ _ _ _ _ _ ((I.pushL (l2 := [.set (.cell cell) (.num 0), .rep (.bin "<" (.cell cell) (.num k)) (k + r) (.seq (l' ++ [.set (.cell cell) (.bin "+" (.cell cell) (.num 1))]))]) (β' := 0) (j := 2) (Same.trans s2 s36) (I.st.trans st) st.ce st.chl hk O (.cons ds0 (.cons drp .nil)) ?_ ⟨bz.ok, ⟨bl.ok, by omega, by omega, oks_app ok ⟨bs.ok, trivial⟩⟩, trivial⟩ ?_ rfl ?_).weak (Nat.le_refl _) (Nat.le_refl _))
  · show Thr _ _ (([] : List Nat) ++ ((thrs (l' ++ [.set (.cell cell) (.bin "+" (.cell cell) (.num 1))])).flatten ++ []))
    rw [thrs_app, List.flatten_append, List.nil_append, List.append_nil]
    show Thr _ _ (_ ++ ([] ++ []))
    rw [List.append_nil, List.append_nil]
    exact th
  · intro x hx
    simp only [List.mem_cons, List.not_mem_nil, or_false] at hx
    rcases hx with rfl | rfl
    · exact bz.sh.mono (by omega)
    · refine Sh.mono (n := 15) (.tup (n := 14) (.cons (.str (by decide +kernel)) (.cons (bl.sh.mono (by decide)) (.cons .int (.cons (.tup (n := 13) (.cons (.str (by decide +kernel)) (.cons (.lst (n := 12) ?_) .nil))) .nil))))) (by omega)
      rw [smDs_snoc]
      refine .append (.all fun d hd => ?_) (.cons (bs.sh.mono (by decide)) .nil)
      obtain ⟨s, hs, rfl⟩ := smDs_mem hd
      exact sh s hs
  · rw [wts_loop]
    omega
end

set_option Elab.async false
set_option linter.all false
set_option maxRecDepth 100000
set_option maxHeartbeats 4000000
open PySem PySem.Spec PyProof.Rows L2 Lb


set_option maxHeartbeats 64000000 in
theorem item_any (A : Ad) {a c cw w F e ip : Addr} {B0 : Hp} {ls : List (Addr × HO)} {wd0 : Wd} {nn : Nat} {B H : Hp} {wd : Wd} {fv : List V} {l : List Sm} {m β n : Nat} {en : En} {v : V} {nx : L2.St → Hp → Prop} {rt : VK} {bk ct : L2.St → Hp → Prop} {x6 x7 x8 x9 x10 : Option V} {x : It}
    (X : Ctx n B0 e en wd0) (I : IS a c cw w F B0 ls wd0 nn B H wd fv l m β) (hβ : 126000 ≤ β) (hm : m ≤ 3000) (hx : Dt B v x.D) (xo : x.ok wd0.ce wd0.ch.length) (fuel : x.tagged ∨ wd0.left + 1 ≤ n) (dp : DpX x wd0.left nn)
    (kn : Kn a c cw w F B0 ls wd0 nn (m + 2) e ip v nx) : t_chain A n ⟨nx, rt, bk, ct⟩ [some (.ref a), some (.ref e), some (.ref w), some (.ref ip), some (.ref F), some v, x6, x7, x8, x9, x10] H := by
  cases x with
  | gt k ch tag =>
    cases k with
    | true => exact item_give A X I hβ hm hx xo dp.t kn
    | false =>
      refine item_take A X I hβ hm hx xo ?_ dp.t ?_ kn
      · cases tag with
        | true => exact .inl rfl
        | false => exact .inr (fuel.resolve_left id)
      · cases tag with
        | true => exact .inl rfl
        | false =>
          cases dp with
          | tag h _ => exact h.elim
          | plain _ h => exact .inr h
          | nest h => exact .inr (by omega)
  | loop k ps cell =>
    refine item_loop A X I hβ hm hx xo (fuel.resolve_left id) ?_ kn
    cases dp with
    | tag h _ => exact h.elim
    | plain _ h => exact h
    | nest h => omega
  | nest =>
    refine item_nest A X I hβ hm hx (fuel.resolve_left id) ?_ kn
    cases dp with
    | tag h _ => exact h.elim
    | plain h _ => exact absurd rfl h
    | nest h => exact h
theorem DpI.x {its : List It} {left nn : Nat} (h : DpI its left nn) {x : It} (hx : x ∈ its) : DpX x left nn := by
  cases h with
  | tag h k => exact .tag (h x hx) k
  | plain h k => exact .plain (h x hx) k
  | nest k => exact .nest k
theorem DpI.t {its : List It} {left nn : Nat} (h : DpI its left nn) : 12 ≤ nn := by
  cases h <;> omega
set_option maxHeartbeats 64000000 in
theorem pure_l_items (A : Ad) (n : Nat) (vs : List V) (H : Hp) (Q : VK) (E : XK) (h : sp_l_items A n vs H Q E) : t_l_items A n { nx := fun _ H' => Q .non H', rt := Q } (L2.start ["_law_state_here", "_law_env_here", "_law_world", "_law_items_here", "_law_found", "_law_item", "_law_row", "_law_counter", "_law_parts", "_law_inner", "_law_part"] vs) H := by
  obtain ⟨a, c, B, ls, e, w, cw, ip, en, wd0, iv, its, nn, rfl, O, EB, eo, wi, hip, div, xo, hz, fuel, dp, k⟩ := h
  have ivl := dtLen div
  unfold itDs at ivl
  rw [List.length_map] at ivl
  have X : Ctx n B e en wd0 := ⟨EB, eo, wi⟩
  rw [st_l_items]
  unfold t_l_items
  fail "s"
  rename_i F H1 O
  refine i_forL iv (fun i σ H' => ∃ B' wd fv l x5 x6 x7 x8 x9 x10, IS a c cw w F B ls wd0 nn B' H' wd fv l (3 * i) 0 ∧ σ = [some (.ref a), some (.ref e), some (.ref w), some (.ref ip), some (.ref F), x5, x6, x7, x8, x9, x10])
    ⟨B, wd0, [], [], none, none, none, none, none, none, ⟨Same.refl _, .refl, wi, O, .nil, .nil, trivial, (fun s h => by cases h), Nat.zero_le _, (by show 0 + cst wd0 + 0 ≤ _; omega)⟩, rfl⟩ ?_ ?_ ?_
  · rintro i σ H' ⟨B', wd, fv, l, x5, x6, x7, x8, x9, x10, I, _⟩
    exact SqL.of (I.O.kp (I.s _ _ hip))
  · rintro i v σ H' hv ⟨B', wd, fv, l, x5, x6, x7, x8, x9, x10, I, rfl⟩
    obtain ⟨x, hx, dx⟩ := it_get div hv
    have xm := List.mem_of_getElem? hx
    have li := (List.getElem?_eq_some_iff.mp hx).1
    have O := I.O
    have fl := I.fl
    have len := I.len
    have kn : ∀ m, m ≤ 3 * (i + 1) → Kn a c cw w F B ls wd0 nn m e ip v (fun σ H' => ∃ B' wd fv l x5 x6 x7 x8 x9 x10, IS a c cw w F B ls wd0 nn B' H' wd fv l (3 * (i + 1)) 0 ∧ σ = [some (.ref a), some (.ref e), some (.ref w), some (.ref ip), some (.ref F), x5, x6, x7, x8, x9, x10]) := fun m hm B' H' wd' fv' l' y6 y7 y8 y9 y10 I' =>
      ⟨B', wd', fv', l', _, y6, y7, y8, y9, y10, I'.weak hm (Nat.le_refl _), rfl⟩
    fail "s"
    refine i_d2 (fun h1 => ?_) (fun h1 => ?_)
    rotate_left
    · fail "s"
      exact ⟨B', wd, fv, l, _, _, _, _, _, _, I.weak (by omega) (Nat.le_refl _), rfl⟩
    fail "s"
    rename_i H2 O2 r H3 r0 r1 O
    have eit : ((wd.it : Int) - 1) = ((wd.it - 1 : Nat) : Int) := by omega
    rw [eit] at O
    have I2 := I.take (by omega) (Own.perm O (ls' := (F, .lst fv) :: (w, wdO { wd with it := wd.it - 1 } cw) :: (cw, .lst (chv wd.ch)) :: ls) (by fail "pm"))
    refine i_d2 (fun h2 => ?_) (fun h2 => ?_)
    · obtain ⟨eo', hC, hK, _, _⟩ := X.cc I2
      have O := I2.O
      fail "s"
      refine ⟨a, c, B', _, e, en, wd.ce, wd.ch.length, rfl, O, EB.mono I.s, eo', hC, by have : ({ wd with it := wd.it - 1 } : Wd).ch = wd.ch := rfl; rw [this] at hK; omega, fun p H4 B4 s s4 ds sb sth O => ?_⟩
      fail "o"
      fail "o"
      fail "o"
      rename_i H5 O
      have I3 := I2.add (β' := 126900) s4 O ds sth sb (by have := dp.t; omega) (by omega)
      exact item_any A X I3 (by omega) (by omega) (dx.mono (Same.trans I.s s4)) (xo x xm) (fuel.imp (fun h => h x xm) id) (dp.x xm) (kn _ (by omega))
    · exact item_any A X I2 (by omega) (by omega) (dx.mono I.s) (xo x xm) (fuel.imp (fun h => h x xm) id) (dp.x xm) (kn _ (by omega))
  · rintro σ H' ⟨B', wd, fv, l, x5, x6, x7, x8, x9, x10, I, rfl⟩
    have O := I.O
    fail "s"
    obtain ⟨B2, s2, hF, O⟩ := O.freeze
    have len := I.len
    exact k F _ B2 fv l wd (Same.trans I.s s2) hF (I.d.mono s2) I.st I.k I.thr I.ok I.sh (by omega) (by have := I.wt; omega) O

set_option Elab.async false
set_option linter.all false
set_option maxRecDepth 100000
set_option maxHeartbeats 4000000
open PySem PySem.Spec PyProof.Rows L2 Lb


theorem len_l_meetings (A : Ad) {vs : List V} {H : Hp} {Q : VK} {E : XK} (h : sp_l_meetings A vs H Q E) : vs.length = 4 := by
  obtain ⟨a, c, B, ls, w, cw, sp, ep, wd, n, re, rc, rr, rs, rg, rt, rS, rfl, _⟩ := h
  rfl
structure KI (kvs : List (List Key × V)) (K m : Nat) : Prop where
  v : ∀ p u, valV kvs (pk p) = some u → ∃ k : Nat, u = .int (k : Nat) ∧ k < K
  l : kvs.length ≤ m
theorem KI.mono {kvs : List (List Key × V)} {K K' m m' : Nat} (h : KI kvs K m) (k : K ≤ K') (l : m ≤ m') : KI kvs K' m' := ⟨fun p u e => by
  obtain ⟨c, h1, h2⟩ := h.v p u e
  exact ⟨c, h1, by omega⟩, Nat.le_trans h.l l⟩
theorem pk_inj {p q : Int × Int} (h : pk p = pk q) : p = q := by
  obtain ⟨a, b⟩ := p
  obtain ⟨c, d⟩ := q
  simp only [pk, List.cons.injEq, Sum.inl.injEq, and_true] at h
  rw [h.1, h.2]
theorem KI.put {kvs : List (List Key × V)} {K m : Nat} (h : KI kvs K m) (p : Int × Int) : KI (putK kvs (pk p) (.int (K : Nat))) (K + 1) (m + 1) := ⟨fun q u e => by
  rw [valV_put] at e
  by_cases c : pk q = pk p
  · rw [if_pos c] at e
    cases e
    exact ⟨K, rfl, Nat.lt_succ_self _⟩
  · rw [if_neg c] at e
    obtain ⟨k, h1, h2⟩ := h.v q u e
    exact ⟨k, h1, by omega⟩, Nat.le_trans (length_putK _ _ _) (by have := h.l; omega)⟩
structure PI (B : Hp) (n K : Nat) (P : Nat → List V) (ps : Nat → List (Bool × Nat)) (m : Nat) : Prop where
  d : ∀ j, j < n → DtAll B (P j) ((ps j).map (gtD false))
  k : ∀ j, j < n → ∀ p ∈ ps j, p.2 < K
  l : ∀ j, j < n → (ps j).length ≤ m
theorem PI.mono {B B' : Hp} {n K K' m m' : Nat} {P : Nat → List V} {ps : Nat → List (Bool × Nat)} (h : PI B n K P ps m) (s : Same B B') (k : K ≤ K') (l : m ≤ m') : PI B' n K' P ps m' :=
  ⟨fun j hj => (h.d j hj).mono s, fun j hj p hp => Nat.lt_of_lt_of_le (h.k j hj p hp) k, fun j hj => Nat.le_trans (h.l j hj) l⟩
theorem PI.add {B : Hp} {n K m : Nat} {P : Nat → List V} {ps : Nat → List (Bool × Nat)} (h : PI B n K P ps m) {i : Nat} {b : Bool} {c : Nat} {v : V} (dv : Dt B v (gtD false (b, c))) (hc : c < K) : PI B n K (fu P i (P i ++ [v])) (fu ps i (ps i ++ [(b, c)])) (m + 1) :=
  ⟨fun j hj => by
    by_cases e : j = i
    · subst e
      rw [fu_at, fu_at, List.map_append]
      exact DtAll.append (h.d j hj) (.cons dv .nil)
    · rw [fu_ne e, fu_ne e]
      exact h.d j hj, fun j hj p hp => by
    by_cases e : j = i
    · subst e
      rw [fu_at] at hp
      rcases List.mem_append.mp hp with q | q
      · exact h.k j hj p q
      · rw [List.mem_singleton.mp q]
        exact hc
    · rw [fu_ne e] at hp
      exact h.k j hj p hp, fun j hj => by
    by_cases e : j = i
    · subst e
      rw [fu_at, List.length_append]
      have := h.l j hj
      show _ + 1 ≤ _
      omega
    · rw [fu_ne e]
      have := h.l j hj
      omega⟩
theorem MS.mono {B B' : Hp} {n K0 K K' C C' m m' : Nat} {its : Nat → List It} {S : Nat → List V} {gi ti : Nat → List Nat} (h : MS B n K0 K C its S gi ti m) (s : Same B B') (k : K ≤ K') (c : C ≤ C') (l : m ≤ m') : MS B' n K0 K' C' its S gi ti m' :=
  ⟨fun j hj => (h.sd j hj).mono s, fun j hj x hx => ⟨(h.so j hj x hx).1.mono c k, (h.so j hj x hx).2⟩, fun j hj => Nat.le_trans (h.sl j hj) l, fun j hj => ⟨Nat.le_trans (h.g j hj).1 k, fun y hy => Nat.lt_of_lt_of_le ((h.g j hj).2 y hy) k⟩, fun j hj => ⟨Nat.le_trans (h.t j hj).1 k, fun y hy => Nat.lt_of_lt_of_le ((h.t j hj).2 y hy) k⟩⟩
/-- a channel more -/
theorem MS.chan {B : Hp} {n K0 K C m : Nat} {its : Nat → List It} {S : Nat → List V} {gi ti : Nat → List Nat} (h : MS B n K0 K C its S gi ti m) (g t : Nat) : MS B n K0 (K + 1) C its S (fu gi g (gi g ++ [K])) (fu ti t (ti t ++ [K])) m :=
  { h.mono (Same.refl _) (Nat.le_succ K) (Nat.le_refl _) (Nat.le_refl _) with
    g := fun j hj => by
      by_cases e : j = g
      · subst e
        rw [fu_at, List.length_append]
        refine ⟨by have := (h.g j hj).1; show _ + 1 + _ ≤ _; omega, fun k hk => ?_⟩
        rcases List.mem_append.mp hk with q | q
        · have := (h.g j hj).2 k q
          omega
        · rw [List.mem_singleton.mp q]
          omega
      · rw [fu_ne e]
        exact ⟨by have := (h.g j hj).1; omega, fun k hk => by have := (h.g j hj).2 k hk; omega⟩
    t := fun j hj => by
      by_cases e : j = t
      · subst e
        rw [fu_at, List.length_append]
        refine ⟨by have := (h.t j hj).1; show _ + 1 + _ ≤ _; omega, fun k hk => ?_⟩
        rcases List.mem_append.mp hk with q | q
        · have := (h.t j hj).2 k q
          omega
        · rw [List.mem_singleton.mp q]
          omega
      · rw [fu_ne e]
        exact ⟨by have := (h.t j hj).1; omega, fun k hk => by have := (h.t j hj).2 k hk; omega⟩ }
theorem MS.more {B : Hp} {n K0 K C m d : Nat} {its : Nat → List It} {S : Nat → List V} {gi ti : Nat → List Nat} (h : MS B n K0 K C its S gi ti m) {i : Nat} {vs : List V} {xs : List It} (dv : DtAll B vs (itDs xs)) (ok : ∀ x ∈ xs, x.ok C K ∧ x ≠ .nest) (hl : (its i ++ xs).length ≤ d) (hm : m ≤ d) : MS B n K0 K C (fu its i (its i ++ xs)) (fu S i (S i ++ vs)) gi ti d :=
  { h with
    sd := fun j hj => by
      by_cases e : j = i
      · subst e
        rw [fu_at, fu_at, ← itDs_app]
        exact DtAll.append (h.sd j hj) dv
      · rw [fu_ne e, fu_ne e]
        exact h.sd j hj
    so := fun j hj x hx => by
      by_cases e : j = i
      · subst e
        rw [fu_at] at hx
        rcases List.mem_append.mp hx with q | q
        · exact h.so j hj x q
        · exact ok x q
      · rw [fu_ne e] at hx
        exact h.so j hj x hx
    sl := fun j hj => by
      by_cases e : j = i
      · subst e
        rw [fu_at]
        exact hl
      · rw [fu_ne e]
        exact Nat.le_trans (h.sl j hj) hm }
theorem fu_map {α β : Type} {f : α → β} {T : Nat → α} {i : Nat} {g : α} : (fun j => f (fu T i g j)) = fu (fun j => f (T j)) i (f g) := by
  funext j
  unfold fu
  by_cases e : j = i <;> simp [e]
abbrev chN (wd : Wd) (ce : Nat) (ch : List Str) : Wd := { wd with ce := ce, ch := ch }
theorem dgT {D b : Addr} {H : Hp} {kvs : List (List Key × V)} {i j : Int} (h : H D = some (.dT kvs)) (hb : H b = some (.tup [.int i, .int j])) : DGet H D (.ref b) (valV kvs (pk (i, j))) := .inr ⟨kvs, pk (i, j), b, .inl h, rfl, hb, rfl⟩
theorem i_din {ty td : TE} {σ : L2.St} {H : Hp} {Q : VK} (q : ty σ H fun y H1 => td σ H1 fun x H2 => ∃ a o, x = .ref a ∧ DGet H2 a y o ∧ Q (.bl o.isSome) H2) : tDIn ty td σ H Q := q
structure MC (a c w cw sp ep kd pl : Addr) (re rc rr rs rg rt rS rP : Nat → Addr) (n : Nat) (B0 : Hp) (ls : List (Addr × HO)) (wd : Wd) (B H : Hp) (ce : Nat) (ch : List Str) (its : Nat → List It) (S : Nat → List V) (gi ti : Nat → List Nat) (kvs : List (List Key × V)) (P : Nat → List V) (ps : Nat → List (Bool × Nat)) (mS mK mP : Nat) : Prop where
  s : Same B0 B
  M : MS B n wd.ch.length ch.length ce its S gi ti mS
  k : KI kvs ch.length mK
  p : PI B n ch.length P ps mP
  chk : ∃ k, ch = wd.ch ++ List.replicate k ("inner" : Str)
  c24 : ch.length ≤ 24
  O : Own a c B H ((kd, .dT kvs) :: (pl, .lst (rf rP n)) :: (w, wdO (chN wd ce ch) cw) :: (cw, .lst (chv ch)) :: (sp, .lst (rf rS n)) :: (rl rP P n ++ (rl rS S n ++ (rl rg (fun j => nv (gi j)) n ++ (rl rt (fun j => nv (ti j)) n ++ ls)))))
abbrev t_round2 (A : Ad) : TS := (tIfS (tB (tDIn (tTup (tCons (tVar 9) (tCons (tVar 10) tNil))) (tVar 4))) (tSeq (tDrop (tBML rAppA (tOp rIxA (tVar 7) (tVar 9)) (tCons (tTup (tCons (tC (.str "give")) (tCons (tDGet (tVar 4) (tTup (tCons (tVar 9) (tCons (tVar 10) tNil)))) (tCons (tC (.str "")) tNil)))) tNil))) (tDrop (tBML rAppA (tOp rIxA (tVar 7) (tVar 10)) (tCons (tTup (tCons (tC (.str "take")) (tCons (tDGet (tVar 4) (tTup (tCons (tVar 9) (tCons (tVar 10) tNil)))) (tCons (tC (.str "")) tNil)))) tNil)))) tNext)
set_option maxHeartbeats 64000000 in
theorem round2_ok (A : Ad) {a c w cw sp ep kd pl : Addr} {re rc rr rs rg rt rS rP : Nat → Addr} {n : Nat} {B0 : Hp} {ls : List (Addr × HO)} {wd : Wd} {B H : Hp} {ce : Nat} {ch : List Str} {its : Nat → List It} {S : Nat → List V} {gi ti : Nat → List Nat} {kvs : List (List Key × V)} {P : Nat → List V} {ps : Nat → List (Bool × Nat)} {mS mK mP g t : Nat} {nx : L2.St → Hp → Prop} {rt' : VK} {bk ct : L2.St → Hp → Prop} {x5 x6 x8 x11 : Option V}
    (C : MC a c w cw sp ep kd pl re rc rr rs rg rt rS rP n B0 ls wd B H ce ch its S gi ti kvs P ps mS mK mP) (gn : g < n) (tn : t < n) (hP : mP ≤ 100)
    (kn : ∀ B' H' P' ps', MC a c w cw sp ep kd pl re rc rr rs rg rt rS rP n B0 ls wd B' H' ce ch its S gi ti kvs P' ps' mS mK (mP + 2) → nx [some (.ref a), some (.ref w), some (.ref sp), some (.ref ep), some (.ref kd), x5, x6, some (.ref pl), x8, some (.int (g : Nat)), some (.int (t : Nat)), x11] H') :
    t_round2 A ⟨nx, rt', bk, ct⟩ [some (.ref a), some (.ref w), some (.ref sp), some (.ref ep), some (.ref kd), x5, x6, some (.ref pl), x8, some (.int (g : Nat)), some (.int (t : Nat)), x11] H := by
  have O := C.O
  unfold t_round2
  fail "s"
  refine i_din ?_
  fail "s"
  rename_i q1 H1 O
  refine ⟨kd, _, rfl, dgT (O.mem (by fail "m")) (O.mem (by fail "m")), ?_⟩
  cases hv : valV kvs (pk ((g : Int), (t : Int))) with
  | none =>
    refine i_bl ?_
    refine i_ff ?_
    fail "s"
    exact kn B _ P ps { C with O := Own.drop (l1 := [(q1, .tup [.int (g : Nat), .int (t : Nat)])]) O, p := C.p.mono (Same.refl _) (Nat.le_refl _) (by omega) }
  | some u =>
    obtain ⟨k, rfl, kK⟩ := C.k.v _ _ hv
    refine i_bl ?_
    refine i_tt ?_
    have hg : H1 (rP g) = some (.lst (P g)) := O.mem (by fail "mr")
    have ag : atI (rf rP n) (g : Nat) = some (.ref (rP g)) := rf_at gn
    have at_ : atI (rf rP n) (t : Nat) = some (.ref (rP t)) := rf_at tn
    fail "s"
    rename_i q2 H2 O
    refine i_dgetT (O.mem (by fail "m")) (O.mem (by fail "m")) hv ?_
    fail "s"
    rename_i y1 H3 O
    have lP : ∀ {B' : Hp} {P' : Nat → List V} {ps' : Nat → List (Bool × Nat)} {m' : Nat}, PI B' n ch.length P' ps' m' → ∀ j, j < n → (P' j).length ≤ m' := fun h j hj => by
      have h1 := dtLen (h.d j hj)
      rw [List.length_map] at h1
      have := h.l j hj
      omega
    refine i_appO O (by fail "ur") (szl (by have := lP C.p g gn; omega)) fun H4 O => ?_
    obtain ⟨B2, s2, hy1, O⟩ := O.freeze
    have O := Own.drop (l1 := [(q2, .tup [.int (g : Nat), .int (t : Nat)]), (q1, .tup [.int (g : Nat), .int (t : Nat)])]) O
    have p1 := (C.p.mono s2 (Nat.le_refl _) (Nat.le_refl _)).add (i := g) (b := true) (.tup hy1 (.cons (.str _) (.cons (.int _) (.cons (.str _) .nil)))) kK
    have ht : H4 (rP t) = some (.lst (fu P g (P g ++ [.ref y1]) t)) := O.mem (by fail "mr")
    fail "s"
    rename_i q3 H5 O
    refine i_dgetT (O.mem (by fail "m")) (O.mem (by fail "m")) hv ?_
    fail "s"
    rename_i y2 H6 O
    refine i_appO O (by fail "ur") (szl (by have := lP p1 t tn; omega)) fun H7 O => ?_
    obtain ⟨B3, s3, hy2, O⟩ := O.freeze
    have O := Own.drop (l1 := [(q3, .tup [.int (g : Nat), .int (t : Nat)])]) O
    have p2 := (p1.mono s3 (Nat.le_refl _) (Nat.le_refl _)).add (i := t) (b := false) (.tup hy2 (.cons (.str _) (.cons (.int _) (.cons (.str _) .nil)))) kK
    exact kn B3 _ _ _ ⟨Same.trans C.s (Same.trans s2 s3), C.M.mono (Same.trans s2 s3) (Nat.le_refl _) (Nat.le_refl _) (Nat.le_refl _), C.k, p2, C.chk, C.c24, O⟩
abbrev t_round (A : Ad) : TS := (tSeq (tAsg (tCall spDraw [] E0 (tCons (tVar 0) (tCons (tCB rLenA (tCons (tVar 2) tNil)) tNil))) (gName 9)) (tSeq (tAsg (tOp (rI (fun _ j => 0 < j) fun i j => .int (i % j)) (tCB rIntA (tCons (tOp rAddA (tOp rAddA (tVar 9) (tC (.int 1))) (tCall spDraw [] E0 (tCons (tVar 0) (tCons (tOp (rI0 fun i j => .int (i - j)) (tCB rLenA (tCons (tVar 2) tNil)) (tC (.int 1))) tNil)))) tNil)) (tCB rLenA (tCons (tVar 2) tNil))) (gName 10)) (tSeq (tIfS (tAnd (tB (tDNotIn (tTup (tCons (tVar 9) (tCons (tVar 10) tNil))) (tVar 4))) (tTest (tOp (rI0 fun i j => .bl (decide (i < j))) (tCB rLenA (tCons (tDGet (tVar 1) (tC (.str "channels"))) tNil)) (tC (.int 24))))) (tSeq (sDPut (tVar 4) (tTup (tCons (tVar 9) (tCons (tVar 10) tNil))) (tCB rLenA (tCons (tDGet (tVar 1) (tC (.str "channels"))) tNil))) (tSeq (tDrop (tBML rAppA (tDGet (tVar 1) (tC (.str "channels"))) (tCons (tC (.str "inner")) tNil))) (tSeq (tDrop (tBML rAppA (tDGet (tOp rIxA (tVar 3) (tVar 9)) (tC (.str "gives"))) (tCons (tDGet (tVar 4) (tTup (tCons (tVar 9) (tCons (tVar 10) tNil)))) tNil))) (tDrop (tBML rAppA (tDGet (tOp rIxA (tVar 3) (tVar 10)) (tC (.str "takes"))) (tCons (tDGet (tVar 4) (tTup (tCons (tVar 9) (tCons (tVar 10) tNil)))) tNil)))))) tNext) (tIfS (tB (tDIn (tTup (tCons (tVar 9) (tCons (tVar 10) tNil))) (tVar 4))) (tSeq (tDrop (tBML rAppA (tOp rIxA (tVar 7) (tVar 9)) (tCons (tTup (tCons (tC (.str "give")) (tCons (tDGet (tVar 4) (tTup (tCons (tVar 9) (tCons (tVar 10) tNil)))) (tCons (tC (.str "")) tNil)))) tNil))) (tDrop (tBML rAppA (tOp rIxA (tVar 7) (tVar 10)) (tCons (tTup (tCons (tC (.str "take")) (tCons (tDGet (tVar 4) (tTup (tCons (tVar 9) (tCons (tVar 10) tNil)))) (tCons (tC (.str "")) tNil)))) tNil)))) tNext))))
set_option maxHeartbeats 64000000 in
theorem round_ok (A : Ad) {a c w cw sp ep kd pl : Addr} {re rc rr rs rg rt rS rP : Nat → Addr} {n : Nat} {B0 : Hp} {ls : List (Addr × HO)} {wd : Wd} {B H : Hp} {ce : Nat} {ch : List Str} {its : Nat → List It} {S : Nat → List V} {gi ti : Nat → List Nat} {kvs : List (List Key × V)} {P : Nat → List V} {ps : Nat → List (Bool × Nat)} {mS mK mP : Nat} {nx : L2.St → Hp → Prop} {rt' : VK} {bk ct : L2.St → Hp → Prop} {x5 x6 x8 x9 x10 x11 : Option V}
    (C : MC a c w cw sp ep kd pl re rc rr rs rg rt rS rP n B0 ls wd B H ce ch its S gi ti kvs P ps mS mK mP) (hep : B0 ep = some (.lst (rf re n))) (hre : ∀ i, i < n → B0 (re i) = some (enO (rc i) (rr i) (rs i) (rg i) (rt i))) (n2 : 2 ≤ n) (n4 : n ≤ 4) (hK : mK ≤ 100) (hP : mP ≤ 100)
    (kn : ∀ B' H' ch' gi' ti' kvs' P' ps' y9 y10, MC a c w cw sp ep kd pl re rc rr rs rg rt rS rP n B0 ls wd B' H' ce ch' its S gi' ti' kvs' P' ps' mS (mK + 1) (mP + 2) → nx [some (.ref a), some (.ref w), some (.ref sp), some (.ref ep), some (.ref kd), x5, x6, some (.ref pl), x8, y9, y10, x11] H') :
    t_round A ⟨nx, rt', bk, ct⟩ [some (.ref a), some (.ref w), some (.ref sp), some (.ref ep), some (.ref kd), x5, x6, some (.ref pl), x8, x9, x10, x11] H := by
  have O := C.O
  have ln : (rf rS n).length = n := rf_len
  unfold t_round
  fail "s"
  rw [ln]
  refine i_drawO O rfl (by omega) (by omega) fun g1 H1 g0 g1' O => ?_
  obtain ⟨g, rfl⟩ : ∃ g : Nat, g1 = (g : Int) := ⟨g1.toNat, by omega⟩
  have gn : g < n := by omega
  fail "s"
  rw [ln]
  refine i_drawO O rfl (by omega) (by omega) fun d1 H2 d0 d1' O => ?_
  fail "s"
  rw [ln]
  refine i_rI (by show (0 : Int) < n; omega) ?_
  obtain ⟨t, ht⟩ : ∃ t : Nat, ((g : Int) + 1 + d1) % (n : Int) = (t : Int) := ⟨(((g : Int) + 1 + d1) % (n : Int)).toNat, by have := Int.emod_nonneg ((g : Int) + 1 + d1) (b := (n : Int)) (by omega); omega⟩
  have tn : t < n := by
    have := Int.emod_lt_of_pos ((g : Int) + 1 + d1) (b := (n : Int)) (by omega)
    omega
  rw [ht]
  fail "s"
  rename_i q1 H3 O
  have part2 : ∀ H', Own a c B H' ((kd, .dT kvs) :: (pl, .lst (rf rP n)) :: (w, wdO (chN wd ce ch) cw) :: (cw, .lst (chv ch)) :: (sp, .lst (rf rS n)) :: (rl rP P n ++ (rl rS S n ++ (rl rg (fun j => nv (gi j)) n ++ (rl rt (fun j => nv (ti j)) n ++ ls))))) → t_round2 A ⟨nx, rt', bk, ct⟩ [some (.ref a), some (.ref w), some (.ref sp), some (.ref ep), some (.ref kd), x5, x6, some (.ref pl), x8, some (.int (g : Nat)), some (.int (t : Nat)), x11] H' := fun H' O =>
    round2_ok A { C with O := O, k := C.k.mono (Nat.le_refl _) (Nat.le_succ mK) } gn tn hP fun B' H' P' ps' C' => kn B' H' ch gi ti kvs P' ps' _ _ C'
  refine ⟨kd, _, rfl, dgT (O.mem (by fail "m")) (O.mem (by fail "m")), ?_⟩
  cases hv : valV kvs (pk ((g : Int), (t : Int))) with
  | some u =>
    refine i_bl ?_
    refine i_ff ?_
    exact part2 _ (Own.drop (l1 := [(q1, .tup [.int (g : Nat), .int (t : Nat)])]) O)
  | none =>
    refine i_bl ?_
    refine i_tt ?_
    have O := Own.drop (l1 := [(q1, .tup [.int (g : Nat), .int (t : Nat)])]) O
    fail "s"
    refine i_d2 (fun h1 => ?_) (fun h1 => part2 _ O)
    fail "s"
    rename_i q2 H4 O
    have c24 := C.c24
    have lc : (chv ch).length = ch.length := List.length_map _
    rw [lc] at h1 ⊢
    have kl := C.k.l
    have gl : (nv (gi g)).length ≤ 24 := by rw [nv_len]; have := (C.M.g g gn).1; omega
    have tl : (nv (ti t)).length ≤ 24 := by rw [nv_len]; have := (C.M.t t tn).1; omega
    refine i_dputT O (by fail "u") (O.mem (by fail "m")) (szl (by omega)) fun H5 O => ?_
    have O := Own.drop (l1 := [(q2, .tup [.int (g : Nat), .int (t : Nat)])]) O
    have hep' := C.s _ _ hep
    have hg' := C.s _ _ (hre g gn)
    have ht' := C.s _ _ (hre t tn)
    have ag : atI (rf re n) (g : Nat) = some (.ref (re g)) := rf_at gn
    have at_ : atI (rf re n) (t : Nat) = some (.ref (re t)) := rf_at tn
    have hv' : valV (putK kvs (pk ((g : Int), (t : Int))) (.int (ch.length : Nat))) (pk ((g : Int), (t : Int))) = some (.int (ch.length : Nat)) := by rw [valV_put, if_pos rfl]
    fail "s"
    rename_i H6 O6 q3 H7 O
    refine i_dgetT (O.mem (by fail "m")) (O.mem (by fail "m")) hv' ?_
    fail "s"
    refine i_appO O (by fail "ur") (szl (by show (nv (gi g)).length ≤ _; omega)) fun H8 O => ?_
    have O := Own.drop (l1 := [(q3, .tup [.int (g : Nat), .int (t : Nat)])]) O
    fail "s"
    rename_i q4 H9 O
    refine i_dgetT (O.mem (by fail "m")) (O.mem (by fail "m")) hv' ?_
    fail "s"
    refine i_appO O (by fail "ur") (szl (by show (nv (ti t)).length ≤ _; omega)) fun H10 O => ?_
    have O := Own.drop (l1 := [(q4, .tup [.int (g : Nat), .int (t : Nat)])]) O
    have e1 : chv ch ++ [V.str "inner"] = chv (ch ++ [("inner" : Str)]) := by show _ = List.map _ _; rw [List.map_append]; rfl
    have e2 : fu (fun j => nv (gi j)) g (nv (gi g) ++ [.int (ch.length : Nat)]) = fun j => nv (fu gi g (gi g ++ [ch.length]) j) := by rw [nv_snoc]; exact (fu_map (f := nv)).symm
    have e3 : fu (fun j => nv (ti j)) t (nv (ti t) ++ [.int (ch.length : Nat)]) = fun j => nv (fu ti t (ti t ++ [ch.length]) j) := by rw [nv_snoc]; exact (fu_map (f := nv)).symm
    rw [e1, e2, e3] at O
    have lk : (ch ++ [("inner" : Str)]).length = ch.length + 1 := by rw [List.length_append]; rfl
    have C' : MC a c w cw sp ep kd pl re rc rr rs rg rt rS rP n B0 ls wd B H10 ce (ch ++ [("inner" : Str)]) its S (fu gi g (gi g ++ [ch.length])) (fu ti t (ti t ++ [ch.length])) (putK kvs (pk ((g : Int), (t : Int))) (.int (ch.length : Nat))) P ps mS (mK + 1) mP :=
      ⟨C.s, by rw [lk]; exact C.M.chan g t, by rw [lk]; exact C.k.put _, by rw [lk]; exact C.p.mono (Same.refl _) (Nat.le_succ _) (Nat.le_refl _), by
        obtain ⟨k, e⟩ := C.chk
        exact ⟨k + 1, by rw [e, List.append_assoc, List.replicate_succ']⟩, by rw [lk]; omega, O⟩
    exact round2_ok A C' gn tn hP fun B' H' P' ps' C'' => kn B' H' _ _ _ _ P' ps' _ _ C''

set_option Elab.async false
set_option linter.all false
set_option maxRecDepth 100000
set_option maxHeartbeats 4000000
open PySem PySem.Spec PyProof.Rows L2 Lb


abbrev t_sprdG (A : Ad) : TS := (tIfS (tAnd (tTest (tOp (rI0 fun i j => .bl (decide (j < i))) (tCB rLenA (tCons (tOp rIxA (tVar 7) (tVar 8)) tNil)) (tC (.int 0)))) (tTest (tOp (rI0 fun i j => .bl (decide (j < i))) (tVar 6) (tC (.int 1))))) (tDrop (tBML rAppA (tOp rIxA (tVar 2) (tVar 8)) (tCons (tTup (tCons (tC (.str "loop")) (tCons (tVar 6) (tCons (tOp rIxA (tVar 7) (tVar 8)) (tCons (tCall (sp_l_more_cells A) [] E0 (tCons (tVar 1) (tCons (tC (.int 1)) tNil))) tNil))))) tNil))) (tDrop (tBML rExtA (tOp rIxA (tVar 2) (tVar 8)) (tCons (tOp rIxA (tVar 7) (tVar 8)) tNil))))
structure MQ (a c w cw sp kd pl : Addr) (rg rt rS rP : Nat → Addr) (n : Nat) (B0 : Hp) (ls : List (Addr × HO)) (wd : Wd) (B H : Hp) (ce : Nat) (ch : List Str) (its : Nat → List It) (S : Nat → List V) (gi ti : Nat → List Nat) (kvs : List (List Key × V)) (P : Nat → List V) (ps : Nat → List (Bool × Nat)) (mS mP : Nat) : Prop where
  s : Same B0 B
  M : MS B n wd.ch.length ch.length ce its S gi ti mS
  p : PI B n ch.length P ps mP
  pl : B pl = some (.lst (rf rP n))
  pp : ∀ j, j < n → B (rP j) = some (.lst (P j))
  O : Own a c B H ((kd, .dT kvs) :: (w, wdO (chN wd ce ch) cw) :: (cw, .lst (chv ch)) :: (sp, .lst (rf rS n)) :: (rl rS S n ++ (rl rg (fun j => nv (gi j)) n ++ (rl rt (fun j => nv (ti j)) n ++ ls))))
theorem PI.len {B : Hp} {n K m : Nat} {P : Nat → List V} {ps : Nat → List (Bool × Nat)} (h : PI B n K P ps m) {j : Nat} (hj : j < n) : (P j).length ≤ m := by
  have h1 := dtLen (h.d j hj)
  rw [List.length_map] at h1
  have := h.l j hj
  omega
theorem MS.len {B : Hp} {n K0 K C m : Nat} {its : Nat → List It} {S : Nat → List V} {gi ti : Nat → List Nat} (h : MS B n K0 K C its S gi ti m) {j : Nat} (hj : j < n) : (S j).length ≤ m := by
  have h1 := dtLen (h.sd j hj)
  unfold itDs at h1
  rw [List.length_map] at h1
  have := h.sl j hj
  omega
set_option maxHeartbeats 64000000 in
theorem spread_ok (A : Ad) {a c w cw sp kd pl : Addr} {rg rt rS rP : Nat → Addr} {n : Nat} {B0 : Hp} {ls : List (Addr × HO)} {wd : Wd} {B H : Hp} {ce : Nat} {ch : List Str} {its : Nat → List It} {S : Nat → List V} {gi ti : Nat → List Nat} {kvs : List (List Key × V)} {P : Nat → List V} {ps : Nat → List (Bool × Nat)} {mS mP k m l0 : Nat} {nx : L2.St → Hp → Prop} {rt' : VK} {bk ct : L2.St → Hp → Prop} {x3 x5 x9 x10 x11 : Option V}
    (C : MQ a c w cw sp kd pl rg rt rS rP n B0 ls wd B H ce ch its S gi ti kvs P ps mS mP) (kn' : k < n) (hm : m ≤ 3) (hS : mS ≤ 100) (hP : mP ≤ 6) (hl : (its k).length ≤ l0) (hl2 : l0 + 6 ≤ mS)
    (kn : ∀ B' H' ce' its' S', ce ≤ ce' → ce' ≤ ce + 1 → (∀ j, j ≠ k → its' j = its j) → (m ≤ 1 → ce' = ce) → MQ a c w cw sp kd pl rg rt rS rP n B0 ls wd B' H' ce' ch its' S' gi ti kvs P ps mS mP → nx [some (.ref a), some (.ref w), some (.ref sp), x3, some (.ref kd), x5, some (.int (m : Nat)), some (.ref pl), some (.int (k : Nat)), x9, x10, x11] H') :
    t_sprdG A ⟨nx, rt', bk, ct⟩ [some (.ref a), some (.ref w), some (.ref sp), x3, some (.ref kd), x5, some (.int (m : Nat)), some (.ref pl), some (.int (k : Nat)), x9, x10, x11] H := by
  have O := C.O
  have hpl := C.pl
  have hpp := C.pp k kn'
  have ap : atI (rf rP n) (k : Nat) = some (.ref (rP k)) := rf_at kn'
  have as_ : atI (rf rS n) (k : Nat) = some (.ref (rS k)) := rf_at kn'
  have lp := C.p.len kn'
  have ls_ := C.M.len kn'
  unfold t_sprdG
  have ext : ∀ H', Own a c B H' ((kd, .dT kvs) :: (w, wdO (chN wd ce ch) cw) :: (cw, .lst (chv ch)) :: (sp, .lst (rf rS n)) :: (rl rS S n ++ (rl rg (fun j => nv (gi j)) n ++ (rl rt (fun j => nv (ti j)) n ++ ls)))) →
      tDrop (tBML rExtA (tOp rIxA (tVar 2) (tVar 8)) (tCons (tOp rIxA (tVar 7) (tVar 8)) tNil)) ⟨nx, rt', bk, ct⟩ [some (.ref a), some (.ref w), some (.ref sp), x3, some (.ref kd), x5, some (.int (m : Nat)), some (.ref pl), some (.int (k : Nat)), x9, x10, x11] H' := by
    intro H' O
    fail "s"
    refine i_ext (O.mem (by fail "mr")) (O.kp hpp) (sz (by omega)) ?_
    have O := O.set (p := rS k) (o' := .lst (S k ++ P k)) (by fail "ur")
    generalize upd H' (rS k) (.lst (S k ++ P k)) = H2 at O ⊢
    refine kn B H2 ce _ _ (Nat.le_refl _) (Nat.le_succ _) (fun j hj => fu_ne hj) (fun _ => rfl) ⟨C.s, C.M.more (i := k) (xs := (ps k).map fun p => .gt p.1 p.2 false) ?_ ?_ ?_ (Nat.le_refl _), C.p, C.pl, C.pp, O⟩
    · have := C.p.d k kn'
      unfold itDs
      rw [List.map_map]
      exact this
    · intro x hx
      obtain ⟨p, hp, rfl⟩ := List.mem_map.mp hx
      exact ⟨C.p.k k kn' p hp, fun h => by cases h⟩
    · rw [List.length_append, List.length_map]
      have := C.p.l k kn'
      omega
  fail "s"
  refine i_d2 (fun h1 => ?_) (fun h1 => ext _ O)
  fail "s"
  refine i_d2 (fun h2 => ?_) (fun h2 => ext _ O)
  fail "s"
  have O := Own.perm O (ls' := (w, wdO (chN wd ce ch) cw) :: (kd, .dT kvs) :: (cw, .lst (chv ch)) :: (sp, .lst (rf rS n)) :: (rl rS S n ++ (rl rg (fun j => nv (gi j)) n ++ (rl rt (fun j => nv (ti j)) n ++ ls)))) (by fail "pm")
  refine ⟨a, c, B, _, w, cw, chN wd ce ch, 1, rfl, O, fun H2 O => ?_⟩
  fail "s"
  rename_i t1 H3 O
  refine i_appO O (by fail "ur") (szl (by show (S k).length ≤ _; omega)) fun H4 O => ?_
  obtain ⟨B2, s2, ht, O⟩ := O.freeze
  have O := Own.perm O (ls' := (kd, .dT kvs) :: (w, wdO (chN wd (ce + 1) ch) cw) :: (cw, .lst (chv ch)) :: (sp, .lst (rf rS n)) :: (rl rS (fu S k (S k ++ [.ref t1])) n ++ (rl rg (fun j => nv (gi j)) n ++ (rl rt (fun j => nv (ti j)) n ++ ls)))) (by fail "pm")
  have dl : Dt B2 (.ref t1) (It.D (.loop m (ps k) ce)) := .tup ht (.cons (.str _) (.cons (.int _) (.cons (.lst (s2 _ _ hpp) ((C.p.d k kn').mono s2)) (.cons (.int _) .nil))))
  refine kn B2 H4 (ce + 1) _ _ (Nat.le_succ _) (Nat.le_refl _) (fun j hj => fu_ne hj) (fun h => absurd h (by omega)) ⟨Same.trans C.s s2, (C.M.mono s2 (Nat.le_refl _) (Nat.le_succ _) (Nat.le_refl _)).more (i := k) (xs := [.loop m (ps k) ce]) (.cons dl .nil) ?_ ?_ (Nat.le_refl _), C.p.mono s2 (Nat.le_refl _) (Nat.le_refl _), s2 _ _ C.pl, fun j hj => s2 _ _ (C.pp j hj), O⟩
  · intro x hx
    rw [List.mem_singleton.mp hx]
    have := C.p.l k kn'
    exact ⟨⟨by omega, hm, by omega, C.p.k k kn', Nat.lt_succ_self _⟩, fun h => by cases h⟩
  · rw [List.length_append]
    show _ + 1 ≤ _
    omega
set_option maxHeartbeats 64000000 in
theorem pure_l_meetings (A : Ad) (vs : List V) (H : Hp) (Q : VK) (E : XK) (h : sp_l_meetings A vs H Q E) : t_l_meetings A { nx := fun _ H' => Q .non H', rt := Q } (L2.start ["_law_state_here", "_law_world", "_law_scripts", "_law_envs", "_law_known", "_law_group", "_law_many", "_law_parts", "_law_k", "_law_giver", "_law_taker", "_law_script"] vs) H := by
  obtain ⟨a, c, B, ls, w, cw, sp, ep, wd, n, re, rc, rr, rs, rg, rt, rS, rfl, O, hep, hre, n2, n4, hK, hC, kQ⟩ := h
  unfold MO at O
  rw [st_l_meetings]
  unfold t_l_meetings
  fail "s"
  rename_i kd H1 O r H2 r0 r1 O
  obtain ⟨gr, hgr, g3⟩ : ∃ gr : Nat, 1 + r = (gr : Int) ∧ gr ≤ 3 := ⟨(1 + r).toNat, by omega, by omega⟩
  refine i_forR gr hgr (by omega) (fun i σ H' => ∃ B' ce ch its S gi ti kvs x5 x6 x7 x8 x9 x10, Same B B' ∧ MS B' n wd.ch.length (List.length ch) ce its S gi ti (6 * i) ∧ KI kvs ch.length (3 * i) ∧ wd.ce ≤ ce ∧ (ce ≤ wd.ce ∨ ce ≤ 38) ∧ (∃ k, ch = wd.ch ++ List.replicate k ("inner" : Str)) ∧ ch.length ≤ 24 ∧
      σ = [some (.ref a), some (.ref w), some (.ref sp), some (.ref ep), some (.ref kd), x5, x6, x7, x8, x9, x10, none] ∧ Own a c B' H' ((kd, .dT kvs) :: (w, wdO (chN wd ce ch) cw) :: (cw, .lst (chv ch)) :: (sp, .lst (rf rS n)) :: (rl rS S n ++ (rl rg (fun j => nv (gi j)) n ++ (rl rt (fun j => nv (ti j)) n ++ ls)))))
    ⟨B, wd.ce, wd.ch, fun _ => [], fun _ => [], fun _ => [], fun _ => [], [], none, none, none, none, none, none, Same.refl _, ⟨fun j _ => .nil, fun j _ x h => (by cases h), fun j _ => Nat.zero_le _, fun j _ => ⟨by show 0 + _ ≤ _; omega, fun k h => (by cases h)⟩, fun j _ => ⟨by show 0 + _ ≤ _; omega, fun k h => (by cases h)⟩⟩, ⟨fun p u e => (by cases e), Nat.zero_le _⟩, Nat.le_refl _, .inl (Nat.le_refl _), ⟨0, by simp⟩, hK, rfl, O⟩ ?_ ?_
  · rintro i σ H' hi ⟨B2, ce, ch, its, S, gi, ti, kvs, x5, x6, x7, x8, x9, x10, s2, M, KK, c1, c2, chk, c24, rfl, O⟩
    have rest : ∀ (m : Nat) H', m ≤ 3 → (m ≤ 1 ∨ ce + n ≤ 38) → Own a c B2 H' ((kd, .dT kvs) :: (w, wdO (chN wd ce ch) cw) :: (cw, .lst (chv ch)) :: (sp, .lst (rf rS n)) :: (rl rS S n ++ (rl rg (fun j => nv (gi j)) n ++ (rl rt (fun j => nv (ti j)) n ++ ls)))) →
        (tSeq (tAsg (tLc (iList A.K (tVar 2)) (gName 11) tYes (tLst tNil) [11]) (gName 7)) (tSeq (tFor (iRng1 (tCons (tOp rAddA (tC (.int 1)) (tCall spDraw [] E0 (tCons (tVar 0) (tCons (tC (.int 3)) tNil)))) tNil)) (gName 8) (tSeq (tAsg (tCall spDraw [] E0 (tCons (tVar 0) (tCons (tCB rLenA (tCons (tVar 2) tNil)) tNil))) (gName 9)) (tSeq (tAsg (tOp (rI (fun _ j => 0 < j) fun i j => .int (i % j)) (tCB rIntA (tCons (tOp rAddA (tOp rAddA (tVar 9) (tC (.int 1))) (tCall spDraw [] E0 (tCons (tVar 0) (tCons (tOp (rI0 fun i j => .int (i - j)) (tCB rLenA (tCons (tVar 2) tNil)) (tC (.int 1))) tNil)))) tNil)) (tCB rLenA (tCons (tVar 2) tNil))) (gName 10)) (tSeq (tIfS (tAnd (tB (tDNotIn (tTup (tCons (tVar 9) (tCons (tVar 10) tNil))) (tVar 4))) (tTest (tOp (rI0 fun i j => .bl (decide (i < j))) (tCB rLenA (tCons (tDGet (tVar 1) (tC (.str "channels"))) tNil)) (tC (.int 24))))) (tSeq (sDPut (tVar 4) (tTup (tCons (tVar 9) (tCons (tVar 10) tNil))) (tCB rLenA (tCons (tDGet (tVar 1) (tC (.str "channels"))) tNil))) (tSeq (tDrop (tBML rAppA (tDGet (tVar 1) (tC (.str "channels"))) (tCons (tC (.str "inner")) tNil))) (tSeq (tDrop (tBML rAppA (tDGet (tOp rIxA (tVar 3) (tVar 9)) (tC (.str "gives"))) (tCons (tDGet (tVar 4) (tTup (tCons (tVar 9) (tCons (tVar 10) tNil)))) tNil))) (tDrop (tBML rAppA (tDGet (tOp rIxA (tVar 3) (tVar 10)) (tC (.str "takes"))) (tCons (tDGet (tVar 4) (tTup (tCons (tVar 9) (tCons (tVar 10) tNil)))) tNil)))))) tNext) (tIfS (tB (tDIn (tTup (tCons (tVar 9) (tCons (tVar 10) tNil))) (tVar 4))) (tSeq (tDrop (tBML rAppA (tOp rIxA (tVar 7) (tVar 9)) (tCons (tTup (tCons (tC (.str "give")) (tCons (tDGet (tVar 4) (tTup (tCons (tVar 9) (tCons (tVar 10) tNil)))) (tCons (tC (.str "")) tNil)))) tNil))) (tDrop (tBML rAppA (tOp rIxA (tVar 7) (tVar 10)) (tCons (tTup (tCons (tC (.str "take")) (tCons (tDGet (tVar 4) (tTup (tCons (tVar 9) (tCons (tVar 10) tNil)))) (tCons (tC (.str "")) tNil)))) tNil)))) tNext))))) (tFor (iRng1 (tCons (tCB rLenA (tCons (tVar 2) tNil)) tNil)) (gName 8) (tIfS (tAnd (tTest (tOp (rI0 fun i j => .bl (decide (j < i))) (tCB rLenA (tCons (tOp rIxA (tVar 7) (tVar 8)) tNil)) (tC (.int 0)))) (tTest (tOp (rI0 fun i j => .bl (decide (j < i))) (tVar 6) (tC (.int 1))))) (tDrop (tBML rAppA (tOp rIxA (tVar 2) (tVar 8)) (tCons (tTup (tCons (tC (.str "loop")) (tCons (tVar 6) (tCons (tOp rIxA (tVar 7) (tVar 8)) (tCons (tCall (sp_l_more_cells A) [] E0 (tCons (tVar 1) (tCons (tC (.int 1)) tNil))) tNil))))) tNil))) (tDrop (tBML rExtA (tOp rIxA (tVar 2) (tVar 8)) (tCons (tOp rIxA (tVar 7) (tVar 8)) tNil))))))) ⟨fun σ H' => ∃ B' ce ch its S gi ti kvs x5 x6 x7 x8 x9 x10, Same B B' ∧ MS B' n wd.ch.length (List.length ch) ce its S gi ti (6 * (i + 1)) ∧ KI kvs ch.length (3 * (i + 1)) ∧ wd.ce ≤ ce ∧ (ce ≤ wd.ce ∨ ce ≤ 38) ∧ (∃ k, ch = wd.ch ++ List.replicate k ("inner" : Str)) ∧ ch.length ≤ 24 ∧
          σ = [some (.ref a), some (.ref w), some (.ref sp), some (.ref ep), some (.ref kd), x5, x6, x7, x8, x9, x10, none] ∧ Own a c B' H' ((kd, .dT kvs) :: (w, wdO (chN wd ce ch) cw) :: (cw, .lst (chv ch)) :: (sp, .lst (rf rS n)) :: (rl rS S n ++ (rl rg (fun j => nv (gi j)) n ++ (rl rt (fun j => nv (ti j)) n ++ ls)))), Q, fun _ H' => Q .non H', fun σ H' => ∃ B' ce ch its S gi ti kvs x5 x6 x7 x8 x9 x10, Same B B' ∧ MS B' n wd.ch.length (List.length ch) ce its S gi ti (6 * (i + 1)) ∧ KI kvs ch.length (3 * (i + 1)) ∧ wd.ce ≤ ce ∧ (ce ≤ wd.ce ∨ ce ≤ 38) ∧ (∃ k, ch = wd.ch ++ List.replicate k ("inner" : Str)) ∧ ch.length ≤ 24 ∧
          σ = [some (.ref a), some (.ref w), some (.ref sp), some (.ref ep), some (.ref kd), x5, x6, x7, x8, x9, x10, none] ∧ Own a c B' H' ((kd, .dT kvs) :: (w, wdO (chN wd ce ch) cw) :: (cw, .lst (chv ch)) :: (sp, .lst (rf rS n)) :: (rl rS S n ++ (rl rg (fun j => nv (gi j)) n ++ (rl rt (fun j => nv (ti j)) n ++ ls))))⟩
          [some (.ref a), some (.ref w), some (.ref sp), some (.ref ep), some (.ref kd), some (.int (i : Nat)), some (.int (m : Nat)), x7, x8, x9, x10, none] H' := by
      intro m H' hm hm38 O
      fail "s"
      refine ⟨⟨_, SqL.of (O.mem (by fail "m"))⟩, fun D hD => ?_⟩
      refine i_lcL (rf rS n) (fun j H' => ∃ rP, Own a c B2 H' ((D, .lst (rf rP j)) :: (rl rP (fun _ => []) j ++ ((kd, .dT kvs) :: (w, wdO (chN wd ce ch) cw) :: (cw, .lst (chv ch)) :: (sp, .lst (rf rS n)) :: (rl rS S n ++ (rl rg (fun j => nv (gi j)) n ++ (rl rt (fun j => nv (ti j)) n ++ ls))))))) ⟨fun _ => 0, O.new hD⟩ (fun j H' ⟨rP, O⟩ => SqL.of (O.mem (List.mem_cons_of_mem _ (List.mem_append_right _ (by fail "m"))))) (fun j x H' hx ⟨rP, O⟩ => ?_) fun H3 ⟨rP, O⟩ => ?_
      · have hj := (List.getElem?_eq_some_iff.mp hx).1
        rw [rf_len] at hj
        fail "s"
        rename_i q H4 O
        refine ⟨_, O.mem (by fail "m"), szl (by rw [rf_len]; omega), fu rP j q, ?_⟩
        have O := O.set (p := D) (o' := .lst (rf rP j ++ [.ref q])) (.there .here)
        rw [← rf_snoc, rl_succ, fu_at, ← rf_congr (ra := rP) (fun k hk => (fu_ne (by omega)).symm), ← rl_congr (ra := rP) (T := fun _ => []) (fun k hk => ⟨(fu_ne (by omega)).symm, rfl⟩), List.append_assoc]
        exact O.perm ((List.Perm.swap _ _ _).trans (.cons _ List.perm_middle.symm))
      rw [rf_len] at O
      have O := O.perm (ls' := (kd, .dT kvs) :: (D, .lst (rf rP n)) :: (w, wdO (chN wd ce ch) cw) :: (cw, .lst (chv ch)) :: (sp, .lst (rf rS n)) :: (rl rP (fun _ => []) n ++ (rl rS S n ++ (rl rg (fun j => nv (gi j)) n ++ (rl rt (fun j => nv (ti j)) n ++ ls))))) ((List.Perm.cons _ (List.perm_append_comm_assoc _ [(kd, .dT kvs), (w, wdO (chN wd ce ch) cw), (cw, .lst (chv ch)), (sp, .lst (rf rS n))] _)).trans (List.Perm.swap _ _ _))
      fail "s"
      rename_i r2 H4 r20 r21 O
      obtain ⟨g2, hg2, g23⟩ : ∃ gr : Nat, 1 + r2 = (gr : Int) ∧ gr ≤ 3 := ⟨(1 + r2).toNat, by omega, by omega⟩
      refine i_forR g2 hg2 (by omega) (fun r σ H' => ∃ B' ch' gi' ti' kvs' P ps x8 x9 x10, MC a c w cw sp ep kd D re rc rr rs rg rt rS rP n B ls wd B' H' ce ch' its S gi' ti' kvs' P ps (6 * i) (3 * i + r) (2 * r) ∧ σ = [some (.ref a), some (.ref w), some (.ref sp), some (.ref ep), some (.ref kd), some (.int (i : Nat)), some (.int (m : Nat)), some (.ref D), x8, x9, x10, none])
        ⟨B2, ch, gi, ti, kvs, _, fun _ => [], _, _, _, ⟨s2, M, KK, ⟨fun j _ => .nil, fun j _ p h => (by cases h), fun j _ => Nat.zero_le _⟩, chk, c24, O⟩, rfl⟩ ?_ ?_
      · rintro r σ H' hr ⟨B3, ch', gi', ti', kvs', P, ps, x8, x9, x10, C, rfl⟩
        exact round_ok A C hep hre n2 n4 (by omega) (by omega) fun B' H' ch'' gi'' ti'' kvs'' P' ps' y9 y10 C' => ⟨B', ch'', gi'', ti'', kvs'', P', ps', _, y9, y10, C', rfl⟩
      · rintro σ H' ⟨B3, ch', gi', ti', kvs', P, ps, x8, x9, x10, C, rfl⟩
        have O := C.O
        have O := O.perm (ls' := ((D, .lst (rf rP n)) :: rl rP P n) ++ ((kd, .dT kvs') :: (w, wdO (chN wd ce ch') cw) :: (cw, .lst (chv ch')) :: (sp, .lst (rf rS n)) :: (rl rS S n ++ (rl rg (fun j => nv (gi' j)) n ++ (rl rt (fun j => nv (ti' j)) n ++ ls))))) ((List.Perm.swap _ _ _).trans (.cons _ (List.perm_append_comm_assoc [(kd, .dT kvs'), (w, wdO (chN wd ce ch') cw), (cw, .lst (chv ch')), (sp, .lst (rf rS n))] _ _)))
        obtain ⟨B4, s4, hb, _, O⟩ := Own.hide O
        have c24' := C.c24
        have ln : (rf rS n).length = n := rf_len
        have MQ0 : MQ a c w cw sp kd D rg rt rS rP n B ls wd B4 H' ce ch' its S gi' ti' kvs' P ps (6 * (i + 1)) 6 := ⟨Same.trans C.s s4, C.M.mono s4 (Nat.le_refl _) (Nat.le_refl _) (by omega), C.p.mono s4 (Nat.le_refl _) (by omega), hb _ List.mem_cons_self, fun j hj => hb (rP j, _) (List.mem_cons_of_mem _ (mem_rl hj)), O⟩
        have its0 := C.M.sl
        fail "s"
        rw [ln]
        refine i_forR n rfl (by omega) (fun k σ H' => ∃ B' ce' its' S' x8, MQ a c w cw sp kd D rg rt rS rP n B ls wd B' H' ce' ch' its' S' gi' ti' kvs' P ps (6 * (i + 1)) 6 ∧ (∀ j, k ≤ j → its' j = its j) ∧ ce ≤ ce' ∧ ce' ≤ ce + k ∧ (m ≤ 1 → ce' = ce) ∧ σ = [some (.ref a), some (.ref w), some (.ref sp), some (.ref ep), some (.ref kd), some (.int (i : Nat)), some (.int (m : Nat)), some (.ref D), x8, x9, x10, none])
          ⟨B4, ce, its, S, _, MQ0, fun _ _ => rfl, Nat.le_refl _, Nat.le_refl _, fun _ => rfl, rfl⟩ ?_ ?_
        · rintro k σ H' hk ⟨B5, ce', its', S', x8, C5, e5, d1, d2, d3, rfl⟩
          refine spread_ok A C5 hk hm (by omega) (Nat.le_refl _) (l0 := 6 * i) (by rw [e5 k (Nat.le_refl _)]; exact its0 k hk) (by omega) fun B' H' ce'' its'' S'' u1 u2 u3 u4 C' => ⟨B', ce'', its'', S'', _, C', fun j hj => by rw [u3 j (by omega), e5 j (by omega)], by omega, by omega, fun h => by rw [u4 h, d3 h], rfl⟩
        · rintro σ H' ⟨B5, ce', its', S', x8, C5, e5, d1, d2, d3, rfl⟩
          exact ⟨B5, ce', ch', its', S', gi', ti', kvs', _, _, _, _, _, _, C5.s, C5.M, C.k.mono (Nat.le_refl _) (by omega), by omega, by omega, C.chk, c24', rfl, C5.O⟩
    have lnS : (rf rS n).length = n := rf_len
    fail "s"
    refine i_d2 (fun h1 => ?_) (fun h1 => ?_)
    · fail "s"
      rename_i p5 H5 O
      refine i_pickO O rfl List.mem_cons_self (by simp) (by simp) fun v H6 hv O => ?_
      obtain ⟨m, rfl, hm⟩ : ∃ m : Nat, v = .int (m : Nat) ∧ m ≤ 3 := by
        simp only [List.mem_cons, List.not_mem_nil, or_false] at hv
        rcases hv with rfl | rfl | rfl | rfl
        · exact ⟨1, rfl, by decide⟩
        · exact ⟨1, rfl, by decide⟩
        · exact ⟨2, rfl, by decide⟩
        · exact ⟨3, rfl, by decide⟩
      exact rest m H6 hm (.inr (by have h : (ce : Int) + ((rf rS n).length : Nat) ≤ 38 := h1; rw [lnS] at h; omega)) (Own.drop (l1 := [(p5, .lst [.int 1, .int 1, .int 2, .int 3])]) O)
    · exact rest 1 _ (by decide) (.inl (Nat.le_refl _)) O
  · rintro σ H' ⟨B2, ce, ch, its, S, gi, ti, kvs, x5, x6, x7, x8, x9, x10, s2, M, KK, c1, c2, chk, c24, rfl, O⟩
    refine kQ H' B2 ce ch its S gi ti s2 (M.mono (Same.refl _) (Nat.le_refl _) (Nat.le_refl _) (by omega)) c1 c2 chk c24 (Own.drop (l1 := [(kd, .dT kvs)]) O)

set_option Elab.async false
set_option linter.all false
set_option maxRecDepth 100000
set_option maxHeartbeats 4000000
open PySem PySem.Spec PyProof.Rows L2 Lb


theorem len_l_shared (A : Ad) {vs : List V} {H : Hp} {Q : VK} {E : XK} (h : sp_l_shared A vs H Q E) : vs.length = 4 := by
  obtain ⟨a, c, B, ls, e, ep, sp, en, n, re, rc, rr, rs, rg, rt, rS, its, S, ci, ri, gi, ti, K, C, mc, mr, mg, mt, ms, rfl, _⟩ := h
  rfl
section
variable {B B' : Hp} {n K C : Nat} {rS : Nat → Addr} {its : Nat → List It} {S : Nat → List V} {ci ri gi ti : Nat → List Nat} {mc mr mg mt ms mc' mr' mg' mt' ms' : Nat}
theorem SS.mono (h : SS B n K C rS its S ci ri gi ti mc mr mg mt ms) (s : Same B B') (h1 : mc ≤ mc') (h2 : mr ≤ mr') (h3 : mg ≤ mg') (h4 : mt ≤ mt') (h5 : ms ≤ ms') : SS B' n K C rS its S ci ri gi ti mc' mr' mg' mt' ms' where
  sp := fun j hj => ⟨s _ _ (h.sp j hj).1, (h.sp j hj).2.mono s⟩
  so := h.so
  sl := fun j hj => Nat.le_trans (h.sl j hj) h5
  c := fun j hj => ⟨(h.c j hj).1, Nat.le_trans (h.c j hj).2.1 h1, (h.c j hj).2.2⟩
  r := fun j hj => ⟨(h.r j hj).1, Nat.le_trans (h.r j hj).2.1 h2, (h.r j hj).2.2⟩
  g := fun j hj => ⟨Nat.le_trans (h.g j hj).1 h3, (h.g j hj).2⟩
  t := fun j hj => ⟨Nat.le_trans (h.t j hj).1 h4, (h.t j hj).2⟩
theorem fu_lt {f : Nat → List Nat} {i k m C : Nat} (h : ∀ j, j < n → (f j).length ≤ m ∧ ∀ k ∈ f j, k < C) (hi : (f i).length + 1 ≤ m) (hk : k < C) : ∀ j, j < n → (fu f i (f i ++ [k]) j).length ≤ m ∧ ∀ k' ∈ fu f i (f i ++ [k]) j, k' < C := fun j hj => by
  by_cases e : j = i
  · subst e
    rw [fu_at, List.length_append]
    refine ⟨hi, fun y hy => ?_⟩
    rcases List.mem_append.mp hy with q | q
    · exact (h j hj).2 y q
    · rw [List.mem_singleton.mp q]
      exact hk
  · rw [fu_ne e]
    exact h j hj
theorem fu_nn {f : Nat → List Nat} {i k m C : Nat} (h : ∀ j, j < n → f j ≠ [] ∧ (f j).length ≤ m ∧ ∀ k ∈ f j, k < C) (hi : (f i).length + 1 ≤ m) (hk : k < C) : ∀ j, j < n → fu f i (f i ++ [k]) j ≠ [] ∧ (fu f i (f i ++ [k]) j).length ≤ m ∧ ∀ k' ∈ fu f i (f i ++ [k]) j, k' < C := fun j hj => by
  refine ⟨?_, fu_lt (fun j hj => (h j hj).2) hi hk j hj⟩
  by_cases e : j = i
  · rw [e, fu_at]
    exact List.append_ne_nil_of_right_ne_nil _ (by simp)
  · rw [fu_ne e]
    exact (h j hj).1
theorem SS.c1 (h : SS B n K C rS its S ci ri gi ti mc mr mg mt ms) {i k : Nat} (hi : (ci i).length + 1 ≤ mc) (hk : k < C) : SS B n K C rS its S (fu ci i (ci i ++ [k])) ri gi ti mc mr mg mt ms := { h with c := fu_nn h.c hi hk }
theorem SS.r1 (h : SS B n K C rS its S ci ri gi ti mc mr mg mt ms) {i k : Nat} (hi : (ri i).length + 1 ≤ mr) (hk : k < C) : SS B n K C rS its S ci (fu ri i (ri i ++ [k])) gi ti mc mr mg mt ms := { h with r := fu_nn h.r hi hk }
theorem SS.g1 (h : SS B n K C rS its S ci ri gi ti mc mr mg mt ms) {i k : Nat} (hi : (gi i).length + 1 ≤ mg) (hk : k < K) : SS B n K C rS its S ci ri (fu gi i (gi i ++ [k])) ti mc mr mg mt ms := { h with g := fu_lt h.g hi hk }
theorem SS.t1 (h : SS B n K C rS its S ci ri gi ti mc mr mg mt ms) {i k : Nat} (hi : (ti i).length + 1 ≤ mt) (hk : k < K) : SS B n K C rS its S ci ri gi (fu ti i (ti i ++ [k])) mc mr mg mt ms := { h with t := fu_lt h.t hi hk }
theorem SS.s1 (h : SS B n K C rS its S ci ri gi ti mc mr mg mt ms) {i : Nat} {p : Addr} {vs : List V} {xs : List It} (hp : B p = some (.lst (S i ++ vs))) (dv : DtAll B vs (itDs xs)) (hx : ∀ x ∈ xs, x.ok C K ∧ x ≠ .nest) (hl : (its i).length + xs.length ≤ ms) (hi : i < n) :
    SS B n K C (fu rS i p) (fu its i (its i ++ xs)) (fu S i (S i ++ vs)) ci ri gi ti mc mr mg mt ms :=
  { h with
    sp := fun j hj => by
      by_cases e : j = i
      · subst e
        rw [fu_at, fu_at, fu_at, ← itDs_app]
        exact ⟨hp, DtAll.append (h.sp j hj).2 dv⟩
      · rw [fu_ne e, fu_ne e, fu_ne e]
        exact h.sp j hj
    so := fun j hj x hx' => by
      by_cases e : j = i
      · subst e
        rw [fu_at] at hx'
        rcases List.mem_append.mp hx' with q | q
        · exact h.so j hj x q
        · exact hx x q
      · rw [fu_ne e] at hx'
        exact h.so j hj x hx'
    sl := fun j hj => by
      by_cases e : j = i
      · subst e
        rw [fu_at, List.length_append]
        exact hl
      · rw [fu_ne e]
        exact h.sl j hj }
theorem SS.len (h : SS B n K C rS its S ci ri gi ti mc mr mg mt ms) {j : Nat} (hj : j < n) : (S j).length ≤ ms := by
  have h1 := dtLen (h.sp j hj).2
  unfold itDs at h1
  rw [List.length_map] at h1
  have := h.sl j hj
  omega
end
theorem rf_set {ra : Nat → Addr} {n i : Nat} {p : Addr} (h : i < n) : (rf ra n).set i (.ref p) = rf (fu ra i p) n := by
  apply List.ext_getElem?
  intro j
  rw [List.getElem?_set]
  by_cases e : i = j
  · subst e
    rw [if_pos rfl, if_pos (by rw [rf_len]; exact h), rf_get h, fu_at]
  · rw [if_neg e]
    unfold rf
    rw [List.getElem?_map, List.getElem?_map]
    cases q : (List.range n)[j]? with
    | none => rfl
    | some m =>
      have : m = j := by
        obtain ⟨hl, hm⟩ := List.getElem?_eq_some_iff.mp q
        rw [List.getElem_range] at hm
        exact hm.symm
      show some (V.ref (ra m)) = some (V.ref (fu ra i p m))
      rw [this, fu_ne (Ne.symm e)]
theorem ixN_nat {n k : Nat} (h : k < n) : ixN n (k : Nat) = some k := by unfold ixN; rw [if_pos (by omega), if_pos (by omega)]; simp
abbrev t_sh1 (A : Ad) : TS := (tSeq (tAsg (tCall spDraw [] E0 (tCons (tVar 0) (tCons (tOp rAddA (tCB rLenA (tCons (tVar 2) tNil)) (tC (.int 1))) tNil))) (gName 5)) (tSeq (tFor (iRng1 (tCons (tCB rLenA (tCons (tVar 2) tNil)) tNil)) (gName 6) (tIfS (tTest (tOp (rIn A.K false) (tVar 5) (tTup (tCons (tVar 6) (tCons (tCB rLenA (tCons (tVar 2) tNil)) tNil))))) (tDrop (tBML rAppA (tDGet (tOp rIxA (tVar 2) (tVar 6)) (tC (.str "reads"))) (tCons (tVar 4) tNil))) tNext)) (tIfS (tTest (tOp (rI0 fun i j => .bl (decide (i < j))) (tVar 5) (tCB rLenA (tCons (tVar 2) tNil)))) (tDrop (tBML rAppA (tDGet (tOp rIxA (tVar 2) (tVar 5)) (tC (.str "cells"))) (tCons (tVar 4) tNil))) tNext)))
abbrev t_sh2 (A : Ad) : TS := (tSeq (tAsg (tCall spDraw [] E0 (tCons (tVar 0) (tCons (tCB rLenA (tCons (tVar 2) tNil)) tNil))) (gName 5)) (tSeq (tDrop (tBML rAppA (tDGet (tOp rIxA (tVar 2) (tVar 5)) (tC (.str "gives"))) (tCons (tVar 7) tNil))) (tAsg (tOp rAddA (tOp rIxA (tVar 3) (tVar 5)) (tLc (iRng1 (tCons (tCall spDraw [] E0 (tCons (tVar 0) (tCons (tC (.int 3)) tNil))) tNil)) (gName 6) tYes (tTup (tCons (tC (.str "give")) (tCons (tVar 7) (tCons (tC (.str "")) tNil)))) [6])) (gSub (tVar 3) (tVar 5) rSetA))))
abbrev t_sh3 (A : Ad) : TS := (tSeq (tAsg (tCall spDraw [] E0 (tCons (tVar 0) (tCons (tCB rLenA (tCons (tVar 2) tNil)) tNil))) (gName 5)) (tSeq (tDrop (tBML rAppA (tDGet (tOp rIxA (tVar 2) (tVar 5)) (tC (.str "takes"))) (tCons (tVar 7) tNil))) (tAsg (tOp rAddA (tOp rIxA (tVar 3) (tVar 5)) (tLc (iRng1 (tCons (tCall spDraw [] E0 (tCons (tVar 0) (tCons (tC (.int 3)) tNil))) tNil)) (gName 6) tYes (tTup (tCons (tC (.str "take")) (tCons (tVar 7) (tCons (tC (.str "")) tNil)))) [6])) (gSub (tVar 3) (tVar 5) rSetA))))
structure SC (a c e ep sp : Addr) (en : En) (n : Nat) (re rc rr rs rg rt : Nat → Addr) (B0 : Hp) (ls : List (Addr × HO)) (K C : Nat) (B H : Hp) (rS : Nat → Addr) (its : Nat → List It) (S : Nat → List V) (ci ri gi ti : Nat → List Nat) (mc mr mg mt ms : Nat) : Prop where
  s : Same B0 B
  M : SS B n K C rS its S ci ri gi ti mc mr mg mt ms
  O : Own a c B H (SO sp rS rc rr rg rt n ci ri gi ti ls)
section
variable {a c e ep sp : Addr} {en : En} {n : Nat} {re rc rr rs rg rt : Nat → Addr} {B0 : Hp} {ls : List (Addr × HO)} {K C : Nat} {B H : Hp} {rS : Nat → Addr} {its : Nat → List It} {S : Nat → List V} {ci ri gi ti : Nat → List Nat} {mc mr mg mt ms : Nat} {nx : L2.St → Hp → Prop} {rt' : VK} {bk ct : L2.St → Hp → Prop} {x5 x6 x7 : Option V}
set_option maxHeartbeats 64000000 in
theorem sh1_ok (A : Ad) (X : SC a c e ep sp en n re rc rr rs rg rt B0 ls K C B H rS its S ci ri gi ti mc mr mg mt ms) (hep : B0 ep = some (.lst (rf re n))) (hre : ∀ i, i < n → B0 (re i) = some (enO (rc i) (rr i) (rs i) (rg i) (rt i))) (n2 : 2 ≤ n) (n4 : n ≤ 4) {cell : Nat} (hc : cell < C) (hm : mc ≤ 3000) (hm2 : mr ≤ 3000)
    (kn : ∀ B' H' ci' ri' y5 y6, SC a c e ep sp en n re rc rr rs rg rt B0 ls K C B' H' rS its S ci' ri' gi ti (mc + 1) (mr + 1) mg mt ms → nx [some (.ref a), some (.ref e), some (.ref ep), some (.ref sp), some (.int (cell : Nat)), y5, y6, x7] H') :
    t_sh1 A ⟨nx, rt', bk, ct⟩ [some (.ref a), some (.ref e), some (.ref ep), some (.ref sp), some (.int (cell : Nat)), x5, x6, x7] H := by
  have O := X.O
  have hep' := X.s _ _ hep
  have ln : (rf re n).length = n := rf_len
  unfold t_sh1
  fail "s"
  rw [ln]
  refine i_drawO O rfl (by omega) (by omega) fun r H1 r0 r1 O => ?_
  obtain ⟨at', rfl⟩ : ∃ g : Nat, r = (g : Int) := ⟨r.toNat, by omega⟩
  fail "s"
  rw [ln]
  refine i_forR n rfl (by omega) (fun k σ H' => ∃ ri' x6, SC a c e ep sp en n re rc rr rs rg rt B0 ls K C B H' rS its S ci ri' gi ti mc (mr + 1) mg mt ms ∧ (∀ j, k ≤ j → ri' j = ri j) ∧ σ = [some (.ref a), some (.ref e), some (.ref ep), some (.ref sp), some (.int (cell : Nat)), some (.int (at' : Nat)), x6, x7])
    ⟨ri, _, ⟨X.s, X.M.mono (Same.refl _) (Nat.le_refl _) (Nat.le_succ _) (Nat.le_refl _) (Nat.le_refl _) (Nat.le_refl _), O⟩, fun _ _ => rfl, rfl⟩ ?_ ?_
  · rintro k σ H' hk ⟨ri', x6, X', eq, rfl⟩
    have O := X'.O
    fail "s"
    rename_i q H2 O
    have O0 := Own.drop (l1 := [(q, .tup [.int (k : Nat), .int ((rf re n).length : Nat)])]) O
    cases hb : inV (V.int (at' : Nat)) [V.int (k : Nat), .int ((rf re n).length : Nat)] with
    | false =>
      fail "s"
      exact ⟨ri', _, { X' with O := O0 }, fun j hj => eq j (by omega), rfl⟩
    | true =>
      have hek := X.s _ _ (hre k hk)
      have ak : atI (rf re n) (k : Nat) = some (.ref (re k)) := rf_at hk
      have hr : H2 (rr k) = some (.lst (nv (ri' k))) := O.mem (by fail "mr")
      have lr := (X.M.r k hk).2.1
      have e1 := eq k (Nat.le_refl _)
      fail "s"
      refine i_appO O0 (by fail "ur") (szl (by show (nv (ri' k)).length ≤ _; rw [nv_len, e1]; omega)) fun H4 O => ?_
      have e2 : fu (fun j => nv (ri' j)) k (nv (ri' k) ++ [.int (cell : Nat)]) = fun j => nv (fu ri' k (ri' k ++ [cell]) j) := by rw [nv_snoc]; exact (fu_map (f := nv)).symm
      rw [e2] at O
      refine ⟨fu ri' k (ri' k ++ [cell]), _, ⟨X'.s, X'.M.r1 (by rw [e1]; omega) hc, O⟩, fun j hj => ?_, rfl⟩
      rw [fu_ne (by omega)]
      exact eq j (by omega)
  · rintro σ H' ⟨ri', x6, X', eq, rfl⟩
    have O := X'.O
    fail "s"
    refine i_d2 (fun h1 => ?_) (fun h1 => ?_)
    · have hk : at' < n := by rw [ln] at h1; omega
      have hek := X.s _ _ (hre at' hk)
      have ak : atI (rf re n) (at' : Nat) = some (.ref (re at')) := rf_at hk
      have hr : H' (rc at') = some (.lst (nv (ci at'))) := O.mem (by fail "mr")
      have lr := (X.M.c at' hk).2.1
      fail "s"
      refine i_appO O (by fail "ur") (szl (by show (nv (ci at')).length ≤ _; rw [nv_len]; omega)) fun H4 O => ?_
      have e2 : fu (fun j => nv (ci j)) at' (nv (ci at') ++ [.int (cell : Nat)]) = fun j => nv (fu ci at' (ci at' ++ [cell]) j) := by rw [nv_snoc]; exact (fu_map (f := nv)).symm
      rw [e2] at O
      exact kn B H4 _ ri' _ _ ⟨X'.s, (X'.M.mono (Same.refl _) (Nat.le_succ _) (Nat.le_refl _) (Nat.le_refl _) (Nat.le_refl _) (Nat.le_refl _)).c1 (by omega) hc, O⟩
    · fail "s"
      exact kn B H' ci ri' _ _ ⟨X'.s, X'.M.mono (Same.refl _) (Nat.le_succ _) (Nat.le_refl _) (Nat.le_refl _) (Nat.le_refl _) (Nat.le_refl _), O⟩
end

set_option Elab.async false
set_option linter.all false
set_option maxRecDepth 100000
set_option maxHeartbeats 4000000
open PySem PySem.Spec PyProof.Rows L2 Lb


section
variable {a c e ep sp : Addr} {en : En} {n : Nat} {re rc rr rs rg rt : Nat → Addr} {B0 : Hp} {ls : List (Addr × HO)} {K C : Nat} {B H : Hp} {rS : Nat → Addr} {its : Nat → List It} {S : Nat → List V} {ci ri gi ti : Nat → List Nat} {mc mr mg mt ms : Nat} {nx : L2.St → Hp → Prop} {rt' : VK} {bk ct : L2.St → Hp → Prop} {x4 x5 x6 x7 : Option V}
set_option maxHeartbeats 64000000 in
theorem sh2_ok (A : Ad) (X : SC a c e ep sp en n re rc rr rs rg rt B0 ls K C B H rS its S ci ri gi ti mc mr mg mt ms) (hep : B0 ep = some (.lst (rf re n))) (hre : ∀ i, i < n → B0 (re i) = some (enO (rc i) (rr i) (rs i) (rg i) (rt i))) (n2 : 2 ≤ n) (n4 : n ≤ 4) {ch : Nat} (hc : ch < K) (hm : mg ≤ 3000) (hm2 : ms ≤ 3000)
    (kn : ∀ B' H' rS' its' S' gi' y5 y6, SC a c e ep sp en n re rc rr rs rg rt B0 ls K C B' H' rS' its' S' ci ri gi' ti mc mr (mg + 1) mt (ms + 2) → nx [some (.ref a), some (.ref e), some (.ref ep), some (.ref sp), x4, y5, y6, some (.int (ch : Nat))] H') :
    t_sh2 A ⟨nx, rt', bk, ct⟩ [some (.ref a), some (.ref e), some (.ref ep), some (.ref sp), x4, x5, x6, some (.int (ch : Nat))] H := by
  have O := X.O
  have hep' := X.s _ _ hep
  have ln : (rf re n).length = n := rf_len
  have ln2 : (rf rS n).length = n := rf_len
  unfold t_sh2
  fail "s"
  rw [ln]
  refine i_drawO O rfl (by omega) (by omega) fun r H1 r0 r1 O => ?_
  obtain ⟨at', rfl⟩ : ∃ g : Nat, r = (g : Int) := ⟨r.toNat, by omega⟩
  have hk : at' < n := by omega
  have hek := X.s _ _ (hre at' hk)
  have ak : atI (rf re n) (at' : Nat) = some (.ref (re at')) := rf_at hk
  have aS : atI (rf rS n) (at' : Nat) = some (.ref (rS at')) := rf_at hk
  have hr : H1 (rg at') = some (.lst (nv (gi at'))) := O.mem (by fail "mr")
  have lr := (X.M.g at' hk).1
  have hS := (X.M.sp at' hk).1
  have lS := X.M.len hk
  have lI := X.M.sl at' hk
  fail "s"
  refine i_appO O (by fail "ur") (szl (by show (nv (gi at')).length ≤ _; rw [nv_len]; omega)) fun H2 O => ?_
  have e2 : fu (fun j => nv (gi j)) at' (nv (gi at') ++ [.int (ch : Nat)]) = fun j => nv (fu gi at' (gi at' ++ [ch]) j) := by rw [nv_snoc]; exact (fu_map (f := nv)).symm
  rw [e2] at O
  fail "s"
  rename_i d H3 d0 d1 O
  obtain ⟨m, rfl⟩ : ∃ g : Nat, d = (g : Int) := ⟨d.toNat, by omega⟩
  refine ⟨by omega, by omega, fun D hD => ?_⟩
  refine i_lcR m rfl (fun i H' => ∃ B' acc, Same B B' ∧ DtAll B' acc (itDs (List.replicate i (It.gt true ch false))) ∧ Own a c B' H' ((D, .lst acc) :: SO sp rS rc rr rg rt n ci ri (fu gi at' (gi at' ++ [ch])) ti ls)) ⟨B, [], Same.refl _, .nil, O.new hD⟩ ?_ ?_
  · rintro i H' hi ⟨B', acc, s, dacc, O⟩
    have la := dtLen dacc
    unfold itDs at la
    rw [List.length_map, List.length_replicate] at la
    fail "s"
    rename_i p H5 O
    obtain ⟨B2, s2, hp, O⟩ := O.freeze
    refine ⟨acc, O.mem (by fail "m"), szl (by omega), B2, acc ++ [.ref p], Same.trans s s2, ?_, O.set .here⟩
    rw [List.replicate_succ', ← itDs_app]
    exact DtAll.append (dacc.mono s2) (.cons (.tup hp (.cons (.str _) (.cons (.int _) (.cons (.str _) .nil)))) .nil)
  · rintro H' ⟨B', acc, s, dacc, O⟩
    have la := dtLen dacc
    unfold itDs at la
    rw [List.length_map, List.length_replicate] at la
    refine i_addN (O.kp (s _ _ hS)) (O.mem List.mem_cons_self) (sz (by omega)) ?_
    fail "s"
    rename_i p H5 O
    refine i_setO O (by fail "u") (ixN_nat (by rw [ln2]; exact hk)) fun H6 O => ?_
    rw [rf_set hk] at O
    obtain ⟨B2, s2, hp, O⟩ := O.freeze
    have O := Own.drop (l1 := [(D, .lst acc)]) O
    exact kn B2 H6 _ _ _ _ _ _ ⟨Same.trans X.s (Same.trans s s2), ((X.M.mono (Same.trans s s2) (Nat.le_refl _) (Nat.le_refl _) (Nat.le_succ _) (Nat.le_refl _) (by omega)).g1 (by omega) hc).s1 (xs := List.replicate m (It.gt true ch false)) hp (dacc.mono s2) (fun x hx => by rw [List.eq_of_mem_replicate hx]; exact ⟨hc, fun z => by cases z⟩) (by rw [List.length_replicate]; omega) hk, O⟩
set_option maxHeartbeats 64000000 in
theorem sh3_ok (A : Ad) (X : SC a c e ep sp en n re rc rr rs rg rt B0 ls K C B H rS its S ci ri gi ti mc mr mg mt ms) (hep : B0 ep = some (.lst (rf re n))) (hre : ∀ i, i < n → B0 (re i) = some (enO (rc i) (rr i) (rs i) (rg i) (rt i))) (n2 : 2 ≤ n) (n4 : n ≤ 4) {ch : Nat} (hc : ch < K) (hm : mt ≤ 3000) (hm2 : ms ≤ 3000)
    (kn : ∀ B' H' rS' its' S' ti' y5 y6, SC a c e ep sp en n re rc rr rs rg rt B0 ls K C B' H' rS' its' S' ci ri gi ti' mc mr mg (mt + 1) (ms + 2) → nx [some (.ref a), some (.ref e), some (.ref ep), some (.ref sp), x4, y5, y6, some (.int (ch : Nat))] H') :
    t_sh3 A ⟨nx, rt', bk, ct⟩ [some (.ref a), some (.ref e), some (.ref ep), some (.ref sp), x4, x5, x6, some (.int (ch : Nat))] H := by
  have O := X.O
  have hep' := X.s _ _ hep
  have ln : (rf re n).length = n := rf_len
  have ln2 : (rf rS n).length = n := rf_len
  unfold t_sh3
  fail "s"
  rw [ln]
  refine i_drawO O rfl (by omega) (by omega) fun r H1 r0 r1 O => ?_
  obtain ⟨at', rfl⟩ : ∃ g : Nat, r = (g : Int) := ⟨r.toNat, by omega⟩
  have hk : at' < n := by omega
  have hek := X.s _ _ (hre at' hk)
  have ak : atI (rf re n) (at' : Nat) = some (.ref (re at')) := rf_at hk
  have aS : atI (rf rS n) (at' : Nat) = some (.ref (rS at')) := rf_at hk
  have hr : H1 (rt at') = some (.lst (nv (ti at'))) := O.mem (by fail "mr")
  have lr := (X.M.t at' hk).1
  have hS := (X.M.sp at' hk).1
  have lS := X.M.len hk
  have lI := X.M.sl at' hk
  fail "s"
  refine i_appO O (by fail "ur") (szl (by show (nv (ti at')).length ≤ _; rw [nv_len]; omega)) fun H2 O => ?_
  have e2 : fu (fun j => nv (ti j)) at' (nv (ti at') ++ [.int (ch : Nat)]) = fun j => nv (fu ti at' (ti at' ++ [ch]) j) := by rw [nv_snoc]; exact (fu_map (f := nv)).symm
  rw [e2] at O
  fail "s"
  rename_i d H3 d0 d1 O
  obtain ⟨m, rfl⟩ : ∃ g : Nat, d = (g : Int) := ⟨d.toNat, by omega⟩
  refine ⟨by omega, by omega, fun D hD => ?_⟩
  refine i_lcR m rfl (fun i H' => ∃ B' acc, Same B B' ∧ DtAll B' acc (itDs (List.replicate i (It.gt false ch false))) ∧ Own a c B' H' ((D, .lst acc) :: SO sp rS rc rr rg rt n ci ri gi (fu ti at' (ti at' ++ [ch])) ls)) ⟨B, [], Same.refl _, .nil, O.new hD⟩ ?_ ?_
  · rintro i H' hi ⟨B', acc, s, dacc, O⟩
    have la := dtLen dacc
    unfold itDs at la
    rw [List.length_map, List.length_replicate] at la
    fail "s"
    rename_i p H5 O
    obtain ⟨B2, s2, hp, O⟩ := O.freeze
    refine ⟨acc, O.mem (by fail "m"), szl (by omega), B2, acc ++ [.ref p], Same.trans s s2, ?_, O.set .here⟩
    rw [List.replicate_succ', ← itDs_app]
    exact DtAll.append (dacc.mono s2) (.cons (.tup hp (.cons (.str _) (.cons (.int _) (.cons (.str _) .nil)))) .nil)
  · rintro H' ⟨B', acc, s, dacc, O⟩
    have la := dtLen dacc
    unfold itDs at la
    rw [List.length_map, List.length_replicate] at la
    refine i_addN (O.kp (s _ _ hS)) (O.mem List.mem_cons_self) (sz (by omega)) ?_
    fail "s"
    rename_i p H5 O
    refine i_setO O (by fail "u") (ixN_nat (by rw [ln2]; exact hk)) fun H6 O => ?_
    rw [rf_set hk] at O
    obtain ⟨B2, s2, hp, O⟩ := O.freeze
    have O := Own.drop (l1 := [(D, .lst acc)]) O
    exact kn B2 H6 _ _ _ _ _ _ ⟨Same.trans X.s (Same.trans s s2), ((X.M.mono (Same.trans s s2) (Nat.le_refl _) (Nat.le_refl _) (Nat.le_refl _) (Nat.le_succ _) (by omega)).t1 (by omega) hc).s1 (xs := List.replicate m (It.gt false ch false)) hp (dacc.mono s2) (fun x hx => by rw [List.eq_of_mem_replicate hx]; exact ⟨hc, fun z => by cases z⟩) (by rw [List.length_replicate]; omega) hk, O⟩
end
set_option maxHeartbeats 64000000 in
theorem pure_l_shared (A : Ad) (vs : List V) (H : Hp) (Q : VK) (E : XK) (h : sp_l_shared A vs H Q E) : t_l_shared A { nx := fun _ H' => Q .non H', rt := Q } (L2.start ["_law_state_here", "_law_env_here", "_law_envs", "_law_scripts", "_law_cell", "_law_at", "_law_k", "_law_c"] vs) H := by
  obtain ⟨a, c, B, ls, e, ep, sp, en, n, re, rc, rr, rs, rg, rt, rS, its, S, ci, ri, gi, ti, K, C, mc, mr, mg, mt, ms, rfl, O, EB, hep, hre, n2, n4, M, ec, eg, et, lc, lg, lt, hmc, hmr, hmg, hmt, hms, kQ⟩ := h
  obtain ⟨eC, eR, eS, eG, eT, sv, he, hec, her, hes, hsv, heg, het⟩ := EB
  unfold enO at he
  rw [st_l_shared]
  unfold t_l_shared
  fail "s"
  refine i_forL (nv en.cells) (fun i σ H' => ∃ B' ci' ri' x4 x5 x6, SC a c e ep sp en n re rc rr rs rg rt B ls K C B' H' rS its S ci' ri' gi ti (mc + i) (mr + i) mg mt ms ∧ σ = [some (.ref a), some (.ref e), some (.ref ep), some (.ref sp), x4, x5, x6, none])
    ⟨B, ci, ri, none, none, none, ⟨Same.refl _, M, O⟩, rfl⟩ (fun i σ H' ⟨B', ci', ri', _, _, _, X, _⟩ => SqL.of (X.O.kp (X.s _ _ hec))) ?_ ?_
  · rintro i v σ H' hv ⟨B', ci', ri', x4, x5, x6, X, rfl⟩
    obtain ⟨k, hk, rfl⟩ := nv_get hv
    have li := (List.getElem?_eq_some_iff.mp hk).1
    refine i_gname ?_
    exact sh1_ok A X hep hre n2 n4 (ec k (List.mem_of_getElem? hk)) (by omega) (by omega) fun B2 H2 ci2 ri2 y5 y6 X2 => ⟨B2, ci2, ri2, _, y5, y6, X2, rfl⟩
  rintro σ H' ⟨B1, ci1, ri1, x4, x5, x6, X1, rfl⟩
  rw [nv_len] at X1
  have he1 := X1.s _ _ he
  have heg1 := X1.s _ _ heg
  have O := X1.O
  fail "s"
  refine i_forL (nv en.gives) (fun i σ H' => ∃ B' rS' its' S' gi' x4 x5 x6 x7, SC a c e ep sp en n re rc rr rs rg rt B ls K C B' H' rS' its' S' ci1 ri1 gi' ti (mc + en.cells.length) (mr + en.cells.length) (mg + i) mt (ms + 2 * i) ∧ σ = [some (.ref a), some (.ref e), some (.ref ep), some (.ref sp), x4, x5, x6, x7])
    ⟨B1, rS, its, S, gi, _, _, _, _, X1, rfl⟩ (fun i σ H' ⟨B', _, _, _, _, _, _, _, _, X, _⟩ => SqL.of (X.O.kp (X.s _ _ heg))) ?_ ?_
  · rintro i v σ H' hv ⟨B', rS', its', S', gi', x4, x5, x6, x7, X, rfl⟩
    obtain ⟨k, hk, rfl⟩ := nv_get hv
    have li := (List.getElem?_eq_some_iff.mp hk).1
    refine i_gname ?_
    exact sh2_ok A X hep hre n2 n4 (eg k (List.mem_of_getElem? hk)) (by omega) (by omega) fun B2 H2 rS2 its2 S2 gi2 y5 y6 X2 => ⟨B2, rS2, its2, S2, gi2, _, y5, y6, _, X2, rfl⟩
  rintro σ H' ⟨B2, rS2, its2, S2, gi2, x4, x5, x6, x7, X2, rfl⟩
  rw [nv_len] at X2
  have he2 := X2.s _ _ he
  have het2 := X2.s _ _ het
  have O := X2.O
  fail "s"
  refine i_forL (nv en.takes) (fun i σ H' => ∃ B' rS' its' S' ti' x4 x5 x6 x7, SC a c e ep sp en n re rc rr rs rg rt B ls K C B' H' rS' its' S' ci1 ri1 gi2 ti' (mc + en.cells.length) (mr + en.cells.length) (mg + en.gives.length) (mt + i) (ms + 2 * en.gives.length + 2 * i) ∧ σ = [some (.ref a), some (.ref e), some (.ref ep), some (.ref sp), x4, x5, x6, x7])
    ⟨B2, rS2, its2, S2, ti, _, _, _, _, X2, rfl⟩ (fun i σ H' ⟨B', _, _, _, _, _, _, _, _, X, _⟩ => SqL.of (X.O.kp (X.s _ _ het))) ?_ ?_
  · rintro i v σ H' hv ⟨B', rS', its', S', ti', x4, x5, x6, x7, X, rfl⟩
    obtain ⟨k, hk, rfl⟩ := nv_get hv
    have li := (List.getElem?_eq_some_iff.mp hk).1
    refine i_gname ?_
    exact sh3_ok A X hep hre n2 n4 (et k (List.mem_of_getElem? hk)) (by omega) (by omega) fun B2 H2 rS2 its2 S2 gi2 y5 y6 X2 => ⟨B2, rS2, its2, S2, gi2, _, y5, y6, _, X2, rfl⟩
  rintro σ H' ⟨B3, rS3, its3, S3, ti3, x4, x5, x6, x7, X3, rfl⟩
  rw [nv_len] at X3
  exact kQ H' B3 rS3 its3 S3 ci1 ri1 gi2 ti3 X3.s (X3.M.mono (Same.refl _) (Nat.le_refl _) (Nat.le_refl _) (Nat.le_refl _) (Nat.le_refl _) (by omega)) X3.O

set_option Elab.async false
set_option linter.all false
set_option maxRecDepth 100000
set_option maxHeartbeats 4000000
open PySem PySem.Spec PyProof.Rows L2 Lb


/-- the rows of a par, as they are made -/
structure RI (a c cw w R : Addr) (B0 : Hp) (ls : List (Addr × HO)) (wd0 : Wd) (nn : Nat) (B H : Hp) (wd : Wd) (rv : List V) (ts : List Nat) (l : List Sm) (k : Nat) : Prop where
  s : Same B0 B
  st : Step { wd0 with th := wd0.th + k } wd
  k24 : WI wd
  O : Own a c B H ((R, .lst rv) :: (w, wdO wd cw) :: (cw, .lst (chv wd.ch)) :: ls)
  d : DtAll B rv (parD ts (smDs l))
  el : ts.length = l.length
  len : l.length = k
  thr : Thr wd0.th wd.th (List.zipWith (fun t r => t :: r) ts (thrs l)).flatten
  ok : oks wd.ce wd.ch.length l
  sh : ∀ s ∈ l, Sh (nn + 2) s.D
  wt : wts l + cst wd ≤ cst wd0 + 3060 * k
/-- a thread's scripts and what it may touch, all of them fixed -/
structure PF (B : Hp) (ep sp : Addr) (re rS : Nat → Addr) (ens : Nat → En) (its : Nat → List It) (S : Nat → List V) (n K C : Nat) : Prop where
  ep : B ep = some (.lst (rf re n))
  sp : B sp = some (.lst (rf rS n))
  e : ∀ j, j < n → EnvB B (re j) (ens j) ∧ (ens j).ok C K
  s : ∀ j, j < n → B (rS j) = some (.lst (S j)) ∧ DtAll B (S j) (itDs (its j)) ∧ (its j).length ≤ 300 ∧ ∀ x ∈ its j, x.ok C K ∧ x ≠ .nest
theorem PF.mono {B B' : Hp} {ep sp : Addr} {re rS : Nat → Addr} {ens : Nat → En} {its : Nat → List It} {S : Nat → List V} {n K C K' C' : Nat} (h : PF B ep sp re rS ens its S n K C) (s : Same B B') (k : K ≤ K') (c : C ≤ C') : PF B' ep sp re rS ens its S n K' C' where
  ep := s _ _ h.ep
  sp := s _ _ h.sp
  e := fun j hj => ⟨(h.e j hj).1.mono s, (h.e j hj).2.mono c k⟩
  s := fun j hj => ⟨s _ _ (h.s j hj).1, (h.s j hj).2.1.mono s, (h.s j hj).2.2.1, fun x hx => ⟨((h.s j hj).2.2.2 x hx).1.mono c k, ((h.s j hj).2.2.2 x hx).2⟩⟩
theorem seq_sh {nn : Nat} {l : List Sm} (h : ∀ s ∈ l, Sh nn s.D) : Sh (nn + 2) (Sm.seq l).D := by
  refine .tup (n := nn + 1) (.cons (.str (by decide +kernel)) (.cons (.lst (n := nn) (.all fun d hd => ?_)) .nil))
  obtain ⟨s, hs, rfl⟩ := smDs_mem hd
  exact h s hs
theorem par_sh {nn : Nat} {ts : List Nat} {l : List Sm} (h : ∀ s ∈ l, Sh (nn + 2) s.D) : Sh (nn + 5) (Sm.par ts l).D := by
  refine .tup (n := nn + 4) (.cons (.str (by decide +kernel)) (.cons (.lst (n := nn + 3) (.all fun d hd => ?_)) .nil))
  obtain ⟨i, hi⟩ := List.mem_iff_getElem?.mp hd
  obtain ⟨t, d', h1, h2, rfl⟩ := zget hi
  obtain ⟨s, h3, rfl⟩ := smDs_get h2
  exact .tup (n := nn + 2) (.cons .int (.cons (h s (List.mem_of_getElem? h3)) .nil))
theorem thr_seq_one {l : List Sm} {s : Sm} (h : s.thr = []) : (Sm.seq (l ++ [s])).thr = (thrs l).flatten := by
  show (thrs (l ++ [s])).flatten = _
  rw [thrs_app, List.flatten_append]
  have : (thrs [s]).flatten = s.thr := by
    show (s.thr :: []).flatten = _
    rw [List.flatten_cons, List.flatten_nil, List.append_nil]
  rw [this, h, List.append_nil]
abbrev t_row (A : Ad) (n : Nat) : TS := (tSeq (tAsg (tDGet (tVar 2) (tC (.str "threads"))) (gName 9)) (tSeq (sDPut (tVar 2) (tC (.str "threads")) (tOp rAddA (tVar 9) (tC (.int 1)))) (tSeq (tAsg (tCall (sp_l_faulty A) [] E0 (tCons (tVar 0) (tCons (tOp rIxA (tVar 6) (tVar 8)) tNil))) (gName 10)) (tSeq (tIfS (tAnd (tTest (tOp (rI0 fun i j => .bl (decide (j < i))) (tVar 3) (tC (.int 0)))) (tTest (tOp (rEqA A.K) (tCall spDraw [] E0 (tCons (tVar 0) (tCons (tC (.int 3)) tNil))) (tC (.int 0))))) (tSeq (tAsg (tCall spDraw [] E0 (tCons (tVar 0) (tCons (tOp rAddA (tCB rLenA (tCons (tVar 10) tNil)) (tC (.int 1))) tNil))) (gName 11)) (tAsg (tOp rAddA (tOp rAddA (tSl rSlA (tVar 10) tNoPart (tPart (tVar 11))) (tLst (tCons (tTup (tCons (tC (.str "nest")) tNil)) tNil))) (tSl rSlA (tVar 10) (tPart (tVar 11)) tNoPart)) (gName 10))) tNext) (tDrop (tBML rAppA (tVar 7) (tCons (tTup (tCons (tVar 9) (tCons (tTup (tCons (tC (.str "seq")) (tCons (tOp rAddA (tCall (sp_itemsP A n) [] E0 (tCons (tVar 0) (tCons (tOp rIxA (tVar 5) (tVar 8)) (tCons (tVar 2) (tCons (tVar 10) tNil))))) (tLst (tCons (tCall (sp_l_simple A) [] E0 (tCons (tVar 0) (tCons (tOp rIxA (tVar 5) (tVar 8)) tNil))) tNil))) tNil))) tNil))) tNil)))))))
abbrev t_row4 (A : Ad) (n : Nat) : TS := (tDrop (tBML rAppA (tVar 7) (tCons (tTup (tCons (tVar 9) (tCons (tTup (tCons (tC (.str "seq")) (tCons (tOp rAddA (tCall (sp_itemsP A n) [] E0 (tCons (tVar 0) (tCons (tOp rIxA (tVar 5) (tVar 8)) (tCons (tVar 2) (tCons (tVar 10) tNil))))) (tLst (tCons (tCall (sp_l_simple A) [] E0 (tCons (tVar 0) (tCons (tOp rIxA (tVar 5) (tVar 8)) tNil))) tNil))) tNil))) tNil))) tNil)))
section
variable {a c cw w R e ep sp : Addr} {B0 : Hp} {ls : List (Addr × HO)} {wd0 : Wd} {nn : Nat} {B H : Hp} {wd : Wd} {rv : List V} {ts : List Nat} {l : List Sm} {k n m deep : Nat} {re rS : Nat → Addr} {ens : Nat → En} {its : Nat → List It} {S : Nat → List V} {nx : L2.St → Hp → Prop} {rt : VK} {bk ct : L2.St → Hp → Prop} {x4 x9 x10 x11 : Option V}
set_option maxHeartbeats 64000000 in
theorem row4_ok (A : Ad) (I : RI a c cw w R B0 ls wd0 nn B H wd rv ts l k) (F : PF B ep sp re rS ens its S m wd.ch.length wd.ce) (wi : WI wd0) (hk : k < m) (m4 : m ≤ 4) {O1 : Hp → Hp → Prop} (h15 : 15 ≤ nn)
    (ip : Addr) (iv : List V) (it : List It) {B1 H1 : Hp} (s1 : Same B B1) (O : Own a c B1 H1 ((R, .lst rv) :: (w, wdO { wd with th := wd.th + 1 } cw) :: (cw, .lst (chv wd.ch)) :: ls)) (hip : B1 ip = some (.lst iv)) (div : DtAll B1 iv (itDs it)) (xo : ∀ x ∈ it, x.ok wd.ce wd.ch.length) (hz : it.length ≤ 1000) (fuel : wd0.left + 2 ≤ n) (dp : DpI it wd.left nn)
    (kn : ∀ B' H' wd' rv' ts' l', RI a c cw w R B0 ls wd0 nn B' H' wd' rv' ts' l' (k + 1) → nx [some (.ref a), some (.ref e), some (.ref w), some (.int (deep : Nat)), x4, some (.ref ep), some (.ref sp), some (.ref R), some (.int (k : Nat)), some (.int (wd.th : Nat)), some (.ref ip), x11] H') :
    t_row4 A n ⟨nx, rt, bk, ct⟩ [some (.ref a), some (.ref e), some (.ref w), some (.int (deep : Nat)), x4, some (.ref ep), some (.ref sp), some (.ref R), some (.int (k : Nat)), some (.int (wd.th : Nat)), some (.ref ip), x11] H1 := by
  obtain ⟨n, rfl⟩ : ∃ j, n = j + 1 := ⟨n - 1, by omega⟩
  have hep := s1 _ _ F.ep
  have ak : atI (rf re m) (k : Nat) = some (.ref (re k)) := rf_at hk
  obtain ⟨EB, eo⟩ := F.e k hk
  have EB1 := EB.mono s1
  have left : wd.left ≤ wd0.left := I.st.left
  have wi1 : WI wd := I.k24
  have rl_ : rv.length = k := by
    rw [dtLen I.d]
    unfold parD
    rw [List.length_zipWith, smDs_len, I.el, Nat.min_self, I.len]
  unfold t_row4
  fail "s"
  have O := Own.perm O (ls' := (w, wdO { wd with th := wd.th + 1 } cw) :: (cw, .lst (chv wd.ch)) :: (R, .lst rv) :: ls) (by fail "pm")
  refine ⟨a, c, B1, _, re k, w, cw, ip, ens k, { wd with th := wd.th + 1 }, iv, it, nn, rfl, O, EB1, eo, ⟨wi1.pot, wi1.l11, wi1.ch⟩, hip, div, xo, hz, .inr (by show wd.left + 1 ≤ n; omega), dp, fun q H2 B2 fv l2 wd' s2 hq dq st hk24 th ok sh hl hw O => ?_⟩
  have pot' := hk24.pot
  have c24' := hk24.ch
  have hep2 := s2 _ _ hep
  fail "s"
  refine ⟨a, c, B2, _, re k, ens k, wd'.ce, wd'.ch.length, rfl, O, EB1.mono s2, eo.mono st.ce st.chl, by show wd'.ce ≤ _; omega, by omega, fun p3 H3 B3 s3 sm dsm sb sth O => ?_⟩
  have hq3 := sm _ _ hq
  have fl := dtLen dq
  rw [smDs_len] at fl
  fail "s"
  rename_i q1 H4 O4 q2 H5 O5 q3 H6 O6 q4 H7 O7 H8 O
  have e3 : H5 q = some (.lst fv) := O5.kp hq3
  have O := Own.perm O (ls' := (q4, .tup [.int (wd.th : Nat), .ref q3]) :: (q3, .tup [.str "seq", .ref q2]) :: (q2, .lst (fv ++ [.ref p3])) :: (q1, .lst [.ref p3]) :: (R, .lst (rv ++ [.ref q4])) :: (w, wdO wd' cw) :: (cw, .lst (chv wd'.ch)) :: ls) (by fail "pm")
  obtain ⟨B4, s4, hb, O⟩ := Own.settle (l0 := (R, .lst (rv ++ [.ref q4])) :: (w, wdO wd' cw) :: (cw, .lst (chv wd'.ch)) :: ls) O (by fail "p")
  have s24 := Same.trans sm s4
  have dl : DtAll B4 (fv ++ [.ref p3]) (smDs (l2 ++ [s3])) := by
    rw [smDs_snoc]
    exact DtAll.append (dq.mono s24) (.cons (dsm.mono s4) .nil)
  have dseq : Dt B4 (.ref q3) (Sm.seq (l2 ++ [s3])).D := .tup (hb (q3, _) (by fail "m")) (.cons (.str _) (.cons (.lst (hb (q2, _) (by fail "m")) dl) .nil))
  have drow : Dt B4 (.ref q4) (.tuple [.int (wd.th : Nat), (Sm.seq (l2 ++ [s3])).D]) := .tup (hb (q4, _) (by fail "m")) (.cons (.int _) (.cons dseq .nil))
  have st' : Step { wd0 with th := wd0.th + (k + 1) } wd' := by
    have s0 := I.st
    refine ⟨Nat.le_trans st.left s0.left, Nat.le_trans st.it s0.it, Nat.le_trans s0.ce st.ce, ?_, st.al.trans s0.al, st.lo.trans s0.lo, ?_⟩
    · exact (Step.trans (b := { wd with th := wd.th + 1 }) ⟨s0.left, s0.it, s0.ce, s0.ch, s0.al, s0.lo, (show wd.th + 1 + wd.left ≤ wd0.th + (k + 1) + wd0.left by have : wd.th + wd.left ≤ wd0.th + k + wd0.left := s0.tl; omega)⟩ st : Step { wd0 with th := wd0.th + (k + 1) } wd').ch
    · have h1 : wd.th + wd.left ≤ wd0.th + k + wd0.left := s0.tl
      have h2 : wd'.th + wd'.left ≤ wd.th + 1 + wd.left := st.tl
      show wd'.th + wd'.left ≤ wd0.th + (k + 1) + wd0.left
      omega
  have wsm := sb.wt
  refine kn B4 H8 wd' _ (ts ++ [wd.th]) (l ++ [.seq (l2 ++ [s3])]) ⟨Same.trans I.s (Same.trans s1 (Same.trans s2 s24)), st', hk24, O, ?_, by rw [List.length_append, List.length_append, I.el]; rfl, by rw [List.length_append, I.len]; rfl, ?_, oks_app (m := [.seq (l2 ++ [s3])]) (I.ok.mono st.ce st.chl) ⟨oks_app (m := [s3]) ok ⟨sb.ok, trivial⟩, trivial⟩, fun s hs => ?_, ?_⟩
  · unfold parD
    rw [smDs_snoc, zapp (by rw [smDs_len, I.el])]
    exact DtAll.append (I.d.mono (Same.trans s1 (Same.trans s2 s24))) (.cons drow .nil)
  · rw [thrs_app, zapp (by rw [thrs_len, I.el]), List.flatten_append]
    refine I.thr.app ?_
    show Thr _ _ (List.flatten [wd.th :: (Sm.seq (l2 ++ [s3])).thr])
    rw [thr_seq_one sth, List.flatten_cons, List.flatten_nil, List.append_nil]
    exact th.cons
  · rcases List.mem_append.mp hs with h | h
    · exact I.sh s h
    · rw [List.mem_singleton.mp h]
      refine seq_sh fun x hx => ?_
      rcases List.mem_append.mp hx with y | y
      · exact sh x y
      · rw [List.mem_singleton.mp y]
        exact sb.sh.mono (by omega)
  · have w1 := I.wt
    rw [wts_app]
    show wts l + (20 + wts (l2 ++ [s3]) + 20 + 0) + cst wd' ≤ _
    rw [wts_app]
    show wts l + (20 + (wts l2 + (s3.wt + 20 + 0)) + 20 + 0) + cst wd' ≤ _
    have hw' : wts l2 + cst wd' ≤ cst wd := hw
    omega
set_option maxHeartbeats 64000000 in
theorem row_ok (A : Ad) (I : RI a c cw w R B0 ls wd0 nn B H wd rv ts l k) (F : PF B ep sp re rS ens its S m wd.ch.length wd.ce) (wi : WI wd0) (hk : k < m) (m4 : m ≤ 4) (h15 : 4 * wd0.left + 15 + 2 * deep ≤ nn) (hd : deep ≤ 1) (fuel : wd0.left + 2 ≤ n)
    (kn : ∀ B' H' wd' rv' ts' l' y9 y10 y11, RI a c cw w R B0 ls wd0 nn B' H' wd' rv' ts' l' (k + 1) → nx [some (.ref a), some (.ref e), some (.ref w), some (.int (deep : Nat)), x4, some (.ref ep), some (.ref sp), some (.ref R), some (.int (k : Nat)), y9, y10, y11] H') :
    t_row A n ⟨nx, rt, bk, ct⟩ [some (.ref a), some (.ref e), some (.ref w), some (.int (deep : Nat)), x4, some (.ref ep), some (.ref sp), some (.ref R), some (.int (k : Nat)), x9, x10, x11] H := by
  have O := I.O
  have hsp := F.sp
  have ak : atI (rf rS m) (k : Nat) = some (.ref (rS k)) := rf_at hk
  obtain ⟨hS, dS, lI, xo⟩ := F.s k hk
  have left : wd.left ≤ wd0.left := I.st.left
  unfold t_row
  fail "s"
  rename_i H1 O
  rw [show (wd.th : Int) + 1 = ((wd.th + 1 : Nat) : Int) by omega] at O
  refine ⟨a, c, B, _, rS k, S k, its k, rfl, O, hS, dS, by omega, fun ip H2 B1 iv it s1 hip div sub hl O => ?_⟩
  have xo1 : ∀ x ∈ it, x.ok wd.ce wd.ch.length := fun x hx => (xo x (sub x hx)).1
  have plain : ∀ H', Own a c B1 H' ((R, .lst rv) :: (w, wdO { wd with th := wd.th + 1 } cw) :: (cw, .lst (chv wd.ch)) :: ls) → ∀ x11, t_row4 A n ⟨nx, rt, bk, ct⟩ [some (.ref a), some (.ref e), some (.ref w), some (.int (deep : Nat)), x4, some (.ref ep), some (.ref sp), some (.ref R), some (.int (k : Nat)), some (.int (wd.th : Nat)), some (.ref ip), x11] H' := fun H' O x11 =>
    row4_ok A I F wi hk m4 (O1 := fun _ _ => True) (by omega) ip iv it s1 O hip div xo1 (by omega) fuel (.plain (fun x hx => (xo x (sub x hx)).2) (by omega)) fun B' H' wd' rv' ts' l' I' => kn B' H' wd' rv' ts' l' _ _ _ I'
  have ivl := dtLen div
  unfold itDs at ivl
  rw [List.length_map] at ivl
  fail "s"
  refine i_d2 (fun h1 => ?_) (fun h1 => plain _ O _)
  fail "s"
  rename_i r H3 r0 r1 O
  refine i_d2 (fun h2 => ?_) (fun h2 => plain _ O _)
  fail "s"
  refine i_drawO O rfl (by omega) (by omega) fun r H4 r0 r1 O => ?_
  obtain ⟨at', rfl⟩ : ∃ g : Nat, r = (g : Int) := ⟨r.toNat, by omega⟩
  fail "s"
  refine i_slO O (O.kp hip) (cut_to (k := at') (by omega)) fun p1 H5 O => ?_
  fail "s"
  rename_i q1 H6 O6 q2 H7 O7 q3 H8 O
  refine i_slO O (O.kp hip) (cut_from (k := at') (by omega)) fun p2 H9 O => ?_
  refine i_addN (xs := iv.take at' ++ [.ref q1]) (ys := iv.drop at') (O.mem (by fail "m")) (O.mem (by fail "m")) (sz (by rw [List.length_append, List.length_take, List.length_drop]; show _ + 1 + _ ≤ _; omega)) ?_
  refine i_newO O fun q4 H10 O => ?_
  refine i_gname ?_
  have O := Own.perm O (ls' := (q4, .lst (iv.take at' ++ [.ref q1] ++ iv.drop at')) :: (q1, .tup [.str "nest"]) :: (p2, .lst (iv.drop at')) :: (q3, .lst (iv.take at' ++ [.ref q1])) :: (q2, .lst [.ref q1]) :: (p1, .lst (iv.take at')) :: (R, .lst rv) :: (w, wdO { wd with th := wd.th + 1 } cw) :: (cw, .lst (chv wd.ch)) :: ls) (by fail "pm")
  obtain ⟨B2, s2, hb, O⟩ := Own.settle (l0 := (R, .lst rv) :: (w, wdO { wd with th := wd.th + 1 } cw) :: (cw, .lst (chv wd.ch)) :: ls) O (by fail "p")
  refine row4_ok A I F wi hk m4 (O1 := fun _ _ => True) (by omega) q4 (iv.take at' ++ [.ref q1] ++ iv.drop at') (it.take at' ++ [.nest] ++ it.drop at') (Same.trans s1 s2) O (hb (q4, _) (by fail "m")) ?_ ?_ ?_ fuel (.nest (by omega)) fun B' H' wd' rv' ts' l' I' => kn B' H' wd' rv' ts' l' _ _ _ I'
  · rw [← itDs_app, ← itDs_app, ← itDs_take, ← itDs_drop]
    exact DtAll.append (DtAll.append (dtTake (div.mono s2) at') (.cons (.tup (hb (q1, _) (by fail "m")) (.cons (.str _) .nil)) .nil)) (dtDrop (div.mono s2) at')
  · intro x hx
    rcases List.mem_append.mp hx with h | h
    · rcases List.mem_append.mp h with h | h
      · exact xo1 x (List.mem_of_mem_take h)
      · rw [List.mem_singleton.mp h]
        trivial
    · exact xo1 x (List.mem_of_mem_drop h)
  · rw [List.length_append, List.length_append, List.length_take, List.length_drop]
    show _ + 1 + _ ≤ _
    omega
end

set_option Elab.async false
set_option linter.all false
set_option maxRecDepth 100000
set_option maxHeartbeats 4000000
open PySem PySem.Spec PyProof.Rows L2 Lb


section
variable {α : Type}
theorem perm_s4 (x1 x2 x3 x4 y1 y2 y3 : α) (a b c d l : List α) : (x1 :: x2 :: x3 :: x4 :: y1 :: y2 :: y3 :: (a ++ (b ++ (c ++ (d ++ l))))).Perm (y1 :: y2 :: y3 :: ((a ++ [x1]) ++ ((b ++ [x2]) ++ ((c ++ [x3]) ++ ((d ++ [x4]) ++ l))))) := by
  classical
  rw [List.perm_iff_count]
  intro z
  simp only [List.count_append, List.count_cons, List.count_nil]
  omega
theorem perm_m (x y z : α) (s a b c d l : List α) : (x :: (s ++ (y :: z :: (a ++ (b ++ (c ++ (d ++ l))))))).Perm (y :: z :: x :: (s ++ (c ++ (d ++ (a ++ (b ++ l)))))) := by
  classical
  rw [List.perm_iff_count]
  intro z
  simp only [List.count_append, List.count_cons, List.count_nil]
  omega
theorem perm_h (x y z : α) (s a b c d l : List α) : (y :: z :: x :: (s ++ (c ++ (d ++ (a ++ (b ++ l)))))).Perm (s ++ (x :: (a ++ (b ++ (c ++ (d ++ (y :: z :: l))))))) := by
  classical
  rw [List.perm_iff_count]
  intro z
  simp only [List.count_append, List.count_cons, List.count_nil]
  omega
theorem perm_r (r x y z : α) (a b c d l : List α) : (r :: x :: (a ++ (b ++ (c ++ (d ++ (y :: z :: l)))))).Perm ((x :: (a ++ (b ++ (c ++ d)))) ++ (r :: y :: z :: l)) := by
  classical
  rw [List.perm_iff_count]
  intro z
  simp only [List.count_append, List.count_cons, List.count_nil, List.cons_append, List.append_assoc]
  omega
theorem rl_snoc {ra : Nat → Addr} {T : Nat → α} {f : α → List V} {j : Nat} {p : Addr} {x : α} : rl (fu ra j p) (fun i => f (fu T j x i)) (j + 1) = rl ra (fun i => f (T i)) j ++ [(p, .lst (f x))] := by
  rw [rl_succ, fu_at, fu_at]
  refine congrArg (· ++ _) (rl_congr fun i hi => ⟨fu_ne (by omega), by rw [fu_ne (show i ≠ j by omega)]⟩)
theorem rl_snoc0 {ra : Nat → Addr} {j : Nat} {p : Addr} : rl (fu ra j p) (fun _ => []) (j + 1) = rl ra (fun _ => []) j ++ [(p, .lst [])] := by
  rw [rl_succ, fu_at]
  exact congrArg (· ++ _) (rl_congr fun i hi => ⟨fu_ne (by omega), rfl⟩)
theorem rf_snocF {ra : Nat → Addr} {j : Nat} {p : Addr} : rf (fu ra j p) (j + 1) = rf ra j ++ [.ref p] := by
  rw [← rf_snoc, fu_at, rf_congr (ra' := ra) fun i hi => fu_ne (by omega)]
end
structure EI (B : Hp) (re rc rr rs rg rt : Nat → Addr) (ens : Nat → En) (ce j : Nat) : Prop where
  e : ∀ i, i < j → ∃ sv, B (re i) = some (enO (rc i) (rr i) (rs i) (rg i) (rt i)) ∧ B (rs i) = some (.lst sv) ∧ Paired (PairV B) sv (pz (ens i).spans)
  o : ∀ i, i < j → (∀ K, (ens i).ok ce K) ∧ (ens i).cells.length = 2 ∧ (ens i).reads.length = 2
theorem EI.mono {B B' : Hp} {re rc rr rs rg rt : Nat → Addr} {ens : Nat → En} {ce ce' j : Nat} (h : EI B re rc rr rs rg rt ens ce j) (s : Same B B') (c : ce ≤ ce') : EI B' re rc rr rs rg rt ens ce' j where
  e := fun i hi => by
    obtain ⟨sv, h1, h2, h3⟩ := h.e i hi
    exact ⟨sv, s _ _ h1, s _ _ h2, Lb.Paired.mono (fun _ _ h => h.mono s) h3⟩
  o := fun i hi => ⟨fun K => ((h.o i hi).1 K).mono c (Nat.le_refl _), (h.o i hi).2⟩
theorem EI.add {B : Hp} {re rc rr rs rg rt : Nat → Addr} {ens : Nat → En} {ce j : Nat} (h : EI B re rc rr rs rg rt ens ce j) {e c r s g t : Addr} {en : En} {sv : List V} (he : B e = some (enO c r s g t)) (hs : B s = some (.lst sv)) (hp : Paired (PairV B) sv (pz en.spans)) (ok : ∀ K, en.ok ce K) (l1 : en.cells.length = 2) (l2 : en.reads.length = 2) :
    EI B (fu re j e) (fu rc j c) (fu rr j r) (fu rs j s) (fu rg j g) (fu rt j t) (fu ens j en) ce (j + 1) where
  e := fun i hi => by
    by_cases q : i = j
    · subst q
      simp only [fu_at]
      exact ⟨sv, he, hs, hp⟩
    · simp only [fu_ne q]
      exact h.e i (by omega)
  o := fun i hi => by
    by_cases q : i = j
    · subst q
      simp only [fu_at]
      exact ⟨ok, l1, l2⟩
    · simp only [fu_ne q]
      exact h.o i (by omega)
set_option maxHeartbeats 64000000 in
theorem pure_l_par (A : Ad) (n : Nat) (vs : List V) (H : Hp) (Q : VK) (E : XK) (h : sp_l_par A n vs H Q E) : t_l_par A n { nx := fun _ H' => Q .non H', rt := Q } (L2.start ["_law_state_here", "_law_env_here", "_law_world", "_law_deep", "_law_many", "_law_envs", "_law_scripts", "_law_rows", "_law_k", "_law_thread", "_law_script", "_law_at"] vs) H := by
  obtain ⟨a, c, B, ls, e, w, cw, en, wd, deep, rfl, O, EB, eo, wi, hd, hn, kQ⟩ := h
  have wp := wi.pot
  have wc := wi.ch
  rw [st_l_par]
  unfold t_l_par
  fail "s"
  rename_i r H1 r0 r1 O
  obtain ⟨m, hm, m1, m2⟩ : ∃ m : Nat, (if (2 : Int) + r < ((wd.left : Nat) : Int) then 2 + r else ((wd.left : Nat) : Int)) = (m : Int) ∧ m ≤ wd.left ∧ m ≤ 4 := by
    split
    · exact ⟨(2 + r).toNat, by omega, by omega, by omega⟩
    · exact ⟨wd.left, rfl, Nat.le_refl _, by omega⟩
  rw [hm]
  refine i_d2 (fun h1 => ?_) (fun h1 => ?_)
  · fail "s"
    rename_i p H2 O
    obtain ⟨B2, s2, hp, O⟩ := O.freeze
    refine kQ p H2 B2 .skip wd s2 (.tup hp (.cons (.str _) .nil)) .refl wi .nil trivial (Sh.mono (n := 1) (.tup (n := 0) (.cons (.str (by decide +kernel)) .nil)) (by omega)) ?_ O
    show 20 + cst wd ≤ _
    omega
  have h2 : 2 ≤ m := by omega
  fail "s"
  rename_i H2 O
  rw [show ((wd.left : Nat) : Int) - (m : Int) = ((wd.left - m : Nat) : Int) by omega] at O
  refine ⟨by omega, by omega, fun D hD => ?_⟩
  refine i_lcR m rfl (fun j H' => ∃ B' ens re rc rr rs rg rt ce, Same B B' ∧ wd.ce + 2 * j ≤ ce ∧ ce + 2 * (wd.left - j) ≤ 60 ∧ EI B' re rc rr rs rg rt ens ce j ∧
      Own a c B' H' ((w, wdO { wd with left := wd.left - m, ce := ce } cw) :: (cw, .lst (chv wd.ch)) :: (D, .lst (rf re j)) :: (rl rc (fun i => nv (ens i).cells) j ++ (rl rr (fun i => nv (ens i).reads) j ++ (rl rg (fun _ => []) j ++ (rl rt (fun _ => []) j ++ ls))))))
    ⟨B, fun _ => ⟨[], [], [], [], []⟩, fun _ => 0, fun _ => 0, fun _ => 0, fun _ => 0, fun _ => 0, fun _ => 0, wd.ce, Same.refl _, by omega, by omega, ⟨fun i hi => absurd hi (by omega), fun i hi => absurd hi (by omega)⟩, Own.perm (O.new hD) (by fail "pm")⟩ ?_ ?_
  · rintro j H' hj ⟨B1, ens, re, rc, rr, rs, rg, rt, ce, s1, c1, c2, X, O⟩
    fail "s"
    refine ⟨a, c, B1, _, w, cw, { wd with left := wd.left - m, ce := ce }, rfl, O, fun e' ec er es eg et sv en' H3 B2 ce2 s2 O dv eg0 et0 eok lc lr d1 d2 => ?_⟩
    have d1 : ce + 2 ≤ ce2 := d1
    have d2 : ce2 ≤ ce + 2 ∨ ce2 ≤ 33 := d2
    have l11 := wi.l11
    have O := Own.perm O (ls' := (e', enO ec er es eg et) :: (es, .lst sv) :: (ec, .lst (nv en'.cells)) :: (er, .lst (nv en'.reads)) :: (eg, .lst []) :: (et, .lst []) :: (w, wdO { wd with left := wd.left - m, ce := ce2 } cw) :: (cw, .lst (chv wd.ch)) :: (D, .lst (rf re j)) :: (rl rc (fun i => nv (ens i).cells) j ++ (rl rr (fun i => nv (ens i).reads) j ++ (rl rg (fun _ => []) j ++ (rl rt (fun _ => []) j ++ ls))))) (by fail "pm")
    obtain ⟨B3, s3, h3, O⟩ := O.freeze
    obtain ⟨B4, s4, h4, O⟩ := O.freeze
    refine ⟨_, O.mem (by fail "m"), szl (by rw [rf_len]; omega), B4, fu ens j en', fu re j e', fu rc j ec, fu rr j er, fu rs j es, fu rg j eg, fu rt j et, ce2, Same.trans s1 (Same.trans s2 (Same.trans s3 s4)), by omega, by omega, (X.mono (Same.trans s2 (Same.trans s3 s4)) (by omega)).add (s4 _ _ h3) h4 (Lb.Paired.mono (fun _ _ h => h.mono (Same.trans s3 s4)) dv) eok lc lr, ?_⟩
    have O := O.set (p := D) (o' := .lst (rf re j ++ [.ref e'])) (by fail "u")
    rw [rf_snocF, rl_snoc (f := fun (x : En) => nv x.cells), rl_snoc (f := fun (x : En) => nv x.reads), rl_snoc0, rl_snoc0]
    exact O.perm (perm_s4 ..)
  rintro H3 ⟨B1, ens, re, rc, rr, rs, rg, rt, ce, s1, c1, c2, X, O⟩
  have O := Own.perm O (ls' := (D, .lst (rf re m)) :: (w, wdO { wd with left := wd.left - m, ce := ce } cw) :: (cw, .lst (chv wd.ch)) :: (rl rc (fun i => nv (ens i).cells) m ++ (rl rr (fun i => nv (ens i).reads) m ++ (rl rg (fun _ => []) m ++ (rl rt (fun _ => []) m ++ ls))))) (by fail "pm")
  obtain ⟨B2, s2, hep, O⟩ := O.freeze
  have X := X.mono s2 (Nat.le_refl _)
  fail "s"
  refine ⟨by omega, by omega, fun D2 hD2 => ?_⟩
  refine i_lcR m rfl (fun j H' => ∃ rS, Own a c B2 H' ((D2, .lst (rf rS j)) :: (rl rS (fun _ => []) j ++ ((w, wdO { wd with left := wd.left - m, ce := ce } cw) :: (cw, .lst (chv wd.ch)) :: (rl rc (fun i => nv (ens i).cells) m ++ (rl rr (fun i => nv (ens i).reads) m ++ (rl rg (fun _ => []) m ++ (rl rt (fun _ => []) m ++ ls)))))))) ⟨fun _ => 0, O.new hD2⟩ ?_ ?_
  · rintro j H' hj ⟨rS, O⟩
    fail "s"
    rename_i q H4 O
    refine ⟨_, O.mem (by fail "m"), szl (by rw [rf_len]; omega), fu rS j q, ?_⟩
    have O := O.set (p := D2) (o' := .lst (rf rS j ++ [.ref q])) (.there .here)
    rw [rf_snocF, rl_snoc0, List.append_assoc]
    exact O.perm ((List.Perm.swap _ _ _).trans (.cons _ List.perm_middle.symm))
  rintro H4 ⟨rS, O⟩
  fail "s"
  have O := O.perm (perm_m ..)
  have hre : ∀ i, i < m → B2 (re i) = some (enO (rc i) (rr i) (rs i) (rg i) (rt i)) := fun i hi => (X.e i hi).elim fun _ z => z.1
  refine ⟨a, c, B2, _, w, cw, D2, D, { wd with left := wd.left - m, ce := ce }, m, re, rc, rr, rs, rg, rt, rS, rfl, O, hep, hre, h2, m2, wc, by show ce ≤ 900; omega, fun H5 B3 ce2 ch2 its S gi ti s3 M d1 d2 chk c24 O => ?_⟩
  have d1 : ce ≤ ce2 := d1
  have d2 : ce2 ≤ ce ∨ ce2 ≤ 38 := d2
  have l11 := wi.l11
  have chl : wd.ch.length ≤ ch2.length := by
    obtain ⟨k, e⟩ := chk
    have e : ch2 = wd.ch ++ List.replicate k ("inner" : Str) := e
    rw [e, List.length_append]
    omega
  unfold MO at O
  have O := O.perm (perm_h ..)
  obtain ⟨B4, s4, hb4, _, O⟩ := Own.hide O
  have X := X.mono (Same.trans s3 s4) d1
  fail "s"
  have eG := eo.lg
  have eT := eo.lt
  have eC := eo.lc
  refine ⟨a, c, B4, _, e, D, D2, en, m, re, rc, rr, rs, rg, rt, rS, its, S, fun i => (ens i).cells, fun i => (ens i).reads, gi, ti, ch2.length, ce2, 2, 2, ch2.length - wd.ch.length, ch2.length - wd.ch.length, 18, rfl, O, EB.mono (Same.trans s1 (Same.trans s2 (Same.trans s3 s4))), s4 _ _ (s3 _ _ hep), fun i hi => s4 _ _ (s3 _ _ (hre i hi)), h2, m2, ⟨?_, M.so, M.sl, ?_, ?_, ?_, ?_⟩, fun k hk => ?_, fun k hk => ?_, fun k hk => ?_, by omega, by omega, by omega, by omega, by omega, by omega, by omega, by omega, fun H6 B5 rS5 its5 S5 ci5 ri5 gi5 ti5 s5 M5 O => ?_⟩
  · intro j hj
    exact ⟨hb4 (rS j, _) (mem_rl hj), (M.sd j hj).mono s4⟩
  · intro j hj
    have o := (X.o j hj).1 0
    exact ⟨o.c0, Nat.le_of_eq (X.o j hj).2.1, o.c⟩
  · intro j hj
    have o := (X.o j hj).1 0
    exact ⟨o.r0, Nat.le_of_eq (X.o j hj).2.2, o.r⟩
  · intro j hj
    exact ⟨by have : (gi j).length + wd.ch.length ≤ ch2.length := (M.g j hj).1; omega, (M.g j hj).2⟩
  · intro j hj
    exact ⟨by have : (ti j).length + wd.ch.length ≤ ch2.length := (M.t j hj).1; omega, (M.t j hj).2⟩
  · have := eo.c k hk
    omega
  · have := eo.g k hk
    omega
  · have := eo.t k hk
    omega
  have X := X.mono s5 (Nat.le_refl _)
  have hep5 := s5 _ _ (s4 _ _ (s3 _ _ hep))
  fail "s"
  rename_i R H7 O
  have O := O.perm (perm_r ..)
  obtain ⟨B6, s6, hb6, _, O⟩ := Own.hide O
  have X := X.mono s6 (Nat.le_refl _)
  have M6 := M5.mono s6 (Nat.le_refl _) (Nat.le_refl _) (Nat.le_refl _) (Nat.le_refl _) (Nat.le_refl _)
  let ens6 : Nat → En := fun i => ⟨ci5 i, ri5 i, (ens i).spans, gi5 i, ti5 i⟩
  have F : PF B6 D D2 re rS5 ens6 its5 S5 m ch2.length ce2 := by
    refine ⟨s6 _ _ hep5, hb6 _ List.mem_cons_self, fun j hj => ⟨?_, ?_⟩, fun j hj => ⟨(M6.sp j hj).1, (M6.sp j hj).2, by have := M6.sl j hj; omega, M6.so j hj⟩⟩
    · obtain ⟨sv, h1, h2, h3⟩ := X.e j hj
      refine ⟨rc j, rr j, rs j, rg j, rt j, sv, h1, hb6 (rc j, .lst (nv (ci5 j))) (List.mem_cons_of_mem _ (List.mem_append_left _ (mem_rl (T := fun i => nv (ci5 i)) hj))), hb6 (rr j, .lst (nv (ri5 j))) (List.mem_cons_of_mem _ (List.mem_append_right _ (List.mem_append_left _ (mem_rl (T := fun i => nv (ri5 i)) hj)))), h2, h3, hb6 (rg j, .lst (nv (gi5 j))) (List.mem_cons_of_mem _ (List.mem_append_right _ (List.mem_append_right _ (List.mem_append_left _ (mem_rl (T := fun i => nv (gi5 i)) hj))))), hb6 (rt j, .lst (nv (ti5 j))) (List.mem_cons_of_mem _ (List.mem_append_right _ (List.mem_append_right _ (List.mem_append_right _ (mem_rl (T := fun i => nv (ti5 i)) hj)))))⟩
    · have o := (X.o j hj).1 0
      have q1 := M6.c j hj
      have q2 := M6.r j hj
      have q3 := M6.g j hj
      have q4 := M6.t j hj
      exact ⟨q1.1, q2.1, q1.2.2, q2.2.2, o.s, q3.2, q4.2, by have := q1.2.1; show (ci5 j).length ≤ _; omega, by have := q2.2.1; show (ri5 j).length ≤ _; omega, o.lS, by have := q3.1; show (gi5 j).length ≤ _; omega, by have := q4.1; show (ti5 j).length ≤ _; omega⟩
  have wi3 : WI { wd with left := wd.left - m, ce := ce2, ch := ch2 } := ⟨by show ce2 + 2 * (wd.left - m) ≤ 60; omega, by show wd.left - m ≤ 11; omega, c24⟩
  fail "s"
  refine i_forR m rfl (by omega) (fun k σ H' => ∃ B' wd' rv ts l x8 x9 x10 x11, RI a c cw w R B6 ls { wd with left := wd.left - m, ce := ce2, ch := ch2 } (4 * (wd.left - m) + 15 + 2 * deep) B' H' wd' rv ts l k ∧ σ = [some (.ref a), some (.ref e), some (.ref w), some (.int (deep : Nat)), some (.int (m : Nat)), some (.ref D), some (.ref D2), some (.ref R), x8, x9, x10, x11])
    ⟨B6, { wd with left := wd.left - m, ce := ce2, ch := ch2 }, [], [], [], _, _, _, _, ⟨Same.refl _, ⟨Nat.le_refl _, Nat.le_refl _, Nat.le_refl _, ⟨0, by simp⟩, rfl, rfl, Nat.le_refl _⟩, wi3, O, .nil, rfl, rfl, .nil, trivial, (fun s h => by cases h), (by show 0 + cst _ ≤ cst _ + 3060 * 0; omega)⟩, rfl⟩ ?_ ?_
  · rintro k σ H' hk ⟨B', wd', rv, ts, l, x8, x9, x10, x11, I, rfl⟩
    refine i_gname ?_
    exact row_ok A I (F.mono I.s I.st.chl I.st.ce) wi3 hk m2 (by show 4 * (wd.left - m) + 15 + 2 * deep ≤ _; omega) hd (by show wd.left - m + 2 ≤ n; omega) fun B2 H2 wd2 rv2 ts2 l2 y9 y10 y11 I2 => ⟨B2, wd2, rv2, ts2, l2, _, y9, y10, y11, I2, rfl⟩
  · rintro σ H' ⟨B7, wd', rv, ts, l, x8, x9, x10, x11, I, rfl⟩
    have O := I.O
    have st := I.st
    have th1 : wd'.th + wd'.left ≤ wd.th + m + (wd.left - m) := st.tl
    have ce1 : ce2 ≤ wd'.ce := st.ce
    have l1 : wd'.left ≤ wd.left - m := st.left
    fail "s"
    rename_i p H8 O
    obtain ⟨B8, s8, hp, O⟩ := O.freeze
    obtain ⟨B9, s9, hR, O⟩ := O.freeze
    refine kQ p H8 B9 (.par ts l) wd' (Same.trans s1 (Same.trans s2 (Same.trans s3 (Same.trans s4 (Same.trans s5 (Same.trans s6 (Same.trans I.s (Same.trans s8 s9)))))))) (.tup (s9 _ _ hp) (.cons (.str _) (.cons (.lst hR (I.d.mono (Same.trans s8 s9))) .nil))) ⟨by omega, st.it, by omega, ?_, st.al, st.lo, by omega⟩ I.k24 I.thr ⟨I.el, I.ok⟩ ((par_sh (nn := 4 * (wd.left - m) + 15 + 2 * deep) I.sh).mono (by omega)) ?_ O
    · obtain ⟨k1, e1⟩ := chk
      obtain ⟨k2, e2⟩ := st.ch
      have e1 : ch2 = wd.ch ++ List.replicate k1 ("inner" : Str) := e1
      have e2 : wd'.ch = ch2 ++ List.replicate k2 ("inner" : Str) := e2
      exact ⟨k1 + k2, by rw [e2, e1, List.append_assoc, List.replicate_append_replicate]⟩
    · have w1 := I.wt
      show 20 + wts l + cst wd' ≤ _
      have w2 : wts l + cst wd' ≤ 130000 * wd.it + 5000 * (wd.left - m) + 3060 * m := w1
      show 20 + wts l + cst wd' ≤ 130000 * wd.it + 5000 * wd.left + 100
      omega

set_option Elab.async false
set_option linter.all false
set_option maxRecDepth 100000
set_option maxHeartbeats 4000000
open PySem PySem.Spec PyProof.Rows L2 Lb


theorem len_l_core (A : Ad) {vs : List V} {H : Hp} {Q : VK} {E : XK} (h : sp_l_core A vs H Q E) : vs.length = 2 := by
  obtain ⟨a, c, B, ls, al, rfl, _⟩ := h
  rfl
theorem i_pick2 {b : Bool} {x y : V} {σ : L2.St} {H : Hp} {Q : VK} (k : ∀ v, v = x ∨ v = y → Q v H) : if b = true then tC x σ H Q else tC y σ H Q := by
  cases b
  · exact k y (.inr rfl)
  · exact k x (.inl rfl)
structure CI (a c cw w b : Addr) (B0 : Hp) (ls : List (Addr × HO)) (wd0 : Wd) (B H : Hp) (wd : Wd) (bv : List V) (l : List Sm) (m β : Nat) : Prop where
  s : Same B0 B
  st : Step wd0 wd
  k24 : WI wd
  O : Own a c B H ((b, .lst bv) :: (w, wdO wd cw) :: (cw, .lst (chv wd.ch)) :: ls)
  d : DtAll B bv (smDs l)
  thr : Thr wd0.th wd.th (thrs l).flatten
  ok : oks wd.ce wd.ch.length l
  sh : ∀ s ∈ l, Sh 58 s.D
  len : l.length ≤ m
  wt : wts l + cst wd ≤ cst wd0 + β
section
variable {a c cw w b : Addr} {B0 : Hp} {ls : List (Addr × HO)} {wd0 : Wd} {B B' H H' : Hp} {wd wd' : Wd} {bv : List V} {l : List Sm} {m β j : Nat} {v : V} {s : Sm}
theorem CI.fl (I : CI a c cw w b B0 ls wd0 B H wd bv l m β) : bv.length = l.length := by
  have := dtLen I.d
  rw [smDs_len] at this
  exact this
theorem CI.push (I : CI a c cw w b B0 ls wd0 B H wd bv l m β) (sB : Same B B') (st : Step wd wd') (hk : WI wd') (O : Own a c B' H' ((b, .lst (bv ++ [v])) :: (w, wdO wd' cw) :: (cw, .lst (chv wd'.ch)) :: ls)) (dv : Dt B' v s.D) (th : Thr wd.th wd'.th s.thr) (ok : s.ok wd'.ce wd'.ch.length) (sh : Sh 58 s.D) (hw : s.wt + cst wd' ≤ cst wd + j) : CI a c cw w b B0 ls wd0 B' H' wd' (bv ++ [v]) (l ++ [s]) (m + 1) (β + j + 20) where
  s := Same.trans I.s sB
  st := I.st.trans st
  k24 := hk
  O := O
  d := by
    rw [smDs_snoc]
    exact DtAll.append (I.d.mono sB) (.cons dv .nil)
  thr := by
    rw [thrs_app, List.flatten_append]
    have : (thrs [s]).flatten = s.thr := by
      show (s.thr :: []).flatten = _
      rw [List.flatten_cons, List.flatten_nil, List.append_nil]
    rw [this]
    exact I.thr.app th
  ok := oks_app (I.ok.mono st.ce st.chl) ⟨ok, trivial⟩
  sh := fun x hx => (List.mem_append.mp hx).elim (I.sh x) fun h => by rw [List.mem_singleton.mp h]; exact sh
  len := by rw [List.length_append]; have := I.len; show _ + 1 ≤ _; omega
  wt := by
    rw [wts_app]
    have := I.wt
    show wts l + (s.wt + 20 + 0) + _ ≤ _
    omega
theorem CI.add (I : CI a c cw w b B0 ls wd0 B H wd bv l m β) (sB : Same B B') (O : Own a c B' H' ((b, .lst (bv ++ [v])) :: (w, wdO wd cw) :: (cw, .lst (chv wd.ch)) :: ls)) (dv : Dt B' v s.D) (th : s.thr = []) {n : Nat} (sb : SB wd.ce wd.ch.length n j s) (hn : n ≤ 58) : CI a c cw w b B0 ls wd0 B' H' wd (bv ++ [v]) (l ++ [s]) (m + 1) (β + j + 20) :=
  I.push sB .refl I.k24 O dv (by rw [th]; exact .nil) sb.ok (sb.sh.mono hn) (by have := sb.wt; omega)
theorem CI.weak (I : CI a c cw w b B0 ls wd0 B H wd bv l m β) {m' β' : Nat} (h : m ≤ m') (k : β ≤ β') : CI a c cw w b B0 ls wd0 B H wd bv l m' β' := { I with len := Nat.le_trans I.len h, wt := Nat.le_trans I.wt (by omega) }
theorem CI.same (I : CI a c cw w b B0 ls wd0 B H wd bv l m β) (O : Own a c B H' ((b, .lst bv) :: (w, wdO wd cw) :: (cw, .lst (chv wd.ch)) :: ls)) : CI a c cw w b B0 ls wd0 B H' wd bv l m β := { I with O := O }
end
theorem give_sb {C K c : Nat} {x : Ex} (hc : c < K) (hx : XB C 2 x) : SB C K 6 700 (.give c x) :=
  ⟨⟨hc, hx.ok⟩, by
    have h2 : x.wt ≤ 610 := hx.wt
    show 20 + x.wt ≤ 700
    omega, .tup (n := 5) (.cons (.str (by decide +kernel)) (.cons .int (.cons hx.sh .nil)))⟩
theorem pts_nat {lo n : Nat} {v : V} {k : Nat} (h : k < n) : (nv ((List.range n).map (lo + ·)))[k]? = some (.int ((lo + k : Nat) : Int)) := by
  unfold nv
  rw [List.getElem?_map, List.getElem?_map, List.getElem?_range h]
  rfl
set_option maxHeartbeats 64000000 in
theorem pure_l_core (A : Ad) (vs : List V) (H : Hp) (Q : VK) (E : XK) (h : sp_l_core A vs H Q E) : t_l_core A { nx := fun _ H' => Q .non H', rt := Q } (L2.start ["_law_state_here", "_law_alts", "_law_ins", "_law_outs", "_law_channels", "_law_loops", "_law_world", "_law_env_here", "_law_body", "_law_k", "_law_c"] vs) H := by
  obtain ⟨a, c, B, ls, al, rfl, O, kQ⟩ := h
  rw [st_l_core]
  unfold t_l_core
  fail "s"
  rename_i i1 H1 i10 i11 O1 i2 H2 i20 i21 O
  obtain ⟨i, rfl⟩ : ∃ g : Nat, i1 = (g : Int) := ⟨i1.toNat, by omega⟩
  obtain ⟨o, rfl⟩ : ∃ g : Nat, i2 = (g : Int) := ⟨i2.toNat, by omega⟩
  refine ⟨by omega, by omega, fun D1 hD1 => ?_⟩
  refine i_lcR i rfl (fun j H' => Own a c B H' ((D1, .lst (List.replicate j (.str "in"))) :: ls)) (O.new hD1) ?_ ?_
  · intro j H' hj O
    fail "s"
    exact ⟨_, O.mem (by fail "m"), szl (by rw [List.length_replicate]; omega), by rw [List.replicate_succ']; exact O.set .here⟩
  intro H3 O
  fail "s"
  refine ⟨by omega, by omega, fun D2 hD2 => ?_⟩
  refine i_lcR o rfl (fun j H' => Own a c B H' ((D2, .lst (List.replicate j (.str "out"))) :: (D1, .lst (List.replicate i (.str "in"))) :: ls)) (O.new hD2) ?_ ?_
  · intro j H' hj O
    fail "s"
    exact ⟨_, O.mem (by fail "m"), szl (by rw [List.length_replicate]; omega), by rw [List.replicate_succ']; exact O.set .here⟩
  intro H4 O
  refine i_addN (O.mem (by fail "m")) (O.mem (by fail "m")) (sz (by rw [List.length_replicate, List.length_replicate]; omega)) ?_
  refine i_newO O fun cw H5 O => ?_
  have ec : List.replicate i (V.str "in") ++ List.replicate o (V.str "out") = chv (List.replicate i ("in" : Str) ++ List.replicate o ("out" : Str)) := by
    show _ = List.map _ _
    rw [List.map_append, List.map_replicate, List.map_replicate]
  rw [ec] at O
  generalize hch : List.replicate i ("in" : Str) ++ List.replicate o ("out" : Str) = ch0 at O
  have lch : ch0.length = i + o := by rw [← hch, List.length_append, List.length_replicate, List.length_replicate]
  have O := Own.perm O (ls' := (D2, .lst (List.replicate o (.str "out"))) :: (D1, .lst (List.replicate i (.str "in"))) :: (cw, .lst (chv ch0)) :: ls) (by fail "pm")
  have O := Own.drop (l1 := [(D2, .lst (List.replicate o (.str "out"))), (D1, .lst (List.replicate i (.str "in")))]) O
  fail "s"
  rename_i r H6 r0 r1 O
  generalize decide (r = 0) = lo
  intro w hw
  have O := O.new hw (o := .dK [])
  fail "s"
  refine i_pick2 fun v hv => ?_
  obtain ⟨it, rfl, hit⟩ : ∃ it : Nat, v = .int (it : Nat) ∧ it ≤ 30 := by
    rcases hv with rfl | rfl
    · first | exact ⟨14, rfl, by decide⟩ | exact ⟨10, rfl, by decide⟩
    · first | exact ⟨30, rfl, by decide⟩ | exact ⟨14, rfl, by decide⟩
  fail "s"
  refine ⟨O.mem List.mem_cons_self, [(.inr "threads", .int (1 : Nat)), (.inr "left", .int (11 : Nat)), (.inr "items", .int (it : Nat)), (.inr "cells", .int (0 : Nat)), (.inr "channels", .ref cw), (.inr "alts", .bl al), (.inr "loops", .bl lo)], rfl, by simp, ?_⟩
  rw [merge0 (by show List.Nodup [(.inr "threads" : Key), .inr "left", .inr "items", .inr "cells", .inr "channels", .inr "alts", .inr "loops"]; decide +kernel)]
  have O := O.set (p := w) (o' := wdO ⟨1, 11, it, 0, ch0, al, lo⟩ cw) .here
  generalize upd H6 w (wdO ⟨1, 11, it, 0, ch0, al, lo⟩ cw) = H7 at O ⊢
  fail "s"
  refine ⟨a, c, B, _, w, cw, ⟨1, 11, it, 0, ch0, al, lo⟩, rfl, O, fun e ec er es eg et sv en H8 B1 ce s1 O dv eg0 et0 eok lc lr d1 d2 => ?_⟩
  have d2 : ce ≤ 0 + 2 ∨ ce ≤ 33 := d2
  have d1 : 0 + 2 ≤ ce := d1
  fail "s"
  refine ⟨by omega, by omega, fun D3 hD3 => ?_⟩
  refine i_lcR i rfl (fun j H' => Own a c B1 H' ((D3, .lst (nv (List.range j))) :: (e, enO ec er es eg et) :: (ec, .lst (nv en.cells)) :: (er, .lst (nv en.reads)) :: (es, .lst sv) :: (eg, .lst []) :: (et, .lst []) :: (w, wdO ⟨1, 11, it, ce, ch0, al, lo⟩ cw) :: (cw, .lst (chv ch0)) :: ls)) (O.new hD3) ?_ ?_
  · intro j H' hj O
    fail "s"
    exact ⟨_, O.mem (by fail "m"), szl (by rw [nv_len, List.length_range]; omega), by rw [List.range_succ, ← nv_snoc]; exact O.set .here⟩
  intro H9 O
  fail "s"
  rename_i H10 O
  refine ⟨by omega, by omega, fun D4 hD4 => ?_⟩
  refine i_lcR o rfl (fun j H' => Own a c B1 H' ((D4, .lst (nv ((List.range j).map (i + ·)))) :: (D3, .lst (nv (List.range i))) :: (e, enO ec er es eg D3) :: (ec, .lst (nv en.cells)) :: (er, .lst (nv en.reads)) :: (es, .lst sv) :: (eg, .lst []) :: (et, .lst []) :: (w, wdO ⟨1, 11, it, ce, ch0, al, lo⟩ cw) :: (cw, .lst (chv ch0)) :: ls)) (O.new hD4) ?_ ?_
  · intro j H' hj O
    fail "s"
    refine ⟨_, O.mem (by fail "m"), szl (by rw [nv_len, List.length_map, List.length_range]; omega), ?_⟩
    rw [List.range_succ, List.map_append]
    show Own a c B1 _ ((D4, .lst (nv (_ ++ [i + j]))) :: _)
    rw [← nv_snoc, show ((i + j : Nat) : Int) = (i : Int) + j by omega]
    exact O.set .here
  intro H11 O
  fail "s"
  rename_i H12 O
  have O := Own.perm O (ls' := (e, enO ec er es D4 D3) :: (ec, .lst (nv en.cells)) :: (er, .lst (nv en.reads)) :: (es, .lst sv) :: (D4, .lst (nv ((List.range o).map (i + ·)))) :: (D3, .lst (nv (List.range i))) :: (eg, .lst []) :: (et, .lst []) :: (w, wdO ⟨1, 11, it, ce, ch0, al, lo⟩ cw) :: (cw, .lst (chv ch0)) :: ls) (by fail "pm")
  obtain ⟨B2, s2, hb, O⟩ := Own.settle (l0 := (w, wdO ⟨1, 11, it, ce, ch0, al, lo⟩ cw) :: (cw, .lst (chv ch0)) :: ls) O (by fail "p")
  have heg := hb (D4, _) (by fail "m")
  let en2 : En := ⟨en.cells, en.reads, en.spans, (List.range o).map (i + ·), List.range i⟩
  have EB : EnvB B2 e en2 := ⟨ec, er, es, D4, D3, sv, hb (e, _) (by fail "m"), hb (ec, _) (by fail "m"), hb (er, _) (by fail "m"), hb (es, _) (by fail "m"), Lb.Paired.mono (fun _ _ h => h.mono s2) dv, heg, hb (D3, _) (by fail "m")⟩
  have he2 : B2 e = some (.dK [(.inr "cells", .ref ec), (.inr "reads", .ref er), (.inr "spans", .ref es), (.inr "gives", .ref D4), (.inr "takes", .ref D3)]) := hb (e, _) (by fail "m")
  have eo : en2.ok ce ch0.length := by
    have q := eok 0
    refine { c0 := q.c0, r0 := q.r0, c := q.c, r := q.r, s := q.s, lc := q.lc, lr := q.lr, lS := q.lS, g := fun k hk => ?_, t := fun k hk => ?_, lg := ?_, lt := ?_ }
    · obtain ⟨j, hj, rfl⟩ := List.mem_map.mp hk
      have := List.mem_range.mp hj
      omega
    · have := List.mem_range.mp (show k ∈ List.range i from hk)
      omega
    · show ((List.range o).map (i + ·)).length ≤ _
      rw [List.length_map, List.length_range]
      omega
    · show (List.range i).length ≤ _
      rw [List.length_range]
      omega
  have S12 := Same.trans s1 s2
  fail "s"
  rename_i m1 H13 m0 m1' O
  obtain ⟨m, rfl⟩ : ∃ g : Nat, m1 = (g : Int) := ⟨m1.toNat, by omega⟩
  refine ⟨by omega, by omega, fun D5 hD5 => ?_⟩
  refine i_lcR m rfl (fun j H' => ∃ B' bv l, CI a c cw w D5 B2 ls ⟨1, 11, it, ce, ch0, al, lo⟩ B' H' ⟨1, 11, it, ce, ch0, al, lo⟩ bv l j (820 * j)) ⟨B2, [], [], ⟨Same.refl _, .refl, ⟨by show ce + 2 * 11 ≤ 60; omega, Nat.le_refl _, by show ch0.length ≤ 24; omega⟩, O.new hD5, .nil, .nil, trivial, (fun s h => by cases h), Nat.le_refl _, (by show 0 + cst _ ≤ _; omega)⟩⟩ ?_ ?_
  · rintro j H' hj ⟨B', bv, l, I⟩
    have O := I.O
    fail "s"
    refine ⟨a, c, B', _, e, en2, ce, ch0.length, rfl, O, EB.mono I.s, eo, by omega, by omega, fun p H14 B3 t x s3 dt sb O => ?_⟩
    have fl := I.fl
    have ll := I.len
    exact ⟨bv, O.mem (by fail "m"), szl (by omega), B3, _, _, (I.add s3 (O.set .here) dt rfl sb (by decide)).weak (Nat.le_refl _) (by omega)⟩
  rintro H14 ⟨B3, bv, l, I⟩
  have O := I.O
  fail "s"
  rename_i m2 H15 m20 m21 O
  obtain ⟨m', hm', hm3⟩ : ∃ g : Nat, 1 + m2 = (g : Int) ∧ g ≤ 2 := ⟨(1 + m2).toNat, by omega, by omega⟩
  refine i_forR m' hm' (by omega) (fun k σ H' => ∃ B' wd bv l x9, CI a c cw w D5 B2 ls ⟨1, 11, it, ce, ch0, al, lo⟩ B' H' wd bv l (2 + 2 * k) (1640 + 3140 * k) ∧ σ = [some (.ref a), some (.bl al), some (.int (i : Nat)), some (.int (o : Nat)), some (.ref cw), some (.bl lo), some (.ref w), some (.ref e), some (.ref D5), x9, none])
    ⟨B3, _, bv, l, none, (I.same O).weak (by omega) (by omega), rfl⟩ ?_ ?_
  · rintro k σ H' hk ⟨B', wd, bv, l, x9, I, rfl⟩
    have O := I.O
    have st := I.st
    have eo' := eo.mono st.ce st.chl
    have EB' := EB.mono I.s
    have pot := I.k24.pot
    have left : wd.left ≤ 11 := st.left
    have c24 := I.k24.ch
    fail "s"
    have O := Own.perm O (ls' := (w, wdO wd cw) :: (cw, .lst (chv wd.ch)) :: (D5, .lst bv) :: ls) (by fail "pm")
    refine ⟨a, c, B', _, e, w, cw, en2, wd, 1, rfl, O, EB', eo', I.k24, Nat.le_refl _, left, fun p H16 B4 s wd' s4 dp st' k24 th ok sh hw O => ?_⟩
    have fl := I.fl
    have ll := I.len
    fail "s"
    rename_i H17 O
    have I2 := I.push (j := 100) s4 st' k24 (Own.perm O (by fail "pm")) dp th ok (sh.mono (by omega)) (by omega)
    have pot2 := k24.pot
    have c24' := k24.ch
    have O := I2.O
    have fl2 := I2.fl
    have ll2 := I2.len
    refine ⟨a, c, B4, _, e, en2, wd'.ce, wd'.ch.length, rfl, O, EB'.mono s4, eo'.mono st'.ce st'.chl, by omega, by omega, fun p5 H18 B5 s5 sm ds sb sth O => ?_⟩
    fail "s"
    rename_i H19 O
    exact ⟨B5, wd', _, _, _, (I2.add sm O ds sth sb (by decide)).weak (by omega) (by omega), rfl⟩
  rintro σ H' ⟨B4, wd, bv, l, x9, I, rfl⟩
  have st := I.st
  have eo' := eo.mono st.ce st.chl
  have pot := I.k24.pot
  have c24 := I.k24.ch
  have tl : wd.th + wd.left ≤ 1 + 11 := st.tl
  have heg4 := I.s _ _ heg
  have he4 := I.s _ _ he2
  have O := I.O
  fail "s"
  refine i_forL (nv ((List.range o).map (i + ·))) (fun k σ H' => ∃ B' bv l x10, Same B4 B' ∧ CI a c cw w D5 B2 ls ⟨1, 11, it, ce, ch0, al, lo⟩ B' H' wd bv l (6 + k) (8000 + 720 * k) ∧ σ = [some (.ref a), some (.bl al), some (.int (i : Nat)), some (.int (o : Nat)), some (.ref cw), some (.bl lo), some (.ref w), some (.ref e), some (.ref D5), x9, x10])
    ⟨B4, bv, l, none, Same.refl _, I.weak (by omega) (by omega), rfl⟩ (fun k σ H' ⟨B', _, _, _, s, I, _⟩ => SqL.of (I.O.kp (s _ _ heg4))) ?_ ?_
  · rintro k v σ H' hv ⟨B', bv, l, x10, s, I, rfl⟩
    obtain ⟨ch, hc, rfl⟩ := nv_get hv
    have lk := (List.getElem?_eq_some_iff.mp hc).1
    rw [List.length_map, List.length_range] at lk
    have cK : ch < wd.ch.length := eo'.g ch (List.mem_of_getElem? hc)
    have O := I.O
    fail "s"
    rename_i r H6 r0 r1 O
    refine i_d2 (fun h1 => ?_) (fun h1 => ?_)
    rotate_left
    · fail "s"
      exact ⟨B', bv, l, _, s, (I.same O).weak (by omega) (by omega), rfl⟩
    fail "s"
    refine ⟨a, c, B', _, e, en2, wd.ce, wd.ch.length, 2, rfl, by decide, O, EB.mono I.s, eo', by omega, by omega, fun q H7 B5 x sx dx xb O => ?_⟩
    have fl := I.fl
    have ll := I.len
    fail "s"
    rename_i t H8 O8 H9 O
    have O := Own.perm O (ls' := (t, .tup [.str "give", .int (ch : Nat), .ref q]) :: (D5, .lst (bv ++ [.ref t])) :: (w, wdO wd cw) :: (cw, .lst (chv wd.ch)) :: ls) (by fail "pm")
    obtain ⟨B6, s6, ht, O⟩ := O.freeze
    exact ⟨B6, _, _, _, Same.trans s (Same.trans sx s6), (I.add (s := .give ch x) (Same.trans sx s6) O (.tup ht (.cons (.str _) (.cons (.int _) (.cons (dx.mono s6) .nil)))) rfl (give_sb cK xb) (by decide)).weak (by omega) (by omega), rfl⟩
  rintro σ H' ⟨B5, bv, l, x10, s5, I, rfl⟩
  rw [nv_len, List.length_map, List.length_range] at I
  have O := I.O
  fail "s"
  rename_i q1 H16 O16 q2 H17 O
  have O := Own.perm O (ls' := (q2, .tup [.str "core", .int (wd.ce : Nat), .ref cw, .ref q1]) :: (q1, .tup [.str "seq", .ref D5]) :: (D5, .lst bv) :: (cw, .lst (chv wd.ch)) :: (w, wdO wd cw) :: ls) (by fail "pm")
  obtain ⟨B6, s6, hb6, O⟩ := Own.settle (l0 := (w, wdO wd cw) :: ls) O (by fail "p")
  have O := Own.drop (l1 := [(w, wdO wd cw)]) O
  have dch : DtAll B6 (chv wd.ch) (wd.ch.map PyData.str) := by
    generalize wd.ch = xs
    induction xs with
    | nil => exact .nil
    | cons x r ih => exact .cons (.str _) ih
  have w1 := I.wt
  have w2 : wts l + cst wd ≤ 130000 * it + 5000 * 11 + (8000 + 720 * o) := w1
  refine kQ q2 H17 B6 wd.ce wd.ch l wd.th (Same.trans S12 (Same.trans I.s s6)) (.tup (hb6 (q2, _) (by fail "m")) (.cons (.str _) (.cons (.int _) (.cons (.lst (hb6 (cw, _) (by fail "m")) dch) (.cons (.tup (hb6 (q1, _) (by fail "m")) (.cons (.str _) (.cons (.lst (hb6 (D5, _) (by fail "m")) (I.d.mono s6)) .nil))) .nil))))) ?_ O
  have ce' : ce ≤ wd.ce := st.ce
  refine ⟨⟨by omega, by omega⟩, ?_, c24, I.ok, I.thr, by omega, I.sh, by omega, by have := I.len; omega⟩
  obtain ⟨k, hk⟩ := st.ch
  exact ⟨i, o, k, by rw [hk, ← hch], by omega, by omega⟩

set_option Elab.async false
set_option linter.all false
set_option maxRecDepth 100000
set_option maxHeartbeats 4000000
open PySem PySem.Spec PyProof.Rows L2 Lb


/-! ### statements within statements -/
def Sm.parts : Sm → List Sm
  | .seq l => l
  | .par _ l => l
  | .ite _ a b => [a, b]
  | .rep _ _ s => [s]
  | _ => []
def Sm.inner : Sm → List Sm
  | .alt _ l => l
  | s => s.parts
mutual
def Sm.dp : Sm → Nat
  | .ite _ a b => max a.dp b.dp + 1
  | .rep _ _ s => s.dp + 1
  | .seq l => dps l + 1
  | .par _ l => dps l + 1
  | .alt _ l => dps l + 1
  | _ => 0
def dps : List Sm → Nat
  | [] => 0
  | s :: r => max s.dp (dps r)
end
theorem dps_mem : ∀ {l : List Sm} {s : Sm}, s ∈ l → s.dp ≤ dps l
  | x :: r, s, h => by
    rcases List.mem_cons.mp h with e | e
    · rw [e]
      exact Nat.le_max_left _ _
    · exact Nat.le_trans (dps_mem e) (Nat.le_max_right _ _)
theorem dp_inner {s x : Sm} (h : x ∈ s.inner) : x.dp + 1 ≤ s.dp := by
  cases s with
  | ite e a b =>
    show _ ≤ max a.dp b.dp + 1
    rcases List.mem_cons.mp (show x ∈ [a, b] from h) with q | q
    · rw [q]
      omega
    · rw [List.mem_singleton.mp q]
      omega
  | rep e m s =>
    rw [List.mem_singleton.mp (show x ∈ [s] from h)]
    exact Nat.le_refl _
  | seq l => exact Nat.succ_le_succ (dps_mem (show x ∈ l from h))
  | par ts l => exact Nat.succ_le_succ (dps_mem (show x ∈ l from h))
  | alt rs l => exact Nat.succ_le_succ (dps_mem (show x ∈ l from h))
  | skip => cases (show x ∈ [] from h)
  | stop => cases (show x ∈ [] from h)
  | set t e => cases (show x ∈ [] from h)
  | take c t => cases (show x ∈ [] from h)
  | give c e => cases (show x ∈ [] from h)
theorem parts_inner {s x : Sm} (h : x ∈ s.parts) : x ∈ s.inner := by
  cases s <;> first | exact h | (cases (show x ∈ [] from h))
/-! shapes of parts -/
theorem Sh.tupI {n : Nat} {ds : List PyData} (h : Sh (n + 1) (.tuple ds)) : ∀ d ∈ ds, Sh n d := by
  have h1 : PyData.canLayAll0 ds = true := h.1
  have h0 : PyData.depthAll ds + 1 ≤ n + 1 := h.2
  have h2 : PyData.depthAll ds ≤ n := by omega
  clear h h0
  revert h1 h2
  induction ds with
  | nil => exact fun _ _ d hd => by cases hd
  | cons x r ih =>
    intro h1 h2
    have h3 := Bool.and_eq_true_iff.mp (show (x.canLay0 && PyData.canLayAll0 r) = true from h1)
    have h4 := Nat.max_le.mp (show max x.depth (PyData.depthAll r) ≤ n from h2)
    intro d hd
    rcases List.mem_cons.mp hd with e | e
    · rw [e]
      exact ⟨h3.1, h4.1⟩
    · exact ih h3.2 h4.2 d e
theorem Sh.lstI {n : Nat} {ds : List PyData} (h : Sh (n + 1) (.list ds)) : ∀ d ∈ ds, Sh n d := Sh.tupI (n := n) (ds := ds) ⟨h.1, h.2⟩
theorem Sh.pos {n : Nat} {ds : List PyData} (h : Sh n (.tuple ds)) : ∃ m, n = m + 1 := ⟨n - 1, by have h2 : PyData.depthAll ds + 1 ≤ n := h.2; omega⟩
theorem Sh.posL {n : Nat} {ds : List PyData} (h : Sh n (.list ds)) : ∃ m, n = m + 1 := ⟨n - 1, by have h2 : PyData.depthAll ds + 1 ≤ n := h.2; omega⟩
theorem smDs_of {l : List Sm} {s : Sm} (h : s ∈ l) : s.D ∈ smDs l := by
  induction l with
  | nil => cases h
  | cons x r ih =>
    rcases List.mem_cons.mp h with e | e
    · rw [e]
      exact List.mem_cons_self
    · exact List.mem_cons_of_mem _ (ih e)
theorem zip_mem {α β γ : Type} {f : α → β → γ} : ∀ {xs : List α} {ys : List β} {y : β}, xs.length = ys.length → y ∈ ys → ∃ x ∈ xs, f x y ∈ List.zipWith f xs ys
  | x :: xs, y :: ys, z, h, hz => by
    rcases List.mem_cons.mp hz with e | e
    · rw [e]
      exact ⟨x, List.mem_cons_self, List.mem_cons_self⟩
    · obtain ⟨u, h1, h2⟩ := zip_mem (f := f) (xs := xs) (ys := ys) (by simpa using h) e
      exact ⟨u, List.mem_cons_of_mem _ h1, List.mem_cons_of_mem _ h2⟩
  | [], [], z, h, hz => by cases hz
  | [], _ :: _, z, h, hz => by simp at h
  | _ :: _, [], z, h, hz => by simp at h
theorem sh_inner {C K n : Nat} {s x : Sm} (o : s.ok C K) (h : Sh n s.D) (hx : x ∈ s.inner) : Sh (n - 1) x.D := by
  cases s with
  | ite e a b =>
    obtain ⟨m, rfl⟩ := Sh.pos h
    have h' := Sh.tupI (n := m) h
    rcases List.mem_cons.mp (show x ∈ [a, b] from hx) with q | q
    · rw [q]
      exact h' a.D (by simp)
    · rw [List.mem_singleton.mp q]
      exact h' b.D (by simp)
  | rep e k s =>
    obtain ⟨m, rfl⟩ := Sh.pos h
    rw [List.mem_singleton.mp (show x ∈ [s] from hx)]
    exact Sh.tupI (n := m) h s.D (by simp)
  | seq l =>
    obtain ⟨m, rfl⟩ := Sh.pos h
    have h1 := Sh.tupI (n := m) h (.list (smDs l)) (by simp)
    obtain ⟨m, rfl⟩ := Sh.posL h1
    exact (Sh.lstI h1 x.D (smDs_of hx)).mono (by omega)
  | par ts l =>
    obtain ⟨m, rfl⟩ := Sh.pos h
    have h1 := Sh.tupI (n := m) h (.list (parD ts (smDs l))) (by simp)
    obtain ⟨m, rfl⟩ := Sh.posL h1
    obtain ⟨t, _, ht⟩ := zip_mem (f := fun (t : Nat) d => PyData.tuple [.int (t : Nat), d]) (xs := ts) (ys := smDs l) (by rw [smDs_len]; exact o.1) (smDs_of hx)
    have h2 := Sh.lstI h1 _ ht
    obtain ⟨m, rfl⟩ := Sh.pos h2
    exact (Sh.tupI h2 x.D (by simp)).mono (by omega)
  | alt rs l =>
    obtain ⟨m, rfl⟩ := Sh.pos h
    have h1 := Sh.tupI (n := m) h (.list (altD rs (smDs l))) (by simp)
    obtain ⟨m, rfl⟩ := Sh.posL h1
    obtain ⟨t, _, ht⟩ := zip_mem (f := fun (r : AR) d => PyData.tuple [optD r.g, .int (r.c : Nat), r.t.D, d]) (xs := rs) (ys := smDs l) (by rw [smDs_len]; exact o.1) (smDs_of hx)
    have h2 := Sh.lstI h1 _ ht
    obtain ⟨m, rfl⟩ := Sh.pos h2
    exact (Sh.tupI h2 x.D (by simp)).mono (by omega)
  | skip => cases (show x ∈ [] from hx)
  | stop => cases (show x ∈ [] from hx)
  | set t e => cases (show x ∈ [] from hx)
  | take c t => cases (show x ∈ [] from hx)
  | give c e => cases (show x ∈ [] from hx)
theorem oks_mem {C K : Nat} : ∀ {l : List Sm} {s : Sm}, oks C K l → s ∈ l → s.ok C K
  | x :: r, s, h, hs => by
    rcases List.mem_cons.mp hs with e | e
    · rw [e]
      exact h.1
    · exact oks_mem h.2 e
theorem ok_inner {C K : Nat} {s x : Sm} (h : s.ok C K) (hx : x ∈ s.inner) : x.ok C K := by
  cases s with
  | ite e a b =>
    rcases List.mem_cons.mp (show x ∈ [a, b] from hx) with q | q
    · rw [q]
      exact h.2.1
    · rw [List.mem_singleton.mp q]
      exact h.2.2
  | rep e k s =>
    rw [List.mem_singleton.mp (show x ∈ [s] from hx)]
    exact h.2.2.2
  | seq l => exact oks_mem h hx
  | par ts l => exact oks_mem h.2 hx
  | alt rs l => exact oks_mem h.2.2 hx
  | skip => cases (show x ∈ [] from hx)
  | stop => cases (show x ∈ [] from hx)
  | set t e => cases (show x ∈ [] from hx)
  | take c t => cases (show x ∈ [] from hx)
  | give c e => cases (show x ∈ [] from hx)
mutual
theorem dp_le {C K : Nat} : ∀ {n : Nat} {s : Sm}, s.ok C K → Sh n s.D → s.dp ≤ n
  | _, .skip, _, _ => Nat.zero_le _
  | _, .stop, _, _ => Nat.zero_le _
  | _, .set _ _, _, _ => Nat.zero_le _
  | _, .take _ _, _, _ => Nat.zero_le _
  | _, .give _ _, _, _ => Nat.zero_le _
  | n, .ite e a b, o, h => by
    obtain ⟨m, rfl⟩ := Sh.pos h
    have h1 := dp_le o.2.1 (sh_inner (x := a) o h (by show a ∈ [a, b]; simp))
    have h2 := dp_le o.2.2 (sh_inner (x := b) o h (by show b ∈ [a, b]; simp))
    show max a.dp b.dp + 1 ≤ _
    omega
  | n, .rep e k s, o, h => by
    obtain ⟨m, rfl⟩ := Sh.pos h
    have h1 := dp_le o.2.2.2 (sh_inner (x := s) o h (by show s ∈ [s]; simp))
    show s.dp + 1 ≤ _
    omega
  | n, .seq l, o, h => by
    obtain ⟨m, rfl⟩ := Sh.pos h
    have h1 := dps_le (n := m) o fun s hs => sh_inner (s := .seq l) (x := s) o h hs
    show dps l + 1 ≤ _
    omega
  | n, .par ts l, o, h => by
    obtain ⟨m, rfl⟩ := Sh.pos h
    have h1 := dps_le (n := m) o.2 fun s hs => sh_inner (s := .par ts l) (x := s) o h hs
    show dps l + 1 ≤ _
    omega
  | n, .alt rs l, o, h => by
    obtain ⟨m, rfl⟩ := Sh.pos h
    have h1 := dps_le (n := m) o.2.2 fun s hs => sh_inner (s := .alt rs l) (x := s) o h hs
    show dps l + 1 ≤ _
    omega
theorem dps_le {C K : Nat} : ∀ {n : Nat} {l : List Sm}, oks C K l → (∀ s ∈ l, Sh n s.D) → dps l ≤ n
  | _, [], _, _ => Nat.zero_le _
  | n, s :: r, o, h => Nat.max_le.mpr ⟨dp_le o.1 (h s List.mem_cons_self), dps_le o.2 fun x hx => h x (List.mem_cons_of_mem _ hx)⟩
end
/-! ### the text of a core -/
/-- d can be shown, in less than m signs -/
def Gd (m : Nat) (d : PyData) : Prop := d.showable = true ∧ d.shown.length + 2 ≤ m
def GdA (m : Nat) (ds : List PyData) : Prop := PyData.showableAll ds = true ∧ ((PyData.shownAll ds).map (·.length)).sum + 2 * ds.length ≤ m
theorem Gd.mono {m n : Nat} {d : PyData} (h : Gd m d) (k : m ≤ n) : Gd n d := ⟨h.1, Nat.le_trans h.2 k⟩
theorem GdA.mono {m n : Nat} {ds : List PyData} (h : GdA m ds) (k : m ≤ n) : GdA n ds := ⟨h.1, Nat.le_trans h.2 k⟩
theorem GdA.nil : GdA 0 [] := ⟨rfl, Nat.le_refl _⟩
theorem GdA.cons {a b : Nat} {d : PyData} {ds : List PyData} (h : Gd a d) (k : GdA b ds) : GdA (a + b) (d :: ds) := by
  refine ⟨?_, ?_⟩
  · show (d.showable && PyData.showableAll ds) = true
    rw [h.1, k.1]
    rfl
  · have h2 := h.2
    have k2 := k.2
    show d.shown.length + ((PyData.shownAll ds).map (·.length)).sum + 2 * (ds.length + 1) ≤ _
    omega
theorem Gd.tup {m : Nat} {ds : List PyData} (h : GdA m ds) : Gd (m + 5) (.tuple ds) := by
  refine ⟨h.1, ?_⟩
  have h1 := tupleText_len_le (PyData.shownAll ds)
  have h2 : (PyData.shownAll ds).length = ds.length := PyData.shownAll_length ds
  rw [h2] at h1
  have h3 := h.2
  show (tupleText (PyData.shownAll ds)).length + 2 ≤ _
  omega
theorem Gd.lst {m : Nat} {ds : List PyData} (h : GdA m ds) : Gd (m + 5) (.list ds) := by
  refine ⟨h.1, ?_⟩
  have h1 := listText_len_le (PyData.shownAll ds)
  have h2 : (PyData.shownAll ds).length = ds.length := PyData.shownAll_length ds
  rw [h2] at h1
  have h3 := h.2
  show (listText (PyData.shownAll ds)).length + 2 ≤ _
  omega
theorem Gd.int {i : Int} (k : Nat) (hk : 1 ≤ k) (h : i.natAbs < 10 ^ k) (h6 : k ≤ 12) : Gd (k + 3) (.int i) := by
  have e := int_text_length_le10 hk h
  refine ⟨decide_eq_true ?_, ?_⟩
  · by_cases z : i.natAbs = 0
    · rw [z]
      decide
    · have h1 : (10 : Nat) ^ k ≤ 10 ^ 12 := Nat.pow_le_pow_right (by decide) h6
      have h2 : (10 : Nat) ^ 12 < 2 ^ 40 := by decide
      have h3 : i.natAbs.log2 < 40 := (Nat.log2_lt z).mpr (by omega)
      omega
  · show (Str.ofString (toString i)).length + 2 ≤ _
    rw [PySem.ofString_length]
    omega
theorem Gd.str {x : Str} {m : Nat} (h : decide ((reprText x).length + 2 ≤ m) = true) : Gd m (.str x) := ⟨rfl, of_decide_eq_true h⟩
theorem Gd.non : Gd 6 .none := ⟨rfl, by decide +kernel⟩
theorem ops_gd {o : Str} (h : o ∈ opsL) : Gd 7 (.str o) := by
  have : opsL.all (fun o => decide ((reprText o).length + 2 ≤ 7)) = true := by decide +kernel
  exact .str (List.all_eq_true.mp this o h)
theorem un_gd {o : Str} (h : o ∈ unL) : Gd 7 (.str o) := by
  have : unL.all (fun o => decide ((reprText o).length + 2 ≤ 7)) = true := by decide +kernel
  exact .str (List.all_eq_true.mp this o h)
theorem nat_gd {n : Nat} (h : n < 1000) : Gd 6 (.int (n : Nat)) := .int 3 (by decide) (by simpa using h) (by decide)
theorem ex_gd {C : Nat} (hC : C ≤ 1000) : ∀ {x : Ex}, x.ok C → Gd x.wt x.D
  | .num i, h => (Gd.tup (.cons (.str (x := "num") (m := 7) (by decide +kernel)) (.cons (.int (i := i) 5 (by decide) (by have := h.1; have := h.2; omega) (by decide)) .nil))).mono (by show _ ≤ 20; omega)
  | .cell c, h => (Gd.tup (.cons (.str (x := "cell") (m := 8) (by decide +kernel)) (.cons (nat_gd (Nat.lt_of_lt_of_le h hC)) .nil))).mono (by show _ ≤ 20; omega)
  | .arr f z i, h => (Gd.tup (.cons (.str (x := "at") (m := 6) (by decide +kernel)) (.cons (nat_gd (n := f) (by have := h.1; have := h.2.1; omega)) (.cons (nat_gd (n := z) (by have := h.2.2.1; omega)) (.cons (ex_gd hC h.2.2.2) .nil))))).mono (by show _ ≤ 40 + i.wt; omega)
  | .un o e, h => (Gd.tup (.cons (un_gd h.1) (.cons (ex_gd hC h.2) .nil))).mono (by show _ ≤ 30 + e.wt; omega)
  | .bin o x y, h => (Gd.tup (.cons (ops_gd h.1) (.cons (ex_gd hC h.2.1) (.cons (ex_gd hC h.2.2) .nil)))).mono (by show _ ≤ 30 + x.wt + y.wt; omega)
theorem opt_gd {C : Nat} (hC : C ≤ 1000) {g : Option Ex} (h : ∀ x, g = some x → x.ok C) : Gd ((g.map Ex.wt).getD 10) (optD g) := by
  cases g with
  | none => exact Gd.non.mono (by show 6 ≤ 10; decide)
  | some x => exact ex_gd hC (h x rfl)
theorem zip_gd {l : List Sm} (h : GdA (wts l) (smDs l) ∧ ∀ s ∈ l, Gd s.wt s.D) : ∀ {ts : List Nat}, ts.length = l.length → (∀ t ∈ ts, t < 1000) → GdA (wts l) (parD ts (smDs l)) := by
  have h2 := h.2
  clear h
  induction l with
  | nil =>
    intro ts e _
    cases ts with
    | nil => exact .nil
    | cons _ _ => cases e
  | cons s r ih =>
    intro ts e ht
    cases ts with
    | nil => cases e
    | cons t ts =>
      refine (GdA.cons (.tup (.cons (nat_gd (ht t List.mem_cons_self)) (.cons (h2 s List.mem_cons_self) .nil))) (ih (fun x hx => h2 x (List.mem_cons_of_mem _ hx)) (by simpa using e) fun x hx => ht x (List.mem_cons_of_mem _ hx))).mono ?_
      show _ ≤ s.wt + 20 + wts r
      omega
theorem zap_gd {C K : Nat} (hC : C ≤ 1000) (hK : K ≤ 1000) {l : List Sm} (h2 : ∀ s ∈ l, Gd s.wt s.D) : ∀ {rs : List AR}, rs.length = l.length → (∀ r ∈ rs, r.ok C K) → GdA ((rs.map fun r : AR => (r.g.map Ex.wt).getD 10 + r.t.wt + 20).sum + wts l) (altD rs (smDs l)) := by
  induction l with
  | nil =>
    intro rs e _
    cases rs with
    | nil => exact GdA.nil
    | cons _ _ => cases e
  | cons s q ih =>
    intro rs e ht
    cases rs with
    | nil => cases e
    | cons r rs =>
      have o := ht r List.mem_cons_self
      refine (GdA.cons (.tup (.cons (opt_gd hC o.1) (.cons (nat_gd (Nat.lt_of_lt_of_le o.2.1 hK)) (.cons (ex_gd hC o.2.2.1) (.cons (h2 s List.mem_cons_self) .nil))))) (ih (fun x hx => h2 x (List.mem_cons_of_mem _ hx)) (by simpa using e) fun x hx => ht x (List.mem_cons_of_mem _ hx))).mono ?_
      rw [List.map_cons, List.sum_cons]
      show _ ≤ (_ + r.t.wt + 20 + _) + (s.wt + 20 + wts q)
      omega
theorem thr_par_t {ts : List Nat} {l : List Sm} (e : ts.length = l.length) : ∀ t ∈ ts, t ∈ (Sm.par ts l).thr := by
  intro t ht
  show t ∈ (List.zipWith (fun t r => t :: r) ts (thrs l)).flatten
  rw [List.zipWith_comm]
  obtain ⟨x, hx, h2⟩ := zip_mem (f := fun (r : List Nat) (t : Nat) => t :: r) (xs := thrs l) (ys := ts) (by rw [thrs_len, e]) ht
  exact List.mem_flatten.mpr ⟨_, h2, List.mem_cons_self⟩
theorem thrs_of {l : List Sm} {s : Sm} (h : s ∈ l) : s.thr ∈ thrs l := by
  induction l with
  | nil => cases h
  | cons x r ih =>
    rcases List.mem_cons.mp h with e | e
    · rw [e]
      exact List.mem_cons_self
    · exact List.mem_cons_of_mem _ (ih e)
theorem thr_par_s {ts : List Nat} {l : List Sm} (e : ts.length = l.length) {s : Sm} (h : s ∈ l) : ∀ t ∈ s.thr, t ∈ (Sm.par ts l).thr := by
  intro t ht
  show t ∈ (List.zipWith (fun t r => t :: r) ts (thrs l)).flatten
  obtain ⟨x, hx, h2⟩ := zip_mem (f := fun (t : Nat) (r : List Nat) => t :: r) (xs := ts) (ys := thrs l) (by rw [thrs_len, e]) (thrs_of h)
  exact List.mem_flatten.mpr ⟨_, h2, List.mem_cons_of_mem _ ht⟩
theorem thr_l {l : List Sm} {s : Sm} (h : s ∈ l) : ∀ t ∈ s.thr, t ∈ (thrs l).flatten := fun t ht => List.mem_flatten.mpr ⟨_, thrs_of h, ht⟩
mutual
theorem sm_gd {C K : Nat} (hC : C ≤ 1000) (hK : K ≤ 1000) : ∀ {s : Sm}, s.ok C K → (∀ t ∈ s.thr, t < 1000) → Gd s.wt s.D
  | .skip, _, _ => (Gd.tup (.cons (.str (x := "skip") (m := 8) (by decide +kernel)) .nil)).mono (by show _ ≤ 20; omega)
  | .stop, _, _ => (Gd.tup (.cons (.str (x := "stop") (m := 8) (by decide +kernel)) .nil)).mono (by show _ ≤ 20; omega)
  | .set t x, o, _ => (Gd.tup (.cons (.str (x := "set") (m := 7) (by decide +kernel)) (.cons (ex_gd hC o.1) (.cons (ex_gd hC o.2.2) .nil)))).mono (by show _ ≤ 20 + t.wt + x.wt; omega)
  | .take c t, o, _ => (Gd.tup (.cons (.str (x := "take") (m := 8) (by decide +kernel)) (.cons (nat_gd (Nat.lt_of_lt_of_le o.1 hK)) (.cons (ex_gd hC o.2.1) .nil)))).mono (by show _ ≤ 20 + t.wt; omega)
  | .give c x, o, _ => (Gd.tup (.cons (.str (x := "give") (m := 8) (by decide +kernel)) (.cons (nat_gd (Nat.lt_of_lt_of_le o.1 hK)) (.cons (ex_gd hC o.2) .nil)))).mono (by show _ ≤ 20 + x.wt; omega)
  | .ite x a b, o, h => (Gd.tup (.cons (.str (x := "if") (m := 6) (by decide +kernel)) (.cons (ex_gd hC o.1) (.cons (sm_gd hC hK o.2.1 fun t ht => h t (List.mem_append_left _ ht)) (.cons (sm_gd hC hK o.2.2 fun t ht => h t (List.mem_append_right _ ht)) .nil))))).mono (by show _ ≤ 20 + x.wt + a.wt + b.wt; omega)
  | .rep x m s, o, h => (Gd.tup (.cons (.str (x := "repeat") (m := 10) (by decide +kernel)) (.cons (ex_gd hC o.1) (.cons (Gd.int (i := m) 3 (by decide) (by have := o.2.1; have := o.2.2.1; omega) (by decide)) (.cons (sm_gd hC hK o.2.2.2 h) .nil))))).mono (by show _ ≤ 30 + x.wt + s.wt; omega)
  | .seq l, o, h => (Gd.tup (.cons (.str (x := "seq") (m := 7) (by decide +kernel)) (.cons (.lst (sms_gd hC hK (l := l) o fun s hs t ht => h t (thr_l hs t ht)).1) .nil))).mono (by show _ ≤ 20 + wts l; omega)
  | .par ts l, o, h => (Gd.tup (.cons (.str (x := "par") (m := 7) (by decide +kernel)) (.cons (.lst (zip_gd (sms_gd hC hK (l := l) o.2 fun s hs t ht => h t (thr_par_s o.1 hs t ht)) o.1 fun t ht => h t (thr_par_t o.1 t ht))) .nil))).mono (by show _ ≤ 20 + wts l; omega)
  | .alt rs l, o, h => (Gd.tup (.cons (.str (x := "alt") (m := 7) (by decide +kernel)) (.cons (.lst (zap_gd hC hK (sms_gd hC hK (l := l) o.2.2 fun s hs t ht => h t (thr_l hs t ht)).2 o.1 o.2.1)) .nil))).mono (by show _ ≤ 20 + _ + wts l; omega)
theorem sms_gd {C K : Nat} (hC : C ≤ 1000) (hK : K ≤ 1000) : ∀ {l : List Sm}, oks C K l → (∀ s ∈ l, ∀ t ∈ s.thr, t < 1000) → GdA (wts l) (smDs l) ∧ ∀ s ∈ l, Gd s.wt s.D
  | [], _, _ => ⟨GdA.nil, fun s h => by cases h⟩
  | s :: r, o, h => by
    have h1 := sm_gd hC hK o.1 (h s List.mem_cons_self)
    have h2 := sms_gd hC hK o.2 fun x hx => h x (List.mem_cons_of_mem _ hx)
    refine ⟨(GdA.cons h1 h2.1).mono (by show _ ≤ s.wt + 20 + wts r; omega), fun x hx => ?_⟩
    rcases List.mem_cons.mp hx with e | e
    · rw [e]
      exact h1
    · exact h2.2 x e
end
theorem chs_gd {ch : List Str} (h : ∀ x ∈ ch, x ∈ (["in", "out", "inner"] : List Str)) : GdA (9 * ch.length) (ch.map PyData.str) := by
  induction ch with
  | nil => exact GdA.nil
  | cons x r ih =>
    have e : Gd 9 (.str x) := by
      have : (["in", "out", "inner"] : List Str).all (fun o => decide ((reprText o).length + 2 ≤ 9)) = true := by decide +kernel
      exact .str (List.all_eq_true.mp this x (h x List.mem_cons_self))
    exact (GdA.cons e (ih fun y hy => h y (List.mem_cons_of_mem _ hy))).mono (by rw [List.length_cons]; omega)
section
variable {ce th : Nat} {ch : List Str} {l : List Sm}
theorem CoreOk.thr_lt (o : CoreOk ce ch l th) : ∀ t ∈ (thrs l).flatten, t < 12 := fun t ht => by
  rw [o.thr.2] at ht
  have h1 := List.mem_range'_1.mp ht
  have := o.hth
  have := o.thr.1
  omega
theorem CoreOk.body (o : CoreOk ce ch l th) : (Sm.seq l).ok ce ch.length := o.ok
theorem CoreOk.bsh (o : CoreOk ce ch l th) : Sh 60 (Sm.seq l).D := seq_sh o.sh
theorem CoreOk.chm (o : CoreOk ce ch l th) : ∀ x ∈ ch, x ∈ (["in", "out", "inner"] : List Str) := by
  obtain ⟨i, q, k, e, _⟩ := o.hch
  intro x hx
  rw [e] at hx
  rcases List.mem_append.mp hx with h | h
  · rcases List.mem_append.mp h with h | h
    · rw [List.eq_of_mem_replicate h]; decide +kernel
    · rw [List.eq_of_mem_replicate h]; decide +kernel
  · rw [List.eq_of_mem_replicate h]; decide +kernel
theorem CoreOk.gd (o : CoreOk ce ch l th) : Gd 6000000 (coreD ce ch l) := by
  have h1 := sm_gd (s := .seq l) (C := ce) (K := ch.length) (by have := o.hce; omega) (by have := o.c24; omega) o.body fun t ht => by have := o.thr_lt t ht; omega
  have w := o.wt
  have c := o.c24
  exact (Gd.tup (.cons (.str (x := "core") (m := 8) (by decide +kernel)) (.cons (nat_gd (n := ce) (by have := o.hce; omega)) (.cons (.lst (chs_gd o.chm)) (.cons h1 .nil))))).mono (by show 8 + (6 + ((9 * ch.length + 5) + ((20 + wts l) + 0))) + 5 ≤ _; omega)
theorem CoreOk.csh (o : CoreOk ce ch l th) : Sh 61 (coreD ce ch l) := by
  refine .tup (n := 60) (.cons (.str (by decide +kernel)) (.cons .int (.cons ?_ (.cons o.bsh .nil))))
  refine .lst (n := 59) (.all fun d hd => ?_)
  obtain ⟨x, hx, rfl⟩ := List.mem_map.mp hd
  have : (["in", "out", "inner"] : List Str).all (fun o => PyData.canLay0 (.str o)) = true := by decide +kernel
  exact .str (List.all_eq_true.mp this x (o.chm x hx))
theorem CoreOk.bdp (o : CoreOk ce ch l th) : (Sm.seq l).dp ≤ 60 := dp_le o.body o.bsh
end

set_option Elab.async false
set_option linter.all false
set_option maxRecDepth 100000
set_option maxHeartbeats 4000000
open PySem PySem.Spec PyProof.Rows L2 Lb


structure SW (C K : Nat) (s : Sm) : Prop where
  ok : s.ok C K
  wt : s.wt ≤ 6000000
  sh : Sh 60 s.D
  th : s.thr.length ≤ 100
theorem wts_of : ∀ {l : List Sm} {s : Sm}, s ∈ l → s.wt + 20 ≤ wts l
  | x :: r, s, h => by
    show _ ≤ x.wt + 20 + wts r
    rcases List.mem_cons.mp h with e | e
    · rw [e]; omega
    · have := wts_of e; omega
theorem wts_len : ∀ {l : List Sm}, 20 * l.length ≤ wts l
  | [] => Nat.le_refl _
  | x :: r => by
    have := wts_len (l := r)
    show 20 * (r.length + 1) ≤ x.wt + 20 + wts r
    omega
theorem flat_len {l : List (List Nat)} {x : List Nat} (h : x ∈ l) : x.length ≤ l.flatten.length := by
  induction l with
  | nil => cases h
  | cons y r ih =>
    rw [List.flatten_cons, List.length_append]
    rcases List.mem_cons.mp h with e | e
    · rw [e]; omega
    · have := ih e; omega
theorem wt_inner {s x : Sm} (h : x ∈ s.inner) : x.wt ≤ s.wt := by
  cases s with
  | ite e a b =>
    show _ ≤ 20 + e.wt + a.wt + b.wt
    rcases List.mem_cons.mp (show x ∈ [a, b] from h) with q | q
    · rw [q]; omega
    · rw [List.mem_singleton.mp q]; omega
  | rep e m s =>
    show _ ≤ 30 + e.wt + s.wt
    rw [List.mem_singleton.mp (show x ∈ [s] from h)]
    omega
  | seq l =>
    show _ ≤ 20 + wts l
    have := wts_of (show x ∈ l from h)
    omega
  | par ts l =>
    show _ ≤ 20 + wts l
    have := wts_of (show x ∈ l from h)
    omega
  | alt rs l =>
    show _ ≤ 20 + _ + wts l
    have := wts_of (show x ∈ l from h)
    omega
  | skip => cases (show x ∈ [] from h)
  | stop => cases (show x ∈ [] from h)
  | set t e => cases (show x ∈ [] from h)
  | take c t => cases (show x ∈ [] from h)
  | give c e => cases (show x ∈ [] from h)
theorem thr_inner {s x : Sm} {C K : Nat} (o : s.ok C K) (h : x ∈ s.inner) : x.thr.length ≤ s.thr.length := by
  cases s with
  | ite e a b =>
    show _ ≤ (a.thr ++ b.thr).length
    rw [List.length_append]
    rcases List.mem_cons.mp (show x ∈ [a, b] from h) with q | q
    · rw [q]; omega
    · rw [List.mem_singleton.mp q]; omega
  | rep e m s =>
    rw [List.mem_singleton.mp (show x ∈ [s] from h)]
    exact Nat.le_refl _
  | seq l => exact flat_len (thrs_of (show x ∈ l from h))
  | par ts l =>
    obtain ⟨t, _, ht⟩ := zip_mem (f := fun (t : Nat) (r : List Nat) => t :: r) (xs := ts) (ys := thrs l) (by rw [thrs_len, o.1]) (thrs_of (show x ∈ l from h))
    have := flat_len ht
    rw [List.length_cons] at this
    show _ ≤ (List.zipWith (fun t r => t :: r) ts (thrs l)).flatten.length
    omega
  | alt rs l => exact flat_len (thrs_of (show x ∈ l from h))
  | skip => cases (show x ∈ [] from h)
  | stop => cases (show x ∈ [] from h)
  | set t e => cases (show x ∈ [] from h)
  | take c t => cases (show x ∈ [] from h)
  | give c e => cases (show x ∈ [] from h)
theorem SW.inner {C K : Nat} {s x : Sm} (w : SW C K s) (h : x ∈ s.inner) : SW C K x := ⟨ok_inner w.ok h, Nat.le_trans (wt_inner h) w.wt, (sh_inner w.ok w.sh h).mono (by omega), Nat.le_trans (thr_inner w.ok h) w.th⟩
theorem len_inner {s : Sm} : 20 * s.inner.length ≤ s.wt + 40 := by
  cases s with
  | ite e a b => show 20 * 2 ≤ _; omega
  | rep e m s => show 20 * 1 ≤ _; omega
  | seq l =>
    have := wts_len (l := l)
    show 20 * l.length ≤ 20 + wts l + 40
    omega
  | par ts l =>
    have := wts_len (l := l)
    show 20 * l.length ≤ 20 + wts l + 40
    omega
  | alt rs l =>
    have := wts_len (l := l)
    show 20 * l.length ≤ 20 + _ + wts l + 40
    omega
  | skip => exact Nat.zero_le _
  | stop => exact Nat.zero_le _
  | set t e => exact Nat.zero_le _
  | take c t => exact Nat.zero_le _
  | give c e => exact Nat.zero_le _
theorem CoreOk.sw {ce th : Nat} {ch : List Str} {l : List Sm} (o : CoreOk ce ch l th) : SW ce ch.length (.seq l) := ⟨o.body, by show 20 + wts l ≤ _; have := o.wt; omega, o.bsh, by
  show (thrs l).flatten.length ≤ 100
  rw [o.thr.2, List.length_range']
  have := o.hth
  omega⟩
/-! ### the branches -/
structure Br where
  t : Nat
  p : Nat
  s : Sm
mutual
def Sm.br (p : Nat) : Sm → List Br
  | .ite _ a b => a.br p ++ b.br p
  | .rep _ _ s => s.br p
  | .seq l => brs p l
  | .alt _ l => brs p l
  | .par ts l => brp p ts l
  | _ => []
def brs (p : Nat) : List Sm → List Br
  | [] => []
  | s :: r => s.br p ++ brs p r
def brp (p : Nat) (ts : List Nat) : List Sm → List Br
  | [] => []
  | s :: r => ⟨ts.headD 0, p, s⟩ :: (s.br (ts.headD 0) ++ brp p ts.tail r)
end
theorem brs_app {p : Nat} : ∀ {l m : List Sm}, brs p (l ++ m) = brs p l ++ brs p m
  | [], _ => rfl
  | s :: r, m => by show s.br p ++ brs p (r ++ m) = _; rw [brs_app, ← List.append_assoc]; rfl
theorem brp_snoc {p : Nat} : ∀ {l : List Sm} {ts : List Nat} {t : Nat} {s : Sm}, ts.length = l.length → brp p (ts ++ [t]) (l ++ [s]) = brp p ts l ++ ⟨t, p, s⟩ :: s.br t
  | [], [], t, s, _ => by show ⟨t, p, s⟩ :: (s.br t ++ []) = _; rw [List.append_nil]; rfl
  | x :: r, y :: ts, t, s, h => by
    show ⟨y, p, x⟩ :: (x.br y ++ brp p (ts ++ [t]) (r ++ [s])) = ⟨y, p, x⟩ :: (x.br y ++ brp p ts r) ++ _
    rw [brp_snoc (by simpa using h), List.cons_append, List.append_assoc]
  | [], _ :: _, _, _, h => by simp at h
  | _ :: _, [], _, _, h => by simp at h
mutual
theorem br_thr {C K p : Nat} : ∀ {s : Sm}, s.ok C K → (s.br p).map (·.t) = s.thr
  | .skip, _ => rfl
  | .stop, _ => rfl
  | .set _ _, _ => rfl
  | .take _ _, _ => rfl
  | .give _ _, _ => rfl
  | .ite _ a b, o => by
    show (a.br p ++ b.br p).map (·.t) = a.thr ++ b.thr
    rw [List.map_append, br_thr o.2.1, br_thr o.2.2]
  | .rep _ _ s, o => br_thr (s := s) o.2.2.2
  | .seq l, o => brs_thr (l := l) o
  | .alt _ l, o => brs_thr (l := l) o.2.2
  | .par ts l, o => brp_thr (l := l) o.2 o.1
theorem brs_thr {C K p : Nat} : ∀ {l : List Sm}, oks C K l → (brs p l).map (·.t) = (thrs l).flatten
  | [], _ => rfl
  | s :: r, o => by
    show (s.br p ++ brs p r).map (·.t) = (s.thr :: thrs r).flatten
    rw [List.map_append, br_thr o.1, brs_thr o.2, List.flatten_cons]
theorem brp_thr {C K p : Nat} : ∀ {l : List Sm} {ts : List Nat}, oks C K l → ts.length = l.length → (brp p ts l).map (·.t) = (List.zipWith (fun t r => t :: r) ts (thrs l)).flatten
  | [], [], _, _ => rfl
  | s :: r, t :: ts, o, h => by
    show t :: (s.br t ++ brp p ts r).map (·.t) = ((t :: s.thr) :: List.zipWith (fun t r => t :: r) ts (thrs r)).flatten
    rw [List.map_append, br_thr o.1, brp_thr o.2 (by simpa using h), List.flatten_cons]
    rfl
  | [], _ :: _, _, h => by simp at h
  | _ :: _, [], _, h => by simp at h
end
theorem br_len {C K p : Nat} {s : Sm} (o : s.ok C K) : (s.br p).length = s.thr.length := by rw [← br_thr (p := p) o, List.length_map]
/-- not a par -/
def Sm.isPar : Sm → Bool
  | .par _ _ => true
  | _ => false
theorem br_inner {p : Nat} {s : Sm} (h : s.isPar = false) : s.br p = brs p s.inner := by
  cases s with
  | ite e a b => show a.br p ++ b.br p = a.br p ++ (b.br p ++ []); rw [List.append_nil]
  | rep e m s => show s.br p = s.br p ++ []; rw [List.append_nil]
  | par ts l => cases h
  | _ => rfl
theorem thr_flat {s : Sm} (h : s.isPar = false) : s.thr = (thrs s.inner).flatten := by
  cases s with
  | ite e a b => show a.thr ++ b.thr = a.thr ++ (b.thr ++ []); rw [List.append_nil]
  | rep e m s => show s.thr = s.thr ++ []; rw [List.append_nil]
  | par ts l => cases h
  | _ => rfl
theorem Thr.mid {a b : Nat} {p m q : List Nat} (h : Thr a b (p ++ (m ++ q))) : Thr (a + p.length) (a + p.length + m.length) m := by
  refine ⟨by omega, ?_⟩
  have e := h.2
  have hl := congrArg List.length e
  rw [List.length_append, List.length_append, List.length_range'] at hl
  rw [show a + p.length + m.length - (a + p.length) = m.length by omega]
  rw [show b - a = p.length + (m.length + q.length) by omega, ← List.range'_append_1, ← List.range'_append_1] at e
  obtain ⟨e1, e2⟩ := List.append_inj e (by rw [List.length_range'])
  exact (List.append_inj e2 (by rw [List.length_range'])).1
theorem Thr.at {a b : Nat} {p q : List Nat} {t : Nat} (h : Thr a b (p ++ (t :: q))) : t = a + p.length := by
  have h1 := Thr.mid (m := [t]) (q := q) h
  have h2 := h1.2
  rw [show a + p.length + [t].length - (a + p.length) = 1 by show _ + 1 - _ = 1; omega] at h2
  exact (List.cons.inj h2).1
def brD (b : Br) : PyData := .tuple [.int (b.t : Nat), .int (b.p : Nat), b.s.D]
def rowD2 (b : Br) : PyData := .tuple [.int (b.p : Nat), b.s.D]
mutual
theorem br_sw {C K p : Nat} : ∀ {s : Sm}, SW C K s → ∀ b ∈ s.br p, SW C K b.s
  | .skip, _, b, h => by cases (show b ∈ [] from h)
  | .stop, _, b, h => by cases (show b ∈ [] from h)
  | .set _ _, _, b, h => by cases (show b ∈ [] from h)
  | .take _ _, _, b, h => by cases (show b ∈ [] from h)
  | .give _ _, _, b, h => by cases (show b ∈ [] from h)
  | .ite e a c, w, b, h => (List.mem_append.mp (show b ∈ a.br p ++ c.br p from h)).elim (br_sw (w.inner (by show a ∈ [a, c]; simp)) b) (br_sw (w.inner (by show c ∈ [a, c]; simp)) b)
  | .rep e m s, w, b, h => br_sw (s := s) (w.inner (s := .rep e m s) (x := s) (List.mem_singleton.mpr rfl)) b h
  | .seq l, w, b, h => brs_sw (fun s hs => w.inner (s := .seq l) hs) b h
  | .alt rs l, w, b, h => brs_sw (fun s hs => w.inner (s := .alt rs l) hs) b h
  | .par ts l, w, b, h => brp_sw (fun s hs => w.inner (s := .par ts l) hs) b h
theorem brs_sw {C K p : Nat} : ∀ {l : List Sm}, (∀ s ∈ l, SW C K s) → ∀ b ∈ brs p l, SW C K b.s
  | [], _, b, h => by cases h
  | s :: r, w, b, h => (List.mem_append.mp (show b ∈ s.br p ++ brs p r from h)).elim (br_sw (w s List.mem_cons_self) b) (brs_sw (fun x hx => w x (List.mem_cons_of_mem _ hx)) b)
theorem brp_sw {C K p : Nat} : ∀ {l : List Sm} {ts : List Nat}, (∀ s ∈ l, SW C K s) → ∀ b ∈ brp p ts l, SW C K b.s
  | [], _, _, b, h => by cases h
  | s :: r, ts, w, b, h => by
    rcases List.mem_cons.mp (show b ∈ ⟨ts.headD 0, p, s⟩ :: (s.br (ts.headD 0) ++ brp p ts.tail r) from h) with e | e
    · rw [e]
      exact w s List.mem_cons_self
    · exact (List.mem_append.mp e).elim (br_sw (w s List.mem_cons_self) b) (brp_sw (fun x hx => w x (List.mem_cons_of_mem _ hx)) b)
end

set_option Elab.async false
set_option linter.all false
set_option maxRecDepth 100000
set_option maxHeartbeats 4000000
open PySem PySem.Spec PyProof.Rows L2 Lb


structure CF (A : Ad) : Prop where
  ec : EC A.K A.c_PlanError A.c_PlacedError A.i_PlanError "reason"
  h : Cls A.K A.c_Plan
  n1 : NoAttr A.K A.c_Plan "processors"
  n2 : NoAttr A.K A.c_Plan "links"
  n3 : NoAttr A.K A.c_Plan "threads"
  n4 : NoAttr A.K A.c_Plan "homes"
  n5 : NoAttr A.K A.c_Plan "hops"
/-! ### networks: mathematics and promises -/
abbrev Lk := List (Int × Int)
def adj (ps : Lk) (u v : Nat) : Prop := ((u : Int), (v : Int)) ∈ ps ∨ ((v : Int), (u : Int)) ∈ ps
instance (ps : Lk) (u v : Nat) : Decidable (adj ps u v) := by
  unfold adj
  infer_instance
theorem adj_symm {ps : Lk} {u v : Nat} (h : adj ps u v) : adj ps v u := h.elim .inr .inl
def Val (n : Nat) (ps : Lk) : Prop := ∀ p ∈ ps, 0 ≤ p.1 ∧ p.1 < p.2 ∧ p.2 < (n : Int)
theorem Val.lt {n : Nat} {ps : Lk} {u v : Nat} (V : Val n ps) (h : adj ps u v) : u < n ∧ v < n := by
  rcases h with h | h
  · have := V _ h
    simp only at this
    omega
  · have := V _ h
    simp only at this
    omega
theorem Val.nat {n : Nat} {ps : Lk} {j : Int × Int} (V : Val n ps) (h : j ∈ ps) : ∃ a b : Nat, j = ((a : Int), (b : Int)) ∧ a < b ∧ b < n ∧ adj ps a b := by
  have := V _ h
  obtain ⟨x, y⟩ := j
  simp only at this
  have ex : ((x.toNat : Nat) : Int) = x := by omega
  have ey : ((y.toNat : Nat) : Int) = y := by omega
  exact ⟨x.toNat, y.toNat, by rw [ex, ey], by omega, by omega, .inl (by rw [ex, ey]; exact h)⟩
def Wk (ps : Lk) (g : Nat) : Nat → Nat → Prop
  | 0, v => v = g
  | m + 1, v => ∃ u, Wk ps g m u ∧ adj ps u v
theorem Wk.lt {n : Nat} {ps : Lk} {g : Nat} (V : Val n ps) (hg : g < n) : ∀ {m v : Nat}, Wk ps g m v → v < n
  | 0, _, h => by rw [show _ = g from h]; exact hg
  | _ + 1, _, ⟨_, _, k⟩ => (V.lt k).2
theorem Wk.trans {ps : Lk} {g u : Nat} {m : Nat} (h : Wk ps g m u) : ∀ {k v : Nat}, Wk ps u k v → Wk ps g (m + k) v
  | 0, v, e => by rw [show v = u from e]; exact h
  | k + 1, v, ⟨w, a, b⟩ => ⟨w, Wk.trans h a, b⟩
theorem Wk.symm {ps : Lk} {g : Nat} : ∀ {m v : Nat}, Wk ps g m v → Wk ps v m g
  | 0, v, e => (show v = g from e).symm
  | m + 1, v, ⟨u, a, b⟩ => by
    have h1 : Wk ps v 1 u := ⟨v, rfl, adj_symm b⟩
    have := h1.trans (Wk.symm a)
    rw [Nat.add_comm] at this
    exact this
/-- d is the least length of a walk to v -/
def Lst (ps : Lk) (g d v : Nat) : Prop := Wk ps g d v ∧ ∀ m, Wk ps g m v → d ≤ m
theorem Lst.ex {ps : Lk} {g : Nat} : ∀ {m v : Nat}, Wk ps g m v → ∃ d, d ≤ m ∧ Lst ps g d v := by
  intro m
  induction m using Nat.strongRecOn with
  | _ m ih =>
    intro v h
    by_cases k : ∃ m', m' < m ∧ Wk ps g m' v
    · obtain ⟨m', l, w⟩ := k
      obtain ⟨d, h1, h2⟩ := ih m' l w
      exact ⟨d, by omega, h2⟩
    · refine ⟨m, Nat.le_refl _, h, fun m' w => ?_⟩
      rcases Nat.lt_or_ge m' m with q | q
      · exact absurd ⟨m', q, w⟩ k
      · exact q
theorem nodup_le : ∀ (n : Nat) (us : List Nat), us.Nodup → (∀ u ∈ us, u < n) → us.length ≤ n
  | 0, us, _, h => by
    cases us with
    | nil => exact Nat.le_refl _
    | cons x r => exact absurd (h x List.mem_cons_self) (by omega)
  | n + 1, us, nd, h => by
    by_cases hn : n ∈ us
    · have h1 := nodup_le n (us.erase n) (nd.erase _) fun u hu => by
        have h2 := (List.Nodup.mem_erase_iff nd).mp hu
        have := h u h2.2
        have := h2.1
        omega
      rw [List.length_erase_of_mem hn] at h1
      omega
    · have h1 := nodup_le n us nd fun u hu => by
        have := h u hu
        have : u ≠ n := fun e => hn (e ▸ hu)
        omega
      omega
theorem Lst.row {n : Nat} {ps : Lk} {g : Nat} (V : Val n ps) (hg : g < n) : ∀ {d v : Nat}, Lst ps g d v → ∃ us : List Nat, us.length = d + 1 ∧ us.Nodup ∧ ∀ u ∈ us, u < n ∧ ∃ j, j ≤ d ∧ Lst ps g j u
  | 0, v, h => ⟨[v], rfl, List.nodup_cons.mpr ⟨by simp, List.nodup_nil⟩, fun u hu => by
    rw [List.mem_singleton.mp hu]
    exact ⟨Wk.lt V hg h.1, 0, Nat.le_refl _, h⟩⟩
  | d + 1, v, h => by
    obtain ⟨u, a, b⟩ := h.1
    have hu : Lst ps g d u := ⟨a, fun m w => by
      have := h.2 (m + 1) ⟨u, w, b⟩
      omega⟩
    obtain ⟨us, h1, h2, h3⟩ := Lst.row V hg hu
    refine ⟨v :: us, by simp [h1], List.nodup_cons.mpr ⟨fun hv => ?_, h2⟩, fun x hx => ?_⟩
    · obtain ⟨_, j, hj, k⟩ := h3 v hv
      have := h.2 j k.1
      omega
    · rcases List.mem_cons.mp hx with e | e
      · rw [e]
        exact ⟨Wk.lt V hg h.1, d + 1, Nat.le_refl _, h⟩
      · obtain ⟨z, j, hj, k⟩ := h3 x e
        exact ⟨z, j, by omega, k⟩
theorem Lst.lt {n : Nat} {ps : Lk} {g : Nat} (V : Val n ps) (hg : g < n) {d v : Nat} (h : Lst ps g d v) : d < n := by
  obtain ⟨us, h1, h2, h3⟩ := Lst.row V hg h
  have := nodup_le n us h2 fun u hu => (h3 u hu).1
  omega
def Far (n : Nat) (ps : Lk) (g : Nat) (f : Nat → Int) : Prop := ∀ v, v < n → (∃ d : Nat, f v = d ∧ Lst ps g d v) ∨ (f v = -1 ∧ ∀ m, ¬ Wk ps g m v)
theorem Far.uniq {n : Nat} {ps : Lk} {g : Nat} {f f' : Nat → Int} (h : Far n ps g f) (h' : Far n ps g f') : ∀ v, v < n → f v = f' v := fun v hv => by
  rcases h v hv with ⟨d, e, l⟩ | ⟨e, l⟩ <;> rcases h' v hv with ⟨d', e', l'⟩ | ⟨e', l'⟩
  · have := l.2 _ l'.1
    have := l'.2 _ l.1
    omega
  · exact absurd l.1 (l' _)
  · exact absurd l'.1 (l _)
  · rw [e, e']
/-! neighbours -/
def nbs (n : Nat) (ps : Lk) (at_ : Nat) : List Nat := (List.range n).filter fun k => decide (adj ps at_ k)
theorem mem_nbs {n : Nat} {ps : Lk} {u k : Nat} (V : Val n ps) : k ∈ nbs n ps u ↔ adj ps u k := by
  unfold nbs
  rw [List.mem_filter, List.mem_range, decide_eq_true_eq]
  exact ⟨fun h => h.2, fun h => ⟨(V.lt h).2, h⟩⟩
theorem nbs_sorted (n : Nat) (ps : Lk) (u : Nat) : (nbs n ps u).Pairwise (· < ·) := List.pairwise_lt_range.filter _
theorem nbs_len (n : Nat) (ps : Lk) (u : Nat) : (nbs n ps u).length ≤ n := Nat.le_trans (List.length_filter_le _ _) (by rw [List.length_range]; exact Nat.le_refl _)
theorem sorted_ext : ∀ {xs ys : List Int}, xs.Pairwise (· < ·) → ys.Pairwise (· < ·) → (∀ j, j ∈ xs ↔ j ∈ ys) → xs = ys
  | [], [], _, _, _ => rfl
  | [], y :: r, _, _, h => absurd ((h y).mpr List.mem_cons_self) (by simp)
  | x :: r, [], _, _, h => absurd ((h x).mp List.mem_cons_self) (by simp)
  | x :: r, y :: t, hx, hy, h => by
    have hx' := List.pairwise_cons.mp hx
    have hy' := List.pairwise_cons.mp hy
    have e : x = y := by
      rcases List.mem_cons.mp ((h x).mp List.mem_cons_self) with e | e
      · exact e
      · rcases List.mem_cons.mp ((h y).mpr List.mem_cons_self) with e2 | e2
        · exact e2.symm
        · have := hy'.1 x e
          have := hx'.1 y e2
          omega
    subst e
    rw [sorted_ext hx'.2 hy'.2 fun j => ?_]
    constructor
    · intro hj
      rcases List.mem_cons.mp ((h j).mp (List.mem_cons_of_mem _ hj)) with e | e
      · have := hx'.1 j hj
        omega
      · exact e
    · intro hj
      rcases List.mem_cons.mp ((h j).mpr (List.mem_cons_of_mem _ hj)) with e | e
      · have := hy'.1 j hj
        omega
      · exact e
def fnd (ps : Lk) (u : Nat) : List Int := ((ps.filter fun j => decide (j.1 = (u : Int))).map (·.2)) ++ ((ps.filter fun j => decide (j.2 = (u : Int))).map (·.1))
theorem mem_fnd {n : Nat} {ps : Lk} {u : Nat} {x : Int} (V : Val n ps) : x ∈ fnd ps u ↔ ∃ k : Nat, x = k ∧ adj ps u k := by
  unfold fnd
  rw [List.mem_append, List.mem_map, List.mem_map]
  constructor
  · rintro (⟨j, hj, rfl⟩ | ⟨j, hj, rfl⟩)
    · obtain ⟨h1, h2⟩ := List.mem_filter.mp hj
      obtain ⟨a, b, rfl, _, _, h⟩ := V.nat h1
      have e : (a : Int) = (u : Int) := of_decide_eq_true h2
      have e : a = u := by omega
      exact ⟨b, rfl, e ▸ h⟩
    · obtain ⟨h1, h2⟩ := List.mem_filter.mp hj
      obtain ⟨a, b, rfl, _, _, h⟩ := V.nat h1
      have e : (b : Int) = (u : Int) := of_decide_eq_true h2
      have e : b = u := by omega
      exact ⟨a, rfl, e ▸ adj_symm h⟩
  · rintro ⟨k, rfl, h | h⟩
    · exact .inl ⟨_, List.mem_filter.mpr ⟨h, decide_eq_true rfl⟩, rfl⟩
    · exact .inr ⟨_, List.mem_filter.mpr ⟨h, decide_eq_true rfl⟩, rfl⟩
theorem fnd_len (ps : Lk) (u : Nat) : (fnd ps u).length ≤ 2 * ps.length := by
  unfold fnd
  rw [List.length_append, List.length_map, List.length_map]
  have h1 := List.length_filter_le (fun j : Int × Int => decide (j.1 = (u : Int))) ps
  have h2 := List.length_filter_le (fun j : Int × Int => decide (j.2 = (u : Int))) ps
  omega
def nInts (l : List Nat) : List Int := l.map fun (k : Nat) => (k : Int)
theorem sorted_nbs {n : Nat} {ps : Lk} {u : Nat} (V : Val n ps) {ns : List Int} (h : ns.Pairwise (· < ·)) (k : ∀ j, j ∈ ns ↔ j ∈ fnd ps u) : ns = nInts (nbs n ps u) := by
  refine sorted_ext h ?_ fun j => ?_
  · unfold nInts
    rw [List.pairwise_map]
    exact (nbs_sorted n ps u).imp fun h => by omega
  · rw [k, mem_fnd V]
    unfold nInts
    rw [List.mem_map]
    constructor
    · rintro ⟨x, rfl, h⟩
      exact ⟨x, (mem_nbs V).mpr h, rfl⟩
    · rintro ⟨x, h, rfl⟩
      exact ⟨x, rfl, (mem_nbs V).mp h⟩
/-! rows of nInts by a function -/
def fl (n : Nat) (f : Nat → Int) : List V := (List.range n).map fun v => V.int (f v)
theorem fl_len {n : Nat} {f : Nat → Int} : (fl n f).length = n := by unfold fl; rw [List.length_map, List.length_range]
theorem fl_get {n : Nat} {f : Nat → Int} {v : Nat} (h : v < n) : (fl n f)[v]? = some (.int (f v)) := by
  unfold fl
  rw [List.getElem?_map, List.getElem?_range h]
  rfl
theorem fl_at {n : Nat} {f : Nat → Int} {v : Nat} (h : v < n) : atI (fl n f) (v : Nat) = some (.int (f v)) := atI_nat (fl_get h)
def put (f : Nat → Int) (a : Nat) (z : Int) : Nat → Int := fun v => if v = a then z else f v
theorem fl_set {n : Nat} {f : Nat → Int} {a : Nat} {z : Int} (h : a < n) : (fl n f).set a (.int z) = fl n (put f a z) := by
  apply List.ext_getElem?
  intro i
  rcases Nat.lt_or_ge i n with q | q
  · rw [fl_get q]
    by_cases e : i = a
    · subst e
      rw [List.getElem?_set_self (by rw [fl_len]; exact h)]
      simp [put]
    · rw [List.getElem?_set_ne (fun k => e k.symm), fl_get q]
      simp [put, e]
  · rw [List.getElem?_eq_none (by rw [List.length_set, fl_len]; exact q), List.getElem?_eq_none (by rw [fl_len]; exact q)]
theorem fl_congr {n : Nat} {f g : Nat → Int} (h : ∀ v, v < n → f v = g v) : fl n f = fl n g := by
  unfold fl
  exact List.map_congr_left fun v hv => by rw [h v (List.mem_range.mp hv)]
theorem fl_ints {n : Nat} {f : Nat → Int} : fl n f = ((List.range n).map f).map V.int := by
  unfold fl
  rw [List.map_map]
  rfl
theorem fl_const {n : Nat} {z : Int} : List.replicate n (V.int z) = fl n fun _ => z := by
  unfold fl
  rw [List.map_const', List.length_range]
theorem ix_nat {n v : Nat} {xs : List V} (h : v < n) (hl : xs.length = n) : ixN xs.length (v : Nat) = some v := by
  rw [hl]
  have h1 : (0 : Int) ≤ (v : Nat) ∧ ((v : Nat) : Int) < n := by omega
  simp [ixN, h1]
/-! breadth first -/
structure Bfs (n : Nat) (ps : Lk) (g : Nat) (f : Nat → Int) (row : List Nat) (k : Nat) : Prop where
  mem : ∀ v ∈ row, v < n
  nd : row.Nodup
  iff : ∀ v, v < n → (v ∈ row ↔ 0 ≤ f v)
  neg : ∀ v, v < n → v ∉ row → f v = -1
  wk : ∀ v ∈ row, ∃ d : Nat, f v = d ∧ Wk ps g d v
  g0 : g ∈ row ∧ f g = 0
  mono : row.Pairwise fun x y => f x ≤ f y
  span : ∀ j x, k ≤ j → row[j]? = some x → ∀ y ∈ row, f y ≤ f x + 1
  done : ∀ j x, j < k → row[j]? = some x → ∀ u, adj ps x u → 0 ≤ f u ∧ f u ≤ f x + 1
theorem Bfs.start {n : Nat} {ps : Lk} {g : Nat} (hg : g < n) : Bfs n ps g (put (fun _ => -1) g 0) [g] 0 where
  mem := fun v hv => by rw [List.mem_singleton.mp hv]; exact hg
  nd := List.nodup_cons.mpr ⟨by simp, List.nodup_nil⟩
  iff := fun v _ => by
    unfold put
    by_cases e : v = g <;> simp [e]
  neg := fun v _ h => by
    unfold put
    rw [if_neg (fun e => h (by rw [e]; exact List.mem_singleton_self _))]
  wk := fun v hv => by
    have e := List.mem_singleton.mp hv
    subst e
    exact ⟨0, by simp [put], rfl⟩
  g0 := ⟨List.mem_singleton_self _, by simp [put]⟩
  mono := List.pairwise_singleton _ _
  span := fun j x _ hj y hy => by
    have h1 := List.mem_singleton.mp (List.mem_of_getElem? hj)
    have h2 := List.mem_singleton.mp hy
    subst h1 h2
    omega
  done := fun j x h => by omega
theorem Bfs.len {n : Nat} {ps : Lk} {g k : Nat} {f : Nat → Int} {row : List Nat} (S : Bfs n ps g f row k) : row.length ≤ n := nodup_le n row S.nd S.mem
/-- a neighbour that is new -/
theorem Bfs.add {n : Nat} {ps : Lk} {g k : Nat} {f : Nat → Int} {row : List Nat} (S : Bfs n ps g f row k) {u o : Nat} (hu : row[k]? = some u) (ho : o < n) (a : adj ps u o) (h : f o < 0) : Bfs n ps g (put f o (f u + 1)) (row ++ [o]) k := by
  have no : o ∉ row := fun z => by
    have := (S.iff o ho).mp z
    omega
  have um : u ∈ row := List.mem_of_getElem? hu
  have u0 := (S.iff u (S.mem u um)).mp um
  have pr : ∀ v ∈ row, put f o (f u + 1) v = f v := fun v hv => by
    unfold put
    rw [if_neg (fun e : v = o => no (by rw [← e]; exact hv))]
  have po : put f o (f u + 1) o = f u + 1 := by simp [put]
  have kl : k < row.length := (List.getElem?_eq_some_iff.mp hu).1
  refine ⟨fun v hv => ?_, ?_, fun v hv => ?_, fun v hv nv => ?_, fun v hv => ?_, ⟨?_, ?_⟩, ?_, fun j x hj hx y hy => ?_, fun j x hj hx w aw => ?_⟩
  · rcases List.mem_append.mp hv with q | q
    · exact S.mem v q
    · rw [List.mem_singleton.mp q]; exact ho
  · rw [List.nodup_append]
    exact ⟨S.nd, List.nodup_cons.mpr ⟨by simp, List.nodup_nil⟩, fun x hx y hy => fun e => no (by rw [← List.mem_singleton.mp hy, ← e]; exact hx)⟩
  · rw [List.mem_append, List.mem_singleton]
    by_cases e : v = o
    · subst e
      rw [po]
      exact ⟨fun _ => by omega, fun _ => .inr rfl⟩
    · unfold put
      rw [if_neg e, ← S.iff v hv]
      exact ⟨fun z => z.resolve_right e, .inl⟩
  · have n1 : v ∉ row := fun z => nv (List.mem_append.mpr (.inl z))
    have n2 : v ≠ o := fun e => nv (List.mem_append.mpr (.inr (List.mem_singleton.mpr e)))
    unfold put
    rw [if_neg n2]
    exact S.neg v hv n1
  · rcases List.mem_append.mp hv with q | q
    · rw [pr v q]
      exact S.wk v q
    · have e := List.mem_singleton.mp q
      subst e
      obtain ⟨d, e, w⟩ := S.wk u um
      exact ⟨d + 1, by rw [po, e]; omega, u, w, a⟩
  · exact List.mem_append.mpr (.inl S.g0.1)
  · rw [pr _ S.g0.1]
    exact S.g0.2
  · rw [List.pairwise_append]
    refine ⟨S.mono.imp_of_mem fun hx hy h => by rw [pr _ hx, pr _ hy]; exact h, List.pairwise_singleton _ _, fun x hx y hy => ?_⟩
    rw [List.mem_singleton.mp hy, po, pr x hx]
    exact S.span k u (Nat.le_refl _) hu x hx
  · have ux : f u ≤ put f o (f u + 1) x := by
      rcases Nat.lt_or_ge j row.length with q | q
      · rw [List.getElem?_append_left q] at hx
        rw [pr x (List.mem_of_getElem? hx)]
        rcases Nat.eq_or_lt_of_le hj with e | e
        · subst e
          rw [hu] at hx
          cases hx
          exact Int.le_refl _
        · have := List.pairwise_iff_getElem.mp S.mono k j kl q e
          rw [List.getElem?_eq_getElem kl] at hu
          rw [List.getElem?_eq_getElem q] at hx
          cases hu
          cases hx
          exact this
      · have := List.mem_of_getElem? hx
        rcases List.mem_append.mp this with z | z
        · rw [List.getElem?_append_right q] at hx
          have := List.mem_singleton.mp (List.mem_of_getElem? hx)
          rw [this, po]
          omega
        · rw [List.mem_singleton.mp z, po]
          omega
    rcases List.mem_append.mp hy with z | z
    · rw [pr y z]
      have := S.span k u (Nat.le_refl _) hu y z
      omega
    · rw [List.mem_singleton.mp z, po]
      omega
  · rw [List.getElem?_append_left (by omega)] at hx
    have xm := List.mem_of_getElem? hx
    have h9 := S.done j x hj hx w aw
    rw [pr x xm]
    by_cases e : w = o
    · subst e
      omega
    · have : put f o (f u + 1) w = f w := by
        unfold put
        rw [if_neg e]
      rw [this]
      exact h9
/-- one is done -/
theorem Bfs.next {n : Nat} {ps : Lk} {g k : Nat} {f : Nat → Int} {row : List Nat} (S : Bfs n ps g f row k) {u : Nat} (hu : row[k]? = some u) (h : ∀ w, adj ps u w → 0 ≤ f w ∧ f w ≤ f u + 1) : Bfs n ps g f row (k + 1) :=
  { S with
    span := fun j x hj hx y hy => S.span j x (by omega) hx y hy
    done := fun j x hj hx w aw => by
      rcases Nat.lt_or_ge j k with q | q
      · exact S.done j x q hx w aw
      · have e : j = k := by omega
        subst e
        rw [hu] at hx
        cases hx
        exact h w aw }
theorem Bfs.far {n : Nat} {ps : Lk} {g k : Nat} {f : Nat → Int} {row : List Nat} (S : Bfs n ps g f row k) (V : Val n ps) (hk : row.length ≤ k) : Far n ps g f := by
  have all : ∀ x ∈ row, ∀ u, adj ps x u → 0 ≤ f u ∧ f u ≤ f x + 1 := fun x hx u a => by
    obtain ⟨j, hj⟩ := List.mem_iff_getElem?.mp hx
    have := (List.getElem?_eq_some_iff.mp hj).1
    exact S.done j x (by omega) hj u a
  have reach : ∀ m v, Wk ps g m v → v ∈ row ∧ f v ≤ m := by
    intro m
    induction m with
    | zero =>
      intro v e
      rw [show v = g from e]
      exact ⟨S.g0.1, by rw [S.g0.2]; exact Int.le_refl _⟩
    | succ m ih =>
      rintro v ⟨u, w, a⟩
      obtain ⟨h1, h2⟩ := ih u w
      have h3 := all u h1 v a
      exact ⟨(S.iff v (V.lt a).2).mpr h3.1, by omega⟩
  intro v hv
  by_cases h : v ∈ row
  · obtain ⟨d, e, w⟩ := S.wk v h
    exact .inl ⟨d, e, w, fun m z => by
      have := (reach m v z).2
      omega⟩
  · exact .inr ⟨S.neg v hv h, fun m z => h (reach m v z).1⟩
/-! relaxing -/
def mn (i j : Int) : Int := if j < i then j else i
theorem mn_le {i j : Int} : mn i j ≤ i ∧ mn i j ≤ j ∧ (mn i j = i ∨ mn i j = j) := by
  unfold mn
  split <;> omega
def rlx (f : Nat → Int) (a b : Nat) : Nat → Int := put (put f a (mn (f a) (f b + 1))) b (mn (put f a (mn (f a) (f b + 1)) b) (put f a (mn (f a) (f b + 1)) a + 1))
def Snd (n : Nat) (ps : Lk) (g : Nat) (f : Nat → Int) : Prop := ∀ v, v < n → 0 ≤ f v ∧ f v ≤ 99 ∧ (f v = 99 ∨ ∃ d : Nat, f v = d ∧ Wk ps g d v)
theorem Snd.put {n : Nat} {ps : Lk} {g : Nat} {f : Nat → Int} (S : Snd n ps g f) {a b : Nat} (ha : a < n) (hb : b < n) (h : adj ps b a) : Snd n ps g (K41.put f a (mn (f a) (f b + 1))) := fun v hv => by
  unfold K41.put
  by_cases e : v = a
  · rw [if_pos e]
    subst e
    obtain ⟨a1, a2, a3⟩ := S v hv
    obtain ⟨b1, b2, b3⟩ := S b hb
    obtain ⟨m1, m2, m3⟩ := mn_le (i := f v) (j := f b + 1)
    refine ⟨by omega, by omega, ?_⟩
    rcases m3 with m3 | m3
    · rw [m3]
      exact a3
    · rcases b3 with b3 | ⟨d, b3, w⟩
      · left
        omega
      · right
        exact ⟨d + 1, by omega, b, w, h⟩
  · rw [if_neg e]
    exact S v hv
theorem rlx_le {f : Nat → Int} {a b : Nat} (h : a ≠ b) : (∀ v, rlx f a b v ≤ f v) ∧ rlx f a b a ≤ f b + 1 ∧ rlx f a b b ≤ f a + 1 := by
  have h' : ¬ b = a := fun e => h e.symm
  have m1 := mn_le (i := f a) (j := f b + 1)
  have m2 := mn_le (i := f b) (j := mn (f a) (f b + 1) + 1)
  refine ⟨fun v => ?_, ?_, ?_⟩
  · unfold rlx put
    by_cases e1 : v = b
    · simp [e1, h']
      omega
    · by_cases e2 : v = a
      · simp [e2, h]
        omega
      · simp [e1, e2]
  · unfold rlx put
    simp [h]
    omega
  · unfold rlx put
    simp [h']
    omega
/-- a round -/
structure Rnd (n : Nat) (ps : Lk) (g : Nat) (f0 f : Nat → Int) (i : Nat) : Prop where
  snd : Snd n ps g f
  le : ∀ v, f v ≤ f0 v
  at_ : ∀ j (a b : Nat), j < i → ps[j]? = some ((a : Int), (b : Int)) → f a ≤ f0 b + 1 ∧ f b ≤ f0 a + 1
theorem Rnd.step {n : Nat} {ps : Lk} {g i : Nat} {f0 f : Nat → Int} (R : Rnd n ps g f0 f i) (V : Val n ps) {a b : Nat} (h : ps[i]? = some ((a : Int), (b : Int))) : Rnd n ps g f0 (rlx f a b) (i + 1) := by
  have hm := List.mem_of_getElem? h
  have hv := V _ hm
  simp only at hv
  have ad : adj ps a b := .inl hm
  have ne : a ≠ b := by omega
  obtain ⟨l1, l2, l3⟩ := rlx_le (f := f) ne
  refine ⟨(R.snd.put (by omega) (by omega) (adj_symm ad)).put (by omega) (by omega) ad, fun v => Int.le_trans (l1 v) (R.le v), fun j x y hj hx => ?_⟩
  rcases Nat.lt_or_ge j i with q | q
  · have := R.at_ j x y q hx
    have := l1 x
    have := l1 y
    omega
  · have e : j = i := by omega
    subst e
    rw [h] at hx
    have e := Option.some.inj hx
    injection e with e1 e2
    have e1 : a = x := by omega
    have e2 : b = y := by omega
    subst e1 e2
    have := R.le a
    have := R.le b
    omega
structure Rel (n : Nat) (ps : Lk) (g : Nat) (f : Nat → Int) (r : Nat) : Prop where
  snd : Snd n ps g f
  low : ∀ m v, m ≤ r → Wk ps g m v → f v ≤ m
theorem Rel.start {n : Nat} {ps : Lk} {g : Nat} : Rel n ps g (fun v => if v = g then 0 else 99) 0 where
  snd := fun v _ => by
    by_cases e : v = g
    · simp only [e, if_true]
      exact ⟨by omega, by omega, .inr ⟨0, rfl, rfl⟩⟩
    · simp only [e, if_false]
      exact ⟨by omega, by omega, .inl trivial⟩
  low := fun m v hm h => by
    have e : m = 0 := by omega
    subst e
    rw [show v = g from h]
    simp
theorem Rel.next {n : Nat} {ps : Lk} {g r : Nat} {f0 f : Nat → Int} (S : Rel n ps g f0 r) (V : Val n ps) (R : Rnd n ps g f0 f ps.length) : Rel n ps g f (r + 1) := by
  refine ⟨R.snd, fun m v hm h => ?_⟩
  rcases Nat.lt_or_ge r m with q | q
  · obtain ⟨m, rfl⟩ : ∃ k, m = k + 1 := ⟨m - 1, by omega⟩
    obtain ⟨u, w, a⟩ := h
    have h1 := S.low m u (by omega) w
    rcases a with a | a
    · obtain ⟨j, hj⟩ := List.mem_iff_getElem?.mp a
      have := R.at_ j u v (List.getElem?_eq_some_iff.mp hj).1 hj
      omega
    · obtain ⟨j, hj⟩ := List.mem_iff_getElem?.mp a
      have := R.at_ j v u (List.getElem?_eq_some_iff.mp hj).1 hj
      omega
  · exact Int.le_trans (R.le v) (S.low m v q h)
theorem Rel.far {n : Nat} {ps : Lk} {g : Nat} {f : Nat → Int} (S : Rel n ps g f n) (V : Val n ps) (hg : g < n) (hn : n ≤ 6) : Far n ps g fun v => if 99 ≤ f v then -1 else f v := fun v hv => by
  have low : ∀ m, Wk ps g m v → f v ≤ m ∧ f v < 6 := fun m w => by
    obtain ⟨d, hd, l⟩ := Lst.ex w
    have := l.lt V hg
    have := S.low d v (by omega) l.1
    omega
  by_cases h : 99 ≤ f v
  · refine .inr ⟨if_pos h, fun m w => ?_⟩
    have := low m w
    omega
  · rcases (S.snd v hv).2.2 with e | ⟨d, e, w⟩
    · omega
    · refine .inl ⟨d, (if_neg h).trans e, w, fun m z => ?_⟩
      have := low m z
      omega
/-! hops -/
def hop (n : Nat) (ps : Lk) (f : Nat → Int) (i g : Nat) : Nat := if i = g then i else ((nbs n ps i).find? fun o => decide (f o = f i - 1)).getD i
def pick (c : Nat → Bool) (acc : Nat) (o : Nat) : Nat := if c o = true then o else acc
theorem pick_find (c : Nat → Bool) (z : Nat) : ∀ l : List Nat, l.reverse.foldl (pick c) z = (l.find? c).getD z
  | [] => rfl
  | x :: r => by
    rw [List.reverse_cons, List.foldl_append, pick_find c z r, List.find?_cons]
    show pick c _ x = _
    unfold pick
    cases c x <;> rfl
def Conn (n : Nat) (ps : Lk) : Prop := ∀ v, v < n → ∃ m, Wk ps 0 m v
theorem Conn.all {n : Nat} {ps : Lk} (C : Conn n ps) {g v : Nat} (hg : g < n) (hv : v < n) : ∃ m, Wk ps g m v := by
  obtain ⟨m, h⟩ := C g hg
  obtain ⟨k, h2⟩ := C v hv
  exact ⟨_, h.symm.trans h2⟩
theorem Conn.far {n : Nat} {ps : Lk} (C : Conn n ps) {g : Nat} {f : Nat → Int} (F : Far n ps g f) (hg : g < n) {v : Nat} (hv : v < n) : ∃ d : Nat, f v = d ∧ Lst ps g d v := by
  rcases F v hv with h | ⟨_, h⟩
  · exact h
  · obtain ⟨m, w⟩ := C.all hg hv
    exact absurd w (h m)
/-- nearer neighbours -/
theorem near_iff {n : Nat} {ps : Lk} {g : Nat} {f : Nat → Int} (V : Val n ps) (C : Conn n ps) (F : Far n ps g f) (hg : g < n) {u o : Nat} (a : adj ps u o) : f o < f u ↔ f o = f u - 1 := by
  obtain ⟨d, e, l⟩ := C.far F hg (V.lt a).1
  obtain ⟨d', e', l'⟩ := C.far F hg (V.lt a).2
  have := l.2 (d' + 1) ⟨o, l'.1, adj_symm a⟩
  omega
theorem near_ex {n : Nat} {ps : Lk} {g : Nat} {f : Nat → Int} (V : Val n ps) (C : Conn n ps) (F : Far n ps g f) (hg : g < n) {u : Nat} (hu : u < n) (ne : u ≠ g) : ∃ o, adj ps u o ∧ f o < f u := by
  obtain ⟨d, e, l⟩ := C.far F hg hu
  cases d with
  | zero => exact absurd (show u = g from l.1) ne
  | succ d =>
    obtain ⟨o, w, a⟩ := l.1
    obtain ⟨d', e', l'⟩ := C.far F hg (V.lt a).1
    have := l'.2 d w
    exact ⟨o, adj_symm a, by omega⟩
def nearL (ps : Lk) (f : Nat → Int) (u : Nat) : List Int := ((ps.filter fun j => decide (j.1 = (u : Int)) && decide (f j.2.toNat < f u)).map (·.2)) ++ ((ps.filter fun j => decide (j.2 = (u : Int)) && decide (f j.1.toNat < f u)).map (·.1))
theorem mem_near {n : Nat} {ps : Lk} {f : Nat → Int} {u : Nat} {x : Int} (V : Val n ps) : x ∈ nearL ps f u ↔ ∃ k : Nat, x = k ∧ adj ps u k ∧ f k < f u := by
  unfold nearL
  rw [List.mem_append, List.mem_map, List.mem_map]
  constructor
  · rintro (⟨j, hj, rfl⟩ | ⟨j, hj, rfl⟩)
    · obtain ⟨h1, h2⟩ := List.mem_filter.mp hj
      obtain ⟨a, b, rfl, _, _, h⟩ := V.nat h1
      simp only [Bool.and_eq_true, decide_eq_true_eq, Int.toNat_natCast] at h2
      have e : a = u := by omega
      exact ⟨b, rfl, e ▸ h, h2.2⟩
    · obtain ⟨h1, h2⟩ := List.mem_filter.mp hj
      obtain ⟨a, b, rfl, _, _, h⟩ := V.nat h1
      simp only [Bool.and_eq_true, decide_eq_true_eq, Int.toNat_natCast] at h2
      have e : b = u := by omega
      exact ⟨a, rfl, e ▸ adj_symm h, h2.2⟩
  · rintro ⟨k, rfl, h | h, l⟩
    · exact .inl ⟨_, List.mem_filter.mpr ⟨h, by simp only [Bool.and_eq_true, decide_eq_true_eq, Int.toNat_natCast]; exact ⟨trivial, l⟩⟩, rfl⟩
    · exact .inr ⟨_, List.mem_filter.mpr ⟨h, by simp only [Bool.and_eq_true, decide_eq_true_eq, Int.toNat_natCast]; exact ⟨trivial, l⟩⟩, rfl⟩
theorem near_ne {n : Nat} {ps : Lk} {g : Nat} {f : Nat → Int} (V : Val n ps) (C : Conn n ps) (F : Far n ps g f) (hg : g < n) {u : Nat} (hu : u < n) (ne : u ≠ g) : 0 < (nearL ps f u).length := by
  obtain ⟨o, a, l⟩ := near_ex V C F hg hu ne
  exact List.length_pos_of_mem ((mem_near V).mpr ⟨o, rfl, a, l⟩)
theorem hop_near {n : Nat} {ps : Lk} {g : Nat} {f : Nat → Int} (V : Val n ps) (C : Conn n ps) (F : Far n ps g f) (hg : g < n) {u : Nat} (hu : u < n) (ne : u ≠ g) {m : Int} (hm : m ∈ nearL ps f u) (lo : ∀ y, y ∈ nearL ps f u → m ≤ y) : ((hop n ps f u g : Nat) : Int) = m := by
  obtain ⟨k, rfl, a, l⟩ := (mem_near V).mp hm
  unfold hop
  rw [if_neg ne]
  cases e : (nbs n ps u).find? fun o => decide (f o = f u - 1) with
  | none =>
    have := List.find?_eq_none.mp e k ((mem_nbs V).mpr a)
    rw [decide_eq_true_eq] at this
    exact absurd ((near_iff V C F hg a).mp l) this
  | some x =>
    obtain ⟨h1, as, bs, h2, h3⟩ := List.find?_eq_some_iff_append.mp e
    rw [decide_eq_true_eq] at h1
    have xa : adj ps u x := (mem_nbs V).mp (by rw [h2]; simp)
    have h4 := lo x ((mem_near V).mpr ⟨x, rfl, xa, (near_iff V C F hg xa).mpr h1⟩)
    have h5 : k ∈ nbs n ps u := (mem_nbs V).mpr a
    have srt := nbs_sorted n ps u
    rw [h2] at h5 srt
    show (x : Int) = k
    rcases List.mem_append.mp h5 with z | z
    · have := h3 k z
      rw [(near_iff V C F hg a).mp l] at this
      simp at this
    · rcases List.mem_cons.mp z with z | z
      · rw [z]
      · have := (List.pairwise_cons.mp (List.pairwise_append.mp srt).2.1).1 k z
        omega
/-! faults -/
def Bad (n : Int) (ps : Lk) (k : Nat) : Prop := ∃ j, ps[k]? = some j ∧ (j.1 < 0 ∨ n ≤ j.2 ∨ j.2 ≤ j.1 ∨ j ∈ ps.take k)
inductive Due (n : Int) (ps : Lk) : Str → Prop
  | procs (h : n < 1 ∨ 6 < n) : Due n ps "processors"
  | links (h : 1 ≤ n ∧ n ≤ 6) (k : Nat) (b : Bad n ps k) : Due n ps "links"
  | parts (h : 1 ≤ n ∧ n ≤ 6) (b : ∀ k, ¬ Bad n ps k) (c : ¬ Conn n.toNat ps) : Due n ps "parts"
  | ok (h : 1 ≤ n ∧ n ≤ 6) (b : ∀ k, ¬ Bad n ps k) (c : Conn n.toNat ps) : Due n ps ""
theorem Due.uniq {n : Int} {ps : Lk} {r r' : Str} (h : Due n ps r) (h' : Due n ps r') : r = r' := by
  cases h <;> cases h' <;> first | rfl | (exfalso; omega) | (rename_i b _ _ k b' ; first | exact absurd b' (b k) | exact absurd b' (b _)) | skip
  all_goals simp_all
theorem val_of {n : Int} {ps : Lk} (h : 1 ≤ n ∧ n ≤ 6) (b : ∀ k, ¬ Bad n ps k) : Val n.toNat ps := fun j hj => by
  obtain ⟨k, hk⟩ := List.mem_iff_getElem?.mp hj
  have h1 := fun z => b k ⟨j, hk, z⟩
  have h2 : ¬ j.1 < 0 := fun z => h1 (.inl z)
  have h3 : ¬ n ≤ j.2 := fun z => h1 (.inr (.inl z))
  have h4 : ¬ j.2 ≤ j.1 := fun z => h1 (.inr (.inr (.inl z)))
  omega
structure Net (B : Hp) (lp : Addr) (n : Nat) (ps : Lk) : Prop where
  l : ∃ lv, B lp = some (.lst lv) ∧ Paired (PairV B) lv ps
  v : Val n ps
  n6 : n ≤ 6
  z : ps.length ≤ 20
theorem Net.mono {B B' : Hp} {lp : Addr} {n : Nat} {ps : Lk} (N : Net B lp n ps) (s : Same B B') : Net B' lp n ps := by
  obtain ⟨⟨lv, h1, h2⟩, h3, h4, h5⟩ := N
  exact ⟨⟨lv, s _ _ h1, Lb.Paired.mono (fun _ _ h => h.mono s) h2⟩, h3, h4, h5⟩
def FarSp : Sp := fun vs H Q _ => ∃ (a c : Addr) (B : Hp) (ls : List (Addr × HO)) (lp : Addr) (ps : Lk) (n g : Nat), vs = [.int (n : Nat), .ref lp, .int (g : Nat)] ∧ Own a c B H ls ∧ Net B lp n ps ∧ g < n ∧
  ∀ p H' B' f, Same B B' → B' p = some (.lst (fl n f)) → Far n ps g f → Own a c B' H' ls → Q (.ref p) H'
def sp_neighbours (A : Ad) : Sp := fun vs H Q _ => ∃ (a c : Addr) (B : Hp) (ls : List (Addr × HO)) (lp : Addr) (ps : Lk) (n u : Nat), vs = [.ref lp, .int (u : Nat)] ∧ Own a c B H ls ∧ Net B lp n ps ∧ u < n ∧
  ∀ p H' B', Same B B' → B' p = some (.lst ((nInts (nbs n ps u)).map V.int)) → Own a c B' H' ls → Q (.ref p) H'
def sp_distances (A : Ad) : Sp := FarSp
def sp_next_hops (A : Ad) : Sp := fun vs H Q _ => ∃ (a c : Addr) (B : Hp) (ls : List (Addr × HO)) (lp : Addr) (ps : Lk) (n : Nat), vs = [.int (n : Nat), .ref lp] ∧ Own a c B H ls ∧ Net B lp n ps ∧
  ∀ p H' B' (ra : Nat → Addr) (F : Nat → Nat → Int), Same B B' → B' p = some (.lst ((List.range n).map fun i => V.ref (ra i))) → (∀ g, g < n → Far n ps g (F g)) → (∀ i, i < n → B' (ra i) = some (.lst (fl n fun g => ((hop n ps (F g) i g : Nat) : Int)))) → Own a c B' H' ls → Q (.ref p) H'
def sp_check_network (A : Ad) : Sp := fun vs H Q E => ∃ (a c : Addr) (B : Hp) (ls : List (Addr × HO)) (lp : Addr) (lv : List V) (ps : Lk) (n : Int), vs = [.int n, .ref lp] ∧ CF A ∧ Own a c B H ls ∧ B lp = some (.lst lv) ∧ Paired (PairV B) lv ps ∧ ps.length ≤ 20 ∧
  (∀ r d H' B', Due n ps r → r ≠ "" → Same B B' → Own a c B' H' ((d, .xd [("reason", .str r)]) :: ls) → E (.ref A.c_PlanError) (some d) H') ∧ (Due n ps "" → ∀ H' B', Same B B' → Own a c B' H' ls → Q .non H')

set_option Elab.async false
set_option linter.all false
set_option maxRecDepth 100000
set_option maxHeartbeats 4000000
open PySem PySem.Spec PyProof.Rows L2 Lb


/-! ### promises of the program -/
def sp_parts (A : Ad) : Sp := fun vs H Q _ => ∃ (a c : Addr) (B : Hp) (ls : List (Addr × HO)) (p : V) (s : Sm) (C K : Nat), vs = [p] ∧ Own a c B H ls ∧ Dt B p s.D ∧ SW C K s ∧
  ∀ q H' B' xs, Same B B' → B' q = some (.lst xs) → DtAll B' xs (smDs s.parts) → Own a c B' H' ls → Q (.ref q) H'
def sp_inner_statements (A : Ad) : Sp := fun vs H Q _ => ∃ (a c : Addr) (B : Hp) (ls : List (Addr × HO)) (p : V) (s : Sm) (C K : Nat), vs = [p] ∧ Own a c B H ls ∧ Dt B p s.D ∧ SW C K s ∧
  ∀ q H' B' xs, Same B B' → B' q = some (.lst xs) → DtAll B' xs (smDs s.inner) → Own a c B' H' ls → Q (.ref q) H'
def sp_branches (A : Ad) (n : Nat) : Sp := fun vs H Q _ => ∃ (a c : Addr) (B : Hp) (ls : List (Addr × HO)) (p : V) (s : Sm) (C K r : Nat), vs = [p, .int (r : Nat)] ∧ Own a c B H ls ∧ Dt B p s.D ∧ SW C K s ∧ s.dp ≤ n ∧
  ∀ q H' B' xs, Same B B' → B' q = some (.lst xs) → DtAll B' xs ((s.br r).map brD) → Own a c B' H' ls → Q (.ref q) H'
def sp_branchesP (A : Ad) : Nat → Sp
  | 0 => spF
  | n + 1 => sp_branches A n
def sp_threads_of (A : Ad) : Sp := fun vs H Q _ => ∃ (a c : Addr) (B : Hp) (ls : List (Addr × HO)) (p : V) (ce th : Nat) (ch : List Str) (l : List Sm), vs = [p] ∧ Own a c B H ls ∧ Dt B p (coreD ce ch l) ∧ CoreOk ce ch l th ∧
  ∀ q H' B' xs, Same B B' → B' q = some (.lst xs) → DtAll B' xs (.tuple [.none, (Sm.seq l).D] :: ((Sm.seq l).br 0).map rowD2) → Own a c B' H' ls → Q (.ref q) H'

/-! ### plans: what is due -/
def thN (l : List Sm) : Nat := 1 + ((Sm.seq l).br 0).length
def GoodPl (n : Int) (N : Nat) (ch : List Str) (P Hm : List Int) : Prop := P.length = N ∧ Hm.length = ch.length ∧ ∀ x ∈ P ++ Hm, 0 ≤ x ∧ x < n
def BadHm (ch : List Str) (Hm : List Int) : Prop := ∃ (k : Nat) (s : Str) (y : Int), ch[k]? = some s ∧ s ≠ "inner" ∧ Hm[k]? = some y ∧ y ≠ 0
inductive PD (n : Int) (N : Nat) (ch : List Str) (P Hm : List Int) (ps : Lk) : Str → Prop
  | net {r : Str} (h : Due n ps r) (ne : r ≠ "") : PD n N ch P Hm ps r
  | places (h : Due n ps "") (b : ¬ GoodPl n N ch P Hm) : PD n N ch P Hm ps "places"
  | homes (h : Due n ps "") (g : GoodPl n N ch P Hm) (b : BadHm ch Hm) : PD n N ch P Hm ps "homes"
  | ok (h : Due n ps "") (g : GoodPl n N ch P Hm) (b : ¬ BadHm ch Hm) : PD n N ch P Hm ps ""
theorem PD.uniq {n : Int} {N : Nat} {ch : List Str} {P Hm : List Int} {ps : Lk} {r r' : Str} (h : PD n N ch P Hm ps r) (h' : PD n N ch P Hm ps r') : r = r' := by
  cases h with
  | net h ne =>
    cases h' with
    | net h' _ => exact h.uniq h'
    | places h' _ => exact absurd (h.uniq h') ne
    | homes h' _ _ => exact absurd (h.uniq h') ne
    | ok h' _ _ => exact absurd (h.uniq h') ne
  | places h b =>
    cases h' with
    | net h' ne => exact absurd (h'.uniq h) ne
    | places _ _ => rfl
    | homes _ g _ => exact absurd g b
    | ok _ g _ => exact absurd g b
  | homes h g b =>
    cases h' with
    | net h' ne => exact absurd (h'.uniq h) ne
    | places _ b' => exact absurd g b'
    | homes _ _ _ => rfl
    | ok _ _ b' => exact absurd b b'
  | ok h g b =>
    cases h' with
    | net h' ne => exact absurd (h'.uniq h) ne
    | places _ b' => exact absurd g b'
    | homes _ _ b' => exact absurd b' b
    | ok _ _ _ => rfl
structure PlanArgs (B : Hp) (p : V) (nt pp hp : Addr) (ce th : Nat) (ch : List Str) (l : List Sm) (n : Int) (lp : Addr) (lv : List V) (ps : Lk) (P Hm : List Int) : Prop where
  dc : Dt B p (coreD ce ch l)
  o : CoreOk ce ch l th
  ht : B nt = some (.tup [.int n, .ref lp])
  hl : B lp = some (.lst lv)
  hP : Paired (PairV B) lv ps
  z : ps.length ≤ 20
  pp : B pp = some (.lst (P.map V.int))
  hh : B hp = some (.lst (Hm.map V.int))
  zp : P.length ≤ 100
  zh : Hm.length ≤ 100
abbrev PlO (A : Ad) (dx : Addr) (n : Int) (lq pq hq hops : Addr) : HO := .ins A.c_Plan dx [("processors", .int n), ("links", .ref lq), ("threads", .ref pq), ("homes", .ref hq), ("hops", .ref hops)]
/-- the table of next hops -/
def HopT (B : Hp) (hops : Addr) (n : Nat) (ps : Lk) : Prop := ∃ (ra : Nat → Addr) (F : Nat → Nat → Int), B hops = some (.lst ((List.range n).map fun i => V.ref (ra i))) ∧ (∀ g, g < n → Far n ps g (F g)) ∧ ∀ i, i < n → B (ra i) = some (.lst (fl n fun g => ((hop n ps (F g) i g : Nat) : Int)))
theorem HopT.mono {B B' : Hp} {hops : Addr} {n : Nat} {ps : Lk} (h : HopT B hops n ps) (s : Same B B') : HopT B' hops n ps := by
  obtain ⟨ra, F, h1, h2, h3⟩ := h
  exact ⟨ra, F, s _ _ h1, h2, fun i hi => s _ _ (h3 i hi)⟩
def sp_Plan_init (A : Ad) : Sp := fun vs H Q _ => ∃ (a c : Addr) (B : Hp) (ls : List (Addr × HO)) (x dx nt pp hp lp : Addr) (n : Nat) (lv : List V) (ps : Lk) (P Hm : List Int), vs = [.ref x, .ref nt, .ref pp, .ref hp] ∧ CF A ∧ Own a c B H ((x, .ins A.c_Plan dx []) :: (dx, .own x) :: ls) ∧
  B nt = some (.tup [.int (n : Nat), .ref lp]) ∧ B lp = some (.lst lv) ∧ Paired (PairV B) lv ps ∧ ps.length ≤ 20 ∧ Val n ps ∧ n ≤ 6 ∧ B pp = some (.lst (P.map V.int)) ∧ B hp = some (.lst (Hm.map V.int)) ∧
  ∀ lq pq hq hops H' B', Same B B' → B' lq = some (.lst lv) → B' pq = some (.lst (P.map V.int)) → B' hq = some (.lst (Hm.map V.int)) → HopT B' hops n ps → Own a c B' H' ((x, PlO A dx (n : Nat) lq pq hq hops) :: (dx, .own x) :: ls) → Q .non H'
def sp_make_plan (A : Ad) : Sp := fun vs H Q E => ∃ (a c : Addr) (B : Hp) (ls : List (Addr × HO)) (p : V) (nt pp hp : Addr) (ce th : Nat) (ch : List Str) (l : List Sm) (n : Int) (lp : Addr) (lv : List V) (ps : Lk) (P Hm : List Int), vs = [p, .ref nt, .ref pp, .ref hp] ∧ CF A ∧ Own a c B H ls ∧ PlanArgs B p nt pp hp ce th ch l n lp lv ps P Hm ∧
  (∀ r d H' B', PD n (thN l) ch P Hm ps r → r ≠ "" → Same B B' → Own a c B' H' ((d, .xd [("reason", .str r)]) :: ls) → E (.ref A.c_PlanError) (some d) H') ∧
  (PD n (thN l) ch P Hm ps "" → ∀ q dx lq pq hq hops H' B', Same B B' → B' q = some (PlO A dx n lq pq hq hops) → B' lq = some (.lst lv) → B' pq = some (.lst (P.map V.int)) → B' hq = some (.lst (Hm.map V.int)) → HopT B' hops n.toNat ps → Own a c B' H' ls → Q (.ref q) H')

/-- links that are right, each once -/
structure Fine (n : Nat) (ps : Lk) : Prop where
  v : ∀ j ∈ ps, 0 ≤ j.1 ∧ j.1 < j.2 ∧ j.2 < (n : Int)
  nd : ps.Nodup
def sp_l_told (A : Ad) : Sp := fun vs H Q _ => ∃ (a c : Addr) (B : Hp) (ls : List (Addr × HO)) (p : V) (nt pp hp : Addr) (ce th : Nat) (ch : List Str) (l : List Sm) (n : Int) (lp : Addr) (lv : List V) (ps : Lk) (P Hm : List Int), vs = [p, .ref nt, .ref pp, .ref hp] ∧ CF A ∧ Own a c B H ls ∧ PlanArgs B p nt pp hp ce th ch l n lp lv ps P Hm ∧
  ∀ r H' B', PD n (thN l) ch P Hm ps r → Same B B' → Own a c B' H' ls → Q (.str r) H'
def sp_spread (A : Ad) : Sp := fun vs H Q _ => ∃ (a c : Addr) (B : Hp) (ls : List (Addr × HO)) (m n : Nat), vs = [.int (m : Nat), .int (n : Nat)] ∧ Own a c B H ls ∧ 1 ≤ n ∧ m ≤ 1000 ∧
  ∀ q H', Own a c B H' ((q, .lst (((List.range m).map fun i => ((i : Nat) : Int) % (n : Int)).map V.int)) :: ls) → Q (.ref q) H'
def sp_l_threads (A : Ad) (n : Nat) : Sp := fun vs H Q _ => ∃ (a c : Addr) (B : Hp) (ls : List (Addr × HO)) (p : V) (s : Sm) (C K : Nat), vs = [p] ∧ Own a c B H ls ∧ Dt B p s.D ∧ SW C K s ∧ s.dp ≤ n ∧
  ∀ q H', Own a c B H' ((q, .lst (nv s.thr)) :: ls) → Q (.ref q) H'
def sp_lthP (A : Ad) : Nat → Sp
  | 0 => spF
  | n + 1 => sp_l_threads A n
def sp_l_network (A : Ad) : Sp := fun vs H Q _ => ∃ (a c : Addr) (B : Hp) (ls : List (Addr × HO)), vs = [.ref a] ∧ Own a c B H ls ∧
  ∀ q lp n lv ps H' B', Same B B' → B' q = some (.tup [.int ((n : Nat) : Int), .ref lp]) → B' lp = some (.lst lv) → Paired (PairV B') lv ps → Fine n ps → Conn n ps → ps.length ≤ 8 → 1 ≤ n → n ≤ 6 → Own a c B' H' ls → Q (.ref q) H'
def sp_law (A : Ad) : Sp := fun vs H Q _ => ∃ (s : Addr) (ns : List Int), vs = [.ref s] ∧ SqL A.K H s (ns.map V.int) ∧ ns.length ≤ 63 ∧ CF A ∧ ∀ H', Q (.bl true) H'
def t_neighbours (A : Ad) : TS :=
  (tSeq (tAsg (tOp rAddA (tLc (iList A.K (tVar 0)) (gTup A.K 2 (gCons (gName 3) (gCons (gName 4) gNil))) (tTest (tOp (rEqA A.K) (tVar 3) (tVar 1))) (tVar 4) [3, 4]) (tLc (iList A.K (tVar 0)) (gTup A.K 2 (gCons (gName 3) (gCons (gName 4) gNil))) (tTest (tOp (rEqA A.K) (tVar 4) (tVar 1))) (tVar 3) [3, 4])) (gName 2)) (tRet (tCB (rSortedSet A.w) (tCons (tScI A.w (iList A.K (tVar 2)) (gName 5) (tVar 5) [5]) tNil))))
theorem st_neighbours (v0 v1 : V) : L2.start ["links", "at", "found", "a", "b", "other"] [v0, v1] = [some v0, some v1, none, none, none, none] := rfl
def t_distances (A : Ad) : TS :=
  (tSeq (tAsg (tOp rMulA (tLst (tCons (tUn (rU fun i => .int (-i)) (tC (.int 1))) tNil)) (tVar 0)) (gName 3)) (tSeq (tAsg (tC (.int 0)) (gSub (tVar 3) (tVar 2) rSetA)) (tSeq (tAsg (tLst (tCons (tVar 2) tNil)) (gName 4)) (tSeq (tAsg (tC (.int 0)) (gName 5)) (tSeq (tWhile (tTest (tOp (rI0 fun i j => .bl (decide (i < j))) (tVar 5) (tCB rLenA (tCons (tVar 4) tNil)))) (tSeq (tAsg (tOp rIxA (tVar 4) (tVar 5)) (gName 6)) (tSeq (tAsg (tOp rAddA (tVar 5) (tC (.int 1))) (gName 5)) (tFor (iList A.K (tCall (sp_neighbours A) [] E0 (tCons (tVar 1) (tCons (tVar 6) tNil)))) (gName 7) (tIfS (tTest (tOp (rI0 fun i j => .bl (decide (i < j))) (tOp rIxA (tVar 3) (tVar 7)) (tC (.int 0)))) (tSeq (tAsg (tOp rAddA (tOp rIxA (tVar 3) (tVar 6)) (tC (.int 1))) (gSub (tVar 3) (tVar 7) rSetA)) (tDrop (tBML rAppA (tVar 4) (tCons (tVar 7) tNil)))) tNext))))) (tRet (tVar 3)))))))
theorem st_distances (v0 v1 v2 : V) : L2.start ["processors", "links", "goal", "found", "row", "k", "at", "other"] [v0, v1, v2] = [some v0, some v1, some v2, none, none, none, none, none] := rfl
def t_check_network (A : Ad) (W : WX) : TS :=
  (tSeq (tIfS (tOr (tTest (tOp (rI0 fun i j => .bl (decide (i < j))) (tVar 0) (tC (.int 1)))) (tTest (tOp (rI0 fun i j => .bl (decide (j < i))) (tVar 0) (tC (.int 6))))) (tRaiseX A.K A.c_PlanError A.c_PlacedError A.i_PlanError "reason" W (tC (.str "processors"))) tNext) (tSeq (tFor (iEnum A.K (tCons (tVar 1) tNil)) (gTup A.K 2 (gCons (gName 2) (gCons (gName 3) gNil))) (tSeq (tAsg (tVar 3) (gTup A.K 2 (gCons (gName 4) (gCons (gName 5) gNil)))) (tIfS (tOr (tTest (tOp (rI0 fun i j => .bl (decide (i < j))) (tVar 4) (tC (.int 0)))) (tOr (tTest (tOp (rI0 fun i j => .bl (decide (j ≤ i))) (tVar 5) (tVar 0))) (tOr (tTest (tOp (rI0 fun i j => .bl (decide (j ≤ i))) (tVar 4) (tVar 5))) (tTest (tOp (rInD A.K) (tVar 3) (tSl rSlA (tVar 1) tNoPart (tPart (tVar 2)))))))) (tRaiseX A.K A.c_PlanError A.c_PlacedError A.i_PlanError "reason" W (tC (.str "links"))) tNext))) (tIfS (tTest (tOp (rI0 fun i j => .bl (decide (i < j))) (tCB (rMin A.K) (tCons (tCall (sp_distances A) [] E0 (tCons (tVar 0) (tCons (tVar 1) (tCons (tC (.int 0)) tNil)))) tNil)) (tC (.int 0)))) (tRaiseX A.K A.c_PlanError A.c_PlacedError A.i_PlanError "reason" W (tC (.str "parts"))) tNext)))
theorem st_check_network (v0 v1 : V) : L2.start ["processors", "links", "at", "link", "a", "b"] [v0, v1] = [some v0, some v1, none, none, none, none] := rfl
def t_next_hops (A : Ad) : TS :=
  (tSeq (tAsg (tLc (iRng1 (tCons (tVar 0) tNil)) (gName 5) tYes (tOp rMulA (tLst (tCons (tVar 5) tNil)) (tVar 0)) [5]) (gName 2)) (tSeq (tFor (iRng1 (tCons (tVar 0) tNil)) (gName 3) (tSeq (tAsg (tCall (sp_distances A) [] E0 (tCons (tVar 0) (tCons (tVar 1) (tCons (tVar 3) tNil)))) (gName 4)) (tFor (iRng1 (tCons (tVar 0) tNil)) (gName 5) (tFor (iRev A.K (tCons (tCall (sp_neighbours A) [] E0 (tCons (tVar 1) (tCons (tVar 5) tNil))) tNil)) (gName 6) (tIfS (tAnd (tTest (tOp (rNeA A.K) (tVar 5) (tVar 3))) (tTest (tOp (rEqA A.K) (tOp rIxA (tVar 4) (tVar 6)) (tOp (rI0 fun i j => .int (i - j)) (tOp rIxA (tVar 4) (tVar 5)) (tC (.int 1)))))) (tAsg (tVar 6) (gSub (tOp rIxA (tVar 2) (tVar 5)) (tVar 3) rSetA)) tNext))))) (tRet (tVar 2))))
theorem st_next_hops (v0 v1 : V) : L2.start ["processors", "links", "table", "goal", "far", "at", "other"] [v0, v1] = [some v0, some v1, none, none, none, none, none] := rfl
def t_parts (A : Ad) : TS :=
  (tSeq (tIfS (tTest (tOp (rEqA A.K) (tOp rIxA (tVar 0) (tC (.int 0))) (tC (.str "seq")))) (tRet (tOp rIxA (tVar 0) (tC (.int 1)))) tNext) (tSeq (tIfS (tTest (tOp (rEqA A.K) (tOp rIxA (tVar 0) (tC (.int 0))) (tC (.str "par")))) (tRet (tLc (iList A.K (tOp rIxA (tVar 0) (tC (.int 1)))) (gTup A.K 2 (gCons (gName 1) (gCons (gName 2) gNil))) tYes (tVar 2) [1, 2])) tNext) (tSeq (tIfS (tTest (tOp (rEqA A.K) (tOp rIxA (tVar 0) (tC (.int 0))) (tC (.str "if")))) (tRet (tLst (tCons (tOp rIxA (tVar 0) (tC (.int 2))) (tCons (tOp rIxA (tVar 0) (tC (.int 3))) tNil)))) tNext) (tSeq (tIfS (tTest (tOp (rEqA A.K) (tOp rIxA (tVar 0) (tC (.int 0))) (tC (.str "repeat")))) (tRet (tLst (tCons (tOp rIxA (tVar 0) (tC (.int 3))) tNil))) tNext) (tRet (tLst tNil))))))
theorem st_parts (v0 : V) : L2.start ["s", "_", "statement"] [v0] = [some v0, none, none] := rfl
def t_inner_statements (A : Ad) : TS :=
  (tSeq (tIfS (tTest (tOp (rEqA A.K) (tOp rIxA (tVar 0) (tC (.int 0))) (tC (.str "alt")))) (tRet (tLc (iList A.K (tOp rIxA (tVar 0) (tC (.int 1)))) (gName 1) tYes (tOp rIxA (tVar 1) (tC (.int 3))) [1])) tNext) (tRet (tCall (sp_parts A) [] E0 (tCons (tVar 0) tNil))))
theorem st_inner_statements (v0 : V) : L2.start ["s", "row"] [v0] = [some v0, none] := rfl
def t_branches (A : Ad) (n : Nat) : TS :=
  (tSeq (tAsg (tLst tNil) (gName 2)) (tSeq (tIfS (tTest (tOp (rEqA A.K) (tOp rIxA (tVar 0) (tC (.int 0))) (tC (.str "par")))) (tSeq (tFor (iList A.K (tOp rIxA (tVar 0) (tC (.int 1)))) (gTup A.K 2 (gCons (gName 3) (gCons (gName 4) gNil))) (tSeq (tDrop (tBML rAppA (tVar 2) (tCons (tTup (tCons (tVar 3) (tCons (tVar 1) (tCons (tVar 4) tNil)))) tNil))) (tDrop (tBML rExtA (tVar 2) (tCons (tCall (sp_branchesP A n) [] E0 (tCons (tVar 4) (tCons (tVar 3) tNil))) tNil))))) (tRet (tVar 2))) tNext) (tSeq (tFor (iList A.K (tCall (sp_inner_statements A) [] E0 (tCons (tVar 0) tNil))) (gName 5) (tDrop (tBML rExtA (tVar 2) (tCons (tCall (sp_branchesP A n) [] E0 (tCons (tVar 5) (tCons (tVar 1) tNil))) tNil)))) (tRet (tVar 2)))))
theorem st_branches (v0 v1 : V) : L2.start ["s", "parent", "found", "thread", "statement", "part"] [v0, v1] = [some v0, some v1, none, none, none, none] := rfl
def t_threads_of (A : Ad) : TS :=
  (tSeq (tAsg (tCKw (rSortKey A.f_thread_number) (tCons (tCall (sp_branches A 60) [] E0 (tCons (tOp rIxA (tVar 0) (tC (.int 3))) (tCons (tC (.int 0)) tNil))) tNil) (tCons (tC (.ref A.f_thread_number)) tNil)) (gName 1)) (tRet (tOp rAddA (tLst (tCons (tTup (tCons (tC .non) (tCons (tOp rIxA (tVar 0) (tC (.int 3))) tNil))) tNil)) (tLc (iList A.K (tVar 1)) (gTup A.K 3 (gCons (gName 2) (gCons (gName 3) (gCons (gName 4) gNil)))) tYes (tTup (tCons (tVar 3) (tCons (tVar 4) tNil))) [2, 3, 4]))))
theorem st_threads_of (v0 : V) : L2.start ["core", "rows", "_", "parent", "statement"] [v0] = [some v0, none, none, none, none] := rfl
def t_Plan_init (A : Ad) : TS :=
  (tSeq (sFld A.K (tVar 0) (tOp rIxA (tVar 1) (tC (.int 0))) "processors") (tSeq (sFld A.K (tVar 0) (tCB rListA (tCons (tOp rIxA (tVar 1) (tC (.int 1))) tNil)) "links") (tSeq (sFld A.K (tVar 0) (tCB rListA (tCons (tVar 2) tNil)) "threads") (tSeq (sFld A.K (tVar 0) (tCB rListA (tCons (tVar 3) tNil)) "homes") (sFld A.K (tVar 0) (tCall (sp_next_hops A) [] E0 (tCons (tFld A.K (tVar 0) "processors") (tCons (tFld A.K (tVar 0) "links") tNil))) "hops")))))
theorem st_Plan_init (v0 v1 v2 v3 : V) : L2.start ["self", "network", "threads", "homes"] [v0, v1, v2, v3] = [some v0, some v1, some v2, some v3] := rfl
def t_spread (A : Ad) : TS :=
  (tRet (tLc (iRng1 (tCons (tVar 0) tNil)) (gName 2) tYes (tOp (rI (fun _ j => 0 < j) fun i j => .int (i % j)) (tVar 2) (tVar 1)) [2]))
theorem st_spread (v0 v1 : V) : L2.start ["many", "processors", "k"] [v0, v1] = [some v0, some v1, none] := rfl
def t_make_plan (A : Ad) (W : WX) : TS :=
  (tSeq (tDrop (tCallS (sp_check_network A) (WE W) (tCons (tOp rIxA (tVar 1) (tC (.int 0))) (tCons (tOp rIxA (tVar 1) (tC (.int 1))) tNil)))) (tSeq (tIfS (tOr (tTest (tOp (rNeA A.K) (tCB rLenA (tCons (tVar 2) tNil)) (tCB rLenA (tCons (tCall (sp_threads_of A) [] E0 (tCons (tVar 0) tNil)) tNil)))) (tTest (tOp (rNeA A.K) (tCB rLenA (tCons (tVar 3) tNil)) (tCB rLenA (tCons (tOp rIxA (tVar 0) (tC (.int 2))) tNil))))) (tRaiseX A.K A.c_PlanError A.c_PlacedError A.i_PlanError "reason" W (tC (.str "places"))) tNext) (tSeq (tFor (iList A.K (tOp rAddA (tCB rListA (tCons (tVar 2) tNil)) (tCB rListA (tCons (tVar 3) tNil)))) (gName 4) (tIfS (tOr (tTest (tOp (rI0 fun i j => .bl (decide (i < j))) (tVar 4) (tC (.int 0)))) (tTest (tOp (rI0 fun i j => .bl (decide (j ≤ i))) (tVar 4) (tOp rIxA (tVar 1) (tC (.int 0)))))) (tRaiseX A.K A.c_PlanError A.c_PlacedError A.i_PlanError "reason" W (tC (.str "places"))) tNext)) (tSeq (tFor (iZip A.K (tCons (tOp rIxA (tVar 0) (tC (.int 2))) (tCons (tVar 3) tNil))) (gTup A.K 2 (gCons (gName 5) (gCons (gName 6) gNil))) (tIfS (tAnd (tTest (tOp (rNeA A.K) (tVar 5) (tC (.str "inner")))) (tTest (tOp (rNeA A.K) (tVar 6) (tC (.int 0))))) (tRaiseX A.K A.c_PlanError A.c_PlacedError A.i_PlanError "reason" W (tC (.str "homes"))) tNext)) (tRet (tMake A.c_Plan (sp_Plan_init A) [] E0 (tCons (tVar 1) (tCons (tVar 2) (tCons (tVar 3) tNil)))))))))
theorem st_make_plan (v0 v1 v2 v3 : V) : L2.start ["core", "network", "places", "homes", "place", "kind", "home"] [v0, v1, v2, v3] = [some v0, some v1, some v2, some v3, none, none, none] := rfl
def t_l_threads (A : Ad) (n : Nat) : TS :=
  (tSeq (tAsg (tOp rIxA (tVar 0) (tC (.int 0))) (gName 1)) (tSeq (tAsg (tLst tNil) (gName 2)) (tSeq (tIfS (tTest (tOp (rEqA A.K) (tVar 1) (tC (.str "par")))) (tFor (iList A.K (tOp rIxA (tVar 0) (tC (.int 1)))) (gTup A.K 2 (gCons (gName 3) (gCons (gName 4) gNil))) (tAsg (tOp rAddA (tOp rAddA (tVar 2) (tLst (tCons (tVar 3) tNil))) (tCall (sp_lthP A n) [] E0 (tCons (tVar 4) tNil))) (gName 2))) (tIfS (tTest (tOp (rEqA A.K) (tVar 1) (tC (.str "seq")))) (tFor (iList A.K (tOp rIxA (tVar 0) (tC (.int 1)))) (gName 4) (tAsg (tOp rAddA (tVar 2) (tCall (sp_lthP A n) [] E0 (tCons (tVar 4) tNil))) (gName 2))) (tIfS (tTest (tOp (rEqA A.K) (tVar 1) (tC (.str "alt")))) (tFor (iList A.K (tOp rIxA (tVar 0) (tC (.int 1)))) (gName 5) (tAsg (tOp rAddA (tVar 2) (tCall (sp_lthP A n) [] E0 (tCons (tOp rIxA (tVar 5) (tC (.int 3))) tNil))) (gName 2))) (tIfS (tTest (tOp (rEqA A.K) (tVar 1) (tC (.str "if")))) (tAsg (tOp rAddA (tCall (sp_lthP A n) [] E0 (tCons (tOp rIxA (tVar 0) (tC (.int 2))) tNil)) (tCall (sp_lthP A n) [] E0 (tCons (tOp rIxA (tVar 0) (tC (.int 3))) tNil))) (gName 2)) (tIfS (tTest (tOp (rEqA A.K) (tVar 1) (tC (.str "repeat")))) (tAsg (tCall (sp_lthP A n) [] E0 (tCons (tOp rIxA (tVar 0) (tC (.int 3))) tNil)) (gName 2)) tNext))))) (tRet (tVar 2)))))
theorem st_l_threads (v0 : V) : L2.start ["_law_s", "_law_kind", "_law_found", "_law_number_here", "_law_part", "_law_row"] [v0] = [some v0, none, none, none, none, none] := rfl
def t_l_network (A : Ad) : TS :=
  (tSeq (tAsg (tCall spPick [] E0 (tCons (tVar 0) (tCons (tLst (tCons (tC (.int 1)) (tCons (tC (.int 2)) (tCons (tC (.int 2)) (tCons (tC (.int 3)) (tCons (tC (.int 4)) (tCons (tC (.int 6)) tNil))))))) tNil))) (gName 1)) (tSeq (tAsg (tLc (iRng2 (tCons (tC (.int 1)) (tCons (tVar 1) tNil))) (gName 3) tYes (tTup (tCons (tCall spDraw [] E0 (tCons (tVar 0) (tCons (tVar 3) tNil))) (tCons (tVar 3) tNil))) [3]) (gName 2)) (tSeq (tFor (iRng1 (tCons (tCall spDraw [] E0 (tCons (tVar 0) (tCons (tC (.int 3)) tNil))) tNil)) (gName 3) (tSeq (tAsg (tCall spDraw [] E0 (tCons (tVar 0) (tCons (tVar 1) tNil))) (gName 4)) (tSeq (tAsg (tCall spDraw [] E0 (tCons (tVar 0) (tCons (tVar 1) tNil))) (gName 5)) (tIfS (tAnd (tTest (tOp (rI0 fun i j => .bl (decide (i < j))) (tVar 4) (tVar 5))) (tTest (tOp (rNotInD A.K) (tTup (tCons (tVar 4) (tCons (tVar 5) tNil))) (tVar 2)))) (tAsg (tOp rAddA (tLst (tCons (tTup (tCons (tVar 4) (tCons (tVar 5) tNil))) tNil)) (tVar 2)) (gName 2)) tNext)))) (tRet (tTup (tCons (tVar 1) (tCons (tVar 2) tNil)))))))
theorem st_l_network (v0 : V) : L2.start ["_law_state_here", "_law_many", "_law_links", "_law_k", "_law_a", "_law_b"] [v0] = [some v0, none, none, none, none, none] := rfl
def t_l_told (A : Ad) : TS :=
  (tSeq (tTry A.K (.ref A.c_PlanError) 4 (fun W => (tDrop (tCallS (sp_make_plan A) (WE W) (tCons (tVar 0) (tCons (tVar 1) (tCons (tVar 2) (tCons (tVar 3) tNil))))))) (fun a cls d => (tRet (tIf (tB (tCB (rIsX A.K a cls d A.c_PlanError A.c_PlacedError A.i_PlanError "reason") (tCons (tVar 4) (tCons (tC (.ref A.c_PlacedError)) tNil)))) (tXf a cls d A.c_PlanError "reason" (tVar 4)) (tC (.str "other")))))) (tRet (tC (.str ""))))
theorem st_l_told (v0 v1 v2 v3 : V) : L2.start ["_law_core_here", "_law_network_here", "_law_places", "_law_homes", "e"] [v0, v1, v2, v3] = [some v0, some v1, some v2, some v3, none] := rfl
def t_law (A : Ad) : TS :=
  (tSeq (tAsg (tCall (spState A.K) [] E0 (tCons (tVar 0) tNil)) (gName 1)) (tSeq (tAsg (tCall (sp_l_core A) [] E0 (tCons (tVar 1) (tCons (tOp (rEqA A.K) (tCall spDraw [] E0 (tCons (tVar 1) (tCons (tC (.int 2)) tNil))) (tC (.int 0))) tNil))) (gName 2)) (tSeq (tAsg (tCall (sp_l_network A) [] E0 (tCons (tVar 1) tNil)) (gTup A.K 2 (gCons (gName 3) (gCons (gName 4) gNil)))) (tSeq (tAsg (tOp rAddA (tC (.int 1)) (tCB rLenA (tCons (tCall (sp_l_threads A 60) [] E0 (tCons (tOp rIxA (tVar 2) (tC (.int 3))) tNil)) tNil))) (gName 5)) (tSeq (tAsg (tLc (iRng1 (tCons (tVar 5) tNil)) (gName 15) tYes (tCall spDraw [] E0 (tCons (tVar 1) (tCons (tVar 3) tNil))) [15]) (gName 6)) (tSeq (tAsg (tLc (iList A.K (tOp rIxA (tVar 2) (tC (.int 2)))) (gName 16) tYes (tIf (tTest (tOp (rEqA A.K) (tVar 16) (tC (.str "inner")))) (tCall spDraw [] E0 (tCons (tVar 1) (tCons (tVar 3) tNil))) (tC (.int 0))) [16]) (gName 7)) (tSeq (tAsg (tCall (quietS (sp_make_plan A)) [] E0 (tCons (tVar 2) (tCons (tTup (tCons (tVar 3) (tCons (tVar 4) tNil))) (tCons (tCB rListA (tCons (tVar 6) tNil)) (tCons (tCB rListA (tCons (tVar 7) tNil)) tNil))))) (gName 8)) (tSeq (tIfS (tOr (tTest (tOp (rNeA A.K) (tFld A.K (tVar 8) "processors") (tVar 3))) (tOr (tTest (tOp (rNeA A.K) (tFld A.K (tVar 8) "links") (tVar 4))) (tOr (tTest (tOp (rNeA A.K) (tFld A.K (tVar 8) "threads") (tVar 6))) (tTest (tOp (rNeA A.K) (tFld A.K (tVar 8) "homes") (tVar 7)))))) (tRet (tC (.bl false))) tNext) (tSeq (tIfS (tTest (tOp (rNeA A.K) (tFld A.K (tVar 8) "hops") (tCall (sp_next_hops A) [] E0 (tCons (tVar 3) (tCons (tVar 4) tNil))))) (tRet (tC (.bl false))) tNext) (tSeq (tAsg (tTup (tCons (tVar 3) (tCons (tVar 4) tNil))) (gName 9)) (tSeq (tAsg (tC (.str "places")) (gName 10)) (tSeq (tAsg (tCall spDraw [] E0 (tCons (tVar 1) (tCons (tC (.int 7)) tNil))) (gName 11)) (tSeq (tAsg (tCall spDraw [] E0 (tCons (tVar 1) (tCons (tVar 5) tNil))) (gName 12)) (tSeq (tAsg (tLc (iRng1 (tCons (tCB rLenA (tCons (tVar 7) tNil)) tNil)) (gName 17) (tTest (tOp (rNeA A.K) (tOp rIxA (tOp rIxA (tVar 2) (tC (.int 2))) (tVar 17)) (tC (.str "inner")))) (tVar 17) [17]) (gName 13)) (tSeq (tIfS (tTest (tOp (rEqA A.K) (tVar 11) (tC (.int 0)))) (tAsg (tCall spPick [] E0 (tCons (tVar 1) (tCons (tLst (tCons (tOp rAddA (tVar 6) (tLst (tCons (tC (.int 0)) tNil))) (tCons (tSl rSlA (tVar 6) tNoPart (tPart (tUn (rU fun i => .int (-i)) (tC (.int 1))))) tNil))) tNil))) (gName 6)) (tIfS (tTest (tOp (rEqA A.K) (tVar 11) (tC (.int 1)))) (tAsg (tCall spPick [] E0 (tCons (tVar 1) (tCons (tLst (tCons (tUn (rU fun i => .int (-i)) (tC (.int 1))) (tCons (tVar 3) tNil))) tNil))) (gSub (tVar 6) (tVar 12) rSetA)) (tIfS (tTest (tOp (rEqA A.K) (tVar 11) (tC (.int 2)))) (tAsg (tOp rAddA (tVar 7) (tLst (tCons (tC (.int 0)) tNil))) (gName 7)) (tIfS (tAnd (tTest (tOp (rEqA A.K) (tVar 11) (tC (.int 3)))) (tTest (tOp (rI0 fun i j => .bl (decide (j < i))) (tCB rLenA (tCons (tVar 7) tNil)) (tC (.int 0))))) (tAsg (tCall spPick [] E0 (tCons (tVar 1) (tCons (tLst (tCons (tUn (rU fun i => .int (-i)) (tC (.int 1))) (tCons (tVar 3) tNil))) tNil))) (gSub (tVar 7) (tCall spDraw [] E0 (tCons (tVar 1) (tCons (tCB rLenA (tCons (tVar 7) tNil)) tNil))) rSetA)) (tIfS (tAnd (tTest (tOp (rEqA A.K) (tVar 11) (tC (.int 4)))) (tAnd (tTest (tOp (rI0 fun i j => .bl (decide (j < i))) (tCB rLenA (tCons (tVar 13) tNil)) (tC (.int 0)))) (tTest (tOp (rI0 fun i j => .bl (decide (j < i))) (tVar 3) (tC (.int 1)))))) (tSeq (tAsg (tC (.int 1)) (gSub (tVar 7) (tCall spPick [] E0 (tCons (tVar 1) (tCons (tVar 13) tNil))) rSetA)) (tAsg (tC (.str "homes")) (gName 10))) (tIfS (tTest (tOp (rEqA A.K) (tVar 11) (tC (.int 5)))) (tSeq (tAsg (tTup (tCons (tVar 3) (tCons (tOp rAddA (tVar 4) (tLst (tCons (tTup (tCons (tVar 3) (tCons (tOp rAddA (tVar 3) (tC (.int 1))) tNil))) tNil))) tNil))) (gName 9)) (tSeq (tAsg (tLst tNil) (gName 6)) (tAsg (tC (.str "links")) (gName 10)))) (tSeq (tAsg (tTup (tCons (tCall spPick [] E0 (tCons (tVar 1) (tCons (tLst (tCons (tC (.int 0)) (tCons (tC (.int 7)) tNil))) tNil))) (tCons (tLst tNil) tNil))) (gName 9)) (tAsg (tC (.str "processors")) (gName 10))))))))) (tSeq (tIfS (tTest (tOp (rNeA A.K) (tCall (sp_l_told A) [] E0 (tCons (tVar 2) (tCons (tVar 9) (tCons (tVar 6) (tCons (tVar 7) tNil))))) (tVar 10))) (tRet (tC (.bl false))) tNext) (tSeq (tAsg (tCall (sp_spread A) [] E0 (tCons (tVar 5) (tCons (tVar 3) tNil))) (gName 14)) (tRet (tOp (rEqA A.K) (tVar 14) (tLc (iRng1 (tCons (tVar 5) tNil)) (gName 15) tYes (tOp (rI0 fun i j => .int (i - j)) (tVar 15) (tOp rMulA (tOp (rI CDiv fun i j => .int (i / j)) (tVar 15) (tVar 3)) (tVar 3))) [15]))))))))))))))))))))
theorem st_law (v0 : V) : L2.start ["_law_script", "_law_state_here", "_law_core_here", "_law_many", "_law_links", "_law_threads_here", "_law_places", "_law_homes", "_law_plan", "_law_network_here", "_law_due", "_law_turn", "_law_at", "_law_outer", "_law_row", "_law_k", "_law_kind", "_law_c"] [v0] = [some v0, none, none, none, none, none, none, none, none, none, none, none, none, none, none, none, none, none] := rfl

set_option Elab.async false
set_option linter.all false
set_option maxRecDepth 100000
set_option maxHeartbeats 4000000
open PySem PySem.Spec PyProof.Rows L2 Lb


/-! ### networks: neighbours, distances -/
theorem len_neighbours (A : Ad) {vs : List V} {H : Hp} {Q : VK} {E : XK} (h : sp_neighbours A vs H Q E) : vs.length = 2 := by
  obtain ⟨a, c, B, ls, lp, ps, n, u, rfl, _⟩ := h
  rfl
theorem len_distances (A : Ad) {vs : List V} {H : Hp} {Q : VK} {E : XK} (h : sp_distances A vs H Q E) : vs.length = 3 := by
  obtain ⟨a, c, B, ls, lp, ps, n, u, rfl, _⟩ := h
  rfl
theorem len_next_hops (A : Ad) {vs : List V} {H : Hp} {Q : VK} {E : XK} (h : sp_next_hops A vs H Q E) : vs.length = 2 := by
  obtain ⟨a, c, B, ls, lp, ps, n, rfl, _⟩ := h
  rfl
theorem len_check_network (A : Ad) {vs : List V} {H : Hp} {Q : VK} {E : XK} (h : sp_check_network A vs H Q E) : vs.length = 2 := by
  obtain ⟨a, c, B, ls, lp, lv, ps, n, rfl, _⟩ := h
  rfl
set_option maxHeartbeats 32000000 in
theorem pure_neighbours (A : Ad) (vs : List V) (H : Hp) (Q : VK) (E : XK) (h : sp_neighbours A vs H Q E) : t_neighbours A { nx := fun _ H' => Q .non H', rt := Q } (L2.start ["links", "at", "found", "a", "b", "other"] vs) H := by
  obtain ⟨a, c, B, ls, lp, ps, n, u, rfl, O, N, hu, kQ⟩ := h
  obtain ⟨⟨lv, hl, hP⟩, Vv, n6, z⟩ := N
  rw [st_neighbours]
  unfold t_neighbours
  fail "s"
  refine ⟨⟨_, SqL.of (O.kp hl)⟩, fun D hD => ?_⟩
  refine i_lcP (f := fun j => decide (j.1 = (u : Int))) (e := fun j => j.2) O hD hl hP (by omega) (by decide) (by show 3 < 6; decide) (by show 4 < 6; decide) (fun j H' R jm s hR => ?_) (fun j H' R jm hj s hR => ?_) fun H' O => ?_
  · fail "s"
    exact hR
  · fail "s"
    exact hR
  fail "s"
  refine ⟨⟨_, SqL.of (O.kp hl)⟩, fun D2 hD => ?_⟩
  refine i_lcP (f := fun j => decide (j.2 = (u : Int))) (e := fun j => j.1) O hD hl hP (by omega) (by decide) (by show 3 < 6; decide) (by show 4 < 6; decide) (fun j H' R jm s hR => ?_) (fun j H' R jm hj s hR => ?_) fun H2 O => ?_
  · fail "s"
    exact hR
  · fail "s"
    exact hR
  have hz := fnd_len ps u
  have e1 : ((ps.filter fun j => decide (j.1 = (u : Int))).map (·.2)).map V.int ++ ((ps.filter fun j => decide (j.2 = (u : Int))).map (·.1)).map V.int = (fnd ps u).map V.int := by rw [← List.map_append]; rfl
  refine i_addN (O.mem (by fail "m")) (O.mem (by fail "m")) (sz ?_) ?_
  · have := congrArg List.length e1
    rw [List.length_append, List.length_map (as := fnd ps u)] at this
    omega
  rw [e1]
  fail "s"
  rename_i p H3 O
  refine i_scI O rfl (O.mem (by fail "m")) (by have : PySem.scanBound = 4096 := rfl; omega) (by show 5 < 6; decide) fun D3 S m H4 O hS hm => ?_
  fail "s"
  refine i_sortSet O (O.mem (by fail "m")) (by omega) fun ns q H5 h1 h2 O => ?_
  have e2 := sorted_nbs (u := u) Vv h1 fun j => (h2 j).trans (hS j)
  subst e2
  obtain ⟨B2, s2, hq, O⟩ := O.freeze
  exact kQ q H5 B2 s2 hq (O.dropP (by fail "p"))
/-- what the inner loop of distances keeps -/
theorem bfs_room {n : Nat} {ps : Lk} {g k : Nat} {f : Nat → Int} {row : List Nat} (S : Bfs n ps g f row k) (h : n ≤ 6) : row.length ≤ 6 := Nat.le_trans S.len h
def rw_ (row : List Nat) : List V := (nInts row).map V.int
theorem rw_len {row : List Nat} : (rw_ row).length = row.length := by
  unfold rw_ nInts
  rw [List.length_map, List.length_map]
theorem rw_get {row : List Nat} {k u : Nat} (h : row[k]? = some u) : (rw_ row)[k]? = some (.int (u : Nat)) := by
  unfold rw_ nInts
  rw [List.getElem?_map, List.getElem?_map, h]
  rfl
theorem rw_inv {row : List Nat} {k : Nat} {x : V} (h : (rw_ row)[k]? = some x) : ∃ u, row[k]? = some u ∧ x = .int (u : Nat) := by
  unfold rw_ nInts at h
  rw [List.getElem?_map, List.getElem?_map] at h
  cases e : row[k]? with
  | none => rw [e] at h; cases h
  | some u => rw [e] at h; cases h; exact ⟨u, rfl, rfl⟩
theorem rw_snoc {row : List Nat} {o : Nat} : rw_ row ++ [.int (o : Nat)] = rw_ (row ++ [o]) := by
  unfold rw_ nInts
  rw [List.map_append, List.map_append]
  rfl
set_option maxHeartbeats 32000000 in
theorem pure_distances (A : Ad) (vs : List V) (H : Hp) (Q : VK) (E : XK) (h : sp_distances A vs H Q E) : t_distances A { nx := fun _ H' => Q .non H', rt := Q } (L2.start ["processors", "links", "goal", "found", "row", "k", "at", "other"] vs) H := by
  obtain ⟨a, c, B, ls, lp, ps, n, g, rfl, O, N, hg, kQ⟩ := h
  have Vv := N.v
  have n6 := N.n6
  rw [st_distances]
  unfold t_distances
  fail "s"
  rename_i p0 H0 O
  refine i_mul1 O (by fail "h") (by omega) fun fp H1 O => ?_
  rw [fl_const] at O
  fail "s"
  refine i_setO O (by fail "u") (ix_nat hg fl_len) fun H2 O => ?_
  rw [fl_set hg] at O
  fail "s"
  rename_i rp H3 O
  refine i_while (fun m σ H' => ∃ k f row B' x6 x7, m + k = n + 1 ∧ k ≤ row.length ∧ Same B B' ∧ Bfs n ps g f row k ∧ σ = [some (.int (n : Nat)), some (.ref lp), some (.int (g : Nat)), some (.ref fp), some (.ref rp), some (.int (k : Nat)), x6, x7] ∧
    Own a c B' H' ((rp, .lst (rw_ row)) :: (fp, .lst (fl n f)) :: (p0, .lst [.int (-1)]) :: ls)) (n + 1) ⟨0, _, [g], B, none, none, rfl, Nat.zero_le _, Same.refl _, Bfs.start hg, rfl, O⟩ ?_
  rintro m σ H4 ⟨k, f, row, B4, x6, x7, hm, hk, s4, S, rfl, O⟩
  have rl := bfs_room S n6
  have rn := S.len
  fail "s"
  rw [rw_len]
  refine i_d2 (fun h1 => ?_) (fun h1 => ?_)
  · refine i_wgo ?_
    have h1' : k < row.length := by omega
    have hu := List.getElem?_eq_getElem h1'
    have hun := S.mem _ (List.getElem_mem h1')
    have ha : atI (rw_ row) (k : Nat) = some (.int ((row[k] : Nat) : Int)) := atI_nat (rw_get hu)
    generalize row[k] = u at hu hun ha
    fail "s"
    refine ⟨a, c, B4, _, lp, ps, n, u, rfl, ‹_›, N.mono s4, hun, fun np H5 B5 s5 hnp O => ?_⟩
    fail "s"
    refine i_forL ((nInts (nbs n ps u)).map V.int) (fun i σ H' => ∃ f' row' x7, (∀ w ∈ (nbs n ps u).take i, 0 ≤ f' w ∧ f' w ≤ f' u + 1) ∧ row'[k]? = some u ∧ Bfs n ps g f' row' k ∧
      σ = [some (.int (n : Nat)), some (.ref lp), some (.int (g : Nat)), some (.ref fp), some (.ref rp), some (.int ((k : Nat) + 1)), some (.int (u : Nat)), x7] ∧ Own a c B5 H' ((rp, .lst (rw_ row')) :: (fp, .lst (fl n f')) :: (p0, .lst [.int (-1)]) :: ls))
      ⟨f, row, x7, fun w h => by simp at h, hu, S, rfl, O⟩ ?_ ?_ ?_
    · rintro i σ H' ⟨f', row', x7, _, _, _, _, O⟩
      exact SqL.of (O.kp hnp)
    · rintro i x σ H' hx ⟨f', row', x7, hd, hu, S, rfl, O⟩
      have rl := bfs_room S n6
      obtain ⟨w, hw, rfl⟩ : ∃ w : Nat, (nbs n ps u)[i]? = some w ∧ x = .int (w : Nat) := rw_inv hx
      have wa : adj ps u w := (mem_nbs Vv).mp (List.mem_of_getElem? hw)
      have wn := (Vv.lt wa).2
      have aw : atI (fl n f') (w : Nat) = some (.int (f' w)) := fl_at wn
      have au : atI (fl n f') (u : Nat) = some (.int (f' u)) := fl_at hun
      have hu0 := (S.iff u hun).mp (List.mem_of_getElem? hu)
      have tk : (nbs n ps u).take (i + 1) = (nbs n ps u).take i ++ [w] := by rw [List.take_add_one, hw]; rfl
      fail "s"
      refine i_d2 (fun h2 => ?_) (fun h2 => ?_)
      · fail "s"
        refine i_setO O (by fail "u") (ix_nat wn fl_len) fun H6 O => ?_
        rw [fl_set wn] at O
        have S' := S.add hu wn wa h2
        have rl2 := rw_len (row := row')
        fail "s"
        rename_i H7 O
        rw [rw_snoc] at O
        have un : u ≠ w := fun e => by rw [e] at hu0; omega
        refine ⟨_, _, _, fun y hy => ?_, ?_, S', rfl, O⟩
        · rw [tk] at hy
          have pu : put f' w (f' u + 1) u = f' u := by
            unfold put
            rw [if_neg un]
          rw [pu]
          rcases List.mem_append.mp hy with q | q
          · have := hd y q
            unfold put
            split <;> omega
          · rw [List.mem_singleton.mp q]
            unfold put
            rw [if_pos rfl]
            omega
        · rw [List.getElem?_append_left (List.getElem?_eq_some_iff.mp hu).1]
          exact hu
      · fail "s"
        refine ⟨f', row', _, fun y hy => ?_, hu, S, rfl, O⟩
        rw [tk] at hy
        rcases List.mem_append.mp hy with q | q
        · exact hd y q
        · rw [List.mem_singleton.mp q]
          exact ⟨by omega, S.span k u (Nat.le_refl _) hu w ((S.iff w wn).mpr (by omega))⟩
    · rintro σ H' ⟨f', row', x7, hd, hu, S, rfl, O⟩
      rw [List.length_map, show (nInts (nbs n ps u)).length = (nbs n ps u).length from List.length_map _, List.take_length] at hd
      have S' := S.next hu fun w aw => hd w ((mem_nbs Vv).mpr aw)
      have := (List.getElem?_eq_some_iff.mp hu).1
      exact ⟨m - 1, by omega, k + 1, f', row', B5, _, _, by omega, by omega, Same.trans s4 s5, S', rfl, O⟩
  · fail "s"
    have O := Own.perm O (ls' := (fp, .lst (fl n f)) :: (rp, .lst (rw_ row)) :: (p0, .lst [.int (-1)]) :: ls) (by fail "pm")
    obtain ⟨B5, s5, hf, O⟩ := O.freeze
    exact kQ fp _ B5 f (Same.trans s4 s5) hf (S.far Vv (by omega)) (O.dropP (by fail "p"))

set_option Elab.async false
set_option linter.all false
set_option maxRecDepth 100000
set_option maxHeartbeats 4000000
open PySem PySem.Spec PyProof.Rows L2 Lb


/-! ### networks: next_hops -/
theorem fl_snoc {n : Nat} {f : Nat → Int} : fl n f ++ [.int (f n)] = fl (n + 1) f := by
  unfold fl
  rw [List.range_succ, List.map_append]
  rfl
theorem fl_inv {n i : Nat} {f : Nat → Int} {x : L2.V} (h : (fl n f)[i]? = some x) : i < n ∧ x = .int (f i) := by
  have := (List.getElem?_eq_some_iff.mp h).1
  rw [fl_len] at this
  rw [fl_get this] at h
  cases h
  exact ⟨this, rfl⟩
def rws (ra : Nat → Addr) (T : Nat → Nat → Int) (n m : Nat) : List (Addr × HO) := (List.range m).map fun j => (ra j, .lst (fl n (T j)))
theorem rws_succ {ra : Nat → Addr} {T : Nat → Nat → Int} {n m : Nat} : rws ra T n (m + 1) = rws ra T n m ++ [(ra m, .lst (fl n (T m)))] := by
  unfold rws
  rw [List.range_succ, List.map_append]
  rfl
theorem rws_congr {ra ra' : Nat → Addr} {T T' : Nat → Nat → Int} {n m : Nat} (h : ∀ i, i < m → ra i = ra' i ∧ T i = T' i) : rws ra T n m = rws ra' T' n m := by
  unfold rws
  exact List.map_congr_left fun i hi => by rw [(h i (List.mem_range.mp hi)).1, (h i (List.mem_range.mp hi)).2]
def upT {α : Type} (T : Nat → α) (i : Nat) (g : α) : Nat → α := fun j => if j = i then g else T j
theorem upT_at {α : Type} {T : Nat → α} {i : Nat} {g : α} : upT T i g i = g := if_pos rfl
theorem upT_ne {α : Type} {T : Nat → α} {i j : Nat} {g : α} (h : j ≠ i) : upT T i g j = T j := if_neg h
theorem upT_two {α : Type} {T : Nat → α} {i : Nat} {g g' : α} : upT (upT T i g) i g' = upT T i g' := by
  funext j
  unfold upT
  by_cases e : j = i <;> simp [e]
theorem upT_self {α : Type} {T : Nat → α} {i : Nat} : upT T i (T i) = T := by
  funext j
  unfold upT
  by_cases e : j = i <;> simp [e]
theorem put_two {f : Nat → Int} {i : Nat} {y z : Int} : put (put f i y) i z = put f i z := upT_two
theorem put_self {f : Nat → Int} {i : Nat} : put f i (f i) = f := upT_self
theorem Up1.app {p : Addr} {o o' : HO} {l l' : List (Addr × HO)} (h : Up1 p o o' l l') : ∀ r : List (Addr × HO), Up1 p o o' (r ++ l) (r ++ l')
  | [] => h
  | _ :: r => .there (Up1.app h r)
theorem up_rws {ra : Nat → Addr} {T : Nat → Nat → Int} {n i : Nat} {g : Nat → Int} : ∀ {m : Nat} {ls : List (Addr × HO)}, i < m → Up1 (ra i) (.lst (fl n (T i))) (.lst (fl n g)) (rws ra T n m ++ ls) (rws ra (upT T i g) n m ++ ls)
  | 0, _, h => absurd h (by omega)
  | m + 1, ls, h => by
    rw [rws_succ, rws_succ, List.append_assoc, List.append_assoc]
    rcases Nat.lt_or_ge i m with q | q
    · rw [upT_ne (show m ≠ i by omega)]
      exact up_rws q
    · have e : i = m := by omega
      subst e
      rw [upT_at, rws_congr (ra' := ra) (T' := T) fun j hj => ⟨rfl, upT_ne (by omega)⟩]
      exact Up1.app .here _
theorem mem_rws {ra : Nat → Addr} {T : Nat → Nat → Int} {n m i : Nat} (h : i < m) : (ra i, HO.lst (fl n (T i))) ∈ rws ra T n m := List.mem_map.mpr ⟨i, List.mem_range.mpr h, rfl⟩
def rfs (ra : Nat → Addr) (n : Nat) : List V := (List.range n).map fun i => V.ref (ra i)
theorem rfs_len {ra : Nat → Addr} {n : Nat} : (rfs ra n).length = n := by unfold rfs; rw [List.length_map, List.length_range]
theorem rfs_snoc {ra : Nat → Addr} {n : Nat} : rfs ra n ++ [.ref (ra n)] = rfs ra (n + 1) := by
  unfold rfs
  rw [List.range_succ, List.map_append]
  rfl
theorem rfs_congr {ra ra' : Nat → Addr} {n : Nat} (h : ∀ i, i < n → ra i = ra' i) : rfs ra n = rfs ra' n := by
  unfold rfs
  exact List.map_congr_left fun i hi => by rw [h i (List.mem_range.mp hi)]
theorem rfs_at {ra : Nat → Addr} {n i : Nat} (h : i < n) : atI (rfs ra n) (i : Nat) = some (.ref (ra i)) := atI_nat (by
  unfold rfs
  rw [List.getElem?_map, List.getElem?_range h]
  rfl)
def Tb (n : Nat) (ps : Lk) (F : Nat → Nat → Int) (goal at_ : Nat) (T : Nat → Nat → Int) : Prop := ∀ i g, i < n → g < n → T i g = if g < goal ∨ (g = goal ∧ i < at_) then ((hop n ps (F g) i g : Nat) : Int) else i
set_option maxHeartbeats 32000000 in
theorem pure_next_hops (A : Ad) (vs : List V) (H : Hp) (Q : VK) (E : XK) (h : sp_next_hops A vs H Q E) : t_next_hops A { nx := fun _ H' => Q .non H', rt := Q } (L2.start ["processors", "links", "table", "goal", "far", "at", "other"] vs) H := by
  obtain ⟨a, c, B, ls, lp, ps, n, rfl, O, N, kQ⟩ := h
  have Vv := N.v
  have n6 := N.n6
  rw [st_next_hops]
  unfold t_next_hops
  fail "s"
  refine ⟨by omega, by omega, fun D hD => ?_⟩
  refine i_lcR n rfl (fun i H' => ∃ ra, Own a c B H' ((D, .lst (rfs ra i)) :: (rws ra (fun j _ => (j : Int)) n i ++ ls))) ⟨fun _ => 0, O.new hD⟩ (fun i H' hi ⟨ra, O⟩ => ?_) fun H1 ⟨ra, O⟩ => ?_
  · fail "s"
    rename_i p0 H2 O
    refine i_mul1 O (by fail "h") (by omega) fun r H3 O => ?_
    rw [fl_const] at O
    refine ⟨_, O.mem (by fail "m"), szl (by rw [rfs_len]; omega), upT ra i r, ?_⟩
    have O := O.set (p := D) (o' := .lst (rfs ra i ++ [.ref r])) (.there (.there .here))
    rw [← rfs_snoc, rws_succ, upT_at, ← rfs_congr (ra := ra) (fun j hj => (upT_ne (by omega)).symm), ← rws_congr (ra := ra) (T := fun j _ => (j : Int)) (fun j hj => ⟨(upT_ne (by omega)).symm, rfl⟩), List.append_assoc]
    refine Own.drop (l1 := [(p0, .lst [.int (i : Nat)])]) (O.perm ?_)
    exact (List.Perm.swap _ _ _).trans (.cons _ ((List.Perm.swap _ _ _).trans (.cons _ (List.perm_middle.symm))))
  fail "s"
  refine i_forR n rfl (by omega) (fun goal σ H' => ∃ T F B' x3 x4 x5 x6, Tb n ps F goal 0 T ∧ (∀ g, g < goal → Far n ps g (F g)) ∧ Same B B' ∧ σ = [some (.int (n : Nat)), some (.ref lp), some (.ref D), x3, x4, x5, x6] ∧ Own a c B' H' ((D, .lst (rfs ra n)) :: (rws ra T n n ++ ls)))
    ⟨_, fun _ _ => 0, B, none, none, none, none, fun i g _ _ => by rw [if_neg (by omega)], fun g h => absurd h (by omega), Same.refl _, rfl, O⟩ ?_ ?_
  · rintro goal σ H2 hg ⟨T, F, B2, x3, x4, x5, x6, hT, hF, s2, rfl, O⟩
    fail "s"
    refine ⟨a, c, B2, _, lp, ps, n, goal, rfl, O, N.mono s2, hg, fun fa H3 B3 f s3 hf FF O => ?_⟩
    have hT : Tb n ps (upT F goal f) goal 0 T := fun i g hi hgn => by
      rw [hT i g hi hgn]
      by_cases e : g < goal
      · rw [if_pos (.inl e), if_pos (.inl e), upT_ne (by omega)]
      · rw [if_neg (by omega), if_neg (by omega)]
    fail "s"
    refine i_forR n rfl (by omega) (fun at_ σ H' => ∃ T B' x5 x6, Tb n ps (upT F goal f) goal at_ T ∧ Same B3 B' ∧ σ = [some (.int (n : Nat)), some (.ref lp), some (.ref D), some (.int (goal : Nat)), some (.ref fa), x5, x6] ∧ Own a c B' H' ((D, .lst (rfs ra n)) :: (rws ra T n n ++ ls)))
      ⟨T, B3, _, _, hT, Same.refl _, rfl, O⟩ ?_ ?_
    · rintro u σ H4 hu ⟨T0, B4, x5, x6, hT0, s4, rfl, O⟩
      fail "s"
      refine ⟨a, c, B4, _, lp, ps, n, u, rfl, O, N.mono (Same.trans s2 (Same.trans s3 s4)), hu, fun np H5 B5 s5 hnp O => ?_⟩
      fail "s"
      refine i_forV (O.kp hnp) (fun j σ H' => ∃ x6, σ = [some (.int (n : Nat)), some (.ref lp), some (.ref D), some (.int (goal : Nat)), some (.ref fa), some (.int (u : Nat)), x6] ∧
        Own a c B5 H' ((D, .lst (rfs ra n)) :: (rws ra (upT T0 u (put (T0 u) goal ((((nbs n ps u).reverse.take j).foldl (pick fun o => decide (u ≠ goal) && decide (f o = f u - 1)) u : Nat) : Int))) n n ++ ls))) ⟨_, rfl, ?_⟩ ?_ ?_ ?_
      · have e : T0 u goal = (u : Int) := by rw [hT0 u goal hu hg, if_neg (by omega)]
        rw [show (((nbs n ps u).reverse.take 0).foldl (pick fun o => decide (u ≠ goal) && decide (f o = f u - 1)) u : Nat) = u from rfl, ← e, put_self, upT_self]
        exact O
      · rintro j σ H' ⟨x6, _, O⟩
        exact SqL.of (O.kp hnp)
      · rintro j x σ H' hx ⟨x6, rfl, O⟩
        obtain ⟨o, ho, rfl⟩ : ∃ o : Nat, (nbs n ps u).reverse[j]? = some o ∧ x = .int (o : Nat) := by
          unfold nInts at hx
          rw [← List.map_reverse, ← List.map_reverse] at hx
          exact rw_inv hx
        have om : adj ps u o := (mem_nbs Vv).mp (List.mem_reverse.mp (List.mem_of_getElem? ho))
        have on := (Vv.lt om).2
        have hf' := s5 _ _ (s4 _ _ hf)
        have ao : atI (fl n f) (o : Nat) = some (.int (f o)) := fl_at on
        have au : atI (fl n f) (u : Nat) = some (.int (f u)) := fl_at hu
        have ar : atI (rfs ra n) (u : Nat) = some (.ref (ra u)) := rfs_at hu
        have tk : (nbs n ps u).reverse.take (j + 1) = (nbs n ps u).reverse.take j ++ [o] := by rw [List.take_add_one, ho]; rfl
        rw [tk, List.foldl_append]
        generalize ((nbs n ps u).reverse.take j).foldl (pick fun o => decide (u ≠ goal) && decide (f o = f u - 1)) u = acc at O ⊢
        fail "s"
        have same : (decide (u ≠ goal) && decide (f o = f u - 1)) = false → [o].foldl (pick fun o => decide (u ≠ goal) && decide (f o = f u - 1)) acc = acc := fun h => by
          show (if (decide (u ≠ goal) && decide (f o = f u - 1)) = true then o else acc) = acc
          rw [h]
          rfl
        refine i_n2 (fun h1 => ?_) (fun h1 => ?_)
        · have ne : u ≠ goal := by omega
          fail "s"
          refine i_d2 (fun h2 => ?_) (fun h2 => ?_)
          · have diff : [o].foldl (pick fun o => decide (u ≠ goal) && decide (f o = f u - 1)) acc = o := by
              show (if (decide (u ≠ goal) && decide (f o = f u - 1)) = true then o else acc) = o
              rw [decide_eq_true ne, decide_eq_true h2]
              rfl
            rw [diff]
            fail "s"
            have U := up_rws (ra := ra) (T := upT T0 u (put (T0 u) goal (acc : Int))) (n := n) (g := put (upT T0 u (put (T0 u) goal (acc : Int)) u) goal (o : Int)) (ls := ls) hu
            rw [← fl_set hg] at U
            refine i_setO O (.there U) (ix_nat hg fl_len) fun H6 O => ?_
            rw [upT_two, upT_at, put_two] at O
            exact ⟨_, rfl, O⟩
          · rw [same (by rw [decide_eq_false h2, Bool.and_false])]
            fail "s"
            exact ⟨_, rfl, O⟩
        · have e : u = goal := by omega
          rw [same (by rw [decide_eq_false (fun z => z e), Bool.false_and])]
          fail "s"
          exact ⟨_, rfl, O⟩
      · rintro σ H' ⟨x6, rfl, O⟩
        refine ⟨_, B5, _, _, ?_, Same.trans s4 s5, rfl, O⟩
        rw [List.length_map, show (nInts (nbs n ps u)).length = (nbs n ps u).reverse.length by rw [List.length_reverse]; exact List.length_map _, List.take_length, pick_find]
        have hh : ((nbs n ps u).find? fun o => decide (u ≠ goal) && decide (f o = f u - 1)).getD u = hop n ps f u goal := by
          unfold hop
          by_cases e : u = goal
          · rw [if_pos e, show (fun o : Nat => decide (u ≠ goal) && decide (f o = f u - 1)) = fun _ => false from funext fun o => by rw [decide_eq_false (fun z => z e), Bool.false_and]]
            have : (nbs n ps u).find? (fun _ => false) = none := List.find?_eq_none.mpr fun x _ h => by cases h
            rw [this]
            rfl
          · rw [if_neg e, show (fun o : Nat => decide (u ≠ goal) && decide (f o = f u - 1)) = fun o => decide (f o = f u - 1) from funext fun o => by rw [decide_eq_true e, Bool.true_and]]
        rw [hh]
        intro i g hi hgn
        by_cases e : i = u
        · subst e
          rw [upT_at]
          unfold put
          by_cases e2 : g = goal
          · subst e2
            rw [if_pos rfl, if_pos (.inr ⟨rfl, by omega⟩), upT_at]
          · rw [if_neg e2, hT0 i g hi hgn]
            by_cases e3 : g < goal
            · rw [if_pos (.inl e3), if_pos (.inl e3)]
            · rw [if_neg (by omega), if_neg (by omega)]
        · rw [upT_ne e, hT0 i g hi hgn]
          by_cases e3 : g < goal ∨ (g = goal ∧ i < u)
          · rw [if_pos e3, if_pos (by omega)]
          · rw [if_neg e3, if_neg (by omega)]
    · rintro σ H4 ⟨T1, B4, x5, x6, hT1, s4, rfl, O⟩
      refine ⟨T1, upT F goal f, B4, _, _, _, _, fun i g hi hgn => ?_, fun g h => ?_, Same.trans s2 (Same.trans s3 s4), rfl, O⟩
      · rw [hT1 i g hi hgn]
        by_cases e : g < goal ∨ (g = goal ∧ i < n)
        · rw [if_pos e, if_pos (by omega)]
        · rw [if_neg e, if_neg (by omega)]
      · by_cases e : g = goal
        · subst e
          rw [upT_at]
          exact FF
        · rw [upT_ne e]
          exact hF g (by omega)
  · rintro σ H2 ⟨T, F, B2, x3, x4, x5, x6, hT, hF, s2, rfl, O⟩
    fail "s"
    obtain ⟨B3, s3, h3, _, O⟩ := Own.hide (l1 := (D, HO.lst (rfs ra n)) :: rws ra T n n) (l2 := ls) O
    refine kQ D _ B3 ra F (Same.trans s2 s3) (h3 _ List.mem_cons_self) hF (fun i hi => ?_) O
    rw [h3 _ (List.mem_cons_of_mem _ (mem_rws hi))]
    show some (HO.lst (fl n (T i))) = _
    rw [fl_congr fun g hgn => ?_]
    rw [hT i g hi hgn, if_pos (.inl hgn)]

set_option Elab.async false
set_option linter.all false
set_option maxRecDepth 100000
set_option maxHeartbeats 4000000
open PySem PySem.Spec PyProof.Rows L2 Lb


/-! ### networks: check_network -/
theorem far_conn {n : Nat} {ps : Lk} {f : Nat → Int} (F : Far n ps 0 f) : (∃ v, v < n ∧ f v = -1) ↔ ¬ Conn n ps := by
  constructor
  · rintro ⟨v, h, e⟩ C
    obtain ⟨m, w⟩ := C v h
    rcases F v h with ⟨d, e', _⟩ | ⟨_, k⟩
    · omega
    · exact k m w
  · intro C
    apply Classical.byContradiction
    intro h
    refine C fun v hv => ?_
    rcases F v hv with ⟨d, _, l⟩ | ⟨e, _⟩
    · exact ⟨d, l.1⟩
    · exact absurd ⟨v, hv, e⟩ h
theorem far_low {n : Nat} {ps : Lk} {g : Nat} {f : Nat → Int} (F : Far n ps g f) {v : Nat} (hv : v < n) : -1 ≤ f v := by
  rcases F v hv with ⟨d, e, _⟩ | ⟨e, _⟩ <;> omega
set_option maxHeartbeats 32000000 in
theorem pure_check_network (A : Ad) (vs : List V) (H : Hp) (Q : VK) (E : XK) (h : sp_check_network A vs H Q E) : t_check_network A (fun cls d _ H => E cls d H) { nx := fun _ H' => Q .non H', rt := Q } (L2.start ["processors", "links", "at", "link", "a", "b"] vs) H := by
  obtain ⟨a, c, B, ls, lp, lv, ps, n, rfl, F, O, hl, hP, hz, kE, kQ⟩ := h
  have ec := F.ec
  have ll := hP.length
  rw [st_check_network]
  unfold t_check_network
  fail "s"
  refine i_d2 (fun h1 => ?_) (fun h1 => ?_)
  · fail "s"
    intro d hd
    exact kE _ _ _ B (.procs (.inl h1)) (by decide) (Same.refl _) (O.new hd)
  fail "s"
  refine i_d2 (fun h2 => ?_) (fun h2 => ?_)
  · fail "s"
    intro d hd
    exact kE _ _ _ B (.procs (.inr h2)) (by decide) (Same.refl _) (O.new hd)
  have hn : 1 ≤ n ∧ n ≤ 6 := by omega
  fail "s"
  refine i_forE (O.kp hl) (fun i σ H' => ∃ x2 x3 x4 x5, (∀ k, k < i → ¬ Bad n ps k) ∧ σ = [some (.int n), some (.ref lp), x2, x3, x4, x5] ∧ Own a c B H' ls) ⟨_, _, _, _, fun k h => absurd h (by omega), rfl, O⟩ ?_ ?_ ?_
  · rintro i σ H' ⟨x2, x3, x4, x5, _, _, O⟩
    exact SqL.of (O.kp hl)
  · rintro i y T σ H1 hv hT ⟨x2, x3, x4, x5, hb, rfl, O⟩
    have hi := (List.getElem?_eq_some_iff.mp hv).1
    have O := O.new (o := .tup [.int (i : Nat), y]) hT
    obtain ⟨⟨x, z⟩, hj, t, rfl, hT2⟩ := Lb.Paired.at hP hv
    fail "s"
    refine i_d2 (fun h3 => ?_) (fun h3 => ?_)
    · fail "s"
      intro d hd
      exact kE _ _ _ B (.links hn i ⟨_, hj, .inl h3⟩) (by decide) (Same.refl _) ((O.dropP (l0 := ls) (by fail "p")).new hd)
    fail "s"
    refine i_d2 (fun h5 => ?_) (fun h5 => ?_)
    · fail "s"
      intro d hd
      exact kE _ _ _ B (.links hn i ⟨_, hj, .inr (.inl h5)⟩) (by decide) (Same.refl _) ((O.dropP (l0 := ls) (by fail "p")).new hd)
    fail "s"
    refine i_d2 (fun h4 => ?_) (fun h4 => ?_)
    · fail "s"
      intro d hd
      exact kE _ _ _ B (.links hn i ⟨_, hj, .inr (.inr (.inl h4))⟩) (by decide) (Same.refl _) ((O.dropP (l0 := ls) (by fail "p")).new hd)
    fail "s"
    refine i_slO O (O.kp hl) (cut_to (by omega)) fun p2 H3 O => ?_
    refine i_inP (j := (x, z)) ⟨t, rfl, O.kp hT2⟩ (O.mem (by fail "m")) (Lb.Paired.mono (fun _ _ h => h.mono O.keep) (Lb.Paired.take hP i)) ?_
    fail "s"
    refine i_d2 (fun h6 => ?_) (fun h6 => ?_)
    · fail "s"
      intro d hd
      exact kE _ _ _ B (.links hn i ⟨_, hj, .inr (.inr (.inr h6))⟩) (by decide) (Same.refl _) ((O.dropP (l0 := ls) (by fail "p")).new hd)
    fail "s"
    refine ⟨_, _, _, _, fun k hk => ?_, rfl, O.dropP (by fail "p")⟩
    by_cases e : k = i
    · subst e
      rintro ⟨j, hj', hbad⟩
      rw [hj] at hj'
      cases hj'
      rcases hbad with h | h | h | h
      · exact h3 h
      · exact h5 h
      · exact h4 h
      · exact h6 h
    · exact hb k (by omega)
  · rintro σ H1 ⟨x2, x3, x4, x5, hb, rfl, O⟩
    have hb : ∀ k, ¬ Bad n ps k := fun k => by
      rcases Nat.lt_or_ge k ps.length with q | q
      · exact hb k (by omega)
      · rintro ⟨j, hj, _⟩
        rw [List.getElem?_eq_none q] at hj
        cases hj
    have Vv := val_of hn hb
    obtain ⟨m, rfl⟩ : ∃ m : Nat, n = (m : Int) := ⟨n.toNat, by omega⟩
    rw [Int.toNat_natCast] at Vv
    fail "s"
    refine ⟨a, c, B, ls, lp, ps, m, 0, rfl, O, ⟨⟨lv, hl, hP⟩, Vv, by omega, hz⟩, by omega, fun fa H2 B2 f s2 hf F O => ?_⟩
    fail "s"
    refine i_minL (ns := (List.range m).map f) (by rw [← fl_ints]; exact O.kp hf) (by rw [List.length_map, List.length_range]; omega) fun w hw lo => ?_
    obtain ⟨v, hv, rfl⟩ := List.mem_map.mp hw
    have hv := List.mem_range.mp hv
    fail "s"
    refine i_d2 (fun h6 => ?_) (fun h6 => ?_)
    · fail "s"
      intro d hd
      refine kE _ _ _ B2 (.parts hn hb ((far_conn F).mp ⟨v, hv, ?_⟩)) (by decide) s2 (O.new hd)
      have := far_low F hv
      omega
    · fail "s"
      refine kQ (.ok hn hb (Classical.byContradiction fun z => ?_)) _ B2 s2 O
      obtain ⟨u, h1, h2⟩ := (far_conn F).mpr z
      have := lo (f u) (List.mem_map.mpr ⟨u, List.mem_range.mpr h1, rfl⟩)
      omega

set_option Elab.async false
set_option linter.all false
set_option maxRecDepth 100000
set_option maxHeartbeats 4000000
open PySem PySem.Spec PyProof.Rows L2 Lb


theorem sz2 {n : Nat} (h : n ≤ 10000000) : n ≤ sizeLine := Nat.le_trans h (by decide)
theorem szl2 {n : Nat} (h : n ≤ 10000000) : n < sizeLine := Nat.lt_of_le_of_lt h (by decide)
/-- a statement's tuple -/
theorem smv {B : Hp} {p : V} {s : Sm} (h : Dt B p s.D) : ∃ a xs, p = .ref a ∧ B a = some (.tup xs) := by
  cases s <;> (cases h; exact ⟨_, _, rfl, by assumption⟩)
theorem smDs_all {B : Hp} {xs : List V} {l : List Sm} (h : DtAll B xs (smDs l)) : xs.length = l.length := by
  rw [dtLen h, smDs_len]
theorem smDs_at {B : Hp} {xs : List V} {l : List Sm} (h : DtAll B xs (smDs l)) {i : Nat} {v : V} (e : xs[i]? = some v) : ∃ s, l[i]? = some s ∧ Dt B v s.D := by
  obtain ⟨d, h1, h2⟩ := dtGet h e
  obtain ⟨s, h3, rfl⟩ := smDs_get h1
  exact ⟨s, h3, h2⟩
theorem par_at {B : Hp} {rv : List V} {ts : List Nat} {l : List Sm} (h : DtAll B rv (parD ts (smDs l))) {i : Nat} {v : V} (e : rv[i]? = some v) :
    ∃ a x t s, v = .ref a ∧ B a = some (.tup [.int (t : Nat), x]) ∧ ts[i]? = some t ∧ l[i]? = some s ∧ Dt B x s.D := by
  obtain ⟨d, h1, h2⟩ := dtGet h e
  obtain ⟨t, d', h3, h4, rfl⟩ := zget h1
  obtain ⟨s, h5, rfl⟩ := smDs_get h4
  obtain ⟨a, v0, v1, rfl, ha, d0, d1⟩ := dt2 h2
  rw [dtI d0] at ha
  exact ⟨a, v1, t, s, rfl, ha, h3, h5, d1⟩
theorem parD_len {ts : List Nat} {l : List Sm} (h : ts.length = l.length) : (parD ts (smDs l)).length = l.length := by
  unfold parD
  rw [List.length_zipWith, smDs_len, h, Nat.min_self]
theorem altD_len {rs : List AR} {l : List Sm} (h : rs.length = l.length) : (altD rs (smDs l)).length = l.length := by
  unfold altD
  rw [List.length_zipWith, smDs_len, h, Nat.min_self]
theorem smDs_takeS {l : List Sm} {i : Nat} {s : Sm} (h : l[i]? = some s) : smDs (l.take (i + 1)) = smDs (l.take i) ++ [s.D] := by
  rw [List.take_add_one, h, smDs_app]
  rfl
theorem len_parts (A : Ad) {vs : List V} {H : Hp} {Q : VK} {E : XK} (h : sp_parts A vs H Q E) : vs.length = 1 := by
  obtain ⟨a, c, B, ls, p, s, C, K, rfl, _⟩ := h
  rfl
theorem len_inner_statements (A : Ad) {vs : List V} {H : Hp} {Q : VK} {E : XK} (h : sp_inner_statements A vs H Q E) : vs.length = 1 := by
  obtain ⟨a, c, B, ls, p, s, C, K, rfl, _⟩ := h
  rfl
theorem len_branches (A : Ad) {n : Nat} {vs : List V} {H : Hp} {Q : VK} {E : XK} (h : sp_branches A n vs H Q E) : vs.length = 2 := by
  obtain ⟨a, c, B, ls, p, s, C, K, r, rfl, _⟩ := h
  rfl
theorem len_threads_of (A : Ad) {vs : List V} {H : Hp} {Q : VK} {E : XK} (h : sp_threads_of A vs H Q E) : vs.length = 1 := by
  obtain ⟨a, c, B, ls, p, ce, th, ch, l, rfl, _⟩ := h
  rfl
set_option maxHeartbeats 32000000 in
theorem pure_parts (A : Ad) (vs : List V) (H : Hp) (Q : VK) (E : XK) (h : sp_parts A vs H Q E) : t_parts A { nx := fun _ H' => Q .non H', rt := Q } (L2.start ["s", "_", "statement"] vs) H := by
  obtain ⟨a, c, B, ls, p, s, C, K, rfl, O, ds, w, k⟩ := h
  rw [st_parts]
  unfold t_parts
  have li := len_inner (s := s)
  have ww := w.wt
  have nil : ∀ {p0 : Addr} {H' : Hp}, Own a c B H' ((p0, .lst []) :: ls) → s.parts = [] → Q (.ref p0) H' := fun O e => by
    obtain ⟨B2, s2, h2, O⟩ := O.freeze
    exact k _ _ B2 [] s2 h2 (by rw [e]; exact .nil) O
  cases s with
  | seq l =>
    obtain ⟨t, v0, v1, rfl, ht, d0, d1⟩ := dt2 ds
    rw [dtS d0] at ht
    obtain ⟨q, xs, rfl, hq, dx⟩ := dtL d1
    fail "s"
    exact k q _ B xs (Same.refl _) hq dx O
  | par ts l =>
    obtain ⟨t, v0, v1, rfl, ht, d0, d1⟩ := dt2 ds
    rw [dtS d0] at ht
    obtain ⟨q, xs, rfl, hq, dx⟩ := dtL d1
    have lx := dtLen dx
    rw [parD_len w.ok.1] at lx
    have ll : 20 * l.length ≤ 6000000 + 40 := by have : 20 * l.length ≤ (Sm.par ts l).wt + 40 := li; omega
    fail "s"
    refine ⟨⟨_, SqL.of (O.kp hq)⟩, fun D hD => ?_⟩
    refine lc_list (xs := xs) (fun i H' => ∃ ys, DtAll B ys (smDs (l.take i)) ∧ Own a c B H' ((D, .lst ys) :: ls)) ⟨[], .nil, O.new hD⟩ (fun i H' _ ⟨ys, _, O⟩ => SqL.of (O.kp hq)) (fun i x H' hx ⟨ys, dy, O⟩ => ?_) fun H' ⟨ys, dy, O⟩ => ?_
    · obtain ⟨b, x, tt, s, rfl, hb, _, hs, dsx⟩ := par_at dx hx
      have ly := smDs_all dy
      rw [List.length_take] at ly
      refine i_gtup (O.kp hb) rfl ?_
      refine i_gcons (i_gname (i_gcons (i_gname (i_gnil ?_))))
      refine ⟨rfl, ?_⟩
      fail "s"
      exact ⟨ys, O.mem List.mem_cons_self, szl2 (by omega), ys ++ [x], by rw [smDs_takeS hs]; exact DtAll.append dy (.cons dsx .nil), O.set .here⟩
    · rw [lx, List.take_length] at dy
      obtain ⟨B2, s2, h2, O⟩ := O.freeze
      exact k D _ B2 ys s2 h2 (dy.mono s2) O
  | ite e x y =>
    obtain ⟨t, v0, v1, v2, v3, rfl, ht, d0, d1, d2, d3⟩ := dt4 ds
    rw [dtS d0] at ht
    fail "s"
    rename_i q H' O
    obtain ⟨B2, s2, h2, O⟩ := O.freeze
    exact k q _ B2 _ s2 h2 (.cons (d2.mono s2) (.cons (d3.mono s2) .nil)) O
  | rep e m x =>
    obtain ⟨t, v0, v1, v2, v3, rfl, ht, d0, d1, d2, d3⟩ := dt4 ds
    rw [dtS d0] at ht
    fail "s"
    rename_i q H' O
    obtain ⟨B2, s2, h2, O⟩ := O.freeze
    exact k q _ B2 _ s2 h2 (.cons (d3.mono s2) .nil) O
  | skip =>
    obtain ⟨t, v0, rfl, ht, d0⟩ := dt1 ds
    rw [dtS d0] at ht
    fail "s"
    rename_i q H' O
    exact nil O rfl
  | stop =>
    obtain ⟨t, v0, rfl, ht, d0⟩ := dt1 ds
    rw [dtS d0] at ht
    fail "s"
    rename_i q H' O
    exact nil O rfl
  | set t x =>
    obtain ⟨t, v0, v1, v2, rfl, ht, d0, d1, d2⟩ := dt3 ds
    rw [dtS d0] at ht
    fail "s"
    rename_i q H' O
    exact nil O rfl
  | take cc x =>
    obtain ⟨t, v0, v1, v2, rfl, ht, d0, d1, d2⟩ := dt3 ds
    rw [dtS d0] at ht
    fail "s"
    rename_i q H' O
    exact nil O rfl
  | give cc x =>
    obtain ⟨t, v0, v1, v2, rfl, ht, d0, d1, d2⟩ := dt3 ds
    rw [dtS d0] at ht
    fail "s"
    rename_i q H' O
    exact nil O rfl
  | alt rs l =>
    obtain ⟨t, v0, v1, rfl, ht, d0, d1⟩ := dt2 ds
    rw [dtS d0] at ht
    fail "s"
    rename_i q H' O
    exact nil O rfl
/-- the first word of a statement -/
def Sm.kd : Sm → Str
  | .skip => "skip"
  | .stop => "stop"
  | .set _ _ => "set"
  | .take _ _ => "take"
  | .give _ _ => "give"
  | .ite _ _ _ => "if"
  | .rep _ _ _ => "repeat"
  | .seq _ => "seq"
  | .par _ _ => "par"
  | .alt _ _ => "alt"
theorem sm_kd {B : Hp} {p : V} {s : Sm} (h : Dt B p s.D) : ∃ a xs, p = .ref a ∧ B a = some (.tup (.str s.kd :: xs)) := by
  cases s with
  | skip => obtain ⟨t, v0, rfl, ht, d0⟩ := dt1 h; rw [dtS d0] at ht; exact ⟨_, _, rfl, ht⟩
  | stop => obtain ⟨t, v0, rfl, ht, d0⟩ := dt1 h; rw [dtS d0] at ht; exact ⟨_, _, rfl, ht⟩
  | set t x => obtain ⟨t, v0, v1, v2, rfl, ht, d0, d1, d2⟩ := dt3 h; rw [dtS d0] at ht; exact ⟨_, _, rfl, ht⟩
  | take t x => obtain ⟨t, v0, v1, v2, rfl, ht, d0, d1, d2⟩ := dt3 h; rw [dtS d0] at ht; exact ⟨_, _, rfl, ht⟩
  | give t x => obtain ⟨t, v0, v1, v2, rfl, ht, d0, d1, d2⟩ := dt3 h; rw [dtS d0] at ht; exact ⟨_, _, rfl, ht⟩
  | ite e x y => obtain ⟨t, v0, v1, v2, v3, rfl, ht, d0, d1, d2, d3⟩ := dt4 h; rw [dtS d0] at ht; exact ⟨_, _, rfl, ht⟩
  | rep e m x => obtain ⟨t, v0, v1, v2, v3, rfl, ht, d0, d1, d2, d3⟩ := dt4 h; rw [dtS d0] at ht; exact ⟨_, _, rfl, ht⟩
  | seq l => obtain ⟨t, v0, v1, rfl, ht, d0, d1⟩ := dt2 h; rw [dtS d0] at ht; exact ⟨_, _, rfl, ht⟩
  | par ts l => obtain ⟨t, v0, v1, rfl, ht, d0, d1⟩ := dt2 h; rw [dtS d0] at ht; exact ⟨_, _, rfl, ht⟩
  | alt rs l => obtain ⟨t, v0, v1, rfl, ht, d0, d1⟩ := dt2 h; rw [dtS d0] at ht; exact ⟨_, _, rfl, ht⟩
def Sm.isAlt : Sm → Bool
  | .alt _ _ => true
  | _ => false
theorem kd_alt {s : Sm} (h : s.isAlt = false) : decide (s.kd = ("alt" : Str)) = false := by
  cases s <;> first | (cases h; done) | (rw [decide_eq_false_iff_not]; simp only [Sm.kd]; decide +kernel)
theorem kd_par {s : Sm} (h : s.isPar = false) : decide (s.kd = ("par" : Str)) = false := by
  cases s <;> first | (cases h; done) | (rw [decide_eq_false_iff_not]; simp only [Sm.kd]; decide +kernel)
theorem inner_parts {s : Sm} (h : s.isAlt = false) : s.inner = s.parts := by
  cases s <;> first | rfl | cases h
set_option maxHeartbeats 32000000 in
theorem pure_inner_statements (A : Ad) (vs : List V) (H : Hp) (Q : VK) (E : XK) (h : sp_inner_statements A vs H Q E) : t_inner_statements A { nx := fun _ H' => Q .non H', rt := Q } (L2.start ["s", "row"] vs) H := by
  obtain ⟨a, c, B, ls, p, s, C, K, rfl, O, ds, w, k⟩ := h
  rw [st_inner_statements]
  unfold t_inner_statements
  cases hal : s.isAlt with
  | false =>
    obtain ⟨t, xs, rfl, ht⟩ := sm_kd ds
    have hk := kd_alt hal
    have a0 : atI (V.str s.kd :: xs) 0 = some (.str s.kd) := at0
    fail "s"
    refine i_fB hk ?_
    fail "s"
    exact ⟨a, c, B, ls, _, s, C, K, rfl, O, ds, w, fun q H' B' xs s1 hq dx O => k q H' B' xs s1 hq (by rw [inner_parts hal]; exact dx) O⟩
  | true =>
    cases s with
    | alt rs l =>
      obtain ⟨t, v0, v1, rfl, ht, d0, d1⟩ := dt2 ds
      rw [dtS d0] at ht
      obtain ⟨q, xs, rfl, hq, dx⟩ := dtL d1
      have lx := dtLen dx
      rw [altD_len w.ok.1] at lx
      have li := len_inner (s := .alt rs l)
      have ww := w.wt
      have ll : 20 * l.length ≤ 6000000 + 40 := by have : 20 * l.length ≤ (Sm.alt rs l).wt + 40 := li; omega
      fail "s"
      refine ⟨⟨_, SqL.of (O.kp hq)⟩, fun D hD => ?_⟩
      refine i_lcL xs (fun i H' => ∃ ys, DtAll B ys (smDs (l.take i)) ∧ Own a c B H' ((D, .lst ys) :: ls)) ⟨[], .nil, O.new hD⟩ (fun i H' ⟨ys, _, O⟩ => SqL.of (O.kp hq)) (fun i x H' hx ⟨ys, dy, O⟩ => ?_) fun H' ⟨ys, dy, O⟩ => ?_
      · obtain ⟨b, x0, x2, x3, r, s, rfl, hb, _, hs, _, _, dsx⟩ := row_at dx hx
        have ly := smDs_all dy
        rw [List.length_take] at ly
        fail "s"
        exact ⟨ys, O.mem List.mem_cons_self, szl2 (by omega), ys ++ [x3], by rw [smDs_takeS hs]; exact DtAll.append dy (.cons dsx .nil), O.set .here⟩
      · rw [lx, List.take_length] at dy
        obtain ⟨B2, s2, h2, O⟩ := O.freeze
        exact k D _ B2 ys s2 h2 (dy.mono s2) O
    | _ => cases hal

set_option Elab.async false
set_option linter.all false
set_option maxRecDepth 100000
set_option maxHeartbeats 4000000
open PySem PySem.Spec PyProof.Rows L2 Lb


theorem brs_takeS {p : Nat} {l : List Sm} {i : Nat} {s : Sm} (h : l[i]? = some s) : brs p (l.take (i + 1)) = brs p (l.take i) ++ s.br p := by
  rw [List.take_add_one, h, brs_app]
  show _ ++ (s.br p ++ []) = _
  rw [List.append_nil]
theorem brp_takeS {p : Nat} {l : List Sm} {ts : List Nat} {i t : Nat} {s : Sm} (e : ts.length = l.length) (h : l[i]? = some s) (ht : ts[i]? = some t) : brp p (ts.take (i + 1)) (l.take (i + 1)) = brp p (ts.take i) (l.take i) ++ ⟨t, p, s⟩ :: s.br t := by
  rw [List.take_add_one, List.take_add_one, h, ht]
  exact brp_snoc (by rw [List.length_take, List.length_take, e])
theorem brs_split {p : Nat} {l : List Sm} {i : Nat} {s : Sm} (h : l[i]? = some s) : brs p l = brs p (l.take i) ++ (s.br p ++ brs p (l.drop (i + 1))) := by
  have hi := (List.getElem?_eq_some_iff.mp h).1
  have e : l = l.take i ++ (s :: l.drop (i + 1)) := by
    have h2 := List.drop_eq_getElem_cons hi
    rw [(List.getElem?_eq_some_iff.mp h).2] at h2
    rw [← h2, List.take_append_drop]
  conv => lhs; rw [e]
  rw [brs_app]
  rfl
theorem brp_app {p : Nat} : ∀ {l m : List Sm} {ts us : List Nat}, ts.length = l.length → brp p (ts ++ us) (l ++ m) = brp p ts l ++ brp p us m
  | [], _, [], _, _ => rfl
  | x :: r, m, y :: ts, us, h => by
    show ⟨y, p, x⟩ :: (x.br y ++ brp p (ts ++ us) (r ++ m)) = ⟨y, p, x⟩ :: (x.br y ++ brp p ts r) ++ _
    rw [brp_app (by simpa using h), List.cons_append, List.append_assoc]
  | [], _, _ :: _, _, h => by simp at h
  | _ :: _, _, [], _, h => by simp at h
theorem brp_split {p : Nat} {l : List Sm} {ts : List Nat} {i t : Nat} {s : Sm} (e : ts.length = l.length) (h : l[i]? = some s) (ht : ts[i]? = some t) : brp p ts l = brp p (ts.take i) (l.take i) ++ (⟨t, p, s⟩ :: (s.br t ++ brp p (ts.drop (i + 1)) (l.drop (i + 1)))) := by
  have hi := (List.getElem?_eq_some_iff.mp h).1
  have hj := (List.getElem?_eq_some_iff.mp ht).1
  have e1 : l = l.take i ++ (s :: l.drop (i + 1)) := by
    have h2 := List.drop_eq_getElem_cons hi
    rw [(List.getElem?_eq_some_iff.mp h).2] at h2
    rw [← h2, List.take_append_drop]
  have e2 : ts = ts.take i ++ (t :: ts.drop (i + 1)) := by
    have h2 := List.drop_eq_getElem_cons hj
    rw [(List.getElem?_eq_some_iff.mp ht).2] at h2
    rw [← h2, List.take_append_drop]
  conv => lhs; rw [e1, e2]
  rw [brp_app (by rw [List.length_take, List.length_take, e])]
  rfl
theorem par_only {s : Sm} (h : s.isPar = true) : ∃ ts l, s = .par ts l := by
  cases s <;> first | exact ⟨_, _, rfl⟩ | cases h
set_option maxHeartbeats 64000000 in
theorem pure_branches (A : Ad) (n : Nat) (vs : List V) (H : Hp) (Q : VK) (E : XK) (h : sp_branches A n vs H Q E) : t_branches A n { nx := fun _ H' => Q .non H', rt := Q } (L2.start ["s", "parent", "found", "thread", "statement", "part"] vs) H := by
  obtain ⟨a, c, B, ls, p, s, C, K, r, rfl, O, ds, w, hn, k⟩ := h
  rw [st_branches]
  unfold t_branches
  have li := len_inner (s := s)
  have ww := w.wt
  have bl := br_len (p := r) w.ok
  have tl := w.th
  cases hpa : s.isPar with
  | true =>
    obtain ⟨ts, l, rfl⟩ := par_only hpa
    obtain ⟨t, v0, v1, rfl, ht, d0, d1⟩ := dt2 ds
    rw [dtS d0] at ht
    obtain ⟨q, xs, rfl, hq, dx⟩ := dtL d1
    have lx := dtLen dx
    rw [parD_len w.ok.1] at lx
    fail "s"
    rename_i F H1 O
    refine i_forL xs (fun i σ H' => ∃ B' ys x3 x4, Same B B' ∧ DtAll B' ys ((brp r (ts.take i) (l.take i)).map brD) ∧ Own a c B' H' ((F, .lst ys) :: ls) ∧ σ = [some (.ref t), some (.int (r : Nat)), some (.ref F), x3, x4, none])
      ⟨B, [], none, none, Same.refl _, .nil, O, rfl⟩ (fun i σ H' ⟨B', _, _, _, s', _, O, _⟩ => SqL.of (O.kp (s' _ _ hq))) ?_ ?_
    · rintro i x σ H' hx ⟨B1, ys, x3, x4, s1, dy, O, rfl⟩
      obtain ⟨b, x, tt, s', rfl, hb, htt, hs, dsx⟩ := par_at dx hx
      have hb1 := s1 _ _ hb
      have hin : s' ∈ (Sm.par ts l).inner := List.mem_of_getElem? hs
      have w' := w.inner hin
      have sp := brp_split (p := r) w.ok.1 hs htt
      have ly := dtLen dy
      rw [List.length_map] at ly
      have bl' : (brp r ts l).length = (Sm.par ts l).thr.length := bl
      rw [sp, List.length_append, List.length_cons, List.length_append] at bl'
      have dpi := dp_inner hin
      obtain ⟨n, rfl⟩ : ∃ j, n = j + 1 := ⟨n - 1, by omega⟩
      refine i_gtup (O.kp hb1) rfl ?_
      refine i_gcons (i_gname (i_gcons (i_gname (i_gnil ?_))))
      fail "s"
      rename_i e1 H2 O2 H3 O
      refine ⟨a, c, B1, _, x, s', C, K, tt, rfl, O, dsx.mono s1, w', by omega, fun q2 H4 B2 zs s2 hq2 dz O => ?_⟩
      have lz := dtLen dz
      rw [List.length_map] at lz
      fail "s"
      refine i_extO O (O.kp hq2) (by fail "u") (sz2 (by rw [List.length_append]; show _ + 1 + _ ≤ _; omega)) fun H5 O => ?_
      have O := Own.perm O (ls' := (e1, .tup [.int (tt : Nat), .int (r : Nat), x]) :: (F, .lst (ys ++ [.ref e1] ++ zs)) :: ls) (by fail "pm")
      obtain ⟨B3, s3, h3, O⟩ := O.freeze
      refine ⟨B3, _, _, _, Same.trans s1 (Same.trans s2 s3), ?_, O, rfl⟩
      rw [brp_takeS w.ok.1 hs htt, List.map_append, List.append_assoc]
      exact DtAll.append (dy.mono (Same.trans s2 s3)) (.cons (.tup h3 (.cons (.int _) (.cons (.int _) (.cons (dsx.mono (Same.trans s1 (Same.trans s2 s3))) .nil)))) (dz.mono s3))
    · rintro σ H' ⟨B1, ys, x3, x4, s1, dy, O, rfl⟩
      fail "s"
      rw [lx, List.take_length, ← w.ok.1, List.take_length] at dy
      obtain ⟨B2, s2, h2, O⟩ := O.freeze
      exact k F _ B2 ys (Same.trans s1 s2) h2 (dy.mono s2) O
  | false =>
    have ds0 := ds
    obtain ⟨t, xs, rfl, ht⟩ := sm_kd ds
    have hk := kd_par hpa
    have a0 : atI (V.str s.kd :: xs) 0 = some (.str s.kd) := at0
    rw [br_inner hpa] at bl k
    fail "s"
    rename_i F H1 O
    refine i_fB hk ?_
    fail "s"
    refine ⟨a, c, B, _, _, s, C, K, rfl, O, ds0, w, fun q H2 B1 ps s1 hq dp O => ?_⟩
    have lp := smDs_all dp
    fail "s"
    refine i_forL ps (fun i σ H' => ∃ B' ys x5, Same B1 B' ∧ DtAll B' ys ((brs r (s.inner.take i)).map brD) ∧ Own a c B' H' ((F, .lst ys) :: ls) ∧ σ = [some (.ref t), some (.int (r : Nat)), some (.ref F), none, none, x5])
      ⟨B1, [], none, Same.refl _, .nil, O, rfl⟩ (fun i σ H' ⟨B', _, _, s', _, O, _⟩ => SqL.of (O.kp (s' _ _ hq))) ?_ ?_
    · rintro i x σ H' hx ⟨B2, ys, x5, s2, dy, O, rfl⟩
      obtain ⟨s', hs, dsx⟩ := smDs_at dp hx
      have hin := List.mem_of_getElem? hs
      have w' := w.inner hin
      have sp := brs_split (p := r) hs
      have ly := dtLen dy
      rw [List.length_map] at ly
      rw [sp, List.length_append, List.length_append] at bl
      have dpi := dp_inner hin
      obtain ⟨n, rfl⟩ : ∃ j, n = j + 1 := ⟨n - 1, by omega⟩
      fail "s"
      refine ⟨a, c, B2, _, x, s', C, K, r, rfl, O, dsx.mono s2, w', by omega, fun q2 H4 B3 zs s3 hq2 dz O => ?_⟩
      have lz := dtLen dz
      rw [List.length_map] at lz
      fail "s"
      refine i_extO O (O.kp hq2) (by fail "u") (sz2 (by omega)) fun H5 O => ?_
      refine ⟨B3, _, _, Same.trans s2 s3, ?_, O, rfl⟩
      rw [brs_takeS hs, List.map_append]
      exact DtAll.append (dy.mono s3) dz
    · rintro σ H' ⟨B2, ys, x5, s2, dy, O, rfl⟩
      fail "s"
      rw [lp, List.take_length] at dy
      obtain ⟨B3, s3, h3, O⟩ := O.freeze
      exact k F _ B3 ys (Same.trans s1 (Same.trans s2 s3)) h3 (dy.mono s3) O
theorem core_at {B : Hp} {p : V} {ce : Nat} {ch : List Str} {l : List Sm} (h : Dt B p (coreD ce ch l)) : ∃ a v2 v3, p = .ref a ∧ B a = some (.tup [.str "core", .int (ce : Nat), v2, v3]) ∧ Dt B v2 (.list (ch.map PyData.str)) ∧ Dt B v3 (Sm.seq l).D := by
  obtain ⟨t, v0, v1, v2, v3, rfl, ht, d0, d1, d2, d3⟩ := dt4 h
  rw [dtS d0, dtI d1] at ht
  exact ⟨t, v2, v3, rfl, ht, d2, d3⟩
theorem br_keys {B : Hp} : ∀ {xs : List V} {bs : List Br}, DtAll B xs (bs.map brD) → Paired (KeyV B) xs (bs.map fun b => ((b.t : Nat) : Int))
  | [], [], _ => .nil
  | x :: xs, b :: bs, .cons h t => by
    obtain ⟨q, v0, v1, v2, rfl, ht, d0, d1, d2⟩ := dt3 h
    rw [dtI d0] at ht
    exact .cons ⟨q, _, rfl, ht⟩ (br_keys t)
theorem KeyV.mono {B H : Hp} {x : V} {k : Int} (s : Same B H) (h : KeyV B x k) : KeyV H x k := by
  obtain ⟨t, r, e, h⟩ := h
  exact ⟨t, r, e, s _ _ h⟩
set_option maxHeartbeats 32000000 in
theorem pure_threads_of (A : Ad) (vs : List V) (H : Hp) (Q : VK) (E : XK) (h : sp_threads_of A vs H Q E) : t_threads_of A { nx := fun _ H' => Q .non H', rt := Q } (L2.start ["core", "rows", "_", "parent", "statement"] vs) H := by
  obtain ⟨a, c, B, ls, p, ce, th, ch, l, rfl, O, dc, o, k⟩ := h
  obtain ⟨t, v2, v3, rfl, ht, d2, d3⟩ := core_at dc
  have w := o.sw
  have bl := br_len (p := 0) w.ok
  have tl := w.th
  rw [st_threads_of]
  unfold t_threads_of
  refine i_seq (i_asg (i_ckw ?_))
  fail "s"
  refine ⟨a, c, B, ls, v3, .seq l, ce, ch.length, 0, rfl, O, d3, w, o.bdp, fun q H1 B1 xs s1 hq dx O => ?_⟩
  have lx := dtLen dx
  rw [List.length_map] at lx
  fail "s"
  refine i_sortKey O (O.kp hq) (Lb.Paired.mono (fun _ _ h => KeyV.mono O.keep h) (br_keys dx)) ?_ fun q2 H2 O => ?_
  · have e := br_thr (p := 0) w.ok
    have e2 : ((Sm.seq l).br 0).map (fun b => ((b.t : Nat) : Int)) = ((Sm.seq l).thr).map (fun (n : Nat) => (n : Int)) := by
      rw [← e, List.map_map]
      rfl
    rw [e2]
    have e3 : (Sm.seq l).thr = List.range' 1 (th - 1) := o.thr.2
    rw [e3, List.pairwise_map]
    refine List.Pairwise.imp ?_ List.pairwise_lt_range'
    intro x y hxy
    omega
  obtain ⟨B2, s2, hq2, O⟩ := O.freeze
  have ht2 := s2 _ _ (s1 _ _ ht)
  have dx2 := dx.mono s2
  fail "s"
  rename_i e1 H3 O3 e2 H4 O
  refine ⟨⟨_, SqL.of (O.kp hq2)⟩, fun D hD => ?_⟩
  refine lc_list (xs := xs) (fun i H' => ∃ B' ys, Same B2 B' ∧ DtAll B' ys ((((Sm.seq l).br 0).take i).map rowD2) ∧ Own a c B' H' ((D, .lst ys) :: (e2, .lst [.ref e1]) :: (e1, .tup [.non, v3]) :: ls)) ⟨B2, [], Same.refl _, .nil, O.new hD⟩ (fun i H' _ ⟨B', ys, s', _, O⟩ => SqL.of (O.kp (s' _ _ hq2))) (fun i x H' hx ⟨B', ys, s', dy, O⟩ => ?_) fun H' ⟨B', ys, s', dy, O⟩ => ?_
  · obtain ⟨d, h1, h2⟩ := dtGet dx2 hx
    obtain ⟨b, hb, rfl⟩ := mapGet h1
    obtain ⟨q4, u0, u1, u2, rfl, hq4, f0, f1, f2⟩ := dt3 h2
    rw [dtI f0, dtI f1] at hq4
    have ly := dtLen dy
    rw [List.length_map, List.length_take] at ly
    refine i_gtup (O.kp (s' _ _ hq4)) rfl ?_
    refine i_gcons (i_gname (i_gcons (i_gname (i_gcons (i_gname (i_gnil ?_))))))
    refine ⟨rfl, ?_⟩
    fail "s"
    rename_i q5 H5 O
    obtain ⟨B3, s3, h3, O⟩ := O.freeze
    refine ⟨ys, O.mem List.mem_cons_self, szl2 (by omega), B3, ys ++ [.ref q5], Same.trans s' s3, ?_, O.set .here⟩
    rw [List.take_add_one, hb, List.map_append]
    exact DtAll.append (dy.mono s3) (.cons (.tup h3 (.cons (.int _) (.cons (f2.mono (Same.trans s' s3)) .nil))) .nil)
  · rw [lx, List.take_length] at dy
    have ly := dtLen dy
    rw [List.length_map] at ly
    refine i_addN (xs := [.ref e1]) (ys := ys) (O.mem (by fail "m")) (O.mem (by fail "m")) (sz2 (by show 1 + ys.length ≤ _; omega)) ?_
    fail "s"
    rename_i q6 H6 O
    have O := Own.perm O (ls' := (q6, .lst ([.ref e1] ++ ys)) :: (e1, .tup [.non, v3]) :: (D, .lst ys) :: (e2, .lst [.ref e1]) :: ls) (by fail "pm")
    obtain ⟨B3, s3, h3, O⟩ := O.freeze
    obtain ⟨B4, s4, h4, O⟩ := O.freeze
    have O := Own.drop (l1 := [(D, .lst ys), (e2, .lst [.ref e1])]) O
    have sA := Same.trans s2 (Same.trans s' (Same.trans s3 s4))
    exact k q6 _ B4 _ (Same.trans s1 sA) (s4 _ _ h3) (.cons (.tup h4 (.cons .non (.cons (d3.mono (Same.trans s1 sA)) .nil))) (dy.mono (Same.trans s3 s4))) O

set_option Elab.async false
set_option linter.all false
set_option maxRecDepth 100000
set_option maxHeartbeats 4000000
open PySem PySem.Spec PyProof.Rows L2 Lb


local macro_rules | `(tactic| fail "sub") => `(tactic| (focus ((repeat (first | exact List.Sublist.refl _ | apply List.Sublist.cons₂ | apply List.Sublist.cons)); done)))
theorem Own.sub {a c : Addr} {B H : Hp} {ls ls' : List (Addr × HO)} (O : Own a c B H ls) (h : ls'.Sublist ls) : Own a c B H ls' := by
  obtain ⟨l, hl⟩ := h.exists_perm_append
  exact Own.drop (l1 := l) (Own.perm O (hl.trans List.perm_append_comm))
/-! ### plans: the walks -/
theorem len_Plan_init (A : Ad) {vs : List V} {H : Hp} {Q : VK} {E : XK} (h : sp_Plan_init A vs H Q E) : vs.length = 4 := by
  obtain ⟨a, c, B, ls, x, dx, nt, pp, hp, lp, n, lv, ps, P, Hm, rfl, _⟩ := h
  rfl
theorem len_make_plan (A : Ad) {vs : List V} {H : Hp} {Q : VK} {E : XK} (h : sp_make_plan A vs H Q E) : vs.length = 4 := by
  obtain ⟨a, c, B, ls, p, nt, pp, hp, ce, th, ch, l, n, lp, lv, ps, P, Hm, rfl, _⟩ := h
  rfl
set_option maxHeartbeats 32000000 in
theorem pure_Plan_init (A : Ad) (vs : List V) (H : Hp) (Q : VK) (E : XK) (h : sp_Plan_init A vs H Q E) : t_Plan_init A { nx := fun _ H' => Q .non H', rt := Q } (L2.start ["self", "network", "threads", "homes"] vs) H := by
  obtain ⟨a, c, B, ls, x, dx, nt, pp, hp, lp, n, lv, ps, P, Hm, rfl, ⟨ec, ch, n1, n2, n3, n4, n5⟩, O, ht, hl, hP, hz, Vv, n6, hpp, hhp, k⟩ := h
  rw [st_Plan_init]
  unfold t_Plan_init
  fail "s"
  rename_i H1 O1 lq H2 O2 H3 O3 pq H4 O4 H5 O5 hq H6 O6 H7 O
  have O : Own a c B H7 ((lq, .lst lv) :: (pq, .lst (P.map V.int)) :: (hq, .lst (Hm.map V.int)) :: (x, .ins A.c_Plan dx [("processors", .int (n : Nat)), ("links", .ref lq), ("threads", .ref pq), ("homes", .ref hq)]) :: (dx, .own x) :: ls) := Own.perm O (by fail "pm")
  obtain ⟨B1, s1, h1, O⟩ := O.freeze
  obtain ⟨B2, s2, h2, O⟩ := O.freeze
  obtain ⟨B3, s3, h3, O⟩ := O.freeze
  have sA := Same.trans s1 (Same.trans s2 s3)
  refine ⟨a, c, B3, _, lq, ps, n, rfl, O, ⟨⟨lv, s3 _ _ (s2 _ _ h1), Lb.Paired.mono (fun _ _ h => h.mono sA) hP⟩, Vv, n6, hz⟩, fun hops H8 B4 ra F s4 e1 e2 e3 O => ?_⟩
  fail "s"
  rename_i H9 O
  exact k lq pq hq hops H9 B4 (Same.trans sA s4) (s4 _ _ (s3 _ _ (s2 _ _ h1))) (s4 _ _ (s3 _ _ h2)) (s4 _ _ h3) ⟨ra, F, e1, e2, e3⟩ O
theorem strs_len {B : Hp} {v : V} {ch : List Str} (h : Dt B v (.list (ch.map PyData.str))) : ∃ q, v = .ref q ∧ B q = some (.lst (ch.map V.str)) := by
  obtain ⟨q, xs, rfl, hq, dx⟩ := dtL h
  refine ⟨q, rfl, ?_⟩
  have e : ∀ {xs : List V} {ch : List Str}, DtAll B xs (ch.map PyData.str) → xs = ch.map V.str := by
    intro xs ch
    induction ch generalizing xs with
    | nil => intro h; cases h; rfl
    | cons s r ih =>
      intro h
      cases h with
      | cons h1 h2 =>
        cases h1
        rw [ih h2]
        rfl
  rw [hq, e dx]
set_option maxHeartbeats 64000000 in
theorem pure_make_plan (A : Ad) (vs : List V) (H : Hp) (Q : VK) (E : XK) (h : sp_make_plan A vs H Q E) : t_make_plan A (fun cls d _ H => E cls d H) { nx := fun _ H' => Q .non H', rt := Q } (L2.start ["core", "network", "places", "homes", "place", "kind", "home"] vs) H := by
  obtain ⟨a, c, B, ls, p, nt, pp, hp, ce, th, ch, l, n, lp, lv, ps, P, Hm, rfl, cf, O, ⟨dc, o, ht, hl, hP, hz, hpp, hhp, zp, zh⟩, kE, kQ⟩ := h
  have ec := cf.ec
  obtain ⟨t, v2, v3, rfl, hc, d2, d3⟩ := core_at dc
  obtain ⟨cq, rfl, hcq⟩ := strs_len d2
  have c24 := o.c24
  rw [st_make_plan]
  unfold t_make_plan
  fail "s"
  refine ⟨a, c, B, ls, lp, lv, ps, n, rfl, cf, O, hl, hP, hz, fun r d H' B' D ne s O => kE r d H' B' (.net D ne) ne s O, fun D H1 B1 s1 O => ?_⟩
  have hcq1 := s1 _ _ hcq
  have hc1 := s1 _ _ hc
  have hpp1 := s1 _ _ hpp
  have hhp1 := s1 _ _ hhp
  have ht1 := s1 _ _ ht
  fail "s"
  refine ⟨a, c, B1, ls, .ref t, ce, th, ch, l, rfl, O, dc.mono s1, o, fun q H2 B2 xs s2 hq dx O => ?_⟩
  have lx := dtLen dx
  rw [List.length_cons, List.length_map, Nat.add_comm] at lx
  have lx : xs.length = thN l := lx
  have hcq2 := s2 _ _ hcq1
  have hc2 := s2 _ _ hc1
  have hpp2 := s2 _ _ hpp1
  have hhp2 := s2 _ _ hhp1
  have ht2 := s2 _ _ ht1
  have s12 := Same.trans s1 s2
  fail "s"
  rw [List.length_map, lx]
  refine i_n2 (fun h1 => ?_) (fun h1 => ?_)
  · fail "s"
    intro d hd
    exact kE _ _ _ B2 (.places D fun g => h1 (by rw [g.1])) (by decide) s12 (O.new hd)
  fail "s"
  rw [List.length_map, List.length_map]
  refine i_n2 (fun h2 => ?_) (fun h2 => ?_)
  · fail "s"
    intro d hd
    exact kE _ _ _ B2 (.places D fun g => h2 (by rw [g.2.1])) (by decide) s12 (O.new hd)
  have h1 : P.length = thN l := by omega
  have h2 : Hm.length = ch.length := by omega
  fail "s"
  rename_i u1 K1 P1 u2 K2 P2 u3 K3 O
  have O : Own a c B2 K3 ((u3, .lst (P.map V.int ++ Hm.map V.int)) :: ls) := Own.sub O (by fail "sub")
  rw [← List.map_append] at O
  refine i_forL ((P ++ Hm).map V.int) (fun i σ H' => ∃ x4, (∀ x ∈ (P ++ Hm).take i, 0 ≤ x ∧ x < n) ∧ Own a c B2 H' ((u3, .lst ((P ++ Hm).map V.int)) :: ls) ∧ σ = [some (.ref t), some (.ref nt), some (.ref pp), some (.ref hp), x4, none, none])
    ⟨none, fun x hx => by simp at hx, O, rfl⟩ (fun i σ H' ⟨_, _, O, _⟩ => SqL.of (O.mem (by fail "m"))) ?_ ?_
  · rintro i x σ H' hx ⟨x4, hb, O, rfl⟩
    obtain ⟨y, hy, rfl⟩ := mapGet hx
    have ym := List.mem_of_getElem? hy
    fail "s"
    refine i_d2 (fun h3 => ?_) (fun h3 => ?_)
    · fail "s"
      intro d hd
      exact kE _ _ _ B2 (.places D fun g => by have := g.2.2 y ym; omega) (by decide) s12 ((O.dropP (l0 := ls) (by fail "p")).new hd)
    fail "s"
    refine i_d2 (fun h4 => ?_) (fun h4 => ?_)
    · fail "s"
      intro d hd
      exact kE _ _ _ B2 (.places D fun g => by have := g.2.2 y ym; omega) (by decide) s12 ((O.dropP (l0 := ls) (by fail "p")).new hd)
    fail "s"
    refine ⟨_, fun x hx => ?_, O, rfl⟩
    rw [List.take_add_one, hy] at hx
    rcases List.mem_append.mp hx with h | h
    · exact hb x h
    · rw [List.mem_singleton.mp h]
      omega
  rintro σ H' ⟨x4, hb, O, rfl⟩
  rw [List.length_map, List.take_length] at hb
  have O := O.dropP (l0 := ls) (by fail "p")
  have gp : GoodPl n (thN l) ch P Hm := ⟨h1, h2, hb⟩
  fail "s"
  refine i_forZ (O.kp hcq2) (O.kp hhp2) (by rw [List.length_map, List.length_map]; omega) (fun i σ H' => ∃ x5 x6, (∀ k s y, k < i → ch[k]? = some s → s ≠ "inner" → Hm[k]? = some y → y = 0) ∧ Own a c B2 H' ls ∧ σ = [some (.ref t), some (.ref nt), some (.ref pp), some (.ref hp), x4, x5, x6])
    ⟨none, none, fun k s y h => absurd h (by omega), O, rfl⟩ (fun i σ H' ⟨_, _, _, O, _⟩ => ⟨SqL.of (O.kp hcq2), SqL.of (O.kp hhp2)⟩) ?_ ?_
  · rintro i x y T σ H' hx hy hT ⟨x5, x6, hb, O, rfl⟩
    obtain ⟨s, hs, rfl⟩ := mapGet hx
    obtain ⟨z, hz, rfl⟩ := mapGet hy
    have O := O.new (o := .tup [.str s, .int z]) hT
    have stay : (s ≠ "inner" → z = 0) → ∀ k s' y, k < i + 1 → ch[k]? = some s' → s' ≠ "inner" → Hm[k]? = some y → y = 0 := fun hsz k s' y hk e1 e2 e3 => by
      by_cases e : k = i
      · subst e
        rw [hs] at e1
        rw [hz] at e3
        cases e1
        cases e3
        exact hsz e2
      · exact hb k s' y (by omega) e1 e2 e3
    fail "s"
    refine i_n2 (fun h3 => ?_) (fun h3 => ?_)
    · fail "s"
      refine i_n2 (fun h4 => ?_) (fun h4 => ?_)
      · fail "s"
        intro d hd
        exact kE _ _ _ B2 (.homes D gp ⟨i, s, z, hs, h3, hz, h4⟩) (by decide) s12 ((O.dropP (l0 := ls) (by fail "p")).new hd)
      · fail "s"
        exact ⟨_, _, stay fun _ => h4, O.dropP (by fail "p"), rfl⟩
    · fail "s"
      exact ⟨_, _, stay fun h => absurd h3 h, O.dropP (by fail "p"), rfl⟩
  rintro σ H' ⟨x5, x6, hb, O, rfl⟩
  rw [List.length_map] at hb
  have nb : ¬ BadHm ch Hm := fun ⟨k, s, y, e1, e2, e3, e4⟩ => e4 (hb k s y (List.getElem?_eq_some_iff.mp e1).1 e1 e2 e3)
  obtain ⟨hn, nbad, conn⟩ : (1 ≤ n ∧ n ≤ 6) ∧ (∀ k, ¬ Bad n ps k) ∧ Conn n.toNat ps := by
    generalize hr : ("" : Str) = r at D
    cases D with
    | procs => exact absurd hr (by decide)
    | links => exact absurd hr (by decide)
    | parts => exact absurd hr (by decide)
    | ok h b c => exact ⟨h, b, c⟩
  have Vv := val_of hn nbad
  obtain ⟨m, rfl⟩ : ∃ m : Nat, n = (m : Int) := ⟨n.toNat, by omega⟩
  rw [Int.toNat_natCast] at Vv
  have kQ := kQ (.ok D gp nb)
  fail "s"
  rename_i x dx H3 O
  refine ⟨a, c, B2, ls, x, dx, nt, pp, hp, lp, m, lv, ps, P, Hm, rfl, cf, O, ht2, s12 _ _ hl, Lb.Paired.mono (fun _ _ h => h.mono s12) hP, hz, Vv, by omega, hpp2, hhp2, fun lq pq hq hops H4 B3 s3 e1 e2 e3 e4 O => ⟨rfl, ?_⟩⟩
  have O := Own.perm O (List.Perm.swap _ _ _)
  have O := Own.drop (l1 := [(dx, HO.own x)]) O
  obtain ⟨B4, s4, hx, O⟩ := O.freeze
  exact kQ x dx lq pq hq hops _ B4 (Same.trans s12 (Same.trans s3 s4)) hx (s4 _ _ e1) (s4 _ _ e2) (s4 _ _ e3) (by rw [Int.toNat_natCast]; exact e4.mono s4) O

set_option Elab.async false
set_option linter.all false
set_option maxRecDepth 100000
set_option maxHeartbeats 4000000
open PySem PySem.Spec PyProof.Rows L2 Lb


/-! ### the threads and the network that the law draws -/
local macro_rules | `(tactic| fail "s1") => `(tactic| with_reducible (apply i_addN; (solve | fail "h"); (solve | fail "h"); (exact (sz2 (by (try simp) <;> omega)))))
def TreeL (n : Nat) (ps : Lk) : Prop := ∃ d : Nat → Nat, (∀ i, d i ≤ i) ∧ ps = (List.range (n - 1)).map fun i => (((d i : Nat) : Int), ((i + 1 : Nat) : Int))
theorem tree_get {n : Nat} {ps : Lk} {d : Nat → Nat} (e : ps = (List.range (n - 1)).map fun i => (((d i : Nat) : Int), ((i + 1 : Nat) : Int))) {k : Nat} {j : Int × Int} (h : ps[k]? = some j) : k < n - 1 ∧ j = (((d k : Nat) : Int), ((k + 1 : Nat) : Int)) := by
  rw [e] at h
  obtain ⟨i, hi, rfl⟩ := mapGet h
  have hk := (List.getElem?_eq_some_iff.mp hi).1
  rw [List.length_range] at hk
  rw [List.getElem?_range hk] at hi
  cases hi
  exact ⟨hk, rfl⟩
theorem Fine.good {n : Nat} {ps : Lk} (F : Fine n ps) : ∀ k, ¬ Bad n ps k := by
  rintro k ⟨j, hj, h⟩
  have hv := F.v j (List.mem_of_getElem? hj)
  rcases h with h | h | h | h
  · omega
  · omega
  · omega
  · obtain ⟨i, hi⟩ := List.mem_iff_getElem?.mp h
    have hik : i < k := by
      have := (List.getElem?_eq_some_iff.mp hi).1
      rw [List.length_take] at this
      omega
    rw [List.getElem?_take, if_pos hik] at hi
    have h1 := (List.getElem?_eq_some_iff.mp hi).1
    have h2 := (List.getElem?_eq_some_iff.mp hj).1
    have e1 := (List.getElem?_eq_some_iff.mp hi).2
    have e2 := (List.getElem?_eq_some_iff.mp hj).2
    have := (List.nodup_iff_pairwise_ne.mp F.nd)
    exact (List.pairwise_iff_getElem.mp this i k h1 h2 hik) (by rw [e1, e2])
theorem TreeL.fine {n : Nat} {ps : Lk} (T : TreeL n ps) : Fine n ps := by
  obtain ⟨d, hd, e⟩ := T
  constructor
  · intro j hj
    obtain ⟨k, hk⟩ := List.mem_iff_getElem?.mp hj
    obtain ⟨h1, rfl⟩ := tree_get e hk
    have := hd k
    simp only
    omega
  · rw [e]
    refine List.nodup_iff_pairwise_ne.mpr (List.pairwise_map.mpr (List.pairwise_lt_range.imp fun h z => ?_))
    have := (Prod.mk.injEq .. ▸ z).2
    omega
theorem TreeL.conn {n : Nat} {ps : Lk} (T : TreeL n ps) : Conn n ps := by
  obtain ⟨d, hd, e⟩ := T
  intro v
  induction v using Nat.strongRecOn with
  | _ v ih =>
    intro hv
    cases v with
    | zero => exact ⟨0, rfl⟩
    | succ u =>
      have h1 := hd u
      obtain ⟨m, w⟩ := ih (d u) (by omega) (by omega)
      refine ⟨m + 1, d u, w, .inl ?_⟩
      rw [e]
      exact List.mem_map.mpr ⟨u, List.mem_range.mpr (by omega), rfl⟩
theorem TreeL.snoc {i : Nat} {ps : Lk} (T : TreeL (i + 1) ps) {r : Nat} (hr : r ≤ i) : TreeL (i + 1 + 1) (ps ++ [((r : Int), ((i + 1 : Nat) : Int))]) := by
  obtain ⟨d, hd, e⟩ := T
  refine ⟨fun j => if j = i then r else d j, fun j => ?_, ?_⟩
  · show (if j = i then r else d j) ≤ j
    by_cases h : j = i
    · rw [if_pos h, h]; exact hr
    · rw [if_neg h]; exact hd j
  · rw [e]
    show _ = (List.range (i + 1)).map _
    rw [List.range_succ, List.map_append]
    congr 1
    · exact List.map_congr_left fun j hj => by
        have := List.mem_range.mp hj
        have h : ¬ j = i := by have : j < i := this; omega
        simp only [if_neg h]
    · simp

theorem len_l_threads (A : Ad) {n : Nat} {vs : List V} {H : Hp} {Q : VK} {E : XK} (h : sp_l_threads A n vs H Q E) : vs.length = 1 := by
  obtain ⟨a, c, B, ls, p, s, C, K, rfl, _⟩ := h
  rfl
theorem len_l_network (A : Ad) {vs : List V} {H : Hp} {Q : VK} {E : XK} (h : sp_l_network A vs H Q E) : vs.length = 1 := by
  obtain ⟨a, c, B, ls, rfl, _⟩ := h
  rfl
theorem nv_app {l m : List Nat} : nv (l ++ m) = nv l ++ nv m := List.map_append
theorem nv_one {k : Nat} : nv [k] = [.int (k : Nat)] := rfl
set_option maxHeartbeats 64000000 in
theorem pure_l_threads (A : Ad) (n : Nat) (vs : List V) (H : Hp) (Q : VK) (E : XK) (h : sp_l_threads A n vs H Q E) : t_l_threads A n { nx := fun _ H' => Q .non H', rt := Q } (L2.start ["_law_s", "_law_kind", "_law_found", "_law_number_here", "_law_part", "_law_row"] vs) H := by
  obtain ⟨a, c, B, ls, p, s, C, K, rfl, O, ds, w, hn, k⟩ := h
  have bl := br_thr (p := 0) w.ok
  have tl := w.th
  rw [← bl] at k tl
  rw [List.length_map] at tl
  rw [st_l_threads]
  unfold t_l_threads
  cases s with
  | skip =>
    obtain ⟨tt, v0, rfl, ht, d0⟩ := dt1 ds
    rw [dtS d0] at ht
    fail "s"
    rename_i q H' O
    exact k q H' O
  | stop =>
    obtain ⟨tt, v0, rfl, ht, d0⟩ := dt1 ds
    rw [dtS d0] at ht
    fail "s"
    rename_i q H' O
    exact k q H' O
  | set t x =>
    obtain ⟨tt, v0, v1, v2, rfl, ht, d0, d1, d2⟩ := dt3 ds
    rw [dtS d0] at ht
    fail "s"
    rename_i q H' O
    exact k q H' O
  | take cc x =>
    obtain ⟨tt, v0, v1, v2, rfl, ht, d0, d1, d2⟩ := dt3 ds
    rw [dtS d0] at ht
    fail "s"
    rename_i q H' O
    exact k q H' O
  | give cc x =>
    obtain ⟨tt, v0, v1, v2, rfl, ht, d0, d1, d2⟩ := dt3 ds
    rw [dtS d0] at ht
    fail "s"
    rename_i q H' O
    exact k q H' O
  | ite x y z =>
    obtain ⟨tt, v0, v1, v2, v3, rfl, ht, d0, d1, d2, d3⟩ := dt4 ds
    rw [dtS d0] at ht
    have i1 : y ∈ (Sm.ite x y z).inner := by show y ∈ [y, z]; simp
    have i2 : z ∈ (Sm.ite x y z).inner := by show z ∈ [y, z]; simp
    have e1 := dp_inner i1
    have e2 := dp_inner i2
    have t1 := br_thr (p := 0) (w.inner i1).ok
    have t2 := br_thr (p := 0) (w.inner i2).ok
    have t1' := (w.inner i1).th
    have t2' := (w.inner i2).th
    obtain ⟨n, rfl⟩ : ∃ j, n = j + 1 := ⟨n - 1, by omega⟩
    have z1 : (nv y.thr).length = y.thr.length := nv_len
    have z2 : (nv z.thr).length = z.thr.length := nv_len
    fail "s"
    rename_i q0 H0 O
    refine ⟨a, c, B, _, v2, y, C, K, rfl, O, d2, w.inner i1, by omega, fun q1 H1 O => ?_⟩
    fail "s"
    refine ⟨a, c, B, _, v3, z, C, K, rfl, O, d3, w.inner i2, by omega, fun q2 H2 O => ?_⟩
    refine i_addN (O.mem (by fail "m")) (O.mem (by fail "m")) (sz2 (by omega)) ?_
    fail "s"
    rename_i q3 H3 O
    rw [← nv_app, ← t1, ← t2, ← List.map_append] at O
    exact k q3 H3 (Own.sub O (by fail "sub"))
  | rep x m z =>
    obtain ⟨tt, v0, v1, v2, v3, rfl, ht, d0, d1, d2, d3⟩ := dt4 ds
    rw [dtS d0] at ht
    have i1 : z ∈ (Sm.rep x m z).inner := by show z ∈ [z]; simp
    have e1 := dp_inner i1
    have t1 := br_thr (p := 0) (w.inner i1).ok
    obtain ⟨n, rfl⟩ : ∃ j, n = j + 1 := ⟨n - 1, by omega⟩
    fail "s"
    rename_i q0 H0 O
    refine ⟨a, c, B, _, v3, z, C, K, rfl, O, d3, w.inner i1, by omega, fun q1 H1 O => ?_⟩
    fail "s"
    rw [← t1] at O
    exact k q1 H1 (Own.sub O (by fail "sub"))
  | seq l =>
    obtain ⟨tt, v0, v1, rfl, ht, d0, d1⟩ := dt2 ds
    rw [dtS d0] at ht
    obtain ⟨q, xs, rfl, hq, dx⟩ := dtL d1
    have lx := smDs_all dx
    rw [br_inner (s := .seq l) rfl] at k tl
    fail "s"
    rename_i q0 H0 O
    refine i_forL xs (fun i σ H' => ∃ F x4, Own a c B H' ((F, .lst (nv ((brs 0 (l.take i)).map (·.t)))) :: ls) ∧ σ = [some (.ref tt), some (.str "seq"), some (.ref F), none, x4, none]) ⟨q0, none, O, rfl⟩ (fun i σ H' ⟨_, _, O, _⟩ => SqL.of (O.kp hq)) ?_ ?_
    · rintro i x σ H' hx ⟨F, x4, O, rfl⟩
      obtain ⟨s', hs, dsx⟩ := smDs_at dx hx
      have hin : s' ∈ (Sm.seq l).inner := List.mem_of_getElem? hs
      have e1 := dp_inner hin
      have t1 := br_thr (p := 0) (w.inner hin).ok
      have sp := brs_split (p := 0) hs
      have tl : (brs 0 l).length ≤ 100 := tl
      rw [sp, List.length_append, List.length_append] at tl
      have z1 : (nv ((brs 0 (l.take i)).map (·.t))).length = (brs 0 (l.take i)).length := by rw [nv_len, List.length_map]
      have z2 : (nv s'.thr).length = (s'.br 0).length := by rw [nv_len, ← t1, List.length_map]
      obtain ⟨n, rfl⟩ : ∃ j, n = j + 1 := ⟨n - 1, by omega⟩
      fail "s"
      refine ⟨a, c, B, _, x, s', C, K, rfl, O, dsx, w.inner hin, by omega, fun q1 H1 O => ?_⟩
      refine i_addN (O.mem (by fail "m")) (O.mem (by fail "m")) (sz2 (by omega)) ?_
      fail "s"
      rename_i q3 H3 O
      rw [← nv_app, ← t1, ← List.map_append, ← brs_takeS hs] at O
      exact ⟨q3, _, Own.sub O (by fail "sub"), rfl⟩
    · rintro σ H' ⟨F, x4, O, rfl⟩
      rw [lx, List.take_length] at O
      fail "s"
      exact k F _ O
  | alt rs l =>
    obtain ⟨tt, v0, v1, rfl, ht, d0, d1⟩ := dt2 ds
    rw [dtS d0] at ht
    obtain ⟨q, xs, rfl, hq, dx⟩ := dtL d1
    have lx := dtLen dx
    rw [altD_len w.ok.1] at lx
    rw [br_inner (s := .alt rs l) rfl] at k tl
    fail "s"
    rename_i q0 H0 O
    refine i_forL xs (fun i σ H' => ∃ F x5, Own a c B H' ((F, .lst (nv ((brs 0 (l.take i)).map (·.t)))) :: ls) ∧ σ = [some (.ref tt), some (.str "alt"), some (.ref F), none, none, x5]) ⟨q0, none, O, rfl⟩ (fun i σ H' ⟨_, _, O, _⟩ => SqL.of (O.kp hq)) ?_ ?_
    · rintro i x σ H' hx ⟨F, x5, O, rfl⟩
      obtain ⟨b, y0, y2, y3, ar, s', rfl, hb, hr, hs, _, _, dsx⟩ := row_at dx hx
      have hin : s' ∈ (Sm.alt rs l).inner := List.mem_of_getElem? hs
      have e1 := dp_inner hin
      have t1 := br_thr (p := 0) (w.inner hin).ok
      have sp := brs_split (p := 0) hs
      have tl : (brs 0 l).length ≤ 100 := tl
      rw [sp, List.length_append, List.length_append] at tl
      have z1 : (nv ((brs 0 (l.take i)).map (·.t))).length = (brs 0 (l.take i)).length := by rw [nv_len, List.length_map]
      have z2 : (nv s'.thr).length = (s'.br 0).length := by rw [nv_len, ← t1, List.length_map]
      obtain ⟨n, rfl⟩ : ∃ j, n = j + 1 := ⟨n - 1, by omega⟩
      fail "s"
      refine ⟨a, c, B, _, y3, s', C, K, rfl, O, dsx, w.inner hin, by omega, fun q1 H1 O => ?_⟩
      refine i_addN (O.mem (by fail "m")) (O.mem (by fail "m")) (sz2 (by omega)) ?_
      fail "s"
      rename_i q3 H3 O
      rw [← nv_app, ← t1, ← List.map_append, ← brs_takeS hs] at O
      exact ⟨q3, _, Own.sub O (by fail "sub"), rfl⟩
    · rintro σ H' ⟨F, x5, O, rfl⟩
      rw [lx, List.take_length] at O
      fail "s"
      exact k F _ O
  | par ts l =>
    obtain ⟨tt, v0, v1, rfl, ht, d0, d1⟩ := dt2 ds
    rw [dtS d0] at ht
    obtain ⟨q, xs, rfl, hq, dx⟩ := dtL d1
    have lx := dtLen dx
    rw [parD_len w.ok.1] at lx
    fail "s"
    rename_i q0 H0 O
    refine i_forL xs (fun i σ H' => ∃ F x3 x4, Own a c B H' ((F, .lst (nv ((brp 0 (ts.take i) (l.take i)).map (·.t)))) :: ls) ∧ σ = [some (.ref tt), some (.str "par"), some (.ref F), x3, x4, none]) ⟨q0, none, none, O, rfl⟩ (fun i σ H' ⟨_, _, _, O, _⟩ => SqL.of (O.kp hq)) ?_ ?_
    · rintro i x σ H' hx ⟨F, x3, x4, O, rfl⟩
      obtain ⟨b, x, t, s', rfl, hb, ht', hs, dsx⟩ := par_at dx hx
      have hin : s' ∈ (Sm.par ts l).inner := List.mem_of_getElem? hs
      have e1 := dp_inner hin
      have t1 := br_thr (p := t) (w.inner hin).ok
      have sp := brp_split (p := 0) w.ok.1 hs ht'
      have tl : (brp 0 ts l).length ≤ 100 := tl
      rw [sp, List.length_append, List.length_cons, List.length_append] at tl
      have z1 : (nv ((brp 0 (ts.take i) (l.take i)).map (·.t))).length = (brp 0 (ts.take i) (l.take i)).length := by rw [nv_len, List.length_map]
      have z2 : (nv s'.thr).length = (s'.br t).length := by rw [nv_len, ← t1, List.length_map]
      obtain ⟨n, rfl⟩ : ∃ j, n = j + 1 := ⟨n - 1, by omega⟩
      fail "s"
      rename_i u1 K1 P1 u2 K2 O
      refine ⟨a, c, B, _, x, s', C, K, rfl, O, dsx, w.inner hin, by omega, fun q1 H1 O => ?_⟩
      refine i_addN (O.mem (by fail "m")) (O.mem (by fail "m")) (sz2 (by rw [List.length_append]; show _ + 1 + _ ≤ _; omega)) ?_
      fail "s"
      rename_i q3 H3 O
      have e : (brp 0 (ts.take (i + 1)) (l.take (i + 1))).map (·.t) = (brp 0 (ts.take i) (l.take i)).map (·.t) ++ [t] ++ s'.thr := by
        rw [brp_takeS w.ok.1 hs ht', List.map_append, List.map_cons, t1, List.append_assoc]
        rfl
      rw [← nv_one, ← nv_app, ← nv_app, ← e] at O
      exact ⟨q3, _, _, Own.sub O (by fail "sub"), rfl⟩
    · rintro σ H' ⟨F, x3, x4, O, rfl⟩
      rw [lx, List.take_length, ← w.ok.1, List.take_length] at O
      fail "s"
      exact k F _ O
theorem conn_more {n : Nat} {ps : Lk} {j : Int × Int} (C : Conn n ps) : Conn n (j :: ps) := fun v hv => by
  obtain ⟨m, w⟩ := C v hv
  refine ⟨m, ?_⟩
  have up : ∀ {m v : Nat}, Wk ps 0 m v → Wk (j :: ps) 0 m v := by
    intro m
    induction m with
    | zero => intro v h; exact h
    | succ m ih =>
      rintro v ⟨u, h1, h2⟩
      exact ⟨u, ih h1, h2.imp (List.mem_cons_of_mem _) (List.mem_cons_of_mem _)⟩
  exact up w
theorem i_notInP {K : PySem.W.Frag} {H : Hp} {Q : VK} {p : Addr} {x : V} {j : Int × Int} {vs : List V} {ps : List (Int × Int)} (hx : PairV H x j) (hy : H p = some (.lst vs)) (hp : Paired (PairV H) vs ps) (q : Q (.bl (!decide (j ∈ ps))) H) : rNotInD K x (.ref p) H Q := by
  obtain ⟨d, ds, h1, h2, h3, h4, h5⟩ : rInD K x (.ref p) H fun v H' => ∃ b, v = .bl b ∧ Q (.bl (!b)) H' := i_inP hx hy hp ⟨_, rfl, q⟩
  obtain ⟨b, e, h5⟩ := h5
  cases e
  exact ⟨d, ds, h1, h2, h3, h4, h5⟩
set_option maxHeartbeats 64000000 in
theorem pure_l_network (A : Ad) (vs : List V) (H : Hp) (Q : VK) (E : XK) (h : sp_l_network A vs H Q E) : t_l_network A { nx := fun _ H' => Q .non H', rt := Q } (L2.start ["_law_state_here", "_law_many", "_law_links", "_law_k", "_law_a", "_law_b"] vs) H := by
  obtain ⟨a, c, B, ls, rfl, O, k⟩ := h
  rw [st_l_network]
  unfold t_l_network
  fail "s"
  rename_i pl H1 O
  refine i_pickO O rfl List.mem_cons_self (by simp) (by simp) fun v H2 hv O => ?_
  obtain ⟨n, rfl, n1, n6⟩ : ∃ n : Nat, v = .int (n : Nat) ∧ 1 ≤ n ∧ n ≤ 6 := by
    simp only [List.mem_cons, List.not_mem_nil, or_false] at hv
    rcases hv with rfl | rfl | rfl | rfl | rfl | rfl
    · exact ⟨1, rfl, by omega, by omega⟩
    · exact ⟨2, rfl, by omega, by omega⟩
    · exact ⟨2, rfl, by omega, by omega⟩
    · exact ⟨3, rfl, by omega, by omega⟩
    · exact ⟨4, rfl, by omega, by omega⟩
    · exact ⟨6, rfl, by omega, by omega⟩
  have O : Own a c B H2 ls := Own.sub O (by fail "sub")
  fail "s"
  refine ⟨by omega, fun D hD => ?_⟩
  refine i_lcR2 (n - 1) (by omega) (fun i H' => ∃ B' lv ps, Same B B' ∧ TreeL (i + 1) ps ∧ Paired (PairV B') lv ps ∧ ps.length = i ∧ Own a c B' H' ((D, .lst lv) :: ls)) ⟨B, [], [], Same.refl _, ⟨fun _ => 0, fun _ => Nat.zero_le _, rfl⟩, .nil, rfl, O.new hD⟩ (fun i H' hi ⟨B1, lv, ps, s1, T, P, hz, O⟩ => ?_) fun H' hq => ?_
  · have lz := P.length
    fail "s"
    refine i_drawO O rfl (by omega) (by omega) fun r H2 r0 r1 O => ?_
    obtain ⟨m, rfl⟩ : ∃ m : Nat, r = (m : Int) := ⟨r.toNat, by omega⟩
    rw [show (1 : Int) + (i : Int) = ((i + 1 : Nat) : Int) by omega]
    fail "s"
    rename_i t H3 O
    obtain ⟨B2, s2, ht, O⟩ := O.freeze
    exact ⟨lv, O.mem List.mem_cons_self, szl2 (by omega), B2, lv ++ [.ref t], ps ++ [((m : Int), ((i + 1 : Nat) : Int))], Same.trans s1 s2, T.snoc (by omega), (Lb.Paired.mono (fun _ _ h => h.mono s2) P).snoc ⟨t, rfl, ht⟩, by rw [List.length_append, hz]; rfl, O.set .here⟩
  obtain ⟨B1, lv, ps, s1, T, P, hz, O⟩ := hq
  rw [show n - 1 + 1 = n by omega] at T
  have F := T.fine
  have C := T.conn
  fail "s"
  rename_i r H3 r0 r1 O
  obtain ⟨m, rfl⟩ : ∃ m : Nat, r = (m : Int) := ⟨r.toNat, by omega⟩
  refine i_forR m rfl (by omega) (fun i σ H' => ∃ D B' lv ps x3 x4 x5, Same B B' ∧ Fine n ps ∧ Conn n ps ∧ Paired (PairV B') lv ps ∧ ps.length ≤ n - 1 + i ∧ Own a c B' H' ((D, .lst lv) :: ls) ∧ σ = [some (.ref a), some (.int (n : Nat)), some (.ref D), x3, x4, x5]) ⟨D, B1, lv, ps, _, _, _, s1, F, C, P, by omega, O, rfl⟩ ?_ ?_
  · rintro i σ H4 hi ⟨D, B2, lv, ps, x3, x4, x5, s2, F, C, P, hz, O, rfl⟩
    have lz := P.length
    fail "s"
    refine i_drawO O rfl (by omega) (by omega) fun r1 H5 p0 p1 O => ?_
    fail "s"
    refine i_drawO O rfl (by omega) (by omega) fun r2 H6 q0 q1 O => ?_
    fail "s"
    refine i_d2 (fun h => ?_) (fun h => ?_)
    · fail "s"
      rename_i t1 H7 O
      refine i_notInP (j := (r1, r2)) ⟨t1, rfl, O.mem (by fail "m")⟩ (O.mem (by fail "m")) (Lb.Paired.mono (fun _ _ h => h.mono O.keep) P) ?_
      fail "s"
      refine i_n2 (fun h2 => ?_) (fun h2 => ?_)
      · fail "s"
        rename_i t2 H8 O8 u1 H9 O9 u2 H10 O
        have O : Own a c B2 H10 ((u2, .lst ([.ref t2] ++ lv)) :: (t2, .tup [.int r1, .int r2]) :: ls) := Own.sub O (by fail "sub")
        have O := Own.perm O (List.Perm.swap _ _ _)
        obtain ⟨B3, s3, h3, O⟩ := O.freeze
        refine ⟨u2, B3, [.ref t2] ++ lv, (r1, r2) :: ps, _, _, _, Same.trans s2 s3, ⟨fun j hj => ?_, List.nodup_cons.mpr ⟨h2, F.nd⟩⟩, conn_more C, .cons ⟨t2, rfl, h3⟩ (Lb.Paired.mono (fun _ _ h => h.mono s3) P), by rw [List.length_cons]; omega, O, rfl⟩
        rcases List.mem_cons.mp hj with e | e
        · rw [e]
          exact ⟨p0, h, q1⟩
        · exact F.v j e
      · fail "s"
        exact ⟨D, B2, lv, ps, _, _, _, s2, F, C, P, by omega, Own.sub O (by fail "sub"), rfl⟩
    · fail "s"
      exact ⟨D, B2, lv, ps, _, _, _, s2, F, C, P, by omega, O, rfl⟩
  · rintro σ H4 ⟨D, B2, lv, ps, x3, x4, x5, s2, F, C, P, hz, O, rfl⟩
    fail "s"
    rename_i q H5 O
    have O := Own.perm O (List.Perm.swap _ _ _)
    obtain ⟨B3, s3, h3, O⟩ := O.freeze
    obtain ⟨B4, s4, h4, O⟩ := O.freeze
    have s34 := Same.trans s3 s4
    exact k q D n lv ps _ B4 (Same.trans s2 s34) h4 (s4 _ _ h3) (Lb.Paired.mono (fun _ _ h => h.mono s34) P) F C (by omega) n1 n6 O
set_option Elab.async false
set_option linter.all false
set_option maxRecDepth 100000
set_option maxHeartbeats 4000000
open PySem PySem.Spec PyProof.Rows L2 Lb


/-! ### what the law of k41 is told; its end -/
theorem len_l_told (A : Ad) {vs : List V} {H : Hp} {Q : VK} {E : XK} (h : sp_l_told A vs H Q E) : vs.length = 4 := by
  obtain ⟨a, c, B, ls, p, nt, pp, hp, ce, th, ch, l, n, lp, lv, ps, P, Hm, rfl, _⟩ := h
  rfl
theorem len_spread (A : Ad) {vs : List V} {H : Hp} {Q : VK} {E : XK} (h : sp_spread A vs H Q E) : vs.length = 2 := by
  obtain ⟨a, c, B, ls, m, n, rfl, _⟩ := h
  rfl
theorem len_law (A : Ad) {vs : List V} {H : Hp} {Q : VK} {E : XK} (h : sp_law A vs H Q E) : vs.length = 1 := by
  obtain ⟨s, ns, rfl, _⟩ := h
  rfl
set_option maxHeartbeats 32000000 in
theorem pure_l_told (A : Ad) (vs : List V) (H : Hp) (Q : VK) (E : XK) (h : sp_l_told A vs H Q E) : t_l_told A { nx := fun _ H' => Q .non H', rt := Q } (L2.start ["_law_core_here", "_law_network_here", "_law_places", "_law_homes", "e"] vs) H := by
  obtain ⟨a, c, B, ls, p, nt, pp, hp, ce, th, ch, l, n, lp, lv, ps, P, Hm, rfl, cf, O, ar, k⟩ := h
  have ec := cf.ec
  rw [st_l_told]
  unfold t_l_told
  fail "s"
  refine ⟨a, c, B, ls, p, nt, pp, hp, ce, th, ch, l, n, lp, lv, ps, P, Hm, rfl, cf, O, ar, fun r d H' B' D ne s O => ?_, fun D q dx lq pq hq hops H' B' s e1 e2 e3 e4 e5 O => ?_⟩
  · refine i_was ec fun a' ha' => ?_
    fail "s"
    exact k r _ B' D s (O.dropP (by fail "p"))
  · fail "s"
    exact k "" _ B' D s O
def modL (m n : Nat) : List V := ((List.range m).map fun i => ((i : Nat) : Int) % (n : Int)).map V.int
theorem modL_snoc {m n : Nat} : modL (m + 1) n = modL m n ++ [.int (((m : Nat) : Int) % (n : Int))] := by
  unfold modL
  rw [List.range_succ, List.map_append, List.map_append]
  rfl
theorem modL_len {m n : Nat} : (modL m n).length = m := by
  unfold modL
  rw [List.length_map, List.length_map, List.length_range]
set_option maxHeartbeats 32000000 in
theorem pure_spread (A : Ad) (vs : List V) (H : Hp) (Q : VK) (E : XK) (h : sp_spread A vs H Q E) : t_spread A { nx := fun _ H' => Q .non H', rt := Q } (L2.start ["many", "processors", "k"] vs) H := by
  obtain ⟨a, c, B, ls, m, n, rfl, O, n1, hm, k⟩ := h
  rw [st_spread]
  unfold t_spread
  fail "s"
  refine ⟨by omega, by omega, fun D hD => ?_⟩
  refine i_lcR m rfl (fun i H' => Own a c B H' ((D, .lst (modL i n)) :: ls)) (O.new hD) (fun i H' hi O => ?_) fun H' O => k D H' O
  fail "s"
  refine i_rI (by omega) ?_
  exact ⟨_, O.mem List.mem_cons_self, szl2 (by rw [modL_len]; omega), by rw [modL_snoc]; exact O.set .here⟩
theorem cut_last {xs : List V} : cutV xs none (some (-1)) = xs.dropLast := by
  have h : HT.sIx xs.length xs.length (some (-1)) = xs.length - 1 := by
    show (if (-1 : Int) < 0 then ((-1 : Int) + (xs.length : Int)).toNat else min (-1 : Int).toNat xs.length) = _
    rw [if_pos (by decide)]
    omega
  unfold cutV
  rw [HT.sIx_none, List.drop_zero, List.dropLast_eq_take, h, Nat.sub_zero]
theorem prs_dt {B : Hp} : ∀ {lv : List V} {ps : Lk}, Paired (PairV B) lv ps → DtAll B lv (ps.map Lb.prD)
  | _, _, .nil => .nil
  | _, _, .cons h t => .cons h.dt (prs_dt t)
def t_le (A : Ad) : TS := (tSeq (tIfS (tTest (tOp (rNeA A.K) (tCall (sp_l_told A) [] E0 (tCons (tVar 2) (tCons (tVar 9) (tCons (tVar 6) (tCons (tVar 7) tNil))))) (tVar 10))) (tRet (tC (.bl false))) tNext) (tSeq (tAsg (tCall (sp_spread A) [] E0 (tCons (tVar 5) (tCons (tVar 3) tNil))) (gName 14)) (tRet (tOp (rEqA A.K) (tVar 14) (tLc (iRng1 (tCons (tVar 5) tNil)) (gName 15) tYes (tOp (rI0 fun i j => .int (i - j)) (tVar 15) (tOp rMulA (tOp (rI CDiv fun i j => .int (i / j)) (tVar 15) (tVar 3)) (tVar 3))) [15])))))
def t_lc5 (A : Ad) : TS := (tSeq (tIfS (tTest (tOp (rEqA A.K) (tVar 11) (tC (.int 5)))) (tSeq (tAsg (tTup (tCons (tVar 3) (tCons (tOp rAddA (tVar 4) (tLst (tCons (tTup (tCons (tVar 3) (tCons (tOp rAddA (tVar 3) (tC (.int 1))) tNil))) tNil))) tNil))) (gName 9)) (tSeq (tAsg (tLst tNil) (gName 6)) (tAsg (tC (.str "links")) (gName 10)))) (tSeq (tAsg (tTup (tCons (tCall spPick [] E0 (tCons (tVar 1) (tCons (tLst (tCons (tC (.int 0)) (tCons (tC (.int 7)) tNil))) tNil))) (tCons (tLst tNil) tNil))) (gName 9)) (tAsg (tC (.str "processors")) (gName 10)))) (t_le A))
def t_lc4 (A : Ad) : TS := (tSeq (tIfS (tAnd (tTest (tOp (rEqA A.K) (tVar 11) (tC (.int 4)))) (tAnd (tTest (tOp (rI0 fun i j => .bl (decide (j < i))) (tCB rLenA (tCons (tVar 13) tNil)) (tC (.int 0)))) (tTest (tOp (rI0 fun i j => .bl (decide (j < i))) (tVar 3) (tC (.int 1)))))) (tSeq (tAsg (tC (.int 1)) (gSub (tVar 7) (tCall spPick [] E0 (tCons (tVar 1) (tCons (tVar 13) tNil))) rSetA)) (tAsg (tC (.str "homes")) (gName 10))) (tIfS (tTest (tOp (rEqA A.K) (tVar 11) (tC (.int 5)))) (tSeq (tAsg (tTup (tCons (tVar 3) (tCons (tOp rAddA (tVar 4) (tLst (tCons (tTup (tCons (tVar 3) (tCons (tOp rAddA (tVar 3) (tC (.int 1))) tNil))) tNil))) tNil))) (gName 9)) (tSeq (tAsg (tLst tNil) (gName 6)) (tAsg (tC (.str "links")) (gName 10)))) (tSeq (tAsg (tTup (tCons (tCall spPick [] E0 (tCons (tVar 1) (tCons (tLst (tCons (tC (.int 0)) (tCons (tC (.int 7)) tNil))) tNil))) (tCons (tLst tNil) tNil))) (gName 9)) (tAsg (tC (.str "processors")) (gName 10))))) (t_le A))
def t_lc (A : Ad) : TS := (tSeq (tIfS (tTest (tOp (rEqA A.K) (tVar 11) (tC (.int 0)))) (tAsg (tCall spPick [] E0 (tCons (tVar 1) (tCons (tLst (tCons (tOp rAddA (tVar 6) (tLst (tCons (tC (.int 0)) tNil))) (tCons (tSl rSlA (tVar 6) tNoPart (tPart (tUn (rU fun i => .int (-i)) (tC (.int 1))))) tNil))) tNil))) (gName 6)) (tIfS (tTest (tOp (rEqA A.K) (tVar 11) (tC (.int 1)))) (tAsg (tCall spPick [] E0 (tCons (tVar 1) (tCons (tLst (tCons (tUn (rU fun i => .int (-i)) (tC (.int 1))) (tCons (tVar 3) tNil))) tNil))) (gSub (tVar 6) (tVar 12) rSetA)) (tIfS (tTest (tOp (rEqA A.K) (tVar 11) (tC (.int 2)))) (tAsg (tOp rAddA (tVar 7) (tLst (tCons (tC (.int 0)) tNil))) (gName 7)) (tIfS (tAnd (tTest (tOp (rEqA A.K) (tVar 11) (tC (.int 3)))) (tTest (tOp (rI0 fun i j => .bl (decide (j < i))) (tCB rLenA (tCons (tVar 7) tNil)) (tC (.int 0))))) (tAsg (tCall spPick [] E0 (tCons (tVar 1) (tCons (tLst (tCons (tUn (rU fun i => .int (-i)) (tC (.int 1))) (tCons (tVar 3) tNil))) tNil))) (gSub (tVar 7) (tCall spDraw [] E0 (tCons (tVar 1) (tCons (tCB rLenA (tCons (tVar 7) tNil)) tNil))) rSetA)) (tIfS (tAnd (tTest (tOp (rEqA A.K) (tVar 11) (tC (.int 4)))) (tAnd (tTest (tOp (rI0 fun i j => .bl (decide (j < i))) (tCB rLenA (tCons (tVar 13) tNil)) (tC (.int 0)))) (tTest (tOp (rI0 fun i j => .bl (decide (j < i))) (tVar 3) (tC (.int 1)))))) (tSeq (tAsg (tC (.int 1)) (gSub (tVar 7) (tCall spPick [] E0 (tCons (tVar 1) (tCons (tVar 13) tNil))) rSetA)) (tAsg (tC (.str "homes")) (gName 10))) (tIfS (tTest (tOp (rEqA A.K) (tVar 11) (tC (.int 5)))) (tSeq (tAsg (tTup (tCons (tVar 3) (tCons (tOp rAddA (tVar 4) (tLst (tCons (tTup (tCons (tVar 3) (tCons (tOp rAddA (tVar 3) (tC (.int 1))) tNil))) tNil))) tNil))) (gName 9)) (tSeq (tAsg (tLst tNil) (gName 6)) (tAsg (tC (.str "links")) (gName 10)))) (tSeq (tAsg (tTup (tCons (tCall spPick [] E0 (tCons (tVar 1) (tCons (tLst (tCons (tC (.int 0)) (tCons (tC (.int 7)) tNil))) tNil))) (tCons (tLst tNil) tNil))) (gName 9)) (tAsg (tC (.str "processors")) (gName 10))))))))) (t_le A))
theorem law_eq (A : Ad) : t_law A = (tSeq (tAsg (tCall (spState A.K) [] E0 (tCons (tVar 0) tNil)) (gName 1)) (tSeq (tAsg (tCall (sp_l_core A) [] E0 (tCons (tVar 1) (tCons (tOp (rEqA A.K) (tCall spDraw [] E0 (tCons (tVar 1) (tCons (tC (.int 2)) tNil))) (tC (.int 0))) tNil))) (gName 2)) (tSeq (tAsg (tCall (sp_l_network A) [] E0 (tCons (tVar 1) tNil)) (gTup A.K 2 (gCons (gName 3) (gCons (gName 4) gNil)))) (tSeq (tAsg (tOp rAddA (tC (.int 1)) (tCB rLenA (tCons (tCall (sp_l_threads A 60) [] E0 (tCons (tOp rIxA (tVar 2) (tC (.int 3))) tNil)) tNil))) (gName 5)) (tSeq (tAsg (tLc (iRng1 (tCons (tVar 5) tNil)) (gName 15) tYes (tCall spDraw [] E0 (tCons (tVar 1) (tCons (tVar 3) tNil))) [15]) (gName 6)) (tSeq (tAsg (tLc (iList A.K (tOp rIxA (tVar 2) (tC (.int 2)))) (gName 16) tYes (tIf (tTest (tOp (rEqA A.K) (tVar 16) (tC (.str "inner")))) (tCall spDraw [] E0 (tCons (tVar 1) (tCons (tVar 3) tNil))) (tC (.int 0))) [16]) (gName 7)) (tSeq (tAsg (tCall (quietS (sp_make_plan A)) [] E0 (tCons (tVar 2) (tCons (tTup (tCons (tVar 3) (tCons (tVar 4) tNil))) (tCons (tCB rListA (tCons (tVar 6) tNil)) (tCons (tCB rListA (tCons (tVar 7) tNil)) tNil))))) (gName 8)) (tSeq (tIfS (tOr (tTest (tOp (rNeA A.K) (tFld A.K (tVar 8) "processors") (tVar 3))) (tOr (tTest (tOp (rNeA A.K) (tFld A.K (tVar 8) "links") (tVar 4))) (tOr (tTest (tOp (rNeA A.K) (tFld A.K (tVar 8) "threads") (tVar 6))) (tTest (tOp (rNeA A.K) (tFld A.K (tVar 8) "homes") (tVar 7)))))) (tRet (tC (.bl false))) tNext) (tSeq (tIfS (tTest (tOp (rNeA A.K) (tFld A.K (tVar 8) "hops") (tCall (sp_next_hops A) [] E0 (tCons (tVar 3) (tCons (tVar 4) tNil))))) (tRet (tC (.bl false))) tNext) (tSeq (tAsg (tTup (tCons (tVar 3) (tCons (tVar 4) tNil))) (gName 9)) (tSeq (tAsg (tC (.str "places")) (gName 10)) (tSeq (tAsg (tCall spDraw [] E0 (tCons (tVar 1) (tCons (tC (.int 7)) tNil))) (gName 11)) (tSeq (tAsg (tCall spDraw [] E0 (tCons (tVar 1) (tCons (tVar 5) tNil))) (gName 12)) (tSeq (tAsg (tLc (iRng1 (tCons (tCB rLenA (tCons (tVar 7) tNil)) tNil)) (gName 17) (tTest (tOp (rNeA A.K) (tOp rIxA (tOp rIxA (tVar 2) (tC (.int 2))) (tVar 17)) (tC (.str "inner")))) (tVar 17) [17]) (gName 13)) (t_lc A))))))))))))))) := rfl
set_option maxHeartbeats 64000000 in
theorem law_end (A : Ad) {a c : Addr} {B H : Hp} {ls : List (Addr × HO)} {p : V} {nt pp hp lp : Addr} {ce th : Nat} {ch : List Str} {l : List Sm} {n : Int} {lv : List V} {ps : Lk} {P Hm : List Int} {n0 N : Nat} {r : Str} {x0 x4 x8 x11 x12 x13 : Option V} {Q : VK} (cf : CF A) (O : Own a c B H ls) (pa : PlanArgs B p nt pp hp ce th ch l n lp lv ps P Hm) (pd : PD n (thN l) ch P Hm ps r) (n1 : 1 ≤ n0) (n6 : n0 ≤ 6) (hN : N ≤ 1000) (k : ∀ H', Q (.bl true) H') :
    t_le A { nx := fun _ H' => Q .non H', rt := Q } [x0, some (.ref a), some p, some (.int (n0 : Nat)), x4, some (.int (N : Nat)), some (.ref pp), some (.ref hp), x8, some (.ref nt), some (.str r), x11, x12, x13, none, none, none, none] H := by
  unfold t_le
  fail "s"
  refine ⟨a, c, B, ls, p, nt, pp, hp, ce, th, ch, l, n, lp, lv, ps, P, Hm, rfl, cf, O, pa, fun r' H1 B1 D s1 O => ?_⟩
  obtain rfl := pd.uniq D
  fail "s"
  refine i_n2 (fun h => absurd rfl h) (fun _ => ?_)
  fail "s"
  refine ⟨a, c, B1, ls, N, n0, rfl, O, n1, hN, fun q H2 O => ?_⟩
  fail "s"
  refine ⟨by omega, by omega, fun D2 hD => ?_⟩
  refine i_lcR N rfl (fun i H' => Own a c B1 H' ((D2, .lst (modL i n0)) :: (q, .lst (modL N n0)) :: ls)) (O.new hD) (fun i H' hi O => ?_) fun H' O => ?_
  · fail "s"
    refine i_rI ⟨by omega, by omega⟩ ?_
    fail "s"
    refine i_mulI (.inr ⟨by omega, by omega⟩) ?_
    fail "s"
    refine ⟨_, O.mem List.mem_cons_self, szl2 (by rw [modL_len]; omega), ?_⟩
    have e : ((i : Nat) : Int) - (i : Nat) / (n0 : Nat) * (n0 : Nat) = ((i : Nat) : Int) % (n0 : Int) := by
      rw [Int.emod_def, Int.mul_comm]
    rw [e, ← modL_snoc]
    exact O.set .here
  · refine rd_eqT (d := .list (((List.range N).map fun i => ((i : Nat) : Int) % (n0 : Int)).map PyData.int)) (.lst (O.mem (by fail "m")) (DtAll.ints _)) (.lst (O.mem (by fail "m")) (DtAll.ints _)) (Sh.shp (n := 4) (.lst .ints) (by decide)) ?_
    exact k _
theorem good_set_bad {n : Int} {N : Nat} {ch : List Str} {P Hm : List Int} {j : Nat} {y : Int} (hj : j < P.length) (hy : ¬ (0 ≤ y ∧ y < n)) : ¬ GoodPl n N ch (P.set j y) Hm := fun g => hy (g.2.2 y (List.mem_append_left _ (List.mem_of_getElem? (List.getElem?_set_self hj))))
theorem good_setH_bad {n : Int} {N : Nat} {ch : List Str} {P Hm : List Int} {j : Nat} {y : Int} (hj : j < Hm.length) (hy : ¬ (0 ≤ y ∧ y < n)) : ¬ GoodPl n N ch P (Hm.set j y) := fun g => hy (g.2.2 y (List.mem_append_right _ (List.mem_of_getElem? (List.getElem?_set_self hj))))
set_option maxHeartbeats 128000000 in
theorem law_chain (A : Ad) {a c : Addr} {B H : Hp} {p : V} {nt pD hD oD lp : Addr} {ce th : Nat} {ch : List Str} {l : List Sm} {lv : List V} {ps : Lk} {P Hm : List Int} {os : List Nat} {n0 N at0 : Nat} {r : Int} {x0 x8 : Option V} {Q : VK} (cf : CF A) (O : Own a c B H [(oD, .lst (nv os)), (nt, .tup [.int (n0 : Nat), .ref lp]), (hD, .lst (Hm.map V.int)), (pD, .lst (P.map V.int))]) (dc : Dt B p (coreD ce ch l)) (o : CoreOk ce ch l th) (hl : B lp = some (.lst lv)) (hP : Paired (PairV B) lv ps) (z : ps.length ≤ 8) (F : Fine n0 ps) (C : Conn n0 ps) (due : Due n0 ps "") (n1 : 1 ≤ n0) (n6 : n0 ≤ 6)
    (gp : GoodPl n0 N ch P Hm) (hN : N = thN l) (hN1 : 1 ≤ N) (hN9 : N ≤ 99) (c24 : ch.length ≤ 24) (ho : ∀ k, k ∈ os ↔ k < ch.length ∧ ∃ s, ch[k]? = some s ∧ s ≠ "inner") (zo : os.length ≤ 24) (r0 : 0 ≤ r) (r7 : r < 7) (hat : at0 < N) (k : ∀ H', Q (.bl true) H') :
    t_lc A { nx := fun _ H' => Q .non H', rt := Q } [x0, some (.ref a), some p, some (.int (n0 : Nat)), some (.ref lp), some (.int (N : Nat)), some (.ref pD), some (.ref hD), x8, some (.ref nt), some (.str "places"), some (.int r), some (.int (at0 : Nat)), some (.ref oD), none, none, none, none] H := by
  obtain ⟨g1, g2, g3⟩ := gp
  subst hN
  have zn : (nv os).length = os.length := nv_len
  have zP : (P.map V.int).length = P.length := List.length_map _
  have zH : (Hm.map V.int).length = Hm.length := List.length_map _
  have zlv := hP.length
  have fin : ∀ (pp hp : Addr) (P' Hm' : List Int) (r : Str) (H1 : Hp) (x11 x12 x13 : Option V), Own a c B H1 [(nt, .tup [.int (n0 : Nat), .ref lp]), (hp, .lst (Hm'.map V.int)), (pp, .lst (P'.map V.int))] → P'.length ≤ 100 → Hm'.length ≤ 100 → PD n0 (thN l) ch P' Hm' ps r →
      t_le A { nx := fun _ H' => Q .non H', rt := Q } [x0, some (.ref a), some p, some (.int (n0 : Nat)), some (.ref lp), some (.int (thN l : Nat)), some (.ref pp), some (.ref hp), x8, some (.ref nt), some (.str r), x11, x12, x13, none, none, none, none] H1 := fun pp hp P' Hm' r H1 x11 x12 x13 O z1 z2 pd => by
    obtain ⟨B2, s2, ha, _, O⟩ := Own.hide (l1 := [(nt, .tup [.int (n0 : Nat), .ref lp]), (hp, .lst (Hm'.map V.int)), (pp, .lst (P'.map V.int))]) (l2 := []) O
    exact law_end A cf O ⟨dc.mono s2, o, ha (nt, _) (by fail "m"), s2 _ _ hl, Lb.Paired.mono (fun _ _ h => h.mono s2) hP, by omega, ha (pp, _) (by fail "m"), ha (hp, _) (by fail "m"), z1, z2⟩ pd n1 n6 (by omega) k
  have pl : ∀ {P' Hm'}, ¬ GoodPl n0 (thN l) ch P' Hm' → PD n0 (thN l) ch P' Hm' ps "places" := fun h => .places due h
  unfold t_lc
  fail "s"
  refine i_d2 (fun h0 => ?_) (fun h0 => ?_)
  · fail "s"
    rename_i u1 K1 Q1 u2 K2 O
    refine i_slO O (O.mem (by fail "m")) cut_last fun u3 K3 O => ?_
    fail "s"
    rename_i u4 K4 O
    refine i_pickO O rfl List.mem_cons_self (by simp) (by simp) fun v K5 hv O => ?_
    rw [show P.map V.int ++ [.int 0] = (P ++ [0]).map V.int by rw [List.map_append]; rfl, show (P.map V.int).dropLast = P.dropLast.map V.int from List.map_dropLast.symm] at O
    simp only [List.mem_cons, List.not_mem_nil, or_false] at hv
    rcases hv with rfl | rfl
    · fail "s"
      have O : Own a c B K5 [(u2, .lst ((P ++ [0]).map V.int)), (nt, .tup [.int (n0 : Nat), .ref lp]), (hD, .lst (Hm.map V.int))] := Own.sub O (by fail "sub")
      have O := Own.perm O (ls' := [(nt, .tup [.int (n0 : Nat), .ref lp]), (hD, .lst (Hm.map V.int)), (u2, .lst ((P ++ [0]).map V.int))]) (by fail "pm")
      refine fin u2 hD (P ++ [0]) Hm "places" K5 _ _ _ O (by rw [List.length_append]; show _ + 1 ≤ _; omega) (by omega) (pl fun g => ?_)
      have e := g.1
      rw [List.length_append] at e
      have e : P.length + 1 = _ := e
      omega
    · fail "s"
      have O : Own a c B K5 [(u3, .lst (P.dropLast.map V.int)), (nt, .tup [.int (n0 : Nat), .ref lp]), (hD, .lst (Hm.map V.int))] := Own.sub O (by fail "sub")
      have O := Own.perm O (ls' := [(nt, .tup [.int (n0 : Nat), .ref lp]), (hD, .lst (Hm.map V.int)), (u3, .lst (P.dropLast.map V.int))]) (by fail "pm")
      refine fin u3 hD P.dropLast Hm "places" K5 _ _ _ O (by rw [List.length_dropLast]; omega) (by omega) (pl fun g => ?_)
      have e := g.1
      rw [List.length_dropLast] at e
      omega
  fail "s"
  refine i_d2 (fun h1 => ?_) (fun h1 => ?_)
  · fail "s"
    rename_i u1 K1 O
    refine i_pickO O rfl List.mem_cons_self (by simp) (by simp) fun v K5 hv O => ?_
    obtain ⟨y, rfl, hy⟩ : ∃ y : Int, v = .int y ∧ ¬ (0 ≤ y ∧ y < n0) := by
      simp only [List.mem_cons, List.not_mem_nil, or_false] at hv
      rcases hv with rfl | rfl
      · exact ⟨_, rfl, by omega⟩
      · exact ⟨_, rfl, by omega⟩
    fail "s"
    refine i_setO O (by fail "u") (ixN_nat (by omega)) fun K6 O => ?_
    rw [show (P.map V.int).set at0 (.int y) = (P.set at0 y).map V.int from List.map_set.symm] at O
    fail "s"
    exact fin pD hD (P.set at0 y) Hm "places" K6 _ _ _ (Own.sub O (by fail "sub")) (by rw [List.length_set]; omega) (by omega) (pl (good_set_bad (by omega) hy))
  fail "s"
  refine i_d2 (fun h2 => ?_) (fun h2 => ?_)
  · fail "s"
    rename_i u1 K1 Q1 u2 K2 O
    rw [show Hm.map V.int ++ [.int 0] = (Hm ++ [0]).map V.int by rw [List.map_append]; rfl] at O
    have O : Own a c B K2 [(u2, .lst ((Hm ++ [0]).map V.int)), (nt, .tup [.int (n0 : Nat), .ref lp]), (pD, .lst (P.map V.int))] := Own.sub O (by fail "sub")
    have O := Own.perm O (List.Perm.swap _ _ _)
    refine fin pD u2 P (Hm ++ [0]) "places" K2 _ _ _ O (by omega) (by rw [List.length_append]; show _ + 1 ≤ _; omega) (pl fun g => ?_)
    have e := g.2.1
    rw [List.length_append] at e
    have e : Hm.length + 1 = _ := e
    omega
  have rest5 : r = 5 → t_lc5 A { nx := fun _ H' => Q .non H', rt := Q } [x0, some (.ref a), some p, some (.int (n0 : Nat)), some (.ref lp), some (.int (thN l : Nat)), some (.ref pD), some (.ref hD), x8, some (.ref nt), some (.str "places"), some (.int r), some (.int (at0 : Nat)), some (.ref oD), none, none, none, none] H := fun h5 => by
    unfold t_lc5
    fail "s"
    refine i_d2 (fun _ => ?_) (fun h => absurd h5 h)
    fail "s"
    rename_i t1 K1 Q1 l1 K2 Q2 l2 K3 Q3 nt2 K4 Q4 e1 K5 O
    have O : Own a c B K5 [(e1, .lst []), (nt2, .tup [.int (n0 : Nat), .ref l2]), (l2, .lst (lv ++ [.ref t1])), (t1, .tup [.int (n0 : Nat), .int ((n0 : Nat) + 1)]), (hD, .lst (Hm.map V.int))] := Own.sub O (by fail "sub")
    obtain ⟨B2, s2, ha, _, O⟩ := Own.hide (l1 := [(e1, .lst []), (nt2, .tup [.int (n0 : Nat), .ref l2]), (l2, .lst (lv ++ [.ref t1])), (t1, .tup [.int (n0 : Nat), .int ((n0 : Nat) + 1)]), (hD, .lst (Hm.map V.int))]) (l2 := []) O
    have hP2 : Paired (PairV B2) (lv ++ [.ref t1]) (ps ++ [((n0 : Int), (n0 : Int) + 1)]) := (Lb.Paired.mono (fun _ _ h => h.mono s2) hP).snoc ⟨t1, rfl, ha (t1, _) (by fail "m")⟩
    refine law_end A cf O ⟨dc.mono s2, o, ha (nt2, _) (by fail "m"), ha (l2, _) (by fail "m"), hP2, by rw [List.length_append]; show _ + 1 ≤ _; omega, ha (e1, HO.lst (([] : List Int).map V.int)) (by fail "m"), ha (hD, _) (by fail "m"), by decide, by omega⟩ (.net (.links (by omega) ps.length ⟨((n0 : Int), (n0 : Int) + 1), ?_, .inr (.inl (by show (n0 : Int) ≤ (n0 : Int) + 1; omega))⟩) (by decide)) n1 n6 (by omega) k
    rw [List.getElem?_append_right (Nat.le_refl _), Nat.sub_self]
    rfl
  have rest6 : r ≠ 5 → t_lc5 A { nx := fun _ H' => Q .non H', rt := Q } [x0, some (.ref a), some p, some (.int (n0 : Nat)), some (.ref lp), some (.int (thN l : Nat)), some (.ref pD), some (.ref hD), x8, some (.ref nt), some (.str "places"), some (.int r), some (.int (at0 : Nat)), some (.ref oD), none, none, none, none] H := fun h5 => by
    unfold t_lc5
    fail "s"
    refine i_d2 (fun h => absurd h h5) (fun _ => ?_)
    fail "s"
    rename_i u1 K1 O
    refine i_pickO O rfl List.mem_cons_self (by simp) (by simp) fun v K2 hv O => ?_
    obtain ⟨y, rfl, hy⟩ : ∃ y : Int, v = .int y ∧ (y < 1 ∨ 6 < y) := by
      simp only [List.mem_cons, List.not_mem_nil, or_false] at hv
      rcases hv with rfl | rfl
      · exact ⟨_, rfl, by omega⟩
      · exact ⟨_, rfl, by omega⟩
    fail "s"
    rename_i l2 K3 Q3 nt2 K4 O
    have O : Own a c B K4 [(nt2, .tup [.int y, .ref l2]), (l2, .lst []), (hD, .lst (Hm.map V.int)), (pD, .lst (P.map V.int))] := Own.sub O (by fail "sub")
    obtain ⟨B2, s2, ha, _, O⟩ := Own.hide (l1 := [(nt2, .tup [.int y, .ref l2]), (l2, .lst []), (hD, .lst (Hm.map V.int)), (pD, .lst (P.map V.int))]) (l2 := []) O
    exact law_end A cf O ⟨dc.mono s2, o, ha (nt2, _) (by fail "m"), ha (l2, _) (by fail "m"), .nil, Nat.zero_le _, ha (pD, _) (by fail "m"), ha (hD, _) (by fail "m"), by omega, by omega⟩ (.net (.procs hy) (by decide)) n1 n6 (by omega) k
  have rest4 : t_lc4 A { nx := fun _ H' => Q .non H', rt := Q } [x0, some (.ref a), some p, some (.int (n0 : Nat)), some (.ref lp), some (.int (thN l : Nat)), some (.ref pD), some (.ref hD), x8, some (.ref nt), some (.str "places"), some (.int r), some (.int (at0 : Nat)), some (.ref oD), none, none, none, none] H := by
    unfold t_lc4
    have go : t_lc5 A { nx := fun _ H' => Q .non H', rt := Q } [x0, some (.ref a), some p, some (.int (n0 : Nat)), some (.ref lp), some (.int (thN l : Nat)), some (.ref pD), some (.ref hD), x8, some (.ref nt), some (.str "places"), some (.int r), some (.int (at0 : Nat)), some (.ref oD), none, none, none, none] H := by
      by_cases h5 : r = 5
      · exact rest5 h5
      · exact rest6 h5
    fail "s"
    refine i_d2 (fun h4 => ?_) (fun h4 => ?_)
    · fail "s"
      refine i_d2 (fun h6 => ?_) (fun h6 => ?_)
      · fail "s"
        refine i_d2 (fun h7 => ?_) (fun h7 => ?_)
        · fail "s"
          have O := Own.perm O (ls' := [(oD, .lst (nv os)), (nt, .tup [.int (n0 : Nat), .ref lp]), (hD, .lst (Hm.map V.int)), (pD, .lst (P.map V.int))]) (List.Perm.refl _)
          refine i_pickO O rfl List.mem_cons_self (fun e => by rw [e] at h6; exact absurd h6 (by decide)) (by omega) fun v K3 hv O => ?_
          obtain ⟨j, hj, rfl⟩ := nv_mem hv
          obtain ⟨jl, s, hs, ne⟩ := (ho j).mp hj
          fail "s"
          refine i_setO O (by fail "u") (ixN_nat (by omega)) fun K5 O => ?_
          rw [show (Hm.map V.int).set j (.int 1) = (Hm.set j 1).map V.int from List.map_set.symm] at O
          fail "s"
          refine fin pD hD P (Hm.set j 1) "homes" K5 _ _ _ (Own.sub O (by fail "sub")) (by omega) (by rw [List.length_set]; omega) (.homes due ⟨g1, by rw [List.length_set]; exact g2, fun x hx => ?_⟩ ⟨j, s, 1, hs, ne, List.getElem?_set_self (by omega), by decide⟩)
          rcases List.mem_append.mp hx with h | h
          · exact g3 x (List.mem_append_left _ h)
          · rcases List.mem_or_eq_of_mem_set h with h | h
            · exact g3 x (List.mem_append_right _ h)
            · rw [h]
              omega
        · first | exact go | exact i_ff go
      · first | exact go | exact i_ff go
    · first | exact go | exact i_ff go
  fail "s"
  refine i_d2 (fun h3 => ?_) (fun h3 => ?_)
  · fail "s"
    refine i_d2 (fun h4 => ?_) (fun h4 => ?_)
    · fail "s"
      rename_i u1 K1 O
      refine i_pickO O rfl List.mem_cons_self (by simp) (by simp) fun v K5 hv O => ?_
      obtain ⟨y, rfl, hy⟩ : ∃ y : Int, v = .int y ∧ ¬ (0 ≤ y ∧ y < n0) := by
        simp only [List.mem_cons, List.not_mem_nil, or_false] at hv
        rcases hv with rfl | rfl
        · exact ⟨_, rfl, by omega⟩
        · exact ⟨_, rfl, by omega⟩
      fail "s"
      refine i_drawO O rfl (by omega) (by omega) fun r' K6 q0 q1 O => ?_
      obtain ⟨j, rfl⟩ : ∃ j : Nat, r' = (j : Int) := ⟨r'.toNat, by omega⟩
      refine i_setO O (by fail "u") (ixN_nat (by omega)) fun K7 O => ?_
      rw [show (Hm.map V.int).set j (.int y) = (Hm.set j y).map V.int from List.map_set.symm] at O
      fail "s"
      exact fin pD hD P (Hm.set j y) "places" K7 _ _ _ (Own.sub O (by fail "sub")) (by omega) (by rw [List.length_set]; omega) (pl (good_setH_bad (by omega) hy))
    · first | exact rest4 | exact i_ff rest4
  · first | exact rest4 | exact i_ff rest4
set_option Elab.async false
set_option linter.all false
set_option maxRecDepth 100000
set_option maxHeartbeats 4000000
open PySem PySem.Spec PyProof.Rows L2 Lb


/-! ### the law of k41 -/
theorem prs_sh {ps : Lk} : Shp (.list (ps.map Lb.prD)) := Sh.shp (n := 4) (.lst (.all fun d hd => by
  obtain ⟨j, _, rfl⟩ := List.mem_map.mp hd
  exact Sh.tup (n := 2) (.cons .int (.cons .int .nil)))) (by decide)
theorem hop_eq {n : Nat} {ps : Lk} {g i : Nat} {f f' : Nat → Int} (V : Val n ps) (h : Far n ps g f) (h' : Far n ps g f') (hi : i < n) : hop n ps f i g = hop n ps f' i g := by
  unfold hop
  by_cases e : i = g
  · rw [if_pos e, if_pos e]
  · rw [if_neg e, if_neg e]
    congr 1
    have key : ∀ l : List Nat, (∀ o ∈ l, o < n) → (l.find? fun o => decide (f o = f i - 1)) = l.find? fun o => decide (f' o = f' i - 1) := by
      intro l
      induction l with
      | nil => intro _; rfl
      | cons x r ih =>
        intro hl
        have e1 := h.uniq h' x (hl x List.mem_cons_self)
        have e2 := h.uniq h' i hi
        rw [List.find?_cons, List.find?_cons, ih (fun o ho => hl o (List.mem_cons_of_mem _ ho)), e1, e2]
    exact key _ fun o ho => (V.lt ((mem_nbs V).mp ho)).2
def hopsD (n : Nat) (ps : Lk) (F : Nat → Nat → Int) : PyData := .list ((List.range n).map fun i => .list ((List.range n).map fun g => .int ((hop n ps (F g) i g : Nat) : Int)))
theorem hops_sh {n : Nat} {ps : Lk} {F : Nat → Nat → Int} : Shp (hopsD n ps F) := Sh.shp (n := 4) (.lst (.all fun d hd => by
  obtain ⟨j, _, rfl⟩ := List.mem_map.mp hd
  refine Sh.lst (n := 2) (.all fun d hd => ?_)
  obtain ⟨j, _, rfl⟩ := List.mem_map.mp hd
  exact .int)) (by decide)
theorem hops_dt {H : Hp} {q : Addr} {n : Nat} {ps : Lk} {F F' : Nat → Nat → Int} {ra : Nat → Addr} (Va : Val n ps) (h0 : H q = some (.lst ((List.range n).map fun i => V.ref (ra i)))) (h1 : ∀ g, g < n → Far n ps g (F g)) (h1' : ∀ g, g < n → Far n ps g (F' g)) (h2 : ∀ i, i < n → H (ra i) = some (.lst (fl n fun g => ((hop n ps (F g) i g : Nat) : Int)))) : Dt H (.ref q) (hopsD n ps F') := by
  refine .lst h0 ?_
  have key : ∀ l : List Nat, (∀ i ∈ l, i < n) → DtAll H (l.map fun i => V.ref (ra i)) (l.map fun i => .list ((List.range n).map fun g => .int ((hop n ps (F' g) i g : Nat) : Int))) := by
    intro l
    induction l with
    | nil => intro _; exact .nil
    | cons i r ih =>
      intro hl
      refine .cons (.lst (h2 i (hl i List.mem_cons_self)) ?_) (ih fun j hj => hl j (List.mem_cons_of_mem _ hj))
      have e : fl n (fun g => ((hop n ps (F g) i g : Nat) : Int)) = ((List.range n).map fun g => ((hop n ps (F' g) i g : Nat) : Int)).map V.int := by
        rw [← fl_ints]
        exact fl_congr fun g hg => by rw [hop_eq Va (h1 g hg) (h1' g hg) (hl i List.mem_cons_self)]
      rw [e]
      have := DtAll.ints (H := H) ((List.range n).map fun g => ((hop n ps (F' g) i g : Nat) : Int))
      rw [List.map_map (f := fun g => ((hop n ps (F' g) i g : Nat) : Int)) (g := PyData.int)] at this
      exact this
  exact key _ fun i hi => List.mem_range.mp hi
theorem Fine.val {n : Nat} {ps : Lk} (F : Fine n ps) : Val n ps := fun j hj => F.v j hj
set_option maxHeartbeats 128000000 in
theorem pure_law (A : Ad) (vs : List V) (H : Hp) (Q : VK) (E : XK) (h : sp_law A vs H Q E) : t_law A { nx := fun _ H' => Q .non H', rt := Q } (L2.start ["_law_script", "_law_state_here", "_law_core_here", "_law_many", "_law_links", "_law_threads_here", "_law_places", "_law_homes", "_law_plan", "_law_network_here", "_law_due", "_law_turn", "_law_at", "_law_outer", "_law_row", "_law_k", "_law_kind", "_law_c"] vs) H := by
  obtain ⟨s, ns, rfl, hS, hl, ⟨ec, hcp, n1', n2', n3', n4', n5'⟩, k⟩ := h
  have cf : CF A := ⟨ec, hcp, n1', n2', n3', n4', n5'⟩
  rw [st_law, law_eq]
  fail "s"
  refine ⟨s, ns, rfl, hS, hl, fun H1 a c s1 R _ _ => ?_⟩
  have O := Own.start R
  fail "s"
  rename_i r H2 _ _ O
  refine ⟨a, c, _, _, _, rfl, O, fun p H3 B1 ce ch l th s1 dc o O => ?_⟩
  obtain ⟨t, v2, v3, e, ht, d2, d3⟩ := core_at dc
  cases e
  obtain ⟨cq, rfl, hcq⟩ := strs_len d2
  have c24 := o.c24
  have bl := br_len (p := 0) o.sw.ok
  have hth := o.hth
  have htr := congrArg List.length o.thr.2
  rw [List.length_range'] at htr
  have hN : thN l ≤ 99 := by
    have e : (Sm.seq l).thr = (thrs l).flatten := rfl
    rw [e, htr] at bl
    unfold thN
    omega
  have hN1 : 1 ≤ thN l := by unfold thN; omega
  fail "s"
  refine ⟨a, c, B1, [], rfl, O, fun q lp n lv ps H4 B2 s2 hq hlp hP F C hz n1 n6 O => ?_⟩
  have ht2 := s2 _ _ ht
  have hcq2 := s2 _ _ hcq
  fail "s"
  refine ⟨a, c, B2, [], v3, .seq l, ce, ch.length, rfl, O, d3.mono s2, o.sw, o.bdp, fun q1 H5 O => ?_⟩
  fail "s"
  have zt : (nv (Sm.seq l).thr).length = (Sm.seq l).thr.length := nv_len
  have eN : (1 : Int) + ((nv (Sm.seq l).thr).length : Nat) = ((thN l : Nat) : Int) := by
    rw [zt, ← bl]
    unfold thN
    omega
  have O : Own a c B2 _ [] := Own.sub O (by fail "sub")
  rw [eN]
  refine ⟨by omega, by omega, fun pD hpD => ?_⟩
  refine i_lcR (thN l) rfl (fun i H' => ∃ P : List Int, P.length = i ∧ (∀ x ∈ P, 0 ≤ x ∧ x < (n : Int)) ∧ Own a c B2 H' [(pD, .lst (P.map V.int))]) ⟨[], rfl, fun x hx => by (simp at hx), O.new hpD⟩ (fun i H' hi ⟨P, zP, hP, O⟩ => ?_) fun H' hh => ?_
  · fail "s"
    refine i_drawO O rfl (by omega) (by omega) fun r H2 r0 r1 O => ?_
    refine ⟨P.map V.int, O.mem List.mem_cons_self, szl2 (by rw [List.length_map]; omega), P ++ [r], by rw [List.length_append, zP]; rfl, fun x hx => ?_, by rw [List.map_append]; exact O.set .here⟩
    rcases List.mem_append.mp hx with h | h
    · exact hP x h
    · rw [List.mem_singleton.mp h]
      exact ⟨r0, r1⟩
  obtain ⟨P, zP, hPl, O⟩ := hh
  fail "s"
  refine ⟨⟨_, SqL.of (O.kp hcq2)⟩, fun hD hhD => ?_⟩
  refine i_lcL (ch.map V.str) (fun i H' => ∃ Hm : List Int, Hm.length = i ∧ (∀ x ∈ Hm, 0 ≤ x ∧ x < (n : Int)) ∧ (∀ (k : Nat) (s : Str) (y : Int), ch[k]? = some s → s ≠ "inner" → Hm[k]? = some y → y = 0) ∧ Own a c B2 H' [(hD, .lst (Hm.map V.int)), (pD, .lst (P.map V.int))]) ⟨[], rfl, fun x hx => by (simp at hx), fun k s y _ _ h => by (simp at h), O.new hhD⟩ (fun i H' ⟨Hm, _, _, _, O⟩ => SqL.of (O.kp hcq2)) (fun i x H' hx ⟨Hm, zH, hH, hI, O⟩ => ?_) fun H' hh => ?_
  · obtain ⟨s, hs, rfl⟩ := mapGet hx
    have hi := (List.getElem?_eq_some_iff.mp hs).1
    have snoc : ∀ (y : Int) H', 0 ≤ y → y < n → (s ≠ "inner" → y = 0) → Own a c B2 H' [(hD, .lst (Hm.map V.int)), (pD, .lst (P.map V.int))] → ∃ acc, H' hD = some (.lst acc) ∧ acc.length < sizeLine ∧ ∃ Hm : List Int, Hm.length = i + 1 ∧ (∀ x ∈ Hm, 0 ≤ x ∧ x < (n : Int)) ∧ (∀ (k : Nat) (s : Str) (y : Int), ch[k]? = some s → s ≠ "inner" → Hm[k]? = some y → y = 0) ∧ Own a c B2 (upd H' hD (.lst (acc ++ [.int y]))) [(hD, .lst (Hm.map V.int)), (pD, .lst (P.map V.int))] := fun y H' y0 y1 ys O => by
      refine ⟨Hm.map V.int, O.mem List.mem_cons_self, szl2 (by rw [List.length_map]; omega), Hm ++ [y], by rw [List.length_append, zH]; rfl, fun x hx => ?_, fun k s' z e1 e2 e3 => ?_, by rw [List.map_append]; exact O.set .here⟩
      · rcases List.mem_append.mp hx with h | h
        · exact hH x h
        · rw [List.mem_singleton.mp h]
          exact ⟨y0, y1⟩
      · rcases Nat.lt_or_ge k Hm.length with h | h
        · rw [List.getElem?_append_left h] at e3
          exact hI k s' z e1 e2 e3
        · rw [List.getElem?_append_right h] at e3
          have hk := (List.getElem?_eq_some_iff.mp e3).1
          have hk : k - Hm.length < 1 := hk
          have e : k = i := by omega
          subst e
          rw [zH, Nat.sub_self] at e3
          cases e3
          rw [hs] at e1
          cases e1
          exact ys e2
    fail "s"
    refine i_d2 (fun h => ?_) (fun h => ?_)
    · fail "s"
      refine i_drawO O rfl (by omega) (by omega) fun r H2 r0 r1 O => ?_
      exact snoc r H2 r0 r1 (fun z => absurd h z) O
    · fail "s"
      exact snoc 0 _ (by omega) (by omega) (fun _ => rfl) O
  obtain ⟨Hm, zH, hH, hI, O⟩ := hh
  rw [List.length_map] at zH
  have zM : (Hm.map V.int).length = Hm.length := List.length_map _
  have gp : GoodPl n (thN l) ch P Hm := ⟨zP, zH, fun x hx => (List.mem_append.mp hx).elim (hPl x) (hH x)⟩
  have nb : ¬ BadHm ch Hm := fun ⟨k, s, y, e1, e2, e3, e4⟩ => e4 (hI k s y e1 e2 e3)
  have due : Due (n : Int) ps "" := .ok (by omega) F.good (by rw [Int.toNat_natCast]; exact C)
  have pd : PD n (thN l) ch P Hm ps "" := .ok due gp nb
  fail "s"
  rename_i nt0 K1 Q1 u1 K2 Q2 u2 K3 O
  have O : Own a c B2 K3 ([(u2, .lst (Hm.map V.int)), (u1, .lst (P.map V.int)), (nt0, .tup [.int (n : Nat), .ref lp])] ++ [(hD, .lst (Hm.map V.int)), (pD, .lst (P.map V.int))]) := O
  obtain ⟨B3, s3, ha, _, O⟩ := Own.hide O
  refine ⟨a, c, B3, _, .ref p, nt0, u1, u2, ce, th, ch, l, n, lp, lv, ps, P, Hm, rfl, cf, O, ⟨dc.mono (Same.trans s2 s3), o, ha (nt0, _) (by fail "m"), s3 _ _ hlp, Lb.Paired.mono (fun _ _ h => h.mono s3) hP, by omega, ha (u1, _) (by fail "m"), ha (u2, _) (by fail "m"), by omega, by omega⟩, fun r d H' B' D ne s O => absurd (pd.uniq D) fun e => ne e.symm, fun D q' dx lq pq hq' hops H6 B4 s4 e1 e2 e3 e4 e5 O => ?_⟩
  rw [Int.toNat_natCast] at e5
  have s34 := Same.trans s3 s4
  have P4 := Lb.Paired.mono (fun _ _ h => PairV.mono s34 h) hP
  have hlp4 := s34 _ _ hlp
  fail "s"
  refine i_n2 (fun h => absurd rfl h) (fun _ => ?_)
  fail "s"
  refine rd_neF (d := .list (ps.map Lb.prD)) (.lst (O.kp e2) (prs_dt (Lb.Paired.mono (fun _ _ h => h.mono O.keep) P4))) (.lst (O.kp hlp4) (prs_dt (Lb.Paired.mono (fun _ _ h => h.mono O.keep) P4))) prs_sh ?_
  fail "s"
  refine rd_neF (d := .list (P.map PyData.int)) (.lst (O.kp e3) (DtAll.ints P)) (.lst (O.mem (by fail "m")) (DtAll.ints P)) (Sh.shp (n := 4) (.lst .ints) (by decide)) ?_
  fail "s"
  refine rd_neF (d := .list (Hm.map PyData.int)) (.lst (O.kp e4) (DtAll.ints Hm)) (.lst (O.mem (by fail "m")) (DtAll.ints Hm)) (Sh.shp (n := 4) (.lst .ints) (by decide)) ?_
  fail "s"
  refine ⟨a, c, B4, _, lp, ps, n, rfl, O, ⟨⟨lv, hlp4, P4⟩, F.val, n6, by omega⟩, fun hp2 H7 B5 ra F2 s5 h1 h2 h3 O => ?_⟩
  obtain ⟨ra1, F1, g1, g2, g3⟩ := e5
  refine rd_neF (d := hopsD n ps F1) (hops_dt F.val (O.kp (s5 _ _ g1)) g2 g2 fun i hi => O.kp (s5 _ _ (g3 i hi))) (hops_dt F.val (O.kp h1) h2 g2 fun i hi => O.kp (h3 i hi)) hops_sh ?_
  fail "s"
  rename_i nt K4 Q4 rr K5 rr0 rr7 O
  refine i_drawO O rfl (by omega) (by omega) fun r2 K6 r20 r21 O => ?_
  obtain ⟨at0, rfl⟩ : ∃ j : Nat, r2 = (j : Int) := ⟨r2.toNat, by omega⟩
  have s45 := Same.trans s34 s5
  have ht5 := s45 _ _ ht2
  have hcq5 := s45 _ _ hcq2
  fail "s"
  refine ⟨by omega, by omega, fun oD hoD => ?_⟩
  refine i_lcR ch.length (by rw [List.length_map, zH]) (fun i H' => ∃ os : List Nat, os.length ≤ i ∧ (∀ k, k ∈ os ↔ k < i ∧ ∃ s, ch[k]? = some s ∧ s ≠ "inner") ∧ Own a c B5 H' [(oD, .lst (nv os)), (nt, .tup [.int (n : Nat), .ref lp]), (hD, .lst (Hm.map V.int)), (pD, .lst (P.map V.int))]) ⟨[], Nat.le_refl _, fun k => ⟨fun h => by (cases h), fun h => absurd h.1 (by omega)⟩, O.new hoD⟩ (fun i H' hi ⟨os, zo, ho, O⟩ => ?_) fun H' hh => ?_
  · obtain ⟨s, hs⟩ : ∃ s, ch[i]? = some s := ⟨_, List.getElem?_eq_getElem hi⟩
    have as : atI (ch.map V.str) (i : Nat) = some (.str s) := atI_nat (by rw [List.getElem?_map, hs]; rfl)
    fail "s"
    refine i_n2 (fun h => ?_) (fun h => ?_)
    · fail "s"
      refine ⟨nv os, O.mem List.mem_cons_self, szl2 (by rw [nv_len]; omega), os ++ [i], by rw [List.length_append]; show _ + 1 ≤ _; omega, fun k => ?_, by rw [← nv_snoc]; exact O.set .here⟩
      rw [List.mem_append, List.mem_singleton, ho]
      constructor
      · rintro (⟨h1, h2⟩ | rfl)
        · exact ⟨by omega, h2⟩
        · exact ⟨by omega, s, hs, h⟩
      · rintro ⟨h1, h2⟩
        by_cases e : k = i
        · exact .inr e
        · exact .inl ⟨by omega, h2⟩
    · fail "s"
      refine ⟨os, by omega, fun k => ?_, O⟩
      rw [ho]
      constructor
      · exact fun ⟨h1, h2⟩ => ⟨by omega, h2⟩
      · rintro ⟨h1, h2⟩
        by_cases e : k = i
        · subst e
          obtain ⟨s', e1, e2⟩ := h2
          rw [hs] at e1
          cases e1
          exact absurd h e2
        · exact ⟨by omega, h2⟩
  obtain ⟨os, zo, ho, O⟩ := hh
  fail "s"
  exact law_chain A cf O (dc.mono (Same.trans s2 s45)) o (s45 _ _ hlp) (Lb.Paired.mono (fun _ _ h => h.mono s45) hP) hz F C due n1 n6 gp rfl hN1 hN c24 ho (by omega) rr0 rr7 (by omega) k
set_option Elab.async false
set_option linter.all false
set_option maxRecDepth 100000
set_option maxHeartbeats 4000000
open PySem PySem.Spec PyProof.Rows L2 Lb
def top (i : Nat) : Stmt := PySem.Challenge.pw_placedanyhow_k41_plans_that_fit.main.body.getD i (.Pass ⟨0, 0, 0, 0⟩)
structure Tx (K : PySem.W.Frag) (mg : Str → Option Value) (A : Ad) : Prop where
  k : A.K = K
  g_PlacedError : GV mg "PlacedError" (.ref A.c_PlacedError)
  h_PlacedError : mg "PlacedError" = some (.ref A.c_PlacedError)
  g_PlanError : GV mg "PlanError" (.ref A.c_PlanError)
  h_PlanError : mg "PlanError" = some (.ref A.c_PlanError)
  g_thread_number : GV mg "thread_number" (.ref A.f_thread_number)
  b_abs : mg "abs" = none
  b_enumerate : mg "enumerate" = none
  b_int : mg "int" = none
  b_isinstance : mg "isinstance" = none
  b_len : mg "len" = none
  b_list : mg "list" = none
  b_min : mg "min" = none
  b_range : mg "range" = none
  b_reversed : mg "reversed" = none
  b_sorted : mg "sorted" = none
  b_zip : mg "zip" = none
  g_MOST : GV mg "MOST" (.int 6)
theorem nn__law_a : Nm "_law_a" := ⟨by decide, by decide⟩
theorem nn__law_alts : Nm "_law_alts" := ⟨by decide, by decide⟩
theorem nn__law_at : Nm "_law_at" := ⟨by decide, by decide⟩
theorem nn__law_b : Nm "_law_b" := ⟨by decide, by decide⟩
theorem nn__law_body : Nm "_law_body" := ⟨by decide, by decide⟩
theorem nn__law_c : Nm "_law_c" := ⟨by decide, by decide⟩
theorem nn__law_cell : Nm "_law_cell" := ⟨by decide, by decide⟩
theorem nn__law_cells : Nm "_law_cells" := ⟨by decide, by decide⟩
theorem nn__law_channels : Nm "_law_channels" := ⟨by decide, by decide⟩
theorem nn__law_core_here : Nm "_law_core_here" := ⟨by decide, by decide⟩
theorem nn__law_counter : Nm "_law_counter" := ⟨by decide, by decide⟩
theorem nn__law_deep : Nm "_law_deep" := ⟨by decide, by decide⟩
theorem nn__law_due : Nm "_law_due" := ⟨by decide, by decide⟩
theorem nn__law_env_here : Nm "_law_env_here" := ⟨by decide, by decide⟩
theorem nn__law_envs : Nm "_law_envs" := ⟨by decide, by decide⟩
theorem nn__law_first : Nm "_law_first" := ⟨by decide, by decide⟩
theorem nn__law_found : Nm "_law_found" := ⟨by decide, by decide⟩
theorem nn__law_giver : Nm "_law_giver" := ⟨by decide, by decide⟩
theorem nn__law_guard : Nm "_law_guard" := ⟨by decide, by decide⟩
theorem nn__law_homes : Nm "_law_homes" := ⟨by decide, by decide⟩
theorem nn__law_inner : Nm "_law_inner" := ⟨by decide, by decide⟩
theorem nn__law_ins : Nm "_law_ins" := ⟨by decide, by decide⟩
theorem nn__law_item : Nm "_law_item" := ⟨by decide, by decide⟩
theorem nn__law_items_here : Nm "_law_items_here" := ⟨by decide, by decide⟩
theorem nn__law_k : Nm "_law_k" := ⟨by decide, by decide⟩
theorem nn__law_kind : Nm "_law_kind" := ⟨by decide, by decide⟩
theorem nn__law_known : Nm "_law_known" := ⟨by decide, by decide⟩
theorem nn__law_links : Nm "_law_links" := ⟨by decide, by decide⟩
theorem nn__law_loops : Nm "_law_loops" := ⟨by decide, by decide⟩
theorem nn__law_many : Nm "_law_many" := ⟨by decide, by decide⟩
theorem nn__law_mixed : Nm "_law_mixed" := ⟨by decide, by decide⟩
theorem nn__law_more : Nm "_law_more" := ⟨by decide, by decide⟩
theorem nn__law_network_here : Nm "_law_network_here" := ⟨by decide, by decide⟩
theorem nn__law_number_here : Nm "_law_number_here" := ⟨by decide, by decide⟩
theorem nn__law_other : Nm "_law_other" := ⟨by decide, by decide⟩
theorem nn__law_outer : Nm "_law_outer" := ⟨by decide, by decide⟩
theorem nn__law_outs : Nm "_law_outs" := ⟨by decide, by decide⟩
theorem nn__law_part : Nm "_law_part" := ⟨by decide, by decide⟩
theorem nn__law_parts : Nm "_law_parts" := ⟨by decide, by decide⟩
theorem nn__law_places : Nm "_law_places" := ⟨by decide, by decide⟩
theorem nn__law_plan : Nm "_law_plan" := ⟨by decide, by decide⟩
theorem nn__law_row : Nm "_law_row" := ⟨by decide, by decide⟩
theorem nn__law_rows : Nm "_law_rows" := ⟨by decide, by decide⟩
theorem nn__law_s : Nm "_law_s" := ⟨by decide, by decide⟩
theorem nn__law_script : Nm "_law_script" := ⟨by decide, by decide⟩
theorem nn__law_scripts : Nm "_law_scripts" := ⟨by decide, by decide⟩
theorem nn__law_seed : Nm "_law_seed" := ⟨by decide, by decide⟩
theorem nn__law_size : Nm "_law_size" := ⟨by decide, by decide⟩
theorem nn__law_state_here : Nm "_law_state_here" := ⟨by decide, by decide⟩
theorem nn__law_taker : Nm "_law_taker" := ⟨by decide, by decide⟩
theorem nn__law_thread : Nm "_law_thread" := ⟨by decide, by decide⟩
theorem nn__law_threads_here : Nm "_law_threads_here" := ⟨by decide, by decide⟩
theorem nn__law_turn : Nm "_law_turn" := ⟨by decide, by decide⟩
theorem nn__law_turns : Nm "_law_turns" := ⟨by decide, by decide⟩
theorem nn__law_world : Nm "_law_world" := ⟨by decide, by decide⟩
theorem nn_a : Nm "a" := ⟨by decide, by decide⟩
theorem nn_at : Nm "at" := ⟨by decide, by decide⟩
theorem nn_b : Nm "b" := ⟨by decide, by decide⟩
theorem nn_core : Nm "core" := ⟨by decide, by decide⟩
theorem nn_e : Nm "e" := ⟨by decide, by decide⟩
theorem nn_far : Nm "far" := ⟨by decide, by decide⟩
theorem nn_found : Nm "found" := ⟨by decide, by decide⟩
theorem nn_goal : Nm "goal" := ⟨by decide, by decide⟩
theorem nn_home : Nm "home" := ⟨by decide, by decide⟩
theorem nn_homes : Nm "homes" := ⟨by decide, by decide⟩
theorem nn_k : Nm "k" := ⟨by decide, by decide⟩
theorem nn_kind : Nm "kind" := ⟨by decide, by decide⟩
theorem nn_link : Nm "link" := ⟨by decide, by decide⟩
theorem nn_links : Nm "links" := ⟨by decide, by decide⟩
theorem nn_many : Nm "many" := ⟨by decide, by decide⟩
theorem nn_network : Nm "network" := ⟨by decide, by decide⟩
theorem nn_other : Nm "other" := ⟨by decide, by decide⟩
theorem nn_parent : Nm "parent" := ⟨by decide, by decide⟩
theorem nn_part : Nm "part" := ⟨by decide, by decide⟩
theorem nn_place : Nm "place" := ⟨by decide, by decide⟩
theorem nn_places : Nm "places" := ⟨by decide, by decide⟩
theorem nn_processors : Nm "processors" := ⟨by decide, by decide⟩
theorem nn_row : Nm "row" := ⟨by decide, by decide⟩
theorem nn_rows : Nm "rows" := ⟨by decide, by decide⟩
theorem nn_s : Nm "s" := ⟨by decide, by decide⟩
theorem nn_self : Nm "self" := ⟨by decide, by decide⟩
theorem nn_statement : Nm "statement" := ⟨by decide, by decide⟩
theorem nn_table : Nm "table" := ⟨by decide, by decide⟩
theorem nn_thread : Nm "thread" := ⟨by decide, by decide⟩
theorem nn_threads : Nm "threads" := ⟨by decide, by decide⟩
section
variable {P : Program} {w : World} {K : PySem.W.Frag} {mg : Str → Option Value} {base : Heap}
abbrev s_PlanError_init : Stmt := inClass (top 2) 0
theorem sc_PlanError_init : FnScope ["self", "reason"] ["self", "reason"] (defScope s_PlanError_init) := ⟨rfl, rfl, rfl, by decide +kernel, rfl, by decide +kernel, by decide +kernel⟩
theorem ok_PlanError_init {A : Ad} (T : Tx K mg A) (TE : EC A.K A.c_PlanError A.c_PlacedError A.i_PlanError "reason") {fd : FuncData} (F : FunD K "__init__" "PlanError.__init__" (defArgs s_PlanError_init) (defBody s_PlanError_init) (defScope s_PlanError_init) [] [] A.i_PlanError fd) : FnOk P w K mg base CX0 1 A.i_PlanError fd ["self", "reason"] (spExi A.K A.c_PlanError A.c_PlacedError A.i_PlanError "reason") := by
  obtain rfl := T.k
  refine F.ok sc_PlanError_init (fun vs H Q E h => len_exi h) (fun cdv Ar outer s H vs Q E hr h => ⟨t_exi A.K "reason" "invalid plan", PSs.nox ?_, pure_exi h⟩)
  exact (pss_cons (ps_expr (pe_exinit TE (by rfl) T.h_PlacedError (pa_cons (pv 0) (pa_cons pe_str pa_nil)))) (pss_one (ps_ost (pv 0) (pv 1))))
abbrev s_neighbours : Stmt := top 5
theorem sc_neighbours : FnScope ["links", "at", "found", "a", "b", "other"] ["links", "at"] (defScope s_neighbours) := ⟨rfl, rfl, rfl, by decide +kernel, rfl, by decide +kernel, by decide +kernel⟩
set_option maxHeartbeats 4000000 in
theorem ok_neighbours {A : Ad} (T : Tx K mg A) (hw : A.w = w) {f : Addr} {fd : FuncData} (F : FunD K "neighbours" "neighbours" (defArgs s_neighbours) (defBody s_neighbours) (defScope s_neighbours) [] [] f fd) : FnOk P w K mg base CX0 (1) f fd ["links", "at"] (sp_neighbours A) := by
  obtain rfl := T.k
  obtain rfl := hw
  refine F.ok sc_neighbours (fun vs H Q E h => len_neighbours A h) (fun cdv Ar outer s H vs Q E hr h => ⟨t_neighbours A, PSs.nox ?_, pure_neighbours A vs H Q E h⟩)
  exact (pss_cons (ps_set (i := 2) sc_neighbours.nd rfl (Or.inl rfl) (pe_op op_addA (pe_lc (own := [("a", 3), ("b", 4)]) rfl sc_neighbours.nd (pi_list (pvx (i := 0) nn_links rfl (Or.inl rfl))) (blkOk_by (own := [("a", 3), ("b", 4)]) (N := ["links", "at", "found", "a", "b", "other"]) (sc := defScope s_neighbours) (by decide +kernel)) (fun _ _ _ _ _ => (pg_tup rfl (pgs_cons (pg_name (i := 3) sc_neighbours.nd rfl (Or.inl rfl)) (pgs_cons (pg_name (i := 4) sc_neighbours.nd rfl (Or.inl rfl)) pgs_nil)))) (fun _ _ _ _ _ => (pts_one (pt_cmpR (op_eqA hr.units) (pvx (i := 3) nn_a rfl (by first | exact Or.inl rfl | exact Or.inr (Or.inl rfl) | exact Or.inr (Or.inr rfl))) (pvx (i := 1) nn_at rfl (by first | exact Or.inl rfl | exact Or.inr (Or.inl rfl) | exact Or.inr (Or.inr rfl))) (nomark _)))) (fun _ _ _ _ _ => (pvx (i := 4) nn_b rfl (by first | exact Or.inl rfl | exact Or.inr (Or.inl rfl) | exact Or.inr (Or.inr rfl))))) (pe_lc (own := [("a", 3), ("b", 4)]) rfl sc_neighbours.nd (pi_list (pvx (i := 0) nn_links rfl (Or.inl rfl))) (blkOk_by (own := [("a", 3), ("b", 4)]) (N := ["links", "at", "found", "a", "b", "other"]) (sc := defScope s_neighbours) (by decide +kernel)) (fun _ _ _ _ _ => (pg_tup rfl (pgs_cons (pg_name (i := 3) sc_neighbours.nd rfl (Or.inl rfl)) (pgs_cons (pg_name (i := 4) sc_neighbours.nd rfl (Or.inl rfl)) pgs_nil)))) (fun _ _ _ _ _ => (pts_one (pt_cmpR (op_eqA hr.units) (pvx (i := 4) nn_b rfl (by first | exact Or.inl rfl | exact Or.inr (Or.inl rfl) | exact Or.inr (Or.inr rfl))) (pvx (i := 1) nn_at rfl (by first | exact Or.inl rfl | exact Or.inr (Or.inl rfl) | exact Or.inr (Or.inr rfl))) (nomark _)))) (fun _ _ _ _ _ => (pvx (i := 3) nn_a rfl (by first | exact Or.inl rfl | exact Or.inr (Or.inl rfl) | exact Or.inr (Or.inr rfl))))))) (pss_one (ps_ret (pe_callB ((cr_sortedSet rfl)) (by rfl) T.b_sorted (by decide +kernel) (pa_cons (pe_scI (own := [("other", 5)]) rfl sc_neighbours.nd (pi_list (pvx (i := 2) nn_found rfl (Or.inl rfl))) (blkOk_by (own := [("other", 5)]) (N := ["links", "at", "found", "a", "b", "other"]) (sc := defScope s_neighbours) (by decide +kernel)) (fun _ _ _ _ _ => (pg_name (i := 5) sc_neighbours.nd rfl (Or.inl rfl))) (fun _ _ _ _ _ => (pvx (i := 5) nn_other rfl (by first | exact Or.inl rfl | exact Or.inr (Or.inl rfl) | exact Or.inr (Or.inr rfl))))) pa_nil rfl)))))
abbrev s_distances : Stmt := top 6
theorem sc_distances : FnScope ["processors", "links", "goal", "found", "row", "k", "at", "other"] ["processors", "links", "goal"] (defScope s_distances) := ⟨rfl, rfl, rfl, by decide +kernel, rfl, by decide +kernel, by decide +kernel⟩
set_option maxHeartbeats 4000000 in
theorem ok_distances {A : Ad} (T : Tx K mg A) (hw : A.w = w) {f : Addr} {fd : FuncData} (F : FunD K "distances" "distances" (defArgs s_distances) (defBody s_distances) (defScope s_distances) [] [] f fd)
    (c_neighbours : Cal P w K mg base "neighbours" (1) ["links", "at"] (sp_neighbours A)) : FnOk P w K mg base CX0 (2) f fd ["processors", "links", "goal"] (sp_distances A) := by
  obtain rfl := T.k
  obtain rfl := hw
  refine F.ok sc_distances (fun vs H Q E h => len_distances A h) (fun cdv Ar outer s H vs Q E hr h => ⟨t_distances A, PSs.nox ?_, pure_distances A vs H Q E h⟩)
  exact (pss_cons (ps_set (i := 3) sc_distances.nd rfl (Or.inl rfl) (pe_op op_mulA (pe_lst (pa_cons (pe_un un_neg pe_int) pa_nil rfl)) (pvx (i := 0) nn_processors rfl (Or.inl rfl)))) (pss_cons (ps_asg pe_int (pg_sub (pvx (i := 3) nn_found rfl (Or.inl rfl)) (pvx (i := 2) nn_goal rfl (Or.inl rfl)) set_A)) (pss_cons (ps_set (i := 4) sc_distances.nd rfl (Or.inl rfl) (pe_lst (pa_cons (pvx (i := 2) nn_goal rfl (Or.inl rfl)) pa_nil rfl))) (pss_cons (ps_set (i := 5) sc_distances.nd rfl (Or.inl rfl) pe_int) (pss_cons (ps_while PassesOwn.never (pt_cmpR op_lt (pvx (i := 5) nn_k rfl (Or.inl rfl)) (pe_callB call_lenA (by rfl) T.b_len (by decide +kernel) (pa_cons (pvx (i := 4) nn_row rfl (Or.inl rfl)) pa_nil rfl)) (nomark _)) (pss_cons (ps_set (i := 6) sc_distances.nd rfl (Or.inl rfl) (pe_ix ix_A (pvx (i := 4) nn_row rfl (Or.inl rfl)) (pvx (i := 5) nn_k rfl (Or.inl rfl)) (fun _ _ => rfl))) (pss_cons (ps_set (i := 5) sc_distances.nd rfl (Or.inl rfl) (pe_op op_addA (pvx (i := 5) nn_k rfl (Or.inl rfl)) pe_int)) (pss_one (ps_for PassesOwn.never rfl (pi_list (pe_cal c_neighbours (hr.mono (by omega)) (by rfl) (pa_cons (pvx (i := 1) nn_links rfl (Or.inl rfl)) (pa_cons (pvx (i := 6) nn_at rfl (Or.inl rfl)) pa_nil rfl) rfl))) (pg_name (i := 7) sc_distances.nd rfl (Or.inl rfl)) (pss_one (ps_if (pt_cmpR op_lt (pe_ix ix_A (pvx (i := 3) nn_found rfl (Or.inl rfl)) (pvx (i := 7) nn_other rfl (Or.inl rfl)) (fun _ _ => rfl)) pe_int (nomark _)) (pss_cons (ps_asg (pe_op op_addA (pe_ix ix_A (pvx (i := 3) nn_found rfl (Or.inl rfl)) (pvx (i := 6) nn_at rfl (Or.inl rfl)) (fun _ _ => rfl)) pe_int) (pg_sub (pvx (i := 3) nn_found rfl (Or.inl rfl)) (pvx (i := 7) nn_other rfl (Or.inl rfl)) set_A)) (pss_one (ps_expr (pe_bml PySem.F.slot_list_append PySem.F.type_list_append mt_appA (pvx (i := 4) nn_row rfl (Or.inl rfl)) (pa_cons (pvx (i := 7) nn_other rfl (Or.inl rfl)) pa_nil rfl))))) pss_nil))))))) (pss_one (ps_ret (pvx (i := 3) nn_found rfl (Or.inl rfl)))))))))
abbrev s_check_network : Stmt := top 7
theorem sc_check_network : FnScope ["processors", "links", "at", "link", "a", "b"] ["processors", "links"] (defScope s_check_network) := ⟨rfl, rfl, rfl, by decide +kernel, rfl, by decide +kernel, by decide +kernel⟩
set_option maxHeartbeats 4000000 in
theorem ok_check_network {A : Ad} (T : Tx K mg A) (hw : A.w = w) {f : Addr} {fd : FuncData} (F : FunD K "check_network" "check_network" (defArgs s_check_network) (defBody s_check_network) (defScope s_check_network) [] [] f fd)
    (c_PlanError : CalE P w K mg base "PlanError" A.c_PlanError A.c_PlacedError A.i_PlanError "reason" 1 ["self", "reason"])
    (c_distances : Cal P w K mg base "distances" (2) ["processors", "links", "goal"] (sp_distances A)) : FnOk P w K mg base (L2.CX P w) (3) f fd ["processors", "links"] (sp_check_network A) := by
  obtain rfl := T.k
  obtain rfl := hw
  refine F.ok sc_check_network (fun vs H Q E h => len_check_network A h) (fun cdv Ar outer s H vs Q E hr h => ⟨t_check_network A (fun cls d _ H => E cls d H), ?_, pure_check_network A vs H Q E h⟩)
  exact (pss_cons (ps_if (PW.pt (pw_or (pt_cmpR op_lt (pvx (i := 0) nn_processors rfl (Or.inl rfl)) pe_int (nomark _)) (pw_or1 (pt_cmpR op_gt (pvx (i := 0) nn_processors rfl (Or.inl rfl)) (pe_gv T.g_MOST (by rfl)) (nomark _))))) (pss_one (ps_raiseX rfl (takes_of rfl rfl rfl rfl) c_PlanError (hr.mono (by omega)) (by rfl) pe_str)) pss_nil) (pss_cons (ps_for (passes_of rfl) rfl (pi_enum (by rfl) T.b_enumerate (pa_cons (pvx (i := 1) nn_links rfl (Or.inl rfl)) pa_nil rfl)) (pg_tup rfl (pgs_cons (pg_name (i := 2) sc_check_network.nd rfl (Or.inl rfl)) (pgs_cons (pg_name (i := 3) sc_check_network.nd rfl (Or.inl rfl)) pgs_nil))) (pss_cons (ps_asg (pvx (i := 3) nn_link rfl (Or.inl rfl)) (pg_tup rfl (pgs_cons (pg_name (i := 4) sc_check_network.nd rfl (Or.inl rfl)) (pgs_cons (pg_name (i := 5) sc_check_network.nd rfl (Or.inl rfl)) pgs_nil)))) (pss_one (ps_if (PW.pt (pw_or (pt_cmpR op_lt (pvx (i := 4) nn_a rfl (Or.inl rfl)) pe_int (nomark _)) (pw_or (pt_cmpR op_ge (pvx (i := 5) nn_b rfl (Or.inl rfl)) (pvx (i := 0) nn_processors rfl (Or.inl rfl)) (nomark _)) (pw_or (pt_cmpR op_ge (pvx (i := 4) nn_a rfl (Or.inl rfl)) (pvx (i := 5) nn_b rfl (Or.inl rfl)) (nomark _)) (pw_or1 (pt_cmpR (op_inD (units65 hr)) (pvx (i := 3) nn_link rfl (Or.inl rfl)) (pe_slice sl_A (pvx (i := 1) nn_links rfl (Or.inl rfl)) po_none (po_some (pvx (i := 2) nn_at rfl (Or.inl rfl)))) (by rfl))))))) (pss_one (ps_raiseX rfl (takes_of rfl rfl rfl rfl) c_PlanError (hr.mono (by omega)) (by rfl) pe_str)) pss_nil)))) (pss_one (ps_if (pt_cmpR op_lt (pe_callB (cr_min rfl) (by rfl) T.b_min (by decide +kernel) (pa_cons (pe_cal c_distances (hr.mono (by omega)) (by rfl) (pa_cons (pvx (i := 0) nn_processors rfl (Or.inl rfl)) (pa_cons (pvx (i := 1) nn_links rfl (Or.inl rfl)) (pa_cons pe_int pa_nil rfl) rfl) rfl)) pa_nil rfl)) pe_int (nomark _)) (pss_one (ps_raiseX rfl (takes_of rfl rfl rfl rfl) c_PlanError (hr.mono (by omega)) (by rfl) pe_str)) pss_nil))))
abbrev s_next_hops : Stmt := top 8
theorem sc_next_hops : FnScope ["processors", "links", "table", "goal", "far", "at", "other"] ["processors", "links"] (defScope s_next_hops) := ⟨rfl, rfl, rfl, by decide +kernel, rfl, by decide +kernel, by decide +kernel⟩
set_option maxHeartbeats 4000000 in
theorem ok_next_hops {A : Ad} (T : Tx K mg A) (hw : A.w = w) {f : Addr} {fd : FuncData} (F : FunD K "next_hops" "next_hops" (defArgs s_next_hops) (defBody s_next_hops) (defScope s_next_hops) [] [] f fd)
    (c_distances : Cal P w K mg base "distances" (2) ["processors", "links", "goal"] (sp_distances A))
    (c_neighbours : Cal P w K mg base "neighbours" (1) ["links", "at"] (sp_neighbours A)) : FnOk P w K mg base CX0 (3) f fd ["processors", "links"] (sp_next_hops A) := by
  obtain rfl := T.k
  obtain rfl := hw
  refine F.ok sc_next_hops (fun vs H Q E h => len_next_hops A h) (fun cdv Ar outer s H vs Q E hr h => ⟨t_next_hops A, PSs.nox ?_, pure_next_hops A vs H Q E h⟩)
  exact (pss_cons (ps_setLc (i := 2) (own := [("at", 5)]) rfl sc_next_hops.nd rfl rfl (sw_true rfl rfl rfl (by decide +kernel)) (pi_range1 (by rfl) T.b_range (pa_cons (pvx (i := 0) nn_processors rfl (by first | exact Or.inl rfl | exact Or.inr (Or.inl rfl) | exact Or.inr (Or.inr rfl))) pa_nil rfl)) (blkOk_by (own := [("at", 5)]) (N := ["processors", "links", "table", "goal", "far", "at", "other"]) (sc := defScope s_next_hops) (by decide +kernel)) (fun _ _ _ _ _ => (pg_name (i := 5) sc_next_hops.nd rfl (Or.inl rfl))) (fun _ _ _ _ _ => pts_nil) (fun _ _ _ _ _ => (pe_op op_mulA (pe_lst (pa_cons (pvx (i := 5) nn_at rfl (by first | exact Or.inl rfl | exact Or.inr (Or.inl rfl) | exact Or.inr (Or.inr rfl))) pa_nil rfl)) (pvx (i := 0) nn_processors rfl (by first | exact Or.inl rfl | exact Or.inr (Or.inl rfl) | exact Or.inr (Or.inr rfl)))))) (pss_cons (ps_for PassesOwn.never rfl (pi_range1 (by rfl) T.b_range (pa_cons (pvx (i := 0) nn_processors rfl (by first | exact Or.inl rfl | exact Or.inr (Or.inl rfl) | exact Or.inr (Or.inr rfl))) pa_nil rfl)) (pg_name (i := 3) sc_next_hops.nd rfl (Or.inl rfl)) (pss_cons (ps_set (i := 4) sc_next_hops.nd rfl (Or.inl rfl) (pe_cal c_distances (hr.mono (by omega)) (by rfl) (pa_cons (pvx (i := 0) nn_processors rfl (by first | exact Or.inl rfl | exact Or.inr (Or.inl rfl) | exact Or.inr (Or.inr rfl))) (pa_cons (pvx (i := 1) nn_links rfl (Or.inl rfl)) (pa_cons (pvx (i := 3) nn_goal rfl (Or.inl rfl)) pa_nil rfl) rfl) rfl))) (pss_one (ps_for PassesOwn.never rfl (pi_range1 (by rfl) T.b_range (pa_cons (pvx (i := 0) nn_processors rfl (by first | exact Or.inl rfl | exact Or.inr (Or.inl rfl) | exact Or.inr (Or.inr rfl))) pa_nil rfl)) (pg_name (i := 5) sc_next_hops.nd rfl (Or.inl rfl)) (pss_one (ps_for PassesOwn.never rfl (pi_reversed (by rfl) T.b_reversed (pa_cons (pe_cal c_neighbours (hr.mono (by omega)) (by rfl) (pa_cons (pvx (i := 1) nn_links rfl (Or.inl rfl)) (pa_cons (pvx (i := 5) nn_at rfl (Or.inl rfl)) pa_nil rfl) rfl)) pa_nil rfl)) (pg_name (i := 6) sc_next_hops.nd rfl (Or.inl rfl)) (pss_one (ps_if (PW.pt (pw_and (pt_cmpR (op_neA hr.units) (pvx (i := 5) nn_at rfl (Or.inl rfl)) (pvx (i := 3) nn_goal rfl (Or.inl rfl)) (nomark _)) (pw_and1 (pt_cmpR (op_eqA hr.units) (pe_ix ix_A (pvx (i := 4) nn_far rfl (Or.inl rfl)) (pvx (i := 6) nn_other rfl (Or.inl rfl)) (fun _ _ => rfl)) (pe_op op_sub (pe_ix ix_A (pvx (i := 4) nn_far rfl (Or.inl rfl)) (pvx (i := 5) nn_at rfl (Or.inl rfl)) (fun _ _ => rfl)) pe_int) (nomark _))))) (pss_one (ps_asg (pvx (i := 6) nn_other rfl (Or.inl rfl)) (pg_sub (pe_ix ix_A (pvx (i := 2) nn_table rfl (Or.inl rfl)) (pvx (i := 5) nn_at rfl (Or.inl rfl)) (fun _ _ => rfl)) (pvx (i := 3) nn_goal rfl (Or.inl rfl)) set_A))) pss_nil)))))))) (pss_one (ps_ret (pvx (i := 2) nn_table rfl (Or.inl rfl))))))
abbrev s_parts : Stmt := top 10
theorem sc_parts : FnScope ["s", "_", "statement"] ["s"] (defScope s_parts) := ⟨rfl, rfl, rfl, by decide +kernel, rfl, by decide +kernel, by decide +kernel⟩
set_option maxHeartbeats 4000000 in
theorem ok_parts {A : Ad} (T : Tx K mg A) (hw : A.w = w) {f : Addr} {fd : FuncData} (F : FunD K "parts" "parts" (defArgs s_parts) (defBody s_parts) (defScope s_parts) [] [] f fd) : FnOk P w K mg base CX0 (1) f fd ["s"] (sp_parts A) := by
  obtain rfl := T.k
  obtain rfl := hw
  refine F.ok sc_parts (fun vs H Q E h => len_parts A h) (fun cdv Ar outer s H vs Q E hr h => ⟨t_parts A, PSs.nox ?_, pure_parts A vs H Q E h⟩)
  exact (pss_cons (ps_if (pt_cmpR (op_eqA hr.units) (pe_ix ix_A (pvx (i := 0) nn_s rfl (Or.inl rfl)) pe_int (fun _ _ => rfl)) pe_str (nomark _)) (pss_one (ps_ret (pe_ix ix_A (pvx (i := 0) nn_s rfl (Or.inl rfl)) pe_int (fun _ _ => rfl)))) pss_nil) (pss_cons (ps_if (pt_cmpR (op_eqA hr.units) (pe_ix ix_A (pvx (i := 0) nn_s rfl (Or.inl rfl)) pe_int (fun _ _ => rfl)) pe_str (nomark _)) (pss_one (ps_ret (pe_lc (own := [("_", 1), ("statement", 2)]) rfl sc_parts.nd (pi_list (pe_ix ix_A (pvx (i := 0) nn_s rfl (Or.inl rfl)) pe_int (fun _ _ => rfl))) (blkOk_by (own := [("_", 1), ("statement", 2)]) (N := ["s", "_", "statement"]) (sc := defScope s_parts) (by decide +kernel)) (fun _ _ _ _ _ => (pg_tup rfl (pgs_cons (pg_name (i := 1) sc_parts.nd rfl (Or.inl rfl)) (pgs_cons (pg_name (i := 2) sc_parts.nd rfl (Or.inl rfl)) pgs_nil)))) (fun _ _ _ _ _ => pts_nil) (fun _ _ _ _ _ => (pvx (i := 2) nn_statement rfl (by first | exact Or.inl rfl | exact Or.inr (Or.inl rfl) | exact Or.inr (Or.inr rfl))))))) pss_nil) (pss_cons (ps_if (pt_cmpR (op_eqA hr.units) (pe_ix ix_A (pvx (i := 0) nn_s rfl (Or.inl rfl)) pe_int (fun _ _ => rfl)) pe_str (nomark _)) (pss_one (ps_ret (pe_lst (pa_cons (pe_ix ix_A (pvx (i := 0) nn_s rfl (Or.inl rfl)) pe_int (fun _ _ => rfl)) (pa_cons (pe_ix ix_A (pvx (i := 0) nn_s rfl (Or.inl rfl)) pe_int (fun _ _ => rfl)) pa_nil rfl) rfl)))) pss_nil) (pss_cons (ps_if (pt_cmpR (op_eqA hr.units) (pe_ix ix_A (pvx (i := 0) nn_s rfl (Or.inl rfl)) pe_int (fun _ _ => rfl)) pe_str (nomark _)) (pss_one (ps_ret (pe_lst (pa_cons (pe_ix ix_A (pvx (i := 0) nn_s rfl (Or.inl rfl)) pe_int (fun _ _ => rfl)) pa_nil rfl)))) pss_nil) (pss_one (ps_ret (pe_lst pa_nil)))))))
abbrev s_inner_statements : Stmt := top 11
theorem sc_inner_statements : FnScope ["s", "row"] ["s"] (defScope s_inner_statements) := ⟨rfl, rfl, rfl, by decide +kernel, rfl, by decide +kernel, by decide +kernel⟩
set_option maxHeartbeats 4000000 in
theorem ok_inner_statements {A : Ad} (T : Tx K mg A) (hw : A.w = w) {f : Addr} {fd : FuncData} (F : FunD K "inner_statements" "inner_statements" (defArgs s_inner_statements) (defBody s_inner_statements) (defScope s_inner_statements) [] [] f fd)
    (c_parts : Cal P w K mg base "parts" (1) ["s"] (sp_parts A)) : FnOk P w K mg base CX0 (2) f fd ["s"] (sp_inner_statements A) := by
  obtain rfl := T.k
  obtain rfl := hw
  refine F.ok sc_inner_statements (fun vs H Q E h => len_inner_statements A h) (fun cdv Ar outer s H vs Q E hr h => ⟨t_inner_statements A, PSs.nox ?_, pure_inner_statements A vs H Q E h⟩)
  exact (pss_cons (ps_if (pt_cmpR (op_eqA hr.units) (pe_ix ix_A (pvx (i := 0) nn_s rfl (Or.inl rfl)) pe_int (fun _ _ => rfl)) pe_str (nomark _)) (pss_one (ps_ret (pe_lc (own := [("row", 1)]) rfl sc_inner_statements.nd (pi_list (pe_ix ix_A (pvx (i := 0) nn_s rfl (Or.inl rfl)) pe_int (fun _ _ => rfl))) (blkOk_by (own := [("row", 1)]) (N := ["s", "row"]) (sc := defScope s_inner_statements) (by decide +kernel)) (fun _ _ _ _ _ => (pg_name (i := 1) sc_inner_statements.nd rfl (Or.inl rfl))) (fun _ _ _ _ _ => pts_nil) (fun _ _ _ _ _ => (pe_ix ix_A (pvx (i := 1) nn_row rfl (by first | exact Or.inl rfl | exact Or.inr (Or.inl rfl) | exact Or.inr (Or.inr rfl))) pe_int (fun _ _ => rfl)))))) pss_nil) (pss_one (ps_ret (pe_cal c_parts (hr.mono (by omega)) (by rfl) (pa_cons (pvx (i := 0) nn_s rfl (Or.inl rfl)) pa_nil rfl)))))
abbrev s_branches : Stmt := top 12
theorem sc_branches : FnScope ["s", "parent", "found", "thread", "statement", "part"] ["s", "parent"] (defScope s_branches) := ⟨rfl, rfl, rfl, by decide +kernel, rfl, by decide +kernel, by decide +kernel⟩
set_option maxHeartbeats 4000000 in
theorem ok_branches {A : Ad} (T : Tx K mg A) (hw : A.w = w) (n : Nat) {f : Addr} {fd : FuncData} (F : FunD K "branches" "branches" (defArgs s_branches) (defBody s_branches) (defScope s_branches) [] [] f fd)
    (c_branches : Cal P w K mg base "branches" (n + 2) ["s", "parent"] (sp_branchesP A n))
    (c_inner_statements : Cal P w K mg base "inner_statements" (2) ["s"] (sp_inner_statements A)) : FnOk P w K mg base CX0 (n + 3) f fd ["s", "parent"] (sp_branches A n) := by
  obtain rfl := T.k
  obtain rfl := hw
  refine F.ok sc_branches (fun vs H Q E h => len_branches A h) (fun cdv Ar outer s H vs Q E hr h => ⟨t_branches A n, PSs.nox ?_, pure_branches A n vs H Q E h⟩)
  exact (pss_cons (ps_set (i := 2) sc_branches.nd rfl (Or.inl rfl) (pe_lst pa_nil)) (pss_cons (ps_if (pt_cmpR (op_eqA hr.units) (pe_ix ix_A (pvx (i := 0) nn_s rfl (Or.inl rfl)) pe_int (fun _ _ => rfl)) pe_str (nomark _)) (pss_cons (ps_for PassesOwn.never rfl (pi_list (pe_ix ix_A (pvx (i := 0) nn_s rfl (Or.inl rfl)) pe_int (fun _ _ => rfl))) (pg_tup rfl (pgs_cons (pg_name (i := 3) sc_branches.nd rfl (Or.inl rfl)) (pgs_cons (pg_name (i := 4) sc_branches.nd rfl (Or.inl rfl)) pgs_nil))) (pss_cons (ps_expr (pe_bml PySem.F.slot_list_append PySem.F.type_list_append mt_appA (pvx (i := 2) nn_found rfl (Or.inl rfl)) (pa_cons (pe_tup (pa_cons (pvx (i := 3) nn_thread rfl (Or.inl rfl)) (pa_cons (pvx (i := 1) nn_parent rfl (Or.inl rfl)) (pa_cons (pvx (i := 4) nn_statement rfl (Or.inl rfl)) pa_nil rfl) rfl) rfl)) pa_nil rfl))) (pss_one (ps_expr (pe_bml PySem.F.slot_list_extend PySem.F.type_list_extend mt_extA (pvx (i := 2) nn_found rfl (Or.inl rfl)) (pa_cons (pe_cal c_branches (hr.mono (by omega)) (by rfl) (pa_cons (pvx (i := 4) nn_statement rfl (Or.inl rfl)) (pa_cons (pvx (i := 3) nn_thread rfl (Or.inl rfl)) pa_nil rfl) rfl)) pa_nil rfl)))))) (pss_one (ps_ret (pvx (i := 2) nn_found rfl (Or.inl rfl))))) pss_nil) (pss_cons (ps_for PassesOwn.never rfl (pi_list (pe_cal c_inner_statements (hr.mono (by omega)) (by rfl) (pa_cons (pvx (i := 0) nn_s rfl (Or.inl rfl)) pa_nil rfl))) (pg_name (i := 5) sc_branches.nd rfl (Or.inl rfl)) (pss_one (ps_expr (pe_bml PySem.F.slot_list_extend PySem.F.type_list_extend mt_extA (pvx (i := 2) nn_found rfl (Or.inl rfl)) (pa_cons (pe_cal c_branches (hr.mono (by omega)) (by rfl) (pa_cons (pvx (i := 5) nn_part rfl (Or.inl rfl)) (pa_cons (pvx (i := 1) nn_parent rfl (Or.inl rfl)) pa_nil rfl) rfl)) pa_nil rfl))))) (pss_one (ps_ret (pvx (i := 2) nn_found rfl (Or.inl rfl)))))))
abbrev s_threads_of : Stmt := top 13
theorem sc_threads_of : FnScope ["core", "rows", "_", "parent", "statement"] ["core"] (defScope s_threads_of) := ⟨rfl, rfl, rfl, by decide +kernel, rfl, by decide +kernel, by decide +kernel⟩
set_option maxHeartbeats 4000000 in
theorem ok_threads_of {A : Ad} (T : Tx K mg A) (hw : A.w = w) {f : Addr} {fd : FuncData} (F : FunD K "threads_of" "threads_of" (defArgs s_threads_of) (defBody s_threads_of) (defScope s_threads_of) [] [] f fd)
    (k_thread_number : FirstF P w K A.f_thread_number)
    (c_branches : Cal P w K mg base "branches" (63) ["s", "parent"] (sp_branches A 60)) : FnOk P w K mg base CX0 (64) f fd ["core"] (sp_threads_of A) := by
  obtain rfl := T.k
  obtain rfl := hw
  refine F.ok sc_threads_of (fun vs H Q E h => len_threads_of A h) (fun cdv Ar outer s H vs Q E hr h => ⟨t_threads_of A, PSs.nox ?_, pure_threads_of A vs H Q E h⟩)
  exact (pss_cons (ps_set (i := 1) sc_threads_of.nd rfl (Or.inl rfl) (pe_callBK (cr_sortKey k_thread_number hr) (by rfl) T.b_sorted (by decide +kernel) (pa_cons (pe_cal c_branches (hr.mono (by omega)) (by rfl) (pa_cons (pe_ix ix_A (pvx (i := 0) nn_core rfl (Or.inl rfl)) pe_int (fun _ _ => rfl)) (pa_cons pe_int pa_nil rfl) rfl)) pa_nil rfl) (pk_cons (pe_gv T.g_thread_number (by rfl)) pk_nil))) (pss_one (ps_ret (pe_op op_addA (pe_lst (pa_cons (pe_tup (pa_cons pe_non (pa_cons (pe_ix ix_A (pvx (i := 0) nn_core rfl (Or.inl rfl)) pe_int (fun _ _ => rfl)) pa_nil rfl) rfl)) pa_nil rfl)) (pe_lc (own := [("_", 2), ("parent", 3), ("statement", 4)]) rfl sc_threads_of.nd (pi_list (pvx (i := 1) nn_rows rfl (Or.inl rfl))) (blkOk_by (own := [("_", 2), ("parent", 3), ("statement", 4)]) (N := ["core", "rows", "_", "parent", "statement"]) (sc := defScope s_threads_of) (by decide +kernel)) (fun _ _ _ _ _ => (pg_tup rfl (pgs_cons (pg_name (i := 2) sc_threads_of.nd rfl (Or.inl rfl)) (pgs_cons (pg_name (i := 3) sc_threads_of.nd rfl (Or.inl rfl)) (pgs_cons (pg_name (i := 4) sc_threads_of.nd rfl (Or.inl rfl)) pgs_nil))))) (fun _ _ _ _ _ => pts_nil) (fun _ _ _ _ _ => (pe_tup (pa_cons (pvx (i := 3) nn_parent rfl (by first | exact Or.inl rfl | exact Or.inr (Or.inl rfl) | exact Or.inr (Or.inr rfl))) (pa_cons (pvx (i := 4) nn_statement rfl (by first | exact Or.inl rfl | exact Or.inr (Or.inl rfl) | exact Or.inr (Or.inr rfl))) pa_nil rfl) rfl))))))))
abbrev s_thread_number : Stmt := top 14
theorem sc_thread_number : FnScope ["row"] ["row"] (defScope s_thread_number) := ⟨rfl, rfl, rfl, by decide +kernel, rfl, by decide +kernel, by decide +kernel⟩
abbrev s_Plan_init : Stmt := inClass (top 16) 0
theorem sc_Plan_init : FnScope ["self", "network", "threads", "homes"] ["self", "network", "threads", "homes"] (defScope s_Plan_init) := ⟨rfl, rfl, rfl, by decide +kernel, rfl, by decide +kernel, by decide +kernel⟩
set_option maxHeartbeats 4000000 in
theorem ok_Plan_init {A : Ad} (T : Tx K mg A) (hw : A.w = w) {f : Addr} {fd : FuncData} (F : FunD K "__init__" "Plan.__init__" (defArgs s_Plan_init) (defBody s_Plan_init) (defScope s_Plan_init) [] [] f fd)
    (c_next_hops : Cal P w K mg base "next_hops" (3) ["processors", "links"] (sp_next_hops A)) : FnOk P w K mg base CX0 (4) f fd ["self", "network", "threads", "homes"] (sp_Plan_init A) := by
  obtain rfl := T.k
  obtain rfl := hw
  refine F.ok sc_Plan_init (fun vs H Q E h => len_Plan_init A h) (fun cdv Ar outer s H vs Q E hr h => ⟨t_Plan_init A, PSs.nox ?_, pure_Plan_init A vs H Q E h⟩)
  exact (pss_cons (ps_fld (pvx (i := 0) nn_self rfl (Or.inl rfl)) (pe_ix ix_A (pvx (i := 1) nn_network rfl (Or.inl rfl)) pe_int (fun _ _ => rfl)) rfl) (pss_cons (ps_fld (pvx (i := 0) nn_self rfl (Or.inl rfl)) (pe_callTy call_listA (by rfl) T.b_list (by decide +kernel) (pa_cons (pe_ix ix_A (pvx (i := 1) nn_network rfl (Or.inl rfl)) pe_int (fun _ _ => rfl)) pa_nil rfl)) rfl) (pss_cons (ps_fld (pvx (i := 0) nn_self rfl (Or.inl rfl)) (pe_callTy call_listA (by rfl) T.b_list (by decide +kernel) (pa_cons (pvx (i := 2) nn_threads rfl (Or.inl rfl)) pa_nil rfl)) rfl) (pss_cons (ps_fld (pvx (i := 0) nn_self rfl (Or.inl rfl)) (pe_callTy call_listA (by rfl) T.b_list (by decide +kernel) (pa_cons (pvx (i := 3) nn_homes rfl (Or.inl rfl)) pa_nil rfl)) rfl) (pss_one (ps_fld (pvx (i := 0) nn_self rfl (Or.inl rfl)) (pe_cal c_next_hops (hr.mono (by omega)) (by rfl) (pa_cons (pe_fld (pvx (i := 0) nn_self rfl (Or.inl rfl)) rfl) (pa_cons (pe_fld (pvx (i := 0) nn_self rfl (Or.inl rfl)) rfl) pa_nil rfl) rfl)) rfl))))))
abbrev s_spread : Stmt := top 17
theorem sc_spread : FnScope ["many", "processors", "k"] ["many", "processors"] (defScope s_spread) := ⟨rfl, rfl, rfl, by decide +kernel, rfl, by decide +kernel, by decide +kernel⟩
set_option maxHeartbeats 4000000 in
theorem ok_spread {A : Ad} (T : Tx K mg A) (hw : A.w = w) {f : Addr} {fd : FuncData} (F : FunD K "spread" "spread" (defArgs s_spread) (defBody s_spread) (defScope s_spread) [] [] f fd) : FnOk P w K mg base CX0 (1) f fd ["many", "processors"] (sp_spread A) := by
  obtain rfl := T.k
  obtain rfl := hw
  refine F.ok sc_spread (fun vs H Q E h => len_spread A h) (fun cdv Ar outer s H vs Q E hr h => ⟨t_spread A, PSs.nox ?_, pure_spread A vs H Q E h⟩)
  exact (pss_one (ps_ret (pe_lc (own := [("k", 2)]) rfl sc_spread.nd (pi_range1 (by rfl) T.b_range (pa_cons (pvx (i := 0) nn_many rfl (Or.inl rfl)) pa_nil rfl)) (blkOk_by (own := [("k", 2)]) (N := ["many", "processors", "k"]) (sc := defScope s_spread) (by decide +kernel)) (fun _ _ _ _ _ => (pg_name (i := 2) sc_spread.nd rfl (Or.inl rfl))) (fun _ _ _ _ _ => pts_nil) (fun _ _ _ _ _ => (pe_op op_mod (pvx (i := 2) nn_k rfl (by first | exact Or.inl rfl | exact Or.inr (Or.inl rfl) | exact Or.inr (Or.inr rfl))) (pvx (i := 1) nn_processors rfl (by first | exact Or.inl rfl | exact Or.inr (Or.inl rfl) | exact Or.inr (Or.inr rfl))))))))
abbrev s_make_plan : Stmt := top 18
theorem sc_make_plan : FnScope ["core", "network", "places", "homes", "place", "kind", "home"] ["core", "network", "places", "homes"] (defScope s_make_plan) := ⟨rfl, rfl, rfl, by decide +kernel, rfl, by decide +kernel, by decide +kernel⟩
set_option maxHeartbeats 4000000 in
theorem ok_make_plan {A : Ad} (T : Tx K mg A) (hw : A.w = w) {f : Addr} {fd : FuncData} (F : FunD K "make_plan" "make_plan" (defArgs s_make_plan) (defBody s_make_plan) (defScope s_make_plan) [] [] f fd)
    (c_PlanError : CalE P w K mg base "PlanError" A.c_PlanError A.c_PlacedError A.i_PlanError "reason" 1 ["self", "reason"])
    (c_check_network : CalX P w K mg base "check_network" (3) ["processors", "links"] (sp_check_network A))
    (c_threads_of : Cal P w K mg base "threads_of" (64) ["core"] (sp_threads_of A))
    (c_Plan_init : CalC P w K mg base "Plan" A.c_Plan (4) ["self", "network", "threads", "homes"] (sp_Plan_init A)) : FnOk P w K mg base (L2.CX P w) (66) f fd ["core", "network", "places", "homes"] (sp_make_plan A) := by
  obtain rfl := T.k
  obtain rfl := hw
  refine F.ok sc_make_plan (fun vs H Q E h => len_make_plan A h) (fun cdv Ar outer s H vs Q E hr h => ⟨t_make_plan A (fun cls d _ H => E cls d H), ?_, pure_make_plan A vs H Q E h⟩)
  exact (pss_cons (ps_expr (pe_calX c_check_network (hr.mono (by omega)) (by rfl) (takes_of rfl rfl rfl rfl) (pa_cons (pe_ix ix_A (pvx (i := 1) nn_network rfl (Or.inl rfl)) pe_int (fun _ _ => rfl)) (pa_cons (pe_ix ix_A (pvx (i := 1) nn_network rfl (Or.inl rfl)) pe_int (fun _ _ => rfl)) pa_nil rfl) rfl))) (pss_cons (ps_if (PW.pt (pw_or (pt_cmpR (op_neA hr.units) (pe_callB call_lenA (by rfl) T.b_len (by decide +kernel) (pa_cons (pvx (i := 2) nn_places rfl (Or.inl rfl)) pa_nil rfl)) (pe_callB call_lenA (by rfl) T.b_len (by decide +kernel) (pa_cons (pe_cal c_threads_of (hr.mono (by omega)) (by rfl) (pa_cons (pvx (i := 0) nn_core rfl (Or.inl rfl)) pa_nil rfl)) pa_nil rfl)) (nomark _)) (pw_or1 (pt_cmpR (op_neA hr.units) (pe_callB call_lenA (by rfl) T.b_len (by decide +kernel) (pa_cons (pvx (i := 3) nn_homes rfl (Or.inl rfl)) pa_nil rfl)) (pe_callB call_lenA (by rfl) T.b_len (by decide +kernel) (pa_cons (pe_ix ix_A (pvx (i := 0) nn_core rfl (Or.inl rfl)) pe_int (fun _ _ => rfl)) pa_nil rfl)) (nomark _))))) (pss_one (ps_raiseX rfl (takes_of rfl rfl rfl rfl) c_PlanError (hr.mono (by omega)) (by rfl) pe_str)) pss_nil) (pss_cons (ps_for (passes_of rfl) rfl (pi_list (pe_op op_addA (pe_callTy call_listA (by rfl) T.b_list (by decide +kernel) (pa_cons (pvx (i := 2) nn_places rfl (Or.inl rfl)) pa_nil rfl)) (pe_callTy call_listA (by rfl) T.b_list (by decide +kernel) (pa_cons (pvx (i := 3) nn_homes rfl (Or.inl rfl)) pa_nil rfl)))) (pg_name (i := 4) sc_make_plan.nd rfl (Or.inl rfl)) (pss_one (ps_if (PW.pt (pw_or (pt_cmpR op_lt (pvx (i := 4) nn_place rfl (Or.inl rfl)) pe_int (nomark _)) (pw_or1 (pt_cmpR op_ge (pvx (i := 4) nn_place rfl (Or.inl rfl)) (pe_ix ix_A (pvx (i := 1) nn_network rfl (Or.inl rfl)) pe_int (fun _ _ => rfl)) (nomark _))))) (pss_one (ps_raiseX rfl (takes_of rfl rfl rfl rfl) c_PlanError (hr.mono (by omega)) (by rfl) pe_str)) pss_nil))) (pss_cons (ps_for (passes_of rfl) rfl (pi_zip (by rfl) T.b_zip (pa_cons (pe_ix ix_A (pvx (i := 0) nn_core rfl (Or.inl rfl)) pe_int (fun _ _ => rfl)) (pa_cons (pvx (i := 3) nn_homes rfl (Or.inl rfl)) pa_nil rfl) rfl)) (pg_tup rfl (pgs_cons (pg_name (i := 5) sc_make_plan.nd rfl (Or.inl rfl)) (pgs_cons (pg_name (i := 6) sc_make_plan.nd rfl (Or.inl rfl)) pgs_nil))) (pss_one (ps_if (PW.pt (pw_and (pt_cmpR (op_neA hr.units) (pvx (i := 5) nn_kind rfl (Or.inl rfl)) pe_str (nomark _)) (pw_and1 (pt_cmpR (op_neA hr.units) (pvx (i := 6) nn_home rfl (Or.inl rfl)) pe_int (nomark _))))) (pss_one (ps_raiseX rfl (takes_of rfl rfl rfl rfl) c_PlanError (hr.mono (by omega)) (by rfl) pe_str)) pss_nil))) (pss_one (ps_ret (pe_calC c_Plan_init (hr.mono (by omega)) (by rfl) (pa_cons (pvx (i := 1) nn_network rfl (Or.inl rfl)) (pa_cons (pvx (i := 2) nn_places rfl (Or.inl rfl)) (pa_cons (pvx (i := 3) nn_homes rfl (Or.inl rfl)) pa_nil rfl) rfl) rfl))))))))
abbrev s_l_state : Stmt := top 20
theorem sc_l_state : FnScope ["_law_script", "_law_seed", "_law_cell"] ["_law_script"] (defScope s_l_state) := ⟨rfl, rfl, rfl, by decide +kernel, rfl, by decide +kernel, by decide +kernel⟩
set_option maxHeartbeats 4000000 in
theorem ok_l_state {A : Ad} (T : Tx K mg A) (hw : A.w = w) {f : Addr} {fd : FuncData} (F : FunD K "_law_state" "_law_state" (defArgs s_l_state) (defBody s_l_state) (defScope s_l_state) [] [] f fd) : FnOk P w K mg base CX0 (1) f fd ["_law_script"] (spState A.K) := by
  obtain rfl := T.k
  obtain rfl := hw
  refine F.ok sc_l_state (fun vs H Q E h => len_state h) (fun cdv Ar outer s H vs Q E hr h => ⟨t_state A.K, PSs.nox ?_, pure_state A.K vs H Q E h rfl⟩)
  exact (pss_cons (ps_set (i := 1) sc_l_state.nd rfl (Or.inl rfl) pe_int) (pss_cons (ps_for PassesOwn.never rfl (pi_list (pvx (i := 0) nn__law_script rfl (Or.inl rfl))) (pg_name (i := 2) sc_l_state.nd rfl (Or.inl rfl)) (pss_one (ps_set (i := 1) sc_l_state.nd rfl (Or.inl rfl) (pe_op op_mod (pe_callTy call_intA (by rfl) T.b_int (by decide +kernel) (pa_cons (pe_op op_addA (pe_op op_mulA (pvx (i := 1) nn__law_seed rfl (Or.inl rfl)) pe_int) (pvx (i := 2) nn__law_cell rfl (Or.inl rfl))) pa_nil rfl)) pe_int)))) (pss_one (ps_ret (pe_lst (pa_cons (pe_lc (own := [("_law_cell", 2)]) rfl sc_l_state.nd (pi_list (pvx (i := 0) nn__law_script rfl (Or.inl rfl))) (blkOk_by (own := [("_law_cell", 2)]) (N := ["_law_script", "_law_seed", "_law_cell"]) (sc := defScope s_l_state) (by decide +kernel)) (fun _ _ _ _ _ => (pg_name (i := 2) sc_l_state.nd rfl (Or.inl rfl))) (fun _ _ _ _ _ => pts_nil) (fun _ _ _ _ _ => (pe_callB call_absA (by rfl) T.b_abs (by decide +kernel) (pa_cons (pvx (i := 2) nn__law_cell rfl (by first | exact Or.inl rfl | exact Or.inr (Or.inl rfl) | exact Or.inr (Or.inr rfl))) pa_nil rfl)))) (pa_cons (pe_op op_addA (pvx (i := 1) nn__law_seed rfl (Or.inl rfl)) pe_int) pa_nil rfl) rfl))))))
abbrev s_l_draw : Stmt := top 21
theorem sc_l_draw : FnScope ["_law_state_here", "_law_many", "_law_cells", "_law_number_here", "_law_mixed"] ["_law_state_here", "_law_many"] (defScope s_l_draw) := ⟨rfl, rfl, rfl, by decide +kernel, rfl, by decide +kernel, by decide +kernel⟩
set_option maxHeartbeats 4000000 in
theorem ok_l_draw {A : Ad} (T : Tx K mg A) (hw : A.w = w) {f : Addr} {fd : FuncData} (F : FunD K "_law_draw" "_law_draw" (defArgs s_l_draw) (defBody s_l_draw) (defScope s_l_draw) [] [] f fd) : FnOk P w K mg base CX0 (1) f fd ["_law_state_here", "_law_many"] spDraw := by
  obtain rfl := T.k
  obtain rfl := hw
  refine F.ok sc_l_draw (fun vs H Q E h => len_draw h) (fun cdv Ar outer s H vs Q E hr h => ⟨t_draw A.K, PSs.nox ?_, pure_draw A.K vs H Q E h rfl⟩)
  exact (pss_cons (ps_set (i := 2) sc_l_draw.nd rfl (Or.inl rfl) (pe_ix ix_A (pvx (i := 0) nn__law_state_here rfl (Or.inl rfl)) pe_int (fun _ _ => rfl))) (pss_cons (ps_while PassesOwn.never (PW.pt (pw_and (pt_cmpR op_gt (pe_callB call_lenA (by rfl) T.b_len (by decide +kernel) (pa_cons (pvx (i := 2) nn__law_cells rfl (Or.inl rfl)) pa_nil rfl)) pe_int (nomark _)) (pw_and1 (pt_cmpR (op_eqA hr.units) (pe_ix ix_A (pvx (i := 2) nn__law_cells rfl (Or.inl rfl)) pe_int (fun _ _ => rfl)) pe_int (nomark _))))) (pss_one (ps_expr (pe_bml PySem.F.slot_list_pop PySem.F.type_list_pop mt_popI (pvx (i := 2) nn__law_cells rfl (Or.inl rfl)) (pa_cons pe_int pa_nil rfl))))) (pss_cons (ps_if (pt_cmpR op_gt (pe_callB call_lenA (by rfl) T.b_len (by decide +kernel) (pa_cons (pvx (i := 2) nn__law_cells rfl (Or.inl rfl)) pa_nil rfl)) pe_int (nomark _)) (pss_cons (ps_set (i := 3) sc_l_draw.nd rfl (Or.inl rfl) (pe_ix ix_A (pvx (i := 2) nn__law_cells rfl (Or.inl rfl)) pe_int (fun _ _ => rfl))) (pss_cons (ps_asg (pe_op op_fdiv (pvx (i := 3) nn__law_number_here rfl (Or.inl rfl)) (pvx (i := 1) nn__law_many rfl (Or.inl rfl))) (pg_sub (pvx (i := 2) nn__law_cells rfl (Or.inl rfl)) pe_int set_A)) (pss_one (ps_ret (pe_op op_mod (pe_callTy call_intA (by rfl) T.b_int (by decide +kernel) (pa_cons (pvx (i := 3) nn__law_number_here rfl (Or.inl rfl)) pa_nil rfl)) (pvx (i := 1) nn__law_many rfl (Or.inl rfl))))))) pss_nil) (pss_cons (ps_set (i := 4) sc_l_draw.nd rfl (Or.inl rfl) (pe_op op_mod (pe_callTy call_intA (by rfl) T.b_int (by decide +kernel) (pa_cons (pe_op op_addA (pe_op op_mulA (pe_ix ix_A (pvx (i := 0) nn__law_state_here rfl (Or.inl rfl)) pe_int (fun _ _ => rfl)) pe_int) pe_int) pa_nil rfl)) pe_int)) (pss_cons (ps_asg (pvx (i := 4) nn__law_mixed rfl (Or.inl rfl)) (pg_sub (pvx (i := 0) nn__law_state_here rfl (Or.inl rfl)) pe_int set_A)) (pss_one (ps_ret (pe_op op_mod (pe_callTy call_intA (by rfl) T.b_int (by decide +kernel) (pa_cons (pe_op op_fdiv (pvx (i := 4) nn__law_mixed rfl (Or.inl rfl)) pe_int) pa_nil rfl)) (pvx (i := 1) nn__law_many rfl (Or.inl rfl))))))))))
abbrev s_l_pick : Stmt := top 22
theorem sc_l_pick : FnScope ["_law_state_here", "_law_row"] ["_law_state_here", "_law_row"] (defScope s_l_pick) := ⟨rfl, rfl, rfl, by decide +kernel, rfl, by decide +kernel, by decide +kernel⟩
set_option maxHeartbeats 4000000 in
theorem ok_l_pick {A : Ad} (T : Tx K mg A) (hw : A.w = w) {f : Addr} {fd : FuncData} (F : FunD K "_law_pick" "_law_pick" (defArgs s_l_pick) (defBody s_l_pick) (defScope s_l_pick) [] [] f fd)
    (c_l_draw : Cal P w K mg base "_law_draw" (1) ["_law_state_here", "_law_many"] spDraw) : FnOk P w K mg base CX0 (2) f fd ["_law_state_here", "_law_row"] spPick := by
  obtain rfl := T.k
  obtain rfl := hw
  refine F.ok sc_l_pick (fun vs H Q E h => len_pick h) (fun cdv Ar outer s H vs Q E hr h => ⟨t_pick, PSs.nox ?_, pure_pick vs H Q E h rfl⟩)
  exact (pss_one (ps_ret (pe_ix ix_A (pvx (i := 1) nn__law_row rfl (Or.inl rfl)) (pe_cal c_l_draw (hr.mono (by omega)) (by rfl) (pa_cons (pvx (i := 0) nn__law_state_here rfl (Or.inl rfl)) (pa_cons (pe_callB call_lenA (by rfl) T.b_len (by decide +kernel) (pa_cons (pvx (i := 1) nn__law_row rfl (Or.inl rfl)) pa_nil rfl)) pa_nil rfl) rfl)) (fun _ _ => rfl))))
abbrev s_l_number : Stmt := top 23
theorem sc_l_number : FnScope ["_law_state_here"] ["_law_state_here"] (defScope s_l_number) := ⟨rfl, rfl, rfl, by decide +kernel, rfl, by decide +kernel, by decide +kernel⟩
set_option maxHeartbeats 4000000 in
theorem ok_l_number {A : Ad} (T : Tx K mg A) (hw : A.w = w) {f : Addr} {fd : FuncData} (F : FunD K "_law_number" "_law_number" (defArgs s_l_number) (defBody s_l_number) (defScope s_l_number) [] [] f fd)
    (c_l_pick : Cal P w K mg base "_law_pick" (2) ["_law_state_here", "_law_row"] spPick)
    (c_l_draw : Cal P w K mg base "_law_draw" (1) ["_law_state_here", "_law_many"] spDraw) : FnOk P w K mg base CX0 (3) f fd ["_law_state_here"] (sp_l_number A) := by
  obtain rfl := T.k
  obtain rfl := hw
  refine F.ok sc_l_number (fun vs H Q E h => len_l_number A h) (fun cdv Ar outer s H vs Q E hr h => ⟨t_l_number A, PSs.nox ?_, pure_l_number A vs H Q E h⟩)
  exact (pss_one (ps_ret (pe_tup (pa_cons pe_str (pa_cons (pe_cal c_l_pick (hr.mono (by omega)) (by rfl) (pa_cons (pvx (i := 0) nn__law_state_here rfl (Or.inl rfl)) (pa_cons (pe_lst (pa_cons pe_int (pa_cons pe_int (pa_cons pe_int (pa_cons pe_int (pa_cons (pe_cal c_l_draw (hr.mono (by omega)) (by rfl) (pa_cons (pvx (i := 0) nn__law_state_here rfl (Or.inl rfl)) (pa_cons pe_int pa_nil rfl) rfl)) (pa_cons pe_int (pa_cons (pe_cal c_l_draw (hr.mono (by omega)) (by rfl) (pa_cons (pvx (i := 0) nn__law_state_here rfl (Or.inl rfl)) (pa_cons pe_int pa_nil rfl) rfl)) pa_nil rfl) rfl) rfl) rfl) rfl) rfl) rfl)) pa_nil rfl) rfl)) pa_nil rfl) rfl))))
abbrev s_l_operator : Stmt := top 24
theorem sc_l_operator : FnScope ["_law_state_here"] ["_law_state_here"] (defScope s_l_operator) := ⟨rfl, rfl, rfl, by decide +kernel, rfl, by decide +kernel, by decide +kernel⟩
set_option maxHeartbeats 4000000 in
theorem ok_l_operator {A : Ad} (T : Tx K mg A) (hw : A.w = w) {f : Addr} {fd : FuncData} (F : FunD K "_law_operator" "_law_operator" (defArgs s_l_operator) (defBody s_l_operator) (defScope s_l_operator) [] [] f fd)
    (c_l_pick : Cal P w K mg base "_law_pick" (2) ["_law_state_here", "_law_row"] spPick) : FnOk P w K mg base CX0 (3) f fd ["_law_state_here"] (sp_l_operator A) := by
  obtain rfl := T.k
  obtain rfl := hw
  refine F.ok sc_l_operator (fun vs H Q E h => len_l_operator A h) (fun cdv Ar outer s H vs Q E hr h => ⟨t_l_operator A, PSs.nox ?_, pure_l_operator A vs H Q E h⟩)
  exact (pss_one (ps_ret (pe_cal c_l_pick (hr.mono (by omega)) (by rfl) (pa_cons (pvx (i := 0) nn__law_state_here rfl (Or.inl rfl)) (pa_cons (pe_lst (pa_cons pe_str (pa_cons pe_str (pa_cons pe_str (pa_cons pe_str (pa_cons pe_str (pa_cons pe_str (pa_cons pe_str (pa_cons pe_str (pa_cons pe_str (pa_cons pe_str (pa_cons pe_str (pa_cons pe_str (pa_cons (pe_cal c_l_pick (hr.mono (by omega)) (by rfl) (pa_cons (pvx (i := 0) nn__law_state_here rfl (Or.inl rfl)) (pa_cons (pe_lst (pa_cons pe_str (pa_cons pe_str pa_nil rfl) rfl)) pa_nil rfl) rfl)) pa_nil rfl) rfl) rfl) rfl) rfl) rfl) rfl) rfl) rfl) rfl) rfl) rfl) rfl)) pa_nil rfl) rfl))))
abbrev s_l_index : Stmt := top 25
theorem sc_l_index : FnScope ["_law_state_here", "_law_env_here", "_law_size", "_law_cell"] ["_law_state_here", "_law_env_here", "_law_size"] (defScope s_l_index) := ⟨rfl, rfl, rfl, by decide +kernel, rfl, by decide +kernel, by decide +kernel⟩
set_option maxHeartbeats 4000000 in
theorem ok_l_index {A : Ad} (T : Tx K mg A) (hw : A.w = w) {f : Addr} {fd : FuncData} (F : FunD K "_law_index" "_law_index" (defArgs s_l_index) (defBody s_l_index) (defScope s_l_index) [] [] f fd)
    (c_l_pick : Cal P w K mg base "_law_pick" (2) ["_law_state_here", "_law_row"] spPick)
    (c_l_draw : Cal P w K mg base "_law_draw" (1) ["_law_state_here", "_law_many"] spDraw) : FnOk P w K mg base CX0 (3) f fd ["_law_state_here", "_law_env_here", "_law_size"] (sp_l_index A) := by
  obtain rfl := T.k
  obtain rfl := hw
  refine F.ok sc_l_index (fun vs H Q E h => len_l_index A h) (fun cdv Ar outer s H vs Q E hr h => ⟨t_l_index A, PSs.nox ?_, pure_l_index A vs H Q E h⟩)
  exact (pss_cons (ps_set (i := 3) sc_l_index.nd rfl (Or.inl rfl) (pe_tup (pa_cons pe_str (pa_cons (pe_cal c_l_pick (hr.mono (by omega)) (by rfl) (pa_cons (pvx (i := 0) nn__law_state_here rfl (Or.inl rfl)) (pa_cons (pe_dget (hu_of hr) (pvx (i := 1) nn__law_env_here rfl (Or.inl rfl)) pe_str (fun _ _ => rfl)) pa_nil rfl) rfl)) pa_nil rfl) rfl))) (pss_one (ps_ret (pe_ifExp (pt_cmpR (op_eqA hr.units) (pe_cal c_l_draw (hr.mono (by omega)) (by rfl) (pa_cons (pvx (i := 0) nn__law_state_here rfl (Or.inl rfl)) (pa_cons pe_int pa_nil rfl) rfl)) pe_int (nomark _)) (pvx (i := 3) nn__law_cell rfl (Or.inl rfl)) (pe_tup (pa_cons pe_str (pa_cons (pvx (i := 3) nn__law_cell rfl (Or.inl rfl)) (pa_cons (pe_tup (pa_cons pe_str (pa_cons (pvx (i := 2) nn__law_size rfl (Or.inl rfl)) pa_nil rfl) rfl)) pa_nil rfl) rfl) rfl))))))
abbrev s_l_read : Stmt := top 26
theorem sc_l_read : FnScope ["_law_state_here", "_law_env_here", "_law_first", "_law_size"] ["_law_state_here", "_law_env_here"] (defScope s_l_read) := ⟨rfl, rfl, rfl, by decide +kernel, rfl, by decide +kernel, by decide +kernel⟩
set_option maxHeartbeats 4000000 in
theorem ok_l_read {A : Ad} (T : Tx K mg A) (hw : A.w = w) {f : Addr} {fd : FuncData} (F : FunD K "_law_read" "_law_read" (defArgs s_l_read) (defBody s_l_read) (defScope s_l_read) [] [] f fd)
    (c_l_draw : Cal P w K mg base "_law_draw" (1) ["_law_state_here", "_law_many"] spDraw)
    (c_l_pick : Cal P w K mg base "_law_pick" (2) ["_law_state_here", "_law_row"] spPick)
    (c_l_index : Cal P w K mg base "_law_index" (3) ["_law_state_here", "_law_env_here", "_law_size"] (sp_l_index A)) : FnOk P w K mg base CX0 (4) f fd ["_law_state_here", "_law_env_here"] (sp_l_read A) := by
  obtain rfl := T.k
  obtain rfl := hw
  refine F.ok sc_l_read (fun vs H Q E h => len_l_read A h) (fun cdv Ar outer s H vs Q E hr h => ⟨t_l_read A, PSs.nox ?_, pure_l_read A vs H Q E h⟩)
  exact (pss_cons (ps_if (PW.pt (pw_and (pt_cmpR op_gt (pe_callB call_lenA (by rfl) T.b_len (by decide +kernel) (pa_cons (pe_dget (hu_of hr) (pvx (i := 1) nn__law_env_here rfl (Or.inl rfl)) pe_str (fun _ _ => rfl)) pa_nil rfl)) pe_int (nomark _)) (pw_and1 (pt_cmpR (op_eqA hr.units) (pe_cal c_l_draw (hr.mono (by omega)) (by rfl) (pa_cons (pvx (i := 0) nn__law_state_here rfl (Or.inl rfl)) (pa_cons pe_int pa_nil rfl) rfl)) pe_int (nomark _))))) (pss_cons (ps_asg (pe_cal c_l_pick (hr.mono (by omega)) (by rfl) (pa_cons (pvx (i := 0) nn__law_state_here rfl (Or.inl rfl)) (pa_cons (pe_dget (hu_of hr) (pvx (i := 1) nn__law_env_here rfl (Or.inl rfl)) pe_str (fun _ _ => rfl)) pa_nil rfl) rfl)) (pg_tup rfl (pgs_cons (pg_name (i := 2) sc_l_read.nd rfl (Or.inl rfl)) (pgs_cons (pg_name (i := 3) sc_l_read.nd rfl (Or.inl rfl)) pgs_nil)))) (pss_one (ps_ret (pe_tup (pa_cons pe_str (pa_cons (pvx (i := 2) nn__law_first rfl (Or.inl rfl)) (pa_cons (pvx (i := 3) nn__law_size rfl (Or.inl rfl)) (pa_cons (pe_cal c_l_index (hr.mono (by omega)) (by rfl) (pa_cons (pvx (i := 0) nn__law_state_here rfl (Or.inl rfl)) (pa_cons (pvx (i := 1) nn__law_env_here rfl (Or.inl rfl)) (pa_cons (pvx (i := 3) nn__law_size rfl (Or.inl rfl)) pa_nil rfl) rfl) rfl)) pa_nil rfl) rfl) rfl) rfl))))) pss_nil) (pss_one (ps_ret (pe_tup (pa_cons pe_str (pa_cons (pe_cal c_l_pick (hr.mono (by omega)) (by rfl) (pa_cons (pvx (i := 0) nn__law_state_here rfl (Or.inl rfl)) (pa_cons (pe_dget (hu_of hr) (pvx (i := 1) nn__law_env_here rfl (Or.inl rfl)) pe_str (fun _ _ => rfl)) pa_nil rfl) rfl)) pa_nil rfl) rfl)))))
abbrev s_l_expression : Stmt := top 27
theorem sc_l_expression : FnScope ["_law_state_here", "_law_env_here", "_law_deep", "_law_kind", "_law_first"] ["_law_state_here", "_law_env_here", "_law_deep"] (defScope s_l_expression) := ⟨rfl, rfl, rfl, by decide +kernel, rfl, by decide +kernel, by decide +kernel⟩
set_option maxHeartbeats 4000000 in
theorem ok_l_expression {A : Ad} (T : Tx K mg A) (hw : A.w = w) (n : Nat) {f : Addr} {fd : FuncData} (F : FunD K "_law_expression" "_law_expression" (defArgs s_l_expression) (defBody s_l_expression) (defScope s_l_expression) [] [] f fd)
    (c_l_draw : Cal P w K mg base "_law_draw" (1) ["_law_state_here", "_law_many"] spDraw)
    (c_l_read : Cal P w K mg base "_law_read" (4) ["_law_state_here", "_law_env_here"] (sp_l_read A))
    (c_l_number : Cal P w K mg base "_law_number" (3) ["_law_state_here"] (sp_l_number A))
    (c_l_expression : Cal P w K mg base "_law_expression" (n + 4) ["_law_state_here", "_law_env_here", "_law_deep"] (sp_exprP A n))
    (c_l_pick : Cal P w K mg base "_law_pick" (2) ["_law_state_here", "_law_row"] spPick)
    (c_l_operator : Cal P w K mg base "_law_operator" (3) ["_law_state_here"] (sp_l_operator A)) : FnOk P w K mg base CX0 (n + 5) f fd ["_law_state_here", "_law_env_here", "_law_deep"] (sp_l_expression A n) := by
  obtain rfl := T.k
  obtain rfl := hw
  refine F.ok sc_l_expression (fun vs H Q E h => len_l_expression A h) (fun cdv Ar outer s H vs Q E hr h => ⟨t_l_expression A n, PSs.nox ?_, pure_l_expression A n vs H Q E h⟩)
  exact (pss_cons (ps_set (i := 3) sc_l_expression.nd rfl (Or.inl rfl) (pe_cal c_l_draw (hr.mono (by omega)) (by rfl) (pa_cons (pvx (i := 0) nn__law_state_here rfl (Or.inl rfl)) (pa_cons pe_int pa_nil rfl) rfl))) (pss_cons (ps_if (PW.pt (pw_or (pt_cmpR (op_eqA hr.units) (pvx (i := 2) nn__law_deep rfl (Or.inl rfl)) pe_int (nomark _)) (pw_or1 (pt_cmpR op_lt (pvx (i := 3) nn__law_kind rfl (Or.inl rfl)) pe_int (nomark _))))) (pss_cons (ps_if (PW.pt (pw_and (pt_cmpR op_gt (pe_callB call_lenA (by rfl) T.b_len (by decide +kernel) (pa_cons (pe_dget (hu_of hr) (pvx (i := 1) nn__law_env_here rfl (Or.inl rfl)) pe_str (fun _ _ => rfl)) pa_nil rfl)) pe_int (nomark _)) (pw_and1 (pt_cmpR op_gt (pe_cal c_l_draw (hr.mono (by omega)) (by rfl) (pa_cons (pvx (i := 0) nn__law_state_here rfl (Or.inl rfl)) (pa_cons pe_int pa_nil rfl) rfl)) pe_int (nomark _))))) (pss_one (ps_ret (pe_cal c_l_read (hr.mono (by omega)) (by rfl) (pa_cons (pvx (i := 0) nn__law_state_here rfl (Or.inl rfl)) (pa_cons (pvx (i := 1) nn__law_env_here rfl (Or.inl rfl)) pa_nil rfl) rfl)))) pss_nil) (pss_one (ps_ret (pe_cal c_l_number (hr.mono (by omega)) (by rfl) (pa_cons (pvx (i := 0) nn__law_state_here rfl (Or.inl rfl)) pa_nil rfl))))) pss_nil) (pss_cons (ps_if (pt_cmpR (op_eqA hr.units) (pvx (i := 3) nn__law_kind rfl (Or.inl rfl)) pe_int (nomark _)) (pss_one (ps_ret (pe_tup (pa_cons (pe_cal c_l_pick (hr.mono (by omega)) (by rfl) (pa_cons (pvx (i := 0) nn__law_state_here rfl (Or.inl rfl)) (pa_cons (pe_lst (pa_cons pe_str (pa_cons pe_str pa_nil rfl) rfl)) pa_nil rfl) rfl)) (pa_cons (pe_cal c_l_expression (hr.mono (by omega)) (by rfl) (pa_cons (pvx (i := 0) nn__law_state_here rfl (Or.inl rfl)) (pa_cons (pvx (i := 1) nn__law_env_here rfl (Or.inl rfl)) (pa_cons (pe_op op_sub (pvx (i := 2) nn__law_deep rfl (Or.inl rfl)) pe_int) pa_nil rfl) rfl) rfl)) pa_nil rfl) rfl)))) pss_nil) (pss_cons (ps_set (i := 4) sc_l_expression.nd rfl (Or.inl rfl) (pe_cal c_l_expression (hr.mono (by omega)) (by rfl) (pa_cons (pvx (i := 0) nn__law_state_here rfl (Or.inl rfl)) (pa_cons (pvx (i := 1) nn__law_env_here rfl (Or.inl rfl)) (pa_cons (pe_op op_sub (pvx (i := 2) nn__law_deep rfl (Or.inl rfl)) pe_int) pa_nil rfl) rfl) rfl))) (pss_one (ps_ret (pe_tup (pa_cons (pe_cal c_l_operator (hr.mono (by omega)) (by rfl) (pa_cons (pvx (i := 0) nn__law_state_here rfl (Or.inl rfl)) pa_nil rfl)) (pa_cons (pvx (i := 4) nn__law_first rfl (Or.inl rfl)) (pa_cons (pe_cal c_l_expression (hr.mono (by omega)) (by rfl) (pa_cons (pvx (i := 0) nn__law_state_here rfl (Or.inl rfl)) (pa_cons (pvx (i := 1) nn__law_env_here rfl (Or.inl rfl)) (pa_cons (pe_op op_sub (pvx (i := 2) nn__law_deep rfl (Or.inl rfl)) pe_int) pa_nil rfl) rfl) rfl)) pa_nil rfl) rfl) rfl))))))))
abbrev s_l_target : Stmt := top 28
theorem sc_l_target : FnScope ["_law_state_here", "_law_env_here", "_law_first", "_law_size"] ["_law_state_here", "_law_env_here"] (defScope s_l_target) := ⟨rfl, rfl, rfl, by decide +kernel, rfl, by decide +kernel, by decide +kernel⟩
set_option maxHeartbeats 4000000 in
theorem ok_l_target {A : Ad} (T : Tx K mg A) (hw : A.w = w) {f : Addr} {fd : FuncData} (F : FunD K "_law_target" "_law_target" (defArgs s_l_target) (defBody s_l_target) (defScope s_l_target) [] [] f fd)
    (c_l_draw : Cal P w K mg base "_law_draw" (1) ["_law_state_here", "_law_many"] spDraw)
    (c_l_pick : Cal P w K mg base "_law_pick" (2) ["_law_state_here", "_law_row"] spPick)
    (c_l_index : Cal P w K mg base "_law_index" (3) ["_law_state_here", "_law_env_here", "_law_size"] (sp_l_index A)) : FnOk P w K mg base CX0 (4) f fd ["_law_state_here", "_law_env_here"] (sp_l_target A) := by
  obtain rfl := T.k
  obtain rfl := hw
  refine F.ok sc_l_target (fun vs H Q E h => len_l_target A h) (fun cdv Ar outer s H vs Q E hr h => ⟨t_l_target A, PSs.nox ?_, pure_l_target A vs H Q E h⟩)
  exact (pss_cons (ps_if (PW.pt (pw_and (pt_cmpR op_gt (pe_callB call_lenA (by rfl) T.b_len (by decide +kernel) (pa_cons (pe_dget (hu_of hr) (pvx (i := 1) nn__law_env_here rfl (Or.inl rfl)) pe_str (fun _ _ => rfl)) pa_nil rfl)) pe_int (nomark _)) (pw_and1 (pt_cmpR (op_eqA hr.units) (pe_cal c_l_draw (hr.mono (by omega)) (by rfl) (pa_cons (pvx (i := 0) nn__law_state_here rfl (Or.inl rfl)) (pa_cons pe_int pa_nil rfl) rfl)) pe_int (nomark _))))) (pss_cons (ps_asg (pe_cal c_l_pick (hr.mono (by omega)) (by rfl) (pa_cons (pvx (i := 0) nn__law_state_here rfl (Or.inl rfl)) (pa_cons (pe_dget (hu_of hr) (pvx (i := 1) nn__law_env_here rfl (Or.inl rfl)) pe_str (fun _ _ => rfl)) pa_nil rfl) rfl)) (pg_tup rfl (pgs_cons (pg_name (i := 2) sc_l_target.nd rfl (Or.inl rfl)) (pgs_cons (pg_name (i := 3) sc_l_target.nd rfl (Or.inl rfl)) pgs_nil)))) (pss_one (ps_ret (pe_tup (pa_cons pe_str (pa_cons (pvx (i := 2) nn__law_first rfl (Or.inl rfl)) (pa_cons (pvx (i := 3) nn__law_size rfl (Or.inl rfl)) (pa_cons (pe_cal c_l_index (hr.mono (by omega)) (by rfl) (pa_cons (pvx (i := 0) nn__law_state_here rfl (Or.inl rfl)) (pa_cons (pvx (i := 1) nn__law_env_here rfl (Or.inl rfl)) (pa_cons (pvx (i := 3) nn__law_size rfl (Or.inl rfl)) pa_nil rfl) rfl) rfl)) pa_nil rfl) rfl) rfl) rfl))))) pss_nil) (pss_one (ps_ret (pe_tup (pa_cons pe_str (pa_cons (pe_cal c_l_pick (hr.mono (by omega)) (by rfl) (pa_cons (pvx (i := 0) nn__law_state_here rfl (Or.inl rfl)) (pa_cons (pe_dget (hu_of hr) (pvx (i := 1) nn__law_env_here rfl (Or.inl rfl)) pe_str (fun _ _ => rfl)) pa_nil rfl) rfl)) pa_nil rfl) rfl)))))
abbrev s_l_set : Stmt := top 29
theorem sc_l_set : FnScope ["_law_state_here", "_law_env_here"] ["_law_state_here", "_law_env_here"] (defScope s_l_set) := ⟨rfl, rfl, rfl, by decide +kernel, rfl, by decide +kernel, by decide +kernel⟩
set_option maxHeartbeats 4000000 in
theorem ok_l_set {A : Ad} (T : Tx K mg A) (hw : A.w = w) {f : Addr} {fd : FuncData} (F : FunD K "_law_set" "_law_set" (defArgs s_l_set) (defBody s_l_set) (defScope s_l_set) [] [] f fd)
    (c_l_expression : Cal P w K mg base "_law_expression" (7) ["_law_state_here", "_law_env_here", "_law_deep"] (sp_l_expression A 2))
    (c_l_target : Cal P w K mg base "_law_target" (4) ["_law_state_here", "_law_env_here"] (sp_l_target A)) : FnOk P w K mg base CX0 (8) f fd ["_law_state_here", "_law_env_here"] (sp_l_set A) := by
  obtain rfl := T.k
  obtain rfl := hw
  refine F.ok sc_l_set (fun vs H Q E h => len_l_set A h) (fun cdv Ar outer s H vs Q E hr h => ⟨t_l_set A, PSs.nox ?_, pure_l_set A vs H Q E h⟩)
  exact (pss_one (ps_ret (pe_tup (pa_cons pe_str (pa_cons (pe_cal c_l_target (hr.mono (by omega)) (by rfl) (pa_cons (pvx (i := 0) nn__law_state_here rfl (Or.inl rfl)) (pa_cons (pvx (i := 1) nn__law_env_here rfl (Or.inl rfl)) pa_nil rfl) rfl)) (pa_cons (pe_cal c_l_expression (hr.mono (by omega)) (by rfl) (pa_cons (pvx (i := 0) nn__law_state_here rfl (Or.inl rfl)) (pa_cons (pvx (i := 1) nn__law_env_here rfl (Or.inl rfl)) (pa_cons pe_int pa_nil rfl) rfl) rfl)) pa_nil rfl) rfl) rfl))))
abbrev s_l_simple : Stmt := top 30
theorem sc_l_simple : FnScope ["_law_state_here", "_law_env_here", "_law_kind", "_law_cell", "_law_more"] ["_law_state_here", "_law_env_here"] (defScope s_l_simple) := ⟨rfl, rfl, rfl, by decide +kernel, rfl, by decide +kernel, by decide +kernel⟩
set_option maxHeartbeats 4000000 in
theorem ok_l_simple {A : Ad} (T : Tx K mg A) (hw : A.w = w) {f : Addr} {fd : FuncData} (F : FunD K "_law_simple" "_law_simple" (defArgs s_l_simple) (defBody s_l_simple) (defScope s_l_simple) [] [] f fd)
    (c_l_draw : Cal P w K mg base "_law_draw" (1) ["_law_state_here", "_law_many"] spDraw)
    (c_l_set : Cal P w K mg base "_law_set" (8) ["_law_state_here", "_law_env_here"] (sp_l_set A))
    (c_l_expression : Cal P w K mg base "_law_expression" (7) ["_law_state_here", "_law_env_here", "_law_deep"] (sp_l_expression A 2))
    (c_l_pick : Cal P w K mg base "_law_pick" (2) ["_law_state_here", "_law_row"] spPick) : FnOk P w K mg base CX0 (9) f fd ["_law_state_here", "_law_env_here"] (sp_l_simple A) := by
  obtain rfl := T.k
  obtain rfl := hw
  refine F.ok sc_l_simple (fun vs H Q E h => len_l_simple A h) (fun cdv Ar outer s H vs Q E hr h => ⟨t_l_simple A, PSs.nox ?_, pure_l_simple A vs H Q E h⟩)
  exact (pss_cons (ps_set (i := 2) sc_l_simple.nd rfl (Or.inl rfl) (pe_cal c_l_draw (hr.mono (by omega)) (by rfl) (pa_cons (pvx (i := 0) nn__law_state_here rfl (Or.inl rfl)) (pa_cons pe_int pa_nil rfl) rfl))) (pss_cons (ps_if (pt_cmpR (op_eqA hr.units) (pvx (i := 2) nn__law_kind rfl (Or.inl rfl)) pe_int (nomark _)) (pss_one (ps_ret (pe_tup (pa_cons pe_str pa_nil rfl)))) pss_nil) (pss_cons (ps_if (PW.pt (pw_and (pt_cmpR (op_eqA hr.units) (pvx (i := 2) nn__law_kind rfl (Or.inl rfl)) pe_int (nomark _)) (pw_and1 (pt_cmpR (op_eqA hr.units) (pe_cal c_l_draw (hr.mono (by omega)) (by rfl) (pa_cons (pvx (i := 0) nn__law_state_here rfl (Or.inl rfl)) (pa_cons pe_int pa_nil rfl) rfl)) pe_int (nomark _))))) (pss_one (ps_ret (pe_tup (pa_cons pe_str pa_nil rfl)))) pss_nil) (pss_cons (ps_if (pt_cmpR (op_eqA hr.units) (pvx (i := 2) nn__law_kind rfl (Or.inl rfl)) pe_int (nomark _)) (pss_one (ps_ret (pe_tup (pa_cons pe_str (pa_cons (pe_cal c_l_expression (hr.mono (by omega)) (by rfl) (pa_cons (pvx (i := 0) nn__law_state_here rfl (Or.inl rfl)) (pa_cons (pvx (i := 1) nn__law_env_here rfl (Or.inl rfl)) (pa_cons pe_int pa_nil rfl) rfl) rfl)) (pa_cons (pe_cal c_l_set (hr.mono (by omega)) (by rfl) (pa_cons (pvx (i := 0) nn__law_state_here rfl (Or.inl rfl)) (pa_cons (pvx (i := 1) nn__law_env_here rfl (Or.inl rfl)) pa_nil rfl) rfl)) (pa_cons (pe_tup (pa_cons pe_str (pa_cons (pe_lst (pa_cons (pe_cal c_l_set (hr.mono (by omega)) (by rfl) (pa_cons (pvx (i := 0) nn__law_state_here rfl (Or.inl rfl)) (pa_cons (pvx (i := 1) nn__law_env_here rfl (Or.inl rfl)) pa_nil rfl) rfl)) (pa_cons (pe_cal c_l_set (hr.mono (by omega)) (by rfl) (pa_cons (pvx (i := 0) nn__law_state_here rfl (Or.inl rfl)) (pa_cons (pvx (i := 1) nn__law_env_here rfl (Or.inl rfl)) pa_nil rfl) rfl)) pa_nil rfl) rfl)) pa_nil rfl) rfl)) pa_nil rfl) rfl) rfl) rfl)))) pss_nil) (pss_cons (ps_if (pt_cmpR (op_eqA hr.units) (pvx (i := 2) nn__law_kind rfl (Or.inl rfl)) pe_int (nomark _)) (pss_cons (ps_set (i := 3) sc_l_simple.nd rfl (Or.inl rfl) (pe_tup (pa_cons pe_str (pa_cons (pe_cal c_l_pick (hr.mono (by omega)) (by rfl) (pa_cons (pvx (i := 0) nn__law_state_here rfl (Or.inl rfl)) (pa_cons (pe_dget (hu_of hr) (pvx (i := 1) nn__law_env_here rfl (Or.inl rfl)) pe_str (fun _ _ => rfl)) pa_nil rfl) rfl)) pa_nil rfl) rfl))) (pss_cons (ps_set (i := 4) sc_l_simple.nd rfl (Or.inl rfl) (pe_tup (pa_cons pe_str (pa_cons (pvx (i := 3) nn__law_cell rfl (Or.inl rfl)) (pa_cons (pe_tup (pa_cons pe_str (pa_cons (pvx (i := 3) nn__law_cell rfl (Or.inl rfl)) (pa_cons (pe_tup (pa_cons pe_str (pa_cons (pe_op op_addA pe_int (pe_cal c_l_draw (hr.mono (by omega)) (by rfl) (pa_cons (pvx (i := 0) nn__law_state_here rfl (Or.inl rfl)) (pa_cons pe_int pa_nil rfl) rfl))) pa_nil rfl) rfl)) pa_nil rfl) rfl) rfl)) pa_nil rfl) rfl) rfl))) (pss_one (ps_ret (pe_tup (pa_cons pe_str (pa_cons (pe_tup (pa_cons pe_str (pa_cons (pvx (i := 3) nn__law_cell rfl (Or.inl rfl)) (pa_cons (pe_tup (pa_cons pe_str (pa_cons (pe_cal c_l_draw (hr.mono (by omega)) (by rfl) (pa_cons (pvx (i := 0) nn__law_state_here rfl (Or.inl rfl)) (pa_cons pe_int pa_nil rfl) rfl)) pa_nil rfl) rfl)) pa_nil rfl) rfl) rfl)) (pa_cons (pe_cal c_l_draw (hr.mono (by omega)) (by rfl) (pa_cons (pvx (i := 0) nn__law_state_here rfl (Or.inl rfl)) (pa_cons pe_int pa_nil rfl) rfl)) (pa_cons (pvx (i := 4) nn__law_more rfl (Or.inl rfl)) pa_nil rfl) rfl) rfl) rfl)))))) pss_nil) (pss_one (ps_ret (pe_cal c_l_set (hr.mono (by omega)) (by rfl) (pa_cons (pvx (i := 0) nn__law_state_here rfl (Or.inl rfl)) (pa_cons (pvx (i := 1) nn__law_env_here rfl (Or.inl rfl)) pa_nil rfl) rfl)))))))))
abbrev s_l_more_cells : Stmt := top 31
theorem sc_l_more_cells : FnScope ["_law_world", "_law_many"] ["_law_world", "_law_many"] (defScope s_l_more_cells) := ⟨rfl, rfl, rfl, by decide +kernel, rfl, by decide +kernel, by decide +kernel⟩
set_option maxHeartbeats 4000000 in
theorem ok_l_more_cells {A : Ad} (T : Tx K mg A) (hw : A.w = w) {f : Addr} {fd : FuncData} (F : FunD K "_law_more_cells" "_law_more_cells" (defArgs s_l_more_cells) (defBody s_l_more_cells) (defScope s_l_more_cells) [] [] f fd) : FnOk P w K mg base CX0 (1) f fd ["_law_world", "_law_many"] (sp_l_more_cells A) := by
  obtain rfl := T.k
  obtain rfl := hw
  refine F.ok sc_l_more_cells (fun vs H Q E h => len_l_more_cells A h) (fun cdv Ar outer s H vs Q E hr h => ⟨t_l_more_cells A, PSs.nox ?_, pure_l_more_cells A vs H Q E h⟩)
  exact (pss_cons (ps_dput (hu_of hr) (pvx (i := 0) nn__law_world rfl (Or.inl rfl)) pe_str (pe_op op_addA (pe_dget (hu_of hr) (pvx (i := 0) nn__law_world rfl (Or.inl rfl)) pe_str (fun _ _ => rfl)) (pvx (i := 1) nn__law_many rfl (Or.inl rfl))) rfl) (pss_one (ps_ret (pe_op op_sub (pe_dget (hu_of hr) (pvx (i := 0) nn__law_world rfl (Or.inl rfl)) pe_str (fun _ _ => rfl)) (pvx (i := 1) nn__law_many rfl (Or.inl rfl))))))
abbrev s_l_env : Stmt := top 32
theorem sc_l_env : FnScope ["_law_state_here", "_law_world", "_law_first", "_law_env_here", "_law_size"] ["_law_state_here", "_law_world"] (defScope s_l_env) := ⟨rfl, rfl, rfl, by decide +kernel, rfl, by decide +kernel, by decide +kernel⟩
set_option maxHeartbeats 4000000 in
theorem ok_l_env {A : Ad} (T : Tx K mg A) (hw : A.w = w) {f : Addr} {fd : FuncData} (F : FunD K "_law_env" "_law_env" (defArgs s_l_env) (defBody s_l_env) (defScope s_l_env) [] [] f fd)
    (c_l_more_cells : Cal P w K mg base "_law_more_cells" (1) ["_law_world", "_law_many"] (sp_l_more_cells A))
    (c_l_draw : Cal P w K mg base "_law_draw" (1) ["_law_state_here", "_law_many"] spDraw) : FnOk P w K mg base CX0 (2) f fd ["_law_state_here", "_law_world"] (sp_l_env A) := by
  obtain rfl := T.k
  obtain rfl := hw
  refine F.ok sc_l_env (fun vs H Q E h => len_l_env A h) (fun cdv Ar outer s H vs Q E hr h => ⟨t_l_env A, PSs.nox ?_, pure_l_env A vs H Q E h⟩)
  exact (pss_cons (ps_set (i := 2) sc_l_env.nd rfl (Or.inl rfl) (pe_cal c_l_more_cells (hr.mono (by omega)) (by rfl) (pa_cons (pvx (i := 1) nn__law_world rfl (Or.inl rfl)) (pa_cons pe_int pa_nil rfl) rfl))) (pss_cons (ps_set (i := 3) sc_l_env.nd rfl (Or.inl rfl) (pe_disp (pps_cons pe_str (pe_lst (pa_cons (pvx (i := 2) nn__law_first rfl (Or.inl rfl)) (pa_cons (pe_op op_addA (pvx (i := 2) nn__law_first rfl (Or.inl rfl)) pe_int) pa_nil rfl) rfl)) (pps_cons pe_str (pe_lst (pa_cons (pvx (i := 2) nn__law_first rfl (Or.inl rfl)) (pa_cons (pe_op op_addA (pvx (i := 2) nn__law_first rfl (Or.inl rfl)) pe_int) pa_nil rfl) rfl)) (pps_cons pe_str (pe_lst pa_nil) (pps_cons pe_str (pe_lst pa_nil) (pps_cons pe_str (pe_lst pa_nil) pps_nil))))) (by rfl) (by rfl) (fun z => by cases z) (by decide))) (pss_cons (ps_if (PW.pt (pw_and (pt_cmpR op_lt (pe_dget (hu_of hr) (pvx (i := 1) nn__law_world rfl (Or.inl rfl)) pe_str (fun _ _ => rfl)) pe_int (nomark _)) (pw_and1 (pt_cmpR (op_eqA hr.units) (pe_cal c_l_draw (hr.mono (by omega)) (by rfl) (pa_cons (pvx (i := 0) nn__law_state_here rfl (Or.inl rfl)) (pa_cons pe_int pa_nil rfl) rfl)) pe_int (nomark _))))) (pss_cons (ps_set (i := 4) sc_l_env.nd rfl (Or.inl rfl) (pe_op op_addA pe_int (pe_cal c_l_draw (hr.mono (by omega)) (by rfl) (pa_cons (pvx (i := 0) nn__law_state_here rfl (Or.inl rfl)) (pa_cons pe_int pa_nil rfl) rfl)))) (pss_one (ps_dput (hu_of hr) (pvx (i := 3) nn__law_env_here rfl (Or.inl rfl)) pe_str (pe_lst (pa_cons (pe_tup (pa_cons (pe_cal c_l_more_cells (hr.mono (by omega)) (by rfl) (pa_cons (pvx (i := 1) nn__law_world rfl (Or.inl rfl)) (pa_cons (pvx (i := 4) nn__law_size rfl (Or.inl rfl)) pa_nil rfl) rfl)) (pa_cons (pvx (i := 4) nn__law_size rfl (Or.inl rfl)) pa_nil rfl) rfl)) pa_nil rfl)) rfl))) pss_nil) (pss_one (ps_ret (pvx (i := 3) nn__law_env_here rfl (Or.inl rfl)))))))
abbrev s_l_alt : Stmt := top 33
theorem sc_l_alt : FnScope ["_law_state_here", "_law_env_here", "_law_c", "_law_rows", "_law_other", "_law_guard", "_law_row"] ["_law_state_here", "_law_env_here", "_law_c"] (defScope s_l_alt) := ⟨rfl, rfl, rfl, by decide +kernel, rfl, by decide +kernel, by decide +kernel⟩
set_option maxHeartbeats 4000000 in
theorem ok_l_alt {A : Ad} (T : Tx K mg A) (hw : A.w = w) {f : Addr} {fd : FuncData} (F : FunD K "_law_alt" "_law_alt" (defArgs s_l_alt) (defBody s_l_alt) (defScope s_l_alt) [] [] f fd)
    (c_l_simple : Cal P w K mg base "_law_simple" (9) ["_law_state_here", "_law_env_here"] (sp_l_simple A))
    (c_l_target : Cal P w K mg base "_law_target" (4) ["_law_state_here", "_law_env_here"] (sp_l_target A))
    (c_l_draw : Cal P w K mg base "_law_draw" (1) ["_law_state_here", "_law_many"] spDraw)
    (c_l_expression : Cal P w K mg base "_law_expression" (7) ["_law_state_here", "_law_env_here", "_law_deep"] (sp_l_expression A 2)) : FnOk P w K mg base CX0 (10) f fd ["_law_state_here", "_law_env_here", "_law_c"] (sp_l_alt A) := by
  obtain rfl := T.k
  obtain rfl := hw
  refine F.ok sc_l_alt (fun vs H Q E h => len_l_alt A h) (fun cdv Ar outer s H vs Q E hr h => ⟨t_l_alt A, PSs.nox ?_, pure_l_alt A vs H Q E h⟩)
  exact (pss_cons (ps_set (i := 3) sc_l_alt.nd rfl (Or.inl rfl) (pe_lst (pa_cons (pe_tup (pa_cons pe_non (pa_cons (pvx (i := 2) nn__law_c rfl (Or.inl rfl)) (pa_cons (pe_cal c_l_target (hr.mono (by omega)) (by rfl) (pa_cons (pvx (i := 0) nn__law_state_here rfl (Or.inl rfl)) (pa_cons (pvx (i := 1) nn__law_env_here rfl (Or.inl rfl)) pa_nil rfl) rfl)) (pa_cons (pe_cal c_l_simple (hr.mono (by omega)) (by rfl) (pa_cons (pvx (i := 0) nn__law_state_here rfl (Or.inl rfl)) (pa_cons (pvx (i := 1) nn__law_env_here rfl (Or.inl rfl)) pa_nil rfl) rfl)) pa_nil rfl) rfl) rfl) rfl)) pa_nil rfl))) (pss_cons (ps_for PassesOwn.never rfl (pi_list (pe_dget (hu_of hr) (pvx (i := 1) nn__law_env_here rfl (Or.inl rfl)) pe_str (fun _ _ => rfl))) (pg_name (i := 4) sc_l_alt.nd rfl (Or.inr rfl)) (pss_one (ps_if (PW.pt (pw_and (pt_cmpR (op_eqA hr.units) (pe_callB call_lenA (by rfl) T.b_len (by decide +kernel) (pa_cons (pe_lc (own := [("_law_row", 6)]) rfl sc_l_alt.nd (pi_list (pvx (i := 3) nn__law_rows rfl (Or.inl rfl))) (blkOk_by (own := [("_law_row", 6)]) (N := ["_law_state_here", "_law_env_here", "_law_c", "_law_rows", "_law_other", "_law_guard", "_law_row"]) (sc := defScope s_l_alt) (by decide +kernel)) (fun _ _ _ _ _ => (pg_name (i := 6) sc_l_alt.nd rfl (Or.inl rfl))) (fun _ _ _ _ _ => (pts_one (pt_cmpR (op_eqA hr.units) (pe_ix ix_A (pvx (i := 6) nn__law_row rfl (by first | exact Or.inl rfl | exact Or.inr (Or.inl rfl) | exact Or.inr (Or.inr rfl))) pe_int (fun _ _ => rfl)) (pvx (i := 4) nn__law_other rfl (by first | exact Or.inl rfl | exact Or.inr (Or.inl rfl) | exact Or.inr (Or.inr rfl))) (nomark _)))) (fun _ _ _ _ _ => (pvx (i := 6) nn__law_row rfl (by first | exact Or.inl rfl | exact Or.inr (Or.inl rfl) | exact Or.inr (Or.inr rfl))))) pa_nil rfl)) pe_int (nomark _)) (pw_and1 (pt_cmpR (op_eqA hr.units) (pe_cal c_l_draw (hr.mono (by omega)) (by rfl) (pa_cons (pvx (i := 0) nn__law_state_here rfl (Or.inl rfl)) (pa_cons pe_int pa_nil rfl) rfl)) pe_int (nomark _))))) (pss_cons (ps_set (i := 5) sc_l_alt.nd rfl (Or.inl rfl) (pe_ifExp (pt_cmpR (op_eqA hr.units) (pe_cal c_l_draw (hr.mono (by omega)) (by rfl) (pa_cons (pvx (i := 0) nn__law_state_here rfl (Or.inl rfl)) (pa_cons pe_int pa_nil rfl) rfl)) pe_int (nomark _)) pe_non (pe_cal c_l_expression (hr.mono (by omega)) (by rfl) (pa_cons (pvx (i := 0) nn__law_state_here rfl (Or.inl rfl)) (pa_cons (pvx (i := 1) nn__law_env_here rfl (Or.inl rfl)) (pa_cons pe_int pa_nil rfl) rfl) rfl)))) (pss_cons (ps_set (i := 6) sc_l_alt.nd rfl (Or.inl rfl) (pe_tup (pa_cons (pvx (i := 5) nn__law_guard rfl (Or.inl rfl)) (pa_cons (pvx (i := 4) nn__law_other rfl (by first | exact Or.inl rfl | exact Or.inr (Or.inl rfl) | exact Or.inr (Or.inr rfl))) (pa_cons (pe_cal c_l_target (hr.mono (by omega)) (by rfl) (pa_cons (pvx (i := 0) nn__law_state_here rfl (Or.inl rfl)) (pa_cons (pvx (i := 1) nn__law_env_here rfl (Or.inl rfl)) pa_nil rfl) rfl)) (pa_cons (pe_cal c_l_simple (hr.mono (by omega)) (by rfl) (pa_cons (pvx (i := 0) nn__law_state_here rfl (Or.inl rfl)) (pa_cons (pvx (i := 1) nn__law_env_here rfl (Or.inl rfl)) pa_nil rfl) rfl)) pa_nil rfl) rfl) rfl) rfl))) (pss_one (ps_set (i := 3) sc_l_alt.nd rfl (Or.inl rfl) (pe_ifExp (pt_cmpR (op_eqA hr.units) (pe_cal c_l_draw (hr.mono (by omega)) (by rfl) (pa_cons (pvx (i := 0) nn__law_state_here rfl (Or.inl rfl)) (pa_cons pe_int pa_nil rfl) rfl)) pe_int (nomark _)) (pe_op op_addA (pvx (i := 3) nn__law_rows rfl (Or.inl rfl)) (pe_lst (pa_cons (pvx (i := 6) nn__law_row rfl (Or.inl rfl)) pa_nil rfl))) (pe_op op_addA (pe_lst (pa_cons (pvx (i := 6) nn__law_row rfl (Or.inl rfl)) pa_nil rfl)) (pvx (i := 3) nn__law_rows rfl (Or.inl rfl)))))))) pss_nil))) (pss_one (ps_ret (pe_tup (pa_cons pe_str (pa_cons (pvx (i := 3) nn__law_rows rfl (Or.inl rfl)) pa_nil rfl) rfl))))))
abbrev s_l_wrapped : Stmt := top 34
theorem sc_l_wrapped : FnScope ["_law_state_here", "_law_env_here", "_law_world", "_law_part", "_law_turn", "_law_counter", "_law_turns"] ["_law_state_here", "_law_env_here", "_law_world", "_law_part"] (defScope s_l_wrapped) := ⟨rfl, rfl, rfl, by decide +kernel, rfl, by decide +kernel, by decide +kernel⟩
set_option maxHeartbeats 4000000 in
theorem ok_l_wrapped {A : Ad} (T : Tx K mg A) (hw : A.w = w) {f : Addr} {fd : FuncData} (F : FunD K "_law_wrapped" "_law_wrapped" (defArgs s_l_wrapped) (defBody s_l_wrapped) (defScope s_l_wrapped) [] [] f fd)
    (c_l_draw : Cal P w K mg base "_law_draw" (1) ["_law_state_here", "_law_many"] spDraw)
    (c_l_set : Cal P w K mg base "_law_set" (8) ["_law_state_here", "_law_env_here"] (sp_l_set A))
    (c_l_expression : Cal P w K mg base "_law_expression" (7) ["_law_state_here", "_law_env_here", "_law_deep"] (sp_l_expression A 2))
    (c_l_more_cells : Cal P w K mg base "_law_more_cells" (1) ["_law_world", "_law_many"] (sp_l_more_cells A)) : FnOk P w K mg base CX0 (9) f fd ["_law_state_here", "_law_env_here", "_law_world", "_law_part"] (sp_l_wrapped A) := by
  obtain rfl := T.k
  obtain rfl := hw
  refine F.ok sc_l_wrapped (fun vs H Q E h => len_l_wrapped A h) (fun cdv Ar outer s H vs Q E hr h => ⟨t_l_wrapped A, PSs.nox ?_, pure_l_wrapped A vs H Q E h⟩)
  exact (pss_cons (ps_set (i := 4) sc_l_wrapped.nd rfl (Or.inl rfl) (pe_cal c_l_draw (hr.mono (by omega)) (by rfl) (pa_cons (pvx (i := 0) nn__law_state_here rfl (Or.inl rfl)) (pa_cons pe_int pa_nil rfl) rfl))) (pss_cons (ps_if (pt_cmpR (op_eqA hr.units) (pvx (i := 4) nn__law_turn rfl (Or.inl rfl)) pe_int (nomark _)) (pss_one (ps_ret (pe_tup (pa_cons pe_str (pa_cons (pe_cal c_l_expression (hr.mono (by omega)) (by rfl) (pa_cons (pvx (i := 0) nn__law_state_here rfl (Or.inl rfl)) (pa_cons (pvx (i := 1) nn__law_env_here rfl (Or.inl rfl)) (pa_cons pe_int pa_nil rfl) rfl) rfl)) (pa_cons (pvx (i := 3) nn__law_part rfl (Or.inl rfl)) (pa_cons (pe_cal c_l_set (hr.mono (by omega)) (by rfl) (pa_cons (pvx (i := 0) nn__law_state_here rfl (Or.inl rfl)) (pa_cons (pvx (i := 1) nn__law_env_here rfl (Or.inl rfl)) pa_nil rfl) rfl)) pa_nil rfl) rfl) rfl) rfl)))) pss_nil) (pss_cons (ps_if (pt_cmpR (op_eqA hr.units) (pvx (i := 4) nn__law_turn rfl (Or.inl rfl)) pe_int (nomark _)) (pss_one (ps_ret (pe_tup (pa_cons pe_str (pa_cons (pe_tup (pa_cons pe_str (pa_cons (pe_tup (pa_cons pe_str (pa_cons pe_int pa_nil rfl) rfl)) (pa_cons (pe_cal c_l_expression (hr.mono (by omega)) (by rfl) (pa_cons (pvx (i := 0) nn__law_state_here rfl (Or.inl rfl)) (pa_cons (pvx (i := 1) nn__law_env_here rfl (Or.inl rfl)) (pa_cons pe_int pa_nil rfl) rfl) rfl)) pa_nil rfl) rfl) rfl)) (pa_cons (pe_cal c_l_set (hr.mono (by omega)) (by rfl) (pa_cons (pvx (i := 0) nn__law_state_here rfl (Or.inl rfl)) (pa_cons (pvx (i := 1) nn__law_env_here rfl (Or.inl rfl)) pa_nil rfl) rfl)) (pa_cons (pvx (i := 3) nn__law_part rfl (Or.inl rfl)) pa_nil rfl) rfl) rfl) rfl)))) pss_nil) (pss_cons (ps_if (PW.pt (pw_and (pt_cmpR op_lt (pvx (i := 4) nn__law_turn rfl (Or.inl rfl)) pe_int (nomark _)) (pw_and (pt_truth (pe_dget (hu_of hr) (pvx (i := 2) nn__law_world rfl (Or.inl rfl)) pe_str (fun _ _ => rfl)) (fun _ => rfl)) (pw_and1 (pt_cmpR op_le (pe_dget (hu_of hr) (pvx (i := 2) nn__law_world rfl (Or.inl rfl)) pe_str (fun _ _ => rfl)) pe_int (nomark _)))))) (pss_cons (ps_set (i := 5) sc_l_wrapped.nd rfl (Or.inl rfl) (pe_tup (pa_cons pe_str (pa_cons (pe_cal c_l_more_cells (hr.mono (by omega)) (by rfl) (pa_cons (pvx (i := 2) nn__law_world rfl (Or.inl rfl)) (pa_cons pe_int pa_nil rfl) rfl)) pa_nil rfl) rfl))) (pss_cons (ps_set (i := 6) sc_l_wrapped.nd rfl (Or.inl rfl) (pe_tup (pa_cons pe_str (pa_cons (pe_tup (pa_cons pe_str (pa_cons (pvx (i := 5) nn__law_counter rfl (Or.inl rfl)) (pa_cons (pe_tup (pa_cons pe_str (pa_cons pe_int pa_nil rfl) rfl)) pa_nil rfl) rfl) rfl)) (pa_cons pe_int (pa_cons (pe_tup (pa_cons pe_str (pa_cons (pe_lst (pa_cons (pvx (i := 3) nn__law_part rfl (Or.inl rfl)) (pa_cons (pe_tup (pa_cons pe_str (pa_cons (pvx (i := 5) nn__law_counter rfl (Or.inl rfl)) (pa_cons (pe_tup (pa_cons pe_str (pa_cons (pvx (i := 5) nn__law_counter rfl (Or.inl rfl)) (pa_cons (pe_tup (pa_cons pe_str (pa_cons pe_int pa_nil rfl) rfl)) pa_nil rfl) rfl) rfl)) pa_nil rfl) rfl) rfl)) pa_nil rfl) rfl)) pa_nil rfl) rfl)) pa_nil rfl) rfl) rfl) rfl))) (pss_one (ps_ret (pe_tup (pa_cons pe_str (pa_cons (pe_lst (pa_cons (pe_tup (pa_cons pe_str (pa_cons (pvx (i := 5) nn__law_counter rfl (Or.inl rfl)) (pa_cons (pe_tup (pa_cons pe_str (pa_cons pe_int pa_nil rfl) rfl)) pa_nil rfl) rfl) rfl)) (pa_cons (pvx (i := 6) nn__law_turns rfl (Or.inl rfl)) pa_nil rfl) rfl)) pa_nil rfl) rfl)))))) pss_nil) (pss_one (ps_ret (pvx (i := 3) nn__law_part rfl (Or.inl rfl))))))))
abbrev s_l_items : Stmt := top 35
theorem sc_l_items : FnScope ["_law_state_here", "_law_env_here", "_law_world", "_law_items_here", "_law_found", "_law_item", "_law_row", "_law_counter", "_law_parts", "_law_inner", "_law_part"] ["_law_state_here", "_law_env_here", "_law_world", "_law_items_here"] (defScope s_l_items) := ⟨rfl, rfl, rfl, by decide +kernel, rfl, by decide +kernel, by decide +kernel⟩
set_option maxHeartbeats 4000000 in
theorem ok_l_items {A : Ad} (T : Tx K mg A) (hw : A.w = w) (n : Nat) {f : Addr} {fd : FuncData} (F : FunD K "_law_items" "_law_items" (defArgs s_l_items) (defBody s_l_items) (defScope s_l_items) [] [] f fd)
    (c_l_draw : Cal P w K mg base "_law_draw" (1) ["_law_state_here", "_law_many"] spDraw)
    (c_l_simple : Cal P w K mg base "_law_simple" (9) ["_law_state_here", "_law_env_here"] (sp_l_simple A))
    (c_l_expression : Cal P w K mg base "_law_expression" (7) ["_law_state_here", "_law_env_here", "_law_deep"] (sp_l_expression A 2))
    (c_l_alt : Cal P w K mg base "_law_alt" (10) ["_law_state_here", "_law_env_here", "_law_c"] (sp_l_alt A))
    (c_l_par : Cal P w K mg base "_law_par" (n + 10) ["_law_state_here", "_law_env_here", "_law_world", "_law_deep"] (sp_parP A n))
    (c_l_target : Cal P w K mg base "_law_target" (4) ["_law_state_here", "_law_env_here"] (sp_l_target A))
    (c_l_items : Cal P w K mg base "_law_items" (n + 10) ["_law_state_here", "_law_env_here", "_law_world", "_law_items_here"] (sp_itemsP A n))
    (c_l_wrapped : Cal P w K mg base "_law_wrapped" (9) ["_law_state_here", "_law_env_here", "_law_world", "_law_part"] (sp_l_wrapped A)) : FnOk P w K mg base CX0 (n + 11) f fd ["_law_state_here", "_law_env_here", "_law_world", "_law_items_here"] (sp_l_items A n) := by
  obtain rfl := T.k
  obtain rfl := hw
  refine F.ok sc_l_items (fun vs H Q E h => len_l_items A h) (fun cdv Ar outer s H vs Q E hr h => ⟨t_l_items A n, PSs.nox ?_, pure_l_items A n vs H Q E h⟩)
  exact (pss_cons (ps_set (i := 4) sc_l_items.nd rfl (Or.inl rfl) (pe_lst pa_nil)) (pss_cons (ps_for PassesOwn.never rfl (pi_list (pvx (i := 3) nn__law_items_here rfl (Or.inl rfl))) (pg_name (i := 5) sc_l_items.nd rfl (Or.inl rfl)) (pss_one (ps_if (pt_cmpR op_gt (pe_dget (hu_of hr) (pvx (i := 2) nn__law_world rfl (Or.inl rfl)) pe_str (fun _ _ => rfl)) pe_int (nomark _)) (pss_cons (ps_dput (hu_of hr) (pvx (i := 2) nn__law_world rfl (Or.inl rfl)) pe_str (pe_op op_sub (pe_dget (hu_of hr) (pvx (i := 2) nn__law_world rfl (Or.inl rfl)) pe_str (fun _ _ => rfl)) pe_int) rfl) (pss_cons (ps_if (pt_cmpR (op_eqA hr.units) (pe_cal c_l_draw (hr.mono (by omega)) (by rfl) (pa_cons (pvx (i := 0) nn__law_state_here rfl (Or.inl rfl)) (pa_cons pe_int pa_nil rfl) rfl)) pe_int (nomark _)) (pss_one (ps_expr (pe_bml PySem.F.slot_list_append PySem.F.type_list_append mt_appA (pvx (i := 4) nn__law_found rfl (Or.inl rfl)) (pa_cons (pe_cal c_l_simple (hr.mono (by omega)) (by rfl) (pa_cons (pvx (i := 0) nn__law_state_here rfl (Or.inl rfl)) (pa_cons (pvx (i := 1) nn__law_env_here rfl (Or.inl rfl)) pa_nil rfl) rfl)) pa_nil rfl)))) pss_nil) (pss_one (ps_if (pt_cmpR (op_eqA hr.units) (pe_ix ix_A (pvx (i := 5) nn__law_item rfl (Or.inl rfl)) pe_int (fun _ _ => rfl)) pe_str (nomark _)) (pss_one (ps_expr (pe_bml PySem.F.slot_list_append PySem.F.type_list_append mt_appA (pvx (i := 4) nn__law_found rfl (Or.inl rfl)) (pa_cons (pe_tup (pa_cons pe_str (pa_cons (pe_ix ix_A (pvx (i := 5) nn__law_item rfl (Or.inl rfl)) pe_int (fun _ _ => rfl)) (pa_cons (pe_cal c_l_expression (hr.mono (by omega)) (by rfl) (pa_cons (pvx (i := 0) nn__law_state_here rfl (Or.inl rfl)) (pa_cons (pvx (i := 1) nn__law_env_here rfl (Or.inl rfl)) (pa_cons pe_int pa_nil rfl) rfl) rfl)) pa_nil rfl) rfl) rfl)) pa_nil rfl)))) (pss_one (ps_if (PW.pt (pw_and (pt_cmpR (op_eqA hr.units) (pe_ix ix_A (pvx (i := 5) nn__law_item rfl (Or.inl rfl)) pe_int (fun _ _ => rfl)) pe_str (nomark _)) (pw_and (pt_truth (pe_dget (hu_of hr) (pvx (i := 2) nn__law_world rfl (Or.inl rfl)) pe_str (fun _ _ => rfl)) (fun _ => rfl)) (pw_and1 (pt_cmpR (op_eqA hr.units) (pe_cal c_l_draw (hr.mono (by omega)) (by rfl) (pa_cons (pvx (i := 0) nn__law_state_here rfl (Or.inl rfl)) (pa_cons pe_int pa_nil rfl) rfl)) pe_int (nomark _)))))) (pss_cons (ps_expr (pe_bml PySem.F.slot_list_append PySem.F.type_list_append mt_appA (pvx (i := 4) nn__law_found rfl (Or.inl rfl)) (pa_cons (pe_cal c_l_alt (hr.mono (by omega)) (by rfl) (pa_cons (pvx (i := 0) nn__law_state_here rfl (Or.inl rfl)) (pa_cons (pvx (i := 1) nn__law_env_here rfl (Or.inl rfl)) (pa_cons (pe_ix ix_A (pvx (i := 5) nn__law_item rfl (Or.inl rfl)) pe_int (fun _ _ => rfl)) pa_nil rfl) rfl) rfl)) pa_nil rfl))) (pss_one (ps_if (PW.pt (pw_and (pt_cmpR (op_eqA hr.units) (pe_ix ix_A (pvx (i := 5) nn__law_item rfl (Or.inl rfl)) (pe_un un_neg pe_int) (fun _ _ => rfl)) pe_str (nomark _)) (pw_and1 (pt_cmpR (op_eqA hr.units) (pe_cal c_l_draw (hr.mono (by omega)) (by rfl) (pa_cons (pvx (i := 0) nn__law_state_here rfl (Or.inl rfl)) (pa_cons pe_int pa_nil rfl) rfl)) pe_int (nomark _))))) (pss_cons (ps_set (i := 6) sc_l_items.nd rfl (Or.inl rfl) (pe_ix ix_A (pe_ix ix_A (pe_ix ix_A (pvx (i := 4) nn__law_found rfl (Or.inl rfl)) (pe_un un_neg pe_int) (fun _ _ => rfl)) pe_int (fun _ _ => rfl)) pe_int (fun _ _ => rfl))) (pss_one (ps_asg (pe_tup (pa_cons pe_str (pa_cons (pe_op op_addA (pe_lst (pa_cons (pe_op op_catT (pe_slice sl_A (pvx (i := 6) nn__law_row rfl (Or.inl rfl)) po_none (po_some pe_int)) (pe_tup (pa_cons (pe_cal c_l_par (hr.mono (by omega)) (by rfl) (pa_cons (pvx (i := 0) nn__law_state_here rfl (Or.inl rfl)) (pa_cons (pvx (i := 1) nn__law_env_here rfl (Or.inl rfl)) (pa_cons (pvx (i := 2) nn__law_world rfl (Or.inl rfl)) (pa_cons pe_int pa_nil rfl) rfl) rfl) rfl)) pa_nil rfl))) pa_nil rfl)) (pe_slice sl_A (pe_ix ix_A (pe_ix ix_A (pvx (i := 4) nn__law_found rfl (Or.inl rfl)) (pe_un un_neg pe_int) (fun _ _ => rfl)) pe_int (fun _ _ => rfl)) (po_some pe_int) po_none)) pa_nil rfl) rfl)) (pg_sub (pvx (i := 4) nn__law_found rfl (Or.inl rfl)) (pe_un un_neg pe_int) set_A)))) pss_nil))) (pss_one (ps_if (pt_cmpR (op_eqA hr.units) (pe_ix ix_A (pvx (i := 5) nn__law_item rfl (Or.inl rfl)) pe_int (fun _ _ => rfl)) pe_str (nomark _)) (pss_one (ps_expr (pe_bml PySem.F.slot_list_append PySem.F.type_list_append mt_appA (pvx (i := 4) nn__law_found rfl (Or.inl rfl)) (pa_cons (pe_tup (pa_cons pe_str (pa_cons (pe_ix ix_A (pvx (i := 5) nn__law_item rfl (Or.inl rfl)) pe_int (fun _ _ => rfl)) (pa_cons (pe_cal c_l_target (hr.mono (by omega)) (by rfl) (pa_cons (pvx (i := 0) nn__law_state_here rfl (Or.inl rfl)) (pa_cons (pvx (i := 1) nn__law_env_here rfl (Or.inl rfl)) pa_nil rfl) rfl)) pa_nil rfl) rfl) rfl)) pa_nil rfl)))) (pss_one (ps_if (pt_cmpR (op_eqA hr.units) (pe_ix ix_A (pvx (i := 5) nn__law_item rfl (Or.inl rfl)) pe_int (fun _ _ => rfl)) pe_str (nomark _)) (pss_cons (ps_set (i := 7) sc_l_items.nd rfl (Or.inl rfl) (pe_tup (pa_cons pe_str (pa_cons (pe_ix ix_A (pvx (i := 5) nn__law_item rfl (Or.inl rfl)) pe_int (fun _ _ => rfl)) pa_nil rfl) rfl))) (pss_cons (ps_setLc (i := 8) (own := [("_law_part", 10)]) rfl sc_l_items.nd rfl rfl (sw_true rfl rfl rfl (by decide +kernel)) (pi_list (pe_ix ix_A (pvx (i := 5) nn__law_item rfl (Or.inl rfl)) pe_int (fun _ _ => rfl))) (blkOk_by (own := [("_law_part", 10)]) (N := ["_law_state_here", "_law_env_here", "_law_world", "_law_items_here", "_law_found", "_law_item", "_law_row", "_law_counter", "_law_parts", "_law_inner", "_law_part"]) (sc := defScope s_l_items) (by decide +kernel)) (fun _ _ _ _ _ => (pg_name (i := 10) sc_l_items.nd rfl (Or.inl rfl))) (fun _ _ _ _ _ => pts_nil) (fun _ _ _ _ _ => (pe_tup (pa_cons (pe_ix ix_A (pvx (i := 10) nn__law_part rfl (by first | exact Or.inl rfl | exact Or.inr (Or.inl rfl) | exact Or.inr (Or.inr rfl))) pe_int (fun _ _ => rfl)) (pa_cons (pe_ix ix_A (pvx (i := 10) nn__law_part rfl (by first | exact Or.inl rfl | exact Or.inr (Or.inl rfl) | exact Or.inr (Or.inr rfl))) pe_int (fun _ _ => rfl)) (pa_cons pe_str pa_nil rfl) rfl) rfl)))) (pss_cons (ps_set (i := 9) sc_l_items.nd rfl (Or.inl rfl) (pe_op op_addA (pe_cal c_l_items (hr.mono (by omega)) (by rfl) (pa_cons (pvx (i := 0) nn__law_state_here rfl (Or.inl rfl)) (pa_cons (pvx (i := 1) nn__law_env_here rfl (Or.inl rfl)) (pa_cons (pvx (i := 2) nn__law_world rfl (Or.inl rfl)) (pa_cons (pvx (i := 8) nn__law_parts rfl (Or.inl rfl)) pa_nil rfl) rfl) rfl) rfl)) (pe_lst (pa_cons (pe_tup (pa_cons pe_str (pa_cons (pvx (i := 7) nn__law_counter rfl (Or.inl rfl)) (pa_cons (pe_tup (pa_cons pe_str (pa_cons (pvx (i := 7) nn__law_counter rfl (Or.inl rfl)) (pa_cons (pe_tup (pa_cons pe_str (pa_cons pe_int pa_nil rfl) rfl)) pa_nil rfl) rfl) rfl)) pa_nil rfl) rfl) rfl)) pa_nil rfl)))) (pss_cons (ps_expr (pe_bml PySem.F.slot_list_append PySem.F.type_list_append mt_appA (pvx (i := 4) nn__law_found rfl (Or.inl rfl)) (pa_cons (pe_tup (pa_cons pe_str (pa_cons (pvx (i := 7) nn__law_counter rfl (Or.inl rfl)) (pa_cons (pe_tup (pa_cons pe_str (pa_cons pe_int pa_nil rfl) rfl)) pa_nil rfl) rfl) rfl)) pa_nil rfl))) (pss_one (ps_expr (pe_bml PySem.F.slot_list_append PySem.F.type_list_append mt_appA (pvx (i := 4) nn__law_found rfl (Or.inl rfl)) (pa_cons (pe_tup (pa_cons pe_str (pa_cons (pe_tup (pa_cons pe_str (pa_cons (pvx (i := 7) nn__law_counter rfl (Or.inl rfl)) (pa_cons (pe_tup (pa_cons pe_str (pa_cons (pe_ix ix_A (pvx (i := 5) nn__law_item rfl (Or.inl rfl)) pe_int (fun _ _ => rfl)) pa_nil rfl) rfl)) pa_nil rfl) rfl) rfl)) (pa_cons (pe_op op_addA (pe_ix ix_A (pvx (i := 5) nn__law_item rfl (Or.inl rfl)) pe_int (fun _ _ => rfl)) (pe_cal c_l_draw (hr.mono (by omega)) (by rfl) (pa_cons (pvx (i := 0) nn__law_state_here rfl (Or.inl rfl)) (pa_cons pe_int pa_nil rfl) rfl))) (pa_cons (pe_tup (pa_cons pe_str (pa_cons (pvx (i := 9) nn__law_inner rfl (Or.inl rfl)) pa_nil rfl) rfl)) pa_nil rfl) rfl) rfl) rfl)) pa_nil rfl)))))))) (pss_one (ps_expr (pe_bml PySem.F.slot_list_append PySem.F.type_list_append mt_appA (pvx (i := 4) nn__law_found rfl (Or.inl rfl)) (pa_cons (pe_cal c_l_wrapped (hr.mono (by omega)) (by rfl) (pa_cons (pvx (i := 0) nn__law_state_here rfl (Or.inl rfl)) (pa_cons (pvx (i := 1) nn__law_env_here rfl (Or.inl rfl)) (pa_cons (pvx (i := 2) nn__law_world rfl (Or.inl rfl)) (pa_cons (pe_cal c_l_par (hr.mono (by omega)) (by rfl) (pa_cons (pvx (i := 0) nn__law_state_here rfl (Or.inl rfl)) (pa_cons (pvx (i := 1) nn__law_env_here rfl (Or.inl rfl)) (pa_cons (pvx (i := 2) nn__law_world rfl (Or.inl rfl)) (pa_cons pe_int pa_nil rfl) rfl) rfl) rfl)) pa_nil rfl) rfl) rfl) rfl)) pa_nil rfl)))))))))))))) pss_nil))) (pss_one (ps_ret (pvx (i := 4) nn__law_found rfl (Or.inl rfl))))))
abbrev s_l_meetings : Stmt := top 36
theorem sc_l_meetings : FnScope ["_law_state_here", "_law_world", "_law_scripts", "_law_envs", "_law_known", "_law_group", "_law_many", "_law_parts", "_law_k", "_law_giver", "_law_taker", "_law_script"] ["_law_state_here", "_law_world", "_law_scripts", "_law_envs"] (defScope s_l_meetings) := ⟨rfl, rfl, rfl, by decide +kernel, rfl, by decide +kernel, by decide +kernel⟩
set_option maxHeartbeats 4000000 in
theorem ok_l_meetings {A : Ad} (T : Tx K mg A) (hw : A.w = w) {f : Addr} {fd : FuncData} (F : FunD K "_law_meetings" "_law_meetings" (defArgs s_l_meetings) (defBody s_l_meetings) (defScope s_l_meetings) [] [] f fd)
    (c_l_draw : Cal P w K mg base "_law_draw" (1) ["_law_state_here", "_law_many"] spDraw)
    (c_l_pick : Cal P w K mg base "_law_pick" (2) ["_law_state_here", "_law_row"] spPick)
    (c_l_more_cells : Cal P w K mg base "_law_more_cells" (1) ["_law_world", "_law_many"] (sp_l_more_cells A)) : FnOk P w K mg base CX0 (3) f fd ["_law_state_here", "_law_world", "_law_scripts", "_law_envs"] (sp_l_meetings A) := by
  obtain rfl := T.k
  obtain rfl := hw
  refine F.ok sc_l_meetings (fun vs H Q E h => len_l_meetings A h) (fun cdv Ar outer s H vs Q E hr h => ⟨t_l_meetings A, PSs.nox ?_, pure_l_meetings A vs H Q E h⟩)
  exact (pss_cons (ps_set (i := 4) sc_l_meetings.nd rfl (Or.inl rfl) pe_dnewT) (pss_one (ps_for PassesOwn.never rfl (pi_range1 (by rfl) T.b_range (pa_cons (pe_op op_addA pe_int (pe_cal c_l_draw (hr.mono (by omega)) (by rfl) (pa_cons (pvx (i := 0) nn__law_state_here rfl (Or.inl rfl)) (pa_cons pe_int pa_nil rfl) rfl))) pa_nil rfl)) (pg_name (i := 5) sc_l_meetings.nd rfl (Or.inl rfl)) (pss_cons (ps_set (i := 6) sc_l_meetings.nd rfl (Or.inl rfl) (pe_ifExp (pt_cmpR op_le (pe_op op_addA (pe_dget (hu_of hr) (pvx (i := 1) nn__law_world rfl (Or.inl rfl)) pe_str (fun _ _ => rfl)) (pe_callB call_lenA (by rfl) T.b_len (by decide +kernel) (pa_cons (pvx (i := 2) nn__law_scripts rfl (Or.inl rfl)) pa_nil rfl))) pe_int (nomark _)) (pe_cal c_l_pick (hr.mono (by omega)) (by rfl) (pa_cons (pvx (i := 0) nn__law_state_here rfl (Or.inl rfl)) (pa_cons (pe_lst (pa_cons pe_int (pa_cons pe_int (pa_cons pe_int (pa_cons pe_int pa_nil rfl) rfl) rfl) rfl)) pa_nil rfl) rfl)) pe_int)) (pss_cons (ps_setLc (i := 7) (own := [("_law_script", 11)]) rfl sc_l_meetings.nd rfl rfl (sw_true rfl rfl rfl (by decide +kernel)) (pi_list (pvx (i := 2) nn__law_scripts rfl (Or.inl rfl))) (blkOk_by (own := [("_law_script", 11)]) (N := ["_law_state_here", "_law_world", "_law_scripts", "_law_envs", "_law_known", "_law_group", "_law_many", "_law_parts", "_law_k", "_law_giver", "_law_taker", "_law_script"]) (sc := defScope s_l_meetings) (by decide +kernel)) (fun _ _ _ _ _ => (pg_name (i := 11) sc_l_meetings.nd rfl (Or.inl rfl))) (fun _ _ _ _ _ => pts_nil) (fun _ _ _ _ _ => (pe_lst pa_nil))) (pss_cons (ps_for PassesOwn.never rfl (pi_range1 (by rfl) T.b_range (pa_cons (pe_op op_addA pe_int (pe_cal c_l_draw (hr.mono (by omega)) (by rfl) (pa_cons (pvx (i := 0) nn__law_state_here rfl (Or.inl rfl)) (pa_cons pe_int pa_nil rfl) rfl))) pa_nil rfl)) (pg_name (i := 8) sc_l_meetings.nd rfl (Or.inl rfl)) (pss_cons (ps_set (i := 9) sc_l_meetings.nd rfl (Or.inl rfl) (pe_cal c_l_draw (hr.mono (by omega)) (by rfl) (pa_cons (pvx (i := 0) nn__law_state_here rfl (Or.inl rfl)) (pa_cons (pe_callB call_lenA (by rfl) T.b_len (by decide +kernel) (pa_cons (pvx (i := 2) nn__law_scripts rfl (Or.inl rfl)) pa_nil rfl)) pa_nil rfl) rfl))) (pss_cons (ps_set (i := 10) sc_l_meetings.nd rfl (Or.inl rfl) (pe_op op_mod (pe_callTy call_intA (by rfl) T.b_int (by decide +kernel) (pa_cons (pe_op op_addA (pe_op op_addA (pvx (i := 9) nn__law_giver rfl (Or.inl rfl)) pe_int) (pe_cal c_l_draw (hr.mono (by omega)) (by rfl) (pa_cons (pvx (i := 0) nn__law_state_here rfl (Or.inl rfl)) (pa_cons (pe_op op_sub (pe_callB call_lenA (by rfl) T.b_len (by decide +kernel) (pa_cons (pvx (i := 2) nn__law_scripts rfl (Or.inl rfl)) pa_nil rfl)) pe_int) pa_nil rfl) rfl))) pa_nil rfl)) (pe_callB call_lenA (by rfl) T.b_len (by decide +kernel) (pa_cons (pvx (i := 2) nn__law_scripts rfl (Or.inl rfl)) pa_nil rfl)))) (pss_cons (ps_if (PW.pt (pw_and (pt_cmp (pc_dnotin (hu_of hr) (pe_tup (pa_cons (pvx (i := 9) nn__law_giver rfl (Or.inl rfl)) (pa_cons (pvx (i := 10) nn__law_taker rfl (Or.inl rfl)) pa_nil rfl) rfl)) (pvx (i := 4) nn__law_known rfl (Or.inl rfl)))) (pw_and1 (pt_cmpR op_lt (pe_callB call_lenA (by rfl) T.b_len (by decide +kernel) (pa_cons (pe_dget (hu_of hr) (pvx (i := 1) nn__law_world rfl (Or.inl rfl)) pe_str (fun _ _ => rfl)) pa_nil rfl)) pe_int (nomark _))))) (pss_cons (ps_dput (hu_of hr) (pvx (i := 4) nn__law_known rfl (Or.inl rfl)) (pe_tup (pa_cons (pvx (i := 9) nn__law_giver rfl (Or.inl rfl)) (pa_cons (pvx (i := 10) nn__law_taker rfl (Or.inl rfl)) pa_nil rfl) rfl)) (pe_callB call_lenA (by rfl) T.b_len (by decide +kernel) (pa_cons (pe_dget (hu_of hr) (pvx (i := 1) nn__law_world rfl (Or.inl rfl)) pe_str (fun _ _ => rfl)) pa_nil rfl)) rfl) (pss_cons (ps_expr (pe_bml PySem.F.slot_list_append PySem.F.type_list_append mt_appA (pe_dget (hu_of hr) (pvx (i := 1) nn__law_world rfl (Or.inl rfl)) pe_str (fun _ _ => rfl)) (pa_cons pe_str pa_nil rfl))) (pss_cons (ps_expr (pe_bml PySem.F.slot_list_append PySem.F.type_list_append mt_appA (pe_dget (hu_of hr) (pe_ix ix_A (pvx (i := 3) nn__law_envs rfl (Or.inl rfl)) (pvx (i := 9) nn__law_giver rfl (Or.inl rfl)) (fun _ _ => rfl)) pe_str (fun _ _ => rfl)) (pa_cons (pe_dget (hu_of hr) (pvx (i := 4) nn__law_known rfl (Or.inl rfl)) (pe_tup (pa_cons (pvx (i := 9) nn__law_giver rfl (Or.inl rfl)) (pa_cons (pvx (i := 10) nn__law_taker rfl (Or.inl rfl)) pa_nil rfl) rfl)) (fun _ _ => rfl)) pa_nil rfl))) (pss_one (ps_expr (pe_bml PySem.F.slot_list_append PySem.F.type_list_append mt_appA (pe_dget (hu_of hr) (pe_ix ix_A (pvx (i := 3) nn__law_envs rfl (Or.inl rfl)) (pvx (i := 10) nn__law_taker rfl (Or.inl rfl)) (fun _ _ => rfl)) pe_str (fun _ _ => rfl)) (pa_cons (pe_dget (hu_of hr) (pvx (i := 4) nn__law_known rfl (Or.inl rfl)) (pe_tup (pa_cons (pvx (i := 9) nn__law_giver rfl (Or.inl rfl)) (pa_cons (pvx (i := 10) nn__law_taker rfl (Or.inl rfl)) pa_nil rfl) rfl)) (fun _ _ => rfl)) pa_nil rfl))))))) pss_nil) (pss_one (ps_if (pt_cmp (pc_din (hu_of hr) (pe_tup (pa_cons (pvx (i := 9) nn__law_giver rfl (Or.inl rfl)) (pa_cons (pvx (i := 10) nn__law_taker rfl (Or.inl rfl)) pa_nil rfl) rfl)) (pvx (i := 4) nn__law_known rfl (Or.inl rfl)))) (pss_cons (ps_expr (pe_bml PySem.F.slot_list_append PySem.F.type_list_append mt_appA (pe_ix ix_A (pvx (i := 7) nn__law_parts rfl (Or.inl rfl)) (pvx (i := 9) nn__law_giver rfl (Or.inl rfl)) (fun _ _ => rfl)) (pa_cons (pe_tup (pa_cons pe_str (pa_cons (pe_dget (hu_of hr) (pvx (i := 4) nn__law_known rfl (Or.inl rfl)) (pe_tup (pa_cons (pvx (i := 9) nn__law_giver rfl (Or.inl rfl)) (pa_cons (pvx (i := 10) nn__law_taker rfl (Or.inl rfl)) pa_nil rfl) rfl)) (fun _ _ => rfl)) (pa_cons pe_str pa_nil rfl) rfl) rfl)) pa_nil rfl))) (pss_one (ps_expr (pe_bml PySem.F.slot_list_append PySem.F.type_list_append mt_appA (pe_ix ix_A (pvx (i := 7) nn__law_parts rfl (Or.inl rfl)) (pvx (i := 10) nn__law_taker rfl (Or.inl rfl)) (fun _ _ => rfl)) (pa_cons (pe_tup (pa_cons pe_str (pa_cons (pe_dget (hu_of hr) (pvx (i := 4) nn__law_known rfl (Or.inl rfl)) (pe_tup (pa_cons (pvx (i := 9) nn__law_giver rfl (Or.inl rfl)) (pa_cons (pvx (i := 10) nn__law_taker rfl (Or.inl rfl)) pa_nil rfl) rfl)) (fun _ _ => rfl)) (pa_cons pe_str pa_nil rfl) rfl) rfl)) pa_nil rfl))))) pss_nil)))))) (pss_one (ps_for PassesOwn.never rfl (pi_range1 (by rfl) T.b_range (pa_cons (pe_callB call_lenA (by rfl) T.b_len (by decide +kernel) (pa_cons (pvx (i := 2) nn__law_scripts rfl (Or.inl rfl)) pa_nil rfl)) pa_nil rfl)) (pg_name (i := 8) sc_l_meetings.nd rfl (Or.inl rfl)) (pss_one (ps_if (PW.pt (pw_and (pt_cmpR op_gt (pe_callB call_lenA (by rfl) T.b_len (by decide +kernel) (pa_cons (pe_ix ix_A (pvx (i := 7) nn__law_parts rfl (Or.inl rfl)) (pvx (i := 8) nn__law_k rfl (Or.inl rfl)) (fun _ _ => rfl)) pa_nil rfl)) pe_int (nomark _)) (pw_and1 (pt_cmpR op_gt (pvx (i := 6) nn__law_many rfl (Or.inl rfl)) pe_int (nomark _))))) (pss_one (ps_expr (pe_bml PySem.F.slot_list_append PySem.F.type_list_append mt_appA (pe_ix ix_A (pvx (i := 2) nn__law_scripts rfl (Or.inl rfl)) (pvx (i := 8) nn__law_k rfl (Or.inl rfl)) (fun _ _ => rfl)) (pa_cons (pe_tup (pa_cons pe_str (pa_cons (pvx (i := 6) nn__law_many rfl (Or.inl rfl)) (pa_cons (pe_ix ix_A (pvx (i := 7) nn__law_parts rfl (Or.inl rfl)) (pvx (i := 8) nn__law_k rfl (Or.inl rfl)) (fun _ _ => rfl)) (pa_cons (pe_cal c_l_more_cells (hr.mono (by omega)) (by rfl) (pa_cons (pvx (i := 1) nn__law_world rfl (Or.inl rfl)) (pa_cons pe_int pa_nil rfl) rfl)) pa_nil rfl) rfl) rfl) rfl)) pa_nil rfl)))) (pss_one (ps_expr (pe_bml PySem.F.slot_list_extend PySem.F.type_list_extend mt_extA (pe_ix ix_A (pvx (i := 2) nn__law_scripts rfl (Or.inl rfl)) (pvx (i := 8) nn__law_k rfl (Or.inl rfl)) (fun _ _ => rfl)) (pa_cons (pe_ix ix_A (pvx (i := 7) nn__law_parts rfl (Or.inl rfl)) (pvx (i := 8) nn__law_k rfl (Or.inl rfl)) (fun _ _ => rfl)) pa_nil rfl))))))))))))))
abbrev s_l_shared : Stmt := top 37
theorem sc_l_shared : FnScope ["_law_state_here", "_law_env_here", "_law_envs", "_law_scripts", "_law_cell", "_law_at", "_law_k", "_law_c"] ["_law_state_here", "_law_env_here", "_law_envs", "_law_scripts"] (defScope s_l_shared) := ⟨rfl, rfl, rfl, by decide +kernel, rfl, by decide +kernel, by decide +kernel⟩
set_option maxHeartbeats 4000000 in
theorem ok_l_shared {A : Ad} (T : Tx K mg A) (hw : A.w = w) {f : Addr} {fd : FuncData} (F : FunD K "_law_shared" "_law_shared" (defArgs s_l_shared) (defBody s_l_shared) (defScope s_l_shared) [] [] f fd)
    (c_l_draw : Cal P w K mg base "_law_draw" (1) ["_law_state_here", "_law_many"] spDraw) : FnOk P w K mg base CX0 (2) f fd ["_law_state_here", "_law_env_here", "_law_envs", "_law_scripts"] (sp_l_shared A) := by
  obtain rfl := T.k
  obtain rfl := hw
  refine F.ok sc_l_shared (fun vs H Q E h => len_l_shared A h) (fun cdv Ar outer s H vs Q E hr h => ⟨t_l_shared A, PSs.nox ?_, pure_l_shared A vs H Q E h⟩)
  exact (pss_cons (ps_for PassesOwn.never rfl (pi_list (pe_dget (hu_of hr) (pvx (i := 1) nn__law_env_here rfl (Or.inl rfl)) pe_str (fun _ _ => rfl))) (pg_name (i := 4) sc_l_shared.nd rfl (Or.inl rfl)) (pss_cons (ps_set (i := 5) sc_l_shared.nd rfl (Or.inl rfl) (pe_cal c_l_draw (hr.mono (by omega)) (by rfl) (pa_cons (pvx (i := 0) nn__law_state_here rfl (Or.inl rfl)) (pa_cons (pe_op op_addA (pe_callB call_lenA (by rfl) T.b_len (by decide +kernel) (pa_cons (pvx (i := 2) nn__law_envs rfl (Or.inl rfl)) pa_nil rfl)) pe_int) pa_nil rfl) rfl))) (pss_cons (ps_for PassesOwn.never rfl (pi_range1 (by rfl) T.b_range (pa_cons (pe_callB call_lenA (by rfl) T.b_len (by decide +kernel) (pa_cons (pvx (i := 2) nn__law_envs rfl (Or.inl rfl)) pa_nil rfl)) pa_nil rfl)) (pg_name (i := 6) sc_l_shared.nd rfl (Or.inl rfl)) (pss_one (ps_if (pt_cmpR op_in_seq (pvx (i := 5) nn__law_at rfl (Or.inl rfl)) (pe_tup (pa_cons (pvx (i := 6) nn__law_k rfl (Or.inl rfl)) (pa_cons (pe_callB call_lenA (by rfl) T.b_len (by decide +kernel) (pa_cons (pvx (i := 2) nn__law_envs rfl (Or.inl rfl)) pa_nil rfl)) pa_nil rfl) rfl)) (by rfl)) (pss_one (ps_expr (pe_bml PySem.F.slot_list_append PySem.F.type_list_append mt_appA (pe_dget (hu_of hr) (pe_ix ix_A (pvx (i := 2) nn__law_envs rfl (Or.inl rfl)) (pvx (i := 6) nn__law_k rfl (Or.inl rfl)) (fun _ _ => rfl)) pe_str (fun _ _ => rfl)) (pa_cons (pvx (i := 4) nn__law_cell rfl (Or.inl rfl)) pa_nil rfl)))) pss_nil))) (pss_one (ps_if (pt_cmpR op_lt (pvx (i := 5) nn__law_at rfl (Or.inl rfl)) (pe_callB call_lenA (by rfl) T.b_len (by decide +kernel) (pa_cons (pvx (i := 2) nn__law_envs rfl (Or.inl rfl)) pa_nil rfl)) (nomark _)) (pss_one (ps_expr (pe_bml PySem.F.slot_list_append PySem.F.type_list_append mt_appA (pe_dget (hu_of hr) (pe_ix ix_A (pvx (i := 2) nn__law_envs rfl (Or.inl rfl)) (pvx (i := 5) nn__law_at rfl (Or.inl rfl)) (fun _ _ => rfl)) pe_str (fun _ _ => rfl)) (pa_cons (pvx (i := 4) nn__law_cell rfl (Or.inl rfl)) pa_nil rfl)))) pss_nil))))) (pss_cons (ps_for PassesOwn.never rfl (pi_list (pe_dget (hu_of hr) (pvx (i := 1) nn__law_env_here rfl (Or.inl rfl)) pe_str (fun _ _ => rfl))) (pg_name (i := 7) sc_l_shared.nd rfl (Or.inr rfl)) (pss_cons (ps_set (i := 5) sc_l_shared.nd rfl (Or.inl rfl) (pe_cal c_l_draw (hr.mono (by omega)) (by rfl) (pa_cons (pvx (i := 0) nn__law_state_here rfl (Or.inl rfl)) (pa_cons (pe_callB call_lenA (by rfl) T.b_len (by decide +kernel) (pa_cons (pvx (i := 2) nn__law_envs rfl (Or.inl rfl)) pa_nil rfl)) pa_nil rfl) rfl))) (pss_cons (ps_expr (pe_bml PySem.F.slot_list_append PySem.F.type_list_append mt_appA (pe_dget (hu_of hr) (pe_ix ix_A (pvx (i := 2) nn__law_envs rfl (Or.inl rfl)) (pvx (i := 5) nn__law_at rfl (Or.inl rfl)) (fun _ _ => rfl)) pe_str (fun _ _ => rfl)) (pa_cons (pvx (i := 7) nn__law_c rfl (by first | exact Or.inl rfl | exact Or.inr (Or.inl rfl) | exact Or.inr (Or.inr rfl))) pa_nil rfl))) (pss_one (ps_asg (pe_op op_addA (pe_ix ix_A (pvx (i := 3) nn__law_scripts rfl (Or.inl rfl)) (pvx (i := 5) nn__law_at rfl (Or.inl rfl)) (fun _ _ => rfl)) (pe_lc (own := [("_law_k", 6)]) rfl sc_l_shared.nd (pi_range1 (by rfl) T.b_range (pa_cons (pe_cal c_l_draw (hr.mono (by omega)) (by rfl) (pa_cons (pvx (i := 0) nn__law_state_here rfl (Or.inl rfl)) (pa_cons pe_int pa_nil rfl) rfl)) pa_nil rfl)) (blkOk_by (own := [("_law_k", 6)]) (N := ["_law_state_here", "_law_env_here", "_law_envs", "_law_scripts", "_law_cell", "_law_at", "_law_k", "_law_c"]) (sc := defScope s_l_shared) (by decide +kernel)) (fun _ _ _ _ _ => (pg_name (i := 6) sc_l_shared.nd rfl (Or.inl rfl))) (fun _ _ _ _ _ => pts_nil) (fun _ _ _ _ _ => (pe_tup (pa_cons pe_str (pa_cons (pvx (i := 7) nn__law_c rfl (by first | exact Or.inl rfl | exact Or.inr (Or.inl rfl) | exact Or.inr (Or.inr rfl))) (pa_cons pe_str pa_nil rfl) rfl) rfl))))) (pg_sub (pvx (i := 3) nn__law_scripts rfl (Or.inl rfl)) (pvx (i := 5) nn__law_at rfl (Or.inl rfl)) set_A)))))) (pss_one (ps_for PassesOwn.never rfl (pi_list (pe_dget (hu_of hr) (pvx (i := 1) nn__law_env_here rfl (Or.inl rfl)) pe_str (fun _ _ => rfl))) (pg_name (i := 7) sc_l_shared.nd rfl (Or.inr rfl)) (pss_cons (ps_set (i := 5) sc_l_shared.nd rfl (Or.inl rfl) (pe_cal c_l_draw (hr.mono (by omega)) (by rfl) (pa_cons (pvx (i := 0) nn__law_state_here rfl (Or.inl rfl)) (pa_cons (pe_callB call_lenA (by rfl) T.b_len (by decide +kernel) (pa_cons (pvx (i := 2) nn__law_envs rfl (Or.inl rfl)) pa_nil rfl)) pa_nil rfl) rfl))) (pss_cons (ps_expr (pe_bml PySem.F.slot_list_append PySem.F.type_list_append mt_appA (pe_dget (hu_of hr) (pe_ix ix_A (pvx (i := 2) nn__law_envs rfl (Or.inl rfl)) (pvx (i := 5) nn__law_at rfl (Or.inl rfl)) (fun _ _ => rfl)) pe_str (fun _ _ => rfl)) (pa_cons (pvx (i := 7) nn__law_c rfl (by first | exact Or.inl rfl | exact Or.inr (Or.inl rfl) | exact Or.inr (Or.inr rfl))) pa_nil rfl))) (pss_one (ps_asg (pe_op op_addA (pe_ix ix_A (pvx (i := 3) nn__law_scripts rfl (Or.inl rfl)) (pvx (i := 5) nn__law_at rfl (Or.inl rfl)) (fun _ _ => rfl)) (pe_lc (own := [("_law_k", 6)]) rfl sc_l_shared.nd (pi_range1 (by rfl) T.b_range (pa_cons (pe_cal c_l_draw (hr.mono (by omega)) (by rfl) (pa_cons (pvx (i := 0) nn__law_state_here rfl (Or.inl rfl)) (pa_cons pe_int pa_nil rfl) rfl)) pa_nil rfl)) (blkOk_by (own := [("_law_k", 6)]) (N := ["_law_state_here", "_law_env_here", "_law_envs", "_law_scripts", "_law_cell", "_law_at", "_law_k", "_law_c"]) (sc := defScope s_l_shared) (by decide +kernel)) (fun _ _ _ _ _ => (pg_name (i := 6) sc_l_shared.nd rfl (Or.inl rfl))) (fun _ _ _ _ _ => pts_nil) (fun _ _ _ _ _ => (pe_tup (pa_cons pe_str (pa_cons (pvx (i := 7) nn__law_c rfl (by first | exact Or.inl rfl | exact Or.inr (Or.inl rfl) | exact Or.inr (Or.inr rfl))) (pa_cons pe_str pa_nil rfl) rfl) rfl))))) (pg_sub (pvx (i := 3) nn__law_scripts rfl (Or.inl rfl)) (pvx (i := 5) nn__law_at rfl (Or.inl rfl)) set_A)))))))))
abbrev s_l_faulty : Stmt := top 38
theorem sc_l_faulty : FnScope ["_law_state_here", "_law_script", "_law_at"] ["_law_state_here", "_law_script"] (defScope s_l_faulty) := ⟨rfl, rfl, rfl, by decide +kernel, rfl, by decide +kernel, by decide +kernel⟩
set_option maxHeartbeats 4000000 in
theorem ok_l_faulty {A : Ad} (T : Tx K mg A) (hw : A.w = w) {f : Addr} {fd : FuncData} (F : FunD K "_law_faulty" "_law_faulty" (defArgs s_l_faulty) (defBody s_l_faulty) (defScope s_l_faulty) [] [] f fd)
    (c_l_draw : Cal P w K mg base "_law_draw" (1) ["_law_state_here", "_law_many"] spDraw) : FnOk P w K mg base CX0 (2) f fd ["_law_state_here", "_law_script"] (sp_l_faulty A) := by
  obtain rfl := T.k
  obtain rfl := hw
  refine F.ok sc_l_faulty (fun vs H Q E h => len_l_faulty A h) (fun cdv Ar outer s H vs Q E hr h => ⟨t_l_faulty A, PSs.nox ?_, pure_l_faulty A vs H Q E h⟩)
  exact (pss_cons (ps_if (PW.pt (pw_and (pt_cmpR op_gt (pe_callB call_lenA (by rfl) T.b_len (by decide +kernel) (pa_cons (pvx (i := 1) nn__law_script rfl (Or.inl rfl)) pa_nil rfl)) pe_int (nomark _)) (pw_and1 (pt_cmpR (op_eqA hr.units) (pe_cal c_l_draw (hr.mono (by omega)) (by rfl) (pa_cons (pvx (i := 0) nn__law_state_here rfl (Or.inl rfl)) (pa_cons pe_int pa_nil rfl) rfl)) pe_int (nomark _))))) (pss_cons (ps_set (i := 2) sc_l_faulty.nd rfl (Or.inl rfl) (pe_cal c_l_draw (hr.mono (by omega)) (by rfl) (pa_cons (pvx (i := 0) nn__law_state_here rfl (Or.inl rfl)) (pa_cons (pe_op op_sub (pe_callB call_lenA (by rfl) T.b_len (by decide +kernel) (pa_cons (pvx (i := 1) nn__law_script rfl (Or.inl rfl)) pa_nil rfl)) pe_int) pa_nil rfl) rfl))) (pss_one (ps_ret (pe_op op_addA (pe_op op_addA (pe_slice sl_A (pvx (i := 1) nn__law_script rfl (Or.inl rfl)) po_none (po_some (pvx (i := 2) nn__law_at rfl (Or.inl rfl)))) (pe_lst (pa_cons (pe_ix ix_A (pvx (i := 1) nn__law_script rfl (Or.inl rfl)) (pe_op op_addA (pvx (i := 2) nn__law_at rfl (Or.inl rfl)) pe_int) (fun _ _ => rfl)) (pa_cons (pe_ix ix_A (pvx (i := 1) nn__law_script rfl (Or.inl rfl)) (pvx (i := 2) nn__law_at rfl (Or.inl rfl)) (fun _ _ => rfl)) pa_nil rfl) rfl))) (pe_slice sl_A (pvx (i := 1) nn__law_script rfl (Or.inl rfl)) (po_some (pe_op op_addA (pvx (i := 2) nn__law_at rfl (Or.inl rfl)) pe_int)) po_none))))) pss_nil) (pss_cons (ps_if (PW.pt (pw_and (pt_cmpR op_gt (pe_callB call_lenA (by rfl) T.b_len (by decide +kernel) (pa_cons (pvx (i := 1) nn__law_script rfl (Or.inl rfl)) pa_nil rfl)) pe_int (nomark _)) (pw_and1 (pt_cmpR (op_eqA hr.units) (pe_cal c_l_draw (hr.mono (by omega)) (by rfl) (pa_cons (pvx (i := 0) nn__law_state_here rfl (Or.inl rfl)) (pa_cons pe_int pa_nil rfl) rfl)) pe_int (nomark _))))) (pss_cons (ps_set (i := 2) sc_l_faulty.nd rfl (Or.inl rfl) (pe_cal c_l_draw (hr.mono (by omega)) (by rfl) (pa_cons (pvx (i := 0) nn__law_state_here rfl (Or.inl rfl)) (pa_cons (pe_callB call_lenA (by rfl) T.b_len (by decide +kernel) (pa_cons (pvx (i := 1) nn__law_script rfl (Or.inl rfl)) pa_nil rfl)) pa_nil rfl) rfl))) (pss_one (ps_ret (pe_op op_addA (pe_slice sl_A (pvx (i := 1) nn__law_script rfl (Or.inl rfl)) po_none (po_some (pvx (i := 2) nn__law_at rfl (Or.inl rfl)))) (pe_slice sl_A (pvx (i := 1) nn__law_script rfl (Or.inl rfl)) (po_some (pe_op op_addA (pvx (i := 2) nn__law_at rfl (Or.inl rfl)) pe_int)) po_none))))) pss_nil) (pss_one (ps_ret (pvx (i := 1) nn__law_script rfl (Or.inl rfl))))))
abbrev s_l_par : Stmt := top 39
theorem sc_l_par : FnScope ["_law_state_here", "_law_env_here", "_law_world", "_law_deep", "_law_many", "_law_envs", "_law_scripts", "_law_rows", "_law_k", "_law_thread", "_law_script", "_law_at"] ["_law_state_here", "_law_env_here", "_law_world", "_law_deep"] (defScope s_l_par) := ⟨rfl, rfl, rfl, by decide +kernel, rfl, by decide +kernel, by decide +kernel⟩
set_option maxHeartbeats 4000000 in
theorem ok_l_par {A : Ad} (T : Tx K mg A) (hw : A.w = w) (n : Nat) {f : Addr} {fd : FuncData} (F : FunD K "_law_par" "_law_par" (defArgs s_l_par) (defBody s_l_par) (defScope s_l_par) [] [] f fd)
    (c_l_draw : Cal P w K mg base "_law_draw" (1) ["_law_state_here", "_law_many"] spDraw)
    (c_l_env : Cal P w K mg base "_law_env" (2) ["_law_state_here", "_law_world"] (sp_l_env A))
    (c_l_meetings : Cal P w K mg base "_law_meetings" (3) ["_law_state_here", "_law_world", "_law_scripts", "_law_envs"] (sp_l_meetings A))
    (c_l_shared : Cal P w K mg base "_law_shared" (2) ["_law_state_here", "_law_env_here", "_law_envs", "_law_scripts"] (sp_l_shared A))
    (c_l_faulty : Cal P w K mg base "_law_faulty" (2) ["_law_state_here", "_law_script"] (sp_l_faulty A))
    (c_l_items : Cal P w K mg base "_law_items" (n + 10) ["_law_state_here", "_law_env_here", "_law_world", "_law_items_here"] (sp_itemsP A n))
    (c_l_simple : Cal P w K mg base "_law_simple" (9) ["_law_state_here", "_law_env_here"] (sp_l_simple A)) : FnOk P w K mg base CX0 (n + 11) f fd ["_law_state_here", "_law_env_here", "_law_world", "_law_deep"] (sp_l_par A n) := by
  obtain rfl := T.k
  obtain rfl := hw
  refine F.ok sc_l_par (fun vs H Q E h => len_l_par A h) (fun cdv Ar outer s H vs Q E hr h => ⟨t_l_par A n, PSs.nox ?_, pure_l_par A n vs H Q E h⟩)
  exact (pss_cons (ps_set (i := 4) sc_l_par.nd rfl (Or.inl rfl) (pe_callB (cr_min2 rfl) (by rfl) T.b_min (by decide +kernel) (pa_cons (pe_dget (hu_of hr) (pvx (i := 2) nn__law_world rfl (by first | exact Or.inl rfl | exact Or.inr (Or.inl rfl) | exact Or.inr (Or.inr rfl))) pe_str (fun _ _ => rfl)) (pa_cons (pe_op op_addA pe_int (pe_cal c_l_draw (hr.mono (by omega)) (by rfl) (pa_cons (pvx (i := 0) nn__law_state_here rfl (by first | exact Or.inl rfl | exact Or.inr (Or.inl rfl) | exact Or.inr (Or.inr rfl))) (pa_cons pe_int pa_nil rfl) rfl))) pa_nil rfl) rfl))) (pss_cons (ps_if (pt_cmpR op_lt (pvx (i := 4) nn__law_many rfl (Or.inl rfl)) pe_int (nomark _)) (pss_one (ps_ret (pe_tup (pa_cons pe_str pa_nil rfl)))) pss_nil) (pss_cons (ps_dput (hu_of hr) (pvx (i := 2) nn__law_world rfl (by first | exact Or.inl rfl | exact Or.inr (Or.inl rfl) | exact Or.inr (Or.inr rfl))) pe_str (pe_op op_sub (pe_dget (hu_of hr) (pvx (i := 2) nn__law_world rfl (by first | exact Or.inl rfl | exact Or.inr (Or.inl rfl) | exact Or.inr (Or.inr rfl))) pe_str (fun _ _ => rfl)) (pvx (i := 4) nn__law_many rfl (Or.inl rfl))) rfl) (pss_cons (ps_setLc (i := 5) (own := [("_law_k", 8)]) rfl sc_l_par.nd rfl rfl (sw_true rfl rfl rfl (by decide +kernel)) (pi_range1 (by rfl) T.b_range (pa_cons (pvx (i := 4) nn__law_many rfl (Or.inl rfl)) pa_nil rfl)) (blkOk_by (own := [("_law_k", 8)]) (N := ["_law_state_here", "_law_env_here", "_law_world", "_law_deep", "_law_many", "_law_envs", "_law_scripts", "_law_rows", "_law_k", "_law_thread", "_law_script", "_law_at"]) (sc := defScope s_l_par) (by decide +kernel)) (fun _ _ _ _ _ => (pg_name (i := 8) sc_l_par.nd rfl (Or.inl rfl))) (fun _ _ _ _ _ => pts_nil) (fun _ _ _ _ _ => (pe_cal c_l_env (hr.mono (by omega)) (by rfl) (pa_cons (pvx (i := 0) nn__law_state_here rfl (by first | exact Or.inl rfl | exact Or.inr (Or.inl rfl) | exact Or.inr (Or.inr rfl))) (pa_cons (pvx (i := 2) nn__law_world rfl (by first | exact Or.inl rfl | exact Or.inr (Or.inl rfl) | exact Or.inr (Or.inr rfl))) pa_nil rfl) rfl)))) (pss_cons (ps_setLc (i := 6) (own := [("_law_k", 8)]) rfl sc_l_par.nd rfl rfl (sw_true rfl rfl rfl (by decide +kernel)) (pi_range1 (by rfl) T.b_range (pa_cons (pvx (i := 4) nn__law_many rfl (Or.inl rfl)) pa_nil rfl)) (blkOk_by (own := [("_law_k", 8)]) (N := ["_law_state_here", "_law_env_here", "_law_world", "_law_deep", "_law_many", "_law_envs", "_law_scripts", "_law_rows", "_law_k", "_law_thread", "_law_script", "_law_at"]) (sc := defScope s_l_par) (by decide +kernel)) (fun _ _ _ _ _ => (pg_name (i := 8) sc_l_par.nd rfl (Or.inl rfl))) (fun _ _ _ _ _ => pts_nil) (fun _ _ _ _ _ => (pe_lst pa_nil))) (pss_cons (ps_expr (pe_cal c_l_meetings (hr.mono (by omega)) (by rfl) (pa_cons (pvx (i := 0) nn__law_state_here rfl (by first | exact Or.inl rfl | exact Or.inr (Or.inl rfl) | exact Or.inr (Or.inr rfl))) (pa_cons (pvx (i := 2) nn__law_world rfl (by first | exact Or.inl rfl | exact Or.inr (Or.inl rfl) | exact Or.inr (Or.inr rfl))) (pa_cons (pvx (i := 6) nn__law_scripts rfl (Or.inl rfl)) (pa_cons (pvx (i := 5) nn__law_envs rfl (Or.inl rfl)) pa_nil rfl) rfl) rfl) rfl))) (pss_cons (ps_expr (pe_cal c_l_shared (hr.mono (by omega)) (by rfl) (pa_cons (pvx (i := 0) nn__law_state_here rfl (by first | exact Or.inl rfl | exact Or.inr (Or.inl rfl) | exact Or.inr (Or.inr rfl))) (pa_cons (pvx (i := 1) nn__law_env_here rfl (Or.inl rfl)) (pa_cons (pvx (i := 5) nn__law_envs rfl (Or.inl rfl)) (pa_cons (pvx (i := 6) nn__law_scripts rfl (Or.inl rfl)) pa_nil rfl) rfl) rfl) rfl))) (pss_cons (ps_set (i := 7) sc_l_par.nd rfl (Or.inl rfl) (pe_lst pa_nil)) (pss_cons (ps_for PassesOwn.never rfl (pi_range1 (by rfl) T.b_range (pa_cons (pvx (i := 4) nn__law_many rfl (Or.inl rfl)) pa_nil rfl)) (pg_name (i := 8) sc_l_par.nd rfl (Or.inl rfl)) (pss_cons (ps_set (i := 9) sc_l_par.nd rfl (Or.inl rfl) (pe_dget (hu_of hr) (pvx (i := 2) nn__law_world rfl (by first | exact Or.inl rfl | exact Or.inr (Or.inl rfl) | exact Or.inr (Or.inr rfl))) pe_str (fun _ _ => rfl))) (pss_cons (ps_dput (hu_of hr) (pvx (i := 2) nn__law_world rfl (by first | exact Or.inl rfl | exact Or.inr (Or.inl rfl) | exact Or.inr (Or.inr rfl))) pe_str (pe_op op_addA (pvx (i := 9) nn__law_thread rfl (Or.inl rfl)) pe_int) rfl) (pss_cons (ps_set (i := 10) sc_l_par.nd rfl (Or.inl rfl) (pe_cal c_l_faulty (hr.mono (by omega)) (by rfl) (pa_cons (pvx (i := 0) nn__law_state_here rfl (by first | exact Or.inl rfl | exact Or.inr (Or.inl rfl) | exact Or.inr (Or.inr rfl))) (pa_cons (pe_ix ix_A (pvx (i := 6) nn__law_scripts rfl (Or.inl rfl)) (pvx (i := 8) nn__law_k rfl (Or.inl rfl)) (fun _ _ => rfl)) pa_nil rfl) rfl))) (pss_cons (ps_if (PW.pt (pw_and (pt_cmpR op_gt (pvx (i := 3) nn__law_deep rfl (Or.inl rfl)) pe_int (nomark _)) (pw_and1 (pt_cmpR (op_eqA hr.units) (pe_cal c_l_draw (hr.mono (by omega)) (by rfl) (pa_cons (pvx (i := 0) nn__law_state_here rfl (by first | exact Or.inl rfl | exact Or.inr (Or.inl rfl) | exact Or.inr (Or.inr rfl))) (pa_cons pe_int pa_nil rfl) rfl)) pe_int (nomark _))))) (pss_cons (ps_set (i := 11) sc_l_par.nd rfl (Or.inl rfl) (pe_cal c_l_draw (hr.mono (by omega)) (by rfl) (pa_cons (pvx (i := 0) nn__law_state_here rfl (by first | exact Or.inl rfl | exact Or.inr (Or.inl rfl) | exact Or.inr (Or.inr rfl))) (pa_cons (pe_op op_addA (pe_callB call_lenA (by rfl) T.b_len (by decide +kernel) (pa_cons (pvx (i := 10) nn__law_script rfl (Or.inl rfl)) pa_nil rfl)) pe_int) pa_nil rfl) rfl))) (pss_one (ps_set (i := 10) sc_l_par.nd rfl (Or.inl rfl) (pe_op op_addA (pe_op op_addA (pe_slice sl_A (pvx (i := 10) nn__law_script rfl (Or.inl rfl)) po_none (po_some (pvx (i := 11) nn__law_at rfl (Or.inl rfl)))) (pe_lst (pa_cons (pe_tup (pa_cons pe_str pa_nil rfl)) pa_nil rfl))) (pe_slice sl_A (pvx (i := 10) nn__law_script rfl (Or.inl rfl)) (po_some (pvx (i := 11) nn__law_at rfl (Or.inl rfl))) po_none))))) pss_nil) (pss_one (ps_expr (pe_bml PySem.F.slot_list_append PySem.F.type_list_append mt_appA (pvx (i := 7) nn__law_rows rfl (Or.inl rfl)) (pa_cons (pe_tup (pa_cons (pvx (i := 9) nn__law_thread rfl (Or.inl rfl)) (pa_cons (pe_tup (pa_cons pe_str (pa_cons (pe_op op_addA (pe_cal c_l_items (hr.mono (by omega)) (by rfl) (pa_cons (pvx (i := 0) nn__law_state_here rfl (by first | exact Or.inl rfl | exact Or.inr (Or.inl rfl) | exact Or.inr (Or.inr rfl))) (pa_cons (pe_ix ix_A (pvx (i := 5) nn__law_envs rfl (Or.inl rfl)) (pvx (i := 8) nn__law_k rfl (Or.inl rfl)) (fun _ _ => rfl)) (pa_cons (pvx (i := 2) nn__law_world rfl (by first | exact Or.inl rfl | exact Or.inr (Or.inl rfl) | exact Or.inr (Or.inr rfl))) (pa_cons (pvx (i := 10) nn__law_script rfl (Or.inl rfl)) pa_nil rfl) rfl) rfl) rfl)) (pe_lst (pa_cons (pe_cal c_l_simple (hr.mono (by omega)) (by rfl) (pa_cons (pvx (i := 0) nn__law_state_here rfl (by first | exact Or.inl rfl | exact Or.inr (Or.inl rfl) | exact Or.inr (Or.inr rfl))) (pa_cons (pe_ix ix_A (pvx (i := 5) nn__law_envs rfl (Or.inl rfl)) (pvx (i := 8) nn__law_k rfl (Or.inl rfl)) (fun _ _ => rfl)) pa_nil rfl) rfl)) pa_nil rfl))) pa_nil rfl) rfl)) pa_nil rfl) rfl)) pa_nil rfl))))))))) (pss_one (ps_ret (pe_tup (pa_cons pe_str (pa_cons (pvx (i := 7) nn__law_rows rfl (Or.inl rfl)) pa_nil rfl) rfl)))))))))))))
abbrev s_l_core : Stmt := top 40
theorem sc_l_core : FnScope ["_law_state_here", "_law_alts", "_law_ins", "_law_outs", "_law_channels", "_law_loops", "_law_world", "_law_env_here", "_law_body", "_law_k", "_law_c"] ["_law_state_here", "_law_alts"] (defScope s_l_core) := ⟨rfl, rfl, rfl, by decide +kernel, rfl, by decide +kernel, by decide +kernel⟩
set_option maxHeartbeats 4000000 in
theorem ok_l_core {A : Ad} (T : Tx K mg A) (hw : A.w = w) {f : Addr} {fd : FuncData} (F : FunD K "_law_core" "_law_core" (defArgs s_l_core) (defBody s_l_core) (defScope s_l_core) [] [] f fd)
    (c_l_draw : Cal P w K mg base "_law_draw" (1) ["_law_state_here", "_law_many"] spDraw)
    (c_l_env : Cal P w K mg base "_law_env" (2) ["_law_state_here", "_law_world"] (sp_l_env A))
    (c_l_set : Cal P w K mg base "_law_set" (8) ["_law_state_here", "_law_env_here"] (sp_l_set A))
    (c_l_par : Cal P w K mg base "_law_par" (22) ["_law_state_here", "_law_env_here", "_law_world", "_law_deep"] (sp_l_par A 11))
    (c_l_simple : Cal P w K mg base "_law_simple" (9) ["_law_state_here", "_law_env_here"] (sp_l_simple A))
    (c_l_expression : Cal P w K mg base "_law_expression" (7) ["_law_state_here", "_law_env_here", "_law_deep"] (sp_l_expression A 2)) : FnOk P w K mg base CX0 (23) f fd ["_law_state_here", "_law_alts"] (sp_l_core A) := by
  obtain rfl := T.k
  obtain rfl := hw
  refine F.ok sc_l_core (fun vs H Q E h => len_l_core A h) (fun cdv Ar outer s H vs Q E hr h => ⟨t_l_core A, PSs.nox ?_, pure_l_core A vs H Q E h⟩)
  exact (pss_cons (ps_set (i := 2) sc_l_core.nd rfl (Or.inr rfl) (pe_cal c_l_draw (hr.mono (by omega)) (by rfl) (pa_cons (pvx (i := 0) nn__law_state_here rfl (by first | exact Or.inl rfl | exact Or.inr (Or.inl rfl) | exact Or.inr (Or.inr rfl))) (pa_cons pe_int pa_nil rfl) rfl))) (pss_cons (ps_set (i := 3) sc_l_core.nd rfl (Or.inl rfl) (pe_cal c_l_draw (hr.mono (by omega)) (by rfl) (pa_cons (pvx (i := 0) nn__law_state_here rfl (by first | exact Or.inl rfl | exact Or.inr (Or.inl rfl) | exact Or.inr (Or.inr rfl))) (pa_cons pe_int pa_nil rfl) rfl))) (pss_cons (ps_set (i := 4) sc_l_core.nd rfl (Or.inl rfl) (pe_op op_addA (pe_lc (own := [("_law_k", 9)]) rfl sc_l_core.nd (pi_range1 (by rfl) T.b_range (pa_cons (pvx (i := 2) nn__law_ins rfl (by first | exact Or.inl rfl | exact Or.inr (Or.inl rfl) | exact Or.inr (Or.inr rfl))) pa_nil rfl)) (blkOk_by (own := [("_law_k", 9)]) (N := ["_law_state_here", "_law_alts", "_law_ins", "_law_outs", "_law_channels", "_law_loops", "_law_world", "_law_env_here", "_law_body", "_law_k", "_law_c"]) (sc := defScope s_l_core) (by decide +kernel)) (fun _ _ _ _ _ => (pg_name (i := 9) sc_l_core.nd rfl (Or.inl rfl))) (fun _ _ _ _ _ => pts_nil) (fun _ _ _ _ _ => pe_str)) (pe_lc (own := [("_law_k", 9)]) rfl sc_l_core.nd (pi_range1 (by rfl) T.b_range (pa_cons (pvx (i := 3) nn__law_outs rfl (Or.inl rfl)) pa_nil rfl)) (blkOk_by (own := [("_law_k", 9)]) (N := ["_law_state_here", "_law_alts", "_law_ins", "_law_outs", "_law_channels", "_law_loops", "_law_world", "_law_env_here", "_law_body", "_law_k", "_law_c"]) (sc := defScope s_l_core) (by decide +kernel)) (fun _ _ _ _ _ => (pg_name (i := 9) sc_l_core.nd rfl (Or.inl rfl))) (fun _ _ _ _ _ => pts_nil) (fun _ _ _ _ _ => pe_str)))) (pss_cons (ps_set (i := 5) sc_l_core.nd rfl (Or.inl rfl) (pe_cmpR (op_eqA hr.units) (pe_cal c_l_draw (hr.mono (by omega)) (by rfl) (pa_cons (pvx (i := 0) nn__law_state_here rfl (by first | exact Or.inl rfl | exact Or.inr (Or.inl rfl) | exact Or.inr (Or.inr rfl))) (pa_cons pe_int pa_nil rfl) rfl)) pe_int (nomark _))) (pss_cons (ps_set (i := 6) sc_l_core.nd rfl (Or.inl rfl) (pe_disp (pps_cons pe_str pe_int (pps_cons pe_str pe_int (pps_cons pe_str (pe_ifExp (pt_truth (pvx (i := 5) nn__law_loops rfl (Or.inl rfl)) (fun _ => rfl)) pe_int pe_int) (pps_cons pe_str pe_int (pps_cons pe_str (pvx (i := 4) nn__law_channels rfl (Or.inl rfl)) (pps_cons pe_str (pvx (i := 1) nn__law_alts rfl (Or.inl rfl)) (pps_cons pe_str (pvx (i := 5) nn__law_loops rfl (Or.inl rfl)) pps_nil))))))) (by rfl) (by rfl) (fun z => by cases z) (by decide))) (pss_cons (ps_set (i := 7) sc_l_core.nd rfl (Or.inr rfl) (pe_cal c_l_env (hr.mono (by omega)) (by rfl) (pa_cons (pvx (i := 0) nn__law_state_here rfl (by first | exact Or.inl rfl | exact Or.inr (Or.inl rfl) | exact Or.inr (Or.inr rfl))) (pa_cons (pvx (i := 6) nn__law_world rfl (Or.inl rfl)) pa_nil rfl) rfl))) (pss_cons (ps_dput (hu_of hr) (pvx (i := 7) nn__law_env_here rfl (by first | exact Or.inl rfl | exact Or.inr (Or.inl rfl) | exact Or.inr (Or.inr rfl))) pe_str (pe_lc (own := [("_law_c", 10)]) rfl sc_l_core.nd (pi_range1 (by rfl) T.b_range (pa_cons (pvx (i := 2) nn__law_ins rfl (by first | exact Or.inl rfl | exact Or.inr (Or.inl rfl) | exact Or.inr (Or.inr rfl))) pa_nil rfl)) (blkOk_by (own := [("_law_c", 10)]) (N := ["_law_state_here", "_law_alts", "_law_ins", "_law_outs", "_law_channels", "_law_loops", "_law_world", "_law_env_here", "_law_body", "_law_k", "_law_c"]) (sc := defScope s_l_core) (by decide +kernel)) (fun _ _ _ _ _ => (pg_name (i := 10) sc_l_core.nd rfl (Or.inl rfl))) (fun _ _ _ _ _ => pts_nil) (fun _ _ _ _ _ => (pvx (i := 10) nn__law_c rfl (by first | exact Or.inl rfl | exact Or.inr (Or.inl rfl) | exact Or.inr (Or.inr rfl))))) rfl) (pss_cons (ps_dput (hu_of hr) (pvx (i := 7) nn__law_env_here rfl (by first | exact Or.inl rfl | exact Or.inr (Or.inl rfl) | exact Or.inr (Or.inr rfl))) pe_str (pe_lc (own := [("_law_c", 10)]) rfl sc_l_core.nd (pi_range1 (by rfl) T.b_range (pa_cons (pvx (i := 3) nn__law_outs rfl (Or.inl rfl)) pa_nil rfl)) (blkOk_by (own := [("_law_c", 10)]) (N := ["_law_state_here", "_law_alts", "_law_ins", "_law_outs", "_law_channels", "_law_loops", "_law_world", "_law_env_here", "_law_body", "_law_k", "_law_c"]) (sc := defScope s_l_core) (by decide +kernel)) (fun _ _ _ _ _ => (pg_name (i := 10) sc_l_core.nd rfl (Or.inl rfl))) (fun _ _ _ _ _ => pts_nil) (fun _ _ _ _ _ => (pe_op op_addA (pvx (i := 2) nn__law_ins rfl (by first | exact Or.inl rfl | exact Or.inr (Or.inl rfl) | exact Or.inr (Or.inr rfl))) (pvx (i := 10) nn__law_c rfl (by first | exact Or.inl rfl | exact Or.inr (Or.inl rfl) | exact Or.inr (Or.inr rfl)))))) rfl) (pss_cons (ps_setLc (i := 8) (own := [("_law_k", 9)]) rfl sc_l_core.nd rfl rfl (sw_true rfl rfl rfl (by decide +kernel)) (pi_range1 (by rfl) T.b_range (pa_cons (pe_cal c_l_draw (hr.mono (by omega)) (by rfl) (pa_cons (pvx (i := 0) nn__law_state_here rfl (by first | exact Or.inl rfl | exact Or.inr (Or.inl rfl) | exact Or.inr (Or.inr rfl))) (pa_cons pe_int pa_nil rfl) rfl)) pa_nil rfl)) (blkOk_by (own := [("_law_k", 9)]) (N := ["_law_state_here", "_law_alts", "_law_ins", "_law_outs", "_law_channels", "_law_loops", "_law_world", "_law_env_here", "_law_body", "_law_k", "_law_c"]) (sc := defScope s_l_core) (by decide +kernel)) (fun _ _ _ _ _ => (pg_name (i := 9) sc_l_core.nd rfl (Or.inl rfl))) (fun _ _ _ _ _ => pts_nil) (fun _ _ _ _ _ => (pe_cal c_l_set (hr.mono (by omega)) (by rfl) (pa_cons (pvx (i := 0) nn__law_state_here rfl (by first | exact Or.inl rfl | exact Or.inr (Or.inl rfl) | exact Or.inr (Or.inr rfl))) (pa_cons (pvx (i := 7) nn__law_env_here rfl (by first | exact Or.inl rfl | exact Or.inr (Or.inl rfl) | exact Or.inr (Or.inr rfl))) pa_nil rfl) rfl)))) (pss_cons (ps_for PassesOwn.never rfl (pi_range1 (by rfl) T.b_range (pa_cons (pe_op op_addA pe_int (pe_cal c_l_draw (hr.mono (by omega)) (by rfl) (pa_cons (pvx (i := 0) nn__law_state_here rfl (by first | exact Or.inl rfl | exact Or.inr (Or.inl rfl) | exact Or.inr (Or.inr rfl))) (pa_cons pe_int pa_nil rfl) rfl))) pa_nil rfl)) (pg_name (i := 9) sc_l_core.nd rfl (Or.inl rfl)) (pss_cons (ps_expr (pe_bml PySem.F.slot_list_append PySem.F.type_list_append mt_appA (pvx (i := 8) nn__law_body rfl (Or.inl rfl)) (pa_cons (pe_cal c_l_par (hr.mono (by omega)) (by rfl) (pa_cons (pvx (i := 0) nn__law_state_here rfl (by first | exact Or.inl rfl | exact Or.inr (Or.inl rfl) | exact Or.inr (Or.inr rfl))) (pa_cons (pvx (i := 7) nn__law_env_here rfl (by first | exact Or.inl rfl | exact Or.inr (Or.inl rfl) | exact Or.inr (Or.inr rfl))) (pa_cons (pvx (i := 6) nn__law_world rfl (Or.inl rfl)) (pa_cons pe_int pa_nil rfl) rfl) rfl) rfl)) pa_nil rfl))) (pss_one (ps_expr (pe_bml PySem.F.slot_list_append PySem.F.type_list_append mt_appA (pvx (i := 8) nn__law_body rfl (Or.inl rfl)) (pa_cons (pe_cal c_l_simple (hr.mono (by omega)) (by rfl) (pa_cons (pvx (i := 0) nn__law_state_here rfl (by first | exact Or.inl rfl | exact Or.inr (Or.inl rfl) | exact Or.inr (Or.inr rfl))) (pa_cons (pvx (i := 7) nn__law_env_here rfl (by first | exact Or.inl rfl | exact Or.inr (Or.inl rfl) | exact Or.inr (Or.inr rfl))) pa_nil rfl) rfl)) pa_nil rfl)))))) (pss_cons (ps_for PassesOwn.never rfl (pi_list (pe_dget (hu_of hr) (pvx (i := 7) nn__law_env_here rfl (by first | exact Or.inl rfl | exact Or.inr (Or.inl rfl) | exact Or.inr (Or.inr rfl))) pe_str (fun _ _ => rfl))) (pg_name (i := 10) sc_l_core.nd rfl (Or.inl rfl)) (pss_one (ps_if (pt_cmpR (op_eqA hr.units) (pe_cal c_l_draw (hr.mono (by omega)) (by rfl) (pa_cons (pvx (i := 0) nn__law_state_here rfl (by first | exact Or.inl rfl | exact Or.inr (Or.inl rfl) | exact Or.inr (Or.inr rfl))) (pa_cons pe_int pa_nil rfl) rfl)) pe_int (nomark _)) (pss_one (ps_expr (pe_bml PySem.F.slot_list_append PySem.F.type_list_append mt_appA (pvx (i := 8) nn__law_body rfl (Or.inl rfl)) (pa_cons (pe_tup (pa_cons pe_str (pa_cons (pvx (i := 10) nn__law_c rfl (Or.inl rfl)) (pa_cons (pe_cal c_l_expression (hr.mono (by omega)) (by rfl) (pa_cons (pvx (i := 0) nn__law_state_here rfl (by first | exact Or.inl rfl | exact Or.inr (Or.inl rfl) | exact Or.inr (Or.inr rfl))) (pa_cons (pvx (i := 7) nn__law_env_here rfl (by first | exact Or.inl rfl | exact Or.inr (Or.inl rfl) | exact Or.inr (Or.inr rfl))) (pa_cons pe_int pa_nil rfl) rfl) rfl)) pa_nil rfl) rfl) rfl)) pa_nil rfl)))) pss_nil))) (pss_one (ps_ret (pe_tup (pa_cons pe_str (pa_cons (pe_dget (hu_of hr) (pvx (i := 6) nn__law_world rfl (Or.inl rfl)) pe_str (fun _ _ => rfl)) (pa_cons (pe_dget (hu_of hr) (pvx (i := 6) nn__law_world rfl (Or.inl rfl)) pe_str (fun _ _ => rfl)) (pa_cons (pe_tup (pa_cons pe_str (pa_cons (pvx (i := 8) nn__law_body rfl (Or.inl rfl)) pa_nil rfl) rfl)) pa_nil rfl) rfl) rfl) rfl)))))))))))))))
abbrev s_l_threads : Stmt := top 43
theorem sc_l_threads : FnScope ["_law_s", "_law_kind", "_law_found", "_law_number_here", "_law_part", "_law_row"] ["_law_s"] (defScope s_l_threads) := ⟨rfl, rfl, rfl, by decide +kernel, rfl, by decide +kernel, by decide +kernel⟩
set_option maxHeartbeats 4000000 in
theorem ok_l_threads {A : Ad} (T : Tx K mg A) (hw : A.w = w) (n : Nat) {f : Addr} {fd : FuncData} (F : FunD K "_law_threads" "_law_threads" (defArgs s_l_threads) (defBody s_l_threads) (defScope s_l_threads) [] [] f fd)
    (c_l_threads : Cal P w K mg base "_law_threads" (n + 1) ["_law_s"] (sp_lthP A n)) : FnOk P w K mg base CX0 (n + 2) f fd ["_law_s"] (sp_l_threads A n) := by
  obtain rfl := T.k
  obtain rfl := hw
  refine F.ok sc_l_threads (fun vs H Q E h => len_l_threads A h) (fun cdv Ar outer s H vs Q E hr h => ⟨t_l_threads A n, PSs.nox ?_, pure_l_threads A n vs H Q E h⟩)
  exact (pss_cons (ps_set (i := 1) sc_l_threads.nd rfl (Or.inl rfl) (pe_ix ix_A (pvx (i := 0) nn__law_s rfl (Or.inl rfl)) pe_int (fun _ _ => rfl))) (pss_cons (ps_set (i := 2) sc_l_threads.nd rfl (Or.inl rfl) (pe_lst pa_nil)) (pss_cons (ps_if (pt_cmpR (op_eqA hr.units) (pvx (i := 1) nn__law_kind rfl (Or.inl rfl)) pe_str (nomark _)) (pss_one (ps_for PassesOwn.never rfl (pi_list (pe_ix ix_A (pvx (i := 0) nn__law_s rfl (Or.inl rfl)) pe_int (fun _ _ => rfl))) (pg_tup rfl (pgs_cons (pg_name (i := 3) sc_l_threads.nd rfl (Or.inl rfl)) (pgs_cons (pg_name (i := 4) sc_l_threads.nd rfl (Or.inl rfl)) pgs_nil))) (pss_one (ps_set (i := 2) sc_l_threads.nd rfl (Or.inl rfl) (pe_op op_addA (pe_op op_addA (pvx (i := 2) nn__law_found rfl (Or.inl rfl)) (pe_lst (pa_cons (pvx (i := 3) nn__law_number_here rfl (Or.inl rfl)) pa_nil rfl))) (pe_cal c_l_threads (hr.mono (by omega)) (by rfl) (pa_cons (pvx (i := 4) nn__law_part rfl (Or.inl rfl)) pa_nil rfl))))))) (pss_one (ps_if (pt_cmpR (op_eqA hr.units) (pvx (i := 1) nn__law_kind rfl (Or.inl rfl)) pe_str (nomark _)) (pss_one (ps_for PassesOwn.never rfl (pi_list (pe_ix ix_A (pvx (i := 0) nn__law_s rfl (Or.inl rfl)) pe_int (fun _ _ => rfl))) (pg_name (i := 4) sc_l_threads.nd rfl (Or.inl rfl)) (pss_one (ps_set (i := 2) sc_l_threads.nd rfl (Or.inl rfl) (pe_op op_addA (pvx (i := 2) nn__law_found rfl (Or.inl rfl)) (pe_cal c_l_threads (hr.mono (by omega)) (by rfl) (pa_cons (pvx (i := 4) nn__law_part rfl (Or.inl rfl)) pa_nil rfl))))))) (pss_one (ps_if (pt_cmpR (op_eqA hr.units) (pvx (i := 1) nn__law_kind rfl (Or.inl rfl)) pe_str (nomark _)) (pss_one (ps_for PassesOwn.never rfl (pi_list (pe_ix ix_A (pvx (i := 0) nn__law_s rfl (Or.inl rfl)) pe_int (fun _ _ => rfl))) (pg_name (i := 5) sc_l_threads.nd rfl (Or.inl rfl)) (pss_one (ps_set (i := 2) sc_l_threads.nd rfl (Or.inl rfl) (pe_op op_addA (pvx (i := 2) nn__law_found rfl (Or.inl rfl)) (pe_cal c_l_threads (hr.mono (by omega)) (by rfl) (pa_cons (pe_ix ix_A (pvx (i := 5) nn__law_row rfl (Or.inl rfl)) pe_int (fun _ _ => rfl)) pa_nil rfl))))))) (pss_one (ps_if (pt_cmpR (op_eqA hr.units) (pvx (i := 1) nn__law_kind rfl (Or.inl rfl)) pe_str (nomark _)) (pss_one (ps_set (i := 2) sc_l_threads.nd rfl (Or.inl rfl) (pe_op op_addA (pe_cal c_l_threads (hr.mono (by omega)) (by rfl) (pa_cons (pe_ix ix_A (pvx (i := 0) nn__law_s rfl (Or.inl rfl)) pe_int (fun _ _ => rfl)) pa_nil rfl)) (pe_cal c_l_threads (hr.mono (by omega)) (by rfl) (pa_cons (pe_ix ix_A (pvx (i := 0) nn__law_s rfl (Or.inl rfl)) pe_int (fun _ _ => rfl)) pa_nil rfl))))) (pss_one (ps_if (pt_cmpR (op_eqA hr.units) (pvx (i := 1) nn__law_kind rfl (Or.inl rfl)) pe_str (nomark _)) (pss_one (ps_set (i := 2) sc_l_threads.nd rfl (Or.inl rfl) (pe_cal c_l_threads (hr.mono (by omega)) (by rfl) (pa_cons (pe_ix ix_A (pvx (i := 0) nn__law_s rfl (Or.inl rfl)) pe_int (fun _ _ => rfl)) pa_nil rfl)))) pss_nil))))))))) (pss_one (ps_ret (pvx (i := 2) nn__law_found rfl (Or.inl rfl)))))))
abbrev s_l_network : Stmt := top 44
theorem sc_l_network : FnScope ["_law_state_here", "_law_many", "_law_links", "_law_k", "_law_a", "_law_b"] ["_law_state_here"] (defScope s_l_network) := ⟨rfl, rfl, rfl, by decide +kernel, rfl, by decide +kernel, by decide +kernel⟩
set_option maxHeartbeats 4000000 in
theorem ok_l_network {A : Ad} (T : Tx K mg A) (hw : A.w = w) {f : Addr} {fd : FuncData} (F : FunD K "_law_network" "_law_network" (defArgs s_l_network) (defBody s_l_network) (defScope s_l_network) [] [] f fd)
    (c_l_pick : Cal P w K mg base "_law_pick" (2) ["_law_state_here", "_law_row"] spPick)
    (c_l_draw : Cal P w K mg base "_law_draw" (1) ["_law_state_here", "_law_many"] spDraw) : FnOk P w K mg base CX0 (3) f fd ["_law_state_here"] (sp_l_network A) := by
  obtain rfl := T.k
  obtain rfl := hw
  refine F.ok sc_l_network (fun vs H Q E h => len_l_network A h) (fun cdv Ar outer s H vs Q E hr h => ⟨t_l_network A, PSs.nox ?_, pure_l_network A vs H Q E h⟩)
  exact (pss_cons (ps_set (i := 1) sc_l_network.nd rfl (Or.inl rfl) (pe_cal c_l_pick (hr.mono (by omega)) (by rfl) (pa_cons (pvx (i := 0) nn__law_state_here rfl (by first | exact Or.inl rfl | exact Or.inr (Or.inl rfl) | exact Or.inr (Or.inr rfl))) (pa_cons (pe_lst (pa_cons pe_int (pa_cons pe_int (pa_cons pe_int (pa_cons pe_int (pa_cons pe_int (pa_cons pe_int pa_nil rfl) rfl) rfl) rfl) rfl) rfl)) pa_nil rfl) rfl))) (pss_cons (ps_setLc (i := 2) (own := [("_law_k", 3)]) rfl sc_l_network.nd rfl rfl (sw_true rfl rfl rfl (by decide +kernel)) (pi_range2 (by rfl) T.b_range (pa_cons pe_int (pa_cons (pvx (i := 1) nn__law_many rfl (Or.inl rfl)) pa_nil rfl) rfl)) (blkOk_by (own := [("_law_k", 3)]) (N := ["_law_state_here", "_law_many", "_law_links", "_law_k", "_law_a", "_law_b"]) (sc := defScope s_l_network) (by decide +kernel)) (fun _ _ _ _ _ => (pg_name (i := 3) sc_l_network.nd rfl (Or.inl rfl))) (fun _ _ _ _ _ => pts_nil) (fun _ _ _ _ _ => (pe_tup (pa_cons (pe_cal c_l_draw (hr.mono (by omega)) (by rfl) (pa_cons (pvx (i := 0) nn__law_state_here rfl (by first | exact Or.inl rfl | exact Or.inr (Or.inl rfl) | exact Or.inr (Or.inr rfl))) (pa_cons (pvx (i := 3) nn__law_k rfl (by first | exact Or.inl rfl | exact Or.inr (Or.inl rfl) | exact Or.inr (Or.inr rfl))) pa_nil rfl) rfl)) (pa_cons (pvx (i := 3) nn__law_k rfl (by first | exact Or.inl rfl | exact Or.inr (Or.inl rfl) | exact Or.inr (Or.inr rfl))) pa_nil rfl) rfl)))) (pss_cons (ps_for PassesOwn.never rfl (pi_range1 (by rfl) T.b_range (pa_cons (pe_cal c_l_draw (hr.mono (by omega)) (by rfl) (pa_cons (pvx (i := 0) nn__law_state_here rfl (by first | exact Or.inl rfl | exact Or.inr (Or.inl rfl) | exact Or.inr (Or.inr rfl))) (pa_cons pe_int pa_nil rfl) rfl)) pa_nil rfl)) (pg_name (i := 3) sc_l_network.nd rfl (Or.inl rfl)) (pss_cons (ps_set (i := 4) sc_l_network.nd rfl (Or.inl rfl) (pe_cal c_l_draw (hr.mono (by omega)) (by rfl) (pa_cons (pvx (i := 0) nn__law_state_here rfl (by first | exact Or.inl rfl | exact Or.inr (Or.inl rfl) | exact Or.inr (Or.inr rfl))) (pa_cons (pvx (i := 1) nn__law_many rfl (Or.inl rfl)) pa_nil rfl) rfl))) (pss_cons (ps_set (i := 5) sc_l_network.nd rfl (Or.inl rfl) (pe_cal c_l_draw (hr.mono (by omega)) (by rfl) (pa_cons (pvx (i := 0) nn__law_state_here rfl (by first | exact Or.inl rfl | exact Or.inr (Or.inl rfl) | exact Or.inr (Or.inr rfl))) (pa_cons (pvx (i := 1) nn__law_many rfl (Or.inl rfl)) pa_nil rfl) rfl))) (pss_one (ps_if (PW.pt (pw_and (pt_cmpR op_lt (pvx (i := 4) nn__law_a rfl (Or.inl rfl)) (pvx (i := 5) nn__law_b rfl (Or.inl rfl)) (nomark _)) (pw_and1 (pt_cmpR (op_notInD (units65 hr)) (pe_tup (pa_cons (pvx (i := 4) nn__law_a rfl (Or.inl rfl)) (pa_cons (pvx (i := 5) nn__law_b rfl (Or.inl rfl)) pa_nil rfl) rfl)) (pvx (i := 2) nn__law_links rfl (Or.inl rfl)) (by rfl))))) (pss_one (ps_set (i := 2) sc_l_network.nd rfl (Or.inl rfl) (pe_op op_addA (pe_lst (pa_cons (pe_tup (pa_cons (pvx (i := 4) nn__law_a rfl (Or.inl rfl)) (pa_cons (pvx (i := 5) nn__law_b rfl (Or.inl rfl)) pa_nil rfl) rfl)) pa_nil rfl)) (pvx (i := 2) nn__law_links rfl (Or.inl rfl))))) pss_nil))))) (pss_one (ps_ret (pe_tup (pa_cons (pvx (i := 1) nn__law_many rfl (Or.inl rfl)) (pa_cons (pvx (i := 2) nn__law_links rfl (Or.inl rfl)) pa_nil rfl) rfl)))))))
abbrev s_l_told : Stmt := top 45
theorem sc_l_told : FnScope ["_law_core_here", "_law_network_here", "_law_places", "_law_homes", "e"] ["_law_core_here", "_law_network_here", "_law_places", "_law_homes"] (defScope s_l_told) := ⟨rfl, rfl, rfl, by decide +kernel, rfl, by decide +kernel, by decide +kernel⟩
set_option maxHeartbeats 4000000 in
theorem ok_l_told {A : Ad} (T : Tx K mg A) (hw : A.w = w) {f : Addr} {fd : FuncData} (F : FunD K "_law_told" "_law_told" (defArgs s_l_told) (defBody s_l_told) (defScope s_l_told) [] [] f fd)
    (c_PlanError : CalE P w K mg base "PlanError" A.c_PlanError A.c_PlacedError A.i_PlanError "reason" 1 ["self", "reason"])
    (c_make_plan : CalX P w K mg base "make_plan" (66) ["core", "network", "places", "homes"] (sp_make_plan A)) : FnOk P w K mg base CX0 (67) f fd ["_law_core_here", "_law_network_here", "_law_places", "_law_homes"] (sp_l_told A) := by
  obtain rfl := T.k
  obtain rfl := hw
  refine F.ok sc_l_told (fun vs H Q E h => len_l_told A h) (fun cdv Ar outer s H vs Q E hr h => ⟨t_l_told A, PSs.nox ?_, pure_l_told A vs H Q E h⟩)
  exact (pss_cons (ps_try_as (i := 4) (tb := fun W => (tDrop (tCallS (sp_make_plan A) (WE W) (tCons (tVar 0) (tCons (tVar 1) (tCons (tVar 2) (tCons (tVar 3) tNil))))))) (ts := fun a cls d => (tRet (tIf (tB (tCB (rIsX A.K a cls d A.c_PlanError A.c_PlacedError A.i_PlanError "reason") (tCons (tVar 4) (tCons (tC (.ref A.c_PlacedError)) tNil)))) (tXf a cls d A.c_PlanError "reason" (tVar 4)) (tC (.str "other"))))) rfl rfl sc_l_told.nd rfl rfl (by exact ⟨by rfl, by decide, .inl c_PlanError.gm⟩) takes0 (fun W pn xe tk _ => (pss_one (ps_expr (pe_calX c_make_plan (hr.mono (by omega)) (by rfl) tk (pa_cons (pvx (i := 0) nn__law_core_here rfl (Or.inl rfl)) (pa_cons (pvx (i := 1) nn__law_network_here rfl (Or.inl rfl)) (pa_cons (pvx (i := 2) nn__law_places rfl (Or.inl rfl)) (pa_cons (pvx (i := 3) nn__law_homes rfl (Or.inl rfl)) pa_nil rfl) rfl) rfl) rfl))))) (fun a oe cls d pn hz hf => (pss_one (ps_ret (pe_ifExp (pt_val (pe_callB (call_isX hz hf) (by rfl) T.b_isinstance (by decide +kernel) (pa_cons (pvx (i := 4) nn_e rfl (Or.inl rfl)) (pa_cons (pe_gv T.g_PlacedError (by rfl)) pa_nil rfl) rfl))) (pe_xf c_PlanError.ec.xf c_PlanError.ec.no hz hf (pvx (i := 4) nn_e rfl (Or.inl rfl))) pe_str))))) (pss_one (ps_ret pe_str)))
abbrev s_law : Stmt := top 46
theorem sc_law : FnScope ["_law_script", "_law_state_here", "_law_core_here", "_law_many", "_law_links", "_law_threads_here", "_law_places", "_law_homes", "_law_plan", "_law_network_here", "_law_due", "_law_turn", "_law_at", "_law_outer", "_law_row", "_law_k", "_law_kind", "_law_c"] ["_law_script"] (defScope s_law) := ⟨rfl, rfl, rfl, by decide +kernel, rfl, by decide +kernel, by decide +kernel⟩
set_option maxHeartbeats 4000000 in
theorem ok_law {A : Ad} (T : Tx K mg A) (hw : A.w = w) {f : Addr} {fd : FuncData} (F : FunD K "law" "law" (defArgs s_law) (defBody s_law) (defScope s_law) [] [] f fd)
    (c_l_state : Cal P w K mg base "_law_state" (1) ["_law_script"] (spState A.K))
    (c_l_core : Cal P w K mg base "_law_core" (23) ["_law_state_here", "_law_alts"] (sp_l_core A))
    (c_l_draw : Cal P w K mg base "_law_draw" (1) ["_law_state_here", "_law_many"] spDraw)
    (c_l_network : Cal P w K mg base "_law_network" (3) ["_law_state_here"] (sp_l_network A))
    (c_l_threads : Cal P w K mg base "_law_threads" (62) ["_law_s"] (sp_l_threads A 60))
    (c_make_plan : Cal P w K mg base "make_plan" (66) ["core", "network", "places", "homes"] (quietS (sp_make_plan A)))
    (c_next_hops : Cal P w K mg base "next_hops" (3) ["processors", "links"] (sp_next_hops A))
    (c_l_pick : Cal P w K mg base "_law_pick" (2) ["_law_state_here", "_law_row"] spPick)
    (c_l_told : Cal P w K mg base "_law_told" (67) ["_law_core_here", "_law_network_here", "_law_places", "_law_homes"] (sp_l_told A))
    (c_spread : Cal P w K mg base "spread" (1) ["many", "processors"] (sp_spread A)) : FnG P w K mg base (80) f fd ["_law_script"] (sp_law A) := by
  obtain rfl := T.k
  obtain rfl := hw
  refine okG F sc_law (fun vs H Q E h => len_law A h) (fun cdv Ar outer s H vs Q E hg hr h => ⟨t_law A, PSs.nox ?_, pure_law A vs H Q E h⟩)
  exact (pss_cons (ps_set (i := 1) sc_law.nd rfl (Or.inr rfl) (pe_cal c_l_state (hr.mono (by omega)) (by rfl) (pa_cons (pvx (i := 0) nn__law_script rfl (Or.inl rfl)) pa_nil rfl))) (pss_cons (ps_set (i := 2) sc_law.nd rfl (Or.inr rfl) (pe_cal c_l_core (hr.mono (by omega)) (by rfl) (pa_cons (pvx (i := 1) nn__law_state_here rfl (by first | exact Or.inl rfl | exact Or.inr (Or.inl rfl) | exact Or.inr (Or.inr rfl))) (pa_cons (pe_cmpR (op_eqA hr.units) (pe_cal c_l_draw (hr.mono (by omega)) (by rfl) (pa_cons (pvx (i := 1) nn__law_state_here rfl (by first | exact Or.inl rfl | exact Or.inr (Or.inl rfl) | exact Or.inr (Or.inr rfl))) (pa_cons pe_int pa_nil rfl) rfl)) pe_int (nomark _)) pa_nil rfl) rfl))) (pss_cons (ps_asg (pe_cal c_l_network (hr.mono (by omega)) (by rfl) (pa_cons (pvx (i := 1) nn__law_state_here rfl (by first | exact Or.inl rfl | exact Or.inr (Or.inl rfl) | exact Or.inr (Or.inr rfl))) pa_nil rfl)) (pg_tup rfl (pgs_cons (pg_name (i := 3) sc_law.nd rfl (Or.inr rfl)) (pgs_cons (pg_name (i := 4) sc_law.nd rfl (Or.inl rfl)) pgs_nil)))) (pss_cons (ps_set (i := 5) sc_law.nd rfl (Or.inl rfl) (pe_op op_addA pe_int (pe_callB call_lenA (by rfl) T.b_len (by decide +kernel) (pa_cons (pe_cal c_l_threads (hr.mono (by omega)) (by rfl) (pa_cons (pe_ix ix_A (pvx (i := 2) nn__law_core_here rfl (by first | exact Or.inl rfl | exact Or.inr (Or.inl rfl) | exact Or.inr (Or.inr rfl))) pe_int (fun _ _ => rfl)) pa_nil rfl)) pa_nil rfl)))) (pss_cons (ps_setLc (i := 6) (own := [("_law_k", 15)]) rfl sc_law.nd rfl rfl (sw_true rfl rfl rfl (by decide +kernel)) (pi_range1 (by rfl) T.b_range (pa_cons (pvx (i := 5) nn__law_threads_here rfl (Or.inl rfl)) pa_nil rfl)) (blkOk_by (own := [("_law_k", 15)]) (N := ["_law_script", "_law_state_here", "_law_core_here", "_law_many", "_law_links", "_law_threads_here", "_law_places", "_law_homes", "_law_plan", "_law_network_here", "_law_due", "_law_turn", "_law_at", "_law_outer", "_law_row", "_law_k", "_law_kind", "_law_c"]) (sc := defScope s_law) (by decide +kernel)) (fun _ _ _ _ _ => (pg_name (i := 15) sc_law.nd rfl (Or.inl rfl))) (fun _ _ _ _ _ => pts_nil) (fun _ _ _ _ _ => (pe_cal c_l_draw (hr.mono (by omega)) (by rfl) (pa_cons (pvx (i := 1) nn__law_state_here rfl (by first | exact Or.inl rfl | exact Or.inr (Or.inl rfl) | exact Or.inr (Or.inr rfl))) (pa_cons (pvx (i := 3) nn__law_many rfl (by first | exact Or.inl rfl | exact Or.inr (Or.inl rfl) | exact Or.inr (Or.inr rfl))) pa_nil rfl) rfl)))) (pss_cons (ps_setLc (i := 7) (own := [("_law_kind", 16)]) rfl sc_law.nd rfl rfl (sw_true rfl rfl rfl (by decide +kernel)) (pi_list (pe_ix ix_A (pvx (i := 2) nn__law_core_here rfl (by first | exact Or.inl rfl | exact Or.inr (Or.inl rfl) | exact Or.inr (Or.inr rfl))) pe_int (fun _ _ => rfl))) (blkOk_by (own := [("_law_kind", 16)]) (N := ["_law_script", "_law_state_here", "_law_core_here", "_law_many", "_law_links", "_law_threads_here", "_law_places", "_law_homes", "_law_plan", "_law_network_here", "_law_due", "_law_turn", "_law_at", "_law_outer", "_law_row", "_law_k", "_law_kind", "_law_c"]) (sc := defScope s_law) (by decide +kernel)) (fun _ _ _ _ _ => (pg_name (i := 16) sc_law.nd rfl (Or.inl rfl))) (fun _ _ _ _ _ => pts_nil) (fun _ _ _ _ _ => (pe_ifExp (pt_cmpR (op_eqA hr.units) (pvx (i := 16) nn__law_kind rfl (by first | exact Or.inl rfl | exact Or.inr (Or.inl rfl) | exact Or.inr (Or.inr rfl))) pe_str (nomark _)) (pe_cal c_l_draw (hr.mono (by omega)) (by rfl) (pa_cons (pvx (i := 1) nn__law_state_here rfl (by first | exact Or.inl rfl | exact Or.inr (Or.inl rfl) | exact Or.inr (Or.inr rfl))) (pa_cons (pvx (i := 3) nn__law_many rfl (by first | exact Or.inl rfl | exact Or.inr (Or.inl rfl) | exact Or.inr (Or.inr rfl))) pa_nil rfl) rfl)) pe_int))) (pss_cons (ps_set (i := 8) sc_law.nd rfl (Or.inl rfl) (pe_cal c_make_plan (hr.mono (by omega)) (by rfl) (pa_cons (pvx (i := 2) nn__law_core_here rfl (by first | exact Or.inl rfl | exact Or.inr (Or.inl rfl) | exact Or.inr (Or.inr rfl))) (pa_cons (pe_tup (pa_cons (pvx (i := 3) nn__law_many rfl (by first | exact Or.inl rfl | exact Or.inr (Or.inl rfl) | exact Or.inr (Or.inr rfl))) (pa_cons (pvx (i := 4) nn__law_links rfl (Or.inl rfl)) pa_nil rfl) rfl)) (pa_cons (pe_callTy call_listA (by rfl) T.b_list (by decide +kernel) (pa_cons (pvx (i := 6) nn__law_places rfl (Or.inl rfl)) pa_nil rfl)) (pa_cons (pe_callTy call_listA (by rfl) T.b_list (by decide +kernel) (pa_cons (pvx (i := 7) nn__law_homes rfl (Or.inl rfl)) pa_nil rfl)) pa_nil rfl) rfl) rfl) rfl))) (pss_cons (ps_if (PW.pt (pw_or (pt_cmpR (op_neA hr.units) (pe_fld (pvx (i := 8) nn__law_plan rfl (Or.inl rfl)) rfl) (pvx (i := 3) nn__law_many rfl (by first | exact Or.inl rfl | exact Or.inr (Or.inl rfl) | exact Or.inr (Or.inr rfl))) (nomark _)) (pw_or (pt_cmpR (op_neA hr.units) (pe_fld (pvx (i := 8) nn__law_plan rfl (Or.inl rfl)) rfl) (pvx (i := 4) nn__law_links rfl (Or.inl rfl)) (nomark _)) (pw_or (pt_cmpR (op_neA hr.units) (pe_fld (pvx (i := 8) nn__law_plan rfl (Or.inl rfl)) rfl) (pvx (i := 6) nn__law_places rfl (Or.inl rfl)) (nomark _)) (pw_or1 (pt_cmpR (op_neA hr.units) (pe_fld (pvx (i := 8) nn__law_plan rfl (Or.inl rfl)) rfl) (pvx (i := 7) nn__law_homes rfl (Or.inl rfl)) (nomark _))))))) (pss_one (ps_ret pe_bl)) pss_nil) (pss_cons (ps_if (pt_cmpR (op_neA hr.units) (pe_fld (pvx (i := 8) nn__law_plan rfl (Or.inl rfl)) rfl) (pe_cal c_next_hops (hr.mono (by omega)) (by rfl) (pa_cons (pvx (i := 3) nn__law_many rfl (by first | exact Or.inl rfl | exact Or.inr (Or.inl rfl) | exact Or.inr (Or.inr rfl))) (pa_cons (pvx (i := 4) nn__law_links rfl (Or.inl rfl)) pa_nil rfl) rfl)) (nomark _)) (pss_one (ps_ret pe_bl)) pss_nil) (pss_cons (ps_set (i := 9) sc_law.nd rfl (Or.inl rfl) (pe_tup (pa_cons (pvx (i := 3) nn__law_many rfl (by first | exact Or.inl rfl | exact Or.inr (Or.inl rfl) | exact Or.inr (Or.inr rfl))) (pa_cons (pvx (i := 4) nn__law_links rfl (Or.inl rfl)) pa_nil rfl) rfl))) (pss_cons (ps_set (i := 10) sc_law.nd rfl (Or.inl rfl) pe_str) (pss_cons (ps_set (i := 11) sc_law.nd rfl (Or.inl rfl) (pe_cal c_l_draw (hr.mono (by omega)) (by rfl) (pa_cons (pvx (i := 1) nn__law_state_here rfl (by first | exact Or.inl rfl | exact Or.inr (Or.inl rfl) | exact Or.inr (Or.inr rfl))) (pa_cons pe_int pa_nil rfl) rfl))) (pss_cons (ps_set (i := 12) sc_law.nd rfl (Or.inl rfl) (pe_cal c_l_draw (hr.mono (by omega)) (by rfl) (pa_cons (pvx (i := 1) nn__law_state_here rfl (by first | exact Or.inl rfl | exact Or.inr (Or.inl rfl) | exact Or.inr (Or.inr rfl))) (pa_cons (pvx (i := 5) nn__law_threads_here rfl (Or.inl rfl)) pa_nil rfl) rfl))) (pss_cons (ps_setLc (i := 13) (own := [("_law_c", 17)]) rfl sc_law.nd rfl rfl (sw_true rfl rfl rfl (by decide +kernel)) (pi_range1 (by rfl) T.b_range (pa_cons (pe_callB call_lenA (by rfl) T.b_len (by decide +kernel) (pa_cons (pvx (i := 7) nn__law_homes rfl (Or.inl rfl)) pa_nil rfl)) pa_nil rfl)) (blkOk_by (own := [("_law_c", 17)]) (N := ["_law_script", "_law_state_here", "_law_core_here", "_law_many", "_law_links", "_law_threads_here", "_law_places", "_law_homes", "_law_plan", "_law_network_here", "_law_due", "_law_turn", "_law_at", "_law_outer", "_law_row", "_law_k", "_law_kind", "_law_c"]) (sc := defScope s_law) (by decide +kernel)) (fun _ _ _ _ _ => (pg_name (i := 17) sc_law.nd rfl (Or.inl rfl))) (fun _ _ _ _ _ => (pts_one (pt_cmpR (op_neA hr.units) (pe_ix ix_A (pe_ix ix_A (pvx (i := 2) nn__law_core_here rfl (by first | exact Or.inl rfl | exact Or.inr (Or.inl rfl) | exact Or.inr (Or.inr rfl))) pe_int (fun _ _ => rfl)) (pvx (i := 17) nn__law_c rfl (by first | exact Or.inl rfl | exact Or.inr (Or.inl rfl) | exact Or.inr (Or.inr rfl))) (fun _ _ => rfl)) pe_str (nomark _)))) (fun _ _ _ _ _ => (pvx (i := 17) nn__law_c rfl (by first | exact Or.inl rfl | exact Or.inr (Or.inl rfl) | exact Or.inr (Or.inr rfl))))) (pss_cons (ps_if (pt_cmpR (op_eqA hr.units) (pvx (i := 11) nn__law_turn rfl (Or.inl rfl)) pe_int (nomark _)) (pss_one (ps_set (i := 6) sc_law.nd rfl (Or.inl rfl) (pe_cal c_l_pick (hr.mono (by omega)) (by rfl) (pa_cons (pvx (i := 1) nn__law_state_here rfl (by first | exact Or.inl rfl | exact Or.inr (Or.inl rfl) | exact Or.inr (Or.inr rfl))) (pa_cons (pe_lst (pa_cons (pe_op op_addA (pvx (i := 6) nn__law_places rfl (Or.inl rfl)) (pe_lst (pa_cons pe_int pa_nil rfl))) (pa_cons (pe_slice sl_A (pvx (i := 6) nn__law_places rfl (Or.inl rfl)) po_none (po_some (pe_un un_neg pe_int))) pa_nil rfl) rfl)) pa_nil rfl) rfl)))) (pss_one (ps_if (pt_cmpR (op_eqA hr.units) (pvx (i := 11) nn__law_turn rfl (Or.inl rfl)) pe_int (nomark _)) (pss_one (ps_asg (pe_cal c_l_pick (hr.mono (by omega)) (by rfl) (pa_cons (pvx (i := 1) nn__law_state_here rfl (by first | exact Or.inl rfl | exact Or.inr (Or.inl rfl) | exact Or.inr (Or.inr rfl))) (pa_cons (pe_lst (pa_cons (pe_un un_neg pe_int) (pa_cons (pvx (i := 3) nn__law_many rfl (by first | exact Or.inl rfl | exact Or.inr (Or.inl rfl) | exact Or.inr (Or.inr rfl))) pa_nil rfl) rfl)) pa_nil rfl) rfl)) (pg_sub (pvx (i := 6) nn__law_places rfl (Or.inl rfl)) (pvx (i := 12) nn__law_at rfl (Or.inl rfl)) set_A))) (pss_one (ps_if (pt_cmpR (op_eqA hr.units) (pvx (i := 11) nn__law_turn rfl (Or.inl rfl)) pe_int (nomark _)) (pss_one (ps_set (i := 7) sc_law.nd rfl (Or.inl rfl) (pe_op op_addA (pvx (i := 7) nn__law_homes rfl (Or.inl rfl)) (pe_lst (pa_cons pe_int pa_nil rfl))))) (pss_one (ps_if (PW.pt (pw_and (pt_cmpR (op_eqA hr.units) (pvx (i := 11) nn__law_turn rfl (Or.inl rfl)) pe_int (nomark _)) (pw_and1 (pt_cmpR op_gt (pe_callB call_lenA (by rfl) T.b_len (by decide +kernel) (pa_cons (pvx (i := 7) nn__law_homes rfl (Or.inl rfl)) pa_nil rfl)) pe_int (nomark _))))) (pss_one (ps_asg (pe_cal c_l_pick (hr.mono (by omega)) (by rfl) (pa_cons (pvx (i := 1) nn__law_state_here rfl (by first | exact Or.inl rfl | exact Or.inr (Or.inl rfl) | exact Or.inr (Or.inr rfl))) (pa_cons (pe_lst (pa_cons (pe_un un_neg pe_int) (pa_cons (pvx (i := 3) nn__law_many rfl (by first | exact Or.inl rfl | exact Or.inr (Or.inl rfl) | exact Or.inr (Or.inr rfl))) pa_nil rfl) rfl)) pa_nil rfl) rfl)) (pg_sub (pvx (i := 7) nn__law_homes rfl (Or.inl rfl)) (pe_cal c_l_draw (hr.mono (by omega)) (by rfl) (pa_cons (pvx (i := 1) nn__law_state_here rfl (by first | exact Or.inl rfl | exact Or.inr (Or.inl rfl) | exact Or.inr (Or.inr rfl))) (pa_cons (pe_callB call_lenA (by rfl) T.b_len (by decide +kernel) (pa_cons (pvx (i := 7) nn__law_homes rfl (Or.inl rfl)) pa_nil rfl)) pa_nil rfl) rfl)) set_A))) (pss_one (ps_if (PW.pt (pw_and (pt_cmpR (op_eqA hr.units) (pvx (i := 11) nn__law_turn rfl (Or.inl rfl)) pe_int (nomark _)) (pw_and (pt_cmpR op_gt (pe_callB call_lenA (by rfl) T.b_len (by decide +kernel) (pa_cons (pvx (i := 13) nn__law_outer rfl (Or.inl rfl)) pa_nil rfl)) pe_int (nomark _)) (pw_and1 (pt_cmpR op_gt (pvx (i := 3) nn__law_many rfl (by first | exact Or.inl rfl | exact Or.inr (Or.inl rfl) | exact Or.inr (Or.inr rfl))) pe_int (nomark _)))))) (pss_cons (ps_asg pe_int (pg_sub (pvx (i := 7) nn__law_homes rfl (Or.inl rfl)) (pe_cal c_l_pick (hr.mono (by omega)) (by rfl) (pa_cons (pvx (i := 1) nn__law_state_here rfl (by first | exact Or.inl rfl | exact Or.inr (Or.inl rfl) | exact Or.inr (Or.inr rfl))) (pa_cons (pvx (i := 13) nn__law_outer rfl (Or.inl rfl)) pa_nil rfl) rfl)) set_A)) (pss_one (ps_set (i := 10) sc_law.nd rfl (Or.inl rfl) pe_str))) (pss_one (ps_if (pt_cmpR (op_eqA hr.units) (pvx (i := 11) nn__law_turn rfl (Or.inl rfl)) pe_int (nomark _)) (pss_cons (ps_set (i := 9) sc_law.nd rfl (Or.inl rfl) (pe_tup (pa_cons (pvx (i := 3) nn__law_many rfl (by first | exact Or.inl rfl | exact Or.inr (Or.inl rfl) | exact Or.inr (Or.inr rfl))) (pa_cons (pe_op op_addA (pvx (i := 4) nn__law_links rfl (Or.inl rfl)) (pe_lst (pa_cons (pe_tup (pa_cons (pvx (i := 3) nn__law_many rfl (by first | exact Or.inl rfl | exact Or.inr (Or.inl rfl) | exact Or.inr (Or.inr rfl))) (pa_cons (pe_op op_addA (pvx (i := 3) nn__law_many rfl (by first | exact Or.inl rfl | exact Or.inr (Or.inl rfl) | exact Or.inr (Or.inr rfl))) pe_int) pa_nil rfl) rfl)) pa_nil rfl))) pa_nil rfl) rfl))) (pss_cons (ps_set (i := 6) sc_law.nd rfl (Or.inl rfl) (pe_lst pa_nil)) (pss_one (ps_set (i := 10) sc_law.nd rfl (Or.inl rfl) pe_str)))) (pss_cons (ps_set (i := 9) sc_law.nd rfl (Or.inl rfl) (pe_tup (pa_cons (pe_cal c_l_pick (hr.mono (by omega)) (by rfl) (pa_cons (pvx (i := 1) nn__law_state_here rfl (by first | exact Or.inl rfl | exact Or.inr (Or.inl rfl) | exact Or.inr (Or.inr rfl))) (pa_cons (pe_lst (pa_cons pe_int (pa_cons pe_int pa_nil rfl) rfl)) pa_nil rfl) rfl)) (pa_cons (pe_lst pa_nil) pa_nil rfl) rfl))) (pss_one (ps_set (i := 10) sc_law.nd rfl (Or.inl rfl) pe_str)))))))))))))) (pss_cons (ps_if (pt_cmpR (op_neA hr.units) (pe_cal c_l_told (hr.mono (by omega)) (by rfl) (pa_cons (pvx (i := 2) nn__law_core_here rfl (by first | exact Or.inl rfl | exact Or.inr (Or.inl rfl) | exact Or.inr (Or.inr rfl))) (pa_cons (pvx (i := 9) nn__law_network_here rfl (Or.inl rfl)) (pa_cons (pvx (i := 6) nn__law_places rfl (Or.inl rfl)) (pa_cons (pvx (i := 7) nn__law_homes rfl (Or.inl rfl)) pa_nil rfl) rfl) rfl) rfl)) (pvx (i := 10) nn__law_due rfl (Or.inl rfl)) (nomark _)) (pss_one (ps_ret pe_bl)) pss_nil) (pss_cons (ps_set (i := 14) sc_law.nd rfl (Or.inl rfl) (pe_cal c_spread (hr.mono (by omega)) (by rfl) (pa_cons (pvx (i := 5) nn__law_threads_here rfl (Or.inl rfl)) (pa_cons (pvx (i := 3) nn__law_many rfl (by first | exact Or.inl rfl | exact Or.inr (Or.inl rfl) | exact Or.inr (Or.inr rfl))) pa_nil rfl) rfl))) (pss_one (ps_ret (pe_cmpR (op_eqA hr.units) (pvx (i := 14) nn__law_row rfl (Or.inl rfl)) (pe_lc (own := [("_law_k", 15)]) rfl sc_law.nd (pi_range1 (by rfl) T.b_range (pa_cons (pvx (i := 5) nn__law_threads_here rfl (Or.inl rfl)) pa_nil rfl)) (blkOk_by (own := [("_law_k", 15)]) (N := ["_law_script", "_law_state_here", "_law_core_here", "_law_many", "_law_links", "_law_threads_here", "_law_places", "_law_homes", "_law_plan", "_law_network_here", "_law_due", "_law_turn", "_law_at", "_law_outer", "_law_row", "_law_k", "_law_kind", "_law_c"]) (sc := defScope s_law) (by decide +kernel)) (fun _ _ _ _ _ => (pg_name (i := 15) sc_law.nd rfl (Or.inl rfl))) (fun _ _ _ _ _ => pts_nil) (fun _ _ _ _ _ => (pe_op op_sub (pvx (i := 15) nn__law_k rfl (by first | exact Or.inl rfl | exact Or.inr (Or.inl rfl) | exact Or.inr (Or.inr rfl))) (pe_op op_mulA (pe_op op_fdiv (pvx (i := 15) nn__law_k rfl (by first | exact Or.inl rfl | exact Or.inr (Or.inl rfl) | exact Or.inr (Or.inr rfl))) (pvx (i := 3) nn__law_many rfl (by first | exact Or.inl rfl | exact Or.inr (Or.inl rfl) | exact Or.inr (Or.inr rfl)))) (pvx (i := 3) nn__law_many rfl (by first | exact Or.inl rfl | exact Or.inr (Or.inl rfl) | exact Or.inr (Or.inr rfl))))))) (nomark _)))))))))))))))))))))
end
set_option Elab.async false
set_option linter.all false
set_option maxRecDepth 100000
set_option maxHeartbeats 4000000
open PySem PySem.Spec PyProof.Rows L2 Lb
def d_PlanError_init : He.DefD := ⟨("PlanError", some "__init__"), "__init__", "PlanError.__init__", defArgs s_PlanError_init, defBody s_PlanError_init, defScope s_PlanError_init, [], []⟩
def d_neighbours : He.DefD := ⟨("neighbours", none), "neighbours", "neighbours", defArgs s_neighbours, defBody s_neighbours, defScope s_neighbours, [], []⟩
def d_distances : He.DefD := ⟨("distances", none), "distances", "distances", defArgs s_distances, defBody s_distances, defScope s_distances, [], []⟩
def d_check_network : He.DefD := ⟨("check_network", none), "check_network", "check_network", defArgs s_check_network, defBody s_check_network, defScope s_check_network, [], []⟩
def d_next_hops : He.DefD := ⟨("next_hops", none), "next_hops", "next_hops", defArgs s_next_hops, defBody s_next_hops, defScope s_next_hops, [], []⟩
def d_parts : He.DefD := ⟨("parts", none), "parts", "parts", defArgs s_parts, defBody s_parts, defScope s_parts, [], []⟩
def d_inner_statements : He.DefD := ⟨("inner_statements", none), "inner_statements", "inner_statements", defArgs s_inner_statements, defBody s_inner_statements, defScope s_inner_statements, [], []⟩
def d_branches : He.DefD := ⟨("branches", none), "branches", "branches", defArgs s_branches, defBody s_branches, defScope s_branches, [], []⟩
def d_threads_of : He.DefD := ⟨("threads_of", none), "threads_of", "threads_of", defArgs s_threads_of, defBody s_threads_of, defScope s_threads_of, [], []⟩
def d_thread_number : He.DefD := ⟨("thread_number", none), "thread_number", "thread_number", defArgs s_thread_number, defBody s_thread_number, defScope s_thread_number, [], []⟩
def d_Plan_init : He.DefD := ⟨("Plan", some "__init__"), "__init__", "Plan.__init__", defArgs s_Plan_init, defBody s_Plan_init, defScope s_Plan_init, [], []⟩
def d_spread : He.DefD := ⟨("spread", none), "spread", "spread", defArgs s_spread, defBody s_spread, defScope s_spread, [], []⟩
def d_make_plan : He.DefD := ⟨("make_plan", none), "make_plan", "make_plan", defArgs s_make_plan, defBody s_make_plan, defScope s_make_plan, [], []⟩
def d_l_state : He.DefD := ⟨("_law_state", none), "_law_state", "_law_state", defArgs s_l_state, defBody s_l_state, defScope s_l_state, [], []⟩
def d_l_draw : He.DefD := ⟨("_law_draw", none), "_law_draw", "_law_draw", defArgs s_l_draw, defBody s_l_draw, defScope s_l_draw, [], []⟩
def d_l_pick : He.DefD := ⟨("_law_pick", none), "_law_pick", "_law_pick", defArgs s_l_pick, defBody s_l_pick, defScope s_l_pick, [], []⟩
def d_l_number : He.DefD := ⟨("_law_number", none), "_law_number", "_law_number", defArgs s_l_number, defBody s_l_number, defScope s_l_number, [], []⟩
def d_l_operator : He.DefD := ⟨("_law_operator", none), "_law_operator", "_law_operator", defArgs s_l_operator, defBody s_l_operator, defScope s_l_operator, [], []⟩
def d_l_index : He.DefD := ⟨("_law_index", none), "_law_index", "_law_index", defArgs s_l_index, defBody s_l_index, defScope s_l_index, [], []⟩
def d_l_read : He.DefD := ⟨("_law_read", none), "_law_read", "_law_read", defArgs s_l_read, defBody s_l_read, defScope s_l_read, [], []⟩
def d_l_expression : He.DefD := ⟨("_law_expression", none), "_law_expression", "_law_expression", defArgs s_l_expression, defBody s_l_expression, defScope s_l_expression, [], []⟩
def d_l_target : He.DefD := ⟨("_law_target", none), "_law_target", "_law_target", defArgs s_l_target, defBody s_l_target, defScope s_l_target, [], []⟩
def d_l_set : He.DefD := ⟨("_law_set", none), "_law_set", "_law_set", defArgs s_l_set, defBody s_l_set, defScope s_l_set, [], []⟩
def d_l_simple : He.DefD := ⟨("_law_simple", none), "_law_simple", "_law_simple", defArgs s_l_simple, defBody s_l_simple, defScope s_l_simple, [], []⟩
def d_l_more_cells : He.DefD := ⟨("_law_more_cells", none), "_law_more_cells", "_law_more_cells", defArgs s_l_more_cells, defBody s_l_more_cells, defScope s_l_more_cells, [], []⟩
def d_l_env : He.DefD := ⟨("_law_env", none), "_law_env", "_law_env", defArgs s_l_env, defBody s_l_env, defScope s_l_env, [], []⟩
def d_l_alt : He.DefD := ⟨("_law_alt", none), "_law_alt", "_law_alt", defArgs s_l_alt, defBody s_l_alt, defScope s_l_alt, [], []⟩
def d_l_wrapped : He.DefD := ⟨("_law_wrapped", none), "_law_wrapped", "_law_wrapped", defArgs s_l_wrapped, defBody s_l_wrapped, defScope s_l_wrapped, [], []⟩
def d_l_items : He.DefD := ⟨("_law_items", none), "_law_items", "_law_items", defArgs s_l_items, defBody s_l_items, defScope s_l_items, [], []⟩
def d_l_meetings : He.DefD := ⟨("_law_meetings", none), "_law_meetings", "_law_meetings", defArgs s_l_meetings, defBody s_l_meetings, defScope s_l_meetings, [], []⟩
def d_l_shared : He.DefD := ⟨("_law_shared", none), "_law_shared", "_law_shared", defArgs s_l_shared, defBody s_l_shared, defScope s_l_shared, [], []⟩
def d_l_faulty : He.DefD := ⟨("_law_faulty", none), "_law_faulty", "_law_faulty", defArgs s_l_faulty, defBody s_l_faulty, defScope s_l_faulty, [], []⟩
def d_l_par : He.DefD := ⟨("_law_par", none), "_law_par", "_law_par", defArgs s_l_par, defBody s_l_par, defScope s_l_par, [], []⟩
def d_l_core : He.DefD := ⟨("_law_core", none), "_law_core", "_law_core", defArgs s_l_core, defBody s_l_core, defScope s_l_core, [], []⟩
def d_l_threads : He.DefD := ⟨("_law_threads", none), "_law_threads", "_law_threads", defArgs s_l_threads, defBody s_l_threads, defScope s_l_threads, [], []⟩
def d_l_network : He.DefD := ⟨("_law_network", none), "_law_network", "_law_network", defArgs s_l_network, defBody s_l_network, defScope s_l_network, [], []⟩
def d_l_told : He.DefD := ⟨("_law_told", none), "_law_told", "_law_told", defArgs s_l_told, defBody s_l_told, defScope s_l_told, [], []⟩
def d_law : He.DefD := ⟨("law", none), "law", "law", defArgs s_law, defBody s_law, defScope s_law, [], []⟩
def fn0 : List He.DefD := [d_PlanError_init, d_neighbours, d_distances, d_check_network, d_next_hops, d_parts, d_inner_statements, d_branches, d_threads_of, d_thread_number, d_Plan_init, d_spread, d_make_plan, d_l_state, d_l_draw, d_l_pick, d_l_number, d_l_operator, d_l_index, d_l_read, d_l_expression, d_l_target, d_l_set, d_l_simple, d_l_more_cells, d_l_env, d_l_alt, d_l_wrapped, d_l_items, d_l_meetings]
def fn1 : List He.DefD := [d_l_shared, d_l_faulty, d_l_par, d_l_core, d_l_threads, d_l_network, d_l_told, d_law]
def fn : List He.DefD := fn0 ++ fn1
def fa0 : List He.Fa := [.glo "PlacedError", .glo "PlacedError", .glo "PlanError", .glo "PlanError", .glo "thread_number", .free "abs", .free "enumerate", .free "int", .free "isinstance", .free "len", .free "list", .free "min", .free "range", .free "reversed", .free "sorted", .free "zip", .int "MOST" 6, .glo "neighbours", .glo "distances", .glo "check_network", .glo "next_hops", .glo "parts", .glo "inner_statements", .glo "branches", .glo "threads_of", .glo "thread_number", .glo "spread", .glo "make_plan", .glo "_law_state", .glo "_law_draw"]
def fa1 : List He.Fa := [.glo "_law_pick", .glo "_law_number", .glo "_law_operator", .glo "_law_index", .glo "_law_read", .glo "_law_expression", .glo "_law_target", .glo "_law_set", .glo "_law_simple", .glo "_law_more_cells", .glo "_law_env", .glo "_law_alt", .glo "_law_wrapped", .glo "_law_items", .glo "_law_meetings", .glo "_law_shared", .glo "_law_faulty", .glo "_law_par", .glo "_law_core", .glo "_law_threads", .glo "_law_network", .glo "_law_told", .glo "law", .glo "Plan", .cls "Plan", .mkr "Plan", .noat "Plan" "processors", .noat "Plan" "links", .noat "Plan" "threads", .noat "Plan" "homes"]
def fa2 : List He.Fa := [.noat "Plan" "hops"]
def fa : List He.Fa := fa0 ++ fa1 ++ fa2
def lo0 : List Str := ["PlacedError", "PlanError", "MOST", "neighbours", "distances", "check_network", "next_hops", "parts", "inner_statements", "branches", "threads_of", "thread_number", "Plan", "spread", "make_plan", "_law_state", "_law_draw", "_law_pick", "_law_number", "_law_operator", "_law_index", "_law_read", "_law_expression", "_law_target", "_law_set", "_law_simple", "_law_more_cells", "_law_env", "_law_alt", "_law_wrapped"]
def lo1 : List Str := ["_law_items", "_law_meetings", "_law_shared", "_law_faulty", "_law_par", "_law_core", "_law_inputs", "_law_choices", "_law_threads", "_law_network", "_law_told"]
def lo : List Str := lo0 ++ lo1
abbrev RW : PySem.W.OpenLaw := PySem.Challenge.rw_placedanyhow_k41_plans_that_fit
abbrev RR : PySem.W.OpenRow := PySem.W.OpenLaw.row RW
def ex (K : PySem.W.Frag) : Bool := ecB K (He.ga K "PlanError") (He.ga K "PlacedError") (He.ma K (He.ga K "PlanError") "__init__") "reason"
abbrev hk : PySem.W.Hook := hookY 4 fa fn ex
def ob (s : PySem.W.SharedT) : He.AlD × Bool := obsY 4 fa fn ex (HandSHeadRun.getT s)
theorem ob_eq (s : PySem.W.SharedT) : ob s = hk.obs s.abs := obsY_eq (HandSHeadRun.getT_eq s)
theorem run (w : World) : HandSHeadRun.RunEq RR (PySem.W.view RR.prog [46]) hk ob 4000 lo w := by
  intro os
  kernel_rfl
theorem tx {w : World} {K : PySem.W.Frag} {h : Heap} {mg : Str → Option Value} (X : K.In h) (G : h.Ns mainGlobals mg) (c : He.SaysD fa fn K) : Tx K mg ⟨K, w, He.ga K "PlanError", He.ga K "PlacedError", He.ma K (He.ga K "PlanError") "__init__", He.ga K "Plan", He.ga K "thread_number"⟩ :=
  ⟨rfl, gv_glo X G (c.fact 0 rfl), He.glo_ok X G (c.fact 1 rfl), gv_glo X G (c.fact 2 rfl), He.glo_ok X G (c.fact 3 rfl), gv_glo X G (c.fact 4 rfl), He.free_ok X G (c.fact 5 rfl), He.free_ok X G (c.fact 6 rfl), He.free_ok X G (c.fact 7 rfl), He.free_ok X G (c.fact 8 rfl), He.free_ok X G (c.fact 9 rfl), He.free_ok X G (c.fact 10 rfl), He.free_ok X G (c.fact 11 rfl), He.free_ok X G (c.fact 12 rfl), He.free_ok X G (c.fact 13 rfl), He.free_ok X G (c.fact 14 rfl), He.free_ok X G (c.fact 15 rfl), gv_int X G (c.fact 16 rfl)⟩
theorem cf {K : PySem.W.Frag} {w : World} (e : ex K = true) (c : He.SaysD fa fn K) : CF ⟨K, w, He.ga K "PlanError", He.ga K "PlacedError", He.ma K (He.ga K "PlanError") "__init__", He.ga K "Plan", He.ga K "thread_number"⟩ :=
  ⟨ecB_ok e, He.cls_ok (c.fact 54 (f := .cls "Plan") rfl), He.noat_ok (c.fact 56 (f := .noat "Plan" "processors") rfl), He.noat_ok (c.fact 57 (f := .noat "Plan" "links") rfl), He.noat_ok (c.fact 58 (f := .noat "Plan" "threads") rfl), He.noat_ok (c.fact 59 (f := .noat "Plan" "homes") rfl), He.noat_ok (c.fact 60 (f := .noat "Plan" "hops") rfl)⟩
set_option maxHeartbeats 16000000 in
theorem facts {P : Program} {w : World} {K : PySem.W.Frag} {h : Heap} {mg : Str → Option Value} {f : Addr} (X : K.In h) (G : h.Ns mainGlobals mg) (hfa : mg ("law" : Str) = some (.ref f)) (c : He.SaysD fa fn K) (cx : ex K = true) :
    ∃ fd : FuncData, (∀ (s : Shared) (v : Value), BindsTo s fd ⟨[v], []⟩ [("_law_script", v)]) ∧ ∀ base : Heap, K.In base → base.Ns mainGlobals mg → FnG P w K mg base (80) f fd ["_law_script"] (sp_law ⟨K, w, He.ga K "PlanError", He.ga K "PlacedError", He.ma K (He.ga K "PlanError") "__init__", He.ga K "Plan", He.ga K "thread_number"⟩) := by
  obtain ⟨fd_PlanError_init, F_PlanError_init⟩ := c.def_ 0 (d := d_PlanError_init) rfl
  have b_PlanError_init : Binds K fd_PlanError_init ["self", "reason"] [] := F_PlanError_init.bindsN fun _ _ _ _ _ _ us hl => match us, hl with | [_, _], _ => rfl
  obtain ⟨fd_neighbours, F_neighbours⟩ := c.def_ 1 (d := d_neighbours) rfl
  have b_neighbours : Binds K fd_neighbours ["links", "at"] [] := F_neighbours.bindsN fun _ _ _ _ _ _ us hl => match us, hl with | [_, _], _ => rfl
  have g_neighbours := He.glo_ok X G (c.fact 17 (f := .glo "neighbours") rfl)
  obtain ⟨fd_distances, F_distances⟩ := c.def_ 2 (d := d_distances) rfl
  have b_distances : Binds K fd_distances ["processors", "links", "goal"] [] := F_distances.bindsN fun _ _ _ _ _ _ us hl => match us, hl with | [_, _, _], _ => rfl
  have g_distances := He.glo_ok X G (c.fact 18 (f := .glo "distances") rfl)
  obtain ⟨fd_check_network, F_check_network⟩ := c.def_ 3 (d := d_check_network) rfl
  have b_check_network : Binds K fd_check_network ["processors", "links"] [] := F_check_network.bindsN fun _ _ _ _ _ _ us hl => match us, hl with | [_, _], _ => rfl
  have g_check_network := He.glo_ok X G (c.fact 19 (f := .glo "check_network") rfl)
  obtain ⟨fd_next_hops, F_next_hops⟩ := c.def_ 4 (d := d_next_hops) rfl
  have b_next_hops : Binds K fd_next_hops ["processors", "links"] [] := F_next_hops.bindsN fun _ _ _ _ _ _ us hl => match us, hl with | [_, _], _ => rfl
  have g_next_hops := He.glo_ok X G (c.fact 20 (f := .glo "next_hops") rfl)
  obtain ⟨fd_parts, F_parts⟩ := c.def_ 5 (d := d_parts) rfl
  have b_parts : Binds K fd_parts ["s"] [] := F_parts.bindsN fun _ _ _ _ _ _ us hl => match us, hl with | [_], _ => rfl
  have g_parts := He.glo_ok X G (c.fact 21 (f := .glo "parts") rfl)
  obtain ⟨fd_inner_statements, F_inner_statements⟩ := c.def_ 6 (d := d_inner_statements) rfl
  have b_inner_statements : Binds K fd_inner_statements ["s"] [] := F_inner_statements.bindsN fun _ _ _ _ _ _ us hl => match us, hl with | [_], _ => rfl
  have g_inner_statements := He.glo_ok X G (c.fact 22 (f := .glo "inner_statements") rfl)
  obtain ⟨fd_branches, F_branches⟩ := c.def_ 7 (d := d_branches) rfl
  have b_branches : Binds K fd_branches ["s", "parent"] [] := F_branches.bindsN fun _ _ _ _ _ _ us hl => match us, hl with | [_, _], _ => rfl
  have g_branches := He.glo_ok X G (c.fact 23 (f := .glo "branches") rfl)
  obtain ⟨fd_threads_of, F_threads_of⟩ := c.def_ 8 (d := d_threads_of) rfl
  have b_threads_of : Binds K fd_threads_of ["core"] [] := F_threads_of.bindsN fun _ _ _ _ _ _ us hl => match us, hl with | [_], _ => rfl
  have g_threads_of := He.glo_ok X G (c.fact 24 (f := .glo "threads_of") rfl)
  obtain ⟨fd_thread_number, F_thread_number⟩ := c.def_ 9 (d := d_thread_number) rfl
  have b_thread_number : Binds K fd_thread_number ["row"] [] := F_thread_number.bindsN fun _ _ _ _ _ _ us hl => match us, hl with | [_], _ => rfl
  have g_thread_number := He.glo_ok X G (c.fact 25 (f := .glo "thread_number") rfl)
  obtain ⟨fd_Plan_init, F_Plan_init⟩ := c.def_ 10 (d := d_Plan_init) rfl
  have b_Plan_init : Binds K fd_Plan_init ["self", "network", "threads", "homes"] [] := F_Plan_init.bindsN fun _ _ _ _ _ _ us hl => match us, hl with | [_, _, _, _], _ => rfl
  obtain ⟨fd_spread, F_spread⟩ := c.def_ 11 (d := d_spread) rfl
  have b_spread : Binds K fd_spread ["many", "processors"] [] := F_spread.bindsN fun _ _ _ _ _ _ us hl => match us, hl with | [_, _], _ => rfl
  have g_spread := He.glo_ok X G (c.fact 26 (f := .glo "spread") rfl)
  obtain ⟨fd_make_plan, F_make_plan⟩ := c.def_ 12 (d := d_make_plan) rfl
  have b_make_plan : Binds K fd_make_plan ["core", "network", "places", "homes"] [] := F_make_plan.bindsN fun _ _ _ _ _ _ us hl => match us, hl with | [_, _, _, _], _ => rfl
  have g_make_plan := He.glo_ok X G (c.fact 27 (f := .glo "make_plan") rfl)
  obtain ⟨fd_l_state, F_l_state⟩ := c.def_ 13 (d := d_l_state) rfl
  have b_l_state : Binds K fd_l_state ["_law_script"] [] := F_l_state.bindsN fun _ _ _ _ _ _ us hl => match us, hl with | [_], _ => rfl
  have g_l_state := He.glo_ok X G (c.fact 28 (f := .glo "_law_state") rfl)
  obtain ⟨fd_l_draw, F_l_draw⟩ := c.def_ 14 (d := d_l_draw) rfl
  have b_l_draw : Binds K fd_l_draw ["_law_state_here", "_law_many"] [] := F_l_draw.bindsN fun _ _ _ _ _ _ us hl => match us, hl with | [_, _], _ => rfl
  have g_l_draw := He.glo_ok X G (c.fact 29 (f := .glo "_law_draw") rfl)
  obtain ⟨fd_l_pick, F_l_pick⟩ := c.def_ 15 (d := d_l_pick) rfl
  have b_l_pick : Binds K fd_l_pick ["_law_state_here", "_law_row"] [] := F_l_pick.bindsN fun _ _ _ _ _ _ us hl => match us, hl with | [_, _], _ => rfl
  have g_l_pick := He.glo_ok X G (c.fact 30 (f := .glo "_law_pick") rfl)
  obtain ⟨fd_l_number, F_l_number⟩ := c.def_ 16 (d := d_l_number) rfl
  have b_l_number : Binds K fd_l_number ["_law_state_here"] [] := F_l_number.bindsN fun _ _ _ _ _ _ us hl => match us, hl with | [_], _ => rfl
  have g_l_number := He.glo_ok X G (c.fact 31 (f := .glo "_law_number") rfl)
  obtain ⟨fd_l_operator, F_l_operator⟩ := c.def_ 17 (d := d_l_operator) rfl
  have b_l_operator : Binds K fd_l_operator ["_law_state_here"] [] := F_l_operator.bindsN fun _ _ _ _ _ _ us hl => match us, hl with | [_], _ => rfl
  have g_l_operator := He.glo_ok X G (c.fact 32 (f := .glo "_law_operator") rfl)
  obtain ⟨fd_l_index, F_l_index⟩ := c.def_ 18 (d := d_l_index) rfl
  have b_l_index : Binds K fd_l_index ["_law_state_here", "_law_env_here", "_law_size"] [] := F_l_index.bindsN fun _ _ _ _ _ _ us hl => match us, hl with | [_, _, _], _ => rfl
  have g_l_index := He.glo_ok X G (c.fact 33 (f := .glo "_law_index") rfl)
  obtain ⟨fd_l_read, F_l_read⟩ := c.def_ 19 (d := d_l_read) rfl
  have b_l_read : Binds K fd_l_read ["_law_state_here", "_law_env_here"] [] := F_l_read.bindsN fun _ _ _ _ _ _ us hl => match us, hl with | [_, _], _ => rfl
  have g_l_read := He.glo_ok X G (c.fact 34 (f := .glo "_law_read") rfl)
  obtain ⟨fd_l_expression, F_l_expression⟩ := c.def_ 20 (d := d_l_expression) rfl
  have b_l_expression : Binds K fd_l_expression ["_law_state_here", "_law_env_here", "_law_deep"] [] := F_l_expression.bindsN fun _ _ _ _ _ _ us hl => match us, hl with | [_, _, _], _ => rfl
  have g_l_expression := He.glo_ok X G (c.fact 35 (f := .glo "_law_expression") rfl)
  obtain ⟨fd_l_target, F_l_target⟩ := c.def_ 21 (d := d_l_target) rfl
  have b_l_target : Binds K fd_l_target ["_law_state_here", "_law_env_here"] [] := F_l_target.bindsN fun _ _ _ _ _ _ us hl => match us, hl with | [_, _], _ => rfl
  have g_l_target := He.glo_ok X G (c.fact 36 (f := .glo "_law_target") rfl)
  obtain ⟨fd_l_set, F_l_set⟩ := c.def_ 22 (d := d_l_set) rfl
  have b_l_set : Binds K fd_l_set ["_law_state_here", "_law_env_here"] [] := F_l_set.bindsN fun _ _ _ _ _ _ us hl => match us, hl with | [_, _], _ => rfl
  have g_l_set := He.glo_ok X G (c.fact 37 (f := .glo "_law_set") rfl)
  obtain ⟨fd_l_simple, F_l_simple⟩ := c.def_ 23 (d := d_l_simple) rfl
  have b_l_simple : Binds K fd_l_simple ["_law_state_here", "_law_env_here"] [] := F_l_simple.bindsN fun _ _ _ _ _ _ us hl => match us, hl with | [_, _], _ => rfl
  have g_l_simple := He.glo_ok X G (c.fact 38 (f := .glo "_law_simple") rfl)
  obtain ⟨fd_l_more_cells, F_l_more_cells⟩ := c.def_ 24 (d := d_l_more_cells) rfl
  have b_l_more_cells : Binds K fd_l_more_cells ["_law_world", "_law_many"] [] := F_l_more_cells.bindsN fun _ _ _ _ _ _ us hl => match us, hl with | [_, _], _ => rfl
  have g_l_more_cells := He.glo_ok X G (c.fact 39 (f := .glo "_law_more_cells") rfl)
  obtain ⟨fd_l_env, F_l_env⟩ := c.def_ 25 (d := d_l_env) rfl
  have b_l_env : Binds K fd_l_env ["_law_state_here", "_law_world"] [] := F_l_env.bindsN fun _ _ _ _ _ _ us hl => match us, hl with | [_, _], _ => rfl
  have g_l_env := He.glo_ok X G (c.fact 40 (f := .glo "_law_env") rfl)
  obtain ⟨fd_l_alt, F_l_alt⟩ := c.def_ 26 (d := d_l_alt) rfl
  have b_l_alt : Binds K fd_l_alt ["_law_state_here", "_law_env_here", "_law_c"] [] := F_l_alt.bindsN fun _ _ _ _ _ _ us hl => match us, hl with | [_, _, _], _ => rfl
  have g_l_alt := He.glo_ok X G (c.fact 41 (f := .glo "_law_alt") rfl)
  obtain ⟨fd_l_wrapped, F_l_wrapped⟩ := c.def_ 27 (d := d_l_wrapped) rfl
  have b_l_wrapped : Binds K fd_l_wrapped ["_law_state_here", "_law_env_here", "_law_world", "_law_part"] [] := F_l_wrapped.bindsN fun _ _ _ _ _ _ us hl => match us, hl with | [_, _, _, _], _ => rfl
  have g_l_wrapped := He.glo_ok X G (c.fact 42 (f := .glo "_law_wrapped") rfl)
  obtain ⟨fd_l_items, F_l_items⟩ := c.def_ 28 (d := d_l_items) rfl
  have b_l_items : Binds K fd_l_items ["_law_state_here", "_law_env_here", "_law_world", "_law_items_here"] [] := F_l_items.bindsN fun _ _ _ _ _ _ us hl => match us, hl with | [_, _, _, _], _ => rfl
  have g_l_items := He.glo_ok X G (c.fact 43 (f := .glo "_law_items") rfl)
  obtain ⟨fd_l_meetings, F_l_meetings⟩ := c.def_ 29 (d := d_l_meetings) rfl
  have b_l_meetings : Binds K fd_l_meetings ["_law_state_here", "_law_world", "_law_scripts", "_law_envs"] [] := F_l_meetings.bindsN fun _ _ _ _ _ _ us hl => match us, hl with | [_, _, _, _], _ => rfl
  have g_l_meetings := He.glo_ok X G (c.fact 44 (f := .glo "_law_meetings") rfl)
  obtain ⟨fd_l_shared, F_l_shared⟩ := c.def_ 30 (d := d_l_shared) rfl
  have b_l_shared : Binds K fd_l_shared ["_law_state_here", "_law_env_here", "_law_envs", "_law_scripts"] [] := F_l_shared.bindsN fun _ _ _ _ _ _ us hl => match us, hl with | [_, _, _, _], _ => rfl
  have g_l_shared := He.glo_ok X G (c.fact 45 (f := .glo "_law_shared") rfl)
  obtain ⟨fd_l_faulty, F_l_faulty⟩ := c.def_ 31 (d := d_l_faulty) rfl
  have b_l_faulty : Binds K fd_l_faulty ["_law_state_here", "_law_script"] [] := F_l_faulty.bindsN fun _ _ _ _ _ _ us hl => match us, hl with | [_, _], _ => rfl
  have g_l_faulty := He.glo_ok X G (c.fact 46 (f := .glo "_law_faulty") rfl)
  obtain ⟨fd_l_par, F_l_par⟩ := c.def_ 32 (d := d_l_par) rfl
  have b_l_par : Binds K fd_l_par ["_law_state_here", "_law_env_here", "_law_world", "_law_deep"] [] := F_l_par.bindsN fun _ _ _ _ _ _ us hl => match us, hl with | [_, _, _, _], _ => rfl
  have g_l_par := He.glo_ok X G (c.fact 47 (f := .glo "_law_par") rfl)
  obtain ⟨fd_l_core, F_l_core⟩ := c.def_ 33 (d := d_l_core) rfl
  have b_l_core : Binds K fd_l_core ["_law_state_here", "_law_alts"] [] := F_l_core.bindsN fun _ _ _ _ _ _ us hl => match us, hl with | [_, _], _ => rfl
  have g_l_core := He.glo_ok X G (c.fact 48 (f := .glo "_law_core") rfl)
  obtain ⟨fd_l_threads, F_l_threads⟩ := c.def_ 34 (d := d_l_threads) rfl
  have b_l_threads : Binds K fd_l_threads ["_law_s"] [] := F_l_threads.bindsN fun _ _ _ _ _ _ us hl => match us, hl with | [_], _ => rfl
  have g_l_threads := He.glo_ok X G (c.fact 49 (f := .glo "_law_threads") rfl)
  obtain ⟨fd_l_network, F_l_network⟩ := c.def_ 35 (d := d_l_network) rfl
  have b_l_network : Binds K fd_l_network ["_law_state_here"] [] := F_l_network.bindsN fun _ _ _ _ _ _ us hl => match us, hl with | [_], _ => rfl
  have g_l_network := He.glo_ok X G (c.fact 50 (f := .glo "_law_network") rfl)
  obtain ⟨fd_l_told, F_l_told⟩ := c.def_ 36 (d := d_l_told) rfl
  have b_l_told : Binds K fd_l_told ["_law_core_here", "_law_network_here", "_law_places", "_law_homes"] [] := F_l_told.bindsN fun _ _ _ _ _ _ us hl => match us, hl with | [_, _, _, _], _ => rfl
  have g_l_told := He.glo_ok X G (c.fact 51 (f := .glo "_law_told") rfl)
  obtain ⟨fd_law, F_law⟩ := c.def_ 37 (d := d_law) rfl
  have E_PlanError := ecB_ok cx
  have g_Plan := He.glo_ok X G (c.fact 53 (f := .glo "Plan") rfl)
  have k_Plan := He.cls_ok (c.fact 54 (f := .cls "Plan") rfl)
  have m_Plan := He.mkr_ok (c.fact 55 (f := .mkr "Plan") rfl)
  have e := hfa.symm.trans (He.glo_ok X G (c.fact 52 (f := .glo "law") rfl))
  cases e
  have b := FunD.bindsA (ps := ["_law_script"]) F_law fun _ _ _ _ _ _ us hl => match us, hl with | [_], _ => rfl
  have T := tx (w := w) X G c
  refine ⟨fd_law, fun s v => b s [v] rfl, fun base _ _ => ?_⟩
  have C_PlanError := mkCalE E_PlanError (He.glo_ok X G (c.fact 2 (f := .glo "PlanError") rfl)) b_PlanError_init (ok_PlanError_init (P := P) (w := w) (base := base) T E_PlanError F_PlanError_init)
  have C_neighbours : Cal P w K mg base "neighbours" (1) ["links", "at"] (sp_neighbours ⟨K, w, He.ga K "PlanError", He.ga K "PlacedError", He.ma K (He.ga K "PlanError") "__init__", He.ga K "Plan", He.ga K "thread_number"⟩) := mkCal F_neighbours g_neighbours b_neighbours (ok_neighbours T rfl F_neighbours)
  have C_distances : Cal P w K mg base "distances" (2) ["processors", "links", "goal"] (sp_distances ⟨K, w, He.ga K "PlanError", He.ga K "PlacedError", He.ma K (He.ga K "PlanError") "__init__", He.ga K "Plan", He.ga K "thread_number"⟩) := mkCal F_distances g_distances b_distances (ok_distances T rfl F_distances C_neighbours)
  have C_check_network : CalX P w K mg base "check_network" (3) ["processors", "links"] (sp_check_network ⟨K, w, He.ga K "PlanError", He.ga K "PlacedError", He.ma K (He.ga K "PlanError") "__init__", He.ga K "Plan", He.ga K "thread_number"⟩) := mkCalX F_check_network g_check_network b_check_network (ok_check_network T rfl F_check_network C_PlanError C_distances)
  have C_next_hops : Cal P w K mg base "next_hops" (3) ["processors", "links"] (sp_next_hops ⟨K, w, He.ga K "PlanError", He.ga K "PlacedError", He.ma K (He.ga K "PlanError") "__init__", He.ga K "Plan", He.ga K "thread_number"⟩) := mkCal F_next_hops g_next_hops b_next_hops (ok_next_hops T rfl F_next_hops C_distances C_neighbours)
  have C_parts : Cal P w K mg base "parts" (1) ["s"] (sp_parts ⟨K, w, He.ga K "PlanError", He.ga K "PlacedError", He.ma K (He.ga K "PlanError") "__init__", He.ga K "Plan", He.ga K "thread_number"⟩) := mkCal F_parts g_parts b_parts (ok_parts T rfl F_parts)
  have C_inner_statements : Cal P w K mg base "inner_statements" (2) ["s"] (sp_inner_statements ⟨K, w, He.ga K "PlanError", He.ga K "PlacedError", He.ma K (He.ga K "PlanError") "__init__", He.ga K "Plan", He.ga K "thread_number"⟩) := mkCal F_inner_statements g_inner_statements b_inner_statements (ok_inner_statements T rfl F_inner_statements C_parts)
  have C_br : ∀ n : Nat, Cal P w K mg base "branches" (n + 2) ["s", "parent"] (sp_branchesP ⟨K, w, He.ga K "PlanError", He.ga K "PlacedError", He.ma K (He.ga K "PlanError") "__init__", He.ga K "Plan", He.ga K "thread_number"⟩ n) := by
    intro n
    induction n with
    | zero => exact mkCal F_branches g_branches b_branches okF
    | succ n ih => exact mkCal F_branches g_branches b_branches (ok_branches T rfl n F_branches ih C_inner_statements)
  have k_thread_number : FirstF P w K (He.ga K "thread_number") := firstF F_thread_number sc_thread_number rfl b_thread_number rfl
  have C_threads_of : Cal P w K mg base "threads_of" (64) ["core"] (sp_threads_of ⟨K, w, He.ga K "PlanError", He.ga K "PlacedError", He.ma K (He.ga K "PlanError") "__init__", He.ga K "Plan", He.ga K "thread_number"⟩) := mkCal F_threads_of g_threads_of b_threads_of (ok_threads_of T rfl F_threads_of k_thread_number (C_br 61))
  have C_Plan_init : CalC P w K mg base "Plan" (He.ga K "Plan") (4) ["self", "network", "threads", "homes"] (sp_Plan_init ⟨K, w, He.ga K "PlanError", He.ga K "PlacedError", He.ma K (He.ga K "PlanError") "__init__", He.ga K "Plan", He.ga K "thread_number"⟩) := mkCalC g_Plan m_Plan b_Plan_init (ok_Plan_init T rfl F_Plan_init C_next_hops)
  have C_spread : Cal P w K mg base "spread" (1) ["many", "processors"] (sp_spread ⟨K, w, He.ga K "PlanError", He.ga K "PlacedError", He.ma K (He.ga K "PlanError") "__init__", He.ga K "Plan", He.ga K "thread_number"⟩) := mkCal F_spread g_spread b_spread (ok_spread T rfl F_spread)
  have C_make_plan : CalX P w K mg base "make_plan" (66) ["core", "network", "places", "homes"] (sp_make_plan ⟨K, w, He.ga K "PlanError", He.ga K "PlacedError", He.ma K (He.ga K "PlanError") "__init__", He.ga K "Plan", He.ga K "thread_number"⟩) := mkCalX F_make_plan g_make_plan b_make_plan (ok_make_plan T rfl F_make_plan C_PlanError C_check_network C_threads_of C_Plan_init)
  have C_l_state : Cal P w K mg base "_law_state" (1) ["_law_script"] (spState K) := mkCal F_l_state g_l_state b_l_state (ok_l_state T rfl F_l_state)
  have C_l_draw : Cal P w K mg base "_law_draw" (1) ["_law_state_here", "_law_many"] spDraw := mkCal F_l_draw g_l_draw b_l_draw (ok_l_draw T rfl F_l_draw)
  have C_l_pick : Cal P w K mg base "_law_pick" (2) ["_law_state_here", "_law_row"] spPick := mkCal F_l_pick g_l_pick b_l_pick (ok_l_pick T rfl F_l_pick C_l_draw)
  have C_l_number : Cal P w K mg base "_law_number" (3) ["_law_state_here"] (sp_l_number ⟨K, w, He.ga K "PlanError", He.ga K "PlacedError", He.ma K (He.ga K "PlanError") "__init__", He.ga K "Plan", He.ga K "thread_number"⟩) := mkCal F_l_number g_l_number b_l_number (ok_l_number T rfl F_l_number C_l_pick C_l_draw)
  have C_l_operator : Cal P w K mg base "_law_operator" (3) ["_law_state_here"] (sp_l_operator ⟨K, w, He.ga K "PlanError", He.ga K "PlacedError", He.ma K (He.ga K "PlanError") "__init__", He.ga K "Plan", He.ga K "thread_number"⟩) := mkCal F_l_operator g_l_operator b_l_operator (ok_l_operator T rfl F_l_operator C_l_pick)
  have C_l_index : Cal P w K mg base "_law_index" (3) ["_law_state_here", "_law_env_here", "_law_size"] (sp_l_index ⟨K, w, He.ga K "PlanError", He.ga K "PlacedError", He.ma K (He.ga K "PlanError") "__init__", He.ga K "Plan", He.ga K "thread_number"⟩) := mkCal F_l_index g_l_index b_l_index (ok_l_index T rfl F_l_index C_l_pick C_l_draw)
  have C_l_read : Cal P w K mg base "_law_read" (4) ["_law_state_here", "_law_env_here"] (sp_l_read ⟨K, w, He.ga K "PlanError", He.ga K "PlacedError", He.ma K (He.ga K "PlanError") "__init__", He.ga K "Plan", He.ga K "thread_number"⟩) := mkCal F_l_read g_l_read b_l_read (ok_l_read T rfl F_l_read C_l_draw C_l_pick C_l_index)
  have C_ex : ∀ n : Nat, Cal P w K mg base "_law_expression" (n + 4) ["_law_state_here", "_law_env_here", "_law_deep"] (sp_exprP ⟨K, w, He.ga K "PlanError", He.ga K "PlacedError", He.ma K (He.ga K "PlanError") "__init__", He.ga K "Plan", He.ga K "thread_number"⟩ n) := by
    intro n
    induction n with
    | zero => exact mkCal F_l_expression g_l_expression b_l_expression okF
    | succ n ih => exact mkCal F_l_expression g_l_expression b_l_expression (ok_l_expression T rfl n F_l_expression C_l_draw C_l_read C_l_number ih C_l_pick C_l_operator)
  have C_l_target : Cal P w K mg base "_law_target" (4) ["_law_state_here", "_law_env_here"] (sp_l_target ⟨K, w, He.ga K "PlanError", He.ga K "PlacedError", He.ma K (He.ga K "PlanError") "__init__", He.ga K "Plan", He.ga K "thread_number"⟩) := mkCal F_l_target g_l_target b_l_target (ok_l_target T rfl F_l_target C_l_draw C_l_pick C_l_index)
  have C_l_set : Cal P w K mg base "_law_set" (8) ["_law_state_here", "_law_env_here"] (sp_l_set ⟨K, w, He.ga K "PlanError", He.ga K "PlacedError", He.ma K (He.ga K "PlanError") "__init__", He.ga K "Plan", He.ga K "thread_number"⟩) := mkCal F_l_set g_l_set b_l_set (ok_l_set T rfl F_l_set (C_ex 3) C_l_target)
  have C_l_simple : Cal P w K mg base "_law_simple" (9) ["_law_state_here", "_law_env_here"] (sp_l_simple ⟨K, w, He.ga K "PlanError", He.ga K "PlacedError", He.ma K (He.ga K "PlanError") "__init__", He.ga K "Plan", He.ga K "thread_number"⟩) := mkCal F_l_simple g_l_simple b_l_simple (ok_l_simple T rfl F_l_simple C_l_draw C_l_set (C_ex 3) C_l_pick)
  have C_l_more_cells : Cal P w K mg base "_law_more_cells" (1) ["_law_world", "_law_many"] (sp_l_more_cells ⟨K, w, He.ga K "PlanError", He.ga K "PlacedError", He.ma K (He.ga K "PlanError") "__init__", He.ga K "Plan", He.ga K "thread_number"⟩) := mkCal F_l_more_cells g_l_more_cells b_l_more_cells (ok_l_more_cells T rfl F_l_more_cells)
  have C_l_env : Cal P w K mg base "_law_env" (2) ["_law_state_here", "_law_world"] (sp_l_env ⟨K, w, He.ga K "PlanError", He.ga K "PlacedError", He.ma K (He.ga K "PlanError") "__init__", He.ga K "Plan", He.ga K "thread_number"⟩) := mkCal F_l_env g_l_env b_l_env (ok_l_env T rfl F_l_env C_l_more_cells C_l_draw)
  have C_l_alt : Cal P w K mg base "_law_alt" (10) ["_law_state_here", "_law_env_here", "_law_c"] (sp_l_alt ⟨K, w, He.ga K "PlanError", He.ga K "PlacedError", He.ma K (He.ga K "PlanError") "__init__", He.ga K "Plan", He.ga K "thread_number"⟩) := mkCal F_l_alt g_l_alt b_l_alt (ok_l_alt T rfl F_l_alt C_l_simple C_l_target C_l_draw (C_ex 3))
  have C_l_wrapped : Cal P w K mg base "_law_wrapped" (9) ["_law_state_here", "_law_env_here", "_law_world", "_law_part"] (sp_l_wrapped ⟨K, w, He.ga K "PlanError", He.ga K "PlacedError", He.ma K (He.ga K "PlanError") "__init__", He.ga K "Plan", He.ga K "thread_number"⟩) := mkCal F_l_wrapped g_l_wrapped b_l_wrapped (ok_l_wrapped T rfl F_l_wrapped C_l_draw C_l_set (C_ex 3) C_l_more_cells)
  have C_l_meetings : Cal P w K mg base "_law_meetings" (3) ["_law_state_here", "_law_world", "_law_scripts", "_law_envs"] (sp_l_meetings ⟨K, w, He.ga K "PlanError", He.ga K "PlacedError", He.ma K (He.ga K "PlanError") "__init__", He.ga K "Plan", He.ga K "thread_number"⟩) := mkCal F_l_meetings g_l_meetings b_l_meetings (ok_l_meetings T rfl F_l_meetings C_l_draw C_l_pick C_l_more_cells)
  have C_l_shared : Cal P w K mg base "_law_shared" (2) ["_law_state_here", "_law_env_here", "_law_envs", "_law_scripts"] (sp_l_shared ⟨K, w, He.ga K "PlanError", He.ga K "PlacedError", He.ma K (He.ga K "PlanError") "__init__", He.ga K "Plan", He.ga K "thread_number"⟩) := mkCal F_l_shared g_l_shared b_l_shared (ok_l_shared T rfl F_l_shared C_l_draw)
  have C_l_faulty : Cal P w K mg base "_law_faulty" (2) ["_law_state_here", "_law_script"] (sp_l_faulty ⟨K, w, He.ga K "PlanError", He.ga K "PlacedError", He.ma K (He.ga K "PlanError") "__init__", He.ga K "Plan", He.ga K "thread_number"⟩) := mkCal F_l_faulty g_l_faulty b_l_faulty (ok_l_faulty T rfl F_l_faulty C_l_draw)
  have C_ip : ∀ n : Nat, Cal P w K mg base "_law_items" (n + 10) ["_law_state_here", "_law_env_here", "_law_world", "_law_items_here"] (sp_itemsP ⟨K, w, He.ga K "PlanError", He.ga K "PlacedError", He.ma K (He.ga K "PlanError") "__init__", He.ga K "Plan", He.ga K "thread_number"⟩ n) ∧ Cal P w K mg base "_law_par" (n + 10) ["_law_state_here", "_law_env_here", "_law_world", "_law_deep"] (sp_parP ⟨K, w, He.ga K "PlanError", He.ga K "PlacedError", He.ma K (He.ga K "PlanError") "__init__", He.ga K "Plan", He.ga K "thread_number"⟩ n) := by
    intro n
    induction n with
    | zero => exact ⟨mkCal F_l_items g_l_items b_l_items okF, mkCal F_l_par g_l_par b_l_par okF⟩
    | succ n ih => exact ⟨mkCal F_l_items g_l_items b_l_items (ok_l_items T rfl n F_l_items C_l_draw C_l_simple (C_ex 3) C_l_alt ih.2 C_l_target ih.1 C_l_wrapped), mkCal F_l_par g_l_par b_l_par (ok_l_par T rfl n F_l_par C_l_draw C_l_env C_l_meetings C_l_shared C_l_faulty ih.1 C_l_simple)⟩
  have C_l_core : Cal P w K mg base "_law_core" (23) ["_law_state_here", "_law_alts"] (sp_l_core ⟨K, w, He.ga K "PlanError", He.ga K "PlacedError", He.ma K (He.ga K "PlanError") "__init__", He.ga K "Plan", He.ga K "thread_number"⟩) := mkCal F_l_core g_l_core b_l_core (ok_l_core T rfl F_l_core C_l_draw C_l_env C_l_set ((C_ip 12).2) C_l_simple (C_ex 3))
  have C_lt : ∀ n : Nat, Cal P w K mg base "_law_threads" (n + 1) ["_law_s"] (sp_lthP ⟨K, w, He.ga K "PlanError", He.ga K "PlacedError", He.ma K (He.ga K "PlanError") "__init__", He.ga K "Plan", He.ga K "thread_number"⟩ n) := by
    intro n
    induction n with
    | zero => exact mkCal F_l_threads g_l_threads b_l_threads okF
    | succ n ih => exact mkCal F_l_threads g_l_threads b_l_threads (ok_l_threads T rfl n F_l_threads ih)
  have C_l_network : Cal P w K mg base "_law_network" (3) ["_law_state_here"] (sp_l_network ⟨K, w, He.ga K "PlanError", He.ga K "PlacedError", He.ma K (He.ga K "PlanError") "__init__", He.ga K "Plan", He.ga K "thread_number"⟩) := mkCal F_l_network g_l_network b_l_network (ok_l_network T rfl F_l_network C_l_pick C_l_draw)
  have C_l_told : Cal P w K mg base "_law_told" (67) ["_law_core_here", "_law_network_here", "_law_places", "_law_homes"] (sp_l_told ⟨K, w, He.ga K "PlanError", He.ga K "PlacedError", He.ma K (He.ga K "PlanError") "__init__", He.ga K "Plan", He.ga K "thread_number"⟩) := mkCal F_l_told g_l_told b_l_told (ok_l_told T rfl F_l_told C_PlanError C_make_plan)
  exact (ok_law T rfl F_law C_l_state C_l_core C_l_draw C_l_network (C_lt 61) C_make_plan.quiet C_next_hops C_l_pick C_l_told C_spread)
end K41
open PySem PySem.W PySem.Calls PyProof.Rows
theorem PySem.Challenge.cw_placedanyhow_k41_plans_that_fit_holds : PySem.Challenge.rw_placedanyhow_k41_plans_that_fit.Holds := by
  w_on; o_law
  refine HandSHeadRun.head_any (r := OpenLaw.row PySem.Challenge.rw_placedanyhow_k41_plans_that_fit) (q := view (OpenLaw.row PySem.Challenge.rw_placedanyhow_k41_plans_that_fit).prog [46]) (H := K41.hk) (ob := K41.ob) (M := 4000) (loose := K41.lo) (d := HandSHeadRun.topDef (OpenLaw.row PySem.Challenge.rw_placedanyhow_k41_plans_that_fit).prog 46) (kwd := []) K41.ob_eq
    (by kernel_rfl) (fun s => by kernel_rfl) K41.run (by kernel_rfl) (by kernel_rfl) (by kernel_rfl) (by rfl) (by first | assumption | decide +kernel) (by decide +kernel) ⟨rfl, rfl, rfl, rfl, rfl, by decide +kernel⟩ ?hw ?hc
  case hw => w_witness2
  case hc =>
    refine Lb.walk_G (l := PySem.Challenge.rw_placedanyhow_k41_plans_that_fit) (n := 63) (k := 80) (x := "_law_script") rfl (by decide) (by kernel_rfl) ⟨rfl, by decide, by decide⟩ ?F
    intro w mg fa h Y G hmg0
    obtain ⟨K, KX, cx⟩ := Y
    have c := cx.1
    have hmg : mg ("law" : PySem.Str) = some (.ref fa) := by
      have e : (HandSHeadRun.topDef (OpenLaw.row PySem.Challenge.rw_placedanyhow_k41_plans_that_fit).prog 46).name = ("law" : PySem.Str) := by kernel_rfl
      rw [← e]
      exact hmg0
    obtain ⟨fd, hb, hF⟩ := K41.facts (P := (PySem.Challenge.rw_placedanyhow_k41_plans_that_fit).prog) (w := w) KX G hmg c cx.2
    exact ⟨K, fd, K41.sp_law ⟨K, w, He.ga K "PlanError", He.ga K "PlacedError", He.ma K (He.ga K "PlanError") "__init__", He.ga K "Plan", He.ga K "thread_number"⟩, KX, hb, fun H a ns hl _ hS => ⟨a, ns, rfl, hS, hl, K41.cf cx.2 c, fun _ => rfl⟩, hF⟩

