import PyProof.Rows.All
import Wide.All
import OpenK.AllK
import Wide.FinOn
import HandS.ForMost
import HandS.IsInst
import HandS.Defaults
import HandS.More
import HandS.Head0
import HandS.Head1
import HandS.Head2
import HandS.HeadEnd
import HandS.HeadHook1
import HandS.HeadHook2
import HandS.HeadHook3
import HandS.HeadHook4
import HandS.Style
import HandS.TryOnly
import KE.KAssignIn
import HandS.Strs
import HandS.Text
import HandS.ExcInit
import HandS.ExcField
import HandS.ExcOwn
import HandS.WordsExc
import HandS.ClsMeth
import KE.KExcIs
import HandS.Iter
import HandS.SortOrd
import HandS.SortRule
import HandS.Conv
import HandS.Walk
import KE.KDictSum
import HandS.SetBool
import HandS.Rev
import HandS.Deep
import PySem.Challenge.RW_placedanyhow_k40_networks_and_hops
set_option Elab.async false
set_option linter.all false
set_option maxRecDepth 100000
set_option maxHeartbeats 4000000
/-! Lb: readings that compute, callables by name, data in the heap, the drawing of numbers. Knows no program. -/
namespace Lb
open PySem PySem.Spec PyProof.Rows L2

/-! ### weaker readings -/
section
variable {X : Cx} {e : Expr} {st : Stmt}
theorem pe_imp {t u : TE} (h : PE X e t) (k : ∀ σ H Q, u σ H Q → t σ H Q) : PE X e u := ⟨fun pins s σ H Q I hw => h.run pins s σ H Q I (k σ H Q hw)⟩
theorem pt_imp {t u : TT} (h : PT X e t) (k : ∀ σ H Q, u σ H Q → t σ H Q) : PT X e u := ⟨fun pins s σ H Q I hw => h.run pins s σ H Q I (k σ H Q hw)⟩
theorem ps_imp {t u : TS} (h : PS X st t) (k : ∀ D σ H, u D σ H → t D σ H) : PS X st u := ⟨fun pins s σ H D I hw => h.run pins s σ H D I (k D σ H hw)⟩
end

/-- a reading, made monotone -/
def upE (t : TE) : TE := fun σ H Q => ∃ R : VK, t σ H R ∧ ∀ x H', R x H' → Q x H'
def upT (t : TT) : TT := fun σ H Q => ∃ R : Bool → Hp → Prop, t σ H R ∧ ∀ x H', R x H' → Q x H'
theorem pe_up {X : Cx} {e : Expr} {t : TE} (h : PE X e t) : PE X e (upE t) := ⟨fun pins s σ H Q I ⟨R, h1, h2⟩ => thn (h.run pins s σ H R I h1) fun _ _ ⟨v, H', I', r, q⟩ => ⟨v, H', I', r, h2 v H' q⟩⟩
theorem pt_up {X : Cx} {e : Expr} {t : TT} (h : PT X e t) : PT X e (upT t) := ⟨fun pins s σ H Q I ⟨R, h1, h2⟩ => thn (h.run pins s σ H R I h1) fun _ _ ⟨H', I', q⟩ => ⟨H', I', h2 _ H' q⟩⟩

/-! ### callables: a def, a method, a class, each with its promise -/
structure Cal (P : Program) (w : World) (K : PySem.W.Frag) (mg : Str → Option Value) (base : Heap) (x : Str) (k : Nat) (ps : List Str) (sp : Sp) : Prop where
  ex : ∃ (f : Addr) (fd : FuncData), mg x = some (.ref f) ∧ PySem.W.keepIn K (.ref f) = true ∧ Binds K fd ps [] ∧ FnOk P w K mg base CX0 k f fd ps sp
structure CalM (P : Program) (w : World) (K : PySem.W.Frag) (mg : Str → Option Value) (base : Heap) (C : Addr) (m : Str) (k : Nat) (ps : List Str) (sp : Sp) : Prop where
  ex : ∃ (f : Addr) (fd : FuncData), Cls K C ∧ Meth K C m f ∧ Binds K fd ps [] ∧ FnOk P w K mg base CX0 k f fd ps sp
structure CalC (P : Program) (w : World) (K : PySem.W.Frag) (mg : Str → Option Value) (base : Heap) (x : Str) (C : Addr) (k : Nat) (ps : List Str) (sp : Sp) : Prop where
  ex : ∃ (f : Addr) (fd : FuncData), mg x = some (.ref C) ∧ Mk K C f ∧ Binds K fd ps [] ∧ FnOk P w K mg base CX0 k f fd ps sp
/-- a name of the module that holds a known value -/
structure GV (mg : Str → Option Value) (x : Str) (v : V) : Prop where
  ex : ∃ u, mg x = some u ∧ RelV v u
section
variable {X : Cx} {x m : Str} {C : Addr} {p pos apos : Pos} {o e : Expr} {es : List Expr} {ta : TE} {t : TA} {k : Nat} {ps : List Str} {sp : Sp} {v : V}
theorem pe_gv (c : GV X.mg x v) (hg : Gl X x) (hd : (x == ("__debug__" : Str)) = false := by decide) : PE X (.Name x pos) (tC v) := by
  obtain ⟨u, hm, r⟩ := c.ex
  exact pe_glob hg hm r hd
theorem pe_cal (c : Cal X.prog X.w X.K X.mg X.base x k ps sp) (hr : Room k X.A) (hg : Gl X x) (ha : PA X (e :: es) t) (hdb : (x == ("__debug__" : Str)) = false := by decide)
    (he : starEach (e :: es) X.env = (false, eval e X.env) :: starEach es X.env := by rfl) (hpl : (backTo pos (starEach es X.env)).any (·.1) = false := by rfl) : PE X (.Call (.Name x p) (e :: es) [] pos) (tCall sp [] E0 t) := by
  obtain ⟨f, fd, hm, hk, hb, F⟩ := c.ex
  exact pe_call F hr hg hm hk hb .nil pass0 ha hdb he hpl
theorem pe_cal0 (c : Cal X.prog X.w X.K X.mg X.base x k ps sp) (hr : Room k X.A) (hg : Gl X x) (hdb : (x == ("__debug__" : Str)) = false := by decide) : PE X (.Call (.Name x p) [] [] pos) (tCall sp [] E0 tNil) := by
  obtain ⟨f, fd, hm, hk, hb, F⟩ := c.ex
  exact pe_call0 F hr hg hm hk hb .nil pass0 hdb
theorem pe_calM {pl : Sem Bool} (he : PE X o ta) (c : CalM X.prog X.w X.K X.mg X.base C m k ps sp) (hr : Room k X.A) (ha : PA X (e :: es) t)
    (hst : starEach (e :: es) X.env = (false, eval e X.env) :: starEach es X.env := by rfl) (hpl : (backTo pos (starEach es X.env)).any (·.1) = false := by rfl)
    (ht : eval (.Call (.Attribute o m apos) (e :: es) [] pos) X.env = (do
      let ov ← eval o X.env
      standAt apos.atName
      let (f, first) ← holding [ov] (getMethod ov m pl)
      callWith pos f first (backTo pos (starEach (e :: es) X.env)) (backToKw pos (keywordEach [] X.env))) := by rfl) : PE X (.Call (.Attribute o m apos) (e :: es) [] pos) (tMeth C m sp [] E0 ta t) := by
  obtain ⟨f, fd, hc, hm, hb, F⟩ := c.ex
  exact pe_meth he hc hm F hr hb .nil pass0 ha hst hpl ht
theorem pe_calM0 {pl : Sem Bool} (he : PE X o ta) (c : CalM X.prog X.w X.K X.mg X.base C m k ps sp) (hr : Room k X.A)
    (ht : eval (.Call (.Attribute o m apos) [] [] pos) X.env = (do
      let ov ← eval o X.env
      standAt apos.atName
      let (f, first) ← holding [ov] (getMethod ov m pl)
      callWith pos f first (backTo pos (starEach [] X.env)) (backToKw pos (keywordEach [] X.env))) := by rfl) : PE X (.Call (.Attribute o m apos) [] [] pos) (tMeth C m sp [] E0 ta tNil) := by
  obtain ⟨f, fd, hc, hm, hb, F⟩ := c.ex
  exact pe_meth0 he hc hm F hr hb .nil pass0 ht
theorem pe_calC (c : CalC X.prog X.w X.K X.mg X.base x C k ps sp) (hr : Room (k + 1) X.A) (hg : Gl X x) (ha : PA X (e :: es) t) (hdb : (x == ("__debug__" : Str)) = false := by decide)
    (he : starEach (e :: es) X.env = (false, eval e X.env) :: starEach es X.env := by rfl) (hpl : (backTo pos (starEach es X.env)).any (·.1) = false := by rfl) : PE X (.Call (.Name x p) (e :: es) [] pos) (tMake C sp [] E0 t) := by
  obtain ⟨f, fd, hm, M, hb, F⟩ := c.ex
  exact pe_make M F hr hg hm hb .nil pass0 ha hdb he hpl
theorem pe_calC0 (c : CalC X.prog X.w X.K X.mg X.base x C k ps sp) (hr : Room (k + 1) X.A) (hg : Gl X x) (hdb : (x == ("__debug__" : Str)) = false := by decide) : PE X (.Call (.Name x p) [] [] pos) (tMake C sp [] E0 tNil) := by
  obtain ⟨f, fd, hm, M, hb, F⟩ := c.ex
  exact pe_make0 M F hr hg hm hb .nil pass0 hdb
end

/-! ### readings that compute -/
def rAddA : R2 := fun x y H Q => match x, y with
  | .int a, .int b => Q (.int (a + b)) H
  | .str a, .str b => a.length + b.length ≤ sizeLine ∧ Q (.str (a ++ b)) H
  | .ref p, .ref q => (match H p, H q with
    | some (.lst xs), some (.lst ys) => xs.length + ys.length ≤ sizeLine ∧ ∀ r, H r = none → Q (.ref r) (upd H r (.lst (xs ++ ys)))
    | _, _ => False)
  | _, _ => False
def rMulA : R2 := fun x y H Q => match x, y with
  | .int a, .int b => CMul a b ∧ Q (.int (a * b)) H
  | .ref p, .int k => (match H p with
    | some (.lst xs) => -(2 ^ 63) ≤ k ∧ k < 2 ^ 63 ∧ xs.length * k.toNat ≤ sizeLine ∧ ∀ r, H r = none → Q (.ref r) (upd H r (.lst (List.replicate k.toNat xs).flatten))
    | _ => False)
  | _, _ => False
def eqF : V → V → Option Bool
  | .int a, .int b => some (decide (a = b))
  | .str a, .str b => some (decide (a = b))
  | .bl a, .bl b => some (decide (a = b))
  | .non, .non => some true
  | .non, .int _ => some false
  | .int _, .non => some false
  | .non, .str _ => some false
  | .str _, .non => some false
  | .non, .bl _ => some false
  | .bl _, .non => some false
  | .int _, .str _ => some false
  | .str _, .int _ => some false
  | _, _ => none
def rEqA (K : PySem.W.Frag) : R2 := fun x y H Q => match eqF x y with
  | some b => Q (.bl b) H
  | none => rEqD K x y H Q
def rNeA (K : PySem.W.Frag) : R2 := fun x y H Q => match eqF x y with
  | some b => Q (.bl (!b)) H
  | none => rNeD K x y H Q
def rIsN : R2 := fun x y H Q => y = .non ∧ Q (.bl (decide (x = .non))) H
def rNotN : R2 := fun x y H Q => y = .non ∧ Q (.bl (!decide (x = .non))) H
/-- an item of a list, a tuple, a text -/
def rIxA : R2 := fun x y H Q => match x, y with
  | .ref p, .int i => (match H p with
    | some (.lst xs) => ∃ v, atI xs i = some v ∧ Q v H
    | some (.tup xs) => ∃ v, atI xs i = some v ∧ Q v H
    | _ => False)
  | .str z, .int i => z.length ≤ sizeLine ∧ ∃ c, atI z.cps.toList i = some c ∧ Q (.str ⟨#[c]⟩) H
  | _, _ => False
def rSlA : V → Option Int → Option Int → Hp → VK → Prop := fun x lo hi H Q => match x with
  | .ref p => (match H p with
    | some (.lst xs) => ∀ q, H q = none → Q (.ref q) (upd H q (.lst (cutV xs lo hi)))
    | some (.tup xs) => ¬ (HT.sIx xs.length 0 lo = 0 ∧ HT.sIx xs.length xs.length hi = xs.length) ∧ ∀ q, H q = none → Q (.ref q) (upd H q (.tup (cutV xs lo hi)))
    | _ => False)
  | _ => False
def rLenA : List V → Hp → VK → Prop := fun vs H Q => match vs with
  | [.str y] => y.length ≤ sizeLine ∧ Q (.int y.length) H
  | [.ref p] => (match H p with
    | some (.lst xs) => Q (.int xs.length) H
    | some (.tup xs) => Q (.int xs.length) H
    | some (.dK kvs) => Q (.int kvs.length) H
    | _ => False)
  | _ => False
def rIntA : List V → Hp → VK → Prop := fun vs H Q => match vs with
  | [.int i] => Q (.int i) H
  | [.bl k] => Q (.int (if k = true then 1 else 0)) H
  | _ => False
def rAbsA : List V → Hp → VK → Prop := fun vs H Q => match vs with
  | [.int i] => Q (.int (if i < 0 then -i else i)) H
  | _ => False
def rListA : List V → Hp → VK → Prop := fun vs H Q => match vs with
  | [.ref p] => (match H p with
    | some (.lst xs) => ∀ l, H l = none → Q (.ref l) (upd H l (.lst xs))
    | some (.tup xs) => ∀ l, H l = none → Q (.ref l) (upd H l (.lst xs))
    | _ => False)
  | _ => False
def rTupA : List V → Hp → VK → Prop := fun vs H Q => match vs with
  | [.ref p] => (match H p with
    | some (.lst xs) => ∀ l, H l = none → Q (.ref l) (upd H l (.tup xs))
    | some (.tup _) => Q (.ref p) H
    | _ => False)
  | _ => False
def tyN (x : V) (H : Hp) : Option String := match x with
  | .non => some "NoneType"
  | .bl _ => some "bool"
  | .int _ => some "int"
  | .str _ => some "str"
  | .ref p => (match H p with
    | some (.lst _) => some "list"
    | some (.tup _) => some "tuple"
    | some (.dK _) => some "dict"
    | some (.dT _) => some "dict"
    | _ => none)
  | _ => none
def rIsiA : List V → Hp → VK → Prop := fun vs H Q => match vs with
  | [x, .ty T] => (match tyN x H with
    | some t => ∃ b, kitB t T = some b ∧ Q (.bl b) H
    | none => False)
  | _ => False
def isL (x : V) (H : Hp) : Prop := match x with
  | .ref p => (match H p with
    | some (.lst _) => True
    | _ => False)
  | _ => False
/-- a method of a list -/
def tBML (r : V → List V → Hp → VK → Prop) (to : TE) (t : TA) : TE := fun σ H Q => to σ H fun x H1 => isL x H1 ∧ t σ H1 fun xs H2 => r x xs H2 Q
def rAppA : V → List V → Hp → VK → Prop := fun x vs H Q => match x, vs with
  | .ref l, [y] => (match H l with
    | some (.lst xs) => xs.length < sizeLine ∧ Q .non (upd H l (.lst (xs ++ [y])))
    | _ => False)
  | _, _ => False
def rExtA : V → List V → Hp → VK → Prop := fun x vs H Q => match x, vs with
  | .ref l, [.ref q] => (match H l, H q with
    | some (.lst xs), some (.lst ys) => xs.length + ys.length ≤ sizeLine ∧ Q .non (upd H l (.lst (xs ++ ys)))
    | _, _ => False)
  | _, _ => False
def rPopL : V → List V → Hp → VK → Prop := fun x vs H Q => match x, vs with
  | .ref l, [] => (match H l with
    | some (.lst xs) => ∃ y, xs[xs.length - 1]? = some y ∧ Q y (upd H l (.lst xs.dropLast))
    | _ => False)
  | _, _ => False
def rPopI : V → List V → Hp → VK → Prop := fun x vs H Q => match x, vs with
  | .ref l, [.int i] => (match H l with
    | some (.lst xs) => ∃ (k : Nat) (y : V), i = (k : Int) ∧ k < 2 ^ 62 ∧ xs[k]? = some y ∧ Q y (upd H l (.lst (xs.eraseIdx k)))
    | _ => False)
  | _, _ => False
def rSetA : TSet := fun o i v H Q => match o, i with
  | .ref p, .int k => (match H p with
    | some (.lst xs) => ∃ j, ixN xs.length k = some j ∧ Q (upd H p (.lst (xs.set j v)))
    | _ => False)
  | _, _ => False
section
variable {X : Cx}
theorem op_addA : OpR X (binaryOp .Add) rAddA := by
  intro pins s σ H x y v u Q I rx ry h
  unfold rAddA at h
  split at h
  · exact op_add pins s σ H _ _ v u Q I rx ry ⟨_, _, rfl, rfl, h⟩
  · exact op_add_str pins s σ H _ _ v u Q I rx ry ⟨_, _, rfl, rfl, h⟩
  · split at h
    · rename_i h1 h2
      exact op_cat pins s σ H _ _ v u Q I rx ry ⟨_, _, _, _, rfl, rfl, h1, h2, h⟩
    · exact h.elim
  · exact h.elim
theorem op_mulA : OpR X (binaryOp .Mult) rMulA := by
  intro pins s σ H x y v u Q I rx ry h
  unfold rMulA at h
  split at h
  · exact op_mul pins s σ H _ _ v u Q I rx ry ⟨_, _, rfl, rfl, h⟩
  · split at h
    · rename_i h1
      exact op_rep pins s σ H _ _ v u Q I rx ry ⟨_, _, _, rfl, rfl, h1, h⟩
    · exact h.elim
  · exact h.elim
theorem eqF_ok {x y : V} {b : Bool} (h : eqF x y = some b) : scal x y = true ∧ decide (x = y) = b := by
  cases x <;> cases y <;> simp only [eqF, Option.some.injEq, reduceCtorEq] at h <;> (subst h; refine ⟨rfl, ?_⟩; simp)
theorem op_eqA (hu : X.A.units + 64 < cLine) : OpR X (compareOp .Eq) (rEqA X.K) := by
  intro pins s σ H x y v u Q I rx ry h
  unfold rEqA at h
  split at h
  · rename_i b e
    obtain ⟨h1, h2⟩ := eqF_ok e
    exact op_eq pins s σ H x y v u Q I rx ry ⟨h1, by rw [h2]; exact h⟩
  · exact op_eqD hu pins s σ H x y v u Q I rx ry h
theorem op_neA (hu : X.A.units + 64 < cLine) : OpR X (compareOp .NotEq) (rNeA X.K) := by
  intro pins s σ H x y v u Q I rx ry h
  unfold rNeA at h
  split at h
  · rename_i b e
    obtain ⟨h1, h2⟩ := eqF_ok e
    exact op_ne pins s σ H x y v u Q I rx ry ⟨h1, by rw [h2]; exact h⟩
  · exact op_neD hu pins s σ H x y v u Q I rx ry h
theorem op_isNA : OpR X (compareOp .Is) rIsN := op_isN
theorem op_notNA : OpR X (compareOp .IsNot) rNotN := op_notN
theorem ix_A : IxR X rIxA := by
  intro value slice pins s σ H x y v u Q I rx ry h hs
  unfold rIxA at h
  split at h
  · split at h
    · rename_i h1
      obtain ⟨w, h2, h3⟩ := h
      exact ix_list value slice pins s σ H _ _ v u Q I rx ry ⟨_, _, _, _, rfl, rfl, SqL.of h1, h2, h3⟩ hs
    · rename_i h1
      obtain ⟨w, h2, h3⟩ := h
      exact ix_tup value slice pins s σ H _ _ v u Q I rx ry ⟨_, _, _, _, rfl, rfl, SqT.of h1, h2, h3⟩ hs
    · exact h.elim
  · obtain ⟨h1, c, h2, h3⟩ := h
    exact ix_str value slice pins s σ H _ _ v u Q I rx ry ⟨_, _, _, rfl, rfl, h1, h2, h3⟩ hs
  · exact h.elim
theorem sl_A : SlR X rSlA := by
  intro pins s σ H x v vl vu lo hi sl Q I rx hs pl pu h
  unfold rSlA at h
  split at h
  · split at h
    · rename_i h1
      exact sl_list pins s σ H _ v vl vu lo hi sl Q I rx hs pl pu ⟨_, _, rfl, SqL.of h1, h⟩
    · rename_i h1
      exact sl_tup pins s σ H _ v vl vu lo hi sl Q I rx hs pl pu ⟨_, _, rfl, SqT.of h1, h⟩
    · exact h.elim
  · exact h.elim
theorem call_lenA : CallR X (.builtin "len") rLenA := by
  intro pins s σ H vs us Q I r h
  unfold rLenA at h
  split at h
  · exact call_len_str pins s σ H _ us Q I r ⟨_, rfl, h⟩
  · split at h
    · rename_i h1
      exact call_len_seq pins s σ H _ us Q I r ⟨_, _, rfl, .inl (SqL.of h1), h⟩
    · rename_i h1
      exact call_len_seq pins s σ H _ us Q I r ⟨_, _, rfl, .inr (SqT.of h1), h⟩
    · rename_i h1
      exact call_lenD pins s σ H _ us Q I r ⟨_, _, rfl, h1, h⟩
    · exact h.elim
  · exact h.elim
theorem call_intA : CallR X (.type "int") rIntA := by
  intro pins s σ H vs us Q I r h
  unfold rIntA at h
  split at h
  · exact call_int1 pins s σ H _ us Q I r (.inl ⟨_, rfl, h⟩)
  · exact call_int1 pins s σ H _ us Q I r (.inr ⟨_, rfl, h⟩)
  · exact h.elim
theorem call_absA : CallR X (.builtin "abs") rAbsA := by
  intro pins s σ H vs us Q I r h
  unfold rAbsA at h
  split at h
  · exact call_abs pins s σ H _ us Q I r ⟨_, rfl, h⟩
  · exact h.elim
theorem call_listA : CallR X (.type "list") rListA := by
  intro pins s σ H vs us Q I r h
  unfold rListA at h
  split at h
  · split at h
    · rename_i h1
      exact call_list_of pins s σ H _ us Q I r ⟨_, _, rfl, .inl (SqL.of h1), h⟩
    · rename_i h1
      exact call_list_of pins s σ H _ us Q I r ⟨_, _, rfl, .inr (SqT.of h1), h⟩
    · exact h.elim
  · exact h.elim
theorem call_tupA : CallR X (.type "tuple") rTupA := by
  intro pins s σ H vs us Q I r h
  unfold rTupA at h
  split at h
  · split at h
    · rename_i h1
      exact call_tuple_of pins s σ H _ us Q I r ⟨_, _, rfl, .inl ⟨SqL.of h1, h⟩⟩
    · rename_i h1
      exact call_tuple_of pins s σ H _ us Q I r ⟨_, _, rfl, .inr ⟨SqT.of h1, h⟩⟩
    · exact h.elim
  · exact h.elim
theorem tyN_ok {K : PySem.W.Frag} {x : V} {H : Hp} {t : String} (h : tyN x H = some t) : TyX K H x (.type t) := by
  unfold tyN at h
  split at h
  · cases h; exact .base .non
  · cases h; exact .base (.bl _)
  · cases h; exact .base (.int _)
  · cases h; exact .base (.str _)
  · split at h
    · rename_i h1; cases h; exact .base (.lst h1)
    · rename_i h1; cases h; exact .base (.tup h1)
    · rename_i h1; cases h; exact .base (.dK h1)
    · rename_i h1; cases h; exact .base (.dT h1)
    · cases h
  · cases h
theorem call_isiA : CallR X (.builtin "isinstance") rIsiA := by
  intro pins s σ H vs us Q I r h
  unfold rIsiA at h
  split at h
  · split at h
    · rename_i h1
      obtain ⟨b, h2, h3⟩ := h
      exact call_isi pins s σ H _ us Q I r ⟨_, _, _, _, b, rfl, .ty _, tyN_ok h1, kit_ty h2, h3⟩
    · exact h.elim
  · exact h.elim
theorem isL_ty {K : PySem.W.Frag} {x : V} {H : Hp} (h : isL x H) : tyV K "list" x H := by
  unfold isL at h
  split at h
  · split at h
    · rename_i h1
      exact .inl ⟨rfl, _, SqL.of h1⟩
    · exact h.elim
  · exact h.elim
theorem mt_appA : MtR X "list.append" rAppA := by
  intro pins s σ H x vs v us Q I rx rv h
  unfold rAppA at h
  split at h
  · split at h
    · rename_i h1
      exact mt_append pins s σ H _ _ v us Q I rx rv ⟨_, _, _, rfl, rfl, h1, h⟩
    · exact h.elim
  · exact h.elim
theorem mt_extA : MtR X "list.extend" rExtA := by
  intro pins s σ H x vs v us Q I rx rv h
  unfold rExtA at h
  split at h
  · split at h
    · rename_i h1 h2
      exact mt_extend pins s σ H _ _ v us Q I rx rv ⟨_, _, _, _, rfl, rfl, h1, h2, h⟩
    · exact h.elim
  · exact h.elim
theorem mt_popL : MtR X "list.pop" rPopL := by
  intro pins s σ H x vs v us Q I rx rv h
  unfold rPopL at h
  split at h
  · split at h
    · rename_i h1
      obtain ⟨y, h2, h3⟩ := h
      exact mt_pop pins s σ H _ _ v us Q I rx rv ⟨_, _, _, rfl, rfl, h1, h2, h3⟩
    · exact h.elim
  · exact h.elim
theorem seqIx_nat {n k : Nat} (h : k < n) : seqIndex? (k : Int) n = some k := by
  obtain ⟨h1, _⟩ := ixN_seq (n := n) (i := (k : Int)) (j := k) (by unfold ixN; rw [if_pos (by omega), if_pos (by omega)]; simp)
  exact h1
theorem mt_popI : MtR X "list.pop" rPopI := by
  intro pins s σ H x vs v us Q I rx rv h
  unfold rPopI at h
  split at h
  · split at h
    · rename_i h1
      obtain ⟨k, y, h2, h3, h4, h5⟩ := h
      have hk := (List.getElem?_eq_some_iff.mp h4).1
      subst h2
      exact mt_popAt pins s σ H _ _ v us Q I rx rv ⟨_, _, _, k, y, rfl, rfl, h1, by omega, by omega, seqIx_nat hk, h4, h5⟩
    · exact h.elim
  · exact h.elim
theorem set_A : PSet X rSetA := by
  intro pins s σ H o i v ov iv u Q I ro ri rv h
  unfold rSetA at h
  split at h
  · split at h
    · rename_i h1
      obtain ⟨j, h2, h3⟩ := h
      exact set_list pins s σ H _ _ v ov iv u Q I ro ri rv ⟨_, _, _, _, rfl, rfl, h1, h2, h3⟩
    · exact h.elim
  · exact h.elim
variable {o e : Expr} {es : List Expr} {to : TE} {t : TA} {name : Str} {apos cpos : Pos} {id : String} {r : V → List V → Hp → VK → Prop}
theorem pe_bml0 (slot : Slot "list" name id) (hty : typeOf (.builtin id) = pure (.type "method_descriptor")) (hm : MtR X id r) (ho : PE X o to)
    (hbase : attributeBase o name X.env (eval o X.env) = eval o X.env := by rfl) (hline : (apos.endLine == cpos.line) = true := by rfl) : PE X (.Call (.Attribute o name apos) [] [] cpos) (tBML r to tNil) :=
  pe_imp (pe_bm0 PySem.F.plainAttrs_list slot hty hm (pe_up ho) hbase hline) fun σ H Q h => ⟨_, h, fun x H' q => ⟨isL_ty q.1, q.2⟩⟩
theorem pe_bml (slot : Slot "list" name id) (hty : typeOf (.builtin id) = pure (.type "method_descriptor")) (hm : MtR X id r) (ho : PE X o to) (ha : PA X (e :: es) t)
    (hbase : attributeBase o name X.env (eval o X.env) = eval o X.env := by rfl)
    (hfew : ((backTo cpos (starEach (e :: es) X.env)).all (fun x => !x.1) && (backToKw cpos (keywordEach [] X.env)).all (fun x => x.1.isSome)
      && decide ((e :: es).length + ([] : List Keyword).length + (if ([] : List Keyword).isEmpty then 0 else 1) < 30)) = true := by rfl)
    (hline : (apos.endLine == cpos.line) = true := by rfl) (hs : starEach (e :: es) X.env = (false, eval e X.env) :: starEach es X.env := by rfl) (hplain : (backTo cpos (starEach es X.env)).any (·.1) = false := by rfl) :
    PE X (.Call (.Attribute o name apos) (e :: es) [] cpos) (tBML r to t) :=
  pe_imp (pe_bm PySem.F.plainAttrs_list slot hty hm (pe_up ho) ha hbase hfew hline hs hplain) fun σ H Q h => ⟨_, h, fun x H' q => ⟨isL_ty q.1, q.2⟩⟩
end
end Lb
set_option Elab.async false
set_option linter.all false
set_option maxRecDepth 100000
set_option maxHeartbeats 4000000
/-! Lc: what simp steps by, data in the heap, mutable places, the drawing of numbers. Knows no program. -/
namespace Lb
open PySem PySem.Spec PyProof.Rows L2

/-! ### steps of the readings, each at its arguments -/
section
variable {σ : L2.St} {H : Hp} {Q : VK} {D : Ends}
theorem ap_seq {t u : TS} : tSeq t u D σ H = t { D with nx := u D } σ H := rfl
theorem ap_asg {te : TE} {g : TG} : tAsg te g D σ H = te σ H fun x H1 => g x σ H1 D.nx := rfl
theorem ap_gname {i : Nat} {v : V} {R : L2.St → Hp → Prop} : gName i v σ H R = R (σ.set i (some v)) H := rfl
theorem ap_var {i : Nat} : tVar i σ H Q = ∃ v, σ[i]? = some (some v) ∧ Q v H := rfl
theorem ap_c {v : V} : tC v σ H Q = Q v H := rfl
theorem ap_op {r : R2} {ta tb : TE} : tOp r ta tb σ H Q = ta σ H fun x H1 => tb σ H1 fun y H2 => r x y H2 Q := rfl
theorem ap_un {r : V → Hp → VK → Prop} {ta : TE} : tUn r ta σ H Q = ta σ H fun x H1 => r x H1 Q := rfl
theorem ap_rU {g : Int → V} {i : Int} : rU g (.int i) H Q = Q (g i) H := by
  apply propext
  constructor
  · rintro ⟨j, e, q⟩
    cases e
    exact q
  · intro q
    exact ⟨_, rfl, q⟩
theorem ap_rI0 {g : Int → Int → V} {i j : Int} : rI0 g (.int i) (.int j) H Q = Q (g i j) H := by
  apply propext
  constructor
  · rintro ⟨a, b, e1, e2, q⟩
    cases e1
    cases e2
    exact q
  · intro q
    exact ⟨_, _, rfl, rfl, q⟩
theorem ap_rI {C : Int → Int → Prop} {g : Int → Int → V} {i j : Int} : rI C g (.int i) (.int j) H Q = (C i j ∧ Q (g i j) H) := by
  apply propext
  constructor
  · rintro ⟨a, b, e1, e2, q⟩
    cases e1
    cases e2
    exact q
  · intro q
    exact ⟨_, _, rfl, rfl, q⟩
theorem ap_ifS {c : TT} {t u : TS} : tIfS c t u D σ H = c σ H fun b H1 => if b = true then t D σ H1 else u D σ H1 := rfl
theorem ap_test {t : TE} {R : Bool → Hp → Prop} : tTest t σ H R = t σ H fun x H' => ∃ k, x = .bl k ∧ R k H' := rfl
theorem ap_B {t : TE} {R : Bool → Hp → Prop} : tB t σ H R = t σ H fun x H' => ∃ k, x = .bl k ∧ R k H' := rfl
theorem ap_bl {b : Bool} {R : Bool → Hp → Prop} : (∃ k, V.bl b = .bl k ∧ R k H) = R b H := by
  apply propext
  constructor
  · rintro ⟨k, e, q⟩
    cases e
    exact q
  · intro q
    exact ⟨_, rfl, q⟩
theorem ap_ret {te : TE} : tRet te D σ H = te σ H D.rt := rfl
theorem ap_retN : tRetN D σ H = D.rt .non H := rfl
theorem ap_drop {te : TE} : tDrop te D σ H = te σ H fun _ H1 => D.nx σ H1 := rfl
theorem ap_next : tNext D σ H = D.nx σ H := rfl
theorem ap_brk : tBreak D σ H = D.bk σ H := rfl
theorem ap_cnt : tCont D σ H = D.ct σ H := rfl
theorem ap_and {t u : TT} {R : Bool → Hp → Prop} : tAnd t u σ H R = t σ H fun c H1 => if c = true then u σ H1 R else R false H1 := rfl
theorem ap_or {t u : TT} {R : Bool → Hp → Prop} : tOr t u σ H R = t σ H fun c H1 => if c = true then R true H1 else u σ H1 R := rfl
theorem ap_not {t : TT} {R : Bool → Hp → Prop} : tNot t σ H R = t σ H fun c H1 => R (!c) H1 := rfl
theorem ap_andV {ta tb : TE} : tAndV ta tb σ H Q = ta σ H fun x H1 => ∃ c, x = .bl c ∧ if c = true then tb σ H1 Q else Q (.bl false) H1 := rfl
theorem ap_orV {ta tb : TE} : tOrV ta tb σ H Q = ta σ H fun x H1 => ∃ c, x = .bl c ∧ if c = true then Q (.bl true) H1 else tb σ H1 Q := rfl
theorem ap_notV {ta : TE} : tNotV ta σ H Q = ta σ H fun x H1 => ∃ c, x = .bl c ∧ Q (.bl (!c)) H1 := rfl
theorem ap_if {t : TT} {ta tb : TE} : tIf t ta tb σ H Q = t σ H fun c H1 => if c = true then ta σ H1 Q else tb σ H1 Q := rfl
theorem ap_call {sp : Sp} {dvs : List V} {E : XK} {t : TA} : tCall sp dvs E t σ H Q = t σ H fun vs H1 => sp (vs ++ dvs) H1 Q E := rfl
theorem ap_cb {r : List V → Hp → VK → Prop} {t : TA} : tCB r t σ H Q = t σ H fun vs H1 => r vs H1 Q := rfl
theorem ap_cons {ta : TE} {tr : TA} {R : List V → Hp → Prop} : tCons ta tr σ H R = ta σ H fun x H1 => tr σ H1 fun xs H2 => R (x :: xs) H2 := rfl
theorem ap_nil {R : List V → Hp → Prop} : tNil σ H R = R [] H := rfl
theorem ap_tup {t : TA} : tTup t σ H Q = t σ H fun xs H1 => xs.length ≤ sizeLine ∧ ∀ p, H1 p = none → Q (.ref p) (upd H1 p (.tup xs)) := rfl
theorem ap_lst {t : TA} : tLst t σ H Q = t σ H fun xs H1 => xs.length ≤ sizeLine ∧ ∀ p, H1 p = none → Q (.ref p) (upd H1 p (.lst xs)) := rfl
theorem ap_bml {r : V → List V → Hp → VK → Prop} {to : TE} {t : TA} : tBML r to t σ H Q = to σ H fun x H1 => isL x H1 ∧ t σ H1 fun xs H2 => r x xs H2 Q := rfl
theorem ap_gsub {to ti : TE} {t : TSet} {v : V} {R : L2.St → Hp → Prop} : gSub to ti t v σ H R = to σ H fun o H1 => ti σ H1 fun i H2 => t o i v H2 fun H3 => R σ H3 := rfl
theorem ap_sl {r : V → Option Int → Option Int → Hp → VK → Prop} {te : TE} {tl th : TO} : tSl r te tl th σ H Q = te σ H fun x H1 => tl σ H1 fun l H2 => th σ H2 fun u H3 => r x l u H3 Q := rfl
theorem ap_nop {R : Option Int → Hp → Prop} : tNoPart σ H R = R none H := rfl
theorem ap_part {t : TE} {R : Option Int → Hp → Prop} : tPart t σ H R = t σ H fun x H1 => ∃ i, x = .int i ∧ R (some i) H1 := rfl
theorem ap_prt {i : Int} {R : Option Int → Hp → Prop} : (∃ j, V.int i = .int j ∧ R (some j) H) = R (some i) H := by
  apply propext
  constructor
  · rintro ⟨k, e, q⟩
    cases e
    exact q
  · intro q
    exact ⟨_, rfl, q⟩
theorem ap_isN {x : V} : rIsN x .non H Q = Q (.bl (decide (x = .non))) H := by
  apply propext
  constructor
  · rintro ⟨_, q⟩
    exact q
  · intro q
    exact ⟨rfl, q⟩
theorem ap_notN {x : V} : rNotN x .non H Q = Q (.bl (!decide (x = .non))) H := by
  apply propext
  constructor
  · rintro ⟨_, q⟩
    exact q
  · intro q
    exact ⟨rfl, q⟩
theorem ap_yes {R : Bool → Hp → Prop} : tYes σ H R = R true H := rfl
theorem ap_rng1 {ta : TA} {R : It → Hp → Prop} : iRng1 ta σ H R = ta σ H fun vs H1 => ∃ j : Int, vs = [.int j] ∧ -(2 ^ 62) ≤ j ∧ j < 2 ^ 62 ∧ R (Itr 0 j.toNat) H1 := rfl
theorem ap_rng1' {j : Int} {R : It → Hp → Prop} : (∃ i : Int, [V.int j] = [.int i] ∧ -(2 ^ 62) ≤ i ∧ i < 2 ^ 62 ∧ R (Itr 0 i.toNat) H) = (-(2 ^ 62) ≤ j ∧ j < 2 ^ 62 ∧ R (Itr 0 j.toNat) H) := by
  apply propext
  constructor
  · rintro ⟨k, e, q⟩
    cases e
    exact q
  · intro q
    exact ⟨_, rfl, q⟩
theorem ite_tt {A B : Prop} : (if true = true then A else B) = A := if_pos rfl
theorem ite_ff {A B : Prop} : (if false = true then A else B) = B := if_neg Bool.false_ne_true
end

/-! ### heaps that grow -/
theorem Same.newp {H : Hp} {p : Addr} {o : HO} (h : H p = none) : Same H (upd H p o) := fun b u e => by
  rw [upd_ne (ne_of_none e h)]
  exact e
/-- the heap without the places of S -/
def hid (S : List Addr) (H : Hp) : Hp := fun b => if b ∈ S then none else H b
theorem hid_out {S : List Addr} {H : Hp} {b : Addr} (h : b ∉ S) : hid S H b = H b := if_neg h
theorem hid_in {S : List Addr} {H : Hp} {b : Addr} (h : b ∈ S) : hid S H b = none := if_pos h
theorem hid_sub {S : List Addr} {H : Hp} : Same (hid S H) H := fun b o e => by
  by_cases h : b ∈ S
  · rw [hid_in h] at e
    cases e
  · rw [hid_out h] at e
    exact e
theorem hid_some {S : List Addr} {H : Hp} {b : Addr} {o : HO} (h : hid S H b = some o) : H b = some o ∧ b ∉ S := by
  by_cases q : b ∈ S
  · rw [hid_in q] at h
    cases h
  · rw [hid_out q] at h
    exact ⟨h, q⟩
theorem hid_upd {S : List Addr} {H : Hp} {a : Addr} {o : HO} (h : a ∈ S) : hid S (upd H a o) = hid S H := by
  funext b
  by_cases q : b ∈ S
  · rw [hid_in q, hid_in q]
  · rw [hid_out q, hid_out q, upd_ne fun e => q (by rw [e]; exact h)]
theorem hid_updN {S : List Addr} {H : Hp} {a : Addr} {o : HO} (h : a ∉ S) : hid S (upd H a o) = upd (hid S H) a o := by
  funext b
  by_cases q : b ∈ S
  · rw [hid_in q, upd_ne (fun e => h (by rw [← e]; exact q)), hid_in q]
  · rw [hid_out q]
    by_cases e : b = a
    · rw [e, upd_same, upd_same]
    · rw [upd_ne e, upd_ne e, hid_out q]
theorem hid_eq {S : List Addr} {H H' : Hp} (h : ∀ b, b ∉ S → H' b = H b) : hid S H' = hid S H := by
  funext b
  by_cases q : b ∈ S
  · rw [hid_in q, hid_in q]
  · rw [hid_out q, hid_out q, h b q]
theorem hid_mono {S S' : List Addr} {H : Hp} (h : ∀ b, b ∈ S → b ∈ S') : Same (hid S' H) (hid S H) := fun b o e => by
  obtain ⟨e1, e2⟩ := hid_some e
  rw [hid_out fun q => e2 (h b q)]
  exact e1
theorem Same.hid {S : List Addr} {H H' : Hp} (h : Same H H') : Same (hid S H) (hid S H') := fun b o e => by
  obtain ⟨e1, e2⟩ := hid_some e
  rw [hid_out e2]
  exact h b o e1

/-! ### data -/
mutual
inductive Dt (H : Hp) : V → PyData → Prop
  | non : Dt H .non .none
  | bl (b : Bool) : Dt H (.bl b) (.bool b)
  | int (i : Int) : Dt H (.int i) (.int i)
  | str (x : Str) : Dt H (.str x) (.str x)
  | lst {a : Addr} {xs : List V} {ds : List PyData} : H a = some (.lst xs) → DtAll H xs ds → Dt H (.ref a) (.list ds)
  | tup {a : Addr} {xs : List V} {ds : List PyData} : H a = some (.tup xs) → DtAll H xs ds → Dt H (.ref a) (.tuple ds)
inductive DtAll (H : Hp) : List V → List PyData → Prop
  | nil : DtAll H [] []
  | cons {v : V} {vs : List V} {d : PyData} {ds : List PyData} : Dt H v d → DtAll H vs ds → DtAll H (v :: vs) (d :: ds)
end
mutual
theorem Dt.mono {H H' : Hp} (e : Same H H') : ∀ {v : V} {d : PyData}, Dt H v d → Dt H' v d
  | _, _, .non => .non
  | _, _, .bl b => .bl b
  | _, _, .int i => .int i
  | _, _, .str x => .str x
  | _, _, .lst h k => .lst (e _ _ h) (DtAll.mono e k)
  | _, _, .tup h k => .tup (e _ _ h) (DtAll.mono e k)
theorem DtAll.mono {H H' : Hp} (e : Same H H') : ∀ {vs : List V} {ds : List PyData}, DtAll H vs ds → DtAll H' vs ds
  | _, _, .nil => .nil
  | _, _, .cons h k => .cons (Dt.mono e h) (DtAll.mono e k)
end
mutual
theorem Dt.dp {K : PySem.W.Frag} {H : Hp} : ∀ {v : V} {d : PyData}, Dt H v d → Dp K H v d
  | _, _, .non => .non
  | _, _, .bl b => .bl b
  | _, _, .int i => .int i
  | _, _, .str x => .str x
  | _, _, .lst h k => .lst (SqL.of h) (DtAll.dp k)
  | _, _, .tup h k => .tup (SqT.of h) (DtAll.dp k)
theorem DtAll.dp {K : PySem.W.Frag} {H : Hp} : ∀ {vs : List V} {ds : List PyData}, DtAll H vs ds → DpAll K H vs ds
  | _, _, .nil => .nil
  | _, _, .cons h k => .cons (Dt.dp h) (DtAll.dp k)
end
section
variable {H : Hp}
theorem DtAll.append : ∀ {xs ys : List V} {ds es : List PyData}, DtAll H xs ds → DtAll H ys es → DtAll H (xs ++ ys) (ds ++ es)
  | _, _, _, _, .nil, k => k
  | _, _, _, _, .cons a b, k => .cons a (DtAll.append b k)
theorem DtAll.length : ∀ {xs : List V} {ds : List PyData}, DtAll H xs ds → xs.length = ds.length
  | _, _, .nil => rfl
  | _, _, .cons _ k => by rw [List.length_cons, List.length_cons, DtAll.length k]
theorem DtAll.get : ∀ {xs : List V} {ds : List PyData} {i : Nat} {d : PyData}, DtAll H xs ds → ds[i]? = some d → ∃ v, xs[i]? = some v ∧ Dt H v d
  | _, _, _, _, .nil, e => by simp at e
  | _, _, 0, _, .cons a _, e => by simp at e; subst e; exact ⟨_, rfl, a⟩
  | _, _, i + 1, d, .cons _ k, e => by
    obtain ⟨v, h1, h2⟩ := DtAll.get (i := i) (d := d) k (by simpa using e)
    exact ⟨v, by simpa using h1, h2⟩
theorem DtAll.get' : ∀ {xs : List V} {ds : List PyData} {i : Nat} {v : V}, DtAll H xs ds → xs[i]? = some v → ∃ d, ds[i]? = some d ∧ Dt H v d
  | _, _, _, _, .nil, e => by simp at e
  | _, _, 0, _, .cons a _, e => by simp at e; subst e; exact ⟨_, rfl, a⟩
  | _, _, i + 1, v, .cons _ k, e => by
    obtain ⟨d, h1, h2⟩ := DtAll.get' (i := i) (v := v) k (by simpa using e)
    exact ⟨d, by simpa using h1, h2⟩
theorem DtAll.ints : ∀ ns : List Int, DtAll H (ns.map V.int) (ns.map PyData.int)
  | [] => .nil
  | n :: r => .cons (.int n) (DtAll.ints r)
theorem DtAll.intsI : ∀ {ns : List Int} {vs : List V}, DtAll H vs (ns.map PyData.int) → vs = ns.map V.int
  | [], _, .nil => rfl
  | n :: r, _, .cons (.int _) k => by rw [DtAll.intsI k]; rfl
theorem DtAll.take : ∀ {xs : List V} {ds : List PyData} (n : Nat), DtAll H xs ds → DtAll H (xs.take n) (ds.take n)
  | _, _, 0, _ => .nil
  | _, _, _ + 1, .nil => .nil
  | _, _, n + 1, .cons a k => .cons a (DtAll.take n k)
theorem DtAll.drop : ∀ {xs : List V} {ds : List PyData} (n : Nat), DtAll H xs ds → DtAll H (xs.drop n) (ds.drop n)
  | _, _, 0, k => k
  | _, _, _ + 1, .nil => .nil
  | _, _, n + 1, .cons _ k => DtAll.drop n k
theorem DtAll.set : ∀ {xs : List V} {ds : List PyData} {v : V} {d : PyData} (i : Nat), Dt H v d → DtAll H xs ds → DtAll H (xs.set i v) (ds.set i d)
  | _, _, _, _, _, _, .nil => .nil
  | _, _, _, _, 0, h, .cons _ k => .cons h k
  | _, _, _, _, i + 1, h, .cons a k => .cons a (DtAll.set i h k)
theorem DtAll.erase : ∀ {xs : List V} {ds : List PyData} (i : Nat), DtAll H xs ds → DtAll H (xs.eraseIdx i) (ds.eraseIdx i)
  | _, _, _, .nil => .nil
  | _, _, 0, .cons _ k => k
  | _, _, i + 1, .cons a k => .cons a (DtAll.erase i k)
theorem DtAll.rev {xs : List V} {ds : List PyData} (h : DtAll H xs ds) : DtAll H xs.reverse ds.reverse := by
  induction xs generalizing ds with
  | nil => cases h; exact .nil
  | cons x r ih =>
    cases h with
    | cons a k =>
      rw [List.reverse_cons, List.reverse_cons]
      exact DtAll.append (ih k) (.cons a .nil)
end
/-- data that are equal as Python says, where it can be looked at -/
abbrev Shp (d : PyData) : Prop := SeqAt.shaped d = true
theorem eqv_self {d : PyData} (h : Shp d) : PyData.eqv d d = true := SeqAt.eqv_refl d (SeqAt.canLay_of_shaped h)
section
variable {K : PySem.W.Frag} {H : Hp} {Q : VK} {x y : V} {d e : PyData}
/-- a == b of two data -/
theorem rd_eq (hx : Dt H x d) (hy : Dt H y e) (h1 : Shp d) (h2 : Shp e) (q : Q (.bl (PyData.eqv d e)) H) : rEqA K x y H Q := by
  unfold rEqA
  split
  · rename_i b h
    obtain ⟨h3, h4⟩ := eqF_ok h
    have e1 : PyData.eqv d e = b := by
      cases hx <;> cases hy <;> simp_all [eqF, PyData.eqv] <;> (rw [← h]; exact Bool.eq_iff_iff.mpr (by simp))
    rw [← e1]
    exact q
  · exact ⟨d, e, hx.dp, hy.dp, h1, h2, q⟩
theorem rd_ne (hx : Dt H x d) (hy : Dt H y e) (h1 : Shp d) (h2 : Shp e) (q : Q (.bl (!PyData.eqv d e)) H) : rNeA K x y H Q := by
  unfold rNeA
  split
  · rename_i b h
    obtain ⟨h3, h4⟩ := eqF_ok h
    have e1 : PyData.eqv d e = b := by
      cases hx <;> cases hy <;> simp_all [eqF, PyData.eqv] <;> (rw [← h]; exact Bool.eq_iff_iff.mpr (by simp))
    rw [← e1]
    exact q
  · exact ⟨d, e, hx.dp, hy.dp, h1, h2, q⟩
/-- the same data on both sides -/
theorem rd_eqT (hx : Dt H x d) (hy : Dt H y d) (h1 : Shp d) (q : Q (.bl true) H) : rEqA K x y H Q := rd_eq hx hy h1 h1 (by rw [eqv_self h1]; exact q)
theorem rd_neF (hx : Dt H x d) (hy : Dt H y d) (h1 : Shp d) (q : Q (.bl false) H) : rNeA K x y H Q := rd_ne hx hy h1 h1 (by rw [eqv_self h1]; exact q)
end
end Lb
set_option Elab.async false
set_option linter.all false
set_option maxRecDepth 100000
set_option maxHeartbeats 4000000
/-! Ld: the steps of a reading, one lemma a step; the drawing of numbers. Knows no program. -/
namespace Lb
open PySem PySem.Spec PyProof.Rows L2
section
variable {σ : L2.St} {H : Hp} {Q : VK} {nx : L2.St → Hp → Prop} {rt : VK} {bk ct : L2.St → Hp → Prop}
/-- a value as a test -/
def tTru (K : PySem.W.Frag) (ta : TE) : TT := fun σ H Q => ta σ H fun x H' => ∃ k, TruV K x H' k ∧ Q k H'
theorem i_seq {t u : TS} (q : t ⟨fun σ H => u ⟨nx, rt, bk, ct⟩ σ H, rt, bk, ct⟩ σ H) : tSeq t u ⟨nx, rt, bk, ct⟩ σ H := q
theorem i_asg {te : TE} {g : TG} (q : te σ H fun x H1 => g x σ H1 nx) : tAsg te g ⟨nx, rt, bk, ct⟩ σ H := q
theorem i_gname {i : Nat} {v : V} {R : L2.St → Hp → Prop} (q : R (σ.set i (some v)) H) : gName i v σ H R := q
theorem i_ifS {c : TT} {t u : TS} (q : c σ H fun b H1 => if b = true then t ⟨nx, rt, bk, ct⟩ σ H1 else u ⟨nx, rt, bk, ct⟩ σ H1) : tIfS c t u ⟨nx, rt, bk, ct⟩ σ H := q
theorem i_ret {te : TE} (q : te σ H rt) : tRet te ⟨nx, rt, bk, ct⟩ σ H := q
theorem i_retN (q : rt .non H) : tRetN ⟨nx, rt, bk, ct⟩ σ H := q
theorem i_drop {te : TE} (q : te σ H fun _ H1 => nx σ H1) : tDrop te ⟨nx, rt, bk, ct⟩ σ H := q
theorem i_next (q : nx σ H) : tNext ⟨nx, rt, bk, ct⟩ σ H := q
theorem i_brk (q : bk σ H) : tBreak ⟨nx, rt, bk, ct⟩ σ H := q
theorem i_cnt (q : ct σ H) : tCont ⟨nx, rt, bk, ct⟩ σ H := q
theorem i_par {i j : Nat} {ta : TA} (q : ta σ H fun vs H1 => ∃ v w, vs = [v, w] ∧ nx ((σ.set i (some v)).set j (some w)) H1) : tPar i j ta ⟨nx, rt, bk, ct⟩ σ H := q
theorem i_par2 {v w : V} {P : V → V → Prop} (q : P v w) : (∃ v' w', [v, w] = [v', w'] ∧ P v' w') := ⟨_, _, rfl, q⟩
theorem i_fldS {K : PySem.W.Frag} {ta tv : TE} {f : Str} (q : tv σ H fun y H1 => ta σ H1 fun x H2 => ∃ a C dx fs, x = .ref a ∧ H2 a = some (.ins C dx fs) ∧ Cls K C ∧ NoAttr K C f ∧ fs.length < 1000 ∧ nx σ (upd H2 a (.ins C dx (putF f y fs)))) : sFld K ta tv f ⟨nx, rt, bk, ct⟩ σ H := q
theorem i_dput {td ty tv : TE} (q : tv σ H fun v H1 => td σ H1 fun x H2 => ty σ H2 fun y H3 => ∃ a H4, x = .ref a ∧ DPut H3 a y v H4 ∧ nx σ H4) : sDPut td ty tv ⟨nx, rt, bk, ct⟩ σ H := q
theorem i_var {i : Nat} {v : V} (h : σ[i]? = some (some v)) (q : Q v H) : tVar i σ H Q := ⟨v, h, q⟩
theorem i_tB {b : Bool} {A B : Prop} (h : b = true) (q : A) : (if b = true then A else B) := by rw [if_pos h]; exact q
theorem i_fB {b : Bool} {A B : Prop} (h : b = false) (q : B) : (if b = true then A else B) := by rw [h, if_neg Bool.false_ne_true]; exact q
theorem i_c {v : V} (q : Q v H) : tC v σ H Q := q
theorem i_op {r : R2} {ta tb : TE} (q : ta σ H fun x H1 => tb σ H1 fun y H2 => r x y H2 Q) : tOp r ta tb σ H Q := q
theorem i_un {r : V → Hp → VK → Prop} {ta : TE} (q : ta σ H fun x H1 => r x H1 Q) : tUn r ta σ H Q := q
theorem i_rU {g : Int → V} {i : Int} (q : Q (g i) H) : rU g (.int i) H Q := ⟨i, rfl, q⟩
theorem i_rI0 {g : Int → Int → V} {i j : Int} (q : Q (g i j) H) : rI0 g (.int i) (.int j) H Q := ⟨i, j, rfl, rfl, q⟩
theorem i_rI {C : Int → Int → Prop} {g : Int → Int → V} {i j : Int} (c : C i j) (q : Q (g i j) H) : rI C g (.int i) (.int j) H Q := ⟨i, j, rfl, rfl, c, q⟩
theorem i_test {t : TE} {R : Bool → Hp → Prop} (q : t σ H fun x H' => ∃ k, x = .bl k ∧ R k H') : tTest t σ H R := q
theorem i_B {t : TE} {R : Bool → Hp → Prop} (q : t σ H fun x H' => ∃ k, x = .bl k ∧ R k H') : tB t σ H R := q
theorem i_bl {b : Bool} {R : Bool → Prop} (q : R b) : (∃ k, V.bl b = .bl k ∧ R k) := ⟨b, rfl, q⟩
theorem i_tru {K : PySem.W.Frag} {te : TE} {R : Bool → Hp → Prop} (q : te σ H fun x H' => ∃ k, TruV K x H' k ∧ R k H') : tTru K te σ H R := q
theorem i_truB {K : PySem.W.Frag} {b : Bool} {R : Bool → Prop} (q : R b) : (∃ k, TruV K (.bl b) H k ∧ R k) := ⟨b, rfl, q⟩
theorem i_and {t u : TT} {R : Bool → Hp → Prop} (q : t σ H fun c H1 => if c = true then u σ H1 R else R false H1) : tAnd t u σ H R := q
theorem i_or {t u : TT} {R : Bool → Hp → Prop} (q : t σ H fun c H1 => if c = true then R true H1 else u σ H1 R) : tOr t u σ H R := q
theorem i_not {t : TT} {R : Bool → Hp → Prop} (q : t σ H fun c H1 => R (!c) H1) : tNot t σ H R := q
theorem i_andV {ta tb : TE} (q : ta σ H fun x H1 => ∃ c, x = .bl c ∧ if c = true then tb σ H1 Q else Q (.bl false) H1) : tAndV ta tb σ H Q := q
theorem i_orV {ta tb : TE} (q : ta σ H fun x H1 => ∃ c, x = .bl c ∧ if c = true then Q (.bl true) H1 else tb σ H1 Q) : tOrV ta tb σ H Q := q
theorem i_notV {ta : TE} (q : ta σ H fun x H1 => ∃ c, x = .bl c ∧ Q (.bl (!c)) H1) : tNotV ta σ H Q := q
theorem i_if {t : TT} {ta tb : TE} (q : t σ H fun c H1 => if c = true then ta σ H1 Q else tb σ H1 Q) : tIf t ta tb σ H Q := q
theorem i_call {sp : Sp} {E : XK} {t : TA} (q : t σ H fun vs H1 => sp (vs ++ []) H1 Q E) : tCall sp [] E t σ H Q := q
theorem i_meth {C : Addr} {m : Str} {sp : Sp} {E : XK} {ta : TE} {t : TA} (q : ta σ H fun x H1 => ∃ a dx fs, x = .ref a ∧ H1 a = some (.ins C dx fs) ∧ fs.lookup m = none ∧ t σ H1 fun vs H2 => sp (x :: (vs ++ [])) H2 Q E) : tMeth C m sp [] E ta t σ H Q := q
theorem i_make {C : Addr} {sp : Sp} {E : XK} {t : TA} (q : t σ H fun vs H1 => ∀ x dx, H1 x = none → H1 dx = none → dx ≠ x → sp (.ref x :: (vs ++ [])) (upd (upd H1 dx (.own x)) x (.ins C dx [])) (fun v H2 => v = .non ∧ Q (.ref x) H2) E) : tMake C sp [] E t σ H Q := q
theorem i_cb {r : List V → Hp → VK → Prop} {t : TA} (q : t σ H fun vs H1 => r vs H1 Q) : tCB r t σ H Q := q
theorem i_cons {ta : TE} {tr : TA} {R : List V → Hp → Prop} (q : ta σ H fun x H1 => tr σ H1 fun xs H2 => R (x :: xs) H2) : tCons ta tr σ H R := q
theorem i_nil {R : List V → Hp → Prop} (q : R [] H) : tNil σ H R := q
theorem i_tup {t : TA} (q : t σ H fun xs H1 => xs.length ≤ sizeLine ∧ ∀ p, H1 p = none → Q (.ref p) (upd H1 p (.tup xs))) : tTup t σ H Q := q
theorem i_lst {t : TA} (q : t σ H fun xs H1 => xs.length ≤ sizeLine ∧ ∀ p, H1 p = none → Q (.ref p) (upd H1 p (.lst xs))) : tLst t σ H Q := q
theorem i_bml {r : V → List V → Hp → VK → Prop} {to : TE} {t : TA} (q : to σ H fun x H1 => isL x H1 ∧ t σ H1 fun xs H2 => r x xs H2 Q) : tBML r to t σ H Q := q
theorem i_isL {l : Addr} {xs : List V} {R : Prop} (h : H l = some (.lst xs)) (q : R) : isL (.ref l) H ∧ R := ⟨by simp only [isL, h], q⟩
theorem i_gsub {to ti : TE} {t : TSet} {v : V} {R : L2.St → Hp → Prop} (q : to σ H fun o H1 => ti σ H1 fun i H2 => t o i v H2 fun H3 => R σ H3) : gSub to ti t v σ H R := q
theorem i_gtup {K : PySem.W.Frag} {n : Nat} {t : TGs} {a : Addr} {xs : List V} {R : L2.St → Hp → Prop} (h : H a = some (.tup xs)) (hn : xs.length = n) (q : t xs σ H R) : gTup K n t (.ref a) σ H R := ⟨a, xs, rfl, SqT.of h, hn, q⟩
theorem i_gcons {t : TG} {u : TGs} {v : V} {vs : List V} {R : L2.St → Hp → Prop} (q : t v σ H fun σ' H' => u vs σ' H' R) : gCons t u (v :: vs) σ H R := ⟨v, vs, rfl, q⟩
theorem i_gnil {R : L2.St → Hp → Prop} (q : R σ H) : gNil [] σ H R := ⟨rfl, q⟩
theorem i_sl {r : V → Option Int → Option Int → Hp → VK → Prop} {te : TE} {tl th : TO} (q : te σ H fun x H1 => tl σ H1 fun l H2 => th σ H2 fun u H3 => r x l u H3 Q) : tSl r te tl th σ H Q := q
theorem i_nop {R : Option Int → Hp → Prop} (q : R none H) : tNoPart σ H R := q
theorem i_part {t : TE} {R : Option Int → Hp → Prop} (q : t σ H fun x H1 => ∃ i, x = .int i ∧ R (some i) H1) : tPart t σ H R := q
theorem i_prt {i : Int} {R : Int → Prop} (q : R i) : (∃ j, V.int i = .int j ∧ R j) := ⟨i, rfl, q⟩
theorem i_isN {x : V} (q : Q (.bl (decide (x = .non))) H) : rIsN x .non H Q := ⟨rfl, q⟩
theorem i_notN {x : V} (q : Q (.bl (!decide (x = .non))) H) : rNotN x .non H Q := ⟨rfl, q⟩
theorem i_yes {R : Bool → Hp → Prop} (q : R true H) : tYes σ H R := q
theorem i_tt {A B : Prop} (q : A) : (if true = true then A else B) := by rw [if_pos rfl]; exact q
theorem i_ff {A B : Prop} (q : B) : (if false = true then A else B) := by rw [if_neg Bool.false_ne_true]; exact q
theorem i_dy {p : Prop} [Decidable p] {A B : Prop} (h : p) (q : A) : (if decide p = true then A else B) := by rw [if_pos (decide_eq_true h)]; exact q
theorem i_dn {p : Prop} [Decidable p] {A B : Prop} (h : ¬ p) (q : B) : (if decide p = true then A else B) := by rw [if_neg (by simp [h])]; exact q
theorem i_ny {p : Prop} [Decidable p] {A B : Prop} (h : ¬ p) (q : A) : (if (!decide p) = true then A else B) := by rw [if_pos (by simp [h])]; exact q
theorem i_nn {p : Prop} [Decidable p] {A B : Prop} (h : p) (q : B) : (if (!decide p) = true then A else B) := by rw [if_neg (by simp [h])]; exact q
theorem i_d2 {p : Prop} [Decidable p] {A B : Prop} (q1 : p → A) (q2 : ¬ p → B) : (if decide p = true then A else B) := by
  by_cases h : p
  · exact i_dy h (q1 h)
  · exact i_dn h (q2 h)
theorem i_n2 {p : Prop} [Decidable p] {A B : Prop} (q1 : ¬ p → A) (q2 : p → B) : (if (!decide p) = true then A else B) := by
  by_cases h : p
  · exact i_nn h (q2 h)
  · exact i_ny h (q1 h)
theorem i_ntt {A B : Prop} (q : B) : (if (!true) = true then A else B) := by rw [if_neg (by simp)]; exact q
theorem i_nff {A B : Prop} (q : A) : (if (!false) = true then A else B) := by rw [if_pos (by simp)]; exact q
theorem i_dnI {i : Int} {A B : Prop} (q : B) : (if decide (V.int i = V.non) = true then A else B) := i_dn (by intro h; cases h) q
theorem i_nyI {i : Int} {A B : Prop} (q : A) : (if (!decide (V.int i = V.non)) = true then A else B) := i_ny (by intro h; cases h) q
theorem i_dnR {i : Addr} {A B : Prop} (q : B) : (if decide (V.ref i = V.non) = true then A else B) := i_dn (by intro h; cases h) q
theorem i_nyR {i : Addr} {A B : Prop} (q : A) : (if (!decide (V.ref i = V.non)) = true then A else B) := i_ny (by intro h; cases h) q
theorem i_dnS {i : Str} {A B : Prop} (q : B) : (if decide (V.str i = V.non) = true then A else B) := i_dn (by intro h; cases h) q
theorem i_nyS {i : Str} {A B : Prop} (q : A) : (if (!decide (V.str i = V.non)) = true then A else B) := i_ny (by intro h; cases h) q
theorem i_addI {a b : Int} (q : Q (.int (a + b)) H) : rAddA (.int a) (.int b) H Q := q
theorem i_addS {a b : Str} (h : a.length + b.length ≤ sizeLine) (q : Q (.str (a ++ b)) H) : rAddA (.str a) (.str b) H Q := ⟨h, q⟩
theorem i_addL {p q : Addr} {xs ys : List V} (h1 : H p = some (.lst xs)) (h2 : H q = some (.lst ys)) (h : xs.length + ys.length ≤ sizeLine) (k : ∀ r, H r = none → Q (.ref r) (upd H r (.lst (xs ++ ys)))) : rAddA (.ref p) (.ref q) H Q := by simp only [rAddA, h1, h2]; exact ⟨h, k⟩
theorem i_mulI {a b : Int} (c : CMul a b) (q : Q (.int (a * b)) H) : rMulA (.int a) (.int b) H Q := ⟨c, q⟩
theorem i_eqF {K : PySem.W.Frag} {x y : V} {b : Bool} (h : eqF x y = some b) (q : Q (.bl b) H) : rEqA K x y H Q := by simp only [rEqA, h]; exact q
theorem i_neF {K : PySem.W.Frag} {x y : V} {b : Bool} (h : eqF x y = some b) (q : Q (.bl (!b)) H) : rNeA K x y H Q := by simp only [rNeA, h]; exact q
theorem i_eqI {K : PySem.W.Frag} {a b : Int} (q : Q (.bl (decide (a = b))) H) : rEqA K (.int a) (.int b) H Q := q
theorem i_neI {K : PySem.W.Frag} {a b : Int} (q : Q (.bl (!decide (a = b))) H) : rNeA K (.int a) (.int b) H Q := q
theorem i_eqS {K : PySem.W.Frag} {a b : Str} (q : Q (.bl (decide (a = b))) H) : rEqA K (.str a) (.str b) H Q := q
theorem i_neS {K : PySem.W.Frag} {a b : Str} (q : Q (.bl (!decide (a = b))) H) : rNeA K (.str a) (.str b) H Q := q
theorem i_ixL {p : Addr} {xs : List V} {i : Int} {v : V} (h : H p = some (.lst xs)) (hi : atI xs i = some v) (q : Q v H) : rIxA (.ref p) (.int i) H Q := by simp only [rIxA, h]; exact ⟨v, hi, q⟩
theorem i_ixT {p : Addr} {xs : List V} {i : Int} {v : V} (h : H p = some (.tup xs)) (hi : atI xs i = some v) (q : Q v H) : rIxA (.ref p) (.int i) H Q := by simp only [rIxA, h]; exact ⟨v, hi, q⟩
theorem i_slL {p : Addr} {xs : List V} {lo hi : Option Int} (h : H p = some (.lst xs)) (k : ∀ q, H q = none → Q (.ref q) (upd H q (.lst (cutV xs lo hi)))) : rSlA (.ref p) lo hi H Q := by simp only [rSlA, h]; exact k
theorem i_slT {p : Addr} {xs : List V} {lo hi : Option Int} (h : H p = some (.tup xs)) (c : ¬ (HT.sIx xs.length 0 lo = 0 ∧ HT.sIx xs.length xs.length hi = xs.length)) (k : ∀ q, H q = none → Q (.ref q) (upd H q (.tup (cutV xs lo hi)))) : rSlA (.ref p) lo hi H Q := by simp only [rSlA, h]; exact ⟨c, k⟩
theorem i_lenL {p : Addr} {xs : List V} (h : H p = some (.lst xs)) (q : Q (.int xs.length) H) : rLenA [.ref p] H Q := by simp only [rLenA, h]; exact q
theorem i_lenT {p : Addr} {xs : List V} (h : H p = some (.tup xs)) (q : Q (.int xs.length) H) : rLenA [.ref p] H Q := by simp only [rLenA, h]; exact q
theorem i_lenD {p : Addr} {kvs : List (Key × V)} (h : H p = some (.dK kvs)) (q : Q (.int kvs.length) H) : rLenA [.ref p] H Q := by simp only [rLenA, h]; exact q
theorem i_lenS {y : Str} (h : y.length ≤ sizeLine) (q : Q (.int y.length) H) : rLenA [.str y] H Q := ⟨h, q⟩
theorem i_intI {i : Int} (q : Q (.int i) H) : rIntA [.int i] H Q := q
theorem i_intB {k : Bool} (q : Q (.int (if k = true then 1 else 0)) H) : rIntA [.bl k] H Q := q
theorem i_abs {i : Int} (q : Q (.int (if i < 0 then -i else i)) H) : rAbsA [.int i] H Q := q
theorem i_listL {p : Addr} {xs : List V} (h : H p = some (.lst xs)) (k : ∀ l, H l = none → Q (.ref l) (upd H l (.lst xs))) : rListA [.ref p] H Q := by simp only [rListA, h]; exact k
theorem i_listT {p : Addr} {xs : List V} (h : H p = some (.tup xs)) (k : ∀ l, H l = none → Q (.ref l) (upd H l (.lst xs))) : rListA [.ref p] H Q := by simp only [rListA, h]; exact k
theorem i_tupL {p : Addr} {xs : List V} (h : H p = some (.lst xs)) (k : ∀ l, H l = none → Q (.ref l) (upd H l (.tup xs))) : rTupA [.ref p] H Q := by simp only [rTupA, h]; exact k
theorem i_isi {x : V} {T t : String} {b : Bool} (h1 : tyN x H = some t) (h2 : kitB t T = some b) (q : Q (.bl b) H) : rIsiA [x, .ty T] H Q := by simp only [rIsiA, h1]; exact ⟨b, h2, q⟩
theorem i_isiLL {p : Addr} {xs : List V} (h : H p = some (.lst xs)) (q : Q (.bl true) H) : rIsiA [.ref p, .ty "list"] H Q := i_isi (t := "list") (by simp only [tyN, h]) (by decide +kernel) q
theorem i_isiTL {p : Addr} {xs : List V} (h : H p = some (.tup xs)) (q : Q (.bl false) H) : rIsiA [.ref p, .ty "list"] H Q := i_isi (t := "tuple") (by simp only [tyN, h]) (by decide +kernel) q
theorem i_isiIB {i : Int} (q : Q (.bl false) H) : rIsiA [.int i, .ty "bool"] H Q := i_isi (t := "int") rfl (by decide +kernel) q
theorem i_isiNB (q : Q (.bl false) H) : rIsiA [.non, .ty "bool"] H Q := i_isi (t := "NoneType") rfl (by decide +kernel) q
theorem i_isiBB {k : Bool} (q : Q (.bl true) H) : rIsiA [.bl k, .ty "bool"] H Q := i_isi (t := "bool") rfl (by decide +kernel) q
theorem i_app {l : Addr} {xs : List V} {y : V} (h : H l = some (.lst xs)) (hz : xs.length < sizeLine) (q : Q .non (upd H l (.lst (xs ++ [y])))) : rAppA (.ref l) [y] H Q := by simp only [rAppA, h]; exact ⟨hz, q⟩
theorem i_ext {l p : Addr} {xs ys : List V} (h : H l = some (.lst xs)) (h2 : H p = some (.lst ys)) (hz : xs.length + ys.length ≤ sizeLine) (q : Q .non (upd H l (.lst (xs ++ ys)))) : rExtA (.ref l) [.ref p] H Q := by simp only [rExtA, h, h2]; exact ⟨hz, q⟩
theorem i_popL {l : Addr} {xs : List V} {y : V} (h : H l = some (.lst xs)) (hy : xs[xs.length - 1]? = some y) (q : Q y (upd H l (.lst xs.dropLast))) : rPopL (.ref l) [] H Q := by simp only [rPopL, h]; exact ⟨y, hy, q⟩
theorem i_popI {l : Addr} {xs : List V} {k : Nat} {y : V} (h : H l = some (.lst xs)) (hk : k < 2 ^ 62) (hy : xs[k]? = some y) (q : Q y (upd H l (.lst (xs.eraseIdx k)))) : rPopI (.ref l) [.int (k : Int)] H Q := by simp only [rPopI, h]; exact ⟨k, y, rfl, hk, hy, q⟩
theorem i_pop0 {l : Addr} {ys : List V} {y : V} (h : H l = some (.lst (y :: ys))) (q : Q y (upd H l (.lst ys))) : rPopI (.ref l) [.int 0] H Q := i_popI (k := 0) h (by decide) rfl q
theorem i_setL {p : Addr} {xs : List V} {k : Int} {j : Nat} {v : V} {R : Hp → Prop} (h : H p = some (.lst xs)) (hj : ixN xs.length k = some j) (q : R (upd H p (.lst (xs.set j v)))) : rSetA (.ref p) (.int k) v H R := by simp only [rSetA, h]; exact ⟨j, hj, q⟩
theorem i_dget {td ty : TE} (q : td σ H fun x H1 => ty σ H1 fun y H2 => ∃ a v, x = .ref a ∧ DGet H2 a y (some v) ∧ Q v H2) : tDGet td ty σ H Q := q
theorem i_dgetK {a : Addr} {kvs : List (Key × V)} {k : Key} {y v : V} {R : V → Prop} (h : H a = some (.dK kvs)) (hy : y = kV k) (hv : valV kvs k = some v) (q : R v) : (∃ a' v', V.ref a = .ref a' ∧ DGet H a' y (some v') ∧ R v') := ⟨a, v, rfl, .inl ⟨kvs, k, Rd.of h, hy, hv.symm⟩, q⟩
theorem i_dputK {a : Addr} {kvs : List (Key × V)} {k : Key} {y v : V} {R : Hp → Prop} (h : H a = some (.dK kvs)) (hy : y = kV k) (hz : kvs.length < sizeLine) (q : R (upd H a (.dK (putK kvs k v)))) : (∃ a' H4, V.ref a = .ref a' ∧ DPut H a' y v H4 ∧ R H4) := ⟨a, _, rfl, .inl ⟨kvs, k, h, hy, hz, rfl⟩, q⟩
theorem i_disp {trs : List (TE × TE)} (q : ∀ p, H p = none → tPairs trs σ (upd H p (.dK [])) fun ps H2 => H2 p = some (.dK []) ∧ ∃ kvs : List (Key × V), ps = kvs.map (fun kv => (kV kv.1, kv.2)) ∧ kvs.length ≤ 15 ∧ Q (.ref p) (upd H2 p (.dK (mergeK [] kvs)))) : tDisp trs σ H Q := q
theorem i_pcons {tk tv : TE} {r : List (TE × TE)} {R : List (V × V) → Hp → Prop} (q : tk σ H fun x H1 => tv σ H1 fun y H2 => tPairs r σ H2 fun ps H3 => R ((x, y) :: ps) H3) : tPairs ((tk, tv) :: r) σ H R := q
theorem i_pnil {R : List (V × V) → Hp → Prop} (q : R [] H) : tPairs [] σ H R := q
theorem i_neN {K : PySem.W.Frag} (q : Q (.bl false) H) : rNeA K .non .non H Q := q
theorem i_eqN {K : PySem.W.Frag} (q : Q (.bl true) H) : rEqA K .non .non H Q := q
theorem i_neB {K : PySem.W.Frag} {a b : Bool} (q : Q (.bl (!decide (a = b))) H) : rNeA K (.bl a) (.bl b) H Q := q
theorem i_eqB {K : PySem.W.Frag} {a b : Bool} (q : Q (.bl (decide (a = b))) H) : rEqA K (.bl a) (.bl b) H Q := q
theorem i_for {wi : TI} {g : TG} {tb : TS} (q : wi σ H fun J H1 => ∃ W : Nat → Nat → L2.St → Hp → Prop, (∃ m, W 0 m σ H1) ∧ ∀ i m σ H, W i m σ H → (J.stop i H ∧ nx σ H) ∨ (J.go i H ∧ ∃ N : L2.St → Hp → Prop, (∀ σ' H', N σ' H' → ∃ m', m' < m ∧ W (i + 1) m' σ' H') ∧ ∀ x H', J.yld i H x H' → g x σ H' fun σ2 H2 => tb ⟨N, rt, nx, N⟩ σ2 H2)) : tFor wi g tb ⟨nx, rt, bk, ct⟩ σ H := q
theorem i_while {c : TT} {tb : TS} (W : Nat → L2.St → Hp → Prop) (m : Nat) (w0 : W m σ H) (q : ∀ m σ H, W m σ H → c σ H fun b H1 => if b = true then ∃ N : L2.St → Hp → Prop, (∀ σ' H', N σ' H' → ∃ m', m' < m ∧ W m' σ' H') ∧ tb ⟨N, rt, nx, N⟩ σ H1 else nx σ H1) : tWhile c tb ⟨nx, rt, bk, ct⟩ σ H := ⟨W, ⟨m, w0⟩, q⟩
theorem i_wgo {m : Nat} {W : Nat → L2.St → Hp → Prop} {tb : TS} (q : tb ⟨fun σ' H' => ∃ m', m' < m ∧ W m' σ' H', rt, nx, fun σ' H' => ∃ m', m' < m ∧ W m' σ' H'⟩ σ H) : (∃ N : L2.St → Hp → Prop, (∀ σ' H', N σ' H' → ∃ m', m' < m ∧ W m' σ' H') ∧ tb ⟨N, rt, nx, N⟩ σ H) := ⟨_, fun _ _ h => h, q⟩
theorem i_ilist {K : PySem.W.Frag} {tl : TE} {R : It → Hp → Prop} (q : tl σ H fun x H1 => ∃ a, x = .ref a ∧ (∃ xs, SqL K H1 a xs) ∧ R (Itl K a) H1) : iList K tl σ H R := q
theorem i_itup {K : PySem.W.Frag} {tl : TE} {R : It → Hp → Prop} (q : tl σ H fun x H1 => ∃ a, x = .ref a ∧ (∃ xs, SqT K H1 a xs) ∧ R (Itt K a) H1) : iTup K tl σ H R := q
theorem i_rng1 {ta : TA} {R : It → Hp → Prop} (q : ta σ H fun vs H1 => ∃ j : Int, vs = [.int j] ∧ -(2 ^ 62) ≤ j ∧ j < 2 ^ 62 ∧ R (Itr 0 j.toNat) H1) : iRng1 ta σ H R := q
theorem i_rng2 {ta : TA} {R : It → Hp → Prop} (q : ta σ H fun vs H1 => ∃ i j : Int, vs = [.int i, .int j] ∧ (-(2 ^ 62) ≤ i ∧ i < 2 ^ 62 ∧ -(2 ^ 62) ≤ j ∧ j < 2 ^ 62) ∧ R (Itr i (j - i).toNat) H1) : iRng2 ta σ H R := q
theorem i_ex1 {j : Int} {R : Int → Prop} (q : R j) : (∃ i : Int, [V.int j] = [.int i] ∧ R i) := ⟨j, rfl, q⟩
theorem i_ex2 {i j : Int} {R : Int → Int → Prop} (q : R i j) : (∃ i' j' : Int, [V.int i, V.int j] = [.int i', .int j'] ∧ R i' j') := ⟨i, j, rfl, q⟩
theorem i_exr {p : Addr} {R : Addr → Prop} (q : R p) : (∃ a, V.ref p = .ref a ∧ R a) := ⟨p, rfl, q⟩
theorem i_mth {p C dx : Addr} {fs : List (Str × V)} {m : Str} {R : Prop} (h : H p = some (.ins C dx fs)) (hl : fs.lookup m = none) (q : R) : (∃ a dx fs, V.ref p = .ref a ∧ H a = some (.ins C dx fs) ∧ fs.lookup m = none ∧ R) := ⟨p, dx, fs, rfl, h, hl, q⟩
theorem i_fld {K : PySem.W.Frag} {ta : TE} {f : Str} (q : ta σ H fun x H1 => ∃ a C dx fs v, x = .ref a ∧ H1 a = some (.ins C dx fs) ∧ Cls K C ∧ NoAttr K C f ∧ fs.lookup f = some v ∧ Q v H1) : tFld K ta f σ H Q := q
theorem i_lc {wi : TI} {g : TG} {tt : TT} {te : TE} {vs : List Nat} (q : wi σ H fun J H1 => ∀ D, H1 D = none → ∃ W : Nat → Nat → Hp → Prop, (∃ m, W 0 m (upd H1 D (.lst []))) ∧ ∀ i m H, W i m H → (J.stop i H ∧ Q (.ref D) H) ∨ (J.go i H ∧ ∃ Nx : Hp → Prop, (∀ H', Nx H' → ∃ m', m' < m ∧ W (i + 1) m' H') ∧ ∀ x H', J.yld i H x H' → g x (wipe σ vs) H' fun σ2 H2 => wipe σ2 vs = wipe σ vs ∧ tt σ2 H2 fun b H3 => if b = true then te σ2 H3 fun y H4 => ∃ acc, H4 D = some (.lst acc) ∧ acc.length < sizeLine ∧ Nx (upd H4 D (.lst (acc ++ [y]))) else Nx H3)) : tLc wi g tt te vs σ H Q := q
end
local macro_rules | `(tactic| walk_at "s1") => `(tactic| with_reducible first | refine i_seq ?_ | refine i_asg ?_ | refine i_gname ?_ | refine i_ifS ?_ | refine i_ret ?_ | refine i_retN ?_ | refine i_drop ?_ | refine i_next ?_ | refine i_brk ?_ | refine i_cnt ?_ | refine i_par ?_ | refine i_par2 ?_ | refine i_fldS ?_ | refine i_dput ?_ | refine i_c ?_ | refine i_op ?_ | refine i_un ?_ | refine i_rU ?_ | refine i_rI0 ?_ | refine i_test ?_ | refine i_B ?_ | refine i_bl ?_ | refine i_tru ?_ | refine i_truB ?_ | refine i_and ?_ | refine i_or ?_ | refine i_not ?_ | refine i_andV ?_ | refine i_orV ?_ | refine i_notV ?_ | refine i_if ?_ | refine i_call ?_ | refine i_meth ?_ | refine i_make ?_ | refine i_cb ?_ | refine i_cons ?_ | refine i_nil ?_ | refine i_tup ?_ | refine i_lst ?_ | refine i_bml ?_ | refine i_gsub ?_ | refine i_gcons ?_ | refine i_gnil ?_ | refine i_sl ?_ | refine i_nop ?_ | refine i_part ?_ | refine i_prt ?_ | refine i_isN ?_ | refine i_notN ?_ | refine i_yes ?_ | refine i_tt ?_ | refine i_ff ?_ | refine i_ntt ?_ | refine i_nff ?_ | refine i_addI ?_ | refine i_eqI ?_ | refine i_neI ?_ | refine i_eqS ?_ | refine i_neS ?_ | refine i_intI ?_ | refine i_intB ?_ | refine i_abs ?_ | refine i_isiIB ?_ | refine i_isiNB ?_ | refine i_isiBB ?_ | refine i_dget ?_ | refine i_for ?_ | refine i_ilist ?_ | refine i_itup ?_ | refine i_rng1 ?_ | refine i_rng2 ?_ | refine i_ex1 ?_ | refine i_ex2 ?_ | refine i_exr ?_ | refine i_fld ?_ | refine i_disp ?_ | refine i_pcons ?_ | refine i_pnil ?_ | refine i_neN ?_ | refine i_eqN ?_ | refine i_neB ?_ | refine i_eqB ?_ | refine i_lc ?_ | refine i_var (by with_unfolding_all rfl) ?_ | refine i_tB (by decide +kernel) ?_ | refine i_fB (by decide +kernel) ?_ | refine i_dnI ?_ | refine i_nyI ?_ | refine i_dnR ?_ | refine i_nyR ?_ | refine i_ixT (by assumption) (by with_unfolding_all rfl) ?_ | refine i_ixL (by assumption) (by with_unfolding_all rfl) ?_ | refine i_lenL (by assumption) ?_ | refine i_lenT (by assumption) ?_ | refine i_isL (by assumption) ?_ | refine i_isiLL (by assumption) ?_ | refine i_isiTL (by assumption) ?_ | refine i_gtup (by assumption) (by with_unfolding_all rfl) ?_)
local macro_rules | `(tactic| walk_at "s") => `(tactic| repeat (walk_at "s1"))
/-- the state of the draws: a list of a list of numbers and of a number -/
structure Rng (a c : Addr) (H : Hp) : Prop where
  ne : a ≠ c
  ex : ∃ (ns : List Int) (m : Int), H a = some (.lst [.ref c, .int m]) ∧ H c = some (.lst (ns.map V.int)) ∧ (∀ n ∈ ns, 0 ≤ n) ∧ 0 ≤ m
/-- what was so beside the two places is so -/
def Fra (a c : Addr) (H H' : Hp) : Prop := ∀ b, b ≠ a → b ≠ c → H' b = H b
theorem Fra.refl {a c : Addr} {H : Hp} : Fra a c H H := fun _ _ _ => rfl
theorem Fra.trans {a c : Addr} {H H1 H2 : Hp} (h : Fra a c H H1) (k : Fra a c H1 H2) : Fra a c H H2 := fun b p q => (k b p q).trans (h b p q)
def spDraw : Sp := fun vs H Q _ => ∃ (a c : Addr) (n : Int), vs = [.ref a, .int n] ∧ 0 < n ∧ n < 1073741824 ∧ Rng a c H ∧
  ∀ (H' : Hp) (r : Int), 0 ≤ r → r < n → Rng a c H' → Fra a c H H' → Q (.int r) H'
theorem len_draw {vs : List V} {H : Hp} {Q : VK} {E : XK} (h : spDraw vs H Q E) : vs.length = 2 := by
  obtain ⟨a, c, n, rfl, _⟩ := h
  rfl
def t_draw (K : PySem.W.Frag) : TS :=
  (tSeq (tAsg (tOp rIxA (tVar 0) (tC (.int 0))) (gName 2)) (tSeq (tWhile (tAnd (tTest (tOp (rI0 fun i j => .bl (decide (j < i))) (tCB rLenA (tCons (tVar 2) tNil)) (tC (.int 0)))) (tTest (tOp (rEqA K) (tOp rIxA (tVar 2) (tC (.int 0))) (tC (.int 0))))) (tDrop (tBML rPopI (tVar 2) (tCons (tC (.int 0)) tNil)))) (tSeq (tIfS (tTest (tOp (rI0 fun i j => .bl (decide (j < i))) (tCB rLenA (tCons (tVar 2) tNil)) (tC (.int 0)))) (tSeq (tAsg (tOp rIxA (tVar 2) (tC (.int 0))) (gName 3)) (tSeq (tAsg (tOp (rI CDiv fun i j => .int (i / j)) (tVar 3) (tVar 1)) (gSub (tVar 2) (tC (.int 0)) rSetA)) (tRet (tOp (rI (fun _ j => 0 < j) fun i j => .int (i % j)) (tCB rIntA (tCons (tVar 3) tNil)) (tVar 1))))) tNext) (tSeq (tAsg (tOp (rI (fun _ j => 0 < j) fun i j => .int (i % j)) (tCB rIntA (tCons (tOp rAddA (tOp rMulA (tOp rIxA (tVar 0) (tC (.int 1))) (tC (.int 48271))) (tC (.int 12345))) tNil)) (tC (.int 2147483647))) (gName 4)) (tSeq (tAsg (tVar 4) (gSub (tVar 0) (tC (.int 1)) rSetA)) (tRet (tOp (rI (fun _ j => 0 < j) fun i j => .int (i % j)) (tCB rIntA (tCons (tOp (rI CDiv fun i j => .int (i / j)) (tVar 4) (tC (.int 64))) tNil)) (tVar 1))))))))
theorem fra_upd2 {a c : Addr} {H H' : Hp} {o : HO} (h : Fra a c H H') : Fra a c H (upd H' c o) := fun b p q => by rw [upd_ne q]; exact h b p q
theorem fra_upd1 {a c : Addr} {H H' : Hp} {o : HO} (h : Fra a c H H') : Fra a c H (upd H' a o) := fun b p q => by rw [upd_ne p]; exact h b p q
theorem at0 {v : V} {xs : List V} : atI (v :: xs) 0 = some v := atI_nat (j := 0) rfl
theorem atN {xs : List V} {i : Int} {j : Nat} {v : V} (e : i = (j : Int)) (h : xs[j]? = some v) : atI xs i = some v := by
  rw [e]
  exact atI_nat h
theorem ixS0 {v : V} {xs : List V} : ixN (v :: xs).length 0 = some 0 := by
  unfold ixN
  rw [if_pos (by omega), if_pos (by simp <;> omega)]
  rfl
theorem pure_draw (K : PySem.W.Frag) {N : List Str} (vs : List V) (H : Hp) (Q : VK) (E : XK) (h : spDraw vs H Q E) (hN : N.length = 5) : t_draw K { nx := fun _ H' => Q .non H', rt := Q } (L2.start N vs) H := by
  obtain ⟨a, c, n, rfl, h0, h1, R, k⟩ := h
  obtain ⟨ne, ns, m, ha, hc, hn, hm⟩ := R
  have es : L2.start N [V.ref a, .int n] = [some (.ref a), some (.int n), none, none, none] := by
    unfold L2.start
    rw [hN]
    rfl
  rw [es]
  unfold t_draw
  walk_at "s"
  try refine i_ixL ha (by rfl) ?_
  walk_at "s"
  refine i_while (fun j σ H' => σ = [some (.ref a), some (.int n), some (.ref c), none, none] ∧ ∃ ns : List Int, j = ns.length ∧ H' a = some (.lst [.ref c, .int m]) ∧ H' c = some (.lst (ns.map V.int)) ∧ (∀ n ∈ ns, 0 ≤ n) ∧ Fra a c H H')
    _ ⟨rfl, ns, rfl, ha, hc, hn, Fra.refl⟩ ?_
  rintro j σ H1 ⟨rfl, ns, rfl, ha, hc, hn, fr⟩
  walk_at "s"
  try refine i_lenL hc ?_
  walk_at "s"
  cases ns with
  | nil =>
    try refine i_dn (by simp) ?_
    walk_at "s"
    try refine i_lenL hc ?_
    walk_at "s"
    try refine i_dn (by simp) ?_
    walk_at "s"
    try refine i_ixL ha (by rfl) ?_
    walk_at "s"
    try refine i_mulI (.inr ⟨by decide, by decide⟩) ?_
    walk_at "s"
    try refine i_rI (by show (0 : Int) < 2147483647; decide) ?_
    walk_at "s"
    refine i_setL ha (by rfl) ?_
    walk_at "s"
    refine i_rI ⟨by decide, by decide⟩ ?_
    walk_at "s"
    refine i_rI h0 ?_
    exact k _ _ (Int.emod_nonneg _ (by omega)) (Int.emod_lt_of_pos _ h0) ⟨ne, [], _, upd_same, by rw [upd_ne ne.symm]; exact hc, by simp, Int.emod_nonneg _ (by decide)⟩ (fra_upd1 fr)
  | cons z ns =>
    try refine i_dy (by simp <;> omega) ?_
    walk_at "s"
    try refine i_ixL hc at0 ?_
    walk_at "s"
    refine i_d2 (fun hz => ?_) (fun hz => ?_)
    · refine i_wgo ?_
      walk_at "s"
      try refine i_isL hc ?_
      walk_at "s"
      refine i_pop0 hc ?_
      exact ⟨ns.length, by simp, rfl, ns, rfl, by rw [upd_ne ne]; exact ha, upd_same, fun n h => hn n (List.mem_cons_of_mem _ h), fra_upd2 fr⟩
    · walk_at "s"
      try refine i_lenL hc ?_
      walk_at "s"
      try refine i_dy (by simp <;> omega) ?_
      walk_at "s"
      try refine i_ixL hc at0 ?_
      walk_at "s"
      refine i_rI ⟨h0, h1⟩ ?_
      walk_at "s"
      refine i_setL hc ixS0 ?_
      walk_at "s"
      refine i_rI h0 ?_
      have hz0 : 0 ≤ z := hn z List.mem_cons_self
      refine k _ _ (Int.emod_nonneg _ (by omega)) (Int.emod_lt_of_pos _ h0) ⟨ne, (z / n) :: ns, m, by rw [upd_ne ne]; exact ha, upd_same, fun y hy => ?_, hm⟩ (fra_upd2 fr)
      rcases List.mem_cons.mp hy with e | e
      · rw [e]
        exact Int.ediv_nonneg hz0 (by omega)
      · exact hn y (List.mem_cons_of_mem _ e)
theorem sz {n : Nat} (h : n ≤ 100000) : n ≤ sizeLine := Nat.le_trans h (by decide)
theorem szl {n : Nat} (h : n ≤ 100000) : n < sizeLine := Nat.lt_of_le_of_lt h (by decide)

/-! ### loops and comprehensions -/
section
variable {K : PySem.W.Frag} {a : Addr} {xs : List V} {g : TG} {tb : TS} {σ : L2.St} {H : Hp} {nx : L2.St → Hp → Prop} {rt : VK} {tt : TT} {te : TE} {v : Nat} {D : Addr} {Qd : Hp → Prop}
theorem i_forL (xs : List V) (Pv : Nat → L2.St → Hp → Prop) (h0 : Pv 0 σ H) (hl : ∀ i σ H, Pv i σ H → SqL K H a xs)
    (hs : ∀ i x σ H, xs[i]? = some x → Pv i σ H → g x σ H fun σ2 H2 => tb ⟨Pv (i + 1), rt, nx, Pv (i + 1)⟩ σ2 H2) (hd : ∀ σ H, Pv xs.length σ H → nx σ H) :
    (∃ xs, SqL K H a xs) ∧ ∃ W : Nat → Nat → L2.St → Hp → Prop, (∃ m, W 0 m σ H) ∧ ∀ i m σ H, W i m σ H → ((Itl K a).stop i H ∧ nx σ H) ∨ ((Itl K a).go i H ∧ ∃ N : L2.St → Hp → Prop, (∀ σ' H', N σ' H' → ∃ m', m' < m ∧ W (i + 1) m' σ' H') ∧ ∀ x H', (Itl K a).yld i H x H' → g x σ H' fun σ2 H2 => tb ⟨N, rt, nx, N⟩ σ2 H2) :=
  ⟨⟨xs, hl 0 σ H h0⟩, for_list (D := ⟨nx, rt, fun _ _ => False, fun _ _ => False⟩) (xs := xs) Pv h0 (fun i σ H _ p => hl i σ H p) hs hd⟩
theorem i_forT (xs : List V) (Pv : Nat → L2.St → Hp → Prop) (h0 : Pv 0 σ H) (hl : ∀ i σ H, Pv i σ H → SqT K H a xs)
    (hs : ∀ i x σ H, xs[i]? = some x → Pv i σ H → g x σ H fun σ2 H2 => tb ⟨Pv (i + 1), rt, nx, Pv (i + 1)⟩ σ2 H2) (hd : ∀ σ H, Pv xs.length σ H → nx σ H) :
    (∃ xs, SqT K H a xs) ∧ ∃ W : Nat → Nat → L2.St → Hp → Prop, (∃ m, W 0 m σ H) ∧ ∀ i m σ H, W i m σ H → ((Itt K a).stop i H ∧ nx σ H) ∨ ((Itt K a).go i H ∧ ∃ N : L2.St → Hp → Prop, (∀ σ' H', N σ' H' → ∃ m', m' < m ∧ W (i + 1) m' σ' H') ∧ ∀ x H', (Itt K a).yld i H x H' → g x σ H' fun σ2 H2 => tb ⟨N, rt, nx, N⟩ σ2 H2) :=
  ⟨⟨xs, hl 0 σ H h0⟩, for_tup (D := ⟨nx, rt, fun _ _ => False, fun _ _ => False⟩) (xs := xs) Pv h0 (fun i σ H _ p => hl i σ H p) hs hd⟩
theorem i_forR {j : Int} (n : Nat) (hj : j = (n : Int)) (hn : n ≤ 1000000000) (Pv : Nat → L2.St → Hp → Prop) (h0 : Pv 0 σ H)
    (hs : ∀ i σ H, i < n → Pv i σ H → g (.int (i : Int)) σ H fun σ2 H2 => tb ⟨Pv (i + 1), rt, nx, Pv (i + 1)⟩ σ2 H2) (hd : ∀ σ H, Pv n σ H → nx σ H) :
    -(2 ^ 62) ≤ j ∧ j < 2 ^ 62 ∧ ∃ W : Nat → Nat → L2.St → Hp → Prop, (∃ m, W 0 m σ H) ∧ ∀ i m σ H, W i m σ H → ((Itr 0 j.toNat).stop i H ∧ nx σ H) ∨ ((Itr 0 j.toNat).go i H ∧ ∃ N : L2.St → Hp → Prop, (∀ σ' H', N σ' H' → ∃ m', m' < m ∧ W (i + 1) m' σ' H') ∧ ∀ x H', (Itr 0 j.toNat).yld i H x H' → g x σ H' fun σ2 H2 => tb ⟨N, rt, nx, N⟩ σ2 H2) := by
  subst hj
  refine ⟨by omega, by omega, ?_⟩
  exact for_range (D := ⟨nx, rt, fun _ _ => False, fun _ _ => False⟩) (lo := 0) (n := n) Pv h0 (fun i σ H hi p => by rw [Int.zero_add]; exact hs i σ H hi p) hd
theorem i_forR2 {lo j : Int} (n : Nat) (hj : (j - lo).toNat = n) (hb : -(2 ^ 62) ≤ lo ∧ lo < 2 ^ 62 ∧ -(2 ^ 62) ≤ j ∧ j < 2 ^ 62) (Pv : Nat → L2.St → Hp → Prop) (h0 : Pv 0 σ H)
    (hs : ∀ (i : Nat) σ H, i < n → Pv i σ H → g (.int (lo + i)) σ H fun σ2 H2 => tb ⟨Pv (i + 1), rt, nx, Pv (i + 1)⟩ σ2 H2) (hd : ∀ σ H, Pv n σ H → nx σ H) :
    (-(2 ^ 62) ≤ lo ∧ lo < 2 ^ 62 ∧ -(2 ^ 62) ≤ j ∧ j < 2 ^ 62) ∧ ∃ W : Nat → Nat → L2.St → Hp → Prop, (∃ m, W 0 m σ H) ∧ ∀ i m σ H, W i m σ H → ((Itr lo (j - lo).toNat).stop i H ∧ nx σ H) ∨ ((Itr lo (j - lo).toNat).go i H ∧ ∃ N : L2.St → Hp → Prop, (∀ σ' H', N σ' H' → ∃ m', m' < m ∧ W (i + 1) m' σ' H') ∧ ∀ x H', (Itr lo (j - lo).toNat).yld i H x H' → g x σ H' fun σ2 H2 => tb ⟨N, rt, nx, N⟩ σ2 H2) := by
  subst hj
  exact ⟨hb, for_range (D := ⟨nx, rt, fun _ _ => False, fun _ _ => False⟩) (lo := lo) Pv h0 hs hd⟩
theorem wipe1 {v : Nat} {x : V} : (wipe σ [v]).set v (some x) = σ.set v (some x) := by
  show (σ.set v none).set v (some x) = _
  rw [List.set_set]
theorem wipe2 {v : Nat} {x : V} : wipe (σ.set v (some x)) [v] = wipe σ [v] := by
  show (σ.set v (some x)).set v none = σ.set v none
  rw [List.set_set]
/-- a comprehension over a list, one name -/
theorem i_lcL (xs : List V) (Pv : Nat → Hp → Prop) (h0 : Pv 0 (upd H D (.lst []))) (hl : ∀ i H, Pv i H → SqL K H a xs)
    (hs : ∀ i x H, xs[i]? = some x → Pv i H → tt (σ.set v (some x)) H fun b H3 => if b = true then te (σ.set v (some x)) H3 fun y H4 => ∃ acc, H4 D = some (.lst acc) ∧ acc.length < sizeLine ∧ Pv (i + 1) (upd H4 D (.lst (acc ++ [y]))) else Pv (i + 1) H3)
    (hd : ∀ H, Pv xs.length H → Qd H) :
    ∃ W : Nat → Nat → Hp → Prop, (∃ m, W 0 m (upd H D (.lst []))) ∧ ∀ i m H, W i m H → ((Itl K a).stop i H ∧ Qd H) ∨ ((Itl K a).go i H ∧ ∃ Nx : Hp → Prop, (∀ H', Nx H' → ∃ m', m' < m ∧ W (i + 1) m' H') ∧ ∀ x H', (Itl K a).yld i H x H' → gName v x (wipe σ [v]) H' fun σ2 H2 => wipe σ2 [v] = wipe σ [v] ∧ tt σ2 H2 fun b H3 => if b = true then te σ2 H3 fun y H4 => ∃ acc, H4 D = some (.lst acc) ∧ acc.length < sizeLine ∧ Nx (upd H4 D (.lst (acc ++ [y]))) else Nx H3) :=
  lc_list (xs := xs) Pv h0 (fun i H _ p => hl i H p) (fun i x H e p => by
    show wipe ((wipe σ [v]).set v (some x)) [v] = wipe σ [v] ∧ tt ((wipe σ [v]).set v (some x)) H _
    rw [wipe1]
    exact ⟨wipe2, hs i x H e p⟩) hd
/-- .. over range(n) -/
theorem i_lcR {j : Int} (n : Nat) (hj : j = (n : Int)) (Pv : Nat → Hp → Prop) (h0 : Pv 0 (upd H D (.lst [])))
    (hs : ∀ (i : Nat) H, i < n → Pv i H → tt (σ.set v (some (.int (i : Int)))) H fun b H3 => if b = true then te (σ.set v (some (.int (i : Int)))) H3 fun y H4 => ∃ acc, H4 D = some (.lst acc) ∧ acc.length < sizeLine ∧ Pv (i + 1) (upd H4 D (.lst (acc ++ [y]))) else Pv (i + 1) H3)
    (hd : ∀ H, Pv n H → Qd H) :
    ∃ W : Nat → Nat → Hp → Prop, (∃ m, W 0 m (upd H D (.lst []))) ∧ ∀ i m H, W i m H → ((Itr 0 j.toNat).stop i H ∧ Qd H) ∨ ((Itr 0 j.toNat).go i H ∧ ∃ Nx : Hp → Prop, (∀ H', Nx H' → ∃ m', m' < m ∧ W (i + 1) m' H') ∧ ∀ x H', (Itr 0 j.toNat).yld i H x H' → gName v x (wipe σ [v]) H' fun σ2 H2 => wipe σ2 [v] = wipe σ [v] ∧ tt σ2 H2 fun b H3 => if b = true then te σ2 H3 fun y H4 => ∃ acc, H4 D = some (.lst acc) ∧ acc.length < sizeLine ∧ Nx (upd H4 D (.lst (acc ++ [y]))) else Nx H3) := by
  subst hj
  exact lc_range (lo := 0) (n := n) Pv h0 (fun i H e p => by
    show wipe ((wipe σ [v]).set v (some (.int (0 + (i : Int))))) [v] = wipe σ [v] ∧ tt ((wipe σ [v]).set v (some (.int (0 + (i : Int))))) H _
    rw [wipe1, Int.zero_add]
    exact ⟨wipe2, hs i H e p⟩) hd
end

/-! ### the two places of the draws, and what grows beside them -/
/-- what stands beside the two places, grows -/
def Gr (a c : Addr) (H H' : Hp) : Prop := Same (hid [a, c] H) (hid [a, c] H')
section
variable {a c p : Addr} {H H' H1 : Hp} {o : HO}
theorem Gr.refl : Gr a c H H := Same.refl _
theorem Gr.trans (h : Gr a c H H1) (k : Gr a c H1 H') : Gr a c H H' := Same.trans h k
theorem Fra.hid (h : Fra a c H H') : hid [a, c] H' = hid [a, c] H := hid_eq fun b hb => h b (fun e => hb (by rw [e]; exact List.mem_cons_self)) fun e => hb (by rw [e]; exact List.mem_cons_of_mem _ List.mem_cons_self)
theorem Fra.gr (h : Fra a c H H') : Gr a c H H' := by
  unfold Gr
  rw [h.hid]
  exact Same.refl _
theorem Rng.at1 (R : Rng a c H) : ∃ o, H a = some o := let ⟨_, _, _, h, _⟩ := R; ⟨_, h⟩
theorem Rng.at2 (R : Rng a c H) : ∃ o, H c = some o := let ⟨_, _, _, _, h, _⟩ := R; ⟨_, h⟩
theorem Rng.fresh (R : Rng a c H) (h : H p = none) : p ≠ a ∧ p ≠ c := by
  obtain ⟨o1, e1⟩ := R.at1
  obtain ⟨o2, e2⟩ := R.at2
  exact ⟨fun e => (by rw [e, e1] at h; cases h), fun e => (by rw [e, e2] at h; cases h)⟩
theorem Rng.upd (R : Rng a c H) (h1 : p ≠ a) (h2 : p ≠ c) : Rng a c (L2.upd H p o) := by
  obtain ⟨ne, ns, m, ha, hc, hn, hm⟩ := R
  exact ⟨ne, ns, m, by rw [upd_ne h1.symm]; exact ha, by rw [upd_ne h2.symm]; exact hc, hn, hm⟩
theorem hid2 (h1 : p ≠ a) (h2 : p ≠ c) : p ∉ [a, c] := fun h => by
  rcases List.mem_cons.mp h with e | e
  · exact h1 e
  · rcases List.mem_cons.mp e with e | e
    · exact h2 e
    · cases e
/-- a new object -/
theorem new_step (R : Rng a c H) (h : H p = none) : Rng a c (L2.upd H p o) ∧ Gr a c H (L2.upd H p o) ∧ hid [a, c] (L2.upd H p o) p = some o ∧ p ≠ a ∧ p ≠ c := by
  obtain ⟨h1, h2⟩ := R.fresh h
  refine ⟨R.upd h1 h2, Lb.Same.hid (Same.newp h), ?_, h1, h2⟩
  rw [hid_out (hid2 h1 h2), upd_same]
theorem Gr.at (h : Gr a c H H') (e : hid [a, c] H p = some o) : H' p = some o := (hid_some (h _ _ e)).1
theorem hid_get (e : hid [a, c] H p = some o) : H p = some o := (hid_some e).1
theorem hid_ne (e : hid [a, c] H p = some o) : p ≠ a ∧ p ≠ c := by
  have h := (hid_some e).2
  exact ⟨fun q => h (by rw [q]; exact List.mem_cons_self), fun q => h (by rw [q]; exact List.mem_cons_of_mem _ List.mem_cons_self)⟩
end
def spPick : Sp := fun vs H Q _ => ∃ (a c p : Addr) (xs : List V), vs = [.ref a, .ref p] ∧ Rng a c H ∧ H p = some (.lst xs) ∧ p ≠ a ∧ p ≠ c ∧ xs ≠ [] ∧ xs.length ≤ 100000 ∧
  ∀ (H' : Hp) (v : V), v ∈ xs → Rng a c H' → Fra a c H H' → Q v H'
theorem len_pick {vs : List V} {H : Hp} {Q : VK} {E : XK} (h : spPick vs H Q E) : vs.length = 2 := by
  obtain ⟨a, c, p, xs, rfl, _⟩ := h
  rfl
def t_pick : TS := (tRet (tOp rIxA (tVar 1) (tCall spDraw [] E0 (tCons (tVar 0) (tCons (tCB rLenA (tCons (tVar 1) tNil)) tNil)))))
theorem pure_pick {N : List Str} (vs : List V) (H : Hp) (Q : VK) (E : XK) (h : spPick vs H Q E) (hN : N.length = 2) : t_pick { nx := fun _ H' => Q .non H', rt := Q } (L2.start N vs) H := by
  obtain ⟨a, c, p, xs, rfl, R, hp, n1, n2, hx, hz, k⟩ := h
  have es : L2.start N [V.ref a, .ref p] = [some (.ref a), some (.ref p)] := by
    unfold L2.start
    rw [hN]
    rfl
  rw [es]
  unfold t_pick
  walk_at "s"
  try refine i_lenL hp ?_
  walk_at "s"
  have hl : 0 < xs.length := List.length_pos_iff.mpr hx
  refine ⟨a, c, xs.length, rfl, by omega, by omega, R, fun H' r h0 h1 R' fr => ?_⟩
  have hp' : H' p = some (.lst xs) := by rw [fr p n1 n2]; exact hp
  obtain ⟨j, rfl⟩ : ∃ j : Nat, r = (j : Int) := ⟨r.toNat, by omega⟩
  have hj : j < xs.length := by omega
  refine i_ixL hp' (atI_nat (List.getElem?_eq_getElem hj)) ?_
  exact k H' _ (List.getElem_mem hj) R' fr
def spState (K : PySem.W.Frag) : Sp := fun vs H Q _ => ∃ (s : Addr) (ns : List Int), vs = [.ref s] ∧ SqL K H s (ns.map V.int) ∧ ns.length ≤ 63 ∧
  ∀ (H' : Hp) (a c : Addr), Same H H' → Rng a c H' → H a = none → H c = none → Q (.ref a) H'
theorem len_state {K : PySem.W.Frag} {vs : List V} {H : Hp} {Q : VK} {E : XK} (h : spState K vs H Q E) : vs.length = 1 := by
  obtain ⟨a, ns, rfl, _⟩ := h
  rfl
def t_state (K : PySem.W.Frag) : TS :=
  (tSeq (tAsg (tC (.int 7)) (gName 1)) (tSeq (tFor (iList K (tVar 0)) (gName 2) (tAsg (tOp (rI (fun _ j => 0 < j) fun i j => .int (i % j)) (tCB rIntA (tCons (tOp rAddA (tOp rMulA (tVar 1) (tC (.int 31))) (tVar 2)) tNil)) (tC (.int 1000003))) (gName 1))) (tRet (tLst (tCons (tLc (iList K (tVar 0)) (gName 2) tYes (tCB rAbsA (tCons (tVar 2) tNil)) [2]) (tCons (tOp rAddA (tVar 1) (tC (.int 1))) tNil))))))
theorem ints_at {ns : List Int} {i : Nat} {x : V} (h : (ns.map V.int)[i]? = some x) : ∃ z, x = .int z ∧ ns[i]? = some z := by
  rw [List.getElem?_map] at h
  cases e : ns[i]? with
  | none => rw [e] at h; cases h
  | some z => rw [e] at h; exact ⟨z, (Option.some.inj h).symm, rfl⟩
theorem pure_state (K : PySem.W.Frag) {N : List Str} (vs : List V) (H : Hp) (Q : VK) (E : XK) (h : spState K vs H Q E) (hN : N.length = 3) : t_state K { nx := fun _ H' => Q .non H', rt := Q } (L2.start N vs) H := by
  obtain ⟨s, ns, rfl, hS, hl, k⟩ := h
  have es : L2.start N [V.ref s] = [some (.ref s), none, none] := by
    unfold L2.start
    rw [hN]
    rfl
  rw [es]
  unfold t_state
  walk_at "s"
  refine i_forL (ns.map V.int) (fun i σ H' => H' = H ∧ ∃ (z : Int) (v : Option V), 0 ≤ z ∧ σ = [some (.ref s), some (.int z), v]) ⟨rfl, 7, none, by decide, rfl⟩ (fun i σ H' ⟨e, _⟩ => by rw [e]; exact hS) ?_ ?_
  · rintro i x σ H' hx ⟨rfl, z, v, hz, rfl⟩
    obtain ⟨y, rfl, _⟩ := ints_at hx
    walk_at "s"
    try refine i_mulI (.inr ⟨by decide, by decide⟩) ?_
    walk_at "s"
    refine i_rI (by show (0 : Int) < 1000003; decide) ?_
    walk_at "s"
    exact ⟨rfl, _, _, Int.emod_nonneg _ (by decide), rfl⟩
  · rintro σ H' ⟨rfl, z, v, hz, rfl⟩
    walk_at "s"
    refine ⟨⟨_, hS⟩, fun D hD => ?_⟩
    refine i_lcL (ns.map V.int) (fun i H2 => Same H' H2 ∧ ∃ ms : List Int, H2 D = some (.lst (ms.map V.int)) ∧ ms.length = i ∧ ∀ m ∈ ms, 0 ≤ m) ⟨Same.newp hD, [], upd_same, rfl, by simp⟩ (fun i H2 p => p.1.seq hS) ?_ ?_
    · rintro i x H2 hx ⟨sm, ms, hm, hml, hm0⟩
      obtain ⟨y, rfl, hy⟩ := ints_at hx
      have hi : i < ns.length := (List.getElem?_eq_some_iff.mp hy).1
      walk_at "s"
      refine ⟨_, hm, by rw [List.length_map]; exact szl (by omega), fun b o e => ?_, ms ++ [if y < 0 then -y else y], ?_, by rw [List.length_append, hml]; rfl, fun q hq => ?_⟩
      · rw [upd_ne (ne_of_none e hD)]
        exact sm b o e
      · rw [upd_same, List.map_append]
        rfl
      · rcases List.mem_append.mp hq with e | e
        · exact hm0 q e
        · rw [List.mem_singleton.mp e]
          split <;> omega
    · rintro H2 ⟨sm, ms, hm, hml, hm0⟩
      walk_at "s"
      refine ⟨sz (by simp), fun p hp => ?_⟩
      have npD : p ≠ D := fun e => by rw [e, hm] at hp; cases hp
      refine k _ p D (sm.trans (Same.newp hp)) ⟨npD, ms, z + 1, upd_same, by rw [upd_ne npD.symm]; exact hm, hm0, by omega⟩ (sm.free hp) hD

end Lb
set_option Elab.async false
set_option linter.all false
set_option maxRecDepth 100000
set_option maxHeartbeats 4000000
/-! Le: data that may be compared, heaps that only grow. Knows no program. -/
namespace Lb
open PySem PySem.Spec PyProof.Rows L2
/-- data without dicts, at most n deep -/
def Sh (n : Nat) (d : PyData) : Prop := d.canLay0 = true ∧ d.depth ≤ n
def ShA (n : Nat) (ds : List PyData) : Prop := PyData.canLayAll0 ds = true ∧ PyData.depthAll ds ≤ n
section
variable {n m : Nat} {d : PyData} {ds es : List PyData}
theorem Sh.shp (h : Sh n d) (hn : n ≤ 64 := by decide) : Shp d := by
  unfold Shp SeqAt.shaped
  rw [h.1, Bool.true_and, decide_eq_true (Nat.le_trans h.2 hn)]
theorem Sh.mono (h : Sh n d) (hn : n ≤ m) : Sh m d := ⟨h.1, Nat.le_trans h.2 hn⟩
theorem ShA.mono (h : ShA n ds) (hn : n ≤ m) : ShA m ds := ⟨h.1, Nat.le_trans h.2 hn⟩
theorem Sh.non : Sh n .none := ⟨rfl, Nat.zero_le _⟩
theorem Sh.bl {b : Bool} : Sh n (.bool b) := ⟨rfl, Nat.zero_le _⟩
theorem Sh.int {i : Int} : Sh n (.int i) := ⟨rfl, Nat.zero_le _⟩
theorem Sh.str {x : Str} (h : PyData.canLay0 (.str x) = true) : Sh n (.str x) := ⟨h, Nat.zero_le _⟩
theorem Sh.lst (h : ShA n ds) : Sh (n + 1) (.list ds) := ⟨h.1, Nat.succ_le_succ h.2⟩
theorem Sh.tup (h : ShA n ds) : Sh (n + 1) (.tuple ds) := ⟨h.1, Nat.succ_le_succ h.2⟩
theorem ShA.nil : ShA n [] := ⟨rfl, Nat.zero_le _⟩
theorem ShA.cons (h : Sh n d) (k : ShA n ds) : ShA n (d :: ds) := by
  refine ⟨?_, Nat.max_le.mpr ⟨h.2, k.2⟩⟩
  show (d.canLay0 && PyData.canLayAll0 ds) = true
  rw [h.1, k.1]
  rfl
theorem ShA.all : ∀ {ds : List PyData}, (∀ d ∈ ds, Sh n d) → ShA n ds
  | [], _ => .nil
  | d :: r, h => .cons (h d List.mem_cons_self) (ShA.all fun e he => h e (List.mem_cons_of_mem _ he))
theorem ShA.ints {ns : List Int} : ShA n (ns.map PyData.int) := .all fun d h => by
  obtain ⟨i, _, rfl⟩ := List.mem_map.mp h
  exact .int
theorem ShA.append (h : ShA n ds) (k : ShA n es) : ShA n (ds ++ es) := by
  induction ds with
  | nil => exact k
  | cons d r ih =>
    have h1 : (d.canLay0 && PyData.canLayAll0 r) = true := h.1
    have h2 := Bool.and_eq_true_iff.mp h1
    have h3 := Nat.max_le.mp h.2
    exact .cons ⟨h2.1, h3.1⟩ (ih ⟨h2.2, h3.2⟩)
end
section
variable {a c p : Addr} {H H' : Hp} {o : HO}
theorem Rng.same (R : Rng a c H) (s : Same H H') : Rng a c H' := by
  obtain ⟨ne, ns, m, ha, hc, hn, hm⟩ := R
  exact ⟨ne, ns, m, s _ _ ha, s _ _ hc, hn, hm⟩
theorem Gr.same (s : Same H H') : Gr a c H H' := Lb.Same.hid s
/-- what stands beside the two places stands -/
theorem Gr.keep (g : Gr a c H H') (h1 : p ≠ a) (h2 : p ≠ c) (e : H p = some o) : H' p = some o := g.at (by rw [hid_out (hid2 h1 h2)]; exact e)
theorem hid_of (h1 : p ≠ a) (h2 : p ≠ c) (e : H p = some o) : hid [a, c] H p = some o := by
  rw [hid_out (hid2 h1 h2)]
  exact e
theorem hid_upd_ne {b : Addr} {S : List Addr} (h : b ≠ p) : hid S (upd H p o) b = hid S H b := by
  by_cases q : b ∈ S
  · rw [hid_in q, hid_in q]
  · rw [hid_out q, hid_out q, upd_ne h]
end
end Lb
set_option Elab.async false
set_option linter.all false
set_option maxRecDepth 100000
set_option maxHeartbeats 4000000
/-! From a def's facts to its callable. -/
namespace Lb
open PySem PySem.Spec PyProof.Rows L2
section
variable {P : Program} {w : World} {K : PySem.W.Frag} {h : Heap} {mg : Str → Option Value} {base : Heap} {x m cls qual name : Str} {k : Nat} {ps : List Str} {sp : Sp} {f : Addr} {fd : FuncData}
variable {params : Arguments} {body : List Stmt} {scope : Scope}
def spF : Sp := fun _ _ _ _ => False
theorem okF : FnOk P w K mg base CX0 k f fd ps spF := ⟨fun _ _ _ _ q => False.elim q, fun _ _ _ _ _ _ _ _ _ _ _ _ _ q => False.elim q⟩
theorem mkCal (F : FunD K name qual params body scope [] [] f fd) (g : mg x = some (.ref f)) (hb : Binds K fd ps []) (O : FnOk P w K mg base CX0 k f fd ps sp) : Cal P w K mg base x k ps sp := ⟨⟨_, _, g, F.kp, hb, O⟩⟩
theorem mkCalM {C : Addr} (hc : Cls K C) (hm : Meth K C m f) (hb : Binds K fd ps []) (O : FnOk P w K mg base CX0 k f fd ps sp) : CalM P w K mg base C m k ps sp := ⟨⟨_, _, hc, hm, hb, O⟩⟩
theorem mkCalC {C : Addr} (g : mg x = some (.ref C)) (M : Mk K C f) (hb : Binds K fd ps []) (O : FnOk P w K mg base CX0 k f fd ps sp) : CalC P w K mg base x C k ps sp := ⟨⟨_, _, g, M, hb, O⟩⟩
theorem Cal.up {j : Nat} (c : Cal P w K mg base x j ps sp) (hl : j ≤ k) : Cal P w K mg base x k ps sp := by
  obtain ⟨f, fd, g, kp, hb, O⟩ := c.ex
  exact ⟨⟨f, fd, g, kp, hb, O.mono hl⟩⟩
theorem Cal.weak {sp' : Sp} (c : Cal P w K mg base x k ps sp) (hs : ∀ vs H Q E, sp' vs H Q E → sp vs H Q E) : Cal P w K mg base x k ps sp' := by
  obtain ⟨f, fd, g, kp, hb, O⟩ := c.ex
  exact ⟨⟨f, fd, g, kp, hb, O.imp hs⟩⟩
theorem look_cf {c : Str → NameKind → Bool} {x : Str} : ∀ {names : List (Str × NameKind)}, names.lookup x = some .cell ∨ names.lookup x = some .free → (names.map fun (n, k) => if c n k = true then (n, NameKind.cell) else (n, k)).lookup x = some .cell ∨ (names.map fun (n, k) => if c n k = true then (n, NameKind.cell) else (n, k)).lookup x = some .free
  | [], h => by rcases h with h | h <;> cases h
  | (n, k) :: r, h => by
    show List.lookup x ((if c n k = true then (n, NameKind.cell) else (n, k)) :: _) = _ ∨ List.lookup x ((if c n k = true then (n, NameKind.cell) else (n, k)) :: _) = _
    by_cases e : x = n
    · subst e
      have h2 : k = .cell ∨ k = .free := by
        rcases h with h | h
        · rw [List.lookup_cons_self] at h
          exact .inl (Option.some.inj h)
        · rw [List.lookup_cons_self] at h
          exact .inr (Option.some.inj h)
      by_cases q : c x k = true
      · rw [if_pos q, List.lookup_cons_self]
        exact .inl rfl
      · rw [if_neg q, List.lookup_cons_self]
        rcases h2 with z | z <;> rw [z]
        · exact .inl rfl
        · exact .inr rfl
    · have hb : (x == n) = false := beq_false_of_ne e
      have h2 : r.lookup x = some .cell ∨ r.lookup x = some .free := by
        simp only [List.lookup, hb] at h
        exact h
      have ih := look_cf (c := c) h2
      by_cases q : c n k = true
      · rw [if_pos q]
        simp only [List.lookup, hb]
        exact ih
      · rw [if_neg q]
        simp only [List.lookup, hb]
        exact ih
theorem blkOk_in {N : List Str} {sc scope2 : Scope} {own : List (Str × Nat)} {cl : List (Str × Addr)} {C : Addr} {e : Env} (h : blkC N sc scope2 own = true) : BlkOk N (compEnvC sc cl C e).scope scope2 own := by
  have b := blkOk_by h
  exact ⟨b.kind, b.uniq, b.ix, fun y hy q => look_cf (c := fun n k => (k == NameKind.free && e.scope.kind == .function && e.kindOf n == some .cell)) (b.free y hy q), b.own⟩
theorem gv_int (X : K.In h) (G : h.Ns mainGlobals mg) {i : Int} (c : (He.Fa.int x i).ok K = true) : GV mg x (.int i) := by
  obtain ⟨t, e⟩ := He.int_ok X G c
  exact ⟨⟨_, e, t, rfl⟩⟩
theorem gv_str (X : K.In h) (G : h.Ns mainGlobals mg) {i : Str} (c : (He.Fa.str x i).ok K = true) : GV mg x (.str i) := by
  obtain ⟨t, e⟩ := He.str_ok X G c
  exact ⟨⟨_, e, t, rfl⟩⟩
theorem gv_glo (X : K.In h) (G : h.Ns mainGlobals mg) (c : (He.Fa.glo x).ok K = true) : GV mg x (.ref (He.ga K x)) := ⟨⟨_, He.glo_ok X G c, rfl⟩⟩
end
end Lb
set_option Elab.async false
set_option linter.all false
set_option maxRecDepth 100000
set_option maxHeartbeats 4000000
/-! Lo: what a walk owns: places that it may change, each with its contents, beside a part of the heap that stays. Knows no program. -/
namespace Lb
open PySem PySem.Spec PyProof.Rows L2
structure Own (a c : Addr) (B H : Hp) (ls : List (Addr × HO)) : Prop where
  R : Rng a c H
  keep : Same B H
  nd : (ls.map Prod.fst).Nodup
  out : ∀ x ∈ ls, B x.1 = none ∧ x.1 ≠ a ∧ x.1 ≠ c
  here : ∀ x ∈ ls, H x.1 = some x.2
  ha : B a = none
  hc : B c = none
inductive Up1 (p : Addr) (o o' : HO) : List (Addr × HO) → List (Addr × HO) → Prop
  | here {r : List (Addr × HO)} : Up1 p o o' ((p, o) :: r) ((p, o') :: r)
  | there {x : Addr × HO} {r r' : List (Addr × HO)} (h : Up1 p o o' r r') : Up1 p o o' (x :: r) (x :: r')
section
variable {a c p : Addr} {B H H' : Hp} {o o' : HO} {ls ls' l1 l2 : List (Addr × HO)}
theorem Up1.mem (h : Up1 p o o' ls ls') : (p, o) ∈ ls := by
  induction h with
  | here => exact List.mem_cons_self
  | there _ ih => exact List.mem_cons_of_mem _ ih
theorem Up1.fst (h : Up1 p o o' ls ls') : ls'.map Prod.fst = ls.map Prod.fst := by
  induction h with
  | here => rfl
  | there _ ih => rw [List.map_cons, List.map_cons, ih]
theorem Up1.of (h : Up1 p o o' ls ls') : ∀ x ∈ ls', x = (p, o') ∨ x ∈ ls := by
  induction h with
  | here => exact fun x hx => (List.mem_cons.mp hx).imp id (List.mem_cons_of_mem _)
  | there _ ih =>
    intro x hx
    rcases List.mem_cons.mp hx with e | e
    · exact .inr (by rw [e]; exact List.mem_cons_self)
    · exact (ih x e).imp id (List.mem_cons_of_mem _)
theorem Up1.other (h : Up1 p o o' ls ls') (nd : (ls.map Prod.fst).Nodup) : ∀ x ∈ ls', x = (p, o') ∨ (x ∈ ls ∧ x.1 ≠ p) := by
  induction h with
  | here =>
    intro x hx
    rcases List.mem_cons.mp hx with e | e
    · exact .inl e
    · refine .inr ⟨List.mem_cons_of_mem _ e, fun q => ?_⟩
      have h1 := (List.nodup_cons.mp nd).1
      exact h1 (by
        have z := List.mem_map_of_mem (f := Prod.fst) e
        rw [q] at z
        exact z)
  | @there y r r' k ih =>
    intro x hx
    have h1 := List.nodup_cons.mp nd
    rcases List.mem_cons.mp hx with e | e
    · refine .inr ⟨by rw [e]; exact List.mem_cons_self, fun q => ?_⟩
      exact h1.1 (by rw [← e, q]; exact List.mem_map_of_mem (f := Prod.fst) k.mem)
    · exact (ih h1.2 x e).imp id fun z => ⟨List.mem_cons_of_mem _ z.1, z.2⟩
theorem Own.mem (O : Own a c B H ls) (h : (p, o) ∈ ls) : H p = some o := O.here _ h
theorem Own.kp (O : Own a c B H ls) (h : B p = some o) : H p = some o := O.keep _ _ h
theorem Own.draw (O : Own a c B H ls) (R : Rng a c H') (f : Fra a c H H') : Own a c B H' ls := by
  refine ⟨R, fun b o e => ?_, O.nd, O.out, fun x hx => ?_, O.ha, O.hc⟩
  · rw [f b (fun q => by rw [q, O.ha] at e; cases e) fun q => by rw [q, O.hc] at e; cases e]
    exact O.keep _ _ e
  · rw [f _ (O.out x hx).2.1 (O.out x hx).2.2]
    exact O.here x hx
theorem Own.same (O : Own a c B H ls) (s : Same H H') : Own a c B H' ls := ⟨O.R.same s, fun b o e => s _ _ (O.keep _ _ e), O.nd, O.out, fun x hx => s _ _ (O.here x hx), O.ha, O.hc⟩
theorem Own.set (O : Own a c B H ls) (h : Up1 p o o' ls ls') : Own a c B (upd H p o') ls' := by
  have hp := O.out _ h.mem
  refine ⟨O.R.upd hp.2.1 hp.2.2, fun b u e => ?_, by rw [h.fst]; exact O.nd, fun x hx => ?_, fun x hx => ?_, O.ha, O.hc⟩
  · rw [upd_ne (fun q => by rw [q, hp.1] at e; cases e)]
    exact O.keep _ _ e
  · rcases h.of x hx with e | e
    · rw [e]
      exact hp
    · exact O.out x e
  · rcases h.other O.nd x hx with e | e
    · rw [e]
      exact upd_same
    · rw [upd_ne e.2]
      exact O.here x e.1
theorem Own.new (O : Own a c B H ls) (hp : H p = none) : Own a c B (upd H p o) ((p, o) :: ls) := by
  obtain ⟨n1, n2⟩ := O.R.fresh hp
  have hb : B p = none := by
    cases e : B p with
    | none => rfl
    | some u => rw [O.keep _ _ e] at hp; cases hp
  have hne : ∀ x ∈ ls, x.1 ≠ p := fun x hx q => by
    have := O.here x hx
    rw [q, hp] at this
    cases this
  refine ⟨O.R.upd n1 n2, fun b u e => ?_, ?_, fun x hx => ?_, fun x hx => ?_, O.ha, O.hc⟩
  · rw [upd_ne (fun q => by rw [q, hb] at e; cases e)]
    exact O.keep _ _ e
  · rw [List.map_cons]
    refine List.nodup_cons.mpr ⟨fun q => ?_, O.nd⟩
    obtain ⟨x, hx, e⟩ := List.mem_map.mp q
    exact hne x hx e
  · rcases List.mem_cons.mp hx with e | e
    · rw [e]
      exact ⟨hb, n1, n2⟩
    · exact O.out x e
  · rcases List.mem_cons.mp hx with e | e
    · rw [e]
      exact upd_same
    · rw [upd_ne (hne x e)]
      exact O.here x e
theorem Own.perm (O : Own a c B H ls) (h : ls.Perm ls') : Own a c B H ls' :=
  ⟨O.R, O.keep, (h.map _).nodup_iff.mp O.nd, fun x hx => O.out x (h.mem_iff.mpr hx), fun x hx => O.here x (h.mem_iff.mpr hx), O.ha, O.hc⟩
/-- the contents of a part of what is owned -/
def cellsH (ls : List (Addr × HO)) : Hp := fun p => ls.lookup p
theorem look_mem {x : Addr × HO} : ∀ {ls : List (Addr × HO)}, (ls.map Prod.fst).Nodup → x ∈ ls → ls.lookup x.1 = some x.2
  | [], _, h => by cases h
  | y :: r, nd, h => by
    have h1 := List.nodup_cons.mp nd
    rcases List.mem_cons.mp h with e | e
    · rw [e]
      show (match y.1 == y.1 with | true => some y.2 | false => r.lookup y.1) = _
      rw [beq_self_eq_true]
    · have ne : ¬ x.1 = y.1 := fun q => h1.1 (by rw [← q]; exact List.mem_map_of_mem e)
      show (match x.1 == y.1 with | true => some y.2 | false => r.lookup x.1) = _
      rw [beq_false_of_ne ne]
      exact look_mem h1.2 e
theorem look_none {p : Addr} : ∀ {ls : List (Addr × HO)}, p ∉ ls.map Prod.fst → ls.lookup p = none
  | [], _ => rfl
  | y :: r, h => by
    have ne : ¬ p = y.1 := fun q => h (by rw [q]; exact List.mem_cons_self)
    show (match p == y.1 with | true => some y.2 | false => r.lookup p) = _
    rw [beq_false_of_ne ne]
    exact look_none fun q => h (List.mem_cons_of_mem _ q)
/-- a part of it stays from now on -/
theorem Own.hide (O : Own a c B H (l1 ++ l2)) : ∃ B', Same B B' ∧ (∀ x ∈ l1, B' x.1 = some x.2) ∧ (∀ q ∉ l1.map Prod.fst, B' q = B q) ∧ Own a c B' H l2 := by
  have nd : (l1.map Prod.fst ++ l2.map Prod.fst).Nodup := by
    rw [← List.map_append]
    exact O.nd
  obtain ⟨n1, n2, n3⟩ := List.nodup_append.mp nd
  have key : ∀ q ∉ l1.map Prod.fst, (match l1.lookup q with | some o => some o | none => B q) = B q := fun q hq => by rw [look_none hq]
  have at1 : ∀ x ∈ l1, (match l1.lookup x.1 with | some o => some o | none => B x.1) = some x.2 := fun x hx => by rw [look_mem n1 hx]
  refine ⟨fun q => match l1.lookup q with | some o => some o | none => B q, fun b u e => ?_, at1, key, O.R, fun b u e => ?_, n2, fun x hx => ?_, fun x hx => O.here x (List.mem_append_right _ hx), ?_, ?_⟩
  · refine (key b fun hq => ?_).trans e
    obtain ⟨x, hx, ex⟩ := List.mem_map.mp hq
    have := (O.out x (List.mem_append_left _ hx)).1
    rw [ex, e] at this
    cases this
  · by_cases hq : b ∈ l1.map Prod.fst
    · obtain ⟨x, hx, ex⟩ := List.mem_map.mp hq
      rw [← ex] at e ⊢
      have e2 : some x.2 = some u := (at1 x hx).symm.trans e
      rw [← e2]
      exact O.here x (List.mem_append_left _ hx)
    · exact O.keep _ _ ((key b hq).symm.trans e)
  · have o1 := O.out x (List.mem_append_right _ hx)
    refine ⟨?_, o1.2⟩
    exact (key _ fun hq => n3 _ hq _ (List.mem_map_of_mem hx) rfl).trans o1.1
  · show (match l1.lookup a with | some o => some o | none => B a) = none
    rw [key a fun hq => ?_]
    · exact O.ha
    obtain ⟨x, hx, ex⟩ := List.mem_map.mp hq
    exact (O.out x (List.mem_append_left _ hx)).2.1 ex
  · show (match l1.lookup c with | some o => some o | none => B c) = none
    rw [key c fun hq => ?_]
    · exact O.hc
    obtain ⟨x, hx, ex⟩ := List.mem_map.mp hq
    exact (O.out x (List.mem_append_left _ hx)).2.2 ex
theorem Own.freeze (O : Own a c B H ((p, o) :: ls)) : ∃ B', Same B B' ∧ B' p = some o ∧ Own a c B' H ls := by
  obtain ⟨B', s, h, _, O'⟩ := Own.hide (l1 := [(p, o)]) O
  exact ⟨B', s, h _ List.mem_cons_self, O'⟩
/-- .. and is owned again -/
theorem Own.unhide (O : Own a c B H l2) (nd : (l1.map Prod.fst).Nodup) (h : ∀ x ∈ l1, B x.1 = some x.2) : Own a c (hid (l1.map Prod.fst) B) H (l1 ++ l2) := by
  refine ⟨O.R, fun b u e => O.keep _ _ (hid_some e).1, ?_, fun x hx => ?_, fun x hx => ?_, ?_, ?_⟩
  · rw [List.map_append]
    refine List.nodup_append.mpr ⟨nd, O.nd, fun u hu v hv e => ?_⟩
    obtain ⟨x, hx, ex⟩ := List.mem_map.mp hu
    obtain ⟨y, hy, ey⟩ := List.mem_map.mp hv
    have h1 := h x hx
    have h2 := (O.out y hy).1
    rw [ey, ← e, ← ex, h1] at h2
    cases h2
  · rcases List.mem_append.mp hx with e | e
    · refine ⟨hid_in (List.mem_map_of_mem e), fun q => ?_, fun q => ?_⟩
      · have := h x e
        rw [q, O.ha] at this
        cases this
      · have := h x e
        rw [q, O.hc] at this
        cases this
    · refine ⟨?_, (O.out x e).2⟩
      by_cases q : x.1 ∈ l1.map Prod.fst
      · exact hid_in q
      · rw [hid_out q]
        exact (O.out x e).1
  · rcases List.mem_append.mp hx with e | e
    · exact O.keep _ _ (h x e)
    · exact O.here x e
  · by_cases q : a ∈ l1.map Prod.fst
    · exact hid_in q
    · rw [hid_out q]
      exact O.ha
  · by_cases q : c ∈ l1.map Prod.fst
    · exact hid_in q
    · rw [hid_out q]
      exact O.hc
theorem Same.hidO {l : List Addr} (s : Same B H) (h : ∀ p ∈ l, B p = none) : Same B (Lb.hid l H) := fun b u e => by
  rw [hid_out fun q => by rw [h b q] at e; cases e]
  exact s _ _ e
end
/-- what came since -/
inductive Pre (l0 : List (Addr × HO)) : List (Addr × HO) → List (Addr × HO) → Prop
  | nil : Pre l0 l0 []
  | cons {x : Addr × HO} {l l1 : List (Addr × HO)} (h : Pre l0 l l1) : Pre l0 (x :: l) (x :: l1)
inductive PutF (f : Str) (y : V) : List (Str × V) → List (Str × V) → Prop
  | nil : PutF f y [] [(f, y)]
  | here {x : V} {r : List (Str × V)} : PutF f y ((f, x) :: r) ((f, y) :: r)
  | there {g : Str} {x : V} {r r' : List (Str × V)} (n : ¬ g = f) (h : PutF f y r r') : PutF f y ((g, x) :: r) ((g, x) :: r')
inductive LkF (f : Str) (v : Option V) : List (Str × V) → Prop
  | nil (h : v = none) : LkF f v []
  | here {x : V} {r : List (Str × V)} (h : v = some x) : LkF f v ((f, x) :: r)
  | there {g : Str} {x : V} {r : List (Str × V)} (n : ¬ f = g) (h : LkF f v r) : LkF f v ((g, x) :: r)
section
variable {a c p : Addr} {B H H' : Hp} {o o' : HO} {ls ls' l0 l1 l2 : List (Addr × HO)} {f : Str} {y : V} {fs fs' : List (Str × V)} {w : Option V}
theorem Pre.eq (h : Pre l0 l1 l2) : l1 = l2 ++ l0 := by
  induction h with
  | nil => rfl
  | cons _ ih => rw [ih]; rfl
theorem PutF.eq (h : PutF f y fs fs') : putF f y fs = fs' := by
  induction h with
  | nil => rfl
  | here => exact if_pos rfl
  | there n _ ih => exact (if_neg n).trans (by rw [ih])
theorem LkF.eq (h : LkF f w fs) : fs.lookup f = w := by
  induction h with
  | nil e => exact e.symm
  | @here x r e =>
    show (match f == f with | true => some x | false => r.lookup f) = w
    rw [beq_self_eq_true]
    exact e.symm
  | @there g x r n _ ih =>
    show (match f == g with | true => some x | false => r.lookup f) = w
    rw [beq_false_of_ne n]
    exact ih
theorem Own.settle (O : Own a c B H ls) (h : Pre l0 ls l1) : ∃ B', Same B B' ∧ (∀ x ∈ l1, B' x.1 = some x.2) ∧ Own a c B' H l0 := by
  rw [h.eq] at O
  obtain ⟨B', s, k, _, O'⟩ := O.hide
  exact ⟨B', s, k, O'⟩
theorem Own.drop (O : Own a c B H (l1 ++ l2)) : Own a c B H l2 :=
  ⟨O.R, O.keep, (by
    have nd := O.nd
    rw [List.map_append] at nd
    exact (List.nodup_append.mp nd).2.1), fun x hx => O.out x (List.mem_append_right _ hx), fun x hx => O.here x (List.mem_append_right _ hx), O.ha, O.hc⟩
theorem Own.dropP (O : Own a c B H ls) (h : Pre l0 ls l1) : Own a c B H l0 := by
  rw [h.eq] at O
  exact O.drop
theorem Own.start (R : Rng a c H) : Own a c (hid [a, c] H) H [] := ⟨R, hid_sub, List.nodup_nil, fun _ h => (List.not_mem_nil h).elim, fun _ h => (List.not_mem_nil h).elim, hid_in List.mem_cons_self, hid_in (List.mem_cons_of_mem _ List.mem_cons_self)⟩
end
/-! ### steps by what is owned -/
section
variable {a c p : Addr} {B H : Hp} {ls ls' : List (Addr × HO)} {Q : VK} {xs : List V} {o : HO} {σ : L2.St}
/-- a new place -/
def NewO (o : HO) (H : Hp) (Q : VK) : Prop := ∀ p, H p = none → Q (.ref p) (upd H p o)
def FldS (K : PySem.W.Frag) (x : V) (f : Str) (y : V) (H : Hp) (R : Hp → Prop) : Prop := ∃ a C dx fs, x = .ref a ∧ H a = some (.ins C dx fs) ∧ Cls K C ∧ NoAttr K C f ∧ fs.length < 1000 ∧ R (upd H a (.ins C dx (putF f y fs)))
def NewI (C : Addr) (sp : Sp) (vs : List V) (H : Hp) (Q : VK) (E : XK) : Prop := ∀ x dx, H x = none → H dx = none → dx ≠ x → sp (.ref x :: vs) (upd (upd H dx (.own x)) x (.ins C dx [])) (fun v H2 => v = .non ∧ Q (.ref x) H2) E
theorem i_tupN {t : TA} (q : t σ H fun xs H1 => xs.length ≤ sizeLine ∧ NewO (.tup xs) H1 Q) : tTup t σ H Q := q
theorem i_lstN {t : TA} (q : t σ H fun xs H1 => xs.length ≤ sizeLine ∧ NewO (.lst xs) H1 Q) : tLst t σ H Q := q
theorem i_dnewN (q : NewO (.dK []) H Q) : tDNewK σ H Q := q
theorem i_fldSN {K : PySem.W.Frag} {ta tv : TE} {f : Str} {nx : L2.St → Hp → Prop} {rt : VK} {bk ct : L2.St → Hp → Prop} (q : tv σ H fun y H1 => ta σ H1 fun x H2 => FldS K x f y H2 fun H3 => nx σ H3) : sFld K ta tv f ⟨nx, rt, bk, ct⟩ σ H := q
theorem i_makeN {C : Addr} {sp : Sp} {E : XK} {t : TA} (q : t σ H fun vs H1 => NewI C sp (vs ++ []) H1 Q E) : tMake C sp [] E t σ H Q := q
theorem i_listN {p : Addr} (h : H p = some (.lst xs)) (k : NewO (.lst xs) H Q) : rListA [.ref p] H Q := i_listL h k
theorem i_listTN {p : Addr} (h : H p = some (.tup xs)) (k : NewO (.lst xs) H Q) : rListA [.ref p] H Q := i_listT h k
theorem i_addN {p q : Addr} {ys : List V} (h1 : H p = some (.lst xs)) (h2 : H q = some (.lst ys)) (h : xs.length + ys.length ≤ sizeLine) (k : NewO (.lst (xs ++ ys)) H Q) : rAddA (.ref p) (.ref q) H Q := i_addL h1 h2 h k
theorem i_tupO (O : Own a c B H ls) (hz : xs.length ≤ sizeLine) (k : ∀ p H', Own a c B H' ((p, .tup xs) :: ls) → Q (.ref p) H') : xs.length ≤ sizeLine ∧ NewO (.tup xs) H Q := ⟨hz, fun p hp => k p _ (O.new hp)⟩
theorem i_lstO (O : Own a c B H ls) (hz : xs.length ≤ sizeLine) (k : ∀ p H', Own a c B H' ((p, .lst xs) :: ls) → Q (.ref p) H') : xs.length ≤ sizeLine ∧ NewO (.lst xs) H Q := ⟨hz, fun p hp => k p _ (O.new hp)⟩
theorem i_newO (O : Own a c B H ls) (k : ∀ p H', Own a c B H' ((p, o) :: ls) → Q (.ref p) H') : NewO o H Q := fun p hp => k p _ (O.new hp)
theorem i_dgetI {p : Addr} {kvs : List (Key × V)} {i : Int} {v : V} {R : V → Prop} (h : H p = some (.dK kvs)) (hv : valV kvs (.inl i) = some v) (q : R v) : (∃ a' v', V.ref p = .ref a' ∧ DGet H a' (.int i) (some v') ∧ R v') := i_dgetK h (k := .inl i) rfl hv q
inductive IxO : HO → Int → V → Prop
  | lst {xs : List V} {i : Int} {v : V} (h : atI xs i = some v) : IxO (.lst xs) i v
  | tup {xs : List V} {i : Int} {v : V} (h : atI xs i = some v) : IxO (.tup xs) i v
inductive LenO : HO → Int → Prop
  | lst {xs : List V} : LenO (.lst xs) xs.length
  | tup {xs : List V} : LenO (.tup xs) xs.length
  | dK {kvs : List (Key × V)} : LenO (.dK kvs) kvs.length
theorem i_ixA {p : Addr} {i : Int} {v : V} (h : H p = some o) (hi : IxO o i v) (q : Q v H) : rIxA (.ref p) (.int i) H Q := by
  cases hi with
  | lst hi => exact i_ixL h hi q
  | tup hi => exact i_ixT h hi q
theorem i_lenA {p : Addr} {i : Int} (h : H p = some o) (hi : LenO o i) (q : Q (.int i) H) : rLenA [.ref p] H Q := by
  cases hi with
  | lst => exact i_lenL h q
  | tup => exact i_lenT h q
  | dK => exact i_lenD h q
theorem i_appO {l : Addr} {y : V} (O : Own a c B H ls) (h : Up1 l (.lst xs) (.lst (xs ++ [y])) ls ls') (hz : xs.length < sizeLine) (k : ∀ H', Own a c B H' ls' → Q .non H') : rAppA (.ref l) [y] H Q := i_app (O.mem h.mem) hz (k _ (O.set h))
theorem i_setO {l : Addr} {i : Int} {j : Nat} {v : V} {R : Hp → Prop} (O : Own a c B H ls) (h : Up1 l (.lst xs) (.lst (xs.set j v)) ls ls') (hi : ixN xs.length i = some j) (k : ∀ H', Own a c B H' ls' → R H') : rSetA (.ref l) (.int i) v H R := i_setL (O.mem h.mem) hi (k _ (O.set h))
theorem i_popIO {l : Addr} {y : V} {i : Int} {j : Nat} (O : Own a c B H ls) (h : Up1 l (.lst xs) (.lst (xs.eraseIdx j)) ls ls') (hi : i = (j : Int)) (hj : j < 2 ^ 62) (hy : xs[j]? = some y) (k : ∀ H', Own a c B H' ls' → Q y H') : rPopI (.ref l) [.int i] H Q := by
  simp only [rPopI, O.mem h.mem]
  exact ⟨j, y, hi, hj, hy, k _ (O.set h)⟩
theorem i_popLO {l : Addr} {y : V} (O : Own a c B H ls) (h : Up1 l (.lst xs) (.lst xs.dropLast) ls ls') (hy : xs[xs.length - 1]? = some y) (k : ∀ H', Own a c B H' ls' → Q y H') : rPopL (.ref l) [] H Q := i_popL (O.mem h.mem) hy (k _ (O.set h))
theorem i_fldO {K : PySem.W.Frag} {l C dx : Addr} {fs : List (Str × V)} {f : Str} {v : V} {R : V → Prop} (h : H l = some (.ins C dx fs)) (hc : Cls K C) (hn : NoAttr K C f) (hv : LkF f (some v) fs) (k : R v) :
    (∃ a C dx fs v, V.ref l = .ref a ∧ H a = some (.ins C dx fs) ∧ Cls K C ∧ NoAttr K C f ∧ fs.lookup f = some v ∧ R v) := ⟨l, C, dx, fs, v, rfl, h, hc, hn, hv.eq, k⟩
theorem i_fldSO {K : PySem.W.Frag} {l C dx : Addr} {fs : List (Str × V)} {f : Str} {y : V} {R : Hp → Prop} (O : Own a c B H ls) {fs' : List (Str × V)} (h : Up1 l (.ins C dx fs) (.ins C dx fs') ls ls') (hf : PutF f y fs fs') (hc : Cls K C) (hn : NoAttr K C f) (hz : fs.length < 1000) (k : ∀ H', Own a c B H' ls' → R H') :
    FldS K (.ref l) f y H R := ⟨l, C, dx, fs, rfl, O.mem h.mem, hc, hn, hz, by rw [hf.eq]; exact k _ (O.set h)⟩
theorem i_methO {C l dx : Addr} {fs : List (Str × V)} {m : Str} {t : TA} {R : List V → Hp → Prop} (h : H l = some (.ins C dx fs)) (hm : LkF m none fs) (k : t σ H R) :
    (∃ a dx fs, V.ref l = .ref a ∧ H a = some (.ins C dx fs) ∧ fs.lookup m = none ∧ t σ H R) := ⟨l, dx, fs, rfl, h, hm.eq, k⟩
theorem i_mkd {R : Prop} (q : R) : (V.non = V.non ∧ R) := ⟨rfl, q⟩
theorem i_makeO {C : Addr} {sp : Sp} {E : XK} {vs : List V} (O : Own a c B H ls) (k : ∀ x dx H', Own a c B H' ((x, .ins C dx []) :: (dx, .own x) :: ls) → sp (.ref x :: vs) H' (fun v H2 => v = .non ∧ Q (.ref x) H2) E) : NewI C sp vs H Q E :=
  fun x dx hx hd ne => k x dx _ ((O.new hd).new (by rw [upd_ne ne.symm]; exact hx))
theorem i_drawO {s : Addr} {n : Int} {E : XK} (O : Own a c B H ls) (hs : s = a) (h0 : 0 < n) (h1 : n < 1073741824) (k : ∀ (r : Int) H', 0 ≤ r → r < n → Own a c B H' ls → Q (.int r) H') : spDraw ([.ref s, .int n] ++ []) H Q E := by
  subst hs
  exact ⟨_, c, n, rfl, h0, h1, O.R, fun H' r a1 a2 R f => k r H' a1 a2 (O.draw R f)⟩
theorem i_pickO {s p : Addr} {E : XK} (O : Own a c B H ls) (hs : s = a) (hp : (p, HO.lst xs) ∈ ls) (h0 : xs ≠ []) (h1 : xs.length ≤ 100000) (k : ∀ (v : V) H', v ∈ xs → Own a c B H' ls → Q v H') : spPick ([.ref s, .ref p] ++ []) H Q E := by
  subst hs
  exact ⟨_, c, p, xs, rfl, O.R, O.mem hp, (O.out _ hp).2.1, (O.out _ hp).2.2, h0, h1, fun H' v hv R f => k v H' hv (O.draw R f)⟩
/-! ### blocks of n alike -/
theorem blk_pull {α : Type} {n j : Nat} (h : j < n) (f : Nat → List α) : ((List.range n).flatMap f).Perm (f j ++ ((List.range n).erase j).flatMap f) := by
  have e := List.perm_cons_erase (List.mem_range.mpr h)
  exact (e.flatMap_right f)
theorem blk_other {α : Type} {n j : Nat} {f g : Nat → List α} (h : ∀ i, i ≠ j → g i = f i) : ((List.range n).erase j).flatMap g = ((List.range n).erase j).flatMap f := by
  have key : ∀ l : List Nat, j ∉ l → l.flatMap g = l.flatMap f := by
    intro l
    induction l with
    | nil => intro _; rfl
    | cons x r ih =>
      intro hj
      rw [List.flatMap_cons, List.flatMap_cons, h x (fun q => hj (by rw [q]; exact List.mem_cons_self)), ih fun q => hj (List.mem_cons_of_mem _ q)]
  exact key _ fun q => ((List.nodup_range).mem_erase_iff.mp q).1 rfl
theorem blk_below {α : Type} {n : Nat} {f g : Nat → List α} (h : ∀ i, i < n → g i = f i) : (List.range n).flatMap g = (List.range n).flatMap f := by
  have key : ∀ l : List Nat, (∀ i ∈ l, i < n) → l.flatMap g = l.flatMap f := by
    intro l
    induction l with
    | nil => intro _; rfl
    | cons x r ih =>
      intro hj
      rw [List.flatMap_cons, List.flatMap_cons, h x (hj x List.mem_cons_self), ih fun i hi => hj i (List.mem_cons_of_mem _ hi)]
  exact key _ fun i hi => List.mem_range.mp hi
theorem blk_succ {α : Type} {n : Nat} (f : Nat → List α) : (List.range (n + 1)).flatMap f = (List.range n).flatMap f ++ f n := by
  rw [List.range_succ, List.flatMap_append, List.flatMap_cons, List.flatMap_nil, List.append_nil]
theorem blk_join {α : Type} (f g : Nat → List α) : ∀ n, ((List.range n).flatMap f ++ (List.range n).flatMap g).Perm ((List.range n).flatMap fun i => f i ++ g i)
  | 0 => .nil
  | n + 1 => by
    rw [blk_succ, blk_succ, blk_succ]
    have ih := blk_join f g n
    refine List.Perm.trans ?_ (ih.append_right (f n ++ g n))
    rw [List.append_assoc, List.append_assoc]
    refine List.Perm.append_left _ ?_
    rw [← List.append_assoc, ← List.append_assoc]
    exact (List.perm_append_comm (l₁ := f n)).append_right _
/-- a def of the walk's own -/
def spIn (N : List Str) (n : Nat) (t : TS) : Sp := fun vs H Q _ => vs.length = n ∧ t { nx := fun _ H' => Q .non H', rt := Q } (L2.start N vs) H
inductive StE : List Str → List V → L2.St → Prop
  | nil : StE [] [] []
  | app {N : List Str} {vs : List V} {σ : L2.St} (h : StE N vs σ) : StE N (vs ++ []) σ
  | got {x : Str} {N : List Str} {v : V} {vs : List V} {σ : L2.St} (h : StE N vs σ) : StE (x :: N) (v :: vs) (some v :: σ)
  | lack {x : Str} {N : List Str} {σ : L2.St} (h : StE N [] σ) : StE (x :: N) [] (none :: σ)
theorem StE.eq {N : List Str} {vs : List V} {σ : L2.St} (h : StE N vs σ) : L2.start N vs = σ := by
  induction h with
  | nil => rfl
  | app _ ih => rw [List.append_nil]; exact ih
  | @got x N v vs σ _ ih =>
    rw [← ih]
    show (v :: vs).map some ++ List.replicate (N.length + 1 - (vs.length + 1)) none = some v :: (vs.map some ++ List.replicate (N.length - vs.length) none)
    rw [Nat.add_sub_add_right]
    rfl
  | @lack x N σ _ ih =>
    rw [← ih]
    rfl
theorem i_in {N : List Str} {n : Nat} {t : TS} {vs : List V} {σ : L2.St} {E : XK} (hn : vs.length = n) (hs : StE N vs σ) (q : t { nx := fun _ H' => Q .non H', rt := Q } σ H) : spIn N n t vs H Q E := ⟨hn, by rw [hs.eq]; exact q⟩
end
end Lb
set_option Elab.async false
set_option linter.all false
set_option maxRecDepth 100000
set_option maxHeartbeats 4000000
/-! Lp: attributes as targets, is of bools, index of ints. Knows no program. -/
namespace Lb
open PySem PySem.Spec PyProof.Rows L2
/-- o.f as a target -/
def gFld (K : PySem.W.Frag) (ta : TE) (f : Str) : TG := fun v σ H R => ta σ H fun x H1 => FldS K x f v H1 fun H2 => R σ H2
section
variable {X : Cx} {o : Expr} {f : Str} {ta : TE} {pos : Pos}
theorem pg_fld (ha : PE X o ta) : PG X (.Attribute o f pos) (gFld X.K ta f) := by
  refine ⟨fun pins s σ H v u Q I r h => ?_⟩
  refine PySem.W.kas_attr (thn (ha.run pins s σ H _ I h) fun ov s1 ⟨x, H1, I1, rx, a, C, dx, fs, ex, ea, c, n, l, q⟩ => ?_)
  subst ex
  obtain rfl : ov = Value.ref a := rx
  exact setattr_ok I1 ea c n l r fun s2 I2 => ⟨σ, _, I2, q⟩
end
section
variable {H : Hp} {Q : VK} {σ : L2.St}
theorem i_gfld {K : PySem.W.Frag} {ta : TE} {f : Str} {v : V} {R : L2.St → Hp → Prop} (q : ta σ H fun x H1 => FldS K x f v H1 fun H2 => R σ H2) : gFld K ta f v σ H R := q
theorem i_glst {K : PySem.W.Frag} {n : Nat} {t : TGs} {a : Addr} {xs : List V} {R : L2.St → Hp → Prop} (h : H a = some (.lst xs)) (hn : xs.length = n) (q : t xs σ H R) : gLst K n t (.ref a) σ H R := ⟨a, xs, rfl, SqL.of h, hn, q⟩
theorem i_isB {a b : Bool} (q : Q (.bl (decide (a = b))) H) : rIsB (.bl a) (.bl b) H Q := ⟨a, b, rfl, rfl, q⟩
theorem i_notB {a b : Bool} (q : Q (.bl (!decide (a = b))) H) : rNotB (.bl a) (.bl b) H Q := ⟨a, b, rfl, rfl, q⟩
theorem i_bm {K : PySem.W.Frag} {T : String} {r : V → List V → Hp → VK → Prop} {to : TE} {t : TA} (q : to σ H fun x H1 => tyV K T x H1 ∧ t σ H1 fun xs H2 => r x xs H2 Q) : tBM K T r to t σ H Q := q
theorem eqV_int {a b : Int} : eqV (.int a) (.int b) = decide (a = b) := by
  by_cases h : a = b <;> simp [eqV, h]
/-- xs.index(y), ints -/
theorem i_indexI {K : PySem.W.Frag} {p : Addr} {ns : List Int} {y : Int} {j : Nat} (h : H p = some (.lst (ns.map V.int))) (hj : ns[j]? = some y) (hn : ∀ m, m < j → ns[m]? ≠ some y) (q : Q (.int (j : Nat)) H) : rIndex K (.ref p) [.int y] H Q := by
  refine ⟨p, ns.map V.int, .int y, j, .int y, rfl, rfl, SqL.of h, rfl, ?_, ?_, ?_, fun m z' hm hz => ?_, q⟩
  · rw [List.all_eq_true]
    intro v hv
    obtain ⟨i, _, rfl⟩ := List.mem_map.mp hv
    rfl
  · rw [List.getElem?_map, hj]
    rfl
  · rw [eqV_int]
    exact decide_eq_true rfl
  · rw [List.getElem?_map] at hz
    cases e : ns[m]? with
    | none => rw [e] at hz; cases hz
    | some u =>
      rw [e] at hz
      rw [← Option.some.inj hz]
      show eqV (.int u) (.int y) = false
      rw [eqV_int]
      exact decide_eq_false fun q => hn m hm (by rw [e, q])
end
end Lb
set_option Elab.async false
set_option linter.all false
set_option maxRecDepth 100000
set_option maxHeartbeats 4000000
/-! Lt: constant tuples of the program, index of a tuple, split, extend by a tuple. Knows no program. -/
namespace Lb
open PySem PySem.Spec PyProof.Rows L2
def allB : List V → List Value → Bool
  | [], [] => true
  | x :: xs, u :: us => He.relB x u && allB xs us
  | _, _ => false
theorem allB_ok : ∀ {xs : List V} {us : List Value}, allB xs us = true → Vals xs us
  | [], [], _ => .nil
  | x :: xs, u :: us, h => by
    obtain ⟨h1, h2⟩ := He.ba (show (He.relB x u && allB xs us) = true from h)
    exact .cons (He.relB_ok h1) (allB_ok h2)
  | [], _ :: _, h => by cases h
  | _ :: _, [], h => by cases h
/-- the global x is a tuple of these -/
def tupB (K : PySem.W.Frag) (x : Str) (xs : List V) : Bool := match K.lookup (He.ga K x) with
  | some ⟨.type c, none, .seq its _, _⟩ => decide (c = "tuple") && (decide (its.size ≤ 1000) && allB xs its.toList)
  | _ => false
/-- what a constant tuple is -/
structure KT (K : PySem.W.Frag) (a : Addr) (xs : List V) : Prop where
  sq : ∀ H, SqT K H a xs
  ty : ∀ H, tyV K "tuple" (.ref a) H
theorem tupB_ok {K : PySem.W.Frag} {x : Str} {xs : List V} (h : tupB K x xs = true) : KT K (He.ga K x) xs := by
  unfold tupB at h
  cases q : K.lookup (He.ga K x) with
  | none =>
    rw [q] at h
    cases h
  | some o =>
    obtain ⟨oc, od, dt, osl⟩ := o
    rw [q] at h
    cases oc with
    | type c =>
      cases od with
      | none =>
        cases dt with
        | seq its n =>
          obtain ⟨h1, h2⟩ := He.ba h
          obtain ⟨h3, h4⟩ := He.ba h2
          have e : c = "tuple" := of_decide_eq_true h1
          subst e
          exact ⟨fun H => .inr ⟨_, its, n, q, rfl, rfl, sz (Nat.le_trans (of_decide_eq_true h3) (by decide)), allB_ok h4⟩, fun H => .inr (.inl ⟨rfl, _, q, rfl, rfl⟩)⟩
        | _ => cases h
      | some d => cases dt <;> cases h
    | _ => cases od <;> cases dt <;> cases h
def rLenK (K : PySem.W.Frag) : List V → Hp → VK → Prop := fun xs H Q => ∃ p ys, xs = [.ref p] ∧ (SqL K H p ys ∨ SqT K H p ys) ∧ Q (.int ys.length) H
def rTixA (K : PySem.W.Frag) : V → List V → Hp → VK → Prop := fun x xs H Q => ∃ p, ∃ ys : List Str, ∃ z j, x = .ref p ∧ xs = [.str z] ∧ SqT K H p (ys.map V.str) ∧ ys[j]? = some z ∧ (∀ m, m < j → ys[m]? ≠ some z) ∧ Q (.int (j : Nat)) H
def rSplitA : V → List V → Hp → VK → Prop := fun x xs H Q => ∃ a b, x = .str a ∧ xs = [.str b] ∧ (b.length == 0) = false ∧ a.length + 2 ≤ sizeLine ∧ ∀ p, H p = none → Q (.ref p) (upd H p (.lst ((Txt.split a b).map V.str)))
def rExtT : V → List V → Hp → VK → Prop := fun x vs H Q => ∃ l b xs ys, x = .ref l ∧ vs = [.ref b] ∧ H l = some (.lst xs) ∧ H b = some (.tup ys) ∧ xs.length + ys.length ≤ sizeLine ∧ Q .non (upd H l (.lst (xs ++ ys)))
theorem ext_tup (l : Addr) (items : Array Value) (n : Nat) (b : Addr) (items2 : Array Value) (n2 : Nat) (dd : Option Addr) (sl : Array (Option Value)) (hs0 : ¬(!items.isEmpty && Builtin.List.listTooLong (items.size + items2.size)) = true) (hs1 : items.size ≤ sizeLine) (hs2 : items.size + items2.size ≤ sizeLine + 1) :
    Meets (Builtin.«list.extend» ⟨[.ref l, .ref b], []⟩) (fun _ R s => s.heap.get? l = some { cls := .type "list", dict := none, data := .seq items n, slots := #[] } ∧ s.heap.get? b = some { cls := .type "tuple", dict := dd, data := .seq items2 n2, slots := sl } ∧ R (.ok (.ret Value.none)) { s with heap := s.heap.update l (Obj.mapSeq fun x => x ++ items2), toks := s.toks }) :=
  .of_wp fun prog w A R s h => by
    obtain ⟨hp, g, d, tk, os⟩ := s; obtain ⟨hl, hb, h⟩ := h; have f1 := AutoSeq1.idx_int; have f2 := AutoSeq1.sub_tuple_tuple; have f3 := AutoSeq1.sub_list_list; have f4 := AutoSeq1.sub_tuple_list; have f5 := AutoSeq1.sub_list_tuple;
    have hz' : (items ++ items2).size ≤ sizeLine + 1 := by rw [Array.size_append]; exact hs2
    wp_walk using (wpAny_updateSeq hl rfl (hz := hs1) (_hz' := hz')), AutoSeq1.wpAny_loadPart' hl, AutoSeq1.wpAny_loadPart' hb; exact ⟨_, rfl, h⟩
section
variable {X : Cx} {H : Hp} {Q : VK} {σ : L2.St}
theorem call_lenK : CallR X (.builtin "len") (rLenK X.K) := call_len_seq
theorem mt_tixA : MtR X "tuple.index" (rTixA X.K) := mt_tup_index
theorem mt_splitA : MtR X "str.split" rSplitA := mt_split
theorem mt_extT : MtR X "list.extend" rExtT := by
  intro pins s σ H x vs v us Q I rx rv h
  obtain ⟨l, b, xs, zs, rfl, rfl, hH, hB, hz, q⟩ := h
  cases rx
  obtain ⟨u, rfl, ru⟩ := rv.one
  cases ru
  obtain ⟨z, its, n, r, hl, e⟩ := I.lstM hH
  obtain ⟨its2, r2, ⟨⟨cls, dd, dt, sl⟩, ho, hc, n2, hd⟩, hz2⟩ := I.tuple (SqT.of (K := X.K) hB)
  simp only at hc hd
  subst hc
  subst hd
  have hl2 := r2.length
  have hsz : its.toArray.size + its2.toArray.size ≤ sizeLine := by rw [List.size_toArray, List.size_toArray]; omega
  have hlong : ¬ (!its.toArray.isEmpty && Builtin.List.listTooLong (its.toArray.size + its2.toArray.size)) = true := by
    rw [notLongL hsz, Bool.and_false]
    exact Bool.false_ne_true
  refine call_meets F.slot_list_extend ⟨_, e, rfl⟩ F.entry_list_extend (F.args_list_extend_2 _ _)
    (ext_tup l its.toArray n b its2.toArray n2 dd sl hlong (by rw [List.size_toArray]; omega) (by omega)) ⟨e, ho, ?_⟩
  refine ⟨.non, _, I.lset (its' := its ++ its2) hH e (by simp) (r.append r2) ?_, rfl, q⟩
  rw [List.length_append]
  omega
end
theorem Up1.mid {p : Addr} {o o' : HO} {ls ls' : List (Addr × HO)} (h : Up1 p o o' ls ls') (m : HO) : ∃ l1, Up1 p o m ls l1 ∧ Up1 p m o' l1 ls' := by
  induction h with
  | here => exact ⟨_, .here, .here⟩
  | there _ ih =>
    obtain ⟨l1, h1, h2⟩ := ih
    exact ⟨_, .there h1, .there h2⟩
theorem Up1.mem' {p : Addr} {o o' : HO} {ls ls' : List (Addr × HO)} (h : Up1 p o o' ls ls') : (p, o') ∈ ls' := by
  induction h with
  | here => exact List.mem_cons_self
  | there _ ih => exact List.mem_cons_of_mem _ ih
theorem Up1.comp {p : Addr} {o o' o'' : HO} {ls l1 ls' : List (Addr × HO)} (h : Up1 p o o' ls l1) (k : Up1 p o' o'' l1 ls') (nd : (l1.map Prod.fst).Nodup) : Up1 p o o'' ls ls' := by
  induction h generalizing ls' with
  | here =>
    cases k with
    | here => exact .here
    | there k => exact ((List.nodup_cons.mp nd).1 (List.mem_map_of_mem (f := Prod.fst) k.mem)).elim
  | there h ih =>
    cases k with
    | here => exact ((List.nodup_cons.mp nd).1 (List.mem_map_of_mem (f := Prod.fst) h.mem')).elim
    | there k => exact .there (ih k (List.nodup_cons.mp nd).2)
theorem Up1.eq {p : Addr} {o : HO} {ls ls' : List (Addr × HO)} (h : Up1 p o o ls ls') : ls' = ls := by
  induction h with
  | here => rfl
  | there _ ih => rw [ih]
section
variable {H : Hp} {Q : VK} {σ : L2.St} {K : PySem.W.Frag}
theorem i_ixK {p : Addr} {xs : List V} {i : Int} {v : V} (h : KT K p xs) (e : atI xs i = some v) (q : Q v H) : rIxT K (.ref p) (.int i) H Q := ⟨p, xs, i, v, rfl, rfl, h.sq H, e, q⟩
theorem i_lenK {p : Addr} {xs : List V} {n : Int} (h : KT K p xs) (e : (xs.length : Int) = n) (q : Q (.int n) H) : rLenK K [.ref p] H Q := by
  subst e
  exact ⟨p, xs, rfl, .inr (h.sq H), q⟩
theorem i_tixK {p : Addr} {ys : List Str} {z : Str} {j : Nat} (h : KT K p (ys.map V.str)) (h1 : ys[j]? = some z) (h2 : ∀ m, m < j → ys[m]? ≠ some z) (q : Q (.int (j : Nat)) H) : rTixA K (.ref p) [.str z] H Q := ⟨p, ys, z, j, rfl, rfl, h.sq H, h1, h2, q⟩
theorem i_split {a b : Str} {ys : List Str} (e : Txt.split a b = ys) (h1 : (b.length == 0) = false) (h2 : a.length + 2 ≤ 100000) (q : NewO (.lst (ys.map V.str)) H Q) : rSplitA (.str a) [.str b] H Q := by
  subst e
  exact ⟨a, b, rfl, rfl, h1, sz h2, q⟩
theorem i_extT {a c l b : Addr} {B : Hp} {ls ls' : List (Addr × HO)} {xs ys : List V} (O : Own a c B H ls) (hb : H b = some (.tup ys)) (h : Up1 l (.lst xs) (.lst (xs ++ ys)) ls ls') (hz : xs.length + ys.length ≤ sizeLine) (k : ∀ H', Own a c B H' ls' → Q .non H') : rExtT (.ref l) [.ref b] H Q :=
  ⟨l, b, xs, ys, rfl, rfl, O.mem h.mem, hb, hz, k _ (O.set h)⟩
theorem i_extO {a c l b : Addr} {B : Hp} {ls ls' : List (Addr × HO)} {xs ys : List V} (O : Own a c B H ls) (hb : H b = some (.lst ys)) (h : Up1 l (.lst xs) (.lst (xs ++ ys)) ls ls') (hz : xs.length + ys.length ≤ sizeLine) (k : ∀ H', Own a c B H' ls' → Q .non H') : rExtA (.ref l) [.ref b] H Q := by
  simp only [rExtA, O.mem h.mem, hb]
  exact ⟨hz, k _ (O.set h)⟩
theorem i_tupLN {p : Addr} {xs : List V} (h : H p = some (.lst xs)) (k : NewO (.tup xs) H Q) : rTupA [.ref p] H Q := i_tupL h k
theorem i_tyK {p : Addr} {xs : List V} {R : Prop} (h : KT K p xs) (q : R) : tyV K "tuple" (.ref p) H ∧ R := ⟨h.ty H, q⟩
theorem i_tyS {z : Str} {R : Prop} (q : R) : tyV K "str" (.str z) H ∧ R := ⟨rfl, q⟩
end
theorem Own.skipP {a c : Addr} {B H : Hp} {x : Addr × HO} {l l0 l1 : List (Addr × HO)} (O : Own a c B H (x :: l)) (h : Pre l0 l l1) : Own a c B H (x :: l0) := by
  have e := h.eq
  subst e
  have O2 := O.perm (ls' := l1 ++ x :: l0) (by
    refine (List.Perm.cons x (List.Perm.refl _)).trans ?_
    exact (List.perm_middle).symm)
  exact O2.drop
theorem i_inO {K : PySem.W.Frag} {H : Hp} {Q : VK} {p : Addr} {x : V} {xs : List V} (h : H p = some (.tup xs)) (f : flatV x = true) (g : xs.all flatV = true) (q : Q (.bl (inV x xs)) H) : rIn K false x (.ref p) H Q := by
  refine ⟨p, _, rfl, .inr (SqT.of h), f, g, ?_⟩
  rw [if_neg (by simp)]
  exact q
inductive Pick (y : Addr × HO) : List (Addr × HO) → List (Addr × HO) → Prop
  | here {r : List (Addr × HO)} : Pick y (y :: r) r
  | there {x : Addr × HO} {r r' : List (Addr × HO)} (h : Pick y r r') : Pick y (x :: r) (x :: r')
theorem Pick.perm1 {y : Addr × HO} {l r : List (Addr × HO)} (h : Pick y l r) : l.Perm (y :: r) := by
  induction h with
  | here => exact .refl _
  | there _ ih => exact (ih.cons _).trans (.swap ..)
theorem Pick.perm {y : Addr × HO} {l r ys : List (Addr × HO)} (h : Pick y l r) (k : r.Perm ys) : l.Perm (y :: ys) := h.perm1.trans (k.cons _)
end Lb
set_option Elab.async false
set_option linter.all false
set_option maxRecDepth 100000
set_option maxHeartbeats 4000000
/-! Lx: own exceptions with a field, made by an __init__ that calls its base's; raised, caught, looked at. Knows no program. -/
namespace Lb
open PySem PySem.Spec PyProof.Rows L2
/-- the class object, as an own class over ValueError -/
def oexB (K : PySem.W.Frag) (C : Addr) : Bool := match K.lookup C with
  | some ⟨.type "type", _, .cls cd, sl⟩ => (match cd.mro, sl.toList with
    | .ref C' :: bm, [_, _, _, _, some (.builtin n), _] => C' == C && n == "ValueError.__new__" && !cd.hasDel && cd.hasDict && PySem.HandSPX.refsVE bm
    | _, _ => false)
  | _ => false
theorem oexB_ok {K : PySem.W.Frag} {C : Addr} (q : oexB K C = true) : ∃ nm q N bs bm sn sub ab col dd k0 k1 k2 k3 k5, K.lookup C = some (excClassObj nm q C N bs bm true sn sub ab col dd k0 k1 k2 k3 k5 "ValueError.__new__") ∧ PySem.HandSPX.refsVE bm = true := by
  unfold oexB at q
  split at q
  · rename_i dd cd sl ho
    split at q
    · rename_i C' bm k0 k1 k2 k3 n k5 hm hs
      simp only [Bool.and_eq_true, beq_iff_eq, Bool.not_eq_true'] at q
      obtain ⟨⟨⟨⟨rfl, rfl⟩, hdel⟩, hdi⟩, ht⟩ := q
      obtain ⟨nm, bs, mro, ns, qn, hd, sn, sub, ab, col, del⟩ := cd
      dsimp only at hm hdel hdi
      subst hm hdel hdi
      have hsl : sl = #[k0, k1, k2, k3, some (.builtin "ValueError.__new__"), k5] := by
        obtain ⟨l⟩ := sl
        simp only at hs
        rw [hs]
      subst hsl
      exact ⟨nm, qn, ns, bs, bm, sn, sub, ab, col, dd, k0, k1, k2, k3, k5, ho, ht⟩
    · cases q
  · cases q
/-- C an own exception class, its __init__ (at fI) storing f, B its base among the own classes -/
structure EC (K : PySem.W.Frag) (C B fI : Addr) (f : Str) : Prop where
  oex : OexC K C
  xf : XfC K C
  no : PySem.W.findIn K (.ref C) f = some none
  iC : PySem.W.findIn K (.ref C) "__init__" = some (some (.ref fI))
  tI : PySem.W.typeIn K (.ref fI) = some (.type "function")
  ha : PySem.W.findIn K (.ref C) "__class__" = some (some (.builtin "object.__class__"))
  hn : PySem.W.specialIn K (.builtin "object.__class__") "__get__" = some (some (.builtin "getset_descriptor.__get__"))
  ht : PySem.W.takesIn K (.builtin "object.__class__") = some true
  hm : PySem.W.mroIn K C (.type "object") = some true
  hc : (PySem.W.clsIn K C).isSome = true
  ki : PySem.W.kitOne K (.ref C) (.ref B) = some true
  em : PySem.W.exmOne K (.ref C) (.ref C) = some true
  rd : PySem.W.readsIn K B (.type "type") = true
  ga : PySem.W.specialIn K (.ref B) "__getattribute__" = some (some (.builtin "type.__getattribute__"))
  bi : PySem.W.findCls K (.ref B) (.type "type") "__init__" = some (.val (.builtin "ValueError.__init__"))
def ecB (K : PySem.W.Frag) (C B fI : Addr) (f : Str) : Bool :=
  oexB K C && (decide (PySem.W.findIn K (.ref C) "__setattr__" = some (some (.builtin "object.__setattr__"))) && (decide (PySem.W.subIn K (.ref C) (.type "BaseException") = some true) && (decide (PySem.W.typeIn K (.ref C) = some (.type "type")) && (PySem.W.keepIn K (.ref C) &&
  (xfB K C && (decide (PySem.W.findIn K (.ref C) f = some none) && (decide (PySem.W.findIn K (.ref C) "__init__" = some (some (.ref fI))) && (decide (PySem.W.typeIn K (.ref fI) = some (.type "function")) &&
  (decide (PySem.W.findIn K (.ref C) "__class__" = some (some (.builtin "object.__class__"))) && (decide (PySem.W.specialIn K (.builtin "object.__class__") "__get__" = some (some (.builtin "getset_descriptor.__get__"))) && (decide (PySem.W.takesIn K (.builtin "object.__class__") = some true) &&
  (decide (PySem.W.mroIn K C (.type "object") = some true) && ((PySem.W.clsIn K C).isSome && (decide (PySem.W.kitOne K (.ref C) (.ref B) = some true) && (decide (PySem.W.exmOne K (.ref C) (.ref C) = some true) &&
  (PySem.W.readsIn K B (.type "type") && (decide (PySem.W.specialIn K (.ref B) "__getattribute__" = some (some (.builtin "type.__getattribute__"))) && (match PySem.W.findCls K (.ref B) (.type "type") "__init__" with
    | some (.val (.builtin n)) => decide (n = "ValueError.__init__")
    | _ => false))))))))))))))))))
theorem ecB_ok {K : PySem.W.Frag} {C B fI : Addr} {f : Str} (h : ecB K C B fI f = true) : EC K C B fI f := by
  unfold ecB at h
  obtain ⟨a1, h⟩ := He.ba h
  obtain ⟨a2, h⟩ := He.ba h
  obtain ⟨a3, h⟩ := He.ba h
  obtain ⟨a4, h⟩ := He.ba h
  obtain ⟨a5, h⟩ := He.ba h
  obtain ⟨a6, h⟩ := He.ba h
  obtain ⟨a7, h⟩ := He.ba h
  obtain ⟨a8, h⟩ := He.ba h
  obtain ⟨a9, h⟩ := He.ba h
  obtain ⟨b1, h⟩ := He.ba h
  obtain ⟨b2, h⟩ := He.ba h
  obtain ⟨b3, h⟩ := He.ba h
  obtain ⟨b4, h⟩ := He.ba h
  obtain ⟨b5, h⟩ := He.ba h
  obtain ⟨b6, h⟩ := He.ba h
  obtain ⟨b7, h⟩ := He.ba h
  obtain ⟨b8, h⟩ := He.ba h
  obtain ⟨b9, h⟩ := He.ba h
  refine ⟨⟨oexB_ok a1, of_decide_eq_true a2, of_decide_eq_true a3, of_decide_eq_true a4, a5⟩, xfB_ok a6, of_decide_eq_true a7, of_decide_eq_true a8, of_decide_eq_true a9, of_decide_eq_true b1, of_decide_eq_true b2, of_decide_eq_true b3, of_decide_eq_true b4, b5, of_decide_eq_true b6, of_decide_eq_true b7, b8, of_decide_eq_true b9, ?_⟩
  split at h
  · rename_i n e
    rw [e, of_decide_eq_true h]
  · cases h
/-! ### the base's __init__, called by the base's name -/
section
variable {X : Cx} {o e : Expr} {es : List Expr} {to te : TE} {ta : TA} {f x : Str} {p p' p1 p2 pos : Pos} {C B fI : Addr}
theorem pe_exinit {pl : Sem Bool} (T : EC X.K C B fI f) (hg : Gl X x) (hm : X.mg x = some (.ref B)) (ha : PA X (e :: es) ta) (hdb : (x == ("__debug__" : Str)) = false := by decide)
    (hc : eval (.Call (.Attribute (.Name x p1) "__init__" p2) (e :: es) [] pos) X.env = (do
      let ov ← eval (.Name x p1) X.env
      standAt p2.atName
      let (f, first) ← holding [ov] (getMethod ov "__init__" pl)
      callWith pos f first (backTo pos (starEach (e :: es) X.env)) (backToKw pos (keywordEach [] X.env))) := by rfl)
    (he : starEach (e :: es) X.env = (false, eval e X.env) :: starEach es X.env := by rfl) (hpl : (backTo pos (starEach es X.env)).any (·.1) = false := by rfl) :
    PE X (.Call (.Attribute (.Name x p1) "__init__" p2) (e :: es) [] pos) (tVeI X.K ta) := by
  refine ⟨fun pins s σ H Q I h => ?_⟩
  refine PySem.W.methodCall_KW (ld_glob I hg hm ?_ hdb) hc
  refine PySem.W.method_cls I.kIn T.ga ?_
  refine PySem.W.cls_value I.kIn T.rd T.bi (by decide +kernel) ?_
  show wpAny _ _ (callWith pos (Value.builtin "ValueError.__init__") [] (backTo pos (starEach (e :: es) X.env)) []) _ _ _
  refine PyProof.Rows.callWith_method1 (thn (ha.run pos pins _ σ H _ (I.tok _) h) fun us s1 ⟨vs, H1, I1, r1, a, C, ws, ev, hl, T, ea, q⟩ => ?_) he hpl
  subst ev
  cases r1 with
  | @cons _ u0 _ ur ra rw' =>
    obtain rfl : u0 = Value.ref a := ra
    have hlen : ur.length ≤ sizeLine := by
      rw [← Paired.length rw', sizeLine_eq]
      omega
    exact oinit_ok T I1 ea hlen fun s' J => ⟨.non, H1, J, rfl, q⟩
end
/-! ### making and raising -/
/-- what such an __init__ leaves -/
def spExi (K : PySem.W.Frag) (C B fI : Addr) (f : Str) : Sp := fun vs H Q _ => ∃ (a : Addr) (v : V), vs = [.ref a, v] ∧ EC K C B fI f ∧ H a = some (exo a C none) ∧ ∀ dx, H dx = none → dx ≠ a → Q .non (upd (upd H dx (exd dx [(f, v)])) a (exo a C (some dx)))
theorem len_exi {K : PySem.W.Frag} {C B fI : Addr} {f : Str} {vs : List V} {H : Hp} {Q : VK} {E : XK} (h : spExi K C B fI f vs H Q E) : vs.length = 2 := by
  obtain ⟨a, v, rfl, _⟩ := h
  rfl
def t_exi (K : PySem.W.Frag) (f m : Str) : TS := tSeq (tDrop (tVeI K (tCons (tVar 0) (tCons (tC (.str m)) tNil)))) (tOst K f (tVar 0) (tVar 1))
theorem pure_exi {K : PySem.W.Frag} {C B fI : Addr} {f m n1 n2 : Str} {vs : List V} {H : Hp} {Q : VK} {E : XK} (h : spExi K C B fI f vs H Q E) : t_exi K f m { nx := fun _ H' => Q .non H', rt := Q } (L2.start [n1, n2] vs) H := by
  obtain ⟨a, v, rfl, T, ha, k⟩ := h
  show tSeq (tDrop (tVeI K (tCons (tVar 0) (tCons (tC (.str m)) tNil)))) (tOst K f (tVar 0) (tVar 1)) { nx := fun _ H' => Q .non H', rt := Q } [some (.ref a), some v] H
  refine i_seq (i_drop ?_)
  refine i_cons (i_var rfl (i_cons (i_c (i_nil ?_))))
  refine ⟨a, C, [.str m], rfl, (by simp), T.oex, ha, ?_⟩
  refine i_var (i := 1) rfl (i_var (i := 0) rfl ?_)
  exact ⟨a, C, rfl, T.oex, T.no, .inl ⟨ha, k⟩⟩
/-- a class of exceptions that may be made here -/
structure CalE (P : Program) (w : World) (K : PySem.W.Frag) (mg : Str → Option Value) (base : Heap) (x : Str) (C B fI : Addr) (f : Str) (k : Nat) (ps : List Str) : Prop where
  ex : ∃ fd : FuncData, EC K C B fI f ∧ mg x = some (.ref C) ∧ Binds K fd ps [] ∧ FnOk P w K mg base CX0 k fI fd ps (spExi K C B fI f)
/-- what the making of C(v) asks -/
def MkS (K : PySem.W.Frag) (C B fI : Addr) (f : Str) (v : V) (H1 : Hp) (Q : XK) : Prop := [v].length ≤ 1000 ∧ ∀ a, H1 a = none → spExi K C B fI f (.ref a :: ([v] ++ [])) (upd H1 a (exo a C none))
  (fun v' H2 => v' = .non ∧ ∃ (d : Addr) (fs : List (Str × V)), H2 a = some (exo a C (some d)) ∧ H2 d = some (exd d fs) ∧ H1 d = none ∧ Q (.ref C) (some d) (upd (del H2 a) d (.xd fs))) (fun _ _ _ => False)
def tMkX (K : PySem.W.Frag) (C B fI : Addr) (f : Str) (te : TE) : L2.St → Hp → XK → Prop := fun σ H Q => te σ H fun v H1 => MkS K C B fI f v H1 Q
def tRaiseX (K : PySem.W.Frag) (C B fI : Addr) (f : Str) (W : WX) (te : TE) : TS := fun _ σ H => te σ H fun v H1 => MkS K C B fI f v H1 fun cls d H' => W cls d σ H'
theorem i_mks {K : PySem.W.Frag} {C B fI : Addr} {f : Str} {v : V} {H1 : Hp} {Q : XK} (T : EC K C B fI f) (k : ∀ d, H1 d = none → Q (.ref C) (some d) (upd H1 d (.xd [(f, v)]))) : MkS K C B fI f v H1 Q := by
  refine ⟨by simp, fun a ha => ⟨a, v, rfl, T, upd_same, fun dx hdx hne => ⟨rfl, dx, [(f, v)], upd_same, ?_, ?_, ?_⟩⟩⟩
  · rw [upd_ne hne, upd_same]
  · rw [upd_ne hne] at hdx
    exact hdx
  · have hd1 : H1 dx = none := by
      rw [upd_ne hne] at hdx
      exact hdx
    have e : upd (del (upd (upd (upd H1 a (exo a C none)) dx (exd dx [(f, v)])) a (exo a C (some dx))) a) dx (.xd [(f, v)]) = upd H1 dx (.xd [(f, v)]) := by
      funext b
      by_cases h1 : b = dx
      · subst h1
        rw [upd_same, upd_same]
      · rw [upd_ne h1, upd_ne h1]
        by_cases h2 : b = a
        · subst h2
          rw [del_same, ha]
        · rw [del_ne h2, upd_ne h2, upd_ne h1, upd_ne h2]
    rw [e]
    exact k dx hd1
section
variable {X : Cx} {e : Expr} {te : TE} {f x : Str} {p pos pos2 : Pos} {C B fI : Addr} {k : Nat} {ps : List Str} {W : WX}
theorem pmk_x (c : CalE X.prog X.w X.K X.mg X.base x C B fI f k ps) (hr : Room (k + 1) X.A) (hg : Gl X x) (he : PE X e te) (hdb : (x == ("__debug__" : Str)) = false := by decide)
    (hst : starEach [e] X.env = (false, eval e X.env) :: starEach [] X.env := by rfl) (hpl : (backTo pos (starEach [] X.env)).any (·.1) = false := by rfl) :
    PMk X (.Call (.Name x p) [e] [] pos) (tMkX X.K C B fI f te) := by
  obtain ⟨fd, T, hm, hb, F⟩ := c.ex
  exact pmk_oex (X := X) (x := x) (e := e) (es := []) (p := p) (pos := pos) (dvs := []) (ds := []) T.oex T.iC T.tI F hr hb .nil pass0 hg hm (pa_cons he pa_nil hst) hdb hst hpl
theorem ps_raiseX (hc : X.calm = true) (tk : Takes X W) (c : CalE X.prog X.w X.K X.mg X.base x C B fI f k ps) (hr : Room (k + 1) X.A) (hg : Gl X x) (he : PE X e te) (hdb : (x == ("__debug__" : Str)) = false := by decide)
    (hst : starEach [e] X.env = (false, eval e X.env) :: starEach [] X.env := by rfl) (hpl : (backTo pos (starEach [] X.env)).any (·.1) = false := by rfl) :
    PS X (.Raise (some (.Call (.Name x p) [e] [] pos)) none pos2) (tRaiseX X.K C B fI f W te) := ps_raise hc tk (pmk_x c hr hg he hdb hst hpl)
end
/-! ### calls that may raise -/
structure CalX (P : Program) (w : World) (K : PySem.W.Frag) (mg : Str → Option Value) (base : Heap) (x : Str) (k : Nat) (ps : List Str) (sp : Sp) : Prop where
  ex : ∃ (f : Addr) (fd : FuncData), mg x = some (.ref f) ∧ PySem.W.keepIn K (.ref f) = true ∧ Binds K fd ps [] ∧ FnOk P w K mg base (L2.CX P w) k f fd ps sp
structure CalMX (P : Program) (w : World) (K : PySem.W.Frag) (mg : Str → Option Value) (base : Heap) (C : Addr) (m : Str) (k : Nat) (ps : List Str) (sp : Sp) : Prop where
  ex : ∃ (f : Addr) (fd : FuncData), Cls K C ∧ Meth K C m f ∧ Binds K fd ps [] ∧ FnOk P w K mg base (L2.CX P w) k f fd ps sp
def tMethS (C : Addr) (m : Str) (sp : Sp) (E : L2.St → XK) (to : TE) (t : TA) : TE := fun σ H Q => to σ H fun x H1 => ∃ a dx fs, x = .ref a ∧ H1 a = some (.ins C dx fs) ∧ fs.lookup m = none ∧ t σ H1 fun vs H2 => sp (x :: vs) H2 Q (E σ)
section
variable {X : Cx} {o e : Expr} {es : List Expr} {to te : TE} {t : TA} {m x : Str} {p apos pos : Pos} {C : Addr} {k : Nat} {ps : List Str} {sp : Sp} {W : WX}
theorem pe_calX (c : CalX X.prog X.w X.K X.mg X.base x k ps sp) (hr : Room k X.A) (hg : Gl X x) (tk : Takes X W) (ha : PA X (e :: es) t) (hdb : (x == ("__debug__" : Str)) = false := by decide)
    (he : starEach (e :: es) X.env = (false, eval e X.env) :: starEach es X.env := by rfl) (hpl : (backTo pos (starEach es X.env)).any (·.1) = false := by rfl) : PE X (.Call (.Name x p) (e :: es) [] pos) (tCallS sp (WE W) t) := by
  obtain ⟨f, fd, hm, hk, hb, F⟩ := c.ex
  exact pe_callS F hr hg hm hk hb (fun σ => passAt tk σ) ha hdb he hpl
theorem pe_calMX {pl : Sem Bool} (he : PE X o to) (c : CalMX X.prog X.w X.K X.mg X.base C m k ps sp) (hr : Room k X.A) (tk : Takes X W) (ha : PA X (e :: es) t)
    (hst : starEach (e :: es) X.env = (false, eval e X.env) :: starEach es X.env := by rfl) (hpl : (backTo pos (starEach es X.env)).any (·.1) = false := by rfl)
    (ht : eval (.Call (.Attribute o m apos) (e :: es) [] pos) X.env = (do
      let ov ← eval o X.env
      standAt apos.atName
      let (f, first) ← holding [ov] (getMethod ov m pl)
      callWith pos f first (backTo pos (starEach (e :: es) X.env)) (backToKw pos (keywordEach [] X.env))) := by rfl) : PE X (.Call (.Attribute o m apos) (e :: es) [] pos) (tMethS C m sp (WE W) to t) := by
  obtain ⟨f, fd, hc, hm, hb, F⟩ := c.ex
  refine ⟨fun pins s σ H Q I h => ?_⟩
  refine PySem.W.methodCall_KW (pl := pl) (thn (he.run pins s σ H _ I h) fun u s1 ⟨x, H1, I1, rx, a, dx, fs, ex, ea, l, q⟩ => ?_) ht
  subst ex
  obtain rfl : u = Value.ref a := rx
  refine getmeth_ok I1 ea hc hm l ?_
  refine PySem.W.callWith_K (first := [.ref a]) (h₀ := X.base) I.ok.mod.kin hm.kp (thn (ha.run pos pins s1 σ H1 _ I1 q) fun us s2 ⟨vs, H2, I2, r, q2⟩ => ⟨I2.kIn, ?_⟩) hst hpl
  exact run_fnS (us := .ref a :: us) (vs := .ref a :: vs) F hr hb (passAt tk σ) I2 (.cons rfl r) q2
end
/-! ### in the suite -/
section
variable {X : Cx} {a C B fI : Addr} {oe : Obj} {d : Option Addr} {pn : List (Addr × Obj)} {f : Str}
def rIsX (K : PySem.W.Frag) (a : Addr) (cls : Value) (d : Option Addr) (C B fI : Addr) (f : Str) : List V → Hp → VK → Prop := fun xs H Q => cls = .ref C ∧ xs = [.ref a, .ref B] ∧ EC K C B fI f ∧ (∃ (dd : Addr) (fs : List (Str × V)), d = some dd ∧ H dd = some (.xd fs)) ∧ Q (.bl true) H
theorem call_isX {cls : Value} (hz : Zc cls d oe) (hf : ∃ vs, oe.data = .fields vs) : CallR (X.suite a ((a, oe) :: pn)) (.builtin "isinstance") (rIsX X.K a cls d C B fI f) := by
  intro pins s σ H xs us Q I r h
  obtain ⟨ec, rfl, T, ⟨dd, fs, ed, ea⟩, q⟩ := h
  subst ec ed
  cases r with
  | cons rx rr =>
    cases rr with
    | cons rt rr =>
      cases rr
      cases rx
      cases rt
      obtain ⟨hget, _⟩ := I.pin (a, oe) (List.mem_append.mpr (.inl List.mem_cons_self))
      obtain ⟨vs, hv⟩ := hf
      have hx : ObjOk X.prog X.w H s.heap dd (.xd fs) := I.hok dd _ ea
      obtain ⟨mA, hns, hr⟩ := hx
      obtain ⟨od, ho, hl⟩ := lookIn_ns hns
      have J : PySem.W.InstAt s.heap a oe C (some od) := ⟨hget, hz.1, by unfold PySem.W.notCls; rw [hv] <;> rfl, by rw [hz.2]; exact ho⟩
      exact PySem.W.kia_one (PySem.W.kitx_exc T.hc T.xf.ga T.xf.gg T.xf.exC T.ha T.hn T.ht T.hm) I.kIn J T.ki (fun z => nomatch z) fun tk => ⟨.bl true, H, I.kept (t' := tk) fun _ _ z => z, rfl, q⟩
end
/-! ### try .. except C as n -/
def tTry (K : PySem.W.Frag) (c : Value) (i : Nat) (tb : WX → TS) (ts : Addr → Value → Option Addr → TS) : TS := fun D σ H => tb (wAs K c i ts (fun _ _ _ _ => False) D) D σ H
section
variable {P : Program} {w : World} {K : PySem.W.Frag} {mg : Str → Option Value} {base : Heap} {x m f : Str} {C B fI fa : Addr} {fd : FuncData} {k : Nat} {ps : List Str} {sp : Sp}
theorem CalE.ec (c : CalE P w K mg base x C B fI f k ps) : EC K C B fI f := c.ex.choose_spec.1
theorem CalE.gm (c : CalE P w K mg base x C B fI f k ps) : mg x = some (.ref C) := c.ex.choose_spec.2.1
theorem mkCalE (T : EC K C B fI f) (g : mg x = some (.ref C)) (hb : Binds K fd ps []) (O : FnOk P w K mg base CX0 k fI fd ps (spExi K C B fI f)) : CalE P w K mg base x C B fI f k ps := ⟨⟨_, T, g, hb, O⟩⟩
theorem mkCalX {name qual : Str} {params : Arguments} {body : List Stmt} {scope : Scope} (F : FunD K name qual params body scope [] [] fa fd) (g : mg x = some (.ref fa)) (hb : Binds K fd ps []) (O : FnOk P w K mg base (L2.CX P w) k fa fd ps sp) : CalX P w K mg base x k ps sp := ⟨⟨_, _, g, F.kp, hb, O⟩⟩
theorem mkCalMX (hc : Cls K C) (hm : Meth K C m fa) (hb : Binds K fd ps []) (O : FnOk P w K mg base (L2.CX P w) k fa fd ps sp) : CalMX P w K mg base C m k ps sp := ⟨⟨_, _, hc, hm, hb, O⟩⟩
end
section
variable {K : PySem.W.Frag} {H : Hp} {Q : VK} {σ : L2.St} {D : Ends} {C B fI a dd : Addr} {f : Str}
theorem i_try {c : Value} {i : Nat} {tb : WX → TS} {ts : Addr → Value → Option Addr → TS} (q : tb (wAs K c i ts (fun _ _ _ _ => False) D) D σ H) : tTry K c i tb ts D σ H := q
theorem i_was {i : Nat} {ts : Addr → Value → Option Addr → TS} {Wo : WX} {d : Option Addr} (T : EC K C B fI f)
    (k : ∀ a, H a = none → ts a (.ref C) d { nx := fun σ' H' => D.nx (σ'.set i none) H', rt := D.rt, bk := fun σ' H' => D.bk (σ'.set i none) H', ct := fun σ' H' => D.ct (σ'.set i none) H' } (σ.set i (some (.ref a))) H) :
    WE (wAs K (.ref C) i ts Wo D) σ (.ref C) d H := ⟨true, T.em, fun _ => k, fun h => by cases h⟩
theorem i_raiseX {W : WX} {te : TE} (q : te σ H fun v H1 => MkS K C B fI f v H1 fun cls d H' => W cls d σ H') : tRaiseX K C B fI f W te D σ H := q
theorem i_callS {sp : Sp} {E : L2.St → XK} {t : TA} (q : t σ H fun vs H1 => sp vs H1 Q (E σ)) : tCallS sp E t σ H Q := q
theorem i_methS {m : Str} {sp : Sp} {E : L2.St → XK} {to : TE} {t : TA} (q : to σ H fun x H1 => ∃ a dx fs, x = .ref a ∧ H1 a = some (.ins C dx fs) ∧ fs.lookup m = none ∧ t σ H1 fun vs H2 => sp (x :: vs) H2 Q (E σ)) : tMethS C m sp E to t σ H Q := q
theorem i_txf {cls : Value} {d : Option Addr} {te : TE} (q : te σ H fun x H1 => x = .ref a ∧ cls = .ref C ∧ ∃ (dd : Addr) (fs : List (Str × V)) (v : V), d = some dd ∧ H1 dd = some (.xd fs) ∧ fs.lookup f = some v ∧ Q v H1) : tXf a cls d C f te σ H Q := q
theorem i_xf {fs : List (Str × V)} {v : V} (h : H dd = some (.xd fs)) (l : LkF f (some v) fs) (q : Q v H) : (V.ref a = .ref a ∧ Value.ref C = .ref C ∧ ∃ (dd' : Addr) (fs : List (Str × V)) (v : V), some dd = some dd' ∧ H dd' = some (.xd fs) ∧ fs.lookup f = some v ∧ Q v H) := ⟨rfl, rfl, dd, fs, v, rfl, h, l.eq, q⟩
theorem i_isX {fs : List (Str × V)} (T : EC K C B fI f) (h : H dd = some (.xd fs)) (q : Q (.bl true) H) : rIsX K a (.ref C) (some dd) C B fI f [.ref a, .ref B] H Q := ⟨rfl, rfl, T, ⟨dd, fs, rfl, h⟩, q⟩
end
/-! ### the Hook, its part of the heap with the statics -/
def obsY (n : Nat) (fa : List He.Fa) (fn : List He.DefD) (ex : PySem.W.Frag → Bool) (g : Addr → Option Obj) : He.AlD × Bool := (He.obsD fa fn (He.frG g (cStatics :: He.asD g n)), ex (He.frG g (cStatics :: He.asD g n)))
def hookY (n : Nat) (fa : List He.Fa) (fn : List He.DefD) (ex : PySem.W.Frag → Bool) : PySem.W.Hook where
  α := He.AlD × Bool
  obs := fun s => obsY n fa fn ex s.heap.get?
  val := fun _ => (He.valD fn, true)
  says := fun _ h => ∃ K : PySem.W.Frag, K.In h ∧ He.SaysD fa fn K ∧ ex K = true
  of := fun _ _ e => ⟨_, He.frG_in, congrArg (fun z : He.AlD × Bool => z.1) e, congrArg (fun z : He.AlD × Bool => z.2) e⟩
  keeps := fun _ _ _ ⟨K, hK, c⟩ k => ⟨K, PySem.W.Frag.In.keeps hK k, c⟩
theorem obsY_eq {n : Nat} {fa : List He.Fa} {fn : List He.DefD} {ex : PySem.W.Frag → Bool} {g : Addr → Option Obj} {s : Shared} (h : ∀ a, g a = s.heap.get? a) : obsY n fa fn ex g = (hookY n fa fn ex).obs s := by
  have e : g = s.heap.get? := funext h
  rw [e] <;> rfl
end Lb
set_option Elab.async false
set_option linter.all false
set_option maxRecDepth 100000
set_option maxHeartbeats 4000000
/-! Ly: data lists, ranges with a step, slices, all. Knows no program. -/
namespace Lb
open PySem PySem.Spec PyProof.Rows L2
section
variable {H : Hp}
theorem dtSnoc {vs : List V} {v : V} {ds : List PyData} {d : PyData} (h : DtAll H vs ds) (k : Dt H v d) : DtAll H (vs ++ [v]) (ds ++ [d]) := by
  induction vs generalizing ds with
  | nil =>
    cases h
    exact .cons k .nil
  | cons v vs ih =>
    cases h with
    | cons h1 h2 => exact .cons h1 (ih h2)
theorem dtLen {vs : List V} {ds : List PyData} (h : DtAll H vs ds) : vs.length = ds.length := by
  induction vs generalizing ds with
  | nil =>
    cases h
    rfl
  | cons v vs ih =>
    cases h with
    | cons h1 h2 => exact congrArg (· + 1) (ih h2)
theorem dtGet {vs : List V} {ds : List PyData} (h : DtAll H vs ds) {i : Nat} {v : V} (e : vs[i]? = some v) : ∃ d, ds[i]? = some d ∧ Dt H v d := by
  induction vs generalizing ds i with
  | nil => cases e
  | cons w vs ih =>
    cases h with
    | cons h1 h2 =>
      cases i with
      | zero =>
        cases e
        exact ⟨_, rfl, h1⟩
      | succ i => exact ih h2 e
theorem dtAt {vs : List V} {ds : List PyData} (h : DtAll H vs ds) {i : Nat} {d : PyData} (e : ds[i]? = some d) : ∃ v, vs[i]? = some v ∧ Dt H v d := by
  have hl := dtLen h
  have hi : i < vs.length := by rw [hl]; exact (List.getElem?_eq_some_iff.mp e).1
  obtain ⟨d', e', k⟩ := dtGet h (List.getElem?_eq_getElem hi)
  rw [e] at e'
  cases e'
  exact ⟨_, List.getElem?_eq_getElem hi, k⟩
theorem dtInts {vs : List V} {ws : List Int} (h : DtAll H vs (ws.map PyData.int)) : vs = ws.map V.int := by
  induction vs generalizing ws with
  | nil =>
    cases ws with
    | nil => rfl
    | cons w ws => cases h
  | cons v vs ih =>
    cases ws with
    | nil => cases h
    | cons w ws =>
      cases h with
      | cons h1 h2 =>
        cases h1
        rw [ih h2]
        rfl
theorem dtErase {vs : List V} {ds : List PyData} (h : DtAll H vs ds) (i : Nat) : DtAll H (vs.eraseIdx i) (ds.eraseIdx i) := by
  induction vs generalizing ds i with
  | nil =>
    cases h
    exact .nil
  | cons v vs ih =>
    cases h with
    | cons h1 h2 =>
      cases i with
      | zero => exact h2
      | succ i => exact .cons h1 (ih h2 i)
theorem mapGet {α β : Type} {f : α → β} {rs : List α} {i : Nat} {d : β} (h : (rs.map f)[i]? = some d) : ∃ r, rs[i]? = some r ∧ f r = d := by
  rw [List.getElem?_map] at h
  cases e : rs[i]? with
  | none =>
    rw [e] at h
    cases h
  | some r =>
    rw [e] at h
    exact ⟨r, rfl, Option.some.inj h⟩
end
section
variable {H : Hp} {Q : VK} {σ : L2.St}
theorem i_slO {a c p : Addr} {B : Hp} {ls : List (Addr × HO)} {xs ys : List V} {lo hi : Option Int} (O : Own a c B H ls) (h : H p = some (.lst xs)) (e : cutV xs lo hi = ys) (k : ∀ p H', Own a c B H' ((p, .lst ys) :: ls) → Q (.ref p) H') : rSlA (.ref p) lo hi H Q := by
  subst e
  exact i_slL h fun q hq => k q _ (O.new hq)
theorem cut_to {xs : List V} {k : Nat} (h : k ≤ xs.length) : cutV xs none (some (k : Int)) = xs.take k := by
  unfold cutV
  rw [HT.sIx_none, HT.sIx_nat, Nat.min_eq_left h]
  simp
theorem cut_from {xs : List V} {k : Nat} (h : k ≤ xs.length) : cutV xs (some (k : Int)) none = xs.drop k := by
  unfold cutV
  rw [HT.sIx_none, HT.sIx_nat, Nat.min_eq_left h]
  rw [List.take_of_length_le (by rw [List.length_drop]; omega)]
theorem cut_mid {xs : List V} {k n : Nat} (h : k ≤ xs.length) : cutV xs (some (k : Int)) (some ((k + n : Nat) : Int)) = (xs.drop k).take n := by
  unfold cutV
  rw [HT.sIx_nat, HT.sIx_nat, Nat.min_eq_left h]
  rcases Nat.le_total (k + n) xs.length with q | q
  · rw [Nat.min_eq_left q, Nat.add_sub_cancel_left]
  · rw [Nat.min_eq_right q, List.take_of_length_le (by rw [List.length_drop]; omega), List.take_of_length_le (by rw [List.length_drop]; omega)]
theorem i_rng3 {ta : TA} {R : It → Hp → Prop} (q : ta σ H fun vs H1 => ∃ (i j c : Int) (n : Nat), vs = [.int i, .int j, .int c] ∧ RgC i j c n ∧ R (Itc i c n) H1) : iRng3 ta σ H R := q
theorem i_forC {lo hi c : Int} {nx : L2.St → Hp → Prop} {rt : VK} {g : TG} {tb : TS} (n : Nat) (hr : RgC lo hi c n) (Pv : Nat → L2.St → Hp → Prop) (h0 : Pv 0 σ H)
    (hs : ∀ i σ H, i < n → Pv i σ H → g (.int (lo + (i : Nat) * c)) σ H fun σ2 H2 => tb ⟨Pv (i + 1), rt, nx, Pv (i + 1)⟩ σ2 H2) (hd : ∀ σ H, Pv n σ H → nx σ H) :
    ∃ (i j c' : Int) (n : Nat), [V.int lo, V.int hi, V.int c] = [.int i, .int j, .int c'] ∧ RgC i j c' n ∧ ∃ W : Nat → Nat → L2.St → Hp → Prop, (∃ m, W 0 m σ H) ∧ ∀ i' m σ H, W i' m σ H → ((Itc i c' n).stop i' H ∧ nx σ H) ∨ ((Itc i c' n).go i' H ∧ ∃ N : L2.St → Hp → Prop, (∀ σ' H', N σ' H' → ∃ m', m' < m ∧ W (i' + 1) m' σ' H') ∧ ∀ x H', (Itc i c' n).yld i' H x H' → g x σ H' fun σ2 H2 => tb ⟨N, rt, nx, N⟩ σ2 H2) :=
  ⟨lo, hi, c, n, rfl, hr, for_rangeC (D := ⟨nx, rt, fun _ _ => False, fun _ _ => False⟩) Pv h0 hs hd⟩
theorem i_all {K : PySem.W.Frag} {p : Addr} {bs : List Bool} (h : H p = some (.lst (bs.map V.bl))) (q : Q (.bl (bs.all id)) H) : rAll K [.ref p] H Q := ⟨p, bs, rfl, SqL.of h, q⟩
theorem i_niL {K : PySem.W.Frag} {p : Addr} {x : V} {xs : List V} (h : H p = some (.lst xs)) (f : flatV x = true) (g : xs.all flatV = true) (q : Q (.bl (!inV x xs)) H) : rIn K true x (.ref p) H Q := ⟨p, xs, rfl, .inl (SqL.of h), f, g, q⟩
end
end Lb
set_option Elab.async false
set_option linter.all false
set_option maxRecDepth 100000
set_option maxHeartbeats 4000000
/-! Lz: dicts with pairs of ints as keys, sorted. Knows no program. -/
namespace Lb
open PySem PySem.Spec PyProof.Rows L2
/-- the pair that a value names -/
def pairAt (H : Hp) (v : V) : Int × Int := match v with
  | .ref t => (match H t with
    | some (.tup [.int i, .int j]) => (i, j)
    | _ => (0, 0))
  | _ => (0, 0)
def PairV (H : Hp) (v : V) (j : Int × Int) : Prop := ∃ t, v = .ref t ∧ H t = some (.tup [.int j.1, .int j.2])
def rSortDT : List V → Hp → VK → Prop := fun vs H Q => ∃ (a : Addr) (kvs : List (List Key × V)) (ps : List (Int × Int)), vs = [.ref a] ∧ H a = some (.dT kvs) ∧ kvs.map (·.1) = ps.map (fun p => [Sum.inl p.1, Sum.inl p.2]) ∧
  ∀ (ys : List V) (p : Addr) (js : List (Int × Int)), js.Perm ps → js.Pairwise (fun x y => SrtO.lexB y x = false) → Paired (PairV H) ys js → H p = none → Q (.ref p) (upd H p (.lst ys))
theorem paired_map {α β γ : Type} {R : β → γ → Prop} (f : α → β) (g : α → γ) : ∀ (l : List α), (∀ x ∈ l, R (f x) (g x)) → Paired R (l.map f) (l.map g)
  | [], _ => .nil
  | x :: r, h => .cons (h x List.mem_cons_self) (paired_map f g r fun y hy => h y (List.mem_cons_of_mem _ hy))
section
variable {X : Cx}
theorem cr_sortedDT (hc : X.calm = true) : CallR X (.builtin "sorted") rSortDT := by
  intro pins s σ H vs us Q I r h
  obtain ⟨d, kvs, ps, rfl, hd, hps, q⟩ := h
  obtain ⟨u, rfl, rx⟩ := vals1 r
  cases rx
  obtain ⟨z, hs, ks, pr, o, es, ep, ho, hx, hdt, he, hn⟩ := (show ObjOk X.prog X.w H s.heap d (.dT kvs) from I.hok _ _ hd)
  have l1 : es.size = ks.length := size_of_entries he
  have l2 : kvs.length = ks.length := Paired.length pr
  refine Calls.call_function_entry PyProof.Rows.kind_sorted PyProof.Rows.plain_sorted PyProof.Rows.entry_sorted (PyProof.Rows.args_sorted1 _) ?_
  unfold Builtin.«sorted»
  refine wpAny_bind (m := checkCount "sorted" 1 1 _) (wpAny_pure ?_)
  refine wpAny_bind (PySem.W.kdu_collect (A := X.A.in1) (kdl_raw hs hx hdt) (I.ok.hd hc) ho (by omega) fun h' tk acc hk it => ?_)
  have ea : acc.toList = ks.map fun x => Value.ref x.2.1 := by
    have hl : acc.toList.length = ks.length := by rw [Array.length_toList, it.1]; exact l1
    apply List.ext_getElem?
    intro j
    rw [List.getElem?_map]
    cases hj : acc.toList[j]? with
    | none =>
      have h1 := List.getElem?_eq_none_iff.mp hj
      rw [List.getElem?_eq_none (by omega)]
      all_goals rfl
    | some v =>
      obtain ⟨en, hen, hv⟩ := it.2 j v (by rw [← Array.getElem?_toList]; exact hj)
      have qe := entry_at he j
      rw [hen] at qe
      cases hb : ks[j]? with
      | none =>
        rw [hb] at qe
        exact nomatch (show some en = none from qe)
      | some b =>
        rw [hb] at qe
        have e2 : en = entryOfKey (tupleKind (mixKind X.prog X.w)) b := Option.some.inj qe
        rw [hv, e2]
        all_goals rfl
  have I1 : Inv X pins σ H { s with heap := h', toks := tk } := I.kept hk
  have hz : acc.toList.length ≤ sizeLine := by rw [ea, List.length_map]; omega
  refine wpAny_bind (wpAny_newList ?_ hz)
  have hoL : (h'.push (seqObj "list" acc.toList.toArray 0)).get? h'.objs.size = some (seqObj "list" acc.toList.toArray 0) := Heap.get?_push_size _ rfl
  show wpAny _ _ _ _ _ { s with heap := h'.push (seqObj "list" acc.toList.toArray 0), toks := tk }
  -- each key is a pair
  have hpair : ∀ v ∈ acc.toList, ∃ t, v = Value.ref t ∧ ∃ i j : Int, H t = some (.tup [.int i, .int j]) := fun v hv => by
    rw [ea] at hv
    obtain ⟨x, hxm, rfl⟩ := List.mem_map.mp hv
    have key : ∀ {kvs : List (List Key × V)} {ks : List (List Key × Addr × Value)} {ps : List (Int × Int)}, L2.KT H kvs ks → kvs.map (·.1) = ps.map (fun p => [Sum.inl p.1, Sum.inl p.2]) → ∀ x ∈ ks, ∃ i j : Int, H x.2.1 = some (.tup [.int i, .int j]) := by
      intro kvs ks ps pr
      induction pr generalizing ps with
      | nil => intro _ x hx; cases hx
      | @cons p q pp qq h t ih =>
        intro hps x hx
        cases ps with
        | nil => cases hps
        | cons p0 ps0 =>
          have h1 : p.1 = [Sum.inl p0.1, Sum.inl p0.2] := (List.cons.inj hps).1
          have h2 := (List.cons.inj hps).2
          rcases List.mem_cons.mp hx with e | e
          · subst e
            refine ⟨p0.1, p0.2, ?_⟩
            rw [h.2.1, h1]
            rfl
          · exact ih h2 x e
    exact ⟨_, rfl, key pr hps x hxm⟩
  have kmap : acc.toList.map (fun v => pairAt H (backV v)) = ps := by
    rw [ea, List.map_map]
    have key : ∀ {kvs : List (List Key × V)} {ks : List (List Key × Addr × Value)} {ps : List (Int × Int)}, L2.KT H kvs ks → kvs.map (·.1) = ps.map (fun p => [Sum.inl p.1, Sum.inl p.2]) → ks.map ((fun v => pairAt H (backV v)) ∘ fun x => Value.ref x.2.1) = ps := by
      intro kvs ks ps pr
      induction pr generalizing ps with
      | nil =>
        intro hps
        cases ps with
        | nil => rfl
        | cons _ _ => cases hps
      | @cons p q pp qq h t ih =>
        intro hps
        cases ps with
        | nil => cases hps
        | cons p0 ps0 =>
          have h1 : p.1 = [Sum.inl p0.1, Sum.inl p0.2] := (List.cons.inj hps).1
          have h2 := (List.cons.inj hps).2
          rw [List.map_cons, ih h2]
          have e : H q.2.1 = some (.tup [.int p0.1, .int p0.2]) := by
            rw [h.2.1, h1]
            rfl
          show pairAt H (.ref q.2.1) :: ps0 = p0 :: ps0
          unfold pairAt
          simp only [e]
    exact key pr hps
  let k : Value → Int × Int := fun v => pairAt H (backV v)
  have hk2 : ∀ t (i j : Int), H t = some (.tup [.int i, .int j]) → k (.ref t) = (i, j) := fun t i j e => by
    show pairAt H (.ref t) = (i, j)
    unfold pairAt
    simp only [e]
  have isp : ∀ v ∈ acc.toList, Srt.IsPair (h'.push (seqObj "list" acc.toList.toArray 0)) v (k v).1 (k v).2 := fun v hv => by
    obtain ⟨t, rfl, i, j, e⟩ := hpair v hv
    rw [hk2 t i j e]
    obtain ⟨_, its2, r2, o2, ho2, hc2, n2, hd2⟩ := I1.hok _ _ e
    obtain ⟨u1, u2, rfl, ri, rj⟩ := vals2 r2
    obtain ⟨t1, rfl⟩ := ri
    obtain ⟨t2, rfl⟩ := rj
    exact ⟨t, o2, t1, t2, n2, rfl, Heap.get?_push_of_some _ ho2, hc2, hd2⟩
  refine wpAny_bind (wpAny_holding (wpAny_call_entry PyProof.Rows.slot_list_sort ⟨_, hoL, rfl⟩ PyProof.Rows.entry_list_sort
    (SrtO.list_sort_ord (ltv := fun v u => SrtO.lexB (k v) (k u)) (s := { s with heap := h'.push (seqObj "list" acc.toList.toArray 0), toks := tk }) (SrtO.swo_lex k) hoL hz (fun h2 => ?_) fun out g1 g2 => ⟨_, rfl, ?_⟩) (PyProof.Rows.args_list_sort _)))
  · refine SrtO.pairs_sortableO (k := k) (by omega) isp fun o e => ?_
    have e' : some o = some (seqObj "list" acc.toList.toArray 0) := e.symm.trans hoL
    cases e'
    intro c
    exact absurd (Value.type.inj c) (by decide)
  obtain ⟨e', he'⟩ := PyProof.Rows.sortedHeap_at (vs := acc.toList) (out := out.toArray) hoL
  have hm : ∀ u ∈ out, ∃ a, u = Value.ref a ∧ ∃ i j : Int, H a = some (.tup [.int i, .int j]) := fun u hu => hpair u (g2.perm.mem_iff.mp hu)
  have hlen : (out.map backV).length ≤ sizeLine := by
    rw [List.length_map, g2.perm.length_eq]
    exact hz
  refine wpAny_pure ⟨_, rfl, .ref h'.objs.size, upd H h'.objs.size (.lst (out.map backV)), I1.laid (t' := tk) (fun b u e => ?_) (Nat.le_refl _) ⟨hlen, out, e', vals_back (fun u hu => (hm u hu).imp fun _ z => z.1), he'⟩, rfl, ?_⟩
  · have hb : b < h'.objs.size := Heap.lt_size e
    rw [PyProof.Rows.sortedHeap_old (Nat.ne_of_lt hb) (by rw [size_push']; exact Nat.lt_succ_of_lt hb)]
    exact Heap.get?_push_of_some _ e
  · refine q (out.map backV) h'.objs.size (out.map k) ?_ ?_ ?_ (I1.hok.fresh (Nat.le_refl _))
    · rw [← kmap]
      exact g2.perm.map _
    · exact List.pairwise_map.mpr g1
    · refine paired_map backV k out fun u hu => ?_
      obtain ⟨a, rfl, i, j, e⟩ := hm u hu
      refine ⟨a, rfl, ?_⟩
      rw [hk2 a i j e]
      exact e
end
/-! ### steps -/
section
variable {H : Hp} {Q : VK} {σ : L2.St}
theorem i_dnin {ty td : TE} (q : ty σ H fun y H1 => td σ H1 fun x H2 => ∃ a o, x = .ref a ∧ DGet H2 a y o ∧ Q (.bl (!o.isSome)) H2) : tDNotIn ty td σ H Q := q
theorem i_dget2 {td ty tx : TE} (q : td σ H fun x H1 => ∃ a, x = .ref a ∧ IsD H1 a ∧ ty σ H1 fun y H2 => tx σ H2 fun z H3 => ∃ o, DGet H3 a y o ∧ Q (o.getD z) H3) : tDGet2 td ty tx σ H Q := q
theorem i_dnewT (q : NewO (.dT []) H Q) : tDNewT σ H Q := q
def pk (p : Int × Int) : List Key := [.inl p.1, .inl p.2]
theorem i_dgetT {D b : Addr} {kvs : List (List Key × V)} {i j : Int} {v : V} {R : V → Prop} (h : H D = some (.dT kvs)) (hb : H b = some (.tup [.int i, .int j])) (hv : valV kvs (pk (i, j)) = some v) (q : R v) : (∃ a' v', V.ref D = .ref a' ∧ DGet H a' (.ref b) (some v') ∧ R v') :=
  ⟨D, v, rfl, .inr ⟨kvs, pk (i, j), b, .inl h, rfl, hb, hv.symm⟩, q⟩
theorem i_dnotT {D b : Addr} {kvs : List (List Key × V)} {i j : Int} {o : Option V} {R : V → Prop} (h : H D = some (.dT kvs)) (hb : H b = some (.tup [.int i, .int j])) (hv : valV kvs (pk (i, j)) = o) (q : R (.bl (!o.isSome))) : (∃ a' o', V.ref D = .ref a' ∧ DGet H a' (.ref b) o' ∧ R (.bl (!o'.isSome))) :=
  ⟨D, o, rfl, .inr ⟨kvs, pk (i, j), b, .inl h, rfl, hb, hv.symm⟩, q⟩
theorem i_dget2T {D b : Addr} {kvs : List (List Key × V)} {i j : Int} {z : V} {o : Option V} {R : V → Prop} (h : H D = some (.dT kvs)) (hb : H b = some (.tup [.int i, .int j])) (hv : valV kvs (pk (i, j)) = o) (q : R (o.getD z)) : (∃ o', DGet H D (.ref b) o' ∧ R (o'.getD z)) :=
  ⟨o, .inr ⟨kvs, pk (i, j), b, .inl h, rfl, hb, hv.symm⟩, q⟩
theorem i_dputT {a c D b : Addr} {B : Hp} {ls ls' : List (Addr × HO)} {kvs : List (List Key × V)} {i j : Int} {v : V} {R : Hp → Prop} (O : Own a c B H ls) (h : Up1 D (.dT kvs) (.dT (putK kvs (pk (i, j)) v)) ls ls') (hb : H b = some (.tup [.int i, .int j])) (hz : kvs.length < sizeLine)
    (k : ∀ H', Own a c B H' ls' → R H') : (∃ a' H4, V.ref D = .ref a' ∧ DPut H a' (.ref b) v H4 ∧ R H4) :=
  ⟨D, _, rfl, .inr ⟨kvs, pk (i, j), b, O.mem h.mem, rfl, hb, hz, rfl⟩, k _ (O.set h)⟩
theorem i_sortDT {a c D : Addr} {B : Hp} {ls : List (Addr × HO)} {kvs : List (List Key × V)} {ps : List (Int × Int)} (O : Own a c B H ls) (h : H D = some (.dT kvs)) (hk : kvs.map (·.1) = ps.map pk)
    (k : ∀ ys p js H', js.Perm ps → js.Pairwise (fun x y => SrtO.lexB y x = false) → Paired (PairV H') ys js → Own a c B H' ((p, .lst ys) :: ls) → Q (.ref p) H') : rSortDT [.ref D] H Q :=
  ⟨D, kvs, ps, rfl, h, hk, fun ys p js h1 h2 h3 hp => k ys p js _ h1 h2 (Paired.mono (fun y j ⟨t, e, ht⟩ => ⟨t, e, by rw [upd_ne (ne_of_none ht hp)]; exact ht⟩) h3) (O.new hp)⟩
/-- what stands and never changes may stay -/
theorem Own.adopt {a c t : Addr} {B : Hp} {ls : List (Addr × HO)} {xs : List V} (O : Own a c B H ls) (ht : H t = some (.tup xs)) (hn : ∀ x ∈ ls, ∀ xs, x.2 ≠ .tup xs) : ∃ B', Same B B' ∧ B' t = some (.tup xs) ∧ Own a c B' H ls := by
  obtain ⟨ne, ns, m, ha, hc, _, _⟩ := O.R
  have ta : t ≠ a := fun e => by
    rw [e, ha] at ht
    cases ht
  have tc : t ≠ c := fun e => by
    rw [e, hc] at ht
    cases ht
  have tl : ∀ x ∈ ls, x.1 ≠ t := fun x hx e => by
    have z := O.here x hx
    rw [e, ht] at z
    exact hn x hx xs (Option.some.inj z).symm
  refine ⟨upd B t (.tup xs), fun b o e => ?_, upd_same, ⟨O.R, fun b o e => ?_, O.nd, fun x hx => ⟨?_, (O.out x hx).2⟩, O.here, ?_, ?_⟩⟩
  · by_cases h : b = t
    · rw [h, upd_same]
      rw [h] at e
      have z := O.keep _ _ e
      rw [ht] at z
      exact z
    · rw [upd_ne h]
      exact e
  · by_cases h : b = t
    · rw [h, upd_same] at e
      rw [h, ht]
      exact e
    · rw [upd_ne h] at e
      exact O.keep _ _ e
  · rw [upd_ne (tl x hx)]
    exact (O.out x hx).1
  · rw [upd_ne (Ne.symm ta)]
    exact O.ha
  · rw [upd_ne (Ne.symm tc)]
    exact O.hc
theorem PairV.mono {H H' : Hp} {y : V} {j : Int × Int} (s : Same H H') (h : PairV H y j) : PairV H' y j := h.imp fun _ z => ⟨z.1, s _ _ z.2⟩
theorem Own.adoptAll {a c : Addr} {ls : List (Addr × HO)} (hn : ∀ x ∈ ls, ∀ xs, x.2 ≠ .tup xs) : ∀ {ys : List V} {js : List (Int × Int)} {B : Hp}, Paired (PairV H) ys js → Own a c B H ls → ∃ B', Same B B' ∧ Paired (PairV B') ys js ∧ Own a c B' H ls
  | _, _, B, .nil, O => ⟨B, Same.refl _, .nil, O⟩
  | _, _, B, .cons h t, O => by
    obtain ⟨p, e, hp⟩ := h
    obtain ⟨B1, s1, h1, O1⟩ := O.adopt hp hn
    obtain ⟨B2, s2, h2, O2⟩ := Own.adoptAll hn t O1
    exact ⟨B2, Same.trans s1 s2, .cons ⟨p, e, s2 _ _ h1⟩ h2, O2⟩
theorem Paired.at {α β : Type} {R : α → β → Prop} : ∀ {xs : List α} {ys : List β}, Paired R xs ys → ∀ {i : Nat} {x : α}, xs[i]? = some x → ∃ y, ys[i]? = some y ∧ R x y
  | _, _, .nil, i, x, e => by cases e
  | _, _, .cons h t, 0, x, e => by
    cases e
    exact ⟨_, rfl, h⟩
  | _, _, .cons h t, i + 1, x, e => Paired.at t e
end
theorem i_lcKT {d : Addr} {H : Hp} {o : Obj} {kv : List (List Key × V)} {v : Nat} {tt : TT} {te : TE} {σ : L2.St} {Qd : Hp → Prop} {E : Addr} (Pv : Nat → Hp → Prop) (h0 : Pv 0 (upd H E (.lst []))) (hG : ∀ i H, Pv i H → H d = some (.frz o (.dT kv)))
    (hs : ∀ i (p : List Key) (x : V) (q : Addr) H, kv[i]? = some (p, x) → H q = some (.tup (p.map kV)) → Pv i H → tt (σ.set v (some (.ref q))) H fun b H3 => if b = true then te (σ.set v (some (.ref q))) H3 fun y H4 => ∃ acc, H4 E = some (.lst acc) ∧ acc.length < sizeLine ∧ Pv (i + 1) (upd H4 E (.lst (acc ++ [y]))) else Pv (i + 1) H3)
    (hd : ∀ H, Pv kv.length H → Qd H) :
    ∃ W : Nat → Nat → Hp → Prop, (∃ m, W 0 m (upd H E (.lst []))) ∧ ∀ i m H, W i m H → ((Itkt d o kv).stop i H ∧ Qd H) ∨ ((Itkt d o kv).go i H ∧ ∃ Nx : Hp → Prop, (∀ H', Nx H' → ∃ m', m' < m ∧ W (i + 1) m' H') ∧ ∀ x H', (Itkt d o kv).yld i H x H' → gName v x (wipe σ [v]) H' fun σ2 H2 => wipe σ2 [v] = wipe σ [v] ∧ tt σ2 H2 fun b H3 => if b = true then te σ2 H3 fun y H4 => ∃ acc, H4 E = some (.lst acc) ∧ acc.length < sizeLine ∧ Nx (upd H4 E (.lst (acc ++ [y]))) else Nx H3) :=
  lc_it walk_keysT Pv h0 (fun i H _ p => hG i H p) (fun i x H H' hi p y => by
    obtain ⟨e, k, x', q, h1, h2, h3⟩ := y
    subst e h2
    show wipe ((wipe σ [v]).set v (some (.ref q))) [v] = wipe σ [v] ∧ tt ((wipe σ [v]).set v (some (.ref q))) _ _
    rw [wipe1]
    exact ⟨wipe2, hs i k x' q _ h1 h3 p⟩) hd
section
variable {H : Hp} {Q : VK} {σ : L2.St}
theorem i_keys {td : TE} {R : It → Hp → Prop} (q : td σ H fun x H1 => ∃ d o, x = .ref d ∧ ((∃ kvs, H1 d = some (.frz o (.dK kvs)) ∧ R (Itk d o kvs) H1) ∨ ∃ kvs, H1 d = some (.frz o (.dT kvs)) ∧ R (Itkt d o kvs) H1)) : iKeys td σ H R := q
theorem i_dgetF {D b : Addr} {od : Obj} {kvs : List (List Key × V)} {i j : Int} {v : V} {R : V → Prop} (h : H D = some (.frz od (.dT kvs))) (hb : H b = some (.tup [.int i, .int j])) (hv : valV kvs (pk (i, j)) = some v) (q : R v) : (∃ a' v', V.ref D = .ref a' ∧ DGet H a' (.ref b) (some v') ∧ R v') :=
  ⟨D, v, rfl, .inr ⟨kvs, pk (i, j), b, .inr ⟨od, h⟩, rfl, hb, hv.symm⟩, q⟩
theorem i_lock {t : TE} {D : Addr} {kvs : List (List Key × V)} (h : H D = some (.dT kvs)) (k : ∀ od, t σ (upd H D (.frz od (.dT kvs))) fun v H' => H' D = some (.frz od (.dT kvs)) ∧ Q v (upd H' D (.dT kvs))) : tLockE t σ H Q := ⟨D, _, h, trivial, k⟩
theorem i_sum {K : PySem.W.Frag} {p : Addr} {ns : List Int} (h : H p = some (.lst (ns.map V.int))) (q : Q (.int ns.sum) H) : rSum K [.ref p] H Q := ⟨p, ns, rfl, SqL.of h, q⟩
end
end Lb
set_option Elab.async false
set_option linter.all false
set_option maxRecDepth 100000
set_option maxHeartbeats 4000000
/-! Lw: comprehensions that make a set of ints. Knows no program. -/
namespace Lb
open PySem PySem.Spec PyProof.Rows L2 PpSet
/-- {elt for target in iter}, ints: D the new set -/
def tScI (w : World) (wi : TI) (g : TG) (te : TE) (vs : List Nat) : TE := fun σ H Q => wi σ H fun J H1 => ∀ D, H1 D = none → ∃ W : Nat → Nat → Hp → Prop, (∃ m, W 0 m (upd H1 D (SetO w D (fun _ => false) 0))) ∧ ∀ i m H, W i m H →
  (J.stop i H ∧ Q (.ref D) H) ∨ (J.go i H ∧ ∃ Nx : Hp → Prop, (∀ H', Nx H' → ∃ m', m' < m ∧ W (i + 1) m' H') ∧ ∀ x H', J.yld i H x H' → g x (wipe σ vs) H' fun σ2 H2 => wipe σ2 vs = wipe σ vs ∧
    te σ2 H2 fun y H4 => ∃ (k : Int) (S : Int → Bool) (n : Nat), y = .int k ∧ H4 D = some (SetO w D S n) ∧ n + 1 < scanBound ∧ Nx (upd H4 D (SetO w D (fun j => S j || decide (j = k)) (if S k = true then n else n + 1))))
section
variable {X : Cx}
/-- a member more -/
theorem setO_add {pins : List (Addr × Obj)} {σ : L2.St} {H : Hp} {s : Shared} {E : Value → Shared → Prop} {D : Addr} {S : Int → Bool} {n : Nat} {y : Int} {u : Value} {Q : Value → Shared → Prop} (I : L2.Inv X pins σ H s) (hD : H D = some (SetO X.w D S n)) (hu : RelV (.int y) u) (room : n + 1 < scanBound)
    (h : ∀ s', L2.Inv X pins σ (upd H D (SetO X.w D (fun j => S j || decide (j = y)) (if S y = true then n else n + 1))) s' → Q .none s') : wpAny (model X.prog X.w) X.A (call (.builtin "set.add") [.ref D, u]) Q E s := by
  obtain ⟨t, rfl⟩ := hu
  refine setR_add (setO_get I hD) room fun h' sb new => h _ (I.write (e := D) (t' := s.toks + 1) (by rw [hD]; trivial) (.inl rfl) (fun b u hb hu => (sb.2 b hb).trans hu) ?_ (setO_new new))
  have ⟨o, _, _, _, ho, _⟩ := new
  exact ⟨o, ho⟩
theorem pe_scI {elt tg iter : Expr} {scope : Scope} {own : List (PySem.Str × Nat)} {pos : Pos} {wi : TI} {g : TG} {te : TE} (hc : X.calm = true) (hN : X.N.Nodup) (hi : PI X tg iter wi) (ok : BlkOk X.N X.env.scope scope own)
    (hg : ∀ (s : Shared) (H : Hp) (C : Addr) (cl : List (PySem.Str × Addr)) (fp : List Addr), PG (X.blk s H scope (compEnvC scope cl C X.env) fp) tg g)
    (he : ∀ (s : Shared) (H : Hp) (C : Addr) (cl : List (PySem.Str × Addr)) (fp : List Addr), PE (X.blk s H scope (compEnvC scope cl C X.env) fp) elt te) (hs : ∀ x, foldedSetIterable iter X.env x = pure x := by intro _; rfl) :
    PE X (.SetComp elt [⟨tg, iter, [], 0⟩] scope pos) (tScI X.w wi g te (own.map (·.2))) := by
  refine ⟨fun pins s σ H Q I h => ?_⟩
  rw [eval_SetComp]
  refine wpAny_comprehension_free rfl hs (closure_ok fun y hy e => ?_) ok.kind (fun y hy e => by rw [ok.uniq y hy, e]) (thn (hi.run pins s σ H _ I h) fun xv s1 hx => thn hx fun itv s2 h2 => ?_)
  · exact (ok.free y hy e).elim (fun k => I.ok.has _ (.inl k)) fun k => I.ok.has _ (.inr k)
  obtain ⟨it, fp, tn, J, H2, rfl, I2, T, st2, f2, q⟩ := h2
  refine newSet_ok (newEnv_comp ?_)
  have Dn : H2 s2.heap.objs.size = none := I2.hok.fresh (Nat.le_refl _)
  obtain ⟨W, ⟨m0, w0⟩, turn⟩ := q s2.heap.objs.size Dn
  generalize hs3 : ({ s2 with heap := s2.heap.push { cls := .type "set", dict := none, data := .set #[] 0 (.fresh 0 0 (!X.w.params.followText "set-order")) } } : Shared) = s3
  have up3 : ∀ b o, s2.heap.get? b = some o → s3.heap.get? b = some o := fun b o e => by
    rw [← hs3]
    exact Heap.get?_push_of_some _ e
  have z3 : s3.heap.objs.size = s2.heap.objs.size + 1 := by rw [← hs3, Heap.size_push]
  have I3 : L2.Inv X pins σ (upd H2 s2.heap.objs.size (SetO X.w s2.heap.objs.size (fun _ => false) 0)) s3 := by
    rw [← hs3]
    exact I2.laid (t' := s2.toks) (fun b o e => Heap.get?_push_of_some _ e) (Nat.le_refl _) (setO_new (setR_fresh X.w))
  generalize hH3 : upd H2 s2.heap.objs.size (SetO X.w s2.heap.objs.size (fun _ => false) 0) = H3 at I3 w0
  have lt2 : ∀ b ∈ fp, b < s2.heap.objs.size := fun b hb => (T.obj _ _ st2 b hb).elim fun o e => Heap.lt_size e.1
  have nb3 : ∀ b ∈ fp, H3 b = none := fun b hb => by
    rw [← hH3, upd_ne (Nat.ne_of_lt (lt2 b hb))]
    exact (f2 b hb).1
  have f3 : ∀ b ∈ fp, FpOk X pins H3 b ∧ b < s3.heap.objs.size := fun b hb => ⟨⟨nb3 b hb, (f2 b hb).2⟩, Nat.lt_of_lt_of_le (lt2 b hb) (by rw [z3]; exact Nat.le_succ _)⟩
  have I4 := block_start I3 ok hN f3
  have st4' : tn 0 (pushCells (s3.heap.push { cls := .type "dict", data := .dict #[] }) scope.names) := T.keep _ _ _ st2 fun b _ o e => pushCells_keeps _ _ _ _ (Heap.get?_push_of_some _ (up3 b o e))
  generalize hcc : cellsFrom (s3.heap.objs.size + 1) scope.names (cloFrom X.env.cells scope.names []) = cl at I4
  have pg := hg s3 H3 s3.heap.objs.size cl fp
  have pe := he s3 H3 s3.heap.objs.size cl fp
  show codeAny _ _ (.compStart (.SetComp elt [⟨tg, iter, [], 0⟩] scope pos) 0 (.ref it) (.ref s2.heap.objs.size) (compEnvC scope cl s3.heap.objs.size X.env)) (compPost (model X.prog X.w) X.A X.xe none (EP X pins σ Q) (.ref s2.heap.objs.size) s3.heap.objs.size) { s3 with heap := pushCells (s3.heap.push { cls := .type "dict", data := .dict #[] }) scope.names }
  generalize hce : compEnvC scope cl s3.heap.objs.size X.env = ce at I4 pg pe ⊢
  have cL : ce.locals = s3.heap.objs.size := by rw [← hce]; rfl
  generalize hs4 : ({ s3 with heap := pushCells (s3.heap.push { cls := .type "dict", data := .dict #[] }) scope.names } : Shared) = s4 at I4 ⊢
  have st4 : tn 0 s4.heap := by rw [← hs4]; exact st4'
  -- the iterator's objects in the block's context
  have fpb : ∀ {σ' : L2.St} {H' : Hp} {s' : Shared}, L2.Inv (X.blk s3 H3 scope ce fp) [] σ' H' s' → (∀ b ∈ fp, H' b = none) → ∀ b ∈ fp, FpOk (X.blk s3 H3 scope ce fp) [] H' b := fun {σ' H' s'} J hn b hb =>
    ⟨hn b hb, (J.ok.exf b hb).1, J.ok.exfs b hb, .inl hb, fun x c e => (J.ok.exf b hb).2 x c e, fun p hp => absurd (show p ∈ ([] : List (Addr × Obj)) ++ [] from hp) (by simp)⟩
  suffices loop : codeAny (model X.prog X.w) X.A (.compLoop (.SetComp elt [⟨tg, iter, [], 0⟩] scope pos) 0 (.ref it) (.ref s2.heap.objs.size) ce) (compPost (model X.prog X.w) X.A X.xe none (EP X pins σ Q) (.ref s2.heap.objs.size) s3.heap.objs.size) s4 from codeAny_compStart_set loop (T.self X.A 0 _ _ _ st4 loop)
  refine compLoopS_any (fun n s' => ∃ i H', L2.Inv (X.blk s3 H3 scope ce fp) [] (wipe σ (own.map (·.2))) H' s' ∧ tn i s'.heap ∧ (∀ b ∈ fp, H' b = none) ∧ W i n H') ?_ m0 ⟨0, H3, I4, st4, nb3, w0⟩
  rintro n s5 ⟨i, H5, I5, st5, n5, w5⟩
  rcases turn i n H5 w5 with ⟨stop, qq⟩ | ⟨go, Nx, hNx, step⟩
  · refine thnF (T.done (X.blk s3 H3 scope ce fp) rfl rfl rfl hc i [] s5 _ H5 (fun _ _ => False) I5 (fpb I5 n5) st5 stop) fun r s6 ⟨hr, I6⟩ => ?_
    subst hr
    obtain ⟨m, hn, _⟩ := I6.loc
    have hn' : s6.heap.Ns ce.locals m := hn
    have nC : H5 ce.locals = none := I6.free
    rw [cL] at hn' nC
    have I7 : L2.Inv X pins σ H5 s6 := I3.call' (ch := fp) I6.os I6.base I6.hok I6.bare fun b hb => ⟨(f3 b hb).1.2.2.2.1, (f3 b hb).1.2.1, (f3 b hb).1.2.2.2.2.1, (f3 b hb).1.2.2.2.2.2⟩
    obtain ⟨c0, c1, c2, c3, c4, c5⟩ : FpOk X pins H5 s3.heap.objs.size := I3.fpOk (Nat.le_refl _) nC
    exact ⟨m, hn', fun h'' sb => ⟨.ref s2.heap.objs.size, H5, I7.turned (t' := s6.toks) (fun b o hb e => (sb.2 b hb).trans e) c0 c1 c3 c4 c5, rfl, qq⟩⟩
  · refine thnF (T.item (X.blk s3 H3 scope ce fp) rfl rfl rfl hc i [] s5 _ H5 (fun _ _ => False) I5 (fpb I5 n5) st5 go) fun r s6 ⟨u, hr, h6⟩ => ?_
    subst hr
    refine thnF h6 fun _ s7 ⟨x, H7, I7, r7, y7, st7, n7⟩ => ?_
    have objs := T.obj _ _ st7
    refine thnF (pg.run _ s7 _ H7 x u _ (I7.pinned (fpb I7 n7) objs) r7 (step x H7 y7)) fun _ s8 ⟨σ8, H8, I8, w8, q8⟩ => ?_
    refine wpAny_pure ?_
    simp only [if_true]
    refine thnF (pe.run _ s8 σ8 H8 _ I8 q8) fun z s9 ⟨yv, H9, I9, r9, k, S0, n0, ey, hD9, room, nx⟩ => ?_
    subst ey
    refine setO_add (X := X.blk s3 H3 scope ce fp) I9 hD9 r9 room fun s10 I10 => ?_
    obtain ⟨m', hm, w'⟩ := hNx _ nx
    have kept : ∀ b ∈ fp, ∀ o, s7.heap.get? b = some o → s10.heap.get? b = some o ∧ _ = none := fun b hb o e =>
      let z := I10.pin (b, o) (List.mem_append_right _ (List.mem_append_right _ (mem_pinsAt hb e)))
      ⟨z.1, z.2.1⟩
    refine ⟨m', hm, i + 1, _, (I10.unpinned (pins := [])).weak (by rw [← w8, wipe_length]) (fun j v e => ?_), T.keep _ _ _ st7 fun b hb o e => (kept b hb o e).1, fun b hb => (objs b hb).elim fun o e => (kept b hb o e.1).2, w'⟩
    rw [← w8] at e
    exact (wipe_some e).1
end
end Lb
set_option Elab.async false
set_option linter.all false
set_option maxRecDepth 100000
set_option maxHeartbeats 4000000
/-! Lv: sets of ints, sorted sets, least and greatest, pairs in lists, enumerate, reversed. Knows no program. -/
namespace Lb
open PySem PySem.Spec PyProof.Rows L2
section
variable {X : Cx}
theorem units65 {k : Nat} {A : Around} (r : Room k A) : A.units + 65 < cLine := by
  have := r.un
  omega
/-- min(a, b), max(a, b) -/
def rMin2 : List V → Hp → VK → Prop := fun xs H Q => ∃ i j, xs = [.int i, .int j] ∧ Q (.int (if j < i then j else i)) H
def rMax2 : List V → Hp → VK → Prop := fun xs H Q => ∃ i j, xs = [.int i, .int j] ∧ Q (.int (if j > i then j else i)) H
theorem cr_min2 (hc : X.calm = true) : CallR X (.builtin "min") rMin2 := call_min2 hc
theorem cr_max2 (hc : X.calm = true) : CallR X (.builtin "max") rMax2 := call_max2 hc
end
section
variable {K : PySem.W.Frag} {H : Hp} {Q : VK} {a c p : Addr} {B : Hp} {ls : List (Addr × HO)} {σ : L2.St} {g : TG} {tb : TS} {nx : L2.St → Hp → Prop} {rt : VK} {xs : List V}
theorem i_min2 {i j : Int} (q : Q (.int (if j < i then j else i)) H) : rMin2 [.int i, .int j] H Q := ⟨i, j, rfl, q⟩
theorem i_max2 {i j : Int} (q : Q (.int (if j > i then j else i)) H) : rMax2 [.int i, .int j] H Q := ⟨i, j, rfl, q⟩
theorem i_minL {ns : List Int} (h : H p = some (.lst (ns.map V.int))) (h0 : 0 < ns.length) (q : ∀ m, m ∈ ns → (∀ y, y ∈ ns → m ≤ y) → Q (.int m) H) : rMin K [.ref p] H Q := ⟨p, ns, rfl, SqL.of h, h0, q⟩
/-- {x for x in list of ints} -/
theorem i_scI {w : World} {i v : Nat} {ns : List Int} (O : Own a c B H ls) (hi : σ[i]? = some (some (.ref p))) (hp : H p = some (.lst (ns.map V.int))) (hl : ns.length + 1 < PySem.scanBound) (hv : v < σ.length)
    (k : ∀ D S n H', Own a c B H' ((D, SetO w D S n) :: ls) → (∀ j, S j = true ↔ j ∈ ns) → n ≤ ns.length → Q (.ref D) H') : tScI w (iList K (tVar i)) (gName v) (tVar v) [v] σ H Q := by
  refine ⟨_, hi, _, rfl, ⟨_, SqL.of hp⟩, fun D hD => ?_⟩
  have pD : p ≠ D := fun e => by
    rw [e, hD] at hp
    cases hp
  refine ⟨fun i m H' => m = ns.length - i ∧ i ≤ ns.length ∧ H' p = some (.lst (ns.map V.int)) ∧ ∃ S n, Own a c B H' ((D, SetO w D S n) :: ls) ∧ (∀ j, S j = true ↔ j ∈ ns.take i) ∧ n ≤ i, ⟨ns.length, by simp, Nat.zero_le _, by rw [upd_ne pD]; exact hp, _, 0, O.new hD, fun j => by simp, Nat.le_refl _⟩, ?_⟩
  rintro i m H2 ⟨rfl, hi, hq, S, n, O, hS, hn⟩
  by_cases hlt : i < ns.length
  · refine .inr ⟨⟨_, .int ns[i], SqL.of hq, by rw [List.getElem?_map, List.getElem?_eq_getElem hlt]; rfl⟩, _, fun H' p' => ⟨ns.length - (i + 1), by omega, rfl, hlt, p'⟩, fun x H' y => ?_⟩
    obtain ⟨rfl, y⟩ := y
    have ex := y _ (SqL.of hq)
    rw [List.getElem?_map, List.getElem?_eq_getElem hlt] at ex
    cases ex
    refine ⟨?_, _, (by
      show ((σ.set v none).set v _)[v]? = _
      rw [List.set_set, List.getElem?_set_self hv]), _, S, n, rfl, O.mem List.mem_cons_self, by omega, by rw [upd_ne pD]; exact hq, _, _, O.set .here, fun j => ?_, by split <;> omega⟩
    · show ((σ.set v none).set v _).set v none = σ.set v none
      rw [List.set_set, List.set_set]
    · rw [List.take_add_one, List.getElem?_eq_getElem hlt]
      simp only [Bool.or_eq_true, decide_eq_true_eq, hS, Option.toList, List.mem_append, List.mem_singleton]
  · have e : i = ns.length := by omega
    subst e
    exact .inl ⟨⟨_, SqL.of hq, by simp⟩, k D S n H2 O (fun j => by rw [hS, List.take_length]) hn⟩
/-- sorted(set of ints) -/
theorem i_sortSet {w : World} {S : Int → Bool} {n : Nat} (O : Own a c B H ls) (h : H p = some (SetO w p S n)) (hn : n < 64)
    (k : ∀ (ns : List Int) q H', ns.Pairwise (· < ·) → (∀ j : Int, j ∈ ns ↔ S j = true) → Own a c B H' ((q, .lst (ns.map V.int)) :: ls) → Q (.ref q) H') : rSortedSet w [.ref p] H Q :=
  ⟨p, S, n, rfl, h, hn, fun ns q h1 h2 _ hq => k ns q _ h1 h2 (O.new hq)⟩
theorem i_enum {ta : TA} {R : It → Hp → Prop} (q : ta σ H fun vs H1 => ∃ a xs, vs = [.ref a] ∧ SqL K H1 a xs ∧ R (Ite K a) H1) : iEnum K ta σ H R := q
theorem i_rev {ta : TA} {R : It → Hp → Prop} (q : ta σ H fun vs H1 => ∃ (a : Addr) (xs : List V), vs = [.ref a] ∧ SqL K H1 a xs ∧ R (Itv K a xs.length) H1) : iRev K ta σ H R := q
theorem i_forE (h : H p = some (.lst xs)) (Pv : Nat → L2.St → Hp → Prop) (h0 : Pv 0 σ H) (hl : ∀ i σ H, Pv i σ H → SqL K H p xs)
    (hs : ∀ i x T σ H, xs[i]? = some x → H T = none → Pv i σ H → g (.ref T) σ (upd H T (.tup [.int (i : Nat), x])) fun σ2 H2 => tb ⟨Pv (i + 1), rt, nx, Pv (i + 1)⟩ σ2 H2) (hd : ∀ σ H, Pv xs.length σ H → nx σ H) :
    ∃ a' xs', [V.ref p] = [V.ref a'] ∧ SqL K H a' xs' ∧ ∃ W : Nat → Nat → L2.St → Hp → Prop, (∃ m, W 0 m σ H) ∧ ∀ i m σ H, W i m σ H → ((Ite K a').stop i H ∧ nx σ H) ∨ ((Ite K a').go i H ∧ ∃ N : L2.St → Hp → Prop, (∀ σ' H', N σ' H' → ∃ m', m' < m ∧ W (i + 1) m' σ' H') ∧ ∀ x H', (Ite K a').yld i H x H' → g x σ H' fun σ2 H2 => tb ⟨N, rt, nx, N⟩ σ2 H2) := by
  refine ⟨p, xs, rfl, SqL.of h, fun i m σ H => m = xs.length - i ∧ i ≤ xs.length ∧ Pv i σ H, ⟨xs.length, by simp, Nat.zero_le _, h0⟩, ?_⟩
  rintro i m σ H ⟨rfl, hi, pv⟩
  have q := hl i σ H pv
  by_cases hlt : i < xs.length
  · refine .inr ⟨⟨xs, xs[i], q, by simp [hlt]⟩, Pv (i + 1), fun σ' H' p' => ⟨xs.length - (i + 1), by omega, rfl, hlt, p'⟩, fun x H' y => ?_⟩
    obtain ⟨T, z, rfl, hT, rfl, y⟩ := y
    exact hs i z T σ _ (y xs q) hT pv
  · have e : i = xs.length := by omega
    subst e
    exact .inl ⟨⟨xs, q, Nat.le_refl _⟩, hd σ H pv⟩
theorem i_forV (h : H p = some (.lst xs)) (Pv : Nat → L2.St → Hp → Prop) (h0 : Pv 0 σ H) (hl : ∀ i σ H, Pv i σ H → SqL K H p xs)
    (hs : ∀ i x σ H, xs.reverse[i]? = some x → Pv i σ H → g x σ H fun σ2 H2 => tb ⟨Pv (i + 1), rt, nx, Pv (i + 1)⟩ σ2 H2) (hd : ∀ σ H, Pv xs.length σ H → nx σ H) :
    ∃ (a' : Addr) (xs' : List V), [V.ref p] = [V.ref a'] ∧ SqL K H a' xs' ∧ ∃ W : Nat → Nat → L2.St → Hp → Prop, (∃ m, W 0 m σ H) ∧ ∀ i m σ H, W i m σ H → ((Itv K a' xs'.length).stop i H ∧ nx σ H) ∨ ((Itv K a' xs'.length).go i H ∧ ∃ N : L2.St → Hp → Prop, (∀ σ' H', N σ' H' → ∃ m', m' < m ∧ W (i + 1) m' σ' H') ∧ ∀ x H', (Itv K a' xs'.length).yld i H x H' → g x σ H' fun σ2 H2 => tb ⟨N, rt, nx, N⟩ σ2 H2) := by
  refine ⟨p, xs, rfl, SqL.of h, fun i m σ H => m = xs.length - i ∧ i ≤ xs.length ∧ Pv i σ H, ⟨xs.length, by simp, Nat.zero_le _, h0⟩, ?_⟩
  rintro i m σ H ⟨rfl, hi, pv⟩
  have q := hl i σ H pv
  by_cases hlt : i < xs.length
  · refine .inr ⟨⟨hlt, xs, xs[xs.length - 1 - i], q, List.getElem?_eq_getElem (by omega)⟩, Pv (i + 1), fun σ' H' p' => ⟨xs.length - (i + 1), by omega, rfl, hlt, p'⟩, fun x H' y => ?_⟩
    obtain ⟨rfl, y⟩ := y
    exact hs i x σ _ (by rw [List.getElem?_reverse hlt]; exact y xs q) pv
  · have e : i = xs.length := by omega
    subst e
    exact .inl ⟨Nat.le_refl _, hd σ H pv⟩
/-- x in l, deep -/
theorem i_inD {x y : V} {d : PyData} {ds : List PyData} (hx : Dt H x d) (hy : Dt H y (.list ds)) (h1 : Shp d) (h2 : Shp (.list ds)) (q : Q (.bl (ds.any fun z => PyData.eqv z d)) H) : rInD K x y H Q := ⟨d, ds, hx.dp, hy.dp, h1, h2, q⟩
def prD (j : Int × Int) : PyData := .tuple [.int j.1, .int j.2]
theorem PairV.dt {y : V} {j : Int × Int} (h : PairV H y j) : Dt H y (prD j) := by
  obtain ⟨t, rfl, ht⟩ := h
  exact .tup ht (.cons (.int _) (.cons (.int _) .nil))
theorem pairs_dt : ∀ {vs : List V} {ps : List (Int × Int)}, Paired (PairV H) vs ps → DtAll H vs (ps.map prD)
  | _, _, .nil => .nil
  | _, _, .cons h t => .cons h.dt (pairs_dt t)
theorem prD_eqv {i j : Int × Int} : PyData.eqv (prD i) (prD j) = decide (i = j) := by
  obtain ⟨a, b⟩ := i
  obtain ⟨c, d⟩ := j
  simp only [prD, PyData.eqv, PyData.eqvAll, Bool.and_true, Prod.mk.injEq]
  by_cases h1 : a = c <;> by_cases h2 : b = d <;> simp [h1, h2]
theorem prD_any {ps : List (Int × Int)} {j : Int × Int} : ((ps.map prD).any fun z => PyData.eqv z (prD j)) = decide (j ∈ ps) := by
  rw [List.any_map]
  induction ps with
  | nil => rfl
  | cons p r ih =>
    rw [List.any_cons, ih]
    show (PyData.eqv (prD p) (prD j) || _) = _
    rw [prD_eqv]
    by_cases h1 : p = j
    · simp [h1]
    · have h2 : ¬ j = p := fun e => h1 e.symm
      simp [h1, h2]
theorem prD_sh {j : Int × Int} : Sh 1 (prD j) := .tup (.cons .int (.cons .int .nil))
theorem prD_shA {ps : List (Int × Int)} : Sh 2 (.list (ps.map prD)) := .lst (.all fun d hd => by
  obtain ⟨j, _, rfl⟩ := List.mem_map.mp hd
  exact prD_sh)
theorem Paired.take {α β : Type} {R : α → β → Prop} : ∀ {xs : List α} {ys : List β}, Paired R xs ys → ∀ n, Paired R (xs.take n) (ys.take n)
  | _, _, .nil, n => by rw [List.take_nil, List.take_nil]; exact .nil
  | _, _, .cons h t, 0 => .nil
  | _, _, .cons h t, n + 1 => .cons h (Paired.take t n)
theorem Paired.app {α β : Type} {R : α → β → Prop} : ∀ {xs zs : List α} {ys ws : List β}, Paired R xs ys → Paired R zs ws → Paired R (xs ++ zs) (ys ++ ws)
  | _, _, _, _, .nil, k => k
  | _, _, _, _, .cons h t, k => .cons h (Paired.app t k)
theorem Paired.mono {α β : Type} {R S : α → β → Prop} (f : ∀ x y, R x y → S x y) : ∀ {xs : List α} {ys : List β}, Paired R xs ys → Paired S xs ys
  | _, _, .nil => .nil
  | _, _, .cons h t => .cons (f _ _ h) (Paired.mono f t)
/-- pair in list of pairs -/
theorem i_inP {x : V} {j : Int × Int} {vs : List V} {ps : List (Int × Int)} (hx : PairV H x j) (hy : H p = some (.lst vs)) (hp : Paired (PairV H) vs ps) (q : Q (.bl (decide (j ∈ ps))) H) : rInD K x (.ref p) H Q :=
  i_inD hx.dt (.lst hy (pairs_dt hp)) (Sh.shp prD_sh) (Sh.shp prD_shA) (by rw [prD_any]; exact q)
/-- [x] * n -/
theorem i_mul1 {v : V} {t : Nat} (O : Own a c B H ls) (h : H p = some (.lst [v])) (ht : t ≤ 1000) (k : ∀ r H', Own a c B H' ((r, .lst (List.replicate t v)) :: ls) → Q (.ref r) H') : rMulA (.ref p) (.int (t : Nat)) H Q := by
  simp only [rMulA, h]
  have e : ∀ t : Nat, (List.replicate ((t : Nat) : Int).toNat [v]).flatten = List.replicate t v := fun t => by
    rw [Int.toNat_natCast]
    induction t with
    | zero => rfl
    | succ n ih => rw [List.replicate_succ, List.flatten_cons, ih, List.replicate_succ]; rfl
  rw [e]
  refine ⟨by omega, by omega, sz (by simp; omega), fun r hr => k r _ (O.new hr)⟩
/-- [elt for x, y in list of pairs if test], the element an int -/
theorem i_lcP {D : Addr} {v w : Nat} {tt : TT} {te : TE} {Qd : Hp → Prop} {vs : List V} {ps : List (Int × Int)} {f : Int × Int → Bool} {e : Int × Int → Int} (O : Own a c B H ls) (hD : H D = none) (hp : B p = some (.lst vs)) (hP : Paired (PairV B) vs ps) (hz : ps.length ≤ 100000) (hvw : v ≠ w) (hv : v < σ.length) (hw : w < σ.length)
    (ht : ∀ j H' (R : Bool → Hp → Prop), j ∈ ps → Same B H' → R (f j) H' → tt ((σ.set v (some (.int j.1))).set w (some (.int j.2))) H' R)
    (hs : ∀ j H' (R : VK), j ∈ ps → f j = true → Same B H' → R (.int (e j)) H' → te ((σ.set v (some (.int j.1))).set w (some (.int j.2))) H' R)
    (hd : ∀ H', Own a c B H' ((D, .lst (((ps.filter f).map e).map V.int)) :: ls) → Qd H') :
    ∃ W : Nat → Nat → Hp → Prop, (∃ m, W 0 m (upd H D (.lst []))) ∧ ∀ i m H, W i m H → ((Itl K p).stop i H ∧ Qd H) ∨ ((Itl K p).go i H ∧ ∃ Nx : Hp → Prop, (∀ H', Nx H' → ∃ m', m' < m ∧ W (i + 1) m' H') ∧ ∀ x H', (Itl K p).yld i H x H' → gTup K 2 (gCons (gName v) (gCons (gName w) gNil)) x (wipe σ [v, w]) H' fun σ2 H2 => wipe σ2 [v, w] = wipe σ [v, w] ∧ tt σ2 H2 fun b H3 => if b = true then te σ2 H3 fun y H4 => ∃ acc, H4 D = some (.lst acc) ∧ acc.length < sizeLine ∧ Nx (upd H4 D (.lst (acc ++ [y]))) else Nx H3) := by
  refine lc_list (xs := vs) (fun i H' => Own a c B H' ((D, .lst ((((ps.take i).filter f).map e).map V.int)) :: ls)) (O.new hD) (fun i H' _ O => SqL.of (O.kp hp)) ?_ ?_
  · intro i x H' hx O
    obtain ⟨j, hj, t, rfl, hT⟩ := Lb.Paired.at hP hx
    refine i_gtup (O.kp hT) rfl ?_
    refine i_gcons (i_gname (i_gcons (i_gname (i_gnil ?_))))
    have e1 : ∀ x y : V, ((wipe σ [v, w]).set v (some x)).set w (some y) = (σ.set v (some x)).set w (some y) := fun x y => by
      show ((((σ.set w none).set v none).set v (some x)).set w (some y) : L2.St) = _
      rw [List.set_set, List.set_comm _ _ (Ne.symm hvw), List.set_set]
    rw [e1]
    have jm : j ∈ ps := List.mem_of_getElem? hj
    refine ⟨?_, ht j H' _ jm O.keep ?_⟩
    · show ((((σ.set v (some (.int j.1))).set w (some (.int j.2))).set w none).set v none : L2.St) = (σ.set w none).set v none
      rw [List.set_set, List.set_comm _ _ (Ne.symm hvw), List.set_set]
      exact List.set_comm _ _ hvw
    have es := take_succ_filter f ps i j hj
    cases hf : f j with
    | false =>
      rw [hf] at es
      show Own a c B H' _
      rw [es]
      simpa using O
    | true =>
      rw [hf] at es
      refine hs j H' _ jm hf O.keep ⟨_, O.mem List.mem_cons_self, szl ?_, ?_⟩
      · rw [List.length_map, List.length_map]
        exact Nat.le_trans (List.length_filter_le _ _) (by rw [List.length_take]; omega)
      · have O2 := O.set (p := D) (o' := .lst ((((ps.take i).filter f).map e).map V.int ++ [.int (e j)])) .here
        rw [es]
        simpa using O2
  · intro H' O
    refine hd H' ?_
    have l := hP.length
    rw [l, List.take_length] at O
    exact O
end
end Lb
set_option Elab.async false
set_option linter.all false
set_option maxRecDepth 100000
set_option maxHeartbeats 4000000
namespace K40
open PySem PySem.Spec PyProof.Rows L2 Lb
local macro_rules | `(tactic| walk_at "pm") => `(tactic| (focus ((repeat (first | exact List.Perm.refl _ | (apply Pick.perm; (solve | repeat (first | exact Pick.here | apply Pick.there))))); done)))
local macro_rules | `(tactic| walk_at "h") => `(tactic| first | assumption | exact Own.mem (by assumption) (by walk_at "m") | exact Own.kp (by assumption) (by assumption))
local macro_rules | `(tactic| walk_at "m") => `(tactic| (focus ((repeat (first | assumption | exact List.mem_cons_self | apply List.mem_cons_of_mem)); done)))
local macro_rules | `(tactic| walk_at "u") => `(tactic| (focus ((repeat (first | exact Up1.here | apply Up1.there)); done)))
local macro_rules | `(tactic| walk_at "p") => `(tactic| (focus ((repeat (first | exact Pre.nil | apply Pre.cons)); done)))
local macro_rules | `(tactic| walk_at "f") => `(tactic| (focus ((repeat (first | exact PutF.here | exact PutF.nil | (apply PutF.there; (solve | decide +kernel)))); done)))
local macro_rules | `(tactic| walk_at "k") => `(tactic| (focus ((repeat (first | exact LkF.here rfl | exact LkF.nil rfl | refine LkF.there (by decide +kernel) ?_)); done)))
local macro_rules | `(tactic| walk_at "e") => `(tactic| (focus ((repeat (first | exact StE.nil | apply StE.app | apply StE.got | apply StE.lack)); done)))
local macro_rules | `(tactic| walk_at "d") => `(tactic| (focus ((repeat (first | exact Dt.int _ | exact Dt.str _ | exact Dt.non | exact Dt.bl _ | exact DtAll.nil | exact DtAll.ints _ | apply DtAll.cons | (apply Dt.tup; (solve | walk_at "h")) | (apply Dt.lst; (solve | walk_at "h")))); done)))
local macro_rules | `(tactic| walk_at "sh") => `(tactic| (focus ((repeat (first | exact Sh.int | exact Sh.non | exact Sh.str (by decide +kernel) | exact ShA.nil | exact ShA.ints | apply ShA.cons | apply Sh.lst | apply Sh.tup)); done)))
local macro_rules | `(tactic| walk_at "ne") => `(tactic| (apply rd_neF; (solve | walk_at "d"); (solve | walk_at "d"); (solve | exact Sh.shp (n := 4) (by walk_at "sh"))))
local macro_rules | `(tactic| walk_at "s1") => `(tactic| with_reducible first | (apply i_bm) | apply i_min2 | apply i_max2 | apply i_enum | apply i_rev | apply i_try | apply i_callS | apply i_methS | apply i_raiseX | (apply i_mks; (solve | assumption)) | apply i_rng3 | apply i_txf | (apply i_isX; (solve | assumption); (solve | walk_at "h")) | (apply i_xf; (solve | walk_at "h"); (solve | walk_at "k")) | (apply i_tyK; (solve | assumption)) | apply i_tyS | (apply i_ixK; (solve | assumption); (solve | assumption | with_unfolding_all rfl)) | (apply i_lenK; (solve | assumption); (exact rfl)) | (apply i_tupLN; (solve | walk_at "h")) | (apply i_var; (solve | with_unfolding_all rfl)) | apply i_cons | apply i_nil | apply i_c | apply i_op | apply i_asg | apply i_seq | apply i_gname | apply i_eqS | apply i_eqI | apply i_neS | apply i_tt | apply i_ff | (apply i_ixA; (solve | walk_at "h"); (solve | exact IxO.lst (by assumption) | exact IxO.tup (by assumption) | exact .lst (by with_unfolding_all rfl) | exact .tup (by with_unfolding_all rfl))) | apply i_bl | apply i_test | apply i_ifS | apply i_tupN | (apply i_tupO; (solve | assumption); (exact (sz (by (try simp) <;> omega))); intro p H O) | apply i_fld | (apply i_fldO; (solve | walk_at "h"); (solve | assumption); (solve | assumption); (solve | walk_at "k")) | (apply i_tB; (solve | decide +kernel)) | (apply i_fB; (solve | decide +kernel)) | apply i_ret | apply i_retN | apply i_drop | apply i_next | apply i_brk | apply i_cnt | apply i_par | apply i_par2 | apply i_fldSN | apply i_dput | apply i_un | apply i_rU | apply i_rI0 | apply i_B | apply i_tru | apply i_truB | apply i_and | apply i_or | apply i_not | apply i_andV | apply i_orV | apply i_notV | apply i_if | apply i_call | apply i_meth | apply i_makeN | apply i_cb | apply i_dnewN | apply i_lstN | apply i_bml | apply i_gsub | apply i_gcons | apply i_gnil | apply i_sl | apply i_nop | apply i_part | apply i_prt | apply i_isN | apply i_notN | apply i_yes | apply i_ntt | apply i_nff | apply i_addI | apply i_neI | apply i_intI | apply i_intB | apply i_abs | apply i_isiIB | apply i_isiNB | apply i_isiBB | apply i_dget | apply i_for | apply i_ilist | apply i_itup | apply i_rng1 | apply i_rng2 | apply i_ex1 | apply i_ex2 | apply i_exr | apply i_disp | apply i_pcons | apply i_pnil | apply i_neN | apply i_eqN | apply i_neB | apply i_eqB | apply i_lc | apply i_dnI | apply i_nyI | apply i_dnR | apply i_nyR | (apply i_lenA; (solve | walk_at "h"); (solve | first | exact .lst | exact .tup | exact .dK)) | (apply i_isL; (solve | walk_at "h")) | (apply i_isiLL; (solve | walk_at "h")) | (apply i_isiTL; (solve | walk_at "h")) | (apply i_gtup; (solve | walk_at "h"); (solve | with_unfolding_all rfl)) | (apply i_fldSO; (solve | assumption); (solve | walk_at "u"); (solve | walk_at "f"); (solve | assumption); (solve | assumption); (solve | simp); intro H O) | (apply i_lstO; (solve | assumption); (exact (sz (by (try simp) <;> omega))); intro p H O) | (apply i_makeO; (solve | assumption); intro x dx H O) | (apply i_methO; (solve | walk_at "h"); (solve | walk_at "k")) | (apply i_newO; (solve | assumption); intro p H O) | (apply i_listN; (solve | walk_at "h")) | (apply i_listTN; (solve | walk_at "h")) | (apply i_addN; (solve | walk_at "h"); (solve | walk_at "h"); (exact (sz (by (try simp) <;> omega)))) | apply i_mkd | apply i_gfld | (apply i_glst; (solve | walk_at "h"); (solve | with_unfolding_all rfl)) | apply i_isB | apply i_notB | (apply i_inO; (solve | walk_at "h"); (solve | with_unfolding_all rfl); (solve | with_unfolding_all rfl)) | (apply i_dgetI; (solve | walk_at "h"); (solve | assumption)) | (apply i_in; (solve | with_unfolding_all rfl); (solve | walk_at "e")) | (apply i_setO; (solve | assumption); (solve | walk_at "u"); (solve | with_unfolding_all rfl); intro H O) | (apply i_appO; (solve | assumption); (solve | walk_at "u"); (exact (szl (by (try simp) <;> omega))); intro H O) | (apply i_drawO; (solve | assumption); (exact rfl); (solve | decide); (solve | decide); intro r H h0 h1 O))
local macro_rules | `(tactic| walk_at "s") => `(tactic| repeat (walk_at "s1"))
structure Ad where
  K : PySem.W.Frag
  w : World
  c_PlanError : Addr
  c_PlacedError : Addr
  i_PlanError : Addr
structure CF (A : Ad) : Prop where
  ec : EC A.K A.c_PlanError A.c_PlacedError A.i_PlanError "reason"
abbrev Lk := List (Int × Int)
def adj (ps : Lk) (u v : Nat) : Prop := ((u : Int), (v : Int)) ∈ ps ∨ ((v : Int), (u : Int)) ∈ ps
instance (ps : Lk) (u v : Nat) : Decidable (adj ps u v) := by
  unfold adj
  infer_instance
theorem adj_symm {ps : Lk} {u v : Nat} (h : adj ps u v) : adj ps v u := h.elim .inr .inl
def Val (n : Nat) (ps : Lk) : Prop := ∀ p ∈ ps, 0 ≤ p.1 ∧ p.1 < p.2 ∧ p.2 < (n : Int)
theorem Val.lt {n : Nat} {ps : Lk} {u v : Nat} (V : Val n ps) (h : adj ps u v) : u < n ∧ v < n := by
  rcases h with h | h
  · have := V _ h
    simp only at this
    omega
  · have := V _ h
    simp only at this
    omega
theorem Val.nat {n : Nat} {ps : Lk} {j : Int × Int} (V : Val n ps) (h : j ∈ ps) : ∃ a b : Nat, j = ((a : Int), (b : Int)) ∧ a < b ∧ b < n ∧ adj ps a b := by
  have := V _ h
  obtain ⟨x, y⟩ := j
  simp only at this
  have ex : ((x.toNat : Nat) : Int) = x := by omega
  have ey : ((y.toNat : Nat) : Int) = y := by omega
  exact ⟨x.toNat, y.toNat, by rw [ex, ey], by omega, by omega, .inl (by rw [ex, ey]; exact h)⟩
def Wk (ps : Lk) (g : Nat) : Nat → Nat → Prop
  | 0, v => v = g
  | m + 1, v => ∃ u, Wk ps g m u ∧ adj ps u v
theorem Wk.lt {n : Nat} {ps : Lk} {g : Nat} (V : Val n ps) (hg : g < n) : ∀ {m v : Nat}, Wk ps g m v → v < n
  | 0, _, h => by rw [show _ = g from h]; exact hg
  | _ + 1, _, ⟨_, _, k⟩ => (V.lt k).2
theorem Wk.trans {ps : Lk} {g u : Nat} {m : Nat} (h : Wk ps g m u) : ∀ {k v : Nat}, Wk ps u k v → Wk ps g (m + k) v
  | 0, v, e => by rw [show v = u from e]; exact h
  | k + 1, v, ⟨w, a, b⟩ => ⟨w, Wk.trans h a, b⟩
theorem Wk.symm {ps : Lk} {g : Nat} : ∀ {m v : Nat}, Wk ps g m v → Wk ps v m g
  | 0, v, e => (show v = g from e).symm
  | m + 1, v, ⟨u, a, b⟩ => by
    have h1 : Wk ps v 1 u := ⟨v, rfl, adj_symm b⟩
    have := h1.trans (Wk.symm a)
    rw [Nat.add_comm] at this
    exact this
/-- d is the least length of a walk to v -/
def Lst (ps : Lk) (g d v : Nat) : Prop := Wk ps g d v ∧ ∀ m, Wk ps g m v → d ≤ m
theorem Lst.ex {ps : Lk} {g : Nat} : ∀ {m v : Nat}, Wk ps g m v → ∃ d, d ≤ m ∧ Lst ps g d v := by
  intro m
  induction m using Nat.strongRecOn with
  | _ m ih =>
    intro v h
    by_cases k : ∃ m', m' < m ∧ Wk ps g m' v
    · obtain ⟨m', l, w⟩ := k
      obtain ⟨d, h1, h2⟩ := ih m' l w
      exact ⟨d, by omega, h2⟩
    · refine ⟨m, Nat.le_refl _, h, fun m' w => ?_⟩
      rcases Nat.lt_or_ge m' m with q | q
      · exact absurd ⟨m', q, w⟩ k
      · exact q
theorem nodup_le : ∀ (n : Nat) (us : List Nat), us.Nodup → (∀ u ∈ us, u < n) → us.length ≤ n
  | 0, us, _, h => by
    cases us with
    | nil => exact Nat.le_refl _
    | cons x r => exact absurd (h x List.mem_cons_self) (by omega)
  | n + 1, us, nd, h => by
    by_cases hn : n ∈ us
    · have h1 := nodup_le n (us.erase n) (nd.erase _) fun u hu => by
        have h2 := (List.Nodup.mem_erase_iff nd).mp hu
        have := h u h2.2
        have := h2.1
        omega
      rw [List.length_erase_of_mem hn] at h1
      omega
    · have h1 := nodup_le n us nd fun u hu => by
        have := h u hu
        have : u ≠ n := fun e => hn (e ▸ hu)
        omega
      omega
theorem Lst.row {n : Nat} {ps : Lk} {g : Nat} (V : Val n ps) (hg : g < n) : ∀ {d v : Nat}, Lst ps g d v → ∃ us : List Nat, us.length = d + 1 ∧ us.Nodup ∧ ∀ u ∈ us, u < n ∧ ∃ j, j ≤ d ∧ Lst ps g j u
  | 0, v, h => ⟨[v], rfl, List.nodup_cons.mpr ⟨by simp, List.nodup_nil⟩, fun u hu => by
    rw [List.mem_singleton.mp hu]
    exact ⟨Wk.lt V hg h.1, 0, Nat.le_refl _, h⟩⟩
  | d + 1, v, h => by
    obtain ⟨u, a, b⟩ := h.1
    have hu : Lst ps g d u := ⟨a, fun m w => by
      have := h.2 (m + 1) ⟨u, w, b⟩
      omega⟩
    obtain ⟨us, h1, h2, h3⟩ := Lst.row V hg hu
    refine ⟨v :: us, by simp [h1], List.nodup_cons.mpr ⟨fun hv => ?_, h2⟩, fun x hx => ?_⟩
    · obtain ⟨_, j, hj, k⟩ := h3 v hv
      have := h.2 j k.1
      omega
    · rcases List.mem_cons.mp hx with e | e
      · rw [e]
        exact ⟨Wk.lt V hg h.1, d + 1, Nat.le_refl _, h⟩
      · obtain ⟨z, j, hj, k⟩ := h3 x e
        exact ⟨z, j, by omega, k⟩
theorem Lst.lt {n : Nat} {ps : Lk} {g : Nat} (V : Val n ps) (hg : g < n) {d v : Nat} (h : Lst ps g d v) : d < n := by
  obtain ⟨us, h1, h2, h3⟩ := Lst.row V hg h
  have := nodup_le n us h2 fun u hu => (h3 u hu).1
  omega
def Far (n : Nat) (ps : Lk) (g : Nat) (f : Nat → Int) : Prop := ∀ v, v < n → (∃ d : Nat, f v = d ∧ Lst ps g d v) ∨ (f v = -1 ∧ ∀ m, ¬ Wk ps g m v)
theorem Far.uniq {n : Nat} {ps : Lk} {g : Nat} {f f' : Nat → Int} (h : Far n ps g f) (h' : Far n ps g f') : ∀ v, v < n → f v = f' v := fun v hv => by
  rcases h v hv with ⟨d, e, l⟩ | ⟨e, l⟩ <;> rcases h' v hv with ⟨d', e', l'⟩ | ⟨e', l'⟩
  · have := l.2 _ l'.1
    have := l'.2 _ l.1
    omega
  · exact absurd l.1 (l' _)
  · exact absurd l'.1 (l _)
  · rw [e, e']
/-! neighbours -/
def nbs (n : Nat) (ps : Lk) (at_ : Nat) : List Nat := (List.range n).filter fun k => decide (adj ps at_ k)
theorem mem_nbs {n : Nat} {ps : Lk} {u k : Nat} (V : Val n ps) : k ∈ nbs n ps u ↔ adj ps u k := by
  unfold nbs
  rw [List.mem_filter, List.mem_range, decide_eq_true_eq]
  exact ⟨fun h => h.2, fun h => ⟨(V.lt h).2, h⟩⟩
theorem nbs_sorted (n : Nat) (ps : Lk) (u : Nat) : (nbs n ps u).Pairwise (· < ·) := List.pairwise_lt_range.filter _
theorem nbs_len (n : Nat) (ps : Lk) (u : Nat) : (nbs n ps u).length ≤ n := Nat.le_trans (List.length_filter_le _ _) (by rw [List.length_range]; exact Nat.le_refl _)
theorem sorted_ext : ∀ {xs ys : List Int}, xs.Pairwise (· < ·) → ys.Pairwise (· < ·) → (∀ j, j ∈ xs ↔ j ∈ ys) → xs = ys
  | [], [], _, _, _ => rfl
  | [], y :: r, _, _, h => absurd ((h y).mpr List.mem_cons_self) (by simp)
  | x :: r, [], _, _, h => absurd ((h x).mp List.mem_cons_self) (by simp)
  | x :: r, y :: t, hx, hy, h => by
    have hx' := List.pairwise_cons.mp hx
    have hy' := List.pairwise_cons.mp hy
    have e : x = y := by
      rcases List.mem_cons.mp ((h x).mp List.mem_cons_self) with e | e
      · exact e
      · rcases List.mem_cons.mp ((h y).mpr List.mem_cons_self) with e2 | e2
        · exact e2.symm
        · have := hy'.1 x e
          have := hx'.1 y e2
          omega
    subst e
    rw [sorted_ext hx'.2 hy'.2 fun j => ?_]
    constructor
    · intro hj
      rcases List.mem_cons.mp ((h j).mp (List.mem_cons_of_mem _ hj)) with e | e
      · have := hx'.1 j hj
        omega
      · exact e
    · intro hj
      rcases List.mem_cons.mp ((h j).mpr (List.mem_cons_of_mem _ hj)) with e | e
      · have := hy'.1 j hj
        omega
      · exact e
def fnd (ps : Lk) (u : Nat) : List Int := ((ps.filter fun j => decide (j.1 = (u : Int))).map (·.2)) ++ ((ps.filter fun j => decide (j.2 = (u : Int))).map (·.1))
theorem mem_fnd {n : Nat} {ps : Lk} {u : Nat} {x : Int} (V : Val n ps) : x ∈ fnd ps u ↔ ∃ k : Nat, x = k ∧ adj ps u k := by
  unfold fnd
  rw [List.mem_append, List.mem_map, List.mem_map]
  constructor
  · rintro (⟨j, hj, rfl⟩ | ⟨j, hj, rfl⟩)
    · obtain ⟨h1, h2⟩ := List.mem_filter.mp hj
      obtain ⟨a, b, rfl, _, _, h⟩ := V.nat h1
      have e : (a : Int) = (u : Int) := of_decide_eq_true h2
      have e : a = u := by omega
      exact ⟨b, rfl, e ▸ h⟩
    · obtain ⟨h1, h2⟩ := List.mem_filter.mp hj
      obtain ⟨a, b, rfl, _, _, h⟩ := V.nat h1
      have e : (b : Int) = (u : Int) := of_decide_eq_true h2
      have e : b = u := by omega
      exact ⟨a, rfl, e ▸ adj_symm h⟩
  · rintro ⟨k, rfl, h | h⟩
    · exact .inl ⟨_, List.mem_filter.mpr ⟨h, decide_eq_true rfl⟩, rfl⟩
    · exact .inr ⟨_, List.mem_filter.mpr ⟨h, decide_eq_true rfl⟩, rfl⟩
theorem fnd_len (ps : Lk) (u : Nat) : (fnd ps u).length ≤ 2 * ps.length := by
  unfold fnd
  rw [List.length_append, List.length_map, List.length_map]
  have h1 := List.length_filter_le (fun j : Int × Int => decide (j.1 = (u : Int))) ps
  have h2 := List.length_filter_le (fun j : Int × Int => decide (j.2 = (u : Int))) ps
  omega
def nInts (l : List Nat) : List Int := l.map fun (k : Nat) => (k : Int)
theorem sorted_nbs {n : Nat} {ps : Lk} {u : Nat} (V : Val n ps) {ns : List Int} (h : ns.Pairwise (· < ·)) (k : ∀ j, j ∈ ns ↔ j ∈ fnd ps u) : ns = nInts (nbs n ps u) := by
  refine sorted_ext h ?_ fun j => ?_
  · unfold nInts
    rw [List.pairwise_map]
    exact (nbs_sorted n ps u).imp fun h => by omega
  · rw [k, mem_fnd V]
    unfold nInts
    rw [List.mem_map]
    constructor
    · rintro ⟨x, rfl, h⟩
      exact ⟨x, (mem_nbs V).mpr h, rfl⟩
    · rintro ⟨x, h, rfl⟩
      exact ⟨x, rfl, (mem_nbs V).mp h⟩
/-! rows of nInts by a function -/
def fl (n : Nat) (f : Nat → Int) : List V := (List.range n).map fun v => V.int (f v)
theorem fl_len {n : Nat} {f : Nat → Int} : (fl n f).length = n := by unfold fl; rw [List.length_map, List.length_range]
theorem fl_get {n : Nat} {f : Nat → Int} {v : Nat} (h : v < n) : (fl n f)[v]? = some (.int (f v)) := by
  unfold fl
  rw [List.getElem?_map, List.getElem?_range h]
  rfl
theorem fl_at {n : Nat} {f : Nat → Int} {v : Nat} (h : v < n) : atI (fl n f) (v : Nat) = some (.int (f v)) := atI_nat (fl_get h)
def put (f : Nat → Int) (a : Nat) (z : Int) : Nat → Int := fun v => if v = a then z else f v
theorem fl_set {n : Nat} {f : Nat → Int} {a : Nat} {z : Int} (h : a < n) : (fl n f).set a (.int z) = fl n (put f a z) := by
  apply List.ext_getElem?
  intro i
  rcases Nat.lt_or_ge i n with q | q
  · rw [fl_get q]
    by_cases e : i = a
    · subst e
      rw [List.getElem?_set_self (by rw [fl_len]; exact h)]
      simp [put]
    · rw [List.getElem?_set_ne (fun k => e k.symm), fl_get q]
      simp [put, e]
  · rw [List.getElem?_eq_none (by rw [List.length_set, fl_len]; exact q), List.getElem?_eq_none (by rw [fl_len]; exact q)]
theorem fl_congr {n : Nat} {f g : Nat → Int} (h : ∀ v, v < n → f v = g v) : fl n f = fl n g := by
  unfold fl
  exact List.map_congr_left fun v hv => by rw [h v (List.mem_range.mp hv)]
theorem fl_ints {n : Nat} {f : Nat → Int} : fl n f = ((List.range n).map f).map V.int := by
  unfold fl
  rw [List.map_map]
  rfl
theorem fl_const {n : Nat} {z : Int} : List.replicate n (V.int z) = fl n fun _ => z := by
  unfold fl
  rw [List.map_const', List.length_range]
theorem ix_nat {n v : Nat} {xs : List V} (h : v < n) (hl : xs.length = n) : ixN xs.length (v : Nat) = some v := by
  rw [hl]
  have h1 : (0 : Int) ≤ (v : Nat) ∧ ((v : Nat) : Int) < n := by omega
  simp [ixN, h1]
/-! breadth first -/
structure Bfs (n : Nat) (ps : Lk) (g : Nat) (f : Nat → Int) (row : List Nat) (k : Nat) : Prop where
  mem : ∀ v ∈ row, v < n
  nd : row.Nodup
  iff : ∀ v, v < n → (v ∈ row ↔ 0 ≤ f v)
  neg : ∀ v, v < n → v ∉ row → f v = -1
  wk : ∀ v ∈ row, ∃ d : Nat, f v = d ∧ Wk ps g d v
  g0 : g ∈ row ∧ f g = 0
  mono : row.Pairwise fun x y => f x ≤ f y
  span : ∀ j x, k ≤ j → row[j]? = some x → ∀ y ∈ row, f y ≤ f x + 1
  done : ∀ j x, j < k → row[j]? = some x → ∀ u, adj ps x u → 0 ≤ f u ∧ f u ≤ f x + 1
theorem Bfs.start {n : Nat} {ps : Lk} {g : Nat} (hg : g < n) : Bfs n ps g (put (fun _ => -1) g 0) [g] 0 where
  mem := fun v hv => by rw [List.mem_singleton.mp hv]; exact hg
  nd := List.nodup_cons.mpr ⟨by simp, List.nodup_nil⟩
  iff := fun v _ => by
    unfold put
    by_cases e : v = g <;> simp [e]
  neg := fun v _ h => by
    unfold put
    rw [if_neg (fun e => h (by rw [e]; exact List.mem_singleton_self _))]
  wk := fun v hv => by
    have e := List.mem_singleton.mp hv
    subst e
    exact ⟨0, by simp [put], rfl⟩
  g0 := ⟨List.mem_singleton_self _, by simp [put]⟩
  mono := List.pairwise_singleton _ _
  span := fun j x _ hj y hy => by
    have h1 := List.mem_singleton.mp (List.mem_of_getElem? hj)
    have h2 := List.mem_singleton.mp hy
    subst h1 h2
    omega
  done := fun j x h => by omega
theorem Bfs.len {n : Nat} {ps : Lk} {g k : Nat} {f : Nat → Int} {row : List Nat} (S : Bfs n ps g f row k) : row.length ≤ n := nodup_le n row S.nd S.mem
/-- a neighbour that is new -/
theorem Bfs.add {n : Nat} {ps : Lk} {g k : Nat} {f : Nat → Int} {row : List Nat} (S : Bfs n ps g f row k) {u o : Nat} (hu : row[k]? = some u) (ho : o < n) (a : adj ps u o) (h : f o < 0) : Bfs n ps g (put f o (f u + 1)) (row ++ [o]) k := by
  have no : o ∉ row := fun z => by
    have := (S.iff o ho).mp z
    omega
  have um : u ∈ row := List.mem_of_getElem? hu
  have u0 := (S.iff u (S.mem u um)).mp um
  have pr : ∀ v ∈ row, put f o (f u + 1) v = f v := fun v hv => by
    unfold put
    rw [if_neg (fun e : v = o => no (by rw [← e]; exact hv))]
  have po : put f o (f u + 1) o = f u + 1 := by simp [put]
  have kl : k < row.length := (List.getElem?_eq_some_iff.mp hu).1
  refine ⟨fun v hv => ?_, ?_, fun v hv => ?_, fun v hv nv => ?_, fun v hv => ?_, ⟨?_, ?_⟩, ?_, fun j x hj hx y hy => ?_, fun j x hj hx w aw => ?_⟩
  · rcases List.mem_append.mp hv with q | q
    · exact S.mem v q
    · rw [List.mem_singleton.mp q]; exact ho
  · rw [List.nodup_append]
    exact ⟨S.nd, List.nodup_cons.mpr ⟨by simp, List.nodup_nil⟩, fun x hx y hy => fun e => no (by rw [← List.mem_singleton.mp hy, ← e]; exact hx)⟩
  · rw [List.mem_append, List.mem_singleton]
    by_cases e : v = o
    · subst e
      rw [po]
      exact ⟨fun _ => by omega, fun _ => .inr rfl⟩
    · unfold put
      rw [if_neg e, ← S.iff v hv]
      exact ⟨fun z => z.resolve_right e, .inl⟩
  · have n1 : v ∉ row := fun z => nv (List.mem_append.mpr (.inl z))
    have n2 : v ≠ o := fun e => nv (List.mem_append.mpr (.inr (List.mem_singleton.mpr e)))
    unfold put
    rw [if_neg n2]
    exact S.neg v hv n1
  · rcases List.mem_append.mp hv with q | q
    · rw [pr v q]
      exact S.wk v q
    · have e := List.mem_singleton.mp q
      subst e
      obtain ⟨d, e, w⟩ := S.wk u um
      exact ⟨d + 1, by rw [po, e]; omega, u, w, a⟩
  · exact List.mem_append.mpr (.inl S.g0.1)
  · rw [pr _ S.g0.1]
    exact S.g0.2
  · rw [List.pairwise_append]
    refine ⟨S.mono.imp_of_mem fun hx hy h => by rw [pr _ hx, pr _ hy]; exact h, List.pairwise_singleton _ _, fun x hx y hy => ?_⟩
    rw [List.mem_singleton.mp hy, po, pr x hx]
    exact S.span k u (Nat.le_refl _) hu x hx
  · have ux : f u ≤ put f o (f u + 1) x := by
      rcases Nat.lt_or_ge j row.length with q | q
      · rw [List.getElem?_append_left q] at hx
        rw [pr x (List.mem_of_getElem? hx)]
        rcases Nat.eq_or_lt_of_le hj with e | e
        · subst e
          rw [hu] at hx
          cases hx
          exact Int.le_refl _
        · have := List.pairwise_iff_getElem.mp S.mono k j kl q e
          rw [List.getElem?_eq_getElem kl] at hu
          rw [List.getElem?_eq_getElem q] at hx
          cases hu
          cases hx
          exact this
      · have := List.mem_of_getElem? hx
        rcases List.mem_append.mp this with z | z
        · rw [List.getElem?_append_right q] at hx
          have := List.mem_singleton.mp (List.mem_of_getElem? hx)
          rw [this, po]
          omega
        · rw [List.mem_singleton.mp z, po]
          omega
    rcases List.mem_append.mp hy with z | z
    · rw [pr y z]
      have := S.span k u (Nat.le_refl _) hu y z
      omega
    · rw [List.mem_singleton.mp z, po]
      omega
  · rw [List.getElem?_append_left (by omega)] at hx
    have xm := List.mem_of_getElem? hx
    have h9 := S.done j x hj hx w aw
    rw [pr x xm]
    by_cases e : w = o
    · subst e
      omega
    · have : put f o (f u + 1) w = f w := by
        unfold put
        rw [if_neg e]
      rw [this]
      exact h9
/-- one is done -/
theorem Bfs.next {n : Nat} {ps : Lk} {g k : Nat} {f : Nat → Int} {row : List Nat} (S : Bfs n ps g f row k) {u : Nat} (hu : row[k]? = some u) (h : ∀ w, adj ps u w → 0 ≤ f w ∧ f w ≤ f u + 1) : Bfs n ps g f row (k + 1) :=
  { S with
    span := fun j x hj hx y hy => S.span j x (by omega) hx y hy
    done := fun j x hj hx w aw => by
      rcases Nat.lt_or_ge j k with q | q
      · exact S.done j x q hx w aw
      · have e : j = k := by omega
        subst e
        rw [hu] at hx
        cases hx
        exact h w aw }
theorem Bfs.far {n : Nat} {ps : Lk} {g k : Nat} {f : Nat → Int} {row : List Nat} (S : Bfs n ps g f row k) (V : Val n ps) (hk : row.length ≤ k) : Far n ps g f := by
  have all : ∀ x ∈ row, ∀ u, adj ps x u → 0 ≤ f u ∧ f u ≤ f x + 1 := fun x hx u a => by
    obtain ⟨j, hj⟩ := List.mem_iff_getElem?.mp hx
    have := (List.getElem?_eq_some_iff.mp hj).1
    exact S.done j x (by omega) hj u a
  have reach : ∀ m v, Wk ps g m v → v ∈ row ∧ f v ≤ m := by
    intro m
    induction m with
    | zero =>
      intro v e
      rw [show v = g from e]
      exact ⟨S.g0.1, by rw [S.g0.2]; exact Int.le_refl _⟩
    | succ m ih =>
      rintro v ⟨u, w, a⟩
      obtain ⟨h1, h2⟩ := ih u w
      have h3 := all u h1 v a
      exact ⟨(S.iff v (V.lt a).2).mpr h3.1, by omega⟩
  intro v hv
  by_cases h : v ∈ row
  · obtain ⟨d, e, w⟩ := S.wk v h
    exact .inl ⟨d, e, w, fun m z => by
      have := (reach m v z).2
      omega⟩
  · exact .inr ⟨S.neg v hv h, fun m z => h (reach m v z).1⟩
/-! relaxing -/
def mn (i j : Int) : Int := if j < i then j else i
theorem mn_le {i j : Int} : mn i j ≤ i ∧ mn i j ≤ j ∧ (mn i j = i ∨ mn i j = j) := by
  unfold mn
  split <;> omega
def rlx (f : Nat → Int) (a b : Nat) : Nat → Int := put (put f a (mn (f a) (f b + 1))) b (mn (put f a (mn (f a) (f b + 1)) b) (put f a (mn (f a) (f b + 1)) a + 1))
def Snd (n : Nat) (ps : Lk) (g : Nat) (f : Nat → Int) : Prop := ∀ v, v < n → 0 ≤ f v ∧ f v ≤ 99 ∧ (f v = 99 ∨ ∃ d : Nat, f v = d ∧ Wk ps g d v)
theorem Snd.put {n : Nat} {ps : Lk} {g : Nat} {f : Nat → Int} (S : Snd n ps g f) {a b : Nat} (ha : a < n) (hb : b < n) (h : adj ps b a) : Snd n ps g (K40.put f a (mn (f a) (f b + 1))) := fun v hv => by
  unfold K40.put
  by_cases e : v = a
  · rw [if_pos e]
    subst e
    obtain ⟨a1, a2, a3⟩ := S v hv
    obtain ⟨b1, b2, b3⟩ := S b hb
    obtain ⟨m1, m2, m3⟩ := mn_le (i := f v) (j := f b + 1)
    refine ⟨by omega, by omega, ?_⟩
    rcases m3 with m3 | m3
    · rw [m3]
      exact a3
    · rcases b3 with b3 | ⟨d, b3, w⟩
      · left
        omega
      · right
        exact ⟨d + 1, by omega, b, w, h⟩
  · rw [if_neg e]
    exact S v hv
theorem rlx_le {f : Nat → Int} {a b : Nat} (h : a ≠ b) : (∀ v, rlx f a b v ≤ f v) ∧ rlx f a b a ≤ f b + 1 ∧ rlx f a b b ≤ f a + 1 := by
  have h' : ¬ b = a := fun e => h e.symm
  have m1 := mn_le (i := f a) (j := f b + 1)
  have m2 := mn_le (i := f b) (j := mn (f a) (f b + 1) + 1)
  refine ⟨fun v => ?_, ?_, ?_⟩
  · unfold rlx put
    by_cases e1 : v = b
    · simp [e1, h']
      omega
    · by_cases e2 : v = a
      · simp [e2, h]
        omega
      · simp [e1, e2]
  · unfold rlx put
    simp [h]
    omega
  · unfold rlx put
    simp [h']
    omega
/-- a round -/
structure Rnd (n : Nat) (ps : Lk) (g : Nat) (f0 f : Nat → Int) (i : Nat) : Prop where
  snd : Snd n ps g f
  le : ∀ v, f v ≤ f0 v
  at_ : ∀ j (a b : Nat), j < i → ps[j]? = some ((a : Int), (b : Int)) → f a ≤ f0 b + 1 ∧ f b ≤ f0 a + 1
theorem Rnd.step {n : Nat} {ps : Lk} {g i : Nat} {f0 f : Nat → Int} (R : Rnd n ps g f0 f i) (V : Val n ps) {a b : Nat} (h : ps[i]? = some ((a : Int), (b : Int))) : Rnd n ps g f0 (rlx f a b) (i + 1) := by
  have hm := List.mem_of_getElem? h
  have hv := V _ hm
  simp only at hv
  have ad : adj ps a b := .inl hm
  have ne : a ≠ b := by omega
  obtain ⟨l1, l2, l3⟩ := rlx_le (f := f) ne
  refine ⟨(R.snd.put (by omega) (by omega) (adj_symm ad)).put (by omega) (by omega) ad, fun v => Int.le_trans (l1 v) (R.le v), fun j x y hj hx => ?_⟩
  rcases Nat.lt_or_ge j i with q | q
  · have := R.at_ j x y q hx
    have := l1 x
    have := l1 y
    omega
  · have e : j = i := by omega
    subst e
    rw [h] at hx
    have e := Option.some.inj hx
    injection e with e1 e2
    have e1 : a = x := by omega
    have e2 : b = y := by omega
    subst e1 e2
    have := R.le a
    have := R.le b
    omega
structure Rel (n : Nat) (ps : Lk) (g : Nat) (f : Nat → Int) (r : Nat) : Prop where
  snd : Snd n ps g f
  low : ∀ m v, m ≤ r → Wk ps g m v → f v ≤ m
theorem Rel.start {n : Nat} {ps : Lk} {g : Nat} : Rel n ps g (fun v => if v = g then 0 else 99) 0 where
  snd := fun v _ => by
    by_cases e : v = g
    · simp only [e, if_true]
      exact ⟨by omega, by omega, .inr ⟨0, rfl, rfl⟩⟩
    · simp only [e, if_false]
      exact ⟨by omega, by omega, .inl trivial⟩
  low := fun m v hm h => by
    have e : m = 0 := by omega
    subst e
    rw [show v = g from h]
    simp
theorem Rel.next {n : Nat} {ps : Lk} {g r : Nat} {f0 f : Nat → Int} (S : Rel n ps g f0 r) (V : Val n ps) (R : Rnd n ps g f0 f ps.length) : Rel n ps g f (r + 1) := by
  refine ⟨R.snd, fun m v hm h => ?_⟩
  rcases Nat.lt_or_ge r m with q | q
  · obtain ⟨m, rfl⟩ : ∃ k, m = k + 1 := ⟨m - 1, by omega⟩
    obtain ⟨u, w, a⟩ := h
    have h1 := S.low m u (by omega) w
    rcases a with a | a
    · obtain ⟨j, hj⟩ := List.mem_iff_getElem?.mp a
      have := R.at_ j u v (List.getElem?_eq_some_iff.mp hj).1 hj
      omega
    · obtain ⟨j, hj⟩ := List.mem_iff_getElem?.mp a
      have := R.at_ j v u (List.getElem?_eq_some_iff.mp hj).1 hj
      omega
  · exact Int.le_trans (R.le v) (S.low m v q h)
theorem Rel.far {n : Nat} {ps : Lk} {g : Nat} {f : Nat → Int} (S : Rel n ps g f n) (V : Val n ps) (hg : g < n) (hn : n ≤ 6) : Far n ps g fun v => if 99 ≤ f v then -1 else f v := fun v hv => by
  have low : ∀ m, Wk ps g m v → f v ≤ m ∧ f v < 6 := fun m w => by
    obtain ⟨d, hd, l⟩ := Lst.ex w
    have := l.lt V hg
    have := S.low d v (by omega) l.1
    omega
  by_cases h : 99 ≤ f v
  · refine .inr ⟨if_pos h, fun m w => ?_⟩
    have := low m w
    omega
  · rcases (S.snd v hv).2.2 with e | ⟨d, e, w⟩
    · omega
    · refine .inl ⟨d, (if_neg h).trans e, w, fun m z => ?_⟩
      have := low m z
      omega
/-! hops -/
def hop (n : Nat) (ps : Lk) (f : Nat → Int) (i g : Nat) : Nat := if i = g then i else ((nbs n ps i).find? fun o => decide (f o = f i - 1)).getD i
def pick (c : Nat → Bool) (acc : Nat) (o : Nat) : Nat := if c o = true then o else acc
theorem pick_find (c : Nat → Bool) (z : Nat) : ∀ l : List Nat, l.reverse.foldl (pick c) z = (l.find? c).getD z
  | [] => rfl
  | x :: r => by
    rw [List.reverse_cons, List.foldl_append, pick_find c z r, List.find?_cons]
    show pick c _ x = _
    unfold pick
    cases c x <;> rfl
def Conn (n : Nat) (ps : Lk) : Prop := ∀ v, v < n → ∃ m, Wk ps 0 m v
theorem Conn.all {n : Nat} {ps : Lk} (C : Conn n ps) {g v : Nat} (hg : g < n) (hv : v < n) : ∃ m, Wk ps g m v := by
  obtain ⟨m, h⟩ := C g hg
  obtain ⟨k, h2⟩ := C v hv
  exact ⟨_, h.symm.trans h2⟩
theorem Conn.far {n : Nat} {ps : Lk} (C : Conn n ps) {g : Nat} {f : Nat → Int} (F : Far n ps g f) (hg : g < n) {v : Nat} (hv : v < n) : ∃ d : Nat, f v = d ∧ Lst ps g d v := by
  rcases F v hv with h | ⟨_, h⟩
  · exact h
  · obtain ⟨m, w⟩ := C.all hg hv
    exact absurd w (h m)
/-- nearer neighbours -/
theorem near_iff {n : Nat} {ps : Lk} {g : Nat} {f : Nat → Int} (V : Val n ps) (C : Conn n ps) (F : Far n ps g f) (hg : g < n) {u o : Nat} (a : adj ps u o) : f o < f u ↔ f o = f u - 1 := by
  obtain ⟨d, e, l⟩ := C.far F hg (V.lt a).1
  obtain ⟨d', e', l'⟩ := C.far F hg (V.lt a).2
  have := l.2 (d' + 1) ⟨o, l'.1, adj_symm a⟩
  omega
theorem near_ex {n : Nat} {ps : Lk} {g : Nat} {f : Nat → Int} (V : Val n ps) (C : Conn n ps) (F : Far n ps g f) (hg : g < n) {u : Nat} (hu : u < n) (ne : u ≠ g) : ∃ o, adj ps u o ∧ f o < f u := by
  obtain ⟨d, e, l⟩ := C.far F hg hu
  cases d with
  | zero => exact absurd (show u = g from l.1) ne
  | succ d =>
    obtain ⟨o, w, a⟩ := l.1
    obtain ⟨d', e', l'⟩ := C.far F hg (V.lt a).1
    have := l'.2 d w
    exact ⟨o, adj_symm a, by omega⟩
def nearL (ps : Lk) (f : Nat → Int) (u : Nat) : List Int := ((ps.filter fun j => decide (j.1 = (u : Int)) && decide (f j.2.toNat < f u)).map (·.2)) ++ ((ps.filter fun j => decide (j.2 = (u : Int)) && decide (f j.1.toNat < f u)).map (·.1))
theorem mem_near {n : Nat} {ps : Lk} {f : Nat → Int} {u : Nat} {x : Int} (V : Val n ps) : x ∈ nearL ps f u ↔ ∃ k : Nat, x = k ∧ adj ps u k ∧ f k < f u := by
  unfold nearL
  rw [List.mem_append, List.mem_map, List.mem_map]
  constructor
  · rintro (⟨j, hj, rfl⟩ | ⟨j, hj, rfl⟩)
    · obtain ⟨h1, h2⟩ := List.mem_filter.mp hj
      obtain ⟨a, b, rfl, _, _, h⟩ := V.nat h1
      simp only [Bool.and_eq_true, decide_eq_true_eq, Int.toNat_natCast] at h2
      have e : a = u := by omega
      exact ⟨b, rfl, e ▸ h, h2.2⟩
    · obtain ⟨h1, h2⟩ := List.mem_filter.mp hj
      obtain ⟨a, b, rfl, _, _, h⟩ := V.nat h1
      simp only [Bool.and_eq_true, decide_eq_true_eq, Int.toNat_natCast] at h2
      have e : b = u := by omega
      exact ⟨a, rfl, e ▸ adj_symm h, h2.2⟩
  · rintro ⟨k, rfl, h | h, l⟩
    · exact .inl ⟨_, List.mem_filter.mpr ⟨h, by simp only [Bool.and_eq_true, decide_eq_true_eq, Int.toNat_natCast]; exact ⟨trivial, l⟩⟩, rfl⟩
    · exact .inr ⟨_, List.mem_filter.mpr ⟨h, by simp only [Bool.and_eq_true, decide_eq_true_eq, Int.toNat_natCast]; exact ⟨trivial, l⟩⟩, rfl⟩
theorem near_ne {n : Nat} {ps : Lk} {g : Nat} {f : Nat → Int} (V : Val n ps) (C : Conn n ps) (F : Far n ps g f) (hg : g < n) {u : Nat} (hu : u < n) (ne : u ≠ g) : 0 < (nearL ps f u).length := by
  obtain ⟨o, a, l⟩ := near_ex V C F hg hu ne
  exact List.length_pos_of_mem ((mem_near V).mpr ⟨o, rfl, a, l⟩)
theorem hop_near {n : Nat} {ps : Lk} {g : Nat} {f : Nat → Int} (V : Val n ps) (C : Conn n ps) (F : Far n ps g f) (hg : g < n) {u : Nat} (hu : u < n) (ne : u ≠ g) {m : Int} (hm : m ∈ nearL ps f u) (lo : ∀ y, y ∈ nearL ps f u → m ≤ y) : ((hop n ps f u g : Nat) : Int) = m := by
  obtain ⟨k, rfl, a, l⟩ := (mem_near V).mp hm
  unfold hop
  rw [if_neg ne]
  cases e : (nbs n ps u).find? fun o => decide (f o = f u - 1) with
  | none =>
    have := List.find?_eq_none.mp e k ((mem_nbs V).mpr a)
    rw [decide_eq_true_eq] at this
    exact absurd ((near_iff V C F hg a).mp l) this
  | some x =>
    obtain ⟨h1, as, bs, h2, h3⟩ := List.find?_eq_some_iff_append.mp e
    rw [decide_eq_true_eq] at h1
    have xa : adj ps u x := (mem_nbs V).mp (by rw [h2]; simp)
    have h4 := lo x ((mem_near V).mpr ⟨x, rfl, xa, (near_iff V C F hg xa).mpr h1⟩)
    have h5 : k ∈ nbs n ps u := (mem_nbs V).mpr a
    have srt := nbs_sorted n ps u
    rw [h2] at h5 srt
    show (x : Int) = k
    rcases List.mem_append.mp h5 with z | z
    · have := h3 k z
      rw [(near_iff V C F hg a).mp l] at this
      simp at this
    · rcases List.mem_cons.mp z with z | z
      · rw [z]
      · have := (List.pairwise_cons.mp (List.pairwise_append.mp srt).2.1).1 k z
        omega
/-! faults -/
def Bad (n : Int) (ps : Lk) (k : Nat) : Prop := ∃ j, ps[k]? = some j ∧ (j.1 < 0 ∨ n ≤ j.2 ∨ j.2 ≤ j.1 ∨ j ∈ ps.take k)
inductive Due (n : Int) (ps : Lk) : Str → Prop
  | procs (h : n < 1 ∨ 6 < n) : Due n ps "processors"
  | links (h : 1 ≤ n ∧ n ≤ 6) (k : Nat) (b : Bad n ps k) : Due n ps "links"
  | parts (h : 1 ≤ n ∧ n ≤ 6) (b : ∀ k, ¬ Bad n ps k) (c : ¬ Conn n.toNat ps) : Due n ps "parts"
  | ok (h : 1 ≤ n ∧ n ≤ 6) (b : ∀ k, ¬ Bad n ps k) (c : Conn n.toNat ps) : Due n ps ""
theorem Due.uniq {n : Int} {ps : Lk} {r r' : Str} (h : Due n ps r) (h' : Due n ps r') : r = r' := by
  cases h <;> cases h' <;> first | rfl | (exfalso; omega) | (rename_i b _ _ k b' ; first | exact absurd b' (b k) | exact absurd b' (b _)) | skip
  all_goals simp_all
theorem val_of {n : Int} {ps : Lk} (h : 1 ≤ n ∧ n ≤ 6) (b : ∀ k, ¬ Bad n ps k) : Val n.toNat ps := fun j hj => by
  obtain ⟨k, hk⟩ := List.mem_iff_getElem?.mp hj
  have h1 := fun z => b k ⟨j, hk, z⟩
  have h2 : ¬ j.1 < 0 := fun z => h1 (.inl z)
  have h3 : ¬ n ≤ j.2 := fun z => h1 (.inr (.inl z))
  have h4 : ¬ j.2 ≤ j.1 := fun z => h1 (.inr (.inr (.inl z)))
  omega
structure Net (B : Hp) (lp : Addr) (n : Nat) (ps : Lk) : Prop where
  l : ∃ lv, B lp = some (.lst lv) ∧ Paired (PairV B) lv ps
  v : Val n ps
  n6 : n ≤ 6
  z : ps.length ≤ 20
theorem Net.mono {B B' : Hp} {lp : Addr} {n : Nat} {ps : Lk} (N : Net B lp n ps) (s : Same B B') : Net B' lp n ps := by
  obtain ⟨⟨lv, h1, h2⟩, h3, h4, h5⟩ := N
  exact ⟨⟨lv, s _ _ h1, Lb.Paired.mono (fun _ _ h => h.mono s) h2⟩, h3, h4, h5⟩
def FarSp : Sp := fun vs H Q _ => ∃ (a c : Addr) (B : Hp) (ls : List (Addr × HO)) (lp : Addr) (ps : Lk) (n g : Nat), vs = [.int (n : Nat), .ref lp, .int (g : Nat)] ∧ Own a c B H ls ∧ Net B lp n ps ∧ g < n ∧
  ∀ p H' B' f, Same B B' → B' p = some (.lst (fl n f)) → Far n ps g f → Own a c B' H' ls → Q (.ref p) H'
def sp_neighbours (A : Ad) : Sp := fun vs H Q _ => ∃ (a c : Addr) (B : Hp) (ls : List (Addr × HO)) (lp : Addr) (ps : Lk) (n u : Nat), vs = [.ref lp, .int (u : Nat)] ∧ Own a c B H ls ∧ Net B lp n ps ∧ u < n ∧
  ∀ p H' B', Same B B' → B' p = some (.lst ((nInts (nbs n ps u)).map V.int)) → Own a c B' H' ls → Q (.ref p) H'
def sp_distances (A : Ad) : Sp := FarSp
def sp_l_far (A : Ad) : Sp := FarSp
def sp_next_hops (A : Ad) : Sp := fun vs H Q _ => ∃ (a c : Addr) (B : Hp) (ls : List (Addr × HO)) (lp : Addr) (ps : Lk) (n : Nat), vs = [.int (n : Nat), .ref lp] ∧ Own a c B H ls ∧ Net B lp n ps ∧
  ∀ p H' B' (ra : Nat → Addr) (F : Nat → Nat → Int), Same B B' → B' p = some (.lst ((List.range n).map fun i => V.ref (ra i))) → (∀ g, g < n → Far n ps g (F g)) → (∀ i, i < n → B' (ra i) = some (.lst (fl n fun g => ((hop n ps (F g) i g : Nat) : Int)))) → Own a c B' H' ls → Q (.ref p) H'
def sp_l_links (A : Ad) : Sp := fun vs H Q _ => ∃ (a c : Addr) (B : Hp) (ls : List (Addr × HO)) (n : Nat), vs = [.ref a, .int (n : Nat)] ∧ Own a c B H ls ∧ n ≤ 8 ∧
  ∀ p H' B' lv (ps : Lk), Same B B' → B' p = some (.lst lv) → Paired (PairV B') lv ps → ps.length ≤ 20 → Own a c B' H' ls → Q (.ref p) H'
def sp_l_due (A : Ad) : Sp := fun vs H Q _ => ∃ (a c : Addr) (B : Hp) (ls : List (Addr × HO)) (lp : Addr) (lv : List V) (ps : Lk) (n : Int), vs = [.int n, .ref lp] ∧ Own a c B H ls ∧ B lp = some (.lst lv) ∧ Paired (PairV B) lv ps ∧ ps.length ≤ 20 ∧
  ∀ r H' B', Same B B' → Due n ps r → Own a c B' H' ls → Q (.str r) H'
def sp_l_told (A : Ad) : Sp := fun vs H Q _ => ∃ (a c : Addr) (B : Hp) (ls : List (Addr × HO)) (lp : Addr) (lv : List V) (ps : Lk) (n : Int), vs = [.int n, .ref lp] ∧ CF A ∧ Own a c B H ls ∧ B lp = some (.lst lv) ∧ Paired (PairV B) lv ps ∧ ps.length ≤ 20 ∧
  ∀ r H' B', Same B B' → Due n ps r → Own a c B' H' ls → Q (.str r) H'
def sp_check_network (A : Ad) : Sp := fun vs H Q E => ∃ (a c : Addr) (B : Hp) (ls : List (Addr × HO)) (lp : Addr) (lv : List V) (ps : Lk) (n : Int), vs = [.int n, .ref lp] ∧ CF A ∧ Own a c B H ls ∧ B lp = some (.lst lv) ∧ Paired (PairV B) lv ps ∧ ps.length ≤ 20 ∧
  (∀ r d H' B', Due n ps r → Same B B' → Own a c B' H' ((d, .xd [("reason", .str r)]) :: ls) → E (.ref A.c_PlanError) (some d) H') ∧ (Due n ps "" → ∀ H' B', Same B B' → Own a c B' H' ls → Q .non H')
def sp_law (A : Ad) : Sp := fun vs H Q _ => ∃ (s : Addr) (ns : List Int), vs = [.ref s] ∧ SqL A.K H s (ns.map V.int) ∧ ns.length ≤ 63 ∧ CF A ∧ ∀ H', Q (.bl true) H'
def t_neighbours (A : Ad) : TS :=
  (tSeq (tAsg (tOp rAddA (tLc (iList A.K (tVar 0)) (gTup A.K 2 (gCons (gName 3) (gCons (gName 4) gNil))) (tTest (tOp (rEqA A.K) (tVar 3) (tVar 1))) (tVar 4) [3, 4]) (tLc (iList A.K (tVar 0)) (gTup A.K 2 (gCons (gName 3) (gCons (gName 4) gNil))) (tTest (tOp (rEqA A.K) (tVar 4) (tVar 1))) (tVar 3) [3, 4])) (gName 2)) (tRet (tCB (rSortedSet A.w) (tCons (tScI A.w (iList A.K (tVar 2)) (gName 5) (tVar 5) [5]) tNil))))
theorem st_neighbours (v0 v1 : V) : L2.start ["links", "at", "found", "a", "b", "other"] [v0, v1] = [some v0, some v1, none, none, none, none] := rfl
def t_distances (A : Ad) : TS :=
  (tSeq (tAsg (tOp rMulA (tLst (tCons (tUn (rU fun i => .int (-i)) (tC (.int 1))) tNil)) (tVar 0)) (gName 3)) (tSeq (tAsg (tC (.int 0)) (gSub (tVar 3) (tVar 2) rSetA)) (tSeq (tAsg (tLst (tCons (tVar 2) tNil)) (gName 4)) (tSeq (tAsg (tC (.int 0)) (gName 5)) (tSeq (tWhile (tTest (tOp (rI0 fun i j => .bl (decide (i < j))) (tVar 5) (tCB rLenA (tCons (tVar 4) tNil)))) (tSeq (tAsg (tOp rIxA (tVar 4) (tVar 5)) (gName 6)) (tSeq (tAsg (tOp rAddA (tVar 5) (tC (.int 1))) (gName 5)) (tFor (iList A.K (tCall (sp_neighbours A) [] E0 (tCons (tVar 1) (tCons (tVar 6) tNil)))) (gName 7) (tIfS (tTest (tOp (rI0 fun i j => .bl (decide (i < j))) (tOp rIxA (tVar 3) (tVar 7)) (tC (.int 0)))) (tSeq (tAsg (tOp rAddA (tOp rIxA (tVar 3) (tVar 6)) (tC (.int 1))) (gSub (tVar 3) (tVar 7) rSetA)) (tDrop (tBML rAppA (tVar 4) (tCons (tVar 7) tNil)))) tNext))))) (tRet (tVar 3)))))))
theorem st_distances (v0 v1 v2 : V) : L2.start ["processors", "links", "goal", "found", "row", "k", "at", "other"] [v0, v1, v2] = [some v0, some v1, some v2, none, none, none, none, none] := rfl
def t_check_network (A : Ad) (W : WX) : TS :=
  (tSeq (tIfS (tOr (tTest (tOp (rI0 fun i j => .bl (decide (i < j))) (tVar 0) (tC (.int 1)))) (tTest (tOp (rI0 fun i j => .bl (decide (j < i))) (tVar 0) (tC (.int 6))))) (tRaiseX A.K A.c_PlanError A.c_PlacedError A.i_PlanError "reason" W (tC (.str "processors"))) tNext) (tSeq (tFor (iEnum A.K (tCons (tVar 1) tNil)) (gTup A.K 2 (gCons (gName 2) (gCons (gName 3) gNil))) (tSeq (tAsg (tVar 3) (gTup A.K 2 (gCons (gName 4) (gCons (gName 5) gNil)))) (tIfS (tOr (tTest (tOp (rI0 fun i j => .bl (decide (i < j))) (tVar 4) (tC (.int 0)))) (tOr (tTest (tOp (rI0 fun i j => .bl (decide (j ≤ i))) (tVar 5) (tVar 0))) (tOr (tTest (tOp (rI0 fun i j => .bl (decide (j ≤ i))) (tVar 4) (tVar 5))) (tTest (tOp (rInD A.K) (tVar 3) (tSl rSlA (tVar 1) tNoPart (tPart (tVar 2)))))))) (tRaiseX A.K A.c_PlanError A.c_PlacedError A.i_PlanError "reason" W (tC (.str "links"))) tNext))) (tIfS (tTest (tOp (rI0 fun i j => .bl (decide (i < j))) (tCB (rMin A.K) (tCons (tCall (sp_distances A) [] E0 (tCons (tVar 0) (tCons (tVar 1) (tCons (tC (.int 0)) tNil)))) tNil)) (tC (.int 0)))) (tRaiseX A.K A.c_PlanError A.c_PlacedError A.i_PlanError "reason" W (tC (.str "parts"))) tNext)))
theorem st_check_network (v0 v1 : V) : L2.start ["processors", "links", "at", "link", "a", "b"] [v0, v1] = [some v0, some v1, none, none, none, none] := rfl
def t_next_hops (A : Ad) : TS :=
  (tSeq (tAsg (tLc (iRng1 (tCons (tVar 0) tNil)) (gName 5) tYes (tOp rMulA (tLst (tCons (tVar 5) tNil)) (tVar 0)) [5]) (gName 2)) (tSeq (tFor (iRng1 (tCons (tVar 0) tNil)) (gName 3) (tSeq (tAsg (tCall (sp_distances A) [] E0 (tCons (tVar 0) (tCons (tVar 1) (tCons (tVar 3) tNil)))) (gName 4)) (tFor (iRng1 (tCons (tVar 0) tNil)) (gName 5) (tFor (iRev A.K (tCons (tCall (sp_neighbours A) [] E0 (tCons (tVar 1) (tCons (tVar 5) tNil))) tNil)) (gName 6) (tIfS (tAnd (tTest (tOp (rNeA A.K) (tVar 5) (tVar 3))) (tTest (tOp (rEqA A.K) (tOp rIxA (tVar 4) (tVar 6)) (tOp (rI0 fun i j => .int (i - j)) (tOp rIxA (tVar 4) (tVar 5)) (tC (.int 1)))))) (tAsg (tVar 6) (gSub (tOp rIxA (tVar 2) (tVar 5)) (tVar 3) rSetA)) tNext))))) (tRet (tVar 2))))
theorem st_next_hops (v0 v1 : V) : L2.start ["processors", "links", "table", "goal", "far", "at", "other"] [v0, v1] = [some v0, some v1, none, none, none, none, none] := rfl
def t_l_links (A : Ad) : TS :=
  (tSeq (tAsg (tLst tNil) (gName 2)) (tSeq (tFor (iRng2 (tCons (tC (.int 1)) (tCons (tVar 1) tNil))) (gName 3) (tIfS (tTest (tOp (rI0 fun i j => .bl (decide (j < i))) (tCall spDraw [] E0 (tCons (tVar 0) (tCons (tC (.int 12)) tNil))) (tC (.int 0)))) (tDrop (tBML rAppA (tVar 2) (tCons (tTup (tCons (tCall spDraw [] E0 (tCons (tVar 0) (tCons (tVar 3) tNil))) (tCons (tVar 3) tNil))) tNil))) tNext)) (tSeq (tFor (iRng1 (tCons (tCall spDraw [] E0 (tCons (tVar 0) (tCons (tC (.int 4)) tNil))) tNil)) (gName 3) (tSeq (tAsg (tOp (rI0 fun i j => .int (i - j)) (tCall spDraw [] E0 (tCons (tVar 0) (tCons (tCB rMax2 (tCons (tC (.int 1)) (tCons (tVar 1) tNil))) tNil))) (tOp (rI CDiv fun i j => .int (i / j)) (tCall spDraw [] E0 (tCons (tVar 0) (tCons (tC (.int 12)) tNil))) (tC (.int 11)))) (gName 4)) (tSeq (tAsg (tOp rAddA (tCall spDraw [] E0 (tCons (tVar 0) (tCons (tCB rMax2 (tCons (tC (.int 1)) (tCons (tVar 1) tNil))) tNil))) (tOp (rI CDiv fun i j => .int (i / j)) (tCall spDraw [] E0 (tCons (tVar 0) (tCons (tC (.int 12)) tNil))) (tC (.int 11)))) (gName 5)) (tSeq (tIfS (tAnd (tTest (tOp (rI0 fun i j => .bl (decide (j < i))) (tCall spDraw [] E0 (tCons (tVar 0) (tCons (tC (.int 12)) tNil))) (tC (.int 0)))) (tTest (tOp (rInD A.K) (tTup (tCons (tCB rMin2 (tCons (tVar 4) (tCons (tVar 5) tNil))) (tCons (tCB rMax2 (tCons (tVar 4) (tCons (tVar 5) tNil))) tNil))) (tOp rAddA (tVar 2) (tLst (tCons (tTup (tCons (tCB rMin2 (tCons (tVar 4) (tCons (tVar 5) tNil))) (tCons (tCB rMin2 (tCons (tVar 4) (tCons (tVar 5) tNil))) tNil))) tNil)))))) (tAsg (tVar 4) (gName 5)) tNext) (tIfS (tOr (tTest (tOp (rNeA A.K) (tVar 4) (tVar 5))) (tTest (tOp (rEqA A.K) (tCall spDraw [] E0 (tCons (tVar 0) (tCons (tC (.int 8)) tNil))) (tC (.int 0))))) (tDrop (tBML rAppA (tVar 2) (tCons (tIf (tTest (tOp (rI0 fun i j => .bl (decide (j < i))) (tCall spDraw [] E0 (tCons (tVar 0) (tCons (tC (.int 15)) tNil))) (tC (.int 0)))) (tTup (tCons (tCB rMin2 (tCons (tVar 4) (tCons (tVar 5) tNil))) (tCons (tCB rMax2 (tCons (tVar 4) (tCons (tVar 5) tNil))) tNil))) (tTup (tCons (tCB rMax2 (tCons (tVar 4) (tCons (tVar 5) tNil))) (tCons (tCB rMin2 (tCons (tVar 4) (tCons (tVar 5) tNil))) tNil)))) tNil))) tNext))))) (tRet (tVar 2)))))
theorem st_l_links (v0 v1 : V) : L2.start ["_law_state_here", "_law_many", "_law_links_here", "_law_k", "_law_a", "_law_b"] [v0, v1] = [some v0, some v1, none, none, none, none] := rfl
def t_l_far (A : Ad) : TS :=
  (tSeq (tAsg (tLc (iRng1 (tCons (tVar 0) tNil)) (gName 7) tYes (tIf (tTest (tOp (rEqA A.K) (tVar 7) (tVar 2))) (tC (.int 0)) (tC (.int 99))) [7]) (gName 3)) (tSeq (tFor (iRng1 (tCons (tVar 0) tNil)) (gName 4) (tFor (iList A.K (tVar 1)) (gTup A.K 2 (gCons (gName 5) (gCons (gName 6) gNil))) (tSeq (tAsg (tCB rMin2 (tCons (tOp rIxA (tVar 3) (tVar 5)) (tCons (tOp rAddA (tOp rIxA (tVar 3) (tVar 6)) (tC (.int 1))) tNil))) (gSub (tVar 3) (tVar 5) rSetA)) (tAsg (tCB rMin2 (tCons (tOp rIxA (tVar 3) (tVar 6)) (tCons (tOp rAddA (tOp rIxA (tVar 3) (tVar 5)) (tC (.int 1))) tNil))) (gSub (tVar 3) (tVar 6) rSetA))))) (tRet (tLc (iList A.K (tVar 3)) (gName 8) tYes (tIf (tTest (tOp (rI0 fun i j => .bl (decide (j ≤ i))) (tVar 8) (tC (.int 99)))) (tUn (rU fun i => .int (-i)) (tC (.int 1))) (tVar 8)) [8]))))
theorem st_l_far (v0 v1 v2 : V) : L2.start ["_law_many", "_law_links_here", "_law_goal", "_law_far_here", "_law_k", "_law_a", "_law_b", "_law_at", "_law_n"] [v0, v1, v2] = [some v0, some v1, some v2, none, none, none, none, none, none] := rfl
def t_l_due (A : Ad) : TS :=
  (tSeq (tIfS (tOr (tTest (tOp (rI0 fun i j => .bl (decide (i < j))) (tVar 0) (tC (.int 1)))) (tTest (tOp (rI0 fun i j => .bl (decide (j < i))) (tVar 0) (tC (.int 6))))) (tRet (tC (.str "processors"))) tNext) (tSeq (tFor (iRng1 (tCons (tCB rLenA (tCons (tVar 1) tNil)) tNil)) (gName 2) (tSeq (tAsg (tOp rIxA (tVar 1) (tVar 2)) (gTup A.K 2 (gCons (gName 3) (gCons (gName 4) gNil)))) (tIfS (tOr (tTest (tOp (rI0 fun i j => .bl (decide (i < j))) (tVar 3) (tC (.int 0)))) (tOr (tTest (tOp (rI0 fun i j => .bl (decide (j ≤ i))) (tVar 3) (tVar 4))) (tOr (tTest (tOp (rI0 fun i j => .bl (decide (j ≤ i))) (tVar 4) (tVar 0))) (tTest (tOp (rInD A.K) (tTup (tCons (tVar 3) (tCons (tVar 4) tNil))) (tSl rSlA (tVar 1) tNoPart (tPart (tVar 2)))))))) (tRet (tC (.str "links"))) tNext))) (tRet (tIf (tTest (tOp (rIn A.K false) (tUn (rU fun i => .int (-i)) (tC (.int 1))) (tCall (sp_l_far A) [] E0 (tCons (tVar 0) (tCons (tVar 1) (tCons (tC (.int 0)) tNil)))))) (tC (.str "parts")) (tC (.str ""))))))
theorem st_l_due (v0 v1 : V) : L2.start ["_law_many", "_law_links_here", "_law_k", "_law_a", "_law_b"] [v0, v1] = [some v0, some v1, none, none, none] := rfl
def t_l_told (A : Ad) : TS :=
  (tSeq (tTry A.K (.ref A.c_PlanError) 2 (fun W => (tDrop (tCallS (sp_check_network A) (WE W) (tCons (tVar 0) (tCons (tVar 1) tNil))))) (fun a cls d => (tRet (tIf (tB (tCB (rIsX A.K a cls d A.c_PlanError A.c_PlacedError A.i_PlanError "reason") (tCons (tVar 2) (tCons (tC (.ref A.c_PlacedError)) tNil)))) (tXf a cls d A.c_PlanError "reason" (tVar 2)) (tC (.str "other")))))) (tRet (tC (.str ""))))
theorem st_l_told (v0 v1 : V) : L2.start ["_law_many", "_law_links_here", "e"] [v0, v1] = [some v0, some v1, none] := rfl
def t_law (A : Ad) : TS :=
  (tSeq (tAsg (tCall (spState A.K) [] E0 (tCons (tVar 0) tNil)) (gName 1)) (tSeq (tAsg (tCall spPick [] E0 (tCons (tVar 1) (tCons (tLst (tCons (tOp rAddA (tC (.int 1)) (tCall spDraw [] E0 (tCons (tVar 1) (tCons (tC (.int 6)) tNil)))) (tCons (tOp rAddA (tC (.int 2)) (tCall spDraw [] E0 (tCons (tVar 1) (tCons (tC (.int 5)) tNil)))) (tCons (tCall spDraw [] E0 (tCons (tVar 1) (tCons (tC (.int 9)) tNil))) tNil)))) tNil))) (gName 2)) (tSeq (tAsg (tCall (sp_l_links A) [] E0 (tCons (tVar 1) (tCons (tVar 2) tNil))) (gName 3)) (tSeq (tAsg (tCall (sp_l_due A) [] E0 (tCons (tVar 2) (tCons (tVar 3) tNil))) (gName 4)) (tSeq (tIfS (tTest (tOp (rNeA A.K) (tCall (sp_l_told A) [] E0 (tCons (tVar 2) (tCons (tVar 3) tNil))) (tVar 4))) (tRet (tC (.bl false))) tNext) (tSeq (tIfS (tTest (tOp (rNeA A.K) (tVar 4) (tC (.str "")))) (tRet (tC (.bl true))) tNext) (tSeq (tAsg (tCall (sp_next_hops A) [] E0 (tCons (tVar 2) (tCons (tVar 3) tNil))) (gName 5)) (tSeq (tFor (iRng1 (tCons (tVar 2) tNil)) (gName 6) (tSeq (tAsg (tCall (sp_l_far A) [] E0 (tCons (tVar 2) (tCons (tVar 3) (tCons (tVar 6) tNil)))) (gName 7)) (tSeq (tIfS (tTest (tOp (rNeA A.K) (tCall (sp_distances A) [] E0 (tCons (tVar 2) (tCons (tVar 3) (tCons (tVar 6) tNil)))) (tVar 7))) (tRet (tC (.bl false))) tNext) (tFor (iRng1 (tCons (tVar 2) tNil)) (gName 8) (tSeq (tAsg (tLc (iList A.K (tVar 3)) (gTup A.K 2 (gCons (gName 10) (gCons (gName 11) gNil))) (tAnd (tTest (tOp (rEqA A.K) (tVar 10) (tVar 8))) (tTest (tOp (rI0 fun i j => .bl (decide (i < j))) (tOp rIxA (tVar 7) (tVar 11)) (tOp rIxA (tVar 7) (tVar 8))))) (tVar 11) [10, 11]) (gName 9)) (tSeq (tAsg (tOp rAddA (tVar 9) (tLc (iList A.K (tVar 3)) (gTup A.K 2 (gCons (gName 10) (gCons (gName 11) gNil))) (tAnd (tTest (tOp (rEqA A.K) (tVar 11) (tVar 8))) (tTest (tOp (rI0 fun i j => .bl (decide (i < j))) (tOp rIxA (tVar 7) (tVar 10)) (tOp rIxA (tVar 7) (tVar 8))))) (tVar 10) [10, 11])) (gName 9)) (tIfS (tTest (tOp (rNeA A.K) (tOp rIxA (tOp rIxA (tVar 5) (tVar 8)) (tVar 6)) (tIf (tTest (tOp (rEqA A.K) (tVar 8) (tVar 6))) (tVar 8) (tCB (rMin A.K) (tCons (tVar 9) tNil))))) (tRet (tC (.bl false))) tNext))))))) (tRet (tOp (rEqA A.K) (tCB rLenA (tCons (tVar 5) tNil)) (tVar 2)))))))))))
theorem st_law (v0 : V) : L2.start ["_law_script", "_law_state_here", "_law_many", "_law_links_here", "_law_due_here", "_law_hops", "_law_goal", "_law_far_here", "_law_at", "_law_near", "_law_a", "_law_b"] [v0] = [some v0, none, none, none, none, none, none, none, none, none, none, none] := rfl

theorem len_neighbours (A : Ad) {vs : List V} {H : Hp} {Q : VK} {E : XK} (h : sp_neighbours A vs H Q E) : vs.length = 2 := by
  obtain ⟨a, c, B, ls, lp, ps, n, u, rfl, _⟩ := h
  rfl
theorem len_distances (A : Ad) {vs : List V} {H : Hp} {Q : VK} {E : XK} (h : sp_distances A vs H Q E) : vs.length = 3 := by
  obtain ⟨a, c, B, ls, lp, ps, n, u, rfl, _⟩ := h
  rfl
theorem len_l_far (A : Ad) {vs : List V} {H : Hp} {Q : VK} {E : XK} (h : sp_l_far A vs H Q E) : vs.length = 3 := by
  obtain ⟨a, c, B, ls, lp, ps, n, u, rfl, _⟩ := h
  rfl
theorem len_next_hops (A : Ad) {vs : List V} {H : Hp} {Q : VK} {E : XK} (h : sp_next_hops A vs H Q E) : vs.length = 2 := by
  obtain ⟨a, c, B, ls, lp, ps, n, rfl, _⟩ := h
  rfl
theorem len_l_links (A : Ad) {vs : List V} {H : Hp} {Q : VK} {E : XK} (h : sp_l_links A vs H Q E) : vs.length = 2 := by
  obtain ⟨a, c, B, ls, n, rfl, _⟩ := h
  rfl
theorem len_l_due (A : Ad) {vs : List V} {H : Hp} {Q : VK} {E : XK} (h : sp_l_due A vs H Q E) : vs.length = 2 := by
  obtain ⟨a, c, B, ls, lp, lv, ps, n, rfl, _⟩ := h
  rfl
theorem len_l_told (A : Ad) {vs : List V} {H : Hp} {Q : VK} {E : XK} (h : sp_l_told A vs H Q E) : vs.length = 2 := by
  obtain ⟨a, c, B, ls, lp, lv, ps, n, rfl, _⟩ := h
  rfl
theorem len_check_network (A : Ad) {vs : List V} {H : Hp} {Q : VK} {E : XK} (h : sp_check_network A vs H Q E) : vs.length = 2 := by
  obtain ⟨a, c, B, ls, lp, lv, ps, n, rfl, _⟩ := h
  rfl
theorem len_law (A : Ad) {vs : List V} {H : Hp} {Q : VK} {E : XK} (h : sp_law A vs H Q E) : vs.length = 1 := by
  obtain ⟨s, ns, rfl, _⟩ := h
  rfl
end K40
set_option Elab.async false
set_option linter.all false
set_option maxRecDepth 100000
set_option maxHeartbeats 4000000
namespace K40
open PySem PySem.Spec PyProof.Rows L2 Lb
local macro_rules | `(tactic| walk_at "pm") => `(tactic| (focus ((repeat (first | exact List.Perm.refl _ | (apply Pick.perm; (solve | repeat (first | exact Pick.here | apply Pick.there))))); done)))
local macro_rules | `(tactic| walk_at "h") => `(tactic| first | assumption | exact Own.mem (by assumption) (by walk_at "m") | exact Own.kp (by assumption) (by assumption))
local macro_rules | `(tactic| walk_at "m") => `(tactic| (focus ((repeat (first | assumption | exact List.mem_cons_self | apply List.mem_cons_of_mem)); done)))
local macro_rules | `(tactic| walk_at "u") => `(tactic| (focus ((repeat (first | exact Up1.here | apply Up1.there)); done)))
local macro_rules | `(tactic| walk_at "p") => `(tactic| (focus ((repeat (first | exact Pre.nil | apply Pre.cons)); done)))
local macro_rules | `(tactic| walk_at "f") => `(tactic| (focus ((repeat (first | exact PutF.here | exact PutF.nil | (apply PutF.there; (solve | decide +kernel)))); done)))
local macro_rules | `(tactic| walk_at "k") => `(tactic| (focus ((repeat (first | exact LkF.here rfl | exact LkF.nil rfl | refine LkF.there (by decide +kernel) ?_)); done)))
local macro_rules | `(tactic| walk_at "e") => `(tactic| (focus ((repeat (first | exact StE.nil | apply StE.app | apply StE.got | apply StE.lack)); done)))
local macro_rules | `(tactic| walk_at "d") => `(tactic| (focus ((repeat (first | exact Dt.int _ | exact Dt.str _ | exact Dt.non | exact Dt.bl _ | exact DtAll.nil | exact DtAll.ints _ | apply DtAll.cons | (apply Dt.tup; (solve | walk_at "h")) | (apply Dt.lst; (solve | walk_at "h")))); done)))
local macro_rules | `(tactic| walk_at "sh") => `(tactic| (focus ((repeat (first | exact Sh.int | exact Sh.non | exact Sh.str (by decide +kernel) | exact ShA.nil | exact ShA.ints | apply ShA.cons | apply Sh.lst | apply Sh.tup)); done)))
local macro_rules | `(tactic| walk_at "ne") => `(tactic| (apply rd_neF; (solve | walk_at "d"); (solve | walk_at "d"); (solve | exact Sh.shp (n := 4) (by walk_at "sh"))))
local macro_rules | `(tactic| walk_at "s1") => `(tactic| with_reducible first | (apply i_bm) | apply i_min2 | apply i_max2 | apply i_enum | apply i_rev | apply i_try | apply i_callS | apply i_methS | apply i_raiseX | (apply i_mks; (solve | assumption)) | apply i_rng3 | apply i_txf | (apply i_isX; (solve | assumption); (solve | walk_at "h")) | (apply i_xf; (solve | walk_at "h"); (solve | walk_at "k")) | (apply i_tyK; (solve | assumption)) | apply i_tyS | (apply i_ixK; (solve | assumption); (solve | assumption | with_unfolding_all rfl)) | (apply i_lenK; (solve | assumption); (exact rfl)) | (apply i_tupLN; (solve | walk_at "h")) | (apply i_var; (solve | with_unfolding_all rfl)) | apply i_cons | apply i_nil | apply i_c | apply i_op | apply i_asg | apply i_seq | apply i_gname | apply i_eqS | apply i_eqI | apply i_neS | apply i_tt | apply i_ff | (apply i_ixA; (solve | walk_at "h"); (solve | exact IxO.lst (by assumption) | exact IxO.tup (by assumption) | exact .lst (by with_unfolding_all rfl) | exact .tup (by with_unfolding_all rfl))) | apply i_bl | apply i_test | apply i_ifS | apply i_tupN | (apply i_tupO; (solve | assumption); (exact (sz (by (try simp) <;> omega))); intro p H O) | apply i_fld | (apply i_fldO; (solve | walk_at "h"); (solve | assumption); (solve | assumption); (solve | walk_at "k")) | (apply i_tB; (solve | decide +kernel)) | (apply i_fB; (solve | decide +kernel)) | apply i_ret | apply i_retN | apply i_drop | apply i_next | apply i_brk | apply i_cnt | apply i_par | apply i_par2 | apply i_fldSN | apply i_dput | apply i_un | apply i_rU | apply i_rI0 | apply i_B | apply i_tru | apply i_truB | apply i_and | apply i_or | apply i_not | apply i_andV | apply i_orV | apply i_notV | apply i_if | apply i_call | apply i_meth | apply i_makeN | apply i_cb | apply i_dnewN | apply i_lstN | apply i_bml | apply i_gsub | apply i_gcons | apply i_gnil | apply i_sl | apply i_nop | apply i_part | apply i_prt | apply i_isN | apply i_notN | apply i_yes | apply i_ntt | apply i_nff | apply i_addI | apply i_neI | apply i_intI | apply i_intB | apply i_abs | apply i_isiIB | apply i_isiNB | apply i_isiBB | apply i_dget | apply i_for | apply i_ilist | apply i_itup | apply i_rng1 | apply i_rng2 | apply i_ex1 | apply i_ex2 | apply i_exr | apply i_disp | apply i_pcons | apply i_pnil | apply i_neN | apply i_eqN | apply i_neB | apply i_eqB | apply i_lc | apply i_dnI | apply i_nyI | apply i_dnR | apply i_nyR | (apply i_lenA; (solve | walk_at "h"); (solve | first | exact .lst | exact .tup | exact .dK)) | (apply i_isL; (solve | walk_at "h")) | (apply i_isiLL; (solve | walk_at "h")) | (apply i_isiTL; (solve | walk_at "h")) | (apply i_gtup; (solve | walk_at "h"); (solve | with_unfolding_all rfl)) | (apply i_fldSO; (solve | assumption); (solve | walk_at "u"); (solve | walk_at "f"); (solve | assumption); (solve | assumption); (solve | simp); intro H O) | (apply i_lstO; (solve | assumption); (exact (sz (by (try simp) <;> omega))); intro p H O) | (apply i_makeO; (solve | assumption); intro x dx H O) | (apply i_methO; (solve | walk_at "h"); (solve | walk_at "k")) | (apply i_newO; (solve | assumption); intro p H O) | (apply i_listN; (solve | walk_at "h")) | (apply i_listTN; (solve | walk_at "h")) | (apply i_addN; (solve | walk_at "h"); (solve | walk_at "h"); (exact (sz (by (try simp) <;> omega)))) | apply i_mkd | apply i_gfld | (apply i_glst; (solve | walk_at "h"); (solve | with_unfolding_all rfl)) | apply i_isB | apply i_notB | (apply i_inO; (solve | walk_at "h"); (solve | with_unfolding_all rfl); (solve | with_unfolding_all rfl)) | (apply i_dgetI; (solve | walk_at "h"); (solve | assumption)) | (apply i_in; (solve | with_unfolding_all rfl); (solve | walk_at "e")) | (apply i_setO; (solve | assumption); (solve | walk_at "u"); (solve | with_unfolding_all rfl); intro H O) | (apply i_appO; (solve | assumption); (solve | walk_at "u"); (exact (szl (by (try simp) <;> omega))); intro H O) | (apply i_drawO; (solve | assumption); (exact rfl); (solve | decide); (solve | decide); intro r H h0 h1 O))
local macro_rules | `(tactic| walk_at "s") => `(tactic| repeat (walk_at "s1"))
set_option maxHeartbeats 32000000 in
theorem pure_neighbours (A : Ad) (vs : List V) (H : Hp) (Q : VK) (E : XK) (h : sp_neighbours A vs H Q E) : t_neighbours A { nx := fun _ H' => Q .non H', rt := Q } (L2.start ["links", "at", "found", "a", "b", "other"] vs) H := by
  obtain ⟨a, c, B, ls, lp, ps, n, u, rfl, O, N, hu, kQ⟩ := h
  obtain ⟨⟨lv, hl, hP⟩, Vv, n6, z⟩ := N
  rw [st_neighbours]
  unfold t_neighbours
  walk_at "s"
  refine ⟨⟨_, SqL.of (O.kp hl)⟩, fun D hD => ?_⟩
  refine i_lcP (f := fun j => decide (j.1 = (u : Int))) (e := fun j => j.2) O hD hl hP (by omega) (by decide) (by show 3 < 6; decide) (by show 4 < 6; decide) (fun j H' R jm s hR => ?_) (fun j H' R jm hj s hR => ?_) fun H' O => ?_
  · walk_at "s"
    exact hR
  · walk_at "s"
    exact hR
  walk_at "s"
  refine ⟨⟨_, SqL.of (O.kp hl)⟩, fun D2 hD => ?_⟩
  refine i_lcP (f := fun j => decide (j.2 = (u : Int))) (e := fun j => j.1) O hD hl hP (by omega) (by decide) (by show 3 < 6; decide) (by show 4 < 6; decide) (fun j H' R jm s hR => ?_) (fun j H' R jm hj s hR => ?_) fun H2 O => ?_
  · walk_at "s"
    exact hR
  · walk_at "s"
    exact hR
  have hz := fnd_len ps u
  have e1 : ((ps.filter fun j => decide (j.1 = (u : Int))).map (·.2)).map V.int ++ ((ps.filter fun j => decide (j.2 = (u : Int))).map (·.1)).map V.int = (fnd ps u).map V.int := by rw [← List.map_append]; rfl
  refine i_addN (O.mem (by walk_at "m")) (O.mem (by walk_at "m")) (sz ?_) ?_
  · have := congrArg List.length e1
    rw [List.length_append, List.length_map (as := fnd ps u)] at this
    omega
  rw [e1]
  walk_at "s"
  rename_i p H3 O
  refine i_scI O rfl (O.mem (by walk_at "m")) (by have : PySem.scanBound = 4096 := rfl; omega) (by show 5 < 6; decide) fun D3 S m H4 O hS hm => ?_
  walk_at "s"
  refine i_sortSet O (O.mem (by walk_at "m")) (by omega) fun ns q H5 h1 h2 O => ?_
  have e2 := sorted_nbs (u := u) Vv h1 fun j => (h2 j).trans (hS j)
  subst e2
  obtain ⟨B2, s2, hq, O⟩ := O.freeze
  exact kQ q H5 B2 s2 hq (O.dropP (by walk_at "p"))
/-- what the inner loop of distances keeps -/
theorem bfs_room {n : Nat} {ps : Lk} {g k : Nat} {f : Nat → Int} {row : List Nat} (S : Bfs n ps g f row k) (h : n ≤ 6) : row.length ≤ 6 := Nat.le_trans S.len h
def rw_ (row : List Nat) : List V := (nInts row).map V.int
theorem rw_len {row : List Nat} : (rw_ row).length = row.length := by
  unfold rw_ nInts
  rw [List.length_map, List.length_map]
theorem rw_get {row : List Nat} {k u : Nat} (h : row[k]? = some u) : (rw_ row)[k]? = some (.int (u : Nat)) := by
  unfold rw_ nInts
  rw [List.getElem?_map, List.getElem?_map, h]
  rfl
theorem rw_inv {row : List Nat} {k : Nat} {x : V} (h : (rw_ row)[k]? = some x) : ∃ u, row[k]? = some u ∧ x = .int (u : Nat) := by
  unfold rw_ nInts at h
  rw [List.getElem?_map, List.getElem?_map] at h
  cases e : row[k]? with
  | none => rw [e] at h; cases h
  | some u => rw [e] at h; cases h; exact ⟨u, rfl, rfl⟩
theorem rw_snoc {row : List Nat} {o : Nat} : rw_ row ++ [.int (o : Nat)] = rw_ (row ++ [o]) := by
  unfold rw_ nInts
  rw [List.map_append, List.map_append]
  rfl
set_option maxHeartbeats 32000000 in
theorem pure_distances (A : Ad) (vs : List V) (H : Hp) (Q : VK) (E : XK) (h : sp_distances A vs H Q E) : t_distances A { nx := fun _ H' => Q .non H', rt := Q } (L2.start ["processors", "links", "goal", "found", "row", "k", "at", "other"] vs) H := by
  obtain ⟨a, c, B, ls, lp, ps, n, g, rfl, O, N, hg, kQ⟩ := h
  have Vv := N.v
  have n6 := N.n6
  rw [st_distances]
  unfold t_distances
  walk_at "s"
  rename_i p0 H0 O
  refine i_mul1 O (by walk_at "h") (by omega) fun fp H1 O => ?_
  rw [fl_const] at O
  walk_at "s"
  refine i_setO O (by walk_at "u") (ix_nat hg fl_len) fun H2 O => ?_
  rw [fl_set hg] at O
  walk_at "s"
  rename_i rp H3 O
  refine i_while (fun m σ H' => ∃ k f row B' x6 x7, m + k = n + 1 ∧ k ≤ row.length ∧ Same B B' ∧ Bfs n ps g f row k ∧ σ = [some (.int (n : Nat)), some (.ref lp), some (.int (g : Nat)), some (.ref fp), some (.ref rp), some (.int (k : Nat)), x6, x7] ∧
    Own a c B' H' ((rp, .lst (rw_ row)) :: (fp, .lst (fl n f)) :: (p0, .lst [.int (-1)]) :: ls)) (n + 1) ⟨0, _, [g], B, none, none, rfl, Nat.zero_le _, Same.refl _, Bfs.start hg, rfl, O⟩ ?_
  rintro m σ H4 ⟨k, f, row, B4, x6, x7, hm, hk, s4, S, rfl, O⟩
  have rl := bfs_room S n6
  have rn := S.len
  walk_at "s"
  rw [rw_len]
  refine i_d2 (fun h1 => ?_) (fun h1 => ?_)
  · refine i_wgo ?_
    have h1' : k < row.length := by omega
    have hu := List.getElem?_eq_getElem h1'
    have hun := S.mem _ (List.getElem_mem h1')
    have ha : atI (rw_ row) (k : Nat) = some (.int ((row[k] : Nat) : Int)) := atI_nat (rw_get hu)
    generalize row[k] = u at hu hun ha
    walk_at "s"
    refine ⟨a, c, B4, _, lp, ps, n, u, rfl, ‹_›, N.mono s4, hun, fun np H5 B5 s5 hnp O => ?_⟩
    walk_at "s"
    refine i_forL ((nInts (nbs n ps u)).map V.int) (fun i σ H' => ∃ f' row' x7, (∀ w ∈ (nbs n ps u).take i, 0 ≤ f' w ∧ f' w ≤ f' u + 1) ∧ row'[k]? = some u ∧ Bfs n ps g f' row' k ∧
      σ = [some (.int (n : Nat)), some (.ref lp), some (.int (g : Nat)), some (.ref fp), some (.ref rp), some (.int ((k : Nat) + 1)), some (.int (u : Nat)), x7] ∧ Own a c B5 H' ((rp, .lst (rw_ row')) :: (fp, .lst (fl n f')) :: (p0, .lst [.int (-1)]) :: ls))
      ⟨f, row, x7, fun w h => by simp at h, hu, S, rfl, O⟩ ?_ ?_ ?_
    · rintro i σ H' ⟨f', row', x7, _, _, _, _, O⟩
      exact SqL.of (O.kp hnp)
    · rintro i x σ H' hx ⟨f', row', x7, hd, hu, S, rfl, O⟩
      have rl := bfs_room S n6
      obtain ⟨w, hw, rfl⟩ : ∃ w : Nat, (nbs n ps u)[i]? = some w ∧ x = .int (w : Nat) := rw_inv hx
      have wa : adj ps u w := (mem_nbs Vv).mp (List.mem_of_getElem? hw)
      have wn := (Vv.lt wa).2
      have aw : atI (fl n f') (w : Nat) = some (.int (f' w)) := fl_at wn
      have au : atI (fl n f') (u : Nat) = some (.int (f' u)) := fl_at hun
      have hu0 := (S.iff u hun).mp (List.mem_of_getElem? hu)
      have tk : (nbs n ps u).take (i + 1) = (nbs n ps u).take i ++ [w] := by rw [List.take_add_one, hw]; rfl
      walk_at "s"
      refine i_d2 (fun h2 => ?_) (fun h2 => ?_)
      · walk_at "s"
        refine i_setO O (by walk_at "u") (ix_nat wn fl_len) fun H6 O => ?_
        rw [fl_set wn] at O
        have S' := S.add hu wn wa h2
        have rl2 := rw_len (row := row')
        walk_at "s"
        rename_i H7 O
        rw [rw_snoc] at O
        have un : u ≠ w := fun e => by rw [e] at hu0; omega
        refine ⟨_, _, _, fun y hy => ?_, ?_, S', rfl, O⟩
        · rw [tk] at hy
          have pu : put f' w (f' u + 1) u = f' u := by
            unfold put
            rw [if_neg un]
          rw [pu]
          rcases List.mem_append.mp hy with q | q
          · have := hd y q
            unfold put
            split <;> omega
          · rw [List.mem_singleton.mp q]
            unfold put
            rw [if_pos rfl]
            omega
        · rw [List.getElem?_append_left (List.getElem?_eq_some_iff.mp hu).1]
          exact hu
      · walk_at "s"
        refine ⟨f', row', _, fun y hy => ?_, hu, S, rfl, O⟩
        rw [tk] at hy
        rcases List.mem_append.mp hy with q | q
        · exact hd y q
        · rw [List.mem_singleton.mp q]
          exact ⟨by omega, S.span k u (Nat.le_refl _) hu w ((S.iff w wn).mpr (by omega))⟩
    · rintro σ H' ⟨f', row', x7, hd, hu, S, rfl, O⟩
      rw [List.length_map, show (nInts (nbs n ps u)).length = (nbs n ps u).length from List.length_map _, List.take_length] at hd
      have S' := S.next hu fun w aw => hd w ((mem_nbs Vv).mpr aw)
      have := (List.getElem?_eq_some_iff.mp hu).1
      exact ⟨m - 1, by omega, k + 1, f', row', B5, _, _, by omega, by omega, Same.trans s4 s5, S', rfl, O⟩
  · walk_at "s"
    have O := Own.perm O (ls' := (fp, .lst (fl n f)) :: (rp, .lst (rw_ row)) :: (p0, .lst [.int (-1)]) :: ls) (by walk_at "pm")
    obtain ⟨B5, s5, hf, O⟩ := O.freeze
    exact kQ fp _ B5 f (Same.trans s4 s5) hf (S.far Vv (by omega)) (O.dropP (by walk_at "p"))
end K40
set_option Elab.async false
set_option linter.all false
set_option maxRecDepth 100000
set_option maxHeartbeats 4000000
namespace K40
open PySem PySem.Spec PyProof.Rows L2 Lb
local macro_rules | `(tactic| walk_at "pm") => `(tactic| (focus ((repeat (first | exact List.Perm.refl _ | (apply Pick.perm; (solve | repeat (first | exact Pick.here | apply Pick.there))))); done)))
local macro_rules | `(tactic| walk_at "h") => `(tactic| first | assumption | exact Own.mem (by assumption) (by walk_at "m") | exact Own.kp (by assumption) (by assumption))
local macro_rules | `(tactic| walk_at "m") => `(tactic| (focus ((repeat (first | assumption | exact List.mem_cons_self | apply List.mem_cons_of_mem)); done)))
local macro_rules | `(tactic| walk_at "u") => `(tactic| (focus ((repeat (first | exact Up1.here | apply Up1.there)); done)))
local macro_rules | `(tactic| walk_at "p") => `(tactic| (focus ((repeat (first | exact Pre.nil | apply Pre.cons)); done)))
local macro_rules | `(tactic| walk_at "f") => `(tactic| (focus ((repeat (first | exact PutF.here | exact PutF.nil | (apply PutF.there; (solve | decide +kernel)))); done)))
local macro_rules | `(tactic| walk_at "k") => `(tactic| (focus ((repeat (first | exact LkF.here rfl | exact LkF.nil rfl | refine LkF.there (by decide +kernel) ?_)); done)))
local macro_rules | `(tactic| walk_at "e") => `(tactic| (focus ((repeat (first | exact StE.nil | apply StE.app | apply StE.got | apply StE.lack)); done)))
local macro_rules | `(tactic| walk_at "d") => `(tactic| (focus ((repeat (first | exact Dt.int _ | exact Dt.str _ | exact Dt.non | exact Dt.bl _ | exact DtAll.nil | exact DtAll.ints _ | apply DtAll.cons | (apply Dt.tup; (solve | walk_at "h")) | (apply Dt.lst; (solve | walk_at "h")))); done)))
local macro_rules | `(tactic| walk_at "sh") => `(tactic| (focus ((repeat (first | exact Sh.int | exact Sh.non | exact Sh.str (by decide +kernel) | exact ShA.nil | exact ShA.ints | apply ShA.cons | apply Sh.lst | apply Sh.tup)); done)))
local macro_rules | `(tactic| walk_at "ne") => `(tactic| (apply rd_neF; (solve | walk_at "d"); (solve | walk_at "d"); (solve | exact Sh.shp (n := 4) (by walk_at "sh"))))
local macro_rules | `(tactic| walk_at "s1") => `(tactic| with_reducible first | (apply i_bm) | apply i_min2 | apply i_max2 | apply i_enum | apply i_rev | apply i_try | apply i_callS | apply i_methS | apply i_raiseX | (apply i_mks; (solve | assumption)) | apply i_rng3 | apply i_txf | (apply i_isX; (solve | assumption); (solve | walk_at "h")) | (apply i_xf; (solve | walk_at "h"); (solve | walk_at "k")) | (apply i_tyK; (solve | assumption)) | apply i_tyS | (apply i_ixK; (solve | assumption); (solve | assumption | with_unfolding_all rfl)) | (apply i_lenK; (solve | assumption); (exact rfl)) | (apply i_tupLN; (solve | walk_at "h")) | (apply i_var; (solve | with_unfolding_all rfl)) | apply i_cons | apply i_nil | apply i_c | apply i_op | apply i_asg | apply i_seq | apply i_gname | apply i_eqS | apply i_eqI | apply i_neS | apply i_tt | apply i_ff | (apply i_ixA; (solve | walk_at "h"); (solve | exact IxO.lst (by assumption) | exact IxO.tup (by assumption) | exact .lst (by with_unfolding_all rfl) | exact .tup (by with_unfolding_all rfl))) | apply i_bl | apply i_test | apply i_ifS | apply i_tupN | (apply i_tupO; (solve | assumption); (exact (sz (by (try simp) <;> omega))); intro p H O) | apply i_fld | (apply i_fldO; (solve | walk_at "h"); (solve | assumption); (solve | assumption); (solve | walk_at "k")) | (apply i_tB; (solve | decide +kernel)) | (apply i_fB; (solve | decide +kernel)) | apply i_ret | apply i_retN | apply i_drop | apply i_next | apply i_brk | apply i_cnt | apply i_par | apply i_par2 | apply i_fldSN | apply i_dput | apply i_un | apply i_rU | apply i_rI0 | apply i_B | apply i_tru | apply i_truB | apply i_and | apply i_or | apply i_not | apply i_andV | apply i_orV | apply i_notV | apply i_if | apply i_call | apply i_meth | apply i_makeN | apply i_cb | apply i_dnewN | apply i_lstN | apply i_bml | apply i_gsub | apply i_gcons | apply i_gnil | apply i_sl | apply i_nop | apply i_part | apply i_prt | apply i_isN | apply i_notN | apply i_yes | apply i_ntt | apply i_nff | apply i_addI | apply i_neI | apply i_intI | apply i_intB | apply i_abs | apply i_isiIB | apply i_isiNB | apply i_isiBB | apply i_dget | apply i_for | apply i_ilist | apply i_itup | apply i_rng1 | apply i_rng2 | apply i_ex1 | apply i_ex2 | apply i_exr | apply i_disp | apply i_pcons | apply i_pnil | apply i_neN | apply i_eqN | apply i_neB | apply i_eqB | apply i_lc | apply i_dnI | apply i_nyI | apply i_dnR | apply i_nyR | (apply i_lenA; (solve | walk_at "h"); (solve | first | exact .lst | exact .tup | exact .dK)) | (apply i_isL; (solve | walk_at "h")) | (apply i_isiLL; (solve | walk_at "h")) | (apply i_isiTL; (solve | walk_at "h")) | (apply i_gtup; (solve | walk_at "h"); (solve | with_unfolding_all rfl)) | (apply i_fldSO; (solve | assumption); (solve | walk_at "u"); (solve | walk_at "f"); (solve | assumption); (solve | assumption); (solve | simp); intro H O) | (apply i_lstO; (solve | assumption); (exact (sz (by (try simp) <;> omega))); intro p H O) | (apply i_makeO; (solve | assumption); intro x dx H O) | (apply i_methO; (solve | walk_at "h"); (solve | walk_at "k")) | (apply i_newO; (solve | assumption); intro p H O) | (apply i_listN; (solve | walk_at "h")) | (apply i_listTN; (solve | walk_at "h")) | (apply i_addN; (solve | walk_at "h"); (solve | walk_at "h"); (exact (sz (by (try simp) <;> omega)))) | apply i_mkd | apply i_gfld | (apply i_glst; (solve | walk_at "h"); (solve | with_unfolding_all rfl)) | apply i_isB | apply i_notB | (apply i_inO; (solve | walk_at "h"); (solve | with_unfolding_all rfl); (solve | with_unfolding_all rfl)) | (apply i_dgetI; (solve | walk_at "h"); (solve | assumption)) | (apply i_in; (solve | with_unfolding_all rfl); (solve | walk_at "e")) | (apply i_setO; (solve | assumption); (solve | walk_at "u"); (solve | with_unfolding_all rfl); intro H O) | (apply i_appO; (solve | assumption); (solve | walk_at "u"); (exact (szl (by (try simp) <;> omega))); intro H O) | (apply i_drawO; (solve | assumption); (exact rfl); (solve | decide); (solve | decide); intro r H h0 h1 O))
local macro_rules | `(tactic| walk_at "s") => `(tactic| repeat (walk_at "s1"))
theorem fl_snoc {n : Nat} {f : Nat → Int} : fl n f ++ [.int (f n)] = fl (n + 1) f := by
  unfold fl
  rw [List.range_succ, List.map_append]
  rfl
theorem fl_inv {n i : Nat} {f : Nat → Int} {x : L2.V} (h : (fl n f)[i]? = some x) : i < n ∧ x = .int (f i) := by
  have := (List.getElem?_eq_some_iff.mp h).1
  rw [fl_len] at this
  rw [fl_get this] at h
  cases h
  exact ⟨this, rfl⟩
set_option maxHeartbeats 32000000 in
theorem pure_l_far (A : Ad) (vs : List V) (H : Hp) (Q : VK) (E : XK) (h : sp_l_far A vs H Q E) : t_l_far A { nx := fun _ H' => Q .non H', rt := Q } (L2.start ["_law_many", "_law_links_here", "_law_goal", "_law_far_here", "_law_k", "_law_a", "_law_b", "_law_at", "_law_n"] vs) H := by
  obtain ⟨a, c, B, ls, lp, ps, n, g, rfl, O, N, hg, kQ⟩ := h
  have Vv := N.v
  have n6 := N.n6
  obtain ⟨lv, hl, hP⟩ := N.l
  have ll := hP.length
  rw [st_l_far]
  unfold t_l_far
  walk_at "s"
  refine ⟨by omega, by omega, fun D hD => ?_⟩
  refine i_lcR n rfl (fun i H' => Own a c B H' ((D, .lst (fl i fun v => if v = g then 0 else 99)) :: ls)) (O.new hD) (fun i H' hi O => ?_) fun H1 O => ?_
  · walk_at "s"
    have e : (if decide ((i : Int) = (g : Int)) = true then V.int 0 else V.int 99) = .int (if i = g then 0 else 99) := by
      by_cases e : i = g
      · simp [e]
      · have : ¬ (i : Int) = (g : Int) := by omega
        simp [e, this]
    have O2 := O.set (p := D) (o' := .lst (fl (i + 1) fun v => if v = g then 0 else 99)) .here
    rw [← fl_snoc] at O2
    by_cases e : i = g
    · subst e
      refine i_d2 (fun _ => ?_) (fun h => absurd rfl h)
      walk_at "s"
      refine ⟨_, O.mem (by walk_at "m"), szl (by rw [fl_len]; omega), ?_⟩
      simp only [if_true] at O2
      rw [← fl_snoc]
      simpa using O2
    · refine i_d2 (fun h => by omega) (fun _ => ?_)
      walk_at "s"
      refine ⟨_, O.mem (by walk_at "m"), szl (by rw [fl_len]; omega), ?_⟩
      rw [← fl_snoc]
      simpa [e] using O2
  walk_at "s"
  refine i_forR n rfl (by omega) (fun r σ H' => ∃ f x4 x5 x6, Rel n ps g f r ∧ σ = [some (.int (n : Nat)), some (.ref lp), some (.int (g : Nat)), some (.ref D), x4, x5, x6, none, none] ∧ Own a c B H' ((D, .lst (fl n f)) :: ls)) ⟨_, none, none, none, Rel.start, rfl, O⟩ ?_ ?_
  · rintro r σ H2 hr ⟨f0, x4, x5, x6, R, rfl, O⟩
    walk_at "s"
    refine i_forL lv (fun i σ H' => ∃ f x5 x6, Rnd n ps g f0 f i ∧ σ = [some (.int (n : Nat)), some (.ref lp), some (.int (g : Nat)), some (.ref D), some (.int (r : Nat)), x5, x6, none, none] ∧ Own a c B H' ((D, .lst (fl n f)) :: ls)) ⟨f0, _, _, ⟨R.snd, fun v => Int.le_refl _, fun j _ _ h => absurd h (by omega)⟩, rfl, O⟩ ?_ ?_ ?_
    · rintro i σ H' ⟨f, x5, x6, _, _, O⟩
      exact SqL.of (O.kp hl)
    · rintro i x σ H' hx ⟨f, x5, x6, S, rfl, O⟩
      obtain ⟨j, hj, t, rfl, hT⟩ := Lb.Paired.at hP hx
      have jm := List.mem_of_getElem? hj
      obtain ⟨u, w, rfl, uw, wn, ad⟩ := Vv.nat jm
      have un : u < n := by omega
      have au : atI (fl n f) (u : Nat) = some (.int (f u)) := fl_at un
      have aw : atI (fl n f) (w : Nat) = some (.int (f w)) := fl_at wn
      walk_at "s"
      refine i_setO O (by walk_at "u") (ix_nat un fl_len) fun H6 O => ?_
      rw [fl_set un] at O
      have O : Own a c B H6 ((D, .lst (fl n (put f u (mn (f u) (f w + 1))))) :: ls) := O
      have au' : atI (fl n (put f u (mn (f u) (f w + 1)))) (u : Nat) = some (.int (put f u (mn (f u) (f w + 1)) u)) := fl_at un
      have aw' : atI (fl n (put f u (mn (f u) (f w + 1)))) (w : Nat) = some (.int (put f u (mn (f u) (f w + 1)) w)) := fl_at wn
      walk_at "s"
      refine i_setO O (by walk_at "u") (ix_nat wn fl_len) fun H6 O => ?_
      rw [fl_set wn] at O
      walk_at "s"
      exact ⟨_, _, _, S.step Vv hj, rfl, O⟩
    · rintro σ H' ⟨f, x5, x6, S, rfl, O⟩
      rw [ll] at S
      exact ⟨f, _, _, _, R.next Vv S, rfl, O⟩
  · rintro σ H2 ⟨f, x4, x5, x6, R, rfl, O⟩
    walk_at "s"
    refine ⟨⟨_, SqL.of (O.mem (by walk_at "m"))⟩, fun D2 hD2 => ?_⟩
    refine i_lcL (fl n f) (fun i H' => Own a c B H' ((D2, .lst (fl i fun v => if 99 ≤ f v then -1 else f v)) :: (D, .lst (fl n f)) :: ls)) (O.new hD2) (fun i H' O => SqL.of (O.mem (by walk_at "m"))) (fun i x H' hx O => ?_) fun H3 O => ?_
    · obtain ⟨hi, rfl⟩ := fl_inv hx
      have O2 := O.set (p := D2) (o' := .lst (fl (i + 1) fun v => if 99 ≤ f v then -1 else f v)) .here
      rw [← fl_snoc] at O2
      walk_at "s"
      refine i_d2 (fun h => ?_) (fun h => ?_)
      · walk_at "s"
        refine ⟨_, O.mem (by walk_at "m"), szl (by rw [fl_len]; omega), ?_⟩
        rw [← fl_snoc]
        simpa [h] using O2
      · walk_at "s"
        refine ⟨_, O.mem (by walk_at "m"), szl (by rw [fl_len]; omega), ?_⟩
        rw [← fl_snoc]
        simpa [h] using O2
    · rw [fl_len] at O
      obtain ⟨B2, s2, hq, O⟩ := O.freeze
      exact kQ _ _ B2 _ s2 hq (R.far Vv hg n6) (O.dropP (by walk_at "p"))
def rws (ra : Nat → Addr) (T : Nat → Nat → Int) (n m : Nat) : List (Addr × HO) := (List.range m).map fun j => (ra j, .lst (fl n (T j)))
theorem rws_succ {ra : Nat → Addr} {T : Nat → Nat → Int} {n m : Nat} : rws ra T n (m + 1) = rws ra T n m ++ [(ra m, .lst (fl n (T m)))] := by
  unfold rws
  rw [List.range_succ, List.map_append]
  rfl
theorem rws_congr {ra ra' : Nat → Addr} {T T' : Nat → Nat → Int} {n m : Nat} (h : ∀ i, i < m → ra i = ra' i ∧ T i = T' i) : rws ra T n m = rws ra' T' n m := by
  unfold rws
  exact List.map_congr_left fun i hi => by rw [(h i (List.mem_range.mp hi)).1, (h i (List.mem_range.mp hi)).2]
def upT {α : Type} (T : Nat → α) (i : Nat) (g : α) : Nat → α := fun j => if j = i then g else T j
theorem upT_at {α : Type} {T : Nat → α} {i : Nat} {g : α} : upT T i g i = g := if_pos rfl
theorem upT_ne {α : Type} {T : Nat → α} {i j : Nat} {g : α} (h : j ≠ i) : upT T i g j = T j := if_neg h
theorem upT_two {α : Type} {T : Nat → α} {i : Nat} {g g' : α} : upT (upT T i g) i g' = upT T i g' := by
  funext j
  unfold upT
  by_cases e : j = i <;> simp [e]
theorem upT_self {α : Type} {T : Nat → α} {i : Nat} : upT T i (T i) = T := by
  funext j
  unfold upT
  by_cases e : j = i <;> simp [e]
theorem put_two {f : Nat → Int} {i : Nat} {y z : Int} : put (put f i y) i z = put f i z := upT_two
theorem put_self {f : Nat → Int} {i : Nat} : put f i (f i) = f := upT_self
theorem Up1.app {p : Addr} {o o' : HO} {l l' : List (Addr × HO)} (h : Up1 p o o' l l') : ∀ r : List (Addr × HO), Up1 p o o' (r ++ l) (r ++ l')
  | [] => h
  | _ :: r => .there (Up1.app h r)
theorem up_rws {ra : Nat → Addr} {T : Nat → Nat → Int} {n i : Nat} {g : Nat → Int} : ∀ {m : Nat} {ls : List (Addr × HO)}, i < m → Up1 (ra i) (.lst (fl n (T i))) (.lst (fl n g)) (rws ra T n m ++ ls) (rws ra (upT T i g) n m ++ ls)
  | 0, _, h => absurd h (by omega)
  | m + 1, ls, h => by
    rw [rws_succ, rws_succ, List.append_assoc, List.append_assoc]
    rcases Nat.lt_or_ge i m with q | q
    · rw [upT_ne (show m ≠ i by omega)]
      exact up_rws q
    · have e : i = m := by omega
      subst e
      rw [upT_at, rws_congr (ra' := ra) (T' := T) fun j hj => ⟨rfl, upT_ne (by omega)⟩]
      exact Up1.app .here _
theorem mem_rws {ra : Nat → Addr} {T : Nat → Nat → Int} {n m i : Nat} (h : i < m) : (ra i, HO.lst (fl n (T i))) ∈ rws ra T n m := List.mem_map.mpr ⟨i, List.mem_range.mpr h, rfl⟩
def rfs (ra : Nat → Addr) (n : Nat) : List V := (List.range n).map fun i => V.ref (ra i)
theorem rfs_len {ra : Nat → Addr} {n : Nat} : (rfs ra n).length = n := by unfold rfs; rw [List.length_map, List.length_range]
theorem rfs_snoc {ra : Nat → Addr} {n : Nat} : rfs ra n ++ [.ref (ra n)] = rfs ra (n + 1) := by
  unfold rfs
  rw [List.range_succ, List.map_append]
  rfl
theorem rfs_congr {ra ra' : Nat → Addr} {n : Nat} (h : ∀ i, i < n → ra i = ra' i) : rfs ra n = rfs ra' n := by
  unfold rfs
  exact List.map_congr_left fun i hi => by rw [h i (List.mem_range.mp hi)]
theorem rfs_at {ra : Nat → Addr} {n i : Nat} (h : i < n) : atI (rfs ra n) (i : Nat) = some (.ref (ra i)) := atI_nat (by
  unfold rfs
  rw [List.getElem?_map, List.getElem?_range h]
  rfl)
def Tb (n : Nat) (ps : Lk) (F : Nat → Nat → Int) (goal at_ : Nat) (T : Nat → Nat → Int) : Prop := ∀ i g, i < n → g < n → T i g = if g < goal ∨ (g = goal ∧ i < at_) then ((hop n ps (F g) i g : Nat) : Int) else i
set_option maxHeartbeats 32000000 in
theorem pure_next_hops (A : Ad) (vs : List V) (H : Hp) (Q : VK) (E : XK) (h : sp_next_hops A vs H Q E) : t_next_hops A { nx := fun _ H' => Q .non H', rt := Q } (L2.start ["processors", "links", "table", "goal", "far", "at", "other"] vs) H := by
  obtain ⟨a, c, B, ls, lp, ps, n, rfl, O, N, kQ⟩ := h
  have Vv := N.v
  have n6 := N.n6
  rw [st_next_hops]
  unfold t_next_hops
  walk_at "s"
  refine ⟨by omega, by omega, fun D hD => ?_⟩
  refine i_lcR n rfl (fun i H' => ∃ ra, Own a c B H' ((D, .lst (rfs ra i)) :: (rws ra (fun j _ => (j : Int)) n i ++ ls))) ⟨fun _ => 0, O.new hD⟩ (fun i H' hi ⟨ra, O⟩ => ?_) fun H1 ⟨ra, O⟩ => ?_
  · walk_at "s"
    rename_i p0 H2 O
    refine i_mul1 O (by walk_at "h") (by omega) fun r H3 O => ?_
    rw [fl_const] at O
    refine ⟨_, O.mem (by walk_at "m"), szl (by rw [rfs_len]; omega), upT ra i r, ?_⟩
    have O := O.set (p := D) (o' := .lst (rfs ra i ++ [.ref r])) (.there (.there .here))
    rw [← rfs_snoc, rws_succ, upT_at, ← rfs_congr (ra := ra) (fun j hj => (upT_ne (by omega)).symm), ← rws_congr (ra := ra) (T := fun j _ => (j : Int)) (fun j hj => ⟨(upT_ne (by omega)).symm, rfl⟩), List.append_assoc]
    refine Own.drop (l1 := [(p0, .lst [.int (i : Nat)])]) (O.perm ?_)
    exact (List.Perm.swap _ _ _).trans (.cons _ ((List.Perm.swap _ _ _).trans (.cons _ (List.perm_middle.symm))))
  walk_at "s"
  refine i_forR n rfl (by omega) (fun goal σ H' => ∃ T F B' x3 x4 x5 x6, Tb n ps F goal 0 T ∧ (∀ g, g < goal → Far n ps g (F g)) ∧ Same B B' ∧ σ = [some (.int (n : Nat)), some (.ref lp), some (.ref D), x3, x4, x5, x6] ∧ Own a c B' H' ((D, .lst (rfs ra n)) :: (rws ra T n n ++ ls)))
    ⟨_, fun _ _ => 0, B, none, none, none, none, fun i g _ _ => by rw [if_neg (by omega)], fun g h => absurd h (by omega), Same.refl _, rfl, O⟩ ?_ ?_
  · rintro goal σ H2 hg ⟨T, F, B2, x3, x4, x5, x6, hT, hF, s2, rfl, O⟩
    walk_at "s"
    refine ⟨a, c, B2, _, lp, ps, n, goal, rfl, O, N.mono s2, hg, fun fa H3 B3 f s3 hf FF O => ?_⟩
    have hT : Tb n ps (upT F goal f) goal 0 T := fun i g hi hgn => by
      rw [hT i g hi hgn]
      by_cases e : g < goal
      · rw [if_pos (.inl e), if_pos (.inl e), upT_ne (by omega)]
      · rw [if_neg (by omega), if_neg (by omega)]
    walk_at "s"
    refine i_forR n rfl (by omega) (fun at_ σ H' => ∃ T B' x5 x6, Tb n ps (upT F goal f) goal at_ T ∧ Same B3 B' ∧ σ = [some (.int (n : Nat)), some (.ref lp), some (.ref D), some (.int (goal : Nat)), some (.ref fa), x5, x6] ∧ Own a c B' H' ((D, .lst (rfs ra n)) :: (rws ra T n n ++ ls)))
      ⟨T, B3, _, _, hT, Same.refl _, rfl, O⟩ ?_ ?_
    · rintro u σ H4 hu ⟨T0, B4, x5, x6, hT0, s4, rfl, O⟩
      walk_at "s"
      refine ⟨a, c, B4, _, lp, ps, n, u, rfl, O, N.mono (Same.trans s2 (Same.trans s3 s4)), hu, fun np H5 B5 s5 hnp O => ?_⟩
      walk_at "s"
      refine i_forV (O.kp hnp) (fun j σ H' => ∃ x6, σ = [some (.int (n : Nat)), some (.ref lp), some (.ref D), some (.int (goal : Nat)), some (.ref fa), some (.int (u : Nat)), x6] ∧
        Own a c B5 H' ((D, .lst (rfs ra n)) :: (rws ra (upT T0 u (put (T0 u) goal ((((nbs n ps u).reverse.take j).foldl (pick fun o => decide (u ≠ goal) && decide (f o = f u - 1)) u : Nat) : Int))) n n ++ ls))) ⟨_, rfl, ?_⟩ ?_ ?_ ?_
      · have e : T0 u goal = (u : Int) := by rw [hT0 u goal hu hg, if_neg (by omega)]
        rw [show (((nbs n ps u).reverse.take 0).foldl (pick fun o => decide (u ≠ goal) && decide (f o = f u - 1)) u : Nat) = u from rfl, ← e, put_self, upT_self]
        exact O
      · rintro j σ H' ⟨x6, _, O⟩
        exact SqL.of (O.kp hnp)
      · rintro j x σ H' hx ⟨x6, rfl, O⟩
        obtain ⟨o, ho, rfl⟩ : ∃ o : Nat, (nbs n ps u).reverse[j]? = some o ∧ x = .int (o : Nat) := by
          unfold nInts at hx
          rw [← List.map_reverse, ← List.map_reverse] at hx
          exact rw_inv hx
        have om : adj ps u o := (mem_nbs Vv).mp (List.mem_reverse.mp (List.mem_of_getElem? ho))
        have on := (Vv.lt om).2
        have hf' := s5 _ _ (s4 _ _ hf)
        have ao : atI (fl n f) (o : Nat) = some (.int (f o)) := fl_at on
        have au : atI (fl n f) (u : Nat) = some (.int (f u)) := fl_at hu
        have ar : atI (rfs ra n) (u : Nat) = some (.ref (ra u)) := rfs_at hu
        have tk : (nbs n ps u).reverse.take (j + 1) = (nbs n ps u).reverse.take j ++ [o] := by rw [List.take_add_one, ho]; rfl
        rw [tk, List.foldl_append]
        generalize ((nbs n ps u).reverse.take j).foldl (pick fun o => decide (u ≠ goal) && decide (f o = f u - 1)) u = acc at O ⊢
        walk_at "s"
        have same : (decide (u ≠ goal) && decide (f o = f u - 1)) = false → [o].foldl (pick fun o => decide (u ≠ goal) && decide (f o = f u - 1)) acc = acc := fun h => by
          show (if (decide (u ≠ goal) && decide (f o = f u - 1)) = true then o else acc) = acc
          rw [h]
          rfl
        refine i_n2 (fun h1 => ?_) (fun h1 => ?_)
        · have ne : u ≠ goal := by omega
          walk_at "s"
          refine i_d2 (fun h2 => ?_) (fun h2 => ?_)
          · have diff : [o].foldl (pick fun o => decide (u ≠ goal) && decide (f o = f u - 1)) acc = o := by
              show (if (decide (u ≠ goal) && decide (f o = f u - 1)) = true then o else acc) = o
              rw [decide_eq_true ne, decide_eq_true h2]
              rfl
            rw [diff]
            walk_at "s"
            have U := up_rws (ra := ra) (T := upT T0 u (put (T0 u) goal (acc : Int))) (n := n) (g := put (upT T0 u (put (T0 u) goal (acc : Int)) u) goal (o : Int)) (ls := ls) hu
            rw [← fl_set hg] at U
            refine i_setO O (.there U) (ix_nat hg fl_len) fun H6 O => ?_
            rw [upT_two, upT_at, put_two] at O
            exact ⟨_, rfl, O⟩
          · rw [same (by rw [decide_eq_false h2, Bool.and_false])]
            walk_at "s"
            exact ⟨_, rfl, O⟩
        · have e : u = goal := by omega
          rw [same (by rw [decide_eq_false (fun z => z e), Bool.false_and])]
          walk_at "s"
          exact ⟨_, rfl, O⟩
      · rintro σ H' ⟨x6, rfl, O⟩
        refine ⟨_, B5, _, _, ?_, Same.trans s4 s5, rfl, O⟩
        rw [List.length_map, show (nInts (nbs n ps u)).length = (nbs n ps u).reverse.length by rw [List.length_reverse]; exact List.length_map _, List.take_length, pick_find]
        have hh : ((nbs n ps u).find? fun o => decide (u ≠ goal) && decide (f o = f u - 1)).getD u = hop n ps f u goal := by
          unfold hop
          by_cases e : u = goal
          · rw [if_pos e, show (fun o : Nat => decide (u ≠ goal) && decide (f o = f u - 1)) = fun _ => false from funext fun o => by rw [decide_eq_false (fun z => z e), Bool.false_and]]
            have : (nbs n ps u).find? (fun _ => false) = none := List.find?_eq_none.mpr fun x _ h => by cases h
            rw [this]
            rfl
          · rw [if_neg e, show (fun o : Nat => decide (u ≠ goal) && decide (f o = f u - 1)) = fun o => decide (f o = f u - 1) from funext fun o => by rw [decide_eq_true e, Bool.true_and]]
        rw [hh]
        intro i g hi hgn
        by_cases e : i = u
        · subst e
          rw [upT_at]
          unfold put
          by_cases e2 : g = goal
          · subst e2
            rw [if_pos rfl, if_pos (.inr ⟨rfl, by omega⟩), upT_at]
          · rw [if_neg e2, hT0 i g hi hgn]
            by_cases e3 : g < goal
            · rw [if_pos (.inl e3), if_pos (.inl e3)]
            · rw [if_neg (by omega), if_neg (by omega)]
        · rw [upT_ne e, hT0 i g hi hgn]
          by_cases e3 : g < goal ∨ (g = goal ∧ i < u)
          · rw [if_pos e3, if_pos (by omega)]
          · rw [if_neg e3, if_neg (by omega)]
    · rintro σ H4 ⟨T1, B4, x5, x6, hT1, s4, rfl, O⟩
      refine ⟨T1, upT F goal f, B4, _, _, _, _, fun i g hi hgn => ?_, fun g h => ?_, Same.trans s2 (Same.trans s3 s4), rfl, O⟩
      · rw [hT1 i g hi hgn]
        by_cases e : g < goal ∨ (g = goal ∧ i < n)
        · rw [if_pos e, if_pos (by omega)]
        · rw [if_neg e, if_neg (by omega)]
      · by_cases e : g = goal
        · subst e
          rw [upT_at]
          exact FF
        · rw [upT_ne e]
          exact hF g (by omega)
  · rintro σ H2 ⟨T, F, B2, x3, x4, x5, x6, hT, hF, s2, rfl, O⟩
    walk_at "s"
    obtain ⟨B3, s3, h3, _, O⟩ := Own.hide (l1 := (D, HO.lst (rfs ra n)) :: rws ra T n n) (l2 := ls) O
    refine kQ D _ B3 ra F (Same.trans s2 s3) (h3 _ List.mem_cons_self) hF (fun i hi => ?_) O
    rw [h3 _ (List.mem_cons_of_mem _ (mem_rws hi))]
    show some (HO.lst (fl n (T i))) = _
    rw [fl_congr fun g hgn => ?_]
    rw [hT i g hi hgn, if_pos (.inl hgn)]
end K40
set_option Elab.async false
set_option linter.all false
set_option maxRecDepth 100000
set_option maxHeartbeats 4000000
namespace K40
open PySem PySem.Spec PyProof.Rows L2 Lb
local macro_rules | `(tactic| walk_at "pm") => `(tactic| (focus ((repeat (first | exact List.Perm.refl _ | (apply Pick.perm; (solve | repeat (first | exact Pick.here | apply Pick.there))))); done)))
local macro_rules | `(tactic| walk_at "h") => `(tactic| first | assumption | exact Own.mem (by assumption) (by walk_at "m") | exact Own.kp (by assumption) (by assumption))
local macro_rules | `(tactic| walk_at "m") => `(tactic| (focus ((repeat (first | assumption | exact List.mem_cons_self | apply List.mem_cons_of_mem)); done)))
local macro_rules | `(tactic| walk_at "u") => `(tactic| (focus ((repeat (first | exact Up1.here | apply Up1.there)); done)))
local macro_rules | `(tactic| walk_at "p") => `(tactic| (focus ((repeat (first | exact Pre.nil | apply Pre.cons)); done)))
local macro_rules | `(tactic| walk_at "f") => `(tactic| (focus ((repeat (first | exact PutF.here | exact PutF.nil | (apply PutF.there; (solve | decide +kernel)))); done)))
local macro_rules | `(tactic| walk_at "k") => `(tactic| (focus ((repeat (first | exact LkF.here rfl | exact LkF.nil rfl | refine LkF.there (by decide +kernel) ?_)); done)))
local macro_rules | `(tactic| walk_at "e") => `(tactic| (focus ((repeat (first | exact StE.nil | apply StE.app | apply StE.got | apply StE.lack)); done)))
local macro_rules | `(tactic| walk_at "d") => `(tactic| (focus ((repeat (first | exact Dt.int _ | exact Dt.str _ | exact Dt.non | exact Dt.bl _ | exact DtAll.nil | exact DtAll.ints _ | apply DtAll.cons | (apply Dt.tup; (solve | walk_at "h")) | (apply Dt.lst; (solve | walk_at "h")))); done)))
local macro_rules | `(tactic| walk_at "sh") => `(tactic| (focus ((repeat (first | exact Sh.int | exact Sh.non | exact Sh.str (by decide +kernel) | exact ShA.nil | exact ShA.ints | apply ShA.cons | apply Sh.lst | apply Sh.tup)); done)))
local macro_rules | `(tactic| walk_at "ne") => `(tactic| (apply rd_neF; (solve | walk_at "d"); (solve | walk_at "d"); (solve | exact Sh.shp (n := 4) (by walk_at "sh"))))
local macro_rules | `(tactic| walk_at "s1") => `(tactic| with_reducible first | (apply i_bm) | apply i_min2 | apply i_max2 | apply i_enum | apply i_rev | apply i_try | apply i_callS | apply i_methS | apply i_raiseX | (apply i_mks; (solve | assumption)) | apply i_rng3 | apply i_txf | (apply i_isX; (solve | assumption); (solve | walk_at "h")) | (apply i_xf; (solve | walk_at "h"); (solve | walk_at "k")) | (apply i_tyK; (solve | assumption)) | apply i_tyS | (apply i_ixK; (solve | assumption); (solve | assumption | with_unfolding_all rfl)) | (apply i_lenK; (solve | assumption); (exact rfl)) | (apply i_tupLN; (solve | walk_at "h")) | (apply i_var; (solve | with_unfolding_all rfl)) | apply i_cons | apply i_nil | apply i_c | apply i_op | apply i_asg | apply i_seq | apply i_gname | apply i_eqS | apply i_eqI | apply i_neS | apply i_tt | apply i_ff | (apply i_ixA; (solve | walk_at "h"); (solve | exact IxO.lst (by assumption) | exact IxO.tup (by assumption) | exact .lst (by with_unfolding_all rfl) | exact .tup (by with_unfolding_all rfl))) | apply i_bl | apply i_test | apply i_ifS | apply i_tupN | (apply i_tupO; (solve | assumption); (exact (sz (by (try simp) <;> omega))); intro p H O) | apply i_fld | (apply i_fldO; (solve | walk_at "h"); (solve | assumption); (solve | assumption); (solve | walk_at "k")) | (apply i_tB; (solve | decide +kernel)) | (apply i_fB; (solve | decide +kernel)) | apply i_ret | apply i_retN | apply i_drop | apply i_next | apply i_brk | apply i_cnt | apply i_par | apply i_par2 | apply i_fldSN | apply i_dput | apply i_un | apply i_rU | apply i_rI0 | apply i_B | apply i_tru | apply i_truB | apply i_and | apply i_or | apply i_not | apply i_andV | apply i_orV | apply i_notV | apply i_if | apply i_call | apply i_meth | apply i_makeN | apply i_cb | apply i_dnewN | apply i_lstN | apply i_bml | apply i_gsub | apply i_gcons | apply i_gnil | apply i_sl | apply i_nop | apply i_part | apply i_prt | apply i_isN | apply i_notN | apply i_yes | apply i_ntt | apply i_nff | apply i_addI | apply i_neI | apply i_intI | apply i_intB | apply i_abs | apply i_isiIB | apply i_isiNB | apply i_isiBB | apply i_dget | apply i_for | apply i_ilist | apply i_itup | apply i_rng1 | apply i_rng2 | apply i_ex1 | apply i_ex2 | apply i_exr | apply i_disp | apply i_pcons | apply i_pnil | apply i_neN | apply i_eqN | apply i_neB | apply i_eqB | apply i_lc | apply i_dnI | apply i_nyI | apply i_dnR | apply i_nyR | (apply i_lenA; (solve | walk_at "h"); (solve | first | exact .lst | exact .tup | exact .dK)) | (apply i_isL; (solve | walk_at "h")) | (apply i_isiLL; (solve | walk_at "h")) | (apply i_isiTL; (solve | walk_at "h")) | (apply i_gtup; (solve | walk_at "h"); (solve | with_unfolding_all rfl)) | (apply i_fldSO; (solve | assumption); (solve | walk_at "u"); (solve | walk_at "f"); (solve | assumption); (solve | assumption); (solve | simp); intro H O) | (apply i_lstO; (solve | assumption); (exact (sz (by (try simp) <;> omega))); intro p H O) | (apply i_makeO; (solve | assumption); intro x dx H O) | (apply i_methO; (solve | walk_at "h"); (solve | walk_at "k")) | (apply i_newO; (solve | assumption); intro p H O) | (apply i_listN; (solve | walk_at "h")) | (apply i_listTN; (solve | walk_at "h")) | (apply i_addN; (solve | walk_at "h"); (solve | walk_at "h"); (exact (sz (by (try simp) <;> omega)))) | apply i_mkd | apply i_gfld | (apply i_glst; (solve | walk_at "h"); (solve | with_unfolding_all rfl)) | apply i_isB | apply i_notB | (apply i_inO; (solve | walk_at "h"); (solve | with_unfolding_all rfl); (solve | with_unfolding_all rfl)) | (apply i_dgetI; (solve | walk_at "h"); (solve | assumption)) | (apply i_in; (solve | with_unfolding_all rfl); (solve | walk_at "e")) | (apply i_setO; (solve | assumption); (solve | walk_at "u"); (solve | with_unfolding_all rfl); intro H O) | (apply i_appO; (solve | assumption); (solve | walk_at "u"); (exact (szl (by (try simp) <;> omega))); intro H O) | (apply i_drawO; (solve | assumption); (exact rfl); (solve | decide); (solve | decide); intro r H h0 h1 O))
local macro_rules | `(tactic| walk_at "s") => `(tactic| repeat (walk_at "s1"))
abbrev t_tail : Ad → TS := fun A => (tIfS (tOr (tTest (tOp (rNeA A.K) (tVar 4) (tVar 5))) (tTest (tOp (rEqA A.K) (tCall spDraw [] E0 (tCons (tVar 0) (tCons (tC (.int 8)) tNil))) (tC (.int 0))))) (tDrop (tBML rAppA (tVar 2) (tCons (tIf (tTest (tOp (rI0 fun i j => .bl (decide (j < i))) (tCall spDraw [] E0 (tCons (tVar 0) (tCons (tC (.int 15)) tNil))) (tC (.int 0)))) (tTup (tCons (tCB rMin2 (tCons (tVar 4) (tCons (tVar 5) tNil))) (tCons (tCB rMax2 (tCons (tVar 4) (tCons (tVar 5) tNil))) tNil))) (tTup (tCons (tCB rMax2 (tCons (tVar 4) (tCons (tVar 5) tNil))) (tCons (tCB rMin2 (tCons (tVar 4) (tCons (tVar 5) tNil))) tNil)))) tNil))) tNext)
structure Lnk (B : Hp) (lv : List V) (ps : Lk) : Prop where
  p : Paired (PairV B) lv ps
theorem Lnk.mono {B B' : Hp} {lv : List V} {ps : Lk} (L : Lnk B lv ps) (s : Same B B') : Lnk B' lv ps := ⟨Lb.Paired.mono (fun _ _ h => h.mono s) L.p⟩
theorem Lnk.snoc {B : Hp} {lv : List V} {ps : Lk} {t : Addr} {x y : Int} (L : Lnk B lv ps) (h : B t = some (.tup [.int x, .int y])) : Lnk B (lv ++ [.ref t]) (ps ++ [(x, y)]) := ⟨L.p.snoc ⟨t, rfl, h⟩⟩
theorem Lnk.len {B : Hp} {lv : List V} {ps : Lk} (L : Lnk B lv ps) : lv.length = ps.length := L.p.length
set_option maxHeartbeats 32000000 in
theorem tail_ok (A : Ad) {a c D : Addr} {B H : Hp} {ls : List (Addr × HO)} {lv : List V} {ps : Lk} {n : Nat} {x y k : Int} {nx : L2.St → Hp → Prop} {rt : VK} {bk ct : L2.St → Hp → Prop} (O : Own a c B H ((D, .lst lv) :: ls)) (L : Lnk B lv ps) (hz : ps.length ≤ 30)
    (kQ : ∀ B' lv' ps' H', Same B B' → Lnk B' lv' ps' → ps'.length ≤ ps.length + 1 → Own a c B' H' ((D, .lst lv') :: ls) → nx [some (.ref a), some (.int (n : Nat)), some (.ref D), some (.int k), some (.int x), some (.int y)] H') :
    t_tail A ⟨nx, rt, bk, ct⟩ [some (.ref a), some (.int (n : Nat)), some (.ref D), some (.int k), some (.int x), some (.int y)] H := by
  have hl := L.len
  have go : ∀ H1, Own a c B H1 ((D, .lst lv) :: ls) → tDrop (tBML rAppA (tVar 2) (tCons (tIf (tTest (tOp (rI0 fun i j => .bl (decide (j < i))) (tCall spDraw [] E0 (tCons (tVar 0) (tCons (tC (.int 15)) tNil))) (tC (.int 0)))) (tTup (tCons (tCB rMin2 (tCons (tVar 4) (tCons (tVar 5) tNil))) (tCons (tCB rMax2 (tCons (tVar 4) (tCons (tVar 5) tNil))) tNil))) (tTup (tCons (tCB rMax2 (tCons (tVar 4) (tCons (tVar 5) tNil))) (tCons (tCB rMin2 (tCons (tVar 4) (tCons (tVar 5) tNil))) tNil)))) tNil)) ⟨nx, rt, bk, ct⟩ [some (.ref a), some (.int (n : Nat)), some (.ref D), some (.int k), some (.int x), some (.int y)] H1 := by
    intro H1 O
    walk_at "s"
    refine i_d2 (fun h2 => ?_) (fun h2 => ?_)
    all_goals
      walk_at "s"
      rename_i O
      obtain ⟨B2, s2, ht, O⟩ := Own.freeze O
      exact kQ B2 _ _ _ s2 ((L.mono s2).snoc ht) (by simp) O
  unfold t_tail
  walk_at "s"
  refine i_n2 (fun h2 => ?_) (fun h2 => ?_)
  · walk_at "s1"
    walk_at "s1"
    exact go _ O
  · walk_at "s"
    rename_i O
    refine i_d2 (fun _ => go _ O) (fun _ => ?_)
    walk_at "s"
    exact kQ B lv ps _ (Same.refl _) L (by omega) O
set_option maxHeartbeats 32000000 in
theorem pure_l_links (A : Ad) (vs : List V) (H : Hp) (Q : VK) (E : XK) (h : sp_l_links A vs H Q E) : t_l_links A { nx := fun _ H' => Q .non H', rt := Q } (L2.start ["_law_state_here", "_law_many", "_law_links_here", "_law_k", "_law_a", "_law_b"] vs) H := by
  obtain ⟨a, c, B, ls, n, rfl, O, n8, kQ⟩ := h
  rw [st_l_links]
  unfold t_l_links
  walk_at "s"
  rename_i D H1 O
  refine i_forR2 (n - 1) (by omega) (by omega) (fun i σ H' => ∃ x3 B' lv ps, Same B B' ∧ Lnk B' lv ps ∧ ps.length ≤ i ∧ σ = [some (.ref a), some (.int (n : Nat)), some (.ref D), x3, none, none] ∧ Own a c B' H' ((D, .lst lv) :: ls)) ⟨none, B, [], [], Same.refl _, ⟨.nil⟩, Nat.le_refl _, rfl, O⟩ ?_ ?_
  · rintro i σ H2 hi ⟨x3, B2, lv, ps, s2, L, hz, rfl, O⟩
    have hl := L.len
    walk_at "s"
    rename_i O
    refine i_d2 (fun h2 => ?_) (fun h2 => ?_)
    · walk_at "s"
      refine i_drawO O rfl (by omega) (by omega) fun r H3 h0 h1 O => ?_
      walk_at "s"
      rename_i O
      obtain ⟨B3, s3, ht, O⟩ := Own.freeze O
      exact ⟨_, B3, _, _, Same.trans s2 s3, (L.mono s3).snoc ht, by simp; omega, rfl, O⟩
    · walk_at "s"
      exact ⟨_, B2, lv, ps, s2, L, by omega, rfl, O⟩
  · rintro σ H2 ⟨x3, B2, lv, ps, s2, L, hz, rfl, O⟩
    walk_at "s"
    rename_i r H3 r0 r1 O
    obtain ⟨m, rfl⟩ : ∃ m : Nat, r = (m : Int) := ⟨r.toNat, by omega⟩
    refine i_forR m rfl (by omega) (fun i σ H' => ∃ x3 x4 x5 B' lv ps, Same B B' ∧ Lnk B' lv ps ∧ ps.length ≤ 8 + i ∧ σ = [some (.ref a), some (.int (n : Nat)), some (.ref D), x3, x4, x5] ∧ Own a c B' H' ((D, .lst lv) :: ls)) ⟨_, _, _, B2, lv, ps, s2, L, by omega, rfl, O⟩ ?_ ?_
    · rintro i σ H4 hi ⟨x3, x4, x5, B4, lv, ps, s4, L, hz, rfl, O⟩
      have hl := L.len
      walk_at "s"
      refine i_drawO O rfl (by split <;> omega) (by split <;> omega) fun r1 H5 p0 p1 O => ?_
      walk_at "s"
      rename_i r2 H7 _ _ O
      rw [ap_rI]
      refine ⟨⟨by decide, by decide⟩, ?_⟩
      walk_at "s"
      refine i_drawO O rfl (by split <;> omega) (by split <;> omega) fun r3 H6 q0 q1 O => ?_
      walk_at "s"
      rename_i r4 H8 _ _ O
      rw [ap_rI]
      refine ⟨⟨by decide, by decide⟩, ?_⟩
      walk_at "s"
      rename_i O
      have fin : ∀ (x y : Int) H' (bk : L2.St → Hp → Prop), Own a c B4 H' ((D, .lst lv) :: ls) → t_tail A ⟨fun σ H' => ∃ x3 x4 x5 B' lv ps, Same B B' ∧ Lnk B' lv ps ∧ ps.length ≤ 8 + (i + 1) ∧ σ = [some (.ref a), some (.int (n : Nat)), some (.ref D), x3, x4, x5] ∧ Own a c B' H' ((D, .lst lv) :: ls), Q, bk, fun σ H' => ∃ x3 x4 x5 B' lv ps, Same B B' ∧ Lnk B' lv ps ∧ ps.length ≤ 8 + (i + 1) ∧ σ = [some (.ref a), some (.int (n : Nat)), some (.ref D), x3, x4, x5] ∧ Own a c B' H' ((D, .lst lv) :: ls)⟩
          [some (.ref a), some (.int (n : Nat)), some (.ref D), some (.int (i : Nat)), some (.int x), some (.int y)] H' := fun x y H' bk O =>
        tail_ok A O L (by omega) fun B' lv' ps' H' s' L' hz' O => ⟨_, _, _, B', lv', ps', Same.trans s4 s', L', by omega, rfl, O⟩
      refine i_d2 (fun _ => ?_) (fun _ => fin _ _ _ _ O)
      walk_at "s"
      rename_i t1 K1 O1 t2 K2 O2 l1 K3 O3 sm K4 O4
      generalize hmn : (if r3 + r4 / 11 < r1 - r2 / 11 then r3 + r4 / 11 else r1 - r2 / 11) = mi at *
      generalize hmx : (if r3 + r4 / 11 > r1 - r2 / 11 then r3 + r4 / 11 else r1 - r2 / 11) = ma at *
      refine i_inP (j := (mi, ma)) (vs := lv ++ [.ref t2]) (ps := ps ++ [(mi, mi)]) ⟨t1, rfl, O4.mem (by walk_at "m")⟩ (O4.mem (by walk_at "m")) (PySem.Paired.snoc (Lb.Paired.mono (fun _ _ h => h.mono O4.keep) L.p) ⟨t2, rfl, O4.mem (by walk_at "m")⟩) ?_
      walk_at "s1"
      refine i_d2 (fun _ => ?_) (fun _ => fin _ _ _ _ (O4.dropP (by walk_at "p")))
      walk_at "s1"
      walk_at "s1"
      walk_at "s1"
      exact fin _ _ _ _ (O4.dropP (by walk_at "p"))
    · rintro σ H4 ⟨x3, x4, x5, B4, lv, ps, s4, L, hz, rfl, O⟩
      walk_at "s"
      obtain ⟨B5, s5, hq, O⟩ := Own.freeze O
      exact kQ D _ B5 lv ps (Same.trans s4 s5) hq (L.mono s5).p (by omega) O
end K40
set_option Elab.async false
set_option linter.all false
set_option maxRecDepth 100000
set_option maxHeartbeats 4000000
namespace K40
open PySem PySem.Spec PyProof.Rows L2 Lb
local macro_rules | `(tactic| walk_at "pm") => `(tactic| (focus ((repeat (first | exact List.Perm.refl _ | (apply Pick.perm; (solve | repeat (first | exact Pick.here | apply Pick.there))))); done)))
local macro_rules | `(tactic| walk_at "h") => `(tactic| first | assumption | exact Own.mem (by assumption) (by walk_at "m") | exact Own.kp (by assumption) (by assumption))
local macro_rules | `(tactic| walk_at "m") => `(tactic| (focus ((repeat (first | assumption | exact List.mem_cons_self | apply List.mem_cons_of_mem)); done)))
local macro_rules | `(tactic| walk_at "u") => `(tactic| (focus ((repeat (first | exact Up1.here | apply Up1.there)); done)))
local macro_rules | `(tactic| walk_at "p") => `(tactic| (focus ((repeat (first | exact Pre.nil | apply Pre.cons)); done)))
local macro_rules | `(tactic| walk_at "f") => `(tactic| (focus ((repeat (first | exact PutF.here | exact PutF.nil | (apply PutF.there; (solve | decide +kernel)))); done)))
local macro_rules | `(tactic| walk_at "k") => `(tactic| (focus ((repeat (first | exact LkF.here rfl | exact LkF.nil rfl | refine LkF.there (by decide +kernel) ?_)); done)))
local macro_rules | `(tactic| walk_at "e") => `(tactic| (focus ((repeat (first | exact StE.nil | apply StE.app | apply StE.got | apply StE.lack)); done)))
local macro_rules | `(tactic| walk_at "d") => `(tactic| (focus ((repeat (first | exact Dt.int _ | exact Dt.str _ | exact Dt.non | exact Dt.bl _ | exact DtAll.nil | exact DtAll.ints _ | apply DtAll.cons | (apply Dt.tup; (solve | walk_at "h")) | (apply Dt.lst; (solve | walk_at "h")))); done)))
local macro_rules | `(tactic| walk_at "sh") => `(tactic| (focus ((repeat (first | exact Sh.int | exact Sh.non | exact Sh.str (by decide +kernel) | exact ShA.nil | exact ShA.ints | apply ShA.cons | apply Sh.lst | apply Sh.tup)); done)))
local macro_rules | `(tactic| walk_at "ne") => `(tactic| (apply rd_neF; (solve | walk_at "d"); (solve | walk_at "d"); (solve | exact Sh.shp (n := 4) (by walk_at "sh"))))
local macro_rules | `(tactic| walk_at "s1") => `(tactic| with_reducible first | (apply i_bm) | apply i_min2 | apply i_max2 | apply i_enum | apply i_rev | apply i_try | apply i_callS | apply i_methS | apply i_raiseX | (apply i_mks; (solve | assumption)) | apply i_rng3 | apply i_txf | (apply i_isX; (solve | assumption); (solve | walk_at "h")) | (apply i_xf; (solve | walk_at "h"); (solve | walk_at "k")) | (apply i_tyK; (solve | assumption)) | apply i_tyS | (apply i_ixK; (solve | assumption); (solve | assumption | with_unfolding_all rfl)) | (apply i_lenK; (solve | assumption); (exact rfl)) | (apply i_tupLN; (solve | walk_at "h")) | (apply i_var; (solve | with_unfolding_all rfl)) | apply i_cons | apply i_nil | apply i_c | apply i_op | apply i_asg | apply i_seq | apply i_gname | apply i_eqS | apply i_eqI | apply i_neS | apply i_tt | apply i_ff | (apply i_ixA; (solve | walk_at "h"); (solve | exact IxO.lst (by assumption) | exact IxO.tup (by assumption) | exact .lst (by with_unfolding_all rfl) | exact .tup (by with_unfolding_all rfl))) | apply i_bl | apply i_test | apply i_ifS | apply i_tupN | (apply i_tupO; (solve | assumption); (exact (sz (by (try simp) <;> omega))); intro p H O) | apply i_fld | (apply i_fldO; (solve | walk_at "h"); (solve | assumption); (solve | assumption); (solve | walk_at "k")) | (apply i_tB; (solve | decide +kernel)) | (apply i_fB; (solve | decide +kernel)) | apply i_ret | apply i_retN | apply i_drop | apply i_next | apply i_brk | apply i_cnt | apply i_par | apply i_par2 | apply i_fldSN | apply i_dput | apply i_un | apply i_rU | apply i_rI0 | apply i_B | apply i_tru | apply i_truB | apply i_and | apply i_or | apply i_not | apply i_andV | apply i_orV | apply i_notV | apply i_if | apply i_call | apply i_meth | apply i_makeN | apply i_cb | apply i_dnewN | apply i_lstN | apply i_bml | apply i_gsub | apply i_gcons | apply i_gnil | apply i_sl | apply i_nop | apply i_part | apply i_prt | apply i_isN | apply i_notN | apply i_yes | apply i_ntt | apply i_nff | apply i_addI | apply i_neI | apply i_intI | apply i_intB | apply i_abs | apply i_isiIB | apply i_isiNB | apply i_isiBB | apply i_dget | apply i_for | apply i_ilist | apply i_itup | apply i_rng1 | apply i_rng2 | apply i_ex1 | apply i_ex2 | apply i_exr | apply i_disp | apply i_pcons | apply i_pnil | apply i_neN | apply i_eqN | apply i_neB | apply i_eqB | apply i_lc | apply i_dnI | apply i_nyI | apply i_dnR | apply i_nyR | (apply i_lenA; (solve | walk_at "h"); (solve | first | exact .lst | exact .tup | exact .dK)) | (apply i_isL; (solve | walk_at "h")) | (apply i_isiLL; (solve | walk_at "h")) | (apply i_isiTL; (solve | walk_at "h")) | (apply i_gtup; (solve | walk_at "h"); (solve | with_unfolding_all rfl)) | (apply i_fldSO; (solve | assumption); (solve | walk_at "u"); (solve | walk_at "f"); (solve | assumption); (solve | assumption); (solve | simp); intro H O) | (apply i_lstO; (solve | assumption); (exact (sz (by (try simp) <;> omega))); intro p H O) | (apply i_makeO; (solve | assumption); intro x dx H O) | (apply i_methO; (solve | walk_at "h"); (solve | walk_at "k")) | (apply i_newO; (solve | assumption); intro p H O) | (apply i_listN; (solve | walk_at "h")) | (apply i_listTN; (solve | walk_at "h")) | (apply i_addN; (solve | walk_at "h"); (solve | walk_at "h"); (exact (sz (by (try simp) <;> omega)))) | apply i_mkd | apply i_gfld | (apply i_glst; (solve | walk_at "h"); (solve | with_unfolding_all rfl)) | apply i_isB | apply i_notB | (apply i_inO; (solve | walk_at "h"); (solve | with_unfolding_all rfl); (solve | with_unfolding_all rfl)) | (apply i_dgetI; (solve | walk_at "h"); (solve | assumption)) | (apply i_in; (solve | with_unfolding_all rfl); (solve | walk_at "e")) | (apply i_setO; (solve | assumption); (solve | walk_at "u"); (solve | with_unfolding_all rfl); intro H O) | (apply i_appO; (solve | assumption); (solve | walk_at "u"); (exact (szl (by (try simp) <;> omega))); intro H O) | (apply i_drawO; (solve | assumption); (exact rfl); (solve | decide); (solve | decide); intro r H h0 h1 O))
local macro_rules | `(tactic| walk_at "s") => `(tactic| repeat (walk_at "s1"))
theorem inV_fl {n : Nat} {f : Nat → Int} {z : Int} : inV (.int z) (fl n f) = decide (∃ v, v < n ∧ f v = z) := by
  induction n with
  | zero => simp [fl, inV]
  | succ n ih =>
    rw [← fl_snoc]
    have e : ∀ xs : List L2.V, inV (.int z) (xs ++ [.int (f n)]) = (inV (.int z) xs || (f n == z)) := fun xs => by
      unfold inV
      rw [List.any_append]
      simp [eqV]
    rw [e, ih, Bool.eq_iff_iff]
    simp only [Bool.or_eq_true, decide_eq_true_eq, beq_iff_eq]
    constructor
    · rintro (⟨v, h1, h2⟩ | h)
      · exact ⟨v, by omega, h2⟩
      · exact ⟨n, by omega, h⟩
    · rintro ⟨v, h3, h4⟩
      by_cases e : v = n
      · exact .inr (e ▸ h4)
      · exact .inl ⟨v, by omega, h4⟩
theorem flat_fl {n : Nat} {f : Nat → Int} : (fl n f).all flatV = true := by
  rw [List.all_eq_true]
  intro v hv
  unfold fl at hv
  obtain ⟨o, _, rfl⟩ := List.mem_map.mp hv
  rfl
theorem i_inFl {K : PySem.W.Frag} {H : Hp} {Q : VK} {p : Addr} {n : Nat} {f : Nat → Int} {z : Int} (h : H p = some (.lst (fl n f))) (q : Q (.bl (decide (∃ v, v < n ∧ f v = z))) H) : rIn K false (.int z) (.ref p) H Q := ⟨p, _, rfl, .inl (SqL.of h), rfl, flat_fl, by rw [inV_fl]; exact q⟩
theorem far_conn {n : Nat} {ps : Lk} {f : Nat → Int} (F : Far n ps 0 f) : (∃ v, v < n ∧ f v = -1) ↔ ¬ Conn n ps := by
  constructor
  · rintro ⟨v, h, e⟩ C
    obtain ⟨m, w⟩ := C v h
    rcases F v h with ⟨d, e', _⟩ | ⟨_, k⟩
    · omega
    · exact k m w
  · intro C
    apply Classical.byContradiction
    intro h
    refine C fun v hv => ?_
    rcases F v hv with ⟨d, _, l⟩ | ⟨e, _⟩
    · exact ⟨d, l.1⟩
    · exact absurd ⟨v, hv, e⟩ h
theorem far_low {n : Nat} {ps : Lk} {g : Nat} {f : Nat → Int} (F : Far n ps g f) {v : Nat} (hv : v < n) : -1 ≤ f v := by
  rcases F v hv with ⟨d, e, _⟩ | ⟨e, _⟩ <;> omega
set_option maxHeartbeats 32000000 in
theorem pure_l_due (A : Ad) (vs : List V) (H : Hp) (Q : VK) (E : XK) (h : sp_l_due A vs H Q E) : t_l_due A { nx := fun _ H' => Q .non H', rt := Q } (L2.start ["_law_many", "_law_links_here", "_law_k", "_law_a", "_law_b"] vs) H := by
  obtain ⟨a, c, B, ls, lp, lv, ps, n, rfl, O, hl, hP, hz, kQ⟩ := h
  have ll := hP.length
  rw [st_l_due]
  unfold t_l_due
  walk_at "s"
  refine i_d2 (fun h1 => ?_) (fun h1 => ?_)
  · walk_at "s"
    exact kQ _ _ B (Same.refl _) (.procs (.inl h1)) O
  walk_at "s"
  refine i_d2 (fun h2 => ?_) (fun h2 => ?_)
  · walk_at "s"
    exact kQ _ _ B (Same.refl _) (.procs (.inr h2)) O
  have hn : 1 ≤ n ∧ n ≤ 6 := by omega
  walk_at "s"
  refine i_forR ps.length (by rw [ll]) (by omega) (fun i σ H' => ∃ x2 x3 x4, (∀ k, k < i → ¬ Bad n ps k) ∧ σ = [some (.int n), some (.ref lp), x2, x3, x4] ∧ Own a c B H' ls) ⟨_, _, _, fun k h => absurd h (by omega), rfl, O⟩ ?_ ?_
  · rintro i σ H1 hi ⟨x2, x3, x4, hb, rfl, O⟩
    have hv := List.getElem?_eq_getElem (show i < lv.length by omega)
    generalize lv[i] = y at hv
    obtain ⟨⟨x, z⟩, hj, t, rfl, hT⟩ := Lb.Paired.at hP hv
    have av : atI lv (i : Nat) = some (.ref t) := atI_nat hv
    walk_at "s"
    refine i_d2 (fun h3 => ?_) (fun h3 => ?_)
    · walk_at "s"
      exact kQ _ _ B (Same.refl _) (.links hn i ⟨_, hj, .inl h3⟩) O
    walk_at "s"
    refine i_d2 (fun h4 => ?_) (fun h4 => ?_)
    · walk_at "s"
      exact kQ _ _ B (Same.refl _) (.links hn i ⟨_, hj, .inr (.inr (.inl h4))⟩) O
    walk_at "s"
    refine i_d2 (fun h5 => ?_) (fun h5 => ?_)
    · walk_at "s"
      exact kQ _ _ B (Same.refl _) (.links hn i ⟨_, hj, .inr (.inl h5)⟩) O
    walk_at "s"
    rename_i t2 H2 O
    refine i_slO O (O.kp hl) (cut_to (by omega)) fun p2 H3 O => ?_
    refine i_inP (j := (x, z)) ⟨t2, rfl, O.mem (by walk_at "m")⟩ (O.mem (by walk_at "m")) (Lb.Paired.mono (fun _ _ h => h.mono O.keep) (Lb.Paired.take hP i)) ?_
    walk_at "s"
    refine i_d2 (fun h6 => ?_) (fun h6 => ?_)
    · walk_at "s"
      exact kQ _ _ B (Same.refl _) (.links hn i ⟨_, hj, .inr (.inr (.inr h6))⟩) (O.dropP (by walk_at "p"))
    walk_at "s"
    refine ⟨_, _, _, fun k hk => ?_, rfl, O.dropP (by walk_at "p")⟩
    by_cases e : k = i
    · subst e
      rintro ⟨j, hj', hbad⟩
      rw [hj] at hj'
      cases hj'
      rcases hbad with h | h | h | h
      · exact h3 h
      · exact h5 h
      · exact h4 h
      · exact h6 h
    · exact hb k (by omega)
  · rintro σ H1 ⟨x2, x3, x4, hb, rfl, O⟩
    have hb : ∀ k, ¬ Bad n ps k := fun k => by
      rcases Nat.lt_or_ge k ps.length with q | q
      · exact hb k q
      · rintro ⟨j, hj, _⟩
        rw [List.getElem?_eq_none q] at hj
        cases hj
    have Vv := val_of hn hb
    obtain ⟨m, rfl⟩ : ∃ m : Nat, n = (m : Int) := ⟨n.toNat, by omega⟩
    rw [Int.toNat_natCast] at Vv
    walk_at "s"
    refine ⟨a, c, B, ls, lp, ps, m, 0, rfl, O, ⟨⟨lv, hl, hP⟩, Vv, by omega, hz⟩, by omega, fun fa H2 B2 f s2 hf F O => ?_⟩
    refine i_inFl (O.kp hf) ?_
    walk_at "s"
    refine i_d2 (fun h6 => ?_) (fun h6 => ?_)
    · walk_at "s"
      exact kQ _ _ B2 s2 (.parts hn hb ((far_conn F).mp h6)) O
    · walk_at "s"
      exact kQ _ _ B2 s2 (.ok hn hb (Classical.byContradiction fun z => h6 ((far_conn F).mpr z))) O
set_option maxHeartbeats 32000000 in
theorem pure_check_network (A : Ad) (vs : List V) (H : Hp) (Q : VK) (E : XK) (h : sp_check_network A vs H Q E) : t_check_network A (fun cls d _ H => E cls d H) { nx := fun _ H' => Q .non H', rt := Q } (L2.start ["processors", "links", "at", "link", "a", "b"] vs) H := by
  obtain ⟨a, c, B, ls, lp, lv, ps, n, rfl, F, O, hl, hP, hz, kE, kQ⟩ := h
  have ec := F.ec
  have ll := hP.length
  rw [st_check_network]
  unfold t_check_network
  walk_at "s"
  refine i_d2 (fun h1 => ?_) (fun h1 => ?_)
  · walk_at "s"
    intro d hd
    exact kE _ _ _ B (.procs (.inl h1)) (Same.refl _) (O.new hd)
  walk_at "s"
  refine i_d2 (fun h2 => ?_) (fun h2 => ?_)
  · walk_at "s"
    intro d hd
    exact kE _ _ _ B (.procs (.inr h2)) (Same.refl _) (O.new hd)
  have hn : 1 ≤ n ∧ n ≤ 6 := by omega
  walk_at "s"
  refine i_forE (O.kp hl) (fun i σ H' => ∃ x2 x3 x4 x5, (∀ k, k < i → ¬ Bad n ps k) ∧ σ = [some (.int n), some (.ref lp), x2, x3, x4, x5] ∧ Own a c B H' ls) ⟨_, _, _, _, fun k h => absurd h (by omega), rfl, O⟩ ?_ ?_ ?_
  · rintro i σ H' ⟨x2, x3, x4, x5, _, _, O⟩
    exact SqL.of (O.kp hl)
  · rintro i y T σ H1 hv hT ⟨x2, x3, x4, x5, hb, rfl, O⟩
    have hi := (List.getElem?_eq_some_iff.mp hv).1
    have O := O.new (o := .tup [.int (i : Nat), y]) hT
    obtain ⟨⟨x, z⟩, hj, t, rfl, hT2⟩ := Lb.Paired.at hP hv
    walk_at "s"
    refine i_d2 (fun h3 => ?_) (fun h3 => ?_)
    · walk_at "s"
      intro d hd
      exact kE _ _ _ B (.links hn i ⟨_, hj, .inl h3⟩) (Same.refl _) ((O.dropP (l0 := ls) (by walk_at "p")).new hd)
    walk_at "s"
    refine i_d2 (fun h5 => ?_) (fun h5 => ?_)
    · walk_at "s"
      intro d hd
      exact kE _ _ _ B (.links hn i ⟨_, hj, .inr (.inl h5)⟩) (Same.refl _) ((O.dropP (l0 := ls) (by walk_at "p")).new hd)
    walk_at "s"
    refine i_d2 (fun h4 => ?_) (fun h4 => ?_)
    · walk_at "s"
      intro d hd
      exact kE _ _ _ B (.links hn i ⟨_, hj, .inr (.inr (.inl h4))⟩) (Same.refl _) ((O.dropP (l0 := ls) (by walk_at "p")).new hd)
    walk_at "s"
    refine i_slO O (O.kp hl) (cut_to (by omega)) fun p2 H3 O => ?_
    refine i_inP (j := (x, z)) ⟨t, rfl, O.kp hT2⟩ (O.mem (by walk_at "m")) (Lb.Paired.mono (fun _ _ h => h.mono O.keep) (Lb.Paired.take hP i)) ?_
    walk_at "s"
    refine i_d2 (fun h6 => ?_) (fun h6 => ?_)
    · walk_at "s"
      intro d hd
      exact kE _ _ _ B (.links hn i ⟨_, hj, .inr (.inr (.inr h6))⟩) (Same.refl _) ((O.dropP (l0 := ls) (by walk_at "p")).new hd)
    walk_at "s"
    refine ⟨_, _, _, _, fun k hk => ?_, rfl, O.dropP (by walk_at "p")⟩
    by_cases e : k = i
    · subst e
      rintro ⟨j, hj', hbad⟩
      rw [hj] at hj'
      cases hj'
      rcases hbad with h | h | h | h
      · exact h3 h
      · exact h5 h
      · exact h4 h
      · exact h6 h
    · exact hb k (by omega)
  · rintro σ H1 ⟨x2, x3, x4, x5, hb, rfl, O⟩
    have hb : ∀ k, ¬ Bad n ps k := fun k => by
      rcases Nat.lt_or_ge k ps.length with q | q
      · exact hb k (by omega)
      · rintro ⟨j, hj, _⟩
        rw [List.getElem?_eq_none q] at hj
        cases hj
    have Vv := val_of hn hb
    obtain ⟨m, rfl⟩ : ∃ m : Nat, n = (m : Int) := ⟨n.toNat, by omega⟩
    rw [Int.toNat_natCast] at Vv
    walk_at "s"
    refine ⟨a, c, B, ls, lp, ps, m, 0, rfl, O, ⟨⟨lv, hl, hP⟩, Vv, by omega, hz⟩, by omega, fun fa H2 B2 f s2 hf F O => ?_⟩
    walk_at "s"
    refine i_minL (ns := (List.range m).map f) (by rw [← fl_ints]; exact O.kp hf) (by rw [List.length_map, List.length_range]; omega) fun w hw lo => ?_
    obtain ⟨v, hv, rfl⟩ := List.mem_map.mp hw
    have hv := List.mem_range.mp hv
    walk_at "s"
    refine i_d2 (fun h6 => ?_) (fun h6 => ?_)
    · walk_at "s"
      intro d hd
      refine kE _ _ _ B2 (.parts hn hb ((far_conn F).mp ⟨v, hv, ?_⟩)) s2 (O.new hd)
      have := far_low F hv
      omega
    · walk_at "s"
      refine kQ (.ok hn hb (Classical.byContradiction fun z => ?_)) _ B2 s2 O
      obtain ⟨u, h1, h2⟩ := (far_conn F).mpr z
      have := lo (f u) (List.mem_map.mpr ⟨u, List.mem_range.mpr h1, rfl⟩)
      omega
set_option maxHeartbeats 32000000 in
theorem pure_l_told (A : Ad) (vs : List V) (H : Hp) (Q : VK) (E : XK) (h : sp_l_told A vs H Q E) : t_l_told A { nx := fun _ H' => Q .non H', rt := Q } (L2.start ["_law_many", "_law_links_here", "e"] vs) H := by
  obtain ⟨a, c, B, ls, lp, lv, ps, n, rfl, F, O, hl, hP, hz, kQ⟩ := h
  have ec := F.ec
  rw [st_l_told]
  unfold t_l_told
  walk_at "s"
  refine ⟨a, c, B, ls, lp, lv, ps, n, rfl, F, O, hl, hP, hz, fun r d H' B' D s O => ?_, fun D H' B' s O => ?_⟩
  · refine i_was ec fun a' ha' => ?_
    walk_at "s"
    exact kQ _ _ B' s D (O.dropP (by walk_at "p"))
  · walk_at "s"
    exact kQ _ _ B' s D O
end K40
set_option Elab.async false
set_option linter.all false
set_option maxRecDepth 100000
set_option maxHeartbeats 4000000
namespace K40
open PySem PySem.Spec PyProof.Rows L2 Lb
local macro_rules | `(tactic| walk_at "pm") => `(tactic| (focus ((repeat (first | exact List.Perm.refl _ | (apply Pick.perm; (solve | repeat (first | exact Pick.here | apply Pick.there))))); done)))
local macro_rules | `(tactic| walk_at "h") => `(tactic| first | assumption | exact Own.mem (by assumption) (by walk_at "m") | exact Own.kp (by assumption) (by assumption))
local macro_rules | `(tactic| walk_at "m") => `(tactic| (focus ((repeat (first | assumption | exact List.mem_cons_self | apply List.mem_cons_of_mem)); done)))
local macro_rules | `(tactic| walk_at "u") => `(tactic| (focus ((repeat (first | exact Up1.here | apply Up1.there)); done)))
local macro_rules | `(tactic| walk_at "p") => `(tactic| (focus ((repeat (first | exact Pre.nil | apply Pre.cons)); done)))
local macro_rules | `(tactic| walk_at "f") => `(tactic| (focus ((repeat (first | exact PutF.here | exact PutF.nil | (apply PutF.there; (solve | decide +kernel)))); done)))
local macro_rules | `(tactic| walk_at "k") => `(tactic| (focus ((repeat (first | exact LkF.here rfl | exact LkF.nil rfl | refine LkF.there (by decide +kernel) ?_)); done)))
local macro_rules | `(tactic| walk_at "e") => `(tactic| (focus ((repeat (first | exact StE.nil | apply StE.app | apply StE.got | apply StE.lack)); done)))
local macro_rules | `(tactic| walk_at "d") => `(tactic| (focus ((repeat (first | exact Dt.int _ | exact Dt.str _ | exact Dt.non | exact Dt.bl _ | exact DtAll.nil | exact DtAll.ints _ | apply DtAll.cons | (apply Dt.tup; (solve | walk_at "h")) | (apply Dt.lst; (solve | walk_at "h")))); done)))
local macro_rules | `(tactic| walk_at "sh") => `(tactic| (focus ((repeat (first | exact Sh.int | exact Sh.non | exact Sh.str (by decide +kernel) | exact ShA.nil | exact ShA.ints | apply ShA.cons | apply Sh.lst | apply Sh.tup)); done)))
local macro_rules | `(tactic| walk_at "ne") => `(tactic| (apply rd_neF; (solve | walk_at "d"); (solve | walk_at "d"); (solve | exact Sh.shp (n := 4) (by walk_at "sh"))))
local macro_rules | `(tactic| walk_at "s1") => `(tactic| with_reducible first | (apply i_bm) | apply i_min2 | apply i_max2 | apply i_enum | apply i_rev | apply i_try | apply i_callS | apply i_methS | apply i_raiseX | (apply i_mks; (solve | assumption)) | apply i_rng3 | apply i_txf | (apply i_isX; (solve | assumption); (solve | walk_at "h")) | (apply i_xf; (solve | walk_at "h"); (solve | walk_at "k")) | (apply i_tyK; (solve | assumption)) | apply i_tyS | (apply i_ixK; (solve | assumption); (solve | assumption | with_unfolding_all rfl)) | (apply i_lenK; (solve | assumption); (exact rfl)) | (apply i_tupLN; (solve | walk_at "h")) | (apply i_var; (solve | with_unfolding_all rfl)) | apply i_cons | apply i_nil | apply i_c | apply i_op | apply i_asg | apply i_seq | apply i_gname | apply i_eqS | apply i_eqI | apply i_neS | apply i_tt | apply i_ff | (apply i_ixA; (solve | walk_at "h"); (solve | exact IxO.lst (by assumption) | exact IxO.tup (by assumption) | exact .lst (by with_unfolding_all rfl) | exact .tup (by with_unfolding_all rfl))) | apply i_bl | apply i_test | apply i_ifS | apply i_tupN | (apply i_tupO; (solve | assumption); (exact (sz (by (try simp) <;> omega))); intro p H O) | apply i_fld | (apply i_fldO; (solve | walk_at "h"); (solve | assumption); (solve | assumption); (solve | walk_at "k")) | (apply i_tB; (solve | decide +kernel)) | (apply i_fB; (solve | decide +kernel)) | apply i_ret | apply i_retN | apply i_drop | apply i_next | apply i_brk | apply i_cnt | apply i_par | apply i_par2 | apply i_fldSN | apply i_dput | apply i_un | apply i_rU | apply i_rI0 | apply i_B | apply i_tru | apply i_truB | apply i_and | apply i_or | apply i_not | apply i_andV | apply i_orV | apply i_notV | apply i_if | apply i_call | apply i_meth | apply i_makeN | apply i_cb | apply i_dnewN | apply i_lstN | apply i_bml | apply i_gsub | apply i_gcons | apply i_gnil | apply i_sl | apply i_nop | apply i_part | apply i_prt | apply i_isN | apply i_notN | apply i_yes | apply i_ntt | apply i_nff | apply i_addI | apply i_neI | apply i_intI | apply i_intB | apply i_abs | apply i_isiIB | apply i_isiNB | apply i_isiBB | apply i_dget | apply i_for | apply i_ilist | apply i_itup | apply i_rng1 | apply i_rng2 | apply i_ex1 | apply i_ex2 | apply i_exr | apply i_disp | apply i_pcons | apply i_pnil | apply i_neN | apply i_eqN | apply i_neB | apply i_eqB | apply i_lc | apply i_dnI | apply i_nyI | apply i_dnR | apply i_nyR | (apply i_lenA; (solve | walk_at "h"); (solve | first | exact .lst | exact .tup | exact .dK)) | (apply i_isL; (solve | walk_at "h")) | (apply i_isiLL; (solve | walk_at "h")) | (apply i_isiTL; (solve | walk_at "h")) | (apply i_gtup; (solve | walk_at "h"); (solve | with_unfolding_all rfl)) | (apply i_fldSO; (solve | assumption); (solve | walk_at "u"); (solve | walk_at "f"); (solve | assumption); (solve | assumption); (solve | simp); intro H O) | (apply i_lstO; (solve | assumption); (exact (sz (by (try simp) <;> omega))); intro p H O) | (apply i_makeO; (solve | assumption); intro x dx H O) | (apply i_methO; (solve | walk_at "h"); (solve | walk_at "k")) | (apply i_newO; (solve | assumption); intro p H O) | (apply i_listN; (solve | walk_at "h")) | (apply i_listTN; (solve | walk_at "h")) | (apply i_addN; (solve | walk_at "h"); (solve | walk_at "h"); (exact (sz (by (try simp) <;> omega)))) | apply i_mkd | apply i_gfld | (apply i_glst; (solve | walk_at "h"); (solve | with_unfolding_all rfl)) | apply i_isB | apply i_notB | (apply i_inO; (solve | walk_at "h"); (solve | with_unfolding_all rfl); (solve | with_unfolding_all rfl)) | (apply i_dgetI; (solve | walk_at "h"); (solve | assumption)) | (apply i_in; (solve | with_unfolding_all rfl); (solve | walk_at "e")) | (apply i_setO; (solve | assumption); (solve | walk_at "u"); (solve | with_unfolding_all rfl); intro H O) | (apply i_appO; (solve | assumption); (solve | walk_at "u"); (exact (szl (by (try simp) <;> omega))); intro H O) | (apply i_drawO; (solve | assumption); (exact rfl); (solve | decide); (solve | decide); intro r H h0 h1 O))
local macro_rules | `(tactic| walk_at "s") => `(tactic| repeat (walk_at "s1"))
theorem dt_fl {H : Hp} {p : Addr} {n : Nat} {f : Nat → Int} (h : H p = some (.lst (fl n f))) : Dt H (.ref p) (.list (((List.range n).map f).map PyData.int)) := .lst h (by rw [fl_ints]; exact .ints _)
set_option maxHeartbeats 32000000 in
theorem pure_law (A : Ad) (vs : List V) (H : Hp) (Q : VK) (E : XK) (h : sp_law A vs H Q E) : t_law A { nx := fun _ H' => Q .non H', rt := Q } (L2.start ["_law_script", "_law_state_here", "_law_many", "_law_links_here", "_law_due_here", "_law_hops", "_law_goal", "_law_far_here", "_law_at", "_law_near", "_law_a", "_law_b"] vs) H := by
  obtain ⟨sc, ns, rfl, hs, hn, CFA, q⟩ := h
  rw [st_law]
  unfold t_law
  walk_at "s"
  refine ⟨sc, ns, rfl, hs, hn, fun H1 a c sm R _ _ => ?_⟩
  have O := Own.start R
  generalize hB : hid [a, c] H1 = B at O
  walk_at "s"
  rename_i r1 K1 r10 r11 O1 r2 K2 r20 r21 O2 r3 K3 r30 r31 O3 p K4 O4
  refine i_pickO O4 rfl List.mem_cons_self (by simp) (by simp) fun v H5 hv O => ?_
  obtain ⟨n, rfl, n8⟩ : ∃ n : Nat, v = .int (n : Nat) ∧ n ≤ 8 := by
    simp only [List.mem_cons, List.not_mem_nil, or_false] at hv
    rcases hv with rfl | rfl | rfl
    · exact ⟨(1 + r1).toNat, by rw [Int.toNat_of_nonneg (by omega)], by omega⟩
    · exact ⟨(2 + r2).toNat, by rw [Int.toNat_of_nonneg (by omega)], by omega⟩
    · exact ⟨r3.toNat, by rw [Int.toNat_of_nonneg (by omega)], by omega⟩
  have O := O.dropP (l0 := []) (by walk_at "p")
  walk_at "s"
  refine ⟨a, c, B, [], n, rfl, O, n8, fun lp H6 B6 lv ps s6 hl hP hz O => ?_⟩
  walk_at "s"
  refine ⟨a, c, B6, [], lp, lv, ps, n, rfl, O, hl, hP, hz, fun r H7 B7 s7 D O => ?_⟩
  walk_at "s"
  refine ⟨a, c, B7, [], lp, lv, ps, n, rfl, CFA, O, s7 _ _ hl, Lb.Paired.mono (fun _ _ h => h.mono s7) hP, hz, fun r' H8 B8 s8 D' O => ?_⟩
  obtain rfl := D.uniq D'
  walk_at "s"
  refine i_n2 (fun h1 => absurd rfl h1) (fun _ => ?_)
  walk_at "s"
  refine i_n2 (fun h1 => ?_) (fun h1 => ?_)
  · walk_at "s"
    exact q _
  subst h1
  obtain ⟨hn1, hb, C⟩ : (1 ≤ (n : Int) ∧ (n : Int) ≤ 6) ∧ (∀ k, ¬ Bad (n : Int) ps k) ∧ Conn n ps := by
    generalize hr : ("" : Str) = r at D
    cases D with
    | procs => exact absurd hr (by decide)
    | links => exact absurd hr (by decide)
    | parts => exact absurd hr (by decide)
    | ok h b c => exact ⟨h, b, c⟩
  have Vv := val_of hn1 hb
  rw [Int.toNat_natCast] at Vv
  have N8 : Net B8 lp n ps := ⟨⟨lv, s8 _ _ (s7 _ _ hl), Lb.Paired.mono (fun _ _ h => h.mono (Same.trans s7 s8)) hP⟩, Vv, by omega, hz⟩
  walk_at "s"
  refine ⟨a, c, B8, [], lp, ps, n, rfl, O, N8, fun hp H9 B9 ra F s9 hh hF hrow O => ?_⟩
  have N9 := N8.mono s9
  walk_at "s"
  refine i_forR n rfl (by omega) (fun g σ H' => ∃ B' x6 x7 x8 x9, Same B9 B' ∧ σ = [some (.ref sc), some (.ref a), some (.int (n : Nat)), some (.ref lp), some (.str ""), some (.ref hp), x6, x7, x8, x9, none, none] ∧ Own a c B' H' []) ⟨B9, none, none, none, none, Same.refl _, rfl, O⟩ ?_ ?_
  · rintro g σ H10 hg ⟨B10, x6, x7, x8, x9, s10, rfl, O⟩
    walk_at "s"
    refine ⟨a, c, B10, [], lp, ps, n, g, rfl, O, N9.mono s10, hg, fun fp H11 B11 f s11 hf Ff O => ?_⟩
    walk_at "s"
    refine ⟨a, c, B11, [], lp, ps, n, g, rfl, O, N9.mono (Same.trans s10 s11), hg, fun gp H12 B12 f' s12 hf' Ff' O => ?_⟩
    rw [fl_congr (Ff'.uniq Ff)] at hf'
    walk_at "s"
    refine rd_neF (dt_fl (O.kp hf')) (dt_fl (O.kp (s12 _ _ hf))) (Sh.shp (n := 4) (.lst .ints)) ?_
    walk_at "s"
    refine i_forR n rfl (by omega) (fun u σ H' => ∃ B' x8 x9, Same B12 B' ∧ σ = [some (.ref sc), some (.ref a), some (.int (n : Nat)), some (.ref lp), some (.str ""), some (.ref hp), some (.int (g : Nat)), some (.ref fp), x8, x9, none, none] ∧ Own a c B' H' []) ⟨B12, _, _, Same.refl _, rfl, O⟩ ?_ ?_
    · rintro u σ H13 hu ⟨B13, x8, x9, s13, rfl, O⟩
      have hf := s13 _ _ (s12 _ _ hf)
      obtain ⟨⟨lv2, hl2, hP2⟩, _, n6, _⟩ := N9.mono (Same.trans s10 (Same.trans s11 (Same.trans s12 s13)))
      have au : atI (fl n f) (u : Nat) = some (.int (f u)) := fl_at hu
      have hz2 : ps.length ≤ 20 := hz
      walk_at "s"
      refine ⟨⟨_, SqL.of (O.kp hl2)⟩, fun D1 hD => ?_⟩
      refine i_lcP (f := fun j => decide (j.1 = (u : Int)) && decide (f j.2.toNat < f u)) (e := fun j => j.2) O hD hl2 hP2 (by omega) (by decide) (by show 10 < 12; decide) (by show 11 < 12; decide) (fun j H' R jm s hR => ?_) (fun j H' R jm hj s hR => ?_) fun H14 O => ?_
      · obtain ⟨x, y, rfl, xy, yn, _⟩ := Vv.nat jm
        have ay : atI (fl n f) (y : Nat) = some (.int (f y)) := fl_at yn
        have hf := s _ _ hf
        walk_at "s"
        simp only [Int.toNat_natCast] at hR
        refine i_d2 (fun h2 => ?_) (fun h2 => ?_)
        · walk_at "s"
          rw [decide_eq_true (show (x : Int) = (u : Int) from h2), Bool.true_and] at hR
          exact hR
        · rw [decide_eq_false (show ¬ (x : Int) = (u : Int) from h2), Bool.false_and] at hR
          exact hR
      · walk_at "s"
        exact hR
      walk_at "s"
      refine ⟨⟨_, SqL.of (O.kp hl2)⟩, fun D2 hD => ?_⟩
      refine i_lcP (f := fun j => decide (j.2 = (u : Int)) && decide (f j.1.toNat < f u)) (e := fun j => j.1) O hD hl2 hP2 (by omega) (by decide) (by show 10 < 12; decide) (by show 11 < 12; decide) (fun j H' R jm s hR => ?_) (fun j H' R jm hj s hR => ?_) fun H15 O => ?_
      · obtain ⟨x, y, rfl, xy, yn, _⟩ := Vv.nat jm
        have ax : atI (fl n f) (x : Nat) = some (.int (f x)) := fl_at (show x < n by omega)
        have hf := s _ _ hf
        walk_at "s"
        simp only [Int.toNat_natCast] at hR
        refine i_d2 (fun h2 => ?_) (fun h2 => ?_)
        · walk_at "s"
          rw [decide_eq_true (show (y : Int) = (u : Int) from h2), Bool.true_and] at hR
          exact hR
        · rw [decide_eq_false (show ¬ (y : Int) = (u : Int) from h2), Bool.false_and] at hR
          exact hR
      · walk_at "s"
        exact hR
      have e1 : ((ps.filter fun j => decide (j.1 = (u : Int)) && decide (f j.2.toNat < f u)).map (·.2)).map V.int ++ ((ps.filter fun j => decide (j.2 = (u : Int)) && decide (f j.1.toNat < f u)).map (·.1)).map V.int = (nearL ps f u).map V.int := by rw [← List.map_append]; rfl
      refine i_addN (O.mem (by walk_at "m")) (O.mem (by walk_at "m")) (sz ?_) ?_
      · rw [List.length_map, List.length_map, List.length_map, List.length_map]
        have h1 := List.length_filter_le (fun j : Int × Int => decide (j.1 = (u : Int)) && decide (f j.2.toNat < f u)) ps
        have h2 := List.length_filter_le (fun j : Int × Int => decide (j.2 = (u : Int)) && decide (f j.1.toNat < f u)) ps
        omega
      rw [e1]
      have hh' := s13 _ _ (s12 _ _ (s11 _ _ (s10 _ _ hh)))
      have hr' := s13 _ _ (s12 _ _ (s11 _ _ (s10 _ _ (hrow u hu))))
      have a1 : atI ((List.range n).map fun i => V.ref (ra i)) (u : Nat) = some (.ref (ra u)) := rfs_at hu
      have a2 : atI (fl n fun g => ((hop n ps (F g) u g : Nat) : Int)) (g : Nat) = some (.int ((hop n ps (F g) u g : Nat) : Int)) := fl_at hg
      walk_at "s"
      rename_i np H16 O
      refine i_d2 (fun h2 => ?_) (fun h2 => ?_)
      · have e : u = g := by omega
        subst e
        walk_at "s"
        refine i_n2 (fun h3 => absurd (by unfold hop; rw [if_pos rfl]) h3) (fun _ => ?_)
        walk_at "s"
        exact ⟨B13, _, _, s13, rfl, O.dropP (by walk_at "p")⟩
      · have ne : u ≠ g := by omega
        walk_at "s"
        refine i_minL (ns := nearL ps f u) (O.mem (by walk_at "m")) (near_ne Vv C Ff hg hu ne) fun m hm lo => ?_
        walk_at "s"
        have hq : ((hop n ps (F g) u g : Nat) : Int) = m := by
          refine hop_near (f := F g) Vv C (hF g hg) hg hu ne ?_ ?_
          · obtain ⟨k, e, ad, l⟩ := (mem_near Vv).mp hm
            refine (mem_near Vv).mpr ⟨k, e, ad, ?_⟩
            rw [(hF g hg).uniq Ff k (Vv.lt ad).2, (hF g hg).uniq Ff u hu]
            exact l
          · intro y hy
            obtain ⟨k, e, ad, l⟩ := (mem_near Vv).mp hy
            refine lo y ((mem_near Vv).mpr ⟨k, e, ad, ?_⟩)
            rw [(hF g hg).uniq Ff k (Vv.lt ad).2, (hF g hg).uniq Ff u hu] at l
            exact l
        refine i_n2 (fun h3 => absurd hq h3) (fun _ => ?_)
        walk_at "s"
        exact ⟨B13, _, _, s13, rfl, O.dropP (by walk_at "p")⟩
    · rintro σ H13 ⟨B13, x8, x9, s13, rfl, O⟩
      exact ⟨B13, _, _, _, _, Same.trans s10 (Same.trans s11 (Same.trans s12 s13)), rfl, O⟩
  · rintro σ H10 ⟨B10, x6, x7, x8, x9, s10, rfl, O⟩
    have hh' := s10 _ _ hh
    walk_at "s"
    rw [List.length_map, List.length_range, decide_eq_true rfl]
    exact q _
end K40
set_option Elab.async false
set_option linter.all false
set_option maxRecDepth 100000
set_option maxHeartbeats 4000000
namespace K40
open PySem PySem.Spec PyProof.Rows L2 Lb
def top (i : Nat) : Stmt := PySem.Challenge.pw_placedanyhow_k40_networks_and_hops.main.body.getD i (.Pass ⟨0, 0, 0, 0⟩)
structure Tx (K : PySem.W.Frag) (mg : Str → Option Value) (A : Ad) : Prop where
  k : A.K = K
  g_PlacedError : GV mg "PlacedError" (.ref A.c_PlacedError)
  h_PlacedError : mg "PlacedError" = some (.ref A.c_PlacedError)
  g_PlanError : GV mg "PlanError" (.ref A.c_PlanError)
  h_PlanError : mg "PlanError" = some (.ref A.c_PlanError)
  b_abs : mg "abs" = none
  b_enumerate : mg "enumerate" = none
  b_int : mg "int" = none
  b_isinstance : mg "isinstance" = none
  b_len : mg "len" = none
  b_max : mg "max" = none
  b_min : mg "min" = none
  b_range : mg "range" = none
  b_reversed : mg "reversed" = none
  b_sorted : mg "sorted" = none
  g_MOST : GV mg "MOST" (.int 6)
section
variable {P : Program} {w : World} {K : PySem.W.Frag} {mg : Str → Option Value} {base : Heap}
abbrev s_PlanError_init : Stmt := inClass (top 2) 0
theorem sc_PlanError_init : FnScope ["self", "reason"] ["self", "reason"] (defScope s_PlanError_init) := ⟨rfl, rfl, rfl, by decide +kernel, rfl, by decide +kernel, by decide +kernel⟩
theorem ok_PlanError_init {A : Ad} (T : Tx K mg A) (TE : EC A.K A.c_PlanError A.c_PlacedError A.i_PlanError "reason") {fd : FuncData} (F : FunD K "__init__" "PlanError.__init__" (defArgs s_PlanError_init) (defBody s_PlanError_init) (defScope s_PlanError_init) [] [] A.i_PlanError fd) : FnOk P w K mg base CX0 1 A.i_PlanError fd ["self", "reason"] (spExi A.K A.c_PlanError A.c_PlacedError A.i_PlanError "reason") := by
  obtain rfl := T.k
  refine F.ok sc_PlanError_init (fun vs H Q E h => len_exi h) (fun cdv Ar outer s H vs Q E hr h => ⟨t_exi A.K "reason" "invalid plan", PSs.nox ?_, pure_exi h⟩)
  exact (pss_cons (ps_expr (pe_exinit TE (by rfl) T.h_PlacedError (pa_cons (pv 0) (pa_cons pe_str pa_nil)))) (pss_one (ps_ost (pv 0) (pv 1))))
abbrev s_neighbours : Stmt := top 5
theorem sc_neighbours : FnScope ["links", "at", "found", "a", "b", "other"] ["links", "at"] (defScope s_neighbours) := ⟨rfl, rfl, rfl, by decide +kernel, rfl, by decide +kernel, by decide +kernel⟩
set_option maxHeartbeats 4000000 in
theorem ok_neighbours {A : Ad} (T : Tx K mg A) (hw : A.w = w) {f : Addr} {fd : FuncData} (F : FunD K "neighbours" "neighbours" (defArgs s_neighbours) (defBody s_neighbours) (defScope s_neighbours) [] [] f fd) : FnOk P w K mg base CX0 (1) f fd ["links", "at"] (sp_neighbours A) := by
  obtain rfl := T.k
  obtain rfl := hw
  refine F.ok sc_neighbours (fun vs H Q E h => len_neighbours A h) (fun cdv Ar outer s H vs Q E hr h => ⟨t_neighbours A, PSs.nox ?_, pure_neighbours A vs H Q E h⟩)
  exact (pss_cons (ps_set (i := 2) sc_neighbours.nd rfl (Or.inl rfl) (pe_op op_addA (pe_lc (own := [("a", 3), ("b", 4)]) rfl sc_neighbours.nd (pi_list (pv 0)) (blkOk_by (own := [("a", 3), ("b", 4)]) (N := ["links", "at", "found", "a", "b", "other"]) (sc := defScope s_neighbours) (by decide +kernel)) (fun _ _ _ _ _ => (pg_tup rfl (pgs_cons (pg_name (i := 3) sc_neighbours.nd rfl (Or.inl rfl)) (pgs_cons (pg_name (i := 4) sc_neighbours.nd rfl (Or.inl rfl)) pgs_nil)))) (fun _ _ _ _ _ => (pts_one (pt_cmpR (op_eqA hr.units) (pv 3) (pv 1) (nomark _)))) (fun _ _ _ _ _ => (pv 4))) (pe_lc (own := [("a", 3), ("b", 4)]) rfl sc_neighbours.nd (pi_list (pv 0)) (blkOk_by (own := [("a", 3), ("b", 4)]) (N := ["links", "at", "found", "a", "b", "other"]) (sc := defScope s_neighbours) (by decide +kernel)) (fun _ _ _ _ _ => (pg_tup rfl (pgs_cons (pg_name (i := 3) sc_neighbours.nd rfl (Or.inl rfl)) (pgs_cons (pg_name (i := 4) sc_neighbours.nd rfl (Or.inl rfl)) pgs_nil)))) (fun _ _ _ _ _ => (pts_one (pt_cmpR (op_eqA hr.units) (pv 4) (pv 1) (nomark _)))) (fun _ _ _ _ _ => (pv 3))))) (pss_one (ps_ret (pe_callB ((cr_sortedSet rfl)) (by rfl) T.b_sorted (by decide +kernel) (pa_cons (pe_scI (own := [("other", 5)]) rfl sc_neighbours.nd (pi_list (pv 2)) (blkOk_by (own := [("other", 5)]) (N := ["links", "at", "found", "a", "b", "other"]) (sc := defScope s_neighbours) (by decide +kernel)) (fun _ _ _ _ _ => (pg_name (i := 5) sc_neighbours.nd rfl (Or.inl rfl))) (fun _ _ _ _ _ => (pv 5))) pa_nil)))))
abbrev s_distances : Stmt := top 6
theorem sc_distances : FnScope ["processors", "links", "goal", "found", "row", "k", "at", "other"] ["processors", "links", "goal"] (defScope s_distances) := ⟨rfl, rfl, rfl, by decide +kernel, rfl, by decide +kernel, by decide +kernel⟩
set_option maxHeartbeats 4000000 in
theorem ok_distances {A : Ad} (T : Tx K mg A) (hw : A.w = w) {f : Addr} {fd : FuncData} (F : FunD K "distances" "distances" (defArgs s_distances) (defBody s_distances) (defScope s_distances) [] [] f fd)
    (c_neighbours : Cal P w K mg base "neighbours" (1) ["links", "at"] (sp_neighbours A)) : FnOk P w K mg base CX0 (2) f fd ["processors", "links", "goal"] (sp_distances A) := by
  obtain rfl := T.k
  obtain rfl := hw
  refine F.ok sc_distances (fun vs H Q E h => len_distances A h) (fun cdv Ar outer s H vs Q E hr h => ⟨t_distances A, PSs.nox ?_, pure_distances A vs H Q E h⟩)
  exact (pss_cons (ps_set (i := 3) sc_distances.nd rfl (Or.inl rfl) (pe_op op_mulA (pe_lst (pa_cons (pe_un un_neg pe_int) pa_nil)) (pv 0))) (pss_cons (ps_asg pe_int (pg_sub (pv 3) (pv 2) set_A)) (pss_cons (ps_set (i := 4) sc_distances.nd rfl (Or.inl rfl) (pe_lst (pa_cons (pv 2) pa_nil))) (pss_cons (ps_set (i := 5) sc_distances.nd rfl (Or.inl rfl) pe_int) (pss_cons (ps_while PassesOwn.never (pt_cmpR op_lt (pv 5) (pe_callB call_lenA (by rfl) T.b_len (by decide +kernel) (pa_cons (pv 4) pa_nil)) (nomark _)) (pss_cons (ps_set (i := 6) sc_distances.nd rfl (Or.inl rfl) (pe_ix ix_A (pv 4) (pv 5) (fun _ _ => rfl))) (pss_cons (ps_set (i := 5) sc_distances.nd rfl (Or.inl rfl) (pe_op op_addA (pv 5) pe_int)) (pss_one (ps_for PassesOwn.never rfl (pi_list (pe_cal c_neighbours (hr.mono (by omega)) (by rfl) (pa_cons (pv 1) (pa_cons (pv 6) pa_nil)))) (pg_name (i := 7) sc_distances.nd rfl (Or.inl rfl)) (pss_one (ps_if (pt_cmpR op_lt (pe_ix ix_A (pv 3) (pv 7) (fun _ _ => rfl)) pe_int (nomark _)) (pss_cons (ps_asg (pe_op op_addA (pe_ix ix_A (pv 3) (pv 6) (fun _ _ => rfl)) pe_int) (pg_sub (pv 3) (pv 7) set_A)) (pss_one (ps_expr (pe_bml PySem.F.slot_list_append PySem.F.type_list_append mt_appA (pv 4) (pa_cons (pv 7) pa_nil))))) pss_nil))))))) (pss_one (ps_ret (pv 3))))))))
abbrev s_check_network : Stmt := top 7
theorem sc_check_network : FnScope ["processors", "links", "at", "link", "a", "b"] ["processors", "links"] (defScope s_check_network) := ⟨rfl, rfl, rfl, by decide +kernel, rfl, by decide +kernel, by decide +kernel⟩
set_option maxHeartbeats 4000000 in
theorem ok_check_network {A : Ad} (T : Tx K mg A) (hw : A.w = w) {f : Addr} {fd : FuncData} (F : FunD K "check_network" "check_network" (defArgs s_check_network) (defBody s_check_network) (defScope s_check_network) [] [] f fd)
    (c_PlanError : CalE P w K mg base "PlanError" A.c_PlanError A.c_PlacedError A.i_PlanError "reason" 1 ["self", "reason"])
    (c_distances : Cal P w K mg base "distances" (2) ["processors", "links", "goal"] (sp_distances A)) : FnOk P w K mg base (L2.CX P w) (3) f fd ["processors", "links"] (sp_check_network A) := by
  obtain rfl := T.k
  obtain rfl := hw
  refine F.ok sc_check_network (fun vs H Q E h => len_check_network A h) (fun cdv Ar outer s H vs Q E hr h => ⟨t_check_network A (fun cls d _ H => E cls d H), ?_, pure_check_network A vs H Q E h⟩)
  exact (pss_cons (ps_if (PW.pt (pw_or (pt_cmpR op_lt (pv 0) pe_int (nomark _)) (pw_or1 (pt_cmpR op_gt (pv 0) (pe_gv T.g_MOST (by rfl)) (nomark _))))) (pss_one (ps_raiseX rfl (takes_of rfl rfl rfl rfl) c_PlanError (hr.mono (by omega)) (by rfl) pe_str)) pss_nil) (pss_cons (ps_for (passes_of rfl) rfl (pi_enum (by rfl) T.b_enumerate (pa_cons (pv 1) pa_nil)) (pg_tup rfl (pgs_cons (pg_name (i := 2) sc_check_network.nd rfl (Or.inl rfl)) (pgs_cons (pg_name (i := 3) sc_check_network.nd rfl (Or.inl rfl)) pgs_nil))) (pss_cons (ps_asg (pv 3) (pg_tup rfl (pgs_cons (pg_name (i := 4) sc_check_network.nd rfl (Or.inl rfl)) (pgs_cons (pg_name (i := 5) sc_check_network.nd rfl (Or.inl rfl)) pgs_nil)))) (pss_one (ps_if (PW.pt (pw_or (pt_cmpR op_lt (pv 4) pe_int (nomark _)) (pw_or (pt_cmpR op_ge (pv 5) (pv 0) (nomark _)) (pw_or (pt_cmpR op_ge (pv 4) (pv 5) (nomark _)) (pw_or1 (pt_cmpR (op_inD (units65 hr)) (pv 3) (pe_slice sl_A (pv 1) po_none (po_some (pv 2))) (by rfl))))))) (pss_one (ps_raiseX rfl (takes_of rfl rfl rfl rfl) c_PlanError (hr.mono (by omega)) (by rfl) pe_str)) pss_nil)))) (pss_one (ps_if (pt_cmpR op_lt (pe_callB (cr_min rfl) (by rfl) T.b_min (by decide +kernel) (pa_cons (pe_cal c_distances (hr.mono (by omega)) (by rfl) (pa_cons (pv 0) (pa_cons (pv 1) (pa_cons pe_int pa_nil)))) pa_nil)) pe_int (nomark _)) (pss_one (ps_raiseX rfl (takes_of rfl rfl rfl rfl) c_PlanError (hr.mono (by omega)) (by rfl) pe_str)) pss_nil))))
abbrev s_next_hops : Stmt := top 8
theorem sc_next_hops : FnScope ["processors", "links", "table", "goal", "far", "at", "other"] ["processors", "links"] (defScope s_next_hops) := ⟨rfl, rfl, rfl, by decide +kernel, rfl, by decide +kernel, by decide +kernel⟩
set_option maxHeartbeats 4000000 in
theorem ok_next_hops {A : Ad} (T : Tx K mg A) (hw : A.w = w) {f : Addr} {fd : FuncData} (F : FunD K "next_hops" "next_hops" (defArgs s_next_hops) (defBody s_next_hops) (defScope s_next_hops) [] [] f fd)
    (c_distances : Cal P w K mg base "distances" (2) ["processors", "links", "goal"] (sp_distances A))
    (c_neighbours : Cal P w K mg base "neighbours" (1) ["links", "at"] (sp_neighbours A)) : FnOk P w K mg base CX0 (3) f fd ["processors", "links"] (sp_next_hops A) := by
  obtain rfl := T.k
  obtain rfl := hw
  refine F.ok sc_next_hops (fun vs H Q E h => len_next_hops A h) (fun cdv Ar outer s H vs Q E hr h => ⟨t_next_hops A, PSs.nox ?_, pure_next_hops A vs H Q E h⟩)
  exact (pss_cons (ps_setLc (i := 2) (own := [("at", 5)]) rfl sc_next_hops.nd rfl rfl (sw_true rfl rfl rfl (by decide +kernel)) (pi_range1 (by rfl) T.b_range (pa_cons (pv 0) pa_nil)) (blkOk_by (own := [("at", 5)]) (N := ["processors", "links", "table", "goal", "far", "at", "other"]) (sc := defScope s_next_hops) (by decide +kernel)) (fun _ _ _ _ _ => (pg_name (i := 5) sc_next_hops.nd rfl (Or.inl rfl))) (fun _ _ _ _ _ => pts_nil) (fun _ _ _ _ _ => (pe_op op_mulA (pe_lst (pa_cons (pv 5) pa_nil)) (pv 0)))) (pss_cons (ps_for PassesOwn.never rfl (pi_range1 (by rfl) T.b_range (pa_cons (pv 0) pa_nil)) (pg_name (i := 3) sc_next_hops.nd rfl (Or.inl rfl)) (pss_cons (ps_set (i := 4) sc_next_hops.nd rfl (Or.inl rfl) (pe_cal c_distances (hr.mono (by omega)) (by rfl) (pa_cons (pv 0) (pa_cons (pv 1) (pa_cons (pv 3) pa_nil))))) (pss_one (ps_for PassesOwn.never rfl (pi_range1 (by rfl) T.b_range (pa_cons (pv 0) pa_nil)) (pg_name (i := 5) sc_next_hops.nd rfl (Or.inl rfl)) (pss_one (ps_for PassesOwn.never rfl (pi_reversed (by rfl) T.b_reversed (pa_cons (pe_cal c_neighbours (hr.mono (by omega)) (by rfl) (pa_cons (pv 1) (pa_cons (pv 5) pa_nil))) pa_nil)) (pg_name (i := 6) sc_next_hops.nd rfl (Or.inl rfl)) (pss_one (ps_if (PW.pt (pw_and (pt_cmpR (op_neA hr.units) (pv 5) (pv 3) (nomark _)) (pw_and1 (pt_cmpR (op_eqA hr.units) (pe_ix ix_A (pv 4) (pv 6) (fun _ _ => rfl)) (pe_op op_sub (pe_ix ix_A (pv 4) (pv 5) (fun _ _ => rfl)) pe_int) (nomark _))))) (pss_one (ps_asg (pv 6) (pg_sub (pe_ix ix_A (pv 2) (pv 5) (fun _ _ => rfl)) (pv 3) set_A))) pss_nil)))))))) (pss_one (ps_ret (pv 2)))))
abbrev s_l_state : Stmt := top 10
theorem sc_l_state : FnScope ["_law_script", "_law_seed", "_law_cell"] ["_law_script"] (defScope s_l_state) := ⟨rfl, rfl, rfl, by decide +kernel, rfl, by decide +kernel, by decide +kernel⟩
set_option maxHeartbeats 4000000 in
theorem ok_l_state {A : Ad} (T : Tx K mg A) (hw : A.w = w) {f : Addr} {fd : FuncData} (F : FunD K "_law_state" "_law_state" (defArgs s_l_state) (defBody s_l_state) (defScope s_l_state) [] [] f fd) : FnOk P w K mg base CX0 (1) f fd ["_law_script"] (spState A.K) := by
  obtain rfl := T.k
  obtain rfl := hw
  refine F.ok sc_l_state (fun vs H Q E h => len_state h) (fun cdv Ar outer s H vs Q E hr h => ⟨t_state A.K, PSs.nox ?_, pure_state A.K vs H Q E h rfl⟩)
  exact (pss_cons (ps_set (i := 1) sc_l_state.nd rfl (Or.inl rfl) pe_int) (pss_cons (ps_for PassesOwn.never rfl (pi_list (pv 0)) (pg_name (i := 2) sc_l_state.nd rfl (Or.inl rfl)) (pss_one (ps_set (i := 1) sc_l_state.nd rfl (Or.inl rfl) (pe_op op_mod (pe_callTy call_intA (by rfl) T.b_int (by decide +kernel) (pa_cons (pe_op op_addA (pe_op op_mulA (pv 1) pe_int) (pv 2)) pa_nil)) pe_int)))) (pss_one (ps_ret (pe_lst (pa_cons (pe_lc (own := [("_law_cell", 2)]) rfl sc_l_state.nd (pi_list (pv 0)) (blkOk_by (own := [("_law_cell", 2)]) (N := ["_law_script", "_law_seed", "_law_cell"]) (sc := defScope s_l_state) (by decide +kernel)) (fun _ _ _ _ _ => (pg_name (i := 2) sc_l_state.nd rfl (Or.inl rfl))) (fun _ _ _ _ _ => pts_nil) (fun _ _ _ _ _ => (pe_callB call_absA (by rfl) T.b_abs (by decide +kernel) (pa_cons (pv 2) pa_nil)))) (pa_cons (pe_op op_addA (pv 1) pe_int) pa_nil)))))))
abbrev s_l_draw : Stmt := top 11
theorem sc_l_draw : FnScope ["_law_state_here", "_law_many", "_law_cells", "_law_number", "_law_mixed"] ["_law_state_here", "_law_many"] (defScope s_l_draw) := ⟨rfl, rfl, rfl, by decide +kernel, rfl, by decide +kernel, by decide +kernel⟩
set_option maxHeartbeats 4000000 in
theorem ok_l_draw {A : Ad} (T : Tx K mg A) (hw : A.w = w) {f : Addr} {fd : FuncData} (F : FunD K "_law_draw" "_law_draw" (defArgs s_l_draw) (defBody s_l_draw) (defScope s_l_draw) [] [] f fd) : FnOk P w K mg base CX0 (1) f fd ["_law_state_here", "_law_many"] spDraw := by
  obtain rfl := T.k
  obtain rfl := hw
  refine F.ok sc_l_draw (fun vs H Q E h => len_draw h) (fun cdv Ar outer s H vs Q E hr h => ⟨t_draw A.K, PSs.nox ?_, pure_draw A.K vs H Q E h rfl⟩)
  exact (pss_cons (ps_set (i := 2) sc_l_draw.nd rfl (Or.inl rfl) (pe_ix ix_A (pv 0) pe_int (fun _ _ => rfl))) (pss_cons (ps_while PassesOwn.never (PW.pt (pw_and (pt_cmpR op_gt (pe_callB call_lenA (by rfl) T.b_len (by decide +kernel) (pa_cons (pv 2) pa_nil)) pe_int (nomark _)) (pw_and1 (pt_cmpR (op_eqA hr.units) (pe_ix ix_A (pv 2) pe_int (fun _ _ => rfl)) pe_int (nomark _))))) (pss_one (ps_expr (pe_bml PySem.F.slot_list_pop PySem.F.type_list_pop mt_popI (pv 2) (pa_cons pe_int pa_nil))))) (pss_cons (ps_if (pt_cmpR op_gt (pe_callB call_lenA (by rfl) T.b_len (by decide +kernel) (pa_cons (pv 2) pa_nil)) pe_int (nomark _)) (pss_cons (ps_set (i := 3) sc_l_draw.nd rfl (Or.inl rfl) (pe_ix ix_A (pv 2) pe_int (fun _ _ => rfl))) (pss_cons (ps_asg (pe_op op_fdiv (pv 3) (pv 1)) (pg_sub (pv 2) pe_int set_A)) (pss_one (ps_ret (pe_op op_mod (pe_callTy call_intA (by rfl) T.b_int (by decide +kernel) (pa_cons (pv 3) pa_nil)) (pv 1)))))) pss_nil) (pss_cons (ps_set (i := 4) sc_l_draw.nd rfl (Or.inl rfl) (pe_op op_mod (pe_callTy call_intA (by rfl) T.b_int (by decide +kernel) (pa_cons (pe_op op_addA (pe_op op_mulA (pe_ix ix_A (pv 0) pe_int (fun _ _ => rfl)) pe_int) pe_int) pa_nil)) pe_int)) (pss_cons (ps_asg (pv 4) (pg_sub (pv 0) pe_int set_A)) (pss_one (ps_ret (pe_op op_mod (pe_callTy call_intA (by rfl) T.b_int (by decide +kernel) (pa_cons (pe_op op_fdiv (pv 4) pe_int) pa_nil)) (pv 1)))))))))
abbrev s_l_pick : Stmt := top 12
theorem sc_l_pick : FnScope ["_law_state_here", "_law_row"] ["_law_state_here", "_law_row"] (defScope s_l_pick) := ⟨rfl, rfl, rfl, by decide +kernel, rfl, by decide +kernel, by decide +kernel⟩
set_option maxHeartbeats 4000000 in
theorem ok_l_pick {A : Ad} (T : Tx K mg A) (hw : A.w = w) {f : Addr} {fd : FuncData} (F : FunD K "_law_pick" "_law_pick" (defArgs s_l_pick) (defBody s_l_pick) (defScope s_l_pick) [] [] f fd)
    (c_l_draw : Cal P w K mg base "_law_draw" (1) ["_law_state_here", "_law_many"] spDraw) : FnOk P w K mg base CX0 (2) f fd ["_law_state_here", "_law_row"] spPick := by
  obtain rfl := T.k
  obtain rfl := hw
  refine F.ok sc_l_pick (fun vs H Q E h => len_pick h) (fun cdv Ar outer s H vs Q E hr h => ⟨t_pick, PSs.nox ?_, pure_pick vs H Q E h rfl⟩)
  exact (pss_one (ps_ret (pe_ix ix_A (pv 1) (pe_cal c_l_draw (hr.mono (by omega)) (by rfl) (pa_cons (pv 0) (pa_cons (pe_callB call_lenA (by rfl) T.b_len (by decide +kernel) (pa_cons (pv 1) pa_nil)) pa_nil))) (fun _ _ => rfl))))
abbrev s_l_links : Stmt := top 13
theorem sc_l_links : FnScope ["_law_state_here", "_law_many", "_law_links_here", "_law_k", "_law_a", "_law_b"] ["_law_state_here", "_law_many"] (defScope s_l_links) := ⟨rfl, rfl, rfl, by decide +kernel, rfl, by decide +kernel, by decide +kernel⟩
set_option maxHeartbeats 4000000 in
theorem ok_l_links {A : Ad} (T : Tx K mg A) (hw : A.w = w) {f : Addr} {fd : FuncData} (F : FunD K "_law_links" "_law_links" (defArgs s_l_links) (defBody s_l_links) (defScope s_l_links) [] [] f fd)
    (c_l_draw : Cal P w K mg base "_law_draw" (1) ["_law_state_here", "_law_many"] spDraw) : FnOk P w K mg base CX0 (2) f fd ["_law_state_here", "_law_many"] (sp_l_links A) := by
  obtain rfl := T.k
  obtain rfl := hw
  refine F.ok sc_l_links (fun vs H Q E h => len_l_links A h) (fun cdv Ar outer s H vs Q E hr h => ⟨t_l_links A, PSs.nox ?_, pure_l_links A vs H Q E h⟩)
  exact (pss_cons (ps_set (i := 2) sc_l_links.nd rfl (Or.inl rfl) (pe_lst pa_nil)) (pss_cons (ps_for PassesOwn.never rfl (pi_range2 (by rfl) T.b_range (pa_cons pe_int (pa_cons (pv 1) pa_nil))) (pg_name (i := 3) sc_l_links.nd rfl (Or.inl rfl)) (pss_one (ps_if (pt_cmpR op_gt (pe_cal c_l_draw (hr.mono (by omega)) (by rfl) (pa_cons (pv 0) (pa_cons pe_int pa_nil))) pe_int (nomark _)) (pss_one (ps_expr (pe_bml PySem.F.slot_list_append PySem.F.type_list_append mt_appA (pv 2) (pa_cons (pe_tup (pa_cons (pe_cal c_l_draw (hr.mono (by omega)) (by rfl) (pa_cons (pv 0) (pa_cons (pv 3) pa_nil))) (pa_cons (pv 3) pa_nil))) pa_nil)))) pss_nil))) (pss_cons (ps_for PassesOwn.never rfl (pi_range1 (by rfl) T.b_range (pa_cons (pe_cal c_l_draw (hr.mono (by omega)) (by rfl) (pa_cons (pv 0) (pa_cons pe_int pa_nil))) pa_nil)) (pg_name (i := 3) sc_l_links.nd rfl (Or.inl rfl)) (pss_cons (ps_set (i := 4) sc_l_links.nd rfl (Or.inl rfl) (pe_op op_sub (pe_cal c_l_draw (hr.mono (by omega)) (by rfl) (pa_cons (pv 0) (pa_cons (pe_callB (cr_max2 rfl) (by rfl) T.b_max (by decide +kernel) (pa_cons pe_int (pa_cons (pv 1) pa_nil))) pa_nil))) (pe_op op_fdiv (pe_cal c_l_draw (hr.mono (by omega)) (by rfl) (pa_cons (pv 0) (pa_cons pe_int pa_nil))) pe_int))) (pss_cons (ps_set (i := 5) sc_l_links.nd rfl (Or.inl rfl) (pe_op op_addA (pe_cal c_l_draw (hr.mono (by omega)) (by rfl) (pa_cons (pv 0) (pa_cons (pe_callB (cr_max2 rfl) (by rfl) T.b_max (by decide +kernel) (pa_cons pe_int (pa_cons (pv 1) pa_nil))) pa_nil))) (pe_op op_fdiv (pe_cal c_l_draw (hr.mono (by omega)) (by rfl) (pa_cons (pv 0) (pa_cons pe_int pa_nil))) pe_int))) (pss_cons (ps_if (PW.pt (pw_and (pt_cmpR op_gt (pe_cal c_l_draw (hr.mono (by omega)) (by rfl) (pa_cons (pv 0) (pa_cons pe_int pa_nil))) pe_int (nomark _)) (pw_and1 (pt_cmpR (op_inD (units65 hr)) (pe_tup (pa_cons (pe_callB (cr_min2 rfl) (by rfl) T.b_min (by decide +kernel) (pa_cons (pv 4) (pa_cons (pv 5) pa_nil))) (pa_cons (pe_callB (cr_max2 rfl) (by rfl) T.b_max (by decide +kernel) (pa_cons (pv 4) (pa_cons (pv 5) pa_nil))) pa_nil))) (pe_op op_addA (pv 2) (pe_lst (pa_cons (pe_tup (pa_cons (pe_callB (cr_min2 rfl) (by rfl) T.b_min (by decide +kernel) (pa_cons (pv 4) (pa_cons (pv 5) pa_nil))) (pa_cons (pe_callB (cr_min2 rfl) (by rfl) T.b_min (by decide +kernel) (pa_cons (pv 4) (pa_cons (pv 5) pa_nil))) pa_nil))) pa_nil))) (by rfl))))) (pss_one (ps_set (i := 5) sc_l_links.nd rfl (Or.inl rfl) (pv 4))) pss_nil) (pss_one (ps_if (PW.pt (pw_or (pt_cmpR (op_neA hr.units) (pv 4) (pv 5) (nomark _)) (pw_or1 (pt_cmpR (op_eqA hr.units) (pe_cal c_l_draw (hr.mono (by omega)) (by rfl) (pa_cons (pv 0) (pa_cons pe_int pa_nil))) pe_int (nomark _))))) (pss_one (ps_expr (pe_bml PySem.F.slot_list_append PySem.F.type_list_append mt_appA (pv 2) (pa_cons (pe_ifExp (pt_cmpR op_gt (pe_cal c_l_draw (hr.mono (by omega)) (by rfl) (pa_cons (pv 0) (pa_cons pe_int pa_nil))) pe_int (nomark _)) (pe_tup (pa_cons (pe_callB (cr_min2 rfl) (by rfl) T.b_min (by decide +kernel) (pa_cons (pv 4) (pa_cons (pv 5) pa_nil))) (pa_cons (pe_callB (cr_max2 rfl) (by rfl) T.b_max (by decide +kernel) (pa_cons (pv 4) (pa_cons (pv 5) pa_nil))) pa_nil))) (pe_tup (pa_cons (pe_callB (cr_max2 rfl) (by rfl) T.b_max (by decide +kernel) (pa_cons (pv 4) (pa_cons (pv 5) pa_nil))) (pa_cons (pe_callB (cr_min2 rfl) (by rfl) T.b_min (by decide +kernel) (pa_cons (pv 4) (pa_cons (pv 5) pa_nil))) pa_nil)))) pa_nil)))) pss_nil)))))) (pss_one (ps_ret (pv 2))))))
abbrev s_l_far : Stmt := top 14
theorem sc_l_far : FnScope ["_law_many", "_law_links_here", "_law_goal", "_law_far_here", "_law_k", "_law_a", "_law_b", "_law_at", "_law_n"] ["_law_many", "_law_links_here", "_law_goal"] (defScope s_l_far) := ⟨rfl, rfl, rfl, by decide +kernel, rfl, by decide +kernel, by decide +kernel⟩
set_option maxHeartbeats 4000000 in
theorem ok_l_far {A : Ad} (T : Tx K mg A) (hw : A.w = w) {f : Addr} {fd : FuncData} (F : FunD K "_law_far" "_law_far" (defArgs s_l_far) (defBody s_l_far) (defScope s_l_far) [] [] f fd) : FnOk P w K mg base CX0 (1) f fd ["_law_many", "_law_links_here", "_law_goal"] (sp_l_far A) := by
  obtain rfl := T.k
  obtain rfl := hw
  refine F.ok sc_l_far (fun vs H Q E h => len_l_far A h) (fun cdv Ar outer s H vs Q E hr h => ⟨t_l_far A, PSs.nox ?_, pure_l_far A vs H Q E h⟩)
  exact (pss_cons (ps_setLc (i := 3) (own := [("_law_at", 7)]) rfl sc_l_far.nd rfl rfl (sw_true rfl rfl rfl (by decide +kernel)) (pi_range1 (by rfl) T.b_range (pa_cons (pv 0) pa_nil)) (blkOk_by (own := [("_law_at", 7)]) (N := ["_law_many", "_law_links_here", "_law_goal", "_law_far_here", "_law_k", "_law_a", "_law_b", "_law_at", "_law_n"]) (sc := defScope s_l_far) (by decide +kernel)) (fun _ _ _ _ _ => (pg_name (i := 7) sc_l_far.nd rfl (Or.inl rfl))) (fun _ _ _ _ _ => pts_nil) (fun _ _ _ _ _ => (pe_ifExp (pt_cmpR (op_eqA hr.units) (pv 7) (pv 2) (nomark _)) pe_int pe_int))) (pss_cons (ps_for PassesOwn.never rfl (pi_range1 (by rfl) T.b_range (pa_cons (pv 0) pa_nil)) (pg_name (i := 4) sc_l_far.nd rfl (Or.inl rfl)) (pss_one (ps_for PassesOwn.never rfl (pi_list (pv 1)) (pg_tup rfl (pgs_cons (pg_name (i := 5) sc_l_far.nd rfl (Or.inl rfl)) (pgs_cons (pg_name (i := 6) sc_l_far.nd rfl (Or.inl rfl)) pgs_nil))) (pss_cons (ps_asg (pe_callB (cr_min2 rfl) (by rfl) T.b_min (by decide +kernel) (pa_cons (pe_ix ix_A (pv 3) (pv 5) (fun _ _ => rfl)) (pa_cons (pe_op op_addA (pe_ix ix_A (pv 3) (pv 6) (fun _ _ => rfl)) pe_int) pa_nil))) (pg_sub (pv 3) (pv 5) set_A)) (pss_one (ps_asg (pe_callB (cr_min2 rfl) (by rfl) T.b_min (by decide +kernel) (pa_cons (pe_ix ix_A (pv 3) (pv 6) (fun _ _ => rfl)) (pa_cons (pe_op op_addA (pe_ix ix_A (pv 3) (pv 5) (fun _ _ => rfl)) pe_int) pa_nil))) (pg_sub (pv 3) (pv 6) set_A))))))) (pss_one (ps_ret (pe_lc (own := [("_law_n", 8)]) rfl sc_l_far.nd (pi_list (pv 3)) (blkOk_by (own := [("_law_n", 8)]) (N := ["_law_many", "_law_links_here", "_law_goal", "_law_far_here", "_law_k", "_law_a", "_law_b", "_law_at", "_law_n"]) (sc := defScope s_l_far) (by decide +kernel)) (fun _ _ _ _ _ => (pg_name (i := 8) sc_l_far.nd rfl (Or.inl rfl))) (fun _ _ _ _ _ => pts_nil) (fun _ _ _ _ _ => (pe_ifExp (pt_cmpR op_ge (pv 8) pe_int (nomark _)) (pe_un un_neg pe_int) (pv 8))))))))
abbrev s_l_due : Stmt := top 15
theorem sc_l_due : FnScope ["_law_many", "_law_links_here", "_law_k", "_law_a", "_law_b"] ["_law_many", "_law_links_here"] (defScope s_l_due) := ⟨rfl, rfl, rfl, by decide +kernel, rfl, by decide +kernel, by decide +kernel⟩
set_option maxHeartbeats 4000000 in
theorem ok_l_due {A : Ad} (T : Tx K mg A) (hw : A.w = w) {f : Addr} {fd : FuncData} (F : FunD K "_law_due" "_law_due" (defArgs s_l_due) (defBody s_l_due) (defScope s_l_due) [] [] f fd)
    (c_l_far : Cal P w K mg base "_law_far" (1) ["_law_many", "_law_links_here", "_law_goal"] (sp_l_far A)) : FnOk P w K mg base CX0 (2) f fd ["_law_many", "_law_links_here"] (sp_l_due A) := by
  obtain rfl := T.k
  obtain rfl := hw
  refine F.ok sc_l_due (fun vs H Q E h => len_l_due A h) (fun cdv Ar outer s H vs Q E hr h => ⟨t_l_due A, PSs.nox ?_, pure_l_due A vs H Q E h⟩)
  exact (pss_cons (ps_if (PW.pt (pw_or (pt_cmpR op_lt (pv 0) pe_int (nomark _)) (pw_or1 (pt_cmpR op_gt (pv 0) pe_int (nomark _))))) (pss_one (ps_ret pe_str)) pss_nil) (pss_cons (ps_for PassesOwn.never rfl (pi_range1 (by rfl) T.b_range (pa_cons (pe_callB call_lenA (by rfl) T.b_len (by decide +kernel) (pa_cons (pv 1) pa_nil)) pa_nil)) (pg_name (i := 2) sc_l_due.nd rfl (Or.inl rfl)) (pss_cons (ps_asg (pe_ix ix_A (pv 1) (pv 2) (fun _ _ => rfl)) (pg_tup rfl (pgs_cons (pg_name (i := 3) sc_l_due.nd rfl (Or.inl rfl)) (pgs_cons (pg_name (i := 4) sc_l_due.nd rfl (Or.inl rfl)) pgs_nil)))) (pss_one (ps_if (PW.pt (pw_or (pt_cmpR op_lt (pv 3) pe_int (nomark _)) (pw_or (pt_cmpR op_ge (pv 3) (pv 4) (nomark _)) (pw_or (pt_cmpR op_ge (pv 4) (pv 0) (nomark _)) (pw_or1 (pt_cmpR (op_inD (units65 hr)) (pe_tup (pa_cons (pv 3) (pa_cons (pv 4) pa_nil))) (pe_slice sl_A (pv 1) po_none (po_some (pv 2))) (by rfl))))))) (pss_one (ps_ret pe_str)) pss_nil)))) (pss_one (ps_ret (pe_ifExp (pt_cmpR op_in_seq (pe_un un_neg pe_int) (pe_cal c_l_far (hr.mono (by omega)) (by rfl) (pa_cons (pv 0) (pa_cons (pv 1) (pa_cons pe_int pa_nil)))) (by rfl)) pe_str pe_str)))))
abbrev s_l_told : Stmt := top 16
theorem sc_l_told : FnScope ["_law_many", "_law_links_here", "e"] ["_law_many", "_law_links_here"] (defScope s_l_told) := ⟨rfl, rfl, rfl, by decide +kernel, rfl, by decide +kernel, by decide +kernel⟩
set_option maxHeartbeats 4000000 in
theorem ok_l_told {A : Ad} (T : Tx K mg A) (hw : A.w = w) {f : Addr} {fd : FuncData} (F : FunD K "_law_told" "_law_told" (defArgs s_l_told) (defBody s_l_told) (defScope s_l_told) [] [] f fd)
    (c_PlanError : CalE P w K mg base "PlanError" A.c_PlanError A.c_PlacedError A.i_PlanError "reason" 1 ["self", "reason"])
    (c_check_network : CalX P w K mg base "check_network" (3) ["processors", "links"] (sp_check_network A)) : FnOk P w K mg base CX0 (4) f fd ["_law_many", "_law_links_here"] (sp_l_told A) := by
  obtain rfl := T.k
  obtain rfl := hw
  refine F.ok sc_l_told (fun vs H Q E h => len_l_told A h) (fun cdv Ar outer s H vs Q E hr h => ⟨t_l_told A, PSs.nox ?_, pure_l_told A vs H Q E h⟩)
  exact (pss_cons (ps_try_as (i := 2) rfl rfl sc_l_told.nd rfl rfl (by exact ⟨by rfl, by decide, .inl c_PlanError.gm⟩) takes0 (fun W pn xe tk _ => (pss_one (ps_expr (pe_calX c_check_network (hr.mono (by omega)) (by rfl) tk (pa_cons (pv 0) (pa_cons (pv 1) pa_nil)))))) (fun a oe cls d pn hz hf => (pss_one (ps_ret (pe_ifExp (pt_val (pe_callB (call_isX hz hf) (by rfl) T.b_isinstance (by decide +kernel) (pa_cons (pv 2) (pa_cons (pe_gv T.g_PlacedError (by rfl)) pa_nil)))) (pe_xf c_PlanError.ec.xf c_PlanError.ec.no hz hf (pv 2)) pe_str))))) (pss_one (ps_ret pe_str)))
abbrev s_law : Stmt := top 17
theorem sc_law : FnScope ["_law_script", "_law_state_here", "_law_many", "_law_links_here", "_law_due_here", "_law_hops", "_law_goal", "_law_far_here", "_law_at", "_law_near", "_law_a", "_law_b"] ["_law_script"] (defScope s_law) := ⟨rfl, rfl, rfl, by decide +kernel, rfl, by decide +kernel, by decide +kernel⟩
set_option maxHeartbeats 4000000 in
theorem ok_law {A : Ad} (T : Tx K mg A) (hw : A.w = w) {f : Addr} {fd : FuncData} (F : FunD K "law" "law" (defArgs s_law) (defBody s_law) (defScope s_law) [] [] f fd)
    (c_l_state : Cal P w K mg base "_law_state" (1) ["_law_script"] (spState A.K))
    (c_l_pick : Cal P w K mg base "_law_pick" (2) ["_law_state_here", "_law_row"] spPick)
    (c_l_draw : Cal P w K mg base "_law_draw" (1) ["_law_state_here", "_law_many"] spDraw)
    (c_l_links : Cal P w K mg base "_law_links" (2) ["_law_state_here", "_law_many"] (sp_l_links A))
    (c_l_due : Cal P w K mg base "_law_due" (2) ["_law_many", "_law_links_here"] (sp_l_due A))
    (c_l_told : Cal P w K mg base "_law_told" (4) ["_law_many", "_law_links_here"] (sp_l_told A))
    (c_next_hops : Cal P w K mg base "next_hops" (3) ["processors", "links"] (sp_next_hops A))
    (c_l_far : Cal P w K mg base "_law_far" (1) ["_law_many", "_law_links_here", "_law_goal"] (sp_l_far A))
    (c_distances : Cal P w K mg base "distances" (2) ["processors", "links", "goal"] (sp_distances A)) : FnOk P w K mg base CX0 (20) f fd ["_law_script"] (sp_law A) := by
  obtain rfl := T.k
  obtain rfl := hw
  refine F.ok sc_law (fun vs H Q E h => len_law A h) (fun cdv Ar outer s H vs Q E hr h => ⟨t_law A, PSs.nox ?_, pure_law A vs H Q E h⟩)
  exact (pss_cons (ps_set (i := 1) sc_law.nd rfl (Or.inl rfl) (pe_cal c_l_state (hr.mono (by omega)) (by rfl) (pa_cons (pv 0) pa_nil))) (pss_cons (ps_set (i := 2) sc_law.nd rfl (Or.inl rfl) (pe_cal c_l_pick (hr.mono (by omega)) (by rfl) (pa_cons (pv 1) (pa_cons (pe_lst (pa_cons (pe_op op_addA pe_int (pe_cal c_l_draw (hr.mono (by omega)) (by rfl) (pa_cons (pv 1) (pa_cons pe_int pa_nil)))) (pa_cons (pe_op op_addA pe_int (pe_cal c_l_draw (hr.mono (by omega)) (by rfl) (pa_cons (pv 1) (pa_cons pe_int pa_nil)))) (pa_cons (pe_cal c_l_draw (hr.mono (by omega)) (by rfl) (pa_cons (pv 1) (pa_cons pe_int pa_nil))) pa_nil)))) pa_nil)))) (pss_cons (ps_set (i := 3) sc_law.nd rfl (Or.inl rfl) (pe_cal c_l_links (hr.mono (by omega)) (by rfl) (pa_cons (pv 1) (pa_cons (pv 2) pa_nil)))) (pss_cons (ps_set (i := 4) sc_law.nd rfl (Or.inl rfl) (pe_cal c_l_due (hr.mono (by omega)) (by rfl) (pa_cons (pv 2) (pa_cons (pv 3) pa_nil)))) (pss_cons (ps_if (pt_cmpR (op_neA hr.units) (pe_cal c_l_told (hr.mono (by omega)) (by rfl) (pa_cons (pv 2) (pa_cons (pv 3) pa_nil))) (pv 4) (nomark _)) (pss_one (ps_ret pe_bl)) pss_nil) (pss_cons (ps_if (pt_cmpR (op_neA hr.units) (pv 4) pe_str (nomark _)) (pss_one (ps_ret pe_bl)) pss_nil) (pss_cons (ps_set (i := 5) sc_law.nd rfl (Or.inl rfl) (pe_cal c_next_hops (hr.mono (by omega)) (by rfl) (pa_cons (pv 2) (pa_cons (pv 3) pa_nil)))) (pss_cons (ps_for PassesOwn.never rfl (pi_range1 (by rfl) T.b_range (pa_cons (pv 2) pa_nil)) (pg_name (i := 6) sc_law.nd rfl (Or.inl rfl)) (pss_cons (ps_set (i := 7) sc_law.nd rfl (Or.inr rfl) (pe_cal c_l_far (hr.mono (by omega)) (by rfl) (pa_cons (pv 2) (pa_cons (pv 3) (pa_cons (pv 6) pa_nil))))) (pss_cons (ps_if (pt_cmpR (op_neA hr.units) (pe_cal c_distances (hr.mono (by omega)) (by rfl) (pa_cons (pv 2) (pa_cons (pv 3) (pa_cons (pv 6) pa_nil)))) (pv 7) (nomark _)) (pss_one (ps_ret pe_bl)) pss_nil) (pss_one (ps_for PassesOwn.never rfl (pi_range1 (by rfl) T.b_range (pa_cons (pv 2) pa_nil)) (pg_name (i := 8) sc_law.nd rfl (Or.inr rfl)) (pss_cons (ps_setLc (i := 9) (own := [("_law_a", 10), ("_law_b", 11)]) rfl sc_law.nd rfl rfl (sw_true rfl rfl rfl (by decide +kernel)) (pi_list (pv 3)) (blkOk_by (own := [("_law_a", 10), ("_law_b", 11)]) (N := ["_law_script", "_law_state_here", "_law_many", "_law_links_here", "_law_due_here", "_law_hops", "_law_goal", "_law_far_here", "_law_at", "_law_near", "_law_a", "_law_b"]) (sc := defScope s_law) (by decide +kernel)) (fun _ _ _ _ _ => (pg_tup rfl (pgs_cons (pg_name (i := 10) sc_law.nd rfl (Or.inl rfl)) (pgs_cons (pg_name (i := 11) sc_law.nd rfl (Or.inl rfl)) pgs_nil)))) (fun _ _ _ _ _ => (pts_one (PW.pt (pw_and (pt_cmpR (op_eqA hr.units) (pv 10) (pv 8) (nomark _)) (pw_and1 (pt_cmpR op_lt (pe_ix ix_A (pv 7) (pv 11) (fun _ _ => rfl)) (pe_ix ix_A (pv 7) (pv 8) (fun _ _ => rfl)) (nomark _))))))) (fun _ _ _ _ _ => (pv 11))) (pss_cons (ps_set (i := 9) sc_law.nd rfl (Or.inl rfl) (pe_op op_addA (pv 9) (pe_lc (own := [("_law_a", 10), ("_law_b", 11)]) rfl sc_law.nd (pi_list (pv 3)) (blkOk_by (own := [("_law_a", 10), ("_law_b", 11)]) (N := ["_law_script", "_law_state_here", "_law_many", "_law_links_here", "_law_due_here", "_law_hops", "_law_goal", "_law_far_here", "_law_at", "_law_near", "_law_a", "_law_b"]) (sc := defScope s_law) (by decide +kernel)) (fun _ _ _ _ _ => (pg_tup rfl (pgs_cons (pg_name (i := 10) sc_law.nd rfl (Or.inl rfl)) (pgs_cons (pg_name (i := 11) sc_law.nd rfl (Or.inl rfl)) pgs_nil)))) (fun _ _ _ _ _ => (pts_one (PW.pt (pw_and (pt_cmpR (op_eqA hr.units) (pv 11) (pv 8) (nomark _)) (pw_and1 (pt_cmpR op_lt (pe_ix ix_A (pv 7) (pv 10) (fun _ _ => rfl)) (pe_ix ix_A (pv 7) (pv 8) (fun _ _ => rfl)) (nomark _))))))) (fun _ _ _ _ _ => (pv 10))))) (pss_one (ps_if (pt_cmpR (op_neA hr.units) (pe_ix ix_A (pe_ix ix_A (pv 5) (pv 8) (fun _ _ => rfl)) (pv 6) (fun _ _ => rfl)) (pe_ifExp (pt_cmpR (op_eqA hr.units) (pv 8) (pv 6) (nomark _)) (pv 8) (pe_callB (cr_min rfl) (by rfl) T.b_min (by decide +kernel) (pa_cons (pv 9) pa_nil))) (nomark _)) (pss_one (ps_ret pe_bl)) pss_nil))))))))) (pss_one (ps_ret (pe_cmpR (op_eqA hr.units) (pe_callB call_lenA (by rfl) T.b_len (by decide +kernel) (pa_cons (pv 5) pa_nil)) (pv 2) (nomark _))))))))))))
end
end K40
set_option Elab.async false
set_option linter.all false
set_option maxRecDepth 100000
set_option maxHeartbeats 4000000
namespace K40
open PySem PySem.Spec PyProof.Rows L2 Lb
def d_PlanError_init : He.DefD := ⟨("PlanError", some "__init__"), "__init__", "PlanError.__init__", defArgs s_PlanError_init, defBody s_PlanError_init, defScope s_PlanError_init, [], []⟩
def d_neighbours : He.DefD := ⟨("neighbours", none), "neighbours", "neighbours", defArgs s_neighbours, defBody s_neighbours, defScope s_neighbours, [], []⟩
def d_distances : He.DefD := ⟨("distances", none), "distances", "distances", defArgs s_distances, defBody s_distances, defScope s_distances, [], []⟩
def d_check_network : He.DefD := ⟨("check_network", none), "check_network", "check_network", defArgs s_check_network, defBody s_check_network, defScope s_check_network, [], []⟩
def d_next_hops : He.DefD := ⟨("next_hops", none), "next_hops", "next_hops", defArgs s_next_hops, defBody s_next_hops, defScope s_next_hops, [], []⟩
def d_l_state : He.DefD := ⟨("_law_state", none), "_law_state", "_law_state", defArgs s_l_state, defBody s_l_state, defScope s_l_state, [], []⟩
def d_l_draw : He.DefD := ⟨("_law_draw", none), "_law_draw", "_law_draw", defArgs s_l_draw, defBody s_l_draw, defScope s_l_draw, [], []⟩
def d_l_pick : He.DefD := ⟨("_law_pick", none), "_law_pick", "_law_pick", defArgs s_l_pick, defBody s_l_pick, defScope s_l_pick, [], []⟩
def d_l_links : He.DefD := ⟨("_law_links", none), "_law_links", "_law_links", defArgs s_l_links, defBody s_l_links, defScope s_l_links, [], []⟩
def d_l_far : He.DefD := ⟨("_law_far", none), "_law_far", "_law_far", defArgs s_l_far, defBody s_l_far, defScope s_l_far, [], []⟩
def d_l_due : He.DefD := ⟨("_law_due", none), "_law_due", "_law_due", defArgs s_l_due, defBody s_l_due, defScope s_l_due, [], []⟩
def d_l_told : He.DefD := ⟨("_law_told", none), "_law_told", "_law_told", defArgs s_l_told, defBody s_l_told, defScope s_l_told, [], []⟩
def d_law : He.DefD := ⟨("law", none), "law", "law", defArgs s_law, defBody s_law, defScope s_law, [], []⟩
def fn : List He.DefD := [d_PlanError_init, d_neighbours, d_distances, d_check_network, d_next_hops, d_l_state, d_l_draw, d_l_pick, d_l_links, d_l_far, d_l_due, d_l_told, d_law]
def fa : List He.Fa := [.glo "PlacedError", .glo "PlacedError", .glo "PlanError", .glo "PlanError", .free "abs", .free "enumerate", .free "int", .free "isinstance", .free "len", .free "max", .free "min", .free "range", .free "reversed", .free "sorted", .int "MOST" 6, .glo "neighbours", .glo "distances", .glo "check_network", .glo "next_hops", .glo "_law_state", .glo "_law_draw", .glo "_law_pick", .glo "_law_links", .glo "_law_far", .glo "_law_due", .glo "_law_told", .glo "law"]
def lo : List Str := ["PlacedError", "PlanError", "MOST", "neighbours", "distances", "check_network", "next_hops", "_law_state", "_law_draw", "_law_pick", "_law_links", "_law_far", "_law_due", "_law_told"]
abbrev RW : PySem.W.OpenLaw := PySem.Challenge.rw_placedanyhow_k40_networks_and_hops
abbrev RR : PySem.W.OpenRow := PySem.W.OpenLaw.row RW
def ex (K : PySem.W.Frag) : Bool := ecB K (He.ga K "PlanError") (He.ga K "PlacedError") (He.ma K (He.ga K "PlanError") "__init__") "reason"
abbrev hk : PySem.W.Hook := hookY 4 fa fn ex
def ob (s : PySem.W.SharedT) : He.AlD × Bool := obsY 4 fa fn ex (HandSHeadRun.getT s)
theorem ob_eq (s : PySem.W.SharedT) : ob s = hk.obs s.abs := obsY_eq (HandSHeadRun.getT_eq s)
theorem run (w : World) : HandSHeadRun.RunEq RR (PySem.W.view RR.prog [17]) hk ob 4000 lo w := by
  intro os
  kernel_rfl
theorem tx {w : World} {K : PySem.W.Frag} {h : Heap} {mg : Str → Option Value} (X : K.In h) (G : h.Ns mainGlobals mg) (c : He.SaysD fa fn K) : Tx K mg ⟨K, w, He.ga K "PlanError", He.ga K "PlacedError", He.ma K (He.ga K "PlanError") "__init__"⟩ :=
  ⟨rfl, gv_glo X G (c.fact 0 rfl), He.glo_ok X G (c.fact 1 rfl), gv_glo X G (c.fact 2 rfl), He.glo_ok X G (c.fact 3 rfl), He.free_ok X G (c.fact 4 rfl), He.free_ok X G (c.fact 5 rfl), He.free_ok X G (c.fact 6 rfl), He.free_ok X G (c.fact 7 rfl), He.free_ok X G (c.fact 8 rfl), He.free_ok X G (c.fact 9 rfl), He.free_ok X G (c.fact 10 rfl), He.free_ok X G (c.fact 11 rfl), He.free_ok X G (c.fact 12 rfl), He.free_ok X G (c.fact 13 rfl), gv_int X G (c.fact 14 rfl)⟩
theorem cf {K : PySem.W.Frag} {w : World} (e : ex K = true) : CF ⟨K, w, He.ga K "PlanError", He.ga K "PlacedError", He.ma K (He.ga K "PlanError") "__init__"⟩ :=
  ⟨ecB_ok e⟩
set_option maxHeartbeats 16000000 in
theorem facts {P : Program} {w : World} {K : PySem.W.Frag} {h : Heap} {mg : Str → Option Value} {f : Addr} (X : K.In h) (G : h.Ns mainGlobals mg) (hfa : mg ("law" : Str) = some (.ref f)) (c : He.SaysD fa fn K) (cx : ex K = true) :
    ∃ fd : FuncData, (∀ (s : Shared) (v : Value), BindsTo s fd ⟨[v], []⟩ [("_law_script", v)]) ∧ ∀ base : Heap, K.In base → base.Ns mainGlobals mg → FnOk P w K mg base CX0 (20) f fd ["_law_script"] (sp_law ⟨K, w, He.ga K "PlanError", He.ga K "PlacedError", He.ma K (He.ga K "PlanError") "__init__"⟩) := by
  obtain ⟨fd_PlanError_init, F_PlanError_init⟩ := c.def_ 0 (d := d_PlanError_init) rfl
  have b_PlanError_init : Binds K fd_PlanError_init ["self", "reason"] [] := F_PlanError_init.bindsN fun _ _ _ _ _ _ us hl => match us, hl with | [_, _], _ => rfl
  obtain ⟨fd_neighbours, F_neighbours⟩ := c.def_ 1 (d := d_neighbours) rfl
  have b_neighbours : Binds K fd_neighbours ["links", "at"] [] := F_neighbours.bindsN fun _ _ _ _ _ _ us hl => match us, hl with | [_, _], _ => rfl
  have g_neighbours := He.glo_ok X G (c.fact 15 (f := .glo "neighbours") rfl)
  obtain ⟨fd_distances, F_distances⟩ := c.def_ 2 (d := d_distances) rfl
  have b_distances : Binds K fd_distances ["processors", "links", "goal"] [] := F_distances.bindsN fun _ _ _ _ _ _ us hl => match us, hl with | [_, _, _], _ => rfl
  have g_distances := He.glo_ok X G (c.fact 16 (f := .glo "distances") rfl)
  obtain ⟨fd_check_network, F_check_network⟩ := c.def_ 3 (d := d_check_network) rfl
  have b_check_network : Binds K fd_check_network ["processors", "links"] [] := F_check_network.bindsN fun _ _ _ _ _ _ us hl => match us, hl with | [_, _], _ => rfl
  have g_check_network := He.glo_ok X G (c.fact 17 (f := .glo "check_network") rfl)
  obtain ⟨fd_next_hops, F_next_hops⟩ := c.def_ 4 (d := d_next_hops) rfl
  have b_next_hops : Binds K fd_next_hops ["processors", "links"] [] := F_next_hops.bindsN fun _ _ _ _ _ _ us hl => match us, hl with | [_, _], _ => rfl
  have g_next_hops := He.glo_ok X G (c.fact 18 (f := .glo "next_hops") rfl)
  obtain ⟨fd_l_state, F_l_state⟩ := c.def_ 5 (d := d_l_state) rfl
  have b_l_state : Binds K fd_l_state ["_law_script"] [] := F_l_state.bindsN fun _ _ _ _ _ _ us hl => match us, hl with | [_], _ => rfl
  have g_l_state := He.glo_ok X G (c.fact 19 (f := .glo "_law_state") rfl)
  obtain ⟨fd_l_draw, F_l_draw⟩ := c.def_ 6 (d := d_l_draw) rfl
  have b_l_draw : Binds K fd_l_draw ["_law_state_here", "_law_many"] [] := F_l_draw.bindsN fun _ _ _ _ _ _ us hl => match us, hl with | [_, _], _ => rfl
  have g_l_draw := He.glo_ok X G (c.fact 20 (f := .glo "_law_draw") rfl)
  obtain ⟨fd_l_pick, F_l_pick⟩ := c.def_ 7 (d := d_l_pick) rfl
  have b_l_pick : Binds K fd_l_pick ["_law_state_here", "_law_row"] [] := F_l_pick.bindsN fun _ _ _ _ _ _ us hl => match us, hl with | [_, _], _ => rfl
  have g_l_pick := He.glo_ok X G (c.fact 21 (f := .glo "_law_pick") rfl)
  obtain ⟨fd_l_links, F_l_links⟩ := c.def_ 8 (d := d_l_links) rfl
  have b_l_links : Binds K fd_l_links ["_law_state_here", "_law_many"] [] := F_l_links.bindsN fun _ _ _ _ _ _ us hl => match us, hl with | [_, _], _ => rfl
  have g_l_links := He.glo_ok X G (c.fact 22 (f := .glo "_law_links") rfl)
  obtain ⟨fd_l_far, F_l_far⟩ := c.def_ 9 (d := d_l_far) rfl
  have b_l_far : Binds K fd_l_far ["_law_many", "_law_links_here", "_law_goal"] [] := F_l_far.bindsN fun _ _ _ _ _ _ us hl => match us, hl with | [_, _, _], _ => rfl
  have g_l_far := He.glo_ok X G (c.fact 23 (f := .glo "_law_far") rfl)
  obtain ⟨fd_l_due, F_l_due⟩ := c.def_ 10 (d := d_l_due) rfl
  have b_l_due : Binds K fd_l_due ["_law_many", "_law_links_here"] [] := F_l_due.bindsN fun _ _ _ _ _ _ us hl => match us, hl with | [_, _], _ => rfl
  have g_l_due := He.glo_ok X G (c.fact 24 (f := .glo "_law_due") rfl)
  obtain ⟨fd_l_told, F_l_told⟩ := c.def_ 11 (d := d_l_told) rfl
  have b_l_told : Binds K fd_l_told ["_law_many", "_law_links_here"] [] := F_l_told.bindsN fun _ _ _ _ _ _ us hl => match us, hl with | [_, _], _ => rfl
  have g_l_told := He.glo_ok X G (c.fact 25 (f := .glo "_law_told") rfl)
  obtain ⟨fd_law, F_law⟩ := c.def_ 12 (d := d_law) rfl
  have E_PlanError := ecB_ok cx
  have e := hfa.symm.trans (He.glo_ok X G (c.fact 26 (f := .glo "law") rfl))
  cases e
  have b := FunD.bindsA (ps := ["_law_script"]) F_law fun _ _ _ _ _ _ us hl => match us, hl with | [_], _ => rfl
  have T := tx (w := w) X G c
  refine ⟨fd_law, fun s v => b s [v] rfl, fun base _ _ => ?_⟩
  have C_PlanError := mkCalE E_PlanError (He.glo_ok X G (c.fact 2 (f := .glo "PlanError") rfl)) b_PlanError_init (ok_PlanError_init (P := P) (w := w) (base := base) T E_PlanError F_PlanError_init)
  have C_neighbours : Cal P w K mg base "neighbours" (1) ["links", "at"] (sp_neighbours ⟨K, w, He.ga K "PlanError", He.ga K "PlacedError", He.ma K (He.ga K "PlanError") "__init__"⟩) := mkCal F_neighbours g_neighbours b_neighbours (ok_neighbours T rfl F_neighbours)
  have C_distances : Cal P w K mg base "distances" (2) ["processors", "links", "goal"] (sp_distances ⟨K, w, He.ga K "PlanError", He.ga K "PlacedError", He.ma K (He.ga K "PlanError") "__init__"⟩) := mkCal F_distances g_distances b_distances (ok_distances T rfl F_distances C_neighbours)
  have C_check_network : CalX P w K mg base "check_network" (3) ["processors", "links"] (sp_check_network ⟨K, w, He.ga K "PlanError", He.ga K "PlacedError", He.ma K (He.ga K "PlanError") "__init__"⟩) := mkCalX F_check_network g_check_network b_check_network (ok_check_network T rfl F_check_network C_PlanError C_distances)
  have C_next_hops : Cal P w K mg base "next_hops" (3) ["processors", "links"] (sp_next_hops ⟨K, w, He.ga K "PlanError", He.ga K "PlacedError", He.ma K (He.ga K "PlanError") "__init__"⟩) := mkCal F_next_hops g_next_hops b_next_hops (ok_next_hops T rfl F_next_hops C_distances C_neighbours)
  have C_l_state : Cal P w K mg base "_law_state" (1) ["_law_script"] (spState K) := mkCal F_l_state g_l_state b_l_state (ok_l_state T rfl F_l_state)
  have C_l_draw : Cal P w K mg base "_law_draw" (1) ["_law_state_here", "_law_many"] spDraw := mkCal F_l_draw g_l_draw b_l_draw (ok_l_draw T rfl F_l_draw)
  have C_l_pick : Cal P w K mg base "_law_pick" (2) ["_law_state_here", "_law_row"] spPick := mkCal F_l_pick g_l_pick b_l_pick (ok_l_pick T rfl F_l_pick C_l_draw)
  have C_l_links : Cal P w K mg base "_law_links" (2) ["_law_state_here", "_law_many"] (sp_l_links ⟨K, w, He.ga K "PlanError", He.ga K "PlacedError", He.ma K (He.ga K "PlanError") "__init__"⟩) := mkCal F_l_links g_l_links b_l_links (ok_l_links T rfl F_l_links C_l_draw)
  have C_l_far : Cal P w K mg base "_law_far" (1) ["_law_many", "_law_links_here", "_law_goal"] (sp_l_far ⟨K, w, He.ga K "PlanError", He.ga K "PlacedError", He.ma K (He.ga K "PlanError") "__init__"⟩) := mkCal F_l_far g_l_far b_l_far (ok_l_far T rfl F_l_far)
  have C_l_due : Cal P w K mg base "_law_due" (2) ["_law_many", "_law_links_here"] (sp_l_due ⟨K, w, He.ga K "PlanError", He.ga K "PlacedError", He.ma K (He.ga K "PlanError") "__init__"⟩) := mkCal F_l_due g_l_due b_l_due (ok_l_due T rfl F_l_due C_l_far)
  have C_l_told : Cal P w K mg base "_law_told" (4) ["_law_many", "_law_links_here"] (sp_l_told ⟨K, w, He.ga K "PlanError", He.ga K "PlacedError", He.ma K (He.ga K "PlanError") "__init__"⟩) := mkCal F_l_told g_l_told b_l_told (ok_l_told T rfl F_l_told C_PlanError C_check_network)
  exact (ok_law T rfl F_law C_l_state C_l_pick C_l_draw C_l_links C_l_due C_l_told C_next_hops C_l_far C_distances)
end K40
open PySem PySem.W PySem.Calls PyProof.Rows
theorem PySem.Challenge.cw_placedanyhow_k40_networks_and_hops_holds : PySem.Challenge.rw_placedanyhow_k40_networks_and_hops.Holds := by
  w_on; o_law
  refine HandSHeadRun.head_any (r := OpenLaw.row PySem.Challenge.rw_placedanyhow_k40_networks_and_hops) (q := view (OpenLaw.row PySem.Challenge.rw_placedanyhow_k40_networks_and_hops).prog [17]) (H := K40.hk) (ob := K40.ob) (M := 4000) (loose := K40.lo) (d := HandSHeadRun.topDef (OpenLaw.row PySem.Challenge.rw_placedanyhow_k40_networks_and_hops).prog 17) (kwd := []) K40.ob_eq
    (by kernel_rfl) (fun s => by kernel_rfl) K40.run (by kernel_rfl) (by kernel_rfl) (by kernel_rfl) (by rfl) (by first | assumption | decide +kernel) (by decide +kernel) ⟨rfl, rfl, rfl, rfl, rfl, by decide +kernel⟩ ?hw ?hc
  case hw => w_witness2
  case hc =>
    refine L2.walk_ofE (l := PySem.Challenge.rw_placedanyhow_k40_networks_and_hops) (n := 63) (k := 20) (x := "_law_script") (CX := L2.CX0) rfl (by decide) (by kernel_rfl) ⟨rfl, by decide, by decide⟩ ?F (fun _ _ _ _ z => z)
    intro w mg fa h Y G hmg0
    obtain ⟨K, KX, cx⟩ := Y
    have c := cx.1
    have hmg : mg ("law" : PySem.Str) = some (.ref fa) := by
      have e : (HandSHeadRun.topDef (OpenLaw.row PySem.Challenge.rw_placedanyhow_k40_networks_and_hops).prog 17).name = ("law" : PySem.Str) := by kernel_rfl
      rw [← e]
      exact hmg0
    obtain ⟨fd, hb, hF⟩ := K40.facts (P := (PySem.Challenge.rw_placedanyhow_k40_networks_and_hops).prog) (w := w) KX G hmg c cx.2
    exact ⟨K, fd, K40.sp_law ⟨K, w, He.ga K "PlanError", He.ga K "PlacedError", He.ma K (He.ga K "PlanError") "__init__"⟩, KX, hb, fun H a ns hl _ hS => ⟨a, ns, rfl, hS, hl, K40.cf cx.2, fun _ => rfl⟩, hF⟩

