import PyProof.Rows.All
import Wide.All
import OpenK.AllK
import Wide.FinOn
import HandS.ForMost
import HandS.IsInst
import HandS.Defaults
import HandS.More
import HandS.Head0
import HandS.Head1
import HandS.Head2
import HandS.HeadEnd
import HandS.HeadHook1
import HandS.HeadHook2
import HandS.HeadHook3
import HandS.HeadHook4
import HandS.Style
import HandS.TryOnly
import KE.KAssignIn
import HandS.Strs
import HandS.Text
import HandS.ExcInit
import HandS.ExcField
import HandS.ExcOwn
import HandS.WordsExc
import HandS.ClsMeth
import KE.KExcIs
import HandS.Iter
import HandS.SortOrd
import HandS.SortRule
import HandS.Conv
import HandS.Walk
import KE.KDictSum
import PySem.Challenge.RW_placedanyhow_k43_links_keep_their_order
set_option Elab.async false
set_option linter.all false
set_option maxRecDepth 100000
set_option maxHeartbeats 4000000
/-! Lb: readings that compute, callables by name, data in the heap, the drawing of numbers. Knows no program. -/
namespace Lb
open PySem PySem.Spec PyProof.Rows L2

/-! ### weaker readings -/
section
variable {X : Cx} {e : Expr} {st : Stmt}
theorem pe_imp {t u : TE} (h : PE X e t) (k : ∀ σ H Q, u σ H Q → t σ H Q) : PE X e u := ⟨fun pins s σ H Q I hw => h.run pins s σ H Q I (k σ H Q hw)⟩
theorem pt_imp {t u : TT} (h : PT X e t) (k : ∀ σ H Q, u σ H Q → t σ H Q) : PT X e u := ⟨fun pins s σ H Q I hw => h.run pins s σ H Q I (k σ H Q hw)⟩
theorem ps_imp {t u : TS} (h : PS X st t) (k : ∀ D σ H, u D σ H → t D σ H) : PS X st u := ⟨fun pins s σ H D I hw => h.run pins s σ H D I (k D σ H hw)⟩
end

/-- a reading, made monotone -/
def upE (t : TE) : TE := fun σ H Q => ∃ R : VK, t σ H R ∧ ∀ x H', R x H' → Q x H'
def upT (t : TT) : TT := fun σ H Q => ∃ R : Bool → Hp → Prop, t σ H R ∧ ∀ x H', R x H' → Q x H'
theorem pe_up {X : Cx} {e : Expr} {t : TE} (h : PE X e t) : PE X e (upE t) := ⟨fun pins s σ H Q I ⟨R, h1, h2⟩ => thn (h.run pins s σ H R I h1) fun _ _ ⟨v, H', I', r, q⟩ => ⟨v, H', I', r, h2 v H' q⟩⟩
theorem pt_up {X : Cx} {e : Expr} {t : TT} (h : PT X e t) : PT X e (upT t) := ⟨fun pins s σ H Q I ⟨R, h1, h2⟩ => thn (h.run pins s σ H R I h1) fun _ _ ⟨H', I', q⟩ => ⟨H', I', h2 _ H' q⟩⟩

/-! ### callables: a def, a method, a class, each with its promise -/
structure Cal (P : Program) (w : World) (K : PySem.W.Frag) (mg : Str → Option Value) (base : Heap) (x : Str) (k : Nat) (ps : List Str) (sp : Sp) : Prop where
  ex : ∃ (f : Addr) (fd : FuncData), mg x = some (.ref f) ∧ PySem.W.keepIn K (.ref f) = true ∧ Binds K fd ps [] ∧ FnOk P w K mg base CX0 k f fd ps sp
structure CalM (P : Program) (w : World) (K : PySem.W.Frag) (mg : Str → Option Value) (base : Heap) (C : Addr) (m : Str) (k : Nat) (ps : List Str) (sp : Sp) : Prop where
  ex : ∃ (f : Addr) (fd : FuncData), Cls K C ∧ Meth K C m f ∧ Binds K fd ps [] ∧ FnOk P w K mg base CX0 k f fd ps sp
structure CalC (P : Program) (w : World) (K : PySem.W.Frag) (mg : Str → Option Value) (base : Heap) (x : Str) (C : Addr) (k : Nat) (ps : List Str) (sp : Sp) : Prop where
  ex : ∃ (f : Addr) (fd : FuncData), mg x = some (.ref C) ∧ Mk K C f ∧ Binds K fd ps [] ∧ FnOk P w K mg base CX0 k f fd ps sp
/-- a name of the module that holds a known value -/
structure GV (mg : Str → Option Value) (x : Str) (v : V) : Prop where
  ex : ∃ u, mg x = some u ∧ RelV v u
section
variable {X : Cx} {x m : Str} {C : Addr} {p pos apos : Pos} {o e : Expr} {es : List Expr} {ta : TE} {t : TA} {k : Nat} {ps : List Str} {sp : Sp} {v : V}
theorem pe_gv (c : GV X.mg x v) (hg : Gl X x) (hd : (x == ("__debug__" : Str)) = false := by decide) : PE X (.Name x pos) (tC v) := by
  obtain ⟨u, hm, r⟩ := c.ex
  exact pe_glob hg hm r hd
theorem pe_cal (c : Cal X.prog X.w X.K X.mg X.base x k ps sp) (hr : Room k X.A) (hg : Gl X x) (ha : PA X (e :: es) t) (hdb : (x == ("__debug__" : Str)) = false := by decide)
    (he : starEach (e :: es) X.env = (false, eval e X.env) :: starEach es X.env := by rfl) (hpl : (backTo pos (starEach es X.env)).any (·.1) = false := by rfl) : PE X (.Call (.Name x p) (e :: es) [] pos) (tCall sp [] E0 t) := by
  obtain ⟨f, fd, hm, hk, hb, F⟩ := c.ex
  exact pe_call F hr hg hm hk hb .nil pass0 ha hdb he hpl
theorem pe_cal0 (c : Cal X.prog X.w X.K X.mg X.base x k ps sp) (hr : Room k X.A) (hg : Gl X x) (hdb : (x == ("__debug__" : Str)) = false := by decide) : PE X (.Call (.Name x p) [] [] pos) (tCall sp [] E0 tNil) := by
  obtain ⟨f, fd, hm, hk, hb, F⟩ := c.ex
  exact pe_call0 F hr hg hm hk hb .nil pass0 hdb
theorem pe_calM {pl : Sem Bool} (he : PE X o ta) (c : CalM X.prog X.w X.K X.mg X.base C m k ps sp) (hr : Room k X.A) (ha : PA X (e :: es) t)
    (hst : starEach (e :: es) X.env = (false, eval e X.env) :: starEach es X.env := by rfl) (hpl : (backTo pos (starEach es X.env)).any (·.1) = false := by rfl)
    (ht : eval (.Call (.Attribute o m apos) (e :: es) [] pos) X.env = (do
      let ov ← eval o X.env
      standAt apos.atName
      let (f, first) ← holding [ov] (getMethod ov m pl)
      callWith pos f first (backTo pos (starEach (e :: es) X.env)) (backToKw pos (keywordEach [] X.env))) := by rfl) : PE X (.Call (.Attribute o m apos) (e :: es) [] pos) (tMeth C m sp [] E0 ta t) := by
  obtain ⟨f, fd, hc, hm, hb, F⟩ := c.ex
  exact pe_meth he hc hm F hr hb .nil pass0 ha hst hpl ht
theorem pe_calM0 {pl : Sem Bool} (he : PE X o ta) (c : CalM X.prog X.w X.K X.mg X.base C m k ps sp) (hr : Room k X.A)
    (ht : eval (.Call (.Attribute o m apos) [] [] pos) X.env = (do
      let ov ← eval o X.env
      standAt apos.atName
      let (f, first) ← holding [ov] (getMethod ov m pl)
      callWith pos f first (backTo pos (starEach [] X.env)) (backToKw pos (keywordEach [] X.env))) := by rfl) : PE X (.Call (.Attribute o m apos) [] [] pos) (tMeth C m sp [] E0 ta tNil) := by
  obtain ⟨f, fd, hc, hm, hb, F⟩ := c.ex
  exact pe_meth0 he hc hm F hr hb .nil pass0 ht
theorem pe_calC (c : CalC X.prog X.w X.K X.mg X.base x C k ps sp) (hr : Room (k + 1) X.A) (hg : Gl X x) (ha : PA X (e :: es) t) (hdb : (x == ("__debug__" : Str)) = false := by decide)
    (he : starEach (e :: es) X.env = (false, eval e X.env) :: starEach es X.env := by rfl) (hpl : (backTo pos (starEach es X.env)).any (·.1) = false := by rfl) : PE X (.Call (.Name x p) (e :: es) [] pos) (tMake C sp [] E0 t) := by
  obtain ⟨f, fd, hm, M, hb, F⟩ := c.ex
  exact pe_make M F hr hg hm hb .nil pass0 ha hdb he hpl
theorem pe_calC0 (c : CalC X.prog X.w X.K X.mg X.base x C k ps sp) (hr : Room (k + 1) X.A) (hg : Gl X x) (hdb : (x == ("__debug__" : Str)) = false := by decide) : PE X (.Call (.Name x p) [] [] pos) (tMake C sp [] E0 tNil) := by
  obtain ⟨f, fd, hm, M, hb, F⟩ := c.ex
  exact pe_make0 M F hr hg hm hb .nil pass0 hdb
end

/-! ### readings that compute -/
def rAddA : R2 := fun x y H Q => match x, y with
  | .int a, .int b => Q (.int (a + b)) H
  | .str a, .str b => a.length + b.length ≤ sizeLine ∧ Q (.str (a ++ b)) H
  | .ref p, .ref q => (match H p, H q with
    | some (.lst xs), some (.lst ys) => xs.length + ys.length ≤ sizeLine ∧ ∀ r, H r = none → Q (.ref r) (upd H r (.lst (xs ++ ys)))
    | _, _ => False)
  | _, _ => False
def rMulA : R2 := fun x y H Q => match x, y with
  | .int a, .int b => CMul a b ∧ Q (.int (a * b)) H
  | .ref p, .int k => (match H p with
    | some (.lst xs) => -(2 ^ 63) ≤ k ∧ k < 2 ^ 63 ∧ xs.length * k.toNat ≤ sizeLine ∧ ∀ r, H r = none → Q (.ref r) (upd H r (.lst (List.replicate k.toNat xs).flatten))
    | _ => False)
  | _, _ => False
def eqF : V → V → Option Bool
  | .int a, .int b => some (decide (a = b))
  | .str a, .str b => some (decide (a = b))
  | .bl a, .bl b => some (decide (a = b))
  | .non, .non => some true
  | .non, .int _ => some false
  | .int _, .non => some false
  | .non, .str _ => some false
  | .str _, .non => some false
  | .non, .bl _ => some false
  | .bl _, .non => some false
  | .int _, .str _ => some false
  | .str _, .int _ => some false
  | _, _ => none
def rEqA (K : PySem.W.Frag) : R2 := fun x y H Q => match eqF x y with
  | some b => Q (.bl b) H
  | none => rEqD K x y H Q
def rNeA (K : PySem.W.Frag) : R2 := fun x y H Q => match eqF x y with
  | some b => Q (.bl (!b)) H
  | none => rNeD K x y H Q
def rIsN : R2 := fun x y H Q => y = .non ∧ Q (.bl (decide (x = .non))) H
def rNotN : R2 := fun x y H Q => y = .non ∧ Q (.bl (!decide (x = .non))) H
/-- an item of a list, a tuple, a text -/
def rIxA : R2 := fun x y H Q => match x, y with
  | .ref p, .int i => (match H p with
    | some (.lst xs) => ∃ v, atI xs i = some v ∧ Q v H
    | some (.tup xs) => ∃ v, atI xs i = some v ∧ Q v H
    | _ => False)
  | .str z, .int i => z.length ≤ sizeLine ∧ ∃ c, atI z.cps.toList i = some c ∧ Q (.str ⟨#[c]⟩) H
  | _, _ => False
def rSlA : V → Option Int → Option Int → Hp → VK → Prop := fun x lo hi H Q => match x with
  | .ref p => (match H p with
    | some (.lst xs) => ∀ q, H q = none → Q (.ref q) (upd H q (.lst (cutV xs lo hi)))
    | some (.tup xs) => ¬ (HT.sIx xs.length 0 lo = 0 ∧ HT.sIx xs.length xs.length hi = xs.length) ∧ ∀ q, H q = none → Q (.ref q) (upd H q (.tup (cutV xs lo hi)))
    | _ => False)
  | _ => False
def rLenA : List V → Hp → VK → Prop := fun vs H Q => match vs with
  | [.str y] => y.length ≤ sizeLine ∧ Q (.int y.length) H
  | [.ref p] => (match H p with
    | some (.lst xs) => Q (.int xs.length) H
    | some (.tup xs) => Q (.int xs.length) H
    | some (.dK kvs) => Q (.int kvs.length) H
    | _ => False)
  | _ => False
def rIntA : List V → Hp → VK → Prop := fun vs H Q => match vs with
  | [.int i] => Q (.int i) H
  | [.bl k] => Q (.int (if k = true then 1 else 0)) H
  | _ => False
def rAbsA : List V → Hp → VK → Prop := fun vs H Q => match vs with
  | [.int i] => Q (.int (if i < 0 then -i else i)) H
  | _ => False
def rListA : List V → Hp → VK → Prop := fun vs H Q => match vs with
  | [.ref p] => (match H p with
    | some (.lst xs) => ∀ l, H l = none → Q (.ref l) (upd H l (.lst xs))
    | some (.tup xs) => ∀ l, H l = none → Q (.ref l) (upd H l (.lst xs))
    | _ => False)
  | _ => False
def rTupA : List V → Hp → VK → Prop := fun vs H Q => match vs with
  | [.ref p] => (match H p with
    | some (.lst xs) => ∀ l, H l = none → Q (.ref l) (upd H l (.tup xs))
    | some (.tup _) => Q (.ref p) H
    | _ => False)
  | _ => False
def tyN (x : V) (H : Hp) : Option String := match x with
  | .non => some "NoneType"
  | .bl _ => some "bool"
  | .int _ => some "int"
  | .str _ => some "str"
  | .ref p => (match H p with
    | some (.lst _) => some "list"
    | some (.tup _) => some "tuple"
    | some (.dK _) => some "dict"
    | some (.dT _) => some "dict"
    | _ => none)
  | _ => none
def rIsiA : List V → Hp → VK → Prop := fun vs H Q => match vs with
  | [x, .ty T] => (match tyN x H with
    | some t => ∃ b, kitB t T = some b ∧ Q (.bl b) H
    | none => False)
  | _ => False
def isL (x : V) (H : Hp) : Prop := match x with
  | .ref p => (match H p with
    | some (.lst _) => True
    | _ => False)
  | _ => False
/-- a method of a list -/
def tBML (r : V → List V → Hp → VK → Prop) (to : TE) (t : TA) : TE := fun σ H Q => to σ H fun x H1 => isL x H1 ∧ t σ H1 fun xs H2 => r x xs H2 Q
def rAppA : V → List V → Hp → VK → Prop := fun x vs H Q => match x, vs with
  | .ref l, [y] => (match H l with
    | some (.lst xs) => xs.length < sizeLine ∧ Q .non (upd H l (.lst (xs ++ [y])))
    | _ => False)
  | _, _ => False
def rExtA : V → List V → Hp → VK → Prop := fun x vs H Q => match x, vs with
  | .ref l, [.ref q] => (match H l, H q with
    | some (.lst xs), some (.lst ys) => xs.length + ys.length ≤ sizeLine ∧ Q .non (upd H l (.lst (xs ++ ys)))
    | _, _ => False)
  | _, _ => False
def rPopL : V → List V → Hp → VK → Prop := fun x vs H Q => match x, vs with
  | .ref l, [] => (match H l with
    | some (.lst xs) => ∃ y, xs[xs.length - 1]? = some y ∧ Q y (upd H l (.lst xs.dropLast))
    | _ => False)
  | _, _ => False
def rPopI : V → List V → Hp → VK → Prop := fun x vs H Q => match x, vs with
  | .ref l, [.int i] => (match H l with
    | some (.lst xs) => ∃ (k : Nat) (y : V), i = (k : Int) ∧ k < 2 ^ 62 ∧ xs[k]? = some y ∧ Q y (upd H l (.lst (xs.eraseIdx k)))
    | _ => False)
  | _, _ => False
def rSetA : TSet := fun o i v H Q => match o, i with
  | .ref p, .int k => (match H p with
    | some (.lst xs) => ∃ j, ixN xs.length k = some j ∧ Q (upd H p (.lst (xs.set j v)))
    | _ => False)
  | _, _ => False
section
variable {X : Cx}
theorem op_addA : OpR X (binaryOp .Add) rAddA := by
  intro pins s σ H x y v u Q I rx ry h
  unfold rAddA at h
  split at h
  · exact op_add pins s σ H _ _ v u Q I rx ry ⟨_, _, rfl, rfl, h⟩
  · exact op_add_str pins s σ H _ _ v u Q I rx ry ⟨_, _, rfl, rfl, h⟩
  · split at h
    · rename_i h1 h2
      exact op_cat pins s σ H _ _ v u Q I rx ry ⟨_, _, _, _, rfl, rfl, h1, h2, h⟩
    · exact h.elim
  · exact h.elim
theorem op_mulA : OpR X (binaryOp .Mult) rMulA := by
  intro pins s σ H x y v u Q I rx ry h
  unfold rMulA at h
  split at h
  · exact op_mul pins s σ H _ _ v u Q I rx ry ⟨_, _, rfl, rfl, h⟩
  · split at h
    · rename_i h1
      exact op_rep pins s σ H _ _ v u Q I rx ry ⟨_, _, _, rfl, rfl, h1, h⟩
    · exact h.elim
  · exact h.elim
theorem eqF_ok {x y : V} {b : Bool} (h : eqF x y = some b) : scal x y = true ∧ decide (x = y) = b := by
  cases x <;> cases y <;> simp only [eqF, Option.some.injEq, reduceCtorEq] at h <;> (subst h; refine ⟨rfl, ?_⟩; simp)
theorem op_eqA (hu : X.A.units + 64 < cLine) : OpR X (compareOp .Eq) (rEqA X.K) := by
  intro pins s σ H x y v u Q I rx ry h
  unfold rEqA at h
  split at h
  · rename_i b e
    obtain ⟨h1, h2⟩ := eqF_ok e
    exact op_eq pins s σ H x y v u Q I rx ry ⟨h1, by rw [h2]; exact h⟩
  · exact op_eqD hu pins s σ H x y v u Q I rx ry h
theorem op_neA (hu : X.A.units + 64 < cLine) : OpR X (compareOp .NotEq) (rNeA X.K) := by
  intro pins s σ H x y v u Q I rx ry h
  unfold rNeA at h
  split at h
  · rename_i b e
    obtain ⟨h1, h2⟩ := eqF_ok e
    exact op_ne pins s σ H x y v u Q I rx ry ⟨h1, by rw [h2]; exact h⟩
  · exact op_neD hu pins s σ H x y v u Q I rx ry h
theorem op_isNA : OpR X (compareOp .Is) rIsN := op_isN
theorem op_notNA : OpR X (compareOp .IsNot) rNotN := op_notN
theorem ix_A : IxR X rIxA := by
  intro value slice pins s σ H x y v u Q I rx ry h hs
  unfold rIxA at h
  split at h
  · split at h
    · rename_i h1
      obtain ⟨w, h2, h3⟩ := h
      exact ix_list value slice pins s σ H _ _ v u Q I rx ry ⟨_, _, _, _, rfl, rfl, SqL.of h1, h2, h3⟩ hs
    · rename_i h1
      obtain ⟨w, h2, h3⟩ := h
      exact ix_tup value slice pins s σ H _ _ v u Q I rx ry ⟨_, _, _, _, rfl, rfl, SqT.of h1, h2, h3⟩ hs
    · exact h.elim
  · obtain ⟨h1, c, h2, h3⟩ := h
    exact ix_str value slice pins s σ H _ _ v u Q I rx ry ⟨_, _, _, rfl, rfl, h1, h2, h3⟩ hs
  · exact h.elim
theorem sl_A : SlR X rSlA := by
  intro pins s σ H x v vl vu lo hi sl Q I rx hs pl pu h
  unfold rSlA at h
  split at h
  · split at h
    · rename_i h1
      exact sl_list pins s σ H _ v vl vu lo hi sl Q I rx hs pl pu ⟨_, _, rfl, SqL.of h1, h⟩
    · rename_i h1
      exact sl_tup pins s σ H _ v vl vu lo hi sl Q I rx hs pl pu ⟨_, _, rfl, SqT.of h1, h⟩
    · exact h.elim
  · exact h.elim
theorem call_lenA : CallR X (.builtin "len") rLenA := by
  intro pins s σ H vs us Q I r h
  unfold rLenA at h
  split at h
  · exact call_len_str pins s σ H _ us Q I r ⟨_, rfl, h⟩
  · split at h
    · rename_i h1
      exact call_len_seq pins s σ H _ us Q I r ⟨_, _, rfl, .inl (SqL.of h1), h⟩
    · rename_i h1
      exact call_len_seq pins s σ H _ us Q I r ⟨_, _, rfl, .inr (SqT.of h1), h⟩
    · rename_i h1
      exact call_lenD pins s σ H _ us Q I r ⟨_, _, rfl, h1, h⟩
    · exact h.elim
  · exact h.elim
theorem call_intA : CallR X (.type "int") rIntA := by
  intro pins s σ H vs us Q I r h
  unfold rIntA at h
  split at h
  · exact call_int1 pins s σ H _ us Q I r (.inl ⟨_, rfl, h⟩)
  · exact call_int1 pins s σ H _ us Q I r (.inr ⟨_, rfl, h⟩)
  · exact h.elim
theorem call_absA : CallR X (.builtin "abs") rAbsA := by
  intro pins s σ H vs us Q I r h
  unfold rAbsA at h
  split at h
  · exact call_abs pins s σ H _ us Q I r ⟨_, rfl, h⟩
  · exact h.elim
theorem call_listA : CallR X (.type "list") rListA := by
  intro pins s σ H vs us Q I r h
  unfold rListA at h
  split at h
  · split at h
    · rename_i h1
      exact call_list_of pins s σ H _ us Q I r ⟨_, _, rfl, .inl (SqL.of h1), h⟩
    · rename_i h1
      exact call_list_of pins s σ H _ us Q I r ⟨_, _, rfl, .inr (SqT.of h1), h⟩
    · exact h.elim
  · exact h.elim
theorem call_tupA : CallR X (.type "tuple") rTupA := by
  intro pins s σ H vs us Q I r h
  unfold rTupA at h
  split at h
  · split at h
    · rename_i h1
      exact call_tuple_of pins s σ H _ us Q I r ⟨_, _, rfl, .inl ⟨SqL.of h1, h⟩⟩
    · rename_i h1
      exact call_tuple_of pins s σ H _ us Q I r ⟨_, _, rfl, .inr ⟨SqT.of h1, h⟩⟩
    · exact h.elim
  · exact h.elim
theorem tyN_ok {K : PySem.W.Frag} {x : V} {H : Hp} {t : String} (h : tyN x H = some t) : TyX K H x (.type t) := by
  unfold tyN at h
  split at h
  · cases h; exact .base .non
  · cases h; exact .base (.bl _)
  · cases h; exact .base (.int _)
  · cases h; exact .base (.str _)
  · split at h
    · rename_i h1; cases h; exact .base (.lst h1)
    · rename_i h1; cases h; exact .base (.tup h1)
    · rename_i h1; cases h; exact .base (.dK h1)
    · rename_i h1; cases h; exact .base (.dT h1)
    · cases h
  · cases h
theorem call_isiA : CallR X (.builtin "isinstance") rIsiA := by
  intro pins s σ H vs us Q I r h
  unfold rIsiA at h
  split at h
  · split at h
    · rename_i h1
      obtain ⟨b, h2, h3⟩ := h
      exact call_isi pins s σ H _ us Q I r ⟨_, _, _, _, b, rfl, .ty _, tyN_ok h1, kit_ty h2, h3⟩
    · exact h.elim
  · exact h.elim
theorem isL_ty {K : PySem.W.Frag} {x : V} {H : Hp} (h : isL x H) : tyV K "list" x H := by
  unfold isL at h
  split at h
  · split at h
    · rename_i h1
      exact .inl ⟨rfl, _, SqL.of h1⟩
    · exact h.elim
  · exact h.elim
theorem mt_appA : MtR X "list.append" rAppA := by
  intro pins s σ H x vs v us Q I rx rv h
  unfold rAppA at h
  split at h
  · split at h
    · rename_i h1
      exact mt_append pins s σ H _ _ v us Q I rx rv ⟨_, _, _, rfl, rfl, h1, h⟩
    · exact h.elim
  · exact h.elim
theorem mt_extA : MtR X "list.extend" rExtA := by
  intro pins s σ H x vs v us Q I rx rv h
  unfold rExtA at h
  split at h
  · split at h
    · rename_i h1 h2
      exact mt_extend pins s σ H _ _ v us Q I rx rv ⟨_, _, _, _, rfl, rfl, h1, h2, h⟩
    · exact h.elim
  · exact h.elim
theorem mt_popL : MtR X "list.pop" rPopL := by
  intro pins s σ H x vs v us Q I rx rv h
  unfold rPopL at h
  split at h
  · split at h
    · rename_i h1
      obtain ⟨y, h2, h3⟩ := h
      exact mt_pop pins s σ H _ _ v us Q I rx rv ⟨_, _, _, rfl, rfl, h1, h2, h3⟩
    · exact h.elim
  · exact h.elim
theorem seqIx_nat {n k : Nat} (h : k < n) : seqIndex? (k : Int) n = some k := by
  obtain ⟨h1, _⟩ := ixN_seq (n := n) (i := (k : Int)) (j := k) (by unfold ixN; rw [if_pos (by omega), if_pos (by omega)]; simp)
  exact h1
theorem mt_popI : MtR X "list.pop" rPopI := by
  intro pins s σ H x vs v us Q I rx rv h
  unfold rPopI at h
  split at h
  · split at h
    · rename_i h1
      obtain ⟨k, y, h2, h3, h4, h5⟩ := h
      have hk := (List.getElem?_eq_some_iff.mp h4).1
      subst h2
      exact mt_popAt pins s σ H _ _ v us Q I rx rv ⟨_, _, _, k, y, rfl, rfl, h1, by omega, by omega, seqIx_nat hk, h4, h5⟩
    · exact h.elim
  · exact h.elim
theorem set_A : PSet X rSetA := by
  intro pins s σ H o i v ov iv u Q I ro ri rv h
  unfold rSetA at h
  split at h
  · split at h
    · rename_i h1
      obtain ⟨j, h2, h3⟩ := h
      exact set_list pins s σ H _ _ v ov iv u Q I ro ri rv ⟨_, _, _, _, rfl, rfl, h1, h2, h3⟩
    · exact h.elim
  · exact h.elim
variable {o e : Expr} {es : List Expr} {to : TE} {t : TA} {name : Str} {apos cpos : Pos} {id : String} {r : V → List V → Hp → VK → Prop}
theorem pe_bml0 (slot : Slot "list" name id) (hty : typeOf (.builtin id) = pure (.type "method_descriptor")) (hm : MtR X id r) (ho : PE X o to)
    (hbase : attributeBase o name X.env (eval o X.env) = eval o X.env := by rfl) (hline : (apos.endLine == cpos.line) = true := by rfl) : PE X (.Call (.Attribute o name apos) [] [] cpos) (tBML r to tNil) :=
  pe_imp (pe_bm0 PySem.F.plainAttrs_list slot hty hm (pe_up ho) hbase hline) fun σ H Q h => ⟨_, h, fun x H' q => ⟨isL_ty q.1, q.2⟩⟩
theorem pe_bml (slot : Slot "list" name id) (hty : typeOf (.builtin id) = pure (.type "method_descriptor")) (hm : MtR X id r) (ho : PE X o to) (ha : PA X (e :: es) t)
    (hbase : attributeBase o name X.env (eval o X.env) = eval o X.env := by rfl)
    (hfew : ((backTo cpos (starEach (e :: es) X.env)).all (fun x => !x.1) && (backToKw cpos (keywordEach [] X.env)).all (fun x => x.1.isSome)
      && decide ((e :: es).length + ([] : List Keyword).length + (if ([] : List Keyword).isEmpty then 0 else 1) < 30)) = true := by rfl)
    (hline : (apos.endLine == cpos.line) = true := by rfl) (hs : starEach (e :: es) X.env = (false, eval e X.env) :: starEach es X.env := by rfl) (hplain : (backTo cpos (starEach es X.env)).any (·.1) = false := by rfl) :
    PE X (.Call (.Attribute o name apos) (e :: es) [] cpos) (tBML r to t) :=
  pe_imp (pe_bm PySem.F.plainAttrs_list slot hty hm (pe_up ho) ha hbase hfew hline hs hplain) fun σ H Q h => ⟨_, h, fun x H' q => ⟨isL_ty q.1, q.2⟩⟩
end
end Lb
set_option Elab.async false
set_option linter.all false
set_option maxRecDepth 100000
set_option maxHeartbeats 4000000
/-! Lc: what simp steps by, data in the heap, mutable places, the drawing of numbers. Knows no program. -/
namespace Lb
open PySem PySem.Spec PyProof.Rows L2

/-! ### steps of the readings, each at its arguments -/
section
variable {σ : L2.St} {H : Hp} {Q : VK} {D : Ends}
theorem ap_seq {t u : TS} : tSeq t u D σ H = t { D with nx := u D } σ H := rfl
theorem ap_asg {te : TE} {g : TG} : tAsg te g D σ H = te σ H fun x H1 => g x σ H1 D.nx := rfl
theorem ap_gname {i : Nat} {v : V} {R : L2.St → Hp → Prop} : gName i v σ H R = R (σ.set i (some v)) H := rfl
theorem ap_var {i : Nat} : tVar i σ H Q = ∃ v, σ[i]? = some (some v) ∧ Q v H := rfl
theorem ap_c {v : V} : tC v σ H Q = Q v H := rfl
theorem ap_op {r : R2} {ta tb : TE} : tOp r ta tb σ H Q = ta σ H fun x H1 => tb σ H1 fun y H2 => r x y H2 Q := rfl
theorem ap_un {r : V → Hp → VK → Prop} {ta : TE} : tUn r ta σ H Q = ta σ H fun x H1 => r x H1 Q := rfl
theorem ap_rU {g : Int → V} {i : Int} : rU g (.int i) H Q = Q (g i) H := by
  apply propext
  constructor
  · rintro ⟨j, e, q⟩
    cases e
    exact q
  · intro q
    exact ⟨_, rfl, q⟩
theorem ap_rI0 {g : Int → Int → V} {i j : Int} : rI0 g (.int i) (.int j) H Q = Q (g i j) H := by
  apply propext
  constructor
  · rintro ⟨a, b, e1, e2, q⟩
    cases e1
    cases e2
    exact q
  · intro q
    exact ⟨_, _, rfl, rfl, q⟩
theorem ap_rI {C : Int → Int → Prop} {g : Int → Int → V} {i j : Int} : rI C g (.int i) (.int j) H Q = (C i j ∧ Q (g i j) H) := by
  apply propext
  constructor
  · rintro ⟨a, b, e1, e2, q⟩
    cases e1
    cases e2
    exact q
  · intro q
    exact ⟨_, _, rfl, rfl, q⟩
theorem ap_ifS {c : TT} {t u : TS} : tIfS c t u D σ H = c σ H fun b H1 => if b = true then t D σ H1 else u D σ H1 := rfl
theorem ap_test {t : TE} {R : Bool → Hp → Prop} : tTest t σ H R = t σ H fun x H' => ∃ k, x = .bl k ∧ R k H' := rfl
theorem ap_B {t : TE} {R : Bool → Hp → Prop} : tB t σ H R = t σ H fun x H' => ∃ k, x = .bl k ∧ R k H' := rfl
theorem ap_bl {b : Bool} {R : Bool → Hp → Prop} : (∃ k, V.bl b = .bl k ∧ R k H) = R b H := by
  apply propext
  constructor
  · rintro ⟨k, e, q⟩
    cases e
    exact q
  · intro q
    exact ⟨_, rfl, q⟩
theorem ap_ret {te : TE} : tRet te D σ H = te σ H D.rt := rfl
theorem ap_retN : tRetN D σ H = D.rt .non H := rfl
theorem ap_drop {te : TE} : tDrop te D σ H = te σ H fun _ H1 => D.nx σ H1 := rfl
theorem ap_next : tNext D σ H = D.nx σ H := rfl
theorem ap_brk : tBreak D σ H = D.bk σ H := rfl
theorem ap_cnt : tCont D σ H = D.ct σ H := rfl
theorem ap_and {t u : TT} {R : Bool → Hp → Prop} : tAnd t u σ H R = t σ H fun c H1 => if c = true then u σ H1 R else R false H1 := rfl
theorem ap_or {t u : TT} {R : Bool → Hp → Prop} : tOr t u σ H R = t σ H fun c H1 => if c = true then R true H1 else u σ H1 R := rfl
theorem ap_not {t : TT} {R : Bool → Hp → Prop} : tNot t σ H R = t σ H fun c H1 => R (!c) H1 := rfl
theorem ap_andV {ta tb : TE} : tAndV ta tb σ H Q = ta σ H fun x H1 => ∃ c, x = .bl c ∧ if c = true then tb σ H1 Q else Q (.bl false) H1 := rfl
theorem ap_orV {ta tb : TE} : tOrV ta tb σ H Q = ta σ H fun x H1 => ∃ c, x = .bl c ∧ if c = true then Q (.bl true) H1 else tb σ H1 Q := rfl
theorem ap_notV {ta : TE} : tNotV ta σ H Q = ta σ H fun x H1 => ∃ c, x = .bl c ∧ Q (.bl (!c)) H1 := rfl
theorem ap_if {t : TT} {ta tb : TE} : tIf t ta tb σ H Q = t σ H fun c H1 => if c = true then ta σ H1 Q else tb σ H1 Q := rfl
theorem ap_call {sp : Sp} {dvs : List V} {E : XK} {t : TA} : tCall sp dvs E t σ H Q = t σ H fun vs H1 => sp (vs ++ dvs) H1 Q E := rfl
theorem ap_cb {r : List V → Hp → VK → Prop} {t : TA} : tCB r t σ H Q = t σ H fun vs H1 => r vs H1 Q := rfl
theorem ap_cons {ta : TE} {tr : TA} {R : List V → Hp → Prop} : tCons ta tr σ H R = ta σ H fun x H1 => tr σ H1 fun xs H2 => R (x :: xs) H2 := rfl
theorem ap_nil {R : List V → Hp → Prop} : tNil σ H R = R [] H := rfl
theorem ap_tup {t : TA} : tTup t σ H Q = t σ H fun xs H1 => xs.length ≤ sizeLine ∧ ∀ p, H1 p = none → Q (.ref p) (upd H1 p (.tup xs)) := rfl
theorem ap_lst {t : TA} : tLst t σ H Q = t σ H fun xs H1 => xs.length ≤ sizeLine ∧ ∀ p, H1 p = none → Q (.ref p) (upd H1 p (.lst xs)) := rfl
theorem ap_bml {r : V → List V → Hp → VK → Prop} {to : TE} {t : TA} : tBML r to t σ H Q = to σ H fun x H1 => isL x H1 ∧ t σ H1 fun xs H2 => r x xs H2 Q := rfl
theorem ap_gsub {to ti : TE} {t : TSet} {v : V} {R : L2.St → Hp → Prop} : gSub to ti t v σ H R = to σ H fun o H1 => ti σ H1 fun i H2 => t o i v H2 fun H3 => R σ H3 := rfl
theorem ap_sl {r : V → Option Int → Option Int → Hp → VK → Prop} {te : TE} {tl th : TO} : tSl r te tl th σ H Q = te σ H fun x H1 => tl σ H1 fun l H2 => th σ H2 fun u H3 => r x l u H3 Q := rfl
theorem ap_nop {R : Option Int → Hp → Prop} : tNoPart σ H R = R none H := rfl
theorem ap_part {t : TE} {R : Option Int → Hp → Prop} : tPart t σ H R = t σ H fun x H1 => ∃ i, x = .int i ∧ R (some i) H1 := rfl
theorem ap_prt {i : Int} {R : Option Int → Hp → Prop} : (∃ j, V.int i = .int j ∧ R (some j) H) = R (some i) H := by
  apply propext
  constructor
  · rintro ⟨k, e, q⟩
    cases e
    exact q
  · intro q
    exact ⟨_, rfl, q⟩
theorem ap_isN {x : V} : rIsN x .non H Q = Q (.bl (decide (x = .non))) H := by
  apply propext
  constructor
  · rintro ⟨_, q⟩
    exact q
  · intro q
    exact ⟨rfl, q⟩
theorem ap_notN {x : V} : rNotN x .non H Q = Q (.bl (!decide (x = .non))) H := by
  apply propext
  constructor
  · rintro ⟨_, q⟩
    exact q
  · intro q
    exact ⟨rfl, q⟩
theorem ap_yes {R : Bool → Hp → Prop} : tYes σ H R = R true H := rfl
theorem ap_rng1 {ta : TA} {R : It → Hp → Prop} : iRng1 ta σ H R = ta σ H fun vs H1 => ∃ j : Int, vs = [.int j] ∧ -(2 ^ 62) ≤ j ∧ j < 2 ^ 62 ∧ R (Itr 0 j.toNat) H1 := rfl
theorem ap_rng1' {j : Int} {R : It → Hp → Prop} : (∃ i : Int, [V.int j] = [.int i] ∧ -(2 ^ 62) ≤ i ∧ i < 2 ^ 62 ∧ R (Itr 0 i.toNat) H) = (-(2 ^ 62) ≤ j ∧ j < 2 ^ 62 ∧ R (Itr 0 j.toNat) H) := by
  apply propext
  constructor
  · rintro ⟨k, e, q⟩
    cases e
    exact q
  · intro q
    exact ⟨_, rfl, q⟩
theorem ite_tt {A B : Prop} : (if true = true then A else B) = A := if_pos rfl
theorem ite_ff {A B : Prop} : (if false = true then A else B) = B := if_neg Bool.false_ne_true
end

/-! ### heaps that grow -/
theorem Same.newp {H : Hp} {p : Addr} {o : HO} (h : H p = none) : Same H (upd H p o) := fun b u e => by
  rw [upd_ne (ne_of_none e h)]
  exact e
/-- the heap without the places of S -/
def hid (S : List Addr) (H : Hp) : Hp := fun b => if b ∈ S then none else H b
theorem hid_out {S : List Addr} {H : Hp} {b : Addr} (h : b ∉ S) : hid S H b = H b := if_neg h
theorem hid_in {S : List Addr} {H : Hp} {b : Addr} (h : b ∈ S) : hid S H b = none := if_pos h
theorem hid_sub {S : List Addr} {H : Hp} : Same (hid S H) H := fun b o e => by
  by_cases h : b ∈ S
  · rw [hid_in h] at e
    cases e
  · rw [hid_out h] at e
    exact e
theorem hid_some {S : List Addr} {H : Hp} {b : Addr} {o : HO} (h : hid S H b = some o) : H b = some o ∧ b ∉ S := by
  by_cases q : b ∈ S
  · rw [hid_in q] at h
    cases h
  · rw [hid_out q] at h
    exact ⟨h, q⟩
theorem hid_upd {S : List Addr} {H : Hp} {a : Addr} {o : HO} (h : a ∈ S) : hid S (upd H a o) = hid S H := by
  funext b
  by_cases q : b ∈ S
  · rw [hid_in q, hid_in q]
  · rw [hid_out q, hid_out q, upd_ne fun e => q (by rw [e]; exact h)]
theorem hid_updN {S : List Addr} {H : Hp} {a : Addr} {o : HO} (h : a ∉ S) : hid S (upd H a o) = upd (hid S H) a o := by
  funext b
  by_cases q : b ∈ S
  · rw [hid_in q, upd_ne (fun e => h (by rw [← e]; exact q)), hid_in q]
  · rw [hid_out q]
    by_cases e : b = a
    · rw [e, upd_same, upd_same]
    · rw [upd_ne e, upd_ne e, hid_out q]
theorem hid_eq {S : List Addr} {H H' : Hp} (h : ∀ b, b ∉ S → H' b = H b) : hid S H' = hid S H := by
  funext b
  by_cases q : b ∈ S
  · rw [hid_in q, hid_in q]
  · rw [hid_out q, hid_out q, h b q]
theorem hid_mono {S S' : List Addr} {H : Hp} (h : ∀ b, b ∈ S → b ∈ S') : Same (hid S' H) (hid S H) := fun b o e => by
  obtain ⟨e1, e2⟩ := hid_some e
  rw [hid_out fun q => e2 (h b q)]
  exact e1
theorem Same.hid {S : List Addr} {H H' : Hp} (h : Same H H') : Same (hid S H) (hid S H') := fun b o e => by
  obtain ⟨e1, e2⟩ := hid_some e
  rw [hid_out e2]
  exact h b o e1

/-! ### data -/
mutual
inductive Dt (H : Hp) : V → PyData → Prop
  | non : Dt H .non .none
  | bl (b : Bool) : Dt H (.bl b) (.bool b)
  | int (i : Int) : Dt H (.int i) (.int i)
  | str (x : Str) : Dt H (.str x) (.str x)
  | lst {a : Addr} {xs : List V} {ds : List PyData} : H a = some (.lst xs) → DtAll H xs ds → Dt H (.ref a) (.list ds)
  | tup {a : Addr} {xs : List V} {ds : List PyData} : H a = some (.tup xs) → DtAll H xs ds → Dt H (.ref a) (.tuple ds)
inductive DtAll (H : Hp) : List V → List PyData → Prop
  | nil : DtAll H [] []
  | cons {v : V} {vs : List V} {d : PyData} {ds : List PyData} : Dt H v d → DtAll H vs ds → DtAll H (v :: vs) (d :: ds)
end
mutual
theorem Dt.mono {H H' : Hp} (e : Same H H') : ∀ {v : V} {d : PyData}, Dt H v d → Dt H' v d
  | _, _, .non => .non
  | _, _, .bl b => .bl b
  | _, _, .int i => .int i
  | _, _, .str x => .str x
  | _, _, .lst h k => .lst (e _ _ h) (DtAll.mono e k)
  | _, _, .tup h k => .tup (e _ _ h) (DtAll.mono e k)
theorem DtAll.mono {H H' : Hp} (e : Same H H') : ∀ {vs : List V} {ds : List PyData}, DtAll H vs ds → DtAll H' vs ds
  | _, _, .nil => .nil
  | _, _, .cons h k => .cons (Dt.mono e h) (DtAll.mono e k)
end
mutual
theorem Dt.dp {K : PySem.W.Frag} {H : Hp} : ∀ {v : V} {d : PyData}, Dt H v d → Dp K H v d
  | _, _, .non => .non
  | _, _, .bl b => .bl b
  | _, _, .int i => .int i
  | _, _, .str x => .str x
  | _, _, .lst h k => .lst (SqL.of h) (DtAll.dp k)
  | _, _, .tup h k => .tup (SqT.of h) (DtAll.dp k)
theorem DtAll.dp {K : PySem.W.Frag} {H : Hp} : ∀ {vs : List V} {ds : List PyData}, DtAll H vs ds → DpAll K H vs ds
  | _, _, .nil => .nil
  | _, _, .cons h k => .cons (Dt.dp h) (DtAll.dp k)
end
section
variable {H : Hp}
theorem DtAll.append : ∀ {xs ys : List V} {ds es : List PyData}, DtAll H xs ds → DtAll H ys es → DtAll H (xs ++ ys) (ds ++ es)
  | _, _, _, _, .nil, k => k
  | _, _, _, _, .cons a b, k => .cons a (DtAll.append b k)
theorem DtAll.length : ∀ {xs : List V} {ds : List PyData}, DtAll H xs ds → xs.length = ds.length
  | _, _, .nil => rfl
  | _, _, .cons _ k => by rw [List.length_cons, List.length_cons, DtAll.length k]
theorem DtAll.get : ∀ {xs : List V} {ds : List PyData} {i : Nat} {d : PyData}, DtAll H xs ds → ds[i]? = some d → ∃ v, xs[i]? = some v ∧ Dt H v d
  | _, _, _, _, .nil, e => by simp at e
  | _, _, 0, _, .cons a _, e => by simp at e; subst e; exact ⟨_, rfl, a⟩
  | _, _, i + 1, d, .cons _ k, e => by
    obtain ⟨v, h1, h2⟩ := DtAll.get (i := i) (d := d) k (by simpa using e)
    exact ⟨v, by simpa using h1, h2⟩
theorem DtAll.get' : ∀ {xs : List V} {ds : List PyData} {i : Nat} {v : V}, DtAll H xs ds → xs[i]? = some v → ∃ d, ds[i]? = some d ∧ Dt H v d
  | _, _, _, _, .nil, e => by simp at e
  | _, _, 0, _, .cons a _, e => by simp at e; subst e; exact ⟨_, rfl, a⟩
  | _, _, i + 1, v, .cons _ k, e => by
    obtain ⟨d, h1, h2⟩ := DtAll.get' (i := i) (v := v) k (by simpa using e)
    exact ⟨d, by simpa using h1, h2⟩
theorem DtAll.ints : ∀ ns : List Int, DtAll H (ns.map V.int) (ns.map PyData.int)
  | [] => .nil
  | n :: r => .cons (.int n) (DtAll.ints r)
theorem DtAll.intsI : ∀ {ns : List Int} {vs : List V}, DtAll H vs (ns.map PyData.int) → vs = ns.map V.int
  | [], _, .nil => rfl
  | n :: r, _, .cons (.int _) k => by rw [DtAll.intsI k]; rfl
theorem DtAll.take : ∀ {xs : List V} {ds : List PyData} (n : Nat), DtAll H xs ds → DtAll H (xs.take n) (ds.take n)
  | _, _, 0, _ => .nil
  | _, _, _ + 1, .nil => .nil
  | _, _, n + 1, .cons a k => .cons a (DtAll.take n k)
theorem DtAll.drop : ∀ {xs : List V} {ds : List PyData} (n : Nat), DtAll H xs ds → DtAll H (xs.drop n) (ds.drop n)
  | _, _, 0, k => k
  | _, _, _ + 1, .nil => .nil
  | _, _, n + 1, .cons _ k => DtAll.drop n k
theorem DtAll.set : ∀ {xs : List V} {ds : List PyData} {v : V} {d : PyData} (i : Nat), Dt H v d → DtAll H xs ds → DtAll H (xs.set i v) (ds.set i d)
  | _, _, _, _, _, _, .nil => .nil
  | _, _, _, _, 0, h, .cons _ k => .cons h k
  | _, _, _, _, i + 1, h, .cons a k => .cons a (DtAll.set i h k)
theorem DtAll.erase : ∀ {xs : List V} {ds : List PyData} (i : Nat), DtAll H xs ds → DtAll H (xs.eraseIdx i) (ds.eraseIdx i)
  | _, _, _, .nil => .nil
  | _, _, 0, .cons _ k => k
  | _, _, i + 1, .cons a k => .cons a (DtAll.erase i k)
theorem DtAll.rev {xs : List V} {ds : List PyData} (h : DtAll H xs ds) : DtAll H xs.reverse ds.reverse := by
  induction xs generalizing ds with
  | nil => cases h; exact .nil
  | cons x r ih =>
    cases h with
    | cons a k =>
      rw [List.reverse_cons, List.reverse_cons]
      exact DtAll.append (ih k) (.cons a .nil)
end
/-- data that are equal as Python says, where it can be looked at -/
abbrev Shp (d : PyData) : Prop := SeqAt.shaped d = true
theorem eqv_self {d : PyData} (h : Shp d) : PyData.eqv d d = true := SeqAt.eqv_refl d (SeqAt.canLay_of_shaped h)
section
variable {K : PySem.W.Frag} {H : Hp} {Q : VK} {x y : V} {d e : PyData}
/-- a == b of two data -/
theorem rd_eq (hx : Dt H x d) (hy : Dt H y e) (h1 : Shp d) (h2 : Shp e) (q : Q (.bl (PyData.eqv d e)) H) : rEqA K x y H Q := by
  unfold rEqA
  split
  · rename_i b h
    obtain ⟨h3, h4⟩ := eqF_ok h
    have e1 : PyData.eqv d e = b := by
      cases hx <;> cases hy <;> simp_all [eqF, PyData.eqv] <;> (rw [← h]; exact Bool.eq_iff_iff.mpr (by simp))
    rw [← e1]
    exact q
  · exact ⟨d, e, hx.dp, hy.dp, h1, h2, q⟩
theorem rd_ne (hx : Dt H x d) (hy : Dt H y e) (h1 : Shp d) (h2 : Shp e) (q : Q (.bl (!PyData.eqv d e)) H) : rNeA K x y H Q := by
  unfold rNeA
  split
  · rename_i b h
    obtain ⟨h3, h4⟩ := eqF_ok h
    have e1 : PyData.eqv d e = b := by
      cases hx <;> cases hy <;> simp_all [eqF, PyData.eqv] <;> (rw [← h]; exact Bool.eq_iff_iff.mpr (by simp))
    rw [← e1]
    exact q
  · exact ⟨d, e, hx.dp, hy.dp, h1, h2, q⟩
/-- the same data on both sides -/
theorem rd_eqT (hx : Dt H x d) (hy : Dt H y d) (h1 : Shp d) (q : Q (.bl true) H) : rEqA K x y H Q := rd_eq hx hy h1 h1 (by rw [eqv_self h1]; exact q)
theorem rd_neF (hx : Dt H x d) (hy : Dt H y d) (h1 : Shp d) (q : Q (.bl false) H) : rNeA K x y H Q := rd_ne hx hy h1 h1 (by rw [eqv_self h1]; exact q)
end
end Lb
set_option Elab.async false
set_option linter.all false
set_option maxRecDepth 100000
set_option maxHeartbeats 4000000
/-! Ld: the steps of a reading, one lemma a step; the drawing of numbers. Knows no program. -/
namespace Lb
open PySem PySem.Spec PyProof.Rows L2
section
variable {σ : L2.St} {H : Hp} {Q : VK} {nx : L2.St → Hp → Prop} {rt : VK} {bk ct : L2.St → Hp → Prop}
/-- a value as a test -/
def tTru (K : PySem.W.Frag) (ta : TE) : TT := fun σ H Q => ta σ H fun x H' => ∃ k, TruV K x H' k ∧ Q k H'
theorem i_seq {t u : TS} (q : t ⟨fun σ H => u ⟨nx, rt, bk, ct⟩ σ H, rt, bk, ct⟩ σ H) : tSeq t u ⟨nx, rt, bk, ct⟩ σ H := q
theorem i_asg {te : TE} {g : TG} (q : te σ H fun x H1 => g x σ H1 nx) : tAsg te g ⟨nx, rt, bk, ct⟩ σ H := q
theorem i_gname {i : Nat} {v : V} {R : L2.St → Hp → Prop} (q : R (σ.set i (some v)) H) : gName i v σ H R := q
theorem i_ifS {c : TT} {t u : TS} (q : c σ H fun b H1 => if b = true then t ⟨nx, rt, bk, ct⟩ σ H1 else u ⟨nx, rt, bk, ct⟩ σ H1) : tIfS c t u ⟨nx, rt, bk, ct⟩ σ H := q
theorem i_ret {te : TE} (q : te σ H rt) : tRet te ⟨nx, rt, bk, ct⟩ σ H := q
theorem i_retN (q : rt .non H) : tRetN ⟨nx, rt, bk, ct⟩ σ H := q
theorem i_drop {te : TE} (q : te σ H fun _ H1 => nx σ H1) : tDrop te ⟨nx, rt, bk, ct⟩ σ H := q
theorem i_next (q : nx σ H) : tNext ⟨nx, rt, bk, ct⟩ σ H := q
theorem i_brk (q : bk σ H) : tBreak ⟨nx, rt, bk, ct⟩ σ H := q
theorem i_cnt (q : ct σ H) : tCont ⟨nx, rt, bk, ct⟩ σ H := q
theorem i_par {i j : Nat} {ta : TA} (q : ta σ H fun vs H1 => ∃ v w, vs = [v, w] ∧ nx ((σ.set i (some v)).set j (some w)) H1) : tPar i j ta ⟨nx, rt, bk, ct⟩ σ H := q
theorem i_par2 {v w : V} {P : V → V → Prop} (q : P v w) : (∃ v' w', [v, w] = [v', w'] ∧ P v' w') := ⟨_, _, rfl, q⟩
theorem i_fldS {K : PySem.W.Frag} {ta tv : TE} {f : Str} (q : tv σ H fun y H1 => ta σ H1 fun x H2 => ∃ a C dx fs, x = .ref a ∧ H2 a = some (.ins C dx fs) ∧ Cls K C ∧ NoAttr K C f ∧ fs.length < 1000 ∧ nx σ (upd H2 a (.ins C dx (putF f y fs)))) : sFld K ta tv f ⟨nx, rt, bk, ct⟩ σ H := q
theorem i_dput {td ty tv : TE} (q : tv σ H fun v H1 => td σ H1 fun x H2 => ty σ H2 fun y H3 => ∃ a H4, x = .ref a ∧ DPut H3 a y v H4 ∧ nx σ H4) : sDPut td ty tv ⟨nx, rt, bk, ct⟩ σ H := q
theorem i_var {i : Nat} {v : V} (h : σ[i]? = some (some v)) (q : Q v H) : tVar i σ H Q := ⟨v, h, q⟩
theorem i_tB {b : Bool} {A B : Prop} (h : b = true) (q : A) : (if b = true then A else B) := by rw [if_pos h]; exact q
theorem i_fB {b : Bool} {A B : Prop} (h : b = false) (q : B) : (if b = true then A else B) := by rw [h, if_neg Bool.false_ne_true]; exact q
theorem i_c {v : V} (q : Q v H) : tC v σ H Q := q
theorem i_op {r : R2} {ta tb : TE} (q : ta σ H fun x H1 => tb σ H1 fun y H2 => r x y H2 Q) : tOp r ta tb σ H Q := q
theorem i_un {r : V → Hp → VK → Prop} {ta : TE} (q : ta σ H fun x H1 => r x H1 Q) : tUn r ta σ H Q := q
theorem i_rU {g : Int → V} {i : Int} (q : Q (g i) H) : rU g (.int i) H Q := ⟨i, rfl, q⟩
theorem i_rI0 {g : Int → Int → V} {i j : Int} (q : Q (g i j) H) : rI0 g (.int i) (.int j) H Q := ⟨i, j, rfl, rfl, q⟩
theorem i_rI {C : Int → Int → Prop} {g : Int → Int → V} {i j : Int} (c : C i j) (q : Q (g i j) H) : rI C g (.int i) (.int j) H Q := ⟨i, j, rfl, rfl, c, q⟩
theorem i_test {t : TE} {R : Bool → Hp → Prop} (q : t σ H fun x H' => ∃ k, x = .bl k ∧ R k H') : tTest t σ H R := q
theorem i_B {t : TE} {R : Bool → Hp → Prop} (q : t σ H fun x H' => ∃ k, x = .bl k ∧ R k H') : tB t σ H R := q
theorem i_bl {b : Bool} {R : Bool → Prop} (q : R b) : (∃ k, V.bl b = .bl k ∧ R k) := ⟨b, rfl, q⟩
theorem i_tru {K : PySem.W.Frag} {te : TE} {R : Bool → Hp → Prop} (q : te σ H fun x H' => ∃ k, TruV K x H' k ∧ R k H') : tTru K te σ H R := q
theorem i_truB {K : PySem.W.Frag} {b : Bool} {R : Bool → Prop} (q : R b) : (∃ k, TruV K (.bl b) H k ∧ R k) := ⟨b, rfl, q⟩
theorem i_and {t u : TT} {R : Bool → Hp → Prop} (q : t σ H fun c H1 => if c = true then u σ H1 R else R false H1) : tAnd t u σ H R := q
theorem i_or {t u : TT} {R : Bool → Hp → Prop} (q : t σ H fun c H1 => if c = true then R true H1 else u σ H1 R) : tOr t u σ H R := q
theorem i_not {t : TT} {R : Bool → Hp → Prop} (q : t σ H fun c H1 => R (!c) H1) : tNot t σ H R := q
theorem i_andV {ta tb : TE} (q : ta σ H fun x H1 => ∃ c, x = .bl c ∧ if c = true then tb σ H1 Q else Q (.bl false) H1) : tAndV ta tb σ H Q := q
theorem i_orV {ta tb : TE} (q : ta σ H fun x H1 => ∃ c, x = .bl c ∧ if c = true then Q (.bl true) H1 else tb σ H1 Q) : tOrV ta tb σ H Q := q
theorem i_notV {ta : TE} (q : ta σ H fun x H1 => ∃ c, x = .bl c ∧ Q (.bl (!c)) H1) : tNotV ta σ H Q := q
theorem i_if {t : TT} {ta tb : TE} (q : t σ H fun c H1 => if c = true then ta σ H1 Q else tb σ H1 Q) : tIf t ta tb σ H Q := q
theorem i_call {sp : Sp} {E : XK} {t : TA} (q : t σ H fun vs H1 => sp (vs ++ []) H1 Q E) : tCall sp [] E t σ H Q := q
theorem i_meth {C : Addr} {m : Str} {sp : Sp} {E : XK} {ta : TE} {t : TA} (q : ta σ H fun x H1 => ∃ a dx fs, x = .ref a ∧ H1 a = some (.ins C dx fs) ∧ fs.lookup m = none ∧ t σ H1 fun vs H2 => sp (x :: (vs ++ [])) H2 Q E) : tMeth C m sp [] E ta t σ H Q := q
theorem i_make {C : Addr} {sp : Sp} {E : XK} {t : TA} (q : t σ H fun vs H1 => ∀ x dx, H1 x = none → H1 dx = none → dx ≠ x → sp (.ref x :: (vs ++ [])) (upd (upd H1 dx (.own x)) x (.ins C dx [])) (fun v H2 => v = .non ∧ Q (.ref x) H2) E) : tMake C sp [] E t σ H Q := q
theorem i_cb {r : List V → Hp → VK → Prop} {t : TA} (q : t σ H fun vs H1 => r vs H1 Q) : tCB r t σ H Q := q
theorem i_cons {ta : TE} {tr : TA} {R : List V → Hp → Prop} (q : ta σ H fun x H1 => tr σ H1 fun xs H2 => R (x :: xs) H2) : tCons ta tr σ H R := q
theorem i_nil {R : List V → Hp → Prop} (q : R [] H) : tNil σ H R := q
theorem i_tup {t : TA} (q : t σ H fun xs H1 => xs.length ≤ sizeLine ∧ ∀ p, H1 p = none → Q (.ref p) (upd H1 p (.tup xs))) : tTup t σ H Q := q
theorem i_lst {t : TA} (q : t σ H fun xs H1 => xs.length ≤ sizeLine ∧ ∀ p, H1 p = none → Q (.ref p) (upd H1 p (.lst xs))) : tLst t σ H Q := q
theorem i_bml {r : V → List V → Hp → VK → Prop} {to : TE} {t : TA} (q : to σ H fun x H1 => isL x H1 ∧ t σ H1 fun xs H2 => r x xs H2 Q) : tBML r to t σ H Q := q
theorem i_isL {l : Addr} {xs : List V} {R : Prop} (h : H l = some (.lst xs)) (q : R) : isL (.ref l) H ∧ R := ⟨by simp only [isL, h], q⟩
theorem i_gsub {to ti : TE} {t : TSet} {v : V} {R : L2.St → Hp → Prop} (q : to σ H fun o H1 => ti σ H1 fun i H2 => t o i v H2 fun H3 => R σ H3) : gSub to ti t v σ H R := q
theorem i_gtup {K : PySem.W.Frag} {n : Nat} {t : TGs} {a : Addr} {xs : List V} {R : L2.St → Hp → Prop} (h : H a = some (.tup xs)) (hn : xs.length = n) (q : t xs σ H R) : gTup K n t (.ref a) σ H R := ⟨a, xs, rfl, SqT.of h, hn, q⟩
theorem i_gcons {t : TG} {u : TGs} {v : V} {vs : List V} {R : L2.St → Hp → Prop} (q : t v σ H fun σ' H' => u vs σ' H' R) : gCons t u (v :: vs) σ H R := ⟨v, vs, rfl, q⟩
theorem i_gnil {R : L2.St → Hp → Prop} (q : R σ H) : gNil [] σ H R := ⟨rfl, q⟩
theorem i_sl {r : V → Option Int → Option Int → Hp → VK → Prop} {te : TE} {tl th : TO} (q : te σ H fun x H1 => tl σ H1 fun l H2 => th σ H2 fun u H3 => r x l u H3 Q) : tSl r te tl th σ H Q := q
theorem i_nop {R : Option Int → Hp → Prop} (q : R none H) : tNoPart σ H R := q
theorem i_part {t : TE} {R : Option Int → Hp → Prop} (q : t σ H fun x H1 => ∃ i, x = .int i ∧ R (some i) H1) : tPart t σ H R := q
theorem i_prt {i : Int} {R : Int → Prop} (q : R i) : (∃ j, V.int i = .int j ∧ R j) := ⟨i, rfl, q⟩
theorem i_isN {x : V} (q : Q (.bl (decide (x = .non))) H) : rIsN x .non H Q := ⟨rfl, q⟩
theorem i_notN {x : V} (q : Q (.bl (!decide (x = .non))) H) : rNotN x .non H Q := ⟨rfl, q⟩
theorem i_yes {R : Bool → Hp → Prop} (q : R true H) : tYes σ H R := q
theorem i_tt {A B : Prop} (q : A) : (if true = true then A else B) := by rw [if_pos rfl]; exact q
theorem i_ff {A B : Prop} (q : B) : (if false = true then A else B) := by rw [if_neg Bool.false_ne_true]; exact q
theorem i_dy {p : Prop} [Decidable p] {A B : Prop} (h : p) (q : A) : (if decide p = true then A else B) := by rw [if_pos (decide_eq_true h)]; exact q
theorem i_dn {p : Prop} [Decidable p] {A B : Prop} (h : ¬ p) (q : B) : (if decide p = true then A else B) := by rw [if_neg (by simp [h])]; exact q
theorem i_ny {p : Prop} [Decidable p] {A B : Prop} (h : ¬ p) (q : A) : (if (!decide p) = true then A else B) := by rw [if_pos (by simp [h])]; exact q
theorem i_nn {p : Prop} [Decidable p] {A B : Prop} (h : p) (q : B) : (if (!decide p) = true then A else B) := by rw [if_neg (by simp [h])]; exact q
theorem i_d2 {p : Prop} [Decidable p] {A B : Prop} (q1 : p → A) (q2 : ¬ p → B) : (if decide p = true then A else B) := by
  by_cases h : p
  · exact i_dy h (q1 h)
  · exact i_dn h (q2 h)
theorem i_n2 {p : Prop} [Decidable p] {A B : Prop} (q1 : ¬ p → A) (q2 : p → B) : (if (!decide p) = true then A else B) := by
  by_cases h : p
  · exact i_nn h (q2 h)
  · exact i_ny h (q1 h)
theorem i_ntt {A B : Prop} (q : B) : (if (!true) = true then A else B) := by rw [if_neg (by simp)]; exact q
theorem i_nff {A B : Prop} (q : A) : (if (!false) = true then A else B) := by rw [if_pos (by simp)]; exact q
theorem i_dnI {i : Int} {A B : Prop} (q : B) : (if decide (V.int i = V.non) = true then A else B) := i_dn (by intro h; cases h) q
theorem i_nyI {i : Int} {A B : Prop} (q : A) : (if (!decide (V.int i = V.non)) = true then A else B) := i_ny (by intro h; cases h) q
theorem i_dnR {i : Addr} {A B : Prop} (q : B) : (if decide (V.ref i = V.non) = true then A else B) := i_dn (by intro h; cases h) q
theorem i_nyR {i : Addr} {A B : Prop} (q : A) : (if (!decide (V.ref i = V.non)) = true then A else B) := i_ny (by intro h; cases h) q
theorem i_dnS {i : Str} {A B : Prop} (q : B) : (if decide (V.str i = V.non) = true then A else B) := i_dn (by intro h; cases h) q
theorem i_nyS {i : Str} {A B : Prop} (q : A) : (if (!decide (V.str i = V.non)) = true then A else B) := i_ny (by intro h; cases h) q
theorem i_addI {a b : Int} (q : Q (.int (a + b)) H) : rAddA (.int a) (.int b) H Q := q
theorem i_addS {a b : Str} (h : a.length + b.length ≤ sizeLine) (q : Q (.str (a ++ b)) H) : rAddA (.str a) (.str b) H Q := ⟨h, q⟩
theorem i_addL {p q : Addr} {xs ys : List V} (h1 : H p = some (.lst xs)) (h2 : H q = some (.lst ys)) (h : xs.length + ys.length ≤ sizeLine) (k : ∀ r, H r = none → Q (.ref r) (upd H r (.lst (xs ++ ys)))) : rAddA (.ref p) (.ref q) H Q := by simp only [rAddA, h1, h2]; exact ⟨h, k⟩
theorem i_mulI {a b : Int} (c : CMul a b) (q : Q (.int (a * b)) H) : rMulA (.int a) (.int b) H Q := ⟨c, q⟩
theorem i_eqF {K : PySem.W.Frag} {x y : V} {b : Bool} (h : eqF x y = some b) (q : Q (.bl b) H) : rEqA K x y H Q := by simp only [rEqA, h]; exact q
theorem i_neF {K : PySem.W.Frag} {x y : V} {b : Bool} (h : eqF x y = some b) (q : Q (.bl (!b)) H) : rNeA K x y H Q := by simp only [rNeA, h]; exact q
theorem i_eqI {K : PySem.W.Frag} {a b : Int} (q : Q (.bl (decide (a = b))) H) : rEqA K (.int a) (.int b) H Q := q
theorem i_neI {K : PySem.W.Frag} {a b : Int} (q : Q (.bl (!decide (a = b))) H) : rNeA K (.int a) (.int b) H Q := q
theorem i_eqS {K : PySem.W.Frag} {a b : Str} (q : Q (.bl (decide (a = b))) H) : rEqA K (.str a) (.str b) H Q := q
theorem i_neS {K : PySem.W.Frag} {a b : Str} (q : Q (.bl (!decide (a = b))) H) : rNeA K (.str a) (.str b) H Q := q
theorem i_ixL {p : Addr} {xs : List V} {i : Int} {v : V} (h : H p = some (.lst xs)) (hi : atI xs i = some v) (q : Q v H) : rIxA (.ref p) (.int i) H Q := by simp only [rIxA, h]; exact ⟨v, hi, q⟩
theorem i_ixT {p : Addr} {xs : List V} {i : Int} {v : V} (h : H p = some (.tup xs)) (hi : atI xs i = some v) (q : Q v H) : rIxA (.ref p) (.int i) H Q := by simp only [rIxA, h]; exact ⟨v, hi, q⟩
theorem i_slL {p : Addr} {xs : List V} {lo hi : Option Int} (h : H p = some (.lst xs)) (k : ∀ q, H q = none → Q (.ref q) (upd H q (.lst (cutV xs lo hi)))) : rSlA (.ref p) lo hi H Q := by simp only [rSlA, h]; exact k
theorem i_slT {p : Addr} {xs : List V} {lo hi : Option Int} (h : H p = some (.tup xs)) (c : ¬ (HT.sIx xs.length 0 lo = 0 ∧ HT.sIx xs.length xs.length hi = xs.length)) (k : ∀ q, H q = none → Q (.ref q) (upd H q (.tup (cutV xs lo hi)))) : rSlA (.ref p) lo hi H Q := by simp only [rSlA, h]; exact ⟨c, k⟩
theorem i_lenL {p : Addr} {xs : List V} (h : H p = some (.lst xs)) (q : Q (.int xs.length) H) : rLenA [.ref p] H Q := by simp only [rLenA, h]; exact q
theorem i_lenT {p : Addr} {xs : List V} (h : H p = some (.tup xs)) (q : Q (.int xs.length) H) : rLenA [.ref p] H Q := by simp only [rLenA, h]; exact q
theorem i_lenD {p : Addr} {kvs : List (Key × V)} (h : H p = some (.dK kvs)) (q : Q (.int kvs.length) H) : rLenA [.ref p] H Q := by simp only [rLenA, h]; exact q
theorem i_lenS {y : Str} (h : y.length ≤ sizeLine) (q : Q (.int y.length) H) : rLenA [.str y] H Q := ⟨h, q⟩
theorem i_intI {i : Int} (q : Q (.int i) H) : rIntA [.int i] H Q := q
theorem i_intB {k : Bool} (q : Q (.int (if k = true then 1 else 0)) H) : rIntA [.bl k] H Q := q
theorem i_abs {i : Int} (q : Q (.int (if i < 0 then -i else i)) H) : rAbsA [.int i] H Q := q
theorem i_listL {p : Addr} {xs : List V} (h : H p = some (.lst xs)) (k : ∀ l, H l = none → Q (.ref l) (upd H l (.lst xs))) : rListA [.ref p] H Q := by simp only [rListA, h]; exact k
theorem i_listT {p : Addr} {xs : List V} (h : H p = some (.tup xs)) (k : ∀ l, H l = none → Q (.ref l) (upd H l (.lst xs))) : rListA [.ref p] H Q := by simp only [rListA, h]; exact k
theorem i_tupL {p : Addr} {xs : List V} (h : H p = some (.lst xs)) (k : ∀ l, H l = none → Q (.ref l) (upd H l (.tup xs))) : rTupA [.ref p] H Q := by simp only [rTupA, h]; exact k
theorem i_isi {x : V} {T t : String} {b : Bool} (h1 : tyN x H = some t) (h2 : kitB t T = some b) (q : Q (.bl b) H) : rIsiA [x, .ty T] H Q := by simp only [rIsiA, h1]; exact ⟨b, h2, q⟩
theorem i_isiLL {p : Addr} {xs : List V} (h : H p = some (.lst xs)) (q : Q (.bl true) H) : rIsiA [.ref p, .ty "list"] H Q := i_isi (t := "list") (by simp only [tyN, h]) (by decide +kernel) q
theorem i_isiTL {p : Addr} {xs : List V} (h : H p = some (.tup xs)) (q : Q (.bl false) H) : rIsiA [.ref p, .ty "list"] H Q := i_isi (t := "tuple") (by simp only [tyN, h]) (by decide +kernel) q
theorem i_isiIB {i : Int} (q : Q (.bl false) H) : rIsiA [.int i, .ty "bool"] H Q := i_isi (t := "int") rfl (by decide +kernel) q
theorem i_isiNB (q : Q (.bl false) H) : rIsiA [.non, .ty "bool"] H Q := i_isi (t := "NoneType") rfl (by decide +kernel) q
theorem i_isiBB {k : Bool} (q : Q (.bl true) H) : rIsiA [.bl k, .ty "bool"] H Q := i_isi (t := "bool") rfl (by decide +kernel) q
theorem i_app {l : Addr} {xs : List V} {y : V} (h : H l = some (.lst xs)) (hz : xs.length < sizeLine) (q : Q .non (upd H l (.lst (xs ++ [y])))) : rAppA (.ref l) [y] H Q := by simp only [rAppA, h]; exact ⟨hz, q⟩
theorem i_ext {l p : Addr} {xs ys : List V} (h : H l = some (.lst xs)) (h2 : H p = some (.lst ys)) (hz : xs.length + ys.length ≤ sizeLine) (q : Q .non (upd H l (.lst (xs ++ ys)))) : rExtA (.ref l) [.ref p] H Q := by simp only [rExtA, h, h2]; exact ⟨hz, q⟩
theorem i_popL {l : Addr} {xs : List V} {y : V} (h : H l = some (.lst xs)) (hy : xs[xs.length - 1]? = some y) (q : Q y (upd H l (.lst xs.dropLast))) : rPopL (.ref l) [] H Q := by simp only [rPopL, h]; exact ⟨y, hy, q⟩
theorem i_popI {l : Addr} {xs : List V} {k : Nat} {y : V} (h : H l = some (.lst xs)) (hk : k < 2 ^ 62) (hy : xs[k]? = some y) (q : Q y (upd H l (.lst (xs.eraseIdx k)))) : rPopI (.ref l) [.int (k : Int)] H Q := by simp only [rPopI, h]; exact ⟨k, y, rfl, hk, hy, q⟩
theorem i_pop0 {l : Addr} {ys : List V} {y : V} (h : H l = some (.lst (y :: ys))) (q : Q y (upd H l (.lst ys))) : rPopI (.ref l) [.int 0] H Q := i_popI (k := 0) h (by decide) rfl q
theorem i_setL {p : Addr} {xs : List V} {k : Int} {j : Nat} {v : V} {R : Hp → Prop} (h : H p = some (.lst xs)) (hj : ixN xs.length k = some j) (q : R (upd H p (.lst (xs.set j v)))) : rSetA (.ref p) (.int k) v H R := by simp only [rSetA, h]; exact ⟨j, hj, q⟩
theorem i_dget {td ty : TE} (q : td σ H fun x H1 => ty σ H1 fun y H2 => ∃ a v, x = .ref a ∧ DGet H2 a y (some v) ∧ Q v H2) : tDGet td ty σ H Q := q
theorem i_dgetK {a : Addr} {kvs : List (Key × V)} {k : Key} {y v : V} {R : V → Prop} (h : H a = some (.dK kvs)) (hy : y = kV k) (hv : valV kvs k = some v) (q : R v) : (∃ a' v', V.ref a = .ref a' ∧ DGet H a' y (some v') ∧ R v') := ⟨a, v, rfl, .inl ⟨kvs, k, Rd.of h, hy, hv.symm⟩, q⟩
theorem i_dputK {a : Addr} {kvs : List (Key × V)} {k : Key} {y v : V} {R : Hp → Prop} (h : H a = some (.dK kvs)) (hy : y = kV k) (hz : kvs.length < sizeLine) (q : R (upd H a (.dK (putK kvs k v)))) : (∃ a' H4, V.ref a = .ref a' ∧ DPut H a' y v H4 ∧ R H4) := ⟨a, _, rfl, .inl ⟨kvs, k, h, hy, hz, rfl⟩, q⟩
theorem i_disp {trs : List (TE × TE)} (q : ∀ p, H p = none → tPairs trs σ (upd H p (.dK [])) fun ps H2 => H2 p = some (.dK []) ∧ ∃ kvs : List (Key × V), ps = kvs.map (fun kv => (kV kv.1, kv.2)) ∧ kvs.length ≤ 15 ∧ Q (.ref p) (upd H2 p (.dK (mergeK [] kvs)))) : tDisp trs σ H Q := q
theorem i_pcons {tk tv : TE} {r : List (TE × TE)} {R : List (V × V) → Hp → Prop} (q : tk σ H fun x H1 => tv σ H1 fun y H2 => tPairs r σ H2 fun ps H3 => R ((x, y) :: ps) H3) : tPairs ((tk, tv) :: r) σ H R := q
theorem i_pnil {R : List (V × V) → Hp → Prop} (q : R [] H) : tPairs [] σ H R := q
theorem i_neN {K : PySem.W.Frag} (q : Q (.bl false) H) : rNeA K .non .non H Q := q
theorem i_eqN {K : PySem.W.Frag} (q : Q (.bl true) H) : rEqA K .non .non H Q := q
theorem i_neB {K : PySem.W.Frag} {a b : Bool} (q : Q (.bl (!decide (a = b))) H) : rNeA K (.bl a) (.bl b) H Q := q
theorem i_eqB {K : PySem.W.Frag} {a b : Bool} (q : Q (.bl (decide (a = b))) H) : rEqA K (.bl a) (.bl b) H Q := q
theorem i_for {wi : TI} {g : TG} {tb : TS} (q : wi σ H fun J H1 => ∃ W : Nat → Nat → L2.St → Hp → Prop, (∃ m, W 0 m σ H1) ∧ ∀ i m σ H, W i m σ H → (J.stop i H ∧ nx σ H) ∨ (J.go i H ∧ ∃ N : L2.St → Hp → Prop, (∀ σ' H', N σ' H' → ∃ m', m' < m ∧ W (i + 1) m' σ' H') ∧ ∀ x H', J.yld i H x H' → g x σ H' fun σ2 H2 => tb ⟨N, rt, nx, N⟩ σ2 H2)) : tFor wi g tb ⟨nx, rt, bk, ct⟩ σ H := q
theorem i_while {c : TT} {tb : TS} (W : Nat → L2.St → Hp → Prop) (m : Nat) (w0 : W m σ H) (q : ∀ m σ H, W m σ H → c σ H fun b H1 => if b = true then ∃ N : L2.St → Hp → Prop, (∀ σ' H', N σ' H' → ∃ m', m' < m ∧ W m' σ' H') ∧ tb ⟨N, rt, nx, N⟩ σ H1 else nx σ H1) : tWhile c tb ⟨nx, rt, bk, ct⟩ σ H := ⟨W, ⟨m, w0⟩, q⟩
theorem i_wgo {m : Nat} {W : Nat → L2.St → Hp → Prop} {tb : TS} (q : tb ⟨fun σ' H' => ∃ m', m' < m ∧ W m' σ' H', rt, nx, fun σ' H' => ∃ m', m' < m ∧ W m' σ' H'⟩ σ H) : (∃ N : L2.St → Hp → Prop, (∀ σ' H', N σ' H' → ∃ m', m' < m ∧ W m' σ' H') ∧ tb ⟨N, rt, nx, N⟩ σ H) := ⟨_, fun _ _ h => h, q⟩
theorem i_ilist {K : PySem.W.Frag} {tl : TE} {R : It → Hp → Prop} (q : tl σ H fun x H1 => ∃ a, x = .ref a ∧ (∃ xs, SqL K H1 a xs) ∧ R (Itl K a) H1) : iList K tl σ H R := q
theorem i_itup {K : PySem.W.Frag} {tl : TE} {R : It → Hp → Prop} (q : tl σ H fun x H1 => ∃ a, x = .ref a ∧ (∃ xs, SqT K H1 a xs) ∧ R (Itt K a) H1) : iTup K tl σ H R := q
theorem i_rng1 {ta : TA} {R : It → Hp → Prop} (q : ta σ H fun vs H1 => ∃ j : Int, vs = [.int j] ∧ -(2 ^ 62) ≤ j ∧ j < 2 ^ 62 ∧ R (Itr 0 j.toNat) H1) : iRng1 ta σ H R := q
theorem i_rng2 {ta : TA} {R : It → Hp → Prop} (q : ta σ H fun vs H1 => ∃ i j : Int, vs = [.int i, .int j] ∧ (-(2 ^ 62) ≤ i ∧ i < 2 ^ 62 ∧ -(2 ^ 62) ≤ j ∧ j < 2 ^ 62) ∧ R (Itr i (j - i).toNat) H1) : iRng2 ta σ H R := q
theorem i_ex1 {j : Int} {R : Int → Prop} (q : R j) : (∃ i : Int, [V.int j] = [.int i] ∧ R i) := ⟨j, rfl, q⟩
theorem i_ex2 {i j : Int} {R : Int → Int → Prop} (q : R i j) : (∃ i' j' : Int, [V.int i, V.int j] = [.int i', .int j'] ∧ R i' j') := ⟨i, j, rfl, q⟩
theorem i_exr {p : Addr} {R : Addr → Prop} (q : R p) : (∃ a, V.ref p = .ref a ∧ R a) := ⟨p, rfl, q⟩
theorem i_mth {p C dx : Addr} {fs : List (Str × V)} {m : Str} {R : Prop} (h : H p = some (.ins C dx fs)) (hl : fs.lookup m = none) (q : R) : (∃ a dx fs, V.ref p = .ref a ∧ H a = some (.ins C dx fs) ∧ fs.lookup m = none ∧ R) := ⟨p, dx, fs, rfl, h, hl, q⟩
theorem i_fld {K : PySem.W.Frag} {ta : TE} {f : Str} (q : ta σ H fun x H1 => ∃ a C dx fs v, x = .ref a ∧ H1 a = some (.ins C dx fs) ∧ Cls K C ∧ NoAttr K C f ∧ fs.lookup f = some v ∧ Q v H1) : tFld K ta f σ H Q := q
theorem i_lc {wi : TI} {g : TG} {tt : TT} {te : TE} {vs : List Nat} (q : wi σ H fun J H1 => ∀ D, H1 D = none → ∃ W : Nat → Nat → Hp → Prop, (∃ m, W 0 m (upd H1 D (.lst []))) ∧ ∀ i m H, W i m H → (J.stop i H ∧ Q (.ref D) H) ∨ (J.go i H ∧ ∃ Nx : Hp → Prop, (∀ H', Nx H' → ∃ m', m' < m ∧ W (i + 1) m' H') ∧ ∀ x H', J.yld i H x H' → g x (wipe σ vs) H' fun σ2 H2 => wipe σ2 vs = wipe σ vs ∧ tt σ2 H2 fun b H3 => if b = true then te σ2 H3 fun y H4 => ∃ acc, H4 D = some (.lst acc) ∧ acc.length < sizeLine ∧ Nx (upd H4 D (.lst (acc ++ [y]))) else Nx H3)) : tLc wi g tt te vs σ H Q := q
end
local macro_rules | `(tactic| walk_at "s1") => `(tactic| with_reducible first | refine i_seq ?_ | refine i_asg ?_ | refine i_gname ?_ | refine i_ifS ?_ | refine i_ret ?_ | refine i_retN ?_ | refine i_drop ?_ | refine i_next ?_ | refine i_brk ?_ | refine i_cnt ?_ | refine i_par ?_ | refine i_par2 ?_ | refine i_fldS ?_ | refine i_dput ?_ | refine i_c ?_ | refine i_op ?_ | refine i_un ?_ | refine i_rU ?_ | refine i_rI0 ?_ | refine i_test ?_ | refine i_B ?_ | refine i_bl ?_ | refine i_tru ?_ | refine i_truB ?_ | refine i_and ?_ | refine i_or ?_ | refine i_not ?_ | refine i_andV ?_ | refine i_orV ?_ | refine i_notV ?_ | refine i_if ?_ | refine i_call ?_ | refine i_meth ?_ | refine i_make ?_ | refine i_cb ?_ | refine i_cons ?_ | refine i_nil ?_ | refine i_tup ?_ | refine i_lst ?_ | refine i_bml ?_ | refine i_gsub ?_ | refine i_gcons ?_ | refine i_gnil ?_ | refine i_sl ?_ | refine i_nop ?_ | refine i_part ?_ | refine i_prt ?_ | refine i_isN ?_ | refine i_notN ?_ | refine i_yes ?_ | refine i_tt ?_ | refine i_ff ?_ | refine i_ntt ?_ | refine i_nff ?_ | refine i_addI ?_ | refine i_eqI ?_ | refine i_neI ?_ | refine i_eqS ?_ | refine i_neS ?_ | refine i_intI ?_ | refine i_intB ?_ | refine i_abs ?_ | refine i_isiIB ?_ | refine i_isiNB ?_ | refine i_isiBB ?_ | refine i_dget ?_ | refine i_for ?_ | refine i_ilist ?_ | refine i_itup ?_ | refine i_rng1 ?_ | refine i_rng2 ?_ | refine i_ex1 ?_ | refine i_ex2 ?_ | refine i_exr ?_ | refine i_fld ?_ | refine i_disp ?_ | refine i_pcons ?_ | refine i_pnil ?_ | refine i_neN ?_ | refine i_eqN ?_ | refine i_neB ?_ | refine i_eqB ?_ | refine i_lc ?_ | refine i_var (by with_unfolding_all rfl) ?_ | refine i_tB (by decide +kernel) ?_ | refine i_fB (by decide +kernel) ?_ | refine i_dnI ?_ | refine i_nyI ?_ | refine i_dnR ?_ | refine i_nyR ?_ | refine i_ixT (by assumption) (by with_unfolding_all rfl) ?_ | refine i_ixL (by assumption) (by with_unfolding_all rfl) ?_ | refine i_lenL (by assumption) ?_ | refine i_lenT (by assumption) ?_ | refine i_isL (by assumption) ?_ | refine i_isiLL (by assumption) ?_ | refine i_isiTL (by assumption) ?_ | refine i_gtup (by assumption) (by with_unfolding_all rfl) ?_)
local macro_rules | `(tactic| walk_at "s") => `(tactic| repeat (walk_at "s1"))
/-- the state of the draws: a list of a list of numbers and of a number -/
structure Rng (a c : Addr) (H : Hp) : Prop where
  ne : a ≠ c
  ex : ∃ (ns : List Int) (m : Int), H a = some (.lst [.ref c, .int m]) ∧ H c = some (.lst (ns.map V.int)) ∧ (∀ n ∈ ns, 0 ≤ n) ∧ 0 ≤ m
/-- what was so beside the two places is so -/
def Fra (a c : Addr) (H H' : Hp) : Prop := ∀ b, b ≠ a → b ≠ c → H' b = H b
theorem Fra.refl {a c : Addr} {H : Hp} : Fra a c H H := fun _ _ _ => rfl
theorem Fra.trans {a c : Addr} {H H1 H2 : Hp} (h : Fra a c H H1) (k : Fra a c H1 H2) : Fra a c H H2 := fun b p q => (k b p q).trans (h b p q)
def spDraw : Sp := fun vs H Q _ => ∃ (a c : Addr) (n : Int), vs = [.ref a, .int n] ∧ 0 < n ∧ n < 1073741824 ∧ Rng a c H ∧
  ∀ (H' : Hp) (r : Int), 0 ≤ r → r < n → Rng a c H' → Fra a c H H' → Q (.int r) H'
theorem len_draw {vs : List V} {H : Hp} {Q : VK} {E : XK} (h : spDraw vs H Q E) : vs.length = 2 := by
  obtain ⟨a, c, n, rfl, _⟩ := h
  rfl
def t_draw (K : PySem.W.Frag) : TS :=
  (tSeq (tAsg (tOp rIxA (tVar 0) (tC (.int 0))) (gName 2)) (tSeq (tWhile (tAnd (tTest (tOp (rI0 fun i j => .bl (decide (j < i))) (tCB rLenA (tCons (tVar 2) tNil)) (tC (.int 0)))) (tTest (tOp (rEqA K) (tOp rIxA (tVar 2) (tC (.int 0))) (tC (.int 0))))) (tDrop (tBML rPopI (tVar 2) (tCons (tC (.int 0)) tNil)))) (tSeq (tIfS (tTest (tOp (rI0 fun i j => .bl (decide (j < i))) (tCB rLenA (tCons (tVar 2) tNil)) (tC (.int 0)))) (tSeq (tAsg (tOp rIxA (tVar 2) (tC (.int 0))) (gName 3)) (tSeq (tAsg (tOp (rI CDiv fun i j => .int (i / j)) (tVar 3) (tVar 1)) (gSub (tVar 2) (tC (.int 0)) rSetA)) (tRet (tOp (rI (fun _ j => 0 < j) fun i j => .int (i % j)) (tCB rIntA (tCons (tVar 3) tNil)) (tVar 1))))) tNext) (tSeq (tAsg (tOp (rI (fun _ j => 0 < j) fun i j => .int (i % j)) (tCB rIntA (tCons (tOp rAddA (tOp rMulA (tOp rIxA (tVar 0) (tC (.int 1))) (tC (.int 48271))) (tC (.int 12345))) tNil)) (tC (.int 2147483647))) (gName 4)) (tSeq (tAsg (tVar 4) (gSub (tVar 0) (tC (.int 1)) rSetA)) (tRet (tOp (rI (fun _ j => 0 < j) fun i j => .int (i % j)) (tCB rIntA (tCons (tOp (rI CDiv fun i j => .int (i / j)) (tVar 4) (tC (.int 64))) tNil)) (tVar 1))))))))
theorem fra_upd2 {a c : Addr} {H H' : Hp} {o : HO} (h : Fra a c H H') : Fra a c H (upd H' c o) := fun b p q => by rw [upd_ne q]; exact h b p q
theorem fra_upd1 {a c : Addr} {H H' : Hp} {o : HO} (h : Fra a c H H') : Fra a c H (upd H' a o) := fun b p q => by rw [upd_ne p]; exact h b p q
theorem at0 {v : V} {xs : List V} : atI (v :: xs) 0 = some v := atI_nat (j := 0) rfl
theorem atN {xs : List V} {i : Int} {j : Nat} {v : V} (e : i = (j : Int)) (h : xs[j]? = some v) : atI xs i = some v := by
  rw [e]
  exact atI_nat h
theorem ixS0 {v : V} {xs : List V} : ixN (v :: xs).length 0 = some 0 := by
  unfold ixN
  rw [if_pos (by omega), if_pos (by simp <;> omega)]
  rfl
theorem pure_draw (K : PySem.W.Frag) {N : List Str} (vs : List V) (H : Hp) (Q : VK) (E : XK) (h : spDraw vs H Q E) (hN : N.length = 5) : t_draw K { nx := fun _ H' => Q .non H', rt := Q } (L2.start N vs) H := by
  obtain ⟨a, c, n, rfl, h0, h1, R, k⟩ := h
  obtain ⟨ne, ns, m, ha, hc, hn, hm⟩ := R
  have es : L2.start N [V.ref a, .int n] = [some (.ref a), some (.int n), none, none, none] := by
    unfold L2.start
    rw [hN]
    rfl
  rw [es]
  unfold t_draw
  walk_at "s"
  try refine i_ixL ha (by rfl) ?_
  walk_at "s"
  refine i_while (fun j σ H' => σ = [some (.ref a), some (.int n), some (.ref c), none, none] ∧ ∃ ns : List Int, j = ns.length ∧ H' a = some (.lst [.ref c, .int m]) ∧ H' c = some (.lst (ns.map V.int)) ∧ (∀ n ∈ ns, 0 ≤ n) ∧ Fra a c H H')
    _ ⟨rfl, ns, rfl, ha, hc, hn, Fra.refl⟩ ?_
  rintro j σ H1 ⟨rfl, ns, rfl, ha, hc, hn, fr⟩
  walk_at "s"
  try refine i_lenL hc ?_
  walk_at "s"
  cases ns with
  | nil =>
    try refine i_dn (by simp) ?_
    walk_at "s"
    try refine i_lenL hc ?_
    walk_at "s"
    try refine i_dn (by simp) ?_
    walk_at "s"
    try refine i_ixL ha (by rfl) ?_
    walk_at "s"
    try refine i_mulI (.inr ⟨by decide, by decide⟩) ?_
    walk_at "s"
    try refine i_rI (by show (0 : Int) < 2147483647; decide) ?_
    walk_at "s"
    refine i_setL ha (by rfl) ?_
    walk_at "s"
    refine i_rI ⟨by decide, by decide⟩ ?_
    walk_at "s"
    refine i_rI h0 ?_
    exact k _ _ (Int.emod_nonneg _ (by omega)) (Int.emod_lt_of_pos _ h0) ⟨ne, [], _, upd_same, by rw [upd_ne ne.symm]; exact hc, by simp, Int.emod_nonneg _ (by decide)⟩ (fra_upd1 fr)
  | cons z ns =>
    try refine i_dy (by simp <;> omega) ?_
    walk_at "s"
    try refine i_ixL hc at0 ?_
    walk_at "s"
    refine i_d2 (fun hz => ?_) (fun hz => ?_)
    · refine i_wgo ?_
      walk_at "s"
      try refine i_isL hc ?_
      walk_at "s"
      refine i_pop0 hc ?_
      exact ⟨ns.length, by simp, rfl, ns, rfl, by rw [upd_ne ne]; exact ha, upd_same, fun n h => hn n (List.mem_cons_of_mem _ h), fra_upd2 fr⟩
    · walk_at "s"
      try refine i_lenL hc ?_
      walk_at "s"
      try refine i_dy (by simp <;> omega) ?_
      walk_at "s"
      try refine i_ixL hc at0 ?_
      walk_at "s"
      refine i_rI ⟨h0, h1⟩ ?_
      walk_at "s"
      refine i_setL hc ixS0 ?_
      walk_at "s"
      refine i_rI h0 ?_
      have hz0 : 0 ≤ z := hn z List.mem_cons_self
      refine k _ _ (Int.emod_nonneg _ (by omega)) (Int.emod_lt_of_pos _ h0) ⟨ne, (z / n) :: ns, m, by rw [upd_ne ne]; exact ha, upd_same, fun y hy => ?_, hm⟩ (fra_upd2 fr)
      rcases List.mem_cons.mp hy with e | e
      · rw [e]
        exact Int.ediv_nonneg hz0 (by omega)
      · exact hn y (List.mem_cons_of_mem _ e)
theorem sz {n : Nat} (h : n ≤ 100000) : n ≤ sizeLine := Nat.le_trans h (by decide)
theorem szl {n : Nat} (h : n ≤ 100000) : n < sizeLine := Nat.lt_of_le_of_lt h (by decide)

/-! ### loops and comprehensions -/
section
variable {K : PySem.W.Frag} {a : Addr} {xs : List V} {g : TG} {tb : TS} {σ : L2.St} {H : Hp} {nx : L2.St → Hp → Prop} {rt : VK} {tt : TT} {te : TE} {v : Nat} {D : Addr} {Qd : Hp → Prop}
theorem i_forL (xs : List V) (Pv : Nat → L2.St → Hp → Prop) (h0 : Pv 0 σ H) (hl : ∀ i σ H, Pv i σ H → SqL K H a xs)
    (hs : ∀ i x σ H, xs[i]? = some x → Pv i σ H → g x σ H fun σ2 H2 => tb ⟨Pv (i + 1), rt, nx, Pv (i + 1)⟩ σ2 H2) (hd : ∀ σ H, Pv xs.length σ H → nx σ H) :
    (∃ xs, SqL K H a xs) ∧ ∃ W : Nat → Nat → L2.St → Hp → Prop, (∃ m, W 0 m σ H) ∧ ∀ i m σ H, W i m σ H → ((Itl K a).stop i H ∧ nx σ H) ∨ ((Itl K a).go i H ∧ ∃ N : L2.St → Hp → Prop, (∀ σ' H', N σ' H' → ∃ m', m' < m ∧ W (i + 1) m' σ' H') ∧ ∀ x H', (Itl K a).yld i H x H' → g x σ H' fun σ2 H2 => tb ⟨N, rt, nx, N⟩ σ2 H2) :=
  ⟨⟨xs, hl 0 σ H h0⟩, for_list (D := ⟨nx, rt, fun _ _ => False, fun _ _ => False⟩) (xs := xs) Pv h0 (fun i σ H _ p => hl i σ H p) hs hd⟩
theorem i_forT (xs : List V) (Pv : Nat → L2.St → Hp → Prop) (h0 : Pv 0 σ H) (hl : ∀ i σ H, Pv i σ H → SqT K H a xs)
    (hs : ∀ i x σ H, xs[i]? = some x → Pv i σ H → g x σ H fun σ2 H2 => tb ⟨Pv (i + 1), rt, nx, Pv (i + 1)⟩ σ2 H2) (hd : ∀ σ H, Pv xs.length σ H → nx σ H) :
    (∃ xs, SqT K H a xs) ∧ ∃ W : Nat → Nat → L2.St → Hp → Prop, (∃ m, W 0 m σ H) ∧ ∀ i m σ H, W i m σ H → ((Itt K a).stop i H ∧ nx σ H) ∨ ((Itt K a).go i H ∧ ∃ N : L2.St → Hp → Prop, (∀ σ' H', N σ' H' → ∃ m', m' < m ∧ W (i + 1) m' σ' H') ∧ ∀ x H', (Itt K a).yld i H x H' → g x σ H' fun σ2 H2 => tb ⟨N, rt, nx, N⟩ σ2 H2) :=
  ⟨⟨xs, hl 0 σ H h0⟩, for_tup (D := ⟨nx, rt, fun _ _ => False, fun _ _ => False⟩) (xs := xs) Pv h0 (fun i σ H _ p => hl i σ H p) hs hd⟩
theorem i_forR {j : Int} (n : Nat) (hj : j = (n : Int)) (hn : n ≤ 1000000000) (Pv : Nat → L2.St → Hp → Prop) (h0 : Pv 0 σ H)
    (hs : ∀ i σ H, i < n → Pv i σ H → g (.int (i : Int)) σ H fun σ2 H2 => tb ⟨Pv (i + 1), rt, nx, Pv (i + 1)⟩ σ2 H2) (hd : ∀ σ H, Pv n σ H → nx σ H) :
    -(2 ^ 62) ≤ j ∧ j < 2 ^ 62 ∧ ∃ W : Nat → Nat → L2.St → Hp → Prop, (∃ m, W 0 m σ H) ∧ ∀ i m σ H, W i m σ H → ((Itr 0 j.toNat).stop i H ∧ nx σ H) ∨ ((Itr 0 j.toNat).go i H ∧ ∃ N : L2.St → Hp → Prop, (∀ σ' H', N σ' H' → ∃ m', m' < m ∧ W (i + 1) m' σ' H') ∧ ∀ x H', (Itr 0 j.toNat).yld i H x H' → g x σ H' fun σ2 H2 => tb ⟨N, rt, nx, N⟩ σ2 H2) := by
  subst hj
  refine ⟨by omega, by omega, ?_⟩
  exact for_range (D := ⟨nx, rt, fun _ _ => False, fun _ _ => False⟩) (lo := 0) (n := n) Pv h0 (fun i σ H hi p => by rw [Int.zero_add]; exact hs i σ H hi p) hd
theorem i_forR2 {lo j : Int} (n : Nat) (hj : (j - lo).toNat = n) (hb : -(2 ^ 62) ≤ lo ∧ lo < 2 ^ 62 ∧ -(2 ^ 62) ≤ j ∧ j < 2 ^ 62) (Pv : Nat → L2.St → Hp → Prop) (h0 : Pv 0 σ H)
    (hs : ∀ (i : Nat) σ H, i < n → Pv i σ H → g (.int (lo + i)) σ H fun σ2 H2 => tb ⟨Pv (i + 1), rt, nx, Pv (i + 1)⟩ σ2 H2) (hd : ∀ σ H, Pv n σ H → nx σ H) :
    (-(2 ^ 62) ≤ lo ∧ lo < 2 ^ 62 ∧ -(2 ^ 62) ≤ j ∧ j < 2 ^ 62) ∧ ∃ W : Nat → Nat → L2.St → Hp → Prop, (∃ m, W 0 m σ H) ∧ ∀ i m σ H, W i m σ H → ((Itr lo (j - lo).toNat).stop i H ∧ nx σ H) ∨ ((Itr lo (j - lo).toNat).go i H ∧ ∃ N : L2.St → Hp → Prop, (∀ σ' H', N σ' H' → ∃ m', m' < m ∧ W (i + 1) m' σ' H') ∧ ∀ x H', (Itr lo (j - lo).toNat).yld i H x H' → g x σ H' fun σ2 H2 => tb ⟨N, rt, nx, N⟩ σ2 H2) := by
  subst hj
  exact ⟨hb, for_range (D := ⟨nx, rt, fun _ _ => False, fun _ _ => False⟩) (lo := lo) Pv h0 hs hd⟩
theorem wipe1 {v : Nat} {x : V} : (wipe σ [v]).set v (some x) = σ.set v (some x) := by
  show (σ.set v none).set v (some x) = _
  rw [List.set_set]
theorem wipe2 {v : Nat} {x : V} : wipe (σ.set v (some x)) [v] = wipe σ [v] := by
  show (σ.set v (some x)).set v none = σ.set v none
  rw [List.set_set]
/-- a comprehension over a list, one name -/
theorem i_lcL (xs : List V) (Pv : Nat → Hp → Prop) (h0 : Pv 0 (upd H D (.lst []))) (hl : ∀ i H, Pv i H → SqL K H a xs)
    (hs : ∀ i x H, xs[i]? = some x → Pv i H → tt (σ.set v (some x)) H fun b H3 => if b = true then te (σ.set v (some x)) H3 fun y H4 => ∃ acc, H4 D = some (.lst acc) ∧ acc.length < sizeLine ∧ Pv (i + 1) (upd H4 D (.lst (acc ++ [y]))) else Pv (i + 1) H3)
    (hd : ∀ H, Pv xs.length H → Qd H) :
    ∃ W : Nat → Nat → Hp → Prop, (∃ m, W 0 m (upd H D (.lst []))) ∧ ∀ i m H, W i m H → ((Itl K a).stop i H ∧ Qd H) ∨ ((Itl K a).go i H ∧ ∃ Nx : Hp → Prop, (∀ H', Nx H' → ∃ m', m' < m ∧ W (i + 1) m' H') ∧ ∀ x H', (Itl K a).yld i H x H' → gName v x (wipe σ [v]) H' fun σ2 H2 => wipe σ2 [v] = wipe σ [v] ∧ tt σ2 H2 fun b H3 => if b = true then te σ2 H3 fun y H4 => ∃ acc, H4 D = some (.lst acc) ∧ acc.length < sizeLine ∧ Nx (upd H4 D (.lst (acc ++ [y]))) else Nx H3) :=
  lc_list (xs := xs) Pv h0 (fun i H _ p => hl i H p) (fun i x H e p => by
    show wipe ((wipe σ [v]).set v (some x)) [v] = wipe σ [v] ∧ tt ((wipe σ [v]).set v (some x)) H _
    rw [wipe1]
    exact ⟨wipe2, hs i x H e p⟩) hd
/-- .. over range(n) -/
theorem i_lcR {j : Int} (n : Nat) (hj : j = (n : Int)) (Pv : Nat → Hp → Prop) (h0 : Pv 0 (upd H D (.lst [])))
    (hs : ∀ (i : Nat) H, i < n → Pv i H → tt (σ.set v (some (.int (i : Int)))) H fun b H3 => if b = true then te (σ.set v (some (.int (i : Int)))) H3 fun y H4 => ∃ acc, H4 D = some (.lst acc) ∧ acc.length < sizeLine ∧ Pv (i + 1) (upd H4 D (.lst (acc ++ [y]))) else Pv (i + 1) H3)
    (hd : ∀ H, Pv n H → Qd H) :
    ∃ W : Nat → Nat → Hp → Prop, (∃ m, W 0 m (upd H D (.lst []))) ∧ ∀ i m H, W i m H → ((Itr 0 j.toNat).stop i H ∧ Qd H) ∨ ((Itr 0 j.toNat).go i H ∧ ∃ Nx : Hp → Prop, (∀ H', Nx H' → ∃ m', m' < m ∧ W (i + 1) m' H') ∧ ∀ x H', (Itr 0 j.toNat).yld i H x H' → gName v x (wipe σ [v]) H' fun σ2 H2 => wipe σ2 [v] = wipe σ [v] ∧ tt σ2 H2 fun b H3 => if b = true then te σ2 H3 fun y H4 => ∃ acc, H4 D = some (.lst acc) ∧ acc.length < sizeLine ∧ Nx (upd H4 D (.lst (acc ++ [y]))) else Nx H3) := by
  subst hj
  exact lc_range (lo := 0) (n := n) Pv h0 (fun i H e p => by
    show wipe ((wipe σ [v]).set v (some (.int (0 + (i : Int))))) [v] = wipe σ [v] ∧ tt ((wipe σ [v]).set v (some (.int (0 + (i : Int))))) H _
    rw [wipe1, Int.zero_add]
    exact ⟨wipe2, hs i H e p⟩) hd
end

/-! ### the two places of the draws, and what grows beside them -/
/-- what stands beside the two places, grows -/
def Gr (a c : Addr) (H H' : Hp) : Prop := Same (hid [a, c] H) (hid [a, c] H')
section
variable {a c p : Addr} {H H' H1 : Hp} {o : HO}
theorem Gr.refl : Gr a c H H := Same.refl _
theorem Gr.trans (h : Gr a c H H1) (k : Gr a c H1 H') : Gr a c H H' := Same.trans h k
theorem Fra.hid (h : Fra a c H H') : hid [a, c] H' = hid [a, c] H := hid_eq fun b hb => h b (fun e => hb (by rw [e]; exact List.mem_cons_self)) fun e => hb (by rw [e]; exact List.mem_cons_of_mem _ List.mem_cons_self)
theorem Fra.gr (h : Fra a c H H') : Gr a c H H' := by
  unfold Gr
  rw [h.hid]
  exact Same.refl _
theorem Rng.at1 (R : Rng a c H) : ∃ o, H a = some o := let ⟨_, _, _, h, _⟩ := R; ⟨_, h⟩
theorem Rng.at2 (R : Rng a c H) : ∃ o, H c = some o := let ⟨_, _, _, _, h, _⟩ := R; ⟨_, h⟩
theorem Rng.fresh (R : Rng a c H) (h : H p = none) : p ≠ a ∧ p ≠ c := by
  obtain ⟨o1, e1⟩ := R.at1
  obtain ⟨o2, e2⟩ := R.at2
  exact ⟨fun e => (by rw [e, e1] at h; cases h), fun e => (by rw [e, e2] at h; cases h)⟩
theorem Rng.upd (R : Rng a c H) (h1 : p ≠ a) (h2 : p ≠ c) : Rng a c (L2.upd H p o) := by
  obtain ⟨ne, ns, m, ha, hc, hn, hm⟩ := R
  exact ⟨ne, ns, m, by rw [upd_ne h1.symm]; exact ha, by rw [upd_ne h2.symm]; exact hc, hn, hm⟩
theorem hid2 (h1 : p ≠ a) (h2 : p ≠ c) : p ∉ [a, c] := fun h => by
  rcases List.mem_cons.mp h with e | e
  · exact h1 e
  · rcases List.mem_cons.mp e with e | e
    · exact h2 e
    · cases e
/-- a new object -/
theorem new_step (R : Rng a c H) (h : H p = none) : Rng a c (L2.upd H p o) ∧ Gr a c H (L2.upd H p o) ∧ hid [a, c] (L2.upd H p o) p = some o ∧ p ≠ a ∧ p ≠ c := by
  obtain ⟨h1, h2⟩ := R.fresh h
  refine ⟨R.upd h1 h2, Lb.Same.hid (Same.newp h), ?_, h1, h2⟩
  rw [hid_out (hid2 h1 h2), upd_same]
theorem Gr.at (h : Gr a c H H') (e : hid [a, c] H p = some o) : H' p = some o := (hid_some (h _ _ e)).1
theorem hid_get (e : hid [a, c] H p = some o) : H p = some o := (hid_some e).1
theorem hid_ne (e : hid [a, c] H p = some o) : p ≠ a ∧ p ≠ c := by
  have h := (hid_some e).2
  exact ⟨fun q => h (by rw [q]; exact List.mem_cons_self), fun q => h (by rw [q]; exact List.mem_cons_of_mem _ List.mem_cons_self)⟩
end
def spPick : Sp := fun vs H Q _ => ∃ (a c p : Addr) (xs : List V), vs = [.ref a, .ref p] ∧ Rng a c H ∧ H p = some (.lst xs) ∧ p ≠ a ∧ p ≠ c ∧ xs ≠ [] ∧ xs.length ≤ 100000 ∧
  ∀ (H' : Hp) (v : V), v ∈ xs → Rng a c H' → Fra a c H H' → Q v H'
theorem len_pick {vs : List V} {H : Hp} {Q : VK} {E : XK} (h : spPick vs H Q E) : vs.length = 2 := by
  obtain ⟨a, c, p, xs, rfl, _⟩ := h
  rfl
def t_pick : TS := (tRet (tOp rIxA (tVar 1) (tCall spDraw [] E0 (tCons (tVar 0) (tCons (tCB rLenA (tCons (tVar 1) tNil)) tNil)))))
theorem pure_pick {N : List Str} (vs : List V) (H : Hp) (Q : VK) (E : XK) (h : spPick vs H Q E) (hN : N.length = 2) : t_pick { nx := fun _ H' => Q .non H', rt := Q } (L2.start N vs) H := by
  obtain ⟨a, c, p, xs, rfl, R, hp, n1, n2, hx, hz, k⟩ := h
  have es : L2.start N [V.ref a, .ref p] = [some (.ref a), some (.ref p)] := by
    unfold L2.start
    rw [hN]
    rfl
  rw [es]
  unfold t_pick
  walk_at "s"
  try refine i_lenL hp ?_
  walk_at "s"
  have hl : 0 < xs.length := List.length_pos_iff.mpr hx
  refine ⟨a, c, xs.length, rfl, by omega, by omega, R, fun H' r h0 h1 R' fr => ?_⟩
  have hp' : H' p = some (.lst xs) := by rw [fr p n1 n2]; exact hp
  obtain ⟨j, rfl⟩ : ∃ j : Nat, r = (j : Int) := ⟨r.toNat, by omega⟩
  have hj : j < xs.length := by omega
  refine i_ixL hp' (atI_nat (List.getElem?_eq_getElem hj)) ?_
  exact k H' _ (List.getElem_mem hj) R' fr
def spState (K : PySem.W.Frag) : Sp := fun vs H Q _ => ∃ (s : Addr) (ns : List Int), vs = [.ref s] ∧ SqL K H s (ns.map V.int) ∧ ns.length ≤ 63 ∧
  ∀ (H' : Hp) (a c : Addr), Same H H' → Rng a c H' → H a = none → H c = none → Q (.ref a) H'
theorem len_state {K : PySem.W.Frag} {vs : List V} {H : Hp} {Q : VK} {E : XK} (h : spState K vs H Q E) : vs.length = 1 := by
  obtain ⟨a, ns, rfl, _⟩ := h
  rfl
def t_state (K : PySem.W.Frag) : TS :=
  (tSeq (tAsg (tC (.int 7)) (gName 1)) (tSeq (tFor (iList K (tVar 0)) (gName 2) (tAsg (tOp (rI (fun _ j => 0 < j) fun i j => .int (i % j)) (tCB rIntA (tCons (tOp rAddA (tOp rMulA (tVar 1) (tC (.int 31))) (tVar 2)) tNil)) (tC (.int 1000003))) (gName 1))) (tRet (tLst (tCons (tLc (iList K (tVar 0)) (gName 2) tYes (tCB rAbsA (tCons (tVar 2) tNil)) [2]) (tCons (tOp rAddA (tVar 1) (tC (.int 1))) tNil))))))
theorem ints_at {ns : List Int} {i : Nat} {x : V} (h : (ns.map V.int)[i]? = some x) : ∃ z, x = .int z ∧ ns[i]? = some z := by
  rw [List.getElem?_map] at h
  cases e : ns[i]? with
  | none => rw [e] at h; cases h
  | some z => rw [e] at h; exact ⟨z, (Option.some.inj h).symm, rfl⟩
theorem pure_state (K : PySem.W.Frag) {N : List Str} (vs : List V) (H : Hp) (Q : VK) (E : XK) (h : spState K vs H Q E) (hN : N.length = 3) : t_state K { nx := fun _ H' => Q .non H', rt := Q } (L2.start N vs) H := by
  obtain ⟨s, ns, rfl, hS, hl, k⟩ := h
  have es : L2.start N [V.ref s] = [some (.ref s), none, none] := by
    unfold L2.start
    rw [hN]
    rfl
  rw [es]
  unfold t_state
  walk_at "s"
  refine i_forL (ns.map V.int) (fun i σ H' => H' = H ∧ ∃ (z : Int) (v : Option V), 0 ≤ z ∧ σ = [some (.ref s), some (.int z), v]) ⟨rfl, 7, none, by decide, rfl⟩ (fun i σ H' ⟨e, _⟩ => by rw [e]; exact hS) ?_ ?_
  · rintro i x σ H' hx ⟨rfl, z, v, hz, rfl⟩
    obtain ⟨y, rfl, _⟩ := ints_at hx
    walk_at "s"
    try refine i_mulI (.inr ⟨by decide, by decide⟩) ?_
    walk_at "s"
    refine i_rI (by show (0 : Int) < 1000003; decide) ?_
    walk_at "s"
    exact ⟨rfl, _, _, Int.emod_nonneg _ (by decide), rfl⟩
  · rintro σ H' ⟨rfl, z, v, hz, rfl⟩
    walk_at "s"
    refine ⟨⟨_, hS⟩, fun D hD => ?_⟩
    refine i_lcL (ns.map V.int) (fun i H2 => Same H' H2 ∧ ∃ ms : List Int, H2 D = some (.lst (ms.map V.int)) ∧ ms.length = i ∧ ∀ m ∈ ms, 0 ≤ m) ⟨Same.newp hD, [], upd_same, rfl, by simp⟩ (fun i H2 p => p.1.seq hS) ?_ ?_
    · rintro i x H2 hx ⟨sm, ms, hm, hml, hm0⟩
      obtain ⟨y, rfl, hy⟩ := ints_at hx
      have hi : i < ns.length := (List.getElem?_eq_some_iff.mp hy).1
      walk_at "s"
      refine ⟨_, hm, by rw [List.length_map]; exact szl (by omega), fun b o e => ?_, ms ++ [if y < 0 then -y else y], ?_, by rw [List.length_append, hml]; rfl, fun q hq => ?_⟩
      · rw [upd_ne (ne_of_none e hD)]
        exact sm b o e
      · rw [upd_same, List.map_append]
        rfl
      · rcases List.mem_append.mp hq with e | e
        · exact hm0 q e
        · rw [List.mem_singleton.mp e]
          split <;> omega
    · rintro H2 ⟨sm, ms, hm, hml, hm0⟩
      walk_at "s"
      refine ⟨sz (by simp), fun p hp => ?_⟩
      have npD : p ≠ D := fun e => by rw [e, hm] at hp; cases hp
      refine k _ p D (sm.trans (Same.newp hp)) ⟨npD, ms, z + 1, upd_same, by rw [upd_ne npD.symm]; exact hm, hm0, by omega⟩ (sm.free hp) hD

end Lb
set_option Elab.async false
set_option linter.all false
set_option maxRecDepth 100000
set_option maxHeartbeats 4000000
/-! Le: data that may be compared, heaps that only grow. Knows no program. -/
namespace Lb
open PySem PySem.Spec PyProof.Rows L2
/-- data without dicts, at most n deep -/
def Sh (n : Nat) (d : PyData) : Prop := d.canLay0 = true ∧ d.depth ≤ n
def ShA (n : Nat) (ds : List PyData) : Prop := PyData.canLayAll0 ds = true ∧ PyData.depthAll ds ≤ n
section
variable {n m : Nat} {d : PyData} {ds es : List PyData}
theorem Sh.shp (h : Sh n d) (hn : n ≤ 64 := by decide) : Shp d := by
  unfold Shp SeqAt.shaped
  rw [h.1, Bool.true_and, decide_eq_true (Nat.le_trans h.2 hn)]
theorem Sh.mono (h : Sh n d) (hn : n ≤ m) : Sh m d := ⟨h.1, Nat.le_trans h.2 hn⟩
theorem ShA.mono (h : ShA n ds) (hn : n ≤ m) : ShA m ds := ⟨h.1, Nat.le_trans h.2 hn⟩
theorem Sh.non : Sh n .none := ⟨rfl, Nat.zero_le _⟩
theorem Sh.bl {b : Bool} : Sh n (.bool b) := ⟨rfl, Nat.zero_le _⟩
theorem Sh.int {i : Int} : Sh n (.int i) := ⟨rfl, Nat.zero_le _⟩
theorem Sh.str {x : Str} (h : PyData.canLay0 (.str x) = true) : Sh n (.str x) := ⟨h, Nat.zero_le _⟩
theorem Sh.lst (h : ShA n ds) : Sh (n + 1) (.list ds) := ⟨h.1, Nat.succ_le_succ h.2⟩
theorem Sh.tup (h : ShA n ds) : Sh (n + 1) (.tuple ds) := ⟨h.1, Nat.succ_le_succ h.2⟩
theorem ShA.nil : ShA n [] := ⟨rfl, Nat.zero_le _⟩
theorem ShA.cons (h : Sh n d) (k : ShA n ds) : ShA n (d :: ds) := by
  refine ⟨?_, Nat.max_le.mpr ⟨h.2, k.2⟩⟩
  show (d.canLay0 && PyData.canLayAll0 ds) = true
  rw [h.1, k.1]
  rfl
theorem ShA.all : ∀ {ds : List PyData}, (∀ d ∈ ds, Sh n d) → ShA n ds
  | [], _ => .nil
  | d :: r, h => .cons (h d List.mem_cons_self) (ShA.all fun e he => h e (List.mem_cons_of_mem _ he))
theorem ShA.ints {ns : List Int} : ShA n (ns.map PyData.int) := .all fun d h => by
  obtain ⟨i, _, rfl⟩ := List.mem_map.mp h
  exact .int
theorem ShA.append (h : ShA n ds) (k : ShA n es) : ShA n (ds ++ es) := by
  induction ds with
  | nil => exact k
  | cons d r ih =>
    have h1 : (d.canLay0 && PyData.canLayAll0 r) = true := h.1
    have h2 := Bool.and_eq_true_iff.mp h1
    have h3 := Nat.max_le.mp h.2
    exact .cons ⟨h2.1, h3.1⟩ (ih ⟨h2.2, h3.2⟩)
end
section
variable {a c p : Addr} {H H' : Hp} {o : HO}
theorem Rng.same (R : Rng a c H) (s : Same H H') : Rng a c H' := by
  obtain ⟨ne, ns, m, ha, hc, hn, hm⟩ := R
  exact ⟨ne, ns, m, s _ _ ha, s _ _ hc, hn, hm⟩
theorem Gr.same (s : Same H H') : Gr a c H H' := Lb.Same.hid s
/-- what stands beside the two places stands -/
theorem Gr.keep (g : Gr a c H H') (h1 : p ≠ a) (h2 : p ≠ c) (e : H p = some o) : H' p = some o := g.at (by rw [hid_out (hid2 h1 h2)]; exact e)
theorem hid_of (h1 : p ≠ a) (h2 : p ≠ c) (e : H p = some o) : hid [a, c] H p = some o := by
  rw [hid_out (hid2 h1 h2)]
  exact e
theorem hid_upd_ne {b : Addr} {S : List Addr} (h : b ≠ p) : hid S (upd H p o) b = hid S H b := by
  by_cases q : b ∈ S
  · rw [hid_in q, hid_in q]
  · rw [hid_out q, hid_out q, upd_ne h]
end
end Lb
set_option Elab.async false
set_option linter.all false
set_option maxRecDepth 100000
set_option maxHeartbeats 4000000
/-! From a def's facts to its callable. -/
namespace Lb
open PySem PySem.Spec PyProof.Rows L2
section
variable {P : Program} {w : World} {K : PySem.W.Frag} {h : Heap} {mg : Str → Option Value} {base : Heap} {x m cls qual name : Str} {k : Nat} {ps : List Str} {sp : Sp} {f : Addr} {fd : FuncData}
variable {params : Arguments} {body : List Stmt} {scope : Scope}
def spF : Sp := fun _ _ _ _ => False
theorem okF : FnOk P w K mg base CX0 k f fd ps spF := ⟨fun _ _ _ _ q => False.elim q, fun _ _ _ _ _ _ _ _ _ _ _ _ _ q => False.elim q⟩
theorem mkCal (F : FunD K name qual params body scope [] [] f fd) (g : mg x = some (.ref f)) (hb : Binds K fd ps []) (O : FnOk P w K mg base CX0 k f fd ps sp) : Cal P w K mg base x k ps sp := ⟨⟨_, _, g, F.kp, hb, O⟩⟩
theorem mkCalM {C : Addr} (hc : Cls K C) (hm : Meth K C m f) (hb : Binds K fd ps []) (O : FnOk P w K mg base CX0 k f fd ps sp) : CalM P w K mg base C m k ps sp := ⟨⟨_, _, hc, hm, hb, O⟩⟩
theorem mkCalC {C : Addr} (g : mg x = some (.ref C)) (M : Mk K C f) (hb : Binds K fd ps []) (O : FnOk P w K mg base CX0 k f fd ps sp) : CalC P w K mg base x C k ps sp := ⟨⟨_, _, g, M, hb, O⟩⟩
theorem Cal.up {j : Nat} (c : Cal P w K mg base x j ps sp) (hl : j ≤ k) : Cal P w K mg base x k ps sp := by
  obtain ⟨f, fd, g, kp, hb, O⟩ := c.ex
  exact ⟨⟨f, fd, g, kp, hb, O.mono hl⟩⟩
theorem Cal.weak {sp' : Sp} (c : Cal P w K mg base x k ps sp) (hs : ∀ vs H Q E, sp' vs H Q E → sp vs H Q E) : Cal P w K mg base x k ps sp' := by
  obtain ⟨f, fd, g, kp, hb, O⟩ := c.ex
  exact ⟨⟨f, fd, g, kp, hb, O.imp hs⟩⟩
theorem look_cf {c : Str → NameKind → Bool} {x : Str} : ∀ {names : List (Str × NameKind)}, names.lookup x = some .cell ∨ names.lookup x = some .free → (names.map fun (n, k) => if c n k = true then (n, NameKind.cell) else (n, k)).lookup x = some .cell ∨ (names.map fun (n, k) => if c n k = true then (n, NameKind.cell) else (n, k)).lookup x = some .free
  | [], h => by rcases h with h | h <;> cases h
  | (n, k) :: r, h => by
    show List.lookup x ((if c n k = true then (n, NameKind.cell) else (n, k)) :: _) = _ ∨ List.lookup x ((if c n k = true then (n, NameKind.cell) else (n, k)) :: _) = _
    by_cases e : x = n
    · subst e
      have h2 : k = .cell ∨ k = .free := by
        rcases h with h | h
        · rw [List.lookup_cons_self] at h
          exact .inl (Option.some.inj h)
        · rw [List.lookup_cons_self] at h
          exact .inr (Option.some.inj h)
      by_cases q : c x k = true
      · rw [if_pos q, List.lookup_cons_self]
        exact .inl rfl
      · rw [if_neg q, List.lookup_cons_self]
        rcases h2 with z | z <;> rw [z]
        · exact .inl rfl
        · exact .inr rfl
    · have hb : (x == n) = false := beq_false_of_ne e
      have h2 : r.lookup x = some .cell ∨ r.lookup x = some .free := by
        simp only [List.lookup, hb] at h
        exact h
      have ih := look_cf (c := c) h2
      by_cases q : c n k = true
      · rw [if_pos q]
        simp only [List.lookup, hb]
        exact ih
      · rw [if_neg q]
        simp only [List.lookup, hb]
        exact ih
theorem blkOk_in {N : List Str} {sc scope2 : Scope} {own : List (Str × Nat)} {cl : List (Str × Addr)} {C : Addr} {e : Env} (h : blkC N sc scope2 own = true) : BlkOk N (compEnvC sc cl C e).scope scope2 own := by
  have b := blkOk_by h
  exact ⟨b.kind, b.uniq, b.ix, fun y hy q => look_cf (c := fun n k => (k == NameKind.free && e.scope.kind == .function && e.kindOf n == some .cell)) (b.free y hy q), b.own⟩
theorem gv_int (X : K.In h) (G : h.Ns mainGlobals mg) {i : Int} (c : (He.Fa.int x i).ok K = true) : GV mg x (.int i) := by
  obtain ⟨t, e⟩ := He.int_ok X G c
  exact ⟨⟨_, e, t, rfl⟩⟩
theorem gv_str (X : K.In h) (G : h.Ns mainGlobals mg) {i : Str} (c : (He.Fa.str x i).ok K = true) : GV mg x (.str i) := by
  obtain ⟨t, e⟩ := He.str_ok X G c
  exact ⟨⟨_, e, t, rfl⟩⟩
theorem gv_glo (X : K.In h) (G : h.Ns mainGlobals mg) (c : (He.Fa.glo x).ok K = true) : GV mg x (.ref (He.ga K x)) := ⟨⟨_, He.glo_ok X G c, rfl⟩⟩
end
end Lb
set_option Elab.async false
set_option linter.all false
set_option maxRecDepth 100000
set_option maxHeartbeats 4000000
/-! Lo: what a walk owns: places that it may change, each with its contents, beside a part of the heap that stays. Knows no program. -/
namespace Lb
open PySem PySem.Spec PyProof.Rows L2
structure Own (a c : Addr) (B H : Hp) (ls : List (Addr × HO)) : Prop where
  R : Rng a c H
  keep : Same B H
  nd : (ls.map Prod.fst).Nodup
  out : ∀ x ∈ ls, B x.1 = none ∧ x.1 ≠ a ∧ x.1 ≠ c
  here : ∀ x ∈ ls, H x.1 = some x.2
  ha : B a = none
  hc : B c = none
inductive Up1 (p : Addr) (o o' : HO) : List (Addr × HO) → List (Addr × HO) → Prop
  | here {r : List (Addr × HO)} : Up1 p o o' ((p, o) :: r) ((p, o') :: r)
  | there {x : Addr × HO} {r r' : List (Addr × HO)} (h : Up1 p o o' r r') : Up1 p o o' (x :: r) (x :: r')
section
variable {a c p : Addr} {B H H' : Hp} {o o' : HO} {ls ls' l1 l2 : List (Addr × HO)}
theorem Up1.mem (h : Up1 p o o' ls ls') : (p, o) ∈ ls := by
  induction h with
  | here => exact List.mem_cons_self
  | there _ ih => exact List.mem_cons_of_mem _ ih
theorem Up1.fst (h : Up1 p o o' ls ls') : ls'.map Prod.fst = ls.map Prod.fst := by
  induction h with
  | here => rfl
  | there _ ih => rw [List.map_cons, List.map_cons, ih]
theorem Up1.of (h : Up1 p o o' ls ls') : ∀ x ∈ ls', x = (p, o') ∨ x ∈ ls := by
  induction h with
  | here => exact fun x hx => (List.mem_cons.mp hx).imp id (List.mem_cons_of_mem _)
  | there _ ih =>
    intro x hx
    rcases List.mem_cons.mp hx with e | e
    · exact .inr (by rw [e]; exact List.mem_cons_self)
    · exact (ih x e).imp id (List.mem_cons_of_mem _)
theorem Up1.other (h : Up1 p o o' ls ls') (nd : (ls.map Prod.fst).Nodup) : ∀ x ∈ ls', x = (p, o') ∨ (x ∈ ls ∧ x.1 ≠ p) := by
  induction h with
  | here =>
    intro x hx
    rcases List.mem_cons.mp hx with e | e
    · exact .inl e
    · refine .inr ⟨List.mem_cons_of_mem _ e, fun q => ?_⟩
      have h1 := (List.nodup_cons.mp nd).1
      exact h1 (by
        have z := List.mem_map_of_mem (f := Prod.fst) e
        rw [q] at z
        exact z)
  | @there y r r' k ih =>
    intro x hx
    have h1 := List.nodup_cons.mp nd
    rcases List.mem_cons.mp hx with e | e
    · refine .inr ⟨by rw [e]; exact List.mem_cons_self, fun q => ?_⟩
      exact h1.1 (by rw [← e, q]; exact List.mem_map_of_mem (f := Prod.fst) k.mem)
    · exact (ih h1.2 x e).imp id fun z => ⟨List.mem_cons_of_mem _ z.1, z.2⟩
theorem Own.mem (O : Own a c B H ls) (h : (p, o) ∈ ls) : H p = some o := O.here _ h
theorem Own.kp (O : Own a c B H ls) (h : B p = some o) : H p = some o := O.keep _ _ h
theorem Own.draw (O : Own a c B H ls) (R : Rng a c H') (f : Fra a c H H') : Own a c B H' ls := by
  refine ⟨R, fun b o e => ?_, O.nd, O.out, fun x hx => ?_, O.ha, O.hc⟩
  · rw [f b (fun q => by rw [q, O.ha] at e; cases e) fun q => by rw [q, O.hc] at e; cases e]
    exact O.keep _ _ e
  · rw [f _ (O.out x hx).2.1 (O.out x hx).2.2]
    exact O.here x hx
theorem Own.same (O : Own a c B H ls) (s : Same H H') : Own a c B H' ls := ⟨O.R.same s, fun b o e => s _ _ (O.keep _ _ e), O.nd, O.out, fun x hx => s _ _ (O.here x hx), O.ha, O.hc⟩
theorem Own.set (O : Own a c B H ls) (h : Up1 p o o' ls ls') : Own a c B (upd H p o') ls' := by
  have hp := O.out _ h.mem
  refine ⟨O.R.upd hp.2.1 hp.2.2, fun b u e => ?_, by rw [h.fst]; exact O.nd, fun x hx => ?_, fun x hx => ?_, O.ha, O.hc⟩
  · rw [upd_ne (fun q => by rw [q, hp.1] at e; cases e)]
    exact O.keep _ _ e
  · rcases h.of x hx with e | e
    · rw [e]
      exact hp
    · exact O.out x e
  · rcases h.other O.nd x hx with e | e
    · rw [e]
      exact upd_same
    · rw [upd_ne e.2]
      exact O.here x e.1
theorem Own.new (O : Own a c B H ls) (hp : H p = none) : Own a c B (upd H p o) ((p, o) :: ls) := by
  obtain ⟨n1, n2⟩ := O.R.fresh hp
  have hb : B p = none := by
    cases e : B p with
    | none => rfl
    | some u => rw [O.keep _ _ e] at hp; cases hp
  have hne : ∀ x ∈ ls, x.1 ≠ p := fun x hx q => by
    have := O.here x hx
    rw [q, hp] at this
    cases this
  refine ⟨O.R.upd n1 n2, fun b u e => ?_, ?_, fun x hx => ?_, fun x hx => ?_, O.ha, O.hc⟩
  · rw [upd_ne (fun q => by rw [q, hb] at e; cases e)]
    exact O.keep _ _ e
  · rw [List.map_cons]
    refine List.nodup_cons.mpr ⟨fun q => ?_, O.nd⟩
    obtain ⟨x, hx, e⟩ := List.mem_map.mp q
    exact hne x hx e
  · rcases List.mem_cons.mp hx with e | e
    · rw [e]
      exact ⟨hb, n1, n2⟩
    · exact O.out x e
  · rcases List.mem_cons.mp hx with e | e
    · rw [e]
      exact upd_same
    · rw [upd_ne (hne x e)]
      exact O.here x e
theorem Own.perm (O : Own a c B H ls) (h : ls.Perm ls') : Own a c B H ls' :=
  ⟨O.R, O.keep, (h.map _).nodup_iff.mp O.nd, fun x hx => O.out x (h.mem_iff.mpr hx), fun x hx => O.here x (h.mem_iff.mpr hx), O.ha, O.hc⟩
/-- the contents of a part of what is owned -/
def cellsH (ls : List (Addr × HO)) : Hp := fun p => ls.lookup p
theorem look_mem {x : Addr × HO} : ∀ {ls : List (Addr × HO)}, (ls.map Prod.fst).Nodup → x ∈ ls → ls.lookup x.1 = some x.2
  | [], _, h => by cases h
  | y :: r, nd, h => by
    have h1 := List.nodup_cons.mp nd
    rcases List.mem_cons.mp h with e | e
    · rw [e]
      show (match y.1 == y.1 with | true => some y.2 | false => r.lookup y.1) = _
      rw [beq_self_eq_true]
    · have ne : ¬ x.1 = y.1 := fun q => h1.1 (by rw [← q]; exact List.mem_map_of_mem e)
      show (match x.1 == y.1 with | true => some y.2 | false => r.lookup x.1) = _
      rw [beq_false_of_ne ne]
      exact look_mem h1.2 e
theorem look_none {p : Addr} : ∀ {ls : List (Addr × HO)}, p ∉ ls.map Prod.fst → ls.lookup p = none
  | [], _ => rfl
  | y :: r, h => by
    have ne : ¬ p = y.1 := fun q => h (by rw [q]; exact List.mem_cons_self)
    show (match p == y.1 with | true => some y.2 | false => r.lookup p) = _
    rw [beq_false_of_ne ne]
    exact look_none fun q => h (List.mem_cons_of_mem _ q)
/-- a part of it stays from now on -/
theorem Own.hide (O : Own a c B H (l1 ++ l2)) : ∃ B', Same B B' ∧ (∀ x ∈ l1, B' x.1 = some x.2) ∧ (∀ q ∉ l1.map Prod.fst, B' q = B q) ∧ Own a c B' H l2 := by
  have nd : (l1.map Prod.fst ++ l2.map Prod.fst).Nodup := by
    rw [← List.map_append]
    exact O.nd
  obtain ⟨n1, n2, n3⟩ := List.nodup_append.mp nd
  have key : ∀ q ∉ l1.map Prod.fst, (match l1.lookup q with | some o => some o | none => B q) = B q := fun q hq => by rw [look_none hq]
  have at1 : ∀ x ∈ l1, (match l1.lookup x.1 with | some o => some o | none => B x.1) = some x.2 := fun x hx => by rw [look_mem n1 hx]
  refine ⟨fun q => match l1.lookup q with | some o => some o | none => B q, fun b u e => ?_, at1, key, O.R, fun b u e => ?_, n2, fun x hx => ?_, fun x hx => O.here x (List.mem_append_right _ hx), ?_, ?_⟩
  · refine (key b fun hq => ?_).trans e
    obtain ⟨x, hx, ex⟩ := List.mem_map.mp hq
    have := (O.out x (List.mem_append_left _ hx)).1
    rw [ex, e] at this
    cases this
  · by_cases hq : b ∈ l1.map Prod.fst
    · obtain ⟨x, hx, ex⟩ := List.mem_map.mp hq
      rw [← ex] at e ⊢
      have e2 : some x.2 = some u := (at1 x hx).symm.trans e
      rw [← e2]
      exact O.here x (List.mem_append_left _ hx)
    · exact O.keep _ _ ((key b hq).symm.trans e)
  · have o1 := O.out x (List.mem_append_right _ hx)
    refine ⟨?_, o1.2⟩
    exact (key _ fun hq => n3 _ hq _ (List.mem_map_of_mem hx) rfl).trans o1.1
  · show (match l1.lookup a with | some o => some o | none => B a) = none
    rw [key a fun hq => ?_]
    · exact O.ha
    obtain ⟨x, hx, ex⟩ := List.mem_map.mp hq
    exact (O.out x (List.mem_append_left _ hx)).2.1 ex
  · show (match l1.lookup c with | some o => some o | none => B c) = none
    rw [key c fun hq => ?_]
    · exact O.hc
    obtain ⟨x, hx, ex⟩ := List.mem_map.mp hq
    exact (O.out x (List.mem_append_left _ hx)).2.2 ex
theorem Own.freeze (O : Own a c B H ((p, o) :: ls)) : ∃ B', Same B B' ∧ B' p = some o ∧ Own a c B' H ls := by
  obtain ⟨B', s, h, _, O'⟩ := Own.hide (l1 := [(p, o)]) O
  exact ⟨B', s, h _ List.mem_cons_self, O'⟩
/-- .. and is owned again -/
theorem Own.unhide (O : Own a c B H l2) (nd : (l1.map Prod.fst).Nodup) (h : ∀ x ∈ l1, B x.1 = some x.2) : Own a c (hid (l1.map Prod.fst) B) H (l1 ++ l2) := by
  refine ⟨O.R, fun b u e => O.keep _ _ (hid_some e).1, ?_, fun x hx => ?_, fun x hx => ?_, ?_, ?_⟩
  · rw [List.map_append]
    refine List.nodup_append.mpr ⟨nd, O.nd, fun u hu v hv e => ?_⟩
    obtain ⟨x, hx, ex⟩ := List.mem_map.mp hu
    obtain ⟨y, hy, ey⟩ := List.mem_map.mp hv
    have h1 := h x hx
    have h2 := (O.out y hy).1
    rw [ey, ← e, ← ex, h1] at h2
    cases h2
  · rcases List.mem_append.mp hx with e | e
    · refine ⟨hid_in (List.mem_map_of_mem e), fun q => ?_, fun q => ?_⟩
      · have := h x e
        rw [q, O.ha] at this
        cases this
      · have := h x e
        rw [q, O.hc] at this
        cases this
    · refine ⟨?_, (O.out x e).2⟩
      by_cases q : x.1 ∈ l1.map Prod.fst
      · exact hid_in q
      · rw [hid_out q]
        exact (O.out x e).1
  · rcases List.mem_append.mp hx with e | e
    · exact O.keep _ _ (h x e)
    · exact O.here x e
  · by_cases q : a ∈ l1.map Prod.fst
    · exact hid_in q
    · rw [hid_out q]
      exact O.ha
  · by_cases q : c ∈ l1.map Prod.fst
    · exact hid_in q
    · rw [hid_out q]
      exact O.hc
theorem Same.hidO {l : List Addr} (s : Same B H) (h : ∀ p ∈ l, B p = none) : Same B (Lb.hid l H) := fun b u e => by
  rw [hid_out fun q => by rw [h b q] at e; cases e]
  exact s _ _ e
end
/-- what came since -/
inductive Pre (l0 : List (Addr × HO)) : List (Addr × HO) → List (Addr × HO) → Prop
  | nil : Pre l0 l0 []
  | cons {x : Addr × HO} {l l1 : List (Addr × HO)} (h : Pre l0 l l1) : Pre l0 (x :: l) (x :: l1)
inductive PutF (f : Str) (y : V) : List (Str × V) → List (Str × V) → Prop
  | nil : PutF f y [] [(f, y)]
  | here {x : V} {r : List (Str × V)} : PutF f y ((f, x) :: r) ((f, y) :: r)
  | there {g : Str} {x : V} {r r' : List (Str × V)} (n : ¬ g = f) (h : PutF f y r r') : PutF f y ((g, x) :: r) ((g, x) :: r')
inductive LkF (f : Str) (v : Option V) : List (Str × V) → Prop
  | nil (h : v = none) : LkF f v []
  | here {x : V} {r : List (Str × V)} (h : v = some x) : LkF f v ((f, x) :: r)
  | there {g : Str} {x : V} {r : List (Str × V)} (n : ¬ f = g) (h : LkF f v r) : LkF f v ((g, x) :: r)
section
variable {a c p : Addr} {B H H' : Hp} {o o' : HO} {ls ls' l0 l1 l2 : List (Addr × HO)} {f : Str} {y : V} {fs fs' : List (Str × V)} {w : Option V}
theorem Pre.eq (h : Pre l0 l1 l2) : l1 = l2 ++ l0 := by
  induction h with
  | nil => rfl
  | cons _ ih => rw [ih]; rfl
theorem PutF.eq (h : PutF f y fs fs') : putF f y fs = fs' := by
  induction h with
  | nil => rfl
  | here => exact if_pos rfl
  | there n _ ih => exact (if_neg n).trans (by rw [ih])
theorem LkF.eq (h : LkF f w fs) : fs.lookup f = w := by
  induction h with
  | nil e => exact e.symm
  | @here x r e =>
    show (match f == f with | true => some x | false => r.lookup f) = w
    rw [beq_self_eq_true]
    exact e.symm
  | @there g x r n _ ih =>
    show (match f == g with | true => some x | false => r.lookup f) = w
    rw [beq_false_of_ne n]
    exact ih
theorem Own.settle (O : Own a c B H ls) (h : Pre l0 ls l1) : ∃ B', Same B B' ∧ (∀ x ∈ l1, B' x.1 = some x.2) ∧ Own a c B' H l0 := by
  rw [h.eq] at O
  obtain ⟨B', s, k, _, O'⟩ := O.hide
  exact ⟨B', s, k, O'⟩
theorem Own.drop (O : Own a c B H (l1 ++ l2)) : Own a c B H l2 :=
  ⟨O.R, O.keep, (by
    have nd := O.nd
    rw [List.map_append] at nd
    exact (List.nodup_append.mp nd).2.1), fun x hx => O.out x (List.mem_append_right _ hx), fun x hx => O.here x (List.mem_append_right _ hx), O.ha, O.hc⟩
theorem Own.dropP (O : Own a c B H ls) (h : Pre l0 ls l1) : Own a c B H l0 := by
  rw [h.eq] at O
  exact O.drop
theorem Own.start (R : Rng a c H) : Own a c (hid [a, c] H) H [] := ⟨R, hid_sub, List.nodup_nil, fun _ h => (List.not_mem_nil h).elim, fun _ h => (List.not_mem_nil h).elim, hid_in List.mem_cons_self, hid_in (List.mem_cons_of_mem _ List.mem_cons_self)⟩
end
/-! ### steps by what is owned -/
section
variable {a c p : Addr} {B H : Hp} {ls ls' : List (Addr × HO)} {Q : VK} {xs : List V} {o : HO} {σ : L2.St}
/-- a new place -/
def NewO (o : HO) (H : Hp) (Q : VK) : Prop := ∀ p, H p = none → Q (.ref p) (upd H p o)
def FldS (K : PySem.W.Frag) (x : V) (f : Str) (y : V) (H : Hp) (R : Hp → Prop) : Prop := ∃ a C dx fs, x = .ref a ∧ H a = some (.ins C dx fs) ∧ Cls K C ∧ NoAttr K C f ∧ fs.length < 1000 ∧ R (upd H a (.ins C dx (putF f y fs)))
def NewI (C : Addr) (sp : Sp) (vs : List V) (H : Hp) (Q : VK) (E : XK) : Prop := ∀ x dx, H x = none → H dx = none → dx ≠ x → sp (.ref x :: vs) (upd (upd H dx (.own x)) x (.ins C dx [])) (fun v H2 => v = .non ∧ Q (.ref x) H2) E
theorem i_tupN {t : TA} (q : t σ H fun xs H1 => xs.length ≤ sizeLine ∧ NewO (.tup xs) H1 Q) : tTup t σ H Q := q
theorem i_lstN {t : TA} (q : t σ H fun xs H1 => xs.length ≤ sizeLine ∧ NewO (.lst xs) H1 Q) : tLst t σ H Q := q
theorem i_dnewN (q : NewO (.dK []) H Q) : tDNewK σ H Q := q
theorem i_fldSN {K : PySem.W.Frag} {ta tv : TE} {f : Str} {nx : L2.St → Hp → Prop} {rt : VK} {bk ct : L2.St → Hp → Prop} (q : tv σ H fun y H1 => ta σ H1 fun x H2 => FldS K x f y H2 fun H3 => nx σ H3) : sFld K ta tv f ⟨nx, rt, bk, ct⟩ σ H := q
theorem i_makeN {C : Addr} {sp : Sp} {E : XK} {t : TA} (q : t σ H fun vs H1 => NewI C sp (vs ++ []) H1 Q E) : tMake C sp [] E t σ H Q := q
theorem i_listN {p : Addr} (h : H p = some (.lst xs)) (k : NewO (.lst xs) H Q) : rListA [.ref p] H Q := i_listL h k
theorem i_listTN {p : Addr} (h : H p = some (.tup xs)) (k : NewO (.lst xs) H Q) : rListA [.ref p] H Q := i_listT h k
theorem i_addN {p q : Addr} {ys : List V} (h1 : H p = some (.lst xs)) (h2 : H q = some (.lst ys)) (h : xs.length + ys.length ≤ sizeLine) (k : NewO (.lst (xs ++ ys)) H Q) : rAddA (.ref p) (.ref q) H Q := i_addL h1 h2 h k
theorem i_tupO (O : Own a c B H ls) (hz : xs.length ≤ sizeLine) (k : ∀ p H', Own a c B H' ((p, .tup xs) :: ls) → Q (.ref p) H') : xs.length ≤ sizeLine ∧ NewO (.tup xs) H Q := ⟨hz, fun p hp => k p _ (O.new hp)⟩
theorem i_lstO (O : Own a c B H ls) (hz : xs.length ≤ sizeLine) (k : ∀ p H', Own a c B H' ((p, .lst xs) :: ls) → Q (.ref p) H') : xs.length ≤ sizeLine ∧ NewO (.lst xs) H Q := ⟨hz, fun p hp => k p _ (O.new hp)⟩
theorem i_newO (O : Own a c B H ls) (k : ∀ p H', Own a c B H' ((p, o) :: ls) → Q (.ref p) H') : NewO o H Q := fun p hp => k p _ (O.new hp)
theorem i_dgetI {p : Addr} {kvs : List (Key × V)} {i : Int} {v : V} {R : V → Prop} (h : H p = some (.dK kvs)) (hv : valV kvs (.inl i) = some v) (q : R v) : (∃ a' v', V.ref p = .ref a' ∧ DGet H a' (.int i) (some v') ∧ R v') := i_dgetK h (k := .inl i) rfl hv q
inductive IxO : HO → Int → V → Prop
  | lst {xs : List V} {i : Int} {v : V} (h : atI xs i = some v) : IxO (.lst xs) i v
  | tup {xs : List V} {i : Int} {v : V} (h : atI xs i = some v) : IxO (.tup xs) i v
inductive LenO : HO → Int → Prop
  | lst {xs : List V} : LenO (.lst xs) xs.length
  | tup {xs : List V} : LenO (.tup xs) xs.length
  | dK {kvs : List (Key × V)} : LenO (.dK kvs) kvs.length
theorem i_ixA {p : Addr} {i : Int} {v : V} (h : H p = some o) (hi : IxO o i v) (q : Q v H) : rIxA (.ref p) (.int i) H Q := by
  cases hi with
  | lst hi => exact i_ixL h hi q
  | tup hi => exact i_ixT h hi q
theorem i_lenA {p : Addr} {i : Int} (h : H p = some o) (hi : LenO o i) (q : Q (.int i) H) : rLenA [.ref p] H Q := by
  cases hi with
  | lst => exact i_lenL h q
  | tup => exact i_lenT h q
  | dK => exact i_lenD h q
theorem i_appO {l : Addr} {y : V} (O : Own a c B H ls) (h : Up1 l (.lst xs) (.lst (xs ++ [y])) ls ls') (hz : xs.length < sizeLine) (k : ∀ H', Own a c B H' ls' → Q .non H') : rAppA (.ref l) [y] H Q := i_app (O.mem h.mem) hz (k _ (O.set h))
theorem i_setO {l : Addr} {i : Int} {j : Nat} {v : V} {R : Hp → Prop} (O : Own a c B H ls) (h : Up1 l (.lst xs) (.lst (xs.set j v)) ls ls') (hi : ixN xs.length i = some j) (k : ∀ H', Own a c B H' ls' → R H') : rSetA (.ref l) (.int i) v H R := i_setL (O.mem h.mem) hi (k _ (O.set h))
theorem i_popIO {l : Addr} {y : V} {i : Int} {j : Nat} (O : Own a c B H ls) (h : Up1 l (.lst xs) (.lst (xs.eraseIdx j)) ls ls') (hi : i = (j : Int)) (hj : j < 2 ^ 62) (hy : xs[j]? = some y) (k : ∀ H', Own a c B H' ls' → Q y H') : rPopI (.ref l) [.int i] H Q := by
  simp only [rPopI, O.mem h.mem]
  exact ⟨j, y, hi, hj, hy, k _ (O.set h)⟩
theorem i_popLO {l : Addr} {y : V} (O : Own a c B H ls) (h : Up1 l (.lst xs) (.lst xs.dropLast) ls ls') (hy : xs[xs.length - 1]? = some y) (k : ∀ H', Own a c B H' ls' → Q y H') : rPopL (.ref l) [] H Q := i_popL (O.mem h.mem) hy (k _ (O.set h))
theorem i_fldO {K : PySem.W.Frag} {l C dx : Addr} {fs : List (Str × V)} {f : Str} {v : V} {R : V → Prop} (h : H l = some (.ins C dx fs)) (hc : Cls K C) (hn : NoAttr K C f) (hv : LkF f (some v) fs) (k : R v) :
    (∃ a C dx fs v, V.ref l = .ref a ∧ H a = some (.ins C dx fs) ∧ Cls K C ∧ NoAttr K C f ∧ fs.lookup f = some v ∧ R v) := ⟨l, C, dx, fs, v, rfl, h, hc, hn, hv.eq, k⟩
theorem i_fldSO {K : PySem.W.Frag} {l C dx : Addr} {fs : List (Str × V)} {f : Str} {y : V} {R : Hp → Prop} (O : Own a c B H ls) {fs' : List (Str × V)} (h : Up1 l (.ins C dx fs) (.ins C dx fs') ls ls') (hf : PutF f y fs fs') (hc : Cls K C) (hn : NoAttr K C f) (hz : fs.length < 1000) (k : ∀ H', Own a c B H' ls' → R H') :
    FldS K (.ref l) f y H R := ⟨l, C, dx, fs, rfl, O.mem h.mem, hc, hn, hz, by rw [hf.eq]; exact k _ (O.set h)⟩
theorem i_methO {C l dx : Addr} {fs : List (Str × V)} {m : Str} {t : TA} {R : List V → Hp → Prop} (h : H l = some (.ins C dx fs)) (hm : LkF m none fs) (k : t σ H R) :
    (∃ a dx fs, V.ref l = .ref a ∧ H a = some (.ins C dx fs) ∧ fs.lookup m = none ∧ t σ H R) := ⟨l, dx, fs, rfl, h, hm.eq, k⟩
theorem i_mkd {R : Prop} (q : R) : (V.non = V.non ∧ R) := ⟨rfl, q⟩
theorem i_makeO {C : Addr} {sp : Sp} {E : XK} {vs : List V} (O : Own a c B H ls) (k : ∀ x dx H', Own a c B H' ((x, .ins C dx []) :: (dx, .own x) :: ls) → sp (.ref x :: vs) H' (fun v H2 => v = .non ∧ Q (.ref x) H2) E) : NewI C sp vs H Q E :=
  fun x dx hx hd ne => k x dx _ ((O.new hd).new (by rw [upd_ne ne.symm]; exact hx))
theorem i_drawO {s : Addr} {n : Int} {E : XK} (O : Own a c B H ls) (hs : s = a) (h0 : 0 < n) (h1 : n < 1073741824) (k : ∀ (r : Int) H', 0 ≤ r → r < n → Own a c B H' ls → Q (.int r) H') : spDraw ([.ref s, .int n] ++ []) H Q E := by
  subst hs
  exact ⟨_, c, n, rfl, h0, h1, O.R, fun H' r a1 a2 R f => k r H' a1 a2 (O.draw R f)⟩
theorem i_pickO {s p : Addr} {E : XK} (O : Own a c B H ls) (hs : s = a) (hp : (p, HO.lst xs) ∈ ls) (h0 : xs ≠ []) (h1 : xs.length ≤ 100000) (k : ∀ (v : V) H', v ∈ xs → Own a c B H' ls → Q v H') : spPick ([.ref s, .ref p] ++ []) H Q E := by
  subst hs
  exact ⟨_, c, p, xs, rfl, O.R, O.mem hp, (O.out _ hp).2.1, (O.out _ hp).2.2, h0, h1, fun H' v hv R f => k v H' hv (O.draw R f)⟩
/-! ### blocks of n alike -/
theorem blk_pull {α : Type} {n j : Nat} (h : j < n) (f : Nat → List α) : ((List.range n).flatMap f).Perm (f j ++ ((List.range n).erase j).flatMap f) := by
  have e := List.perm_cons_erase (List.mem_range.mpr h)
  exact (e.flatMap_right f)
theorem blk_other {α : Type} {n j : Nat} {f g : Nat → List α} (h : ∀ i, i ≠ j → g i = f i) : ((List.range n).erase j).flatMap g = ((List.range n).erase j).flatMap f := by
  have key : ∀ l : List Nat, j ∉ l → l.flatMap g = l.flatMap f := by
    intro l
    induction l with
    | nil => intro _; rfl
    | cons x r ih =>
      intro hj
      rw [List.flatMap_cons, List.flatMap_cons, h x (fun q => hj (by rw [q]; exact List.mem_cons_self)), ih fun q => hj (List.mem_cons_of_mem _ q)]
  exact key _ fun q => ((List.nodup_range).mem_erase_iff.mp q).1 rfl
theorem blk_below {α : Type} {n : Nat} {f g : Nat → List α} (h : ∀ i, i < n → g i = f i) : (List.range n).flatMap g = (List.range n).flatMap f := by
  have key : ∀ l : List Nat, (∀ i ∈ l, i < n) → l.flatMap g = l.flatMap f := by
    intro l
    induction l with
    | nil => intro _; rfl
    | cons x r ih =>
      intro hj
      rw [List.flatMap_cons, List.flatMap_cons, h x (hj x List.mem_cons_self), ih fun i hi => hj i (List.mem_cons_of_mem _ hi)]
  exact key _ fun i hi => List.mem_range.mp hi
theorem blk_succ {α : Type} {n : Nat} (f : Nat → List α) : (List.range (n + 1)).flatMap f = (List.range n).flatMap f ++ f n := by
  rw [List.range_succ, List.flatMap_append, List.flatMap_cons, List.flatMap_nil, List.append_nil]
theorem blk_join {α : Type} (f g : Nat → List α) : ∀ n, ((List.range n).flatMap f ++ (List.range n).flatMap g).Perm ((List.range n).flatMap fun i => f i ++ g i)
  | 0 => .nil
  | n + 1 => by
    rw [blk_succ, blk_succ, blk_succ]
    have ih := blk_join f g n
    refine List.Perm.trans ?_ (ih.append_right (f n ++ g n))
    rw [List.append_assoc, List.append_assoc]
    refine List.Perm.append_left _ ?_
    rw [← List.append_assoc, ← List.append_assoc]
    exact (List.perm_append_comm (l₁ := f n)).append_right _
/-- a def of the walk's own -/
def spIn (N : List Str) (n : Nat) (t : TS) : Sp := fun vs H Q _ => vs.length = n ∧ t { nx := fun _ H' => Q .non H', rt := Q } (L2.start N vs) H
inductive StE : List Str → List V → L2.St → Prop
  | nil : StE [] [] []
  | app {N : List Str} {vs : List V} {σ : L2.St} (h : StE N vs σ) : StE N (vs ++ []) σ
  | got {x : Str} {N : List Str} {v : V} {vs : List V} {σ : L2.St} (h : StE N vs σ) : StE (x :: N) (v :: vs) (some v :: σ)
  | lack {x : Str} {N : List Str} {σ : L2.St} (h : StE N [] σ) : StE (x :: N) [] (none :: σ)
theorem StE.eq {N : List Str} {vs : List V} {σ : L2.St} (h : StE N vs σ) : L2.start N vs = σ := by
  induction h with
  | nil => rfl
  | app _ ih => rw [List.append_nil]; exact ih
  | @got x N v vs σ _ ih =>
    rw [← ih]
    show (v :: vs).map some ++ List.replicate (N.length + 1 - (vs.length + 1)) none = some v :: (vs.map some ++ List.replicate (N.length - vs.length) none)
    rw [Nat.add_sub_add_right]
    rfl
  | @lack x N σ _ ih =>
    rw [← ih]
    rfl
theorem i_in {N : List Str} {n : Nat} {t : TS} {vs : List V} {σ : L2.St} {E : XK} (hn : vs.length = n) (hs : StE N vs σ) (q : t { nx := fun _ H' => Q .non H', rt := Q } σ H) : spIn N n t vs H Q E := ⟨hn, by rw [hs.eq]; exact q⟩
end
end Lb
set_option Elab.async false
set_option linter.all false
set_option maxRecDepth 100000
set_option maxHeartbeats 4000000
/-! Lp: attributes as targets, is of bools, index of ints. Knows no program. -/
namespace Lb
open PySem PySem.Spec PyProof.Rows L2
/-- o.f as a target -/
def gFld (K : PySem.W.Frag) (ta : TE) (f : Str) : TG := fun v σ H R => ta σ H fun x H1 => FldS K x f v H1 fun H2 => R σ H2
section
variable {X : Cx} {o : Expr} {f : Str} {ta : TE} {pos : Pos}
theorem pg_fld (ha : PE X o ta) : PG X (.Attribute o f pos) (gFld X.K ta f) := by
  refine ⟨fun pins s σ H v u Q I r h => ?_⟩
  refine PySem.W.kas_attr (thn (ha.run pins s σ H _ I h) fun ov s1 ⟨x, H1, I1, rx, a, C, dx, fs, ex, ea, c, n, l, q⟩ => ?_)
  subst ex
  obtain rfl : ov = Value.ref a := rx
  exact setattr_ok I1 ea c n l r fun s2 I2 => ⟨σ, _, I2, q⟩
end
section
variable {H : Hp} {Q : VK} {σ : L2.St}
theorem i_gfld {K : PySem.W.Frag} {ta : TE} {f : Str} {v : V} {R : L2.St → Hp → Prop} (q : ta σ H fun x H1 => FldS K x f v H1 fun H2 => R σ H2) : gFld K ta f v σ H R := q
theorem i_glst {K : PySem.W.Frag} {n : Nat} {t : TGs} {a : Addr} {xs : List V} {R : L2.St → Hp → Prop} (h : H a = some (.lst xs)) (hn : xs.length = n) (q : t xs σ H R) : gLst K n t (.ref a) σ H R := ⟨a, xs, rfl, SqL.of h, hn, q⟩
theorem i_isB {a b : Bool} (q : Q (.bl (decide (a = b))) H) : rIsB (.bl a) (.bl b) H Q := ⟨a, b, rfl, rfl, q⟩
theorem i_notB {a b : Bool} (q : Q (.bl (!decide (a = b))) H) : rNotB (.bl a) (.bl b) H Q := ⟨a, b, rfl, rfl, q⟩
theorem i_bm {K : PySem.W.Frag} {T : String} {r : V → List V → Hp → VK → Prop} {to : TE} {t : TA} (q : to σ H fun x H1 => tyV K T x H1 ∧ t σ H1 fun xs H2 => r x xs H2 Q) : tBM K T r to t σ H Q := q
theorem eqV_int {a b : Int} : eqV (.int a) (.int b) = decide (a = b) := by
  by_cases h : a = b <;> simp [eqV, h]
/-- xs.index(y), ints -/
theorem i_indexI {K : PySem.W.Frag} {p : Addr} {ns : List Int} {y : Int} {j : Nat} (h : H p = some (.lst (ns.map V.int))) (hj : ns[j]? = some y) (hn : ∀ m, m < j → ns[m]? ≠ some y) (q : Q (.int (j : Nat)) H) : rIndex K (.ref p) [.int y] H Q := by
  refine ⟨p, ns.map V.int, .int y, j, .int y, rfl, rfl, SqL.of h, rfl, ?_, ?_, ?_, fun m z' hm hz => ?_, q⟩
  · rw [List.all_eq_true]
    intro v hv
    obtain ⟨i, _, rfl⟩ := List.mem_map.mp hv
    rfl
  · rw [List.getElem?_map, hj]
    rfl
  · rw [eqV_int]
    exact decide_eq_true rfl
  · rw [List.getElem?_map] at hz
    cases e : ns[m]? with
    | none => rw [e] at hz; cases hz
    | some u =>
      rw [e] at hz
      rw [← Option.some.inj hz]
      show eqV (.int u) (.int y) = false
      rw [eqV_int]
      exact decide_eq_false fun q => hn m hm (by rw [e, q])
end
end Lb
set_option Elab.async false
set_option linter.all false
set_option maxRecDepth 100000
set_option maxHeartbeats 4000000
/-! Lt: constant tuples of the program, index of a tuple, split, extend by a tuple. Knows no program. -/
namespace Lb
open PySem PySem.Spec PyProof.Rows L2
def allB : List V → List Value → Bool
  | [], [] => true
  | x :: xs, u :: us => He.relB x u && allB xs us
  | _, _ => false
theorem allB_ok : ∀ {xs : List V} {us : List Value}, allB xs us = true → Vals xs us
  | [], [], _ => .nil
  | x :: xs, u :: us, h => by
    obtain ⟨h1, h2⟩ := He.ba (show (He.relB x u && allB xs us) = true from h)
    exact .cons (He.relB_ok h1) (allB_ok h2)
  | [], _ :: _, h => by cases h
  | _ :: _, [], h => by cases h
/-- the global x is a tuple of these -/
def tupB (K : PySem.W.Frag) (x : Str) (xs : List V) : Bool := match K.lookup (He.ga K x) with
  | some ⟨.type c, none, .seq its _, _⟩ => decide (c = "tuple") && (decide (its.size ≤ 1000) && allB xs its.toList)
  | _ => false
/-- what a constant tuple is -/
structure KT (K : PySem.W.Frag) (a : Addr) (xs : List V) : Prop where
  sq : ∀ H, SqT K H a xs
  ty : ∀ H, tyV K "tuple" (.ref a) H
theorem tupB_ok {K : PySem.W.Frag} {x : Str} {xs : List V} (h : tupB K x xs = true) : KT K (He.ga K x) xs := by
  unfold tupB at h
  cases q : K.lookup (He.ga K x) with
  | none =>
    rw [q] at h
    cases h
  | some o =>
    obtain ⟨oc, od, dt, osl⟩ := o
    rw [q] at h
    cases oc with
    | type c =>
      cases od with
      | none =>
        cases dt with
        | seq its n =>
          obtain ⟨h1, h2⟩ := He.ba h
          obtain ⟨h3, h4⟩ := He.ba h2
          have e : c = "tuple" := of_decide_eq_true h1
          subst e
          exact ⟨fun H => .inr ⟨_, its, n, q, rfl, rfl, sz (Nat.le_trans (of_decide_eq_true h3) (by decide)), allB_ok h4⟩, fun H => .inr (.inl ⟨rfl, _, q, rfl, rfl⟩)⟩
        | _ => cases h
      | some d => cases dt <;> cases h
    | _ => cases od <;> cases dt <;> cases h
def rLenK (K : PySem.W.Frag) : List V → Hp → VK → Prop := fun xs H Q => ∃ p ys, xs = [.ref p] ∧ (SqL K H p ys ∨ SqT K H p ys) ∧ Q (.int ys.length) H
def rTixA (K : PySem.W.Frag) : V → List V → Hp → VK → Prop := fun x xs H Q => ∃ p, ∃ ys : List Str, ∃ z j, x = .ref p ∧ xs = [.str z] ∧ SqT K H p (ys.map V.str) ∧ ys[j]? = some z ∧ (∀ m, m < j → ys[m]? ≠ some z) ∧ Q (.int (j : Nat)) H
def rSplitA : V → List V → Hp → VK → Prop := fun x xs H Q => ∃ a b, x = .str a ∧ xs = [.str b] ∧ (b.length == 0) = false ∧ a.length + 2 ≤ sizeLine ∧ ∀ p, H p = none → Q (.ref p) (upd H p (.lst ((Txt.split a b).map V.str)))
def rExtT : V → List V → Hp → VK → Prop := fun x vs H Q => ∃ l b xs ys, x = .ref l ∧ vs = [.ref b] ∧ H l = some (.lst xs) ∧ H b = some (.tup ys) ∧ xs.length + ys.length ≤ sizeLine ∧ Q .non (upd H l (.lst (xs ++ ys)))
theorem ext_tup (l : Addr) (items : Array Value) (n : Nat) (b : Addr) (items2 : Array Value) (n2 : Nat) (dd : Option Addr) (sl : Array (Option Value)) (hs0 : ¬(!items.isEmpty && Builtin.List.listTooLong (items.size + items2.size)) = true) (hs1 : items.size ≤ sizeLine) (hs2 : items.size + items2.size ≤ sizeLine + 1) :
    Meets (Builtin.«list.extend» ⟨[.ref l, .ref b], []⟩) (fun _ R s => s.heap.get? l = some { cls := .type "list", dict := none, data := .seq items n, slots := #[] } ∧ s.heap.get? b = some { cls := .type "tuple", dict := dd, data := .seq items2 n2, slots := sl } ∧ R (.ok (.ret Value.none)) { s with heap := s.heap.update l (Obj.mapSeq fun x => x ++ items2), toks := s.toks }) :=
  .of_wp fun prog w A R s h => by
    obtain ⟨hp, g, d, tk, os⟩ := s; obtain ⟨hl, hb, h⟩ := h; have f1 := AutoSeq1.idx_int; have f2 := AutoSeq1.sub_tuple_tuple; have f3 := AutoSeq1.sub_list_list; have f4 := AutoSeq1.sub_tuple_list; have f5 := AutoSeq1.sub_list_tuple;
    have hz' : (items ++ items2).size ≤ sizeLine + 1 := by rw [Array.size_append]; exact hs2
    wp_walk using (wpAny_updateSeq hl rfl (hz := hs1) (_hz' := hz')), AutoSeq1.wpAny_loadPart' hl, AutoSeq1.wpAny_loadPart' hb; exact ⟨_, rfl, h⟩
section
variable {X : Cx} {H : Hp} {Q : VK} {σ : L2.St}
theorem call_lenK : CallR X (.builtin "len") (rLenK X.K) := call_len_seq
theorem mt_tixA : MtR X "tuple.index" (rTixA X.K) := mt_tup_index
theorem mt_splitA : MtR X "str.split" rSplitA := mt_split
theorem mt_extT : MtR X "list.extend" rExtT := by
  intro pins s σ H x vs v us Q I rx rv h
  obtain ⟨l, b, xs, zs, rfl, rfl, hH, hB, hz, q⟩ := h
  cases rx
  obtain ⟨u, rfl, ru⟩ := rv.one
  cases ru
  obtain ⟨z, its, n, r, hl, e⟩ := I.lstM hH
  obtain ⟨its2, r2, ⟨⟨cls, dd, dt, sl⟩, ho, hc, n2, hd⟩, hz2⟩ := I.tuple (SqT.of (K := X.K) hB)
  simp only at hc hd
  subst hc
  subst hd
  have hl2 := r2.length
  have hsz : its.toArray.size + its2.toArray.size ≤ sizeLine := by rw [List.size_toArray, List.size_toArray]; omega
  have hlong : ¬ (!its.toArray.isEmpty && Builtin.List.listTooLong (its.toArray.size + its2.toArray.size)) = true := by
    rw [notLongL hsz, Bool.and_false]
    exact Bool.false_ne_true
  refine call_meets F.slot_list_extend ⟨_, e, rfl⟩ F.entry_list_extend (F.args_list_extend_2 _ _)
    (ext_tup l its.toArray n b its2.toArray n2 dd sl hlong (by rw [List.size_toArray]; omega) (by omega)) ⟨e, ho, ?_⟩
  refine ⟨.non, _, I.lset (its' := its ++ its2) hH e (by simp) (r.append r2) ?_, rfl, q⟩
  rw [List.length_append]
  omega
end
theorem Up1.mid {p : Addr} {o o' : HO} {ls ls' : List (Addr × HO)} (h : Up1 p o o' ls ls') (m : HO) : ∃ l1, Up1 p o m ls l1 ∧ Up1 p m o' l1 ls' := by
  induction h with
  | here => exact ⟨_, .here, .here⟩
  | there _ ih =>
    obtain ⟨l1, h1, h2⟩ := ih
    exact ⟨_, .there h1, .there h2⟩
theorem Up1.mem' {p : Addr} {o o' : HO} {ls ls' : List (Addr × HO)} (h : Up1 p o o' ls ls') : (p, o') ∈ ls' := by
  induction h with
  | here => exact List.mem_cons_self
  | there _ ih => exact List.mem_cons_of_mem _ ih
theorem Up1.comp {p : Addr} {o o' o'' : HO} {ls l1 ls' : List (Addr × HO)} (h : Up1 p o o' ls l1) (k : Up1 p o' o'' l1 ls') (nd : (l1.map Prod.fst).Nodup) : Up1 p o o'' ls ls' := by
  induction h generalizing ls' with
  | here =>
    cases k with
    | here => exact .here
    | there k => exact ((List.nodup_cons.mp nd).1 (List.mem_map_of_mem (f := Prod.fst) k.mem)).elim
  | there h ih =>
    cases k with
    | here => exact ((List.nodup_cons.mp nd).1 (List.mem_map_of_mem (f := Prod.fst) h.mem')).elim
    | there k => exact .there (ih k (List.nodup_cons.mp nd).2)
theorem Up1.eq {p : Addr} {o : HO} {ls ls' : List (Addr × HO)} (h : Up1 p o o ls ls') : ls' = ls := by
  induction h with
  | here => rfl
  | there _ ih => rw [ih]
section
variable {H : Hp} {Q : VK} {σ : L2.St} {K : PySem.W.Frag}
theorem i_ixK {p : Addr} {xs : List V} {i : Int} {v : V} (h : KT K p xs) (e : atI xs i = some v) (q : Q v H) : rIxT K (.ref p) (.int i) H Q := ⟨p, xs, i, v, rfl, rfl, h.sq H, e, q⟩
theorem i_lenK {p : Addr} {xs : List V} {n : Int} (h : KT K p xs) (e : (xs.length : Int) = n) (q : Q (.int n) H) : rLenK K [.ref p] H Q := by
  subst e
  exact ⟨p, xs, rfl, .inr (h.sq H), q⟩
theorem i_tixK {p : Addr} {ys : List Str} {z : Str} {j : Nat} (h : KT K p (ys.map V.str)) (h1 : ys[j]? = some z) (h2 : ∀ m, m < j → ys[m]? ≠ some z) (q : Q (.int (j : Nat)) H) : rTixA K (.ref p) [.str z] H Q := ⟨p, ys, z, j, rfl, rfl, h.sq H, h1, h2, q⟩
theorem i_split {a b : Str} {ys : List Str} (e : Txt.split a b = ys) (h1 : (b.length == 0) = false) (h2 : a.length + 2 ≤ 100000) (q : NewO (.lst (ys.map V.str)) H Q) : rSplitA (.str a) [.str b] H Q := by
  subst e
  exact ⟨a, b, rfl, rfl, h1, sz h2, q⟩
theorem i_extT {a c l b : Addr} {B : Hp} {ls ls' : List (Addr × HO)} {xs ys : List V} (O : Own a c B H ls) (hb : H b = some (.tup ys)) (h : Up1 l (.lst xs) (.lst (xs ++ ys)) ls ls') (hz : xs.length + ys.length ≤ sizeLine) (k : ∀ H', Own a c B H' ls' → Q .non H') : rExtT (.ref l) [.ref b] H Q :=
  ⟨l, b, xs, ys, rfl, rfl, O.mem h.mem, hb, hz, k _ (O.set h)⟩
theorem i_extO {a c l b : Addr} {B : Hp} {ls ls' : List (Addr × HO)} {xs ys : List V} (O : Own a c B H ls) (hb : H b = some (.lst ys)) (h : Up1 l (.lst xs) (.lst (xs ++ ys)) ls ls') (hz : xs.length + ys.length ≤ sizeLine) (k : ∀ H', Own a c B H' ls' → Q .non H') : rExtA (.ref l) [.ref b] H Q := by
  simp only [rExtA, O.mem h.mem, hb]
  exact ⟨hz, k _ (O.set h)⟩
theorem i_tupLN {p : Addr} {xs : List V} (h : H p = some (.lst xs)) (k : NewO (.tup xs) H Q) : rTupA [.ref p] H Q := i_tupL h k
theorem i_tyK {p : Addr} {xs : List V} {R : Prop} (h : KT K p xs) (q : R) : tyV K "tuple" (.ref p) H ∧ R := ⟨h.ty H, q⟩
theorem i_tyS {z : Str} {R : Prop} (q : R) : tyV K "str" (.str z) H ∧ R := ⟨rfl, q⟩
end
theorem Own.skipP {a c : Addr} {B H : Hp} {x : Addr × HO} {l l0 l1 : List (Addr × HO)} (O : Own a c B H (x :: l)) (h : Pre l0 l l1) : Own a c B H (x :: l0) := by
  have e := h.eq
  subst e
  have O2 := O.perm (ls' := l1 ++ x :: l0) (by
    refine (List.Perm.cons x (List.Perm.refl _)).trans ?_
    exact (List.perm_middle).symm)
  exact O2.drop
theorem i_inO {K : PySem.W.Frag} {H : Hp} {Q : VK} {p : Addr} {x : V} {xs : List V} (h : H p = some (.tup xs)) (f : flatV x = true) (g : xs.all flatV = true) (q : Q (.bl (inV x xs)) H) : rIn K false x (.ref p) H Q := by
  refine ⟨p, _, rfl, .inr (SqT.of h), f, g, ?_⟩
  rw [if_neg (by simp)]
  exact q
inductive Pick (y : Addr × HO) : List (Addr × HO) → List (Addr × HO) → Prop
  | here {r : List (Addr × HO)} : Pick y (y :: r) r
  | there {x : Addr × HO} {r r' : List (Addr × HO)} (h : Pick y r r') : Pick y (x :: r) (x :: r')
theorem Pick.perm1 {y : Addr × HO} {l r : List (Addr × HO)} (h : Pick y l r) : l.Perm (y :: r) := by
  induction h with
  | here => exact .refl _
  | there _ ih => exact (ih.cons _).trans (.swap ..)
theorem Pick.perm {y : Addr × HO} {l r ys : List (Addr × HO)} (h : Pick y l r) (k : r.Perm ys) : l.Perm (y :: ys) := h.perm1.trans (k.cons _)
end Lb
set_option Elab.async false
set_option linter.all false
set_option maxRecDepth 100000
set_option maxHeartbeats 4000000
/-! Lx: own exceptions with a field, made by an __init__ that calls its base's; raised, caught, looked at. Knows no program. -/
namespace Lb
open PySem PySem.Spec PyProof.Rows L2
/-- the class object, as an own class over ValueError -/
def oexB (K : PySem.W.Frag) (C : Addr) : Bool := match K.lookup C with
  | some ⟨.type "type", _, .cls cd, sl⟩ => (match cd.mro, sl.toList with
    | .ref C' :: bm, [_, _, _, _, some (.builtin n), _] => C' == C && n == "ValueError.__new__" && !cd.hasDel && cd.hasDict && PySem.HandSPX.refsVE bm
    | _, _ => false)
  | _ => false
theorem oexB_ok {K : PySem.W.Frag} {C : Addr} (q : oexB K C = true) : ∃ nm q N bs bm sn sub ab col dd k0 k1 k2 k3 k5, K.lookup C = some (excClassObj nm q C N bs bm true sn sub ab col dd k0 k1 k2 k3 k5 "ValueError.__new__") ∧ PySem.HandSPX.refsVE bm = true := by
  unfold oexB at q
  split at q
  · rename_i dd cd sl ho
    split at q
    · rename_i C' bm k0 k1 k2 k3 n k5 hm hs
      simp only [Bool.and_eq_true, beq_iff_eq, Bool.not_eq_true'] at q
      obtain ⟨⟨⟨⟨rfl, rfl⟩, hdel⟩, hdi⟩, ht⟩ := q
      obtain ⟨nm, bs, mro, ns, qn, hd, sn, sub, ab, col, del⟩ := cd
      dsimp only at hm hdel hdi
      subst hm hdel hdi
      have hsl : sl = #[k0, k1, k2, k3, some (.builtin "ValueError.__new__"), k5] := by
        obtain ⟨l⟩ := sl
        simp only at hs
        rw [hs]
      subst hsl
      exact ⟨nm, qn, ns, bs, bm, sn, sub, ab, col, dd, k0, k1, k2, k3, k5, ho, ht⟩
    · cases q
  · cases q
/-- C an own exception class, its __init__ (at fI) storing f, B its base among the own classes -/
structure EC (K : PySem.W.Frag) (C B fI : Addr) (f : Str) : Prop where
  oex : OexC K C
  xf : XfC K C
  no : PySem.W.findIn K (.ref C) f = some none
  iC : PySem.W.findIn K (.ref C) "__init__" = some (some (.ref fI))
  tI : PySem.W.typeIn K (.ref fI) = some (.type "function")
  ha : PySem.W.findIn K (.ref C) "__class__" = some (some (.builtin "object.__class__"))
  hn : PySem.W.specialIn K (.builtin "object.__class__") "__get__" = some (some (.builtin "getset_descriptor.__get__"))
  ht : PySem.W.takesIn K (.builtin "object.__class__") = some true
  hm : PySem.W.mroIn K C (.type "object") = some true
  hc : (PySem.W.clsIn K C).isSome = true
  ki : PySem.W.kitOne K (.ref C) (.ref B) = some true
  em : PySem.W.exmOne K (.ref C) (.ref C) = some true
  rd : PySem.W.readsIn K B (.type "type") = true
  ga : PySem.W.specialIn K (.ref B) "__getattribute__" = some (some (.builtin "type.__getattribute__"))
  bi : PySem.W.findCls K (.ref B) (.type "type") "__init__" = some (.val (.builtin "ValueError.__init__"))
def ecB (K : PySem.W.Frag) (C B fI : Addr) (f : Str) : Bool :=
  oexB K C && (decide (PySem.W.findIn K (.ref C) "__setattr__" = some (some (.builtin "object.__setattr__"))) && (decide (PySem.W.subIn K (.ref C) (.type "BaseException") = some true) && (decide (PySem.W.typeIn K (.ref C) = some (.type "type")) && (PySem.W.keepIn K (.ref C) &&
  (xfB K C && (decide (PySem.W.findIn K (.ref C) f = some none) && (decide (PySem.W.findIn K (.ref C) "__init__" = some (some (.ref fI))) && (decide (PySem.W.typeIn K (.ref fI) = some (.type "function")) &&
  (decide (PySem.W.findIn K (.ref C) "__class__" = some (some (.builtin "object.__class__"))) && (decide (PySem.W.specialIn K (.builtin "object.__class__") "__get__" = some (some (.builtin "getset_descriptor.__get__"))) && (decide (PySem.W.takesIn K (.builtin "object.__class__") = some true) &&
  (decide (PySem.W.mroIn K C (.type "object") = some true) && ((PySem.W.clsIn K C).isSome && (decide (PySem.W.kitOne K (.ref C) (.ref B) = some true) && (decide (PySem.W.exmOne K (.ref C) (.ref C) = some true) &&
  (PySem.W.readsIn K B (.type "type") && (decide (PySem.W.specialIn K (.ref B) "__getattribute__" = some (some (.builtin "type.__getattribute__"))) && (match PySem.W.findCls K (.ref B) (.type "type") "__init__" with
    | some (.val (.builtin n)) => decide (n = "ValueError.__init__")
    | _ => false))))))))))))))))))
theorem ecB_ok {K : PySem.W.Frag} {C B fI : Addr} {f : Str} (h : ecB K C B fI f = true) : EC K C B fI f := by
  unfold ecB at h
  obtain ⟨a1, h⟩ := He.ba h
  obtain ⟨a2, h⟩ := He.ba h
  obtain ⟨a3, h⟩ := He.ba h
  obtain ⟨a4, h⟩ := He.ba h
  obtain ⟨a5, h⟩ := He.ba h
  obtain ⟨a6, h⟩ := He.ba h
  obtain ⟨a7, h⟩ := He.ba h
  obtain ⟨a8, h⟩ := He.ba h
  obtain ⟨a9, h⟩ := He.ba h
  obtain ⟨b1, h⟩ := He.ba h
  obtain ⟨b2, h⟩ := He.ba h
  obtain ⟨b3, h⟩ := He.ba h
  obtain ⟨b4, h⟩ := He.ba h
  obtain ⟨b5, h⟩ := He.ba h
  obtain ⟨b6, h⟩ := He.ba h
  obtain ⟨b7, h⟩ := He.ba h
  obtain ⟨b8, h⟩ := He.ba h
  obtain ⟨b9, h⟩ := He.ba h
  refine ⟨⟨oexB_ok a1, of_decide_eq_true a2, of_decide_eq_true a3, of_decide_eq_true a4, a5⟩, xfB_ok a6, of_decide_eq_true a7, of_decide_eq_true a8, of_decide_eq_true a9, of_decide_eq_true b1, of_decide_eq_true b2, of_decide_eq_true b3, of_decide_eq_true b4, b5, of_decide_eq_true b6, of_decide_eq_true b7, b8, of_decide_eq_true b9, ?_⟩
  split at h
  · rename_i n e
    rw [e, of_decide_eq_true h]
  · cases h
/-! ### the base's __init__, called by the base's name -/
section
variable {X : Cx} {o e : Expr} {es : List Expr} {to te : TE} {ta : TA} {f x : Str} {p p' p1 p2 pos : Pos} {C B fI : Addr}
theorem pe_exinit {pl : Sem Bool} (T : EC X.K C B fI f) (hg : Gl X x) (hm : X.mg x = some (.ref B)) (ha : PA X (e :: es) ta) (hdb : (x == ("__debug__" : Str)) = false := by decide)
    (hc : eval (.Call (.Attribute (.Name x p1) "__init__" p2) (e :: es) [] pos) X.env = (do
      let ov ← eval (.Name x p1) X.env
      standAt p2.atName
      let (f, first) ← holding [ov] (getMethod ov "__init__" pl)
      callWith pos f first (backTo pos (starEach (e :: es) X.env)) (backToKw pos (keywordEach [] X.env))) := by rfl)
    (he : starEach (e :: es) X.env = (false, eval e X.env) :: starEach es X.env := by rfl) (hpl : (backTo pos (starEach es X.env)).any (·.1) = false := by rfl) :
    PE X (.Call (.Attribute (.Name x p1) "__init__" p2) (e :: es) [] pos) (tVeI X.K ta) := by
  refine ⟨fun pins s σ H Q I h => ?_⟩
  refine PySem.W.methodCall_KW (ld_glob I hg hm ?_ hdb) hc
  refine PySem.W.method_cls I.kIn T.ga ?_
  refine PySem.W.cls_value I.kIn T.rd T.bi (by decide +kernel) ?_
  show wpAny _ _ (callWith pos (Value.builtin "ValueError.__init__") [] (backTo pos (starEach (e :: es) X.env)) []) _ _ _
  refine PyProof.Rows.callWith_method1 (thn (ha.run pos pins _ σ H _ (I.tok _) h) fun us s1 ⟨vs, H1, I1, r1, a, C, ws, ev, hl, T, ea, q⟩ => ?_) he hpl
  subst ev
  cases r1 with
  | @cons _ u0 _ ur ra rw' =>
    obtain rfl : u0 = Value.ref a := ra
    have hlen : ur.length ≤ sizeLine := by
      rw [← Paired.length rw', sizeLine_eq]
      omega
    exact oinit_ok T I1 ea hlen fun s' J => ⟨.non, H1, J, rfl, q⟩
end
/-! ### making and raising -/
/-- what such an __init__ leaves -/
def spExi (K : PySem.W.Frag) (C B fI : Addr) (f : Str) : Sp := fun vs H Q _ => ∃ (a : Addr) (v : V), vs = [.ref a, v] ∧ EC K C B fI f ∧ H a = some (exo a C none) ∧ ∀ dx, H dx = none → dx ≠ a → Q .non (upd (upd H dx (exd dx [(f, v)])) a (exo a C (some dx)))
theorem len_exi {K : PySem.W.Frag} {C B fI : Addr} {f : Str} {vs : List V} {H : Hp} {Q : VK} {E : XK} (h : spExi K C B fI f vs H Q E) : vs.length = 2 := by
  obtain ⟨a, v, rfl, _⟩ := h
  rfl
def t_exi (K : PySem.W.Frag) (f m : Str) : TS := tSeq (tDrop (tVeI K (tCons (tVar 0) (tCons (tC (.str m)) tNil)))) (tOst K f (tVar 0) (tVar 1))
theorem pure_exi {K : PySem.W.Frag} {C B fI : Addr} {f m n1 n2 : Str} {vs : List V} {H : Hp} {Q : VK} {E : XK} (h : spExi K C B fI f vs H Q E) : t_exi K f m { nx := fun _ H' => Q .non H', rt := Q } (L2.start [n1, n2] vs) H := by
  obtain ⟨a, v, rfl, T, ha, k⟩ := h
  show tSeq (tDrop (tVeI K (tCons (tVar 0) (tCons (tC (.str m)) tNil)))) (tOst K f (tVar 0) (tVar 1)) { nx := fun _ H' => Q .non H', rt := Q } [some (.ref a), some v] H
  refine i_seq (i_drop ?_)
  refine i_cons (i_var rfl (i_cons (i_c (i_nil ?_))))
  refine ⟨a, C, [.str m], rfl, (by simp), T.oex, ha, ?_⟩
  refine i_var (i := 1) rfl (i_var (i := 0) rfl ?_)
  exact ⟨a, C, rfl, T.oex, T.no, .inl ⟨ha, k⟩⟩
/-- a class of exceptions that may be made here -/
structure CalE (P : Program) (w : World) (K : PySem.W.Frag) (mg : Str → Option Value) (base : Heap) (x : Str) (C B fI : Addr) (f : Str) (k : Nat) (ps : List Str) : Prop where
  ex : ∃ fd : FuncData, EC K C B fI f ∧ mg x = some (.ref C) ∧ Binds K fd ps [] ∧ FnOk P w K mg base CX0 k fI fd ps (spExi K C B fI f)
/-- what the making of C(v) asks -/
def MkS (K : PySem.W.Frag) (C B fI : Addr) (f : Str) (v : V) (H1 : Hp) (Q : XK) : Prop := [v].length ≤ 1000 ∧ ∀ a, H1 a = none → spExi K C B fI f (.ref a :: ([v] ++ [])) (upd H1 a (exo a C none))
  (fun v' H2 => v' = .non ∧ ∃ (d : Addr) (fs : List (Str × V)), H2 a = some (exo a C (some d)) ∧ H2 d = some (exd d fs) ∧ H1 d = none ∧ Q (.ref C) (some d) (upd (del H2 a) d (.xd fs))) (fun _ _ _ => False)
def tMkX (K : PySem.W.Frag) (C B fI : Addr) (f : Str) (te : TE) : L2.St → Hp → XK → Prop := fun σ H Q => te σ H fun v H1 => MkS K C B fI f v H1 Q
def tRaiseX (K : PySem.W.Frag) (C B fI : Addr) (f : Str) (W : WX) (te : TE) : TS := fun _ σ H => te σ H fun v H1 => MkS K C B fI f v H1 fun cls d H' => W cls d σ H'
theorem i_mks {K : PySem.W.Frag} {C B fI : Addr} {f : Str} {v : V} {H1 : Hp} {Q : XK} (T : EC K C B fI f) (k : ∀ d, H1 d = none → Q (.ref C) (some d) (upd H1 d (.xd [(f, v)]))) : MkS K C B fI f v H1 Q := by
  refine ⟨by simp, fun a ha => ⟨a, v, rfl, T, upd_same, fun dx hdx hne => ⟨rfl, dx, [(f, v)], upd_same, ?_, ?_, ?_⟩⟩⟩
  · rw [upd_ne hne, upd_same]
  · rw [upd_ne hne] at hdx
    exact hdx
  · have hd1 : H1 dx = none := by
      rw [upd_ne hne] at hdx
      exact hdx
    have e : upd (del (upd (upd (upd H1 a (exo a C none)) dx (exd dx [(f, v)])) a (exo a C (some dx))) a) dx (.xd [(f, v)]) = upd H1 dx (.xd [(f, v)]) := by
      funext b
      by_cases h1 : b = dx
      · subst h1
        rw [upd_same, upd_same]
      · rw [upd_ne h1, upd_ne h1]
        by_cases h2 : b = a
        · subst h2
          rw [del_same, ha]
        · rw [del_ne h2, upd_ne h2, upd_ne h1, upd_ne h2]
    rw [e]
    exact k dx hd1
section
variable {X : Cx} {e : Expr} {te : TE} {f x : Str} {p pos pos2 : Pos} {C B fI : Addr} {k : Nat} {ps : List Str} {W : WX}
theorem pmk_x (c : CalE X.prog X.w X.K X.mg X.base x C B fI f k ps) (hr : Room (k + 1) X.A) (hg : Gl X x) (he : PE X e te) (hdb : (x == ("__debug__" : Str)) = false := by decide)
    (hst : starEach [e] X.env = (false, eval e X.env) :: starEach [] X.env := by rfl) (hpl : (backTo pos (starEach [] X.env)).any (·.1) = false := by rfl) :
    PMk X (.Call (.Name x p) [e] [] pos) (tMkX X.K C B fI f te) := by
  obtain ⟨fd, T, hm, hb, F⟩ := c.ex
  exact pmk_oex (X := X) (x := x) (e := e) (es := []) (p := p) (pos := pos) (dvs := []) (ds := []) T.oex T.iC T.tI F hr hb .nil pass0 hg hm (pa_cons he pa_nil hst) hdb hst hpl
theorem ps_raiseX (hc : X.calm = true) (tk : Takes X W) (c : CalE X.prog X.w X.K X.mg X.base x C B fI f k ps) (hr : Room (k + 1) X.A) (hg : Gl X x) (he : PE X e te) (hdb : (x == ("__debug__" : Str)) = false := by decide)
    (hst : starEach [e] X.env = (false, eval e X.env) :: starEach [] X.env := by rfl) (hpl : (backTo pos (starEach [] X.env)).any (·.1) = false := by rfl) :
    PS X (.Raise (some (.Call (.Name x p) [e] [] pos)) none pos2) (tRaiseX X.K C B fI f W te) := ps_raise hc tk (pmk_x c hr hg he hdb hst hpl)
end
/-! ### calls that may raise -/
structure CalX (P : Program) (w : World) (K : PySem.W.Frag) (mg : Str → Option Value) (base : Heap) (x : Str) (k : Nat) (ps : List Str) (sp : Sp) : Prop where
  ex : ∃ (f : Addr) (fd : FuncData), mg x = some (.ref f) ∧ PySem.W.keepIn K (.ref f) = true ∧ Binds K fd ps [] ∧ FnOk P w K mg base (L2.CX P w) k f fd ps sp
structure CalMX (P : Program) (w : World) (K : PySem.W.Frag) (mg : Str → Option Value) (base : Heap) (C : Addr) (m : Str) (k : Nat) (ps : List Str) (sp : Sp) : Prop where
  ex : ∃ (f : Addr) (fd : FuncData), Cls K C ∧ Meth K C m f ∧ Binds K fd ps [] ∧ FnOk P w K mg base (L2.CX P w) k f fd ps sp
def tMethS (C : Addr) (m : Str) (sp : Sp) (E : L2.St → XK) (to : TE) (t : TA) : TE := fun σ H Q => to σ H fun x H1 => ∃ a dx fs, x = .ref a ∧ H1 a = some (.ins C dx fs) ∧ fs.lookup m = none ∧ t σ H1 fun vs H2 => sp (x :: vs) H2 Q (E σ)
section
variable {X : Cx} {o e : Expr} {es : List Expr} {to te : TE} {t : TA} {m x : Str} {p apos pos : Pos} {C : Addr} {k : Nat} {ps : List Str} {sp : Sp} {W : WX}
theorem pe_calX (c : CalX X.prog X.w X.K X.mg X.base x k ps sp) (hr : Room k X.A) (hg : Gl X x) (tk : Takes X W) (ha : PA X (e :: es) t) (hdb : (x == ("__debug__" : Str)) = false := by decide)
    (he : starEach (e :: es) X.env = (false, eval e X.env) :: starEach es X.env := by rfl) (hpl : (backTo pos (starEach es X.env)).any (·.1) = false := by rfl) : PE X (.Call (.Name x p) (e :: es) [] pos) (tCallS sp (WE W) t) := by
  obtain ⟨f, fd, hm, hk, hb, F⟩ := c.ex
  exact pe_callS F hr hg hm hk hb (fun σ => passAt tk σ) ha hdb he hpl
theorem pe_calMX {pl : Sem Bool} (he : PE X o to) (c : CalMX X.prog X.w X.K X.mg X.base C m k ps sp) (hr : Room k X.A) (tk : Takes X W) (ha : PA X (e :: es) t)
    (hst : starEach (e :: es) X.env = (false, eval e X.env) :: starEach es X.env := by rfl) (hpl : (backTo pos (starEach es X.env)).any (·.1) = false := by rfl)
    (ht : eval (.Call (.Attribute o m apos) (e :: es) [] pos) X.env = (do
      let ov ← eval o X.env
      standAt apos.atName
      let (f, first) ← holding [ov] (getMethod ov m pl)
      callWith pos f first (backTo pos (starEach (e :: es) X.env)) (backToKw pos (keywordEach [] X.env))) := by rfl) : PE X (.Call (.Attribute o m apos) (e :: es) [] pos) (tMethS C m sp (WE W) to t) := by
  obtain ⟨f, fd, hc, hm, hb, F⟩ := c.ex
  refine ⟨fun pins s σ H Q I h => ?_⟩
  refine PySem.W.methodCall_KW (pl := pl) (thn (he.run pins s σ H _ I h) fun u s1 ⟨x, H1, I1, rx, a, dx, fs, ex, ea, l, q⟩ => ?_) ht
  subst ex
  obtain rfl : u = Value.ref a := rx
  refine getmeth_ok I1 ea hc hm l ?_
  refine PySem.W.callWith_K (first := [.ref a]) (h₀ := X.base) I.ok.mod.kin hm.kp (thn (ha.run pos pins s1 σ H1 _ I1 q) fun us s2 ⟨vs, H2, I2, r, q2⟩ => ⟨I2.kIn, ?_⟩) hst hpl
  exact run_fnS (us := .ref a :: us) (vs := .ref a :: vs) F hr hb (passAt tk σ) I2 (.cons rfl r) q2
end
/-! ### in the suite -/
section
variable {X : Cx} {a C B fI : Addr} {oe : Obj} {d : Option Addr} {pn : List (Addr × Obj)} {f : Str}
def rIsX (K : PySem.W.Frag) (a : Addr) (cls : Value) (d : Option Addr) (C B fI : Addr) (f : Str) : List V → Hp → VK → Prop := fun xs H Q => cls = .ref C ∧ xs = [.ref a, .ref B] ∧ EC K C B fI f ∧ (∃ (dd : Addr) (fs : List (Str × V)), d = some dd ∧ H dd = some (.xd fs)) ∧ Q (.bl true) H
theorem call_isX {cls : Value} (hz : Zc cls d oe) (hf : ∃ vs, oe.data = .fields vs) : CallR (X.suite a ((a, oe) :: pn)) (.builtin "isinstance") (rIsX X.K a cls d C B fI f) := by
  intro pins s σ H xs us Q I r h
  obtain ⟨ec, rfl, T, ⟨dd, fs, ed, ea⟩, q⟩ := h
  subst ec ed
  cases r with
  | cons rx rr =>
    cases rr with
    | cons rt rr =>
      cases rr
      cases rx
      cases rt
      obtain ⟨hget, _⟩ := I.pin (a, oe) (List.mem_append.mpr (.inl List.mem_cons_self))
      obtain ⟨vs, hv⟩ := hf
      have hx : ObjOk X.prog X.w H s.heap dd (.xd fs) := I.hok dd _ ea
      obtain ⟨mA, hns, hr⟩ := hx
      obtain ⟨od, ho, hl⟩ := lookIn_ns hns
      have J : PySem.W.InstAt s.heap a oe C (some od) := ⟨hget, hz.1, by unfold PySem.W.notCls; rw [hv] <;> rfl, by rw [hz.2]; exact ho⟩
      exact PySem.W.kia_one (PySem.W.kitx_exc T.hc T.xf.ga T.xf.gg T.xf.exC T.ha T.hn T.ht T.hm) I.kIn J T.ki (fun z => nomatch z) fun tk => ⟨.bl true, H, I.kept (t' := tk) fun _ _ z => z, rfl, q⟩
end
/-! ### try .. except C as n -/
def tTry (K : PySem.W.Frag) (c : Value) (i : Nat) (tb : WX → TS) (ts : Addr → Value → Option Addr → TS) : TS := fun D σ H => tb (wAs K c i ts (fun _ _ _ _ => False) D) D σ H
section
variable {P : Program} {w : World} {K : PySem.W.Frag} {mg : Str → Option Value} {base : Heap} {x m f : Str} {C B fI fa : Addr} {fd : FuncData} {k : Nat} {ps : List Str} {sp : Sp}
theorem CalE.ec (c : CalE P w K mg base x C B fI f k ps) : EC K C B fI f := c.ex.choose_spec.1
theorem CalE.gm (c : CalE P w K mg base x C B fI f k ps) : mg x = some (.ref C) := c.ex.choose_spec.2.1
theorem mkCalE (T : EC K C B fI f) (g : mg x = some (.ref C)) (hb : Binds K fd ps []) (O : FnOk P w K mg base CX0 k fI fd ps (spExi K C B fI f)) : CalE P w K mg base x C B fI f k ps := ⟨⟨_, T, g, hb, O⟩⟩
theorem mkCalX {name qual : Str} {params : Arguments} {body : List Stmt} {scope : Scope} (F : FunD K name qual params body scope [] [] fa fd) (g : mg x = some (.ref fa)) (hb : Binds K fd ps []) (O : FnOk P w K mg base (L2.CX P w) k fa fd ps sp) : CalX P w K mg base x k ps sp := ⟨⟨_, _, g, F.kp, hb, O⟩⟩
theorem mkCalMX (hc : Cls K C) (hm : Meth K C m fa) (hb : Binds K fd ps []) (O : FnOk P w K mg base (L2.CX P w) k fa fd ps sp) : CalMX P w K mg base C m k ps sp := ⟨⟨_, _, hc, hm, hb, O⟩⟩
end
section
variable {K : PySem.W.Frag} {H : Hp} {Q : VK} {σ : L2.St} {D : Ends} {C B fI a dd : Addr} {f : Str}
theorem i_try {c : Value} {i : Nat} {tb : WX → TS} {ts : Addr → Value → Option Addr → TS} (q : tb (wAs K c i ts (fun _ _ _ _ => False) D) D σ H) : tTry K c i tb ts D σ H := q
theorem i_was {i : Nat} {ts : Addr → Value → Option Addr → TS} {Wo : WX} {d : Option Addr} (T : EC K C B fI f)
    (k : ∀ a, H a = none → ts a (.ref C) d { nx := fun σ' H' => D.nx (σ'.set i none) H', rt := D.rt, bk := fun σ' H' => D.bk (σ'.set i none) H', ct := fun σ' H' => D.ct (σ'.set i none) H' } (σ.set i (some (.ref a))) H) :
    WE (wAs K (.ref C) i ts Wo D) σ (.ref C) d H := ⟨true, T.em, fun _ => k, fun h => by cases h⟩
theorem i_raiseX {W : WX} {te : TE} (q : te σ H fun v H1 => MkS K C B fI f v H1 fun cls d H' => W cls d σ H') : tRaiseX K C B fI f W te D σ H := q
theorem i_callS {sp : Sp} {E : L2.St → XK} {t : TA} (q : t σ H fun vs H1 => sp vs H1 Q (E σ)) : tCallS sp E t σ H Q := q
theorem i_methS {m : Str} {sp : Sp} {E : L2.St → XK} {to : TE} {t : TA} (q : to σ H fun x H1 => ∃ a dx fs, x = .ref a ∧ H1 a = some (.ins C dx fs) ∧ fs.lookup m = none ∧ t σ H1 fun vs H2 => sp (x :: vs) H2 Q (E σ)) : tMethS C m sp E to t σ H Q := q
theorem i_txf {cls : Value} {d : Option Addr} {te : TE} (q : te σ H fun x H1 => x = .ref a ∧ cls = .ref C ∧ ∃ (dd : Addr) (fs : List (Str × V)) (v : V), d = some dd ∧ H1 dd = some (.xd fs) ∧ fs.lookup f = some v ∧ Q v H1) : tXf a cls d C f te σ H Q := q
theorem i_xf {fs : List (Str × V)} {v : V} (h : H dd = some (.xd fs)) (l : LkF f (some v) fs) (q : Q v H) : (V.ref a = .ref a ∧ Value.ref C = .ref C ∧ ∃ (dd' : Addr) (fs : List (Str × V)) (v : V), some dd = some dd' ∧ H dd' = some (.xd fs) ∧ fs.lookup f = some v ∧ Q v H) := ⟨rfl, rfl, dd, fs, v, rfl, h, l.eq, q⟩
theorem i_isX {fs : List (Str × V)} (T : EC K C B fI f) (h : H dd = some (.xd fs)) (q : Q (.bl true) H) : rIsX K a (.ref C) (some dd) C B fI f [.ref a, .ref B] H Q := ⟨rfl, rfl, T, ⟨dd, fs, rfl, h⟩, q⟩
end
/-! ### the Hook, its part of the heap with the statics -/
def obsY (n : Nat) (fa : List He.Fa) (fn : List He.DefD) (ex : PySem.W.Frag → Bool) (g : Addr → Option Obj) : He.AlD × Bool := (He.obsD fa fn (He.frG g (cStatics :: He.asD g n)), ex (He.frG g (cStatics :: He.asD g n)))
def hookY (n : Nat) (fa : List He.Fa) (fn : List He.DefD) (ex : PySem.W.Frag → Bool) : PySem.W.Hook where
  α := He.AlD × Bool
  obs := fun s => obsY n fa fn ex s.heap.get?
  val := fun _ => (He.valD fn, true)
  says := fun _ h => ∃ K : PySem.W.Frag, K.In h ∧ He.SaysD fa fn K ∧ ex K = true
  of := fun _ _ e => ⟨_, He.frG_in, congrArg (fun z : He.AlD × Bool => z.1) e, congrArg (fun z : He.AlD × Bool => z.2) e⟩
  keeps := fun _ _ _ ⟨K, hK, c⟩ k => ⟨K, PySem.W.Frag.In.keeps hK k, c⟩
theorem obsY_eq {n : Nat} {fa : List He.Fa} {fn : List He.DefD} {ex : PySem.W.Frag → Bool} {g : Addr → Option Obj} {s : Shared} (h : ∀ a, g a = s.heap.get? a) : obsY n fa fn ex g = (hookY n fa fn ex).obs s := by
  have e : g = s.heap.get? := funext h
  rw [e] <;> rfl
end Lb
set_option Elab.async false
set_option linter.all false
set_option maxRecDepth 100000
set_option maxHeartbeats 4000000
/-! Ly: data lists, ranges with a step, slices, all. Knows no program. -/
namespace Lb
open PySem PySem.Spec PyProof.Rows L2
section
variable {H : Hp}
theorem dtSnoc {vs : List V} {v : V} {ds : List PyData} {d : PyData} (h : DtAll H vs ds) (k : Dt H v d) : DtAll H (vs ++ [v]) (ds ++ [d]) := by
  induction vs generalizing ds with
  | nil =>
    cases h
    exact .cons k .nil
  | cons v vs ih =>
    cases h with
    | cons h1 h2 => exact .cons h1 (ih h2)
theorem dtLen {vs : List V} {ds : List PyData} (h : DtAll H vs ds) : vs.length = ds.length := by
  induction vs generalizing ds with
  | nil =>
    cases h
    rfl
  | cons v vs ih =>
    cases h with
    | cons h1 h2 => exact congrArg (· + 1) (ih h2)
theorem dtGet {vs : List V} {ds : List PyData} (h : DtAll H vs ds) {i : Nat} {v : V} (e : vs[i]? = some v) : ∃ d, ds[i]? = some d ∧ Dt H v d := by
  induction vs generalizing ds i with
  | nil => cases e
  | cons w vs ih =>
    cases h with
    | cons h1 h2 =>
      cases i with
      | zero =>
        cases e
        exact ⟨_, rfl, h1⟩
      | succ i => exact ih h2 e
theorem dtAt {vs : List V} {ds : List PyData} (h : DtAll H vs ds) {i : Nat} {d : PyData} (e : ds[i]? = some d) : ∃ v, vs[i]? = some v ∧ Dt H v d := by
  have hl := dtLen h
  have hi : i < vs.length := by rw [hl]; exact (List.getElem?_eq_some_iff.mp e).1
  obtain ⟨d', e', k⟩ := dtGet h (List.getElem?_eq_getElem hi)
  rw [e] at e'
  cases e'
  exact ⟨_, List.getElem?_eq_getElem hi, k⟩
theorem dtInts {vs : List V} {ws : List Int} (h : DtAll H vs (ws.map PyData.int)) : vs = ws.map V.int := by
  induction vs generalizing ws with
  | nil =>
    cases ws with
    | nil => rfl
    | cons w ws => cases h
  | cons v vs ih =>
    cases ws with
    | nil => cases h
    | cons w ws =>
      cases h with
      | cons h1 h2 =>
        cases h1
        rw [ih h2]
        rfl
theorem dtErase {vs : List V} {ds : List PyData} (h : DtAll H vs ds) (i : Nat) : DtAll H (vs.eraseIdx i) (ds.eraseIdx i) := by
  induction vs generalizing ds i with
  | nil =>
    cases h
    exact .nil
  | cons v vs ih =>
    cases h with
    | cons h1 h2 =>
      cases i with
      | zero => exact h2
      | succ i => exact .cons h1 (ih h2 i)
theorem mapGet {α β : Type} {f : α → β} {rs : List α} {i : Nat} {d : β} (h : (rs.map f)[i]? = some d) : ∃ r, rs[i]? = some r ∧ f r = d := by
  rw [List.getElem?_map] at h
  cases e : rs[i]? with
  | none =>
    rw [e] at h
    cases h
  | some r =>
    rw [e] at h
    exact ⟨r, rfl, Option.some.inj h⟩
end
section
variable {H : Hp} {Q : VK} {σ : L2.St}
theorem i_slO {a c p : Addr} {B : Hp} {ls : List (Addr × HO)} {xs ys : List V} {lo hi : Option Int} (O : Own a c B H ls) (h : H p = some (.lst xs)) (e : cutV xs lo hi = ys) (k : ∀ p H', Own a c B H' ((p, .lst ys) :: ls) → Q (.ref p) H') : rSlA (.ref p) lo hi H Q := by
  subst e
  exact i_slL h fun q hq => k q _ (O.new hq)
theorem cut_to {xs : List V} {k : Nat} (h : k ≤ xs.length) : cutV xs none (some (k : Int)) = xs.take k := by
  unfold cutV
  rw [HT.sIx_none, HT.sIx_nat, Nat.min_eq_left h]
  simp
theorem cut_from {xs : List V} {k : Nat} (h : k ≤ xs.length) : cutV xs (some (k : Int)) none = xs.drop k := by
  unfold cutV
  rw [HT.sIx_none, HT.sIx_nat, Nat.min_eq_left h]
  rw [List.take_of_length_le (by rw [List.length_drop]; omega)]
theorem cut_mid {xs : List V} {k n : Nat} (h : k ≤ xs.length) : cutV xs (some (k : Int)) (some ((k + n : Nat) : Int)) = (xs.drop k).take n := by
  unfold cutV
  rw [HT.sIx_nat, HT.sIx_nat, Nat.min_eq_left h]
  rcases Nat.le_total (k + n) xs.length with q | q
  · rw [Nat.min_eq_left q, Nat.add_sub_cancel_left]
  · rw [Nat.min_eq_right q, List.take_of_length_le (by rw [List.length_drop]; omega), List.take_of_length_le (by rw [List.length_drop]; omega)]
theorem i_rng3 {ta : TA} {R : It → Hp → Prop} (q : ta σ H fun vs H1 => ∃ (i j c : Int) (n : Nat), vs = [.int i, .int j, .int c] ∧ RgC i j c n ∧ R (Itc i c n) H1) : iRng3 ta σ H R := q
theorem i_forC {lo hi c : Int} {nx : L2.St → Hp → Prop} {rt : VK} {g : TG} {tb : TS} (n : Nat) (hr : RgC lo hi c n) (Pv : Nat → L2.St → Hp → Prop) (h0 : Pv 0 σ H)
    (hs : ∀ i σ H, i < n → Pv i σ H → g (.int (lo + (i : Nat) * c)) σ H fun σ2 H2 => tb ⟨Pv (i + 1), rt, nx, Pv (i + 1)⟩ σ2 H2) (hd : ∀ σ H, Pv n σ H → nx σ H) :
    ∃ (i j c' : Int) (n : Nat), [V.int lo, V.int hi, V.int c] = [.int i, .int j, .int c'] ∧ RgC i j c' n ∧ ∃ W : Nat → Nat → L2.St → Hp → Prop, (∃ m, W 0 m σ H) ∧ ∀ i' m σ H, W i' m σ H → ((Itc i c' n).stop i' H ∧ nx σ H) ∨ ((Itc i c' n).go i' H ∧ ∃ N : L2.St → Hp → Prop, (∀ σ' H', N σ' H' → ∃ m', m' < m ∧ W (i' + 1) m' σ' H') ∧ ∀ x H', (Itc i c' n).yld i' H x H' → g x σ H' fun σ2 H2 => tb ⟨N, rt, nx, N⟩ σ2 H2) :=
  ⟨lo, hi, c, n, rfl, hr, for_rangeC (D := ⟨nx, rt, fun _ _ => False, fun _ _ => False⟩) Pv h0 hs hd⟩
theorem i_all {K : PySem.W.Frag} {p : Addr} {bs : List Bool} (h : H p = some (.lst (bs.map V.bl))) (q : Q (.bl (bs.all id)) H) : rAll K [.ref p] H Q := ⟨p, bs, rfl, SqL.of h, q⟩
theorem i_niL {K : PySem.W.Frag} {p : Addr} {x : V} {xs : List V} (h : H p = some (.lst xs)) (f : flatV x = true) (g : xs.all flatV = true) (q : Q (.bl (!inV x xs)) H) : rIn K true x (.ref p) H Q := ⟨p, xs, rfl, .inl (SqL.of h), f, g, q⟩
end
end Lb
set_option Elab.async false
set_option linter.all false
set_option maxRecDepth 100000
set_option maxHeartbeats 4000000
/-! Lz: dicts with pairs of ints as keys, sorted. Knows no program. -/
namespace Lb
open PySem PySem.Spec PyProof.Rows L2
/-- the pair that a value names -/
def pairAt (H : Hp) (v : V) : Int × Int := match v with
  | .ref t => (match H t with
    | some (.tup [.int i, .int j]) => (i, j)
    | _ => (0, 0))
  | _ => (0, 0)
def PairV (H : Hp) (v : V) (j : Int × Int) : Prop := ∃ t, v = .ref t ∧ H t = some (.tup [.int j.1, .int j.2])
def rSortDT : List V → Hp → VK → Prop := fun vs H Q => ∃ (a : Addr) (kvs : List (List Key × V)) (ps : List (Int × Int)), vs = [.ref a] ∧ H a = some (.dT kvs) ∧ kvs.map (·.1) = ps.map (fun p => [Sum.inl p.1, Sum.inl p.2]) ∧
  ∀ (ys : List V) (p : Addr) (js : List (Int × Int)), js.Perm ps → js.Pairwise (fun x y => SrtO.lexB y x = false) → Paired (PairV H) ys js → H p = none → Q (.ref p) (upd H p (.lst ys))
theorem paired_map {α β γ : Type} {R : β → γ → Prop} (f : α → β) (g : α → γ) : ∀ (l : List α), (∀ x ∈ l, R (f x) (g x)) → Paired R (l.map f) (l.map g)
  | [], _ => .nil
  | x :: r, h => .cons (h x List.mem_cons_self) (paired_map f g r fun y hy => h y (List.mem_cons_of_mem _ hy))
section
variable {X : Cx}
theorem cr_sortedDT (hc : X.calm = true) : CallR X (.builtin "sorted") rSortDT := by
  intro pins s σ H vs us Q I r h
  obtain ⟨d, kvs, ps, rfl, hd, hps, q⟩ := h
  obtain ⟨u, rfl, rx⟩ := vals1 r
  cases rx
  obtain ⟨z, hs, ks, pr, o, es, ep, ho, hx, hdt, he, hn⟩ := (show ObjOk X.prog X.w H s.heap d (.dT kvs) from I.hok _ _ hd)
  have l1 : es.size = ks.length := size_of_entries he
  have l2 : kvs.length = ks.length := Paired.length pr
  refine Calls.call_function_entry PyProof.Rows.kind_sorted PyProof.Rows.plain_sorted PyProof.Rows.entry_sorted (PyProof.Rows.args_sorted1 _) ?_
  unfold Builtin.«sorted»
  refine wpAny_bind (m := checkCount "sorted" 1 1 _) (wpAny_pure ?_)
  refine wpAny_bind (PySem.W.kdu_collect (A := X.A.in1) (kdl_raw hs hx hdt) (I.ok.hd hc) ho (by omega) fun h' tk acc hk it => ?_)
  have ea : acc.toList = ks.map fun x => Value.ref x.2.1 := by
    have hl : acc.toList.length = ks.length := by rw [Array.length_toList, it.1]; exact l1
    apply List.ext_getElem?
    intro j
    rw [List.getElem?_map]
    cases hj : acc.toList[j]? with
    | none =>
      have h1 := List.getElem?_eq_none_iff.mp hj
      rw [List.getElem?_eq_none (by omega)]
      all_goals rfl
    | some v =>
      obtain ⟨en, hen, hv⟩ := it.2 j v (by rw [← Array.getElem?_toList]; exact hj)
      have qe := entry_at he j
      rw [hen] at qe
      cases hb : ks[j]? with
      | none =>
        rw [hb] at qe
        exact nomatch (show some en = none from qe)
      | some b =>
        rw [hb] at qe
        have e2 : en = entryOfKey (tupleKind (mixKind X.prog X.w)) b := Option.some.inj qe
        rw [hv, e2]
        all_goals rfl
  have I1 : Inv X pins σ H { s with heap := h', toks := tk } := I.kept hk
  have hz : acc.toList.length ≤ sizeLine := by rw [ea, List.length_map]; omega
  refine wpAny_bind (wpAny_newList ?_ hz)
  have hoL : (h'.push (seqObj "list" acc.toList.toArray 0)).get? h'.objs.size = some (seqObj "list" acc.toList.toArray 0) := Heap.get?_push_size _ rfl
  show wpAny _ _ _ _ _ { s with heap := h'.push (seqObj "list" acc.toList.toArray 0), toks := tk }
  -- each key is a pair
  have hpair : ∀ v ∈ acc.toList, ∃ t, v = Value.ref t ∧ ∃ i j : Int, H t = some (.tup [.int i, .int j]) := fun v hv => by
    rw [ea] at hv
    obtain ⟨x, hxm, rfl⟩ := List.mem_map.mp hv
    have key : ∀ {kvs : List (List Key × V)} {ks : List (List Key × Addr × Value)} {ps : List (Int × Int)}, L2.KT H kvs ks → kvs.map (·.1) = ps.map (fun p => [Sum.inl p.1, Sum.inl p.2]) → ∀ x ∈ ks, ∃ i j : Int, H x.2.1 = some (.tup [.int i, .int j]) := by
      intro kvs ks ps pr
      induction pr generalizing ps with
      | nil => intro _ x hx; cases hx
      | @cons p q pp qq h t ih =>
        intro hps x hx
        cases ps with
        | nil => cases hps
        | cons p0 ps0 =>
          have h1 : p.1 = [Sum.inl p0.1, Sum.inl p0.2] := (List.cons.inj hps).1
          have h2 := (List.cons.inj hps).2
          rcases List.mem_cons.mp hx with e | e
          · subst e
            refine ⟨p0.1, p0.2, ?_⟩
            rw [h.2.1, h1]
            rfl
          · exact ih h2 x e
    exact ⟨_, rfl, key pr hps x hxm⟩
  have kmap : acc.toList.map (fun v => pairAt H (backV v)) = ps := by
    rw [ea, List.map_map]
    have key : ∀ {kvs : List (List Key × V)} {ks : List (List Key × Addr × Value)} {ps : List (Int × Int)}, L2.KT H kvs ks → kvs.map (·.1) = ps.map (fun p => [Sum.inl p.1, Sum.inl p.2]) → ks.map ((fun v => pairAt H (backV v)) ∘ fun x => Value.ref x.2.1) = ps := by
      intro kvs ks ps pr
      induction pr generalizing ps with
      | nil =>
        intro hps
        cases ps with
        | nil => rfl
        | cons _ _ => cases hps
      | @cons p q pp qq h t ih =>
        intro hps
        cases ps with
        | nil => cases hps
        | cons p0 ps0 =>
          have h1 : p.1 = [Sum.inl p0.1, Sum.inl p0.2] := (List.cons.inj hps).1
          have h2 := (List.cons.inj hps).2
          rw [List.map_cons, ih h2]
          have e : H q.2.1 = some (.tup [.int p0.1, .int p0.2]) := by
            rw [h.2.1, h1]
            rfl
          show pairAt H (.ref q.2.1) :: ps0 = p0 :: ps0
          unfold pairAt
          simp only [e]
    exact key pr hps
  let k : Value → Int × Int := fun v => pairAt H (backV v)
  have hk2 : ∀ t (i j : Int), H t = some (.tup [.int i, .int j]) → k (.ref t) = (i, j) := fun t i j e => by
    show pairAt H (.ref t) = (i, j)
    unfold pairAt
    simp only [e]
  have isp : ∀ v ∈ acc.toList, Srt.IsPair (h'.push (seqObj "list" acc.toList.toArray 0)) v (k v).1 (k v).2 := fun v hv => by
    obtain ⟨t, rfl, i, j, e⟩ := hpair v hv
    rw [hk2 t i j e]
    obtain ⟨_, its2, r2, o2, ho2, hc2, n2, hd2⟩ := I1.hok _ _ e
    obtain ⟨u1, u2, rfl, ri, rj⟩ := vals2 r2
    obtain ⟨t1, rfl⟩ := ri
    obtain ⟨t2, rfl⟩ := rj
    exact ⟨t, o2, t1, t2, n2, rfl, Heap.get?_push_of_some _ ho2, hc2, hd2⟩
  refine wpAny_bind (wpAny_holding (wpAny_call_entry PyProof.Rows.slot_list_sort ⟨_, hoL, rfl⟩ PyProof.Rows.entry_list_sort
    (SrtO.list_sort_ord (ltv := fun v u => SrtO.lexB (k v) (k u)) (s := { s with heap := h'.push (seqObj "list" acc.toList.toArray 0), toks := tk }) (SrtO.swo_lex k) hoL hz (fun h2 => ?_) fun out g1 g2 => ⟨_, rfl, ?_⟩) (PyProof.Rows.args_list_sort _)))
  · refine SrtO.pairs_sortableO (k := k) (by omega) isp fun o e => ?_
    have e' : some o = some (seqObj "list" acc.toList.toArray 0) := e.symm.trans hoL
    cases e'
    intro c
    exact absurd (Value.type.inj c) (by decide)
  obtain ⟨e', he'⟩ := PyProof.Rows.sortedHeap_at (vs := acc.toList) (out := out.toArray) hoL
  have hm : ∀ u ∈ out, ∃ a, u = Value.ref a ∧ ∃ i j : Int, H a = some (.tup [.int i, .int j]) := fun u hu => hpair u (g2.perm.mem_iff.mp hu)
  have hlen : (out.map backV).length ≤ sizeLine := by
    rw [List.length_map, g2.perm.length_eq]
    exact hz
  refine wpAny_pure ⟨_, rfl, .ref h'.objs.size, upd H h'.objs.size (.lst (out.map backV)), I1.laid (t' := tk) (fun b u e => ?_) (Nat.le_refl _) ⟨hlen, out, e', vals_back (fun u hu => (hm u hu).imp fun _ z => z.1), he'⟩, rfl, ?_⟩
  · have hb : b < h'.objs.size := Heap.lt_size e
    rw [PyProof.Rows.sortedHeap_old (Nat.ne_of_lt hb) (by rw [size_push']; exact Nat.lt_succ_of_lt hb)]
    exact Heap.get?_push_of_some _ e
  · refine q (out.map backV) h'.objs.size (out.map k) ?_ ?_ ?_ (I1.hok.fresh (Nat.le_refl _))
    · rw [← kmap]
      exact g2.perm.map _
    · exact List.pairwise_map.mpr g1
    · refine paired_map backV k out fun u hu => ?_
      obtain ⟨a, rfl, i, j, e⟩ := hm u hu
      refine ⟨a, rfl, ?_⟩
      rw [hk2 a i j e]
      exact e
end
/-! ### steps -/
section
variable {H : Hp} {Q : VK} {σ : L2.St}
theorem i_dnin {ty td : TE} (q : ty σ H fun y H1 => td σ H1 fun x H2 => ∃ a o, x = .ref a ∧ DGet H2 a y o ∧ Q (.bl (!o.isSome)) H2) : tDNotIn ty td σ H Q := q
theorem i_dget2 {td ty tx : TE} (q : td σ H fun x H1 => ∃ a, x = .ref a ∧ IsD H1 a ∧ ty σ H1 fun y H2 => tx σ H2 fun z H3 => ∃ o, DGet H3 a y o ∧ Q (o.getD z) H3) : tDGet2 td ty tx σ H Q := q
theorem i_dnewT (q : NewO (.dT []) H Q) : tDNewT σ H Q := q
def pk (p : Int × Int) : List Key := [.inl p.1, .inl p.2]
theorem i_dgetT {D b : Addr} {kvs : List (List Key × V)} {i j : Int} {v : V} {R : V → Prop} (h : H D = some (.dT kvs)) (hb : H b = some (.tup [.int i, .int j])) (hv : valV kvs (pk (i, j)) = some v) (q : R v) : (∃ a' v', V.ref D = .ref a' ∧ DGet H a' (.ref b) (some v') ∧ R v') :=
  ⟨D, v, rfl, .inr ⟨kvs, pk (i, j), b, .inl h, rfl, hb, hv.symm⟩, q⟩
theorem i_dnotT {D b : Addr} {kvs : List (List Key × V)} {i j : Int} {o : Option V} {R : V → Prop} (h : H D = some (.dT kvs)) (hb : H b = some (.tup [.int i, .int j])) (hv : valV kvs (pk (i, j)) = o) (q : R (.bl (!o.isSome))) : (∃ a' o', V.ref D = .ref a' ∧ DGet H a' (.ref b) o' ∧ R (.bl (!o'.isSome))) :=
  ⟨D, o, rfl, .inr ⟨kvs, pk (i, j), b, .inl h, rfl, hb, hv.symm⟩, q⟩
theorem i_dget2T {D b : Addr} {kvs : List (List Key × V)} {i j : Int} {z : V} {o : Option V} {R : V → Prop} (h : H D = some (.dT kvs)) (hb : H b = some (.tup [.int i, .int j])) (hv : valV kvs (pk (i, j)) = o) (q : R (o.getD z)) : (∃ o', DGet H D (.ref b) o' ∧ R (o'.getD z)) :=
  ⟨o, .inr ⟨kvs, pk (i, j), b, .inl h, rfl, hb, hv.symm⟩, q⟩
theorem i_dputT {a c D b : Addr} {B : Hp} {ls ls' : List (Addr × HO)} {kvs : List (List Key × V)} {i j : Int} {v : V} {R : Hp → Prop} (O : Own a c B H ls) (h : Up1 D (.dT kvs) (.dT (putK kvs (pk (i, j)) v)) ls ls') (hb : H b = some (.tup [.int i, .int j])) (hz : kvs.length < sizeLine)
    (k : ∀ H', Own a c B H' ls' → R H') : (∃ a' H4, V.ref D = .ref a' ∧ DPut H a' (.ref b) v H4 ∧ R H4) :=
  ⟨D, _, rfl, .inr ⟨kvs, pk (i, j), b, O.mem h.mem, rfl, hb, hz, rfl⟩, k _ (O.set h)⟩
theorem i_sortDT {a c D : Addr} {B : Hp} {ls : List (Addr × HO)} {kvs : List (List Key × V)} {ps : List (Int × Int)} (O : Own a c B H ls) (h : H D = some (.dT kvs)) (hk : kvs.map (·.1) = ps.map pk)
    (k : ∀ ys p js H', js.Perm ps → js.Pairwise (fun x y => SrtO.lexB y x = false) → Paired (PairV H') ys js → Own a c B H' ((p, .lst ys) :: ls) → Q (.ref p) H') : rSortDT [.ref D] H Q :=
  ⟨D, kvs, ps, rfl, h, hk, fun ys p js h1 h2 h3 hp => k ys p js _ h1 h2 (Paired.mono (fun y j ⟨t, e, ht⟩ => ⟨t, e, by rw [upd_ne (ne_of_none ht hp)]; exact ht⟩) h3) (O.new hp)⟩
/-- what stands and never changes may stay -/
theorem Own.adopt {a c t : Addr} {B : Hp} {ls : List (Addr × HO)} {xs : List V} (O : Own a c B H ls) (ht : H t = some (.tup xs)) (hn : ∀ x ∈ ls, ∀ xs, x.2 ≠ .tup xs) : ∃ B', Same B B' ∧ B' t = some (.tup xs) ∧ Own a c B' H ls := by
  obtain ⟨ne, ns, m, ha, hc, _, _⟩ := O.R
  have ta : t ≠ a := fun e => by
    rw [e, ha] at ht
    cases ht
  have tc : t ≠ c := fun e => by
    rw [e, hc] at ht
    cases ht
  have tl : ∀ x ∈ ls, x.1 ≠ t := fun x hx e => by
    have z := O.here x hx
    rw [e, ht] at z
    exact hn x hx xs (Option.some.inj z).symm
  refine ⟨upd B t (.tup xs), fun b o e => ?_, upd_same, ⟨O.R, fun b o e => ?_, O.nd, fun x hx => ⟨?_, (O.out x hx).2⟩, O.here, ?_, ?_⟩⟩
  · by_cases h : b = t
    · rw [h, upd_same]
      rw [h] at e
      have z := O.keep _ _ e
      rw [ht] at z
      exact z
    · rw [upd_ne h]
      exact e
  · by_cases h : b = t
    · rw [h, upd_same] at e
      rw [h, ht]
      exact e
    · rw [upd_ne h] at e
      exact O.keep _ _ e
  · rw [upd_ne (tl x hx)]
    exact (O.out x hx).1
  · rw [upd_ne (Ne.symm ta)]
    exact O.ha
  · rw [upd_ne (Ne.symm tc)]
    exact O.hc
theorem PairV.mono {H H' : Hp} {y : V} {j : Int × Int} (s : Same H H') (h : PairV H y j) : PairV H' y j := h.imp fun _ z => ⟨z.1, s _ _ z.2⟩
theorem Own.adoptAll {a c : Addr} {ls : List (Addr × HO)} (hn : ∀ x ∈ ls, ∀ xs, x.2 ≠ .tup xs) : ∀ {ys : List V} {js : List (Int × Int)} {B : Hp}, Paired (PairV H) ys js → Own a c B H ls → ∃ B', Same B B' ∧ Paired (PairV B') ys js ∧ Own a c B' H ls
  | _, _, B, .nil, O => ⟨B, Same.refl _, .nil, O⟩
  | _, _, B, .cons h t, O => by
    obtain ⟨p, e, hp⟩ := h
    obtain ⟨B1, s1, h1, O1⟩ := O.adopt hp hn
    obtain ⟨B2, s2, h2, O2⟩ := Own.adoptAll hn t O1
    exact ⟨B2, Same.trans s1 s2, .cons ⟨p, e, s2 _ _ h1⟩ h2, O2⟩
theorem Paired.at {α β : Type} {R : α → β → Prop} : ∀ {xs : List α} {ys : List β}, Paired R xs ys → ∀ {i : Nat} {x : α}, xs[i]? = some x → ∃ y, ys[i]? = some y ∧ R x y
  | _, _, .nil, i, x, e => by cases e
  | _, _, .cons h t, 0, x, e => by
    cases e
    exact ⟨_, rfl, h⟩
  | _, _, .cons h t, i + 1, x, e => Paired.at t e
end
theorem i_lcKT {d : Addr} {H : Hp} {o : Obj} {kv : List (List Key × V)} {v : Nat} {tt : TT} {te : TE} {σ : L2.St} {Qd : Hp → Prop} {E : Addr} (Pv : Nat → Hp → Prop) (h0 : Pv 0 (upd H E (.lst []))) (hG : ∀ i H, Pv i H → H d = some (.frz o (.dT kv)))
    (hs : ∀ i (p : List Key) (x : V) (q : Addr) H, kv[i]? = some (p, x) → H q = some (.tup (p.map kV)) → Pv i H → tt (σ.set v (some (.ref q))) H fun b H3 => if b = true then te (σ.set v (some (.ref q))) H3 fun y H4 => ∃ acc, H4 E = some (.lst acc) ∧ acc.length < sizeLine ∧ Pv (i + 1) (upd H4 E (.lst (acc ++ [y]))) else Pv (i + 1) H3)
    (hd : ∀ H, Pv kv.length H → Qd H) :
    ∃ W : Nat → Nat → Hp → Prop, (∃ m, W 0 m (upd H E (.lst []))) ∧ ∀ i m H, W i m H → ((Itkt d o kv).stop i H ∧ Qd H) ∨ ((Itkt d o kv).go i H ∧ ∃ Nx : Hp → Prop, (∀ H', Nx H' → ∃ m', m' < m ∧ W (i + 1) m' H') ∧ ∀ x H', (Itkt d o kv).yld i H x H' → gName v x (wipe σ [v]) H' fun σ2 H2 => wipe σ2 [v] = wipe σ [v] ∧ tt σ2 H2 fun b H3 => if b = true then te σ2 H3 fun y H4 => ∃ acc, H4 E = some (.lst acc) ∧ acc.length < sizeLine ∧ Nx (upd H4 E (.lst (acc ++ [y]))) else Nx H3) :=
  lc_it walk_keysT Pv h0 (fun i H _ p => hG i H p) (fun i x H H' hi p y => by
    obtain ⟨e, k, x', q, h1, h2, h3⟩ := y
    subst e h2
    show wipe ((wipe σ [v]).set v (some (.ref q))) [v] = wipe σ [v] ∧ tt ((wipe σ [v]).set v (some (.ref q))) _ _
    rw [wipe1]
    exact ⟨wipe2, hs i k x' q _ h1 h3 p⟩) hd
section
variable {H : Hp} {Q : VK} {σ : L2.St}
theorem i_keys {td : TE} {R : It → Hp → Prop} (q : td σ H fun x H1 => ∃ d o, x = .ref d ∧ ((∃ kvs, H1 d = some (.frz o (.dK kvs)) ∧ R (Itk d o kvs) H1) ∨ ∃ kvs, H1 d = some (.frz o (.dT kvs)) ∧ R (Itkt d o kvs) H1)) : iKeys td σ H R := q
theorem i_dgetF {D b : Addr} {od : Obj} {kvs : List (List Key × V)} {i j : Int} {v : V} {R : V → Prop} (h : H D = some (.frz od (.dT kvs))) (hb : H b = some (.tup [.int i, .int j])) (hv : valV kvs (pk (i, j)) = some v) (q : R v) : (∃ a' v', V.ref D = .ref a' ∧ DGet H a' (.ref b) (some v') ∧ R v') :=
  ⟨D, v, rfl, .inr ⟨kvs, pk (i, j), b, .inr ⟨od, h⟩, rfl, hb, hv.symm⟩, q⟩
theorem i_lock {t : TE} {D : Addr} {kvs : List (List Key × V)} (h : H D = some (.dT kvs)) (k : ∀ od, t σ (upd H D (.frz od (.dT kvs))) fun v H' => H' D = some (.frz od (.dT kvs)) ∧ Q v (upd H' D (.dT kvs))) : tLockE t σ H Q := ⟨D, _, h, trivial, k⟩
theorem i_sum {K : PySem.W.Frag} {p : Addr} {ns : List Int} (h : H p = some (.lst (ns.map V.int))) (q : Q (.int ns.sum) H) : rSum K [.ref p] H Q := ⟨p, ns, rfl, SqL.of h, q⟩
end
end Lb
set_option Elab.async false
set_option linter.all false
set_option maxRecDepth 100000
set_option maxHeartbeats 4000000
namespace K43
open PySem PySem.Spec PyProof.Rows L2 Lb
local macro_rules | `(tactic| walk_at "pm") => `(tactic| (focus ((repeat (first | exact List.Perm.refl _ | (apply Pick.perm; (solve | repeat (first | exact Pick.here | apply Pick.there))))); done)))
local macro_rules | `(tactic| walk_at "h") => `(tactic| first | assumption | exact Own.mem (by assumption) (by walk_at "m") | exact Own.kp (by assumption) (by assumption))
local macro_rules | `(tactic| walk_at "m") => `(tactic| (focus ((repeat (first | assumption | exact List.mem_cons_self | apply List.mem_cons_of_mem)); done)))
local macro_rules | `(tactic| walk_at "u") => `(tactic| (focus ((repeat (first | exact Up1.here | apply Up1.there)); done)))
local macro_rules | `(tactic| walk_at "p") => `(tactic| (focus ((repeat (first | exact Pre.nil | apply Pre.cons)); done)))
local macro_rules | `(tactic| walk_at "f") => `(tactic| (focus ((repeat (first | exact PutF.here | exact PutF.nil | (apply PutF.there; (solve | decide +kernel)))); done)))
local macro_rules | `(tactic| walk_at "k") => `(tactic| (focus ((repeat (first | exact LkF.here rfl | exact LkF.nil rfl | refine LkF.there (by decide +kernel) ?_)); done)))
local macro_rules | `(tactic| walk_at "e") => `(tactic| (focus ((repeat (first | exact StE.nil | apply StE.app | apply StE.got | apply StE.lack)); done)))
local macro_rules | `(tactic| walk_at "d") => `(tactic| (focus ((repeat (first | exact Dt.int _ | exact Dt.str _ | exact Dt.non | exact Dt.bl _ | exact DtAll.nil | exact DtAll.ints _ | apply DtAll.cons | (apply Dt.tup; (solve | walk_at "h")) | (apply Dt.lst; (solve | walk_at "h")))); done)))
local macro_rules | `(tactic| walk_at "sh") => `(tactic| (focus ((repeat (first | exact Sh.int | exact Sh.non | exact Sh.str (by decide +kernel) | exact ShA.nil | exact ShA.ints | apply ShA.cons | apply Sh.lst | apply Sh.tup)); done)))
local macro_rules | `(tactic| walk_at "ne") => `(tactic| (apply rd_neF; (solve | walk_at "d"); (solve | walk_at "d"); (solve | exact Sh.shp (n := 4) (by walk_at "sh"))))
local macro_rules | `(tactic| walk_at "s1") => `(tactic| with_reducible first | (apply i_bm) | apply i_try | apply i_callS | apply i_methS | apply i_raiseX | (apply i_mks; (solve | assumption)) | apply i_rng3 | apply i_dnin | apply i_keys | (apply i_dgetF; (solve | walk_at "h"); (solve | assumption); (solve | assumption)) | apply i_dget2 | apply i_dnewT | (apply i_dgetT; (solve | walk_at "h"); (solve | walk_at "h"); (solve | assumption)) |  apply i_txf | (apply i_isX; (solve | assumption); (solve | walk_at "h")) | (apply i_xf; (solve | walk_at "h"); (solve | walk_at "k")) | (apply i_tyK; (solve | assumption)) | apply i_tyS | (apply i_ixK; (solve | assumption); (solve | assumption | with_unfolding_all rfl)) | (apply i_lenK; (solve | assumption); (exact rfl)) | (apply i_tupLN; (solve | walk_at "h")) | (apply i_var; (solve | with_unfolding_all rfl)) | apply i_cons | apply i_nil | apply i_c | apply i_op | apply i_asg | apply i_seq | apply i_gname | apply i_eqS | apply i_eqI | apply i_neS | apply i_tt | apply i_ff | (apply i_ixA; (solve | walk_at "h"); (solve | exact IxO.lst (by assumption) | exact IxO.tup (by assumption) | exact .lst (by with_unfolding_all rfl) | exact .tup (by with_unfolding_all rfl))) | apply i_bl | apply i_test | apply i_ifS | apply i_tupN | (apply i_tupO; (solve | assumption); (exact (sz (by (try simp) <;> omega))); intro p H O) | apply i_fld | (apply i_fldO; (solve | walk_at "h"); (solve | assumption); (solve | assumption); (solve | walk_at "k")) | (apply i_tB; (solve | decide +kernel)) | (apply i_fB; (solve | decide +kernel)) | apply i_ret | apply i_retN | apply i_drop | apply i_next | apply i_brk | apply i_cnt | apply i_par | apply i_par2 | apply i_fldSN | apply i_dput | apply i_un | apply i_rU | apply i_rI0 | apply i_B | apply i_tru | apply i_truB | apply i_and | apply i_or | apply i_not | apply i_andV | apply i_orV | apply i_notV | apply i_if | apply i_call | apply i_meth | apply i_makeN | apply i_cb | apply i_dnewN | apply i_lstN | apply i_bml | apply i_gsub | apply i_gcons | apply i_gnil | apply i_sl | apply i_nop | apply i_part | apply i_prt | apply i_isN | apply i_notN | apply i_yes | apply i_ntt | apply i_nff | apply i_addI | apply i_neI | apply i_intI | apply i_intB | apply i_abs | apply i_isiIB | apply i_isiNB | apply i_isiBB | apply i_dget | apply i_for | apply i_ilist | apply i_itup | apply i_rng1 | apply i_rng2 | apply i_ex1 | apply i_ex2 | apply i_exr | apply i_disp | apply i_pcons | apply i_pnil | apply i_neN | apply i_eqN | apply i_neB | apply i_eqB | apply i_lc | apply i_dnI | apply i_nyI | apply i_dnR | apply i_nyR | (apply i_lenA; (solve | walk_at "h"); (solve | first | exact .lst | exact .tup | exact .dK)) | (apply i_isL; (solve | walk_at "h")) | (apply i_isiLL; (solve | walk_at "h")) | (apply i_isiTL; (solve | walk_at "h")) | (apply i_gtup; (solve | walk_at "h"); (solve | with_unfolding_all rfl)) | (apply i_fldSO; (solve | assumption); (solve | walk_at "u"); (solve | walk_at "f"); (solve | assumption); (solve | assumption); (solve | simp); intro H O) | (apply i_lstO; (solve | assumption); (exact (sz (by (try simp) <;> omega))); intro p H O) | (apply i_makeO; (solve | assumption); intro x dx H O) | (apply i_methO; (solve | walk_at "h"); (solve | walk_at "k")) | (apply i_newO; (solve | assumption); intro p H O) | (apply i_listN; (solve | walk_at "h")) | (apply i_listTN; (solve | walk_at "h")) | (apply i_addN; (solve | walk_at "h"); (solve | walk_at "h"); (exact (sz (by (try simp) <;> omega)))) | apply i_mkd | apply i_gfld | (apply i_glst; (solve | walk_at "h"); (solve | with_unfolding_all rfl)) | apply i_isB | apply i_notB | (apply i_inO; (solve | walk_at "h"); (solve | with_unfolding_all rfl); (solve | with_unfolding_all rfl)) | (apply i_dgetI; (solve | walk_at "h"); (solve | assumption)) | (apply i_in; (solve | with_unfolding_all rfl); (solve | walk_at "e")) | (apply i_setO; (solve | assumption); (solve | walk_at "u"); (solve | with_unfolding_all rfl); intro H O) | (apply i_appO; (solve | assumption); (solve | walk_at "u"); (exact (szl (by (try simp) <;> omega))); intro H O) | (apply i_drawO; (solve | assumption); (exact rfl); (solve | decide); (solve | decide); intro r H h0 h1 O))
local macro_rules | `(tactic| walk_at "s") => `(tactic| repeat (walk_at "s1"))
structure Ad where
  K : PySem.W.Frag
  c_Links : Addr
structure CF (A : Ad) : Prop where
  h : Cls A.K A.c_Links
  n1 : NoAttr A.K A.c_Links "delays"
  n2 : NoAttr A.K A.c_Links "sent"
  n3 : NoAttr A.K A.c_Links "rows"
abbrev Pr : Type := Int × Int
/-- a message on its way: when it is due, its number -/
def eD (e : Pr) : PyData := .tuple [.int e.1, .tuple [.str "m", .int e.2]]
def fD (p e : Pr) : PyData := .tuple [.int p.2, .tuple [.str "m", .int e.2]]
def tq (t : Int) (q : List Pr) : List Pr := q.takeWhile fun e => decide (e.1 ≤ t)
def dq (t : Int) (q : List Pr) : List Pr := q.dropWhile fun e => decide (e.1 ≤ t)
theorem cutq {t : Int} : ∀ {q : List Pr} {k : Nat}, (∀ e ∈ q.take k, e.1 ≤ t) → (∀ e, q[k]? = some e → ¬ e.1 ≤ t) → k ≤ q.length → q.take k = tq t q ∧ q.drop k = dq t q
  | [], k, _, _, h => by
    have : k = 0 := by simpa using h
    subst this
    exact ⟨rfl, rfl⟩
  | e :: r, 0, h1, h2, _ => by
    have h := h2 e rfl
    unfold tq dq
    rw [List.takeWhile_cons, List.dropWhile_cons, decide_eq_false h]
    exact ⟨rfl, rfl⟩
  | e :: r, k + 1, h1, h2, h3 => by
    have he : e.1 ≤ t := h1 e (by simp)
    obtain ⟨a, b⟩ := cutq (t := t) (q := r) (k := k) (fun x hx => h1 x (by rw [List.take_succ_cons]; exact List.mem_cons_of_mem _ hx)) (fun x hx => h2 x hx) (by simpa using h3)
    unfold tq dq at *
    rw [List.takeWhile_cons, List.dropWhile_cons, decide_eq_true he, List.take_succ_cons, List.drop_succ_cons, a, b]
    exact ⟨rfl, rfl⟩
def kvs (r : Pr → Addr) (ks : List Pr) : List (List Key × V) := ks.map fun p => (pk p, V.ref (r p))
def bl (r : Pr → Addr) (v : Pr → List V) (ks : List Pr) : List (Addr × HO) := ks.map fun p => (r p, HO.lst (v p))
theorem pk_inj {p q : Pr} (h : pk p = pk q) : p = q := by
  obtain ⟨a, b⟩ := p
  obtain ⟨c, d⟩ := q
  simp only [pk, List.cons.injEq, Sum.inl.injEq, and_true] at h
  rw [h.1, h.2]
theorem kvs_keys {r : Pr → Addr} {ks : List Pr} : (kvs r ks).map (·.1) = ks.map pk := by
  unfold kvs
  rw [List.map_map]
  rfl
theorem kvs_in {r : Pr → Addr} {p : Pr} : ∀ {ks : List Pr}, p ∈ ks → valV (kvs r ks) (pk p) = some (.ref (r p))
  | [], h => by cases h
  | q :: ks, h => by
    show valV ((pk q, V.ref (r q)) :: kvs r ks) (pk p) = _
    by_cases e : q = p
    · rw [valV_pos (congrArg pk e), e]
    · rw [valV_neg (fun z => e (pk_inj z))]
      rcases List.mem_cons.mp h with z | z
      · exact (e z.symm).elim
      · exact kvs_in z
theorem kvs_out {r : Pr → Addr} {p : Pr} : ∀ {ks : List Pr}, p ∉ ks → valV (kvs r ks) (pk p) = none
  | [], _ => rfl
  | q :: ks, h => by
    show valV ((pk q, V.ref (r q)) :: kvs r ks) (pk p) = _
    rw [valV_neg (fun z => h (by rw [pk_inj z]; exact List.mem_cons_self))]
    exact kvs_out fun z => h (List.mem_cons_of_mem _ z)
def up {α : Type} (f : Pr → α) (p : Pr) (x : α) : Pr → α := fun y => if y = p then x else f y
theorem up_same {α : Type} {f : Pr → α} {p : Pr} {x : α} : up f p x p = x := if_pos rfl
theorem up_ne {α : Type} {f : Pr → α} {p y : Pr} {x : α} (h : y ≠ p) : up f p x y = f y := if_neg h
theorem bl_pull {r : Pr → Addr} {v : Pr → List V} {ks : List Pr} {p : Pr} (h : p ∈ ks) : (bl r v ks).Perm ((r p, .lst (v p)) :: bl r v (ks.erase p)) :=
  (List.perm_cons_erase h).map _
theorem bl_other {r r' : Pr → Addr} {v v' : Pr → List V} {ks : List Pr} {p : Pr} (nd : ks.Nodup) (h : ∀ y, y ≠ p → r' y = r y ∧ v' y = v y) : bl r' v' (ks.erase p) = bl r v (ks.erase p) := by
  unfold bl
  refine List.map_congr_left fun y hy => ?_
  have hne : y ≠ p := fun e => by
    rw [e] at hy
    exact (List.Nodup.not_mem_erase nd) hy
  rw [(h y hne).1, (h y hne).2]
theorem bl_noTup {r : Pr → Addr} {v : Pr → List V} {ks : List Pr} : ∀ x ∈ bl r v ks, ∀ xs, x.2 ≠ .tup xs := fun x hx xs e => by
  unfold bl at hx
  obtain ⟨p, _, rfl⟩ := List.mem_map.mp hx
  cases e
theorem srt_uniq {l m : List Pr} (h1 : l.Pairwise fun x y => SrtO.lexB y x = false) (h2 : m.Pairwise fun x y => SrtO.lexB y x = false) (h : l.Perm m) : l = m := by
  refine List.Perm.eq_of_pairwise (le := fun x y => SrtO.lexB y x = false) (fun a b _ _ z1 z2 => ?_) h1 h2 h
  have a1 := SrtO.lexB_no.mp z1
  have a2 := SrtO.lexB_no.mp z2
  obtain ⟨x, y⟩ := a
  obtain ⟨u, v⟩ := b
  simp only at a1 a2
  have : x = u := by omega
  have : y = v := by omega
  simp_all
theorem shE {e : Pr} : Sh 2 (eD e) := .tup (.cons .int (.cons (.tup (.cons (.str (by decide +kernel)) (.cons .int .nil))) .nil))
theorem shF {p e : Pr} : Sh 2 (fD p e) := .tup (.cons .int (.cons (.tup (.cons (.str (by decide +kernel)) (.cons .int .nil))) .nil))
theorem dtE {H : Hp} {x : V} {e : Pr} (h : Dt H x (eD e)) : ∃ t m, x = .ref t ∧ H t = some (.tup [.int e.1, .ref m]) ∧ H m = some (.tup [.str "m", .int e.2]) := by
  cases h with
  | tup ht h1 =>
    cases h1 with
    | cons e1 h2 =>
      cases e1
      cases h2 with
      | cons e2 h3 =>
        cases h3
        cases e2 with
        | tup hm d =>
          cases d with
          | cons f1 d2 =>
            cases f1
            cases d2 with
            | cons f2 d3 =>
              cases f2
              cases d3
              exact ⟨_, _, rfl, ht, hm⟩
abbrev lnk (C dk dl : Addr) (s : Nat) (D : Addr) : HO := .ins C dk [("delays", .ref dl), ("sent", .int (s : Nat)), ("rows", .ref D)]
/-- the delay of the s-th message -/
def gs (ds : List Int) : List Int := if ds = [] then [1] else ds
def dly (ds : List Int) (s : Nat) : Int := ((gs ds)[s % (gs ds).length]?).getD 1
def sp_Links_due (A : Ad) : Sp := fun vs H Q _ => ∃ (a c : Addr) (B : Hp) (ls : List (Addr × HO)) (k dk dl D : Addr) (s : Nat) (ks : List Pr) (r : Pr → Addr) (v : Pr → List V) (q : Pr → List Pr) (t : Int), vs = [.ref k, .int t] ∧ CF A ∧
  Own a c B H ((k, lnk A.c_Links dk dl s D) :: (D, .dT (kvs r ks)) :: (bl r v ks ++ ls)) ∧ ks.Nodup ∧ ks.length ≤ 7 ∧ (∀ p ∈ ks, (q p).length ≤ 200) ∧ (∀ p ∈ ks, DtAll B (v p) ((q p).map eD)) ∧ (∀ x ∈ ls, ∀ xs, x.2 ≠ .tup xs) ∧
  ∀ P fv v' (js : List Pr) H' B', Same B B' → js.Perm ks → js.Pairwise (fun x y => SrtO.lexB y x = false) → (∀ p ∈ ks, DtAll B' (v' p) ((dq t (q p)).map eD)) → DtAll B' fv (js.flatMap fun p => (tq t (q p)).map (fD p)) →
    Own a c B' H' ((P, .lst fv) :: (k, lnk A.c_Links dk dl s D) :: (D, .dT (kvs r ks)) :: (bl r v' ks ++ ls)) → Q (.ref P) H'
def sp_Links_send (A : Ad) : Sp := fun vs H Q _ => ∃ (a c : Addr) (B : Hp) (ls : List (Addr × HO)) (k dk dl D m : Addr) (s : Nat) (ks : List Pr) (r : Pr → Addr) (v : Pr → List V) (q : Pr → List Pr) (t : Int) (p : Pr) (ds : List Int) (id : Int), vs = [.ref k, .int t, .int p.1, .int p.2, .ref m] ∧ CF A ∧
  Own a c B H ((k, lnk A.c_Links dk dl s D) :: (D, .dT (kvs r ks)) :: (bl r v ks ++ ls)) ∧ ks.Nodup ∧ ks.length ≤ 7 ∧ (∀ p ∈ ks, (q p).length ≤ 200) ∧ (∀ p ∉ ks, q p = []) ∧ (∀ p ∈ ks, DtAll B (v p) ((q p).map eD)) ∧ B m = some (.tup [.str "m", .int id]) ∧ B dl = some (.lst (ds.map V.int)) ∧ ds.length ≤ 6 ∧
  ∀ r' v' H' B', Same B B' → (∀ x ∈ (if p ∈ ks then ks else ks ++ [p]), DtAll B' (v' x) ((up q p (q p ++ [(t + dly ds s, id)]) x).map eD)) →
    Own a c B' H' ((k, lnk A.c_Links dk dl (s + 1) D) :: (D, .dT (kvs r' (if p ∈ ks then ks else ks ++ [p]))) :: (bl r' v' (if p ∈ ks then ks else ks ++ [p]) ++ ls)) → Q .non H'
def sp_Links_empty (A : Ad) : Sp := fun vs H Q _ => ∃ (a c : Addr) (B : Hp) (ls : List (Addr × HO)) (k dk dl D : Addr) (s : Nat) (ks : List Pr) (r : Pr → Addr) (v : Pr → List V) (q : Pr → List Pr), vs = [.ref k] ∧ CF A ∧
  Own a c B H ((k, lnk A.c_Links dk dl s D) :: (D, .dT (kvs r ks)) :: (bl r v ks ++ ls)) ∧ ks.Nodup ∧ ks.length ≤ 7 ∧ (∀ p ∈ ks, DtAll B (v p) ((q p).map eD)) ∧
  ∀ H', Own a c B H' ((k, lnk A.c_Links dk dl s D) :: (D, .dT (kvs r ks)) :: (bl r v ks ++ ls)) → Q (.bl ((ks.map fun p => decide ((q p).length = 0)).all id)) H'
def sp_law (A : Ad) : Sp := fun vs H Q _ => ∃ (s : Addr) (ns : List Int), vs = [.ref s] ∧ SqL A.K H s (ns.map V.int) ∧ ns.length ≤ 63 ∧ CF A ∧ ∀ H', Q (.bl true) H'
abbrev t_Links_init (A : Ad) : TS :=
  (tSeq (sFld A.K (tVar 0) (tCB rListA (tCons (tVar 1) tNil)) "delays") (tSeq (sFld A.K (tVar 0) (tC (.int 0)) "sent") (sFld A.K (tVar 0) tDNewT "rows")))
theorem st_Links_init (v0 v1 : V) : L2.start ["self", "delays"] [v0, v1] = [some v0, some v1] := rfl
abbrev sp_Links_init (A : Ad) : Sp := spIn ["self", "delays"] 2 (t_Links_init A)
theorem len_Links_init (A : Ad) {vs : List V} {H : Hp} {Q : VK} {E : XK} (h : sp_Links_init A vs H Q E) : vs.length = 2 := h.1
theorem pure_Links_init (A : Ad) (vs : List V) (H : Hp) (Q : VK) (E : XK) (h : sp_Links_init A vs H Q E) : t_Links_init A { nx := fun _ H' => Q .non H', rt := Q } (L2.start ["self", "delays"] vs) H := h.2
abbrev t_Links_delay (A : Ad) : TS :=
  (tSeq (tAsg (tC (.int 1)) (gName 1)) (tSeq (tIfS (tTest (tOp (rI0 fun i j => .bl (decide (j < i))) (tCB rLenA (tCons (tFld A.K (tVar 0) "delays") tNil)) (tC (.int 0)))) (tAsg (tOp rIxA (tFld A.K (tVar 0) "delays") (tOp (rI (fun _ j => 0 < j) fun i j => .int (i % j)) (tFld A.K (tVar 0) "sent") (tCB rLenA (tCons (tFld A.K (tVar 0) "delays") tNil)))) (gName 1)) tNext) (tSeq (sFld A.K (tVar 0) (tOp rAddA (tFld A.K (tVar 0) "sent") (tC (.int 1))) "sent") (tRet (tVar 1)))))
theorem st_Links_delay (v0 : V) : L2.start ["self", "found"] [v0] = [some v0, none] := rfl
abbrev sp_Links_delay (A : Ad) : Sp := spIn ["self", "found"] 1 (t_Links_delay A)
theorem len_Links_delay (A : Ad) {vs : List V} {H : Hp} {Q : VK} {E : XK} (h : sp_Links_delay A vs H Q E) : vs.length = 1 := h.1
theorem pure_Links_delay (A : Ad) (vs : List V) (H : Hp) (Q : VK) (E : XK) (h : sp_Links_delay A vs H Q E) : t_Links_delay A { nx := fun _ H' => Q .non H', rt := Q } (L2.start ["self", "found"] vs) H := h.2
def t_Links_send (A : Ad) : TS :=
  (tSeq (tAsg (tTup (tCons (tVar 2) (tCons (tVar 3) tNil))) (gName 5)) (tSeq (tIfS (tB (tDNotIn (tVar 5) (tFld A.K (tVar 0) "rows"))) (sDPut (tFld A.K (tVar 0) "rows") (tVar 5) (tLst tNil)) tNext) (tDrop (tBML rAppA (tDGet (tFld A.K (tVar 0) "rows") (tVar 5)) (tCons (tTup (tCons (tOp rAddA (tVar 1) (tMeth A.c_Links "delay" (sp_Links_delay A) [] E0 (tVar 0) tNil)) (tCons (tVar 4) tNil))) tNil)))))
theorem st_Links_send (v0 v1 v2 v3 v4 : V) : L2.start ["self", "tick", "source", "goal", "message", "pair"] [v0, v1, v2, v3, v4] = [some v0, some v1, some v2, some v3, some v4, none] := rfl
def t_Links_due (A : Ad) : TS :=
  (tSeq (tAsg (tLst tNil) (gName 2)) (tSeq (tFor (iList A.K (tCB rSortDT (tCons (tFld A.K (tVar 0) "rows") tNil))) (gName 3) (tSeq (tAsg (tDGet (tFld A.K (tVar 0) "rows") (tVar 3)) (gName 4)) (tWhile (tAnd (tTest (tOp (rI0 fun i j => .bl (decide (j < i))) (tCB rLenA (tCons (tVar 4) tNil)) (tC (.int 0)))) (tTest (tOp (rI0 fun i j => .bl (decide (i ≤ j))) (tOp rIxA (tOp rIxA (tVar 4) (tC (.int 0))) (tC (.int 0))) (tVar 1)))) (tDrop (tBML rAppA (tVar 2) (tCons (tTup (tCons (tOp rIxA (tVar 3) (tC (.int 1))) (tCons (tOp rIxA (tBML rPopI (tVar 4) (tCons (tC (.int 0)) tNil)) (tC (.int 1))) tNil))) tNil)))))) (tRet (tVar 2))))
theorem st_Links_due (v0 v1 : V) : L2.start ["self", "tick", "found", "pair", "row"] [v0, v1] = [some v0, some v1, none, none, none] := rfl
def t_Links_empty (A : Ad) : TS :=
  (tRet (tCB (rAll A.K) (tCons (tLockE (tLc (iKeys (tFld A.K (tVar 0) "rows")) (gName 1) tYes (tOp (rEqA A.K) (tCB rLenA (tCons (tDGet (tFld A.K (tVar 0) "rows") (tVar 1)) tNil)) (tC (.int 0))) [1])) tNil)))
theorem st_Links_empty (v0 : V) : L2.start ["self", "pair"] [v0] = [some v0, none] := rfl
def t_law (A : Ad) : TS :=
  (tSeq (tAsg (tCall (spState A.K) [] E0 (tCons (tVar 0) tNil)) (gName 1)) (tSeq (tAsg (tLc (iRng1 (tCons (tCall spDraw [] E0 (tCons (tVar 1) (tCons (tC (.int 7)) tNil))) tNil)) (gName 12) tYes (tOp rAddA (tC (.int 1)) (tCall spDraw [] E0 (tCons (tVar 1) (tCons (tC (.int 9)) tNil)))) [12]) (gName 2)) (tSeq (tAsg (tMake A.c_Links (sp_Links_init A) [] E0 (tCons (tVar 2) tNil)) (gName 3)) (tSeq (tIfS (tTest (tOp (rI0 fun i j => .bl (decide (j < i))) (tCB rLenA (tCons (tVar 2) tNil)) (tC (.int 0)))) (tAsg (tCB rListA (tCons (tVar 2) tNil)) (gName 4)) (tAsg (tLst (tCons (tC (.int 1)) tNil)) (gName 4))) (tSeq (tDrop (tBML rAppA (tVar 2) (tCons (tC (.int 50)) tNil))) (tSeq (tAsg tDNewT (gName 5)) (tSeq (tAsg (tC (.int 0)) (gName 6)) (tSeq (tFor (iRng2 (tCons (tC (.int 1)) (tCons (tOp rAddA (tC (.int 10)) (tCall spDraw [] E0 (tCons (tVar 1) (tCons (tC (.int 31)) tNil)))) tNil))) (gName 7) (tSeq (tAsg (tLst tNil) (gName 8)) (tSeq (tFor (iList A.K (tCB rSortDT (tCons (tVar 5) tNil))) (gName 9) (tSeq (tAsg (tDGet (tVar 5) (tVar 9)) (gName 10)) (tWhile (tAnd (tTest (tOp (rI0 fun i j => .bl (decide (j < i))) (tCB rLenA (tCons (tVar 10) tNil)) (tC (.int 0)))) (tTest (tOp (rI0 fun i j => .bl (decide (i ≤ j))) (tOp rIxA (tOp rIxA (tVar 10) (tC (.int 0))) (tC (.int 0))) (tVar 7)))) (tDrop (tBML rAppA (tVar 8) (tCons (tTup (tCons (tOp rIxA (tVar 9) (tC (.int 1))) (tCons (tOp rIxA (tBML rPopI (tVar 10) (tCons (tC (.int 0)) tNil)) (tC (.int 1))) tNil))) tNil)))))) (tSeq (tAsg (tMeth A.c_Links "due" (sp_Links_due A) [] E0 (tVar 3) (tCons (tVar 7) tNil)) (gName 11)) (tSeq (tIfS (tOr (tNot (tB (tCB rIsiA (tCons (tVar 11) (tCons (tC (.ty "list")) tNil))))) (tTest (tOp (rNeA A.K) (tVar 11) (tVar 8)))) (tRet (tC (.bl false))) tNext) (tSeq (tFor (iRng1 (tCons (tCall spDraw [] E0 (tCons (tVar 1) (tCons (tC (.int 4)) tNil))) tNil)) (gName 12) (tSeq (tAsg (tCall spPick [] E0 (tCons (tVar 1) (tCons (tLst (tCons (tTup (tCons (tC (.int 0)) (tCons (tC (.int 1)) tNil))) (tCons (tTup (tCons (tC (.int 1)) (tCons (tC (.int 0)) tNil))) (tCons (tTup (tCons (tC (.int 1)) (tCons (tC (.int 2)) tNil))) (tCons (tTup (tCons (tC (.int 2)) (tCons (tC (.int 1)) tNil))) (tCons (tTup (tCons (tC (.int 0)) (tCons (tC (.int 3)) tNil))) (tCons (tTup (tCons (tC (.int 3)) (tCons (tC (.int 0)) tNil))) (tCons (tTup (tCons (tC (.int 2)) (tCons (tC (.int 3)) tNil))) tNil)))))))) tNil))) (gName 9)) (tSeq (tDrop (tMeth A.c_Links "send" (sp_Links_send A) [] E0 (tVar 3) (tCons (tVar 7) (tCons (tOp rIxA (tVar 9) (tC (.int 0))) (tCons (tOp rIxA (tVar 9) (tC (.int 1))) (tCons (tTup (tCons (tC (.str "m")) (tCons (tVar 6) tNil))) tNil)))))) (tSeq (sDPut (tVar 5) (tVar 9) (tOp rAddA (tDGet2 (tVar 5) (tVar 9) (tLst tNil)) (tLst (tCons (tTup (tCons (tOp rAddA (tVar 7) (tOp rIxA (tVar 4) (tOp (rI0 fun i j => .int (i - j)) (tVar 6) (tOp rMulA (tOp (rI CDiv fun i j => .int (i / j)) (tVar 6) (tCB rLenA (tCons (tVar 4) tNil))) (tCB rLenA (tCons (tVar 4) tNil)))))) (tCons (tTup (tCons (tC (.str "m")) (tCons (tVar 6) tNil))) tNil))) tNil)))) (tAsg (tOp rAddA (tVar 6) (tC (.int 1))) (gName 6)))))) (tSeq (tAsg (tMeth A.c_Links "empty" (sp_Links_empty A) [] E0 (tVar 3) tNil) (gName 13)) (tIfS (tOr (tNot (tB (tCB rIsiA (tCons (tVar 13) (tCons (tC (.ty "bool")) tNil))))) (tTest (tOp (rNeA A.K) (tVar 13) (tOp (rEqA A.K) (tCB (rSum A.K) (tCons (tLockE (tLc (iKeys (tVar 5)) (gName 9) tYes (tCB rLenA (tCons (tDGet (tVar 5) (tVar 9)) tNil)) [9])) tNil)) (tC (.int 0)))))) (tRet (tC (.bl false))) tNext)))))))) (tRet (tC (.bl true)))))))))))
theorem st_law (v0 : V) : L2.start ["_law_script", "_law_state_here", "_law_delays", "_law_links", "_law_given", "_law_rows", "_law_sent", "_law_tick", "_law_found", "_law_pair", "_law_row", "_law_told", "_law_k", "_law_empty"] [v0] = [some v0, none, none, none, none, none, none, none, none, none, none, none, none, none] := rfl

theorem len_Links_due (A : Ad) {vs : List V} {H : Hp} {Q : VK} {E : XK} (h : sp_Links_due A vs H Q E) : vs.length = 2 := by
  obtain ⟨a, c, B, ls, k, dk, dl, D, s, ks, r, v, q, t, rfl, _⟩ := h
  rfl
theorem len_Links_send (A : Ad) {vs : List V} {H : Hp} {Q : VK} {E : XK} (h : sp_Links_send A vs H Q E) : vs.length = 5 := by
  obtain ⟨a, c, B, ls, k, dk, dl, D, m, s, ks, r, v, q, t, p, ds, id, rfl, _⟩ := h
  rfl
theorem len_Links_empty (A : Ad) {vs : List V} {H : Hp} {Q : VK} {E : XK} (h : sp_Links_empty A vs H Q E) : vs.length = 1 := by
  obtain ⟨a, c, B, ls, k, dk, dl, D, s, ks, r, v, q, rfl, _⟩ := h
  rfl
theorem len_law (A : Ad) {vs : List V} {H : Hp} {Q : VK} {E : XK} (h : sp_law A vs H Q E) : vs.length = 1 := by
  obtain ⟨s, ns, rfl, _⟩ := h
  rfl
end K43
set_option Elab.async false
set_option linter.all false
set_option maxRecDepth 100000
set_option maxHeartbeats 4000000
namespace K43
open PySem PySem.Spec PyProof.Rows L2 Lb
local macro_rules | `(tactic| walk_at "pm") => `(tactic| (focus ((repeat (first | exact List.Perm.refl _ | (apply Pick.perm; (solve | repeat (first | exact Pick.here | apply Pick.there))))); done)))
local macro_rules | `(tactic| walk_at "h") => `(tactic| first | assumption | exact Own.mem (by assumption) (by walk_at "m") | exact Own.kp (by assumption) (by assumption))
local macro_rules | `(tactic| walk_at "m") => `(tactic| (focus ((repeat (first | assumption | exact List.mem_cons_self | apply List.mem_cons_of_mem)); done)))
local macro_rules | `(tactic| walk_at "u") => `(tactic| (focus ((repeat (first | exact Up1.here | apply Up1.there)); done)))
local macro_rules | `(tactic| walk_at "p") => `(tactic| (focus ((repeat (first | exact Pre.nil | apply Pre.cons)); done)))
local macro_rules | `(tactic| walk_at "f") => `(tactic| (focus ((repeat (first | exact PutF.here | exact PutF.nil | (apply PutF.there; (solve | decide +kernel)))); done)))
local macro_rules | `(tactic| walk_at "k") => `(tactic| (focus ((repeat (first | exact LkF.here rfl | exact LkF.nil rfl | refine LkF.there (by decide +kernel) ?_)); done)))
local macro_rules | `(tactic| walk_at "e") => `(tactic| (focus ((repeat (first | exact StE.nil | apply StE.app | apply StE.got | apply StE.lack)); done)))
local macro_rules | `(tactic| walk_at "d") => `(tactic| (focus ((repeat (first | exact Dt.int _ | exact Dt.str _ | exact Dt.non | exact Dt.bl _ | exact DtAll.nil | exact DtAll.ints _ | apply DtAll.cons | (apply Dt.tup; (solve | walk_at "h")) | (apply Dt.lst; (solve | walk_at "h")))); done)))
local macro_rules | `(tactic| walk_at "sh") => `(tactic| (focus ((repeat (first | exact Sh.int | exact Sh.non | exact Sh.str (by decide +kernel) | exact ShA.nil | exact ShA.ints | apply ShA.cons | apply Sh.lst | apply Sh.tup)); done)))
local macro_rules | `(tactic| walk_at "ne") => `(tactic| (apply rd_neF; (solve | walk_at "d"); (solve | walk_at "d"); (solve | exact Sh.shp (n := 4) (by walk_at "sh"))))
local macro_rules | `(tactic| walk_at "s1") => `(tactic| with_reducible first | (apply i_bm) | apply i_try | apply i_callS | apply i_methS | apply i_raiseX | (apply i_mks; (solve | assumption)) | apply i_rng3 | apply i_dnin | apply i_keys | (apply i_dgetF; (solve | walk_at "h"); (solve | assumption); (solve | assumption)) | apply i_dget2 | apply i_dnewT | (apply i_dgetT; (solve | walk_at "h"); (solve | walk_at "h"); (solve | assumption)) |  apply i_txf | (apply i_isX; (solve | assumption); (solve | walk_at "h")) | (apply i_xf; (solve | walk_at "h"); (solve | walk_at "k")) | (apply i_tyK; (solve | assumption)) | apply i_tyS | (apply i_ixK; (solve | assumption); (solve | assumption | with_unfolding_all rfl)) | (apply i_lenK; (solve | assumption); (exact rfl)) | (apply i_tupLN; (solve | walk_at "h")) | (apply i_var; (solve | with_unfolding_all rfl)) | apply i_cons | apply i_nil | apply i_c | apply i_op | apply i_asg | apply i_seq | apply i_gname | apply i_eqS | apply i_eqI | apply i_neS | apply i_tt | apply i_ff | (apply i_ixA; (solve | walk_at "h"); (solve | exact IxO.lst (by assumption) | exact IxO.tup (by assumption) | exact .lst (by with_unfolding_all rfl) | exact .tup (by with_unfolding_all rfl))) | apply i_bl | apply i_test | apply i_ifS | apply i_tupN | (apply i_tupO; (solve | assumption); (exact (sz (by (try simp) <;> omega))); intro p H O) | apply i_fld | (apply i_fldO; (solve | walk_at "h"); (solve | assumption); (solve | assumption); (solve | walk_at "k")) | (apply i_tB; (solve | decide +kernel)) | (apply i_fB; (solve | decide +kernel)) | apply i_ret | apply i_retN | apply i_drop | apply i_next | apply i_brk | apply i_cnt | apply i_par | apply i_par2 | apply i_fldSN | apply i_dput | apply i_un | apply i_rU | apply i_rI0 | apply i_B | apply i_tru | apply i_truB | apply i_and | apply i_or | apply i_not | apply i_andV | apply i_orV | apply i_notV | apply i_if | apply i_call | apply i_meth | apply i_makeN | apply i_cb | apply i_dnewN | apply i_lstN | apply i_bml | apply i_gsub | apply i_gcons | apply i_gnil | apply i_sl | apply i_nop | apply i_part | apply i_prt | apply i_isN | apply i_notN | apply i_yes | apply i_ntt | apply i_nff | apply i_addI | apply i_neI | apply i_intI | apply i_intB | apply i_abs | apply i_isiIB | apply i_isiNB | apply i_isiBB | apply i_dget | apply i_for | apply i_ilist | apply i_itup | apply i_rng1 | apply i_rng2 | apply i_ex1 | apply i_ex2 | apply i_exr | apply i_disp | apply i_pcons | apply i_pnil | apply i_neN | apply i_eqN | apply i_neB | apply i_eqB | apply i_lc | apply i_dnI | apply i_nyI | apply i_dnR | apply i_nyR | (apply i_lenA; (solve | walk_at "h"); (solve | first | exact .lst | exact .tup | exact .dK)) | (apply i_isL; (solve | walk_at "h")) | (apply i_isiLL; (solve | walk_at "h")) | (apply i_isiTL; (solve | walk_at "h")) | (apply i_gtup; (solve | walk_at "h"); (solve | with_unfolding_all rfl)) | (apply i_fldSO; (solve | assumption); (solve | walk_at "u"); (solve | walk_at "f"); (solve | assumption); (solve | assumption); (solve | simp); intro H O) | (apply i_lstO; (solve | assumption); (exact (sz (by (try simp) <;> omega))); intro p H O) | (apply i_makeO; (solve | assumption); intro x dx H O) | (apply i_methO; (solve | walk_at "h"); (solve | walk_at "k")) | (apply i_newO; (solve | assumption); intro p H O) | (apply i_listN; (solve | walk_at "h")) | (apply i_listTN; (solve | walk_at "h")) | (apply i_addN; (solve | walk_at "h"); (solve | walk_at "h"); (exact (sz (by (try simp) <;> omega)))) | apply i_mkd | apply i_gfld | (apply i_glst; (solve | walk_at "h"); (solve | with_unfolding_all rfl)) | apply i_isB | apply i_notB | (apply i_inO; (solve | walk_at "h"); (solve | with_unfolding_all rfl); (solve | with_unfolding_all rfl)) | (apply i_dgetI; (solve | walk_at "h"); (solve | assumption)) | (apply i_in; (solve | with_unfolding_all rfl); (solve | walk_at "e")) | (apply i_setO; (solve | assumption); (solve | walk_at "u"); (solve | with_unfolding_all rfl); intro H O) | (apply i_appO; (solve | assumption); (solve | walk_at "u"); (exact (szl (by (try simp) <;> omega))); intro H O) | (apply i_drawO; (solve | assumption); (exact rfl); (solve | decide); (solve | decide); intro r H h0 h1 O))
local macro_rules | `(tactic| walk_at "s") => `(tactic| repeat (walk_at "s1"))
theorem take_flatP {α β : Type} {f : α → List β} {rs : List α} {i : Nat} {r : α} (h : rs[i]? = some r) : (rs.take (i + 1)).flatMap f = (rs.take i).flatMap f ++ f r := by
  rw [List.take_add_one, h, List.flatMap_append]
  simp
theorem mem_take1 {α : Type} {rs : List α} {i : Nat} {r x : α} (h : rs[i]? = some r) : x ∈ rs.take (i + 1) ↔ x ∈ rs.take i ∨ x = r := by
  rw [List.take_add_one, h, List.mem_append]
  simp
theorem not_take {α : Type} {r : α} : ∀ {rs : List α} {i : Nat}, rs.Nodup → rs[i]? = some r → r ∉ rs.take i
  | [], _, _, h => by cases h
  | x :: rs, 0, _, _ => by simp
  | x :: rs, i + 1, nd, h => fun hm => by
    have h' : rs[i]? = some r := h
    rw [List.take_succ_cons] at hm
    rcases List.mem_cons.mp hm with e | e
    · exact (List.nodup_cons.mp nd).1 (e ▸ List.mem_of_getElem? h')
    · exact not_take (List.nodup_cons.mp nd).2 h' e
/-- found messages stay few -/
theorem few {js ks : List Pr} {q : Pr → List Pr} {t : Int} (h : js.Perm ks) (h7 : ks.length ≤ 7) (hq : ∀ p ∈ ks, (q p).length ≤ 200) : ∀ i, ((js.take i).flatMap fun p => (tq t (q p)).map (fD p)).length ≤ 1400 := fun i => by
  have h1 : ∀ l : List Pr, (∀ p ∈ l, (q p).length ≤ 200) → (l.flatMap fun p => (tq t (q p)).map (fD p)).length ≤ l.length * 200 := by
    intro l
    induction l with
    | nil => intro _; exact Nat.zero_le _
    | cons p r ih =>
      intro hl
      rw [List.flatMap_cons, List.length_append, List.length_cons, Nat.succ_mul, List.length_map]
      have a := ih fun p hp => hl p (List.mem_cons_of_mem _ hp)
      have b := hl p List.mem_cons_self
      have c : (tq t (q p)).length ≤ (q p).length := (List.takeWhile_sublist _).length_le
      omega
  have h2 := h1 (js.take i) fun p hp => hq p (h.mem_iff.mp (List.mem_of_mem_take hp))
  have h3 : (js.take i).length ≤ 7 := by
    rw [List.length_take, h.length_eq]
    omega
  omega
set_option maxHeartbeats 32000000 in
theorem pure_Links_due (A : Ad) (vs : List V) (H : Hp) (Q : VK) (E : XK) (h : sp_Links_due A vs H Q E) : t_Links_due A { nx := fun _ H' => Q .non H', rt := Q } (L2.start ["self", "tick", "found", "pair", "row"] vs) H := by
  obtain ⟨a, c, B, ls, k, dk, dl, D, s, ks, r, v, q, t, rfl, F, O, nd, h7, hq, dt, hls, kk⟩ := h
  obtain ⟨F1, n1, n2, n3⟩ := F
  rw [st_Links_due]
  unfold t_Links_due
  walk_at "s"
  rename_i P H1 O
  refine i_sortDT O (by walk_at "h") kvs_keys fun ys p js H2 hp hw hy O => ?_
  obtain ⟨B1, s1, hy, O⟩ := Own.adoptAll (fun x hx xs => by
    rcases List.mem_cons.mp hx with e | hx
    · subst e
      exact fun z => by cases z
    rcases List.mem_cons.mp hx with e | hx
    · subst e
      exact fun z => by cases z
    rcases List.mem_cons.mp hx with e | hx
    · subst e
      exact fun z => by cases z
    rcases List.mem_cons.mp hx with e | hx
    · subst e
      exact fun z => by cases z
    rcases List.mem_append.mp hx with e | e
    · exact bl_noTup x e xs
    · exact hls x e xs) hy O
  obtain ⟨B2, s2, hp2, O⟩ := O.freeze
  have hy := Paired.mono (fun y j z => PairV.mono s2 z) hy
  have dt2 : ∀ x ∈ ks, DtAll B2 (v x) ((q x).map eD) := fun x hx => DtAll.mono (Same.trans s1 s2) (dt x hx)
  have ndj : js.Nodup := hp.nodup_iff.mpr nd
  walk_at "s"
  refine i_forL ys (fun i σ H' => ∃ x3 x4 B' v' fv, σ = [some (.ref k), some (.int t), some (.ref P), x3, x4] ∧ Same B2 B' ∧ (∀ x ∈ ks, DtAll B' (v' x) ((if x ∈ js.take i then dq t (q x) else q x).map eD)) ∧ DtAll B' fv ((js.take i).flatMap fun p => (tq t (q p)).map (fD p)) ∧
    Own a c B' H' ((P, .lst fv) :: (k, lnk A.c_Links dk dl s D) :: (D, .dT (kvs r ks)) :: (bl r v' ks ++ ls)))
    ⟨none, none, B2, v, [], rfl, Same.refl _, fun x hx => by rw [if_neg (by simp)]; exact dt2 x hx, .nil, O⟩ (fun i σ H' ⟨_, _, _, _, _, _, s3, _, _, O⟩ => SqL.of (O.kp (s3 _ _ hp2))) ?_ ?_
  · rintro i y σ H3 hyi ⟨x3, x4, B', v', fv, rfl, s3, dv, df, O⟩
    obtain ⟨j, hj, t0, rfl, ht0⟩ := Paired.at hy hyi
    have hjk : j ∈ ks := hp.mem_iff.mp (List.mem_of_getElem? hj)
    have hjn := not_take ndj hj
    have ht0 := s3 _ _ ht0
    have hv : valV (kvs r ks) (pk (j.1, j.2)) = some (.ref (r j)) := kvs_in hjk
    have d0 := dv j hjk
    rw [if_neg hjn] at d0
    have l0 := dtLen d0
    rw [List.length_map] at l0
    have lq := hq j hjk
    have lf := dtLen df
    have lf2 := few (t := t) hp h7 hq i
    walk_at "s"
    have O := Own.perm O (ls' := (P, .lst fv) :: (r j, .lst (v' j)) :: (k, lnk A.c_Links dk dl s D) :: (D, .dT (kvs r ks)) :: (bl r v' (ks.erase j) ++ ls)) (by
      refine List.Perm.cons _ ?_
      refine (((bl_pull hjk).append_right ls).cons _ |>.cons _).trans ?_
      simp only [List.cons_append]
      walk_at "pm")
    refine i_while (fun m σ H' => ∃ n B'' fv', m + n = (q j).length ∧ σ = [some (.ref k), some (.int t), some (.ref P), some (.ref t0), some (.ref (r j))] ∧ Same B' B'' ∧ (∀ e ∈ (q j).take n, e.1 ≤ t) ∧ DtAll B'' ((v' j).drop n) (((q j).drop n).map eD) ∧
      DtAll B'' fv' (((js.take i).flatMap fun p => (tq t (q p)).map (fD p)) ++ ((q j).take n).map (fD j)) ∧ Own a c B'' H' ((P, .lst fv') :: (r j, .lst ((v' j).drop n)) :: (k, lnk A.c_Links dk dl s D) :: (D, .dT (kvs r ks)) :: (bl r v' (ks.erase j) ++ ls))) (q j).length
      ⟨0, B', fv, rfl, rfl, Same.refl _, by simp, d0, by simpa using df, O⟩ ?_
    rintro m σ H4 ⟨n, B'', fv', hm, rfl, s4, hle, dd, df', O⟩
    have ht0 := s4 _ _ ht0
    have ld := dtLen dd
    rw [List.length_map, List.length_drop, List.length_drop] at ld
    have lf' := dtLen df'
    rw [List.length_append, List.length_map, List.length_take] at lf'
    -- the end of the while
    have fin : (∀ e, (q j)[n]? = some e → ¬ e.1 ≤ t) → ∃ x3 x4 B2' v2 fv2, ([some (.ref k), some (.int t), some (.ref P), some (.ref t0), some (.ref (r j))] : L2.St) = [some (.ref k), some (.int t), some (.ref P), x3, x4] ∧ Same B2 B2' ∧ (∀ x ∈ ks, DtAll B2' (v2 x) ((if x ∈ js.take (i + 1) then dq t (q x) else q x).map eD)) ∧ DtAll B2' fv2 ((js.take (i + 1)).flatMap fun p => (tq t (q p)).map (fD p)) ∧
        Own a c B2' H4 ((P, .lst fv2) :: (k, lnk A.c_Links dk dl s D) :: (D, .dT (kvs r ks)) :: (bl r v2 ks ++ ls)) := by
      intro hend
      obtain ⟨c1, c2⟩ := cutq hle hend (by omega)
      refine ⟨_, _, B'', up v' j ((v' j).drop n), fv', rfl, Same.trans s3 s4, fun x hx => ?_, ?_, ?_⟩
      · by_cases e : x = j
        · subst e
          rw [up_same, if_pos ((mem_take1 hj).mpr (.inr rfl)), ← c2]
          exact dd
        · rw [up_ne e]
          have z := DtAll.mono s4 (dv x hx)
          by_cases hxi : x ∈ js.take i
          · rw [if_pos hxi] at z
            rw [if_pos ((mem_take1 hj).mpr (.inl hxi))]
            exact z
          · rw [if_neg hxi] at z
            rw [if_neg (fun w => ((mem_take1 hj).mp w).elim hxi e)]
            exact z
      · rw [take_flatP hj, ← c1]
        exact df'
      · refine O.perm ?_
        refine List.Perm.cons _ ?_
        have e9 : bl r (up v' j ((v' j).drop n)) (ks.erase j) = bl r v' (ks.erase j) := bl_other nd fun y hy => ⟨rfl, up_ne hy⟩
        refine List.Perm.symm ?_
        refine (((bl_pull hjk).append_right ls).cons _ |>.cons _).trans ?_
        rw [e9, up_same]
        simp only [List.cons_append]
        walk_at "pm"
    walk_at "s"
    refine i_d2 (fun h5 => ?_) (fun h5 => ?_)
    · rw [List.length_drop] at h5
      have hn : n < (q j).length := by omega
      have hqn : ((q j).drop n)[0]? = some (q j)[n] := by
        rw [List.getElem?_drop]
        exact List.getElem?_eq_getElem (by omega)
      obtain ⟨e0, he0, de⟩ := dtAt dd (i := 0) (d := eD (q j)[n]) (by rw [List.getElem?_map, hqn]; rfl)
      obtain ⟨t1, m1, rfl, ht1, hm1⟩ := dtE de
      have a0 : atI ((v' j).drop n) 0 = some (.ref t1) := atI_nat (j := 0) he0
      walk_at "s"
      refine i_d2 (fun h6 => ?_) (fun h6 => ?_)
      · refine i_wgo ?_
        walk_at "s"
        refine i_popIO O (by walk_at "u") (j := 0) rfl (by decide) he0 fun H5 O => ?_
        rw [List.eraseIdx_zero, List.tail_drop] at O
        walk_at "s"
        rename_i t2 H6 O6 H7 O
        obtain ⟨B3, s5, ht2, O⟩ := O.freeze
        refine ⟨m - 1, by omega, n + 1, B3, fv' ++ [.ref t2], by omega, rfl, Same.trans s4 s5, fun e he => ?_, ?_, ?_, O⟩
        · rcases (mem_take1 (List.getElem?_eq_getElem hn)).mp he with w | w
          · exact hle e w
          · rw [w]
            exact h6
        · have z := DtAll.mono s5 (dtErase dd 0)
          rw [List.eraseIdx_zero, List.tail_drop, List.eraseIdx_zero, ← List.map_tail, List.tail_drop] at z
          exact z
        · rw [List.take_add_one, List.getElem?_eq_getElem hn, List.map_append, ← List.append_assoc]
          exact dtSnoc (DtAll.mono s5 df') (.tup ht2 (.cons (.int _) (.cons (.tup (s5 _ _ hm1) (.cons (.str _) (.cons (.int _) .nil))) .nil)))
      · walk_at "s"
        refine fin fun e he => ?_
        rw [List.getElem?_eq_getElem hn] at he
        cases he
        exact h6
    · rw [List.length_drop] at h5
      walk_at "s"
      refine fin fun e he => ?_
      rw [List.getElem?_eq_none (by omega)] at he
      cases he
  · rintro σ H3 ⟨x3, x4, B', v', fv, rfl, s3, dv, df, O⟩
    have hl : ys.length = js.length := Paired.length hy
    rw [hl, List.take_length] at df
    walk_at "s"
    refine kk P fv v' js _ B' (Same.trans s1 (Same.trans s2 s3)) hp hw (fun x hx => ?_) df O
    have z := dv x hx
    rw [hl, List.take_length, if_pos (hp.mem_iff.mpr hx)] at z
    exact z
end K43
set_option Elab.async false
set_option linter.all false
set_option maxRecDepth 100000
set_option maxHeartbeats 4000000
namespace K43
open PySem PySem.Spec PyProof.Rows L2 Lb
local macro_rules | `(tactic| walk_at "pm") => `(tactic| (focus ((repeat (first | exact List.Perm.refl _ | (apply Pick.perm; (solve | repeat (first | exact Pick.here | apply Pick.there))))); done)))
local macro_rules | `(tactic| walk_at "h") => `(tactic| first | assumption | exact Own.mem (by assumption) (by walk_at "m") | exact Own.kp (by assumption) (by assumption))
local macro_rules | `(tactic| walk_at "m") => `(tactic| (focus ((repeat (first | assumption | exact List.mem_cons_self | apply List.mem_cons_of_mem)); done)))
local macro_rules | `(tactic| walk_at "u") => `(tactic| (focus ((repeat (first | exact Up1.here | apply Up1.there)); done)))
local macro_rules | `(tactic| walk_at "p") => `(tactic| (focus ((repeat (first | exact Pre.nil | apply Pre.cons)); done)))
local macro_rules | `(tactic| walk_at "f") => `(tactic| (focus ((repeat (first | exact PutF.here | exact PutF.nil | (apply PutF.there; (solve | decide +kernel)))); done)))
local macro_rules | `(tactic| walk_at "k") => `(tactic| (focus ((repeat (first | exact LkF.here rfl | exact LkF.nil rfl | refine LkF.there (by decide +kernel) ?_)); done)))
local macro_rules | `(tactic| walk_at "e") => `(tactic| (focus ((repeat (first | exact StE.nil | apply StE.app | apply StE.got | apply StE.lack)); done)))
local macro_rules | `(tactic| walk_at "d") => `(tactic| (focus ((repeat (first | exact Dt.int _ | exact Dt.str _ | exact Dt.non | exact Dt.bl _ | exact DtAll.nil | exact DtAll.ints _ | apply DtAll.cons | (apply Dt.tup; (solve | walk_at "h")) | (apply Dt.lst; (solve | walk_at "h")))); done)))
local macro_rules | `(tactic| walk_at "sh") => `(tactic| (focus ((repeat (first | exact Sh.int | exact Sh.non | exact Sh.str (by decide +kernel) | exact ShA.nil | exact ShA.ints | apply ShA.cons | apply Sh.lst | apply Sh.tup)); done)))
local macro_rules | `(tactic| walk_at "ne") => `(tactic| (apply rd_neF; (solve | walk_at "d"); (solve | walk_at "d"); (solve | exact Sh.shp (n := 4) (by walk_at "sh"))))
local macro_rules | `(tactic| walk_at "s1") => `(tactic| with_reducible first | (apply i_bm) | apply i_try | apply i_callS | apply i_methS | apply i_raiseX | (apply i_mks; (solve | assumption)) | apply i_rng3 | apply i_dnin | apply i_keys | (apply i_dgetF; (solve | walk_at "h"); (solve | assumption); (solve | assumption)) | apply i_dget2 | apply i_dnewT | (apply i_dgetT; (solve | walk_at "h"); (solve | walk_at "h"); (solve | assumption)) |  apply i_txf | (apply i_isX; (solve | assumption); (solve | walk_at "h")) | (apply i_xf; (solve | walk_at "h"); (solve | walk_at "k")) | (apply i_tyK; (solve | assumption)) | apply i_tyS | (apply i_ixK; (solve | assumption); (solve | assumption | with_unfolding_all rfl)) | (apply i_lenK; (solve | assumption); (exact rfl)) | (apply i_tupLN; (solve | walk_at "h")) | (apply i_var; (solve | with_unfolding_all rfl)) | apply i_cons | apply i_nil | apply i_c | apply i_op | apply i_asg | apply i_seq | apply i_gname | apply i_eqS | apply i_eqI | apply i_neS | apply i_tt | apply i_ff | (apply i_ixA; (solve | walk_at "h"); (solve | exact IxO.lst (by assumption) | exact IxO.tup (by assumption) | exact .lst (by with_unfolding_all rfl) | exact .tup (by with_unfolding_all rfl))) | apply i_bl | apply i_test | apply i_ifS | apply i_tupN | (apply i_tupO; (solve | assumption); (exact (sz (by (try simp) <;> omega))); intro p H O) | apply i_fld | (apply i_fldO; (solve | walk_at "h"); (solve | assumption); (solve | assumption); (solve | walk_at "k")) | (apply i_tB; (solve | decide +kernel)) | (apply i_fB; (solve | decide +kernel)) | apply i_ret | apply i_retN | apply i_drop | apply i_next | apply i_brk | apply i_cnt | apply i_par | apply i_par2 | apply i_fldSN | apply i_dput | apply i_un | apply i_rU | apply i_rI0 | apply i_B | apply i_tru | apply i_truB | apply i_and | apply i_or | apply i_not | apply i_andV | apply i_orV | apply i_notV | apply i_if | apply i_call | apply i_meth | apply i_makeN | apply i_cb | apply i_dnewN | apply i_lstN | apply i_bml | apply i_gsub | apply i_gcons | apply i_gnil | apply i_sl | apply i_nop | apply i_part | apply i_prt | apply i_isN | apply i_notN | apply i_yes | apply i_ntt | apply i_nff | apply i_addI | apply i_neI | apply i_intI | apply i_intB | apply i_abs | apply i_isiIB | apply i_isiNB | apply i_isiBB | apply i_dget | apply i_for | apply i_ilist | apply i_itup | apply i_rng1 | apply i_rng2 | apply i_ex1 | apply i_ex2 | apply i_exr | apply i_disp | apply i_pcons | apply i_pnil | apply i_neN | apply i_eqN | apply i_neB | apply i_eqB | apply i_lc | apply i_dnI | apply i_nyI | apply i_dnR | apply i_nyR | (apply i_lenA; (solve | walk_at "h"); (solve | first | exact .lst | exact .tup | exact .dK)) | (apply i_isL; (solve | walk_at "h")) | (apply i_isiLL; (solve | walk_at "h")) | (apply i_isiTL; (solve | walk_at "h")) | (apply i_gtup; (solve | walk_at "h"); (solve | with_unfolding_all rfl)) | (apply i_fldSO; (solve | assumption); (solve | walk_at "u"); (solve | walk_at "f"); (solve | assumption); (solve | assumption); (solve | simp); intro H O) | (apply i_lstO; (solve | assumption); (exact (sz (by (try simp) <;> omega))); intro p H O) | (apply i_makeO; (solve | assumption); intro x dx H O) | (apply i_methO; (solve | walk_at "h"); (solve | walk_at "k")) | (apply i_newO; (solve | assumption); intro p H O) | (apply i_listN; (solve | walk_at "h")) | (apply i_listTN; (solve | walk_at "h")) | (apply i_addN; (solve | walk_at "h"); (solve | walk_at "h"); (exact (sz (by (try simp) <;> omega)))) | apply i_mkd | apply i_gfld | (apply i_glst; (solve | walk_at "h"); (solve | with_unfolding_all rfl)) | apply i_isB | apply i_notB | (apply i_inO; (solve | walk_at "h"); (solve | with_unfolding_all rfl); (solve | with_unfolding_all rfl)) | (apply i_dgetI; (solve | walk_at "h"); (solve | assumption)) | (apply i_in; (solve | with_unfolding_all rfl); (solve | walk_at "e")) | (apply i_setO; (solve | assumption); (solve | walk_at "u"); (solve | with_unfolding_all rfl); intro H O) | (apply i_appO; (solve | assumption); (solve | walk_at "u"); (exact (szl (by (try simp) <;> omega))); intro H O) | (apply i_drawO; (solve | assumption); (exact rfl); (solve | decide); (solve | decide); intro r H h0 h1 O))
local macro_rules | `(tactic| walk_at "s") => `(tactic| repeat (walk_at "s1"))
def t_send2 : Ad → TS := fun A => (tDrop (tBML rAppA (tDGet (tFld A.K (tVar 0) "rows") (tVar 5)) (tCons (tTup (tCons (tOp rAddA (tVar 1) (tMeth A.c_Links "delay" (sp_Links_delay A) [] E0 (tVar 0) tNil)) (tCons (tVar 4) tNil))) tNil)))
theorem dly_ix {ds : List Int} {s : Nat} (h : ds ≠ []) : atI (ds.map V.int) ((s : Int) % (ds.length : Int)) = some (.int (dly ds s)) := by
  have hl : 0 < ds.length := List.length_pos_iff.mpr h
  have e : (s : Int) % (ds.length : Int) = ((s % ds.length : Nat) : Int) := by omega
  have hm : s % ds.length < ds.length := Nat.mod_lt _ hl
  rw [e]
  refine atI_nat ?_
  unfold dly gs
  rw [if_neg h, List.getElem?_map, List.getElem?_eq_getElem hm]
  rfl
theorem dly_nil {s : Nat} : dly [] s = 1 := by
  unfold dly gs
  rw [if_pos rfl]
  show (([1] : List Int)[s % 1]?).getD 1 = 1
  rw [Nat.mod_one]
  rfl
theorem bl_up {r : Pr → Addr} {v : Pr → List V} {ks : List Pr} {p : Pr} {x : List V} (nd : ks.Nodup) (h : p ∈ ks) : ((r p, HO.lst x) :: bl r v (ks.erase p)).Perm (bl r (up v p x) ks) := by
  have e9 : bl r (up v p x) (ks.erase p) = bl r v (ks.erase p) := bl_other nd fun y hy => ⟨rfl, up_ne hy⟩
  refine List.Perm.symm ?_
  refine (bl_pull h).trans ?_
  rw [e9, up_same]
set_option maxHeartbeats 32000000 in
theorem send2_ok (A : Ad) (F : CF A) {a c k dk dl D m pt : Addr} {B H : Hp} {ls : List (Addr × HO)} {s : Nat} {ks : List Pr} {r : Pr → Addr} {v : Pr → List V} {q : Pr → List Pr} {t : Int} {p : Pr} {ds : List Int} {id : Int} {nx : L2.St → Hp → Prop} {rt : VK} {bk ct : L2.St → Hp → Prop}
    (O : Own a c B H ((k, lnk A.c_Links dk dl s D) :: (D, .dT (kvs r ks)) :: (bl r v ks ++ ls))) (nd : ks.Nodup) (hp : p ∈ ks) (hq : (q p).length ≤ 200) (dt : ∀ p ∈ ks, DtAll B (v p) ((q p).map eD)) (hm : B m = some (.tup [.str "m", .int id])) (hdl : B dl = some (.lst (ds.map V.int))) (hpt : B pt = some (.tup [.int p.1, .int p.2]))
    (hnx : ∀ v' H' B' σ, Same B B' → (∀ x ∈ ks, DtAll B' (v' x) ((up q p (q p ++ [(t + dly ds s, id)]) x).map eD)) → Own a c B' H' ((k, lnk A.c_Links dk dl (s + 1) D) :: (D, .dT (kvs r ks)) :: (bl r v' ks ++ ls)) → nx σ H') :
    t_send2 A ⟨nx, rt, bk, ct⟩ [some (.ref k), some (.int t), some (.int p.1), some (.int p.2), some (.ref m), some (.ref pt)] H := by
  obtain ⟨F1, n1, n2, n3⟩ := F
  unfold t_send2
  have hv : valV (kvs r ks) (pk (p.1, p.2)) = some (.ref (r p)) := kvs_in hp
  have O := Own.perm O (ls' := (r p, .lst (v p)) :: (k, lnk A.c_Links dk dl s D) :: (D, .dT (kvs r ks)) :: (bl r v (ks.erase p) ++ ls)) (by
    refine (((bl_pull hp).append_right ls).cons _ |>.cons _).trans ?_
    simp only [List.cons_append]
    walk_at "pm")
  have d0 := dt p hp
  have l0 := dtLen d0
  rw [List.length_map] at l0
  have fin : ∀ e H1, Own a c B H1 ((e, .tup [.int (t + dly ds s), .ref m]) :: (r p, .lst (v p ++ [.ref e])) :: (k, .ins A.c_Links dk [("delays", .ref dl), ("sent", .int ((s : Int) + 1)), ("rows", .ref D)]) :: (D, .dT (kvs r ks)) :: (bl r v (ks.erase p) ++ ls)) → ∀ σ, nx σ H1 := by
    intro e H1 O σ
    rw [show (s : Int) + 1 = ((s + 1 : Nat) : Int) by omega] at O
    obtain ⟨B1, s1, he, O⟩ := O.freeze
    refine hnx (up v p (v p ++ [.ref e])) H1 B1 σ s1 (fun x hx => ?_) (O.perm ?_)
    · by_cases ex : x = p
      · subst ex
        rw [up_same, up_same, List.map_append]
        exact dtSnoc (DtAll.mono s1 (dt x hx)) (.tup he (.cons (.int _) (.cons (.tup (s1 _ _ hm) (.cons (.str _) (.cons (.int _) .nil))) .nil)))
      · rw [up_ne ex, up_ne ex]
        exact DtAll.mono s1 (dt x hx)
    · refine List.Perm.symm ?_
      refine (((bl_up nd hp).symm.append_right ls).cons _ |>.cons _).trans ?_
      simp only [List.cons_append]
      walk_at "pm"
  walk_at "s"
  refine i_d2 (fun h1 => ?_) (fun h1 => ?_)
  · rw [List.length_map] at h1
    have hne : ds ≠ [] := fun e => by
      subst e
      exact absurd h1 (by decide)
    have hix := dly_ix (s := s) hne
    walk_at "s"
    rw [List.length_map]
    refine i_rI (by omega) ?_
    walk_at "s"
    exact fin _ _ ‹Own a c B _ _› _
  · rw [List.length_map] at h1
    have hne : ds = [] := List.length_eq_zero_iff.mp (by omega)
    subst hne
    have e1 := dly_nil (s := s)
    walk_at "s"
    rename_i e2 H2 O2 H3 O
    refine fin e2 _ ?_ _
    rw [e1]
    exact O
theorem i_dnotIn {H : Hp} {D b : Addr} {kvs : List (List Key × V)} {i j : Int} {v : V} {R : Bool → Prop} (h : H D = some (.dT kvs)) (hb : H b = some (.tup [.int i, .int j])) (hv : valV kvs (pk (i, j)) = some v) (q : R false) : (∃ a' o', V.ref D = .ref a' ∧ DGet H a' (.ref b) o' ∧ ∃ k, V.bl (!o'.isSome) = .bl k ∧ R k) := ⟨D, some v, rfl, .inr ⟨kvs, pk (i, j), b, .inl h, rfl, hb, hv.symm⟩, false, rfl, q⟩
theorem i_dnotOut {H : Hp} {D b : Addr} {kvs : List (List Key × V)} {i j : Int} {R : Bool → Prop} (h : H D = some (.dT kvs)) (hb : H b = some (.tup [.int i, .int j])) (hv : valV kvs (pk (i, j)) = none) (q : R true) : (∃ a' o', V.ref D = .ref a' ∧ DGet H a' (.ref b) o' ∧ ∃ k, V.bl (!o'.isSome) = .bl k ∧ R k) := ⟨D, none, rfl, .inr ⟨kvs, pk (i, j), b, .inl h, rfl, hb, hv.symm⟩, true, rfl, q⟩
theorem kvs_put {r : Pr → Addr} {ks : List Pr} {p : Pr} {x : Addr} (h : p ∉ ks) : putK (kvs r ks) (pk p) (.ref x) = kvs (up r p x) (ks ++ [p]) := by
  rw [putK_new _ (kvs_out h)]
  unfold kvs
  rw [List.map_append]
  congr 1
  · refine List.map_congr_left fun y hy => ?_
    rw [up_ne (fun e => h (by rw [← e]; exact hy))]
  · show [(pk p, V.ref x)] = [(pk p, V.ref (up r p x p))]
    rw [up_same]
theorem bl_new {r : Pr → Addr} {v : Pr → List V} {ks : List Pr} {p : Pr} {x : Addr} {xs : List V} (h : p ∉ ks) : bl (up r p x) (up v p xs) (ks ++ [p]) = bl r v ks ++ [(x, .lst xs)] := by
  unfold bl
  rw [List.map_append]
  congr 1
  · refine List.map_congr_left fun y hy => ?_
    have hne : y ≠ p := fun e => h (by rw [← e]; exact hy)
    rw [up_ne hne, up_ne hne]
  · show [(up r p x p, HO.lst (up v p xs p))] = _
    rw [up_same, up_same]
theorem nd_snoc {ks : List Pr} {p : Pr} (nd : ks.Nodup) (h : p ∉ ks) : (ks ++ [p]).Nodup := by
  rw [List.nodup_append]
  refine ⟨nd, by simp, fun a ha b hb e => h ?_⟩
  rw [List.mem_singleton.mp hb] at e
  rw [← e]
  exact ha
set_option maxHeartbeats 32000000 in
theorem pure_Links_send (A : Ad) (vs : List V) (H : Hp) (Q : VK) (E : XK) (h : sp_Links_send A vs H Q E) : t_Links_send A { nx := fun _ H' => Q .non H', rt := Q } (L2.start ["self", "tick", "source", "goal", "message", "pair"] vs) H := by
  obtain ⟨a, c, B, ls, k, dk, dl, D, m, s, ks, r, v, q, t, p, ds, id, rfl, F, O, nd, h7, hq, hq0, dt, hm, hdl, hds, kk⟩ := h
  have F0 := F
  obtain ⟨F1, n1, n2, n3⟩ := F
  rw [st_Links_send]
  show (tSeq (tAsg (tTup (tCons (tVar 2) (tCons (tVar 3) tNil))) (gName 5)) (tSeq (tIfS (tB (tDNotIn (tVar 5) (tFld A.K (tVar 0) "rows"))) (sDPut (tFld A.K (tVar 0) "rows") (tVar 5) (tLst tNil)) tNext) (t_send2 A))) { nx := fun _ H' => Q .non H', rt := Q } _ H
  walk_at "s"
  rename_i pt H1 O
  obtain ⟨B1, s1, hpt, O⟩ := O.freeze
  have hm1 := s1 _ _ hm
  have hdl1 := s1 _ _ hdl
  have dt1 : ∀ x ∈ ks, DtAll B1 (v x) ((q x).map eD) := fun x hx => DtAll.mono s1 (dt x hx)
  by_cases hp : p ∈ ks
  · rw [if_pos hp] at kk
    refine i_dnotIn (by walk_at "h") (by walk_at "h") (kvs_in hp) ?_
    walk_at "s"
    exact send2_ok A F0 O nd hp (hq p hp) dt1 hm1 hdl1 hpt fun v' H' B' σ s2 dv O => kk r v' H' B' (Same.trans s1 s2) dv O
  · rw [if_neg hp] at kk
    refine i_dnotOut (by walk_at "h") (by walk_at "h") (kvs_out hp) ?_
    walk_at "s"
    rename_i nl H2 O
    refine i_dputT O (by walk_at "u") (by walk_at "h") (szl (by unfold kvs; rw [List.length_map]; omega)) fun H3 O => ?_
    rw [show putK (kvs r ks) (pk (p.1, p.2)) (V.ref nl) = kvs (up r p nl) (ks ++ [p]) from kvs_put hp] at O
    have O := Own.perm O (ls' := (k, lnk A.c_Links dk dl s D) :: (D, .dT (kvs (up r p nl) (ks ++ [p]))) :: (bl (up r p nl) (up v p []) (ks ++ [p]) ++ ls)) (by
      rw [bl_new hp, List.append_assoc]
      refine ((List.Perm.swap _ _ _).trans ((List.Perm.swap _ _ _).cons _)).trans ?_
      refine List.Perm.cons _ (List.Perm.cons _ ?_)
      exact List.perm_middle.symm)
    refine send2_ok A F0 O (q := q) (nd_snoc nd hp) (by simp) (by rw [hq0 p hp]; simp) (fun x hx => ?_) hm1 hdl1 hpt fun v' H' B' σ s2 dv O => kk (up r p nl) v' H' B' (Same.trans s1 s2) dv O
    rcases List.mem_append.mp hx with e | e
    · rw [up_ne (fun w => hp (by rw [← w]; exact e))]
      exact dt1 x e
    · rw [List.mem_singleton.mp e, up_same, hq0 p hp]
      exact .nil
end K43
set_option Elab.async false
set_option linter.all false
set_option maxRecDepth 100000
set_option maxHeartbeats 4000000
namespace K43
open PySem PySem.Spec PyProof.Rows L2 Lb
local macro_rules | `(tactic| walk_at "pm") => `(tactic| (focus ((repeat (first | exact List.Perm.refl _ | (apply Pick.perm; (solve | repeat (first | exact Pick.here | apply Pick.there))))); done)))
local macro_rules | `(tactic| walk_at "h") => `(tactic| first | assumption | exact Own.mem (by assumption) (by walk_at "m") | exact Own.kp (by assumption) (by assumption))
local macro_rules | `(tactic| walk_at "m") => `(tactic| (focus ((repeat (first | assumption | exact List.mem_cons_self | apply List.mem_cons_of_mem)); done)))
local macro_rules | `(tactic| walk_at "u") => `(tactic| (focus ((repeat (first | exact Up1.here | apply Up1.there)); done)))
local macro_rules | `(tactic| walk_at "p") => `(tactic| (focus ((repeat (first | exact Pre.nil | apply Pre.cons)); done)))
local macro_rules | `(tactic| walk_at "f") => `(tactic| (focus ((repeat (first | exact PutF.here | exact PutF.nil | (apply PutF.there; (solve | decide +kernel)))); done)))
local macro_rules | `(tactic| walk_at "k") => `(tactic| (focus ((repeat (first | exact LkF.here rfl | exact LkF.nil rfl | refine LkF.there (by decide +kernel) ?_)); done)))
local macro_rules | `(tactic| walk_at "e") => `(tactic| (focus ((repeat (first | exact StE.nil | apply StE.app | apply StE.got | apply StE.lack)); done)))
local macro_rules | `(tactic| walk_at "d") => `(tactic| (focus ((repeat (first | exact Dt.int _ | exact Dt.str _ | exact Dt.non | exact Dt.bl _ | exact DtAll.nil | exact DtAll.ints _ | apply DtAll.cons | (apply Dt.tup; (solve | walk_at "h")) | (apply Dt.lst; (solve | walk_at "h")))); done)))
local macro_rules | `(tactic| walk_at "sh") => `(tactic| (focus ((repeat (first | exact Sh.int | exact Sh.non | exact Sh.str (by decide +kernel) | exact ShA.nil | exact ShA.ints | apply ShA.cons | apply Sh.lst | apply Sh.tup)); done)))
local macro_rules | `(tactic| walk_at "ne") => `(tactic| (apply rd_neF; (solve | walk_at "d"); (solve | walk_at "d"); (solve | exact Sh.shp (n := 4) (by walk_at "sh"))))
local macro_rules | `(tactic| walk_at "s1") => `(tactic| with_reducible first | (apply i_bm) | apply i_try | apply i_callS | apply i_methS | apply i_raiseX | (apply i_mks; (solve | assumption)) | apply i_rng3 | apply i_dnin | apply i_keys | (apply i_dgetF; (solve | walk_at "h"); (solve | assumption); (solve | assumption)) | apply i_dget2 | apply i_dnewT | (apply i_dgetT; (solve | walk_at "h"); (solve | walk_at "h"); (solve | assumption)) |  apply i_txf | (apply i_isX; (solve | assumption); (solve | walk_at "h")) | (apply i_xf; (solve | walk_at "h"); (solve | walk_at "k")) | (apply i_tyK; (solve | assumption)) | apply i_tyS | (apply i_ixK; (solve | assumption); (solve | assumption | with_unfolding_all rfl)) | (apply i_lenK; (solve | assumption); (exact rfl)) | (apply i_tupLN; (solve | walk_at "h")) | (apply i_var; (solve | with_unfolding_all rfl)) | apply i_cons | apply i_nil | apply i_c | apply i_op | apply i_asg | apply i_seq | apply i_gname | apply i_eqS | apply i_eqI | apply i_neS | apply i_tt | apply i_ff | (apply i_ixA; (solve | walk_at "h"); (solve | exact IxO.lst (by assumption) | exact IxO.tup (by assumption) | exact .lst (by with_unfolding_all rfl) | exact .tup (by with_unfolding_all rfl))) | apply i_bl | apply i_test | apply i_ifS | apply i_tupN | (apply i_tupO; (solve | assumption); (exact (sz (by (try simp) <;> omega))); intro p H O) | apply i_fld | (apply i_fldO; (solve | walk_at "h"); (solve | assumption); (solve | assumption); (solve | walk_at "k")) | (apply i_tB; (solve | decide +kernel)) | (apply i_fB; (solve | decide +kernel)) | apply i_ret | apply i_retN | apply i_drop | apply i_next | apply i_brk | apply i_cnt | apply i_par | apply i_par2 | apply i_fldSN | apply i_dput | apply i_un | apply i_rU | apply i_rI0 | apply i_B | apply i_tru | apply i_truB | apply i_and | apply i_or | apply i_not | apply i_andV | apply i_orV | apply i_notV | apply i_if | apply i_call | apply i_meth | apply i_makeN | apply i_cb | apply i_dnewN | apply i_lstN | apply i_bml | apply i_gsub | apply i_gcons | apply i_gnil | apply i_sl | apply i_nop | apply i_part | apply i_prt | apply i_isN | apply i_notN | apply i_yes | apply i_ntt | apply i_nff | apply i_addI | apply i_neI | apply i_intI | apply i_intB | apply i_abs | apply i_isiIB | apply i_isiNB | apply i_isiBB | apply i_dget | apply i_for | apply i_ilist | apply i_itup | apply i_rng1 | apply i_rng2 | apply i_ex1 | apply i_ex2 | apply i_exr | apply i_disp | apply i_pcons | apply i_pnil | apply i_neN | apply i_eqN | apply i_neB | apply i_eqB | apply i_lc | apply i_dnI | apply i_nyI | apply i_dnR | apply i_nyR | (apply i_lenA; (solve | walk_at "h"); (solve | first | exact .lst | exact .tup | exact .dK)) | (apply i_isL; (solve | walk_at "h")) | (apply i_isiLL; (solve | walk_at "h")) | (apply i_isiTL; (solve | walk_at "h")) | (apply i_gtup; (solve | walk_at "h"); (solve | with_unfolding_all rfl)) | (apply i_fldSO; (solve | assumption); (solve | walk_at "u"); (solve | walk_at "f"); (solve | assumption); (solve | assumption); (solve | simp); intro H O) | (apply i_lstO; (solve | assumption); (exact (sz (by (try simp) <;> omega))); intro p H O) | (apply i_makeO; (solve | assumption); intro x dx H O) | (apply i_methO; (solve | walk_at "h"); (solve | walk_at "k")) | (apply i_newO; (solve | assumption); intro p H O) | (apply i_listN; (solve | walk_at "h")) | (apply i_listTN; (solve | walk_at "h")) | (apply i_addN; (solve | walk_at "h"); (solve | walk_at "h"); (exact (sz (by (try simp) <;> omega)))) | apply i_mkd | apply i_gfld | (apply i_glst; (solve | walk_at "h"); (solve | with_unfolding_all rfl)) | apply i_isB | apply i_notB | (apply i_inO; (solve | walk_at "h"); (solve | with_unfolding_all rfl); (solve | with_unfolding_all rfl)) | (apply i_dgetI; (solve | walk_at "h"); (solve | assumption)) | (apply i_in; (solve | with_unfolding_all rfl); (solve | walk_at "e")) | (apply i_setO; (solve | assumption); (solve | walk_at "u"); (solve | with_unfolding_all rfl); intro H O) | (apply i_appO; (solve | assumption); (solve | walk_at "u"); (exact (szl (by (try simp) <;> omega))); intro H O) | (apply i_drawO; (solve | assumption); (exact rfl); (solve | decide); (solve | decide); intro r H h0 h1 O))
local macro_rules | `(tactic| walk_at "s") => `(tactic| repeat (walk_at "s1"))
set_option maxHeartbeats 16000000 in
theorem pure_Links_empty (A : Ad) (vs : List V) (H : Hp) (Q : VK) (E : XK) (h : sp_Links_empty A vs H Q E) : t_Links_empty A { nx := fun _ H' => Q .non H', rt := Q } (L2.start ["self", "pair"] vs) H := by
  obtain ⟨a, c, B, ls, k, dk, dl, D, s, ks, r, v, q, rfl, F, O, nd, h7, dt, kk⟩ := h
  obtain ⟨F1, n1, n2, n3⟩ := F
  rw [st_Links_empty]
  unfold t_Links_empty
  walk_at "s"
  refine i_lock (D := D) (O.mem (by walk_at "m")) fun od => ?_
  have O := O.set (p := D) (o' := .frz od (.dT (kvs r ks))) (by walk_at "u")
  generalize upd H D (.frz od (.dT (kvs r ks))) = H1 at O
  walk_at "s"
  refine ⟨D, od, rfl, .inr ⟨kvs r ks, O.mem (by walk_at "m"), fun E hE => ?_⟩⟩
  have kl : (kvs r ks).length = ks.length := List.length_map _
  refine i_lcKT (fun i H' => Own a c B H' ((E, .lst ((ks.take i).map fun p => V.bl (decide ((q p).length = 0)))) :: (k, lnk A.c_Links dk dl s D) :: (D, .frz od (.dT (kvs r ks))) :: (bl r v ks ++ ls))) (O.new hE) (fun i H' O => O.mem (by walk_at "m")) ?_ ?_
  · rintro i kp x b H2 hx hb O
    obtain ⟨p, hp, e⟩ := mapGet hx
    cases e
    have hpk : p ∈ ks := List.mem_of_getElem? hp
    have hb2 : H2 b = some (.tup [.int p.1, .int p.2]) := hb
    have hv : valV (kvs r ks) (pk (p.1, p.2)) = some (.ref (r p)) := kvs_in hpk
    have hr : H2 (r p) = some (.lst (v p)) := O.mem (List.mem_cons_of_mem _ (List.mem_cons_of_mem _ (List.mem_cons_of_mem _ (List.mem_append_left _ (List.mem_map_of_mem hpk)))))
    have hvl := dtLen (dt p hpk)
    rw [List.length_map] at hvl
    walk_at "s"
    refine ⟨_, O.mem (by walk_at "m"), szl (by rw [List.length_map, List.length_take]; omega), ?_⟩
    have O2 := O.set (p := E) (o' := .lst ((ks.take i).map (fun p => V.bl (decide ((q p).length = 0))) ++ [V.bl (decide ((q p).length = 0))])) .here
    rw [List.take_add_one, hp, List.map_append]
    have e9 : (decide (((v p).length : Int) = 0)) = decide ((q p).length = 0) := by
      rw [hvl]
      exact decide_eq_decide.mpr (by omega)
    rw [e9]
    exact O2
  · rintro H2 O
    rw [kl, List.take_length] at O
    refine ⟨O.mem (by walk_at "m"), ?_⟩
    have O := O.set (p := D) (o' := .dT (kvs r ks)) (by walk_at "u")
    generalize upd H2 D (.dT (kvs r ks)) = H3 at O
    walk_at "s"
    refine i_all (bs := ks.map fun p => decide ((q p).length = 0)) ?_ ?_
    · rw [List.map_map]
      exact O.mem List.mem_cons_self
    · exact kk _ (O.dropP (by walk_at "p"))
end K43
set_option Elab.async false
set_option linter.all false
set_option maxRecDepth 100000
set_option maxHeartbeats 4000000
namespace K43
open PySem PySem.Spec PyProof.Rows L2 Lb
local macro_rules | `(tactic| walk_at "pm") => `(tactic| (focus ((repeat (first | exact List.Perm.refl _ | (apply Pick.perm; (solve | repeat (first | exact Pick.here | apply Pick.there))))); done)))
local macro_rules | `(tactic| walk_at "h") => `(tactic| first | assumption | exact Own.mem (by assumption) (by walk_at "m") | exact Own.kp (by assumption) (by assumption))
local macro_rules | `(tactic| walk_at "m") => `(tactic| (focus ((repeat (first | assumption | exact List.mem_cons_self | apply List.mem_cons_of_mem)); done)))
local macro_rules | `(tactic| walk_at "u") => `(tactic| (focus ((repeat (first | exact Up1.here | apply Up1.there)); done)))
local macro_rules | `(tactic| walk_at "p") => `(tactic| (focus ((repeat (first | exact Pre.nil | apply Pre.cons)); done)))
local macro_rules | `(tactic| walk_at "f") => `(tactic| (focus ((repeat (first | exact PutF.here | exact PutF.nil | (apply PutF.there; (solve | decide +kernel)))); done)))
local macro_rules | `(tactic| walk_at "k") => `(tactic| (focus ((repeat (first | exact LkF.here rfl | exact LkF.nil rfl | refine LkF.there (by decide +kernel) ?_)); done)))
local macro_rules | `(tactic| walk_at "e") => `(tactic| (focus ((repeat (first | exact StE.nil | apply StE.app | apply StE.got | apply StE.lack)); done)))
local macro_rules | `(tactic| walk_at "d") => `(tactic| (focus ((repeat (first | exact Dt.int _ | exact Dt.str _ | exact Dt.non | exact Dt.bl _ | exact DtAll.nil | exact DtAll.ints _ | apply DtAll.cons | (apply Dt.tup; (solve | walk_at "h")) | (apply Dt.lst; (solve | walk_at "h")))); done)))
local macro_rules | `(tactic| walk_at "sh") => `(tactic| (focus ((repeat (first | exact Sh.int | exact Sh.non | exact Sh.str (by decide +kernel) | exact ShA.nil | exact ShA.ints | apply ShA.cons | apply Sh.lst | apply Sh.tup)); done)))
local macro_rules | `(tactic| walk_at "ne") => `(tactic| (apply rd_neF; (solve | walk_at "d"); (solve | walk_at "d"); (solve | exact Sh.shp (n := 4) (by walk_at "sh"))))
local macro_rules | `(tactic| walk_at "s1") => `(tactic| with_reducible first | (apply i_bm) | apply i_try | apply i_callS | apply i_methS | apply i_raiseX | (apply i_mks; (solve | assumption)) | apply i_rng3 | apply i_dnin | apply i_keys | (apply i_dgetF; (solve | walk_at "h"); (solve | assumption); (solve | assumption)) | apply i_dget2 | apply i_dnewT | (apply i_dgetT; (solve | walk_at "h"); (solve | walk_at "h"); (solve | assumption)) |  apply i_txf | (apply i_isX; (solve | assumption); (solve | walk_at "h")) | (apply i_xf; (solve | walk_at "h"); (solve | walk_at "k")) | (apply i_tyK; (solve | assumption)) | apply i_tyS | (apply i_ixK; (solve | assumption); (solve | assumption | with_unfolding_all rfl)) | (apply i_lenK; (solve | assumption); (exact rfl)) | (apply i_tupLN; (solve | walk_at "h")) | (apply i_var; (solve | with_unfolding_all rfl)) | apply i_cons | apply i_nil | apply i_c | apply i_op | apply i_asg | apply i_seq | apply i_gname | apply i_eqS | apply i_eqI | apply i_neS | apply i_tt | apply i_ff | (apply i_ixA; (solve | walk_at "h"); (solve | exact IxO.lst (by assumption) | exact IxO.tup (by assumption) | exact .lst (by with_unfolding_all rfl) | exact .tup (by with_unfolding_all rfl))) | apply i_bl | apply i_test | apply i_ifS | apply i_tupN | (apply i_tupO; (solve | assumption); (exact (sz (by (try simp) <;> omega))); intro p H O) | apply i_fld | (apply i_fldO; (solve | walk_at "h"); (solve | assumption); (solve | assumption); (solve | walk_at "k")) | (apply i_tB; (solve | decide +kernel)) | (apply i_fB; (solve | decide +kernel)) | apply i_ret | apply i_retN | apply i_drop | apply i_next | apply i_brk | apply i_cnt | apply i_par | apply i_par2 | apply i_fldSN | apply i_dput | apply i_un | apply i_rU | apply i_rI0 | apply i_B | apply i_tru | apply i_truB | apply i_and | apply i_or | apply i_not | apply i_andV | apply i_orV | apply i_notV | apply i_if | apply i_call | apply i_meth | apply i_makeN | apply i_cb | apply i_dnewN | apply i_lstN | apply i_bml | apply i_gsub | apply i_gcons | apply i_gnil | apply i_sl | apply i_nop | apply i_part | apply i_prt | apply i_isN | apply i_notN | apply i_yes | apply i_ntt | apply i_nff | apply i_addI | apply i_neI | apply i_intI | apply i_intB | apply i_abs | apply i_isiIB | apply i_isiNB | apply i_isiBB | apply i_dget | apply i_for | apply i_ilist | apply i_itup | apply i_rng1 | apply i_rng2 | apply i_ex1 | apply i_ex2 | apply i_exr | apply i_disp | apply i_pcons | apply i_pnil | apply i_neN | apply i_eqN | apply i_neB | apply i_eqB | apply i_lc | apply i_dnI | apply i_nyI | apply i_dnR | apply i_nyR | (apply i_lenA; (solve | walk_at "h"); (solve | first | exact .lst | exact .tup | exact .dK)) | (apply i_isL; (solve | walk_at "h")) | (apply i_isiLL; (solve | walk_at "h")) | (apply i_isiTL; (solve | walk_at "h")) | (apply i_gtup; (solve | walk_at "h"); (solve | with_unfolding_all rfl)) | (apply i_fldSO; (solve | assumption); (solve | walk_at "u"); (solve | walk_at "f"); (solve | assumption); (solve | assumption); (solve | simp); intro H O) | (apply i_lstO; (solve | assumption); (exact (sz (by (try simp) <;> omega))); intro p H O) | (apply i_makeO; (solve | assumption); intro x dx H O) | (apply i_methO; (solve | walk_at "h"); (solve | walk_at "k")) | (apply i_newO; (solve | assumption); intro p H O) | (apply i_listN; (solve | walk_at "h")) | (apply i_listTN; (solve | walk_at "h")) | (apply i_addN; (solve | walk_at "h"); (solve | walk_at "h"); (exact (sz (by (try simp) <;> omega)))) | apply i_mkd | apply i_gfld | (apply i_glst; (solve | walk_at "h"); (solve | with_unfolding_all rfl)) | apply i_isB | apply i_notB | (apply i_inO; (solve | walk_at "h"); (solve | with_unfolding_all rfl); (solve | with_unfolding_all rfl)) | (apply i_dgetI; (solve | walk_at "h"); (solve | assumption)) | (apply i_in; (solve | with_unfolding_all rfl); (solve | walk_at "e")) | (apply i_setO; (solve | assumption); (solve | walk_at "u"); (solve | with_unfolding_all rfl); intro H O) | (apply i_appO; (solve | assumption); (solve | walk_at "u"); (exact (szl (by (try simp) <;> omega))); intro H O) | (apply i_drawO; (solve | assumption); (exact rfl); (solve | decide); (solve | decide); intro r H h0 h1 O))
local macro_rules | `(tactic| walk_at "s") => `(tactic| repeat (walk_at "s1"))
def t_lfor : Ad → TS := fun A => (tFor (iList A.K (tCB rSortDT (tCons (tVar 5) tNil))) (gName 9) (tSeq (tAsg (tDGet (tVar 5) (tVar 9)) (gName 10)) (tWhile (tAnd (tTest (tOp (rI0 fun i j => .bl (decide (j < i))) (tCB rLenA (tCons (tVar 10) tNil)) (tC (.int 0)))) (tTest (tOp (rI0 fun i j => .bl (decide (i ≤ j))) (tOp rIxA (tOp rIxA (tVar 10) (tC (.int 0))) (tC (.int 0))) (tVar 7)))) (tDrop (tBML rAppA (tVar 8) (tCons (tTup (tCons (tOp rIxA (tVar 9) (tC (.int 1))) (tCons (tOp rIxA (tBML rPopI (tVar 10) (tCons (tC (.int 0)) tNil)) (tC (.int 1))) tNil))) tNil))))))
set_option maxHeartbeats 32000000 in
theorem ldue_ok (A : Ad) {a c sc k gv D P : Addr} {kz : Addr × HO} {B H : Hp} {ls : List (Addr × HO)} {s : Nat} {ks : List Pr} {r : Pr → Addr} {v : Pr → List V} {q : Pr → List Pr} {t : Int} {x2 x9 x10 x11 x12 x13 : Option V} {nx : L2.St → Hp → Prop} {rt : VK} {bk ct : L2.St → Hp → Prop}
    (O : Own a c B H ((P, .lst []) :: kz :: (D, .dT (kvs r ks)) :: (bl r v ks ++ ls))) (nd : ks.Nodup) (h7 : ks.length ≤ 7) (hq : ∀ p ∈ ks, (q p).length ≤ 200) (dt : ∀ p ∈ ks, DtAll B (v p) ((q p).map eD)) (hkz : ∀ xs, kz.2 ≠ .tup xs) (hls : ∀ x ∈ ls, ∀ xs, x.2 ≠ .tup xs)
    (hnx : ∀ fv v' (js : List Pr) H' B' x9 x10, Same B B' → js.Perm ks → js.Pairwise (fun x y => SrtO.lexB y x = false) → (∀ p ∈ ks, DtAll B' (v' p) ((dq t (q p)).map eD)) → DtAll B' fv (js.flatMap fun p => (tq t (q p)).map (fD p)) →
      Own a c B' H' ((P, .lst fv) :: kz :: (D, .dT (kvs r ks)) :: (bl r v' ks ++ ls)) → nx [some (.ref sc), some (.ref a), x2, some (.ref k), some (.ref gv), some (.ref D), some (.int (s : Nat)), some (.int t), some (.ref P), x9, x10, x11, x12, x13] H') :
    t_lfor A ⟨nx, rt, bk, ct⟩ [some (.ref sc), some (.ref a), x2, some (.ref k), some (.ref gv), some (.ref D), some (.int (s : Nat)), some (.int t), some (.ref P), x9, x10, x11, x12, x13] H := by
  unfold t_lfor
  walk_at "s"
  refine i_sortDT O (by walk_at "h") kvs_keys fun ys p js H2 hp hw hy O => ?_
  obtain ⟨B1, s1, hy, O⟩ := Own.adoptAll (fun x hx xs => by
    rcases List.mem_cons.mp hx with e | hx
    · subst e
      exact fun z => by cases z
    rcases List.mem_cons.mp hx with e | hx
    · subst e
      exact fun z => by cases z
    rcases List.mem_cons.mp hx with e | hx
    · subst e
      exact hkz xs
    rcases List.mem_cons.mp hx with e | hx
    · subst e
      exact fun z => by cases z
    rcases List.mem_append.mp hx with e | e
    · exact bl_noTup x e xs
    · exact hls x e xs) hy O
  obtain ⟨B2, s2, hp2, O⟩ := O.freeze
  have hy := Paired.mono (fun y j z => PairV.mono s2 z) hy
  have dt2 : ∀ x ∈ ks, DtAll B2 (v x) ((q x).map eD) := fun x hx => DtAll.mono (Same.trans s1 s2) (dt x hx)
  have ndj : js.Nodup := hp.nodup_iff.mpr nd
  walk_at "s"
  refine i_forL ys (fun i σ H' => ∃ x3 x4 B' v' fv, σ = [some (.ref sc), some (.ref a), x2, some (.ref k), some (.ref gv), some (.ref D), some (.int (s : Nat)), some (.int t), some (.ref P), x3, x4, x11, x12, x13] ∧ Same B2 B' ∧ (∀ x ∈ ks, DtAll B' (v' x) ((if x ∈ js.take i then dq t (q x) else q x).map eD)) ∧ DtAll B' fv ((js.take i).flatMap fun p => (tq t (q p)).map (fD p)) ∧
    Own a c B' H' ((P, .lst fv) :: kz :: (D, .dT (kvs r ks)) :: (bl r v' ks ++ ls)))
    ⟨x9, x10, B2, v, [], rfl, Same.refl _, fun x hx => by rw [if_neg (by simp)]; exact dt2 x hx, .nil, O⟩ (fun i σ H' ⟨_, _, _, _, _, _, s3, _, _, O⟩ => SqL.of (O.kp (s3 _ _ hp2))) ?_ ?_
  · rintro i y σ H3 hyi ⟨x3, x4, B', v', fv, rfl, s3, dv, df, O⟩
    obtain ⟨j, hj, t0, rfl, ht0⟩ := Paired.at hy hyi
    have hjk : j ∈ ks := hp.mem_iff.mp (List.mem_of_getElem? hj)
    have hjn := not_take ndj hj
    have ht0 := s3 _ _ ht0
    have hv : valV (kvs r ks) (pk (j.1, j.2)) = some (.ref (r j)) := kvs_in hjk
    have d0 := dv j hjk
    rw [if_neg hjn] at d0
    have l0 := dtLen d0
    rw [List.length_map] at l0
    have lq := hq j hjk
    have lf := dtLen df
    have lf2 := few (t := t) hp h7 hq i
    walk_at "s"
    have O := Own.perm O (ls' := (P, .lst fv) :: (r j, .lst (v' j)) :: kz :: (D, .dT (kvs r ks)) :: (bl r v' (ks.erase j) ++ ls)) (by
      refine List.Perm.cons _ ?_
      refine (((bl_pull hjk).append_right ls).cons _ |>.cons _).trans ?_
      simp only [List.cons_append]
      walk_at "pm")
    refine i_while (fun m σ H' => ∃ n B'' fv', m + n = (q j).length ∧ σ = [some (.ref sc), some (.ref a), x2, some (.ref k), some (.ref gv), some (.ref D), some (.int (s : Nat)), some (.int t), some (.ref P), some (.ref t0), some (.ref (r j)), x11, x12, x13] ∧ Same B' B'' ∧ (∀ e ∈ (q j).take n, e.1 ≤ t) ∧ DtAll B'' ((v' j).drop n) (((q j).drop n).map eD) ∧
      DtAll B'' fv' (((js.take i).flatMap fun p => (tq t (q p)).map (fD p)) ++ ((q j).take n).map (fD j)) ∧ Own a c B'' H' ((P, .lst fv') :: (r j, .lst ((v' j).drop n)) :: kz :: (D, .dT (kvs r ks)) :: (bl r v' (ks.erase j) ++ ls))) (q j).length
      ⟨0, B', fv, rfl, rfl, Same.refl _, by simp, d0, by simpa using df, O⟩ ?_
    rintro m σ H4 ⟨n, B'', fv', hm, rfl, s4, hle, dd, df', O⟩
    have ht0 := s4 _ _ ht0
    have ld := dtLen dd
    rw [List.length_map, List.length_drop, List.length_drop] at ld
    have lf' := dtLen df'
    rw [List.length_append, List.length_map, List.length_take] at lf'
    -- the end of the while
    have fin : (∀ e, (q j)[n]? = some e → ¬ e.1 ≤ t) → ∃ x3 x4 B2' v2 fv2, ([some (.ref sc), some (.ref a), x2, some (.ref k), some (.ref gv), some (.ref D), some (.int (s : Nat)), some (.int t), some (.ref P), some (.ref t0), some (.ref (r j)), x11, x12, x13] : L2.St) = [some (.ref sc), some (.ref a), x2, some (.ref k), some (.ref gv), some (.ref D), some (.int (s : Nat)), some (.int t), some (.ref P), x3, x4, x11, x12, x13] ∧ Same B2 B2' ∧ (∀ x ∈ ks, DtAll B2' (v2 x) ((if x ∈ js.take (i + 1) then dq t (q x) else q x).map eD)) ∧ DtAll B2' fv2 ((js.take (i + 1)).flatMap fun p => (tq t (q p)).map (fD p)) ∧
        Own a c B2' H4 ((P, .lst fv2) :: kz :: (D, .dT (kvs r ks)) :: (bl r v2 ks ++ ls)) := by
      intro hend
      obtain ⟨c1, c2⟩ := cutq hle hend (by omega)
      refine ⟨_, _, B'', up v' j ((v' j).drop n), fv', rfl, Same.trans s3 s4, fun x hx => ?_, ?_, ?_⟩
      · by_cases e : x = j
        · subst e
          rw [up_same, if_pos ((mem_take1 hj).mpr (.inr rfl)), ← c2]
          exact dd
        · rw [up_ne e]
          have z := DtAll.mono s4 (dv x hx)
          by_cases hxi : x ∈ js.take i
          · rw [if_pos hxi] at z
            rw [if_pos ((mem_take1 hj).mpr (.inl hxi))]
            exact z
          · rw [if_neg hxi] at z
            rw [if_neg (fun w => ((mem_take1 hj).mp w).elim hxi e)]
            exact z
      · rw [take_flatP hj, ← c1]
        exact df'
      · refine O.perm ?_
        refine List.Perm.cons _ ?_
        have e9 : bl r (up v' j ((v' j).drop n)) (ks.erase j) = bl r v' (ks.erase j) := bl_other nd fun y hy => ⟨rfl, up_ne hy⟩
        refine List.Perm.symm ?_
        refine (((bl_pull hjk).append_right ls).cons _ |>.cons _).trans ?_
        rw [e9, up_same]
        simp only [List.cons_append]
        walk_at "pm"
    walk_at "s"
    refine i_d2 (fun h5 => ?_) (fun h5 => ?_)
    · rw [List.length_drop] at h5
      have hn : n < (q j).length := by omega
      have hqn : ((q j).drop n)[0]? = some (q j)[n] := by
        rw [List.getElem?_drop]
        exact List.getElem?_eq_getElem (by omega)
      obtain ⟨e0, he0, de⟩ := dtAt dd (i := 0) (d := eD (q j)[n]) (by rw [List.getElem?_map, hqn]; rfl)
      obtain ⟨t1, m1, rfl, ht1, hm1⟩ := dtE de
      have a0 : atI ((v' j).drop n) 0 = some (.ref t1) := atI_nat (j := 0) he0
      walk_at "s"
      refine i_d2 (fun h6 => ?_) (fun h6 => ?_)
      · refine i_wgo ?_
        walk_at "s"
        refine i_popIO O (by walk_at "u") (j := 0) rfl (by decide) he0 fun H5 O => ?_
        rw [List.eraseIdx_zero, List.tail_drop] at O
        walk_at "s"
        rename_i t2 H6 O6 H7 O
        obtain ⟨B3, s5, ht2, O⟩ := O.freeze
        refine ⟨m - 1, by omega, n + 1, B3, fv' ++ [.ref t2], by omega, rfl, Same.trans s4 s5, fun e he => ?_, ?_, ?_, O⟩
        · rcases (mem_take1 (List.getElem?_eq_getElem hn)).mp he with w | w
          · exact hle e w
          · rw [w]
            exact h6
        · have z := DtAll.mono s5 (dtErase dd 0)
          rw [List.eraseIdx_zero, List.tail_drop, List.eraseIdx_zero, ← List.map_tail, List.tail_drop] at z
          exact z
        · rw [List.take_add_one, List.getElem?_eq_getElem hn, List.map_append, ← List.append_assoc]
          exact dtSnoc (DtAll.mono s5 df') (.tup ht2 (.cons (.int _) (.cons (.tup (s5 _ _ hm1) (.cons (.str _) (.cons (.int _) .nil))) .nil)))
      · walk_at "s"
        refine fin fun e he => ?_
        rw [List.getElem?_eq_getElem hn] at he
        cases he
        exact h6
    · rw [List.length_drop] at h5
      walk_at "s"
      refine fin fun e he => ?_
      rw [List.getElem?_eq_none (by omega)] at he
      cases he
  · rintro σ H3 ⟨x3, x4, B', v', fv, rfl, s3, dv, df, O⟩
    have hl : ys.length = js.length := Paired.length hy
    rw [hl, List.take_length] at df
    walk_at "s"
    refine hnx fv v' js _ B' x3 x4 (Same.trans s1 (Same.trans s2 s3)) hp hw (fun x hx => ?_) df O
    have z := dv x hx
    rw [hl, List.take_length, if_pos (hp.mem_iff.mpr hx)] at z
    exact z
end K43
set_option Elab.async false
set_option linter.all false
set_option maxRecDepth 100000
set_option maxHeartbeats 4000000
namespace K43
open PySem PySem.Spec PyProof.Rows L2 Lb
local macro_rules | `(tactic| walk_at "pm") => `(tactic| (focus ((repeat (first | exact List.Perm.refl _ | (apply Pick.perm; (solve | repeat (first | exact Pick.here | apply Pick.there))))); done)))
local macro_rules | `(tactic| walk_at "h") => `(tactic| first | assumption | exact Own.mem (by assumption) (by walk_at "m") | exact Own.kp (by assumption) (by assumption))
local macro_rules | `(tactic| walk_at "m") => `(tactic| (focus ((repeat (first | assumption | exact List.mem_cons_self | apply List.mem_cons_of_mem)); done)))
local macro_rules | `(tactic| walk_at "u") => `(tactic| (focus ((repeat (first | exact Up1.here | apply Up1.there)); done)))
local macro_rules | `(tactic| walk_at "p") => `(tactic| (focus ((repeat (first | exact Pre.nil | apply Pre.cons)); done)))
local macro_rules | `(tactic| walk_at "f") => `(tactic| (focus ((repeat (first | exact PutF.here | exact PutF.nil | (apply PutF.there; (solve | decide +kernel)))); done)))
local macro_rules | `(tactic| walk_at "k") => `(tactic| (focus ((repeat (first | exact LkF.here rfl | exact LkF.nil rfl | refine LkF.there (by decide +kernel) ?_)); done)))
local macro_rules | `(tactic| walk_at "e") => `(tactic| (focus ((repeat (first | exact StE.nil | apply StE.app | apply StE.got | apply StE.lack)); done)))
local macro_rules | `(tactic| walk_at "d") => `(tactic| (focus ((repeat (first | exact Dt.int _ | exact Dt.str _ | exact Dt.non | exact Dt.bl _ | exact DtAll.nil | exact DtAll.ints _ | apply DtAll.cons | (apply Dt.tup; (solve | walk_at "h")) | (apply Dt.lst; (solve | walk_at "h")))); done)))
local macro_rules | `(tactic| walk_at "sh") => `(tactic| (focus ((repeat (first | exact Sh.int | exact Sh.non | exact Sh.str (by decide +kernel) | exact ShA.nil | exact ShA.ints | apply ShA.cons | apply Sh.lst | apply Sh.tup)); done)))
local macro_rules | `(tactic| walk_at "ne") => `(tactic| (apply rd_neF; (solve | walk_at "d"); (solve | walk_at "d"); (solve | exact Sh.shp (n := 4) (by walk_at "sh"))))
local macro_rules | `(tactic| walk_at "s1") => `(tactic| with_reducible first | (apply i_bm) | apply i_try | apply i_callS | apply i_methS | apply i_raiseX | (apply i_mks; (solve | assumption)) | apply i_rng3 | apply i_dnin | apply i_keys | (apply i_dgetF; (solve | walk_at "h"); (solve | assumption); (solve | assumption)) | apply i_dget2 | apply i_dnewT | (apply i_dgetT; (solve | walk_at "h"); (solve | walk_at "h"); (solve | assumption)) |  apply i_txf | (apply i_isX; (solve | assumption); (solve | walk_at "h")) | (apply i_xf; (solve | walk_at "h"); (solve | walk_at "k")) | (apply i_tyK; (solve | assumption)) | apply i_tyS | (apply i_ixK; (solve | assumption); (solve | assumption | with_unfolding_all rfl)) | (apply i_lenK; (solve | assumption); (exact rfl)) | (apply i_tupLN; (solve | walk_at "h")) | (apply i_var; (solve | with_unfolding_all rfl)) | apply i_cons | apply i_nil | apply i_c | apply i_op | apply i_asg | apply i_seq | apply i_gname | apply i_eqS | apply i_eqI | apply i_neS | apply i_tt | apply i_ff | (apply i_ixA; (solve | walk_at "h"); (solve | exact IxO.lst (by assumption) | exact IxO.tup (by assumption) | exact .lst (by with_unfolding_all rfl) | exact .tup (by with_unfolding_all rfl))) | apply i_bl | apply i_test | apply i_ifS | apply i_tupN | (apply i_tupO; (solve | assumption); (exact (sz (by (try simp) <;> omega))); intro p H O) | apply i_fld | (apply i_fldO; (solve | walk_at "h"); (solve | assumption); (solve | assumption); (solve | walk_at "k")) | (apply i_tB; (solve | decide +kernel)) | (apply i_fB; (solve | decide +kernel)) | apply i_ret | apply i_retN | apply i_drop | apply i_next | apply i_brk | apply i_cnt | apply i_par | apply i_par2 | apply i_fldSN | apply i_dput | apply i_un | apply i_rU | apply i_rI0 | apply i_B | apply i_tru | apply i_truB | apply i_and | apply i_or | apply i_not | apply i_andV | apply i_orV | apply i_notV | apply i_if | apply i_call | apply i_meth | apply i_makeN | apply i_cb | apply i_dnewN | apply i_lstN | apply i_bml | apply i_gsub | apply i_gcons | apply i_gnil | apply i_sl | apply i_nop | apply i_part | apply i_prt | apply i_isN | apply i_notN | apply i_yes | apply i_ntt | apply i_nff | apply i_addI | apply i_neI | apply i_intI | apply i_intB | apply i_abs | apply i_isiIB | apply i_isiNB | apply i_isiBB | apply i_dget | apply i_for | apply i_ilist | apply i_itup | apply i_rng1 | apply i_rng2 | apply i_ex1 | apply i_ex2 | apply i_exr | apply i_disp | apply i_pcons | apply i_pnil | apply i_neN | apply i_eqN | apply i_neB | apply i_eqB | apply i_lc | apply i_dnI | apply i_nyI | apply i_dnR | apply i_nyR | (apply i_lenA; (solve | walk_at "h"); (solve | first | exact .lst | exact .tup | exact .dK)) | (apply i_isL; (solve | walk_at "h")) | (apply i_isiLL; (solve | walk_at "h")) | (apply i_isiTL; (solve | walk_at "h")) | (apply i_gtup; (solve | walk_at "h"); (solve | with_unfolding_all rfl)) | (apply i_fldSO; (solve | assumption); (solve | walk_at "u"); (solve | walk_at "f"); (solve | assumption); (solve | assumption); (solve | simp); intro H O) | (apply i_lstO; (solve | assumption); (exact (sz (by (try simp) <;> omega))); intro p H O) | (apply i_makeO; (solve | assumption); intro x dx H O) | (apply i_methO; (solve | walk_at "h"); (solve | walk_at "k")) | (apply i_newO; (solve | assumption); intro p H O) | (apply i_listN; (solve | walk_at "h")) | (apply i_listTN; (solve | walk_at "h")) | (apply i_addN; (solve | walk_at "h"); (solve | walk_at "h"); (exact (sz (by (try simp) <;> omega)))) | apply i_mkd | apply i_gfld | (apply i_glst; (solve | walk_at "h"); (solve | with_unfolding_all rfl)) | apply i_isB | apply i_notB | (apply i_inO; (solve | walk_at "h"); (solve | with_unfolding_all rfl); (solve | with_unfolding_all rfl)) | (apply i_dgetI; (solve | walk_at "h"); (solve | assumption)) | (apply i_in; (solve | with_unfolding_all rfl); (solve | walk_at "e")) | (apply i_setO; (solve | assumption); (solve | walk_at "u"); (solve | with_unfolding_all rfl); intro H O) | (apply i_appO; (solve | assumption); (solve | walk_at "u"); (exact (szl (by (try simp) <;> omega))); intro H O) | (apply i_drawO; (solve | assumption); (exact rfl); (solve | decide); (solve | decide); intro r H h0 h1 O))
local macro_rules | `(tactic| walk_at "s") => `(tactic| repeat (walk_at "s1"))
def menu : List Pr := [(0, 1), (1, 0), (1, 2), (2, 1), (0, 3), (3, 0), (2, 3)]
structure Inv0 (dl gv : Addr) (ds : List Int) (ks : List Pr) (v1 v2 : Pr → List V) (q : Pr → List Pr) (bnd : Nat) (B : Hp) : Prop where
  hdl : B dl = some (.lst (ds.map V.int))
  hds : ds.length ≤ 6
  hgv : B gv = some (.lst ((gs ds).map V.int))
  nd : ks.Nodup
  hks : ∀ p ∈ ks, p ∈ menu
  hq : ∀ p, (q p).length ≤ bnd
  hq0 : ∀ p ∉ ks, q p = []
  d1 : ∀ p ∈ ks, DtAll B (v1 p) ((q p).map eD)
  d2 : ∀ p ∈ ks, DtAll B (v2 p) ((q p).map eD)
theorem Inv0.h7 {dl gv : Addr} {ds : List Int} {ks : List Pr} {v1 v2 : Pr → List V} {q : Pr → List Pr} {bnd : Nat} {B : Hp} (I : Inv0 dl gv ds ks v1 v2 q bnd B) : ks.length ≤ 7 := List.Nodup.length_le_of_subset I.nd (l₂ := menu) fun p hp => I.hks p hp
def base (A : Ad) (k dk dl : Addr) (s : Nat) (R1 R2 : Addr) (ks : List Pr) (r1 r2 : Pr → Addr) (v1 v2 : Pr → List V) : List (Addr × HO) :=
  (k, lnk A.c_Links dk dl s R1) :: (R1, .dT (kvs r1 ks)) :: (bl r1 v1 ks ++ ((R2, .dT (kvs r2 ks)) :: bl r2 v2 ks))
theorem base_noTup {A : Ad} {k dk dl : Addr} {s : Nat} {R1 R2 : Addr} {ks : List Pr} {r1 r2 : Pr → Addr} {v1 v2 : Pr → List V} : ∀ x ∈ base A k dk dl s R1 R2 ks r1 r2 v1 v2, ∀ xs, x.2 ≠ .tup xs := fun x hx xs => by
  unfold base at hx
  rcases List.mem_cons.mp hx with e | hx
  · subst e
    exact fun z => by cases z
  rcases List.mem_cons.mp hx with e | hx
  · subst e
    exact fun z => by cases z
  rcases List.mem_append.mp hx with e | hx
  · exact bl_noTup x e xs
  rcases List.mem_cons.mp hx with e | hx
  · subst e
    exact fun z => by cases z
  exact bl_noTup x hx xs
theorem gs_pos {ds : List Int} : 0 < (gs ds).length := by
  unfold gs
  split
  · decide
  · rename_i h
    exact List.length_pos_iff.mpr h
theorem gs_le {ds : List Int} (h : ds.length ≤ 6) : (gs ds).length ≤ 6 := by
  unfold gs
  split
  · decide
  · exact h
theorem gs_ix {ds : List Int} {s : Nat} : atI ((gs ds).map V.int) ((s : Int) - (s : Int) / ((gs ds).length : Int) * ((gs ds).length : Int)) = some (.int (dly ds s)) := by
  have hl := gs_pos (ds := ds)
  have e : (s : Int) - (s : Int) / ((gs ds).length : Int) * ((gs ds).length : Int) = ((s % (gs ds).length : Nat) : Int) := by
    have h1 := Int.emod_def (s : Int) ((gs ds).length : Int)
    rw [Int.mul_comm] at h1
    rw [← h1]
    omega
  have hm : s % (gs ds).length < (gs ds).length := Nat.mod_lt _ hl
  rw [e]
  refine atI_nat ?_
  unfold dly
  rw [List.getElem?_map, List.getElem?_eq_getElem hm]
  rfl
def t_msg : Ad → TS := fun A => (tSeq (tAsg (tCall spPick [] E0 (tCons (tVar 1) (tCons (tLst (tCons (tTup (tCons (tC (.int 0)) (tCons (tC (.int 1)) tNil))) (tCons (tTup (tCons (tC (.int 1)) (tCons (tC (.int 0)) tNil))) (tCons (tTup (tCons (tC (.int 1)) (tCons (tC (.int 2)) tNil))) (tCons (tTup (tCons (tC (.int 2)) (tCons (tC (.int 1)) tNil))) (tCons (tTup (tCons (tC (.int 0)) (tCons (tC (.int 3)) tNil))) (tCons (tTup (tCons (tC (.int 3)) (tCons (tC (.int 0)) tNil))) (tCons (tTup (tCons (tC (.int 2)) (tCons (tC (.int 3)) tNil))) tNil)))))))) tNil))) (gName 9)) (tSeq (tDrop (tMeth A.c_Links "send" (sp_Links_send A) [] E0 (tVar 3) (tCons (tVar 7) (tCons (tOp rIxA (tVar 9) (tC (.int 0))) (tCons (tOp rIxA (tVar 9) (tC (.int 1))) (tCons (tTup (tCons (tC (.str "m")) (tCons (tVar 6) tNil))) tNil)))))) (tSeq (sDPut (tVar 5) (tVar 9) (tOp rAddA (tDGet2 (tVar 5) (tVar 9) (tLst tNil)) (tLst (tCons (tTup (tCons (tOp rAddA (tVar 7) (tOp rIxA (tVar 4) (tOp (rI0 fun i j => .int (i - j)) (tVar 6) (tOp rMulA (tOp (rI CDiv fun i j => .int (i / j)) (tVar 6) (tCB rLenA (tCons (tVar 4) tNil))) (tCB rLenA (tCons (tVar 4) tNil)))))) (tCons (tTup (tCons (tC (.str "m")) (tCons (tVar 6) tNil))) tNil))) tNil)))) (tAsg (tOp rAddA (tVar 6) (tC (.int 1))) (gName 6)))))
theorem i_dget2In {H : Hp} {D b : Addr} {kvs : List (List Key × V)} {i j : Int} {z v : V} {R : V → Prop} (h : H D = some (.dT kvs)) (hb : H b = some (.tup [.int i, .int j])) (hv : valV kvs (pk (i, j)) = some v) (q : R v) : (∃ o', DGet H D (.ref b) o' ∧ R (o'.getD z)) :=
  ⟨some v, .inr ⟨kvs, pk (i, j), b, .inl h, rfl, hb, hv.symm⟩, q⟩
theorem i_dget2Out {H : Hp} {D b : Addr} {kvs : List (List Key × V)} {i j : Int} {z : V} {R : V → Prop} (h : H D = some (.dT kvs)) (hb : H b = some (.tup [.int i, .int j])) (hv : valV kvs (pk (i, j)) = none) (q : R z) : (∃ o', DGet H D (.ref b) o' ∧ R (o'.getD z)) :=
  ⟨none, .inr ⟨kvs, pk (i, j), b, .inl h, rfl, hb, hv.symm⟩, q⟩
theorem kvs_putIn {r : Pr → Addr} {ks : List Pr} {p : Pr} {x : Addr} (h : p ∈ ks) : putK (kvs r ks) (pk p) (.ref x) = kvs (up r p x) ks := by
  unfold putK
  rw [if_pos (by rw [valV_any, kvs_in h]; rfl)]
  unfold kvs
  rw [List.map_map]
  refine List.map_congr_left fun y hy => ?_
  show (if pk y = pk p then (pk y, V.ref x) else (pk y, V.ref (r y))) = (pk y, V.ref (up r p x y))
  by_cases e : y = p
  · rw [if_pos (congrArg pk e), e, up_same]
  · rw [if_neg (fun w => e (pk_inj w)), up_ne e]
theorem bl_upIn {r : Pr → Addr} {v : Pr → List V} {ks : List Pr} {p : Pr} {x : Addr} {xs : List V} (nd : ks.Nodup) (h : p ∈ ks) : ((x, HO.lst xs) :: bl r v (ks.erase p)).Perm (bl (up r p x) (up v p xs) ks) := by
  have e9 : bl (up r p x) (up v p xs) (ks.erase p) = bl r v (ks.erase p) := bl_other nd fun y hy => ⟨up_ne hy, up_ne hy⟩
  refine List.Perm.symm ?_
  refine (bl_pull h).trans ?_
  rw [e9, up_same, up_same]
theorem i_isD {H : Hp} {D : Addr} {kvs : List (List Key × V)} {R : Prop} (h : H D = some (.dT kvs)) (q : R) : IsD H D ∧ R := ⟨.inr ⟨kvs, .inl h⟩, q⟩
set_option maxHeartbeats 32000000 in
theorem msg_ok (A : Ad) (F : CF A) {a c sc k dk dl gv R1 R2 : Addr} {B H : Hp} {s bnd : Nat} {ds : List Int} {ks : List Pr} {r1 r2 : Pr → Addr} {v1 v2 : Pr → List V} {q : Pr → List Pr} {t : Int} {x2 x8 x9 x10 x11 x12 x13 : Option V} {nx : L2.St → Hp → Prop} {rt : VK} {bk ct : L2.St → Hp → Prop}
    (I : Inv0 dl gv ds ks v1 v2 q bnd B) (O : Own a c B H (base A k dk dl s R1 R2 ks r1 r2 v1 v2)) (hb : bnd ≤ 199)
    (hnx : ∀ ks' r1' v1' r2' v2' q' H' B' x9 x10 x11, Same B B' → Inv0 dl gv ds ks' v1' v2' q' (bnd + 1) B' → Own a c B' H' (base A k dk dl (s + 1) R1 R2 ks' r1' r2' v1' v2') → nx [some (.ref sc), some (.ref a), x2, some (.ref k), some (.ref gv), some (.ref R2), some (.int (s + 1 : Nat)), some (.int t), x8, x9, x10, x11, x12, x13] H') :
    t_msg A ⟨nx, rt, bk, ct⟩ [some (.ref sc), some (.ref a), x2, some (.ref k), some (.ref gv), some (.ref R2), some (.int (s : Nat)), some (.int t), x8, x9, x10, x11, x12, x13] H := by
  have F0 := F
  obtain ⟨F1, n1, n2, n3⟩ := F
  have h7 := I.h7
  unfold t_msg
  walk_at "s"
  apply i_pickO; (solve | assumption); (solve | rfl); (solve | walk_at "m"); (solve | simp); (solve | simp)
  intro v H2 hv O
  obtain ⟨tp, p, rfl, hpm, htp⟩ : ∃ tp p, v = .ref tp ∧ p ∈ menu ∧ H2 tp = some (.tup [.int (Prod.fst p), .int (Prod.snd p)]) := by
    simp only [List.mem_cons, List.not_mem_nil, or_false] at hv
    rcases hv with rfl | rfl | rfl | rfl | rfl | rfl | rfl
    · exact ⟨_, (0, 1), rfl, by decide, O.mem (by walk_at "m")⟩
    · exact ⟨_, (1, 0), rfl, by decide, O.mem (by walk_at "m")⟩
    · exact ⟨_, (1, 2), rfl, by decide, O.mem (by walk_at "m")⟩
    · exact ⟨_, (2, 1), rfl, by decide, O.mem (by walk_at "m")⟩
    · exact ⟨_, (0, 3), rfl, by decide, O.mem (by walk_at "m")⟩
    · exact ⟨_, (3, 0), rfl, by decide, O.mem (by walk_at "m")⟩
    · exact ⟨_, (2, 3), rfl, by decide, O.mem (by walk_at "m")⟩
  have O := O.dropP (l0 := base A k dk dl s R1 R2 ks r1 r2 v1 v2) (by walk_at "p")
  obtain ⟨B1, s1, htp1, O⟩ := O.adopt htp base_noTup
  have hk : H2 k = some (lnk A.c_Links dk dl s R1) := O.mem List.mem_cons_self
  walk_at "s"
  rename_i m H3 O
  obtain ⟨B2, s2, hm, O⟩ := O.freeze
  have hk : H3 k = some (lnk A.c_Links dk dl s R1) := O.mem List.mem_cons_self
  walk_at "s"
  have s12 := Same.trans s1 s2
  refine ⟨a, c, B2, (R2, .dT (kvs r2 ks)) :: bl r2 v2 ks, k, dk, dl, R1, m, s, ks, r1, v1, q, t, p, ds, (s : Int), rfl, F0, O, I.nd, h7, fun x _ => Nat.le_trans (I.hq x) (by omega), I.hq0, fun x hx => DtAll.mono s12 (I.d1 x hx), hm, s12 _ _ I.hdl, I.hds, fun r1' v1' H4 B3 s3 dv O => ?_⟩
  have s13 := Same.trans s12 s3
  have htp3 := s3 _ _ (s2 _ _ htp1)
  have hgv3 := s13 _ _ I.hgv
  have g0 := gs_pos (ds := ds)
  have g6 := gs_le I.hds
  have hix := gs_ix (ds := ds) (s := s)
  have inv : ∀ {B4 : Hp} {nl e m2 : Addr} {ks'}, ks' = (if p ∈ ks then ks else ks ++ [p]) → Same B3 B4 → B4 e = some (.tup [.int (t + dly ds s), .ref m2]) → B4 m2 = some (.tup [.str "m", .int (s : Nat)]) →
      Inv0 dl gv ds ks' v1' (up v2 p ((if p ∈ ks then v2 p else []) ++ [.ref e])) (up q p (q p ++ [(t + dly ds s, (s : Int))])) (bnd + 1) B4 := by
    intro B4 nl e m2 ks' ek s4 he hm2
    subst ek
    have s14 := Same.trans s13 s4
    refine ⟨s14 _ _ I.hdl, I.hds, s14 _ _ I.hgv, ?_, ?_, fun x => ?_, ?_, fun x hx => DtAll.mono s4 (dv x hx), fun x hx => ?_⟩
    · split
      · exact I.nd
      · rename_i hp
        exact nd_snoc I.nd hp
    · split
      · exact I.hks
      · intro x hx
        rcases List.mem_append.mp hx with w | w
        · exact I.hks x w
        · rw [List.mem_singleton.mp w]
          exact hpm
    · by_cases ex : x = p
      · subst ex
        rw [up_same, List.length_append]
        have := I.hq x
        show _ + 1 ≤ _
        omega
      · rw [up_ne ex]
        have := I.hq x
        omega
    · intro x hx
      by_cases ex : x = p
      · subst ex
        refine (hx ?_).elim
        split
        · assumption
        · exact List.mem_append_right _ List.mem_cons_self
      · rw [up_ne ex]
        refine I.hq0 x fun w => hx ?_
        split
        · exact w
        · exact List.mem_append_left _ w
    · by_cases ex : x = p
      · subst ex
        rw [up_same, up_same, List.map_append]
        refine dtSnoc ?_ (.tup he (.cons (.int _) (.cons (.tup hm2 (.cons (.str _) (.cons (.int _) .nil))) .nil)))
        split
        · rename_i w
          exact DtAll.mono s14 (I.d2 x w)
        · rename_i w
          rw [I.hq0 x w]
          exact .nil
      · rw [up_ne ex, up_ne ex]
        refine DtAll.mono s14 (I.d2 x ?_)
        split at hx
        · exact hx
        · rcases List.mem_append.mp hx with w | w
          · exact w
          · exact (ex (List.mem_singleton.mp w)).elim
  walk_at "s"
  by_cases hp : p ∈ ks
  · rw [if_pos hp] at O
    have lv := dtLen (I.d2 p hp)
    rw [List.length_map] at lv
    have lq := I.hq p
    have O := Own.perm O (ls' := (r2 p, .lst (v2 p)) :: (R2, .dT (kvs r2 ks)) :: (k, lnk A.c_Links dk dl (s + 1) R1) :: (R1, .dT (kvs r1' ks)) :: (bl r1' v1' ks ++ bl r2 v2 (ks.erase p))) (by
      have e1 : (bl r1' v1' ks ++ (R2, HO.dT (kvs r2 ks)) :: bl r2 v2 ks).Perm ((r2 p, .lst (v2 p)) :: (R2, .dT (kvs r2 ks)) :: (bl r1' v1' ks ++ bl r2 v2 (ks.erase p))) := by
        refine List.perm_middle.trans ?_
        refine ((((bl_pull hp).append_left (bl r1' v1' ks)).trans List.perm_middle).cons _).trans ?_
        exact List.Perm.swap _ _ _
      refine ((e1.cons _).cons _).trans ?_
      walk_at "pm")
    refine i_isD (O.mem (by walk_at "m")) ?_
    walk_at "s"
    rename_i z H5 O
    refine ⟨some (.ref (r2 p)), .inr ⟨kvs r2 ks, pk (p.1, p.2), tp, .inl (O.mem (by walk_at "m")), rfl, O.kp htp3, (kvs_in hp).symm⟩, ?_⟩
    simp only [Option.getD_some]
    walk_at "s"
    rw [List.length_map]
    refine i_rI ⟨by omega, by omega⟩ ?_
    walk_at "s"
    rw [List.length_map]
    refine i_mulI (.inr ⟨by omega, by omega⟩) ?_
    walk_at "s"
    rename_i m2 H6 O6 e H7 O7 lit H8 O8 nl H9 O
    refine i_dputT O (by walk_at "u") (O.kp htp3) (szl (by unfold kvs; rw [List.length_map]; omega)) fun H10 O => ?_
    rw [show putK (kvs r2 ks) (pk (p.1, p.2)) (V.ref nl) = kvs (up r2 p nl) ks from kvs_putIn hp] at O
    have O := Own.perm O (ls' := (e, .tup [.int (t + dly ds s), .ref m2]) :: (m2, .tup [.str "m", .int (s : Nat)]) :: (lit, .lst [.ref e]) :: (z, .lst []) :: (r2 p, .lst (v2 p)) :: (nl, .lst (v2 p ++ [.ref e])) :: (R2, .dT (kvs (up r2 p nl) ks)) :: (k, lnk A.c_Links dk dl (s + 1) R1) :: (R1, .dT (kvs r1' ks)) :: (bl r1' v1' ks ++ bl r2 v2 (ks.erase p))) (by walk_at "pm")
    obtain ⟨B4, s4, he, O⟩ := O.freeze
    obtain ⟨B5, s5, hm2, O⟩ := O.freeze
    have O := O.dropP (l0 := (nl, .lst (v2 p ++ [.ref e])) :: (R2, .dT (kvs (up r2 p nl) ks)) :: (k, lnk A.c_Links dk dl (s + 1) R1) :: (R1, .dT (kvs r1' ks)) :: (bl r1' v1' ks ++ bl r2 v2 (ks.erase p))) (by walk_at "p")
    have s45 := Same.trans s4 s5
    have I5 := inv (nl := nl) (ks' := ks) (by rw [if_pos hp]) s45 (s5 _ _ he) hm2
    rw [if_pos hp] at I5
    walk_at "s"
    rw [show (s : Int) + 1 = ((s + 1 : Nat) : Int) by omega]
    refine hnx ks r1' v1' (up r2 p nl) _ _ _ B5 _ _ _ (Same.trans s13 s45) I5 (O.perm ?_)
    unfold base
    refine List.Perm.symm ?_
    have e1 : (bl r1' v1' ks ++ (R2, HO.dT (kvs (up r2 p nl) ks)) :: bl (up r2 p nl) (up v2 p (v2 p ++ [.ref e])) ks).Perm ((nl, .lst (v2 p ++ [.ref e])) :: (R2, .dT (kvs (up r2 p nl) ks)) :: (bl r1' v1' ks ++ bl r2 v2 (ks.erase p))) := by
      refine List.perm_middle.trans ?_
      refine ((((bl_upIn I.nd hp).symm.append_left (bl r1' v1' ks)).trans List.perm_middle).cons _).trans ?_
      exact List.Perm.swap _ _ _
    refine ((e1.cons _).cons _).trans ?_
    walk_at "pm"
  · rw [if_neg hp] at O
    have O := Own.perm O (ls' := (R2, .dT (kvs r2 ks)) :: (k, lnk A.c_Links dk dl (s + 1) R1) :: (R1, .dT (kvs r1' (ks ++ [p]))) :: (bl r1' v1' (ks ++ [p]) ++ bl r2 v2 ks)) (by
      refine ((List.perm_middle.cons _).cons _).trans ?_
      walk_at "pm")
    refine i_isD (O.mem (by walk_at "m")) ?_
    walk_at "s"
    rename_i z H5 O
    refine ⟨none, .inr ⟨kvs r2 ks, pk (p.1, p.2), tp, .inl (O.mem (by walk_at "m")), rfl, O.kp htp3, (kvs_out hp).symm⟩, ?_⟩
    simp only [Option.getD_none]
    walk_at "s"
    rw [List.length_map]
    refine i_rI ⟨by omega, by omega⟩ ?_
    walk_at "s"
    rw [List.length_map]
    refine i_mulI (.inr ⟨by omega, by omega⟩) ?_
    walk_at "s"
    rename_i m2 H6 O6 e H7 O7 lit H8 O8 nl H9 O
    refine i_dputT O (by walk_at "u") (O.kp htp3) (szl (by unfold kvs; rw [List.length_map]; omega)) fun H10 O => ?_
    rw [show putK (kvs r2 ks) (pk (p.1, p.2)) (V.ref nl) = kvs (up r2 p nl) (ks ++ [p]) from kvs_put hp] at O
    have O := Own.perm O (ls' := (e, .tup [.int (t + dly ds s), .ref m2]) :: (m2, .tup [.str "m", .int (s : Nat)]) :: (lit, .lst [.ref e]) :: (z, .lst []) :: (nl, .lst ([] ++ [.ref e])) :: (R2, .dT (kvs (up r2 p nl) (ks ++ [p]))) :: (k, lnk A.c_Links dk dl (s + 1) R1) :: (R1, .dT (kvs r1' (ks ++ [p]))) :: (bl r1' v1' (ks ++ [p]) ++ bl r2 v2 ks)) (by walk_at "pm")
    obtain ⟨B4, s4, he, O⟩ := O.freeze
    obtain ⟨B5, s5, hm2, O⟩ := O.freeze
    have O := O.dropP (l0 := (nl, .lst ([] ++ [.ref e])) :: (R2, .dT (kvs (up r2 p nl) (ks ++ [p]))) :: (k, lnk A.c_Links dk dl (s + 1) R1) :: (R1, .dT (kvs r1' (ks ++ [p]))) :: (bl r1' v1' (ks ++ [p]) ++ bl r2 v2 ks)) (by walk_at "p")
    have s45 := Same.trans s4 s5
    have I5 := inv (nl := nl) (ks' := ks ++ [p]) (by rw [if_neg hp]) s45 (s5 _ _ he) hm2
    rw [if_neg hp] at I5
    walk_at "s"
    rw [show (s : Int) + 1 = ((s + 1 : Nat) : Int) by omega]
    refine hnx (ks ++ [p]) r1' v1' (up r2 p nl) _ _ _ B5 _ _ _ (Same.trans s13 s45) I5 (O.perm ?_)
    unfold base
    refine List.Perm.symm ?_
    rw [bl_new (r := r2) (v := v2) hp]
    have e1 : (bl r1' v1' (ks ++ [p]) ++ (R2, HO.dT (kvs (up r2 p nl) (ks ++ [p]))) :: (bl r2 v2 ks ++ [(nl, .lst ([] ++ [.ref e]))])).Perm ((nl, .lst ([] ++ [.ref e])) :: (R2, .dT (kvs (up r2 p nl) (ks ++ [p]))) :: (bl r1' v1' (ks ++ [p]) ++ bl r2 v2 ks)) := by
      refine List.perm_middle.trans ?_
      refine ((((List.perm_append_comm (l₁ := bl r2 v2 ks) (l₂ := [(nl, .lst ([] ++ [.ref e]))])).append_left _).trans List.perm_middle).cons _).trans ?_
      exact List.Perm.swap _ _ _
    refine ((e1.cons _).cons _).trans ?_
    walk_at "pm"
end K43
set_option Elab.async false
set_option linter.all false
set_option maxRecDepth 100000
set_option maxHeartbeats 4000000
namespace K43
open PySem PySem.Spec PyProof.Rows L2 Lb
local macro_rules | `(tactic| walk_at "pm") => `(tactic| (focus ((repeat (first | exact List.Perm.refl _ | (apply Pick.perm; (solve | repeat (first | exact Pick.here | apply Pick.there))))); done)))
local macro_rules | `(tactic| walk_at "h") => `(tactic| first | assumption | exact Own.mem (by assumption) (by walk_at "m") | exact Own.kp (by assumption) (by assumption))
local macro_rules | `(tactic| walk_at "m") => `(tactic| (focus ((repeat (first | assumption | exact List.mem_cons_self | apply List.mem_cons_of_mem)); done)))
local macro_rules | `(tactic| walk_at "u") => `(tactic| (focus ((repeat (first | exact Up1.here | apply Up1.there)); done)))
local macro_rules | `(tactic| walk_at "p") => `(tactic| (focus ((repeat (first | exact Pre.nil | apply Pre.cons)); done)))
local macro_rules | `(tactic| walk_at "f") => `(tactic| (focus ((repeat (first | exact PutF.here | exact PutF.nil | (apply PutF.there; (solve | decide +kernel)))); done)))
local macro_rules | `(tactic| walk_at "k") => `(tactic| (focus ((repeat (first | exact LkF.here rfl | exact LkF.nil rfl | refine LkF.there (by decide +kernel) ?_)); done)))
local macro_rules | `(tactic| walk_at "e") => `(tactic| (focus ((repeat (first | exact StE.nil | apply StE.app | apply StE.got | apply StE.lack)); done)))
local macro_rules | `(tactic| walk_at "d") => `(tactic| (focus ((repeat (first | exact Dt.int _ | exact Dt.str _ | exact Dt.non | exact Dt.bl _ | exact DtAll.nil | exact DtAll.ints _ | apply DtAll.cons | (apply Dt.tup; (solve | walk_at "h")) | (apply Dt.lst; (solve | walk_at "h")))); done)))
local macro_rules | `(tactic| walk_at "sh") => `(tactic| (focus ((repeat (first | exact Sh.int | exact Sh.non | exact Sh.str (by decide +kernel) | exact ShA.nil | exact ShA.ints | apply ShA.cons | apply Sh.lst | apply Sh.tup)); done)))
local macro_rules | `(tactic| walk_at "ne") => `(tactic| (apply rd_neF; (solve | walk_at "d"); (solve | walk_at "d"); (solve | exact Sh.shp (n := 4) (by walk_at "sh"))))
local macro_rules | `(tactic| walk_at "s1") => `(tactic| with_reducible first | (apply i_bm) | apply i_try | apply i_callS | apply i_methS | apply i_raiseX | (apply i_mks; (solve | assumption)) | apply i_rng3 | apply i_dnin | apply i_keys | (apply i_dgetF; (solve | walk_at "h"); (solve | assumption); (solve | assumption)) | apply i_dget2 | apply i_dnewT | (apply i_dgetT; (solve | walk_at "h"); (solve | walk_at "h"); (solve | assumption)) |  apply i_txf | (apply i_isX; (solve | assumption); (solve | walk_at "h")) | (apply i_xf; (solve | walk_at "h"); (solve | walk_at "k")) | (apply i_tyK; (solve | assumption)) | apply i_tyS | (apply i_ixK; (solve | assumption); (solve | assumption | with_unfolding_all rfl)) | (apply i_lenK; (solve | assumption); (exact rfl)) | (apply i_tupLN; (solve | walk_at "h")) | (apply i_var; (solve | with_unfolding_all rfl)) | apply i_cons | apply i_nil | apply i_c | apply i_op | apply i_asg | apply i_seq | apply i_gname | apply i_eqS | apply i_eqI | apply i_neS | apply i_tt | apply i_ff | (apply i_ixA; (solve | walk_at "h"); (solve | exact IxO.lst (by assumption) | exact IxO.tup (by assumption) | exact .lst (by with_unfolding_all rfl) | exact .tup (by with_unfolding_all rfl))) | apply i_bl | apply i_test | apply i_ifS | apply i_tupN | (apply i_tupO; (solve | assumption); (exact (sz (by (try simp) <;> omega))); intro p H O) | apply i_fld | (apply i_fldO; (solve | walk_at "h"); (solve | assumption); (solve | assumption); (solve | walk_at "k")) | (apply i_tB; (solve | decide +kernel)) | (apply i_fB; (solve | decide +kernel)) | apply i_ret | apply i_retN | apply i_drop | apply i_next | apply i_brk | apply i_cnt | apply i_par | apply i_par2 | apply i_fldSN | apply i_dput | apply i_un | apply i_rU | apply i_rI0 | apply i_B | apply i_tru | apply i_truB | apply i_and | apply i_or | apply i_not | apply i_andV | apply i_orV | apply i_notV | apply i_if | apply i_call | apply i_meth | apply i_makeN | apply i_cb | apply i_dnewN | apply i_lstN | apply i_bml | apply i_gsub | apply i_gcons | apply i_gnil | apply i_sl | apply i_nop | apply i_part | apply i_prt | apply i_isN | apply i_notN | apply i_yes | apply i_ntt | apply i_nff | apply i_addI | apply i_neI | apply i_intI | apply i_intB | apply i_abs | apply i_isiIB | apply i_isiNB | apply i_isiBB | apply i_dget | apply i_for | apply i_ilist | apply i_itup | apply i_rng1 | apply i_rng2 | apply i_ex1 | apply i_ex2 | apply i_exr | apply i_disp | apply i_pcons | apply i_pnil | apply i_neN | apply i_eqN | apply i_neB | apply i_eqB | apply i_lc | apply i_dnI | apply i_nyI | apply i_dnR | apply i_nyR | (apply i_lenA; (solve | walk_at "h"); (solve | first | exact .lst | exact .tup | exact .dK)) | (apply i_isL; (solve | walk_at "h")) | (apply i_isiLL; (solve | walk_at "h")) | (apply i_isiTL; (solve | walk_at "h")) | (apply i_gtup; (solve | walk_at "h"); (solve | with_unfolding_all rfl)) | (apply i_fldSO; (solve | assumption); (solve | walk_at "u"); (solve | walk_at "f"); (solve | assumption); (solve | assumption); (solve | simp); intro H O) | (apply i_lstO; (solve | assumption); (exact (sz (by (try simp) <;> omega))); intro p H O) | (apply i_makeO; (solve | assumption); intro x dx H O) | (apply i_methO; (solve | walk_at "h"); (solve | walk_at "k")) | (apply i_newO; (solve | assumption); intro p H O) | (apply i_listN; (solve | walk_at "h")) | (apply i_listTN; (solve | walk_at "h")) | (apply i_addN; (solve | walk_at "h"); (solve | walk_at "h"); (exact (sz (by (try simp) <;> omega)))) | apply i_mkd | apply i_gfld | (apply i_glst; (solve | walk_at "h"); (solve | with_unfolding_all rfl)) | apply i_isB | apply i_notB | (apply i_inO; (solve | walk_at "h"); (solve | with_unfolding_all rfl); (solve | with_unfolding_all rfl)) | (apply i_dgetI; (solve | walk_at "h"); (solve | assumption)) | (apply i_in; (solve | with_unfolding_all rfl); (solve | walk_at "e")) | (apply i_setO; (solve | assumption); (solve | walk_at "u"); (solve | with_unfolding_all rfl); intro H O) | (apply i_appO; (solve | assumption); (solve | walk_at "u"); (exact (szl (by (try simp) <;> omega))); intro H O) | (apply i_drawO; (solve | assumption); (exact rfl); (solve | decide); (solve | decide); intro r H h0 h1 O))
local macro_rules | `(tactic| walk_at "s") => `(tactic| repeat (walk_at "s1"))
def t_tick : Ad → TS := fun A => (tSeq (tAsg (tLst tNil) (gName 8)) (tSeq (tFor (iList A.K (tCB rSortDT (tCons (tVar 5) tNil))) (gName 9) (tSeq (tAsg (tDGet (tVar 5) (tVar 9)) (gName 10)) (tWhile (tAnd (tTest (tOp (rI0 fun i j => .bl (decide (j < i))) (tCB rLenA (tCons (tVar 10) tNil)) (tC (.int 0)))) (tTest (tOp (rI0 fun i j => .bl (decide (i ≤ j))) (tOp rIxA (tOp rIxA (tVar 10) (tC (.int 0))) (tC (.int 0))) (tVar 7)))) (tDrop (tBML rAppA (tVar 8) (tCons (tTup (tCons (tOp rIxA (tVar 9) (tC (.int 1))) (tCons (tOp rIxA (tBML rPopI (tVar 10) (tCons (tC (.int 0)) tNil)) (tC (.int 1))) tNil))) tNil)))))) (tSeq (tAsg (tMeth A.c_Links "due" (sp_Links_due A) [] E0 (tVar 3) (tCons (tVar 7) tNil)) (gName 11)) (tSeq (tIfS (tOr (tNot (tB (tCB rIsiA (tCons (tVar 11) (tCons (tC (.ty "list")) tNil))))) (tTest (tOp (rNeA A.K) (tVar 11) (tVar 8)))) (tRet (tC (.bl false))) tNext) (tSeq (tFor (iRng1 (tCons (tCall spDraw [] E0 (tCons (tVar 1) (tCons (tC (.int 4)) tNil))) tNil)) (gName 12) (tSeq (tAsg (tCall spPick [] E0 (tCons (tVar 1) (tCons (tLst (tCons (tTup (tCons (tC (.int 0)) (tCons (tC (.int 1)) tNil))) (tCons (tTup (tCons (tC (.int 1)) (tCons (tC (.int 0)) tNil))) (tCons (tTup (tCons (tC (.int 1)) (tCons (tC (.int 2)) tNil))) (tCons (tTup (tCons (tC (.int 2)) (tCons (tC (.int 1)) tNil))) (tCons (tTup (tCons (tC (.int 0)) (tCons (tC (.int 3)) tNil))) (tCons (tTup (tCons (tC (.int 3)) (tCons (tC (.int 0)) tNil))) (tCons (tTup (tCons (tC (.int 2)) (tCons (tC (.int 3)) tNil))) tNil)))))))) tNil))) (gName 9)) (tSeq (tDrop (tMeth A.c_Links "send" (sp_Links_send A) [] E0 (tVar 3) (tCons (tVar 7) (tCons (tOp rIxA (tVar 9) (tC (.int 0))) (tCons (tOp rIxA (tVar 9) (tC (.int 1))) (tCons (tTup (tCons (tC (.str "m")) (tCons (tVar 6) tNil))) tNil)))))) (tSeq (sDPut (tVar 5) (tVar 9) (tOp rAddA (tDGet2 (tVar 5) (tVar 9) (tLst tNil)) (tLst (tCons (tTup (tCons (tOp rAddA (tVar 7) (tOp rIxA (tVar 4) (tOp (rI0 fun i j => .int (i - j)) (tVar 6) (tOp rMulA (tOp (rI CDiv fun i j => .int (i / j)) (tVar 6) (tCB rLenA (tCons (tVar 4) tNil))) (tCB rLenA (tCons (tVar 4) tNil)))))) (tCons (tTup (tCons (tC (.str "m")) (tCons (tVar 6) tNil))) tNil))) tNil)))) (tAsg (tOp rAddA (tVar 6) (tC (.int 1))) (gName 6)))))) (tSeq (tAsg (tMeth A.c_Links "empty" (sp_Links_empty A) [] E0 (tVar 3) tNil) (gName 13)) (tIfS (tOr (tNot (tB (tCB rIsiA (tCons (tVar 13) (tCons (tC (.ty "bool")) tNil))))) (tTest (tOp (rNeA A.K) (tVar 13) (tOp (rEqA A.K) (tCB (rSum A.K) (tCons (tLockE (tLc (iKeys (tVar 5)) (gName 9) tYes (tCB rLenA (tCons (tDGet (tVar 5) (tVar 9)) tNil)) [9])) tNil)) (tC (.int 0)))))) (tRet (tC (.bl false))) tNext)))))))
theorem permA {x y z w : Addr × HO} {X Y : List (Addr × HO)} : (x :: y :: z :: (Y ++ (w :: X))).Perm (y :: w :: (X ++ (x :: z :: Y))) := by
  have e1 : (Y ++ (w :: X)).Perm (w :: (X ++ Y)) := List.perm_middle.trans (List.perm_append_comm.cons _)
  have e2 : (X ++ (x :: z :: Y)).Perm (x :: z :: (X ++ Y)) := List.perm_middle.trans (List.perm_middle.cons _)
  refine (((e1.cons _).cons _).cons _).trans ?_
  refine List.Perm.symm ?_
  refine ((e2.cons _).cons _).trans ?_
  walk_at "pm"
theorem permB {x y z w : Addr × HO} {X Y : List (Addr × HO)} : (x :: y :: w :: (X ++ (z :: Y))).Perm (x :: y :: z :: (Y ++ (w :: X))) := by
  have e1 : (Y ++ (w :: X)).Perm (w :: (X ++ Y)) := List.perm_middle.trans (List.perm_append_comm.cons _)
  have e2 : (X ++ (z :: Y)).Perm (z :: (X ++ Y)) := List.perm_middle
  refine (((e2.cons _).cons _).cons _).trans ?_
  refine List.Perm.symm ?_
  refine (((e1.cons _).cons _).cons _).trans ?_
  walk_at "pm"
theorem Inv0.le {dl gv : Addr} {ds : List Int} {ks : List Pr} {v1 v2 : Pr → List V} {q : Pr → List Pr} {b b' : Nat} {B : Hp} (I : Inv0 dl gv ds ks v1 v2 q b B) (h : b ≤ b') : Inv0 dl gv ds ks v1 v2 q b' B := ⟨I.hdl, I.hds, I.hgv, I.nd, I.hks, fun p => Nat.le_trans (I.hq p) h, I.hq0, I.d1, I.d2⟩
theorem emp_eq {ks : List Pr} {q : Pr → List Pr} {v : Pr → List V} : (∀ p ∈ ks, (v p).length = (q p).length) → ((ks.map fun p => decide ((q p).length = 0)).all id) = decide ((ks.map fun p => (((v p).length : Nat) : Int)).sum = 0) := by
  induction ks with
  | nil => intro _; rfl
  | cons p r ih =>
    intro h
    rw [List.map_cons, List.map_cons, List.all_cons, ih fun x hx => h x (List.mem_cons_of_mem _ hx), List.sum_cons, h p List.mem_cons_self]
    have nn : 0 ≤ (r.map fun p => (((v p).length : Nat) : Int)).sum := by
      clear ih h
      induction r with
      | nil => exact Int.le_refl 0
      | cons x r ih =>
        rw [List.map_cons, List.sum_cons]
        omega
    by_cases h1 : (q p).length = 0
    · rw [h1]
      simp
    · have h2 : ¬ ((((q p).length : Nat) : Int) + (r.map fun p => (((v p).length : Nat) : Int)).sum = 0) := by omega
      rw [decide_eq_false h2]
      show (decide ((q p).length = 0) && _) = false
      rw [decide_eq_false h1]
      rfl
set_option maxHeartbeats 32000000 in
theorem tick_ok (A : Ad) (F : CF A) {a c sc k dk dl gv R1 R2 : Addr} {B H : Hp} {s bnd : Nat} {ds : List Int} {ks : List Pr} {r1 r2 : Pr → Addr} {v1 v2 : Pr → List V} {q : Pr → List Pr} {t : Int} {x2 x8 x9 x10 x11 x12 x13 : Option V} {nx : L2.St → Hp → Prop} {rt : VK} {bk ct : L2.St → Hp → Prop}
    (I : Inv0 dl gv ds ks v1 v2 q bnd B) (O : Own a c B H (base A k dk dl s R1 R2 ks r1 r2 v1 v2)) (hb : bnd ≤ 190)
    (hnx : ∀ s' ks' r1' v1' r2' v2' q' H' B' x8 x9 x10 x11 x12 x13, Inv0 dl gv ds ks' v1' v2' q' (bnd + 3) B' → Own a c B' H' (base A k dk dl s' R1 R2 ks' r1' r2' v1' v2') → nx [some (.ref sc), some (.ref a), x2, some (.ref k), some (.ref gv), some (.ref R2), some (.int (s' : Nat)), some (.int t), x8, x9, x10, x11, x12, x13] H') :
    t_tick A ⟨nx, rt, bk, ct⟩ [some (.ref sc), some (.ref a), x2, some (.ref k), some (.ref gv), some (.ref R2), some (.int (s : Nat)), some (.int t), x8, x9, x10, x11, x12, x13] H := by
  have F0 := F
  obtain ⟨F1, n1, n2, n3⟩ := F
  have h7 := I.h7
  have nt1 : ∀ x ∈ ((R1, HO.dT (kvs r1 ks)) :: bl r1 v1 ks), ∀ xs, x.2 ≠ .tup xs := fun x hx xs => by
    rcases List.mem_cons.mp hx with e | hx
    · subst e
      exact fun z => by cases z
    · exact bl_noTup x hx xs
  show (tSeq (tAsg (tLst tNil) (gName 8)) (tSeq (t_lfor A) (tSeq (tAsg (tMeth A.c_Links "due" (sp_Links_due A) [] E0 (tVar 3) (tCons (tVar 7) tNil)) (gName 11)) (tSeq (tIfS (tOr (tNot (tB (tCB rIsiA (tCons (tVar 11) (tCons (tC (.ty "list")) tNil))))) (tTest (tOp (rNeA A.K) (tVar 11) (tVar 8)))) (tRet (tC (.bl false))) tNext) (tSeq (tFor (iRng1 (tCons (tCall spDraw [] E0 (tCons (tVar 1) (tCons (tC (.int 4)) tNil))) tNil)) (gName 12) (t_msg A)) (tSeq (tAsg (tMeth A.c_Links "empty" (sp_Links_empty A) [] E0 (tVar 3) tNil) (gName 13)) (tIfS (tOr (tNot (tB (tCB rIsiA (tCons (tVar 13) (tCons (tC (.ty "bool")) tNil))))) (tTest (tOp (rNeA A.K) (tVar 13) (tOp (rEqA A.K) (tCB (rSum A.K) (tCons (tLockE (tLc (iKeys (tVar 5)) (gName 9) tYes (tCB rLenA (tCons (tDGet (tVar 5) (tVar 9)) tNil)) [9])) tNil)) (tC (.int 0)))))) (tRet (tC (.bl false))) tNext))))))) ⟨nx, rt, bk, ct⟩ [some (.ref sc), some (.ref a), x2, some (.ref k), some (.ref gv), some (.ref R2), some (.int (s : Nat)), some (.int t), x8, x9, x10, x11, x12, x13] H
  walk_at "s"
  rename_i P H1 O
  have O := Own.perm O (ls' := (P, .lst []) :: (k, lnk A.c_Links dk dl s R1) :: (R2, .dT (kvs r2 ks)) :: (bl r2 v2 ks ++ ((R1, .dT (kvs r1 ks)) :: bl r1 v1 ks))) permB
  refine ldue_ok A (x9 := x9) (x10 := x10) O I.nd h7 (fun p _ => Nat.le_trans (I.hq p) (by omega)) I.d2 (fun xs z => by cases z) nt1 fun fv v2' js H2 B1 y9 y10 s1 hp hw dv2 df O => ?_
  have O := O.perm permA
  have hk : H2 k = some (lnk A.c_Links dk dl s R1) := O.mem List.mem_cons_self
  walk_at "s"
  refine ⟨a, c, B1, _, k, dk, dl, R1, s, ks, r1, v1, q, t, rfl, F0, O, I.nd, h7, fun p _ => Nat.le_trans (I.hq p) (by omega), fun p hp => DtAll.mono s1 (I.d1 p hp), fun x hx xs => ?_, fun T fv1 v1' js1 H3 B2 s2 hp1 hw1 dv1 df1 O => ?_⟩
  · rcases List.mem_cons.mp hx with e | hx
    · subst e
      exact fun z => by cases z
    rcases List.mem_cons.mp hx with e | hx
    · subst e
      exact fun z => by cases z
    · exact bl_noTup x hx xs
  have ej := srt_uniq hw1 hw (hp1.trans hp.symm)
  subst ej
  have s12 := Same.trans s1 s2
  have O := Own.perm O (ls' := (T, .lst fv1) :: (P, .lst fv) :: (k, lnk A.c_Links dk dl s R1) :: (R1, .dT (kvs r1 ks)) :: (bl r1 v1' ks ++ ((R2, .dT (kvs r2 ks)) :: bl r2 v2' ks))) (by
    refine List.Perm.cons _ ?_
    refine ((List.perm_middle.cons _).cons _).trans ?_
    walk_at "pm")
  walk_at "s"
  refine rd_neF (.lst (O.mem (by walk_at "m")) (DtAll.mono O.keep df1)) (.lst (O.mem (by walk_at "m")) (DtAll.mono O.keep (DtAll.mono s2 df))) (Sh.shp (n := 3) (.lst (.all fun d hd => ?_))) ?_
  · obtain ⟨p, _, hd2⟩ := List.mem_flatMap.mp hd
    obtain ⟨e, _, rfl⟩ := List.mem_map.mp hd2
    exact shF
  have O := O.dropP (l0 := base A k dk dl s R1 R2 ks r1 r2 v1' v2') (by walk_at "p")
  have dl' : ∀ p, (dq t (q p)).length ≤ (q p).length := fun p => (List.dropWhile_sublist _).length_le
  have I2 : Inv0 dl gv ds ks v1' v2' (fun p => dq t (q p)) bnd B2 := ⟨s12 _ _ I.hdl, I.hds, s12 _ _ I.hgv, I.nd, I.hks, fun p => Nat.le_trans (dl' p) (I.hq p), fun p hp => by
    show dq t (q p) = []
    rw [I.hq0 p hp]
    rfl, dv1, fun p hp => DtAll.mono s2 (dv2 p hp)⟩
  walk_at "s"
  rename_i r H4 r0 r3 O
  obtain ⟨r, rfl⟩ : ∃ j : Nat, r = (j : Int) := ⟨r.toNat, by omega⟩
  refine i_forR r (by omega) (by omega) (fun i σ H' => ∃ B' ks r1 v1 r2 v2 q x8 x9 x10 x11 x12 x13, σ = [some (.ref sc), some (.ref a), x2, some (.ref k), some (.ref gv), some (.ref R2), some (.int (s + i : Nat)), some (.int t), x8, x9, x10, x11, x12, x13] ∧ Inv0 dl gv ds ks v1 v2 q (bnd + i) B' ∧ Own a c B' H' (base A k dk dl (s + i) R1 R2 ks r1 r2 v1 v2)) ⟨B2, ks, r1, v1', r2, v2', _, _, _, _, _, _, _, rfl, I2, O⟩ ?_ ?_
  · rintro i σ H5 hi ⟨B', ks, r1, v1, r2, v2, q, x8, x9, x10, x11, x12, x13, rfl, I, O⟩
    walk_at "s1"
    exact msg_ok A F0 I O (by omega) fun ks' r1' v1' r2' v2' q' H' B'' x9 x10 x11 s3 I' O' => ⟨B'', ks', r1', v1', r2', v2', q', _, x9, x10, x11, _, _, rfl, I', O'⟩
  · rintro σ H5 ⟨B', ks, r1, v1, r2, v2, q, x8, x9, x10, x11, x12, x13, rfl, I, O⟩
    have h7 := I.h7
    have hk : H5 k = some (lnk A.c_Links dk dl (s + r) R1) := O.mem List.mem_cons_self
    walk_at "s"
    refine ⟨a, c, B', (R2, .dT (kvs r2 ks)) :: bl r2 v2 ks, k, dk, dl, R1, s + r, ks, r1, v1, q, rfl, F0, O, I.nd, h7, I.d1, fun H6 O => ?_⟩
    have O := Own.perm O (ls' := (R2, .dT (kvs r2 ks)) :: (k, lnk A.c_Links dk dl (s + r) R1) :: (R1, .dT (kvs r1 ks)) :: (bl r1 v1 ks ++ bl r2 v2 ks)) (by
      refine ((List.perm_middle.cons _).cons _).trans ?_
      walk_at "pm")
    walk_at "s"
    refine i_lock (D := R2) (O.mem (by walk_at "m")) fun od => ?_
    have O := O.set (p := R2) (o' := .frz od (.dT (kvs r2 ks))) (by walk_at "u")
    generalize upd H6 R2 (.frz od (.dT (kvs r2 ks))) = H7 at O
    walk_at "s"
    refine ⟨R2, od, rfl, .inr ⟨kvs r2 ks, O.mem (by walk_at "m"), fun E hE => ?_⟩⟩
    have kl : (kvs r2 ks).length = ks.length := List.length_map _
    refine i_lcKT (fun i H' => Own a c B' H' ((E, .lst ((ks.take i).map fun p => V.int ((v2 p).length : Nat))) :: (R2, .frz od (.dT (kvs r2 ks))) :: (k, lnk A.c_Links dk dl (s + r) R1) :: (R1, .dT (kvs r1 ks)) :: (bl r1 v1 ks ++ bl r2 v2 ks))) (O.new hE) (fun i H' O => O.mem (by walk_at "m")) ?_ ?_
    · rintro i kp x b H8 hx hb8 O
      obtain ⟨p, hp, e⟩ := mapGet hx
      cases e
      have hpk : p ∈ ks := List.mem_of_getElem? hp
      have hb2 : H8 b = some (.tup [.int p.1, .int p.2]) := hb8
      have hv : valV (kvs r2 ks) (pk (p.1, p.2)) = some (.ref (r2 p)) := kvs_in hpk
      have hr : H8 (r2 p) = some (.lst (v2 p)) := O.mem (List.mem_cons_of_mem _ (List.mem_cons_of_mem _ (List.mem_cons_of_mem _ (List.mem_cons_of_mem _ (List.mem_append_right _ (List.mem_map_of_mem hpk))))))
      walk_at "s"
      refine ⟨_, O.mem (by walk_at "m"), szl (by rw [List.length_map, List.length_take]; omega), ?_⟩
      have O2 := O.set (p := E) (o' := .lst ((ks.take i).map (fun p => V.int ((v2 p).length : Nat)) ++ [V.int ((v2 p).length : Nat)])) .here
      rw [List.take_add_one, hp, List.map_append]
      exact O2
    · rintro H8 O
      rw [kl, List.take_length] at O
      refine ⟨O.mem (by walk_at "m"), ?_⟩
      have O := O.set (p := R2) (o' := .dT (kvs r2 ks)) (by walk_at "u")
      generalize upd H8 R2 (.dT (kvs r2 ks)) = H9 at O
      walk_at "s"
      refine i_sum (ns := ks.map fun p => (((v2 p).length : Nat) : Int)) ?_ ?_
      · rw [List.map_map]
        exact O.mem List.mem_cons_self
      walk_at "s"
      refine i_nn (emp_eq fun p hp => ?_) ?_
      · have z := dtLen (I.d2 p hp)
        rw [List.length_map] at z
        exact z
      walk_at "s"
      refine hnx (s + r) ks r1 v1 r2 v2 q _ B' _ _ _ _ _ _ (I.le (by omega)) (Own.perm (O.dropP (l0 := (R2, .dT (kvs r2 ks)) :: (k, lnk A.c_Links dk dl (s + r) R1) :: (R1, .dT (kvs r1 ks)) :: (bl r1 v1 ks ++ bl r2 v2 ks)) (by walk_at "p")) ?_)
      unfold base
      refine List.Perm.symm ?_
      refine ((List.perm_middle.cons _).cons _).trans ?_
      walk_at "pm"
def t_lrest : Ad → TS := fun A => (tSeq (tDrop (tBML rAppA (tVar 2) (tCons (tC (.int 50)) tNil))) (tSeq (tAsg tDNewT (gName 5)) (tSeq (tAsg (tC (.int 0)) (gName 6)) (tSeq (tFor (iRng2 (tCons (tC (.int 1)) (tCons (tOp rAddA (tC (.int 10)) (tCall spDraw [] E0 (tCons (tVar 1) (tCons (tC (.int 31)) tNil)))) tNil))) (gName 7) (t_tick A)) (tRet (tC (.bl true)))))))
set_option maxHeartbeats 32000000 in
theorem pure_law (A : Ad) (vs : List V) (H : Hp) (Q : VK) (E : XK) (h : sp_law A vs H Q E) : t_law A { nx := fun _ H' => Q .non H', rt := Q } (L2.start ["_law_script", "_law_state_here", "_law_delays", "_law_links", "_law_given", "_law_rows", "_law_sent", "_law_tick", "_law_found", "_law_pair", "_law_row", "_law_told", "_law_k", "_law_empty"] vs) H := by
  obtain ⟨sc, ns, rfl, hS, hl, F, kQ⟩ := h
  have F0 := F
  obtain ⟨F1, n1, n2, n3⟩ := F
  rw [st_law]
  show (tSeq (tAsg (tCall (spState A.K) [] E0 (tCons (tVar 0) tNil)) (gName 1)) (tSeq (tAsg (tLc (iRng1 (tCons (tCall spDraw [] E0 (tCons (tVar 1) (tCons (tC (.int 7)) tNil))) tNil)) (gName 12) tYes (tOp rAddA (tC (.int 1)) (tCall spDraw [] E0 (tCons (tVar 1) (tCons (tC (.int 9)) tNil)))) [12]) (gName 2)) (tSeq (tAsg (tMake A.c_Links (sp_Links_init A) [] E0 (tCons (tVar 2) tNil)) (gName 3)) (tSeq (tIfS (tTest (tOp (rI0 fun i j => .bl (decide (j < i))) (tCB rLenA (tCons (tVar 2) tNil)) (tC (.int 0)))) (tAsg (tCB rListA (tCons (tVar 2) tNil)) (gName 4)) (tAsg (tLst (tCons (tC (.int 1)) tNil)) (gName 4))) (t_lrest A))))) { nx := fun _ H' => Q .non H', rt := Q } _ H
  walk_at "s"
  refine ⟨sc, ns, rfl, hS, hl, fun H1 a c sm R na nc => ?_⟩
  have O := Own.start R
  generalize hid [a, c] H1 = B at O
  walk_at "s"
  rename_i r H2 h0 h1 O
  obtain ⟨n0, rfl⟩ : ∃ j : Nat, r = (j : Int) := ⟨r.toNat, by omega⟩
  refine ⟨by omega, by omega, fun D hD => ?_⟩
  refine i_lcR n0 rfl (fun i H' => ∃ ws : List Int, ws.length = i ∧ Own a c B H' [(D, .lst (ws.map V.int))]) ⟨[], rfl, O.new hD⟩ ?_ ?_
  · rintro i H3 hi ⟨ws, hwl, O⟩
    walk_at "s"
    rename_i w H4 w0 w1 O
    refine ⟨_, O.mem (by walk_at "m"), szl (by simp; omega), ws ++ [1 + w], by simp [hwl], ?_⟩
    have O2 := O.set (p := D) (o' := .lst (ws.map V.int ++ [V.int (1 + w)])) .here
    rw [List.map_append]
    exact O2
  rintro H3 ⟨ds, hdl, O⟩
  have d6 : ds.length ≤ 6 := by omega
  walk_at "s"
  rename_i k dk H4 O4 dl H5 O5 H6 O6 H7 O7 R1 H8 O8 H9 O
  have rest : ∀ gv H', Own a c B H' ((gv, .lst ((gs ds).map V.int)) :: [(R1, .dT []), (dl, .lst (ds.map V.int)), (k, lnk A.c_Links dk dl 0 R1), (dk, .own k), (D, .lst (ds.map V.int))]) → t_lrest A { nx := fun _ H' => Q .non H', rt := Q } [some (.ref sc), some (.ref a), some (.ref D), some (.ref k), some (.ref gv), none, none, none, none, none, none, none, none, none] H' := by
    intro gv H' O
    unfold t_lrest
    walk_at "s"
    rename_i H10 O10 R2 H11 O11 r H12 r0 r1 O
    obtain ⟨r, rfl⟩ : ∃ j : Nat, r = (j : Int) := ⟨r.toNat, by omega⟩
    have O := Own.perm O (ls' := [(gv, .lst ((gs ds).map V.int)), (dl, .lst (ds.map V.int)), (dk, .own k), (D, .lst (ds.map V.int ++ [.int 50])), (k, lnk A.c_Links dk dl 0 R1), (R1, .dT []), (R2, .dT [])]) (by walk_at "pm")
    obtain ⟨B1, s1, hgv, O⟩ := O.freeze
    obtain ⟨B2, s2, hdl2, O⟩ := O.freeze
    have O := O.dropP (l0 := [(k, lnk A.c_Links dk dl 0 R1), (R1, .dT []), (R2, .dT [])]) (by walk_at "p")
    refine i_forR2 (9 + r) (by omega) ⟨by omega, by omega, by omega, by omega⟩ (fun i σ H' => ∃ B' ks r1 v1 r2 v2 q s x7 x8 x9 x10 x11 x12 x13, σ = [some (.ref sc), some (.ref a), some (.ref D), some (.ref k), some (.ref gv), some (.ref R2), some (.int ((s : Nat) : Int)), x7, x8, x9, x10, x11, x12, x13] ∧ Inv0 dl gv ds ks v1 v2 q (3 * i) B' ∧ Own a c B' H' (base A k dk dl s R1 R2 ks r1 r2 v1 v2))
      ⟨B2, [], fun _ => a, fun _ => [], fun _ => a, fun _ => [], fun _ => [], 0, none, none, none, none, none, none, none, rfl, ⟨hdl2, d6, s2 _ _ hgv, List.nodup_nil, (fun p hp => by cases hp), fun p => Nat.zero_le _, fun p _ => rfl, (fun p hp => by cases hp), (fun p hp => by cases hp)⟩, O⟩ ?_ ?_
    · rintro i σ H13 hi ⟨B', ks, r1, v1, r2, v2, q, s, x7, x8, x9, x10, x11, x12, x13, rfl, I, O⟩
      walk_at "s1"
      exact tick_ok A F0 I O (by omega) fun s' ks' r1' v1' r2' v2' q' H' B'' x8 x9 x10 x11 x12 x13 I' O' => ⟨B'', ks', r1', v1', r2', v2', q', s', _, x8, x9, x10, x11, x12, x13, rfl, I', O'⟩
    · rintro σ H13 ⟨B', ks, r1, v1, r2, v2, q, s, x7, x8, x9, x10, x11, x12, x13, rfl, I, O⟩
      walk_at "s"
      exact kQ _
  refine i_d2 (fun h1 => ?_) (fun h1 => ?_)
  · rw [List.length_map] at h1
    have hne : ds ≠ [] := fun e => by
      subst e
      exact absurd h1 (by decide)
    walk_at "s"
    rename_i gv H10 O
    refine rest gv _ ?_
    unfold gs
    rw [if_neg hne]
    exact O
  · rw [List.length_map] at h1
    have hne : ds = [] := List.length_eq_zero_iff.mp (by omega)
    subst hne
    walk_at "s"
    rename_i gv H10 O
    exact rest gv _ O
end K43
set_option Elab.async false
set_option linter.all false
set_option maxRecDepth 100000
set_option maxHeartbeats 4000000
namespace K43
open PySem PySem.Spec PyProof.Rows L2 Lb
def top (i : Nat) : Stmt := PySem.Challenge.pw_placedanyhow_k43_links_keep_their_order.main.body.getD i (.Pass ⟨0, 0, 0, 0⟩)
structure Tx (K : PySem.W.Frag) (mg : Str → Option Value) (A : Ad) : Prop where
  k : A.K = K
  b_abs : mg "abs" = none
  b_all : mg "all" = none
  b_bool : mg "bool" = none
  b_int : mg "int" = none
  b_isinstance : mg "isinstance" = none
  b_len : mg "len" = none
  b_list : mg "list" = none
  b_range : mg "range" = none
  b_sorted : mg "sorted" = none
  b_sum : mg "sum" = none
section
variable {P : Program} {w : World} {K : PySem.W.Frag} {mg : Str → Option Value} {base : Heap}
abbrev s_Links_init : Stmt := inClass (top 1) 0
theorem sc_Links_init : FnScope ["self", "delays"] ["self", "delays"] (defScope s_Links_init) := ⟨rfl, rfl, rfl, by decide +kernel, rfl, by decide +kernel, by decide +kernel⟩
set_option maxHeartbeats 4000000 in
theorem ok_Links_init {A : Ad} (T : Tx K mg A) {f : Addr} {fd : FuncData} (F : FunD K "__init__" "Links.__init__" (defArgs s_Links_init) (defBody s_Links_init) (defScope s_Links_init) [] [] f fd) : FnOk P w K mg base CX0 (1) f fd ["self", "delays"] (sp_Links_init A) := by
  obtain rfl := T.k
  refine F.ok sc_Links_init (fun vs H Q E h => len_Links_init A h) (fun cdv Ar outer s H vs Q E hr h => ⟨t_Links_init A, PSs.nox ?_, pure_Links_init A vs H Q E h⟩)
  exact (pss_cons (ps_fld (pv 0) (pe_callTy call_listA (by rfl) T.b_list (by decide +kernel) (pa_cons (pv 1) pa_nil)) rfl) (pss_cons (ps_fld (pv 0) pe_int rfl) (pss_one (ps_fld (pv 0) pe_dnewT rfl))))
abbrev s_Links_delay : Stmt := inClass (top 1) 1
theorem sc_Links_delay : FnScope ["self", "found"] ["self"] (defScope s_Links_delay) := ⟨rfl, rfl, rfl, by decide +kernel, rfl, by decide +kernel, by decide +kernel⟩
set_option maxHeartbeats 4000000 in
theorem ok_Links_delay {A : Ad} (T : Tx K mg A) {f : Addr} {fd : FuncData} (F : FunD K "delay" "Links.delay" (defArgs s_Links_delay) (defBody s_Links_delay) (defScope s_Links_delay) [] [] f fd) : FnOk P w K mg base CX0 (1) f fd ["self"] (sp_Links_delay A) := by
  obtain rfl := T.k
  refine F.ok sc_Links_delay (fun vs H Q E h => len_Links_delay A h) (fun cdv Ar outer s H vs Q E hr h => ⟨t_Links_delay A, PSs.nox ?_, pure_Links_delay A vs H Q E h⟩)
  exact (pss_cons (ps_set (i := 1) sc_Links_delay.nd rfl (Or.inl rfl) pe_int) (pss_cons (ps_if (pt_cmpR op_gt (pe_callB call_lenA (by rfl) T.b_len (by decide +kernel) (pa_cons (pe_fld (pv 0) rfl) pa_nil)) pe_int (nomark _)) (pss_one (ps_set (i := 1) sc_Links_delay.nd rfl (Or.inl rfl) (pe_ix ix_A (pe_fld (pv 0) rfl) (pe_op op_mod (pe_fld (pv 0) rfl) (pe_callB call_lenA (by rfl) T.b_len (by decide +kernel) (pa_cons (pe_fld (pv 0) rfl) pa_nil))) (fun _ _ => rfl)))) pss_nil) (pss_cons (ps_fld (pv 0) (pe_op op_addA (pe_fld (pv 0) rfl) pe_int) rfl) (pss_one (ps_ret (pv 1))))))
abbrev s_Links_send : Stmt := inClass (top 1) 2
theorem sc_Links_send : FnScope ["self", "tick", "source", "goal", "message", "pair"] ["self", "tick", "source", "goal", "message"] (defScope s_Links_send) := ⟨rfl, rfl, rfl, by decide +kernel, rfl, by decide +kernel, by decide +kernel⟩
set_option maxHeartbeats 4000000 in
theorem ok_Links_send {A : Ad} (T : Tx K mg A) {f : Addr} {fd : FuncData} (F : FunD K "send" "Links.send" (defArgs s_Links_send) (defBody s_Links_send) (defScope s_Links_send) [] [] f fd)
    (c_Links_delay : CalM P w K mg base A.c_Links "delay" (1) ["self"] (sp_Links_delay A)) : FnOk P w K mg base CX0 (3) f fd ["self", "tick", "source", "goal", "message"] (sp_Links_send A) := by
  obtain rfl := T.k
  refine F.ok sc_Links_send (fun vs H Q E h => len_Links_send A h) (fun cdv Ar outer s H vs Q E hr h => ⟨t_Links_send A, PSs.nox ?_, pure_Links_send A vs H Q E h⟩)
  exact (pss_cons (ps_set (i := 5) sc_Links_send.nd rfl (Or.inl rfl) (pe_tup (pa_cons (pv 2) (pa_cons (pv 3) pa_nil)))) (pss_cons (ps_if (pt_cmp (pc_dnotin (hu_of hr) (pv 5) (pe_fld (pv 0) rfl))) (pss_one (ps_dput (hu_of hr) (pe_fld (pv 0) rfl) (pv 5) (pe_lst pa_nil) rfl)) pss_nil) (pss_one (ps_expr (pe_bml PySem.F.slot_list_append PySem.F.type_list_append mt_appA (pe_dget (hu_of hr) (pe_fld (pv 0) rfl) (pv 5) (fun _ _ => rfl)) (pa_cons (pe_tup (pa_cons (pe_op op_addA (pv 1) (pe_calM0 (pv 0) c_Links_delay (hr.mono (by omega)))) (pa_cons (pv 4) pa_nil))) pa_nil))))))
abbrev s_Links_due : Stmt := inClass (top 1) 3
theorem sc_Links_due : FnScope ["self", "tick", "found", "pair", "row"] ["self", "tick"] (defScope s_Links_due) := ⟨rfl, rfl, rfl, by decide +kernel, rfl, by decide +kernel, by decide +kernel⟩
set_option maxHeartbeats 4000000 in
theorem ok_Links_due {A : Ad} (T : Tx K mg A) {f : Addr} {fd : FuncData} (F : FunD K "due" "Links.due" (defArgs s_Links_due) (defBody s_Links_due) (defScope s_Links_due) [] [] f fd) : FnOk P w K mg base CX0 (1) f fd ["self", "tick"] (sp_Links_due A) := by
  obtain rfl := T.k
  refine F.ok sc_Links_due (fun vs H Q E h => len_Links_due A h) (fun cdv Ar outer s H vs Q E hr h => ⟨t_Links_due A, PSs.nox ?_, pure_Links_due A vs H Q E h⟩)
  exact (pss_cons (ps_set (i := 2) sc_Links_due.nd rfl (Or.inl rfl) (pe_lst pa_nil)) (pss_cons (ps_for PassesOwn.never rfl (pi_list (pe_callB (cr_sortedDT rfl) (by rfl) T.b_sorted (by decide +kernel) (pa_cons (pe_fld (pv 0) rfl) pa_nil))) (pg_name (i := 3) sc_Links_due.nd rfl (Or.inl rfl)) (pss_cons (ps_set (i := 4) sc_Links_due.nd rfl (Or.inl rfl) (pe_dget (hu_of hr) (pe_fld (pv 0) rfl) (pv 3) (fun _ _ => rfl))) (pss_one (ps_while PassesOwn.never (PW.pt (pw_and (pt_cmpR op_gt (pe_callB call_lenA (by rfl) T.b_len (by decide +kernel) (pa_cons (pv 4) pa_nil)) pe_int (nomark _)) (pw_and1 (pt_cmpR op_le (pe_ix ix_A (pe_ix ix_A (pv 4) pe_int (fun _ _ => rfl)) pe_int (fun _ _ => rfl)) (pv 1) (nomark _))))) (pss_one (ps_expr (pe_bml PySem.F.slot_list_append PySem.F.type_list_append mt_appA (pv 2) (pa_cons (pe_tup (pa_cons (pe_ix ix_A (pv 3) pe_int (fun _ _ => rfl)) (pa_cons (pe_ix ix_A (pe_bml PySem.F.slot_list_pop PySem.F.type_list_pop mt_popI (pv 4) (pa_cons pe_int pa_nil)) pe_int (fun _ _ => rfl)) pa_nil))) pa_nil)))))))) (pss_one (ps_ret (pv 2)))))
abbrev s_Links_empty : Stmt := inClass (top 1) 4
theorem sc_Links_empty : FnScope ["self", "pair"] ["self"] (defScope s_Links_empty) := ⟨rfl, rfl, rfl, by decide +kernel, rfl, by decide +kernel, by decide +kernel⟩
set_option maxHeartbeats 4000000 in
theorem ok_Links_empty {A : Ad} (T : Tx K mg A) {f : Addr} {fd : FuncData} (F : FunD K "empty" "Links.empty" (defArgs s_Links_empty) (defBody s_Links_empty) (defScope s_Links_empty) [] [] f fd) : FnOk P w K mg base CX0 (1) f fd ["self"] (sp_Links_empty A) := by
  obtain rfl := T.k
  refine F.ok sc_Links_empty (fun vs H Q E h => len_Links_empty A h) (fun cdv Ar outer s H vs Q E hr h => ⟨t_Links_empty A, PSs.nox ?_, pure_Links_empty A vs H Q E h⟩)
  exact (pss_one (ps_ret (pe_callB (cr_all rfl) (by rfl) T.b_all (by decide +kernel) (pa_cons (pe_lock (pe_lc (own := [("pair", 1)]) rfl sc_Links_empty.nd (pi_keys (pe_fld (pv 0) rfl)) (blkOk_by (own := [("pair", 1)]) (N := ["self", "pair"]) (sc := defScope s_Links_empty) (by decide +kernel)) (fun _ _ _ _ _ => (pg_name (i := 1) sc_Links_empty.nd rfl (Or.inl rfl))) (fun _ _ _ _ _ => pts_nil) (fun _ _ _ _ _ => (pe_cmpR (op_eqA hr.units) (pe_callB call_lenA (by rfl) T.b_len (by decide +kernel) (pa_cons (pe_dget (hu_of hr) (pe_fld (pv 0) rfl) (pv 1) (fun _ _ => rfl)) pa_nil)) pe_int (nomark _))))) pa_nil))))
abbrev s_l_state : Stmt := top 3
theorem sc_l_state : FnScope ["_law_script", "_law_seed", "_law_cell"] ["_law_script"] (defScope s_l_state) := ⟨rfl, rfl, rfl, by decide +kernel, rfl, by decide +kernel, by decide +kernel⟩
set_option maxHeartbeats 4000000 in
theorem ok_l_state {A : Ad} (T : Tx K mg A) {f : Addr} {fd : FuncData} (F : FunD K "_law_state" "_law_state" (defArgs s_l_state) (defBody s_l_state) (defScope s_l_state) [] [] f fd) : FnOk P w K mg base CX0 (1) f fd ["_law_script"] (spState A.K) := by
  obtain rfl := T.k
  refine F.ok sc_l_state (fun vs H Q E h => len_state h) (fun cdv Ar outer s H vs Q E hr h => ⟨t_state A.K, PSs.nox ?_, pure_state A.K vs H Q E h rfl⟩)
  exact (pss_cons (ps_set (i := 1) sc_l_state.nd rfl (Or.inl rfl) pe_int) (pss_cons (ps_for PassesOwn.never rfl (pi_list (pv 0)) (pg_name (i := 2) sc_l_state.nd rfl (Or.inl rfl)) (pss_one (ps_set (i := 1) sc_l_state.nd rfl (Or.inl rfl) (pe_op op_mod (pe_callTy call_intA (by rfl) T.b_int (by decide +kernel) (pa_cons (pe_op op_addA (pe_op op_mulA (pv 1) pe_int) (pv 2)) pa_nil)) pe_int)))) (pss_one (ps_ret (pe_lst (pa_cons (pe_lc (own := [("_law_cell", 2)]) rfl sc_l_state.nd (pi_list (pv 0)) (blkOk_by (own := [("_law_cell", 2)]) (N := ["_law_script", "_law_seed", "_law_cell"]) (sc := defScope s_l_state) (by decide +kernel)) (fun _ _ _ _ _ => (pg_name (i := 2) sc_l_state.nd rfl (Or.inl rfl))) (fun _ _ _ _ _ => pts_nil) (fun _ _ _ _ _ => (pe_callB call_absA (by rfl) T.b_abs (by decide +kernel) (pa_cons (pv 2) pa_nil)))) (pa_cons (pe_op op_addA (pv 1) pe_int) pa_nil)))))))
abbrev s_l_draw : Stmt := top 4
theorem sc_l_draw : FnScope ["_law_state_here", "_law_many", "_law_cells", "_law_number", "_law_mixed"] ["_law_state_here", "_law_many"] (defScope s_l_draw) := ⟨rfl, rfl, rfl, by decide +kernel, rfl, by decide +kernel, by decide +kernel⟩
set_option maxHeartbeats 4000000 in
theorem ok_l_draw {A : Ad} (T : Tx K mg A) {f : Addr} {fd : FuncData} (F : FunD K "_law_draw" "_law_draw" (defArgs s_l_draw) (defBody s_l_draw) (defScope s_l_draw) [] [] f fd) : FnOk P w K mg base CX0 (1) f fd ["_law_state_here", "_law_many"] spDraw := by
  obtain rfl := T.k
  refine F.ok sc_l_draw (fun vs H Q E h => len_draw h) (fun cdv Ar outer s H vs Q E hr h => ⟨t_draw A.K, PSs.nox ?_, pure_draw A.K vs H Q E h rfl⟩)
  exact (pss_cons (ps_set (i := 2) sc_l_draw.nd rfl (Or.inl rfl) (pe_ix ix_A (pv 0) pe_int (fun _ _ => rfl))) (pss_cons (ps_while PassesOwn.never (PW.pt (pw_and (pt_cmpR op_gt (pe_callB call_lenA (by rfl) T.b_len (by decide +kernel) (pa_cons (pv 2) pa_nil)) pe_int (nomark _)) (pw_and1 (pt_cmpR (op_eqA hr.units) (pe_ix ix_A (pv 2) pe_int (fun _ _ => rfl)) pe_int (nomark _))))) (pss_one (ps_expr (pe_bml PySem.F.slot_list_pop PySem.F.type_list_pop mt_popI (pv 2) (pa_cons pe_int pa_nil))))) (pss_cons (ps_if (pt_cmpR op_gt (pe_callB call_lenA (by rfl) T.b_len (by decide +kernel) (pa_cons (pv 2) pa_nil)) pe_int (nomark _)) (pss_cons (ps_set (i := 3) sc_l_draw.nd rfl (Or.inl rfl) (pe_ix ix_A (pv 2) pe_int (fun _ _ => rfl))) (pss_cons (ps_asg (pe_op op_fdiv (pv 3) (pv 1)) (pg_sub (pv 2) pe_int set_A)) (pss_one (ps_ret (pe_op op_mod (pe_callTy call_intA (by rfl) T.b_int (by decide +kernel) (pa_cons (pv 3) pa_nil)) (pv 1)))))) pss_nil) (pss_cons (ps_set (i := 4) sc_l_draw.nd rfl (Or.inl rfl) (pe_op op_mod (pe_callTy call_intA (by rfl) T.b_int (by decide +kernel) (pa_cons (pe_op op_addA (pe_op op_mulA (pe_ix ix_A (pv 0) pe_int (fun _ _ => rfl)) pe_int) pe_int) pa_nil)) pe_int)) (pss_cons (ps_asg (pv 4) (pg_sub (pv 0) pe_int set_A)) (pss_one (ps_ret (pe_op op_mod (pe_callTy call_intA (by rfl) T.b_int (by decide +kernel) (pa_cons (pe_op op_fdiv (pv 4) pe_int) pa_nil)) (pv 1)))))))))
abbrev s_l_pick : Stmt := top 5
theorem sc_l_pick : FnScope ["_law_state_here", "_law_row"] ["_law_state_here", "_law_row"] (defScope s_l_pick) := ⟨rfl, rfl, rfl, by decide +kernel, rfl, by decide +kernel, by decide +kernel⟩
set_option maxHeartbeats 4000000 in
theorem ok_l_pick {A : Ad} (T : Tx K mg A) {f : Addr} {fd : FuncData} (F : FunD K "_law_pick" "_law_pick" (defArgs s_l_pick) (defBody s_l_pick) (defScope s_l_pick) [] [] f fd)
    (c_l_draw : Cal P w K mg base "_law_draw" (1) ["_law_state_here", "_law_many"] spDraw) : FnOk P w K mg base CX0 (2) f fd ["_law_state_here", "_law_row"] spPick := by
  obtain rfl := T.k
  refine F.ok sc_l_pick (fun vs H Q E h => len_pick h) (fun cdv Ar outer s H vs Q E hr h => ⟨t_pick, PSs.nox ?_, pure_pick vs H Q E h rfl⟩)
  exact (pss_one (ps_ret (pe_ix ix_A (pv 1) (pe_cal c_l_draw (hr.mono (by omega)) (by rfl) (pa_cons (pv 0) (pa_cons (pe_callB call_lenA (by rfl) T.b_len (by decide +kernel) (pa_cons (pv 1) pa_nil)) pa_nil))) (fun _ _ => rfl))))
abbrev s_law : Stmt := top 6
theorem sc_law : FnScope ["_law_script", "_law_state_here", "_law_delays", "_law_links", "_law_given", "_law_rows", "_law_sent", "_law_tick", "_law_found", "_law_pair", "_law_row", "_law_told", "_law_k", "_law_empty"] ["_law_script"] (defScope s_law) := ⟨rfl, rfl, rfl, by decide +kernel, rfl, by decide +kernel, by decide +kernel⟩
set_option maxHeartbeats 4000000 in
theorem ok_law {A : Ad} (T : Tx K mg A) {f : Addr} {fd : FuncData} (F : FunD K "law" "law" (defArgs s_law) (defBody s_law) (defScope s_law) [] [] f fd)
    (c_l_state : Cal P w K mg base "_law_state" (1) ["_law_script"] (spState A.K))
    (c_l_draw : Cal P w K mg base "_law_draw" (1) ["_law_state_here", "_law_many"] spDraw)
    (c_Links_init : CalC P w K mg base "Links" A.c_Links (1) ["self", "delays"] (sp_Links_init A))
    (c_Links_due : CalM P w K mg base A.c_Links "due" (1) ["self", "tick"] (sp_Links_due A))
    (c_l_pick : Cal P w K mg base "_law_pick" (2) ["_law_state_here", "_law_row"] spPick)
    (c_Links_send : CalM P w K mg base A.c_Links "send" (3) ["self", "tick", "source", "goal", "message"] (sp_Links_send A))
    (c_Links_empty : CalM P w K mg base A.c_Links "empty" (1) ["self"] (sp_Links_empty A)) : FnOk P w K mg base CX0 (10) f fd ["_law_script"] (sp_law A) := by
  obtain rfl := T.k
  refine F.ok sc_law (fun vs H Q E h => len_law A h) (fun cdv Ar outer s H vs Q E hr h => ⟨t_law A, PSs.nox ?_, pure_law A vs H Q E h⟩)
  exact (pss_cons (ps_set (i := 1) sc_law.nd rfl (Or.inr rfl) (pe_cal c_l_state (hr.mono (by omega)) (by rfl) (pa_cons (pv 0) pa_nil))) (pss_cons (ps_setLc (i := 2) (own := [("_law_k", 12)]) rfl sc_law.nd rfl rfl (sw_true rfl rfl rfl (by decide +kernel)) (pi_range1 (by rfl) T.b_range (pa_cons (pe_cal c_l_draw (hr.mono (by omega)) (by rfl) (pa_cons (pv 1) (pa_cons pe_int pa_nil))) pa_nil)) (blkOk_by (own := [("_law_k", 12)]) (N := ["_law_script", "_law_state_here", "_law_delays", "_law_links", "_law_given", "_law_rows", "_law_sent", "_law_tick", "_law_found", "_law_pair", "_law_row", "_law_told", "_law_k", "_law_empty"]) (sc := defScope s_law) (by decide +kernel)) (fun _ _ _ _ _ => (pg_name (i := 12) sc_law.nd rfl (Or.inl rfl))) (fun _ _ _ _ _ => pts_nil) (fun _ _ _ _ _ => (pe_op op_addA pe_int (pe_cal c_l_draw (hr.mono (by omega)) (by rfl) (pa_cons (pv 1) (pa_cons pe_int pa_nil)))))) (pss_cons (ps_set (i := 3) sc_law.nd rfl (Or.inl rfl) (pe_calC c_Links_init (hr.mono (by omega)) (by rfl) (pa_cons (pv 2) pa_nil))) (pss_cons (ps_if (pt_cmpR op_gt (pe_callB call_lenA (by rfl) T.b_len (by decide +kernel) (pa_cons (pv 2) pa_nil)) pe_int (nomark _)) (pss_one (ps_set (i := 4) sc_law.nd rfl (Or.inl rfl) (pe_callTy call_listA (by rfl) T.b_list (by decide +kernel) (pa_cons (pv 2) pa_nil)))) (pss_one (ps_set (i := 4) sc_law.nd rfl (Or.inl rfl) (pe_lst (pa_cons pe_int pa_nil))))) (pss_cons (ps_expr (pe_bml PySem.F.slot_list_append PySem.F.type_list_append mt_appA (pv 2) (pa_cons pe_int pa_nil))) (pss_cons (ps_set (i := 5) sc_law.nd rfl (Or.inr rfl) pe_dnewT) (pss_cons (ps_set (i := 6) sc_law.nd rfl (Or.inl rfl) pe_int) (pss_cons (ps_for PassesOwn.never rfl (pi_range2 (by rfl) T.b_range (pa_cons pe_int (pa_cons (pe_op op_addA pe_int (pe_cal c_l_draw (hr.mono (by omega)) (by rfl) (pa_cons (pv 1) (pa_cons pe_int pa_nil)))) pa_nil))) (pg_name (i := 7) sc_law.nd rfl (Or.inl rfl)) (pss_cons (ps_set (i := 8) sc_law.nd rfl (Or.inl rfl) (pe_lst pa_nil)) (pss_cons (ps_for PassesOwn.never rfl (pi_list (pe_callB (cr_sortedDT rfl) (by rfl) T.b_sorted (by decide +kernel) (pa_cons (pv 5) pa_nil))) (pg_name (i := 9) sc_law.nd rfl (Or.inl rfl)) (pss_cons (ps_set (i := 10) sc_law.nd rfl (Or.inl rfl) (pe_dget (hu_of hr) (pv 5) (pv 9) (fun _ _ => rfl))) (pss_one (ps_while PassesOwn.never (PW.pt (pw_and (pt_cmpR op_gt (pe_callB call_lenA (by rfl) T.b_len (by decide +kernel) (pa_cons (pv 10) pa_nil)) pe_int (nomark _)) (pw_and1 (pt_cmpR op_le (pe_ix ix_A (pe_ix ix_A (pv 10) pe_int (fun _ _ => rfl)) pe_int (fun _ _ => rfl)) (pv 7) (nomark _))))) (pss_one (ps_expr (pe_bml PySem.F.slot_list_append PySem.F.type_list_append mt_appA (pv 8) (pa_cons (pe_tup (pa_cons (pe_ix ix_A (pv 9) pe_int (fun _ _ => rfl)) (pa_cons (pe_ix ix_A (pe_bml PySem.F.slot_list_pop PySem.F.type_list_pop mt_popI (pv 10) (pa_cons pe_int pa_nil)) pe_int (fun _ _ => rfl)) pa_nil))) pa_nil)))))))) (pss_cons (ps_set (i := 11) sc_law.nd rfl (Or.inl rfl) (pe_calM (pv 3) c_Links_due (hr.mono (by omega)) (pa_cons (pv 7) pa_nil))) (pss_cons (ps_if (PW.pt (pw_or (pt_not (pt_val (pe_callB call_isiA (by rfl) T.b_isinstance (by decide +kernel) (pa_cons (pv 11) (pa_cons (pe_bltn (v := .ty "list") (by rfl) T.b_list (by decide +kernel) rfl) pa_nil))))) (pw_or1 (pt_cmpR (op_neA hr.units) (pv 11) (pv 8) (nomark _))))) (pss_one (ps_ret pe_bl)) pss_nil) (pss_cons (ps_for PassesOwn.never rfl (pi_range1 (by rfl) T.b_range (pa_cons (pe_cal c_l_draw (hr.mono (by omega)) (by rfl) (pa_cons (pv 1) (pa_cons pe_int pa_nil))) pa_nil)) (pg_name (i := 12) sc_law.nd rfl (Or.inl rfl)) (pss_cons (ps_set (i := 9) sc_law.nd rfl (Or.inl rfl) (pe_cal c_l_pick (hr.mono (by omega)) (by rfl) (pa_cons (pv 1) (pa_cons (pe_lst (pa_cons (pe_tup (pa_cons pe_int (pa_cons pe_int pa_nil))) (pa_cons (pe_tup (pa_cons pe_int (pa_cons pe_int pa_nil))) (pa_cons (pe_tup (pa_cons pe_int (pa_cons pe_int pa_nil))) (pa_cons (pe_tup (pa_cons pe_int (pa_cons pe_int pa_nil))) (pa_cons (pe_tup (pa_cons pe_int (pa_cons pe_int pa_nil))) (pa_cons (pe_tup (pa_cons pe_int (pa_cons pe_int pa_nil))) (pa_cons (pe_tup (pa_cons pe_int (pa_cons pe_int pa_nil))) pa_nil)))))))) pa_nil)))) (pss_cons (ps_expr (pe_calM (pv 3) c_Links_send (hr.mono (by omega)) (pa_cons (pv 7) (pa_cons (pe_ix ix_A (pv 9) pe_int (fun _ _ => rfl)) (pa_cons (pe_ix ix_A (pv 9) pe_int (fun _ _ => rfl)) (pa_cons (pe_tup (pa_cons pe_str (pa_cons (pv 6) pa_nil))) pa_nil)))))) (pss_cons (ps_dput (hu_of hr) (pv 5) (pv 9) (pe_op op_addA (pe_dget2 (hu_of hr) (pv 5) (pv 9) (pe_lst pa_nil) ⟨rfl, rfl, rfl, rfl⟩) (pe_lst (pa_cons (pe_tup (pa_cons (pe_op op_addA (pv 7) (pe_ix ix_A (pv 4) (pe_op op_sub (pv 6) (pe_op op_mulA (pe_op op_fdiv (pv 6) (pe_callB call_lenA (by rfl) T.b_len (by decide +kernel) (pa_cons (pv 4) pa_nil))) (pe_callB call_lenA (by rfl) T.b_len (by decide +kernel) (pa_cons (pv 4) pa_nil)))) (fun _ _ => rfl))) (pa_cons (pe_tup (pa_cons pe_str (pa_cons (pv 6) pa_nil))) pa_nil))) pa_nil))) rfl) (pss_one (ps_set (i := 6) sc_law.nd rfl (Or.inl rfl) (pe_op op_addA (pv 6) pe_int))))))) (pss_cons (ps_set (i := 13) sc_law.nd rfl (Or.inl rfl) (pe_calM0 (pv 3) c_Links_empty (hr.mono (by omega)))) (pss_one (ps_if (PW.pt (pw_or (pt_not (pt_val (pe_callB call_isiA (by rfl) T.b_isinstance (by decide +kernel) (pa_cons (pv 13) (pa_cons (pe_bltn (v := .ty "bool") (by rfl) T.b_bool (by decide +kernel) rfl) pa_nil))))) (pw_or1 (pt_cmpR (op_neA hr.units) (pv 13) (pe_cmpR (op_eqA hr.units) (pe_callB (cr_sum rfl) (by rfl) T.b_sum (by decide +kernel) (pa_cons (pe_lock (pe_lc (own := [("_law_pair", 9)]) rfl sc_law.nd (pi_keys (pv 5)) (blkOk_by (own := [("_law_pair", 9)]) (N := ["_law_script", "_law_state_here", "_law_delays", "_law_links", "_law_given", "_law_rows", "_law_sent", "_law_tick", "_law_found", "_law_pair", "_law_row", "_law_told", "_law_k", "_law_empty"]) (sc := defScope s_law) (by decide +kernel)) (fun _ _ _ _ _ => (pg_name (i := 9) sc_law.nd rfl (Or.inl rfl))) (fun _ _ _ _ _ => pts_nil) (fun _ _ _ _ _ => (pe_callB call_lenA (by rfl) T.b_len (by decide +kernel) (pa_cons (pe_dget (hu_of hr) (pv 5) (pv 9) (fun _ _ => rfl)) pa_nil))))) pa_nil)) pe_int (nomark _)) (nomark _))))) (pss_one (ps_ret pe_bl)) pss_nil))))))))) (pss_one (ps_ret pe_bl))))))))))
end
end K43
set_option Elab.async false
set_option linter.all false
set_option maxRecDepth 100000
set_option maxHeartbeats 4000000
namespace K43
open PySem PySem.Spec PyProof.Rows L2 Lb
def d_Links_init : He.DefD := ⟨("Links", some "__init__"), "__init__", "Links.__init__", defArgs s_Links_init, defBody s_Links_init, defScope s_Links_init, [], []⟩
def d_Links_delay : He.DefD := ⟨("Links", some "delay"), "delay", "Links.delay", defArgs s_Links_delay, defBody s_Links_delay, defScope s_Links_delay, [], []⟩
def d_Links_send : He.DefD := ⟨("Links", some "send"), "send", "Links.send", defArgs s_Links_send, defBody s_Links_send, defScope s_Links_send, [], []⟩
def d_Links_due : He.DefD := ⟨("Links", some "due"), "due", "Links.due", defArgs s_Links_due, defBody s_Links_due, defScope s_Links_due, [], []⟩
def d_Links_empty : He.DefD := ⟨("Links", some "empty"), "empty", "Links.empty", defArgs s_Links_empty, defBody s_Links_empty, defScope s_Links_empty, [], []⟩
def d_l_state : He.DefD := ⟨("_law_state", none), "_law_state", "_law_state", defArgs s_l_state, defBody s_l_state, defScope s_l_state, [], []⟩
def d_l_draw : He.DefD := ⟨("_law_draw", none), "_law_draw", "_law_draw", defArgs s_l_draw, defBody s_l_draw, defScope s_l_draw, [], []⟩
def d_l_pick : He.DefD := ⟨("_law_pick", none), "_law_pick", "_law_pick", defArgs s_l_pick, defBody s_l_pick, defScope s_l_pick, [], []⟩
def d_law : He.DefD := ⟨("law", none), "law", "law", defArgs s_law, defBody s_law, defScope s_law, [], []⟩
def fn : List He.DefD := [d_Links_init, d_Links_delay, d_Links_send, d_Links_due, d_Links_empty, d_l_state, d_l_draw, d_l_pick, d_law]
def fa : List He.Fa := [.free "abs", .free "all", .free "bool", .free "int", .free "isinstance", .free "len", .free "list", .free "range", .free "sorted", .free "sum", .glo "_law_state", .glo "_law_draw", .glo "_law_pick", .glo "law", .glo "Links", .cls "Links", .mkr "Links", .meth "Links" "delay", .meth "Links" "send", .meth "Links" "due", .meth "Links" "empty", .noat "Links" "delays", .noat "Links" "sent", .noat "Links" "rows"]
def lo : List Str := ["Links", "_law_state", "_law_draw", "_law_pick"]
abbrev RW : PySem.W.OpenLaw := PySem.Challenge.rw_placedanyhow_k43_links_keep_their_order
abbrev RR : PySem.W.OpenRow := PySem.W.OpenLaw.row RW
abbrev hk : PySem.W.Hook := He.hookD 4 fa fn
def ob (s : PySem.W.SharedT) : He.AlD := He.obsDG 4 fa fn (HandSHeadRun.getT s)
theorem ob_eq (s : PySem.W.SharedT) : ob s = hk.obs s.abs := He.obsDG_eq (HandSHeadRun.getT_eq s)
theorem run (w : World) : HandSHeadRun.RunEq RR (PySem.W.view RR.prog [6]) hk ob 4000 lo w := by
  intro os
  kernel_rfl
theorem tx {K : PySem.W.Frag} {h : Heap} {mg : Str → Option Value} (X : K.In h) (G : h.Ns mainGlobals mg) (c : He.SaysD fa fn K) : Tx K mg ⟨K, He.ga K "Links"⟩ :=
  ⟨rfl, He.free_ok X G (c.fact 0 rfl), He.free_ok X G (c.fact 1 rfl), He.free_ok X G (c.fact 2 rfl), He.free_ok X G (c.fact 3 rfl), He.free_ok X G (c.fact 4 rfl), He.free_ok X G (c.fact 5 rfl), He.free_ok X G (c.fact 6 rfl), He.free_ok X G (c.fact 7 rfl), He.free_ok X G (c.fact 8 rfl), He.free_ok X G (c.fact 9 rfl)⟩
theorem cf {K : PySem.W.Frag} (c : He.SaysD fa fn K) : CF ⟨K, He.ga K "Links"⟩ :=
  ⟨He.cls_ok (c.fact 15 (f := .cls "Links") rfl), He.noat_ok (c.fact 21 (f := .noat "Links" "delays") rfl),
  He.noat_ok (c.fact 22 (f := .noat "Links" "sent") rfl),
  He.noat_ok (c.fact 23 (f := .noat "Links" "rows") rfl)⟩
set_option maxHeartbeats 16000000 in
theorem facts {P : Program} {w : World} {K : PySem.W.Frag} {h : Heap} {mg : Str → Option Value} {f : Addr} (X : K.In h) (G : h.Ns mainGlobals mg) (hfa : mg ("law" : Str) = some (.ref f)) (c : He.SaysD fa fn K) :
    ∃ fd : FuncData, (∀ (s : Shared) (v : Value), BindsTo s fd ⟨[v], []⟩ [("_law_script", v)]) ∧ ∀ base : Heap, K.In base → base.Ns mainGlobals mg → FnOk P w K mg base CX0 (10) f fd ["_law_script"] (sp_law ⟨K, He.ga K "Links"⟩) := by
  obtain ⟨fd_Links_init, F_Links_init⟩ := c.def_ 0 (d := d_Links_init) rfl
  have b_Links_init : Binds K fd_Links_init ["self", "delays"] [] := F_Links_init.bindsN fun _ _ _ _ _ _ us hl => match us, hl with | [_, _], _ => rfl
  obtain ⟨fd_Links_delay, F_Links_delay⟩ := c.def_ 1 (d := d_Links_delay) rfl
  have b_Links_delay : Binds K fd_Links_delay ["self"] [] := F_Links_delay.bindsN fun _ _ _ _ _ _ us hl => match us, hl with | [_], _ => rfl
  obtain ⟨fd_Links_send, F_Links_send⟩ := c.def_ 2 (d := d_Links_send) rfl
  have b_Links_send : Binds K fd_Links_send ["self", "tick", "source", "goal", "message"] [] := F_Links_send.bindsN fun _ _ _ _ _ _ us hl => match us, hl with | [_, _, _, _, _], _ => rfl
  obtain ⟨fd_Links_due, F_Links_due⟩ := c.def_ 3 (d := d_Links_due) rfl
  have b_Links_due : Binds K fd_Links_due ["self", "tick"] [] := F_Links_due.bindsN fun _ _ _ _ _ _ us hl => match us, hl with | [_, _], _ => rfl
  obtain ⟨fd_Links_empty, F_Links_empty⟩ := c.def_ 4 (d := d_Links_empty) rfl
  have b_Links_empty : Binds K fd_Links_empty ["self"] [] := F_Links_empty.bindsN fun _ _ _ _ _ _ us hl => match us, hl with | [_], _ => rfl
  obtain ⟨fd_l_state, F_l_state⟩ := c.def_ 5 (d := d_l_state) rfl
  have b_l_state : Binds K fd_l_state ["_law_script"] [] := F_l_state.bindsN fun _ _ _ _ _ _ us hl => match us, hl with | [_], _ => rfl
  have g_l_state := He.glo_ok X G (c.fact 10 (f := .glo "_law_state") rfl)
  obtain ⟨fd_l_draw, F_l_draw⟩ := c.def_ 6 (d := d_l_draw) rfl
  have b_l_draw : Binds K fd_l_draw ["_law_state_here", "_law_many"] [] := F_l_draw.bindsN fun _ _ _ _ _ _ us hl => match us, hl with | [_, _], _ => rfl
  have g_l_draw := He.glo_ok X G (c.fact 11 (f := .glo "_law_draw") rfl)
  obtain ⟨fd_l_pick, F_l_pick⟩ := c.def_ 7 (d := d_l_pick) rfl
  have b_l_pick : Binds K fd_l_pick ["_law_state_here", "_law_row"] [] := F_l_pick.bindsN fun _ _ _ _ _ _ us hl => match us, hl with | [_, _], _ => rfl
  have g_l_pick := He.glo_ok X G (c.fact 12 (f := .glo "_law_pick") rfl)
  obtain ⟨fd_law, F_law⟩ := c.def_ 8 (d := d_law) rfl
  have g_Links := He.glo_ok X G (c.fact 14 (f := .glo "Links") rfl)
  have k_Links := He.cls_ok (c.fact 15 (f := .cls "Links") rfl)
  have m_Links := He.mkr_ok (c.fact 16 (f := .mkr "Links") rfl)
  have e_Links_delay := He.meth_ok (c.fact 17 (f := .meth "Links" "delay") rfl)
  have e_Links_send := He.meth_ok (c.fact 18 (f := .meth "Links" "send") rfl)
  have e_Links_due := He.meth_ok (c.fact 19 (f := .meth "Links" "due") rfl)
  have e_Links_empty := He.meth_ok (c.fact 20 (f := .meth "Links" "empty") rfl)
  have e := hfa.symm.trans (He.glo_ok X G (c.fact 13 (f := .glo "law") rfl))
  cases e
  have b := FunD.bindsA (ps := ["_law_script"]) F_law fun _ _ _ _ _ _ us hl => match us, hl with | [_], _ => rfl
  have T := tx X G c
  refine ⟨fd_law, fun s v => b s [v] rfl, fun base _ _ => ?_⟩
  have C_Links_init : CalC P w K mg base "Links" (He.ga K "Links") (1) ["self", "delays"] (sp_Links_init ⟨K, He.ga K "Links"⟩) := mkCalC g_Links m_Links b_Links_init (ok_Links_init T F_Links_init)
  have C_Links_delay : CalM P w K mg base (He.ga K "Links") "delay" (1) ["self"] (sp_Links_delay ⟨K, He.ga K "Links"⟩) := mkCalM k_Links e_Links_delay b_Links_delay (ok_Links_delay T F_Links_delay)
  have C_Links_send : CalM P w K mg base (He.ga K "Links") "send" (3) ["self", "tick", "source", "goal", "message"] (sp_Links_send ⟨K, He.ga K "Links"⟩) := mkCalM k_Links e_Links_send b_Links_send (ok_Links_send T F_Links_send C_Links_delay)
  have C_Links_due : CalM P w K mg base (He.ga K "Links") "due" (1) ["self", "tick"] (sp_Links_due ⟨K, He.ga K "Links"⟩) := mkCalM k_Links e_Links_due b_Links_due (ok_Links_due T F_Links_due)
  have C_Links_empty : CalM P w K mg base (He.ga K "Links") "empty" (1) ["self"] (sp_Links_empty ⟨K, He.ga K "Links"⟩) := mkCalM k_Links e_Links_empty b_Links_empty (ok_Links_empty T F_Links_empty)
  have C_l_state : Cal P w K mg base "_law_state" (1) ["_law_script"] (spState K) := mkCal F_l_state g_l_state b_l_state (ok_l_state T F_l_state)
  have C_l_draw : Cal P w K mg base "_law_draw" (1) ["_law_state_here", "_law_many"] spDraw := mkCal F_l_draw g_l_draw b_l_draw (ok_l_draw T F_l_draw)
  have C_l_pick : Cal P w K mg base "_law_pick" (2) ["_law_state_here", "_law_row"] spPick := mkCal F_l_pick g_l_pick b_l_pick (ok_l_pick T F_l_pick C_l_draw)
  exact (ok_law T F_law C_l_state C_l_draw C_Links_init C_Links_due C_l_pick C_Links_send C_Links_empty)
end K43
open PySem PySem.W PySem.Calls PyProof.Rows
theorem PySem.Challenge.cw_placedanyhow_k43_links_keep_their_order_holds : PySem.Challenge.rw_placedanyhow_k43_links_keep_their_order.Holds := by
  w_on; o_law
  refine HandSHeadRun.head_any (r := OpenLaw.row PySem.Challenge.rw_placedanyhow_k43_links_keep_their_order) (q := view (OpenLaw.row PySem.Challenge.rw_placedanyhow_k43_links_keep_their_order).prog [6]) (H := K43.hk) (ob := K43.ob) (M := 4000) (loose := K43.lo) (d := HandSHeadRun.topDef (OpenLaw.row PySem.Challenge.rw_placedanyhow_k43_links_keep_their_order).prog 6) (kwd := []) K43.ob_eq
    (by kernel_rfl) (fun s => by kernel_rfl) K43.run (by kernel_rfl) (by kernel_rfl) (by kernel_rfl) (by rfl) (by first | assumption | decide +kernel) (by decide +kernel) ⟨rfl, rfl, rfl, rfl, rfl, by decide +kernel⟩ ?hw ?hc
  case hw => w_witness2
  case hc =>
    refine L2.walk_ofE (l := PySem.Challenge.rw_placedanyhow_k43_links_keep_their_order) (n := 63) (k := 10) (x := "_law_script") (CX := L2.CX0) rfl (by decide) (by kernel_rfl) ⟨rfl, by decide, by decide⟩ ?F (fun _ _ _ _ z => z)
    intro w mg fa h Y G hmg0
    obtain ⟨K, KX, c⟩ := Y
    have hmg : mg ("law" : PySem.Str) = some (.ref fa) := by
      have e : (HandSHeadRun.topDef (OpenLaw.row PySem.Challenge.rw_placedanyhow_k43_links_keep_their_order).prog 6).name = ("law" : PySem.Str) := by kernel_rfl
      rw [← e]
      exact hmg0
    obtain ⟨fd, hb, hF⟩ := K43.facts (P := (PySem.Challenge.rw_placedanyhow_k43_links_keep_their_order).prog) (w := w) KX G hmg c
    exact ⟨K, fd, K43.sp_law ⟨K, He.ga K "Links"⟩, KX, hb, fun H a ns hl _ hS => ⟨a, ns, rfl, hS, hl, K43.cf c, fun _ => rfl⟩, hF⟩

