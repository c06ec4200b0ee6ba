import PyProof.Rows.All
import Wide.All
import OpenK.AllK
import Wide.FinOn
import HandS.ForMost
import HandS.Exc
import HandS.ExcOwn
import HandS.WordsExc
import HandS.IsInst
import HandS.Steps
import HandS.Deep
import HandS.TupAny
import HandS.Replace
import HandS.SetFor
import HandS.More
import HandS.SortKw
import KE.DataMinMax
import PyProof.DictWalks
import HandS.Style
import HandS.ExcIs
import HandS.HotCalls
import HandS.SortRule
import KE.KDictKeyed
import KE.KTupSum
import HandS.TryOnly
import HandS.TupLe
import HandS.SortInts
import KE.DataCmp
import PySem.Challenge.RW_keepaway_k08_whole_numbers_and_rows
set_option Elab.async false
set_option linter.all false
set_option maxRecDepth 100000
set_option maxHeartbeats 4000000
namespace Kp
open PySem L2

def Up (P : Hp → Prop) (H : Hp) : Prop := ∀ H1, Same H H1 → P H1
theorem Up.here {P : Hp → Prop} {H : Hp} (h : Up P H) : P H := h H (Same.refl H)
theorem Up.mono {P : Hp → Prop} {H H' : Hp} (h : Up P H) (e : Same H H') : Up P H' := fun H1 e1 => h H1 (e.trans e1)
theorem Up.imp {P Q : Hp → Prop} {H : Hp} (h : Up P H) (f : ∀ H', P H' → Q H') : Up Q H := fun H1 e => f H1 (h H1 e)
theorem Up.of {P : Hp → Prop} {H : Hp} (h : ∀ H', P H') : Up P H := fun H1 _ => h H1

/-! ### heaps -/
theorem same_new {H : Hp} {p : Addr} (h : H p = none) (o : HO) : Same H (upd H p o) := fun b u q => by
  rw [upd_ne (ne_of_none q h)]
  exact q
theorem same_newer {H H' : Hp} {p : Addr} {o : HO} (e : Same H H') (h : H' p = none) : Same H (upd H' p o) := e.trans (same_new h o)
/-- an object that H does not know may change -/
theorem same_mut {H H' : Hp} {p : Addr} {o : HO} (e : Same H H') (h : H p = none) : Same H (upd H' p o) := fun a u ha => by
  rw [upd_ne (ne_of_none ha h)]
  exact e a u ha
theorem same_upd {H H1 : Hp} {p : Addr} {o : HO} (e : Same H H1) : Same (upd H p o) (upd H1 p o) := fun a u ha => by
  by_cases h : a = p
  · rw [h, upd_same] at ha
    rw [h, upd_same]
    exact ha
  · rw [upd_ne h] at ha
    rw [upd_ne h]
    exact e a u ha
theorem same_free {H H1 : Hp} {p : Addr} (e : Same H H1) (h : H1 p = none) : H p = none := e.free h
theorem rd_up {H H' : Hp} {a : Addr} {u : HO} (e : Same H H') (h : Rd H a u) : Rd H' a u := by
  rcases h with h | ⟨o, h⟩
  · exact .inl (e a _ h)
  · exact .inr ⟨o, e a _ h⟩
theorem sq_up {K : PySem.W.Frag} {H H' : Hp} {a : Addr} {xs : List V} (e : Same H H') (h : SqL K H a xs) : SqL K H' a xs := by
  rcases h with h | h
  · exact .inl (rd_up e h)
  · exact .inr h
theorem st_up {K : PySem.W.Frag} {H H' : Hp} {a : Addr} {xs : List V} (e : Same H H') (h : SqT K H a xs) : SqT K H' a xs := by
  rcases h with h | h
  · exact .inl (rd_up e h)
  · exact .inr h
theorem up_fresh {H : Hp} {a p : Addr} {o u : HO} (h : H p = none) (k : H a = some u) : upd H p o a = some u := same_new h o a u k
theorem up_other {H : Hp} {a p : Addr} {o : HO} {u : Option HO} (h : a ≠ p) (k : H a = u) : upd H p o a = u := by
  rw [upd_ne h]
  exact k
theorem none_back {H : Hp} {a p : Addr} {o : HO} (h : upd H p o a = none) : H a = none ∧ a ≠ p := by
  by_cases e : a = p
  · rw [e, upd_same] at h
    cases h
  · rw [upd_ne e] at h
    exact ⟨h, e⟩
theorem sz {n : Nat} (h : n ≤ 100000) : n ≤ sizeLine := Nat.le_trans h (by decide)
theorem szl {n : Nat} (h : n < 100000) : n < sizeLine := Nat.lt_of_lt_of_le h (by decide)

section
variable {K : PySem.W.Frag} {H : Hp} {σ : St} {Q : VK} {v x y : V} {ta tb te tc : TE} {t u : TT} {b : Bool}

/-! ### values -/
theorem up_var {i : Nat} (h : σ[i]? = some (some v)) (k : Up (Q v) H) : Up (fun H1 => tVar i σ H1 Q) H := fun H1 e => ⟨v, h, k H1 e⟩
theorem up_c (k : Up (Q v) H) : Up (fun H1 => tC v σ H1 Q) H := k
theorem up_op {r : R2} (k : Up (fun H1 => ta σ H1 fun x H2 => tb σ H2 fun y H3 => r x y H3 Q) H) : Up (fun H1 => tOp r ta tb σ H1 Q) H := k
theorem up_un {r : V → Hp → VK → Prop} (k : Up (fun H1 => ta σ H1 fun x H2 => r x H2 Q) H) : Up (fun H1 => tUn r ta σ H1 Q) H := k
theorem up_I0 {g : Int → Int → V} {i j : Int} (k : Up (Q (g i j)) H) : Up (fun H1 => rI0 g (.int i) (.int j) H1 Q) H := fun H1 e => ⟨i, j, rfl, rfl, k H1 e⟩
theorem up_I {C : Int → Int → Prop} {g : Int → Int → V} {i j : Int} (c : C i j) (k : Up (Q (g i j)) H) : Up (fun H1 => rI C g (.int i) (.int j) H1 Q) H := fun H1 e => ⟨i, j, rfl, rfl, c, k H1 e⟩
theorem up_U {g : Int → V} {i : Int} (k : Up (Q (g i)) H) : Up (fun H1 => rU g (.int i) H1 Q) H := fun H1 e => ⟨i, rfl, k H1 e⟩
theorem up_eqI {i j : Int} (k : Up (Q (.bl (decide (i = j)))) H) : Up (fun H1 => rEq (.int i) (.int j) H1 Q) H := fun H1 e => ⟨rfl, by
  have q : decide (V.int i = V.int j) = decide (i = j) := decide_eq_decide.mpr ⟨fun h => V.int.inj h, fun h => by rw [h]⟩
  rw [q]
  exact k H1 e⟩
theorem up_neI {i j : Int} (k : Up (Q (.bl (!decide (i = j)))) H) : Up (fun H1 => rNe (.int i) (.int j) H1 Q) H := fun H1 e => ⟨rfl, by
  have q : decide (V.int i = V.int j) = decide (i = j) := decide_eq_decide.mpr ⟨fun h => V.int.inj h, fun h => by rw [h]⟩
  rw [q]
  exact k H1 e⟩
theorem up_eqV (h : scal x y = true) (k : Up (Q (.bl (decide (x = y)))) H) : Up (fun H1 => rEq x y H1 Q) H := fun H1 e => ⟨h, k H1 e⟩
theorem up_neV (h : scal x y = true) (k : Up (Q (.bl (!decide (x = y)))) H) : Up (fun H1 => rNe x y H1 Q) H := fun H1 e => ⟨h, k H1 e⟩
theorem up_isN (k : Up (Q (.bl (decide (x = .non)))) H) : Up (fun H1 => rIsN x .non H1 Q) H := fun H1 e => ⟨rfl, k H1 e⟩
theorem up_notN (k : Up (Q (.bl (!decide (x = .non)))) H) : Up (fun H1 => rNotN x .non H1 Q) H := fun H1 e => ⟨rfl, k H1 e⟩

/-! ### tests -/
def asB (Q : Bool → Hp → Prop) : VK := fun x H' => ∃ k, x = .bl k ∧ Q k H'
variable {QB : Bool → Hp → Prop}
theorem up_test (k : Up (fun H1 => te σ H1 (asB QB)) H) : Up (fun H1 => tTest te σ H1 QB) H := k
theorem up_tB (k : Up (fun H1 => te σ H1 (asB QB)) H) : Up (fun H1 => tB te σ H1 QB) H := k
theorem up_asB (k : Up (QB b) H) : Up (asB QB (.bl b)) H := fun H1 e => ⟨b, rfl, k H1 e⟩
def andK (u : TT) (σ : St) (Q : Bool → Hp → Prop) : Bool → Hp → Prop := fun c H1 => if c = true then u σ H1 Q else Q false H1
def orK (u : TT) (σ : St) (Q : Bool → Hp → Prop) : Bool → Hp → Prop := fun c H1 => if c = true then Q true H1 else u σ H1 Q
def notK (Q : Bool → Hp → Prop) : Bool → Hp → Prop := fun c H1 => Q (!c) H1
theorem up_and (k : Up (fun H1 => t σ H1 (andK u σ QB)) H) : Up (fun H1 => tAnd t u σ H1 QB) H := k
theorem up_or (k : Up (fun H1 => t σ H1 (orK u σ QB)) H) : Up (fun H1 => tOr t u σ H1 QB) H := k
theorem up_not (k : Up (fun H1 => t σ H1 (notK QB)) H) : Up (fun H1 => tNot t σ H1 QB) H := k
theorem up_notK (k : Up (QB (!b)) H) : Up (notK QB b) H := k
theorem up_andK (k1 : b = true → Up (fun H1 => u σ H1 QB) H) (k0 : b = false → Up (QB false) H) : Up (andK u σ QB b) H := by
  cases b with
  | true => exact k1 rfl
  | false => exact k0 rfl
theorem up_orK (k1 : b = true → Up (QB true) H) (k0 : b = false → Up (fun H1 => u σ H1 QB) H) : Up (orK u σ QB b) H := by
  cases b with
  | true => exact k1 rfl
  | false => exact k0 rfl
theorem up_andT (h : b = true) (k : Up (fun H1 => u σ H1 QB) H) : Up (andK u σ QB b) H := by rw [h]; exact k
theorem up_andF (h : b = false) (k : Up (QB false) H) : Up (andK u σ QB b) H := by rw [h]; exact k
theorem up_orT (h : b = true) (k : Up (QB true) H) : Up (orK u σ QB b) H := by rw [h]; exact k
theorem up_orF (h : b = false) (k : Up (fun H1 => u σ H1 QB) H) : Up (orK u σ QB b) H := by rw [h]; exact k
/-- .. as values -/
def andV (tb : TE) (σ : St) (Q : VK) : VK := fun x H1 => ∃ c, x = .bl c ∧ if c = true then tb σ H1 Q else Q (.bl false) H1
def orV (tb : TE) (σ : St) (Q : VK) : VK := fun x H1 => ∃ c, x = .bl c ∧ if c = true then Q (.bl true) H1 else tb σ H1 Q
def notV (Q : VK) : VK := fun x H1 => ∃ c, x = .bl c ∧ Q (.bl (!c)) H1
theorem up_andVt (k : Up (fun H1 => ta σ H1 (andV tb σ Q)) H) : Up (fun H1 => tAndV ta tb σ H1 Q) H := k
theorem up_orVt (k : Up (fun H1 => ta σ H1 (orV tb σ Q)) H) : Up (fun H1 => tOrV ta tb σ H1 Q) H := k
theorem up_notVt (k : Up (fun H1 => ta σ H1 (notV Q)) H) : Up (fun H1 => tNotV ta σ H1 Q) H := k
theorem up_notV (k : Up (Q (.bl (!b))) H) : Up (notV Q (.bl b)) H := fun H1 e => ⟨b, rfl, k H1 e⟩
theorem up_andVK (k1 : b = true → Up (fun H1 => tb σ H1 Q) H) (k0 : b = false → Up (Q (.bl false)) H) : Up (andV tb σ Q (.bl b)) H := fun H1 e => ⟨b, rfl, by
  cases b with
  | true => exact k1 rfl H1 e
  | false => exact k0 rfl H1 e⟩
theorem up_orVK (k1 : b = true → Up (Q (.bl true)) H) (k0 : b = false → Up (fun H1 => tb σ H1 Q) H) : Up (orV tb σ Q (.bl b)) H := fun H1 e => ⟨b, rfl, by
  cases b with
  | true => exact k1 rfl H1 e
  | false => exact k0 rfl H1 e⟩
def ifV (ta tb : TE) (σ : St) (Q : VK) : Bool → Hp → Prop := fun c H1 => if c = true then ta σ H1 Q else tb σ H1 Q
theorem up_ifE (k : Up (fun H1 => t σ H1 (ifV ta tb σ Q)) H) : Up (fun H1 => tIf t ta tb σ H1 Q) H := k
theorem up_ifV (k1 : b = true → Up (fun H1 => ta σ H1 Q) H) (k0 : b = false → Up (fun H1 => tb σ H1 Q) H) : Up (ifV ta tb σ Q b) H := by
  cases b with
  | true => exact k1 rfl
  | false => exact k0 rfl
/-- a test, a value, told once -/
def EvT (t : TT) (σ : St) (H : Hp) (b : Bool) : Prop := ∀ Q : Bool → Hp → Prop, Up (Q b) H → Up (fun H1 => t σ H1 Q) H
def EvE (t : TE) (σ : St) (H : Hp) (v : V) : Prop := ∀ Q : VK, Up (Q v) H → Up (fun H1 => t σ H1 Q) H
theorem up_evT (h : EvT t σ H b) (k : Up (QB b) H) : Up (fun H1 => t σ H1 QB) H := h QB k
theorem up_evE (h : EvE te σ H v) (k : Up (Q v) H) : Up (fun H1 => te σ H1 Q) H := h Q k
/-- truth of a value -/
def truK (K : PySem.W.Frag) (QB : Bool → Hp → Prop) : VK := fun x H' => ∃ k, TruV K x H' k ∧ QB k H'
theorem up_tru (k : Up (fun H1 => te σ H1 (truK K QB)) H) : Up (fun H1 => tTru K te σ H1 QB) H := k
theorem up_truL {p : Addr} {xs : List V} (h : SqL K H p xs) (k : Up (QB (!xs.isEmpty)) H) : Up (truK K QB (.ref p)) H := fun H1 e => ⟨_, .inl ⟨xs, sq_up e h, rfl⟩, k H1 e⟩
theorem up_truI {i : Int} (k : Up (QB (i != 0)) H) : Up (truK K QB (.int i)) H := fun H1 e => ⟨_, rfl, k H1 e⟩

/-! ### arguments -/
variable {tr : TA} {QA : List V → Hp → Prop} {xs ys : List V}
def consB (x : V) (Q : List V → Hp → Prop) : List V → Hp → Prop := fun xs H => Q (x :: xs) H
def consA (tr : TA) (σ : St) (Q : List V → Hp → Prop) : VK := fun x H => tr σ H (consB x Q)
theorem up_cons (k : Up (fun H1 => te σ H1 (consA tr σ QA)) H) : Up (fun H1 => tCons te tr σ H1 QA) H := k
theorem up_consA (k : Up (fun H1 => tr σ H1 (consB x QA)) H) : Up (consA tr σ QA x) H := k
theorem up_consB (k : Up (QA (x :: xs)) H) : Up (consB x QA xs) H := k
theorem up_nil (k : Up (QA []) H) : Up (fun H1 => tNil σ H1 QA) H := k
def tupK (Q : VK) : List V → Hp → Prop := fun xs H1 => xs.length ≤ sizeLine ∧ ∀ p, H1 p = none → Q (.ref p) (upd H1 p (.tup xs))
def lstK (Q : VK) : List V → Hp → Prop := fun xs H1 => xs.length ≤ sizeLine ∧ ∀ p, H1 p = none → Q (.ref p) (upd H1 p (.lst xs))
theorem up_tup (k : Up (fun H1 => tr σ H1 (tupK Q)) H) : Up (fun H1 => tTup tr σ H1 Q) H := k
theorem up_lst (k : Up (fun H1 => tr σ H1 (lstK Q)) H) : Up (fun H1 => tLst tr σ H1 Q) H := k
theorem up_new {o : HO} (k : ∀ p, H p = none → Up (Q (.ref p)) (upd H p o)) : Up (fun H1 => ∀ p, H1 p = none → Q (.ref p) (upd H1 p o)) H := fun H1 e p hp => k p (e.free hp) _ (same_upd e)
theorem up_tupK (h : xs.length ≤ 100000) (k : ∀ p, H p = none → Up (Q (.ref p)) (upd H p (.tup xs))) : Up (tupK Q xs) H := fun H1 e => ⟨sz h, fun p hp => k p (e.free hp) _ (same_upd e)⟩
theorem up_lstK (h : xs.length ≤ 100000) (k : ∀ p, H p = none → Up (Q (.ref p)) (upd H p (.lst xs))) : Up (lstK Q xs) H := fun H1 e => ⟨sz h, fun p hp => k p (e.free hp) _ (same_upd e)⟩

/-! ### calls -/
/-- a promise told from below -/
def KSp (F : List V → Hp → VK → Prop) : Sp := fun vs H Q _ => ∃ H0, Same H0 H ∧ F vs H0 Q
/-- .. of a def that may raise -/
def KSx (F : List V → Hp → VK → XK → Prop) : Sp := fun vs H Q E => ∃ H0, Same H0 H ∧ F vs H0 Q E
def callK (sp : Sp) (dvs : List V) (E : XK) (Q : VK) : List V → Hp → Prop := fun vs H => sp (vs ++ dvs) H Q E
theorem up_callT {sp : Sp} {dvs : List V} {E : XK} (k : Up (fun H1 => tr σ H1 (callK sp dvs E Q)) H) : Up (fun H1 => tCall sp dvs E tr σ H1 Q) H := k
theorem up_call {F : List V → Hp → VK → Prop} {E : XK} {vs : List V} (h : F vs H Q) : Up (callK (KSp F) [] E Q vs) H := fun H1 e => by
  show KSp F (vs ++ []) H1 Q E
  rw [List.append_nil]
  exact ⟨H, e, h⟩
theorem up_callX {F : List V → Hp → VK → XK → Prop} {E : XK} {vs : List V} (h : F vs H Q E) : Up (callK (KSx F) [] E Q vs) H := fun H1 e => by
  show KSx F (vs ++ []) H1 Q E
  rw [List.append_nil]
  exact ⟨H, e, h⟩
def blK (r : List V → Hp → VK → Prop) (Q : VK) : List V → Hp → Prop := fun vs H => r vs H Q
theorem up_CB {r : List V → Hp → VK → Prop} (k : Up (fun H1 => tr σ H1 (blK r Q)) H) : Up (fun H1 => tCB r tr σ H1 Q) H := k
/-- o.m(..) of a built-in type -/
def bmB (r : V → List V → Hp → VK → Prop) (x : V) (Q : VK) : List V → Hp → Prop := fun vs H => r x vs H Q
def bmK (K : PySem.W.Frag) (T : String) (r : V → List V → Hp → VK → Prop) (tr : TA) (σ : St) (Q : VK) : VK := fun x H1 => tyV K T x H1 ∧ tr σ H1 (bmB r x Q)
theorem up_BM {T : String} {r : V → List V → Hp → VK → Prop} (k : Up (fun H1 => te σ H1 (bmK K T r tr σ Q)) H) : Up (fun H1 => tBM K T r te tr σ H1 Q) H := k
def bm0K (K : PySem.W.Frag) (T : String) (r : V → List V → Hp → VK → Prop) (Q : VK) : VK := fun x H1 => tyV K T x H1 ∧ r x [] H1 Q
theorem up_BM0 {T : String} {r : V → List V → Hp → VK → Prop} (k : Up (fun H1 => te σ H1 (bm0K K T r Q)) H) : Up (fun H1 => tBM0 K T r te σ H1 Q) H := k
theorem up_bmL {p : Addr} {r : V → List V → Hp → VK → Prop} (h : SqL K H p xs) (k : Up (fun H1 => tr σ H1 (bmB r (.ref p) Q)) H) : Up (bmK K "list" r tr σ Q (.ref p)) H := fun H1 e => ⟨.inl ⟨rfl, xs, sq_up e h⟩, k H1 e⟩
theorem up_bm0L {p : Addr} {r : V → List V → Hp → VK → Prop} (h : SqL K H p xs) (k : Up (fun H1 => r (.ref p) [] H1 Q) H) : Up (bm0K K "list" r Q (.ref p)) H := fun H1 e => ⟨.inl ⟨rfl, xs, sq_up e h⟩, k H1 e⟩
theorem up_bmS {z : Str} {r : V → List V → Hp → VK → Prop} (k : Up (fun H1 => tr σ H1 (bmB r (.str z) Q)) H) : Up (bmK K "str" r tr σ Q (.str z)) H := fun H1 e => ⟨rfl, k H1 e⟩

/-! ### lists -/
theorem up_append {l : Addr} (h : H l = some (.lst xs)) (hz : xs.length < 100000) (k : Up (Q .non) (upd H l (.lst (xs ++ [y])))) : Up (bmB rAppend (.ref l) Q [y]) H := fun H1 e => ⟨l, xs, y, rfl, rfl, e l _ h, szl hz, k _ (same_upd e)⟩
theorem up_extend {l c : Addr} (h : H l = some (.lst xs)) (hc : H c = some (.lst ys)) (hz : xs.length + ys.length ≤ 100000) (k : Up (Q .non) (upd H l (.lst (xs ++ ys)))) : Up (bmB rExtend (.ref l) Q [.ref c]) H :=
  fun H1 e => ⟨l, c, xs, ys, rfl, rfl, e l _ h, e c _ hc, sz hz, k _ (same_upd e)⟩
theorem up_pop {l : Addr} (h : H l = some (.lst xs)) (hy : xs[xs.length - 1]? = some y) (k : Up (Q y) (upd H l (.lst xs.dropLast))) : Up (fun H1 => rPop (.ref l) [] H1 Q) H := fun H1 e => ⟨l, xs, y, rfl, rfl, e l _ h, hy, k _ (same_upd e)⟩
theorem up_clear {l : Addr} (h : H l = some (.lst xs)) (k : Up (Q .non) (upd H l (.lst []))) : Up (fun H1 => rClear (.ref l) [] H1 Q) H := fun H1 e => ⟨l, xs, rfl, rfl, e l _ h, k _ (same_upd e)⟩
theorem up_ixL {p : Addr} {i : Int} (h : SqL K H p xs) (hv : atI xs i = some v) (k : Up (Q v) H) : Up (fun H1 => rIxL K (.ref p) (.int i) H1 Q) H := fun H1 e => ⟨p, xs, i, v, rfl, rfl, sq_up e h, hv, k H1 e⟩
theorem up_ixT {p : Addr} {i : Int} (h : SqT K H p xs) (hv : atI xs i = some v) (k : Up (Q v) H) : Up (fun H1 => rIxT K (.ref p) (.int i) H1 Q) H := fun H1 e => ⟨p, xs, i, v, rfl, rfl, st_up e h, hv, k H1 e⟩
theorem up_ixS {z : Str} {i : Int} {c : Nat} (hz : z.length ≤ 100000) (hv : atI z.cps.toList i = some c) (k : Up (Q (.str ⟨#[c]⟩)) H) : Up (fun H1 => rIxS (.str z) (.int i) H1 Q) H := fun H1 e => ⟨z, i, c, rfl, rfl, sz hz, hv, k H1 e⟩
theorem up_cat {l c : Addr} (h : H l = some (.lst xs)) (hc : H c = some (.lst ys)) (hz : xs.length + ys.length ≤ 100000) (k : ∀ p, H p = none → Up (Q (.ref p)) (upd H p (.lst (xs ++ ys)))) : Up (fun H1 => rCat (.ref l) (.ref c) H1 Q) H :=
  fun H1 e => ⟨l, c, xs, ys, rfl, rfl, e l _ h, e c _ hc, sz hz, fun p hp => k p (e.free hp) _ (same_upd e)⟩
theorem up_rep {l : Addr} {n : Int} (h : H l = some (.lst xs)) (h1 : -100000 ≤ n) (h2 : n ≤ 100000) (hz : xs.length ≤ 100) (k : ∀ p, H p = none → Up (Q (.ref p)) (upd H p (.lst (List.replicate n.toNat xs).flatten))) : Up (fun H1 => rRep (.ref l) (.int n) H1 Q) H :=
  fun H1 e => ⟨l, n, xs, rfl, rfl, e l _ h, by omega, by omega, by
    have hs : sizeLine = 16777216 := sizeLine_eq
    have : xs.length * n.toNat ≤ 100 * 100000 := Nat.mul_le_mul hz (by omega)
    omega, fun p hp => k p (e.free hp) _ (same_upd e)⟩
theorem up_in {neg : Bool} {p : Addr} (h : SqL K H p xs) (hx : flatV x = true) (ha : xs.all flatV = true) (k : Up (Q (.bl (if neg then !inV x xs else inV x xs))) H) : Up (fun H1 => rIn K neg x (.ref p) H1 Q) H := fun H1 e => ⟨p, xs, rfl, .inl (sq_up e h), hx, ha, k H1 e⟩
theorem up_inT {neg : Bool} {p : Addr} (h : SqT K H p xs) (hx : flatV x = true) (ha : xs.all flatV = true) (k : Up (Q (.bl (if neg then !inV x xs else inV x xs))) H) : Up (fun H1 => rIn K neg x (.ref p) H1 Q) H := fun H1 e => ⟨p, xs, rfl, .inr (st_up e h), hx, ha, k H1 e⟩
/-- slices -/
def oK (th : TO) (σ : St) (r : V → Option Int → Option Int → Hp → VK → Prop) (x : V) (Q : VK) : Option Int → Hp → Prop := fun l H2 => th σ H2 fun u H3 => r x l u H3 Q
def slK (tl th : TO) (σ : St) (r : V → Option Int → Option Int → Hp → VK → Prop) (Q : VK) : VK := fun x H1 => tl σ H1 (oK th σ r x Q)
theorem up_sl {tl th : TO} {r : V → Option Int → Option Int → Hp → VK → Prop} (k : Up (fun H1 => te σ H1 (slK tl th σ r Q)) H) : Up (fun H1 => tSl r te tl th σ H1 Q) H := k
theorem up_slK {tl th : TO} {r : V → Option Int → Option Int → Hp → VK → Prop} (k : Up (fun H1 => tl σ H1 (oK th σ r x Q)) H) : Up (slK tl th σ r Q x) H := k
theorem up_oK {th : TO} {r : V → Option Int → Option Int → Hp → VK → Prop} {l : Option Int} (k : Up (fun H1 => th σ H1 fun u H3 => r x l u H3 Q) H) : Up (oK th σ r x Q l) H := k
theorem up_noPart {QO : Option Int → Hp → Prop} (k : Up (QO none) H) : Up (fun H1 => tNoPart σ H1 QO) H := k
def partK (QO : Option Int → Hp → Prop) : VK := fun x H1 => ∃ i, x = .int i ∧ QO (some i) H1
theorem up_part {QO : Option Int → Hp → Prop} (k : Up (fun H1 => te σ H1 (partK QO)) H) : Up (fun H1 => tPart te σ H1 QO) H := k
theorem up_partK {QO : Option Int → Hp → Prop} {i : Int} (k : Up (QO (some i)) H) : Up (partK QO (.int i)) H := fun H1 e => ⟨i, rfl, k H1 e⟩
theorem up_slL {a : Addr} {lo hi : Option Int} (h : SqL K H a xs) (k : ∀ p, H p = none → Up (Q (.ref p)) (upd H p (.lst (cutV xs lo hi)))) : Up (fun H1 => rSlL K (.ref a) lo hi H1 Q) H := fun H1 e => ⟨a, xs, rfl, sq_up e h, fun p hp => k p (e.free hp) _ (same_upd e)⟩
theorem up_slS {z : Str} {lo hi : Option Int} (h : z.length ≤ 100000) (k : Up (Q (.str (cutS z lo hi))) H) : Up (fun H1 => rSlS (.str z) lo hi H1 Q) H := fun H1 e => ⟨z, rfl, sz h, k H1 e⟩

/-! ### built-in functions -/
def rLen (K : PySem.W.Frag) : List V → Hp → VK → Prop := fun xs H Q => ∃ p ys, xs = [.ref p] ∧ (SqL K H p ys ∨ SqT K H p ys) ∧ Q (.int ys.length) H
theorem kc_len {X : Cx} : CallR X (.builtin "len") (rLen X.K) := call_len_seq
theorem up_len {p : Addr} (h : SqL K H p xs) (k : Up (Q (.int xs.length)) H) : Up (blK (rLen K) Q [.ref p]) H := fun H1 e => ⟨p, xs, rfl, .inl (sq_up e h), k H1 e⟩
theorem up_lenT {p : Addr} (h : SqT K H p xs) (k : Up (Q (.int xs.length)) H) : Up (blK (rLen K) Q [.ref p]) H := fun H1 e => ⟨p, xs, rfl, .inr (st_up e h), k H1 e⟩
def rLenZ : List V → Hp → VK → Prop := fun xs H Q => ∃ z : Str, xs = [.str z] ∧ z.length ≤ sizeLine ∧ Q (.int z.length) H
theorem kc_lenZ {X : Cx} : CallR X (.builtin "len") rLenZ := call_len_str
theorem up_lenZ {z : Str} (h : z.length ≤ 100000) (k : Up (Q (.int z.length)) H) : Up (blK rLenZ Q [.str z]) H := fun H1 e => ⟨z, rfl, sz h, k H1 e⟩
def rListOf (K : PySem.W.Frag) : List V → Hp → VK → Prop := fun xs H Q => ∃ p ys, xs = [.ref p] ∧ (SqL K H p ys ∨ SqT K H p ys) ∧ ∀ l, H l = none → Q (.ref l) (upd H l (.lst ys))
theorem kc_list {X : Cx} : CallR X (.type "list") (rListOf X.K) := call_list_of
theorem up_listOf {p : Addr} (h : SqL K H p xs) (k : ∀ l, H l = none → Up (Q (.ref l)) (upd H l (.lst xs))) : Up (blK (rListOf K) Q [.ref p]) H := fun H1 e => ⟨p, xs, rfl, .inl (sq_up e h), fun l hl => k l (e.free hl) _ (same_upd e)⟩
theorem up_listOfT {p : Addr} (h : SqT K H p xs) (k : ∀ l, H l = none → Up (Q (.ref l)) (upd H l (.lst xs))) : Up (blK (rListOf K) Q [.ref p]) H := fun H1 e => ⟨p, xs, rfl, .inr (st_up e h), fun l hl => k l (e.free hl) _ (same_upd e)⟩
def rTupOf (K : PySem.W.Frag) : List V → Hp → VK → Prop := fun xs H Q => ∃ p ys, xs = [.ref p] ∧ ((SqL K H p ys ∧ ∀ l, H l = none → Q (.ref l) (upd H l (.tup ys))) ∨ (SqT K H p ys ∧ Q (.ref p) H))
theorem kc_tuple {X : Cx} : CallR X (.type "tuple") (rTupOf X.K) := call_tuple_of
theorem up_tupOf {p : Addr} (h : SqL K H p xs) (k : ∀ l, H l = none → Up (Q (.ref l)) (upd H l (.tup xs))) : Up (blK (rTupOf K) Q [.ref p]) H := fun H1 e => ⟨p, xs, rfl, .inl ⟨sq_up e h, fun l hl => k l (e.free hl) _ (same_upd e)⟩⟩
def rMx2 : List V → Hp → VK → Prop := fun xs H Q => ∃ i j, xs = [.int i, .int j] ∧ Q (.int (if j > i then j else i)) H
theorem kc_max2 {X : Cx} (hc : X.calm = true) : CallR X (.builtin "max") rMx2 := call_max2 hc
theorem up_max2 {i j : Int} (k : Up (Q (.int (max i j))) H) : Up (blK rMx2 Q [.int i, .int j]) H := fun H1 e => ⟨i, j, rfl, by
  have q : (if j > i then j else i) = max i j := by
    by_cases h : j > i
    · rw [if_pos h]; omega
    · rw [if_neg h]; omega
  rw [q]
  exact k H1 e⟩
def rMn2 : List V → Hp → VK → Prop := fun xs H Q => ∃ i j, xs = [.int i, .int j] ∧ Q (.int (if j < i then j else i)) H
theorem kc_min2 {X : Cx} (hc : X.calm = true) : CallR X (.builtin "min") rMn2 := call_min2 hc
theorem up_min2 {i j : Int} (k : Up (Q (.int (min i j))) H) : Up (blK rMn2 Q [.int i, .int j]) H := fun H1 e => ⟨i, j, rfl, by
  have q : (if j < i then j else i) = min i j := by
    by_cases h : j < i
    · rw [if_pos h]; omega
    · rw [if_neg h]; omega
  rw [q]
  exact k H1 e⟩
theorem up_sum {p : Addr} {ns : List Int} (h : SqL K H p (ns.map V.int)) (k : Up (Q (.int ns.sum)) H) : Up (blK (rSum K) Q [.ref p]) H := fun H1 e => ⟨p, ns, rfl, sq_up e h, k H1 e⟩
theorem up_max {p : Addr} {ns : List Int} (h : SqL K H p (ns.map V.int)) (hn : 0 < ns.length) (k : ∀ m, m ∈ ns → (∀ y, y ∈ ns → y ≤ m) → Up (Q (.int m)) H) : Up (blK (rMax K) Q [.ref p]) H := fun H1 e => ⟨p, ns, rfl, sq_up e h, hn, fun m a b => k m a b H1 e⟩
/-- isinstance with a built-in type -/
theorem tyOf_up {H' : Hp} {t : Value} (e : Same H H') (h : TyX K H x t) : TyX K H' x t := by
  cases h with
  | base h =>
    cases h with
    | non => exact .base .non
    | bl y => exact .base (.bl y)
    | int y => exact .base (.int y)
    | str y => exact .base (.str y)
    | flt y => exact .base (.flt y)
    | lst h => exact .base (.lst (e _ _ h))
    | frz h => exact .base (.frz (e _ _ h))
    | tup h => exact .base (.tup (e _ _ h))
    | dK h => exact .base (.dK (e _ _ h))
    | dT h => exact .base (.dT (e _ _ h))
    | ins h a b c d f => exact .base (.ins (e _ _ h) a b c d f)
  | byt b => exact .byt b
  | set h => exact .set (e _ _ h)
  | kList h c => exact .kList h c
  | kTuple h c => exact .kTuple h c
  | kDict h c => exact .kDict h c
  | fTuple h => exact .fTuple (e _ _ h)
  | fDict h => exact .fDict (e _ _ h)
theorem up_isi {a : String} {n : String} (ty : TyX K H x (.type a)) {r : Bool} (h : kitB a n = some r) (k : Up (Q (.bl r)) H) : Up (blK (rIsi K) Q [x, .ty n]) H := fun H1 e => ⟨x, .ty n, .type a, .type n, r, rfl, .ty n, tyOf_up e ty, kit_ty h, k H1 e⟩

/-! ### statements -/
variable {n bk ct : St → Hp → Prop} {r : VK} {ts tu tw : TS}
def asK (g : TG) (n : St → Hp → Prop) (σ : St) : VK := fun x H1 => g x σ H1 n
theorem up_seq (k : Up (ts (Ends.mk (tu (Ends.mk n r bk ct)) r bk ct) σ) H) : Up (tSeq ts tu (Ends.mk n r bk ct) σ) H := k
theorem up_next (k : Up (n σ) H) : Up (tNext (Ends.mk n r bk ct) σ) H := k
theorem up_brk (k : Up (bk σ) H) : Up (tBreak (Ends.mk n r bk ct) σ) H := k
theorem up_cont (k : Up (ct σ) H) : Up (tCont (Ends.mk n r bk ct) σ) H := k
theorem up_asg {g : TG} (k : Up (fun H1 => te σ H1 (asK g n σ)) H) : Up (tAsg te g (Ends.mk n r bk ct) σ) H := k
theorem up_name {i : Nat} (k : Up (n (σ.set i (some v))) H) : Up (asK (gName i) n σ v) H := k
def subK (ti : TE) (t : TSet) (v : V) (σ : St) (n : St → Hp → Prop) : VK := fun o H1 => ti σ H1 fun i H2 => t o i v H2 fun H3 => n σ H3
theorem up_sub {ti : TE} {t : TSet} (k : Up (fun H1 => te σ H1 (subK ti t v σ n)) H) : Up (asK (gSub te ti t) n σ v) H := k
theorem up_subK {ti : TE} {t : TSet} {o : V} (k : Up (fun H1 => ti σ H1 fun i H2 => t o i v H2 fun H3 => n σ H3) H) : Up (subK ti t v σ n o) H := k
theorem up_setL {p : Addr} {i : Int} {j : Nat} (h : H p = some (.lst xs)) (hi : ixN xs.length i = some j) (k : Up (n σ) (upd H p (.lst (xs.set j v)))) : Up (fun H1 => rSetL (.ref p) (.int i) v H1 fun H3 => n σ H3) H :=
  fun H1 e => ⟨p, xs, i, j, rfl, rfl, e p _ h, hi, k _ (same_upd e)⟩
def drK (n : St → Hp → Prop) (σ : St) : VK := fun _ H1 => n σ H1
theorem up_drop (k : Up (fun H1 => te σ H1 (drK n σ)) H) : Up (tDrop te (Ends.mk n r bk ct) σ) H := k
theorem up_drK (k : Up (n σ) H) : Up (drK n σ v) H := k
theorem up_ret (k : Up (fun H1 => te σ H1 r) H) : Up (tRet te (Ends.mk n r bk ct) σ) H := k
theorem up_retN (k : Up (r .non) H) : Up (tRetN (Ends.mk n r bk ct) σ) H := k
def ifK (ts tu : TS) (D : Ends) (σ : St) : Bool → Hp → Prop := fun b H1 => if b = true then ts D σ H1 else tu D σ H1
theorem up_if (k : Up (fun H1 => t σ H1 (ifK ts tu (Ends.mk n r bk ct) σ)) H) : Up (tIfS t ts tu (Ends.mk n r bk ct) σ) H := k
theorem up_ifK {D : Ends} (k1 : b = true → Up (ts D σ) H) (k0 : b = false → Up (tu D σ) H) : Up (ifK ts tu D σ b) H := by
  cases b with
  | true => exact k1 rfl
  | false => exact k0 rfl
theorem up_ifP {D : Ends} {c : Prop} [Decidable c] (k1 : c → Up (ts D σ) H) (k0 : ¬ c → Up (tu D σ) H) : Up (ifK ts tu D σ (decide c)) H := up_ifK (fun h => k1 (of_decide_eq_true h)) fun h => k0 (of_decide_eq_false h)
theorem up_ifN {D : Ends} {c : Prop} [Decidable c] (k1 : ¬ c → Up (ts D σ) H) (k0 : c → Up (tu D σ) H) : Up (ifK ts tu D σ (!decide c)) H :=
  up_ifK (fun h => k1 (of_decide_eq_false (by simpa using h))) fun h => k0 (of_decide_eq_true (by simpa using h))
theorem up_ifT {D : Ends} (h : b = true) (k : Up (ts D σ) H) : Up (ifK ts tu D σ b) H := by rw [h]; exact k
theorem up_ifF {D : Ends} (h : b = false) (k : Up (tu D σ) H) : Up (ifK ts tu D σ b) H := by rw [h]; exact k

/-! ### loops: I tells, of a turn's number and the slots, what is known of the heap -/
/-- I from below -/
def Lo (I : St → Hp → Prop) : St → Hp → Prop := fun σ H' => ∃ H0, Same H0 H' ∧ I σ H0
theorem up_lo {I : St → Hp → Prop} (h : I σ H) : Up (Lo I σ) H := fun _ e => ⟨H, e, h⟩
def itK (g : TG) (tb : TS) (D : Ends) (σ : St) : It → Hp → Prop := fun J H1 => ∃ W : Nat → Nat → St → Hp → Prop, (∃ m, W 0 m σ H1) ∧ ∀ i m σ H, W i m σ H →
  (J.stop i H ∧ D.nx σ H) ∨ (J.go i H ∧ ∃ N : St → Hp → Prop, (∀ σ' H', N σ' H' → ∃ m', m' < m ∧ W (i + 1) m' σ' H') ∧ ∀ x H', J.yld i H x H' → g x σ H' fun σ2 H2 => tb { D with nx := N, ct := N, bk := D.nx } σ2 H2)
theorem up_for {wi : TI} {g : TG} (k : Up (fun H1 => wi σ H1 (itK g ts (Ends.mk n r bk ct) σ)) H) : Up (tFor wi g ts (Ends.mk n r bk ct) σ) H := k
variable {R : It → Hp → Prop}
def itlK (K : PySem.W.Frag) (R : It → Hp → Prop) : VK := fun x H1 => ∃ a, x = .ref a ∧ (∃ xs, SqL K H1 a xs) ∧ R (Itl K a) H1
theorem up_iList (k : Up (fun H1 => te σ H1 (itlK K R)) H) : Up (fun H1 => iList K te σ H1 R) H := k
theorem up_itl {a : Addr} (h : SqL K H a xs) (k : Up (R (Itl K a)) H) : Up (itlK K R (.ref a)) H := fun H1 e => ⟨a, rfl, ⟨xs, sq_up e h⟩, k H1 e⟩
def rg1K (R : It → Hp → Prop) : List V → Hp → Prop := fun vs H1 => ∃ j : Int, vs = [.int j] ∧ -(2 ^ 62) ≤ j ∧ j < 2 ^ 62 ∧ R (Itr 0 j.toNat) H1
theorem up_iRng1 (k : Up (fun H1 => tr σ H1 (rg1K R)) H) : Up (fun H1 => iRng1 tr σ H1 R) H := k
theorem up_rg1 {j : Int} (h1 : -100000 ≤ j) (h2 : j ≤ 100000) (k : Up (R (Itr 0 j.toNat)) H) : Up (rg1K R [.int j]) H := fun H1 e => ⟨j, rfl, by omega, by omega, k H1 e⟩
def rg2K (R : It → Hp → Prop) : List V → Hp → Prop := fun vs H1 => ∃ i j : Int, vs = [.int i, .int j] ∧ (-(2 ^ 62) ≤ i ∧ i < 2 ^ 62 ∧ -(2 ^ 62) ≤ j ∧ j < 2 ^ 62) ∧ R (Itr i (j - i).toNat) H1
theorem up_iRng2 (k : Up (fun H1 => tr σ H1 (rg2K R)) H) : Up (fun H1 => iRng2 tr σ H1 R) H := k
theorem up_rg2 {i j : Int} (h : -100000 ≤ i ∧ i ≤ 100000 ∧ -100000 ≤ j ∧ j ≤ 100000) (k : Up (R (Itr i (j - i).toNat)) H) : Up (rg2K R [.int i, .int j]) H := fun H1 e => ⟨i, j, rfl, ⟨by omega, by omega, by omega, by omega⟩, k H1 e⟩
def rg3K (R : It → Hp → Prop) : List V → Hp → Prop := fun vs H1 => ∃ (i j c : Int) (n : Nat), vs = [.int i, .int j, .int c] ∧ RgC i j c n ∧ R (Itc i c n) H1
theorem up_iRng3 (k : Up (fun H1 => tr σ H1 (rg3K R)) H) : Up (fun H1 => iRng3 tr σ H1 R) H := k
theorem up_rg3 {i j : Int} (h : -100000 ≤ i ∧ i ≤ 100000 ∧ -100000 ≤ j ∧ j ≤ 100000) (k : Up (R (Itc i (-1) (i - j).toNat)) H) : Up (rg3K R [.int i, .int j, .int (-1)]) H :=
  fun H1 e => ⟨i, j, -1, (i - j).toNat, rfl, RgC.neg (by omega) (by omega) (by omega) (by omega), k H1 e⟩
def istK (R : It → Hp → Prop) : VK := fun v H1 => ∃ x, v = .str x ∧ R (Its x) H1
theorem up_iStr (k : Up (fun H1 => te σ H1 (istK R)) H) : Up (fun H1 => iStr te σ H1 R) H := k
theorem up_ist {z : Str} (k : Up (R (Its z)) H) : Up (istK R (.str z)) H := fun H1 e => ⟨z, rfl, k H1 e⟩

/-- what a turn of the body is to reach -/
abbrev turnE (I : Nat → St → Hp → Prop) (i : Nat) (n : St → Hp → Prop) (r : VK) : Ends := Ends.mk (Lo (I (i + 1))) r n (Lo (I (i + 1)))
theorem up_forL {a : Addr} {j : Nat} (I : Nat → St → Hp → Prop) (h0 : I 0 σ H) (hl : ∀ i σ' H', i ≤ xs.length → I i σ' H' → SqL K H' a xs)
    (hs : ∀ i x σ' H', xs[i]? = some x → I i σ' H' → Up (ts (turnE I i n r) (σ'.set j (some x))) H') (hd : ∀ σ' H', I xs.length σ' H' → Up (n σ') H') : Up (itK (gName j) ts (Ends.mk n r bk ct) σ (Itl K a)) H := fun H1 e => by
  refine for_list (K := K) (a := a) (xs := xs) (fun i => Lo (I i)) ⟨H, e, h0⟩ (fun i σ' H' hi ⟨H0, e0, p⟩ => sq_up e0 (hl i σ' H0 hi p)) (fun i x σ' H' hx ⟨H0, e0, p⟩ => ?_) (fun σ' H' ⟨H0, e0, p⟩ => hd σ' H0 p H' e0)
  exact hs i x σ' H0 hx p H' e0
theorem up_forR {lo : Int} {m j : Nat} (I : Nat → St → Hp → Prop) (h0 : I 0 σ H)
    (hs : ∀ i σ' H', i < m → I i σ' H' → Up (ts (turnE I i n r) (σ'.set j (some (.int (lo + i))))) H') (hd : ∀ σ' H', I m σ' H' → Up (n σ') H') : Up (itK (gName j) ts (Ends.mk n r bk ct) σ (Itr lo m)) H := fun H1 e => by
  refine for_range (lo := lo) (n := m) (fun i => Lo (I i)) ⟨H, e, h0⟩ (fun i σ' H' hi ⟨H0, e0, p⟩ => ?_) (fun σ' H' ⟨H0, e0, p⟩ => hd σ' H0 p H' e0)
  exact hs i σ' H0 hi p H' e0
theorem up_forR0 {m j : Nat} (I : Nat → St → Hp → Prop) (h0 : I 0 σ H)
    (hs : ∀ i σ' H', i < m → I i σ' H' → Up (ts (turnE I i n r) (σ'.set j (some (.int ((i : Nat) : Int))))) H') (hd : ∀ σ' H', I m σ' H' → Up (n σ') H') : Up (itK (gName j) ts (Ends.mk n r bk ct) σ (Itr 0 m)) H :=
  up_forR I h0 (fun i σ' H' hi p => by rw [Int.zero_add]; exact hs i σ' H' hi p) hd
theorem up_forC {lo c : Int} {m j : Nat} (I : Nat → St → Hp → Prop) (h0 : I 0 σ H)
    (hs : ∀ i σ' H', i < m → I i σ' H' → Up (ts (turnE I i n r) (σ'.set j (some (.int (lo + (i : Nat) * c))))) H') (hd : ∀ σ' H', I m σ' H' → Up (n σ') H') : Up (itK (gName j) ts (Ends.mk n r bk ct) σ (Itc lo c m)) H := fun H1 e => by
  refine for_rangeC (lo := lo) (c := c) (n := m) (fun i => Lo (I i)) ⟨H, e, h0⟩ (fun i σ' H' hi ⟨H0, e0, p⟩ => ?_) (fun σ' H' ⟨H0, e0, p⟩ => hd σ' H0 p H' e0)
  exact hs i σ' H0 hi p H' e0
theorem up_while (I : Nat → St → Hp → Prop) (m0 : Nat) (h0 : I m0 σ H)
    (hs : ∀ m σ' H', I m σ' H' → ∃ b, EvT t σ' H' b ∧ (b = true → Up (ts (Ends.mk (Lo fun σ2 H2 => ∃ m', m' < m ∧ I m' σ2 H2) r n (Lo fun σ2 H2 => ∃ m', m' < m ∧ I m' σ2 H2)) σ') H') ∧ (b = false → Up (n σ') H')) :
    Up (tWhile t ts (Ends.mk n r bk ct) σ) H := fun H1 e => by
  refine ⟨fun m => Lo (I m), ⟨m0, H, e, h0⟩, fun m σ' H' ⟨H0, e0, p⟩ => ?_⟩
  obtain ⟨b, ev, k1, k0⟩ := hs m σ' H0 p
  refine ev _ ?_ H' e0
  cases b with
  | true =>
    refine fun H2 e2 => ?_
    show if true = true then _ else _
    rw [if_pos rfl]
    exact ⟨_, fun σ2 H3 ⟨H4, e4, m', hm, q⟩ => ⟨m', hm, H4, e4, q⟩, k1 rfl H2 e2⟩
  | false =>
    refine fun H2 e2 => ?_
    show if false = true then _ else _
    rw [if_neg Bool.false_ne_true]
    exact k0 rfl H2 e2

/-! ### comprehensions -/
def lcK (g : TG) (tt : TT) (te : TE) (vs : List Nat) (σ : St) (Q : VK) : It → Hp → Prop := fun J H1 => ∀ D, H1 D = none → ∃ W : Nat → Nat → Hp → Prop, (∃ m, W 0 m (upd H1 D (.lst []))) ∧ ∀ i m H, W i m H →
  (J.stop i H ∧ Q (.ref D) H) ∨ (J.go i H ∧ ∃ Nx : Hp → Prop, (∀ H', Nx H' → ∃ m', m' < m ∧ W (i + 1) m' H') ∧ ∀ x H', J.yld i H x H' → g x (wipe σ vs) H' fun σ2 H2 => wipe σ2 vs = wipe σ vs ∧ tt σ2 H2 fun b H3 =>
    if b = true then te σ2 H3 fun y H4 => ∃ acc, H4 D = some (.lst acc) ∧ acc.length < sizeLine ∧ Nx (upd H4 D (.lst (acc ++ [y]))) else Nx H3)
theorem up_lc {wi : TI} {g : TG} {vs : List Nat} (k : Up (fun H1 => wi σ H1 (lcK g t te vs σ Q)) H) : Up (fun H1 => tLc wi g t te vs σ H1 Q) H := k
/-- I from below, of the heap alone -/
def Lh (I : Hp → Prop) : Hp → Prop := fun H' => ∃ H0, Same H0 H' ∧ I H0
theorem up_lh {I : Hp → Prop} (h : I H) : Up (Lh I) H := fun _ e => ⟨H, e, h⟩
/-- the new item goes to the list at D -/
def putD (D : Addr) (N : Hp → Prop) : VK := fun y H4 => ∃ acc, H4 D = some (.lst acc) ∧ acc.length < sizeLine ∧ N (upd H4 D (.lst (acc ++ [y])))
theorem up_putD {D : Addr} {N : Hp → Prop} (h : H D = some (.lst xs)) (hz : xs.length < 100000) (k : Up N (upd H D (.lst (xs ++ [y])))) : Up (putD D N y) H := fun H1 e => ⟨xs, e D _ h, szl hz, k _ (same_upd e)⟩
/-- kept or not -/
def keepD (te : TE) (σ2 : St) (D : Addr) (N : Hp → Prop) : Bool → Hp → Prop := fun b H3 => if b = true then te σ2 H3 (putD D N) else N H3
theorem up_keep1 {D : Addr} {N : Hp → Prop} (h : b = true) (k : Up (fun H1 => te σ H1 (putD D N)) H) : Up (keepD te σ D N b) H := by rw [h]; exact k
theorem up_keep0 {D : Addr} {N : Hp → Prop} (h : b = false) (k : Up N H) : Up (keepD te σ D N b) H := by rw [h]; exact k
theorem up_keepP {D : Addr} {N : Hp → Prop} {c : Prop} [Decidable c] (k1 : c → Up (fun H1 => te σ H1 (putD D N)) H) (k0 : ¬ c → Up N H) : Up (keepD te σ D N (decide c)) H := by
  by_cases h : c
  · exact up_keep1 (decide_eq_true h) (k1 h)
  · exact up_keep0 (decide_eq_false h) (k0 h)
theorem up_keepB {D : Addr} {N : Hp → Prop} (k1 : b = true → Up (fun H1 => te σ H1 (putD D N)) H) (k0 : b = false → Up N H) : Up (keepD te σ D N b) H := by
  cases b with
  | true => exact k1 rfl
  | false => exact k0 rfl
theorem up_yes (k : Up (QB true) H) : Up (fun H1 => tYes σ H1 QB) H := k
theorem up_lcL {a : Addr} {j : Nat} {vs : List Nat} (hw : ∀ x, wipe ((wipe σ vs).set j (some x)) vs = wipe σ vs) (I : Addr → Nat → Hp → Prop) (h0 : ∀ D, H D = none → I D 0 (upd H D (.lst []))) (hl : ∀ D i H', i ≤ xs.length → I D i H' → SqL K H' a xs)
    (hs : ∀ D i x H', H D = none → xs[i]? = some x → I D i H' → Up (fun H1 => t ((wipe σ vs).set j (some x)) H1 (keepD te ((wipe σ vs).set j (some x)) D (Lh (I D (i + 1))))) H') (hd : ∀ D H', H D = none → I D xs.length H' → Up (Q (.ref D)) H') :
    Up (lcK (gName j) t te vs σ Q (Itl K a)) H := fun H1 e D hD => by
  refine lc_list (K := K) (a := a) (xs := xs) (fun i => Lh (I D i)) ⟨_, same_upd e, h0 D (e.free hD)⟩ (fun i H' hi ⟨H0, e0, p⟩ => sq_up e0 (hl D i H0 hi p)) (fun i x H' hx ⟨H0, e0, p⟩ => ⟨hw x, ?_⟩) (fun H' ⟨H0, e0, p⟩ => hd D H0 (e.free hD) p H' e0)
  exact hs D i x H0 (e.free hD) hx p H' e0
theorem up_lcR {lo : Int} {m j : Nat} {vs : List Nat} (hw : ∀ x, wipe ((wipe σ vs).set j (some x)) vs = wipe σ vs) (I : Addr → Nat → Hp → Prop) (h0 : ∀ D, H D = none → I D 0 (upd H D (.lst [])))
    (hs : ∀ D i H', H D = none → i < m → I D i H' → Up (fun H1 => t ((wipe σ vs).set j (some (.int (lo + i)))) H1 (keepD te ((wipe σ vs).set j (some (.int (lo + i)))) D (Lh (I D (i + 1))))) H') (hd : ∀ D H', H D = none → I D m H' → Up (Q (.ref D)) H') :
    Up (lcK (gName j) t te vs σ Q (Itr lo m)) H := fun H1 e D hD => by
  refine lc_range (lo := lo) (n := m) (fun i => Lh (I D i)) ⟨_, same_upd e, h0 D (e.free hD)⟩ (fun i H' hi ⟨H0, e0, p⟩ => ⟨hw _, ?_⟩) (fun H' ⟨H0, e0, p⟩ => hd D H0 (e.free hD) p H' e0)
  exact hs D i H0 (e.free hD) hi p H' e0
end
section
variable {H : Hp} {σ : St} {Q : VK} {t : TT} {te : TE}
theorem up_lcR0 {m j : Nat} {vs : List Nat} (hw : ∀ x, wipe ((wipe σ vs).set j (some x)) vs = wipe σ vs) (I : Addr → Nat → Hp → Prop) (h0 : ∀ D, H D = none → I D 0 (upd H D (.lst [])))
    (hs : ∀ D i H', H D = none → i < m → I D i H' → Up (fun H1 => t ((wipe σ vs).set j (some (.int ((i : Nat) : Int)))) H1 (keepD te ((wipe σ vs).set j (some (.int ((i : Nat) : Int)))) D (Lh (I D (i + 1))))) H') (hd : ∀ D H', H D = none → I D m H' → Up (Q (.ref D)) H') :
    Up (lcK (gName j) t te vs σ Q (Itr 0 m)) H := up_lcR hw I h0 (fun D i H' hD hi p => by rw [Int.zero_add]; exact hs D i H' hD hi p) hd
end
/-! ### defs by their names -/
/-- a def of the text, its promise -/
structure Fn (P : Program) (w : World) (K : PySem.W.Frag) (mg : Str → Option Value) (base : Heap) (CX : CXT) (k : Nat) (x : Str) (ps : List Str) (sp : Sp) : Prop where
  ex : ∃ (f : Addr) (fd : FuncData), FnOk P w K mg base CX k f fd ps sp ∧ mg x = some (.ref f) ∧ PySem.W.keepIn K (.ref f) = true ∧ Binds K fd ps []
theorem Fn.mk' {P : Program} {w : World} {K : PySem.W.Frag} {mg : Str → Option Value} {base : Heap} {CX : CXT} {k : Nat} {x qual : Str} {st : Stmt} {ps : List Str} {sp : Sp} {f : Addr} {fd : FuncData} (F : Fun K x qual st f fd) (G : FnOk P w K mg base CX k f fd ps sp) (hm : mg x = some (.ref f))
    (h : ∀ (kV doc pm : Value) (an : Option Addr) (cdv ct : Value) (us : List Value), us.length = ps.length → bindArgs (PySem.W.fnOf x qual (defArgs st) (defBody st) (defScope st) .none kV doc pm an cdv ct) ⟨us, []⟩ = pure (ps.zip us)) : Fn P w K mg base CX k x ps sp :=
  ⟨f, fd, G, hm, F.kp, F.binds h⟩
section
variable {X : Cx} {k j : Nat} {x : Str} {ps : List Str} {sp : Sp} {p pos : Pos} {e : Expr} {es : List Expr} {t : TA}
theorem kp_call (c : Fn X.prog X.w X.K X.mg X.base CX0 k x ps sp) (hr : Room j X.A) (hk : k ≤ j) (hg : Gl X x) (ha : PA X (e :: es) t) (hdb : (x == ("__debug__" : Str)) = false := by decide) (he : starEach (e :: es) X.env = (false, eval e X.env) :: starEach es X.env := by rfl)
    (hpl : (backTo pos (starEach es X.env)).any (·.1) = false := by rfl) : PE X (.Call (.Name x p) (e :: es) [] pos) (tCall sp [] E0 t) := by
  obtain ⟨f, fd, F, hm, kp, b⟩ := c.ex
  exact pe_call F (hr.mono hk) hg hm kp b .nil pass0 ha hdb he hpl
theorem kt_truth {a : Expr} {ta : TE} (ha : PE X a ta) (he : ∀ whole, isTrue a X.env whole = (do let v ← whole; standAt a.pos; holding [v] (truthy v)) := by intro _; rfl) : PT X a (tTru X.K ta) := pt_truth ha he
theorem ko_addS : OpR X (binaryOp .Add) rAddS := op_add_str
end
/-- what the top leaves of the built-ins' names -/
structure Bl (mg : Str → Option Value) : Prop where
  len : mg "len" = none
  range : mg "range" = none
  list : mg "list" = none
  tuple : mg "tuple" = none
  max : mg "max" = none
  min : mg "min" = none
  sum : mg "sum" = none
  sorted : mg "sorted" = none
  isi : mg "isinstance" = none
  int : mg "int" = none
  bool : mg "bool" = none
  str : mg "str" = none
theorem _root_.L2.Room.units65 {k : Nat} {A : Around} (r : Room k A) : A.units + 65 < cLine := by have := r.un; omega
/-! ### dicts with int keys -/
section
variable {K : PySem.W.Frag} {H : Hp} {σ : St} {Q : VK} {v x y : V} {ta tb te : TE} {n bk ct : St → Hp → Prop} {r : VK} {d : Addr} {kvs : List (Key × V)} {i : Int}
theorem up_dnew (k : ∀ p, H p = none → Up (Q (.ref p)) (upd H p (.dK []))) : Up (fun H1 => tDNewK σ H1 Q) H := fun H1 e p hp => k p (e.free hp) _ (same_upd e)
def dinB (neg : Bool) (y : V) (Q : VK) : VK := fun x H2 => ∃ a o, x = .ref a ∧ DGet H2 a y o ∧ Q (.bl (if neg then !o.isSome else o.isSome)) H2
def dinA (neg : Bool) (td : TE) (σ : St) (Q : VK) : VK := fun y H1 => td σ H1 (dinB neg y Q)
theorem up_din (k : Up (fun H1 => ta σ H1 (dinA false tb σ Q)) H) : Up (fun H1 => tDIn ta tb σ H1 Q) H := k
theorem up_dnotin (k : Up (fun H1 => ta σ H1 (dinA true tb σ Q)) H) : Up (fun H1 => tDNotIn ta tb σ H1 Q) H := k
theorem up_dinA {neg : Bool} (k : Up (fun H1 => tb σ H1 (dinB neg y Q)) H) : Up (dinA neg tb σ Q y) H := k
theorem up_dinB (h : H d = some (.dK kvs)) (k : Up (Q (.bl (valV kvs (Sum.inl i : Key)).isSome)) H) : Up (dinB false (.int i) Q (.ref d)) H := fun H1 e => ⟨d, _, rfl, DGet.k (k := Sum.inl i) (e _ _ h), k H1 e⟩
theorem up_dnotinB (h : H d = some (.dK kvs)) (k : Up (Q (.bl (!(valV kvs (Sum.inl i : Key)).isSome))) H) : Up (dinB true (.int i) Q (.ref d)) H := fun H1 e => ⟨d, _, rfl, DGet.k (k := Sum.inl i) (e _ _ h), k H1 e⟩
def dgB (x : V) (Q : VK) : VK := fun y H2 => ∃ a v, x = .ref a ∧ DGet H2 a y (some v) ∧ Q v H2
def dgA (ty : TE) (σ : St) (Q : VK) : VK := fun x H1 => ty σ H1 (dgB x Q)
theorem up_dget (k : Up (fun H1 => ta σ H1 (dgA tb σ Q)) H) : Up (fun H1 => tDGet ta tb σ H1 Q) H := k
theorem up_dgA (k : Up (fun H1 => tb σ H1 (dgB x Q)) H) : Up (dgA tb σ Q x) H := k
theorem up_dgB (h : H d = some (.dK kvs)) (hv : valV kvs (Sum.inl i : Key) = some v) (k : Up (Q v) H) : Up (dgB (.ref d) Q (.int i)) H := fun H1 e => ⟨d, v, rfl, by
  have g := DGet.k (k := (Sum.inl i : Key)) (e _ _ h)
  rw [hv] at g
  exact g, k H1 e⟩
def dpC (v x : V) (n : St → Hp → Prop) (σ : St) : VK := fun y H3 => ∃ a H4, x = .ref a ∧ DPut H3 a y v H4 ∧ n σ H4
def dpB (v : V) (ty : TE) (n : St → Hp → Prop) (σ : St) : VK := fun x H2 => ty σ H2 (dpC v x n σ)
def dpA (td ty : TE) (n : St → Hp → Prop) (σ : St) : VK := fun v H1 => td σ H1 (dpB v ty n σ)
theorem up_dput (k : Up (fun H1 => te σ H1 (dpA ta tb n σ)) H) : Up (sDPut ta tb te (Ends.mk n r bk ct) σ) H := k
theorem up_dpA (k : Up (fun H1 => ta σ H1 (dpB v tb n σ)) H) : Up (dpA ta tb n σ v) H := k
theorem up_dpB (k : Up (fun H1 => tb σ H1 (dpC v x n σ)) H) : Up (dpB v tb n σ x) H := k
theorem up_dpC (h : H d = some (.dK kvs)) (hl : kvs.length < 100000) (k : Up (n σ) (upd H d (.dK (putK kvs (Sum.inl i : Key) v)))) : Up (dpC v (.ref d) n σ (.int i)) H := fun H1 e => ⟨d, _, rfl, DPut.k (k := Sum.inl i) (e _ _ h) (szl hl), k _ (same_upd e)⟩
/-- d.get(k, z) -/
def d2C (a : Addr) (y : V) (Q : VK) : VK := fun z H3 => ∃ o, DGet H3 a y o ∧ Q (o.getD z) H3
def d2B (a : Addr) (tx : TE) (σ : St) (Q : VK) : VK := fun y H2 => tx σ H2 (d2C a y Q)
def d2A (ty tx : TE) (σ : St) (Q : VK) : VK := fun x H1 => ∃ a, x = .ref a ∧ IsD H1 a ∧ ty σ H1 (d2B a tx σ Q)
theorem up_dget2 (k : Up (fun H1 => ta σ H1 (d2A tb te σ Q)) H) : Up (fun H1 => tDGet2 ta tb te σ H1 Q) H := k
theorem up_d2A (h : H d = some (.dK kvs)) (k : Up (fun H1 => tb σ H1 (d2B d te σ Q)) H) : Up (d2A tb te σ Q (.ref d)) H := fun H1 e => ⟨d, rfl, .inl ⟨kvs, .inl (e _ _ h)⟩, k H1 e⟩
theorem up_d2B (k : Up (fun H1 => te σ H1 (d2C d y Q)) H) : Up (d2B d te σ Q y) H := k
theorem up_d2C (h : H d = some (.dK kvs)) (k : Up (Q ((valV kvs (Sum.inl i : Key)).getD v)) H) : Up (d2C d (.int i) Q v) H := fun H1 e => ⟨_, DGet.k (k := Sum.inl i) (e _ _ h), k H1 e⟩
/-- d.pop(k) -/
def dqB (a : Addr) (Q : VK) : VK := fun y H2 => ∃ kvs k v, H2 a = some (.dK kvs) ∧ y = kV k ∧ valV kvs k = some v ∧ Q v (upd H2 a (.dK (dropK kvs k)))
def dqA (ty : TE) (σ : St) (Q : VK) : VK := fun x H1 => ∃ a, x = .ref a ∧ IsD H1 a ∧ ty σ H1 (dqB a Q)
theorem up_dpop1 (k : Up (fun H1 => ta σ H1 (dqA tb σ Q)) H) : Up (fun H1 => tDPop1 ta tb σ H1 Q) H := k
theorem up_dqA (h : H d = some (.dK kvs)) (k : Up (fun H1 => tb σ H1 (dqB d Q)) H) : Up (dqA tb σ Q (.ref d)) H := fun H1 e => ⟨d, rfl, .inl ⟨kvs, .inl (e _ _ h)⟩, k H1 e⟩
theorem up_dqB (h : H d = some (.dK kvs)) (hv : valV kvs (Sum.inl i : Key) = some v) (k : Up (Q v) (upd H d (.dK (dropK kvs (Sum.inl i : Key))))) : Up (dqB d Q (.int i)) H := fun H1 e => ⟨kvs, Sum.inl i, v, e _ _ h, rfl, hv, k _ (same_upd e)⟩

/-! ### instances -/
variable {C a dx : Addr} {fs : List (Str × V)} {f m : Str} {tr : TA}
def fdK (K : PySem.W.Frag) (f : Str) (Q : VK) : VK := fun x H1 => ∃ a C dx fs v, x = .ref a ∧ H1 a = some (.ins C dx fs) ∧ Cls K C ∧ NoAttr K C f ∧ fs.lookup f = some v ∧ Q v H1
theorem up_fld (k : Up (fun H1 => te σ H1 (fdK K f Q)) H) : Up (fun H1 => tFld K te f σ H1 Q) H := k
theorem up_fdK (h : H a = some (.ins C dx fs)) (c : Cls K C) (na : NoAttr K C f) (hl : fs.lookup f = some v) (k : Up (Q v) H) : Up (fdK K f Q (.ref a)) H := fun H1 e => ⟨a, C, dx, fs, v, rfl, e _ _ h, c, na, hl, k H1 e⟩
def sfB (K : PySem.W.Frag) (f : Str) (y : V) (n : St → Hp → Prop) (σ : St) : VK := fun x H2 => ∃ a C dx fs, x = .ref a ∧ H2 a = some (.ins C dx fs) ∧ Cls K C ∧ NoAttr K C f ∧ fs.length < 1000 ∧ n σ (upd H2 a (.ins C dx (putF f y fs)))
def sfA (K : PySem.W.Frag) (ta : TE) (f : Str) (n : St → Hp → Prop) (σ : St) : VK := fun y H1 => ta σ H1 (sfB K f y n σ)
theorem up_sfld (k : Up (fun H1 => te σ H1 (sfA K ta f n σ)) H) : Up (sFld K ta te f (Ends.mk n r bk ct) σ) H := k
theorem up_sfA (k : Up (fun H1 => ta σ H1 (sfB K f y n σ)) H) : Up (sfA K ta f n σ y) H := k
theorem up_sfB (h : H a = some (.ins C dx fs)) (c : Cls K C) (na : NoAttr K C f) (hl : fs.length < 1000) (k : Up (n σ) (upd H a (.ins C dx (putF f y fs)))) : Up (sfB K f y n σ (.ref a)) H := fun H1 e => ⟨a, C, dx, fs, rfl, e _ _ h, c, na, hl, k _ (same_upd e)⟩
def mtB (sp : Sp) (dvs : List V) (E : XK) (x : V) (Q : VK) : List V → Hp → Prop := fun vs H2 => sp (x :: (vs ++ dvs)) H2 Q E
def mtA (C : Addr) (m : Str) (sp : Sp) (dvs : List V) (E : XK) (tr : TA) (σ : St) (Q : VK) : VK := fun x H1 => ∃ a dx fs, x = .ref a ∧ H1 a = some (.ins C dx fs) ∧ fs.lookup m = none ∧ tr σ H1 (mtB sp dvs E x Q)
theorem up_meth {sp : Sp} {dvs : List V} {E : XK} (k : Up (fun H1 => te σ H1 (mtA C m sp dvs E tr σ Q)) H) : Up (fun H1 => tMeth C m sp dvs E te tr σ H1 Q) H := k
theorem up_mtA {sp : Sp} {dvs : List V} {E : XK} (h : H a = some (.ins C dx fs)) (hl : fs.lookup m = none) (k : Up (fun H1 => tr σ H1 (mtB sp dvs E (.ref a) Q)) H) : Up (mtA C m sp dvs E tr σ Q (.ref a)) H := fun H1 e => ⟨a, dx, fs, rfl, e _ _ h, hl, k H1 e⟩
theorem up_mtB {F : List V → Hp → VK → Prop} {E : XK} {vs : List V} (h : F (x :: vs) H Q) : Up (mtB (KSp F) [] E x Q vs) H := fun H1 e => by
  show KSp F (x :: (vs ++ [])) H1 Q E
  rw [List.append_nil]
  exact ⟨H, e, h⟩
theorem up_mtX {F : List V → Hp → VK → XK → Prop} {E : XK} {vs : List V} (h : F (x :: vs) H Q E) : Up (mtB (KSx F) [] E x Q vs) H := fun H1 e => by
  show KSx F (x :: (vs ++ [])) H1 Q E
  rw [List.append_nil]
  exact ⟨H, e, h⟩
def mkK (C : Addr) (sp : Sp) (dvs : List V) (E : XK) (Q : VK) : List V → Hp → Prop := fun vs H1 => ∀ x dx, H1 x = none → H1 dx = none → dx ≠ x → sp (.ref x :: (vs ++ dvs)) (upd (upd H1 dx (.own x)) x (.ins C dx [])) (fun v H2 => v = .non ∧ Q (.ref x) H2) E
theorem up_make {sp : Sp} {dvs : List V} {E : XK} (k : Up (fun H1 => tr σ H1 (mkK C sp dvs E Q)) H) : Up (fun H1 => tMake C sp dvs E tr σ H1 Q) H := k
theorem up_mkX {F : List V → Hp → VK → XK → Prop} {E : XK} {vs : List V} (h : ∀ x dx, H x = none → H dx = none → dx ≠ x → F (.ref x :: vs) (upd (upd H dx (.own x)) x (.ins C dx [])) (fun v H2 => v = .non ∧ Q (.ref x) H2) E) : Up (mkK C (KSx F) [] E Q vs) H := fun H1 e x dx hx hd ne => by
  show KSx F (.ref x :: (vs ++ [])) _ _ E
  rw [List.append_nil]
  exact ⟨_, same_upd (same_upd e), h x dx (e.free hx) (e.free hd) ne⟩
/-- behind an __init__: None, and the instance -/
theorem up_made {x : Addr} (k : Up (Q (.ref x)) H) : Up (fun H2 => V.non = V.non ∧ Q (.ref x) H2) H := fun H1 e => ⟨rfl, k H1 e⟩
end
section
variable {X : Cx} {k j : Nat} {C : Addr} {m : Str} {ps : List Str} {sp : Sp} {pos apos : Pos} {o e : Expr} {es : List Expr} {t : TA} {ta : TE}
/-- a method of the text -/
structure Mt (P : Program) (w : World) (K : PySem.W.Frag) (mg : Str → Option Value) (base : Heap) (CX : CXT) (k : Nat) (C : Addr) (m : Str) (ps : List Str) (sp : Sp) : Prop where
  ex : ∃ (f : Addr) (fd : FuncData), FnOk P w K mg base CX k f fd ps sp ∧ Meth K C m f ∧ Binds K fd ps []
theorem kp_meth (c : Mt X.prog X.w X.K X.mg X.base CX0 k C m ps sp) (cl : Cls X.K C) (hr : Room j X.A) (hk : k ≤ j) (he : PE X o ta) (ha : PA X (e :: es) t)
    (hst : starEach (e :: es) X.env = (false, eval e X.env) :: starEach es X.env := by rfl) (hpl : (backTo pos (starEach es X.env)).any (·.1) = false := by rfl) {pl : Sem Bool}
    (ht : eval (.Call (.Attribute o m apos) (e :: es) [] pos) X.env = (do
      let ov ← eval o X.env
      standAt apos.atName
      let (f, first) ← holding [ov] (getMethod ov m pl)
      callWith pos f first (backTo pos (starEach (e :: es) X.env)) (backToKw pos (keywordEach [] X.env))) := by rfl) : PE X (.Call (.Attribute o m apos) (e :: es) [] pos) (tMeth C m sp [] E0 ta t) := by
  obtain ⟨f, fd, F, hm, b⟩ := c.ex
  exact pe_meth he cl hm F (hr.mono hk) b .nil pass0 ha hst hpl ht
theorem kp_meth0 (c : Mt X.prog X.w X.K X.mg X.base CX0 k C m ps sp) (cl : Cls X.K C) (hr : Room j X.A) (hk : k ≤ j) (he : PE X o ta) {pl : Sem Bool}
    (ht : eval (.Call (.Attribute o m apos) [] [] pos) X.env = (do
      let ov ← eval o X.env
      standAt apos.atName
      let (f, first) ← holding [ov] (getMethod ov m pl)
      callWith pos f first (backTo pos (starEach [] X.env)) (backToKw pos (keywordEach [] X.env))) := by rfl) : PE X (.Call (.Attribute o m apos) [] [] pos) (tMeth C m sp [] E0 ta tNil) := by
  obtain ⟨f, fd, F, hm, b⟩ := c.ex
  exact pe_meth0 he cl hm F (hr.mono hk) b .nil pass0 ht
end
end Kp

namespace Kp
open PySem L2
section
variable {K : PySem.W.Frag} {H H' : Hp}
mutual
theorem dp_up (e : Same H H') : ∀ (d : PyData) (v : V), Dp K H v d → Dp K H' v d
  | .none, _, h => by cases h; exact .non
  | .bool b, _, h => by cases h; exact .bl b
  | .int i, _, h => by cases h; exact .int i
  | .str x, _, h => by cases h; exact .str x
  | .list ds, _, h => by
    cases h with
    | lst hs ha => exact .lst (sq_up e hs) (dpAll_up e ds _ ha)
  | .tuple ds, _, h => by
    cases h with
    | tup hs ha => exact .tup (st_up e hs) (dpAll_up e ds _ ha)
  | .dict _, _, h => by cases h
theorem dpAll_up (e : Same H H') : ∀ (ds : List PyData) (vs : List V), DpAll K H vs ds → DpAll K H' vs ds
  | [], _, h => by cases h; exact .nil
  | d :: ds, _, h => by
    cases h with
    | cons h1 h2 => exact .cons (dp_up e d _ h1) (dpAll_up e ds _ h2)
end
/-- None and whole numbers -/
def flat0 : V → Bool
  | .non => true
  | .int _ => true
  | _ => false
def fp : V → PyData
  | .int i => .int i
  | _ => .none
theorem dp_flat : ∀ {x : V}, flat0 x = true → Dp K H x (fp x)
  | .non, _ => .non
  | .int i, _ => .int i
theorem dpAll_flat : ∀ {xs : List V}, xs.all flat0 = true → DpAll K H xs (xs.map fp)
  | [], _ => .nil
  | x :: xs, h => by
    rw [List.all_cons, Bool.and_eq_true] at h
    exact .cons (dp_flat h.1) (dpAll_flat h.2)
theorem lay_flat : ∀ xs : List V, PyData.canLayAll0 (xs.map fp) = true
  | [] => by simp [PyData.canLayAll0]
  | x :: xs => by
    have h := lay_flat xs
    cases x <;> simp [fp, PyData.canLayAll0, PyData.canLay0, h]
theorem depth_flat : ∀ xs : List V, PyData.depthAll (xs.map fp) = 0
  | [] => by simp [PyData.depthAll]
  | x :: xs => by
    have h := depth_flat xs
    cases x <;> simp [fp, PyData.depthAll, PyData.depth, h]
theorem eqv_flat : ∀ {x y : V}, flat0 x = true → flat0 y = true → PyData.eqv (fp x) (fp y) = decide (x = y)
  | .non, .non, _, _ => by simp [fp, PyData.eqv]
  | .non, .int _, _, _ => by simp [fp, PyData.eqv]
  | .int _, .non, _, _ => by simp [fp, PyData.eqv]
  | .int i, .int j, _, _ => by
    show (i == j) = _
    by_cases h : i = j
    · subst h; simp
    · have : V.int i ≠ V.int j := fun q => h (V.int.inj q)
      rw [decide_eq_false this]
      exact beq_eq_false_iff_ne.mpr h
theorem eqvAll_flat : ∀ {xs ys : List V}, xs.all flat0 = true → ys.all flat0 = true → PyData.eqvAll (xs.map fp) (ys.map fp) = decide (xs = ys)
  | [], [], _, _ => by simp [PyData.eqvAll]
  | [], _ :: _, _, _ => by simp [PyData.eqvAll]
  | _ :: _, [], _, _ => by simp [PyData.eqvAll]
  | x :: xs, y :: ys, h, h' => by
    rw [List.all_cons, Bool.and_eq_true] at h h'
    show (PyData.eqv (fp x) (fp y) && PyData.eqvAll (xs.map fp) (ys.map fp)) = _
    rw [eqv_flat h.1 h'.1, eqvAll_flat h.2 h'.2]
    by_cases e : x = y
    · by_cases e2 : xs = ys
      · subst e e2; simp
      · have : ¬ x :: xs = y :: ys := fun q => e2 (List.cons.inj q).2
        rw [decide_eq_false e2, decide_eq_false this, Bool.and_false]
    · have : ¬ x :: xs = y :: ys := fun q => e (List.cons.inj q).1
      rw [decide_eq_false e, decide_eq_false this, Bool.false_and]
theorem shaped_list (xs : List V) : SeqAt.shaped (.list (xs.map fp)) = true := by
  unfold SeqAt.shaped
  simp [PyData.canLay0, PyData.depth, lay_flat, depth_flat]
theorem shaped_tuple (xs : List V) : SeqAt.shaped (.tuple (xs.map fp)) = true := by
  unfold SeqAt.shaped
  simp [PyData.canLay0, PyData.depth, lay_flat, depth_flat]
theorem shaped_fp (x : V) : SeqAt.shaped (fp x) = true := by
  unfold SeqAt.shaped
  cases x <;> simp [fp, PyData.canLay0, PyData.depth]
variable {Q : VK} {x y : V} {d d' : PyData} {xs ys : List V} {p q : Addr}
theorem up_eqD (hx : Dp K H x d) (hy : Dp K H y d') (sx : SeqAt.shaped d = true) (sy : SeqAt.shaped d' = true) (k : Up (Q (.bl (PyData.eqv d d'))) H) : Up (fun H1 => rEqD K x y H1 Q) H := fun H1 e => ⟨d, d', dp_up e _ _ hx, dp_up e _ _ hy, sx, sy, k H1 e⟩
theorem up_neD (hx : Dp K H x d) (hy : Dp K H y d') (sx : SeqAt.shaped d = true) (sy : SeqAt.shaped d' = true) (k : Up (Q (.bl (!PyData.eqv d d'))) H) : Up (fun H1 => rNeD K x y H1 Q) H := fun H1 e => ⟨d, d', dp_up e _ _ hx, dp_up e _ _ hy, sx, sy, k H1 e⟩
theorem shaped_lay {d : PyData} (h : SeqAt.shaped d = true) : d.canLay0 = true := SeqAt.canLay_of_shaped h
/-- equal data -/
theorem up_eqSame (hx : Dp K H x d) (hy : Dp K H y d) (s : SeqAt.shaped d = true) (k : Up (Q (.bl true)) H) : Up (fun H1 => rEqD K x y H1 Q) H := up_eqD hx hy s s (by rw [SeqAt.eqv_refl d (shaped_lay s)]; exact k)
theorem up_neSame (hx : Dp K H x d) (hy : Dp K H y d) (s : SeqAt.shaped d = true) (k : Up (Q (.bl false)) H) : Up (fun H1 => rNeD K x y H1 Q) H := up_neD hx hy s s (by rw [SeqAt.eqv_refl d (shaped_lay s)]; exact k)
theorem up_eqLL (hp : SqL K H p xs) (hq : SqL K H q ys) (fx : xs.all flat0 = true) (fy : ys.all flat0 = true) (k : Up (Q (.bl (decide (xs = ys)))) H) : Up (fun H1 => rEqD K (.ref p) (.ref q) H1 Q) H :=
  up_eqD (.lst hp (dpAll_flat fx)) (.lst hq (dpAll_flat fy)) (shaped_list _) (shaped_list _) (by
    show Up (Q (.bl (PyData.eqvAll (xs.map fp) (ys.map fp)))) H
    rw [eqvAll_flat fx fy]; exact k)
theorem up_neLL (hp : SqL K H p xs) (hq : SqL K H q ys) (fx : xs.all flat0 = true) (fy : ys.all flat0 = true) (k : Up (Q (.bl (!decide (xs = ys)))) H) : Up (fun H1 => rNeD K (.ref p) (.ref q) H1 Q) H :=
  up_neD (.lst hp (dpAll_flat fx)) (.lst hq (dpAll_flat fy)) (shaped_list _) (shaped_list _) (by
    show Up (Q (.bl (!PyData.eqvAll (xs.map fp) (ys.map fp)))) H
    rw [eqvAll_flat fx fy]; exact k)
theorem up_eqTT (hp : SqT K H p xs) (hq : SqT K H q ys) (fx : xs.all flat0 = true) (fy : ys.all flat0 = true) (k : Up (Q (.bl (decide (xs = ys)))) H) : Up (fun H1 => rEqD K (.ref p) (.ref q) H1 Q) H :=
  up_eqD (.tup hp (dpAll_flat fx)) (.tup hq (dpAll_flat fy)) (shaped_tuple _) (shaped_tuple _) (by
    show Up (Q (.bl (PyData.eqvAll (xs.map fp) (ys.map fp)))) H
    rw [eqvAll_flat fx fy]; exact k)
theorem up_neTT (hp : SqT K H p xs) (hq : SqT K H q ys) (fx : xs.all flat0 = true) (fy : ys.all flat0 = true) (k : Up (Q (.bl (!decide (xs = ys)))) H) : Up (fun H1 => rNeD K (.ref p) (.ref q) H1 Q) H :=
  up_neD (.tup hp (dpAll_flat fx)) (.tup hq (dpAll_flat fy)) (shaped_tuple _) (shaped_tuple _) (by
    show Up (Q (.bl (!PyData.eqvAll (xs.map fp) (ys.map fp)))) H
    rw [eqvAll_flat fx fy]; exact k)
theorem flat0_rv (row : List (Option Nat)) (rv : Option Nat → V) (h : ∀ o, flat0 (rv o) = true) : (row.map rv).all flat0 = true := by
  rw [List.all_map, List.all_eq_true]
  exact fun o _ => h o
theorem flat0_ints (ns : List Int) : (ns.map V.int).all flat0 = true := by
  rw [List.all_map, List.all_eq_true]
  exact fun o _ => rfl
end
section
variable {X : Cx} {st : Stmt} {rest : List Stmt} {t u : TS}
/-- a statement, then the rest, with a word between them -/
def tCut (t u : TS) : TS := fun D σ H => ∃ Mid : St → Hp → Prop, t { D with nx := Mid } σ H ∧ ∀ σ' H', Mid σ' H' → u D σ' H'
theorem kp_cut (h1 : PS X st t) (h2 : PSs X rest u) : PSs X (st :: rest) (tCut t u) := by
  refine ⟨fun pins s σ H D I h => ?_⟩
  obtain ⟨Mid, hm, hu⟩ := h
  refine wpAny_execs_cons (thn (h1.run pins s σ H { D with nx := Mid } I hm) fun f s1 q => ?_)
  cases f with
  | next =>
    obtain ⟨σ', H', I', q⟩ := q
    exact h2.run pins s1 σ' H' D I' (hu σ' H' q)
  | ret v => exact q
  | brk => exact q
  | cont => exact q
theorem up_cut {n bk ct : St → Hp → Prop} {r : VK} {σ : St} {H : Hp} (M : St → Hp → Prop) (h : Up (t (Ends.mk (Lo M) r bk ct) σ) H) (k : ∀ σ' H', M σ' H' → Up (u (Ends.mk n r bk ct) σ') H') : Up (tCut t u (Ends.mk n r bk ct) σ) H :=
  fun H1 e => ⟨Lo M, h H1 e, fun σ' H' ⟨H0, e0, m⟩ => k σ' H0 m H' e0⟩
end
/-- the law's end: whatever the heap, True -/
def fLaw (K : PySem.W.Frag) : List V → Hp → VK → Prop := fun vs H Q => ∃ (a : Addr) (ns : List Int), vs = [.ref a] ∧ SqL K H a (ns.map V.int) ∧ ns.length ≤ 63 ∧ Up (Q (.bl true)) H
end Kp

namespace Kp
open PySem L2
def rFindZ : V → List V → Hp → VK → Prop := fun x xs H Q => ∃ a b, x = .str a ∧ xs = [.str b] ∧ Q (.int (PySem.Txt.find a b)) H
def rJoinZ (K : PySem.W.Frag) : V → List V → Hp → VK → Prop := fun x xs H Q => ∃ a p, ∃ ys : List Str, x = .str a ∧ xs = [.ref p] ∧ (SqL K H p (ys.map V.str) ∨ SqT K H p (ys.map V.str)) ∧ (ys.map (·.length)).sum + ys.length * a.length ≤ 16777216 ∧ Q (.str (PySem.Txt.join a ys)) H
def rIndexZ : V → List V → Hp → VK → Prop := fun x xs H Q => ∃ a b i rest, x = .str a ∧ xs = [.str b] ∧ PySem.Builtin.Str.occurrences a b 0 a.length 1 = i :: rest ∧ Q (.int (i : Nat)) H
section
variable {X : Cx}
theorem kt_find : MtR X "str.find" rFindZ := mt_find
theorem kt_join : MtR X "str.join" (rJoinZ X.K) := mt_join
theorem kt_sindex : MtR X "str.index" rIndexZ := mt_sindex
theorem kp_glob {x : Str} {v : V} {pos : Pos} (hg : Gl X x) (h : ∃ u, X.mg x = some u ∧ RelV v u) (hd : (x == ("__debug__" : Str)) = false := by decide) : PE X (.Name x pos) (tC v) := by
  obtain ⟨u, hm, r⟩ := h
  exact pe_glob hg hm r hd
end
section
variable {K : PySem.W.Frag} {H : Hp} {σ : St} {Q : VK} {a b : Str} {n bk ct : St → Hp → Prop} {r : VK} {ts : TS} {t : TT} {te : TE} {xs : List V}
theorem up_find (k : Up (Q (.int (PySem.Txt.find a b))) H) : Up (bmB rFindZ (.str a) Q [.str b]) H := fun H1 e => ⟨a, b, rfl, rfl, k H1 e⟩
theorem up_join {p : Addr} {ys : List Str} (h : SqL K H p (ys.map V.str)) (hz : (ys.map (·.length)).sum + ys.length * a.length ≤ 16777216) (k : Up (Q (.str (PySem.Txt.join a ys))) H) : Up (bmB (rJoinZ K) (.str a) Q [.ref p]) H :=
  fun H1 e => ⟨a, p, ys, rfl, rfl, .inl (sq_up e h), hz, k H1 e⟩
theorem up_sindex {i : Nat} {rest : List Nat} (h : PySem.Builtin.Str.occurrences a b 0 a.length 1 = i :: rest) (k : Up (Q (.int (i : Nat))) H) : Up (bmB rIndexZ (.str a) Q [.str b]) H := fun H1 e => ⟨a, b, i, rest, rfl, rfl, h, k H1 e⟩
theorem up_addS (h : a.length + b.length ≤ 100000) (k : Up (Q (.str (a ++ b))) H) : Up (fun H1 => rAddS (.str a) (.str b) H1 Q) H := fun H1 e => ⟨a, b, rfl, rfl, sz h, k H1 e⟩
/-- for over a text's signs -/
theorem up_forS {z : Str} {j : Nat} (I : Nat → St → Hp → Prop) (h0 : I 0 σ H)
    (hs : ∀ i c σ' H', z.cps[i]? = some c → I i σ' H' → Up (ts (turnE I i n r) (σ'.set j (some (.str ⟨#[c]⟩)))) H') (hd : ∀ σ' H', I z.cps.size σ' H' → Up (n σ') H') : Up (itK (gName j) ts (Ends.mk n r bk ct) σ (Its z)) H := fun H1 e => by
  refine ⟨fun i m σ' H' => m = z.cps.size - i ∧ i ≤ z.cps.size ∧ Lo (I i) σ' H', ⟨z.cps.size, by simp, Nat.zero_le _, H, e, h0⟩, ?_⟩
  rintro i m σ' H' ⟨rfl, hi, H0, e0, p⟩
  by_cases hlt : i < z.cps.size
  · refine .inr ⟨hlt, Lo (I (i + 1)), fun σ2 H2 q => ⟨z.cps.size - (i + 1), by omega, rfl, hlt, q⟩, fun x H2 y => ?_⟩
    obtain ⟨rfl, c, hc, rfl⟩ := y
    exact hs i c σ' H0 hc p _ e0
  · have q : i = z.cps.size := by omega
    subst q
    exact .inl ⟨Nat.le_refl _, hd σ' H0 p H' e0⟩
theorem up_lcS {z : Str} {j : Nat} {vs : List Nat} (hw : ∀ x, wipe ((wipe σ vs).set j (some x)) vs = wipe σ vs) (I : Addr → Nat → Hp → Prop) (h0 : ∀ D, H D = none → I D 0 (upd H D (.lst [])))
    (hs : ∀ D i c H', H D = none → z.cps[i]? = some c → I D i H' → Up (fun H1 => t ((wipe σ vs).set j (some (.str ⟨#[c]⟩))) H1 (keepD te ((wipe σ vs).set j (some (.str ⟨#[c]⟩))) D (Lh (I D (i + 1))))) H') (hd : ∀ D H', H D = none → I D z.cps.size H' → Up (Q (.ref D)) H') :
    Up (lcK (gName j) t te vs σ Q (Its z)) H := fun H1 e D hD => by
  refine ⟨fun i m H' => m = z.cps.size - i ∧ i ≤ z.cps.size ∧ Lh (I D i) H', ⟨z.cps.size, by simp, Nat.zero_le _, _, same_upd e, h0 D (e.free hD)⟩, ?_⟩
  rintro i m H' ⟨rfl, hi, H0, e0, p⟩
  by_cases hlt : i < z.cps.size
  · refine .inr ⟨hlt, Lh (I D (i + 1)), fun H2 q => ⟨z.cps.size - (i + 1), by omega, rfl, hlt, q⟩, fun x H2 y => ?_⟩
    obtain ⟨rfl, c, hc, rfl⟩ := y
    exact ⟨hw _, hs D i c H0 (e.free hD) hc p _ e0⟩
  · have q : i = z.cps.size := by omega
    subst q
    exact .inl ⟨Nat.le_refl _, hd D H0 (e.free hD) p H' e0⟩
end
/-! ### script[1:n] -/
theorem cut_map (ns : List Int) (lo hi : Option Int) : cutV (ns.map V.int) lo hi = ((ns.drop (HT.sIx ns.length 0 lo)).take (HT.sIx ns.length ns.length hi - HT.sIx ns.length 0 lo)).map V.int := by
  unfold cutV
  rw [List.length_map, ← List.map_drop, ← List.map_take]
theorem cut_some (ns : List Int) (lo hi : Option Int) : ∃ ms : List Int, cutV (ns.map V.int) lo hi = ms.map V.int ∧ ms.length ≤ ns.length := ⟨_, cut_map ns lo hi, by
  rw [List.length_take, List.length_drop]
  omega⟩
theorem cut_ms (ns : List Int) (n : Nat) : ∃ ms : List Int, cutV (ns.map V.int) (some 1) (some (n : Int)) = ms.map V.int ∧ ms.length ≤ n := ⟨_, cut_map ns _ _, by
  rw [List.length_take]
  have h1 : HT.sIx ns.length ns.length (some (n : Int)) = min n ns.length := HT.sIx_nat ns.length ns.length n
  rw [h1]
  omega⟩
end Kp

namespace Kp
open PySem L2
/-- an own class of error over ValueError -/
structure Er (K : PySem.W.Frag) (mg : Str → Option Value) (x : Str) (C : Addr) : Prop where
  g : mg x = some (.ref C)
  xE : PySem.W.excIn K C [.type "ValueError", .type "Exception", .type "BaseException", .type "object"] "ValueError.__new__" = true
  k : PySem.W.keepIn K (.ref C) = true
  b : PySem.W.subIn K (.ref C) (.type "BaseException") = some true
  t : PySem.W.typeIn K (.ref C) = some (.type "type")
def tRz (W : WX) (cls : Value) : TS := fun _ σ H => W cls none σ H
/-- what a def wishes of its errors -/
def wX (E : XK) : WX := fun cls d _ H => E cls d H
section
variable {X : Cx} {W : WX} {x m : Str} {C : Addr} {j : Nat} {p p2 pos pos' : Pos}
theorem kp_raise (hc : X.calm = true) (tk : Takes X W) (R : Er X.K X.mg x C) (hg : Gl X x) (hdb : (x == ("__debug__" : Str)) = false := by decide) : PS X (.Raise (some (.Call (.Name x p) [.Constant (.str m) j p2] [] pos)) none pos') (tRz W (.ref C)) :=
  ps_raise hc tk (pmk_own PySem.F.excBase_ValueError R.xE R.g R.k (raises_own R.b R.t) hg hdb)
theorem kp_takes (hs : X.stack = X.env :: X.outer) (hf : X.env.frame = some X.env.locals) (hex : X.ex = []) {E₁ : Value → Shared → Prop} {E : XK}
    (hx : X.xe = fun e s' => wpAny (model X.prog X.w) X.A (leaving X.env e) (fun _ s'' => L2.CX X.prog X.w X.outer X.H_0 X.s_0 E e s'') E₁ s') : Takes X (wX E) := takes_of hs hf hex hx
variable {k : Nat} {ps : List Str} {sp : Sp} {e : Expr} {es : List Expr} {t : TA} {i : Nat}
/-- a call of a def that may raise, where what is raised is wished for -/
theorem kp_callX (c : Fn X.prog X.w X.K X.mg X.base (L2.CX X.prog X.w) k x ps sp) (tk : Takes X W) (hr : Room i X.A) (hk : k ≤ i) (hg : Gl X x) (ha : PA X (e :: es) t) (hdb : (x == ("__debug__" : Str)) = false := by decide) (he : starEach (e :: es) X.env = (false, eval e X.env) :: starEach es X.env := by rfl)
    (hpl : (backTo pos (starEach es X.env)).any (·.1) = false := by rfl) : PE X (.Call (.Name x p) (e :: es) [] pos) (tCallS sp (WE W) t) := by
  obtain ⟨f, fd, F, hm, kp, b⟩ := c.ex
  exact pe_callS F (hr.mono hk) hg hm kp b (fun σ => passAt tk σ) ha hdb he hpl
/-- .. where it raises nothing -/
theorem kp_callN (c : Fn X.prog X.w X.K X.mg X.base (L2.CX X.prog X.w) k x ps sp) (hr : Room i X.A) (hk : k ≤ i) (hg : Gl X x) (ha : PA X (e :: es) t) (hdb : (x == ("__debug__" : Str)) = false := by decide) (he : starEach (e :: es) X.env = (false, eval e X.env) :: starEach es X.env := by rfl)
    (hpl : (backTo pos (starEach es X.env)).any (·.1) = false := by rfl) : PE X (.Call (.Name x p) (e :: es) [] pos) (tCall sp [] E0 t) := by
  obtain ⟨f, fd, F, hm, kp, b⟩ := c.ex
  exact pe_call F (hr.mono hk) hg hm kp b .nil passL ha hdb he hpl
/-- a class with an __init__ of the text -/
structure Ini (P : Program) (w : World) (K : PySem.W.Frag) (mg : Str → Option Value) (base : Heap) (CX : CXT) (k : Nat) (C : Addr) (x : Str) (ps : List Str) (sp : Sp) : Prop where
  ex : ∃ (f : Addr) (fd : FuncData), FnOk P w K mg base CX k f fd ps sp ∧ Mk K C f ∧ mg x = some (.ref C) ∧ Binds K fd ps []
theorem kp_make (c : Ini X.prog X.w X.K X.mg X.base (L2.CX X.prog X.w) k C x ps sp) (hr : Room i X.A) (hk : k + 1 ≤ i) (hg : Gl X x) (ha : PA X (e :: es) t) (hdb : (x == ("__debug__" : Str)) = false := by decide) (he : starEach (e :: es) X.env = (false, eval e X.env) :: starEach es X.env := by rfl)
    (hpl : (backTo pos (starEach es X.env)).any (·.1) = false := by rfl) : PE X (.Call (.Name x p) (e :: es) [] pos) (tMake C sp [] E0 t) := by
  obtain ⟨f, fd, F, M, hm, b⟩ := c.ex
  exact pe_make M F (hr.mono hk) hg hm b .nil passL ha hdb he hpl
end
section
variable {P : Program} {w : World} {K : PySem.W.Frag} {mg : Str → Option Value} {base : Heap} {CX : CXT} {k : Nat} {x qual : Str} {st : Stmt} {ps : List Str} {sp : Sp} {f C : Addr} {fd : FuncData}
theorem Ini.mk' (F : Fun K x qual st f fd) (G : FnOk P w K mg base CX k f fd ps sp) (M : Mk K C f) {c : Str} (hm : mg c = some (.ref C))
    (h : ∀ (kV doc pm : Value) (an : Option Addr) (cdv ct : Value) (us : List Value), us.length = ps.length → bindArgs (PySem.W.fnOf x qual (defArgs st) (defBody st) (defScope st) .none kV doc pm an cdv ct) ⟨us, []⟩ = pure (ps.zip us)) : Ini P w K mg base CX k C c ps sp :=
  ⟨f, fd, G, M, hm, F.binds h⟩
theorem Mt.mk' (F : Fun K x qual st f fd) (G : FnOk P w K mg base CX k f fd ps sp) {m : Str} (M : Meth K C m f)
    (h : ∀ (kV doc pm : Value) (an : Option Addr) (cdv ct : Value) (us : List Value), us.length = ps.length → bindArgs (PySem.W.fnOf x qual (defArgs st) (defBody st) (defScope st) .none kV doc pm an cdv ct) ⟨us, []⟩ = pure (ps.zip us)) : Mt P w K mg base CX k C m ps sp :=
  ⟨f, fd, G, M, F.binds h⟩
end
section
variable {H : Hp} {σ : St} {Q : VK} {E : XK} {cls : Value} {D : Ends} {tr : TA} {vs : List V}
theorem up_raise (k : Up (E cls none) H) : Up (tRz (wX E) cls D σ) H := k
def csK (sp : Sp) (EK : XK) (Q : VK) : List V → Hp → Prop := fun vs H => sp vs H Q EK
theorem up_callS {sp : Sp} {ES : St → XK} (k : Up (fun H1 => tr σ H1 (csK sp (ES σ) Q)) H) : Up (fun H1 => tCallS sp ES tr σ H1 Q) H := k
theorem up_csX {F : List V → Hp → VK → XK → Prop} (h : F vs H Q E) : Up (csK (KSx F) E Q vs) H := fun H1 e => ⟨H, e, h⟩
/-- chains a < b < c -/
def chB (r r' : R2) (x : V) (tc : TE) (σ : St) (Q : VK) : VK := fun y H2 => r x y H2 fun z H3 => ∃ k, z = .bl k ∧ (if k = true then tc σ H3 fun w' H4 => r' y w' H4 Q else Q (.bl false) H3)
def chA (r r' : R2) (tb tc : TE) (σ : St) (Q : VK) : VK := fun x H1 => tb σ H1 (chB r r' x tc σ Q)
theorem up_chain {r r' : R2} {ta tb tc : TE} (k : Up (fun H1 => ta σ H1 (chA r r' tb tc σ Q)) H) : Up (fun H1 => tChain r r' ta tb tc σ H1 Q) H := k
theorem up_chA {r r' : R2} {tb tc : TE} {x : V} (k : Up (fun H1 => tb σ H1 (chB r r' x tc σ Q)) H) : Up (chA r r' tb tc σ Q x) H := k
/-- a <= b <= c of whole numbers, c written -/
theorem up_chI {g g' : Int → Int → Bool} {i j n : Int} (k : Up (Q (.bl (g i j && g' j n))) H) : Up (chB (rI0 fun i j => .bl (g i j)) (rI0 fun i j => .bl (g' i j)) (.int i) (tC (.int n)) σ Q (.int j)) H := fun H1 e => by
  refine ⟨i, j, rfl, rfl, g i j, rfl, ?_⟩
  have h := k H1 e
  cases q : g i j with
  | true =>
    rw [q, Bool.true_and] at h
    show (if true = true then _ else _)
    rw [if_pos rfl]
    exact ⟨j, n, rfl, rfl, h⟩
  | false =>
    rw [q, Bool.false_and] at h
    show (if false = true then _ else _)
    rw [if_neg Bool.false_ne_true]
    exact h
end
/-! ### a Wish -/
abbrev iv : Nat → V := fun n => .int n
def flW (a : Int) (l : Addr) : List (Str × V) := putF "told" (.ref l) (putF "apart" (.int a) [])
theorem w_ne : ¬ (("apart" : Str) = "told") := by decide +kernel
theorem w_ne' : ¬ (("told" : Str) = "apart") := by decide +kernel
theorem flW_apart (a : Int) (l : Addr) : (flW a l).lookup ("apart" : Str) = some (.int a) := by
  unfold flW
  rw [lookup_putF, if_neg w_ne, lookup_putF, if_pos rfl]
theorem flW_told (a : Int) (l : Addr) : (flW a l).lookup ("told" : Str) = some (.ref l) := by
  unfold flW
  rw [lookup_putF, if_pos rfl]
theorem flW_no (a : Int) (l : Addr) {m : Str} (h1 : ¬ m = "told") (h2 : ¬ m = "apart") : (flW a l).lookup m = none := by
  unfold flW
  rw [lookup_putF, if_neg h1, lookup_putF, if_neg h2]
  all_goals rfl
/-- what the walk asks of the class Wish -/
structure Wf (K : PySem.W.Frag) (mg : Str → Option Value) (C : Addr) : Prop where
  cl_Wish : Cls K C
  nA : NoAttr K C "apart"
  nT : NoAttr K C "told"
  g_Wish : mg "Wish" = some (.ref C)
/-- a Wish stands at p: its distance, its counts -/
def WishAt (C : Addr) (H : Hp) (p : Addr) (a : Int) (xs : List Int) : Prop := ∃ dx l, H p = some (.ins C dx (flW a l)) ∧ H l = some (.lst (xs.map V.int))
theorem WishAt.up {C : Addr} {H H' : Hp} {p : Addr} {a : Int} {xs : List Int} (h : WishAt C H p a xs) (e : Same H H') : WishAt C H' p a xs := by
  obtain ⟨dx, l, h1, h2⟩ := h
  exact ⟨dx, l, e _ _ h1, e _ _ h2⟩
/-- a wish that is one -/
def Fine (a : Int) (xs : List Int) : Prop := 1 ≤ xs.length ∧ xs.length ≤ 6 ∧ (∀ x ∈ xs, 0 ≤ x ∧ x ≤ 40) ∧ 0 ≤ a ∧ a ≤ 8
end Kp

namespace Kp
open PySem L2
theorem count_eqU {x : V} : ∀ {xs : List V} {us : List Value}, Vals xs us → xs.all flatV = true → us.countP (eqU x) = xs.countP fun y => eqV y x
  | _, _, .nil, _ => rfl
  | y :: xs, u :: us, .cons r t, f => by
    rw [List.all_cons, Bool.and_eq_true] at f
    rw [List.countP_cons, List.countP_cons, eqU_of r f.1, count_eqU t f.2]
def rCntV (K : PySem.W.Frag) : V → List V → Hp → VK → Prop := fun x vs H Q => ∃ (p : Addr) (xs : List V) (y : V), x = .ref p ∧ vs = [y] ∧ SqL K H p xs ∧ flatV y = true ∧ xs.all flatV = true ∧ Q (.int (xs.countP fun z => eqV z y : Nat)) H
theorem kt_count {K : PySem.W.Frag} {X : Cx} (hk : X.K = K := by rfl) : MtR X "list.count" (rCntV K) := by
  subst hk
  intro pins s σ H x xs v us Q I rx rxs h
  obtain ⟨p, ys, y, rfl, rfl, hs, fy, fs, q⟩ := h
  cases rx
  obtain ⟨u, rfl, ru⟩ := rxs.one
  obtain ⟨its, rv, ⟨⟨cls, dd, data, sl⟩, n, ho, hc, hdn, hd⟩, hlen⟩ := I.list hs
  simp only at hc hd
  subst hc hd
  refine call_meets PySem.F.slot_list_count ⟨_, ho, rfl⟩ PySem.F.entry_list_count (PySem.F.args_list_count_2 _ _)
    (SeqAt.list_countAt p its.toArray n dd sl u (eqU y)) ⟨ho, fun w hw => mem_eqAt ru fy rv fs w (by simpa using hw), ?_⟩
  have ec : its.toArray.toList.countP (eqU y) = ys.countP fun z => eqV z y := count_eqU rv fs
  refine ⟨.int (ys.countP fun z => eqV z y : Nat), H, I.tok _, ⟨s.toks, ?_⟩, q⟩
  show Value.int ((its.toArray.toList.countP (eqU y) : Nat) : Int) s.toks = Value.int ((ys.countP fun z => eqV z y : Nat) : Int) s.toks
  rw [ec]
section
variable {K : PySem.W.Frag} {H : Hp} {Q : VK} {xs : List V} {y : V} {l : Addr}
theorem up_count (h : SqL K H l xs) (fy : flatV y = true) (fs : xs.all flatV = true) (k : Up (Q (.int (xs.countP fun z => eqV z y : Nat))) H) : Up (bmB (rCntV K) (.ref l) Q [y]) H := fun H1 e => ⟨l, xs, y, rfl, rfl, sq_up e h, fy, fs, k H1 e⟩
theorem up_popAt {i : Nat} (h : H l = some (.lst xs)) (hi : i < xs.length) (hz : xs.length ≤ 100000) (k : Up (Q xs[i]) (upd H l (.lst (xs.eraseIdx i)))) : Up (bmB rPopAt (.ref l) Q [.int (i : Int)]) H := fun H1 e =>
  ⟨l, xs, i, i, xs[i], rfl, rfl, e _ _ h, by omega, by omega, (ixN_seq (n := xs.length) (i := (i : Int)) (j := i) (by unfold ixN; rw [if_pos (by omega), if_pos (by omega)]; simp)).1, List.getElem?_eq_getElem hi, k _ (same_upd e)⟩
def rInsZ : V → List V → Hp → VK → Prop := fun x vs H Q => ∃ (l : Addr) (xs : List V) (i : Int) (y : V), x = .ref l ∧ vs = [.int i, y] ∧ H l = some (.lst xs) ∧ xs.length < sizeLine ∧ 0 ≤ i ∧ i < 2 ^ 63 ∧ Q .non (upd H l (.lst (xs.take i.toNat ++ [y] ++ xs.drop i.toNat)))
theorem kt_insert {X : Cx} : MtR X "list.insert" rInsZ := mt_insert
theorem up_insert {i : Nat} (h : H l = some (.lst xs)) (hz : xs.length < 100000) (hi : i ≤ 100000) (k : Up (Q .non) (upd H l (.lst (xs.take i ++ [y] ++ xs.drop i)))) : Up (bmB rInsZ (.ref l) Q [.int (i : Int), y]) H := fun H1 e =>
  ⟨l, xs, i, y, rfl, rfl, e _ _ h, szl hz, by omega, by omega, k _ (same_upd e)⟩
theorem up_index {j : Nat} {z : V} (h : SqL K H l xs) (fy : flatV y = true) (fs : xs.all flatV = true) (hz : xs[j]? = some z) (he : eqV z y = true) (hn : ∀ (m : Nat) (z' : V), m < j → xs[m]? = some z' → eqV z' y = false) (k : Up (Q (.int (j : Nat))) H) : Up (bmB (rIndex K) (.ref l) Q [y]) H :=
  fun H1 e => ⟨l, xs, y, j, z, rfl, rfl, sq_up e h, fy, fs, hz, he, hn, k H1 e⟩
end
theorem kp_bm {K : PySem.W.Frag} {X : Cx} {o e : Expr} {es : List Expr} {to : TE} {t : TA} {r : V → List V → Hp → VK → Prop} {T name id : String} {apos cpos : Pos} (pa : PlainAttrs T) (slot : Slot T name id) (hty : typeOf (.builtin id) = pure (.type "method_descriptor")) (hm : MtR X id r) (ho : PE X o to) (ha : PA X (e :: es) t)
    (hk : X.K = K := by rfl) (hbase : attributeBase o name X.env (eval o X.env) = eval o X.env := by rfl)
    (hfew : ((backTo cpos (starEach (e :: es) X.env)).all (fun x => !x.1) && (backToKw cpos (keywordEach [] X.env)).all (fun x => x.1.isSome)
      && decide ((e :: es).length + ([] : List Keyword).length + (if ([] : List Keyword).isEmpty then 0 else 1) < 30)) = true := by rfl)
    (hline : (apos.endLine == cpos.line) = true := by rfl) (hs : starEach (e :: es) X.env = (false, eval e X.env) :: starEach es X.env := by rfl) (hplain : (backTo cpos (starEach es X.env)).any (·.1) = false := by rfl) :
    PE X (.Call (.Attribute o name apos) (e :: es) [] cpos) (tBM K T r to t) := by
  subst hk
  exact pe_bm pa slot hty hm ho ha hbase hfew hline hs hplain
theorem ko_in {K : PySem.W.Frag} {X : Cx} (hk : X.K = K := by rfl) : OpR X (compareOp .In) (rIn K false) := by subst hk; exact op_in_seq
theorem ko_notIn {K : PySem.W.Frag} {X : Cx} (hk : X.K = K := by rfl) : OpR X (compareOp .NotIn) (rIn K true) := by subst hk; exact op_notIn_seq
theorem ko_ixL {K : PySem.W.Frag} {X : Cx} (hk : X.K = K := by rfl) : IxR X (rIxL K) := by subst hk; exact ix_list
theorem ko_ixT {K : PySem.W.Frag} {X : Cx} (hk : X.K = K := by rfl) : IxR X (rIxT K) := by subst hk; exact ix_tup
theorem ko_len {K : PySem.W.Frag} {X : Cx} (hk : X.K = K := by rfl) : CallR X (.builtin "len") (rLen K) := by subst hk; exact kc_len
theorem up_anyT {u : TT} {σ : St} {QB : Bool → Hp → Prop} {H : Hp} (P : Bool → Prop) (he : ∀ QB : Bool → Hp → Prop, (∀ b, P b → Up (QB b) H) → Up (fun H1 => u σ H1 QB) H) (k : ∀ b, P b → Up (QB b) H) : Up (fun H1 => u σ H1 QB) H := he QB k
theorem ko_fld {K : PySem.W.Frag} {X : Cx} {e : Expr} {ta : TE} {f : Str} {pos : Pos} (he : PE X e ta) (hb : attributeBase e f X.env (eval e X.env) = eval e X.env) (hk : X.K = K := by rfl) : PE X (.Attribute e f pos) (tFld K ta f) := by subst hk; exact pe_fld he hb
end Kp

namespace Kp
open PySem L2
def rMaxDk : List V → List V → Hp → VK → Prop := fun vs zs H Q => ∃ (a : Addr) (kvs : List (Key × V)) (js : List Int) (d : Int), vs = [.ref a] ∧ zs = [.int d] ∧ H a = some (.dK kvs) ∧ kvs.map Prod.fst = js.map Sum.inl ∧ (js = [] → Q (.int d) H) ∧ (∀ m, m ∈ js → (∀ y ∈ js, y ≤ m) → Q (.int m) H)
theorem argmax_in {js : List Int} {n : Nat} (hn : n = js.length) (hp : 0 < n) : js.getD (argBest (fun i j => decide (js.getD i 0 > js.getD j 0)) (n - 1)) 0 ∈ js ∧ ∀ y ∈ js, y ≤ js.getD (argBest (fun i j => decide (js.getD i 0 > js.getD j 0)) (n - 1)) 0 := by
  obtain ⟨m1', m2'⟩ := argBest_gt (fun i => js.getD i 0) (n - 1)
  have m1 : argBest (fun i j => decide (js.getD i 0 > js.getD j 0)) (n - 1) ≤ n - 1 := m1'
  have m2 : ∀ j, j ≤ n - 1 → js.getD j 0 ≤ js.getD (argBest (fun i j => decide (js.getD i 0 > js.getD j 0)) (n - 1)) 0 := m2'
  generalize argBest (fun i j => decide (js.getD i 0 > js.getD j 0)) (n - 1) = t at m1 m2
  refine ⟨?_, fun y hy => ?_⟩
  · rw [List.getD_eq_getElem?_getD, List.getElem?_eq_getElem (by omega)]
    exact List.getElem_mem _
  · obtain ⟨i, hi, e⟩ := List.mem_iff_getElem.mp hy
    have h := m2 i (by omega)
    rw [List.getD_eq_getElem?_getD, List.getElem?_eq_getElem hi] at h
    rw [← e]
    exact h
theorem cr_maxDk {X : Cx} (hc : X.calm = true) : CallRK X (.builtin "max") [Str.ofString "default"] rMaxDk := by
  intro pins s σ H xs zs us ws Q I rx rz h
  obtain ⟨a, kvs, js, d, rfl, rfl, hd, hk, q0, q1⟩ := h
  rw [Vals.ref1 rx]
  obtain ⟨u, rfl, ru⟩ := rz.one
  obtain ⟨hz, hsm, vs, rel, hdo⟩ := dk_of I.hok hd
  obtain ⟨ep, hda⟩ : ∃ ep, s.heap.DictAt (mixKind X.prog X.w) a vs ep := by
    obtain ⟨o, es, n, h1, h2, h3, h4⟩ := hdo
    exact ⟨n, o, es, h1, h2, h3, h4⟩
  have ha : a < s.heap.objs.size := by
    obtain ⟨o, es, h1, _⟩ := hda
    exact Heap.lt_size h1
  have hlen : vs.length = js.length := by
    have e := congrArg List.length hk
    rw [List.length_map, List.length_map] at e
    rw [← rel.length]
    exact e
  have hks : vs.map Prod.fst = js.map Sum.inl := by rw [← hk]; exact rel.keys.symm
  have hval : ∀ (i : Nat) (v : Value), (∃ k x, vs[i]? = some (k, x) ∧ (mixKind X.prog X.w).is k v = true) → ∃ t, v = .int (js.getD i 0) t := fun i v ⟨k, x, e, e2⟩ => by
    have h1 : (vs.map Prod.fst)[i]? = some k := by rw [List.getElem?_map, e]; rfl
    rw [hks, List.getElem?_map] at h1
    cases ej : js[i]? with
    | none => rw [ej] at h1; cases h1
    | some j =>
      rw [ej] at h1
      have h2 : Sum.inl j = k := Option.some.inj h1
      subst h2
      obtain ⟨t, e4⟩ := Value.isInt_shape (show Value.isInt j v = true from e2)
      rw [List.getD_eq_getElem?_getD, ej]
      exact ⟨t, e4⟩
  show wpAny _ _ (call (.builtin "max") [.ref a] [(Str.ofString "default", u)]) _ _ _
  refine call_max_walkD ?_
  refine wpAny_pyIter_dict hsm hda ?_
  have hh : X.A.in1.handled = none := I.ok.hd hc
  refine ⟨s.heap.objs.size, [s.heap.objs.size, a], [s.heap.objs.size], _, vs.length, _, _, s.heap, fun i j => decide (js.getD i 0 > js.getD j 0), rfl, (Walks.dictKeys (knd := mixKind X.prog X.w) hh s.heap.objs.size a (Nat.ne_of_lt ha) vs ep).toS, ?_, fun b hb => ?_, fun b o e hb => ?_, fun b o e => Heap.get?_push_of_some _ e, fun hz s' m => ?_, fun hp => ⟨?_, fun v s' hP m => ?_⟩⟩
  · exact ⟨⟨_, Heap.get?_push_size _ rfl, rfl, rfl⟩, hda.at' fun o e => Heap.get?_push_of_some _ e⟩
  · show b < (s.heap.push _).objs.size
    rw [Heap.size_push]
    rcases List.mem_cons.mp hb with rfl | hb
    · exact Nat.lt_succ_self _
    · rcases List.mem_cons.mp hb with rfl | hb
      · exact Nat.lt_succ_of_lt ha
      · cases hb
  · exact absurd (Heap.lt_size e) ((List.mem_singleton.mp hb) ▸ Nat.lt_irrefl _)
  · obtain ⟨h', tk, rfl, hk'⟩ := PySem.W.moved_old rfl rfl m
    have hj : js = [] := List.eq_nil_of_length_eq_zero (by omega)
    exact ⟨.int d, H, I.kept hk', ru, q0 hj⟩
  · exact fun i j vi vj s' Q E _ hi hj hq => CmpOf.ints_gt (fun i => js.getD i 0) hval i j vi vj s' Q E hi hj hq
  · obtain ⟨h', tk, rfl, hk'⟩ := PySem.W.moved_old rfl rfl m
    obtain ⟨t, rfl⟩ := hval _ v hP
    have am := argmax_in (js := js) hlen (by omega)
    exact ⟨.int _, H, I.kept hk', ⟨_, rfl⟩, q1 _ am.1 am.2⟩
section
variable {K : PySem.W.Frag} {H : Hp} {σ : St} {Q : VK} {tr tk : TA} {r : List V → List V → Hp → VK → Prop} {vs zs : List V}
def ckB (r : List V → List V → Hp → VK → Prop) (vs : List V) (Q : VK) : List V → Hp → Prop := fun zs H2 => r vs zs H2 Q
def ckA (r : List V → List V → Hp → VK → Prop) (tk : TA) (σ : St) (Q : VK) : List V → Hp → Prop := fun vs H1 => tk σ H1 (ckB r vs Q)
theorem up_CK (k : Up (fun H1 => tr σ H1 (ckA r tk σ Q)) H) : Up (fun H1 => tCKw r tr tk σ H1 Q) H := k
theorem up_ckA (k : Up (fun H1 => tk σ H1 (ckB r vs Q)) H) : Up (ckA r tk σ Q vs) H := k
theorem up_maxDk {a : Addr} {kvs : List (Key × V)} {js : List Int} {d : Int} (h : H a = some (.dK kvs)) (hk : kvs.map Prod.fst = js.map Sum.inl) (k0 : js = [] → Up (Q (.int d)) H) (k1 : ∀ m, m ∈ js → (∀ y ∈ js, y ≤ m) → Up (Q (.int m)) H) : Up (ckB rMaxDk [.ref a] Q [.int d]) H :=
  fun H1 e => ⟨a, kvs, js, d, rfl, rfl, e _ _ h, hk, fun z => k0 z H1 e, fun m h1 h2 => k1 m h1 h2 H1 e⟩
theorem up_maxDz {a : Addr} {kvs : List (Key × V)} {js : List Int} {d : Int} (z : Int) (h : H a = some (.dK kvs)) (hk : kvs.map Prod.fst = js.map Sum.inl) (k0 : js = [] → d = z) (k1 : ∀ m, m ∈ js → (∀ y ∈ js, y ≤ m) → m = z) (k : Up (Q (.int z)) H) : Up (ckB rMaxDk [.ref a] Q [.int d]) H :=
  up_maxDk h hk (fun e => k0 e ▸ k) fun m h1 h2 => (k1 m h1 h2).symm ▸ k
end
theorem up_isB {a b : Bool} {H : Hp} {Q : VK} (k : Up (Q (.bl (decide (a = b)))) H) : Up (fun H1 => rIsB (.bl a) (.bl b) H1 Q) H := fun H1 e => ⟨a, b, rfl, rfl, k H1 e⟩
theorem up_notB {a b : Bool} {H : Hp} {Q : VK} (k : Up (Q (.bl (!decide (a = b)))) H) : Up (fun H1 => rNotB (.bl a) (.bl b) H1 Q) H := fun H1 e => ⟨a, b, rfl, rfl, k H1 e⟩
/-! ### a Line -/
def flL (a : Int) (d l : Addr) : List (Str × V) := putF "came" (.ref l) (putF "held" (.ref d) (putF "apart" (.int a) []))
theorem l_ne1 : ¬ (("apart" : Str) = "came") := by decide +kernel
theorem l_ne2 : ¬ (("apart" : Str) = "held") := by decide +kernel
theorem l_ne3 : ¬ (("held" : Str) = "came") := by decide +kernel
theorem flL_apart (a : Int) (d l : Addr) : (flL a d l).lookup ("apart" : Str) = some (.int a) := by
  unfold flL
  rw [lookup_putF, if_neg l_ne1, lookup_putF, if_neg l_ne2, lookup_putF, if_pos rfl]
theorem flL_held (a : Int) (d l : Addr) : (flL a d l).lookup ("held" : Str) = some (.ref d) := by
  unfold flL
  rw [lookup_putF, if_neg l_ne3, lookup_putF, if_pos rfl]
theorem flL_came (a : Int) (d l : Addr) : (flL a d l).lookup ("came" : Str) = some (.ref l) := by
  unfold flL
  rw [lookup_putF, if_pos rfl]
structure Lf (K : PySem.W.Frag) (mg : Str → Option Value) (C : Addr) : Prop where
  cl_Line : Cls K C
  nA : NoAttr K C "apart"
  nH : NoAttr K C "held"
  nC : NoAttr K C "came"
  g_Line : mg "Line" = some (.ref C)
/-- the things that came: kind and place -/
abbrev Cs := List (Nat × Nat)
def kvOf (cs : Cs) : List (Key × V) := cs.map fun c => (Sum.inl (c.2 : Int), V.int (c.1 : Int))
structure LineA (C : Addr) (H : Hp) (p dx d l : Addr) (a : Int) (cs : Cs) : Prop where
  hp : H p = some (.ins C dx (flL a d l))
  hd : H d = some (.dK (kvOf cs))
  ht : ∃ rs : List Addr, rs.length = cs.length ∧ H l = some (.lst (rs.map V.ref)) ∧ ∀ (i : Nat) (r : Addr) (c : Nat × Nat), rs[i]? = some r → cs[i]? = some c → H r = some (.tup [.int (c.1 : Int), .int (c.2 : Int)])
  nd : (cs.map Prod.snd).Nodup
theorem LineA.up {C : Addr} {H H' : Hp} {p dx d l : Addr} {a : Int} {cs : Cs} (h : LineA C H p dx d l a cs) (e : Same H H') : LineA C H' p dx d l a cs := by
  obtain ⟨hp, hd, ⟨rs, h1, h2, h3⟩, nd⟩ := h
  exact ⟨e _ _ hp, e _ _ hd, ⟨rs, h1, e _ _ h2, fun i r c q w => e _ _ (h3 i r c q w)⟩, nd⟩
/-- what stood, stands, but for the two -/
def Sbut (d l : Addr) (H H' : Hp) : Prop := ∀ b u, b ≠ d → b ≠ l → H b = some u → H' b = some u
theorem LineA.other {C : Addr} {H H' : Hp} {p dx d l d' l' : Addr} {a : Int} {cs : Cs} (h : LineA C H p dx d l a cs) (n1 : d ≠ d') (n2 : l ≠ l') (hd' : ∃ kv, H d' = some (.dK kv)) (hl' : ∃ xs, H l' = some (.lst xs)) (e : Sbut d' l' H H') : LineA C H' p dx d l a cs := by
  obtain ⟨hp, hd, ⟨rs, h1, h2, h3⟩, nd⟩ := h
  obtain ⟨kv, hd'⟩ := hd'
  obtain ⟨xs, hl'⟩ := hl'
  have ne : ∀ {b u}, H b = some u → (∀ kv, u ≠ .dK kv) → (∀ xs, u ≠ .lst xs) → H' b = some u := fun {b u} hb c1 c2 => e b u (fun z => by rw [z, hd'] at hb; exact c1 _ (Option.some.inj hb).symm) (fun z => by rw [z, hl'] at hb; exact c2 _ (Option.some.inj hb).symm) hb
  refine ⟨ne hp (fun _ z => by cases z) (fun _ z => by cases z), e d _ n1 (fun z => by rw [z, hl'] at hd; cases hd) hd, ⟨rs, h1, e l _ (fun z => by rw [z, hd'] at h2; cases h2) n2 h2, fun i r c q w => ne (h3 i r c q w) (fun _ z => by cases z) (fun _ z => by cases z)⟩, nd⟩
end Kp

namespace Kp
open PySem L2
/-! ### max(list, default=) -/
def rMaxLd (K : PySem.W.Frag) : List V → List V → Hp → VK → Prop := fun vs zs H Q => ∃ (a : Addr) (js : List Int) (d : Int), vs = [.ref a] ∧ zs = [.int d] ∧ SqL K H a (js.map V.int) ∧ (js = [] → Q (.int d) H) ∧ (∀ m, m ∈ js → (∀ y ∈ js, y ≤ m) → Q (.int m) H)
theorem cr_maxLd {K : PySem.W.Frag} {X : Cx} (hc : X.calm = true) (hk : X.K = K := by rfl) : CallRK X (.builtin "max") [Str.ofString "default"] (rMaxLd K) := by
  subst hk
  intro pins s σ H xs zs us ws Q I rx rz h
  obtain ⟨a, js, d, rfl, rfl, hs, q0, q1⟩ := h
  rw [Vals.ref1 rx]
  obtain ⟨u, rfl, ru⟩ := rz.one
  obtain ⟨its, rv, hpl, _⟩ := I.list hs
  have hl := hpl.isList
  have hlen : its.toArray.size = js.length := by
    have e := rv.length
    rw [List.length_map] at e
    rw [List.size_toArray]
    exact e.symm
  have hval : ∀ (i : Nat) (v : Value), its.toArray[i]? = some v → ∃ t, v = .int (js.getD i 0) t := fun i v e => by
    have e1 : its[i]? = some v := by simpa using e
    have hi := (List.getElem?_eq_some_iff.mp e1).1
    have hj : i < js.length := by rw [List.size_toArray] at hlen; omega
    obtain ⟨u2, hu2, ru2⟩ := rv.get (i := i) (x := V.int js[i]) (by rw [List.getElem?_map, List.getElem?_eq_getElem hj]; rfl)
    rw [e1] at hu2
    have e2 := Option.some.inj hu2
    subst e2
    rw [List.getD_eq_getElem?_getD, List.getElem?_eq_getElem hj]
    exact ru2
  have hh : X.A.in1.handled = none := I.ok.hd hc
  show wpAny _ _ (call (.builtin "max") [.ref a] [(Str.ofString "default", u)]) _ _ _
  refine call_max_walkD (PySem.W.iter_listW (A := X.A.in1) hh hl fun s₂ e W st hfp hw hk => ?_)
  refine ⟨_, _, _, _, _, _, _, s.heap, fun i j => decide (js.getD i 0 > js.getD j 0), rfl, W, st, hfp, hw, hk, fun hz s' m => ?_, fun hp => ⟨fun i j vi vj s' Q E _ hi hj hq => CmpOf.ints_gt (fun i => js.getD i 0) hval i j vi vj s' Q E hi hj hq, fun v s' hP m => ?_⟩⟩
  · obtain ⟨h', tk, rfl, hk'⟩ := PySem.W.moved_old e rfl m
    have hj : js = [] := List.eq_nil_of_length_eq_zero (by omega)
    exact ⟨.int d, H, I.kept hk', ru, q0 hj⟩
  · obtain ⟨h', tk, rfl, hk'⟩ := PySem.W.moved_old e rfl m
    obtain ⟨t, rfl⟩ := hval _ v hP
    have am := argmax_in (js := js) hlen (by omega)
    exact ⟨.int _, H, I.kept hk', ⟨_, rfl⟩, q1 _ am.1 am.2⟩
section
variable {K : PySem.W.Frag} {H : Hp} {σ : St} {Q : VK}
theorem up_maxLz {a : Addr} {js : List Int} {d : Int} (z : Int) (h : SqL K H a (js.map V.int)) (k0 : js = [] → d = z) (k1 : ∀ m, m ∈ js → (∀ y ∈ js, y ≤ m) → m = z) (k : Up (Q (.int z)) H) : Up (ckB (rMaxLd K) [.ref a] Q [.int d]) H :=
  fun H1 e => ⟨a, js, d, rfl, rfl, sq_up e h, fun z' => k0 z' ▸ k H1 e, fun m h1 h2 => (k1 m h1 h2).symm ▸ k H1 e⟩
end
/-! ### a method that may raise -/
def tMtS (C : Addr) (m : Str) (sp : Sp) (E : St → XK) (ta : TE) (t : TA) : TE := fun σ H Q => ta σ H fun x H1 => ∃ a dx fs, x = .ref a ∧ H1 a = some (.ins C dx fs) ∧ fs.lookup m = none ∧ t σ H1 fun vs H2 => sp (x :: vs) H2 Q (E σ)
section
variable {X : Cx} {W : WX} {C : Addr} {m : Str} {k i : Nat} {ps : List Str} {sp : Sp} {o : Expr} {ta : TE} {apos pos : Pos}
theorem kp_meth0X (c : Mt X.prog X.w X.K X.mg X.base (L2.CX X.prog X.w) k C m ps sp) (tk : Takes X W) (cl : Cls X.K C) (hr : Room i X.A) (hk : k ≤ i) (he : PE X o ta) {pl : Sem Bool}
    (ht : eval (.Call (.Attribute o m apos) [] [] pos) X.env = (do
      let ov ← eval o X.env
      standAt apos.atName
      let (f, first) ← holding [ov] (getMethod ov m pl)
      callWith pos f first (backTo pos (starEach [] X.env)) (backToKw pos (keywordEach [] X.env))) := by rfl) :
    PE X (.Call (.Attribute o m apos) [] [] pos) (tMtS C m sp (WE W) ta tNil) := by
  obtain ⟨f, fd, F, hm, b⟩ := c.ex
  refine ⟨fun pins s σ H Q I h => ?_⟩
  refine PySem.W.methodCall_KW (pl := pl) (thn (he.run pins s σ H _ I h) fun u s1 ⟨x, H1, I1, rx, a, dx, fs, ex, ea, l, q⟩ => ?_) ht
  subst ex
  obtain rfl : u = Value.ref a := rx
  refine getmeth_ok I1 ea cl hm l ?_
  exact PySem.W.callWith_K0 (first := [.ref a]) I1.kIn hm.kp (run_fnS (us := [.ref a]) (vs := [.ref a]) F (hr.mono hk) b (passAt tk σ) I1 (.cons rfl .nil) q)
end
section
variable {K : PySem.W.Frag} {H : Hp} {σ : St} {Q : VK} {C : Addr} {m : Str} {te : TE} {tr : TA} {x : V} {vs : List V} {a dx : Addr} {fs : List (Str × V)} {EK : XK}
def msB (sp : Sp) (EK : XK) (x : V) (Q : VK) : List V → Hp → Prop := fun vs H2 => sp (x :: vs) H2 Q EK
def msA (C : Addr) (m : Str) (sp : Sp) (EK : XK) (tr : TA) (σ : St) (Q : VK) : VK := fun x H1 => ∃ a dx fs, x = .ref a ∧ H1 a = some (.ins C dx fs) ∧ fs.lookup m = none ∧ tr σ H1 (msB sp EK x Q)
theorem up_mtS {sp : Sp} {ES : St → XK} (k : Up (fun H1 => te σ H1 (msA C m sp (ES σ) tr σ Q)) H) : Up (fun H1 => tMtS C m sp ES te tr σ H1 Q) H := k
theorem up_msA {sp : Sp} (h : H a = some (.ins C dx fs)) (hl : fs.lookup m = none) (k : Up (fun H1 => tr σ H1 (msB sp EK (.ref a) Q)) H) : Up (msA C m sp EK tr σ Q (.ref a)) H := fun H1 e => ⟨a, dx, fs, rfl, e _ _ h, hl, k H1 e⟩
theorem up_msB {F : List V → Hp → VK → XK → Prop} (h : F (x :: vs) H Q EK) : Up (msB (KSx F) EK x Q vs) H := fun H1 e => ⟨H, e, h⟩
end
/-! ### try -/
def tTry (K : PySem.W.Frag) (c : Value) (i : Nat) (tb : WX → TS) (ts : Addr → Value → Option Addr → TS) (Wout : WX) : TS := fun D σ H => tb (wAs K c i ts Wout D) D σ H
section
variable {X : Cx} {x n : Str} {c : Value} {i : Nat} {body suite : List Stmt} {b₀ : Stmt} {np pos pos' : Pos} {tb : WX → TS} {ts : Addr → Value → Option Addr → TS} {Wout : WX}
theorem kp_try {K : PySem.W.Frag} (hs : X.stack = X.env :: X.outer) (hf : X.env.frame = some X.env.locals) (hN : X.N.Nodup) (hi : X.N[i]? = some n) (hln : X.env.kindOf n = some .local) (hc : Names X x c) (tk : Takes X Wout)
    (hb : ∀ (W : WX) (pn : List (Addr × Obj)) (xe : Value → Shared → Prop), Takes (X.tr pn xe) W → PassesOwn (model X.prog X.w) X.A X.env xe → PSs (X.tr pn xe) body (tb W))
    (hsu : ∀ (a : Addr) (oe : Obj) (cls : Value) (d : Option Addr) (pn : List (Addr × Obj)), Zc cls d oe → (∃ vs, oe.data = .fields vs) → PSs (X.suite a ((a, oe) :: pn)) (b₀ :: suite) (ts a cls d)) (hk : X.K = K := by rfl) :
    PS X (.Try body [.ExceptHandler (some (.Name x np)) (some n) (b₀ :: suite) pos'] [] [] pos) (tTry K c i tb ts Wout) := by
  subst hk
  exact ps_try_as hs hf hN hi hln hc tk hb hsu
/-- isinstance(e, c) in the suite -/
def rIsX (K : PySem.W.Frag) (cls : Value) (d : Option Addr) (a : Addr) : List V → Hp → VK → Prop := fun xs H Q => ∃ D, cls = .ref D ∧ d = none ∧ ExcC K D ∧ rIsE K D a xs H Q
theorem cr_isX {K : PySem.W.Frag} {a : Addr} {oe : Obj} {cls : Value} {d : Option Addr} {pn : List (Addr × Obj)} (hz : Zc cls d oe) (hf : ∃ vs, oe.data = .fields vs) (hk : X.K = K := by rfl) : CallR (X.suite a ((a, oe) :: pn)) (.builtin "isinstance") (rIsX K cls d a) := by
  subst hk
  intro pins s σ H xs us Q I r h
  obtain ⟨D, rfl, rfl, C, h⟩ := h
  exact call_isE C hz hf pins s σ H xs us Q I r h
end
section
variable {K : PySem.W.Frag} {H : Hp} {σ : St} {Q : VK} {c cls : Value} {i : Nat} {tb : WX → TS} {ts : Addr → Value → Option Addr → TS} {Wout : WX} {n bk ct : St → Hp → Prop} {r : VK} {d : Option Addr}
theorem up_try (k : Up (tb (wAs K c i ts Wout (Ends.mk n r bk ct)) (Ends.mk n r bk ct) σ) H) : Up (tTry K c i tb ts Wout (Ends.mk n r bk ct) σ) H := k
def unE (n : St → Hp → Prop) (i : Nat) : St → Hp → Prop := fun σ' H' => n (σ'.set i none) H'
theorem up_unE (k : Up (n (σ.set i none)) H) : Up (unE n i σ) H := k
theorem up_caught (hx : PySem.W.exmOne K cls c = some true) (k : ∀ a, H a = none → Up (ts a cls d (Ends.mk (unE n i) r (unE bk i) (unE ct i)) (σ.set i (some (.ref a)))) H) : Up (WE (wAs K c i ts Wout (Ends.mk n r bk ct)) σ cls d) H := fun H1 e =>
  ⟨true, hx, fun _ a ha => k a (e.free ha) H1 e, fun z => by cases z⟩
theorem up_caughtW (hx : PySem.W.exmOne K cls c = some true) (k : ∀ a, H a = none → Up (ts a cls d (Ends.mk (unE n i) r (unE bk i) (unE ct i)) (σ.set i (some (.ref a)))) H) : Up (fun H1 => wAs K c i ts Wout (Ends.mk n r bk ct) cls d σ H1) H := up_caught hx k
end
/-- what the suite asks of the caught class: D itself, and of each class that is named -/
structure Fm (K : PySem.W.Frag) (mg : Str → Option Value) (D : Addr) (x : Str) (C : Addr) (b : Bool) : Prop where
  g : mg x = some (.ref C)
  hd : PySem.W.hasDictIn K C = true
  ty : PySem.W.typeIn K (.ref C) = some (.type "type")
  be : PySem.W.subIn K (.ref C) (.type "BaseException") = some true
  su : PySem.W.subIn K (.ref D) (.ref C) = some b
theorem Fm.exm {K : PySem.W.Frag} {mg : Str → Option Value} {D C : Addr} {x : Str} {b : Bool} (h : Fm K mg D x C b) : PySem.W.exmOne K (.ref D) (.ref C) = some b := PySem.W.exm_ref h.be h.hd h.ty h.su
theorem Fm.kit {K : PySem.W.Frag} {mg : Str → Option Value} {D C : Addr} {x : Str} {b : Bool} (hs : PySem.W.subIn K (.ref D) (.ref D) = some true) (h : Fm K mg D x C b) : PySem.W.kitOne K (.ref D) (.ref C) = some b := by
  have e := h.exm
  unfold PySem.W.exmOne at e
  rw [h.be, if_pos (by rfl)] at e
  unfold PySem.W.kitOne
  by_cases hh : (Value.ref D == Value.ref C) = true
  · rw [if_pos hh]
    have e2 : Value.ref D = Value.ref C := by simpa using hh
    have e3 := h.su
    rw [← e2, hs] at e3
    exact e3
  · rw [if_neg hh]
    exact e
structure Xf (K : PySem.W.Frag) (D : Addr) : Prop where
  cc : ExcC K D
  ss : PySem.W.subIn K (.ref D) (.ref D) = some true
  va : PySem.W.subIn K (.ref D) (.type "ValueError") = some true
theorem Xf.kitV {K : PySem.W.Frag} {D : Addr} (h : Xf K D) : PySem.W.kitOne K (.ref D) (.type "ValueError") = some true := by
  unfold PySem.W.kitOne
  have e : (Value.ref D == Value.type "ValueError") = false := rfl
  rw [e, if_neg Bool.false_ne_true]
  show (if PySem.W.kitMeta "ValueError" = true then PySem.W.subIn K (.ref D) (.type "ValueError") else none) = some true
  rw [if_pos (by decide +kernel)]
  exact h.va
section
variable {K : PySem.W.Frag} {mg : Str → Option Value} {H : Hp} {Q : VK} {D C a : Addr} {x : Str} {b : Bool}
theorem up_isX (X : Xf K D) (h : Fm K mg D x C b) (k : Up (Q (.bl b)) H) : Up (blK (rIsX K (.ref D) none a) Q [.ref a, .ref C]) H := fun H1 e => ⟨D, rfl, rfl, X.cc, .ref C, .ref C, b, rfl, fun u r => by cases r; rfl, h.kit X.ss, k H1 e⟩
theorem up_isXV (X : Xf K D) (k : Up (Q (.bl true)) H) : Up (blK (rIsX K (.ref D) none a) Q [.ref a, .ty "ValueError"]) H := fun H1 e => ⟨D, rfl, rfl, X.cc, .ty "ValueError", .type "ValueError", true, rfl, fun u r => by cases r; rfl, X.kitV, k H1 e⟩
end
end Kp

namespace Kp
open PySem PySem.Spec PyProof.Rows L2
/-- p is what was caught: its class, its fields -/
def Cau (cls : Value) (d : Option Addr) (p : Addr × Obj) : Prop := Zc cls d p.2 ∧ ∃ vs, p.2.data = .fields vs
abbrev SpZ := Addr → Value → Option Addr → Sp
structure FnZ (P : Program) (w : World) (K : PySem.W.Frag) (mg : Str → Option Value) (base : Heap) (k : Nat) (f : Addr) (fd : FuncData) (ps : List Str) (sp : SpZ) : Prop where
  len : ∀ a cls d vs H Q E, sp a cls d vs H Q E → vs.length = ps.length
  run : ∀ (A : Around) (outer : List Env) (s : Shared) (H : Hp) (args : Args) (us : List Value) (vs : List V) (Q : VK) (E : XK) (p : Addr × Obj) (cls : Value) (d : Option Addr), L2H.RoomH k A → Cau cls d p → L2H.PinOk outer H s p → Env0 P w K mg base A outer s H → BindsTo s fd args (ps.zip us) → Vals vs us → sp p.1 cls d vs H Q E →
    codeAny (model P w) A (.call (.ref f) args) (CR CX0 outer P w H s Q E) s
theorem fn_ofZ {P : Program} {w : World} {K : PySem.W.Frag} {mg : Str → Option Value} {base : Heap} {k : Nat} {f : Addr} {name qual : Str} {params : Arguments} {body : List Stmt} {scope : Scope} {dV kV doc pm cdv ct oc : Value} {an od : Option Addr}
    {osl : Array (Option Value)} {N ps : List Str} {sp : SpZ} (lk : K.lookup f = some ⟨oc, od, .func (PySem.W.fnOf name qual params body scope dV kV doc pm an cdv ct), osl⟩) (hcd : PySem.W.codeIn K cdv qual = true) (S : FnScope N ps scope)
    (len : ∀ a cls d vs H Q E, sp a cls d vs H Q E → vs.length = ps.length)
    (hbody : ∀ (A : Around) (outer : List Env) (s : Shared) (H : Hp) (vs : List V) (Q : VK) (E : XK) (p : Addr × Obj) (cls : Value) (d : Option Addr), Cau cls d p → L2H.RoomH k (A.deeper (envOfC qual scope s.heap.objs.size f cdv)) → sp p.1 cls d vs H Q E →
      ∃ t, PSs (L2H.cxH CX0 P w K mg base N qual scope f cdv A outer s H E p) body t ∧ t { nx := fun _ H' => Q .non H', rt := Q } (L2.start N vs) H) :
    FnZ P w K mg base (k + 1) f (PySem.W.fnOf name qual params body scope dV kV doc pm an cdv ct) ps sp := by
  refine ⟨len, fun A outer s H args us vs Q E p cls d hr hot hpin e0 hb r hsp => ?_⟩
  have hl := len _ _ _ _ _ _ _ hsp
  have KX : K.In s.heap := e0.mod.kin.keeps fun b o e => (e0.bs b o e).1
  have lim : s.heap.NoLimit := e0.mod.nolimit.keeps fun b o e => (e0.bs b o e).1
  have hkind : ∀ y ∈ ps.zip us, scope.names.lookup y.1 = some .local ∨ (scope.names.lookup y.1 = some .cell ∧ ((cellsFrom (s.heap.objs.size + 1) scope.names []).lookup y.1).isSome = true) := fun ⟨n, v⟩ hy => by
    rcases S.par n (List.of_mem_zip hy).1 with q | q
    · exact .inl q
    · exact .inr ⟨q, PySem.W.cellsFrom_some _ _ _ (.inl q)⟩
  refine codeAny_call_function hr.depth (KX _ _ lk) rfl S.co S.gen rfl (PySem.W.codeRec_of KX hcd) (hb _ _ _ _ ?_)
  refine wpAny_newFunctionEnv_cells S.kind hkind fun env he s1 x => ?_
  subst he
  refine ⟨lim.keeps x.toInCall.keep, codeAny_func ?_⟩
  obtain ⟨t, ht, hq⟩ := hbody A outer s H vs Q E p cls d hot (hr.deeper _) hsp
  have I : Inv (L2H.cxH CX0 P w K mg base N qual scope f cdv A outer s H E p) [] (L2.start N vs) H s1 := L2H.inv_startH S hpin e0 hl r x
  refine wpAny_mono (ht.run [] s1 (L2.start N vs) H _ I hq) (fun fl s' hs => ?_) fun e s' hs => hs
  have fin : ∀ {σ' : L2.St} {H' : Hp} {v : V} {u : Value}, Inv (L2H.cxH CX0 P w K mg base N qual scope f cdv A outer s H E p) [] σ' H' s' → RelV v u → Q v H' → CE outer P w H s Q u s' :=
    fun {σ' H' v u} J rv q => ⟨v, H', J.os, J.bare, J.base, J.hok, rv, q⟩
  cases fl with
  | ret u =>
    obtain ⟨v, σ', H', J, rv, q⟩ := hs
    exact fin J rv q
  | next =>
    obtain ⟨σ', H', J, q⟩ := hs
    exact fin (v := V.non) (u := Value.none) J rfl q
  | brk =>
    obtain ⟨_, _, _, q⟩ := hs
    exact False.elim q
  | cont =>
    obtain ⟨_, _, _, q⟩ := hs
    exact False.elim q
theorem okZ {P : Program} {w : World} {K : PySem.W.Frag} {mg : Str → Option Value} {base : Heap} {x qual : Str} {st : Stmt} {f : Addr} {fd : FuncData} {N ps : List Str} {k : Nat} {sp : SpZ} (F : Fun K x qual st f fd) (S : FnScope N ps (defScope st)) (len : ∀ a cls d vs H Q E, sp a cls d vs H Q E → vs.length = ps.length)
    (hbody : ∀ (cdv : Value) (A : Around) (outer : List Env) (s : Shared) (H : Hp) (vs : List V) (Q : VK) (E : XK) (p : Addr × Obj) (cls : Value) (d : Option Addr), Cau cls d p → L2H.RoomH k (A.deeper (envOfC qual (defScope st) s.heap.objs.size f cdv)) → sp p.1 cls d vs H Q E →
      ∃ t, PSs (L2H.cxH CX0 P w K mg base N qual (defScope st) f cdv A outer s H E p) (defBody st) t ∧ t { nx := fun _ H' => Q .non H', rt := Q } (L2.start N vs) H) : FnZ P w K mg base (k + 1) f fd ps sp := by
  obtain ⟨oc, od, kV, doc, pm, an, cdv, ct, osl, rfl, lk, hcd⟩ := F.ex
  exact fn_ofZ lk hcd S len fun A outer s H vs Q E p cls d hp hr hsp => hbody cdv A outer s H vs Q E p cls d hp hr hsp
section
variable {X : Cx} {k : Nat} {f : Addr} {fd : FuncData} {ps : List Str} {sp : SpZ} {cls : Value} {d : Option Addr} {p : Addr × Obj}
theorem run_fnZ {pins : List (Addr × Obj)} {σ : L2.St} {H : Hp} {s : Shared} {Q : VK} {E : XK} {us : List Value} {vs : List V} (F : FnZ X.prog X.w X.K X.mg X.base k f fd ps sp) (hr : L2H.RoomH k X.A) (hp : p ∈ X.pn) (hc : Cau cls d p) (hb : Binds X.K fd ps [])
    (I : Inv X pins σ H s) (r : Vals vs us) (h : sp p.1 cls d vs H Q E) : wpAny (model X.prog X.w) X.A (call (.ref f) us) (EP X pins σ Q) X.xe s := by
  have hl : us.length = ps.length := by rw [← r.length]; exact F.len _ _ _ _ _ _ _ h
  have b := hb s us I.kIn (by rw [List.append_nil]; exact hl)
  rw [List.append_nil] at b
  have P1 := I.pin p (List.mem_append_left _ hp)
  have hpin : L2H.PinOk X.stack H s p := ⟨P1.1, P1.2.1, fun hm => (List.mem_cons.mp (I.stkSub p.1 hm)).elim P1.2.2.1 P1.2.2.2.1, P1.2.2.2.2⟩
  refine wpAny_call (codeAny_mono (F.run X.A X.stack s H ⟨us, []⟩ us vs Q E p cls d hr hc hpin I.env0 b r h) fun r s' hq => ?_)
  cases r with
  | error e => exact False.elim hq
  | ok fl =>
    cases fl with
    | ret u => exact I.after hq
    | next => exact False.elim hq
    | brk => exact False.elim hq
    | cont => exact False.elim hq
end
structure Zn' (P : Program) (w : World) (K : PySem.W.Frag) (mg : Str → Option Value) (base : Heap) (k : Nat) (x : Str) (ps : List Str) (sp : SpZ) : Prop where
  ex : ∃ (f : Addr) (fd : FuncData), FnZ P w K mg base k f fd ps sp ∧ mg x = some (.ref f) ∧ PySem.W.keepIn K (.ref f) = true ∧ Binds K fd ps []
theorem Zn'.mk' {P : Program} {w : World} {K : PySem.W.Frag} {mg : Str → Option Value} {base : Heap} {k : Nat} {x qual : Str} {st : Stmt} {ps : List Str} {sp : SpZ} {f : Addr} {fd : FuncData} (F : Fun K x qual st f fd) (G : FnZ P w K mg base k f fd ps sp) (hm : mg x = some (.ref f))
    (h : ∀ (kV doc pm : Value) (an : Option Addr) (cdv ct : Value) (us : List Value), us.length = ps.length → bindArgs (PySem.W.fnOf x qual (defArgs st) (defBody st) (defScope st) .none kV doc pm an cdv ct) ⟨us, []⟩ = pure (ps.zip us)) : Zn' P w K mg base k x ps sp :=
  ⟨f, fd, G, hm, F.kp, F.binds h⟩
def tCallZ (sp : Sp) (t : TA) : TE := fun σ H Q => t σ H fun vs H1 => sp vs H1 Q E0
section
variable {X : Cx} {k i : Nat} {x : Str} {ps : List Str} {sp : SpZ} {cls : Value} {d : Option Addr} {a : Addr} {oe : Obj} {pn : List (Addr × Obj)} {q pos : Pos} {e : Expr} {es : List Expr} {t : TA}
theorem kp_callZ (c : Zn' X.prog X.w X.K X.mg X.base k x ps sp) (hr : Room i X.A) (hk : k ≤ i) (hg : Gl X x) (hz : Zc cls d oe) (hf : ∃ vs, oe.data = .fields vs) (ha : PA (X.suite a ((a, oe) :: pn)) (e :: es) t) (hdb : (x == ("__debug__" : Str)) = false := by decide)
    (he : starEach (e :: es) X.env = (false, eval e X.env) :: starEach es X.env := by rfl) (hpl : (backTo pos (starEach es X.env)).any (·.1) = false := by rfl) :
    PE (X.suite a ((a, oe) :: pn)) (.Call (.Name x q) (e :: es) [] pos) (tCallZ (sp a cls d) t) := by
  obtain ⟨f, fd, F, hm, kp, b⟩ := c.ex
  refine ⟨fun pins s σ H Q I h => ?_⟩
  refine wpAny_Call_Name_kw (ld_glob I hg hm ?_ hdb)
  refine PySem.W.callWith_K (h₀ := X.base) I.ok.mod.kin kp (thn (ha.run pos pins s σ H _ I h) fun us s1 ⟨vs, H1, I1, r, q⟩ => ⟨I1.kIn, ?_⟩) he hpl
  have hr2 : L2H.RoomH k (X.suite a ((a, oe) :: pn)).A := ⟨(hr.mono hk).dp, (hr.mono hk).un⟩
  exact run_fnZ (X := X.suite a ((a, oe) :: pn)) (p := (a, oe)) F hr2 List.mem_cons_self ⟨hz, hf⟩ b I1 r q
/-- isinstance of what was caught -/
theorem cr_isP {K : PySem.W.Frag} {p : Addr × Obj} (hp : p ∈ X.pn) (hc : Cau cls d p) (hk : X.K = K := by rfl) : CallR X (.builtin "isinstance") (rIsX K cls d p.1) := by
  subst hk
  obtain ⟨a, oe⟩ := p
  intro pins s σ H xs us Q I r h
  obtain ⟨D, rfl, rfl, C, h⟩ := h
  obtain ⟨c, cv, b, rfl, hcv, e, q⟩ := h
  cases r with
  | cons rx rr =>
    cases rr with
    | cons rt rr =>
      cases rr
      cases rx
      have ec := hcv _ rt
      subst ec
      obtain ⟨hget, _⟩ := I.pin (a, oe) (List.mem_append.mpr (.inl hp))
      obtain ⟨hz, vs, hv⟩ := hc
      have J : PySem.W.InstAt s.heap a oe D none := by
        obtain ⟨oc, od, oda, osl⟩ := oe
        obtain ⟨h1, h2⟩ := hz
        dsimp only at h1 h2 hv
        subst h1 h2 hv
        exact ⟨hget, rfl, rfl, trivial⟩
      exact PySem.W.kia_one (PySem.W.handS_kitx_exc C.hg C.hk C.hs C.hd C.ha C.hn C.ht C.hm) I.kIn J e (fun z => nomatch z) fun tk => ⟨.bl b, H, I.kept (t' := tk) fun _ _ z => z, rfl, q⟩
end
section
variable {H : Hp} {σ : L2.St} {Q : VK} {tr : TA} {vs : List V}
def czK (sp : Sp) (Q : VK) : List V → Hp → Prop := fun vs H => sp vs H Q E0
theorem up_callZ {sp : Sp} (k : Up (fun H1 => tr σ H1 (czK sp Q)) H) : Up (fun H1 => tCallZ sp tr σ H1 Q) H := k
theorem up_cz {F : List V → Hp → VK → Prop} (h : F vs H Q) : Up (czK (KSp F) Q vs) H := fun H1 e => ⟨H, e, h⟩
end
/-! ### C(..) where errors are wished for -/
def tMkS (C : Addr) (sp : Sp) (E : L2.St → XK) (t : TA) : TE := fun σ H Q => t σ H fun vs H1 => ∀ x dx, H1 x = none → H1 dx = none → dx ≠ x → sp (.ref x :: vs) (upd (upd H1 dx (.own x)) x (.ins C dx [])) (fun v H2 => v = .non ∧ Q (.ref x) H2) (E σ)
section
variable {X : Cx} {W : WX} {k i : Nat} {C : Addr} {x : Str} {ps : List Str} {sp : Sp} {p pos : Pos} {e : Expr} {es : List Expr} {t : TA}
theorem kp_makeX (c : Ini X.prog X.w X.K X.mg X.base (L2.CX X.prog X.w) k C x ps sp) (tk : Takes X W) (hr : Room i X.A) (hk : k + 1 ≤ i) (hg : Gl X x) (ha : PA X (e :: es) t) (hdb : (x == ("__debug__" : Str)) = false := by decide) (he : starEach (e :: es) X.env = (false, eval e X.env) :: starEach es X.env := by rfl)
    (hpl : (backTo pos (starEach es X.env)).any (·.1) = false := by rfl) : PE X (.Call (.Name x p) (e :: es) [] pos) (tMkS C sp (WE W) t) := by
  obtain ⟨f, fd, F, M, hm, hb⟩ := c.ex
  refine ⟨fun pins s σ H Q I h => ?_⟩
  refine wpAny_Call_Name_kw (ld_glob I hg hm ?_ hdb)
  refine PySem.W.callWith_K (h₀ := X.base) I.ok.mod.kin M.kp (thn (ha.run pos pins s σ H _ I h) fun us s1 ⟨vs, H1, I1, r, h⟩ => ⟨I1.kIn, ?_⟩) he hpl
  have hq := h (s1.heap.objs.size + 1) s1.heap.objs.size (I1.hok.fresh (Nat.le_succ _)) (I1.hok.fresh (Nat.le_refl _)) (Nat.ne_of_lt (Nat.lt_succ_self _))
  have I2 := Inv.made (C := C) I1
  have r2 : Vals (V.ref (s1.heap.objs.size + 1) :: vs) (Value.ref (s1.heap.objs.size + 1) :: us) := .cons rfl r
  have hl : (Value.ref (s1.heap.objs.size + 1) :: us ++ []).length = ps.length := by
    have e := r2.length
    rw [F.len _ _ _ _ hq] at e
    rw [List.append_nil]
    exact e.symm
  have hb2 := hb _ (Value.ref (s1.heap.objs.size + 1) :: us) I2.kIn hl
  rw [List.append_nil] at hb2
  refine wpAny_call (make_map (f := f) I1.kIn M.makes M.init (beq_iff_eq.mp M.fn) (codeAny_mono (F.run _ X.stack _ _ ⟨Value.ref (s1.heap.objs.size + 1) :: us, []⟩ (Value.ref (s1.heap.objs.size + 1) :: us) _ _ (WE W σ) ((hr.mono hk).make C us [])
    (I2.env0.make C us []) hb2 r2 hq) fun r s' hq' => ?_))
  cases r with
  | error e => exact passAt tk σ pins _ _ e s' I2 hq'
  | ok fl =>
    cases fl with
    | ret u =>
      obtain ⟨v, H', I3, rv, ev, q3⟩ := I2.after hq'
      subst ev
      exact ⟨rv, ⟨V.ref (s1.heap.objs.size + 1), H', I3, rfl, q3⟩⟩
    | next => exact False.elim hq'
    | brk => exact False.elim hq'
    | cont => exact False.elim hq'
end
section
variable {H : Hp} {σ : L2.St} {Q : VK} {tr : TA} {vs : List V} {C : Addr} {EK : XK}
def mkX (C : Addr) (sp : Sp) (EK : XK) (Q : VK) : List V → Hp → Prop := fun vs H1 => ∀ x dx, H1 x = none → H1 dx = none → dx ≠ x → sp (.ref x :: vs) (upd (upd H1 dx (.own x)) x (.ins C dx [])) (fun v H2 => v = .non ∧ Q (.ref x) H2) EK
theorem up_makeX {sp : Sp} {ES : L2.St → XK} (k : Up (fun H1 => tr σ H1 (mkX C sp (ES σ) Q)) H) : Up (fun H1 => tMkS C sp ES tr σ H1 Q) H := k
theorem up_mkXE {F : List V → Hp → VK → XK → Prop} (h : ∀ x dx, H x = none → H dx = none → dx ≠ x → F (.ref x :: vs) (upd (upd H dx (.own x)) x (.ins C dx [])) (fun v H2 => v = .non ∧ Q (.ref x) H2) EK) : Up (mkX C (KSx F) EK Q vs) H :=
  fun H1 e x dx hx hd ne => ⟨_, same_upd (same_upd e), h x dx (e.free hx) (e.free hd) ne⟩
end
/-! ### min(list, default=) -/
theorem argmin_in {js : List Int} {n : Nat} (hn : n = js.length) (hp : 0 < n) : js.getD (argBest (fun i j => decide (js.getD i 0 < js.getD j 0)) (n - 1)) 0 ∈ js ∧ ∀ y ∈ js, js.getD (argBest (fun i j => decide (js.getD i 0 < js.getD j 0)) (n - 1)) 0 ≤ y := by
  obtain ⟨m1', m2'⟩ := argBest_lt (fun i => js.getD i 0) (n - 1)
  have m1 : argBest (fun i j => decide (js.getD i 0 < js.getD j 0)) (n - 1) ≤ n - 1 := m1'
  have m2 : ∀ j, j ≤ n - 1 → js.getD (argBest (fun i j => decide (js.getD i 0 < js.getD j 0)) (n - 1)) 0 ≤ js.getD j 0 := m2'
  generalize argBest (fun i j => decide (js.getD i 0 < js.getD j 0)) (n - 1) = t at m1 m2
  refine ⟨?_, fun y hy => ?_⟩
  · rw [List.getD_eq_getElem?_getD, List.getElem?_eq_getElem (by omega)]
    exact List.getElem_mem _
  · obtain ⟨i, hi, e⟩ := List.mem_iff_getElem.mp hy
    have h := m2 i (by omega)
    rw [List.getD_eq_getElem?_getD (i := i), List.getElem?_eq_getElem hi] at h
    rw [← e]
    exact h
def rMinLd (K : PySem.W.Frag) : List V → List V → Hp → VK → Prop := fun vs zs H Q => ∃ (a : Addr) (js : List Int) (d : Int), vs = [.ref a] ∧ zs = [.int d] ∧ SqL K H a (js.map V.int) ∧ (js = [] → Q (.int d) H) ∧ (∀ m, m ∈ js → (∀ y ∈ js, m ≤ y) → Q (.int m) H)
theorem cr_minLd {K : PySem.W.Frag} {X : Cx} (hc : X.calm = true) (hk : X.K = K := by rfl) : CallRK X (.builtin "min") [Str.ofString "default"] (rMinLd K) := by
  subst hk
  intro pins s σ H xs zs us ws Q I rx rz h
  obtain ⟨a, js, d, rfl, rfl, hs, q0, q1⟩ := h
  rw [Vals.ref1 rx]
  obtain ⟨u, rfl, ru⟩ := rz.one
  obtain ⟨its, rv, hpl, _⟩ := I.list hs
  have hl := hpl.isList
  have hlen : its.toArray.size = js.length := by
    have e := rv.length
    rw [List.length_map] at e
    rw [List.size_toArray]
    exact e.symm
  have hval : ∀ (i : Nat) (v : Value), its.toArray[i]? = some v → ∃ t, v = .int (js.getD i 0) t := fun i v e => by
    have e1 : its[i]? = some v := by simpa using e
    have hi := (List.getElem?_eq_some_iff.mp e1).1
    have hj : i < js.length := by rw [List.size_toArray] at hlen; omega
    obtain ⟨u2, hu2, ru2⟩ := rv.get (i := i) (x := V.int js[i]) (by rw [List.getElem?_map, List.getElem?_eq_getElem hj]; rfl)
    rw [e1] at hu2
    have e2 := Option.some.inj hu2
    subst e2
    rw [List.getD_eq_getElem?_getD, List.getElem?_eq_getElem hj]
    exact ru2
  have hh : X.A.in1.handled = none := I.ok.hd hc
  show wpAny _ _ (call (.builtin "min") [.ref a] [(Str.ofString "default", u)]) _ _ _
  refine call_min_walkD (PySem.W.iter_listW (A := X.A.in1) hh hl fun s₂ e W st hfp hw hk => ?_)
  refine ⟨_, _, _, _, _, _, _, s.heap, fun i j => decide (js.getD i 0 < js.getD j 0), rfl, W, st, hfp, hw, hk, fun hz s' m => ?_, fun hp => ⟨fun i j vi vj s' Q E _ hi hj hq => CmpOf.ints_lt (fun i => js.getD i 0) hval i j vi vj s' Q E hi hj hq, fun v s' hP m => ?_⟩⟩
  · obtain ⟨h', tk, rfl, hk'⟩ := PySem.W.moved_old e rfl m
    have hj : js = [] := List.eq_nil_of_length_eq_zero (by omega)
    exact ⟨.int d, H, I.kept hk', ru, q0 hj⟩
  · obtain ⟨h', tk, rfl, hk'⟩ := PySem.W.moved_old e rfl m
    obtain ⟨t, rfl⟩ := hval _ v hP
    have am := argmin_in (js := js) hlen (by omega)
    exact ⟨.int _, H, I.kept hk', ⟨_, rfl⟩, q1 _ am.1 am.2⟩
section
variable {K : PySem.W.Frag} {H : Hp} {σ : L2.St} {Q : VK} {te : TE}
theorem up_minLd {a : Addr} {js : List Int} {d : Int} (h : SqL K H a (js.map V.int)) (k0 : js = [] → Up (Q (.int d)) H) (k1 : ∀ m, m ∈ js → (∀ y ∈ js, m ≤ y) → Up (Q (.int m)) H) : Up (ckB (rMinLd K) [.ref a] Q [.int d]) H :=
  fun H1 e => ⟨a, js, d, rfl, rfl, sq_up e h, fun z' => k0 z' H1 e, fun m h1 h2 => k1 m h1 h2 H1 e⟩
theorem up_maxLd {a : Addr} {js : List Int} {d : Int} (h : SqL K H a (js.map V.int)) (k0 : js = [] → Up (Q (.int d)) H) (k1 : ∀ m, m ∈ js → (∀ y ∈ js, y ≤ m) → Up (Q (.int m)) H) : Up (ckB (rMaxLd K) [.ref a] Q [.int d]) H :=
  fun H1 e => ⟨a, js, d, rfl, rfl, sq_up e h, fun z' => k0 z' H1 e, fun m h1 h2 => k1 m h1 h2 H1 e⟩
theorem up_anyV (P : V → Prop) (he : ∀ Q : VK, (∀ v, P v → Up (Q v) H) → Up (fun H1 => te σ H1 Q) H) (k : ∀ v, P v → Up (Q v) H) : Up (fun H1 => te σ H1 Q) H := he Q k
end
end Kp

namespace Kp
open PySem L2
/-- what pair stands at an address -/
def prAt (H : Hp) : V → Int × Int
  | .ref t => match H t with
    | some (.tup [.int i, .int j]) => (i, j)
    | _ => (0, 0)
  | _ => (0, 0)
theorem prAt_of {H : Hp} {t : Addr} {i j : Int} (h : H t = some (.tup [.int i, .int j])) : prAt H (.ref t) = (i, j) := by
  simp [prAt, h]
section
variable {K : PySem.W.Frag} {H : Hp} {Q : VK} {a : Addr}
theorem up_sortedP {rs : List Addr} {f : Addr → Int × Int} (h : H a = some (.lst (rs.map V.ref))) (ht : ∀ t ∈ rs, H t = some (.tup [.int (f t).1, .int (f t).2]))
    (k : ∀ ts : List Addr, ts.Perm rs → ts.Pairwise (fun s t => ¬ ((f t).1 < (f s).1 ∨ ((f t).1 = (f s).1 ∧ (f t).2 < (f s).2))) → ∀ p, H p = none → Up (Q (.ref p)) (upd H p (.lst (ts.map V.ref)))) : Up (blK (rSortedPO K) Q [.ref a]) H := fun H1 e => by
  have pr : ∀ t ∈ rs, prAt H1 (.ref t) = f t := fun t h => prAt_of (e _ _ (ht t h))
  refine ⟨a, rs.map V.ref, prAt H1, rfl, SqL.of (e _ _ h), fun x hx => ?_, fun ys p hs hb hp => ?_⟩
  · obtain ⟨t, h1, rfl⟩ := List.mem_map.mp hx
    refine ⟨t, rfl, ?_⟩
    rw [pr t h1]
    exact e _ _ (ht t h1)
  · have hperm := hb.perm
    obtain ⟨ts, hts, rfl⟩ : ∃ ts : List Addr, ts.Perm rs ∧ ys = ts.map V.ref := by
      have hall : ∀ y ∈ ys, ∃ t, y = V.ref t := fun y hy => by
        obtain ⟨t, _, e⟩ := List.mem_map.mp (hperm.mem_iff.mp hy)
        exact ⟨t, e.symm⟩
      have hex : ∃ ts : List Addr, ys = ts.map V.ref := by
        clear hs hb hperm
        induction ys with
        | nil => exact ⟨[], rfl⟩
        | cons y r ih =>
          obtain ⟨t, rfl⟩ := hall y List.mem_cons_self
          obtain ⟨ts, e⟩ := ih fun z hz => hall z (List.mem_cons_of_mem _ hz)
          exact ⟨t :: ts, by rw [e]; rfl⟩
      obtain ⟨ts, rfl⟩ := hex
      refine ⟨ts, ?_, rfl⟩
      have hf := hperm.map (fun v : V => match v with | .ref t => t | _ => 0)
      rw [List.map_map, List.map_map] at hf
      have e1 : ((fun v : V => match v with | .ref t => t | _ => 0) ∘ V.ref) = (id : Addr → Addr) := rfl
      rw [e1, List.map_id, List.map_id] at hf
      exact hf
    refine k ts hts ?_ p (e.free hp) _ (same_upd e)
    have hs2 : (ts.map V.ref).Pairwise (fun x y => ltP (prAt H1) y x = false) := hs
    rw [List.pairwise_map] at hs2
    refine List.Pairwise.imp_of_mem (fun {s t} h1 h2 h => ?_) hs2
    have e1 := pr s (hts.mem_iff.mp h1)
    have e2 := pr t (hts.mem_iff.mp h2)
    have h3 : SrtO.lexB (prAt H1 (.ref t)) (prAt H1 (.ref s)) = false := h
    rw [e1, e2] at h3
    exact SrtO.lexB_no.mp h3
end
end Kp

namespace Kp
open PySem L2 PySem.Spec PyProof.Rows
/-! ### keys in the heap -/
mutual
inductive NK (H : Hp) : NestedKey → V → Prop
  | none : NK H .none .non
  | num (i : Int) : NK H (.num i) (.int i)
  | tup {a : Addr} {vs : List V} {ks : List NestedKey} : H a = some (.tup vs) → NKs H ks vs → NK H (.tup ks) (.ref a)
inductive NKs (H : Hp) : List NestedKey → List V → Prop
  | nil : NKs H [] []
  | cons {k : NestedKey} {v : V} {ks : List NestedKey} {vs : List V} : NK H k v → NKs H ks vs → NKs H (k :: ks) (v :: vs)
end
mutual
theorem NK.keep {H H' : Hp} (e : ∀ a vs, H a = some (.tup vs) → H' a = some (.tup vs)) : ∀ (k : NestedKey) (v : V), NK H k v → NK H' k v
  | .none, _, h => by cases h; exact .none
  | .num i, _, h => by cases h; exact .num i
  | .text _, _, h => by cases h
  | .tup ks, _, h => by
    cases h with
    | tup h1 h2 => exact .tup (e _ _ h1) (NKs.keep e ks _ h2)
theorem NKs.keep {H H' : Hp} (e : ∀ a vs, H a = some (.tup vs) → H' a = some (.tup vs)) : ∀ (ks : List NestedKey) (vs : List V), NKs H ks vs → NKs H' ks vs
  | [], _, h => by cases h; exact .nil
  | k :: ks, _, h => by
    cases h with
    | cons h1 h2 => exact .cons (NK.keep e k _ h1) (NKs.keep e ks _ h2)
end
section
variable {P : Program} {w : World} {H : Hp} {h : Heap}
mutual
theorem NK.is (ok : HOk P w H h) : ∀ (k : NestedKey) (v : V) (u : Value), NK H k v → RelV v u → NestedIs h k u
  | .none, _, _, x, r => by
    cases x
    rw [show _ = Value.none from r]
    exact .none
  | .num i, _, _, x, r => by
    cases x
    obtain ⟨t, rfl⟩ := (show ∃ t, _ = Value.int i t from r)
    exact .int i t
  | .text _, _, _, x, _ => by cases x
  | .tup ks, _, _, x, r => by
    cases x with
    | @tup a vs _ h1 h2 =>
      rw [show _ = Value.ref a from r]
      obtain ⟨_, its, rv, o, e1, e2, n, e3⟩ := (show ObjOk P w H h a (.tup vs) from ok a _ h1)
      exact .tup e1 e2 e3 (by simpa using NKs.is ok ks vs its h2 rv)
theorem NKs.is (ok : HOk P w H h) : ∀ (ks : List NestedKey) (vs : List V) (us : List Value), NKs H ks vs → Vals vs us → NestedAll h ks us
  | [], _, _, x, r => by
    cases x
    cases r
    exact .nil
  | k :: ks, _, _, x, r => by
    cases x with
    | cons x1 x2 =>
      cases r with
      | cons r1 r2 => exact .cons (NK.is ok k _ _ x1 r1) (NKs.is ok ks _ _ x2 r2)
end
end
/-! ### the dict -/
abbrev Nt := List (NestedKey × Addr × V)
abbrev NX : Nt → List (NestedKey × Addr × Value) → Prop := Paired fun p q => p.1 = q.1 ∧ p.2.1 = q.2.1 ∧ RelV p.2.2 q.2.2
def valN (kvs : Nt) (k : NestedKey) : Option V := (kvs.find? fun x => decide (x.1 = k)).map (·.2.2)
def putN (kvs : Nt) (k : NestedKey) (a : Addr) (v : V) : Nt := if (valN kvs k).isSome then kvs.map (fun x => if x.1 = k then (x.1, x.2.1, v) else x) else kvs ++ [(k, a, v)]
theorem valN_nil (k : NestedKey) : valN [] k = none := rfl
theorem valN_pos {p : NestedKey × Addr × V} {r : Nt} {k : NestedKey} (e : p.1 = k) : valN (p :: r) k = some p.2.2 := by simp [valN, List.find?_cons, e]
theorem valN_neg {p : NestedKey × Addr × V} {r : Nt} {k : NestedKey} (e : ¬ p.1 = k) : valN (p :: r) k = valN r k := by simp [valN, List.find?_cons, e]
theorem valN_mem : ∀ {kvs : Nt} {k : NestedKey} {v : V}, valN kvs k = some v → ∃ a, (k, a, v) ∈ kvs
  | [], _, _, h => by cases h
  | p :: r, k, v, h => by
    by_cases e : p.1 = k
    · rw [valN_pos e] at h
      refine ⟨p.2.1, ?_⟩
      have : p = (k, p.2.1, v) := by
        obtain ⟨p1, p2, p3⟩ := p
        rw [show p1 = k from e, show p3 = v from Option.some.inj h]
      rw [← this]
      exact List.mem_cons_self
    · rw [valN_neg e] at h
      obtain ⟨a, h⟩ := valN_mem h
      exact ⟨a, List.mem_cons_of_mem _ h⟩
theorem valN_put (kvs : Nt) (k : NestedKey) (a : Addr) (v : V) : valN (putN kvs k a v) k = some v := by
  unfold putN
  split
  · rename_i hs
    induction kvs with
    | nil => cases hs
    | cons p r ih =>
      rw [List.map_cons]
      by_cases e : p.1 = k
      · rw [if_pos e, valN_pos (p := (p.1, p.2.1, v)) e]
      · rw [valN_neg e] at hs
        rw [if_neg e, valN_neg e]
        exact ih hs
  · rename_i hs
    induction kvs with
    | nil => exact valN_pos (p := (k, a, v)) rfl
    | cons p r ih =>
      by_cases e : p.1 = k
      · rw [valN_pos e] at hs
        exact absurd rfl hs
      · rw [valN_neg e] at hs
        rw [List.cons_append, valN_neg e]
        exact ih hs
theorem putN_mem {kvs : Nt} {k : NestedKey} {a : Addr} {v : V} {x : NestedKey × Addr × V} (h : x ∈ putN kvs k a v) : x ∈ kvs ∨ (x.1 = k ∧ x.2.2 = v ∧ (x.2.1 = a ∨ ∃ u, (k, x.2.1, u) ∈ kvs)) := by
  unfold putN at h
  split at h
  · obtain ⟨y, hy, e⟩ := List.mem_map.mp h
    by_cases q : y.1 = k
    · rw [if_pos q] at e
      refine .inr ?_
      rw [← e]
      refine ⟨q, rfl, .inr ⟨y.2.2, ?_⟩⟩
      have : (k, y.2.1, y.2.2) = y := by rw [← q]
      show (k, y.2.1, y.2.2) ∈ kvs
      rw [this]
      exact hy
    · rw [if_neg q] at e
      rw [← e]
      exact .inl hy
  · rcases List.mem_append.mp h with h | h
    · exact .inl h
    · rw [List.mem_singleton.mp h]
      exact .inr ⟨rfl, rfl, .inl rfl⟩
theorem putN_len (kvs : Nt) (k : NestedKey) (a : Addr) (v : V) : (putN kvs k a v).length ≤ kvs.length + 1 := by
  unfold putN
  split
  · rw [List.length_map]; omega
  · rw [List.length_append, List.length_singleton]; exact Nat.le_refl _
theorem NX.val {kvs : Nt} {xs : List (NestedKey × Addr × Value)} (r : NX kvs xs) (k : NestedKey) : RelO (valN kvs k) ((atKey xs k).map (·.2)) := by
  induction r with
  | nil => exact True.intro
  | @cons p q ps qs h t ih =>
    obtain ⟨h1, _, h2⟩ := h
    by_cases e : p.1 = k
    · have b : atKey (q :: qs) k = some q.2 := by simp [atKey, List.find?_cons, h1.symm.trans e]
      rw [valN_pos e, b]
      exact h2
    · have e' : ¬ q.1 = k := fun z => e (h1.trans z)
      have b : atKey (q :: qs) k = atKey qs k := by simp [atKey, List.find?_cons, e']
      rw [valN_neg e, b]
      exact ih
theorem NX.repl {kvs : Nt} {xs : List (NestedKey × Addr × Value)} (r : NX kvs xs) (k : NestedKey) {y : V} {u : Value} (ry : RelV y u) :
    NX (kvs.map fun x => if x.1 = k then (x.1, x.2.1, y) else x) (xs.map (putAt k u)) := by
  induction r with
  | nil => exact .nil
  | @cons p q ps qs h t ih =>
    rw [List.map_cons, List.map_cons]
    refine .cons ?_ ih
    obtain ⟨h1, h2, h3⟩ := h
    unfold putAt
    by_cases e : p.1 = k
    · rw [if_pos e, if_pos (h1.symm.trans e)]; exact ⟨h1, h2, ry⟩
    · rw [if_neg e, if_neg (fun z => e (h1.trans z))]; exact ⟨h1, h2, h3⟩
theorem NX.put {kvs : Nt} {xs : List (NestedKey × Addr × Value)} (r : NX kvs xs) (k : NestedKey) {b : Addr} {y : V} {u : Value} (ry : RelV y u) : NX (putN kvs k b y) (storedH xs k b u) := by
  have e : (valN kvs k).isSome = (atKey xs k).isSome := by rw [(r.val k).isSome_eq, Option.isSome_map]
  unfold putN storedH
  rw [e]
  by_cases q : (atKey xs k).isSome = true
  · rw [if_pos q, if_pos q]; exact r.repl k ry
  · rw [if_neg q, if_neg q]; exact Paired.snoc r ⟨rfl, rfl, ry⟩
/-- what is true of the dict's own object -/
def ndF (P : Program) (w : World) (d : Addr) (kvs : Nt) : Heap → Prop := fun h => kvs.length ≤ sizeLine ∧ (d == sysModules) = false ∧ ∃ xs : List (NestedKey × Addr × Value), NX kvs xs ∧
  ∃ o es ep, h.get? d = some o ∧ o.ExactDict ∧ o.data = .dict es ep ∧ es.toList = xs.map (entryOfKey (nestedKind P w)) ∧ (xs.map (·.1)).Nodup
/-- at d stands such a dict -/
structure NdAt (P : Program) (w : World) (H : Hp) (d : Addr) (kvs : Nt) : Prop where
  at_ : H d = some (.ext (ndF P w d kvs))
  ks : ∀ x ∈ kvs, NK H x.1 (.ref x.2.1) ∧ x.1.depth ≤ 8
theorem NdAt.up {P : Program} {w : World} {H H' : Hp} {d : Addr} {kvs : Nt} (x : NdAt P w H d kvs) (e : Same H H') : NdAt P w H' d kvs :=
  ⟨e _ _ x.at_, fun y hy => ⟨NK.keep (fun a vs q => e _ _ q) _ _ (x.ks y hy).1, (x.ks y hy).2⟩⟩
section
variable {X : Cx} {pins : List (Addr × Obj)} {σ : L2.St} {H : Hp} {s : Shared} {d b : Addr} {kvs : Nt} {k : NestedKey}
theorem nd_of (I : Inv X pins σ H s) (x : NdAt X.prog X.w H d kvs) : kvs.length ≤ sizeLine ∧ (d == sysModules) = false ∧ ∃ xs, NX kvs xs ∧ s.heap.DictOfH (nestedKind X.prog X.w) d xs := by
  obtain ⟨⟨z, hd, xs, r, o, es, ep, h1, h2, h3, h4, h5⟩, _⟩ := (show ObjOk X.prog X.w H s.heap d (.ext _) from I.hok d _ x.at_)
  refine ⟨z, hd, xs, r, o, es, ep, h1, h2, h3, h4, fun y hy => ?_, h5⟩
  have all : ∀ {l : Nt} {m : List (NestedKey × Addr × Value)}, NX l m → (∀ x ∈ l, NK H x.1 (.ref x.2.1) ∧ x.1.depth ≤ 8) → ∀ y ∈ m, (nestedKind X.prog X.w).is s.heap y.1 y.2.1 := by
    intro l m q
    induction q with
    | nil => intro _ y hy; exact nomatch hy
    | @cons p q ps qs hq t ih =>
      intro hk y hy
      rcases List.mem_cons.mp hy with e | hy
      · subst e
        obtain ⟨k1, k2⟩ := hk p List.mem_cons_self
        rw [hq.1, hq.2.1] at k1
        rw [hq.1] at k2
        exact ⟨NK.is I.hok _ _ _ k1 rfl, k2⟩
      · exact ih (fun z hz => hk z (List.mem_cons_of_mem _ hz)) y hy
  exact all r x.ks y hy
theorem nk_is (I : Inv X pins σ H s) (x : NK H k (.ref b)) (hd : k.depth ≤ 8) : (nestedKind X.prog X.w).is s.heap k b := ⟨NK.is I.hok _ _ _ x rfl, hd⟩
theorem nd_room {A : Around} (hu : A.units + 65 < cLine) {P : Program} {w : World} : (nestedKind P w).room A.in1 := by
  show A.in1.units + 8 < cLine
  rw [Around.in1_units]
  omega
end
/-! ### readings -/
def tNDNew (P : Program) (w : World) : TE := fun _ H Q => ∀ p, H p = none → Q (.ref p) (upd H p (.ext (ndF P w p [])))
def tNDGet (P : Program) (w : World) (td ty : TE) : TE := fun σ H Q => td σ H fun x H1 => ty σ H1 fun y H2 => ∃ a kvs k b v, x = .ref a ∧ y = .ref b ∧ NdAt P w H2 a kvs ∧ NK H2 k y ∧ k.depth ≤ 8 ∧ valN kvs k = some v ∧ Q v H2
def tNDNotIn (P : Program) (w : World) (ty td : TE) : TE := fun σ H Q => ty σ H fun y H1 => td σ H1 fun x H2 => ∃ a kvs k b, x = .ref a ∧ y = .ref b ∧ NdAt P w H2 a kvs ∧ NK H2 k y ∧ k.depth ≤ 8 ∧ Q (.bl (!(valN kvs k).isSome)) H2
def sNDPut (P : Program) (w : World) (td ty tv : TE) : TS := fun D σ H => tv σ H fun v H1 => td σ H1 fun x H2 => ty σ H2 fun y H3 => ∃ a kvs k b, x = .ref a ∧ y = .ref b ∧ NdAt P w H3 a kvs ∧ NK H3 k y ∧ k.depth ≤ 8 ∧ kvs.length < sizeLine ∧ D.nx σ (upd H3 a (.ext (ndF P w a (putN kvs k b v))))
theorem nd_stable {P : Program} {w : World} {d : Addr} {kvs : Nt} : ∀ h1 h2 : Heap, ndF P w d kvs h1 → (∀ o, h1.get? d = some o → h2.get? d = some o) → ndF P w d kvs h2 := by
  rintro h1 h2 ⟨z, hd, xs, r, o, es, ep, e1, e2⟩ hk
  exact ⟨z, hd, xs, r, o, es, ep, hk _ e1, e2⟩
section
variable {X : Cx} {o i value : Expr} {pos pos' : Pos} {td ty tv : TE}
theorem pe_ndnew {P : Program} {w : World} (hp : X.prog = P := by rfl) (hw : X.w = w := by rfl) : PE X (.Dict [] [] pos) (tNDNew P w) := by
  subst hp hw
  refine ⟨fun pins s σ H Q I h => wpAny_Dict_empty ⟨.ref s.heap.objs.size, _, I.laid (a := s.heap.objs.size) (o := .ext (ndF X.prog X.w s.heap.objs.size [])) (t' := s.toks) (fun _ _ q => Heap.get?_push_of_some _ q) (Nat.le_refl _) ?_, rfl, h _ (I.hok.fresh (Nat.le_refl _))⟩⟩
  exact ⟨⟨Nat.zero_le _, beq_eq_false_iff_ne.mpr (Ne.symm (Nat.ne_of_lt I.big)), [], .nil, _, #[], 0, Heap.get?_push_size _ rfl, ⟨rfl, rfl, rfl⟩, rfl, rfl, List.nodup_nil⟩, ⟨_, Heap.get?_push_size _ rfl⟩, nd_stable⟩
theorem pe_ndget {P : Program} {w : World} (hu : X.A.units + 65 < cLine) (ho : PE X o td) (hi : PE X i ty) (hs : NoSl i) (hp : X.prog = P := by rfl) (hw : X.w = w := by rfl) : PE X (.Subscript o i pos) (tNDGet P w td ty) := by
  subst hp hw
  refine ⟨fun pins s σ H Q I h => ?_⟩
  refine subD_of PySem.F.slot_dict_getitem.lookup hs (thn (ho.run pins s σ H _ I h) fun u s1 ⟨x, H1, I1, rx, q1⟩ => thn (hi.run pins s1 σ H1 _ I1 q1) fun iv s2 ⟨y, H2, I2, ry, a, kvs, k, b, v, ex, ey, g, hk, hd, hv, q2⟩ => ?_)
  subst ex ey
  obtain rfl : u = Value.ref a := rx
  obtain rfl : iv = Value.ref b := ry
  obtain ⟨z, hds, xs, rel, dd⟩ := nd_of I2 g
  refine ⟨dd.typeIs, ?_⟩
  obtain ⟨w', hw', rw'⟩ := RelO.some_of (v := v) (o := (atKey xs k).map (·.2)) (by rw [← hv]; exact rel.val k)
  obtain ⟨p, hp', hp2⟩ := Option.map_eq_some_iff.mp hw'
  refine wpAny_getItem_heap (nd_room hu) (nk_is I2 hk hd) dd hp' ?_
  rw [hp2]
  exact ⟨v, H2, I2.tok _, rw', q2⟩
theorem pc_ndnotin {P : Program} {w : World} (hu : X.A.units + 65 < cLine) (hi : PE X i ty) (ho : PE X o td) (hp : X.prog = P := by rfl) (hw : X.w = w := by rfl) : PC X .NotIn i o (tNDNotIn P w ty td) := by
  subst hp hw
  refine ⟨fun pins s σ H Q I h => ?_⟩
  refine thn (hi.run pins s σ H _ I h) fun iv s1 ⟨y, H1, I1, ry, q1⟩ => thn (ho.run pins s1 σ H1 _ I1 q1) fun u s2 ⟨x, H2, I2, rx, a, kvs, k, b, ex, ey, g, hk, hd, q2⟩ => ?_
  subst ex ey
  obtain rfl : u = Value.ref a := rx
  obtain rfl : iv = Value.ref b := ry
  obtain ⟨z, hds, xs, rel, dd⟩ := nd_of I2 g
  refine wpAny_notIn_heap (nd_room hu) (nk_is I2 hk hd) hds dd ?_
  have q := (rel.val k).isSome_eq
  rw [Option.isSome_map] at q
  rw [← q]
  exact ⟨.bl (!(valN kvs k).isSome), H2, I2.tok _, rfl, q2⟩
theorem ps_ndput {P : Program} {w : World} (hu : X.A.units + 65 < cLine) (ho : PE X o td) (hi : PE X i ty) (hv : PE X value tv) (hs : swapsWith value (some (.Subscript o i pos')) pos.line X.env = pure false) (hp : X.prog = P := by rfl) (hw : X.w = w := by rfl) :
    PS X (.Assign [.Subscript o i pos'] value pos) (sNDPut P w td ty tv) := by
  subst hp hw
  refine ⟨fun pins s σ H D I h => ?_⟩
  refine wpAny_Assign_Subscript (thn (hv.run pins s σ H _ I h) fun r s1 ⟨v, H1, I1, rv, q1⟩ => thn (ho.run pins s1 σ H1 _ I1 q1) fun u s2 ⟨x, H2, I2, rx, q2⟩ => thn (hi.run pins s2 σ H2 _ I2 q2) fun iv s3 ⟨y, H3, I3, ry, a, kvs, k, b, ex, ey, g, hk, hd, hl, q3⟩ => ?_) hs
  subst ex ey
  obtain rfl : u = Value.ref a := rx
  obtain rfl : iv = Value.ref b := ry
  obtain ⟨z, hds, xs, rel, dd⟩ := nd_of I3 g
  have hz : xs.length ≤ sizeLine := by rw [← Paired.length rel]; exact z
  have hl2 : (putN kvs k b v).length ≤ sizeLine := by have := putN_len kvs k b v; omega
  refine wpAny_setItem_heap (hsz := hz) (nd_room hu) (nk_is I3 hk hd) dd fun h' dd' hs => ?_
  obtain ⟨q, es, ep, hq, h2, h3, h4, _, h5⟩ := dd'
  refine ⟨σ, _, d_write (ob := .ext (ndF X.prog X.w a (putN kvs k b v))) I3 (by rw [g.at_]; exact True.intro) hs ⟨q, hq⟩ ⟨⟨hl2, hds, _, rel.put k rv, q, es, ep, hq, h2, h3, h4, h5⟩, ⟨q, hq⟩, nd_stable⟩, q3⟩
end
theorem NdAt.put {P : Program} {w : World} {H : Hp} {d b : Addr} {kvs : Nt} {k : NestedKey} {v : V} (x : NdAt P w H d kvs) (hk : NK H k (.ref b)) (hd : k.depth ≤ 8) : NdAt P w (upd H d (.ext (ndF P w d (putN kvs k b v)))) d (putN kvs k b v) := by
  have e : ∀ a vs, H a = some (.tup vs) → upd H d (.ext (ndF P w d (putN kvs k b v))) a = some (.tup vs) := fun a vs q => by
    rw [upd_ne (fun z => by rw [z, x.at_] at q; cases q)]
    exact q
  refine ⟨upd_same, fun y hy => ?_⟩
  rcases putN_mem hy with h | ⟨h1, h2, h3⟩
  · exact ⟨NK.keep e _ _ (x.ks y h).1, (x.ks y h).2⟩
  · rw [h1]
    refine ⟨?_, hd⟩
    rcases h3 with h3 | ⟨u, h3⟩
    · rw [h3]; exact NK.keep e _ _ hk
    · exact NK.keep e _ _ (x.ks _ h3).1
section
variable {P : Program} {w : World} {K : PySem.W.Frag} {H : Hp} {σ : L2.St} {Q : VK} {ta tb te : TE} {v x y : V} {n bk ct : L2.St → Hp → Prop} {r : VK} {d b p : Addr} {kvs : Nt} {k : NestedKey} {xs ys : List V}
theorem up_ndnew (k : ∀ p, H p = none → Up (Q (.ref p)) (upd H p (.ext (ndF P w p [])))) : Up (fun H1 => tNDNew P w σ H1 Q) H := fun H1 e p hp => k p (e.free hp) _ (same_upd e)
def ngB (P : Program) (w : World) (x : V) (Q : VK) : VK := fun y H2 => ∃ a kvs k b v, x = .ref a ∧ y = .ref b ∧ NdAt P w H2 a kvs ∧ NK H2 k y ∧ k.depth ≤ 8 ∧ valN kvs k = some v ∧ Q v H2
def ngA (P : Program) (w : World) (ty : TE) (σ : L2.St) (Q : VK) : VK := fun x H1 => ty σ H1 (ngB P w x Q)
theorem up_ndget (k : Up (fun H1 => ta σ H1 (ngA P w tb σ Q)) H) : Up (fun H1 => tNDGet P w ta tb σ H1 Q) H := k
theorem up_ngA (k : Up (fun H1 => tb σ H1 (ngB P w x Q)) H) : Up (ngA P w tb σ Q x) H := k
theorem up_ngB (h : NdAt P w H d kvs) (hk : NK H k (.ref b)) (hd : k.depth ≤ 8) (hv : valN kvs k = some v) (q : Up (Q v) H) : Up (ngB P w (.ref d) Q (.ref b)) H := fun H1 e =>
  ⟨d, kvs, k, b, v, rfl, rfl, h.up e, NK.keep (fun a vs z => e _ _ z) _ _ hk, hd, hv, q H1 e⟩
def nnB (P : Program) (w : World) (y : V) (Q : VK) : VK := fun x H2 => ∃ a kvs k b, x = .ref a ∧ y = .ref b ∧ NdAt P w H2 a kvs ∧ NK H2 k y ∧ k.depth ≤ 8 ∧ Q (.bl (!(valN kvs k).isSome)) H2
def nnA (P : Program) (w : World) (td : TE) (σ : L2.St) (Q : VK) : VK := fun y H1 => td σ H1 (nnB P w y Q)
theorem up_ndnotin (k : Up (fun H1 => ta σ H1 (nnA P w tb σ Q)) H) : Up (fun H1 => tNDNotIn P w ta tb σ H1 Q) H := k
theorem up_nnA (k : Up (fun H1 => tb σ H1 (nnB P w y Q)) H) : Up (nnA P w tb σ Q y) H := k
theorem up_nnB (h : NdAt P w H d kvs) (hk : NK H k (.ref b)) (hd : k.depth ≤ 8) (q : Up (Q (.bl (!(valN kvs k).isSome))) H) : Up (nnB P w (.ref b) Q (.ref d)) H := fun H1 e =>
  ⟨d, kvs, k, b, rfl, rfl, h.up e, NK.keep (fun a vs z => e _ _ z) _ _ hk, hd, q H1 e⟩
def npC (P : Program) (w : World) (v x : V) (n : L2.St → Hp → Prop) (σ : L2.St) : VK := fun y H3 => ∃ a kvs k b, x = .ref a ∧ y = .ref b ∧ NdAt P w H3 a kvs ∧ NK H3 k y ∧ k.depth ≤ 8 ∧ kvs.length < sizeLine ∧ n σ (upd H3 a (.ext (ndF P w a (putN kvs k b v))))
def npB (P : Program) (w : World) (v : V) (ty : TE) (n : L2.St → Hp → Prop) (σ : L2.St) : VK := fun x H2 => ty σ H2 (npC P w v x n σ)
def npA (P : Program) (w : World) (td ty : TE) (n : L2.St → Hp → Prop) (σ : L2.St) : VK := fun v H1 => td σ H1 (npB P w v ty n σ)
theorem up_ndput (k : Up (fun H1 => te σ H1 (npA P w ta tb n σ)) H) : Up (sNDPut P w ta tb te (Ends.mk n r bk ct) σ) H := k
theorem up_npA (k : Up (fun H1 => ta σ H1 (npB P w v tb n σ)) H) : Up (npA P w ta tb n σ v) H := k
theorem up_npB (k : Up (fun H1 => tb σ H1 (npC P w v x n σ)) H) : Up (npB P w v tb n σ x) H := k
theorem up_npC (h : NdAt P w H d kvs) (hk : NK H k (.ref b)) (hd : k.depth ≤ 8) (hl : kvs.length < 16000000) (q : Up (n σ) (upd H d (.ext (ndF P w d (putN kvs k b v))))) : Up (npC P w v (.ref d) n σ (.ref b)) H := fun H1 e =>
  ⟨d, kvs, k, b, rfl, rfl, h.up e, NK.keep (fun a vs z => e _ _ z) _ _ hk, hd, by rw [sizeLine_eq]; omega, q _ (same_upd e)⟩
/-! ### tuples -/
def rSumT (K : PySem.W.Frag) : List V → Hp → VK → Prop := fun vs H Q => ∃ (a : Addr) (ns : List Int), vs = [V.ref a] ∧ SqT K H a (ns.map V.int) ∧ Q (.int ns.sum) H
theorem cr_sumT {X : Cx} (hc : X.calm = true) : CallR X (.builtin "sum") (rSumT X.K) := by
  intro pins s σ H vs us Q I r h
  obtain ⟨a, ns, rfl, hs, q⟩ := h
  obtain ⟨its, rv, ⟨ob, e1, e2, m, e3⟩, _⟩ := I.tuple hs
  rw [Vals.ref1 r]
  obtain ⟨xs, e⟩ := rv.ints.allInts.items
  have hn : numsOf (intItems xs).toList = ns := by rw [← e]; exact rv.ints.numsOf
  rw [nums_intItems] at hn
  refine PySem.W.ktm_sumG (I.ok.hd hc) (t := a) (xs := xs) ⟨ob, e1, e2, m, by rw [← e]; exact e3⟩ fun h' tk t' hk => ?_
  rw [preSum_eq, List.take_of_length_le (by simp), hn]
  exact ⟨.int _, H, I.kept hk, ⟨_, rfl⟩, q⟩
theorem up_sumT {ns : List Int} (h : SqT K H p (ns.map V.int)) (k : Up (Q (.int ns.sum)) H) : Up (blK (rSumT K) Q [.ref p]) H := fun H1 e => ⟨p, ns, rfl, st_up e h, k H1 e⟩
/-- t + u: some tuple of these items -/
theorem up_catA {a b : Addr} (ha : H a = some (.tup xs)) (hb : H b = some (.tup ys)) (hz : xs.length + ys.length ≤ 100000) (k : ∀ p H', Same H H' → H' p = some (.tup (xs ++ ys)) → Up (Q (.ref p)) H') : Up (fun H1 => rCatA K (.ref a) (.ref b) H1 Q) H := fun H1 e => by
  refine ⟨a, b, xs, ys, rfl, rfl, .of (e _ _ ha), .of (e _ _ hb), sz hz, fun hx => ?_, fun _ hy => ?_, fun _ _ p hp => ?_⟩
  · exact k b H1 e (by rw [hx, List.nil_append]; exact e _ _ hb) H1 (Same.refl _)
  · exact k a H1 e (by rw [hy, List.append_nil]; exact e _ _ ha) H1 (Same.refl _)
  · exact k p _ (e.trans (same_new hp _)) upd_same _ (Same.refl _)
theorem up_slA {a : Addr} {lo hi : Option Int} (ha : H a = some (.tup xs)) (k : ∀ p H', Same H H' → H' p = some (.tup (cutV xs lo hi)) → Up (Q (.ref p)) H') : Up (fun H1 => rSlA K (.ref a) lo hi H1 Q) H := fun H1 e => by
  refine ⟨a, xs, rfl, .of (e _ _ ha), fun hw => ?_, fun _ p hp => ?_⟩
  · refine k a H1 e ?_ H1 (Same.refl _)
    unfold cutV
    rw [hw.1, hw.2, List.drop_zero, Nat.sub_zero, List.take_length]
    exact e _ _ ha
  · exact k p _ (e.trans (same_new hp _)) upd_same _ (Same.refl _)
end
/-! ### try .. except x: without a name -/
def tTryO (K : PySem.W.Frag) (c : Value) (tb : WX → TS) (ts : Addr → Value → Option Addr → TS) (Wout : WX) : TS := fun D σ H => tb (wOnly K c ts Wout D) D σ H
section
variable {X : Cx} {x : Str} {c : Value} {body suite : List Stmt} {b₀ : Stmt} {np pos pos' : Pos} {tb : WX → TS} {ts : Addr → Value → Option Addr → TS} {Wout : WX}
theorem kp_tryO {K : PySem.W.Frag} (hs : X.stack = X.env :: X.outer) (hf : X.env.frame = some X.env.locals) (hc : Names X x c) (tk : Takes X Wout)
    (hb : ∀ (W : WX) (pn : List (Addr × Obj)) (xe : Value → Shared → Prop), Takes (X.tr pn xe) W → PassesOwn (model X.prog X.w) X.A X.env xe → PSs (X.tr pn xe) body (tb W))
    (hsu : ∀ (a : Addr) (oe : Obj) (cls : Value) (d : Option Addr) (pn : List (Addr × Obj)), Zc cls d oe → (∃ vs, oe.data = .fields vs) → PSs (X.suite a ((a, oe) :: pn)) (b₀ :: suite) (ts a cls d)) (hk : X.K = K := by rfl) :
    PS X (.Try body [.ExceptHandler (some (.Name x np)) none (b₀ :: suite) pos'] [] [] pos) (tTryO K c tb ts Wout) := by
  subst hk
  exact ps_try_only hs hf hc tk hb hsu
end
section
variable {K : PySem.W.Frag} {H : Hp} {σ : L2.St} {c cls : Value} {tb : WX → TS} {ts : Addr → Value → Option Addr → TS} {Wout : WX} {D : Ends} {d : Option Addr}
theorem up_tryO (k : Up (tb (wOnly K c ts Wout D) D σ) H) : Up (tTryO K c tb ts Wout D σ) H := k
theorem up_caughtO (hx : PySem.W.exmOne K cls c = some true) (k : ∀ a, H a = none → Up (ts a cls d D σ) H) : Up (WE (wOnly K c ts Wout D) σ cls d) H := fun H1 e =>
  ⟨true, hx, fun _ a ha => k a (e.free ha) H1 e, fun z => by cases z⟩
end
end Kp

namespace Kp
open PySem L2 PySem.Spec PyProof.Rows
def geLs (ns ms : List Int) : Bool := SeqAt.firstLt (fun j => decide (ns.getD j 0 = ms.getD j 0)) (fun j => decide (ms.getD j 0 ≤ ns.getD j 0)) (decide (ns.length ≥ ms.length)) (List.range (min ns.length ms.length))
def rGeL (K : PySem.W.Frag) : R2 := fun x y H Q => ∃ (a b : Addr) (ns ms : List Int), x = .ref a ∧ y = .ref b ∧ SqL K H a (ns.map V.int) ∧ SqL K H b (ms.map V.int) ∧ Q (.bl (geLs ns ms)) H
theorem op_geL {X : Cx} (hu : X.A.units < cLine) : OpR X (compareOp .GtE) (rGeL X.K) := by
  intro pins s σ H x y v u Q I rx ry h
  obtain ⟨a, b, ns, ms, rfl, rfl, ha, hb, q⟩ := h
  cases rx
  cases ry
  obtain ⟨its, r1, p1, _⟩ := I.list ha
  obtain ⟨its2, r2, p2, _⟩ := I.list hb
  have i1 : IntsAre its ns := Vals.ints r1
  have i2 : IntsAre its2 ms := Vals.ints r2
  have e1 : its.toArray.size = ns.length := by rw [List.size_toArray]; exact i1.length
  have e2 : its2.toArray.size = ms.length := by rw [List.size_toArray]; exact i2.length
  have at1 : ∀ j (h1 : j < its.toArray.size), ∃ t, its.toArray[j] = .int (ns.getD j 0) t := fun j h1 => PyProof.Rows.IntsAre.int_at i1 _ _ (by simp at h1; simp [h1])
  have at2 : ∀ j (h1 : j < its2.toArray.size), ∃ t, its2.toArray[j] = .int (ms.getD j 0) t := fun j h1 => PyProof.Rows.IntsAre.int_at i2 _ _ (by simp at h1; simp [h1])
  have R := SeqAt.RcOp.lists_ge (A := X.A) (s := s) (e := fun j => decide (ns.getD j 0 = ms.getD j 0)) (r := fun j => decide (ms.getD j 0 ≤ ns.getD j 0)) p1.isList p2.isList hu (fun j h1 h2 => by
    obtain ⟨t, et⟩ := at1 j h1
    obtain ⟨t', et'⟩ := at2 j h2
    rw [et, et']
    have z : (ns.getD j 0 == ms.getD j 0) = decide (ns.getD j 0 = ms.getD j 0) := by
      by_cases q : ns.getD j 0 = ms.getD j 0
      · rw [decide_eq_true q]; exact beq_iff_eq.mpr q
      · rw [decide_eq_false q]; exact beq_eq_false_iff_ne.mpr q
    rw [← z]
    exact SeqAt.EqAt.int_int _ _ _ _) (fun j h1 h2 _ => by
    obtain ⟨t, et⟩ := at1 j h1
    obtain ⟨t', et'⟩ := at2 j h2
    rw [et, et']
    exact fun _ _ _ _ h => PyProof.Rows.ge_int h)
  rw [e1, e2] at R
  have z : wpAny (model X.prog X.w) X.A (compareOp .GtE (.ref a) (.ref b)) (EP X pins σ Q) X.xe s := R X.prog X.w X.xe (EP X pins σ Q) ⟨.bl _, H, I, rfl, q⟩
  exact z
theorem firstLt_at {e r : Nat → Bool} {fin : Bool} {i : Nat} {l2 : List Nat} (hi : e i = false) : ∀ l1 : List Nat, (∀ j ∈ l1, e j = true) → SeqAt.firstLt e r fin (l1 ++ i :: l2) = r i
  | [], _ => SeqAt.firstLt_no hi
  | j :: t, h => by
    rw [List.cons_append, SeqAt.firstLt_yes (h j List.mem_cons_self)]
    exact firstLt_at hi t fun x hx => h x (List.mem_cons_of_mem _ hx)
section
variable {K : PySem.W.Frag} {H : Hp} {Q : VK} {p q : Addr} {ns ms : List Int}
theorem up_geL (h1 : SqL K H p (ns.map V.int)) (h2 : SqL K H q (ms.map V.int)) (k : Up (Q (.bl (geLs ns ms))) H) : Up (fun H1 => rGeL K (.ref p) (.ref q) H1 Q) H := fun H1 e => ⟨p, q, ns, ms, rfl, rfl, sq_up e h1, sq_up e h2, k H1 e⟩
theorem up_sortedI (h : SqL K H p (ns.map V.int)) (k : ∀ ns' : List Int, ns'.Perm ns → ns'.Pairwise (· ≤ ·) → ∀ p, H p = none → Up (Q (.ref p)) (upd H p (.lst (ns'.map V.int)))) : Up (blK (rSortedI K) Q [.ref p]) H := fun H1 e =>
  ⟨p, ns, rfl, sq_up e h, fun ns' p h1 h2 hp => k ns' h1 h2 p (e.free hp) _ (same_upd e)⟩
end
end Kp

namespace Kp
open PySem L2
def cell (ns : List Int) (k : Int) : Int := ns.getD k.toNat 0
/-! ### rows -/
def rv : Option Nat → V
  | none => .non
  | some k => .int k
theorem rv_at {row : List (Option Nat)} {i : Nat} {z : Int} (e : z = i) (h : i < row.length) : atI (row.map rv) z = some (rv row[i]) := at_of e (by rw [List.getElem?_map, List.getElem?_eq_getElem h]; rfl)
/-- too near -/
def Pc (row : List (Option Nat)) (apart : Int) (a b : Nat) : Prop := a < b ∧ ∃ k, row[a]? = some (some k) ∧ row[b]? = some (some k) ∧ (b : Int) - a - 1 < apart
def First (row : List (Option Nat)) (apart : Int) : Option (Nat × Nat) → Prop
  | none => ∀ a b, ¬ Pc row apart a b
  | some (a, b) => Pc row apart a b ∧ ∀ a' b', Pc row apart a' b' → b < b' ∨ (b = b' ∧ a' ≤ a)
theorem First.one {row : List (Option Nat)} {apart : Int} : ∀ {r r' : Option (Nat × Nat)}, First row apart r → First row apart r' → r = r'
  | none, none, _, _ => rfl
  | none, some (a, b), h, h' => absurd h'.1 (h a b)
  | some (a, b), none, h, h' => absurd h.1 (h' a b)
  | some (a, b), some (c, d), h, h' => by
    have h1 := h.2 _ _ h'.1
    have h2 := h'.2 _ _ h.1
    have e1 : b = d := by omega
    have e2 : a = c := by omega
    rw [e1, e2]
def clRes (H : Hp) (Q : VK) : Option (Nat × Nat) → Prop
  | none => Up (Q .non) H
  | some (a, b) => ∀ p, H p = none → Up (Q (.ref p)) (upd H p (.tup [.int a, .int b]))

end Kp
namespace Kp
open PySem L2
/-! ### how often each kind stands in a row -/
def cntL (n : Nat) (row : List (Option Nat)) : List Int := (List.range n).map fun k => ((row.count (some k) : Nat) : Int)
theorem cntL_len (n : Nat) (row : List (Option Nat)) : (cntL n row).length = n := by simp [cntL]
theorem cntL_nil (n : Nat) : (List.replicate ((n : Nat) : Int).toNat [V.int 0]).flatten = (cntL n ([] : List (Option Nat))).map V.int := by
  have e : ((n : Nat) : Int).toNat = n := by simp
  rw [e]
  unfold cntL
  rw [List.map_map]
  have h : ∀ m : Nat, (List.replicate m [V.int 0]).flatten = List.replicate m (V.int 0) := fun m => by
    induction m with
    | zero => rfl
    | succ m ih => rw [List.replicate_succ, List.flatten_cons, ih]; rfl
  rw [h]
  refine List.ext_getElem (by simp) fun i h1 h2 => ?_
  simp
theorem cntL_at {n k : Nat} {row : List (Option Nat)} (h : k < n) : ((cntL n row).map V.int)[k]? = some (.int (row.count (some k) : Nat)) := by
  unfold cntL
  rw [List.map_map, List.getElem?_map, List.getElem?_range h]
  rfl
theorem cntL_none (n : Nat) (row : List (Option Nat)) : cntL n (row ++ [none]) = cntL n row := by
  unfold cntL
  refine List.map_congr_left fun k _ => ?_
  simp [List.count_append]
theorem cntL_some {n m : Nat} {row : List (Option Nat)} (h : m < n) : (cntL n row).set m ((row.count (some m) : Nat) + 1 : Int) = cntL n (row ++ [some m]) := by
  refine List.ext_getElem (by simp [cntL]) fun i h1 h2 => ?_
  have hi : i < n := by simpa [cntL] using h2
  rw [List.getElem_set]
  by_cases e : m = i
  · subst e
    rw [if_pos rfl]
    simp [cntL, List.count_append]
  · rw [if_neg e]
    have e2 : ¬ (some m : Option Nat) = some i := fun z => e (Option.some.inj z)
    simp [cntL, List.count_append, List.count_singleton, e2, e]
theorem map_int_inj : ∀ {xs ys : List Int}, xs.map V.int = ys.map V.int → xs = ys
  | [], [], _ => rfl
  | [], _ :: _, h => by cases h
  | _ :: _, [], h => by cases h
  | x :: xs, y :: ys, h => by
    rw [List.map_cons, List.map_cons] at h
    obtain ⟨h1, h2⟩ := List.cons.inj h
    rw [V.int.inj h1, map_int_inj h2]
/-- a row keeps a wish -/
def Keeps (xs : List Int) (a : Int) (row : List (Option Nat)) : Prop := (∀ k, some k ∈ row → k < xs.length) ∧ cntL xs.length row = xs ∧ ∀ i j, ¬ Pc row a i j
theorem cnt_rv (k : Nat) : ∀ row : List (Option Nat), (row.map rv).countP (fun z => eqV z (.int k)) = row.count (some k)
  | [] => rfl
  | o :: r => by
    rw [List.map_cons, List.countP_cons, cnt_rv k r, List.count_cons]
    congr 1
    cases o with
    | none => rfl
    | some m =>
      show (if ((m : Int) == (k : Int)) = true then 1 else 0) = if (some m == some k) = true then 1 else 0
      by_cases e : m = k
      · subst e; simp
      · have : ¬ (m : Int) = k := by omega
        simp [e, this]
theorem rv_flatV (row : List (Option Nat)) : (row.map rv).all flatV = true := by
  rw [List.all_map, List.all_eq_true]
  exact fun o _ => by cases o <;> rfl
theorem int_flatV (ns : List Int) : (ns.map V.int).all flatV = true := by
  rw [List.all_map, List.all_eq_true]
  exact fun o _ => rfl
def countsOf (ns : List Int) (first kinds most : Int) : List Int := (List.range kinds.toNat).map fun k => cell ns (first + (k : Nat)) % (most + 1)
theorem countsOf_len (ns : List Int) (first kinds most : Int) : (countsOf ns first kinds most).length = kinds.toNat := by simp [countsOf]
theorem countsOf_mem {ns : List Int} {first kinds most : Int} (h : 0 ≤ most) : ∀ x ∈ countsOf ns first kinds most, 0 ≤ x ∧ x ≤ most := fun x hx => by
  obtain ⟨k, _, rfl⟩ := List.mem_map.mp hx
  have h1 := Int.emod_nonneg (cell ns (first + (k : Nat))) (show most + 1 ≠ 0 by omega)
  have h2 := Int.emod_lt_of_pos (cell ns (first + (k : Nat))) (show 0 < most + 1 by omega)
  omega

end Kp
namespace Kp
open PySem L2
/-! ### the law's own row: how long its loop runs -/
def tn (row : List (Option Nat)) : Nat := (row.reverse.takeWhile fun o => o.isNone).length
theorem tn_none (row : List (Option Nat)) : tn (row ++ [none]) = tn row + 1 := by
  unfold tn
  rw [List.reverse_append]
  rfl
theorem take_none : ∀ (l : List (Option Nat)) (a m : Nat), some m ∈ l.take a → (l.takeWhile fun o => o.isNone).length < a
  | [], _, _, h => by simp at h
  | _ :: _, 0, _, h => by simp at h
  | o :: r, a + 1, m, h => by
    rw [List.take_succ_cons] at h
    cases o with
    | some k => simp
    | none =>
      rw [List.takeWhile_cons_of_pos (by rfl), List.length_cons]
      rcases List.mem_cons.mp h with h | h
      · cases h
      · have := take_none r a m h
        omega
theorem tn_near {row : List (Option Nat)} {a m : Nat} (h : some m ∈ row.drop (row.length - a)) : tn row < a := by
  refine take_none _ a m ?_
  rw [List.take_reverse, List.mem_reverse]
  exact h
theorem sum_set : ∀ {xs : List Int} {k : Nat} {x y : Int}, xs[k]? = some x → (xs.set k y).sum = xs.sum - x + y
  | [], _, _, _, h => by simp at h
  | z :: r, 0, x, y, h => by
    have e : z = x := Option.some.inj h
    subst e
    rw [List.set_cons_zero, List.sum_cons, List.sum_cons]
    omega
  | z :: r, k + 1, x, y, h => by
    rw [List.getElem?_cons_succ] at h
    rw [List.set_cons_succ, List.sum_cons, List.sum_cons, sum_set h]
    omega
theorem sum_nn : ∀ {xs : List Int}, (∀ x ∈ xs, 0 ≤ x) → 0 ≤ xs.sum
  | [], _ => Int.le_refl _
  | z :: r, h => by
    have h1 := h z List.mem_cons_self
    have h2 := sum_nn fun x hx => h x (List.mem_cons_of_mem _ hx)
    rw [List.sum_cons]
    omega
theorem sum_le {b : Int} : ∀ {xs : List Int}, (∀ x ∈ xs, x ≤ b) → xs.sum ≤ xs.length * b
  | [], _ => by simp
  | z :: r, h => by
    have h1 := h z List.mem_cons_self
    have h2 := sum_le (b := b) fun x hx => h x (List.mem_cons_of_mem _ hx)
    rw [List.sum_cons, List.length_cons]
    push_cast
    rw [Int.add_mul]
    omega
theorem sum_pos : ∀ {xs : List Int}, 0 < xs.sum → ∃ k : Nat, ∃ x, xs[k]? = some x ∧ 0 < x
  | [], h => by simp at h
  | z :: r, h => by
    by_cases hz : 0 < z
    · exact ⟨0, z, rfl, hz⟩
    · rw [List.sum_cons] at h
      obtain ⟨k, x, h1, h2⟩ := sum_pos (xs := r) (by omega)
      exact ⟨k + 1, x, h1, h2⟩
theorem in_rv (k : Nat) : ∀ row : List (Option Nat), inV (.int (k : Int)) (row.map rv) = decide (some k ∈ row)
  | [] => rfl
  | o :: r => by
    have ih := in_rv k r
    unfold inV at ih ⊢
    rw [List.map_cons, List.any_cons, ih]
    cases o with
    | none =>
      have e : decide (some k ∈ none :: r) = decide (some k ∈ r) := decide_eq_decide.mpr (by simp)
      rw [e]
      rfl
    | some m =>
      show (((m : Int) == (k : Int)) || _) = _
      by_cases e : m = k
      · subst e
        simp
      · have h1 : ((m : Int) == (k : Int)) = false := by simp; omega
        have h2 : decide (some k ∈ some m :: r) = decide (some k ∈ r) := decide_eq_decide.mpr (by simp [Ne.symm e])
        rw [h1, h2]
        rfl
/-- the kinds that may come now -/
def somes (xs : List Int) (near : List (Option Nat)) (n : Nat) : List Nat := (List.range n).filter fun k => decide (0 < xs.getD k 0) && !decide (some k ∈ near)
theorem somes_succ (xs : List Int) (near : List (Option Nat)) (n : Nat) : somes xs near (n + 1) = somes xs near n ++ (if (decide (0 < xs.getD n 0) && !decide (some n ∈ near)) = true then [n] else []) := by
  unfold somes
  rw [List.range_succ, List.filter_append]
  simp only [List.filter_cons, List.filter_nil]
theorem somes_len (xs : List Int) (near : List (Option Nat)) (n : Nat) : (somes xs near n).length ≤ n := by
  unfold somes
  exact Nat.le_trans (List.length_filter_le _ _) (by simp)
theorem cut_near (row : List (Option Nat)) (a : Int) (h : 0 ≤ a) : cutV (row.map rv) (some (max 0 ((row.length : Int) - a))) none = (row.drop (row.length - a.toNat)).map rv := by
  have e : max 0 ((row.length : Int) - a) = ((row.length - a.toNat : Nat) : Int) := by omega
  rw [e]
  unfold cutV
  have h1 : HT.sIx (row.map rv).length 0 (some ((row.length - a.toNat : Nat) : Int)) = row.length - a.toNat := by
    rw [HT.sIx_nat, List.length_map]
    omega
  have h2 : HT.sIx (row.map rv).length (row.map rv).length none = row.length := by
    rw [List.length_map]; rfl
  rw [h1, h2, ← List.map_drop, ← List.map_take, List.take_of_length_le]
  rw [List.length_drop]
  omega
theorem nat_int_map (ks : List Nat) : (ks.map fun (k : Nat) => V.int (k : Int)) = (ks.map fun (k : Nat) => (k : Int)).map V.int := by
  rw [List.map_map]; rfl
theorem er_map {α β : Type} (f : α → β) : ∀ (l : List α) (j : Nat), (l.map f).eraseIdx j = (l.eraseIdx j).map f
  | [], _ => rfl
  | _ :: _, 0 => rfl
  | x :: r, j + 1 => by
    rw [List.map_cons, List.eraseIdx_cons_succ, List.eraseIdx_cons_succ, er_map f r j, List.map_cons]

end Kp
namespace Kp
open PySem L2
/-! ### what forces the least length -/
def ksOf (xs : List Int) (m : Int) (n : Nat) : List Nat := (List.range n).filter fun k => decide (xs.getD k 0 = m)
theorem ksOf_succ (xs : List Int) (m : Int) (n : Nat) : ksOf xs m (n + 1) = ksOf xs m n ++ (if decide (xs.getD n 0 = m) = true then [n] else []) := by
  unfold ksOf
  rw [List.range_succ, List.filter_append]
  simp only [List.filter_cons, List.filter_nil]
theorem ksOf_len (xs : List Int) (m : Int) (n : Nat) : (ksOf xs m n).length ≤ n := by
  unfold ksOf
  exact Nat.le_trans (List.length_filter_le _ _) (by simp)
def frK (xs : List Int) (m : Int) : List Nat := if m = 0 then [] else ksOf xs m xs.length
def frN (xs : List Int) (a m : Int) : Int := if m = 0 then 0 else (m - 1) * (a + 1) + (ksOf xs m xs.length).length
def Gr (xs : List Int) (m : Int) : Prop := m ∈ xs ∧ ∀ y ∈ xs, y ≤ m
theorem Gr.one {xs : List Int} {m m' : Int} (h : Gr xs m) (h' : Gr xs m') : m = m' := by
  have h1 := h.2 _ h'.1
  have h2 := h'.2 _ h.1
  omega
def vk (ks : List Nat) : List V := ks.map fun (k : Nat) => V.int (k : Int)
theorem vk_flat (ks : List Nat) : (vk ks).all flat0 = true := by
  unfold vk
  rw [List.all_map, List.all_eq_true]
  exact fun _ _ => rfl
theorem vk_app (a b : List Nat) : vk (a ++ b) = vk a ++ vk b := List.map_append
theorem vk_len (a : List Nat) : (vk a).length = a.length := List.length_map _
/-- what a force is, told by the law's own way and by the program -/
def FoAt (H H' : Hp) (t : Addr) (xs : List Int) (a m : Int) : Prop := (frN xs a m ≤ xs.sum ∧ H' t = some (.tup [.str (Str.ofString "things"), .int xs.sum])) ∨
  (xs.sum < frN xs a m ∧ ∃ k, H k = none ∧ H' k = some (.lst (vk (frK xs m))) ∧ H' t = some (.tup [.str (Str.ofString "frame"), .ref k, .int (frN xs a m)]))
theorem sum_zero {xs : List Int} (h0 : ∀ x ∈ xs, 0 ≤ x) (h1 : ∀ x ∈ xs, x ≤ 0) : xs.sum = 0 := by
  have a := sum_nn h0
  have b := sum_le (b := 0) h1
  omega

end Kp
namespace Kp
open PySem L2
/-! ### a line: who stands where -/
def Mr (row : List (Option Nat)) (k j : Nat) : Prop := row[j]? = some (some k)
def IsLast (M : Nat → Nat → Prop) (k : Nat) : Option Nat → Prop
  | none => ∀ j, ¬ M k j
  | some m => M k m ∧ ∀ j, M k j → j ≤ m
theorem IsLast.one {M : Nat → Nat → Prop} {k : Nat} : ∀ {o o' : Option Nat}, IsLast M k o → IsLast M k o' → o = o'
  | none, none, _, _ => rfl
  | none, some m, h, h' => absurd h'.1 (h m)
  | some m, none, h, h' => absurd h.1 (h' m)
  | some m, some m', h, h' => by
    have := h.2 _ h'.1
    have := h'.2 _ h.1
    rw [show m = m' by omega]
def startOf (a : Int) : Option Nat → Nat
  | none => 0
  | some m => m + a.toNat + 1
def Placed (M : Nat → Nat → Prop) (s pl : Nat) : Prop := s ≤ pl ∧ (∀ k, ¬ M k pl) ∧ ∀ j, s ≤ j → j < pl → ∃ k, M k j
theorem Placed.one {M : Nat → Nat → Prop} {s pl pl' : Nat} (h : Placed M s pl) (h' : Placed M s pl') : pl = pl' := by
  rcases Nat.lt_trichotomy pl pl' with z | z | z
  · obtain ⟨k, hk⟩ := h'.2.2 pl h.1 z
    exact absurd hk (h.2.1 k)
  · exact z
  · obtain ⟨k, hk⟩ := h.2.2 pl' h'.1 z
    exact absurd hk (h'.2.1 k)
def Mc (cs : Cs) (k j : Nat) : Prop := (k, j) ∈ cs
structure RowIs (cs : Cs) (row : List (Option Nat)) : Prop where
  mem : ∀ k j, (k, j) ∈ cs ↔ row[j]? = some (some k)
  trim : row = [] ∨ ∃ k, row[row.length - 1]? = some (some k)
theorem RowIs.eq {cs : Cs} {row : List (Option Nat)} (h : RowIs cs row) : Mc cs = Mr row := by
  funext k j
  exact propext (h.mem k j)
theorem RowIs.le {cs : Cs} {row row' : List (Option Nat)} (h : RowIs cs row) (h' : RowIs cs row') : row.length ≤ row'.length := by
  rcases h.trim with e | ⟨k, e⟩
  · rw [e]; exact Nat.zero_le _
  · have e2 := (h'.mem k _).mp ((h.mem k _).mpr e)
    have := (List.getElem?_eq_some_iff.mp e2).1
    omega
theorem RowIs.one {cs : Cs} {row row' : List (Option Nat)} (h : RowIs cs row) (h' : RowIs cs row') : row = row' := by
  have el : row.length = row'.length := Nat.le_antisymm (h.le h') (h'.le h)
  refine List.ext_getElem el fun i h1 h2 => ?_
  cases e : row[i] with
  | some k =>
    have := (h'.mem k i).mp ((h.mem k i).mpr (by rw [List.getElem?_eq_getElem h1, e]))
    rw [List.getElem?_eq_getElem h2] at this
    exact (Option.some.inj this).symm
  | none =>
    cases e2 : row'[i] with
    | none => rfl
    | some k =>
      have := (h.mem k i).mp ((h'.mem k i).mpr (by rw [List.getElem?_eq_getElem h2, e2]))
      rw [List.getElem?_eq_getElem h1, e] at this
      cases this
theorem RowIs.nil : RowIs [] [] := ⟨fun k j => by simp, .inl rfl⟩
/-- one thing more -/
def putRow (row : List (Option Nat)) (k pl : Nat) : List (Option Nat) := (row ++ List.replicate (pl + 1 - row.length) none).set pl (some k)
theorem putRow_len (row : List (Option Nat)) (k pl : Nat) : (putRow row k pl).length = max row.length (pl + 1) := by
  unfold putRow
  rw [List.length_set, List.length_append, List.length_replicate]
  omega
theorem putRow_at (row : List (Option Nat)) (k pl : Nat) (j : Nat) : (putRow row k pl)[j]? = if j = pl then some (some k) else if j < row.length then row[j]? else if j < pl + 1 then some none else none := by
  unfold putRow
  rw [List.getElem?_set]
  by_cases e : pl = j
  · subst e
    rw [if_pos rfl, if_pos rfl, if_pos]
    rw [List.length_append, List.length_replicate]
    omega
  · rw [if_neg e, if_neg (Ne.symm e)]
    by_cases h : j < row.length
    · rw [if_pos h, List.getElem?_append_left h]
    · rw [if_neg h, List.getElem?_append_right (by omega), List.getElem?_replicate]
      by_cases h2 : j < pl + 1
      · rw [if_pos (by omega), if_pos h2]
      · rw [if_neg (by omega), if_neg h2]
theorem RowIs.put {cs : Cs} {row : List (Option Nat)} (h : RowIs cs row) {k pl : Nat} (hf : ∀ k, ¬ Mc cs k pl) : RowIs (cs ++ [(k, pl)]) (putRow row k pl) := by
  constructor
  · intro k' j
    rw [putRow_at, List.mem_append, List.mem_singleton]
    by_cases e : j = pl
    · subst e
      rw [if_pos rfl]
      constructor
      · rintro (z | z)
        · exact absurd z (hf k')
        · cases z; rfl
      · intro z
        right
        have := Option.some.inj (Option.some.inj z)
        rw [this]
    · rw [if_neg e]
      have e2 : ¬ (k', j) = (k, pl) := fun z => e (congrArg Prod.snd z)
      rw [h.mem]
      constructor
      · rintro (z | z)
        · rw [if_pos (List.getElem?_eq_some_iff.mp z).1]; exact z
        · exact absurd z e2
      · intro z
        left
        by_cases h1 : j < row.length
        · rw [if_pos h1] at z; exact z
        · rw [if_neg h1] at z
          split at z <;> cases z
  · right
    rw [putRow_len, putRow_at]
    by_cases hl : row.length ≤ pl + 1
    · refine ⟨k, ?_⟩
      rw [if_pos (by omega)]
    · rcases h.trim with e | ⟨k', e⟩
      · rw [e] at hl
        simp at hl
      · refine ⟨k', ?_⟩
        have e1 : max row.length (pl + 1) - 1 = row.length - 1 := by omega
        rw [e1, if_neg (by omega), if_pos (by omega)]
        exact e
/-! ### the line's dict -/
theorem valV_kvOf (j : Nat) : ∀ cs : Cs, valV (kvOf cs) (Sum.inl (j : Int) : Key) = (cs.find? fun c => decide (c.2 = j)).map fun c => V.int (c.1 : Int)
  | [] => rfl
  | c :: r => by
    have ih := valV_kvOf j r
    unfold valV kvOf at ih ⊢
    rw [List.map_cons, List.find?_cons, List.find?_cons]
    by_cases e : c.2 = j
    · have e1 : decide ((Sum.inl (c.2 : Int) : Key) = Sum.inl (j : Int)) = true := decide_eq_true (by rw [e])
      rw [e1, decide_eq_true e]
      rfl
    · have e1 : decide ((Sum.inl (c.2 : Int) : Key) = Sum.inl (j : Int)) = false := decide_eq_false fun z => e (by have := Sum.inl.inj z; omega)
      rw [e1, decide_eq_false e]
      exact ih
theorem find_some {cs : Cs} {j : Nat} (nd : (cs.map Prod.snd).Nodup) {k : Nat} (h : (k, j) ∈ cs) : (cs.find? fun c => decide (c.2 = j)) = some (k, j) := by
  induction cs with
  | nil => cases h
  | cons c r ih =>
    rw [List.map_cons, List.nodup_cons] at nd
    rw [List.find?_cons]
    by_cases e : c.2 = j
    · rw [decide_eq_true e]
      rcases List.mem_cons.mp h with z | z
      · rw [z]
      · exact absurd (List.mem_map.mpr ⟨(k, j), z, e.symm⟩) nd.1
    · rw [decide_eq_false e]
      rcases List.mem_cons.mp h with z | z
      · exact absurd (by rw [← z]) e
      · exact ih nd.2 z
theorem find_none {cs : Cs} {j : Nat} (h : ∀ k, (k, j) ∉ cs) : (cs.find? fun c => decide (c.2 = j)) = none := by
  rw [List.find?_eq_none]
  intro c hc
  simp only [decide_eq_true_eq]
  intro e
  exact h c.1 (by rw [← e]; exact hc)
theorem find_iff {cs : Cs} {j : Nat} : ((cs.find? fun c => decide (c.2 = j)).isSome = true) ↔ ∃ k, (k, j) ∈ cs := by
  rw [List.find?_isSome]
  constructor
  · rintro ⟨c, h1, h2⟩
    have := of_decide_eq_true h2
    exact ⟨c.1, by rw [← this]; exact h1⟩
  · rintro ⟨k, h⟩
    exact ⟨_, h, decide_eq_true rfl⟩
theorem valV_isSome (cs : Cs) (j : Nat) : (valV (kvOf cs) (Sum.inl (j : Int) : Key)).isSome = true ↔ ∃ k, (k, j) ∈ cs := by
  rw [valV_kvOf, Option.isSome_map]
  exact find_iff
theorem valV_row {cs : Cs} {row : List (Option Nat)} (h : RowIs cs row) (nd : (cs.map Prod.snd).Nodup) {j : Nat} (hj : j < row.length) : (valV (kvOf cs) (Sum.inl (j : Int) : Key)).getD .non = rv row[j] := by
  rw [valV_kvOf]
  cases e : row[j] with
  | some k =>
    rw [find_some nd ((h.mem k j).mpr (by rw [List.getElem?_eq_getElem hj, e]))]
    rfl
  | none =>
    rw [find_none fun k hk => by
      have := (h.mem k j).mp hk
      rw [List.getElem?_eq_getElem hj, e] at this
      cases this]
    rfl
theorem put_kvOf {cs : Cs} {k pl : Nat} (hf : ∀ k, (k, pl) ∉ cs) : putK (kvOf cs) (Sum.inl (pl : Int) : Key) (V.int (k : Int)) = kvOf (cs ++ [(k, pl)]) := by
  unfold putK
  rw [if_neg]
  · unfold kvOf
    rw [List.map_append]
    rfl
  · rw [Bool.not_eq_true, List.any_eq_false]
    intro kv hkv
    obtain ⟨c, hc, rfl⟩ := List.mem_map.mp hkv
    simp only [decide_eq_true_eq]
    intro z
    have e : c.2 = pl := by have := Sum.inl.inj z; omega
    exact hf c.1 (by rw [← e]; exact hc)
theorem keys_kvOf (cs : Cs) : (kvOf cs).map Prod.fst = (cs.map fun c => (c.2 : Int)).map Sum.inl := by
  unfold kvOf
  rw [List.map_map, List.map_map]
  rfl
/-- the row that belongs to things that came -/
theorem RowIs.exN : ∀ (n : Nat) {cs : Cs}, cs.length = n → (cs.map Prod.snd).Nodup → ∃ row, RowIs cs row
  | 0, cs, h, _ => by
    rw [List.eq_nil_of_length_eq_zero h]
    exact ⟨[], RowIs.nil⟩
  | n + 1, cs, h, nd => by
    have hne : cs ≠ [] := fun z => by rw [z] at h; cases h
    have e := List.dropLast_concat_getLast hne
    generalize cs.getLast hne = c at e
    rw [← e, List.map_append, List.nodup_append] at nd
    obtain ⟨row, hr⟩ := RowIs.exN n (cs := cs.dropLast) (by rw [List.length_dropLast]; omega) nd.1
    refine ⟨putRow row c.1 c.2, ?_⟩
    rw [← e]
    refine hr.put fun k hk => ?_
    exact nd.2.2 c.2 (List.mem_map.mpr ⟨(k, c.2), hk, rfl⟩) c.2 (by simp) rfl
theorem RowIs.ex {cs : Cs} (nd : (cs.map Prod.snd).Nodup) : ∃ row, RowIs cs row := RowIs.exN _ rfl nd
theorem RowIs.top {cs : Cs} {row : List (Option Nat)} (h : RowIs cs row) {m : Int} (h1 : m ∈ cs.map fun c => (c.2 : Int)) (h2 : ∀ y ∈ cs.map (fun c => (c.2 : Int)), y ≤ m) : (row.length : Int) = m + 1 := by
  obtain ⟨c, hc, e⟩ := List.mem_map.mp h1
  have b1 := (List.getElem?_eq_some_iff.mp ((h.mem c.1 c.2).mp hc)).1
  rcases h.trim with e2 | ⟨k, e2⟩
  · rw [e2] at b1; simp at b1
  · have := h2 _ (List.mem_map.mpr ⟨(k, row.length - 1), (h.mem _ _).mpr e2, rfl⟩)
    simp only at this
    omega
theorem RowIs.none {row : List (Option Nat)} (h : RowIs [] row) : row = [] := RowIs.one h RowIs.nil
/-! ### what is the last of its kind, and the place: there is one -/
theorem last_below (M : Nat → Nat → Prop) (k : Nat) : ∀ n, (∃ m, m < n ∧ M k m ∧ ∀ j, j < n → M k j → j ≤ m) ∨ ∀ j, j < n → ¬ M k j
  | 0 => .inr fun j h => absurd h (Nat.not_lt_zero j)
  | n + 1 => by
    by_cases h : M k n
    · exact .inl ⟨n, Nat.lt_succ_self n, h, fun j hj _ => by omega⟩
    · rcases last_below M k n with ⟨m, h1, h2, h3⟩ | h3
      · refine .inl ⟨m, by omega, h2, fun j hj hm => ?_⟩
        by_cases e : j = n
        · exact absurd (e ▸ hm) h
        · exact h3 j (by omega) hm
      · refine .inr fun j hj hm => ?_
        by_cases e : j = n
        · exact h (e ▸ hm)
        · exact h3 j (by omega) hm
theorem Mr_lt {row : List (Option Nat)} {k j : Nat} (h : Mr row k j) : j < row.length := (List.getElem?_eq_some_iff.mp h).1
theorem IsLast.ex (row : List (Option Nat)) (k : Nat) : ∃ o, IsLast (Mr row) k o := by
  rcases last_below (Mr row) k row.length with ⟨m, h1, h2, h3⟩ | h3
  · exact ⟨some m, h2, fun j hj => h3 j (Mr_lt hj) hj⟩
  · exact ⟨none, fun j hj => h3 j (Mr_lt hj) hj⟩
theorem Placed.ex (row : List (Option Nat)) : ∀ (n s : Nat), row.length - s = n → ∃ pl, Placed (Mr row) s pl
  | 0, s, h => ⟨s, Nat.le_refl s, fun k hk => by have := Mr_lt hk; omega, fun j h1 h2 => by omega⟩
  | n + 1, s, h => by
    by_cases e : ∃ k, Mr row k s
    · obtain ⟨pl, h1, h2, h3⟩ := Placed.ex row n (s + 1) (by omega)
      refine ⟨pl, by omega, h2, fun j hj1 hj2 => ?_⟩
      by_cases ej : j = s
      · rw [ej]; exact e
      · exact h3 j (by omega) hj2
    · exact ⟨s, Nat.le_refl s, fun k hk => e ⟨k, hk⟩, fun j h1 h2 => by omega⟩
theorem Placed.le {row : List (Option Nat)} {s pl : Nat} (h : Placed (Mr row) s pl) : pl ≤ max s row.length := by
  rcases Nat.lt_or_ge (max s row.length) pl with z | z
  · obtain ⟨k, hk⟩ := h.2.2 (max s row.length) (Nat.le_max_left _ _) z
    have := Mr_lt hk
    omega
  · exact z
theorem start_le {row : List (Option Nat)} {k : Nat} {a : Int} : ∀ {o : Option Nat}, IsLast (Mr row) k o → startOf a o ≤ row.length + a.toNat
  | none, _ => Nat.zero_le _
  | some m, h => by
    have := Mr_lt h.1
    show m + a.toNat + 1 ≤ _
    omega
theorem last_put {row : List (Option Nat)} {k pl : Nat} {a : Int} : ∀ {o : Option Nat}, IsLast (Mr row) k o → Placed (Mr row) (startOf a o) pl → IsLast (Mr (putRow row k pl)) k (some pl) := by
  intro o ho hp
  refine ⟨by unfold Mr; rw [putRow_at, if_pos rfl], fun j hj => ?_⟩
  unfold Mr at hj
  rw [putRow_at] at hj
  by_cases e : j = pl
  · omega
  · rw [if_neg e] at hj
    split at hj
    · cases o with
      | none => exact absurd hj (ho j)
      | some m =>
        have h1 := ho.2 j hj
        have h2 := hp.1
        have h3 : startOf a (some m) = m + a.toNat + 1 := rfl
        omega
    · split at hj <;> cases hj
/-- what two lines and their rows are -/
def fu {α : Type} (f : Nat → α) (u : Nat) (x : α) : Nat → α := fun v => if v = u then x else f v
theorem fu_same {α : Type} (f : Nat → α) (u : Nat) (x : α) : fu f u x u = x := if_pos rfl
theorem fu_ne {α : Type} (f : Nat → α) {u v : Nat} (x : α) (h : v ≠ u) : fu f u x v = f v := if_neg h
structure St10 (C : Addr) (H1 H : Hp) (ln rr : Addr) (p dx d l w : Nat → Addr) (ap : Nat → Int) (cs : Nat → Cs) (row : Nat → List (Option Nat)) (n : Nat) : Prop where
  sm : Same H1 H
  fr : ∀ u, u < 2 → H1 (d u) = none ∧ H1 (l u) = none
  A : ∀ u, u < 2 → LineA C H (p u) (dx u) (d u) (l u) (ap u) (cs u)
  R : ∀ u, u < 2 → RowIs (cs u) (row u)
  W : ∀ u, u < 2 → H (w u) = some (.lst ((row u).map rv)) ∧ (∀ v, v < 2 → w u ≠ l v) ∧ w u ≠ rr
  n : ∀ u, u < 2 → (cs u).length ≤ n ∧ (row u).length ≤ 9 * n
  nd : ∀ u v, u < 2 → v < 2 → u ≠ v → d u ≠ d v ∧ l u ≠ l v
  hln : H ln = some (.lst [.ref (p 0), .ref (p 1)]) ∧ (∀ v, v < 2 → ln ≠ l v) ∧ ln ≠ rr
  hrr : H rr = some (.lst [.ref (w 0), .ref (w 1)]) ∧ (∀ v, v < 2 → rr ≠ l v) ∧ H1 rr = none
theorem St10.up {C : Addr} {H1 H H' : Hp} {ln rr : Addr} {p dx d l w : Nat → Addr} {ap : Nat → Int} {cs : Nat → Cs} {row : Nat → List (Option Nat)} {n : Nat} (h : St10 C H1 H ln rr p dx d l w ap cs row n) (e : Same H H') : St10 C H1 H' ln rr p dx d l w ap cs row n :=
  ⟨h.sm.trans e, h.fr, fun u hu => (h.A u hu).up e, h.R, fun u hu => ⟨e _ _ (h.W u hu).1, (h.W u hu).2⟩, h.n, h.nd, ⟨e _ _ h.hln.1, h.hln.2⟩, ⟨e _ _ h.hrr.1, h.hrr.2⟩⟩
theorem LineA.lst {C : Addr} {H : Hp} {p dx d l : Addr} {a : Int} {cs : Cs} (h : LineA C H p dx d l a cs) : ∃ xs, H l = some (.lst xs) := by
  obtain ⟨_, _, ⟨rs, _, h2, _⟩, _⟩ := h
  exact ⟨_, h2⟩
/-- a list that is not the line's own stands behind a put -/
theorem sbut_lst {C : Addr} {H H' : Hp} {p dx d l : Addr} {a : Int} {cs : Cs} (h : LineA C H p dx d l a cs) (e : Sbut d l H H') {b : Addr} {xs : List V} (hb : H b = some (.lst xs)) (hn : b ≠ l) : H' b = some (.lst xs) :=
  e b _ (fun z => by have := h.hd; rw [← z, hb] at this; cases this) hn hb
theorem sbut_same {H1 H H' : Hp} {d l : Addr} (s : Same H1 H) (hd : H1 d = none) (hl : H1 l = none) (e : Sbut d l H H') : Same H1 H' := fun b u hb =>
  e b u (fun z => by rw [z, hd] at hb; cases hb) (fun z => by rw [z, hl] at hb; cases hb) (s b u hb)
theorem St10.turn {C : Addr} {H1 H H' H2 : Hp} {ln rr : Addr} {p dx d l w : Nat → Addr} {ap : Nat → Int} {cs : Nat → Cs} {row : Nat → List (Option Nat)} {n u k pl : Nat} (h : St10 C H1 H ln rr p dx d l w ap cs row n) (hu : u < 2)
    {o : Option Nat} (ho : IsLast (Mr (row u)) k o) (hpl : Placed (Mr (row u)) (startOf (ap u) o) pl) (ha : 0 ≤ ap u ∧ ap u ≤ 8) (e : Sbut (d u) (l u) H H') (LA : LineA C H' (p u) (dx u) (d u) (l u) (ap u) (cs u ++ [(k, pl)]))
    {w' : Addr} (hw' : H' w' = none) (e2 : ∀ b v, b ≠ rr → H' b = some v → H2 b = some v) (hw2 : H2 w' = some (.lst ((putRow (row u) k pl).map rv))) (hr2 : H2 rr = some (.lst (List.set [V.ref (w 0), V.ref (w 1)] u (.ref w')))) :
    St10 C H1 H2 ln rr p dx d l (fu w u w') ap (fu cs u (cs u ++ [(k, pl)])) (fu row u (putRow (row u) k pl)) (n + 1) := by
  have A := h.A u hu
  have noL : ∀ {b : Addr} {xs}, H' b = some xs → b ≠ w' := fun hb z => by rw [z, hw'] at hb; cases hb
  have hrr' := sbut_lst A e h.hrr.1 (h.hrr.2.1 u hu)
  have hln' := sbut_lst A e h.hln.1 (h.hln.2.1 u hu)
  have Aup : ∀ v, v < 2 → ∀ cs', LineA C H' (p v) (dx v) (d v) (l v) (ap v) cs' → LineA C H2 (p v) (dx v) (d v) (l v) (ap v) cs' := fun v hv cs' B => by
    obtain ⟨hp, hd, ⟨rs, h1, h2, h3⟩, nd⟩ := B
    have nr : ∀ {b u}, H' b = some u → (∀ xs, u ≠ .lst xs) → b ≠ rr := fun hb c z => by rw [z, hrr'] at hb; exact c _ (Option.some.inj hb).symm
    exact ⟨e2 _ _ (nr hp fun _ z => by cases z) hp, e2 _ _ (nr hd fun _ z => by cases z) hd, ⟨rs, h1, e2 _ _ (Ne.symm (h.hrr.2.1 v hv)) h2, fun i r c q q2 => e2 _ _ (nr (h3 i r c q q2) fun _ z => by cases z) (h3 i r c q q2)⟩, nd⟩
  have hfr := h.fr u hu
  have hR := h.R u hu
  refine ⟨fun b v hb => ?_, h.fr, fun v hv => ?_, fun v hv => ?_, fun v hv => ?_, fun v hv => ?_, h.nd, ⟨e2 _ _ h.hln.2.2 hln', h.hln.2⟩, ⟨?_, h.hrr.2⟩⟩
  · refine e2 b v (fun z => ?_) (sbut_same h.sm hfr.1 hfr.2 e b v hb)
    rw [z, h.hrr.2.2] at hb
    cases hb
  · by_cases ev : v = u
    · subst ev
      rw [fu_same]
      exact Aup v hv _ LA
    · rw [fu_ne _ _ ev]
      have nn := h.nd v u hv hu ev
      exact Aup v hv _ ((h.A v hv).other nn.1 nn.2 ⟨_, A.hd⟩ A.lst e)
  · by_cases ev : v = u
    · subst ev
      rw [fu_same, fu_same]
      refine hR.put fun k' hk' => ?_
      rw [hR.eq] at hk'
      exact hpl.2.1 k' hk'
    · rw [fu_ne _ _ ev, fu_ne _ _ ev]
      exact h.R v hv
  · by_cases ev : v = u
    · subst ev
      rw [fu_same, fu_same]
      refine ⟨hw2, fun v' hv' z => ?_, fun z => noL hrr' z.symm⟩
      by_cases ev' : v' = v
      · obtain ⟨xs, hx⟩ := LA.lst
        exact noL hx (by rw [z, ev'])
      · have nn := h.nd v' v hv' hv ev'
        obtain ⟨xs, hx⟩ := ((h.A v' hv').other nn.1 nn.2 ⟨_, A.hd⟩ A.lst e).lst
        exact noL hx z.symm
    · rw [fu_ne _ _ ev, fu_ne _ _ ev]
      have hW := h.W v hv
      exact ⟨e2 _ _ hW.2.2 (sbut_lst A e hW.1 (hW.2.1 u hu)), hW.2⟩
  · have hn := h.n v hv
    by_cases ev : v = u
    · subst ev
      rw [fu_same, fu_same, putRow_len, List.length_append, List.length_singleton]
      have h1 := hpl.le
      have h2 := start_le (a := ap v) ho
      omega
    · rw [fu_ne _ _ ev, fu_ne _ _ ev]
      omega
  · rw [hr2]
    have : u = 0 ∨ u = 1 := by omega
    rcases this with z | z <;> subst z <;> rfl
theorem atI_two {x : Nat → V} {u : Nat} (hu : u < 2) : atI [x 0, x 1] ((u : Nat) : Int) = some (x u) := by
  have : u = 0 ∨ u = 1 := by omega
  rcases this with z | z <;> subst z <;> rfl
theorem rep_non (n : Nat) : (List.replicate n [V.non]).flatten = (List.replicate n (none : Option Nat)).map rv := by
  induction n with
  | zero => rfl
  | succ n ih => rw [List.replicate_succ, List.flatten_cons, ih]; rfl

end Kp
namespace Kp
open PySem L2
/-! ### a row that keeps a wish is no shorter than the least length -/
def Spaced (row : List (Option Nat)) (a : Int) : Prop := ∀ i j, ¬ Pc row a i j
theorem Spaced.tail {o : Option Nat} {r : List (Option Nat)} {a : Int} (h : Spaced (o :: r) a) : Spaced r a := fun i j ⟨h1, k, h2, h3, h4⟩ => h (i + 1) (j + 1) ⟨by omega, k, h2, h3, by push_cast; omega⟩
theorem first_of {a : Int} (ha : 0 ≤ a) (k : Nat) : ∀ (row : List (Option Nat)) (c : Nat), Spaced row a → row.count (some k) = c + 1 → ∃ p : Nat, row[p]? = some (some k) ∧ (p : Int) + (c : Int) * (a + 1) + 1 ≤ row.length
  | [], c, _, h => by simp at h
  | o :: r, c, hs, h => by
    by_cases e : o = some k
    · subst e
      rw [List.count_cons_self] at h
      refine ⟨0, rfl, ?_⟩
      cases c with
      | zero => rw [List.length_cons]; push_cast; omega
      | succ c =>
        obtain ⟨p, h1, h2⟩ := first_of ha k r c hs.tail (by omega)
        have h3 : ¬ ((p + 1 : Nat) : Int) - 0 - 1 < a := fun z => hs 0 (p + 1) ⟨by omega, k, rfl, h1, z⟩
        rw [List.length_cons]
        push_cast at h3 ⊢
        rw [Int.add_mul]
        omega
    · rw [List.count_cons_of_ne (by exact e)] at h
      obtain ⟨p, h1, h2⟩ := first_of ha k r c hs.tail h
      refine ⟨p + 1, h1, ?_⟩
      rw [List.length_cons]
      push_cast
      omega
theorem nodup_sub {α : Type} [DecidableEq α] : ∀ {ks l : List α}, ks.Nodup → (∀ x ∈ ks, x ∈ l) → ks.length ≤ l.length
  | [], _, _, _ => Nat.zero_le _
  | x :: ks, l, nd, h => by
    rw [List.nodup_cons] at nd
    have hx := h x List.mem_cons_self
    have h2 := nodup_sub (ks := ks) (l := l.erase x) nd.2 fun y hy => (List.mem_erase_of_ne (fun z => nd.1 (by rw [← z]; exact hy))).mpr (h y (List.mem_cons_of_mem _ hy))
    rw [List.length_erase_of_mem hx] at h2
    have := List.length_pos_of_mem hx
    rw [List.length_cons]
    omega
theorem cntL_cons (n : Nat) (o : Option Nat) (r : List (Option Nat)) : (cntL n (o :: r)).sum ≤ (cntL n r).sum + 1 := by
  induction n with
  | zero => simp [cntL]
  | succ n ih =>
    have e : ∀ r, (cntL (n + 1) r).sum = (cntL n r).sum + (r.count (some n) : Nat) := fun r => by
      unfold cntL
      rw [List.range_succ, List.map_append, List.sum_append]
      simp
    rw [e, e]
    by_cases h : o = some n
    · subst h
      have e2 : (cntL n (some n :: r)).sum = (cntL n r).sum := by
        unfold cntL
        congr 1
        refine List.map_congr_left fun k hk => ?_
        rw [List.count_cons_of_ne (by intro z; have := Option.some.inj z; have := List.mem_range.mp hk; omega)]
      rw [e2, List.count_cons_self]
      push_cast
      omega
    · rw [List.count_cons_of_ne (by exact h)]
      omega
theorem cntL_sum (n : Nat) : ∀ row : List (Option Nat), (cntL n row).sum ≤ row.length
  | [] => by
    have e : (cntL n ([] : List (Option Nat))).sum = 0 := by
      induction n with
      | zero => rfl
      | succ n ih =>
        unfold cntL at ih ⊢
        rw [List.range_succ, List.map_append, List.sum_append, ih]
        rfl
    rw [e]
    exact Int.le_refl _
  | o :: r => by
    have h1 := cntL_cons n o r
    have h2 := cntL_sum n r
    rw [List.length_cons]
    push_cast
    omega
theorem cntL_get {n k : Nat} {row : List (Option Nat)} (h : k < n) : (cntL n row).getD k 0 = (row.count (some k) : Nat) := by
  unfold cntL
  rw [List.getD_eq_getElem?_getD, List.getElem?_map, List.getElem?_range h]
  rfl
theorem frame_le {xs : List Int} {a m : Int} {row : List (Option Nat)} (ha : 0 ≤ a) (h : Keeps xs a row) (g : Gr xs m) (h0 : 0 ≤ m) : frN xs a m ≤ row.length := by
  unfold frN
  by_cases hz : m = 0
  · rw [if_pos hz]; omega
  · rw [if_neg hz]
    obtain ⟨_, hc, hs⟩ := h
    obtain ⟨c, hcm⟩ : ∃ c : Nat, m = (c : Int) + 1 := ⟨(m - 1).toNat, by omega⟩
    have hfirst : ∀ k ∈ ksOf xs m xs.length, ∃ p : Nat, row[p]? = some (some k) ∧ (p : Int) + (c : Int) * (a + 1) + 1 ≤ row.length := fun k hk => by
      obtain ⟨h1, h2⟩ := List.mem_filter.mp hk
      have hk1 := List.mem_range.mp h1
      have hk2 : xs.getD k 0 = m := of_decide_eq_true h2
      have hk3 := cntL_get (row := row) hk1
      rw [hc, hk2] at hk3
      exact first_of ha k row c hs (by omega)
    have hmul : 0 ≤ (c : Int) * (a + 1) := Int.mul_nonneg (by omega) (by omega)
    have e1 : m - 1 = (c : Int) := by omega
    rw [e1]
    have nd : (ksOf xs m xs.length).Nodup := List.nodup_range.filter _
    generalize ksOf xs m xs.length = ks at hfirst nd
    by_cases hne : ks = []
    · subst hne
      have hm := g.1
      obtain ⟨k, hk, e⟩ := List.mem_iff_getElem.mp hm
      have hk3 := cntL_get (row := row) hk
      rw [hc, List.getD_eq_getElem?_getD, List.getElem?_eq_getElem hk] at hk3
      obtain ⟨p, h1, h2⟩ := first_of ha k row c hs (by
        have : xs[k] = (row.count (some k) : Nat) := hk3
        omega)
      rw [List.length_nil]
      push_cast
      omega
    · have hL : ∃ Lm : Nat, (Lm : Int) = row.length - (c : Int) * (a + 1) := by
        obtain ⟨k, hk⟩ := List.exists_mem_of_ne_nil _ hne
        obtain ⟨p, h1, h2⟩ := hfirst k hk
        exact ⟨(row.length - (c : Int) * (a + 1)).toNat, by omega⟩
      obtain ⟨Lm, hLm⟩ := hL
      have hsub := nodup_sub (ks := ks.map some) (l := row.take Lm) (by
        refine List.Pairwise.map _ (fun a b h z => h (Option.some.inj z)) nd) fun x hx => by
        obtain ⟨k, hk, rfl⟩ := List.mem_map.mp hx
        obtain ⟨p, h1, h2⟩ := hfirst k hk
        refine List.mem_of_getElem? (i := p) ?_
        rw [List.getElem?_take_of_lt (by omega)]
        exact h1
      rw [List.length_map, List.length_take] at hsub
      omega
theorem least_le {xs : List Int} {a m : Int} {row : List (Option Nat)} (ha : 0 ≤ a) (h : Keeps xs a row) (g : Gr xs m) (h0 : 0 ≤ m) : max xs.sum (frN xs a m) ≤ row.length := by
  have h1 := frame_le ha h g h0
  have h2 := cntL_sum xs.length row
  rw [h.2.1] at h2
  omega
/-! ### a line's row keeps the wish of its things -/
theorem count_set_none : ∀ {l : List (Option Nat)} {i k k' : Nat}, l[i]? = some none → (l.set i (some k)).count (some k') = l.count (some k') + if k = k' then 1 else 0
  | [], _, _, _, h => by simp at h
  | o :: r, 0, k, k', h => by
    have e : o = none := Option.some.inj h
    subst e
    rw [List.set_cons_zero, List.count_cons, List.count_cons]
    by_cases e : k = k'
    · subst e; simp
    · simp [e]
  | o :: r, i + 1, k, k', h => by
    rw [List.getElem?_cons_succ] at h
    rw [List.set_cons_succ, List.count_cons, List.count_cons, count_set_none h]
    omega
theorem count_putRow {row : List (Option Nat)} {k pl : Nat} (h : ∀ k, ¬ Mr row k pl) (k' : Nat) : (putRow row k pl).count (some k') = row.count (some k') + if k = k' then 1 else 0 := by
  unfold putRow
  rw [count_set_none, List.count_append]
  · congr 1
    have : (List.replicate (pl + 1 - row.length) (none : Option Nat)).count (some k') = 0 := List.count_eq_zero.mpr fun h => by
      have := List.eq_of_mem_replicate h
      cases this
    omega
  · by_cases hl : pl < row.length
    · rw [List.getElem?_append_left hl, List.getElem?_eq_getElem hl]
      cases e : row[pl] with
      | none => rfl
      | some k0 => exact absurd (by unfold Mr; rw [List.getElem?_eq_getElem hl, e]) (h k0)
    · rw [List.getElem?_append_right (by omega), List.getElem?_replicate, if_pos (by omega)]
theorem cntL_putRow {row : List (Option Nat)} {k pl n : Nat} (h : ∀ k, ¬ Mr row k pl) (hk : k < n) : cntL n (putRow row k pl) = (cntL n row).set k ((row.count (some k) : Nat) + 1 : Int) := by
  rw [cntL_some hk]
  unfold cntL
  refine List.map_congr_left fun k' _ => ?_
  rw [count_putRow h, List.count_append]
  congr 2
  by_cases e : k = k'
  · subst e; simp
  · simp [e]
theorem Spaced.put {row : List (Option Nat)} {k pl : Nat} {a : Int} {o : Option Nat} (h : Spaced row a) (ha : 0 ≤ a) (ho : IsLast (Mr row) k o) (hpl : Placed (Mr row) (startOf a o) pl) : Spaced (putRow row k pl) a := by
  rintro i j ⟨hij, k', hi, hj, hd⟩
  have at_ : ∀ {b k'}, b ≠ pl → (putRow row k pl)[b]? = some (some k') → row[b]? = some (some k') := fun {b k'} hb h => by
    rw [putRow_at, if_neg hb] at h
    split at h
    · exact h
    · split at h <;> cases h
  have same : ∀ {k'}, (putRow row k pl)[pl]? = some (some k') → k' = k := fun h => by
    rw [putRow_at, if_pos rfl] at h
    exact (Option.some.inj (Option.some.inj h)).symm
  by_cases ei : i = pl
  · subst ei
    have ek := same hi
    subst ek
    have hj' := at_ (by omega) hj
    cases o with
    | none => exact ho j hj'
    | some m =>
      have h1 := ho.2 j hj'
      have h2 := hpl.1
      have h3 : startOf a (some m) = m + a.toNat + 1 := rfl
      omega
  · have hi' := at_ ei hi
    by_cases ej : j = pl
    · subst ej
      have ek := same hj
      subst ek
      cases o with
      | none => exact ho i hi'
      | some m =>
        have h1 := ho.2 i hi'
        have h2 := hpl.1
        have h3 : startOf a (some m) = m + a.toNat + 1 := rfl
        omega
    · exact h i j ⟨hij, k', hi', at_ ej hj, hd⟩
/-- who stands too near an empty place behind the start -/
theorem held_of {row : List (Option Nat)} {k j : Nat} {a : Int} {o : Option Nat} (ha : 0 ≤ a) (ho : IsLast (Mr row) k o) (hj : j < startOf a o) : ∃ m : Nat, max 0 ((j : Int) - a) ≤ m ∧ m < row.length ∧ row[m]? = some (some k) := by
  cases o with
  | none => exact absurd hj (Nat.not_lt_zero j)
  | some m =>
    have h3 : startOf a (some m) = m + a.toNat + 1 := rfl
    exact ⟨m, by omega, Mr_lt ho.1, ho.1⟩

end Kp
namespace Kp
open PySem L2
/-! ### things by their count -/
def before (xs : List Int) (i j : Nat) : Prop := xs.getD j 0 < xs.getD i 0 ∨ (xs.getD i 0 = xs.getD j 0 ∧ i < j)
def thingsOf (xs : List Int) (ks : List Nat) : List Nat := ks.flatMap fun k => List.replicate (xs.getD k 0).toNat k
theorem thingsOf_app (xs : List Int) (ks : List Nat) (k : Nat) : thingsOf xs (ks ++ [k]) = thingsOf xs ks ++ List.replicate (xs.getD k 0).toNat k := by
  unfold thingsOf
  rw [List.flatMap_append]
  simp
theorem rep_vk (n k : Nat) : (List.replicate n [V.int (k : Int)]).flatten = vk (List.replicate n k) := by
  induction n with
  | zero => rfl
  | succ n ih => rw [List.replicate_succ, List.flatten_cons, ih]; rfl
theorem thingsOf_len {xs : List Int} {b : Nat} (h : ∀ x ∈ xs, x ≤ b) : ∀ ks : List Nat, (thingsOf xs ks).length ≤ ks.length * b
  | [] => Nat.zero_le _
  | k :: r => by
    have ih := thingsOf_len h r
    have e : thingsOf xs (k :: r) = List.replicate (xs.getD k 0).toNat k ++ thingsOf xs r := rfl
    rw [e, List.length_append, List.length_replicate, List.length_cons, Nat.add_mul]
    have hk : (xs.getD k 0).toNat ≤ b := by
      rw [List.getD_eq_getElem?_getD]
      cases e : xs[k]? with
      | none => exact Nat.zero_le _
      | some x =>
        have := h x (List.mem_of_getElem? e)
        show x.toNat ≤ b
        omega
    omega

end Kp
namespace Kp
open PySem L2
/-! ### things dealt round robin into n blocks -/
def bk (blocks : List (List Nat)) (b : Nat) : List Nat := blocks[b]?.getD []
structure Spread (n : Nat) (rest : List Nat) (blocks : List (List Nat)) : Prop where
  len : blocks.length = n
  at_ : ∀ b j, b < n → (bk blocks b)[j]? = rest[j * n + b]?
theorem Spread.nil (n : Nat) : Spread n [] (List.replicate n []) := by
  refine ⟨by simp, fun b j hb => ?_⟩
  unfold bk
  rw [List.getElem?_replicate, if_pos hb]
  rfl
theorem mul_lt_of {n j q : Nat} (h : j < q) : j * n + n ≤ q * n := by
  have := Nat.mul_le_mul_right n (show j + 1 ≤ q from h)
  rw [Nat.add_mul] at this
  omega
/-- where the number b + j * n stands against q * n + r, both remainders small -/
theorem cmp_div {n j q b r : Nat} (hb : b < n) (hr : r < n) : (j * n + b < q * n + r ↔ j < q ∨ (j = q ∧ b < r)) := by
  constructor
  · intro h
    rcases Nat.lt_trichotomy j q with z | z | z
    · exact .inl z
    · subst z; exact .inr ⟨rfl, by omega⟩
    · have := mul_lt_of (n := n) z
      omega
  · rintro (z | ⟨z, h⟩)
    · have := mul_lt_of (n := n) z
      omega
    · subst z; omega
theorem eq_div {n j q b r : Nat} (hb : b < n) (hr : r < n) : (j * n + b = q * n + r ↔ j = q ∧ b = r) := by
  have h1 := cmp_div (j := j) (q := q) hb hr
  have h2 := cmp_div (j := q) (q := j) hr hb
  constructor
  · intro h
    have a : ¬ (j < q ∨ j = q ∧ b < r) := fun z => by have := h1.mpr z; omega
    have c : ¬ (q < j ∨ q = j ∧ r < b) := fun z => by have := h2.mpr z; omega
    omega
  · rintro ⟨rfl, rfl⟩; rfl
theorem Spread.blen {n : Nat} {rest : List Nat} {blocks : List (List Nat)} (h : Spread n rest blocks) (hn : 0 < n) {b : Nat} (hb : b < n) (j : Nat) : j < (bk blocks b).length ↔ j * n + b < rest.length := by
  have e := h.at_ b j hb
  constructor
  · intro hj
    rw [List.getElem?_eq_getElem hj] at e
    exact (List.getElem?_eq_some_iff.mp e.symm).1
  · intro hj
    rw [List.getElem?_eq_getElem hj] at e
    exact (List.getElem?_eq_some_iff.mp e).1
theorem Spread.step {n : Nat} {rest : List Nat} {blocks : List (List Nat)} (h : Spread n rest blocks) (hn : 0 < n) (k : Nat) : Spread n (rest ++ [k]) (blocks.set (rest.length % n) (bk blocks (rest.length % n) ++ [k])) := by
  have hat : rest.length % n < n := Nat.mod_lt _ hn
  have hR : rest.length = rest.length / n * n + rest.length % n := by
    have := Nat.div_add_mod rest.length n
    rw [Nat.mul_comm] at this
    omega
  have hblen : (bk blocks (rest.length % n)).length = rest.length / n := by
    have h1 := fun j => h.blen hn hat j
    have h2 : ∀ j, j < (bk blocks (rest.length % n)).length ↔ j < rest.length / n := fun j => by
      rw [h1 j]
      have c := cmp_div (n := n) (j := j) (q := rest.length / n) hat hat
      rw [← hR] at c
      rw [c]
      omega
    rcases Nat.lt_trichotomy (bk blocks (rest.length % n)).length (rest.length / n) with z | z | z
    · exact absurd ((h2 _).mpr z) (Nat.lt_irrefl _)
    · exact z
    · exact absurd ((h2 _).mp z) (Nat.lt_irrefl _)
  generalize hat' : rest.length % n = at' at *
  generalize hq : rest.length / n = q' at *
  refine ⟨by rw [List.length_set]; exact h.len, fun b j hb => ?_⟩
  have key : ∀ (x y : Option Nat), (∀ (hlt : j * n + b < rest.length), x = rest[j * n + b]?) → (j * n + b = rest.length → x = some k) → (rest.length < j * n + b → x = none) → x = (rest ++ [k])[j * n + b]? := fun x _ h1 h2 h3 => by
    rcases Nat.lt_trichotomy (j * n + b) rest.length with z | z | z
    · rw [List.getElem?_append_left z]; exact h1 z
    · rw [List.getElem?_append_right (by omega), z, Nat.sub_self]; exact h2 z
    · rw [List.getElem?_append_right (by omega), h3 z, List.getElem?_eq_none (by simp; omega)]
  have he := eq_div (n := n) (j := j) (q := q') hb hat
  rw [← hR] at he
  unfold bk
  rw [List.getElem?_set]
  by_cases e : at' = b
  · subst e
    rw [if_pos rfl, if_pos (by rw [h.len]; exact hat)]
    show (bk blocks at' ++ [k])[j]? = _
    refine key _ none (fun hlt => ?_) (fun heq => ?_) (fun hgt => ?_)
    · have hj := (h.blen hn hb j).mpr hlt
      rw [List.getElem?_append_left hj]
      exact h.at_ at' j hb
    · have hj := (he.mp heq).1
      rw [List.getElem?_append_right (by omega), hblen, hj, Nat.sub_self]
      rfl
    · have hj : ¬ j ≤ q' := fun z => by
        have c := cmp_div (n := n) (j := q') (q := j) hat hat
        rw [← hR] at c
        have := c.mp hgt
        omega
      rw [List.getElem?_eq_none (by rw [List.length_append, hblen, List.length_singleton]; omega)]
  · rw [if_neg e]
    show (bk blocks b)[j]? = _
    refine key _ none (fun _ => h.at_ b j hb) (fun heq => absurd (he.mp heq).2 (Ne.symm e)) (fun hgt => ?_)
    rw [h.at_ b j hb, List.getElem?_eq_none (by omega)]
/-! ### the row of the blocks -/
def padb (a : Nat) (b : List Nat) : List (Option Nat) := b.map some ++ List.replicate (a + 1 - b.length) none
theorem padb_len (a : Nat) (b : List Nat) : (padb a b).length = max (a + 1) b.length := by
  unfold padb
  rw [List.length_append, List.length_map, List.length_replicate]
  omega
theorem padb_some {a : Nat} {b : List Nat} {j k : Nat} : (padb a b)[j]? = some (some k) ↔ b[j]? = some k := by
  unfold padb
  by_cases h : j < b.length
  · rw [List.getElem?_append_left (by rw [List.length_map]; exact h), List.getElem?_map, List.getElem?_eq_getElem h]
    simp
  · rw [List.getElem?_append_right (by rw [List.length_map]; omega), List.getElem?_replicate, List.getElem?_eq_none (l := b) (by omega)]
    split <;> simp
/-- where block b begins -/
def off (a : Nat) : List (List Nat) → Nat → Nat
  | [], _ => 0
  | _ :: _, 0 => 0
  | b :: r, i + 1 => max (a + 1) b.length + off a r i
def rowB (a : Nat) (blocks : List (List Nat)) : List (Option Nat) := blocks.flatMap (padb a)
theorem rowB_at {a : Nat} : ∀ {blocks : List (List Nat)} {x k : Nat}, (rowB a blocks)[x]? = some (some k) → ∃ b j, b < blocks.length ∧ (bk blocks b)[j]? = some k ∧ x = off a blocks b + j
  | [], x, k, h => by simp [rowB] at h
  | b :: r, x, k, h => by
    have e : rowB a (b :: r) = padb a b ++ rowB a r := rfl
    rw [e] at h
    by_cases hx : x < (padb a b).length
    · rw [List.getElem?_append_left hx] at h
      exact ⟨0, x, by simp, padb_some.mp h, by simp [off]⟩
    · rw [List.getElem?_append_right (by omega)] at h
      obtain ⟨b', j, h1, h2, h3⟩ := rowB_at h
      refine ⟨b' + 1, j, by rw [List.length_cons]; omega, h2, ?_⟩
      have := padb_len a b
      show x = max (a + 1) b.length + off a r b' + j
      omega
theorem off_step {a : Nat} : ∀ {blocks : List (List Nat)} {b b' : Nat}, b < b' → b < blocks.length → off a blocks b + max (a + 1) (bk blocks b).length ≤ off a blocks b'
  | [], _, _, _, h => by simp at h
  | c :: r, 0, 0, h, _ => absurd h (Nat.lt_irrefl _)
  | c :: r, 0, b' + 1, _, _ => by
    show 0 + max (a + 1) c.length ≤ max (a + 1) c.length + off a r b'
    omega
  | c :: r, b + 1, 0, h, _ => absurd h (Nat.not_lt_zero _)
  | c :: r, b + 1, b' + 1, h, hl => by
    have := off_step (a := a) (blocks := r) (b := b) (b' := b') (by omega) (by rw [List.length_cons] at hl; omega)
    show max (a + 1) c.length + off a r b + max (a + 1) (bk r b).length ≤ max (a + 1) c.length + off a r b'
    omega
theorem rowB_len (a : Nat) : ∀ blocks : List (List Nat), (rowB a blocks).length = off a blocks blocks.length
  | [] => rfl
  | b :: r => by
    have e : rowB a (b :: r) = padb a b ++ rowB a r := rfl
    rw [e, List.length_append, padb_len, rowB_len a r]
    rfl

end Kp
namespace Kp
open PySem L2
/-! ### runs of kinds, dealt: two alike stand far enough -/
def Rn (m : Nat → Nat) (ks : List Nat) : List Nat := ks.flatMap fun k => List.replicate (m k) k
theorem Rn_cons (m : Nat → Nat) (k : Nat) (ks : List Nat) : Rn m (k :: ks) = List.replicate (m k) k ++ Rn m ks := rfl
def sOf (m : Nat → Nat) (ks : List Nat) (k : Nat) : Nat := (Rn m (ks.takeWhile fun c => decide (c ≠ k))).length
theorem Rn_mem {m : Nat → Nat} {ks : List Nat} {i k : Nat} (h : (Rn m ks)[i]? = some k) : k ∈ ks := by
  have := List.mem_of_getElem? h
  obtain ⟨c, hc, hk⟩ := List.mem_flatMap.mp this
  rw [List.eq_of_mem_replicate hk]
  exact hc
theorem run_at {m : Nat → Nat} : ∀ {ks : List Nat} {i k : Nat}, ks.Nodup → (Rn m ks)[i]? = some k → sOf m ks k ≤ i ∧ i < sOf m ks k + m k
  | [], i, k, _, h => by simp [Rn] at h
  | c :: r, i, k, nd, h => by
    rw [List.nodup_cons] at nd
    rw [Rn_cons] at h
    by_cases hi : i < m c
    · rw [List.getElem?_append_left (by rw [List.length_replicate]; exact hi), List.getElem?_replicate, if_pos hi] at h
      have e := Option.some.inj h
      subst e
      have e2 : sOf m (c :: r) c = 0 := by
        unfold sOf
        rw [List.takeWhile_cons_of_neg (by simp)]
        rfl
      omega
    · rw [List.getElem?_append_right (by rw [List.length_replicate]; omega), List.length_replicate] at h
      have hk := Rn_mem h
      have ih := run_at nd.2 h
      have hne : c ≠ k := fun z => nd.1 (z ▸ hk)
      have e2 : sOf m (c :: r) k = m c + sOf m r k := by
        unfold sOf
        rw [List.takeWhile_cons_of_pos (by simpa using hne), Rn_cons, List.length_append, List.length_replicate]
      omega
theorem Rn_full {m : Nat → Nat} {n : Nat} : ∀ {l : List Nat}, (∀ c ∈ l, m c = n) → (Rn m l).length = l.length * n
  | [], _ => by simp [Rn]
  | c :: r, h => by
    rw [Rn_cons, List.length_append, List.length_replicate, Rn_full fun x hx => h x (List.mem_cons_of_mem _ hx), h c List.mem_cons_self, List.length_cons, Nat.add_mul]
    omega
/-- all that stand ahead of k have as many, or more -/
theorem ahead_full {m : Nat → Nat} {n k : Nat} : ∀ {ks : List Nat}, (∀ c ∈ ks, m c ≤ n) → ks.Pairwise (fun c d => m d ≤ m c) → k ∈ ks → m k = n → ∀ c ∈ ks.takeWhile (fun c => decide (c ≠ k)), m c = n
  | [], _, _, _, _ => fun c h => by cases h
  | d :: r, hle, hp, hk, hm => fun c hc => by
    rw [List.pairwise_cons] at hp
    by_cases e : d = k
    · subst e
      rw [List.takeWhile_cons_of_neg (by simp)] at hc
      cases hc
    · rw [List.takeWhile_cons_of_pos (by simpa using e)] at hc
      have hkr : k ∈ r := by
        rcases List.mem_cons.mp hk with z | z
        · exact absurd z.symm e
        · exact z
      rcases List.mem_cons.mp hc with z | z
      · subst z
        have h1 := hp.1 k hkr
        have h2 := hle c List.mem_cons_self
        omega
      · exact ahead_full (fun c h => hle c (List.mem_cons_of_mem _ h)) hp.2 hkr hm c z
theorem start_mul {m : Nat → Nat} {n k : Nat} {ks : List Nat} (hle : ∀ c ∈ ks, m c ≤ n) (hp : ks.Pairwise (fun c d => m d ≤ m c)) (hk : k ∈ ks) (hm : m k = n) : sOf m ks k = (ks.takeWhile fun c => decide (c ≠ k)).length * n :=
  Rn_full (ahead_full hle hp hk hm)
theorem blocks_far {m : Nat → Nat} {n a : Nat} {ks : List Nat} {blocks : List (List Nat)} (hn : 0 < n) (nd : ks.Nodup) (hle : ∀ c ∈ ks, m c ≤ n) (hp : ks.Pairwise (fun c d => m d ≤ m c)) (S : Spread n (Rn m ks) blocks)
    {x y k : Nat} (hx : (rowB a blocks)[x]? = some (some k)) (hy : (rowB a blocks)[y]? = some (some k)) (hxy : x < y) : x + a + 1 ≤ y := by
  obtain ⟨b1, j1, hb1, hk1, ex⟩ := rowB_at hx
  obtain ⟨b2, j2, hb2, hk2, ey⟩ := rowB_at hy
  have hl1 : j1 < (bk blocks b1).length := (List.getElem?_eq_some_iff.mp hk1).1
  have hl2 : j2 < (bk blocks b2).length := (List.getElem?_eq_some_iff.mp hk2).1
  have hb1n : b1 < n := by rw [← S.len]; exact hb1
  have hb2n : b2 < n := by rw [← S.len]; exact hb2
  rw [S.at_ b1 j1 hb1n] at hk1
  rw [S.at_ b2 j2 hb2n] at hk2
  have r1 := run_at nd hk1
  have r2 := run_at nd hk2
  have hkm := Rn_mem hk1
  have hmk := hle k hkm
  have hst : m k = n → sOf m ks k = (ks.takeWhile fun c => decide (c ≠ k)).length * n := start_mul hle hp hkm
  rcases Nat.lt_trichotomy b1 b2 with hb | hb | hb
  · have o1 := off_step (a := a) hb hb1
    rcases Nat.lt_or_ge j2 j1 with hj | hj
    · have e1 : j1 = j2 + 1 := by
        rcases Nat.lt_or_ge (j2 + 1) j1 with z | z
        · have := mul_lt_of (n := n) z
          rw [Nat.add_mul] at this
          omega
        · omega
      subst e1
      have em : (j2 + 1) * n = j2 * n + n := by rw [Nat.add_mul]; omega
      rw [em] at r1
      by_cases hbb : b2 = b1 + 1
      · exfalso
        have hmn : m k = n := by omega
        have hs := hst hmn
        have e2 : j2 * n + b2 = (ks.takeWhile fun c => decide (c ≠ k)).length * n + 0 := by omega
        have := (eq_div hb2n hn).mp e2
        omega
      · have o2 := off_step (a := a) (blocks := blocks) (b := b1) (b' := b1 + 1) (by omega) hb1
        have o3 := off_step (a := a) (blocks := blocks) (b := b1 + 1) (b' := b2) (by omega) (by omega)
        omega
    · omega
  · subst hb
    have hj : j1 < j2 := by omega
    have := mul_lt_of (n := n) hj
    omega
  · have o1 := off_step (a := a) hb hb2
    omega
/-! ### the tail -/
theorem tail_far {m : Nat → Nat} {n a : Nat} {ks tl : List Nat} {blocks : List (List Nat)} (hn : 0 < n) (nd : ks.Nodup) (hle : ∀ c ∈ ks, m c ≤ n) (hp : ks.Pairwise (fun c d => m d ≤ m c)) (S : Spread n (Rn m ks) blocks)
    (htl : ∀ (t k : Nat), tl[t]? = some k → k ∈ ks ∧ m k = n ∧ (ks.takeWhile fun c => decide (c ≠ k)).length = t)
    {x t k : Nat} (hx : (rowB a blocks)[x]? = some (some k)) (ht : tl[t]? = some k) : x + a + 1 ≤ (rowB a blocks).length + t := by
  obtain ⟨b, j, hb, hk, ex⟩ := rowB_at hx
  have hbn : b < n := by rw [← S.len]; exact hb
  rw [S.at_ b j hbn] at hk
  have r := run_at nd hk
  obtain ⟨h1, h2, h3⟩ := htl t k ht
  have hs := start_mul hle hp h1 h2
  rw [h3] at hs
  have ej : j = t := by
    rcases Nat.lt_trichotomy j t with z | z | z
    · have := mul_lt_of (n := n) z
      omega
    · exact z
    · have := mul_lt_of (n := n) z
      omega
  have o := off_step (a := a) (b := b) (b' := blocks.length) hb hb
  rw [rowB_len]
  omega

end Kp
namespace Kp
open PySem L2
/-! ### the things dealt: the rest, the tail -/
def topB (xs : List Int) (g : Int) (k : Nat) : Bool := decide (xs.getD k 0 = g)
def mOf (xs : List Int) (g : Int) (k : Nat) : Nat := if topB xs g k = true then (g - 1).toNat else (xs.getD k 0).toNat
def dealS (xs : List Int) (g : Int) (s : List Nat × List Nat) (k : Nat) : List Nat × List Nat := if (topB xs g k && decide (s.2.count k = 0)) = true then (s.1, s.2 ++ [k]) else (s.1 ++ [k], s.2)
def deal (xs : List Int) (g : Int) (L : List Nat) : List Nat × List Nat := L.foldl (dealS xs g) ([], [])
theorem deal_app (xs : List Int) (g : Int) (L : List Nat) (k : Nat) : deal xs g (L ++ [k]) = dealS xs g (deal xs g L) k := by
  unfold deal
  rw [List.foldl_append]
  rfl
theorem deal_len (xs : List Int) (g : Int) : ∀ (L : List Nat) (s : List Nat × List Nat), (L.foldl (dealS xs g) s).1.length + (L.foldl (dealS xs g) s).2.length = s.1.length + s.2.length + L.length
  | [], s => rfl
  | k :: r, s => by
    rw [List.foldl_cons, deal_len xs g r, List.length_cons]
    unfold dealS
    split
    · simp only [List.length_append, List.length_singleton]; omega
    · simp only [List.length_append, List.length_singleton]; omega
theorem deal_cnt (xs : List Int) (g : Int) (c : Nat) : ∀ (L : List Nat) (s : List Nat × List Nat), (L.foldl (dealS xs g) s).1.count c + (L.foldl (dealS xs g) s).2.count c = s.1.count c + s.2.count c + L.count c
  | [], s => rfl
  | k :: r, s => by
    rw [List.foldl_cons, deal_cnt xs g c r, List.count_cons]
    unfold dealS
    split
    · rw [List.count_append, List.count_singleton]
      by_cases e : k = c <;> simp [e] <;> omega
    · rw [List.count_append, List.count_singleton]
      by_cases e : k = c <;> simp [e] <;> omega
/-- a run that gives nothing to the tail -/
theorem deal_rep {xs : List Int} {g : Int} {k : Nat} {r t : List Nat} (h : topB xs g k = false ∨ k ∈ t) : ∀ c, (List.replicate c k).foldl (dealS xs g) (r, t) = (r ++ List.replicate c k, t) := by
  intro c
  induction c generalizing r with
  | zero => simp
  | succ c ih =>
    rw [List.replicate_succ, List.foldl_cons]
    have e : dealS xs g (r, t) k = (r ++ [k], t) := by
      unfold dealS
      rw [if_neg]
      rcases h with h | h
      · rw [h]; simp
      · have : ¬ t.count k = 0 := fun z => (List.count_eq_zero.mp z) h
        rw [decide_eq_false this]; simp
    rw [e, ih, List.append_assoc]
    rfl
theorem deal_run {xs : List Int} {g : Int} {k : Nat} {r t : List Nat} (hg : 1 ≤ g) (h : k ∉ t) : (List.replicate (xs.getD k 0).toNat k).foldl (dealS xs g) (r, t) = (r ++ List.replicate (mOf xs g k) k, t ++ (if topB xs g k = true then [k] else [])) := by
  unfold mOf
  by_cases ht : topB xs g k = true
  · rw [if_pos ht, if_pos ht]
    have e : xs.getD k 0 = g := of_decide_eq_true ht
    obtain ⟨c, hc⟩ : ∃ c : Nat, g.toNat = c + 1 := ⟨g.toNat - 1, by omega⟩
    have hc2 : (g - 1).toNat = c := by omega
    rw [e, hc, hc2, List.replicate_succ, List.foldl_cons]
    have e1 : dealS xs g (r, t) k = (r, t ++ [k]) := by
      unfold dealS
      rw [if_pos]
      rw [ht, decide_eq_true (List.count_eq_zero.mpr h)]
      rfl
    rw [e1, deal_rep (.inr (by simp))]
  · rw [if_neg ht, if_neg ht, List.append_nil]
    exact deal_rep (.inl (by simpa using ht)) _
theorem deal_things {xs : List Int} {g : Int} (hg : 1 ≤ g) : ∀ {ks r t : List Nat}, ks.Nodup → (∀ k ∈ ks, k ∉ t) → (thingsOf xs ks).foldl (dealS xs g) (r, t) = (r ++ Rn (mOf xs g) ks, t ++ ks.filter (topB xs g))
  | [], r, t, _, _ => by simp [thingsOf, Rn]
  | k :: ks, r, t, nd, h => by
    rw [List.nodup_cons] at nd
    have e : thingsOf xs (k :: ks) = List.replicate (xs.getD k 0).toNat k ++ thingsOf xs ks := rfl
    rw [e, List.foldl_append, deal_run hg (h k List.mem_cons_self), deal_things hg nd.2, Rn_cons, List.append_assoc, List.filter_cons, List.append_assoc]
    · by_cases ht : topB xs g k = true
      · rw [if_pos ht, if_pos ht]; rfl
      · rw [if_neg ht, if_neg ht]; rfl
    · intro c hc
      rw [List.mem_append]
      rintro (z | z)
      · exact h c (List.mem_cons_of_mem _ hc) z
      · split at z
        · have : c = k := by simpa using z
          exact nd.1 (this ▸ hc)
        · cases z
/-! ### the order of the kinds -/
theorem before_le {xs : List Int} {i j : Nat} (h : before xs i j) : xs.getD j 0 ≤ xs.getD i 0 := by
  unfold before at h
  omega
theorem m_le {xs : List Int} {g : Int} {k : Nat} (hle : xs.getD k 0 ≤ g) (hg : 1 ≤ g) : mOf xs g k ≤ (g - 1).toNat := by
  unfold mOf topB
  by_cases h : xs.getD k 0 = g
  · rw [if_pos (decide_eq_true h)]; exact Nat.le_refl _
  · rw [if_neg (by simpa using h)]
    omega
theorem m_mono {xs : List Int} {g : Int} {i j : Nat} (h : before xs i j) (hi : xs.getD i 0 ≤ g) (hg : 1 ≤ g) : mOf xs g j ≤ mOf xs g i := by
  have h1 := before_le h
  unfold mOf topB
  by_cases ei : xs.getD i 0 = g
  · rw [if_pos (decide_eq_true ei)]
    by_cases ej : xs.getD j 0 = g
    · rw [if_pos (decide_eq_true ej)]; exact Nat.le_refl _
    · rw [if_neg (by simpa using ej)]
      omega
  · have ej : ¬ xs.getD j 0 = g := by omega
    rw [decide_eq_false ei, decide_eq_false ej, if_neg Bool.false_ne_true, if_neg Bool.false_ne_true]
    omega
theorem tops_at {xs : List Int} {g : Int} : ∀ {ks : List Nat} {t k : Nat}, ks.Nodup → ks.Pairwise (before xs) → (∀ c ∈ ks, xs.getD c 0 ≤ g) → (ks.filter (topB xs g))[t]? = some k → k ∈ ks ∧ topB xs g k = true ∧ (ks.takeWhile fun c => decide (c ≠ k)).length = t
  | [], t, k, _, _, _, h => by simp at h
  | d :: r, t, k, nd, hp, hle, h => by
    rw [List.nodup_cons] at nd
    rw [List.pairwise_cons] at hp
    by_cases htop : topB xs g d = true
    · rw [List.filter_cons_of_pos htop] at h
      cases t with
      | zero =>
        have e : d = k := Option.some.inj h
        subst e
        refine ⟨List.mem_cons_self, htop, ?_⟩
        rw [List.takeWhile_cons_of_neg (by simp)]
        rfl
      | succ t =>
        rw [List.getElem?_cons_succ] at h
        obtain ⟨h1, h2, h3⟩ := tops_at nd.2 hp.2 (fun c hc => hle c (List.mem_cons_of_mem _ hc)) h
        have hne : d ≠ k := fun z => nd.1 (z ▸ h1)
        refine ⟨List.mem_cons_of_mem _ h1, h2, ?_⟩
        rw [List.takeWhile_cons_of_pos (by simpa using hne), List.length_cons, h3]
    · rw [List.filter_cons_of_neg htop] at h
      have hm := List.mem_of_getElem? h
      obtain ⟨h1, h2⟩ := List.mem_filter.mp hm
      have a := before_le (hp.1 k h1)
      have b := hle d List.mem_cons_self
      have c : xs.getD k 0 = g := of_decide_eq_true h2
      exact absurd (decide_eq_true (show xs.getD d 0 = g by omega)) htop
/-! ### how long -/
theorem off_le {a : Nat} : ∀ {blocks : List (List Nat)}, (∀ b ∈ blocks, b.length ≤ a + 1) → off a blocks blocks.length = blocks.length * (a + 1)
  | [], _ => by simp [off]
  | b :: r, h => by
    have ih := off_le (a := a) (blocks := r) fun c hc => h c (List.mem_cons_of_mem _ hc)
    have h1 := h b List.mem_cons_self
    show max (a + 1) b.length + off a r r.length = _
    rw [ih, List.length_cons, Nat.add_mul r.length 1]
    omega
theorem off_ge {a : Nat} : ∀ {blocks : List (List Nat)}, (∀ b ∈ blocks, a + 1 ≤ b.length) → off a blocks blocks.length = blocks.flatten.length
  | [], _ => by simp [off]
  | b :: r, h => by
    have ih := off_ge (a := a) (blocks := r) fun c hc => h c (List.mem_cons_of_mem _ hc)
    have h1 := h b List.mem_cons_self
    show max (a + 1) b.length + off a r r.length = _
    rw [ih, List.flatten_cons, List.length_append]
    omega
theorem row_len {n a : Nat} {rest : List Nat} {blocks : List (List Nat)} (hn : 0 < n) (S : Spread n rest blocks) (hfl : blocks.flatten.length = rest.length) : (rowB a blocks).length = max rest.length (n * (a + 1)) := by
  have hmem : ∀ b ∈ blocks, ∃ i, i < n ∧ bk blocks i = b := fun b hb => by
    obtain ⟨i, hi, e⟩ := List.mem_iff_getElem.mp hb
    refine ⟨i, by rw [← S.len]; exact hi, ?_⟩
    unfold bk
    rw [List.getElem?_eq_getElem hi, e]
    rfl
  have hc : (a + 1) * n = a * n + n := by rw [Nat.add_mul]; omega
  have hc2 : n * (a + 1) = a * n + n := by rw [Nat.mul_comm]; exact hc
  rw [rowB_len]
  rcases Nat.lt_or_ge rest.length (n * (a + 1)) with h | h
  · rw [off_le fun b hb => ?_, S.len]
    · omega
    · obtain ⟨i, hi, rfl⟩ := hmem b hb
      rcases Nat.lt_or_ge (a + 1) (bk blocks i).length with z | z
      · have := (S.blen hn hi (a + 1)).mp z
        omega
      · exact z
  · rw [off_ge fun b hb => ?_, hfl]
    · omega
    · obtain ⟨i, hi, rfl⟩ := hmem b hb
      exact (S.blen hn hi a).mpr (by omega)

end Kp
namespace Kp
open PySem L2
/-! ### the shortest row keeps the wish and has the least length -/
theorem things_count {xs : List Int} : ∀ {ks : List Nat} {k : Nat}, ks.Nodup → (thingsOf xs ks).count k = if k ∈ ks then (xs.getD k 0).toNat else 0
  | [], k, _ => by simp [thingsOf]
  | c :: r, k, nd => by
    rw [List.nodup_cons] at nd
    have e : thingsOf xs (c :: r) = List.replicate (xs.getD c 0).toNat c ++ thingsOf xs r := rfl
    rw [e, List.count_append, things_count nd.2, List.count_replicate]
    by_cases h : c = k
    · subst h
      rw [if_neg nd.1, if_pos List.mem_cons_self]
      simp
    · have h2 : ¬ (c == k) = true := by simpa using h
      rw [if_neg h2, Nat.zero_add]
      by_cases hk : k ∈ r
      · rw [if_pos hk, if_pos (List.mem_cons_of_mem _ hk)]
      · rw [if_neg hk, if_neg (by rw [List.mem_cons]; rintro (z | z); exact h z.symm; exact hk z)]
theorem count_padb (a : Nat) (b : List Nat) (k : Nat) : (padb a b).count (some k) = b.count k := by
  unfold padb
  rw [List.count_append]
  have e1 : (List.replicate (a + 1 - b.length) (none : Option Nat)).count (some k) = 0 := List.count_eq_zero.mpr fun h => by cases List.eq_of_mem_replicate h
  have e2 : ∀ l : List Nat, (l.map some).count (some k) = l.count k := fun l => by
    induction l with
    | nil => rfl
    | cons x r ih =>
      rw [List.map_cons, List.count_cons, List.count_cons, ih]
      congr 1
  rw [e1, e2]
  rfl
theorem count_some (l : List Nat) (k : Nat) : (l.map some).count (some k) = l.count k := by
  induction l with
  | nil => rfl
  | cons x r ih =>
    rw [List.map_cons, List.count_cons, List.count_cons, ih]
    congr 1
theorem count_rowB (a : Nat) (k : Nat) : ∀ blocks : List (List Nat), (rowB a blocks).count (some k) = blocks.flatten.count k
  | [] => rfl
  | b :: r => by
    have e : rowB a (b :: r) = padb a b ++ rowB a r := rfl
    rw [e, List.count_append, count_padb, count_rowB a k r, List.flatten_cons, List.count_append]
theorem range_getD (xs : List Int) : (List.range xs.length).map (fun k => xs.getD k 0) = xs := by
  refine List.ext_getElem (by simp) fun i h1 h2 => ?_
  rw [List.getElem_map, List.getElem_range, List.getD_eq_getElem?_getD, List.getElem?_eq_getElem h2]
  rfl
/-- the counts of a row that has the things -/
theorem cnt_of {xs : List Int} {ks : List Nat} {row : List (Option Nat)} (h0 : ∀ x ∈ xs, 0 ≤ x) (hp : ks.Perm (List.range xs.length)) (hc : ∀ k, row.count (some k) = (thingsOf xs ks).count k) : cntL xs.length row = xs := by
  have nd : ks.Nodup := hp.nodup_iff.mpr List.nodup_range
  rw [← range_getD xs]
  rw [List.length_map, List.length_range]
  unfold cntL
  refine List.map_congr_left fun k hk => ?_
  have hkl := List.mem_range.mp hk
  rw [hc k, things_count nd, if_pos (hp.mem_iff.mpr hk)]
  have : 0 ≤ xs.getD k 0 := by
    rw [List.getD_eq_getElem?_getD, List.getElem?_eq_getElem hkl]
    exact h0 _ (List.getElem_mem hkl)
  omega
theorem perm_sum {l l' : List Int} (h : l.Perm l') : l.sum = l'.sum := by
  induction h with
  | nil => rfl
  | cons x _ ih => rw [List.sum_cons, List.sum_cons, ih]
  | swap x y l => rw [List.sum_cons, List.sum_cons, List.sum_cons, List.sum_cons]; omega
  | trans _ _ h1 h2 => exact h1.trans h2
theorem things_sum {xs : List Int} {ks : List Nat} (h0 : ∀ x ∈ xs, 0 ≤ x) (hp : ks.Perm (List.range xs.length)) : ((thingsOf xs ks).length : Int) = xs.sum := by
  have e : ∀ ks : List Nat, (∀ k ∈ ks, 0 ≤ xs.getD k 0) → ((thingsOf xs ks).length : Int) = (ks.map fun k => xs.getD k 0).sum := fun ks => by
    induction ks with
    | nil => intro _; rfl
    | cons c r ih =>
      intro h
      have e1 : thingsOf xs (c :: r) = List.replicate (xs.getD c 0).toNat c ++ thingsOf xs r := rfl
      have h1 := h c List.mem_cons_self
      have h2 := ih fun k hk => h k (List.mem_cons_of_mem _ hk)
      rw [e1, List.length_append, List.length_replicate, List.map_cons, List.sum_cons, ← h2]
      push_cast
      omega
  rw [e ks fun k hk => ?_]
  · have p2 := hp.map fun k => xs.getD k 0
    rw [range_getD] at p2
    exact perm_sum p2
  · have hkl := List.mem_range.mp (hp.mem_iff.mp hk)
    rw [List.getD_eq_getElem?_getD, List.getElem?_eq_getElem hkl]
    exact h0 _ (List.getElem_mem hkl)
theorem tops_len {xs : List Int} {ks : List Nat} {g : Int} (hp : ks.Perm (List.range xs.length)) : (ks.filter (topB xs g)).length = (ksOf xs g xs.length).length := by
  have := (hp.filter (topB xs g)).length_eq
  exact this
theorem short_big {xs : List Int} {a g : Int} {ks : List Nat} {blocks : List (List Nat)} (fi : Fine a xs) (gr : Gr xs g) (hg : 2 ≤ g) (hp : ks.Perm (List.range xs.length)) (hs : ks.Pairwise (before xs))
    (S : Spread (g - 1).toNat (deal xs g (thingsOf xs ks)).1 blocks) (hfl : blocks.flatten.length = (deal xs g (thingsOf xs ks)).1.length) (hfc : ∀ c, blocks.flatten.count c = (deal xs g (thingsOf xs ks)).1.count c) :
    Keeps xs a (rowB a.toNat blocks ++ (deal xs g (thingsOf xs ks)).2.map some) ∧ ((rowB a.toNat blocks ++ (deal xs g (thingsOf xs ks)).2.map some).length : Int) = max xs.sum (frN xs a g) := by
  have nd : ks.Nodup := hp.nodup_iff.mpr List.nodup_range
  have h0 : ∀ x ∈ xs, 0 ≤ x := fun x hx => (fi.2.2.1 x hx).1
  have hle : ∀ c ∈ ks, xs.getD c 0 ≤ g := fun c hc => by
    have hcl := List.mem_range.mp (hp.mem_iff.mp hc)
    rw [List.getD_eq_getElem?_getD, List.getElem?_eq_getElem hcl]
    exact gr.2 _ (List.getElem_mem hcl)
  have hd : deal xs g (thingsOf xs ks) = (Rn (mOf xs g) ks, ks.filter (topB xs g)) := by
    have := deal_things (xs := xs) (g := g) (by omega) (ks := ks) (r := []) (t := []) nd (fun k _ h => by cases h)
    rw [List.nil_append, List.nil_append] at this
    exact this
  have hsum := things_sum h0 hp
  have hdl : (Rn (mOf xs g) ks).length + (ks.filter (topB xs g)).length = (thingsOf xs ks).length := by
    have := deal_len xs g (thingsOf xs ks) ([], [])
    have e : (thingsOf xs ks).foldl (dealS xs g) ([], []) = deal xs g (thingsOf xs ks) := rfl
    rw [e, hd] at this
    simpa using this
  have hdc : ∀ c, (Rn (mOf xs g) ks).count c + (ks.filter (topB xs g)).count c = (thingsOf xs ks).count c := fun c => by
    have := deal_cnt xs g c (thingsOf xs ks) ([], [])
    have e : (thingsOf xs ks).foldl (dealS xs g) ([], []) = deal xs g (thingsOf xs ks) := rfl
    rw [e, hd] at this
    simpa using this
  rw [hd] at S hfl hfc ⊢
  dsimp only at S hfl hfc ⊢
  have hn : 0 < (g - 1).toNat := by omega
  have hml : ∀ c ∈ ks, mOf xs g c ≤ (g - 1).toNat := fun c hc => m_le (hle c hc) (by omega)
  have hmm : ks.Pairwise (fun c d => mOf xs g d ≤ mOf xs g c) := List.Pairwise.imp_of_mem (fun {c d} h1 _ h => m_mono h (hle c h1) (by omega)) hs
  have htl : ∀ (t k : Nat), (ks.filter (topB xs g))[t]? = some k → k ∈ ks ∧ mOf xs g k = (g - 1).toNat ∧ (ks.takeWhile fun c => decide (c ≠ k)).length = t := fun t k h => by
    obtain ⟨h1, h2, h3⟩ := tops_at nd hs hle h
    exact ⟨h1, by unfold mOf; rw [if_pos h2], h3⟩
  have hlen := row_len (a := a.toNat) hn S hfl
  have hcount : ∀ k, (rowB a.toNat blocks ++ (ks.filter (topB xs g)).map some).count (some k) = (thingsOf xs ks).count k := fun k => by
    rw [List.count_append, count_rowB, count_some, hfc k]
    exact hdc k
  have ha := fi.2.2.2.1
  have hcnt := cnt_of h0 hp hcount
  refine ⟨⟨fun k hk => ?_, hcnt, ?_⟩, ?_⟩
  · have h1 : 0 < (rowB a.toNat blocks ++ (ks.filter (topB xs g)).map some).count (some k) := List.count_pos_iff.mpr hk
    rw [hcount k, things_count nd] at h1
    by_cases hkk : k ∈ ks
    · exact List.mem_range.mp (hp.mem_iff.mp hkk)
    · rw [if_neg hkk] at h1
      exact absurd h1 (Nat.lt_irrefl 0)
  · rintro i j ⟨hij, k, hi, hj, hd⟩
    by_cases hjb : j < (rowB a.toNat blocks).length
    · rw [List.getElem?_append_left hjb] at hj
      rw [List.getElem?_append_left (by omega)] at hi
      have := blocks_far hn nd hml hmm S hi hj hij
      omega
    · rw [List.getElem?_append_right (by omega), List.getElem?_map] at hj
      cases et : (ks.filter (topB xs g))[j - (rowB a.toNat blocks).length]? with
      | none => rw [et] at hj; cases hj
      | some k2 =>
        rw [et] at hj
        have ek : k2 = k := Option.some.inj (Option.some.inj hj)
        subst ek
        by_cases hib : i < (rowB a.toNat blocks).length
        · rw [List.getElem?_append_left hib] at hi
          have := tail_far hn nd hml hmm S htl hi et
          omega
        · rw [List.getElem?_append_right (by omega), List.getElem?_map] at hi
          cases es : (ks.filter (topB xs g))[i - (rowB a.toNat blocks).length]? with
          | none => rw [es] at hi; cases hi
          | some k3 =>
            rw [es] at hi
            have ek : k3 = k2 := Option.some.inj (Option.some.inj hi)
            subst ek
            have h1 := (htl _ _ es).2.2
            have h2 := (htl _ _ et).2.2
            omega
  · rw [List.length_append, List.length_map, hlen]
    have htl2 := tops_len (g := g) hp
    unfold frN
    rw [if_neg (by omega)]
    have e1 : ((g - 1).toNat : Int) = g - 1 := by omega
    have e2 : (((a.toNat + 1 : Nat)) : Int) = a + 1 := by omega
    have e3 : (((g - 1).toNat * (a.toNat + 1) : Nat) : Int) = (g - 1) * (a + 1) := by rw [Int.natCast_mul, e1, e2]
    rw [← e3]
    omega
theorem short_small {xs : List Int} {a g : Int} {ks : List Nat} (fi : Fine a xs) (gr : Gr xs g) (hg : g < 2) (hp : ks.Perm (List.range xs.length)) (hs : ks.Pairwise (before xs)) :
    Keeps xs a ((thingsOf xs ks).map some) ∧ (((thingsOf xs ks).map some).length : Int) = max xs.sum (frN xs a g) := by
  have nd : ks.Nodup := hp.nodup_iff.mpr List.nodup_range
  have h0 : ∀ x ∈ xs, 0 ≤ x := fun x hx => (fi.2.2.1 x hx).1
  have hsum := things_sum h0 hp
  have hcnt := cnt_of (row := (thingsOf xs ks).map some) h0 hp fun k => count_some _ k
  have hk1 : ∀ k, (thingsOf xs ks).count k ≤ 1 := fun k => by
    rw [things_count nd]
    split
    · rw [List.getD_eq_getElem?_getD]
      cases e : xs[k]? with
      | none => simp
      | some x =>
        have := gr.2 x (List.mem_of_getElem? e)
        show x.toNat ≤ 1
        omega
    · omega
  have ha := fi.2.2.2.1
  have keeps : Keeps xs a ((thingsOf xs ks).map some) := by
    refine ⟨fun k hk => ?_, hcnt, ?_⟩
    · obtain ⟨c, hc, e⟩ := List.mem_map.mp hk
      have e2 := Option.some.inj e
      subst e2
      have h1 : 0 < (thingsOf xs ks).count c := List.count_pos_iff.mpr hc
      rw [things_count nd] at h1
      by_cases hkk : c ∈ ks
      · exact List.mem_range.mp (hp.mem_iff.mp hkk)
      · rw [if_neg hkk] at h1
        exact absurd h1 (Nat.lt_irrefl 0)
    · rintro i j ⟨hij, k, hi, hj, _⟩
      have hnd : (thingsOf xs ks).Nodup := List.nodup_iff_count.mpr fun k => hk1 k
      rw [List.getElem?_map] at hi hj
      cases ei : (thingsOf xs ks)[i]? with
      | none => rw [ei] at hi; cases hi
      | some c =>
        cases ej : (thingsOf xs ks)[j]? with
        | none => rw [ej] at hj; cases hj
        | some d =>
          rw [ei] at hi
          rw [ej] at hj
          have e1 : c = k := Option.some.inj (Option.some.inj hi)
          have e2 : d = k := Option.some.inj (Option.some.inj hj)
          obtain ⟨hil, hi3⟩ := List.getElem?_eq_some_iff.mp ei
          obtain ⟨hjl, hj3⟩ := List.getElem?_eq_some_iff.mp ej
          exact List.pairwise_iff_getElem.mp hnd i j hil hjl hij (by rw [hi3, hj3, e1, e2])
  refine ⟨keeps, ?_⟩
  have hle := frame_le ha keeps gr (h0 g gr.1)
  rw [List.length_map] at hle ⊢
  omega
theorem vk_rv (ks : List Nat) : vk ks = (ks.map some).map rv := by
  unfold vk
  rw [List.map_map]
  rfl
theorem cnt_vk (k : Nat) : ∀ l : List Nat, (vk l).countP (fun z => eqV z (.int (k : Int))) = l.count k
  | [] => rfl
  | x :: r => by
    have e : vk (x :: r) = V.int (x : Int) :: vk r := rfl
    rw [e, List.countP_cons, cnt_vk k r, List.count_cons]
    congr 1
    show (if ((x : Int) == (k : Int)) = true then 1 else 0) = _
    by_cases h : x = k
    · subst h; simp
    · have : ¬ (x : Int) = k := by omega
      simp [h, this]
theorem vk_flatV (ks : List Nat) : (vk ks).all flatV = true := by
  unfold vk
  rw [List.all_map, List.all_eq_true]
  exact fun _ _ => rfl
theorem rowB_app (a : Nat) (bs : List (List Nat)) (b : List Nat) : rowB a (bs ++ [b]) = rowB a bs ++ padb a b := by
  unfold rowB
  rw [List.flatMap_append]
  simp

end Kp
namespace Kp
open PySem L2
/-! ### all rows of a length that keep a wish, in order; the ways to go on behind a row -/
def opts (n : Nat) : List (Option Nat) := (List.range n).map some ++ [none]
def allR (n : Nat) : Nat → List (List (Option Nat))
  | 0 => [[]]
  | p + 1 => (opts n).flatMap fun o => (allR n p).map (o :: ·)
theorem mem_opts {n : Nat} {o : Option Nat} : o ∈ opts n ↔ ∀ k, o = some k → k < n := by
  unfold opts
  rw [List.mem_append, List.mem_map]
  constructor
  · rintro (⟨k, hk, rfl⟩ | h)
    · rintro k' e
      rw [← Option.some.inj e]
      exact List.mem_range.mp hk
    · rintro k' e
      rw [List.mem_singleton.mp h] at e
      cases e
  · intro h
    cases o with
    | none => exact .inr (List.mem_singleton.mpr rfl)
    | some k => exact .inl ⟨k, List.mem_range.mpr (h k rfl), rfl⟩
theorem mem_allR {n : Nat} : ∀ {p : Nat} {t : List (Option Nat)}, t ∈ allR n p ↔ t.length = p ∧ ∀ k, some k ∈ t → k < n
  | 0, t => by
    unfold allR
    rw [List.mem_singleton]
    constructor
    · rintro rfl
      exact ⟨rfl, fun k h => by cases h⟩
    · rintro ⟨h, _⟩
      exact List.eq_nil_of_length_eq_zero h
  | p + 1, t => by
    unfold allR
    rw [List.mem_flatMap]
    constructor
    · rintro ⟨o, ho, h⟩
      obtain ⟨u, hu, rfl⟩ := List.mem_map.mp h
      have h1 := mem_allR.mp hu
      refine ⟨by rw [List.length_cons, h1.1], fun k hk => ?_⟩
      rcases List.mem_cons.mp hk with e | hk
      · exact mem_opts.mp ho k e.symm
      · exact h1.2 k hk
    · rintro ⟨hl, hk⟩
      cases t with
      | nil => simp at hl
      | cons o u =>
        refine ⟨o, mem_opts.mpr fun k e => hk k (by rw [e]; exact List.mem_cons_self), List.mem_map.mpr ⟨u, mem_allR.mpr ⟨by simpa using hl, fun k h => hk k (List.mem_cons_of_mem _ h)⟩, rfl⟩⟩
theorem opts_nodup (n : Nat) : (opts n).Nodup := by
  unfold opts
  rw [List.nodup_append]
  refine ⟨List.Pairwise.map _ (fun a b h z => h (Option.some.inj z)) List.nodup_range, by simp, ?_⟩
  intro x hx y hy e
  obtain ⟨k, _, rfl⟩ := List.mem_map.mp hx
  rw [List.mem_singleton.mp hy] at e
  cases e
theorem nodup_flatCons {α : Type} {f : α → List (List α)} : ∀ {l : List α}, l.Nodup → (∀ o ∈ l, (f o).Nodup) → (l.flatMap fun o => (f o).map (o :: ·)).Nodup
  | [], _, _ => List.nodup_nil
  | o :: r, nd, h => by
    rw [List.nodup_cons] at nd
    rw [List.flatMap_cons, List.nodup_append]
    refine ⟨List.Pairwise.map _ (fun a b h z => h (List.cons.inj z).2) (h o List.mem_cons_self), nodup_flatCons nd.2 fun x hx => h x (List.mem_cons_of_mem _ hx), ?_⟩
    intro x hx y hy e
    obtain ⟨u, _, rfl⟩ := List.mem_map.mp hx
    obtain ⟨o', ho', hy⟩ := List.mem_flatMap.mp hy
    obtain ⟨u', _, rfl⟩ := List.mem_map.mp hy
    have := (List.cons.inj e).1
    rw [this] at nd
    exact nd.1 ho'
theorem allR_nodup (n : Nat) : ∀ p, (allR n p).Nodup
  | 0 => by unfold allR; simp
  | p + 1 => nodup_flatCons (opts_nodup n) fun _ _ => allR_nodup n p
noncomputable def keepB (xs : List Int) (a : Int) (row : List (Option Nat)) : Bool := @decide (Keeps xs a row) (Classical.propDecidable _)
theorem keepB_iff {xs : List Int} {a : Int} {row : List (Option Nat)} : keepB xs a row = true ↔ Keeps xs a row := by
  unfold keepB
  exact @decide_eq_true_iff _ (Classical.propDecidable _)
/-- what may stand behind a row, p places long, so that the whole keeps the wish -/
noncomputable def Cp (xs : List Int) (a : Int) (row : List (Option Nat)) (p : Nat) : List (List (Option Nat)) := (allR xs.length p).filter fun t => keepB xs a (row ++ t)
theorem mem_Cp {xs : List Int} {a : Int} {row t : List (Option Nat)} {p : Nat} : t ∈ Cp xs a row p ↔ t.length = p ∧ Keeps xs a (row ++ t) := by
  unfold Cp
  rw [List.mem_filter, mem_allR, keepB_iff]
  exact ⟨fun h => ⟨h.1.1, h.2⟩, fun h => ⟨⟨h.1, fun k hk => h.2.1 k (List.mem_append_right _ hk)⟩, h.2⟩⟩
theorem Cp_nodup (xs : List Int) (a : Int) (row : List (Option Nat)) (p : Nat) : (Cp xs a row p).Nodup := (allR_nodup _ _).filter _
theorem Cp_nil {xs : List Int} {a : Int} {row : List (Option Nat)} {p : Nat} (h : ∀ t, t.length = p → ¬ Keeps xs a (row ++ t)) : Cp xs a row p = [] := by
  refine List.eq_nil_iff_forall_not_mem.mpr fun t ht => ?_
  have := mem_Cp.mp ht
  exact h t this.1 this.2
theorem filter_flatCons {α : Type} {f : α → List (List α)} {P : List α → Bool} : ∀ l : List α, (l.flatMap fun o => (f o).map (o :: ·)).filter P = l.flatMap fun o => ((f o).filter fun t => P (o :: t)).map (o :: ·)
  | [] => rfl
  | o :: r => by
    rw [List.flatMap_cons, List.filter_append, filter_flatCons r, List.flatMap_cons, List.filter_map]
    rfl
theorem Cp_succ (xs : List Int) (a : Int) (row : List (Option Nat)) (p : Nat) : Cp xs a row (p + 1) = (opts xs.length).flatMap fun o => (Cp xs a (row ++ [o]) p).map (o :: ·) := by
  show ((opts xs.length).flatMap fun o => (allR xs.length p).map (o :: ·)).filter _ = _
  rw [filter_flatCons]
  congr 1
  funext o
  unfold Cp
  congr 2
  funext t
  rw [List.append_assoc]
  rfl
theorem flat_drop {α β : Type} {f : α → List β} {q : α → Bool} : ∀ {l : List α}, (∀ o ∈ l, q o = false → f o = []) → l.flatMap f = (l.filter q).flatMap f
  | [], _ => rfl
  | o :: r, h => by
    have ih := flat_drop (f := f) (q := q) (l := r) fun x hx => h x (List.mem_cons_of_mem _ hx)
    rw [List.flatMap_cons, ih]
    cases e : q o with
    | true => rw [List.filter_cons_of_pos e, List.flatMap_cons]
    | false => rw [List.filter_cons_of_neg (by rw [e]; exact Bool.false_ne_true), h o List.mem_cons_self e, List.nil_append]
theorem Cp_zero (xs : List Int) (a : Int) (row : List (Option Nat)) : Cp xs a row 0 = if keepB xs a row = true then [[]] else [] := by
  show ([[]] : List (List (Option Nat))).filter _ = _
  rw [List.filter_cons, List.filter_nil, List.append_nil]
/-! ### what is left -/
def leftK (xs : List Int) (row : List (Option Nat)) (k : Nat) : Int := xs.getD k 0 - (row.count (some k) : Nat)
def leftOf (xs : List Int) (row : List (Option Nat)) : List Int := (List.range xs.length).map (leftK xs row)
theorem leftOf_len (xs : List Int) (row : List (Option Nat)) : (leftOf xs row).length = xs.length := by simp [leftOf]
theorem leftOf_at {xs : List Int} {row : List (Option Nat)} {k : Nat} (h : k < xs.length) : (leftOf xs row)[k]? = some (leftK xs row k) := by
  unfold leftOf
  rw [List.getElem?_map, List.getElem?_range h]
  rfl
theorem leftOf_nil (xs : List Int) : leftOf xs [] = xs := by
  refine List.ext_getElem (by simp [leftOf]) fun i h1 h2 => ?_
  simp [leftOf, leftK, List.getD_eq_getElem?_getD, List.getElem?_eq_getElem h2]
/-- the last few places -/
def lastA (a : Int) (row : List (Option Nat)) : List (Option Nat) := row.drop (row.length - min a.toNat row.length)
theorem lastA_split (a : Int) (row : List (Option Nat)) : row = row.take (row.length - min a.toNat row.length) ++ lastA a row := (List.take_append_drop _ _).symm
theorem lastA_len (a : Int) (row : List (Option Nat)) : (lastA a row).length = min a.toNat row.length := by
  unfold lastA
  rw [List.length_drop]
  omega
theorem mem_lastA {a : Int} {row : List (Option Nat)} {o : Option Nat} : o ∈ lastA a row ↔ ∃ i : Nat, row[i]? = some o ∧ (row.length : Int) - i - 1 < a := by
  unfold lastA
  rw [List.mem_iff_getElem?]
  constructor
  · rintro ⟨j, hj⟩
    rw [List.getElem?_drop] at hj
    have hl := (List.getElem?_eq_some_iff.mp hj).1
    exact ⟨_, hj, by omega⟩
  · rintro ⟨i, hi, hd⟩
    have hl := (List.getElem?_eq_some_iff.mp hi).1
    refine ⟨i - (row.length - min a.toNat row.length), ?_⟩
    rw [List.getElem?_drop, show row.length - min a.toNat row.length + (i - (row.length - min a.toNat row.length)) = i by omega]
    exact hi
/-- a row that may yet become one -/
structure OkR (xs : List Int) (a : Int) (row : List (Option Nat)) : Prop where
  kinds : ∀ k, some k ∈ row → k < xs.length
  left : ∀ k, k < xs.length → 0 ≤ leftK xs row k
  sp : Spaced row a
def mayB (xs : List Int) (a : Int) (row : List (Option Nat)) (k : Nat) : Bool := decide (0 < leftK xs row k) && !decide (some k ∈ lastA a row)
def chs (xs : List Int) (a : Int) (row : List (Option Nat)) : List (Option Nat) := ((List.range xs.length).filter (mayB xs a row)).map some ++ [none]
theorem OkR.nil {xs : List Int} {a : Int} (h : ∀ x ∈ xs, 0 ≤ x) : OkR xs a [] := ⟨fun k h => (by cases h), fun k hk => by
  unfold leftK
  rw [List.getD_eq_getElem?_getD, List.getElem?_eq_getElem hk]
  have := h _ (List.getElem_mem hk)
  show 0 ≤ xs[k] - ((List.count (some k) [] : Nat) : Int)
  rw [List.count_nil]
  omega, fun i j ⟨_, k, h, _⟩ => by simp at h⟩
theorem leftK_app (xs : List Int) (row t : List (Option Nat)) (k : Nat) : leftK xs (row ++ t) k = leftK xs row k - (t.count (some k) : Nat) := by
  unfold leftK
  rw [List.count_append]
  omega
theorem leftK_snoc (xs : List Int) (row : List (Option Nat)) (o : Option Nat) (k : Nat) : leftK xs (row ++ [o]) k = leftK xs row k - (if o = some k then 1 else 0) := by
  rw [leftK_app, List.count_singleton]
  by_cases e : o = some k
  · subst e; simp
  · simp [e]
theorem spaced_snoc {a : Int} {row : List (Option Nat)} {o : Option Nat} (h : Spaced row a) (ho : ∀ k, o = some k → ¬ some k ∈ lastA a row) : Spaced (row ++ [o]) a := by
  rintro i j ⟨hij, k, hi, hj, hd⟩
  have hjl := (List.getElem?_eq_some_iff.mp hj).1
  rw [List.length_append, List.length_singleton] at hjl
  rw [List.getElem?_append_left (by omega)] at hi
  by_cases e : j < row.length
  · rw [List.getElem?_append_left e] at hj
    exact h i j ⟨hij, k, hi, hj, hd⟩
  · rw [List.getElem?_append_right (by omega), show j - row.length = 0 by omega] at hj
    have e2 : o = some k := Option.some.inj hj
    exact ho k e2 (mem_lastA.mpr ⟨i, hi, by omega⟩)
theorem OkR.snoc {xs : List Int} {a : Int} {row : List (Option Nat)} {o : Option Nat} (h : OkR xs a row) (ho : o ∈ chs xs a row) : OkR xs a (row ++ [o]) := by
  unfold chs at ho
  rcases List.mem_append.mp ho with ho | ho
  · obtain ⟨k, hk, rfl⟩ := List.mem_map.mp ho
    obtain ⟨h1, h2⟩ := List.mem_filter.mp hk
    have hkl := List.mem_range.mp h1
    unfold mayB at h2
    rw [Bool.and_eq_true, decide_eq_true_eq, Bool.not_eq_true', decide_eq_false_iff_not] at h2
    refine ⟨fun k' hk' => ?_, fun k' hk' => ?_, spaced_snoc h.sp fun k' e => ?_⟩
    · rcases List.mem_append.mp hk' with z | z
      · exact h.kinds k' z
      · rw [Option.some.inj (List.mem_singleton.mp z)]; exact hkl
    · rw [leftK_snoc]
      have := h.left k' hk'
      by_cases e : k = k'
      · subst e
        have := h2.1
        rw [if_pos rfl]
        omega
      · rw [if_neg (fun z => e (Option.some.inj z))]
        omega
    · rw [← Option.some.inj e]; exact h2.2
  · rw [List.mem_singleton.mp ho]
    refine ⟨fun k' hk' => ?_, fun k' hk' => ?_, spaced_snoc h.sp fun k' e => by cases e⟩
    · rcases List.mem_append.mp hk' with z | z
      · exact h.kinds k' z
      · cases List.mem_singleton.mp z
    · rw [leftK_snoc, if_neg (by intro z; cases z)]
      have := h.left k' hk'
      omega
theorem keeps_left {xs : List Int} {a : Int} {row : List (Option Nat)} (h : Keeps xs a row) {k : Nat} (hk : k < xs.length) : leftK xs row k = 0 := by
  have h1 := cntL_get (row := row) hk
  rw [h.2.1] at h1
  unfold leftK
  omega
theorem keeps_of_left {xs : List Int} {a : Int} {row : List (Option Nat)} (h : OkR xs a row) (hl : ∀ k, k < xs.length → leftK xs row k = 0) : Keeps xs a row := by
  refine ⟨h.kinds, ?_, h.sp⟩
  refine List.ext_getElem (by simp [cntL]) fun i h1 h2 => ?_
  have h3 := hl i h2
  unfold leftK at h3
  rw [List.getD_eq_getElem?_getD, List.getElem?_eq_getElem h2] at h3
  simp only [cntL, List.getElem_map, List.getElem_range]
  have h4 : xs[i] - (row.count (some i) : Nat) = 0 := h3
  omega
/-- only what may come leads on -/
theorem Cp_next {xs : List Int} {a : Int} {row : List (Option Nat)} (p : Nat) : Cp xs a row (p + 1) = (chs xs a row).flatMap fun o => (Cp xs a (row ++ [o]) p).map (o :: ·) := by
  rw [Cp_succ]
  unfold opts chs
  rw [List.flatMap_append, List.flatMap_append]
  congr 1
  have e : ((List.range xs.length).filter (mayB xs a row)).map some = ((List.range xs.length).map some).filter (fun o => mayB xs a row (o.getD 0)) := by
    rw [List.filter_map]
    rfl
  rw [e]
  refine flat_drop fun o ho hq => ?_
  obtain ⟨k, hk, rfl⟩ := List.mem_map.mp ho
  have hkl := List.mem_range.mp hk
  have hq' : mayB xs a row k = false := hq
  rw [Cp_nil, List.map_nil]
  intro t _ hkp
  unfold mayB at hq'
  rw [Bool.and_eq_false_iff, decide_eq_false_iff_not, Bool.not_eq_false', decide_eq_true_eq] at hq'
  rcases hq' with h | h
  · have h1 := keeps_left hkp hkl
    rw [leftK_app, leftK_snoc, if_pos rfl] at h1
    omega
  · obtain ⟨i, hi, hd⟩ := mem_lastA.mp h
    have hil := (List.getElem?_eq_some_iff.mp hi).1
    refine hkp.2.2 i row.length ⟨hil, k, ?_, ?_, by omega⟩
    · rw [List.append_assoc, List.getElem?_append_left hil]; exact hi
    · rw [List.append_assoc, List.getElem?_append_right (Nat.le_refl _), Nat.sub_self]; rfl
theorem left_sum (xs : List Int) (row t : List (Option Nat)) : (leftOf xs (row ++ t)).sum = (leftOf xs row).sum - (cntL xs.length t).sum := by
  unfold leftOf cntL
  have h : ∀ n, ((List.range n).map (leftK xs (row ++ t))).sum = ((List.range n).map (leftK xs row)).sum - ((List.range n).map fun k => ((t.count (some k) : Nat) : Int)).sum := fun n => by
    induction n with
    | zero => rfl
    | succ n ih =>
      rw [List.range_succ, List.map_append, List.map_append, List.map_append, List.sum_append, List.sum_append, List.sum_append, ih]
      have := leftK_app xs row t n
      simp only [List.map_cons, List.map_nil, List.sum_cons, List.sum_nil]
      omega
  exact h _
theorem Cp_few {xs : List Int} {a : Int} {row : List (Option Nat)} {p : Nat} (h : (p : Int) < (leftOf xs row).sum) : Cp xs a row p = [] := Cp_nil fun t ht hk => by
  have h1 := left_sum xs row t
  have h2 := cntL_sum xs.length t
  have h3 : (leftOf xs (row ++ t)).sum = 0 := by
    have e : ∀ y ∈ leftOf xs (row ++ t), y = 0 := fun y hy => by
      obtain ⟨k, hk2, rfl⟩ := List.mem_map.mp hy
      exact keeps_left hk (List.mem_range.mp hk2)
    exact sum_zero (fun y hy => by rw [e y hy]; decide) (fun y hy => by rw [e y hy]; decide)
  omega
theorem Cp_done {xs : List Int} {a : Int} {row : List (Option Nat)} (h : OkR xs a row) (hs : (leftOf xs row).sum ≤ 0) : Cp xs a row 0 = [[]] := by
  rw [Cp_zero, if_pos]
  refine keepB_iff.mpr (keeps_of_left h fun k hk => ?_)
  have h0 : ∀ y ∈ leftOf xs row, 0 ≤ y := fun y hy => by
    obtain ⟨k, hk2, rfl⟩ := List.mem_map.mp hy
    exact h.left k (List.mem_range.mp hk2)
  have hm : leftK xs row k ∈ leftOf xs row := List.mem_map.mpr ⟨k, List.mem_range.mpr hk, rfl⟩
  have h1 := h0 _ hm
  have h2 : ∀ {l : List Int}, (∀ y ∈ l, 0 ≤ y) → ∀ y ∈ l, y ≤ l.sum := fun {l} => by
    induction l with
    | nil => intro _ y hy; cases hy
    | cons z r ih =>
      intro h y hy
      rw [List.sum_cons]
      have hz := h z List.mem_cons_self
      have hr := sum_nn fun x hx => h x (List.mem_cons_of_mem _ hx)
      rcases List.mem_cons.mp hy with e | hy
      · rw [e]; omega
      · have := ih (fun x hx => h x (List.mem_cons_of_mem _ hx)) y hy
        omega
  have := h2 h0 _ hm
  omega
/-- what leads on depends on what is left and on the last few places alone -/
theorem spaced_app {a : Int} {row t : List (Option Nat)} (h : Spaced row a) : Spaced (row ++ t) a ↔ Spaced (lastA a row ++ t) a := by
  have hs := lastA_split a row
  have hll := lastA_len a row
  generalize hu : row.take (row.length - min a.toNat row.length) = u at hs
  have hul : u.length = row.length - min a.toNat row.length := by rw [← hu, List.length_take]; omega
  generalize lastA a row = m at hs hll ⊢
  have e : row ++ t = u ++ (m ++ t) := by rw [hs, List.append_assoc]
  rw [e]
  constructor
  · rintro H i j ⟨hij, k, hi, hj, hd⟩
    refine H (u.length + i) (u.length + j) ⟨by omega, k, ?_, ?_, by push_cast; omega⟩
    · rw [List.getElem?_append_right (by omega), Nat.add_sub_cancel_left]; exact hi
    · rw [List.getElem?_append_right (by omega), Nat.add_sub_cancel_left]; exact hj
  · rintro H i j ⟨hij, k, hi, hj, hd⟩
    by_cases hjr : j < row.length
    · refine h i j ⟨hij, k, ?_, ?_, hd⟩
      · rw [← e, List.getElem?_append_left (by omega)] at hi; exact hi
      · rw [← e, List.getElem?_append_left hjr] at hj; exact hj
    · have hiu : u.length ≤ i := by omega
      rw [List.getElem?_append_right hiu] at hi
      rw [List.getElem?_append_right (by omega)] at hj
      exact H _ _ ⟨by omega, k, hi, hj, by omega⟩
theorem Cp_key {xs : List Int} {a : Int} {row row' : List (Option Nat)} (h : OkR xs a row) (h' : OkR xs a row') (hl : leftOf xs row = leftOf xs row') (ht : lastA a row = lastA a row') (p : Nat) : Cp xs a row p = Cp xs a row' p := by
  have one : ∀ {row row' : List (Option Nat)}, OkR xs a row → OkR xs a row' → leftOf xs row = leftOf xs row' → lastA a row = lastA a row' → ∀ t, Keeps xs a (row ++ t) → Keeps xs a (row' ++ t) := fun {row row'} h h' hl ht t hk => by
    have hsp : Spaced (row' ++ t) a := by
      rw [spaced_app h'.sp, ← ht, ← spaced_app h.sp]
      exact hk.2.2
    refine keeps_of_left ⟨fun k z => ?_, fun k z => ?_, hsp⟩ fun k z => ?_
    · rcases List.mem_append.mp z with z | z
      · exact h'.kinds k z
      · exact hk.1 k (List.mem_append_right _ z)
    all_goals
      have h1 := keeps_left hk z
      have h2 : leftK xs row k = leftK xs row' k := by
        have e1 := leftOf_at (row := row) z
        rw [hl, leftOf_at z] at e1
        exact (Option.some.inj e1).symm
      rw [leftK_app] at h1 ⊢
      omega
  unfold Cp
  refine List.filter_congr fun t _ => ?_
  rw [Bool.eq_iff_iff, keepB_iff, keepB_iff]
  exact ⟨one h h' hl ht t, one h' h hl.symm ht.symm t⟩

end Kp
namespace Kp
open PySem L2
/-! ### the law's own way through all rows -/
def thingsN (row : List (Option Nat)) : Nat := (row.filter fun o => decide (o ≠ none)).length
def extL (xs : List Int) (a : Int) (L : Nat) (row : List (Option Nat)) : List (Option Nat) := ((List.range xs.length).filter (mayB xs a row)).map some ++ (if decide ((L : Int) - row.length > xs.sum - thingsN row) = true then [none] else [])
def rowsN (xs : List Int) (a : Int) (L : Nat) : Nat → List (List (Option Nat))
  | 0 => [[]]
  | p + 1 => (rowsN xs a L p).flatMap fun row => (extL xs a L row).map fun o => row ++ [o]
theorem rowsN_row {xs : List Int} {a : Int} {L : Nat} : ∀ {p : Nat} {row : List (Option Nat)}, row ∈ rowsN xs a L p → row.length = p
  | 0, row, h => by
    rw [List.mem_singleton.mp h]
    rfl
  | p + 1, row, h => by
    obtain ⟨r, hr, h⟩ := List.mem_flatMap.mp h
    obtain ⟨o, _, rfl⟩ := List.mem_map.mp h
    rw [List.length_append, rowsN_row hr]
    rfl
theorem extL_len (xs : List Int) (a : Int) (L : Nat) (row : List (Option Nat)) : (extL xs a L row).length ≤ xs.length + 1 := by
  unfold extL
  rw [List.length_append, List.length_map]
  have h := List.length_filter_le (mayB xs a row) (List.range xs.length)
  rw [List.length_range] at h
  split
  · rw [List.length_singleton]; omega
  · rw [List.length_nil]; omega
theorem flat_le {α β : Type} {f : α → List β} {n : Nat} : ∀ {l : List α}, (∀ o ∈ l, (f o).length ≤ n) → (l.flatMap f).length ≤ l.length * n
  | [], _ => Nat.zero_le _
  | o :: r, h => by
    have ih := flat_le (f := f) (n := n) (l := r) fun x hx => h x (List.mem_cons_of_mem _ hx)
    have h1 := h o List.mem_cons_self
    rw [List.flatMap_cons, List.length_append, List.length_cons, Nat.add_mul]
    omega
theorem rowsN_len (xs : List Int) (a : Int) (L : Nat) : ∀ p, (rowsN xs a L p).length ≤ (xs.length + 1) ^ p
  | 0 => Nat.le_refl _
  | p + 1 => by
    rw [Nat.pow_succ]
    refine Nat.le_trans (flat_le (n := xs.length + 1) fun o _ => ?_) (Nat.mul_le_mul_right _ (rowsN_len xs a L p))
    rw [List.length_map]
    exact extL_len _ _ _ _
theorem rowsN_bound {xs : List Int} {a : Int} {L p : Nat} (hx : xs.length ≤ 3) (hp : p ≤ 6) : (rowsN xs a L p).length ≤ 4096 := by
  refine Nat.le_trans (rowsN_len xs a L p) ?_
  refine Nat.le_trans (Nat.pow_le_pow_left (show xs.length + 1 ≤ 4 by omega) p) ?_
  exact Nat.pow_le_pow_right (by decide) hp
theorem flat_take_le {α β : Type} (f : α → List β) : ∀ (l : List α) (j : Nat), ((l.take j).flatMap f).length ≤ (l.flatMap f).length
  | [], _ => by simp
  | o :: r, 0 => by simp
  | o :: r, j + 1 => by
    rw [List.take_succ_cons, List.flatMap_cons, List.flatMap_cons, List.length_append, List.length_append]
    have := flat_take_le f r j
    omega
theorem flat_take_succ {α β : Type} (f : α → List β) {l : List α} {j : Nat} {o : α} (h : l[j]? = some o) : (l.take (j + 1)).flatMap f = (l.take j).flatMap f ++ f o := by
  rw [List.take_add_one, h, List.flatMap_append]
  show _ ++ [o].flatMap f = _
  rw [List.flatMap_cons, List.flatMap_nil, List.append_nil]
theorem cnt_things (n : Nat) : ∀ row : List (Option Nat), (cntL n row).sum ≤ thingsN row
  | [] => by
    have := cntL_sum n []
    exact this
  | o :: r => by
    have h2 := cnt_things n r
    cases o with
    | none =>
      have e : cntL n (none :: r) = cntL n r := by
        unfold cntL
        refine List.map_congr_left fun k _ => ?_
        rw [List.count_cons_of_ne (by intro z; cases z)]
      rw [e]
      exact h2
    | some k =>
      have h1 := cntL_cons n (some k) r
      have e : thingsN (some k :: r) = thingsN r + 1 := by
        unfold thingsN
        rw [List.filter_cons_of_pos (by simp)]
        rfl
      rw [e]
      push_cast
      omega
theorem map_flatCons {row : List (Option Nat)} {f : Option Nat → List (List (Option Nat))} : ∀ l : List (Option Nat), (l.flatMap fun o => (f o).map (o :: ·)).map (row ++ ·) = l.flatMap fun o => (f o).map (row ++ [o] ++ ·)
  | [] => rfl
  | o :: r => by
    rw [List.flatMap_cons, List.map_append, map_flatCons r, List.flatMap_cons, List.map_map]
    congr 2
    funext t
    show row ++ o :: t = row ++ [o] ++ t
    rw [List.append_assoc]
    rfl
theorem flatMap_assoc2 {α β γ : Type} (f : α → List β) (g : β → List γ) : ∀ l : List α, (l.flatMap f).flatMap g = l.flatMap fun x => (f x).flatMap g
  | [] => rfl
  | x :: r => by rw [List.flatMap_cons, List.flatMap_append, flatMap_assoc2 f g r, List.flatMap_cons]
theorem flatMap_map2 {α β γ : Type} (f : α → β) (g : β → List γ) : ∀ l : List α, (l.map f).flatMap g = l.flatMap fun x => g (f x)
  | [] => rfl
  | x :: r => by rw [List.map_cons, List.flatMap_cons, List.flatMap_cons, flatMap_map2 f g r]
theorem flatMap_congr2 {α β : Type} {f g : α → List β} : ∀ {l : List α}, (∀ x ∈ l, f x = g x) → l.flatMap f = l.flatMap g
  | [], _ => rfl
  | x :: r, h => by rw [List.flatMap_cons, List.flatMap_cons, h x List.mem_cons_self, flatMap_congr2 fun y hy => h y (List.mem_cons_of_mem _ hy)]
theorem rowsN_Cp {xs : List Int} {a : Int} {L : Nat} : ∀ {p : Nat}, p ≤ L → ((rowsN xs a L p).flatMap fun row => (Cp xs a row (L - p)).map (row ++ ·)) = Cp xs a [] L
  | 0, _ => by
    show ([[]] : List (List (Option Nat))).flatMap _ = _
    rw [List.flatMap_cons, List.flatMap_nil, List.append_nil, Nat.sub_zero]
    show (Cp xs a [] L).map (fun t => t) = _
    rw [List.map_id']
  | p + 1, h => by
    rw [← rowsN_Cp (p := p) (by omega)]
    show ((rowsN xs a L p).flatMap fun row => (extL xs a L row).map fun o => row ++ [o]).flatMap _ = _
    rw [flatMap_assoc2]
    refine flatMap_congr2 fun row hrow => ?_
    have hl := rowsN_row hrow
    rw [flatMap_map2, show L - p = (L - (p + 1)) + 1 by omega, Cp_next, map_flatCons]
    unfold extL chs
    rw [List.flatMap_append, List.flatMap_append]
    congr 1
    by_cases hc : (L : Int) - row.length > xs.sum - thingsN row
    · rw [if_pos (decide_eq_true hc)]
    · rw [if_neg (by rw [decide_eq_false hc]; exact Bool.false_ne_true), List.flatMap_nil, List.flatMap_cons, List.flatMap_nil, List.append_nil, Cp_few, List.map_nil]
      have h1 := left_sum xs [] (row ++ [none])
      rw [List.nil_append, leftOf_nil] at h1
      have h2 := cnt_things xs.length row
      rw [h1, cntL_none]
      omega
theorem rowsN_end {xs : List Int} {a : Int} {L : Nat} : (rowsN xs a L L).filter (keepB xs a) = Cp xs a [] L := by
  rw [← rowsN_Cp (Nat.le_refl L), Nat.sub_self]
  have h : ∀ l : List (List (Option Nat)), l.filter (keepB xs a) = l.flatMap fun row => (Cp xs a row 0).map (row ++ ·) := fun l => by
    induction l with
    | nil => rfl
    | cons row r ih =>
      rw [List.flatMap_cons, ← ih, Cp_zero]
      cases e : keepB xs a row with
      | true => rw [List.filter_cons_of_pos e, if_pos rfl, List.map_cons, List.map_nil, List.append_nil]; rfl
      | false => rw [List.filter_cons_of_neg (by rw [e]; exact Bool.false_ne_true), if_neg Bool.false_ne_true]; rfl
  exact h _
theorem some_mem_rv (row : List (Option Nat)) : (row.map rv).filter (fun v => decide (v ≠ V.non)) = (row.filter fun o => decide (o ≠ none)).map rv := by
  rw [List.filter_map]
  congr 1
  refine List.filter_congr fun o _ => ?_
  cases o <;> rfl

end Kp
namespace Kp
open PySem L2
/-! ### the memo's keys, what a turn costs -/
def nkO : Option Nat → NestedKey
  | none => .none
  | some k => .num (k : Int)
def keyOf (xs : List Int) (a : Int) (row : List (Option Nat)) (p : Nat) : NestedKey := .tup [.tup ((leftOf xs row).map .num), .tup ((lastA a row).map nkO), .num (p : Int)]
theorem num_inj : ∀ {l l' : List Int}, l.map NestedKey.num = l'.map NestedKey.num → l = l'
  | [], [], _ => rfl
  | [], _ :: _, h => by cases h
  | _ :: _, [], h => by cases h
  | x :: r, y :: r', h => by
    rw [List.map_cons, List.map_cons] at h
    obtain ⟨h1, h2⟩ := List.cons.inj h
    rw [NestedKey.num.inj h1, num_inj h2]
theorem nkO_inj : ∀ {o o' : Option Nat}, nkO o = nkO o' → o = o'
  | none, none, _ => rfl
  | none, some _, h => by cases h
  | some _, none, h => by cases h
  | some x, some y, h => by
    have := NestedKey.num.inj (show NestedKey.num (x : Int) = NestedKey.num (y : Int) from h)
    rw [show x = y by omega]
theorem nkOs_inj : ∀ {l l' : List (Option Nat)}, l.map nkO = l'.map nkO → l = l'
  | [], [], _ => rfl
  | [], _ :: _, h => by cases h
  | _ :: _, [], h => by cases h
  | x :: r, y :: r', h => by
    rw [List.map_cons, List.map_cons] at h
    obtain ⟨h1, h2⟩ := List.cons.inj h
    rw [nkO_inj h1, nkOs_inj h2]
theorem key_inj {xs : List Int} {a : Int} {row row' : List (Option Nat)} {p p' : Nat} (h : keyOf xs a row p = keyOf xs a row' p') : leftOf xs row = leftOf xs row' ∧ lastA a row = lastA a row' ∧ p = p' := by
  have h1 := NestedKey.tup.inj h
  obtain ⟨e1, h2⟩ := List.cons.inj h1
  obtain ⟨e2, h3⟩ := List.cons.inj h2
  obtain ⟨e3, _⟩ := List.cons.inj h3
  refine ⟨num_inj (NestedKey.tup.inj e1), nkOs_inj (NestedKey.tup.inj e2), ?_⟩
  have := NestedKey.num.inj e3
  omega
theorem depth_nums : ∀ l : List Int, NestedKey.depthAll (l.map .num) = 0
  | [] => by simp [NestedKey.depthAll]
  | x :: r => by
    have h := depth_nums r
    simp [NestedKey.depthAll, NestedKey.depth, h]
theorem depth_nkOs : ∀ l : List (Option Nat), NestedKey.depthAll (l.map nkO) = 0
  | [] => by simp [NestedKey.depthAll]
  | o :: r => by
    have h := depth_nkOs r
    cases o <;> simp [NestedKey.depthAll, NestedKey.depth, nkO, h]
theorem key_depth (xs : List Int) (a : Int) (row : List (Option Nat)) (p : Nat) : (keyOf xs a row p).depth ≤ 8 := by
  unfold keyOf
  simp only [NestedKey.depth, NestedKey.depthAll, depth_nums, depth_nkOs]
  decide
theorem nks_nums {H : Hp} : ∀ l : List Int, NKs H (l.map .num) (l.map V.int)
  | [] => .nil
  | x :: r => .cons (.num x) (nks_nums r)
theorem nk_O {H : Hp} : ∀ o : Option Nat, NK H (nkO o) (rv o)
  | none => .none
  | some k => .num (k : Int)
theorem nks_Os {H : Hp} : ∀ l : List (Option Nat), NKs H (l.map nkO) (l.map rv)
  | [] => .nil
  | o :: r => .cons (nk_O o) (nks_Os r)
def cost : Nat → Nat
  | 0 => 0
  | p + 1 => 1 + 5 * cost p
theorem cost_mono {p q : Nat} (h : p ≤ q) : cost p ≤ cost q := by
  induction h with
  | refl => exact Nat.le_refl _
  | step _ ih => exact Nat.le_trans ih (by show _ ≤ 1 + 5 * cost _; omega)
theorem cost_9 {p : Nat} (h : p ≤ 9) : cost p ≤ 500000 := Nat.le_trans (cost_mono h) (by decide)
/-- in how many ways one may go on behind each of the choices -/
noncomputable def waysN (xs : List Int) (a : Int) (row : List (Option Nat)) (p : Nat) (l : List (Option Nat)) : Nat := (l.map fun o => (Cp xs a (row ++ [o]) p).length).sum
theorem ways_nil (xs : List Int) (a : Int) (row : List (Option Nat)) (p : Nat) : waysN xs a row p [] = 0 := rfl
theorem ways_snoc (xs : List Int) (a : Int) (row : List (Option Nat)) (p : Nat) (l : List (Option Nat)) (o : Option Nat) : waysN xs a row p (l ++ [o]) = waysN xs a row p l + (Cp xs a (row ++ [o]) p).length := by
  unfold waysN
  rw [List.map_append, List.sum_append]
  simp
theorem ways_all (xs : List Int) (a : Int) (row : List (Option Nat)) (p : Nat) : waysN xs a row p (chs xs a row) = (Cp xs a row (p + 1)).length := by
  rw [Cp_next, List.length_flatMap]
  unfold waysN
  congr 1
  refine List.map_congr_left fun o _ => ?_
  rw [List.length_map]
theorem chs_len (xs : List Int) (a : Int) (row : List (Option Nat)) : (chs xs a row).length ≤ xs.length + 1 := by
  unfold chs
  rw [List.length_append, List.length_map, List.length_singleton]
  have h := List.length_filter_le (mayB xs a row) (List.range xs.length)
  rw [List.length_range] at h
  omega
theorem leftOf_some {xs : List Int} {row : List (Option Nat)} {k : Nat} (h : k < xs.length) : leftOf xs (row ++ [some k]) = (leftOf xs row).set k (leftK xs row k - 1) := by
  refine List.ext_getElem (by simp [leftOf]) fun i h1 h2 => ?_
  rw [List.getElem_set]
  have hi : i < xs.length := by simpa [leftOf] using h1
  by_cases e : k = i
  · subst e
    rw [if_pos rfl]
    simp only [leftOf, List.getElem_map, List.getElem_range]
    rw [leftK_snoc, if_pos rfl]
  · rw [if_neg e]
    simp only [leftOf, List.getElem_map, List.getElem_range]
    rw [leftK_snoc, if_neg (fun z => e (Option.some.inj z))]
    omega
theorem leftOf_none (xs : List Int) (row : List (Option Nat)) : leftOf xs (row ++ [none]) = leftOf xs row := by
  unfold leftOf
  refine List.map_congr_left fun k _ => ?_
  rw [leftK_snoc, if_neg (by intro z; cases z)]
  omega
theorem cut_last (row : List (Option Nat)) (a : Int) (h : 0 ≤ a) : cutV (row.map rv) (some ((row.length : Int) - min a (row.length : Int))) none = (lastA a row).map rv := by
  have e : (row.length : Int) - min a (row.length : Int) = ((row.length - min a.toNat row.length : Nat) : Int) := by omega
  rw [e]
  unfold cutV lastA
  have h1 : HT.sIx (row.map rv).length 0 (some ((row.length - min a.toNat row.length : Nat) : Int)) = row.length - min a.toNat row.length := by
    rw [HT.sIx_nat, List.length_map]
    omega
  have h2 : HT.sIx (row.map rv).length (row.map rv).length none = row.length := by
    rw [List.length_map]; rfl
  rw [h1, h2, ← List.map_drop, ← List.map_take, List.take_of_length_le]
  rw [List.length_drop]
  omega
theorem chs_kind {xs : List Int} {a : Int} {row : List (Option Nat)} {o : Option Nat} (h : o ∈ chs xs a row) : ∀ k, o = some k → k < xs.length := fun k e => by
  unfold chs at h
  rcases List.mem_append.mp h with h | h
  · obtain ⟨k', hk, e2⟩ := List.mem_map.mp h
    rw [e] at e2
    rw [← Option.some.inj e2]
    exact List.mem_range.mp (List.mem_filter.mp hk).1
  · rw [e] at h
    cases List.mem_singleton.mp h

end Kp
namespace Kp
open PySem L2
/-! ### there is a row of the least length; more places, more rows; the order of rows -/
instance befDec (xs : List Int) (i j : Nat) : Decidable (before xs i j) := by unfold before; exact inferInstance
theorem ks_ex (xs : List Int) : ∃ ks : List Nat, ks.Perm (List.range xs.length) ∧ ks.Pairwise (before xs) := by
  have tr : ∀ i j k, (decide (before xs i j ∨ i = j)) = true → (decide (before xs j k ∨ j = k)) = true → (decide (before xs i k ∨ i = k)) = true := fun i j k h1 h2 => by
    have h1 := of_decide_eq_true h1
    have h2 := of_decide_eq_true h2
    refine decide_eq_true ?_
    rcases h1 with h1 | rfl
    · rcases h2 with h2 | rfl
      · refine .inl ?_
        unfold before at *
        omega
      · exact .inl h1
    · exact h2
  have tot : ∀ i j, ((decide (before xs i j ∨ i = j)) || (decide (before xs j i ∨ j = i))) = true := fun i j => by
    rw [Bool.or_eq_true, decide_eq_true_eq, decide_eq_true_eq]
    unfold before
    omega
  have hp := List.mergeSort_perm (List.range xs.length) (fun i j => decide (before xs i j ∨ i = j))
  have hs := List.pairwise_mergeSort (le := fun i j => decide (before xs i j ∨ i = j)) tr tot (List.range xs.length)
  generalize (List.range xs.length).mergeSort (fun i j => decide (before xs i j ∨ i = j)) = ks at hp hs
  have nd : ks.Nodup := hp.nodup_iff.mpr List.nodup_range
  refine ⟨ks, hp, List.Pairwise.imp (fun {i j} h => ?_) (List.pairwise_and_iff.mpr ⟨hs, nd⟩)⟩
  rcases of_decide_eq_true h.1 with z | z
  · exact z
  · exact absurd z h.2
theorem flat_setO {blocks : List (List Nat)} {i : Nat} (hi : i < blocks.length) (k : Nat) : (blocks.set i (bk blocks i ++ [k])).flatten.length = blocks.flatten.length + 1 ∧ ∀ c, (blocks.set i (bk blocks i ++ [k])).flatten.count c = blocks.flatten.count c + [k].count c := by
  induction blocks generalizing i with
  | nil => simp at hi
  | cons b r ih =>
    cases i with
    | zero =>
      have e : bk (b :: r) 0 = b := rfl
      rw [e, List.set_cons_zero, List.flatten_cons, List.flatten_cons]
      refine ⟨?_, fun c => ?_⟩
      · simp only [List.length_append, List.length_singleton]; omega
      · simp only [List.count_append]; omega
    | succ i =>
      have e : bk (b :: r) (i + 1) = bk r i := rfl
      have h2 := ih (i := i) (by rw [List.length_cons] at hi; omega)
      rw [e, List.set_cons_succ, List.flatten_cons, List.flatten_cons]
      refine ⟨?_, fun c => ?_⟩
      · simp only [List.length_append]; omega
      · have := h2.2 c
        simp only [List.count_append]; omega
theorem spread_ex {n : Nat} (hn : 0 < n) : ∀ (m : Nat) (l : List Nat), l.length = m → ∃ blocks, Spread n l blocks ∧ blocks.flatten.length = l.length ∧ ∀ c, blocks.flatten.count c = l.count c
  | 0, l, h => by
    have e := List.eq_nil_of_length_eq_zero h
    subst e
    exact ⟨_, Spread.nil n, by simp, fun c => by simp⟩
  | m + 1, l, h => by
    have hne : l ≠ [] := fun z => by rw [z] at h; cases h
    have e := List.dropLast_concat_getLast hne
    generalize l.getLast hne = k at e
    obtain ⟨blocks, S, h1, h2⟩ := spread_ex hn m l.dropLast (by rw [List.length_dropLast]; omega)
    rw [← e]
    generalize l.dropLast = r at S h1 h2
    have hf := flat_setO (blocks := blocks) (i := r.length % n) (by rw [S.len]; exact Nat.mod_lt _ hn) k
    exact ⟨_, S.step hn k, by rw [hf.1, h1, List.length_append]; rfl, fun c => by rw [hf.2 c, h2 c, List.count_append]⟩
theorem keeps_ex {xs : List Int} {a g : Int} (fi : Fine a xs) (gr : Gr xs g) : ∃ row, Keeps xs a row ∧ (row.length : Int) = max xs.sum (frN xs a g) := by
  obtain ⟨ks, hp, hs⟩ := ks_ex xs
  by_cases hg : g < 2
  · exact ⟨_, short_small fi gr hg hp hs⟩
  · obtain ⟨blocks, S, h1, h2⟩ := spread_ex (n := (g - 1).toNat) (by omega) _ (deal xs g (thingsOf xs ks)).1 rfl
    exact ⟨_, short_big fi gr (by omega) hp hs S h1 h2⟩
theorem keeps_snoc {xs : List Int} {a : Int} {row : List (Option Nat)} (h : Keeps xs a row) : Keeps xs a (row ++ [none]) := by
  refine ⟨fun k hk => ?_, by rw [cntL_none]; exact h.2.1, spaced_snoc h.2.2 fun k z => by cases z⟩
  rcases List.mem_append.mp hk with z | z
  · exact h.1 k z
  · cases List.mem_singleton.mp z
theorem keeps_cut {xs : List Int} {a : Int} {row : List (Option Nat)} (h : Keeps xs a (row ++ [none])) : Keeps xs a row := by
  refine ⟨fun k hk => h.1 k (List.mem_append_left _ hk), by rw [← cntL_none]; exact h.2.1, fun i j ⟨hij, k, hi, hj, hd⟩ => h.2.2 i j ⟨hij, k, ?_, ?_, hd⟩⟩
  · rw [List.getElem?_append_left (List.getElem?_eq_some_iff.mp hi).1]; exact hi
  · rw [List.getElem?_append_left (List.getElem?_eq_some_iff.mp hj).1]; exact hj
theorem keeps_none {xs : List Int} {a : Int} {row : List (Option Nat)} (h : Keeps xs a row) : Keeps xs a (none :: row) := by
  refine ⟨fun k hk => ?_, ?_, ?_⟩
  · rcases List.mem_cons.mp hk with z | z
    · cases z
    · exact h.1 k z
  · refine Eq.trans ?_ h.2.1
    unfold cntL
    refine List.map_congr_left fun k _ => ?_
    rw [List.count_cons_of_ne (by intro z; cases z)]
  · rintro i j ⟨hij, k, hi, hj, hd⟩
    cases j with
    | zero => exact absurd hij (Nat.not_lt_zero _)
    | succ j =>
      cases i with
      | zero => cases hi
      | succ i => exact h.2.2 i j ⟨by omega, k, hi, hj, by push_cast at hd; omega⟩
theorem keeps_pad {xs : List Int} {a : Int} {row : List (Option Nat)} (h : Keeps xs a row) : ∀ n, Keeps xs a (row ++ List.replicate n none)
  | 0 => by rw [List.replicate_zero, List.append_nil]; exact h
  | n + 1 => by
    rw [List.replicate_succ', ← List.append_assoc]
    exact keeps_snoc (keeps_pad h n)
theorem many_pos {xs : List Int} {a g : Int} {L : Nat} (fi : Fine a xs) (gr : Gr xs g) (hL : max xs.sum (frN xs a g) ≤ L) : 0 < (Cp xs a [] L).length := by
  obtain ⟨row, hk, hl⟩ := keeps_ex fi gr
  refine List.length_pos_of_mem (a := row ++ List.replicate (L - row.length) none) (mem_Cp.mpr ⟨?_, by rw [List.nil_append]; exact keeps_pad hk _⟩)
  rw [List.length_append, List.length_replicate]
  omega
/-- a row that ends with a thing, one place longer -/
theorem later {xs : List Int} {a : Int} : ∀ (n : Nat) (row : List (Option Nat)), row.length = n → Keeps xs a row → (∃ k, some k ∈ row) → ∃ e : List (Option Nat), e.length = n + 1 ∧ Keeps xs a e ∧ ∀ r : List (Option Nat), e ≠ r ++ [none]
  | 0, row, h, _, ⟨k, hk⟩ => by
    rw [List.eq_nil_of_length_eq_zero h] at hk
    cases hk
  | n + 1, row, h, kp, ⟨k, hk⟩ => by
    have hne : row ≠ [] := fun z => by rw [z] at h; cases h
    have e := List.dropLast_concat_getLast hne
    generalize row.getLast hne = o at e
    have hl : row.dropLast.length = n := by rw [List.length_dropLast]; omega
    generalize row.dropLast = r at e hl
    subst e
    cases o with
    | none =>
      obtain ⟨e', h1, h2, h3⟩ := later n r hl (keeps_cut kp) ⟨k, by
        rcases List.mem_append.mp hk with z | z
        · exact z
        · cases List.mem_singleton.mp z⟩
      refine ⟨none :: e', by rw [List.length_cons, h1], keeps_none h2, fun r' z => ?_⟩
      cases r' with
      | nil =>
        have := (List.cons.inj z).2
        rw [this] at h1
        cases h1
      | cons x y => exact h3 y (List.cons.inj z).2
    | some m =>
      refine ⟨none :: (r ++ [some m]), by rw [List.length_cons, h], keeps_none kp, fun r' z => ?_⟩
      have h4 : (none :: r) ++ [some m] = r' ++ [none] := z
      have h5 := (List.append_inj' h4 rfl).2
      cases (List.cons.inj h5).1
theorem many_more {xs : List Int} {a : Int} {L : Nat} (h0 : 0 < xs.sum) (hp : 0 < (Cp xs a [] L).length) : (Cp xs a [] L).length < (Cp xs a [] (L + 1)).length := by
  obtain ⟨row, hrow⟩ : ∃ row, row ∈ Cp xs a [] L := by
    cases e : Cp xs a [] L with
    | nil => rw [e] at hp; exact absurd hp (Nat.lt_irrefl 0)
    | cons x y => exact ⟨x, List.mem_cons_self⟩
  have hr := mem_Cp.mp hrow
  rw [List.nil_append] at hr
  have hsome : ∃ k, some k ∈ row := by
    obtain ⟨k, x, hx, hx0⟩ := sum_pos h0
    have hkl := (List.getElem?_eq_some_iff.mp hx).1
    have h1 := cntL_get (row := row) hkl
    rw [hr.2.2.1, List.getD_eq_getElem?_getD, hx] at h1
    have h2 : x = (row.count (some k) : Nat) := h1
    exact ⟨k, List.count_pos_iff.mp (by omega)⟩
  obtain ⟨e, h1, h2, h3⟩ := later L row hr.1 hr.2 hsome
  have nd : (e :: (Cp xs a [] L).map (· ++ [none])).Nodup := by
    rw [List.nodup_cons]
    refine ⟨fun z => ?_, List.Pairwise.map _ (fun x y hxy z => hxy (List.append_inj' z rfl).1) (Cp_nodup xs a [] L)⟩
    obtain ⟨r, _, z⟩ := List.mem_map.mp z
    exact h3 r z.symm
  have hsub := nodup_sub (l := Cp xs a [] (L + 1)) nd fun x hx => by
    rcases List.mem_cons.mp hx with z | z
    · rw [z]
      exact mem_Cp.mpr ⟨h1, by rw [List.nil_append]; exact h2⟩
    · obtain ⟨r, hr', rfl⟩ := List.mem_map.mp z
      have h4 := mem_Cp.mp hr'
      rw [List.nil_append] at h4
      exact mem_Cp.mpr ⟨by rw [List.length_append, h4.1]; rfl, by rw [List.nil_append]; exact keeps_snoc h4.2⟩
  rw [List.length_cons, List.length_map] at hsub
  omega
/-! ### the order -/
def keyI : Option Nat → Int
  | none => 26
  | some k => k
def keysOf (row : List (Option Nat)) : List Int := row.map keyI
/-- less at the first place that differs -/
def LexLt (ns ms : List Int) : Prop := ∃ i : Nat, ∃ x y : Int, ns[i]? = some x ∧ ms[i]? = some y ∧ x < y ∧ ∀ j, j < i → ns[j]? = ms[j]?
theorem lex_cons {ns ms : List Int} {z : Int} (h : LexLt ns ms) : LexLt (z :: ns) (z :: ms) := by
  obtain ⟨i, x, y, h1, h2, h3, h4⟩ := h
  refine ⟨i + 1, x, y, h1, h2, h3, fun j hj => ?_⟩
  cases j with
  | zero => rfl
  | succ j => exact h4 j (by omega)
theorem opts_sorted {n : Nat} (hn : n ≤ 26) : (opts n).Pairwise fun o o' => keyI o < keyI o' := by
  unfold opts
  rw [List.pairwise_append]
  refine ⟨?_, List.pairwise_singleton _ _, fun x hx y hy => ?_⟩
  · rw [List.pairwise_map]
    exact List.Pairwise.imp (fun {i j} h => by show (i : Int) < (j : Int); omega) List.pairwise_lt_range
  · obtain ⟨k, hk, rfl⟩ := List.mem_map.mp hx
    rw [List.mem_singleton.mp hy]
    have := List.mem_range.mp hk
    show (k : Int) < 26
    omega
theorem allR_sorted {n : Nat} (hn : n ≤ 26) : ∀ p, (allR n p).Pairwise fun r r' => LexLt (keysOf r) (keysOf r')
  | 0 => List.pairwise_singleton _ _
  | p + 1 => by
    show ((opts n).flatMap fun o => (allR n p).map (o :: ·)).Pairwise _
    rw [List.pairwise_flatMap]
    refine ⟨fun o _ => ?_, List.Pairwise.imp (fun {o o'} h x hx y hy => ?_) (opts_sorted hn)⟩
    · rw [List.pairwise_map]
      exact List.Pairwise.imp (fun {r r'} h => lex_cons h) (allR_sorted hn p)
    · obtain ⟨r, _, rfl⟩ := List.mem_map.mp hx
      obtain ⟨r', _, rfl⟩ := List.mem_map.mp hy
      exact ⟨0, keyI o, keyI o', rfl, rfl, h, fun j hj => absurd hj (Nat.not_lt_zero j)⟩
theorem Cp_sorted {xs : List Int} {a : Int} {L i j : Nat} {r r' : List (Option Nat)} (hn : xs.length ≤ 26) (hi : (Cp xs a [] L)[i]? = some r) (hj : (Cp xs a [] L)[j]? = some r') (hij : i < j) : LexLt (keysOf r) (keysOf r') := by
  have h : (Cp xs a [] L).Pairwise fun r r' => LexLt (keysOf r) (keysOf r') := (allR_sorted hn L).filter _
  obtain ⟨h1, e1⟩ := List.getElem?_eq_some_iff.mp hi
  obtain ⟨h2, e2⟩ := List.getElem?_eq_some_iff.mp hj
  have := List.pairwise_iff_getElem.mp h i j h1 h2 hij
  rw [e1, e2] at this
  exact this

end Kp
namespace Kp
open PySem L2
def top (i : Nat) : Stmt := PySem.Challenge.pw_keepaway_k08_whole_numbers_and_rows.main.body.getD i (.Pass ⟨0, 0, 0, 0⟩)
local macro_rules | `(tactic| walk_at "s") => `(tactic| with_reducible first
  | refine up_seq ?_ | refine up_asg ?_ | refine up_name ?_ | refine up_ret ?_ | refine up_if ?_ | refine up_next ?_ | refine up_brk ?_ | refine up_cont ?_ | refine up_drop ?_ | refine up_drK ?_
  | refine up_var (by with_unfolding_all rfl) ?_ | refine up_c ?_ | refine up_op ?_ | refine up_un ?_ | refine up_I0 ?_ | refine up_U ?_ | refine up_eqI ?_ | refine up_neI ?_ | refine up_isN ?_ | refine up_notN ?_
  | refine up_test ?_ | refine up_tB ?_ | refine up_asB ?_ | refine up_and ?_ | refine up_or ?_ | refine up_not ?_ | refine up_notK ?_ | refine up_andVt ?_ | refine up_orVt ?_ | refine up_notVt ?_ | refine up_notV ?_
  | refine up_cons ?_ | refine up_consA ?_ | refine up_consB ?_ | refine up_nil ?_ | refine up_tup ?_ | refine up_lst ?_ | refine up_callT ?_ | refine up_CB ?_ | refine up_BM ?_ | refine up_BM0 ?_
  | refine up_for ?_ | refine up_iList ?_ | refine up_iRng1 ?_ | refine up_iRng2 ?_ | refine up_iRng3 ?_ | refine up_iStr ?_ | refine up_ist ?_ | refine up_lc ?_ | refine up_yes ?_
  | refine up_sub ?_ | refine up_subK ?_ | refine up_sl ?_ | refine up_slK ?_ | refine up_oK ?_ | refine up_noPart ?_ | refine up_part ?_ | refine up_partK ?_ | refine up_tru ?_ | refine up_ifE ?_ | refine up_din ?_ | refine up_dnotin ?_ | refine up_dinA ?_ | refine up_dget ?_ | refine up_dgA ?_ | refine up_dput ?_ | refine up_dpA ?_ | refine up_dpB ?_ | refine up_dget2 ?_ | refine up_d2B ?_ | refine up_dpop1 ?_ | refine up_fld ?_ | refine up_sfld ?_ | refine up_sfA ?_ | refine up_meth ?_ | refine up_make ?_ | refine up_slK ?_ | refine up_max2 ?_ | refine up_min2 ?_ | refine up_callS ?_ | refine up_chain ?_ | refine up_chA ?_ | refine up_chI ?_ | refine up_CK ?_ | refine up_ckA ?_ | refine up_try ?_ | refine up_tryO ?_ | refine up_mtS ?_ | refine up_ndget ?_ | refine up_ngA ?_ | refine up_ndnotin ?_ | refine up_nnA ?_ | refine up_ndput ?_ | refine up_npA ?_ | refine up_npB ?_ | refine up_unE ?_ | refine up_makeX ?_ | refine up_callZ ?_)
local macro_rules | `(tactic| walk_at "r") => `(tactic| repeat (walk_at "s"))
section
variable {P : Program} {w : World} {K : PySem.W.Frag} {mg : Str → Option Value} {base : Heap}

def fCell (K : PySem.W.Frag) : List V → Hp → VK → Prop := fun vs H Q => ∃ (a : Addr) (ns : List Int) (k : Int), vs = [.ref a, .int k] ∧ SqL K H a (ns.map V.int) ∧ 0 ≤ k ∧ Up (Q (.int (cell ns k))) H
abbrev s_law_cell_at : Stmt := top 26
theorem sc_law_cell_at : FnScope ["script", "k"] ["script", "k"] (defScope s_law_cell_at) := ⟨rfl, rfl, rfl, by decide +kernel, rfl, by decide +kernel, by decide +kernel⟩
theorem ok_law_cell_at {f : Addr} {fd : FuncData} (F : Fun K "_law_cell_at" "_law_cell_at" s_law_cell_at f fd) (T : Bl mg) : FnOk P w K mg base CX0 1 f fd ["script", "k"] (KSp (fCell K)) := by
  refine F.ok sc_law_cell_at (fun vs H Q E h => ?_) (fun cdv A outer s H vs Q E hr h => ?_)
  · obtain ⟨_, _, a, ns, k, rfl, _⟩ := h
    rfl
  obtain ⟨H0, e0, a, ns, k, rfl, hS, hk, q⟩ := h
  refine ⟨_, (pss_cons (ps_if (pt_cmpR op_lt (pv 1) (pe_callB kc_len (by rfl) T.len (by decide +kernel) (pa_cons (pv 0) pa_nil)) (by first | exact nomark _ | rfl)) (pss_one (ps_ret (pe_ix (ko_ixL (K := K)) (pv 0) (pv 1) (fun _ _ => rfl)))) pss_nil)
      (pss_one (ps_ret pe_int))), ?_⟩
  refine (?_ : Up _ H0) H e0
  walk_at "r"
  refine up_len hS ?_
  walk_at "r"
  refine up_ifP (fun h => ?_) (fun h => ?_)
  · walk_at "r"
    rw [List.length_map] at h
    refine up_ixL hS (at_of (j := k.toNat) (by omega) (v := .int (cell ns k)) (by
      have hk2 : k.toNat < ns.length := by omega
      rw [List.getElem?_map, List.getElem?_eq_getElem hk2, cell, List.getD_eq_getElem?_getD, List.getElem?_eq_getElem hk2]
      rfl)) ?_
    exact q
  · walk_at "r"
    rw [List.length_map] at h
    have e : cell ns k = 0 := by
      rw [cell, List.getD_eq_getElem?_getD, List.getElem?_eq_none (by omega)]
      rfl
    rw [e] at q
    exact q


def fWhole : List V → Hp → VK → Prop := fun vs H Q => ∃ i : Int, vs = [.int i] ∧ Up (Q (.bl true)) H
abbrev s_law_whole : Stmt := top 27
theorem sc_law_whole : FnScope ["found"] ["found"] (defScope s_law_whole) := ⟨rfl, rfl, rfl, by decide +kernel, rfl, by decide +kernel, by decide +kernel⟩
theorem ok_law_whole {f : Addr} {fd : FuncData} (F : Fun K "_law_whole" "_law_whole" s_law_whole f fd) (T : Bl mg) : FnOk P w K mg base CX0 1 f fd ["found"] (KSp fWhole) := by
  refine F.ok sc_law_whole (fun vs H Q E h => ?_) (fun cdv A outer s H vs Q E hr h => ?_)
  · obtain ⟨_, _, i, rfl, _⟩ := h
    rfl
  obtain ⟨H0, e0, i, rfl, q⟩ := h
  refine ⟨_, (pss_one (ps_ret (pe_and (pe_callB call_isi (by rfl) T.isi (by decide +kernel) (pa_cons (pv 0) (pa_cons (pe_bltn (v := .ty "int") (by rfl) T.int (by decide +kernel) rfl) pa_nil))) (pe_one (pe_not (pe_callB call_isi (by rfl) T.isi (by decide +kernel) (pa_cons (pv 0) (pa_cons (pe_bltn (v := .ty "bool") (by rfl) T.bool (by decide +kernel) rfl) pa_nil)))))))), ?_⟩
  refine (?_ : Up _ H0) H e0
  walk_at "r"
  refine up_isi (.base (.int i)) (r := true) (by decide +kernel) ?_
  refine up_andVK (fun _ => ?_) (fun h => nomatch h)
  walk_at "r"
  refine up_isi (.base (.int i)) (r := false) (by decide +kernel) ?_
  walk_at "r"
  exact q

def fLawList (K : PySem.W.Frag) : List V → Hp → VK → Prop := fun vs H Q => ∃ (p q : Addr) (xs : List V), vs = [.ref p, .ref q] ∧ H p = some (.lst xs) ∧ SqL K H q xs ∧ xs.all flat0 = true ∧ xs.length ≤ 10000 ∧ Up (Q (.bl true)) H
abbrev s_law_list : Stmt := top 29
theorem sc_law_list : FnScope ["found", "due", "k"] ["found", "due"] (defScope s_law_list) := ⟨rfl, rfl, rfl, by decide +kernel, rfl, by decide +kernel, by decide +kernel⟩
theorem ok_law_list {f : Addr} {fd : FuncData} (F : Fun K "_law_list" "_law_list" s_law_list f fd) (T : Bl mg) (c_law_whole : Fn P w K mg base CX0 1 "_law_whole" ["found"] (KSp fWhole)) : FnOk P w K mg base CX0 2 f fd ["found", "due"] (KSp (fLawList K)) := by
  refine F.ok sc_law_list (fun vs H Q E h => ?_) (fun cdv A outer s H vs Q E hr h => ?_)
  · obtain ⟨_, _, p, q, xs, rfl, _⟩ := h
    rfl
  obtain ⟨H0, e0, p, q, xs, rfl, hp, hq, hf, hn, k⟩ := h
  refine ⟨_, (pss_cons (ps_if (PW.pt (pw_or (pt_not (pt_val (pe_callB call_isi (by rfl) T.isi (by decide +kernel) (pa_cons (pv 0) (pa_cons (pe_bltn (v := .ty "list") (by rfl) T.list (by decide +kernel) rfl) pa_nil))))) (pw_or1 (pt_cmpR op_ne (pe_callB kc_len (by rfl) T.len (by decide +kernel) (pa_cons (pv 0) pa_nil)) (pe_callB kc_len (by rfl) T.len (by decide +kernel) (pa_cons (pv 1) pa_nil)) (by first | exact nomark _ | rfl))))) (pss_one (ps_ret pe_bl)) pss_nil)
      (pss_cons (ps_for PassesOwn.never rfl (pi_range1 rfl T.range (pa_cons (pe_callB kc_len (by rfl) T.len (by decide +kernel) (pa_cons (pv 1) pa_nil)) pa_nil)) (pg_name (i := 2) sc_law_list.nd rfl (by first | exact Or.inl rfl | exact Or.inr rfl)) (pss_cons (ps_if (PW.pt (pw_and (pt_cmpR op_notN1 (pe_ix (ko_ixL (K := K)) (pv 0) (pv 2) (fun _ _ => rfl)) pe_non (by first | exact nomark _ | rfl)) (pw_and1 (pt_not (pt_val (kp_call c_law_whole hr (by decide) rfl (pa_cons (pe_ix (ko_ixL (K := K)) (pv 0) (pv 2) (fun _ _ => rfl)) pa_nil))))))) (pss_one (ps_ret pe_bl)) pss_nil)
      (pss_one (ps_if (pt_cmpR op_ne (pe_ix (ko_ixL (K := K)) (pv 0) (pv 2) (fun _ _ => rfl)) (pe_ix (ko_ixL (K := K)) (pv 1) (pv 2) (fun _ _ => rfl)) (by first | exact nomark _ | rfl)) (pss_one (ps_ret pe_bl)) pss_nil))))
      (pss_one (ps_ret pe_bl)))), ?_⟩
  refine (?_ : Up _ H0) H e0
  have hP : SqL K H0 p xs := SqL.of hp
  walk_at "r"
  refine up_isi (.base (.lst hp)) (r := true) (by decide +kernel) ?_
  walk_at "r"
  refine up_orF rfl ?_
  walk_at "r"
  refine up_len hP ?_
  walk_at "r"
  refine up_len hq ?_
  walk_at "r"
  refine up_ifF (by simp) ?_
  walk_at "r"
  refine up_len hq ?_
  walk_at "r"
  refine up_rg1 (by omega) (by omega) ?_
  refine up_forR0 (fun i σ H' => H' = H0 ∧ ∃ v2, σ = [some (.ref p), some (.ref q), v2]) ⟨rfl, none, rfl⟩ ?_ ?_
  · rintro i σ H' hi ⟨rfl, v2, rfl⟩
    have hi' : i < xs.length := by omega
    have hx : atI xs (i : Int) = some xs[i] := atI_nat (List.getElem?_eq_getElem hi')
    have hfx : flat0 xs[i] = true := List.all_eq_true.mp hf _ (List.getElem_mem hi')
    generalize xs[i] = x at hx hfx
    walk_at "r"
    refine up_ixL hP hx ?_
    walk_at "r"
    cases x with
    | non =>
      refine up_andF rfl ?_
      refine up_ifF rfl ?_
      walk_at "r"
      refine up_ixL hP hx ?_
      walk_at "r"
      refine up_ixL hq hx ?_
      refine up_neV rfl ?_
      walk_at "r"
      refine up_ifF (by simp) ?_
      walk_at "r"
      exact up_lo ⟨rfl, _, rfl⟩
    | int j =>
      refine up_andT rfl ?_
      walk_at "r"
      refine up_ixL hP hx ?_
      walk_at "r"
      refine up_call ⟨j, rfl, ?_⟩
      walk_at "r"
      refine up_ifF rfl ?_
      walk_at "r"
      refine up_ixL hP hx ?_
      walk_at "r"
      refine up_ixL hq hx ?_
      walk_at "r"
      refine up_ifF (by simp) ?_
      walk_at "r"
      exact up_lo ⟨rfl, _, rfl⟩
    | _ => cases hfx
  · rintro σ H' ⟨rfl, v2, rfl⟩
    walk_at "r"
    exact k

def fClash (K : PySem.W.Frag) : List V → Hp → VK → Prop := fun vs H Q => ∃ (l : Addr) (row : List (Option Nat)) (apart : Int), vs = [.ref l, .int apart] ∧ SqL K H l (row.map rv) ∧ row.length ≤ 10000 ∧ ∀ r, First row apart r → clRes H Q r
abbrev s_law_clash : Stmt := top 30
theorem sc_law_clash : FnScope ["row", "apart", "b", "a"] ["row", "apart"] (defScope s_law_clash) := ⟨rfl, rfl, rfl, by decide +kernel, rfl, by decide +kernel, by decide +kernel⟩
theorem ok_law_clash {f : Addr} {fd : FuncData} (F : Fun K "_law_clash" "_law_clash" s_law_clash f fd) (T : Bl mg) : FnOk P w K mg base CX0 1 f fd ["row", "apart"] (KSp (fClash K)) := by
  refine F.ok sc_law_clash (fun vs H Q E h => ?_) (fun cdv A outer s H vs Q E hr h => ?_)
  · obtain ⟨_, _, l, row, apart, rfl, _⟩ := h
    rfl
  obtain ⟨H0, e0, l, row, apart, rfl, hS, hn, q⟩ := h
  refine ⟨_, (pss_cons (ps_for PassesOwn.never rfl (pi_range1 rfl T.range (pa_cons (pe_callB kc_len (by rfl) T.len (by decide +kernel) (pa_cons (pv 0) pa_nil)) pa_nil)) (pg_name (i := 2) sc_law_clash.nd rfl (by first | exact Or.inl rfl | exact Or.inr rfl)) (pss_one (ps_for PassesOwn.never rfl (pi_range3 rfl T.range (pa_cons (pe_op op_sub (pv 2) pe_int) (pa_cons (pe_un un_neg pe_int) (pa_cons (pe_un un_neg pe_int) pa_nil)))) (pg_name (i := 3) sc_law_clash.nd rfl (by first | exact Or.inl rfl | exact Or.inr rfl)) (pss_one (ps_if (PW.pt (pw_and (pt_cmpR op_notN1 (pe_ix (ko_ixL (K := K)) (pv 0) (pv 2) (fun _ _ => rfl)) pe_non (by first | exact nomark _ | rfl)) (pw_and (pt_cmpR op_eq (pe_ix (ko_ixL (K := K)) (pv 0) (pv 3) (fun _ _ => rfl)) (pe_ix (ko_ixL (K := K)) (pv 0) (pv 2) (fun _ _ => rfl)) (by first | exact nomark _ | rfl)) (pw_and1 (pt_cmpR op_lt (pe_op op_sub (pe_op op_sub (pv 2) (pv 3)) pe_int) (pv 1) (by first | exact nomark _ | rfl)))))) (pss_one (ps_ret (pe_tup (pa_cons (pv 3) (pa_cons (pv 2) pa_nil))))) pss_nil)))))
      (pss_one (ps_ret pe_non))), ?_⟩
  refine (?_ : Up _ H0) H e0
  have hl : (row.map rv).length = row.length := List.length_map _
  walk_at "r"
  refine up_len hS ?_
  walk_at "r"
  refine up_rg1 (by omega) (by omega) ?_
  refine up_forR (fun i σ H' => H' = H0 ∧ (∃ v2 v3, σ = [some (.ref l), some (.int apart), v2, v3]) ∧ ∀ a b, b < i → ¬ Pc row apart a b) ⟨rfl, ⟨none, none, rfl⟩, fun a b h => absurd h (Nat.not_lt_zero _)⟩ ?_ ?_
  · rintro i σ H' hi ⟨rfl, ⟨v2, v3, rfl⟩, hno⟩
    have hi' : i < row.length := by omega
    walk_at "r"
    refine up_rg3 (by omega) ?_
    refine up_forC (fun t σ H'' => H'' = H' ∧ (∃ v3, σ = [some (.ref l), some (.int apart), some (.int (0 + i)), v3]) ∧ ∀ a, i - t ≤ a → ¬ Pc row apart a i) ⟨rfl, ⟨v3, rfl⟩, fun a h z => absurd z.1 (by omega)⟩ ?_ ?_
    · rintro t σ H'' ht ⟨rfl, ⟨v3, rfl⟩, hno2⟩
      have ha : i - 1 - t < row.length := by omega
      walk_at "r"
      refine up_ixL hS (rv_at (i := i) (by omega) hi') ?_
      walk_at "r"
      have near : ¬ Pc row apart (i - 1 - t) i → Up (Lo (fun σ H' => H' = H'' ∧ (∃ v3, σ = [some (V.ref l), some (V.int apart), some (V.int (0 + ↑i)), v3]) ∧ ∀ a, i - (t + 1) ≤ a → ¬ Pc row apart a i) [some (V.ref l), some (V.int apart), some (V.int (0 + ↑i)), some (V.int (0 + ↑i - 1 + ↑t * -1))]) H'' := fun h => by
        refine up_lo ⟨rfl, ⟨_, rfl⟩, fun a h2 z => ?_⟩
        by_cases e : i - t ≤ a
        · exact hno2 a e z
        · have : a = i - 1 - t := by have := z.1; omega
          rw [this] at z
          exact h z
      refine up_andK (fun h1 => ?_) (fun h1 => ?_)
      · walk_at "r"
        refine up_ixL hS (rv_at (i := i - 1 - t) (by omega) ha) ?_
        walk_at "r"
        refine up_ixL hS (rv_at (i := i) (by omega) hi') ?_
        obtain ⟨k, hk⟩ : ∃ k, row[i] = some k := by
          cases e : row[i] with
          | none => rw [e] at h1; cases h1
          | some k => exact ⟨k, rfl⟩
        refine up_eqV (by rw [hk]; cases row[i - 1 - t] <;> rfl) ?_
        walk_at "r"
        refine up_andK (fun h2 => ?_) (fun h2 => ?_)
        · have h2' := of_decide_eq_true h2
          have e2 : row[i - 1 - t] = some k := by
            rw [hk] at h2'
            cases e : row[i - 1 - t] with
            | none => rw [e] at h2'; cases h2'
            | some m =>
              rw [e] at h2'
              have : (m : Int) = k := V.int.inj h2'
              rw [Int.ofNat.inj this]
          walk_at "r"
          refine up_ifP (fun h3 => ?_) (fun h3 => ?_)
          · walk_at "r"
            have pc : Pc row apart (i - 1 - t) i := ⟨by omega, k, by rw [List.getElem?_eq_getElem ha, e2], by rw [List.getElem?_eq_getElem hi', hk], by omega⟩
            have fi : First row apart (some (i - 1 - t, i)) := ⟨pc, fun a' b' z => by
              by_cases hb : b' < i
              · exact absurd z (hno a' b' hb)
              · by_cases hb2 : b' = i
                · refine .inr ⟨hb2.symm, ?_⟩
                  rw [hb2] at z
                  have : ¬ i - t ≤ a' := fun h => hno2 a' h z
                  omega
                · exact .inl (by omega)⟩
            refine up_tupK (show 2 ≤ 100000 by decide) fun p hp => ?_
            have z := q _ fi p hp
            have e3 : 0 + ↑i - 1 + ↑t * -1 = ((i - 1 - t : Nat) : Int) := by omega
            have e4 : 0 + ↑i = (i : Int) := by omega
            rw [e3, e4]
            exact z
          · walk_at "r"
            exact near fun z => h3 (by have := z.2; obtain ⟨_, _, _, g⟩ := this; omega)
        · refine up_ifF rfl ?_
          walk_at "r"
          refine near fun z => ?_
          obtain ⟨_, m, g1, g2, _⟩ := z
          rw [List.getElem?_eq_getElem ha] at g1
          rw [List.getElem?_eq_getElem hi'] at g2
          rw [Option.some.inj g1, Option.some.inj g2] at h2
          exact absurd (decide_eq_true rfl) (by rw [h2]; decide)
      · refine up_ifF rfl ?_
        walk_at "r"
        refine near fun z => ?_
        obtain ⟨_, m, g1, g2, _⟩ := z
        rw [List.getElem?_eq_getElem hi'] at g2
        rw [Option.some.inj g2] at h1
        cases h1
    · rintro σ H'' ⟨rfl, ⟨v3, rfl⟩, hno2⟩
      refine up_lo ⟨rfl, ⟨_, _, rfl⟩, fun a b h z => ?_⟩
      by_cases hb : b < i
      · exact hno a b hb z
      · have : b = i := by omega
        rw [this] at z
        exact hno2 a (by have := z.1; omega) z
  · rintro σ H' ⟨rfl, ⟨v2, v3, rfl⟩, hno⟩
    walk_at "r"
    refine q none fun a b z => ?_
    refine hno a b ?_ z
    obtain ⟨_, m, _, g2, _⟩ := z
    have := (List.getElem?_eq_some_iff.mp g2).1
    omega

abbrev s_law_keeps : Stmt := top 31
theorem sc_law_keeps : FnScope ["counts", "apart", "row", "kind"] ["counts", "apart", "row"] (defScope s_law_keeps) := ⟨rfl, rfl, rfl, by decide +kernel, rfl, by decide +kernel, by decide +kernel⟩
def fLawKeeps (K : PySem.W.Frag) : List V → Hp → VK → Prop := fun vs H Q => ∃ (c l : Addr) (a : Int) (xs : List Int) (row : List (Option Nat)), vs = [.ref c, .int a, .ref l] ∧ SqL K H c (xs.map V.int) ∧ SqL K H l (row.map rv) ∧ xs.length ≤ 1000 ∧ row.length ≤ 10000 ∧
  ∀ b : Bool, (b = true ↔ Keeps xs a row) → Up (Q (.bl b)) H
theorem ok_law_keeps {f : Addr} {fd : FuncData} (F : Fun K "_law_keeps" "_law_keeps" s_law_keeps f fd) (T : Bl mg) (c_law_clash : Fn P w K mg base CX0 1 "_law_clash" ["row", "apart"] (KSp (fClash K))) : FnOk P w K mg base CX0 2 f fd ["counts", "apart", "row"] (KSp (fLawKeeps K)) := by
  refine F.ok sc_law_keeps (fun vs H Q E h => ?_) (fun cdv A outer s H vs Q E hr h => ?_)
  · obtain ⟨_, _, c, l, a, xs, row, rfl, _⟩ := h
    rfl
  obtain ⟨H0, e0, c, l, a, xs, row, rfl, hC, hS, hn, hm, q⟩ := h
  refine ⟨_, (pss_cons (ps_for PassesOwn.never rfl (pi_list (pv 2)) (pg_name (i := 3) sc_law_keeps.nd rfl (by first | exact Or.inl rfl | exact Or.inr rfl)) (pss_one (ps_if (PW.pt (pw_and (pt_cmpR op_notN1 (pv 3) pe_non (by first | exact nomark _ | rfl)) (pw_and1 (pt_cmpR op_ge (pv 3) (pe_callB kc_len (by rfl) T.len (by decide +kernel) (pa_cons (pv 0) pa_nil)) (by first | exact nomark _ | rfl))))) (pss_one (ps_ret pe_bl)) pss_nil)))
      (pss_cons (ps_if (pt_cmpR (op_neD hr.units) (pe_lc (own := [("kind", 3)]) (g := gName 3) (tt := tYes) rfl sc_law_keeps.nd (pi_range1 rfl T.range (pa_cons (pe_callB kc_len (by rfl) T.len (by decide +kernel) (pa_cons (pv 0) pa_nil)) pa_nil)) (blkOk_by (own := [("kind", 3)]) (N := ["counts", "apart", "row", "kind"]) (sc := defScope s_law_keeps) (by decide +kernel)) (fun _ _ _ _ _ => pg_name (i := 3) sc_law_keeps.nd rfl (by first | exact Or.inl rfl | exact Or.inr rfl)) (fun _ _ _ _ _ => pts_nil) (fun _ _ _ _ _ => (kp_bm (K := K) PySem.F.plainAttrs_list PySem.F.slot_list_count PySem.F.type_list_count (kt_count (K := K)) (pv 2) (pa_cons (pv 3) pa_nil)))) (pv 0) (by first | exact nomark _ | rfl)) (pss_one (ps_ret pe_bl)) pss_nil)
      (pss_one (ps_ret (pe_cmpR op_isN1 (kp_call c_law_clash hr (by decide) rfl (pa_cons (pv 2) (pa_cons (pv 1) pa_nil))) pe_non (by first | exact nomark _ | rfl)))))), ?_⟩
  refine (?_ : Up _ H0) H e0
  walk_at "r"
  refine up_itl hS ?_
  refine up_forL (fun i σ H' => H' = H0 ∧ (∃ v3, σ = [some (.ref c), some (.int a), some (.ref l), v3]) ∧ ∀ k, some k ∈ row.take i → k < xs.length) ⟨rfl, ⟨none, rfl⟩, fun k h => nomatch h⟩ (fun i σ H' _ e => by rw [e.1]; exact hS) ?_ ?_
  · rintro i y σ H' hy ⟨rfl, ⟨v3, rfl⟩, hk⟩
    rw [List.getElem?_map] at hy
    cases ex : row[i]? with
    | none => rw [ex] at hy; cases hy
    | some o =>
      rw [ex] at hy
      have e := Option.some.inj hy
      subst e
      have ht : row.take (i + 1) = row.take i ++ [o] := by rw [List.take_add_one, ex]; rfl
      walk_at "r"
      cases o with
      | none =>
        refine up_andF rfl ?_
        refine up_ifF rfl ?_
        walk_at "r"
        refine up_lo ⟨rfl, ⟨_, rfl⟩, fun k h => ?_⟩
        rw [ht] at h
        rcases List.mem_append.mp h with h | h
        · exact hk k h
        · exact absurd (List.mem_singleton.mp h) (by simp)
      | some m =>
        refine up_andT rfl ?_
        rw [show rv (some m) = V.int (m : Int) from rfl]
        walk_at "r"
        refine up_len hC ?_
        rw [List.length_map]
        walk_at "r"
        refine up_ifP (fun hge => ?_) (fun hlt => ?_)
        · walk_at "r"
          refine q false ⟨(fun z => nomatch z), fun z => ?_⟩
          have := z.1 m (List.mem_of_getElem? ex)
          omega
        · walk_at "r"
          refine up_lo ⟨rfl, ⟨_, rfl⟩, fun k h => ?_⟩
          rw [ht] at h
          rcases List.mem_append.mp h with h | h
          · exact hk k h
          · have e2 := Option.some.inj (List.mem_singleton.mp h)
            omega
  · rintro σ H' ⟨rfl, ⟨v3, rfl⟩, hk⟩
    rw [List.length_map, List.take_length] at hk
    walk_at "r"
    refine up_len hC ?_
    rw [List.length_map]
    walk_at "r"
    refine up_rg1 (by omega) (by omega) ?_
    have sD : ∀ D o, H' D = none → Same H' (upd H' D o) := fun D o hD => same_new hD o
    refine up_lcR0 (fun _ => rfl) (fun D i H2 => H' D = none ∧ H2 = upd H' D (.lst ((cntL i row).map V.int))) (fun D hD => ⟨hD, rfl⟩) ?_ ?_
    · rintro D i H2 hD hi ⟨_, rfl⟩
      walk_at "r"
      refine up_keep1 rfl ?_
      walk_at "r"
      refine up_bmL (sq_up (sD D _ hD) hS) ?_
      walk_at "r"
      refine up_count (sq_up (sD D _ hD) hS) rfl (rv_flatV row) ?_
      rw [cnt_rv]
      refine up_putD upd_same (by rw [List.length_map, cntL_len]; omega) ?_
      refine up_lh ⟨hD, ?_⟩
      rw [upd_upd]
      unfold cntL
      rw [List.range_succ, List.map_append, List.map_append]
      rfl
    · rintro D H2 hD ⟨_, rfl⟩
      rw [Int.toNat_natCast]
      walk_at "r"
      refine up_neLL (SqL.of upd_same) (sq_up (sD D _ hD) hC) (flat0_ints _) (flat0_ints _) ?_
      walk_at "r"
      refine up_ifN (fun hc => ?_) (fun hc => ?_)
      · walk_at "r"
        refine (q false ⟨(fun z => nomatch z), fun z => ?_⟩).mono (sD D _ hD)
        exact absurd (congrArg (List.map V.int) z.2.1) hc
      · have hc' : cntL xs.length row = xs := map_int_inj hc
        walk_at "r"
        refine up_call ⟨l, row, a, rfl, sq_up (sD D _ hD) hS, hm, fun r hr => ?_⟩
        cases r with
        | none =>
          show Up _ _
          walk_at "r"
          exact (q _ ⟨fun _ => ⟨hk, hc', hr⟩, fun _ => decide_eq_true rfl⟩).mono (sD D _ hD)
        | some ab =>
          obtain ⟨x, y⟩ := ab
          intro g hg
          walk_at "r"
          refine (q _ ⟨fun z => ?_, fun z => absurd hr.1 (z.2.2 x y)⟩).mono ((sD D _ hD).trans (same_new hg _))
          cases of_decide_eq_true z

abbrev s_law_counts : Stmt := top 28
theorem sc_law_counts : FnScope ["script", "first", "kinds", "most", "k"] ["script", "first", "kinds", "most"] (defScope s_law_counts) := ⟨rfl, rfl, rfl, by decide +kernel, rfl, by decide +kernel, by decide +kernel⟩
def fCounts (K : PySem.W.Frag) : List V → Hp → VK → Prop := fun vs H Q => ∃ (s : Addr) (ns : List Int) (first kinds most : Int), vs = [.ref s, .int first, .int kinds, .int most] ∧ SqL K H s (ns.map V.int) ∧ 0 ≤ first ∧ 0 ≤ kinds ∧ kinds ≤ 1000 ∧ 0 ≤ most ∧
  ∀ p, H p = none → Up (Q (.ref p)) (upd H p (.lst ((countsOf ns first kinds most).map V.int)))
theorem ok_law_counts {f : Addr} {fd : FuncData} (F : Fun K "_law_counts" "_law_counts" s_law_counts f fd) (T : Bl mg) (c_law_cell_at : Fn P w K mg base CX0 1 "_law_cell_at" ["script", "k"] (KSp (fCell K))) : FnOk P w K mg base CX0 2 f fd ["script", "first", "kinds", "most"] (KSp (fCounts K)) := by
  refine F.ok sc_law_counts (fun vs H Q E h => ?_) (fun cdv A outer s H vs Q E hr h => ?_)
  · obtain ⟨_, _, a, ns, first, kinds, most, rfl, _⟩ := h
    rfl
  obtain ⟨H0, e0, a, ns, first, kinds, most, rfl, hS, h1, h2, h3, h4, q⟩ := h
  refine ⟨_, (pss_one (ps_ret (pe_lc (own := [("k", 4)]) (g := gName 4) (tt := tYes) rfl sc_law_counts.nd (pi_range1 rfl T.range (pa_cons (pv 2) pa_nil)) (blkOk_by (own := [("k", 4)]) (N := ["script", "first", "kinds", "most", "k"]) (sc := defScope s_law_counts) (by decide +kernel)) (fun _ _ _ _ _ => pg_name (i := 4) sc_law_counts.nd rfl (by first | exact Or.inl rfl | exact Or.inr rfl)) (fun _ _ _ _ _ => pts_nil) (fun _ _ _ _ _ => (pe_op op_mod (kp_call c_law_cell_at hr (by decide) rfl (pa_cons (pv 0) (pa_cons (pe_op op_add (pv 1) (pv 4)) pa_nil))) (pe_op op_add (pv 3) pe_int)))))), ?_⟩
  refine (?_ : Up _ H0) H e0
  walk_at "r"
  refine up_rg1 (by omega) (by omega) ?_
  refine up_lcR0 (fun _ => rfl) (fun D i H2 => H0 D = none ∧ H2 = upd H0 D (.lst ((countsOf ns first i most).map V.int))) (fun D hD => ⟨hD, rfl⟩) ?_ ?_
  · rintro D i H2 hD hi ⟨_, rfl⟩
    walk_at "r"
    refine up_keep1 rfl ?_
    walk_at "r"
    refine up_call ⟨a, ns, _, rfl, sq_up (same_new hD _) hS, by omega, ?_⟩
    walk_at "r"
    refine up_I (by omega) ?_
    refine up_putD upd_same (by rw [List.length_map, countsOf_len]; omega) ?_
    refine up_lh ⟨hD, ?_⟩
    rw [upd_upd]
    unfold countsOf
    have e1 : (((i + 1 : Nat)) : Int).toNat = i + 1 := Int.toNat_natCast _
    rw [e1, Int.toNat_natCast, List.range_succ, List.map_append, List.map_append]
    rfl
  · rintro D H2 hD ⟨_, rfl⟩
    have e : ((kinds.toNat : Nat) : Int) = kinds := Int.toNat_of_nonneg h2
    rw [e]
    exact q D hD

abbrev s_see_apart : Stmt := top 7
theorem sc_see_apart : FnScope ["apart"] ["apart"] (defScope s_see_apart) := ⟨rfl, rfl, rfl, by decide +kernel, rfl, by decide +kernel, by decide +kernel⟩
def fSee (NW : Addr) : List V → Hp → VK → XK → Prop := fun vs H Q E => ∃ a : Int, vs = [.int a] ∧ (0 ≤ a ∧ a ≤ 8 → Up (Q .non) H) ∧ (¬ (0 ≤ a ∧ a ≤ 8) → Up (E (.ref NW) none) H)
theorem ok_see_apart {f : Addr} {fd : FuncData} (F : Fun K "see_apart" "see_apart" s_see_apart f fd) (T : Bl mg) {NW : Addr} (e_NoWish : Er K mg "NoWish" NW) : FnOk P w K mg base (L2.CX P w) 1 f fd ["apart"] (KSx (fSee NW)) := by
  refine F.okX sc_see_apart (fun vs H Q E h => ?_) (fun cdv A outer s H vs Q E hr h => ?_)
  · obtain ⟨_, _, a, rfl, _⟩ := h
    rfl
  obtain ⟨H0, e0, a, rfl, q1, q0⟩ := h
  refine ⟨_, (pss_one (ps_if (pt_not (pt_chain op_le op_le pe_int (pv 0) pe_int)) (pss_one (kp_raise rfl (kp_takes rfl rfl rfl rfl) e_NoWish rfl)) pss_nil)), ?_⟩
  refine (?_ : Up _ H0) H e0
  walk_at "r"
  by_cases h : 0 ≤ a ∧ a ≤ 8
  · refine up_ifF (by rw [decide_eq_true h.1, decide_eq_true h.2]; rfl) ?_
    walk_at "r"
    exact q1 h
  · refine up_ifT ?_ ?_
    · rw [Bool.not_eq_true', Bool.and_eq_false_iff, decide_eq_false_iff_not, decide_eq_false_iff_not]
      omega
    · walk_at "r"
      exact up_raise (q0 h)
abbrev s_Wish_init : Stmt := inClass (top 8) 0
theorem sc_Wish_init : FnScope ["self", "counts", "apart", "count"] ["self", "counts", "apart"] (defScope s_Wish_init) := ⟨rfl, rfl, rfl, by decide +kernel, rfl, by decide +kernel, by decide +kernel⟩
def fWishI (K : PySem.W.Frag) (C NW : Addr) : List V → Hp → VK → XK → Prop := fun vs H Q E => ∃ (p l : Addr) (a : Int) (xs : List Int) (dx : Addr), vs = [.ref p, .ref l, .int a] ∧ H p = some (.ins C dx []) ∧ SqL K H l (xs.map V.int) ∧ xs.length ≤ 10000 ∧
  (Fine a xs → ∀ t, H t = none → Up (Q .non) (upd (upd H t (.lst (xs.map V.int))) p (.ins C dx (flW a t)))) ∧ (¬ Fine a xs → Up (E (.ref NW) none) H)
theorem ok_Wish_init {f : Addr} {fd : FuncData} (F : Fun K "__init__" "Wish.__init__" s_Wish_init f fd) (T : Bl mg) {C NW : Addr} (W : Wf K mg C) (e_NoWish : Er K mg "NoWish" NW) (c_see_apart : Fn P w K mg base (L2.CX P w) 1 "see_apart" ["apart"] (KSx (fSee NW))) :
    FnOk P w K mg base (L2.CX P w) 2 f fd ["self", "counts", "apart"] (KSx (fWishI K C NW)) := by
  refine F.okX sc_Wish_init (fun vs H Q E h => ?_) (fun cdv A outer s H vs Q E hr h => ?_)
  · obtain ⟨_, _, p, l, a, xs, dx, rfl, _⟩ := h
    rfl
  obtain ⟨H0, e0, p, l, a, xs, dx, rfl, hp, hS, hn, q1, q0⟩ := h
  refine ⟨_, (pss_cons (ps_if (pt_not (pt_chain op_le op_le pe_int (pe_callB kc_len (by rfl) T.len (by decide +kernel) (pa_cons (pv 1) pa_nil)) pe_int)) (pss_one (kp_raise rfl (kp_takes rfl rfl rfl rfl) e_NoWish rfl)) pss_nil)
      (pss_cons (ps_for (passes_of rfl) rfl (pi_list (pv 1)) (pg_name (i := 3) sc_Wish_init.nd rfl (by first | exact Or.inl rfl | exact Or.inr rfl)) (pss_one (ps_if (pt_not (pt_chain op_le op_le pe_int (pv 3) pe_int)) (pss_one (kp_raise rfl (kp_takes rfl rfl rfl rfl) e_NoWish rfl)) pss_nil)))
      (pss_cons (ps_expr (kp_callX c_see_apart (kp_takes rfl rfl rfl rfl) hr (by decide) rfl (pa_cons (pv 2) pa_nil)))
      (pss_cons (ps_fld (pv 0) (pv 2) rfl)
      (pss_one (ps_fld (pv 0) (pe_callTy kc_list (by rfl) T.list (by decide +kernel) (pa_cons (pv 1) pa_nil)) rfl)))))), ?_⟩
  refine (?_ : Up _ H0) H e0
  have hl : (xs.map V.int).length = xs.length := List.length_map _
  walk_at "r"
  refine up_len hS ?_
  rw [hl]
  walk_at "r"
  by_cases h1 : 1 ≤ xs.length ∧ xs.length ≤ 6
  case neg =>
    refine up_ifT ?_ ?_
    · rw [Bool.not_eq_true', Bool.and_eq_false_iff, decide_eq_false_iff_not, decide_eq_false_iff_not]
      omega
    · walk_at "r"
      exact up_raise (q0 fun z => h1 ⟨z.1, z.2.1⟩)
  refine up_ifF (by rw [decide_eq_true (show (1 : Int) ≤ xs.length by omega), decide_eq_true (show (xs.length : Int) ≤ 6 by omega)]; rfl) ?_
  walk_at "r"
  refine up_itl hS ?_
  refine up_forL (fun i σ H' => H' = H0 ∧ (∃ v3, σ = [some (.ref p), some (.ref l), some (.int a), v3]) ∧ ∀ x ∈ xs.take i, 0 ≤ x ∧ x ≤ 40) ⟨rfl, ⟨none, rfl⟩, fun x h => nomatch h⟩ (fun i σ H' _ e => by rw [e.1]; exact hS) ?_ ?_
  · rintro i y σ H' hy ⟨rfl, ⟨v3, rfl⟩, hno⟩
    rw [List.getElem?_map] at hy
    cases ex : xs[i]? with
    | none => rw [ex] at hy; cases hy
    | some x =>
      rw [ex] at hy
      have e := Option.some.inj hy
      subst e
      walk_at "r"
      by_cases h2 : 0 ≤ x ∧ x ≤ 40
      · refine up_ifF (by rw [decide_eq_true h2.1, decide_eq_true h2.2]; rfl) ?_
        walk_at "r"
        refine up_lo ⟨rfl, ⟨_, rfl⟩, fun z hz => ?_⟩
        rw [List.take_add_one, ex] at hz
        rcases List.mem_append.mp hz with hz | hz
        · exact hno z hz
        · rw [List.mem_singleton.mp hz]; exact h2
      · refine up_ifT ?_ ?_
        · rw [Bool.not_eq_true', Bool.and_eq_false_iff, decide_eq_false_iff_not, decide_eq_false_iff_not]
          omega
        · walk_at "r"
          exact up_raise (q0 fun z => h2 (z.2.2.1 x (List.mem_of_getElem? ex)))
  · rintro σ H' ⟨rfl, ⟨v3, rfl⟩, hno⟩
    rw [hl, List.take_length] at hno
    walk_at "r"
    refine up_csX ⟨a, rfl, fun h3 => ?_, fun h3 => q0 fun z => h3 z.2.2.2⟩
    have fi : Fine a xs := ⟨h1.1, h1.2, hno, h3⟩
    walk_at "r"
    refine up_sfB hp W.cl_Wish W.nA (by decide) ?_
    walk_at "r"
    have hp1 : upd H' p (.ins C dx (putF "apart" (.int a) [])) p = some (.ins C dx (putF "apart" (.int a) [])) := upd_same
    have hS1 : SqL K (upd H' p (.ins C dx (putF "apart" (.int a) []))) l (xs.map V.int) := by
      rcases hS with (hS | ⟨o, hS⟩) | hS
      · have ne : l ≠ p := ne_of hS hp (by intro z; cases z)
        exact .inl (.inl (by rw [upd_ne ne]; exact hS))
      · have ne : l ≠ p := ne_of hS hp (by intro z; cases z)
        exact .inl (.inr ⟨o, by rw [upd_ne ne]; exact hS⟩)
      · exact .inr hS
    refine up_listOf hS1 fun t ht => ?_
    walk_at "r"
    refine up_sfB (up_fresh ht upd_same) W.cl_Wish W.nT (by show 1 < 1000; decide) ?_
    walk_at "r"
    have nt := none_back ht
    refine (q1 fi t nt.1).mono ?_
    intro b u hb
    by_cases e1 : b = p
    · rw [e1, upd_same] at hb
      rw [e1, upd_same]
      exact hb
    · rw [upd_ne e1] at hb
      rw [upd_ne e1]
      by_cases e2 : b = t
      · rw [e2, upd_same] at hb
        rw [e2, upd_same]
        exact hb
      · rw [upd_ne e2] at hb
        rw [upd_ne e2, upd_ne e1]
        exact hb
/-- a wish made of what makes one -/
theorem use_Wish {C NW : Addr} {H : Hp} {Q : VK} {E : XK} {l : Addr} {a : Int} {xs : List Int} (hS : SqL K H l (xs.map V.int)) (fi : Fine a xs) (k : ∀ p H', Same H H' → H p = none → WishAt C H' p a xs → Up (Q (.ref p)) H') :
    Up (mkK C (KSx (fWishI K C NW)) [] E Q [.ref l, .int a]) H := up_mkX fun x dx hx hd ne => by
  have s1 : Same H (upd (upd H dx (.own x)) x (.ins C dx [])) := same_mut (same_new hd _) hx
  refine ⟨x, l, a, xs, dx, rfl, upd_same, sq_up s1 hS, by have := fi.2.1; omega, fun _ t ht => ?_, fun z => absurd fi z⟩
  have nt := none_back ht
  refine up_made (k x _ ?_ hx ⟨dx, t, upd_same, ?_⟩)
  · exact same_mut (s1.trans (same_new ht _)) hx
  · rw [upd_ne nt.2, upd_same]

abbrev s_Wish_things : Stmt := inClass (top 8) 2
theorem sc_Wish_things : FnScope ["self"] ["self"] (defScope s_Wish_things) := ⟨rfl, rfl, rfl, by decide +kernel, rfl, by decide +kernel, by decide +kernel⟩
def fThings (C : Addr) : List V → Hp → VK → Prop := fun vs H Q => ∃ (p : Addr) (a : Int) (xs : List Int), vs = [.ref p] ∧ WishAt C H p a xs ∧ Up (Q (.int xs.sum)) H
theorem ok_Wish_things {f : Addr} {fd : FuncData} (F : Fun K "things" "Wish.things" s_Wish_things f fd) (T : Bl mg) {C : Addr} (W : Wf K mg C) : FnOk P w K mg base CX0 1 f fd ["self"] (KSp (fThings C)) := by
  refine F.ok sc_Wish_things (fun vs H Q E h => ?_) (fun cdv A outer s H vs Q E hr h => ?_)
  · obtain ⟨_, _, p, a, xs, rfl, _⟩ := h
    rfl
  obtain ⟨H0, e0, p, a, xs, rfl, ⟨dx, l, h1, h2⟩, k⟩ := h
  refine ⟨_, (pss_one (ps_ret (pe_callB (cr_sum rfl) (by rfl) T.sum (by decide +kernel) (pa_cons (ko_fld (K := K) (pv 0) rfl) pa_nil)))), ?_⟩
  refine (?_ : Up _ H0) H e0
  walk_at "r"
  refine up_fdK h1 W.cl_Wish W.nT (flW_told _ _) ?_
  walk_at "r"
  refine up_sum (SqL.of h2) ?_
  exact k

abbrev s_clash : Stmt := top 9
theorem sc_clash : FnScope ["row", "apart", "last", "place", "kind"] ["row", "apart"] (defScope s_clash) := ⟨rfl, rfl, rfl, by decide +kernel, rfl, by decide +kernel, by decide +kernel⟩
/-- where each kind was seen last -/
def LastP (row : List (Option Nat)) (i : Nat) (kvs : List (Key × V)) : Prop := ∀ k : Nat,
  (valV kvs (Sum.inl (k : Int) : Key) = none ∧ ∀ a, a < i → row[a]? ≠ some (some k)) ∨ ∃ a : Nat, valV kvs (Sum.inl (k : Int) : Key) = some (.int a) ∧ a < i ∧ row[a]? = some (some k) ∧ ∀ a', a < a' → a' < i → row[a']? ≠ some (some k)
theorem LastP.skip {row : List (Option Nat)} {i : Nat} {kvs : List (Key × V)} (h : LastP row i kvs) (hi : row[i]? = some none) : LastP row (i + 1) kvs := fun k => by
  rcases h k with ⟨h1, h2⟩ | ⟨a, h1, h2, h3, h4⟩
  · refine .inl ⟨h1, fun a ha e => ?_⟩
    by_cases q : a < i
    · exact h2 a q e
    · have : a = i := by omega
      rw [this, hi] at e
      cases e
  · refine .inr ⟨a, h1, by omega, h3, fun a' q1 q2 e => ?_⟩
    by_cases q : a' < i
    · exact h4 a' q1 q e
    · have : a' = i := by omega
      rw [this, hi] at e
      cases e
theorem LastP.put {row : List (Option Nat)} {i m : Nat} {kvs : List (Key × V)} (h : LastP row i kvs) (hi : row[i]? = some (some m)) : LastP row (i + 1) (putK kvs (Sum.inl (m : Int) : Key) (.int i)) := fun k => by
  rw [valV_put]
  by_cases e : k = m
  · subst e
    rw [if_pos rfl]
    exact .inr ⟨i, rfl, by omega, hi, fun a' q1 q2 => by omega⟩
  · have ne : ¬ (Sum.inl (k : Int) : Key) = Sum.inl (m : Int) := fun z => e (by have := Sum.inl.inj z; omega)
    rw [if_neg ne]
    have no : row[i]? ≠ some (some k) := by
      rw [hi]
      intro z
      exact e (Option.some.inj (Option.some.inj z)).symm
    rcases h k with ⟨h1, h2⟩ | ⟨a, h1, h2, h3, h4⟩
    · refine .inl ⟨h1, fun a ha => ?_⟩
      by_cases q : a < i
      · exact h2 a q
      · have : a = i := by omega
        rw [this]
        exact no
    · refine .inr ⟨a, h1, by omega, h3, fun a' q1 q2 => ?_⟩
      by_cases q : a' < i
      · exact h4 a' q1 q
      · have : a' = i := by omega
        rw [this]
        exact no
theorem ok_clash {f : Addr} {fd : FuncData} (F : Fun K "clash" "clash" s_clash f fd) (T : Bl mg) : FnOk P w K mg base CX0 1 f fd ["row", "apart"] (KSp (fClash K)) := by
  refine F.ok sc_clash (fun vs H Q E h => ?_) (fun cdv A outer s H vs Q E hr h => ?_)
  · obtain ⟨_, _, l, row, apart, rfl, _⟩ := h
    rfl
  obtain ⟨H0, e0, l, row, apart, rfl, hS, hn, q⟩ := h
  refine ⟨_, (pss_cons (ps_set (i := 2) sc_clash.nd rfl (by first | exact Or.inl rfl | exact Or.inr rfl) pe_dnewK)
      (pss_cons (ps_for PassesOwn.never rfl (pi_range1 rfl T.range (pa_cons (pe_callB kc_len (by rfl) T.len (by decide +kernel) (pa_cons (pv 0) pa_nil)) pa_nil)) (pg_name (i := 3) sc_clash.nd rfl (by first | exact Or.inl rfl | exact Or.inr rfl)) (pss_cons (ps_set (i := 4) sc_clash.nd rfl (by first | exact Or.inl rfl | exact Or.inr rfl) (pe_ix (ko_ixL (K := K)) (pv 0) (pv 3) (fun _ _ => rfl)))
      (pss_one (ps_if (pt_cmpR op_notN1 (pv 4) pe_non (by first | exact nomark _ | rfl)) (pss_cons (ps_if (PW.pt (pw_and (pt_cmp (pc_din (hu_of hr) (pv 4) (pv 2))) (pw_and1 (pt_cmpR op_lt (pe_op op_sub (pe_op op_sub (pv 3) (pe_dget (hu_of hr) (pv 2) (pv 4) (fun _ _ => rfl))) pe_int) (pv 1) (by first | exact nomark _ | rfl))))) (pss_one (ps_ret (pe_tup (pa_cons (pe_dget (hu_of hr) (pv 2) (pv 4) (fun _ _ => rfl)) (pa_cons (pv 3) pa_nil))))) pss_nil)
      (pss_one (ps_dput (hu_of hr) (pv 2) (pv 4) (pv 3) rfl))) pss_nil))))
      (pss_one (ps_ret pe_non)))), ?_⟩
  refine (?_ : Up _ H0) H e0
  have hl : (row.map rv).length = row.length := List.length_map _
  walk_at "r"
  refine up_dnew fun d hd => ?_
  walk_at "r"
  have hS1 : ∀ o, SqL K (upd H0 d o) l (row.map rv) := fun o => sq_up (same_new hd o) hS
  refine up_len (hS1 _) ?_
  walk_at "r"
  refine up_rg1 (by omega) (by omega) ?_
  refine up_forR0 (fun i σ H' => ∃ kvs, H' = upd H0 d (.dK kvs) ∧ kvs.length ≤ i ∧ (∃ v3 v4, σ = [some (.ref l), some (.int apart), some (.ref d), v3, v4]) ∧ LastP row i kvs ∧ ∀ a b, b < i → ¬ Pc row apart a b)
    ⟨[], rfl, Nat.le_refl _, ⟨none, none, rfl⟩, fun k => .inl ⟨rfl, fun a ha => absurd ha (Nat.not_lt_zero _)⟩, fun a b h => absurd h (Nat.not_lt_zero _)⟩ ?_ ?_
  · rintro i σ H' hi ⟨kvs, rfl, hk, ⟨v3, v4, rfl⟩, hL, hno⟩
    have hi' : i < row.length := by omega
    walk_at "r"
    refine up_ixL (hS1 _) (rv_at (i := i) rfl hi') ?_
    walk_at "r"
    have hri : row[i]? = some row[i] := List.getElem?_eq_getElem hi'
    generalize row[i] = ri at hri ⊢
    cases ri with
    | none =>
      refine up_ifF rfl ?_
      walk_at "r"
      refine up_lo ⟨kvs, rfl, by omega, ⟨_, _, rfl⟩, hL.skip hri, fun a b h z => ?_⟩
      by_cases hb : b < i
      · exact hno a b hb z
      · have e : b = i := by omega
        obtain ⟨_, m, _, g2, _⟩ := z
        rw [e, hri] at g2
        cases g2
    | some m =>
      refine up_ifT rfl ?_
      walk_at "r"
      refine up_dinB upd_same ?_
      walk_at "r"
      -- what follows when there is no clash
      have go : (∀ a, ¬ Pc row apart a i) → Up (Lo (fun σ H' => ∃ kvs, H' = upd H0 d (.dK kvs) ∧ kvs.length ≤ i + 1 ∧ (∃ v3 v4, σ = [some (V.ref l), some (V.int apart), some (V.ref d), v3, v4]) ∧ LastP row (i + 1) kvs ∧ ∀ a b, b < i + 1 → ¬ Pc row apart a b)
          [some (V.ref l), some (V.int apart), some (V.ref d), some (V.int i), some (rv (some m))]) (upd (upd H0 d (.dK kvs)) d (.dK (putK kvs (Sum.inl (m : Int) : Key) (.int i)))) := fun hno2 => by
        refine up_lo ⟨putK kvs (Sum.inl (m : Int) : Key) (.int i), upd_upd, Nat.le_trans (length_putK _ _ _) (by omega), ⟨_, _, rfl⟩, hL.put hri, fun a b h z => ?_⟩
        by_cases hb : b < i
        · exact hno a b hb z
        · have e : b = i := by omega
          rw [e] at z
          exact hno2 a z
      rcases hL m with ⟨h1, h2⟩ | ⟨a, h1, h2, h3, h4⟩
      · rw [h1]
        refine up_andF rfl ?_
        refine up_ifF rfl ?_
        walk_at "r"
        refine up_dpC upd_same (by omega) ?_
        refine go fun a z => ?_
        obtain ⟨g0, m', g1, g2, _⟩ := z
        rw [hri] at g2
        have e : m' = m := (Option.some.inj (Option.some.inj g2)).symm
        rw [e] at g1
        exact h2 a g0 g1
      · rw [h1]
        refine up_andT rfl ?_
        walk_at "r"
        refine up_dgB upd_same h1 ?_
        walk_at "r"
        refine up_ifP (fun h5 => ?_) (fun h5 => ?_)
        · walk_at "r"
          refine up_dgB upd_same h1 ?_
          walk_at "r"
          have pc : Pc row apart a i := ⟨h2, m, h3, hri, by omega⟩
          have fi : First row apart (some (a, i)) := ⟨pc, fun a' b' z => by
            by_cases hb : b' < i
            · exact absurd z (hno a' b' hb)
            · by_cases hb2 : b' = i
              · refine .inr ⟨hb2.symm, ?_⟩
                rw [hb2] at z
                obtain ⟨g0, m', g1, g2, _⟩ := z
                rw [hri] at g2
                have e : m' = m := (Option.some.inj (Option.some.inj g2)).symm
                rw [e] at g1
                by_cases hc : a < a'
                · exact absurd g1 (h4 a' hc g0)
                · omega
              · exact .inl (by omega)⟩
          refine up_tupK (show 2 ≤ 100000 by decide) fun p hp => ?_
          have np := none_back hp
          exact (q _ fi p np.1).mono (same_upd (same_new hd _))
        · walk_at "r"
          refine up_dpC upd_same (by omega) ?_
          refine go fun a' z => ?_
          obtain ⟨g0, m', g1, g2, g3⟩ := z
          rw [hri] at g2
          have e : m' = m := (Option.some.inj (Option.some.inj g2)).symm
          rw [e] at g1
          by_cases hc : a < a'
          · exact h4 a' hc g0 g1
          · omega
  · rintro σ H' ⟨kvs, rfl, hk, ⟨v3, v4, rfl⟩, hL, hno⟩
    walk_at "r"
    refine Up.mono (q none fun a b z => ?_) (same_new hd _)
    refine hno a b ?_ z
    obtain ⟨_, m, _, g2, _⟩ := z
    have := (List.getElem?_eq_some_iff.mp g2).1
    omega

abbrev s_keeps : Stmt := top 10
theorem sc_keeps : FnScope ["wish", "row", "found", "kind"] ["wish", "row"] (defScope s_keeps) := ⟨rfl, rfl, rfl, by decide +kernel, rfl, by decide +kernel, by decide +kernel⟩
def fKeeps (K : PySem.W.Frag) (C : Addr) : List V → Hp → VK → Prop := fun vs H Q => ∃ (p l : Addr) (a : Int) (xs : List Int) (row : List (Option Nat)), vs = [.ref p, .ref l] ∧ WishAt C H p a xs ∧ SqL K H l (row.map rv) ∧ xs.length ≤ 1000 ∧ row.length ≤ 10000 ∧
  ∀ b : Bool, (b = true ↔ Keeps xs a row) → Up (Q (.bl b)) H
theorem ok_keeps {f : Addr} {fd : FuncData} (F : Fun K "keeps" "keeps" s_keeps f fd) (T : Bl mg) {C : Addr} (W : Wf K mg C) (c_clash : Fn P w K mg base CX0 1 "clash" ["row", "apart"] (KSp (fClash K))) : FnOk P w K mg base CX0 2 f fd ["wish", "row"] (KSp (fKeeps K C)) := by
  refine F.ok sc_keeps (fun vs H Q E h => ?_) (fun cdv A outer s H vs Q E hr h => ?_)
  · obtain ⟨_, _, p, l, a, xs, row, rfl, _⟩ := h
    rfl
  obtain ⟨H0, e0, p, l, a, xs, row, rfl, ⟨dx, t, h1, h2⟩, hS, hn, hm, q⟩ := h
  refine ⟨_, (pss_cons (ps_set (i := 2) sc_keeps.nd rfl (by first | exact Or.inl rfl | exact Or.inr rfl) (pe_op op_rep (pe_lst (pa_cons pe_int pa_nil)) (pe_callB kc_len (by rfl) T.len (by decide +kernel) (pa_cons (ko_fld (K := K) (pv 0) rfl) pa_nil))))
      (pss_cons (ps_for PassesOwn.never rfl (pi_list (pv 1)) (pg_name (i := 3) sc_keeps.nd rfl (by first | exact Or.inl rfl | exact Or.inr rfl)) (pss_one (ps_if (pt_cmpR op_notN1 (pv 3) pe_non (by first | exact nomark _ | rfl)) (pss_cons (ps_if (pt_cmpR op_ge (pv 3) (pe_callB kc_len (by rfl) T.len (by decide +kernel) (pa_cons (pv 2) pa_nil)) (by first | exact nomark _ | rfl)) (pss_one (ps_ret pe_bl)) pss_nil)
      (pss_one (ps_asg (pe_op op_add (pe_ix (ko_ixL (K := K)) (pv 2) (pv 3) (fun _ _ => rfl)) pe_int) (pg_sub (pv 2) (pv 3) set_list)))) pss_nil)))
      (pss_one (ps_ret (pe_and (pe_cmpR (op_eqD hr.units) (pv 2) (ko_fld (K := K) (pv 0) rfl) (by first | exact nomark _ | rfl)) (pe_one (pe_cmpR op_isN1 (kp_call c_clash hr (by decide) rfl (pa_cons (pv 1) (pa_cons (ko_fld (K := K) (pv 0) rfl) pa_nil))) pe_non (by first | exact nomark _ | rfl)))))))), ?_⟩
  refine (?_ : Up _ H0) H e0
  walk_at "r"
  refine up_lstK (by decide) fun z hz => ?_
  walk_at "r"
  refine up_fdK (up_fresh hz h1) W.cl_Wish W.nT (flW_told _ _) ?_
  walk_at "r"
  refine up_len (SqL.of (up_fresh hz h2)) ?_
  rw [List.length_map]
  refine up_rep upd_same (by omega) (by omega) (by decide) fun d hd => ?_
  walk_at "r"
  have nd := none_back hd
  have sz0 : Same H0 (upd H0 z (.lst [.int 0])) := same_new hz _
  generalize hB : upd H0 z (.lst [V.int 0]) = B at hd sz0
  have hSd : ∀ o, SqL K (upd B d o) l (row.map rv) := fun o => sq_up (sz0.trans (same_new hd _)) hS
  refine up_itl (hSd _) ?_
  have e0' : (List.replicate ((xs.length : Nat) : Int).toNat [V.int 0]).flatten = (cntL xs.length ([] : List (Option Nat))).map V.int := cntL_nil _
  rw [e0']
  refine up_forL (fun i σ H' => H' = upd B d (.lst ((cntL xs.length (row.take i)).map V.int)) ∧ (∃ v3, σ = [some (.ref p), some (.ref l), some (.ref d), v3]) ∧ ∀ k, some k ∈ row.take i → k < xs.length) ⟨rfl, ⟨none, rfl⟩, fun k h => nomatch h⟩
    (fun i σ H' _ e => by rw [e.1]; exact hSd _) ?_ ?_
  · rintro i y σ H' hy ⟨rfl, ⟨v3, rfl⟩, hk⟩
    rw [List.getElem?_map] at hy
    cases ex : row[i]? with
    | none => rw [ex] at hy; cases hy
    | some o =>
      rw [ex] at hy
      have e := Option.some.inj hy
      subst e
      have ht : row.take (i + 1) = row.take i ++ [o] := by rw [List.take_add_one, ex]; rfl
      walk_at "r"
      cases o with
      | none =>
        refine up_ifF rfl ?_
        walk_at "r"
        refine up_lo ⟨?_, ⟨_, rfl⟩, fun k h => ?_⟩
        · rw [ht, cntL_none]
        · rw [ht] at h
          rcases List.mem_append.mp h with h | h
          · exact hk k h
          · exact absurd (List.mem_singleton.mp h) (by simp)
      | some m =>
        refine up_ifT rfl ?_
        rw [show rv (some m) = V.int (m : Int) from rfl]
        walk_at "r"
        refine up_len (SqL.of upd_same) ?_
        rw [List.length_map, cntL_len]
        walk_at "r"
        refine up_ifP (fun hge => ?_) (fun hlt => ?_)
        · walk_at "r"
          refine (q false ⟨(fun z => nomatch z), fun z => ?_⟩).mono (sz0.trans (same_new hd _))
          have := z.1 m (List.mem_of_getElem? ex)
          omega
        · have hm' : m < xs.length := by omega
          walk_at "r"
          refine up_ixL (SqL.of upd_same) (at_of (j := m) rfl (cntL_at hm')) ?_
          walk_at "r"
          refine up_setL (j := m) upd_same (by
            unfold ixN
            rw [List.length_map, cntL_len, if_pos (by omega), if_pos (by omega)]
            simp) ?_
          refine up_lo ⟨?_, ⟨_, rfl⟩, fun k h => ?_⟩
          · rw [upd_upd, ht, ← cntL_some hm', List.map_set]
          · rw [ht] at h
            rcases List.mem_append.mp h with h | h
            · exact hk k h
            · have e2 := Option.some.inj (List.mem_singleton.mp h)
              omega
  · rintro σ H' ⟨rfl, ⟨v3, rfl⟩, hk⟩
    rw [List.length_map, List.take_length] at hk
    rw [List.length_map, List.take_length]
    have s2 : Same H0 (upd B d (.lst ((cntL xs.length row).map V.int))) := sz0.trans (same_new hd _)
    have h1' := s2 _ _ h1
    have h2' := s2 _ _ h2
    walk_at "r"
    refine up_fdK h1' W.cl_Wish W.nT (flW_told _ _) ?_
    refine up_eqLL (SqL.of upd_same) (SqL.of h2') (flat0_ints _) (flat0_ints _) ?_
    refine up_andVK (fun hc => ?_) (fun hc => ?_)
    · have hc' : cntL xs.length row = xs := map_int_inj (of_decide_eq_true hc)
      walk_at "r"
      refine up_fdK h1' W.cl_Wish W.nA (flW_apart _ _) ?_
      walk_at "r"
      refine up_call ⟨l, row, a, rfl, hSd _, hm, fun r hr => ?_⟩
      cases r with
      | none =>
        show Up _ _
        walk_at "r"
        exact (q _ ⟨fun _ => ⟨hk, hc', hr⟩, fun _ => decide_eq_true rfl⟩).mono s2
      | some ab =>
        obtain ⟨x, y⟩ := ab
        intro g hg
        walk_at "r"
        refine (q _ ⟨fun z => ?_, fun z => absurd hr.1 (z.2.2 x y)⟩).mono (s2.trans (same_new hg _))
        cases of_decide_eq_true z
    · refine (q false ⟨(fun z => nomatch z), fun z => ?_⟩).mono s2
      exact absurd (congrArg (List.map V.int) z.2.1) (of_decide_eq_false hc)

abbrev s_frame : Stmt := top 23
theorem sc_frame : FnScope ["wish", "greatest", "kinds", "kind"] ["wish"] (defScope s_frame) := ⟨rfl, rfl, rfl, by decide +kernel, rfl, by decide +kernel, by decide +kernel⟩
def fFrame (C : Addr) : List V → Hp → VK → Prop := fun vs H Q => ∃ (p : Addr) (a : Int) (xs : List Int), vs = [.ref p] ∧ WishAt C H p a xs ∧ Fine a xs ∧
  ∀ m, Gr xs m → ∀ H' t k, Same H H' → H t = none → H k = none → H' k = some (.lst (vk (frK xs m))) → H' t = some (.tup [.ref k, .int (frN xs a m)]) → Up (Q (.ref t)) H'
theorem ok_frame {f : Addr} {fd : FuncData} (F : Fun K "frame" "frame" s_frame f fd) (T : Bl mg) {C : Addr} (W : Wf K mg C) : FnOk P w K mg base CX0 1 f fd ["wish"] (KSp (fFrame C)) := by
  refine F.ok sc_frame (fun vs H Q E h => ?_) (fun cdv A outer s H vs Q E hr h => ?_)
  · obtain ⟨_, _, p, a, xs, rfl, _⟩ := h
    rfl
  obtain ⟨H0, e0, p, a, xs, rfl, ⟨dx, l, h1, h2⟩, fi, q⟩ := h
  refine ⟨_, (pss_cons (ps_set (i := 1) sc_frame.nd rfl (by first | exact Or.inl rfl | exact Or.inr rfl) (pe_callB (cr_max rfl) (by rfl) T.max (by decide +kernel) (pa_cons (ko_fld (K := K) (pv 0) rfl) pa_nil)))
      (pss_cons (ps_if (pt_cmpR op_eq (pv 1) pe_int (by first | exact nomark _ | rfl)) (pss_one (ps_ret (pe_tup (pa_cons (pe_lst pa_nil) (pa_cons pe_int pa_nil))))) pss_nil)
      (pss_cons (ps_setLc (i := 2) (own := [("kind", 3)]) (g := gName 3) rfl sc_frame.nd rfl rfl (sw_true rfl rfl rfl (by decide +kernel)) (pi_range1 rfl T.range (pa_cons (pe_callB kc_len (by rfl) T.len (by decide +kernel) (pa_cons (ko_fld (K := K) (pv 0) rfl) pa_nil)) pa_nil)) (blkOk_by (own := [("kind", 3)]) (N := ["wish", "greatest", "kinds", "kind"]) (sc := defScope s_frame) (by decide +kernel)) (fun _ _ _ _ _ => pg_name (i := 3) sc_frame.nd rfl (by first | exact Or.inl rfl | exact Or.inr rfl)) (fun _ _ _ _ _ => (pts_one (pt_cmpR op_eq (pe_ix (ko_ixL (K := K)) (ko_fld (K := K) (pv 0) rfl) (pv 3) (fun _ _ => rfl)) (pv 1) (by first | exact nomark _ | rfl)))) (fun _ _ _ _ _ => (pv 3)))
      (pss_one (ps_ret (pe_tup (pa_cons (pv 2) (pa_cons (pe_op op_add (pe_op op_mul (pe_op op_sub (pv 1) pe_int) (pe_op op_add (ko_fld (K := K) (pv 0) rfl) pe_int)) (pe_callB kc_len (by rfl) T.len (by decide +kernel) (pa_cons (pv 2) pa_nil))) pa_nil)))))))), ?_⟩
  refine (?_ : Up _ H0) H e0
  walk_at "r"
  refine up_fdK h1 W.cl_Wish W.nT (flW_told _ _) ?_
  walk_at "r"
  refine up_max (SqL.of h2) (by have := fi.1; omega) fun m hm hmx => ?_
  have gr : Gr xs m := ⟨hm, hmx⟩
  have hmb := fi.2.2.1 m hm
  have hab := fi.2.2.2
  walk_at "r"
  refine up_ifP (fun hz => ?_) (fun hz => ?_)
  · walk_at "r"
    refine up_lstK (by decide) fun k hk => ?_
    walk_at "r"
    refine up_tupK (show 2 ≤ 100000 by decide) fun t ht => ?_
    have nt := none_back ht
    refine q m gr _ t k ((same_new hk _).trans (same_new ht _)) nt.1 hk ?_ ?_
    · rw [up_fresh ht upd_same]
      unfold frK
      rw [if_pos hz]
      rfl
    · rw [upd_same]
      unfold frN
      rw [if_pos hz]
  · walk_at "r"
    refine up_fdK h1 W.cl_Wish W.nT (flW_told _ _) ?_
    walk_at "r"
    refine up_len (SqL.of h2) ?_
    rw [List.length_map]
    walk_at "r"
    have h6 := fi.2.1
    refine up_rg1 (by omega) (by omega) ?_
    refine up_lcR0 (fun _ => rfl) (fun D i H2 => H0 D = none ∧ H2 = upd H0 D (.lst (vk (ksOf xs m i)))) (fun D hD => ⟨hD, rfl⟩) ?_ ?_
    · rintro D i H2 hD hi ⟨_, rfl⟩
      have hix : i < xs.length := by omega
      have hgd : xs.getD i 0 = xs[i] := by rw [List.getD_eq_getElem?_getD, List.getElem?_eq_getElem hix]; rfl
      walk_at "r"
      refine up_fdK (up_fresh hD h1) W.cl_Wish W.nT (flW_told _ _) ?_
      walk_at "r"
      refine up_ixL (SqL.of (up_fresh hD h2)) (at_of (j := i) rfl (v := .int xs[i]) (by rw [List.getElem?_map, List.getElem?_eq_getElem hix]; rfl)) ?_
      walk_at "r"
      refine up_keepP (fun hb => ?_) (fun hb => ?_)
      · walk_at "r"
        refine up_putD upd_same (by have := ksOf_len xs m i; rw [vk_len]; omega) ?_
        refine up_lh ⟨hD, ?_⟩
        rw [upd_upd, ksOf_succ, hgd, if_pos (decide_eq_true hb), vk_app]
        rfl
      · refine up_lh ⟨hD, ?_⟩
        rw [ksOf_succ, hgd, if_neg (by simpa using hb), List.append_nil]
    · rintro D H2 hD ⟨_, rfl⟩
      rw [Int.toNat_natCast]
      walk_at "r"
      refine up_fdK (up_fresh hD h1) W.cl_Wish W.nA (flW_apart _ _) ?_
      walk_at "r"
      refine up_I (.inl ⟨by omega, by omega⟩) ?_
      walk_at "r"
      refine up_len (SqL.of upd_same) ?_
      rw [vk_len]
      walk_at "r"
      refine up_tupK (show 2 ≤ 100000 by decide) fun t ht => ?_
      have nt := none_back ht
      refine q m gr _ t D ((same_new hD _).trans (same_new ht _)) nt.1 hD ?_ ?_
      · rw [up_fresh ht upd_same]
        unfold frK
        rw [if_neg hz]
      · rw [upd_same]
        unfold frN
        rw [if_neg hz]
abbrev s_least_length : Stmt := top 24
theorem sc_least_length : FnScope ["wish"] ["wish"] (defScope s_least_length) := ⟨rfl, rfl, rfl, by decide +kernel, rfl, by decide +kernel, by decide +kernel⟩
def fLeast (C : Addr) : List V → Hp → VK → Prop := fun vs H Q => ∃ (p : Addr) (a : Int) (xs : List Int), vs = [.ref p] ∧ WishAt C H p a xs ∧ Fine a xs ∧ ∀ m, Gr xs m → Up (Q (.int (max xs.sum (frN xs a m)))) H
theorem ok_least_length {f : Addr} {fd : FuncData} (F : Fun K "least_length" "least_length" s_least_length f fd) (T : Bl mg) {C : Addr} (W : Wf K mg C) (c_Wish_things : Mt P w K mg base CX0 1 C "things" ["self"] (KSp (fThings C))) (c_frame : Fn P w K mg base CX0 1 "frame" ["wish"] (KSp (fFrame C))) :
    FnOk P w K mg base CX0 2 f fd ["wish"] (KSp (fLeast C)) := by
  refine F.ok sc_least_length (fun vs H Q E h => ?_) (fun cdv A outer s H vs Q E hr h => ?_)
  · obtain ⟨_, _, p, a, xs, rfl, _⟩ := h
    rfl
  obtain ⟨H0, e0, p, a, xs, rfl, hw, fi, q⟩ := h
  refine ⟨_, (pss_one (ps_ret (pe_callB (kc_max2 rfl) (by rfl) T.max (by decide +kernel) (pa_cons (kp_meth0 c_Wish_things W.cl_Wish hr (by decide) (pv 0)) (pa_cons (pe_ix (ko_ixT (K := K)) (kp_call c_frame hr (by decide) rfl (pa_cons (pv 0) pa_nil)) pe_int (fun _ _ => rfl)) pa_nil))))), ?_⟩
  refine (?_ : Up _ H0) H e0
  have hw' := hw
  obtain ⟨dx, l, h1, h2⟩ := hw
  walk_at "r"
  refine up_mtA h1 rfl ?_
  walk_at "r"
  refine up_mtB ⟨p, a, xs, rfl, hw', ?_⟩
  walk_at "r"
  refine up_call ⟨p, a, xs, rfl, hw', fi, fun m gr H' t k sm ht hk hk1 ht1 => ?_⟩
  walk_at "r"
  refine up_ixT (SqT.of ht1) (at_of (j := 1) rfl rfl) ?_
  walk_at "r"
  exact (q m gr).mono sm

/-- a state: what is left, what stands -/
def StAt (H : Hp) (st : Addr) (xs : List Int) (row : List (Option Nat)) : Prop := ∃ l t, H st = some (.tup [.ref l, .ref t]) ∧ H l = some (.tup ((leftOf xs row).map V.int)) ∧ H t = some (.tup (row.map rv))
theorem StAt.up {H H' : Hp} {st : Addr} {xs : List Int} {row : List (Option Nat)} (h : StAt H st xs row) (e : Same H H') : StAt H' st xs row := by
  obtain ⟨l, t, h1, h2, h3⟩ := h
  exact ⟨l, t, e _ _ h1, e _ _ h2, e _ _ h3⟩
/-- all but d stays -/
def Sb (d : Addr) (H H' : Hp) : Prop := ∀ b u, b ≠ d → H b = some u → H' b = some u
theorem Sb.refl (d : Addr) (H : Hp) : Sb d H H := fun _ _ _ h => h
theorem Sb.trans {d : Addr} {H H' H'' : Hp} (a : Sb d H H') (b : Sb d H' H'') : Sb d H H'' := fun x u n h => b x u n (a x u n h)
theorem Sb.of {d : Addr} {H H' : Hp} (e : Same H H') : Sb d H H' := fun b u _ h => e b u h
theorem Sb.upd {d : Addr} {H : Hp} {o : HO} : Sb d H (upd H d o) := fun b u n h => by rw [upd_ne n]; exact h
theorem Sb.same {d : Addr} {H H' H'' : Hp} (e : Same H H') (h : H d = none) (s : Sb d H' H'') : Same H H'' := fun b u hb => s b u (fun z => by rw [z, h] at hb; cases hb) (e b u hb)
theorem StAt.sb {d : Addr} {H H' : Hp} {st : Addr} {xs : List Int} {row : List (Option Nat)} {φ : Heap → Prop} (h : StAt H st xs row) (e : Sb d H H') (hd : H d = some (.ext φ)) : StAt H' st xs row := by
  obtain ⟨l, t, h1, h2, h3⟩ := h
  have ne : ∀ {b : Addr} {vs : List V}, H b = some (.tup vs) → b ≠ d := fun {b vs} q z => by rw [z, hd] at q; cases q
  exact ⟨l, t, e _ _ (ne h1) h1, e _ _ (ne h2) h2, e _ _ (ne h3) h3⟩
abbrev s_may_come : Stmt := top 13
theorem sc_may_come : FnScope ["state", "kind", "apart"] ["state", "kind", "apart"] (defScope s_may_come) := ⟨rfl, rfl, rfl, by decide +kernel, rfl, by decide +kernel, by decide +kernel⟩
def fMay : List V → Hp → VK → Prop := fun vs H Q => ∃ (st : Addr) (k : Nat) (a : Int) (xs : List Int) (row : List (Option Nat)), vs = [.ref st, .int k, .int a] ∧ StAt H st xs row ∧ k < xs.length ∧ 0 ≤ a ∧ Up (Q (.bl (mayB xs a row k))) H
theorem ok_may_come {f : Addr} {fd : FuncData} (F : Fun K "may_come" "may_come" s_may_come f fd) (T : Bl mg) : FnOk P w K mg base CX0 1 f fd ["state", "kind", "apart"] (KSp fMay) := by
  refine F.ok sc_may_come (fun vs H Q E h => ?_) (fun cdv A outer s H vs Q E hr h => ?_)
  · obtain ⟨_, _, st, k, a, xs, row, rfl, _⟩ := h
    rfl
  obtain ⟨H0, e0, st, k, a, xs, row, rfl, ⟨l, t, h1, h2, h3⟩, hk, ha, q⟩ := h
  refine ⟨_, (pss_one (ps_ret (pe_and (pe_cmpR op_gt (pe_ix (ko_ixT (K := K)) (pe_ix (ko_ixT (K := K)) (pv 0) pe_int (fun _ _ => rfl)) (pv 1) (fun _ _ => rfl)) pe_int (by first | exact nomark _ | rfl)) (pe_one (pe_cmpR (ko_notIn (K := K)) (pv 1) (pe_slice sl_tupA (pe_ix (ko_ixT (K := K)) (pv 0) pe_int (fun _ _ => rfl)) (po_some (pe_op op_sub (pe_callB kc_len (by rfl) T.len (by decide +kernel) (pa_cons (pe_ix (ko_ixT (K := K)) (pv 0) pe_int (fun _ _ => rfl)) pa_nil)) (pe_callB (kc_min2 rfl) (by rfl) T.min (by decide +kernel) (pa_cons (pv 2) (pa_cons (pe_callB kc_len (by rfl) T.len (by decide +kernel) (pa_cons (pe_ix (ko_ixT (K := K)) (pv 0) pe_int (fun _ _ => rfl)) pa_nil)) pa_nil))))) po_none) (by first | exact nomark _ | rfl)))))), ?_⟩
  refine (?_ : Up _ H0) H e0
  walk_at "r"
  refine up_ixT (SqT.of h1) (at_of (j := 0) rfl rfl) ?_
  walk_at "r"
  refine up_ixT (SqT.of h2) (at_of (j := k) rfl (v := .int (leftK xs row k)) (by rw [List.getElem?_map, leftOf_at hk]; rfl)) ?_
  walk_at "r"
  refine up_andVK (fun hb => ?_) (fun hb => ?_)
  · walk_at "r"
    refine up_ixT (SqT.of h1) (at_of (j := 1) rfl rfl) ?_
    walk_at "r"
    refine up_ixT (SqT.of h1) (at_of (j := 1) rfl rfl) ?_
    walk_at "r"
    refine up_lenT (SqT.of h3) ?_
    rw [List.length_map]
    walk_at "r"
    refine up_ixT (SqT.of h1) (at_of (j := 1) rfl rfl) ?_
    walk_at "r"
    refine up_lenT (SqT.of h3) ?_
    rw [List.length_map]
    walk_at "r"
    refine up_slA h3 fun p H' sm hp => ?_
    rw [cut_last row a ha] at hp
    refine up_inT (neg := true) (SqT.of hp) rfl (rv_flatV _) ?_
    rw [in_rv]
    have e : mayB xs a row k = !decide (some k ∈ lastA a row) := by
      unfold mayB
      have hb' : decide (0 < leftK xs row k) = true := hb
      rw [hb', Bool.true_and]
    rw [e] at q
    exact q.mono sm
  · have e : mayB xs a row k = false := by
      unfold mayB
      have hb' : decide (0 < leftK xs row k) = false := hb
      rw [hb', Bool.false_and]
    rw [e] at q
    exact q
abbrev s_next_state : Stmt := top 14
theorem sc_next_state : FnScope ["state", "kind", "left"] ["state", "kind"] (defScope s_next_state) := ⟨rfl, rfl, rfl, by decide +kernel, rfl, by decide +kernel, by decide +kernel⟩
def fNext : List V → Hp → VK → Prop := fun vs H Q => ∃ (st : Addr) (o : Option Nat) (xs : List Int) (row : List (Option Nat)), vs = [.ref st, rv o] ∧ StAt H st xs row ∧ (∀ k, o = some k → k < xs.length) ∧ row.length ≤ 1000 ∧
  ∀ H' st', Same H H' → StAt H' st' xs (row ++ [o]) → Up (Q (.ref st')) H'
theorem ok_next_state {f : Addr} {fd : FuncData} (F : Fun K "next_state" "next_state" s_next_state f fd) (T : Bl mg) : FnOk P w K mg base CX0 1 f fd ["state", "kind"] (KSp fNext) := by
  refine F.ok sc_next_state (fun vs H Q E h => ?_) (fun cdv A outer s H vs Q E hr h => ?_)
  · obtain ⟨_, _, st, o, xs, row, rfl, _⟩ := h
    rfl
  obtain ⟨H0, e0, st, o, xs, row, rfl, ⟨l, t, h1, h2, h3⟩, ho, hn, q⟩ := h
  refine ⟨_, (pss_cons (ps_set (i := 2) sc_next_state.nd rfl (by first | exact Or.inl rfl | exact Or.inr rfl) (pe_callTy kc_list (by rfl) T.list (by decide +kernel) (pa_cons (pe_ix (ko_ixT (K := K)) (pv 0) pe_int (fun _ _ => rfl)) pa_nil)))
      (kp_cut (ps_if (pt_cmpR op_notN1 (pv 1) pe_non (by first | exact nomark _ | rfl)) (pss_one (ps_asg (pe_op op_sub (pe_ix (ko_ixL (K := K)) (pv 2) (pv 1) (fun _ _ => rfl)) pe_int) (pg_sub (pv 2) (pv 1) set_list))) pss_nil)
      (pss_one (ps_ret (pe_tup (pa_cons (pe_callTy kc_tuple (by rfl) T.tuple (by decide +kernel) (pa_cons (pv 2) pa_nil)) (pa_cons (pe_op op_catA (pe_ix (ko_ixT (K := K)) (pv 0) pe_int (fun _ _ => rfl)) (pe_tup (pa_cons (pv 1) pa_nil))) pa_nil))))))), ?_⟩
  refine (?_ : Up _ H0) H e0
  walk_at "r"
  refine up_ixT (SqT.of h1) (at_of (j := 0) rfl rfl) ?_
  walk_at "r"
  refine up_listOfT (SqT.of h2) fun z hz => ?_
  walk_at "r"
  have sz0 := same_new hz (.lst ((leftOf xs row).map V.int))
  refine up_cut (fun σ H' => Same H0 H' ∧ H' z = some (.lst ((leftOf xs (row ++ [o])).map V.int)) ∧ σ = [some (.ref st), some (rv o), some (.ref z)]) ?_ ?_
  · walk_at "r"
    cases o with
    | none =>
      refine up_ifF rfl ?_
      walk_at "r"
      refine up_lo ⟨sz0, ?_, rfl⟩
      rw [leftOf_none]
      exact upd_same
    | some k =>
      have hk := ho k rfl
      refine up_ifT rfl ?_
      rw [show rv (some k) = V.int (k : Int) from rfl]
      walk_at "r"
      refine up_ixL (SqL.of upd_same) (at_of (j := k) rfl (v := .int (leftK xs row k)) (by rw [List.getElem?_map, leftOf_at hk]; rfl)) ?_
      walk_at "r"
      refine up_setL (j := k) upd_same (by
        unfold ixN
        rw [List.length_map, leftOf_len, if_pos (by omega), if_pos (by omega)]
        simp) ?_
      refine up_lo ⟨same_mut sz0 hz, ?_, rfl⟩
      rw [upd_same, leftOf_some hk, List.map_set]
  · rintro σ H' ⟨sm, hz', rfl⟩
    walk_at "r"
    refine up_tupOf (SqL.of hz') fun t1 ht1 => ?_
    walk_at "r"
    have s1 := same_new ht1 (.tup ((leftOf xs (row ++ [o])).map V.int))
    refine up_ixT (SqT.of (s1 _ _ (sm _ _ h1))) (at_of (j := 1) rfl rfl) ?_
    walk_at "r"
    refine up_tupK (show 1 ≤ 100000 by decide) fun t2 ht2 => ?_
    have s2 := same_new ht2 (.tup [rv o])
    refine up_catA (s2 _ _ (s1 _ _ (sm _ _ h3))) upd_same (by rw [List.length_map, List.length_singleton]; omega) fun t3 H3 s3 ht3 => ?_
    walk_at "r"
    refine up_tupK (show 2 ≤ 100000 by decide) fun t4 ht4 => ?_
    have s4 := same_new ht4 (.tup [.ref t1, .ref t3])
    refine q _ t4 ((((sm.trans s1).trans s2).trans s3).trans s4) ⟨t1, t3, upd_same, s4 _ _ (s3 _ _ (s2 _ _ upd_same)), ?_⟩
    rw [List.map_append]
    exact s4 _ _ ht3
abbrev s_choices : Stmt := top 15
theorem sc_choices : FnScope ["state", "apart", "kind"] ["state", "apart"] (defScope s_choices) := ⟨rfl, rfl, rfl, by decide +kernel, rfl, by decide +kernel, by decide +kernel⟩
def fChoices : List V → Hp → VK → Prop := fun vs H Q => ∃ (st : Addr) (a : Int) (xs : List Int) (row : List (Option Nat)), vs = [.ref st, .int a] ∧ StAt H st xs row ∧ 0 ≤ a ∧ xs.length ≤ 1000 ∧
  ∀ H' p, Same H H' → H p = none → H' p = some (.lst ((chs xs a row).map rv)) → Up (Q (.ref p)) H'
theorem ok_choices {f : Addr} {fd : FuncData} (F : Fun K "choices" "choices" s_choices f fd) (T : Bl mg) (c_may_come : Fn P w K mg base CX0 1 "may_come" ["state", "kind", "apart"] (KSp fMay)) : FnOk P w K mg base CX0 2 f fd ["state", "apart"] (KSp fChoices) := by
  refine F.ok sc_choices (fun vs H Q E h => ?_) (fun cdv A outer s H vs Q E hr h => ?_)
  · obtain ⟨_, _, st, a, xs, row, rfl, _⟩ := h
    rfl
  obtain ⟨H0, e0, st, a, xs, row, rfl, S, ha, hn, q⟩ := h
  obtain ⟨l, t, h1, h2, h3⟩ := id S
  refine ⟨_, (pss_one (ps_ret (pe_op op_cat (pe_lc (own := [("kind", 2)]) (g := gName 2) rfl sc_choices.nd (pi_range1 rfl T.range (pa_cons (pe_callB kc_len (by rfl) T.len (by decide +kernel) (pa_cons (pe_ix (ko_ixT (K := K)) (pv 0) pe_int (fun _ _ => rfl)) pa_nil)) pa_nil)) (blkOk_by (own := [("kind", 2)]) (N := ["state", "apart", "kind"]) (sc := defScope s_choices) (by decide +kernel)) (fun _ _ _ _ _ => pg_name (i := 2) sc_choices.nd rfl (by first | exact Or.inl rfl | exact Or.inr rfl)) (fun _ _ _ _ _ => (pts_one (pt_val (kp_call c_may_come hr (by decide) rfl (pa_cons (pv 0) (pa_cons (pv 2) (pa_cons (pv 1) pa_nil))))))) (fun _ _ _ _ _ => (pv 2))) (pe_lst (pa_cons pe_non pa_nil))))), ?_⟩
  refine (?_ : Up _ H0) H e0
  walk_at "r"
  refine up_ixT (SqT.of h1) (at_of (j := 0) rfl rfl) ?_
  walk_at "r"
  refine up_lenT (SqT.of h2) ?_
  rw [List.length_map, leftOf_len]
  walk_at "r"
  refine up_rg1 (by omega) (by omega) ?_
  rw [Int.toNat_natCast]
  refine up_lcR0 (fun _ => rfl) (fun D i H' => H0 D = none ∧ H' = upd H0 D (.lst ((((List.range i).filter (mayB xs a row)).map some).map rv))) (fun D hD => ⟨hD, rfl⟩) ?_ ?_
  · rintro D i H' hD hi ⟨_, rfl⟩
    have hsucc : (List.range (i + 1)).filter (mayB xs a row) = (List.range i).filter (mayB xs a row) ++ (if mayB xs a row i = true then [i] else []) := by
      rw [List.range_succ, List.filter_append]
      simp only [List.filter_cons, List.filter_nil]
    walk_at "r"
    refine up_call ⟨st, i, a, xs, row, rfl, S.up (same_new hD _), hi, ha, ?_⟩
    walk_at "r"
    refine up_keepB (fun h => ?_) (fun h => ?_)
    · walk_at "r"
      have := List.length_filter_le (mayB xs a row) (List.range i)
      rw [List.length_range] at this
      refine up_putD upd_same (by rw [List.length_map, List.length_map]; omega) ?_
      refine up_lh ⟨hD, ?_⟩
      rw [upd_upd, hsucc, h, if_pos rfl, List.map_append, List.map_append]
      rfl
    · refine up_lh ⟨hD, ?_⟩
      rw [hsucc, h, if_neg Bool.false_ne_true, List.append_nil]
  · rintro D H' hD ⟨_, rfl⟩
    walk_at "r"
    refine up_lstK (show 1 ≤ 100000 by decide) fun u hu => ?_
    have hlen := List.length_filter_le (mayB xs a row) (List.range xs.length)
    rw [List.length_range] at hlen
    refine up_cat (up_fresh hu upd_same) upd_same (by rw [List.length_map, List.length_map, List.length_singleton]; omega) fun p hp => ?_
    have np := none_back (none_back hp).1
    refine q _ p (((same_new hD _).trans (same_new hu _)).trans (same_new hp _)) np.1 ?_
    rw [upd_same]
    unfold chs
    rw [List.map_append]
    rfl
/-- what the memo holds is right -/
structure Memo (P : Program) (w : World) (H : Hp) (d : Addr) (xs : List Int) (a : Int) (kvs : Nt) : Prop where
  nd : NdAt P w H d kvs
  ok : ∀ e ∈ kvs, ∀ row p, OkR xs a row → e.1 = keyOf xs a row p → e.2.2 = .int ((Cp xs a row p).length : Nat)
theorem Memo.up {P : Program} {w : World} {H H' : Hp} {d : Addr} {xs : List Int} {a : Int} {kvs : Nt} (m : Memo P w H d xs a kvs) (e : Same H H') : Memo P w H' d xs a kvs := ⟨m.nd.up e, m.ok⟩
theorem Memo.new {P : Program} {w : World} {H : Hp} {d : Addr} {xs : List Int} {a : Int} (h : H d = some (.ext (ndF P w d []))) : Memo P w H d xs a [] := ⟨⟨h, fun x hx => by cases hx⟩, fun e he => by cases he⟩
theorem Memo.put {P : Program} {w : World} {H : Hp} {d b : Addr} {xs : List Int} {a : Int} {kvs : Nt} {row : List (Option Nat)} {p : Nat} (m : Memo P w H d xs a kvs) (hok : OkR xs a row) (hk : NK H (keyOf xs a row p) (.ref b)) :
    Memo P w (upd H d (.ext (ndF P w d (putN kvs (keyOf xs a row p) b (.int ((Cp xs a row p).length : Nat)))))) d xs a (putN kvs (keyOf xs a row p) b (.int ((Cp xs a row p).length : Nat))) := by
  refine ⟨m.nd.put hk (key_depth _ _ _ _), fun e he row' p' hok' hkey => ?_⟩
  rcases putN_mem he with h | ⟨h1, h2, _⟩
  · exact m.ok e h row' p' hok' hkey
  · rw [h2]
    rw [h1] at hkey
    obtain ⟨k1, k2, k3⟩ := key_inj hkey
    subst k3
    rw [Cp_key hok hok' k1 k2]
abbrev s_many_from : Stmt := top 16
theorem sc_many_from : FnScope ["state", "places", "apart", "known", "key", "total", "kind"] ["state", "places", "apart", "known"] (defScope s_many_from) := ⟨rfl, rfl, rfl, by decide +kernel, rfl, by decide +kernel, by decide +kernel⟩
def fMany (P : Program) (w : World) (n : Nat) : List V → Hp → VK → Prop := fun vs H Q => ∃ (st d : Addr) (p : Nat) (a : Int) (xs : List Int) (row : List (Option Nat)) (kvs : Nt), vs = [.ref st, .int p, .int a, .ref d] ∧ StAt H st xs row ∧ OkR xs a row ∧ 0 ≤ a ∧ xs.length ≤ 4 ∧ row.length + p ≤ 100 ∧ p < n ∧ Memo P w H d xs a kvs ∧ kvs.length + cost p ≤ 10000000 ∧
  ∀ H' kvs', Sb d H H' → Memo P w H' d xs a kvs' → kvs'.length ≤ kvs.length + cost p → Up (Q (.int ((Cp xs a row p).length : Nat))) H'
theorem many_zero {P : Program} {w : World} {K : PySem.W.Frag} {mg : Str → Option Value} {base : Heap} {f : Addr} {fd : FuncData} : FnOk P w K mg base CX0 2 f fd ["state", "places", "apart", "known"] (KSp (fMany P w 0)) := by
  refine ⟨fun vs H Q E h => ?_, fun A outer s H args us vs Q E hr he hb hv h => ?_⟩
  · obtain ⟨_, _, st, d, p, a, xs, row, kvs, _, _, _, _, _, _, hp, _⟩ := h
    exact absurd hp (Nat.not_lt_zero p)
  · obtain ⟨_, _, st, d, p, a, xs, row, kvs, _, _, _, _, _, _, hp, _⟩ := h
    exact absurd hp (Nat.not_lt_zero p)
theorem many_step {f : Addr} {fd : FuncData} (F : Fun K "many_from" "many_from" s_many_from f fd) (T : Bl mg) (n : Nat) (c_choices : Fn P w K mg base CX0 2 "choices" ["state", "apart"] (KSp fChoices)) (c_next_state : Fn P w K mg base CX0 1 "next_state" ["state", "kind"] (KSp fNext)) (c_many_from : Fn P w K mg base CX0 (2 + n) "many_from" ["state", "places", "apart", "known"] (KSp (fMany P w n))) :
    FnOk P w K mg base CX0 (2 + n + 1) f fd ["state", "places", "apart", "known"] (KSp (fMany P w (n + 1))) := by
  refine F.ok sc_many_from (fun vs H Q E h => ?_) (fun cdv A outer s H vs Q E hr h => ?_)
  · obtain ⟨_, _, st, d, p, a, xs, row, kvs, rfl, _⟩ := h
    rfl
  obtain ⟨H0, e0, st, d, p, a, xs, row, kvs, rfl, S, hok, ha, hx4, hl100, hpn, M, hcost, q⟩ := h
  obtain ⟨l, t, h1, h2, h3⟩ := id S
  refine ⟨_, (pss_cons (ps_if (pt_cmpR op_gt (pe_callB (cr_sumT rfl) (by rfl) T.sum (by decide +kernel) (pa_cons (pe_ix (ko_ixT (K := K)) (pv 0) pe_int (fun _ _ => rfl)) pa_nil)) (pv 1) (by first | exact nomark _ | rfl)) (pss_one (ps_ret pe_int)) pss_nil)
      (pss_cons (ps_if (pt_cmpR op_eq (pv 1) pe_int (by first | exact nomark _ | rfl)) (pss_one (ps_ret pe_int)) pss_nil)
      (pss_cons (ps_set (i := 4) sc_many_from.nd rfl (by first | exact Or.inl rfl | exact Or.inr rfl) (pe_tup (pa_cons (pe_ix (ko_ixT (K := K)) (pv 0) pe_int (fun _ _ => rfl)) (pa_cons (pe_slice sl_tupA (pe_ix (ko_ixT (K := K)) (pv 0) pe_int (fun _ _ => rfl)) (po_some (pe_op op_sub (pe_callB kc_len (by rfl) T.len (by decide +kernel) (pa_cons (pe_ix (ko_ixT (K := K)) (pv 0) pe_int (fun _ _ => rfl)) pa_nil)) (pe_callB (kc_min2 rfl) (by rfl) T.min (by decide +kernel) (pa_cons (pv 2) (pa_cons (pe_callB kc_len (by rfl) T.len (by decide +kernel) (pa_cons (pe_ix (ko_ixT (K := K)) (pv 0) pe_int (fun _ _ => rfl)) pa_nil)) pa_nil))))) po_none) (pa_cons (pv 1) pa_nil)))))
      (kp_cut (ps_if (pt_cmp (pc_ndnotin (P := P) (w := w) hr.units65 (pv 4) (pv 3))) (pss_cons (ps_set (i := 5) sc_many_from.nd rfl (by first | exact Or.inl rfl | exact Or.inr rfl) pe_int)
      (pss_cons (ps_for PassesOwn.never rfl (pi_list (kp_call c_choices hr (by omega) rfl (pa_cons (pv 0) (pa_cons (pv 2) pa_nil)))) (pg_name (i := 6) sc_many_from.nd rfl (by first | exact Or.inl rfl | exact Or.inr rfl)) (pss_one (ps_set (i := 5) sc_many_from.nd rfl (by first | exact Or.inl rfl | exact Or.inr rfl) (pe_op op_add (pv 5) (kp_call c_many_from hr (by omega) rfl (pa_cons (kp_call c_next_state hr (by omega) rfl (pa_cons (pv 0) (pa_cons (pv 6) pa_nil))) (pa_cons (pe_op op_sub (pv 1) pe_int) (pa_cons (pv 2) (pa_cons (pv 3) pa_nil)))))))))
      (pss_one (ps_ndput (P := P) (w := w) hr.units65 (pv 3) (pv 4) (pv 5) rfl)))) pss_nil)
      (pss_one (ps_ret (pe_ndget (P := P) (w := w) hr.units65 (pv 3) (pv 4) (fun _ _ => rfl)))))))), ?_⟩
  refine (?_ : Up _ H0) H e0
  walk_at "r"
  refine up_ixT (SqT.of h1) (at_of (j := 0) rfl rfl) ?_
  walk_at "r"
  refine up_sumT (SqT.of h2) ?_
  walk_at "r"
  refine up_ifP (fun hfew => ?_) (fun hnf => ?_)
  · walk_at "r"
    have e := Cp_few (a := a) (row := row) (xs := xs) (p := p) hfew
    have q' := q H0 kvs (Sb.refl _ _) M (Nat.le_add_right _ _)
    rw [e] at q'
    exact q'
  walk_at "r"
  refine up_ifP (fun hz => ?_) (fun hnz => ?_)
  · walk_at "r"
    have hp0 : p = 0 := by omega
    subst hp0
    have e := Cp_done hok (show (leftOf xs row).sum ≤ 0 by omega)
    have q' := q H0 kvs (Sb.refl _ _) M (Nat.le_add_right _ _)
    rw [e] at q'
    exact q'
  obtain ⟨p', rfl⟩ : ∃ p', p = p' + 1 := ⟨p - 1, by omega⟩
  walk_at "r"
  refine up_ixT (SqT.of h1) (at_of (j := 0) rfl rfl) ?_
  walk_at "r"
  refine up_ixT (SqT.of h1) (at_of (j := 1) rfl rfl) ?_
  walk_at "r"
  refine up_ixT (SqT.of h1) (at_of (j := 1) rfl rfl) ?_
  walk_at "r"
  refine up_lenT (SqT.of h3) ?_
  rw [List.length_map]
  walk_at "r"
  refine up_ixT (SqT.of h1) (at_of (j := 1) rfl rfl) ?_
  walk_at "r"
  refine up_lenT (SqT.of h3) ?_
  rw [List.length_map]
  walk_at "r"
  refine up_slA h3 fun t' H1 sm1 ht' => ?_
  rw [cut_last row a ha] at ht'
  walk_at "r"
  refine up_tupK (show 3 ≤ 100000 by decide) fun key hkey => ?_
  walk_at "r"
  have sm2 := sm1.trans (same_new hkey (.tup [.ref l, .ref t', .int ((p' + 1 : Nat) : Int)]))
  have hK : NK (upd H1 key (.tup [.ref l, .ref t', .int ((p' + 1 : Nat) : Int)])) (keyOf xs a row (p' + 1)) (.ref key) :=
    .tup upd_same (.cons (.tup (sm2 _ _ h2) (nks_nums _)) (.cons (.tup (up_fresh hkey ht') (nks_Os _)) (.cons (.num _) .nil)))
  generalize upd H1 key (.tup [.ref l, .ref t', .int ((p' + 1 : Nat) : Int)]) = H2 at sm2 hK
  have M2 := M.up sm2
  have S2 := S.up sm2
  have hcs : cost (p' + 1) = 1 + 5 * cost p' := rfl
  have kd := key_depth xs a row (p' + 1)
  refine up_cut (fun σ H' => Sb d H2 H' ∧ ∃ kvs' v5 v6, Memo P w H' d xs a kvs' ∧ kvs'.length ≤ kvs.length + cost (p' + 1) ∧ valN kvs' (keyOf xs a row (p' + 1)) = some (.int ((Cp xs a row (p' + 1)).length : Nat)) ∧ σ = [some (.ref st), some (.int ((p' + 1 : Nat) : Int)), some (.int a), some (.ref d), some (.ref key), v5, v6]) ?_ ?_
  · walk_at "r"
    refine up_nnB M2.nd hK kd ?_
    walk_at "r"
    cases hv : valN kvs (keyOf xs a row (p' + 1)) with
    | some v =>
      refine up_ifF rfl ?_
      walk_at "r"
      obtain ⟨b, hb⟩ := valN_mem hv
      have ev := M.ok _ hb row (p' + 1) hok rfl
      exact up_lo ⟨Sb.refl _ _, kvs, none, none, M2, Nat.le_add_right _ _, by rw [hv]; exact congrArg some ev, rfl⟩
    | none =>
      refine up_ifT rfl ?_
      walk_at "r"
      refine up_call ⟨st, a, xs, row, rfl, S2, ha, by omega, fun H3 pl sm3 hpl0 hpl => ?_⟩
      walk_at "r"
      have M3 := M2.up sm3
      have S3 := S2.up sm3
      have hK3 := NK.keep (fun a vs z => sm3 a _ z) _ _ hK
      have hpd : pl ≠ d := fun z => by rw [z, M3.nd.at_] at hpl; cases hpl
      refine up_itl (SqL.of hpl) ?_
      refine up_forL (fun j σ H' => Sb d H3 H' ∧ ∃ kvs' v6, Memo P w H' d xs a kvs' ∧ kvs'.length ≤ kvs.length + j * cost p' ∧ σ = [some (.ref st), some (.int ((p' + 1 : Nat) : Int)), some (.int a), some (.ref d), some (.ref key), some (.int (waysN xs a row p' ((chs xs a row).take j) : Nat)), v6])
        ⟨Sb.refl _ _, kvs, none, M3, by omega, rfl⟩ (fun j σ H' _ h => SqL.of (h.1 _ _ hpd hpl)) ?_ ?_
      · rintro j x σ H' hx ⟨sb, kvs', v6, M', hl', rfl⟩
        rw [List.getElem?_map] at hx
        cases eo : (chs xs a row)[j]? with
        | none => rw [eo] at hx; cases hx
        | some o =>
          rw [eo] at hx
          have ex : rv o = x := Option.some.inj hx
          subst ex
          have hom := List.mem_of_getElem? eo
          have hjl := (List.getElem?_eq_some_iff.mp eo).1
          have hcl := chs_len xs a row
          have htk : (chs xs a row).take (j + 1) = (chs xs a row).take j ++ [o] := by rw [List.take_add_one, eo]; rfl
          walk_at "r"
          refine up_call ⟨st, o, xs, row, rfl, S3.sb sb M3.nd.at_, chs_kind hom, by omega, fun H4 st' sm4 S4 => ?_⟩
          walk_at "r"
          rw [show (((p' + 1 : Nat) : Int) - 1) = ((p' : Nat) : Int) by omega]
          have hjc : j * cost p' ≤ 4 * cost p' := Nat.mul_le_mul_right _ (by omega)
          have hjc2 : (j + 1) * cost p' = j * cost p' + cost p' := by rw [Nat.add_mul, Nat.one_mul]
          refine up_call ⟨st', d, p', a, xs, row ++ [o], kvs', rfl, S4, hok.snoc hom, ha, hx4, by rw [List.length_append, List.length_singleton]; omega, by omega, M'.up sm4, by omega, fun H5 kvs5 sb5 M5 hl5 => ?_⟩
          walk_at "r"
          refine up_lo ⟨(sb.trans (Sb.of sm4)).trans sb5, kvs5, some (rv o), M5, by omega, ?_⟩
          rw [htk, ways_snoc, Int.natCast_add]
          rfl
      · rintro σ H' ⟨sb, kvs', v6, M', hl', rfl⟩
        rw [List.length_map] at hl'
        rw [List.length_map, List.take_length, ways_all]
        have hcl := chs_len xs a row
        have hjc : (chs xs a row).length * cost p' ≤ 5 * cost p' := Nat.mul_le_mul_right _ (by omega)
        walk_at "r"
        have ne : ∀ {b : Addr} {vs : List V}, H3 b = some (.tup vs) → b ≠ d := fun {b vs} z y => by rw [y, M3.nd.at_] at z; cases z
        have hK' : NK H' (keyOf xs a row (p' + 1)) (.ref key) := NK.keep (fun b vs z => sb _ _ (ne z) z) _ _ hK3
        refine up_npC M'.nd hK' kd (by omega) ?_
        have hpl2 := putN_len kvs' (keyOf xs a row (p' + 1)) key (.int ((Cp xs a row (p' + 1)).length : Nat))
        exact up_lo ⟨((Sb.of sm3).trans sb).trans Sb.upd, _, _, _, M'.put hok hK', by omega, valN_put _ _ _ _, rfl⟩
  · rintro σ H' ⟨sb, kvs', v5, v6, M', hl', hv, rfl⟩
    walk_at "r"
    have ne : ∀ {b : Addr} {vs : List V}, H2 b = some (.tup vs) → b ≠ d := fun {b vs} z y => by rw [y, M2.nd.at_] at z; cases z
    have hK' : NK H' (keyOf xs a row (p' + 1)) (.ref key) := NK.keep (fun b vs z => sb _ _ (ne z) z) _ _ hK
    refine up_ngB M'.nd hK' kd hv ?_
    exact q H' kvs' ((Sb.of sm2).trans sb) M' hl'
theorem many_all {f : Addr} {fd : FuncData} (F : Fun K "many_from" "many_from" s_many_from f fd) (T : Bl mg) (g_many_from : mg "many_from" = some (.ref f)) (c_choices : Fn P w K mg base CX0 2 "choices" ["state", "apart"] (KSp fChoices)) (c_next_state : Fn P w K mg base CX0 1 "next_state" ["state", "kind"] (KSp fNext))
    (hb : ∀ (kV doc pm : Value) (an : Option Addr) (cdv ct : Value) (us : List Value), us.length = 4 → bindArgs (PySem.W.fnOf "many_from" "many_from" (defArgs s_many_from) (defBody s_many_from) (defScope s_many_from) .none kV doc pm an cdv ct) ⟨us, []⟩ = pure ((["state", "places", "apart", "known"] : List Str).zip us)) :
    ∀ n, FnOk P w K mg base CX0 (2 + n) f fd ["state", "places", "apart", "known"] (KSp (fMany P w n))
  | 0 => many_zero
  | n + 1 => many_step F T n c_choices c_next_state (Fn.mk' F (many_all F T g_many_from c_choices c_next_state hb n) g_many_from hb)
theorem ok_many_from {f : Addr} {fd : FuncData} (F : Fun K "many_from" "many_from" s_many_from f fd) (T : Bl mg) (g_many_from : mg "many_from" = some (.ref f)) (c_choices : Fn P w K mg base CX0 2 "choices" ["state", "apart"] (KSp fChoices)) (c_next_state : Fn P w K mg base CX0 1 "next_state" ["state", "kind"] (KSp fNext)) : FnOk P w K mg base CX0 12 f fd ["state", "places", "apart", "known"] (KSp (fMany P w 10)) := by
  exact many_all F T g_many_from c_choices c_next_state (fun _ _ _ _ _ _ us hl => match us, hl with | [_, _, _, _], _ => rfl) 10
abbrev s_first_state : Stmt := top 17
theorem sc_first_state : FnScope ["wish"] ["wish"] (defScope s_first_state) := ⟨rfl, rfl, rfl, by decide +kernel, rfl, by decide +kernel, by decide +kernel⟩
def fFirst (C : Addr) : List V → Hp → VK → Prop := fun vs H Q => ∃ (p : Addr) (a : Int) (xs : List Int), vs = [.ref p] ∧ WishAt C H p a xs ∧ ∀ H' st, Same H H' → StAt H' st xs [] → Up (Q (.ref st)) H'
theorem ok_first_state {f : Addr} {fd : FuncData} (F : Fun K "first_state" "first_state" s_first_state f fd) (T : Bl mg) {C : Addr} (W : Wf K mg C) : FnOk P w K mg base CX0 1 f fd ["wish"] (KSp (fFirst C)) := by
  refine F.ok sc_first_state (fun vs H Q E h => ?_) (fun cdv A outer s H vs Q E hr h => ?_)
  · obtain ⟨_, _, p, a, xs, rfl, _⟩ := h
    rfl
  obtain ⟨H0, e0, p, a, xs, rfl, ⟨dx, l, h1, h2⟩, q⟩ := h
  refine ⟨_, (pss_one (ps_ret (pe_tup (pa_cons (pe_callTy kc_tuple (by rfl) T.tuple (by decide +kernel) (pa_cons (ko_fld (K := K) (pv 0) rfl) pa_nil)) (pa_cons (pe_tup pa_nil) pa_nil))))), ?_⟩
  refine (?_ : Up _ H0) H e0
  walk_at "r"
  refine up_fdK h1 W.cl_Wish W.nT (flW_told _ _) ?_
  walk_at "r"
  refine up_tupOf (SqL.of h2) fun t1 ht1 => ?_
  walk_at "r"
  refine up_tupK (by decide) fun t2 ht2 => ?_
  walk_at "r"
  refine up_tupK (show 2 ≤ 100000 by decide) fun t3 ht3 => ?_
  refine q _ t3 (((same_new ht1 _).trans (same_new ht2 _)).trans (same_new ht3 _)) ⟨t1, t2, upd_same, ?_, up_fresh ht3 upd_same⟩
  rw [leftOf_nil]
  exact up_fresh ht3 (up_fresh ht2 upd_same)

abbrev SmallC (xs : List Int) (L : Nat) : Prop := xs.sum ≤ 7 ∧ xs.length ≤ 4 ∧ L ≤ 9
theorem rv_inj {o o' : Option Nat} (h : rv o = rv o') : o = o' := by
  cases o with
  | none => cases o' with
    | none => rfl
    | some k => cases h
  | some k => cases o' with
    | none => cases h
    | some k' =>
      have : (k : Int) = k' := V.int.inj h
      rw [show k = k' by omega]
theorem chs_of_keeps {xs : List Int} {a : Int} {pre rest : List (Option Nat)} {o : Option Nat} (h : Keeps xs a (pre ++ o :: rest)) : o ∈ chs xs a pre := by
  have hm : o :: rest ∈ Cp xs a pre (rest.length + 1) := mem_Cp.mpr ⟨rfl, h⟩
  rw [Cp_next] at hm
  obtain ⟨o', ho', hm⟩ := List.mem_flatMap.mp hm
  obtain ⟨t, _, e⟩ := List.mem_map.mp hm
  rw [← (List.cons.inj e).1]
  exact ho'
/-- what stands behind the choices from the j-th on -/
noncomputable def restC (xs : List Int) (a : Int) (row : List (Option Nat)) (p : Nat) (l : List (Option Nat)) : List (List (Option Nat)) := l.flatMap fun o => (Cp xs a (row ++ [o]) p).map (o :: ·)
theorem rest_len (xs : List Int) (a : Int) (row : List (Option Nat)) (p : Nat) (l : List (Option Nat)) : (restC xs a row p l).length = waysN xs a row p l := by
  unfold restC waysN
  rw [List.length_flatMap]
  congr 1
  refine List.map_congr_left fun o _ => ?_
  rw [List.length_map]
theorem rest_cons (xs : List Int) (a : Int) (row : List (Option Nat)) (p : Nat) (l : List (Option Nat)) (o : Option Nat) : restC xs a row p (o :: l) = (Cp xs a (row ++ [o]) p).map (o :: ·) ++ restC xs a row p l := by
  unfold restC
  rw [List.flatMap_cons]
abbrev s_see_small : Stmt := top 12
theorem sc_see_small : FnScope ["wish", "length"] ["wish", "length"] (defScope s_see_small) := ⟨rfl, rfl, rfl, by decide +kernel, rfl, by decide +kernel, by decide +kernel⟩
def fSeeSmall (C TG : Addr) : List V → Hp → VK → XK → Prop := fun vs H Q E => ∃ (p : Addr) (a : Int) (xs : List Int) (L : Nat), vs = [.ref p, .int (L : Int)] ∧ WishAt C H p a xs ∧ (SmallC xs L → Up (Q .non) H) ∧ (¬ SmallC xs L → Up (E (.ref TG) none) H)
theorem ok_see_small {f : Addr} {fd : FuncData} (F : Fun K "see_small" "see_small" s_see_small f fd) (T : Bl mg) {C TG : Addr} (W : Wf K mg C) (e_TooGreat : Er K mg "TooGreat" TG) (c_Wish_things : Mt P w K mg base CX0 1 C "things" ["self"] (KSp (fThings C))) : FnOk P w K mg base (L2.CX P w) 2 f fd ["wish", "length"] (KSx (fSeeSmall C TG)) := by
  refine F.okX sc_see_small (fun vs H Q E h => ?_) (fun cdv A outer s H vs Q E hr h => ?_)
  · obtain ⟨_, _, p, a, xs, L, rfl, _⟩ := h
    rfl
  obtain ⟨H0, e0, p, a, xs, L, rfl, hw, q1, q0⟩ := h
  refine ⟨_, (pss_one (ps_if (PW.pt (pw_or (pt_cmpR op_gt (kp_meth0 c_Wish_things W.cl_Wish hr (by decide) (pv 0)) pe_int (by first | exact nomark _ | rfl)) (pw_or (pt_cmpR op_gt (pe_callB kc_len (by rfl) T.len (by decide +kernel) (pa_cons (ko_fld (K := K) (pv 0) rfl) pa_nil)) pe_int (by first | exact nomark _ | rfl)) (pw_or1 (pt_cmpR op_gt (pv 1) pe_int (by first | exact nomark _ | rfl)))))) (pss_one (kp_raise rfl (kp_takes rfl rfl rfl rfl) e_TooGreat rfl)) pss_nil)), ?_⟩
  refine (?_ : Up _ H0) H e0
  obtain ⟨dx, l, h1, h2⟩ := id hw
  refine up_if ?_
  refine up_anyT (fun b => b = decide (¬ SmallC xs L)) (fun QB kk => ?_) (fun b hb => ?_)
  · walk_at "r"
    refine up_mtA h1 rfl ?_
    walk_at "r"
    refine up_mtB ⟨p, a, xs, rfl, hw, ?_⟩
    walk_at "r"
    refine up_orK (fun h => kk _ ?_) (fun h => ?_)
    · have := of_decide_eq_true h
      exact (decide_eq_true (show ¬ SmallC xs L from fun z => by have := z.1; omega)).symm
    · have g1 := of_decide_eq_false h
      walk_at "r"
      refine up_fdK h1 W.cl_Wish W.nT (flW_told _ _) ?_
      walk_at "r"
      refine up_len (SqL.of h2) ?_
      rw [List.length_map]
      walk_at "r"
      refine up_orK (fun h => kk _ ?_) (fun h => ?_)
      · have := of_decide_eq_true h
        exact (decide_eq_true (show ¬ SmallC xs L from fun z => by have := z.2.1; omega)).symm
      · have g2 := of_decide_eq_false h
        walk_at "r"
        refine kk _ ?_
        refine decide_eq_decide.mpr ⟨fun z y => by have := y.2.2; omega, fun z => ?_⟩
        rcases Nat.lt_or_ge 9 L with y | y
        · omega
        · exact absurd ⟨by omega, by omega, y⟩ z
  subst hb
  refine up_ifP (fun hs => ?_) (fun hs => ?_)
  · walk_at "r"
    exact up_raise (q0 hs)
  · walk_at "r"
    exact q1 (Decidable.not_not.mp hs)
abbrev s_many_rows : Stmt := top 18
theorem sc_many_rows : FnScope ["wish", "length"] ["wish", "length"] (defScope s_many_rows) := ⟨rfl, rfl, rfl, by decide +kernel, rfl, by decide +kernel, by decide +kernel⟩
def fManyRows (C TG : Addr) : List V → Hp → VK → XK → Prop := fun vs H Q E => ∃ (p : Addr) (a : Int) (xs : List Int) (L : Nat), vs = [.ref p, .int (L : Int)] ∧ WishAt C H p a xs ∧ Fine a xs ∧ (SmallC xs L → Up (Q (.int ((Cp xs a [] L).length : Nat))) H) ∧ (¬ SmallC xs L → Up (E (.ref TG) none) H)
theorem ok_many_rows {f : Addr} {fd : FuncData} (F : Fun K "many_rows" "many_rows" s_many_rows f fd) (T : Bl mg) {C TG : Addr} (W : Wf K mg C) (c_see_small : Fn P w K mg base (L2.CX P w) 2 "see_small" ["wish", "length"] (KSx (fSeeSmall C TG))) (c_first_state : Fn P w K mg base CX0 1 "first_state" ["wish"] (KSp (fFirst C)))
    (c_many_from : Fn P w K mg base CX0 12 "many_from" ["state", "places", "apart", "known"] (KSp (fMany P w 10))) : FnOk P w K mg base (L2.CX P w) 13 f fd ["wish", "length"] (KSx (fManyRows C TG)) := by
  refine F.okX sc_many_rows (fun vs H Q E h => ?_) (fun cdv A outer s H vs Q E hr h => ?_)
  · obtain ⟨_, _, p, a, xs, L, rfl, _⟩ := h
    rfl
  obtain ⟨H0, e0, p, a, xs, L, rfl, hw, fi, q1, q0⟩ := h
  refine ⟨_, (pss_cons (ps_expr (kp_callX c_see_small (kp_takes rfl rfl rfl rfl) hr (by decide) rfl (pa_cons (pv 0) (pa_cons (pv 1) pa_nil))))
      (pss_one (ps_ret (kp_call c_many_from hr (by decide) rfl (pa_cons (kp_call c_first_state hr (by decide) rfl (pa_cons (pv 0) pa_nil)) (pa_cons (pv 1) (pa_cons (ko_fld (K := K) (pv 0) rfl) (pa_cons (pe_ndnew (P := P) (w := w)) pa_nil)))))))), ?_⟩
  refine (?_ : Up _ H0) H e0
  walk_at "r"
  refine up_csX ⟨p, a, xs, L, rfl, hw, fun hs => ?_, q0⟩
  walk_at "r"
  refine up_call ⟨p, a, xs, rfl, hw, fun H1 st sm S => ?_⟩
  walk_at "r"
  obtain ⟨dx, l, h1, h2⟩ := hw.up sm
  refine up_fdK h1 W.cl_Wish W.nA (flW_apart _ _) ?_
  walk_at "r"
  refine up_ndnew fun d hd => ?_
  walk_at "r"
  have sd := same_new hd (.ext (ndF P w d []))
  have c9 := cost_9 hs.2.2
  refine up_call ⟨st, d, L, a, xs, [], [], rfl, S.up sd, OkR.nil (fun x hx => (fi.2.2.1 x hx).1), fi.2.2.2.1, hs.2.1, by have := hs.2.2; show 0 + L ≤ 100; omega, by have := hs.2.2; omega, Memo.new upd_same, by show 0 + cost L ≤ 10000000; omega, fun H2 kvs' sb M hl => ?_⟩
  exact (q1 hs).mono ((Sb.same (sm.trans sd) (sm.free hd) sb))
abbrev s_row_at : Stmt := top 19
theorem sc_row_at : FnScope ["wish", "length", "number", "known", "state", "place", "kind", "far", "many"] ["wish", "length", "number"] (defScope s_row_at) := ⟨rfl, rfl, rfl, by decide +kernel, rfl, by decide +kernel, by decide +kernel⟩
def fRowAt (C TG NS : Addr) : List V → Hp → VK → XK → Prop := fun vs H Q E => ∃ (p : Addr) (a : Int) (xs : List Int) (L : Nat) (N : Int), vs = [.ref p, .int (L : Int), .int N] ∧ WishAt C H p a xs ∧ Fine a xs ∧ (¬ SmallC xs L → Up (E (.ref TG) none) H) ∧
  (SmallC xs L → (N < 0 ∨ ((Cp xs a [] L).length : Int) ≤ N) → Up (E (.ref NS) none) H) ∧
  (SmallC xs L → 0 ≤ N → ∀ row, (Cp xs a [] L)[N.toNat]? = some row → ∀ H' r, Same H H' → H r = none → H' r = some (.lst (row.map rv)) → Up (Q (.ref r)) H')
theorem ok_row_at {f : Addr} {fd : FuncData} (F : Fun K "row_at" "row_at" s_row_at f fd) (T : Bl mg) {C TG NS : Addr} (W : Wf K mg C) (e_NoSuch : Er K mg "NoSuch" NS) (c_see_small : Fn P w K mg base (L2.CX P w) 2 "see_small" ["wish", "length"] (KSx (fSeeSmall C TG))) (c_many_rows : Fn P w K mg base (L2.CX P w) 13 "many_rows" ["wish", "length"] (KSx (fManyRows C TG)))
    (c_first_state : Fn P w K mg base CX0 1 "first_state" ["wish"] (KSp (fFirst C))) (c_choices : Fn P w K mg base CX0 2 "choices" ["state", "apart"] (KSp fChoices)) (c_next_state : Fn P w K mg base CX0 1 "next_state" ["state", "kind"] (KSp fNext)) (c_many_from : Fn P w K mg base CX0 12 "many_from" ["state", "places", "apart", "known"] (KSp (fMany P w 10))) :
    FnOk P w K mg base (L2.CX P w) 14 f fd ["wish", "length", "number"] (KSx (fRowAt C TG NS)) := by
  refine F.okX sc_row_at (fun vs H Q E h => ?_) (fun cdv A outer s H vs Q E hr h => ?_)
  · obtain ⟨_, _, p, a, xs, L, N, rfl, _⟩ := h
    rfl
  obtain ⟨H0, e0, p, a, xs, L, N, rfl, hw, fi, qT, qN, q⟩ := h
  refine ⟨_, (pss_cons (ps_if (pt_cmpR op_lt (pv 2) pe_int (by first | exact nomark _ | rfl)) (pss_cons (ps_expr (kp_callX c_see_small (kp_takes rfl rfl rfl rfl) hr (by decide) rfl (pa_cons (pv 0) (pa_cons (pv 1) pa_nil))))
      (pss_one (kp_raise rfl (kp_takes rfl rfl rfl rfl) e_NoSuch rfl))) pss_nil)
      (pss_cons (ps_if (pt_cmpR op_le (kp_callX c_many_rows (kp_takes rfl rfl rfl rfl) hr (by decide) rfl (pa_cons (pv 0) (pa_cons (pv 1) pa_nil))) (pv 2) (by first | exact nomark _ | rfl)) (pss_one (kp_raise rfl (kp_takes rfl rfl rfl rfl) e_NoSuch rfl)) pss_nil)
      (pss_cons (ps_set (i := 3) sc_row_at.nd rfl (by first | exact Or.inl rfl | exact Or.inr rfl) (pe_ndnew (P := P) (w := w)))
      (pss_cons (ps_set (i := 4) sc_row_at.nd rfl (by first | exact Or.inl rfl | exact Or.inr rfl) (kp_call c_first_state hr (by decide) rfl (pa_cons (pv 0) pa_nil)))
      (pss_cons (ps_for (passes_of rfl) rfl (pi_range1 rfl T.range (pa_cons (pv 1) pa_nil)) (pg_name (i := 5) sc_row_at.nd rfl (by first | exact Or.inl rfl | exact Or.inr rfl)) (pss_one (ps_for (passes_of rfl) rfl (pi_list (kp_call c_choices hr (by decide) rfl (pa_cons (pv 4) (pa_cons (ko_fld (K := K) (pv 0) rfl) pa_nil)))) (pg_name (i := 6) sc_row_at.nd rfl (by first | exact Or.inl rfl | exact Or.inr rfl)) (pss_cons (ps_set (i := 7) sc_row_at.nd rfl (by first | exact Or.inl rfl | exact Or.inr rfl) (kp_call c_next_state hr (by decide) rfl (pa_cons (pv 4) (pa_cons (pv 6) pa_nil))))
      (pss_cons (ps_set (i := 8) sc_row_at.nd rfl (by first | exact Or.inl rfl | exact Or.inr rfl) (kp_call c_many_from hr (by decide) rfl (pa_cons (pv 7) (pa_cons (pe_op op_sub (pe_op op_sub (pv 1) (pv 5)) pe_int) (pa_cons (ko_fld (K := K) (pv 0) rfl) (pa_cons (pv 3) pa_nil))))))
      (pss_cons (ps_if (pt_cmpR op_lt (pv 2) (pv 8) (by first | exact nomark _ | rfl)) (pss_cons (ps_set (i := 4) sc_row_at.nd rfl (by first | exact Or.inl rfl | exact Or.inr rfl) (pv 7))
      (pss_one ps_break)) pss_nil)
      (pss_one (ps_set (i := 2) sc_row_at.nd rfl (by first | exact Or.inl rfl | exact Or.inr rfl) (pe_op op_sub (pv 2) (pv 8))))))))))
      (pss_one (ps_ret (pe_callTy kc_list (by rfl) T.list (by decide +kernel) (pa_cons (pe_ix (ko_ixT (K := K)) (pv 4) pe_int (fun _ _ => rfl)) pa_nil))))))))), ?_⟩
  refine (?_ : Up _ H0) H e0
  walk_at "r"
  refine up_ifP (fun hneg => ?_) (fun hpos => ?_)
  · walk_at "r"
    refine up_csX ⟨p, a, xs, L, rfl, hw, fun hs => ?_, qT⟩
    walk_at "r"
    exact up_raise (qN hs (.inl hneg))
  walk_at "r"
  refine up_csX ⟨p, a, xs, L, rfl, hw, fi, fun hs => ?_, qT⟩
  walk_at "r"
  refine up_ifP (fun hge => ?_) (fun hlt => ?_)
  · walk_at "r"
    exact up_raise (qN hs (.inr hge))
  obtain ⟨n, hN⟩ : ∃ n : Nat, N = n := ⟨N.toNat, by omega⟩
  subst hN
  have hnl : n < (Cp xs a [] L).length := by omega
  have q := q hs (by omega)
  obtain ⟨B, hB⟩ : ∃ B : Nat, B = 500000 := ⟨_, rfl⟩
  rw [Int.toNat_natCast] at q
  obtain ⟨hs7, hs4, hs9⟩ := hs
  have ha := fi.2.2.2.1
  walk_at "r"
  refine up_ndnew fun d hd => ?_
  walk_at "r"
  have sd := same_new hd (.ext (ndF P w d []))
  refine up_call ⟨p, a, xs, rfl, hw.up sd, fun H1 st0 sm S0 => ?_⟩
  walk_at "r"
  have hd1 : H1 d = some (.ext (ndF P w d [])) := sm _ _ upd_same
  have s01 := sd.trans sm
  refine up_rg1 (by omega) (by omega) ?_
  rw [Int.toNat_natCast]
  refine up_forR0 (fun i σ H' => ∃ (row : List (Option Nat)) (kvs' : Nt) (m : Nat) (st : Addr) (v5 v6 v7 v8 : Option V), Same H0 H' ∧ row.length = i ∧ OkR xs a row ∧ StAt H' st xs row ∧ Memo P w H' d xs a kvs' ∧ kvs'.length ≤ i * B ∧ m < (Cp xs a row (L - i)).length ∧ (∀ t, (Cp xs a row (L - i))[m]? = some t → (Cp xs a [] L)[n]? = some (row ++ t)) ∧
      σ = [some (.ref p), some (.int (L : Int)), some (.int (m : Int)), some (.ref d), some (.ref st), v5, v6, v7, v8])
    ⟨[], [], n, st0, none, none, none, none, s01, rfl, OkR.nil (fun x hx => (fi.2.2.1 x hx).1), S0, Memo.new hd1, Nat.zero_le _, hnl, fun t h => h, rfl⟩ ?_ ?_
  · rintro i σ H' hi ⟨row, kvs', m, st, v5, v6, v7, v8, smH, hrl, hok, S, M, hkl, hml, hmt, rfl⟩
    obtain ⟨p', hp'⟩ : ∃ p', L - i = p' + 1 := ⟨L - i - 1, by omega⟩
    rw [hp'] at hml hmt
    have hc9 := cost_9 (p := p' + 1) (by omega)
    have hcs : cost (p' + 1) = 1 + 5 * cost p' := rfl
    walk_at "r"
    obtain ⟨dx, l, h1, h2⟩ := hw.up smH
    refine up_fdK h1 W.cl_Wish W.nA (flW_apart _ _) ?_
    walk_at "r"
    refine up_call ⟨st, a, xs, row, rfl, S, ha, by omega, fun H2 pl sm2 hpl0 hpl => ?_⟩
    walk_at "r"
    have M2 := M.up sm2
    have S2 := S.up sm2
    have hpd : pl ≠ d := fun z => by rw [z, M2.nd.at_] at hpl; cases hpl
    have hd0 : H0 d = none := hd
    refine up_itl (SqL.of hpl) ?_
    refine up_forL (fun j σ H3 => Sb d H2 H3 ∧ ∃ (kvs3 : Nt) (m3 : Nat) (v6 v7 v8 : Option V), Memo P w H3 d xs a kvs3 ∧ kvs3.length ≤ i * B + j * cost p' ∧ m3 < (restC xs a row p' ((chs xs a row).drop j)).length ∧ (∀ t, (restC xs a row p' ((chs xs a row).drop j))[m3]? = some t → (Cp xs a [] L)[n]? = some (row ++ t)) ∧
        σ = [some (.ref p), some (.int (L : Int)), some (.int (m3 : Int)), some (.ref d), some (.ref st), some (.int (i : Int)), v6, v7, v8])
      ⟨Sb.refl _ _, kvs', m, v6, v7, v8, M2, by omega, ?_, ?_, rfl⟩ (fun j σ H3 _ h => SqL.of (h.1 _ _ hpd hpl)) ?_ ?_
    · rw [List.drop_zero]
      unfold restC
      rw [← Cp_next]
      exact hml
    · rw [List.drop_zero]
      unfold restC
      rw [← Cp_next]
      exact hmt
    · rintro j x σ H3 hx ⟨sb, kvs3, m3, v6, v7, v8, M3, hk3, hm3, ht3, rfl⟩
      rw [List.getElem?_map] at hx
      cases eo : (chs xs a row)[j]? with
      | none => rw [eo] at hx; cases hx
      | some o =>
        rw [eo] at hx
        have ex : rv o = x := Option.some.inj hx
        subst ex
        have hom := List.mem_of_getElem? eo
        have hjl := (List.getElem?_eq_some_iff.mp eo).1
        have hcl := chs_len xs a row
        have hdr : (chs xs a row).drop j = o :: (chs xs a row).drop (j + 1) := by
          rw [List.drop_eq_getElem_cons hjl]
          congr 1
          rw [List.getElem?_eq_getElem hjl] at eo
          exact Option.some.inj eo
        rw [hdr, rest_cons] at hm3 ht3
        walk_at "r"
        refine up_call ⟨st, o, xs, row, rfl, S2.sb sb M2.nd.at_, chs_kind hom, by omega, fun H4 st' sm4 S4 => ?_⟩
        walk_at "r"
        have sb4 : Sb d H2 H4 := sb.trans (Sb.of sm4)
        have s04 : Same H0 H4 := Sb.same (smH.trans sm2) hd0 sb4
        obtain ⟨dx4, l4, h14, h24⟩ := hw.up s04
        refine up_fdK h14 W.cl_Wish W.nA (flW_apart _ _) ?_
        walk_at "r"
        rw [show ((L : Int) - i - 1) = ((p' : Nat) : Int) by omega]
        have hjc : j * cost p' ≤ 4 * cost p' := Nat.mul_le_mul_right _ (by omega)
        have hjc2 : (j + 1) * cost p' = j * cost p' + cost p' := by rw [Nat.add_mul, Nat.one_mul]
        have hi9 : i * B ≤ 9 * B := Nat.mul_le_mul_right _ (by omega)
        refine up_call ⟨st', d, p', a, xs, row ++ [o], kvs3, rfl, S4, hok.snoc hom, ha, hs4, by rw [List.length_append, List.length_singleton]; omega, by omega, M3.up sm4, by omega, fun H5 kvs5 sb5 M5 hl5 => ?_⟩
        walk_at "r"
        refine up_ifP (fun hmany => ?_) (fun hfew => ?_)
        · walk_at "r"
          have hm' : m3 < (Cp xs a (row ++ [o]) p').length := by omega
          refine up_lo ⟨row ++ [o], kvs5, m3, st', _, _, _, _, Sb.same s04 hd0 sb5, by rw [List.length_append, List.length_singleton]; omega, hok.snoc hom, S4.sb sb5 (M3.up sm4).nd.at_, M5, ?_, ?_, fun t ht => ?_, rfl⟩
          · have e1 : (i + 1) * B = i * B + B := by rw [Nat.add_mul, Nat.one_mul]
            omega
          · rw [show L - (i + 1) = p' by omega]; exact hm'
          · rw [show L - (i + 1) = p' by omega] at ht
            have h6 := ht3 (o :: t) (by
              rw [List.getElem?_append_left (by rw [List.length_map]; exact hm'), List.getElem?_map, ht]
              rfl)
            rw [h6, List.append_assoc]
            rfl
        · walk_at "r"
          have hge : (Cp xs a (row ++ [o]) p').length ≤ m3 := by omega
          rw [List.length_append, List.length_map] at hm3
          refine up_lo ⟨sb4.trans sb5, kvs5, m3 - (Cp xs a (row ++ [o]) p').length, some (rv o), some (.ref st'), some (.int ((Cp xs a (row ++ [o]) p').length : Nat)), M5, by omega, by omega, fun t ht => ht3 t ?_, ?_⟩
          · rw [List.getElem?_append_right (by rw [List.length_map]; exact hge), List.length_map]
            exact ht
          · rw [show ((m3 - (Cp xs a (row ++ [o]) p').length : Nat) : Int) = (m3 : Int) - ((Cp xs a (row ++ [o]) p').length : Nat) by omega]
            rfl
    · rintro σ H3 ⟨sb, kvs3, m3, v6, v7, v8, M3, hk3, hm3, ht3, rfl⟩
      rw [List.length_map, List.drop_length] at hm3
      exact absurd hm3 (Nat.not_lt_zero _)
  · rintro σ H' ⟨row, kvs', m, st, v5, v6, v7, v8, smH, hrl, hok, S, M, hkl, hml, hmt, rfl⟩
    rw [Nat.sub_self] at hml hmt
    have hc0 := Cp_zero xs a row
    have hrow : (Cp xs a [] L)[n]? = some row := by
      cases ek : keepB xs a row with
      | false =>
        rw [ek, if_neg Bool.false_ne_true] at hc0
        rw [hc0] at hml
        exact absurd hml (Nat.not_lt_zero _)
      | true =>
        rw [ek, if_pos rfl] at hc0
        rw [hc0] at hml hmt
        have hm0 : m = 0 := by rw [List.length_singleton] at hml; omega
        have := hmt [] (by rw [hm0]; rfl)
        rw [List.append_nil] at this
        exact this
    obtain ⟨l, t, h1, h2, h3⟩ := S
    walk_at "r"
    refine up_ixT (SqT.of h1) (at_of (j := 1) rfl rfl) ?_
    walk_at "r"
    refine up_listOfT (SqT.of h3) fun r hr0 => ?_
    exact q row hrow _ r (smH.trans (same_new hr0 _)) (smH.free hr0) upd_same
abbrev s_first_row : Stmt := top 20
theorem sc_first_row : FnScope ["wish", "length"] ["wish", "length"] (defScope s_first_row) := ⟨rfl, rfl, rfl, by decide +kernel, rfl, by decide +kernel, by decide +kernel⟩
def fFirstRow (C TG : Addr) : List V → Hp → VK → XK → Prop := fun vs H Q E => ∃ (p : Addr) (a : Int) (xs : List Int) (L : Nat), vs = [.ref p, .int (L : Int)] ∧ WishAt C H p a xs ∧ Fine a xs ∧ (¬ SmallC xs L → Up (E (.ref TG) none) H) ∧
  (SmallC xs L → Cp xs a [] L = [] → Up (Q .non) H) ∧
  (SmallC xs L → ∀ row, (Cp xs a [] L)[0]? = some row → ∀ H' r, Same H H' → H r = none → H' r = some (.lst (row.map rv)) → Up (Q (.ref r)) H')
theorem ok_first_row {f : Addr} {fd : FuncData} (F : Fun K "first_row" "first_row" s_first_row f fd) (T : Bl mg) {C TG NS : Addr} (c_many_rows : Fn P w K mg base (L2.CX P w) 13 "many_rows" ["wish", "length"] (KSx (fManyRows C TG))) (c_row_at : Fn P w K mg base (L2.CX P w) 14 "row_at" ["wish", "length", "number"] (KSx (fRowAt C TG NS))) : FnOk P w K mg base (L2.CX P w) 15 f fd ["wish", "length"] (KSx (fFirstRow C TG)) := by
  refine F.okX sc_first_row (fun vs H Q E h => ?_) (fun cdv A outer s H vs Q E hr h => ?_)
  · obtain ⟨_, _, p, a, xs, L, rfl, _⟩ := h
    rfl
  obtain ⟨H0, e0, p, a, xs, L, rfl, hw, fi, qT, q0, q⟩ := h
  refine ⟨_, (pss_cons (ps_if (pt_cmpR op_eq (kp_callX c_many_rows (kp_takes rfl rfl rfl rfl) hr (by decide) rfl (pa_cons (pv 0) (pa_cons (pv 1) pa_nil))) pe_int (by first | exact nomark _ | rfl)) (pss_one (ps_ret pe_non)) pss_nil)
      (pss_one (ps_ret (kp_callX c_row_at (kp_takes rfl rfl rfl rfl) hr (by decide) rfl (pa_cons (pv 0) (pa_cons (pv 1) (pa_cons pe_int pa_nil))))))), ?_⟩
  refine (?_ : Up _ H0) H e0
  walk_at "r"
  refine up_csX ⟨p, a, xs, L, rfl, hw, fi, fun hs => ?_, qT⟩
  walk_at "r"
  refine up_ifP (fun hz => ?_) (fun hz => ?_)
  · walk_at "r"
    exact q0 hs (List.eq_nil_of_length_eq_zero (by omega))
  · walk_at "r"
    refine up_csX ⟨p, a, xs, L, 0, rfl, hw, fi, fun z => absurd hs z, fun _ h => ?_, fun _ _ row hrow => q hs row hrow⟩
    omega
abbrev s_row_number : Stmt := top 21
theorem sc_row_number : FnScope ["wish", "row", "known", "state", "number", "place", "kind"] ["wish", "row"] (defScope s_row_number) := ⟨rfl, rfl, rfl, by decide +kernel, rfl, by decide +kernel, by decide +kernel⟩
def fRowNum (C TG NR : Addr) : List V → Hp → VK → XK → Prop := fun vs H Q E => ∃ (p l : Addr) (a : Int) (xs : List Int) (row : List (Option Nat)), vs = [.ref p, .ref l] ∧ WishAt C H p a xs ∧ Fine a xs ∧ H l = some (.lst (row.map rv)) ∧ row.length ≤ 1000 ∧ (¬ SmallC xs row.length → Up (E (.ref TG) none) H) ∧
  (SmallC xs row.length → ¬ Keeps xs a row → Up (E (.ref NR) none) H) ∧ (SmallC xs row.length → ∀ n : Nat, (Cp xs a [] row.length)[n]? = some row → Up (Q (.int (n : Int))) H)
theorem ok_row_number {f : Addr} {fd : FuncData} (F : Fun K "row_number" "row_number" s_row_number f fd) (T : Bl mg) {C TG NR : Addr} (W : Wf K mg C) (e_NoRow : Er K mg "NoRow" NR) (c_see_small : Fn P w K mg base (L2.CX P w) 2 "see_small" ["wish", "length"] (KSx (fSeeSmall C TG))) (c_keeps : Fn P w K mg base CX0 2 "keeps" ["wish", "row"] (KSp (fKeeps K C)))
    (c_first_state : Fn P w K mg base CX0 1 "first_state" ["wish"] (KSp (fFirst C))) (c_choices : Fn P w K mg base CX0 2 "choices" ["state", "apart"] (KSp fChoices)) (c_next_state : Fn P w K mg base CX0 1 "next_state" ["state", "kind"] (KSp fNext)) (c_many_from : Fn P w K mg base CX0 12 "many_from" ["state", "places", "apart", "known"] (KSp (fMany P w 10))) :
    FnOk P w K mg base (L2.CX P w) 14 f fd ["wish", "row"] (KSx (fRowNum C TG NR)) := by
  refine F.okX sc_row_number (fun vs H Q E h => ?_) (fun cdv A outer s H vs Q E hr h => ?_)
  · obtain ⟨_, _, p, l, a, xs, row, rfl, _⟩ := h
    rfl
  obtain ⟨H0, e0, p, l, a, xs, row, rfl, hw, fi, hl0, hl1000, qT, qR, q⟩ := h
  refine ⟨_, (pss_cons (ps_expr (kp_callX c_see_small (kp_takes rfl rfl rfl rfl) hr (by decide) rfl (pa_cons (pv 0) (pa_cons (pe_callB kc_len (by rfl) T.len (by decide +kernel) (pa_cons (pv 1) pa_nil)) pa_nil))))
      (pss_cons (ps_if (pt_not (pt_val (kp_call c_keeps hr (by decide) rfl (pa_cons (pv 0) (pa_cons (pv 1) pa_nil))))) (pss_one (kp_raise rfl (kp_takes rfl rfl rfl rfl) e_NoRow rfl)) pss_nil)
      (pss_cons (ps_set (i := 2) sc_row_number.nd rfl (by first | exact Or.inl rfl | exact Or.inr rfl) (pe_ndnew (P := P) (w := w)))
      (pss_cons (ps_set (i := 3) sc_row_number.nd rfl (by first | exact Or.inl rfl | exact Or.inr rfl) (kp_call c_first_state hr (by decide) rfl (pa_cons (pv 0) pa_nil)))
      (pss_cons (ps_set (i := 4) sc_row_number.nd rfl (by first | exact Or.inl rfl | exact Or.inr rfl) pe_int)
      (pss_cons (ps_for (passes_of rfl) rfl (pi_range1 rfl T.range (pa_cons (pe_callB kc_len (by rfl) T.len (by decide +kernel) (pa_cons (pv 1) pa_nil)) pa_nil)) (pg_name (i := 5) sc_row_number.nd rfl (by first | exact Or.inl rfl | exact Or.inr rfl)) (pss_cons (ps_for (passes_of rfl) rfl (pi_list (kp_call c_choices hr (by decide) rfl (pa_cons (pv 3) (pa_cons (ko_fld (K := K) (pv 0) rfl) pa_nil)))) (pg_name (i := 6) sc_row_number.nd rfl (by first | exact Or.inl rfl | exact Or.inr rfl)) (pss_cons (ps_if (pt_cmpR op_eq (pv 6) (pe_ix (ko_ixL (K := K)) (pv 1) (pv 5) (fun _ _ => rfl)) (by first | exact nomark _ | rfl)) (pss_one ps_break) pss_nil)
      (pss_one (ps_set (i := 4) sc_row_number.nd rfl (by first | exact Or.inl rfl | exact Or.inr rfl) (pe_op op_add (pv 4) (kp_call c_many_from hr (by decide) rfl (pa_cons (kp_call c_next_state hr (by decide) rfl (pa_cons (pv 3) (pa_cons (pv 6) pa_nil))) (pa_cons (pe_op op_sub (pe_op op_sub (pe_callB kc_len (by rfl) T.len (by decide +kernel) (pa_cons (pv 1) pa_nil)) (pv 5)) pe_int) (pa_cons (ko_fld (K := K) (pv 0) rfl) (pa_cons (pv 2) pa_nil))))))))))
      (pss_one (ps_set (i := 3) sc_row_number.nd rfl (by first | exact Or.inl rfl | exact Or.inr rfl) (kp_call c_next_state hr (by decide) rfl (pa_cons (pv 3) (pa_cons (pe_ix (ko_ixL (K := K)) (pv 1) (pv 5) (fun _ _ => rfl)) pa_nil)))))))
      (pss_one (ps_ret (pv 4))))))))), ?_⟩
  refine (?_ : Up _ H0) H e0
  walk_at "r"
  refine up_len (SqL.of hl0) ?_
  rw [List.length_map]
  walk_at "r"
  refine up_csX ⟨p, a, xs, row.length, rfl, hw, fun hs => ?_, qT⟩
  walk_at "r"
  refine up_call ⟨p, l, a, xs, row, rfl, hw, SqL.of hl0, by have := fi.2.1; omega, by omega, fun b hb => ?_⟩
  walk_at "r"
  cases b with
  | false =>
    refine up_ifT rfl ?_
    walk_at "r"
    exact up_raise (qR hs fun z => by cases hb.mpr z)
  | true =>
  have kp := hb.mp rfl
  refine up_ifF rfl ?_
  obtain ⟨hs7, hs4, hs9⟩ := id hs
  have q := q hs
  obtain ⟨B, hB⟩ : ∃ B : Nat, B = 500000 := ⟨_, rfl⟩
  have ha := fi.2.2.2.1
  walk_at "r"
  refine up_ndnew fun d hd => ?_
  walk_at "r"
  have sd := same_new hd (.ext (ndF P w d []))
  refine up_call ⟨p, a, xs, rfl, hw.up sd, fun H1 st0 sm S0 => ?_⟩
  walk_at "r"
  have hd1 : H1 d = some (.ext (ndF P w d [])) := sm _ _ upd_same
  have s01 := sd.trans sm
  refine up_len (SqL.of (s01 _ _ hl0)) ?_
  rw [List.length_map]
  walk_at "r"
  refine up_rg1 (by omega) (by omega) ?_
  rw [Int.toNat_natCast]
  refine up_forR0 (fun i σ H' => ∃ (kvs' : Nt) (m : Nat) (st : Addr) (v5 v6 : Option V), Same H0 H' ∧ OkR xs a (row.take i) ∧ StAt H' st xs (row.take i) ∧ Memo P w H' d xs a kvs' ∧ kvs'.length ≤ i * B ∧ (∀ j : Nat, (Cp xs a (row.take i) (row.length - i))[j]? = some (row.drop i) → (Cp xs a [] row.length)[m + j]? = some row) ∧
      σ = [some (.ref p), some (.ref l), some (.ref d), some (.ref st), some (.int (m : Int)), v5, v6])
    ⟨[], 0, st0, none, none, s01, by rw [List.take_zero]; exact OkR.nil (fun x hx => (fi.2.2.1 x hx).1), by rw [List.take_zero]; exact S0, Memo.new hd1, Nat.zero_le _, fun j h => by
      rw [List.take_zero, Nat.sub_zero, List.drop_zero] at h
      rw [Nat.zero_add]
      exact h, rfl⟩ ?_ ?_
  · rintro i σ H' hi ⟨kvs', m, st, v5, v6, smH, hok, S, M, hkl, hmt, rfl⟩
    obtain ⟨p', hp'⟩ : ∃ p', row.length - i = p' + 1 := ⟨row.length - i - 1, by omega⟩
    rw [hp'] at hmt
    have hc9 := cost_9 (p := p' + 1) (by omega)
    have hcs : cost (p' + 1) = 1 + 5 * cost p' := rfl
    have hri : row[i]? = some row[i] := List.getElem?_eq_getElem hi
    have hdi : row.drop i = row[i] :: row.drop (i + 1) := List.drop_eq_getElem_cons hi
    have htk : row.take (i + 1) = row.take i ++ [row[i]] := by rw [List.take_add_one, hri]; rfl
    have hmem : row[i] ∈ chs xs a (row.take i) := chs_of_keeps (rest := row.drop (i + 1)) (by rw [← hdi, List.take_append_drop]; exact kp)
    generalize row[i] = ri at hri hdi htk hmem
    have hpl' : (row.take i).length = i := by rw [List.length_take]; omega
    generalize row.take i = pre at hok S hmt htk hmem hpl'
    walk_at "r"
    obtain ⟨dx, l', h1, h2⟩ := hw.up smH
    refine up_fdK h1 W.cl_Wish W.nA (flW_apart _ _) ?_
    walk_at "r"
    refine up_call ⟨st, a, xs, pre, rfl, S, ha, by omega, fun H2 pl sm2 hpl0 hpl => ?_⟩
    walk_at "r"
    have M2 := M.up sm2
    have S2 := S.up sm2
    have hpd : pl ≠ d := fun z => by rw [z, M2.nd.at_] at hpl; cases hpl
    have hd0 : H0 d = none := hd
    refine up_itl (SqL.of hpl) ?_
    refine up_forL (fun j σ H3 => Sb d H2 H3 ∧ ∃ (kvs3 : Nt) (v6 : Option V), Memo P w H3 d xs a kvs3 ∧ kvs3.length ≤ i * B + j * cost p' ∧ ri ∉ (chs xs a pre).take j ∧
        σ = [some (.ref p), some (.ref l), some (.ref d), some (.ref st), some (.int ((m + waysN xs a pre p' ((chs xs a pre).take j) : Nat) : Int)), some (.int (i : Int)), v6])
      ⟨Sb.refl _ _, kvs', v6, M2, by omega, by simp, rfl⟩ (fun j σ H3 _ h => SqL.of (h.1 _ _ hpd hpl)) ?_ ?_
    · rintro j x σ H3 hx ⟨sb, kvs3, v6, M3, hk3, hnm, rfl⟩
      rw [List.getElem?_map] at hx
      cases eo : (chs xs a pre)[j]? with
      | none => rw [eo] at hx; cases hx
      | some o =>
        rw [eo] at hx
        have ex : rv o = x := Option.some.inj hx
        subst ex
        have hom := List.mem_of_getElem? eo
        have hjl := (List.getElem?_eq_some_iff.mp eo).1
        have hcl := chs_len xs a pre
        have htkj : (chs xs a pre).take (j + 1) = (chs xs a pre).take j ++ [o] := by rw [List.take_add_one, eo]; rfl
        have s03 : Same H0 H3 := Sb.same (smH.trans sm2) hd0 sb
        walk_at "r"
        refine up_ixL (SqL.of (s03 _ _ hl0)) (at_of (j := i) rfl (v := rv ri) (by rw [List.getElem?_map, hri]; rfl)) ?_
        refine up_eqV (by cases o <;> cases ri <;> rfl) ?_
        walk_at "r"
        refine up_ifP (fun heq => ?_) (fun hne => ?_)
        · have eo2 : o = ri := rv_inj heq
          subst eo2
          walk_at "r"
          refine up_ixL (SqL.of (s03 _ _ hl0)) (at_of (j := i) rfl (v := rv o) (by rw [List.getElem?_map, hri]; rfl)) ?_
          walk_at "r"
          refine up_call ⟨st, o, xs, pre, rfl, S2.sb sb M2.nd.at_, chs_kind hom, by omega, fun H4 st' sm4 S4 => ?_⟩
          walk_at "r"
          refine up_lo ⟨kvs3, _, st', _, _, s03.trans sm4, ?_, ?_, M3.up sm4, ?_, fun j2 hj2 => ?_, rfl⟩
          · rw [htk]; exact hok.snoc hom
          · rw [htk]; exact S4
          · have e1 : (i + 1) * B = i * B + B := by rw [Nat.add_mul, Nat.one_mul]
            have hjc : j * cost p' ≤ 4 * cost p' := Nat.mul_le_mul_right _ (by omega)
            omega
          · rw [htk, show row.length - (i + 1) = p' by omega] at hj2
            rw [Nat.add_assoc]
            refine hmt _ ?_
            rw [Cp_next]
            have hsplit : chs xs a pre = (chs xs a pre).take j ++ (o :: (chs xs a pre).drop (j + 1)) := by
              rw [← List.take_append_drop j (chs xs a pre)]
              congr 1
              · rw [List.take_append_drop]
              · rw [List.take_append_drop, List.drop_eq_getElem_cons hjl]
                congr 1
                rw [List.getElem?_eq_getElem hjl] at eo
                exact Option.some.inj eo
            show (restC xs a pre p' (chs xs a pre))[_]? = _
            rw [hsplit]
            have e1 : restC xs a pre p' ((chs xs a pre).take j ++ (o :: (chs xs a pre).drop (j + 1))) = restC xs a pre p' ((chs xs a pre).take j) ++ restC xs a pre p' (o :: (chs xs a pre).drop (j + 1)) := by
              unfold restC
              rw [List.flatMap_append]
            have e2 : (chs xs a pre).take j = ((chs xs a pre).take j ++ (o :: (chs xs a pre).drop (j + 1))).take j := by rw [← hsplit]
            rw [e1, List.getElem?_append_right (by rw [rest_len, ← e2]; exact Nat.le_add_right _ _), rest_len, ← e2, Nat.add_sub_cancel_left, rest_cons]
            have hj2l := (List.getElem?_eq_some_iff.mp hj2).1
            rw [List.getElem?_append_left (by rw [List.length_map]; exact hj2l), List.getElem?_map, hj2, hdi]
            rfl
        · walk_at "r"
          refine up_call ⟨st, o, xs, pre, rfl, S2.sb sb M2.nd.at_, chs_kind hom, by omega, fun H4 st' sm4 S4 => ?_⟩
          walk_at "r"
          have sb4 : Sb d H2 H4 := sb.trans (Sb.of sm4)
          have s04 : Same H0 H4 := Sb.same (smH.trans sm2) hd0 sb4
          refine up_len (SqL.of (s04 _ _ hl0)) ?_
          rw [List.length_map]
          walk_at "r"
          obtain ⟨dx4, l4, h14, h24⟩ := hw.up s04
          refine up_fdK h14 W.cl_Wish W.nA (flW_apart _ _) ?_
          walk_at "r"
          rw [show ((row.length : Int) - i - 1) = ((p' : Nat) : Int) by omega]
          have hjc : j * cost p' ≤ 4 * cost p' := Nat.mul_le_mul_right _ (by omega)
          have hjc2 : (j + 1) * cost p' = j * cost p' + cost p' := by rw [Nat.add_mul, Nat.one_mul]
          have hi9 : i * B ≤ 9 * B := Nat.mul_le_mul_right _ (by omega)
          refine up_call ⟨st', d, p', a, xs, pre ++ [o], kvs3, rfl, S4, hok.snoc hom, ha, hs4, by rw [List.length_append, List.length_singleton]; omega, by omega, M3.up sm4, by omega, fun H5 kvs5 sb5 M5 hl5 => ?_⟩
          walk_at "r"
          refine up_lo ⟨sb4.trans sb5, kvs5, some (rv o), M5, by omega, ?_, ?_⟩
          · rw [htkj, List.mem_append]
            rintro (z | z)
            · exact hnm z
            · exact hne (by rw [List.mem_singleton.mp z])
          · rw [htkj, ways_snoc, ← Nat.add_assoc, Int.natCast_add (m + _)]
            rfl
    · rintro σ H3 ⟨sb, kvs3, v6, M3, hk3, hnm, rfl⟩
      rw [List.length_map, List.take_length] at hnm
      exact absurd hmem hnm
  · rintro σ H' ⟨kvs', m, st, v5, v6, smH, hok, S, M, hkl, hmt, rfl⟩
    rw [List.take_length, Nat.sub_self, List.drop_length] at hmt
    walk_at "r"
    have hc0 := Cp_zero xs a row
    rw [if_pos (keepB_iff.mpr kp)] at hc0
    have := hmt 0 (by rw [hc0]; rfl)
    rw [Nat.add_zero] at this
    exact (q m this).mono smH

abbrev s_law_keys : Stmt := top 32
theorem sc_law_keys : FnScope ["row", "kind"] ["row"] (defScope s_law_keys) := ⟨rfl, rfl, rfl, by decide +kernel, rfl, by decide +kernel, by decide +kernel⟩
def fKeys (K : PySem.W.Frag) : List V → Hp → VK → Prop := fun vs H Q => ∃ (l : Addr) (row : List (Option Nat)), vs = [.ref l] ∧ SqL K H l (row.map rv) ∧ row.length ≤ 1000 ∧ ∀ p, H p = none → Up (Q (.ref p)) (upd H p (.lst ((keysOf row).map V.int)))
theorem ok_law_keys {f : Addr} {fd : FuncData} (F : Fun K "_law_keys" "_law_keys" s_law_keys f fd) (T : Bl mg) : FnOk P w K mg base CX0 1 f fd ["row"] (KSp (fKeys K)) := by
  refine F.ok sc_law_keys (fun vs H Q E h => ?_) (fun cdv A outer s H vs Q E hr h => ?_)
  · obtain ⟨_, _, l, row, rfl, _⟩ := h
    rfl
  obtain ⟨H0, e0, l, row, rfl, hS, hn, q⟩ := h
  refine ⟨_, (pss_one (ps_ret (pe_lc (own := [("kind", 1)]) (g := gName 1) (tt := tYes) rfl sc_law_keys.nd (pi_list (pv 0)) (blkOk_by (own := [("kind", 1)]) (N := ["row", "kind"]) (sc := defScope s_law_keys) (by decide +kernel)) (fun _ _ _ _ _ => pg_name (i := 1) sc_law_keys.nd rfl (by first | exact Or.inl rfl | exact Or.inr rfl)) (fun _ _ _ _ _ => pts_nil) (fun _ _ _ _ _ => (pe_ifExp (pt_cmpR op_isN1 (pv 1) pe_non (by first | exact nomark _ | rfl)) pe_int (pv 1)))))), ?_⟩
  refine (?_ : Up _ H0) H e0
  walk_at "r"
  refine up_itl hS ?_
  refine up_lcL (fun _ => rfl) (fun D i H' => H0 D = none ∧ H' = upd H0 D (.lst ((keysOf (row.take i)).map V.int))) (fun D hD => ⟨hD, rfl⟩) (fun D i H' _ e => by rw [e.2]; exact sq_up (same_new e.1 _) hS) ?_ ?_
  · rintro D i x H' hD hx ⟨_, rfl⟩
    rw [List.getElem?_map] at hx
    cases em : row[i]? with
    | none => rw [em] at hx; cases hx
    | some o =>
      rw [em] at hx
      have ex : rv o = x := Option.some.inj hx
      subst ex
      have hml := (List.getElem?_eq_some_iff.mp em).1
      have hend : Up (Lh fun H' => H0 D = none ∧ H' = upd H0 D (.lst ((keysOf (row.take (i + 1))).map V.int))) (upd (upd H0 D (.lst ((keysOf (row.take i)).map V.int))) D (.lst ((keysOf (row.take i)).map V.int ++ [V.int (keyI o)]))) := by
        refine up_lh ⟨hD, ?_⟩
        rw [upd_upd, List.take_add_one, em]
        unfold keysOf
        rw [List.map_append, List.map_append]
        rfl
      have hlen : ((keysOf (row.take i)).map V.int).length < 100000 := by
        unfold keysOf
        rw [List.length_map, List.length_map, List.length_take]
        omega
      walk_at "r"
      refine up_keep1 rfl ?_
      walk_at "r"
      cases o with
      | none =>
        refine up_ifV (fun _ => ?_) (fun z => by simp [rv] at z)
        walk_at "r"
        exact up_putD upd_same hlen hend
      | some k =>
        refine up_ifV (fun z => by simp [rv] at z) (fun _ => ?_)
        walk_at "r"
        exact up_putD upd_same hlen hend
  · rintro D H' hD ⟨_, rfl⟩
    rw [List.length_map, List.take_length]
    exact q D hD

/-! ### lists of rows as data -/
theorem rv_flat0 (row : List (Option Nat)) : (row.map rv).all flat0 = true := flat0_rv row rv fun o => by cases o <;> rfl
theorem dp_rows {K : PySem.W.Frag} {H : Hp} : ∀ {rs : List Addr} {rows : List (List (Option Nat))}, rs.length = rows.length → (∀ (i : Nat) (r : Addr) (row : List (Option Nat)), rs[i]? = some r → rows[i]? = some row → H r = some (.lst (row.map rv))) → DpAll K H (rs.map V.ref) (rows.map fun row => PyData.list ((row.map rv).map fp))
  | [], [], _, _ => .nil
  | [], _ :: _, h, _ => by cases h
  | _ :: _, [], h, _ => by cases h
  | r :: rs, row :: rows, hl, h => .cons (.lst (.of (h 0 r row rfl rfl)) (dpAll_flat (rv_flat0 row))) (dp_rows (by simpa using hl) fun i r' row' h1 h2 => h (i + 1) r' row' h1 h2)
theorem lay_rows : ∀ rows : List (List (Option Nat)), PyData.canLayAll0 (rows.map fun row => PyData.list ((row.map rv).map fp)) = true
  | [] => by simp [PyData.canLayAll0]
  | row :: r => by
    have h := lay_rows r
    simp only [List.map_cons, PyData.canLayAll0, PyData.canLay0, lay_flat, h, Bool.and_self]
theorem depth_rows : ∀ rows : List (List (Option Nat)), PyData.depthAll (rows.map fun row => PyData.list ((row.map rv).map fp)) ≤ 1
  | [] => by simp [PyData.depthAll]
  | row :: r => by
    have h := depth_rows r
    simp only [List.map_cons, PyData.depthAll, PyData.depth, depth_flat]
    omega
theorem eqv_rows {rows : List (List (Option Nat))} {row : List (Option Nat)} (h : row ∈ rows) : (rows.map fun row => PyData.list ((row.map rv).map fp)).any (fun z => PyData.eqv z (PyData.list ((row.map rv).map fp))) = true := by
  rw [List.any_map, List.any_eq_true]
  exact ⟨row, h, SeqAt.eqv_refl _ (shaped_lay (shaped_list (row.map rv)))⟩

theorem first_at8 {xs : List Int} {m : Int} (h : m ∈ xs) : ∃ j : Nat, xs[j]? = some m ∧ ∀ (i : Nat) (z : Int), i < j → xs[i]? = some z → z ≠ m := by
  induction xs with
  | nil => cases h
  | cons x r ih =>
    by_cases e : x = m
    · exact ⟨0, by rw [e]; rfl, fun i z hi => absurd hi (Nat.not_lt_zero _)⟩
    · obtain ⟨j, h1, h2⟩ := ih (by
        rcases List.mem_cons.mp h with z | z
        · exact absurd z.symm e
        · exact z)
      refine ⟨j + 1, h1, fun i z hi hz => ?_⟩
      cases i with
      | zero =>
        have : x = z := Option.some.inj hz
        rw [← this]
        exact e
      | succ i => exact h2 i z (by omega) hz
theorem ge_of_lt {ns ms : List Int} (h : LexLt ns ms) : geLs ns ms = false := by
  obtain ⟨i, x, y, h1, h2, h3, h4⟩ := h
  have l1 := (List.getElem?_eq_some_iff.mp h1).1
  have l2 := (List.getElem?_eq_some_iff.mp h2).1
  have d1 : ns.getD i 0 = x := by rw [List.getD_eq_getElem?_getD, h1]; rfl
  have d2 : ms.getD i 0 = y := by rw [List.getD_eq_getElem?_getD, h2]; rfl
  have hm : i < min ns.length ms.length := by omega
  unfold geLs
  have hsplit : List.range (min ns.length ms.length) = (List.range (min ns.length ms.length)).take i ++ (i :: (List.range (min ns.length ms.length)).drop (i + 1)) := by
    have hl : i < (List.range (min ns.length ms.length)).length := by rw [List.length_range]; exact hm
    have e := List.drop_eq_getElem_cons hl
    rw [List.getElem_range] at e
    rw [← e, List.take_append_drop]
  rw [hsplit, firstLt_at]
  · rw [d1, d2]
    exact decide_eq_false (by omega)
  · rw [d1, d2]
    exact decide_eq_false (by omega)
  · intro j hj
    obtain ⟨t, ht⟩ := List.mem_iff_getElem?.mp hj
    have htl := (List.getElem?_eq_some_iff.mp ht).1
    rw [List.length_take, List.length_range] at htl
    rw [List.getElem?_take_of_lt (by omega), List.getElem?_range (by omega)] at ht
    have ej : t = j := Option.some.inj ht
    refine decide_eq_true ?_
    rw [List.getD_eq_getElem?_getD, List.getD_eq_getElem?_getD, h4 j (by omega)]
abbrev s_law : Stmt := top 33
theorem sc_law : FnScope ["script", "kinds", "counts", "apart", "wish", "least", "length", "many", "numbers", "rows", "number", "row"] ["script"] (defScope s_law) := ⟨rfl, rfl, rfl, by decide +kernel, rfl, by decide +kernel, by decide +kernel⟩
theorem ok_law {f : Addr} {fd : FuncData} (F : Fun K "law" "law" s_law f fd) (T : Bl mg) {C NW TG NS NR : Addr} (W : Wf K mg C) (c_law_cell_at : Fn P w K mg base CX0 1 "_law_cell_at" ["script", "k"] (KSp (fCell K))) (c_law_counts : Fn P w K mg base CX0 2 "_law_counts" ["script", "first", "kinds", "most"] (KSp (fCounts K))) (c_law_whole : Fn P w K mg base CX0 1 "_law_whole" ["found"] (KSp fWhole)) (c_law_list : Fn P w K mg base CX0 2 "_law_list" ["found", "due"] (KSp (fLawList K)))
    (c_law_keeps : Fn P w K mg base CX0 2 "_law_keeps" ["counts", "apart", "row"] (KSp (fLawKeeps K))) (c_law_keys : Fn P w K mg base CX0 1 "_law_keys" ["row"] (KSp (fKeys K))) (c_Wish_init : Ini P w K mg base (L2.CX P w) 2 C "Wish" ["self", "counts", "apart"] (KSx (fWishI K C NW))) (c_least_length : Fn P w K mg base CX0 2 "least_length" ["wish"] (KSp (fLeast C))) (c_many_rows : Fn P w K mg base (L2.CX P w) 13 "many_rows" ["wish", "length"] (KSx (fManyRows C TG)))
    (c_row_at : Fn P w K mg base (L2.CX P w) 14 "row_at" ["wish", "length", "number"] (KSx (fRowAt C TG NS))) (c_first_row : Fn P w K mg base (L2.CX P w) 15 "first_row" ["wish", "length"] (KSx (fFirstRow C TG))) (c_row_number : Fn P w K mg base (L2.CX P w) 14 "row_number" ["wish", "row"] (KSx (fRowNum C TG NR))) :
    FnOk P w K mg base CX0 16 f fd ["script"] (KSp (fLaw K)) := by
  refine F.ok sc_law (fun vs H Q E h => ?_) (fun cdv A outer s H vs Q E hr h => ?_)
  · obtain ⟨_, _, a, ns, rfl, _⟩ := h
    rfl
  obtain ⟨H0, e0, a, ns, rfl, hS, hn, q⟩ := h
  refine ⟨_, (pss_cons (ps_set (i := 1) sc_law.nd rfl (by first | exact Or.inl rfl | exact Or.inr rfl) (pe_op op_add pe_int (pe_op op_mod (kp_call c_law_cell_at hr (by decide) rfl (pa_cons (pv 0) (pa_cons pe_int pa_nil))) pe_int)))
      (pss_cons (ps_set (i := 2) sc_law.nd rfl (by first | exact Or.inl rfl | exact Or.inr rfl) (kp_call c_law_counts hr (by decide) rfl (pa_cons (pv 0) (pa_cons pe_int (pa_cons (pv 1) (pa_cons pe_int pa_nil))))))
      (kp_cut (ps_if (pt_cmpR op_eq (pe_op op_mod (pe_op op_fdiv (kp_call c_law_cell_at hr (by decide) rfl (pa_cons (pv 0) (pa_cons pe_int pa_nil))) pe_int) pe_int) pe_int (by first | exact nomark _ | rfl)) (pss_one (ps_set (i := 2) sc_law.nd rfl (by first | exact Or.inl rfl | exact Or.inr rfl) (kp_call c_law_counts hr (by decide) rfl (pa_cons (pv 0) (pa_cons pe_int (pa_cons (pv 1) (pa_cons pe_int pa_nil))))))) pss_nil)
      (pss_cons (ps_while PassesOwn.never (pt_cmpR op_gt (pe_callB (cr_sum rfl) (by rfl) T.sum (by decide +kernel) (pa_cons (pv 2) pa_nil)) pe_int (by first | exact nomark _ | rfl)) (pss_one (ps_asg (pe_op op_sub (pe_callB (cr_max rfl) (by rfl) T.max (by decide +kernel) (pa_cons (pv 2) pa_nil)) pe_int) (pg_sub (pv 2) (kp_bm (K := K) PySem.F.plainAttrs_list PySem.F.slot_list_index PySem.F.type_list_index mt_index (pv 2) (pa_cons (pe_callB (cr_max rfl) (by rfl) T.max (by decide +kernel) (pa_cons (pv 2) pa_nil)) pa_nil)) set_list))))
      (pss_cons (ps_set (i := 3) sc_law.nd rfl (by first | exact Or.inl rfl | exact Or.inr rfl) (pe_op op_mod (pe_op op_fdiv (kp_call c_law_cell_at hr (by decide) rfl (pa_cons (pv 0) (pa_cons pe_int pa_nil))) pe_int) pe_int))
      (kp_cut (ps_if (pt_cmpR op_eq (pe_op op_mod (pe_op op_fdiv (kp_call c_law_cell_at hr (by decide) rfl (pa_cons (pv 0) (pa_cons pe_int pa_nil))) pe_int) pe_int) pe_int (by first | exact nomark _ | rfl)) (pss_one (ps_set (i := 3) sc_law.nd rfl (by first | exact Or.inl rfl | exact Or.inr rfl) (pe_op op_mod (pe_op op_fdiv (kp_call c_law_cell_at hr (by decide) rfl (pa_cons (pv 0) (pa_cons pe_int pa_nil))) pe_int) pe_int))) pss_nil)
      (pss_cons (ps_set (i := 4) sc_law.nd rfl (by first | exact Or.inl rfl | exact Or.inr rfl) (kp_make c_Wish_init hr (by decide) rfl (pa_cons (pe_callTy kc_list (by rfl) T.list (by decide +kernel) (pa_cons (pv 2) pa_nil)) (pa_cons (pv 3) pa_nil))))
      (pss_cons (ps_set (i := 5) sc_law.nd rfl (by first | exact Or.inl rfl | exact Or.inr rfl) (kp_call c_least_length hr (by decide) rfl (pa_cons (pv 4) pa_nil)))
      (pss_cons (ps_if (pt_cmpR op_gt (pv 5) pe_int (by first | exact nomark _ | rfl)) (pss_one (ps_ret pe_bl)) pss_nil)
      (pss_cons (ps_set (i := 6) sc_law.nd rfl (by first | exact Or.inl rfl | exact Or.inr rfl) (pe_op op_add (pv 5) (pe_op op_mod (kp_call c_law_cell_at hr (by decide) rfl (pa_cons (pv 0) (pa_cons pe_int pa_nil))) (pe_op op_sub pe_int (pv 5)))))
      (pss_cons (ps_set (i := 7) sc_law.nd rfl (by first | exact Or.inl rfl | exact Or.inr rfl) (kp_callN c_many_rows hr (by decide) rfl (pa_cons (pv 4) (pa_cons (pv 6) pa_nil))))
      (pss_cons (ps_if (PW.pt (pw_or (pt_not (pt_val (kp_call c_law_whole hr (by decide) rfl (pa_cons (pv 7) pa_nil)))) (pw_or1 (pt_cmpR op_lt (pv 7) pe_int (by first | exact nomark _ | rfl))))) (pss_one (ps_ret pe_bl)) pss_nil)
      (pss_cons (ps_if (PW.pt (pw_and (pt_cmpR op_gt (pe_callB (cr_sum rfl) (by rfl) T.sum (by decide +kernel) (pa_cons (pv 2) pa_nil)) pe_int (by first | exact nomark _ | rfl)) (pw_and (pt_cmpR op_lt (pv 6) pe_int (by first | exact nomark _ | rfl)) (pw_and1 (pt_cmpR op_le (kp_callN c_many_rows hr (by decide) rfl (pa_cons (pv 4) (pa_cons (pe_op op_add (pv 6) pe_int) pa_nil))) (pv 7) (by first | exact nomark _ | rfl)))))) (pss_one (ps_ret pe_bl)) pss_nil)
      (pss_cons (ps_set (i := 8) sc_law.nd rfl (by first | exact Or.inl rfl | exact Or.inr rfl) (pe_callB cr_sortedI (by rfl) T.sorted (by decide +kernel) (pa_cons (pe_lst (pa_cons (pe_op op_mod (kp_call c_law_cell_at hr (by decide) rfl (pa_cons (pv 0) (pa_cons pe_int pa_nil))) (pv 7)) (pa_cons (pe_op op_mod (kp_call c_law_cell_at hr (by decide) rfl (pa_cons (pv 0) (pa_cons pe_int pa_nil))) (pv 7)) pa_nil))) pa_nil)))
      (pss_cons (ps_set (i := 9) sc_law.nd rfl (by first | exact Or.inl rfl | exact Or.inr rfl) (pe_lst pa_nil))
      (pss_cons (ps_for PassesOwn.never rfl (pi_list (pv 8)) (pg_name (i := 10) sc_law.nd rfl (by first | exact Or.inl rfl | exact Or.inr rfl)) (pss_cons (ps_set (i := 11) sc_law.nd rfl (by first | exact Or.inl rfl | exact Or.inr rfl) (kp_callN c_row_at hr (by decide) rfl (pa_cons (pv 4) (pa_cons (pv 6) (pa_cons (pv 10) pa_nil)))))
      (pss_cons (ps_if (PW.pt (pw_or (pt_not (pt_val (kp_call c_law_list hr (by decide) rfl (pa_cons (pv 11) (pa_cons (pe_callTy kc_list (by rfl) T.list (by decide +kernel) (pa_cons (pv 11) pa_nil)) pa_nil))))) (pw_or (pt_cmpR op_ne (pe_callB kc_len (by rfl) T.len (by decide +kernel) (pa_cons (pv 11) pa_nil)) (pv 6) (by first | exact nomark _ | rfl)) (pw_or1 (pt_not (pt_val (kp_call c_law_keeps hr (by decide) rfl (pa_cons (pv 2) (pa_cons (ko_fld (K := K) (pv 4) rfl) (pa_cons (pv 11) pa_nil)))))))))) (pss_one (ps_ret pe_bl)) pss_nil)
      (pss_cons (ps_if (pt_cmpR op_ne (kp_callN c_row_number hr (by decide) rfl (pa_cons (pv 4) (pa_cons (pe_callTy kc_list (by rfl) T.list (by decide +kernel) (pa_cons (pv 11) pa_nil)) pa_nil))) (pv 10) (by first | exact nomark _ | rfl)) (pss_one (ps_ret pe_bl)) pss_nil)
      (pss_one (ps_expr (kp_bm (K := K) PySem.F.plainAttrs_list PySem.F.slot_list_append PySem.F.type_list_append mt_append (pv 9) (pa_cons (kp_call c_law_keys hr (by decide) rfl (pa_cons (pv 11) pa_nil)) pa_nil))))))))
      (pss_cons (ps_if (PW.pt (pw_or (PW.pt (pw_and (pt_cmpR op_lt (pe_ix (ko_ixL (K := K)) (pv 8) pe_int (fun _ _ => rfl)) (pe_ix (ko_ixL (K := K)) (pv 8) pe_int (fun _ _ => rfl)) (by first | exact nomark _ | rfl)) (pw_and1 (pt_cmpR (op_geL (Nat.lt_of_le_of_lt (Nat.le_add_right _ _) hr.units)) (pe_ix (ko_ixL (K := K)) (pv 9) pe_int (fun _ _ => rfl)) (pe_ix (ko_ixL (K := K)) (pv 9) pe_int (fun _ _ => rfl)) (by first | exact nomark _ | rfl))))) (pw_or1 (PW.pt (pw_and (pt_cmpR op_eq (pe_ix (ko_ixL (K := K)) (pv 8) pe_int (fun _ _ => rfl)) (pe_ix (ko_ixL (K := K)) (pv 8) pe_int (fun _ _ => rfl)) (by first | exact nomark _ | rfl)) (pw_and1 (pt_cmpR (op_neD hr.units) (pe_ix (ko_ixL (K := K)) (pv 9) pe_int (fun _ _ => rfl)) (pe_ix (ko_ixL (K := K)) (pv 9) pe_int (fun _ _ => rfl)) (by first | exact nomark _ | rfl)))))))) (pss_one (ps_ret pe_bl)) pss_nil)
      (pss_one (ps_ret (pe_cmpR op_eq (kp_callN c_row_number hr (by decide) rfl (pa_cons (pv 4) (pa_cons (kp_callN c_first_row hr (by decide) rfl (pa_cons (pv 4) (pa_cons (pv 6) pa_nil))) pa_nil))) pe_int (by first | exact nomark _ | rfl))))))))))))))))))))), ?_⟩
  refine (?_ : Up _ H0) H e0
  walk_at "r"
  refine up_call ⟨a, ns, _, rfl, hS, by decide, ?_⟩
  walk_at "r"
  refine up_I (by decide) ?_
  walk_at "r"
  have k1 := Int.emod_nonneg (cell ns 0) (show (4 : Int) ≠ 0 by decide)
  have k2 := Int.emod_lt_of_pos (cell ns 0) (show (0 : Int) < 4 by decide)
  generalize cell ns 0 % 4 = kinds at k1 k2
  refine up_call ⟨a, ns, 1, 1 + kinds, 4, rfl, hS, by decide, by omega, by omega, by decide, fun c0 hc0 => ?_⟩
  have hcm := countsOf_mem (ns := ns) (first := 1) (kinds := 1 + kinds) (most := 4) (by decide)
  have hcl := countsOf_len ns 1 (1 + kinds) 4
  generalize countsOf ns 1 (1 + kinds) 4 = xs0 at hcm hcl
  have sm1 : Same H0 (upd H0 c0 (.lst (xs0.map V.int))) := same_new hc0 _
  have hc1 : upd H0 c0 (.lst (xs0.map V.int)) c0 = some (.lst (xs0.map V.int)) := upd_same
  generalize hH1 : upd H0 c0 (.lst (xs0.map V.int)) = H1 at sm1 hc1
  walk_at "r"
  refine up_cut (fun σ H' => Same H0 H' ∧ ∃ (c : Addr) (xs : List Int), H0 c = none ∧ H' c = some (.lst (xs.map V.int)) ∧ xs.length = (1 + kinds).toNat ∧ (∀ x ∈ xs, 0 ≤ x ∧ x ≤ 7) ∧ σ = [some (.ref a), some (.int (1 + kinds)), some (.ref c), none, none, none, none, none, none, none, none, none]) ?_ ?_
  · walk_at "r"
    refine up_call ⟨a, ns, _, rfl, sq_up sm1 hS, by decide, ?_⟩
    walk_at "r"
    refine up_I ⟨by decide, by decide⟩ ?_
    walk_at "r"
    refine up_I (by decide) ?_
    walk_at "r"
    refine up_ifP (fun _ => ?_) (fun _ => ?_)
    · walk_at "r"
      refine up_call ⟨a, ns, 1, 1 + kinds, 7, rfl, sq_up sm1 hS, by decide, by omega, by omega, by decide, fun c hc => ?_⟩
      walk_at "r"
      refine up_lo ⟨sm1.trans (same_new hc _), c, _, sm1.free hc, upd_same, countsOf_len _ _ _ _, countsOf_mem (by decide), rfl⟩
    · walk_at "r"
      exact up_lo ⟨sm1, c0, xs0, hc0, hc1, hcl, fun x hx => by have := hcm x hx; omega, rfl⟩
  rintro σ H2 ⟨sm2, c, xs1, hc20, hc2, hxl1, hxb1, rfl⟩
  walk_at "r"
  refine up_while (fun m σ H' => ∃ xs : List Int, Same H0 H' ∧ H' c = some (.lst (xs.map V.int)) ∧ xs.length = xs1.length ∧ (∀ x ∈ xs, 0 ≤ x ∧ x ≤ 7) ∧ m = xs.sum.toNat ∧ σ = [some (.ref a), some (.int (1 + kinds)), some (.ref c), none, none, none, none, none, none, none, none, none]) _
    ⟨xs1, sm2, hc2, rfl, hxb1, rfl, rfl⟩ ?_
  rintro m σ H' ⟨xs, sm, hD1, hxl, hxb, rfl, rfl⟩
  refine ⟨decide (xs.sum > 7), fun Q k => ?_, fun hb => ?_, fun hb => ?_⟩
  · walk_at "r"
    refine up_sum (SqL.of hD1) ?_
    walk_at "r"
    exact k
  · have hpos := of_decide_eq_true hb
    have hne : 0 < xs.length := by omega
    walk_at "r"
    refine up_max (SqL.of hD1) hne fun m hm hmx => ?_
    walk_at "r"
    refine up_bmL (SqL.of hD1) ?_
    walk_at "r"
    refine up_max (SqL.of hD1) hne fun m2 hm2 hmx2 => ?_
    have em : m2 = m := Gr.one ⟨hm2, hmx2⟩ ⟨hm, hmx⟩
    subst em
    obtain ⟨j, hj, hjn⟩ := first_at8 hm
    have hjl := (List.getElem?_eq_some_iff.mp hj).1
    walk_at "r"
    refine up_index (j := j) (z := .int m2) (SqL.of hD1) rfl (int_flatV xs) (by rw [List.getElem?_map, hj]; rfl) (beq_self_eq_true _) (fun i z' hi hz => ?_) ?_
    · rw [List.getElem?_map] at hz
      cases ei : xs[i]? with
      | none => rw [ei] at hz; cases hz
      | some y =>
        rw [ei] at hz
        rw [← Option.some.inj hz]
        exact beq_false_of_ne (hjn i y hi ei)
    refine up_setL (j := j) hD1 (by
      unfold ixN
      rw [List.length_map, if_pos (by omega), if_pos (by omega)]
      simp) ?_
    have hm0 : 1 ≤ m2 := by
      rcases Int.lt_or_le m2 1 with z | z
      · have := sum_le (b := 0) (xs := xs) fun y hy => by have := hmx y hy; omega
        omega
      · exact z
    have hss := sum_set (y := m2 - 1) hj
    refine up_lo ⟨_, ?_, xs.set j (m2 - 1), same_mut sm hc20, by rw [upd_same, List.map_set], by rw [List.length_set]; exact hxl, fun x hx => ?_, rfl, rfl⟩
    · rw [hss]; omega
    · rcases List.mem_or_eq_of_mem_set hx with z | z
      · exact hxb x z
      · rw [z]
        have := hxb m2 hm
        omega
  have hle := of_decide_eq_false hb
  have hs7 : xs.sum ≤ 7 := by omega
  have hx4 : xs.length ≤ 4 := by omega
  have hx1 : 1 ≤ xs.length := by omega
  walk_at "r"
  refine up_call ⟨a, ns, _, rfl, sq_up sm hS, by decide, ?_⟩
  walk_at "r"
  refine up_I ⟨by decide, by decide⟩ ?_
  walk_at "r"
  refine up_I (by decide) ?_
  walk_at "r"
  have p1 := Int.emod_nonneg (cell ns 0 / 12) (show (4 : Int) ≠ 0 by decide)
  have p2 := Int.emod_lt_of_pos (cell ns 0 / 12) (show (0 : Int) < 4 by decide)
  generalize cell ns 0 / 12 % 4 = ap0 at p1 p2
  refine up_cut (fun σ H2 => H2 = H' ∧ ∃ ap : Int, 0 ≤ ap ∧ ap ≤ 8 ∧ σ = [some (.ref a), some (.int (1 + kinds)), some (.ref c), some (.int ap), none, none, none, none, none, none, none, none]) ?_ ?_
  · walk_at "r"
    refine up_call ⟨a, ns, _, rfl, sq_up sm hS, by decide, ?_⟩
    walk_at "r"
    refine up_I ⟨by decide, by decide⟩ ?_
    walk_at "r"
    refine up_I (by decide) ?_
    walk_at "r"
    refine up_ifP (fun _ => ?_) (fun _ => ?_)
    · walk_at "r"
      refine up_call ⟨a, ns, _, rfl, sq_up sm hS, by decide, ?_⟩
      walk_at "r"
      refine up_I ⟨by decide, by decide⟩ ?_
      walk_at "r"
      refine up_I (by decide) ?_
      walk_at "r"
      have q1 := Int.emod_nonneg (cell ns 0 / 12) (show (9 : Int) ≠ 0 by decide)
      have q2 := Int.emod_lt_of_pos (cell ns 0 / 12) (show (0 : Int) < 9 by decide)
      exact up_lo ⟨rfl, _, q1, by omega, rfl⟩
    · walk_at "r"
      exact up_lo ⟨rfl, ap0, p1, by omega, rfl⟩
  rintro σ H3 ⟨rfl, ap, ha0, ha8, rfl⟩
  have fi : Fine ap xs := ⟨hx1, by omega, fun x hx => by have := hxb x hx; omega, ha0, ha8⟩
  walk_at "r"
  refine up_listOf (SqL.of hD1) fun gl hgl => ?_
  walk_at "r"
  have s4 := same_new hgl (.lst (xs.map V.int))
  refine use_Wish (SqL.of upd_same) fi fun p H4 sm4 hp4 W4 => ?_
  walk_at "r"
  have S34 := s4.trans sm4
  have hc4 := S34 _ _ hD1
  have S4 := sm.trans S34
  refine up_call ⟨p, ap, xs, rfl, W4, fi, fun g gr => ?_⟩
  walk_at "r"
  have hl0 : 0 ≤ max xs.sum (frN xs ap g) := by
    have := sum_nn fun x hx => (hxb x hx).1
    omega
  obtain ⟨least, hleast⟩ : ∃ least : Nat, max xs.sum (frN xs ap g) = least := ⟨_, (Int.toNat_of_nonneg hl0).symm⟩
  rw [hleast]
  refine up_ifP (fun hbig => ?_) (fun hnb => ?_)
  · walk_at "r"
    exact q.mono S4
  have hl9 : least ≤ 9 := by omega
  walk_at "r"
  refine up_call ⟨a, ns, _, rfl, sq_up S4 hS, by decide, ?_⟩
  walk_at "r"
  refine up_I (by omega) ?_
  walk_at "r"
  have d1 := Int.emod_nonneg (cell ns 5) (show (10 : Int) - least ≠ 0 by omega)
  have d2 := Int.emod_lt_of_pos (cell ns 5) (show (0 : Int) < 10 - least by omega)
  obtain ⟨L, hL⟩ : ∃ L : Nat, (least : Int) + cell ns 5 % (10 - least) = L := ⟨((least : Int) + cell ns 5 % (10 - least)).toNat, by omega⟩
  rw [hL]
  have hL9 : L ≤ 9 := by omega
  have hsm : SmallC xs L := ⟨hs7, hx4, hL9⟩
  have hmp : 0 < (Cp xs ap [] L).length := many_pos fi gr (by omega)
  refine up_callX ⟨p, ap, xs, L, rfl, W4, fi, fun _ => ?_, fun z => absurd hsm z⟩
  walk_at "r"
  refine up_call ⟨_, rfl, ?_⟩
  walk_at "r"
  refine up_orF rfl ?_
  walk_at "r"
  refine up_ifF (decide_eq_false (by omega)) ?_
  refine up_next ?_
  refine up_seq ?_
  refine up_if ?_
  refine up_anyT (fun b => b = false) (fun QB kk => ?_) (fun b hb => ?_)
  · walk_at "r"
    refine up_sum (SqL.of hc4) ?_
    walk_at "r"
    refine up_andK (fun h1 => ?_) (fun h1 => kk _ rfl)
    have e1 := of_decide_eq_true h1
    walk_at "r"
    refine up_andK (fun h2 => ?_) (fun h2 => kk _ rfl)
    have e2 := of_decide_eq_true h2
    walk_at "r"
    rw [show ((L : Nat) : Int) + 1 = ((L + 1 : Nat) : Int) by omega]
    have hsm2 : SmallC xs (L + 1) := ⟨hs7, hx4, by omega⟩
    refine up_callX ⟨p, ap, xs, L + 1, rfl, W4, fi, fun _ => ?_, fun z => absurd hsm2 z⟩
    walk_at "r"
    refine kk _ (decide_eq_false ?_)
    have := many_more (L := L) (a := ap) e1 hmp
    omega
  subst hb
  refine up_ifF rfl ?_
  walk_at "r"
  refine up_call ⟨a, ns, _, rfl, sq_up S4 hS, by decide, ?_⟩
  walk_at "r"
  refine up_I (by omega) ?_
  walk_at "r"
  have u1 := Int.emod_nonneg (cell ns 6) (show (((Cp xs ap [] L).length : Nat) : Int) ≠ 0 by omega)
  have u2 := Int.emod_lt_of_pos (cell ns 6) (show (0 : Int) < (((Cp xs ap [] L).length : Nat) : Int) by omega)
  generalize cell ns 6 % (((Cp xs ap [] L).length : Nat) : Int) = m1 at u1 u2
  refine up_call ⟨a, ns, _, rfl, sq_up S4 hS, by decide, ?_⟩
  walk_at "r"
  refine up_I (by omega) ?_
  walk_at "r"
  have v1 := Int.emod_nonneg (cell ns 7) (show (((Cp xs ap [] L).length : Nat) : Int) ≠ 0 by omega)
  have v2 := Int.emod_lt_of_pos (cell ns 7) (show (0 : Int) < (((Cp xs ap [] L).length : Nat) : Int) by omega)
  generalize cell ns 7 % (((Cp xs ap [] L).length : Nat) : Int) = m2 at v1 v2
  refine up_lstK (show 2 ≤ 100000 by decide) fun lu hlu => ?_
  walk_at "r"
  refine up_sortedI (ns := [m1, m2]) (SqL.of upd_same) fun ns' hperm hsort nu hnu => ?_
  obtain ⟨x0, x1, rfl⟩ : ∃ x0 x1 : Int, ns' = [x0, x1] := by
    have hlen := hperm.length_eq
    cases ns' with
    | nil => cases hlen
    | cons x r => cases r with
      | nil => cases hlen
      | cons y r => cases r with
        | nil => exact ⟨x, y, rfl⟩
        | cons z r => simp at hlen
  have hx0 : 0 ≤ x0 ∧ x0 < (((Cp xs ap [] L).length : Nat) : Int) := by
    have := hperm.mem_iff.mp (show x0 ∈ [x0, x1] from List.mem_cons_self)
    rcases List.mem_cons.mp this with z | z
    · omega
    · have := List.mem_singleton.mp z
      omega
  have hx1' : 0 ≤ x1 ∧ x1 < (((Cp xs ap [] L).length : Nat) : Int) := by
    have := hperm.mem_iff.mp (show x1 ∈ [x0, x1] from List.mem_cons_of_mem _ List.mem_cons_self)
    rcases List.mem_cons.mp this with z | z
    · omega
    · have := List.mem_singleton.mp z
      omega
  have hxx : x0 ≤ x1 := (List.pairwise_cons.mp hsort).1 x1 List.mem_cons_self
  obtain ⟨n0, rfl⟩ : ∃ n : Nat, x0 = n := ⟨_, (Int.toNat_of_nonneg hx0.1).symm⟩
  obtain ⟨n1, rfl⟩ : ∃ n : Nat, x1 = n := ⟨_, (Int.toNat_of_nonneg hx1'.1).symm⟩
  have s5 := (same_new hlu (.lst [.int m1, .int m2])).trans (same_new hnu (.lst ([(n0 : Int), (n1 : Int)].map V.int)))
  have hnu5 : upd (upd H4 lu (.lst [.int m1, .int m2])) nu (.lst ([(n0 : Int), (n1 : Int)].map V.int)) nu = some (.lst ([(n0 : Int), (n1 : Int)].map V.int)) := upd_same
  have eH5 : upd (upd H4 lu (.lst ([m1, m2].map V.int))) nu (.lst ([(n0 : Int), (n1 : Int)].map V.int)) = upd (upd H4 lu (.lst [.int m1, .int m2])) nu (.lst ([(n0 : Int), (n1 : Int)].map V.int)) := rfl
  generalize upd (upd H4 lu (.lst [.int m1, .int m2])) nu (.lst ([(n0 : Int), (n1 : Int)].map V.int)) = H5 at s5 hnu5
  walk_at "r"
  refine up_lstK (by decide) fun Rw hRw => ?_
  walk_at "r"
  have s6 := same_new hRw (.lst [])
  have nd := Cp_nodup xs ap [] L
  refine up_itl (SqL.of (s6 _ _ hnu5)) ?_
  refine up_forL (fun i σ H' => Same H5 H' ∧ ∃ (ks : List Addr) (rws : List (List (Option Nat))) (v10 v11 : Option V), ks.length = i ∧ rws.length = i ∧ H' Rw = some (.lst (ks.map V.ref)) ∧ Rw ∉ ks ∧ (∀ (j : Nat) (k : Addr) (r : List (Option Nat)), ks[j]? = some k → rws[j]? = some r → H' k = some (.lst ((keysOf r).map V.int))) ∧
      (∀ (j : Nat) (r : List (Option Nat)), rws[j]? = some r → ∃ m, [n0, n1][j]? = some m ∧ (Cp xs ap [] L)[m]? = some r) ∧
      σ = [some (.ref a), some (.int (1 + kinds)), some (.ref c), some (.int ap), some (.ref p), some (.int (least : Int)), some (.int (L : Int)), some (.int (((Cp xs ap [] L).length : Nat) : Int)), some (.ref nu), some (.ref Rw), v10, v11])
    ⟨s6, [], [], none, none, rfl, rfl, upd_same, by simp, fun j k r h => (by simp at h), fun j r h => (by simp at h), rfl⟩ (fun i σ H' _ h => SqL.of (h.1 _ _ hnu5)) ?_ ?_
  · rintro i x σ H6 hx ⟨sm6, ks, rws, v10, v11, hkl, hrl, hRw6, hnk, hks, hrws, rfl⟩
    obtain ⟨m, hm, rfl⟩ : ∃ m : Nat, [n0, n1][i]? = some m ∧ x = .int (m : Int) := by
      match i, hx with
      | 0, hx => exact ⟨n0, rfl, (Option.some.inj hx).symm⟩
      | 1, hx => exact ⟨n1, rfl, (Option.some.inj hx).symm⟩
      | i + 2, hx => exact absurd hx (by simp)
    have hi2 : i < 2 := (List.getElem?_eq_some_iff.mp hm).1
    have hml : m < (Cp xs ap [] L).length := by
      match i, hm with
      | 0, hm => have e : n0 = m := Option.some.inj hm; omega
      | 1, hm => have e : n1 = m := Option.some.inj hm; omega
      | i + 2, hm => exact absurd hm (by simp)
    obtain ⟨row, hrow⟩ : ∃ row, (Cp xs ap [] L)[m]? = some row := ⟨_, List.getElem?_eq_getElem hml⟩
    have hmem := mem_Cp.mp (List.mem_of_getElem? hrow)
    rw [List.nil_append] at hmem
    have S46 := s5.trans sm6
    walk_at "r"
    refine up_callX ⟨p, ap, xs, L, (m : Int), rfl, W4.up S46, fi, fun z => absurd hsm z, fun _ z => ?_, fun _ _ row' hrow' H7 g sm7 hg0 hg7 => ?_⟩
    · omega
    rw [Int.toNat_natCast, hrow] at hrow'
    have er := Option.some.inj hrow'
    subst er
    walk_at "r"
    refine up_listOf (SqL.of hg7) fun cp hcp => ?_
    walk_at "r"
    have s8 := same_new hcp (.lst (row.map rv))
    have hg8 := s8 _ _ hg7
    refine up_call ⟨g, cp, _, rfl, hg8, SqL.of upd_same, rv_flat0 row, by rw [List.length_map]; omega, ?_⟩
    walk_at "r"
    refine up_orF rfl ?_
    walk_at "r"
    refine up_len (SqL.of hg8) ?_
    rw [List.length_map, hmem.1]
    walk_at "r"
    refine up_orF (by simp) ?_
    walk_at "r"
    have S48 := (S46.trans sm7).trans s8
    obtain ⟨dx, l', h1, h2⟩ := W4.up S48
    refine up_fdK h1 W.cl_Wish W.nA (flW_apart _ _) ?_
    walk_at "r"
    refine up_call ⟨c, g, ap, xs, row, rfl, SqL.of (S48 _ _ hc4), SqL.of hg8, by omega, by omega, fun b hb => ?_⟩
    have hbt := hb.mpr hmem.2
    subst hbt
    walk_at "r"
    refine up_ifF rfl ?_
    walk_at "r"
    refine up_listOf (SqL.of hg8) fun cp2 hcp2 => ?_
    walk_at "r"
    have s9 := same_new hcp2 (.lst (row.map rv))
    refine up_callX ⟨p, cp2, ap, xs, row, rfl, (W4.up S48).up s9, fi, upd_same, by omega, fun z => absurd (by rw [hmem.1]; exact hsm) z, fun _ z => absurd hmem.2 z, fun _ n hn => ?_⟩
    rw [hmem.1] at hn
    have en : n = m := by
      have h1 := (List.getElem?_eq_some_iff.mp hn).1
      exact (List.getElem?_inj h1 nd).mp (hn.trans hrow.symm)
    subst en
    walk_at "r"
    refine up_ifF (by simp) ?_
    walk_at "r"
    have S69 := (sm7.trans s8).trans s9
    refine up_bmL (SqL.of (S69 _ _ hRw6)) ?_
    walk_at "r"
    refine up_call ⟨g, row, rfl, SqL.of (s9 _ _ hg8), by omega, fun kk hkk => ?_⟩
    have s10 := same_new hkk (.lst ((keysOf row).map V.int))
    have S6_10 := S69.trans s10
    refine up_append (s10 _ _ (S69 _ _ hRw6)) (by rw [List.length_map]; omega) ?_
    walk_at "r"
    have hkR : kk ≠ Rw := fun z => by rw [z, S69 _ _ hRw6] at hkk; cases hkk
    refine up_lo ⟨same_mut (sm6.trans S6_10) hRw, ks ++ [kk], rws ++ [row], _, _, by rw [List.length_append, hkl]; rfl, by rw [List.length_append, hrl]; rfl, by rw [upd_same, List.map_append]; rfl, ?_, fun j k r h3 h4 => ?_, fun j r h4 => ?_, rfl⟩
    · rw [List.mem_append]
      rintro (z | z)
      · exact hnk z
      · exact hkR (List.mem_singleton.mp z).symm
    · by_cases hj : j < ks.length
      · rw [List.getElem?_append_left hj] at h3
        rw [List.getElem?_append_left (by omega)] at h4
        have hkn : k ≠ Rw := fun z => hnk (z ▸ List.mem_of_getElem? h3)
        rw [upd_ne hkn]
        exact S6_10 _ _ (hks j k r h3 h4)
      · rw [List.getElem?_append_right (by omega)] at h3
        rw [List.getElem?_append_right (by omega)] at h4
        have e0 : j - ks.length = 0 := by
          have := (List.getElem?_eq_some_iff.mp h3).1
          rw [List.length_singleton] at this
          omega
        rw [e0] at h3
        rw [show j - rws.length = 0 by omega] at h4
        have e1 : kk = k := Option.some.inj h3
        have e2 : row = r := Option.some.inj h4
        rw [← e1, ← e2, upd_ne hkR, upd_same]
    · by_cases hj : j < rws.length
      · rw [List.getElem?_append_left hj] at h4
        exact hrws j r h4
      · rw [List.getElem?_append_right (by omega)] at h4
        have e0 : j - rws.length = 0 := by
          have := (List.getElem?_eq_some_iff.mp h4).1
          rw [List.length_singleton] at this
          omega
        rw [e0] at h4
        rw [← Option.some.inj h4, show j = i by omega]
        exact ⟨n, hm, hrow⟩
  · rintro σ H6 ⟨sm6, ks, rws, v10, v11, hkl, hrl, hRw6, hnk, hks, hrws, rfl⟩
    have hkl2 : ks.length = 2 := hkl
    have hrl2 : rws.length = 2 := hrl
    have k0 : ks[0]? = some ks[0] := List.getElem?_eq_getElem (by omega)
    have k1' : ks[1]? = some ks[1] := List.getElem?_eq_getElem (by omega)
    have r0 : rws[0]? = some rws[0] := List.getElem?_eq_getElem (by omega)
    have r1 : rws[1]? = some rws[1] := List.getElem?_eq_getElem (by omega)
    have hk0 := hks 0 _ _ k0 r0
    have hk1 := hks 1 _ _ k1' r1
    obtain ⟨m0, e0, hm0⟩ := hrws 0 _ r0
    obtain ⟨m1', e1, hm1⟩ := hrws 1 _ r1
    have en0 : n0 = m0 := Option.some.inj e0
    have en1 : n1 = m1' := Option.some.inj e1
    subst en0 en1
    generalize ks[0] = kA at k0 hk0
    generalize ks[1] = kB at k1' hk1
    generalize rws[0] = rA at hk0 hm0
    generalize rws[1] = rB at hk1 hm1
    have hnu6 := sm6 _ _ hnu5
    have S46 := s5.trans sm6
    refine up_seq ?_
    refine up_if ?_
    refine up_anyT (fun b => b = false) (fun QB kk => ?_) (fun b hb => ?_)
    · have ixn0 : ∀ {Q : VK}, Up (Q (.int (n0 : Int))) H6 → Up (fun H1 => rIxL K (.ref nu) (.int 0) H1 Q) H6 := fun k => up_ixL (SqL.of hnu6) (at_of (j := 0) rfl rfl) k
      have ixn1 : ∀ {Q : VK}, Up (Q (.int (n1 : Int))) H6 → Up (fun H1 => rIxL K (.ref nu) (.int 1) H1 Q) H6 := fun k => up_ixL (SqL.of hnu6) (at_of (j := 1) rfl rfl) k
      have ixr0 : ∀ {Q : VK}, Up (Q (.ref kA)) H6 → Up (fun H1 => rIxL K (.ref Rw) (.int 0) H1 Q) H6 := fun k => up_ixL (SqL.of hRw6) (at_of (j := 0) rfl (by rw [List.getElem?_map, k0]; rfl)) k
      have ixr1 : ∀ {Q : VK}, Up (Q (.ref kB)) H6 → Up (fun H1 => rIxL K (.ref Rw) (.int 1) H1 Q) H6 := fun k => up_ixL (SqL.of hRw6) (at_of (j := 1) rfl (by rw [List.getElem?_map, k1']; rfl)) k
      have second : ∀ {D : Bool → Hp → Prop}, (∀ b, b = false → Up (D b) H6) → n0 ≤ n1 → True := fun _ _ => trivial
      clear second
      by_cases hlt : n0 < n1
      · have hge := ge_of_lt (Cp_sorted (by omega) hm0 hm1 hlt)
        walk_at "r"
        refine ixn0 ?_
        walk_at "r"
        refine ixn1 ?_
        walk_at "r"
        refine up_andT (decide_eq_true (by omega)) ?_
        walk_at "r"
        refine ixr0 ?_
        walk_at "r"
        refine ixr1 ?_
        refine up_geL (SqL.of hk0) (SqL.of hk1) ?_
        rw [hge]
        walk_at "r"
        refine up_orF rfl ?_
        walk_at "r"
        refine ixn0 ?_
        walk_at "r"
        refine ixn1 ?_
        walk_at "r"
        refine up_andF (decide_eq_false (by omega)) ?_
        exact kk _ rfl
      · have hnn : n0 = n1 := by omega
        have hrr : rA = rB := by rw [hnn, hm1] at hm0; exact (Option.some.inj hm0).symm
        walk_at "r"
        refine ixn0 ?_
        walk_at "r"
        refine ixn1 ?_
        walk_at "r"
        refine up_andF (decide_eq_false (by omega)) ?_
        refine up_orF rfl ?_
        walk_at "r"
        refine ixn0 ?_
        walk_at "r"
        refine ixn1 ?_
        walk_at "r"
        refine up_andT (decide_eq_true (by omega)) ?_
        walk_at "r"
        refine ixr0 ?_
        walk_at "r"
        refine ixr1 ?_
        refine up_neLL (SqL.of hk0) (SqL.of hk1) (flat0_ints _) (flat0_ints _) ?_
        rw [hrr, decide_eq_true rfl]
        walk_at "r"
        exact kk _ rfl
    subst hb
    refine up_ifF rfl ?_
    walk_at "r"
    obtain ⟨row0, hrow0⟩ : ∃ row, (Cp xs ap [] L)[0]? = some row := ⟨_, List.getElem?_eq_getElem hmp⟩
    have hmem := mem_Cp.mp (List.mem_of_getElem? hrow0)
    rw [List.nil_append] at hmem
    refine up_callX ⟨p, ap, xs, L, rfl, W4.up S46, fi, fun z => absurd hsm z, fun _ h0 => ?_, fun _ row' hrow' H7 g sm7 hg0 hg7 => ?_⟩
    · rw [h0] at hmp
      exact absurd hmp (Nat.lt_irrefl 0)
    rw [hrow0] at hrow'
    have er := Option.some.inj hrow'
    subst er
    walk_at "r"
    refine up_callX ⟨p, g, ap, xs, row0, rfl, (W4.up S46).up sm7, fi, hg7, by omega, fun z => absurd (by rw [hmem.1]; exact hsm) z, fun _ z => absurd hmem.2 z, fun _ n hn => ?_⟩
    rw [hmem.1] at hn
    have en : n = 0 := by
      have h1 := (List.getElem?_eq_some_iff.mp hn).1
      exact (List.getElem?_inj h1 nd).mp (hn.trans hrow0.symm)
    subst en
    walk_at "r"
    exact q.mono ((S4.trans S46).trans sm7)

end
theorem all_mk {l : PySem.W.OpenLaw} {w : World} {K : PySem.W.Frag} {h : Heap} {mg : Str → Option Value} {fa : Addr} (X : K.In h) (G : h.Ns mainGlobals mg) (hfa : mg "law" = some (.ref fa))
    {R_NoRow : Addr}
    {R_NoSuch : Addr}
    {R_TooGreat : Addr}
    {R_NoWish : Addr}
    {C_Wish : Addr}
    {f0 : Addr} {od0 an0 : Option Addr} {sl0 : Array (Option Value)} {oc0 kV0 dc0 pm0 cd0 ct0 : Value}
    {f1 : Addr} {od1 an1 : Option Addr} {sl1 : Array (Option Value)} {oc1 kV1 dc1 pm1 cd1 ct1 : Value}
    {f2 : Addr} {od2 an2 : Option Addr} {sl2 : Array (Option Value)} {oc2 kV2 dc2 pm2 cd2 ct2 : Value}
    {f3 : Addr} {od3 an3 : Option Addr} {sl3 : Array (Option Value)} {oc3 kV3 dc3 pm3 cd3 ct3 : Value}
    {f4 : Addr} {od4 an4 : Option Addr} {sl4 : Array (Option Value)} {oc4 kV4 dc4 pm4 cd4 ct4 : Value}
    {f5 : Addr} {od5 an5 : Option Addr} {sl5 : Array (Option Value)} {oc5 kV5 dc5 pm5 cd5 ct5 : Value}
    {f6 : Addr} {od6 an6 : Option Addr} {sl6 : Array (Option Value)} {oc6 kV6 dc6 pm6 cd6 ct6 : Value}
    {f7 : Addr} {od7 an7 : Option Addr} {sl7 : Array (Option Value)} {oc7 kV7 dc7 pm7 cd7 ct7 : Value}
    {f8 : Addr} {od8 an8 : Option Addr} {sl8 : Array (Option Value)} {oc8 kV8 dc8 pm8 cd8 ct8 : Value}
    {f9 : Addr} {od9 an9 : Option Addr} {sl9 : Array (Option Value)} {oc9 kV9 dc9 pm9 cd9 ct9 : Value}
    {f10 : Addr} {od10 an10 : Option Addr} {sl10 : Array (Option Value)} {oc10 kV10 dc10 pm10 cd10 ct10 : Value}
    {f11 : Addr} {od11 an11 : Option Addr} {sl11 : Array (Option Value)} {oc11 kV11 dc11 pm11 cd11 ct11 : Value}
    {f12 : Addr} {od12 an12 : Option Addr} {sl12 : Array (Option Value)} {oc12 kV12 dc12 pm12 cd12 ct12 : Value}
    {f13 : Addr} {od13 an13 : Option Addr} {sl13 : Array (Option Value)} {oc13 kV13 dc13 pm13 cd13 ct13 : Value}
    {f14 : Addr} {od14 an14 : Option Addr} {sl14 : Array (Option Value)} {oc14 kV14 dc14 pm14 cd14 ct14 : Value}
    {f15 : Addr} {od15 an15 : Option Addr} {sl15 : Array (Option Value)} {oc15 kV15 dc15 pm15 cd15 ct15 : Value}
    {f16 : Addr} {od16 an16 : Option Addr} {sl16 : Array (Option Value)} {oc16 kV16 dc16 pm16 cd16 ct16 : Value}
    {f17 : Addr} {od17 an17 : Option Addr} {sl17 : Array (Option Value)} {oc17 kV17 dc17 pm17 cd17 ct17 : Value}
    {f18 : Addr} {od18 an18 : Option Addr} {sl18 : Array (Option Value)} {oc18 kV18 dc18 pm18 cd18 ct18 : Value}
    {f19 : Addr} {od19 an19 : Option Addr} {sl19 : Array (Option Value)} {oc19 kV19 dc19 pm19 cd19 ct19 : Value}
    {f20 : Addr} {od20 an20 : Option Addr} {sl20 : Array (Option Value)} {oc20 kV20 dc20 pm20 cd20 ct20 : Value}
    {f21 : Addr} {od21 an21 : Option Addr} {sl21 : Array (Option Value)} {oc21 kV21 dc21 pm21 cd21 ct21 : Value}
    {f22 : Addr} {od22 an22 : Option Addr} {sl22 : Array (Option Value)} {oc22 kV22 dc22 pm22 cd22 ct22 : Value}
    {f23 : Addr} {od23 an23 : Option Addr} {sl23 : Array (Option Value)} {oc23 kV23 dc23 pm23 cd23 ct23 : Value}
    {f24 : Addr} {od24 an24 : Option Addr} {sl24 : Array (Option Value)} {oc24 kV24 dc24 pm24 cd24 ct24 : Value}
    (a0 : PySem.W.nsIn K mainGlobals "_law_cell_at" = some (some (.ref f0)))
    (l0 : K.lookup f0 = some ⟨oc0, od0, .func (PySem.W.fnOf "_law_cell_at" "_law_cell_at" (defArgs s_law_cell_at) (defBody s_law_cell_at) (defScope s_law_cell_at) .none kV0 dc0 pm0 an0 cd0 ct0), sl0⟩) (c0 : PySem.W.codeIn K cd0 "_law_cell_at" = true) (k0 : PySem.W.keepIn K (.ref f0) = true)
    (a1 : PySem.W.nsIn K mainGlobals "_law_whole" = some (some (.ref f1)))
    (l1 : K.lookup f1 = some ⟨oc1, od1, .func (PySem.W.fnOf "_law_whole" "_law_whole" (defArgs s_law_whole) (defBody s_law_whole) (defScope s_law_whole) .none kV1 dc1 pm1 an1 cd1 ct1), sl1⟩) (c1 : PySem.W.codeIn K cd1 "_law_whole" = true) (k1 : PySem.W.keepIn K (.ref f1) = true)
    (a2 : PySem.W.nsIn K mainGlobals "_law_list" = some (some (.ref f2)))
    (l2 : K.lookup f2 = some ⟨oc2, od2, .func (PySem.W.fnOf "_law_list" "_law_list" (defArgs s_law_list) (defBody s_law_list) (defScope s_law_list) .none kV2 dc2 pm2 an2 cd2 ct2), sl2⟩) (c2 : PySem.W.codeIn K cd2 "_law_list" = true) (k2 : PySem.W.keepIn K (.ref f2) = true)
    (a3 : PySem.W.nsIn K mainGlobals "_law_clash" = some (some (.ref f3)))
    (l3 : K.lookup f3 = some ⟨oc3, od3, .func (PySem.W.fnOf "_law_clash" "_law_clash" (defArgs s_law_clash) (defBody s_law_clash) (defScope s_law_clash) .none kV3 dc3 pm3 an3 cd3 ct3), sl3⟩) (c3 : PySem.W.codeIn K cd3 "_law_clash" = true) (k3 : PySem.W.keepIn K (.ref f3) = true)
    (a4 : PySem.W.nsIn K mainGlobals "_law_keeps" = some (some (.ref f4)))
    (l4 : K.lookup f4 = some ⟨oc4, od4, .func (PySem.W.fnOf "_law_keeps" "_law_keeps" (defArgs s_law_keeps) (defBody s_law_keeps) (defScope s_law_keeps) .none kV4 dc4 pm4 an4 cd4 ct4), sl4⟩) (c4 : PySem.W.codeIn K cd4 "_law_keeps" = true) (k4 : PySem.W.keepIn K (.ref f4) = true)
    (a5 : PySem.W.nsIn K mainGlobals "_law_counts" = some (some (.ref f5)))
    (l5 : K.lookup f5 = some ⟨oc5, od5, .func (PySem.W.fnOf "_law_counts" "_law_counts" (defArgs s_law_counts) (defBody s_law_counts) (defScope s_law_counts) .none kV5 dc5 pm5 an5 cd5 ct5), sl5⟩) (c5 : PySem.W.codeIn K cd5 "_law_counts" = true) (k5 : PySem.W.keepIn K (.ref f5) = true)
    (a6 : PySem.W.nsIn K mainGlobals "see_apart" = some (some (.ref f6)))
    (l6 : K.lookup f6 = some ⟨oc6, od6, .func (PySem.W.fnOf "see_apart" "see_apart" (defArgs s_see_apart) (defBody s_see_apart) (defScope s_see_apart) .none kV6 dc6 pm6 an6 cd6 ct6), sl6⟩) (c6 : PySem.W.codeIn K cd6 "see_apart" = true) (k6 : PySem.W.keepIn K (.ref f6) = true)
    (a7 : PySem.W.findIn K (.ref C_Wish) "__init__" = some (some (.ref f7))) (i7 : PySem.W.isFn K (.ref f7) = true)
    (l7 : K.lookup f7 = some ⟨oc7, od7, .func (PySem.W.fnOf "__init__" "Wish.__init__" (defArgs s_Wish_init) (defBody s_Wish_init) (defScope s_Wish_init) .none kV7 dc7 pm7 an7 cd7 ct7), sl7⟩) (c7 : PySem.W.codeIn K cd7 "Wish.__init__" = true) (k7 : PySem.W.keepIn K (.ref f7) = true)
    (a8 : PySem.W.findIn K (.ref C_Wish) "things" = some (some (.ref f8))) (i8 : PySem.W.isFn K (.ref f8) = true)
    (l8 : K.lookup f8 = some ⟨oc8, od8, .func (PySem.W.fnOf "things" "Wish.things" (defArgs s_Wish_things) (defBody s_Wish_things) (defScope s_Wish_things) .none kV8 dc8 pm8 an8 cd8 ct8), sl8⟩) (c8 : PySem.W.codeIn K cd8 "Wish.things" = true) (k8 : PySem.W.keepIn K (.ref f8) = true)
    (a9 : PySem.W.nsIn K mainGlobals "clash" = some (some (.ref f9)))
    (l9 : K.lookup f9 = some ⟨oc9, od9, .func (PySem.W.fnOf "clash" "clash" (defArgs s_clash) (defBody s_clash) (defScope s_clash) .none kV9 dc9 pm9 an9 cd9 ct9), sl9⟩) (c9 : PySem.W.codeIn K cd9 "clash" = true) (k9 : PySem.W.keepIn K (.ref f9) = true)
    (a10 : PySem.W.nsIn K mainGlobals "keeps" = some (some (.ref f10)))
    (l10 : K.lookup f10 = some ⟨oc10, od10, .func (PySem.W.fnOf "keeps" "keeps" (defArgs s_keeps) (defBody s_keeps) (defScope s_keeps) .none kV10 dc10 pm10 an10 cd10 ct10), sl10⟩) (c10 : PySem.W.codeIn K cd10 "keeps" = true) (k10 : PySem.W.keepIn K (.ref f10) = true)
    (a11 : PySem.W.nsIn K mainGlobals "frame" = some (some (.ref f11)))
    (l11 : K.lookup f11 = some ⟨oc11, od11, .func (PySem.W.fnOf "frame" "frame" (defArgs s_frame) (defBody s_frame) (defScope s_frame) .none kV11 dc11 pm11 an11 cd11 ct11), sl11⟩) (c11 : PySem.W.codeIn K cd11 "frame" = true) (k11 : PySem.W.keepIn K (.ref f11) = true)
    (a12 : PySem.W.nsIn K mainGlobals "least_length" = some (some (.ref f12)))
    (l12 : K.lookup f12 = some ⟨oc12, od12, .func (PySem.W.fnOf "least_length" "least_length" (defArgs s_least_length) (defBody s_least_length) (defScope s_least_length) .none kV12 dc12 pm12 an12 cd12 ct12), sl12⟩) (c12 : PySem.W.codeIn K cd12 "least_length" = true) (k12 : PySem.W.keepIn K (.ref f12) = true)
    (a13 : PySem.W.nsIn K mainGlobals "may_come" = some (some (.ref f13)))
    (l13 : K.lookup f13 = some ⟨oc13, od13, .func (PySem.W.fnOf "may_come" "may_come" (defArgs s_may_come) (defBody s_may_come) (defScope s_may_come) .none kV13 dc13 pm13 an13 cd13 ct13), sl13⟩) (c13 : PySem.W.codeIn K cd13 "may_come" = true) (k13 : PySem.W.keepIn K (.ref f13) = true)
    (a14 : PySem.W.nsIn K mainGlobals "next_state" = some (some (.ref f14)))
    (l14 : K.lookup f14 = some ⟨oc14, od14, .func (PySem.W.fnOf "next_state" "next_state" (defArgs s_next_state) (defBody s_next_state) (defScope s_next_state) .none kV14 dc14 pm14 an14 cd14 ct14), sl14⟩) (c14 : PySem.W.codeIn K cd14 "next_state" = true) (k14 : PySem.W.keepIn K (.ref f14) = true)
    (a15 : PySem.W.nsIn K mainGlobals "choices" = some (some (.ref f15)))
    (l15 : K.lookup f15 = some ⟨oc15, od15, .func (PySem.W.fnOf "choices" "choices" (defArgs s_choices) (defBody s_choices) (defScope s_choices) .none kV15 dc15 pm15 an15 cd15 ct15), sl15⟩) (c15 : PySem.W.codeIn K cd15 "choices" = true) (k15 : PySem.W.keepIn K (.ref f15) = true)
    (a16 : PySem.W.nsIn K mainGlobals "many_from" = some (some (.ref f16)))
    (l16 : K.lookup f16 = some ⟨oc16, od16, .func (PySem.W.fnOf "many_from" "many_from" (defArgs s_many_from) (defBody s_many_from) (defScope s_many_from) .none kV16 dc16 pm16 an16 cd16 ct16), sl16⟩) (c16 : PySem.W.codeIn K cd16 "many_from" = true) (k16 : PySem.W.keepIn K (.ref f16) = true)
    (a17 : PySem.W.nsIn K mainGlobals "first_state" = some (some (.ref f17)))
    (l17 : K.lookup f17 = some ⟨oc17, od17, .func (PySem.W.fnOf "first_state" "first_state" (defArgs s_first_state) (defBody s_first_state) (defScope s_first_state) .none kV17 dc17 pm17 an17 cd17 ct17), sl17⟩) (c17 : PySem.W.codeIn K cd17 "first_state" = true) (k17 : PySem.W.keepIn K (.ref f17) = true)
    (a18 : PySem.W.nsIn K mainGlobals "see_small" = some (some (.ref f18)))
    (l18 : K.lookup f18 = some ⟨oc18, od18, .func (PySem.W.fnOf "see_small" "see_small" (defArgs s_see_small) (defBody s_see_small) (defScope s_see_small) .none kV18 dc18 pm18 an18 cd18 ct18), sl18⟩) (c18 : PySem.W.codeIn K cd18 "see_small" = true) (k18 : PySem.W.keepIn K (.ref f18) = true)
    (a19 : PySem.W.nsIn K mainGlobals "many_rows" = some (some (.ref f19)))
    (l19 : K.lookup f19 = some ⟨oc19, od19, .func (PySem.W.fnOf "many_rows" "many_rows" (defArgs s_many_rows) (defBody s_many_rows) (defScope s_many_rows) .none kV19 dc19 pm19 an19 cd19 ct19), sl19⟩) (c19 : PySem.W.codeIn K cd19 "many_rows" = true) (k19 : PySem.W.keepIn K (.ref f19) = true)
    (a20 : PySem.W.nsIn K mainGlobals "row_at" = some (some (.ref f20)))
    (l20 : K.lookup f20 = some ⟨oc20, od20, .func (PySem.W.fnOf "row_at" "row_at" (defArgs s_row_at) (defBody s_row_at) (defScope s_row_at) .none kV20 dc20 pm20 an20 cd20 ct20), sl20⟩) (c20 : PySem.W.codeIn K cd20 "row_at" = true) (k20 : PySem.W.keepIn K (.ref f20) = true)
    (a21 : PySem.W.nsIn K mainGlobals "first_row" = some (some (.ref f21)))
    (l21 : K.lookup f21 = some ⟨oc21, od21, .func (PySem.W.fnOf "first_row" "first_row" (defArgs s_first_row) (defBody s_first_row) (defScope s_first_row) .none kV21 dc21 pm21 an21 cd21 ct21), sl21⟩) (c21 : PySem.W.codeIn K cd21 "first_row" = true) (k21 : PySem.W.keepIn K (.ref f21) = true)
    (a22 : PySem.W.nsIn K mainGlobals "row_number" = some (some (.ref f22)))
    (l22 : K.lookup f22 = some ⟨oc22, od22, .func (PySem.W.fnOf "row_number" "row_number" (defArgs s_row_number) (defBody s_row_number) (defScope s_row_number) .none kV22 dc22 pm22 an22 cd22 ct22), sl22⟩) (c22 : PySem.W.codeIn K cd22 "row_number" = true) (k22 : PySem.W.keepIn K (.ref f22) = true)
    (a23 : PySem.W.nsIn K mainGlobals "_law_keys" = some (some (.ref f23)))
    (l23 : K.lookup f23 = some ⟨oc23, od23, .func (PySem.W.fnOf "_law_keys" "_law_keys" (defArgs s_law_keys) (defBody s_law_keys) (defScope s_law_keys) .none kV23 dc23 pm23 an23 cd23 ct23), sl23⟩) (c23 : PySem.W.codeIn K cd23 "_law_keys" = true) (k23 : PySem.W.keepIn K (.ref f23) = true)
    (a24 : PySem.W.nsIn K mainGlobals "law" = some (some (.ref f24)))
    (l24 : K.lookup f24 = some ⟨oc24, od24, .func (PySem.W.fnOf "law" "law" (defArgs s_law) (defBody s_law) (defScope s_law) .none kV24 dc24 pm24 an24 cd24 ct24), sl24⟩) (c24 : PySem.W.codeIn K cd24 "law" = true) (k24 : PySem.W.keepIn K (.ref f24) = true)
    (z_len : PySem.W.nsIn K mainGlobals "len" = some none)
    (z_range : PySem.W.nsIn K mainGlobals "range" = some none)
    (z_list : PySem.W.nsIn K mainGlobals "list" = some none)
    (z_tuple : PySem.W.nsIn K mainGlobals "tuple" = some none)
    (z_max : PySem.W.nsIn K mainGlobals "max" = some none)
    (z_min : PySem.W.nsIn K mainGlobals "min" = some none)
    (z_sum : PySem.W.nsIn K mainGlobals "sum" = some none)
    (z_sorted : PySem.W.nsIn K mainGlobals "sorted" = some none)
    (z_isinstance : PySem.W.nsIn K mainGlobals "isinstance" = some none)
    (z_int : PySem.W.nsIn K mainGlobals "int" = some none)
    (z_bool : PySem.W.nsIn K mainGlobals "bool" = some none)
    (z_str : PySem.W.nsIn K mainGlobals "str" = some none)
    (wg_Wish : PySem.W.nsIn K mainGlobals "Wish" = some (some (.ref C_Wish)))
    (wpg_Wish : PySem.W.plainGet K C_Wish Str.empty = true)
    (whd_Wish : PySem.W.hasDictIn K C_Wish = true)
    (wpo_Wish : PySem.W.plainOver K C_Wish = true)
    (wsa_Wish : PySem.W.findIn K (.ref C_Wish) "__setattr__" = some (some (.builtin "object.__setattr__")))
    (wmk_Wish : PySem.W.makesIn K C_Wish = true)
    (wkp_Wish : PySem.W.keepIn K (.ref C_Wish) = true)
    (wn_Wish_apart : PySem.W.findIn K (.ref C_Wish) "apart" = some none)
    (wn_Wish_told : PySem.W.findIn K (.ref C_Wish) "told" = some none)
    (eg_NoWish : PySem.W.nsIn K mainGlobals "NoWish" = some (some (.ref R_NoWish)))
    (ex_NoWish : PySem.W.excIn K R_NoWish [.type "ValueError", .type "Exception", .type "BaseException", .type "object"] "ValueError.__new__" = true)
    (ek_NoWish : PySem.W.keepIn K (.ref R_NoWish) = true)
    (eb_NoWish : PySem.W.subIn K (.ref R_NoWish) (.type "BaseException") = some true)
    (et_NoWish : PySem.W.typeIn K (.ref R_NoWish) = some (.type "type"))
    (eg_TooGreat : PySem.W.nsIn K mainGlobals "TooGreat" = some (some (.ref R_TooGreat)))
    (ex_TooGreat : PySem.W.excIn K R_TooGreat [.type "ValueError", .type "Exception", .type "BaseException", .type "object"] "ValueError.__new__" = true)
    (ek_TooGreat : PySem.W.keepIn K (.ref R_TooGreat) = true)
    (eb_TooGreat : PySem.W.subIn K (.ref R_TooGreat) (.type "BaseException") = some true)
    (et_TooGreat : PySem.W.typeIn K (.ref R_TooGreat) = some (.type "type"))
    (eg_NoSuch : PySem.W.nsIn K mainGlobals "NoSuch" = some (some (.ref R_NoSuch)))
    (ex_NoSuch : PySem.W.excIn K R_NoSuch [.type "ValueError", .type "Exception", .type "BaseException", .type "object"] "ValueError.__new__" = true)
    (ek_NoSuch : PySem.W.keepIn K (.ref R_NoSuch) = true)
    (eb_NoSuch : PySem.W.subIn K (.ref R_NoSuch) (.type "BaseException") = some true)
    (et_NoSuch : PySem.W.typeIn K (.ref R_NoSuch) = some (.type "type"))
    (eg_NoRow : PySem.W.nsIn K mainGlobals "NoRow" = some (some (.ref R_NoRow)))
    (ex_NoRow : PySem.W.excIn K R_NoRow [.type "ValueError", .type "Exception", .type "BaseException", .type "object"] "ValueError.__new__" = true)
    (ek_NoRow : PySem.W.keepIn K (.ref R_NoRow) = true)
    (eb_NoRow : PySem.W.subIn K (.ref R_NoRow) (.type "BaseException") = some true)
    (et_NoRow : PySem.W.typeIn K (.ref R_NoRow) = some (.type "type")) :
    ∃ fd : FuncData, (∀ (s : Shared) (v : Value), BindsTo s fd ⟨[v], []⟩ [("script", v)]) ∧ ∀ base : Heap, K.In base → base.Ns mainGlobals mg → FnOk l.prog w K mg base CX0 16 fa fd ["script"] (KSp (fLaw K)) := by
  have e := hfa.symm.trans (PySem.W.mg_of X G a24)
  cases e
  refine ⟨PySem.W.fnOf "law" "law" (defArgs s_law) (defBody s_law) (defScope s_law) .none kV24 dc24 pm24 an24 cd24 ct24, fun s v => .of_eq rfl, fun base _ _ => ?_⟩
  have W : Wf K mg C_Wish := ⟨⟨wpg_Wish, whd_Wish, wpo_Wish, wsa_Wish⟩, wn_Wish_apart, wn_Wish_told, PySem.W.mg_of X G wg_Wish⟩
  have e_NoWish : Er K mg "NoWish" R_NoWish := ⟨PySem.W.mg_of X G eg_NoWish, ex_NoWish, ek_NoWish, eb_NoWish, et_NoWish⟩
  have e_TooGreat : Er K mg "TooGreat" R_TooGreat := ⟨PySem.W.mg_of X G eg_TooGreat, ex_TooGreat, ek_TooGreat, eb_TooGreat, et_TooGreat⟩
  have e_NoSuch : Er K mg "NoSuch" R_NoSuch := ⟨PySem.W.mg_of X G eg_NoSuch, ex_NoSuch, ek_NoSuch, eb_NoSuch, et_NoSuch⟩
  have e_NoRow : Er K mg "NoRow" R_NoRow := ⟨PySem.W.mg_of X G eg_NoRow, ex_NoRow, ek_NoRow, eb_NoRow, et_NoRow⟩
  have T : Bl mg := ⟨PySem.W.mg_none_of X G z_len, PySem.W.mg_none_of X G z_range, PySem.W.mg_none_of X G z_list, PySem.W.mg_none_of X G z_tuple, PySem.W.mg_none_of X G z_max, PySem.W.mg_none_of X G z_min, PySem.W.mg_none_of X G z_sum, PySem.W.mg_none_of X G z_sorted, PySem.W.mg_none_of X G z_isinstance, PySem.W.mg_none_of X G z_int, PySem.W.mg_none_of X G z_bool, PySem.W.mg_none_of X G z_str⟩
  have F0 := fun_mk (st := s_law_cell_at) l0 c0 k0
  have c_law_cell_at := Fn.mk' F0 (ok_law_cell_at (P := l.prog) (w := w) (base := base) F0 T ) (PySem.W.mg_of X G a0) (fun _ _ _ _ _ _ us hl => match us, hl with | [_, _], _ => rfl)
  have F1 := fun_mk (st := s_law_whole) l1 c1 k1
  have c_law_whole := Fn.mk' F1 (ok_law_whole (P := l.prog) (w := w) (base := base) F1 T ) (PySem.W.mg_of X G a1) (fun _ _ _ _ _ _ us hl => match us, hl with | [_], _ => rfl)
  have F2 := fun_mk (st := s_law_list) l2 c2 k2
  have c_law_list := Fn.mk' F2 (ok_law_list (P := l.prog) (w := w) (base := base) F2 T (c_law_whole := c_law_whole)) (PySem.W.mg_of X G a2) (fun _ _ _ _ _ _ us hl => match us, hl with | [_, _], _ => rfl)
  have F3 := fun_mk (st := s_law_clash) l3 c3 k3
  have c_law_clash := Fn.mk' F3 (ok_law_clash (P := l.prog) (w := w) (base := base) F3 T ) (PySem.W.mg_of X G a3) (fun _ _ _ _ _ _ us hl => match us, hl with | [_, _], _ => rfl)
  have F4 := fun_mk (st := s_law_keeps) l4 c4 k4
  have c_law_keeps := Fn.mk' F4 (ok_law_keeps (P := l.prog) (w := w) (base := base) F4 T (c_law_clash := c_law_clash)) (PySem.W.mg_of X G a4) (fun _ _ _ _ _ _ us hl => match us, hl with | [_, _, _], _ => rfl)
  have F5 := fun_mk (st := s_law_counts) l5 c5 k5
  have c_law_counts := Fn.mk' F5 (ok_law_counts (P := l.prog) (w := w) (base := base) F5 T (c_law_cell_at := c_law_cell_at)) (PySem.W.mg_of X G a5) (fun _ _ _ _ _ _ us hl => match us, hl with | [_, _, _, _], _ => rfl)
  have F6 := fun_mk (st := s_see_apart) l6 c6 k6
  have c_see_apart := Fn.mk' F6 (ok_see_apart (P := l.prog) (w := w) (base := base) F6 T (e_NoWish := e_NoWish)) (PySem.W.mg_of X G a6) (fun _ _ _ _ _ _ us hl => match us, hl with | [_], _ => rfl)
  have F7 := fun_mk (st := s_Wish_init) l7 c7 k7
  have c_Wish_init := Ini.mk' F7 (ok_Wish_init (P := l.prog) (w := w) (base := base) F7 T (W := W) (e_NoWish := e_NoWish) (c_see_apart := c_see_apart)) ⟨wmk_Wish, a7, i7, wkp_Wish⟩ (PySem.W.mg_of X G wg_Wish) (fun _ _ _ _ _ _ us hl => match us, hl with | [_, _, _], _ => rfl)
  have F8 := fun_mk (st := s_Wish_things) l8 c8 k8
  have c_Wish_things := Mt.mk' F8 (ok_Wish_things (P := l.prog) (w := w) (base := base) F8 T (W := W)) ⟨a8, i8, k8⟩ (fun _ _ _ _ _ _ us hl => match us, hl with | [_], _ => rfl)
  have F9 := fun_mk (st := s_clash) l9 c9 k9
  have c_clash := Fn.mk' F9 (ok_clash (P := l.prog) (w := w) (base := base) F9 T ) (PySem.W.mg_of X G a9) (fun _ _ _ _ _ _ us hl => match us, hl with | [_, _], _ => rfl)
  have F10 := fun_mk (st := s_keeps) l10 c10 k10
  have c_keeps := Fn.mk' F10 (ok_keeps (P := l.prog) (w := w) (base := base) F10 T (W := W) (c_clash := c_clash)) (PySem.W.mg_of X G a10) (fun _ _ _ _ _ _ us hl => match us, hl with | [_, _], _ => rfl)
  have F11 := fun_mk (st := s_frame) l11 c11 k11
  have c_frame := Fn.mk' F11 (ok_frame (P := l.prog) (w := w) (base := base) F11 T (W := W)) (PySem.W.mg_of X G a11) (fun _ _ _ _ _ _ us hl => match us, hl with | [_], _ => rfl)
  have F12 := fun_mk (st := s_least_length) l12 c12 k12
  have c_least_length := Fn.mk' F12 (ok_least_length (P := l.prog) (w := w) (base := base) F12 T (W := W) (c_Wish_things := c_Wish_things) (c_frame := c_frame)) (PySem.W.mg_of X G a12) (fun _ _ _ _ _ _ us hl => match us, hl with | [_], _ => rfl)
  have F13 := fun_mk (st := s_may_come) l13 c13 k13
  have c_may_come := Fn.mk' F13 (ok_may_come (P := l.prog) (w := w) (base := base) F13 T ) (PySem.W.mg_of X G a13) (fun _ _ _ _ _ _ us hl => match us, hl with | [_, _, _], _ => rfl)
  have F14 := fun_mk (st := s_next_state) l14 c14 k14
  have c_next_state := Fn.mk' F14 (ok_next_state (P := l.prog) (w := w) (base := base) F14 T ) (PySem.W.mg_of X G a14) (fun _ _ _ _ _ _ us hl => match us, hl with | [_, _], _ => rfl)
  have F15 := fun_mk (st := s_choices) l15 c15 k15
  have c_choices := Fn.mk' F15 (ok_choices (P := l.prog) (w := w) (base := base) F15 T (c_may_come := c_may_come)) (PySem.W.mg_of X G a15) (fun _ _ _ _ _ _ us hl => match us, hl with | [_, _], _ => rfl)
  have F16 := fun_mk (st := s_many_from) l16 c16 k16
  have g_many_from := PySem.W.mg_of X G a16
  have c_many_from := Fn.mk' F16 (ok_many_from (P := l.prog) (w := w) (base := base) F16 T (g_many_from := g_many_from) (c_choices := c_choices) (c_next_state := c_next_state)) (PySem.W.mg_of X G a16) (fun _ _ _ _ _ _ us hl => match us, hl with | [_, _, _, _], _ => rfl)
  have F17 := fun_mk (st := s_first_state) l17 c17 k17
  have c_first_state := Fn.mk' F17 (ok_first_state (P := l.prog) (w := w) (base := base) F17 T (W := W)) (PySem.W.mg_of X G a17) (fun _ _ _ _ _ _ us hl => match us, hl with | [_], _ => rfl)
  have F18 := fun_mk (st := s_see_small) l18 c18 k18
  have c_see_small := Fn.mk' F18 (ok_see_small (P := l.prog) (w := w) (base := base) F18 T (W := W) (e_TooGreat := e_TooGreat) (c_Wish_things := c_Wish_things)) (PySem.W.mg_of X G a18) (fun _ _ _ _ _ _ us hl => match us, hl with | [_, _], _ => rfl)
  have F19 := fun_mk (st := s_many_rows) l19 c19 k19
  have c_many_rows := Fn.mk' F19 (ok_many_rows (P := l.prog) (w := w) (base := base) F19 T (W := W) (c_see_small := c_see_small) (c_first_state := c_first_state) (c_many_from := c_many_from)) (PySem.W.mg_of X G a19) (fun _ _ _ _ _ _ us hl => match us, hl with | [_, _], _ => rfl)
  have F20 := fun_mk (st := s_row_at) l20 c20 k20
  have c_row_at := Fn.mk' F20 (ok_row_at (P := l.prog) (w := w) (base := base) F20 T (W := W) (e_NoSuch := e_NoSuch) (c_see_small := c_see_small) (c_many_rows := c_many_rows) (c_first_state := c_first_state) (c_choices := c_choices) (c_next_state := c_next_state) (c_many_from := c_many_from)) (PySem.W.mg_of X G a20) (fun _ _ _ _ _ _ us hl => match us, hl with | [_, _, _], _ => rfl)
  have F21 := fun_mk (st := s_first_row) l21 c21 k21
  have c_first_row := Fn.mk' F21 (ok_first_row (P := l.prog) (w := w) (base := base) F21 T (c_many_rows := c_many_rows) (c_row_at := c_row_at)) (PySem.W.mg_of X G a21) (fun _ _ _ _ _ _ us hl => match us, hl with | [_, _], _ => rfl)
  have F22 := fun_mk (st := s_row_number) l22 c22 k22
  have c_row_number := Fn.mk' F22 (ok_row_number (P := l.prog) (w := w) (base := base) F22 T (W := W) (e_NoRow := e_NoRow) (c_see_small := c_see_small) (c_keeps := c_keeps) (c_first_state := c_first_state) (c_choices := c_choices) (c_next_state := c_next_state) (c_many_from := c_many_from)) (PySem.W.mg_of X G a22) (fun _ _ _ _ _ _ us hl => match us, hl with | [_, _], _ => rfl)
  have F23 := fun_mk (st := s_law_keys) l23 c23 k23
  have c_law_keys := Fn.mk' F23 (ok_law_keys (P := l.prog) (w := w) (base := base) F23 T ) (PySem.W.mg_of X G a23) (fun _ _ _ _ _ _ us hl => match us, hl with | [_], _ => rfl)
  have F24 := fun_mk (st := s_law) l24 c24 k24
  exact ok_law (P := l.prog) (w := w) (base := base) F24 T (W := W) (c_law_cell_at := c_law_cell_at) (c_law_counts := c_law_counts) (c_law_whole := c_law_whole) (c_law_list := c_law_list) (c_law_keeps := c_law_keeps) (c_law_keys := c_law_keys) (c_Wish_init := c_Wish_init) (c_least_length := c_least_length) (c_many_rows := c_many_rows) (c_row_at := c_row_at) (c_first_row := c_first_row) (c_row_number := c_row_number)

theorem walk {l : PySem.W.OpenLaw} {q : Program} {loose : List Str} {XP : (Str → Option Value) → Heap → Prop} {YP : World → Heap → Prop} {d : DefRec} {K : Params → PySem.W.Frag} (hn : l.most = some 63) (hdf : d.params.defaults = [])
    (hY : ∀ (w : World) (h : Heap), YP w h → (K w.params).In h)
    (F : ∀ (w : World) (mg : Str → Option Value) (fa : Addr) (h : Heap), (K w.params).In h → h.Ns mainGlobals mg → mg d.name = some (.ref fa) →
      ∃ fd : FuncData, (∀ (s : Shared) (u : Value), BindsTo s fd ⟨[u], []⟩ [("script", u)]) ∧ ∀ base : Heap, (K w.params).In base → base.Ns mainGlobals mg → FnOk l.prog w (K w.params) mg base CX0 16 fa fd ["script"] (KSp (fLaw (K w.params)))) :
    PySem.W.WalkO q loose XP YP l.row.toRowW d [] (fun f vs => PySem.call f vs) :=
  L2.walk_of (n := 63) (k := 16) (x := "script") (CX := fun _ => CX0) (sp := fun w => KSp (fLaw (K w.params))) hn (by decide) hdf ⟨rfl, by decide, by decide⟩ hY F (fun _ _ a ns hl _ hS => ⟨_, Same.refl _, a, ns, rfl, hS, hl, fun _ _ => rfl⟩) fun _ _ _ _ _ z => z
end Kp
open PySem PySem.W PyProof.Rows
set_option maxRecDepth 100000 in
set_option maxHeartbeats 0 in
theorem PySem.Challenge.cw_keepaway_k08_whole_numbers_and_rows_holds : PySem.Challenge.rw_keepaway_k08_whole_numbers_and_rows.Holds := by
  w_on; o_law; k_head; (case hw => w_witness2)
  k_fill
  refine Kp.walk (l := PySem.Challenge.rw_keepaway_k08_whole_numbers_and_rows) rfl rfl (fun w h Y => PySem.W.kIn_of Y) ?F
  case F =>
    intro w mg fa h KX G hmg
    refine' Kp.all_mk KX G hmg ?a0 ?l0 ?c0 ?k0 ?a1 ?l1 ?c1 ?k1 ?a2 ?l2 ?c2 ?k2 ?a3 ?l3 ?c3 ?k3 ?a4 ?l4 ?c4 ?k4 ?a5 ?l5 ?c5 ?k5 ?a6 ?l6 ?c6 ?k6 ?a7 ?i7 ?l7 ?c7 ?k7 ?a8 ?i8 ?l8 ?c8 ?k8 ?a9 ?l9 ?c9 ?k9 ?a10 ?l10 ?c10 ?k10 ?a11 ?l11 ?c11 ?k11 ?a12 ?l12 ?c12 ?k12 ?a13 ?l13 ?c13 ?k13 ?a14 ?l14 ?c14 ?k14 ?a15 ?l15 ?c15 ?k15 ?a16 ?l16 ?c16 ?k16 ?a17 ?l17 ?c17 ?k17 ?a18 ?l18 ?c18 ?k18 ?a19 ?l19 ?c19 ?k19 ?a20 ?l20 ?c20 ?k20 ?a21 ?l21 ?c21 ?k21 ?a22 ?l22 ?c22 ?k22 ?a23 ?l23 ?c23 ?k23 ?a24 ?l24 ?c24 ?k24 ?z_len ?z_range ?z_list ?z_tuple ?z_max ?z_min ?z_sum ?z_sorted ?z_isinstance ?z_int ?z_bool ?z_str ?wg_Wish ?wpg_Wish ?whd_Wish ?wpo_Wish ?wsa_Wish ?wmk_Wish ?wkp_Wish ?wn_Wish_apart ?wn_Wish_told ?eg_NoWish ?ex_NoWish ?ek_NoWish ?eb_NoWish ?et_NoWish ?eg_TooGreat ?ex_TooGreat ?ek_TooGreat ?eb_TooGreat ?et_TooGreat ?eg_NoSuch ?ex_NoSuch ?ek_NoSuch ?eb_NoSuch ?et_NoSuch ?eg_NoRow ?ex_NoRow ?ek_NoRow ?eb_NoRow ?et_NoRow
    (case wg_Wish => k_is)
    (case eg_NoWish => k_is)
    (case eg_TooGreat => k_is)
    (case eg_NoSuch => k_is)
    (case eg_NoRow => k_is)
    (case a0 => k_is)
    (case l0 => k_is)
    (case c0 => k_is)
    (case k0 => k_is)
    (case a1 => k_is)
    (case l1 => k_is)
    (case c1 => k_is)
    (case k1 => k_is)
    (case a2 => k_is)
    (case l2 => k_is)
    (case c2 => k_is)
    (case k2 => k_is)
    (case a3 => k_is)
    (case l3 => k_is)
    (case c3 => k_is)
    (case k3 => k_is)
    (case a4 => k_is)
    (case l4 => k_is)
    (case c4 => k_is)
    (case k4 => k_is)
    (case a5 => k_is)
    (case l5 => k_is)
    (case c5 => k_is)
    (case k5 => k_is)
    (case a6 => k_is)
    (case l6 => k_is)
    (case c6 => k_is)
    (case k6 => k_is)
    (case a7 => k_is)
    (case i7 => k_is)
    (case l7 => k_is)
    (case c7 => k_is)
    (case k7 => k_is)
    (case a8 => k_is)
    (case i8 => k_is)
    (case l8 => k_is)
    (case c8 => k_is)
    (case k8 => k_is)
    (case a9 => k_is)
    (case l9 => k_is)
    (case c9 => k_is)
    (case k9 => k_is)
    (case a10 => k_is)
    (case l10 => k_is)
    (case c10 => k_is)
    (case k10 => k_is)
    (case a11 => k_is)
    (case l11 => k_is)
    (case c11 => k_is)
    (case k11 => k_is)
    (case a12 => k_is)
    (case l12 => k_is)
    (case c12 => k_is)
    (case k12 => k_is)
    (case a13 => k_is)
    (case l13 => k_is)
    (case c13 => k_is)
    (case k13 => k_is)
    (case a14 => k_is)
    (case l14 => k_is)
    (case c14 => k_is)
    (case k14 => k_is)
    (case a15 => k_is)
    (case l15 => k_is)
    (case c15 => k_is)
    (case k15 => k_is)
    (case a16 => k_is)
    (case l16 => k_is)
    (case c16 => k_is)
    (case k16 => k_is)
    (case a17 => k_is)
    (case l17 => k_is)
    (case c17 => k_is)
    (case k17 => k_is)
    (case a18 => k_is)
    (case l18 => k_is)
    (case c18 => k_is)
    (case k18 => k_is)
    (case a19 => k_is)
    (case l19 => k_is)
    (case c19 => k_is)
    (case k19 => k_is)
    (case a20 => k_is)
    (case l20 => k_is)
    (case c20 => k_is)
    (case k20 => k_is)
    (case a21 => k_is)
    (case l21 => k_is)
    (case c21 => k_is)
    (case k21 => k_is)
    (case a22 => k_is)
    (case l22 => k_is)
    (case c22 => k_is)
    (case k22 => k_is)
    (case a23 => k_is)
    (case l23 => k_is)
    (case c23 => k_is)
    (case k23 => k_is)
    (case a24 => k_is)
    (case l24 => k_is)
    (case c24 => k_is)
    (case k24 => k_is)
    (case z_len => k_is)
    (case z_range => k_is)
    (case z_list => k_is)
    (case z_tuple => k_is)
    (case z_max => k_is)
    (case z_min => k_is)
    (case z_sum => k_is)
    (case z_sorted => k_is)
    (case z_isinstance => k_is)
    (case z_int => k_is)
    (case z_bool => k_is)
    (case z_str => k_is)
    (case wpg_Wish => k_is)
    (case whd_Wish => k_is)
    (case wpo_Wish => k_is)
    (case wsa_Wish => k_is)
    (case wmk_Wish => k_is)
    (case wkp_Wish => k_is)
    (case wn_Wish_apart => k_is)
    (case wn_Wish_told => k_is)
    (case ex_NoWish => k_exc)
    (case ek_NoWish => k_is)
    (case eb_NoWish => k_is)
    (case et_NoWish => k_is)
    (case ex_TooGreat => k_exc)
    (case ek_TooGreat => k_is)
    (case eb_TooGreat => k_is)
    (case et_TooGreat => k_is)
    (case ex_NoSuch => k_exc)
    (case ek_NoSuch => k_is)
    (case eb_NoSuch => k_is)
    (case et_NoSuch => k_is)
    (case ex_NoRow => k_exc)
    (case ek_NoRow => k_is)
    (case eb_NoRow => k_is)
    (case et_NoRow => k_is)
#print axioms PySem.Challenge.cw_keepaway_k08_whole_numbers_and_rows_holds
