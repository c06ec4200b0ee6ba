import PyProof.Rows.All
import Wide.All
import OpenK.AllK
import Wide.FinOn
import HandS.ForMost
import HandS.Exc
import HandS.ExcOwn
import HandS.WordsExc
import HandS.IsInst
import HandS.Steps
import HandS.Deep
import HandS.TupAny
import HandS.Replace
import HandS.SetFor
import HandS.More
import HandS.SortKw
import KE.DataMinMax
import PyProof.DictWalks
import HandS.Style
import HandS.ExcIs
import HandS.HotCalls
import KE.GoesRaise
import KE.KAsSuite
import PySem.Challenge.RW_keepaway_k14_read
set_option Elab.async false
set_option linter.all false
set_option maxRecDepth 100000
set_option maxHeartbeats 4000000
namespace Kp
open PySem L2

def Up (P : Hp → Prop) (H : Hp) : Prop := ∀ H1, Same H H1 → P H1
theorem Up.here {P : Hp → Prop} {H : Hp} (h : Up P H) : P H := h H (Same.refl H)
theorem Up.mono {P : Hp → Prop} {H H' : Hp} (h : Up P H) (e : Same H H') : Up P H' := fun H1 e1 => h H1 (e.trans e1)
theorem Up.imp {P Q : Hp → Prop} {H : Hp} (h : Up P H) (f : ∀ H', P H' → Q H') : Up Q H := fun H1 e => f H1 (h H1 e)
theorem Up.of {P : Hp → Prop} {H : Hp} (h : ∀ H', P H') : Up P H := fun H1 _ => h H1

/-! ### heaps -/
theorem same_new {H : Hp} {p : Addr} (h : H p = none) (o : HO) : Same H (upd H p o) := fun b u q => by
  rw [upd_ne (ne_of_none q h)]
  exact q
theorem same_newer {H H' : Hp} {p : Addr} {o : HO} (e : Same H H') (h : H' p = none) : Same H (upd H' p o) := e.trans (same_new h o)
/-- an object that H does not know may change -/
theorem same_mut {H H' : Hp} {p : Addr} {o : HO} (e : Same H H') (h : H p = none) : Same H (upd H' p o) := fun a u ha => by
  rw [upd_ne (ne_of_none ha h)]
  exact e a u ha
theorem same_upd {H H1 : Hp} {p : Addr} {o : HO} (e : Same H H1) : Same (upd H p o) (upd H1 p o) := fun a u ha => by
  by_cases h : a = p
  · rw [h, upd_same] at ha
    rw [h, upd_same]
    exact ha
  · rw [upd_ne h] at ha
    rw [upd_ne h]
    exact e a u ha
theorem same_free {H H1 : Hp} {p : Addr} (e : Same H H1) (h : H1 p = none) : H p = none := e.free h
theorem rd_up {H H' : Hp} {a : Addr} {u : HO} (e : Same H H') (h : Rd H a u) : Rd H' a u := by
  rcases h with h | ⟨o, h⟩
  · exact .inl (e a _ h)
  · exact .inr ⟨o, e a _ h⟩
theorem sq_up {K : PySem.W.Frag} {H H' : Hp} {a : Addr} {xs : List V} (e : Same H H') (h : SqL K H a xs) : SqL K H' a xs := by
  rcases h with h | h
  · exact .inl (rd_up e h)
  · exact .inr h
theorem st_up {K : PySem.W.Frag} {H H' : Hp} {a : Addr} {xs : List V} (e : Same H H') (h : SqT K H a xs) : SqT K H' a xs := by
  rcases h with h | h
  · exact .inl (rd_up e h)
  · exact .inr h
theorem up_fresh {H : Hp} {a p : Addr} {o u : HO} (h : H p = none) (k : H a = some u) : upd H p o a = some u := same_new h o a u k
theorem up_other {H : Hp} {a p : Addr} {o : HO} {u : Option HO} (h : a ≠ p) (k : H a = u) : upd H p o a = u := by
  rw [upd_ne h]
  exact k
theorem none_back {H : Hp} {a p : Addr} {o : HO} (h : upd H p o a = none) : H a = none ∧ a ≠ p := by
  by_cases e : a = p
  · rw [e, upd_same] at h
    cases h
  · rw [upd_ne e] at h
    exact ⟨h, e⟩
theorem sz {n : Nat} (h : n ≤ 100000) : n ≤ sizeLine := Nat.le_trans h (by decide)
theorem szl {n : Nat} (h : n < 100000) : n < sizeLine := Nat.lt_of_lt_of_le h (by decide)

section
variable {K : PySem.W.Frag} {H : Hp} {σ : St} {Q : VK} {v x y : V} {ta tb te tc : TE} {t u : TT} {b : Bool}

/-! ### values -/
theorem up_var {i : Nat} (h : σ[i]? = some (some v)) (k : Up (Q v) H) : Up (fun H1 => tVar i σ H1 Q) H := fun H1 e => ⟨v, h, k H1 e⟩
theorem up_c (k : Up (Q v) H) : Up (fun H1 => tC v σ H1 Q) H := k
theorem up_op {r : R2} (k : Up (fun H1 => ta σ H1 fun x H2 => tb σ H2 fun y H3 => r x y H3 Q) H) : Up (fun H1 => tOp r ta tb σ H1 Q) H := k
theorem up_un {r : V → Hp → VK → Prop} (k : Up (fun H1 => ta σ H1 fun x H2 => r x H2 Q) H) : Up (fun H1 => tUn r ta σ H1 Q) H := k
theorem up_I0 {g : Int → Int → V} {i j : Int} (k : Up (Q (g i j)) H) : Up (fun H1 => rI0 g (.int i) (.int j) H1 Q) H := fun H1 e => ⟨i, j, rfl, rfl, k H1 e⟩
theorem up_I {C : Int → Int → Prop} {g : Int → Int → V} {i j : Int} (c : C i j) (k : Up (Q (g i j)) H) : Up (fun H1 => rI C g (.int i) (.int j) H1 Q) H := fun H1 e => ⟨i, j, rfl, rfl, c, k H1 e⟩
theorem up_U {g : Int → V} {i : Int} (k : Up (Q (g i)) H) : Up (fun H1 => rU g (.int i) H1 Q) H := fun H1 e => ⟨i, rfl, k H1 e⟩
theorem up_eqI {i j : Int} (k : Up (Q (.bl (decide (i = j)))) H) : Up (fun H1 => rEq (.int i) (.int j) H1 Q) H := fun H1 e => ⟨rfl, by
  have q : decide (V.int i = V.int j) = decide (i = j) := decide_eq_decide.mpr ⟨fun h => V.int.inj h, fun h => by rw [h]⟩
  rw [q]
  exact k H1 e⟩
theorem up_neI {i j : Int} (k : Up (Q (.bl (!decide (i = j)))) H) : Up (fun H1 => rNe (.int i) (.int j) H1 Q) H := fun H1 e => ⟨rfl, by
  have q : decide (V.int i = V.int j) = decide (i = j) := decide_eq_decide.mpr ⟨fun h => V.int.inj h, fun h => by rw [h]⟩
  rw [q]
  exact k H1 e⟩
theorem up_eqV (h : scal x y = true) (k : Up (Q (.bl (decide (x = y)))) H) : Up (fun H1 => rEq x y H1 Q) H := fun H1 e => ⟨h, k H1 e⟩
theorem up_neV (h : scal x y = true) (k : Up (Q (.bl (!decide (x = y)))) H) : Up (fun H1 => rNe x y H1 Q) H := fun H1 e => ⟨h, k H1 e⟩
theorem up_isN (k : Up (Q (.bl (decide (x = .non)))) H) : Up (fun H1 => rIsN x .non H1 Q) H := fun H1 e => ⟨rfl, k H1 e⟩
theorem up_notN (k : Up (Q (.bl (!decide (x = .non)))) H) : Up (fun H1 => rNotN x .non H1 Q) H := fun H1 e => ⟨rfl, k H1 e⟩

/-! ### tests -/
def asB (Q : Bool → Hp → Prop) : VK := fun x H' => ∃ k, x = .bl k ∧ Q k H'
variable {QB : Bool → Hp → Prop}
theorem up_test (k : Up (fun H1 => te σ H1 (asB QB)) H) : Up (fun H1 => tTest te σ H1 QB) H := k
theorem up_tB (k : Up (fun H1 => te σ H1 (asB QB)) H) : Up (fun H1 => tB te σ H1 QB) H := k
theorem up_asB (k : Up (QB b) H) : Up (asB QB (.bl b)) H := fun H1 e => ⟨b, rfl, k H1 e⟩
def andK (u : TT) (σ : St) (Q : Bool → Hp → Prop) : Bool → Hp → Prop := fun c H1 => if c = true then u σ H1 Q else Q false H1
def orK (u : TT) (σ : St) (Q : Bool → Hp → Prop) : Bool → Hp → Prop := fun c H1 => if c = true then Q true H1 else u σ H1 Q
def notK (Q : Bool → Hp → Prop) : Bool → Hp → Prop := fun c H1 => Q (!c) H1
theorem up_and (k : Up (fun H1 => t σ H1 (andK u σ QB)) H) : Up (fun H1 => tAnd t u σ H1 QB) H := k
theorem up_or (k : Up (fun H1 => t σ H1 (orK u σ QB)) H) : Up (fun H1 => tOr t u σ H1 QB) H := k
theorem up_not (k : Up (fun H1 => t σ H1 (notK QB)) H) : Up (fun H1 => tNot t σ H1 QB) H := k
theorem up_notK (k : Up (QB (!b)) H) : Up (notK QB b) H := k
theorem up_andK (k1 : b = true → Up (fun H1 => u σ H1 QB) H) (k0 : b = false → Up (QB false) H) : Up (andK u σ QB b) H := by
  cases b with
  | true => exact k1 rfl
  | false => exact k0 rfl
theorem up_orK (k1 : b = true → Up (QB true) H) (k0 : b = false → Up (fun H1 => u σ H1 QB) H) : Up (orK u σ QB b) H := by
  cases b with
  | true => exact k1 rfl
  | false => exact k0 rfl
theorem up_andT (h : b = true) (k : Up (fun H1 => u σ H1 QB) H) : Up (andK u σ QB b) H := by rw [h]; exact k
theorem up_andF (h : b = false) (k : Up (QB false) H) : Up (andK u σ QB b) H := by rw [h]; exact k
theorem up_orT (h : b = true) (k : Up (QB true) H) : Up (orK u σ QB b) H := by rw [h]; exact k
theorem up_orF (h : b = false) (k : Up (fun H1 => u σ H1 QB) H) : Up (orK u σ QB b) H := by rw [h]; exact k
/-- .. as values -/
def andV (tb : TE) (σ : St) (Q : VK) : VK := fun x H1 => ∃ c, x = .bl c ∧ if c = true then tb σ H1 Q else Q (.bl false) H1
def orV (tb : TE) (σ : St) (Q : VK) : VK := fun x H1 => ∃ c, x = .bl c ∧ if c = true then Q (.bl true) H1 else tb σ H1 Q
def notV (Q : VK) : VK := fun x H1 => ∃ c, x = .bl c ∧ Q (.bl (!c)) H1
theorem up_andVt (k : Up (fun H1 => ta σ H1 (andV tb σ Q)) H) : Up (fun H1 => tAndV ta tb σ H1 Q) H := k
theorem up_orVt (k : Up (fun H1 => ta σ H1 (orV tb σ Q)) H) : Up (fun H1 => tOrV ta tb σ H1 Q) H := k
theorem up_notVt (k : Up (fun H1 => ta σ H1 (notV Q)) H) : Up (fun H1 => tNotV ta σ H1 Q) H := k
theorem up_notV (k : Up (Q (.bl (!b))) H) : Up (notV Q (.bl b)) H := fun H1 e => ⟨b, rfl, k H1 e⟩
theorem up_andVK (k1 : b = true → Up (fun H1 => tb σ H1 Q) H) (k0 : b = false → Up (Q (.bl false)) H) : Up (andV tb σ Q (.bl b)) H := fun H1 e => ⟨b, rfl, by
  cases b with
  | true => exact k1 rfl H1 e
  | false => exact k0 rfl H1 e⟩
theorem up_orVK (k1 : b = true → Up (Q (.bl true)) H) (k0 : b = false → Up (fun H1 => tb σ H1 Q) H) : Up (orV tb σ Q (.bl b)) H := fun H1 e => ⟨b, rfl, by
  cases b with
  | true => exact k1 rfl H1 e
  | false => exact k0 rfl H1 e⟩
def ifV (ta tb : TE) (σ : St) (Q : VK) : Bool → Hp → Prop := fun c H1 => if c = true then ta σ H1 Q else tb σ H1 Q
theorem up_ifE (k : Up (fun H1 => t σ H1 (ifV ta tb σ Q)) H) : Up (fun H1 => tIf t ta tb σ H1 Q) H := k
theorem up_ifV (k1 : b = true → Up (fun H1 => ta σ H1 Q) H) (k0 : b = false → Up (fun H1 => tb σ H1 Q) H) : Up (ifV ta tb σ Q b) H := by
  cases b with
  | true => exact k1 rfl
  | false => exact k0 rfl
/-- a test, a value, told once -/
def EvT (t : TT) (σ : St) (H : Hp) (b : Bool) : Prop := ∀ Q : Bool → Hp → Prop, Up (Q b) H → Up (fun H1 => t σ H1 Q) H
def EvE (t : TE) (σ : St) (H : Hp) (v : V) : Prop := ∀ Q : VK, Up (Q v) H → Up (fun H1 => t σ H1 Q) H
theorem up_evT (h : EvT t σ H b) (k : Up (QB b) H) : Up (fun H1 => t σ H1 QB) H := h QB k
theorem up_evE (h : EvE te σ H v) (k : Up (Q v) H) : Up (fun H1 => te σ H1 Q) H := h Q k
/-- truth of a value -/
def truK (K : PySem.W.Frag) (QB : Bool → Hp → Prop) : VK := fun x H' => ∃ k, TruV K x H' k ∧ QB k H'
theorem up_tru (k : Up (fun H1 => te σ H1 (truK K QB)) H) : Up (fun H1 => tTru K te σ H1 QB) H := k
theorem up_truL {p : Addr} {xs : List V} (h : SqL K H p xs) (k : Up (QB (!xs.isEmpty)) H) : Up (truK K QB (.ref p)) H := fun H1 e => ⟨_, .inl ⟨xs, sq_up e h, rfl⟩, k H1 e⟩
theorem up_truI {i : Int} (k : Up (QB (i != 0)) H) : Up (truK K QB (.int i)) H := fun H1 e => ⟨_, rfl, k H1 e⟩

/-! ### arguments -/
variable {tr : TA} {QA : List V → Hp → Prop} {xs ys : List V}
def consB (x : V) (Q : List V → Hp → Prop) : List V → Hp → Prop := fun xs H => Q (x :: xs) H
def consA (tr : TA) (σ : St) (Q : List V → Hp → Prop) : VK := fun x H => tr σ H (consB x Q)
theorem up_cons (k : Up (fun H1 => te σ H1 (consA tr σ QA)) H) : Up (fun H1 => tCons te tr σ H1 QA) H := k
theorem up_consA (k : Up (fun H1 => tr σ H1 (consB x QA)) H) : Up (consA tr σ QA x) H := k
theorem up_consB (k : Up (QA (x :: xs)) H) : Up (consB x QA xs) H := k
theorem up_nil (k : Up (QA []) H) : Up (fun H1 => tNil σ H1 QA) H := k
def tupK (Q : VK) : List V → Hp → Prop := fun xs H1 => xs.length ≤ sizeLine ∧ ∀ p, H1 p = none → Q (.ref p) (upd H1 p (.tup xs))
def lstK (Q : VK) : List V → Hp → Prop := fun xs H1 => xs.length ≤ sizeLine ∧ ∀ p, H1 p = none → Q (.ref p) (upd H1 p (.lst xs))
theorem up_tup (k : Up (fun H1 => tr σ H1 (tupK Q)) H) : Up (fun H1 => tTup tr σ H1 Q) H := k
theorem up_lst (k : Up (fun H1 => tr σ H1 (lstK Q)) H) : Up (fun H1 => tLst tr σ H1 Q) H := k
theorem up_new {o : HO} (k : ∀ p, H p = none → Up (Q (.ref p)) (upd H p o)) : Up (fun H1 => ∀ p, H1 p = none → Q (.ref p) (upd H1 p o)) H := fun H1 e p hp => k p (e.free hp) _ (same_upd e)
theorem up_tupK (h : xs.length ≤ 100000) (k : ∀ p, H p = none → Up (Q (.ref p)) (upd H p (.tup xs))) : Up (tupK Q xs) H := fun H1 e => ⟨sz h, fun p hp => k p (e.free hp) _ (same_upd e)⟩
theorem up_lstK (h : xs.length ≤ 100000) (k : ∀ p, H p = none → Up (Q (.ref p)) (upd H p (.lst xs))) : Up (lstK Q xs) H := fun H1 e => ⟨sz h, fun p hp => k p (e.free hp) _ (same_upd e)⟩

/-! ### calls -/
/-- a promise told from below -/
def KSp (F : List V → Hp → VK → Prop) : Sp := fun vs H Q _ => ∃ H0, Same H0 H ∧ F vs H0 Q
/-- .. of a def that may raise -/
def KSx (F : List V → Hp → VK → XK → Prop) : Sp := fun vs H Q E => ∃ H0, Same H0 H ∧ F vs H0 Q E
def callK (sp : Sp) (dvs : List V) (E : XK) (Q : VK) : List V → Hp → Prop := fun vs H => sp (vs ++ dvs) H Q E
theorem up_callT {sp : Sp} {dvs : List V} {E : XK} (k : Up (fun H1 => tr σ H1 (callK sp dvs E Q)) H) : Up (fun H1 => tCall sp dvs E tr σ H1 Q) H := k
theorem up_call {F : List V → Hp → VK → Prop} {E : XK} {vs : List V} (h : F vs H Q) : Up (callK (KSp F) [] E Q vs) H := fun H1 e => by
  show KSp F (vs ++ []) H1 Q E
  rw [List.append_nil]
  exact ⟨H, e, h⟩
theorem up_callX {F : List V → Hp → VK → XK → Prop} {E : XK} {vs : List V} (h : F vs H Q E) : Up (callK (KSx F) [] E Q vs) H := fun H1 e => by
  show KSx F (vs ++ []) H1 Q E
  rw [List.append_nil]
  exact ⟨H, e, h⟩
def blK (r : List V → Hp → VK → Prop) (Q : VK) : List V → Hp → Prop := fun vs H => r vs H Q
theorem up_CB {r : List V → Hp → VK → Prop} (k : Up (fun H1 => tr σ H1 (blK r Q)) H) : Up (fun H1 => tCB r tr σ H1 Q) H := k
/-- o.m(..) of a built-in type -/
def bmB (r : V → List V → Hp → VK → Prop) (x : V) (Q : VK) : List V → Hp → Prop := fun vs H => r x vs H Q
def bmK (K : PySem.W.Frag) (T : String) (r : V → List V → Hp → VK → Prop) (tr : TA) (σ : St) (Q : VK) : VK := fun x H1 => tyV K T x H1 ∧ tr σ H1 (bmB r x Q)
theorem up_BM {T : String} {r : V → List V → Hp → VK → Prop} (k : Up (fun H1 => te σ H1 (bmK K T r tr σ Q)) H) : Up (fun H1 => tBM K T r te tr σ H1 Q) H := k
def bm0K (K : PySem.W.Frag) (T : String) (r : V → List V → Hp → VK → Prop) (Q : VK) : VK := fun x H1 => tyV K T x H1 ∧ r x [] H1 Q
theorem up_BM0 {T : String} {r : V → List V → Hp → VK → Prop} (k : Up (fun H1 => te σ H1 (bm0K K T r Q)) H) : Up (fun H1 => tBM0 K T r te σ H1 Q) H := k
theorem up_bmL {p : Addr} {r : V → List V → Hp → VK → Prop} (h : SqL K H p xs) (k : Up (fun H1 => tr σ H1 (bmB r (.ref p) Q)) H) : Up (bmK K "list" r tr σ Q (.ref p)) H := fun H1 e => ⟨.inl ⟨rfl, xs, sq_up e h⟩, k H1 e⟩
theorem up_bm0L {p : Addr} {r : V → List V → Hp → VK → Prop} (h : SqL K H p xs) (k : Up (fun H1 => r (.ref p) [] H1 Q) H) : Up (bm0K K "list" r Q (.ref p)) H := fun H1 e => ⟨.inl ⟨rfl, xs, sq_up e h⟩, k H1 e⟩
theorem up_bmS {z : Str} {r : V → List V → Hp → VK → Prop} (k : Up (fun H1 => tr σ H1 (bmB r (.str z) Q)) H) : Up (bmK K "str" r tr σ Q (.str z)) H := fun H1 e => ⟨rfl, k H1 e⟩

/-! ### lists -/
theorem up_append {l : Addr} (h : H l = some (.lst xs)) (hz : xs.length < 100000) (k : Up (Q .non) (upd H l (.lst (xs ++ [y])))) : Up (bmB rAppend (.ref l) Q [y]) H := fun H1 e => ⟨l, xs, y, rfl, rfl, e l _ h, szl hz, k _ (same_upd e)⟩
theorem up_extend {l c : Addr} (h : H l = some (.lst xs)) (hc : H c = some (.lst ys)) (hz : xs.length + ys.length ≤ 100000) (k : Up (Q .non) (upd H l (.lst (xs ++ ys)))) : Up (bmB rExtend (.ref l) Q [.ref c]) H :=
  fun H1 e => ⟨l, c, xs, ys, rfl, rfl, e l _ h, e c _ hc, sz hz, k _ (same_upd e)⟩
theorem up_pop {l : Addr} (h : H l = some (.lst xs)) (hy : xs[xs.length - 1]? = some y) (k : Up (Q y) (upd H l (.lst xs.dropLast))) : Up (fun H1 => rPop (.ref l) [] H1 Q) H := fun H1 e => ⟨l, xs, y, rfl, rfl, e l _ h, hy, k _ (same_upd e)⟩
theorem up_clear {l : Addr} (h : H l = some (.lst xs)) (k : Up (Q .non) (upd H l (.lst []))) : Up (fun H1 => rClear (.ref l) [] H1 Q) H := fun H1 e => ⟨l, xs, rfl, rfl, e l _ h, k _ (same_upd e)⟩
theorem up_ixL {p : Addr} {i : Int} (h : SqL K H p xs) (hv : atI xs i = some v) (k : Up (Q v) H) : Up (fun H1 => rIxL K (.ref p) (.int i) H1 Q) H := fun H1 e => ⟨p, xs, i, v, rfl, rfl, sq_up e h, hv, k H1 e⟩
theorem up_ixT {p : Addr} {i : Int} (h : SqT K H p xs) (hv : atI xs i = some v) (k : Up (Q v) H) : Up (fun H1 => rIxT K (.ref p) (.int i) H1 Q) H := fun H1 e => ⟨p, xs, i, v, rfl, rfl, st_up e h, hv, k H1 e⟩
theorem up_ixS {z : Str} {i : Int} {c : Nat} (hz : z.length ≤ 100000) (hv : atI z.cps.toList i = some c) (k : Up (Q (.str ⟨#[c]⟩)) H) : Up (fun H1 => rIxS (.str z) (.int i) H1 Q) H := fun H1 e => ⟨z, i, c, rfl, rfl, sz hz, hv, k H1 e⟩
theorem up_cat {l c : Addr} (h : H l = some (.lst xs)) (hc : H c = some (.lst ys)) (hz : xs.length + ys.length ≤ 100000) (k : ∀ p, H p = none → Up (Q (.ref p)) (upd H p (.lst (xs ++ ys)))) : Up (fun H1 => rCat (.ref l) (.ref c) H1 Q) H :=
  fun H1 e => ⟨l, c, xs, ys, rfl, rfl, e l _ h, e c _ hc, sz hz, fun p hp => k p (e.free hp) _ (same_upd e)⟩
theorem up_rep {l : Addr} {n : Int} (h : H l = some (.lst xs)) (h1 : -100000 ≤ n) (h2 : n ≤ 100000) (hz : xs.length ≤ 100) (k : ∀ p, H p = none → Up (Q (.ref p)) (upd H p (.lst (List.replicate n.toNat xs).flatten))) : Up (fun H1 => rRep (.ref l) (.int n) H1 Q) H :=
  fun H1 e => ⟨l, n, xs, rfl, rfl, e l _ h, by omega, by omega, by
    have hs : sizeLine = 16777216 := sizeLine_eq
    have : xs.length * n.toNat ≤ 100 * 100000 := Nat.mul_le_mul hz (by omega)
    omega, fun p hp => k p (e.free hp) _ (same_upd e)⟩
theorem up_in {neg : Bool} {p : Addr} (h : SqL K H p xs) (hx : flatV x = true) (ha : xs.all flatV = true) (k : Up (Q (.bl (if neg then !inV x xs else inV x xs))) H) : Up (fun H1 => rIn K neg x (.ref p) H1 Q) H := fun H1 e => ⟨p, xs, rfl, .inl (sq_up e h), hx, ha, k H1 e⟩
theorem up_inT {neg : Bool} {p : Addr} (h : SqT K H p xs) (hx : flatV x = true) (ha : xs.all flatV = true) (k : Up (Q (.bl (if neg then !inV x xs else inV x xs))) H) : Up (fun H1 => rIn K neg x (.ref p) H1 Q) H := fun H1 e => ⟨p, xs, rfl, .inr (st_up e h), hx, ha, k H1 e⟩
/-- slices -/
def oK (th : TO) (σ : St) (r : V → Option Int → Option Int → Hp → VK → Prop) (x : V) (Q : VK) : Option Int → Hp → Prop := fun l H2 => th σ H2 fun u H3 => r x l u H3 Q
def slK (tl th : TO) (σ : St) (r : V → Option Int → Option Int → Hp → VK → Prop) (Q : VK) : VK := fun x H1 => tl σ H1 (oK th σ r x Q)
theorem up_sl {tl th : TO} {r : V → Option Int → Option Int → Hp → VK → Prop} (k : Up (fun H1 => te σ H1 (slK tl th σ r Q)) H) : Up (fun H1 => tSl r te tl th σ H1 Q) H := k
theorem up_slK {tl th : TO} {r : V → Option Int → Option Int → Hp → VK → Prop} (k : Up (fun H1 => tl σ H1 (oK th σ r x Q)) H) : Up (slK tl th σ r Q x) H := k
theorem up_oK {th : TO} {r : V → Option Int → Option Int → Hp → VK → Prop} {l : Option Int} (k : Up (fun H1 => th σ H1 fun u H3 => r x l u H3 Q) H) : Up (oK th σ r x Q l) H := k
theorem up_noPart {QO : Option Int → Hp → Prop} (k : Up (QO none) H) : Up (fun H1 => tNoPart σ H1 QO) H := k
def partK (QO : Option Int → Hp → Prop) : VK := fun x H1 => ∃ i, x = .int i ∧ QO (some i) H1
theorem up_part {QO : Option Int → Hp → Prop} (k : Up (fun H1 => te σ H1 (partK QO)) H) : Up (fun H1 => tPart te σ H1 QO) H := k
theorem up_partK {QO : Option Int → Hp → Prop} {i : Int} (k : Up (QO (some i)) H) : Up (partK QO (.int i)) H := fun H1 e => ⟨i, rfl, k H1 e⟩
theorem up_slL {a : Addr} {lo hi : Option Int} (h : SqL K H a xs) (k : ∀ p, H p = none → Up (Q (.ref p)) (upd H p (.lst (cutV xs lo hi)))) : Up (fun H1 => rSlL K (.ref a) lo hi H1 Q) H := fun H1 e => ⟨a, xs, rfl, sq_up e h, fun p hp => k p (e.free hp) _ (same_upd e)⟩
theorem up_slS {z : Str} {lo hi : Option Int} (h : z.length ≤ 100000) (k : Up (Q (.str (cutS z lo hi))) H) : Up (fun H1 => rSlS (.str z) lo hi H1 Q) H := fun H1 e => ⟨z, rfl, sz h, k H1 e⟩

/-! ### built-in functions -/
def rLen (K : PySem.W.Frag) : List V → Hp → VK → Prop := fun xs H Q => ∃ p ys, xs = [.ref p] ∧ (SqL K H p ys ∨ SqT K H p ys) ∧ Q (.int ys.length) H
theorem kc_len {X : Cx} : CallR X (.builtin "len") (rLen X.K) := call_len_seq
theorem up_len {p : Addr} (h : SqL K H p xs) (k : Up (Q (.int xs.length)) H) : Up (blK (rLen K) Q [.ref p]) H := fun H1 e => ⟨p, xs, rfl, .inl (sq_up e h), k H1 e⟩
theorem up_lenT {p : Addr} (h : SqT K H p xs) (k : Up (Q (.int xs.length)) H) : Up (blK (rLen K) Q [.ref p]) H := fun H1 e => ⟨p, xs, rfl, .inr (st_up e h), k H1 e⟩
def rLenZ : List V → Hp → VK → Prop := fun xs H Q => ∃ z : Str, xs = [.str z] ∧ z.length ≤ sizeLine ∧ Q (.int z.length) H
theorem kc_lenZ {X : Cx} : CallR X (.builtin "len") rLenZ := call_len_str
theorem up_lenZ {z : Str} (h : z.length ≤ 100000) (k : Up (Q (.int z.length)) H) : Up (blK rLenZ Q [.str z]) H := fun H1 e => ⟨z, rfl, sz h, k H1 e⟩
def rListOf (K : PySem.W.Frag) : List V → Hp → VK → Prop := fun xs H Q => ∃ p ys, xs = [.ref p] ∧ (SqL K H p ys ∨ SqT K H p ys) ∧ ∀ l, H l = none → Q (.ref l) (upd H l (.lst ys))
theorem kc_list {X : Cx} : CallR X (.type "list") (rListOf X.K) := call_list_of
theorem up_listOf {p : Addr} (h : SqL K H p xs) (k : ∀ l, H l = none → Up (Q (.ref l)) (upd H l (.lst xs))) : Up (blK (rListOf K) Q [.ref p]) H := fun H1 e => ⟨p, xs, rfl, .inl (sq_up e h), fun l hl => k l (e.free hl) _ (same_upd e)⟩
theorem up_listOfT {p : Addr} (h : SqT K H p xs) (k : ∀ l, H l = none → Up (Q (.ref l)) (upd H l (.lst xs))) : Up (blK (rListOf K) Q [.ref p]) H := fun H1 e => ⟨p, xs, rfl, .inr (st_up e h), fun l hl => k l (e.free hl) _ (same_upd e)⟩
def rTupOf (K : PySem.W.Frag) : List V → Hp → VK → Prop := fun xs H Q => ∃ p ys, xs = [.ref p] ∧ ((SqL K H p ys ∧ ∀ l, H l = none → Q (.ref l) (upd H l (.tup ys))) ∨ (SqT K H p ys ∧ Q (.ref p) H))
theorem kc_tuple {X : Cx} : CallR X (.type "tuple") (rTupOf X.K) := call_tuple_of
theorem up_tupOf {p : Addr} (h : SqL K H p xs) (k : ∀ l, H l = none → Up (Q (.ref l)) (upd H l (.tup xs))) : Up (blK (rTupOf K) Q [.ref p]) H := fun H1 e => ⟨p, xs, rfl, .inl ⟨sq_up e h, fun l hl => k l (e.free hl) _ (same_upd e)⟩⟩
def rMx2 : List V → Hp → VK → Prop := fun xs H Q => ∃ i j, xs = [.int i, .int j] ∧ Q (.int (if j > i then j else i)) H
theorem kc_max2 {X : Cx} (hc : X.calm = true) : CallR X (.builtin "max") rMx2 := call_max2 hc
theorem up_max2 {i j : Int} (k : Up (Q (.int (max i j))) H) : Up (blK rMx2 Q [.int i, .int j]) H := fun H1 e => ⟨i, j, rfl, by
  have q : (if j > i then j else i) = max i j := by
    by_cases h : j > i
    · rw [if_pos h]; omega
    · rw [if_neg h]; omega
  rw [q]
  exact k H1 e⟩
def rMn2 : List V → Hp → VK → Prop := fun xs H Q => ∃ i j, xs = [.int i, .int j] ∧ Q (.int (if j < i then j else i)) H
theorem kc_min2 {X : Cx} (hc : X.calm = true) : CallR X (.builtin "min") rMn2 := call_min2 hc
theorem up_min2 {i j : Int} (k : Up (Q (.int (min i j))) H) : Up (blK rMn2 Q [.int i, .int j]) H := fun H1 e => ⟨i, j, rfl, by
  have q : (if j < i then j else i) = min i j := by
    by_cases h : j < i
    · rw [if_pos h]; omega
    · rw [if_neg h]; omega
  rw [q]
  exact k H1 e⟩
theorem up_sum {p : Addr} {ns : List Int} (h : SqL K H p (ns.map V.int)) (k : Up (Q (.int ns.sum)) H) : Up (blK (rSum K) Q [.ref p]) H := fun H1 e => ⟨p, ns, rfl, sq_up e h, k H1 e⟩
theorem up_max {p : Addr} {ns : List Int} (h : SqL K H p (ns.map V.int)) (hn : 0 < ns.length) (k : ∀ m, m ∈ ns → (∀ y, y ∈ ns → y ≤ m) → Up (Q (.int m)) H) : Up (blK (rMax K) Q [.ref p]) H := fun H1 e => ⟨p, ns, rfl, sq_up e h, hn, fun m a b => k m a b H1 e⟩
/-- isinstance with a built-in type -/
theorem tyOf_up {H' : Hp} {t : Value} (e : Same H H') (h : TyX K H x t) : TyX K H' x t := by
  cases h with
  | base h =>
    cases h with
    | non => exact .base .non
    | bl y => exact .base (.bl y)
    | int y => exact .base (.int y)
    | str y => exact .base (.str y)
    | flt y => exact .base (.flt y)
    | lst h => exact .base (.lst (e _ _ h))
    | frz h => exact .base (.frz (e _ _ h))
    | tup h => exact .base (.tup (e _ _ h))
    | dK h => exact .base (.dK (e _ _ h))
    | dT h => exact .base (.dT (e _ _ h))
    | ins h a b c d f => exact .base (.ins (e _ _ h) a b c d f)
  | byt b => exact .byt b
  | set h => exact .set (e _ _ h)
  | kList h c => exact .kList h c
  | kTuple h c => exact .kTuple h c
  | kDict h c => exact .kDict h c
  | fTuple h => exact .fTuple (e _ _ h)
  | fDict h => exact .fDict (e _ _ h)
theorem up_isi {a : String} {n : String} (ty : TyX K H x (.type a)) {r : Bool} (h : kitB a n = some r) (k : Up (Q (.bl r)) H) : Up (blK (rIsi K) Q [x, .ty n]) H := fun H1 e => ⟨x, .ty n, .type a, .type n, r, rfl, .ty n, tyOf_up e ty, kit_ty h, k H1 e⟩

/-! ### statements -/
variable {n bk ct : St → Hp → Prop} {r : VK} {ts tu tw : TS}
def asK (g : TG) (n : St → Hp → Prop) (σ : St) : VK := fun x H1 => g x σ H1 n
theorem up_seq (k : Up (ts (Ends.mk (tu (Ends.mk n r bk ct)) r bk ct) σ) H) : Up (tSeq ts tu (Ends.mk n r bk ct) σ) H := k
theorem up_next (k : Up (n σ) H) : Up (tNext (Ends.mk n r bk ct) σ) H := k
theorem up_brk (k : Up (bk σ) H) : Up (tBreak (Ends.mk n r bk ct) σ) H := k
theorem up_cont (k : Up (ct σ) H) : Up (tCont (Ends.mk n r bk ct) σ) H := k
theorem up_asg {g : TG} (k : Up (fun H1 => te σ H1 (asK g n σ)) H) : Up (tAsg te g (Ends.mk n r bk ct) σ) H := k
theorem up_name {i : Nat} (k : Up (n (σ.set i (some v))) H) : Up (asK (gName i) n σ v) H := k
def subK (ti : TE) (t : TSet) (v : V) (σ : St) (n : St → Hp → Prop) : VK := fun o H1 => ti σ H1 fun i H2 => t o i v H2 fun H3 => n σ H3
theorem up_sub {ti : TE} {t : TSet} (k : Up (fun H1 => te σ H1 (subK ti t v σ n)) H) : Up (asK (gSub te ti t) n σ v) H := k
theorem up_subK {ti : TE} {t : TSet} {o : V} (k : Up (fun H1 => ti σ H1 fun i H2 => t o i v H2 fun H3 => n σ H3) H) : Up (subK ti t v σ n o) H := k
theorem up_setL {p : Addr} {i : Int} {j : Nat} (h : H p = some (.lst xs)) (hi : ixN xs.length i = some j) (k : Up (n σ) (upd H p (.lst (xs.set j v)))) : Up (fun H1 => rSetL (.ref p) (.int i) v H1 fun H3 => n σ H3) H :=
  fun H1 e => ⟨p, xs, i, j, rfl, rfl, e p _ h, hi, k _ (same_upd e)⟩
def drK (n : St → Hp → Prop) (σ : St) : VK := fun _ H1 => n σ H1
theorem up_drop (k : Up (fun H1 => te σ H1 (drK n σ)) H) : Up (tDrop te (Ends.mk n r bk ct) σ) H := k
theorem up_drK (k : Up (n σ) H) : Up (drK n σ v) H := k
theorem up_ret (k : Up (fun H1 => te σ H1 r) H) : Up (tRet te (Ends.mk n r bk ct) σ) H := k
theorem up_retN (k : Up (r .non) H) : Up (tRetN (Ends.mk n r bk ct) σ) H := k
def ifK (ts tu : TS) (D : Ends) (σ : St) : Bool → Hp → Prop := fun b H1 => if b = true then ts D σ H1 else tu D σ H1
theorem up_if (k : Up (fun H1 => t σ H1 (ifK ts tu (Ends.mk n r bk ct) σ)) H) : Up (tIfS t ts tu (Ends.mk n r bk ct) σ) H := k
theorem up_ifK {D : Ends} (k1 : b = true → Up (ts D σ) H) (k0 : b = false → Up (tu D σ) H) : Up (ifK ts tu D σ b) H := by
  cases b with
  | true => exact k1 rfl
  | false => exact k0 rfl
theorem up_ifP {D : Ends} {c : Prop} [Decidable c] (k1 : c → Up (ts D σ) H) (k0 : ¬ c → Up (tu D σ) H) : Up (ifK ts tu D σ (decide c)) H := up_ifK (fun h => k1 (of_decide_eq_true h)) fun h => k0 (of_decide_eq_false h)
theorem up_ifN {D : Ends} {c : Prop} [Decidable c] (k1 : ¬ c → Up (ts D σ) H) (k0 : c → Up (tu D σ) H) : Up (ifK ts tu D σ (!decide c)) H :=
  up_ifK (fun h => k1 (of_decide_eq_false (by simpa using h))) fun h => k0 (of_decide_eq_true (by simpa using h))
theorem up_ifT {D : Ends} (h : b = true) (k : Up (ts D σ) H) : Up (ifK ts tu D σ b) H := by rw [h]; exact k
theorem up_ifF {D : Ends} (h : b = false) (k : Up (tu D σ) H) : Up (ifK ts tu D σ b) H := by rw [h]; exact k

/-! ### loops: I tells, of a turn's number and the slots, what is known of the heap -/
/-- I from below -/
def Lo (I : St → Hp → Prop) : St → Hp → Prop := fun σ H' => ∃ H0, Same H0 H' ∧ I σ H0
theorem up_lo {I : St → Hp → Prop} (h : I σ H) : Up (Lo I σ) H := fun _ e => ⟨H, e, h⟩
def itK (g : TG) (tb : TS) (D : Ends) (σ : St) : It → Hp → Prop := fun J H1 => ∃ W : Nat → Nat → St → Hp → Prop, (∃ m, W 0 m σ H1) ∧ ∀ i m σ H, W i m σ H →
  (J.stop i H ∧ D.nx σ H) ∨ (J.go i H ∧ ∃ N : St → Hp → Prop, (∀ σ' H', N σ' H' → ∃ m', m' < m ∧ W (i + 1) m' σ' H') ∧ ∀ x H', J.yld i H x H' → g x σ H' fun σ2 H2 => tb { D with nx := N, ct := N, bk := D.nx } σ2 H2)
theorem up_for {wi : TI} {g : TG} (k : Up (fun H1 => wi σ H1 (itK g ts (Ends.mk n r bk ct) σ)) H) : Up (tFor wi g ts (Ends.mk n r bk ct) σ) H := k
variable {R : It → Hp → Prop}
def itlK (K : PySem.W.Frag) (R : It → Hp → Prop) : VK := fun x H1 => ∃ a, x = .ref a ∧ (∃ xs, SqL K H1 a xs) ∧ R (Itl K a) H1
theorem up_iList (k : Up (fun H1 => te σ H1 (itlK K R)) H) : Up (fun H1 => iList K te σ H1 R) H := k
theorem up_itl {a : Addr} (h : SqL K H a xs) (k : Up (R (Itl K a)) H) : Up (itlK K R (.ref a)) H := fun H1 e => ⟨a, rfl, ⟨xs, sq_up e h⟩, k H1 e⟩
def rg1K (R : It → Hp → Prop) : List V → Hp → Prop := fun vs H1 => ∃ j : Int, vs = [.int j] ∧ -(2 ^ 62) ≤ j ∧ j < 2 ^ 62 ∧ R (Itr 0 j.toNat) H1
theorem up_iRng1 (k : Up (fun H1 => tr σ H1 (rg1K R)) H) : Up (fun H1 => iRng1 tr σ H1 R) H := k
theorem up_rg1 {j : Int} (h1 : -100000 ≤ j) (h2 : j ≤ 100000) (k : Up (R (Itr 0 j.toNat)) H) : Up (rg1K R [.int j]) H := fun H1 e => ⟨j, rfl, by omega, by omega, k H1 e⟩
def rg2K (R : It → Hp → Prop) : List V → Hp → Prop := fun vs H1 => ∃ i j : Int, vs = [.int i, .int j] ∧ (-(2 ^ 62) ≤ i ∧ i < 2 ^ 62 ∧ -(2 ^ 62) ≤ j ∧ j < 2 ^ 62) ∧ R (Itr i (j - i).toNat) H1
theorem up_iRng2 (k : Up (fun H1 => tr σ H1 (rg2K R)) H) : Up (fun H1 => iRng2 tr σ H1 R) H := k
theorem up_rg2 {i j : Int} (h : -100000 ≤ i ∧ i ≤ 100000 ∧ -100000 ≤ j ∧ j ≤ 100000) (k : Up (R (Itr i (j - i).toNat)) H) : Up (rg2K R [.int i, .int j]) H := fun H1 e => ⟨i, j, rfl, ⟨by omega, by omega, by omega, by omega⟩, k H1 e⟩
def rg3K (R : It → Hp → Prop) : List V → Hp → Prop := fun vs H1 => ∃ (i j c : Int) (n : Nat), vs = [.int i, .int j, .int c] ∧ RgC i j c n ∧ R (Itc i c n) H1
theorem up_iRng3 (k : Up (fun H1 => tr σ H1 (rg3K R)) H) : Up (fun H1 => iRng3 tr σ H1 R) H := k
theorem up_rg3 {i j : Int} (h : -100000 ≤ i ∧ i ≤ 100000 ∧ -100000 ≤ j ∧ j ≤ 100000) (k : Up (R (Itc i (-1) (i - j).toNat)) H) : Up (rg3K R [.int i, .int j, .int (-1)]) H :=
  fun H1 e => ⟨i, j, -1, (i - j).toNat, rfl, RgC.neg (by omega) (by omega) (by omega) (by omega), k H1 e⟩
def istK (R : It → Hp → Prop) : VK := fun v H1 => ∃ x, v = .str x ∧ R (Its x) H1
theorem up_iStr (k : Up (fun H1 => te σ H1 (istK R)) H) : Up (fun H1 => iStr te σ H1 R) H := k
theorem up_ist {z : Str} (k : Up (R (Its z)) H) : Up (istK R (.str z)) H := fun H1 e => ⟨z, rfl, k H1 e⟩

/-- what a turn of the body is to reach -/
abbrev turnE (I : Nat → St → Hp → Prop) (i : Nat) (n : St → Hp → Prop) (r : VK) : Ends := Ends.mk (Lo (I (i + 1))) r n (Lo (I (i + 1)))
theorem up_forL {a : Addr} {j : Nat} (I : Nat → St → Hp → Prop) (h0 : I 0 σ H) (hl : ∀ i σ' H', i ≤ xs.length → I i σ' H' → SqL K H' a xs)
    (hs : ∀ i x σ' H', xs[i]? = some x → I i σ' H' → Up (ts (turnE I i n r) (σ'.set j (some x))) H') (hd : ∀ σ' H', I xs.length σ' H' → Up (n σ') H') : Up (itK (gName j) ts (Ends.mk n r bk ct) σ (Itl K a)) H := fun H1 e => by
  refine for_list (K := K) (a := a) (xs := xs) (fun i => Lo (I i)) ⟨H, e, h0⟩ (fun i σ' H' hi ⟨H0, e0, p⟩ => sq_up e0 (hl i σ' H0 hi p)) (fun i x σ' H' hx ⟨H0, e0, p⟩ => ?_) (fun σ' H' ⟨H0, e0, p⟩ => hd σ' H0 p H' e0)
  exact hs i x σ' H0 hx p H' e0
theorem up_forR {lo : Int} {m j : Nat} (I : Nat → St → Hp → Prop) (h0 : I 0 σ H)
    (hs : ∀ i σ' H', i < m → I i σ' H' → Up (ts (turnE I i n r) (σ'.set j (some (.int (lo + i))))) H') (hd : ∀ σ' H', I m σ' H' → Up (n σ') H') : Up (itK (gName j) ts (Ends.mk n r bk ct) σ (Itr lo m)) H := fun H1 e => by
  refine for_range (lo := lo) (n := m) (fun i => Lo (I i)) ⟨H, e, h0⟩ (fun i σ' H' hi ⟨H0, e0, p⟩ => ?_) (fun σ' H' ⟨H0, e0, p⟩ => hd σ' H0 p H' e0)
  exact hs i σ' H0 hi p H' e0
theorem up_forR0 {m j : Nat} (I : Nat → St → Hp → Prop) (h0 : I 0 σ H)
    (hs : ∀ i σ' H', i < m → I i σ' H' → Up (ts (turnE I i n r) (σ'.set j (some (.int ((i : Nat) : Int))))) H') (hd : ∀ σ' H', I m σ' H' → Up (n σ') H') : Up (itK (gName j) ts (Ends.mk n r bk ct) σ (Itr 0 m)) H :=
  up_forR I h0 (fun i σ' H' hi p => by rw [Int.zero_add]; exact hs i σ' H' hi p) hd
theorem up_forC {lo c : Int} {m j : Nat} (I : Nat → St → Hp → Prop) (h0 : I 0 σ H)
    (hs : ∀ i σ' H', i < m → I i σ' H' → Up (ts (turnE I i n r) (σ'.set j (some (.int (lo + (i : Nat) * c))))) H') (hd : ∀ σ' H', I m σ' H' → Up (n σ') H') : Up (itK (gName j) ts (Ends.mk n r bk ct) σ (Itc lo c m)) H := fun H1 e => by
  refine for_rangeC (lo := lo) (c := c) (n := m) (fun i => Lo (I i)) ⟨H, e, h0⟩ (fun i σ' H' hi ⟨H0, e0, p⟩ => ?_) (fun σ' H' ⟨H0, e0, p⟩ => hd σ' H0 p H' e0)
  exact hs i σ' H0 hi p H' e0
theorem up_while (I : Nat → St → Hp → Prop) (m0 : Nat) (h0 : I m0 σ H)
    (hs : ∀ m σ' H', I m σ' H' → ∃ b, EvT t σ' H' b ∧ (b = true → Up (ts (Ends.mk (Lo fun σ2 H2 => ∃ m', m' < m ∧ I m' σ2 H2) r n (Lo fun σ2 H2 => ∃ m', m' < m ∧ I m' σ2 H2)) σ') H') ∧ (b = false → Up (n σ') H')) :
    Up (tWhile t ts (Ends.mk n r bk ct) σ) H := fun H1 e => by
  refine ⟨fun m => Lo (I m), ⟨m0, H, e, h0⟩, fun m σ' H' ⟨H0, e0, p⟩ => ?_⟩
  obtain ⟨b, ev, k1, k0⟩ := hs m σ' H0 p
  refine ev _ ?_ H' e0
  cases b with
  | true =>
    refine fun H2 e2 => ?_
    show if true = true then _ else _
    rw [if_pos rfl]
    exact ⟨_, fun σ2 H3 ⟨H4, e4, m', hm, q⟩ => ⟨m', hm, H4, e4, q⟩, k1 rfl H2 e2⟩
  | false =>
    refine fun H2 e2 => ?_
    show if false = true then _ else _
    rw [if_neg Bool.false_ne_true]
    exact k0 rfl H2 e2

/-! ### comprehensions -/
def lcK (g : TG) (tt : TT) (te : TE) (vs : List Nat) (σ : St) (Q : VK) : It → Hp → Prop := fun J H1 => ∀ D, H1 D = none → ∃ W : Nat → Nat → Hp → Prop, (∃ m, W 0 m (upd H1 D (.lst []))) ∧ ∀ i m H, W i m H →
  (J.stop i H ∧ Q (.ref D) H) ∨ (J.go i H ∧ ∃ Nx : Hp → Prop, (∀ H', Nx H' → ∃ m', m' < m ∧ W (i + 1) m' H') ∧ ∀ x H', J.yld i H x H' → g x (wipe σ vs) H' fun σ2 H2 => wipe σ2 vs = wipe σ vs ∧ tt σ2 H2 fun b H3 =>
    if b = true then te σ2 H3 fun y H4 => ∃ acc, H4 D = some (.lst acc) ∧ acc.length < sizeLine ∧ Nx (upd H4 D (.lst (acc ++ [y]))) else Nx H3)
theorem up_lc {wi : TI} {g : TG} {vs : List Nat} (k : Up (fun H1 => wi σ H1 (lcK g t te vs σ Q)) H) : Up (fun H1 => tLc wi g t te vs σ H1 Q) H := k
/-- I from below, of the heap alone -/
def Lh (I : Hp → Prop) : Hp → Prop := fun H' => ∃ H0, Same H0 H' ∧ I H0
theorem up_lh {I : Hp → Prop} (h : I H) : Up (Lh I) H := fun _ e => ⟨H, e, h⟩
/-- the new item goes to the list at D -/
def putD (D : Addr) (N : Hp → Prop) : VK := fun y H4 => ∃ acc, H4 D = some (.lst acc) ∧ acc.length < sizeLine ∧ N (upd H4 D (.lst (acc ++ [y])))
theorem up_putD {D : Addr} {N : Hp → Prop} (h : H D = some (.lst xs)) (hz : xs.length < 100000) (k : Up N (upd H D (.lst (xs ++ [y])))) : Up (putD D N y) H := fun H1 e => ⟨xs, e D _ h, szl hz, k _ (same_upd e)⟩
/-- kept or not -/
def keepD (te : TE) (σ2 : St) (D : Addr) (N : Hp → Prop) : Bool → Hp → Prop := fun b H3 => if b = true then te σ2 H3 (putD D N) else N H3
theorem up_keep1 {D : Addr} {N : Hp → Prop} (h : b = true) (k : Up (fun H1 => te σ H1 (putD D N)) H) : Up (keepD te σ D N b) H := by rw [h]; exact k
theorem up_keep0 {D : Addr} {N : Hp → Prop} (h : b = false) (k : Up N H) : Up (keepD te σ D N b) H := by rw [h]; exact k
theorem up_keepP {D : Addr} {N : Hp → Prop} {c : Prop} [Decidable c] (k1 : c → Up (fun H1 => te σ H1 (putD D N)) H) (k0 : ¬ c → Up N H) : Up (keepD te σ D N (decide c)) H := by
  by_cases h : c
  · exact up_keep1 (decide_eq_true h) (k1 h)
  · exact up_keep0 (decide_eq_false h) (k0 h)
theorem up_keepB {D : Addr} {N : Hp → Prop} (k1 : b = true → Up (fun H1 => te σ H1 (putD D N)) H) (k0 : b = false → Up N H) : Up (keepD te σ D N b) H := by
  cases b with
  | true => exact k1 rfl
  | false => exact k0 rfl
theorem up_yes (k : Up (QB true) H) : Up (fun H1 => tYes σ H1 QB) H := k
theorem up_lcL {a : Addr} {j : Nat} {vs : List Nat} (hw : ∀ x, wipe ((wipe σ vs).set j (some x)) vs = wipe σ vs) (I : Addr → Nat → Hp → Prop) (h0 : ∀ D, H D = none → I D 0 (upd H D (.lst []))) (hl : ∀ D i H', i ≤ xs.length → I D i H' → SqL K H' a xs)
    (hs : ∀ D i x H', H D = none → xs[i]? = some x → I D i H' → Up (fun H1 => t ((wipe σ vs).set j (some x)) H1 (keepD te ((wipe σ vs).set j (some x)) D (Lh (I D (i + 1))))) H') (hd : ∀ D H', H D = none → I D xs.length H' → Up (Q (.ref D)) H') :
    Up (lcK (gName j) t te vs σ Q (Itl K a)) H := fun H1 e D hD => by
  refine lc_list (K := K) (a := a) (xs := xs) (fun i => Lh (I D i)) ⟨_, same_upd e, h0 D (e.free hD)⟩ (fun i H' hi ⟨H0, e0, p⟩ => sq_up e0 (hl D i H0 hi p)) (fun i x H' hx ⟨H0, e0, p⟩ => ⟨hw x, ?_⟩) (fun H' ⟨H0, e0, p⟩ => hd D H0 (e.free hD) p H' e0)
  exact hs D i x H0 (e.free hD) hx p H' e0
theorem up_lcR {lo : Int} {m j : Nat} {vs : List Nat} (hw : ∀ x, wipe ((wipe σ vs).set j (some x)) vs = wipe σ vs) (I : Addr → Nat → Hp → Prop) (h0 : ∀ D, H D = none → I D 0 (upd H D (.lst [])))
    (hs : ∀ D i H', H D = none → i < m → I D i H' → Up (fun H1 => t ((wipe σ vs).set j (some (.int (lo + i)))) H1 (keepD te ((wipe σ vs).set j (some (.int (lo + i)))) D (Lh (I D (i + 1))))) H') (hd : ∀ D H', H D = none → I D m H' → Up (Q (.ref D)) H') :
    Up (lcK (gName j) t te vs σ Q (Itr lo m)) H := fun H1 e D hD => by
  refine lc_range (lo := lo) (n := m) (fun i => Lh (I D i)) ⟨_, same_upd e, h0 D (e.free hD)⟩ (fun i H' hi ⟨H0, e0, p⟩ => ⟨hw _, ?_⟩) (fun H' ⟨H0, e0, p⟩ => hd D H0 (e.free hD) p H' e0)
  exact hs D i H0 (e.free hD) hi p H' e0
end
section
variable {H : Hp} {σ : St} {Q : VK} {t : TT} {te : TE}
theorem up_lcR0 {m j : Nat} {vs : List Nat} (hw : ∀ x, wipe ((wipe σ vs).set j (some x)) vs = wipe σ vs) (I : Addr → Nat → Hp → Prop) (h0 : ∀ D, H D = none → I D 0 (upd H D (.lst [])))
    (hs : ∀ D i H', H D = none → i < m → I D i H' → Up (fun H1 => t ((wipe σ vs).set j (some (.int ((i : Nat) : Int)))) H1 (keepD te ((wipe σ vs).set j (some (.int ((i : Nat) : Int)))) D (Lh (I D (i + 1))))) H') (hd : ∀ D H', H D = none → I D m H' → Up (Q (.ref D)) H') :
    Up (lcK (gName j) t te vs σ Q (Itr 0 m)) H := up_lcR hw I h0 (fun D i H' hD hi p => by rw [Int.zero_add]; exact hs D i H' hD hi p) hd
end
/-! ### defs by their names -/
/-- a def of the text, its promise -/
structure Fn (P : Program) (w : World) (K : PySem.W.Frag) (mg : Str → Option Value) (base : Heap) (CX : CXT) (k : Nat) (x : Str) (ps : List Str) (sp : Sp) : Prop where
  ex : ∃ (f : Addr) (fd : FuncData), FnOk P w K mg base CX k f fd ps sp ∧ mg x = some (.ref f) ∧ PySem.W.keepIn K (.ref f) = true ∧ Binds K fd ps []
theorem Fn.mk' {P : Program} {w : World} {K : PySem.W.Frag} {mg : Str → Option Value} {base : Heap} {CX : CXT} {k : Nat} {x qual : Str} {st : Stmt} {ps : List Str} {sp : Sp} {f : Addr} {fd : FuncData} (F : Fun K x qual st f fd) (G : FnOk P w K mg base CX k f fd ps sp) (hm : mg x = some (.ref f))
    (h : ∀ (kV doc pm : Value) (an : Option Addr) (cdv ct : Value) (us : List Value), us.length = ps.length → bindArgs (PySem.W.fnOf x qual (defArgs st) (defBody st) (defScope st) .none kV doc pm an cdv ct) ⟨us, []⟩ = pure (ps.zip us)) : Fn P w K mg base CX k x ps sp :=
  ⟨f, fd, G, hm, F.kp, F.binds h⟩
section
variable {X : Cx} {k j : Nat} {x : Str} {ps : List Str} {sp : Sp} {p pos : Pos} {e : Expr} {es : List Expr} {t : TA}
theorem kp_call (c : Fn X.prog X.w X.K X.mg X.base CX0 k x ps sp) (hr : Room j X.A) (hk : k ≤ j) (hg : Gl X x) (ha : PA X (e :: es) t) (hdb : (x == ("__debug__" : Str)) = false := by decide) (he : starEach (e :: es) X.env = (false, eval e X.env) :: starEach es X.env := by rfl)
    (hpl : (backTo pos (starEach es X.env)).any (·.1) = false := by rfl) : PE X (.Call (.Name x p) (e :: es) [] pos) (tCall sp [] E0 t) := by
  obtain ⟨f, fd, F, hm, kp, b⟩ := c.ex
  exact pe_call F (hr.mono hk) hg hm kp b .nil pass0 ha hdb he hpl
theorem kt_truth {a : Expr} {ta : TE} (ha : PE X a ta) (he : ∀ whole, isTrue a X.env whole = (do let v ← whole; standAt a.pos; holding [v] (truthy v)) := by intro _; rfl) : PT X a (tTru X.K ta) := pt_truth ha he
theorem ko_addS : OpR X (binaryOp .Add) rAddS := op_add_str
end
/-- what the top leaves of the built-ins' names -/
structure Bl (mg : Str → Option Value) : Prop where
  len : mg "len" = none
  range : mg "range" = none
  list : mg "list" = none
  tuple : mg "tuple" = none
  max : mg "max" = none
  min : mg "min" = none
  sum : mg "sum" = none
  sorted : mg "sorted" = none
  isi : mg "isinstance" = none
  int : mg "int" = none
  bool : mg "bool" = none
  str : mg "str" = none
theorem _root_.L2.Room.units65 {k : Nat} {A : Around} (r : Room k A) : A.units + 65 < cLine := by have := r.un; omega
/-! ### dicts with int keys -/
section
variable {K : PySem.W.Frag} {H : Hp} {σ : St} {Q : VK} {v x y : V} {ta tb te : TE} {n bk ct : St → Hp → Prop} {r : VK} {d : Addr} {kvs : List (Key × V)} {i : Int}
theorem up_dnew (k : ∀ p, H p = none → Up (Q (.ref p)) (upd H p (.dK []))) : Up (fun H1 => tDNewK σ H1 Q) H := fun H1 e p hp => k p (e.free hp) _ (same_upd e)
def dinB (neg : Bool) (y : V) (Q : VK) : VK := fun x H2 => ∃ a o, x = .ref a ∧ DGet H2 a y o ∧ Q (.bl (if neg then !o.isSome else o.isSome)) H2
def dinA (neg : Bool) (td : TE) (σ : St) (Q : VK) : VK := fun y H1 => td σ H1 (dinB neg y Q)
theorem up_din (k : Up (fun H1 => ta σ H1 (dinA false tb σ Q)) H) : Up (fun H1 => tDIn ta tb σ H1 Q) H := k
theorem up_dnotin (k : Up (fun H1 => ta σ H1 (dinA true tb σ Q)) H) : Up (fun H1 => tDNotIn ta tb σ H1 Q) H := k
theorem up_dinA {neg : Bool} (k : Up (fun H1 => tb σ H1 (dinB neg y Q)) H) : Up (dinA neg tb σ Q y) H := k
theorem up_dinB (h : H d = some (.dK kvs)) (k : Up (Q (.bl (valV kvs (Sum.inl i : Key)).isSome)) H) : Up (dinB false (.int i) Q (.ref d)) H := fun H1 e => ⟨d, _, rfl, DGet.k (k := Sum.inl i) (e _ _ h), k H1 e⟩
theorem up_dnotinB (h : H d = some (.dK kvs)) (k : Up (Q (.bl (!(valV kvs (Sum.inl i : Key)).isSome))) H) : Up (dinB true (.int i) Q (.ref d)) H := fun H1 e => ⟨d, _, rfl, DGet.k (k := Sum.inl i) (e _ _ h), k H1 e⟩
def dgB (x : V) (Q : VK) : VK := fun y H2 => ∃ a v, x = .ref a ∧ DGet H2 a y (some v) ∧ Q v H2
def dgA (ty : TE) (σ : St) (Q : VK) : VK := fun x H1 => ty σ H1 (dgB x Q)
theorem up_dget (k : Up (fun H1 => ta σ H1 (dgA tb σ Q)) H) : Up (fun H1 => tDGet ta tb σ H1 Q) H := k
theorem up_dgA (k : Up (fun H1 => tb σ H1 (dgB x Q)) H) : Up (dgA tb σ Q x) H := k
theorem up_dgB (h : H d = some (.dK kvs)) (hv : valV kvs (Sum.inl i : Key) = some v) (k : Up (Q v) H) : Up (dgB (.ref d) Q (.int i)) H := fun H1 e => ⟨d, v, rfl, by
  have g := DGet.k (k := (Sum.inl i : Key)) (e _ _ h)
  rw [hv] at g
  exact g, k H1 e⟩
def dpC (v x : V) (n : St → Hp → Prop) (σ : St) : VK := fun y H3 => ∃ a H4, x = .ref a ∧ DPut H3 a y v H4 ∧ n σ H4
def dpB (v : V) (ty : TE) (n : St → Hp → Prop) (σ : St) : VK := fun x H2 => ty σ H2 (dpC v x n σ)
def dpA (td ty : TE) (n : St → Hp → Prop) (σ : St) : VK := fun v H1 => td σ H1 (dpB v ty n σ)
theorem up_dput (k : Up (fun H1 => te σ H1 (dpA ta tb n σ)) H) : Up (sDPut ta tb te (Ends.mk n r bk ct) σ) H := k
theorem up_dpA (k : Up (fun H1 => ta σ H1 (dpB v tb n σ)) H) : Up (dpA ta tb n σ v) H := k
theorem up_dpB (k : Up (fun H1 => tb σ H1 (dpC v x n σ)) H) : Up (dpB v tb n σ x) H := k
theorem up_dpC (h : H d = some (.dK kvs)) (hl : kvs.length < 100000) (k : Up (n σ) (upd H d (.dK (putK kvs (Sum.inl i : Key) v)))) : Up (dpC v (.ref d) n σ (.int i)) H := fun H1 e => ⟨d, _, rfl, DPut.k (k := Sum.inl i) (e _ _ h) (szl hl), k _ (same_upd e)⟩
/-- d.get(k, z) -/
def d2C (a : Addr) (y : V) (Q : VK) : VK := fun z H3 => ∃ o, DGet H3 a y o ∧ Q (o.getD z) H3
def d2B (a : Addr) (tx : TE) (σ : St) (Q : VK) : VK := fun y H2 => tx σ H2 (d2C a y Q)
def d2A (ty tx : TE) (σ : St) (Q : VK) : VK := fun x H1 => ∃ a, x = .ref a ∧ IsD H1 a ∧ ty σ H1 (d2B a tx σ Q)
theorem up_dget2 (k : Up (fun H1 => ta σ H1 (d2A tb te σ Q)) H) : Up (fun H1 => tDGet2 ta tb te σ H1 Q) H := k
theorem up_d2A (h : H d = some (.dK kvs)) (k : Up (fun H1 => tb σ H1 (d2B d te σ Q)) H) : Up (d2A tb te σ Q (.ref d)) H := fun H1 e => ⟨d, rfl, .inl ⟨kvs, .inl (e _ _ h)⟩, k H1 e⟩
theorem up_d2B (k : Up (fun H1 => te σ H1 (d2C d y Q)) H) : Up (d2B d te σ Q y) H := k
theorem up_d2C (h : H d = some (.dK kvs)) (k : Up (Q ((valV kvs (Sum.inl i : Key)).getD v)) H) : Up (d2C d (.int i) Q v) H := fun H1 e => ⟨_, DGet.k (k := Sum.inl i) (e _ _ h), k H1 e⟩
/-- d.pop(k) -/
def dqB (a : Addr) (Q : VK) : VK := fun y H2 => ∃ kvs k v, H2 a = some (.dK kvs) ∧ y = kV k ∧ valV kvs k = some v ∧ Q v (upd H2 a (.dK (dropK kvs k)))
def dqA (ty : TE) (σ : St) (Q : VK) : VK := fun x H1 => ∃ a, x = .ref a ∧ IsD H1 a ∧ ty σ H1 (dqB a Q)
theorem up_dpop1 (k : Up (fun H1 => ta σ H1 (dqA tb σ Q)) H) : Up (fun H1 => tDPop1 ta tb σ H1 Q) H := k
theorem up_dqA (h : H d = some (.dK kvs)) (k : Up (fun H1 => tb σ H1 (dqB d Q)) H) : Up (dqA tb σ Q (.ref d)) H := fun H1 e => ⟨d, rfl, .inl ⟨kvs, .inl (e _ _ h)⟩, k H1 e⟩
theorem up_dqB (h : H d = some (.dK kvs)) (hv : valV kvs (Sum.inl i : Key) = some v) (k : Up (Q v) (upd H d (.dK (dropK kvs (Sum.inl i : Key))))) : Up (dqB d Q (.int i)) H := fun H1 e => ⟨kvs, Sum.inl i, v, e _ _ h, rfl, hv, k _ (same_upd e)⟩

/-! ### instances -/
variable {C a dx : Addr} {fs : List (Str × V)} {f m : Str} {tr : TA}
def fdK (K : PySem.W.Frag) (f : Str) (Q : VK) : VK := fun x H1 => ∃ a C dx fs v, x = .ref a ∧ H1 a = some (.ins C dx fs) ∧ Cls K C ∧ NoAttr K C f ∧ fs.lookup f = some v ∧ Q v H1
theorem up_fld (k : Up (fun H1 => te σ H1 (fdK K f Q)) H) : Up (fun H1 => tFld K te f σ H1 Q) H := k
theorem up_fdK (h : H a = some (.ins C dx fs)) (c : Cls K C) (na : NoAttr K C f) (hl : fs.lookup f = some v) (k : Up (Q v) H) : Up (fdK K f Q (.ref a)) H := fun H1 e => ⟨a, C, dx, fs, v, rfl, e _ _ h, c, na, hl, k H1 e⟩
def sfB (K : PySem.W.Frag) (f : Str) (y : V) (n : St → Hp → Prop) (σ : St) : VK := fun x H2 => ∃ a C dx fs, x = .ref a ∧ H2 a = some (.ins C dx fs) ∧ Cls K C ∧ NoAttr K C f ∧ fs.length < 1000 ∧ n σ (upd H2 a (.ins C dx (putF f y fs)))
def sfA (K : PySem.W.Frag) (ta : TE) (f : Str) (n : St → Hp → Prop) (σ : St) : VK := fun y H1 => ta σ H1 (sfB K f y n σ)
theorem up_sfld (k : Up (fun H1 => te σ H1 (sfA K ta f n σ)) H) : Up (sFld K ta te f (Ends.mk n r bk ct) σ) H := k
theorem up_sfA (k : Up (fun H1 => ta σ H1 (sfB K f y n σ)) H) : Up (sfA K ta f n σ y) H := k
theorem up_sfB (h : H a = some (.ins C dx fs)) (c : Cls K C) (na : NoAttr K C f) (hl : fs.length < 1000) (k : Up (n σ) (upd H a (.ins C dx (putF f y fs)))) : Up (sfB K f y n σ (.ref a)) H := fun H1 e => ⟨a, C, dx, fs, rfl, e _ _ h, c, na, hl, k _ (same_upd e)⟩
def mtB (sp : Sp) (dvs : List V) (E : XK) (x : V) (Q : VK) : List V → Hp → Prop := fun vs H2 => sp (x :: (vs ++ dvs)) H2 Q E
def mtA (C : Addr) (m : Str) (sp : Sp) (dvs : List V) (E : XK) (tr : TA) (σ : St) (Q : VK) : VK := fun x H1 => ∃ a dx fs, x = .ref a ∧ H1 a = some (.ins C dx fs) ∧ fs.lookup m = none ∧ tr σ H1 (mtB sp dvs E x Q)
theorem up_meth {sp : Sp} {dvs : List V} {E : XK} (k : Up (fun H1 => te σ H1 (mtA C m sp dvs E tr σ Q)) H) : Up (fun H1 => tMeth C m sp dvs E te tr σ H1 Q) H := k
theorem up_mtA {sp : Sp} {dvs : List V} {E : XK} (h : H a = some (.ins C dx fs)) (hl : fs.lookup m = none) (k : Up (fun H1 => tr σ H1 (mtB sp dvs E (.ref a) Q)) H) : Up (mtA C m sp dvs E tr σ Q (.ref a)) H := fun H1 e => ⟨a, dx, fs, rfl, e _ _ h, hl, k H1 e⟩
theorem up_mtB {F : List V → Hp → VK → Prop} {E : XK} {vs : List V} (h : F (x :: vs) H Q) : Up (mtB (KSp F) [] E x Q vs) H := fun H1 e => by
  show KSp F (x :: (vs ++ [])) H1 Q E
  rw [List.append_nil]
  exact ⟨H, e, h⟩
theorem up_mtX {F : List V → Hp → VK → XK → Prop} {E : XK} {vs : List V} (h : F (x :: vs) H Q E) : Up (mtB (KSx F) [] E x Q vs) H := fun H1 e => by
  show KSx F (x :: (vs ++ [])) H1 Q E
  rw [List.append_nil]
  exact ⟨H, e, h⟩
def mkK (C : Addr) (sp : Sp) (dvs : List V) (E : XK) (Q : VK) : List V → Hp → Prop := fun vs H1 => ∀ x dx, H1 x = none → H1 dx = none → dx ≠ x → sp (.ref x :: (vs ++ dvs)) (upd (upd H1 dx (.own x)) x (.ins C dx [])) (fun v H2 => v = .non ∧ Q (.ref x) H2) E
theorem up_make {sp : Sp} {dvs : List V} {E : XK} (k : Up (fun H1 => tr σ H1 (mkK C sp dvs E Q)) H) : Up (fun H1 => tMake C sp dvs E tr σ H1 Q) H := k
theorem up_mkX {F : List V → Hp → VK → XK → Prop} {E : XK} {vs : List V} (h : ∀ x dx, H x = none → H dx = none → dx ≠ x → F (.ref x :: vs) (upd (upd H dx (.own x)) x (.ins C dx [])) (fun v H2 => v = .non ∧ Q (.ref x) H2) E) : Up (mkK C (KSx F) [] E Q vs) H := fun H1 e x dx hx hd ne => by
  show KSx F (.ref x :: (vs ++ [])) _ _ E
  rw [List.append_nil]
  exact ⟨_, same_upd (same_upd e), h x dx (e.free hx) (e.free hd) ne⟩
/-- behind an __init__: None, and the instance -/
theorem up_made {x : Addr} (k : Up (Q (.ref x)) H) : Up (fun H2 => V.non = V.non ∧ Q (.ref x) H2) H := fun H1 e => ⟨rfl, k H1 e⟩
end
section
variable {X : Cx} {k j : Nat} {C : Addr} {m : Str} {ps : List Str} {sp : Sp} {pos apos : Pos} {o e : Expr} {es : List Expr} {t : TA} {ta : TE}
/-- a method of the text -/
structure Mt (P : Program) (w : World) (K : PySem.W.Frag) (mg : Str → Option Value) (base : Heap) (CX : CXT) (k : Nat) (C : Addr) (m : Str) (ps : List Str) (sp : Sp) : Prop where
  ex : ∃ (f : Addr) (fd : FuncData), FnOk P w K mg base CX k f fd ps sp ∧ Meth K C m f ∧ Binds K fd ps []
theorem kp_meth (c : Mt X.prog X.w X.K X.mg X.base CX0 k C m ps sp) (cl : Cls X.K C) (hr : Room j X.A) (hk : k ≤ j) (he : PE X o ta) (ha : PA X (e :: es) t)
    (hst : starEach (e :: es) X.env = (false, eval e X.env) :: starEach es X.env := by rfl) (hpl : (backTo pos (starEach es X.env)).any (·.1) = false := by rfl) {pl : Sem Bool}
    (ht : eval (.Call (.Attribute o m apos) (e :: es) [] pos) X.env = (do
      let ov ← eval o X.env
      standAt apos.atName
      let (f, first) ← holding [ov] (getMethod ov m pl)
      callWith pos f first (backTo pos (starEach (e :: es) X.env)) (backToKw pos (keywordEach [] X.env))) := by rfl) : PE X (.Call (.Attribute o m apos) (e :: es) [] pos) (tMeth C m sp [] E0 ta t) := by
  obtain ⟨f, fd, F, hm, b⟩ := c.ex
  exact pe_meth he cl hm F (hr.mono hk) b .nil pass0 ha hst hpl ht
theorem kp_meth0 (c : Mt X.prog X.w X.K X.mg X.base CX0 k C m ps sp) (cl : Cls X.K C) (hr : Room j X.A) (hk : k ≤ j) (he : PE X o ta) {pl : Sem Bool}
    (ht : eval (.Call (.Attribute o m apos) [] [] pos) X.env = (do
      let ov ← eval o X.env
      standAt apos.atName
      let (f, first) ← holding [ov] (getMethod ov m pl)
      callWith pos f first (backTo pos (starEach [] X.env)) (backToKw pos (keywordEach [] X.env))) := by rfl) : PE X (.Call (.Attribute o m apos) [] [] pos) (tMeth C m sp [] E0 ta tNil) := by
  obtain ⟨f, fd, F, hm, b⟩ := c.ex
  exact pe_meth0 he cl hm F (hr.mono hk) b .nil pass0 ht
end
end Kp

namespace Kp
open PySem L2
section
variable {K : PySem.W.Frag} {H H' : Hp}
mutual
theorem dp_up (e : Same H H') : ∀ (d : PyData) (v : V), Dp K H v d → Dp K H' v d
  | .none, _, h => by cases h; exact .non
  | .bool b, _, h => by cases h; exact .bl b
  | .int i, _, h => by cases h; exact .int i
  | .str x, _, h => by cases h; exact .str x
  | .list ds, _, h => by
    cases h with
    | lst hs ha => exact .lst (sq_up e hs) (dpAll_up e ds _ ha)
  | .tuple ds, _, h => by
    cases h with
    | tup hs ha => exact .tup (st_up e hs) (dpAll_up e ds _ ha)
  | .dict _, _, h => by cases h
theorem dpAll_up (e : Same H H') : ∀ (ds : List PyData) (vs : List V), DpAll K H vs ds → DpAll K H' vs ds
  | [], _, h => by cases h; exact .nil
  | d :: ds, _, h => by
    cases h with
    | cons h1 h2 => exact .cons (dp_up e d _ h1) (dpAll_up e ds _ h2)
end
/-- None and whole numbers -/
def flat0 : V → Bool
  | .non => true
  | .int _ => true
  | _ => false
def fp : V → PyData
  | .int i => .int i
  | _ => .none
theorem dp_flat : ∀ {x : V}, flat0 x = true → Dp K H x (fp x)
  | .non, _ => .non
  | .int i, _ => .int i
theorem dpAll_flat : ∀ {xs : List V}, xs.all flat0 = true → DpAll K H xs (xs.map fp)
  | [], _ => .nil
  | x :: xs, h => by
    rw [List.all_cons, Bool.and_eq_true] at h
    exact .cons (dp_flat h.1) (dpAll_flat h.2)
theorem lay_flat : ∀ xs : List V, PyData.canLayAll0 (xs.map fp) = true
  | [] => by simp [PyData.canLayAll0]
  | x :: xs => by
    have h := lay_flat xs
    cases x <;> simp [fp, PyData.canLayAll0, PyData.canLay0, h]
theorem depth_flat : ∀ xs : List V, PyData.depthAll (xs.map fp) = 0
  | [] => by simp [PyData.depthAll]
  | x :: xs => by
    have h := depth_flat xs
    cases x <;> simp [fp, PyData.depthAll, PyData.depth, h]
theorem eqv_flat : ∀ {x y : V}, flat0 x = true → flat0 y = true → PyData.eqv (fp x) (fp y) = decide (x = y)
  | .non, .non, _, _ => by simp [fp, PyData.eqv]
  | .non, .int _, _, _ => by simp [fp, PyData.eqv]
  | .int _, .non, _, _ => by simp [fp, PyData.eqv]
  | .int i, .int j, _, _ => by
    show (i == j) = _
    by_cases h : i = j
    · subst h; simp
    · have : V.int i ≠ V.int j := fun q => h (V.int.inj q)
      rw [decide_eq_false this]
      exact beq_eq_false_iff_ne.mpr h
theorem eqvAll_flat : ∀ {xs ys : List V}, xs.all flat0 = true → ys.all flat0 = true → PyData.eqvAll (xs.map fp) (ys.map fp) = decide (xs = ys)
  | [], [], _, _ => by simp [PyData.eqvAll]
  | [], _ :: _, _, _ => by simp [PyData.eqvAll]
  | _ :: _, [], _, _ => by simp [PyData.eqvAll]
  | x :: xs, y :: ys, h, h' => by
    rw [List.all_cons, Bool.and_eq_true] at h h'
    show (PyData.eqv (fp x) (fp y) && PyData.eqvAll (xs.map fp) (ys.map fp)) = _
    rw [eqv_flat h.1 h'.1, eqvAll_flat h.2 h'.2]
    by_cases e : x = y
    · by_cases e2 : xs = ys
      · subst e e2; simp
      · have : ¬ x :: xs = y :: ys := fun q => e2 (List.cons.inj q).2
        rw [decide_eq_false e2, decide_eq_false this, Bool.and_false]
    · have : ¬ x :: xs = y :: ys := fun q => e (List.cons.inj q).1
      rw [decide_eq_false e, decide_eq_false this, Bool.false_and]
theorem shaped_list (xs : List V) : SeqAt.shaped (.list (xs.map fp)) = true := by
  unfold SeqAt.shaped
  simp [PyData.canLay0, PyData.depth, lay_flat, depth_flat]
theorem shaped_tuple (xs : List V) : SeqAt.shaped (.tuple (xs.map fp)) = true := by
  unfold SeqAt.shaped
  simp [PyData.canLay0, PyData.depth, lay_flat, depth_flat]
theorem shaped_fp (x : V) : SeqAt.shaped (fp x) = true := by
  unfold SeqAt.shaped
  cases x <;> simp [fp, PyData.canLay0, PyData.depth]
variable {Q : VK} {x y : V} {d d' : PyData} {xs ys : List V} {p q : Addr}
theorem up_eqD (hx : Dp K H x d) (hy : Dp K H y d') (sx : SeqAt.shaped d = true) (sy : SeqAt.shaped d' = true) (k : Up (Q (.bl (PyData.eqv d d'))) H) : Up (fun H1 => rEqD K x y H1 Q) H := fun H1 e => ⟨d, d', dp_up e _ _ hx, dp_up e _ _ hy, sx, sy, k H1 e⟩
theorem up_neD (hx : Dp K H x d) (hy : Dp K H y d') (sx : SeqAt.shaped d = true) (sy : SeqAt.shaped d' = true) (k : Up (Q (.bl (!PyData.eqv d d'))) H) : Up (fun H1 => rNeD K x y H1 Q) H := fun H1 e => ⟨d, d', dp_up e _ _ hx, dp_up e _ _ hy, sx, sy, k H1 e⟩
theorem shaped_lay {d : PyData} (h : SeqAt.shaped d = true) : d.canLay0 = true := SeqAt.canLay_of_shaped h
/-- equal data -/
theorem up_eqSame (hx : Dp K H x d) (hy : Dp K H y d) (s : SeqAt.shaped d = true) (k : Up (Q (.bl true)) H) : Up (fun H1 => rEqD K x y H1 Q) H := up_eqD hx hy s s (by rw [SeqAt.eqv_refl d (shaped_lay s)]; exact k)
theorem up_neSame (hx : Dp K H x d) (hy : Dp K H y d) (s : SeqAt.shaped d = true) (k : Up (Q (.bl false)) H) : Up (fun H1 => rNeD K x y H1 Q) H := up_neD hx hy s s (by rw [SeqAt.eqv_refl d (shaped_lay s)]; exact k)
theorem up_eqLL (hp : SqL K H p xs) (hq : SqL K H q ys) (fx : xs.all flat0 = true) (fy : ys.all flat0 = true) (k : Up (Q (.bl (decide (xs = ys)))) H) : Up (fun H1 => rEqD K (.ref p) (.ref q) H1 Q) H :=
  up_eqD (.lst hp (dpAll_flat fx)) (.lst hq (dpAll_flat fy)) (shaped_list _) (shaped_list _) (by
    show Up (Q (.bl (PyData.eqvAll (xs.map fp) (ys.map fp)))) H
    rw [eqvAll_flat fx fy]; exact k)
theorem up_neLL (hp : SqL K H p xs) (hq : SqL K H q ys) (fx : xs.all flat0 = true) (fy : ys.all flat0 = true) (k : Up (Q (.bl (!decide (xs = ys)))) H) : Up (fun H1 => rNeD K (.ref p) (.ref q) H1 Q) H :=
  up_neD (.lst hp (dpAll_flat fx)) (.lst hq (dpAll_flat fy)) (shaped_list _) (shaped_list _) (by
    show Up (Q (.bl (!PyData.eqvAll (xs.map fp) (ys.map fp)))) H
    rw [eqvAll_flat fx fy]; exact k)
theorem up_eqTT (hp : SqT K H p xs) (hq : SqT K H q ys) (fx : xs.all flat0 = true) (fy : ys.all flat0 = true) (k : Up (Q (.bl (decide (xs = ys)))) H) : Up (fun H1 => rEqD K (.ref p) (.ref q) H1 Q) H :=
  up_eqD (.tup hp (dpAll_flat fx)) (.tup hq (dpAll_flat fy)) (shaped_tuple _) (shaped_tuple _) (by
    show Up (Q (.bl (PyData.eqvAll (xs.map fp) (ys.map fp)))) H
    rw [eqvAll_flat fx fy]; exact k)
theorem up_neTT (hp : SqT K H p xs) (hq : SqT K H q ys) (fx : xs.all flat0 = true) (fy : ys.all flat0 = true) (k : Up (Q (.bl (!decide (xs = ys)))) H) : Up (fun H1 => rNeD K (.ref p) (.ref q) H1 Q) H :=
  up_neD (.tup hp (dpAll_flat fx)) (.tup hq (dpAll_flat fy)) (shaped_tuple _) (shaped_tuple _) (by
    show Up (Q (.bl (!PyData.eqvAll (xs.map fp) (ys.map fp)))) H
    rw [eqvAll_flat fx fy]; exact k)
theorem flat0_rv (row : List (Option Nat)) (rv : Option Nat → V) (h : ∀ o, flat0 (rv o) = true) : (row.map rv).all flat0 = true := by
  rw [List.all_map, List.all_eq_true]
  exact fun o _ => h o
theorem flat0_ints (ns : List Int) : (ns.map V.int).all flat0 = true := by
  rw [List.all_map, List.all_eq_true]
  exact fun o _ => rfl
end
section
variable {X : Cx} {st : Stmt} {rest : List Stmt} {t u : TS}
/-- a statement, then the rest, with a word between them -/
def tCut (t u : TS) : TS := fun D σ H => ∃ Mid : St → Hp → Prop, t { D with nx := Mid } σ H ∧ ∀ σ' H', Mid σ' H' → u D σ' H'
theorem kp_cut (h1 : PS X st t) (h2 : PSs X rest u) : PSs X (st :: rest) (tCut t u) := by
  refine ⟨fun pins s σ H D I h => ?_⟩
  obtain ⟨Mid, hm, hu⟩ := h
  refine wpAny_execs_cons (thn (h1.run pins s σ H { D with nx := Mid } I hm) fun f s1 q => ?_)
  cases f with
  | next =>
    obtain ⟨σ', H', I', q⟩ := q
    exact h2.run pins s1 σ' H' D I' (hu σ' H' q)
  | ret v => exact q
  | brk => exact q
  | cont => exact q
theorem up_cut {n bk ct : St → Hp → Prop} {r : VK} {σ : St} {H : Hp} (M : St → Hp → Prop) (h : Up (t (Ends.mk (Lo M) r bk ct) σ) H) (k : ∀ σ' H', M σ' H' → Up (u (Ends.mk n r bk ct) σ') H') : Up (tCut t u (Ends.mk n r bk ct) σ) H :=
  fun H1 e => ⟨Lo M, h H1 e, fun σ' H' ⟨H0, e0, m⟩ => k σ' H0 m H' e0⟩
end
/-- the law's end: whatever the heap, True -/
def fLaw (K : PySem.W.Frag) : List V → Hp → VK → Prop := fun vs H Q => ∃ (a : Addr) (ns : List Int), vs = [.ref a] ∧ SqL K H a (ns.map V.int) ∧ ns.length ≤ 63 ∧ Up (Q (.bl true)) H
end Kp

namespace Kp
open PySem L2
def rFindZ : V → List V → Hp → VK → Prop := fun x xs H Q => ∃ a b, x = .str a ∧ xs = [.str b] ∧ Q (.int (PySem.Txt.find a b)) H
def rJoinZ (K : PySem.W.Frag) : V → List V → Hp → VK → Prop := fun x xs H Q => ∃ a p, ∃ ys : List Str, x = .str a ∧ xs = [.ref p] ∧ (SqL K H p (ys.map V.str) ∨ SqT K H p (ys.map V.str)) ∧ (ys.map (·.length)).sum + ys.length * a.length ≤ 16777216 ∧ Q (.str (PySem.Txt.join a ys)) H
def rIndexZ : V → List V → Hp → VK → Prop := fun x xs H Q => ∃ a b i rest, x = .str a ∧ xs = [.str b] ∧ PySem.Builtin.Str.occurrences a b 0 a.length 1 = i :: rest ∧ Q (.int (i : Nat)) H
section
variable {X : Cx}
theorem kt_find : MtR X "str.find" rFindZ := mt_find
theorem kt_join : MtR X "str.join" (rJoinZ X.K) := mt_join
theorem kt_sindex : MtR X "str.index" rIndexZ := mt_sindex
theorem kp_glob {x : Str} {v : V} {pos : Pos} (hg : Gl X x) (h : ∃ u, X.mg x = some u ∧ RelV v u) (hd : (x == ("__debug__" : Str)) = false := by decide) : PE X (.Name x pos) (tC v) := by
  obtain ⟨u, hm, r⟩ := h
  exact pe_glob hg hm r hd
end
section
variable {K : PySem.W.Frag} {H : Hp} {σ : St} {Q : VK} {a b : Str} {n bk ct : St → Hp → Prop} {r : VK} {ts : TS} {t : TT} {te : TE} {xs : List V}
theorem up_find (k : Up (Q (.int (PySem.Txt.find a b))) H) : Up (bmB rFindZ (.str a) Q [.str b]) H := fun H1 e => ⟨a, b, rfl, rfl, k H1 e⟩
theorem up_join {p : Addr} {ys : List Str} (h : SqL K H p (ys.map V.str)) (hz : (ys.map (·.length)).sum + ys.length * a.length ≤ 16777216) (k : Up (Q (.str (PySem.Txt.join a ys))) H) : Up (bmB (rJoinZ K) (.str a) Q [.ref p]) H :=
  fun H1 e => ⟨a, p, ys, rfl, rfl, .inl (sq_up e h), hz, k H1 e⟩
theorem up_sindex {i : Nat} {rest : List Nat} (h : PySem.Builtin.Str.occurrences a b 0 a.length 1 = i :: rest) (k : Up (Q (.int (i : Nat))) H) : Up (bmB rIndexZ (.str a) Q [.str b]) H := fun H1 e => ⟨a, b, i, rest, rfl, rfl, h, k H1 e⟩
theorem up_addS (h : a.length + b.length ≤ 100000) (k : Up (Q (.str (a ++ b))) H) : Up (fun H1 => rAddS (.str a) (.str b) H1 Q) H := fun H1 e => ⟨a, b, rfl, rfl, sz h, k H1 e⟩
/-- for over a text's signs -/
theorem up_forS {z : Str} {j : Nat} (I : Nat → St → Hp → Prop) (h0 : I 0 σ H)
    (hs : ∀ i c σ' H', z.cps[i]? = some c → I i σ' H' → Up (ts (turnE I i n r) (σ'.set j (some (.str ⟨#[c]⟩)))) H') (hd : ∀ σ' H', I z.cps.size σ' H' → Up (n σ') H') : Up (itK (gName j) ts (Ends.mk n r bk ct) σ (Its z)) H := fun H1 e => by
  refine ⟨fun i m σ' H' => m = z.cps.size - i ∧ i ≤ z.cps.size ∧ Lo (I i) σ' H', ⟨z.cps.size, by simp, Nat.zero_le _, H, e, h0⟩, ?_⟩
  rintro i m σ' H' ⟨rfl, hi, H0, e0, p⟩
  by_cases hlt : i < z.cps.size
  · refine .inr ⟨hlt, Lo (I (i + 1)), fun σ2 H2 q => ⟨z.cps.size - (i + 1), by omega, rfl, hlt, q⟩, fun x H2 y => ?_⟩
    obtain ⟨rfl, c, hc, rfl⟩ := y
    exact hs i c σ' H0 hc p _ e0
  · have q : i = z.cps.size := by omega
    subst q
    exact .inl ⟨Nat.le_refl _, hd σ' H0 p H' e0⟩
theorem up_lcS {z : Str} {j : Nat} {vs : List Nat} (hw : ∀ x, wipe ((wipe σ vs).set j (some x)) vs = wipe σ vs) (I : Addr → Nat → Hp → Prop) (h0 : ∀ D, H D = none → I D 0 (upd H D (.lst [])))
    (hs : ∀ D i c H', H D = none → z.cps[i]? = some c → I D i H' → Up (fun H1 => t ((wipe σ vs).set j (some (.str ⟨#[c]⟩))) H1 (keepD te ((wipe σ vs).set j (some (.str ⟨#[c]⟩))) D (Lh (I D (i + 1))))) H') (hd : ∀ D H', H D = none → I D z.cps.size H' → Up (Q (.ref D)) H') :
    Up (lcK (gName j) t te vs σ Q (Its z)) H := fun H1 e D hD => by
  refine ⟨fun i m H' => m = z.cps.size - i ∧ i ≤ z.cps.size ∧ Lh (I D i) H', ⟨z.cps.size, by simp, Nat.zero_le _, _, same_upd e, h0 D (e.free hD)⟩, ?_⟩
  rintro i m H' ⟨rfl, hi, H0, e0, p⟩
  by_cases hlt : i < z.cps.size
  · refine .inr ⟨hlt, Lh (I D (i + 1)), fun H2 q => ⟨z.cps.size - (i + 1), by omega, rfl, hlt, q⟩, fun x H2 y => ?_⟩
    obtain ⟨rfl, c, hc, rfl⟩ := y
    exact ⟨hw _, hs D i c H0 (e.free hD) hc p _ e0⟩
  · have q : i = z.cps.size := by omega
    subst q
    exact .inl ⟨Nat.le_refl _, hd D H0 (e.free hD) p H' e0⟩
end
/-! ### script[1:n] -/
theorem cut_map (ns : List Int) (lo hi : Option Int) : cutV (ns.map V.int) lo hi = ((ns.drop (HT.sIx ns.length 0 lo)).take (HT.sIx ns.length ns.length hi - HT.sIx ns.length 0 lo)).map V.int := by
  unfold cutV
  rw [List.length_map, ← List.map_drop, ← List.map_take]
theorem cut_some (ns : List Int) (lo hi : Option Int) : ∃ ms : List Int, cutV (ns.map V.int) lo hi = ms.map V.int ∧ ms.length ≤ ns.length := ⟨_, cut_map ns lo hi, by
  rw [List.length_take, List.length_drop]
  omega⟩
theorem cut_ms (ns : List Int) (n : Nat) : ∃ ms : List Int, cutV (ns.map V.int) (some 1) (some (n : Int)) = ms.map V.int ∧ ms.length ≤ n := ⟨_, cut_map ns _ _, by
  rw [List.length_take]
  have h1 : HT.sIx ns.length ns.length (some (n : Int)) = min n ns.length := HT.sIx_nat ns.length ns.length n
  rw [h1]
  omega⟩
end Kp

namespace Kp
open PySem L2
/-- an own class of error over ValueError -/
structure Er (K : PySem.W.Frag) (mg : Str → Option Value) (x : Str) (C : Addr) : Prop where
  g : mg x = some (.ref C)
  xE : PySem.W.excIn K C [.type "ValueError", .type "Exception", .type "BaseException", .type "object"] "ValueError.__new__" = true
  k : PySem.W.keepIn K (.ref C) = true
  b : PySem.W.subIn K (.ref C) (.type "BaseException") = some true
  t : PySem.W.typeIn K (.ref C) = some (.type "type")
def tRz (W : WX) (cls : Value) : TS := fun _ σ H => W cls none σ H
/-- what a def wishes of its errors -/
def wX (E : XK) : WX := fun cls d _ H => E cls d H
section
variable {X : Cx} {W : WX} {x m : Str} {C : Addr} {j : Nat} {p p2 pos pos' : Pos}
theorem kp_raise (hc : X.calm = true) (tk : Takes X W) (R : Er X.K X.mg x C) (hg : Gl X x) (hdb : (x == ("__debug__" : Str)) = false := by decide) : PS X (.Raise (some (.Call (.Name x p) [.Constant (.str m) j p2] [] pos)) none pos') (tRz W (.ref C)) :=
  ps_raise hc tk (pmk_own PySem.F.excBase_ValueError R.xE R.g R.k (raises_own R.b R.t) hg hdb)
theorem kp_takes (hs : X.stack = X.env :: X.outer) (hf : X.env.frame = some X.env.locals) (hex : X.ex = []) {E₁ : Value → Shared → Prop} {E : XK}
    (hx : X.xe = fun e s' => wpAny (model X.prog X.w) X.A (leaving X.env e) (fun _ s'' => L2.CX X.prog X.w X.outer X.H_0 X.s_0 E e s'') E₁ s') : Takes X (wX E) := takes_of hs hf hex hx
variable {k : Nat} {ps : List Str} {sp : Sp} {e : Expr} {es : List Expr} {t : TA} {i : Nat}
/-- a call of a def that may raise, where what is raised is wished for -/
theorem kp_callX (c : Fn X.prog X.w X.K X.mg X.base (L2.CX X.prog X.w) k x ps sp) (tk : Takes X W) (hr : Room i X.A) (hk : k ≤ i) (hg : Gl X x) (ha : PA X (e :: es) t) (hdb : (x == ("__debug__" : Str)) = false := by decide) (he : starEach (e :: es) X.env = (false, eval e X.env) :: starEach es X.env := by rfl)
    (hpl : (backTo pos (starEach es X.env)).any (·.1) = false := by rfl) : PE X (.Call (.Name x p) (e :: es) [] pos) (tCallS sp (WE W) t) := by
  obtain ⟨f, fd, F, hm, kp, b⟩ := c.ex
  exact pe_callS F (hr.mono hk) hg hm kp b (fun σ => passAt tk σ) ha hdb he hpl
/-- .. where it raises nothing -/
theorem kp_callN (c : Fn X.prog X.w X.K X.mg X.base (L2.CX X.prog X.w) k x ps sp) (hr : Room i X.A) (hk : k ≤ i) (hg : Gl X x) (ha : PA X (e :: es) t) (hdb : (x == ("__debug__" : Str)) = false := by decide) (he : starEach (e :: es) X.env = (false, eval e X.env) :: starEach es X.env := by rfl)
    (hpl : (backTo pos (starEach es X.env)).any (·.1) = false := by rfl) : PE X (.Call (.Name x p) (e :: es) [] pos) (tCall sp [] E0 t) := by
  obtain ⟨f, fd, F, hm, kp, b⟩ := c.ex
  exact pe_call F (hr.mono hk) hg hm kp b .nil passL ha hdb he hpl
/-- a class with an __init__ of the text -/
structure Ini (P : Program) (w : World) (K : PySem.W.Frag) (mg : Str → Option Value) (base : Heap) (CX : CXT) (k : Nat) (C : Addr) (x : Str) (ps : List Str) (sp : Sp) : Prop where
  ex : ∃ (f : Addr) (fd : FuncData), FnOk P w K mg base CX k f fd ps sp ∧ Mk K C f ∧ mg x = some (.ref C) ∧ Binds K fd ps []
theorem kp_make (c : Ini X.prog X.w X.K X.mg X.base (L2.CX X.prog X.w) k C x ps sp) (hr : Room i X.A) (hk : k + 1 ≤ i) (hg : Gl X x) (ha : PA X (e :: es) t) (hdb : (x == ("__debug__" : Str)) = false := by decide) (he : starEach (e :: es) X.env = (false, eval e X.env) :: starEach es X.env := by rfl)
    (hpl : (backTo pos (starEach es X.env)).any (·.1) = false := by rfl) : PE X (.Call (.Name x p) (e :: es) [] pos) (tMake C sp [] E0 t) := by
  obtain ⟨f, fd, F, M, hm, b⟩ := c.ex
  exact pe_make M F (hr.mono hk) hg hm b .nil passL ha hdb he hpl
end
section
variable {P : Program} {w : World} {K : PySem.W.Frag} {mg : Str → Option Value} {base : Heap} {CX : CXT} {k : Nat} {x qual : Str} {st : Stmt} {ps : List Str} {sp : Sp} {f C : Addr} {fd : FuncData}
theorem Ini.mk' (F : Fun K x qual st f fd) (G : FnOk P w K mg base CX k f fd ps sp) (M : Mk K C f) {c : Str} (hm : mg c = some (.ref C))
    (h : ∀ (kV doc pm : Value) (an : Option Addr) (cdv ct : Value) (us : List Value), us.length = ps.length → bindArgs (PySem.W.fnOf x qual (defArgs st) (defBody st) (defScope st) .none kV doc pm an cdv ct) ⟨us, []⟩ = pure (ps.zip us)) : Ini P w K mg base CX k C c ps sp :=
  ⟨f, fd, G, M, hm, F.binds h⟩
theorem Mt.mk' (F : Fun K x qual st f fd) (G : FnOk P w K mg base CX k f fd ps sp) {m : Str} (M : Meth K C m f)
    (h : ∀ (kV doc pm : Value) (an : Option Addr) (cdv ct : Value) (us : List Value), us.length = ps.length → bindArgs (PySem.W.fnOf x qual (defArgs st) (defBody st) (defScope st) .none kV doc pm an cdv ct) ⟨us, []⟩ = pure (ps.zip us)) : Mt P w K mg base CX k C m ps sp :=
  ⟨f, fd, G, M, F.binds h⟩
end
section
variable {H : Hp} {σ : St} {Q : VK} {E : XK} {cls : Value} {D : Ends} {tr : TA} {vs : List V}
theorem up_raise (k : Up (E cls none) H) : Up (tRz (wX E) cls D σ) H := k
def csK (sp : Sp) (EK : XK) (Q : VK) : List V → Hp → Prop := fun vs H => sp vs H Q EK
theorem up_callS {sp : Sp} {ES : St → XK} (k : Up (fun H1 => tr σ H1 (csK sp (ES σ) Q)) H) : Up (fun H1 => tCallS sp ES tr σ H1 Q) H := k
theorem up_csX {F : List V → Hp → VK → XK → Prop} (h : F vs H Q E) : Up (csK (KSx F) E Q vs) H := fun H1 e => ⟨H, e, h⟩
/-- chains a < b < c -/
def chB (r r' : R2) (x : V) (tc : TE) (σ : St) (Q : VK) : VK := fun y H2 => r x y H2 fun z H3 => ∃ k, z = .bl k ∧ (if k = true then tc σ H3 fun w' H4 => r' y w' H4 Q else Q (.bl false) H3)
def chA (r r' : R2) (tb tc : TE) (σ : St) (Q : VK) : VK := fun x H1 => tb σ H1 (chB r r' x tc σ Q)
theorem up_chain {r r' : R2} {ta tb tc : TE} (k : Up (fun H1 => ta σ H1 (chA r r' tb tc σ Q)) H) : Up (fun H1 => tChain r r' ta tb tc σ H1 Q) H := k
theorem up_chA {r r' : R2} {tb tc : TE} {x : V} (k : Up (fun H1 => tb σ H1 (chB r r' x tc σ Q)) H) : Up (chA r r' tb tc σ Q x) H := k
/-- a <= b <= c of whole numbers, c written -/
theorem up_chI {g g' : Int → Int → Bool} {i j n : Int} (k : Up (Q (.bl (g i j && g' j n))) H) : Up (chB (rI0 fun i j => .bl (g i j)) (rI0 fun i j => .bl (g' i j)) (.int i) (tC (.int n)) σ Q (.int j)) H := fun H1 e => by
  refine ⟨i, j, rfl, rfl, g i j, rfl, ?_⟩
  have h := k H1 e
  cases q : g i j with
  | true =>
    rw [q, Bool.true_and] at h
    show (if true = true then _ else _)
    rw [if_pos rfl]
    exact ⟨j, n, rfl, rfl, h⟩
  | false =>
    rw [q, Bool.false_and] at h
    show (if false = true then _ else _)
    rw [if_neg Bool.false_ne_true]
    exact h
end
/-! ### a Wish -/
abbrev iv : Nat → V := fun n => .int n
def flW (a : Int) (l : Addr) : List (Str × V) := putF "told" (.ref l) (putF "apart" (.int a) [])
theorem w_ne : ¬ (("apart" : Str) = "told") := by decide +kernel
theorem w_ne' : ¬ (("told" : Str) = "apart") := by decide +kernel
theorem flW_apart (a : Int) (l : Addr) : (flW a l).lookup ("apart" : Str) = some (.int a) := by
  unfold flW
  rw [lookup_putF, if_neg w_ne, lookup_putF, if_pos rfl]
theorem flW_told (a : Int) (l : Addr) : (flW a l).lookup ("told" : Str) = some (.ref l) := by
  unfold flW
  rw [lookup_putF, if_pos rfl]
theorem flW_no (a : Int) (l : Addr) {m : Str} (h1 : ¬ m = "told") (h2 : ¬ m = "apart") : (flW a l).lookup m = none := by
  unfold flW
  rw [lookup_putF, if_neg h1, lookup_putF, if_neg h2]
  all_goals rfl
/-- what the walk asks of the class Wish -/
structure Wf (K : PySem.W.Frag) (mg : Str → Option Value) (C : Addr) : Prop where
  cl_Wish : Cls K C
  nA : NoAttr K C "apart"
  nT : NoAttr K C "told"
  g_Wish : mg "Wish" = some (.ref C)
/-- a Wish stands at p: its distance, its counts -/
def WishAt (C : Addr) (H : Hp) (p : Addr) (a : Int) (xs : List Int) : Prop := ∃ dx l, H p = some (.ins C dx (flW a l)) ∧ H l = some (.lst (xs.map V.int))
theorem WishAt.up {C : Addr} {H H' : Hp} {p : Addr} {a : Int} {xs : List Int} (h : WishAt C H p a xs) (e : Same H H') : WishAt C H' p a xs := by
  obtain ⟨dx, l, h1, h2⟩ := h
  exact ⟨dx, l, e _ _ h1, e _ _ h2⟩
/-- a wish that is one -/
def Fine (a : Int) (xs : List Int) : Prop := 1 ≤ xs.length ∧ xs.length ≤ 6 ∧ (∀ x ∈ xs, 0 ≤ x ∧ x ≤ 40) ∧ 0 ≤ a ∧ a ≤ 8
end Kp

namespace Kp
open PySem L2
theorem count_eqU {x : V} : ∀ {xs : List V} {us : List Value}, Vals xs us → xs.all flatV = true → us.countP (eqU x) = xs.countP fun y => eqV y x
  | _, _, .nil, _ => rfl
  | y :: xs, u :: us, .cons r t, f => by
    rw [List.all_cons, Bool.and_eq_true] at f
    rw [List.countP_cons, List.countP_cons, eqU_of r f.1, count_eqU t f.2]
def rCntV (K : PySem.W.Frag) : V → List V → Hp → VK → Prop := fun x vs H Q => ∃ (p : Addr) (xs : List V) (y : V), x = .ref p ∧ vs = [y] ∧ SqL K H p xs ∧ flatV y = true ∧ xs.all flatV = true ∧ Q (.int (xs.countP fun z => eqV z y : Nat)) H
theorem kt_count {K : PySem.W.Frag} {X : Cx} (hk : X.K = K := by rfl) : MtR X "list.count" (rCntV K) := by
  subst hk
  intro pins s σ H x xs v us Q I rx rxs h
  obtain ⟨p, ys, y, rfl, rfl, hs, fy, fs, q⟩ := h
  cases rx
  obtain ⟨u, rfl, ru⟩ := rxs.one
  obtain ⟨its, rv, ⟨⟨cls, dd, data, sl⟩, n, ho, hc, hdn, hd⟩, hlen⟩ := I.list hs
  simp only at hc hd
  subst hc hd
  refine call_meets PySem.F.slot_list_count ⟨_, ho, rfl⟩ PySem.F.entry_list_count (PySem.F.args_list_count_2 _ _)
    (SeqAt.list_countAt p its.toArray n dd sl u (eqU y)) ⟨ho, fun w hw => mem_eqAt ru fy rv fs w (by simpa using hw), ?_⟩
  have ec : its.toArray.toList.countP (eqU y) = ys.countP fun z => eqV z y := count_eqU rv fs
  refine ⟨.int (ys.countP fun z => eqV z y : Nat), H, I.tok _, ⟨s.toks, ?_⟩, q⟩
  show Value.int ((its.toArray.toList.countP (eqU y) : Nat) : Int) s.toks = Value.int ((ys.countP fun z => eqV z y : Nat) : Int) s.toks
  rw [ec]
section
variable {K : PySem.W.Frag} {H : Hp} {Q : VK} {xs : List V} {y : V} {l : Addr}
theorem up_count (h : SqL K H l xs) (fy : flatV y = true) (fs : xs.all flatV = true) (k : Up (Q (.int (xs.countP fun z => eqV z y : Nat))) H) : Up (bmB (rCntV K) (.ref l) Q [y]) H := fun H1 e => ⟨l, xs, y, rfl, rfl, sq_up e h, fy, fs, k H1 e⟩
theorem up_popAt {i : Nat} (h : H l = some (.lst xs)) (hi : i < xs.length) (hz : xs.length ≤ 100000) (k : Up (Q xs[i]) (upd H l (.lst (xs.eraseIdx i)))) : Up (bmB rPopAt (.ref l) Q [.int (i : Int)]) H := fun H1 e =>
  ⟨l, xs, i, i, xs[i], rfl, rfl, e _ _ h, by omega, by omega, (ixN_seq (n := xs.length) (i := (i : Int)) (j := i) (by unfold ixN; rw [if_pos (by omega), if_pos (by omega)]; simp)).1, List.getElem?_eq_getElem hi, k _ (same_upd e)⟩
def rInsZ : V → List V → Hp → VK → Prop := fun x vs H Q => ∃ (l : Addr) (xs : List V) (i : Int) (y : V), x = .ref l ∧ vs = [.int i, y] ∧ H l = some (.lst xs) ∧ xs.length < sizeLine ∧ 0 ≤ i ∧ i < 2 ^ 63 ∧ Q .non (upd H l (.lst (xs.take i.toNat ++ [y] ++ xs.drop i.toNat)))
theorem kt_insert {X : Cx} : MtR X "list.insert" rInsZ := mt_insert
theorem up_insert {i : Nat} (h : H l = some (.lst xs)) (hz : xs.length < 100000) (hi : i ≤ 100000) (k : Up (Q .non) (upd H l (.lst (xs.take i ++ [y] ++ xs.drop i)))) : Up (bmB rInsZ (.ref l) Q [.int (i : Int), y]) H := fun H1 e =>
  ⟨l, xs, i, y, rfl, rfl, e _ _ h, szl hz, by omega, by omega, k _ (same_upd e)⟩
theorem up_index {j : Nat} {z : V} (h : SqL K H l xs) (fy : flatV y = true) (fs : xs.all flatV = true) (hz : xs[j]? = some z) (he : eqV z y = true) (hn : ∀ (m : Nat) (z' : V), m < j → xs[m]? = some z' → eqV z' y = false) (k : Up (Q (.int (j : Nat))) H) : Up (bmB (rIndex K) (.ref l) Q [y]) H :=
  fun H1 e => ⟨l, xs, y, j, z, rfl, rfl, sq_up e h, fy, fs, hz, he, hn, k H1 e⟩
end
theorem kp_bm {K : PySem.W.Frag} {X : Cx} {o e : Expr} {es : List Expr} {to : TE} {t : TA} {r : V → List V → Hp → VK → Prop} {T name id : String} {apos cpos : Pos} (pa : PlainAttrs T) (slot : Slot T name id) (hty : typeOf (.builtin id) = pure (.type "method_descriptor")) (hm : MtR X id r) (ho : PE X o to) (ha : PA X (e :: es) t)
    (hk : X.K = K := by rfl) (hbase : attributeBase o name X.env (eval o X.env) = eval o X.env := by rfl)
    (hfew : ((backTo cpos (starEach (e :: es) X.env)).all (fun x => !x.1) && (backToKw cpos (keywordEach [] X.env)).all (fun x => x.1.isSome)
      && decide ((e :: es).length + ([] : List Keyword).length + (if ([] : List Keyword).isEmpty then 0 else 1) < 30)) = true := by rfl)
    (hline : (apos.endLine == cpos.line) = true := by rfl) (hs : starEach (e :: es) X.env = (false, eval e X.env) :: starEach es X.env := by rfl) (hplain : (backTo cpos (starEach es X.env)).any (·.1) = false := by rfl) :
    PE X (.Call (.Attribute o name apos) (e :: es) [] cpos) (tBM K T r to t) := by
  subst hk
  exact pe_bm pa slot hty hm ho ha hbase hfew hline hs hplain
theorem ko_in {K : PySem.W.Frag} {X : Cx} (hk : X.K = K := by rfl) : OpR X (compareOp .In) (rIn K false) := by subst hk; exact op_in_seq
theorem ko_notIn {K : PySem.W.Frag} {X : Cx} (hk : X.K = K := by rfl) : OpR X (compareOp .NotIn) (rIn K true) := by subst hk; exact op_notIn_seq
theorem ko_ixL {K : PySem.W.Frag} {X : Cx} (hk : X.K = K := by rfl) : IxR X (rIxL K) := by subst hk; exact ix_list
theorem ko_ixT {K : PySem.W.Frag} {X : Cx} (hk : X.K = K := by rfl) : IxR X (rIxT K) := by subst hk; exact ix_tup
theorem ko_len {K : PySem.W.Frag} {X : Cx} (hk : X.K = K := by rfl) : CallR X (.builtin "len") (rLen K) := by subst hk; exact kc_len
theorem up_anyT {u : TT} {σ : St} {QB : Bool → Hp → Prop} {H : Hp} (P : Bool → Prop) (he : ∀ QB : Bool → Hp → Prop, (∀ b, P b → Up (QB b) H) → Up (fun H1 => u σ H1 QB) H) (k : ∀ b, P b → Up (QB b) H) : Up (fun H1 => u σ H1 QB) H := he QB k
theorem ko_fld {K : PySem.W.Frag} {X : Cx} {e : Expr} {ta : TE} {f : Str} {pos : Pos} (he : PE X e ta) (hb : attributeBase e f X.env (eval e X.env) = eval e X.env) (hk : X.K = K := by rfl) : PE X (.Attribute e f pos) (tFld K ta f) := by subst hk; exact pe_fld he hb
end Kp

namespace Kp
open PySem L2
def rMaxDk : List V → List V → Hp → VK → Prop := fun vs zs H Q => ∃ (a : Addr) (kvs : List (Key × V)) (js : List Int) (d : Int), vs = [.ref a] ∧ zs = [.int d] ∧ H a = some (.dK kvs) ∧ kvs.map Prod.fst = js.map Sum.inl ∧ (js = [] → Q (.int d) H) ∧ (∀ m, m ∈ js → (∀ y ∈ js, y ≤ m) → Q (.int m) H)
theorem argmax_in {js : List Int} {n : Nat} (hn : n = js.length) (hp : 0 < n) : js.getD (argBest (fun i j => decide (js.getD i 0 > js.getD j 0)) (n - 1)) 0 ∈ js ∧ ∀ y ∈ js, y ≤ js.getD (argBest (fun i j => decide (js.getD i 0 > js.getD j 0)) (n - 1)) 0 := by
  obtain ⟨m1', m2'⟩ := argBest_gt (fun i => js.getD i 0) (n - 1)
  have m1 : argBest (fun i j => decide (js.getD i 0 > js.getD j 0)) (n - 1) ≤ n - 1 := m1'
  have m2 : ∀ j, j ≤ n - 1 → js.getD j 0 ≤ js.getD (argBest (fun i j => decide (js.getD i 0 > js.getD j 0)) (n - 1)) 0 := m2'
  generalize argBest (fun i j => decide (js.getD i 0 > js.getD j 0)) (n - 1) = t at m1 m2
  refine ⟨?_, fun y hy => ?_⟩
  · rw [List.getD_eq_getElem?_getD, List.getElem?_eq_getElem (by omega)]
    exact List.getElem_mem _
  · obtain ⟨i, hi, e⟩ := List.mem_iff_getElem.mp hy
    have h := m2 i (by omega)
    rw [List.getD_eq_getElem?_getD, List.getElem?_eq_getElem hi] at h
    rw [← e]
    exact h
theorem cr_maxDk {X : Cx} (hc : X.calm = true) : CallRK X (.builtin "max") [Str.ofString "default"] rMaxDk := by
  intro pins s σ H xs zs us ws Q I rx rz h
  obtain ⟨a, kvs, js, d, rfl, rfl, hd, hk, q0, q1⟩ := h
  rw [Vals.ref1 rx]
  obtain ⟨u, rfl, ru⟩ := rz.one
  obtain ⟨hz, hsm, vs, rel, hdo⟩ := dk_of I.hok hd
  obtain ⟨ep, hda⟩ : ∃ ep, s.heap.DictAt (mixKind X.prog X.w) a vs ep := by
    obtain ⟨o, es, n, h1, h2, h3, h4⟩ := hdo
    exact ⟨n, o, es, h1, h2, h3, h4⟩
  have ha : a < s.heap.objs.size := by
    obtain ⟨o, es, h1, _⟩ := hda
    exact Heap.lt_size h1
  have hlen : vs.length = js.length := by
    have e := congrArg List.length hk
    rw [List.length_map, List.length_map] at e
    rw [← rel.length]
    exact e
  have hks : vs.map Prod.fst = js.map Sum.inl := by rw [← hk]; exact rel.keys.symm
  have hval : ∀ (i : Nat) (v : Value), (∃ k x, vs[i]? = some (k, x) ∧ (mixKind X.prog X.w).is k v = true) → ∃ t, v = .int (js.getD i 0) t := fun i v ⟨k, x, e, e2⟩ => by
    have h1 : (vs.map Prod.fst)[i]? = some k := by rw [List.getElem?_map, e]; rfl
    rw [hks, List.getElem?_map] at h1
    cases ej : js[i]? with
    | none => rw [ej] at h1; cases h1
    | some j =>
      rw [ej] at h1
      have h2 : Sum.inl j = k := Option.some.inj h1
      subst h2
      obtain ⟨t, e4⟩ := Value.isInt_shape (show Value.isInt j v = true from e2)
      rw [List.getD_eq_getElem?_getD, ej]
      exact ⟨t, e4⟩
  show wpAny _ _ (call (.builtin "max") [.ref a] [(Str.ofString "default", u)]) _ _ _
  refine call_max_walkD ?_
  refine wpAny_pyIter_dict hsm hda ?_
  have hh : X.A.in1.handled = none := I.ok.hd hc
  refine ⟨s.heap.objs.size, [s.heap.objs.size, a], [s.heap.objs.size], _, vs.length, _, _, s.heap, fun i j => decide (js.getD i 0 > js.getD j 0), rfl, (Walks.dictKeys (knd := mixKind X.prog X.w) hh s.heap.objs.size a (Nat.ne_of_lt ha) vs ep).toS, ?_, fun b hb => ?_, fun b o e hb => ?_, fun b o e => Heap.get?_push_of_some _ e, fun hz s' m => ?_, fun hp => ⟨?_, fun v s' hP m => ?_⟩⟩
  · exact ⟨⟨_, Heap.get?_push_size _ rfl, rfl, rfl⟩, hda.at' fun o e => Heap.get?_push_of_some _ e⟩
  · show b < (s.heap.push _).objs.size
    rw [Heap.size_push]
    rcases List.mem_cons.mp hb with rfl | hb
    · exact Nat.lt_succ_self _
    · rcases List.mem_cons.mp hb with rfl | hb
      · exact Nat.lt_succ_of_lt ha
      · cases hb
  · exact absurd (Heap.lt_size e) ((List.mem_singleton.mp hb) ▸ Nat.lt_irrefl _)
  · obtain ⟨h', tk, rfl, hk'⟩ := PySem.W.moved_old rfl rfl m
    have hj : js = [] := List.eq_nil_of_length_eq_zero (by omega)
    exact ⟨.int d, H, I.kept hk', ru, q0 hj⟩
  · exact fun i j vi vj s' Q E _ hi hj hq => CmpOf.ints_gt (fun i => js.getD i 0) hval i j vi vj s' Q E hi hj hq
  · obtain ⟨h', tk, rfl, hk'⟩ := PySem.W.moved_old rfl rfl m
    obtain ⟨t, rfl⟩ := hval _ v hP
    have am := argmax_in (js := js) hlen (by omega)
    exact ⟨.int _, H, I.kept hk', ⟨_, rfl⟩, q1 _ am.1 am.2⟩
section
variable {K : PySem.W.Frag} {H : Hp} {σ : St} {Q : VK} {tr tk : TA} {r : List V → List V → Hp → VK → Prop} {vs zs : List V}
def ckB (r : List V → List V → Hp → VK → Prop) (vs : List V) (Q : VK) : List V → Hp → Prop := fun zs H2 => r vs zs H2 Q
def ckA (r : List V → List V → Hp → VK → Prop) (tk : TA) (σ : St) (Q : VK) : List V → Hp → Prop := fun vs H1 => tk σ H1 (ckB r vs Q)
theorem up_CK (k : Up (fun H1 => tr σ H1 (ckA r tk σ Q)) H) : Up (fun H1 => tCKw r tr tk σ H1 Q) H := k
theorem up_ckA (k : Up (fun H1 => tk σ H1 (ckB r vs Q)) H) : Up (ckA r tk σ Q vs) H := k
theorem up_maxDk {a : Addr} {kvs : List (Key × V)} {js : List Int} {d : Int} (h : H a = some (.dK kvs)) (hk : kvs.map Prod.fst = js.map Sum.inl) (k0 : js = [] → Up (Q (.int d)) H) (k1 : ∀ m, m ∈ js → (∀ y ∈ js, y ≤ m) → Up (Q (.int m)) H) : Up (ckB rMaxDk [.ref a] Q [.int d]) H :=
  fun H1 e => ⟨a, kvs, js, d, rfl, rfl, e _ _ h, hk, fun z => k0 z H1 e, fun m h1 h2 => k1 m h1 h2 H1 e⟩
theorem up_maxDz {a : Addr} {kvs : List (Key × V)} {js : List Int} {d : Int} (z : Int) (h : H a = some (.dK kvs)) (hk : kvs.map Prod.fst = js.map Sum.inl) (k0 : js = [] → d = z) (k1 : ∀ m, m ∈ js → (∀ y ∈ js, y ≤ m) → m = z) (k : Up (Q (.int z)) H) : Up (ckB rMaxDk [.ref a] Q [.int d]) H :=
  up_maxDk h hk (fun e => k0 e ▸ k) fun m h1 h2 => (k1 m h1 h2).symm ▸ k
end
theorem up_isB {a b : Bool} {H : Hp} {Q : VK} (k : Up (Q (.bl (decide (a = b)))) H) : Up (fun H1 => rIsB (.bl a) (.bl b) H1 Q) H := fun H1 e => ⟨a, b, rfl, rfl, k H1 e⟩
theorem up_notB {a b : Bool} {H : Hp} {Q : VK} (k : Up (Q (.bl (!decide (a = b)))) H) : Up (fun H1 => rNotB (.bl a) (.bl b) H1 Q) H := fun H1 e => ⟨a, b, rfl, rfl, k H1 e⟩
/-! ### a Line -/
def flL (a : Int) (d l : Addr) : List (Str × V) := putF "came" (.ref l) (putF "held" (.ref d) (putF "apart" (.int a) []))
theorem l_ne1 : ¬ (("apart" : Str) = "came") := by decide +kernel
theorem l_ne2 : ¬ (("apart" : Str) = "held") := by decide +kernel
theorem l_ne3 : ¬ (("held" : Str) = "came") := by decide +kernel
theorem flL_apart (a : Int) (d l : Addr) : (flL a d l).lookup ("apart" : Str) = some (.int a) := by
  unfold flL
  rw [lookup_putF, if_neg l_ne1, lookup_putF, if_neg l_ne2, lookup_putF, if_pos rfl]
theorem flL_held (a : Int) (d l : Addr) : (flL a d l).lookup ("held" : Str) = some (.ref d) := by
  unfold flL
  rw [lookup_putF, if_neg l_ne3, lookup_putF, if_pos rfl]
theorem flL_came (a : Int) (d l : Addr) : (flL a d l).lookup ("came" : Str) = some (.ref l) := by
  unfold flL
  rw [lookup_putF, if_pos rfl]
structure Lf (K : PySem.W.Frag) (mg : Str → Option Value) (C : Addr) : Prop where
  cl_Line : Cls K C
  nA : NoAttr K C "apart"
  nH : NoAttr K C "held"
  nC : NoAttr K C "came"
  g_Line : mg "Line" = some (.ref C)
/-- the things that came: kind and place -/
abbrev Cs := List (Nat × Nat)
def kvOf (cs : Cs) : List (Key × V) := cs.map fun c => (Sum.inl (c.2 : Int), V.int (c.1 : Int))
structure LineA (C : Addr) (H : Hp) (p dx d l : Addr) (a : Int) (cs : Cs) : Prop where
  hp : H p = some (.ins C dx (flL a d l))
  hd : H d = some (.dK (kvOf cs))
  ht : ∃ rs : List Addr, rs.length = cs.length ∧ H l = some (.lst (rs.map V.ref)) ∧ ∀ (i : Nat) (r : Addr) (c : Nat × Nat), rs[i]? = some r → cs[i]? = some c → H r = some (.tup [.int (c.1 : Int), .int (c.2 : Int)])
  nd : (cs.map Prod.snd).Nodup
theorem LineA.up {C : Addr} {H H' : Hp} {p dx d l : Addr} {a : Int} {cs : Cs} (h : LineA C H p dx d l a cs) (e : Same H H') : LineA C H' p dx d l a cs := by
  obtain ⟨hp, hd, ⟨rs, h1, h2, h3⟩, nd⟩ := h
  exact ⟨e _ _ hp, e _ _ hd, ⟨rs, h1, e _ _ h2, fun i r c q w => e _ _ (h3 i r c q w)⟩, nd⟩
/-- what stood, stands, but for the two -/
def Sbut (d l : Addr) (H H' : Hp) : Prop := ∀ b u, b ≠ d → b ≠ l → H b = some u → H' b = some u
theorem LineA.other {C : Addr} {H H' : Hp} {p dx d l d' l' : Addr} {a : Int} {cs : Cs} (h : LineA C H p dx d l a cs) (n1 : d ≠ d') (n2 : l ≠ l') (hd' : ∃ kv, H d' = some (.dK kv)) (hl' : ∃ xs, H l' = some (.lst xs)) (e : Sbut d' l' H H') : LineA C H' p dx d l a cs := by
  obtain ⟨hp, hd, ⟨rs, h1, h2, h3⟩, nd⟩ := h
  obtain ⟨kv, hd'⟩ := hd'
  obtain ⟨xs, hl'⟩ := hl'
  have ne : ∀ {b u}, H b = some u → (∀ kv, u ≠ .dK kv) → (∀ xs, u ≠ .lst xs) → H' b = some u := fun {b u} hb c1 c2 => e b u (fun z => by rw [z, hd'] at hb; exact c1 _ (Option.some.inj hb).symm) (fun z => by rw [z, hl'] at hb; exact c2 _ (Option.some.inj hb).symm) hb
  refine ⟨ne hp (fun _ z => by cases z) (fun _ z => by cases z), e d _ n1 (fun z => by rw [z, hl'] at hd; cases hd) hd, ⟨rs, h1, e l _ (fun z => by rw [z, hd'] at h2; cases h2) n2 h2, fun i r c q w => ne (h3 i r c q w) (fun _ z => by cases z) (fun _ z => by cases z)⟩, nd⟩
end Kp

namespace Kp
open PySem L2
/-! ### max(list, default=) -/
def rMaxLd (K : PySem.W.Frag) : List V → List V → Hp → VK → Prop := fun vs zs H Q => ∃ (a : Addr) (js : List Int) (d : Int), vs = [.ref a] ∧ zs = [.int d] ∧ SqL K H a (js.map V.int) ∧ (js = [] → Q (.int d) H) ∧ (∀ m, m ∈ js → (∀ y ∈ js, y ≤ m) → Q (.int m) H)
theorem cr_maxLd {K : PySem.W.Frag} {X : Cx} (hc : X.calm = true) (hk : X.K = K := by rfl) : CallRK X (.builtin "max") [Str.ofString "default"] (rMaxLd K) := by
  subst hk
  intro pins s σ H xs zs us ws Q I rx rz h
  obtain ⟨a, js, d, rfl, rfl, hs, q0, q1⟩ := h
  rw [Vals.ref1 rx]
  obtain ⟨u, rfl, ru⟩ := rz.one
  obtain ⟨its, rv, hpl, _⟩ := I.list hs
  have hl := hpl.isList
  have hlen : its.toArray.size = js.length := by
    have e := rv.length
    rw [List.length_map] at e
    rw [List.size_toArray]
    exact e.symm
  have hval : ∀ (i : Nat) (v : Value), its.toArray[i]? = some v → ∃ t, v = .int (js.getD i 0) t := fun i v e => by
    have e1 : its[i]? = some v := by simpa using e
    have hi := (List.getElem?_eq_some_iff.mp e1).1
    have hj : i < js.length := by rw [List.size_toArray] at hlen; omega
    obtain ⟨u2, hu2, ru2⟩ := rv.get (i := i) (x := V.int js[i]) (by rw [List.getElem?_map, List.getElem?_eq_getElem hj]; rfl)
    rw [e1] at hu2
    have e2 := Option.some.inj hu2
    subst e2
    rw [List.getD_eq_getElem?_getD, List.getElem?_eq_getElem hj]
    exact ru2
  have hh : X.A.in1.handled = none := I.ok.hd hc
  show wpAny _ _ (call (.builtin "max") [.ref a] [(Str.ofString "default", u)]) _ _ _
  refine call_max_walkD (PySem.W.iter_listW (A := X.A.in1) hh hl fun s₂ e W st hfp hw hk => ?_)
  refine ⟨_, _, _, _, _, _, _, s.heap, fun i j => decide (js.getD i 0 > js.getD j 0), rfl, W, st, hfp, hw, hk, fun hz s' m => ?_, fun hp => ⟨fun i j vi vj s' Q E _ hi hj hq => CmpOf.ints_gt (fun i => js.getD i 0) hval i j vi vj s' Q E hi hj hq, fun v s' hP m => ?_⟩⟩
  · obtain ⟨h', tk, rfl, hk'⟩ := PySem.W.moved_old e rfl m
    have hj : js = [] := List.eq_nil_of_length_eq_zero (by omega)
    exact ⟨.int d, H, I.kept hk', ru, q0 hj⟩
  · obtain ⟨h', tk, rfl, hk'⟩ := PySem.W.moved_old e rfl m
    obtain ⟨t, rfl⟩ := hval _ v hP
    have am := argmax_in (js := js) hlen (by omega)
    exact ⟨.int _, H, I.kept hk', ⟨_, rfl⟩, q1 _ am.1 am.2⟩
section
variable {K : PySem.W.Frag} {H : Hp} {σ : St} {Q : VK}
theorem up_maxLz {a : Addr} {js : List Int} {d : Int} (z : Int) (h : SqL K H a (js.map V.int)) (k0 : js = [] → d = z) (k1 : ∀ m, m ∈ js → (∀ y ∈ js, y ≤ m) → m = z) (k : Up (Q (.int z)) H) : Up (ckB (rMaxLd K) [.ref a] Q [.int d]) H :=
  fun H1 e => ⟨a, js, d, rfl, rfl, sq_up e h, fun z' => k0 z' ▸ k H1 e, fun m h1 h2 => (k1 m h1 h2).symm ▸ k H1 e⟩
end
/-! ### a method that may raise -/
def tMtS (C : Addr) (m : Str) (sp : Sp) (E : St → XK) (ta : TE) (t : TA) : TE := fun σ H Q => ta σ H fun x H1 => ∃ a dx fs, x = .ref a ∧ H1 a = some (.ins C dx fs) ∧ fs.lookup m = none ∧ t σ H1 fun vs H2 => sp (x :: vs) H2 Q (E σ)
section
variable {X : Cx} {W : WX} {C : Addr} {m : Str} {k i : Nat} {ps : List Str} {sp : Sp} {o : Expr} {ta : TE} {apos pos : Pos}
theorem kp_meth0X (c : Mt X.prog X.w X.K X.mg X.base (L2.CX X.prog X.w) k C m ps sp) (tk : Takes X W) (cl : Cls X.K C) (hr : Room i X.A) (hk : k ≤ i) (he : PE X o ta) {pl : Sem Bool}
    (ht : eval (.Call (.Attribute o m apos) [] [] pos) X.env = (do
      let ov ← eval o X.env
      standAt apos.atName
      let (f, first) ← holding [ov] (getMethod ov m pl)
      callWith pos f first (backTo pos (starEach [] X.env)) (backToKw pos (keywordEach [] X.env))) := by rfl) :
    PE X (.Call (.Attribute o m apos) [] [] pos) (tMtS C m sp (WE W) ta tNil) := by
  obtain ⟨f, fd, F, hm, b⟩ := c.ex
  refine ⟨fun pins s σ H Q I h => ?_⟩
  refine PySem.W.methodCall_KW (pl := pl) (thn (he.run pins s σ H _ I h) fun u s1 ⟨x, H1, I1, rx, a, dx, fs, ex, ea, l, q⟩ => ?_) ht
  subst ex
  obtain rfl : u = Value.ref a := rx
  refine getmeth_ok I1 ea cl hm l ?_
  exact PySem.W.callWith_K0 (first := [.ref a]) I1.kIn hm.kp (run_fnS (us := [.ref a]) (vs := [.ref a]) F (hr.mono hk) b (passAt tk σ) I1 (.cons rfl .nil) q)
end
section
variable {K : PySem.W.Frag} {H : Hp} {σ : St} {Q : VK} {C : Addr} {m : Str} {te : TE} {tr : TA} {x : V} {vs : List V} {a dx : Addr} {fs : List (Str × V)} {EK : XK}
def msB (sp : Sp) (EK : XK) (x : V) (Q : VK) : List V → Hp → Prop := fun vs H2 => sp (x :: vs) H2 Q EK
def msA (C : Addr) (m : Str) (sp : Sp) (EK : XK) (tr : TA) (σ : St) (Q : VK) : VK := fun x H1 => ∃ a dx fs, x = .ref a ∧ H1 a = some (.ins C dx fs) ∧ fs.lookup m = none ∧ tr σ H1 (msB sp EK x Q)
theorem up_mtS {sp : Sp} {ES : St → XK} (k : Up (fun H1 => te σ H1 (msA C m sp (ES σ) tr σ Q)) H) : Up (fun H1 => tMtS C m sp ES te tr σ H1 Q) H := k
theorem up_msA {sp : Sp} (h : H a = some (.ins C dx fs)) (hl : fs.lookup m = none) (k : Up (fun H1 => tr σ H1 (msB sp EK (.ref a) Q)) H) : Up (msA C m sp EK tr σ Q (.ref a)) H := fun H1 e => ⟨a, dx, fs, rfl, e _ _ h, hl, k H1 e⟩
theorem up_msB {F : List V → Hp → VK → XK → Prop} (h : F (x :: vs) H Q EK) : Up (msB (KSx F) EK x Q vs) H := fun H1 e => ⟨H, e, h⟩
end
/-! ### try -/
def tTry (K : PySem.W.Frag) (c : Value) (i : Nat) (tb : WX → TS) (ts : Addr → Value → Option Addr → TS) (Wout : WX) : TS := fun D σ H => tb (wAs K c i ts Wout D) D σ H
section
variable {X : Cx} {x n : Str} {c : Value} {i : Nat} {body suite : List Stmt} {b₀ : Stmt} {np pos pos' : Pos} {tb : WX → TS} {ts : Addr → Value → Option Addr → TS} {Wout : WX}
theorem kp_try {K : PySem.W.Frag} (hs : X.stack = X.env :: X.outer) (hf : X.env.frame = some X.env.locals) (hN : X.N.Nodup) (hi : X.N[i]? = some n) (hln : X.env.kindOf n = some .local) (hc : Names X x c) (tk : Takes X Wout)
    (hb : ∀ (W : WX) (pn : List (Addr × Obj)) (xe : Value → Shared → Prop), Takes (X.tr pn xe) W → PassesOwn (model X.prog X.w) X.A X.env xe → PSs (X.tr pn xe) body (tb W))
    (hsu : ∀ (a : Addr) (oe : Obj) (cls : Value) (d : Option Addr) (pn : List (Addr × Obj)), Zc cls d oe → (∃ vs, oe.data = .fields vs) → PSs (X.suite a ((a, oe) :: pn)) (b₀ :: suite) (ts a cls d)) (hk : X.K = K := by rfl) :
    PS X (.Try body [.ExceptHandler (some (.Name x np)) (some n) (b₀ :: suite) pos'] [] [] pos) (tTry K c i tb ts Wout) := by
  subst hk
  exact ps_try_as hs hf hN hi hln hc tk hb hsu
/-- isinstance(e, c) in the suite -/
def rIsX (K : PySem.W.Frag) (cls : Value) (d : Option Addr) (a : Addr) : List V → Hp → VK → Prop := fun xs H Q => ∃ D, cls = .ref D ∧ d = none ∧ ExcC K D ∧ rIsE K D a xs H Q
theorem cr_isX {K : PySem.W.Frag} {a : Addr} {oe : Obj} {cls : Value} {d : Option Addr} {pn : List (Addr × Obj)} (hz : Zc cls d oe) (hf : ∃ vs, oe.data = .fields vs) (hk : X.K = K := by rfl) : CallR (X.suite a ((a, oe) :: pn)) (.builtin "isinstance") (rIsX K cls d a) := by
  subst hk
  intro pins s σ H xs us Q I r h
  obtain ⟨D, rfl, rfl, C, h⟩ := h
  exact call_isE C hz hf pins s σ H xs us Q I r h
end
section
variable {K : PySem.W.Frag} {H : Hp} {σ : St} {Q : VK} {c cls : Value} {i : Nat} {tb : WX → TS} {ts : Addr → Value → Option Addr → TS} {Wout : WX} {n bk ct : St → Hp → Prop} {r : VK} {d : Option Addr}
theorem up_try (k : Up (tb (wAs K c i ts Wout (Ends.mk n r bk ct)) (Ends.mk n r bk ct) σ) H) : Up (tTry K c i tb ts Wout (Ends.mk n r bk ct) σ) H := k
def unE (n : St → Hp → Prop) (i : Nat) : St → Hp → Prop := fun σ' H' => n (σ'.set i none) H'
theorem up_unE (k : Up (n (σ.set i none)) H) : Up (unE n i σ) H := k
theorem up_caught (hx : PySem.W.exmOne K cls c = some true) (k : ∀ a, H a = none → Up (ts a cls d (Ends.mk (unE n i) r (unE bk i) (unE ct i)) (σ.set i (some (.ref a)))) H) : Up (WE (wAs K c i ts Wout (Ends.mk n r bk ct)) σ cls d) H := fun H1 e =>
  ⟨true, hx, fun _ a ha => k a (e.free ha) H1 e, fun z => by cases z⟩
theorem up_caughtW (hx : PySem.W.exmOne K cls c = some true) (k : ∀ a, H a = none → Up (ts a cls d (Ends.mk (unE n i) r (unE bk i) (unE ct i)) (σ.set i (some (.ref a)))) H) : Up (fun H1 => wAs K c i ts Wout (Ends.mk n r bk ct) cls d σ H1) H := up_caught hx k
end
/-- what the suite asks of the caught class: D itself, and of each class that is named -/
structure Fm (K : PySem.W.Frag) (mg : Str → Option Value) (D : Addr) (x : Str) (C : Addr) (b : Bool) : Prop where
  g : mg x = some (.ref C)
  hd : PySem.W.hasDictIn K C = true
  ty : PySem.W.typeIn K (.ref C) = some (.type "type")
  be : PySem.W.subIn K (.ref C) (.type "BaseException") = some true
  su : PySem.W.subIn K (.ref D) (.ref C) = some b
theorem Fm.exm {K : PySem.W.Frag} {mg : Str → Option Value} {D C : Addr} {x : Str} {b : Bool} (h : Fm K mg D x C b) : PySem.W.exmOne K (.ref D) (.ref C) = some b := PySem.W.exm_ref h.be h.hd h.ty h.su
theorem Fm.kit {K : PySem.W.Frag} {mg : Str → Option Value} {D C : Addr} {x : Str} {b : Bool} (hs : PySem.W.subIn K (.ref D) (.ref D) = some true) (h : Fm K mg D x C b) : PySem.W.kitOne K (.ref D) (.ref C) = some b := by
  have e := h.exm
  unfold PySem.W.exmOne at e
  rw [h.be, if_pos (by rfl)] at e
  unfold PySem.W.kitOne
  by_cases hh : (Value.ref D == Value.ref C) = true
  · rw [if_pos hh]
    have e2 : Value.ref D = Value.ref C := by simpa using hh
    have e3 := h.su
    rw [← e2, hs] at e3
    exact e3
  · rw [if_neg hh]
    exact e
structure Xf (K : PySem.W.Frag) (D : Addr) : Prop where
  cc : ExcC K D
  ss : PySem.W.subIn K (.ref D) (.ref D) = some true
  va : PySem.W.subIn K (.ref D) (.type "ValueError") = some true
theorem Xf.kitV {K : PySem.W.Frag} {D : Addr} (h : Xf K D) : PySem.W.kitOne K (.ref D) (.type "ValueError") = some true := by
  unfold PySem.W.kitOne
  have e : (Value.ref D == Value.type "ValueError") = false := rfl
  rw [e, if_neg Bool.false_ne_true]
  show (if PySem.W.kitMeta "ValueError" = true then PySem.W.subIn K (.ref D) (.type "ValueError") else none) = some true
  rw [if_pos (by decide +kernel)]
  exact h.va
section
variable {K : PySem.W.Frag} {mg : Str → Option Value} {H : Hp} {Q : VK} {D C a : Addr} {x : Str} {b : Bool}
theorem up_isX (X : Xf K D) (h : Fm K mg D x C b) (k : Up (Q (.bl b)) H) : Up (blK (rIsX K (.ref D) none a) Q [.ref a, .ref C]) H := fun H1 e => ⟨D, rfl, rfl, X.cc, .ref C, .ref C, b, rfl, fun u r => by cases r; rfl, h.kit X.ss, k H1 e⟩
theorem up_isXV (X : Xf K D) (k : Up (Q (.bl true)) H) : Up (blK (rIsX K (.ref D) none a) Q [.ref a, .ty "ValueError"]) H := fun H1 e => ⟨D, rfl, rfl, X.cc, .ty "ValueError", .type "ValueError", true, rfl, fun u r => by cases r; rfl, X.kitV, k H1 e⟩
end
end Kp

namespace Kp
open PySem PySem.Spec PyProof.Rows L2
/-- p is what was caught: its class, its fields -/
def Cau (cls : Value) (d : Option Addr) (p : Addr × Obj) : Prop := Zc cls d p.2 ∧ ∃ vs, p.2.data = .fields vs
abbrev SpZ := Addr → Value → Option Addr → Sp
structure FnZ (P : Program) (w : World) (K : PySem.W.Frag) (mg : Str → Option Value) (base : Heap) (k : Nat) (f : Addr) (fd : FuncData) (ps : List Str) (sp : SpZ) : Prop where
  len : ∀ a cls d vs H Q E, sp a cls d vs H Q E → vs.length = ps.length
  run : ∀ (A : Around) (outer : List Env) (s : Shared) (H : Hp) (args : Args) (us : List Value) (vs : List V) (Q : VK) (E : XK) (p : Addr × Obj) (cls : Value) (d : Option Addr), L2H.RoomH k A → Cau cls d p → L2H.PinOk outer H s p → Env0 P w K mg base A outer s H → BindsTo s fd args (ps.zip us) → Vals vs us → sp p.1 cls d vs H Q E →
    codeAny (model P w) A (.call (.ref f) args) (CR CX0 outer P w H s Q E) s
theorem fn_ofZ {P : Program} {w : World} {K : PySem.W.Frag} {mg : Str → Option Value} {base : Heap} {k : Nat} {f : Addr} {name qual : Str} {params : Arguments} {body : List Stmt} {scope : Scope} {dV kV doc pm cdv ct oc : Value} {an od : Option Addr}
    {osl : Array (Option Value)} {N ps : List Str} {sp : SpZ} (lk : K.lookup f = some ⟨oc, od, .func (PySem.W.fnOf name qual params body scope dV kV doc pm an cdv ct), osl⟩) (hcd : PySem.W.codeIn K cdv qual = true) (S : FnScope N ps scope)
    (len : ∀ a cls d vs H Q E, sp a cls d vs H Q E → vs.length = ps.length)
    (hbody : ∀ (A : Around) (outer : List Env) (s : Shared) (H : Hp) (vs : List V) (Q : VK) (E : XK) (p : Addr × Obj) (cls : Value) (d : Option Addr), Cau cls d p → L2H.RoomH k (A.deeper (envOfC qual scope s.heap.objs.size f cdv)) → sp p.1 cls d vs H Q E →
      ∃ t, PSs (L2H.cxH CX0 P w K mg base N qual scope f cdv A outer s H E p) body t ∧ t { nx := fun _ H' => Q .non H', rt := Q } (L2.start N vs) H) :
    FnZ P w K mg base (k + 1) f (PySem.W.fnOf name qual params body scope dV kV doc pm an cdv ct) ps sp := by
  refine ⟨len, fun A outer s H args us vs Q E p cls d hr hot hpin e0 hb r hsp => ?_⟩
  have hl := len _ _ _ _ _ _ _ hsp
  have KX : K.In s.heap := e0.mod.kin.keeps fun b o e => (e0.bs b o e).1
  have lim : s.heap.NoLimit := e0.mod.nolimit.keeps fun b o e => (e0.bs b o e).1
  have hkind : ∀ y ∈ ps.zip us, scope.names.lookup y.1 = some .local ∨ (scope.names.lookup y.1 = some .cell ∧ ((cellsFrom (s.heap.objs.size + 1) scope.names []).lookup y.1).isSome = true) := fun ⟨n, v⟩ hy => by
    rcases S.par n (List.of_mem_zip hy).1 with q | q
    · exact .inl q
    · exact .inr ⟨q, PySem.W.cellsFrom_some _ _ _ (.inl q)⟩
  refine codeAny_call_function hr.depth (KX _ _ lk) rfl S.co S.gen rfl (PySem.W.codeRec_of KX hcd) (hb _ _ _ _ ?_)
  refine wpAny_newFunctionEnv_cells S.kind hkind fun env he s1 x => ?_
  subst he
  refine ⟨lim.keeps x.toInCall.keep, codeAny_func ?_⟩
  obtain ⟨t, ht, hq⟩ := hbody A outer s H vs Q E p cls d hot (hr.deeper _) hsp
  have I : Inv (L2H.cxH CX0 P w K mg base N qual scope f cdv A outer s H E p) [] (L2.start N vs) H s1 := L2H.inv_startH S hpin e0 hl r x
  refine wpAny_mono (ht.run [] s1 (L2.start N vs) H _ I hq) (fun fl s' hs => ?_) fun e s' hs => hs
  have fin : ∀ {σ' : L2.St} {H' : Hp} {v : V} {u : Value}, Inv (L2H.cxH CX0 P w K mg base N qual scope f cdv A outer s H E p) [] σ' H' s' → RelV v u → Q v H' → CE outer P w H s Q u s' :=
    fun {σ' H' v u} J rv q => ⟨v, H', J.os, J.bare, J.base, J.hok, rv, q⟩
  cases fl with
  | ret u =>
    obtain ⟨v, σ', H', J, rv, q⟩ := hs
    exact fin J rv q
  | next =>
    obtain ⟨σ', H', J, q⟩ := hs
    exact fin (v := V.non) (u := Value.none) J rfl q
  | brk =>
    obtain ⟨_, _, _, q⟩ := hs
    exact False.elim q
  | cont =>
    obtain ⟨_, _, _, q⟩ := hs
    exact False.elim q
theorem okZ {P : Program} {w : World} {K : PySem.W.Frag} {mg : Str → Option Value} {base : Heap} {x qual : Str} {st : Stmt} {f : Addr} {fd : FuncData} {N ps : List Str} {k : Nat} {sp : SpZ} (F : Fun K x qual st f fd) (S : FnScope N ps (defScope st)) (len : ∀ a cls d vs H Q E, sp a cls d vs H Q E → vs.length = ps.length)
    (hbody : ∀ (cdv : Value) (A : Around) (outer : List Env) (s : Shared) (H : Hp) (vs : List V) (Q : VK) (E : XK) (p : Addr × Obj) (cls : Value) (d : Option Addr), Cau cls d p → L2H.RoomH k (A.deeper (envOfC qual (defScope st) s.heap.objs.size f cdv)) → sp p.1 cls d vs H Q E →
      ∃ t, PSs (L2H.cxH CX0 P w K mg base N qual (defScope st) f cdv A outer s H E p) (defBody st) t ∧ t { nx := fun _ H' => Q .non H', rt := Q } (L2.start N vs) H) : FnZ P w K mg base (k + 1) f fd ps sp := by
  obtain ⟨oc, od, kV, doc, pm, an, cdv, ct, osl, rfl, lk, hcd⟩ := F.ex
  exact fn_ofZ lk hcd S len fun A outer s H vs Q E p cls d hp hr hsp => hbody cdv A outer s H vs Q E p cls d hp hr hsp
section
variable {X : Cx} {k : Nat} {f : Addr} {fd : FuncData} {ps : List Str} {sp : SpZ} {cls : Value} {d : Option Addr} {p : Addr × Obj}
theorem run_fnZ {pins : List (Addr × Obj)} {σ : L2.St} {H : Hp} {s : Shared} {Q : VK} {E : XK} {us : List Value} {vs : List V} (F : FnZ X.prog X.w X.K X.mg X.base k f fd ps sp) (hr : L2H.RoomH k X.A) (hp : p ∈ X.pn) (hc : Cau cls d p) (hb : Binds X.K fd ps [])
    (I : Inv X pins σ H s) (r : Vals vs us) (h : sp p.1 cls d vs H Q E) : wpAny (model X.prog X.w) X.A (call (.ref f) us) (EP X pins σ Q) X.xe s := by
  have hl : us.length = ps.length := by rw [← r.length]; exact F.len _ _ _ _ _ _ _ h
  have b := hb s us I.kIn (by rw [List.append_nil]; exact hl)
  rw [List.append_nil] at b
  have P1 := I.pin p (List.mem_append_left _ hp)
  have hpin : L2H.PinOk X.stack H s p := ⟨P1.1, P1.2.1, fun hm => (List.mem_cons.mp (I.stkSub p.1 hm)).elim P1.2.2.1 P1.2.2.2.1, P1.2.2.2.2⟩
  refine wpAny_call (codeAny_mono (F.run X.A X.stack s H ⟨us, []⟩ us vs Q E p cls d hr hc hpin I.env0 b r h) fun r s' hq => ?_)
  cases r with
  | error e => exact False.elim hq
  | ok fl =>
    cases fl with
    | ret u => exact I.after hq
    | next => exact False.elim hq
    | brk => exact False.elim hq
    | cont => exact False.elim hq
end
structure Zn' (P : Program) (w : World) (K : PySem.W.Frag) (mg : Str → Option Value) (base : Heap) (k : Nat) (x : Str) (ps : List Str) (sp : SpZ) : Prop where
  ex : ∃ (f : Addr) (fd : FuncData), FnZ P w K mg base k f fd ps sp ∧ mg x = some (.ref f) ∧ PySem.W.keepIn K (.ref f) = true ∧ Binds K fd ps []
theorem Zn'.mk' {P : Program} {w : World} {K : PySem.W.Frag} {mg : Str → Option Value} {base : Heap} {k : Nat} {x qual : Str} {st : Stmt} {ps : List Str} {sp : SpZ} {f : Addr} {fd : FuncData} (F : Fun K x qual st f fd) (G : FnZ P w K mg base k f fd ps sp) (hm : mg x = some (.ref f))
    (h : ∀ (kV doc pm : Value) (an : Option Addr) (cdv ct : Value) (us : List Value), us.length = ps.length → bindArgs (PySem.W.fnOf x qual (defArgs st) (defBody st) (defScope st) .none kV doc pm an cdv ct) ⟨us, []⟩ = pure (ps.zip us)) : Zn' P w K mg base k x ps sp :=
  ⟨f, fd, G, hm, F.kp, F.binds h⟩
def tCallZ (sp : Sp) (t : TA) : TE := fun σ H Q => t σ H fun vs H1 => sp vs H1 Q E0
section
variable {X : Cx} {k i : Nat} {x : Str} {ps : List Str} {sp : SpZ} {cls : Value} {d : Option Addr} {a : Addr} {oe : Obj} {pn : List (Addr × Obj)} {q pos : Pos} {e : Expr} {es : List Expr} {t : TA}
theorem kp_callZ (c : Zn' X.prog X.w X.K X.mg X.base k x ps sp) (hr : Room i X.A) (hk : k ≤ i) (hg : Gl X x) (hz : Zc cls d oe) (hf : ∃ vs, oe.data = .fields vs) (ha : PA (X.suite a ((a, oe) :: pn)) (e :: es) t) (hdb : (x == ("__debug__" : Str)) = false := by decide)
    (he : starEach (e :: es) X.env = (false, eval e X.env) :: starEach es X.env := by rfl) (hpl : (backTo pos (starEach es X.env)).any (·.1) = false := by rfl) :
    PE (X.suite a ((a, oe) :: pn)) (.Call (.Name x q) (e :: es) [] pos) (tCallZ (sp a cls d) t) := by
  obtain ⟨f, fd, F, hm, kp, b⟩ := c.ex
  refine ⟨fun pins s σ H Q I h => ?_⟩
  refine wpAny_Call_Name_kw (ld_glob I hg hm ?_ hdb)
  refine PySem.W.callWith_K (h₀ := X.base) I.ok.mod.kin kp (thn (ha.run pos pins s σ H _ I h) fun us s1 ⟨vs, H1, I1, r, q⟩ => ⟨I1.kIn, ?_⟩) he hpl
  have hr2 : L2H.RoomH k (X.suite a ((a, oe) :: pn)).A := ⟨(hr.mono hk).dp, (hr.mono hk).un⟩
  exact run_fnZ (X := X.suite a ((a, oe) :: pn)) (p := (a, oe)) F hr2 List.mem_cons_self ⟨hz, hf⟩ b I1 r q
/-- isinstance of what was caught -/
theorem cr_isP {K : PySem.W.Frag} {p : Addr × Obj} (hp : p ∈ X.pn) (hc : Cau cls d p) (hk : X.K = K := by rfl) : CallR X (.builtin "isinstance") (rIsX K cls d p.1) := by
  subst hk
  obtain ⟨a, oe⟩ := p
  intro pins s σ H xs us Q I r h
  obtain ⟨D, rfl, rfl, C, h⟩ := h
  obtain ⟨c, cv, b, rfl, hcv, e, q⟩ := h
  cases r with
  | cons rx rr =>
    cases rr with
    | cons rt rr =>
      cases rr
      cases rx
      have ec := hcv _ rt
      subst ec
      obtain ⟨hget, _⟩ := I.pin (a, oe) (List.mem_append.mpr (.inl hp))
      obtain ⟨hz, vs, hv⟩ := hc
      have J : PySem.W.InstAt s.heap a oe D none := by
        obtain ⟨oc, od, oda, osl⟩ := oe
        obtain ⟨h1, h2⟩ := hz
        dsimp only at h1 h2 hv
        subst h1 h2 hv
        exact ⟨hget, rfl, rfl, trivial⟩
      exact PySem.W.kia_one (PySem.W.handS_kitx_exc C.hg C.hk C.hs C.hd C.ha C.hn C.ht C.hm) I.kIn J e (fun z => nomatch z) fun tk => ⟨.bl b, H, I.kept (t' := tk) fun _ _ z => z, rfl, q⟩
end
section
variable {H : Hp} {σ : L2.St} {Q : VK} {tr : TA} {vs : List V}
def czK (sp : Sp) (Q : VK) : List V → Hp → Prop := fun vs H => sp vs H Q E0
theorem up_callZ {sp : Sp} (k : Up (fun H1 => tr σ H1 (czK sp Q)) H) : Up (fun H1 => tCallZ sp tr σ H1 Q) H := k
theorem up_cz {F : List V → Hp → VK → Prop} (h : F vs H Q) : Up (czK (KSp F) Q vs) H := fun H1 e => ⟨H, e, h⟩
end
/-! ### C(..) where errors are wished for -/
def tMkS (C : Addr) (sp : Sp) (E : L2.St → XK) (t : TA) : TE := fun σ H Q => t σ H fun vs H1 => ∀ x dx, H1 x = none → H1 dx = none → dx ≠ x → sp (.ref x :: vs) (upd (upd H1 dx (.own x)) x (.ins C dx [])) (fun v H2 => v = .non ∧ Q (.ref x) H2) (E σ)
section
variable {X : Cx} {W : WX} {k i : Nat} {C : Addr} {x : Str} {ps : List Str} {sp : Sp} {p pos : Pos} {e : Expr} {es : List Expr} {t : TA}
theorem kp_makeX (c : Ini X.prog X.w X.K X.mg X.base (L2.CX X.prog X.w) k C x ps sp) (tk : Takes X W) (hr : Room i X.A) (hk : k + 1 ≤ i) (hg : Gl X x) (ha : PA X (e :: es) t) (hdb : (x == ("__debug__" : Str)) = false := by decide) (he : starEach (e :: es) X.env = (false, eval e X.env) :: starEach es X.env := by rfl)
    (hpl : (backTo pos (starEach es X.env)).any (·.1) = false := by rfl) : PE X (.Call (.Name x p) (e :: es) [] pos) (tMkS C sp (WE W) t) := by
  obtain ⟨f, fd, F, M, hm, hb⟩ := c.ex
  refine ⟨fun pins s σ H Q I h => ?_⟩
  refine wpAny_Call_Name_kw (ld_glob I hg hm ?_ hdb)
  refine PySem.W.callWith_K (h₀ := X.base) I.ok.mod.kin M.kp (thn (ha.run pos pins s σ H _ I h) fun us s1 ⟨vs, H1, I1, r, h⟩ => ⟨I1.kIn, ?_⟩) he hpl
  have hq := h (s1.heap.objs.size + 1) s1.heap.objs.size (I1.hok.fresh (Nat.le_succ _)) (I1.hok.fresh (Nat.le_refl _)) (Nat.ne_of_lt (Nat.lt_succ_self _))
  have I2 := Inv.made (C := C) I1
  have r2 : Vals (V.ref (s1.heap.objs.size + 1) :: vs) (Value.ref (s1.heap.objs.size + 1) :: us) := .cons rfl r
  have hl : (Value.ref (s1.heap.objs.size + 1) :: us ++ []).length = ps.length := by
    have e := r2.length
    rw [F.len _ _ _ _ hq] at e
    rw [List.append_nil]
    exact e.symm
  have hb2 := hb _ (Value.ref (s1.heap.objs.size + 1) :: us) I2.kIn hl
  rw [List.append_nil] at hb2
  refine wpAny_call (make_map (f := f) I1.kIn M.makes M.init (beq_iff_eq.mp M.fn) (codeAny_mono (F.run _ X.stack _ _ ⟨Value.ref (s1.heap.objs.size + 1) :: us, []⟩ (Value.ref (s1.heap.objs.size + 1) :: us) _ _ (WE W σ) ((hr.mono hk).make C us [])
    (I2.env0.make C us []) hb2 r2 hq) fun r s' hq' => ?_))
  cases r with
  | error e => exact passAt tk σ pins _ _ e s' I2 hq'
  | ok fl =>
    cases fl with
    | ret u =>
      obtain ⟨v, H', I3, rv, ev, q3⟩ := I2.after hq'
      subst ev
      exact ⟨rv, ⟨V.ref (s1.heap.objs.size + 1), H', I3, rfl, q3⟩⟩
    | next => exact False.elim hq'
    | brk => exact False.elim hq'
    | cont => exact False.elim hq'
end
section
variable {H : Hp} {σ : L2.St} {Q : VK} {tr : TA} {vs : List V} {C : Addr} {EK : XK}
def mkX (C : Addr) (sp : Sp) (EK : XK) (Q : VK) : List V → Hp → Prop := fun vs H1 => ∀ x dx, H1 x = none → H1 dx = none → dx ≠ x → sp (.ref x :: vs) (upd (upd H1 dx (.own x)) x (.ins C dx [])) (fun v H2 => v = .non ∧ Q (.ref x) H2) EK
theorem up_makeX {sp : Sp} {ES : L2.St → XK} (k : Up (fun H1 => tr σ H1 (mkX C sp (ES σ) Q)) H) : Up (fun H1 => tMkS C sp ES tr σ H1 Q) H := k
theorem up_mkXE {F : List V → Hp → VK → XK → Prop} (h : ∀ x dx, H x = none → H dx = none → dx ≠ x → F (.ref x :: vs) (upd (upd H dx (.own x)) x (.ins C dx [])) (fun v H2 => v = .non ∧ Q (.ref x) H2) EK) : Up (mkX C (KSx F) EK Q vs) H :=
  fun H1 e x dx hx hd ne => ⟨_, same_upd (same_upd e), h x dx (e.free hx) (e.free hd) ne⟩
end
/-! ### min(list, default=) -/
theorem argmin_in {js : List Int} {n : Nat} (hn : n = js.length) (hp : 0 < n) : js.getD (argBest (fun i j => decide (js.getD i 0 < js.getD j 0)) (n - 1)) 0 ∈ js ∧ ∀ y ∈ js, js.getD (argBest (fun i j => decide (js.getD i 0 < js.getD j 0)) (n - 1)) 0 ≤ y := by
  obtain ⟨m1', m2'⟩ := argBest_lt (fun i => js.getD i 0) (n - 1)
  have m1 : argBest (fun i j => decide (js.getD i 0 < js.getD j 0)) (n - 1) ≤ n - 1 := m1'
  have m2 : ∀ j, j ≤ n - 1 → js.getD (argBest (fun i j => decide (js.getD i 0 < js.getD j 0)) (n - 1)) 0 ≤ js.getD j 0 := m2'
  generalize argBest (fun i j => decide (js.getD i 0 < js.getD j 0)) (n - 1) = t at m1 m2
  refine ⟨?_, fun y hy => ?_⟩
  · rw [List.getD_eq_getElem?_getD, List.getElem?_eq_getElem (by omega)]
    exact List.getElem_mem _
  · obtain ⟨i, hi, e⟩ := List.mem_iff_getElem.mp hy
    have h := m2 i (by omega)
    rw [List.getD_eq_getElem?_getD (i := i), List.getElem?_eq_getElem hi] at h
    rw [← e]
    exact h
def rMinLd (K : PySem.W.Frag) : List V → List V → Hp → VK → Prop := fun vs zs H Q => ∃ (a : Addr) (js : List Int) (d : Int), vs = [.ref a] ∧ zs = [.int d] ∧ SqL K H a (js.map V.int) ∧ (js = [] → Q (.int d) H) ∧ (∀ m, m ∈ js → (∀ y ∈ js, m ≤ y) → Q (.int m) H)
theorem cr_minLd {K : PySem.W.Frag} {X : Cx} (hc : X.calm = true) (hk : X.K = K := by rfl) : CallRK X (.builtin "min") [Str.ofString "default"] (rMinLd K) := by
  subst hk
  intro pins s σ H xs zs us ws Q I rx rz h
  obtain ⟨a, js, d, rfl, rfl, hs, q0, q1⟩ := h
  rw [Vals.ref1 rx]
  obtain ⟨u, rfl, ru⟩ := rz.one
  obtain ⟨its, rv, hpl, _⟩ := I.list hs
  have hl := hpl.isList
  have hlen : its.toArray.size = js.length := by
    have e := rv.length
    rw [List.length_map] at e
    rw [List.size_toArray]
    exact e.symm
  have hval : ∀ (i : Nat) (v : Value), its.toArray[i]? = some v → ∃ t, v = .int (js.getD i 0) t := fun i v e => by
    have e1 : its[i]? = some v := by simpa using e
    have hi := (List.getElem?_eq_some_iff.mp e1).1
    have hj : i < js.length := by rw [List.size_toArray] at hlen; omega
    obtain ⟨u2, hu2, ru2⟩ := rv.get (i := i) (x := V.int js[i]) (by rw [List.getElem?_map, List.getElem?_eq_getElem hj]; rfl)
    rw [e1] at hu2
    have e2 := Option.some.inj hu2
    subst e2
    rw [List.getD_eq_getElem?_getD, List.getElem?_eq_getElem hj]
    exact ru2
  have hh : X.A.in1.handled = none := I.ok.hd hc
  show wpAny _ _ (call (.builtin "min") [.ref a] [(Str.ofString "default", u)]) _ _ _
  refine call_min_walkD (PySem.W.iter_listW (A := X.A.in1) hh hl fun s₂ e W st hfp hw hk => ?_)
  refine ⟨_, _, _, _, _, _, _, s.heap, fun i j => decide (js.getD i 0 < js.getD j 0), rfl, W, st, hfp, hw, hk, fun hz s' m => ?_, fun hp => ⟨fun i j vi vj s' Q E _ hi hj hq => CmpOf.ints_lt (fun i => js.getD i 0) hval i j vi vj s' Q E hi hj hq, fun v s' hP m => ?_⟩⟩
  · obtain ⟨h', tk, rfl, hk'⟩ := PySem.W.moved_old e rfl m
    have hj : js = [] := List.eq_nil_of_length_eq_zero (by omega)
    exact ⟨.int d, H, I.kept hk', ru, q0 hj⟩
  · obtain ⟨h', tk, rfl, hk'⟩ := PySem.W.moved_old e rfl m
    obtain ⟨t, rfl⟩ := hval _ v hP
    have am := argmin_in (js := js) hlen (by omega)
    exact ⟨.int _, H, I.kept hk', ⟨_, rfl⟩, q1 _ am.1 am.2⟩
section
variable {K : PySem.W.Frag} {H : Hp} {σ : L2.St} {Q : VK} {te : TE}
theorem up_minLd {a : Addr} {js : List Int} {d : Int} (h : SqL K H a (js.map V.int)) (k0 : js = [] → Up (Q (.int d)) H) (k1 : ∀ m, m ∈ js → (∀ y ∈ js, m ≤ y) → Up (Q (.int m)) H) : Up (ckB (rMinLd K) [.ref a] Q [.int d]) H :=
  fun H1 e => ⟨a, js, d, rfl, rfl, sq_up e h, fun z' => k0 z' H1 e, fun m h1 h2 => k1 m h1 h2 H1 e⟩
theorem up_maxLd {a : Addr} {js : List Int} {d : Int} (h : SqL K H a (js.map V.int)) (k0 : js = [] → Up (Q (.int d)) H) (k1 : ∀ m, m ∈ js → (∀ y ∈ js, y ≤ m) → Up (Q (.int m)) H) : Up (ckB (rMaxLd K) [.ref a] Q [.int d]) H :=
  fun H1 e => ⟨a, js, d, rfl, rfl, sq_up e h, fun z' => k0 z' H1 e, fun m h1 h2 => k1 m h1 h2 H1 e⟩
theorem up_anyV (P : V → Prop) (he : ∀ Q : VK, (∀ v, P v → Up (Q v) H) → Up (fun H1 => te σ H1 Q) H) (k : ∀ v, P v → Up (Q v) H) : Up (fun H1 => te σ H1 Q) H := he Q k
end
end Kp

namespace Kp
open PySem L2 PySem.Spec PyProof.Rows
theorem tracedZ_but {h h' base : Heap} {e L : Addr} {Z : Obj → Prop} {fl : Value} {m : Str → Option Value} (x : HandSPX.TracedZ h base e Z fl) (hn : h.Ns L m) (hs : Heap.SameBut L h h') : HandSPX.TracedZ h' base e Z fl := by
  obtain ⟨oe, vs, T, oT, ts, he, hz, hd, h1, hnT, hTe, hT, hdT, h3⟩ := x
  obtain ⟨oL, es, ep, hoL, hdL, _⟩ := hn
  have neE : e ≠ L := fun q => by
    rw [q, hoL] at he
    cases he
    rw [hdL] at hd
    cases hd
  have neT : T ≠ L := fun q => by
    rw [q, hoL] at hT
    cases hT
    rw [hdL] at hdT
    cases hdT
  exact ⟨oe, vs, T, oT, ts, (hs.2 e neE).trans he, hz, hd, h1, hnT, hTe, (hs.2 T neT).trans hT, hdT, h3⟩
theorem tracedZ_less {h base base' : Heap} {e : Addr} {Z : Obj → Prop} {fl : Value} (x : HandSPX.TracedZ h base e Z fl) (hb : ∀ b, base.get? b = none → base'.get? b = none) : HandSPX.TracedZ h base' e Z fl := by
  obtain ⟨oe, vs, T, oT, ts, he, hz, hd, h1, hnT, hTe, hT, hdT, h3⟩ := x
  exact ⟨oe, vs, T, oT, ts, he, hz, hd, h1, hb _ hnT, hTe, hT, hdT, h3⟩
theorem frames_less {base base' h : Heap} (hb : ∀ b, base.get? b = none → base'.get? b = none) : ∀ {l : List Env}, h.FunFrames base l → h.FunFrames base' l
  | [], _ => trivial
  | _ :: _, ⟨hk, ⟨L, o, hf, hn, ho, hd⟩, hr⟩ => ⟨hk, ⟨L, o, hf, hb _ hn, ho, hd⟩, frames_less hb hr⟩
/-- the context of a block, what is wanted of an exception told -/
abbrev blkX (X : Cx) (s : Shared) (H : Hp) (scope : Scope) (cenv : Env) (fp : List Addr) (xe : Value → Shared → Prop) : Cx := { X.blk s H scope cenv fp with xe := xe }
theorem ok_xe {X : Cx} (ok : X.Ok) (xe : Value → Shared → Prop) : ({ X with xe := xe } : Cx).Ok :=
  ⟨ok.mod, ok.kind, ok.glob, ok.blt, ok.above, ok.inj, ok.has, ok.cab, ok.hd, ok.frames, ok.stk, ok.exf, ok.bs, ok.bsz, ok.noex, ok.exfs, ok.funs, ok.frf⟩
theorem inv_xe {X : Cx} {pins : List (Addr × Obj)} {σ : L2.St} {H : Hp} {s : Shared} (I : Inv X pins σ H s) (xe : Value → Shared → Prop) : Inv ({ X with xe := xe } : Cx) pins σ H s :=
  ⟨ok_xe I.ok xe, I.os, I.bare, I.base, I.loc, I.cell, I.free, I.freeC, I.pin, I.hok, I.len⟩
/-- what a callee lets out is taken -/
def PassX (X : Cx) (E : XK) : Prop := ∀ σ, PassesAt (L2.CX X.prog X.w) X σ E
section
variable {X : Cx} {k i : Nat} {x : Str} {ps : List Str} {sp : Sp} {p pos : Pos} {e : Expr} {es : List Expr} {t : TA} {E : XK}
theorem kp_callP (c : Fn X.prog X.w X.K X.mg X.base (L2.CX X.prog X.w) k x ps sp) (pa : PassX X E) (hr : Room i X.A) (hk : k ≤ i) (hg : Gl X x) (ha : PA X (e :: es) t) (hdb : (x == ("__debug__" : Str)) = false := by decide) (he : starEach (e :: es) X.env = (false, eval e X.env) :: starEach es X.env := by rfl)
    (hpl : (backTo pos (starEach es X.env)).any (·.1) = false := by rfl) : PE X (.Call (.Name x p) (e :: es) [] pos) (tCallS sp (fun _ => E) t) := by
  obtain ⟨f, fd, F, hm, kp, b⟩ := c.ex
  exact pe_callS F (hr.mono hk) hg hm kp b (fun σ => pa σ) ha hdb he hpl
end
theorem comp_pass {X : Cx} {E : XK} (hs : X.stack = X.env :: X.outer) (hf : X.env.frame = some X.env.locals) (tk : Takes X (wX E)) {pins pins2 : List (Addr × Obj)} {σ σ2 : L2.St} {s3 s s' : Shared} {H3 H : Hp} {scope : Scope} {ce : Env} {fp : List Addr} {xe : Value → Shared → Prop} {e : Value}
    (I3 : Inv X pins σ H3 s3) (f3 : ∀ b ∈ fp, FpOk X pins H3 b ∧ b < s3.heap.objs.size) (cf : ce.frame = X.env.frame) (cL : ce.locals = s3.heap.objs.size) (I : Inv (blkX X s3 H3 scope ce fp xe) pins2 σ2 H s) (c : L2.CX X.prog X.w X.stack H s E e s') :
    notedBy (model X.prog X.w) X.A ce (CompFails (model X.prog X.w) X.A X.xe ce) e s' := by
  obtain ⟨a, B, H', cls, d, rfl, fl, hok, ub, na, os, ag, hE⟩ := c
  obtain ⟨G, g1, g2⟩ := restrict s'.heap fun b => (B.get? b).isSome || decide (b ∈ frs X.stack)
  have st : B.StaysIn s'.heap := fl.1
  have gB : ∀ b o, B.get? b = some o → G.get? b = some o := fun b o e => by
    rw [g1 b (by simp [e])]
    exact st b o e
  have gF : ∀ b, b ∈ frs X.stack → G.get? b = s'.heap.get? b := fun b hb => g1 b (by simp [hb])
  have og : ∀ b o, G.get? b = some o → s'.heap.get? b = some o ∧ ((B.get? b).isSome = true ∨ b ∈ frs X.stack) := fun b o e => by
    cases q : ((B.get? b).isSome || decide (b ∈ frs X.stack)) with
    | false => rw [g2 b q] at e; cases e
    | true =>
      rw [g1 b q] at e
      exact ⟨e, by simpa [Bool.or_eq_true] using q⟩
  have nbG : ∀ b o, G.get? b = some o → b ∉ frs X.stack → B.get? b = some o := fun b o e hb => by
    obtain ⟨e', h⟩ := og b o e
    rcases h with h | h
    · obtain ⟨o', q⟩ := Option.isSome_iff_exists.mp h
      have z := st b o' q
      rw [e'] at z; cases z
      exact q
    · exact absurd h hb
  have upG : G.UpToSlots s'.heap := Heap.UpToSlots.of_keeps fun b o e => (og b o e).1
  have IG : Inv (blkX X s3 H3 scope ce fp xe) pins2 σ2 H' { s with heap := G, gens := s'.gens, drawn := s'.drawn, toks := s'.toks } := by
    refine I.call (ch := []) ⟨fun b o e n hb _ => gB b o (ub.keep b o e n hb), fun b o e n hb _ => ?_, fun b o e n _ => ub.free b o e n, fun b o e _ => ?_, ub.tups, ub.frzs, ub.tbls⟩ (hok.kept gB) ag (fun _ z => nomatch z)
    · obtain ⟨sl, q⟩ := ub.slot b o e hb
      exact ⟨sl, by rw [gF b hb]; exact q⟩
    · by_cases hb : b ∈ frs X.stack
      · obtain ⟨sl, q⟩ := ub.slot b o e hb
        exact ⟨_, by rw [gF b hb]; exact q⟩
      · obtain ⟨o', q⟩ := ub.there b o e hb
        exact ⟨o', gB b o' q⟩
  have IX : Inv X pins σ H' { s with heap := G, gens := s'.gens, drawn := s'.drawn, toks := s'.toks } := I3.call' (ch := fp) IG.os IG.base IG.hok IG.bare fun b hb => ⟨(f3 b hb).1.2.2.2.1, (f3 b hb).1.2.1, (f3 b hb).1.2.2.2.2.1, (f3 b hb).1.2.2.2.2.2⟩
  have nC : H' s3.heap.objs.size = none := by
    have z : H' ce.locals = none := IG.free
    rw [cL] at z
    exact z
  obtain ⟨m, hn, _⟩ := IG.loc
  have hn : G.Ns ce.locals m := hn
  have hns : s'.heap.Ns ce.locals m := hn.upToSlots upG
  have hfr : X.A.frames = some (X.env :: X.outer) := by rw [I3.ok.frames, hs]
  have fl' : HandSPX.FlyingZ B (X.env :: X.outer) a (Zc cls d) s'.heap := by rw [← hs]; exact fl
  show wpAny (model X.prog X.w) X.A (noteFrame (.ref a) ce) _ _ s'
  rw [noteFrame_env _ cf]
  refine HandSPX.looks_onZ Zc.steady hfr hf fl' fun h1 hh up1 => ?_
  obtain ⟨hB1, hBa, hF1, hT1⟩ := hh
  have hn1 : h1.Ns ce.locals m := hns.upToSlots up1
  refine ⟨m, hn1, fun h2 m2 hn2 hs2 => ?_⟩
  have lB : ∀ b, B.get? b = none → (PySem.W.hideAll B [ce.locals]).get? b = none := fun b hb => by
    cases q : (PySem.W.hideAll B [ce.locals]).get? b with
    | none => rfl
    | some o =>
      have z := PySem.W.of_hideAll _ q
      rw [hb] at z
      cases z
  have neC : ∀ {h : Heap} {b : Addr} {o : Obj}, (PySem.W.hideAll h [ce.locals]).get? b = some o → h.get? b = some o ∧ b ≠ ce.locals := fun {h b o} e => ⟨PySem.W.of_hideAll _ e, fun z => by
    rw [PySem.W.hideAll_none [ce.locals] (by rw [z]; exact List.mem_singleton.mpr rfl)] at e
    cases e⟩
  have hh2 : HandSPX.HeldZ (PySem.W.hideAll B [ce.locals]) (X.env :: X.outer) a (Zc cls d) X.env.locals h2 :=
    ⟨fun b o e => (hs2.2 b (neC e).2).trans (hB1 b o (neC e).1), lB _ hBa, frames_less lB (Heap.FunFrames.sameBut hs2 hn2 hF1), tracedZ_less (tracedZ_but hT1 hn1 hs2) lB⟩
  obtain ⟨oe, vs, T, oT, ts, he, hz, hd, h1', r⟩ := hh2.2.2.2
  unfold PySem.passOn
  refine wpAny_bind (wpAny_field he hd h1' ?_)
  rw [if_neg (show ¬ ((Value.ref T == Value.none) = true) from by simp)]
  rw [cf, hf]
  refine wpAny_bind (HandSPX.setFlight_onZ hh2 fun h4 hh4 up4 => ?_)
  refine wpAny_throw ?_
  obtain ⟨f0, f1, f2, f3', f4, f5⟩ := I3.fpOk (H' := H') (Nat.le_refl _) nC
  refine tk _ _ ⟨a, PySem.W.hideAll B [ce.locals], _, pins, σ, H', cls, d, rfl, IX.turned (t' := s'.toks) (h' := PySem.W.hideAll G [ce.locals]) (it := s3.heap.objs.size) (fun b o hb e => PySem.W.hideAll_get _ e (by rw [cL]; exact fun z => hb (List.mem_singleton.mp z))) f0 f1 f3' f4 f5, fun b o e hb => ?_, fun b o e hnf => ?_, .inr (.inr (by rw [hs]; exact hh4)), na, os, ag, hE⟩
  · exact PySem.W.hideAll_get _ (nbG b o (neC e).1 hb) fun z => (neC e).2 (List.mem_singleton.mp z)
  · obtain ⟨e1, ne⟩ := neC e
    obtain ⟨sl1, q1⟩ := upG b o e1 hnf
    obtain ⟨sl2, q2⟩ := up1 b _ q1 hnf
    have q3 := (hs2.2 b ne).trans q2
    obtain ⟨sl4, q4⟩ := up4 b _ q3 hnf
    exact ⟨sl4, q4⟩
section
variable {X : Cx}
/-- a list comprehension in a def that may raise: its element may let out what the def may -/
theorem pe_lcX {E : XK} {elt tg iter : Expr} {ifs : List Expr} {scope : Scope} {own : List (Str × Nat)} {pos : Pos} {wi : TI} {g : TG} {tt : TT} {te : TE} (hc : X.calm = true) (hst : X.stack = X.env :: X.outer) (hf : X.env.frame = some X.env.locals) (tk : Takes X (wX E)) (hN : X.N.Nodup) (hi : PI X tg iter wi) (ok : BlkOk X.N X.env.scope scope own)
    (hg : ∀ (s : Shared) (H : Hp) (C : Addr) (cl : List (Str × Addr)) (fp : List Addr) (xe : Value → Shared → Prop), PG (blkX X s H scope (compEnvC scope cl C X.env) fp xe) tg g) (ht : ∀ (s : Shared) (H : Hp) (C : Addr) (cl : List (Str × Addr)) (fp : List Addr) (xe : Value → Shared → Prop), PTs (blkX X s H scope (compEnvC scope cl C X.env) fp xe) ifs tt)
    (he : ∀ (s : Shared) (H : Hp) (C : Addr) (cl : List (Str × Addr)) (fp : List Addr) (xe : Value → Shared → Prop), PassX (blkX X s H scope (compEnvC scope cl C X.env) fp xe) E → PE (blkX X s H scope (compEnvC scope cl C X.env) fp xe) elt te) (hs : ∀ x, foldedSetIterable iter X.env x = pure x := by intro _; rfl) :
    PE X (.ListComp elt [⟨tg, iter, ifs, 0⟩] scope pos) (tLc wi g tt te (own.map (·.2))) := by
  refine ⟨fun pins s σ H Q I h => ?_⟩
  rw [eval_ListComp]
  have hfree : ∀ y ∈ scope.names, y.2 = .free → ∃ c, X.env.cells.lookup y.1 = some c := fun y hy e => by
    rcases ok.free y hy e with k | k
    · exact I.ok.has _ (.inl k)
    · exact I.ok.has _ (.inr k)
  refine comprehension_at (use := none) rfl hs (closure_ok hfree) ok.kind (fun y hy e => by rw [ok.uniq y hy, e])
    (thn (hi.run pins s σ H _ I h) fun xv s1 hx => thn hx fun itv s2 h2 => ?_)
  obtain ⟨it, fp, tn, J, H2, e, I2, T, st2, f2, q⟩ := h2
  subst e
  refine wpAny_newObj_type (newEnv_comp ?_) (by show 0 ≤ sizeLine; decide)
  generalize hD : s2.heap.objs.size = D
  have hDn : H2 D = none := I2.hok.fresh (Nat.le_of_eq hD)
  obtain ⟨W, ⟨m0, w0⟩, turn⟩ := q D hDn
  generalize hs3 : ({ s2 with heap := s2.heap.push { cls := .type "list", data := .seq ([] : List Value).toArray } } : Shared) = s3
  have I3 : Inv X pins σ (upd H2 D (.lst [])) s3 := by
    rw [← hs3]
    refine I2.laid (t' := s2.toks) (fun b o e => Heap.get?_push_of_some _ e) (Nat.le_of_eq hD) ⟨Nat.zero_le _, [], 0, .nil, ?_⟩
    rw [← hD]
    exact Heap.get?_push_size _ rfl
  have h3 : s3.heap = s2.heap.push { cls := .type "list", data := .seq ([] : List Value).toArray } := by rw [← hs3]
  have sz : ∀ b ∈ fp, b < s2.heap.objs.size := fun b hb => by
    obtain ⟨o, e, _⟩ := T.obj _ _ st2 b hb
    exact Heap.lt_size e
  have f3 : ∀ b ∈ fp, FpOk X pins (upd H2 D (.lst [])) b ∧ b < s3.heap.objs.size := fun b hb => by
    have hlt := sz b hb
    refine ⟨⟨?_, (f2 b hb).2⟩, by rw [h3, Heap.size_push]; exact Nat.lt_succ_of_lt hlt⟩
    rw [upd_ne (by rw [← hD]; exact Nat.ne_of_lt hlt)]
    exact (f2 b hb).1
  have st3 : tn 0 s3.heap := T.keep _ _ _ st2 fun b _ o e => by rw [h3]; exact Heap.get?_push_of_some _ e
  generalize hclc : cellsFrom (s3.heap.objs.size + 1) scope.names (cloFrom X.env.cells scope.names []) = clc
  have I4 : Inv (blkX X s3 (upd H2 D (.lst [])) scope (compEnvC scope clc s3.heap.objs.size X.env) fp (notedBy (model X.prog X.w) X.A (compEnvC scope clc s3.heap.objs.size X.env) (CompFails (model X.prog X.w) X.A X.xe (compEnvC scope clc s3.heap.objs.size X.env)))) [] (wipe σ (own.map (·.2))) (upd H2 D (.lst [])) { s3 with heap := pushCells (s3.heap.push { cls := .type "dict", data := .dict #[] }) scope.names } := by
    have z := block_start I3 ok hN f3
    rw [hclc] at z
    exact inv_xe z _
  have pg := hg s3 (upd H2 D (.lst [])) s3.heap.objs.size clc fp (notedBy (model X.prog X.w) X.A (compEnvC scope clc s3.heap.objs.size X.env) (CompFails (model X.prog X.w) X.A X.xe (compEnvC scope clc s3.heap.objs.size X.env)))
  have pt := ht s3 (upd H2 D (.lst [])) s3.heap.objs.size clc fp (notedBy (model X.prog X.w) X.A (compEnvC scope clc s3.heap.objs.size X.env) (CompFails (model X.prog X.w) X.A X.xe (compEnvC scope clc s3.heap.objs.size X.env)))
  have pe := he s3 (upd H2 D (.lst [])) s3.heap.objs.size clc fp (notedBy (model X.prog X.w) X.A (compEnvC scope clc s3.heap.objs.size X.env) (CompFails (model X.prog X.w) X.A X.xe (compEnvC scope clc s3.heap.objs.size X.env)))
    fun σ2 pins2 H' s' e s'' I' c => comp_pass hst hf tk I3 f3 rfl rfl I' c
  show codeAny _ _ (.compStart (.ListComp elt [⟨tg, iter, ifs, 0⟩] scope pos) 0 (.ref it) (.ref D) (compEnvC scope clc s3.heap.objs.size X.env)) (compEnds (model X.prog X.w) X.A X.xe none (EP X pins σ Q) (.ref D) (compEnvC scope clc s3.heap.objs.size X.env)) { s3 with heap := pushCells (s3.heap.push { cls := .type "dict", data := .dict #[] }) scope.names }
  have nfp : ∀ b ∈ fp, (upd H2 D (.lst [])) b = none := fun b hb => (f3 b hb).1.1
  have cL : (compEnvC scope clc s3.heap.objs.size X.env).locals = s3.heap.objs.size := rfl
  generalize compEnvC scope clc s3.heap.objs.size X.env = ce at I4 pg pt pe cL ⊢
  generalize hH3 : upd H2 D (.lst []) = H3 at I3 I4 pg pt pe w0 nfp f3
  generalize hs4 : ({ s3 with heap := pushCells (s3.heap.push { cls := .type "dict", data := .dict #[] }) scope.names } : Shared) = s4 at I4 ⊢
  have st4 : tn 0 s4.heap := T.keep _ _ _ st3 fun b _ o e => by rw [← hs4]; exact pushCells_keeps _ _ _ _ (Heap.get?_push_of_some _ e)
  generalize hxe : notedBy (model X.prog X.w) X.A ce (CompFails (model X.prog X.w) X.A X.xe ce) = xe at I4 pg pt pe
  have stat : ∀ {σ' : L2.St} {H' : Hp} {s' : Shared}, Inv (blkX X s3 H3 scope ce fp xe) [] σ' H' s' → (∀ b ∈ fp, H' b = none) → ∀ b ∈ fp, FpOk (blkX X s3 H3 scope ce fp xe) [] H' b := fun {σ' H' s'} I' hn b hb =>
    ⟨hn b hb, (I'.ok.exf b hb).1, I'.ok.exfs b hb, .inl hb, fun x c e => (I'.ok.exf b hb).2 x c e, fun p hp => absurd (show p ∈ ([] : List (Addr × Obj)) ++ [] from hp) (by simp)⟩
  have loop : codeAny (model X.prog X.w) X.A (.compLoop (.ListComp elt [⟨tg, iter, ifs, 0⟩] scope pos) 0 (.ref it) (.ref D) ce) (compEnds (model X.prog X.w) X.A X.xe none (EP X pins σ Q) (.ref D) ce) s4 := by
    refine compLoop_any (fun n s' => ∃ i H', Inv (blkX X s3 H3 scope ce fp xe) [] (wipe σ (own.map (·.2))) H' s' ∧ tn i s'.heap ∧ (∀ b ∈ fp, H' b = none) ∧ W i n H') ?_ m0 ⟨0, H3, I4, st4, nfp, w0⟩
    rintro n s5 ⟨i, H5, I5, st5, n5, w5⟩
    show wpAny _ _ _ _ (notedBy (model X.prog X.w) X.A ce (CompFails (model X.prog X.w) X.A X.xe ce)) s5
    rcases turn i n H5 w5 with ⟨stop, qq⟩ | ⟨go, Nx, hNx, step⟩
    · have td := T.done (blkX X s3 H3 scope ce fp xe) rfl rfl rfl hc i [] s5 _ H5 (fun _ _ => False) I5 (stat I5 n5) st5 stop
      refine thnF td fun r s6 ⟨hr, I6⟩ => ?_
      subst hr
      have I7 : Inv X pins σ H5 s6 := I3.call' (ch := fp) I6.os I6.base I6.hok I6.bare fun b hb => ⟨(f3 b hb).1.2.2.2.1, (f3 b hb).1.2.1, (f3 b hb).1.2.2.2.2.1, (f3 b hb).1.2.2.2.2.2⟩
      have nC : H5 s3.heap.objs.size = none := by
        have z : H5 ce.locals = none := I6.free
        rw [cL] at z
        exact z
      obtain ⟨m, hn, _⟩ := I6.loc
      have hn : s6.heap.Ns ce.locals m := hn
      refine ⟨m, hn, fun h'' sb => ?_⟩
      rw [cL] at sb
      obtain ⟨f0, f1, f2, f3', f4, f5⟩ := I3.fpOk (H' := H5) (Nat.le_refl _) nC
      exact ⟨.ref D, H5, I7.turned (t' := s6.toks) (fun b o hb e => (sb.2 b hb).trans e) f0 f1 f3' f4 f5, rfl, qq⟩
    · have ti := T.item (blkX X s3 H3 scope ce fp xe) rfl rfl rfl hc i [] s5 _ H5 (fun _ _ => False) I5 (stat I5 n5) st5 go
      refine thnF ti fun r s6 ⟨u, hr, h6⟩ => ?_
      subst hr
      refine thnF h6 fun _ s7 ⟨x, H7, I7, r7, y7, st7, n7⟩ => ?_
      have I7' := I7.pinned (stat I7 n7) (T.obj _ _ st7)
      refine wpAny_mono (pg.run _ s7 _ H7 x u _ I7' r7 (step x H7 y7)) (fun _ s8 ⟨σ8, H8, I8, hw8, q8⟩ => ?_) fun _ _ z => by rw [← hxe] at z; exact z
      refine wpAny_mono (pt.run _ s8 σ8 H8 _ I8 q8) (fun b s9 ⟨H9, I9, q9⟩ => ?_) fun _ _ z => by rw [← hxe] at z; exact z
      have fin : ∀ {s' : Shared} {H' : Hp}, Inv (blkX X s3 H3 scope ce fp xe) ([] ++ pinsAt fp s7.heap) σ8 H' s' → Nx H' → ∃ m, m < n ∧ ∃ i H', Inv (blkX X s3 H3 scope ce fp xe) [] (wipe σ (own.map (·.2))) H' s' ∧ tn i s'.heap ∧ (∀ b ∈ fp, H' b = none) ∧ W i m H' := fun {s' H'} I' nx => by
        obtain ⟨m', hm, w'⟩ := hNx H' nx
        have pin' : ∀ b ∈ fp, ∀ o, s7.heap.get? b = some o → s'.heap.get? b = some o ∧ H' b = none := fun b hb o e =>
          let z := I'.pin (b, o) (List.mem_append_right _ (List.mem_append_right _ (mem_pinsAt hb e)))
          ⟨z.1, z.2.1⟩
        have hl : (wipe σ (own.map (·.2))).length = σ8.length := by rw [← hw8, wipe_length]
        refine ⟨m', hm, i + 1, H', (I'.unpinned (pins := [])).weak hl (fun j v e => ?_), T.keep _ _ _ st7 fun b hb o e => (pin' b hb o e).1, fun b hb => ?_, w'⟩
        · rw [← hw8] at e
          exact (wipe_some e).1
        · obtain ⟨o, e, _⟩ := T.obj _ _ st7 b hb
          exact (pin' b hb o e).2
      cases b with
      | false =>
        simp only [Bool.false_eq_true, if_false] at q9 ⊢
        exact fin I9 q9
      | true =>
        simp only [if_true] at q9 ⊢
        refine wpAny_mono (pe.run _ s9 σ8 H9 _ I9 q9) (fun z s10 ⟨yv, H10, I10, r10, acc, hD10, hz10, nx⟩ => ?_) fun _ _ z => by rw [← hxe] at z; exact z
        exact app_ok (X := blkX X s3 H3 scope ce fp xe) I10 hD10 hz10 r10 fun s11 I11 => fin I11 nx
  exact codeAny_compStart_list loop (T.self X.A 0 _ _ _ st4 loop)
end
end Kp

namespace Kp
open PySem L2
def cell (ns : List Int) (k : Int) : Int := ns.getD k.toNat 0
/-! ### rows -/
def rv : Option Nat → V
  | none => .non
  | some k => .int k
theorem rv_at {row : List (Option Nat)} {i : Nat} {z : Int} (e : z = i) (h : i < row.length) : atI (row.map rv) z = some (rv row[i]) := at_of e (by rw [List.getElem?_map, List.getElem?_eq_getElem h]; rfl)
/-- too near -/
def Pc (row : List (Option Nat)) (apart : Int) (a b : Nat) : Prop := a < b ∧ ∃ k, row[a]? = some (some k) ∧ row[b]? = some (some k) ∧ (b : Int) - a - 1 < apart
def First (row : List (Option Nat)) (apart : Int) : Option (Nat × Nat) → Prop
  | none => ∀ a b, ¬ Pc row apart a b
  | some (a, b) => Pc row apart a b ∧ ∀ a' b', Pc row apart a' b' → b < b' ∨ (b = b' ∧ a' ≤ a)
theorem First.one {row : List (Option Nat)} {apart : Int} : ∀ {r r' : Option (Nat × Nat)}, First row apart r → First row apart r' → r = r'
  | none, none, _, _ => rfl
  | none, some (a, b), h, h' => absurd h'.1 (h a b)
  | some (a, b), none, h, h' => absurd h.1 (h' a b)
  | some (a, b), some (c, d), h, h' => by
    have h1 := h.2 _ _ h'.1
    have h2 := h'.2 _ _ h.1
    have e1 : b = d := by omega
    have e2 : a = c := by omega
    rw [e1, e2]
def clRes (H : Hp) (Q : VK) : Option (Nat × Nat) → Prop
  | none => Up (Q .non) H
  | some (a, b) => ∀ p, H p = none → Up (Q (.ref p)) (upd H p (.tup [.int a, .int b]))

end Kp
namespace Kp
open PySem L2
/-! ### rows as texts -/
def code : Option Nat → Nat
  | none => 46
  | some k => 97 + k
def sgn (o : Option Nat) : Str := ⟨#[code o]⟩
def txt (row : List (Option Nat)) : Str := ⟨(row.map code).toArray⟩
def letters : Str := ⟨[97, 98, 99, 100, 101, 102, 103, 104, 105, 106, 107, 108, 109, 110, 111, 112, 113, 114, 115, 116, 117, 118, 119, 120, 121, 122].toArray⟩
def Good (row : List (Option Nat)) : Prop := ∀ k, some k ∈ row → k < 26
theorem letters_eq : (Str.ofString "abcdefghijklmnopqrstuvwxyz") = letters := by decide +kernel
theorem dot_eq : (Str.ofString ".") = sgn none := by decide +kernel
theorem nil_eq : (Str.ofString "") = txt [] := by decide +kernel
theorem find_letter : ∀ k, k < 26 → PySem.Txt.find letters ⟨#[97 + k]⟩ = ((k : Nat) : Int) := by decide +kernel
theorem at_letter {k : Nat} (h : k < 26) : letters.cps.toList[k]? = some (97 + k) := by
  have e : ∀ k, k < 26 → letters.cps.toList[k]? = some (97 + k) := by decide +kernel
  exact e k h
theorem letters_len : letters.length ≤ 100000 := by decide +kernel
theorem txt_snoc (row : List (Option Nat)) (o : Option Nat) : txt row ++ sgn o = txt (row ++ [o]) := by
  refine TL.ext_tl ?_
  rw [TL.tl_append]
  show row.map code ++ [code o] = (row ++ [o]).map code
  rw [List.map_append]
  rfl
theorem txt_len (row : List (Option Nat)) : (txt row).length = row.length := by
  rw [TL.len_tl]
  show (row.map code).length = row.length
  rw [List.length_map]
theorem txt_size (row : List (Option Nat)) : (txt row).cps.size = row.length := by
  show (row.map code).toArray.size = row.length
  simp
theorem txt_at {row : List (Option Nat)} {i c : Nat} (h : (txt row).cps[i]? = some c) : ∃ o, row[i]? = some o ∧ c = code o := by
  have h' : (row.map code)[i]? = some c := by
    have : (row.map code).toArray[i]? = some c := h
    simpa using this
  rw [List.getElem?_map] at h'
  cases e : row[i]? with
  | none => rw [e] at h'; cases h'
  | some o => rw [e] at h'; exact ⟨o, rfl, (Option.some.inj h').symm⟩
theorem joinL_nil : ∀ row : List (Option Nat), TL.joinL [] (row.map fun o => [code o]) = row.map code
  | [] => rfl
  | [o] => rfl
  | o :: p :: r => by
    have h := joinL_nil (p :: r)
    show [code o] ++ ([] ++ TL.joinL [] ((p :: r).map fun o => [code o])) = _
    rw [h]
    rfl
theorem join_txt (row : List (Option Nat)) : PySem.Txt.join (txt []) (row.map sgn) = txt row := by
  refine TL.ext_tl ?_
  rw [TL.join_eq, TL.tl_join, List.map_map]
  exact joinL_nil row
theorem join_len (row : List (Option Nat)) : ((row.map sgn).map (·.length)).sum + (row.map sgn).length * (txt []).length = row.length := by
  have e : (txt []).length = 0 := rfl
  rw [e, Nat.mul_zero, Nat.add_zero]
  induction row with
  | nil => rfl
  | cons o r ih =>
    rw [List.map_cons, List.map_cons, List.sum_cons, ih, List.length_cons]
    show 1 + r.length = _
    omega
theorem rv_flat (row : List (Option Nat)) : (row.map rv).all flat0 = true := flat0_rv row rv fun o => by cases o <;> rfl
theorem Good.at {row : List (Option Nat)} (h : Good row) {i : Nat} {o : Option Nat} (e : row[i]? = some o) : ∀ k, o = some k → k < 26 := fun k q => h k (by rw [← q]; exact List.mem_of_getElem? e)

end Kp
namespace Kp
open PySem L2
/-! ### any signs -/
def tx (cs : List Nat) : Str := ⟨cs.toArray⟩
/-- what a sign writes -/
def kOf (c : Nat) : Option (Option Nat) := if c = 46 then some none else if 97 ≤ c ∧ c ≤ 122 then some (some (c - 97)) else none
theorem kOf_good {c : Nat} {o : Option Nat} (h : kOf c = some o) : c = code o ∧ ∀ k, o = some k → k < 26 := by
  unfold kOf at h
  split at h
  · rename_i e
    rw [← Option.some.inj h]
    exact ⟨e, fun k z => by cases z⟩
  · split at h
    · rename_i e
      rw [← Option.some.inj h]
      refine ⟨?_, fun k z => ?_⟩
      · show c = 97 + (c - 97)
        omega
      · have := Option.some.inj z
        omega
    · cases h
theorem kOf_ne46 {c : Nat} (h : kOf c = none) : c ≠ 46 := fun e => by
  unfold kOf at h
  rw [if_pos e] at h
  cases h
theorem find_other : ∀ c, c < 128 → kOf c = none → PySem.Txt.find letters ⟨#[c]⟩ = -1 := by decide +kernel
theorem tx_app (cs ds : List Nat) : tx cs ++ tx ds = tx (cs ++ ds) := by
  refine TL.ext_tl ?_
  rw [TL.tl_append]
  rfl
theorem tx_one (c : Nat) : (⟨#[c]⟩ : Str) = tx [c] := rfl
theorem tx_len (cs : List Nat) : (tx cs).length = cs.length := by
  rw [TL.len_tl]
  rfl
theorem tx_cutL (cs : List Nat) (n : Nat) : cutS (tx cs) none (some (n : Int)) = tx (cs.take n) := by
  unfold cutS
  have h1 : HT.sIx (tx cs).length 0 none = 0 := rfl
  have h2 : HT.sIx (tx cs).length (tx cs).length (some (n : Int)) = min n cs.length := by rw [HT.sIx_nat, tx_len]
  rw [h1, h2, List.drop_zero, Nat.sub_zero]
  show tx (cs.take (min n cs.length)) = _
  congr 1
  rw [← List.take_take]
  rw [List.take_of_length_le (Nat.le_refl _)]
theorem tx_cutR (cs : List Nat) (n : Nat) : cutS (tx cs) (some (n : Int)) none = tx (cs.drop n) := by
  unfold cutS
  have h1 : HT.sIx (tx cs).length 0 (some (n : Int)) = min n cs.length := by rw [HT.sIx_nat, tx_len]
  have h2 : HT.sIx (tx cs).length (tx cs).length none = cs.length := by rw [tx_len]; rfl
  rw [h1, h2]
  show tx ((cs.drop (min n cs.length)).take (cs.length - min n cs.length)) = _
  congr 1
  by_cases h : n ≤ cs.length
  · rw [Nat.min_eq_left h, List.take_of_length_le (by rw [List.length_drop]; exact Nat.le_refl _)]
  · rw [Nat.min_eq_right (by omega), List.drop_of_length_le (Nat.le_refl _), List.drop_of_length_le (by omega)]
    simp
theorem tx_at {cs : List Nat} {i c : Nat} (h : (tx cs).cps[i]? = some c) : cs[i]? = some c := by
  have : cs.toArray[i]? = some c := h
  simpa using this
theorem tx_size (cs : List Nat) : (tx cs).cps.size = cs.length := by
  show cs.toArray.size = cs.length
  simp
def l29 : List Nat := [97, 98, 99, 100, 101, 102, 103, 104, 105, 106, 107, 108, 109, 110, 111, 112, 113, 114, 115, 116, 117, 118, 119, 120, 121, 122, 46, 46, 46]
theorem l29_eq : Str.ofString "abcdefghijklmnopqrstuvwxyz..." = tx l29 := by decide +kernel
theorem l29_at : ∀ k, k < 29 → ∃ c, (tx l29).cps.toList[k]? = some c ∧ c < 128 ∧ kOf c ≠ none := by
  have h : ∀ k, k < 29 → (match (tx l29).cps.toList[k]? with | some c => decide (c < 128 ∧ kOf c ≠ none) | none => false) = true := by decide +kernel
  intro k hk
  have := h k hk
  cases e : (tx l29).cps.toList[k]? with
  | none => rw [e] at this; cases this
  | some c => rw [e] at this; exact ⟨c, rfl, of_decide_eq_true this⟩
def l17 : List Nat := [32, 65, 90, 48, 95, 44, 45, 9, 10, 58, 59, 42, 123, 126, 96, 64, 91]
theorem l17_eq : Str.ofString " AZ0_,-\t\n:;*{~`\x40[" = tx l17 := by decide +kernel
theorem l17_at : ∀ k, k < 17 → ∃ c, (tx l17).cps.toList[k]? = some c ∧ c < 128 ∧ kOf c = none := by
  have h : ∀ k, k < 17 → (match (tx l17).cps.toList[k]? with | some c => decide (c < 128 ∧ kOf c = none) | none => false) = true := by decide +kernel
  intro k hk
  have := h k hk
  cases e : (tx l17).cps.toList[k]? with
  | none => rw [e] at this; cases this
  | some c => rw [e] at this; exact ⟨c, rfl, of_decide_eq_true this⟩
theorem occ_letter : ∀ k, k < 26 → PySem.Builtin.Str.occurrences letters ⟨#[97 + k]⟩ 0 letters.length 1 = [k] := by decide +kernel
/-- signs that all write something write a row -/
theorem row_of : ∀ {cs : List Nat}, (∀ c ∈ cs, kOf c ≠ none) → ∃ row : List (Option Nat), cs = row.map code ∧ Good row
  | [], _ => ⟨[], rfl, fun k h => by cases h⟩
  | c :: r, h => by
    obtain ⟨row, e, g⟩ := row_of (cs := r) fun x hx => h x (List.mem_cons_of_mem _ hx)
    cases ek : kOf c with
    | none => exact absurd ek (h c List.mem_cons_self)
    | some o =>
      obtain ⟨h1, h2⟩ := kOf_good ek
      refine ⟨o :: row, by rw [List.map_cons, ← h1, ← e], fun k hk => ?_⟩
      rcases List.mem_cons.mp hk with z | z
      · exact h2 k z.symm
      · exact g k z

end Kp
namespace Kp
open PySem L2
def top (i : Nat) : Stmt := PySem.Challenge.pw_keepaway_k14_read.main.body.getD i (.Pass ⟨0, 0, 0, 0⟩)
local macro_rules | `(tactic| walk_at "s") => `(tactic| with_reducible first
  | refine up_seq ?_ | refine up_asg ?_ | refine up_name ?_ | refine up_ret ?_ | refine up_if ?_ | refine up_next ?_ | refine up_brk ?_ | refine up_cont ?_ | refine up_drop ?_ | refine up_drK ?_
  | refine up_var (by with_unfolding_all rfl) ?_ | refine up_c ?_ | refine up_op ?_ | refine up_un ?_ | refine up_I0 ?_ | refine up_U ?_ | refine up_eqI ?_ | refine up_neI ?_ | refine up_isN ?_ | refine up_notN ?_
  | refine up_test ?_ | refine up_tB ?_ | refine up_asB ?_ | refine up_and ?_ | refine up_or ?_ | refine up_not ?_ | refine up_notK ?_ | refine up_andVt ?_ | refine up_orVt ?_ | refine up_notVt ?_ | refine up_notV ?_
  | refine up_cons ?_ | refine up_consA ?_ | refine up_consB ?_ | refine up_nil ?_ | refine up_tup ?_ | refine up_lst ?_ | refine up_callT ?_ | refine up_CB ?_ | refine up_BM ?_ | refine up_BM0 ?_
  | refine up_for ?_ | refine up_iList ?_ | refine up_iRng1 ?_ | refine up_iRng2 ?_ | refine up_iRng3 ?_ | refine up_iStr ?_ | refine up_ist ?_ | refine up_lc ?_ | refine up_yes ?_
  | refine up_sub ?_ | refine up_subK ?_ | refine up_sl ?_ | refine up_slK ?_ | refine up_oK ?_ | refine up_noPart ?_ | refine up_part ?_ | refine up_partK ?_ | refine up_tru ?_ | refine up_ifE ?_ | refine up_din ?_ | refine up_dnotin ?_ | refine up_dinA ?_ | refine up_dget ?_ | refine up_dgA ?_ | refine up_dput ?_ | refine up_dpA ?_ | refine up_dpB ?_ | refine up_dget2 ?_ | refine up_d2B ?_ | refine up_dpop1 ?_ | refine up_fld ?_ | refine up_sfld ?_ | refine up_sfA ?_ | refine up_meth ?_ | refine up_make ?_ | refine up_slK ?_ | refine up_max2 ?_ | refine up_min2 ?_ | refine up_callS ?_ | refine up_chain ?_ | refine up_chA ?_ | refine up_chI ?_ | refine up_CK ?_ | refine up_ckA ?_ | refine up_try ?_ | refine up_mtS ?_ | refine up_unE ?_ | refine up_makeX ?_ | refine up_callZ ?_)
local macro_rules | `(tactic| walk_at "r") => `(tactic| repeat (walk_at "s"))
section
variable {P : Program} {w : World} {K : PySem.W.Frag} {mg : Str → Option Value} {base : Heap}

def fCell (K : PySem.W.Frag) : List V → Hp → VK → Prop := fun vs H Q => ∃ (a : Addr) (ns : List Int) (k : Int), vs = [.ref a, .int k] ∧ SqL K H a (ns.map V.int) ∧ 0 ≤ k ∧ Up (Q (.int (cell ns k))) H
abbrev s_law_cell_at : Stmt := top 13
theorem sc_law_cell_at : FnScope ["script", "k"] ["script", "k"] (defScope s_law_cell_at) := ⟨rfl, rfl, rfl, by decide +kernel, rfl, by decide +kernel, by decide +kernel⟩
theorem ok_law_cell_at {f : Addr} {fd : FuncData} (F : Fun K "_law_cell_at" "_law_cell_at" s_law_cell_at f fd) (T : Bl mg) : FnOk P w K mg base CX0 1 f fd ["script", "k"] (KSp (fCell K)) := by
  refine F.ok sc_law_cell_at (fun vs H Q E h => ?_) (fun cdv A outer s H vs Q E hr h => ?_)
  · obtain ⟨_, _, a, ns, k, rfl, _⟩ := h
    rfl
  obtain ⟨H0, e0, a, ns, k, rfl, hS, hk, q⟩ := h
  refine ⟨_, (pss_cons (ps_if (pt_cmpR op_lt (pv 1) (pe_callB kc_len (by rfl) T.len (by decide +kernel) (pa_cons (pv 0) pa_nil)) (by first | exact nomark _ | rfl)) (pss_one (ps_ret (pe_ix (ko_ixL (K := K)) (pv 0) (pv 1) (fun _ _ => rfl)))) pss_nil)
      (pss_one (ps_ret pe_int))), ?_⟩
  refine (?_ : Up _ H0) H e0
  walk_at "r"
  refine up_len hS ?_
  walk_at "r"
  refine up_ifP (fun h => ?_) (fun h => ?_)
  · walk_at "r"
    rw [List.length_map] at h
    refine up_ixL hS (at_of (j := k.toNat) (by omega) (v := .int (cell ns k)) (by
      have hk2 : k.toNat < ns.length := by omega
      rw [List.getElem?_map, List.getElem?_eq_getElem hk2, cell, List.getD_eq_getElem?_getD, List.getElem?_eq_getElem hk2]
      rfl)) ?_
    exact q
  · walk_at "r"
    rw [List.length_map] at h
    have e : cell ns k = 0 := by
      rw [cell, List.getD_eq_getElem?_getD, List.getElem?_eq_none (by omega)]
      rfl
    rw [e] at q
    exact q


def fWhole : List V → Hp → VK → Prop := fun vs H Q => ∃ i : Int, vs = [.int i] ∧ Up (Q (.bl true)) H
abbrev s_law_whole : Stmt := top 14
theorem sc_law_whole : FnScope ["found"] ["found"] (defScope s_law_whole) := ⟨rfl, rfl, rfl, by decide +kernel, rfl, by decide +kernel, by decide +kernel⟩
theorem ok_law_whole {f : Addr} {fd : FuncData} (F : Fun K "_law_whole" "_law_whole" s_law_whole f fd) (T : Bl mg) : FnOk P w K mg base CX0 1 f fd ["found"] (KSp fWhole) := by
  refine F.ok sc_law_whole (fun vs H Q E h => ?_) (fun cdv A outer s H vs Q E hr h => ?_)
  · obtain ⟨_, _, i, rfl, _⟩ := h
    rfl
  obtain ⟨H0, e0, i, rfl, q⟩ := h
  refine ⟨_, (pss_one (ps_ret (pe_and (pe_callB call_isi (by rfl) T.isi (by decide +kernel) (pa_cons (pv 0) (pa_cons (pe_bltn (v := .ty "int") (by rfl) T.int (by decide +kernel) rfl) pa_nil))) (pe_one (pe_not (pe_callB call_isi (by rfl) T.isi (by decide +kernel) (pa_cons (pv 0) (pa_cons (pe_bltn (v := .ty "bool") (by rfl) T.bool (by decide +kernel) rfl) pa_nil)))))))), ?_⟩
  refine (?_ : Up _ H0) H e0
  walk_at "r"
  refine up_isi (.base (.int i)) (r := true) (by decide +kernel) ?_
  refine up_andVK (fun _ => ?_) (fun h => nomatch h)
  walk_at "r"
  refine up_isi (.base (.int i)) (r := false) (by decide +kernel) ?_
  walk_at "r"
  exact q

def fLawList (K : PySem.W.Frag) : List V → Hp → VK → Prop := fun vs H Q => ∃ (p q : Addr) (xs : List V), vs = [.ref p, .ref q] ∧ H p = some (.lst xs) ∧ SqL K H q xs ∧ xs.all flat0 = true ∧ xs.length ≤ 10000 ∧ Up (Q (.bl true)) H
abbrev s_law_list : Stmt := top 16
theorem sc_law_list : FnScope ["found", "due", "k"] ["found", "due"] (defScope s_law_list) := ⟨rfl, rfl, rfl, by decide +kernel, rfl, by decide +kernel, by decide +kernel⟩
theorem ok_law_list {f : Addr} {fd : FuncData} (F : Fun K "_law_list" "_law_list" s_law_list f fd) (T : Bl mg) (c_law_whole : Fn P w K mg base CX0 1 "_law_whole" ["found"] (KSp fWhole)) : FnOk P w K mg base CX0 2 f fd ["found", "due"] (KSp (fLawList K)) := by
  refine F.ok sc_law_list (fun vs H Q E h => ?_) (fun cdv A outer s H vs Q E hr h => ?_)
  · obtain ⟨_, _, p, q, xs, rfl, _⟩ := h
    rfl
  obtain ⟨H0, e0, p, q, xs, rfl, hp, hq, hf, hn, k⟩ := h
  refine ⟨_, (pss_cons (ps_if (PW.pt (pw_or (pt_not (pt_val (pe_callB call_isi (by rfl) T.isi (by decide +kernel) (pa_cons (pv 0) (pa_cons (pe_bltn (v := .ty "list") (by rfl) T.list (by decide +kernel) rfl) pa_nil))))) (pw_or1 (pt_cmpR op_ne (pe_callB kc_len (by rfl) T.len (by decide +kernel) (pa_cons (pv 0) pa_nil)) (pe_callB kc_len (by rfl) T.len (by decide +kernel) (pa_cons (pv 1) pa_nil)) (by first | exact nomark _ | rfl))))) (pss_one (ps_ret pe_bl)) pss_nil)
      (pss_cons (ps_for PassesOwn.never rfl (pi_range1 rfl T.range (pa_cons (pe_callB kc_len (by rfl) T.len (by decide +kernel) (pa_cons (pv 1) pa_nil)) pa_nil)) (pg_name (i := 2) sc_law_list.nd rfl (by first | exact Or.inl rfl | exact Or.inr rfl)) (pss_cons (ps_if (PW.pt (pw_and (pt_cmpR op_notN1 (pe_ix (ko_ixL (K := K)) (pv 0) (pv 2) (fun _ _ => rfl)) pe_non (by first | exact nomark _ | rfl)) (pw_and1 (pt_not (pt_val (kp_call c_law_whole hr (by decide) rfl (pa_cons (pe_ix (ko_ixL (K := K)) (pv 0) (pv 2) (fun _ _ => rfl)) pa_nil))))))) (pss_one (ps_ret pe_bl)) pss_nil)
      (pss_one (ps_if (pt_cmpR op_ne (pe_ix (ko_ixL (K := K)) (pv 0) (pv 2) (fun _ _ => rfl)) (pe_ix (ko_ixL (K := K)) (pv 1) (pv 2) (fun _ _ => rfl)) (by first | exact nomark _ | rfl)) (pss_one (ps_ret pe_bl)) pss_nil))))
      (pss_one (ps_ret pe_bl)))), ?_⟩
  refine (?_ : Up _ H0) H e0
  have hP : SqL K H0 p xs := SqL.of hp
  walk_at "r"
  refine up_isi (.base (.lst hp)) (r := true) (by decide +kernel) ?_
  walk_at "r"
  refine up_orF rfl ?_
  walk_at "r"
  refine up_len hP ?_
  walk_at "r"
  refine up_len hq ?_
  walk_at "r"
  refine up_ifF (by simp) ?_
  walk_at "r"
  refine up_len hq ?_
  walk_at "r"
  refine up_rg1 (by omega) (by omega) ?_
  refine up_forR0 (fun i σ H' => H' = H0 ∧ ∃ v2, σ = [some (.ref p), some (.ref q), v2]) ⟨rfl, none, rfl⟩ ?_ ?_
  · rintro i σ H' hi ⟨rfl, v2, rfl⟩
    have hi' : i < xs.length := by omega
    have hx : atI xs (i : Int) = some xs[i] := atI_nat (List.getElem?_eq_getElem hi')
    have hfx : flat0 xs[i] = true := List.all_eq_true.mp hf _ (List.getElem_mem hi')
    generalize xs[i] = x at hx hfx
    walk_at "r"
    refine up_ixL hP hx ?_
    walk_at "r"
    cases x with
    | non =>
      refine up_andF rfl ?_
      refine up_ifF rfl ?_
      walk_at "r"
      refine up_ixL hP hx ?_
      walk_at "r"
      refine up_ixL hq hx ?_
      refine up_neV rfl ?_
      walk_at "r"
      refine up_ifF (by simp) ?_
      walk_at "r"
      exact up_lo ⟨rfl, _, rfl⟩
    | int j =>
      refine up_andT rfl ?_
      walk_at "r"
      refine up_ixL hP hx ?_
      walk_at "r"
      refine up_call ⟨j, rfl, ?_⟩
      walk_at "r"
      refine up_ifF rfl ?_
      walk_at "r"
      refine up_ixL hP hx ?_
      walk_at "r"
      refine up_ixL hq hx ?_
      walk_at "r"
      refine up_ifF (by simp) ?_
      walk_at "r"
      exact up_lo ⟨rfl, _, rfl⟩
    | _ => cases hfx
  · rintro σ H' ⟨rfl, v2, rfl⟩
    walk_at "r"
    exact k

structure Zn (mg : Str → Option Value) : Prop where
  g_LETTERS : ∃ u, mg "LETTERS" = some u ∧ RelV (.str letters) u
abbrev s_kind_of : Stmt := top 10
theorem sc_kind_of : FnScope ["sign", "kind"] ["sign"] (defScope s_kind_of) := ⟨rfl, rfl, rfl, by decide +kernel, rfl, by decide +kernel, by decide +kernel⟩
def fKindOf (BT : Addr) : List V → Hp → VK → XK → Prop := fun vs H Q E => ∃ c : Nat, vs = [.str ⟨#[c]⟩] ∧ c < 128 ∧ (∀ o, kOf c = some o → Up (Q (rv o)) H) ∧ (kOf c = none → Up (E (.ref BT) none) H)
theorem ok_kind_of {f : Addr} {fd : FuncData} (F : Fun K "kind_of" "kind_of" s_kind_of f fd) (T : Bl mg) (Z : Zn mg) {BT : Addr} (e_BadText : Er K mg "BadText" BT) : FnOk P w K mg base (L2.CX P w) 1 f fd ["sign"] (KSx (fKindOf BT)) := by
  refine F.okX sc_kind_of (fun vs H Q E h => ?_) (fun cdv A outer s H vs Q E hr h => ?_)
  · obtain ⟨_, _, c, rfl, _⟩ := h
    rfl
  obtain ⟨H0, e0, c, rfl, hc, k1, k0⟩ := h
  refine ⟨_, (pss_cons (ps_if (pt_cmpR op_eq (pv 0) pe_str (by first | exact nomark _ | rfl)) (pss_one (ps_ret pe_non)) pss_nil)
      (pss_cons (ps_set (i := 1) sc_kind_of.nd rfl (by first | exact Or.inl rfl | exact Or.inr rfl) (kp_bm (K := K) PySem.F.plainAttrs_str PySem.F.slot_str_find PySem.F.type_str_find kt_find (kp_glob rfl Z.g_LETTERS) (pa_cons (pv 0) pa_nil)))
      (pss_cons (ps_if (pt_cmpR op_lt (pv 1) pe_int (by first | exact nomark _ | rfl)) (pss_one (kp_raise rfl (kp_takes rfl rfl rfl rfl) e_BadText rfl)) pss_nil)
      (pss_one (ps_ret (pv 1)))))), ?_⟩
  refine (?_ : Up _ H0) H e0
  walk_at "r"
  refine up_eqV rfl ?_
  rw [dot_eq]
  walk_at "r"
  cases ek : kOf c with
  | some o =>
    obtain ⟨hco, ho⟩ := kOf_good ek
    have k := k1 o ek
    subst hco
    cases o with
    | none =>
      refine up_ifT (decide_eq_true rfl) ?_
      walk_at "r"
      exact k
    | some m =>
      have hm := ho m rfl
      have ne : ¬ V.str (sgn (some m)) = V.str (sgn none) := fun e => by
        have e2 : (#[97 + m] : Array Nat) = #[46] := congrArg Str.cps (V.str.inj e)
        have e3 : 97 + m = 46 := by simpa using e2
        omega
      refine up_ifF (decide_eq_false ne) ?_
      walk_at "r"
      refine up_bmS ?_
      walk_at "r"
      refine up_find ?_
      rw [show PySem.Txt.find letters ⟨#[code (some m)]⟩ = (m : Int) from find_letter m hm]
      walk_at "r"
      refine up_ifF (decide_eq_false (by omega)) ?_
      walk_at "r"
      exact k
  | none =>
    have ne : ¬ V.str ⟨#[c]⟩ = V.str (sgn none) := fun e => by
      have e2 : (#[c] : Array Nat) = #[46] := congrArg Str.cps (V.str.inj e)
      have e3 : c = 46 := by simpa using e2
      exact kOf_ne46 ek e3
    refine up_ifF (decide_eq_false ne) ?_
    walk_at "r"
    refine up_bmS ?_
    walk_at "r"
    refine up_find ?_
    rw [find_other c hc ek]
    walk_at "r"
    refine up_ifT (by decide) ?_
    walk_at "r"
    exact up_raise (k0 ek)
abbrev s_read : Stmt := top 11
theorem sc_read : FnScope ["text", "sign"] ["text"] (defScope s_read) := ⟨rfl, rfl, rfl, by decide +kernel, rfl, by decide +kernel, by decide +kernel⟩
def fRead (BT : Addr) : List V → Hp → VK → XK → Prop := fun vs H Q E => ∃ cs : List Nat, vs = [.str (tx cs)] ∧ (∀ c ∈ cs, c < 128) ∧ cs.length ≤ 1000 ∧ (∀ row, cs = row.map code → Good row → ∀ p, H p = none → Up (Q (.ref p)) (upd H p (.lst (row.map rv)))) ∧
  ((∃ c ∈ cs, kOf c = none) → ∀ H', Same H H' → Up (E (.ref BT) none) H')
theorem ok_read {f : Addr} {fd : FuncData} (F : Fun K "read" "read" s_read f fd) (T : Bl mg) {BT : Addr} (c_kind_of : Fn P w K mg base (L2.CX P w) 1 "kind_of" ["sign"] (KSx (fKindOf BT))) : FnOk P w K mg base (L2.CX P w) 2 f fd ["text"] (KSx (fRead BT)) := by
  refine F.okX sc_read (fun vs H Q E h => ?_) (fun cdv A outer s H vs Q E hr h => ?_)
  · obtain ⟨_, _, cs, rfl, _⟩ := h
    rfl
  obtain ⟨H0, e0, cs, rfl, hc, hn, k1, k0⟩ := h
  refine ⟨_, (pss_one (ps_ret (pe_lcX (own := [("sign", 1)]) (g := gName 1) (tt := tYes) rfl rfl rfl (kp_takes rfl rfl rfl rfl) sc_read.nd (pi_str (pv 0)) (blkOk_by (own := [("sign", 1)]) (N := ["text", "sign"]) (sc := defScope s_read) (by decide +kernel)) (fun _ _ _ _ _ _ => pg_name (i := 1) sc_read.nd rfl (by first | exact Or.inl rfl | exact Or.inr rfl)) (fun _ _ _ _ _ _ => pts_nil) (fun _ _ _ _ _ _ pa => (kp_callP c_kind_of pa hr (by decide) rfl (pa_cons (pv 1) pa_nil)))))), ?_⟩
  refine (?_ : Up _ H0) H e0
  walk_at "r"
  refine up_lcS (fun _ => rfl) (fun D i H' => ∃ row : List (Option Nat), cs.take i = row.map code ∧ Good row ∧ H' = upd H0 D (.lst (row.map rv))) (fun D hD => ⟨[], rfl, fun k h => (by cases h), rfl⟩) ?_ ?_
  · rintro D i c H' hD hci ⟨row, er, gr, rfl⟩
    have hci' := tx_at hci
    have hcm := List.mem_of_getElem? hci'
    have hil := (List.getElem?_eq_some_iff.mp hci').1
    walk_at "r"
    refine up_keep1 rfl ?_
    walk_at "r"
    refine up_csX ⟨c, rfl, hc c hcm, fun o ho => ?_, fun hb => ?_⟩
    · have hrl : row.length = i := by
        have := congrArg List.length er
        rw [List.length_take, List.length_map] at this
        omega
      obtain ⟨h1, h2⟩ := kOf_good ho
      refine up_putD upd_same (by rw [List.length_map]; omega) ?_
      refine up_lh ⟨row ++ [o], ?_, fun k hk => ?_, ?_⟩
      · rw [List.take_add_one, hci', er, List.map_append, h1]
        rfl
      · rcases List.mem_append.mp hk with z | z
        · exact gr k z
        · exact h2 k (List.mem_singleton.mp z).symm
      · rw [upd_upd, List.map_append]
        rfl
    · exact k0 ⟨c, hcm, hb⟩ _ (same_new hD _)
  · rintro D H' hD ⟨row, er, gr, rfl⟩
    rw [tx_size, List.take_length] at er
    exact k1 row er gr D hD

abbrev s_law_tried : Stmt := top 19
theorem sc_law_tried : FnScope ["text", "found", "kinds", "e"] ["text"] (defScope s_law_tried) := ⟨rfl, rfl, rfl, by decide +kernel, rfl, by decide +kernel, by decide +kernel⟩
def kd7 : List V := [.bl true, .bl false, .bl false, .bl false, .bl false, .bl false, .bl true]
def fTried : List V → Hp → VK → Prop := fun vs H Q => ∃ cs : List Nat, vs = [.str (tx cs)] ∧ (∀ c ∈ cs, c < 128) ∧ cs.length ≤ 1000 ∧
  (∀ row, cs = row.map code → Good row → ∀ H' r l kl, Same H H' → H' r = some (.tup [.ref l, .ref kl]) → H' l = some (.lst (row.map rv)) → H' kl = some (.lst []) → Up (Q (.ref r)) H') ∧
  ((∃ c ∈ cs, kOf c = none) → ∀ H' r kl, Same H H' → H' r = some (.tup [.non, .ref kl]) → H' kl = some (.lst kd7) → Up (Q (.ref r)) H')
theorem ok_law_tried {f : Addr} {fd : FuncData} (F : Fun K "_law_tried" "_law_tried" s_law_tried f fd) (T : Bl mg) {B D1 D2 D3 D4 D5 D6 : Addr} (xf : Xf K B) (zV : mg "ValueError" = none) (f_RowError : Fm K mg B "RowError" D6 true) (f_BadText : Fm K mg B "BadText" B true) (f_NoWish : Fm K mg B "NoWish" D1 false) (f_TooGreat : Fm K mg B "TooGreat" D2 false) (f_NoSuch : Fm K mg B "NoSuch" D3 false) (f_NoRow : Fm K mg B "NoRow" D4 false) (f_Bare : Fm K mg B "Bare" D5 false)
    (c_read : Fn P w K mg base (L2.CX P w) 2 "read" ["text"] (KSx (fRead B))) : FnOk P w K mg base CX0 3 f fd ["text"] (KSp fTried) := by
  refine F.ok sc_law_tried (fun vs H Q E h => ?_) (fun cdv A outer s H vs Q E hr h => ?_)
  · obtain ⟨_, _, cs, rfl, _⟩ := h
    rfl
  obtain ⟨H0, e0, cs, rfl, hc, hn, q1, q0⟩ := h
  refine ⟨_, (pss_cons (ps_set (i := 1) sc_law_tried.nd rfl (by first | exact Or.inl rfl | exact Or.inr rfl) pe_non)
      (pss_cons (ps_set (i := 2) sc_law_tried.nd rfl (by first | exact Or.inl rfl | exact Or.inr rfl) (pe_lst pa_nil))
      (pss_cons (kp_try (K := K) (i := 3) rfl rfl sc_law_tried.nd rfl rfl ⟨rfl, by decide, .inl f_RowError.g⟩ takes0 (fun W pn xe tk _ => (pss_one (ps_set (i := 1) sc_law_tried.nd rfl (by first | exact Or.inl rfl | exact Or.inr rfl) (kp_callX c_read tk hr (by decide) rfl (pa_cons (pv 0) pa_nil)))))
      (fun a oe cls d pn hz hf => (pss_cons (ps_set (i := 2) sc_law_tried.nd rfl (by first | exact Or.inl rfl | exact Or.inr rfl) (pe_lst (pa_cons (pe_callB (cr_isX hz hf) (by rfl) T.isi (by decide +kernel) (pa_cons (pv 3) (pa_cons (pe_glob (v := .ref _) rfl f_BadText.g rfl) pa_nil))) (pa_cons (pe_callB (cr_isX hz hf) (by rfl) T.isi (by decide +kernel) (pa_cons (pv 3) (pa_cons (pe_glob (v := .ref _) rfl f_NoWish.g rfl) pa_nil))) (pa_cons (pe_callB (cr_isX hz hf) (by rfl) T.isi (by decide +kernel) (pa_cons (pv 3) (pa_cons (pe_glob (v := .ref _) rfl f_TooGreat.g rfl) pa_nil))) (pa_cons (pe_callB (cr_isX hz hf) (by rfl) T.isi (by decide +kernel) (pa_cons (pv 3) (pa_cons (pe_glob (v := .ref _) rfl f_NoSuch.g rfl) pa_nil))) pa_nil))))))
      (pss_one (ps_set (i := 2) sc_law_tried.nd rfl (by first | exact Or.inl rfl | exact Or.inr rfl) (pe_op op_cat (pv 2) (pe_lst (pa_cons (pe_callB (cr_isX hz hf) (by rfl) T.isi (by decide +kernel) (pa_cons (pv 3) (pa_cons (pe_glob (v := .ref _) rfl f_NoRow.g rfl) pa_nil))) (pa_cons (pe_callB (cr_isX hz hf) (by rfl) T.isi (by decide +kernel) (pa_cons (pv 3) (pa_cons (pe_glob (v := .ref _) rfl f_Bare.g rfl) pa_nil))) (pa_cons (pe_callB (cr_isX hz hf) (by rfl) T.isi (by decide +kernel) (pa_cons (pv 3) (pa_cons (pe_bltn (v := .ty "ValueError") (by rfl) zV (by decide +kernel) rfl) pa_nil))) pa_nil))))))))))
      (pss_one (ps_ret (pe_tup (pa_cons (pv 1) (pa_cons (pv 2) pa_nil)))))))), ?_⟩
  refine (?_ : Up _ H0) H e0
  walk_at "r"
  refine up_lstK (by decide) fun kl hkl => ?_
  walk_at "r"
  have sk : ∀ o, Same H0 (upd H0 kl o) := fun o => same_new hkl o
  have hk1 : upd H0 kl (.lst []) kl = some (.lst []) := upd_same
  refine up_csX ⟨cs, rfl, hc, hn, fun row er gr l hl => ?_, fun hb H' sm => ?_⟩
  · walk_at "r"
    refine up_tupK (show 2 ≤ 100000 by decide) fun r hr0 => ?_
    exact q1 row er gr _ r l kl (((sk _).trans (same_new hl _)).trans (same_new hr0 _)) upd_same (up_fresh hr0 upd_same) (up_fresh hr0 (up_fresh hl hk1))
  · refine up_caught f_RowError.exm fun e he => ?_
    walk_at "r"
    refine up_isX xf f_BadText ?_
    walk_at "r"
    refine up_isX xf f_NoWish ?_
    walk_at "r"
    refine up_isX xf f_TooGreat ?_
    walk_at "r"
    refine up_isX xf f_NoSuch ?_
    walk_at "r"
    refine up_lstK (show 4 ≤ 100000 by decide) fun k1 hk1' => ?_
    walk_at "r"
    refine up_isX xf f_NoRow ?_
    walk_at "r"
    refine up_isX xf f_Bare ?_
    walk_at "r"
    refine up_isXV xf ?_
    walk_at "r"
    refine up_lstK (show 3 ≤ 100000 by decide) fun k2 hk2' => ?_
    refine up_cat (up_fresh hk2' upd_same) upd_same (by decide) fun k3 hk3' => ?_
    walk_at "r"
    refine up_tupK (show 2 ≤ 100000 by decide) fun r hr0 => ?_
    refine q0 hb _ r k3 ((((sk _).trans sm).trans ((same_new hk1' _).trans (same_new hk2' _))).trans ((same_new hk3' _).trans (same_new hr0 _))) upd_same ?_
    exact up_fresh hr0 upd_same

abbrev s_law : Stmt := top 20
theorem sc_law : FnScope ["script", "text", "k", "odd", "at", "sign", "tried", "due"] ["script"] (defScope s_law) := ⟨rfl, rfl, rfl, by decide +kernel, rfl, by decide +kernel, by decide +kernel⟩
theorem ok_law {f : Addr} {fd : FuncData} (F : Fun K "law" "law" s_law f fd) (T : Bl mg) (c_law_cell_at : Fn P w K mg base CX0 1 "_law_cell_at" ["script", "k"] (KSp (fCell K))) (c_law_list : Fn P w K mg base CX0 2 "_law_list" ["found", "due"] (KSp (fLawList K))) (c_law_tried : Fn P w K mg base CX0 3 "_law_tried" ["text"] (KSp fTried)) :
    FnOk P w K mg base CX0 4 f fd ["script"] (KSp (fLaw K)) := by
  refine F.ok sc_law (fun vs H Q E h => ?_) (fun cdv A outer s H vs Q E hr h => ?_)
  · obtain ⟨_, _, a, ns, rfl, _⟩ := h
    rfl
  obtain ⟨H0, e0, a, ns, rfl, hS, hn, q⟩ := h
  refine ⟨_, (pss_cons (ps_set (i := 1) sc_law.nd rfl (by first | exact Or.inl rfl | exact Or.inr rfl) pe_str)
      (pss_cons (ps_for PassesOwn.never rfl (pi_range1 rfl T.range (pa_cons (pe_op op_mod (kp_call c_law_cell_at hr (by decide) rfl (pa_cons (pv 0) (pa_cons pe_int pa_nil))) pe_int) pa_nil)) (pg_name (i := 2) sc_law.nd rfl (by first | exact Or.inl rfl | exact Or.inr rfl)) (pss_one (ps_set (i := 1) sc_law.nd rfl (by first | exact Or.inl rfl | exact Or.inr rfl) (pe_op ko_addS (pv 1) (pe_ix ix_str pe_str (pe_op op_mod (kp_call c_law_cell_at hr (by decide) rfl (pa_cons (pv 0) (pa_cons (pe_op op_add pe_int (pv 2)) pa_nil))) pe_int) (fun _ _ => rfl))))))
      (pss_cons (ps_set (i := 3) sc_law.nd rfl (by first | exact Or.inl rfl | exact Or.inr rfl) (pe_op op_mod (kp_call c_law_cell_at hr (by decide) rfl (pa_cons (pv 0) (pa_cons pe_int pa_nil))) pe_int))
      (pss_cons (ps_for PassesOwn.never rfl (pi_range1 rfl T.range (pa_cons (pv 3) pa_nil)) (pg_name (i := 2) sc_law.nd rfl (by first | exact Or.inl rfl | exact Or.inr rfl)) (pss_cons (ps_set (i := 4) sc_law.nd rfl (by first | exact Or.inl rfl | exact Or.inr rfl) (pe_op op_mod (pe_op op_fdiv (kp_call c_law_cell_at hr (by decide) rfl (pa_cons (pv 0) (pa_cons pe_int pa_nil))) (pe_op op_add pe_int (pe_op op_mul pe_int (pv 2)))) (pe_op op_add (pe_callB kc_lenZ (by rfl) T.len (by decide +kernel) (pa_cons (pv 1) pa_nil)) pe_int)))
      (pss_cons (ps_set (i := 5) sc_law.nd rfl (by first | exact Or.inl rfl | exact Or.inr rfl) (pe_ix ix_str pe_str (pe_op op_mod (pe_op op_fdiv (kp_call c_law_cell_at hr (by decide) rfl (pa_cons (pv 0) (pa_cons pe_int pa_nil))) (pe_op op_add pe_int (pe_op op_mul pe_int (pv 2)))) pe_int) (fun _ _ => rfl)))
      (pss_one (ps_set (i := 1) sc_law.nd rfl (by first | exact Or.inl rfl | exact Or.inr rfl) (pe_op ko_addS (pe_op ko_addS (pe_slice sl_str (pv 1) po_none (po_some (pv 4))) (pv 5)) (pe_slice sl_str (pv 1) (po_some (pv 4)) po_none)))))))
      (pss_cons (ps_set (i := 6) sc_law.nd rfl (by first | exact Or.inl rfl | exact Or.inr rfl) (kp_call c_law_tried hr (by decide) rfl (pa_cons (pv 1) pa_nil)))
      (pss_cons (ps_if (pt_cmpR op_gt (pv 3) pe_int (by first | exact nomark _ | rfl)) (pss_one (ps_ret (pe_cmpR (op_eqD hr.units) (pv 6) (pe_tup (pa_cons pe_non (pa_cons (pe_lst (pa_cons pe_bl (pa_cons pe_bl (pa_cons pe_bl (pa_cons pe_bl (pa_cons pe_bl (pa_cons pe_bl (pa_cons pe_bl pa_nil)))))))) pa_nil))) (by first | exact nomark _ | rfl)))) pss_nil)
      (pss_cons (ps_set (i := 7) sc_law.nd rfl (by first | exact Or.inl rfl | exact Or.inr rfl) (pe_lst pa_nil))
      (pss_cons (ps_for PassesOwn.never rfl (pi_str (pv 1)) (pg_name (i := 5) sc_law.nd rfl (by first | exact Or.inl rfl | exact Or.inr rfl)) (pss_one (ps_if (pt_cmpR op_eq (pv 5) pe_str (by first | exact nomark _ | rfl)) (pss_one (ps_expr (kp_bm (K := K) PySem.F.plainAttrs_list PySem.F.slot_list_append PySem.F.type_list_append mt_append (pv 7) (pa_cons pe_non pa_nil)))) (pss_one (ps_expr (kp_bm (K := K) PySem.F.plainAttrs_list PySem.F.slot_list_append PySem.F.type_list_append mt_append (pv 7) (pa_cons (kp_bm (K := K) PySem.F.plainAttrs_str PySem.F.slot_str_index PySem.F.type_str_index kt_sindex pe_str (pa_cons (pv 5) pa_nil)) pa_nil)))))))
      (pss_one (ps_ret (pe_and (pe_cmpR (op_eqD hr.units) (pe_ix (ko_ixT (K := K)) (pv 6) pe_int (fun _ _ => rfl)) (pe_lst pa_nil) (by first | exact nomark _ | rfl)) (pe_one (kp_call c_law_list hr (by decide) rfl (pa_cons (pe_ix (ko_ixT (K := K)) (pv 6) pe_int (fun _ _ => rfl)) (pa_cons (pv 7) pa_nil))))))))))))))), ?_⟩
  refine (?_ : Up _ H0) H e0
  walk_at "r"
  refine up_call ⟨a, ns, _, rfl, hS, by decide, ?_⟩
  walk_at "r"
  refine up_I (by decide) ?_
  walk_at "r"
  have n1 := Int.emod_nonneg (cell ns 0) (show (21 : Int) ≠ 0 by decide)
  have n2 := Int.emod_lt_of_pos (cell ns 0) (show (0 : Int) < 21 by decide)
  generalize cell ns 0 % 21 = n at n1 n2
  refine up_rg1 (by omega) (by omega) ?_
  refine up_forR0 (fun i σ H' => H' = H0 ∧ ∃ (cs : List Nat) (v2 : Option V), cs.length = i ∧ (∀ c ∈ cs, c < 128 ∧ kOf c ≠ none) ∧ σ = [some (.ref a), some (.str (tx cs)), v2, none, none, none, none, none]) ⟨rfl, [], none, rfl, fun c h => (by cases h), rfl⟩ ?_ ?_
  · rintro i σ H' hi ⟨rfl, cs, v2, hl, hc, rfl⟩
    walk_at "r"
    refine up_call ⟨a, ns, _, rfl, hS, by omega, ?_⟩
    walk_at "r"
    refine up_I (by decide) ?_
    walk_at "r"
    have k1 := Int.emod_nonneg (cell ns (4 + i)) (show (29 : Int) ≠ 0 by decide)
    have k2 := Int.emod_lt_of_pos (cell ns (4 + i)) (show (0 : Int) < 29 by decide)
    obtain ⟨k, hk⟩ : ∃ k : Nat, cell ns (4 + i) % 29 = k := ⟨(cell ns (4 + i) % 29).toNat, (Int.toNat_of_nonneg k1).symm⟩
    rw [hk, l29_eq]
    obtain ⟨c, h1, h2, h3⟩ := l29_at k (by omega)
    refine up_ixS (by decide +kernel) (atI_nat h1) ?_
    walk_at "r"
    rw [tx_one]
    refine up_addS (by rw [tx_len, tx_len, List.length_singleton]; omega) ?_
    walk_at "r"
    rw [tx_app]
    refine up_lo ⟨rfl, cs ++ [c], _, by rw [List.length_append, hl]; rfl, fun x hx => ?_, rfl⟩
    rcases List.mem_append.mp hx with z | z
    · exact hc x z
    · rw [List.mem_singleton.mp z]; exact ⟨h2, h3⟩
  rintro σ H' ⟨rfl, cs0, v2, hl0, hc0, rfl⟩
  walk_at "r"
  refine up_call ⟨a, ns, _, rfl, hS, by decide, ?_⟩
  walk_at "r"
  refine up_I (by decide) ?_
  walk_at "r"
  have o1 := Int.emod_nonneg (cell ns 1) (show (4 : Int) ≠ 0 by decide)
  have o2 := Int.emod_lt_of_pos (cell ns 1) (show (0 : Int) < 4 by decide)
  generalize cell ns 1 % 4 = odd at o1 o2
  refine up_rg1 (by omega) (by omega) ?_
  refine up_forR0 (fun i σ H2 => H2 = H' ∧ ∃ (cs : List Nat) (v2 v4 v5 : Option V), cs.length ≤ 20 + i ∧ (∀ c ∈ cs, c < 128) ∧ (i = 0 → cs = cs0) ∧ (0 < i → ∃ c ∈ cs, kOf c = none) ∧ σ = [some (.ref a), some (.str (tx cs)), v2, some (.int odd), v4, v5, none, none])
    ⟨rfl, cs0, v2, none, none, by omega, fun c h => (hc0 c h).1, fun _ => rfl, fun h => absurd h (Nat.lt_irrefl 0), rfl⟩ ?_ ?_
  · rintro i σ H2 hi ⟨rfl, cs, v2, v4, v5, hl, hc, _, _, rfl⟩
    have hi3 : i < 3 := by omega
    walk_at "r"
    refine up_call ⟨a, ns, _, rfl, hS, by decide, ?_⟩
    walk_at "r"
    refine up_I (.inl ⟨by omega, by omega⟩) ?_
    walk_at "r"
    refine up_I ⟨by omega, by omega⟩ ?_
    walk_at "r"
    refine up_lenZ (by rw [tx_len]; omega) ?_
    rw [tx_len]
    walk_at "r"
    refine up_I (by omega) ?_
    walk_at "r"
    have a1 := Int.emod_nonneg (cell ns 2 / (1 + 30 * (i : Int))) (show (cs.length : Int) + 1 ≠ 0 by omega)
    have a2 := Int.emod_lt_of_pos (cell ns 2 / (1 + 30 * (i : Int))) (show (0 : Int) < (cs.length : Int) + 1 by omega)
    obtain ⟨at_, hat⟩ : ∃ at_ : Nat, cell ns 2 / (1 + 30 * (i : Int)) % ((cs.length : Int) + 1) = at_ := ⟨_, (Int.toNat_of_nonneg a1).symm⟩
    rw [hat]
    refine up_call ⟨a, ns, _, rfl, hS, by decide, ?_⟩
    walk_at "r"
    refine up_I (.inl ⟨by omega, by omega⟩) ?_
    walk_at "r"
    refine up_I ⟨by omega, by omega⟩ ?_
    walk_at "r"
    refine up_I (by decide) ?_
    walk_at "r"
    have k1 := Int.emod_nonneg (cell ns 3 / (1 + 18 * (i : Int))) (show (17 : Int) ≠ 0 by decide)
    have k2 := Int.emod_lt_of_pos (cell ns 3 / (1 + 18 * (i : Int))) (show (0 : Int) < 17 by decide)
    obtain ⟨k, hk⟩ : ∃ k : Nat, cell ns 3 / (1 + 18 * (i : Int)) % 17 = k := ⟨_, (Int.toNat_of_nonneg k1).symm⟩
    rw [hk, l17_eq]
    obtain ⟨c, h1, h2, h3⟩ := l17_at k (by omega)
    refine up_ixS (by decide +kernel) (atI_nat h1) ?_
    walk_at "r"
    refine up_slS (by rw [tx_len]; omega) ?_
    rw [tx_cutL]
    walk_at "r"
    rw [tx_one]
    refine up_addS (by rw [tx_len, tx_len, List.length_singleton, List.length_take]; omega) ?_
    rw [tx_app]
    walk_at "r"
    refine up_slS (by rw [tx_len]; omega) ?_
    rw [tx_cutR]
    refine up_addS (by rw [tx_len, tx_len, List.length_append, List.length_singleton, List.length_take, List.length_drop]; omega) ?_
    rw [tx_app]
    walk_at "r"
    refine up_lo ⟨rfl, _, _, _, _, ?_, fun x hx => ?_, fun z => absurd z (Nat.succ_ne_zero i), fun _ => ⟨c, List.mem_append_left _ (List.mem_append_right _ (List.mem_singleton.mpr rfl)), h3⟩, rfl⟩
    · rw [List.length_append, List.length_append, List.length_singleton, List.length_take, List.length_drop]
      omega
    · rcases List.mem_append.mp hx with z | z
      · rcases List.mem_append.mp z with z | z
        · exact hc x (List.mem_of_mem_take z)
        · rw [List.mem_singleton.mp z]; exact h2
      · exact hc x (List.mem_of_mem_drop z)
  rintro σ H2 ⟨rfl, cs, v2', v4, v5, hl, hc, hz, hp, rfl⟩
  walk_at "r"
  by_cases hodd : odd > 0
  · refine up_call ⟨cs, rfl, hc, by omega, fun row er gr => ?_, fun hb H3 r kl sm hr0 hk0 => ?_⟩
    · obtain ⟨c, hcm, hcn⟩ := hp (by omega)
      rw [er] at hcm
      obtain ⟨o, ho, e⟩ := List.mem_map.mp hcm
      refine absurd hcn ?_
      rw [← e]
      cases o with
      | none => intro z; cases z
      | some k =>
        have := gr k ho
        show (if 97 + k = 46 then some none else if 97 ≤ 97 + k ∧ 97 + k ≤ 122 then some (some (97 + k - 97)) else none) ≠ none
        rw [if_neg (by omega), if_pos (by omega)]
        intro z
        cases z
    · walk_at "r"
      refine up_ifT (decide_eq_true hodd) ?_
      walk_at "r"
      refine up_lstK (show 7 ≤ 100000 by decide) fun l hl' => ?_
      walk_at "r"
      refine up_tupK (show 2 ≤ 100000 by decide) fun t ht => ?_
      have s4 := (same_new hl' (.lst kd7)).trans (same_new ht (.tup [.non, .ref l]))
      have dk : ∀ {H : Hp} {u : Addr}, H u = some (.lst kd7) → Dp K H (.ref u) (.list [.bool true, .bool false, .bool false, .bool false, .bool false, .bool false, .bool true]) := fun hu => .lst (.of hu) (.cons (.bl _) (.cons (.bl _) (.cons (.bl _) (.cons (.bl _) (.cons (.bl _) (.cons (.bl _) (.cons (.bl _) .nil)))))))
      refine up_eqSame (d := .tuple [.none, .list [.bool true, .bool false, .bool false, .bool false, .bool false, .bool false, .bool true]]) (.tup (.of (s4 _ _ hr0)) (.cons .non (.cons (dk (s4 _ _ hk0)) .nil))) (.tup (.of upd_same) (.cons .non (.cons (dk (up_fresh ht upd_same)) .nil))) (by decide +kernel) ?_
      exact q.mono (sm.trans s4)
  · have h0 : odd = 0 := by omega
    subst h0
    have ecs := hz rfl
    subst ecs
    refine up_call ⟨cs, rfl, hc, by omega, fun row er gr H3 r l kl sm hr0 hl3 hk0 => ?_, fun hb => ?_⟩
    · walk_at "r"
      refine up_ifF (decide_eq_false hodd) ?_
      walk_at "r"
      refine up_lstK (by decide) fun d hd => ?_
      walk_at "r"
      have hrl : row.length = cs.length := by rw [er, List.length_map]
      have etx : tx cs = txt row := by rw [er]; rfl
      rw [etx]
      refine up_forS (fun i σ H4 => H4 = upd H3 d (.lst ((row.take i).map rv)) ∧ ∃ v5, σ = [some (.ref a), some (.str (txt row)), v2', some (.int 0), v4, v5, some (.ref r), some (.ref d)]) ⟨rfl, v5, rfl⟩ ?_ ?_
      · rintro i c σ H4 hci ⟨rfl, v5, rfl⟩
        obtain ⟨o, ho, rfl⟩ := txt_at hci
        have hil := (List.getElem?_eq_some_iff.mp ho).1
        have hgo := gr.at ho
        have hend : ∀ v, Up (Lo (fun σ H4 => H4 = upd H3 d (.lst ((row.take (i + 1)).map rv)) ∧ ∃ v5, σ = [some (V.ref a), some (V.str (txt row)), v2', some (V.int 0), v4, v5, some (V.ref r), some (V.ref d)]) [some (V.ref a), some (V.str (txt row)), v2', some (V.int 0), v4, v, some (V.ref r), some (V.ref d)]) (upd (upd H3 d (.lst ((row.take i).map rv))) d (.lst ((row.take i).map rv ++ [rv o]))) := fun v => by
          refine up_lo ⟨?_, v, rfl⟩
          rw [upd_upd, List.take_add_one, ho, List.map_append]
          rfl
        walk_at "r"
        refine up_eqV rfl ?_
        rw [dot_eq]
        walk_at "r"
        cases o with
        | none =>
          refine up_ifT (decide_eq_true rfl) ?_
          walk_at "r"
          refine up_bmL (SqL.of upd_same) ?_
          walk_at "r"
          refine up_append upd_same (by rw [List.length_map, List.length_take]; omega) ?_
          walk_at "r"
          exact hend _
        | some m =>
          have hm := hgo m rfl
          have ne : ¬ V.str ⟨#[code (some m)]⟩ = V.str (sgn none) := fun e => by
            have e2 : (#[97 + m] : Array Nat) = #[46] := congrArg Str.cps (V.str.inj e)
            have e3 : 97 + m = 46 := by simpa using e2
            omega
          refine up_ifF (decide_eq_false ne) ?_
          walk_at "r"
          refine up_bmL (SqL.of upd_same) ?_
          walk_at "r"
          refine up_bmS ?_
          walk_at "r"
          rw [letters_eq]
          refine up_sindex (i := m) (rest := []) (occ_letter m hm) ?_
          walk_at "r"
          refine up_append upd_same (by rw [List.length_map, List.length_take]; omega) ?_
          walk_at "r"
          exact hend _
      · rintro σ H4 ⟨rfl, v5, rfl⟩
        rw [txt_size, List.take_length]
        have s4 := same_new hd (.lst (row.map rv))
        walk_at "r"
        refine up_ixT (SqT.of (s4 _ _ hr0)) (at_of (j := 1) rfl rfl) ?_
        walk_at "r"
        refine up_lstK (by decide) fun u hu => ?_
        refine up_eqLL (xs := []) (ys := []) (SqL.of (up_fresh hu (s4 _ _ hk0))) (SqL.of upd_same) rfl rfl ?_
        refine up_andVK (fun _ => ?_) (fun h => by simp at h)
        have s5 := s4.trans (same_new hu (.lst []))
        walk_at "r"
        refine up_ixT (SqT.of (s5 _ _ hr0)) (at_of (j := 0) rfl rfl) ?_
        walk_at "r"
        refine up_call ⟨l, d, _, rfl, s5 _ _ hl3, SqL.of (up_fresh hu upd_same), rv_flat row, by rw [List.length_map]; omega, ?_⟩
        exact q.mono (sm.trans s5)
    · obtain ⟨c, hcm, hcn⟩ := hb
      exact absurd hcn (hc0 c hcm).2

end
theorem all_mk {l : PySem.W.OpenLaw} {w : World} {K : PySem.W.Frag} {h : Heap} {mg : Str → Option Value} {fa : Addr} (X : K.In h) (G : h.Ns mainGlobals mg) (hfa : mg "law" = some (.ref fa))
    {R_RowError : Addr}
    {R_Bare : Addr}
    {R_NoRow : Addr}
    {R_NoSuch : Addr}
    {R_TooGreat : Addr}
    {R_NoWish : Addr}
    {R_BadText : Addr}
    {tL : Tok}
    {f0 : Addr} {od0 an0 : Option Addr} {sl0 : Array (Option Value)} {oc0 kV0 dc0 pm0 cd0 ct0 : Value}
    {f1 : Addr} {od1 an1 : Option Addr} {sl1 : Array (Option Value)} {oc1 kV1 dc1 pm1 cd1 ct1 : Value}
    {f2 : Addr} {od2 an2 : Option Addr} {sl2 : Array (Option Value)} {oc2 kV2 dc2 pm2 cd2 ct2 : Value}
    {f3 : Addr} {od3 an3 : Option Addr} {sl3 : Array (Option Value)} {oc3 kV3 dc3 pm3 cd3 ct3 : Value}
    {f4 : Addr} {od4 an4 : Option Addr} {sl4 : Array (Option Value)} {oc4 kV4 dc4 pm4 cd4 ct4 : Value}
    {f5 : Addr} {od5 an5 : Option Addr} {sl5 : Array (Option Value)} {oc5 kV5 dc5 pm5 cd5 ct5 : Value}
    {f6 : Addr} {od6 an6 : Option Addr} {sl6 : Array (Option Value)} {oc6 kV6 dc6 pm6 cd6 ct6 : Value}
    (a0 : PySem.W.nsIn K mainGlobals "_law_cell_at" = some (some (.ref f0)))
    (l0 : K.lookup f0 = some ⟨oc0, od0, .func (PySem.W.fnOf "_law_cell_at" "_law_cell_at" (defArgs s_law_cell_at) (defBody s_law_cell_at) (defScope s_law_cell_at) .none kV0 dc0 pm0 an0 cd0 ct0), sl0⟩) (c0 : PySem.W.codeIn K cd0 "_law_cell_at" = true) (k0 : PySem.W.keepIn K (.ref f0) = true)
    (a1 : PySem.W.nsIn K mainGlobals "_law_whole" = some (some (.ref f1)))
    (l1 : K.lookup f1 = some ⟨oc1, od1, .func (PySem.W.fnOf "_law_whole" "_law_whole" (defArgs s_law_whole) (defBody s_law_whole) (defScope s_law_whole) .none kV1 dc1 pm1 an1 cd1 ct1), sl1⟩) (c1 : PySem.W.codeIn K cd1 "_law_whole" = true) (k1 : PySem.W.keepIn K (.ref f1) = true)
    (a2 : PySem.W.nsIn K mainGlobals "_law_list" = some (some (.ref f2)))
    (l2 : K.lookup f2 = some ⟨oc2, od2, .func (PySem.W.fnOf "_law_list" "_law_list" (defArgs s_law_list) (defBody s_law_list) (defScope s_law_list) .none kV2 dc2 pm2 an2 cd2 ct2), sl2⟩) (c2 : PySem.W.codeIn K cd2 "_law_list" = true) (k2 : PySem.W.keepIn K (.ref f2) = true)
    (a3 : PySem.W.nsIn K mainGlobals "kind_of" = some (some (.ref f3)))
    (l3 : K.lookup f3 = some ⟨oc3, od3, .func (PySem.W.fnOf "kind_of" "kind_of" (defArgs s_kind_of) (defBody s_kind_of) (defScope s_kind_of) .none kV3 dc3 pm3 an3 cd3 ct3), sl3⟩) (c3 : PySem.W.codeIn K cd3 "kind_of" = true) (k3 : PySem.W.keepIn K (.ref f3) = true)
    (a4 : PySem.W.nsIn K mainGlobals "read" = some (some (.ref f4)))
    (l4 : K.lookup f4 = some ⟨oc4, od4, .func (PySem.W.fnOf "read" "read" (defArgs s_read) (defBody s_read) (defScope s_read) .none kV4 dc4 pm4 an4 cd4 ct4), sl4⟩) (c4 : PySem.W.codeIn K cd4 "read" = true) (k4 : PySem.W.keepIn K (.ref f4) = true)
    (a5 : PySem.W.nsIn K mainGlobals "_law_tried" = some (some (.ref f5)))
    (l5 : K.lookup f5 = some ⟨oc5, od5, .func (PySem.W.fnOf "_law_tried" "_law_tried" (defArgs s_law_tried) (defBody s_law_tried) (defScope s_law_tried) .none kV5 dc5 pm5 an5 cd5 ct5), sl5⟩) (c5 : PySem.W.codeIn K cd5 "_law_tried" = true) (k5 : PySem.W.keepIn K (.ref f5) = true)
    (a6 : PySem.W.nsIn K mainGlobals "law" = some (some (.ref f6)))
    (l6 : K.lookup f6 = some ⟨oc6, od6, .func (PySem.W.fnOf "law" "law" (defArgs s_law) (defBody s_law) (defScope s_law) .none kV6 dc6 pm6 an6 cd6 ct6), sl6⟩) (c6 : PySem.W.codeIn K cd6 "law" = true) (k6 : PySem.W.keepIn K (.ref f6) = true)
    (z_len : PySem.W.nsIn K mainGlobals "len" = some none)
    (z_range : PySem.W.nsIn K mainGlobals "range" = some none)
    (z_list : PySem.W.nsIn K mainGlobals "list" = some none)
    (z_tuple : PySem.W.nsIn K mainGlobals "tuple" = some none)
    (z_max : PySem.W.nsIn K mainGlobals "max" = some none)
    (z_min : PySem.W.nsIn K mainGlobals "min" = some none)
    (z_sum : PySem.W.nsIn K mainGlobals "sum" = some none)
    (z_sorted : PySem.W.nsIn K mainGlobals "sorted" = some none)
    (z_isinstance : PySem.W.nsIn K mainGlobals "isinstance" = some none)
    (z_int : PySem.W.nsIn K mainGlobals "int" = some none)
    (z_bool : PySem.W.nsIn K mainGlobals "bool" = some none)
    (z_str : PySem.W.nsIn K mainGlobals "str" = some none)
    (gL : PySem.W.nsIn K mainGlobals "LETTERS" = some (some (.str (Str.ofString "abcdefghijklmnopqrstuvwxyz") tL)))
    (eg_BadText : PySem.W.nsIn K mainGlobals "BadText" = some (some (.ref R_BadText)))
    (ex_BadText : PySem.W.excIn K R_BadText [.type "ValueError", .type "Exception", .type "BaseException", .type "object"] "ValueError.__new__" = true)
    (ek_BadText : PySem.W.keepIn K (.ref R_BadText) = true)
    (eb_BadText : PySem.W.subIn K (.ref R_BadText) (.type "BaseException") = some true)
    (et_BadText : PySem.W.typeIn K (.ref R_BadText) = some (.type "type"))
    (ca_hg : PySem.W.findIn K (.ref R_BadText) "__getattribute__" = some (some (.builtin "BaseException.__getattribute__")))
    (ca_hk : PySem.W.findIn K (.ref R_BadText) "__getattr__" = some none)
    (ca_hd : PySem.W.hasDictIn K R_BadText = true)
    (ca_ha : PySem.W.findIn K (.ref R_BadText) "__class__" = some (some (.builtin "object.__class__")))
    (ca_hn : PySem.W.specialIn K (.builtin "object.__class__") "__get__" = some (some (.builtin "getset_descriptor.__get__")))
    (ca_ht : PySem.W.takesIn K (.builtin "object.__class__") = some true)
    (ca_hm : PySem.W.mroIn K R_BadText (.type "object") = some true)
    (ca_ss : PySem.W.subIn K (.ref R_BadText) (.ref R_BadText) = some true)
    (ca_va : PySem.W.subIn K (.ref R_BadText) (.type "ValueError") = some true)
    (z_ValueError : PySem.W.nsIn K mainGlobals "ValueError" = some none)
    (eg_NoWish : PySem.W.nsIn K mainGlobals "NoWish" = some (some (.ref R_NoWish)))
    (eb_NoWish : PySem.W.subIn K (.ref R_NoWish) (.type "BaseException") = some true)
    (et_NoWish : PySem.W.typeIn K (.ref R_NoWish) = some (.type "type"))
    (fd_NoWish : PySem.W.hasDictIn K R_NoWish = true)
    (fs_NoWish : PySem.W.subIn K (.ref R_BadText) (.ref R_NoWish) = some false)
    (eg_TooGreat : PySem.W.nsIn K mainGlobals "TooGreat" = some (some (.ref R_TooGreat)))
    (eb_TooGreat : PySem.W.subIn K (.ref R_TooGreat) (.type "BaseException") = some true)
    (et_TooGreat : PySem.W.typeIn K (.ref R_TooGreat) = some (.type "type"))
    (fd_TooGreat : PySem.W.hasDictIn K R_TooGreat = true)
    (fs_TooGreat : PySem.W.subIn K (.ref R_BadText) (.ref R_TooGreat) = some false)
    (eg_NoSuch : PySem.W.nsIn K mainGlobals "NoSuch" = some (some (.ref R_NoSuch)))
    (eb_NoSuch : PySem.W.subIn K (.ref R_NoSuch) (.type "BaseException") = some true)
    (et_NoSuch : PySem.W.typeIn K (.ref R_NoSuch) = some (.type "type"))
    (fd_NoSuch : PySem.W.hasDictIn K R_NoSuch = true)
    (fs_NoSuch : PySem.W.subIn K (.ref R_BadText) (.ref R_NoSuch) = some false)
    (eg_NoRow : PySem.W.nsIn K mainGlobals "NoRow" = some (some (.ref R_NoRow)))
    (eb_NoRow : PySem.W.subIn K (.ref R_NoRow) (.type "BaseException") = some true)
    (et_NoRow : PySem.W.typeIn K (.ref R_NoRow) = some (.type "type"))
    (fd_NoRow : PySem.W.hasDictIn K R_NoRow = true)
    (fs_NoRow : PySem.W.subIn K (.ref R_BadText) (.ref R_NoRow) = some false)
    (eg_Bare : PySem.W.nsIn K mainGlobals "Bare" = some (some (.ref R_Bare)))
    (eb_Bare : PySem.W.subIn K (.ref R_Bare) (.type "BaseException") = some true)
    (et_Bare : PySem.W.typeIn K (.ref R_Bare) = some (.type "type"))
    (fd_Bare : PySem.W.hasDictIn K R_Bare = true)
    (fs_Bare : PySem.W.subIn K (.ref R_BadText) (.ref R_Bare) = some false)
    (eg_RowError : PySem.W.nsIn K mainGlobals "RowError" = some (some (.ref R_RowError)))
    (eb_RowError : PySem.W.subIn K (.ref R_RowError) (.type "BaseException") = some true)
    (et_RowError : PySem.W.typeIn K (.ref R_RowError) = some (.type "type"))
    (fd_RowError : PySem.W.hasDictIn K R_RowError = true)
    (fs_RowError : PySem.W.subIn K (.ref R_BadText) (.ref R_RowError) = some true) :
    ∃ fd : FuncData, (∀ (s : Shared) (v : Value), BindsTo s fd ⟨[v], []⟩ [("script", v)]) ∧ ∀ base : Heap, K.In base → base.Ns mainGlobals mg → FnOk l.prog w K mg base CX0 4 fa fd ["script"] (KSp (fLaw K)) := by
  have e := hfa.symm.trans (PySem.W.mg_of X G a6)
  cases e
  refine ⟨PySem.W.fnOf "law" "law" (defArgs s_law) (defBody s_law) (defScope s_law) .none kV6 dc6 pm6 an6 cd6 ct6, fun s v => .of_eq rfl, fun base _ _ => ?_⟩
  have e_BadText : Er K mg "BadText" R_BadText := ⟨PySem.W.mg_of X G eg_BadText, ex_BadText, ek_BadText, eb_BadText, et_BadText⟩
  have zV := PySem.W.mg_none_of X G z_ValueError
  have xf : Xf K R_BadText := ⟨⟨ca_hg, ca_hk, eb_BadText, ca_hd, ca_ha, ca_hn, ca_ht, ca_hm⟩, ca_ss, ca_va⟩
  have f_BadText : Fm K mg R_BadText "BadText" R_BadText true := ⟨PySem.W.mg_of X G eg_BadText, ca_hd, et_BadText, eb_BadText, ca_ss⟩
  have f_NoWish : Fm K mg R_BadText "NoWish" R_NoWish false := ⟨PySem.W.mg_of X G eg_NoWish, fd_NoWish, et_NoWish, eb_NoWish, fs_NoWish⟩
  have f_TooGreat : Fm K mg R_BadText "TooGreat" R_TooGreat false := ⟨PySem.W.mg_of X G eg_TooGreat, fd_TooGreat, et_TooGreat, eb_TooGreat, fs_TooGreat⟩
  have f_NoSuch : Fm K mg R_BadText "NoSuch" R_NoSuch false := ⟨PySem.W.mg_of X G eg_NoSuch, fd_NoSuch, et_NoSuch, eb_NoSuch, fs_NoSuch⟩
  have f_NoRow : Fm K mg R_BadText "NoRow" R_NoRow false := ⟨PySem.W.mg_of X G eg_NoRow, fd_NoRow, et_NoRow, eb_NoRow, fs_NoRow⟩
  have f_Bare : Fm K mg R_BadText "Bare" R_Bare false := ⟨PySem.W.mg_of X G eg_Bare, fd_Bare, et_Bare, eb_Bare, fs_Bare⟩
  have f_RowError : Fm K mg R_BadText "RowError" R_RowError true := ⟨PySem.W.mg_of X G eg_RowError, fd_RowError, et_RowError, eb_RowError, fs_RowError⟩
  have T : Bl mg := ⟨PySem.W.mg_none_of X G z_len, PySem.W.mg_none_of X G z_range, PySem.W.mg_none_of X G z_list, PySem.W.mg_none_of X G z_tuple, PySem.W.mg_none_of X G z_max, PySem.W.mg_none_of X G z_min, PySem.W.mg_none_of X G z_sum, PySem.W.mg_none_of X G z_sorted, PySem.W.mg_none_of X G z_isinstance, PySem.W.mg_none_of X G z_int, PySem.W.mg_none_of X G z_bool, PySem.W.mg_none_of X G z_str⟩
  have Z : Zn mg := ⟨⟨_, PySem.W.mg_of X G gL, ⟨tL, congrArg (fun z => Value.str z tL) letters_eq⟩⟩⟩
  have F0 := fun_mk (st := s_law_cell_at) l0 c0 k0
  have c_law_cell_at := Fn.mk' F0 (ok_law_cell_at (P := l.prog) (w := w) (base := base) F0 T ) (PySem.W.mg_of X G a0) (fun _ _ _ _ _ _ us hl => match us, hl with | [_, _], _ => rfl)
  have F1 := fun_mk (st := s_law_whole) l1 c1 k1
  have c_law_whole := Fn.mk' F1 (ok_law_whole (P := l.prog) (w := w) (base := base) F1 T ) (PySem.W.mg_of X G a1) (fun _ _ _ _ _ _ us hl => match us, hl with | [_], _ => rfl)
  have F2 := fun_mk (st := s_law_list) l2 c2 k2
  have c_law_list := Fn.mk' F2 (ok_law_list (P := l.prog) (w := w) (base := base) F2 T (c_law_whole := c_law_whole)) (PySem.W.mg_of X G a2) (fun _ _ _ _ _ _ us hl => match us, hl with | [_, _], _ => rfl)
  have F3 := fun_mk (st := s_kind_of) l3 c3 k3
  have c_kind_of := Fn.mk' F3 (ok_kind_of (P := l.prog) (w := w) (base := base) F3 T (Z := Z) (e_BadText := e_BadText)) (PySem.W.mg_of X G a3) (fun _ _ _ _ _ _ us hl => match us, hl with | [_], _ => rfl)
  have F4 := fun_mk (st := s_read) l4 c4 k4
  have c_read := Fn.mk' F4 (ok_read (P := l.prog) (w := w) (base := base) F4 T (c_kind_of := c_kind_of)) (PySem.W.mg_of X G a4) (fun _ _ _ _ _ _ us hl => match us, hl with | [_], _ => rfl)
  have F5 := fun_mk (st := s_law_tried) l5 c5 k5
  have c_law_tried := Fn.mk' F5 (ok_law_tried (P := l.prog) (w := w) (base := base) F5 T (xf := xf) (zV := zV) (f_RowError := f_RowError) (f_BadText := f_BadText) (f_NoWish := f_NoWish) (f_TooGreat := f_TooGreat) (f_NoSuch := f_NoSuch) (f_NoRow := f_NoRow) (f_Bare := f_Bare) (c_read := c_read)) (PySem.W.mg_of X G a5) (fun _ _ _ _ _ _ us hl => match us, hl with | [_], _ => rfl)
  have F6 := fun_mk (st := s_law) l6 c6 k6
  exact ok_law (P := l.prog) (w := w) (base := base) F6 T (c_law_cell_at := c_law_cell_at) (c_law_list := c_law_list) (c_law_tried := c_law_tried)

theorem walk {l : PySem.W.OpenLaw} {q : Program} {loose : List Str} {XP : (Str → Option Value) → Heap → Prop} {YP : World → Heap → Prop} {d : DefRec} {K : Params → PySem.W.Frag} (hn : l.most = some 63) (hdf : d.params.defaults = [])
    (hY : ∀ (w : World) (h : Heap), YP w h → (K w.params).In h)
    (F : ∀ (w : World) (mg : Str → Option Value) (fa : Addr) (h : Heap), (K w.params).In h → h.Ns mainGlobals mg → mg d.name = some (.ref fa) →
      ∃ fd : FuncData, (∀ (s : Shared) (u : Value), BindsTo s fd ⟨[u], []⟩ [("script", u)]) ∧ ∀ base : Heap, (K w.params).In base → base.Ns mainGlobals mg → FnOk l.prog w (K w.params) mg base CX0 4 fa fd ["script"] (KSp (fLaw (K w.params)))) :
    PySem.W.WalkO q loose XP YP l.row.toRowW d [] (fun f vs => PySem.call f vs) :=
  L2.walk_of (n := 63) (k := 4) (x := "script") (CX := fun _ => CX0) (sp := fun w => KSp (fLaw (K w.params))) hn (by decide) hdf ⟨rfl, by decide, by decide⟩ hY F (fun _ _ a ns hl _ hS => ⟨_, Same.refl _, a, ns, rfl, hS, hl, fun _ _ => rfl⟩) fun _ _ _ _ _ z => z
end Kp
open PySem PySem.W PyProof.Rows
set_option maxRecDepth 100000 in
set_option maxHeartbeats 0 in
theorem PySem.Challenge.cw_keepaway_k14_read_holds : PySem.Challenge.rw_keepaway_k14_read.Holds := by
  w_on; o_law; k_head; (case hw => w_witness2)
  k_fill
  refine Kp.walk (l := PySem.Challenge.rw_keepaway_k14_read) rfl rfl (fun w h Y => PySem.W.kIn_of Y) ?F
  case F =>
    intro w mg fa h KX G hmg
    refine' Kp.all_mk KX G hmg ?a0 ?l0 ?c0 ?k0 ?a1 ?l1 ?c1 ?k1 ?a2 ?l2 ?c2 ?k2 ?a3 ?l3 ?c3 ?k3 ?a4 ?l4 ?c4 ?k4 ?a5 ?l5 ?c5 ?k5 ?a6 ?l6 ?c6 ?k6 ?z_len ?z_range ?z_list ?z_tuple ?z_max ?z_min ?z_sum ?z_sorted ?z_isinstance ?z_int ?z_bool ?z_str ?gL ?eg_BadText ?ex_BadText ?ek_BadText ?eb_BadText ?et_BadText ?ca_hg ?ca_hk ?ca_hd ?ca_ha ?ca_hn ?ca_ht ?ca_hm ?ca_ss ?ca_va ?z_ValueError ?eg_NoWish ?eb_NoWish ?et_NoWish ?fd_NoWish ?fs_NoWish ?eg_TooGreat ?eb_TooGreat ?et_TooGreat ?fd_TooGreat ?fs_TooGreat ?eg_NoSuch ?eb_NoSuch ?et_NoSuch ?fd_NoSuch ?fs_NoSuch ?eg_NoRow ?eb_NoRow ?et_NoRow ?fd_NoRow ?fs_NoRow ?eg_Bare ?eb_Bare ?et_Bare ?fd_Bare ?fs_Bare ?eg_RowError ?eb_RowError ?et_RowError ?fd_RowError ?fs_RowError
    (case eg_BadText => k_is)
    (case eg_NoWish => k_is)
    (case eg_TooGreat => k_is)
    (case eg_NoSuch => k_is)
    (case eg_NoRow => k_is)
    (case eg_Bare => k_is)
    (case eg_RowError => k_is)
    (case a0 => k_is)
    (case l0 => k_is)
    (case c0 => k_is)
    (case k0 => k_is)
    (case a1 => k_is)
    (case l1 => k_is)
    (case c1 => k_is)
    (case k1 => k_is)
    (case a2 => k_is)
    (case l2 => k_is)
    (case c2 => k_is)
    (case k2 => k_is)
    (case a3 => k_is)
    (case l3 => k_is)
    (case c3 => k_is)
    (case k3 => k_is)
    (case a4 => k_is)
    (case l4 => k_is)
    (case c4 => k_is)
    (case k4 => k_is)
    (case a5 => k_is)
    (case l5 => k_is)
    (case c5 => k_is)
    (case k5 => k_is)
    (case a6 => k_is)
    (case l6 => k_is)
    (case c6 => k_is)
    (case k6 => k_is)
    (case z_len => k_is)
    (case z_range => k_is)
    (case z_list => k_is)
    (case z_tuple => k_is)
    (case z_max => k_is)
    (case z_min => k_is)
    (case z_sum => k_is)
    (case z_sorted => k_is)
    (case z_isinstance => k_is)
    (case z_int => k_is)
    (case z_bool => k_is)
    (case z_str => k_is)
    (case gL => k_is)
    (case ex_BadText => k_exc)
    (case ek_BadText => k_is)
    (case eb_BadText => k_is)
    (case et_BadText => k_is)
    (case ca_hg => k_is)
    (case ca_hk => k_is)
    (case ca_hd => k_is)
    (case ca_ha => k_is)
    (case ca_hn => k_is)
    (case ca_ht => k_is)
    (case ca_hm => k_is)
    (case ca_ss => k_is)
    (case ca_va => k_is)
    (case z_ValueError => k_is)
    (case eb_NoWish => k_is)
    (case et_NoWish => k_is)
    (case fd_NoWish => k_is)
    (case fs_NoWish => k_is)
    (case eb_TooGreat => k_is)
    (case et_TooGreat => k_is)
    (case fd_TooGreat => k_is)
    (case fs_TooGreat => k_is)
    (case eb_NoSuch => k_is)
    (case et_NoSuch => k_is)
    (case fd_NoSuch => k_is)
    (case fs_NoSuch => k_is)
    (case eb_NoRow => k_is)
    (case et_NoRow => k_is)
    (case fd_NoRow => k_is)
    (case fs_NoRow => k_is)
    (case eb_Bare => k_is)
    (case et_Bare => k_is)
    (case fd_Bare => k_is)
    (case fs_Bare => k_is)
    (case eb_RowError => k_is)
    (case et_RowError => k_is)
    (case fd_RowError => k_is)
    (case fs_RowError => k_is)
#print axioms PySem.Challenge.cw_keepaway_k14_read_holds
