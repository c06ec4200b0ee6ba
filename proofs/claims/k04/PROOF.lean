import PyProof.Rows.All
import Wide.All
import OpenK.AllK
import Wide.FinOn
import HandS.ForMost
import HandS.Exc
import HandS.ExcOwn
import HandS.WordsExc
import HandS.IsInst
import HandS.Steps
import HandS.Deep
import HandS.TupAny
import HandS.Replace
import HandS.SetFor
import HandS.More
import PySem.Challenge.RW_keepaway_k04_the_least_length
set_option Elab.async false
set_option linter.all false
set_option maxRecDepth 100000
set_option maxHeartbeats 4000000
namespace Kp
open PySem L2

def Up (P : Hp → Prop) (H : Hp) : Prop := ∀ H1, Same H H1 → P H1
theorem Up.here {P : Hp → Prop} {H : Hp} (h : Up P H) : P H := h H (Same.refl H)
theorem Up.mono {P : Hp → Prop} {H H' : Hp} (h : Up P H) (e : Same H H') : Up P H' := fun H1 e1 => h H1 (e.trans e1)
theorem Up.imp {P Q : Hp → Prop} {H : Hp} (h : Up P H) (f : ∀ H', P H' → Q H') : Up Q H := fun H1 e => f H1 (h H1 e)
theorem Up.of {P : Hp → Prop} {H : Hp} (h : ∀ H', P H') : Up P H := fun H1 _ => h H1

/-! ### heaps -/
theorem same_new {H : Hp} {p : Addr} (h : H p = none) (o : HO) : Same H (upd H p o) := fun b u q => by
  rw [upd_ne (ne_of_none q h)]
  exact q
theorem same_newer {H H' : Hp} {p : Addr} {o : HO} (e : Same H H') (h : H' p = none) : Same H (upd H' p o) := e.trans (same_new h o)
/-- an object that H does not know may change -/
theorem same_mut {H H' : Hp} {p : Addr} {o : HO} (e : Same H H') (h : H p = none) : Same H (upd H' p o) := fun a u ha => by
  rw [upd_ne (ne_of_none ha h)]
  exact e a u ha
theorem same_upd {H H1 : Hp} {p : Addr} {o : HO} (e : Same H H1) : Same (upd H p o) (upd H1 p o) := fun a u ha => by
  by_cases h : a = p
  · rw [h, upd_same] at ha
    rw [h, upd_same]
    exact ha
  · rw [upd_ne h] at ha
    rw [upd_ne h]
    exact e a u ha
theorem same_free {H H1 : Hp} {p : Addr} (e : Same H H1) (h : H1 p = none) : H p = none := e.free h
theorem rd_up {H H' : Hp} {a : Addr} {u : HO} (e : Same H H') (h : Rd H a u) : Rd H' a u := by
  rcases h with h | ⟨o, h⟩
  · exact .inl (e a _ h)
  · exact .inr ⟨o, e a _ h⟩
theorem sq_up {K : PySem.W.Frag} {H H' : Hp} {a : Addr} {xs : List V} (e : Same H H') (h : SqL K H a xs) : SqL K H' a xs := by
  rcases h with h | h
  · exact .inl (rd_up e h)
  · exact .inr h
theorem st_up {K : PySem.W.Frag} {H H' : Hp} {a : Addr} {xs : List V} (e : Same H H') (h : SqT K H a xs) : SqT K H' a xs := by
  rcases h with h | h
  · exact .inl (rd_up e h)
  · exact .inr h
theorem up_fresh {H : Hp} {a p : Addr} {o u : HO} (h : H p = none) (k : H a = some u) : upd H p o a = some u := same_new h o a u k
theorem up_other {H : Hp} {a p : Addr} {o : HO} {u : Option HO} (h : a ≠ p) (k : H a = u) : upd H p o a = u := by
  rw [upd_ne h]
  exact k
theorem none_back {H : Hp} {a p : Addr} {o : HO} (h : upd H p o a = none) : H a = none ∧ a ≠ p := by
  by_cases e : a = p
  · rw [e, upd_same] at h
    cases h
  · rw [upd_ne e] at h
    exact ⟨h, e⟩
theorem sz {n : Nat} (h : n ≤ 100000) : n ≤ sizeLine := Nat.le_trans h (by decide)
theorem szl {n : Nat} (h : n < 100000) : n < sizeLine := Nat.lt_of_lt_of_le h (by decide)

section
variable {K : PySem.W.Frag} {H : Hp} {σ : St} {Q : VK} {v x y : V} {ta tb te tc : TE} {t u : TT} {b : Bool}

/-! ### values -/
theorem up_var {i : Nat} (h : σ[i]? = some (some v)) (k : Up (Q v) H) : Up (fun H1 => tVar i σ H1 Q) H := fun H1 e => ⟨v, h, k H1 e⟩
theorem up_c (k : Up (Q v) H) : Up (fun H1 => tC v σ H1 Q) H := k
theorem up_op {r : R2} (k : Up (fun H1 => ta σ H1 fun x H2 => tb σ H2 fun y H3 => r x y H3 Q) H) : Up (fun H1 => tOp r ta tb σ H1 Q) H := k
theorem up_un {r : V → Hp → VK → Prop} (k : Up (fun H1 => ta σ H1 fun x H2 => r x H2 Q) H) : Up (fun H1 => tUn r ta σ H1 Q) H := k
theorem up_I0 {g : Int → Int → V} {i j : Int} (k : Up (Q (g i j)) H) : Up (fun H1 => rI0 g (.int i) (.int j) H1 Q) H := fun H1 e => ⟨i, j, rfl, rfl, k H1 e⟩
theorem up_I {C : Int → Int → Prop} {g : Int → Int → V} {i j : Int} (c : C i j) (k : Up (Q (g i j)) H) : Up (fun H1 => rI C g (.int i) (.int j) H1 Q) H := fun H1 e => ⟨i, j, rfl, rfl, c, k H1 e⟩
theorem up_U {g : Int → V} {i : Int} (k : Up (Q (g i)) H) : Up (fun H1 => rU g (.int i) H1 Q) H := fun H1 e => ⟨i, rfl, k H1 e⟩
theorem up_eqI {i j : Int} (k : Up (Q (.bl (decide (i = j)))) H) : Up (fun H1 => rEq (.int i) (.int j) H1 Q) H := fun H1 e => ⟨rfl, by
  have q : decide (V.int i = V.int j) = decide (i = j) := decide_eq_decide.mpr ⟨fun h => V.int.inj h, fun h => by rw [h]⟩
  rw [q]
  exact k H1 e⟩
theorem up_neI {i j : Int} (k : Up (Q (.bl (!decide (i = j)))) H) : Up (fun H1 => rNe (.int i) (.int j) H1 Q) H := fun H1 e => ⟨rfl, by
  have q : decide (V.int i = V.int j) = decide (i = j) := decide_eq_decide.mpr ⟨fun h => V.int.inj h, fun h => by rw [h]⟩
  rw [q]
  exact k H1 e⟩
theorem up_eqV (h : scal x y = true) (k : Up (Q (.bl (decide (x = y)))) H) : Up (fun H1 => rEq x y H1 Q) H := fun H1 e => ⟨h, k H1 e⟩
theorem up_neV (h : scal x y = true) (k : Up (Q (.bl (!decide (x = y)))) H) : Up (fun H1 => rNe x y H1 Q) H := fun H1 e => ⟨h, k H1 e⟩
theorem up_isN (k : Up (Q (.bl (decide (x = .non)))) H) : Up (fun H1 => rIsN x .non H1 Q) H := fun H1 e => ⟨rfl, k H1 e⟩
theorem up_notN (k : Up (Q (.bl (!decide (x = .non)))) H) : Up (fun H1 => rNotN x .non H1 Q) H := fun H1 e => ⟨rfl, k H1 e⟩

/-! ### tests -/
def asB (Q : Bool → Hp → Prop) : VK := fun x H' => ∃ k, x = .bl k ∧ Q k H'
variable {QB : Bool → Hp → Prop}
theorem up_test (k : Up (fun H1 => te σ H1 (asB QB)) H) : Up (fun H1 => tTest te σ H1 QB) H := k
theorem up_tB (k : Up (fun H1 => te σ H1 (asB QB)) H) : Up (fun H1 => tB te σ H1 QB) H := k
theorem up_asB (k : Up (QB b) H) : Up (asB QB (.bl b)) H := fun H1 e => ⟨b, rfl, k H1 e⟩
def andK (u : TT) (σ : St) (Q : Bool → Hp → Prop) : Bool → Hp → Prop := fun c H1 => if c = true then u σ H1 Q else Q false H1
def orK (u : TT) (σ : St) (Q : Bool → Hp → Prop) : Bool → Hp → Prop := fun c H1 => if c = true then Q true H1 else u σ H1 Q
def notK (Q : Bool → Hp → Prop) : Bool → Hp → Prop := fun c H1 => Q (!c) H1
theorem up_and (k : Up (fun H1 => t σ H1 (andK u σ QB)) H) : Up (fun H1 => tAnd t u σ H1 QB) H := k
theorem up_or (k : Up (fun H1 => t σ H1 (orK u σ QB)) H) : Up (fun H1 => tOr t u σ H1 QB) H := k
theorem up_not (k : Up (fun H1 => t σ H1 (notK QB)) H) : Up (fun H1 => tNot t σ H1 QB) H := k
theorem up_notK (k : Up (QB (!b)) H) : Up (notK QB b) H := k
theorem up_andK (k1 : b = true → Up (fun H1 => u σ H1 QB) H) (k0 : b = false → Up (QB false) H) : Up (andK u σ QB b) H := by
  cases b with
  | true => exact k1 rfl
  | false => exact k0 rfl
theorem up_orK (k1 : b = true → Up (QB true) H) (k0 : b = false → Up (fun H1 => u σ H1 QB) H) : Up (orK u σ QB b) H := by
  cases b with
  | true => exact k1 rfl
  | false => exact k0 rfl
theorem up_andT (h : b = true) (k : Up (fun H1 => u σ H1 QB) H) : Up (andK u σ QB b) H := by rw [h]; exact k
theorem up_andF (h : b = false) (k : Up (QB false) H) : Up (andK u σ QB b) H := by rw [h]; exact k
theorem up_orT (h : b = true) (k : Up (QB true) H) : Up (orK u σ QB b) H := by rw [h]; exact k
theorem up_orF (h : b = false) (k : Up (fun H1 => u σ H1 QB) H) : Up (orK u σ QB b) H := by rw [h]; exact k
/-- .. as values -/
def andV (tb : TE) (σ : St) (Q : VK) : VK := fun x H1 => ∃ c, x = .bl c ∧ if c = true then tb σ H1 Q else Q (.bl false) H1
def orV (tb : TE) (σ : St) (Q : VK) : VK := fun x H1 => ∃ c, x = .bl c ∧ if c = true then Q (.bl true) H1 else tb σ H1 Q
def notV (Q : VK) : VK := fun x H1 => ∃ c, x = .bl c ∧ Q (.bl (!c)) H1
theorem up_andVt (k : Up (fun H1 => ta σ H1 (andV tb σ Q)) H) : Up (fun H1 => tAndV ta tb σ H1 Q) H := k
theorem up_orVt (k : Up (fun H1 => ta σ H1 (orV tb σ Q)) H) : Up (fun H1 => tOrV ta tb σ H1 Q) H := k
theorem up_notVt (k : Up (fun H1 => ta σ H1 (notV Q)) H) : Up (fun H1 => tNotV ta σ H1 Q) H := k
theorem up_notV (k : Up (Q (.bl (!b))) H) : Up (notV Q (.bl b)) H := fun H1 e => ⟨b, rfl, k H1 e⟩
theorem up_andVK (k1 : b = true → Up (fun H1 => tb σ H1 Q) H) (k0 : b = false → Up (Q (.bl false)) H) : Up (andV tb σ Q (.bl b)) H := fun H1 e => ⟨b, rfl, by
  cases b with
  | true => exact k1 rfl H1 e
  | false => exact k0 rfl H1 e⟩
theorem up_orVK (k1 : b = true → Up (Q (.bl true)) H) (k0 : b = false → Up (fun H1 => tb σ H1 Q) H) : Up (orV tb σ Q (.bl b)) H := fun H1 e => ⟨b, rfl, by
  cases b with
  | true => exact k1 rfl H1 e
  | false => exact k0 rfl H1 e⟩
def ifV (ta tb : TE) (σ : St) (Q : VK) : Bool → Hp → Prop := fun c H1 => if c = true then ta σ H1 Q else tb σ H1 Q
theorem up_ifE (k : Up (fun H1 => t σ H1 (ifV ta tb σ Q)) H) : Up (fun H1 => tIf t ta tb σ H1 Q) H := k
theorem up_ifV (k1 : b = true → Up (fun H1 => ta σ H1 Q) H) (k0 : b = false → Up (fun H1 => tb σ H1 Q) H) : Up (ifV ta tb σ Q b) H := by
  cases b with
  | true => exact k1 rfl
  | false => exact k0 rfl
/-- a test, a value, told once -/
def EvT (t : TT) (σ : St) (H : Hp) (b : Bool) : Prop := ∀ Q : Bool → Hp → Prop, Up (Q b) H → Up (fun H1 => t σ H1 Q) H
def EvE (t : TE) (σ : St) (H : Hp) (v : V) : Prop := ∀ Q : VK, Up (Q v) H → Up (fun H1 => t σ H1 Q) H
theorem up_evT (h : EvT t σ H b) (k : Up (QB b) H) : Up (fun H1 => t σ H1 QB) H := h QB k
theorem up_evE (h : EvE te σ H v) (k : Up (Q v) H) : Up (fun H1 => te σ H1 Q) H := h Q k
/-- truth of a value -/
def truK (K : PySem.W.Frag) (QB : Bool → Hp → Prop) : VK := fun x H' => ∃ k, TruV K x H' k ∧ QB k H'
theorem up_tru (k : Up (fun H1 => te σ H1 (truK K QB)) H) : Up (fun H1 => tTru K te σ H1 QB) H := k
theorem up_truL {p : Addr} {xs : List V} (h : SqL K H p xs) (k : Up (QB (!xs.isEmpty)) H) : Up (truK K QB (.ref p)) H := fun H1 e => ⟨_, .inl ⟨xs, sq_up e h, rfl⟩, k H1 e⟩
theorem up_truI {i : Int} (k : Up (QB (i != 0)) H) : Up (truK K QB (.int i)) H := fun H1 e => ⟨_, rfl, k H1 e⟩

/-! ### arguments -/
variable {tr : TA} {QA : List V → Hp → Prop} {xs ys : List V}
def consB (x : V) (Q : List V → Hp → Prop) : List V → Hp → Prop := fun xs H => Q (x :: xs) H
def consA (tr : TA) (σ : St) (Q : List V → Hp → Prop) : VK := fun x H => tr σ H (consB x Q)
theorem up_cons (k : Up (fun H1 => te σ H1 (consA tr σ QA)) H) : Up (fun H1 => tCons te tr σ H1 QA) H := k
theorem up_consA (k : Up (fun H1 => tr σ H1 (consB x QA)) H) : Up (consA tr σ QA x) H := k
theorem up_consB (k : Up (QA (x :: xs)) H) : Up (consB x QA xs) H := k
theorem up_nil (k : Up (QA []) H) : Up (fun H1 => tNil σ H1 QA) H := k
def tupK (Q : VK) : List V → Hp → Prop := fun xs H1 => xs.length ≤ sizeLine ∧ ∀ p, H1 p = none → Q (.ref p) (upd H1 p (.tup xs))
def lstK (Q : VK) : List V → Hp → Prop := fun xs H1 => xs.length ≤ sizeLine ∧ ∀ p, H1 p = none → Q (.ref p) (upd H1 p (.lst xs))
theorem up_tup (k : Up (fun H1 => tr σ H1 (tupK Q)) H) : Up (fun H1 => tTup tr σ H1 Q) H := k
theorem up_lst (k : Up (fun H1 => tr σ H1 (lstK Q)) H) : Up (fun H1 => tLst tr σ H1 Q) H := k
theorem up_new {o : HO} (k : ∀ p, H p = none → Up (Q (.ref p)) (upd H p o)) : Up (fun H1 => ∀ p, H1 p = none → Q (.ref p) (upd H1 p o)) H := fun H1 e p hp => k p (e.free hp) _ (same_upd e)
theorem up_tupK (h : xs.length ≤ 100000) (k : ∀ p, H p = none → Up (Q (.ref p)) (upd H p (.tup xs))) : Up (tupK Q xs) H := fun H1 e => ⟨sz h, fun p hp => k p (e.free hp) _ (same_upd e)⟩
theorem up_lstK (h : xs.length ≤ 100000) (k : ∀ p, H p = none → Up (Q (.ref p)) (upd H p (.lst xs))) : Up (lstK Q xs) H := fun H1 e => ⟨sz h, fun p hp => k p (e.free hp) _ (same_upd e)⟩

/-! ### calls -/
/-- a promise told from below -/
def KSp (F : List V → Hp → VK → Prop) : Sp := fun vs H Q _ => ∃ H0, Same H0 H ∧ F vs H0 Q
/-- .. of a def that may raise -/
def KSx (F : List V → Hp → VK → XK → Prop) : Sp := fun vs H Q E => ∃ H0, Same H0 H ∧ F vs H0 Q E
def callK (sp : Sp) (dvs : List V) (E : XK) (Q : VK) : List V → Hp → Prop := fun vs H => sp (vs ++ dvs) H Q E
theorem up_callT {sp : Sp} {dvs : List V} {E : XK} (k : Up (fun H1 => tr σ H1 (callK sp dvs E Q)) H) : Up (fun H1 => tCall sp dvs E tr σ H1 Q) H := k
theorem up_call {F : List V → Hp → VK → Prop} {E : XK} {vs : List V} (h : F vs H Q) : Up (callK (KSp F) [] E Q vs) H := fun H1 e => by
  show KSp F (vs ++ []) H1 Q E
  rw [List.append_nil]
  exact ⟨H, e, h⟩
theorem up_callX {F : List V → Hp → VK → XK → Prop} {E : XK} {vs : List V} (h : F vs H Q E) : Up (callK (KSx F) [] E Q vs) H := fun H1 e => by
  show KSx F (vs ++ []) H1 Q E
  rw [List.append_nil]
  exact ⟨H, e, h⟩
def blK (r : List V → Hp → VK → Prop) (Q : VK) : List V → Hp → Prop := fun vs H => r vs H Q
theorem up_CB {r : List V → Hp → VK → Prop} (k : Up (fun H1 => tr σ H1 (blK r Q)) H) : Up (fun H1 => tCB r tr σ H1 Q) H := k
/-- o.m(..) of a built-in type -/
def bmB (r : V → List V → Hp → VK → Prop) (x : V) (Q : VK) : List V → Hp → Prop := fun vs H => r x vs H Q
def bmK (K : PySem.W.Frag) (T : String) (r : V → List V → Hp → VK → Prop) (tr : TA) (σ : St) (Q : VK) : VK := fun x H1 => tyV K T x H1 ∧ tr σ H1 (bmB r x Q)
theorem up_BM {T : String} {r : V → List V → Hp → VK → Prop} (k : Up (fun H1 => te σ H1 (bmK K T r tr σ Q)) H) : Up (fun H1 => tBM K T r te tr σ H1 Q) H := k
def bm0K (K : PySem.W.Frag) (T : String) (r : V → List V → Hp → VK → Prop) (Q : VK) : VK := fun x H1 => tyV K T x H1 ∧ r x [] H1 Q
theorem up_BM0 {T : String} {r : V → List V → Hp → VK → Prop} (k : Up (fun H1 => te σ H1 (bm0K K T r Q)) H) : Up (fun H1 => tBM0 K T r te σ H1 Q) H := k
theorem up_bmL {p : Addr} {r : V → List V → Hp → VK → Prop} (h : SqL K H p xs) (k : Up (fun H1 => tr σ H1 (bmB r (.ref p) Q)) H) : Up (bmK K "list" r tr σ Q (.ref p)) H := fun H1 e => ⟨.inl ⟨rfl, xs, sq_up e h⟩, k H1 e⟩
theorem up_bm0L {p : Addr} {r : V → List V → Hp → VK → Prop} (h : SqL K H p xs) (k : Up (fun H1 => r (.ref p) [] H1 Q) H) : Up (bm0K K "list" r Q (.ref p)) H := fun H1 e => ⟨.inl ⟨rfl, xs, sq_up e h⟩, k H1 e⟩
theorem up_bmS {z : Str} {r : V → List V → Hp → VK → Prop} (k : Up (fun H1 => tr σ H1 (bmB r (.str z) Q)) H) : Up (bmK K "str" r tr σ Q (.str z)) H := fun H1 e => ⟨rfl, k H1 e⟩

/-! ### lists -/
theorem up_append {l : Addr} (h : H l = some (.lst xs)) (hz : xs.length < 100000) (k : Up (Q .non) (upd H l (.lst (xs ++ [y])))) : Up (bmB rAppend (.ref l) Q [y]) H := fun H1 e => ⟨l, xs, y, rfl, rfl, e l _ h, szl hz, k _ (same_upd e)⟩
theorem up_extend {l c : Addr} (h : H l = some (.lst xs)) (hc : H c = some (.lst ys)) (hz : xs.length + ys.length ≤ 100000) (k : Up (Q .non) (upd H l (.lst (xs ++ ys)))) : Up (bmB rExtend (.ref l) Q [.ref c]) H :=
  fun H1 e => ⟨l, c, xs, ys, rfl, rfl, e l _ h, e c _ hc, sz hz, k _ (same_upd e)⟩
theorem up_pop {l : Addr} (h : H l = some (.lst xs)) (hy : xs[xs.length - 1]? = some y) (k : Up (Q y) (upd H l (.lst xs.dropLast))) : Up (fun H1 => rPop (.ref l) [] H1 Q) H := fun H1 e => ⟨l, xs, y, rfl, rfl, e l _ h, hy, k _ (same_upd e)⟩
theorem up_clear {l : Addr} (h : H l = some (.lst xs)) (k : Up (Q .non) (upd H l (.lst []))) : Up (fun H1 => rClear (.ref l) [] H1 Q) H := fun H1 e => ⟨l, xs, rfl, rfl, e l _ h, k _ (same_upd e)⟩
theorem up_ixL {p : Addr} {i : Int} (h : SqL K H p xs) (hv : atI xs i = some v) (k : Up (Q v) H) : Up (fun H1 => rIxL K (.ref p) (.int i) H1 Q) H := fun H1 e => ⟨p, xs, i, v, rfl, rfl, sq_up e h, hv, k H1 e⟩
theorem up_ixT {p : Addr} {i : Int} (h : SqT K H p xs) (hv : atI xs i = some v) (k : Up (Q v) H) : Up (fun H1 => rIxT K (.ref p) (.int i) H1 Q) H := fun H1 e => ⟨p, xs, i, v, rfl, rfl, st_up e h, hv, k H1 e⟩
theorem up_ixS {z : Str} {i : Int} {c : Nat} (hz : z.length ≤ 100000) (hv : atI z.cps.toList i = some c) (k : Up (Q (.str ⟨#[c]⟩)) H) : Up (fun H1 => rIxS (.str z) (.int i) H1 Q) H := fun H1 e => ⟨z, i, c, rfl, rfl, sz hz, hv, k H1 e⟩
theorem up_cat {l c : Addr} (h : H l = some (.lst xs)) (hc : H c = some (.lst ys)) (hz : xs.length + ys.length ≤ 100000) (k : ∀ p, H p = none → Up (Q (.ref p)) (upd H p (.lst (xs ++ ys)))) : Up (fun H1 => rCat (.ref l) (.ref c) H1 Q) H :=
  fun H1 e => ⟨l, c, xs, ys, rfl, rfl, e l _ h, e c _ hc, sz hz, fun p hp => k p (e.free hp) _ (same_upd e)⟩
theorem up_rep {l : Addr} {n : Int} (h : H l = some (.lst xs)) (h1 : -100000 ≤ n) (h2 : n ≤ 100000) (hz : xs.length ≤ 100) (k : ∀ p, H p = none → Up (Q (.ref p)) (upd H p (.lst (List.replicate n.toNat xs).flatten))) : Up (fun H1 => rRep (.ref l) (.int n) H1 Q) H :=
  fun H1 e => ⟨l, n, xs, rfl, rfl, e l _ h, by omega, by omega, by
    have hs : sizeLine = 16777216 := sizeLine_eq
    have : xs.length * n.toNat ≤ 100 * 100000 := Nat.mul_le_mul hz (by omega)
    omega, fun p hp => k p (e.free hp) _ (same_upd e)⟩
theorem up_in {neg : Bool} {p : Addr} (h : SqL K H p xs) (hx : flatV x = true) (ha : xs.all flatV = true) (k : Up (Q (.bl (if neg then !inV x xs else inV x xs))) H) : Up (fun H1 => rIn K neg x (.ref p) H1 Q) H := fun H1 e => ⟨p, xs, rfl, .inl (sq_up e h), hx, ha, k H1 e⟩
theorem up_inT {neg : Bool} {p : Addr} (h : SqT K H p xs) (hx : flatV x = true) (ha : xs.all flatV = true) (k : Up (Q (.bl (if neg then !inV x xs else inV x xs))) H) : Up (fun H1 => rIn K neg x (.ref p) H1 Q) H := fun H1 e => ⟨p, xs, rfl, .inr (st_up e h), hx, ha, k H1 e⟩
/-- slices -/
def oK (th : TO) (σ : St) (r : V → Option Int → Option Int → Hp → VK → Prop) (x : V) (Q : VK) : Option Int → Hp → Prop := fun l H2 => th σ H2 fun u H3 => r x l u H3 Q
def slK (tl th : TO) (σ : St) (r : V → Option Int → Option Int → Hp → VK → Prop) (Q : VK) : VK := fun x H1 => tl σ H1 (oK th σ r x Q)
theorem up_sl {tl th : TO} {r : V → Option Int → Option Int → Hp → VK → Prop} (k : Up (fun H1 => te σ H1 (slK tl th σ r Q)) H) : Up (fun H1 => tSl r te tl th σ H1 Q) H := k
theorem up_slK {tl th : TO} {r : V → Option Int → Option Int → Hp → VK → Prop} (k : Up (fun H1 => tl σ H1 (oK th σ r x Q)) H) : Up (slK tl th σ r Q x) H := k
theorem up_oK {th : TO} {r : V → Option Int → Option Int → Hp → VK → Prop} {l : Option Int} (k : Up (fun H1 => th σ H1 fun u H3 => r x l u H3 Q) H) : Up (oK th σ r x Q l) H := k
theorem up_noPart {QO : Option Int → Hp → Prop} (k : Up (QO none) H) : Up (fun H1 => tNoPart σ H1 QO) H := k
def partK (QO : Option Int → Hp → Prop) : VK := fun x H1 => ∃ i, x = .int i ∧ QO (some i) H1
theorem up_part {QO : Option Int → Hp → Prop} (k : Up (fun H1 => te σ H1 (partK QO)) H) : Up (fun H1 => tPart te σ H1 QO) H := k
theorem up_partK {QO : Option Int → Hp → Prop} {i : Int} (k : Up (QO (some i)) H) : Up (partK QO (.int i)) H := fun H1 e => ⟨i, rfl, k H1 e⟩
theorem up_slL {a : Addr} {lo hi : Option Int} (h : SqL K H a xs) (k : ∀ p, H p = none → Up (Q (.ref p)) (upd H p (.lst (cutV xs lo hi)))) : Up (fun H1 => rSlL K (.ref a) lo hi H1 Q) H := fun H1 e => ⟨a, xs, rfl, sq_up e h, fun p hp => k p (e.free hp) _ (same_upd e)⟩
theorem up_slS {z : Str} {lo hi : Option Int} (h : z.length ≤ 100000) (k : Up (Q (.str (cutS z lo hi))) H) : Up (fun H1 => rSlS (.str z) lo hi H1 Q) H := fun H1 e => ⟨z, rfl, sz h, k H1 e⟩

/-! ### built-in functions -/
def rLen (K : PySem.W.Frag) : List V → Hp → VK → Prop := fun xs H Q => ∃ p ys, xs = [.ref p] ∧ (SqL K H p ys ∨ SqT K H p ys) ∧ Q (.int ys.length) H
theorem kc_len {X : Cx} : CallR X (.builtin "len") (rLen X.K) := call_len_seq
theorem up_len {p : Addr} (h : SqL K H p xs) (k : Up (Q (.int xs.length)) H) : Up (blK (rLen K) Q [.ref p]) H := fun H1 e => ⟨p, xs, rfl, .inl (sq_up e h), k H1 e⟩
theorem up_lenT {p : Addr} (h : SqT K H p xs) (k : Up (Q (.int xs.length)) H) : Up (blK (rLen K) Q [.ref p]) H := fun H1 e => ⟨p, xs, rfl, .inr (st_up e h), k H1 e⟩
def rLenZ : List V → Hp → VK → Prop := fun xs H Q => ∃ z : Str, xs = [.str z] ∧ z.length ≤ sizeLine ∧ Q (.int z.length) H
theorem kc_lenZ {X : Cx} : CallR X (.builtin "len") rLenZ := call_len_str
theorem up_lenZ {z : Str} (h : z.length ≤ 100000) (k : Up (Q (.int z.length)) H) : Up (blK rLenZ Q [.str z]) H := fun H1 e => ⟨z, rfl, sz h, k H1 e⟩
def rListOf (K : PySem.W.Frag) : List V → Hp → VK → Prop := fun xs H Q => ∃ p ys, xs = [.ref p] ∧ (SqL K H p ys ∨ SqT K H p ys) ∧ ∀ l, H l = none → Q (.ref l) (upd H l (.lst ys))
theorem kc_list {X : Cx} : CallR X (.type "list") (rListOf X.K) := call_list_of
theorem up_listOf {p : Addr} (h : SqL K H p xs) (k : ∀ l, H l = none → Up (Q (.ref l)) (upd H l (.lst xs))) : Up (blK (rListOf K) Q [.ref p]) H := fun H1 e => ⟨p, xs, rfl, .inl (sq_up e h), fun l hl => k l (e.free hl) _ (same_upd e)⟩
theorem up_listOfT {p : Addr} (h : SqT K H p xs) (k : ∀ l, H l = none → Up (Q (.ref l)) (upd H l (.lst xs))) : Up (blK (rListOf K) Q [.ref p]) H := fun H1 e => ⟨p, xs, rfl, .inr (st_up e h), fun l hl => k l (e.free hl) _ (same_upd e)⟩
def rTupOf (K : PySem.W.Frag) : List V → Hp → VK → Prop := fun xs H Q => ∃ p ys, xs = [.ref p] ∧ ((SqL K H p ys ∧ ∀ l, H l = none → Q (.ref l) (upd H l (.tup ys))) ∨ (SqT K H p ys ∧ Q (.ref p) H))
theorem kc_tuple {X : Cx} : CallR X (.type "tuple") (rTupOf X.K) := call_tuple_of
theorem up_tupOf {p : Addr} (h : SqL K H p xs) (k : ∀ l, H l = none → Up (Q (.ref l)) (upd H l (.tup xs))) : Up (blK (rTupOf K) Q [.ref p]) H := fun H1 e => ⟨p, xs, rfl, .inl ⟨sq_up e h, fun l hl => k l (e.free hl) _ (same_upd e)⟩⟩
def rMx2 : List V → Hp → VK → Prop := fun xs H Q => ∃ i j, xs = [.int i, .int j] ∧ Q (.int (if j > i then j else i)) H
theorem kc_max2 {X : Cx} (hc : X.calm = true) : CallR X (.builtin "max") rMx2 := call_max2 hc
theorem up_max2 {i j : Int} (k : Up (Q (.int (max i j))) H) : Up (blK rMx2 Q [.int i, .int j]) H := fun H1 e => ⟨i, j, rfl, by
  have q : (if j > i then j else i) = max i j := by
    by_cases h : j > i
    · rw [if_pos h]; omega
    · rw [if_neg h]; omega
  rw [q]
  exact k H1 e⟩
def rMn2 : List V → Hp → VK → Prop := fun xs H Q => ∃ i j, xs = [.int i, .int j] ∧ Q (.int (if j < i then j else i)) H
theorem kc_min2 {X : Cx} (hc : X.calm = true) : CallR X (.builtin "min") rMn2 := call_min2 hc
theorem up_min2 {i j : Int} (k : Up (Q (.int (min i j))) H) : Up (blK rMn2 Q [.int i, .int j]) H := fun H1 e => ⟨i, j, rfl, by
  have q : (if j < i then j else i) = min i j := by
    by_cases h : j < i
    · rw [if_pos h]; omega
    · rw [if_neg h]; omega
  rw [q]
  exact k H1 e⟩
theorem up_sum {p : Addr} {ns : List Int} (h : SqL K H p (ns.map V.int)) (k : Up (Q (.int ns.sum)) H) : Up (blK (rSum K) Q [.ref p]) H := fun H1 e => ⟨p, ns, rfl, sq_up e h, k H1 e⟩
theorem up_max {p : Addr} {ns : List Int} (h : SqL K H p (ns.map V.int)) (hn : 0 < ns.length) (k : ∀ m, m ∈ ns → (∀ y, y ∈ ns → y ≤ m) → Up (Q (.int m)) H) : Up (blK (rMax K) Q [.ref p]) H := fun H1 e => ⟨p, ns, rfl, sq_up e h, hn, fun m a b => k m a b H1 e⟩
/-- isinstance with a built-in type -/
theorem tyOf_up {H' : Hp} {t : Value} (e : Same H H') (h : TyX K H x t) : TyX K H' x t := by
  cases h with
  | base h =>
    cases h with
    | non => exact .base .non
    | bl y => exact .base (.bl y)
    | int y => exact .base (.int y)
    | str y => exact .base (.str y)
    | flt y => exact .base (.flt y)
    | lst h => exact .base (.lst (e _ _ h))
    | frz h => exact .base (.frz (e _ _ h))
    | tup h => exact .base (.tup (e _ _ h))
    | dK h => exact .base (.dK (e _ _ h))
    | dT h => exact .base (.dT (e _ _ h))
    | ins h a b c d f => exact .base (.ins (e _ _ h) a b c d f)
  | byt b => exact .byt b
  | set h => exact .set (e _ _ h)
  | kList h c => exact .kList h c
  | kTuple h c => exact .kTuple h c
  | kDict h c => exact .kDict h c
  | fTuple h => exact .fTuple (e _ _ h)
  | fDict h => exact .fDict (e _ _ h)
theorem up_isi {a : String} {n : String} (ty : TyX K H x (.type a)) {r : Bool} (h : kitB a n = some r) (k : Up (Q (.bl r)) H) : Up (blK (rIsi K) Q [x, .ty n]) H := fun H1 e => ⟨x, .ty n, .type a, .type n, r, rfl, .ty n, tyOf_up e ty, kit_ty h, k H1 e⟩

/-! ### statements -/
variable {n bk ct : St → Hp → Prop} {r : VK} {ts tu tw : TS}
def asK (g : TG) (n : St → Hp → Prop) (σ : St) : VK := fun x H1 => g x σ H1 n
theorem up_seq (k : Up (ts (Ends.mk (tu (Ends.mk n r bk ct)) r bk ct) σ) H) : Up (tSeq ts tu (Ends.mk n r bk ct) σ) H := k
theorem up_next (k : Up (n σ) H) : Up (tNext (Ends.mk n r bk ct) σ) H := k
theorem up_brk (k : Up (bk σ) H) : Up (tBreak (Ends.mk n r bk ct) σ) H := k
theorem up_cont (k : Up (ct σ) H) : Up (tCont (Ends.mk n r bk ct) σ) H := k
theorem up_asg {g : TG} (k : Up (fun H1 => te σ H1 (asK g n σ)) H) : Up (tAsg te g (Ends.mk n r bk ct) σ) H := k
theorem up_name {i : Nat} (k : Up (n (σ.set i (some v))) H) : Up (asK (gName i) n σ v) H := k
def subK (ti : TE) (t : TSet) (v : V) (σ : St) (n : St → Hp → Prop) : VK := fun o H1 => ti σ H1 fun i H2 => t o i v H2 fun H3 => n σ H3
theorem up_sub {ti : TE} {t : TSet} (k : Up (fun H1 => te σ H1 (subK ti t v σ n)) H) : Up (asK (gSub te ti t) n σ v) H := k
theorem up_subK {ti : TE} {t : TSet} {o : V} (k : Up (fun H1 => ti σ H1 fun i H2 => t o i v H2 fun H3 => n σ H3) H) : Up (subK ti t v σ n o) H := k
theorem up_setL {p : Addr} {i : Int} {j : Nat} (h : H p = some (.lst xs)) (hi : ixN xs.length i = some j) (k : Up (n σ) (upd H p (.lst (xs.set j v)))) : Up (fun H1 => rSetL (.ref p) (.int i) v H1 fun H3 => n σ H3) H :=
  fun H1 e => ⟨p, xs, i, j, rfl, rfl, e p _ h, hi, k _ (same_upd e)⟩
def drK (n : St → Hp → Prop) (σ : St) : VK := fun _ H1 => n σ H1
theorem up_drop (k : Up (fun H1 => te σ H1 (drK n σ)) H) : Up (tDrop te (Ends.mk n r bk ct) σ) H := k
theorem up_drK (k : Up (n σ) H) : Up (drK n σ v) H := k
theorem up_ret (k : Up (fun H1 => te σ H1 r) H) : Up (tRet te (Ends.mk n r bk ct) σ) H := k
theorem up_retN (k : Up (r .non) H) : Up (tRetN (Ends.mk n r bk ct) σ) H := k
def ifK (ts tu : TS) (D : Ends) (σ : St) : Bool → Hp → Prop := fun b H1 => if b = true then ts D σ H1 else tu D σ H1
theorem up_if (k : Up (fun H1 => t σ H1 (ifK ts tu (Ends.mk n r bk ct) σ)) H) : Up (tIfS t ts tu (Ends.mk n r bk ct) σ) H := k
theorem up_ifK {D : Ends} (k1 : b = true → Up (ts D σ) H) (k0 : b = false → Up (tu D σ) H) : Up (ifK ts tu D σ b) H := by
  cases b with
  | true => exact k1 rfl
  | false => exact k0 rfl
theorem up_ifP {D : Ends} {c : Prop} [Decidable c] (k1 : c → Up (ts D σ) H) (k0 : ¬ c → Up (tu D σ) H) : Up (ifK ts tu D σ (decide c)) H := up_ifK (fun h => k1 (of_decide_eq_true h)) fun h => k0 (of_decide_eq_false h)
theorem up_ifN {D : Ends} {c : Prop} [Decidable c] (k1 : ¬ c → Up (ts D σ) H) (k0 : c → Up (tu D σ) H) : Up (ifK ts tu D σ (!decide c)) H :=
  up_ifK (fun h => k1 (of_decide_eq_false (by simpa using h))) fun h => k0 (of_decide_eq_true (by simpa using h))
theorem up_ifT {D : Ends} (h : b = true) (k : Up (ts D σ) H) : Up (ifK ts tu D σ b) H := by rw [h]; exact k
theorem up_ifF {D : Ends} (h : b = false) (k : Up (tu D σ) H) : Up (ifK ts tu D σ b) H := by rw [h]; exact k

/-! ### loops: I tells, of a turn's number and the slots, what is known of the heap -/
/-- I from below -/
def Lo (I : St → Hp → Prop) : St → Hp → Prop := fun σ H' => ∃ H0, Same H0 H' ∧ I σ H0
theorem up_lo {I : St → Hp → Prop} (h : I σ H) : Up (Lo I σ) H := fun _ e => ⟨H, e, h⟩
def itK (g : TG) (tb : TS) (D : Ends) (σ : St) : It → Hp → Prop := fun J H1 => ∃ W : Nat → Nat → St → Hp → Prop, (∃ m, W 0 m σ H1) ∧ ∀ i m σ H, W i m σ H →
  (J.stop i H ∧ D.nx σ H) ∨ (J.go i H ∧ ∃ N : St → Hp → Prop, (∀ σ' H', N σ' H' → ∃ m', m' < m ∧ W (i + 1) m' σ' H') ∧ ∀ x H', J.yld i H x H' → g x σ H' fun σ2 H2 => tb { D with nx := N, ct := N, bk := D.nx } σ2 H2)
theorem up_for {wi : TI} {g : TG} (k : Up (fun H1 => wi σ H1 (itK g ts (Ends.mk n r bk ct) σ)) H) : Up (tFor wi g ts (Ends.mk n r bk ct) σ) H := k
variable {R : It → Hp → Prop}
def itlK (K : PySem.W.Frag) (R : It → Hp → Prop) : VK := fun x H1 => ∃ a, x = .ref a ∧ (∃ xs, SqL K H1 a xs) ∧ R (Itl K a) H1
theorem up_iList (k : Up (fun H1 => te σ H1 (itlK K R)) H) : Up (fun H1 => iList K te σ H1 R) H := k
theorem up_itl {a : Addr} (h : SqL K H a xs) (k : Up (R (Itl K a)) H) : Up (itlK K R (.ref a)) H := fun H1 e => ⟨a, rfl, ⟨xs, sq_up e h⟩, k H1 e⟩
def rg1K (R : It → Hp → Prop) : List V → Hp → Prop := fun vs H1 => ∃ j : Int, vs = [.int j] ∧ -(2 ^ 62) ≤ j ∧ j < 2 ^ 62 ∧ R (Itr 0 j.toNat) H1
theorem up_iRng1 (k : Up (fun H1 => tr σ H1 (rg1K R)) H) : Up (fun H1 => iRng1 tr σ H1 R) H := k
theorem up_rg1 {j : Int} (h1 : -100000 ≤ j) (h2 : j ≤ 100000) (k : Up (R (Itr 0 j.toNat)) H) : Up (rg1K R [.int j]) H := fun H1 e => ⟨j, rfl, by omega, by omega, k H1 e⟩
def rg2K (R : It → Hp → Prop) : List V → Hp → Prop := fun vs H1 => ∃ i j : Int, vs = [.int i, .int j] ∧ (-(2 ^ 62) ≤ i ∧ i < 2 ^ 62 ∧ -(2 ^ 62) ≤ j ∧ j < 2 ^ 62) ∧ R (Itr i (j - i).toNat) H1
theorem up_iRng2 (k : Up (fun H1 => tr σ H1 (rg2K R)) H) : Up (fun H1 => iRng2 tr σ H1 R) H := k
theorem up_rg2 {i j : Int} (h : -100000 ≤ i ∧ i ≤ 100000 ∧ -100000 ≤ j ∧ j ≤ 100000) (k : Up (R (Itr i (j - i).toNat)) H) : Up (rg2K R [.int i, .int j]) H := fun H1 e => ⟨i, j, rfl, ⟨by omega, by omega, by omega, by omega⟩, k H1 e⟩
def rg3K (R : It → Hp → Prop) : List V → Hp → Prop := fun vs H1 => ∃ (i j c : Int) (n : Nat), vs = [.int i, .int j, .int c] ∧ RgC i j c n ∧ R (Itc i c n) H1
theorem up_iRng3 (k : Up (fun H1 => tr σ H1 (rg3K R)) H) : Up (fun H1 => iRng3 tr σ H1 R) H := k
theorem up_rg3 {i j : Int} (h : -100000 ≤ i ∧ i ≤ 100000 ∧ -100000 ≤ j ∧ j ≤ 100000) (k : Up (R (Itc i (-1) (i - j).toNat)) H) : Up (rg3K R [.int i, .int j, .int (-1)]) H :=
  fun H1 e => ⟨i, j, -1, (i - j).toNat, rfl, RgC.neg (by omega) (by omega) (by omega) (by omega), k H1 e⟩
def istK (R : It → Hp → Prop) : VK := fun v H1 => ∃ x, v = .str x ∧ R (Its x) H1
theorem up_iStr (k : Up (fun H1 => te σ H1 (istK R)) H) : Up (fun H1 => iStr te σ H1 R) H := k
theorem up_ist {z : Str} (k : Up (R (Its z)) H) : Up (istK R (.str z)) H := fun H1 e => ⟨z, rfl, k H1 e⟩

/-- what a turn of the body is to reach -/
abbrev turnE (I : Nat → St → Hp → Prop) (i : Nat) (n : St → Hp → Prop) (r : VK) : Ends := Ends.mk (Lo (I (i + 1))) r n (Lo (I (i + 1)))
theorem up_forL {a : Addr} {j : Nat} (I : Nat → St → Hp → Prop) (h0 : I 0 σ H) (hl : ∀ i σ' H', i ≤ xs.length → I i σ' H' → SqL K H' a xs)
    (hs : ∀ i x σ' H', xs[i]? = some x → I i σ' H' → Up (ts (turnE I i n r) (σ'.set j (some x))) H') (hd : ∀ σ' H', I xs.length σ' H' → Up (n σ') H') : Up (itK (gName j) ts (Ends.mk n r bk ct) σ (Itl K a)) H := fun H1 e => by
  refine for_list (K := K) (a := a) (xs := xs) (fun i => Lo (I i)) ⟨H, e, h0⟩ (fun i σ' H' hi ⟨H0, e0, p⟩ => sq_up e0 (hl i σ' H0 hi p)) (fun i x σ' H' hx ⟨H0, e0, p⟩ => ?_) (fun σ' H' ⟨H0, e0, p⟩ => hd σ' H0 p H' e0)
  exact hs i x σ' H0 hx p H' e0
theorem up_forR {lo : Int} {m j : Nat} (I : Nat → St → Hp → Prop) (h0 : I 0 σ H)
    (hs : ∀ i σ' H', i < m → I i σ' H' → Up (ts (turnE I i n r) (σ'.set j (some (.int (lo + i))))) H') (hd : ∀ σ' H', I m σ' H' → Up (n σ') H') : Up (itK (gName j) ts (Ends.mk n r bk ct) σ (Itr lo m)) H := fun H1 e => by
  refine for_range (lo := lo) (n := m) (fun i => Lo (I i)) ⟨H, e, h0⟩ (fun i σ' H' hi ⟨H0, e0, p⟩ => ?_) (fun σ' H' ⟨H0, e0, p⟩ => hd σ' H0 p H' e0)
  exact hs i σ' H0 hi p H' e0
theorem up_forR0 {m j : Nat} (I : Nat → St → Hp → Prop) (h0 : I 0 σ H)
    (hs : ∀ i σ' H', i < m → I i σ' H' → Up (ts (turnE I i n r) (σ'.set j (some (.int ((i : Nat) : Int))))) H') (hd : ∀ σ' H', I m σ' H' → Up (n σ') H') : Up (itK (gName j) ts (Ends.mk n r bk ct) σ (Itr 0 m)) H :=
  up_forR I h0 (fun i σ' H' hi p => by rw [Int.zero_add]; exact hs i σ' H' hi p) hd
theorem up_forC {lo c : Int} {m j : Nat} (I : Nat → St → Hp → Prop) (h0 : I 0 σ H)
    (hs : ∀ i σ' H', i < m → I i σ' H' → Up (ts (turnE I i n r) (σ'.set j (some (.int (lo + (i : Nat) * c))))) H') (hd : ∀ σ' H', I m σ' H' → Up (n σ') H') : Up (itK (gName j) ts (Ends.mk n r bk ct) σ (Itc lo c m)) H := fun H1 e => by
  refine for_rangeC (lo := lo) (c := c) (n := m) (fun i => Lo (I i)) ⟨H, e, h0⟩ (fun i σ' H' hi ⟨H0, e0, p⟩ => ?_) (fun σ' H' ⟨H0, e0, p⟩ => hd σ' H0 p H' e0)
  exact hs i σ' H0 hi p H' e0
theorem up_while (I : Nat → St → Hp → Prop) (m0 : Nat) (h0 : I m0 σ H)
    (hs : ∀ m σ' H', I m σ' H' → ∃ b, EvT t σ' H' b ∧ (b = true → Up (ts (Ends.mk (Lo fun σ2 H2 => ∃ m', m' < m ∧ I m' σ2 H2) r n (Lo fun σ2 H2 => ∃ m', m' < m ∧ I m' σ2 H2)) σ') H') ∧ (b = false → Up (n σ') H')) :
    Up (tWhile t ts (Ends.mk n r bk ct) σ) H := fun H1 e => by
  refine ⟨fun m => Lo (I m), ⟨m0, H, e, h0⟩, fun m σ' H' ⟨H0, e0, p⟩ => ?_⟩
  obtain ⟨b, ev, k1, k0⟩ := hs m σ' H0 p
  refine ev _ ?_ H' e0
  cases b with
  | true =>
    refine fun H2 e2 => ?_
    show if true = true then _ else _
    rw [if_pos rfl]
    exact ⟨_, fun σ2 H3 ⟨H4, e4, m', hm, q⟩ => ⟨m', hm, H4, e4, q⟩, k1 rfl H2 e2⟩
  | false =>
    refine fun H2 e2 => ?_
    show if false = true then _ else _
    rw [if_neg Bool.false_ne_true]
    exact k0 rfl H2 e2

/-! ### comprehensions -/
def lcK (g : TG) (tt : TT) (te : TE) (vs : List Nat) (σ : St) (Q : VK) : It → Hp → Prop := fun J H1 => ∀ D, H1 D = none → ∃ W : Nat → Nat → Hp → Prop, (∃ m, W 0 m (upd H1 D (.lst []))) ∧ ∀ i m H, W i m H →
  (J.stop i H ∧ Q (.ref D) H) ∨ (J.go i H ∧ ∃ Nx : Hp → Prop, (∀ H', Nx H' → ∃ m', m' < m ∧ W (i + 1) m' H') ∧ ∀ x H', J.yld i H x H' → g x (wipe σ vs) H' fun σ2 H2 => wipe σ2 vs = wipe σ vs ∧ tt σ2 H2 fun b H3 =>
    if b = true then te σ2 H3 fun y H4 => ∃ acc, H4 D = some (.lst acc) ∧ acc.length < sizeLine ∧ Nx (upd H4 D (.lst (acc ++ [y]))) else Nx H3)
theorem up_lc {wi : TI} {g : TG} {vs : List Nat} (k : Up (fun H1 => wi σ H1 (lcK g t te vs σ Q)) H) : Up (fun H1 => tLc wi g t te vs σ H1 Q) H := k
/-- I from below, of the heap alone -/
def Lh (I : Hp → Prop) : Hp → Prop := fun H' => ∃ H0, Same H0 H' ∧ I H0
theorem up_lh {I : Hp → Prop} (h : I H) : Up (Lh I) H := fun _ e => ⟨H, e, h⟩
/-- the new item goes to the list at D -/
def putD (D : Addr) (N : Hp → Prop) : VK := fun y H4 => ∃ acc, H4 D = some (.lst acc) ∧ acc.length < sizeLine ∧ N (upd H4 D (.lst (acc ++ [y])))
theorem up_putD {D : Addr} {N : Hp → Prop} (h : H D = some (.lst xs)) (hz : xs.length < 100000) (k : Up N (upd H D (.lst (xs ++ [y])))) : Up (putD D N y) H := fun H1 e => ⟨xs, e D _ h, szl hz, k _ (same_upd e)⟩
/-- kept or not -/
def keepD (te : TE) (σ2 : St) (D : Addr) (N : Hp → Prop) : Bool → Hp → Prop := fun b H3 => if b = true then te σ2 H3 (putD D N) else N H3
theorem up_keep1 {D : Addr} {N : Hp → Prop} (h : b = true) (k : Up (fun H1 => te σ H1 (putD D N)) H) : Up (keepD te σ D N b) H := by rw [h]; exact k
theorem up_keep0 {D : Addr} {N : Hp → Prop} (h : b = false) (k : Up N H) : Up (keepD te σ D N b) H := by rw [h]; exact k
theorem up_keepP {D : Addr} {N : Hp → Prop} {c : Prop} [Decidable c] (k1 : c → Up (fun H1 => te σ H1 (putD D N)) H) (k0 : ¬ c → Up N H) : Up (keepD te σ D N (decide c)) H := by
  by_cases h : c
  · exact up_keep1 (decide_eq_true h) (k1 h)
  · exact up_keep0 (decide_eq_false h) (k0 h)
theorem up_keepB {D : Addr} {N : Hp → Prop} (k1 : b = true → Up (fun H1 => te σ H1 (putD D N)) H) (k0 : b = false → Up N H) : Up (keepD te σ D N b) H := by
  cases b with
  | true => exact k1 rfl
  | false => exact k0 rfl
theorem up_yes (k : Up (QB true) H) : Up (fun H1 => tYes σ H1 QB) H := k
theorem up_lcL {a : Addr} {j : Nat} {vs : List Nat} (hw : ∀ x, wipe ((wipe σ vs).set j (some x)) vs = wipe σ vs) (I : Addr → Nat → Hp → Prop) (h0 : ∀ D, H D = none → I D 0 (upd H D (.lst []))) (hl : ∀ D i H', i ≤ xs.length → I D i H' → SqL K H' a xs)
    (hs : ∀ D i x H', H D = none → xs[i]? = some x → I D i H' → Up (fun H1 => t ((wipe σ vs).set j (some x)) H1 (keepD te ((wipe σ vs).set j (some x)) D (Lh (I D (i + 1))))) H') (hd : ∀ D H', H D = none → I D xs.length H' → Up (Q (.ref D)) H') :
    Up (lcK (gName j) t te vs σ Q (Itl K a)) H := fun H1 e D hD => by
  refine lc_list (K := K) (a := a) (xs := xs) (fun i => Lh (I D i)) ⟨_, same_upd e, h0 D (e.free hD)⟩ (fun i H' hi ⟨H0, e0, p⟩ => sq_up e0 (hl D i H0 hi p)) (fun i x H' hx ⟨H0, e0, p⟩ => ⟨hw x, ?_⟩) (fun H' ⟨H0, e0, p⟩ => hd D H0 (e.free hD) p H' e0)
  exact hs D i x H0 (e.free hD) hx p H' e0
theorem up_lcR {lo : Int} {m j : Nat} {vs : List Nat} (hw : ∀ x, wipe ((wipe σ vs).set j (some x)) vs = wipe σ vs) (I : Addr → Nat → Hp → Prop) (h0 : ∀ D, H D = none → I D 0 (upd H D (.lst [])))
    (hs : ∀ D i H', H D = none → i < m → I D i H' → Up (fun H1 => t ((wipe σ vs).set j (some (.int (lo + i)))) H1 (keepD te ((wipe σ vs).set j (some (.int (lo + i)))) D (Lh (I D (i + 1))))) H') (hd : ∀ D H', H D = none → I D m H' → Up (Q (.ref D)) H') :
    Up (lcK (gName j) t te vs σ Q (Itr lo m)) H := fun H1 e D hD => by
  refine lc_range (lo := lo) (n := m) (fun i => Lh (I D i)) ⟨_, same_upd e, h0 D (e.free hD)⟩ (fun i H' hi ⟨H0, e0, p⟩ => ⟨hw _, ?_⟩) (fun H' ⟨H0, e0, p⟩ => hd D H0 (e.free hD) p H' e0)
  exact hs D i H0 (e.free hD) hi p H' e0
end
section
variable {H : Hp} {σ : St} {Q : VK} {t : TT} {te : TE}
theorem up_lcR0 {m j : Nat} {vs : List Nat} (hw : ∀ x, wipe ((wipe σ vs).set j (some x)) vs = wipe σ vs) (I : Addr → Nat → Hp → Prop) (h0 : ∀ D, H D = none → I D 0 (upd H D (.lst [])))
    (hs : ∀ D i H', H D = none → i < m → I D i H' → Up (fun H1 => t ((wipe σ vs).set j (some (.int ((i : Nat) : Int)))) H1 (keepD te ((wipe σ vs).set j (some (.int ((i : Nat) : Int)))) D (Lh (I D (i + 1))))) H') (hd : ∀ D H', H D = none → I D m H' → Up (Q (.ref D)) H') :
    Up (lcK (gName j) t te vs σ Q (Itr 0 m)) H := up_lcR hw I h0 (fun D i H' hD hi p => by rw [Int.zero_add]; exact hs D i H' hD hi p) hd
end
/-! ### defs by their names -/
/-- a def of the text, its promise -/
structure Fn (P : Program) (w : World) (K : PySem.W.Frag) (mg : Str → Option Value) (base : Heap) (CX : CXT) (k : Nat) (x : Str) (ps : List Str) (sp : Sp) : Prop where
  ex : ∃ (f : Addr) (fd : FuncData), FnOk P w K mg base CX k f fd ps sp ∧ mg x = some (.ref f) ∧ PySem.W.keepIn K (.ref f) = true ∧ Binds K fd ps []
theorem Fn.mk' {P : Program} {w : World} {K : PySem.W.Frag} {mg : Str → Option Value} {base : Heap} {CX : CXT} {k : Nat} {x qual : Str} {st : Stmt} {ps : List Str} {sp : Sp} {f : Addr} {fd : FuncData} (F : Fun K x qual st f fd) (G : FnOk P w K mg base CX k f fd ps sp) (hm : mg x = some (.ref f))
    (h : ∀ (kV doc pm : Value) (an : Option Addr) (cdv ct : Value) (us : List Value), us.length = ps.length → bindArgs (PySem.W.fnOf x qual (defArgs st) (defBody st) (defScope st) .none kV doc pm an cdv ct) ⟨us, []⟩ = pure (ps.zip us)) : Fn P w K mg base CX k x ps sp :=
  ⟨f, fd, G, hm, F.kp, F.binds h⟩
section
variable {X : Cx} {k j : Nat} {x : Str} {ps : List Str} {sp : Sp} {p pos : Pos} {e : Expr} {es : List Expr} {t : TA}
theorem kp_call (c : Fn X.prog X.w X.K X.mg X.base CX0 k x ps sp) (hr : Room j X.A) (hk : k ≤ j) (hg : Gl X x) (ha : PA X (e :: es) t) (hdb : (x == ("__debug__" : Str)) = false := by decide) (he : starEach (e :: es) X.env = (false, eval e X.env) :: starEach es X.env := by rfl)
    (hpl : (backTo pos (starEach es X.env)).any (·.1) = false := by rfl) : PE X (.Call (.Name x p) (e :: es) [] pos) (tCall sp [] E0 t) := by
  obtain ⟨f, fd, F, hm, kp, b⟩ := c.ex
  exact pe_call F (hr.mono hk) hg hm kp b .nil pass0 ha hdb he hpl
theorem kt_truth {a : Expr} {ta : TE} (ha : PE X a ta) (he : ∀ whole, isTrue a X.env whole = (do let v ← whole; standAt a.pos; holding [v] (truthy v)) := by intro _; rfl) : PT X a (tTru X.K ta) := pt_truth ha he
theorem ko_addS : OpR X (binaryOp .Add) rAddS := op_add_str
end
/-- what the top leaves of the built-ins' names -/
structure Bl (mg : Str → Option Value) : Prop where
  len : mg "len" = none
  range : mg "range" = none
  list : mg "list" = none
  tuple : mg "tuple" = none
  max : mg "max" = none
  min : mg "min" = none
  sum : mg "sum" = none
  sorted : mg "sorted" = none
  isi : mg "isinstance" = none
  int : mg "int" = none
  bool : mg "bool" = none
  str : mg "str" = none
theorem _root_.L2.Room.units65 {k : Nat} {A : Around} (r : Room k A) : A.units + 65 < cLine := by have := r.un; omega
/-! ### dicts with int keys -/
section
variable {K : PySem.W.Frag} {H : Hp} {σ : St} {Q : VK} {v x y : V} {ta tb te : TE} {n bk ct : St → Hp → Prop} {r : VK} {d : Addr} {kvs : List (Key × V)} {i : Int}
theorem up_dnew (k : ∀ p, H p = none → Up (Q (.ref p)) (upd H p (.dK []))) : Up (fun H1 => tDNewK σ H1 Q) H := fun H1 e p hp => k p (e.free hp) _ (same_upd e)
def dinB (neg : Bool) (y : V) (Q : VK) : VK := fun x H2 => ∃ a o, x = .ref a ∧ DGet H2 a y o ∧ Q (.bl (if neg then !o.isSome else o.isSome)) H2
def dinA (neg : Bool) (td : TE) (σ : St) (Q : VK) : VK := fun y H1 => td σ H1 (dinB neg y Q)
theorem up_din (k : Up (fun H1 => ta σ H1 (dinA false tb σ Q)) H) : Up (fun H1 => tDIn ta tb σ H1 Q) H := k
theorem up_dnotin (k : Up (fun H1 => ta σ H1 (dinA true tb σ Q)) H) : Up (fun H1 => tDNotIn ta tb σ H1 Q) H := k
theorem up_dinA {neg : Bool} (k : Up (fun H1 => tb σ H1 (dinB neg y Q)) H) : Up (dinA neg tb σ Q y) H := k
theorem up_dinB (h : H d = some (.dK kvs)) (k : Up (Q (.bl (valV kvs (Sum.inl i : Key)).isSome)) H) : Up (dinB false (.int i) Q (.ref d)) H := fun H1 e => ⟨d, _, rfl, DGet.k (k := Sum.inl i) (e _ _ h), k H1 e⟩
theorem up_dnotinB (h : H d = some (.dK kvs)) (k : Up (Q (.bl (!(valV kvs (Sum.inl i : Key)).isSome))) H) : Up (dinB true (.int i) Q (.ref d)) H := fun H1 e => ⟨d, _, rfl, DGet.k (k := Sum.inl i) (e _ _ h), k H1 e⟩
def dgB (x : V) (Q : VK) : VK := fun y H2 => ∃ a v, x = .ref a ∧ DGet H2 a y (some v) ∧ Q v H2
def dgA (ty : TE) (σ : St) (Q : VK) : VK := fun x H1 => ty σ H1 (dgB x Q)
theorem up_dget (k : Up (fun H1 => ta σ H1 (dgA tb σ Q)) H) : Up (fun H1 => tDGet ta tb σ H1 Q) H := k
theorem up_dgA (k : Up (fun H1 => tb σ H1 (dgB x Q)) H) : Up (dgA tb σ Q x) H := k
theorem up_dgB (h : H d = some (.dK kvs)) (hv : valV kvs (Sum.inl i : Key) = some v) (k : Up (Q v) H) : Up (dgB (.ref d) Q (.int i)) H := fun H1 e => ⟨d, v, rfl, by
  have g := DGet.k (k := (Sum.inl i : Key)) (e _ _ h)
  rw [hv] at g
  exact g, k H1 e⟩
def dpC (v x : V) (n : St → Hp → Prop) (σ : St) : VK := fun y H3 => ∃ a H4, x = .ref a ∧ DPut H3 a y v H4 ∧ n σ H4
def dpB (v : V) (ty : TE) (n : St → Hp → Prop) (σ : St) : VK := fun x H2 => ty σ H2 (dpC v x n σ)
def dpA (td ty : TE) (n : St → Hp → Prop) (σ : St) : VK := fun v H1 => td σ H1 (dpB v ty n σ)
theorem up_dput (k : Up (fun H1 => te σ H1 (dpA ta tb n σ)) H) : Up (sDPut ta tb te (Ends.mk n r bk ct) σ) H := k
theorem up_dpA (k : Up (fun H1 => ta σ H1 (dpB v tb n σ)) H) : Up (dpA ta tb n σ v) H := k
theorem up_dpB (k : Up (fun H1 => tb σ H1 (dpC v x n σ)) H) : Up (dpB v tb n σ x) H := k
theorem up_dpC (h : H d = some (.dK kvs)) (hl : kvs.length < 100000) (k : Up (n σ) (upd H d (.dK (putK kvs (Sum.inl i : Key) v)))) : Up (dpC v (.ref d) n σ (.int i)) H := fun H1 e => ⟨d, _, rfl, DPut.k (k := Sum.inl i) (e _ _ h) (szl hl), k _ (same_upd e)⟩
/-- d.get(k, z) -/
def d2C (a : Addr) (y : V) (Q : VK) : VK := fun z H3 => ∃ o, DGet H3 a y o ∧ Q (o.getD z) H3
def d2B (a : Addr) (tx : TE) (σ : St) (Q : VK) : VK := fun y H2 => tx σ H2 (d2C a y Q)
def d2A (ty tx : TE) (σ : St) (Q : VK) : VK := fun x H1 => ∃ a, x = .ref a ∧ IsD H1 a ∧ ty σ H1 (d2B a tx σ Q)
theorem up_dget2 (k : Up (fun H1 => ta σ H1 (d2A tb te σ Q)) H) : Up (fun H1 => tDGet2 ta tb te σ H1 Q) H := k
theorem up_d2A (h : H d = some (.dK kvs)) (k : Up (fun H1 => tb σ H1 (d2B d te σ Q)) H) : Up (d2A tb te σ Q (.ref d)) H := fun H1 e => ⟨d, rfl, .inl ⟨kvs, .inl (e _ _ h)⟩, k H1 e⟩
theorem up_d2B (k : Up (fun H1 => te σ H1 (d2C d y Q)) H) : Up (d2B d te σ Q y) H := k
theorem up_d2C (h : H d = some (.dK kvs)) (k : Up (Q ((valV kvs (Sum.inl i : Key)).getD v)) H) : Up (d2C d (.int i) Q v) H := fun H1 e => ⟨_, DGet.k (k := Sum.inl i) (e _ _ h), k H1 e⟩
/-- d.pop(k) -/
def dqB (a : Addr) (Q : VK) : VK := fun y H2 => ∃ kvs k v, H2 a = some (.dK kvs) ∧ y = kV k ∧ valV kvs k = some v ∧ Q v (upd H2 a (.dK (dropK kvs k)))
def dqA (ty : TE) (σ : St) (Q : VK) : VK := fun x H1 => ∃ a, x = .ref a ∧ IsD H1 a ∧ ty σ H1 (dqB a Q)
theorem up_dpop1 (k : Up (fun H1 => ta σ H1 (dqA tb σ Q)) H) : Up (fun H1 => tDPop1 ta tb σ H1 Q) H := k
theorem up_dqA (h : H d = some (.dK kvs)) (k : Up (fun H1 => tb σ H1 (dqB d Q)) H) : Up (dqA tb σ Q (.ref d)) H := fun H1 e => ⟨d, rfl, .inl ⟨kvs, .inl (e _ _ h)⟩, k H1 e⟩
theorem up_dqB (h : H d = some (.dK kvs)) (hv : valV kvs (Sum.inl i : Key) = some v) (k : Up (Q v) (upd H d (.dK (dropK kvs (Sum.inl i : Key))))) : Up (dqB d Q (.int i)) H := fun H1 e => ⟨kvs, Sum.inl i, v, e _ _ h, rfl, hv, k _ (same_upd e)⟩

/-! ### instances -/
variable {C a dx : Addr} {fs : List (Str × V)} {f m : Str} {tr : TA}
def fdK (K : PySem.W.Frag) (f : Str) (Q : VK) : VK := fun x H1 => ∃ a C dx fs v, x = .ref a ∧ H1 a = some (.ins C dx fs) ∧ Cls K C ∧ NoAttr K C f ∧ fs.lookup f = some v ∧ Q v H1
theorem up_fld (k : Up (fun H1 => te σ H1 (fdK K f Q)) H) : Up (fun H1 => tFld K te f σ H1 Q) H := k
theorem up_fdK (h : H a = some (.ins C dx fs)) (c : Cls K C) (na : NoAttr K C f) (hl : fs.lookup f = some v) (k : Up (Q v) H) : Up (fdK K f Q (.ref a)) H := fun H1 e => ⟨a, C, dx, fs, v, rfl, e _ _ h, c, na, hl, k H1 e⟩
def sfB (K : PySem.W.Frag) (f : Str) (y : V) (n : St → Hp → Prop) (σ : St) : VK := fun x H2 => ∃ a C dx fs, x = .ref a ∧ H2 a = some (.ins C dx fs) ∧ Cls K C ∧ NoAttr K C f ∧ fs.length < 1000 ∧ n σ (upd H2 a (.ins C dx (putF f y fs)))
def sfA (K : PySem.W.Frag) (ta : TE) (f : Str) (n : St → Hp → Prop) (σ : St) : VK := fun y H1 => ta σ H1 (sfB K f y n σ)
theorem up_sfld (k : Up (fun H1 => te σ H1 (sfA K ta f n σ)) H) : Up (sFld K ta te f (Ends.mk n r bk ct) σ) H := k
theorem up_sfA (k : Up (fun H1 => ta σ H1 (sfB K f y n σ)) H) : Up (sfA K ta f n σ y) H := k
theorem up_sfB (h : H a = some (.ins C dx fs)) (c : Cls K C) (na : NoAttr K C f) (hl : fs.length < 1000) (k : Up (n σ) (upd H a (.ins C dx (putF f y fs)))) : Up (sfB K f y n σ (.ref a)) H := fun H1 e => ⟨a, C, dx, fs, rfl, e _ _ h, c, na, hl, k _ (same_upd e)⟩
def mtB (sp : Sp) (dvs : List V) (E : XK) (x : V) (Q : VK) : List V → Hp → Prop := fun vs H2 => sp (x :: (vs ++ dvs)) H2 Q E
def mtA (C : Addr) (m : Str) (sp : Sp) (dvs : List V) (E : XK) (tr : TA) (σ : St) (Q : VK) : VK := fun x H1 => ∃ a dx fs, x = .ref a ∧ H1 a = some (.ins C dx fs) ∧ fs.lookup m = none ∧ tr σ H1 (mtB sp dvs E x Q)
theorem up_meth {sp : Sp} {dvs : List V} {E : XK} (k : Up (fun H1 => te σ H1 (mtA C m sp dvs E tr σ Q)) H) : Up (fun H1 => tMeth C m sp dvs E te tr σ H1 Q) H := k
theorem up_mtA {sp : Sp} {dvs : List V} {E : XK} (h : H a = some (.ins C dx fs)) (hl : fs.lookup m = none) (k : Up (fun H1 => tr σ H1 (mtB sp dvs E (.ref a) Q)) H) : Up (mtA C m sp dvs E tr σ Q (.ref a)) H := fun H1 e => ⟨a, dx, fs, rfl, e _ _ h, hl, k H1 e⟩
theorem up_mtB {F : List V → Hp → VK → Prop} {E : XK} {vs : List V} (h : F (x :: vs) H Q) : Up (mtB (KSp F) [] E x Q vs) H := fun H1 e => by
  show KSp F (x :: (vs ++ [])) H1 Q E
  rw [List.append_nil]
  exact ⟨H, e, h⟩
theorem up_mtX {F : List V → Hp → VK → XK → Prop} {E : XK} {vs : List V} (h : F (x :: vs) H Q E) : Up (mtB (KSx F) [] E x Q vs) H := fun H1 e => by
  show KSx F (x :: (vs ++ [])) H1 Q E
  rw [List.append_nil]
  exact ⟨H, e, h⟩
def mkK (C : Addr) (sp : Sp) (dvs : List V) (E : XK) (Q : VK) : List V → Hp → Prop := fun vs H1 => ∀ x dx, H1 x = none → H1 dx = none → dx ≠ x → sp (.ref x :: (vs ++ dvs)) (upd (upd H1 dx (.own x)) x (.ins C dx [])) (fun v H2 => v = .non ∧ Q (.ref x) H2) E
theorem up_make {sp : Sp} {dvs : List V} {E : XK} (k : Up (fun H1 => tr σ H1 (mkK C sp dvs E Q)) H) : Up (fun H1 => tMake C sp dvs E tr σ H1 Q) H := k
theorem up_mkX {F : List V → Hp → VK → XK → Prop} {E : XK} {vs : List V} (h : ∀ x dx, H x = none → H dx = none → dx ≠ x → F (.ref x :: vs) (upd (upd H dx (.own x)) x (.ins C dx [])) (fun v H2 => v = .non ∧ Q (.ref x) H2) E) : Up (mkK C (KSx F) [] E Q vs) H := fun H1 e x dx hx hd ne => by
  show KSx F (.ref x :: (vs ++ [])) _ _ E
  rw [List.append_nil]
  exact ⟨_, same_upd (same_upd e), h x dx (e.free hx) (e.free hd) ne⟩
/-- behind an __init__: None, and the instance -/
theorem up_made {x : Addr} (k : Up (Q (.ref x)) H) : Up (fun H2 => V.non = V.non ∧ Q (.ref x) H2) H := fun H1 e => ⟨rfl, k H1 e⟩
end
section
variable {X : Cx} {k j : Nat} {C : Addr} {m : Str} {ps : List Str} {sp : Sp} {pos apos : Pos} {o e : Expr} {es : List Expr} {t : TA} {ta : TE}
/-- a method of the text -/
structure Mt (P : Program) (w : World) (K : PySem.W.Frag) (mg : Str → Option Value) (base : Heap) (CX : CXT) (k : Nat) (C : Addr) (m : Str) (ps : List Str) (sp : Sp) : Prop where
  ex : ∃ (f : Addr) (fd : FuncData), FnOk P w K mg base CX k f fd ps sp ∧ Meth K C m f ∧ Binds K fd ps []
theorem kp_meth (c : Mt X.prog X.w X.K X.mg X.base CX0 k C m ps sp) (cl : Cls X.K C) (hr : Room j X.A) (hk : k ≤ j) (he : PE X o ta) (ha : PA X (e :: es) t)
    (hst : starEach (e :: es) X.env = (false, eval e X.env) :: starEach es X.env := by rfl) (hpl : (backTo pos (starEach es X.env)).any (·.1) = false := by rfl) {pl : Sem Bool}
    (ht : eval (.Call (.Attribute o m apos) (e :: es) [] pos) X.env = (do
      let ov ← eval o X.env
      standAt apos.atName
      let (f, first) ← holding [ov] (getMethod ov m pl)
      callWith pos f first (backTo pos (starEach (e :: es) X.env)) (backToKw pos (keywordEach [] X.env))) := by rfl) : PE X (.Call (.Attribute o m apos) (e :: es) [] pos) (tMeth C m sp [] E0 ta t) := by
  obtain ⟨f, fd, F, hm, b⟩ := c.ex
  exact pe_meth he cl hm F (hr.mono hk) b .nil pass0 ha hst hpl ht
theorem kp_meth0 (c : Mt X.prog X.w X.K X.mg X.base CX0 k C m ps sp) (cl : Cls X.K C) (hr : Room j X.A) (hk : k ≤ j) (he : PE X o ta) {pl : Sem Bool}
    (ht : eval (.Call (.Attribute o m apos) [] [] pos) X.env = (do
      let ov ← eval o X.env
      standAt apos.atName
      let (f, first) ← holding [ov] (getMethod ov m pl)
      callWith pos f first (backTo pos (starEach [] X.env)) (backToKw pos (keywordEach [] X.env))) := by rfl) : PE X (.Call (.Attribute o m apos) [] [] pos) (tMeth C m sp [] E0 ta tNil) := by
  obtain ⟨f, fd, F, hm, b⟩ := c.ex
  exact pe_meth0 he cl hm F (hr.mono hk) b .nil pass0 ht
end
end Kp

namespace Kp
open PySem L2
section
variable {K : PySem.W.Frag} {H H' : Hp}
mutual
theorem dp_up (e : Same H H') : ∀ (d : PyData) (v : V), Dp K H v d → Dp K H' v d
  | .none, _, h => by cases h; exact .non
  | .bool b, _, h => by cases h; exact .bl b
  | .int i, _, h => by cases h; exact .int i
  | .str x, _, h => by cases h; exact .str x
  | .list ds, _, h => by
    cases h with
    | lst hs ha => exact .lst (sq_up e hs) (dpAll_up e ds _ ha)
  | .tuple ds, _, h => by
    cases h with
    | tup hs ha => exact .tup (st_up e hs) (dpAll_up e ds _ ha)
  | .dict _, _, h => by cases h
theorem dpAll_up (e : Same H H') : ∀ (ds : List PyData) (vs : List V), DpAll K H vs ds → DpAll K H' vs ds
  | [], _, h => by cases h; exact .nil
  | d :: ds, _, h => by
    cases h with
    | cons h1 h2 => exact .cons (dp_up e d _ h1) (dpAll_up e ds _ h2)
end
/-- None and whole numbers -/
def flat0 : V → Bool
  | .non => true
  | .int _ => true
  | _ => false
def fp : V → PyData
  | .int i => .int i
  | _ => .none
theorem dp_flat : ∀ {x : V}, flat0 x = true → Dp K H x (fp x)
  | .non, _ => .non
  | .int i, _ => .int i
theorem dpAll_flat : ∀ {xs : List V}, xs.all flat0 = true → DpAll K H xs (xs.map fp)
  | [], _ => .nil
  | x :: xs, h => by
    rw [List.all_cons, Bool.and_eq_true] at h
    exact .cons (dp_flat h.1) (dpAll_flat h.2)
theorem lay_flat : ∀ xs : List V, PyData.canLayAll0 (xs.map fp) = true
  | [] => by simp [PyData.canLayAll0]
  | x :: xs => by
    have h := lay_flat xs
    cases x <;> simp [fp, PyData.canLayAll0, PyData.canLay0, h]
theorem depth_flat : ∀ xs : List V, PyData.depthAll (xs.map fp) = 0
  | [] => by simp [PyData.depthAll]
  | x :: xs => by
    have h := depth_flat xs
    cases x <;> simp [fp, PyData.depthAll, PyData.depth, h]
theorem eqv_flat : ∀ {x y : V}, flat0 x = true → flat0 y = true → PyData.eqv (fp x) (fp y) = decide (x = y)
  | .non, .non, _, _ => by simp [fp, PyData.eqv]
  | .non, .int _, _, _ => by simp [fp, PyData.eqv]
  | .int _, .non, _, _ => by simp [fp, PyData.eqv]
  | .int i, .int j, _, _ => by
    show (i == j) = _
    by_cases h : i = j
    · subst h; simp
    · have : V.int i ≠ V.int j := fun q => h (V.int.inj q)
      rw [decide_eq_false this]
      exact beq_eq_false_iff_ne.mpr h
theorem eqvAll_flat : ∀ {xs ys : List V}, xs.all flat0 = true → ys.all flat0 = true → PyData.eqvAll (xs.map fp) (ys.map fp) = decide (xs = ys)
  | [], [], _, _ => by simp [PyData.eqvAll]
  | [], _ :: _, _, _ => by simp [PyData.eqvAll]
  | _ :: _, [], _, _ => by simp [PyData.eqvAll]
  | x :: xs, y :: ys, h, h' => by
    rw [List.all_cons, Bool.and_eq_true] at h h'
    show (PyData.eqv (fp x) (fp y) && PyData.eqvAll (xs.map fp) (ys.map fp)) = _
    rw [eqv_flat h.1 h'.1, eqvAll_flat h.2 h'.2]
    by_cases e : x = y
    · by_cases e2 : xs = ys
      · subst e e2; simp
      · have : ¬ x :: xs = y :: ys := fun q => e2 (List.cons.inj q).2
        rw [decide_eq_false e2, decide_eq_false this, Bool.and_false]
    · have : ¬ x :: xs = y :: ys := fun q => e (List.cons.inj q).1
      rw [decide_eq_false e, decide_eq_false this, Bool.false_and]
theorem shaped_list (xs : List V) : SeqAt.shaped (.list (xs.map fp)) = true := by
  unfold SeqAt.shaped
  simp [PyData.canLay0, PyData.depth, lay_flat, depth_flat]
theorem shaped_tuple (xs : List V) : SeqAt.shaped (.tuple (xs.map fp)) = true := by
  unfold SeqAt.shaped
  simp [PyData.canLay0, PyData.depth, lay_flat, depth_flat]
theorem shaped_fp (x : V) : SeqAt.shaped (fp x) = true := by
  unfold SeqAt.shaped
  cases x <;> simp [fp, PyData.canLay0, PyData.depth]
variable {Q : VK} {x y : V} {d d' : PyData} {xs ys : List V} {p q : Addr}
theorem up_eqD (hx : Dp K H x d) (hy : Dp K H y d') (sx : SeqAt.shaped d = true) (sy : SeqAt.shaped d' = true) (k : Up (Q (.bl (PyData.eqv d d'))) H) : Up (fun H1 => rEqD K x y H1 Q) H := fun H1 e => ⟨d, d', dp_up e _ _ hx, dp_up e _ _ hy, sx, sy, k H1 e⟩
theorem up_neD (hx : Dp K H x d) (hy : Dp K H y d') (sx : SeqAt.shaped d = true) (sy : SeqAt.shaped d' = true) (k : Up (Q (.bl (!PyData.eqv d d'))) H) : Up (fun H1 => rNeD K x y H1 Q) H := fun H1 e => ⟨d, d', dp_up e _ _ hx, dp_up e _ _ hy, sx, sy, k H1 e⟩
theorem shaped_lay {d : PyData} (h : SeqAt.shaped d = true) : d.canLay0 = true := SeqAt.canLay_of_shaped h
/-- equal data -/
theorem up_eqSame (hx : Dp K H x d) (hy : Dp K H y d) (s : SeqAt.shaped d = true) (k : Up (Q (.bl true)) H) : Up (fun H1 => rEqD K x y H1 Q) H := up_eqD hx hy s s (by rw [SeqAt.eqv_refl d (shaped_lay s)]; exact k)
theorem up_neSame (hx : Dp K H x d) (hy : Dp K H y d) (s : SeqAt.shaped d = true) (k : Up (Q (.bl false)) H) : Up (fun H1 => rNeD K x y H1 Q) H := up_neD hx hy s s (by rw [SeqAt.eqv_refl d (shaped_lay s)]; exact k)
theorem up_eqLL (hp : SqL K H p xs) (hq : SqL K H q ys) (fx : xs.all flat0 = true) (fy : ys.all flat0 = true) (k : Up (Q (.bl (decide (xs = ys)))) H) : Up (fun H1 => rEqD K (.ref p) (.ref q) H1 Q) H :=
  up_eqD (.lst hp (dpAll_flat fx)) (.lst hq (dpAll_flat fy)) (shaped_list _) (shaped_list _) (by
    show Up (Q (.bl (PyData.eqvAll (xs.map fp) (ys.map fp)))) H
    rw [eqvAll_flat fx fy]; exact k)
theorem up_neLL (hp : SqL K H p xs) (hq : SqL K H q ys) (fx : xs.all flat0 = true) (fy : ys.all flat0 = true) (k : Up (Q (.bl (!decide (xs = ys)))) H) : Up (fun H1 => rNeD K (.ref p) (.ref q) H1 Q) H :=
  up_neD (.lst hp (dpAll_flat fx)) (.lst hq (dpAll_flat fy)) (shaped_list _) (shaped_list _) (by
    show Up (Q (.bl (!PyData.eqvAll (xs.map fp) (ys.map fp)))) H
    rw [eqvAll_flat fx fy]; exact k)
theorem up_eqTT (hp : SqT K H p xs) (hq : SqT K H q ys) (fx : xs.all flat0 = true) (fy : ys.all flat0 = true) (k : Up (Q (.bl (decide (xs = ys)))) H) : Up (fun H1 => rEqD K (.ref p) (.ref q) H1 Q) H :=
  up_eqD (.tup hp (dpAll_flat fx)) (.tup hq (dpAll_flat fy)) (shaped_tuple _) (shaped_tuple _) (by
    show Up (Q (.bl (PyData.eqvAll (xs.map fp) (ys.map fp)))) H
    rw [eqvAll_flat fx fy]; exact k)
theorem up_neTT (hp : SqT K H p xs) (hq : SqT K H q ys) (fx : xs.all flat0 = true) (fy : ys.all flat0 = true) (k : Up (Q (.bl (!decide (xs = ys)))) H) : Up (fun H1 => rNeD K (.ref p) (.ref q) H1 Q) H :=
  up_neD (.tup hp (dpAll_flat fx)) (.tup hq (dpAll_flat fy)) (shaped_tuple _) (shaped_tuple _) (by
    show Up (Q (.bl (!PyData.eqvAll (xs.map fp) (ys.map fp)))) H
    rw [eqvAll_flat fx fy]; exact k)
theorem flat0_rv (row : List (Option Nat)) (rv : Option Nat → V) (h : ∀ o, flat0 (rv o) = true) : (row.map rv).all flat0 = true := by
  rw [List.all_map, List.all_eq_true]
  exact fun o _ => h o
theorem flat0_ints (ns : List Int) : (ns.map V.int).all flat0 = true := by
  rw [List.all_map, List.all_eq_true]
  exact fun o _ => rfl
end
section
variable {X : Cx} {st : Stmt} {rest : List Stmt} {t u : TS}
/-- a statement, then the rest, with a word between them -/
def tCut (t u : TS) : TS := fun D σ H => ∃ Mid : St → Hp → Prop, t { D with nx := Mid } σ H ∧ ∀ σ' H', Mid σ' H' → u D σ' H'
theorem kp_cut (h1 : PS X st t) (h2 : PSs X rest u) : PSs X (st :: rest) (tCut t u) := by
  refine ⟨fun pins s σ H D I h => ?_⟩
  obtain ⟨Mid, hm, hu⟩ := h
  refine wpAny_execs_cons (thn (h1.run pins s σ H { D with nx := Mid } I hm) fun f s1 q => ?_)
  cases f with
  | next =>
    obtain ⟨σ', H', I', q⟩ := q
    exact h2.run pins s1 σ' H' D I' (hu σ' H' q)
  | ret v => exact q
  | brk => exact q
  | cont => exact q
theorem up_cut {n bk ct : St → Hp → Prop} {r : VK} {σ : St} {H : Hp} (M : St → Hp → Prop) (h : Up (t (Ends.mk (Lo M) r bk ct) σ) H) (k : ∀ σ' H', M σ' H' → Up (u (Ends.mk n r bk ct) σ') H') : Up (tCut t u (Ends.mk n r bk ct) σ) H :=
  fun H1 e => ⟨Lo M, h H1 e, fun σ' H' ⟨H0, e0, m⟩ => k σ' H0 m H' e0⟩
end
/-- the law's end: whatever the heap, True -/
def fLaw (K : PySem.W.Frag) : List V → Hp → VK → Prop := fun vs H Q => ∃ (a : Addr) (ns : List Int), vs = [.ref a] ∧ SqL K H a (ns.map V.int) ∧ ns.length ≤ 63 ∧ Up (Q (.bl true)) H
end Kp

namespace Kp
open PySem L2
def rFindZ : V → List V → Hp → VK → Prop := fun x xs H Q => ∃ a b, x = .str a ∧ xs = [.str b] ∧ Q (.int (PySem.Txt.find a b)) H
def rJoinZ (K : PySem.W.Frag) : V → List V → Hp → VK → Prop := fun x xs H Q => ∃ a p, ∃ ys : List Str, x = .str a ∧ xs = [.ref p] ∧ (SqL K H p (ys.map V.str) ∨ SqT K H p (ys.map V.str)) ∧ (ys.map (·.length)).sum + ys.length * a.length ≤ 16777216 ∧ Q (.str (PySem.Txt.join a ys)) H
def rIndexZ : V → List V → Hp → VK → Prop := fun x xs H Q => ∃ a b i rest, x = .str a ∧ xs = [.str b] ∧ PySem.Builtin.Str.occurrences a b 0 a.length 1 = i :: rest ∧ Q (.int (i : Nat)) H
section
variable {X : Cx}
theorem kt_find : MtR X "str.find" rFindZ := mt_find
theorem kt_join : MtR X "str.join" (rJoinZ X.K) := mt_join
theorem kt_sindex : MtR X "str.index" rIndexZ := mt_sindex
theorem kp_glob {x : Str} {v : V} {pos : Pos} (hg : Gl X x) (h : ∃ u, X.mg x = some u ∧ RelV v u) (hd : (x == ("__debug__" : Str)) = false := by decide) : PE X (.Name x pos) (tC v) := by
  obtain ⟨u, hm, r⟩ := h
  exact pe_glob hg hm r hd
end
section
variable {K : PySem.W.Frag} {H : Hp} {σ : St} {Q : VK} {a b : Str} {n bk ct : St → Hp → Prop} {r : VK} {ts : TS} {t : TT} {te : TE} {xs : List V}
theorem up_find (k : Up (Q (.int (PySem.Txt.find a b))) H) : Up (bmB rFindZ (.str a) Q [.str b]) H := fun H1 e => ⟨a, b, rfl, rfl, k H1 e⟩
theorem up_join {p : Addr} {ys : List Str} (h : SqL K H p (ys.map V.str)) (hz : (ys.map (·.length)).sum + ys.length * a.length ≤ 16777216) (k : Up (Q (.str (PySem.Txt.join a ys))) H) : Up (bmB (rJoinZ K) (.str a) Q [.ref p]) H :=
  fun H1 e => ⟨a, p, ys, rfl, rfl, .inl (sq_up e h), hz, k H1 e⟩
theorem up_sindex {i : Nat} {rest : List Nat} (h : PySem.Builtin.Str.occurrences a b 0 a.length 1 = i :: rest) (k : Up (Q (.int (i : Nat))) H) : Up (bmB rIndexZ (.str a) Q [.str b]) H := fun H1 e => ⟨a, b, i, rest, rfl, rfl, h, k H1 e⟩
theorem up_addS (h : a.length + b.length ≤ 100000) (k : Up (Q (.str (a ++ b))) H) : Up (fun H1 => rAddS (.str a) (.str b) H1 Q) H := fun H1 e => ⟨a, b, rfl, rfl, sz h, k H1 e⟩
/-- for over a text's signs -/
theorem up_forS {z : Str} {j : Nat} (I : Nat → St → Hp → Prop) (h0 : I 0 σ H)
    (hs : ∀ i c σ' H', z.cps[i]? = some c → I i σ' H' → Up (ts (turnE I i n r) (σ'.set j (some (.str ⟨#[c]⟩)))) H') (hd : ∀ σ' H', I z.cps.size σ' H' → Up (n σ') H') : Up (itK (gName j) ts (Ends.mk n r bk ct) σ (Its z)) H := fun H1 e => by
  refine ⟨fun i m σ' H' => m = z.cps.size - i ∧ i ≤ z.cps.size ∧ Lo (I i) σ' H', ⟨z.cps.size, by simp, Nat.zero_le _, H, e, h0⟩, ?_⟩
  rintro i m σ' H' ⟨rfl, hi, H0, e0, p⟩
  by_cases hlt : i < z.cps.size
  · refine .inr ⟨hlt, Lo (I (i + 1)), fun σ2 H2 q => ⟨z.cps.size - (i + 1), by omega, rfl, hlt, q⟩, fun x H2 y => ?_⟩
    obtain ⟨rfl, c, hc, rfl⟩ := y
    exact hs i c σ' H0 hc p _ e0
  · have q : i = z.cps.size := by omega
    subst q
    exact .inl ⟨Nat.le_refl _, hd σ' H0 p H' e0⟩
theorem up_lcS {z : Str} {j : Nat} {vs : List Nat} (hw : ∀ x, wipe ((wipe σ vs).set j (some x)) vs = wipe σ vs) (I : Addr → Nat → Hp → Prop) (h0 : ∀ D, H D = none → I D 0 (upd H D (.lst [])))
    (hs : ∀ D i c H', H D = none → z.cps[i]? = some c → I D i H' → Up (fun H1 => t ((wipe σ vs).set j (some (.str ⟨#[c]⟩))) H1 (keepD te ((wipe σ vs).set j (some (.str ⟨#[c]⟩))) D (Lh (I D (i + 1))))) H') (hd : ∀ D H', H D = none → I D z.cps.size H' → Up (Q (.ref D)) H') :
    Up (lcK (gName j) t te vs σ Q (Its z)) H := fun H1 e D hD => by
  refine ⟨fun i m H' => m = z.cps.size - i ∧ i ≤ z.cps.size ∧ Lh (I D i) H', ⟨z.cps.size, by simp, Nat.zero_le _, _, same_upd e, h0 D (e.free hD)⟩, ?_⟩
  rintro i m H' ⟨rfl, hi, H0, e0, p⟩
  by_cases hlt : i < z.cps.size
  · refine .inr ⟨hlt, Lh (I D (i + 1)), fun H2 q => ⟨z.cps.size - (i + 1), by omega, rfl, hlt, q⟩, fun x H2 y => ?_⟩
    obtain ⟨rfl, c, hc, rfl⟩ := y
    exact ⟨hw _, hs D i c H0 (e.free hD) hc p _ e0⟩
  · have q : i = z.cps.size := by omega
    subst q
    exact .inl ⟨Nat.le_refl _, hd D H0 (e.free hD) p H' e0⟩
end
/-! ### script[1:n] -/
theorem cut_map (ns : List Int) (lo hi : Option Int) : cutV (ns.map V.int) lo hi = ((ns.drop (HT.sIx ns.length 0 lo)).take (HT.sIx ns.length ns.length hi - HT.sIx ns.length 0 lo)).map V.int := by
  unfold cutV
  rw [List.length_map, ← List.map_drop, ← List.map_take]
theorem cut_some (ns : List Int) (lo hi : Option Int) : ∃ ms : List Int, cutV (ns.map V.int) lo hi = ms.map V.int ∧ ms.length ≤ ns.length := ⟨_, cut_map ns lo hi, by
  rw [List.length_take, List.length_drop]
  omega⟩
theorem cut_ms (ns : List Int) (n : Nat) : ∃ ms : List Int, cutV (ns.map V.int) (some 1) (some (n : Int)) = ms.map V.int ∧ ms.length ≤ n := ⟨_, cut_map ns _ _, by
  rw [List.length_take]
  have h1 : HT.sIx ns.length ns.length (some (n : Int)) = min n ns.length := HT.sIx_nat ns.length ns.length n
  rw [h1]
  omega⟩
end Kp

namespace Kp
open PySem L2
/-- an own class of error over ValueError -/
structure Er (K : PySem.W.Frag) (mg : Str → Option Value) (x : Str) (C : Addr) : Prop where
  g : mg x = some (.ref C)
  xE : PySem.W.excIn K C [.type "ValueError", .type "Exception", .type "BaseException", .type "object"] "ValueError.__new__" = true
  k : PySem.W.keepIn K (.ref C) = true
  b : PySem.W.subIn K (.ref C) (.type "BaseException") = some true
  t : PySem.W.typeIn K (.ref C) = some (.type "type")
def tRz (W : WX) (cls : Value) : TS := fun _ σ H => W cls none σ H
/-- what a def wishes of its errors -/
def wX (E : XK) : WX := fun cls d _ H => E cls d H
section
variable {X : Cx} {W : WX} {x m : Str} {C : Addr} {j : Nat} {p p2 pos pos' : Pos}
theorem kp_raise (hc : X.calm = true) (tk : Takes X W) (R : Er X.K X.mg x C) (hg : Gl X x) (hdb : (x == ("__debug__" : Str)) = false := by decide) : PS X (.Raise (some (.Call (.Name x p) [.Constant (.str m) j p2] [] pos)) none pos') (tRz W (.ref C)) :=
  ps_raise hc tk (pmk_own PySem.F.excBase_ValueError R.xE R.g R.k (raises_own R.b R.t) hg hdb)
theorem kp_takes (hs : X.stack = X.env :: X.outer) (hf : X.env.frame = some X.env.locals) (hex : X.ex = []) {E₁ : Value → Shared → Prop} {E : XK}
    (hx : X.xe = fun e s' => wpAny (model X.prog X.w) X.A (leaving X.env e) (fun _ s'' => L2.CX X.prog X.w X.outer X.H_0 X.s_0 E e s'') E₁ s') : Takes X (wX E) := takes_of hs hf hex hx
variable {k : Nat} {ps : List Str} {sp : Sp} {e : Expr} {es : List Expr} {t : TA} {i : Nat}
/-- a call of a def that may raise, where what is raised is wished for -/
theorem kp_callX (c : Fn X.prog X.w X.K X.mg X.base (L2.CX X.prog X.w) k x ps sp) (tk : Takes X W) (hr : Room i X.A) (hk : k ≤ i) (hg : Gl X x) (ha : PA X (e :: es) t) (hdb : (x == ("__debug__" : Str)) = false := by decide) (he : starEach (e :: es) X.env = (false, eval e X.env) :: starEach es X.env := by rfl)
    (hpl : (backTo pos (starEach es X.env)).any (·.1) = false := by rfl) : PE X (.Call (.Name x p) (e :: es) [] pos) (tCallS sp (WE W) t) := by
  obtain ⟨f, fd, F, hm, kp, b⟩ := c.ex
  exact pe_callS F (hr.mono hk) hg hm kp b (fun σ => passAt tk σ) ha hdb he hpl
/-- .. where it raises nothing -/
theorem kp_callN (c : Fn X.prog X.w X.K X.mg X.base (L2.CX X.prog X.w) k x ps sp) (hr : Room i X.A) (hk : k ≤ i) (hg : Gl X x) (ha : PA X (e :: es) t) (hdb : (x == ("__debug__" : Str)) = false := by decide) (he : starEach (e :: es) X.env = (false, eval e X.env) :: starEach es X.env := by rfl)
    (hpl : (backTo pos (starEach es X.env)).any (·.1) = false := by rfl) : PE X (.Call (.Name x p) (e :: es) [] pos) (tCall sp [] E0 t) := by
  obtain ⟨f, fd, F, hm, kp, b⟩ := c.ex
  exact pe_call F (hr.mono hk) hg hm kp b .nil passL ha hdb he hpl
/-- a class with an __init__ of the text -/
structure Ini (P : Program) (w : World) (K : PySem.W.Frag) (mg : Str → Option Value) (base : Heap) (CX : CXT) (k : Nat) (C : Addr) (x : Str) (ps : List Str) (sp : Sp) : Prop where
  ex : ∃ (f : Addr) (fd : FuncData), FnOk P w K mg base CX k f fd ps sp ∧ Mk K C f ∧ mg x = some (.ref C) ∧ Binds K fd ps []
theorem kp_make (c : Ini X.prog X.w X.K X.mg X.base (L2.CX X.prog X.w) k C x ps sp) (hr : Room i X.A) (hk : k + 1 ≤ i) (hg : Gl X x) (ha : PA X (e :: es) t) (hdb : (x == ("__debug__" : Str)) = false := by decide) (he : starEach (e :: es) X.env = (false, eval e X.env) :: starEach es X.env := by rfl)
    (hpl : (backTo pos (starEach es X.env)).any (·.1) = false := by rfl) : PE X (.Call (.Name x p) (e :: es) [] pos) (tMake C sp [] E0 t) := by
  obtain ⟨f, fd, F, M, hm, b⟩ := c.ex
  exact pe_make M F (hr.mono hk) hg hm b .nil passL ha hdb he hpl
end
section
variable {P : Program} {w : World} {K : PySem.W.Frag} {mg : Str → Option Value} {base : Heap} {CX : CXT} {k : Nat} {x qual : Str} {st : Stmt} {ps : List Str} {sp : Sp} {f C : Addr} {fd : FuncData}
theorem Ini.mk' (F : Fun K x qual st f fd) (G : FnOk P w K mg base CX k f fd ps sp) (M : Mk K C f) {c : Str} (hm : mg c = some (.ref C))
    (h : ∀ (kV doc pm : Value) (an : Option Addr) (cdv ct : Value) (us : List Value), us.length = ps.length → bindArgs (PySem.W.fnOf x qual (defArgs st) (defBody st) (defScope st) .none kV doc pm an cdv ct) ⟨us, []⟩ = pure (ps.zip us)) : Ini P w K mg base CX k C c ps sp :=
  ⟨f, fd, G, M, hm, F.binds h⟩
theorem Mt.mk' (F : Fun K x qual st f fd) (G : FnOk P w K mg base CX k f fd ps sp) {m : Str} (M : Meth K C m f)
    (h : ∀ (kV doc pm : Value) (an : Option Addr) (cdv ct : Value) (us : List Value), us.length = ps.length → bindArgs (PySem.W.fnOf x qual (defArgs st) (defBody st) (defScope st) .none kV doc pm an cdv ct) ⟨us, []⟩ = pure (ps.zip us)) : Mt P w K mg base CX k C m ps sp :=
  ⟨f, fd, G, M, F.binds h⟩
end
section
variable {H : Hp} {σ : St} {Q : VK} {E : XK} {cls : Value} {D : Ends} {tr : TA} {vs : List V}
theorem up_raise (k : Up (E cls none) H) : Up (tRz (wX E) cls D σ) H := k
def csK (sp : Sp) (EK : XK) (Q : VK) : List V → Hp → Prop := fun vs H => sp vs H Q EK
theorem up_callS {sp : Sp} {ES : St → XK} (k : Up (fun H1 => tr σ H1 (csK sp (ES σ) Q)) H) : Up (fun H1 => tCallS sp ES tr σ H1 Q) H := k
theorem up_csX {F : List V → Hp → VK → XK → Prop} (h : F vs H Q E) : Up (csK (KSx F) E Q vs) H := fun H1 e => ⟨H, e, h⟩
/-- chains a < b < c -/
def chB (r r' : R2) (x : V) (tc : TE) (σ : St) (Q : VK) : VK := fun y H2 => r x y H2 fun z H3 => ∃ k, z = .bl k ∧ (if k = true then tc σ H3 fun w' H4 => r' y w' H4 Q else Q (.bl false) H3)
def chA (r r' : R2) (tb tc : TE) (σ : St) (Q : VK) : VK := fun x H1 => tb σ H1 (chB r r' x tc σ Q)
theorem up_chain {r r' : R2} {ta tb tc : TE} (k : Up (fun H1 => ta σ H1 (chA r r' tb tc σ Q)) H) : Up (fun H1 => tChain r r' ta tb tc σ H1 Q) H := k
theorem up_chA {r r' : R2} {tb tc : TE} {x : V} (k : Up (fun H1 => tb σ H1 (chB r r' x tc σ Q)) H) : Up (chA r r' tb tc σ Q x) H := k
/-- a <= b <= c of whole numbers, c written -/
theorem up_chI {g g' : Int → Int → Bool} {i j n : Int} (k : Up (Q (.bl (g i j && g' j n))) H) : Up (chB (rI0 fun i j => .bl (g i j)) (rI0 fun i j => .bl (g' i j)) (.int i) (tC (.int n)) σ Q (.int j)) H := fun H1 e => by
  refine ⟨i, j, rfl, rfl, g i j, rfl, ?_⟩
  have h := k H1 e
  cases q : g i j with
  | true =>
    rw [q, Bool.true_and] at h
    show (if true = true then _ else _)
    rw [if_pos rfl]
    exact ⟨j, n, rfl, rfl, h⟩
  | false =>
    rw [q, Bool.false_and] at h
    show (if false = true then _ else _)
    rw [if_neg Bool.false_ne_true]
    exact h
end
/-! ### a Wish -/
abbrev iv : Nat → V := fun n => .int n
def flW (a : Int) (l : Addr) : List (Str × V) := putF "told" (.ref l) (putF "apart" (.int a) [])
theorem w_ne : ¬ (("apart" : Str) = "told") := by decide +kernel
theorem w_ne' : ¬ (("told" : Str) = "apart") := by decide +kernel
theorem flW_apart (a : Int) (l : Addr) : (flW a l).lookup ("apart" : Str) = some (.int a) := by
  unfold flW
  rw [lookup_putF, if_neg w_ne, lookup_putF, if_pos rfl]
theorem flW_told (a : Int) (l : Addr) : (flW a l).lookup ("told" : Str) = some (.ref l) := by
  unfold flW
  rw [lookup_putF, if_pos rfl]
theorem flW_no (a : Int) (l : Addr) {m : Str} (h1 : ¬ m = "told") (h2 : ¬ m = "apart") : (flW a l).lookup m = none := by
  unfold flW
  rw [lookup_putF, if_neg h1, lookup_putF, if_neg h2]
  all_goals rfl
/-- what the walk asks of the class Wish -/
structure Wf (K : PySem.W.Frag) (mg : Str → Option Value) (C : Addr) : Prop where
  cl_Wish : Cls K C
  nA : NoAttr K C "apart"
  nT : NoAttr K C "told"
  g_Wish : mg "Wish" = some (.ref C)
/-- a Wish stands at p: its distance, its counts -/
def WishAt (C : Addr) (H : Hp) (p : Addr) (a : Int) (xs : List Int) : Prop := ∃ dx l, H p = some (.ins C dx (flW a l)) ∧ H l = some (.lst (xs.map V.int))
theorem WishAt.up {C : Addr} {H H' : Hp} {p : Addr} {a : Int} {xs : List Int} (h : WishAt C H p a xs) (e : Same H H') : WishAt C H' p a xs := by
  obtain ⟨dx, l, h1, h2⟩ := h
  exact ⟨dx, l, e _ _ h1, e _ _ h2⟩
/-- a wish that is one -/
def Fine (a : Int) (xs : List Int) : Prop := 1 ≤ xs.length ∧ xs.length ≤ 6 ∧ (∀ x ∈ xs, 0 ≤ x ∧ x ≤ 40) ∧ 0 ≤ a ∧ a ≤ 8
end Kp

namespace Kp
open PySem L2
theorem count_eqU {x : V} : ∀ {xs : List V} {us : List Value}, Vals xs us → xs.all flatV = true → us.countP (eqU x) = xs.countP fun y => eqV y x
  | _, _, .nil, _ => rfl
  | y :: xs, u :: us, .cons r t, f => by
    rw [List.all_cons, Bool.and_eq_true] at f
    rw [List.countP_cons, List.countP_cons, eqU_of r f.1, count_eqU t f.2]
def rCntV (K : PySem.W.Frag) : V → List V → Hp → VK → Prop := fun x vs H Q => ∃ (p : Addr) (xs : List V) (y : V), x = .ref p ∧ vs = [y] ∧ SqL K H p xs ∧ flatV y = true ∧ xs.all flatV = true ∧ Q (.int (xs.countP fun z => eqV z y : Nat)) H
theorem kt_count {K : PySem.W.Frag} {X : Cx} (hk : X.K = K := by rfl) : MtR X "list.count" (rCntV K) := by
  subst hk
  intro pins s σ H x xs v us Q I rx rxs h
  obtain ⟨p, ys, y, rfl, rfl, hs, fy, fs, q⟩ := h
  cases rx
  obtain ⟨u, rfl, ru⟩ := rxs.one
  obtain ⟨its, rv, ⟨⟨cls, dd, data, sl⟩, n, ho, hc, hdn, hd⟩, hlen⟩ := I.list hs
  simp only at hc hd
  subst hc hd
  refine call_meets PySem.F.slot_list_count ⟨_, ho, rfl⟩ PySem.F.entry_list_count (PySem.F.args_list_count_2 _ _)
    (SeqAt.list_countAt p its.toArray n dd sl u (eqU y)) ⟨ho, fun w hw => mem_eqAt ru fy rv fs w (by simpa using hw), ?_⟩
  have ec : its.toArray.toList.countP (eqU y) = ys.countP fun z => eqV z y := count_eqU rv fs
  refine ⟨.int (ys.countP fun z => eqV z y : Nat), H, I.tok _, ⟨s.toks, ?_⟩, q⟩
  show Value.int ((its.toArray.toList.countP (eqU y) : Nat) : Int) s.toks = Value.int ((ys.countP fun z => eqV z y : Nat) : Int) s.toks
  rw [ec]
section
variable {K : PySem.W.Frag} {H : Hp} {Q : VK} {xs : List V} {y : V} {l : Addr}
theorem up_count (h : SqL K H l xs) (fy : flatV y = true) (fs : xs.all flatV = true) (k : Up (Q (.int (xs.countP fun z => eqV z y : Nat))) H) : Up (bmB (rCntV K) (.ref l) Q [y]) H := fun H1 e => ⟨l, xs, y, rfl, rfl, sq_up e h, fy, fs, k H1 e⟩
theorem up_popAt {i : Nat} (h : H l = some (.lst xs)) (hi : i < xs.length) (hz : xs.length ≤ 100000) (k : Up (Q xs[i]) (upd H l (.lst (xs.eraseIdx i)))) : Up (bmB rPopAt (.ref l) Q [.int (i : Int)]) H := fun H1 e =>
  ⟨l, xs, i, i, xs[i], rfl, rfl, e _ _ h, by omega, by omega, (ixN_seq (n := xs.length) (i := (i : Int)) (j := i) (by unfold ixN; rw [if_pos (by omega), if_pos (by omega)]; simp)).1, List.getElem?_eq_getElem hi, k _ (same_upd e)⟩
def rInsZ : V → List V → Hp → VK → Prop := fun x vs H Q => ∃ (l : Addr) (xs : List V) (i : Int) (y : V), x = .ref l ∧ vs = [.int i, y] ∧ H l = some (.lst xs) ∧ xs.length < sizeLine ∧ 0 ≤ i ∧ i < 2 ^ 63 ∧ Q .non (upd H l (.lst (xs.take i.toNat ++ [y] ++ xs.drop i.toNat)))
theorem kt_insert {X : Cx} : MtR X "list.insert" rInsZ := mt_insert
theorem up_insert {i : Nat} (h : H l = some (.lst xs)) (hz : xs.length < 100000) (hi : i ≤ 100000) (k : Up (Q .non) (upd H l (.lst (xs.take i ++ [y] ++ xs.drop i)))) : Up (bmB rInsZ (.ref l) Q [.int (i : Int), y]) H := fun H1 e =>
  ⟨l, xs, i, y, rfl, rfl, e _ _ h, szl hz, by omega, by omega, k _ (same_upd e)⟩
theorem up_index {j : Nat} {z : V} (h : SqL K H l xs) (fy : flatV y = true) (fs : xs.all flatV = true) (hz : xs[j]? = some z) (he : eqV z y = true) (hn : ∀ (m : Nat) (z' : V), m < j → xs[m]? = some z' → eqV z' y = false) (k : Up (Q (.int (j : Nat))) H) : Up (bmB (rIndex K) (.ref l) Q [y]) H :=
  fun H1 e => ⟨l, xs, y, j, z, rfl, rfl, sq_up e h, fy, fs, hz, he, hn, k H1 e⟩
end
theorem kp_bm {K : PySem.W.Frag} {X : Cx} {o e : Expr} {es : List Expr} {to : TE} {t : TA} {r : V → List V → Hp → VK → Prop} {T name id : String} {apos cpos : Pos} (pa : PlainAttrs T) (slot : Slot T name id) (hty : typeOf (.builtin id) = pure (.type "method_descriptor")) (hm : MtR X id r) (ho : PE X o to) (ha : PA X (e :: es) t)
    (hk : X.K = K := by rfl) (hbase : attributeBase o name X.env (eval o X.env) = eval o X.env := by rfl)
    (hfew : ((backTo cpos (starEach (e :: es) X.env)).all (fun x => !x.1) && (backToKw cpos (keywordEach [] X.env)).all (fun x => x.1.isSome)
      && decide ((e :: es).length + ([] : List Keyword).length + (if ([] : List Keyword).isEmpty then 0 else 1) < 30)) = true := by rfl)
    (hline : (apos.endLine == cpos.line) = true := by rfl) (hs : starEach (e :: es) X.env = (false, eval e X.env) :: starEach es X.env := by rfl) (hplain : (backTo cpos (starEach es X.env)).any (·.1) = false := by rfl) :
    PE X (.Call (.Attribute o name apos) (e :: es) [] cpos) (tBM K T r to t) := by
  subst hk
  exact pe_bm pa slot hty hm ho ha hbase hfew hline hs hplain
theorem ko_in {K : PySem.W.Frag} {X : Cx} (hk : X.K = K := by rfl) : OpR X (compareOp .In) (rIn K false) := by subst hk; exact op_in_seq
theorem ko_notIn {K : PySem.W.Frag} {X : Cx} (hk : X.K = K := by rfl) : OpR X (compareOp .NotIn) (rIn K true) := by subst hk; exact op_notIn_seq
theorem ko_ixL {K : PySem.W.Frag} {X : Cx} (hk : X.K = K := by rfl) : IxR X (rIxL K) := by subst hk; exact ix_list
theorem ko_ixT {K : PySem.W.Frag} {X : Cx} (hk : X.K = K := by rfl) : IxR X (rIxT K) := by subst hk; exact ix_tup
theorem ko_len {K : PySem.W.Frag} {X : Cx} (hk : X.K = K := by rfl) : CallR X (.builtin "len") (rLen K) := by subst hk; exact kc_len
theorem up_anyT {u : TT} {σ : St} {QB : Bool → Hp → Prop} {H : Hp} (P : Bool → Prop) (he : ∀ QB : Bool → Hp → Prop, (∀ b, P b → Up (QB b) H) → Up (fun H1 => u σ H1 QB) H) (k : ∀ b, P b → Up (QB b) H) : Up (fun H1 => u σ H1 QB) H := he QB k
theorem ko_fld {K : PySem.W.Frag} {X : Cx} {e : Expr} {ta : TE} {f : Str} {pos : Pos} (he : PE X e ta) (hb : attributeBase e f X.env (eval e X.env) = eval e X.env) (hk : X.K = K := by rfl) : PE X (.Attribute e f pos) (tFld K ta f) := by subst hk; exact pe_fld he hb
end Kp

namespace Kp
open PySem L2
def cell (ns : List Int) (k : Int) : Int := ns.getD k.toNat 0
/-! ### rows -/
def rv : Option Nat → V
  | none => .non
  | some k => .int k
theorem rv_at {row : List (Option Nat)} {i : Nat} {z : Int} (e : z = i) (h : i < row.length) : atI (row.map rv) z = some (rv row[i]) := at_of e (by rw [List.getElem?_map, List.getElem?_eq_getElem h]; rfl)
/-- too near -/
def Pc (row : List (Option Nat)) (apart : Int) (a b : Nat) : Prop := a < b ∧ ∃ k, row[a]? = some (some k) ∧ row[b]? = some (some k) ∧ (b : Int) - a - 1 < apart
def First (row : List (Option Nat)) (apart : Int) : Option (Nat × Nat) → Prop
  | none => ∀ a b, ¬ Pc row apart a b
  | some (a, b) => Pc row apart a b ∧ ∀ a' b', Pc row apart a' b' → b < b' ∨ (b = b' ∧ a' ≤ a)
theorem First.one {row : List (Option Nat)} {apart : Int} : ∀ {r r' : Option (Nat × Nat)}, First row apart r → First row apart r' → r = r'
  | none, none, _, _ => rfl
  | none, some (a, b), h, h' => absurd h'.1 (h a b)
  | some (a, b), none, h, h' => absurd h.1 (h' a b)
  | some (a, b), some (c, d), h, h' => by
    have h1 := h.2 _ _ h'.1
    have h2 := h'.2 _ _ h.1
    have e1 : b = d := by omega
    have e2 : a = c := by omega
    rw [e1, e2]
def clRes (H : Hp) (Q : VK) : Option (Nat × Nat) → Prop
  | none => Up (Q .non) H
  | some (a, b) => ∀ p, H p = none → Up (Q (.ref p)) (upd H p (.tup [.int a, .int b]))

end Kp
namespace Kp
open PySem L2
/-! ### how often each kind stands in a row -/
def cntL (n : Nat) (row : List (Option Nat)) : List Int := (List.range n).map fun k => ((row.count (some k) : Nat) : Int)
theorem cntL_len (n : Nat) (row : List (Option Nat)) : (cntL n row).length = n := by simp [cntL]
theorem cntL_nil (n : Nat) : (List.replicate ((n : Nat) : Int).toNat [V.int 0]).flatten = (cntL n ([] : List (Option Nat))).map V.int := by
  have e : ((n : Nat) : Int).toNat = n := by simp
  rw [e]
  unfold cntL
  rw [List.map_map]
  have h : ∀ m : Nat, (List.replicate m [V.int 0]).flatten = List.replicate m (V.int 0) := fun m => by
    induction m with
    | zero => rfl
    | succ m ih => rw [List.replicate_succ, List.flatten_cons, ih]; rfl
  rw [h]
  refine List.ext_getElem (by simp) fun i h1 h2 => ?_
  simp
theorem cntL_at {n k : Nat} {row : List (Option Nat)} (h : k < n) : ((cntL n row).map V.int)[k]? = some (.int (row.count (some k) : Nat)) := by
  unfold cntL
  rw [List.map_map, List.getElem?_map, List.getElem?_range h]
  rfl
theorem cntL_none (n : Nat) (row : List (Option Nat)) : cntL n (row ++ [none]) = cntL n row := by
  unfold cntL
  refine List.map_congr_left fun k _ => ?_
  simp [List.count_append]
theorem cntL_some {n m : Nat} {row : List (Option Nat)} (h : m < n) : (cntL n row).set m ((row.count (some m) : Nat) + 1 : Int) = cntL n (row ++ [some m]) := by
  refine List.ext_getElem (by simp [cntL]) fun i h1 h2 => ?_
  have hi : i < n := by simpa [cntL] using h2
  rw [List.getElem_set]
  by_cases e : m = i
  · subst e
    rw [if_pos rfl]
    simp [cntL, List.count_append]
  · rw [if_neg e]
    have e2 : ¬ (some m : Option Nat) = some i := fun z => e (Option.some.inj z)
    simp [cntL, List.count_append, List.count_singleton, e2, e]
theorem map_int_inj : ∀ {xs ys : List Int}, xs.map V.int = ys.map V.int → xs = ys
  | [], [], _ => rfl
  | [], _ :: _, h => by cases h
  | _ :: _, [], h => by cases h
  | x :: xs, y :: ys, h => by
    rw [List.map_cons, List.map_cons] at h
    obtain ⟨h1, h2⟩ := List.cons.inj h
    rw [V.int.inj h1, map_int_inj h2]
/-- a row keeps a wish -/
def Keeps (xs : List Int) (a : Int) (row : List (Option Nat)) : Prop := (∀ k, some k ∈ row → k < xs.length) ∧ cntL xs.length row = xs ∧ ∀ i j, ¬ Pc row a i j
theorem cnt_rv (k : Nat) : ∀ row : List (Option Nat), (row.map rv).countP (fun z => eqV z (.int k)) = row.count (some k)
  | [] => rfl
  | o :: r => by
    rw [List.map_cons, List.countP_cons, cnt_rv k r, List.count_cons]
    congr 1
    cases o with
    | none => rfl
    | some m =>
      show (if ((m : Int) == (k : Int)) = true then 1 else 0) = if (some m == some k) = true then 1 else 0
      by_cases e : m = k
      · subst e; simp
      · have : ¬ (m : Int) = k := by omega
        simp [e, this]
theorem rv_flatV (row : List (Option Nat)) : (row.map rv).all flatV = true := by
  rw [List.all_map, List.all_eq_true]
  exact fun o _ => by cases o <;> rfl
theorem int_flatV (ns : List Int) : (ns.map V.int).all flatV = true := by
  rw [List.all_map, List.all_eq_true]
  exact fun o _ => rfl
def countsOf (ns : List Int) (first kinds most : Int) : List Int := (List.range kinds.toNat).map fun k => cell ns (first + (k : Nat)) % (most + 1)
theorem countsOf_len (ns : List Int) (first kinds most : Int) : (countsOf ns first kinds most).length = kinds.toNat := by simp [countsOf]
theorem countsOf_mem {ns : List Int} {first kinds most : Int} (h : 0 ≤ most) : ∀ x ∈ countsOf ns first kinds most, 0 ≤ x ∧ x ≤ most := fun x hx => by
  obtain ⟨k, _, rfl⟩ := List.mem_map.mp hx
  have h1 := Int.emod_nonneg (cell ns (first + (k : Nat))) (show most + 1 ≠ 0 by omega)
  have h2 := Int.emod_lt_of_pos (cell ns (first + (k : Nat))) (show 0 < most + 1 by omega)
  omega

end Kp
namespace Kp
open PySem L2
/-! ### the law's own row: how long its loop runs -/
def tn (row : List (Option Nat)) : Nat := (row.reverse.takeWhile fun o => o.isNone).length
theorem tn_none (row : List (Option Nat)) : tn (row ++ [none]) = tn row + 1 := by
  unfold tn
  rw [List.reverse_append]
  rfl
theorem take_none : ∀ (l : List (Option Nat)) (a m : Nat), some m ∈ l.take a → (l.takeWhile fun o => o.isNone).length < a
  | [], _, _, h => by simp at h
  | _ :: _, 0, _, h => by simp at h
  | o :: r, a + 1, m, h => by
    rw [List.take_succ_cons] at h
    cases o with
    | some k => simp
    | none =>
      rw [List.takeWhile_cons_of_pos (by rfl), List.length_cons]
      rcases List.mem_cons.mp h with h | h
      · cases h
      · have := take_none r a m h
        omega
theorem tn_near {row : List (Option Nat)} {a m : Nat} (h : some m ∈ row.drop (row.length - a)) : tn row < a := by
  refine take_none _ a m ?_
  rw [List.take_reverse, List.mem_reverse]
  exact h
theorem sum_set : ∀ {xs : List Int} {k : Nat} {x y : Int}, xs[k]? = some x → (xs.set k y).sum = xs.sum - x + y
  | [], _, _, _, h => by simp at h
  | z :: r, 0, x, y, h => by
    have e : z = x := Option.some.inj h
    subst e
    rw [List.set_cons_zero, List.sum_cons, List.sum_cons]
    omega
  | z :: r, k + 1, x, y, h => by
    rw [List.getElem?_cons_succ] at h
    rw [List.set_cons_succ, List.sum_cons, List.sum_cons, sum_set h]
    omega
theorem sum_nn : ∀ {xs : List Int}, (∀ x ∈ xs, 0 ≤ x) → 0 ≤ xs.sum
  | [], _ => Int.le_refl _
  | z :: r, h => by
    have h1 := h z List.mem_cons_self
    have h2 := sum_nn fun x hx => h x (List.mem_cons_of_mem _ hx)
    rw [List.sum_cons]
    omega
theorem sum_le {b : Int} : ∀ {xs : List Int}, (∀ x ∈ xs, x ≤ b) → xs.sum ≤ xs.length * b
  | [], _ => by simp
  | z :: r, h => by
    have h1 := h z List.mem_cons_self
    have h2 := sum_le (b := b) fun x hx => h x (List.mem_cons_of_mem _ hx)
    rw [List.sum_cons, List.length_cons]
    push_cast
    rw [Int.add_mul]
    omega
theorem sum_pos : ∀ {xs : List Int}, 0 < xs.sum → ∃ k : Nat, ∃ x, xs[k]? = some x ∧ 0 < x
  | [], h => by simp at h
  | z :: r, h => by
    by_cases hz : 0 < z
    · exact ⟨0, z, rfl, hz⟩
    · rw [List.sum_cons] at h
      obtain ⟨k, x, h1, h2⟩ := sum_pos (xs := r) (by omega)
      exact ⟨k + 1, x, h1, h2⟩
theorem in_rv (k : Nat) : ∀ row : List (Option Nat), inV (.int (k : Int)) (row.map rv) = decide (some k ∈ row)
  | [] => rfl
  | o :: r => by
    have ih := in_rv k r
    unfold inV at ih ⊢
    rw [List.map_cons, List.any_cons, ih]
    cases o with
    | none =>
      have e : decide (some k ∈ none :: r) = decide (some k ∈ r) := decide_eq_decide.mpr (by simp)
      rw [e]
      rfl
    | some m =>
      show (((m : Int) == (k : Int)) || _) = _
      by_cases e : m = k
      · subst e
        simp
      · have h1 : ((m : Int) == (k : Int)) = false := by simp; omega
        have h2 : decide (some k ∈ some m :: r) = decide (some k ∈ r) := decide_eq_decide.mpr (by simp [Ne.symm e])
        rw [h1, h2]
        rfl
/-- the kinds that may come now -/
def somes (xs : List Int) (near : List (Option Nat)) (n : Nat) : List Nat := (List.range n).filter fun k => decide (0 < xs.getD k 0) && !decide (some k ∈ near)
theorem somes_succ (xs : List Int) (near : List (Option Nat)) (n : Nat) : somes xs near (n + 1) = somes xs near n ++ (if (decide (0 < xs.getD n 0) && !decide (some n ∈ near)) = true then [n] else []) := by
  unfold somes
  rw [List.range_succ, List.filter_append]
  simp only [List.filter_cons, List.filter_nil]
theorem somes_len (xs : List Int) (near : List (Option Nat)) (n : Nat) : (somes xs near n).length ≤ n := by
  unfold somes
  exact Nat.le_trans (List.length_filter_le _ _) (by simp)
theorem cut_near (row : List (Option Nat)) (a : Int) (h : 0 ≤ a) : cutV (row.map rv) (some (max 0 ((row.length : Int) - a))) none = (row.drop (row.length - a.toNat)).map rv := by
  have e : max 0 ((row.length : Int) - a) = ((row.length - a.toNat : Nat) : Int) := by omega
  rw [e]
  unfold cutV
  have h1 : HT.sIx (row.map rv).length 0 (some ((row.length - a.toNat : Nat) : Int)) = row.length - a.toNat := by
    rw [HT.sIx_nat, List.length_map]
    omega
  have h2 : HT.sIx (row.map rv).length (row.map rv).length none = row.length := by
    rw [List.length_map]; rfl
  rw [h1, h2, ← List.map_drop, ← List.map_take, List.take_of_length_le]
  rw [List.length_drop]
  omega
theorem nat_int_map (ks : List Nat) : (ks.map fun (k : Nat) => V.int (k : Int)) = (ks.map fun (k : Nat) => (k : Int)).map V.int := by
  rw [List.map_map]; rfl
theorem er_map {α β : Type} (f : α → β) : ∀ (l : List α) (j : Nat), (l.map f).eraseIdx j = (l.eraseIdx j).map f
  | [], _ => rfl
  | _ :: _, 0 => rfl
  | x :: r, j + 1 => by
    rw [List.map_cons, List.eraseIdx_cons_succ, List.eraseIdx_cons_succ, er_map f r j, List.map_cons]

end Kp
namespace Kp
open PySem L2
/-! ### what forces the least length -/
def ksOf (xs : List Int) (m : Int) (n : Nat) : List Nat := (List.range n).filter fun k => decide (xs.getD k 0 = m)
theorem ksOf_succ (xs : List Int) (m : Int) (n : Nat) : ksOf xs m (n + 1) = ksOf xs m n ++ (if decide (xs.getD n 0 = m) = true then [n] else []) := by
  unfold ksOf
  rw [List.range_succ, List.filter_append]
  simp only [List.filter_cons, List.filter_nil]
theorem ksOf_len (xs : List Int) (m : Int) (n : Nat) : (ksOf xs m n).length ≤ n := by
  unfold ksOf
  exact Nat.le_trans (List.length_filter_le _ _) (by simp)
def frK (xs : List Int) (m : Int) : List Nat := if m = 0 then [] else ksOf xs m xs.length
def frN (xs : List Int) (a m : Int) : Int := if m = 0 then 0 else (m - 1) * (a + 1) + (ksOf xs m xs.length).length
def Gr (xs : List Int) (m : Int) : Prop := m ∈ xs ∧ ∀ y ∈ xs, y ≤ m
theorem Gr.one {xs : List Int} {m m' : Int} (h : Gr xs m) (h' : Gr xs m') : m = m' := by
  have h1 := h.2 _ h'.1
  have h2 := h'.2 _ h.1
  omega
def vk (ks : List Nat) : List V := ks.map fun (k : Nat) => V.int (k : Int)
theorem vk_flat (ks : List Nat) : (vk ks).all flat0 = true := by
  unfold vk
  rw [List.all_map, List.all_eq_true]
  exact fun _ _ => rfl
theorem vk_app (a b : List Nat) : vk (a ++ b) = vk a ++ vk b := List.map_append
theorem vk_len (a : List Nat) : (vk a).length = a.length := List.length_map _
/-- what a force is, told by the law's own way and by the program -/
def FoAt (H H' : Hp) (t : Addr) (xs : List Int) (a m : Int) : Prop := (frN xs a m ≤ xs.sum ∧ H' t = some (.tup [.str (Str.ofString "things"), .int xs.sum])) ∨
  (xs.sum < frN xs a m ∧ ∃ k, H k = none ∧ H' k = some (.lst (vk (frK xs m))) ∧ H' t = some (.tup [.str (Str.ofString "frame"), .ref k, .int (frN xs a m)]))
theorem sum_zero {xs : List Int} (h0 : ∀ x ∈ xs, 0 ≤ x) (h1 : ∀ x ∈ xs, x ≤ 0) : xs.sum = 0 := by
  have a := sum_nn h0
  have b := sum_le (b := 0) h1
  omega

end Kp
namespace Kp
open PySem L2
def top (i : Nat) : Stmt := PySem.Challenge.pw_keepaway_k04_the_least_length.main.body.getD i (.Pass ⟨0, 0, 0, 0⟩)
local macro_rules | `(tactic| walk_at "s") => `(tactic| with_reducible first
  | refine up_seq ?_ | refine up_asg ?_ | refine up_name ?_ | refine up_ret ?_ | refine up_if ?_ | refine up_next ?_ | refine up_brk ?_ | refine up_cont ?_ | refine up_drop ?_ | refine up_drK ?_
  | refine up_var (by with_unfolding_all rfl) ?_ | refine up_c ?_ | refine up_op ?_ | refine up_un ?_ | refine up_I0 ?_ | refine up_U ?_ | refine up_eqI ?_ | refine up_neI ?_ | refine up_isN ?_ | refine up_notN ?_
  | refine up_test ?_ | refine up_tB ?_ | refine up_asB ?_ | refine up_and ?_ | refine up_or ?_ | refine up_not ?_ | refine up_notK ?_ | refine up_andVt ?_ | refine up_orVt ?_ | refine up_notVt ?_ | refine up_notV ?_
  | refine up_cons ?_ | refine up_consA ?_ | refine up_consB ?_ | refine up_nil ?_ | refine up_tup ?_ | refine up_lst ?_ | refine up_callT ?_ | refine up_CB ?_ | refine up_BM ?_ | refine up_BM0 ?_
  | refine up_for ?_ | refine up_iList ?_ | refine up_iRng1 ?_ | refine up_iRng2 ?_ | refine up_iRng3 ?_ | refine up_iStr ?_ | refine up_ist ?_ | refine up_lc ?_ | refine up_yes ?_
  | refine up_sub ?_ | refine up_subK ?_ | refine up_sl ?_ | refine up_slK ?_ | refine up_oK ?_ | refine up_noPart ?_ | refine up_part ?_ | refine up_partK ?_ | refine up_tru ?_ | refine up_ifE ?_ | refine up_din ?_ | refine up_dnotin ?_ | refine up_dinA ?_ | refine up_dget ?_ | refine up_dgA ?_ | refine up_dput ?_ | refine up_dpA ?_ | refine up_dpB ?_ | refine up_dget2 ?_ | refine up_d2B ?_ | refine up_dpop1 ?_ | refine up_fld ?_ | refine up_sfld ?_ | refine up_sfA ?_ | refine up_meth ?_ | refine up_make ?_ | refine up_slK ?_ | refine up_max2 ?_ | refine up_min2 ?_ | refine up_callS ?_ | refine up_chain ?_ | refine up_chA ?_ | refine up_chI ?_)
local macro_rules | `(tactic| walk_at "r") => `(tactic| repeat (walk_at "s"))
section
variable {P : Program} {w : World} {K : PySem.W.Frag} {mg : Str → Option Value} {base : Heap}

def fCell (K : PySem.W.Frag) : List V → Hp → VK → Prop := fun vs H Q => ∃ (a : Addr) (ns : List Int) (k : Int), vs = [.ref a, .int k] ∧ SqL K H a (ns.map V.int) ∧ 0 ≤ k ∧ Up (Q (.int (cell ns k))) H
abbrev s_law_cell_at : Stmt := top 11
theorem sc_law_cell_at : FnScope ["script", "k"] ["script", "k"] (defScope s_law_cell_at) := ⟨rfl, rfl, rfl, by decide +kernel, rfl, by decide +kernel, by decide +kernel⟩
theorem ok_law_cell_at {f : Addr} {fd : FuncData} (F : Fun K "_law_cell_at" "_law_cell_at" s_law_cell_at f fd) (T : Bl mg) : FnOk P w K mg base CX0 1 f fd ["script", "k"] (KSp (fCell K)) := by
  refine F.ok sc_law_cell_at (fun vs H Q E h => ?_) (fun cdv A outer s H vs Q E hr h => ?_)
  · obtain ⟨_, _, a, ns, k, rfl, _⟩ := h
    rfl
  obtain ⟨H0, e0, a, ns, k, rfl, hS, hk, q⟩ := h
  refine ⟨_, (pss_cons (ps_if (pt_cmpR op_lt (pv 1) (pe_callB kc_len (by rfl) T.len (by decide +kernel) (pa_cons (pv 0) pa_nil)) (by first | exact nomark _ | rfl)) (pss_one (ps_ret (pe_ix (ko_ixL (K := K)) (pv 0) (pv 1) (fun _ _ => rfl)))) pss_nil)
      (pss_one (ps_ret pe_int))), ?_⟩
  refine (?_ : Up _ H0) H e0
  walk_at "r"
  refine up_len hS ?_
  walk_at "r"
  refine up_ifP (fun h => ?_) (fun h => ?_)
  · walk_at "r"
    rw [List.length_map] at h
    refine up_ixL hS (at_of (j := k.toNat) (by omega) (v := .int (cell ns k)) (by
      have hk2 : k.toNat < ns.length := by omega
      rw [List.getElem?_map, List.getElem?_eq_getElem hk2, cell, List.getD_eq_getElem?_getD, List.getElem?_eq_getElem hk2]
      rfl)) ?_
    exact q
  · walk_at "r"
    rw [List.length_map] at h
    have e : cell ns k = 0 := by
      rw [cell, List.getD_eq_getElem?_getD, List.getElem?_eq_none (by omega)]
      rfl
    rw [e] at q
    exact q


def fWhole : List V → Hp → VK → Prop := fun vs H Q => ∃ i : Int, vs = [.int i] ∧ Up (Q (.bl true)) H
abbrev s_law_whole : Stmt := top 12
theorem sc_law_whole : FnScope ["found"] ["found"] (defScope s_law_whole) := ⟨rfl, rfl, rfl, by decide +kernel, rfl, by decide +kernel, by decide +kernel⟩
theorem ok_law_whole {f : Addr} {fd : FuncData} (F : Fun K "_law_whole" "_law_whole" s_law_whole f fd) (T : Bl mg) : FnOk P w K mg base CX0 1 f fd ["found"] (KSp fWhole) := by
  refine F.ok sc_law_whole (fun vs H Q E h => ?_) (fun cdv A outer s H vs Q E hr h => ?_)
  · obtain ⟨_, _, i, rfl, _⟩ := h
    rfl
  obtain ⟨H0, e0, i, rfl, q⟩ := h
  refine ⟨_, (pss_one (ps_ret (pe_and (pe_callB call_isi (by rfl) T.isi (by decide +kernel) (pa_cons (pv 0) (pa_cons (pe_bltn (v := .ty "int") (by rfl) T.int (by decide +kernel) rfl) pa_nil))) (pe_one (pe_not (pe_callB call_isi (by rfl) T.isi (by decide +kernel) (pa_cons (pv 0) (pa_cons (pe_bltn (v := .ty "bool") (by rfl) T.bool (by decide +kernel) rfl) pa_nil)))))))), ?_⟩
  refine (?_ : Up _ H0) H e0
  walk_at "r"
  refine up_isi (.base (.int i)) (r := true) (by decide +kernel) ?_
  refine up_andVK (fun _ => ?_) (fun h => nomatch h)
  walk_at "r"
  refine up_isi (.base (.int i)) (r := false) (by decide +kernel) ?_
  walk_at "r"
  exact q

def fLawList (K : PySem.W.Frag) : List V → Hp → VK → Prop := fun vs H Q => ∃ (p q : Addr) (xs : List V), vs = [.ref p, .ref q] ∧ H p = some (.lst xs) ∧ SqL K H q xs ∧ xs.all flat0 = true ∧ xs.length ≤ 10000 ∧ Up (Q (.bl true)) H
abbrev s_law_list : Stmt := top 14
theorem sc_law_list : FnScope ["found", "due", "k"] ["found", "due"] (defScope s_law_list) := ⟨rfl, rfl, rfl, by decide +kernel, rfl, by decide +kernel, by decide +kernel⟩
theorem ok_law_list {f : Addr} {fd : FuncData} (F : Fun K "_law_list" "_law_list" s_law_list f fd) (T : Bl mg) (c_law_whole : Fn P w K mg base CX0 1 "_law_whole" ["found"] (KSp fWhole)) : FnOk P w K mg base CX0 2 f fd ["found", "due"] (KSp (fLawList K)) := by
  refine F.ok sc_law_list (fun vs H Q E h => ?_) (fun cdv A outer s H vs Q E hr h => ?_)
  · obtain ⟨_, _, p, q, xs, rfl, _⟩ := h
    rfl
  obtain ⟨H0, e0, p, q, xs, rfl, hp, hq, hf, hn, k⟩ := h
  refine ⟨_, (pss_cons (ps_if (PW.pt (pw_or (pt_not (pt_val (pe_callB call_isi (by rfl) T.isi (by decide +kernel) (pa_cons (pv 0) (pa_cons (pe_bltn (v := .ty "list") (by rfl) T.list (by decide +kernel) rfl) pa_nil))))) (pw_or1 (pt_cmpR op_ne (pe_callB kc_len (by rfl) T.len (by decide +kernel) (pa_cons (pv 0) pa_nil)) (pe_callB kc_len (by rfl) T.len (by decide +kernel) (pa_cons (pv 1) pa_nil)) (by first | exact nomark _ | rfl))))) (pss_one (ps_ret pe_bl)) pss_nil)
      (pss_cons (ps_for PassesOwn.never rfl (pi_range1 rfl T.range (pa_cons (pe_callB kc_len (by rfl) T.len (by decide +kernel) (pa_cons (pv 1) pa_nil)) pa_nil)) (pg_name (i := 2) sc_law_list.nd rfl (by first | exact Or.inl rfl | exact Or.inr rfl)) (pss_cons (ps_if (PW.pt (pw_and (pt_cmpR op_notN1 (pe_ix (ko_ixL (K := K)) (pv 0) (pv 2) (fun _ _ => rfl)) pe_non (by first | exact nomark _ | rfl)) (pw_and1 (pt_not (pt_val (kp_call c_law_whole hr (by decide) rfl (pa_cons (pe_ix (ko_ixL (K := K)) (pv 0) (pv 2) (fun _ _ => rfl)) pa_nil))))))) (pss_one (ps_ret pe_bl)) pss_nil)
      (pss_one (ps_if (pt_cmpR op_ne (pe_ix (ko_ixL (K := K)) (pv 0) (pv 2) (fun _ _ => rfl)) (pe_ix (ko_ixL (K := K)) (pv 1) (pv 2) (fun _ _ => rfl)) (by first | exact nomark _ | rfl)) (pss_one (ps_ret pe_bl)) pss_nil))))
      (pss_one (ps_ret pe_bl)))), ?_⟩
  refine (?_ : Up _ H0) H e0
  have hP : SqL K H0 p xs := SqL.of hp
  walk_at "r"
  refine up_isi (.base (.lst hp)) (r := true) (by decide +kernel) ?_
  walk_at "r"
  refine up_orF rfl ?_
  walk_at "r"
  refine up_len hP ?_
  walk_at "r"
  refine up_len hq ?_
  walk_at "r"
  refine up_ifF (by simp) ?_
  walk_at "r"
  refine up_len hq ?_
  walk_at "r"
  refine up_rg1 (by omega) (by omega) ?_
  refine up_forR0 (fun i σ H' => H' = H0 ∧ ∃ v2, σ = [some (.ref p), some (.ref q), v2]) ⟨rfl, none, rfl⟩ ?_ ?_
  · rintro i σ H' hi ⟨rfl, v2, rfl⟩
    have hi' : i < xs.length := by omega
    have hx : atI xs (i : Int) = some xs[i] := atI_nat (List.getElem?_eq_getElem hi')
    have hfx : flat0 xs[i] = true := List.all_eq_true.mp hf _ (List.getElem_mem hi')
    generalize xs[i] = x at hx hfx
    walk_at "r"
    refine up_ixL hP hx ?_
    walk_at "r"
    cases x with
    | non =>
      refine up_andF rfl ?_
      refine up_ifF rfl ?_
      walk_at "r"
      refine up_ixL hP hx ?_
      walk_at "r"
      refine up_ixL hq hx ?_
      refine up_neV rfl ?_
      walk_at "r"
      refine up_ifF (by simp) ?_
      walk_at "r"
      exact up_lo ⟨rfl, _, rfl⟩
    | int j =>
      refine up_andT rfl ?_
      walk_at "r"
      refine up_ixL hP hx ?_
      walk_at "r"
      refine up_call ⟨j, rfl, ?_⟩
      walk_at "r"
      refine up_ifF rfl ?_
      walk_at "r"
      refine up_ixL hP hx ?_
      walk_at "r"
      refine up_ixL hq hx ?_
      walk_at "r"
      refine up_ifF (by simp) ?_
      walk_at "r"
      exact up_lo ⟨rfl, _, rfl⟩
    | _ => cases hfx
  · rintro σ H' ⟨rfl, v2, rfl⟩
    walk_at "r"
    exact k

abbrev s_see_apart : Stmt := top 8
theorem sc_see_apart : FnScope ["apart"] ["apart"] (defScope s_see_apart) := ⟨rfl, rfl, rfl, by decide +kernel, rfl, by decide +kernel, by decide +kernel⟩
def fSee (NW : Addr) : List V → Hp → VK → XK → Prop := fun vs H Q E => ∃ a : Int, vs = [.int a] ∧ (0 ≤ a ∧ a ≤ 8 → Up (Q .non) H) ∧ (¬ (0 ≤ a ∧ a ≤ 8) → Up (E (.ref NW) none) H)
theorem ok_see_apart {f : Addr} {fd : FuncData} (F : Fun K "see_apart" "see_apart" s_see_apart f fd) (T : Bl mg) {NW : Addr} (e_NoWish : Er K mg "NoWish" NW) : FnOk P w K mg base (L2.CX P w) 1 f fd ["apart"] (KSx (fSee NW)) := by
  refine F.okX sc_see_apart (fun vs H Q E h => ?_) (fun cdv A outer s H vs Q E hr h => ?_)
  · obtain ⟨_, _, a, rfl, _⟩ := h
    rfl
  obtain ⟨H0, e0, a, rfl, q1, q0⟩ := h
  refine ⟨_, (pss_one (ps_if (pt_not (pt_chain op_le op_le pe_int (pv 0) pe_int)) (pss_one (kp_raise rfl (kp_takes rfl rfl rfl rfl) e_NoWish rfl)) pss_nil)), ?_⟩
  refine (?_ : Up _ H0) H e0
  walk_at "r"
  by_cases h : 0 ≤ a ∧ a ≤ 8
  · refine up_ifF (by rw [decide_eq_true h.1, decide_eq_true h.2]; rfl) ?_
    walk_at "r"
    exact q1 h
  · refine up_ifT ?_ ?_
    · rw [Bool.not_eq_true', Bool.and_eq_false_iff, decide_eq_false_iff_not, decide_eq_false_iff_not]
      omega
    · walk_at "r"
      exact up_raise (q0 h)
abbrev s_Wish_init : Stmt := inClass (top 9) 0
theorem sc_Wish_init : FnScope ["self", "counts", "apart", "count"] ["self", "counts", "apart"] (defScope s_Wish_init) := ⟨rfl, rfl, rfl, by decide +kernel, rfl, by decide +kernel, by decide +kernel⟩
def fWishI (K : PySem.W.Frag) (C NW : Addr) : List V → Hp → VK → XK → Prop := fun vs H Q E => ∃ (p l : Addr) (a : Int) (xs : List Int) (dx : Addr), vs = [.ref p, .ref l, .int a] ∧ H p = some (.ins C dx []) ∧ SqL K H l (xs.map V.int) ∧ xs.length ≤ 10000 ∧
  (Fine a xs → ∀ t, H t = none → Up (Q .non) (upd (upd H t (.lst (xs.map V.int))) p (.ins C dx (flW a t)))) ∧ (¬ Fine a xs → Up (E (.ref NW) none) H)
theorem ok_Wish_init {f : Addr} {fd : FuncData} (F : Fun K "__init__" "Wish.__init__" s_Wish_init f fd) (T : Bl mg) {C NW : Addr} (W : Wf K mg C) (e_NoWish : Er K mg "NoWish" NW) (c_see_apart : Fn P w K mg base (L2.CX P w) 1 "see_apart" ["apart"] (KSx (fSee NW))) :
    FnOk P w K mg base (L2.CX P w) 2 f fd ["self", "counts", "apart"] (KSx (fWishI K C NW)) := by
  refine F.okX sc_Wish_init (fun vs H Q E h => ?_) (fun cdv A outer s H vs Q E hr h => ?_)
  · obtain ⟨_, _, p, l, a, xs, dx, rfl, _⟩ := h
    rfl
  obtain ⟨H0, e0, p, l, a, xs, dx, rfl, hp, hS, hn, q1, q0⟩ := h
  refine ⟨_, (pss_cons (ps_if (pt_not (pt_chain op_le op_le pe_int (pe_callB kc_len (by rfl) T.len (by decide +kernel) (pa_cons (pv 1) pa_nil)) pe_int)) (pss_one (kp_raise rfl (kp_takes rfl rfl rfl rfl) e_NoWish rfl)) pss_nil)
      (pss_cons (ps_for (passes_of rfl) rfl (pi_list (pv 1)) (pg_name (i := 3) sc_Wish_init.nd rfl (by first | exact Or.inl rfl | exact Or.inr rfl)) (pss_one (ps_if (pt_not (pt_chain op_le op_le pe_int (pv 3) pe_int)) (pss_one (kp_raise rfl (kp_takes rfl rfl rfl rfl) e_NoWish rfl)) pss_nil)))
      (pss_cons (ps_expr (kp_callX c_see_apart (kp_takes rfl rfl rfl rfl) hr (by decide) rfl (pa_cons (pv 2) pa_nil)))
      (pss_cons (ps_fld (pv 0) (pv 2) rfl)
      (pss_one (ps_fld (pv 0) (pe_callTy kc_list (by rfl) T.list (by decide +kernel) (pa_cons (pv 1) pa_nil)) rfl)))))), ?_⟩
  refine (?_ : Up _ H0) H e0
  have hl : (xs.map V.int).length = xs.length := List.length_map _
  walk_at "r"
  refine up_len hS ?_
  rw [hl]
  walk_at "r"
  by_cases h1 : 1 ≤ xs.length ∧ xs.length ≤ 6
  case neg =>
    refine up_ifT ?_ ?_
    · rw [Bool.not_eq_true', Bool.and_eq_false_iff, decide_eq_false_iff_not, decide_eq_false_iff_not]
      omega
    · walk_at "r"
      exact up_raise (q0 fun z => h1 ⟨z.1, z.2.1⟩)
  refine up_ifF (by rw [decide_eq_true (show (1 : Int) ≤ xs.length by omega), decide_eq_true (show (xs.length : Int) ≤ 6 by omega)]; rfl) ?_
  walk_at "r"
  refine up_itl hS ?_
  refine up_forL (fun i σ H' => H' = H0 ∧ (∃ v3, σ = [some (.ref p), some (.ref l), some (.int a), v3]) ∧ ∀ x ∈ xs.take i, 0 ≤ x ∧ x ≤ 40) ⟨rfl, ⟨none, rfl⟩, fun x h => nomatch h⟩ (fun i σ H' _ e => by rw [e.1]; exact hS) ?_ ?_
  · rintro i y σ H' hy ⟨rfl, ⟨v3, rfl⟩, hno⟩
    rw [List.getElem?_map] at hy
    cases ex : xs[i]? with
    | none => rw [ex] at hy; cases hy
    | some x =>
      rw [ex] at hy
      have e := Option.some.inj hy
      subst e
      walk_at "r"
      by_cases h2 : 0 ≤ x ∧ x ≤ 40
      · refine up_ifF (by rw [decide_eq_true h2.1, decide_eq_true h2.2]; rfl) ?_
        walk_at "r"
        refine up_lo ⟨rfl, ⟨_, rfl⟩, fun z hz => ?_⟩
        rw [List.take_add_one, ex] at hz
        rcases List.mem_append.mp hz with hz | hz
        · exact hno z hz
        · rw [List.mem_singleton.mp hz]; exact h2
      · refine up_ifT ?_ ?_
        · rw [Bool.not_eq_true', Bool.and_eq_false_iff, decide_eq_false_iff_not, decide_eq_false_iff_not]
          omega
        · walk_at "r"
          exact up_raise (q0 fun z => h2 (z.2.2.1 x (List.mem_of_getElem? ex)))
  · rintro σ H' ⟨rfl, ⟨v3, rfl⟩, hno⟩
    rw [hl, List.take_length] at hno
    walk_at "r"
    refine up_csX ⟨a, rfl, fun h3 => ?_, fun h3 => q0 fun z => h3 z.2.2.2⟩
    have fi : Fine a xs := ⟨h1.1, h1.2, hno, h3⟩
    walk_at "r"
    refine up_sfB hp W.cl_Wish W.nA (by decide) ?_
    walk_at "r"
    have hp1 : upd H' p (.ins C dx (putF "apart" (.int a) [])) p = some (.ins C dx (putF "apart" (.int a) [])) := upd_same
    have hS1 : SqL K (upd H' p (.ins C dx (putF "apart" (.int a) []))) l (xs.map V.int) := by
      rcases hS with (hS | ⟨o, hS⟩) | hS
      · have ne : l ≠ p := ne_of hS hp (by intro z; cases z)
        exact .inl (.inl (by rw [upd_ne ne]; exact hS))
      · have ne : l ≠ p := ne_of hS hp (by intro z; cases z)
        exact .inl (.inr ⟨o, by rw [upd_ne ne]; exact hS⟩)
      · exact .inr hS
    refine up_listOf hS1 fun t ht => ?_
    walk_at "r"
    refine up_sfB (up_fresh ht upd_same) W.cl_Wish W.nT (by show 1 < 1000; decide) ?_
    walk_at "r"
    have nt := none_back ht
    refine (q1 fi t nt.1).mono ?_
    intro b u hb
    by_cases e1 : b = p
    · rw [e1, upd_same] at hb
      rw [e1, upd_same]
      exact hb
    · rw [upd_ne e1] at hb
      rw [upd_ne e1]
      by_cases e2 : b = t
      · rw [e2, upd_same] at hb
        rw [e2, upd_same]
        exact hb
      · rw [upd_ne e2] at hb
        rw [upd_ne e2, upd_ne e1]
        exact hb
/-- a wish made of what makes one -/
theorem use_Wish {C NW : Addr} {H : Hp} {Q : VK} {E : XK} {l : Addr} {a : Int} {xs : List Int} (hS : SqL K H l (xs.map V.int)) (fi : Fine a xs) (k : ∀ p H', Same H H' → H p = none → WishAt C H' p a xs → Up (Q (.ref p)) H') :
    Up (mkK C (KSx (fWishI K C NW)) [] E Q [.ref l, .int a]) H := up_mkX fun x dx hx hd ne => by
  have s1 : Same H (upd (upd H dx (.own x)) x (.ins C dx [])) := same_mut (same_new hd _) hx
  refine ⟨x, l, a, xs, dx, rfl, upd_same, sq_up s1 hS, by have := fi.2.1; omega, fun _ t ht => ?_, fun z => absurd fi z⟩
  have nt := none_back ht
  refine up_made (k x _ ?_ hx ⟨dx, t, upd_same, ?_⟩)
  · exact same_mut (s1.trans (same_new ht _)) hx
  · rw [upd_ne nt.2, upd_same]

abbrev s_Wish_things : Stmt := inClass (top 9) 2
theorem sc_Wish_things : FnScope ["self"] ["self"] (defScope s_Wish_things) := ⟨rfl, rfl, rfl, by decide +kernel, rfl, by decide +kernel, by decide +kernel⟩
def fThings (C : Addr) : List V → Hp → VK → Prop := fun vs H Q => ∃ (p : Addr) (a : Int) (xs : List Int), vs = [.ref p] ∧ WishAt C H p a xs ∧ Up (Q (.int xs.sum)) H
theorem ok_Wish_things {f : Addr} {fd : FuncData} (F : Fun K "things" "Wish.things" s_Wish_things f fd) (T : Bl mg) {C : Addr} (W : Wf K mg C) : FnOk P w K mg base CX0 1 f fd ["self"] (KSp (fThings C)) := by
  refine F.ok sc_Wish_things (fun vs H Q E h => ?_) (fun cdv A outer s H vs Q E hr h => ?_)
  · obtain ⟨_, _, p, a, xs, rfl, _⟩ := h
    rfl
  obtain ⟨H0, e0, p, a, xs, rfl, ⟨dx, l, h1, h2⟩, k⟩ := h
  refine ⟨_, (pss_one (ps_ret (pe_callB (cr_sum rfl) (by rfl) T.sum (by decide +kernel) (pa_cons (ko_fld (K := K) (pv 0) rfl) pa_nil)))), ?_⟩
  refine (?_ : Up _ H0) H e0
  walk_at "r"
  refine up_fdK h1 W.cl_Wish W.nT (flW_told _ _) ?_
  walk_at "r"
  refine up_sum (SqL.of h2) ?_
  exact k

abbrev s_law_counts : Stmt := top 13
theorem sc_law_counts : FnScope ["script", "first", "kinds", "most", "k"] ["script", "first", "kinds", "most"] (defScope s_law_counts) := ⟨rfl, rfl, rfl, by decide +kernel, rfl, by decide +kernel, by decide +kernel⟩
def fCounts (K : PySem.W.Frag) : List V → Hp → VK → Prop := fun vs H Q => ∃ (s : Addr) (ns : List Int) (first kinds most : Int), vs = [.ref s, .int first, .int kinds, .int most] ∧ SqL K H s (ns.map V.int) ∧ 0 ≤ first ∧ 0 ≤ kinds ∧ kinds ≤ 1000 ∧ 0 ≤ most ∧
  ∀ p, H p = none → Up (Q (.ref p)) (upd H p (.lst ((countsOf ns first kinds most).map V.int)))
theorem ok_law_counts {f : Addr} {fd : FuncData} (F : Fun K "_law_counts" "_law_counts" s_law_counts f fd) (T : Bl mg) (c_law_cell_at : Fn P w K mg base CX0 1 "_law_cell_at" ["script", "k"] (KSp (fCell K))) : FnOk P w K mg base CX0 2 f fd ["script", "first", "kinds", "most"] (KSp (fCounts K)) := by
  refine F.ok sc_law_counts (fun vs H Q E h => ?_) (fun cdv A outer s H vs Q E hr h => ?_)
  · obtain ⟨_, _, a, ns, first, kinds, most, rfl, _⟩ := h
    rfl
  obtain ⟨H0, e0, a, ns, first, kinds, most, rfl, hS, h1, h2, h3, h4, q⟩ := h
  refine ⟨_, (pss_one (ps_ret (pe_lc (own := [("k", 4)]) (g := gName 4) (tt := tYes) rfl sc_law_counts.nd (pi_range1 rfl T.range (pa_cons (pv 2) pa_nil)) (blkOk_by (own := [("k", 4)]) (N := ["script", "first", "kinds", "most", "k"]) (sc := defScope s_law_counts) (by decide +kernel)) (fun _ _ _ _ _ => pg_name (i := 4) sc_law_counts.nd rfl (by first | exact Or.inl rfl | exact Or.inr rfl)) (fun _ _ _ _ _ => pts_nil) (fun _ _ _ _ _ => (pe_op op_mod (kp_call c_law_cell_at hr (by decide) rfl (pa_cons (pv 0) (pa_cons (pe_op op_add (pv 1) (pv 4)) pa_nil))) (pe_op op_add (pv 3) pe_int)))))), ?_⟩
  refine (?_ : Up _ H0) H e0
  walk_at "r"
  refine up_rg1 (by omega) (by omega) ?_
  refine up_lcR0 (fun _ => rfl) (fun D i H2 => H0 D = none ∧ H2 = upd H0 D (.lst ((countsOf ns first i most).map V.int))) (fun D hD => ⟨hD, rfl⟩) ?_ ?_
  · rintro D i H2 hD hi ⟨_, rfl⟩
    walk_at "r"
    refine up_keep1 rfl ?_
    walk_at "r"
    refine up_call ⟨a, ns, _, rfl, sq_up (same_new hD _) hS, by omega, ?_⟩
    walk_at "r"
    refine up_I (by omega) ?_
    refine up_putD upd_same (by rw [List.length_map, countsOf_len]; omega) ?_
    refine up_lh ⟨hD, ?_⟩
    rw [upd_upd]
    unfold countsOf
    have e1 : (((i + 1 : Nat)) : Int).toNat = i + 1 := Int.toNat_natCast _
    rw [e1, Int.toNat_natCast, List.range_succ, List.map_append, List.map_append]
    rfl
  · rintro D H2 hD ⟨_, rfl⟩
    have e : ((kinds.toNat : Nat) : Int) = kinds := Int.toNat_of_nonneg h2
    rw [e]
    exact q D hD

abbrev s_frame : Stmt := top 1
theorem sc_frame : FnScope ["wish", "greatest", "kinds", "kind"] ["wish"] (defScope s_frame) := ⟨rfl, rfl, rfl, by decide +kernel, rfl, by decide +kernel, by decide +kernel⟩
def fFrame (C : Addr) : List V → Hp → VK → Prop := fun vs H Q => ∃ (p : Addr) (a : Int) (xs : List Int), vs = [.ref p] ∧ WishAt C H p a xs ∧ Fine a xs ∧
  ∀ m, Gr xs m → ∀ H' t k, Same H H' → H t = none → H k = none → H' k = some (.lst (vk (frK xs m))) → H' t = some (.tup [.ref k, .int (frN xs a m)]) → Up (Q (.ref t)) H'
theorem ok_frame {f : Addr} {fd : FuncData} (F : Fun K "frame" "frame" s_frame f fd) (T : Bl mg) {C : Addr} (W : Wf K mg C) : FnOk P w K mg base CX0 1 f fd ["wish"] (KSp (fFrame C)) := by
  refine F.ok sc_frame (fun vs H Q E h => ?_) (fun cdv A outer s H vs Q E hr h => ?_)
  · obtain ⟨_, _, p, a, xs, rfl, _⟩ := h
    rfl
  obtain ⟨H0, e0, p, a, xs, rfl, ⟨dx, l, h1, h2⟩, fi, q⟩ := h
  refine ⟨_, (pss_cons (ps_set (i := 1) sc_frame.nd rfl (by first | exact Or.inl rfl | exact Or.inr rfl) (pe_callB (cr_max rfl) (by rfl) T.max (by decide +kernel) (pa_cons (ko_fld (K := K) (pv 0) rfl) pa_nil)))
      (pss_cons (ps_if (pt_cmpR op_eq (pv 1) pe_int (by first | exact nomark _ | rfl)) (pss_one (ps_ret (pe_tup (pa_cons (pe_lst pa_nil) (pa_cons pe_int pa_nil))))) pss_nil)
      (pss_cons (ps_setLc (i := 2) (own := [("kind", 3)]) (g := gName 3) rfl sc_frame.nd rfl rfl (sw_true rfl rfl rfl (by decide +kernel)) (pi_range1 rfl T.range (pa_cons (pe_callB kc_len (by rfl) T.len (by decide +kernel) (pa_cons (ko_fld (K := K) (pv 0) rfl) pa_nil)) pa_nil)) (blkOk_by (own := [("kind", 3)]) (N := ["wish", "greatest", "kinds", "kind"]) (sc := defScope s_frame) (by decide +kernel)) (fun _ _ _ _ _ => pg_name (i := 3) sc_frame.nd rfl (by first | exact Or.inl rfl | exact Or.inr rfl)) (fun _ _ _ _ _ => (pts_one (pt_cmpR op_eq (pe_ix (ko_ixL (K := K)) (ko_fld (K := K) (pv 0) rfl) (pv 3) (fun _ _ => rfl)) (pv 1) (by first | exact nomark _ | rfl)))) (fun _ _ _ _ _ => (pv 3)))
      (pss_one (ps_ret (pe_tup (pa_cons (pv 2) (pa_cons (pe_op op_add (pe_op op_mul (pe_op op_sub (pv 1) pe_int) (pe_op op_add (ko_fld (K := K) (pv 0) rfl) pe_int)) (pe_callB kc_len (by rfl) T.len (by decide +kernel) (pa_cons (pv 2) pa_nil))) pa_nil)))))))), ?_⟩
  refine (?_ : Up _ H0) H e0
  walk_at "r"
  refine up_fdK h1 W.cl_Wish W.nT (flW_told _ _) ?_
  walk_at "r"
  refine up_max (SqL.of h2) (by have := fi.1; omega) fun m hm hmx => ?_
  have gr : Gr xs m := ⟨hm, hmx⟩
  have hmb := fi.2.2.1 m hm
  have hab := fi.2.2.2
  walk_at "r"
  refine up_ifP (fun hz => ?_) (fun hz => ?_)
  · walk_at "r"
    refine up_lstK (by decide) fun k hk => ?_
    walk_at "r"
    refine up_tupK (show 2 ≤ 100000 by decide) fun t ht => ?_
    have nt := none_back ht
    refine q m gr _ t k ((same_new hk _).trans (same_new ht _)) nt.1 hk ?_ ?_
    · rw [up_fresh ht upd_same]
      unfold frK
      rw [if_pos hz]
      rfl
    · rw [upd_same]
      unfold frN
      rw [if_pos hz]
  · walk_at "r"
    refine up_fdK h1 W.cl_Wish W.nT (flW_told _ _) ?_
    walk_at "r"
    refine up_len (SqL.of h2) ?_
    rw [List.length_map]
    walk_at "r"
    have h6 := fi.2.1
    refine up_rg1 (by omega) (by omega) ?_
    refine up_lcR0 (fun _ => rfl) (fun D i H2 => H0 D = none ∧ H2 = upd H0 D (.lst (vk (ksOf xs m i)))) (fun D hD => ⟨hD, rfl⟩) ?_ ?_
    · rintro D i H2 hD hi ⟨_, rfl⟩
      have hix : i < xs.length := by omega
      have hgd : xs.getD i 0 = xs[i] := by rw [List.getD_eq_getElem?_getD, List.getElem?_eq_getElem hix]; rfl
      walk_at "r"
      refine up_fdK (up_fresh hD h1) W.cl_Wish W.nT (flW_told _ _) ?_
      walk_at "r"
      refine up_ixL (SqL.of (up_fresh hD h2)) (at_of (j := i) rfl (v := .int xs[i]) (by rw [List.getElem?_map, List.getElem?_eq_getElem hix]; rfl)) ?_
      walk_at "r"
      refine up_keepP (fun hb => ?_) (fun hb => ?_)
      · walk_at "r"
        refine up_putD upd_same (by have := ksOf_len xs m i; rw [vk_len]; omega) ?_
        refine up_lh ⟨hD, ?_⟩
        rw [upd_upd, ksOf_succ, hgd, if_pos (decide_eq_true hb), vk_app]
        rfl
      · refine up_lh ⟨hD, ?_⟩
        rw [ksOf_succ, hgd, if_neg (by simpa using hb), List.append_nil]
    · rintro D H2 hD ⟨_, rfl⟩
      rw [Int.toNat_natCast]
      walk_at "r"
      refine up_fdK (up_fresh hD h1) W.cl_Wish W.nA (flW_apart _ _) ?_
      walk_at "r"
      refine up_I (.inl ⟨by omega, by omega⟩) ?_
      walk_at "r"
      refine up_len (SqL.of upd_same) ?_
      rw [vk_len]
      walk_at "r"
      refine up_tupK (show 2 ≤ 100000 by decide) fun t ht => ?_
      have nt := none_back ht
      refine q m gr _ t D ((same_new hD _).trans (same_new ht _)) nt.1 hD ?_ ?_
      · rw [up_fresh ht upd_same]
        unfold frK
        rw [if_neg hz]
      · rw [upd_same]
        unfold frN
        rw [if_neg hz]
abbrev s_least_length : Stmt := top 2
theorem sc_least_length : FnScope ["wish"] ["wish"] (defScope s_least_length) := ⟨rfl, rfl, rfl, by decide +kernel, rfl, by decide +kernel, by decide +kernel⟩
def fLeast (C : Addr) : List V → Hp → VK → Prop := fun vs H Q => ∃ (p : Addr) (a : Int) (xs : List Int), vs = [.ref p] ∧ WishAt C H p a xs ∧ Fine a xs ∧ ∀ m, Gr xs m → Up (Q (.int (max xs.sum (frN xs a m)))) H
theorem ok_least_length {f : Addr} {fd : FuncData} (F : Fun K "least_length" "least_length" s_least_length f fd) (T : Bl mg) {C : Addr} (W : Wf K mg C) (c_Wish_things : Mt P w K mg base CX0 1 C "things" ["self"] (KSp (fThings C))) (c_frame : Fn P w K mg base CX0 1 "frame" ["wish"] (KSp (fFrame C))) :
    FnOk P w K mg base CX0 2 f fd ["wish"] (KSp (fLeast C)) := by
  refine F.ok sc_least_length (fun vs H Q E h => ?_) (fun cdv A outer s H vs Q E hr h => ?_)
  · obtain ⟨_, _, p, a, xs, rfl, _⟩ := h
    rfl
  obtain ⟨H0, e0, p, a, xs, rfl, hw, fi, q⟩ := h
  refine ⟨_, (pss_one (ps_ret (pe_callB (kc_max2 rfl) (by rfl) T.max (by decide +kernel) (pa_cons (kp_meth0 c_Wish_things W.cl_Wish hr (by decide) (pv 0)) (pa_cons (pe_ix (ko_ixT (K := K)) (kp_call c_frame hr (by decide) rfl (pa_cons (pv 0) pa_nil)) pe_int (fun _ _ => rfl)) pa_nil))))), ?_⟩
  refine (?_ : Up _ H0) H e0
  have hw' := hw
  obtain ⟨dx, l, h1, h2⟩ := hw
  walk_at "r"
  refine up_mtA h1 rfl ?_
  walk_at "r"
  refine up_mtB ⟨p, a, xs, rfl, hw', ?_⟩
  walk_at "r"
  refine up_call ⟨p, a, xs, rfl, hw', fi, fun m gr H' t k sm ht hk hk1 ht1 => ?_⟩
  walk_at "r"
  refine up_ixT (SqT.of ht1) (at_of (j := 1) rfl rfl) ?_
  walk_at "r"
  exact (q m gr).mono sm
abbrev s_force : Stmt := top 3
theorem sc_force : FnScope ["wish", "told"] ["wish"] (defScope s_force) := ⟨rfl, rfl, rfl, by decide +kernel, rfl, by decide +kernel, by decide +kernel⟩
def fForce (C : Addr) : List V → Hp → VK → Prop := fun vs H Q => ∃ (p : Addr) (a : Int) (xs : List Int), vs = [.ref p] ∧ WishAt C H p a xs ∧ Fine a xs ∧ ∀ m, Gr xs m → ∀ H' t, Same H H' → H t = none → FoAt H H' t xs a m → Up (Q (.ref t)) H'
theorem ok_force {f : Addr} {fd : FuncData} (F : Fun K "force" "force" s_force f fd) (T : Bl mg) {C : Addr} (W : Wf K mg C) (c_Wish_things : Mt P w K mg base CX0 1 C "things" ["self"] (KSp (fThings C))) (c_frame : Fn P w K mg base CX0 1 "frame" ["wish"] (KSp (fFrame C))) :
    FnOk P w K mg base CX0 2 f fd ["wish"] (KSp (fForce C)) := by
  refine F.ok sc_force (fun vs H Q E h => ?_) (fun cdv A outer s H vs Q E hr h => ?_)
  · obtain ⟨_, _, p, a, xs, rfl, _⟩ := h
    rfl
  obtain ⟨H0, e0, p, a, xs, rfl, hw, fi, q⟩ := h
  refine ⟨_, (pss_cons (ps_set (i := 1) sc_force.nd rfl (by first | exact Or.inl rfl | exact Or.inr rfl) (kp_call c_frame hr (by decide) rfl (pa_cons (pv 0) pa_nil)))
      (pss_cons (ps_if (pt_cmpR op_ge (kp_meth0 c_Wish_things W.cl_Wish hr (by decide) (pv 0)) (pe_ix (ko_ixT (K := K)) (pv 1) pe_int (fun _ _ => rfl)) (by first | exact nomark _ | rfl)) (pss_one (ps_ret (pe_tup (pa_cons pe_str (pa_cons (kp_meth0 c_Wish_things W.cl_Wish hr (by decide) (pv 0)) pa_nil))))) pss_nil)
      (pss_one (ps_ret (pe_tup (pa_cons pe_str (pa_cons (pe_ix (ko_ixT (K := K)) (pv 1) pe_int (fun _ _ => rfl)) (pa_cons (pe_ix (ko_ixT (K := K)) (pv 1) pe_int (fun _ _ => rfl)) pa_nil)))))))), ?_⟩
  refine (?_ : Up _ H0) H e0
  have hw' := hw
  obtain ⟨dx, l, h1, h2⟩ := hw
  walk_at "r"
  refine up_call ⟨p, a, xs, rfl, hw', fi, fun m gr H' t k sm ht hk hk1 ht1 => ?_⟩
  have hw2 := hw'.up sm
  walk_at "r"
  refine up_mtA (sm _ _ h1) rfl ?_
  walk_at "r"
  refine up_mtB ⟨p, a, xs, rfl, hw2, ?_⟩
  walk_at "r"
  refine up_ixT (SqT.of ht1) (at_of (j := 1) rfl rfl) ?_
  walk_at "r"
  refine up_ifP (fun hge => ?_) (fun hlt => ?_)
  · walk_at "r"
    refine up_mtA (sm _ _ h1) rfl ?_
    walk_at "r"
    refine up_mtB ⟨p, a, xs, rfl, hw2, ?_⟩
    walk_at "r"
    refine up_tupK (show 2 ≤ 100000 by decide) fun t2 ht2 => ?_
    exact q m gr _ t2 (sm.trans (same_new ht2 _)) (sm.free ht2) (.inl ⟨by omega, upd_same⟩)
  · walk_at "r"
    refine up_ixT (SqT.of ht1) (at_of (j := 0) rfl rfl) ?_
    walk_at "r"
    refine up_ixT (SqT.of ht1) (at_of (j := 1) rfl rfl) ?_
    walk_at "r"
    refine up_tupK (show 3 ≤ 100000 by decide) fun t2 ht2 => ?_
    exact q m gr _ t2 (sm.trans (same_new ht2 _)) (sm.free ht2) (.inr ⟨by omega, k, hk, up_fresh ht2 hk1, upd_same⟩)

abbrev s_law_force : Stmt := top 17
theorem sc_law_force : FnScope ["counts", "apart", "greatest", "kinds", "number", "kind"] ["counts", "apart"] (defScope s_law_force) := ⟨rfl, rfl, rfl, by decide +kernel, rfl, by decide +kernel, by decide +kernel⟩
def fLForce (K : PySem.W.Frag) : List V → Hp → VK → Prop := fun vs H Q => ∃ (l : Addr) (a : Int) (xs : List Int), vs = [.ref l, .int a] ∧ SqL K H l (xs.map V.int) ∧ Fine a xs ∧ ∀ m, Gr xs m → ∀ H' t, Same H H' → H t = none → FoAt H H' t xs a m → Up (Q (.ref t)) H'
theorem ok_law_force {f : Addr} {fd : FuncData} (F : Fun K "_law_force" "_law_force" s_law_force f fd) (T : Bl mg) : FnOk P w K mg base CX0 1 f fd ["counts", "apart"] (KSp (fLForce K)) := by
  refine F.ok sc_law_force (fun vs H Q E h => ?_) (fun cdv A outer s H vs Q E hr h => ?_)
  · obtain ⟨_, _, l, a, xs, rfl, _⟩ := h
    rfl
  obtain ⟨H0, e0, l, a, xs, rfl, h2, fi, q⟩ := h
  refine ⟨_, (pss_cons (ps_set (i := 2) sc_law_force.nd rfl (by first | exact Or.inl rfl | exact Or.inr rfl) (pe_callB (cr_max rfl) (by rfl) T.max (by decide +kernel) (pa_cons (pv 0) pa_nil)))
      (pss_cons (ps_if (pt_cmpR op_eq (pv 2) pe_int (by first | exact nomark _ | rfl)) (pss_one (ps_ret (pe_tup (pa_cons pe_str (pa_cons pe_int pa_nil))))) pss_nil)
      (pss_cons (ps_setLc (i := 3) (own := [("kind", 5)]) (g := gName 5) rfl sc_law_force.nd rfl rfl (sw_true rfl rfl rfl (by decide +kernel)) (pi_range1 rfl T.range (pa_cons (pe_callB kc_len (by rfl) T.len (by decide +kernel) (pa_cons (pv 0) pa_nil)) pa_nil)) (blkOk_by (own := [("kind", 5)]) (N := ["counts", "apart", "greatest", "kinds", "number", "kind"]) (sc := defScope s_law_force) (by decide +kernel)) (fun _ _ _ _ _ => pg_name (i := 5) sc_law_force.nd rfl (by first | exact Or.inl rfl | exact Or.inr rfl)) (fun _ _ _ _ _ => (pts_one (pt_cmpR op_eq (pe_ix (ko_ixL (K := K)) (pv 0) (pv 5) (fun _ _ => rfl)) (pv 2) (by first | exact nomark _ | rfl)))) (fun _ _ _ _ _ => (pv 5)))
      (pss_cons (ps_set (i := 4) sc_law_force.nd rfl (by first | exact Or.inl rfl | exact Or.inr rfl) (pe_op op_add (pe_op op_mul (pe_op op_sub (pv 2) pe_int) (pe_op op_add (pv 1) pe_int)) (pe_callB kc_len (by rfl) T.len (by decide +kernel) (pa_cons (pv 3) pa_nil))))
      (pss_cons (ps_if (pt_cmpR op_ge (pe_callB (cr_sum rfl) (by rfl) T.sum (by decide +kernel) (pa_cons (pv 0) pa_nil)) (pv 4) (by first | exact nomark _ | rfl)) (pss_one (ps_ret (pe_tup (pa_cons pe_str (pa_cons (pe_callB (cr_sum rfl) (by rfl) T.sum (by decide +kernel) (pa_cons (pv 0) pa_nil)) pa_nil))))) pss_nil)
      (pss_one (ps_ret (pe_tup (pa_cons pe_str (pa_cons (pv 3) (pa_cons (pv 4) pa_nil))))))))))), ?_⟩
  refine (?_ : Up _ H0) H e0
  walk_at "r"
  refine up_max h2 (by have := fi.1; omega) fun m hm hmx => ?_
  have gr : Gr xs m := ⟨hm, hmx⟩
  have hmb := fi.2.2.1 m hm
  have hab := fi.2.2.2
  walk_at "r"
  refine up_ifP (fun hz => ?_) (fun hz => ?_)
  · walk_at "r"
    refine up_tupK (show 2 ≤ 100000 by decide) fun t ht => ?_
    have hs0 : xs.sum = 0 := sum_zero (fun x hx => (fi.2.2.1 x hx).1) (fun x hx => by have := hmx x hx; omega)
    refine q m gr _ t (same_new ht _) ht (.inl ⟨?_, ?_⟩)
    · unfold frN
      rw [if_pos hz, hs0]
      exact Int.le_refl _
    · rw [hs0]; exact upd_same
  · walk_at "r"
    refine up_len h2 ?_
    rw [List.length_map]
    walk_at "r"
    have h6 := fi.2.1
    refine up_rg1 (by omega) (by omega) ?_
    refine up_lcR0 (fun _ => rfl) (fun D i H2 => H0 D = none ∧ H2 = upd H0 D (.lst (vk (ksOf xs m i)))) (fun D hD => ⟨hD, rfl⟩) ?_ ?_
    · rintro D i H2 hD hi ⟨_, rfl⟩
      have hix : i < xs.length := by omega
      have hgd : xs.getD i 0 = xs[i] := by rw [List.getD_eq_getElem?_getD, List.getElem?_eq_getElem hix]; rfl
      walk_at "r"
      refine up_ixL (sq_up (same_new hD _) h2) (at_of (j := i) rfl (v := .int xs[i]) (by rw [List.getElem?_map, List.getElem?_eq_getElem hix]; rfl)) ?_
      walk_at "r"
      refine up_keepP (fun hb => ?_) (fun hb => ?_)
      · walk_at "r"
        refine up_putD upd_same (by have := ksOf_len xs m i; rw [vk_len]; omega) ?_
        refine up_lh ⟨hD, ?_⟩
        rw [upd_upd, ksOf_succ, hgd, if_pos (decide_eq_true hb), vk_app]
        rfl
      · refine up_lh ⟨hD, ?_⟩
        rw [ksOf_succ, hgd, if_neg (by simpa using hb), List.append_nil]
    · rintro D H2 hD ⟨_, rfl⟩
      rw [Int.toNat_natCast]
      walk_at "r"
      refine up_I (.inl ⟨by omega, by omega⟩) ?_
      walk_at "r"
      refine up_len (SqL.of upd_same) ?_
      rw [vk_len]
      walk_at "r"
      refine up_sum (sq_up (same_new hD _) h2) ?_
      walk_at "r"
      have en : frN xs a m = (m - 1) * (a + 1) + (ksOf xs m xs.length).length := if_neg hz
      refine up_ifP (fun hge => ?_) (fun hlt => ?_)
      · walk_at "r"
        refine up_sum (sq_up (same_new hD _) h2) ?_
        walk_at "r"
        refine up_tupK (show 2 ≤ 100000 by decide) fun t ht => ?_
        exact q m gr _ t ((same_new hD _).trans (same_new ht _)) (none_back ht).1 (.inl ⟨by omega, upd_same⟩)
      · walk_at "r"
        refine up_tupK (show 3 ≤ 100000 by decide) fun t ht => ?_
        refine q m gr _ t ((same_new hD _).trans (same_new ht _)) (none_back ht).1 (.inr ⟨by omega, D, hD, ?_, ?_⟩)
        · rw [up_fresh ht upd_same]
          unfold frK
          rw [if_neg hz]
        · rw [upd_same, en]
abbrev s_law_alike : Stmt := top 18
theorem sc_law_alike : FnScope ["found", "due"] ["found", "due"] (defScope s_law_alike) := ⟨rfl, rfl, rfl, by decide +kernel, rfl, by decide +kernel, by decide +kernel⟩
def Alike (H : Hp) (x y : Addr) : Prop := (∃ n : Int, H x = some (.tup [.str (Str.ofString "things"), .int n]) ∧ H y = some (.tup [.str (Str.ofString "things"), .int n])) ∨
  (∃ (ks : List Nat) (n : Int) (k k2 : Addr), ks.length ≤ 1000 ∧ H x = some (.tup [.str (Str.ofString "frame"), .ref k, .int n]) ∧ H y = some (.tup [.str (Str.ofString "frame"), .ref k2, .int n]) ∧ H k = some (.lst (vk ks)) ∧ H k2 = some (.lst (vk ks)))
def fAlike : List V → Hp → VK → Prop := fun vs H Q => ∃ x y, vs = [.ref x, .ref y] ∧ Alike H x y ∧ Up (Q (.bl true)) H
theorem ok_law_alike {f : Addr} {fd : FuncData} (F : Fun K "_law_alike" "_law_alike" s_law_alike f fd) (T : Bl mg) (c_law_whole : Fn P w K mg base CX0 1 "_law_whole" ["found"] (KSp fWhole)) (c_law_list : Fn P w K mg base CX0 2 "_law_list" ["found", "due"] (KSp (fLawList K))) : FnOk P w K mg base CX0 3 f fd ["found", "due"] (KSp fAlike) := by
  refine F.ok sc_law_alike (fun vs H Q E h => ?_) (fun cdv A outer s H vs Q E hr h => ?_)
  · obtain ⟨_, _, x, y, rfl, _⟩ := h
    rfl
  obtain ⟨H0, e0, x, y, rfl, hal, q⟩ := h
  refine ⟨_, (pss_cons (ps_if (PW.pt (pw_or (pt_not (pt_val (pe_callB call_isi (by rfl) T.isi (by decide +kernel) (pa_cons (pv 0) (pa_cons (pe_bltn (v := .ty "tuple") (by rfl) T.tuple (by decide +kernel) rfl) pa_nil))))) (pw_or (pt_cmpR op_ne (pe_callB kc_len (by rfl) T.len (by decide +kernel) (pa_cons (pv 0) pa_nil)) (pe_callB kc_len (by rfl) T.len (by decide +kernel) (pa_cons (pv 1) pa_nil)) (by first | exact nomark _ | rfl)) (pw_or (pt_not (pt_val (kp_call c_law_whole hr (by decide) rfl (pa_cons (pe_ix (ko_ixT (K := K)) (pv 0) (pe_un un_neg pe_int) (fun _ _ => rfl)) pa_nil)))) (pw_or1 (pt_cmpR (op_neD hr.units) (pv 0) (pv 1) (by first | exact nomark _ | rfl))))))) (pss_one (ps_ret pe_bl)) pss_nil)
      (pss_one (ps_ret (pe_or (pe_cmpR op_eq (pe_callB kc_len (by rfl) T.len (by decide +kernel) (pa_cons (pv 1) pa_nil)) pe_int (by first | exact nomark _ | rfl)) (pe_one (kp_call c_law_list hr (by decide) rfl (pa_cons (pe_ix (ko_ixT (K := K)) (pv 0) pe_int (fun _ _ => rfl)) (pa_cons (pe_ix (ko_ixT (K := K)) (pv 1) pe_int (fun _ _ => rfl)) pa_nil)))))))), ?_⟩
  refine (?_ : Up _ H0) H e0
  rcases hal with ⟨n, hx, hy⟩ | ⟨ks, n, k, k2, hks, hx, hy, hk, hk2⟩
  · walk_at "r"
    refine up_isi (.base (.tup hx)) (r := true) (by decide +kernel) ?_
    walk_at "r"
    refine up_orF rfl ?_
    walk_at "r"
    refine up_lenT (SqT.of hx) ?_
    walk_at "r"
    refine up_lenT (SqT.of hy) ?_
    walk_at "r"
    refine up_orF rfl ?_
    walk_at "r"
    refine up_ixT (SqT.of hx) (v := .int n) rfl ?_
    walk_at "r"
    refine up_call ⟨_, rfl, ?_⟩
    walk_at "r"
    refine up_orF rfl ?_
    walk_at "r"
    refine up_neSame (.tup (SqT.of hx) (.cons (.str _) (.cons (.int _) .nil))) (.tup (SqT.of hy) (.cons (.str _) (.cons (.int _) .nil))) (by unfold SeqAt.shaped; simp [PyData.canLay0, PyData.canLayAll0, PyData.depth, PyData.depthAll]; decide +kernel) ?_
    walk_at "r"
    refine up_ifF rfl ?_
    walk_at "r"
    refine up_lenT (SqT.of hy) ?_
    walk_at "r"
    refine up_orVK (fun _ => q) (fun z => by cases z)
  · walk_at "r"
    refine up_isi (.base (.tup hx)) (r := true) (by decide +kernel) ?_
    walk_at "r"
    refine up_orF rfl ?_
    walk_at "r"
    refine up_lenT (SqT.of hx) ?_
    walk_at "r"
    refine up_lenT (SqT.of hy) ?_
    walk_at "r"
    refine up_orF rfl ?_
    walk_at "r"
    refine up_ixT (SqT.of hx) (v := .int n) rfl ?_
    walk_at "r"
    refine up_call ⟨_, rfl, ?_⟩
    walk_at "r"
    refine up_orF rfl ?_
    walk_at "r"
    have dk : ∀ k : Addr, H0 k = some (.lst (vk ks)) → Dp K H0 (.ref k) (.list ((vk ks).map fp)) := fun k h => .lst (SqL.of h) (dpAll_flat (vk_flat ks))
    refine up_neSame (.tup (SqT.of hx) (.cons (.str _) (.cons (dk _ hk) (.cons (.int _) .nil)))) (.tup (SqT.of hy) (.cons (.str _) (.cons (dk _ hk2) (.cons (.int _) .nil)))) (by unfold SeqAt.shaped; simp [PyData.canLay0, PyData.canLayAll0, PyData.depth, PyData.depthAll, lay_flat, depth_flat]; decide +kernel) ?_
    walk_at "r"
    refine up_ifF rfl ?_
    walk_at "r"
    refine up_lenT (SqT.of hy) ?_
    walk_at "r"
    refine up_orVK (fun z => by cases of_decide_eq_true z) (fun _ => ?_)
    walk_at "r"
    refine up_ixT (SqT.of hx) (at_of (j := 1) rfl rfl) ?_
    walk_at "r"
    refine up_ixT (SqT.of hy) (at_of (j := 1) rfl rfl) ?_
    walk_at "r"
    refine up_call ⟨k, k2, vk ks, rfl, hk, SqL.of hk2, vk_flat ks, by rw [vk_len]; omega, ?_⟩
    exact q
abbrev s_law : Stmt := top 19
theorem sc_law : FnScope ["script", "most", "counts", "apart", "due", "wish", "length", "found"] ["script"] (defScope s_law) := ⟨rfl, rfl, rfl, by decide +kernel, rfl, by decide +kernel, by decide +kernel⟩
theorem ok_law {f : Addr} {fd : FuncData} (F : Fun K "law" "law" s_law f fd) (T : Bl mg) {C NW : Addr} (W : Wf K mg C) (c_law_cell_at : Fn P w K mg base CX0 1 "_law_cell_at" ["script", "k"] (KSp (fCell K))) (c_law_whole : Fn P w K mg base CX0 1 "_law_whole" ["found"] (KSp fWhole)) (c_law_counts : Fn P w K mg base CX0 2 "_law_counts" ["script", "first", "kinds", "most"] (KSp (fCounts K)))
    (c_law_force : Fn P w K mg base CX0 1 "_law_force" ["counts", "apart"] (KSp (fLForce K))) (c_law_alike : Fn P w K mg base CX0 3 "_law_alike" ["found", "due"] (KSp fAlike)) (c_Wish_init : Ini P w K mg base (L2.CX P w) 2 C "Wish" ["self", "counts", "apart"] (KSx (fWishI K C NW)))
    (c_least_length : Fn P w K mg base CX0 2 "least_length" ["wish"] (KSp (fLeast C))) (c_force : Fn P w K mg base CX0 2 "force" ["wish"] (KSp (fForce C))) : FnOk P w K mg base CX0 4 f fd ["script"] (KSp (fLaw K)) := by
  refine F.ok sc_law (fun vs H Q E h => ?_) (fun cdv A outer s H vs Q E hr h => ?_)
  · obtain ⟨_, _, a, ns, rfl, _⟩ := h
    rfl
  obtain ⟨H0, e0, a, ns, rfl, hS, hn, q⟩ := h
  refine ⟨_, (pss_cons (ps_set (i := 1) sc_law.nd rfl (by first | exact Or.inl rfl | exact Or.inr rfl) pe_int)
      (kp_cut (ps_if (pt_cmpR op_eq (pe_op op_mod (pe_op op_fdiv (kp_call c_law_cell_at hr (by decide) rfl (pa_cons (pv 0) (pa_cons pe_int pa_nil))) pe_int) pe_int) pe_int (by first | exact nomark _ | rfl)) (pss_one (ps_set (i := 1) sc_law.nd rfl (by first | exact Or.inl rfl | exact Or.inr rfl) pe_int)) pss_nil)
      (pss_cons (ps_set (i := 2) sc_law.nd rfl (by first | exact Or.inl rfl | exact Or.inr rfl) (kp_call c_law_counts hr (by decide) rfl (pa_cons (pv 0) (pa_cons pe_int (pa_cons (pe_op op_add pe_int (pe_op op_mod (kp_call c_law_cell_at hr (by decide) rfl (pa_cons (pv 0) (pa_cons pe_int pa_nil))) pe_int)) (pa_cons (pv 1) pa_nil))))))
      (pss_cons (ps_set (i := 3) sc_law.nd rfl (by first | exact Or.inl rfl | exact Or.inr rfl) (pe_op op_mod (kp_call c_law_cell_at hr (by decide) rfl (pa_cons (pv 0) (pa_cons pe_int pa_nil))) pe_int))
      (pss_cons (ps_set (i := 4) sc_law.nd rfl (by first | exact Or.inl rfl | exact Or.inr rfl) (kp_call c_law_force hr (by decide) rfl (pa_cons (pv 2) (pa_cons (pv 3) pa_nil))))
      (pss_cons (ps_set (i := 5) sc_law.nd rfl (by first | exact Or.inl rfl | exact Or.inr rfl) (kp_make c_Wish_init hr (by decide) rfl (pa_cons (pv 2) (pa_cons (pv 3) pa_nil))))
      (pss_cons (ps_set (i := 6) sc_law.nd rfl (by first | exact Or.inl rfl | exact Or.inr rfl) (kp_call c_least_length hr (by decide) rfl (pa_cons (pv 5) pa_nil)))
      (pss_cons (ps_set (i := 7) sc_law.nd rfl (by first | exact Or.inl rfl | exact Or.inr rfl) (kp_call c_force hr (by decide) rfl (pa_cons (pv 5) pa_nil)))
      (pss_cons (ps_if (PW.pt (pw_or (pt_not (pt_val (kp_call c_law_whole hr (by decide) rfl (pa_cons (pv 6) pa_nil)))) (pw_or (pt_cmpR op_ne (pv 6) (pe_ix (ko_ixT (K := K)) (pv 4) (pe_un un_neg pe_int) (fun _ _ => rfl)) (by first | exact nomark _ | rfl)) (pw_or1 (pt_not (pt_val (kp_call c_law_alike hr (by decide) rfl (pa_cons (pv 7) (pa_cons (pv 4) pa_nil))))))))) (pss_one (ps_ret pe_bl)) pss_nil)
      (kp_cut (ps_if (pt_cmpR op_eq (pe_callB kc_len (by rfl) T.len (by decide +kernel) (pa_cons (pv 4) pa_nil)) pe_int (by first | exact nomark _ | rfl)) (pss_one (ps_expr (kp_bm (K := K) PySem.F.plainAttrs_list PySem.F.slot_list_append PySem.F.type_list_append mt_append (pe_ix (ko_ixT (K := K)) (pv 7) pe_int (fun _ _ => rfl)) (pa_cons pe_int pa_nil)))) pss_nil)
      (pss_one (ps_ret (kp_call c_law_alike hr (by decide) rfl (pa_cons (kp_call c_force hr (by decide) rfl (pa_cons (pv 5) pa_nil)) (pa_cons (pv 4) pa_nil))))))))))))))), ?_⟩
  refine (?_ : Up _ H0) H e0
  walk_at "r"
  refine up_cut (fun σ H' => H' = H0 ∧ ∃ top : Int, 0 ≤ top ∧ top ≤ 40 ∧ σ = [some (.ref a), some (.int top), none, none, none, none, none, none]) ?_ ?_
  · walk_at "r"
    refine up_call ⟨a, ns, _, rfl, hS, by decide, ?_⟩
    walk_at "r"
    refine up_I ⟨by decide, by decide⟩ ?_
    walk_at "r"
    refine up_I (by decide) ?_
    walk_at "r"
    refine up_ifP (fun _ => ?_) (fun _ => ?_)
    · walk_at "r"
      exact up_lo ⟨rfl, 4, by decide, by decide, rfl⟩
    · walk_at "r"
      exact up_lo ⟨rfl, 40, by decide, by decide, rfl⟩
  rintro σ H' ⟨rfl, top, ht, ht2, rfl⟩
  walk_at "r"
  refine up_call ⟨a, ns, _, rfl, hS, by decide, ?_⟩
  walk_at "r"
  refine up_I (by decide) ?_
  walk_at "r"
  have k1 := Int.emod_nonneg (cell ns 0) (show (6 : Int) ≠ 0 by decide)
  have k2 := Int.emod_lt_of_pos (cell ns 0) (show (0 : Int) < 6 by decide)
  generalize cell ns 0 % 6 = kinds at k1 k2
  refine up_call ⟨a, ns, 2, 1 + kinds, top, rfl, hS, by decide, by omega, by omega, ht, fun c hc => ?_⟩
  walk_at "r"
  have hcm := countsOf_mem (ns := ns) (first := 2) (kinds := 1 + kinds) (most := top) ht
  have hcl := countsOf_len ns 2 (1 + kinds) top
  generalize countsOf ns 2 (1 + kinds) top = xs at hcm hcl
  have sm1 : Same H' (upd H' c (.lst (xs.map V.int))) := same_new hc _
  have hc1 : upd H' c (.lst (xs.map V.int)) c = some (.lst (xs.map V.int)) := upd_same
  generalize upd H' c (.lst (xs.map V.int)) = H1 at sm1 hc1
  refine up_call ⟨a, ns, _, rfl, sq_up sm1 hS, by decide, ?_⟩
  walk_at "r"
  refine up_I (by decide) ?_
  walk_at "r"
  have a1 := Int.emod_nonneg (cell ns 1) (show (9 : Int) ≠ 0 by decide)
  have a2 := Int.emod_lt_of_pos (cell ns 1) (show (0 : Int) < 9 by decide)
  generalize cell ns 1 % 9 = apart at a1 a2
  have fi : Fine apart xs := ⟨by omega, by omega, fun x hx => by have := hcm x hx; omega, a1, by omega⟩
  refine up_call ⟨c, apart, xs, rfl, SqL.of hc1, fi, fun m gr H2 d sm2 hd0 fo2 => ?_⟩
  walk_at "r"
  refine use_Wish (SqL.of (sm2 _ _ hc1)) fi fun p H3 sm3 hp3 W3 => ?_
  walk_at "r"
  refine up_call ⟨p, apart, xs, rfl, W3, fi, fun m' gr' => ?_⟩
  have e := gr'.one gr
  subst e
  walk_at "r"
  refine up_call ⟨p, apart, xs, rfl, W3, fi, fun m2 gr2 H4 t sm4 ht0 fo4 => ?_⟩
  have e := gr2.one gr'
  subst e
  have sm34 := sm3.trans sm4
  have hal : Alike H4 t d ∧ (frN xs apart m2 ≤ xs.sum ∧ H4 d = some (.tup [.str (Str.ofString "things"), .int xs.sum]) ∨ xs.sum < frN xs apart m2 ∧ (∃ k, H3 k = none ∧ H4 k = some (.lst (vk (frK xs m2))) ∧ H4 t = some (.tup [.str (Str.ofString "frame"), .ref k, .int (frN xs apart m2)])) ∧ ∃ k, H4 d = some (.tup [.str (Str.ofString "frame"), .ref k, .int (frN xs apart m2)]) ∧ H3 k = some (.lst (vk (frK xs m2))) ∧ H3 d = some (.tup [.str (Str.ofString "frame"), .ref k, .int (frN xs apart m2)])) := by
    have h6 := fi.2.1
    have hfk : (frK xs m2).length ≤ 1000 := by
      unfold frK
      split
      · exact Nat.zero_le _
      · exact Nat.le_trans (ksOf_len _ _ _) (by omega)
    rcases fo4 with ⟨g4, h4⟩ | ⟨g4, k4, hk0, hk4, h4⟩
    · rcases fo2 with ⟨g2, h2⟩ | ⟨g2, _⟩
      · exact ⟨.inl ⟨_, h4, sm34 _ _ h2⟩, .inl ⟨g4, sm34 _ _ h2⟩⟩
      · omega
    · rcases fo2 with ⟨g2, h2⟩ | ⟨g2, k2, hk20, hk2, h2⟩
      · omega
      · exact ⟨.inr ⟨frK xs m2, _, k4, k2, hfk, h4, sm34 _ _ h2, hk4, sm34 _ _ hk2⟩, .inr ⟨g4, ⟨k4, hk0, hk4, h4⟩, k2, sm34 _ _ h2, sm3 _ _ hk2, sm3 _ _ h2⟩⟩
  obtain ⟨al, cas⟩ := hal
  have smq : Same H' H4 := (sm1.trans sm2).trans sm34
  walk_at "r"
  refine up_call ⟨_, rfl, ?_⟩
  walk_at "r"
  refine up_orF rfl ?_
  walk_at "r"
  rcases cas with ⟨g, hd4⟩ | ⟨g, ⟨k, hk0, hk4, ht4⟩, k2, hd4, hk2, hd3⟩
  · have emx : max xs.sum (frN xs apart m2) = xs.sum := by omega
    refine up_ixT (SqT.of hd4) (v := .int xs.sum) rfl ?_
    walk_at "r"
    refine up_orF (by rw [decide_eq_true emx]; rfl) ?_
    walk_at "r"
    refine up_call ⟨t, d, rfl, al, ?_⟩
    walk_at "r"
    refine up_ifF rfl ?_
    walk_at "r"
    refine up_cut (fun σ H => H = H4 ∧ ∃ v5 v7, σ = [some (.ref a), some (.int top), some (.ref c), some (.int apart), some (.ref d), some (.ref p), v5, v7]) ?_ ?_
    · walk_at "r"
      refine up_lenT (SqT.of hd4) ?_
      walk_at "r"
      refine up_ifF rfl ?_
      walk_at "r"
      exact up_lo ⟨rfl, _, _, rfl⟩
    rintro σ H5 ⟨rfl, v5, v7, rfl⟩
    walk_at "r"
    refine up_call ⟨p, apart, xs, rfl, W3.up sm4, fi, fun m3 gr3 H6 t6 sm6 ht6 fo6 => ?_⟩
    have e := gr3.one gr2
    subst e
    walk_at "r"
    refine up_call ⟨t6, d, rfl, ?_, q.mono (smq.trans sm6)⟩
    rcases fo6 with ⟨g6, h6⟩ | ⟨g6, _⟩
    · exact .inl ⟨_, h6, sm6 _ _ hd4⟩
    · omega
  · have emx : max xs.sum (frN xs apart m2) = frN xs apart m2 := by omega
    refine up_ixT (SqT.of hd4) (v := .int (frN xs apart m2)) rfl ?_
    walk_at "r"
    refine up_orF (by rw [decide_eq_true emx]; rfl) ?_
    walk_at "r"
    refine up_call ⟨t, d, rfl, al, ?_⟩
    walk_at "r"
    refine up_ifF rfl ?_
    walk_at "r"
    refine up_cut (fun σ H => Same H3 H ∧ ∃ v5 v7, σ = [some (.ref a), some (.int top), some (.ref c), some (.int apart), some (.ref d), some (.ref p), v5, v7]) ?_ ?_
    · walk_at "r"
      refine up_lenT (SqT.of hd4) ?_
      walk_at "r"
      refine up_ifT rfl ?_
      walk_at "r"
      refine up_ixT (SqT.of ht4) (at_of (j := 1) rfl rfl) ?_
      refine up_bmL (SqL.of hk4) ?_
      walk_at "r"
      refine up_append hk4 (by
        rw [vk_len]
        have h6 := fi.2.1
        unfold frK
        split
        · exact Nat.zero_lt_succ _
        · exact Nat.lt_of_le_of_lt (ksOf_len _ _ _) (by omega)) ?_
      walk_at "r"
      exact up_lo ⟨same_mut sm4 hk0, _, _, rfl⟩
    rintro σ H5 ⟨sm5, v5, v7, rfl⟩
    walk_at "r"
    refine up_call ⟨p, apart, xs, rfl, W3.up sm5, fi, fun m3 gr3 H6 t6 sm6 ht6 fo6 => ?_⟩
    have e := gr3.one gr2
    subst e
    have sm36 := sm5.trans sm6
    walk_at "r"
    refine up_call ⟨t6, d, rfl, ?_, q.mono (((sm1.trans sm2).trans sm3).trans sm36)⟩
    rcases fo6 with ⟨g6, h6⟩ | ⟨g6, k6, hk60, hk6, ht6'⟩
    · omega
    · refine .inr ⟨frK xs m3, _, k6, k2, ?_, ht6', sm36 _ _ hd3, hk6, sm36 _ _ hk2⟩
      have h6 := fi.2.1
      unfold frK
      split
      · exact Nat.zero_le _
      · exact Nat.le_trans (ksOf_len _ _ _) (by omega)

end
theorem all_mk {l : PySem.W.OpenLaw} {w : World} {K : PySem.W.Frag} {h : Heap} {mg : Str → Option Value} {fa : Addr} (X : K.In h) (G : h.Ns mainGlobals mg) (hfa : mg "law" = some (.ref fa))
    {R_NoWish : Addr}
    {C_Wish : Addr}
    {f0 : Addr} {od0 an0 : Option Addr} {sl0 : Array (Option Value)} {oc0 kV0 dc0 pm0 cd0 ct0 : Value}
    {f1 : Addr} {od1 an1 : Option Addr} {sl1 : Array (Option Value)} {oc1 kV1 dc1 pm1 cd1 ct1 : Value}
    {f2 : Addr} {od2 an2 : Option Addr} {sl2 : Array (Option Value)} {oc2 kV2 dc2 pm2 cd2 ct2 : Value}
    {f3 : Addr} {od3 an3 : Option Addr} {sl3 : Array (Option Value)} {oc3 kV3 dc3 pm3 cd3 ct3 : Value}
    {f4 : Addr} {od4 an4 : Option Addr} {sl4 : Array (Option Value)} {oc4 kV4 dc4 pm4 cd4 ct4 : Value}
    {f5 : Addr} {od5 an5 : Option Addr} {sl5 : Array (Option Value)} {oc5 kV5 dc5 pm5 cd5 ct5 : Value}
    {f6 : Addr} {od6 an6 : Option Addr} {sl6 : Array (Option Value)} {oc6 kV6 dc6 pm6 cd6 ct6 : Value}
    {f7 : Addr} {od7 an7 : Option Addr} {sl7 : Array (Option Value)} {oc7 kV7 dc7 pm7 cd7 ct7 : Value}
    {f8 : Addr} {od8 an8 : Option Addr} {sl8 : Array (Option Value)} {oc8 kV8 dc8 pm8 cd8 ct8 : Value}
    {f9 : Addr} {od9 an9 : Option Addr} {sl9 : Array (Option Value)} {oc9 kV9 dc9 pm9 cd9 ct9 : Value}
    {f10 : Addr} {od10 an10 : Option Addr} {sl10 : Array (Option Value)} {oc10 kV10 dc10 pm10 cd10 ct10 : Value}
    {f11 : Addr} {od11 an11 : Option Addr} {sl11 : Array (Option Value)} {oc11 kV11 dc11 pm11 cd11 ct11 : Value}
    {f12 : Addr} {od12 an12 : Option Addr} {sl12 : Array (Option Value)} {oc12 kV12 dc12 pm12 cd12 ct12 : Value}
    (a0 : PySem.W.nsIn K mainGlobals "_law_cell_at" = some (some (.ref f0)))
    (l0 : K.lookup f0 = some ⟨oc0, od0, .func (PySem.W.fnOf "_law_cell_at" "_law_cell_at" (defArgs s_law_cell_at) (defBody s_law_cell_at) (defScope s_law_cell_at) .none kV0 dc0 pm0 an0 cd0 ct0), sl0⟩) (c0 : PySem.W.codeIn K cd0 "_law_cell_at" = true) (k0 : PySem.W.keepIn K (.ref f0) = true)
    (a1 : PySem.W.nsIn K mainGlobals "_law_whole" = some (some (.ref f1)))
    (l1 : K.lookup f1 = some ⟨oc1, od1, .func (PySem.W.fnOf "_law_whole" "_law_whole" (defArgs s_law_whole) (defBody s_law_whole) (defScope s_law_whole) .none kV1 dc1 pm1 an1 cd1 ct1), sl1⟩) (c1 : PySem.W.codeIn K cd1 "_law_whole" = true) (k1 : PySem.W.keepIn K (.ref f1) = true)
    (a2 : PySem.W.nsIn K mainGlobals "_law_list" = some (some (.ref f2)))
    (l2 : K.lookup f2 = some ⟨oc2, od2, .func (PySem.W.fnOf "_law_list" "_law_list" (defArgs s_law_list) (defBody s_law_list) (defScope s_law_list) .none kV2 dc2 pm2 an2 cd2 ct2), sl2⟩) (c2 : PySem.W.codeIn K cd2 "_law_list" = true) (k2 : PySem.W.keepIn K (.ref f2) = true)
    (a3 : PySem.W.nsIn K mainGlobals "see_apart" = some (some (.ref f3)))
    (l3 : K.lookup f3 = some ⟨oc3, od3, .func (PySem.W.fnOf "see_apart" "see_apart" (defArgs s_see_apart) (defBody s_see_apart) (defScope s_see_apart) .none kV3 dc3 pm3 an3 cd3 ct3), sl3⟩) (c3 : PySem.W.codeIn K cd3 "see_apart" = true) (k3 : PySem.W.keepIn K (.ref f3) = true)
    (a4 : PySem.W.findIn K (.ref C_Wish) "__init__" = some (some (.ref f4))) (i4 : PySem.W.isFn K (.ref f4) = true)
    (l4 : K.lookup f4 = some ⟨oc4, od4, .func (PySem.W.fnOf "__init__" "Wish.__init__" (defArgs s_Wish_init) (defBody s_Wish_init) (defScope s_Wish_init) .none kV4 dc4 pm4 an4 cd4 ct4), sl4⟩) (c4 : PySem.W.codeIn K cd4 "Wish.__init__" = true) (k4 : PySem.W.keepIn K (.ref f4) = true)
    (a5 : PySem.W.findIn K (.ref C_Wish) "things" = some (some (.ref f5))) (i5 : PySem.W.isFn K (.ref f5) = true)
    (l5 : K.lookup f5 = some ⟨oc5, od5, .func (PySem.W.fnOf "things" "Wish.things" (defArgs s_Wish_things) (defBody s_Wish_things) (defScope s_Wish_things) .none kV5 dc5 pm5 an5 cd5 ct5), sl5⟩) (c5 : PySem.W.codeIn K cd5 "Wish.things" = true) (k5 : PySem.W.keepIn K (.ref f5) = true)
    (a6 : PySem.W.nsIn K mainGlobals "_law_counts" = some (some (.ref f6)))
    (l6 : K.lookup f6 = some ⟨oc6, od6, .func (PySem.W.fnOf "_law_counts" "_law_counts" (defArgs s_law_counts) (defBody s_law_counts) (defScope s_law_counts) .none kV6 dc6 pm6 an6 cd6 ct6), sl6⟩) (c6 : PySem.W.codeIn K cd6 "_law_counts" = true) (k6 : PySem.W.keepIn K (.ref f6) = true)
    (a7 : PySem.W.nsIn K mainGlobals "frame" = some (some (.ref f7)))
    (l7 : K.lookup f7 = some ⟨oc7, od7, .func (PySem.W.fnOf "frame" "frame" (defArgs s_frame) (defBody s_frame) (defScope s_frame) .none kV7 dc7 pm7 an7 cd7 ct7), sl7⟩) (c7 : PySem.W.codeIn K cd7 "frame" = true) (k7 : PySem.W.keepIn K (.ref f7) = true)
    (a8 : PySem.W.nsIn K mainGlobals "least_length" = some (some (.ref f8)))
    (l8 : K.lookup f8 = some ⟨oc8, od8, .func (PySem.W.fnOf "least_length" "least_length" (defArgs s_least_length) (defBody s_least_length) (defScope s_least_length) .none kV8 dc8 pm8 an8 cd8 ct8), sl8⟩) (c8 : PySem.W.codeIn K cd8 "least_length" = true) (k8 : PySem.W.keepIn K (.ref f8) = true)
    (a9 : PySem.W.nsIn K mainGlobals "force" = some (some (.ref f9)))
    (l9 : K.lookup f9 = some ⟨oc9, od9, .func (PySem.W.fnOf "force" "force" (defArgs s_force) (defBody s_force) (defScope s_force) .none kV9 dc9 pm9 an9 cd9 ct9), sl9⟩) (c9 : PySem.W.codeIn K cd9 "force" = true) (k9 : PySem.W.keepIn K (.ref f9) = true)
    (a10 : PySem.W.nsIn K mainGlobals "_law_force" = some (some (.ref f10)))
    (l10 : K.lookup f10 = some ⟨oc10, od10, .func (PySem.W.fnOf "_law_force" "_law_force" (defArgs s_law_force) (defBody s_law_force) (defScope s_law_force) .none kV10 dc10 pm10 an10 cd10 ct10), sl10⟩) (c10 : PySem.W.codeIn K cd10 "_law_force" = true) (k10 : PySem.W.keepIn K (.ref f10) = true)
    (a11 : PySem.W.nsIn K mainGlobals "_law_alike" = some (some (.ref f11)))
    (l11 : K.lookup f11 = some ⟨oc11, od11, .func (PySem.W.fnOf "_law_alike" "_law_alike" (defArgs s_law_alike) (defBody s_law_alike) (defScope s_law_alike) .none kV11 dc11 pm11 an11 cd11 ct11), sl11⟩) (c11 : PySem.W.codeIn K cd11 "_law_alike" = true) (k11 : PySem.W.keepIn K (.ref f11) = true)
    (a12 : PySem.W.nsIn K mainGlobals "law" = some (some (.ref f12)))
    (l12 : K.lookup f12 = some ⟨oc12, od12, .func (PySem.W.fnOf "law" "law" (defArgs s_law) (defBody s_law) (defScope s_law) .none kV12 dc12 pm12 an12 cd12 ct12), sl12⟩) (c12 : PySem.W.codeIn K cd12 "law" = true) (k12 : PySem.W.keepIn K (.ref f12) = true)
    (z_len : PySem.W.nsIn K mainGlobals "len" = some none)
    (z_range : PySem.W.nsIn K mainGlobals "range" = some none)
    (z_list : PySem.W.nsIn K mainGlobals "list" = some none)
    (z_tuple : PySem.W.nsIn K mainGlobals "tuple" = some none)
    (z_max : PySem.W.nsIn K mainGlobals "max" = some none)
    (z_min : PySem.W.nsIn K mainGlobals "min" = some none)
    (z_sum : PySem.W.nsIn K mainGlobals "sum" = some none)
    (z_sorted : PySem.W.nsIn K mainGlobals "sorted" = some none)
    (z_isinstance : PySem.W.nsIn K mainGlobals "isinstance" = some none)
    (z_int : PySem.W.nsIn K mainGlobals "int" = some none)
    (z_bool : PySem.W.nsIn K mainGlobals "bool" = some none)
    (z_str : PySem.W.nsIn K mainGlobals "str" = some none)
    (wg_Wish : PySem.W.nsIn K mainGlobals "Wish" = some (some (.ref C_Wish)))
    (wpg_Wish : PySem.W.plainGet K C_Wish Str.empty = true)
    (whd_Wish : PySem.W.hasDictIn K C_Wish = true)
    (wpo_Wish : PySem.W.plainOver K C_Wish = true)
    (wsa_Wish : PySem.W.findIn K (.ref C_Wish) "__setattr__" = some (some (.builtin "object.__setattr__")))
    (wmk_Wish : PySem.W.makesIn K C_Wish = true)
    (wkp_Wish : PySem.W.keepIn K (.ref C_Wish) = true)
    (wn_Wish_apart : PySem.W.findIn K (.ref C_Wish) "apart" = some none)
    (wn_Wish_told : PySem.W.findIn K (.ref C_Wish) "told" = some none)
    (eg_NoWish : PySem.W.nsIn K mainGlobals "NoWish" = some (some (.ref R_NoWish)))
    (ex_NoWish : PySem.W.excIn K R_NoWish [.type "ValueError", .type "Exception", .type "BaseException", .type "object"] "ValueError.__new__" = true)
    (ek_NoWish : PySem.W.keepIn K (.ref R_NoWish) = true)
    (eb_NoWish : PySem.W.subIn K (.ref R_NoWish) (.type "BaseException") = some true)
    (et_NoWish : PySem.W.typeIn K (.ref R_NoWish) = some (.type "type")) :
    ∃ fd : FuncData, (∀ (s : Shared) (v : Value), BindsTo s fd ⟨[v], []⟩ [("script", v)]) ∧ ∀ base : Heap, K.In base → base.Ns mainGlobals mg → FnOk l.prog w K mg base CX0 4 fa fd ["script"] (KSp (fLaw K)) := by
  have e := hfa.symm.trans (PySem.W.mg_of X G a12)
  cases e
  refine ⟨PySem.W.fnOf "law" "law" (defArgs s_law) (defBody s_law) (defScope s_law) .none kV12 dc12 pm12 an12 cd12 ct12, fun s v => .of_eq rfl, fun base _ _ => ?_⟩
  have W : Wf K mg C_Wish := ⟨⟨wpg_Wish, whd_Wish, wpo_Wish, wsa_Wish⟩, wn_Wish_apart, wn_Wish_told, PySem.W.mg_of X G wg_Wish⟩
  have e_NoWish : Er K mg "NoWish" R_NoWish := ⟨PySem.W.mg_of X G eg_NoWish, ex_NoWish, ek_NoWish, eb_NoWish, et_NoWish⟩
  have T : Bl mg := ⟨PySem.W.mg_none_of X G z_len, PySem.W.mg_none_of X G z_range, PySem.W.mg_none_of X G z_list, PySem.W.mg_none_of X G z_tuple, PySem.W.mg_none_of X G z_max, PySem.W.mg_none_of X G z_min, PySem.W.mg_none_of X G z_sum, PySem.W.mg_none_of X G z_sorted, PySem.W.mg_none_of X G z_isinstance, PySem.W.mg_none_of X G z_int, PySem.W.mg_none_of X G z_bool, PySem.W.mg_none_of X G z_str⟩
  have F0 := fun_mk (st := s_law_cell_at) l0 c0 k0
  have c_law_cell_at := Fn.mk' F0 (ok_law_cell_at (P := l.prog) (w := w) (base := base) F0 T ) (PySem.W.mg_of X G a0) (fun _ _ _ _ _ _ us hl => match us, hl with | [_, _], _ => rfl)
  have F1 := fun_mk (st := s_law_whole) l1 c1 k1
  have c_law_whole := Fn.mk' F1 (ok_law_whole (P := l.prog) (w := w) (base := base) F1 T ) (PySem.W.mg_of X G a1) (fun _ _ _ _ _ _ us hl => match us, hl with | [_], _ => rfl)
  have F2 := fun_mk (st := s_law_list) l2 c2 k2
  have c_law_list := Fn.mk' F2 (ok_law_list (P := l.prog) (w := w) (base := base) F2 T (c_law_whole := c_law_whole)) (PySem.W.mg_of X G a2) (fun _ _ _ _ _ _ us hl => match us, hl with | [_, _], _ => rfl)
  have F3 := fun_mk (st := s_see_apart) l3 c3 k3
  have c_see_apart := Fn.mk' F3 (ok_see_apart (P := l.prog) (w := w) (base := base) F3 T (e_NoWish := e_NoWish)) (PySem.W.mg_of X G a3) (fun _ _ _ _ _ _ us hl => match us, hl with | [_], _ => rfl)
  have F4 := fun_mk (st := s_Wish_init) l4 c4 k4
  have c_Wish_init := Ini.mk' F4 (ok_Wish_init (P := l.prog) (w := w) (base := base) F4 T (W := W) (e_NoWish := e_NoWish) (c_see_apart := c_see_apart)) ⟨wmk_Wish, a4, i4, wkp_Wish⟩ (PySem.W.mg_of X G wg_Wish) (fun _ _ _ _ _ _ us hl => match us, hl with | [_, _, _], _ => rfl)
  have F5 := fun_mk (st := s_Wish_things) l5 c5 k5
  have c_Wish_things := Mt.mk' F5 (ok_Wish_things (P := l.prog) (w := w) (base := base) F5 T (W := W)) ⟨a5, i5, k5⟩ (fun _ _ _ _ _ _ us hl => match us, hl with | [_], _ => rfl)
  have F6 := fun_mk (st := s_law_counts) l6 c6 k6
  have c_law_counts := Fn.mk' F6 (ok_law_counts (P := l.prog) (w := w) (base := base) F6 T (c_law_cell_at := c_law_cell_at)) (PySem.W.mg_of X G a6) (fun _ _ _ _ _ _ us hl => match us, hl with | [_, _, _, _], _ => rfl)
  have F7 := fun_mk (st := s_frame) l7 c7 k7
  have c_frame := Fn.mk' F7 (ok_frame (P := l.prog) (w := w) (base := base) F7 T (W := W)) (PySem.W.mg_of X G a7) (fun _ _ _ _ _ _ us hl => match us, hl with | [_], _ => rfl)
  have F8 := fun_mk (st := s_least_length) l8 c8 k8
  have c_least_length := Fn.mk' F8 (ok_least_length (P := l.prog) (w := w) (base := base) F8 T (W := W) (c_Wish_things := c_Wish_things) (c_frame := c_frame)) (PySem.W.mg_of X G a8) (fun _ _ _ _ _ _ us hl => match us, hl with | [_], _ => rfl)
  have F9 := fun_mk (st := s_force) l9 c9 k9
  have c_force := Fn.mk' F9 (ok_force (P := l.prog) (w := w) (base := base) F9 T (W := W) (c_Wish_things := c_Wish_things) (c_frame := c_frame)) (PySem.W.mg_of X G a9) (fun _ _ _ _ _ _ us hl => match us, hl with | [_], _ => rfl)
  have F10 := fun_mk (st := s_law_force) l10 c10 k10
  have c_law_force := Fn.mk' F10 (ok_law_force (P := l.prog) (w := w) (base := base) F10 T ) (PySem.W.mg_of X G a10) (fun _ _ _ _ _ _ us hl => match us, hl with | [_, _], _ => rfl)
  have F11 := fun_mk (st := s_law_alike) l11 c11 k11
  have c_law_alike := Fn.mk' F11 (ok_law_alike (P := l.prog) (w := w) (base := base) F11 T (c_law_whole := c_law_whole) (c_law_list := c_law_list)) (PySem.W.mg_of X G a11) (fun _ _ _ _ _ _ us hl => match us, hl with | [_, _], _ => rfl)
  have F12 := fun_mk (st := s_law) l12 c12 k12
  exact ok_law (P := l.prog) (w := w) (base := base) F12 T (W := W) (c_law_cell_at := c_law_cell_at) (c_law_whole := c_law_whole) (c_law_counts := c_law_counts) (c_law_force := c_law_force) (c_law_alike := c_law_alike) (c_Wish_init := c_Wish_init) (c_least_length := c_least_length) (c_force := c_force)

theorem walk {l : PySem.W.OpenLaw} {q : Program} {loose : List Str} {XP : (Str → Option Value) → Heap → Prop} {YP : World → Heap → Prop} {d : DefRec} {K : Params → PySem.W.Frag} (hn : l.most = some 63) (hdf : d.params.defaults = [])
    (hY : ∀ (w : World) (h : Heap), YP w h → (K w.params).In h)
    (F : ∀ (w : World) (mg : Str → Option Value) (fa : Addr) (h : Heap), (K w.params).In h → h.Ns mainGlobals mg → mg d.name = some (.ref fa) →
      ∃ fd : FuncData, (∀ (s : Shared) (u : Value), BindsTo s fd ⟨[u], []⟩ [("script", u)]) ∧ ∀ base : Heap, (K w.params).In base → base.Ns mainGlobals mg → FnOk l.prog w (K w.params) mg base CX0 4 fa fd ["script"] (KSp (fLaw (K w.params)))) :
    PySem.W.WalkO q loose XP YP l.row.toRowW d [] (fun f vs => PySem.call f vs) :=
  L2.walk_of (n := 63) (k := 4) (x := "script") (CX := fun _ => CX0) (sp := fun w => KSp (fLaw (K w.params))) hn (by decide) hdf ⟨rfl, by decide, by decide⟩ hY F (fun _ _ a ns hl _ hS => ⟨_, Same.refl _, a, ns, rfl, hS, hl, fun _ _ => rfl⟩) fun _ _ _ _ _ z => z
end Kp
open PySem PySem.W PyProof.Rows
set_option maxRecDepth 100000 in
set_option maxHeartbeats 0 in
theorem PySem.Challenge.cw_keepaway_k04_the_least_length_holds : PySem.Challenge.rw_keepaway_k04_the_least_length.Holds := by
  w_on; o_law; k_head; (case hw => w_witness2)
  k_fill
  refine Kp.walk (l := PySem.Challenge.rw_keepaway_k04_the_least_length) rfl rfl (fun w h Y => PySem.W.kIn_of Y) ?F
  case F =>
    intro w mg fa h KX G hmg
    refine' Kp.all_mk KX G hmg ?a0 ?l0 ?c0 ?k0 ?a1 ?l1 ?c1 ?k1 ?a2 ?l2 ?c2 ?k2 ?a3 ?l3 ?c3 ?k3 ?a4 ?i4 ?l4 ?c4 ?k4 ?a5 ?i5 ?l5 ?c5 ?k5 ?a6 ?l6 ?c6 ?k6 ?a7 ?l7 ?c7 ?k7 ?a8 ?l8 ?c8 ?k8 ?a9 ?l9 ?c9 ?k9 ?a10 ?l10 ?c10 ?k10 ?a11 ?l11 ?c11 ?k11 ?a12 ?l12 ?c12 ?k12 ?z_len ?z_range ?z_list ?z_tuple ?z_max ?z_min ?z_sum ?z_sorted ?z_isinstance ?z_int ?z_bool ?z_str ?wg_Wish ?wpg_Wish ?whd_Wish ?wpo_Wish ?wsa_Wish ?wmk_Wish ?wkp_Wish ?wn_Wish_apart ?wn_Wish_told ?eg_NoWish ?ex_NoWish ?ek_NoWish ?eb_NoWish ?et_NoWish
    (case wg_Wish => k_is)
    (case eg_NoWish => k_is)
    (case a0 => k_is)
    (case l0 => k_is)
    (case c0 => k_is)
    (case k0 => k_is)
    (case a1 => k_is)
    (case l1 => k_is)
    (case c1 => k_is)
    (case k1 => k_is)
    (case a2 => k_is)
    (case l2 => k_is)
    (case c2 => k_is)
    (case k2 => k_is)
    (case a3 => k_is)
    (case l3 => k_is)
    (case c3 => k_is)
    (case k3 => k_is)
    (case a4 => k_is)
    (case i4 => k_is)
    (case l4 => k_is)
    (case c4 => k_is)
    (case k4 => k_is)
    (case a5 => k_is)
    (case i5 => k_is)
    (case l5 => k_is)
    (case c5 => k_is)
    (case k5 => k_is)
    (case a6 => k_is)
    (case l6 => k_is)
    (case c6 => k_is)
    (case k6 => k_is)
    (case a7 => k_is)
    (case l7 => k_is)
    (case c7 => k_is)
    (case k7 => k_is)
    (case a8 => k_is)
    (case l8 => k_is)
    (case c8 => k_is)
    (case k8 => k_is)
    (case a9 => k_is)
    (case l9 => k_is)
    (case c9 => k_is)
    (case k9 => k_is)
    (case a10 => k_is)
    (case l10 => k_is)
    (case c10 => k_is)
    (case k10 => k_is)
    (case a11 => k_is)
    (case l11 => k_is)
    (case c11 => k_is)
    (case k11 => k_is)
    (case a12 => k_is)
    (case l12 => k_is)
    (case c12 => k_is)
    (case k12 => k_is)
    (case z_len => k_is)
    (case z_range => k_is)
    (case z_list => k_is)
    (case z_tuple => k_is)
    (case z_max => k_is)
    (case z_min => k_is)
    (case z_sum => k_is)
    (case z_sorted => k_is)
    (case z_isinstance => k_is)
    (case z_int => k_is)
    (case z_bool => k_is)
    (case z_str => k_is)
    (case wpg_Wish => k_is)
    (case whd_Wish => k_is)
    (case wpo_Wish => k_is)
    (case wsa_Wish => k_is)
    (case wmk_Wish => k_is)
    (case wkp_Wish => k_is)
    (case wn_Wish_apart => k_is)
    (case wn_Wish_told => k_is)
    (case ex_NoWish => k_exc)
    (case ek_NoWish => k_is)
    (case eb_NoWish => k_is)
    (case et_NoWish => k_is)
#print axioms PySem.Challenge.cw_keepaway_k04_the_least_length_holds
