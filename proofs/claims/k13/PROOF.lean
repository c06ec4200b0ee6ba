import PyProof.Rows.All
import Wide.All
import OpenK.AllK
import Wide.FinOn
import HandS.ForMost
import HandS.Exc
import HandS.ExcOwn
import HandS.WordsExc
import HandS.IsInst
import HandS.Steps
import HandS.Deep
import HandS.TupAny
import HandS.Replace
import PySem.Challenge.RW_keepaway_k13_written
set_option Elab.async false
set_option linter.all false
set_option maxRecDepth 100000
set_option maxHeartbeats 4000000
namespace Kp
open PySem L2

def Up (P : Hp → Prop) (H : Hp) : Prop := ∀ H1, Same H H1 → P H1
theorem Up.here {P : Hp → Prop} {H : Hp} (h : Up P H) : P H := h H (Same.refl H)
theorem Up.mono {P : Hp → Prop} {H H' : Hp} (h : Up P H) (e : Same H H') : Up P H' := fun H1 e1 => h H1 (e.trans e1)
theorem Up.imp {P Q : Hp → Prop} {H : Hp} (h : Up P H) (f : ∀ H', P H' → Q H') : Up Q H := fun H1 e => f H1 (h H1 e)
theorem Up.of {P : Hp → Prop} {H : Hp} (h : ∀ H', P H') : Up P H := fun H1 _ => h H1

/-! ### heaps -/
theorem same_new {H : Hp} {p : Addr} (h : H p = none) (o : HO) : Same H (upd H p o) := fun b u q => by
  rw [upd_ne (ne_of_none q h)]
  exact q
theorem same_newer {H H' : Hp} {p : Addr} {o : HO} (e : Same H H') (h : H' p = none) : Same H (upd H' p o) := e.trans (same_new h o)
/-- an object that H does not know may change -/
theorem same_mut {H H' : Hp} {p : Addr} {o : HO} (e : Same H H') (h : H p = none) : Same H (upd H' p o) := fun a u ha => by
  rw [upd_ne (ne_of_none ha h)]
  exact e a u ha
theorem same_upd {H H1 : Hp} {p : Addr} {o : HO} (e : Same H H1) : Same (upd H p o) (upd H1 p o) := fun a u ha => by
  by_cases h : a = p
  · rw [h, upd_same] at ha
    rw [h, upd_same]
    exact ha
  · rw [upd_ne h] at ha
    rw [upd_ne h]
    exact e a u ha
theorem same_free {H H1 : Hp} {p : Addr} (e : Same H H1) (h : H1 p = none) : H p = none := e.free h
theorem rd_up {H H' : Hp} {a : Addr} {u : HO} (e : Same H H') (h : Rd H a u) : Rd H' a u := by
  rcases h with h | ⟨o, h⟩
  · exact .inl (e a _ h)
  · exact .inr ⟨o, e a _ h⟩
theorem sq_up {K : PySem.W.Frag} {H H' : Hp} {a : Addr} {xs : List V} (e : Same H H') (h : SqL K H a xs) : SqL K H' a xs := by
  rcases h with h | h
  · exact .inl (rd_up e h)
  · exact .inr h
theorem st_up {K : PySem.W.Frag} {H H' : Hp} {a : Addr} {xs : List V} (e : Same H H') (h : SqT K H a xs) : SqT K H' a xs := by
  rcases h with h | h
  · exact .inl (rd_up e h)
  · exact .inr h
theorem up_fresh {H : Hp} {a p : Addr} {o u : HO} (h : H p = none) (k : H a = some u) : upd H p o a = some u := same_new h o a u k
theorem up_other {H : Hp} {a p : Addr} {o : HO} {u : Option HO} (h : a ≠ p) (k : H a = u) : upd H p o a = u := by
  rw [upd_ne h]
  exact k
theorem none_back {H : Hp} {a p : Addr} {o : HO} (h : upd H p o a = none) : H a = none ∧ a ≠ p := by
  by_cases e : a = p
  · rw [e, upd_same] at h
    cases h
  · rw [upd_ne e] at h
    exact ⟨h, e⟩
theorem sz {n : Nat} (h : n ≤ 100000) : n ≤ sizeLine := Nat.le_trans h (by decide)
theorem szl {n : Nat} (h : n < 100000) : n < sizeLine := Nat.lt_of_lt_of_le h (by decide)

section
variable {K : PySem.W.Frag} {H : Hp} {σ : St} {Q : VK} {v x y : V} {ta tb te tc : TE} {t u : TT} {b : Bool}

/-! ### values -/
theorem up_var {i : Nat} (h : σ[i]? = some (some v)) (k : Up (Q v) H) : Up (fun H1 => tVar i σ H1 Q) H := fun H1 e => ⟨v, h, k H1 e⟩
theorem up_c (k : Up (Q v) H) : Up (fun H1 => tC v σ H1 Q) H := k
theorem up_op {r : R2} (k : Up (fun H1 => ta σ H1 fun x H2 => tb σ H2 fun y H3 => r x y H3 Q) H) : Up (fun H1 => tOp r ta tb σ H1 Q) H := k
theorem up_un {r : V → Hp → VK → Prop} (k : Up (fun H1 => ta σ H1 fun x H2 => r x H2 Q) H) : Up (fun H1 => tUn r ta σ H1 Q) H := k
theorem up_I0 {g : Int → Int → V} {i j : Int} (k : Up (Q (g i j)) H) : Up (fun H1 => rI0 g (.int i) (.int j) H1 Q) H := fun H1 e => ⟨i, j, rfl, rfl, k H1 e⟩
theorem up_I {C : Int → Int → Prop} {g : Int → Int → V} {i j : Int} (c : C i j) (k : Up (Q (g i j)) H) : Up (fun H1 => rI C g (.int i) (.int j) H1 Q) H := fun H1 e => ⟨i, j, rfl, rfl, c, k H1 e⟩
theorem up_U {g : Int → V} {i : Int} (k : Up (Q (g i)) H) : Up (fun H1 => rU g (.int i) H1 Q) H := fun H1 e => ⟨i, rfl, k H1 e⟩
theorem up_eqI {i j : Int} (k : Up (Q (.bl (decide (i = j)))) H) : Up (fun H1 => rEq (.int i) (.int j) H1 Q) H := fun H1 e => ⟨rfl, by
  have q : decide (V.int i = V.int j) = decide (i = j) := decide_eq_decide.mpr ⟨fun h => V.int.inj h, fun h => by rw [h]⟩
  rw [q]
  exact k H1 e⟩
theorem up_neI {i j : Int} (k : Up (Q (.bl (!decide (i = j)))) H) : Up (fun H1 => rNe (.int i) (.int j) H1 Q) H := fun H1 e => ⟨rfl, by
  have q : decide (V.int i = V.int j) = decide (i = j) := decide_eq_decide.mpr ⟨fun h => V.int.inj h, fun h => by rw [h]⟩
  rw [q]
  exact k H1 e⟩
theorem up_eqV (h : scal x y = true) (k : Up (Q (.bl (decide (x = y)))) H) : Up (fun H1 => rEq x y H1 Q) H := fun H1 e => ⟨h, k H1 e⟩
theorem up_neV (h : scal x y = true) (k : Up (Q (.bl (!decide (x = y)))) H) : Up (fun H1 => rNe x y H1 Q) H := fun H1 e => ⟨h, k H1 e⟩
theorem up_isN (k : Up (Q (.bl (decide (x = .non)))) H) : Up (fun H1 => rIsN x .non H1 Q) H := fun H1 e => ⟨rfl, k H1 e⟩
theorem up_notN (k : Up (Q (.bl (!decide (x = .non)))) H) : Up (fun H1 => rNotN x .non H1 Q) H := fun H1 e => ⟨rfl, k H1 e⟩

/-! ### tests -/
def asB (Q : Bool → Hp → Prop) : VK := fun x H' => ∃ k, x = .bl k ∧ Q k H'
variable {QB : Bool → Hp → Prop}
theorem up_test (k : Up (fun H1 => te σ H1 (asB QB)) H) : Up (fun H1 => tTest te σ H1 QB) H := k
theorem up_tB (k : Up (fun H1 => te σ H1 (asB QB)) H) : Up (fun H1 => tB te σ H1 QB) H := k
theorem up_asB (k : Up (QB b) H) : Up (asB QB (.bl b)) H := fun H1 e => ⟨b, rfl, k H1 e⟩
def andK (u : TT) (σ : St) (Q : Bool → Hp → Prop) : Bool → Hp → Prop := fun c H1 => if c = true then u σ H1 Q else Q false H1
def orK (u : TT) (σ : St) (Q : Bool → Hp → Prop) : Bool → Hp → Prop := fun c H1 => if c = true then Q true H1 else u σ H1 Q
def notK (Q : Bool → Hp → Prop) : Bool → Hp → Prop := fun c H1 => Q (!c) H1
theorem up_and (k : Up (fun H1 => t σ H1 (andK u σ QB)) H) : Up (fun H1 => tAnd t u σ H1 QB) H := k
theorem up_or (k : Up (fun H1 => t σ H1 (orK u σ QB)) H) : Up (fun H1 => tOr t u σ H1 QB) H := k
theorem up_not (k : Up (fun H1 => t σ H1 (notK QB)) H) : Up (fun H1 => tNot t σ H1 QB) H := k
theorem up_notK (k : Up (QB (!b)) H) : Up (notK QB b) H := k
theorem up_andK (k1 : b = true → Up (fun H1 => u σ H1 QB) H) (k0 : b = false → Up (QB false) H) : Up (andK u σ QB b) H := by
  cases b with
  | true => exact k1 rfl
  | false => exact k0 rfl
theorem up_orK (k1 : b = true → Up (QB true) H) (k0 : b = false → Up (fun H1 => u σ H1 QB) H) : Up (orK u σ QB b) H := by
  cases b with
  | true => exact k1 rfl
  | false => exact k0 rfl
theorem up_andT (h : b = true) (k : Up (fun H1 => u σ H1 QB) H) : Up (andK u σ QB b) H := by rw [h]; exact k
theorem up_andF (h : b = false) (k : Up (QB false) H) : Up (andK u σ QB b) H := by rw [h]; exact k
theorem up_orT (h : b = true) (k : Up (QB true) H) : Up (orK u σ QB b) H := by rw [h]; exact k
theorem up_orF (h : b = false) (k : Up (fun H1 => u σ H1 QB) H) : Up (orK u σ QB b) H := by rw [h]; exact k
/-- .. as values -/
def andV (tb : TE) (σ : St) (Q : VK) : VK := fun x H1 => ∃ c, x = .bl c ∧ if c = true then tb σ H1 Q else Q (.bl false) H1
def orV (tb : TE) (σ : St) (Q : VK) : VK := fun x H1 => ∃ c, x = .bl c ∧ if c = true then Q (.bl true) H1 else tb σ H1 Q
def notV (Q : VK) : VK := fun x H1 => ∃ c, x = .bl c ∧ Q (.bl (!c)) H1
theorem up_andVt (k : Up (fun H1 => ta σ H1 (andV tb σ Q)) H) : Up (fun H1 => tAndV ta tb σ H1 Q) H := k
theorem up_orVt (k : Up (fun H1 => ta σ H1 (orV tb σ Q)) H) : Up (fun H1 => tOrV ta tb σ H1 Q) H := k
theorem up_notVt (k : Up (fun H1 => ta σ H1 (notV Q)) H) : Up (fun H1 => tNotV ta σ H1 Q) H := k
theorem up_notV (k : Up (Q (.bl (!b))) H) : Up (notV Q (.bl b)) H := fun H1 e => ⟨b, rfl, k H1 e⟩
theorem up_andVK (k1 : b = true → Up (fun H1 => tb σ H1 Q) H) (k0 : b = false → Up (Q (.bl false)) H) : Up (andV tb σ Q (.bl b)) H := fun H1 e => ⟨b, rfl, by
  cases b with
  | true => exact k1 rfl H1 e
  | false => exact k0 rfl H1 e⟩
theorem up_orVK (k1 : b = true → Up (Q (.bl true)) H) (k0 : b = false → Up (fun H1 => tb σ H1 Q) H) : Up (orV tb σ Q (.bl b)) H := fun H1 e => ⟨b, rfl, by
  cases b with
  | true => exact k1 rfl H1 e
  | false => exact k0 rfl H1 e⟩
def ifV (ta tb : TE) (σ : St) (Q : VK) : Bool → Hp → Prop := fun c H1 => if c = true then ta σ H1 Q else tb σ H1 Q
theorem up_ifE (k : Up (fun H1 => t σ H1 (ifV ta tb σ Q)) H) : Up (fun H1 => tIf t ta tb σ H1 Q) H := k
theorem up_ifV (k1 : b = true → Up (fun H1 => ta σ H1 Q) H) (k0 : b = false → Up (fun H1 => tb σ H1 Q) H) : Up (ifV ta tb σ Q b) H := by
  cases b with
  | true => exact k1 rfl
  | false => exact k0 rfl
/-- a test, a value, told once -/
def EvT (t : TT) (σ : St) (H : Hp) (b : Bool) : Prop := ∀ Q : Bool → Hp → Prop, Up (Q b) H → Up (fun H1 => t σ H1 Q) H
def EvE (t : TE) (σ : St) (H : Hp) (v : V) : Prop := ∀ Q : VK, Up (Q v) H → Up (fun H1 => t σ H1 Q) H
theorem up_evT (h : EvT t σ H b) (k : Up (QB b) H) : Up (fun H1 => t σ H1 QB) H := h QB k
theorem up_evE (h : EvE te σ H v) (k : Up (Q v) H) : Up (fun H1 => te σ H1 Q) H := h Q k
/-- truth of a value -/
def truK (K : PySem.W.Frag) (QB : Bool → Hp → Prop) : VK := fun x H' => ∃ k, TruV K x H' k ∧ QB k H'
theorem up_tru (k : Up (fun H1 => te σ H1 (truK K QB)) H) : Up (fun H1 => tTru K te σ H1 QB) H := k
theorem up_truL {p : Addr} {xs : List V} (h : SqL K H p xs) (k : Up (QB (!xs.isEmpty)) H) : Up (truK K QB (.ref p)) H := fun H1 e => ⟨_, .inl ⟨xs, sq_up e h, rfl⟩, k H1 e⟩
theorem up_truI {i : Int} (k : Up (QB (i != 0)) H) : Up (truK K QB (.int i)) H := fun H1 e => ⟨_, rfl, k H1 e⟩

/-! ### arguments -/
variable {tr : TA} {QA : List V → Hp → Prop} {xs ys : List V}
def consB (x : V) (Q : List V → Hp → Prop) : List V → Hp → Prop := fun xs H => Q (x :: xs) H
def consA (tr : TA) (σ : St) (Q : List V → Hp → Prop) : VK := fun x H => tr σ H (consB x Q)
theorem up_cons (k : Up (fun H1 => te σ H1 (consA tr σ QA)) H) : Up (fun H1 => tCons te tr σ H1 QA) H := k
theorem up_consA (k : Up (fun H1 => tr σ H1 (consB x QA)) H) : Up (consA tr σ QA x) H := k
theorem up_consB (k : Up (QA (x :: xs)) H) : Up (consB x QA xs) H := k
theorem up_nil (k : Up (QA []) H) : Up (fun H1 => tNil σ H1 QA) H := k
def tupK (Q : VK) : List V → Hp → Prop := fun xs H1 => xs.length ≤ sizeLine ∧ ∀ p, H1 p = none → Q (.ref p) (upd H1 p (.tup xs))
def lstK (Q : VK) : List V → Hp → Prop := fun xs H1 => xs.length ≤ sizeLine ∧ ∀ p, H1 p = none → Q (.ref p) (upd H1 p (.lst xs))
theorem up_tup (k : Up (fun H1 => tr σ H1 (tupK Q)) H) : Up (fun H1 => tTup tr σ H1 Q) H := k
theorem up_lst (k : Up (fun H1 => tr σ H1 (lstK Q)) H) : Up (fun H1 => tLst tr σ H1 Q) H := k
theorem up_new {o : HO} (k : ∀ p, H p = none → Up (Q (.ref p)) (upd H p o)) : Up (fun H1 => ∀ p, H1 p = none → Q (.ref p) (upd H1 p o)) H := fun H1 e p hp => k p (e.free hp) _ (same_upd e)
theorem up_tupK (h : xs.length ≤ 100000) (k : ∀ p, H p = none → Up (Q (.ref p)) (upd H p (.tup xs))) : Up (tupK Q xs) H := fun H1 e => ⟨sz h, fun p hp => k p (e.free hp) _ (same_upd e)⟩
theorem up_lstK (h : xs.length ≤ 100000) (k : ∀ p, H p = none → Up (Q (.ref p)) (upd H p (.lst xs))) : Up (lstK Q xs) H := fun H1 e => ⟨sz h, fun p hp => k p (e.free hp) _ (same_upd e)⟩

/-! ### calls -/
/-- a promise told from below -/
def KSp (F : List V → Hp → VK → Prop) : Sp := fun vs H Q _ => ∃ H0, Same H0 H ∧ F vs H0 Q
/-- .. of a def that may raise -/
def KSx (F : List V → Hp → VK → XK → Prop) : Sp := fun vs H Q E => ∃ H0, Same H0 H ∧ F vs H0 Q E
def callK (sp : Sp) (dvs : List V) (E : XK) (Q : VK) : List V → Hp → Prop := fun vs H => sp (vs ++ dvs) H Q E
theorem up_callT {sp : Sp} {dvs : List V} {E : XK} (k : Up (fun H1 => tr σ H1 (callK sp dvs E Q)) H) : Up (fun H1 => tCall sp dvs E tr σ H1 Q) H := k
theorem up_call {F : List V → Hp → VK → Prop} {E : XK} {vs : List V} (h : F vs H Q) : Up (callK (KSp F) [] E Q vs) H := fun H1 e => by
  show KSp F (vs ++ []) H1 Q E
  rw [List.append_nil]
  exact ⟨H, e, h⟩
theorem up_callX {F : List V → Hp → VK → XK → Prop} {E : XK} {vs : List V} (h : F vs H Q E) : Up (callK (KSx F) [] E Q vs) H := fun H1 e => by
  show KSx F (vs ++ []) H1 Q E
  rw [List.append_nil]
  exact ⟨H, e, h⟩
def blK (r : List V → Hp → VK → Prop) (Q : VK) : List V → Hp → Prop := fun vs H => r vs H Q
theorem up_CB {r : List V → Hp → VK → Prop} (k : Up (fun H1 => tr σ H1 (blK r Q)) H) : Up (fun H1 => tCB r tr σ H1 Q) H := k
/-- o.m(..) of a built-in type -/
def bmB (r : V → List V → Hp → VK → Prop) (x : V) (Q : VK) : List V → Hp → Prop := fun vs H => r x vs H Q
def bmK (K : PySem.W.Frag) (T : String) (r : V → List V → Hp → VK → Prop) (tr : TA) (σ : St) (Q : VK) : VK := fun x H1 => tyV K T x H1 ∧ tr σ H1 (bmB r x Q)
theorem up_BM {T : String} {r : V → List V → Hp → VK → Prop} (k : Up (fun H1 => te σ H1 (bmK K T r tr σ Q)) H) : Up (fun H1 => tBM K T r te tr σ H1 Q) H := k
def bm0K (K : PySem.W.Frag) (T : String) (r : V → List V → Hp → VK → Prop) (Q : VK) : VK := fun x H1 => tyV K T x H1 ∧ r x [] H1 Q
theorem up_BM0 {T : String} {r : V → List V → Hp → VK → Prop} (k : Up (fun H1 => te σ H1 (bm0K K T r Q)) H) : Up (fun H1 => tBM0 K T r te σ H1 Q) H := k
theorem up_bmL {p : Addr} {r : V → List V → Hp → VK → Prop} (h : SqL K H p xs) (k : Up (fun H1 => tr σ H1 (bmB r (.ref p) Q)) H) : Up (bmK K "list" r tr σ Q (.ref p)) H := fun H1 e => ⟨.inl ⟨rfl, xs, sq_up e h⟩, k H1 e⟩
theorem up_bm0L {p : Addr} {r : V → List V → Hp → VK → Prop} (h : SqL K H p xs) (k : Up (fun H1 => r (.ref p) [] H1 Q) H) : Up (bm0K K "list" r Q (.ref p)) H := fun H1 e => ⟨.inl ⟨rfl, xs, sq_up e h⟩, k H1 e⟩
theorem up_bmS {z : Str} {r : V → List V → Hp → VK → Prop} (k : Up (fun H1 => tr σ H1 (bmB r (.str z) Q)) H) : Up (bmK K "str" r tr σ Q (.str z)) H := fun H1 e => ⟨rfl, k H1 e⟩

/-! ### lists -/
theorem up_append {l : Addr} (h : H l = some (.lst xs)) (hz : xs.length < 100000) (k : Up (Q .non) (upd H l (.lst (xs ++ [y])))) : Up (bmB rAppend (.ref l) Q [y]) H := fun H1 e => ⟨l, xs, y, rfl, rfl, e l _ h, szl hz, k _ (same_upd e)⟩
theorem up_extend {l c : Addr} (h : H l = some (.lst xs)) (hc : H c = some (.lst ys)) (hz : xs.length + ys.length ≤ 100000) (k : Up (Q .non) (upd H l (.lst (xs ++ ys)))) : Up (bmB rExtend (.ref l) Q [.ref c]) H :=
  fun H1 e => ⟨l, c, xs, ys, rfl, rfl, e l _ h, e c _ hc, sz hz, k _ (same_upd e)⟩
theorem up_pop {l : Addr} (h : H l = some (.lst xs)) (hy : xs[xs.length - 1]? = some y) (k : Up (Q y) (upd H l (.lst xs.dropLast))) : Up (fun H1 => rPop (.ref l) [] H1 Q) H := fun H1 e => ⟨l, xs, y, rfl, rfl, e l _ h, hy, k _ (same_upd e)⟩
theorem up_clear {l : Addr} (h : H l = some (.lst xs)) (k : Up (Q .non) (upd H l (.lst []))) : Up (fun H1 => rClear (.ref l) [] H1 Q) H := fun H1 e => ⟨l, xs, rfl, rfl, e l _ h, k _ (same_upd e)⟩
theorem up_ixL {p : Addr} {i : Int} (h : SqL K H p xs) (hv : atI xs i = some v) (k : Up (Q v) H) : Up (fun H1 => rIxL K (.ref p) (.int i) H1 Q) H := fun H1 e => ⟨p, xs, i, v, rfl, rfl, sq_up e h, hv, k H1 e⟩
theorem up_ixT {p : Addr} {i : Int} (h : SqT K H p xs) (hv : atI xs i = some v) (k : Up (Q v) H) : Up (fun H1 => rIxT K (.ref p) (.int i) H1 Q) H := fun H1 e => ⟨p, xs, i, v, rfl, rfl, st_up e h, hv, k H1 e⟩
theorem up_ixS {z : Str} {i : Int} {c : Nat} (hz : z.length ≤ 100000) (hv : atI z.cps.toList i = some c) (k : Up (Q (.str ⟨#[c]⟩)) H) : Up (fun H1 => rIxS (.str z) (.int i) H1 Q) H := fun H1 e => ⟨z, i, c, rfl, rfl, sz hz, hv, k H1 e⟩
theorem up_cat {l c : Addr} (h : H l = some (.lst xs)) (hc : H c = some (.lst ys)) (hz : xs.length + ys.length ≤ 100000) (k : ∀ p, H p = none → Up (Q (.ref p)) (upd H p (.lst (xs ++ ys)))) : Up (fun H1 => rCat (.ref l) (.ref c) H1 Q) H :=
  fun H1 e => ⟨l, c, xs, ys, rfl, rfl, e l _ h, e c _ hc, sz hz, fun p hp => k p (e.free hp) _ (same_upd e)⟩
theorem up_rep {l : Addr} {n : Int} (h : H l = some (.lst xs)) (h1 : -100000 ≤ n) (h2 : n ≤ 100000) (hz : xs.length ≤ 100) (k : ∀ p, H p = none → Up (Q (.ref p)) (upd H p (.lst (List.replicate n.toNat xs).flatten))) : Up (fun H1 => rRep (.ref l) (.int n) H1 Q) H :=
  fun H1 e => ⟨l, n, xs, rfl, rfl, e l _ h, by omega, by omega, by
    have hs : sizeLine = 16777216 := sizeLine_eq
    have : xs.length * n.toNat ≤ 100 * 100000 := Nat.mul_le_mul hz (by omega)
    omega, fun p hp => k p (e.free hp) _ (same_upd e)⟩
theorem up_in {neg : Bool} {p : Addr} (h : SqL K H p xs) (hx : flatV x = true) (ha : xs.all flatV = true) (k : Up (Q (.bl (if neg then !inV x xs else inV x xs))) H) : Up (fun H1 => rIn K neg x (.ref p) H1 Q) H := fun H1 e => ⟨p, xs, rfl, .inl (sq_up e h), hx, ha, k H1 e⟩
theorem up_inT {neg : Bool} {p : Addr} (h : SqT K H p xs) (hx : flatV x = true) (ha : xs.all flatV = true) (k : Up (Q (.bl (if neg then !inV x xs else inV x xs))) H) : Up (fun H1 => rIn K neg x (.ref p) H1 Q) H := fun H1 e => ⟨p, xs, rfl, .inr (st_up e h), hx, ha, k H1 e⟩
/-- slices -/
def oK (th : TO) (σ : St) (r : V → Option Int → Option Int → Hp → VK → Prop) (x : V) (Q : VK) : Option Int → Hp → Prop := fun l H2 => th σ H2 fun u H3 => r x l u H3 Q
def slK (tl th : TO) (σ : St) (r : V → Option Int → Option Int → Hp → VK → Prop) (Q : VK) : VK := fun x H1 => tl σ H1 (oK th σ r x Q)
theorem up_sl {tl th : TO} {r : V → Option Int → Option Int → Hp → VK → Prop} (k : Up (fun H1 => te σ H1 (slK tl th σ r Q)) H) : Up (fun H1 => tSl r te tl th σ H1 Q) H := k
theorem up_slK {tl th : TO} {r : V → Option Int → Option Int → Hp → VK → Prop} (k : Up (fun H1 => tl σ H1 (oK th σ r x Q)) H) : Up (slK tl th σ r Q x) H := k
theorem up_oK {th : TO} {r : V → Option Int → Option Int → Hp → VK → Prop} {l : Option Int} (k : Up (fun H1 => th σ H1 fun u H3 => r x l u H3 Q) H) : Up (oK th σ r x Q l) H := k
theorem up_noPart {QO : Option Int → Hp → Prop} (k : Up (QO none) H) : Up (fun H1 => tNoPart σ H1 QO) H := k
def partK (QO : Option Int → Hp → Prop) : VK := fun x H1 => ∃ i, x = .int i ∧ QO (some i) H1
theorem up_part {QO : Option Int → Hp → Prop} (k : Up (fun H1 => te σ H1 (partK QO)) H) : Up (fun H1 => tPart te σ H1 QO) H := k
theorem up_partK {QO : Option Int → Hp → Prop} {i : Int} (k : Up (QO (some i)) H) : Up (partK QO (.int i)) H := fun H1 e => ⟨i, rfl, k H1 e⟩
theorem up_slL {a : Addr} {lo hi : Option Int} (h : SqL K H a xs) (k : ∀ p, H p = none → Up (Q (.ref p)) (upd H p (.lst (cutV xs lo hi)))) : Up (fun H1 => rSlL K (.ref a) lo hi H1 Q) H := fun H1 e => ⟨a, xs, rfl, sq_up e h, fun p hp => k p (e.free hp) _ (same_upd e)⟩
theorem up_slS {z : Str} {lo hi : Option Int} (h : z.length ≤ 100000) (k : Up (Q (.str (cutS z lo hi))) H) : Up (fun H1 => rSlS (.str z) lo hi H1 Q) H := fun H1 e => ⟨z, rfl, sz h, k H1 e⟩

/-! ### built-in functions -/
def rLen (K : PySem.W.Frag) : List V → Hp → VK → Prop := fun xs H Q => ∃ p ys, xs = [.ref p] ∧ (SqL K H p ys ∨ SqT K H p ys) ∧ Q (.int ys.length) H
theorem kc_len {X : Cx} : CallR X (.builtin "len") (rLen X.K) := call_len_seq
theorem up_len {p : Addr} (h : SqL K H p xs) (k : Up (Q (.int xs.length)) H) : Up (blK (rLen K) Q [.ref p]) H := fun H1 e => ⟨p, xs, rfl, .inl (sq_up e h), k H1 e⟩
theorem up_lenT {p : Addr} (h : SqT K H p xs) (k : Up (Q (.int xs.length)) H) : Up (blK (rLen K) Q [.ref p]) H := fun H1 e => ⟨p, xs, rfl, .inr (st_up e h), k H1 e⟩
def rLenZ : List V → Hp → VK → Prop := fun xs H Q => ∃ z : Str, xs = [.str z] ∧ z.length ≤ sizeLine ∧ Q (.int z.length) H
theorem kc_lenZ {X : Cx} : CallR X (.builtin "len") rLenZ := call_len_str
theorem up_lenZ {z : Str} (h : z.length ≤ 100000) (k : Up (Q (.int z.length)) H) : Up (blK rLenZ Q [.str z]) H := fun H1 e => ⟨z, rfl, sz h, k H1 e⟩
def rListOf (K : PySem.W.Frag) : List V → Hp → VK → Prop := fun xs H Q => ∃ p ys, xs = [.ref p] ∧ (SqL K H p ys ∨ SqT K H p ys) ∧ ∀ l, H l = none → Q (.ref l) (upd H l (.lst ys))
theorem kc_list {X : Cx} : CallR X (.type "list") (rListOf X.K) := call_list_of
theorem up_listOf {p : Addr} (h : SqL K H p xs) (k : ∀ l, H l = none → Up (Q (.ref l)) (upd H l (.lst xs))) : Up (blK (rListOf K) Q [.ref p]) H := fun H1 e => ⟨p, xs, rfl, .inl (sq_up e h), fun l hl => k l (e.free hl) _ (same_upd e)⟩
theorem up_listOfT {p : Addr} (h : SqT K H p xs) (k : ∀ l, H l = none → Up (Q (.ref l)) (upd H l (.lst xs))) : Up (blK (rListOf K) Q [.ref p]) H := fun H1 e => ⟨p, xs, rfl, .inr (st_up e h), fun l hl => k l (e.free hl) _ (same_upd e)⟩
def rTupOf (K : PySem.W.Frag) : List V → Hp → VK → Prop := fun xs H Q => ∃ p ys, xs = [.ref p] ∧ ((SqL K H p ys ∧ ∀ l, H l = none → Q (.ref l) (upd H l (.tup ys))) ∨ (SqT K H p ys ∧ Q (.ref p) H))
theorem kc_tuple {X : Cx} : CallR X (.type "tuple") (rTupOf X.K) := call_tuple_of
theorem up_tupOf {p : Addr} (h : SqL K H p xs) (k : ∀ l, H l = none → Up (Q (.ref l)) (upd H l (.tup xs))) : Up (blK (rTupOf K) Q [.ref p]) H := fun H1 e => ⟨p, xs, rfl, .inl ⟨sq_up e h, fun l hl => k l (e.free hl) _ (same_upd e)⟩⟩
def rMx2 : List V → Hp → VK → Prop := fun xs H Q => ∃ i j, xs = [.int i, .int j] ∧ Q (.int (if j > i then j else i)) H
theorem kc_max2 {X : Cx} (hc : X.calm = true) : CallR X (.builtin "max") rMx2 := call_max2 hc
theorem up_max2 {i j : Int} (k : Up (Q (.int (max i j))) H) : Up (blK rMx2 Q [.int i, .int j]) H := fun H1 e => ⟨i, j, rfl, by
  have q : (if j > i then j else i) = max i j := by
    by_cases h : j > i
    · rw [if_pos h]; omega
    · rw [if_neg h]; omega
  rw [q]
  exact k H1 e⟩
def rMn2 : List V → Hp → VK → Prop := fun xs H Q => ∃ i j, xs = [.int i, .int j] ∧ Q (.int (if j < i then j else i)) H
theorem kc_min2 {X : Cx} (hc : X.calm = true) : CallR X (.builtin "min") rMn2 := call_min2 hc
theorem up_min2 {i j : Int} (k : Up (Q (.int (min i j))) H) : Up (blK rMn2 Q [.int i, .int j]) H := fun H1 e => ⟨i, j, rfl, by
  have q : (if j < i then j else i) = min i j := by
    by_cases h : j < i
    · rw [if_pos h]; omega
    · rw [if_neg h]; omega
  rw [q]
  exact k H1 e⟩
theorem up_sum {p : Addr} {ns : List Int} (h : SqL K H p (ns.map V.int)) (k : Up (Q (.int ns.sum)) H) : Up (blK (rSum K) Q [.ref p]) H := fun H1 e => ⟨p, ns, rfl, sq_up e h, k H1 e⟩
theorem up_max {p : Addr} {ns : List Int} (h : SqL K H p (ns.map V.int)) (hn : 0 < ns.length) (k : ∀ m, m ∈ ns → (∀ y, y ∈ ns → y ≤ m) → Up (Q (.int m)) H) : Up (blK (rMax K) Q [.ref p]) H := fun H1 e => ⟨p, ns, rfl, sq_up e h, hn, fun m a b => k m a b H1 e⟩
/-- isinstance with a built-in type -/
theorem tyOf_up {H' : Hp} {t : Value} (e : Same H H') (h : TyX K H x t) : TyX K H' x t := by
  cases h with
  | base h =>
    cases h with
    | non => exact .base .non
    | bl y => exact .base (.bl y)
    | int y => exact .base (.int y)
    | str y => exact .base (.str y)
    | flt y => exact .base (.flt y)
    | lst h => exact .base (.lst (e _ _ h))
    | frz h => exact .base (.frz (e _ _ h))
    | tup h => exact .base (.tup (e _ _ h))
    | dK h => exact .base (.dK (e _ _ h))
    | dT h => exact .base (.dT (e _ _ h))
    | ins h a b c d f => exact .base (.ins (e _ _ h) a b c d f)
  | byt b => exact .byt b
  | set h => exact .set (e _ _ h)
  | kList h c => exact .kList h c
  | kTuple h c => exact .kTuple h c
  | kDict h c => exact .kDict h c
  | fTuple h => exact .fTuple (e _ _ h)
  | fDict h => exact .fDict (e _ _ h)
theorem up_isi {a : String} {n : String} (ty : TyX K H x (.type a)) {r : Bool} (h : kitB a n = some r) (k : Up (Q (.bl r)) H) : Up (blK (rIsi K) Q [x, .ty n]) H := fun H1 e => ⟨x, .ty n, .type a, .type n, r, rfl, .ty n, tyOf_up e ty, kit_ty h, k H1 e⟩

/-! ### statements -/
variable {n bk ct : St → Hp → Prop} {r : VK} {ts tu tw : TS}
def asK (g : TG) (n : St → Hp → Prop) (σ : St) : VK := fun x H1 => g x σ H1 n
theorem up_seq (k : Up (ts (Ends.mk (tu (Ends.mk n r bk ct)) r bk ct) σ) H) : Up (tSeq ts tu (Ends.mk n r bk ct) σ) H := k
theorem up_next (k : Up (n σ) H) : Up (tNext (Ends.mk n r bk ct) σ) H := k
theorem up_brk (k : Up (bk σ) H) : Up (tBreak (Ends.mk n r bk ct) σ) H := k
theorem up_cont (k : Up (ct σ) H) : Up (tCont (Ends.mk n r bk ct) σ) H := k
theorem up_asg {g : TG} (k : Up (fun H1 => te σ H1 (asK g n σ)) H) : Up (tAsg te g (Ends.mk n r bk ct) σ) H := k
theorem up_name {i : Nat} (k : Up (n (σ.set i (some v))) H) : Up (asK (gName i) n σ v) H := k
def subK (ti : TE) (t : TSet) (v : V) (σ : St) (n : St → Hp → Prop) : VK := fun o H1 => ti σ H1 fun i H2 => t o i v H2 fun H3 => n σ H3
theorem up_sub {ti : TE} {t : TSet} (k : Up (fun H1 => te σ H1 (subK ti t v σ n)) H) : Up (asK (gSub te ti t) n σ v) H := k
theorem up_subK {ti : TE} {t : TSet} {o : V} (k : Up (fun H1 => ti σ H1 fun i H2 => t o i v H2 fun H3 => n σ H3) H) : Up (subK ti t v σ n o) H := k
theorem up_setL {p : Addr} {i : Int} {j : Nat} (h : H p = some (.lst xs)) (hi : ixN xs.length i = some j) (k : Up (n σ) (upd H p (.lst (xs.set j v)))) : Up (fun H1 => rSetL (.ref p) (.int i) v H1 fun H3 => n σ H3) H :=
  fun H1 e => ⟨p, xs, i, j, rfl, rfl, e p _ h, hi, k _ (same_upd e)⟩
def drK (n : St → Hp → Prop) (σ : St) : VK := fun _ H1 => n σ H1
theorem up_drop (k : Up (fun H1 => te σ H1 (drK n σ)) H) : Up (tDrop te (Ends.mk n r bk ct) σ) H := k
theorem up_drK (k : Up (n σ) H) : Up (drK n σ v) H := k
theorem up_ret (k : Up (fun H1 => te σ H1 r) H) : Up (tRet te (Ends.mk n r bk ct) σ) H := k
theorem up_retN (k : Up (r .non) H) : Up (tRetN (Ends.mk n r bk ct) σ) H := k
def ifK (ts tu : TS) (D : Ends) (σ : St) : Bool → Hp → Prop := fun b H1 => if b = true then ts D σ H1 else tu D σ H1
theorem up_if (k : Up (fun H1 => t σ H1 (ifK ts tu (Ends.mk n r bk ct) σ)) H) : Up (tIfS t ts tu (Ends.mk n r bk ct) σ) H := k
theorem up_ifK {D : Ends} (k1 : b = true → Up (ts D σ) H) (k0 : b = false → Up (tu D σ) H) : Up (ifK ts tu D σ b) H := by
  cases b with
  | true => exact k1 rfl
  | false => exact k0 rfl
theorem up_ifP {D : Ends} {c : Prop} [Decidable c] (k1 : c → Up (ts D σ) H) (k0 : ¬ c → Up (tu D σ) H) : Up (ifK ts tu D σ (decide c)) H := up_ifK (fun h => k1 (of_decide_eq_true h)) fun h => k0 (of_decide_eq_false h)
theorem up_ifN {D : Ends} {c : Prop} [Decidable c] (k1 : ¬ c → Up (ts D σ) H) (k0 : c → Up (tu D σ) H) : Up (ifK ts tu D σ (!decide c)) H :=
  up_ifK (fun h => k1 (of_decide_eq_false (by simpa using h))) fun h => k0 (of_decide_eq_true (by simpa using h))
theorem up_ifT {D : Ends} (h : b = true) (k : Up (ts D σ) H) : Up (ifK ts tu D σ b) H := by rw [h]; exact k
theorem up_ifF {D : Ends} (h : b = false) (k : Up (tu D σ) H) : Up (ifK ts tu D σ b) H := by rw [h]; exact k

/-! ### loops: I tells, of a turn's number and the slots, what is known of the heap -/
/-- I from below -/
def Lo (I : St → Hp → Prop) : St → Hp → Prop := fun σ H' => ∃ H0, Same H0 H' ∧ I σ H0
theorem up_lo {I : St → Hp → Prop} (h : I σ H) : Up (Lo I σ) H := fun _ e => ⟨H, e, h⟩
def itK (g : TG) (tb : TS) (D : Ends) (σ : St) : It → Hp → Prop := fun J H1 => ∃ W : Nat → Nat → St → Hp → Prop, (∃ m, W 0 m σ H1) ∧ ∀ i m σ H, W i m σ H →
  (J.stop i H ∧ D.nx σ H) ∨ (J.go i H ∧ ∃ N : St → Hp → Prop, (∀ σ' H', N σ' H' → ∃ m', m' < m ∧ W (i + 1) m' σ' H') ∧ ∀ x H', J.yld i H x H' → g x σ H' fun σ2 H2 => tb { D with nx := N, ct := N, bk := D.nx } σ2 H2)
theorem up_for {wi : TI} {g : TG} (k : Up (fun H1 => wi σ H1 (itK g ts (Ends.mk n r bk ct) σ)) H) : Up (tFor wi g ts (Ends.mk n r bk ct) σ) H := k
variable {R : It → Hp → Prop}
def itlK (K : PySem.W.Frag) (R : It → Hp → Prop) : VK := fun x H1 => ∃ a, x = .ref a ∧ (∃ xs, SqL K H1 a xs) ∧ R (Itl K a) H1
theorem up_iList (k : Up (fun H1 => te σ H1 (itlK K R)) H) : Up (fun H1 => iList K te σ H1 R) H := k
theorem up_itl {a : Addr} (h : SqL K H a xs) (k : Up (R (Itl K a)) H) : Up (itlK K R (.ref a)) H := fun H1 e => ⟨a, rfl, ⟨xs, sq_up e h⟩, k H1 e⟩
def rg1K (R : It → Hp → Prop) : List V → Hp → Prop := fun vs H1 => ∃ j : Int, vs = [.int j] ∧ -(2 ^ 62) ≤ j ∧ j < 2 ^ 62 ∧ R (Itr 0 j.toNat) H1
theorem up_iRng1 (k : Up (fun H1 => tr σ H1 (rg1K R)) H) : Up (fun H1 => iRng1 tr σ H1 R) H := k
theorem up_rg1 {j : Int} (h1 : -100000 ≤ j) (h2 : j ≤ 100000) (k : Up (R (Itr 0 j.toNat)) H) : Up (rg1K R [.int j]) H := fun H1 e => ⟨j, rfl, by omega, by omega, k H1 e⟩
def rg2K (R : It → Hp → Prop) : List V → Hp → Prop := fun vs H1 => ∃ i j : Int, vs = [.int i, .int j] ∧ (-(2 ^ 62) ≤ i ∧ i < 2 ^ 62 ∧ -(2 ^ 62) ≤ j ∧ j < 2 ^ 62) ∧ R (Itr i (j - i).toNat) H1
theorem up_iRng2 (k : Up (fun H1 => tr σ H1 (rg2K R)) H) : Up (fun H1 => iRng2 tr σ H1 R) H := k
theorem up_rg2 {i j : Int} (h : -100000 ≤ i ∧ i ≤ 100000 ∧ -100000 ≤ j ∧ j ≤ 100000) (k : Up (R (Itr i (j - i).toNat)) H) : Up (rg2K R [.int i, .int j]) H := fun H1 e => ⟨i, j, rfl, ⟨by omega, by omega, by omega, by omega⟩, k H1 e⟩
def rg3K (R : It → Hp → Prop) : List V → Hp → Prop := fun vs H1 => ∃ (i j c : Int) (n : Nat), vs = [.int i, .int j, .int c] ∧ RgC i j c n ∧ R (Itc i c n) H1
theorem up_iRng3 (k : Up (fun H1 => tr σ H1 (rg3K R)) H) : Up (fun H1 => iRng3 tr σ H1 R) H := k
theorem up_rg3 {i j : Int} (h : -100000 ≤ i ∧ i ≤ 100000 ∧ -100000 ≤ j ∧ j ≤ 100000) (k : Up (R (Itc i (-1) (i - j).toNat)) H) : Up (rg3K R [.int i, .int j, .int (-1)]) H :=
  fun H1 e => ⟨i, j, -1, (i - j).toNat, rfl, RgC.neg (by omega) (by omega) (by omega) (by omega), k H1 e⟩
def istK (R : It → Hp → Prop) : VK := fun v H1 => ∃ x, v = .str x ∧ R (Its x) H1
theorem up_iStr (k : Up (fun H1 => te σ H1 (istK R)) H) : Up (fun H1 => iStr te σ H1 R) H := k
theorem up_ist {z : Str} (k : Up (R (Its z)) H) : Up (istK R (.str z)) H := fun H1 e => ⟨z, rfl, k H1 e⟩

/-- what a turn of the body is to reach -/
abbrev turnE (I : Nat → St → Hp → Prop) (i : Nat) (n : St → Hp → Prop) (r : VK) : Ends := Ends.mk (Lo (I (i + 1))) r n (Lo (I (i + 1)))
theorem up_forL {a : Addr} {j : Nat} (I : Nat → St → Hp → Prop) (h0 : I 0 σ H) (hl : ∀ i σ' H', i ≤ xs.length → I i σ' H' → SqL K H' a xs)
    (hs : ∀ i x σ' H', xs[i]? = some x → I i σ' H' → Up (ts (turnE I i n r) (σ'.set j (some x))) H') (hd : ∀ σ' H', I xs.length σ' H' → Up (n σ') H') : Up (itK (gName j) ts (Ends.mk n r bk ct) σ (Itl K a)) H := fun H1 e => by
  refine for_list (K := K) (a := a) (xs := xs) (fun i => Lo (I i)) ⟨H, e, h0⟩ (fun i σ' H' hi ⟨H0, e0, p⟩ => sq_up e0 (hl i σ' H0 hi p)) (fun i x σ' H' hx ⟨H0, e0, p⟩ => ?_) (fun σ' H' ⟨H0, e0, p⟩ => hd σ' H0 p H' e0)
  exact hs i x σ' H0 hx p H' e0
theorem up_forR {lo : Int} {m j : Nat} (I : Nat → St → Hp → Prop) (h0 : I 0 σ H)
    (hs : ∀ i σ' H', i < m → I i σ' H' → Up (ts (turnE I i n r) (σ'.set j (some (.int (lo + i))))) H') (hd : ∀ σ' H', I m σ' H' → Up (n σ') H') : Up (itK (gName j) ts (Ends.mk n r bk ct) σ (Itr lo m)) H := fun H1 e => by
  refine for_range (lo := lo) (n := m) (fun i => Lo (I i)) ⟨H, e, h0⟩ (fun i σ' H' hi ⟨H0, e0, p⟩ => ?_) (fun σ' H' ⟨H0, e0, p⟩ => hd σ' H0 p H' e0)
  exact hs i σ' H0 hi p H' e0
theorem up_forR0 {m j : Nat} (I : Nat → St → Hp → Prop) (h0 : I 0 σ H)
    (hs : ∀ i σ' H', i < m → I i σ' H' → Up (ts (turnE I i n r) (σ'.set j (some (.int ((i : Nat) : Int))))) H') (hd : ∀ σ' H', I m σ' H' → Up (n σ') H') : Up (itK (gName j) ts (Ends.mk n r bk ct) σ (Itr 0 m)) H :=
  up_forR I h0 (fun i σ' H' hi p => by rw [Int.zero_add]; exact hs i σ' H' hi p) hd
theorem up_forC {lo c : Int} {m j : Nat} (I : Nat → St → Hp → Prop) (h0 : I 0 σ H)
    (hs : ∀ i σ' H', i < m → I i σ' H' → Up (ts (turnE I i n r) (σ'.set j (some (.int (lo + (i : Nat) * c))))) H') (hd : ∀ σ' H', I m σ' H' → Up (n σ') H') : Up (itK (gName j) ts (Ends.mk n r bk ct) σ (Itc lo c m)) H := fun H1 e => by
  refine for_rangeC (lo := lo) (c := c) (n := m) (fun i => Lo (I i)) ⟨H, e, h0⟩ (fun i σ' H' hi ⟨H0, e0, p⟩ => ?_) (fun σ' H' ⟨H0, e0, p⟩ => hd σ' H0 p H' e0)
  exact hs i σ' H0 hi p H' e0
theorem up_while (I : Nat → St → Hp → Prop) (m0 : Nat) (h0 : I m0 σ H)
    (hs : ∀ m σ' H', I m σ' H' → ∃ b, EvT t σ' H' b ∧ (b = true → Up (ts (Ends.mk (Lo fun σ2 H2 => ∃ m', m' < m ∧ I m' σ2 H2) r n (Lo fun σ2 H2 => ∃ m', m' < m ∧ I m' σ2 H2)) σ') H') ∧ (b = false → Up (n σ') H')) :
    Up (tWhile t ts (Ends.mk n r bk ct) σ) H := fun H1 e => by
  refine ⟨fun m => Lo (I m), ⟨m0, H, e, h0⟩, fun m σ' H' ⟨H0, e0, p⟩ => ?_⟩
  obtain ⟨b, ev, k1, k0⟩ := hs m σ' H0 p
  refine ev _ ?_ H' e0
  cases b with
  | true =>
    refine fun H2 e2 => ?_
    show if true = true then _ else _
    rw [if_pos rfl]
    exact ⟨_, fun σ2 H3 ⟨H4, e4, m', hm, q⟩ => ⟨m', hm, H4, e4, q⟩, k1 rfl H2 e2⟩
  | false =>
    refine fun H2 e2 => ?_
    show if false = true then _ else _
    rw [if_neg Bool.false_ne_true]
    exact k0 rfl H2 e2

/-! ### comprehensions -/
def lcK (g : TG) (tt : TT) (te : TE) (vs : List Nat) (σ : St) (Q : VK) : It → Hp → Prop := fun J H1 => ∀ D, H1 D = none → ∃ W : Nat → Nat → Hp → Prop, (∃ m, W 0 m (upd H1 D (.lst []))) ∧ ∀ i m H, W i m H →
  (J.stop i H ∧ Q (.ref D) H) ∨ (J.go i H ∧ ∃ Nx : Hp → Prop, (∀ H', Nx H' → ∃ m', m' < m ∧ W (i + 1) m' H') ∧ ∀ x H', J.yld i H x H' → g x (wipe σ vs) H' fun σ2 H2 => wipe σ2 vs = wipe σ vs ∧ tt σ2 H2 fun b H3 =>
    if b = true then te σ2 H3 fun y H4 => ∃ acc, H4 D = some (.lst acc) ∧ acc.length < sizeLine ∧ Nx (upd H4 D (.lst (acc ++ [y]))) else Nx H3)
theorem up_lc {wi : TI} {g : TG} {vs : List Nat} (k : Up (fun H1 => wi σ H1 (lcK g t te vs σ Q)) H) : Up (fun H1 => tLc wi g t te vs σ H1 Q) H := k
/-- I from below, of the heap alone -/
def Lh (I : Hp → Prop) : Hp → Prop := fun H' => ∃ H0, Same H0 H' ∧ I H0
theorem up_lh {I : Hp → Prop} (h : I H) : Up (Lh I) H := fun _ e => ⟨H, e, h⟩
/-- the new item goes to the list at D -/
def putD (D : Addr) (N : Hp → Prop) : VK := fun y H4 => ∃ acc, H4 D = some (.lst acc) ∧ acc.length < sizeLine ∧ N (upd H4 D (.lst (acc ++ [y])))
theorem up_putD {D : Addr} {N : Hp → Prop} (h : H D = some (.lst xs)) (hz : xs.length < 100000) (k : Up N (upd H D (.lst (xs ++ [y])))) : Up (putD D N y) H := fun H1 e => ⟨xs, e D _ h, szl hz, k _ (same_upd e)⟩
/-- kept or not -/
def keepD (te : TE) (σ2 : St) (D : Addr) (N : Hp → Prop) : Bool → Hp → Prop := fun b H3 => if b = true then te σ2 H3 (putD D N) else N H3
theorem up_keep1 {D : Addr} {N : Hp → Prop} (h : b = true) (k : Up (fun H1 => te σ H1 (putD D N)) H) : Up (keepD te σ D N b) H := by rw [h]; exact k
theorem up_keep0 {D : Addr} {N : Hp → Prop} (h : b = false) (k : Up N H) : Up (keepD te σ D N b) H := by rw [h]; exact k
theorem up_keepP {D : Addr} {N : Hp → Prop} {c : Prop} [Decidable c] (k1 : c → Up (fun H1 => te σ H1 (putD D N)) H) (k0 : ¬ c → Up N H) : Up (keepD te σ D N (decide c)) H := by
  by_cases h : c
  · exact up_keep1 (decide_eq_true h) (k1 h)
  · exact up_keep0 (decide_eq_false h) (k0 h)
theorem up_keepB {D : Addr} {N : Hp → Prop} (k1 : b = true → Up (fun H1 => te σ H1 (putD D N)) H) (k0 : b = false → Up N H) : Up (keepD te σ D N b) H := by
  cases b with
  | true => exact k1 rfl
  | false => exact k0 rfl
theorem up_yes (k : Up (QB true) H) : Up (fun H1 => tYes σ H1 QB) H := k
theorem up_lcL {a : Addr} {j : Nat} {vs : List Nat} (hw : ∀ x, wipe ((wipe σ vs).set j (some x)) vs = wipe σ vs) (I : Addr → Nat → Hp → Prop) (h0 : ∀ D, H D = none → I D 0 (upd H D (.lst []))) (hl : ∀ D i H', i ≤ xs.length → I D i H' → SqL K H' a xs)
    (hs : ∀ D i x H', H D = none → xs[i]? = some x → I D i H' → Up (fun H1 => t ((wipe σ vs).set j (some x)) H1 (keepD te ((wipe σ vs).set j (some x)) D (Lh (I D (i + 1))))) H') (hd : ∀ D H', H D = none → I D xs.length H' → Up (Q (.ref D)) H') :
    Up (lcK (gName j) t te vs σ Q (Itl K a)) H := fun H1 e D hD => by
  refine lc_list (K := K) (a := a) (xs := xs) (fun i => Lh (I D i)) ⟨_, same_upd e, h0 D (e.free hD)⟩ (fun i H' hi ⟨H0, e0, p⟩ => sq_up e0 (hl D i H0 hi p)) (fun i x H' hx ⟨H0, e0, p⟩ => ⟨hw x, ?_⟩) (fun H' ⟨H0, e0, p⟩ => hd D H0 (e.free hD) p H' e0)
  exact hs D i x H0 (e.free hD) hx p H' e0
theorem up_lcR {lo : Int} {m j : Nat} {vs : List Nat} (hw : ∀ x, wipe ((wipe σ vs).set j (some x)) vs = wipe σ vs) (I : Addr → Nat → Hp → Prop) (h0 : ∀ D, H D = none → I D 0 (upd H D (.lst [])))
    (hs : ∀ D i H', H D = none → i < m → I D i H' → Up (fun H1 => t ((wipe σ vs).set j (some (.int (lo + i)))) H1 (keepD te ((wipe σ vs).set j (some (.int (lo + i)))) D (Lh (I D (i + 1))))) H') (hd : ∀ D H', H D = none → I D m H' → Up (Q (.ref D)) H') :
    Up (lcK (gName j) t te vs σ Q (Itr lo m)) H := fun H1 e D hD => by
  refine lc_range (lo := lo) (n := m) (fun i => Lh (I D i)) ⟨_, same_upd e, h0 D (e.free hD)⟩ (fun i H' hi ⟨H0, e0, p⟩ => ⟨hw _, ?_⟩) (fun H' ⟨H0, e0, p⟩ => hd D H0 (e.free hD) p H' e0)
  exact hs D i H0 (e.free hD) hi p H' e0
end
section
variable {H : Hp} {σ : St} {Q : VK} {t : TT} {te : TE}
theorem up_lcR0 {m j : Nat} {vs : List Nat} (hw : ∀ x, wipe ((wipe σ vs).set j (some x)) vs = wipe σ vs) (I : Addr → Nat → Hp → Prop) (h0 : ∀ D, H D = none → I D 0 (upd H D (.lst [])))
    (hs : ∀ D i H', H D = none → i < m → I D i H' → Up (fun H1 => t ((wipe σ vs).set j (some (.int ((i : Nat) : Int)))) H1 (keepD te ((wipe σ vs).set j (some (.int ((i : Nat) : Int)))) D (Lh (I D (i + 1))))) H') (hd : ∀ D H', H D = none → I D m H' → Up (Q (.ref D)) H') :
    Up (lcK (gName j) t te vs σ Q (Itr 0 m)) H := up_lcR hw I h0 (fun D i H' hD hi p => by rw [Int.zero_add]; exact hs D i H' hD hi p) hd
end
/-! ### defs by their names -/
/-- a def of the text, its promise -/
structure Fn (P : Program) (w : World) (K : PySem.W.Frag) (mg : Str → Option Value) (base : Heap) (CX : CXT) (k : Nat) (x : Str) (ps : List Str) (sp : Sp) : Prop where
  ex : ∃ (f : Addr) (fd : FuncData), FnOk P w K mg base CX k f fd ps sp ∧ mg x = some (.ref f) ∧ PySem.W.keepIn K (.ref f) = true ∧ Binds K fd ps []
theorem Fn.mk' {P : Program} {w : World} {K : PySem.W.Frag} {mg : Str → Option Value} {base : Heap} {CX : CXT} {k : Nat} {x qual : Str} {st : Stmt} {ps : List Str} {sp : Sp} {f : Addr} {fd : FuncData} (F : Fun K x qual st f fd) (G : FnOk P w K mg base CX k f fd ps sp) (hm : mg x = some (.ref f))
    (h : ∀ (kV doc pm : Value) (an : Option Addr) (cdv ct : Value) (us : List Value), us.length = ps.length → bindArgs (PySem.W.fnOf x qual (defArgs st) (defBody st) (defScope st) .none kV doc pm an cdv ct) ⟨us, []⟩ = pure (ps.zip us)) : Fn P w K mg base CX k x ps sp :=
  ⟨f, fd, G, hm, F.kp, F.binds h⟩
section
variable {X : Cx} {k j : Nat} {x : Str} {ps : List Str} {sp : Sp} {p pos : Pos} {e : Expr} {es : List Expr} {t : TA}
theorem kp_call (c : Fn X.prog X.w X.K X.mg X.base CX0 k x ps sp) (hr : Room j X.A) (hk : k ≤ j) (hg : Gl X x) (ha : PA X (e :: es) t) (hdb : (x == ("__debug__" : Str)) = false := by decide) (he : starEach (e :: es) X.env = (false, eval e X.env) :: starEach es X.env := by rfl)
    (hpl : (backTo pos (starEach es X.env)).any (·.1) = false := by rfl) : PE X (.Call (.Name x p) (e :: es) [] pos) (tCall sp [] E0 t) := by
  obtain ⟨f, fd, F, hm, kp, b⟩ := c.ex
  exact pe_call F (hr.mono hk) hg hm kp b .nil pass0 ha hdb he hpl
theorem kt_truth {a : Expr} {ta : TE} (ha : PE X a ta) (he : ∀ whole, isTrue a X.env whole = (do let v ← whole; standAt a.pos; holding [v] (truthy v)) := by intro _; rfl) : PT X a (tTru X.K ta) := pt_truth ha he
theorem ko_addS : OpR X (binaryOp .Add) rAddS := op_add_str
end
/-- what the top leaves of the built-ins' names -/
structure Bl (mg : Str → Option Value) : Prop where
  len : mg "len" = none
  range : mg "range" = none
  list : mg "list" = none
  tuple : mg "tuple" = none
  max : mg "max" = none
  min : mg "min" = none
  sum : mg "sum" = none
  sorted : mg "sorted" = none
  isi : mg "isinstance" = none
  int : mg "int" = none
  bool : mg "bool" = none
  str : mg "str" = none
theorem _root_.L2.Room.units65 {k : Nat} {A : Around} (r : Room k A) : A.units + 65 < cLine := by have := r.un; omega
/-! ### dicts with int keys -/
section
variable {K : PySem.W.Frag} {H : Hp} {σ : St} {Q : VK} {v x y : V} {ta tb te : TE} {n bk ct : St → Hp → Prop} {r : VK} {d : Addr} {kvs : List (Key × V)} {i : Int}
theorem up_dnew (k : ∀ p, H p = none → Up (Q (.ref p)) (upd H p (.dK []))) : Up (fun H1 => tDNewK σ H1 Q) H := fun H1 e p hp => k p (e.free hp) _ (same_upd e)
def dinB (neg : Bool) (y : V) (Q : VK) : VK := fun x H2 => ∃ a o, x = .ref a ∧ DGet H2 a y o ∧ Q (.bl (if neg then !o.isSome else o.isSome)) H2
def dinA (neg : Bool) (td : TE) (σ : St) (Q : VK) : VK := fun y H1 => td σ H1 (dinB neg y Q)
theorem up_din (k : Up (fun H1 => ta σ H1 (dinA false tb σ Q)) H) : Up (fun H1 => tDIn ta tb σ H1 Q) H := k
theorem up_dnotin (k : Up (fun H1 => ta σ H1 (dinA true tb σ Q)) H) : Up (fun H1 => tDNotIn ta tb σ H1 Q) H := k
theorem up_dinA {neg : Bool} (k : Up (fun H1 => tb σ H1 (dinB neg y Q)) H) : Up (dinA neg tb σ Q y) H := k
theorem up_dinB (h : H d = some (.dK kvs)) (k : Up (Q (.bl (valV kvs (Sum.inl i : Key)).isSome)) H) : Up (dinB false (.int i) Q (.ref d)) H := fun H1 e => ⟨d, _, rfl, DGet.k (k := Sum.inl i) (e _ _ h), k H1 e⟩
theorem up_dnotinB (h : H d = some (.dK kvs)) (k : Up (Q (.bl (!(valV kvs (Sum.inl i : Key)).isSome))) H) : Up (dinB true (.int i) Q (.ref d)) H := fun H1 e => ⟨d, _, rfl, DGet.k (k := Sum.inl i) (e _ _ h), k H1 e⟩
def dgB (x : V) (Q : VK) : VK := fun y H2 => ∃ a v, x = .ref a ∧ DGet H2 a y (some v) ∧ Q v H2
def dgA (ty : TE) (σ : St) (Q : VK) : VK := fun x H1 => ty σ H1 (dgB x Q)
theorem up_dget (k : Up (fun H1 => ta σ H1 (dgA tb σ Q)) H) : Up (fun H1 => tDGet ta tb σ H1 Q) H := k
theorem up_dgA (k : Up (fun H1 => tb σ H1 (dgB x Q)) H) : Up (dgA tb σ Q x) H := k
theorem up_dgB (h : H d = some (.dK kvs)) (hv : valV kvs (Sum.inl i : Key) = some v) (k : Up (Q v) H) : Up (dgB (.ref d) Q (.int i)) H := fun H1 e => ⟨d, v, rfl, by
  have g := DGet.k (k := (Sum.inl i : Key)) (e _ _ h)
  rw [hv] at g
  exact g, k H1 e⟩
def dpC (v x : V) (n : St → Hp → Prop) (σ : St) : VK := fun y H3 => ∃ a H4, x = .ref a ∧ DPut H3 a y v H4 ∧ n σ H4
def dpB (v : V) (ty : TE) (n : St → Hp → Prop) (σ : St) : VK := fun x H2 => ty σ H2 (dpC v x n σ)
def dpA (td ty : TE) (n : St → Hp → Prop) (σ : St) : VK := fun v H1 => td σ H1 (dpB v ty n σ)
theorem up_dput (k : Up (fun H1 => te σ H1 (dpA ta tb n σ)) H) : Up (sDPut ta tb te (Ends.mk n r bk ct) σ) H := k
theorem up_dpA (k : Up (fun H1 => ta σ H1 (dpB v tb n σ)) H) : Up (dpA ta tb n σ v) H := k
theorem up_dpB (k : Up (fun H1 => tb σ H1 (dpC v x n σ)) H) : Up (dpB v tb n σ x) H := k
theorem up_dpC (h : H d = some (.dK kvs)) (hl : kvs.length < 100000) (k : Up (n σ) (upd H d (.dK (putK kvs (Sum.inl i : Key) v)))) : Up (dpC v (.ref d) n σ (.int i)) H := fun H1 e => ⟨d, _, rfl, DPut.k (k := Sum.inl i) (e _ _ h) (szl hl), k _ (same_upd e)⟩
/-- d.get(k, z) -/
def d2C (a : Addr) (y : V) (Q : VK) : VK := fun z H3 => ∃ o, DGet H3 a y o ∧ Q (o.getD z) H3
def d2B (a : Addr) (tx : TE) (σ : St) (Q : VK) : VK := fun y H2 => tx σ H2 (d2C a y Q)
def d2A (ty tx : TE) (σ : St) (Q : VK) : VK := fun x H1 => ∃ a, x = .ref a ∧ IsD H1 a ∧ ty σ H1 (d2B a tx σ Q)
theorem up_dget2 (k : Up (fun H1 => ta σ H1 (d2A tb te σ Q)) H) : Up (fun H1 => tDGet2 ta tb te σ H1 Q) H := k
theorem up_d2A (h : H d = some (.dK kvs)) (k : Up (fun H1 => tb σ H1 (d2B d te σ Q)) H) : Up (d2A tb te σ Q (.ref d)) H := fun H1 e => ⟨d, rfl, .inl ⟨kvs, .inl (e _ _ h)⟩, k H1 e⟩
theorem up_d2B (k : Up (fun H1 => te σ H1 (d2C d y Q)) H) : Up (d2B d te σ Q y) H := k
theorem up_d2C (h : H d = some (.dK kvs)) (k : Up (Q ((valV kvs (Sum.inl i : Key)).getD v)) H) : Up (d2C d (.int i) Q v) H := fun H1 e => ⟨_, DGet.k (k := Sum.inl i) (e _ _ h), k H1 e⟩
/-- d.pop(k) -/
def dqB (a : Addr) (Q : VK) : VK := fun y H2 => ∃ kvs k v, H2 a = some (.dK kvs) ∧ y = kV k ∧ valV kvs k = some v ∧ Q v (upd H2 a (.dK (dropK kvs k)))
def dqA (ty : TE) (σ : St) (Q : VK) : VK := fun x H1 => ∃ a, x = .ref a ∧ IsD H1 a ∧ ty σ H1 (dqB a Q)
theorem up_dpop1 (k : Up (fun H1 => ta σ H1 (dqA tb σ Q)) H) : Up (fun H1 => tDPop1 ta tb σ H1 Q) H := k
theorem up_dqA (h : H d = some (.dK kvs)) (k : Up (fun H1 => tb σ H1 (dqB d Q)) H) : Up (dqA tb σ Q (.ref d)) H := fun H1 e => ⟨d, rfl, .inl ⟨kvs, .inl (e _ _ h)⟩, k H1 e⟩
theorem up_dqB (h : H d = some (.dK kvs)) (hv : valV kvs (Sum.inl i : Key) = some v) (k : Up (Q v) (upd H d (.dK (dropK kvs (Sum.inl i : Key))))) : Up (dqB d Q (.int i)) H := fun H1 e => ⟨kvs, Sum.inl i, v, e _ _ h, rfl, hv, k _ (same_upd e)⟩

/-! ### instances -/
variable {C a dx : Addr} {fs : List (Str × V)} {f m : Str} {tr : TA}
def fdK (K : PySem.W.Frag) (f : Str) (Q : VK) : VK := fun x H1 => ∃ a C dx fs v, x = .ref a ∧ H1 a = some (.ins C dx fs) ∧ Cls K C ∧ NoAttr K C f ∧ fs.lookup f = some v ∧ Q v H1
theorem up_fld (k : Up (fun H1 => te σ H1 (fdK K f Q)) H) : Up (fun H1 => tFld K te f σ H1 Q) H := k
theorem up_fdK (h : H a = some (.ins C dx fs)) (c : Cls K C) (na : NoAttr K C f) (hl : fs.lookup f = some v) (k : Up (Q v) H) : Up (fdK K f Q (.ref a)) H := fun H1 e => ⟨a, C, dx, fs, v, rfl, e _ _ h, c, na, hl, k H1 e⟩
def sfB (K : PySem.W.Frag) (f : Str) (y : V) (n : St → Hp → Prop) (σ : St) : VK := fun x H2 => ∃ a C dx fs, x = .ref a ∧ H2 a = some (.ins C dx fs) ∧ Cls K C ∧ NoAttr K C f ∧ fs.length < 1000 ∧ n σ (upd H2 a (.ins C dx (putF f y fs)))
def sfA (K : PySem.W.Frag) (ta : TE) (f : Str) (n : St → Hp → Prop) (σ : St) : VK := fun y H1 => ta σ H1 (sfB K f y n σ)
theorem up_sfld (k : Up (fun H1 => te σ H1 (sfA K ta f n σ)) H) : Up (sFld K ta te f (Ends.mk n r bk ct) σ) H := k
theorem up_sfA (k : Up (fun H1 => ta σ H1 (sfB K f y n σ)) H) : Up (sfA K ta f n σ y) H := k
theorem up_sfB (h : H a = some (.ins C dx fs)) (c : Cls K C) (na : NoAttr K C f) (hl : fs.length < 1000) (k : Up (n σ) (upd H a (.ins C dx (putF f y fs)))) : Up (sfB K f y n σ (.ref a)) H := fun H1 e => ⟨a, C, dx, fs, rfl, e _ _ h, c, na, hl, k _ (same_upd e)⟩
def mtB (sp : Sp) (dvs : List V) (E : XK) (x : V) (Q : VK) : List V → Hp → Prop := fun vs H2 => sp (x :: (vs ++ dvs)) H2 Q E
def mtA (C : Addr) (m : Str) (sp : Sp) (dvs : List V) (E : XK) (tr : TA) (σ : St) (Q : VK) : VK := fun x H1 => ∃ a dx fs, x = .ref a ∧ H1 a = some (.ins C dx fs) ∧ fs.lookup m = none ∧ tr σ H1 (mtB sp dvs E x Q)
theorem up_meth {sp : Sp} {dvs : List V} {E : XK} (k : Up (fun H1 => te σ H1 (mtA C m sp dvs E tr σ Q)) H) : Up (fun H1 => tMeth C m sp dvs E te tr σ H1 Q) H := k
theorem up_mtA {sp : Sp} {dvs : List V} {E : XK} (h : H a = some (.ins C dx fs)) (hl : fs.lookup m = none) (k : Up (fun H1 => tr σ H1 (mtB sp dvs E (.ref a) Q)) H) : Up (mtA C m sp dvs E tr σ Q (.ref a)) H := fun H1 e => ⟨a, dx, fs, rfl, e _ _ h, hl, k H1 e⟩
theorem up_mtB {F : List V → Hp → VK → Prop} {E : XK} {vs : List V} (h : F (x :: vs) H Q) : Up (mtB (KSp F) [] E x Q vs) H := fun H1 e => by
  show KSp F (x :: (vs ++ [])) H1 Q E
  rw [List.append_nil]
  exact ⟨H, e, h⟩
theorem up_mtX {F : List V → Hp → VK → XK → Prop} {E : XK} {vs : List V} (h : F (x :: vs) H Q E) : Up (mtB (KSx F) [] E x Q vs) H := fun H1 e => by
  show KSx F (x :: (vs ++ [])) H1 Q E
  rw [List.append_nil]
  exact ⟨H, e, h⟩
def mkK (C : Addr) (sp : Sp) (dvs : List V) (E : XK) (Q : VK) : List V → Hp → Prop := fun vs H1 => ∀ x dx, H1 x = none → H1 dx = none → dx ≠ x → sp (.ref x :: (vs ++ dvs)) (upd (upd H1 dx (.own x)) x (.ins C dx [])) (fun v H2 => v = .non ∧ Q (.ref x) H2) E
theorem up_make {sp : Sp} {dvs : List V} {E : XK} (k : Up (fun H1 => tr σ H1 (mkK C sp dvs E Q)) H) : Up (fun H1 => tMake C sp dvs E tr σ H1 Q) H := k
theorem up_mkX {F : List V → Hp → VK → XK → Prop} {E : XK} {vs : List V} (h : ∀ x dx, H x = none → H dx = none → dx ≠ x → F (.ref x :: vs) (upd (upd H dx (.own x)) x (.ins C dx [])) (fun v H2 => v = .non ∧ Q (.ref x) H2) E) : Up (mkK C (KSx F) [] E Q vs) H := fun H1 e x dx hx hd ne => by
  show KSx F (.ref x :: (vs ++ [])) _ _ E
  rw [List.append_nil]
  exact ⟨_, same_upd (same_upd e), h x dx (e.free hx) (e.free hd) ne⟩
/-- behind an __init__: None, and the instance -/
theorem up_made {x : Addr} (k : Up (Q (.ref x)) H) : Up (fun H2 => V.non = V.non ∧ Q (.ref x) H2) H := fun H1 e => ⟨rfl, k H1 e⟩
end
section
variable {X : Cx} {k j : Nat} {C : Addr} {m : Str} {ps : List Str} {sp : Sp} {pos apos : Pos} {o e : Expr} {es : List Expr} {t : TA} {ta : TE}
/-- a method of the text -/
structure Mt (P : Program) (w : World) (K : PySem.W.Frag) (mg : Str → Option Value) (base : Heap) (CX : CXT) (k : Nat) (C : Addr) (m : Str) (ps : List Str) (sp : Sp) : Prop where
  ex : ∃ (f : Addr) (fd : FuncData), FnOk P w K mg base CX k f fd ps sp ∧ Meth K C m f ∧ Binds K fd ps []
theorem kp_meth (c : Mt X.prog X.w X.K X.mg X.base CX0 k C m ps sp) (cl : Cls X.K C) (hr : Room j X.A) (hk : k ≤ j) (he : PE X o ta) (ha : PA X (e :: es) t)
    (hst : starEach (e :: es) X.env = (false, eval e X.env) :: starEach es X.env := by rfl) (hpl : (backTo pos (starEach es X.env)).any (·.1) = false := by rfl) {pl : Sem Bool}
    (ht : eval (.Call (.Attribute o m apos) (e :: es) [] pos) X.env = (do
      let ov ← eval o X.env
      standAt apos.atName
      let (f, first) ← holding [ov] (getMethod ov m pl)
      callWith pos f first (backTo pos (starEach (e :: es) X.env)) (backToKw pos (keywordEach [] X.env))) := by rfl) : PE X (.Call (.Attribute o m apos) (e :: es) [] pos) (tMeth C m sp [] E0 ta t) := by
  obtain ⟨f, fd, F, hm, b⟩ := c.ex
  exact pe_meth he cl hm F (hr.mono hk) b .nil pass0 ha hst hpl ht
theorem kp_meth0 (c : Mt X.prog X.w X.K X.mg X.base CX0 k C m ps sp) (cl : Cls X.K C) (hr : Room j X.A) (hk : k ≤ j) (he : PE X o ta) {pl : Sem Bool}
    (ht : eval (.Call (.Attribute o m apos) [] [] pos) X.env = (do
      let ov ← eval o X.env
      standAt apos.atName
      let (f, first) ← holding [ov] (getMethod ov m pl)
      callWith pos f first (backTo pos (starEach [] X.env)) (backToKw pos (keywordEach [] X.env))) := by rfl) : PE X (.Call (.Attribute o m apos) [] [] pos) (tMeth C m sp [] E0 ta tNil) := by
  obtain ⟨f, fd, F, hm, b⟩ := c.ex
  exact pe_meth0 he cl hm F (hr.mono hk) b .nil pass0 ht
end
end Kp

namespace Kp
open PySem L2
section
variable {K : PySem.W.Frag} {H H' : Hp}
mutual
theorem dp_up (e : Same H H') : ∀ (d : PyData) (v : V), Dp K H v d → Dp K H' v d
  | .none, _, h => by cases h; exact .non
  | .bool b, _, h => by cases h; exact .bl b
  | .int i, _, h => by cases h; exact .int i
  | .str x, _, h => by cases h; exact .str x
  | .list ds, _, h => by
    cases h with
    | lst hs ha => exact .lst (sq_up e hs) (dpAll_up e ds _ ha)
  | .tuple ds, _, h => by
    cases h with
    | tup hs ha => exact .tup (st_up e hs) (dpAll_up e ds _ ha)
  | .dict _, _, h => by cases h
theorem dpAll_up (e : Same H H') : ∀ (ds : List PyData) (vs : List V), DpAll K H vs ds → DpAll K H' vs ds
  | [], _, h => by cases h; exact .nil
  | d :: ds, _, h => by
    cases h with
    | cons h1 h2 => exact .cons (dp_up e d _ h1) (dpAll_up e ds _ h2)
end
/-- None and whole numbers -/
def flat0 : V → Bool
  | .non => true
  | .int _ => true
  | _ => false
def fp : V → PyData
  | .int i => .int i
  | _ => .none
theorem dp_flat : ∀ {x : V}, flat0 x = true → Dp K H x (fp x)
  | .non, _ => .non
  | .int i, _ => .int i
theorem dpAll_flat : ∀ {xs : List V}, xs.all flat0 = true → DpAll K H xs (xs.map fp)
  | [], _ => .nil
  | x :: xs, h => by
    rw [List.all_cons, Bool.and_eq_true] at h
    exact .cons (dp_flat h.1) (dpAll_flat h.2)
theorem lay_flat : ∀ xs : List V, PyData.canLayAll0 (xs.map fp) = true
  | [] => by simp [PyData.canLayAll0]
  | x :: xs => by
    have h := lay_flat xs
    cases x <;> simp [fp, PyData.canLayAll0, PyData.canLay0, h]
theorem depth_flat : ∀ xs : List V, PyData.depthAll (xs.map fp) = 0
  | [] => by simp [PyData.depthAll]
  | x :: xs => by
    have h := depth_flat xs
    cases x <;> simp [fp, PyData.depthAll, PyData.depth, h]
theorem eqv_flat : ∀ {x y : V}, flat0 x = true → flat0 y = true → PyData.eqv (fp x) (fp y) = decide (x = y)
  | .non, .non, _, _ => by simp [fp, PyData.eqv]
  | .non, .int _, _, _ => by simp [fp, PyData.eqv]
  | .int _, .non, _, _ => by simp [fp, PyData.eqv]
  | .int i, .int j, _, _ => by
    show (i == j) = _
    by_cases h : i = j
    · subst h; simp
    · have : V.int i ≠ V.int j := fun q => h (V.int.inj q)
      rw [decide_eq_false this]
      exact beq_eq_false_iff_ne.mpr h
theorem eqvAll_flat : ∀ {xs ys : List V}, xs.all flat0 = true → ys.all flat0 = true → PyData.eqvAll (xs.map fp) (ys.map fp) = decide (xs = ys)
  | [], [], _, _ => by simp [PyData.eqvAll]
  | [], _ :: _, _, _ => by simp [PyData.eqvAll]
  | _ :: _, [], _, _ => by simp [PyData.eqvAll]
  | x :: xs, y :: ys, h, h' => by
    rw [List.all_cons, Bool.and_eq_true] at h h'
    show (PyData.eqv (fp x) (fp y) && PyData.eqvAll (xs.map fp) (ys.map fp)) = _
    rw [eqv_flat h.1 h'.1, eqvAll_flat h.2 h'.2]
    by_cases e : x = y
    · by_cases e2 : xs = ys
      · subst e e2; simp
      · have : ¬ x :: xs = y :: ys := fun q => e2 (List.cons.inj q).2
        rw [decide_eq_false e2, decide_eq_false this, Bool.and_false]
    · have : ¬ x :: xs = y :: ys := fun q => e (List.cons.inj q).1
      rw [decide_eq_false e, decide_eq_false this, Bool.false_and]
theorem shaped_list (xs : List V) : SeqAt.shaped (.list (xs.map fp)) = true := by
  unfold SeqAt.shaped
  simp [PyData.canLay0, PyData.depth, lay_flat, depth_flat]
theorem shaped_tuple (xs : List V) : SeqAt.shaped (.tuple (xs.map fp)) = true := by
  unfold SeqAt.shaped
  simp [PyData.canLay0, PyData.depth, lay_flat, depth_flat]
theorem shaped_fp (x : V) : SeqAt.shaped (fp x) = true := by
  unfold SeqAt.shaped
  cases x <;> simp [fp, PyData.canLay0, PyData.depth]
variable {Q : VK} {x y : V} {d d' : PyData} {xs ys : List V} {p q : Addr}
theorem up_eqD (hx : Dp K H x d) (hy : Dp K H y d') (sx : SeqAt.shaped d = true) (sy : SeqAt.shaped d' = true) (k : Up (Q (.bl (PyData.eqv d d'))) H) : Up (fun H1 => rEqD K x y H1 Q) H := fun H1 e => ⟨d, d', dp_up e _ _ hx, dp_up e _ _ hy, sx, sy, k H1 e⟩
theorem up_neD (hx : Dp K H x d) (hy : Dp K H y d') (sx : SeqAt.shaped d = true) (sy : SeqAt.shaped d' = true) (k : Up (Q (.bl (!PyData.eqv d d'))) H) : Up (fun H1 => rNeD K x y H1 Q) H := fun H1 e => ⟨d, d', dp_up e _ _ hx, dp_up e _ _ hy, sx, sy, k H1 e⟩
theorem shaped_lay {d : PyData} (h : SeqAt.shaped d = true) : d.canLay0 = true := SeqAt.canLay_of_shaped h
/-- equal data -/
theorem up_eqSame (hx : Dp K H x d) (hy : Dp K H y d) (s : SeqAt.shaped d = true) (k : Up (Q (.bl true)) H) : Up (fun H1 => rEqD K x y H1 Q) H := up_eqD hx hy s s (by rw [SeqAt.eqv_refl d (shaped_lay s)]; exact k)
theorem up_neSame (hx : Dp K H x d) (hy : Dp K H y d) (s : SeqAt.shaped d = true) (k : Up (Q (.bl false)) H) : Up (fun H1 => rNeD K x y H1 Q) H := up_neD hx hy s s (by rw [SeqAt.eqv_refl d (shaped_lay s)]; exact k)
theorem up_eqLL (hp : SqL K H p xs) (hq : SqL K H q ys) (fx : xs.all flat0 = true) (fy : ys.all flat0 = true) (k : Up (Q (.bl (decide (xs = ys)))) H) : Up (fun H1 => rEqD K (.ref p) (.ref q) H1 Q) H :=
  up_eqD (.lst hp (dpAll_flat fx)) (.lst hq (dpAll_flat fy)) (shaped_list _) (shaped_list _) (by
    show Up (Q (.bl (PyData.eqvAll (xs.map fp) (ys.map fp)))) H
    rw [eqvAll_flat fx fy]; exact k)
theorem up_neLL (hp : SqL K H p xs) (hq : SqL K H q ys) (fx : xs.all flat0 = true) (fy : ys.all flat0 = true) (k : Up (Q (.bl (!decide (xs = ys)))) H) : Up (fun H1 => rNeD K (.ref p) (.ref q) H1 Q) H :=
  up_neD (.lst hp (dpAll_flat fx)) (.lst hq (dpAll_flat fy)) (shaped_list _) (shaped_list _) (by
    show Up (Q (.bl (!PyData.eqvAll (xs.map fp) (ys.map fp)))) H
    rw [eqvAll_flat fx fy]; exact k)
theorem up_eqTT (hp : SqT K H p xs) (hq : SqT K H q ys) (fx : xs.all flat0 = true) (fy : ys.all flat0 = true) (k : Up (Q (.bl (decide (xs = ys)))) H) : Up (fun H1 => rEqD K (.ref p) (.ref q) H1 Q) H :=
  up_eqD (.tup hp (dpAll_flat fx)) (.tup hq (dpAll_flat fy)) (shaped_tuple _) (shaped_tuple _) (by
    show Up (Q (.bl (PyData.eqvAll (xs.map fp) (ys.map fp)))) H
    rw [eqvAll_flat fx fy]; exact k)
theorem up_neTT (hp : SqT K H p xs) (hq : SqT K H q ys) (fx : xs.all flat0 = true) (fy : ys.all flat0 = true) (k : Up (Q (.bl (!decide (xs = ys)))) H) : Up (fun H1 => rNeD K (.ref p) (.ref q) H1 Q) H :=
  up_neD (.tup hp (dpAll_flat fx)) (.tup hq (dpAll_flat fy)) (shaped_tuple _) (shaped_tuple _) (by
    show Up (Q (.bl (!PyData.eqvAll (xs.map fp) (ys.map fp)))) H
    rw [eqvAll_flat fx fy]; exact k)
theorem flat0_rv (row : List (Option Nat)) (rv : Option Nat → V) (h : ∀ o, flat0 (rv o) = true) : (row.map rv).all flat0 = true := by
  rw [List.all_map, List.all_eq_true]
  exact fun o _ => h o
theorem flat0_ints (ns : List Int) : (ns.map V.int).all flat0 = true := by
  rw [List.all_map, List.all_eq_true]
  exact fun o _ => rfl
end
section
variable {X : Cx} {st : Stmt} {rest : List Stmt} {t u : TS}
/-- a statement, then the rest, with a word between them -/
def tCut (t u : TS) : TS := fun D σ H => ∃ Mid : St → Hp → Prop, t { D with nx := Mid } σ H ∧ ∀ σ' H', Mid σ' H' → u D σ' H'
theorem kp_cut (h1 : PS X st t) (h2 : PSs X rest u) : PSs X (st :: rest) (tCut t u) := by
  refine ⟨fun pins s σ H D I h => ?_⟩
  obtain ⟨Mid, hm, hu⟩ := h
  refine wpAny_execs_cons (thn (h1.run pins s σ H { D with nx := Mid } I hm) fun f s1 q => ?_)
  cases f with
  | next =>
    obtain ⟨σ', H', I', q⟩ := q
    exact h2.run pins s1 σ' H' D I' (hu σ' H' q)
  | ret v => exact q
  | brk => exact q
  | cont => exact q
theorem up_cut {n bk ct : St → Hp → Prop} {r : VK} {σ : St} {H : Hp} (M : St → Hp → Prop) (h : Up (t (Ends.mk (Lo M) r bk ct) σ) H) (k : ∀ σ' H', M σ' H' → Up (u (Ends.mk n r bk ct) σ') H') : Up (tCut t u (Ends.mk n r bk ct) σ) H :=
  fun H1 e => ⟨Lo M, h H1 e, fun σ' H' ⟨H0, e0, m⟩ => k σ' H0 m H' e0⟩
end
/-- the law's end: whatever the heap, True -/
def fLaw (K : PySem.W.Frag) : List V → Hp → VK → Prop := fun vs H Q => ∃ (a : Addr) (ns : List Int), vs = [.ref a] ∧ SqL K H a (ns.map V.int) ∧ ns.length ≤ 63 ∧ Up (Q (.bl true)) H
end Kp

namespace Kp
open PySem L2
def rFindZ : V → List V → Hp → VK → Prop := fun x xs H Q => ∃ a b, x = .str a ∧ xs = [.str b] ∧ Q (.int (PySem.Txt.find a b)) H
def rJoinZ (K : PySem.W.Frag) : V → List V → Hp → VK → Prop := fun x xs H Q => ∃ a p, ∃ ys : List Str, x = .str a ∧ xs = [.ref p] ∧ (SqL K H p (ys.map V.str) ∨ SqT K H p (ys.map V.str)) ∧ (ys.map (·.length)).sum + ys.length * a.length ≤ 16777216 ∧ Q (.str (PySem.Txt.join a ys)) H
def rIndexZ : V → List V → Hp → VK → Prop := fun x xs H Q => ∃ a b i rest, x = .str a ∧ xs = [.str b] ∧ PySem.Builtin.Str.occurrences a b 0 a.length 1 = i :: rest ∧ Q (.int (i : Nat)) H
section
variable {X : Cx}
theorem kt_find : MtR X "str.find" rFindZ := mt_find
theorem kt_join : MtR X "str.join" (rJoinZ X.K) := mt_join
theorem kt_sindex : MtR X "str.index" rIndexZ := mt_sindex
theorem kp_glob {x : Str} {v : V} {pos : Pos} (hg : Gl X x) (h : ∃ u, X.mg x = some u ∧ RelV v u) (hd : (x == ("__debug__" : Str)) = false := by decide) : PE X (.Name x pos) (tC v) := by
  obtain ⟨u, hm, r⟩ := h
  exact pe_glob hg hm r hd
end
section
variable {K : PySem.W.Frag} {H : Hp} {σ : St} {Q : VK} {a b : Str} {n bk ct : St → Hp → Prop} {r : VK} {ts : TS} {t : TT} {te : TE} {xs : List V}
theorem up_find (k : Up (Q (.int (PySem.Txt.find a b))) H) : Up (bmB rFindZ (.str a) Q [.str b]) H := fun H1 e => ⟨a, b, rfl, rfl, k H1 e⟩
theorem up_join {p : Addr} {ys : List Str} (h : SqL K H p (ys.map V.str)) (hz : (ys.map (·.length)).sum + ys.length * a.length ≤ 16777216) (k : Up (Q (.str (PySem.Txt.join a ys))) H) : Up (bmB (rJoinZ K) (.str a) Q [.ref p]) H :=
  fun H1 e => ⟨a, p, ys, rfl, rfl, .inl (sq_up e h), hz, k H1 e⟩
theorem up_sindex {i : Nat} {rest : List Nat} (h : PySem.Builtin.Str.occurrences a b 0 a.length 1 = i :: rest) (k : Up (Q (.int (i : Nat))) H) : Up (bmB rIndexZ (.str a) Q [.str b]) H := fun H1 e => ⟨a, b, i, rest, rfl, rfl, h, k H1 e⟩
theorem up_addS (h : a.length + b.length ≤ 100000) (k : Up (Q (.str (a ++ b))) H) : Up (fun H1 => rAddS (.str a) (.str b) H1 Q) H := fun H1 e => ⟨a, b, rfl, rfl, sz h, k H1 e⟩
/-- for over a text's signs -/
theorem up_forS {z : Str} {j : Nat} (I : Nat → St → Hp → Prop) (h0 : I 0 σ H)
    (hs : ∀ i c σ' H', z.cps[i]? = some c → I i σ' H' → Up (ts (turnE I i n r) (σ'.set j (some (.str ⟨#[c]⟩)))) H') (hd : ∀ σ' H', I z.cps.size σ' H' → Up (n σ') H') : Up (itK (gName j) ts (Ends.mk n r bk ct) σ (Its z)) H := fun H1 e => by
  refine ⟨fun i m σ' H' => m = z.cps.size - i ∧ i ≤ z.cps.size ∧ Lo (I i) σ' H', ⟨z.cps.size, by simp, Nat.zero_le _, H, e, h0⟩, ?_⟩
  rintro i m σ' H' ⟨rfl, hi, H0, e0, p⟩
  by_cases hlt : i < z.cps.size
  · refine .inr ⟨hlt, Lo (I (i + 1)), fun σ2 H2 q => ⟨z.cps.size - (i + 1), by omega, rfl, hlt, q⟩, fun x H2 y => ?_⟩
    obtain ⟨rfl, c, hc, rfl⟩ := y
    exact hs i c σ' H0 hc p _ e0
  · have q : i = z.cps.size := by omega
    subst q
    exact .inl ⟨Nat.le_refl _, hd σ' H0 p H' e0⟩
theorem up_lcS {z : Str} {j : Nat} {vs : List Nat} (hw : ∀ x, wipe ((wipe σ vs).set j (some x)) vs = wipe σ vs) (I : Addr → Nat → Hp → Prop) (h0 : ∀ D, H D = none → I D 0 (upd H D (.lst [])))
    (hs : ∀ D i c H', H D = none → z.cps[i]? = some c → I D i H' → Up (fun H1 => t ((wipe σ vs).set j (some (.str ⟨#[c]⟩))) H1 (keepD te ((wipe σ vs).set j (some (.str ⟨#[c]⟩))) D (Lh (I D (i + 1))))) H') (hd : ∀ D H', H D = none → I D z.cps.size H' → Up (Q (.ref D)) H') :
    Up (lcK (gName j) t te vs σ Q (Its z)) H := fun H1 e D hD => by
  refine ⟨fun i m H' => m = z.cps.size - i ∧ i ≤ z.cps.size ∧ Lh (I D i) H', ⟨z.cps.size, by simp, Nat.zero_le _, _, same_upd e, h0 D (e.free hD)⟩, ?_⟩
  rintro i m H' ⟨rfl, hi, H0, e0, p⟩
  by_cases hlt : i < z.cps.size
  · refine .inr ⟨hlt, Lh (I D (i + 1)), fun H2 q => ⟨z.cps.size - (i + 1), by omega, rfl, hlt, q⟩, fun x H2 y => ?_⟩
    obtain ⟨rfl, c, hc, rfl⟩ := y
    exact ⟨hw _, hs D i c H0 (e.free hD) hc p _ e0⟩
  · have q : i = z.cps.size := by omega
    subst q
    exact .inl ⟨Nat.le_refl _, hd D H0 (e.free hD) p H' e0⟩
end
/-! ### script[1:n] -/
theorem cut_map (ns : List Int) (lo hi : Option Int) : cutV (ns.map V.int) lo hi = ((ns.drop (HT.sIx ns.length 0 lo)).take (HT.sIx ns.length ns.length hi - HT.sIx ns.length 0 lo)).map V.int := by
  unfold cutV
  rw [List.length_map, ← List.map_drop, ← List.map_take]
theorem cut_some (ns : List Int) (lo hi : Option Int) : ∃ ms : List Int, cutV (ns.map V.int) lo hi = ms.map V.int ∧ ms.length ≤ ns.length := ⟨_, cut_map ns lo hi, by
  rw [List.length_take, List.length_drop]
  omega⟩
theorem cut_ms (ns : List Int) (n : Nat) : ∃ ms : List Int, cutV (ns.map V.int) (some 1) (some (n : Int)) = ms.map V.int ∧ ms.length ≤ n := ⟨_, cut_map ns _ _, by
  rw [List.length_take]
  have h1 : HT.sIx ns.length ns.length (some (n : Int)) = min n ns.length := HT.sIx_nat ns.length ns.length n
  rw [h1]
  omega⟩
end Kp

namespace Kp
open PySem L2
def cell (ns : List Int) (k : Int) : Int := ns.getD k.toNat 0
/-! ### rows -/
def rv : Option Nat → V
  | none => .non
  | some k => .int k
theorem rv_at {row : List (Option Nat)} {i : Nat} {z : Int} (e : z = i) (h : i < row.length) : atI (row.map rv) z = some (rv row[i]) := at_of e (by rw [List.getElem?_map, List.getElem?_eq_getElem h]; rfl)
/-- too near -/
def Pc (row : List (Option Nat)) (apart : Int) (a b : Nat) : Prop := a < b ∧ ∃ k, row[a]? = some (some k) ∧ row[b]? = some (some k) ∧ (b : Int) - a - 1 < apart
def First (row : List (Option Nat)) (apart : Int) : Option (Nat × Nat) → Prop
  | none => ∀ a b, ¬ Pc row apart a b
  | some (a, b) => Pc row apart a b ∧ ∀ a' b', Pc row apart a' b' → b < b' ∨ (b = b' ∧ a' ≤ a)
theorem First.one {row : List (Option Nat)} {apart : Int} : ∀ {r r' : Option (Nat × Nat)}, First row apart r → First row apart r' → r = r'
  | none, none, _, _ => rfl
  | none, some (a, b), h, h' => absurd h'.1 (h a b)
  | some (a, b), none, h, h' => absurd h.1 (h' a b)
  | some (a, b), some (c, d), h, h' => by
    have h1 := h.2 _ _ h'.1
    have h2 := h'.2 _ _ h.1
    have e1 : b = d := by omega
    have e2 : a = c := by omega
    rw [e1, e2]
def clRes (H : Hp) (Q : VK) : Option (Nat × Nat) → Prop
  | none => Up (Q .non) H
  | some (a, b) => ∀ p, H p = none → Up (Q (.ref p)) (upd H p (.tup [.int a, .int b]))

end Kp
namespace Kp
open PySem L2
/-! ### rows as texts -/
def code : Option Nat → Nat
  | none => 46
  | some k => 97 + k
def sgn (o : Option Nat) : Str := ⟨#[code o]⟩
def txt (row : List (Option Nat)) : Str := ⟨(row.map code).toArray⟩
def letters : Str := ⟨[97, 98, 99, 100, 101, 102, 103, 104, 105, 106, 107, 108, 109, 110, 111, 112, 113, 114, 115, 116, 117, 118, 119, 120, 121, 122].toArray⟩
def Good (row : List (Option Nat)) : Prop := ∀ k, some k ∈ row → k < 26
theorem letters_eq : (Str.ofString "abcdefghijklmnopqrstuvwxyz") = letters := by decide +kernel
theorem dot_eq : (Str.ofString ".") = sgn none := by decide +kernel
theorem nil_eq : (Str.ofString "") = txt [] := by decide +kernel
theorem find_letter : ∀ k, k < 26 → PySem.Txt.find letters ⟨#[97 + k]⟩ = ((k : Nat) : Int) := by decide +kernel
theorem at_letter {k : Nat} (h : k < 26) : letters.cps.toList[k]? = some (97 + k) := by
  have e : ∀ k, k < 26 → letters.cps.toList[k]? = some (97 + k) := by decide +kernel
  exact e k h
theorem letters_len : letters.length ≤ 100000 := by decide +kernel
theorem txt_snoc (row : List (Option Nat)) (o : Option Nat) : txt row ++ sgn o = txt (row ++ [o]) := by
  refine TL.ext_tl ?_
  rw [TL.tl_append]
  show row.map code ++ [code o] = (row ++ [o]).map code
  rw [List.map_append]
  rfl
theorem txt_len (row : List (Option Nat)) : (txt row).length = row.length := by
  rw [TL.len_tl]
  show (row.map code).length = row.length
  rw [List.length_map]
theorem txt_size (row : List (Option Nat)) : (txt row).cps.size = row.length := by
  show (row.map code).toArray.size = row.length
  simp
theorem txt_at {row : List (Option Nat)} {i c : Nat} (h : (txt row).cps[i]? = some c) : ∃ o, row[i]? = some o ∧ c = code o := by
  have h' : (row.map code)[i]? = some c := by
    have : (row.map code).toArray[i]? = some c := h
    simpa using this
  rw [List.getElem?_map] at h'
  cases e : row[i]? with
  | none => rw [e] at h'; cases h'
  | some o => rw [e] at h'; exact ⟨o, rfl, (Option.some.inj h').symm⟩
theorem joinL_nil : ∀ row : List (Option Nat), TL.joinL [] (row.map fun o => [code o]) = row.map code
  | [] => rfl
  | [o] => rfl
  | o :: p :: r => by
    have h := joinL_nil (p :: r)
    show [code o] ++ ([] ++ TL.joinL [] ((p :: r).map fun o => [code o])) = _
    rw [h]
    rfl
theorem join_txt (row : List (Option Nat)) : PySem.Txt.join (txt []) (row.map sgn) = txt row := by
  refine TL.ext_tl ?_
  rw [TL.join_eq, TL.tl_join, List.map_map]
  exact joinL_nil row
theorem join_len (row : List (Option Nat)) : ((row.map sgn).map (·.length)).sum + (row.map sgn).length * (txt []).length = row.length := by
  have e : (txt []).length = 0 := rfl
  rw [e, Nat.mul_zero, Nat.add_zero]
  induction row with
  | nil => rfl
  | cons o r ih =>
    rw [List.map_cons, List.map_cons, List.sum_cons, ih, List.length_cons]
    show 1 + r.length = _
    omega
theorem rv_flat (row : List (Option Nat)) : (row.map rv).all flat0 = true := flat0_rv row rv fun o => by cases o <;> rfl
theorem Good.at {row : List (Option Nat)} (h : Good row) {i : Nat} {o : Option Nat} (e : row[i]? = some o) : ∀ k, o = some k → k < 26 := fun k q => h k (by rw [← q]; exact List.mem_of_getElem? e)

end Kp
namespace Kp
open PySem L2
def top (i : Nat) : Stmt := PySem.Challenge.pw_keepaway_k13_written.main.body.getD i (.Pass ⟨0, 0, 0, 0⟩)
local macro_rules | `(tactic| walk_at "s") => `(tactic| with_reducible first
  | refine up_seq ?_ | refine up_asg ?_ | refine up_name ?_ | refine up_ret ?_ | refine up_if ?_ | refine up_next ?_ | refine up_brk ?_ | refine up_cont ?_ | refine up_drop ?_ | refine up_drK ?_
  | refine up_var (by with_unfolding_all rfl) ?_ | refine up_c ?_ | refine up_op ?_ | refine up_un ?_ | refine up_I0 ?_ | refine up_U ?_ | refine up_eqI ?_ | refine up_neI ?_ | refine up_isN ?_ | refine up_notN ?_
  | refine up_test ?_ | refine up_tB ?_ | refine up_asB ?_ | refine up_and ?_ | refine up_or ?_ | refine up_not ?_ | refine up_notK ?_ | refine up_andVt ?_ | refine up_orVt ?_ | refine up_notVt ?_ | refine up_notV ?_
  | refine up_cons ?_ | refine up_consA ?_ | refine up_consB ?_ | refine up_nil ?_ | refine up_tup ?_ | refine up_lst ?_ | refine up_callT ?_ | refine up_CB ?_ | refine up_BM ?_ | refine up_BM0 ?_
  | refine up_for ?_ | refine up_iList ?_ | refine up_iRng1 ?_ | refine up_iRng2 ?_ | refine up_iRng3 ?_ | refine up_iStr ?_ | refine up_ist ?_ | refine up_lc ?_ | refine up_yes ?_
  | refine up_sub ?_ | refine up_subK ?_ | refine up_sl ?_ | refine up_slK ?_ | refine up_oK ?_ | refine up_noPart ?_ | refine up_part ?_ | refine up_partK ?_ | refine up_tru ?_ | refine up_ifE ?_ | refine up_din ?_ | refine up_dnotin ?_ | refine up_dinA ?_ | refine up_dget ?_ | refine up_dgA ?_ | refine up_dput ?_ | refine up_dpA ?_ | refine up_dpB ?_ | refine up_dget2 ?_ | refine up_d2B ?_ | refine up_dpop1 ?_ | refine up_fld ?_ | refine up_sfld ?_ | refine up_sfA ?_ | refine up_meth ?_ | refine up_make ?_ | refine up_slK ?_ | refine up_max2 ?_ | refine up_min2 ?_)
local macro_rules | `(tactic| walk_at "r") => `(tactic| repeat (walk_at "s"))
section
variable {P : Program} {w : World} {K : PySem.W.Frag} {mg : Str → Option Value} {base : Heap}

def fWhole : List V → Hp → VK → Prop := fun vs H Q => ∃ i : Int, vs = [.int i] ∧ Up (Q (.bl true)) H
abbrev s_law_whole : Stmt := top 11
theorem sc_law_whole : FnScope ["found"] ["found"] (defScope s_law_whole) := ⟨rfl, rfl, rfl, by decide +kernel, rfl, by decide +kernel, by decide +kernel⟩
theorem ok_law_whole {f : Addr} {fd : FuncData} (F : Fun K "_law_whole" "_law_whole" s_law_whole f fd) (T : Bl mg) : FnOk P w K mg base CX0 1 f fd ["found"] (KSp fWhole) := by
  refine F.ok sc_law_whole (fun vs H Q E h => ?_) (fun cdv A outer s H vs Q E hr h => ?_)
  · obtain ⟨_, _, i, rfl, _⟩ := h
    rfl
  obtain ⟨H0, e0, i, rfl, q⟩ := h
  refine ⟨_, (pss_one (ps_ret (pe_and (pe_callB call_isi (by rfl) T.isi (by decide +kernel) (pa_cons (pv 0) (pa_cons (pe_bltn (v := .ty "int") (by rfl) T.int (by decide +kernel) rfl) pa_nil))) (pe_one (pe_not (pe_callB call_isi (by rfl) T.isi (by decide +kernel) (pa_cons (pv 0) (pa_cons (pe_bltn (v := .ty "bool") (by rfl) T.bool (by decide +kernel) rfl) pa_nil)))))))), ?_⟩
  refine (?_ : Up _ H0) H e0
  walk_at "r"
  refine up_isi (.base (.int i)) (r := true) (by decide +kernel) ?_
  refine up_andVK (fun _ => ?_) (fun h => nomatch h)
  walk_at "r"
  refine up_isi (.base (.int i)) (r := false) (by decide +kernel) ?_
  walk_at "r"
  exact q

def fLawList (K : PySem.W.Frag) : List V → Hp → VK → Prop := fun vs H Q => ∃ (p q : Addr) (xs : List V), vs = [.ref p, .ref q] ∧ H p = some (.lst xs) ∧ SqL K H q xs ∧ xs.all flat0 = true ∧ xs.length ≤ 1000 ∧ Up (Q (.bl true)) H
abbrev s_law_list : Stmt := top 13
theorem sc_law_list : FnScope ["found", "due", "k"] ["found", "due"] (defScope s_law_list) := ⟨rfl, rfl, rfl, by decide +kernel, rfl, by decide +kernel, by decide +kernel⟩
theorem ok_law_list {f : Addr} {fd : FuncData} (F : Fun K "_law_list" "_law_list" s_law_list f fd) (T : Bl mg) (c_law_whole : Fn P w K mg base CX0 1 "_law_whole" ["found"] (KSp fWhole)) : FnOk P w K mg base CX0 2 f fd ["found", "due"] (KSp (fLawList K)) := by
  refine F.ok sc_law_list (fun vs H Q E h => ?_) (fun cdv A outer s H vs Q E hr h => ?_)
  · obtain ⟨_, _, p, q, xs, rfl, _⟩ := h
    rfl
  obtain ⟨H0, e0, p, q, xs, rfl, hp, hq, hf, hn, k⟩ := h
  refine ⟨_, (pss_cons (ps_if (PW.pt (pw_or (pt_not (pt_val (pe_callB call_isi (by rfl) T.isi (by decide +kernel) (pa_cons (pv 0) (pa_cons (pe_bltn (v := .ty "list") (by rfl) T.list (by decide +kernel) rfl) pa_nil))))) (pw_or1 (pt_cmpR op_ne (pe_callB kc_len (by rfl) T.len (by decide +kernel) (pa_cons (pv 0) pa_nil)) (pe_callB kc_len (by rfl) T.len (by decide +kernel) (pa_cons (pv 1) pa_nil)) (by first | exact nomark _ | rfl))))) (pss_one (ps_ret pe_bl)) pss_nil)
      (pss_cons (ps_for PassesOwn.never rfl (pi_range1 rfl T.range (pa_cons (pe_callB kc_len (by rfl) T.len (by decide +kernel) (pa_cons (pv 1) pa_nil)) pa_nil)) (pg_name (i := 2) sc_law_list.nd rfl (by first | exact Or.inl rfl | exact Or.inr rfl)) (pss_cons (ps_if (PW.pt (pw_and (pt_cmpR op_notN1 (pe_ix ix_list (pv 0) (pv 2) (fun _ _ => rfl)) pe_non (by first | exact nomark _ | rfl)) (pw_and1 (pt_not (pt_val (kp_call c_law_whole hr (by decide) rfl (pa_cons (pe_ix ix_list (pv 0) (pv 2) (fun _ _ => rfl)) pa_nil))))))) (pss_one (ps_ret pe_bl)) pss_nil)
      (pss_one (ps_if (pt_cmpR op_ne (pe_ix ix_list (pv 0) (pv 2) (fun _ _ => rfl)) (pe_ix ix_list (pv 1) (pv 2) (fun _ _ => rfl)) (by first | exact nomark _ | rfl)) (pss_one (ps_ret pe_bl)) pss_nil))))
      (pss_one (ps_ret pe_bl)))), ?_⟩
  refine (?_ : Up _ H0) H e0
  have hP : SqL K H0 p xs := SqL.of hp
  walk_at "r"
  refine up_isi (.base (.lst hp)) (r := true) (by decide +kernel) ?_
  walk_at "r"
  refine up_orF rfl ?_
  walk_at "r"
  refine up_len hP ?_
  walk_at "r"
  refine up_len hq ?_
  walk_at "r"
  refine up_ifF (by simp) ?_
  walk_at "r"
  refine up_len hq ?_
  walk_at "r"
  refine up_rg1 (by omega) (by omega) ?_
  refine up_forR0 (fun i σ H' => H' = H0 ∧ ∃ v2, σ = [some (.ref p), some (.ref q), v2]) ⟨rfl, none, rfl⟩ ?_ ?_
  · rintro i σ H' hi ⟨rfl, v2, rfl⟩
    have hi' : i < xs.length := by omega
    have hx : atI xs (i : Int) = some xs[i] := atI_nat (List.getElem?_eq_getElem hi')
    have hfx : flat0 xs[i] = true := List.all_eq_true.mp hf _ (List.getElem_mem hi')
    generalize xs[i] = x at hx hfx
    walk_at "r"
    refine up_ixL hP hx ?_
    walk_at "r"
    cases x with
    | non =>
      refine up_andF rfl ?_
      refine up_ifF rfl ?_
      walk_at "r"
      refine up_ixL hP hx ?_
      walk_at "r"
      refine up_ixL hq hx ?_
      refine up_neV rfl ?_
      walk_at "r"
      refine up_ifF (by simp) ?_
      walk_at "r"
      exact up_lo ⟨rfl, _, rfl⟩
    | int j =>
      refine up_andT rfl ?_
      walk_at "r"
      refine up_ixL hP hx ?_
      walk_at "r"
      refine up_call ⟨j, rfl, ?_⟩
      walk_at "r"
      refine up_ifF rfl ?_
      walk_at "r"
      refine up_ixL hP hx ?_
      walk_at "r"
      refine up_ixL hq hx ?_
      walk_at "r"
      refine up_ifF (by simp) ?_
      walk_at "r"
      exact up_lo ⟨rfl, _, rfl⟩
    | _ => cases hfx
  · rintro σ H' ⟨rfl, v2, rfl⟩
    walk_at "r"
    exact k

structure Zn (mg : Str → Option Value) : Prop where
  g_LETTERS : ∃ u, mg "LETTERS" = some u ∧ RelV (.str letters) u
abbrev s_sign_of : Stmt := top 5
theorem sc_sign_of : FnScope ["kind"] ["kind"] (defScope s_sign_of) := ⟨rfl, rfl, rfl, by decide +kernel, rfl, by decide +kernel, by decide +kernel⟩
def fSignOf : List V → Hp → VK → Prop := fun vs H Q => ∃ o : Option Nat, vs = [rv o] ∧ (∀ k, o = some k → k < 26) ∧ Up (Q (.str (sgn o))) H
theorem ok_sign_of {f : Addr} {fd : FuncData} (F : Fun K "sign_of" "sign_of" s_sign_of f fd) (T : Bl mg) (Z : Zn mg) : FnOk P w K mg base CX0 1 f fd ["kind"] (KSp fSignOf) := by
  refine F.ok sc_sign_of (fun vs H Q E h => ?_) (fun cdv A outer s H vs Q E hr h => ?_)
  · obtain ⟨_, _, o, rfl, _⟩ := h
    rfl
  obtain ⟨H0, e0, o, rfl, ho, k⟩ := h
  refine ⟨_, (pss_cons (ps_if (pt_cmpR op_isN1 (pv 0) pe_non (by first | exact nomark _ | rfl)) (pss_one (ps_ret pe_str)) pss_nil)
      (pss_one (ps_ret (pe_ix ix_str (kp_glob rfl Z.g_LETTERS) (pv 0) (fun _ _ => rfl))))), ?_⟩
  refine (?_ : Up _ H0) H e0
  walk_at "r"
  cases o with
  | none =>
    refine up_ifT rfl ?_
    walk_at "r"
    rw [dot_eq]
    exact k
  | some m =>
    refine up_ifF rfl ?_
    walk_at "r"
    refine up_ixS (c := 97 + m) letters_len (atI_nat (at_letter (ho m rfl))) ?_
    exact k
abbrev s_shown : Stmt := top 6
theorem sc_shown : FnScope ["row", "kind"] ["row"] (defScope s_shown) := ⟨rfl, rfl, rfl, by decide +kernel, rfl, by decide +kernel, by decide +kernel⟩
def fShown (K : PySem.W.Frag) : List V → Hp → VK → Prop := fun vs H Q => ∃ (l : Addr) (row : List (Option Nat)), vs = [.ref l] ∧ SqL K H l (row.map rv) ∧ Good row ∧ row.length ≤ 1000 ∧ Up (Q (.str (txt row))) H
theorem ok_shown {f : Addr} {fd : FuncData} (F : Fun K "shown" "shown" s_shown f fd) (T : Bl mg) (c_sign_of : Fn P w K mg base CX0 1 "sign_of" ["kind"] (KSp fSignOf)) : FnOk P w K mg base CX0 2 f fd ["row"] (KSp (fShown K)) := by
  refine F.ok sc_shown (fun vs H Q E h => ?_) (fun cdv A outer s H vs Q E hr h => ?_)
  · obtain ⟨_, _, l, row, rfl, _⟩ := h
    rfl
  obtain ⟨H0, e0, l, row, rfl, hS, hg, hn, k⟩ := h
  refine ⟨_, (pss_one (ps_ret (pe_bm PySem.F.plainAttrs_str PySem.F.slot_str_join PySem.F.type_str_join kt_join pe_str (pa_cons (pe_lc (own := [("kind", 1)]) (g := gName 1) (tt := tYes) rfl sc_shown.nd (pi_list (pv 0)) (blkOk_by (own := [("kind", 1)]) (N := ["row", "kind"]) (sc := defScope s_shown) (by decide +kernel)) (fun _ _ _ _ _ => pg_name (i := 1) sc_shown.nd rfl (by first | exact Or.inl rfl | exact Or.inr rfl)) (fun _ _ _ _ _ => pts_nil) (fun _ _ _ _ _ => (kp_call c_sign_of hr (by decide) rfl (pa_cons (pv 1) pa_nil)))) pa_nil)))), ?_⟩
  refine (?_ : Up _ H0) H e0
  walk_at "r"
  refine up_bmS ?_
  walk_at "r"
  refine up_itl hS ?_
  have s1 : ∀ D o, H0 D = none → SqL K (upd H0 D o) l (row.map rv) := fun D o hD => sq_up (same_new hD o) hS
  refine up_lcL (fun _ => rfl) (fun D i H' => H0 D = none ∧ H' = upd H0 D (.lst (((row.take i).map sgn).map V.str))) (fun D hD => ⟨hD, rfl⟩) (fun D i H' _ e => by rw [e.2]; exact s1 D _ e.1) ?_ ?_
  · rintro D i x H' hD hx ⟨_, rfl⟩
    rw [List.getElem?_map] at hx
    cases e : row[i]? with
    | none => rw [e] at hx; cases hx
    | some o =>
      rw [e] at hx
      have ex : x = rv o := (Option.some.inj hx).symm
      subst ex
      walk_at "r"
      refine up_keep1 rfl ?_
      walk_at "r"
      refine up_call ⟨o, rfl, hg.at e, ?_⟩
      have hlt : i < row.length := (List.getElem?_eq_some_iff.mp e).1
      refine up_putD upd_same (by rw [List.length_map, List.length_map, List.length_take]; omega) ?_
      refine up_lh ⟨hD, ?_⟩
      rw [upd_upd, List.take_add_one, e, List.map_append, List.map_append]
      rfl
  · rintro D H' hD ⟨_, rfl⟩
    rw [List.length_map, List.take_length]
    walk_at "r"
    refine up_join (SqL.of upd_same) (by rw [nil_eq, join_len]; omega) ?_
    rw [nil_eq, join_txt]
    exact k.mono (same_new hD _)
abbrev s_kind_of : Stmt := top 7
theorem sc_kind_of : FnScope ["sign", "kind"] ["sign"] (defScope s_kind_of) := ⟨rfl, rfl, rfl, by decide +kernel, rfl, by decide +kernel, by decide +kernel⟩
def fKindOf : List V → Hp → VK → Prop := fun vs H Q => ∃ o : Option Nat, vs = [.str (sgn o)] ∧ (∀ k, o = some k → k < 26) ∧ Up (Q (rv o)) H
theorem ok_kind_of {f : Addr} {fd : FuncData} (F : Fun K "kind_of" "kind_of" s_kind_of f fd) (T : Bl mg) (Z : Zn mg) : FnOk P w K mg base CX0 1 f fd ["sign"] (KSp fKindOf) := by
  refine F.ok sc_kind_of (fun vs H Q E h => ?_) (fun cdv A outer s H vs Q E hr h => ?_)
  · obtain ⟨_, _, o, rfl, _⟩ := h
    rfl
  obtain ⟨H0, e0, o, rfl, ho, k⟩ := h
  refine ⟨_, (pss_cons (ps_if (pt_cmpR op_eq (pv 0) pe_str (by first | exact nomark _ | rfl)) (pss_one (ps_ret pe_non)) pss_nil)
      (pss_cons (ps_set (i := 1) sc_kind_of.nd rfl (by first | exact Or.inl rfl | exact Or.inr rfl) (pe_bm PySem.F.plainAttrs_str PySem.F.slot_str_find PySem.F.type_str_find kt_find (kp_glob rfl Z.g_LETTERS) (pa_cons (pv 0) pa_nil)))
      (pss_cons (ps_if (pt_cmpR op_lt (pv 1) pe_int (by first | exact nomark _ | rfl)) (pss_one ps_never) pss_nil)
      (pss_one (ps_ret (pv 1)))))), ?_⟩
  refine (?_ : Up _ H0) H e0
  walk_at "r"
  refine up_eqV rfl ?_
  rw [dot_eq]
  walk_at "r"
  cases o with
  | none =>
    refine up_ifT (decide_eq_true rfl) ?_
    walk_at "r"
    exact k
  | some m =>
    have hm := ho m rfl
    have ne : ¬ V.str (sgn (some m)) = V.str (sgn none) := fun e => by
      have e2 : (#[97 + m] : Array Nat) = #[46] := congrArg Str.cps (V.str.inj e)
      have e3 : 97 + m = 46 := by simpa using e2
      omega
    refine up_ifF (decide_eq_false ne) ?_
    walk_at "r"
    refine up_bmS ?_
    walk_at "r"
    refine up_find ?_
    rw [show PySem.Txt.find letters (sgn (some m)) = (m : Int) from find_letter m hm]
    walk_at "r"
    refine up_ifF (decide_eq_false (by omega)) ?_
    walk_at "r"
    exact k
abbrev s_read : Stmt := top 8
theorem sc_read : FnScope ["text", "sign"] ["text"] (defScope s_read) := ⟨rfl, rfl, rfl, by decide +kernel, rfl, by decide +kernel, by decide +kernel⟩
def fRead : List V → Hp → VK → Prop := fun vs H Q => ∃ row : List (Option Nat), vs = [.str (txt row)] ∧ Good row ∧ row.length ≤ 1000 ∧ ∀ p, H p = none → Up (Q (.ref p)) (upd H p (.lst (row.map rv)))
theorem ok_read {f : Addr} {fd : FuncData} (F : Fun K "read" "read" s_read f fd) (T : Bl mg) (c_kind_of : Fn P w K mg base CX0 1 "kind_of" ["sign"] (KSp fKindOf)) : FnOk P w K mg base CX0 2 f fd ["text"] (KSp fRead) := by
  refine F.ok sc_read (fun vs H Q E h => ?_) (fun cdv A outer s H vs Q E hr h => ?_)
  · obtain ⟨_, _, row, rfl, _⟩ := h
    rfl
  obtain ⟨H0, e0, row, rfl, hg, hn, k⟩ := h
  refine ⟨_, (pss_one (ps_ret (pe_lc (own := [("sign", 1)]) (g := gName 1) (tt := tYes) rfl sc_read.nd (pi_str (pv 0)) (blkOk_by (own := [("sign", 1)]) (N := ["text", "sign"]) (sc := defScope s_read) (by decide +kernel)) (fun _ _ _ _ _ => pg_name (i := 1) sc_read.nd rfl (by first | exact Or.inl rfl | exact Or.inr rfl)) (fun _ _ _ _ _ => pts_nil) (fun _ _ _ _ _ => (kp_call c_kind_of hr (by decide) rfl (pa_cons (pv 1) pa_nil)))))), ?_⟩
  refine (?_ : Up _ H0) H e0
  walk_at "r"
  refine up_lcS (fun _ => rfl) (fun D i H' => H' = upd H0 D (.lst ((row.take i).map rv))) (fun D hD => rfl) ?_ ?_
  · rintro D i c H' hD hc rfl
    obtain ⟨o, ho, rfl⟩ := txt_at hc
    walk_at "r"
    refine up_keep1 rfl ?_
    walk_at "r"
    refine up_call ⟨o, rfl, hg.at ho, ?_⟩
    have hlt : i < row.length := (List.getElem?_eq_some_iff.mp ho).1
    refine up_putD upd_same (by rw [List.length_map, List.length_take]; omega) ?_
    refine up_lh ?_
    rw [upd_upd, List.take_add_one, ho, List.map_append]
    rfl
  · rintro D H' hD rfl
    rw [txt_size, List.take_length]
    exact k D hD

abbrev s_law : Stmt := top 16
theorem sc_law : FnScope ["script", "row", "due", "cell", "handed", "text", "found"] ["script"] (defScope s_law) := ⟨rfl, rfl, rfl, by decide +kernel, rfl, by decide +kernel, by decide +kernel⟩
theorem ok_law {f : Addr} {fd : FuncData} (F : Fun K "law" "law" s_law f fd) (T : Bl mg) (c_law_list : Fn P w K mg base CX0 2 "_law_list" ["found", "due"] (KSp (fLawList K))) (c_shown : Fn P w K mg base CX0 2 "shown" ["row"] (KSp (fShown K))) (c_read : Fn P w K mg base CX0 2 "read" ["text"] (KSp fRead)) :
    FnOk P w K mg base CX0 3 f fd ["script"] (KSp (fLaw K)) := by
  refine F.ok sc_law (fun vs H Q E h => ?_) (fun cdv A outer s H vs Q E hr h => ?_)
  · obtain ⟨_, _, a, ns, rfl, _⟩ := h
    rfl
  obtain ⟨H0, e0, a, ns, rfl, hS, hn, q⟩ := h
  refine ⟨_, (pss_cons (ps_set (i := 1) sc_law.nd rfl (by first | exact Or.inl rfl | exact Or.inr rfl) (pe_lst pa_nil))
      (pss_cons (ps_set (i := 2) sc_law.nd rfl (by first | exact Or.inl rfl | exact Or.inr rfl) pe_str)
      (pss_cons (ps_for PassesOwn.never rfl (pi_list (pe_slice sl_list (pv 0) (po_some pe_int) (po_some pe_int))) (pg_name (i := 3) sc_law.nd rfl (by first | exact Or.inl rfl | exact Or.inr rfl)) (pss_one (ps_if (pt_cmpR op_eq (pe_op op_mod (pv 3) pe_int) pe_int (by first | exact nomark _ | rfl)) (pss_cons (ps_expr (pe_bm PySem.F.plainAttrs_list PySem.F.slot_list_append PySem.F.type_list_append mt_append (pv 1) (pa_cons pe_non pa_nil)))
      (pss_one (ps_set (i := 2) sc_law.nd rfl (by first | exact Or.inl rfl | exact Or.inr rfl) (pe_op ko_addS (pv 2) pe_str)))) (pss_cons (ps_expr (pe_bm PySem.F.plainAttrs_list PySem.F.slot_list_append PySem.F.type_list_append mt_append (pv 1) (pa_cons (pe_op op_mod (pe_op op_fdiv (pv 3) pe_int) pe_int) pa_nil)))
      (pss_one (ps_set (i := 2) sc_law.nd rfl (by first | exact Or.inl rfl | exact Or.inr rfl) (pe_op ko_addS (pv 2) (pe_ix ix_str pe_str (pe_op op_mod (pe_op op_fdiv (pv 3) pe_int) pe_int) (fun _ _ => rfl)))))))))
      (pss_cons (ps_set (i := 4) sc_law.nd rfl (by first | exact Or.inl rfl | exact Or.inr rfl) (pe_callTy kc_list (by rfl) T.list (by decide +kernel) (pa_cons (pv 1) pa_nil)))
      (pss_cons (ps_set (i := 5) sc_law.nd rfl (by first | exact Or.inl rfl | exact Or.inr rfl) (kp_call c_shown hr (by decide) rfl (pa_cons (pv 4) pa_nil)))
      (pss_cons (ps_if (PW.pt (pw_or (pt_not (pt_val (pe_callB call_isi (by rfl) T.isi (by decide +kernel) (pa_cons (pv 5) (pa_cons (pe_bltn (v := .ty "str") (by rfl) T.str (by decide +kernel) rfl) pa_nil))))) (pw_or (pt_cmpR op_ne (pv 5) (pv 2) (by first | exact nomark _ | rfl)) (pw_or1 (pt_cmpR (op_neD hr.units) (pv 4) (pv 1) (by first | exact nomark _ | rfl)))))) (pss_one (ps_ret pe_bl)) pss_nil)
      (pss_cons (ps_set (i := 6) sc_law.nd rfl (by first | exact Or.inl rfl | exact Or.inr rfl) (kp_call c_read hr (by decide) rfl (pa_cons (pv 2) pa_nil)))
      (pss_cons (ps_if (pt_not (pt_val (kp_call c_law_list hr (by decide) rfl (pa_cons (pv 6) (pa_cons (pv 1) pa_nil))))) (pss_one (ps_ret pe_bl)) pss_nil)
      (pss_cons (ps_expr (pe_bm PySem.F.plainAttrs_list PySem.F.slot_list_append PySem.F.type_list_append mt_append (pv 6) (pa_cons pe_int pa_nil)))
      (pss_one (ps_ret (kp_call c_law_list hr (by decide) rfl (pa_cons (kp_call c_read hr (by decide) rfl (pa_cons (pv 2) pa_nil)) (pa_cons (pv 1) pa_nil)))))))))))))), ?_⟩
  refine (?_ : Up _ H0) H e0
  walk_at "r"
  refine up_lstK (by decide) fun d hd => ?_
  walk_at "r"
  refine up_slL (sq_up (same_new hd _) hS) fun l hl => ?_
  obtain ⟨ms, hms, hlen⟩ := cut_ms ns 41
  have hms' : cutV (ns.map V.int) (some 1) (some 41) = ms.map V.int := hms
  rw [hms']
  walk_at "r"
  refine up_itl (SqL.of upd_same) ?_
  have hd2 : ∀ o o', upd (upd H0 d o) l o' d = some o := fun o o' => up_fresh (by
    have z := none_back hl
    rw [upd_ne z.2]
    exact z.1) upd_same
  have nl := none_back hl
  -- the heap behind each turn
  have hh : ∀ o, upd (upd (upd H0 d (.lst [])) l (.lst (ms.map V.int))) d o = upd (upd H0 d o) l (.lst (ms.map V.int)) := fun o => by
    funext b
    by_cases e1 : b = d
    · rw [e1, upd_same, upd_ne nl.2.symm, upd_same]
    · rw [upd_ne e1]
      by_cases e2 : b = l
      · rw [e2, upd_same, upd_same]
      · rw [upd_ne e2, upd_ne e1, upd_ne e2, upd_ne e1]
  refine up_forL (fun i σ H' => ∃ row : List (Option Nat), row.length = i ∧ Good row ∧ H' = upd (upd H0 d (.lst (row.map rv))) l (.lst (ms.map V.int)) ∧ ∃ v3 v4 v5 v6, σ = [some (.ref a), some (.ref d), some (.str (txt row)), v3, v4, v5, v6])
    ⟨[], rfl, fun k h => (nomatch h), rfl, none, none, none, none, by rw [← nil_eq]; rfl⟩ (fun i σ H' _ ⟨row, _, _, e, _⟩ => by rw [e]; exact SqL.of upd_same) ?_ ?_
  · rintro i x σ H' hx ⟨row, hi, hg, rfl, v3, v4, v5, v6, rfl⟩
    rw [List.getElem?_map] at hx
    cases ex : ms[i]? with
    | none => rw [ex] at hx; cases hx
    | some c =>
      rw [ex] at hx
      have e := Option.some.inj hx
      subst e
      have hil : i < ms.length := (List.getElem?_eq_some_iff.mp ex).1
      have hD : upd (upd H0 d (.lst (row.map rv))) l (.lst (ms.map V.int)) d = some (.lst (row.map rv)) := by
        rw [upd_ne nl.2.symm, upd_same]
      have hU : ∀ o, upd (upd (upd H0 d (.lst (row.map rv))) l (.lst (ms.map V.int))) d (.lst (row.map rv ++ [rv o])) = upd (upd H0 d (.lst ((row ++ [o]).map rv))) l (.lst (ms.map V.int)) := fun o => by
        rw [List.map_append]
        funext b
        by_cases e1 : b = d
        · rw [e1, upd_same, upd_ne nl.2.symm, upd_same]
          rfl
        · rw [upd_ne e1]
          by_cases e2 : b = l
          · rw [e2, upd_same, upd_same]
          · rw [upd_ne e2, upd_ne e1, upd_ne e2, upd_ne e1]
      -- what follows
      have go : ∀ (o : Option Nat) (v : Option V), (∀ k, o = some k → k < 26) → Up (Lo (fun σ H' => ∃ row : List (Option Nat), row.length = i + 1 ∧ Good row ∧ H' = upd (upd H0 d (.lst (row.map rv))) l (.lst (ms.map V.int)) ∧ ∃ v3 v4 v5 v6, σ = [some (V.ref a), some (V.ref d), some (V.str (txt row)), v3, v4, v5, v6])
          [some (V.ref a), some (V.ref d), some (V.str (txt row ++ sgn o)), v, v4, v5, v6]) (upd (upd (upd H0 d (.lst (row.map rv))) l (.lst (ms.map V.int))) d (.lst (row.map rv ++ [rv o]))) := fun o v ho => by
        refine up_lo ⟨row ++ [o], by rw [List.length_append, hi]; rfl, fun k hk => ?_, hU o, v, v4, v5, v6, by rw [txt_snoc]⟩
        rcases List.mem_append.mp hk with z | z
        · exact hg k z
        · exact ho k (List.mem_singleton.mp z).symm
      walk_at "r"
      refine up_I (by decide) ?_
      walk_at "r"
      refine up_ifP (fun _ => ?_) (fun _ => ?_)
      · walk_at "r"
        refine up_bmL (SqL.of hD) ?_
        walk_at "r"
        refine up_append hD (by rw [List.length_map]; omega) ?_
        walk_at "r"
        rw [dot_eq]
        refine up_addS (by rw [txt_len]; show row.length + 1 ≤ 100000; omega) ?_
        walk_at "r"
        exact go none _ (fun k z => nomatch z)
      · walk_at "r"
        refine up_bmL (SqL.of hD) ?_
        walk_at "r"
        refine up_I ⟨by decide, by decide⟩ ?_
        walk_at "r"
        refine up_I (by decide) ?_
        walk_at "r"
        have h1 : 0 ≤ c / 5 % 26 := Int.emod_nonneg _ (by decide)
        have h2 : c / 5 % 26 < 26 := Int.emod_lt_of_pos _ (by decide)
        obtain ⟨k, hk⟩ : ∃ k : Nat, c / 5 % 26 = k := ⟨(c / 5 % 26).toNat, (Int.toNat_of_nonneg h1).symm⟩
        have hk26 : k < 26 := by omega
        rw [hk]
        refine up_append hD (by rw [List.length_map]; omega) ?_
        walk_at "r"
        refine up_I ⟨by decide, by decide⟩ ?_
        walk_at "r"
        refine up_I (by decide) ?_
        rw [letters_eq, hk]
        refine up_ixS letters_len (atI_nat (at_letter hk26)) ?_
        walk_at "r"
        refine up_addS (by rw [txt_len]; show row.length + 1 ≤ 100000; omega) ?_
        walk_at "r"
        exact go (some k) _ (fun k' z => by rw [← Option.some.inj z]; exact hk26)
  · rintro σ H' ⟨row, hi, hg, rfl, v3, v4, v5, v6, rfl⟩
    rw [List.length_map] at hi
    have hD : upd (upd H0 d (.lst (row.map rv))) l (.lst (ms.map V.int)) d = some (.lst (row.map rv)) := by
      rw [upd_ne nl.2.symm, upd_same]
    have sA : Same H0 (upd (upd H0 d (.lst (row.map rv))) l (.lst (ms.map V.int))) := same_newer (same_new hd _) (by rw [upd_ne nl.2]; exact nl.1)
    generalize upd (upd H0 d (.lst (row.map rv))) l (.lst (ms.map V.int)) = H1 at hD sA
    have hlr : row.length ≤ 1000 := by omega
    walk_at "r"
    refine up_listOf (SqL.of hD) fun h hh => ?_
    walk_at "r"
    have hD1 := up_fresh (o := .lst (row.map rv)) hh hD
    refine up_call ⟨h, row, rfl, SqL.of upd_same, hg, hlr, ?_⟩
    walk_at "r"
    refine up_isi (.base (.str _)) (r := true) (by decide +kernel) ?_
    walk_at "r"
    refine up_orF rfl ?_
    walk_at "r"
    refine up_neV rfl ?_
    walk_at "r"
    refine up_orF (by simp) ?_
    walk_at "r"
    refine up_neLL (SqL.of upd_same) (SqL.of hD1) (rv_flat row) (rv_flat row) ?_
    walk_at "r"
    refine up_ifF (by simp) ?_
    walk_at "r"
    refine up_call ⟨row, rfl, hg, hlr, fun g hg' => ?_⟩
    walk_at "r"
    refine up_call ⟨g, d, _, rfl, upd_same, SqL.of (up_fresh hg' hD1), rv_flat row, by rw [List.length_map]; exact hlr, ?_⟩
    walk_at "r"
    refine up_ifF rfl ?_
    walk_at "r"
    refine up_bmL (SqL.of upd_same) ?_
    walk_at "r"
    refine up_append upd_same (by rw [List.length_map]; omega) ?_
    walk_at "r"
    refine up_call ⟨row, rfl, hg, hlr, fun g2 hg2 => ?_⟩
    walk_at "r"
    have ng := ne_of_none hD1 hg'
    have hD2 := up_fresh (o := .lst (row.map rv)) hg2 (up_other (o := .lst (row.map rv ++ [V.int 0])) ng (up_fresh (o := .lst (row.map rv)) hg' hD1))
    refine up_call ⟨g2, d, _, rfl, upd_same, SqL.of hD2, rv_flat row, by rw [List.length_map]; exact hlr, ?_⟩
    refine q.mono ?_
    rw [upd_upd]
    have n2 : upd (upd H1 h (.lst (row.map rv))) g (.lst (row.map rv ++ [V.int 0])) g2 = none := by
      rw [upd_upd] at hg2
      exact hg2
    exact (sA.trans (same_new hh _)).trans ((same_new hg' _).trans (same_new n2 _))

end
theorem all_mk {l : PySem.W.OpenLaw} {w : World} {K : PySem.W.Frag} {h : Heap} {mg : Str → Option Value} {fa : Addr} (X : K.In h) (G : h.Ns mainGlobals mg) (hfa : mg "law" = some (.ref fa))
    {tL : Tok}
    {f0 : Addr} {od0 an0 : Option Addr} {sl0 : Array (Option Value)} {oc0 kV0 dc0 pm0 cd0 ct0 : Value}
    {f1 : Addr} {od1 an1 : Option Addr} {sl1 : Array (Option Value)} {oc1 kV1 dc1 pm1 cd1 ct1 : Value}
    {f2 : Addr} {od2 an2 : Option Addr} {sl2 : Array (Option Value)} {oc2 kV2 dc2 pm2 cd2 ct2 : Value}
    {f3 : Addr} {od3 an3 : Option Addr} {sl3 : Array (Option Value)} {oc3 kV3 dc3 pm3 cd3 ct3 : Value}
    {f4 : Addr} {od4 an4 : Option Addr} {sl4 : Array (Option Value)} {oc4 kV4 dc4 pm4 cd4 ct4 : Value}
    {f5 : Addr} {od5 an5 : Option Addr} {sl5 : Array (Option Value)} {oc5 kV5 dc5 pm5 cd5 ct5 : Value}
    {f6 : Addr} {od6 an6 : Option Addr} {sl6 : Array (Option Value)} {oc6 kV6 dc6 pm6 cd6 ct6 : Value}
    (a0 : PySem.W.nsIn K mainGlobals "_law_whole" = some (some (.ref f0)))
    (l0 : K.lookup f0 = some ⟨oc0, od0, .func (PySem.W.fnOf "_law_whole" "_law_whole" (defArgs s_law_whole) (defBody s_law_whole) (defScope s_law_whole) .none kV0 dc0 pm0 an0 cd0 ct0), sl0⟩) (c0 : PySem.W.codeIn K cd0 "_law_whole" = true) (k0 : PySem.W.keepIn K (.ref f0) = true)
    (a1 : PySem.W.nsIn K mainGlobals "_law_list" = some (some (.ref f1)))
    (l1 : K.lookup f1 = some ⟨oc1, od1, .func (PySem.W.fnOf "_law_list" "_law_list" (defArgs s_law_list) (defBody s_law_list) (defScope s_law_list) .none kV1 dc1 pm1 an1 cd1 ct1), sl1⟩) (c1 : PySem.W.codeIn K cd1 "_law_list" = true) (k1 : PySem.W.keepIn K (.ref f1) = true)
    (a2 : PySem.W.nsIn K mainGlobals "sign_of" = some (some (.ref f2)))
    (l2 : K.lookup f2 = some ⟨oc2, od2, .func (PySem.W.fnOf "sign_of" "sign_of" (defArgs s_sign_of) (defBody s_sign_of) (defScope s_sign_of) .none kV2 dc2 pm2 an2 cd2 ct2), sl2⟩) (c2 : PySem.W.codeIn K cd2 "sign_of" = true) (k2 : PySem.W.keepIn K (.ref f2) = true)
    (a3 : PySem.W.nsIn K mainGlobals "shown" = some (some (.ref f3)))
    (l3 : K.lookup f3 = some ⟨oc3, od3, .func (PySem.W.fnOf "shown" "shown" (defArgs s_shown) (defBody s_shown) (defScope s_shown) .none kV3 dc3 pm3 an3 cd3 ct3), sl3⟩) (c3 : PySem.W.codeIn K cd3 "shown" = true) (k3 : PySem.W.keepIn K (.ref f3) = true)
    (a4 : PySem.W.nsIn K mainGlobals "kind_of" = some (some (.ref f4)))
    (l4 : K.lookup f4 = some ⟨oc4, od4, .func (PySem.W.fnOf "kind_of" "kind_of" (defArgs s_kind_of) (defBody s_kind_of) (defScope s_kind_of) .none kV4 dc4 pm4 an4 cd4 ct4), sl4⟩) (c4 : PySem.W.codeIn K cd4 "kind_of" = true) (k4 : PySem.W.keepIn K (.ref f4) = true)
    (a5 : PySem.W.nsIn K mainGlobals "read" = some (some (.ref f5)))
    (l5 : K.lookup f5 = some ⟨oc5, od5, .func (PySem.W.fnOf "read" "read" (defArgs s_read) (defBody s_read) (defScope s_read) .none kV5 dc5 pm5 an5 cd5 ct5), sl5⟩) (c5 : PySem.W.codeIn K cd5 "read" = true) (k5 : PySem.W.keepIn K (.ref f5) = true)
    (a6 : PySem.W.nsIn K mainGlobals "law" = some (some (.ref f6)))
    (l6 : K.lookup f6 = some ⟨oc6, od6, .func (PySem.W.fnOf "law" "law" (defArgs s_law) (defBody s_law) (defScope s_law) .none kV6 dc6 pm6 an6 cd6 ct6), sl6⟩) (c6 : PySem.W.codeIn K cd6 "law" = true) (k6 : PySem.W.keepIn K (.ref f6) = true)
    (z_len : PySem.W.nsIn K mainGlobals "len" = some none)
    (z_range : PySem.W.nsIn K mainGlobals "range" = some none)
    (z_list : PySem.W.nsIn K mainGlobals "list" = some none)
    (z_tuple : PySem.W.nsIn K mainGlobals "tuple" = some none)
    (z_max : PySem.W.nsIn K mainGlobals "max" = some none)
    (z_min : PySem.W.nsIn K mainGlobals "min" = some none)
    (z_sum : PySem.W.nsIn K mainGlobals "sum" = some none)
    (z_sorted : PySem.W.nsIn K mainGlobals "sorted" = some none)
    (z_isinstance : PySem.W.nsIn K mainGlobals "isinstance" = some none)
    (z_int : PySem.W.nsIn K mainGlobals "int" = some none)
    (z_bool : PySem.W.nsIn K mainGlobals "bool" = some none)
    (z_str : PySem.W.nsIn K mainGlobals "str" = some none)
    (gL : PySem.W.nsIn K mainGlobals "LETTERS" = some (some (.str (Str.ofString "abcdefghijklmnopqrstuvwxyz") tL))) :
    ∃ fd : FuncData, (∀ (s : Shared) (v : Value), BindsTo s fd ⟨[v], []⟩ [("script", v)]) ∧ ∀ base : Heap, K.In base → base.Ns mainGlobals mg → FnOk l.prog w K mg base CX0 3 fa fd ["script"] (KSp (fLaw K)) := by
  have e := hfa.symm.trans (PySem.W.mg_of X G a6)
  cases e
  refine ⟨PySem.W.fnOf "law" "law" (defArgs s_law) (defBody s_law) (defScope s_law) .none kV6 dc6 pm6 an6 cd6 ct6, fun s v => .of_eq rfl, fun base _ _ => ?_⟩
  have T : Bl mg := ⟨PySem.W.mg_none_of X G z_len, PySem.W.mg_none_of X G z_range, PySem.W.mg_none_of X G z_list, PySem.W.mg_none_of X G z_tuple, PySem.W.mg_none_of X G z_max, PySem.W.mg_none_of X G z_min, PySem.W.mg_none_of X G z_sum, PySem.W.mg_none_of X G z_sorted, PySem.W.mg_none_of X G z_isinstance, PySem.W.mg_none_of X G z_int, PySem.W.mg_none_of X G z_bool, PySem.W.mg_none_of X G z_str⟩
  have Z : Zn mg := ⟨⟨_, PySem.W.mg_of X G gL, ⟨tL, congrArg (fun z => Value.str z tL) letters_eq⟩⟩⟩
  have F0 := fun_mk (st := s_law_whole) l0 c0 k0
  have c_law_whole := Fn.mk' F0 (ok_law_whole (P := l.prog) (w := w) (base := base) F0 T ) (PySem.W.mg_of X G a0) (fun _ _ _ _ _ _ us hl => match us, hl with | [_], _ => rfl)
  have F1 := fun_mk (st := s_law_list) l1 c1 k1
  have c_law_list := Fn.mk' F1 (ok_law_list (P := l.prog) (w := w) (base := base) F1 T (c_law_whole := c_law_whole)) (PySem.W.mg_of X G a1) (fun _ _ _ _ _ _ us hl => match us, hl with | [_, _], _ => rfl)
  have F2 := fun_mk (st := s_sign_of) l2 c2 k2
  have c_sign_of := Fn.mk' F2 (ok_sign_of (P := l.prog) (w := w) (base := base) F2 T (Z := Z)) (PySem.W.mg_of X G a2) (fun _ _ _ _ _ _ us hl => match us, hl with | [_], _ => rfl)
  have F3 := fun_mk (st := s_shown) l3 c3 k3
  have c_shown := Fn.mk' F3 (ok_shown (P := l.prog) (w := w) (base := base) F3 T (c_sign_of := c_sign_of)) (PySem.W.mg_of X G a3) (fun _ _ _ _ _ _ us hl => match us, hl with | [_], _ => rfl)
  have F4 := fun_mk (st := s_kind_of) l4 c4 k4
  have c_kind_of := Fn.mk' F4 (ok_kind_of (P := l.prog) (w := w) (base := base) F4 T (Z := Z)) (PySem.W.mg_of X G a4) (fun _ _ _ _ _ _ us hl => match us, hl with | [_], _ => rfl)
  have F5 := fun_mk (st := s_read) l5 c5 k5
  have c_read := Fn.mk' F5 (ok_read (P := l.prog) (w := w) (base := base) F5 T (c_kind_of := c_kind_of)) (PySem.W.mg_of X G a5) (fun _ _ _ _ _ _ us hl => match us, hl with | [_], _ => rfl)
  have F6 := fun_mk (st := s_law) l6 c6 k6
  exact ok_law (P := l.prog) (w := w) (base := base) F6 T (c_law_list := c_law_list) (c_shown := c_shown) (c_read := c_read)

theorem walk {l : PySem.W.OpenLaw} {q : Program} {loose : List Str} {XP : (Str → Option Value) → Heap → Prop} {YP : World → Heap → Prop} {d : DefRec} {K : Params → PySem.W.Frag} (hn : l.most = some 63) (hdf : d.params.defaults = [])
    (hY : ∀ (w : World) (h : Heap), YP w h → (K w.params).In h)
    (F : ∀ (w : World) (mg : Str → Option Value) (fa : Addr) (h : Heap), (K w.params).In h → h.Ns mainGlobals mg → mg d.name = some (.ref fa) →
      ∃ fd : FuncData, (∀ (s : Shared) (u : Value), BindsTo s fd ⟨[u], []⟩ [("script", u)]) ∧ ∀ base : Heap, (K w.params).In base → base.Ns mainGlobals mg → FnOk l.prog w (K w.params) mg base CX0 3 fa fd ["script"] (KSp (fLaw (K w.params)))) :
    PySem.W.WalkO q loose XP YP l.row.toRowW d [] (fun f vs => PySem.call f vs) :=
  L2.walk_of (n := 63) (k := 3) (x := "script") (CX := fun _ => CX0) (sp := fun w => KSp (fLaw (K w.params))) hn (by decide) hdf ⟨rfl, by decide, by decide⟩ hY F (fun _ _ a ns hl _ hS => ⟨_, Same.refl _, a, ns, rfl, hS, hl, fun _ _ => rfl⟩) fun _ _ _ _ _ z => z
end Kp
open PySem PySem.W PyProof.Rows
set_option maxRecDepth 100000 in
set_option maxHeartbeats 0 in
theorem PySem.Challenge.cw_keepaway_k13_written_holds : PySem.Challenge.rw_keepaway_k13_written.Holds := by
  w_on; o_law; k_head; (case hw => w_witness2)
  k_fill
  refine Kp.walk (l := PySem.Challenge.rw_keepaway_k13_written) rfl rfl (fun w h Y => PySem.W.kIn_of Y) ?F
  case F =>
    intro w mg fa h KX G hmg
    refine' Kp.all_mk KX G hmg ?a0 ?l0 ?c0 ?k0 ?a1 ?l1 ?c1 ?k1 ?a2 ?l2 ?c2 ?k2 ?a3 ?l3 ?c3 ?k3 ?a4 ?l4 ?c4 ?k4 ?a5 ?l5 ?c5 ?k5 ?a6 ?l6 ?c6 ?k6 ?z_len ?z_range ?z_list ?z_tuple ?z_max ?z_min ?z_sum ?z_sorted ?z_isinstance ?z_int ?z_bool ?z_str ?gL
    (case a0 => k_is)
    (case l0 => k_is)
    (case c0 => k_is)
    (case k0 => k_is)
    (case a1 => k_is)
    (case l1 => k_is)
    (case c1 => k_is)
    (case k1 => k_is)
    (case a2 => k_is)
    (case l2 => k_is)
    (case c2 => k_is)
    (case k2 => k_is)
    (case a3 => k_is)
    (case l3 => k_is)
    (case c3 => k_is)
    (case k3 => k_is)
    (case a4 => k_is)
    (case l4 => k_is)
    (case c4 => k_is)
    (case k4 => k_is)
    (case a5 => k_is)
    (case l5 => k_is)
    (case c5 => k_is)
    (case k5 => k_is)
    (case a6 => k_is)
    (case l6 => k_is)
    (case c6 => k_is)
    (case k6 => k_is)
    (case z_len => k_is)
    (case z_range => k_is)
    (case z_list => k_is)
    (case z_tuple => k_is)
    (case z_max => k_is)
    (case z_min => k_is)
    (case z_sum => k_is)
    (case z_sorted => k_is)
    (case z_isinstance => k_is)
    (case z_int => k_is)
    (case z_bool => k_is)
    (case z_str => k_is)
    (case gL => k_is)
#print axioms PySem.Challenge.cw_keepaway_k13_written_holds
