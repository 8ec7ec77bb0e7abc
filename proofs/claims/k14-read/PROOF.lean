import PyProof.Rows.All
import Wide.All
import OpenK.AllK
import Wide.FinOn
import KE.KStateDown
import HandS.ForMost
import HandS.ForExc
import HandS.Evl
import HandS.IsInst
import HandS.Defaults
import HandS.Head0
import HandS.Head1
import HandS.Head2
import HandS.HeadEnd
import HandS.HeadHook1
import HandS.HeadHook2
import HandS.Sort
import HandS.Zip
import HandS.SetBool
import HandS.Deep
import HandS.RevRange
import KE.SortData
import KE.DataFind
import HandS.WordsExc
import HandS.ExcIs
import HandS.HotCalls
import HandS.Text
import HandS.Iter
import HandS.Replace
import PyProof.StrLawsTight
import PyProof.StrLawsChain
import PyProof.Rows.StrItems
import PyProof.CompFree
import HandS.Comp
import HandS.Exc
import HandS.ExcOwn
import PyProof.Rows.SortStrRead
import PySem.Challenge.RW_mixpots_k14_read
set_option Elab.async false
set_option linter.all false
set_option maxRecDepth 100000
set_option maxHeartbeats 4000000
namespace Mx
def ran (lo hi : Int) : List Int := (List.range (hi - lo).toNat).map fun (i : Nat) => lo + (i : Int)
theorem mem_ran {lo hi x : Int} : x ∈ ran lo hi ↔ lo ≤ x ∧ x < hi := by
  unfold ran
  rw [List.mem_map]
  constructor
  · rintro ⟨i, hi, rfl⟩
    have := List.mem_range.mp hi
    omega
  · intro h
    exact ⟨(x - lo).toNat, List.mem_range.mpr (by omega), by omega⟩
/-! ### sets, plans, answers -/
def isSetFrom (w : Int) : Int → List Int → Bool
  | _, [] => true
  | b, x :: r => !(decide (x ≤ b) || decide (w ≤ x)) && isSetFrom w x r
def isSetB (w : Int) (xs : List Int) : Bool := isSetFrom w (-1) xs
def goodMix (w : Int) (m : List Int) : Bool := !m.isEmpty && isSetB w m
def planB (w : Int) (plan : List (List Int)) : Bool := decide (plan.length ≤ 12) && plan.all (goodMix w)
def metOne (m s : List Int) : Bool := decide (0 < (m.filter fun x => decide (x ∈ s)).length)
def met (plan : List (List Int)) (s : List Int) : List Bool := plan.map fun m => metOne m s
theorem isSetFrom_iff (w : Int) : ∀ (xs : List Int) (b : Int), isSetFrom w b xs = true ↔ (xs.Pairwise (· < ·) ∧ ∀ x ∈ xs, b < x ∧ x < w)
  | [], b => by simp [isSetFrom]
  | x :: r, b => by
    have ih := isSetFrom_iff w r x
    unfold isSetFrom
    rw [Bool.and_eq_true, ih, List.pairwise_cons]
    simp only [Bool.not_eq_true', Bool.or_eq_false_iff, decide_eq_false_iff_not, List.mem_cons, forall_eq_or_imp]
    constructor
    · rintro ⟨⟨h1, h2⟩, h3, h4⟩
      exact ⟨⟨fun y hy => (h4 y hy).1, h3⟩, ⟨by omega, by omega⟩, fun y hy => ⟨by have := (h4 y hy).1; omega, (h4 y hy).2⟩⟩
    · rintro ⟨⟨h1, h2⟩, ⟨h3, h4⟩, h5⟩
      exact ⟨⟨by omega, by omega⟩, h2, fun y hy => ⟨h1 y hy, (h5 y hy).2⟩⟩
theorem isSetB_iff {w : Int} {xs : List Int} : isSetB w xs = true ↔ (xs.Pairwise (· < ·) ∧ ∀ x ∈ xs, 0 ≤ x ∧ x < w) := by
  unfold isSetB
  rw [isSetFrom_iff]
  constructor
  · rintro ⟨h1, h2⟩
    exact ⟨h1, fun x hx => ⟨by have := (h2 x hx).1; omega, (h2 x hx).2⟩⟩
  · rintro ⟨h1, h2⟩
    exact ⟨h1, fun x hx => ⟨by have := (h2 x hx).1; omega, (h2 x hx).2⟩⟩
/-- a rising list of whole numbers from 0 below w has at most w of them -/
theorem rising_len : ∀ (xs : List Int) (lo w : Int), xs.Pairwise (· < ·) → (∀ x ∈ xs, lo ≤ x ∧ x < w) → xs.length ≤ (w - lo).toNat
  | [], _, _, _, _ => Nat.zero_le _
  | x :: r, lo, w, h, hb => by
    have h1 := List.pairwise_cons.mp h
    have hx := hb x List.mem_cons_self
    have ih := rising_len r (x + 1) w h1.2 fun y hy => ⟨by have := h1.1 y hy; omega, (hb y (List.mem_cons_of_mem _ hy)).2⟩
    rw [List.length_cons]
    omega
theorem isSetB_len {w : Int} {xs : List Int} (h : isSetB w xs = true) : xs.length ≤ w.toNat := by
  have q := isSetB_iff.mp h
  have := rising_len xs 0 w q.1 q.2
  simpa using this
theorem metOne_iff {m s : List Int} : metOne m s = true ↔ ∃ x, x ∈ m ∧ x ∈ s := by
  unfold metOne
  rw [decide_eq_true_iff, List.length_pos_iff_exists_mem]
  simp [List.mem_filter]
/-! ### all sets -/
def firstOf (s : List Int) : Int := match s.getLast? with
  | none => 0
  | some z => z + 1
def extS (w : Int) (s : List Int) : List (List Int) := (ran (firstOf s) w).map fun x => s ++ [x]
def nextL (w : Int) (l : List (List Int)) : List (List Int) := (l.map (extS w)).flatten
def level (w : Int) : Nat → List (List Int)
  | 0 => [[]]
  | k + 1 => nextL w (level w k)
def upTo (w : Int) : Nat → List (List Int)
  | 0 => [[]]
  | k + 1 => upTo w k ++ level w (k + 1)
def minI (m w : Int) : Int := if w < m then w else m
def allSets (w m : Int) : List (List Int) := upTo w (minI m w).toNat
/-! ### the bits -/
def cellUp (cell : Int) : Nat → Int
  | 0 => cell
  | k + 1 => cellUp cell k / 2
def someUp (cell : Int) : Nat → List Int
  | 0 => []
  | k + 1 => someUp cell k ++ (if cellUp cell k % 2 = 1 then [(k : Int)] else [])
def someBy (cell w : Int) : List Int := someUp cell w.toNat
theorem someUp_ok (cell : Int) : ∀ k : Nat, (someUp cell k).Pairwise (· < ·) ∧ ∀ x ∈ someUp cell k, 0 ≤ x ∧ x < (k : Int)
  | 0 => by simp [someUp]
  | k + 1 => by
    obtain ⟨h1, h2⟩ := someUp_ok cell k
    unfold someUp
    by_cases c : cellUp cell k % 2 = 1
    · rw [if_pos c]
      refine ⟨List.pairwise_append.mpr ⟨h1, by simp, fun a ha b hb => ?_⟩, fun x hx => ?_⟩
      · obtain rfl : b = (k : Int) := by simpa using hb
        exact (h2 a ha).2
      · rcases List.mem_append.mp hx with hx | hx
        · have := h2 x hx; omega
        · obtain rfl : x = (k : Int) := by simpa using hx
          omega
    · rw [if_neg c, List.append_nil]
      exact ⟨h1, fun x hx => by have := h2 x hx; omega⟩
theorem someBy_set (cell w : Int) (hw : 0 ≤ w) : isSetB w (someBy cell w) = true := by
  rw [isSetB_iff]
  obtain ⟨h1, h2⟩ := someUp_ok cell w.toNat
  exact ⟨h1, fun x hx => by have := h2 x hx; omega⟩
theorem someUp_len (cell : Int) : ∀ k : Nat, (someUp cell k).length ≤ k
  | 0 => Nat.le_refl _
  | k + 1 => by
    have := someUp_len cell k
    unfold someUp
    rw [List.length_append]
    split <;> simp <;> omega
/-! ### bounds: 1 to 8 wares, at most three -/
def fitsB (w m : Nat) : Bool := (allSets w m).all (fun s => decide (s.length ≤ m) && isSetB w s) && decide ((allSets w m).length ≤ 93)
theorem fits_all : ∀ w : Fin 9, ∀ m : Fin 4, fitsB w.val m.val = true := by decide +kernel
theorem level_small : ∀ w : Fin 9, ∀ k : Fin 4, (level (w.val : Int) k.val).length ≤ 100 ∧ (upTo (w.val : Int) k.val).length ≤ 100 ∧ ((level (w.val : Int) k.val).all fun s => decide (s.length = k.val) && isSetB (w.val : Int) s) = true := by decide +kernel
theorem fin_of {w : Int} (h0 : 0 ≤ w) {n : Nat} (h : w < n) : ∃ k : Fin n, w = (k.val : Int) := ⟨⟨w.toNat, by omega⟩, by show w = ((w.toNat : Nat) : Int); omega⟩
theorem allSets_ok {w m : Int} (h1 : 0 ≤ w) (h2 : w ≤ 8) (h3 : 0 ≤ m) (h4 : m ≤ 3) : (∀ s ∈ allSets w m, (s.length : Int) ≤ m ∧ isSetB w s = true) ∧ (allSets w m).length ≤ 93 := by
  obtain ⟨a, rfl⟩ := fin_of (n := 9) h1 (by omega)
  obtain ⟨b, rfl⟩ := fin_of (n := 4) h3 (by omega)
  have h := fits_all a b
  unfold fitsB at h
  rw [Bool.and_eq_true, List.all_eq_true, decide_eq_true_iff] at h
  refine ⟨fun s hs => ?_, h.2⟩
  have q := h.1 s hs
  rw [Bool.and_eq_true, decide_eq_true_iff] at q
  exact ⟨by have := q.1; omega, q.2⟩
/-! ### all sets as the law finds them -/
def raw (w m : Int) : List (List Int) := ((List.range (2 ^ w.toNat)).map fun (n : Nat) => someBy (n : Int) w).filter fun s => decide ((s.length : Int) ≤ m)
def leS (a b : List Int) : Bool := decide (a.length < b.length ∨ (a.length = b.length ∧ a ≤ b))
theorem raw_perm : ∀ w : Fin 9, ∀ m : Fin 4, (allSets (w.val : Int) (m.val : Int)).isPerm (raw (w.val : Int) (m.val : Int)) = true := by decide +kernel
theorem all_up : ∀ w : Fin 9, ∀ m : Fin 4, (allSets (w.val : Int) (m.val : Int)).Pairwise (fun a b => leS a b = true) := by decide +kernel
end Mx
namespace Mx
/-- all sets that fit the answers bs -/
def fits (n : Int) (plan : List (List Int)) (m : Int) (bs : List Bool) : List (List Int) := (allSets n m).filter fun s => decide (met plan s = bs)
end Mx
namespace Mx
/-! ### covers -/
def coversB (plan : List (List Int)) (x : Int) (s : List Int) : Bool := plan.all fun m => !(decide (x ∈ m) && decide ((m.filter fun y => decide (y ∈ s)).length = 0))
def coverIn (plan : List (List Int)) (known : List (List Int)) (x : Int) : Option (Int × List Int) := (known.find? fun s => !decide (x ∈ s) && coversB plan x s).map fun s => (x, s)
def coverOf (n : Int) (plan : List (List Int)) (m : Int) : Option (Int × List Int) := (ran 0 n).findSome? (coverIn plan (allSets n m))
theorem find_at {α : Type} {p : α → Bool} : ∀ {l : List α} {j : Nat} {s : α}, (∀ y ∈ l.take j, p y = false) → l[j]? = some s → p s = true → l.find? p = some s
  | [], _, _, _, h, _ => by simp at h
  | a :: r, 0, s, _, h, hp => by
    have e : a = s := Option.some.inj h
    subst e
    rw [List.find?_cons, hp]
  | a :: r, j + 1, s, hn, h, hp => by
    have ha : p a = false := hn a (by simp)
    rw [List.find?_cons, ha]
    exact find_at (j := j) (fun y hy => hn y (by rw [List.take_succ_cons]; exact List.mem_cons_of_mem _ hy)) (by simpa using h) hp
theorem find_none {α : Type} {p : α → Bool} {l : List α} (h : ∀ y ∈ l, p y = false) : l.find? p = none := by
  rw [List.find?_eq_none]
  intro x hx
  rw [h x hx]
  exact Bool.false_ne_true
theorem findS_at {α β : Type} {g : α → Option β} : ∀ {l : List α} {j : Nat} {x : α} {v : β}, (∀ y ∈ l.take j, g y = none) → l[j]? = some x → g x = some v → l.findSome? g = some v
  | [], _, _, _, _, h, _ => by simp at h
  | a :: r, 0, x, v, _, h, hp => by
    have e : a = x := Option.some.inj h
    subst e
    rw [List.findSome?_cons, hp]
  | a :: r, j + 1, x, v, hn, h, hp => by
    have ha : g a = none := hn a (by simp)
    rw [List.findSome?_cons, ha]
    exact findS_at (j := j) (fun y hy => hn y (by rw [List.take_succ_cons]; exact List.mem_cons_of_mem _ hy)) (by simpa using h) hp
theorem findS_none {α β : Type} {g : α → Option β} {l : List α} (h : ∀ y ∈ l, g y = none) : l.findSome? g = none := by
  rw [List.findSome?_eq_none_iff]
  exact h
theorem mem_take_succ {α : Type} {l : List α} {i : Nat} {z y : α} (h : l[i]? = some z) (hy : y ∈ l.take (i + 1)) : y ∈ l.take i ∨ y = z := by
  rw [List.take_add_one, h] at hy
  simpa using hy
/-! ### read plainly -/
def plainB (plan : List (List Int)) (bs : List Bool) (x : Int) : Bool := !((plan.zip bs).any fun q => !q.2 && decide (x ∈ q.1))
def plainL (n : Int) (plan : List (List Int)) (bs : List Bool) : List Int := (ran 0 n).filter fun x => plainB plan bs x
theorem zip_any {α β : Type} (f : α → β) (g : α × β → Bool) : ∀ l : List α, (l.zip (l.map f)).any g = l.any fun m => g (m, f m)
  | [] => rfl
  | a :: r => by
    rw [List.map_cons, List.zip_cons_cons, List.any_cons, List.any_cons, zip_any f g r]
theorem plain_met {plan : List (List Int)} {s : List Int} {x : Int} (h : x ∈ s) : plainB plan (met plan s) x = true := by
  unfold plainB met
  rw [zip_any, Bool.not_eq_true', List.any_eq_false]
  intro m _ z
  rw [Bool.and_eq_true, Bool.not_eq_true', decide_eq_true_iff] at z
  have : metOne m s = true := metOne_iff.mpr ⟨x, z.2, h⟩
  rw [this] at z
  cases z.1
/-- the law's way: no place whose mixture has the ware and whose answer is good -/
theorem plain_places {plan : List (List Int)} {bs : List Bool} {x : Int} (h : bs.length = plan.length) (p : Int → Bool) (hp : ∀ i : Nat, i < plan.length → p (i : Int) = (decide (x ∈ plan.getD i []) && !(bs.getD i false))) :
    decide (((ran 0 (plan.length : Int)).filter p).length = 0) = plainB plan bs x := by
  have h1 : decide (((ran 0 (plan.length : Int)).filter p).length = 0) = !((ran 0 (plan.length : Int)).any p) := by
    induction (ran 0 (plan.length : Int)) with
    | nil => rfl
    | cons a r ih =>
      rw [List.filter_cons, List.any_cons]
      cases c : p a with
      | true => simp
      | false => simpa using ih
  rw [h1]
  unfold plainB
  congr 1
  rw [Bool.eq_iff_iff, List.any_eq_true, List.any_eq_true]
  constructor
  · rintro ⟨k, hk, hpk⟩
    have hk' := mem_ran.mp hk
    obtain ⟨i, rfl⟩ : ∃ i : Nat, k = (i : Int) := ⟨k.toNat, by omega⟩
    have hi : i < plan.length := by omega
    have hb : i < bs.length := by omega
    rw [hp i hi, List.getD_eq_getElem?_getD, List.getD_eq_getElem?_getD, List.getElem?_eq_getElem hi, List.getElem?_eq_getElem hb, Bool.and_eq_true] at hpk
    refine ⟨(plan[i], bs[i]), List.mem_of_getElem? (i := i) (by rw [List.getElem?_zip_eq_some]; exact ⟨List.getElem?_eq_getElem hi, List.getElem?_eq_getElem hb⟩), ?_⟩
    rw [Bool.and_eq_true]
    exact ⟨hpk.2, hpk.1⟩
  · rintro ⟨q, hq, hz⟩
    obtain ⟨i, hi⟩ := List.getElem?_of_mem hq
    rw [List.getElem?_zip_eq_some] at hi
    obtain ⟨g1, g2⟩ := hi
    have hl : i < plan.length := (List.getElem?_eq_some_iff.mp g1).1
    refine ⟨(i : Int), mem_ran.mpr ⟨by omega, by omega⟩, ?_⟩
    rw [hp i hl, List.getD_eq_getElem?_getD, List.getD_eq_getElem?_getD, g1, g2]
    rw [Bool.and_eq_true] at hz
    rw [Bool.and_eq_true]
    exact ⟨hz.2, hz.1⟩
end Mx
namespace Mx
/-! ### clashes -/
def clashIn (plan : List (List Int)) : List (List Int) → List (List Int) → Option (List Int × List Int)
  | _, [] => none
  | seen, s :: r => match seen.find? fun t => decide (met plan t = met plan s) with
    | some t => some (t, s)
    | none => clashIn plan (seen ++ [s]) r
def clashOf (n : Int) (plan : List (List Int)) (m : Int) : Option (List Int × List Int) := clashIn plan [] (allSets n m)
theorem clashIn_mem (plan : List (List Int)) : ∀ (r seen : List (List Int)) (a b : List Int), clashIn plan seen r = some (a, b) → (a ∈ seen ∨ a ∈ r) ∧ b ∈ r ∧ met plan a = met plan b
  | [], _, _, _, h => by cases h
  | s :: r, seen, a, b, h => by
    unfold clashIn at h
    cases hf : seen.find? fun t => decide (met plan t = met plan s) with
    | some t =>
      rw [hf] at h
      have e := Option.some.inj h
      obtain rfl : t = a := congrArg Prod.fst e
      obtain rfl : s = b := congrArg Prod.snd e
      exact ⟨.inl (List.mem_of_find?_eq_some hf), List.mem_cons_self, of_decide_eq_true (List.find?_some (p := fun t => decide (met plan t = met plan s)) hf)⟩
    | none =>
      rw [hf] at h
      obtain ⟨h1, h2, h3⟩ := clashIn_mem plan r (seen ++ [s]) a b h
      refine ⟨?_, List.mem_cons_of_mem _ h2, h3⟩
      rcases h1 with h1 | h1
      · rcases List.mem_append.mp h1 with h1 | h1
        · exact .inl h1
        · exact .inr (by rw [List.mem_singleton.mp h1]; exact List.mem_cons_self)
      · exact .inr (List.mem_cons_of_mem _ h1)
end Mx
namespace Mx
/-! ### which sets there are -/
theorem isSetB_prefix {w : Int} {s t : List Int} (h : isSetB w (s ++ t) = true) : isSetB w s = true := by
  rw [isSetB_iff] at h ⊢
  exact ⟨h.1.sublist (List.sublist_append_left _ _), fun x hx => h.2 x (List.mem_append_left _ hx)⟩
theorem isSetB_take {w : Int} {s : List Int} (k : Nat) (h : isSetB w s = true) : isSetB w (s.take k) = true := by
  rw [isSetB_iff] at h ⊢
  exact ⟨h.1.sublist (List.take_sublist _ _), fun x hx => h.2 x (List.mem_of_mem_take hx)⟩
theorem mem_level {w : Int} : ∀ (k : Nat) (s : List Int), s.length = k → isSetB w s = true → s ∈ level w k
  | 0, s, hl, _ => by
    rw [List.eq_nil_of_length_eq_zero hl]
    exact List.mem_singleton.mpr rfl
  | k + 1, s, hl, h => by
    have hne : s ≠ [] := by intro z; rw [z] at hl; cases hl
    have hs : s = s.dropLast ++ [s.getLast hne] := (List.dropLast_concat_getLast hne).symm
    generalize s.dropLast = t at hs
    generalize s.getLast hne = x at hs
    subst hs
    have hx := (isSetB_iff.mp h).2 x (by simp)
    have hp := (isSetB_iff.mp h).1
    have ht : t ∈ level w k := mem_level k t (by simpa using hl) (isSetB_prefix h)
    show t ++ [x] ∈ nextL w (level w k)
    unfold nextL
    rw [List.mem_flatten]
    refine ⟨extS w t, List.mem_map.mpr ⟨t, ht, rfl⟩, ?_⟩
    unfold extS
    rw [List.mem_map]
    refine ⟨x, mem_ran.mpr ⟨?_, hx.2⟩, rfl⟩
    unfold firstOf
    cases hg : t.getLast? with
    | none => exact hx.1
    | some z =>
      have hz : z ∈ t := List.mem_of_getLast? hg
      have := (List.pairwise_append.mp hp).2.2 z hz x (by simp)
      show z + 1 ≤ x
      omega
theorem level_upTo {w : Int} {s : List Int} {k : Nat} (h : s ∈ level w k) : ∀ j : Nat, k ≤ j → s ∈ upTo w j
  | 0, hj => by
    have : k = 0 := by omega
    subst this
    exact h
  | j + 1, hj => by
    show s ∈ upTo w j ++ level w (j + 1)
    rcases Nat.lt_or_ge j k with hlt | hge
    · have : k = j + 1 := by omega
      subst this
      exact List.mem_append_right _ h
    · exact List.mem_append_left _ (level_upTo h j hge)
theorem mem_all {n m : Int} {s : List Int} (hn : 0 ≤ n) (hs : isSetB n s = true) (hl : (s.length : Int) ≤ m) : s ∈ allSets n m := by
  refine level_upTo (mem_level s.length s rfl hs) _ ?_
  have := isSetB_len hs
  unfold minI
  split <;> omega
theorem all_nodup : ∀ w : Fin 9, ∀ m : Fin 4, (allSets (w.val : Int) (m.val : Int)).Nodup := by decide +kernel
theorem allSets_nodup {n m : Int} (h1 : 0 ≤ n) (h2 : n ≤ 8) (h3 : 0 ≤ m) (h4 : m ≤ 3) : (allSets n m).Nodup := by
  obtain ⟨a, rfl⟩ := fin_of (n := 9) h1 (by omega)
  obtain ⟨b, rfl⟩ := fin_of (n := 4) h3 (by omega)
  exact all_nodup a b
/-! ### two rising lists with the same wares are one -/
theorem rising_eq {s t : List Int} (hs : s.Pairwise (· < ·)) (ht : t.Pairwise (· < ·)) (h : ∀ x, x ∈ s ↔ x ∈ t) : s = t := by
  have hp : s.Perm t := (List.perm_ext_iff_of_nodup (hs.imp fun {a b} h => Int.ne_of_lt h) (ht.imp fun {a b} h => Int.ne_of_lt h)).mpr h
  exact List.Perm.eq_of_pairwise (le := fun a b => a ≤ b) (fun a b _ _ h1 h2 => Int.le_antisymm h1 h2) (hs.imp fun {a b} h => Int.le_of_lt h) (ht.imp fun {a b} h => Int.le_of_lt h) hp
theorem ran_pw (lo hi : Int) : (ran lo hi).Pairwise (· < ·) := by
  unfold ran
  rw [List.pairwise_map]
  exact List.Pairwise.imp (fun {a b} h => by omega) List.pairwise_lt_range
theorem filter_set {n : Int} {s : List Int} (h : isSetB n s = true) {p : Int → Bool} (hp : ∀ x, 0 ≤ x → x < n → (p x = true ↔ x ∈ s)) : (ran 0 n).filter p = s := by
  have q := isSetB_iff.mp h
  refine rising_eq ((ran_pw 0 n).sublist List.filter_sublist) q.1 fun x => ?_
  rw [List.mem_filter]
  constructor
  · rintro ⟨h1, h2⟩
    have := mem_ran.mp h1
    exact (hp x this.1 this.2).mp h2
  · intro hx
    have := q.2 x hx
    exact ⟨mem_ran.mpr this, (hp x this.1 this.2).mpr hx⟩
/-! ### clashes: what is told -/
theorem clashIn_none {plan : List (List Int)} : ∀ (r seen : List (List Int)), clashIn plan seen r = none → (∀ a ∈ seen, ∀ b ∈ r, met plan a ≠ met plan b) ∧ r.Pairwise fun a b => met plan a ≠ met plan b
  | [], _, _ => ⟨fun a _ b hb => (by cases hb), List.Pairwise.nil⟩
  | s :: r, seen, h => by
    unfold clashIn at h
    cases hf : seen.find? fun t => decide (met plan t = met plan s) with
    | some t => rw [hf] at h; cases h
    | none =>
      rw [hf] at h
      obtain ⟨h1, h2⟩ := clashIn_none r (seen ++ [s]) h
      have h3 : ∀ a ∈ seen, met plan a ≠ met plan s := fun a ha z => by
        have := List.find?_eq_none.mp hf a ha
        exact this (decide_eq_true z)
      refine ⟨fun a ha b hb => ?_, List.pairwise_cons.mpr ⟨fun b hb => h1 s (by simp) b hb, h2⟩⟩
      rcases List.mem_cons.mp hb with rfl | hb
      · exact h3 a ha
      · exact h1 a (List.mem_append_left _ ha) b hb
theorem clashIn_of_inj {plan : List (List Int)} : ∀ (r seen : List (List Int)), (∀ a ∈ seen, ∀ b ∈ r, met plan a ≠ met plan b) → (r.Pairwise fun a b => met plan a ≠ met plan b) → clashIn plan seen r = none
  | [], _, _, _ => rfl
  | s :: r, seen, h1, h2 => by
    have hf : (seen.find? fun t => decide (met plan t = met plan s)) = none := by
      rw [List.find?_eq_none]
      intro a ha z
      exact h1 a ha s List.mem_cons_self (of_decide_eq_true z)
    unfold clashIn
    rw [hf]
    have h3 := List.pairwise_cons.mp h2
    refine clashIn_of_inj r (seen ++ [s]) (fun a ha b hb => ?_) h3.2
    rcases List.mem_append.mp ha with ha | ha
    · exact h1 a ha b (List.mem_cons_of_mem _ hb)
    · rw [List.mem_singleton.mp ha]
      exact h3.1 b hb
theorem clashIn_ne {plan : List (List Int)} : ∀ (r seen : List (List Int)) (a b : List Int), (seen ++ r).Nodup → clashIn plan seen r = some (a, b) → a ≠ b
  | [], _, _, _, _, h => by cases h
  | s :: r, seen, a, b, hn, h => by
    unfold clashIn at h
    cases hf : seen.find? fun t => decide (met plan t = met plan s) with
    | some t =>
      rw [hf] at h
      have e := Option.some.inj h
      obtain rfl : t = a := congrArg Prod.fst e
      obtain rfl : s = b := congrArg Prod.snd e
      exact (List.nodup_append.mp hn).2.2 t (List.mem_of_find?_eq_some hf) s List.mem_cons_self
    | none =>
      rw [hf] at h
      exact clashIn_ne r (seen ++ [s]) a b (by rw [List.append_assoc]; exact hn) h
/-- the plan tells all sets apart -/
def Apart (n : Int) (plan : List (List Int)) (m : Int) : Prop := ∀ a ∈ allSets n m, ∀ b ∈ allSets n m, met plan a = met plan b → a = b
theorem clash_none {n m : Int} {plan : List (List Int)} (h1 : 0 ≤ n) (h2 : n ≤ 8) (h3 : 0 ≤ m) (h4 : m ≤ 3) : clashOf n plan m = none ↔ Apart n plan m := by
  have hn := allSets_nodup h1 h2 h3 h4
  constructor
  · intro h a ha b hb e
    have hp := (clashIn_none _ _ h).2
    obtain ⟨i, hi⟩ := List.getElem?_of_mem ha
    obtain ⟨j, hj⟩ := List.getElem?_of_mem hb
    obtain ⟨li, ei⟩ := List.getElem?_eq_some_iff.mp hi
    obtain ⟨lj, ej⟩ := List.getElem?_eq_some_iff.mp hj
    have hpi := List.pairwise_iff_getElem.mp hp
    rcases Nat.lt_trichotomy i j with h | h | h
    · exact absurd (by rw [ei, ej]; exact e) (hpi i j li lj h)
    · subst h
      exact ei.symm.trans ej
    · exact absurd (by rw [ei, ej]; exact e.symm) (hpi j i lj li h)
  · intro h
    refine clashIn_of_inj _ _ (fun a ha => nomatch ha) ?_
    rw [List.pairwise_iff_getElem]
    intro i j hi hj hij e
    have := h _ (List.getElem_mem hi) _ (List.getElem_mem hj) e
    have := (List.getElem_inj hn).mp this
    omega
theorem filter_one {α : Type} {l : List α} {p : α → Bool} {x : α} (hn : l.Nodup) (hx : x ∈ l) (hp : ∀ y ∈ l, p y = true ↔ y = x) : l.filter p = [x] := by
  induction l with
  | nil => cases hx
  | cons a r ih =>
    have hn' := List.nodup_cons.mp hn
    rw [List.filter_cons]
    by_cases h : a = x
    · rw [if_pos ((hp a List.mem_cons_self).mpr h), h]
      congr 1
      rw [List.filter_eq_nil_iff]
      intro y hy hpy
      have := (hp y (List.mem_cons_of_mem _ hy)).mp hpy
      rw [this, ← h] at hy
      exact hn'.1 hy
    · rw [if_neg (fun z => h ((hp a List.mem_cons_self).mp z))]
      refine ih hn'.2 ?_ fun y hy => hp y (List.mem_cons_of_mem _ hy)
      rcases List.mem_cons.mp hx with hx | hx
      · exact absurd hx.symm h
      · exact hx
theorem fits_one {n m : Int} {plan : List (List Int)} {s : List Int} (h1 : 0 ≤ n) (h2 : n ≤ 8) (h3 : 0 ≤ m) (h4 : m ≤ 3) (ha : Apart n plan m) (hs : s ∈ allSets n m) : fits n plan m (met plan s) = [s] :=
  filter_one (allSets_nodup h1 h2 h3 h4) hs fun y hy => ⟨fun z => ha y hy s hs (of_decide_eq_true z), fun z => by rw [z]; exact decide_eq_true rfl⟩
/-! ### covers: what is told -/
theorem covers_iff {plan : List (List Int)} {x : Int} {s : List Int} : coversB plan x s = true ↔ ∀ m ∈ plan, x ∈ m → metOne m s = true := by
  unfold coversB metOne
  rw [List.all_eq_true]
  refine forall_congr' fun m => forall_congr' fun _ => ?_
  rw [Bool.not_eq_true', Bool.and_eq_false_iff, decide_eq_false_iff_not, decide_eq_false_iff_not, decide_eq_true_iff]
  constructor
  · rintro (h | h) hx
    · exact absurd hx h
    · omega
  · intro h
    by_cases hx : x ∈ m
    · have := h hx
      exact .inr (by omega)
    · exact .inl hx
/-- no ware is covered -/
def Clear (n : Int) (plan : List (List Int)) (m : Int) : Prop := ∀ x, 0 ≤ x → x < n → ∀ s ∈ allSets n m, x ∉ s → coversB plan x s = false
theorem cover_none {n m : Int} {plan : List (List Int)} : coverOf n plan m = none ↔ Clear n plan m := by
  unfold coverOf Clear
  rw [List.findSome?_eq_none_iff]
  constructor
  · intro h x h0 h1 s hs hx
    have := h x (mem_ran.mpr ⟨h0, h1⟩)
    unfold coverIn at this
    have hf := Option.map_eq_none_iff.mp this
    have := List.find?_eq_none.mp hf s hs
    rw [decide_eq_false hx] at this
    simpa using this
  · intro h x hx
    have hr := mem_ran.mp hx
    unfold coverIn
    rw [find_none fun s hs => ?_]
    · rfl
    · by_cases c : x ∈ s
      · simp [c]
      · simp [c, h x hr.1 hr.2 s hs c]
theorem cover_some {n m : Int} {plan : List (List Int)} {x : Int} {s : List Int} (h : coverOf n plan m = some (x, s)) : 0 ≤ x ∧ x < n ∧ s ∈ allSets n m ∧ x ∉ s ∧ coversB plan x s = true := by
  unfold coverOf at h
  obtain ⟨y, hy, hc⟩ := List.exists_of_findSome?_eq_some h
  unfold coverIn at hc
  cases hf : (allSets n m).find? fun s => !decide (y ∈ s) && coversB plan y s with
  | none => rw [hf] at hc; cases hc
  | some t =>
    rw [hf] at hc
    have e := Option.some.inj hc
    obtain rfl : y = x := congrArg Prod.fst e
    obtain rfl : t = s := congrArg Prod.snd e
    have hr := mem_ran.mp hy
    have hp := List.find?_some (p := fun s => !decide (y ∈ s) && coversB plan y s) hf
    rw [Bool.and_eq_true, Bool.not_eq_true', decide_eq_false_iff_not] at hp
    exact ⟨hr.1, hr.2, List.mem_of_find?_eq_some hf, hp.1, hp.2⟩
theorem met_at {plan : List (List Int)} {s t : List Int} (h : met plan s = met plan t) {m : List Int} (hm : m ∈ plan) : metOne m s = metOne m t := by
  unfold met at h
  induction plan with
  | nil => cases hm
  | cons a r ih =>
    rw [List.map_cons, List.map_cons] at h
    injection h with h1 h2
    rcases List.mem_cons.mp hm with rfl | hm
    · exact h1
    · exact ih h2 hm
theorem met_of {plan : List (List Int)} {s t : List Int} (h : ∀ m ∈ plan, metOne m s = metOne m t) : met plan s = met plan t := List.map_congr_left h
/-- point 11, one way -/
theorem clear_apart {n m : Int} {plan : List (List Int)} (h1 : 0 ≤ n) (h2 : n ≤ 8) (h3 : 0 ≤ m) (h4 : m ≤ 3) (h : Clear n plan m) : Apart n plan m := by
  have aok := (allSets_ok h1 h2 h3 h4).1
  have key : ∀ a ∈ allSets n m, ∀ b ∈ allSets n m, met plan a = met plan b → ∀ x, x ∈ a → x ∈ b := fun a ha b hb e x hx => by
    by_cases c : x ∈ b
    · exact c
    · have hr := (isSetB_iff.mp (aok a ha).2).2 x hx
      have hcl := h x hr.1 hr.2 b hb c
      have : coversB plan x b = true := covers_iff.mpr fun mm hm hxm => by
        rw [← met_at e hm]
        exact metOne_iff.mpr ⟨x, hxm, hx⟩
      rw [this] at hcl
      cases hcl
  intro a ha b hb e
  exact rising_eq (isSetB_iff.mp (aok a ha).2).1 (isSetB_iff.mp (aok b hb).2).1 fun x => ⟨key a ha b hb e x, key b hb a ha e.symm x⟩
theorem plain_iff {plan : List (List Int)} {s : List Int} {x : Int} : plainB plan (met plan s) x = true ↔ ∀ m ∈ plan, x ∈ m → metOne m s = true := by
  unfold plainB met
  rw [zip_any, Bool.not_eq_true', List.any_eq_false]
  refine forall_congr' fun m => forall_congr' fun _ => ?_
  rw [Bool.and_eq_true, Bool.not_eq_true', decide_eq_true_iff]
  cases h : metOne m s <;> simp
theorem clear_plain {n m : Int} {plan : List (List Int)} {s : List Int} (h : Clear n plan m) (hs : s ∈ allSets n m) (hset : isSetB n s = true) : plainL n plan (met plan s) = s :=
  filter_set hset fun x h0 h1 => by
    rw [plain_iff, ← covers_iff]
    constructor
    · intro z
      by_cases c : x ∈ s
      · exact c
      · rw [h x h0 h1 s hs c] at z
        cases z
    · intro hx
      exact covers_iff.mpr fun mm hm hxm => metOne_iff.mpr ⟨x, hxm, hx⟩
theorem filter_or_len {α : Type} (p q : α → Bool) : ∀ l : List α, (l.filter fun y => p y || q y).length ≤ (l.filter p).length + (l.filter q).length
  | [] => Nat.zero_le _
  | a :: r => by
    have ih := filter_or_len p q r
    rw [List.filter_cons, List.filter_cons, List.filter_cons]
    cases p a <;> cases q a <;> simp <;> omega
/-- point 11, the other way -/
theorem apart_clear {n m : Int} {plan : List (List Int)} (h1 : 0 ≤ n) (h2 : n ≤ 8) (h3 : 1 ≤ m) (h4 : m ≤ 3) (h : Apart n plan m) : Clear n plan (m - 1) := by
  intro x h0 hn s hs hx
  cases hc : coversB plan x s with
  | false => rfl
  | true =>
    have aok := (allSets_ok h1 h2 (show 0 ≤ m - 1 by omega) (by omega)).1 s hs
    have sset := isSetB_iff.mp aok.2
    have tset : isSetB n ((ran 0 n).filter fun y => decide (y = x) || decide (y ∈ s)) = true := by
      rw [isSetB_iff]
      exact ⟨(ran_pw 0 n).sublist List.filter_sublist, fun y hy => mem_ran.mp (List.mem_filter.mp hy).1⟩
    have tmem : ∀ y, y ∈ ((ran 0 n).filter fun y => decide (y = x) || decide (y ∈ s)) ↔ (y = x ∨ y ∈ s) := fun y => by
      rw [List.mem_filter, mem_ran, Bool.or_eq_true, decide_eq_true_iff, decide_eq_true_iff]
      constructor
      · exact fun z => z.2
      · rintro (rfl | z)
        · exact ⟨⟨h0, hn⟩, .inl rfl⟩
        · exact ⟨sset.2 y z, .inr z⟩
    have tl : ((ran 0 n).filter fun y => decide (y = x) || decide (y ∈ s)).length ≤ s.length + 1 := by
      have h5 := filter_or_len (fun y => decide (y = x)) (fun y => decide (y ∈ s)) (ran 0 n)
      have h6 : (ran 0 n).filter (fun y => decide (y = x)) = [x] := filter_one ((ran_pw 0 n).imp fun {a b} h => Int.ne_of_lt h) (mem_ran.mpr ⟨h0, hn⟩) fun y _ => by rw [decide_eq_true_iff]
      have h7 : (ran 0 n).filter (fun y => decide (y ∈ s)) = s := filter_set aok.2 fun y _ _ => by rw [decide_eq_true_iff]
      rw [h6, h7] at h5
      rw [List.length_singleton] at h5
      omega
    generalize ((ran 0 n).filter fun y => decide (y = x) || decide (y ∈ s)) = t at tset tmem tl
    have ta : t ∈ allSets n m := mem_all h1 tset (by omega)
    have sa : s ∈ allSets n m := mem_all h1 aok.2 (by omega)
    have e : met plan t = met plan s := met_of fun mm hm => by
      rw [Bool.eq_iff_iff, metOne_iff, metOne_iff]
      constructor
      · rintro ⟨y, hy, hyt⟩
        rcases (tmem y).mp hyt with rfl | z
        · exact metOne_iff.mp (covers_iff.mp hc mm hm hy)
        · exact ⟨y, hy, z⟩
      · rintro ⟨y, hy, hys⟩
        exact ⟨y, hy, (tmem y).mpr (.inr hys)⟩
    have := h t ta s sa e
    exact absurd ((tmem x).mpr (.inl rfl)) (by rw [this]; exact hx)
/-! ### more mixtures, a lesser most -/
theorem all_less {n m : Int} {s : List Int} (h1 : 0 ≤ n) (h2 : n ≤ 8) (h3 : 1 ≤ m) (h4 : m ≤ 3) (hs : s ∈ allSets n (m - 1)) : s ∈ allSets n m := by
  have q := (allSets_ok h1 h2 (show 0 ≤ m - 1 by omega) (by omega)).1 s hs
  exact mem_all h1 q.2 (by omega)
theorem apart_more {n m : Int} {plan more : List (List Int)} (h : Apart n plan m) (hsub : ∀ x ∈ plan, x ∈ more) : Apart n more m := fun a ha b hb e =>
  h a ha b hb (met_of fun mm hm => met_at e (hsub mm hm))
theorem clear_more {n m : Int} {plan more : List (List Int)} (h : Clear n plan m) (hsub : ∀ x ∈ plan, x ∈ more) : Clear n more m := fun x h0 h1 s hs hx => by
  have := h x h0 h1 s hs hx
  cases c : coversB more x s with
  | false => rfl
  | true =>
    have : coversB plan x s = true := covers_iff.mpr fun mm hm hxm => covers_iff.mp c mm (hsub mm hm) hxm
    simp_all
end Mx
namespace Mx
/-! ### the wares sorted out -/
def cntS (fs : List (List Int)) (x : Int) : Nat := (fs.filter fun s => decide (x ∈ s)).length
def outS (n : Int) (fs : List (List Int)) : List Int := (ran 0 n).filter fun x => decide (cntS fs x = fs.length)
def outG (n : Int) (fs : List (List Int)) : List Int := (ran 0 n).filter fun x => decide (cntS fs x = 0)
def outL (n : Int) (fs : List (List Int)) : List Int := (ran 0 n).filter fun x => decide (0 < cntS fs x) && decide (cntS fs x < fs.length)
theorem cnt_one (s : List Int) (x : Int) : cntS [s] x = if x ∈ s then 1 else 0 := by
  unfold cntS
  by_cases h : x ∈ s <;> simp [h]
theorem out_one {n : Int} {s : List Int} (hs : isSetB n s = true) : outS n [s] = s ∧ outG n [s] = (ran 0 n).filter (fun x => !decide (x ∈ s)) ∧ outL n [s] = [] := by
  refine ⟨filter_set hs fun x _ _ => ?_, ?_, ?_⟩
  · rw [cnt_one, decide_eq_true_iff]
    by_cases h : x ∈ s <;> simp [h]
  · unfold outG
    refine List.filter_congr fun x _ => ?_
    rw [cnt_one]
    by_cases h : x ∈ s <;> simp [h]
  · unfold outL
    rw [List.filter_eq_nil_iff]
    intro x _
    rw [cnt_one]
    by_cases h : x ∈ s <;> simp [h]
end Mx
namespace Mx
/-! ### thinned -/
def thinN (n m : Int) : Nat → List (List Int) → List (List Int)
  | 0, l => l
  | k + 1, l => thinN n m k (if clashOf n (l.eraseIdx k) m = none then l.eraseIdx k else l)
def thin (n m : Int) (plan : List (List Int)) : List (List Int) := thinN n m plan.length plan
theorem thinN_sub (n m : Int) : ∀ (k : Nat) (l : List (List Int)), (thinN n m k l).Sublist l
  | 0, l => List.Sublist.refl l
  | k + 1, l => by
    unfold thinN
    split
    · exact (thinN_sub n m k _).trans (List.eraseIdx_sublist l k)
    · exact thinN_sub n m k l
theorem thinN_none {n m : Int} : ∀ (k : Nat) (l : List (List Int)), clashOf n l m = none → clashOf n (thinN n m k l) m = none
  | 0, l, h => h
  | k + 1, l, h => by
    unfold thinN
    split
    · rename_i z
      exact thinN_none k _ z
    · exact thinN_none k l h
theorem mem_erase2 {l : List (List Int)} {k j : Nat} (hkj : k ≤ j) {x : List Int} (h : x ∈ (l.eraseIdx k).eraseIdx j) : x ∈ l.eraseIdx (j + 1) := by
  obtain ⟨i, hi⟩ := List.getElem?_of_mem h
  rw [List.getElem?_eraseIdx] at hi
  by_cases c : i < j
  · rw [if_pos c, List.getElem?_eraseIdx] at hi
    by_cases c2 : i < k
    · rw [if_pos c2] at hi
      exact List.mem_of_getElem? (i := i) (by rw [List.getElem?_eraseIdx, if_pos (by omega)]; exact hi)
    · rw [if_neg c2] at hi
      exact List.mem_of_getElem? (i := i + 1) (by rw [List.getElem?_eraseIdx, if_pos (by omega)]; exact hi)
  · rw [if_neg c, List.getElem?_eraseIdx, if_neg (by omega)] at hi
    exact List.mem_of_getElem? (i := i + 1) (by rw [List.getElem?_eraseIdx, if_neg (by omega)]; exact hi)
theorem thinN_min {n m : Int} (h1 : 0 ≤ n) (h2 : n ≤ 8) (h3 : 0 ≤ m) (h4 : m ≤ 3) : ∀ (k : Nat) (l : List (List Int)), k ≤ l.length → (∀ j, k ≤ j → j < l.length → clashOf n (l.eraseIdx j) m ≠ none) → ∀ j, j < (thinN n m k l).length → clashOf n ((thinN n m k l).eraseIdx j) m ≠ none
  | 0, l, _, h => fun j hj => h j (Nat.zero_le _) hj
  | k + 1, l, hk, h => by
    unfold thinN
    split
    · rename_i z
      refine thinN_min h1 h2 h3 h4 k _ (by rw [List.length_eraseIdx, if_pos (by omega)]; omega) fun j hj hl => ?_
      rw [List.length_eraseIdx, if_pos (by omega)] at hl
      intro zz
      refine h (j + 1) (by omega) (by omega) ?_
      rw [clash_none h1 h2 h3 h4] at zz ⊢
      exact apart_more zz fun x hx => mem_erase2 hj hx
    · rename_i z
      refine thinN_min h1 h2 h3 h4 k _ (by omega) fun j hj hl => ?_
      rcases Nat.lt_or_ge k j with c | c
      · exact h j (by omega) hl
      · have : j = k := by omega
        subst this
        exact z
theorem thin_min {n m : Int} {plan : List (List Int)} (h1 : 0 ≤ n) (h2 : n ≤ 8) (h3 : 0 ≤ m) (h4 : m ≤ 3) : ∀ j, j < (thin n m plan).length → clashOf n ((thin n m plan).eraseIdx j) m ≠ none :=
  thinN_min h1 h2 h3 h4 plan.length plan (Nat.le_refl _) fun j hj hl => by omega
theorem planB_sub {n : Int} {l plan : List (List Int)} (hs : l.Sublist plan) (h : planB n plan = true) : planB n l = true := by
  unfold planB at h ⊢
  rw [Bool.and_eq_true, decide_eq_true_iff, List.all_eq_true] at h ⊢
  exact ⟨Nat.le_trans hs.length_le h.1, fun x hx => h.2 x (hs.subset hx)⟩
end Mx
/-! own layer: new lists of new lists, comprehensions by what they evaluate to -/
namespace Mx
open PySem PySem.Spec PyProof.Rows L2 Evl

section
variable {K : PySem.W.Frag} {H H0 H1 H2 H' : Hp} {σ : L2.St}
theorem paired_get {α β : Type} {F : α → β → Prop} : ∀ {xs : List α} {ys : List β} {i : Nat} {x : α}, Paired F xs ys → xs[i]? = some x → ∃ y, ys[i]? = some y ∧ F x y
  | _, _, _, _, .nil, e => by simp at e
  | _, _, 0, x, .cons r _, e => by simp at e; subst e; exact ⟨_, rfl, r⟩
  | _, _, i + 1, x, .cons _ t, e => by
    obtain ⟨y, h1, h2⟩ := paired_get (i := i) (x := x) t (by simpa using e)
    exact ⟨y, by simpa using h1, h2⟩
theorem paired_get2 {α β : Type} {F : α → β → Prop} : ∀ {xs : List α} {ys : List β} {i : Nat} {y : β}, Paired F xs ys → ys[i]? = some y → ∃ x, xs[i]? = some x ∧ F x y
  | _, _, _, _, .nil, e => by simp at e
  | _, _, 0, x, .cons r _, e => by simp at e; subst e; exact ⟨_, rfl, r⟩
  | _, _, i + 1, x, .cons _ t, e => by
    obtain ⟨y, h1, h2⟩ := paired_get2 (i := i) (y := x) t (by simpa using e)
    exact ⟨y, by simpa using h1, h2⟩
theorem paired_mem {α β : Type} {F : α → β → Prop} : ∀ {xs : List α} {ys : List β} {x : α}, Paired F xs ys → x ∈ xs → ∃ y, y ∈ ys ∧ F x y
  | _, _, _, .nil, e => by simp at e
  | _, _, x, .cons r t, e => by
    rcases List.mem_cons.mp e with rfl | e
    · exact ⟨_, List.mem_cons_self, r⟩
    · obtain ⟨y, h1, h2⟩ := paired_mem t e
      exact ⟨y, List.mem_cons_of_mem _ h1, h2⟩
theorem paired_mono {α β : Type} {F G : α → β → Prop} : ∀ {xs : List α} {ys : List β}, Paired F xs ys → (∀ x y, x ∈ xs → F x y → G x y) → Paired G xs ys
  | _, _, .nil, _ => .nil
  | _, _, .cons r t, f => .cons (f _ _ List.mem_cons_self r) (paired_mono t fun x y h => f x y (List.mem_cons_of_mem _ h))
theorem paired_app {α β : Type} {F : α → β → Prop} : ∀ {xs xs' : List α} {ys ys' : List β}, Paired F xs ys → Paired F xs' ys' → Paired F (xs ++ xs') (ys ++ ys')
  | _, _, _, _, .nil, s => s
  | _, _, _, _, .cons r t, s => .cons r (paired_app t s)

/-- lists of whole numbers; lists of lists of them -/
def LI (K : PySem.W.Frag) (H : Hp) (a : Addr) (xs : List Int) : Prop := SqL K H a (xs.map V.int)
def LB (K : PySem.W.Frag) (H : Hp) (a : Addr) (bs : List Bool) : Prop := SqL K H a (bs.map V.bl)
def LL (K : PySem.W.Frag) (H : Hp) (a : Addr) (xss : List (List Int)) : Prop := ∃ as : List Addr, SqL K H a (as.map V.ref) ∧ Paired (fun b xs => LI K H b xs) as xss
/-- new ones: not there in H0 -/
def NI (H0 H : Hp) (a : Addr) (xs : List Int) : Prop := H0 a = none ∧ H a = some (.lst (xs.map V.int))
def NB (H0 H : Hp) (a : Addr) (bs : List Bool) : Prop := H0 a = none ∧ H a = some (.lst (bs.map V.bl))
structure NLs (H0 H : Hp) (a : Addr) (as : List Addr) (xss : List (List V)) : Prop where
  new : H0 a = none
  at_ : H a = some (.lst (as.map V.ref))
  nd : as.Nodup
  each : Paired (fun b xs => H0 b = none ∧ b ≠ a ∧ H b = some (.lst xs)) as xss
def NLL (H0 H : Hp) (a : Addr) (as : List Addr) (xss : List (List Int)) : Prop := NLs H0 H a as (xss.map fun xs => xs.map V.int)

theorem LI.mono (e : Ex H H') {a : Addr} {xs : List Int} (h : LI K H a xs) : LI K H' a xs := ex_l e h
theorem LB.mono (e : Ex H H') {a : Addr} {xs : List Bool} (h : LB K H a xs) : LB K H' a xs := ex_l e h
theorem LL.mono (e : Ex H H') {a : Addr} {xs : List (List Int)} (h : LL K H a xs) : LL K H' a xs := by
  obtain ⟨as, h1, h2⟩ := h
  exact ⟨as, ex_l e h1, paired_mono h2 fun _ _ _ q => ex_l e q⟩
theorem NI.li {a : Addr} {xs : List Int} (h : NI H0 H a xs) : LI K H a xs := sq_of h.2
theorem NB.lb {a : Addr} {xs : List Bool} (h : NB H0 H a xs) : LB K H a xs := sq_of h.2
theorem paired_map {α β γ : Type} {F : α → γ → Prop} (g : β → γ) : ∀ {xs : List α} {ys : List β}, Paired F xs (ys.map g) → Paired (fun x y => F x (g y)) xs ys
  | _, [], h => by
    have h' : Paired F _ [] := h
    cases h'
    exact .nil
  | _, y :: ys, h => by
    have h' : Paired F _ (g y :: ys.map g) := h
    cases h' with
    | cons r t => exact .cons r (paired_map g t)
theorem map_paired {α β γ : Type} {F : α → γ → Prop} (g : β → γ) : ∀ {xs : List α} {ys : List β}, Paired (fun x y => F x (g y)) xs ys → Paired F xs (ys.map g)
  | _, _, .nil => .nil
  | _, _, .cons r t => .cons r (map_paired g t)
theorem NLL.ll {a : Addr} {as : List Addr} {xss : List (List Int)} (h : NLL H0 H a as xss) : LL K H a xss :=
  ⟨as, sq_of h.at_, paired_mono (paired_map _ h.each) fun _ _ _ q => sq_of q.2.2⟩
theorem NLs.mono {a : Addr} {as : List Addr} {xss : List (List V)} (h : NLs H0 H a as xss) (e : Ex H H') : NLs H0 H' a as xss :=
  ⟨h.new, e _ _ h.at_, h.nd, paired_mono h.each fun _ _ _ q => ⟨q.1, q.2.1, e _ _ q.2.2⟩⟩
theorem NLs.back {a : Addr} {as : List Addr} {xss : List (List V)} (h : NLs H1 H a as xss) (e : Ex H0 H1) : NLs H0 H a as xss :=
  ⟨fresh_back e h.new, h.at_, h.nd, paired_mono h.each fun _ _ _ q => ⟨fresh_back e q.1, q.2⟩⟩
theorem NLL.mono {a : Addr} {as : List Addr} {xss : List (List Int)} (h : NLL H0 H a as xss) (e : Ex H H') : NLL H0 H' a as xss := NLs.mono h e
theorem NLL.back {a : Addr} {as : List Addr} {xss : List (List Int)} (h : NLL H1 H a as xss) (e : Ex H0 H1) : NLL H0 H a as xss := NLs.back h e

/-! ### what a walk yields -/
/-- the walk yields xs, one by one, and leaves the heap -/
def Wk (wi : TI) (σ : L2.St) (H : Hp) (xs : List V) : Prop := ∀ H1, Ex H H1 → ∀ R : It → Hp → Prop,
  (∀ J H2, Ex H1 H2 → (∀ i H', Ex H2 H' → (∀ x, xs[i]? = some x → J.go i H' ∧ ∀ y H'', J.yld i H' y H'' → H'' = H' ∧ y = x) ∧ (xs.length ≤ i → J.stop i H')) → R J H2) → wi σ H1 R
theorem wk_list {a : Addr} {xs : List V} {tl : TE} (hl : Ev tl σ H (.ref a)) (hx : SqL K H a xs) : Wk (iList K tl) σ H xs := fun H1 e R k =>
  hl H1 e _ fun H2 e2 => ⟨a, rfl, ⟨xs, ex_l (e.trans e2) hx⟩, k _ _ e2 fun i H' e' =>
    have q : SqL K H' a xs := ex_l ((e.trans e2).trans e') hx
    ⟨fun x hx => ⟨⟨xs, x, q, hx⟩, fun y H'' hy => ⟨hy.1, Option.some.inj ((hy.2 xs q).symm.trans hx)⟩⟩, fun hi => ⟨xs, q, hi⟩⟩⟩
/-- over a list made on the way -/
theorem wk_new {xs : List V} {tl : TE} (hl : EvL tl σ H xs) : Wk (iList K tl) σ H xs := fun H1 e R k =>
  hl H1 e _ fun a H2 _ e2 ha => ⟨a, rfl, ⟨xs, sq_of ha⟩, k _ _ e2 fun i H' e' =>
    have q : SqL K H' a xs := ex_l e' (sq_of ha)
    ⟨fun x hx => ⟨⟨xs, x, q, hx⟩, fun y H'' hy => ⟨hy.1, Option.some.inj ((hy.2 xs q).symm.trans hx)⟩⟩, fun hi => ⟨xs, q, hi⟩⟩⟩
theorem ran_len (lo hi : Int) : (ran lo hi).length = (hi - lo).toNat := by
  unfold ran
  rw [List.length_map, List.length_range]
theorem ran_get {lo hi : Int} {i : Nat} (h : i < (hi - lo).toNat) : (ran lo hi)[i]? = some (lo + (i : Int)) := by
  unfold ran
  rw [List.getElem?_map, List.getElem?_range h]
  rfl
theorem wk_ran {ta : TA} {lo hi : Int} (h : EvA ta σ H [.int lo, .int hi]) (hb : -100000 ≤ lo ∧ lo ≤ 100000 ∧ -100000 ≤ hi ∧ hi ≤ 100000) : Wk (iRng2 ta) σ H ((ran lo hi).map V.int) := fun H1 e R k =>
  h H1 e _ fun H2 e2 => ⟨lo, hi, rfl, ⟨by omega, by omega, by omega, by omega⟩, k _ _ e2 fun i H' e' => by
    refine ⟨fun x hx => ?_, fun hi' => ?_⟩
    · have hi' : i < (hi - lo).toNat := by
        have := (List.getElem?_eq_some_iff.mp hx).1
        rw [List.length_map, ran_len] at this
        exact this
      rw [List.getElem?_map, ran_get hi'] at hx
      exact ⟨hi', fun y H'' hy => ⟨hy.1, hy.2.trans (Option.some.inj hx)⟩⟩
    · rw [List.length_map, ran_len] at hi'
      exact hi'⟩
theorem wk_ran1 {ta : TA} {hi : Int} (h : EvA ta σ H [.int hi]) (hb : -100000 ≤ hi ∧ hi ≤ 100000) : Wk (iRng1 ta) σ H ((ran 0 hi).map V.int) := fun H1 e R k =>
  h H1 e _ fun H2 e2 => ⟨hi, rfl, by omega, by omega, k _ _ e2 fun i H' e' => by
    refine ⟨fun x hx => ?_, fun hi' => ?_⟩
    · have hi' : i < (hi - 0).toNat := by
        have := (List.getElem?_eq_some_iff.mp hx).1
        rw [List.length_map, ran_len] at this
        exact this
      rw [List.getElem?_map, ran_get hi'] at hx
      exact ⟨(by show i < hi.toNat; omega), fun y H'' hy => ⟨hy.1, hy.2.trans (Option.some.inj hx)⟩⟩
    · rw [List.length_map, ran_len] at hi'
      show hi.toNat ≤ i
      omega⟩

/-! ### comprehensions -/
theorem take_fm {α : Type} {ys : List (Option α)} {i : Nat} {o : Option α} (h : ys[i]? = some o) : (ys.take (i + 1)).filterMap id = (ys.take i).filterMap id ++ o.toList := by
  rw [List.take_add_one, h, List.filterMap_append]
  cases o <;> rfl
theorem fm_len {α : Type} (ys : List (Option α)) (i : Nat) : ((ys.take i).filterMap id).length ≤ ys.length :=
  Nat.le_trans (List.length_filterMap_le _ _) (by rw [List.length_take]; exact Nat.min_le_right _ _)
/-- the elements are values: y of an item, or left out -/
theorem el_lc {wi : TI} {tt : TT} {te : TE} {vs : List Nat} {j : Nat} {xs : List V} (ys : List (Option V)) (hwk : Wk wi σ H xs) (hz : xs.length < 100000) (hw : ∀ x, wipe ((wipe σ vs).set j (some x)) vs = wipe σ vs)
    (hs : Paired (fun x o => (o = none ∧ EvT tt ((wipe σ vs).set j (some x)) H false) ∨ ∃ y, o = some y ∧ EvT tt ((wipe σ vs).set j (some x)) H true ∧ Ev te ((wipe σ vs).set j (some x)) H y) xs ys) :
    EvL (tLc wi (gName j) tt te vs) σ H (ys.filterMap id) := fun H1 e Q q =>
  hwk H1 e _ fun J H2 e2 hJ D hD => by
    have hxy := hs.length
    refine ⟨fun i m H' => m = xs.length - i ∧ i ≤ xs.length ∧ Ex H2 H' ∧ H' D = some (.lst ((ys.take i).filterMap id)), ⟨_, rfl, Nat.zero_le _, Ex.new hD, upd_same⟩, ?_⟩
    rintro i m H' ⟨rfl, hi, e', hd⟩
    by_cases hlt : i < xs.length
    · obtain ⟨go, yld⟩ := (hJ i H' e').1 xs[i] (List.getElem?_eq_getElem hlt)
      refine .inr ⟨go, fun H'' => Ex H2 H'' ∧ H'' D = some (.lst ((ys.take (i + 1)).filterMap id)), fun H'' z => ⟨xs.length - (i + 1), by omega, rfl, hlt, z⟩, fun x H'' hy => ?_⟩
      obtain ⟨rfl, rfl⟩ := yld x H'' hy
      refine ⟨hw _, ?_⟩
      have e3 : Ex H H'' := (e.trans e2).trans e'
      obtain ⟨o, ho, hso⟩ := paired_get hs (List.getElem?_eq_getElem hlt)
      have ht := take_fm ho
      rcases hso with ⟨fx, ht'⟩ | ⟨y, fx, ht', he⟩
      · refine ht' H'' e3 _ fun H3 e4 => ?_
        refine iteF ⟨e'.trans e4, ?_⟩
        rw [ht, fx]
        simpa using e4 _ _ hd
      · refine ht' H'' e3 _ fun H3 e4 => ?_
        refine iteT (he H3 (e3.trans e4) _ fun H4 e5 => ?_)
        refine ⟨_, e5 _ _ (e4 _ _ hd), Nat.lt_of_le_of_lt (fm_len ys i) (sz_lt (by omega)), Ex.mut ((e'.trans e4).trans e5) hD, ?_⟩
        rw [upd_same, ht, fx]
        rfl
    · have hn : i = xs.length := by omega
      subst hn
      refine .inl ⟨(hJ _ H' e').2 (Nat.le_refl _), ?_⟩
      rw [hxy, List.take_length] at hd
      exact q D H' (fresh_back e2 hD) (e2.trans e') hd
/-- the elements are new lists -/
def EvLs (te : TE) (σ : L2.St) (H : Hp) (xss : List (List V)) : Prop := ∀ H1, Ex H H1 → ∀ Q : VK, (∀ p as H2, Ex H1 H2 → NLs H1 H2 p as xss → Q (.ref p) H2) → te σ H1 Q
abbrev EvLL (te : TE) (σ : L2.St) (H : Hp) (xss : List (List Int)) : Prop := EvLs te σ H (xss.map fun xs => xs.map V.int)
theorem els_lc {wi : TI} {tt : TT} {te : TE} {vs : List Nat} {j : Nat} {xs : List V} (yss : List (Option (List V))) (hwk : Wk wi σ H xs) (hz : xs.length < 100000) (hw : ∀ x, wipe ((wipe σ vs).set j (some x)) vs = wipe σ vs)
    (hs : Paired (fun x o => (o = none ∧ EvT tt ((wipe σ vs).set j (some x)) H false) ∨ ∃ y, o = some y ∧ EvT tt ((wipe σ vs).set j (some x)) H true ∧ EvL te ((wipe σ vs).set j (some x)) H y) xs yss) :
    EvLs (tLc wi (gName j) tt te vs) σ H (yss.filterMap id) := fun H1 e Q q =>
  hwk H1 e _ fun J H2 e2 hJ D hD => by
    have hxy := hs.length
    refine ⟨fun i m H' => m = xs.length - i ∧ i ≤ xs.length ∧ Ex H2 H' ∧ ∃ as : List Addr, H' D = some (.lst (as.map V.ref)) ∧ as.Nodup ∧ Paired (fun b ys => H2 b = none ∧ b ≠ D ∧ H' b = some (.lst ys)) as ((yss.take i).filterMap id),
      ⟨_, rfl, Nat.zero_le _, Ex.new hD, [], upd_same, List.nodup_nil, .nil⟩, ?_⟩
    rintro i m H' ⟨rfl, hi, e', as, hd, nd, pr⟩
    by_cases hlt : i < xs.length
    · obtain ⟨go, yld⟩ := (hJ i H' e').1 xs[i] (List.getElem?_eq_getElem hlt)
      refine .inr ⟨go, fun H'' => Ex H2 H'' ∧ ∃ as : List Addr, H'' D = some (.lst (as.map V.ref)) ∧ as.Nodup ∧ Paired (fun b ys => H2 b = none ∧ b ≠ D ∧ H'' b = some (.lst ys)) as ((yss.take (i + 1)).filterMap id),
        fun H'' z => ⟨xs.length - (i + 1), by omega, rfl, hlt, z⟩, fun x H'' hy => ?_⟩
      obtain ⟨rfl, rfl⟩ := yld x H'' hy
      refine ⟨hw _, ?_⟩
      have e3 : Ex H H'' := (e.trans e2).trans e'
      obtain ⟨o, ho, hso⟩ := paired_get hs (List.getElem?_eq_getElem hlt)
      have ht := take_fm ho
      rcases hso with ⟨fx, ht'⟩ | ⟨y, fx, ht', he⟩
      · refine ht' H'' e3 _ fun H3 e4 => ?_
        refine iteF ⟨e'.trans e4, as, e4 _ _ hd, nd, ?_⟩
        rw [ht, fx]
        simpa using paired_mono pr fun _ _ _ z => ⟨z.1, z.2.1, e4 _ _ z.2.2⟩
      · refine ht' H'' e3 _ fun H3 e4 => ?_
        refine iteT (he H3 (e3.trans e4) _ fun p H4 hp e5 hpl => ?_)
        have eD := e5 _ _ (e4 _ _ hd)
        have hpD : p ≠ D := (ne_of_none (e4 _ _ hd) hp).symm
        have hl : (as.map V.ref).length ≤ yss.length := by
          rw [List.length_map, pr.length]
          exact fm_len yss i
        refine ⟨_, eD, Nat.lt_of_le_of_lt hl (sz_lt (by omega)), Ex.mut ((e'.trans e4).trans e5) hD, as ++ [p], ?_, ?_, ?_⟩
        · rw [upd_same, List.map_append]
          rfl
        · refine List.nodup_append.mpr ⟨nd, by simp, fun a ha b hb => ?_⟩
          obtain rfl : b = p := by simpa using hb
          obtain ⟨ys, _, _, _, z⟩ := paired_mem pr ha
          exact ne_of_none (e4 _ _ z) hp
        · rw [ht, fx]
          refine paired_app (paired_mono pr fun b ys _ z => ⟨z.1, z.2.1, ?_⟩) (.cons ⟨fresh_back ((e'.trans e4)) hp, hpD, ?_⟩ .nil)
          · rw [upd_ne z.2.1]
            exact e5 _ _ (e4 _ _ z.2.2)
          · rw [upd_ne hpD]
            exact hpl
    · have hn : i = xs.length := by omega
      subst hn
      refine .inl ⟨(hJ _ H' e').2 (Nat.le_refl _), ?_⟩
      rw [hxy, List.take_length] at pr
      exact q D as H' (e2.trans e') ⟨fresh_back e2 hD, hd, nd, paired_mono pr fun _ _ _ z => ⟨fresh_back e2 z.1, z.2⟩⟩
theorem paired_maps {α β γ δ : Type} {F : α → β → Prop} {G : γ → δ → Prop} (g : α → γ) (h : β → δ) : ∀ {xs : List α} {ys : List β}, Paired F xs ys → (∀ x y, x ∈ xs → y ∈ ys → F x y → G (g x) (h y)) → Paired G (xs.map g) (ys.map h)
  | _, _, .nil, _ => .nil
  | _, _, .cons r t, f => .cons (f _ _ List.mem_cons_self List.mem_cons_self r) (paired_maps g h t fun x y hx hy => f x y (List.mem_cons_of_mem _ hx) (List.mem_cons_of_mem _ hy))
theorem paired_self {α γ δ : Type} {G : γ → δ → Prop} (g : α → γ) (h : α → δ) : ∀ {xs : List α}, (∀ x, x ∈ xs → G (g x) (h x)) → Paired G (xs.map g) (xs.map h)
  | [], _ => .nil
  | _ :: _, f => .cons (f _ List.mem_cons_self) (paired_self g h fun x hx => f x (List.mem_cons_of_mem _ hx))
theorem fm_some {α β : Type} (f : α → β) (xs : List α) : (xs.map fun x => some (f x)).filterMap id = xs.map f := by
  induction xs with
  | nil => rfl
  | cons x r ih => simp
theorem fm_filter {α β : Type} (p : α → Bool) (f : α → β) (xs : List α) : (xs.map fun x => if p x = true then some (f x) else none).filterMap id = (xs.filter p).map f := by
  induction xs with
  | nil => rfl
  | cons x r ih =>
    rw [List.map_cons, List.filter_cons]
    cases h : p x with
    | true => simpa using ih
    | false => simpa using ih
theorem el_of {te : TE} {xs ys : List V} (h : EvL te σ H xs) (e : xs = ys) : EvL te σ H ys := e ▸ h
theorem els_of {te : TE} {xs ys : List (List V)} (h : EvLs te σ H xs) (e : xs = ys) : EvLs te σ H ys := e ▸ h
theorem EvLs.mono {te : TE} {xss : List (List V)} (e : Ex H H') (h : EvLs te σ H xss) : EvLs te σ H' xss := fun H1 a Q q => h H1 (e.trans a) Q q
theorem et_yes : EvT tYes σ H true := fun H1 _ Q q => q H1 (Ex.refl H1)
theorem ev_lenA {K : PySem.W.Frag} {te : TE} {p : Addr} {xs : List V} (ha : Ev te σ H (.ref p)) (h : SqL K H p xs) : Ev (tCB (rLenS K) (tCons te tNil)) σ H (.int (xs.length : Int)) := ev_len ha h
end
end Mx
namespace Mx
open PySem PySem.Spec PyProof.Rows L2 Evl
theorem get_ints {xs : List Int} {i : Nat} {x : V} (h : (xs.map V.int)[i]? = some x) : ∃ z, xs[i]? = some z ∧ x = V.int z := by
  rw [List.getElem?_map] at h
  cases e : xs[i]? with
  | none => rw [e] at h; cases h
  | some z => rw [e] at h; exact ⟨z, rfl, (Option.some.inj h).symm⟩
theorem get_bls {xs : List Bool} {i : Nat} {x : V} (h : (xs.map V.bl)[i]? = some x) : ∃ z, xs[i]? = some z ∧ x = V.bl z := by
  rw [List.getElem?_map] at h
  cases e : xs[i]? with
  | none => rw [e] at h; cases h
  | some z => rw [e] at h; exact ⟨z, rfl, (Option.some.inj h).symm⟩
theorem get_refs {xs : List Addr} {i : Nat} {x : V} (h : (xs.map V.ref)[i]? = some x) : ∃ z, xs[i]? = some z ∧ x = V.ref z := by
  rw [List.getElem?_map] at h
  cases e : xs[i]? with
  | none => rw [e] at h; cases h
  | some z => rw [e] at h; exact ⟨z, rfl, (Option.some.inj h).symm⟩
theorem drop_at {α : Type} {xs : List α} {i : Nat} {z : α} (h : xs[i]? = some z) : xs.drop i = z :: xs.drop (i + 1) := by
  obtain ⟨hl, e⟩ := List.getElem?_eq_some_iff.mp h
  rw [List.drop_eq_getElem_cons hl, e]
theorem take_at {α : Type} {xs : List α} {i : Nat} {z : α} (h : xs[i]? = some z) : xs.take (i + 1) = xs.take i ++ [z] := by
  rw [List.take_add_one, h]
  rfl
end Mx
namespace Mx
open PySem PySem.Spec PyProof.Rows L2 Evl
/-! ### data at any depth: whole numbers, truths, plans -/
abbrev dI (xs : List Int) : PyData := .list (xs.map .int)
abbrev dB (bs : List Bool) : PyData := .list (bs.map .bool)
abbrev dP (plan : List (List Int)) : PyData := .list (plan.map dI)
section
variable {K : PySem.W.Frag} {H H' : Hp}
theorem dpAll_ints : ∀ xs : List Int, DpAll K H (xs.map V.int) (xs.map .int)
  | [] => .nil
  | x :: r => .cons (.int x) (dpAll_ints r)
theorem dpAll_bls : ∀ xs : List Bool, DpAll K H (xs.map V.bl) (xs.map .bool)
  | [] => .nil
  | x :: r => .cons (.bl x) (dpAll_bls r)
theorem dp_I {a : Addr} {xs : List Int} (h : LI K H a xs) : Dp K H (.ref a) (dI xs) := .lst h (dpAll_ints xs)
theorem dp_B {a : Addr} {xs : List Bool} (h : LB K H a xs) : Dp K H (.ref a) (dB xs) := .lst h (dpAll_bls xs)
theorem dpAll_ll : ∀ {as : List Addr} {xss : List (List Int)}, Paired (fun b xs => LI K H b xs) as xss → DpAll K H (as.map V.ref) (xss.map dI)
  | _, _, .nil => .nil
  | _, _, .cons r t => .cons (dp_I r) (dpAll_ll t)
theorem dp_P {a : Addr} {plan : List (List Int)} (h : LL K H a plan) : Dp K H (.ref a) (dP plan) := by
  obtain ⟨as, h1, h2⟩ := h
  exact .lst h1 (dpAll_ll h2)
theorem lay_ints : ∀ xs : List Int, PyData.canLayAll0 (xs.map .int) = true
  | [] => by rw [List.map_nil]; rfl
  | x :: r => by
    rw [List.map_cons, PyData.canLayAll0, lay_ints r]
    rfl
theorem lay_bls : ∀ xs : List Bool, PyData.canLayAll0 (xs.map .bool) = true
  | [] => by rw [List.map_nil]; rfl
  | x :: r => by
    rw [List.map_cons, PyData.canLayAll0, lay_bls r]
    rfl
theorem lay_plan : ∀ xs : List (List Int), PyData.canLayAll0 (xs.map dI) = true
  | [] => by rw [List.map_nil]; rfl
  | x :: r => by
    rw [List.map_cons, PyData.canLayAll0, lay_plan r, PyData.canLay0, lay_ints]
    rfl
theorem dep_ints : ∀ xs : List Int, PyData.depthAll (xs.map .int) = 0
  | [] => by rw [List.map_nil, PyData.depthAll]
  | x :: r => by
    rw [List.map_cons, PyData.depthAll, dep_ints r, PyData.depth]
    rfl
theorem dep_bls : ∀ xs : List Bool, PyData.depthAll (xs.map .bool) = 0
  | [] => by rw [List.map_nil, PyData.depthAll]
  | x :: r => by
    rw [List.map_cons, PyData.depthAll, dep_bls r, PyData.depth]
    rfl
theorem dep_plan : ∀ xs : List (List Int), PyData.depthAll (xs.map dI) ≤ 1
  | [] => by rw [List.map_nil, PyData.depthAll]; exact Nat.zero_le _
  | x :: r => by
    rw [List.map_cons, PyData.depthAll, PyData.depth, dep_ints]
    exact Nat.max_le.mpr ⟨Nat.le_refl _, dep_plan r⟩
theorem sh_I (xs : List Int) : SeqAt.shaped (dI xs) = true := by
  unfold SeqAt.shaped
  rw [PyData.canLay0, lay_ints, PyData.depth, dep_ints]
  rfl
theorem sh_B (xs : List Bool) : SeqAt.shaped (dB xs) = true := by
  unfold SeqAt.shaped
  rw [PyData.canLay0, lay_bls, PyData.depth, dep_bls]
  rfl
theorem sh_P (xs : List (List Int)) : SeqAt.shaped (dP xs) = true := by
  unfold SeqAt.shaped
  rw [PyData.canLay0, lay_plan, PyData.depth]
  have := dep_plan xs
  rw [Bool.true_and]
  exact decide_eq_true (by omega)
theorem eqvAll_I : ∀ a b : List Int, PyData.eqvAll (a.map .int) (b.map .int) = decide (a = b)
  | [], [] => by simp [PyData.eqvAll]
  | [], _ :: _ => by simp [PyData.eqvAll]
  | _ :: _, [] => by simp [PyData.eqvAll]
  | x :: a, y :: b => by
    rw [List.map_cons, List.map_cons, PyData.eqvAll, eqvAll_I a b, PyData.eqv]
    by_cases h : x = y
    · subst h; simp
    · simp [h]
theorem eqvAll_B : ∀ a b : List Bool, PyData.eqvAll (a.map .bool) (b.map .bool) = decide (a = b)
  | [], [] => by simp [PyData.eqvAll]
  | [], _ :: _ => by simp [PyData.eqvAll]
  | _ :: _, [] => by simp [PyData.eqvAll]
  | x :: a, y :: b => by
    rw [List.map_cons, List.map_cons, PyData.eqvAll, eqvAll_B a b, PyData.eqv]
    by_cases h : x = y
    · subst h; simp
    · simp [h]
theorem eqv_I (a b : List Int) : PyData.eqv (dI a) (dI b) = decide (a = b) := by rw [PyData.eqv, eqvAll_I]
theorem eqv_B (a b : List Bool) : PyData.eqv (dB a) (dB b) = decide (a = b) := by rw [PyData.eqv, eqvAll_B]
theorem eqvAll_P : ∀ a b : List (List Int), PyData.eqvAll (a.map dI) (b.map dI) = decide (a = b)
  | [], [] => by simp [PyData.eqvAll]
  | [], _ :: _ => by simp [PyData.eqvAll]
  | _ :: _, [] => by simp [PyData.eqvAll]
  | x :: a, y :: b => by
    rw [List.map_cons, List.map_cons, PyData.eqvAll, eqvAll_P a b, eqv_I]
    by_cases h : x = y
    · subst h; simp
    · simp [h]
theorem eqv_P (a b : List (List Int)) : PyData.eqv (dP a) (dP b) = decide (a = b) := by rw [PyData.eqv, eqvAll_P]
theorem rv_eqD {x y : V} {d e : PyData} (h1 : Dp K H x d) (h2 : Dp K H y e) (s1 : SeqAt.shaped d = true) (s2 : SeqAt.shaped e = true) : ∀ Q : VK, Q (.bl (PyData.eqv d e)) H → rEqD K x y H Q := fun Q q => ⟨d, e, h1, h2, s1, s2, q⟩
theorem rv_neD {x y : V} {d e : PyData} (h1 : Dp K H x d) (h2 : Dp K H y e) (s1 : SeqAt.shaped d = true) (s2 : SeqAt.shaped e = true) : ∀ Q : VK, Q (.bl (!PyData.eqv d e)) H → rNeD K x y H Q := fun Q q => ⟨d, e, h1, h2, s1, s2, q⟩
theorem rv_eqI {a b : Addr} {xs ys : List Int} (h1 : LI K H a xs) (h2 : LI K H b ys) : RV (rEqD K) (.ref a) (.ref b) H (.bl (decide (xs = ys))) := fun H1 e Q q => by
  have := q H1 (Ex.refl H1)
  rw [← eqv_I] at this
  exact ⟨_, _, dp_I (ex_l e h1), dp_I (ex_l e h2), sh_I _, sh_I _, this⟩
theorem rv_neI {a b : Addr} {xs ys : List Int} (h1 : LI K H a xs) (h2 : LI K H b ys) : RV (rNeD K) (.ref a) (.ref b) H (.bl (!decide (xs = ys))) := fun H1 e Q q => by
  have := q H1 (Ex.refl H1)
  rw [← eqv_I] at this
  exact ⟨_, _, dp_I (ex_l e h1), dp_I (ex_l e h2), sh_I _, sh_I _, this⟩
theorem rv_eqB {a b : Addr} {xs ys : List Bool} (h1 : LB K H a xs) (h2 : LB K H b ys) : RV (rEqD K) (.ref a) (.ref b) H (.bl (decide (xs = ys))) := fun H1 e Q q => by
  have := q H1 (Ex.refl H1)
  rw [← eqv_B] at this
  exact ⟨_, _, dp_B (ex_l e h1), dp_B (ex_l e h2), sh_B _, sh_B _, this⟩
theorem rv_eqP {a b : Addr} {xs ys : List (List Int)} (h1 : LL K H a xs) (h2 : LL K H b ys) : RV (rEqD K) (.ref a) (.ref b) H (.bl (decide (xs = ys))) := fun H1 e Q q => by
  have := q H1 (Ex.refl H1)
  rw [← eqv_P] at this
  exact ⟨_, _, dp_P (h1.mono e), dp_P (h2.mono e), sh_P _, sh_P _, this⟩
theorem rv_neP {a b : Addr} {xs ys : List (List Int)} (h1 : LL K H a xs) (h2 : LL K H b ys) : RV (rNeD K) (.ref a) (.ref b) H (.bl (!decide (xs = ys))) := fun H1 e Q q => by
  have := q H1 (Ex.refl H1)
  rw [← eqv_P] at this
  exact ⟨_, _, dp_P (h1.mono e), dp_P (h2.mono e), sh_P _, sh_P _, this⟩
/-- == [] , != [] -/
theorem rv_eqNil {a b : Addr} {xs : List V} (h1 : SqL K H a xs) (h3 : ∀ H', Ex H H' → ∃ ds, DpAll K H' xs ds ∧ SeqAt.shaped (.list ds) = true) (h2 : H b = some (.lst [])) : RV (rEqD K) (.ref a) (.ref b) H (.bl (decide (xs = []))) := fun H1 e Q q => by
  obtain ⟨ds, hd, hs⟩ := h3 H1 e
  refine ⟨.list ds, .list [], .lst (ex_l e h1) hd, .lst (sq_of (e _ _ h2)) .nil, hs, rfl, ?_⟩
  have h : PyData.eqv (.list ds) (.list []) = decide (xs = []) := by
    cases hd <;> simp [PyData.eqv, PyData.eqvAll]
  rw [h]
  exact q H1 (Ex.refl H1)
theorem rv_neNil {a b : Addr} {xs : List V} (h1 : SqL K H a xs) (h3 : ∀ H', Ex H H' → ∃ ds, DpAll K H' xs ds ∧ SeqAt.shaped (.list ds) = true) (h2 : H b = some (.lst [])) : RV (rNeD K) (.ref a) (.ref b) H (.bl (!decide (xs = []))) := fun H1 e Q q => by
  obtain ⟨ds, hd, hs⟩ := h3 H1 e
  refine ⟨.list ds, .list [], .lst (ex_l e h1) hd, .lst (sq_of (e _ _ h2)) .nil, hs, rfl, ?_⟩
  have h : PyData.eqv (.list ds) (.list []) = decide (xs = []) := by
    cases hd <;> simp [PyData.eqv, PyData.eqvAll]
  rw [h]
  exact q H1 (Ex.refl H1)
theorem nilI (xs : List Int) : ∀ H', Ex H H' → ∃ ds, DpAll K H' (xs.map V.int) ds ∧ SeqAt.shaped (.list ds) = true := fun H' _ => ⟨_, dpAll_ints xs, sh_I xs⟩
theorem nilP {as : List Addr} {xss : List (List Int)} (h : Paired (fun b xs => LI K H b xs) as xss) : ∀ H', Ex H H' → ∃ ds, DpAll K H' (as.map V.ref) ds ∧ SeqAt.shaped (.list ds) = true := fun H' e => ⟨_, dpAll_ll (paired_mono h fun _ _ _ q => ex_l e q), sh_P xss⟩
/-! ### isinstance, in, truths -/
theorem rc_isi {x c : V} {t u : Value} {b : Bool} (cl : ClsV c u) (ty : ∀ H1, Ex H H1 → TyX K H1 x t) (e : PySem.W.kitOne K t u = some b) : RC (rIsi K) [x, c] H (.bl b) := fun H1 e1 Q q => ⟨x, c, t, u, b, rfl, cl, ty H1 e1, e, q H1 (Ex.refl H1)⟩
theorem kit_LL {K : PySem.W.Frag} : PySem.W.kitOne K (.type "list") (.type "list") = some true := kit_ty (by decide +kernel)
theorem kit_BB {K : PySem.W.Frag} : PySem.W.kitOne K (.type "bool") (.type "bool") = some true := kit_ty (by decide +kernel)
theorem kit_II {K : PySem.W.Frag} : PySem.W.kitOne K (.type "int") (.type "int") = some true := kit_ty (by decide +kernel)
theorem kit_IB {K : PySem.W.Frag} : PySem.W.kitOne K (.type "int") (.type "bool") = some false := kit_ty (by decide +kernel)
theorem kit_TT {K : PySem.W.Frag} : PySem.W.kitOne K (.type "tuple") (.type "tuple") = some true := kit_ty (by decide +kernel)
theorem kit_SS {K : PySem.W.Frag} : PySem.W.kitOne K (.type "str") (.type "str") = some true := kit_ty (by decide +kernel)
theorem flat_ints (xs : List Int) : (xs.map V.int).all flatV = true := by
  rw [List.all_eq_true]
  intro x hx
  obtain ⟨z, _, rfl⟩ := List.mem_map.mp hx
  rfl
theorem inV_ints (x : Int) (xs : List Int) : inV (.int x) (xs.map V.int) = decide (x ∈ xs) := by
  unfold inV
  rw [List.any_map]
  induction xs with
  | nil => rfl
  | cons y r ih =>
    rw [List.any_cons, ih]
    show (y == x || decide (x ∈ r)) = decide (x ∈ y :: r)
    by_cases h : y = x
    · subst h; simp
    · have h' : ¬ x = y := fun z => h z.symm
      simp [h, h']
theorem rv_inI {p : Addr} {x : Int} {xs : List Int} (h : LI K H p xs) : RV (rIn K false) (.int x) (.ref p) H (.bl (decide (x ∈ xs))) := by
  rw [← inV_ints]
  exact rv_isL h rfl (flat_ints xs)
theorem rv_niI {p : Addr} {x : Int} {xs : List Int} (h : LI K H p xs) : RV (rIn K true) (.int x) (.ref p) H (.bl (!decide (x ∈ xs))) := by
  rw [← inV_ints]
  exact rv_niL h rfl (flat_ints xs)
theorem dec_int (a b : Int) : decide (V.int a = V.int b) = decide (a = b) := by
  by_cases h : a = b
  · subst h; simp
  · simp [h]
theorem dec_bl (a b : Bool) : decide (V.bl a = V.bl b) = (a == b) := by
  cases a <;> cases b <;> rfl
theorem at_ints {xs : List Int} {i : Nat} {z : Int} (h : xs[i]? = some z) : atI (xs.map V.int) ((i : Nat) : Int) = some (.int z) := atI_nat (by rw [List.getElem?_map, h]; rfl)
theorem at_bls {xs : List Bool} {i : Nat} {z : Bool} (h : xs[i]? = some z) : atI (xs.map V.bl) ((i : Nat) : Int) = some (.bl z) := atI_nat (by rw [List.getElem?_map, h]; rfl)
theorem at_refs {xs : List Addr} {i : Nat} {z : Addr} (h : xs[i]? = some z) : atI (xs.map V.ref) ((i : Nat) : Int) = some (.ref z) := atI_nat (by rw [List.getElem?_map, h]; rfl)
theorem ev_of {te : TE} {σ : L2.St} {v v' : V} (h : Ev te σ H v) (e : v = v') : Ev te σ H v' := e ▸ h
end
def okW (n : Int) : Prop := 1 ≤ n ∧ n ≤ 8
instance (n : Int) : Decidable (okW n) := by unfold okW; infer_instance
def Small (plan : List (List Int)) : Prop := plan.length < 10000 ∧ ∀ m ∈ plan, m.length < 10000
theorem bad_mix (n : Int) (m : List Int) : (decide (V.int ((m.map V.int).length : Int) = V.int 0) || !isSetB n m) = !goodMix n m := by
  unfold goodMix
  rw [dec_int, List.length_map]
  cases m with
  | nil => simp
  | cons x r =>
    have : ¬ (((x :: r).length : Int) = 0) := by rw [List.length_cons]; omega
    simp [this]
    omega
theorem planB_small {n : Int} {plan : List (List Int)} (ho : okW n) (h : planB n plan = true) : Small plan := by
  unfold planB at h
  rw [Bool.and_eq_true, decide_eq_true_iff, List.all_eq_true] at h
  refine ⟨by omega, fun m hm => ?_⟩
  have q := h.2 m hm
  unfold goodMix at q
  rw [Bool.and_eq_true] at q
  have := isSetB_len q.2
  have := ho.2
  omega
end Mx
namespace Mx
open PySem PySem.Spec PyProof.Rows L2 Evl
section
variable {K : PySem.W.Frag} {H H' : Hp} {σ : L2.St}
theorem metOne_any (m s : List Int) : metOne m s = m.any fun x => decide (x ∈ s) := by
  unfold metOne
  rw [Bool.eq_iff_iff, decide_eq_true_iff, List.length_pos_iff_exists_mem, List.any_eq_true]
  simp [List.mem_filter]
/-- xs + ys, both made on the way -/
theorem el_cat {ta tb : TE} {xs ys : List V} (ha : EvL ta σ H xs) (hb : EvL tb σ H ys) (hz : xs.length + ys.length ≤ 100000) : EvL (tOp rCat ta tb) σ H (xs ++ ys) := fun H1 e Q q =>
  ha H1 e _ fun p H2 hp e2 h2 => hb H2 (e.trans e2) _ fun r H3 hr e3 h3 =>
    ⟨p, r, xs, ys, rfl, rfl, e3 _ _ h2, h3, sz_of hz, fun l hl => q l _ (fresh_back (e2.trans e3) hl) ((e2.trans e3).trans (Ex.new hl)) upd_same⟩
theorem el_cat1 {ta tb : TE} {a : Addr} {xs ys : List V} (ha : Ev ta σ H (.ref a)) (hx : H a = some (.lst xs)) (hb : EvL tb σ H ys) (hz : xs.length + ys.length ≤ 100000) : EvL (tOp rCat ta tb) σ H (xs ++ ys) := fun H1 e Q q =>
  ha H1 e _ fun H2 e2 => hb H2 (e.trans e2) _ fun r H3 hr e3 h3 =>
    ⟨a, r, xs, ys, rfl, rfl, ((e.trans e2).trans e3) _ _ hx, h3, sz_of hz, fun l hl => q l _ (fresh_back (e2.trans e3) hl) ((e2.trans e3).trans (Ex.new hl)) upd_same⟩
theorem el_cat2 {ta tb : TE} {a b : Addr} {xs ys : List V} (ha : Ev ta σ H (.ref a)) (hx : H a = some (.lst xs)) (hb : Ev tb σ H (.ref b)) (hy : H b = some (.lst ys)) (hz : xs.length + ys.length ≤ 100000) : EvL (tOp rCat ta tb) σ H (xs ++ ys) := fun H1 e Q q =>
  ha H1 e _ fun H2 e2 => hb H2 (e.trans e2) _ fun H3 e3 =>
    ⟨a, b, xs, ys, rfl, rfl, ((e.trans e2).trans e3) _ _ hx, ((e.trans e2).trans e3) _ _ hy, sz_of hz, fun l hl => q l _ (fresh_back (e2.trans e3) hl) ((e2.trans e3).trans (Ex.new hl)) upd_same⟩
/-- f(new list, y), f(new list) -/
theorem ev_callL1 {sp : Sp} {E : XK} {ta tb : TE} {xs : List V} {y z : V} (ha : EvL ta σ H xs) (hb : Ev tb σ H y) (hs : ∀ p H1, Ex H H1 → H1 p = some (.lst xs) → SpV sp [.ref p, y] H1 z) : Ev (tCall sp [] E (tCons ta (tCons tb tNil))) σ H z := fun H1 e Q q =>
  ha H1 e _ fun p H2 _ e2 h2 => hb H2 (e.trans e2) _ fun H3 e3 => hs p H2 (e.trans e2) h2 H3 e3 Q (fun H4 e4 => q H4 ((e2.trans e3).trans e4)) E
theorem cut_lo {xs : List V} {k : Nat} (hk : k ≤ xs.length) : cutV xs none (some (k : Int)) = xs.take k := by
  unfold cutV
  rw [HT.sIx_none, HT.sIx_nat]
  simp only [Nat.sub_zero, List.drop_zero]
  rw [Nat.min_eq_left hk]
theorem cut_hi {xs : List V} {k : Nat} (hk : k ≤ xs.length) : cutV xs (some (k : Int)) none = xs.drop k := by
  unfold cutV
  rw [HT.sIx_none, HT.sIx_nat, Nat.min_eq_left hk]
  exact List.take_of_length_le (by rw [List.length_drop]; exact Nat.le_refl _)
theorem zip_pick {F : Addr → List Int → Prop} (p : List Int → Bool) : ∀ {as : List Addr} {xss : List (List Int)}, Paired F as xss →
    ∃ as2 : List Addr, ((as.zip xss).map fun q => if p q.2 = true then some (V.ref q.1) else none).filterMap id = as2.map V.ref ∧ Paired F as2 (xss.filter p) ∧ as2.Sublist as
  | _, _, .nil => ⟨[], rfl, .nil, List.Sublist.slnil⟩
  | b :: as, xs :: xss, .cons r t => by
    obtain ⟨as2, h1, h2, h3⟩ := zip_pick p t
    cases h : p xs with
    | true =>
      refine ⟨b :: as2, ?_, ?_, h3.cons₂ b⟩
      · rw [List.zip_cons_cons, List.map_cons, if_pos h, List.filterMap_cons]
        simp only [id]
        rw [h1]
        rfl
      · rw [List.filter_cons, if_pos h]
        exact .cons r h2
    | false =>
      refine ⟨as2, ?_, ?_, h3.cons b⟩
      · rw [List.zip_cons_cons, List.map_cons, if_neg (by rw [h]; exact Bool.false_ne_true), List.filterMap_cons]
        simp only [id]
        exact h1
      · rw [List.filter_cons, if_neg (by rw [h]; exact Bool.false_ne_true)]
        exact h2
theorem zip_paired {F : Addr → List Int → Prop} {G : V → Option V → Prop} {h : Addr × List Int → Option V} : ∀ {as : List Addr} {xss : List (List Int)}, Paired F as xss → (∀ b xs, b ∈ as → xs ∈ xss → F b xs → G (.ref b) (h (b, xs))) → Paired G (as.map V.ref) ((as.zip xss).map h)
  | _, _, .nil, _ => .nil
  | _, _, .cons r t, f => .cons (f _ _ List.mem_cons_self List.mem_cons_self r) (zip_paired t fun b xs hb hx => f b xs (List.mem_cons_of_mem _ hb) (List.mem_cons_of_mem _ hx))
/-- [x for x in xss if p(x)] -/
theorem el_pickF {wi : TI} {tt : TT} {vs : List Nat} {j : Nat} {as : List Addr} {xss : List (List Int)} {Fr : Addr → List Int → Prop} (p : List Int → Bool) (pr : Paired Fr as xss) (hwk : Wk wi σ H (as.map V.ref)) (hz : xss.length < 100000)
    (hw : ∀ x, wipe ((wipe σ vs).set j (some x)) vs = wipe σ vs) (hj : ∀ x, ((wipe σ vs).set j (some x))[j]? = some (some x))
    (ht : ∀ b xs, b ∈ as → xs ∈ xss → Fr b xs → EvT tt ((wipe σ vs).set j (some (.ref b))) H (p xs)) :
    ∃ as2 : List Addr, EvL (tLc wi (gName j) tt (tVar j) vs) σ H (as2.map V.ref) ∧ Paired Fr as2 (xss.filter p) ∧ as2.Sublist as := by
  obtain ⟨as2, h1, h2, h3⟩ := zip_pick p pr
  refine ⟨as2, el_of (el_lc _ hwk (by rw [List.length_map, pr.length]; exact hz) hw (zip_paired pr fun b xs hb hx hF => ?_)) h1, h2, h3⟩
  have t := ht b xs hb hx hF
  show (((if p xs = true then some (V.ref b) else none) = none ∧ _) ∨ _)
  cases c : p xs with
  | true =>
    rw [c] at t
    exact .inr ⟨.ref b, if_pos rfl, t, ev_var (hj _)⟩
  | false =>
    rw [c] at t
    exact .inl ⟨if_neg Bool.false_ne_true, t⟩
theorem el_pick {wi : TI} {tt : TT} {vs : List Nat} {j : Nat} {as : List Addr} {xss : List (List Int)} (p : List Int → Bool) (pr : Paired (fun b xs => LI K H b xs) as xss) (hwk : Wk wi σ H (as.map V.ref)) (hz : xss.length < 100000)
    (hw : ∀ x, wipe ((wipe σ vs).set j (some x)) vs = wipe σ vs) (hj : ∀ x, ((wipe σ vs).set j (some x))[j]? = some (some x))
    (ht : ∀ b xs, b ∈ as → xs ∈ xss → LI K H b xs → EvT tt ((wipe σ vs).set j (some (.ref b))) H (p xs)) :
    ∃ as2 : List Addr, EvL (tLc wi (gName j) tt (tVar j) vs) σ H (as2.map V.ref) ∧ Paired (fun b xs => LI K H b xs) as2 (xss.filter p) ∧ as2.Sublist as := el_pickF p pr hwk hz hw hj ht
/-- a display of two new things -/
theorem el_two {ta tb : TE} {x y : V} {P : V → Hp → Prop} {H0 : Hp} (ha : Ev ta σ H x) (hb : Ev tb σ H y) : EvL (tLst (tCons ta (tCons tb tNil))) σ H [x, y] := el_lst (ea_cons ha (ea_cons hb ea_nil)) (by show 2 ≤ 100000; decide)
end
/-! ### drawn plans -/
theorem pairwise_ran (lo hi : Int) : (ran lo hi).Pairwise (· < ·) := by
  unfold ran
  rw [List.pairwise_map]
  exact List.Pairwise.imp (fun {a b} h => by omega) List.pairwise_lt_range
theorem setB_filter {n : Int} (p : Int → Bool) : isSetB n ((ran 0 n).filter p) = true := by
  rw [isSetB_iff]
  refine ⟨(pairwise_ran 0 n).sublist List.filter_sublist, fun x hx => ?_⟩
  exact mem_ran.mp (List.mem_filter.mp hx).1
theorem setB_one {n x : Int} (h0 : 0 ≤ x) (h1 : x < n) : isSetB n [x] = true := by
  rw [isSetB_iff]
  refine ⟨by simp, fun y hy => ?_⟩
  obtain rfl : y = x := by simpa using hy
  exact ⟨h0, h1⟩
theorem planB_iff {n : Int} {plan : List (List Int)} : planB n plan = true ↔ plan.length ≤ 12 ∧ ∀ m ∈ plan, goodMix n m = true := by
  unfold planB
  rw [Bool.and_eq_true, decide_eq_true_iff, List.all_eq_true]
theorem goodMix_iff {n : Int} {m : List Int} : goodMix n m = true ↔ m ≠ [] ∧ isSetB n m = true := by
  unfold goodMix
  rw [Bool.and_eq_true]
  cases m <;> simp
theorem planB_put {n : Int} {plan : List (List Int)} {m : List Int} {k : Nat} (h : planB n plan = true) (hm : goodMix n m = true) (hl : plan.length < 12) : planB n (plan.take k ++ [m] ++ plan.drop k) = true := by
  rw [planB_iff] at h ⊢
  constructor
  · simp only [List.length_append, List.length_take, List.length_drop, List.length_cons, List.length_nil]
    omega
  · intro x hx
    rcases List.mem_append.mp hx with hx | hx
    · rcases List.mem_append.mp hx with hx | hx
      · exact h.2 x (List.mem_of_mem_take hx)
      · obtain rfl : x = m := by simpa using hx
        exact hm
    · exact h.2 x (List.mem_of_mem_drop hx)
theorem paired_take {α β : Type} {F : α → β → Prop} : ∀ {xs : List α} {ys : List β} (k : Nat), Paired F xs ys → Paired F (xs.take k) (ys.take k)
  | _, _, 0, _ => .nil
  | _, _, _ + 1, .nil => .nil
  | _, _, k + 1, .cons r t => .cons r (paired_take k t)
theorem paired_drop {α β : Type} {F : α → β → Prop} : ∀ {xs : List α} {ys : List β} (k : Nat), Paired F xs ys → Paired F (xs.drop k) (ys.drop k)
  | _, _, 0, r => r
  | _, _, _ + 1, .nil => .nil
  | _, _, k + 1, .cons _ t => paired_drop k t
end Mx
namespace Mx
open PySem PySem.Spec PyProof.Rows L2 Evl
section
variable {K : PySem.W.Frag} {H H' : Hp} {σ : L2.St}
/-- [x for x in xs if p(x)], whole numbers -/
theorem el_filt {wi : TI} {tt : TT} {vs : List Nat} {j : Nat} {l : List Int} (p : Int → Bool) (hwk : Wk wi σ H (l.map V.int)) (hz : l.length < 100000) (hw : ∀ x, wipe ((wipe σ vs).set j (some x)) vs = wipe σ vs)
    (hj : ∀ x, ((wipe σ vs).set j (some x))[j]? = some (some x)) (ht : ∀ x ∈ l, EvT tt ((wipe σ vs).set j (some (.int x))) H (p x)) : EvL (tLc wi (gName j) tt (tVar j) vs) σ H ((l.filter p).map V.int) := by
  refine el_of (el_lc (l.map fun x => if p x = true then some (V.int x) else none) hwk (by rw [List.length_map]; exact hz) hw (paired_self V.int _ fun x hx => ?_)) (fm_filter _ _ _)
  have t := ht x hx
  cases c : p x with
  | true =>
    rw [c] at t
    exact .inr ⟨_, rfl, t, ev_var (hj _)⟩
  | false =>
    rw [c] at t
    exact .inl ⟨rfl, t⟩
/-- [g(x) for x in xs], whole numbers -/
theorem el_mapI {wi : TI} {te : TE} {vs : List Nat} {j : Nat} {l : List Int} (g : Int → V) (hwk : Wk wi σ H (l.map V.int)) (hz : l.length < 100000) (hw : ∀ x, wipe ((wipe σ vs).set j (some x)) vs = wipe σ vs)
    (he : ∀ x ∈ l, Ev te ((wipe σ vs).set j (some (.int x))) H (g x)) : EvL (tLc wi (gName j) tYes te vs) σ H (l.map g) :=
  el_of (el_lc (l.map fun x => some (g x)) hwk (by rw [List.length_map]; exact hz) hw (paired_self V.int _ fun x hx => .inr ⟨_, rfl, et_yes, he x hx⟩)) (fm_some _ _)
/-- [g(x) for x in xss], lists -/
theorem el_mapL {wi : TI} {te : TE} {vs : List Nat} {j : Nat} {as : List Addr} {xss : List (List Int)} (g : List Int → V) (pr : Paired (fun b xs => LI K H b xs) as xss) (hwk : Wk wi σ H (as.map V.ref)) (hz : xss.length < 100000) (hw : ∀ x, wipe ((wipe σ vs).set j (some x)) vs = wipe σ vs)
    (he : ∀ b xs, b ∈ as → xs ∈ xss → LI K H b xs → Ev te ((wipe σ vs).set j (some (.ref b))) H (g xs)) : EvL (tLc wi (gName j) tYes te vs) σ H (xss.map g) :=
  el_of (el_lc (xss.map fun x => some (g x)) hwk (by rw [List.length_map, pr.length]; exact hz) hw (paired_maps V.ref _ pr fun b xs hb hx hF => .inr ⟨_, rfl, et_yes, he b xs hb hx hF⟩)) (fm_some _ _)
/-- [list(x) for x in xss] and its like: new lists -/
theorem els_mapL {wi : TI} {te : TE} {vs : List Nat} {j : Nat} {as : List Addr} {xss : List (List Int)} (g : List Int → List Int) (pr : Paired (fun b xs => LI K H b xs) as xss) (hwk : Wk wi σ H (as.map V.ref)) (hz : xss.length < 100000) (hw : ∀ x, wipe ((wipe σ vs).set j (some x)) vs = wipe σ vs)
    (he : ∀ b xs, b ∈ as → xs ∈ xss → LI K H b xs → EvL te ((wipe σ vs).set j (some (.ref b))) H ((g xs).map V.int)) : EvLL (tLc wi (gName j) tYes te vs) σ H (xss.map g) :=
  els_of (els_lc (xss.map fun x => some ((g x).map V.int)) hwk (by rw [List.length_map, pr.length]; exact hz) hw (paired_maps V.ref _ pr fun b xs hb hx hF => .inr ⟨_, rfl, et_yes, he b xs hb hx hF⟩)) (by rw [fm_some, List.map_map]; rfl)
theorem els_mapI {wi : TI} {te : TE} {vs : List Nat} {j : Nat} {l : List Int} (g : Int → List Int) (hwk : Wk wi σ H (l.map V.int)) (hz : l.length < 100000) (hw : ∀ x, wipe ((wipe σ vs).set j (some x)) vs = wipe σ vs)
    (he : ∀ x ∈ l, EvL te ((wipe σ vs).set j (some (.int x))) H ((g x).map V.int)) : EvLL (tLc wi (gName j) tYes te vs) σ H (l.map g) :=
  els_of (els_lc (l.map fun x => some ((g x).map V.int)) hwk (by rw [List.length_map]; exact hz) hw (paired_self V.int _ fun x hx => .inr ⟨_, rfl, et_yes, he x hx⟩)) (by rw [fm_some, List.map_map]; rfl)
end
theorem ran_small {n : Int} (h : okW n) : (ran 0 n).length < 100000 := by
  rw [ran_len]
  have := h.1; have := h.2; omega
theorem okW_b {n : Int} (h : okW n) : -100000 ≤ n ∧ n ≤ 100000 := ⟨by have := h.1; omega, by have := h.2; omega⟩
end Mx
namespace Mx
open PySem PySem.Spec PyProof.Rows L2 Evl
section
variable {K : PySem.W.Frag} {H H' : Hp} {σ : L2.St}
theorem q_asgX {te : TE} {i : Nat} {tz : TS} {D : Ends} (h : te σ H fun v H1 => tz D (σ.set i (some v)) H1) : tSeq (tAsg te (gName i)) tz D σ H := h
theorem s_asgX {te : TE} {i : Nat} {D : Ends} (h : te σ H fun v H1 => D.nx (σ.set i (some v)) H1) : tAsg te (gName i) D σ H := h
theorem q_asgG {te : TE} {g : TG} {tz : TS} {D : Ends} (h : te σ H fun v H1 => g v σ H1 fun σ' H' => tz D σ' H') : tSeq (tAsg te g) tz D σ H := h
theorem q_dropX {te : TE} {tz : TS} {D : Ends} (h : te σ H fun _ H1 => tz D σ H1) : tSeq (tDrop te) tz D σ H := h
/-- [xss anew, xs anew] -/
theorem q_handed {ta tb : TE} {i : Nat} {tz : TS} {D : Ends} {xss : List (List Int)} {ys : List V} (ha : EvLL ta σ H xss) (hb : EvL tb σ H ys)
    (k : ∀ r p as q H1, Ex H H1 → H r = none → NLL H H1 p as xss → H q = none → H1 q = some (.lst ys) → H1 r = some (.lst [.ref p, .ref q]) → tz D (σ.set i (some (.ref r))) H1) : tSeq (tAsg (tLst (tCons ta (tCons tb tNil))) (gName i)) tz D σ H :=
  q_asgX (ha H (Ex.refl H) _ fun p as H1 e1 hN => hb H1 e1 _ fun q H2 hq e2 hq' => ⟨by show 2 ≤ sizeLine; decide, fun r hr =>
    k r p as q _ ((e1.trans e2).trans (Ex.new hr)) (fresh_back (e1.trans e2) hr) (NLs.mono hN (e2.trans (Ex.new hr))) (fresh_back e1 hq) (Ex.new hr _ _ hq') upd_same⟩)
theorem at0 {x : V} {r : List V} : atI (x :: r) 0 = some x := atI_nat (j := 0) rfl
theorem at1 {x y : V} {r : List V} : atI (x :: y :: r) 1 = some y := atI_nat (j := 1) rfl
theorem at2 {x y z : V} {r : List V} : atI (x :: y :: z :: r) 2 = some z := atI_nat (j := 2) rfl
/-- [plan, some] as data -/
theorem dp_PI {r p q : Addr} {plan : List (List Int)} {xs : List Int} (h : H r = some (.lst [.ref p, .ref q])) (hp : LL K H p plan) (hq : LI K H q xs) : Dp K H (.ref r) (.list [dP plan, dI xs]) := .lst (sq_of h) (.cons (dp_P hp) (.cons (dp_I hq) .nil))
theorem sh_PI (plan : List (List Int)) (xs : List Int) : SeqAt.shaped (.list [dP plan, dI xs]) = true := by
  unfold SeqAt.shaped
  simp only [PyData.canLay0, PyData.canLayAll0, lay_plan, lay_ints, PyData.depth, PyData.depthAll, dep_ints]
  have := dep_plan plan
  simp
  omega
theorem eqv_PI (plan : List (List Int)) (xs : List Int) : PyData.eqv (.list [dP plan, dI xs]) (.list [dP plan, dI xs]) = true := by
  rw [PyData.eqv, PyData.eqvAll, PyData.eqvAll, PyData.eqvAll, eqv_P, eqv_I]
  simp
theorem dp_PB {r p q : Addr} {plan : List (List Int)} {xs : List Bool} (h : H r = some (.lst [.ref p, .ref q])) (hp : LL K H p plan) (hq : LB K H q xs) : Dp K H (.ref r) (.list [dP plan, dB xs]) := .lst (sq_of h) (.cons (dp_P hp) (.cons (dp_B hq) .nil))
theorem sh_PB (plan : List (List Int)) (xs : List Bool) : SeqAt.shaped (.list [dP plan, dB xs]) = true := by
  unfold SeqAt.shaped
  simp only [PyData.canLay0, PyData.canLayAll0, lay_plan, lay_bls, PyData.depth, PyData.depthAll, dep_bls]
  have := dep_plan plan
  simp
  omega
theorem eqv_PB (plan : List (List Int)) (xs : List Bool) : PyData.eqv (.list [dP plan, dB xs]) (.list [dP plan, dB xs]) = true := by
  rw [PyData.eqv, PyData.eqvAll, PyData.eqvAll, PyData.eqvAll, eqv_P, eqv_B]
  simp
theorem sh_flat : SeqAt.shaped (.list []) = true := rfl
end
end Mx
namespace Mx
open PySem PySem.Spec PyProof.Rows L2 Evl
section
variable {K : PySem.W.Frag} {H H' : Hp} {σ : L2.St}
/-- xs.extend(new lists) -/
theorem s_extLs {l : Addr} {xs : List V} {ta te : TE} {D : Ends} {yss : List (List V)} (hl : H l = some (.lst xs)) (ha : Ev ta σ H (.ref l)) (h : EvLs te σ H yss) (hz : xs.length + yss.length ≤ 100000)
    (k : ∀ p as H1, NLs H H1 p as yss → Ex H H1 → D.nx σ (upd H1 l (.lst (xs ++ as.map V.ref)))) : tDrop (tBM K "list" rExtend ta (tCons te tNil)) D σ H :=
  ha H (Ex.refl H) _ fun H1 e1 => ⟨Or.inl ⟨rfl, xs, sq_of (e1 _ _ hl)⟩, h H1 e1 _ fun p as H2 e2 hN => ⟨l, p, xs, as.map V.ref, rfl, rfl, e2 _ _ (e1 _ _ hl), hN.at_, by
    rw [List.length_map, hN.each.length]; exact sz_of hz, k p as H2 (hN.back e1) (e1.trans e2)⟩⟩
theorem s_retLs {te : TE} {D : Ends} {xss : List (List V)} (h : EvLs te σ H xss) (k : ∀ p as H1, Ex H H1 → NLs H H1 p as xss → D.rt (.ref p) H1) : tRet te D σ H := h H (Ex.refl H) _ k
theorem q_asgLs {te : TE} {D : Ends} {tz : TS} {i : Nat} {xss : List (List V)} (h : EvLs te σ H xss) (k : ∀ p as H1, Ex H H1 → NLs H H1 p as xss → tz D (σ.set i (some (.ref p))) H1) : tSeq (tAsg te (gName i)) tz D σ H := h H (Ex.refl H) _ k
theorem rc_min2 {i j : Int} : RC (fun xs H Q => ∃ i j, xs = [V.int i, V.int j] ∧ Q (.int (if j < i then j else i)) H) [.int i, .int j] H (.int (minI i j)) := fun H1 e Q q => ⟨i, j, rfl, q H1 (Ex.refl H1)⟩
/-- a call that hands back new lists -/
theorem els_call {sp : Sp} {dvs vs : List V} {E : XK} {ta : TA} {xss : List (List V)} (h : EvA ta σ H vs) (hs : ∀ H1, Ex H H1 → ∀ Q : VK, (∀ p as H2, Ex H1 H2 → NLs H1 H2 p as xss → Q (.ref p) H2) → ∀ E : XK, sp (vs ++ dvs) H1 Q E) : EvLs (tCall sp dvs E ta) σ H xss := fun H1 e Q q =>
  h H1 e _ fun H2 e2 => hs H2 (e.trans e2) Q (fun p as H3 e3 hN => q p as H3 (e2.trans e3) (hN.back e2)) E
end
end Mx
namespace Mx
open PySem PySem.Spec PyProof.Rows L2 Evl
/-- [[]] -/
theorem q_nest1 {H : Hp} {σ : L2.St} {i : Nat} {tz : TS} {D : Ends} (k : ∀ b p H1, Ex H H1 → H1 b = some (.lst []) → H1 p = some (.lst [.ref b]) → tz D (σ.set i (some (.ref p))) H1) : tSeq (tAsg (tLst (tCons (tLst tNil) tNil)) (gName i)) tz D σ H :=
  (show [].length ≤ sizeLine ∧ ∀ b, H b = none → (1 ≤ sizeLine ∧ ∀ p, upd H b (.lst []) p = none → tz D (σ.set i (some (.ref p))) (upd (upd H b (.lst [])) p (.lst [.ref b]))) from
    ⟨Nat.zero_le _, fun b hb => ⟨by decide, fun p hp => k b p _ ((Ex.new hb).trans (Ex.new hp)) (Ex.new hp _ _ upd_same) upd_same⟩⟩)
end Mx
namespace Mx
open PySem PySem.Spec PyProof.Rows L2 Evl
section
variable {K : PySem.W.Frag} {H H' : Hp} {σ : L2.St}
/-- a list of lists is told -/
def EvR (K : PySem.W.Frag) (te : TE) (σ : L2.St) (H : Hp) (xss : List (List Int)) : Prop := ∀ H1, Ex H H1 → ∀ Q : VK, (∀ p H2, Ex H1 H2 → LL K H2 p xss → Q (.ref p) H2) → te σ H1 Q
/-- [x for x in xss if p(x)], xss told just now -/
theorem r_pick {te : TE} {tt : TT} {vs : List Nat} {j : Nat} {xss : List (List Int)} (p : List Int → Bool) (hn : EvR K te σ H xss) (hz : xss.length < 100000)
    (hw : ∀ x, wipe ((wipe σ vs).set j (some x)) vs = wipe σ vs) (hj : ∀ x, ((wipe σ vs).set j (some x))[j]? = some (some x))
    (ht : ∀ H1 b xs, Ex H H1 → xs ∈ xss → LI K H1 b xs → EvT tt ((wipe σ vs).set j (some (.ref b))) H1 (p xs)) : EvR K (tLc (iList K te) (gName j) tt (tVar j) vs) σ H (xss.filter p) := fun H1 e Q q =>
  hn H1 e _ fun a H2 e2 hL => by
    obtain ⟨as, ha, pr⟩ := hL
    obtain ⟨as2, h1, h2, h3⟩ := el_pick (wi := iList K (tC (.ref a))) (tt := tt) (vs := vs) (j := j) (σ := σ) p pr (wk_list ev_c ha) hz hw hj fun b xs hb hx hF => ht H2 b xs (e.trans e2) hx hF
    exact h1 H2 (Ex.refl H2) Q fun D H3 hD e3 hD' => q D H3 (e2.trans e3) ⟨as2, sq_of hD', paired_mono h2 fun _ _ _ z => ex_l e3 z⟩
theorem els_pick {te : TE} {tt : TT} {vs : List Nat} {j : Nat} {xss : List (List Int)} (p : List Int → Bool) (hn : EvLL te σ H xss) (hz : xss.length < 100000)
    (hw : ∀ x, wipe ((wipe σ vs).set j (some x)) vs = wipe σ vs) (hj : ∀ x, ((wipe σ vs).set j (some x))[j]? = some (some x))
    (ht : ∀ H1 b xs, Ex H H1 → xs ∈ xss → LI K H1 b xs → EvT tt ((wipe σ vs).set j (some (.ref b))) H1 (p xs)) : EvLL (tLc (iList K te) (gName j) tt (tVar j) vs) σ H (xss.filter p) := fun H1 e Q q =>
  hn H1 e _ fun a as H2 e2 hN => by
    have pr := paired_map _ hN.each
    obtain ⟨as2, h1, h2, h3⟩ := el_pickF (wi := iList K (tC (.ref a))) (tt := tt) (vs := vs) (j := j) (σ := σ) p pr (wk_list ev_c (sq_of hN.at_)) hz hw hj fun b xs hb hx hF => ht H2 b xs (e.trans e2) hx (sq_of hF.2.2)
    refine h1 H2 (Ex.refl H2) Q fun D H3 hD e3 hD' => q D as2 H3 (e2.trans e3) ⟨fresh_back e2 hD, hD', hN.nd.sublist h3, ?_⟩
    exact map_paired _ (paired_mono h2 fun b xs hb hF => ⟨hF.1, ne_of_none hF.2.2 hD, e3 _ _ hF.2.2⟩)
/-- for x in xss: x.append(c) -/
theorem q_spoil {H0 : Hp} {r : Addr} {as : List Addr} {i j N : Nat} {c : V} {tz : TS} {D : Ends} {y0 : Option V} (hv : σ[i]? = some (some (.ref r))) (hj : σ.set j y0 = σ) (hjj : ∀ y, (σ.set j y)[j]? = some y)
    (hss : ∀ y z, (σ.set j y).set j z = σ.set j z) (e : Ex H0 H) (hr : H r = some (.lst (as.map V.ref))) (hall : ∀ b ∈ as, H0 b = none ∧ b ≠ r ∧ ∃ ys : List V, H b = some (.lst ys) ∧ ys.length ≤ N) (hN : N + as.length ≤ 90000)
    (k : ∀ y H', Ex H0 H' → H' r = some (.lst (as.map V.ref)) → tz D (σ.set j y) H') : tSeq (tFor (iList K (tVar i)) (gName j) (tDrop (tBM K "list" rAppend (tVar j) (tCons (tC c) tNil)))) tz D σ H := by
  refine q_forLn (a := r) (xs := as.map V.ref) (ev_var hv) (sq_of hr) (fun m σ' H' => ∃ y : Option V, σ' = σ.set j y ∧ m ≤ as.length ∧ Ex H0 H' ∧ H' r = some (.lst (as.map V.ref)) ∧ ∀ b ∈ as, H0 b = none ∧ b ≠ r ∧ ∃ ys : List V, H' b = some (.lst ys) ∧ ys.length ≤ N + m)
    (fun H6 e6 => ⟨y0, hj.symm, Nat.zero_le _, e.trans e6, e6 _ _ hr, fun b hb => ?_⟩) (fun m σ' H' _ ⟨_, _, _, _, h, _⟩ => sq_of h) ?_ ?_
  · obtain ⟨h1, h2, ys, h3, h4⟩ := hall b hb
    exact ⟨h1, h2, ys, e6 _ _ h3, h4⟩
  · rintro m x σ' H' hx ⟨y, rfl, hm, e', hr', hall'⟩
    obtain ⟨b, hb, rfl⟩ := get_refs hx
    have hm' : m < as.length := (List.getElem?_eq_some_iff.mp hb).1
    obtain ⟨h1, h2, ys, h3, h4⟩ := hall' b (List.mem_of_getElem? hb)
    refine s_app (xs := ys) h3 (ev_var (by rw [hss]; exact hjj _)) ev_c (by omega) fun H6 e6 => ?_
    refine ⟨some (.ref b), hss _ _, hm', Ex.mut (e'.trans e6) h1, by rw [upd_ne (Ne.symm h2)]; exact e6 _ _ hr', fun c' hc => ?_⟩
    obtain ⟨g1, g2, zs, g3, g4⟩ := hall' c' hc
    refine ⟨g1, g2, ?_⟩
    by_cases hcb : c' = b
    · subst hcb
      refine ⟨_, upd_same, ?_⟩
      rw [List.length_append, List.length_singleton]
      omega
    · exact ⟨zs, by rw [upd_ne hcb]; exact e6 _ _ g3, by omega⟩
  · rintro σ' H6 ⟨y, rfl, _, e6, hr6, _⟩
    exact k y H6 e6 hr6
theorem q_asgR {te : TE} {D : Ends} {tz : TS} {i : Nat} {xss : List (List Int)} (h : EvR K te σ H xss) (k : ∀ p H1, Ex H H1 → LL K H1 p xss → tz D (σ.set i (some (.ref p))) H1) : tSeq (tAsg te (gName i)) tz D σ H := h H (Ex.refl H) _ k
end
end Mx
namespace Mx
open PySem PySem.Spec PyProof.Rows L2 Evl
section
variable {K : PySem.W.Frag} {H H' : Hp} {σ : L2.St}
theorem rv_isN {x : V} : RV (fun x y H Q => y = V.non ∧ Q (.bl (decide (x = .non))) H) x .non H (.bl (decide (x = .non))) := fun H1 e Q q => ⟨rfl, q H1 (Ex.refl H1)⟩
theorem rv_notN {x : V} : RV (fun x y H Q => y = V.non ∧ Q (.bl (!decide (x = .non))) H) x .non H (.bl (!decide (x = .non))) := fun H1 e Q q => ⟨rfl, q H1 (Ex.refl H1)⟩
theorem ev_lenT {te : TE} {p : Addr} {xs : List V} (ha : Ev te σ H (.ref p)) (h : SqT K H p xs) : Ev (tCB (rLenS K) (tCons te tNil)) σ H (.int (xs.length : Int)) := fun H1 e Q q =>
  ha H1 e _ fun H2 e2 => ⟨p, xs, rfl, Or.inr (ex_t (e.trans e2) h), q H2 e2⟩
end
end Mx
namespace Mx
open PySem PySem.Spec PyProof.Rows L2 Evl
section
variable {K : PySem.W.Frag} {H H' : Hp} {σ : L2.St}
def rTupS (K : PySem.W.Frag) : List V → Hp → VK → Prop := fun xs H Q => ∃ p ys, xs = [V.ref p] ∧ ((SqL K H p ys ∧ ∀ l, H l = none → Q (.ref l) (upd H l (.tup ys))) ∨ (SqT K H p ys ∧ Q (.ref p) H))
theorem eu_tuple {te : TE} {xs : List V} (h : EvL te σ H xs) : EvU (tCB (rTupS K) (tCons te tNil)) σ H xs := fun H1 e Q q =>
  h H1 e _ fun p H2 hp e2 h2 => ⟨p, xs, rfl, .inl ⟨sq_of h2, fun l hl => q l _ (fresh_back e2 hl) (e2.trans (Ex.new hl)) upd_same⟩⟩
end
end Mx
namespace Mx
open PySem PySem.Spec PyProof.Rows L2 Evl
section
variable {K : PySem.W.Frag} {H H' : Hp} {σ : L2.St}
theorem ev_chain {ta tb tc : TE} {r r' : R2} {x y z : V} {a b : Bool} (ha : Ev ta σ H x) (hb : Ev tb σ H y) (h1 : RV r x y H (.bl a)) (hc : a = true → Ev tc σ H z) (h2 : a = true → RV r' y z H (.bl b)) : Ev (tChain r r' ta tb tc) σ H (.bl (a && b)) := fun H1 e Q q =>
  ha H1 e _ fun H2 e2 => hb H2 (e.trans e2) _ fun H3 e3 => h1 H3 ((e.trans e2).trans e3) _ fun H4 e4 => ⟨a, rfl, by
    cases a with
    | true =>
      show tc σ H4 _
      exact hc rfl H4 (((e.trans e2).trans e3).trans e4) _ fun H5 e5 => h2 rfl H5 ((((e.trans e2).trans e3).trans e4).trans e5) _ fun H6 e6 => q H6 ((((e2.trans e3).trans e4).trans e5).trans e6)
    | false =>
      show Q (.bl false) H4
      exact q H4 ((e2.trans e3).trans e4)⟩
end
end Mx
namespace Mx
open PySem PySem.Spec PyProof.Rows L2 Evl
section
variable {K : PySem.W.Frag} {H H' : Hp} {σ : L2.St}
theorem EvO.mono {to : TO} {o : Option Int} (e : Ex H H') (h : EvO to σ H o) : EvO to σ H' o := fun H1 a Q q => h H1 (e.trans a) Q q
/-- xs[lo:hi], xs made on the way -/
theorem el_slN {te : TE} {tl th : TO} {xs : List V} {lo hi : Option Int} (h : EvL te σ H xs) (h1 : EvO tl σ H lo) (h2 : EvO th σ H hi) : EvL (tSl (rSlL K) te tl th) σ H (cutV xs lo hi) := fun H1 e Q q =>
  h H1 e _ fun p H2 hp e2 h2' => (el_sl (te := tC (.ref p)) ev_c (EvO.mono (e.trans e2) h1) (EvO.mono (e.trans e2) h2) (sq_of h2')) H2 (Ex.refl _) Q fun r H3 hr e3 h3 => q r H3 (fresh_back e2 hr) (e2.trans e3) h3
theorem ev_opLsL {ta tb : TE} {r : R2} {z : V} {xss : List (List V)} {ys : List V} (ha : EvLs ta σ H xss) (hb : EvL tb σ H ys) (hr : ∀ p as q H1, Ex H H1 → NLs H H1 p as xss → H1 q = some (.lst ys) → RV r (.ref p) (.ref q) H1 z) : Ev (tOp r ta tb) σ H z := fun H1 e Q k =>
  ha H1 e _ fun p as H2 e2 hN => hb H2 (e.trans e2) _ fun q H3 hq e3 hq' => hr p as q H3 ((e.trans e2).trans e3) ((hN.back e).mono e3) hq' H3 (Ex.refl _) Q fun H4 e4 => k H4 ((e2.trans e3).trans e4)
theorem cut_to {xs : List V} {j : Nat} : cutV xs none (some (j : Int)) = xs.take j := by
  unfold cutV
  rw [HT.sIx_none, HT.sIx_nat]
  simp only [Nat.sub_zero, List.drop_zero]
  rcases Nat.le_total j xs.length with hj | hj
  · rw [Nat.min_eq_left hj]
  · rw [Nat.min_eq_right hj, List.take_length, List.take_of_length_le hj]
/-- f(…) on the left of an operator, by what f promises -/
theorem op_call {r : R2} {ta : TA} {tb : TE} {sp : Sp} {E : XK} {vs : List V} {Q : VK} (h : EvA ta σ H vs) (k : ∀ H1, Ex H H1 → sp (vs ++ []) H1 (fun x H2 => tb σ H2 fun y H3 => r x y H3 Q) E) : tOp r (tCall sp [] E ta) tb σ H Q := h H (Ex.refl H) _ k
/-- three lists in a tuple, as data -/
theorem dp_T3 {t a b c : Addr} {xs ys zs : List Int} (h : H t = some (.tup [.ref a, .ref b, .ref c])) (ha : LI K H a xs) (hb : LI K H b ys) (hc : LI K H c zs) : Dp K H (.ref t) (.tuple [dI xs, dI ys, dI zs]) := .tup (st_of h) (.cons (dp_I ha) (.cons (dp_I hb) (.cons (dp_I hc) .nil)))
theorem sh_T3 (xs ys zs : List Int) : SeqAt.shaped (.tuple [dI xs, dI ys, dI zs]) = true := by
  unfold SeqAt.shaped
  simp only [PyData.canLay0, PyData.canLayAll0, lay_ints, PyData.depth, PyData.depthAll, dep_ints]
  simp
theorem eqv_T3 (xs ys zs : List Int) : PyData.eqv (.tuple [dI xs, dI ys, dI zs]) (.tuple [dI xs, dI ys, dI zs]) = true := by
  rw [PyData.eqv, PyData.eqvAll, PyData.eqvAll, PyData.eqvAll, PyData.eqvAll, eqv_I, eqv_I, eqv_I]
  simp
end
end Mx
namespace Mx
open PySem PySem.Spec PyProof.Rows L2 Evl
section
variable {K : PySem.W.Frag} {H H' : Hp} {σ : L2.St}
theorem q_forLs {te : TE} {g : TG} {ts tz : TS} {D : Ends} {yss : List (List V)} (h : EvLs te σ H yss) (k : ∀ p as H1, Ex H H1 → NLs H H1 p as yss → tSeq (tFor (iList K (tC (.ref p))) g ts) tz D σ H1) : tSeq (tFor (iList K te) g ts) tz D σ H :=
  h H (Ex.refl H) _ fun p as H1 e1 hN => k p as H1 e1 hN
theorem any_P (xs : List Int) : ∀ xss : List (List Int), ((xss.map dI).any fun z => PyData.eqv z (dI xs)) = decide (xs ∈ xss)
  | [] => by simp
  | y :: r => by
    rw [List.map_cons, List.any_cons, any_P xs r, eqv_I]
    by_cases h : y = xs
    · subst h; simp
    · have h' : ¬ xs = y := fun z => h z.symm
      simp [h, h']
theorem rv_inD {a p : Addr} {xs : List Int} {xss : List (List Int)} (h1 : LI K H a xs) (h2 : LL K H p xss) : RV (rInD K) (.ref a) (.ref p) H (.bl (decide (xs ∈ xss))) := fun H1 e Q q => by
  have := q H1 (Ex.refl H1)
  rw [← any_P] at this
  exact ⟨_, _, dp_I (ex_l e h1), dp_P (h2.mono e), sh_I _, sh_P _, this⟩
theorem rv_notInD {a p : Addr} {xs : List Int} {xss : List (List Int)} (h1 : LI K H a xs) (h2 : LL K H p xss) : RV (rNotInD K) (.ref a) (.ref p) H (.bl (!decide (xs ∈ xss))) := fun H1 e Q q => by
  have := q H1 (Ex.refl H1)
  rw [← any_P] at this
  exact ⟨_, _, dp_I (ex_l e h1), dp_P (h2.mono e), sh_I _, sh_P _, this⟩
theorem planB_take {n : Int} {plan : List (List Int)} (k : Nat) (h : planB n plan = true) : planB n (plan.take k) = true := by
  rw [planB_iff] at h ⊢
  exact ⟨Nat.le_trans (List.length_take_le' _ _) h.1, fun m hm => h.2 m (List.mem_of_mem_take hm)⟩
end
end Mx
namespace Mx
open PySem PySem.Spec PyProof.Rows L2 Evl
section
variable {K : PySem.W.Frag} {H H' : Hp} {σ : L2.St}
/-- for j in reversed(range(n)): Pv k holds when the places from k on are done -/
theorem q_forRev {te : TE} {j n : Nat} {tu tz : TS} {D : Ends} (h : Ev te σ H (.int (n : Int))) (hn : n ≤ 100000) (Pv : Nat → L2.St → Hp → Prop) (h0 : ∀ H1, Ex H H1 → Pv n σ H1)
    (hs : ∀ k σ' H', k < n → Pv (k + 1) σ' H' → tu { D with nx := Pv k, ct := Pv k, bk := tz D } (σ'.set j (some (.int (k : Int)))) H') (hd : ∀ σ' H', Pv 0 σ' H' → tz D σ' H') : tSeq (tFor (iRevR (tRg1 te)) (gName j) tu) tz D σ H :=
  h H (Ex.refl H) _ fun H1 e => ⟨(n : Int), rfl, by omega, by omega, by omega, by omega, by
    refine ⟨fun i m σ' H' => m = n - i ∧ i ≤ n ∧ Pv (n - i) σ' H', ⟨_, rfl, Nat.zero_le _, h0 H1 e⟩, ?_⟩
    rintro i m σ' H' ⟨rfl, hi, hp⟩
    have e0 : ((n : Int) - 0).toNat = n := by omega
    by_cases hlt : i < n
    · refine .inr ⟨?_, Pv (n - (i + 1)), fun σ'' H'' z => ⟨n - (i + 1), by omega, rfl, hlt, z⟩, fun x H'' hy => ?_⟩
      · show i < ((n : Int) - 0).toNat
        omega
      · obtain ⟨rfl, rfl⟩ := hy
        have e1 : (0 : Int) + ((((n : Int) - 0).toNat : Nat) : Int) - 1 + (i : Nat) * (-1) = ((n - (i + 1) : Nat) : Int) := by omega
        show tu _ (σ'.set j (some (.int ((0 : Int) + ((((n : Int) - 0).toNat : Nat) : Int) - 1 + (i : Nat) * (-1))))) H''
        rw [e1]
        exact hs (n - (i + 1)) σ' H'' (by omega) (by rw [show n - (i + 1) + 1 = n - i by omega]; exact hp)
    · have hin : i = n := by omega
      subst hin
      rw [Nat.sub_self] at hp
      refine .inl ⟨?_, hd _ _ hp⟩
      show ((i : Int) - 0).toNat ≤ i
      omega⟩
theorem paired_erase {α β : Type} {F : α → β → Prop} : ∀ {xs : List α} {ys : List β} (k : Nat), Paired F xs ys → Paired F (xs.eraseIdx k) (ys.eraseIdx k)
  | _, _, _, .nil => .nil
  | _, _, 0, .cons _ t => t
  | _, _, k + 1, .cons r t => .cons r (paired_erase k t)
/-- xs[:k] + xs[k + 1:] -/
theorem el_erase {te : TE} {tk : TE} {a : Addr} {xs : List V} {k : Nat} (ha : Ev te σ H (.ref a)) (hk : Ev tk σ H (.int (k : Int))) (hx : SqL K H a xs) (hl : k < xs.length) (hz : xs.length ≤ 90000) :
    EvL (tOp rCat (tSl (rSlL K) te tNoPart (tPart tk)) (tSl (rSlL K) te (tPart (tOp (rI0 fun i j => .int (i + j)) tk (tC (.int 1)))) tNoPart)) σ H (xs.eraseIdx k) := by
  refine el_of (el_cat (el_sl ha eo_none (eo_some hk) hx) (el_sl ha (eo_some (i := ((k + 1 : Nat) : Int)) (ev_of (ev_op hk ev_c rv_I0) (by rw [Int.natCast_add]; rfl))) eo_none hx) ?_) ?_
  · rw [cut_lo (by omega), cut_hi (by omega), List.length_take, List.length_drop]
    omega
  · rw [cut_lo (by omega), cut_hi (by omega), List.eraseIdx_eq_take_drop_succ]
end
end Mx
namespace Mx
open PySem PySem.Spec PyProof.Rows L2 Evl
section
variable {K : PySem.W.Frag} {H H' : Hp} {σ : L2.St}
theorem q_callX {sp : Sp} {ta : TA} {vs : List V} {E : XK} {i : Nat} {tz : TS} {D : Ends} (h : EvA ta σ H vs) (k : ∀ H1, Ex H H1 → sp (vs ++ []) H1 (fun v H2 => tz D (σ.set i (some v)) H2) E) : tSeq (tAsg (tCall sp [] E ta) (gName i)) tz D σ H := h H (Ex.refl H) _ k
theorem rv_eqS {x y : Str} (hx : SeqAt.shaped (.str x) = true := by decide +kernel) (hy : SeqAt.shaped (.str y) = true := by decide +kernel) : RV (rEqD K) (.str x) (.str y) H (.bl (x == y)) := fun H1 e Q q => by
  have e1 : PyData.eqv (.str x) (.str y) = (x == y) := by rw [PyData.eqv]
  have := q H1 (Ex.refl H1)
  rw [← e1] at this
  exact ⟨.str x, .str y, .str x, .str y, hx, hy, this⟩
theorem rv_neS {x y : Str} (hx : SeqAt.shaped (.str x) = true := by decide +kernel) (hy : SeqAt.shaped (.str y) = true := by decide +kernel) : RV (rNeD K) (.str x) (.str y) H (.bl (!(x == y))) := fun H1 e Q q => by
  have e1 : PyData.eqv (.str x) (.str y) = (x == y) := by rw [PyData.eqv]
  have := q H1 (Ex.refl H1)
  rw [← e1] at this
  exact ⟨.str x, .str y, .str x, .str y, hx, hy, this⟩
end
end Mx
/-! sorted of pairs (a whole number, a list of whole numbers) -/
namespace Mx
open PySem PySem.Spec PyProof.Rows L2 Evl
abbrev It2 := Addr × Addr × List Int
def encT (q : It2) : PyData := .tuple [.int (q.2.2.length : Int), dI q.2.2]
theorem alike_T (q r : It2) : PySem.W.alike (encT q) (encT r) = true := by
  unfold encT
  rw [PySem.W.alike, PySem.W.alikeAll, PySem.W.alikeAll, PySem.W.alikeAll, PySem.W.alike, PySem.W.alike, PySem.W.alike_ints]
  rfl
theorem le_T (q r : It2) : PySem.W.dataLe false encT q r = leS q.2.2 r.2.2 := by
  rw [PySem.W.dataLe_eq]
  show (!PySem.W.dataLt (encT r) (encT q)) = leS q.2.2 r.2.2
  unfold encT leS
  rw [PySem.W.dataLt_pair (by rw [PySem.W.alike]) (by rw [PySem.W.alike, PySem.W.alike_ints]), PySem.W.dataLt_int, PySem.W.dataLt_list, eqv_I]
  have hr := PySem.W.dataLt_ints r.2.2 q.2.2
  unfold PySem.W.rowLt at hr
  rw [hr, PyData.eqv]
  by_cases h : (r.2.2.length : Int) = (q.2.2.length : Int)
  · rw [if_pos (by simpa using h)]
    by_cases h2 : r.2.2 = q.2.2
    · rw [if_pos (by simpa using h2), h2]
      simp
    · rw [if_neg (by simpa using h2)]
      by_cases h3 : r.2.2 < q.2.2
      · have h4 : ¬ q.2.2 ≤ r.2.2 := fun z => z h3
        simp [h3, h4]
        omega
      · have h4 : q.2.2 ≤ r.2.2 := h3
        simp [h3, h4]
        omega
  · rw [if_neg (by simpa using h)]
    by_cases h3 : (r.2.2.length : Int) < (q.2.2.length : Int)
    · have h4 : ¬ q.2.2.length < r.2.2.length := by omega
      have h5 : ¬ q.2.2.length = r.2.2.length := by omega
      simp [h4, h5]
      omega
    · have h4 : q.2.2.length < r.2.2.length := by omega
      simp [h4]
      omega
def rSorted2 (K : PySem.W.Frag) : List V → Hp → VK → Prop := fun vs H Q => ∃ (a : Addr) (ts : List It2), vs = [.ref a] ∧ SqL K H a (ts.map fun q => V.ref q.1) ∧ ts.length ≤ 100000 ∧
  (∀ q ∈ ts, H q.1 = some (.tup [.int (q.2.2.length : Int), .ref q.2.1]) ∧ H q.2.1 = some (.lst (q.2.2.map V.int))) ∧
  ∀ (p : Addr) (ss : List It2), ss.Perm ts → ss.Pairwise (fun q r => leS q.2.2 r.2.2 = true) → H p = none → Q (.ref p) (upd H p (.lst (ss.map fun q => V.ref q.1)))
theorem refs_T : ∀ {ts : List It2} {us : List Value}, Vals (ts.map fun q => V.ref q.1) us → us = ts.map fun q => Value.ref q.1
  | [], _, h => by
    have h' : Vals [] _ := h
    cases h'
    rfl
  | q :: ts, _, h => by
    have h' : Vals (V.ref q.1 :: ts.map fun q => V.ref q.1) _ := h
    cases h' with
    | cons r t =>
      have e : _ = Value.ref q.1 := r
      rw [e, refs_T t]
      rfl
theorem each_T {R : Value → It2 → Prop} : ∀ {ts : List It2}, (∀ q ∈ ts, R (.ref q.1) q) → PySem.W.EachIs R (ts.map fun q => Value.ref q.1) ts
  | [], _ => .nil
  | q :: ts, f => .cons (f q List.mem_cons_self) (each_T fun x hx => f x (List.mem_cons_of_mem _ hx))
theorem each_refs : ∀ {out : List Value} {ss : List It2}, PySem.W.EachIs (fun u q => u = Value.ref q.1) out ss → Vals (ss.map fun q => V.ref q.1) out
  | _, _, .nil => .nil
  | _, _, .cons r t => .cons r (each_refs t)
section
variable {X : Cx}
theorem cr_sortedS2 (hu : X.A.units + 64 < cLine) : CallR X (.builtin "sorted") (rSorted2 X.K) := by
  intro pins s σ H vs us Q I r h
  obtain ⟨a, ts, rfl, hs, hz, hx, q⟩ := h
  obtain ⟨its, rv, hl, _⟩ := I.list hs
  obtain ⟨u, rfl, ru⟩ := vals1 r
  obtain rfl : u = Value.ref a := ru
  have e1 := refs_T rv
  subst e1
  have reads : ∀ q ∈ ts, ∃ as, Reads s.heap (.ref q.1) (encT q) as := fun x hm => by
    obtain ⟨h1, h2⟩ := hx x hm
    exact Dp.reads I (encT x) (.ref x.1) _ (.tup (st_of h1) (.cons (.int _) (.cons (dp_I (sq_of h2)) .nil))) rfl
  refine PySem.W.sorted_data (R := fun u q => u = Value.ref q.1) (enc := encT) (bs := ts) hl.isList (each_T fun _ _ => rfl) (each_T reads) (PySem.W.AllAlike.of alike_T) (PySem.W.Sortable.tuples fun b => ⟨_, _, rfl⟩) (sz_of hz) (fun b _ => ?_) fun out ho he => ?_
  · show X.A.units + 2 + PyData.depth (encT b) < cLine
    unfold encT
    simp only [PyData.depth, PyData.depthAll, dep_ints]
    simp
    omega
  · obtain ⟨c, hc⟩ := sortedAll_at s.heap (ts.map fun q => Value.ref q.1) out.toArray
    have htot : PySem.W.TotalLe (PySem.W.dataLe false encT) := PySem.W.sortLe_total _ _ _
    have hp : (ts.mergeSort (PySem.W.dataLe false encT)).Perm ts := List.mergeSort_perm _ _
    have hpw : (ts.mergeSort (PySem.W.dataLe false encT)).Pairwise (fun q r => leS q.2.2 r.2.2 = true) := (PySem.W.sort_pairwise htot ts).imp fun {q r} h => by rw [← le_T]; exact h
    have hlen := hp.length_eq
    refine ⟨.ref (s.heap.objs.size + 1), _, I.laid (t' := s.toks) (o := .lst ((ts.mergeSort (PySem.W.dataLe false encT)).map fun q => V.ref q.1)) (fun b ob hb => sortedAll_old hb) (Nat.le_succ _) ⟨?_, out, c, each_refs he, hc⟩, rfl, q _ _ hp hpw (I.hok.fresh (Nat.le_succ _))⟩
    rw [List.length_map, hlen]
    exact sz_of hz
end
/-! the sets as the law finds them are all sets in order -/
theorem leS_antisymm {a b : List Int} (h1 : leS a b = true) (h2 : leS b a = true) : a = b := by
  unfold leS at h1 h2
  rw [decide_eq_true_iff] at h1 h2
  rcases h1 with h1 | ⟨e1, h1⟩
  · rcases h2 with h2 | ⟨e2, h2⟩ <;> omega
  · rcases h2 with h2 | ⟨e2, h2⟩
    · omega
    · exact List.le_antisymm h1 h2
theorem sorted_sets {w m : Int} (h1 : 0 ≤ w) (h2 : w ≤ 8) (h3 : 0 ≤ m) (h4 : m ≤ 3) {l : List (List Int)} (hp : l.Perm (raw w m)) (hs : l.Pairwise (fun a b => leS a b = true)) : l = allSets w m := by
  obtain ⟨a, rfl⟩ := fin_of (n := 9) h1 (by omega)
  obtain ⟨b, rfl⟩ := fin_of (n := 4) h3 (by omega)
  have p := List.isPerm_iff.mp (raw_perm a b)
  exact List.Perm.eq_of_pairwise (fun x y _ _ z1 z2 => leS_antisymm z1 z2) hs (all_up a b) (hp.trans p.symm)
end Mx
/-! dicts whose keys are tuples of truths, their values things at addresses -/
namespace Mx
open PySem PySem.Spec PyProof.Rows L2 Evl
abbrev BK (P : Program) (w : World) : HeapKind P w (List Bool) := tupleKind (PpSet.boolK P w)
/-- key, where the key's tuple stands, where the value stands -/
abbrev Ent := List Bool × Addr × Addr
def rawE (xs : List Ent) : List (List Bool × Addr × Value) := xs.map fun x => (x.1, x.2.1, Value.ref x.2.2)
def BDat (P : Program) (w : World) (d : Addr) (xs : List Ent) (h : Heap) : Prop := xs.length ≤ sizeLine ∧ (d == sysModules) = false ∧
  ∃ o es ep, h.get? d = some o ∧ o.ExactDict ∧ o.data = .dict es ep ∧ es.toList = (rawE xs).map (entryOfKey (BK P w)) ∧ ((rawE xs).map (·.1)).Nodup
def DBo (P : Program) (w : World) (d : Addr) (xs : List Ent) : HO := .ext (BDat P w d xs)
def lookE (xs : List Ent) (k : List Bool) : Option Addr := (xs.find? fun x => decide (x.1 = k)).map (·.2.2)
theorem at_rawE (xs : List Ent) (k : List Bool) : (atKey (rawE xs) k).map (·.2) = (lookE xs k).map Value.ref := by
  unfold atKey rawE lookE
  induction xs with
  | nil => rfl
  | cons x r ih =>
    rw [List.map_cons, List.find?_cons, List.find?_cons]
    by_cases h : x.1 = k
    · simp [h]
    · simp only [decide_eq_false h]
      exact ih
theorem at_some (xs : List Ent) (k : List Bool) : (atKey (rawE xs) k).isSome = (lookE xs k).isSome := by
  have := congrArg Option.isSome (at_rawE xs k)
  rw [Option.isSome_map, Option.isSome_map] at this
  exact this
section
variable {P : Program} {w : World} {H : Hp} {h : Heap} {d : Addr} {xs : List Ent}
theorem bd_obj (x : BDat P w d xs h) : ObjOk P w H h d (DBo P w d xs) := by
  refine ⟨x, ?_, fun h1 h2 z k => ?_⟩
  · obtain ⟨_, _, o, _, _, e, _⟩ := x
    exact ⟨o, e⟩
  · obtain ⟨a, b, o, es, ep, e, r⟩ := z
    exact ⟨a, b, o, es, ep, k o e, r⟩
theorem bd_get (ok : HOk P w H h) (e : H d = some (DBo P w d xs)) : BDat P w d xs h := (show ObjOk P w H h d (DBo P w d xs) from ok d _ e).1
theorem items_bls : ∀ {ks : List Bool} {us : List Value}, Vals (ks.map V.bl) us → ItemsAre (PpSet.boolK P w) ks us
  | [], _, r => by
    have r' : Vals [] _ := r
    cases r'
    exact .nil
  | k :: ks, _, r => by
    have r' : Vals (V.bl k :: ks.map V.bl) _ := r
    cases r' with
    | cons a t =>
      have e : _ = Value.bool k := a
      rw [e]
      exact .cons (PpSet.boolK_is P w k) (items_bls t)
theorem bkey (ok : HOk P w H h) {b : Addr} {k : List Bool} (e : H b = some (.tup (k.map V.bl))) : (BK P w).is h k b := by
  obtain ⟨_, its, r, o, h1, h2, n, h3⟩ := (show ObjOk P w H h b (.tup (k.map V.bl)) from ok b _ e)
  exact ⟨o, its.toArray, n, h1, h2, h3, by simpa using items_bls r⟩
theorem bdictH (ok : HOk P w H h) (e : H d = some (DBo P w d xs)) (hk : ∀ x ∈ xs, H x.2.1 = some (.tup (x.1.map V.bl))) : h.DictOfH (BK P w) d (rawE xs) := by
  obtain ⟨_, _, o, es, ep, h1, h2, h3, h4, h5⟩ := bd_get ok e
  refine ⟨o, es, ep, h1, h2, h3, h4, fun x hx => ?_, h5⟩
  obtain ⟨y, hy, rfl⟩ := List.mem_map.mp hx
  exact bkey ok (hk y hy)
end
/-- {} -/
def tBNew (P : Program) (w : World) : TE := fun _ H Q => ∀ p, H p = none → Q (.ref p) (upd H p (DBo P w p []))
def BAll (P : Program) (w : World) (H : Hp) (d : Addr) (xs : List Ent) : Prop := H d = some (DBo P w d xs) ∧ ∀ x ∈ xs, H x.2.1 = some (.tup (x.1.map V.bl))
def tBIn (P : Program) (w : World) (ty td : TE) : TE := fun σ H Q => ty σ H fun y H1 => td σ H1 fun x H2 => ∃ (d b : Addr) (xs : List Ent) (k : List Bool), x = .ref d ∧ y = .ref b ∧ BAll P w H2 d xs ∧ H2 b = some (.tup (k.map V.bl)) ∧ Q (.bl (lookE xs k).isSome) H2
def tBGet (P : Program) (w : World) (td ty : TE) : TE := fun σ H Q => td σ H fun x H1 => ty σ H1 fun y H2 => ∃ (d b v : Addr) (xs : List Ent) (k : List Bool), x = .ref d ∧ y = .ref b ∧ BAll P w H2 d xs ∧ H2 b = some (.tup (k.map V.bl)) ∧ lookE xs k = some v ∧ Q (.ref v) H2
/-- d[k] = v, k not there -/
def sBPut (P : Program) (w : World) (td ty tv : TE) : TS := fun D σ H => tv σ H fun v H1 => td σ H1 fun x H2 => ty σ H2 fun y H3 => ∃ (d b a : Addr) (xs : List Ent) (k : List Bool), x = .ref d ∧ y = .ref b ∧ v = .ref a ∧ BAll P w H3 d xs ∧ H3 b = some (.tup (k.map V.bl)) ∧ lookE xs k = none ∧
  xs.length < sizeLine ∧ D.nx σ (upd H3 d (DBo P w d (xs ++ [(k, b, a)])))
section
variable {X : Cx} {o i value : Expr} {pos pos' : Pos} {td ty tv : TE}
theorem pe_dbnew : PE X (.Dict [] [] pos) (tBNew X.prog X.w) := ⟨fun pins s σ H Q I h =>
  wpAny_Dict_empty ⟨.ref s.heap.objs.size, _, I.laid (a := s.heap.objs.size) (o := DBo X.prog X.w s.heap.objs.size []) (t' := s.toks) (fun _ _ q => Heap.get?_push_of_some _ q) (Nat.le_refl _)
    (bd_obj ⟨Nat.zero_le _, beq_eq_false_iff_ne.mpr (Ne.symm (Nat.ne_of_lt I.big)), _, #[], 0, Heap.get?_push_size _ rfl, ⟨rfl, rfl, rfl⟩, rfl, rfl, List.nodup_nil⟩), rfl, h _ (I.hok.fresh (Nat.le_refl _))⟩⟩
theorem pc_dbin (hu : X.A.units + 1 < cLine) (hi : PE X i ty) (ho : PE X o td) : PC X .In i o (tBIn X.prog X.w ty td) := by
  refine ⟨fun pins s σ H Q I h => ?_⟩
  refine thn (hi.run pins s σ H _ I h) fun iv s1 ⟨y, H1, I1, ry, q1⟩ => thn (ho.run pins s1 σ H1 _ I1 q1) fun u s2 ⟨x, H2, I2, rx, d, b, xs, k, ex, ey, hA, hb, q2⟩ => ?_
  subst ex ey
  obtain rfl : u = Value.ref d := rx
  obtain rfl : iv = Value.ref b := ry
  refine wpAny_in_heap (tupleKind_room_in1 hu) (bkey I2.hok hb) (bd_get I2.hok hA.1).2.1 (bdictH I2.hok hA.1 hA.2) ?_
  rw [at_some]
  exact ⟨.bl _, H2, I2.tok _, rfl, q2⟩
theorem pe_dbget (hu : X.A.units + 1 < cLine) (ho : PE X o td) (hi : PE X i ty) (hs : NoSl i) : PE X (.Subscript o i pos) (tBGet X.prog X.w td ty) := by
  refine ⟨fun pins s σ H Q I h => ?_⟩
  refine subD_of PySem.F.slot_dict_getitem.lookup hs (thn (ho.run pins s σ H _ I h) fun u s1 ⟨x, H1, I1, rx, q1⟩ => thn (hi.run pins s1 σ H1 _ I1 q1) fun iv s2 ⟨y, H2, I2, ry, d, b, v, xs, k, ex, ey, hA, hb, hl, q2⟩ => ?_)
  subst ex ey
  obtain rfl : u = Value.ref d := rx
  obtain rfl : iv = Value.ref b := ry
  have dd := bdictH I2.hok hA.1 hA.2
  refine ⟨dd.typeIs, ?_⟩
  have e := at_rawE xs k
  rw [hl] at e
  obtain ⟨p, hp, hp2⟩ := Option.map_eq_some_iff.mp e
  refine wpAny_getItem_heap (tupleKind_room_in1 hu) (bkey I2.hok hb) dd hp ?_
  rw [hp2]
  exact ⟨.ref v, H2, I2.tok _, rfl, q2⟩
theorem ps_dbput (hu : X.A.units + 1 < cLine) (ho : PE X o td) (hi : PE X i ty) (hv : PE X value tv) (hs : swapsWith value (some (.Subscript o i pos')) pos.line X.env = pure false) :
    PS X (.Assign [.Subscript o i pos'] value pos) (sBPut X.prog X.w td ty tv) := by
  refine ⟨fun pins s σ H D I h => ?_⟩
  refine wpAny_Assign_Subscript (thn (hv.run pins s σ H _ I h) fun r s1 ⟨v, H1, I1, rv, q1⟩ => thn (ho.run pins s1 σ H1 _ I1 q1) fun u s2 ⟨x, H2, I2, rx, q2⟩ => thn (hi.run pins s2 σ H2 _ I2 q2) fun iv s3 ⟨y, H3, I3, ry, d, b, a, xs, k, ex, ey, ev, hA, hb, hl, hz, q3⟩ => ?_) hs
  subst ex ey ev
  obtain rfl : u = Value.ref d := rx
  obtain rfl : iv = Value.ref b := ry
  obtain rfl : r = Value.ref a := rv
  have dd := bdictH I3.hok hA.1 hA.2
  have hsm := (bd_get I3.hok hA.1).2.1
  have hno : atKey (rawE xs) k = none := by
    have := at_some xs k
    rw [hl] at this
    cases e : atKey (rawE xs) k with
    | none => rfl
    | some z => rw [e] at this; cases this
  refine wpAny_setItem_heap (hsz := by unfold rawE; rw [List.length_map]; omega) (tupleKind_room_in1 hu) (bkey I3.hok hb) dd fun h' dd' hsb => ?_
  obtain ⟨q, es, ep, hq, h2, h3, h4, _, h5⟩ := dd'
  have er : storedH (rawE xs) k b (Value.ref a) = rawE (xs ++ [(k, b, a)]) := by
    rw [storedH_new hno]
    unfold rawE
    rw [List.map_append]
    rfl
  rw [er] at h4 h5
  refine ⟨σ, _, I3.write (x := d) (e := d) (by rw [hA.1]; exact True.intro) (.inl rfl) (fun c z hc hz => (hsb.2 c hc).trans hz) ⟨q, hq⟩ (bd_obj ⟨?_, hsm, q, es, ep, hq, h2, h3, h4, h5⟩), q3⟩
  rw [List.length_append, List.length_singleton]
  omega
end
end Mx
/-! what each def promises -/
namespace Mx
open PySem PySem.Spec PyProof.Rows L2 Evl
abbrev FnP (K : PySem.W.Frag) (x : Str) (st : Stmt) (f : Addr) (fd : FuncData) : Prop := FunD K x x (defArgs st) (defBody st) (defScope st) [] [] f fd
/-- a def as callers want it -/
structure Def (P : Program) (w : World) (K : PySem.W.Frag) (mg : Str → Option Value) (base : Heap) (k : Nat) (x : Str) (ps : List Str) (sp : Sp) (f : Addr) (fd : FuncData) : Prop where
  ok : FnOk P w K mg base (L2.CX P w) k f fd ps sp
  b : Binds K fd ps []
  g : mg x = some (.ref f)
  kp : PySem.W.keepIn K (.ref f) = true
/-- an own class of exceptions -/
structure ExC (K : PySem.W.Frag) (mg : Str → Option Value) (x : Str) (C : Addr) : Prop where
  g : mg x = some (.ref C)
  x : PySem.W.excIn K C He.veBase "ValueError.__new__" = true
  k : PySem.W.keepIn K (.ref C) = true
  b : PySem.W.subIn K (.ref C) (.type "BaseException") = some true
  t : PySem.W.typeIn K (.ref C) = some (.type "type")
/-! ### the program's -/
def spAskedWares (CW : Addr) : Sp := fun vs H Q E => ∃ n : Int, vs = [.int n] ∧ (okW n → ∀ H', Ex H H' → Q .non H') ∧ (¬ okW n → ∀ H', Ex H H' → E (.ref CW) none H')
def spIsSet (K : PySem.W.Frag) : Sp := fun vs H Q _ => ∃ (n : Int) (a : Addr) (xs : List Int), vs = [.int n, .ref a] ∧ LI K H a xs ∧ ∀ H', Ex H H' → Q (.bl (isSetB n xs)) H'
def spAskedPlan (K : PySem.W.Frag) (CW CP : Addr) : Sp := fun vs H Q E => ∃ (n : Int) (a : Addr) (plan : List (List Int)), vs = [.int n, .ref a] ∧ LL K H a plan ∧
  (okW n → planB n plan = true → ∀ H', Ex H H' → Q .non H') ∧ (¬ okW n → ∀ H', Ex H H' → E (.ref CW) none H') ∧ (okW n → planB n plan = false → ∀ H', Ex H H' → E (.ref CP) none H')
def spMet (K : PySem.W.Frag) : Sp := fun vs H Q _ => ∃ (p s : Addr) (plan : List (List Int)) (some : List Int), vs = [.ref p, .ref s] ∧ LL K H p plan ∧ LI K H s some ∧ Small plan ∧
  ∀ H' r, Ex H H' → NB H H' r (met plan some) → Q (.ref r) H'
def spAnswers (K : PySem.W.Frag) (CW CP CS : Addr) : Sp := fun vs H Q E => ∃ (n : Int) (p s : Addr) (plan : List (List Int)) (some : List Int), vs = [.int n, .ref p, .ref s] ∧ LL K H p plan ∧ LI K H s some ∧
  (okW n → planB n plan = true → isSetB n some = true → ∀ H' r, Ex H H' → NB H H' r (met plan some) → Q (.ref r) H') ∧
  (¬ okW n → ∀ H', Ex H H' → E (.ref CW) none H') ∧ (okW n → planB n plan = false → ∀ H', Ex H H' → E (.ref CP) none H') ∧
  (okW n → planB n plan = true → isSetB n some = false → ∀ H', Ex H H' → E (.ref CS) none H')
def okM (m : Int) : Prop := 0 ≤ m ∧ m ≤ 3
instance (m : Int) : Decidable (okM m) := by unfold okM; infer_instance
def spAskedMost (CM : Addr) : Sp := fun vs H Q E => ∃ m : Int, vs = [.int m] ∧ (okM m → ∀ H', Ex H H' → Q .non H') ∧ (¬ okM m → ∀ H', Ex H H' → E (.ref CM) none H')
def spAllSets : Sp := fun vs H Q _ => ∃ n m : Int, vs = [.int n, .int m] ∧ okW n ∧ okM m ∧ ∀ H' r as, Ex H H' → NLL H H' r as (allSets n m) → Q (.ref r) H'
def spSets (CW CM : Addr) : Sp := fun vs H Q E => ∃ n m : Int, vs = [.int n, .int m] ∧ (okW n → okM m → ∀ H' r as, Ex H H' → NLL H H' r as (allSets n m) → Q (.ref r) H') ∧
  (¬ okW n → ∀ H', Ex H H' → E (.ref CW) none H') ∧ (okW n → ¬ okM m → ∀ H', Ex H H' → E (.ref CM) none H')
def spAskedAnswers (K : PySem.W.Frag) (CA : Addr) : Sp := fun vs H Q E => ∃ (p q : Addr) (xs ys : List V), vs = [.ref p, .ref q] ∧ SqL K H p xs ∧ SqL K H q ys ∧
  (ys.length = xs.length → ∀ H', Ex H H' → Q .non H') ∧ (ys.length ≠ xs.length → ∀ H', Ex H H' → E (.ref CA) none H')
def spFitting (K : PySem.W.Frag) (CW CP CM CA : Addr) : Sp := fun vs H Q E => ∃ (n m : Int) (p q : Addr) (plan : List (List Int)) (bs : List Bool), vs = [.int n, .ref p, .int m, .ref q] ∧ LL K H p plan ∧ LB K H q bs ∧
  (okW n → planB n plan = true → okM m → bs.length = plan.length → ∀ H' r as, Ex H H' → NLL H H' r as (fits n plan m bs) → Q (.ref r) H') ∧
  (¬ okW n → ∀ H', Ex H H' → E (.ref CW) none H') ∧ (okW n → planB n plan = false → ∀ H', Ex H H' → E (.ref CP) none H') ∧
  (okW n → planB n plan = true → ¬ okM m → ∀ H', Ex H H' → E (.ref CM) none H') ∧ (okW n → planB n plan = true → okM m → bs.length ≠ plan.length → ∀ H', Ex H H' → E (.ref CA) none H')
def spCovers (K : PySem.W.Frag) : Sp := fun vs H Q _ => ∃ (p s : Addr) (x : Int) (plan : List (List Int)) (some : List Int), vs = [.ref p, .int x, .ref s] ∧ LL K H p plan ∧ LI K H s some ∧ Small plan ∧ ∀ H', Ex H H' → Q (.bl (coversB plan x some)) H'
/-- a cover, if there is one: the set anew -/
def CoverAs (H : Hp) (o : Option (Int × List Int)) (v : V) (H' : Hp) : Prop := match o with
  | none => v = .non
  | some (x, s) => ∃ t b, v = .ref t ∧ H' t = some (.tup [.int x, .ref b]) ∧ H b = none ∧ H' b = some (.lst (s.map V.int))
def spCover (K : PySem.W.Frag) (CW CP CM : Addr) : Sp := fun vs H Q E => ∃ (n m : Int) (p : Addr) (plan : List (List Int)), vs = [.int n, .ref p, .int m] ∧ LL K H p plan ∧
  (okW n → planB n plan = true → okM m → ∀ H' v, Ex H H' → CoverAs H (coverOf n plan m) v H' → Q v H') ∧
  (¬ okW n → ∀ H', Ex H H' → E (.ref CW) none H') ∧ (okW n → planB n plan = false → ∀ H', Ex H H' → E (.ref CP) none H') ∧
  (okW n → planB n plan = true → ¬ okM m → ∀ H', Ex H H' → E (.ref CM) none H')
def spPlainly (K : PySem.W.Frag) (CW CP CA : Addr) : Sp := fun vs H Q E => ∃ (n : Int) (p q : Addr) (plan : List (List Int)) (bs : List Bool), vs = [.int n, .ref p, .ref q] ∧ LL K H p plan ∧ LB K H q bs ∧
  (okW n → planB n plan = true → bs.length = plan.length → ∀ H' r, Ex H H' → NI H H' r (plainL n plan bs) → Q (.ref r) H') ∧
  (¬ okW n → ∀ H', Ex H H' → E (.ref CW) none H') ∧ (okW n → planB n plan = false → ∀ H', Ex H H' → E (.ref CP) none H') ∧
  (okW n → planB n plan = true → bs.length ≠ plan.length → ∀ H', Ex H H' → E (.ref CA) none H')
/-- a clash, if there is one: both sets anew -/
def ClashAs (H : Hp) (o : Option (List Int × List Int)) (v : V) (H' : Hp) : Prop := match o with
  | none => v = .non
  | some (s1, s2) => ∃ t b1 b2, v = .ref t ∧ H' t = some (.tup [.ref b1, .ref b2]) ∧ b1 ≠ b2 ∧ H b1 = none ∧ H b2 = none ∧ H' b1 = some (.lst (s1.map V.int)) ∧ H' b2 = some (.lst (s2.map V.int))
def spClashOf (K : PySem.W.Frag) : Sp := fun vs H Q _ => ∃ (n m : Int) (p : Addr) (plan : List (List Int)), vs = [.int n, .ref p, .int m] ∧ LL K H p plan ∧ Small plan ∧ okW n ∧ okM m ∧ ∀ H' v, Ex H H' → ClashAs H (clashOf n plan m) v H' → Q v H'
def spClash (K : PySem.W.Frag) (CW CP CM : Addr) : Sp := fun vs H Q E => ∃ (n m : Int) (p : Addr) (plan : List (List Int)), vs = [.int n, .ref p, .int m] ∧ LL K H p plan ∧
  (okW n → planB n plan = true → okM m → ∀ H' v, Ex H H' → ClashAs H (clashOf n plan m) v H' → Q v H') ∧
  (¬ okW n → ∀ H', Ex H H' → E (.ref CW) none H') ∧ (okW n → planB n plan = false → ∀ H', Ex H H' → E (.ref CP) none H') ∧
  (okW n → planB n plan = true → ¬ okM m → ∀ H', Ex H H' → E (.ref CM) none H')
def spSortedOut (K : PySem.W.Frag) (CW CP CM CA CF : Addr) : Sp := fun vs H Q E => ∃ (n m : Int) (p q : Addr) (plan : List (List Int)) (bs : List Bool), vs = [.int n, .ref p, .int m, .ref q] ∧ LL K H p plan ∧ LB K H q bs ∧
  (okW n → planB n plan = true → okM m → bs.length = plan.length → fits n plan m bs ≠ [] → ∀ H' t a b c, Ex H H' → H' t = some (.tup [.ref a, .ref b, .ref c]) → NI H H' a (outS n (fits n plan m bs)) → NI H H' b (outG n (fits n plan m bs)) → NI H H' c (outL n (fits n plan m bs)) →
    a ≠ b → a ≠ c → b ≠ c → Q (.ref t) H') ∧
  (¬ okW n → ∀ H', Ex H H' → E (.ref CW) none H') ∧ (okW n → planB n plan = false → ∀ H', Ex H H' → E (.ref CP) none H') ∧
  (okW n → planB n plan = true → ¬ okM m → ∀ H', Ex H H' → E (.ref CM) none H') ∧ (okW n → planB n plan = true → okM m → bs.length ≠ plan.length → ∀ H', Ex H H' → E (.ref CA) none H') ∧
  (okW n → planB n plan = true → okM m → bs.length = plan.length → fits n plan m bs = [] → ∀ H', Ex H H' → E (.ref CF) none H')
/-! ### the law's -/
def cellAt (ns : List Int) (k : Nat) : Int := ns.getD k 0
def spCellAt (K : PySem.W.Frag) : Sp := fun vs H Q _ => ∃ (a : Addr) (ns : List Int) (k : Nat), vs = [.ref a, .int (k : Int)] ∧ LI K H a ns ∧ ∀ H', Ex H H' → Q (.int (cellAt ns k)) H'
def spSomeBy : Sp := fun vs H Q _ => ∃ (c n : Int), vs = [.int c, .int n] ∧ 0 ≤ n ∧ n ≤ 1000 ∧ ∀ H' r, Ex H H' → NI H H' r (someBy c n) → Q (.ref r) H'
/-- a plan as the law draws it: nothing is told of it but that it is one -/
def spPlanBy (K : PySem.W.Frag) : Sp := fun vs H Q _ => ∃ (a : Addr) (ns : List Int), vs = [.ref a] ∧ LI K H a ns ∧ ns.length ≤ 63 ∧
  ∀ (H' : Hp) (t p : Addr) (n : Int) (plan : List (List Int)), Ex H H' → H' t = some (.tup [.int n, .ref p]) → LL K H' p plan → okW n → planB n plan = true → Q (.ref t) H'
def spTruths (K : PySem.W.Frag) : Sp := fun vs H Q _ => ∃ (a b : Addr) (bs : List Bool), vs = [.ref a, .ref b] ∧ H a = some (.lst (bs.map V.bl)) ∧ LB K H b bs ∧ bs.length < 10000 ∧ ∀ H', Ex H H' → Q (.bl true) H'
def spWhole : Sp := fun vs H Q _ => ∃ i : Int, vs = [.int i] ∧ ∀ H', Ex H H' → Q (.bl true) H'
def spLSets (K : PySem.W.Frag) : Sp := fun vs H Q _ => ∃ n m : Int, vs = [.int n, .int m] ∧ okW n ∧ okM m ∧ ∀ H' r, Ex H H' → LL K H' r (allSets n m) → Q (.ref r) H'
/-- the law's cover: the set is read alone -/
def LCoverAs (K : PySem.W.Frag) (o : Option (Int × List Int)) (v : V) (H' : Hp) : Prop := match o with
  | none => v = .non
  | some (x, s) => ∃ t b, v = .ref t ∧ H' t = some (.tup [.int x, .ref b]) ∧ LI K H' b s
def spLCover (K : PySem.W.Frag) : Sp := fun vs H Q _ => ∃ (n m : Int) (p : Addr) (plan : List (List Int)), vs = [.int n, .ref p, .int m] ∧ LL K H p plan ∧ okW n ∧ planB n plan = true ∧ okM m ∧ ∀ H' v, Ex H H' → LCoverAs K (coverOf n plan m) v H' → Q v H'
def LClashAs (K : PySem.W.Frag) (o : Option (List Int × List Int)) (v : V) (H' : Hp) : Prop := match o with
  | none => v = .non
  | some (s1, s2) => ∃ t b1 b2, v = .ref t ∧ H' t = some (.tup [.ref b1, .ref b2]) ∧ LI K H' b1 s1 ∧ LI K H' b2 s2
def spLClash (K : PySem.W.Frag) : Sp := fun vs H Q _ => ∃ (n m : Int) (p : Addr) (plan : List (List Int)), vs = [.int n, .ref p, .int m] ∧ LL K H p plan ∧ okW n ∧ planB n plan = true ∧ okM m ∧ ∀ H' v, Ex H H' → LClashAs K (clashOf n plan m) v H' → Q v H'
def spIsSetL (K : PySem.W.Frag) : Sp := fun vs H Q _ => ∃ (a : Addr) (n m : Int) (xs : List Int), vs = [.ref a, .int n, .int m] ∧ H a = some (.lst (xs.map V.int)) ∧ isSetB n xs = true ∧ (xs.length : Int) ≤ m ∧ xs.length < 10000 ∧ ∀ H', Ex H H' → Q (.bl true) H'
/-- what is told is just what is due -/
def spIsList (K : PySem.W.Frag) : Sp := fun vs H Q _ => ∃ (a b : Addr) (xs : List Int), vs = [.ref a, .ref b] ∧ H a = some (.lst (xs.map V.int)) ∧ LI K H b xs ∧ xs.length < 10000 ∧ ∀ H', Ex H H' → Q (.bl true) H'
def spLists (K : PySem.W.Frag) : Sp := fun vs H Q _ => ∃ (a b : Addr) (as : List Addr) (xss : List (List Int)), vs = [.ref a, .ref b] ∧ H a = some (.lst (as.map V.ref)) ∧ Paired (fun c xs => H c = some (.lst (xs.map V.int))) as xss ∧ LL K H b xss ∧ Small xss ∧ ∀ H', Ex H H' → Q (.bl true) H'
def spLaw (K : PySem.W.Frag) : Sp := fun vs H Q _ => ∃ (a : Addr) (ns : List Int), vs = [.ref a] ∧ SqL K H a (ns.map V.int) ∧ ns.length ≤ 63 ∧ ∀ H', Q (.bl true) H'
end Mx
namespace Mx
theorem hu65 {A : PySem.Around} {k : Nat} (r : L2.Room k A) : A.units + 65 < PySem.cLine := by have := r.un; omega
end Mx
namespace Mx
open PySem PySem.Spec PyProof.Rows L2 Evl
def spThinned (K : PySem.W.Frag) (CW CP CM CT : Addr) : Sp := fun vs H Q E => ∃ (n m : Int) (p : Addr) (plan : List (List Int)), vs = [.int n, .ref p, .int m] ∧ LL K H p plan ∧
  (okW n → planB n plan = true → okM m → clashOf n plan m = none → ∀ H' r as, Ex H H' → NLL H H' r as (thin n m plan) → Q (.ref r) H') ∧
  (okW n → planB n plan = true → okM m → clashOf n plan m ≠ none → ∀ H', Ex H H' → E (.ref CT) none H') ∧
  (¬ okW n → ∀ H', Ex H H' → E (.ref CW) none H') ∧ (okW n → planB n plan = false → ∀ H', Ex H H' → E (.ref CP) none H') ∧
  (okW n → planB n plan = true → ¬ okM m → ∀ H', Ex H H' → E (.ref CM) none H')
end Mx
namespace Mx
open PySem PySem.Spec PyProof.Rows L2 Evl
theorem clash_dec {H H' : Hp} {o : Option (List Int × List Int)} {v : V} (h : ClashAs H o v H') : decide (v = V.non) = decide (o = none) := by
  cases o with
  | none =>
    obtain rfl : v = .non := h
    rfl
  | some ss =>
    obtain ⟨s1, s2⟩ := ss
    obtain ⟨t3, c1, c2, rfl, _⟩ := h
    simp
theorem map_erase {α β : Type} (f : α → β) (l : List α) (k : Nat) : (l.map f).eraseIdx k = (l.eraseIdx k).map f := by
  rw [List.eraseIdx_eq_take_drop_succ, List.eraseIdx_eq_take_drop_succ, List.map_append, List.map_take, List.map_drop]
theorem nll_erase {H H1 H2 : Hp} {r q : Addr} {as : List Addr} {l : List (List Int)} (k : Nat) (hN : NLL H H1 r as l) (e : Ex H1 H2) (hq : H1 q = none) (hq' : H2 q = some (.lst ((as.map V.ref).eraseIdx k))) (e0 : Ex H H1) : NLL H H2 q (as.eraseIdx k) (l.eraseIdx k) := by
  rw [map_erase] at hq'
  refine ⟨fresh_back e0 hq, hq', hN.nd.sublist (List.eraseIdx_sublist _ _), ?_⟩
  rw [← map_erase]
  exact paired_mono (paired_erase k hN.each) fun b xs _ z => ⟨z.1, ne_of_none z.2.2 hq, e _ _ z.2.2⟩
theorem small_sub {l plan : List (List Int)} (hs : l.Sublist plan) (h : Small plan) : Small l := ⟨Nat.lt_of_le_of_lt hs.length_le h.1, fun m hm => h.2 m (hs.subset hm)⟩
end Mx
/-! own layer: an except suite hands its exception to a def that asks isinstance -/
namespace Mx
open PySem PySem.Spec PyProof.Rows L2 Evl
/-- a def called while p's exception is handled: what it promises of that one -/
structure FnE (P : Program) (w : World) (K : PySem.W.Frag) (mg : Str → Option Value) (base : Heap) (CX : CXT) (k : Nat) (f : Addr) (fd : FuncData) (ps : List Str) (p : Addr × Obj) (sp : Sp) : Prop where
  len : ∀ vs H Q E, sp vs H Q E → vs.length = ps.length
  run : ∀ (A : Around) (outer : List Env) (s : Shared) (H : Hp) (args : Args) (us : List Value) (vs : List V) (Q : VK) (E : XK), L2H.RoomH k A → L2H.PinOk outer H s p → Env0 P w K mg base A outer s H → BindsTo s fd args (ps.zip us) → Vals vs us → sp vs H Q E →
    codeAny (model P w) A (.call (.ref f) args) (CR CX outer P w H s Q E) s
theorem fnE_of {CX : CXT} {P : Program} {w : World} {K : PySem.W.Frag} {mg : Str → Option Value} {base : Heap} {k : Nat} {f : Addr} {fd : FuncData} {x : Str} {st : Stmt} {N ps : List Str} {sp : Sp} {p : Addr × Obj}
    (F : FunD K x x (defArgs st) (defBody st) (defScope st) [] [] f fd) (S : FnScope N ps (defScope st)) (len : ∀ vs H Q E, sp vs H Q E → vs.length = ps.length)
    (hb : ∀ (cdv : Value) (A : Around) (outer : List Env) (s : Shared) (H : Hp) (vs : List V) (Q : VK) (E : XK), L2H.RoomH k (A.deeper (envOfC x (defScope st) s.heap.objs.size f cdv)) → sp vs H Q E →
      ∃ t, PSs (L2H.cxH CX P w K mg base N x (defScope st) f cdv A outer s H E p) (defBody st) t ∧ t { nx := fun _ H' => Q .non H', rt := Q } (L2.start N vs) H) : FnE P w K mg base CX (k + 1) f fd ps p sp := by
  obtain ⟨oc, od, dV, kV, doc, pm, an, cdv, ct, osl, rfl, lk, hcd, _, _⟩ := F.ex
  refine ⟨len, fun A outer s H args us vs Q E hr hp e0 hbi rv hsp => ?_⟩
  have hl := len _ _ _ _ hsp
  have KX : K.In s.heap := e0.mod.kin.keeps fun b o e => (e0.bs b o e).1
  have lim : s.heap.NoLimit := e0.mod.nolimit.keeps fun b o e => (e0.bs b o e).1
  have kinds : ∀ y ∈ ps.zip us, (defScope st).names.lookup y.1 = some .local ∨ ((defScope st).names.lookup y.1 = some .cell ∧ ((cellsFrom (s.heap.objs.size + 1) (defScope st).names []).lookup y.1).isSome = true) := fun ⟨n, v⟩ hy => by
    rcases S.par n (List.of_mem_zip hy).1 with q | q
    · exact .inl q
    · exact .inr ⟨q, PySem.W.cellsFrom_some _ _ _ (.inl q)⟩
  refine codeAny_call_function hr.depth (KX _ _ lk) rfl S.co S.gen rfl (PySem.W.codeRec_of KX hcd) (hbi _ _ _ _ (wpAny_newFunctionEnv_cells S.kind kinds fun env he s1 ic => ?_))
  subst he
  refine ⟨lim.keeps ic.toInCall.keep, codeAny_func ?_⟩
  obtain ⟨t, ht, hq⟩ := hb cdv A outer s H vs Q E (hr.deeper _) hsp
  have I := L2H.inv_startH (CX := CX) (E := E) S hp e0 hl rv ic
  refine wpAny_mono (ht.run [] s1 (L2.start N vs) H _ I hq) (fun fl s' hs => ?_) fun e s' hs => hs
  cases fl with
  | ret u =>
    obtain ⟨v, σ', H', J, r2, q⟩ := hs
    exact ⟨v, H', J.os, J.bare, J.base, J.hok, r2, q⟩
  | next =>
    obtain ⟨σ', H', J, q⟩ := hs
    exact ⟨.non, H', J.os, J.bare, J.base, J.hok, rfl, q⟩
  | brk => exact hs.elim fun _ z => z.elim fun _ z => z.2.elim
  | cont => exact hs.elim fun _ z => z.elim fun _ z => z.2.elim
section
variable {X : Cx} {k : Nat} {f : Addr} {fd : FuncData} {ps : List Str} {sp : Sp} {x : Str} {q pos : Pos} {e : Expr} {es : List Expr} {t : TA} {p : Addr × Obj}
/-- the call, with nothing let out -/
theorem pe_callE (F : FnE X.prog X.w X.K X.mg X.base (L2.CX X.prog X.w) k f fd ps p sp) (hp : p ∈ X.pn) (hr : L2H.RoomH k X.A) (hg : Gl X x) (hm : X.mg x = some (.ref f)) (hk : PySem.W.keepIn X.K (.ref f) = true) (hb : Binds X.K fd ps [])
    (ha : PA X (e :: es) t) (hdb : (x == ("__debug__" : Str)) = false := by decide) (he : starEach (e :: es) X.env = (false, eval e X.env) :: starEach es X.env := by rfl) (hpl : (backTo pos (starEach es X.env)).any (·.1) = false := by rfl) :
    PE X (.Call (.Name x q) (e :: es) [] pos) (tCall sp [] E0 t) := by
  refine ⟨fun pins s σ H Q I h => wpAny_Call_Name_kw (ld_glob I hg hm ?_ hdb)⟩
  refine PySem.W.callWith_K (h₀ := X.base) I.ok.mod.kin hk (thn (ha.run pos pins s σ H _ I h) fun us s1 ⟨vs, H1, I1, r, q⟩ => ⟨I1.kIn, ?_⟩) he hpl
  dsimp only at q
  rw [List.append_nil] at q
  have hl : us.length = ps.length := by rw [← r.length]; exact F.len _ _ _ _ q
  have b := hb s1 us I1.kIn (by rw [List.append_nil]; exact hl)
  rw [List.append_nil] at b
  have P1 := I1.pin p (List.mem_append_left _ hp)
  refine wpAny_call (codeAny_mono (F.run X.A X.stack s1 H1 ⟨us, []⟩ us vs Q E0 hr ⟨P1.1, P1.2.1, fun hm => (List.mem_cons.mp (I1.stkSub p.1 hm)).elim P1.2.2.1 P1.2.2.2.1, P1.2.2.2.2⟩ I1.env0 b r q) fun res s' hq => ?_)
  cases res with
  | error er => exact passL pins σ H1 s1 er s' I1 hq
  | ok fl =>
    cases fl with
    | ret u => exact I1.after hq
    | next => exact False.elim hq
    | brk => exact False.elim hq
    | cont => exact False.elim hq
/-- isinstance(e, c), e the exception that is pinned -/
theorem call_isP {a D : Addr} {oe : Obj} (hp : (a, oe) ∈ X.pn) (C : ExcC X.K D) (hz : Zc (.ref D) none oe) (hf : ∃ vs, oe.data = .fields vs) : CallR X (.builtin "isinstance") (rIsE X.K D a) := by
  intro pins s σ H xs us Q I r h
  obtain ⟨c, cv, b, rfl, hcv, e, q⟩ := h
  obtain ⟨u1, u2, rfl, rx, rt⟩ : ∃ u1 u2, us = [u1, u2] ∧ RelV (.ref a) u1 ∧ RelV c u2 := by
    cases r with
    | cons rx rr =>
      cases rr with
      | cons rt rr =>
        cases rr
        exact ⟨_, _, rfl, rx, rt⟩
  have e1 : u1 = .ref a := rx
  have e2 := hcv _ rt
  subst e1 e2
  have hget := (I.pin (a, oe) (List.mem_append_left _ hp)).1
  obtain ⟨oc, od, oda, osl⟩ := oe
  obtain ⟨h1, h2⟩ := hz
  obtain ⟨vs, hv⟩ := hf
  dsimp only at h1 h2 hv
  subst h1 h2 hv
  exact PySem.W.kia_one (PySem.W.handS_kitx_exc C.hg C.hk C.hs C.hd C.ha C.hn C.ht C.hm) I.kIn (show PySem.W.InstAt s.heap a _ D none from ⟨hget, rfl, rfl, trivial⟩) e (fun z => nomatch z) fun tk => ⟨.bl b, H, I.kept (t' := tk) fun _ _ z => z, rfl, q⟩
/-- xs.count(b), truths -/
def rCntB (K : PySem.W.Frag) : V → List V → Hp → VK → Prop := fun x xs H Q => ∃ (a : Addr) (bs : List Bool) (b : Bool), x = .ref a ∧ xs = [.bl b] ∧ SqL K H a (bs.map V.bl) ∧ Q (.int (bs.count b : Nat)) H
theorem plain_bls : ∀ bs : List Bool, PyData.plainAll (bs.map .bool) = true
  | [] => by rw [List.map_nil]; rfl
  | b :: r => by
    rw [List.map_cons, PyData.plainAll, plain_bls r]
    rfl
theorem eqv_bool (a b : Bool) : PyData.eqv (.bool a) (.bool b) = (a == b) := by rw [PyData.eqv]
theorem mt_countB (hu : X.A.units + 64 < cLine) : MtR X "list.count" (rCntB X.K) := by
  intro pins s σ H x xs v us Q I rx rxs h
  obtain ⟨a, bs, b, rfl, rfl, hs, q⟩ := h
  cases rx
  obtain ⟨u, rfl, ru⟩ := rxs.one
  have eu : u = .bool b := ru
  subst eu
  obtain ⟨its, rv, ⟨oo, n, ho, hc, hdn, hd⟩, hlen⟩ := I.list hs
  have hl : s.heap.IsList a its.toArray := ⟨oo, ho, hc, n, hd⟩
  obtain ⟨as, h4⟩ := Dp.readsAll I (bs.map .bool) _ its (dpAll_bls bs) rv
  refine SeqAt.count_list_data (xs := bs.map .bool) (d := .bool b) (bs := []) hl h4 (Reads.bool b) (plain_bls bs) rfl (by rw [dep_bls]; omega) ⟨.int (bs.count b : Nat), H, I.tok _, ⟨s.toks, ?_⟩, q⟩
  rw [List.countP_map]
  have e : (fun y => PyData.eqv y (.bool b)) ∘ PyData.bool = fun y => y == b := by
    funext y
    exact eqv_bool y b
  rw [e]
  rfl
end
end Mx
/-! the refusals' classes, read at the head -/
namespace Mx
open PySem PySem.Spec PyProof.Rows L2 Evl
def errNames : List Str := ["NoWares", "NoPlan", "NoSet", "NoMost", "NoAnswers", "NoFit", "NotTold", "NoNote"]
def words : List Str := ["wares", "plan", "set", "most", "answers", "fit", "told", "note"]
structure ErrC (K : PySem.W.Frag) (P : Addr) (cl : List Addr) : Prop where
  exc : ∀ (i : Nat) (D : Addr), cl[i]? = some D → ExcC K D
  one : ∀ (i j : Nat) (D C : Addr), cl[i]? = some D → cl[j]? = some C → PySem.W.kitOne K (.ref D) (.ref C) = some (decide (i = j))
  ve : ∀ (i : Nat) (D : Addr), cl[i]? = some D → PySem.W.kitOne K (.ref D) (.type "ValueError") = some true
  pot : ∀ (i : Nat) (D : Addr), cl[i]? = some D → PySem.W.exmOne K (.ref D) (.ref P) = some true
def excB (K : PySem.W.Frag) (D : Addr) : Bool :=
  He.eqO (PySem.W.findIn K (.ref D) "__getattribute__") (some (some (.builtin "BaseException.__getattribute__"))) && (He.eqO (PySem.W.findIn K (.ref D) "__getattr__") (some none) && (decide (PySem.W.subIn K (.ref D) (.type "BaseException") = some true) &&
    (PySem.W.hasDictIn K D && (He.eqO (PySem.W.findIn K (.ref D) "__class__") (some (some (.builtin "object.__class__"))) && (He.eqO (PySem.W.specialIn K (.builtin "object.__class__") "__get__") (some (some (.builtin "getset_descriptor.__get__"))) &&
      (decide (PySem.W.takesIn K (.builtin "object.__class__") = some true) && decide (PySem.W.mroIn K D (.type "object") = some true)))))))
theorem excB_ok {K : PySem.W.Frag} {D : Addr} (h : excB K D = true) : ExcC K D := by
  unfold excB at h
  simp only [Bool.and_eq_true] at h
  obtain ⟨h1, h2, h3, h4, h5, h6, h7, h8⟩ := h
  exact ⟨He.eqO_ok h1, He.eqO_ok h2, of_decide_eq_true h3, h4, He.eqO_ok h5, He.eqO_ok h6, of_decide_eq_true h7, of_decide_eq_true h8⟩
def errB (K : PySem.W.Frag) : Bool := (List.range 8).all fun i =>
  let D := He.ga K (errNames.getD i "")
  excB K D && ((List.range 8).all (fun j => decide (PySem.W.kitOne K (.ref D) (.ref (He.ga K (errNames.getD j ""))) = some (decide (i = j)))) &&
    (decide (PySem.W.kitOne K (.ref D) (.type "ValueError") = some true) && decide (PySem.W.exmOne K (.ref D) (.ref (He.ga K "PotError")) = some true)))
theorem errB_ok {K : PySem.W.Frag} (h : errB K = true) : ErrC K (He.ga K "PotError") [He.ga K "NoWares", He.ga K "NoPlan", He.ga K "NoSet", He.ga K "NoMost", He.ga K "NoAnswers", He.ga K "NoFit", He.ga K "NotTold", He.ga K "NoNote"] := by
  have e : [He.ga K "NoWares", He.ga K "NoPlan", He.ga K "NoSet", He.ga K "NoMost", He.ga K "NoAnswers", He.ga K "NoFit", He.ga K "NotTold", He.ga K "NoNote"] = errNames.map (He.ga K) := rfl
  rw [e]
  have at_ : ∀ {i D}, (errNames.map (He.ga K))[i]? = some D → i < 8 ∧ D = He.ga K (errNames.getD i "") := fun {i D} hi => by
    rw [List.getElem?_map] at hi
    cases q : errNames[i]? with
    | none => rw [q] at hi; cases hi
    | some x =>
      rw [q] at hi
      refine ⟨(List.getElem?_eq_some_iff.mp q).1, ?_⟩
      rw [List.getD_eq_getElem?_getD, q]
      exact (Option.some.inj hi).symm
  have all := fun {i} (hi : i < 8) => List.all_eq_true.mp h i (List.mem_range.mpr hi)
  refine ⟨fun i D hi => ?_, fun i j D C hi hj => ?_, fun i D hi => ?_, fun i D hi => ?_⟩
  · obtain ⟨l, rfl⟩ := at_ hi
    exact excB_ok (Bool.and_eq_true_iff.mp (all l)).1
  · obtain ⟨l, rfl⟩ := at_ hi
    obtain ⟨l2, rfl⟩ := at_ hj
    have z := (Bool.and_eq_true_iff.mp (Bool.and_eq_true_iff.mp (all l)).2).1
    exact of_decide_eq_true (List.all_eq_true.mp z j (List.mem_range.mpr l2))
  · obtain ⟨l, rfl⟩ := at_ hi
    exact of_decide_eq_true (Bool.and_eq_true_iff.mp (Bool.and_eq_true_iff.mp (Bool.and_eq_true_iff.mp (all l)).2).2).1
  · obtain ⟨l, rfl⟩ := at_ hi
    exact of_decide_eq_true (Bool.and_eq_true_iff.mp (Bool.and_eq_true_iff.mp (Bool.and_eq_true_iff.mp (all l)).2).2).2
/-- the kit's hook, with one Bool more -/
def obsE (n : Nat) (fa : List He.Fa) (fn : List He.DefD) (g : Addr → Option Obj) : He.AlD × Bool := (He.obsD fa fn (He.frG g (He.asD g n)), errB (He.frG g (He.asD g n)))
def hookE (n : Nat) (fa : List He.Fa) (fn : List He.DefD) : PySem.W.Hook where
  α := He.AlD × Bool
  obs := fun s => obsE n fa fn s.heap.get?
  val := fun _ => (He.valD fn, true)
  says := fun _ h => ∃ K : PySem.W.Frag, K.In h ∧ He.SaysD fa fn K ∧ errB K = true
  of := fun _ _ e => ⟨_, He.frG_in, congrArg Prod.fst e, congrArg Prod.snd e⟩
  keeps := fun _ _ _ ⟨K, hK, c⟩ k => ⟨K, PySem.W.Frag.In.keeps hK k, c⟩
theorem obsE_eq {n : Nat} {fa : List He.Fa} {fn : List He.DefD} {g : Addr → Option Obj} {s : Shared} (h : ∀ a, g a = s.heap.get? a) : obsE n fa fn g = (hookE n fa fn).obs s := by
  have e : g = s.heap.get? := funext h
  rw [e] <;> rfl
/-! ### the word of a refusal -/
def spWord (a : Addr) (i : Nat) : Sp := fun vs H Q _ => vs = [.ref a] ∧ ∀ H', Ex H H' → Q (.str (words.getD i "")) H'
structure DefE (P : Program) (w : World) (K : PySem.W.Frag) (mg : Str → Option Value) (base : Heap) (k : Nat) (x : Str) (ps : List Str) (cl : List Addr) (f : Addr) (fd : FuncData) : Prop where
  ok : ∀ (p : Addr × Obj) (i : Nat) (D : Addr), cl[i]? = some D → Zc (.ref D) none p.2 → (∃ vs, p.2.data = .fields vs) → FnE P w K mg base (L2.CX P w) k f fd ps p (spWord p.1 i)
  b : Binds K fd ps []
  g : mg x = some (.ref f)
  kp : PySem.W.keepIn K (.ref f) = true
theorem hu64 {A : Around} {k : Nat} (r : L2H.RoomH k A) : A.units + 64 < cLine := by have := r.un; omega
/-- return f(e) in the suite of an except: what is wished of e -/
def tWord (cl : List Addr) (i : Nat) (a : Addr) (cls : Value) (d : Option Addr) : TS := fun D σ H => ∃ j C, cls = .ref C ∧ d = none ∧ cl[j]? = some C ∧ tRet (tCall (spWord a j) [] E0 (tCons (tVar i) tNil)) D σ H
theorem word_wish {cl : List Addr} {i j : Nat} {a C : Addr} {D : Ends} {σ : L2.St} {H : Hp} (hj : cl[j]? = some C) (hv : σ[i]? = some (some (.ref a))) (k : ∀ H', Ex H H' → D.rt (.str (words.getD j "")) H') : tWord cl i a (.ref C) none D σ H :=
  ⟨j, C, rfl, rfl, hj, _, hv, rfl, k⟩
section
variable {P : Program} {w : World} {K : PySem.W.Frag} {mg : Str → Option Value} {base : Heap}
theorem pss_word {X : Cx} {k i : Nat} {x n : Str} {ps : List Str} {cl : List Addr} {f : Addr} {fd : FuncData} {a : Addr} {oe : Obj} {pn : List (Addr × Obj)} {q q2 pos rp : Pos} {cls : Value} {d : Option Addr} (F : DefE X.prog X.w X.K X.mg X.base k x ps cl f fd) (hr : Room k X.A) (hg : Gl X x)
    (hz : Zc cls d oe) (hf : ∃ vs, oe.data = .fields vs) (hdb : (x == ("__debug__" : Str)) = false) (hN : X.N[i]? = some n) (hv : Vis X.env.scope n) (hd : (n == ("__debug__" : Str)) = false) (hcd : (n == ("__classdict__" : Str)) = false)
    (he : starEach [.Name n q2] X.env = (false, eval (.Name n q2) X.env) :: starEach [] X.env) : PSs (X.suite a ((a, oe) :: pn)) [.Return (some (.Call (.Name x q) [.Name n q2] [] pos)) rp] (tWord cl i a cls d) := by
  refine ⟨fun pins s σ H D I h => ?_⟩
  obtain ⟨j, C, rfl, rfl, hj, h⟩ := h
  have r : PSs (X.suite a ((a, oe) :: pn)) [.Return (some (.Call (.Name x q) [.Name n q2] [] pos)) rp] (tRet (tCall (spWord a j) [] E0 (tCons (tVar i) tNil))) :=
    pss_one (ps_ret (pe_callE (X := X.suite a ((a, oe) :: pn)) (F.ok (a, oe) j C hj hz hf) List.mem_cons_self ⟨hr.dp, hr.un⟩ hg F.g F.kp F.b (pa_cons (pv i (X := X.suite a ((a, oe) :: pn)) hN hv hd hcd) pa_nil) hdb he (by rfl)))
  exact r.run pins s σ H D I h
end
end Mx
namespace Mx
open PySem PySem.Spec PyProof.Rows L2 Evl
theorem ran_succ (i : Nat) : ran 0 (((i + 1 : Nat)) : Int) = ran 0 (i : Int) ++ [(i : Int)] := by
  have e1 : ((((i + 1 : Nat)) : Int) - 0).toNat = i + 1 := by omega
  have e2 : ((i : Int) - 0).toNat = i := by omega
  unfold ran
  rw [e1, e2, List.range_succ, List.map_append]
  simp
/-- the wares sorted out, or no set fits -/
def spTriedS (K : PySem.W.Frag) : Sp := fun vs H Q _ => ∃ (n m : Int) (p q : Addr) (plan : List (List Int)) (bs : List Bool), vs = [.int n, .ref p, .int m, .ref q] ∧ LL K H p plan ∧ LB K H q bs ∧
  okW n ∧ planB n plan = true ∧ okM m ∧ bs.length = plan.length ∧
  (fits n plan m bs ≠ [] → ∀ H' t a b c, Ex H H' → H' t = some (.tup [.ref a, .ref b, .ref c]) → NI H H' a (outS n (fits n plan m bs)) → NI H H' b (outG n (fits n plan m bs)) → NI H H' c (outL n (fits n plan m bs)) → a ≠ b → a ≠ c → b ≠ c → Q (.ref t) H') ∧
  (fits n plan m bs = [] → ∀ H', Ex H H' → Q (.str "fit") H')
def spDue (K : PySem.W.Frag) : Sp := fun vs H Q _ => ∃ (n : Int) (q : Addr) (fs : List (List Int)), vs = [.int n, .ref q] ∧ LL K H q fs ∧ okW n ∧ fs.length < 10000 ∧ fs ≠ [] ∧
  ∀ H' r a b c, Ex H H' → H r = none → H' r = some (.lst [.ref a, .ref b, .ref c]) → NI H H' a (outS n fs) → NI H H' b (outG n fs) → NI H H' c (outL n fs) → Q (.ref r) H'
end Mx
namespace Mx
open PySem PySem.Spec PyProof.Rows L2 Evl
/-- the three lists told, those before the i-th spoilt; the three due -/
structure SpInv (H9 : Hp) (t dr fa fb fc da db dc : Addr) (s g l : List Int) (i : Nat) (H' : Hp) : Prop where
  ex : Ex H9 H'
  t : H' t = some (.tup [.ref fa, .ref fb, .ref fc])
  r : H' dr = some (.lst [.ref da, .ref db, .ref dc])
  da : H' da = some (.lst (s.map V.int))
  db : H' db = some (.lst (g.map V.int))
  dc : H' dc = some (.lst (l.map V.int))
  fa : i ≤ 0 → H' fa = some (.lst (s.map V.int))
  fb : i ≤ 1 → H' fb = some (.lst (g.map V.int))
  fc : i ≤ 2 → H' fc = some (.lst (l.map V.int))
theorem SpInv.mono {H9 : Hp} {t dr fa fb fc da db dc : Addr} {s g l : List Int} {i : Nat} {H' H'' : Hp} (v : SpInv H9 t dr fa fb fc da db dc s g l i H') (e : Ex H' H'') : SpInv H9 t dr fa fb fc da db dc s g l i H'' :=
  ⟨v.ex.trans e, e _ _ v.t, e _ _ v.r, e _ _ v.da, e _ _ v.db, e _ _ v.dc, fun h => e _ _ (v.fa h), fun h => e _ _ (v.fb h), fun h => e _ _ (v.fc h)⟩
theorem lst_tup {H : Hp} {a b : Addr} {xs ys : List V} (h1 : H a = some (.lst xs)) (h2 : H b = some (.tup ys)) : a ≠ b := fun z => by
  rw [z, h2] at h1
  cases h1
theorem spoilt_step {H9 : Hp} {t dr fa fb fc da db dc : Addr} {s g l : List Int} {i : Nat} {H' : Hp} (hi : i < 3) (v : SpInv H9 t dr fa fb fc da db dc s g l i H') (fresh : H9 fa = none ∧ H9 fb = none ∧ H9 fc = none) (ab : fa ≠ fb) (ac : fa ≠ fc) (bc : fb ≠ fc)
    (nd : ∀ x, x = fa ∨ x = fb ∨ x = fc → x ≠ dr ∧ x ≠ da ∧ x ≠ db ∧ x ≠ dc) :
    ∃ x y xs, [fa, fb, fc][i]? = some x ∧ [da, db, dc][i]? = some y ∧ (xs = s ∨ xs = g ∨ xs = l) ∧ H' x = some (.lst (xs.map V.int)) ∧ H' y = some (.lst (xs.map V.int)) ∧
      ∀ H13, Ex H' H13 → SpInv H9 t dr fa fb fc da db dc s g l (i + 1) (upd H13 x (.lst (xs.map V.int ++ [.int 9]))) := by
  rcases (by omega : i = 0 ∨ i = 1 ∨ i = 2) with rfl | rfl | rfl
  · obtain ⟨n1, n2, n3, n4⟩ := nd fa (.inl rfl)
    have hx := v.fa (Nat.le_refl _)
    refine ⟨fa, da, s, rfl, rfl, .inl rfl, hx, v.da, fun H13 e => ?_⟩
    have w := v.mono e
    exact ⟨Ex.mut w.ex fresh.1, by rw [upd_ne (Ne.symm (lst_tup hx v.t))]; exact w.t, by rw [upd_ne (Ne.symm n1)]; exact w.r, by rw [upd_ne (Ne.symm n2)]; exact w.da, by rw [upd_ne (Ne.symm n3)]; exact w.db, by rw [upd_ne (Ne.symm n4)]; exact w.dc,
      fun h => absurd h (by omega), fun _ => by rw [upd_ne (Ne.symm ab)]; exact w.fb (by omega), fun _ => by rw [upd_ne (Ne.symm ac)]; exact w.fc (by omega)⟩
  · obtain ⟨n1, n2, n3, n4⟩ := nd fb (.inr (.inl rfl))
    have hx := v.fb (Nat.le_refl _)
    refine ⟨fb, db, g, rfl, rfl, .inr (.inl rfl), hx, v.db, fun H13 e => ?_⟩
    have w := v.mono e
    exact ⟨Ex.mut w.ex fresh.2.1, by rw [upd_ne (Ne.symm (lst_tup hx v.t))]; exact w.t, by rw [upd_ne (Ne.symm n1)]; exact w.r, by rw [upd_ne (Ne.symm n2)]; exact w.da, by rw [upd_ne (Ne.symm n3)]; exact w.db, by rw [upd_ne (Ne.symm n4)]; exact w.dc,
      fun h => absurd h (by omega), fun h => absurd h (by omega), fun _ => by rw [upd_ne (Ne.symm bc)]; exact w.fc (by omega)⟩
  · obtain ⟨n1, n2, n3, n4⟩ := nd fc (.inr (.inr rfl))
    have hx := v.fc (Nat.le_refl _)
    refine ⟨fc, dc, l, rfl, rfl, .inr (.inr rfl), hx, v.dc, fun H13 e => ?_⟩
    have w := v.mono e
    exact ⟨Ex.mut w.ex fresh.2.2, by rw [upd_ne (Ne.symm (lst_tup hx v.t))]; exact w.t, by rw [upd_ne (Ne.symm n1)]; exact w.r, by rw [upd_ne (Ne.symm n2)]; exact w.da, by rw [upd_ne (Ne.symm n3)]; exact w.db, by rw [upd_ne (Ne.symm n4)]; exact w.dc,
      fun h => absurd h (by omega), fun h => absurd h (by omega), fun h => absurd h (by omega)⟩
end Mx
namespace Mx
open PySem PySem.Spec PyProof.Rows L2 Evl
def spTriedT (K : PySem.W.Frag) : Sp := fun vs H Q _ => ∃ (n m : Int) (p : Addr) (plan : List (List Int)), vs = [.int n, .ref p, .int m] ∧ LL K H p plan ∧ okW n ∧ planB n plan = true ∧ okM m ∧
  (clashOf n plan m = none → ∀ H' r as, Ex H H' → NLL H H' r as (thin n m plan) → Q (.ref r) H') ∧ (clashOf n plan m ≠ none → ∀ H', Ex H H' → Q (.str "told") H')
end Mx
/-! texts of figures -/
namespace Mx
open PySem PySem.Spec PyProof.Rows L2 Evl
def mk (l : List Nat) : Str := ⟨l.toArray⟩
theorem mk_tl (x : Str) : mk x.cps.toList = x := by
  obtain ⟨c⟩ := x
  rfl
theorem tl_mk (l : List Nat) : (mk l).cps.toList = l := rfl
theorem mk_inj {a b : List Nat} (h : mk a = mk b) : a = b := by
  have := congrArg (fun x : Str => x.cps.toList) h
  exact this
theorem mk_len (l : List Nat) : (mk l).length = l.length := List.size_toArray
theorem mk_app (a b : List Nat) : mk a ++ mk b = mk (a ++ b) := by
  have h : (mk a ++ mk b).cps.toList = a ++ b := by
    show ((mk a).cps ++ (mk b).cps).toList = _
    rw [Array.toList_append]
    rfl
  rw [← mk_tl (mk a ++ mk b), h]
def jn (s : List Nat) : List (List Nat) → List Nat
  | [] => []
  | [x] => x
  | x :: y :: r => x ++ s ++ jn s (y :: r)
theorem str_join (s : List Nat) : ∀ l : List (List Nat), Str.join (mk s) (l.map mk) = mk (jn s l)
  | [] => rfl
  | [x] => rfl
  | x :: y :: r => by
    have ih := str_join s (y :: r)
    show mk x ++ mk s ++ Str.join (mk s) ((y :: r).map mk) = _
    rw [ih, mk_app, mk_app]
    rfl
theorem txt_join (s : List Nat) (l : List (List Nat)) : Txt.join (mk s) (l.map mk) = mk (jn s l) := by
  show Builtin.Str.glued _ _ = _
  rw [StrLaws.glued_eq_join, str_join]
theorem jn_flat : ∀ l : List (List Nat), jn [] l = l.flatten
  | [] => rfl
  | [x] => by simp [jn]
  | x :: y :: r => by
    have ih := jn_flat (y :: r)
    show x ++ [] ++ jn [] (y :: r) = _
    rw [ih, List.append_nil]
    rfl
theorem jn_cons {s x : List Nat} : ∀ {l : List (List Nat)}, l ≠ [] → jn s (x :: l) = x ++ s ++ jn s l
  | [], h => absurd rfl h
  | _ :: _, _ => rfl
theorem jn_snoc {s x : List Nat} : ∀ {l : List (List Nat)}, l ≠ [] → jn s (l ++ [x]) = jn s l ++ s ++ x
  | [], h => absurd rfl h
  | [a], _ => rfl
  | a :: b :: r, _ => by
    have ih := jn_snoc (s := s) (x := x) (l := b :: r) (by simp)
    show a ++ s ++ jn s ((b :: r) ++ [x]) = _
    rw [ih]
    show _ = a ++ s ++ jn s (b :: r) ++ s ++ x
    simp [List.append_assoc]
theorem app_inj {c : Nat} : ∀ {a b x y : List Nat}, c ∉ a → c ∉ b → a ++ c :: x = b ++ c :: y → a = b ∧ x = y
  | [], [], _, _, _, _, h => ⟨rfl, (List.cons.inj h).2⟩
  | [], d :: b, _, _, _, hb, h => absurd ((List.cons.inj h).1 ▸ List.mem_cons_self) hb
  | d :: a, [], _, _, ha, _, h => absurd ((List.cons.inj h).1.symm ▸ List.mem_cons_self) ha
  | d :: a, e :: b, x, y, ha, hb, h => by
    obtain ⟨h1, h2⟩ := List.cons.inj h
    obtain ⟨h3, h4⟩ := app_inj (fun z => ha (List.mem_cons_of_mem _ z)) (fun z => hb (List.mem_cons_of_mem _ z)) h2
    exact ⟨by rw [h1, h3], h4⟩
theorem jn_inj {c : Nat} : ∀ {l l' : List (List Nat)}, l ≠ [] → l' ≠ [] → (∀ x ∈ l, c ∉ x) → (∀ x ∈ l', c ∉ x) → jn [c] l = jn [c] l' → l = l'
  | [], _, h, _, _, _, _ => absurd rfl h
  | _, [], _, h, _, _, _ => absurd rfl h
  | [x], [y], _, _, _, _, h => by
    have h' : x = y := h
    rw [h']
  | [x], y :: z :: r, _, _, hx, _, h => by
    have h' : x = y ++ [c] ++ jn [c] (z :: r) := h
    exact absurd (by rw [h']; simp) (hx x List.mem_cons_self)
  | y :: z :: r, [x], _, _, _, hx, h => by
    have h' : y ++ [c] ++ jn [c] (z :: r) = x := h
    exact absurd (by rw [← h']; simp) (hx x List.mem_cons_self)
  | x :: x2 :: r, y :: y2 :: r', _, _, hx, hy, h => by
    have h' : x ++ [c] ++ jn [c] (x2 :: r) = y ++ [c] ++ jn [c] (y2 :: r') := h
    rw [List.append_assoc, List.append_assoc] at h'
    obtain ⟨h1, h2⟩ := app_inj (hx x List.mem_cons_self) (hy y List.mem_cons_self) h'
    rw [h1, jn_inj (by simp) (by simp) (fun z hz => hx z (List.mem_cons_of_mem _ hz)) (fun z hz => hy z (List.mem_cons_of_mem _ hz)) h2]
theorem split_jn {c : Nat} {l : List (List Nat)} (hne : l ≠ []) (hf : ∀ x ∈ l, c ∉ x) : Txt.split (mk (jn [c] l)) ⟨#[c]⟩ = l.map mk := by
  have e1 := StrLaws.join_split (mk (jn [c] l)) ⟨#[c]⟩
  have e2 := StrLaws.split_free (mk (jn [c] l)) c
  have e3 := split_pos (mk (jn [c] l)) ⟨#[c]⟩
  generalize Txt.split (mk (jn [c] l)) ⟨#[c]⟩ = ws at e1 e2 e3
  have ew : ws = (ws.map fun x => x.cps.toList).map mk := by
    rw [List.map_map]
    have : (mk ∘ fun x : Str => x.cps.toList) = id := funext fun x => mk_tl x
    rw [this, List.map_id]
  rw [ew] at e1
  have e4 := str_join [c] (ws.map fun x => x.cps.toList)
  have e5 : mk (jn [c] (ws.map fun x => x.cps.toList)) = mk (jn [c] l) := e4.symm.trans e1
  have e6 := jn_inj (c := c) (l := ws.map fun x => x.cps.toList) (l' := l) (fun z => by
    have := congrArg List.length z
    rw [List.length_map, List.length_nil] at this
    omega) hne (fun x hx => by
      obtain ⟨y, hy, rfl⟩ := List.mem_map.mp hx
      exact e2 y hy) hf (mk_inj e5)
  rw [ew, e6]
/-! ### figures -/
def fig (x : Int) : Nat := 48 + x.toNat
def mixC (m : List Int) : List Nat := m.map fig
def textC (plan : List (List Int)) : List Nat := jn [32] (plan.map mixC)
theorem fig_all : ∀ k : Fin 8, Str.ofString (toString ((k.val : Nat) : Int)) = mk [48 + k.val] := by decide +kernel
theorem str_fig {x : Int} (h0 : 0 ≤ x) (h1 : x < 8) : (Str.ofString (toString x)) = mk [fig x] := by
  obtain ⟨k, rfl⟩ := fin_of (n := 8) h0 (by omega)
  exact fig_all k
theorem occ_all : ∀ k : Fin 8, Builtin.Str.occurrences (mk [48, 49, 50, 51, 52, 53, 54, 55]) (mk [48 + k.val]) 0 8 1 = [k.val] := by decide +kernel
theorem figures_eq : ("01234567" : Str) = mk [48, 49, 50, 51, 52, 53, 54, 55] := by decide +kernel
theorem blank_eq : (" " : Str) = mk [32] := by decide +kernel
theorem empty_eq : ("" : Str) = mk [] := by decide +kernel
theorem mixC_flat (m : List Int) : jn [] (m.map fun x => [fig x]) = mixC m := by
  rw [jn_flat]
  unfold mixC
  induction m with
  | nil => rfl
  | cons x r ih => rw [List.map_cons, List.flatten_cons, ih]; rfl
end Mx
namespace Mx
open PySem PySem.Spec PyProof.Rows L2 Evl
section
variable {K : PySem.W.Frag} {H H' : Hp} {σ : L2.St}
def rJoinS (K : PySem.W.Frag) : V → List V → Hp → VK → Prop := fun x xs H Q => ∃ a p, ∃ ys : List Str, x = .str a ∧ xs = [.ref p] ∧ (SqL K H p (ys.map V.str) ∨ SqT K H p (ys.map V.str)) ∧ (ys.map (·.length)).sum + ys.length * a.length ≤ 16777216 ∧ Q (.str (Txt.join a ys)) H
def rStrI : List V → Hp → VK → Prop := fun xs H Q => ∃ i, xs = [.int i] ∧ i.natAbs.log2 < 1920 ∧ Q (.str (toString i)) H
def rIndexS : V → List V → Hp → VK → Prop := fun x xs H Q => ∃ a b i rest, x = .str a ∧ xs = [.str b] ∧ Builtin.Str.occurrences a b 0 a.length 1 = i :: rest ∧ Q (.int (i : Nat)) H
theorem ev_join {te : TE} {sep : Str} {s : List Nat} {l : List (List Nat)} (hs : sep = mk s) (h : EvL te σ H (l.map fun x => V.str (mk x))) (hz : (l.map List.length).sum + l.length * s.length ≤ 16777216) : Ev (tM1 (rJoinS K) (tC (.str sep)) te) σ H (.str (mk (jn s l))) := fun H1 e Q q =>
  ⟨⟨sep, rfl⟩, h H1 e _ fun p H2 _ e2 h2 => ⟨sep, p, l.map mk, rfl, rfl, .inl (sq_of (by rw [h2, List.map_map]; rfl)), by
    rw [hs, List.map_map, List.length_map, mk_len]
    have : (l.map ((fun x : Str => x.length) ∘ mk)) = l.map List.length := List.map_congr_left fun x _ => mk_len x
    rw [this]
    exact hz, by rw [hs, txt_join]; exact q H2 e2⟩⟩
theorem ev_strI {te : TE} {x : Int} (h : Ev te σ H (.int x)) (h0 : 0 ≤ x) (h1 : x < 8) : Ev (tCB rStrI (tCons te tNil)) σ H (.str (mk [fig x])) := fun H1 e Q q =>
  h H1 e _ fun H2 e2 => ⟨x, rfl, by
    have : x.natAbs < 8 := by omega
    have : x.natAbs.log2 ≤ x.natAbs := Nat.log2_le_self _
    omega, by rw [str_fig h0 h1]; exact q H2 e2⟩
theorem wk_str {te : TE} {cs : List Nat} (h : Ev te σ H (.str (mk cs))) : Wk (iStr te) σ H (cs.map fun c => V.str ⟨#[c]⟩) := fun H1 e R k =>
  h H1 e _ fun H2 e2 => ⟨mk cs, rfl, k _ _ e2 fun i H' e' => by
    refine ⟨fun x hx => ?_, fun hi => ?_⟩
    · rw [List.getElem?_map] at hx
      cases hc : cs[i]? with
      | none => rw [hc] at hx; cases hx
      | some c =>
        rw [hc] at hx
        have hx' : V.str ⟨#[c]⟩ = x := Option.some.inj hx
        have hl := (List.getElem?_eq_some_iff.mp hc).1
        refine ⟨?_, fun y H'' hy => ?_⟩
        · show i < (mk cs).cps.size
          rw [show (mk cs).cps.size = cs.length from List.size_toArray]
          exact hl
        · obtain ⟨rfl, c', hc', rfl⟩ := hy
          refine ⟨rfl, ?_⟩
          have : cs[i]? = some c' := by
            rw [← hc', show (mk cs).cps = cs.toArray from rfl, List.getElem?_toArray]
          rw [hc] at this
          rw [← hx', Option.some.inj this]
    · rw [List.length_map] at hi
      show (mk cs).cps.size ≤ i
      rw [show (mk cs).cps.size = cs.length from List.size_toArray]
      exact hi⟩
theorem q_forS {te : TE} {cs : List Nat} {j : Nat} {tu tz : TS} {D : Ends} (h : Ev te σ H (.str (mk cs))) (Pv : Nat → L2.St → Hp → Prop) (h0 : ∀ H1, Ex H H1 → Pv 0 σ H1)
    (hs : ∀ i c σ' H', cs[i]? = some c → Pv i σ' H' → tu { D with nx := Pv (i + 1), ct := Pv (i + 1), bk := tz D } (σ'.set j (some (.str ⟨#[c]⟩))) H') (hd : ∀ σ' H', Pv cs.length σ' H' → tz D σ' H') : tSeq (tFor (iStr te) (gName j) tu) tz D σ H :=
  h H (Ex.refl H) _ fun H1 e => ⟨mk cs, rfl, by
    have hsz : (mk cs).cps.size = cs.length := List.size_toArray
    refine ⟨fun i m σ' H' => m = cs.length - i ∧ i ≤ cs.length ∧ Pv i σ' H', ⟨_, rfl, Nat.zero_le _, h0 H1 e⟩, ?_⟩
    rintro i m σ' H' ⟨rfl, hi, hp⟩
    by_cases hlt : i < cs.length
    · refine .inr ⟨?_, Pv (i + 1), fun σ'' H'' z => ⟨cs.length - (i + 1), by omega, rfl, hlt, z⟩, fun x H'' hy => ?_⟩
      · show i < (mk cs).cps.size
        omega
      · obtain ⟨rfl, c, hc, rfl⟩ := hy
        have hc' : cs[i]? = some c := by rw [← hc, show (mk cs).cps = cs.toArray from rfl, List.getElem?_toArray]
        exact hs i c σ' H'' hc' hp
    · have hin : i = cs.length := by omega
      subst hin
      refine .inl ⟨?_, hd _ _ hp⟩
      show (mk cs).cps.size ≤ cs.length
      omega⟩
theorem mem_fig (c : Nat) : (c ∈ ("01234567" : Str).cps.toList) ↔ (48 ≤ c ∧ c < 56) := by
  rw [figures_eq, tl_mk]
  simp
  omega
theorem rv_niSign {c : Nat} : RV (fun x y H Q => ∃ (c : Nat) (z : Str), x = .str ⟨#[c]⟩ ∧ y = .str z ∧ Q (.bl (!decide (c ∈ z.cps.toList))) H) (.str ⟨#[c]⟩) (.str "01234567") H (.bl (!decide (48 ≤ c ∧ c < 56))) := fun H1 e Q q =>
  ⟨c, "01234567", rfl, rfl, by
    rw [show decide (c ∈ ("01234567" : Str).cps.toList) = decide (48 ≤ c ∧ c < 56) from decide_eq_decide.mpr (mem_fig c)]
    exact q H1 (Ex.refl H1)⟩
def wareOf (c : Nat) : Int := (c : Int) - 48
theorem wareOf_fig {x : Int} (h : 0 ≤ x) : wareOf (fig x) = x := by
  unfold wareOf fig
  omega
theorem ev_index {te : TE} {c : Nat} (h : Ev te σ H (.str ⟨#[c]⟩)) (h0 : 48 ≤ c) (h1 : c < 56) : Ev (tM1 rIndexS (tC (.str "01234567")) te) σ H (.int (wareOf c)) := fun H1 e Q q =>
  ⟨⟨_, rfl⟩, h H1 e _ fun H2 e2 => ⟨"01234567", ⟨#[c]⟩, c - 48, [], rfl, rfl, by
    have o := occ_all ⟨c - 48, by omega⟩
    rw [figures_eq, mk_len]
    have ec : mk [48 + (c - 48)] = ⟨#[c]⟩ := by rw [show 48 + (c - 48) = c by omega]; rfl
    rw [← ec]
    exact o, by
    have : ((c - 48 : Nat) : Int) = wareOf c := by unfold wareOf; omega
    rw [this]
    exact q H2 e2⟩⟩
end
theorem sum8 : ∀ plan : List (List Int), (∀ m ∈ plan, m.length ≤ 8) → ((plan.map mixC).map List.length).sum ≤ 8 * plan.length
  | [], _ => Nat.le_refl _
  | m :: r, h => by
    have ih := sum8 r fun x hx => h x (List.mem_cons_of_mem _ hx)
    have h1 := h m List.mem_cons_self
    rw [List.map_cons, List.map_cons, List.sum_cons, List.length_cons]
    have : (mixC m).length = m.length := List.length_map _
    omega
theorem sum1 (m : List Int) : ((m.map fun x => [fig x]).map List.length).sum = m.length := by
  induction m with
  | nil => rfl
  | cons x r ih =>
    rw [List.map_cons, List.map_cons, List.sum_cons, ih]
    show 1 + r.length = r.length + 1
    omega
/-- a good plan's mixtures -/
theorem good_mix {n : Int} {plan : List (List Int)} (ok : okW n) (gp : planB n plan = true) {m : List Int} (hm : m ∈ plan) : m ≠ [] ∧ m.length ≤ 8 ∧ isSetB n m = true ∧ ∀ x ∈ m, 0 ≤ x ∧ x < 8 := by
  have h := goodMix_iff.mp ((planB_iff.mp gp).2 m hm)
  have okn : 1 ≤ n ∧ n ≤ 8 := ok
  refine ⟨h.1, by have := isSetB_len h.2; omega, h.2, fun x hx => ?_⟩
  have := (isSetB_iff.mp h.2).2 x hx
  omega
theorem mixC_ware {m : List Int} (h : ∀ x ∈ m, 0 ≤ x ∧ x < 8) : (mixC m).map wareOf = m := by
  unfold mixC
  rw [List.map_map]
  conv => rhs; rw [← List.map_id m]
  exact List.map_congr_left fun x hx => wareOf_fig (h x hx).1
theorem mixC_fig {m : List Int} (h : ∀ x ∈ m, 0 ≤ x ∧ x < 8) : ∀ c ∈ mixC m, 48 ≤ c ∧ c < 56 := fun c hc => by
  obtain ⟨x, hx, rfl⟩ := List.mem_map.mp hc
  have := h x hx
  unfold fig
  omega
def goodW (n : Int) (cs : List Nat) : Prop := (∀ c ∈ cs, 48 ≤ c ∧ c < 56) ∧ cs ≠ [] ∧ isSetB n (cs.map wareOf) = true
def spShown (K : PySem.W.Frag) (CW CP : Addr) : Sp := fun vs H Q E => ∃ (n : Int) (p : Addr) (plan : List (List Int)), vs = [.int n, .ref p] ∧ LL K H p plan ∧
  (okW n → planB n plan = true → ∀ H', Ex H H' → Q (.str (mk (textC plan))) H') ∧ (¬ okW n → ∀ H', Ex H H' → E (.ref CW) none H') ∧ (okW n → planB n plan = false → ∀ H', Ex H H' → E (.ref CP) none H')
def spMixOf (CN : Addr) : Sp := fun vs H Q E => ∃ (n : Int) (cs : List Nat), vs = [.int n, .str (mk cs)] ∧ cs.length < 10000 ∧
  (goodW n cs → ∀ H' r, Ex H H' → NI H H' r (cs.map wareOf) → Q (.ref r) H') ∧ (¬ goodW n cs → ∀ H', Ex H H' → E (.ref CN) none H')
def spReadG : Sp := fun vs H Q _ => ∃ (n : Int) (plan : List (List Int)), vs = [.int n, .str (mk (textC plan))] ∧ okW n ∧ planB n plan = true ∧ ∀ H' r as, Ex H H' → NLL H H' r as plan → Q (.ref r) H'
end Mx
namespace Mx
theorem len_jn : ∀ l : List (List Nat), (jn [32] l).length ≤ (l.map List.length).sum + l.length
  | [] => Nat.zero_le _
  | [x] => by
    show x.length ≤ _
    simp
  | x :: y :: r => by
    have ih := len_jn (y :: r)
    show (x ++ [32] ++ jn [32] (y :: r)).length ≤ _
    rw [List.length_append, List.length_append, List.map_cons, List.sum_cons, List.length_cons (as := y :: r)]
    simp only [List.length_cons, List.length_nil] at ih ⊢
    omega
end Mx
namespace Mx
open PySem PySem.Spec PyProof.Rows L2 Evl
theorem rv_cat {H : Hp} {x y : Str} {a b : List Nat} (hx : x = mk a) (hy : y = mk b) (hz : a.length + b.length ≤ 100000) : RV (fun x y H Q => ∃ i j, x = .str i ∧ y = .str j ∧ i.length + j.length ≤ sizeLine ∧ Q (.str (i ++ j)) H) (.str x) (.str y) H (.str (mk (a ++ b))) := fun H1 e Q q =>
  ⟨x, y, rfl, rfl, by rw [hx, hy, mk_len, mk_len]; exact sz_of hz, by rw [hx, hy, mk_app]; exact q H1 (Ex.refl H1)⟩
theorem fig_at : ∀ k : Fin 8, ("01234567" : Str).cps.toList[k.val]? = some (48 + k.val) := by decide +kernel
theorem rv_fig {H : Hp} {x : Int} (h0 : 0 ≤ x) (h1 : x < 8) : RV rIxS (.str "01234567") (.int x) H (.str (mk [fig x])) := by
  obtain ⟨k, rfl⟩ := fin_of (n := 8) h0 (by omega)
  exact rv_ixS (by decide +kernel) (atI_nat (fig_at k))
theorem jn_take {plan : List (List Int)} {i : Nat} {m : List Int} (h : plan[i]? = some m) : jn [32] ((plan.take (i + 1)).map mixC) = (if i = 0 then [] else jn [32] ((plan.take i).map mixC) ++ [32]) ++ mixC m := by
  rw [take_at h, List.map_append]
  by_cases hi : i = 0
  · subst hi
    rw [if_pos rfl, List.take_zero]
    rfl
  · rw [if_neg hi]
    have hl := (List.getElem?_eq_some_iff.mp h).1
    have hne : (plan.take i).map mixC ≠ [] := fun z => by
      have := congrArg List.length z
      rw [List.length_map, List.length_take, List.length_nil] at this
      omega
    show jn [32] ((plan.take i).map mixC ++ [mixC m]) = _
    rw [jn_snoc hne]
theorem len_take {plan : List (List Int)} (h : ∀ m ∈ plan, m.length ≤ 8) (hl : plan.length ≤ 12) (i : Nat) : (jn [32] ((plan.take i).map mixC)).length ≤ 108 := by
  have h1 := len_jn ((plan.take i).map mixC)
  have h2 := sum8 (plan.take i) fun m hm => h m (List.mem_of_mem_take hm)
  have h3 : (plan.take i).length ≤ plan.length := List.length_take_le' _ _
  rw [List.length_map] at h1
  omega
end Mx
/-! own layer: a list comprehension whose element may let an exception out -/
namespace Mx
open PySem PySem.Spec PyProof.Rows L2 Evl
/-- behind a comprehension's block: as the library's, the exception's road by the block's own frame -/
def cpF (M : Model) (A : Around) (E : Value → Shared → Prop) (Q : Value → Shared → Prop) (acc : Value) (cenv : Env) (r : Result) (s' : Shared) : Prop :=
  match r with
  | .ok _ => ∃ m, s'.heap.Ns cenv.locals m ∧ ∀ h', Heap.SameBut cenv.locals s'.heap h' → Q acc { s' with heap := h' }
  | .error x => ∃ m, s'.heap.Ns cenv.locals m ∧ ∀ h', Heap.SameBut cenv.locals s'.heap h' → ∀ cv : Env, cv.locals = cenv.locals → cv.frame = cenv.frame → wpAny M A (passOn "comprehension.variables-let-go" x cv : Sem Value) (fun _ _ => False) E { s' with heap := h' }
theorem comp_freeF {M : Model} {A : Around} {E : Value → Shared → Prop} {s : Shared} {env : Env} {e : Expr} {scope : Scope} {pos : Pos} {newAcc first : Sem Value} {g : Comprehension} {gs : List Comprehension} {cl : List (Str × Addr)} {Q : Value → Shared → Prop}
    (hcl : clausesOf e = g :: gs) (hs : ∀ x, foldedSetIterable g.iter env x = pure x) (hclos : closureFor scope env = pure cl)
    (hkind : scope.kind = .function) (hnames : ∀ x ∈ scope.names, x.2 = .local → scope.names.lookup x.1 = some .local)
    (h : wpAny M A first (fun x s₁ => wpAny M A (pyIter x) (fun it s₂ => wpAny M A newAcc (fun acc s₃ =>
      wpAny M A (newFunctionEnv scope env.globals cl [] env.qual none .none (some env)) (fun cenv s₄ =>
        codeAny M A (.compStart e 0 it acc { cenv with scope := relabel scope env }) (cpF M A E Q acc cenv) s₄) E s₃) E s₂) E s₁) E s) :
    wpAny M A (comprehension e scope env pos newAcc false first none) Q E s := by
  unfold comprehension
  rw [hclos, hcl]
  refine wpAny_bind (wpAny_mono h (fun x s₁ h₁ => wpAny_bind (wpAny_standAt (wpAny_bind (wpAny_of_eq (hs x) (wpAny_bind (wpAny_holding (wpAny_mono h₁ (fun it s₂ h₂ =>
    wpAny_standIf (wpAny_bind (wpAny_mono h₂ (fun acc s₃ h₃ => wpAny_bind (wpAny_pure (wpAny_bind (wpAny_mono h₃ (fun cenv s₄ h₄ => ?_) fun _ _ h' => h')))) fun _ _ h' => h')))
      fun _ _ h' => h'))))))) fun _ _ h' => h')
  dsimp only
  have lk : ∀ x ∈ (scope.names.filter fun x => (x.2 == .local || x.2 == .cell) && x.1 != (".0" : Str)).reverse, x.2 = .local →
      Env.kindOf { cenv with scope := relabel scope env } x.1 = some .local := fun x hx hl => lookup_relabel_local (hnames x (List.mem_filter.mp (List.mem_reverse.mp hx)).1 hl)
  refine wpAny_holding (wpAny_bind (wpAny_attempt (wpAny_holding (wpAny_run (codeAny_mono h₄ fun r s' hr => ?_)))))
  cases r with
  | ok f =>
    obtain ⟨m, hn, hr⟩ := hr
    exact wpAny_bind (wpAny_holding (wpAny_comp_letGo (cenv := { cenv with scope := relabel scope env }) hkind _ s' m lk hn fun h' m' _ hs' => wpAny_pure (hr h' hs')))
  | error x =>
    obtain ⟨m, hn, hr⟩ := hr
    exact wpAny_bind (wpAny_holding (wpAny_comp_letGo (cenv := { cenv with scope := relabel scope env }) hkind _ s' m lk hn fun h' m' _ hs' => wpAny_mono (hr h' hs' _ rfl rfl) (fun _ _ f => f.elim) fun _ _ y => y))
end Mx
namespace Mx
open PySem PySem.Spec PyProof.Rows L2 Evl
section
variable {X : Cx} {W : WX} {E : XK} {pins pins9 : List (Addr × Obj)} {σ σ8 : L2.St} {H3 H9 : Hp} {s3 s9 s' : Shared} {scope : Scope} {ce cenv : Env} {fp : List Addr} {E' E1 : Value → Shared → Prop} {Q : Value → Shared → Prop} {acc e : Value}
theorem ff_but {h h' base : Heap} {C : Addr} (hC : ∃ o, base.get? C = some o) (k : ∀ b, b ≠ C → h'.get? b = h.get? b) : ∀ {l : List Env}, h.FunFrames base l → h'.FunFrames base l
  | [], _ => trivial
  | env :: l, ⟨hk, ⟨L, o, hf, hb, ho, hd⟩, hr⟩ => ⟨hk, ⟨L, o, hf, hb, (k L fun z => by
      obtain ⟨oc, hc⟩ := hC
      rw [z, hc] at hb
      cases hb).trans ho, hd⟩, ff_but hC k hr⟩
theorem ff_none {h base : Heap} : ∀ {l : List Env}, h.FunFrames base l → ∀ L ∈ frs l, base.get? L = none
  | [], _, L, hL => nomatch hL
  | env :: l, ⟨hk, ⟨L0, o, hf, hb, ho, hd⟩, hr⟩, L, hL => by
    have hL' : L ∈ (env :: l).filterMap (·.frame) := hL
    rw [List.filterMap_cons, hf] at hL'
    rcases List.mem_cons.mp hL' with rfl | z
    · exact hb
    · exact ff_none hr L z
/-- an exception of the element, out of the block -/
theorem lcx_out (hs : X.stack = X.env :: X.outer) (hf : X.env.frame = some X.env.locals) (tk : Takes X W) (hW : ∀ cls d H, E cls d H → W cls d σ H)
    (I3 : Inv X pins σ H3 s3) (hL : ce.locals = s3.heap.objs.size) (hfr : ce.frame = X.env.frame) (hcL : cenv.locals = s3.heap.objs.size) (hcf : cenv.frame = X.env.frame)
    (f3 : ∀ b ∈ fp, FpOk X pins H3 b ∧ b < s3.heap.objs.size)
    (I9 : Inv { X.blk s3 H3 scope ce fp with xe := E' } pins9 σ8 H9 s9) (c : L2.CX X.prog X.w X.stack H9 s9 E e s') :
    wpAny (model X.prog X.w) X.A (noteFrame e ce) (fun _ s'' => cpF (model X.prog X.w) X.A X.xe Q acc cenv (.error e) s'') E1 s' := by
  obtain ⟨a, B, H', cls, d, rfl, fl, hok, ub, na, os, ag, hE⟩ := c
  have st : B.StaysIn s'.heap := fl.1
  have frx : X.A.frames = some (X.env :: X.outer) := by rw [I3.ok.frames, hs]
  -- C, the block's own
  have nC3 : s3.heap.get? s3.heap.objs.size = none := by
    cases q : s3.heap.get? s3.heap.objs.size with
    | none => rfl
    | some o => exact absurd (Heap.lt_size q) (Nat.lt_irrefl _)
  have ncf : s3.heap.objs.size ∉ frs X.stack := fun hm => by
    obtain ⟨_, o, ho, _⟩ := I3.stack.mem hm
    rw [nC3] at ho
    cases ho
  obtain ⟨m, hns, _⟩ := I9.loc
  have hns : s9.heap.Ns s3.heap.objs.size m := by
    have z : s9.heap.Ns ce.locals m := hns
    rw [hL] at z
    exact z
  have nC9 : H9 s3.heap.objs.size = none := by
    have z : H9 ce.locals = none := I9.free
    rw [hL] at z
    exact z
  obtain ⟨oC, es, ep, hC9, hCd, hsk, hfind⟩ := hns
  have hCB : B.get? s3.heap.objs.size = some oC := ub.keep _ _ hC9 nC9 ncf
  generalize hCe : s3.heap.objs.size = C at *
  -- the def's state
  obtain ⟨G, g1, g2⟩ := restrict s'.heap fun b => (B.get? b).isSome || decide (b ∈ frs X.stack)
  have gB : ∀ b o, B.get? b = some o → G.get? b = some o := fun b o e => by
    rw [g1 b (by simp [e])]
    exact st b o e
  have gF : ∀ b, b ∈ frs X.stack → G.get? b = s'.heap.get? b := fun b hb => g1 b (by simp [hb])
  have og : ∀ b o, G.get? b = some o → s'.heap.get? b = some o ∧ ((B.get? b).isSome = true ∨ b ∈ frs X.stack) := fun b o e => by
    cases q : ((B.get? b).isSome || decide (b ∈ frs X.stack)) with
    | false => rw [g2 b q] at e; cases e
    | true =>
      rw [g1 b q] at e
      exact ⟨e, by simpa [Bool.or_eq_true] using q⟩
  have U : Un (frs X.stack) fp H9 H' s9.heap G := by
    refine ⟨fun b o e n hb _ => gB b o (ub.keep b o e n hb), fun b o e n hb _ => ?_, fun b o e n _ => ub.free b o e n, fun b o e _ => ?_, ub.tups, ub.frzs, ub.tbls⟩
    · obtain ⟨sl, q⟩ := ub.slot b o e hb
      exact ⟨sl, by rw [gF b hb]; exact q⟩
    · by_cases hb : b ∈ frs X.stack
      · obtain ⟨sl, q⟩ := ub.slot b o e hb
        exact ⟨_, by rw [gF b hb]; exact q⟩
      · obtain ⟨o', q⟩ := ub.there b o e hb
        exact ⟨o', gB b o' q⟩
  have base9 : Un (frs X.stack) fp H3 H9 s3.heap s9.heap := I9.base
  have I1 : Inv X pins σ H' { s9 with heap := G, gens := s'.gens, drawn := s'.drawn, toks := s'.toks } := I3.call' (ch := fp) I9.os (base9.trans U) (hok.kept gB) ag
    fun b hb => ⟨(f3 b hb).1.2.2.2.1, (f3 b hb).1.2.1, (f3 b hb).1.2.2.2.2.1, (f3 b hb).1.2.2.2.2.2⟩
  obtain ⟨f0, f1, f2, f4, f5, f6⟩ := I3.fpOk (H' := H') (b := C) (Nat.le_of_eq hCe) (ub.free _ _ hC9 nC9)
  obtain ⟨G2, k1, k2⟩ := restrict G fun b => !decide (b = C)
  have I2 : Inv X pins σ H' { s9 with heap := G2, gens := s'.gens, drawn := s'.drawn, toks := s'.toks } := I1.turned (t' := s'.toks) (fun b o hb e => by rw [k1 b (by simp [hb])]; exact e) f0 f1 f4 f5 f6
  obtain ⟨B2, b1, b2⟩ := restrict B fun b => !decide (b = C)
  have bB : ∀ b o, B2.get? b = some o → B.get? b = some o ∧ b ≠ C := fun b o e => by
    by_cases q : b = C
    · rw [b2 b (by simp [q])] at e
      cases e
    · rw [b1 b (by simp [q])] at e
      exact ⟨e, q⟩
  -- the note
  have en : noteFrame (.ref a) ce = noteFrame (.ref a) X.env := by
    unfold noteFrame PySem.frameOf
    rw [hfr]
  rw [en]
  rw [hs] at fl
  refine HandSPX.looks_onZ Zc.steady frx hf fl fun h1 hd1 up1 => ?_
  obtain ⟨q1, q2, q3, oe, vs, T, oT, ts, he, hz, hd, hv1, hBT, hTe, hT, hdT, hts⟩ := hd1
  refine ⟨m, by rw [hcL]; exact ⟨oC, es, ep, q1 _ _ hCB, hCd, hsk, hfind⟩, fun h2 sb cv hcv hcvf => ?_⟩
  rw [hcL] at sb
  have aC : a ≠ C := fun z => by rw [z, hCB] at q2; cases q2
  have TC : T ≠ C := fun z => by rw [z, hCB] at hBT; cases hBT
  have he2 : h2.get? a = some oe := (sb.2 a aC).trans he
  have hT2 : h2.get? T = some oT := (sb.2 T TC).trans hT
  have b2a : B2.get? a = none := by
    cases z : B2.get? a with
    | none => rfl
    | some o =>
      have z1 := (bB _ _ z).1
      rw [q2] at z1
      cases z1
  have fin : ∀ {α : Type} {Q2 : α → Shared → Prop}, wpAny (model X.prog X.w) X.A (setFlight (.ref a) cv.frame) (fun _ s4 => wpAny (model X.prog X.w) X.A (throw (.ref a) : Sem α) Q2 X.xe s4) X.xe { s' with heap := h2 } := fun {α Q2} => by
    rw [hcvf, hcf, hf]
    refine HandSPX.setFlight_anyZ (base := B2) (l := X.env :: X.outer) (Z := Zc cls d) (s := { s' with heap := h2 }) (fun b o e => ?_) ?_ ⟨oe, vs, T, oT, ts, he2, hz, hd, hv1, ?_, hTe, hT2, hdT, hts⟩ fun h3 r1 r2 r3 r4 => wpAny_throw (tk _ _ ?_)
    · obtain ⟨e1, e2⟩ := bB b o e
      exact (sb.2 b e2).trans (q1 b o e1)
    · refine funFrames_none (base := B) ?_ fun L hL => ?_
      · exact ff_but ⟨oC, hCB⟩ sb.2 q3
      · cases z : B2.get? L with
        | none => rfl
        | some o =>
          have z1 := (bB _ _ z).1
          rw [ff_none q3 L hL] at z1
          cases z1
    · cases z : B2.get? T with
      | none => rfl
      | some o =>
        have z1 := (bB _ _ z).1
        rw [hBT] at z1
        cases z1
    · refine ⟨a, B2, _, pins, σ, H', cls, d, rfl, I2, fun b o e hb => ?_, fun b o e hn => ?_, .inr (.inr (by rw [hs]; exact ⟨r1, b2a, r2, r3⟩)), na, os, ag, hW _ _ _ hE⟩
      · have hbC : b ≠ C := fun z => by
          rw [z, k2 C (by simp)] at e
          cases e
        rw [k1 b (by simp [hbC])] at e
        rw [b1 b (by simp [hbC])]
        obtain ⟨e', hh⟩ := og b o e
        rcases hh with hh | hh
        · obtain ⟨o', q⟩ := Option.isSome_iff_exists.mp hh
          have z := st b o' q
          rw [e'] at z
          cases z
          exact q
        · exact absurd hh hb
      · have hbC : b ≠ C := fun z => by
          rw [z, k2 C (by simp)] at e
          cases e
        rw [k1 b (by simp [hbC])] at e
        obtain ⟨sl, z1⟩ := up1 b o (og b o e).1 hn
        exact r4 b _ ((sb.2 b hbC).trans z1) hn |>.imp fun _ z => z
  unfold PySem.passOn
  refine wpAny_bind (wpAny_field he2 hd hv1 ?_)
  rw [if_neg (show ¬ ((Value.ref T == Value.none) = true) from by simp)]
  first
    | exact wpAny_bind (wpAny_pure (wpAny_bind fin))
    | exact wpAny_bind fin
end
end Mx
namespace Mx
open PySem PySem.Spec PyProof.Rows L2 Evl
section
variable {X : Cx} {W : WX} {E : XK}
/-- a list comprehension whose element may let out what the def lets out -/
theorem pe_lcX {elt tg iter : Expr} {ifs : List Expr} {scope : Scope} {own : List (Str × Nat)} {pos : Pos} {wi : TI} {g : TG} {tt : TT} {te : TE} (hs : X.stack = X.env :: X.outer) (hf : X.env.frame = some X.env.locals) (tk : Takes X W) (hW : ∀ cls d σ H, E cls d H → W cls d σ H)
    (hc : X.calm = true) (hN : X.N.Nodup) (hi : PI X tg iter wi) (ok : BlkOk X.N X.env.scope scope own)
    (hg : ∀ (s : Shared) (H : Hp) (C : Addr) (cl : List (Str × Addr)) (fp : List Addr), PG (X.blk s H scope (compEnvC scope cl C X.env) fp) tg g) (ht : ∀ (s : Shared) (H : Hp) (C : Addr) (cl : List (Str × Addr)) (fp : List Addr), PTs (X.blk s H scope (compEnvC scope cl C X.env) fp) ifs tt)
    (he : ∀ (s : Shared) (H : Hp) (C : Addr) (cl : List (Str × Addr)) (fp : List Addr) (xe : Value → Shared → Prop), (∀ σ, PassesAt (L2.CX X.prog X.w) ((X.blk s H scope (compEnvC scope cl C X.env) fp).wish xe) σ E) → PE ((X.blk s H scope (compEnvC scope cl C X.env) fp).wish xe) elt te)
    (hx : ∀ x, foldedSetIterable iter X.env x = pure x := by intro _; rfl) : PE X (.ListComp elt [⟨tg, iter, ifs, 0⟩] scope pos) (tLc wi g tt te (own.map (·.2))) := by
  refine ⟨fun pins s σ H Q I h => ?_⟩
  rw [eval_ListComp]
  have hfree : ∀ y ∈ scope.names, y.2 = .free → ∃ c, X.env.cells.lookup y.1 = some c := fun y hy e => by
    rcases ok.free y hy e with k | k
    · exact I.ok.has _ (.inl k)
    · exact I.ok.has _ (.inr k)
  refine comp_freeF rfl hx (closure_ok hfree) ok.kind (fun y hy e => by rw [ok.uniq y hy, e]) (thn (hi.run pins s σ H _ I h) fun xv s1 hx1 => thn hx1 fun itv s2 h2 => ?_)
  obtain ⟨it, fp, tn, J, H2, e, I2, T, st2, f2, q⟩ := h2
  subst e
  refine wpAny_newObj_type (newEnv_comp ?_) (by show 0 ≤ sizeLine; decide)
  generalize hD : s2.heap.objs.size = D
  have hDn : H2 D = none := I2.hok.fresh (Nat.le_of_eq hD)
  obtain ⟨Wt, ⟨m0, w0⟩, turn⟩ := q D hDn
  generalize hs3 : ({ s2 with heap := s2.heap.push { cls := .type "list", data := .seq ([] : List Value).toArray } } : Shared) = s3
  have I3 : Inv X pins σ (upd H2 D (.lst [])) s3 := by
    rw [← hs3]
    refine I2.laid (t' := s2.toks) (fun b o e => Heap.get?_push_of_some _ e) (Nat.le_of_eq hD) ⟨Nat.zero_le _, [], 0, .nil, ?_⟩
    rw [← hD]
    exact Heap.get?_push_size _ rfl
  have h3 : s3.heap = s2.heap.push { cls := .type "list", data := .seq ([] : List Value).toArray } := by rw [← hs3]
  have f3 : ∀ b ∈ fp, FpOk X pins (upd H2 D (.lst [])) b ∧ b < s3.heap.objs.size := fun b hb => by
    obtain ⟨o, eo, _⟩ := T.obj _ _ st2 b hb
    have hlt := Heap.lt_size eo
    refine ⟨⟨?_, (f2 b hb).2⟩, by rw [h3, Heap.size_push]; exact Nat.lt_succ_of_lt hlt⟩
    rw [upd_ne (by rw [← hD]; exact Nat.ne_of_lt hlt)]
    exact (f2 b hb).1
  have st3 : tn 0 s3.heap := T.keep _ _ _ st2 fun b _ o e => by rw [h3]; exact Heap.get?_push_of_some _ e
  have I4 := block_start I3 ok hN f3
  have pg := hg s3 (upd H2 D (.lst [])) s3.heap.objs.size (cellsFrom (s3.heap.objs.size + 1) scope.names (cloFrom X.env.cells scope.names [])) fp
  have pt := ht s3 (upd H2 D (.lst [])) s3.heap.objs.size (cellsFrom (s3.heap.objs.size + 1) scope.names (cloFrom X.env.cells scope.names [])) fp
  have pe := he s3 (upd H2 D (.lst [])) s3.heap.objs.size (cellsFrom (s3.heap.objs.size + 1) scope.names (cloFrom X.env.cells scope.names [])) fp
  show codeAny _ _ (.compStart (.ListComp elt [⟨tg, iter, ifs, 0⟩] scope pos) 0 (.ref it) (.ref D) (compEnvC scope (cellsFrom (s3.heap.objs.size + 1) scope.names (cloFrom X.env.cells scope.names [])) s3.heap.objs.size X.env)) _ { s3 with heap := pushCells (s3.heap.push { cls := .type "dict", data := .dict #[] }) scope.names }
  generalize hcv : newEnv scope s3.heap.objs.size X.env.globals (cellsFrom (s3.heap.objs.size + 1) scope.names (cloFrom X.env.cells scope.names [])) X.env.qual none .none (some X.env) _ = cenv
  have cvL : cenv.locals = s3.heap.objs.size := by subst hcv; rfl
  have cvF : cenv.frame = X.env.frame := by subst hcv; rfl
  clear hcv
  have nfp : ∀ b ∈ fp, (upd H2 D (.lst [])) b = none := fun b hb => (f3 b hb).1.1
  generalize hce : compEnvC scope (cellsFrom (s3.heap.objs.size + 1) scope.names (cloFrom X.env.cells scope.names [])) s3.heap.objs.size X.env = ce at I4 pg pt pe ⊢
  have cL : ce.locals = s3.heap.objs.size := by subst hce; rfl
  have cF : ce.frame = X.env.frame := by subst hce; rfl
  generalize hH3 : upd H2 D (.lst []) = H3 at I3 I4 pg pt pe w0 nfp f3
  generalize hs4 : ({ s3 with heap := pushCells (s3.heap.push { cls := .type "dict", data := .dict #[] }) scope.names } : Shared) = s4 at I4 ⊢
  have st4 : tn 0 s4.heap := T.keep _ _ _ st3 fun b _ o e => by rw [← hs4]; exact pushCells_keeps _ _ _ _ (Heap.get?_push_of_some _ e)
  have stat : ∀ {σ' : L2.St} {H' : Hp} {s' : Shared}, Inv (X.blk s3 H3 scope ce fp) [] σ' H' s' → (∀ b ∈ fp, H' b = none) → ∀ b ∈ fp, FpOk (X.blk s3 H3 scope ce fp) [] H' b := fun {σ' H' s'} I' hn b hb =>
    ⟨hn b hb, (I'.ok.exf b hb).1, I'.ok.exfs b hb, .inl hb, fun x c e => (I'.ok.exf b hb).2 x c e, fun p hp => absurd (show p ∈ ([] : List (Addr × Obj)) ++ [] from hp) (by simp)⟩
  have pe2 := pe (fun e s' => wpAny (model X.prog X.w) X.A (noteFrame e ce) (fun _ s'' => cpF (model X.prog X.w) X.A X.xe (EP X pins σ Q) (.ref D) cenv (.error e) s'') (fun e s' => cpF (model X.prog X.w) X.A X.xe (EP X pins σ Q) (.ref D) cenv (.error e) s') s')
    fun σ8 pins9 H9 s9 e s' I9 c => lcx_out (E' := _) hs hf tk (fun cls d H' z => hW cls d σ H' z) I3 cL cF cvL cvF f3 I9 c
  have loop : codeAny (model X.prog X.w) X.A (.compLoop (.ListComp elt [⟨tg, iter, ifs, 0⟩] scope pos) 0 (.ref it) (.ref D) ce) (cpF (model X.prog X.w) X.A X.xe (EP X pins σ Q) (.ref D) cenv) s4 := by
    refine compLoop_any (fun n s' => ∃ i H', Inv (X.blk s3 H3 scope ce fp) [] (wipe σ (own.map (·.2))) H' s' ∧ tn i s'.heap ∧ (∀ b ∈ fp, H' b = none) ∧ Wt i n H') ?_ m0 ⟨0, H3, I4, st4, nfp, w0⟩
    rintro n s5 ⟨i, H5, I5, st5, n5, w5⟩
    rcases turn i n H5 w5 with ⟨stop, qq⟩ | ⟨go, Nx, hNx, step⟩
    · refine thnF (T.done (X.blk s3 H3 scope ce fp) rfl rfl rfl hc i [] s5 _ H5 (fun _ _ => False) I5 (stat I5 n5) st5 stop) fun r s6 ⟨hr, I6⟩ => ?_
      subst hr
      have I7 : Inv X pins σ H5 s6 := I3.call' (ch := fp) I6.os I6.base I6.hok I6.bare fun b hb => ⟨(f3 b hb).1.2.2.2.1, (f3 b hb).1.2.1, (f3 b hb).1.2.2.2.2.1, (f3 b hb).1.2.2.2.2.2⟩
      have nC : H5 s3.heap.objs.size = none := by
        have z : H5 ce.locals = none := I6.free
        rw [cL] at z
        exact z
      obtain ⟨m, hn, _⟩ := I6.loc
      have hn : s6.heap.Ns ce.locals m := hn
      obtain ⟨f0, f1, f2, f4, f5, f6⟩ := I3.fpOk (Nat.le_refl _) nC
      refine ⟨m, by rw [cvL, ← cL]; exact hn, fun h' sb => ?_⟩
      rw [cvL] at sb
      exact ⟨.ref D, H5, I7.turned (t' := s6.toks) (fun b o hb e => (sb.2 b hb).trans e) f0 f1 f4 f5 f6, rfl, qq⟩
    · refine thnF (T.item (X.blk s3 H3 scope ce fp) rfl rfl rfl hc i [] s5 _ H5 (fun _ _ => False) I5 (stat I5 n5) st5 go) fun r s6 ⟨u, hr, h6⟩ => ?_
      subst hr
      refine thnF h6 fun _ s7 ⟨x, H7, I7, r7, y7, st7, n7⟩ => ?_
      have I7' := I7.pinned (stat I7 n7) (T.obj _ _ st7)
      refine thnF (pg.run _ s7 _ H7 x u _ I7' r7 (step x H7 y7)) fun _ s8 ⟨σ8, H8, I8, hw8, q8⟩ => ?_
      refine thnF (pt.run _ s8 σ8 H8 _ I8 q8) fun b s9 ⟨H9, I9, q9⟩ => ?_
      have fin : ∀ {s' : Shared} {H' : Hp}, Inv (X.blk s3 H3 scope ce fp) ([] ++ pinsAt fp s7.heap) σ8 H' s' → Nx H' → ∃ m, m < n ∧ ∃ i H', Inv (X.blk s3 H3 scope ce fp) [] (wipe σ (own.map (·.2))) H' s' ∧ tn i s'.heap ∧ (∀ b ∈ fp, H' b = none) ∧ Wt i m H' := fun {s' H'} I' nx => by
        obtain ⟨m', hm, w'⟩ := hNx H' nx
        have pin' : ∀ b ∈ fp, ∀ o, s7.heap.get? b = some o → s'.heap.get? b = some o ∧ H' b = none := fun b hb o e =>
          let z := I'.pin (b, o) (List.mem_append_right _ (List.mem_append_right _ (mem_pinsAt hb e)))
          ⟨z.1, z.2.1⟩
        have hl : (wipe σ (own.map (·.2))).length = σ8.length := by rw [← hw8, wipe_length]
        refine ⟨m', hm, i + 1, H', (I'.unpinned (pins := [])).weak hl (fun j v e => ?_), T.keep _ _ _ st7 fun b hb o e => (pin' b hb o e).1, fun b hb => ?_, w'⟩
        · rw [← hw8] at e
          exact (wipe_some e).1
        · obtain ⟨o, e, _⟩ := T.obj _ _ st7 b hb
          exact (pin' b hb o e).2
      cases b with
      | false =>
        simp only [Bool.false_eq_true, if_false] at q9 ⊢
        exact fin I9 q9
      | true =>
        simp only [if_true] at q9 ⊢
        refine thn (pe2.run _ s9 σ8 H9 _ (I9.wish _) q9) fun z s10 ⟨yv, H10, I10, r10, acc, hD10, hz10, nx⟩ => ?_
        exact app_ok (X := X.blk s3 H3 scope ce fp) I10.unwish hD10 hz10 r10 fun s11 I11 => fin I11 nx
  exact codeAny_compStart_list loop (T.self X.A 0 _ _ _ st4 loop)
end
end Mx
/-! texts that are refused (law k14) -/
namespace Mx
open PySem PySem.Spec PyProof.Rows L2 Evl
/-- the words of a text -/
def wordsC (cs : List Nat) : List (List Nat) := (Txt.split (mk cs) ⟨#[32]⟩).map fun x => x.cps.toList
theorem split_words (cs : List Nat) : Txt.split (mk cs) ⟨#[32]⟩ = (wordsC cs).map mk := by
  unfold wordsC
  rw [List.map_map]
  have : (mk ∘ fun x : Str => x.cps.toList) = id := funext fun x => mk_tl x
  rw [this, List.map_id]
theorem wordsC_jn {l : List (List Nat)} (hne : l ≠ []) (hf : ∀ x ∈ l, 32 ∉ x) : wordsC (jn [32] l) = l := by
  unfold wordsC
  rw [split_jn hne hf, List.map_map]
  have : ((fun x : Str => x.cps.toList) ∘ mk) = id := funext fun x => tl_mk x
  rw [this, List.map_id]
/-- a text that is refused -/
def badT (n : Int) (cs : List Nat) : Prop := 12 < (wordsC cs).length ∨ ∃ w ∈ wordsC cs, ¬ goodW n w
def spReadR (CW CN : Addr) : Sp := fun vs H Q E => ∃ (n : Int) (cs : List Nat), vs = [.int n, .str (mk cs)] ∧ cs.length ≤ 9000 ∧ (okW n → cs = [] ∨ badT n cs) ∧
  (okW n → cs = [] → ∀ H' v, Ex H H' → Q v H') ∧ (¬ okW n → ∀ H', Ex H H' → E (.ref CW) none H') ∧ (okW n → cs ≠ [] → ∀ H', Ex H H' → E (.ref CN) none H')
theorem word_len {cs wi : List Nat} {i : Nat} (h : (wordsC cs)[i]? = some wi) : wi.length ≤ cs.length := by
  have hm := List.mem_of_getElem? h
  unfold wordsC at hm
  obtain ⟨x, hx, rfl⟩ := List.mem_map.mp hm
  have := part_short hx
  rw [mk_len] at this
  exact this
def spTriedN : Sp := fun vs H Q _ => ∃ (n : Int) (cs : List Nat), vs = [.int n, .str (mk cs)] ∧ cs.length ≤ 9000 ∧ (okW n → cs = [] ∨ badT n cs) ∧
  (¬ okW n → ∀ H', Ex H H' → Q (.str "wares") H') ∧ (okW n → cs = [] → ∀ H', Ex H H' → Q (.str "done") H') ∧ (okW n → cs ≠ [] → ∀ H', Ex H H' → Q (.str "note") H')
end Mx
/-! words spoilt (law k14) -/
namespace Mx
open PySem PySem.Spec PyProof.Rows L2 Evl
abbrev Wv (ws : List (List Nat)) : List V := ws.map fun w => V.str (mk w)
theorem wv_app (a b : List (List Nat)) : Wv (a ++ b) = Wv a ++ Wv b := List.map_append
structure Plain (ws : List (List Nat)) : Prop where
  free : ∀ w ∈ ws, 32 ∉ w
  short : ∀ w ∈ ws, w.length ≤ 8
  few : ws.length ≤ 12
  full : ∀ w ∈ ws, w ≠ []
structure Spoilt (n : Int) (ws : List (List Nat)) : Prop where
  free : ∀ w ∈ ws, 32 ∉ w
  short : ∀ w ∈ ws, w.length ≤ 20
  few : ws.length ≤ 30
  full : ∃ w ∈ ws, w ≠ []
  bad : 12 < ws.length ∨ ∃ w ∈ ws, ¬ goodW n w
theorem jn_ne : ∀ {l : List (List Nat)}, (∃ w ∈ l, w ≠ []) → jn [32] l ≠ []
  | [], h => by simp at h
  | [x], h => by
    obtain ⟨w, hw, hn⟩ := h
    rw [List.mem_singleton] at hw
    subst hw
    exact hn
  | x :: y :: r, _ => by
    show x ++ [32] ++ jn [32] (y :: r) ≠ []
    simp
theorem sum_le20 : ∀ l : List (List Nat), (∀ w ∈ l, w.length ≤ 20) → (l.map List.length).sum ≤ 20 * l.length
  | [], _ => Nat.le_refl _
  | m :: r, h => by
    have ih := sum_le20 r fun x hx => h x (List.mem_cons_of_mem _ hx)
    have h1 := h m List.mem_cons_self
    rw [List.map_cons, List.sum_cons, List.length_cons]
    omega
theorem Spoilt.ne {n : Int} {ws : List (List Nat)} (h : Spoilt n ws) : ws ≠ [] := by
  obtain ⟨w, hw, _⟩ := h.full
  exact List.ne_nil_of_mem hw
theorem Spoilt.badT {n : Int} {ws : List (List Nat)} (h : Spoilt n ws) : badT n (jn [32] ws) := by
  unfold Mx.badT
  rw [wordsC_jn h.ne h.free]
  exact h.bad
theorem Spoilt.sum {n : Int} {ws : List (List Nat)} (h : Spoilt n ws) : (ws.map List.length).sum ≤ 600 := by
  have := sum_le20 ws h.short
  have := h.few
  omega
theorem Spoilt.len {n : Int} {ws : List (List Nat)} (h : Spoilt n ws) : (jn [32] ws).length ≤ 700 := by
  have := len_jn ws
  have := h.sum
  have := h.few
  omega
theorem bad_of {n : Int} {l : List (List Nat)} (hne : l ≠ []) (hf : ∀ x ∈ l, 32 ∉ x) (hb : ∃ w ∈ l, ¬ goodW n w) : badT n (jn [32] l) := by
  unfold badT
  rw [wordsC_jn hne hf]
  exact .inr hb
theorem ng_nil {n : Int} : ¬ goodW n [] := fun h => h.2.1 rfl
theorem ng_sign {n : Int} {c : Nat} {cs : List Nat} (h : c ∈ cs) (hc : ¬ (48 ≤ c ∧ c < 56)) : ¬ goodW n cs := fun g => hc (g.1 c h)
theorem ng_twice {n : Int} {w : List Nat} (hne : w ≠ []) : ¬ goodW n (w ++ [w.getLast hne]) := fun g => by
  have h := (isSetB_iff.mp g.2.2).1
  rw [List.map_append] at h
  have := (List.pairwise_append.mp h).2.2 (wareOf (w.getLast hne)) (List.mem_map_of_mem (List.getLast_mem hne)) (wareOf (w.getLast hne)) (by simp)
  omega
theorem ng_10 {n : Int} : ¬ goodW n [49, 48] := fun g => by
  have h := (isSetB_iff.mp g.2.2).1
  have := (List.pairwise_cons.mp h).1 (wareOf 48) (by simp)
  unfold wareOf at this
  omega
theorem ng_big {n : Int} {w : List Nat} (ok : okW n) : ¬ goodW n (w ++ [fig n]) := fun g => by
  have okn : 1 ≤ n ∧ n ≤ 8 := ok
  have h := (isSetB_iff.mp g.2.2).2 (wareOf (fig n)) (by simp)
  rw [wareOf_fig (by omega)] at h
  omega
theorem spo_put {n : Int} {ws : List (List Nat)} {w : List Nat} {i j : Nat} (p : Plain ws) (hf : 32 ∉ w) (hl : w.length ≤ 20) (hb : ¬ goodW n w) (hx : ∃ v ∈ ws.take i ++ [w] ++ ws.drop j, v ≠ []) : Spoilt n (ws.take i ++ [w] ++ ws.drop j) := by
  have hm : ∀ v ∈ ws.take i ++ [w] ++ ws.drop j, v ∈ ws ∨ v = w := fun v hv => by
    rcases List.mem_append.mp hv with hv | hv
    · rcases List.mem_append.mp hv with hv | hv
      · exact .inl (List.mem_of_mem_take hv)
      · exact .inr (List.mem_singleton.mp hv)
    · exact .inl (List.mem_of_mem_drop hv)
  refine ⟨fun v hv => ?_, fun v hv => ?_, ?_, hx, .inr ⟨w, by simp, hb⟩⟩
  · rcases hm v hv with h | rfl
    · exact p.free v h
    · exact hf
  · rcases hm v hv with h | rfl
    · have := p.short v h
      omega
    · exact hl
  · have := p.few
    simp only [List.length_append, List.length_take, List.length_drop, List.length_cons, List.length_nil]
    omega
theorem has_new {ws : List (List Nat)} {w : List Nat} {i j : Nat} (h : w ≠ []) : ∃ v ∈ ws.take i ++ [w] ++ ws.drop j, v ≠ [] := ⟨w, by simp, h⟩
theorem has_old {ws : List (List Nat)} {w : List Nat} {i : Nat} (p : Plain ws) (h : ws ≠ []) : ∃ v ∈ ws.take i ++ [w] ++ ws.drop i, v ≠ [] := by
  obtain ⟨v, hv⟩ := List.exists_mem_of_ne_nil _ h
  refine ⟨v, ?_, p.full v hv⟩
  rw [← List.take_append_drop i ws] at hv
  rcases List.mem_append.mp hv with hv | hv
  · exact List.mem_append_left _ (List.mem_append_left _ hv)
  · exact List.mem_append_right _ hv
/-- what a word with a sign put in holds -/
theorem mem_putin {w : List Nat} {c d j : Nat} (h : d ∈ w.take j ++ [c] ++ w.drop j) : d ∈ w ∨ d = c := by
  rcases List.mem_append.mp h with h | h
  · rcases List.mem_append.mp h with h | h
    · exact .inl (List.mem_of_mem_take h)
    · exact .inr (List.mem_singleton.mp h)
  · exact .inl (List.mem_of_mem_drop h)
def signC : List Nat := [57, 97, 45, 43, 95, 9, 10, 44, 46, 56]
theorem signs_eq : ([.str "9", .str "a", .str "-", .str "+", .str "_", .str "\t", .str "\n", .str ",", .str ".", .str "8"] : List V) = signC.map fun c => V.str (mk [c]) := by decide +kernel
theorem signs_bad : ∀ c ∈ signC, ¬ (48 ≤ c ∧ c < 56) ∧ c ≠ 32 := by decide
def txtC : List (List Nat) := [[], [32], [32, 32], [10], [9], [32, 10]]
theorem txts_eq : ([.str "", .str " ", .str "  ", .str "\n", .str "\t", .str " \n"] : List V) = txtC.map fun c => V.str (mk c) := by decide +kernel
theorem txts_bad {n : Int} : ∀ cs ∈ txtC, (cs = [] ∨ badT n cs) ∧ cs.length ≤ 2 := by
  intro cs h
  have h' : cs = [] ∨ cs = [32] ∨ cs = [32, 32] ∨ cs = [10] ∨ cs = [9] ∨ cs = [32, 10] := by simpa [txtC] using h
  rcases h' with rfl | rfl | rfl | rfl | rfl | rfl
  · exact ⟨.inl rfl, by decide⟩
  · exact ⟨.inr (bad_of (l := [[], []]) (by simp) (by simp) ⟨[], by simp, ng_nil⟩), by decide⟩
  · exact ⟨.inr (bad_of (l := [[], [], []]) (by simp) (by simp) ⟨[], by simp, ng_nil⟩), by decide⟩
  · exact ⟨.inr (bad_of (l := [[10]]) (by simp) (by simp) ⟨[10], by simp, ng_sign (c := 10) (by simp) (by omega)⟩), by decide⟩
  · exact ⟨.inr (bad_of (l := [[9]]) (by simp) (by simp) ⟨[9], by simp, ng_sign (c := 9) (by simp) (by omega)⟩), by decide⟩
  · exact ⟨.inr (bad_of (l := [[], [10]]) (by simp) (by simp) ⟨[], by simp, ng_nil⟩), by decide⟩
theorem ten_eq : ("10" : Str) = mk [49, 48] := by decide +kernel
theorem nought_eq : ("0" : Str) = mk [48] := by decide +kernel
theorem fig9 : ∀ k : Fin 9, Str.ofString (toString ((k.val : Nat) : Int)) = mk [48 + k.val] := by decide +kernel
theorem str_fig9 {x : Int} (h0 : 0 ≤ x) (h1 : x < 9) : (Str.ofString (toString x)) = mk [fig x] := by
  obtain ⟨k, rfl⟩ := fin_of (n := 9) h0 (by omega)
  exact fig9 k
theorem at_lastX {α : Type} {so : List α} (hne : so ≠ []) : atI so (-1) = some (so.getLast hne) := by
  have hpos : 0 < so.length := List.length_pos_iff.mpr hne
  have h1 : ixN so.length (-1) = some (so.length - 1) := by
    unfold ixN
    rw [if_neg (by omega), if_pos (by omega)]
    congr 1
    omega
  unfold atI
  rw [h1]
  show so[so.length - 1]? = _
  rw [← List.getLast?_eq_getElem?, List.getLast?_eq_getLast hne]
theorem plain_text {n : Int} {plan : List (List Int)} (ok : okW n) (gp : planB n plan = true) : Plain (plan.map mixC) := by
  refine ⟨fun w hw => ?_, fun w hw => ?_, ?_, fun w hw => ?_⟩
  · obtain ⟨m, hm, rfl⟩ := List.mem_map.mp hw
    intro h
    have := mixC_fig (good_mix ok gp hm).2.2.2 32 h
    omega
  · obtain ⟨m, hm, rfl⟩ := List.mem_map.mp hw
    have h1 : (mixC m).length = m.length := List.length_map _
    have := (good_mix ok gp hm).2.1
    omega
  · rw [List.length_map]
    exact (planB_iff.mp gp).1
  · obtain ⟨m, hm, rfl⟩ := List.mem_map.mp hw
    intro h
    exact (good_mix ok gp hm).1 (List.map_eq_nil_iff.mp h)
section
variable {K : PySem.W.Frag} {H H' : Hp} {σ : L2.St}
theorem dpAll_strs : ∀ ws : List (List Nat), DpAll K H (Wv ws) ((ws.map mk).map PyData.str)
  | [] => .nil
  | x :: r => .cons (.str (mk x)) (dpAll_strs r)
theorem nilS {ws : List (List Nat)} (h : ∀ w ∈ ws, ∀ c ∈ w, c < 56) : ∀ H', Ex H H' → ∃ ds, DpAll K H' (Wv ws) ds ∧ SeqAt.shaped (.list ds) = true := fun H' _ => ⟨_, dpAll_strs ws, by
  unfold SeqAt.shaped
  rw [PyData.canLay0, canLayAll_strs', PyData.depth, depthAll_strs', Bool.and_eq_true, List.all_eq_true]
  refine ⟨fun x hx => ?_, by decide⟩
  obtain ⟨w, hw, rfl⟩ := List.mem_map.mp hx
  unfold PyData.strOk
  rw [Array.all_eq_true']
  intro c hc
  have hc' : c ∈ w := by simpa [mk] using hc
  have := h w hw c hc'
  exact decide_eq_true (by omega)⟩
theorem rc_lenS {cs : List Nat} (h : cs.length ≤ 100000) : RC (fun xs H Q => ∃ z, xs = [V.str z] ∧ z.length ≤ sizeLine ∧ Q (.int z.length) H) [.str (mk cs)] H (.int (cs.length : Int)) := fun H1 _ Q q => ⟨mk cs, rfl, by rw [mk_len]; exact sz_of h, by
  rw [mk_len]
  exact q H1 (Ex.refl H1)⟩
theorem ev_strI9 {te : TE} {x : Int} (h : Ev te σ H (.int x)) (h0 : 0 ≤ x) (h1 : x < 9) : Ev (tCB rStrI (tCons te tNil)) σ H (.str (mk [fig x])) := fun H1 e Q q =>
  h H1 e _ fun H2 e2 => ⟨x, rfl, by
    have : x.natAbs < 9 := by omega
    have : x.natAbs.log2 ≤ x.natAbs := Nat.log2_le_self _
    omega, by rw [str_fig9 h0 h1]; exact q H2 e2⟩
theorem ev_slS {te : TE} {tl th : TO} {cs : List Nat} {lo hi : Option Int} (hz : cs.length ≤ 100000) (h : Ev te σ H (.str (mk cs))) (h1 : EvO tl σ H lo) (h2 : EvO th σ H hi) : Ev (tSl rSlS te tl th) σ H (.str (cutS (mk cs) lo hi)) := fun H1 e Q q =>
  h H1 e _ fun H2 e2 => h1 H2 (e.trans e2) _ fun H3 e3 => h2 H3 ((e.trans e2).trans e3) _ fun H4 e4 => ⟨mk cs, rfl, by rw [mk_len]; exact sz_of hz, q H4 ((e2.trans e3).trans e4)⟩
theorem cutS_lo {cs : List Nat} {k : Nat} (hk : k ≤ cs.length) : cutS (mk cs) none (some (k : Int)) = mk (cs.take k) := by
  unfold cutS
  rw [mk_len, tl_mk, HT.sIx_none, HT.sIx_nat, Nat.min_eq_left hk]
  rfl
theorem cutS_hi {cs : List Nat} {k : Nat} (hk : k ≤ cs.length) : cutS (mk cs) (some (k : Int)) none = mk (cs.drop k) := by
  unfold cutS
  rw [mk_len, tl_mk, HT.sIx_none, HT.sIx_nat, Nat.min_eq_left hk]
  rw [List.take_of_length_le (by rw [List.length_drop]; exact Nat.le_refl _)]
  rfl
theorem ev_joinV {te : TE} {sep : Str} {s : List Nat} {l : List (List Nat)} {p : Addr} (hs : sep = mk s) (h : Ev te σ H (.ref p)) (hp : SqL K H p (Wv l)) (hz : (l.map List.length).sum + l.length * s.length ≤ 16777216) : Ev (tM1 (rJoinS K) (tC (.str sep)) te) σ H (.str (mk (jn s l))) := fun H1 e Q q =>
  ⟨⟨sep, rfl⟩, h H1 e _ fun H2 e2 => ⟨sep, p, l.map mk, rfl, rfl, .inl (ex_l (e.trans e2) (by rw [List.map_map]; exact hp)), by
    rw [hs, List.map_map, List.length_map, mk_len]
    have : (l.map ((fun x : Str => x.length) ∘ mk)) = l.map List.length := List.map_congr_left fun x _ => mk_len x
    rw [this]
    exact hz, by rw [hs, txt_join]; exact q H2 e2⟩⟩
/-- words[:i] + [w] + words[j:] -/
theorem ret_put {te tl ti tj : TE} {p : Addr} {ws : List (List Nat)} {w : List Nat} {i j : Nat} {D : Ends} (hp : H p = some (.lst (Wv ws))) (few : ws.length ≤ 12) (hl : Ev tl σ H (.ref p)) (hi : Ev ti σ H (.int (i : Int))) (hj : Ev tj σ H (.int (j : Int))) (he : Ev te σ H (.str (mk w)))
    (bi : i ≤ ws.length) (bj : j ≤ ws.length) (k : ∀ r H1, Ex H H1 → H1 r = some (.lst (Wv (ws.take i ++ [w] ++ ws.drop j))) → D.rt (.ref r) H1) :
    tRet (tOp rCat (tOp rCat (tSl (rSlL K) tl tNoPart (tPart ti)) (tLst (tCons te tNil))) (tSl (rSlL K) tl (tPart tj) tNoPart)) D σ H := by
  have hlm : (Wv ws).length = ws.length := List.length_map _
  refine s_retL (xs := Wv (ws.take i ++ [w] ++ ws.drop j)) (el_of (el_cat (el_cat (el_sl hl eo_none (eo_some hi) (sq_of hp)) (el_lst (vs := [.str (mk w)]) (ea_cons he ea_nil) (by show 1 ≤ 100000; decide)) ?_) (el_sl hl (eo_some hj) eo_none (sq_of hp)) ?_) ?_) fun r H1 _ e1 hr => k r H1 e1 hr
  · rw [cut_lo (by omega), List.length_take]
    show _ + 1 ≤ _
    omega
  · rw [cut_lo (by omega), cut_hi (by omega), List.length_append, List.length_take, List.length_drop]
    show _ + 1 + _ ≤ _
    omega
  · rw [cut_lo (by omega), cut_hi (by omega)]
    simp only [List.map_append, List.map_take, List.map_drop, List.map_cons, List.map_nil]
end
def spSpoilt : Sp := fun vs H Q _ => ∃ (p : Addr) (ws : List (List Nat)) (kind : Int) (i : Nat) (cell n : Int), vs = [.ref p, .int kind, .int (i : Int), .int cell, .int n] ∧ H p = some (.lst (Wv ws)) ∧ Plain ws ∧ okW n ∧ i < ws.length ∧
  ∀ H' r ws', Ex H H' → H' r = some (.lst (Wv ws')) → Spoilt n ws' → Q (.ref r) H'
end Mx
namespace Mx
open PySem PySem.Spec PyProof.Rows L2 Evl
def topS (i : Nat) : Stmt := PySem.Challenge.pw_mixpots_k14_read.main.body.getD i (.Pass ⟨0, 0, 0, 0⟩)
abbrev s_asked_wares : Stmt := topS 13
abbrev s_is_set : Stmt := topS 14
abbrev s_mixture_of : Stmt := topS 17
abbrev s_read : Stmt := topS 18
abbrev s__law_cell_at : Stmt := topS 20
abbrev s__law_word_of : Stmt := topS 21
abbrev s__law_some_by : Stmt := topS 22
abbrev s__law_plan_by : Stmt := topS 23
abbrev s__law_tried : Stmt := topS 24
abbrev s__law_spoilt : Stmt := topS 25
abbrev s_law : Stmt := topS 26
end Mx
local macro_rules | `(tactic| walk_at "mx ev") => `(tactic| first
  | exact Evl.ev_c
  | exact Evl.ev_var rfl
  | assumption
  | (refine Evl.ev_op ?_ ?_ Evl.rv_I0 <;> walk_at "mx ev")
  | (refine Evl.ev_un ?_ Evl.ru_neg <;> walk_at "mx ev"))
local macro_rules | `(tactic| walk_at "mx et") => `(tactic| first
  | exact Mx.et_yes
  | (refine Evl.et_test ?_; walk_at "mx ev")
  | (refine Evl.et_B ?_; walk_at "mx ev")
  | (refine Evl.et_or ?_ fun _ => ?_ <;> walk_at "mx et")
  | (refine Evl.et_and ?_ fun _ => ?_ <;> walk_at "mx et")
  | (refine Evl.et_not ?_; walk_at "mx et"))
namespace Mx
open PySem PySem.Spec PyProof.Rows L2 Evl
section
variable {P : Program} {w : World} {K : PySem.W.Frag} {mg : Str → Option Value} {base : Heap}
theorem sc_asked_wares : FnScope ["wares"] ["wares"] (defScope s_asked_wares) := ⟨rfl, rfl, rfl, by decide +kernel, rfl, by decide +kernel, by decide +kernel⟩
theorem d_asked_wares {f CW : Addr} {fd : FuncData} (F : FnP K "asked_wares" s_asked_wares f fd) (g : mg "asked_wares" = some (.ref f)) (X_NoWares : ExC K mg "NoWares" CW) (c_MOST_WARES : ∃ t, mg "MOST_WARES" = some (.int 8 t)) : Def P w K mg base 1 "asked_wares" ["wares"] (spAskedWares CW) f fd := by
  obtain ⟨t, m_MOST_WARES⟩ := c_MOST_WARES
  refine ⟨?_, F.bindsN fun _ _ _ _ _ _ us hl => match us, hl with | [_], _ => rfl, g, F.kp⟩
  refine F.ok sc_asked_wares (fun vs H Q E h => ?_) (fun cdv A outer s H vs Q E hr h => ?_)
  · obtain ⟨n, rfl, _⟩ := h
    rfl
  · obtain ⟨n, rfl, k, kE⟩ := h
    refine ⟨_, (pss_one (ps_if (PW.pt (pw_or (pt_cmpR op_lt (pv 0) pe_int (nomark _)) (pw_or1 (pt_cmpR op_gt (pv 0) (pe_glob (v := V.int 8) (by rfl) m_MOST_WARES ⟨_, rfl⟩) (nomark _))))) (pss_one (ps_raise rfl (takes_of rfl rfl rfl rfl) (pmk_own PySem.F.excBase_ValueError X_NoWares.x X_NoWares.g X_NoWares.k (raises_own X_NoWares.b X_NoWares.t) rfl))) pss_nil)), ?_⟩
    refine s_when (b := decide (n < 1) || decide (8 < n)) (by walk_at "mx et") (fun c H1 e1 => kE ?_ H1 e1) (fun c H1 e1 => k ?_ H1 e1)
    · simp at c
      unfold okW
      omega
    · simp at c
      unfold okW
      omega
theorem sc_is_set : FnScope ["wares", "some", "before", "ware"] ["wares", "some"] (defScope s_is_set) := ⟨rfl, rfl, rfl, by decide +kernel, rfl, by decide +kernel, by decide +kernel⟩
theorem d_is_set {f : Addr} {fd : FuncData} (F : FnP K "is_set" s_is_set f fd) (g : mg "is_set" = some (.ref f)) : Def P w K mg base 1 "is_set" ["wares", "some"] (spIsSet K) f fd := by
  refine ⟨?_, F.bindsN fun _ _ _ _ _ _ us hl => match us, hl with | [_, _], _ => rfl, g, F.kp⟩
  refine F.ok sc_is_set (fun vs H Q E h => ?_) (fun cdv A outer s H vs Q E hr h => ?_)
  · obtain ⟨n, a, xs, rfl, _⟩ := h
    rfl
  · obtain ⟨n, a, xs, rfl, ha, k⟩ := h
    refine ⟨_, PSs.nox (pss_cons (ps_set (i := 2) sc_is_set.nd rfl (Or.inl rfl) (pe_un un_neg pe_int))
      (pss_cons (ps_for PassesOwn.never rfl (pi_list (pv 1)) (pg_name (i := 3) sc_is_set.nd rfl (Or.inl rfl)) (pss_cons (ps_if (PW.pt (pw_or (pt_cmpR op_le (pv 3) (pv 2) (nomark _)) (pw_or1 (pt_cmpR op_ge (pv 3) (pv 0) (nomark _))))) (pss_one (ps_ret pe_bl)) pss_nil)
      (pss_one (ps_set (i := 2) sc_is_set.nd rfl (Or.inl rfl) (pv 3)))))
      (pss_one (ps_ret pe_bl)))), ?_⟩
    refine q_asg (v := .int (-1)) (by walk_at "mx ev") fun H1 e1 => ?_
    refine q_forLn (a := a) (xs := xs.map V.int) (ev_var rfl) (ex_l e1 ha) (fun i σ' H' => ∃ (b : Int) (y : Option V), σ' = [some (.int n), some (.ref a), some (.int b), y] ∧ Ex H H' ∧ isSetB n xs = isSetFrom n b (xs.drop i))
      (fun H2 e2 => ⟨-1, none, rfl, e1.trans e2, rfl⟩) (fun i σ' H' _ ⟨_, _, _, e, _⟩ => ex_l e ha) ?_ ?_
    · rintro i x σ' H' hx ⟨b, y, rfl, e, hb⟩
      obtain ⟨z, hz, rfl⟩ := get_ints hx
      rw [drop_at hz] at hb
      refine q_when (b := decide (z ≤ b) || decide (n ≤ z)) (by walk_at "mx et") (fun c H2 e2 => ?_) (fun c H2 e2 => ?_)
      · refine s_ret (v := .bl false) ev_c fun H3 e3 => ?_
        have hf : isSetB n xs = false := by rw [hb, isSetFrom, c]; rfl
        have := k H3 ((e.trans e2).trans e3)
        rw [hf] at this
        exact this
      · refine s_asg (v := .int z) (ev_var rfl) fun H3 e3 => ?_
        refine ⟨z, some (.int z), rfl, (e.trans e2).trans e3, ?_⟩
        rw [hb, isSetFrom, c]
        rfl
    · rintro σ' H' ⟨b, y, rfl, e, hb⟩
      refine s_ret (v := .bl true) ev_c fun H3 e3 => ?_
      have hf : isSetB n xs = true := by
        rw [hb, List.length_map, List.drop_length]
        rfl
      have := k H3 (e.trans e3)
      rw [hf] at this
      exact this
theorem sc_mixture_of : FnScope ["wares", "word", "sign", "found"] ["wares", "word"] (defScope s_mixture_of) := ⟨rfl, rfl, rfl, by decide +kernel, rfl, by decide +kernel, by decide +kernel⟩
theorem d_mixture_of {f CN : Addr} {fd : FuncData} (F : FnP K "mixture_of" s_mixture_of f fd) (g : mg "mixture_of" = some (.ref f)) (X_NoNote : ExC K mg "NoNote" CN) (m_len : mg "len" = none) (c_FIGURES : ∃ t, mg "FIGURES" = some (.str "01234567" t))
    {fA : Addr} {dA : FuncData} (D_is_set : Def P w K mg base 1 "is_set" ["wares", "some"] (spIsSet K) fA dA) : Def P w K mg base 2 "mixture_of" ["wares", "word"] (spMixOf CN) f fd := by
  obtain ⟨_, m_FIGURES⟩ := c_FIGURES
  refine ⟨?_, F.bindsN fun _ _ _ _ _ _ us hl => match us, hl with | [_, _], _ => rfl, g, F.kp⟩
  refine F.ok sc_mixture_of (fun vs H Q E h => ?_) (fun cdv A outer s H vs Q E hr h => ?_)
  · obtain ⟨n, cs, rfl, _⟩ := h
    rfl
  · obtain ⟨n, cs, rfl, hcl, k, kN⟩ := h
    refine ⟨_, (pss_cons (ps_for (passes_of rfl) rfl (pi_str (pv 1)) (pg_name (i := 2) sc_mixture_of.nd rfl (Or.inl rfl)) (pss_one (ps_if (pt_cmpR op_notIn_sign (pv 2) (pe_glob (v := V.str "01234567") (by rfl) m_FIGURES ⟨_, rfl⟩) rfl) (pss_one (ps_raise rfl (takes_of rfl rfl rfl rfl) (pmk_own PySem.F.excBase_ValueError X_NoNote.x X_NoNote.g X_NoNote.k (raises_own X_NoNote.b X_NoNote.t) rfl))) pss_nil)))
      (pss_cons (ps_setLc (i := 3) (own := [("sign", 2)]) (g := gName 2) (tt := tYes) (te := (tM1 rIndexS (tC (V.str "01234567")) (tVar 2))) (by rfl) sc_mixture_of.nd rfl rfl (sw_true rfl rfl rfl (by decide +kernel)) (pi_str (pv 1)) (blkOk_by (own := [("sign", 2)]) (by kernel_rfl)) (fun _ _ _ _ _ => pg_name (i := 2) sc_mixture_of.nd rfl (Or.inl rfl)) (fun _ _ _ _ _ => pts_nil) (fun _ _ _ _ _ => (pe_m1 PySem.F.slot_str_index PySem.F.type_str_index mt_sindex (pe_glob (v := V.str "01234567") (by rfl) m_FIGURES ⟨_, rfl⟩) (pv 2))))
      (pss_cons (ps_if (PW.pt (pw_or (pt_cmpR op_eq (pe_callB call_len_seq (by rfl) m_len PySem.boot_len (pa_cons (pv 3) pa_nil)) pe_int (nomark _)) (pw_or1 (pt_not (pt_val (pe_call D_is_set.ok (hr.mono (by decide)) (by rfl) D_is_set.g D_is_set.kp D_is_set.b .nil (passes_call (takes_of rfl rfl rfl rfl) fun _ _ _ _ h => h) (pa_cons (pv 0) (pa_cons (pv 3) pa_nil)))))))) (pss_one (ps_raise rfl (takes_of rfl rfl rfl rfl) (pmk_own PySem.F.excBase_ValueError X_NoNote.x X_NoNote.g X_NoNote.k (raises_own X_NoNote.b X_NoNote.t) rfl))) pss_nil)
      (pss_one (ps_ret (pv 3)))))), ?_⟩
    refine q_forS (cs := cs) (ev_var rfl) (fun i σ' H' => ∃ y2 : Option V, σ' = [some (.int n), some (.str (mk cs)), y2, none] ∧ Ex H H' ∧ ∀ c ∈ cs.take i, 48 ≤ c ∧ c < 56)
      (fun H1 e1 => ⟨none, rfl, e1, fun c hc => by simp at hc⟩) ?_ ?_
    · rintro i c σ' H1 hc ⟨y2, rfl, e1, hall⟩
      refine s_when (b := !decide (48 ≤ c ∧ c < 56)) (et_test (ev_op (ev_var rfl) ev_c rv_niSign)) (fun z H2 e2 => ?_) (fun z H2 e2 => ?_)
      · refine kN (fun gw => ?_) H2 (e1.trans e2)
        have := gw.1 c (List.mem_of_getElem? hc)
        simp [this] at z
      · refine ⟨_, rfl, e1.trans e2, fun d hd => ?_⟩
        rcases mem_take_succ hc hd with hd | rfl
        · exact hall d hd
        · simpa using z
    · rintro σ' H1 ⟨y2, rfl, e1, hall⟩
      rw [List.take_length] at hall
      refine q_asgL (xs := (cs.map wareOf).map V.int) (el_of (el_lc (cs.map fun c => some (V.int (wareOf c))) (wk_str (ev_var rfl)) (by rw [List.length_map]; omega) (fun _ => rfl) (paired_self (fun c => V.str ⟨#[c]⟩) _ fun c hc => .inr ⟨_, rfl, et_yes, ev_index (ev_var rfl) (hall c hc).1 (hall c hc).2⟩)) (by rw [fm_some, List.map_map]; rfl)) fun r H2 hr2 e2 hr2' => ?_
      have hlen : ((cs.map wareOf).map V.int).length = cs.length := by rw [List.length_map, List.length_map]
      refine q_when (b := decide (cs = []) || !isSetB n (cs.map wareOf)) (et_or (et_is (et_test (ev_op (ev_len (ev_var rfl) (sq_of hr2')) ev_c (rv_eq rfl))) ?_) fun _ => et_not (et_B (ev_call (ea_cons (ev_var rfl) (ea_cons (ev_var rfl) ea_nil)) fun H3 e3 Q3 q3 E3 => ⟨n, r, cs.map wareOf, rfl, sq_of (e3 _ _ hr2'), q3⟩))) (fun z H3 e3 => ?_) (fun z H3 e3 => ?_)
      · rw [dec_int, hlen]
        cases cs with
        | nil => rfl
        | cons x t =>
          have : ¬ (((x :: t).length : Int) = 0) := by rw [List.length_cons]; omega
          simp [this]
          omega
      · refine kN (fun gw => ?_) H3 ((e1.trans e2).trans e3)
        have h1 := gw.2.1
        have h2 := gw.2.2
        simp [h1, h2] at z
      · rw [Bool.or_eq_false_iff, decide_eq_false_iff_not, Bool.not_eq_false'] at z
        exact s_ret (ev_var rfl) fun H4 e4 => k ⟨hall, z.1, z.2⟩ H4 r (((e1.trans e2).trans e3).trans e4) ⟨fresh_back e1 hr2, (e3.trans e4) _ _ hr2'⟩
theorem sc_read : FnScope ["wares", "text", "words", "word"] ["wares", "text"] (defScope s_read) := ⟨rfl, rfl, rfl, by decide +kernel, rfl, by decide +kernel, by decide +kernel⟩
theorem d_read {f CW CN : Addr} {fd : FuncData} (F : FnP K "read" s_read f fd) (g : mg "read" = some (.ref f)) (X_NoNote : ExC K mg "NoNote" CN) (m_len : mg "len" = none) (c_MOST_MIXTURES : ∃ t, mg "MOST_MIXTURES" = some (.int 12 t))
    {fA fB : Addr} {dA dB' : FuncData} (D_asked_wares : Def P w K mg base 1 "asked_wares" ["wares"] (spAskedWares CW) fA dA) (D_mixture_of : Def P w K mg base 2 "mixture_of" ["wares", "word"] (spMixOf CN) fB dB') : Def P w K mg base 3 "read" ["wares", "text"] (spReadR CW CN) f fd := by
  obtain ⟨_, m_MOST_MIXTURES⟩ := c_MOST_MIXTURES
  refine ⟨?_, F.bindsN fun _ _ _ _ _ _ us hl => match us, hl with | [_, _], _ => rfl, g, F.kp⟩
  refine F.ok sc_read (fun vs H Q E h => ?_) (fun cdv A outer s H vs Q E hr h => ?_)
  · obtain ⟨n, cs, rfl, _⟩ := h
    rfl
  · obtain ⟨n, cs, rfl, hcl, hbad, k, kW, kN⟩ := h
    refine ⟨_, (pss_cons (ps_expr (pe_call D_asked_wares.ok (hr.mono (by decide)) (by rfl) D_asked_wares.g D_asked_wares.kp D_asked_wares.b .nil (passes_call (takes_of rfl rfl rfl rfl) fun _ _ _ _ h => h) (pa_cons (pv 0) pa_nil)))
      (pss_cons (ps_if (pt_cmpR op_eq (pv 1) pe_str (nomark _)) (pss_one (ps_ret (pe_lst pa_nil))) pss_nil)
      (pss_cons (ps_set (i := 2) sc_read.nd rfl (Or.inl rfl) (pe_split (pv 1) pe_str))
      (pss_cons (ps_if (pt_cmpR op_gt (pe_callB call_len_seq (by rfl) m_len PySem.boot_len (pa_cons (pv 2) pa_nil)) (pe_glob (v := V.int 12) (by rfl) m_MOST_MIXTURES ⟨_, rfl⟩) (nomark _)) (pss_one (ps_raise rfl (takes_of rfl rfl rfl rfl) (pmk_own PySem.F.excBase_ValueError X_NoNote.x X_NoNote.g X_NoNote.k (raises_own X_NoNote.b X_NoNote.t) rfl))) pss_nil)
      (pss_one (ps_ret (pe_lcX (own := [("word", 3)]) (g := gName 3) (tt := tYes) (te := (tCallS (spMixOf CN) (fun _ => E) (tCons (tVar 0) (tCons (tVar 3) tNil)))) rfl rfl (takes_of rfl rfl rfl rfl) (fun _ _ _ _ h => h) (by rfl) sc_read.nd (pi_list (pv 2)) (blkOk_by (own := [("word", 3)]) (by kernel_rfl)) (fun _ _ _ _ _ => pg_name (i := 3) sc_read.nd rfl (Or.inl rfl)) (fun _ _ _ _ _ => pts_nil)
        (fun _ _ _ _ _ _ hp => (pe_callS D_mixture_of.ok (hr.mono (by decide)) (by rfl) D_mixture_of.g D_mixture_of.kp D_mixture_of.b hp (pa_cons (pv 0) (pa_cons (pv 3) pa_nil))))))))))), ?_⟩
    refine ⟨_, rfl, n, rfl, fun ok H1 e1 => ?_, fun no H1 e1 => kW no H1 e1⟩
    refine q_when (b := decide (cs = [])) (et_is (et_test (ev_op (ev_var rfl) ev_c (rv_eq rfl))) ?_) (fun z H2 e2 => ?_) (fun z H2 e2 => ?_)
    · refine decide_eq_decide.mpr ⟨fun z => ?_, fun z => by subst z; rw [empty_eq] <;> rfl⟩
      have z' : mk cs = mk [] := by
        rw [← empty_eq]
        injection z
      exact mk_inj z'
    · exact s_retL (el_lst ea_nil (Nat.zero_le _)) fun r H3 hr3 e3 hr3' => k ok (of_decide_eq_true z) H3 _ ((e1.trans e2).trans e3)
    have hne := of_decide_eq_false z
    have hb : badT n cs := (hbad ok).resolve_left hne
    have hws : (wordsC cs).length ≤ cs.length + 2 := by
      have := split_le (mk cs) ⟨#[32]⟩
      rw [split_words, List.length_map, mk_len] at this
      exact this
    refine q_asgL (xs := (wordsC cs).map fun x => V.str (mk x)) (fun H3 e3 Q3 q3 => ⟨_, rfl, ⟨_, rfl⟩, mk cs, " ", rfl, rfl, by decide +kernel, ?_, fun p hp => ?_⟩) fun p H3 hp e3 hp' => ?_
    · rw [mk_len]
      exact sz_of (by omega)
    · have hsplit : Txt.split (mk cs) (" " : Str) = (wordsC cs).map mk := by
        rw [blank_eq]
        exact split_words cs
      rw [hsplit]
      refine q3 p _ hp (Ex.new hp) ?_
      rw [upd_same, List.map_map]
      rfl
    have hl2 : ((wordsC cs).map fun x => V.str (mk x)).length = (wordsC cs).length := List.length_map _
    refine q_when (b := decide (12 < ((wordsC cs).length : Int))) (et_is (et_test (ev_op (ev_len (ev_var rfl) (sq_of hp')) ev_c rv_I0)) (by rw [hl2])) (fun c H4 e4 => kN ok hne H4 (((e1.trans e2).trans e3).trans e4)) (fun c H4 e4 => ?_)
    have e14 := ((e1.trans e2).trans e3).trans e4
    have h12 : ¬ 12 < (wordsC cs).length := by have := of_decide_eq_false c; omega
    obtain ⟨wb, hwb, hnb⟩ := hb.resolve_left h12
    have hw : Wk (iList K (tVar 2)) [some (.int n), some (.str (mk cs)), some (.ref p), none] H4 ((wordsC cs).map fun x => V.str (mk x)) := wk_list (ev_var rfl) (sq_of (e4 _ _ hp'))
    show tLc (iList K (tVar 2)) (gName 3) tYes (tCallS (spMixOf CN) (fun _ => E) (tCons (tVar 0) (tCons (tVar 3) tNil))) [3] [some (.int n), some (.str (mk cs)), some (.ref p), none] H4 Q
    unfold tLc
    refine hw H4 (Ex.refl _) _ fun J H5 e5 hJ => ?_
    intro D hD
    refine ⟨fun i m H' => m = (wordsC cs).length - i ∧ i ≤ (wordsC cs).length ∧ Ex H5 H' ∧ (∀ x ∈ (wordsC cs).take i, goodW n x) ∧ ∃ acc, H' D = some (.lst acc) ∧ acc.length = i, ⟨_, rfl, Nat.zero_le _, Ex.new hD, fun x hx => by simp at hx, [], upd_same, rfl⟩, ?_⟩
    rintro i m H6 ⟨rfl, hi, e6, hall, acc, hacc, hla⟩
    by_cases hlt : i < (wordsC cs).length
    · have hwi : (wordsC cs)[i]? = some (wordsC cs)[i] := List.getElem?_eq_getElem hlt
      generalize (wordsC cs)[i] = wi at hwi
      obtain ⟨go, yld⟩ := (hJ i H6 e6).1 (.str (mk wi)) (by rw [List.getElem?_map, hwi]; rfl)
      refine .inr ⟨go, fun H' => Ex H5 H' ∧ (∀ x ∈ (wordsC cs).take (i + 1), goodW n x) ∧ ∃ acc, H' D = some (.lst acc) ∧ acc.length = i + 1, fun H' z => ⟨(wordsC cs).length - (i + 1), by omega, rfl, hlt, z⟩, fun x H7 hy => ?_⟩
      obtain ⟨rfl, rfl⟩ := yld x H7 hy
      refine ⟨rfl, ?_⟩
      unfold tYes
      dsimp only
      rw [if_pos rfl]
      refine ⟨_, rfl, _, rfl, n, wi, rfl, ?_, fun gw H8 r e8 nr => ⟨acc, e8 _ _ hacc, by rw [hla]; exact sz_lt (by omega), Ex.mut (e6.trans e8) hD, fun x hx => ?_, acc ++ [.ref r], upd_same, by rw [List.length_append, hla]; rfl⟩, fun _ H8 e8 => kN ok hne H8 (((e14.trans e5).trans e6).trans e8)⟩
      · have := word_len hwi
        omega
      · rcases mem_take_succ hwi hx with hx | rfl
        · exact hall x hx
        · exact gw
    · exfalso
      have hn : i = (wordsC cs).length := by omega
      subst hn
      rw [List.take_length] at hall
      exact hnb (hall wb hwb)
theorem sc__law_cell_at : FnScope ["script", "k"] ["script", "k"] (defScope s__law_cell_at) := ⟨rfl, rfl, rfl, by decide +kernel, rfl, by decide +kernel, by decide +kernel⟩
theorem d__law_cell_at {f : Addr} {fd : FuncData} (F : FnP K "_law_cell_at" s__law_cell_at f fd) (g : mg "_law_cell_at" = some (.ref f)) (m_len : mg "len" = none) : Def P w K mg base 1 "_law_cell_at" ["script", "k"] (spCellAt K) f fd := by
  refine ⟨?_, F.bindsN fun _ _ _ _ _ _ us hl => match us, hl with | [_, _], _ => rfl, g, F.kp⟩
  refine F.ok sc__law_cell_at (fun vs H Q E h => ?_) (fun cdv A outer s H vs Q E hr h => ?_)
  · obtain ⟨a, ns, i, rfl, _⟩ := h
    rfl
  · obtain ⟨a, ns, i, rfl, ha, k⟩ := h
    refine ⟨_, PSs.nox (pss_cons (ps_if (pt_cmpR op_lt (pv 1) (pe_callB call_len_seq (by rfl) m_len PySem.boot_len (pa_cons (pv 0) pa_nil)) (nomark _)) (pss_one (ps_ret (pe_ix ix_list (pv 0) (pv 1) (fun _ _ => rfl)))) pss_nil)
      (pss_one (ps_ret pe_int))), ?_⟩
    refine q_when (b := decide ((i : Int) < ((ns.map V.int).length : Int))) (et_test (ev_op (ev_var rfl) (ev_len (ev_var rfl) ha) rv_I0)) (fun c H1 e1 => ?_) (fun c H1 e1 => ?_)
    · have c' := of_decide_eq_true c
      rw [List.length_map] at c'
      have hi : i < ns.length := by omega
      refine s_ret (v := .int (cellAt ns i)) (ev_op (ev_var rfl) (ev_var rfl) (rv_ixL (ex_l e1 ha) (at_ints ?_))) fun H2 e2 => k H2 (e1.trans e2)
      unfold cellAt
      rw [List.getD_eq_getElem?_getD, List.getElem?_eq_getElem hi]
      rfl
    · have c' := of_decide_eq_false c
      rw [List.length_map] at c'
      have hz : cellAt ns i = 0 := by
        unfold cellAt
        rw [List.getD_eq_getElem?_getD, List.getElem?_eq_none (by omega)]
        rfl
      refine s_ret (v := .int 0) ev_c fun H2 e2 => ?_
      have := k H2 (e1.trans e2)
      rw [hz] at this
      exact this
theorem sc__law_word_of : FnScope ["e", "kinds"] ["e"] (defScope s__law_word_of) := ⟨rfl, rfl, rfl, by decide +kernel, rfl, by decide +kernel, by decide +kernel⟩
theorem d__law_word_of {f CPot CW CP CS CM CA CF CT CN : Addr} {fd : FuncData} (F : FnP K "_law_word_of" s__law_word_of f fd) (g : mg "_law_word_of" = some (.ref f)) (X_NoWares : ExC K mg "NoWares" CW) (X_NoPlan : ExC K mg "NoPlan" CP) (X_NoSet : ExC K mg "NoSet" CS) (X_NoMost : ExC K mg "NoMost" CM) (X_NoAnswers : ExC K mg "NoAnswers" CA) (X_NoFit : ExC K mg "NoFit" CF) (X_NotTold : ExC K mg "NotTold" CT) (X_NoNote : ExC K mg "NoNote" CN)
    (m_isinstance : mg "isinstance" = none) (m_ValueError : mg "ValueError" = none) (e_err : ErrC K CPot [CW, CP, CS, CM, CA, CF, CT, CN]) : DefE P w K mg base 1 "_law_word_of" ["e"] [CW, CP, CS, CM, CA, CF, CT, CN] f fd := by
  refine ⟨fun p i D hD hz hf => ?_, F.bindsN fun _ _ _ _ _ _ us hl => match us, hl with | [_], _ => rfl, g, F.kp⟩
  refine fnE_of F sc__law_word_of (fun vs H Q E h => ?_) (fun cdv A outer s H vs Q E hr h => ?_)
  · obtain ⟨rfl, _⟩ := h
    rfl
  · obtain ⟨rfl, k⟩ := h
    have hp : (p.1, p.2) ∈ (L2H.cxH (L2.CX P w) P w K mg base ["e", "kinds"] "_law_word_of" (defScope s__law_word_of) f cdv A outer s H E p).nox.pn := List.mem_singleton.mpr rfl
    refine ⟨_, PSs.nox (pss_cons (ps_set (i := 1) sc__law_word_of.nd rfl (Or.inl rfl) (pe_lst (pa_cons (pe_callB (call_isP hp (e_err.exc _ _ hD) hz hf) (by rfl) m_isinstance (by decide +kernel) (pa_cons (pv 0) (pa_cons (pe_glob (v := V.ref _) (by rfl) X_NoWares.g rfl) pa_nil))) (pa_cons (pe_callB (call_isP hp (e_err.exc _ _ hD) hz hf) (by rfl) m_isinstance (by decide +kernel) (pa_cons (pv 0) (pa_cons (pe_glob (v := V.ref _) (by rfl) X_NoPlan.g rfl) pa_nil))) (pa_cons (pe_callB (call_isP hp (e_err.exc _ _ hD) hz hf) (by rfl) m_isinstance (by decide +kernel) (pa_cons (pv 0) (pa_cons (pe_glob (v := V.ref _) (by rfl) X_NoSet.g rfl) pa_nil))) (pa_cons (pe_callB (call_isP hp (e_err.exc _ _ hD) hz hf) (by rfl) m_isinstance (by decide +kernel) (pa_cons (pv 0) (pa_cons (pe_glob (v := V.ref _) (by rfl) X_NoMost.g rfl) pa_nil))) pa_nil))))))
      (pss_cons (ps_set (i := 1) sc__law_word_of.nd rfl (Or.inl rfl) (pe_op op_cat (pv 1) (pe_lst (pa_cons (pe_callB (call_isP hp (e_err.exc _ _ hD) hz hf) (by rfl) m_isinstance (by decide +kernel) (pa_cons (pv 0) (pa_cons (pe_glob (v := V.ref _) (by rfl) X_NoAnswers.g rfl) pa_nil))) (pa_cons (pe_callB (call_isP hp (e_err.exc _ _ hD) hz hf) (by rfl) m_isinstance (by decide +kernel) (pa_cons (pv 0) (pa_cons (pe_glob (v := V.ref _) (by rfl) X_NoFit.g rfl) pa_nil))) (pa_cons (pe_callB (call_isP hp (e_err.exc _ _ hD) hz hf) (by rfl) m_isinstance (by decide +kernel) (pa_cons (pv 0) (pa_cons (pe_glob (v := V.ref _) (by rfl) X_NotTold.g rfl) pa_nil))) (pa_cons (pe_callB (call_isP hp (e_err.exc _ _ hD) hz hf) (by rfl) m_isinstance (by decide +kernel) (pa_cons (pv 0) (pa_cons (pe_glob (v := V.ref _) (by rfl) X_NoNote.g rfl) pa_nil))) pa_nil)))))))
      (pss_cons (ps_if (PW.pt (pw_or (pt_cmpR op_ne (pe_bm PySem.F.plainAttrs_list PySem.F.slot_list_count PySem.F.type_list_count (mt_countB (hu64 hr)) (pv 1) (pa_cons pe_bl pa_nil)) pe_int (nomark _)) (pw_or1 (pt_not (pt_val (pe_callB (call_isP hp (e_err.exc _ _ hD) hz hf) (by rfl) m_isinstance (by decide +kernel) (pa_cons (pv 0) (pa_cons (pe_bltn (v := V.ty "ValueError") (by rfl) m_ValueError (by decide +kernel) rfl) pa_nil)))))))) (pss_one (ps_ret pe_str)) pss_nil)
      (pss_one (ps_ret (pe_ix ix_list (pe_lst (pa_cons pe_str (pa_cons pe_str (pa_cons pe_str (pa_cons pe_str (pa_cons pe_str (pa_cons pe_str (pa_cons pe_str (pa_cons pe_str pa_nil))))))))) (pe_bm PySem.F.plainAttrs_list PySem.F.slot_list_index PySem.F.type_list_index mt_index (pv 1) (pa_cons pe_bl pa_nil)) (fun _ _ => rfl))))))), ?_⟩
    have is : ∀ {σ : L2.St} {H1 : Hp} (j : Nat) (C : Addr), [CW, CP, CS, CM, CA, CF, CT, CN][j]? = some C → σ[0]? = some (some (.ref p.1)) → Ev (tCB (rIsE K D p.1) (tCons (tVar 0) (tCons (tC (.ref C)) tNil))) σ H1 (.bl (decide (i = j))) := fun {σ H1} j C hj h0 =>
      ev_cb (ea_cons (ev_var h0) (ea_cons ev_c ea_nil)) fun H2 e2 Q q => ⟨.ref C, .ref C, _, rfl, fun u hu => hu, e_err.one _ _ _ _ hD hj, q H2 (Ex.refl _)⟩
    have isV : ∀ {σ : L2.St} {H1 : Hp}, σ[0]? = some (some (.ref p.1)) → Ev (tCB (rIsE K D p.1) (tCons (tVar 0) (tCons (tC (.ty "ValueError")) tNil))) σ H1 (.bl true) := fun {σ H1} h0 =>
      ev_cb (ea_cons (ev_var h0) (ea_cons ev_c ea_nil)) fun H2 e2 Q q => ⟨.ty "ValueError", .type "ValueError", _, rfl, fun u hu => hu, e_err.ve _ _ hD, q H2 (Ex.refl _)⟩
    have hi : i < 8 := (List.getElem?_eq_some_iff.mp hD).1
    refine q_asgL (xs := [.bl (decide (i = 0)), .bl (decide (i = 1)), .bl (decide (i = 2)), .bl (decide (i = 3))]) (el_lst (ea_cons (is 0 _ rfl rfl) (ea_cons (is 1 _ rfl rfl) (ea_cons (is 2 _ rfl rfl) (ea_cons (is 3 _ rfl rfl) ea_nil)))) (by show 4 ≤ 100000; decide)) fun a1 H1 h1 e1 h1' => ?_
    refine q_asgL (el_cat1 (ev_var rfl) h1' (el_lst (vs := [.bl (decide (i = 4)), .bl (decide (i = 5)), .bl (decide (i = 6)), .bl (decide (i = 7))]) (ea_cons (is 4 _ rfl rfl) (ea_cons (is 5 _ rfl rfl) (ea_cons (is 6 _ rfl rfl) (ea_cons (is 7 _ rfl rfl) ea_nil)))) (by show 4 ≤ 100000; decide)) (by show 4 + 4 ≤ 100000; decide)) fun a2 H2 h2 e2 h2' => ?_
    have hb : ∃ bs : List Bool, H2 a2 = some (.lst (bs.map V.bl)) ∧ bs.count true = 1 ∧ bs[i]? = some true ∧ (∀ m, m < i → bs[m]? = some false) := by
      refine ⟨[decide (i = 0), decide (i = 1), decide (i = 2), decide (i = 3), decide (i = 4), decide (i = 5), decide (i = 6), decide (i = 7)], h2', ?_, ?_, fun m hm => ?_⟩
      · rcases (by omega : i = 0 ∨ i = 1 ∨ i = 2 ∨ i = 3 ∨ i = 4 ∨ i = 5 ∨ i = 6 ∨ i = 7) with rfl | rfl | rfl | rfl | rfl | rfl | rfl | rfl <;> rfl
      · rcases (by omega : i = 0 ∨ i = 1 ∨ i = 2 ∨ i = 3 ∨ i = 4 ∨ i = 5 ∨ i = 6 ∨ i = 7) with rfl | rfl | rfl | rfl | rfl | rfl | rfl | rfl <;> rfl
      · have hm8 : m < 8 := by omega
        have hne : ¬ i = m := by omega
        rcases (by omega : m = 0 ∨ m = 1 ∨ m = 2 ∨ m = 3 ∨ m = 4 ∨ m = 5 ∨ m = 6 ∨ m = 7) with rfl | rfl | rfl | rfl | rfl | rfl | rfl | rfl <;> simp [hne]
    obtain ⟨bs, hbs, hc, hat, hno⟩ := hb
    have bm1 : ∀ {r : V → List V → Hp → VK → Prop} {σ : L2.St} {H3 : Hp} {z : V}, Ex H2 H3 → σ[1]? = some (some (.ref a2)) → (∀ H4, Ex H2 H4 → ∀ Q : VK, Q z H4 → r (.ref a2) [.bl true] H4 Q) → Ev (tBM K "list" r (tVar 1) (tCons (tC (.bl true)) tNil)) σ H3 z := fun {r σ H3 z} e h1 hr H4 e4 Q q =>
      ⟨_, h1, Or.inl ⟨rfl, _, sq_of ((e.trans e4) _ _ hbs)⟩, hr H4 (e.trans e4) Q (q H4 (Ex.refl _))⟩
    refine q_when (b := false) (et_is (et_or (et_test (ev_op (bm1 (Ex.refl _) rfl fun H4 e4 Q q => ⟨a2, bs, true, rfl, rfl, sq_of (e4 _ _ hbs), q⟩) ev_c (rv_ne rfl))) fun _ => et_not (et_B (isV rfl))) (by rw [hc]; rfl)) (fun c => nomatch c) (fun _ H3 e3 => ?_)
    have flat : (bs.map V.bl).all flatV = true := by
      rw [List.all_eq_true]
      intro x hx
      obtain ⟨z, _, rfl⟩ := List.mem_map.mp hx
      rfl
    have hlit : (words.map V.str)[i]? = some (.str (words.getD i "")) := by
      rcases (by omega : i = 0 ∨ i = 1 ∨ i = 2 ∨ i = 3 ∨ i = 4 ∨ i = 5 ∨ i = 6 ∨ i = 7) with rfl | rfl | rfl | rfl | rfl | rfl | rfl | rfl <;> rfl
    refine s_ret (v := .str (words.getD i "")) (ev_opL1 (xs := words.map V.str) (y := .int (i : Int)) (el_lst (ea_cons ev_c (ea_cons ev_c (ea_cons ev_c (ea_cons ev_c (ea_cons ev_c (ea_cons ev_c (ea_cons ev_c (ea_cons ev_c ea_nil)))))))) (by show 8 ≤ 100000; decide))
      (fun H4 e4 => bm1 (e3.trans e4) rfl fun H5 e5 Q q => ⟨a2, bs.map V.bl, .bl true, i, .bl true, rfl, rfl, sq_of (e5 _ _ hbs), rfl, flat, by rw [List.getElem?_map, hat]; rfl, rfl, fun m z' hm hz' => ?_, q⟩) fun r H4 hr4 e4 => rv_ixL (sq_of hr4) (atI_nat hlit)) fun H4 e4 => k H4 (((e1.trans e2).trans e3).trans e4)
    rw [List.getElem?_map, hno m hm] at hz'
    obtain rfl := Option.some.inj hz'
    rfl
theorem sc__law_some_by : FnScope ["cell", "wares", "found", "ware"] ["cell", "wares"] (defScope s__law_some_by) := ⟨rfl, rfl, rfl, by decide +kernel, rfl, by decide +kernel, by decide +kernel⟩
theorem d__law_some_by {f : Addr} {fd : FuncData} (F : FnP K "_law_some_by" s__law_some_by f fd) (g : mg "_law_some_by" = some (.ref f)) (m_range : mg "range" = none) : Def P w K mg base 1 "_law_some_by" ["cell", "wares"] spSomeBy f fd := by
  refine ⟨?_, F.bindsN fun _ _ _ _ _ _ us hl => match us, hl with | [_, _], _ => rfl, g, F.kp⟩
  refine F.ok sc__law_some_by (fun vs H Q E h => ?_) (fun cdv A outer s H vs Q E hr h => ?_)
  · obtain ⟨c, n, rfl, _⟩ := h
    rfl
  · obtain ⟨c, n, rfl, h0, h1, k⟩ := h
    refine ⟨_, PSs.nox (pss_cons (ps_set (i := 2) sc__law_some_by.nd rfl (Or.inl rfl) (pe_lst pa_nil))
      (pss_cons (ps_for PassesOwn.never rfl (pi_range1 (by rfl) m_range (pa_cons (pv 1) pa_nil)) (pg_name (i := 3) sc__law_some_by.nd rfl (Or.inl rfl)) (pss_cons (ps_if (pt_cmpR op_eq (pe_op op_mod (pv 0) pe_int) pe_int (nomark _)) (pss_one (ps_expr (pe_bm PySem.F.plainAttrs_list PySem.F.slot_list_append PySem.F.type_list_append mt_append (pv 2) (pa_cons (pv 3) pa_nil)))) pss_nil)
      (pss_one (ps_set (i := 0) sc__law_some_by.nd rfl (Or.inl rfl) (pe_op op_fdiv (pv 0) pe_int)))))
      (pss_one (ps_ret (pv 2))))), ?_⟩
    refine q_asgL (xs := []) (el_lst ea_nil (Nat.zero_le _)) fun p H1 hp e1 hp1 => ?_
    refine q_forR1 (n := n) (ea_cons (ev_var rfl) ea_nil) ⟨h0, by omega⟩ (fun i σ' H' => ∃ y : Option V, σ' = [some (.int (cellUp c i)), some (.int n), some (.ref p), y] ∧ i ≤ n.toNat ∧ Ex H H' ∧ H' p = some (.lst ((someUp c i).map V.int)))
      (fun H2 e2 => ⟨none, rfl, Nat.zero_le _, e1.trans e2, e2 _ _ hp1⟩) ?_ ?_
    · rintro i σ' H' hi ⟨y, rfl, hin, e, hpl⟩
      have hlen := someUp_len c i
      refine q_when (b := decide (V.int (cellUp c i % 2) = V.int 1)) (et_test (ev_op (ev_op (ev_var rfl) ev_c (rv_I (by decide))) ev_c (rv_eq rfl))) (fun cc H2 e2 => ?_) (fun cc H2 e2 => ?_)
      · rw [dec_int] at cc
        have cc' := of_decide_eq_true cc
        refine q_app (xs := (someUp c i).map V.int) (e2 _ _ hpl) (ev_var rfl) (ev_var rfl) (by rw [List.length_map]; omega) fun H3 e3 => ?_
        refine s_asg (v := .int (cellUp c (i + 1))) (ev_op (ev_var rfl) ev_c (rv_I ⟨by decide, by decide⟩)) fun H4 e4 => ?_
        refine ⟨some (.int (i : Int)), rfl, by omega, (Ex.mut ((e.trans e2).trans e3) hp).trans e4, ?_⟩
        have := e4 _ _ (upd_same (H := H3) (a := p) (o := HO.lst ((someUp c i).map V.int ++ [V.int (i : Int)])))
        rw [this, someUp, if_pos cc', List.map_append]
        rfl
      · rw [dec_int] at cc
        have cc' := of_decide_eq_false cc
        refine s_asg (v := .int (cellUp c (i + 1))) (ev_op (ev_var rfl) ev_c (rv_I ⟨by decide, by decide⟩)) fun H4 e4 => ?_
        refine ⟨some (.int (i : Int)), rfl, by omega, (e.trans e2).trans e4, ?_⟩
        rw [(e2.trans e4) _ _ hpl, someUp, if_neg cc', List.append_nil]
    · rintro σ' H' ⟨y, rfl, _, e, hpl⟩
      exact ⟨_, rfl, k H' p e ⟨hp, hpl⟩⟩
theorem sc__law_plan_by : FnScope ["script", "wares", "plan", "kind", "bit", "k", "cell", "mixture", "at", "ware"] ["script"] (defScope s__law_plan_by) := ⟨rfl, rfl, rfl, by decide +kernel, rfl, by decide +kernel, by decide +kernel⟩
theorem d__law_plan_by {f : Addr} {fd : FuncData} (F : FnP K "_law_plan_by" s__law_plan_by f fd) (g : mg "_law_plan_by" = some (.ref f)) (m_len : mg "len" = none) (m_range : mg "range" = none) (m_list : mg "list" = none)
    {fC fB : Addr} {dC dB' : FuncData} (D__law_cell_at : Def P w K mg base 1 "_law_cell_at" ["script", "k"] (spCellAt K) fC dC) (D__law_some_by : Def P w K mg base 1 "_law_some_by" ["cell", "wares"] spSomeBy fB dB') :
    Def P w K mg base 2 "_law_plan_by" ["script"] (spPlanBy K) f fd := by
  refine ⟨?_, F.bindsN fun _ _ _ _ _ _ us hl => match us, hl with | [_], _ => rfl, g, F.kp⟩
  refine F.ok sc__law_plan_by (fun vs H Q E h => ?_) (fun cdv A outer s H vs Q E hr h => ?_)
  · obtain ⟨a, ns, rfl, _⟩ := h
    rfl
  · obtain ⟨a, ns, rfl, ha, hns, k⟩ := h
    have cell : ∀ (i : Nat) {σ : L2.St} {H1 : Hp} {ta : TE} {E : XK}, Ex H H1 → σ[0]? = some (some (.ref a)) → Ev ta σ H1 (.int (i : Int)) → Ev (tCall (spCellAt K) [] E (tCons (tVar 0) (tCons ta tNil))) σ H1 (.int (cellAt ns i)) := fun i {σ H1 ta E} e h0 hi =>
      ev_call (ea_cons (ev_var h0) (ea_cons hi ea_nil)) fun H2 e2 Q2 q2 E2 => ⟨a, ns, i, rfl, ex_l (e.trans e2) ha, q2⟩
    generalize hn : 1 + cellAt ns 0 % 8 = n
    have ok : okW n := by unfold okW; omega
    have okn : 1 ≤ n ∧ n ≤ 8 := ok
    refine ⟨_, PSs.nox (pss_cons (ps_set (i := 1) sc__law_plan_by.nd rfl (Or.inl rfl) (pe_op op_add pe_int (pe_op op_mod (pe_call D__law_cell_at.ok (hr.mono (by decide)) (by rfl) D__law_cell_at.g D__law_cell_at.kp D__law_cell_at.b .nil passL (pa_cons (pv 0) (pa_cons pe_int pa_nil))) pe_int)))
      (pss_cons (ps_set (i := 2) sc__law_plan_by.nd rfl (Or.inl rfl) (pe_lst pa_nil))
      (pss_cons (ps_set (i := 3) sc__law_plan_by.nd rfl (Or.inl rfl) (pe_op op_mod (pe_call D__law_cell_at.ok (hr.mono (by decide)) (by rfl) D__law_cell_at.g D__law_cell_at.kp D__law_cell_at.b .nil passL (pa_cons (pv 0) (pa_cons pe_int pa_nil))) pe_int))
      (pss_cut (ps_if (pt_cmpR op_eq (pv 3) pe_int (nomark _)) (pss_one (ps_setLc (i := 2) (own := [("ware", 9)]) (g := gName 9) (tt := tYes) (te := (tLst (tCons (tVar 9) tNil))) (by rfl) sc__law_plan_by.nd rfl rfl (sw_true rfl rfl rfl (by decide +kernel)) (pi_range1 (by rfl) m_range (pa_cons (pv 1) pa_nil)) (blkOk_by (own := [("ware", 9)]) (by kernel_rfl)) (fun _ _ _ _ _ => pg_name (i := 9) sc__law_plan_by.nd rfl (Or.inl rfl)) (fun _ _ _ _ _ => pts_nil) (fun _ _ _ _ _ => (pe_lst (pa_cons (pv 9) pa_nil))))) pss_nil)
      (pss_cut (ps_if (pt_cmpR op_eq (pv 3) pe_int (nomark _)) (pss_one (ps_for PassesOwn.never rfl (pi_list (pe_lst (pa_cons pe_int (pa_cons pe_int (pa_cons pe_int pa_nil))))) (pg_name (i := 4) sc__law_plan_by.nd rfl (Or.inr rfl)) (pss_cons (ps_expr (pe_bm PySem.F.plainAttrs_list PySem.F.slot_list_append PySem.F.type_list_append mt_append (pv 2) (pa_cons (pe_lc (own := [("ware", 9)]) (g := gName 9) (tt := (tTest (tOp rEq (tOp (rI (fun _ j => 0 < j) fun i j => .int (i % j)) (tOp (rI CDiv fun i j => .int (i / j)) (tVar 9) (tVar 4)) (tC (.int 2))) (tC (.int 1))))) (te := (tVar 9)) (by rfl) sc__law_plan_by.nd (pi_range1 (by rfl) m_range (pa_cons (pv 1) pa_nil)) (blkOk_by (own := [("ware", 9)]) (by kernel_rfl)) (fun _ _ _ _ _ => pg_name (i := 9) sc__law_plan_by.nd rfl (Or.inl rfl)) (fun _ _ _ _ _ => pts_one (pt_cmpR op_eq (pe_op op_mod (pe_op op_fdiv (pv 9) (pv 4)) pe_int) pe_int (nomark _))) (fun _ _ _ _ _ => (pv 9))) pa_nil)))
      (pss_one (ps_expr (pe_bm PySem.F.plainAttrs_list PySem.F.slot_list_append PySem.F.type_list_append mt_append (pv 2) (pa_cons (pe_lc (own := [("ware", 9)]) (g := gName 9) (tt := (tTest (tOp rEq (tOp (rI (fun _ j => 0 < j) fun i j => .int (i % j)) (tOp (rI CDiv fun i j => .int (i / j)) (tVar 9) (tVar 4)) (tC (.int 2))) (tC (.int 0))))) (te := (tVar 9)) (by rfl) sc__law_plan_by.nd (pi_range1 (by rfl) m_range (pa_cons (pv 1) pa_nil)) (blkOk_by (own := [("ware", 9)]) (by kernel_rfl)) (fun _ _ _ _ _ => pg_name (i := 9) sc__law_plan_by.nd rfl (Or.inl rfl)) (fun _ _ _ _ _ => pts_one (pt_cmpR op_eq (pe_op op_mod (pe_op op_fdiv (pv 9) (pv 4)) pe_int) pe_int (nomark _))) (fun _ _ _ _ _ => (pv 9))) pa_nil))))))) pss_nil)
      (pss_cons (ps_setLc (i := 2) (own := [("mixture", 7)]) (g := gName 7) (tt := (tTest (tOp (rNeD K) (tVar 7) (tLst tNil)))) (te := (tVar 7)) (by rfl) sc__law_plan_by.nd rfl rfl (sw_true rfl rfl rfl (by decide +kernel)) (pi_list (pv 2)) (blkOk_by (own := [("mixture", 7)]) (by kernel_rfl)) (fun _ _ _ _ _ => pg_name (i := 7) sc__law_plan_by.nd rfl (Or.inl rfl)) (fun _ _ _ _ _ => pts_one (pt_cmpR (op_neD hr.units) (pv 7) (pe_lst pa_nil) (nomark _))) (fun _ _ _ _ _ => (pv 7)))
      (pss_cons (ps_for PassesOwn.never rfl (pi_range1 (by rfl) m_range (pa_cons (pe_op op_mod (pe_call D__law_cell_at.ok (hr.mono (by decide)) (by rfl) D__law_cell_at.g D__law_cell_at.kp D__law_cell_at.b .nil passL (pa_cons (pv 0) (pa_cons pe_int pa_nil))) pe_int) pa_nil)) (pg_name (i := 5) sc__law_plan_by.nd rfl (Or.inl rfl)) (pss_cons (ps_set (i := 6) sc__law_plan_by.nd rfl (Or.inl rfl) (pe_call D__law_cell_at.ok (hr.mono (by decide)) (by rfl) D__law_cell_at.g D__law_cell_at.kp D__law_cell_at.b .nil passL (pa_cons (pv 0) (pa_cons (pe_op op_add pe_int (pv 5)) pa_nil))))
      (pss_cons (ps_set (i := 7) sc__law_plan_by.nd rfl (Or.inl rfl) (pe_call D__law_some_by.ok (hr.mono (by decide)) (by rfl) D__law_some_by.g D__law_some_by.kp D__law_some_by.b .nil passL (pa_cons (pe_op op_fdiv (pv 6) pe_int) (pa_cons (pv 1) pa_nil))))
      (pss_cut (ps_if (pt_cmpR (op_eqD hr.units) (pv 7) (pe_lst pa_nil) (nomark _)) (pss_one (ps_set (i := 7) sc__law_plan_by.nd rfl (Or.inl rfl) (pe_lst (pa_cons (pe_op op_mod (pv 6) (pv 1)) pa_nil)))) pss_nil)
      (pss_cut (ps_if (PW.pt (pw_and (pt_cmpR (op_neD hr.units) (pv 2) (pe_lst pa_nil) (nomark _)) (pw_and1 (pt_cmpR op_eq (pe_op op_mod (pe_op op_fdiv (pv 6) pe_int) pe_int) pe_int (nomark _))))) (pss_one (ps_set (i := 7) sc__law_plan_by.nd rfl (Or.inl rfl) (pe_callTy call_list_of (by rfl) m_list (by decide +kernel) (pa_cons (pe_ix ix_list (pv 2) (pe_op op_mod (pe_op op_fdiv (pv 6) pe_int) (pe_callB call_len_seq (by rfl) m_len PySem.boot_len (pa_cons (pv 2) pa_nil))) (fun _ _ => rfl)) pa_nil)))) pss_nil)
      (pss_one (ps_if (pt_cmpR op_lt (pe_callB call_len_seq (by rfl) m_len PySem.boot_len (pa_cons (pv 2) pa_nil)) pe_int (nomark _)) (pss_cons (ps_set (i := 8) sc__law_plan_by.nd rfl (Or.inl rfl) (pe_op op_mod (pe_op op_fdiv (pe_op op_fdiv (pv 6) pe_int) pe_int) (pe_op op_add (pe_callB call_len_seq (by rfl) m_len PySem.boot_len (pa_cons (pv 2) pa_nil)) pe_int)))
      (pss_one (ps_set (i := 2) sc__law_plan_by.nd rfl (Or.inl rfl) (pe_op op_cat (pe_op op_cat (pe_slice sl_list (pv 2) po_none (po_some (pv 8))) (pe_lst (pa_cons (pv 7) pa_nil))) (pe_slice sl_list (pv 2) (po_some (pv 8)) po_none))))) pss_nil)))))))
      (pss_one (ps_ret (pe_tup (pa_cons (pv 1) (pa_cons (pv 2) pa_nil)))))))))))), ?_⟩
    -- wares, plan, kind
    refine q_asg (v := .int n) (ev_of (ev_op ev_c (ev_op (cell 0 (Ex.refl _) rfl ev_c) ev_c (rv_I (by decide))) rv_I0) (by rw [hn])) fun H1 e1 => ?_
    refine q_asgL (xs := []) (el_lst ea_nil (Nat.zero_le _)) fun p0 H2 hp0 e2 h2 => ?_
    have e02 := e1.trans e2
    refine q_asg (v := .int (cellAt ns 2 % 4)) (ev_op (cell 2 e02 rfl ev_c) ev_c (rv_I (by decide))) fun H3 e3 => ?_
    generalize hk : cellAt ns 2 % 4 = kind
    have e03 := e02.trans e3
    -- kind 1
    refine q_cut (M := fun σ' H' => ∃ (p : Addr) (as : List Addr) (plan : List (List Int)), σ' = [some (.ref a), some (.int n), some (.ref p), some (.int kind), none, none, none, none, none, none] ∧ Ex H H' ∧ H p = none ∧ H' p = some (.lst (as.map V.ref)) ∧
        Paired (fun b xs => b ≠ p ∧ H' b = some (.lst (xs.map V.int))) as plan ∧ plan.length ≤ 8 ∧ (kind ≠ 1 → plan = []) ∧ ∀ m ∈ plan, isSetB n m = true)
      (s_when (b := decide (V.int kind = V.int 1)) (et_test (ev_op (ev_var rfl) ev_c (rv_eq rfl))) (fun c H4 e4 => ?_) (fun c H4 e4 => ?_)) ?_
    · have c' : kind = 1 := by rw [dec_int] at c; exact of_decide_eq_true c
      refine els_mapI (fun x => [x]) (wk_ran1 (ea_cons (ev_var rfl) ea_nil) (okW_b ok)) (ran_small ok) (fun _ => rfl) (fun x hx => el_lst (ea_cons (ev_var rfl) ea_nil) (by show 1 ≤ 100000; decide)) H4 (Ex.refl _) _ fun p as H5 e5 hN => ?_
      refine ⟨p, as, (ran 0 n).map fun x => [x], rfl, (e03.trans e4).trans e5, fresh_back (e03.trans e4) hN.new, hN.at_, paired_mono (paired_map _ hN.each) fun _ _ _ q => q.2, ?_, fun z => absurd c' z, ?_⟩
      · rw [List.length_map, ran_len]
        omega
      · intro m hm
        obtain ⟨x, hx, rfl⟩ := List.mem_map.mp hm
        exact setB_one (mem_ran.mp hx).1 (mem_ran.mp hx).2
    · exact ⟨p0, [], [], rfl, e03.trans e4, fresh_back e1 hp0, (e3.trans e4) _ _ h2, .nil, Nat.zero_le _, fun _ => rfl, fun m hm => nomatch hm⟩
    rintro σ' H4 ⟨p1, as1, plan1, rfl, e04, hp1, hp1', pr1, hl1, hk1, hs1⟩
    -- kind 2
    refine q_cut (M := fun σ' H' => ∃ (y4 : Option V) (as : List Addr) (plan : List (List Int)), σ' = [some (.ref a), some (.int n), some (.ref p1), some (.int kind), y4, none, none, none, none, none] ∧ Ex H H' ∧ H' p1 = some (.lst (as.map V.ref)) ∧
        Paired (fun b xs => b ≠ p1 ∧ H' b = some (.lst (xs.map V.int))) as plan ∧ plan.length ≤ 12 ∧ ∀ m ∈ plan, isSetB n m = true)
      (s_when (b := decide (V.int kind = V.int 2)) (et_test (ev_op (ev_var rfl) ev_c (rv_eq rfl))) (fun c H5 e5 => ?_) (fun c H5 e5 => ?_)) ?_
    · have c' : kind = 2 := by rw [dec_int] at c; exact of_decide_eq_true c
      have hnil : plan1 = [] := hk1 (by omega)
      subst hnil
      have has : as1 = [] := by cases pr1; rfl
      subst has
      have comp : ∀ (bit r : Int) (H1 : Hp), 0 < bit → bit < 5 →
          EvL (tLc (iRng1 (tCons (tVar 1) tNil)) (gName 9) (tTest (tOp rEq (tOp (rI (fun _ j => 0 < j) fun i j => .int (i % j)) (tOp (rI CDiv fun i j => .int (i / j)) (tVar 9) (tVar 4)) (tC (.int 2))) (tC (.int r)))) (tVar 9) [9])
            [some (.ref a), some (.int n), some (.ref p1), some (.int kind), some (.int bit), none, none, none, none, none] H1 (((ran 0 n).filter fun x => decide (x / bit % 2 = r)).map V.int) := fun bit r H1 b0 b5 =>
        el_filt _ (wk_ran1 (ea_cons (ev_var rfl) ea_nil) (okW_b ok)) (ran_small ok) (fun _ => rfl) (fun _ => rfl) fun x hx =>
          et_is (et_test (ev_op (ev_op (ev_op (ev_var rfl) (ev_var rfl) (rv_I ⟨b0, by omega⟩)) ev_c (rv_I (by decide))) ev_c (rv_eq rfl))) (dec_int _ _)
      refine s_forNL (xs := [.int 1, .int 2, .int 4]) (el_lst (ea_cons ev_c (ea_cons ev_c (ea_cons ev_c ea_nil))) (by show 3 ≤ 100000; decide))
        (fun l i σ' H' => l ≠ p1 ∧ H' l = some (.lst [.int 1, .int 2, .int 4]) ∧ ∃ (y4 : Option V) (as : List Addr) (plan : List (List Int)), σ' = [some (.ref a), some (.int n), some (.ref p1), some (.int kind), y4, none, none, none, none, none] ∧ Ex H H' ∧ H' p1 = some (.lst (as.map V.ref)) ∧
          Paired (fun b xs => b ≠ p1 ∧ H' b = some (.lst (xs.map V.int))) as plan ∧ plan.length = 2 * i ∧ ∀ m ∈ plan, isSetB n m = true) (fun l H6 hl6 e6 hl => ⟨?_, hl, none, [], [], rfl, (e04.trans e5).trans e6, (e5.trans e6) _ _ hp1', .nil, rfl, fun m hm => nomatch hm⟩) (fun l i σ' H' _ h => sq_of h.2.1) ?_ ?_
      · exact (ne_of_none (e5 _ _ hp1') hl6).symm
      · rintro l i x σ' H' hx ⟨hlp, hl, y4, as, plan, rfl, e, hpl, pr, hlen, hset⟩
        have hi : i < 3 := (List.getElem?_eq_some_iff.mp hx).1
        obtain ⟨bit, rfl, b0, b5⟩ : ∃ bit, x = V.int bit ∧ 0 < bit ∧ bit < 5 := by
          match i, hi, hx with
          | 0, _, hx => exact ⟨1, (Option.some.inj hx).symm, by decide, by decide⟩
          | 1, _, hx => exact ⟨2, (Option.some.inj hx).symm, by decide, by decide⟩
          | 2, _, hx => exact ⟨4, (Option.some.inj hx).symm, by decide, by decide⟩
        have hasl : as.length = plan.length := pr.length
        refine q_appL (xs := as.map V.ref) hpl (ev_var rfl) (comp bit 1 _ b0 b5) (by rw [List.length_map]; omega) fun q H6 hq e6 hq' => ?_
        have hqp : q ≠ p1 := (ne_of_none hpl hq).symm
        have hp6 : (upd H6 p1 (.lst (as.map V.ref ++ [.ref q]))) p1 = some (.lst (as.map V.ref ++ [.ref q])) := upd_same
        refine s_appL (xs := as.map V.ref ++ [.ref q]) hp6 (ev_var rfl) (comp bit 0 _ b0 b5) (by rw [List.length_append, List.length_map, List.length_singleton]; omega) fun q2 H7 hq2 e7 hq2' => ?_
        have hq2p : q2 ≠ p1 := (ne_of_none hp6 hq2).symm
        have m0 : ∀ (b : Addr) (o : HO), b ≠ p1 → H6 b = some o → (upd H7 p1 (.lst (as.map V.ref ++ [.ref q] ++ [.ref q2]))) b = some o := fun b o nb hb => by
          rw [upd_ne nb]
          exact e7 _ _ (by rw [upd_ne nb]; exact hb)
        refine ⟨hlp, m0 _ _ hlp (e6 _ _ hl), some (.int bit), as ++ [q] ++ [q2], plan ++ [(ran 0 n).filter fun x => decide (x / bit % 2 = 1)] ++ [(ran 0 n).filter fun x => decide (x / bit % 2 = 0)], rfl, ?_, ?_, ?_, ?_, ?_⟩
        · exact Ex.mut ((Ex.mut (e.trans e6) hp1).trans e7) hp1
        · rw [upd_same, List.map_append, List.map_append]
          rfl
        · refine paired_app (paired_app (paired_mono pr fun b xs _ z => ⟨z.1, m0 _ _ z.1 (e6 _ _ z.2)⟩) (.cons ⟨hqp, m0 _ _ hqp hq'⟩ .nil)) (.cons ⟨hq2p, ?_⟩ .nil)
          rw [upd_ne hq2p]
          exact hq2'
        · rw [List.length_append, List.length_append, hlen]
          simp only [List.length_cons, List.length_nil]
          omega
        · intro m hm
          rcases List.mem_append.mp hm with hm | hm
          · rcases List.mem_append.mp hm with hm | hm
            · exact hset m hm
            · obtain rfl := List.mem_singleton.mp hm
              exact setB_filter _
          · obtain rfl := List.mem_singleton.mp hm
            exact setB_filter _
      · rintro l σ' H' ⟨_, _, y4, as, plan, rfl, e, hpl, pr, hlen, hset⟩
        exact ⟨y4, as, plan, rfl, e, hpl, pr, by rw [hlen]; decide, hset⟩
    · exact ⟨none, as1, plan1, rfl, e04.trans e5, e5 _ _ hp1', paired_mono pr1 fun b xs _ q => ⟨q.1, e5 _ _ q.2⟩, by omega, hs1⟩
    rintro σ' H5 ⟨y4, as2, plan2, rfl, e05, hp2, pr2, hl2, hs2⟩
    -- the mixtures that are not empty
    have pr2' : Paired (fun b xs => LI K H5 b xs) as2 plan2 := paired_mono pr2 fun _ _ _ q => sq_of q.2
    obtain ⟨as3, hE3, pr3, sub3⟩ := el_pick (K := K) (wi := iList K (tVar 2)) (tt := tTest (tOp (rNeD K) (tVar 7) (tLst tNil))) (vs := [7]) (j := 7) (σ := [some (.ref a), some (.int n), some (.ref p1), some (.int kind), y4, none, none, none, none, none]) (fun m => !decide (m = [])) pr2' (wk_list (ev_var rfl) (sq_of hp2)) (by omega) (fun _ => rfl) (fun _ => rfl)
      fun b xs hb hx hF => et_is (et_test (ev_opL (ev_var rfl) (el_lst ea_nil (Nat.zero_le _)) fun q H1 hq e1 => rv_neNil (ex_l e1 hF) (nilI xs) hq)) (by cases xs <;> rfl)
    refine q_asgL hE3 fun p3 H6 hp3 e6 hp3' => ?_
    have hgood : planB n (plan2.filter fun m => !decide (m = [])) = true := by
      rw [planB_iff]
      refine ⟨Nat.le_trans (List.length_filter_le _ _) hl2, fun m hm => ?_⟩
      obtain ⟨h1, h2⟩ := List.mem_filter.mp hm
      exact goodMix_iff.mpr ⟨by simpa using h2, hs2 m h1⟩
    -- the drawn mixtures
    have h13 : 0 ≤ cellAt ns 1 % 13 ∧ cellAt ns 1 % 13 ≤ 100000 := by omega
    refine q_forR1 (n := cellAt ns 1 % 13) (ea_cons (ev_op (cell 1 (e05.trans e6) rfl ev_c) ev_c (rv_I (by decide))) ea_nil) h13
      (fun i σ' H' => ∃ (p : Addr) (y5 y6 y7 y8 : Option V) (plan : List (List Int)), σ' = [some (.ref a), some (.int n), some (.ref p), some (.int kind), y4, y5, y6, y7, y8, none] ∧ Ex H H' ∧ LL K H' p plan ∧ planB n plan = true)
      (fun H7 e7 => ⟨p3, none, none, none, none, _, rfl, (e05.trans e6).trans e7, ⟨as3, sq_of (e7 _ _ hp3'), paired_mono pr3 fun _ _ _ q => ex_l (e6.trans e7) q⟩, hgood⟩) ?_ ?_
    · rintro i σ' H' hi ⟨p, y5, y6, y7, y8, plan, rfl, e, hL, hgp⟩
      obtain ⟨as, hp, pr⟩ := hL
      have hpl : plan.length ≤ 12 := (planB_iff.mp hgp).1
      refine q_asg (v := .int (cellAt ns (3 + i))) (cell (3 + i) e rfl (ev_of (ev_op ev_c (ev_var rfl) rv_I0) (by rw [Int.natCast_add]; rfl))) fun H7 e7 => ?_
      generalize cellAt ns (3 + i) = c
      refine q_asgL (xs := (someBy (c / 16) n).map V.int) (el_call (ea_cons (ev_op (ev_var rfl) ev_c (rv_I ⟨by decide, by decide⟩)) (ea_cons (ev_var rfl) ea_nil)) fun H8 e8 Q8 q8 E8 => ⟨_, n, rfl, by omega, by omega, fun H9 r e9 nr => q8 r H9 nr.1 e9 nr.2⟩) fun q H8 hq e8 hq' => ?_
      have e08 := (e.trans e7).trans e8
      -- an empty one
      refine q_cut (M := fun σ' H' => ∃ (q : Addr) (m : List Int), σ' = [some (.ref a), some (.int n), some (.ref p), some (.int kind), y4, some (.int (i : Int)), some (.int c), some (.ref q), y8, none] ∧ Ex H8 H' ∧ LI K H' q m ∧ goodMix n m = true)
        (s_when (b := decide (someBy (c / 16) n = [])) (et_is (et_test (ev_opL (ev_var rfl) (el_lst ea_nil (Nat.zero_le _)) fun r H1 hr1 e1 => rv_eqNil (sq_of (e1 _ _ hq')) (nilI _) hr1)) (by cases someBy (c / 16) n <;> rfl)) (fun cc H9 e9 => ?_) (fun cc H9 e9 => ?_)) ?_
      · refine s_asgL (xs := [.int (c % n)]) (el_lst (ea_cons (ev_op (ev_var rfl) (ev_var rfl) (rv_I (by omega))) ea_nil) (by show 1 ≤ 100000; decide)) fun r H10 hr10 e10 hr10' => ?_
        refine ⟨r, [c % n], rfl, e9.trans e10, sq_of hr10', goodMix_iff.mpr ⟨by simp, setB_one (Int.emod_nonneg _ (by omega)) (Int.emod_lt_of_pos _ (by omega))⟩⟩
      · exact ⟨q, _, rfl, e9, sq_of (e9 _ _ hq'), goodMix_iff.mpr ⟨of_decide_eq_false cc, someBy_set _ _ (by omega)⟩⟩
      rintro σ' H9 ⟨q1, m1, rfl, e9, hq1, hm1⟩
      have e09 := e08.trans e9
      -- one that is there
      have e79 := (e7.trans e8).trans e9
      have hp9 : SqL K H9 p (as.map V.ref) := ex_l e79 hp
      refine q_cut (M := fun σ' H' => ∃ (q : Addr) (m : List Int), σ' = [some (.ref a), some (.int n), some (.ref p), some (.int kind), y4, some (.int (i : Int)), some (.int c), some (.ref q), y8, none] ∧ Ex H9 H' ∧ LI K H' q m ∧ goodMix n m = true)
        (s_when (b := !decide (as.map V.ref = []) && decide (c / 65536 % 8 = 5)) (et_and (et_test (ev_opL (ev_var rfl) (el_lst ea_nil (Nat.zero_le _)) fun r H1 hr1 e1 => rv_neNil (ex_l e1 hp9) (nilP (paired_mono pr fun _ _ _ q => ex_l (e79.trans e1) q)) hr1)) fun _ =>
          et_is (et_test (ev_op (ev_op (ev_op (ev_var rfl) ev_c (rv_I ⟨by decide, by decide⟩)) ev_c (rv_I (by decide))) ev_c (rv_eq rfl))) (dec_int _ _)) (fun cc H10 e10 => ?_) (fun cc H10 e10 => ?_)) ?_
      · have hne : as.map V.ref ≠ [] := by
          rw [Bool.and_eq_true] at cc
          simpa using cc.1
        have hlen : 0 < (as.map V.ref).length := List.length_pos_iff.mpr hne
        generalize hj : (c / 1048576 % ((as.map V.ref).length : Int)) = jj
        have hj0 : 0 ≤ jj := by rw [← hj]; exact Int.emod_nonneg _ (by omega)
        have hj1 : jj < ((as.map V.ref).length : Int) := by rw [← hj]; exact Int.emod_lt_of_pos _ (by omega)
        obtain ⟨j, rfl⟩ : ∃ j : Nat, jj = (j : Int) := ⟨jj.toNat, by omega⟩
        have hja : j < as.length := by rw [List.length_map] at hj1; omega
        obtain ⟨m2, hm2, hF⟩ := paired_get pr (List.getElem?_eq_getElem hja)
        refine s_asgL (xs := m2.map V.int) (el_list (ev_op (ev_var rfl) (ev_of (ev_op (ev_op (ev_var rfl) ev_c (rv_I ⟨by decide, by decide⟩)) (ev_len (ev_var rfl) (ex_l e10 hp9)) (rv_I (by omega))) (by rw [hj])) (rv_ixL (ex_l e10 hp9) (at_refs (List.getElem?_eq_getElem hja)))) (ex_l (e79.trans e10) hF)) fun r H11 hr11 e11 hr11' => ?_
        exact ⟨r, m2, rfl, e10.trans e11, sq_of hr11', (planB_iff.mp hgp).2 m2 (List.mem_of_getElem? hm2)⟩
      · exact ⟨q1, m1, rfl, e10, ex_l e10 hq1, hm1⟩
      rintro σ' H10 ⟨q2, m2, rfl, e10, hq2, hm2⟩
      have e010 := e09.trans e10
      have e710 := e79.trans e10
      have hp10 : SqL K H10 p (as.map V.ref) := ex_l e710 hp
      have hla : (as.map V.ref).length = plan.length := by rw [List.length_map, pr.length]
      refine s_when (b := decide (((as.map V.ref).length : Int) < 12)) (et_test (ev_op (ev_len (ev_var rfl) hp10) ev_c rv_I0)) (fun cc H11 e11 => ?_) (fun cc H11 e11 => ?_)
      · have cc' : ((as.map V.ref).length : Int) < 12 := of_decide_eq_true cc
        generalize hj : (c / 16 / 256 % (((as.map V.ref).length : Int) + 1)) = jj
        have hj0 : 0 ≤ jj := by rw [← hj]; exact Int.emod_nonneg _ (by omega)
        have hj1 : jj < ((as.map V.ref).length : Int) + 1 := by rw [← hj]; exact Int.emod_lt_of_pos _ (by omega)
        obtain ⟨j, rfl⟩ : ∃ j : Nat, jj = (j : Int) := ⟨jj.toNat, by omega⟩
        have hja : j ≤ (as.map V.ref).length := by omega
        refine q_asg (v := .int (j : Int)) (ev_of (ev_op (ev_op (ev_op (ev_var rfl) ev_c (rv_I ⟨by decide, by decide⟩)) ev_c (rv_I ⟨by decide, by decide⟩)) (ev_op (ev_len (ev_var rfl) (ex_l e11 hp10)) ev_c rv_I0) (rv_I (by omega))) (by rw [hj])) fun H12 e12 => ?_
        have hp12 : SqL K H12 p (as.map V.ref) := ex_l (e11.trans e12) hp10
        refine s_asgL (xs := (as.take j ++ [q2] ++ as.drop j).map V.ref) (el_of (el_cat (el_cat (el_sl (ev_var rfl) eo_none (eo_some (ev_var rfl)) hp12) (el_lst (ea_cons (ev_var rfl) ea_nil) (by show 1 ≤ 100000; decide)) ?_) (el_sl (ev_var rfl) (eo_some (ev_var rfl)) eo_none hp12) ?_) ?_) fun r H13 hr13 e13 hr13' => ?_
        · rw [cut_lo hja, List.length_take, List.length_singleton]
          omega
        · rw [cut_lo hja, cut_hi hja, List.length_append, List.length_take, List.length_singleton, List.length_drop]
          omega
        · rw [cut_lo hja, cut_hi hja, List.map_append, List.map_append, List.map_take, List.map_drop]
          rfl
        · have e1113 := (e11.trans e12).trans e13
          refine ⟨r, _, _, _, _, plan.take j ++ [m2] ++ plan.drop j, rfl, e010.trans e1113, ⟨_, sq_of hr13', paired_app (paired_app (paired_take j (paired_mono pr fun _ _ _ q => ex_l (e710.trans e1113) q)) (.cons (ex_l e1113 hq2) .nil)) (paired_drop j (paired_mono pr fun _ _ _ q => ex_l (e710.trans e1113) q))⟩, planB_put hgp hm2 (by omega)⟩
      · exact ⟨p, _, _, _, y8, plan, rfl, e010.trans e11, ⟨as, ex_l e11 hp10, paired_mono pr fun _ _ _ q => ex_l (e710.trans e11) q⟩, hgp⟩
    · rintro σ' H' ⟨p, y5, y6, y7, y8, plan, rfl, e, hL, hgp⟩
      refine s_retU (xs := [.int n, .ref p]) (eu_tup (ea_cons (ev_var rfl) (ea_cons (ev_var rfl) ea_nil)) (by show 2 ≤ 100000; decide)) fun t H7 ht e7 ht' => k H7 t p n plan (e.trans e7) ht' (hL.mono e7) ok hgp
theorem sc__law_tried : FnScope ["wares", "text", "e"] ["wares", "text"] (defScope s__law_tried) := ⟨rfl, rfl, rfl, by decide +kernel, rfl, by decide +kernel, by decide +kernel⟩
theorem d__law_tried {f CPot CW CP CS CM CA CF CT CN : Addr} {fd : FuncData} (F : FnP K "_law_tried" s__law_tried f fd) (g : mg "_law_tried" = some (.ref f)) (X_PotError : ExC K mg "PotError" CPot) (e_err : ErrC K CPot [CW, CP, CS, CM, CA, CF, CT, CN])
    {f1 f2 : Addr} {d1 d2 : FuncData} (D__law_word_of : DefE P w K mg base 1 "_law_word_of" ["e"] [CW, CP, CS, CM, CA, CF, CT, CN] f2 d2)
    (D_read : Def P w K mg base 3 "read" ["wares", "text"] (spReadR CW CN) f1 d1) : Def P w K mg base 4 "_law_tried" ["wares", "text"] spTriedN f fd := by
  refine ⟨?_, F.bindsN fun _ _ _ _ _ _ us hl => match us, hl with | [_, _], _ => rfl, g, F.kp⟩
  refine F.ok sc__law_tried (fun vs H Q E h => ?_) (fun cdv A outer s H vs Q E hr h => ?_)
  · obtain ⟨n, cs, rfl, _⟩ := h
    rfl
  · obtain ⟨n, cs, rfl, hcl, hbad, kW, kD, kN⟩ := h
    refine ⟨_, PSs.nox (pss_cons (ps_try_as (i := 2) rfl rfl sc__law_tried.nd rfl rfl ⟨by rfl, by decide, .inl X_PotError.g⟩ takes0
      (fun W pn xe tk hpo => pss_one (ps_expr (pe_callS D_read.ok (hr.mono (by decide)) (by rfl) D_read.g D_read.kp D_read.b (passAt tk) (pa_cons (pv 0) (pa_cons (pv 1) pa_nil)))))
      (fun a oe cls d pn hz hf => pss_word (i := 2) D__law_word_of (hr.mono (by decide)) (by rfl) hz hf (by decide) rfl (Or.inl rfl) (by decide) (by decide) (by rfl))) (pss_one (ps_ret pe_str))), ?_⟩
    exact ⟨_, rfl, _, rfl, n, cs, rfl, hcl, hbad, fun ok hz H1 v e1 => kD ok hz H1 e1,
      fun no H1 e1 => ⟨true, e_err.pot 0 _ rfl, fun _ a _ => word_wish (j := 0) rfl rfl fun H2 e2 => kW no H2 (e1.trans e2), fun c => nomatch c⟩,
      fun ok hne H1 e1 => ⟨true, e_err.pot 7 _ rfl, fun _ a _ => word_wish (j := 7) rfl rfl fun H2 e2 => kN ok hne H2 (e1.trans e2), fun c => nomatch c⟩⟩
theorem sc__law_spoilt : FnScope ["words", "kind", "at", "cell", "wares", "word", "place", "sign", "k"] ["words", "kind", "at", "cell", "wares"] (defScope s__law_spoilt) := ⟨rfl, rfl, rfl, by decide +kernel, rfl, by decide +kernel, by decide +kernel⟩
theorem d__law_spoilt {f : Addr} {fd : FuncData} (F : FnP K "_law_spoilt" s__law_spoilt f fd) (g : mg "_law_spoilt" = some (.ref f)) (m_len : mg "len" = none) (m_str : mg "str" = none) (m_range : mg "range" = none) : Def P w K mg base 1 "_law_spoilt" ["words", "kind", "at", "cell", "wares"] spSpoilt f fd := by
  refine ⟨?_, F.bindsN fun _ _ _ _ _ _ us hl => match us, hl with | [_, _, _, _, _], _ => rfl, g, F.kp⟩
  refine F.ok sc__law_spoilt (fun vs H Q E h => ?_) (fun cdv A outer s H vs Q E hr h => ?_)
  · obtain ⟨p, ws, kind, i, cell, n, rfl, _⟩ := h
    rfl
  · obtain ⟨p, ws, kind, i, cell, n, rfl, hp, pl, ok, hi, k⟩ := h
    refine ⟨_, PSs.nox (pss_cons (ps_set (i := 5) sc__law_spoilt.nd rfl (Or.inl rfl) (pe_ix ix_list (pv 0) (pv 2) (fun _ _ => rfl)))
      (pss_cons (ps_set (i := 6) sc__law_spoilt.nd rfl (Or.inl rfl) (pe_op op_mod (pv 3) (pe_op op_add (pe_callB call_len_str (by rfl) m_len PySem.boot_len (pa_cons (pv 5) pa_nil)) pe_int)))
      (pss_cons (ps_if (pt_cmpR op_eq (pv 1) pe_int (nomark _)) (pss_one (ps_ret (pe_op op_cat (pe_op op_cat (pe_slice sl_list (pv 0) po_none (po_some (pv 2))) (pe_lst (pa_cons pe_str pa_nil))) (pe_slice sl_list (pv 0) (po_some (pv 2)) po_none)))) pss_nil)
      (pss_cons (ps_if (pt_cmpR op_eq (pv 1) pe_int (nomark _)) (pss_one (ps_ret (pe_op op_cat (pv 0) (pe_lst (pa_cons pe_str pa_nil))))) pss_nil)
      (pss_cons (ps_if (pt_cmpR op_eq (pv 1) pe_int (nomark _)) (pss_one (ps_ret (pe_op op_cat (pe_op op_cat (pe_slice sl_list (pv 0) po_none (po_some (pv 2))) (pe_lst (pa_cons (pe_op op_add_str (pv 5) (pe_ix ix_str (pv 5) (pe_un un_neg pe_int) (fun _ _ => rfl))) pa_nil))) (pe_slice sl_list (pv 0) (po_some (pe_op op_add (pv 2) pe_int)) po_none)))) pss_nil)
      (pss_cons (ps_if (pt_cmpR op_eq (pv 1) pe_int (nomark _)) (pss_one (ps_ret (pe_op op_cat (pe_op op_cat (pe_slice sl_list (pv 0) po_none (po_some (pv 2))) (pe_lst (pa_cons pe_str pa_nil))) (pe_slice sl_list (pv 0) (po_some (pe_op op_add (pv 2) pe_int)) po_none)))) pss_nil)
      (pss_cons (ps_if (pt_cmpR op_eq (pv 1) pe_int (nomark _)) (pss_one (ps_ret (pe_op op_cat (pe_op op_cat (pe_slice sl_list (pv 0) po_none (po_some (pv 2))) (pe_lst (pa_cons (pe_op op_add_str (pv 5) (pe_callTy call_str_int (by rfl) m_str (by decide +kernel) (pa_cons (pv 4) pa_nil))) pa_nil))) (pe_slice sl_list (pv 0) (po_some (pe_op op_add (pv 2) pe_int)) po_none)))) pss_nil)
      (pss_cons (ps_if (pt_cmpR op_eq (pv 1) pe_int (nomark _)) (pss_one (ps_ret (pe_lc (own := [("k", 8)]) (g := gName 8) (tt := tYes) (te := (tC (.str "0"))) (by rfl) sc__law_spoilt.nd (pi_range1 (by rfl) m_range (pa_cons pe_int pa_nil)) (blkOk_by (own := [("k", 8)]) (by kernel_rfl)) (fun _ _ _ _ _ => pg_name (i := 8) sc__law_spoilt.nd rfl (Or.inl rfl)) (fun _ _ _ _ _ => pts_nil) (fun _ _ _ _ _ => pe_str)))) pss_nil)
      (pss_cons (ps_set (i := 7) sc__law_spoilt.nd rfl (Or.inl rfl) (pe_ix ix_list (pe_lst (pa_cons pe_str (pa_cons pe_str (pa_cons pe_str (pa_cons pe_str (pa_cons pe_str (pa_cons pe_str (pa_cons pe_str (pa_cons pe_str (pa_cons pe_str (pa_cons pe_str pa_nil))))))))))) (pe_op op_mod (pe_op op_fdiv (pv 3) pe_int) pe_int) (fun _ _ => rfl)))
      (pss_cons (ps_set (i := 5) sc__law_spoilt.nd rfl (Or.inl rfl) (pe_op op_add_str (pe_op op_add_str (pe_slice sl_str (pv 5) po_none (po_some (pv 6))) (pv 7)) (pe_slice sl_str (pv 5) (po_some (pv 6)) po_none)))
      (pss_one (ps_ret (pe_op op_cat (pe_op op_cat (pe_slice sl_list (pv 0) po_none (po_some (pv 2))) (pe_lst (pa_cons (pv 5) pa_nil))) (pe_slice sl_list (pv 0) (po_some (pe_op op_add (pv 2) pe_int)) po_none)))))))))))))), ?_⟩
    have okn : 1 ≤ n ∧ n ≤ 8 := ok
    have few := pl.few
    obtain ⟨wi, hwi⟩ : ∃ wi, ws[i]? = some wi := ⟨_, List.getElem?_eq_getElem hi⟩
    have hm := List.mem_of_getElem? hwi
    have hne := pl.full wi hm
    have h8 := pl.short wi hm
    have hfr := pl.free wi hm
    have hws : ws ≠ [] := List.ne_nil_of_mem hm
    refine q_asg (v := .str (mk wi)) (ev_op (ev_var rfl) (ev_var rfl) (rv_ixL (sq_of hp) (atI_nat (by rw [List.getElem?_map, hwi]; rfl)))) fun H1 e1 => ?_
    generalize hpp : cell % ((wi.length : Int) + 1) = pp
    have hp0 : 0 ≤ pp := by rw [← hpp]; exact Int.emod_nonneg _ (by omega)
    have hp1 : pp < (wi.length : Int) + 1 := by rw [← hpp]; exact Int.emod_lt_of_pos _ (by omega)
    obtain ⟨j, rfl⟩ : ∃ j : Nat, pp = (j : Int) := ⟨pp.toNat, by omega⟩
    refine q_asg (v := .int (j : Int)) (ev_of (ev_op (ev_var rfl) (ev_op (ev_cb (ea_cons (ev_var rfl) ea_nil) (rc_lenS (by omega))) ev_c rv_I0) (rv_I (by omega))) (by rw [hpp])) fun H2 e2 => ?_
    have e02 := e1.trans e2
    have up : ∀ {σ : L2.St} {H' : Hp}, σ[2]? = some (some (.int (i : Int))) → Ev (tOp (rI0 fun i j => .int (i + j)) (tVar 2) (tC (.int 1))) σ H' (.int ((i + 1 : Nat) : Int)) := fun h => ev_of (ev_op (ev_var h) ev_c rv_I0) (by rw [Int.natCast_add]; rfl)
    -- a blank ahead of a mixture
    refine q_when (b := decide (kind = 0)) (et_is (et_test (ev_op (ev_var rfl) ev_c (rv_eq rfl))) (dec_int _ _)) (fun c H3 e3 => ?_) (fun c H3 e3 => ?_)
    · exact ret_put (K := K) (w := []) ((e02.trans e3) _ _ hp) few (ev_var rfl) (ev_var rfl) (ev_var rfl) (ev_of ev_c (by rw [empty_eq])) (by omega) (by omega) fun r H4 e4 hr => k H4 r _ ((e02.trans e3).trans e4) hr (spo_put pl (by simp) (Nat.zero_le _) ng_nil (has_old pl hws))
    -- behind all
    refine q_when (b := decide (kind = 1)) (et_is (et_test (ev_op (ev_var rfl) ev_c (rv_eq rfl))) (dec_int _ _)) (fun c H4 e4 => ?_) (fun c H4 e4 => ?_)
    · have e04 := (e02.trans e3).trans e4
      refine s_retL (xs := Wv (ws.take ws.length ++ [[]] ++ ws.drop ws.length)) (el_of (el_cat1 (ev_var rfl) (e04 _ _ hp) (el_lst (vs := [.str ""]) (ea_cons ev_c ea_nil) (by show 1 ≤ 100000; decide)) (by rw [List.length_map]; show _ + 1 ≤ _; omega)) ?_) fun r H5 _ e5 hr => k H5 r _ (e04.trans e5) hr (spo_put pl (by simp) (Nat.zero_le _) ng_nil (has_old pl hws))
      rw [List.take_length, List.drop_length, List.append_nil, empty_eq, wv_app]
      rfl
    have e04 := (e02.trans e3).trans e4
    -- a figure twice
    refine q_when (b := decide (kind = 2)) (et_is (et_test (ev_op (ev_var rfl) ev_c (rv_eq rfl))) (dec_int _ _)) (fun c H5 e5 => ?_) (fun c H5 e5 => ?_)
    · exact ret_put (K := K) (w := wi ++ [wi.getLast hne]) ((e04.trans e5) _ _ hp) few (ev_var rfl) (ev_var rfl) (up rfl) (ev_op (ev_var rfl) (ev_op (ev_var rfl) (ev_un ev_c ru_neg) (rv_ixS (by rw [mk_len]; omega) (by rw [tl_mk]; exact at_lastX hne))) (rv_cat rfl rfl (by simp; omega))) (by omega) (by omega) fun r H6 e6 hr => k H6 r _ ((e04.trans e5).trans e6) hr
        (spo_put pl (fun h => by
          rcases List.mem_append.mp h with h | h
          · exact hfr h
          · rw [List.mem_singleton] at h
            exact hfr (h ▸ List.getLast_mem hne)) (by simp; omega) (ng_twice hne) (has_new (by simp)))
    -- two the wrong way round
    refine q_when (b := decide (kind = 3)) (et_is (et_test (ev_op (ev_var rfl) ev_c (rv_eq rfl))) (dec_int _ _)) (fun c H6 e6 => ?_) (fun c H6 e6 => ?_)
    · have e06 := (e04.trans e5).trans e6
      exact ret_put (K := K) (w := [49, 48]) (e06 _ _ hp) few (ev_var rfl) (ev_var rfl) (up rfl) (ev_of ev_c (by rw [ten_eq])) (by omega) (by omega) fun r H7 e7 hr => k H7 r _ (e06.trans e7) hr (spo_put pl (by simp) (by simp) ng_10 (has_new (by simp)))
    have e06 := (e04.trans e5).trans e6
    -- the figure of the number of wares
    refine q_when (b := decide (kind = 4)) (et_is (et_test (ev_op (ev_var rfl) ev_c (rv_eq rfl))) (dec_int _ _)) (fun c H7 e7 => ?_) (fun c H7 e7 => ?_)
    · exact ret_put (K := K) (w := wi ++ [fig n]) ((e06.trans e7) _ _ hp) few (ev_var rfl) (ev_var rfl) (up rfl) (ev_op (ev_var rfl) (ev_strI9 (ev_var rfl) (by omega) (by omega)) (rv_cat rfl rfl (by simp; omega))) (by omega) (by omega) fun r H8 e8 hr => k H8 r _ ((e06.trans e7).trans e8) hr
        (spo_put pl (fun h => by
          rcases List.mem_append.mp h with h | h
          · exact hfr h
          · rw [List.mem_singleton] at h
            unfold fig at h
            omega) (by simp; omega) (ng_big ok) (has_new (by simp)))
    -- thirteen mixtures
    refine q_when (b := decide (kind = 5)) (et_is (et_test (ev_op (ev_var rfl) ev_c (rv_eq rfl))) (dec_int _ _)) (fun c H8 e8 => ?_) (fun c H8 e8 => ?_)
    · have e08 := (e06.trans e7).trans e8
      refine s_retL (xs := Wv ((ran 0 13).map fun _ => [48])) (el_of (el_mapI (fun _ => V.str "0") (wk_ran1 (ea_cons ev_c ea_nil) (by omega)) (by rw [ran_len]; omega) (fun _ => rfl) fun x hx => ev_c) (by unfold Wv; rw [List.map_map, nought_eq]; rfl)) fun r H9 _ e9 hr => k H9 r _ (e08.trans e9) hr ?_
      have hl : ((ran 0 13).map fun _ => [48]).length = 13 := by rw [List.length_map, ran_len]; rfl
      have h48 : ∀ v ∈ (ran 0 13).map fun _ => [48], v = [48] := fun v hv => by
        obtain ⟨_, _, rfl⟩ := List.mem_map.mp hv
        rfl
      refine ⟨fun v hv => by rw [h48 v hv]; simp, fun v hv => by rw [h48 v hv]; simp, by omega, ?_, .inl (by omega)⟩
      obtain ⟨v, hv⟩ := List.exists_mem_of_length_pos (by omega : 0 < ((ran 0 13).map fun _ => [48]).length)
      exact ⟨v, hv, by rw [h48 v hv]; simp⟩
    have e08 := (e06.trans e7).trans e8
    -- a sign put in
    generalize hss : cell / 9 % 10 = ss
    have hs0 : 0 ≤ ss ∧ ss < 10 := by omega
    obtain ⟨l, rfl⟩ : ∃ l : Nat, ss = (l : Int) := ⟨ss.toNat, by omega⟩
    have hlc : l < signC.length := by show l < 10; omega
    obtain ⟨sg, hsg⟩ : ∃ sg, signC[l]? = some sg := ⟨_, List.getElem?_eq_getElem hlc⟩
    have hsb := signs_bad sg (List.mem_of_getElem? hsg)
    refine q_asg (v := .str (mk [sg])) (ev_opL1 (y := .int (l : Int)) (el_lst (vs := [.str "9", .str "a", .str "-", .str "+", .str "_", .str "\t", .str "\n", .str ",", .str ".", .str "8"]) (ea_cons ev_c (ea_cons ev_c (ea_cons ev_c (ea_cons ev_c (ea_cons ev_c (ea_cons ev_c (ea_cons ev_c (ea_cons ev_c (ea_cons ev_c (ea_cons ev_c ea_nil)))))))))) (by show 10 ≤ 100000; decide)) (fun H9 e9 => ev_of (ev_op (ev_op (ev_var rfl) ev_c (rv_I ⟨by decide, by decide⟩)) ev_c (rv_I (by decide))) (by rw [hss])) fun r H9 hr e9 => rv_ixL (sq_of hr) (atI_nat (by rw [signs_eq, List.getElem?_map, hsg]; rfl))) fun H9 e9 => ?_
    have hjl : j ≤ wi.length := by omega
    refine q_asg (v := .str (mk (wi.take j ++ [sg] ++ wi.drop j))) (ev_op (ev_op (ev_of (ev_slS (by omega) (ev_var rfl) eo_none (eo_some (i := (j : Int)) (ev_var rfl))) (by rw [cutS_lo hjl])) (ev_var rfl) (rv_cat rfl rfl (by simp; omega))) (ev_of (ev_slS (by omega) (ev_var rfl) (eo_some (i := (j : Int)) (ev_var rfl)) eo_none) (by rw [cutS_hi hjl])) (rv_cat rfl rfl (by simp; omega))) fun H10 e10 => ?_
    have e010 := (e08.trans e9).trans e10
    exact ret_put (K := K) (w := wi.take j ++ [sg] ++ wi.drop j) (e010 _ _ hp) few (ev_var rfl) (ev_var rfl) (up rfl) (ev_var rfl) (by omega) (by omega) fun r H11 e11 hr => k H11 r _ (e010.trans e11) hr
      (spo_put pl (fun h => by
        rcases mem_putin h with h | h
        · exact hfr h
        · exact hsb.2 h.symm) (by simp; omega) (ng_sign (c := sg) (by simp) hsb.1) (has_new (by simp)))
theorem sc_law : FnScope ["script", "wares", "plan", "words", "mixture", "at", "cell", "text", "far", "ware"] ["script"] (defScope s_law) := ⟨rfl, rfl, rfl, by decide +kernel, rfl, by decide +kernel, by decide +kernel⟩
theorem d_law {f : Addr} {fd : FuncData} (F : FnP K "law" s_law f fd) (g : mg "law" = some (.ref f)) (m_len : mg "len" = none) (m_str : mg "str" = none)
    {fC fQ fS' fT : Addr} {dC dP' dS dT : FuncData} (D__law_cell_at : Def P w K mg base 1 "_law_cell_at" ["script", "k"] (spCellAt K) fC dC) (D__law_plan_by : Def P w K mg base 2 "_law_plan_by" ["script"] (spPlanBy K) fQ dP')
    (D__law_spoilt : Def P w K mg base 1 "_law_spoilt" ["words", "kind", "at", "cell", "wares"] spSpoilt fS' dS) (D__law_tried : Def P w K mg base 4 "_law_tried" ["wares", "text"] spTriedN fT dT) : FnOk P w K mg base CX0 12 f fd ["script"] (spLaw K) := by
  refine F.ok sc_law (fun vs H Q E h => ?_) (fun cdv A outer s H vs Q E hr h => ?_)
  · obtain ⟨a, ns, rfl, _⟩ := h
    rfl
  · obtain ⟨a, ns, rfl, ha, hns, k⟩ := h
    refine ⟨_, PSs.nox (pss_cons (ps_asg (pe_call D__law_plan_by.ok (hr.mono (by decide)) (by rfl) D__law_plan_by.g D__law_plan_by.kp D__law_plan_by.b .nil passL (pa_cons (pv 0) pa_nil)) (pg_tup (by rfl) (pgs_cons (pg_name (i := 1) sc_law.nd rfl (Or.inl rfl)) (pgs_cons (pg_name (i := 2) sc_law.nd rfl (Or.inl rfl)) pgs_nil))))
      (pss_cons (ps_set (i := 3) sc_law.nd rfl (Or.inl rfl) (pe_lst pa_nil))
      (pss_cons (ps_for PassesOwn.never rfl (pi_list (pv 2)) (pg_name (i := 4) sc_law.nd rfl (Or.inl rfl)) (pss_one (ps_expr (pe_bm PySem.F.plainAttrs_list PySem.F.slot_list_append PySem.F.type_list_append mt_append (pv 3) (pa_cons (pe_join pe_str (pe_lc (own := [("ware", 9)]) (g := gName 9) (tt := tYes) (te := (tCB rStrI (tCons (tVar 9) tNil))) (by rfl) sc_law.nd (pi_list (pv 4)) (blkOk_by (own := [("ware", 9)]) (by kernel_rfl)) (fun _ _ _ _ _ => pg_name (i := 9) sc_law.nd rfl (Or.inl rfl)) (fun _ _ _ _ _ => pts_nil) (fun _ _ _ _ _ => (pe_callTy call_str_int (by rfl) m_str (by decide +kernel) (pa_cons (pv 9) pa_nil))))) pa_nil)))))
      (pss_cut (ps_if (pt_cmpR (op_eqD hr.units) (pv 3) (pe_lst pa_nil) (nomark _)) (pss_one (ps_set (i := 3) sc_law.nd rfl (Or.inl rfl) (pe_lst (pa_cons pe_str pa_nil)))) pss_nil)
      (pss_cons (ps_set (i := 5) sc_law.nd rfl (Or.inl rfl) (pe_op op_mod (pe_call D__law_cell_at.ok (hr.mono (by decide)) (by rfl) D__law_cell_at.g D__law_cell_at.kp D__law_cell_at.b .nil passL (pa_cons (pv 0) (pa_cons pe_int pa_nil))) (pe_callB call_len_seq (by rfl) m_len PySem.boot_len (pa_cons (pv 3) pa_nil))))
      (pss_cons (ps_set (i := 6) sc_law.nd rfl (Or.inl rfl) (pe_op op_mod (pe_call D__law_cell_at.ok (hr.mono (by decide)) (by rfl) D__law_cell_at.g D__law_cell_at.kp D__law_cell_at.b .nil passL (pa_cons (pv 0) (pa_cons pe_int pa_nil))) (pe_op op_pow pe_int pe_int)))
      (pss_cons (ps_set (i := 3) sc_law.nd rfl (Or.inl rfl) (pe_call D__law_spoilt.ok (hr.mono (by decide)) (by rfl) D__law_spoilt.g D__law_spoilt.kp D__law_spoilt.b .nil passL (pa_cons (pv 3) (pa_cons (pe_op op_mod (pe_call D__law_cell_at.ok (hr.mono (by decide)) (by rfl) D__law_cell_at.g D__law_cell_at.kp D__law_cell_at.b .nil passL (pa_cons (pv 0) (pa_cons pe_int pa_nil))) pe_int) (pa_cons (pv 5) (pa_cons (pv 6) (pa_cons (pv 1) pa_nil)))))))
      (pss_cons (ps_set (i := 7) sc_law.nd rfl (Or.inl rfl) (pe_join pe_str (pv 3)))
      (pss_cut (ps_if (pt_cmpR op_eq (pe_op op_mod (pe_call D__law_cell_at.ok (hr.mono (by decide)) (by rfl) D__law_cell_at.g D__law_cell_at.kp D__law_cell_at.b .nil passL (pa_cons (pv 0) (pa_cons pe_int pa_nil))) pe_int) pe_int (nomark _)) (pss_one (ps_set (i := 7) sc_law.nd rfl (Or.inl rfl) (pe_ix ix_list (pe_lst (pa_cons pe_str (pa_cons pe_str (pa_cons pe_str (pa_cons pe_str (pa_cons pe_str (pa_cons pe_str pa_nil))))))) (pe_op op_mod (pe_op op_fdiv (pe_call D__law_cell_at.ok (hr.mono (by decide)) (by rfl) D__law_cell_at.g D__law_cell_at.kp D__law_cell_at.b .nil passL (pa_cons (pv 0) (pa_cons pe_int pa_nil))) pe_int) pe_int) (fun _ _ => rfl)))) pss_nil)
      (pss_cons (ps_if (pt_cmpR op_eq (pe_op op_mod (pe_call D__law_cell_at.ok (hr.mono (by decide)) (by rfl) D__law_cell_at.g D__law_cell_at.kp D__law_cell_at.b .nil passL (pa_cons (pv 0) (pa_cons pe_int pa_nil))) pe_int) pe_int (nomark _)) (pss_cons (ps_set (i := 8) sc_law.nd rfl (Or.inl rfl) (pe_op op_mod (pe_call D__law_cell_at.ok (hr.mono (by decide)) (by rfl) D__law_cell_at.g D__law_cell_at.kp D__law_cell_at.b .nil passL (pa_cons (pv 0) (pa_cons pe_int pa_nil))) (pe_op op_pow pe_int pe_int)))
      (pss_one (ps_ret (pe_cmpR op_eq (pe_call D__law_tried.ok (hr.mono (by decide)) (by rfl) D__law_tried.g D__law_tried.kp D__law_tried.b .nil passL (pa_cons (pe_ix ix_list (pe_lst (pa_cons pe_int (pa_cons pe_int (pa_cons (pe_op op_sub pe_int (pv 8)) (pa_cons (pe_op op_add pe_int (pv 8)) pa_nil))))) (pe_op op_mod (pe_op op_fdiv (pe_call D__law_cell_at.ok (hr.mono (by decide)) (by rfl) D__law_cell_at.g D__law_cell_at.kp D__law_cell_at.b .nil passL (pa_cons (pv 0) (pa_cons pe_int pa_nil))) pe_int) pe_int) (fun _ _ => rfl)) (pa_cons (pv 7) pa_nil))) pe_str (nomark _))))) pss_nil)
      (pss_cons (ps_if (pt_cmpR op_eq (pv 7) pe_str (nomark _)) (pss_one (ps_ret (pe_cmpR op_eq (pe_call D__law_tried.ok (hr.mono (by decide)) (by rfl) D__law_tried.g D__law_tried.kp D__law_tried.b .nil passL (pa_cons (pv 1) (pa_cons (pv 7) pa_nil))) pe_str (nomark _)))) pss_nil)
      (pss_one (ps_ret (pe_cmpR op_eq (pe_call D__law_tried.ok (hr.mono (by decide)) (by rfl) D__law_tried.g D__law_tried.kp D__law_tried.b .nil passL (pa_cons (pv 1) (pa_cons (pv 7) pa_nil))) pe_str (nomark _))))))))))))))), ?_⟩
    refine ⟨_, rfl, a, ns, rfl, ha, hns, fun H1 t p n plan e1 ht hp ok gp => ?_⟩
    refine ⟨t, [.int n, .ref p], rfl, st_of ht, rfl, _, _, rfl, _, _, rfl, rfl, ?_⟩
    dsimp only
    have okn : 1 ≤ n ∧ n ≤ 8 := ok
    have gm := fun {m} (hm : m ∈ plan) => good_mix ok gp hm
    have pl12 : plan.length ≤ 12 := (planB_iff.mp gp).1
    have cell : ∀ (i : Nat) {σ : L2.St} {H2 : Hp} {ta : TE} {E : XK}, Ex H H2 → σ[0]? = some (some (.ref a)) → Ev ta σ H2 (.int (i : Int)) → Ev (tCall (spCellAt K) [] E (tCons (tVar 0) (tCons ta tNil))) σ H2 (.int (cellAt ns i)) := fun i {σ H1 ta E} e h0 hi =>
      ev_call (ea_cons (ev_var h0) (ea_cons hi ea_nil)) fun H2 e2 Q2 q2 E2 => ⟨a, ns, i, rfl, ex_l (e.trans e2) ha, q2⟩
    have four : ∀ (i : Nat) {σ : L2.St} {H2 : Hp} {E : XK}, Ex H H2 → σ[0]? = some (some (.ref a)) → EvT (tTest (tOp rEq (tOp (rI (fun _ j => 0 < j) fun i j => .int (i % j)) (tCall (spCellAt K) [] E (tCons (tVar 0) (tCons (tC (.int (i : Int))) tNil))) (tC (.int 4))) (tC (.int 1)))) σ H2 (decide (cellAt ns i % 4 = 1)) := fun i {σ H2 E} e h0 =>
      et_is (et_test (ev_op (ev_op (cell i e h0 ev_c) ev_c (rv_I (by decide))) ev_c (rv_eq rfl))) (dec_int _ _)
    have dec_w : ∀ x : Str, (V.bl (decide (V.str x = V.str x))) = V.bl true := fun x => by simp
    -- the words
    obtain ⟨as, hpa, pr⟩ := hp
    have hla : (as.map V.ref).length = plan.length := by rw [List.length_map, pr.length]
    refine q_asgL (xs := []) (el_lst ea_nil (Nat.zero_le _)) fun q H2 hq e2 hq' => ?_
    refine q_forLn (a := p) (xs := as.map V.ref) (ev_var rfl) (ex_l e2 hpa) (fun i σ' H' => ∃ y4 : Option V, σ' = [some (.ref a), some (.int n), some (.ref p), some (.ref q), y4, none, none, none, none, none] ∧ Ex H1 H' ∧ H' q = some (.lst (Wv ((plan.take i).map mixC))))
      (fun H3 e3 => ⟨none, rfl, e2.trans e3, e3 _ _ hq'⟩) (fun i σ' H' _ ⟨_, _, e, _⟩ => ex_l e hpa) ?_ ?_
    · rintro i x σ' H3 hx ⟨y4, rfl, e3, hq3⟩
      obtain ⟨b, hb, rfl⟩ := get_refs hx
      obtain ⟨m, hm, hF⟩ := paired_get pr hb
      have gmm := gm (List.mem_of_getElem? hm)
      have hlt : (Wv ((plan.take i).map mixC)).length ≤ 12 := by
        rw [List.length_map, List.length_map, List.length_take]
        omega
      refine s_app hq3 (ev_var rfl) (ev_of (ev_join (K := K) (s := []) (l := m.map fun x => [fig x]) empty_eq (el_of (el_mapI (fun x => V.str (mk [fig x])) (wk_list (ev_var rfl) (ex_l e3 hF)) (by have := gmm.2.1; omega) (fun _ => rfl) fun x hx2 => ev_strI (ev_var rfl) (gmm.2.2.2 x hx2).1 (gmm.2.2.2 x hx2).2) (by rw [List.map_map]; rfl)) (by rw [sum1]; have := gmm.2.1; simp; omega)) (by rw [mixC_flat])) (by omega) fun H4 e4 => ?_
      refine ⟨_, rfl, Ex.mut (e3.trans e4) hq, ?_⟩
      rw [upd_same, take_at hm, List.map_append, wv_app]
      rfl
    rintro σ' H3 ⟨y4, rfl, e3, hq3⟩
    rw [hla, List.take_length] at hq3
    have e03 := e1.trans e3
    refine q_cut (M := fun σ' H' => ∃ (q : Addr) (ws : List (List Nat)), σ' = [some (.ref a), some (.int n), some (.ref p), some (.ref q), y4, none, none, none, none, none] ∧ Ex H H' ∧ H' q = some (.lst (Wv ws)) ∧ Plain ws ∧ ws ≠ [])
      (s_when (b := decide (Wv (plan.map mixC) = [])) (et_test (ev_opL (ev_var rfl) (el_lst ea_nil (Nat.zero_le _)) fun r H4 hr e4 => rv_eqNil (sq_of (e4 _ _ hq3)) (nilS fun w hw c hc => ?_) hr)) (fun c H4 e4 => ?_) (fun c H4 e4 => ?_)) ?_
    · obtain ⟨m, hm, rfl⟩ := List.mem_map.mp hw
      have := mixC_fig (gm hm).2.2.2 c hc
      omega
    · refine s_asgL (xs := [.str "0"]) (el_lst (ea_cons ev_c ea_nil) (by show 1 ≤ 100000; decide)) fun r H5 _ e5 hr => ⟨r, [[48]], rfl, (e03.trans e4).trans e5, by rw [hr, nought_eq]; rfl, ⟨by simp, by simp, by simp, by simp⟩, by simp⟩
    · have hne := of_decide_eq_false c
      exact ⟨q, plan.map mixC, rfl, e03.trans e4, e4 _ _ hq3, plain_text ok gp, fun z => hne (by rw [z]; rfl)⟩
    clear hq3 hq' hq
    rintro σ' H4 ⟨q, ws, rfl, e04, hq, pw, hne⟩
    have hlw : (Wv ws).length = ws.length := List.length_map _
    have hpos : 0 < ws.length := List.length_pos_iff.mpr hne
    generalize hii : cellAt ns 20 % (ws.length : Int) = ii
    have hi0 : 0 ≤ ii := by rw [← hii]; exact Int.emod_nonneg _ (by omega)
    have hi1 : ii < (ws.length : Int) := by rw [← hii]; exact Int.emod_lt_of_pos _ (by omega)
    obtain ⟨i, rfl⟩ : ∃ i : Nat, ii = (i : Int) := ⟨ii.toNat, by omega⟩
    refine q_asg (v := .int (i : Int)) (ev_of (ev_op (cell 20 e04 rfl ev_c) (ev_len (ev_var rfl) (sq_of hq)) (rv_I (by omega))) (by rw [hlw, hii])) fun H5 e5 => ?_
    refine q_asg (v := .int (cellAt ns 22 % 10 ^ (6 : Int).toNat)) (ev_op (cell 22 (e04.trans e5) rfl ev_c) (ev_op ev_c ev_c (rv_I (C := CPow) ⟨by decide, by decide, by decide⟩)) (rv_I (by decide))) fun H6 e6 => ?_
    generalize cellAt ns 22 % 10 ^ (6 : Int).toNat = cl
    have e06 := (e04.trans e5).trans e6
    refine q_callX (ea_cons (ev_var rfl) (ea_cons (ev_op (cell 21 e06 rfl ev_c) ev_c (rv_I (by decide))) (ea_cons (ev_var rfl) (ea_cons (ev_var rfl) (ea_cons (ev_var rfl) ea_nil))))) fun H7 e7 => ⟨q, ws, _, i, cl, n, rfl, ((e5.trans e6).trans e7) _ _ hq, pw, ok, by omega, fun H8 r ws' e8 hr sp => ?_⟩
    dsimp only
    have e08 := (e06.trans e7).trans e8
    refine q_asg (v := .str (mk (jn [32] ws'))) (ev_joinV (K := K) blank_eq (ev_var rfl) (sq_of hr) (by have := sp.sum; have := sp.few; simp; omega)) fun H9 e9 => ?_
    -- the text
    refine q_cut (M := fun σ' H' => ∃ cs : List Nat, σ' = [some (.ref a), some (.int n), some (.ref p), some (.ref r), y4, some (.int (i : Int)), some (.int cl), some (.str (mk cs)), none, none] ∧ Ex H H' ∧ (cs = [] ∨ badT n cs) ∧ cs.length ≤ 9000)
      (s_when (four 24 (e08.trans e9) rfl) (fun c H10 e10 => ?_) (fun c H10 e10 => ⟨jn [32] ws', rfl, (e08.trans e9).trans e10, .inr sp.badT, by have := sp.len; omega⟩)) ?_
    · have e010 := (e08.trans e9).trans e10
      generalize hss : cellAt ns 24 / 4 % 6 = ss
      have hs0 : 0 ≤ ss ∧ ss < 6 := by omega
      obtain ⟨l, rfl⟩ : ∃ l : Nat, ss = (l : Int) := ⟨ss.toNat, by omega⟩
      have hlc : l < txtC.length := by show l < 6; omega
      obtain ⟨cs, hcs⟩ : ∃ cs, txtC[l]? = some cs := ⟨_, List.getElem?_eq_getElem hlc⟩
      have hb := txts_bad (n := n) cs (List.mem_of_getElem? hcs)
      exact s_asg (v := .str (mk cs)) (ev_opL1 (y := .int (l : Int)) (el_lst (vs := [.str "", .str " ", .str "  ", .str "\n", .str "\t", .str " \n"]) (ea_cons ev_c (ea_cons ev_c (ea_cons ev_c (ea_cons ev_c (ea_cons ev_c (ea_cons ev_c ea_nil)))))) (by show 6 ≤ 100000; decide)) (fun H11 e11 => ev_of (ev_op (ev_op (cell 24 (e010.trans e11) rfl ev_c) ev_c (rv_I ⟨by decide, by decide⟩)) ev_c (rv_I (by decide))) (by rw [hss])) fun r H11 hr e11 => rv_ixL (sq_of hr) (atI_nat (by rw [txts_eq, List.getElem?_map, hcs]; rfl))) fun H11 e11 => ⟨cs, rfl, e010.trans e11, hb.1, by have := hb.2; omega⟩
    rintro σ' H10 ⟨cs, rfl, e010, hcs, hcl⟩
    -- the number of wares
    refine q_when (four 23 e010 rfl) (fun c H11 e11 => ?_) (fun c H11 e11 => ?_)
    · have e011 := e010.trans e11
      refine q_asg (v := .int (cellAt ns 25 % 10 ^ (20 : Int).toNat)) (ev_op (cell 25 e011 rfl ev_c) (ev_op ev_c ev_c (rv_I (C := CPow) ⟨by decide, by decide, by decide⟩)) (rv_I (by decide))) fun H12 e12 => ?_
      have hfar : 0 ≤ cellAt ns 25 % 10 ^ (20 : Int).toNat := Int.emod_nonneg _ (by decide)
      generalize cellAt ns 25 % 10 ^ (20 : Int).toNat = far at hfar
      have e012 := e011.trans e12
      generalize hss : cellAt ns 23 / 4 % 4 = ss
      have hs0 : 0 ≤ ss ∧ ss < 4 := by omega
      obtain ⟨j, rfl⟩ : ∃ j : Nat, ss = (j : Int) := ⟨ss.toNat, by omega⟩
      obtain ⟨z, hz, hzb⟩ : ∃ z : Int, ([.int 0, .int 9, .int (0 - far), .int (9 + far)] : List V)[j]? = some (.int z) ∧ ¬ okW z := by
        rcases (by omega : j = 0 ∨ j = 1 ∨ j = 2 ∨ j = 3) with rfl | rfl | rfl | rfl
        · exact ⟨0, rfl, by unfold okW; omega⟩
        · exact ⟨9, rfl, by unfold okW; omega⟩
        · exact ⟨0 - far, rfl, by unfold okW; omega⟩
        · exact ⟨9 + far, rfl, by unfold okW; omega⟩
      exact s_ret (v := .bl true) (ev_of (ev_op (ev_call (ea_cons (x := .int z) (ev_opL1 (y := .int (j : Int)) (el_lst (vs := [.int 0, .int 9, .int (0 - far), .int (9 + far)]) (ea_cons ev_c (ea_cons ev_c (ea_cons (ev_op ev_c (ev_var rfl) rv_I0) (ea_cons (ev_op ev_c (ev_var rfl) rv_I0) ea_nil)))) (by show 4 ≤ 100000; decide)) (fun H13 e13 => ev_of (ev_op (ev_op (cell 23 (e012.trans e13) rfl ev_c) ev_c (rv_I ⟨by decide, by decide⟩)) ev_c (rv_I (by decide))) (by rw [hss])) fun r H13 hr e13 => rv_ixL (sq_of hr) (atI_nat hz)) (ea_cons (ev_var rfl) ea_nil)) (z := .str "wares") fun H13 e13 Q13 q13 E13 =>
        ⟨z, cs, rfl, hcl, fun h => absurd h hzb, fun _ => q13, fun h => absurd h hzb, fun h => absurd h hzb⟩) ev_c (rv_eq rfl)) (dec_w _)) fun H13 _ => k H13
    -- the empty one
    have e011 := e010.trans e11
    refine q_when (b := decide (cs = [])) (et_is (et_test (ev_op (ev_var rfl) ev_c (rv_eq rfl))) ?_) (fun z H12 e12 => ?_) (fun z H12 e12 => ?_)
    · refine decide_eq_decide.mpr ⟨fun z => ?_, fun z => by subst z; rw [empty_eq] <;> rfl⟩
      have z' : mk cs = mk [] := by
        rw [← empty_eq]
        injection z
      exact mk_inj z'
    · have hz := of_decide_eq_true z
      exact s_ret (v := .bl true) (ev_of (ev_op (ev_call (ea_cons (ev_var rfl) (ea_cons (ev_var rfl) ea_nil)) (z := .str "done") fun H13 e13 Q13 q13 E13 => ⟨n, cs, rfl, hcl, fun _ => hcs, fun h => absurd ok h, fun _ _ => q13, fun _ h => absurd hz h⟩) ev_c (rv_eq rfl)) (dec_w _)) fun H13 _ => k H13
    · have hz := of_decide_eq_false z
      exact s_ret (v := .bl true) (ev_of (ev_op (ev_call (ea_cons (ev_var rfl) (ea_cons (ev_var rfl) ea_nil)) (z := .str "note") fun H13 e13 Q13 q13 E13 => ⟨n, cs, rfl, hcl, fun _ => hcs, fun h => absurd ok h, fun _ h => absurd h hz, fun _ _ => q13⟩) ev_c (rv_eq rfl)) (dec_w _)) fun H13 _ => k H13
end
end Mx
namespace Mx
open PySem PySem.Spec PyProof.Rows L2 Evl
def dd_asked_wares : He.DefD := ⟨("asked_wares", none), "asked_wares", "asked_wares", defArgs s_asked_wares, defBody s_asked_wares, defScope s_asked_wares, [], []⟩
def dd_is_set : He.DefD := ⟨("is_set", none), "is_set", "is_set", defArgs s_is_set, defBody s_is_set, defScope s_is_set, [], []⟩
def dd_mixture_of : He.DefD := ⟨("mixture_of", none), "mixture_of", "mixture_of", defArgs s_mixture_of, defBody s_mixture_of, defScope s_mixture_of, [], []⟩
def dd_read : He.DefD := ⟨("read", none), "read", "read", defArgs s_read, defBody s_read, defScope s_read, [], []⟩
def dd__law_cell_at : He.DefD := ⟨("_law_cell_at", none), "_law_cell_at", "_law_cell_at", defArgs s__law_cell_at, defBody s__law_cell_at, defScope s__law_cell_at, [], []⟩
def dd__law_word_of : He.DefD := ⟨("_law_word_of", none), "_law_word_of", "_law_word_of", defArgs s__law_word_of, defBody s__law_word_of, defScope s__law_word_of, [], []⟩
def dd__law_some_by : He.DefD := ⟨("_law_some_by", none), "_law_some_by", "_law_some_by", defArgs s__law_some_by, defBody s__law_some_by, defScope s__law_some_by, [], []⟩
def dd__law_plan_by : He.DefD := ⟨("_law_plan_by", none), "_law_plan_by", "_law_plan_by", defArgs s__law_plan_by, defBody s__law_plan_by, defScope s__law_plan_by, [], []⟩
def dd__law_tried : He.DefD := ⟨("_law_tried", none), "_law_tried", "_law_tried", defArgs s__law_tried, defBody s__law_tried, defScope s__law_tried, [], []⟩
def dd__law_spoilt : He.DefD := ⟨("_law_spoilt", none), "_law_spoilt", "_law_spoilt", defArgs s__law_spoilt, defBody s__law_spoilt, defScope s__law_spoilt, [], []⟩
def dd_law : He.DefD := ⟨("law", none), "law", "law", defArgs s_law, defBody s_law, defScope s_law, [], []⟩
def fn : List He.DefD := [dd_asked_wares, dd_is_set, dd_mixture_of, dd_read, dd__law_cell_at, dd__law_word_of, dd__law_some_by, dd__law_plan_by, dd__law_tried, dd__law_spoilt, dd_law]
def fa : List He.Fa := [.glo "asked_wares", .glo "is_set", .glo "mixture_of", .glo "read", .glo "_law_cell_at", .glo "_law_word_of", .glo "_law_some_by", .glo "_law_plan_by", .glo "_law_tried", .glo "_law_spoilt", .glo "law", .glo "PotError", .glo "NoWares", .glo "NoPlan", .glo "NoSet", .glo "NoMost", .glo "NoAnswers", .glo "NoFit", .glo "NotTold", .glo "NoNote", .exc "PotError", .exc "NoWares", .exc "NoPlan", .exc "NoSet", .exc "NoMost", .exc "NoAnswers", .exc "NoFit", .exc "NotTold", .exc "NoNote", .int "MOST_WARES" 8, .int "MOST_MIXTURES" 12, .str "FIGURES" "01234567", .free "ValueError", .free "isinstance", .free "len", .free "list", .free "range", .free "str"]
abbrev R : PySem.W.OpenRow := PySem.W.OpenLaw.row PySem.Challenge.rw_mixpots_k14_read
abbrev hk : PySem.W.Hook := hookE 4 fa fn
def ob (s : PySem.W.SharedT) : He.AlD × Bool := obsE 4 fa fn (HandSHeadRun.getT s)
theorem ob_eq (s : PySem.W.SharedT) : ob s = hk.obs s.abs := obsE_eq (HandSHeadRun.getT_eq s)
def looseL : List PySem.Str := ["PotError", "NoWares", "NoPlan", "NoSet", "NoMost", "NoAnswers", "NoFit", "NotTold", "NoNote", "MOST_WARES", "MOST_MIXTURES", "asked_wares", "is_set", "FIGURES", "mixture_of", "read", "_law_cell_at", "_law_word_of", "_law_some_by", "_law_plan_by", "_law_tried", "_law_spoilt"]
def looseM : List PySem.Str := []
abbrev loose : List PySem.Str := looseL ++ looseM
theorem run (w : World) : HandSHeadRun.RunEq R (PySem.W.view R.prog [26]) hk ob 3000 loose w := by
  intro os
  kernel_rfl
end Mx
namespace Mx
open PySem PySem.Spec PyProof.Rows L2 Evl
theorem facts {P : Program} {w : World} {K : PySem.W.Frag} {h : Heap} {mg : Str → Option Value} {f : Addr} (X : K.In h) (G : h.Ns mainGlobals mg) (hfa : mg ("law" : Str) = some (.ref f)) (c : He.SaysD fa fn K) (cE : errB K = true) :
    ∃ fd : FuncData, (∀ (s : Shared) (v : Value), BindsTo s fd ⟨[v], []⟩ [("script", v)]) ∧ ∀ base : Heap, K.In base → base.Ns mainGlobals mg → FnOk P w K mg base CX0 12 f fd ["script"] (spLaw K) := by
  obtain ⟨fd_asked_wares, F_asked_wares⟩ := c.def_ 0 (d := dd_asked_wares) rfl
  have g_asked_wares := He.glo_ok X G (c.fact 0 (f := .glo "asked_wares") rfl)
  obtain ⟨fd_is_set, F_is_set⟩ := c.def_ 1 (d := dd_is_set) rfl
  have g_is_set := He.glo_ok X G (c.fact 1 (f := .glo "is_set") rfl)
  obtain ⟨fd_mixture_of, F_mixture_of⟩ := c.def_ 2 (d := dd_mixture_of) rfl
  have g_mixture_of := He.glo_ok X G (c.fact 2 (f := .glo "mixture_of") rfl)
  obtain ⟨fd_read, F_read⟩ := c.def_ 3 (d := dd_read) rfl
  have g_read := He.glo_ok X G (c.fact 3 (f := .glo "read") rfl)
  obtain ⟨fd__law_cell_at, F__law_cell_at⟩ := c.def_ 4 (d := dd__law_cell_at) rfl
  have g__law_cell_at := He.glo_ok X G (c.fact 4 (f := .glo "_law_cell_at") rfl)
  obtain ⟨fd__law_word_of, F__law_word_of⟩ := c.def_ 5 (d := dd__law_word_of) rfl
  have g__law_word_of := He.glo_ok X G (c.fact 5 (f := .glo "_law_word_of") rfl)
  obtain ⟨fd__law_some_by, F__law_some_by⟩ := c.def_ 6 (d := dd__law_some_by) rfl
  have g__law_some_by := He.glo_ok X G (c.fact 6 (f := .glo "_law_some_by") rfl)
  obtain ⟨fd__law_plan_by, F__law_plan_by⟩ := c.def_ 7 (d := dd__law_plan_by) rfl
  have g__law_plan_by := He.glo_ok X G (c.fact 7 (f := .glo "_law_plan_by") rfl)
  obtain ⟨fd__law_tried, F__law_tried⟩ := c.def_ 8 (d := dd__law_tried) rfl
  have g__law_tried := He.glo_ok X G (c.fact 8 (f := .glo "_law_tried") rfl)
  obtain ⟨fd__law_spoilt, F__law_spoilt⟩ := c.def_ 9 (d := dd__law_spoilt) rfl
  have g__law_spoilt := He.glo_ok X G (c.fact 9 (f := .glo "_law_spoilt") rfl)
  obtain ⟨fd_law, F_law⟩ := c.def_ 10 (d := dd_law) rfl
  have g_law := He.glo_ok X G (c.fact 10 (f := .glo "law") rfl)
  have m_ValueError := He.free_ok X G (c.fact 32 (f := .free "ValueError") rfl)
  have m_isinstance := He.free_ok X G (c.fact 33 (f := .free "isinstance") rfl)
  have m_len := He.free_ok X G (c.fact 34 (f := .free "len") rfl)
  have m_list := He.free_ok X G (c.fact 35 (f := .free "list") rfl)
  have m_range := He.free_ok X G (c.fact 36 (f := .free "range") rfl)
  have m_str := He.free_ok X G (c.fact 37 (f := .free "str") rfl)
  have c_MOST_WARES := He.int_ok X G (c.fact 29 (f := .int "MOST_WARES" 8) rfl)
  have c_MOST_MIXTURES := He.int_ok X G (c.fact 30 (f := .int "MOST_MIXTURES" 12) rfl)
  have c_FIGURES := He.str_ok X G (c.fact 31 (f := .str "FIGURES" "01234567") rfl)
  have X_PotError : ExC K mg "PotError" (He.ga K "PotError") := by
    have z := He.exc_ok (c.fact 20 (f := .exc "PotError") rfl)
    exact ⟨He.glo_ok X G (c.fact 11 (f := .glo "PotError") rfl), z.1, z.2.1, z.2.2.1, z.2.2.2⟩
  have X_NoWares : ExC K mg "NoWares" (He.ga K "NoWares") := by
    have z := He.exc_ok (c.fact 21 (f := .exc "NoWares") rfl)
    exact ⟨He.glo_ok X G (c.fact 12 (f := .glo "NoWares") rfl), z.1, z.2.1, z.2.2.1, z.2.2.2⟩
  have X_NoPlan : ExC K mg "NoPlan" (He.ga K "NoPlan") := by
    have z := He.exc_ok (c.fact 22 (f := .exc "NoPlan") rfl)
    exact ⟨He.glo_ok X G (c.fact 13 (f := .glo "NoPlan") rfl), z.1, z.2.1, z.2.2.1, z.2.2.2⟩
  have X_NoSet : ExC K mg "NoSet" (He.ga K "NoSet") := by
    have z := He.exc_ok (c.fact 23 (f := .exc "NoSet") rfl)
    exact ⟨He.glo_ok X G (c.fact 14 (f := .glo "NoSet") rfl), z.1, z.2.1, z.2.2.1, z.2.2.2⟩
  have X_NoMost : ExC K mg "NoMost" (He.ga K "NoMost") := by
    have z := He.exc_ok (c.fact 24 (f := .exc "NoMost") rfl)
    exact ⟨He.glo_ok X G (c.fact 15 (f := .glo "NoMost") rfl), z.1, z.2.1, z.2.2.1, z.2.2.2⟩
  have X_NoAnswers : ExC K mg "NoAnswers" (He.ga K "NoAnswers") := by
    have z := He.exc_ok (c.fact 25 (f := .exc "NoAnswers") rfl)
    exact ⟨He.glo_ok X G (c.fact 16 (f := .glo "NoAnswers") rfl), z.1, z.2.1, z.2.2.1, z.2.2.2⟩
  have X_NoFit : ExC K mg "NoFit" (He.ga K "NoFit") := by
    have z := He.exc_ok (c.fact 26 (f := .exc "NoFit") rfl)
    exact ⟨He.glo_ok X G (c.fact 17 (f := .glo "NoFit") rfl), z.1, z.2.1, z.2.2.1, z.2.2.2⟩
  have X_NotTold : ExC K mg "NotTold" (He.ga K "NotTold") := by
    have z := He.exc_ok (c.fact 27 (f := .exc "NotTold") rfl)
    exact ⟨He.glo_ok X G (c.fact 18 (f := .glo "NotTold") rfl), z.1, z.2.1, z.2.2.1, z.2.2.2⟩
  have X_NoNote : ExC K mg "NoNote" (He.ga K "NoNote") := by
    have z := He.exc_ok (c.fact 28 (f := .exc "NoNote") rfl)
    exact ⟨He.glo_ok X G (c.fact 19 (f := .glo "NoNote") rfl), z.1, z.2.1, z.2.2.1, z.2.2.2⟩
  have e_err := errB_ok cE
  have e := hfa.symm.trans g_law
  cases e
  have bl := FunD.bindsA (ps := ["script"]) F_law fun _ _ _ _ _ _ us hl => match us, hl with | [_], _ => rfl
  refine ⟨fd_law, fun s v => bl s [v] rfl, fun base _ _ => ?_⟩
  have D_asked_wares := d_asked_wares (P := P) (w := w) (base := base) F_asked_wares g_asked_wares (X_NoWares := X_NoWares) (c_MOST_WARES := c_MOST_WARES)
  have D_is_set := d_is_set (P := P) (w := w) (base := base) F_is_set g_is_set 
  have D_mixture_of := d_mixture_of (P := P) (w := w) (base := base) F_mixture_of g_mixture_of (X_NoNote := X_NoNote) (m_len := m_len) (c_FIGURES := c_FIGURES) (D_is_set := D_is_set)
  have D_read := d_read (P := P) (w := w) (base := base) F_read g_read (X_NoNote := X_NoNote) (m_len := m_len) (c_MOST_MIXTURES := c_MOST_MIXTURES) (D_asked_wares := D_asked_wares) (D_mixture_of := D_mixture_of)
  have D__law_cell_at := d__law_cell_at (P := P) (w := w) (base := base) F__law_cell_at g__law_cell_at (m_len := m_len)
  have D__law_word_of := d__law_word_of (P := P) (w := w) (base := base) F__law_word_of g__law_word_of (X_NoWares := X_NoWares) (X_NoPlan := X_NoPlan) (X_NoSet := X_NoSet) (X_NoMost := X_NoMost) (X_NoAnswers := X_NoAnswers) (X_NoFit := X_NoFit) (X_NotTold := X_NotTold) (X_NoNote := X_NoNote) (m_isinstance := m_isinstance) (m_ValueError := m_ValueError) (e_err := e_err)
  have D__law_some_by := d__law_some_by (P := P) (w := w) (base := base) F__law_some_by g__law_some_by (m_range := m_range)
  have D__law_plan_by := d__law_plan_by (P := P) (w := w) (base := base) F__law_plan_by g__law_plan_by (m_len := m_len) (m_range := m_range) (m_list := m_list) (D__law_cell_at := D__law_cell_at) (D__law_some_by := D__law_some_by)
  have D__law_tried := d__law_tried (P := P) (w := w) (base := base) F__law_tried g__law_tried (X_PotError := X_PotError) (e_err := e_err) (D__law_word_of := D__law_word_of) (D_read := D_read)
  have D__law_spoilt := d__law_spoilt (P := P) (w := w) (base := base) F__law_spoilt g__law_spoilt (m_len := m_len) (m_str := m_str) (m_range := m_range)
  have D_law := d_law (P := P) (w := w) (base := base) F_law g_law (m_len := m_len) (m_str := m_str) (D__law_cell_at := D__law_cell_at) (D__law_plan_by := D__law_plan_by) (D__law_spoilt := D__law_spoilt) (D__law_tried := D__law_tried)
  exact D_law
end Mx

open PySem PySem.W PySem.Calls PyProof.Rows
set_option maxHeartbeats 0 in
theorem PySem.Challenge.cw_mixpots_k14_read_holds : PySem.Challenge.rw_mixpots_k14_read.Holds := by
  w_on; o_law
  refine HandSHeadRun.head_any (r := OpenLaw.row PySem.Challenge.rw_mixpots_k14_read) (q := view (OpenLaw.row PySem.Challenge.rw_mixpots_k14_read).prog [26]) (H := Mx.hk) (ob := Mx.ob) (M := 3000) (loose := Mx.loose) (d := HandSHeadRun.topDef (OpenLaw.row PySem.Challenge.rw_mixpots_k14_read).prog 26) (kwd := []) Mx.ob_eq
    (by kernel_rfl) (fun s => by kernel_rfl) Mx.run (by kernel_rfl) (by kernel_rfl) (by kernel_rfl) (by rfl) (by first | assumption | decide +kernel) (by decide +kernel) ⟨rfl, rfl, rfl, rfl, rfl, by decide +kernel⟩ ?hw ?hc
  case hw => w_witness2
  case hc =>
    refine L2.walk_ofE (l := PySem.Challenge.rw_mixpots_k14_read) (n := 63) (k := 12) (x := "script") (CX := L2.CX0) rfl (by decide) (by kernel_rfl) ⟨rfl, by decide, by decide⟩ ?F (fun _ _ _ _ z => z)
    intro w mg fa h Y G hmg0
    obtain ⟨K, KX, c, cE⟩ := Y
    have hmg : mg ("law" : PySem.Str) = some (.ref fa) := by
      have e : (HandSHeadRun.topDef (OpenLaw.row PySem.Challenge.rw_mixpots_k14_read).prog 26).name = ("law" : PySem.Str) := by kernel_rfl
      rw [← e]
      exact hmg0
    obtain ⟨fd, hb, hF⟩ := Mx.facts (P := (PySem.Challenge.rw_mixpots_k14_read).prog) (w := w) KX G hmg c cE
    exact ⟨K, fd, Mx.spLaw K, KX, hb, fun H a ns hl _ hS => ⟨a, ns, rfl, hS, hl, fun _ => rfl⟩, hF⟩

