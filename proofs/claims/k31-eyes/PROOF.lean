import PyProof.Rows.All
import Wide.All
import OpenK.AllK
import Wide.FinOn
import KE.KStateDown
import HandS.ForMost
import HandS.Exc
import HandS.WordsExc
import HandS.Flow
import HandS.Zip
import HandS.Conv
import HandS.Sort
import HandS.SortKw
import HandS.CallLocal
import HandS.NoneIn
import HandS.TupAny
import HandS.Style
import HandS.More
import HandS.Defaults
import HandS.Head0
import HandS.Head1
import HandS.Head2
import HandS.HeadEnd
import HandS.HeadHook1
import HandS.HeadHook2
import PySem.Challenge.RW_cotide_k31_whole_patches_keep_their_eyes
import KE.KDictDisplayH
import KE.KDictPairs
import KE.KRevSl
import KE.SortData
import KE.SortKeyHeap
import KE.KDictKeyed
import KE.GoesEnum
import KE.GoesMore
import HandS.Walk
import PyProof.ZipIter
import KE.KDictZip
import KE.GoesEnumKw
import HandS.ListItems
set_option Elab.async false
set_option linter.all false
set_option maxRecDepth 100000
/-! Mathematics of the seas, part A: lists, sums, and the chart's own words. -/
namespace Co

/-! ### lists -/
theorem nodup_map_inj {α β : Type} {f : α → β} {l : List α} (h : l.Nodup) (hf : ∀ a, a ∈ l → ∀ b, b ∈ l → f a = f b → a = b) : (l.map f).Nodup := by
  induction l with
  | nil => exact List.nodup_nil
  | cons x r ih =>
    rw [List.map_cons, List.nodup_cons]
    rw [List.nodup_cons] at h
    refine ⟨fun hm => ?_, ih h.2 fun a ha b hb => hf a (List.mem_cons_of_mem _ ha) b (List.mem_cons_of_mem _ hb)⟩
    obtain ⟨y, hy, e⟩ := List.mem_map.mp hm
    have := hf y (List.mem_cons_of_mem _ hy) x List.mem_cons_self e
    subst this
    exact h.1 hy

theorem nodup_filter {α : Type} {p : α → Bool} {l : List α} (h : l.Nodup) : (l.filter p).Nodup := List.Pairwise.filter p h

theorem sum_map_add {α : Type} (f g : α → Int) : ∀ l : List α, (l.map fun x => f x + g x).sum = (l.map f).sum + (l.map g).sum
  | [] => rfl
  | x :: r => by simp only [List.map_cons, List.sum_cons, sum_map_add f g r]; omega
theorem sum_map_mul {α : Type} (k : Int) (f : α → Int) : ∀ l : List α, (l.map fun x => k * f x).sum = k * (l.map f).sum
  | [] => by simp
  | x :: r => by simp only [List.map_cons, List.sum_cons, sum_map_mul k f r, Int.mul_add]
theorem sum_map_mul_right {α : Type} (k : Int) (f : α → Int) (l : List α) : (l.map fun x => f x * k).sum = (l.map f).sum * k := by
  rw [Int.mul_comm _ k, ← sum_map_mul]
  congr 1
  exact List.map_congr_left fun x _ => Int.mul_comm _ _
theorem sum_map_neg {α : Type} (f : α → Int) : ∀ l : List α, (l.map fun x => - f x).sum = - (l.map f).sum
  | [] => rfl
  | x :: r => by simp only [List.map_cons, List.sum_cons, sum_map_neg f r]; omega
theorem sum_map_zero {α : Type} {f : α → Int} : ∀ {l : List α}, (∀ x, x ∈ l → f x = 0) → (l.map f).sum = 0
  | [], _ => rfl
  | x :: r, h => by
    rw [List.map_cons, List.sum_cons, h x List.mem_cons_self, sum_map_zero (l := r) fun y hy => h y (List.mem_cons_of_mem _ hy)]
    rfl
theorem sum_map_le {α : Type} {f g : α → Int} : ∀ {l : List α}, (∀ x, x ∈ l → f x ≤ g x) → (l.map f).sum ≤ (l.map g).sum
  | [], _ => Int.le_refl _
  | x :: r, h => by
    rw [List.map_cons, List.sum_cons, List.map_cons, List.sum_cons]
    have h1 := h x List.mem_cons_self
    have h2 := sum_map_le (l := r) fun y hy => h y (List.mem_cons_of_mem _ hy)
    omega
theorem sum_map_filter {α : Type} (p : α → Bool) (f : α → Int) : ∀ l : List α, ((l.filter p).map f).sum = (l.map fun x => if p x = true then f x else 0).sum
  | [] => rfl
  | x :: r => by
    rw [List.filter_cons, List.map_cons, List.sum_cons, ← sum_map_filter p f r]
    by_cases h : p x = true
    · rw [if_pos h, if_pos h, List.map_cons, List.sum_cons]
    · rw [if_neg h, if_neg h]; omega
theorem sum_perm {l l' : List Int} (h : l.Perm l') : l.sum = l'.sum := by
  induction h with
  | nil => rfl
  | cons x _ ih => rw [List.sum_cons, List.sum_cons, ih]
  | swap x y l => rw [List.sum_cons, List.sum_cons, List.sum_cons, List.sum_cons]; omega
  | trans _ _ h1 h2 => exact h1.trans h2
theorem sum_flatten {α : Type} (f : α → Int) : ∀ l : List (List α), (l.flatten.map f).sum = (l.map fun e => (e.map f).sum).sum
  | [] => rfl
  | x :: r => by
    rw [List.flatten_cons, List.map_append, List.sum_append, List.map_cons, List.sum_cons, sum_flatten f r]
theorem sum_dvd {α : Type} {k : Int} {f : α → Int} : ∀ {l : List α}, (∀ x, x ∈ l → k ∣ f x) → k ∣ (l.map f).sum
  | [], _ => Int.dvd_zero _
  | x :: r, h => by
    rw [List.map_cons, List.sum_cons]
    exact Int.dvd_add (h x List.mem_cons_self) (sum_dvd fun y hy => h y (List.mem_cons_of_mem _ hy))
/-- sums over a range of two indices, by places -/
theorem sum_range_map {f : Nat → Int} {l : List Int} (h : ∀ i, i < l.length → l[i]? = some (f i)) : l = (List.range l.length).map f := by
  apply List.ext_getElem?
  intro i
  by_cases hi : i < l.length
  · rw [h i hi, List.getElem?_map, List.getElem?_range hi]; rfl
  · rw [List.getElem?_eq_none (by omega), List.getElem?_eq_none (by simp; omega)]

/-- a list of distinct things is arranged as another of the same members -/
theorem perm_of_mem {α : Type} {l l' : List α} (h : l.Nodup) (h' : l'.Nodup) (m : ∀ a, a ∈ l ↔ a ∈ l') : l.Perm l' := (List.perm_ext_iff_of_nodup h h').mpr m

theorem foldl_take {α β : Type} (f : β → α → β) (z : β) {l : List α} {i : Nat} {x : α} (h : l[i]? = some x) : (l.take (i + 1)).foldl f z = f ((l.take i).foldl f z) x := by
  rw [List.take_add_one, h, List.foldl_append]
  rfl

/-! ### the chart -/
abbrev Sq := Int × Int
structure Ch where
  clock : Int
  rows : List (List Int)
namespace Ch
def high (c : Ch) : Nat := c.rows.length
def wide (c : Ch) : Nat := (c.rows.headD []).length
def val (c : Ch) (s : Sq) : Int := (c.rows.getD s.1.toNat []).getD s.2.toNat 0
def within (c : Ch) (s : Sq) : Bool := decide (0 ≤ s.1 ∧ s.1 < c.high ∧ 0 ≤ s.2 ∧ s.2 < c.wide)
def told (c : Ch) (s : Sq) : Bool := c.within s && decide (0 ≤ c.val s)
def sea (c : Ch) (s : Sq) : Bool := c.within s && decide (c.val s ≠ -1)
structure Good (c : Ch) : Prop where
  lo : 3 ≤ c.clock
  hi : c.clock ≤ 15
  odd : c.clock % 2 = 1
  h1 : 1 ≤ c.rows.length
  h9 : c.rows.length ≤ 7
  w1 : 1 ≤ c.wide
  w9 : c.wide ≤ 7
  all : ∀ row, row ∈ c.rows → row.length = c.wide ∧ ∀ x, x ∈ row → -2 ≤ x ∧ x < c.clock
end Ch
def gridOf (w n : Nat) : List Sq := (List.range n).map fun t => (((t / w : Nat) : Int), ((t % w : Nat) : Int))
theorem mem_gridOf {w h : Nat} {s : Sq} : s ∈ gridOf w (w * h) ↔ 0 ≤ s.1 ∧ s.1 < h ∧ 0 ≤ s.2 ∧ s.2 < w := by
  constructor
  · intro m
    obtain ⟨t, ht, rfl⟩ := List.mem_map.mp m
    have ht := List.mem_range.mp ht
    have hw : 0 < w := by
      rcases Nat.eq_zero_or_pos w with e | e
      · subst e; simp at ht
      · exact e
    have h1 : t / w < h := (Nat.div_lt_iff_lt_mul hw).mpr (by rw [Nat.mul_comm]; exact ht)
    have h2 : t % w < w := Nat.mod_lt _ hw
    exact ⟨Int.natCast_nonneg _, Int.ofNat_lt.mpr h1, Int.natCast_nonneg _, Int.ofNat_lt.mpr h2⟩
  · rintro ⟨h1, h2, h3, h4⟩
    obtain ⟨r, c⟩ := s
    simp only [] at h1 h2 h3 h4
    refine List.mem_map.mpr ⟨w * r.toNat + c.toNat, List.mem_range.mpr ?_, ?_⟩
    · have : w * (r.toNat + 1) ≤ w * h := Nat.mul_le_mul_left w (by omega)
      rw [Nat.mul_add] at this
      omega
    · have hw : 0 < w := by omega
      have e1 : (w * r.toNat + c.toNat) / w = r.toNat := by
        rw [Nat.mul_add_div hw, Nat.div_eq_of_lt (by omega)]; omega
      have e2 : (w * r.toNat + c.toNat) % w = c.toNat := by
        rw [Nat.mul_add_mod, Nat.mod_eq_of_lt (by omega)]
      rw [e1, e2]
      ext <;> simp only [] <;> omega
theorem gridOf_nodup {w h : Nat} : (gridOf w (w * h)).Nodup := by
  refine nodup_map_inj List.nodup_range fun a ha b hb e => ?_
  have e1 : ((a / w : Nat) : Int) = ((b / w : Nat) : Int) := congrArg Prod.fst e
  have e2 : ((a % w : Nat) : Int) = ((b % w : Nat) : Int) := congrArg Prod.snd e
  have h1 : a / w = b / w := by omega
  have h2 : a % w = b % w := by omega
  rw [← Nat.div_add_mod a w, ← Nat.div_add_mod b w, h1, h2]
theorem gridOf_length (w n : Nat) : (gridOf w n).length = n := by simp [gridOf]
namespace Ch
def every (c : Ch) : List Sq := gridOf c.wide (c.wide * c.high)
def toldSq (c : Ch) : List Sq := c.every.filter fun s => decide (0 ≤ c.val s)
def corners (c : Ch) : List Sq := gridOf (c.wide - 1) ((c.wide - 1) * (c.high - 1))
theorem mem_every {c : Ch} {s : Sq} : s ∈ c.every ↔ c.within s = true := by
  rw [every, mem_gridOf, within, decide_eq_true_eq]
theorem mem_toldSq {c : Ch} {s : Sq} : s ∈ c.toldSq ↔ c.told s = true := by
  rw [toldSq, List.mem_filter, mem_every, told, Bool.and_eq_true]
theorem toldSq_nodup (c : Ch) : c.toldSq.Nodup := nodup_filter gridOf_nodup
theorem corners_nodup (c : Ch) : c.corners.Nodup := gridOf_nodup
theorem mem_corners {c : Ch} {k : Sq} : k ∈ c.corners ↔ 0 ≤ k.1 ∧ k.1 + 1 < c.high ∧ 0 ≤ k.2 ∧ k.2 + 1 < c.wide := by
  rw [corners, mem_gridOf]
  omega
end Ch
def beside (s : Sq) : List Sq := [(s.1 - 1, s.2), (s.1, s.2 - 1), (s.1, s.2 + 1), (s.1 + 1, s.2)]
def stepOf (clock a b : Int) : Int :=
  if clock < 2 * ((b - a) % clock) then (b - a) % clock - clock else (b - a) % clock
def across (k : Sq) : List ((Sq × Sq) × Sq) :=
  [(((k.1, k.2), (k.1, k.2 + 1)), (k.1 - 1, k.2)), (((k.1, k.2 + 1), (k.1 + 1, k.2 + 1)), (k.1, k.2 + 1)),
   (((k.1 + 1, k.2 + 1), (k.1 + 1, k.2)), (k.1 + 1, k.2)), (((k.1 + 1, k.2), (k.1, k.2)), (k.1, k.2 - 1))]
namespace Ch
def side (c : Ch) (p : Sq × Sq) : Bool := c.told p.1 && c.told p.2
def sStep (c : Ch) (p : Sq × Sq) : Int := stepOf c.clock (c.val p.1) (c.val p.2)
def whItem (c : Ch) (acc : Int) (x : (Sq × Sq) × Sq) : Int := if c.side x.1 = true then acc + c.sStep x.1 else acc
def whirl (c : Ch) (k : Sq) : Int := (across k).foldl c.whItem 0
def countOf (c : Ch) (e : List Sq) : Int := (e.map c.whirl).sum / c.clock
/-- the sides, by the squares -/
def sidesOf (c : Ch) : List (Sq × Sq) := c.toldSq.flatMap fun one => ([(one.1, one.2 + 1), (one.1 + 1, one.2)].filter c.told).map fun o => (one, o)
end Ch
theorem stepOf_anti {clock a b : Int} (h : 3 ≤ clock) (ho : clock % 2 = 1) : stepOf clock b a = - stepOf clock a b := by
  unfold stepOf
  have e1 : (a - b) % clock = if (b - a) % clock = 0 then 0 else clock - (b - a) % clock := by
    have hb := Int.emod_nonneg (b - a) (show clock ≠ 0 by omega)
    have hc := Int.emod_lt_of_pos (b - a) (show 0 < clock by omega)
    have e : (a - b) = (clock - (b - a) % clock) + clock * (-((b - a) / clock) - 1) := by
      have := Int.emod_add_mul_ediv (b - a) clock
      rw [Int.mul_sub, Int.mul_neg]
      omega
    split
    · rename_i z
      rw [e, z, Int.add_mul_emod_self_left, Int.sub_zero, Int.emod_self]
    · rw [e, Int.add_mul_emod_self_left, Int.emod_eq_of_lt (by omega) (by omega)]
  have hb := Int.emod_nonneg (b - a) (show clock ≠ 0 by omega)
  have hc := Int.emod_lt_of_pos (b - a) (show 0 < clock by omega)
  rw [e1]
  generalize (b - a) % clock = m at *
  split <;> split <;> split <;> omega
theorem stepOf_dvd {clock a b : Int} : clock ∣ (b - a) - stepOf clock a b := by
  unfold stepOf
  have := Int.emod_add_mul_ediv (b - a) clock
  split
  · refine ⟨(b - a) / clock + 1, ?_⟩
    rw [Int.mul_add]; omega
  · exact ⟨(b - a) / clock, by omega⟩
end Co

set_option maxRecDepth 100000
/-! Part B: eyes as the program finds them. -/
namespace Co
open Ch

/-- one step over land: from a corner to the one beyond a pair that is no side -/
def Adj (c : Ch) (k k' : Sq) : Prop := k ∈ c.corners ∧ k' ∈ c.corners ∧ ∃ p, (p, k') ∈ across k ∧ c.side p = false
def Opens (c : Ch) (k : Sq) : Prop := ∃ x, x ∈ across k ∧ c.side x.1 = false ∧ x.2 ∉ c.corners
inductive Conn (c : Ch) : Sq → Sq → Prop
  | refl (k : Sq) : Conn c k k
  | tail {k m n : Sq} : Conn c k m → Adj c m n → Conn c k n
theorem Conn.trans {c : Ch} {a b d : Sq} (h : Conn c a b) (g : Conn c b d) : Conn c a d := by
  induction g with
  | refl => exact h
  | tail _ s ih => exact .tail ih s
theorem side_swap (c : Ch) (a b : Sq) : c.side (a, b) = c.side (b, a) := by
  unfold side; exact Bool.and_comm _ _
theorem across_back {k k' : Sq} {p : Sq × Sq} (h : (p, k') ∈ across k) : ((p.2, p.1), k) ∈ across k' := by
  simp only [across, List.mem_cons, Prod.mk.injEq, List.not_mem_nil, or_false] at h ⊢
  obtain ⟨k1, k2⟩ := k
  rcases h with ⟨rfl, rfl⟩ | ⟨rfl, rfl⟩ | ⟨rfl, rfl⟩ | ⟨rfl, rfl⟩
  · refine .inr (.inr (.inl ⟨⟨?_, ?_⟩, ?_⟩)) <;> ext <;> simp only [] <;> omega
  · refine .inr (.inr (.inr ⟨⟨?_, ?_⟩, ?_⟩)) <;> ext <;> simp only [] <;> omega
  · refine .inl ⟨⟨?_, ?_⟩, ?_⟩ <;> ext <;> simp only [] <;> omega
  · refine .inr (.inl ⟨⟨?_, ?_⟩, ?_⟩) <;> ext <;> simp only [] <;> omega
theorem Adj.symm {c : Ch} {k k' : Sq} (h : Adj c k k') : Adj c k' k := by
  obtain ⟨h1, h2, p, hp, hs⟩ := h
  exact ⟨h2, h1, _, across_back hp, by rw [← hs]; exact side_swap c p.2 p.1⟩
theorem Conn.symm {c : Ch} {a b : Sq} (h : Conn c a b) : Conn c b a := by
  induction h with
  | refl => exact .refl _
  | tail _ s ih => exact (Conn.tail (.refl _) s.symm).trans ih
theorem Conn.mem {c : Ch} {a b : Sq} (h : Conn c a b) (ha : a ∈ c.corners) : b ∈ c.corners := by
  cases h with
  | refl => exact ha
  | tail _ s => exact s.2.1

/-! ### the search -/
structure GS where
  seen : List Sq
  line : List Sq
  out : Bool
def gItem (c : Ch) (s : GS) (x : (Sq × Sq) × Sq) : GS :=
  if c.side x.1 = true then s
  else if x.2 ∉ c.corners then { s with out := true }
  else if x.2 ∉ s.seen then { seen := s.seen ++ [x.2], line := s.line ++ [x.2], out := s.out }
  else s
def gTurn (c : Ch) (s : GS) : GS :=
  (across (s.line.getLastD (0, 0))).foldl (gItem c) { s with line := s.line.dropLast }
def gLoop (c : Ch) : Nat → GS → GS
  | 0, s => s
  | n + 1, s => if s.line = [] then s else gLoop c n (gTurn c s)
def gFuel (c : Ch) : Nat := 2 * c.corners.length
def grown (c : Ch) (k : Sq) : GS := gLoop c (gFuel c) ⟨[k], [k], false⟩

/-- what holds of the search: w the corner in work, if any, and its pairs gone through -/
structure GInv (c : Ch) (k : Sq) (s : GS) (w : Option (Sq × List ((Sq × Sq) × Sq))) : Prop where
  start : k ∈ s.seen
  nodup : s.seen.Nodup
  conn : ∀ x, x ∈ s.seen → Conn c k x
  line : ∀ x, x ∈ s.line → x ∈ s.seen
  shut : ∀ x, x ∈ s.seen → (x ∉ s.line) → ∀ y, y ∈ across x → c.side y.1 = false → (∃ d, w = some (x, d) ∧ y ∉ d) ∨ (y.2 ∈ c.corners → y.2 ∈ s.seen) ∧ (y.2 ∉ c.corners → s.out = true)
  out : s.out = true → ∃ x, x ∈ s.seen ∧ Opens c x
theorem GInv.item {c : Ch} {k : Sq} (hk : k ∈ c.corners) {s : GS} {x : Sq} {d : List ((Sq × Sq) × Sq)} {y : (Sq × Sq) × Sq} (h : GInv c k s (some (x, d))) (hx : x ∈ s.seen) (hy : y ∈ across x) :
    GInv c k (gItem c s y) (some (x, y :: d)) ∧ x ∈ (gItem c s y).seen := by
  have hxc : x ∈ c.corners := (h.conn x hx).mem hk
  unfold gItem
  split
  · rename_i hs
    refine ⟨⟨h.start, h.nodup, h.conn, h.line, fun z hz hl v hv hvs => ?_, h.out⟩, hx⟩
    rcases h.shut z hz hl v hv hvs with ⟨d', e, hd⟩ | q
    · cases e
      by_cases e : v = y
      · subst e; rw [hvs] at hs; cases hs
      · exact .inl ⟨_, rfl, by simp [e, hd]⟩
    · exact .inr q
  · rename_i hs
    have hs : c.side y.1 = false := by simpa using hs
    split
    · rename_i hn
      refine ⟨⟨h.start, h.nodup, h.conn, h.line, fun z hz hl v hv hvs => ?_, fun _ => ⟨x, hx, y, hy, hs, hn⟩⟩, hx⟩
      rcases h.shut z hz hl v hv hvs with ⟨d', e, hd⟩ | q
      · cases e
        by_cases e : v = y
        · subst e; exact .inr ⟨fun m => absurd m hn, fun _ => rfl⟩
        · exact .inl ⟨_, rfl, by simp [e, hd]⟩
      · exact .inr ⟨q.1, fun _ => rfl⟩
    · rename_i hn
      have hn : y.2 ∈ c.corners := Decidable.not_not.mp hn
      split
      · rename_i hns
        refine ⟨⟨List.mem_append_left _ h.start, ?_, fun z hz => ?_, fun z hz => ?_, fun z hz hl v hv hvs => ?_, fun o => ?_⟩, List.mem_append_left _ hx⟩
        · rw [List.nodup_append]
          exact ⟨h.nodup, by simp, fun a ha b hb e => by
            rw [List.mem_singleton.mp hb] at e
            exact hns (e ▸ ha)⟩
        · rcases List.mem_append.mp hz with hz | hz
          · exact h.conn z hz
          · rw [List.mem_singleton.mp hz]
            exact .tail (h.conn x hx) ⟨hxc, hn, y.1, hy, hs⟩
        · rcases List.mem_append.mp hz with hz | hz
          · exact List.mem_append_left _ (h.line z hz)
          · exact List.mem_append_right _ hz
        · simp only [List.mem_append, List.mem_singleton, not_or] at hl
          have hz' : z ∈ s.seen := by
            rcases List.mem_append.mp hz with hz | hz
            · exact hz
            · exact absurd (List.mem_singleton.mp hz) hl.2
          rcases h.shut z hz' hl.1 v hv hvs with ⟨d', e, hd⟩ | q
          · cases e
            by_cases e : v = y
            · subst e; exact .inr ⟨fun _ => List.mem_append_right _ (List.mem_singleton.mpr rfl), fun m => absurd hn m⟩
            · exact .inl ⟨_, rfl, by simp [e, hd]⟩
          · exact .inr ⟨fun m => List.mem_append_left _ (q.1 m), q.2⟩
        · obtain ⟨z, hz, o⟩ := h.out o
          exact ⟨z, List.mem_append_left _ hz, o⟩
      · rename_i hns
        have hns : y.2 ∈ s.seen := Decidable.not_not.mp hns
        refine ⟨⟨h.start, h.nodup, h.conn, h.line, fun z hz hl v hv hvs => ?_, h.out⟩, hx⟩
        rcases h.shut z hz hl v hv hvs with ⟨d', e, hd⟩ | q
        · cases e
          by_cases e : v = y
          · subst e; exact .inr ⟨fun _ => hns, fun m => absurd hn m⟩
          · exact .inl ⟨_, rfl, by simp [e, hd]⟩
        · exact .inr q
theorem GInv.items {c : Ch} {k : Sq} (hk : k ∈ c.corners) {x : Sq} : ∀ {ys d : List ((Sq × Sq) × Sq)} {s : GS}, GInv c k s (some (x, d)) → x ∈ s.seen → (∀ y, y ∈ ys → y ∈ across x) →
    GInv c k (ys.foldl (gItem c) s) (some (x, ys.reverse ++ d)) ∧ x ∈ (ys.foldl (gItem c) s).seen
  | [], _, _, h, hx, _ => ⟨h, hx⟩
  | y :: ys, d, s, h, hx, hy => by
    obtain ⟨h1, hx1⟩ := h.item hk hx (hy y List.mem_cons_self)
    have := GInv.items hk (ys := ys) h1 hx1 fun z hz => hy z (List.mem_cons_of_mem _ hz)
    rw [List.reverse_cons, List.append_assoc]
    exact this
def gSize (c : Ch) (s : GS) : Nat := 2 * (c.corners.length - s.seen.length) + s.line.length
theorem GInv.size_le {c : Ch} {k : Sq} (hk : k ∈ c.corners) {s : GS} {w} (h : GInv c k s w) : s.seen.length ≤ c.corners.length :=
  h.nodup.length_le_of_subset fun x hx => (h.conn x hx).mem hk
theorem gItem_size {c : Ch} {k : Sq} (hk : k ∈ c.corners) {s : GS} {x : Sq} {d : List ((Sq × Sq) × Sq)} {y : (Sq × Sq) × Sq} (h : GInv c k s (some (x, d))) (hx : x ∈ s.seen) (hy : y ∈ across x) : gSize c (gItem c s y) ≤ gSize c s := by
  have hz := (h.item hk hx hy).1.size_le hk
  revert hz
  unfold gItem gSize
  split
  · intro _; exact Nat.le_refl _
  · split
    · intro _; exact Nat.le_refl _
    · split
      · simp only [List.length_append, List.length_singleton]
        intro hz
        omega
      · intro _; exact Nat.le_refl _
theorem gItems_size {c : Ch} {k : Sq} (hk : k ∈ c.corners) {x : Sq} : ∀ {ys d : List ((Sq × Sq) × Sq)} {s : GS}, GInv c k s (some (x, d)) → x ∈ s.seen → (∀ y, y ∈ ys → y ∈ across x) → gSize c (ys.foldl (gItem c) s) ≤ gSize c s
  | [], _, _, _, _, _ => Nat.le_refl _
  | y :: ys, d, s, h, hx, hy => by
    obtain ⟨h1, hx1⟩ := h.item hk hx (hy y List.mem_cons_self)
    exact Nat.le_trans (gItems_size hk (ys := ys) h1 hx1 fun z hz => hy z (List.mem_cons_of_mem _ hz)) (gItem_size hk h hx (hy y List.mem_cons_self))
theorem getLastD_mem {α : Type} {l : List α} {d : α} (h : l ≠ []) : l.getLastD d ∈ l ∧ l.dropLast ++ [l.getLastD d] = l := by
  have e : l.getLastD d = l.getLast h := by
    cases l with
    | nil => exact absurd rfl h
    | cons a r => rfl
  rw [e]
  exact ⟨List.getLast_mem h, List.dropLast_concat_getLast h⟩
theorem GInv.pop {c : Ch} {k : Sq} {s : GS} (h : GInv c k s none) (hl : s.line ≠ []) : GInv c k { s with line := s.line.dropLast } (some (s.line.getLastD (0, 0), [])) := by
  obtain ⟨_, e⟩ := getLastD_mem (d := ((0, 0) : Sq)) hl
  refine ⟨h.start, h.nodup, h.conn, fun x hx => h.line x (List.dropLast_sublist _ |>.subset hx), fun x hx hn y hy hs => ?_, h.out⟩
  by_cases hxl : x = s.line.getLastD (0, 0)
  · subst hxl
    exact .inl ⟨[], rfl, by simp⟩
  · refine .inr ?_
    have hn' : x ∉ s.line := fun m => by
      rw [← e] at m
      rcases List.mem_append.mp m with m | m
      · exact hn m
      · exact hxl (List.mem_singleton.mp m)
    rcases h.shut x hx hn' y hy hs with ⟨_, e, _⟩ | q
    · cases e
    · exact q
theorem GInv.turn {c : Ch} {k : Sq} (hk : k ∈ c.corners) {s : GS} (h : GInv c k s none) (hl : s.line ≠ []) : GInv c k (gTurn c s) none ∧ gSize c (gTurn c s) < gSize c s := by
  obtain ⟨hm, e⟩ := getLastD_mem (d := ((0, 0) : Sq)) hl
  have hp := h.pop hl
  have hx : s.line.getLastD (0, 0) ∈ s.seen := h.line _ hm
  obtain ⟨g, _⟩ := GInv.items hk (ys := across (s.line.getLastD (0, 0))) hp hx fun _ z => z
  refine ⟨⟨g.start, g.nodup, g.conn, g.line, fun x hx hn y hy hs => ?_, g.out⟩, ?_⟩
  · rcases g.shut x hx hn y hy hs with ⟨d, e, hd⟩ | q
    · cases e
      exact absurd (List.mem_append_left _ (List.mem_reverse.mpr hy)) hd
    · exact .inr q
  · refine Nat.lt_of_le_of_lt (gItems_size hk (ys := across (s.line.getLastD (0, 0))) hp hx fun _ z => z) ?_
    unfold gSize
    have : s.line.length = s.line.dropLast.length + 1 := by
      have := congrArg List.length e
      simpa using this.symm
    simp only []
    omega
theorem gLoop_spec {c : Ch} {k : Sq} (hk : k ∈ c.corners) : ∀ (n : Nat) (s : GS), GInv c k s none → gSize c s ≤ n → GInv c k (gLoop c n s) none ∧ (gLoop c n s).line = []
  | 0, s, h, hn => by
    refine ⟨h, ?_⟩
    unfold gSize at hn
    exact List.eq_nil_of_length_eq_zero (by show s.line.length = 0; omega)
  | n + 1, s, h, hn => by
    unfold gLoop
    split
    · rename_i e; exact ⟨h, e⟩
    · rename_i e
      obtain ⟨h1, h2⟩ := h.turn hk e
      exact gLoop_spec hk n _ h1 (by omega)
theorem GInv.first {c : Ch} {k : Sq} : GInv c k ⟨[k], [k], false⟩ none := by
  refine ⟨by simp, by simp, fun x hx => ?_, fun x hx => hx, fun x hx hn => ?_, fun o => ?_⟩
  · rw [List.mem_singleton.mp hx]; exact .refl _
  · exact absurd hx hn
  · cases o
theorem grown_spec {c : Ch} {k : Sq} (hk : k ∈ c.corners) : (grown c k).line = [] ∧ (grown c k).seen.Nodup ∧ (∀ x, x ∈ (grown c k).seen ↔ Conn c k x) ∧ ((grown c k).out = true ↔ ∃ x, Conn c k x ∧ Opens c x) := by
  have hlen : 1 ≤ c.corners.length := by
    cases e : c.corners with
    | nil => rw [e] at hk; cases hk
    | cons _ _ => simp
  obtain ⟨h, e⟩ := gLoop_spec hk (gFuel c) ⟨[k], [k], false⟩ .first (by unfold gSize gFuel; simp; omega)
  have sh : ∀ x, x ∈ (grown c k).seen → ∀ y, y ∈ across x → c.side y.1 = false → (y.2 ∈ c.corners → y.2 ∈ (grown c k).seen) ∧ (y.2 ∉ c.corners → (grown c k).out = true) := fun x hx y hy hs => by
    rcases h.shut x hx (by rw [e]; simp) y hy hs with ⟨_, e, _⟩ | q
    · cases e
    · exact q
  have cl : ∀ x, Conn c k x → x ∈ (grown c k).seen := fun x hx => by
    induction hx with
    | refl => exact h.start
    | tail _ s ih =>
      obtain ⟨_, hn, p, hp, hs⟩ := s
      exact (sh _ ih _ hp hs).1 hn
  refine ⟨e, h.nodup, fun x => ⟨h.conn x, cl x⟩, fun o => ?_, fun ⟨x, hx, y, hy, hs, hn⟩ => (sh x (cl x hx) y hy hs).2 hn⟩
  obtain ⟨x, hx, o⟩ := h.out o
  exact ⟨x, h.conn x hx, o⟩

/-! ### all eyes -/
structure ES where
  found : List (List Sq)
  place : Sq → Option Nat
  done : Sq → Bool
def eItem (c : Ch) (s : ES) (k : Sq) : ES :=
  if s.done k = true then s
  else if (grown c k).out = true then { s with done := fun x => s.done x || decide (x ∈ (grown c k).seen) }
  else { found := s.found ++ [(grown c k).seen], place := fun x => if x ∈ (grown c k).seen then some s.found.length else s.place x, done := fun x => s.done x || decide (x ∈ (grown c k).seen) }
def eyesOf (c : Ch) : ES := c.corners.foldl (eItem c) ⟨[], fun _ => none, fun _ => false⟩
/-- a corner from which nothing leads outside -/
def Shut (c : Ch) (k : Sq) : Prop := k ∈ c.corners ∧ ∀ x, Conn c k x → ¬ Opens c x
structure EInv (c : Ch) (pre : List Sq) (s : ES) : Prop where
  done : ∀ x, s.done x = true ↔ ∃ k, k ∈ pre ∧ Conn c k x
  eye : ∀ e, e ∈ s.found → e.Nodup ∧ ∃ k, k ∈ pre ∧ Shut c k ∧ ∀ x, x ∈ e ↔ Conn c k x
  have_ : ∀ k, k ∈ pre → Shut c k → ∃ e, e ∈ s.found ∧ k ∈ e
  place : ∀ x i, s.place x = some i ↔ ∃ e, s.found[i]? = some e ∧ x ∈ e
theorem EInv.step {c : Ch} {pre : List Sq} {s : ES} {k : Sq} (h : EInv c pre s) (hk : k ∈ c.corners) : EInv c (pre ++ [k]) (eItem c s k) := by
  obtain ⟨_, gn, gs, go⟩ := grown_spec hk
  unfold eItem
  split
  · rename_i hd
    obtain ⟨k0, h0, c0⟩ := (h.done k).mp hd
    refine ⟨fun x => ⟨fun hx => ?_, fun ⟨j, hj, cj⟩ => ?_⟩, fun e he => ?_, fun j hj sj => ?_, h.place⟩
    · obtain ⟨j, hj, cj⟩ := (h.done x).mp hx
      exact ⟨j, List.mem_append_left _ hj, cj⟩
    · rcases List.mem_append.mp hj with hj | hj
      · exact (h.done x).mpr ⟨j, hj, cj⟩
      · rw [List.mem_singleton.mp hj] at cj
        exact (h.done x).mpr ⟨k0, h0, c0.trans cj⟩
    · obtain ⟨a, j, hj, b⟩ := h.eye e he
      exact ⟨a, j, List.mem_append_left _ hj, b⟩
    · rcases List.mem_append.mp hj with hj | hj
      · exact h.have_ j hj sj
      · rw [List.mem_singleton.mp hj] at sj ⊢
        have s0 : Shut c k0 := ⟨c0.symm.mem hk, fun x hx => sj.2 x (c0.symm.trans hx)⟩
        obtain ⟨e, he, hke⟩ := h.have_ k0 h0 s0
        obtain ⟨_, j, hj, _, hm⟩ := h.eye e he
        exact ⟨e, he, (hm k).mpr (((hm k0).mp hke).trans c0)⟩
  · rename_i hd
    have dn : ∀ x, (s.done x || decide (x ∈ (grown c k).seen)) = true ↔ ∃ j, j ∈ pre ++ [k] ∧ Conn c j x := fun x => by
      rw [Bool.or_eq_true, decide_eq_true_eq, h.done, gs]
      constructor
      · rintro (⟨j, hj, cj⟩ | hx)
        · exact ⟨j, List.mem_append_left _ hj, cj⟩
        · exact ⟨k, List.mem_append_right _ (List.mem_singleton.mpr rfl), hx⟩
      · rintro ⟨j, hj, cj⟩
        rcases List.mem_append.mp hj with hj | hj
        · exact .inl ⟨j, hj, cj⟩
        · rw [List.mem_singleton.mp hj] at cj; exact .inr cj
    split
    · rename_i ho
      obtain ⟨x, hx, ox⟩ := go.mp ho
      refine ⟨dn, fun e he => ?_, fun j hj sj => ?_, h.place⟩
      · obtain ⟨a, j, hj, b⟩ := h.eye e he
        exact ⟨a, j, List.mem_append_left _ hj, b⟩
      · rcases List.mem_append.mp hj with hj | hj
        · exact h.have_ j hj sj
        · rw [List.mem_singleton.mp hj] at sj
          exact absurd ox (sj.2 x hx)
    · rename_i ho
      have sk : Shut c k := ⟨hk, fun x hx ox => ho (go.mpr ⟨x, hx, ox⟩)⟩
      refine ⟨dn, fun e he => ?_, fun j hj sj => ?_, fun x i => ?_⟩
      · rcases List.mem_append.mp he with he | he
        · obtain ⟨a, j, hj, b⟩ := h.eye e he
          exact ⟨a, j, List.mem_append_left _ hj, b⟩
        · rw [List.mem_singleton.mp he]
          exact ⟨gn, k, List.mem_append_right _ (List.mem_singleton.mpr rfl), sk, gs⟩
      · rcases List.mem_append.mp hj with hj | hj
        · obtain ⟨e, he, m⟩ := h.have_ j hj sj
          exact ⟨e, List.mem_append_left _ he, m⟩
        · rw [List.mem_singleton.mp hj]
          exact ⟨_, List.mem_append_right _ (List.mem_singleton.mpr rfl), (gs k).mpr (.refl _)⟩
      · -- none of the new eye's corners lies in an elder one
        have apart : ∀ (i : Nat) e, s.found[i]? = some e → ∀ x, x ∈ e → x ∉ (grown c k).seen := fun i e he x hx hg => by
          obtain ⟨_, j, hj, _, hm⟩ := h.eye e (List.mem_of_getElem? he)
          exact hd ((h.done k).mpr ⟨j, hj, ((hm x).mp hx).trans ((gs x).mp hg).symm⟩)
        by_cases hx : x ∈ (grown c k).seen
        · simp only [if_pos hx, Option.some.injEq]
          constructor
          · rintro rfl
            exact ⟨_, List.getElem?_concat_length, hx⟩
          · rintro ⟨e, he, hxe⟩
            rw [List.getElem?_append] at he
            split at he
            · exact absurd hx (apart i e he x hxe)
            · rename_i hi
              have : i - s.found.length = 0 := by
                by_cases z : i - s.found.length = 0
                · exact z
                · rw [List.getElem?_eq_none (by simp; omega)] at he; cases he
              omega
        · simp only [if_neg hx, h.place]
          constructor
          · rintro ⟨e, he, hxe⟩
            refine ⟨e, ?_, hxe⟩
            rw [List.getElem?_append_left (List.getElem?_eq_some_iff.mp he).1]
            exact he
          · rintro ⟨e, he, hxe⟩
            rw [List.getElem?_append] at he
            split at he
            · exact ⟨e, he, hxe⟩
            · have := List.mem_of_getElem? he
              rw [List.mem_singleton.mp this] at hxe
              exact absurd hxe hx
theorem EInv.steps {c : Ch} : ∀ {post pre : List Sq} {s : ES}, EInv c pre s → (∀ k, k ∈ post → k ∈ c.corners) → EInv c (pre ++ post) (post.foldl (eItem c) s)
  | [], pre, s, h, _ => by rw [List.append_nil]; exact h
  | k :: post, pre, s, h, hm => by
    have := EInv.steps (post := post) (h.step (hm k List.mem_cons_self)) fun j hj => hm j (List.mem_cons_of_mem _ hj)
    rw [List.append_assoc] at this
    exact this
theorem EInv.first (c : Ch) : EInv c [] ⟨[], fun _ => none, fun _ => false⟩ :=
  ⟨fun x => ⟨fun h => (nomatch h), fun ⟨_, h, _⟩ => (nomatch h)⟩, fun e he => (nomatch he), fun k hk => (nomatch hk), fun x i => ⟨fun h => (nomatch h), fun ⟨e, he, _⟩ => by simp at he⟩⟩
theorem eyesOf_inv (c : Ch) : EInv c c.corners (eyesOf c) := by
  have := EInv.steps (post := c.corners) (EInv.first c) fun _ h => h
  rwa [List.nil_append] at this
/-- the eyes, as they are -/
structure EyesOk (c : Ch) (E : List (List Sq)) (pl : Sq → Option Nat) : Prop where
  nodup : ∀ e, e ∈ E → e.Nodup
  mem : ∀ e, e ∈ E → ∀ k, k ∈ e → Shut c k ∧ ∀ x, x ∈ e ↔ Conn c k x
  ne : ∀ e, e ∈ E → e ≠ []
  have_ : ∀ k, Shut c k → ∃ e, e ∈ E ∧ k ∈ e
  place : ∀ x i, pl x = some i ↔ ∃ e, E[i]? = some e ∧ x ∈ e
theorem eyesOf_ok (c : Ch) : EyesOk c (eyesOf c).found (eyesOf c).place := by
  have h := eyesOf_inv c
  refine ⟨fun e he => (h.eye e he).1, fun e he k hk => ?_, fun e he z => ?_, fun k hk => h.have_ k hk.1 hk, h.place⟩
  · obtain ⟨_, j, hj, sj, hm⟩ := h.eye e he
    have cj := (hm k).mp hk
    exact ⟨⟨cj.mem hj, fun x hx => sj.2 x (cj.trans hx)⟩, fun x => ⟨fun hx => cj.symm.trans ((hm x).mp hx), fun hx => (hm x).mpr (cj.trans hx)⟩⟩
  · obtain ⟨_, j, hj, sj, hm⟩ := h.eye e he
    have : j ∈ e := (hm j).mpr (.refl _)
    rw [z] at this; cases this
/-- no corner lies in two eyes -/
theorem EyesOk.one {c : Ch} {E : List (List Sq)} {pl : Sq → Option Nat} (h : EyesOk c E pl) {i j : Nat} {e e' : List Sq} (hi : E[i]? = some e) (hj : E[j]? = some e') {x : Sq} (hx : x ∈ e) (hx' : x ∈ e') : i = j := by
  have h1 := (h.place x i).mpr ⟨e, hi, hx⟩
  have h2 := (h.place x j).mpr ⟨e', hj, hx'⟩
  rw [h1] at h2
  exact Option.some.inj h2
end Co

set_option maxRecDepth 100000
/-! Part C: counts of eyes are whole; the greatest worth of levels; likeness of charts. -/
namespace Co
open Ch

/-! ### the whirl as a sum of four -/
def gain (c : Ch) (p : Sq × Sq) : Int := if c.side p = true then c.sStep p else 0
theorem whirl_eq (c : Ch) (k : Sq) : c.whirl k = ((across k).map fun x => gain c x.1).sum := by
  have h : ∀ (l : List ((Sq × Sq) × Sq)) (a : Int), l.foldl c.whItem a = a + (l.map fun x => gain c x.1).sum := by
    intro l
    induction l with
    | nil => intro a; simp
    | cons x r ih =>
      intro a
      rw [List.foldl_cons, ih, List.map_cons, List.sum_cons]
      unfold whItem gain
      split <;> omega
  unfold whirl
  rw [h, Int.zero_add]

/-! ### an eye's whirls together are whole tides -/
def hv (c : Ch) (s : Sq) : Int := if c.told s = true then c.val s else 0
def slip (c : Ch) (p : Sq × Sq) : Int := if c.side p = true then 0 else hv c p.2 - hv c p.1
theorem slip_swap (c : Ch) (a b : Sq) : slip c (b, a) = - slip c (a, b) := by
  unfold slip
  rw [side_swap c b a]
  split
  · rfl
  · show hv c a - hv c b = -(hv c b - hv c a)
    omega
theorem gain_dvd (c : Ch) (p : Sq × Sq) : c.clock ∣ (hv c p.2 - hv c p.1) - slip c p - gain c p := by
  unfold slip gain
  split
  · rename_i h
    unfold side at h
    rw [Bool.and_eq_true] at h
    rw [hv, hv, if_pos h.1, if_pos h.2, Int.sub_zero]
    exact stepOf_dvd
  · exact ⟨0, by omega⟩
/-- slips across two opposite ways cancel -/
theorem pair_off {c : Ch} {E : List (List Sq)} {pl : Sq → Option Nat} (h : EyesOk c E pl) {e : List Sq} (he : e ∈ E) (pa pb : Sq → Sq × Sq) (na nb : Sq → Sq)
    (ha : ∀ k, (pa k, na k) ∈ across k) (hb : ∀ k, (pb k, nb k) ∈ across k) (hba : ∀ k, nb (na k) = k) (hab : ∀ k, na (nb k) = k) (hs : ∀ k, pb (na k) = ((pa k).2, (pa k).1)) :
    (e.map fun k => slip c (pa k)).sum + (e.map fun k => slip c (pb k)).sum = 0 := by
  have side_eq : ∀ k, c.side (pb (na k)) = c.side (pa k) := fun k => by rw [hs]; exact side_swap c _ _
  have go : ∀ (p : Sq → Sq × Sq) (n : Sq → Sq), (∀ k, (p k, n k) ∈ across k) → ∀ k, k ∈ e → c.side (p k) = false → n k ∈ e := fun p n hp k hk hside => by
    obtain ⟨sk, hm⟩ := h.mem e he k hk
    have hn : n k ∈ c.corners := Decidable.not_not.mp fun hn => sk.2 k (.refl k) ⟨_, hp k, hside, hn⟩
    exact (hm _).mpr (.tail (.refl k) ⟨sk.1, hn, p k, hp k, hside⟩)
  have fil : ∀ (p : Sq → Sq × Sq), (e.map fun k => slip c (p k)).sum = ((e.filter fun k => !c.side (p k)).map fun k => slip c (p k)).sum := fun p => by
    rw [sum_map_filter]
    congr 1
    refine List.map_congr_left fun k _ => ?_
    unfold slip
    cases c.side (p k) <;> simp
  have pm : ((e.filter fun k => !c.side (pa k)).map na).Perm (e.filter fun k => !c.side (pb k)) := by
    refine perm_of_mem (nodup_map_inj (nodup_filter (h.nodup e he)) fun a _ b _ eq => ?_) (nodup_filter (h.nodup e he)) fun k => ?_
    · rw [← hba a, ← hba b, eq]
    · rw [List.mem_map, List.mem_filter]
      constructor
      · rintro ⟨j, hj, rfl⟩
        rw [List.mem_filter] at hj
        have hj2 : c.side (pa j) = false := by simpa using hj.2
        exact ⟨go pa na ha j hj.1 hj2, by rw [side_eq, hj2]; rfl⟩
      · rintro ⟨hk, hk2⟩
        have hk2 : c.side (pb k) = false := by simpa using hk2
        have hj := go pb nb hb k hk hk2
        refine ⟨nb k, List.mem_filter.mpr ⟨hj, ?_⟩, hab k⟩
        have := side_eq (nb k)
        rw [hab, hk2] at this
        rw [← this]; rfl
  rw [fil pa, fil pb, ← sum_perm (pm.map fun k => slip c (pb k)), List.map_map, ← sum_map_add]
  refine sum_map_zero fun k _ => ?_
  simp only [Function.comp]
  rw [hs, slip_swap c (pa k).1 (pa k).2]
  show slip c (pa k) + - slip c (pa k) = 0
  omega
theorem eye_dvd {c : Ch} {E : List (List Sq)} {pl : Sq → Option Nat} (h : EyesOk c E pl) {e : List Sq} (he : e ∈ E) : c.clock ∣ (e.map c.whirl).sum := by
  have h1 := pair_off h he (fun k => ((k.1 + 1, k.2 + 1), (k.1 + 1, k.2))) (fun k => ((k.1, k.2), (k.1, k.2 + 1))) (fun k => (k.1 + 1, k.2)) (fun k => (k.1 - 1, k.2))
    (fun k => by simp [across]) (fun k => by simp [across]) (fun k => by ext <;> simp only [] <;> omega) (fun k => by ext <;> simp only [] <;> omega) (fun k => rfl)
  have h2 := pair_off h he (fun k => ((k.1, k.2 + 1), (k.1 + 1, k.2 + 1))) (fun k => ((k.1 + 1, k.2), (k.1, k.2))) (fun k => (k.1, k.2 + 1)) (fun k => (k.1, k.2 - 1))
    (fun k => by simp [across]) (fun k => by simp [across]) (fun k => by ext <;> simp only [] <;> omega) (fun k => by ext <;> simp only [] <;> omega) (fun k => rfl)
  have h3 : c.clock ∣ (e.map fun k => (c.whirl k + ((slip c ((k.1 + 1, k.2 + 1), (k.1 + 1, k.2)) + slip c ((k.1, k.2), (k.1, k.2 + 1))) + (slip c ((k.1, k.2 + 1), (k.1 + 1, k.2 + 1)) + slip c ((k.1 + 1, k.2), (k.1, k.2)))))).sum := by
    refine sum_dvd fun k _ => ?_
    have e1 := gain_dvd c ((k.1, k.2), (k.1, k.2 + 1))
    have e2 := gain_dvd c ((k.1, k.2 + 1), (k.1 + 1, k.2 + 1))
    have e3 := gain_dvd c ((k.1 + 1, k.2 + 1), (k.1 + 1, k.2))
    have e4 := gain_dvd c ((k.1 + 1, k.2), (k.1, k.2))
    have e5 := Int.dvd_add (Int.dvd_add e1 e2) (Int.dvd_add e3 e4)
    have e6 := (Int.dvd_neg).mpr e5
    refine Int.dvd_trans e6 ⟨1, ?_⟩
    rw [whirl_eq]
    simp only [across, List.map_cons, List.map_nil, List.sum_cons, List.sum_nil]
    omega
  rw [sum_map_add, sum_map_add, sum_map_add, sum_map_add] at h3
  have e : (e.map c.whirl).sum = (e.map fun k => c.whirl k).sum := rfl
  rw [e]
  rw [h1, h2] at h3
  simpa using h3
theorem count_mul {c : Ch} {E : List (List Sq)} {pl : Sq → Option Nat} (h : EyesOk c E pl) {e : List Sq} (he : e ∈ E) : c.countOf e * c.clock = (e.map c.whirl).sum :=
  Int.ediv_mul_cancel (eye_dvd h he)

/-! ### levels on corners, and the greatest worth -/
structure Adm (c : Ch) (P : Sq → Int) : Prop where
  out : ∀ k, k ∉ c.corners → P k = 0
  side : ∀ k, k ∈ c.corners → ∀ x, x ∈ across k → c.side x.1 = true → P k - P x.2 ≤ 1 ∧ P x.2 - P k ≤ 1
  land : ∀ k, k ∈ c.corners → ∀ x, x ∈ across k → c.side x.1 = false → P k = P x.2
def tot (c : Ch) (P : Sq → Int) : Int := (c.corners.map fun k => c.whirl k * P k).sum
structure IsLW (c : Ch) (w : Int) : Prop where
  ex : ∃ P, Adm c P ∧ tot c P = c.clock * w
  le : ∀ P, Adm c P → tot c P ≤ c.clock * w
theorem IsLW.unique {c : Ch} (hc : 0 < c.clock) {w w' : Int} (h : IsLW c w) (h' : IsLW c w') : w = w' := by
  obtain ⟨P, a, e⟩ := h.ex
  obtain ⟨P', a', e'⟩ := h'.ex
  have h1 := h'.le P a
  have h2 := h.le P' a'
  rw [e] at h1
  rw [e'] at h2
  exact Int.le_antisymm (Int.le_of_mul_le_mul_left h1 hc) (Int.le_of_mul_le_mul_left h2 hc)
theorem Adm.conn {c : Ch} {P : Sq → Int} (h : Adm c P) {k x : Sq} (g : Conn c k x) : P k = P x := by
  induction g with
  | refl => rfl
  | tail _ s ih =>
    obtain ⟨hm, hn, p, hp, hs⟩ := s
    exact ih.trans (h.land _ hm _ hp hs)

/-! ### from eyes to corners -/
def faceOf (pl : Sq → Option Nat) (n : Nat) (k : Sq) : Nat := (pl k).getD n
section
variable {c : Ch} {E : List (List Sq)} {pl : Sq → Option Nat}
theorem EyesOk.pl_mem (h : EyesOk c E pl) {k : Sq} {i : Nat} (e : pl k = some i) : Shut c k ∧ i < E.length := by
  obtain ⟨ee, hi, hk⟩ := (h.place k i).mp e
  exact ⟨(h.mem ee (List.mem_of_getElem? hi) k hk).1, (List.getElem?_eq_some_iff.mp hi).1⟩
theorem EyesOk.pl_none (h : EyesOk c E pl) {k : Sq} (e : pl k = none) : ¬ Shut c k := fun s => by
  obtain ⟨ee, he, hk⟩ := h.have_ k s
  obtain ⟨i, hi, e2⟩ := List.getElem_of_mem he
  have := (h.place k i).mpr ⟨ee, by rw [List.getElem?_eq_getElem hi, e2], hk⟩
  rw [e] at this; cases this
theorem EyesOk.pl_conn (h : EyesOk c E pl) {k x : Sq} (g : Conn c k x) : pl k = pl x := by
  have go : ∀ {k x : Sq}, Conn c k x → ∀ i, pl k = some i → pl x = some i := fun {k x} g i e => by
    obtain ⟨ee, hi, hk⟩ := (h.place k i).mp e
    exact (h.place x i).mpr ⟨ee, hi, ((h.mem ee (List.mem_of_getElem? hi) k hk).2 x).mpr g⟩
  cases e : pl k with
  | some i => exact (go g i e).symm
  | none =>
    cases e' : pl x with
    | none => rfl
    | some i => have := go g.symm i e'; rw [e] at this; cases this
theorem EyesOk.land (h : EyesOk c E pl) {k : Sq} (hk : k ∈ c.corners) {x : (Sq × Sq) × Sq} (hx : x ∈ across k) (hs : c.side x.1 = false) : pl k = pl x.2 := by
  by_cases hn : x.2 ∈ c.corners
  · exact h.pl_conn (.tail (.refl k) ⟨hk, hn, x.1, hx, hs⟩)
  · cases e : pl k with
    | some i => exact absurd ⟨x, hx, hs, hn⟩ ((h.pl_mem e).1.2 k (.refl k))
    | none =>
      cases e' : pl x.2 with
      | none => rfl
      | some i => exact absurd (h.pl_mem e').1.1 hn
theorem Adm.zero {P : Sq → Int} (a : Adm c P) {k : Sq} (hk : ¬ Shut c k) : P k = 0 := by
  by_cases hm : k ∈ c.corners
  · have : ∃ x, Conn c k x ∧ Opens c x := Classical.byContradiction fun hn => hk ⟨hm, fun x hx ho => hn ⟨x, hx, ho⟩⟩
    obtain ⟨x, hx, y, hy, hs, hn⟩ := this
    rw [a.conn hx, a.land x (hx.mem hm) y hy hs, a.out _ hn]
  · exact a.out k hm
theorem EyesOk.nodupE (h : EyesOk c E pl) : E.Nodup := by
  rw [List.Nodup, List.pairwise_iff_getElem]
  intro i j hi hj hij e
  obtain ⟨x, hx⟩ := List.exists_mem_of_ne_nil _ (h.ne _ (List.getElem_mem hi))
  exact absurd (h.one (List.getElem?_eq_getElem hi) (List.getElem?_eq_getElem hj) hx (e ▸ hx)) (by omega)
theorem EyesOk.flat (h : EyesOk c E pl) : E.flatten.Nodup := by
  rw [List.Nodup, List.pairwise_flatten]
  refine ⟨fun e he => h.nodup e he, ?_⟩
  rw [List.pairwise_iff_getElem]
  intro i j hi hj hij x hx y hy e
  subst e
  exact absurd (h.one (List.getElem?_eq_getElem hi) (List.getElem?_eq_getElem hj) hx hy) (by omega)
theorem EyesOk.mem_flat (h : EyesOk c E pl) {k : Sq} : k ∈ E.flatten ↔ Shut c k := by
  rw [List.mem_flatten]
  exact ⟨fun ⟨e, he, hk⟩ => (h.mem e he k hk).1, fun s => h.have_ k s⟩
/-- the worth of levels, eye by eye -/
theorem tot_eyes (h : EyesOk c E pl) {P : Sq → Int} (a : Adm c P) : tot c P = (E.map fun e => c.clock * (c.countOf e * P (e.headD (0, 0)))).sum := by
  have e1 : tot c P = ((c.corners.filter fun k => decide (k ∈ E.flatten)).map fun k => c.whirl k * P k).sum := by
    rw [sum_map_filter, tot]
    congr 1
    refine List.map_congr_left fun k _ => ?_
    by_cases hk : k ∈ E.flatten
    · rw [if_pos (decide_eq_true hk)]
    · rw [if_neg (by simpa using hk), a.zero (fun s => hk (h.mem_flat.mpr s)), Int.mul_zero]
  have pm : (c.corners.filter fun k => decide (k ∈ E.flatten)).Perm E.flatten := by
    refine perm_of_mem (nodup_filter c.corners_nodup) h.flat fun k => ?_
    rw [List.mem_filter, decide_eq_true_eq]
    exact ⟨fun z => z.2, fun z => ⟨(h.mem_flat.mp z).1, z⟩⟩
  rw [e1, sum_perm (pm.map _), sum_flatten]
  congr 1
  refine List.map_congr_left fun e he => ?_
  have hd : ∀ k, k ∈ e → P k = P (e.headD (0, 0)) := fun k hk => by
    cases e with
    | nil => cases hk
    | cons x r => exact a.conn (((h.mem _ he k hk).2 x).mp List.mem_cons_self)
  have e2 : (e.map fun k => c.whirl k * P k) = e.map fun k => c.whirl k * P (e.headD (0, 0)) := List.map_congr_left fun k hk => by rw [hd k hk]
  rw [e2, sum_map_mul_right, ← count_mul h he]
  rw [Int.mul_comm (c.countOf e) c.clock, Int.mul_assoc]
end

/-! ### doors: what the web of eyes keeps of the chart -/
structure DoorsOk (c : Ch) (pl : Sq → Option Nat) (n : Nat) (D : List (Nat × Nat)) : Prop where
  from_ : ∀ d, d ∈ D → ∃ k, k ∈ c.corners ∧ ∃ x, x ∈ across k ∧ c.side x.1 = true ∧ ((d.1 = faceOf pl n k ∧ d.2 = faceOf pl n x.2) ∨ (d.1 = faceOf pl n x.2 ∧ d.2 = faceOf pl n k))
  all : ∀ k, k ∈ c.corners → ∀ x, x ∈ across k → c.side x.1 = true → faceOf pl n k = faceOf pl n x.2 ∨ (faceOf pl n k, faceOf pl n x.2) ∈ D ∨ (faceOf pl n x.2, faceOf pl n k) ∈ D
/-- levels of eyes that doors part by one at most, the outside at nought -/
structure Lip (n : Nat) (D : List (Nat × Nat)) (q : Nat → Int) : Prop where
  out : q n = 0
  door : ∀ d, d ∈ D → q d.1 - q d.2 ≤ 1 ∧ q d.2 - q d.1 ≤ 1
def worthOf (counts : List Int) (q : Nat → Int) : Int := ((List.range counts.length).map fun i => counts.getD i 0 * q i).sum
structure Dual (counts : List Int) (D : List (Nat × Nat)) (w : Int) : Prop where
  ex : ∃ q, Lip counts.length D q ∧ worthOf counts q = w
  le : ∀ q, Lip counts.length D q → worthOf counts q ≤ w
section
variable {c : Ch} {E : List (List Sq)} {pl : Sq → Option Nat} {D : List (Nat × Nat)}
theorem map_getD_range {α β : Type} (f : α → Nat → β) (d : α) (l : List α) : (List.range l.length).map (fun i => f (l.getD i d) i) = l.zipIdx.map fun p => f p.1 p.2 := by
  apply List.ext_getElem
  · simp
  · intro i h1 h2
    simp at h1
    simp [h1]
theorem worth_map (h : EyesOk c E pl) (q : Nat → Int) {P : Sq → Int} (hP : ∀ i e, E[i]? = some e → P (e.headD (0, 0)) = q i) : c.clock * worthOf (E.map c.countOf) q = (E.map fun e => c.clock * (c.countOf e * P (e.headD (0, 0)))).sum := by
  unfold worthOf
  rw [← sum_map_mul]
  congr 1
  apply List.ext_getElem
  · simp
  · intro i h1 h2
    simp at h1
    have e1 := hP i (E[i]) (List.getElem?_eq_getElem h1)
    simp only [List.getElem_map, List.getElem_range]
    rw [e1]
    simp [List.getD, h1]
theorem face_head (h : EyesOk c E pl) {i : Nat} {e : List Sq} (he : E[i]? = some e) : pl (e.headD (0, 0)) = some i := by
  refine (h.place _ i).mpr ⟨e, he, ?_⟩
  have := h.ne e (List.mem_of_getElem? he)
  cases e with
  | nil => exact absurd rfl this
  | cons x r => exact List.mem_cons_self
theorem adm_of_lip (h : EyesOk c E pl) (hd : DoorsOk c pl E.length D) {q : Nat → Int} (l : Lip E.length D q) : Adm c fun k => q (faceOf pl E.length k) := by
  refine ⟨fun k hk => ?_, fun k hk x hx hs => ?_, fun k hk x hx hs => ?_⟩
  · have : pl k = none := by
      cases e : pl k with
      | none => rfl
      | some i => exact absurd (h.pl_mem e).1.1 hk
    simp only [faceOf, this, Option.getD_none]
    exact l.out
  · rcases hd.all k hk x hx hs with e | m | m
    · show q (faceOf pl E.length k) - q (faceOf pl E.length x.2) ≤ 1 ∧ q (faceOf pl E.length x.2) - q (faceOf pl E.length k) ≤ 1
      rw [e]; omega
    · exact l.door _ m
    · exact (l.door _ m).symm
  · simp only [faceOf, h.land hk hx hs]
theorem lip_of_adm (h : EyesOk c E pl) (hd : DoorsOk c pl E.length D) {P : Sq → Int} (a : Adm c P) :
    ∃ q, Lip E.length D q ∧ ∀ i e, E[i]? = some e → P (e.headD (0, 0)) = q i := by
  let q : Nat → Int := fun i => match E[i]? with
    | some e => P (e.headD (0, 0))
    | none => 0
  have qf : ∀ k, q (faceOf pl E.length k) = P k := fun k => by
    cases e : pl k with
    | none =>
      have : E[E.length]? = none := List.getElem?_eq_none (Nat.le_refl _)
      simp only [q, faceOf, e, Option.getD_none, this]
      exact (a.zero (h.pl_none e)).symm
    | some i =>
      obtain ⟨ee, hi, hk⟩ := (h.place k i).mp e
      simp only [q, faceOf, e, Option.getD_some, hi]
      have hh := face_head h hi
      obtain ⟨e2, hi2, hk2⟩ := (h.place _ i).mp hh
      rw [hi] at hi2; cases hi2
      exact a.conn (((h.mem ee (List.mem_of_getElem? hi) _ hk2).2 k).mp hk)
  refine ⟨q, ⟨?_, fun d hdm => ?_⟩, fun i e he => ?_⟩
  · have : E[E.length]? = none := List.getElem?_eq_none (Nat.le_refl _)
    simp only [q, this]
  · obtain ⟨k, hk, x, hx, hs, z⟩ := hd.from_ d hdm
    have := a.side k hk x hx hs
    rcases z with ⟨e1, e2⟩ | ⟨e1, e2⟩
    · rw [e1, e2, qf, qf]; exact this
    · rw [e1, e2, qf, qf]; exact this.symm
  · simp only [q, he]
theorem lw_of_dual (h : EyesOk c E pl) (hd : DoorsOk c pl E.length D) (hc : 0 < c.clock) {w : Int} (g : Dual (E.map c.countOf) D w) : IsLW c w := by
  have hl : (E.map c.countOf).length = E.length := by simp
  constructor
  · obtain ⟨q, l, e⟩ := g.ex
    rw [hl] at l
    have a := adm_of_lip h hd l
    refine ⟨_, a, ?_⟩
    rw [tot_eyes h a, ← worth_map h q (P := fun k => q (faceOf pl E.length k)) (fun i e he => ?_), e]
    simp only [faceOf, face_head h he, Option.getD_some]
  · intro P a
    obtain ⟨q, l, hP⟩ := lip_of_adm h hd a
    rw [tot_eyes h a, ← worth_map h q hP]
    exact Int.mul_le_mul_of_nonneg_left (g.le q (by rw [hl]; exact l)) (by omega)
end
end Co

set_option maxRecDepth 100000
/-! Part D: likeness of charts (turned, mirrored, later): what it keeps of eyes and of the least weight. -/
namespace Co
open Ch

structure Iso (c c' : Ch) (φ ψ : Sq → Sq) (ε : Int) : Prop where
  clock : c'.clock = c.clock
  inv : ∀ k, ψ (φ k) = k
  inv' : ∀ k, φ (ψ k) = k
  cor : ∀ k, φ k ∈ c'.corners ↔ k ∈ c.corners
  fwd : ∀ k x, x ∈ across k → ∃ x', x' ∈ across (φ k) ∧ c'.side x'.1 = c.side x.1 ∧ x'.2 = φ x.2
  bwd : ∀ k x', x' ∈ across (φ k) → ∃ x, x ∈ across k ∧ c'.side x'.1 = c.side x.1 ∧ x'.2 = φ x.2
  wh : ∀ k, c'.whirl (φ k) = ε * c.whirl k
  eps : ε = 1 ∨ ε = -1
section
variable {c c' : Ch} {φ ψ : Sq → Sq} {ε : Int}
theorem Iso.cor' (h : Iso c c' φ ψ ε) (k : Sq) : ψ k ∈ c.corners ↔ k ∈ c'.corners := by
  rw [← h.cor, h.inv']
theorem Iso.eps2 (h : Iso c c' φ ψ ε) : ε * ε = 1 := by rcases h.eps with e | e <;> rw [e] <;> rfl
theorem Iso.symm (h : Iso c c' φ ψ ε) : Iso c' c ψ φ ε := by
  refine ⟨h.clock.symm, h.inv', h.inv, h.cor', fun k x hx => ?_, fun k x hx => ?_, fun k => ?_, h.eps⟩
  · obtain ⟨y, hy, e1, e2⟩ := h.bwd (ψ k) x (by rw [h.inv']; exact hx)
    exact ⟨y, hy, e1.symm, by rw [e2, h.inv]⟩
  · obtain ⟨y, hy, e1, e2⟩ := h.fwd (ψ k) x hx
    rw [h.inv'] at hy
    exact ⟨y, hy, e1.symm, by rw [e2, h.inv]⟩
  · have := h.wh (ψ k)
    rw [h.inv'] at this
    rw [this, ← Int.mul_assoc, h.eps2, Int.one_mul]
theorem Iso.adj (h : Iso c c' φ ψ ε) {k x : Sq} (g : Adj c k x) : Adj c' (φ k) (φ x) := by
  obtain ⟨h1, h2, p, hp, hs⟩ := g
  obtain ⟨⟨p', n'⟩, hx, e1, e2⟩ := h.fwd k (p, x) hp
  simp only [] at e2
  subst e2
  exact ⟨(h.cor k).mpr h1, (h.cor x).mpr h2, p', hx, by rw [← hs]; exact e1⟩
theorem Iso.conn (h : Iso c c' φ ψ ε) {k x : Sq} (g : Conn c k x) : Conn c' (φ k) (φ x) := by
  induction g with
  | refl => exact .refl _
  | tail _ s ih => exact .tail ih (h.adj s)
theorem Iso.opens (h : Iso c c' φ ψ ε) {k : Sq} (g : Opens c k) : Opens c' (φ k) := by
  obtain ⟨x, hx, hs, hn⟩ := g
  obtain ⟨y, hy, e1, e2⟩ := h.fwd k x hx
  exact ⟨y, hy, by rw [e1, hs], by rw [e2, h.cor]; exact hn⟩
theorem Iso.shut (h : Iso c c' φ ψ ε) {k : Sq} (g : Shut c k) : Shut c' (φ k) := by
  refine ⟨(h.cor k).mpr g.1, fun x hx ho => ?_⟩
  have h1 := h.symm.conn hx
  rw [h.inv] at h1
  have h2 := h.symm.opens ho
  exact g.2 _ h1 h2
theorem Iso.perm (h : Iso c c' φ ψ ε) : (c.corners.map φ).Perm c'.corners := by
  refine perm_of_mem (nodup_map_inj c.corners_nodup fun a _ b _ e => ?_) c'.corners_nodup fun k => ?_
  · rw [← h.inv a, ← h.inv b, e]
  · rw [List.mem_map]
    constructor
    · rintro ⟨j, hj, rfl⟩; exact (h.cor j).mpr hj
    · intro hk; exact ⟨ψ k, (h.cor' k).mpr hk, h.inv' k⟩
/-- levels carried over -/
theorem Iso.adm (h : Iso c c' φ ψ ε) {P : Sq → Int} (a : Adm c P) : Adm c' (fun k => ε * P (ψ k)) ∧ tot c' (fun k => ε * P (ψ k)) = tot c P := by
  refine ⟨⟨fun k hk => ?_, fun k hk x hx hs => ?_, fun k hk x hx hs => ?_⟩, ?_⟩
  · show ε * P (ψ k) = 0
    rw [a.out _ (fun m => hk ((h.cor' k).mp m)), Int.mul_zero]
  · obtain ⟨y, hy, e1, e2⟩ := h.symm.fwd k x hx
    have := a.side (ψ k) ((h.cor' k).mpr hk) y hy (by rw [e1, hs])
    show ε * P (ψ k) - ε * P (ψ x.2) ≤ 1 ∧ ε * P (ψ x.2) - ε * P (ψ k) ≤ 1
    rw [← e2]
    rcases h.eps with e | e <;> rw [e] <;> omega
  · obtain ⟨y, hy, e1, e2⟩ := h.symm.fwd k x hx
    have := a.land (ψ k) ((h.cor' k).mpr hk) y hy (by rw [e1, hs])
    show ε * P (ψ k) = ε * P (ψ x.2)
    rw [← e2, this]
  · unfold tot
    rw [← sum_perm (h.perm.map _), List.map_map]
    congr 1
    refine List.map_congr_left fun k _ => ?_
    simp only [Function.comp]
    rw [h.wh, h.inv]
    rcases h.eps with e | e <;> rw [e]
    · rw [Int.one_mul, Int.one_mul]
    · rw [Int.neg_one_mul, Int.neg_one_mul, Int.neg_mul_neg]
theorem Iso.lw (h : Iso c c' φ ψ ε) {w : Int} (g : IsLW c w) : IsLW c' w := by
  constructor
  · obtain ⟨P, a, e⟩ := g.ex
    exact ⟨_, (h.adm a).1, by rw [(h.adm a).2, e, h.clock]⟩
  · intro P a
    obtain ⟨a', e⟩ := h.symm.adm a
    rw [← e, h.clock]
    exact g.le _ a'
/-- the counts of all eyes, however they are laid in order -/
theorem Iso.counts (h : Iso c c' φ ψ ε) {E E' : List (List Sq)} {pl pl' : Sq → Option Nat} (hE : EyesOk c E pl) (hE' : EyesOk c' E' pl') (hc : 0 < c.clock) :
    (E'.map c'.countOf).Perm (E.map fun e => ε * c.countOf e) := by
  have hd : ∀ e, e ∈ E → e.headD (0, 0) ∈ e := fun e he => by
    have := hE.ne e he
    cases e with
    | nil => exact absurd rfl this
    | cons x r => exact List.mem_cons_self
  have gx : ∀ e, ∃ e', e ∈ E → e' ∈ E' ∧ φ (e.headD (0, 0)) ∈ e' := fun e => by
    by_cases he : e ∈ E
    · obtain ⟨e', h1, h2⟩ := hE'.have_ _ (h.shut (hE.mem e he _ (hd e he)).1)
      exact ⟨e', fun _ => ⟨h1, h2⟩⟩
    · exact ⟨[], fun z => absurd z he⟩
  let g : List Sq → List Sq := fun e => Classical.choose (gx e)
  have hg : ∀ e, e ∈ E → g e ∈ E' ∧ φ (e.headD (0, 0)) ∈ g e := fun e => Classical.choose_spec (gx e)
  have gm : ∀ e, e ∈ E → ∀ k, k ∈ g e ↔ ψ k ∈ e := fun e he k => by
    obtain ⟨h1, h2⟩ := hg e he
    rw [(hE'.mem _ h1 _ h2).2 k, (hE.mem e he _ (hd e he)).2 (ψ k)]
    constructor
    · intro z
      have := h.symm.conn z
      rwa [h.inv] at this
    · intro z
      have := h.conn z
      rwa [h.inv'] at this
  have one : ∀ {E : List (List Sq)} {c : Ch} {pl : Sq → Option Nat}, EyesOk c E pl → ∀ e, e ∈ E → ∀ e', e' ∈ E → ∀ k, k ∈ e → k ∈ e' → e = e' := fun {E c pl} hE e he e' he' k hk hk' => by
    obtain ⟨i, hi, e1⟩ := List.getElem_of_mem he
    obtain ⟨j, hj, e2⟩ := List.getElem_of_mem he'
    have := hE.one (i := i) (j := j) (List.getElem?_eq_getElem hi) (List.getElem?_eq_getElem hj) (by rw [e1]; exact hk) (by rw [e2]; exact hk')
    subst this
    exact e1.symm.trans e2
  have pm : (E.map g).Perm E' := by
    refine perm_of_mem (nodup_map_inj hE.nodupE fun a ha b hb e => ?_) hE'.nodupE fun e' => ?_
    · refine one hE a ha b hb (a.headD (0, 0)) (hd a ha) ?_
      have := (hg a ha).2
      rw [e, gm b hb, h.inv] at this
      exact this
    · rw [List.mem_map]
      constructor
      · rintro ⟨e, he, rfl⟩; exact (hg e he).1
      · intro he'
        obtain ⟨k, hk⟩ := List.exists_mem_of_ne_nil _ (hE'.ne e' he')
        obtain ⟨e, he, hm⟩ := hE.have_ _ (h.symm.shut (hE'.mem e' he' k hk).1)
        exact ⟨e, he, one hE' _ (hg e he).1 e' he' k ((gm e he k).mpr hm) hk⟩
  refine (pm.map c'.countOf).symm.trans ?_
  rw [List.map_map]
  have : E.map (c'.countOf ∘ g) = E.map fun e => ε * c.countOf e := List.map_congr_left fun e he => by
    simp only [Function.comp]
    have pe : (e.map φ).Perm (g e) := by
      refine perm_of_mem (nodup_map_inj (hE.nodup e he) fun a _ b _ eab => ?_) (hE'.nodup _ (hg e he).1) fun k => ?_
      · rw [← h.inv a, ← h.inv b, eab]
      · rw [gm _ he, List.mem_map]
        constructor
        · rintro ⟨j, hj, rfl⟩; rw [h.inv]; exact hj
        · intro z; exact ⟨_, z, h.inv' k⟩
    have s : ((g e).map c'.whirl).sum = ε * (e.map c.whirl).sum := by
      rw [← sum_perm (pe.map _), List.map_map, ← sum_map_mul]
      congr 1
      exact List.map_congr_left fun k _ => h.wh k
    unfold countOf
    rw [s, h.clock]
    have dv := eye_dvd hE he
    rcases h.eps with ee | ee
    · rw [ee, Int.one_mul, Int.one_mul]
    · rw [ee]
      have e3 : (-1 : Int) * (e.map c.whirl).sum = -(e.map c.whirl).sum := by omega
      rw [e3, Int.neg_ediv_of_dvd dv]
      omega
  rw [this]
end

/-! ### the three ways -/
/-- squares carried over -/
structure SqIso (c c' : Ch) (σ : Sq → Sq) : Prop where
  told : ∀ s, c'.told (σ s) = c.told s
  sea : ∀ s, c'.sea (σ s) = c.sea s
  val : ∀ s, c.told s = true → c'.val (σ s) = c.val s
  clock : c'.clock = c.clock
theorem SqIso.side {c c' : Ch} {σ : Sq → Sq} (h : SqIso c c' σ) (a b : Sq) : c'.side (σ a, σ b) = c.side (a, b) := by
  unfold Ch.side; rw [h.told, h.told]
theorem SqIso.gain {c c' : Ch} {σ : Sq → Sq} (h : SqIso c c' σ) (a b : Sq) : gain c' (σ a, σ b) = gain c (a, b) := by
  unfold Co.gain
  rw [h.side]
  split
  · rename_i hs
    unfold Ch.side at hs
    rw [Bool.and_eq_true] at hs
    unfold sStep
    simp only []
    rw [h.val _ hs.1, h.val _ hs.2, h.clock]
  · rfl
theorem gain_swap {c : Ch} (g : c.Good) (a b : Sq) : gain c (b, a) = - gain c (a, b) := by
  unfold gain
  rw [side_swap c b a]
  split
  · exact stepOf_anti g.lo g.odd
  · rfl
theorem turn_iso {c c' : Ch} (g : c.Good) (hh : c'.high = c.wide) (hw : c'.wide = c.high) (s : SqIso c c' fun k => (k.2, c.high - 1 - k.1)) :
    Iso c c' (fun k => (k.2, c.high - 2 - k.1)) (fun k => (c.high - 2 - k.2, k.1)) 1 := by
  have e1 : ∀ k : Sq, ((k.2, (c.high : Int) - 2 - k.1) : Sq) = (fun k : Sq => ((k.2, (c.high : Int) - 1 - k.1) : Sq)) (k.1 + 1, k.2) := fun k => by ext <;> simp only [] <;> omega
  have e2 : ∀ k : Sq, ((k.2, (c.high : Int) - 2 - k.1 + 1) : Sq) = (fun k : Sq => ((k.2, (c.high : Int) - 1 - k.1) : Sq)) (k.1, k.2) := fun k => by ext <;> simp only [] <;> omega
  have e3 : ∀ k : Sq, ((k.2 + 1, (c.high : Int) - 2 - k.1 + 1) : Sq) = (fun k : Sq => ((k.2, (c.high : Int) - 1 - k.1) : Sq)) (k.1, k.2 + 1) := fun k => by ext <;> simp only [] <;> omega
  have e4 : ∀ k : Sq, ((k.2 + 1, (c.high : Int) - 2 - k.1) : Sq) = (fun k : Sq => ((k.2, (c.high : Int) - 1 - k.1) : Sq)) (k.1 + 1, k.2 + 1) := fun k => by ext <;> simp only [] <;> omega
  refine ⟨s.clock, fun k => by ext <;> simp only [] <;> omega, fun k => by ext <;> simp only [] <;> omega, fun k => ?_, fun k x hx => ?_, fun k x hx => ?_, fun k => ?_, .inl rfl⟩
  · rw [mem_corners, mem_corners, hh, hw]
    simp only []
    omega
  · simp only [across, List.mem_cons, List.not_mem_nil, or_false] at hx ⊢
    rcases hx with rfl | rfl | rfl | rfl
    · refine ⟨_, .inr (.inl rfl), ?_, ?_⟩
      · simp only [e2, e3]; exact s.side (k.1, k.2) (k.1, k.2 + 1)
      · ext <;> simp only [] <;> omega
    · refine ⟨_, .inr (.inr (.inl rfl)), ?_, ?_⟩
      · simp only [e3, e4]; exact s.side (k.1, k.2 + 1) (k.1 + 1, k.2 + 1)
      · ext <;> simp only [] <;> omega
    · refine ⟨_, .inr (.inr (.inr rfl)), ?_, ?_⟩
      · simp only [e4, e1]; exact s.side (k.1 + 1, k.2 + 1) (k.1 + 1, k.2)
      · ext <;> simp only [] <;> omega
    · refine ⟨_, .inl rfl, ?_, ?_⟩
      · simp only [e1, e2]; exact s.side (k.1 + 1, k.2) (k.1, k.2)
      · ext <;> simp only [] <;> omega
  · simp only [across, List.mem_cons, List.not_mem_nil, or_false] at hx ⊢
    rcases hx with rfl | rfl | rfl | rfl
    · refine ⟨_, .inr (.inr (.inr rfl)), ?_, ?_⟩
      · simp only [e1, e2]; exact s.side (k.1 + 1, k.2) (k.1, k.2)
      · ext <;> simp only [] <;> omega
    · refine ⟨_, .inl rfl, ?_, ?_⟩
      · simp only [e2, e3]; exact s.side (k.1, k.2) (k.1, k.2 + 1)
      · ext <;> simp only [] <;> omega
    · refine ⟨_, .inr (.inl rfl), ?_, ?_⟩
      · simp only [e3, e4]; exact s.side (k.1, k.2 + 1) (k.1 + 1, k.2 + 1)
      · ext <;> simp only [] <;> omega
    · refine ⟨_, .inr (.inr (.inl rfl)), ?_, ?_⟩
      · simp only [e4, e1]; exact s.side (k.1 + 1, k.2 + 1) (k.1 + 1, k.2)
      · ext <;> simp only [] <;> omega
  · rw [whirl_eq, whirl_eq]
    simp only [across, List.map_cons, List.map_nil, List.sum_cons, List.sum_nil]
    simp only [e1, e2, e3, e4]
    rw [s.gain (k.1 + 1, k.2) (k.1, k.2), s.gain (k.1, k.2) (k.1, k.2 + 1), s.gain (k.1, k.2 + 1) (k.1 + 1, k.2 + 1), s.gain (k.1 + 1, k.2 + 1) (k.1 + 1, k.2)]
    omega
theorem mirror_iso {c c' : Ch} (g : c.Good) (hh : c'.high = c.high) (hw : c'.wide = c.wide) (s : SqIso c c' fun k => (k.1, c.wide - 1 - k.2)) :
    Iso c c' (fun k => (k.1, c.wide - 2 - k.2)) (fun k => (k.1, c.wide - 2 - k.2)) (-1) := by
  have e1 : ∀ k : Sq, ((k.1, (c.wide : Int) - 2 - k.2) : Sq) = (fun k : Sq => ((k.1, (c.wide : Int) - 1 - k.2) : Sq)) (k.1, k.2 + 1) := fun k => by ext <;> simp only [] <;> omega
  have e2 : ∀ k : Sq, ((k.1, (c.wide : Int) - 2 - k.2 + 1) : Sq) = (fun k : Sq => ((k.1, (c.wide : Int) - 1 - k.2) : Sq)) (k.1, k.2) := fun k => by ext <;> simp only [] <;> omega
  have e3 : ∀ k : Sq, ((k.1 + 1, (c.wide : Int) - 2 - k.2 + 1) : Sq) = (fun k : Sq => ((k.1, (c.wide : Int) - 1 - k.2) : Sq)) (k.1 + 1, k.2) := fun k => by ext <;> simp only [] <;> omega
  have e4 : ∀ k : Sq, ((k.1 + 1, (c.wide : Int) - 2 - k.2) : Sq) = (fun k : Sq => ((k.1, (c.wide : Int) - 1 - k.2) : Sq)) (k.1 + 1, k.2 + 1) := fun k => by ext <;> simp only [] <;> omega
  have sw : ∀ a b, c'.side ((fun k : Sq => ((k.1, (c.wide : Int) - 1 - k.2) : Sq)) a, (fun k : Sq => ((k.1, (c.wide : Int) - 1 - k.2) : Sq)) b) = c.side (b, a) := fun a b => (s.side a b).trans (side_swap c a b)
  refine ⟨s.clock, fun k => by ext <;> simp only [] <;> omega, fun k => by ext <;> simp only [] <;> omega, fun k => ?_, fun k x hx => ?_, fun k x hx => ?_, fun k => ?_, .inr rfl⟩
  · rw [mem_corners, mem_corners, hh, hw]
    simp only []
    omega
  · simp only [across, List.mem_cons, List.not_mem_nil, or_false] at hx ⊢
    rcases hx with rfl | rfl | rfl | rfl
    · refine ⟨_, .inl rfl, ?_, ?_⟩
      · simp only [e1, e2]; exact sw (k.1, k.2 + 1) (k.1, k.2)
      · ext <;> simp only [] <;> omega
    · refine ⟨_, .inr (.inr (.inr rfl)), ?_, ?_⟩
      · simp only [e4, e1]; exact sw (k.1 + 1, k.2 + 1) (k.1, k.2 + 1)
      · ext <;> simp only [] <;> omega
    · refine ⟨_, .inr (.inr (.inl rfl)), ?_, ?_⟩
      · simp only [e3, e4]; exact sw (k.1 + 1, k.2) (k.1 + 1, k.2 + 1)
      · ext <;> simp only [] <;> omega
    · refine ⟨_, .inr (.inl rfl), ?_, ?_⟩
      · simp only [e2, e3]; exact sw (k.1, k.2) (k.1 + 1, k.2)
      · ext <;> simp only [] <;> omega
  · simp only [across, List.mem_cons, List.not_mem_nil, or_false] at hx ⊢
    rcases hx with rfl | rfl | rfl | rfl
    · refine ⟨_, .inl rfl, ?_, ?_⟩
      · simp only [e1, e2]; exact sw (k.1, k.2 + 1) (k.1, k.2)
      · ext <;> simp only [] <;> omega
    · refine ⟨_, .inr (.inr (.inr rfl)), ?_, ?_⟩
      · simp only [e2, e3]; exact sw (k.1, k.2) (k.1 + 1, k.2)
      · ext <;> simp only [] <;> omega
    · refine ⟨_, .inr (.inr (.inl rfl)), ?_, ?_⟩
      · simp only [e3, e4]; exact sw (k.1 + 1, k.2) (k.1 + 1, k.2 + 1)
      · ext <;> simp only [] <;> omega
    · refine ⟨_, .inr (.inl rfl), ?_, ?_⟩
      · simp only [e4, e1]; exact sw (k.1 + 1, k.2 + 1) (k.1, k.2 + 1)
      · ext <;> simp only [] <;> omega
  · rw [whirl_eq, whirl_eq]
    simp only [across, List.map_cons, List.map_nil, List.sum_cons, List.sum_nil]
    simp only [e1, e2, e3, e4]
    rw [s.gain (k.1, k.2 + 1) (k.1, k.2), s.gain (k.1, k.2) (k.1 + 1, k.2), s.gain (k.1 + 1, k.2) (k.1 + 1, k.2 + 1), s.gain (k.1 + 1, k.2 + 1) (k.1, k.2 + 1)]
    rw [gain_swap g (k.1, k.2) (k.1, k.2 + 1), gain_swap g (k.1 + 1, k.2) (k.1, k.2), gain_swap g (k.1 + 1, k.2 + 1) (k.1 + 1, k.2), gain_swap g (k.1, k.2 + 1) (k.1 + 1, k.2 + 1)]
    omega
/-- hours that are all so much later -/
structure Later (c c' : Ch) (by_ : Int) : Prop where
  clock : c'.clock = c.clock
  high : c'.high = c.high
  wide : c'.wide = c.wide
  told : ∀ s, c'.told s = c.told s
  sea : ∀ s, c'.sea s = c.sea s
  val : ∀ s, c.told s = true → c'.val s = (c.val s + by_) % c.clock
theorem stepOf_later (m a b by_ : Int) : stepOf m ((a + by_) % m) ((b + by_) % m) = stepOf m a b := by
  unfold stepOf
  have : ((b + by_) % m - (a + by_) % m) % m = (b - a) % m := by
    rw [← Int.sub_emod]
    congr 1
    omega
  rw [this]
theorem later_whirl {c c' : Ch} {by_ : Int} (h : Later c c' by_) (k : Sq) : c'.whirl k = c.whirl k := by
  rw [whirl_eq, whirl_eq]
  congr 1
  refine List.map_congr_left fun x _ => ?_
  have hs : c'.side x.1 = c.side x.1 := by unfold Ch.side; rw [h.told, h.told]
  unfold gain
  rw [hs]
  split
  · rename_i e
    unfold Ch.side at e
    rw [Bool.and_eq_true] at e
    unfold sStep
    rw [h.val _ e.1, h.val _ e.2, h.clock, stepOf_later]
  · rfl
theorem later_iso {c c' : Ch} {by_ : Int} (h : Later c c' by_) : Iso c c' id id 1 := by
  refine ⟨h.clock, fun _ => rfl, fun _ => rfl, fun k => ?_, fun k x hx => ⟨x, hx, ?_, rfl⟩, fun k x hx => ⟨x, hx, ?_, rfl⟩, fun k => ?_, .inl rfl⟩
  · rw [mem_corners, mem_corners, h.high, h.wide]; rfl
  · unfold Ch.side; rw [h.told, h.told]
  · unfold Ch.side; rw [h.told, h.told]
  · rw [Int.one_mul]; exact later_whirl h k
/-- the very same eyes, in the same order -/
theorem later_eyes {c c' : Ch} {by_ : Int} (h : Later c c' by_) : (eyesOf c').found = (eyesOf c).found := by
  have e1 : c'.corners = c.corners := by unfold corners; rw [h.high, h.wide]
  have e2 : c'.side = c.side := by funext p; unfold Ch.side; rw [h.told, h.told]
  have g1 : gItem c' = gItem c := by funext s x; unfold gItem; rw [e1, e2]
  have g2 : gTurn c' = gTurn c := by funext s; unfold gTurn; rw [g1]
  have g3 : ∀ n s, gLoop c' n s = gLoop c n s := fun n => by
    induction n with
    | zero => intro s; rfl
    | succ n ih => intro s; unfold gLoop; rw [g2, ih]
  have g4 : grown c' = grown c := by funext k; unfold grown gFuel; rw [g3, e1]
  have g5 : eItem c' = eItem c := by funext s k; unfold eItem; rw [g4]
  unfold eyesOf
  rw [g5, e1]
theorem later_counts {c c' : Ch} {by_ : Int} (h : Later c c' by_) (e : List Sq) : c'.countOf e = c.countOf e := by
  unfold countOf
  rw [h.clock]
  congr 2
  exact List.map_congr_left fun k _ => later_whirl h k
end Co

set_option maxRecDepth 100000
/-! Part E: ways of least fare, round by round, and rings of back steps. -/
namespace Co

structure BS (α : Type) where
  far : α → Option Int
  came : α → Option α
  last : Option α
section
variable {α : Type} [DecidableEq α]
def Sat (far : α → Option Int) (e : α × α × Int) : Prop := ∀ a, far e.1 = some a → ∃ b, far e.2.1 = some b ∧ b ≤ a + e.2.2
def better (far : α → Option Int) (e : α × α × Int) : Bool :=
  match far e.1 with
  | none => false
  | some a => match far e.2.1 with
    | none => true
    | some b => decide (a + e.2.2 < b)
def relax (s : BS α) (e : α × α × Int) : BS α :=
  if better s.far e = true then
    { far := fun x => if x = e.2.1 then some ((s.far e.1).getD 0 + e.2.2) else s.far x, came := fun x => if x = e.2.1 then some e.1 else s.came x, last := some e.2.1 }
  else s
def round (E : List (α × α × Int)) (s : BS α) : BS α := E.foldl relax { s with last := none }
def bf (E : List (α × α × Int)) : Nat → BS α → BS α
  | 0, s => s
  | n + 1, s => if (round E s).last = none then round E s else bf E n (round E s)
theorem better_false {far : α → Option Int} {e : α × α × Int} (h : ¬ better far e = true) : Sat far e := by
  intro a ha
  unfold better at h
  rw [ha] at h
  simp only [] at h
  cases hb : far e.2.1 with
  | none => rw [hb] at h; simp at h
  | some b =>
    rw [hb] at h
    simp only [decide_eq_true_eq] at h
    exact ⟨b, rfl, by omega⟩
theorem better_true {far : α → Option Int} {e : α × α × Int} (h : better far e = true) : ∃ a, far e.1 = some a ∧ ∀ b, far e.2.1 = some b → a + e.2.2 < b := by
  unfold better at h
  cases ha : far e.1 with
  | none => rw [ha] at h; simp at h
  | some a =>
    rw [ha] at h
    refine ⟨a, rfl, fun b hb => ?_⟩
    rw [hb] at h
    simpa using h

/-! ### what holds in the k-th round -/
structure JInv (E : List (α × α × Int)) (far0 : α → Option Int) (s : BS α) (R : α → Nat) (k : Nat) : Prop where
  camE : ∀ v u, s.came v = some u → ∃ c a b, (u, v, c) ∈ E ∧ s.far u = some a ∧ s.far v = some b ∧ a + c ≤ b
  camR : ∀ v u, s.came v = some u → R v ≤ R u + 1
  none_ : ∀ v, s.came v = none → R v = 0 ∧ s.far v = far0 v
  some_ : ∀ v u, s.came v = some u → 0 < R v
  le : ∀ v, R v ≤ k
structure Within (E pre post : List (α × α × Int)) (s : BS α) (R : α → Nat) (k : Nat) : Prop where
  pre : ∀ e, e ∈ pre → Sat s.far e ∨ k ≤ R e.1
  post : ∀ e, e ∈ post → Sat s.far e ∨ k ≤ R e.1 + 1
  last : ∀ v, s.last = some v → R v = k
theorem relax_step {E : List (α × α × Int)} (hE : ∀ e, e ∈ E → e.1 ≠ e.2.1) {far0 : α → Option Int} {s : BS α} {R : α → Nat} {k : Nat} (hk : 1 ≤ k) {pre post : List (α × α × Int)} {e : α × α × Int} (he : e ∈ E)
    (j : JInv E far0 s R k) (h : Within E pre (e :: post) s R k) : ∃ R', JInv E far0 (relax s e) R' k ∧ Within E (pre ++ [e]) post (relax s e) R' k := by
  unfold relax
  split
  · rename_i hb
    obtain ⟨a, ha, hlt⟩ := better_true hb
    have ne := hE e he
    obtain ⟨u, v, c⟩ := e
    simp only [] at ha hlt ne
    have hRu : k ≤ R u + 1 := by
      rcases h.post (u, v, c) List.mem_cons_self with z | z
      · obtain ⟨b, hb, le⟩ := z a ha
        have := hlt b hb
        simp only [] at le
        omega
      · exact z
    simp only [ha, Option.getD_some]
    -- what was kept is kept
    have keep : ∀ e' : α × α × Int, Sat s.far e' → e'.1 ≠ v → Sat (fun x => if x = v then some (a + c) else s.far x) e' := fun e' z hne a' ha' => by
      simp only [if_neg hne] at ha'
      obtain ⟨b, hb, le⟩ := z a' ha'
      by_cases hv : e'.2.1 = v
      · rw [hv] at hb
        have := hlt b hb
        exact ⟨a + c, by simp only [if_pos hv], by omega⟩
      · exact ⟨b, by simp only [if_neg hv]; exact hb, le⟩
    refine ⟨fun x => if x = v then k else R x, ⟨fun x y e => ?_, fun x y e => ?_, fun x e => ?_, fun x y e => ?_, fun x => ?_⟩, fun e' m => ?_, fun e' m => ?_, fun x e => ?_⟩
    · simp only [] at e ⊢
      by_cases hx : x = v
      · subst hx
        rw [if_pos rfl] at e
        cases e
        exact ⟨c, a, a + c, he, by rw [if_neg ne]; exact ha, if_pos rfl, Int.le_refl _⟩
      · rw [if_neg hx] at e
        obtain ⟨c', a', b', m, h1, h2, h3⟩ := j.camE x y e
        by_cases hy : y = v
        · subst hy
          have := hlt a' h1
          exact ⟨c', a + c, b', m, if_pos rfl, by rw [if_neg hx]; exact h2, by omega⟩
        · exact ⟨c', a', b', m, by rw [if_neg hy]; exact h1, by rw [if_neg hx]; exact h2, h3⟩
    · simp only [] at e ⊢
      by_cases hx : x = v
      · subst hx
        rw [if_pos rfl] at e
        cases e
        rw [if_pos rfl, if_neg ne]
        exact hRu
      · rw [if_neg hx] at e
        rw [if_neg hx]
        have := j.camR x y e
        by_cases hy : y = v
        · rw [if_pos hy]; have := j.le x; omega
        · rw [if_neg hy]; exact this
    · simp only [] at e ⊢
      by_cases hx : x = v
      · rw [if_pos hx] at e; cases e
      · rw [if_neg hx] at e
        rw [if_neg hx, if_neg hx]
        exact j.none_ x e
    · simp only [] at e ⊢
      by_cases hx : x = v
      · rw [if_pos hx]; omega
      · rw [if_neg hx] at e
        rw [if_neg hx]
        exact j.some_ x y e
    · show (if x = v then k else R x) ≤ k
      split
      · exact Nat.le_refl _
      · exact j.le x
    · show Sat (fun x => if x = v then some (a + c) else s.far x) e' ∨ k ≤ (if e'.1 = v then k else R e'.1)
      rcases List.mem_append.mp m with m | m
      · by_cases hv : e'.1 = v
        · exact .inr (by rw [if_pos hv]; exact Nat.le_refl _)
        · rw [if_neg hv]
          exact (h.pre e' m).imp (fun z => keep e' z hv) id
      · rw [List.mem_singleton.mp m]
        refine .inl fun a' ha' => ?_
        have ha' : (if u = v then some (a + c) else s.far u) = some a' := ha'
        rw [if_neg ne, ha] at ha'
        cases ha'
        exact ⟨a + c, if_pos rfl, Int.le_refl _⟩
    · show Sat (fun x => if x = v then some (a + c) else s.far x) e' ∨ k ≤ (if e'.1 = v then k else R e'.1) + 1
      by_cases hv : e'.1 = v
      · exact .inr (by rw [if_pos hv]; omega)
      · rw [if_neg hv]
        exact (h.post e' (List.mem_cons_of_mem _ m)).imp (fun z => keep e' z hv) id
    · simp only [Option.some.injEq] at e ⊢
      rw [if_pos e.symm]
  · rename_i hb
    refine ⟨R, j, fun e' m => ?_, fun e' m => h.post e' (List.mem_cons_of_mem _ m), h.last⟩
    rcases List.mem_append.mp m with m | m
    · exact h.pre e' m
    · rw [List.mem_singleton.mp m]
      exact .inl (better_false hb)
theorem relaxs {E : List (α × α × Int)} (hE : ∀ e, e ∈ E → e.1 ≠ e.2.1) {far0 : α → Option Int} {k : Nat} (hk : 1 ≤ k) : ∀ {post pre : List (α × α × Int)} {s : BS α} {R : α → Nat}, (∀ e, e ∈ post → e ∈ E) →
    JInv E far0 s R k → Within E pre post s R k → ∃ R', JInv E far0 (post.foldl relax s) R' k ∧ Within E (pre ++ post) [] (post.foldl relax s) R' k
  | [], pre, s, R, _, j, h => ⟨R, j, by rw [List.append_nil]; exact h⟩
  | e :: post, pre, s, R, hm, j, h => by
    obtain ⟨R1, j1, h1⟩ := relax_step hE hk (hm e List.mem_cons_self) j h
    obtain ⟨R2, j2, h2⟩ := relaxs hE hk (post := post) (fun e' m => hm e' (List.mem_cons_of_mem _ m)) j1 h1
    rw [List.append_assoc] at h2
    exact ⟨R2, j2, h2⟩
/-- a round in which nothing moved -/
theorem calm_round : ∀ (E : List (α × α × Int)) (s : BS α), (E.foldl relax s).last = none → E.foldl relax s = s ∧ ∀ e, e ∈ E → Sat s.far e := by
  have keepLast : ∀ (E : List (α × α × Int)) (s : BS α), s.last ≠ none → (E.foldl relax s).last ≠ none := by
    intro E
    induction E with
    | nil => intro s h; exact h
    | cons e r ih =>
      intro s h
      refine ih _ ?_
      unfold relax
      split
      · simp
      · exact h
  intro E
  induction E with
  | nil => intro s _; exact ⟨rfl, fun e h => (nomatch h)⟩
  | cons e r ih =>
    intro s h
    rw [List.foldl_cons] at h ⊢
    by_cases hb : better s.far e = true
    · exfalso
      refine keepLast r (relax s e) ?_ h
      unfold relax
      rw [if_pos hb]; simp
    · have hr : relax s e = s := by unfold relax; rw [if_neg hb]
      rw [hr] at h ⊢
      obtain ⟨h1, h2⟩ := ih s h
      refine ⟨h1, fun e' m => ?_⟩
      rcases List.mem_cons.mp m with rfl | m
      · exact better_false hb
      · exact h2 e' m
theorem bf_spec {E : List (α × α × Int)} (hE : ∀ e, e ∈ E → e.1 ≠ e.2.1) {far0 : α → Option Int} : ∀ (n : Nat) {s : BS α} {R : α → Nat} {k : Nat}, JInv E far0 s R k → (∀ e, e ∈ E → Sat s.far e ∨ k ≤ R e.1) →
    (n = 0 ∧ bf E n s = s) ∨ (∃ R' k', JInv E far0 (bf E n s) R' k' ∧ (bf E n s).last = none ∧ ∀ e, e ∈ E → Sat (bf E n s).far e) ∨
    (∃ R' v, JInv E far0 (bf E n s) R' (k + n) ∧ (bf E n s).last = some v ∧ R' v = k + n ∧ ∀ e, e ∈ E → Sat (bf E n s).far e ∨ k + n ≤ R' e.1)
  | 0, s, R, k, _, _ => .inl ⟨rfl, rfl⟩
  | n + 1, s, R, k, j, h => by
    refine .inr ?_
    have j1 : JInv E far0 ({ s with last := none } : BS α) R (k + 1) := ⟨j.camE, j.camR, j.none_, j.some_, fun v => Nat.le_succ_of_le (j.le v)⟩
    have w1 : Within E [] E ({ s with last := none } : BS α) R (k + 1) := ⟨fun e m => (nomatch m), fun e m => (h e m).imp id fun z => by omega, fun v z => (nomatch z)⟩
    obtain ⟨R2, j2, w2⟩ := relaxs hE (by omega) (fun e m => m) j1 w1
    rw [List.nil_append] at w2
    have hr : E.foldl relax ({ s with last := none } : BS α) = round E s := rfl
    rw [hr] at j2 w2
    unfold bf
    split
    · rename_i hl
      obtain ⟨e1, e2⟩ := calm_round E { s with last := none } hl
      refine .inl ⟨R2, _, j2, hl, fun e m => ?_⟩
      have : round E s = ({ s with last := none } : BS α) := e1
      rw [this]
      exact e2 e m
    · rename_i hl
      rcases bf_spec hE n (R := R2) (k := k + 1) j2 w2.pre with ⟨e0, e1⟩ | z | z
      · refine .inr ?_
        rw [e1]
        cases e : (round E s).last with
        | none => exact absurd e hl
        | some v =>
          subst e0
          exact ⟨R2, v, j2, rfl, w2.last v e, w2.pre⟩
      · exact .inl z
      · have : k + 1 + n = k + (n + 1) := by omega
        rw [this] at z
        exact .inr z
def bs0 (far0 : α → Option Int) : BS α := ⟨far0, fun _ => none, none⟩
theorem bf_from {E : List (α × α × Int)} (hE : ∀ e, e ∈ E → e.1 ≠ e.2.1) (far0 : α → Option Int) {n : Nat} (hn : 1 ≤ n) :
    (∃ R' k', JInv E far0 (bf E n (bs0 far0)) R' k' ∧ (bf E n (bs0 far0)).last = none ∧ ∀ e, e ∈ E → Sat (bf E n (bs0 far0)).far e) ∨
    (∃ R' v, JInv E far0 (bf E n (bs0 far0)) R' n ∧ (bf E n (bs0 far0)).last = some v ∧ R' v = n ∧ ∀ e, e ∈ E → Sat (bf E n (bs0 far0)).far e ∨ n ≤ R' e.1) := by
  have j0 : JInv E far0 (bs0 far0) (fun _ => 0) 0 := ⟨fun v u e => (nomatch e), fun v u e => (nomatch e), fun v _ => ⟨rfl, rfl⟩, fun v u e => (nomatch e), fun v => Nat.le_refl _⟩
  rcases bf_spec hE n j0 (fun e _ => .inr (Nat.zero_le _)) with ⟨e, _⟩ | z | z
  · omega
  · exact .inl z
  · rw [Nat.zero_add] at z
    exact .inr z

/-! ### back steps end at a root, where there are levels that no fare goes below -/
inductive Chain (came : α → Option α) : α → List α → Prop
  | root {v : α} : came v = none → Chain came v [v]
  | step {v u : α} {l : List α} : came v = some u → Chain came u l → Chain came v (v :: l)
theorem Chain.unique {came : α → Option α} {v : α} {l l' : List α} (h : Chain came v l) (h' : Chain came v l') : l = l' := by
  induction h generalizing l' with
  | root e => cases h' with
    | root _ => rfl
    | step e' _ => rw [e] at e'; cases e'
  | step e c ih => cases h' with
    | root e' => rw [e] at e'; cases e'
    | step e' c' =>
      rw [e] at e'; cases e'
      rw [ih c']
theorem Chain.sub {came : α → Option α} {v : α} {l : List α} (h : Chain came v l) : ∀ x, x ∈ l → ∃ l', Chain came x l' ∧ l'.length ≤ l.length := by
  induction h with
  | root e => intro x hx; rw [List.mem_singleton.mp hx]; exact ⟨_, .root e, Nat.le_refl _⟩
  | step e c ih =>
    intro x hx
    rcases List.mem_cons.mp hx with rfl | hx
    · exact ⟨_, .step e c, Nat.le_refl _⟩
    · obtain ⟨l', h1, h2⟩ := ih x hx
      exact ⟨l', h1, by rw [List.length_cons]; omega⟩
theorem Chain.fresh {came : α → Option α} {v u : α} {l : List α} (e : came v = some u) (h : Chain came u l) : v ∉ l := fun hv => by
  obtain ⟨l', h1, h2⟩ := h.sub v hv
  have := h1.unique (.step e h)
  subst this
  rw [List.length_cons] at h2
  omega
theorem Chain.nodup {came : α → Option α} {v : α} {l : List α} (h : Chain came v l) : l.Nodup := by
  induction h with
  | root e => simp
  | step e c ih => exact List.nodup_cons.mpr ⟨c.fresh e, ih⟩
theorem Chain.rank {came : α → Option α} {R : α → Nat} (h1 : ∀ v u, came v = some u → R v ≤ R u + 1) (h0 : ∀ v, came v = none → R v = 0) {v : α} {l : List α} (h : Chain came v l) : R v + 1 ≤ l.length := by
  induction h with
  | root e => rw [h0 _ e]; simp
  | step e c ih => have := h1 _ _ e; rw [List.length_cons]; omega
theorem relax_chain {E : List (α × α × Int)} {far0 : α → Option Int} {s : BS α} {R : α → Nat} {k : Nat} {p : α → Int} (hp : ∀ e, e ∈ E → p e.2.1 ≤ p e.1 + e.2.2) {e : α × α × Int} (he : e ∈ E)
    (j : JInv E far0 s R k) (h : ∀ v, ∃ l, Chain s.came v l) : ∀ v, ∃ l, Chain (relax s e).came v l := by
  unfold relax
  split
  · rename_i hb
    obtain ⟨a, ha, hlt⟩ := better_true hb
    obtain ⟨u, v, c⟩ := e
    simp only [] at ha hlt ⊢
    have hpe : p v ≤ p u + c := hp _ he
    have low : ∀ x l, Chain s.came x l → ∀ fx, s.far x = some fx → fx - p x ≤ a - p u → ∃ l', Chain (fun x => if x = v then some u else s.came x) x l' := by
      intro x l hx
      induction hx with
      | root e =>
        rename_i x
        intro fx hf hle
        have hxv : x ≠ v := fun z => by
          subst z
          have := hlt fx hf
          omega
        exact ⟨_, .root (by rw [if_neg hxv]; exact e)⟩
      | @step x y l e _ ih =>
        intro fx hf hle
        have hxv : x ≠ v := fun z => by
          subst z
          have := hlt fx hf
          omega
        obtain ⟨c', a', b', m, h1, h2, h3⟩ := j.camE x y e
        rw [hf] at h2; cases h2
        have := hp _ m
        simp only [] at this
        obtain ⟨l', hl'⟩ := ih a' h1 (by omega)
        exact ⟨_, .step (u := y) (by rw [if_neg hxv]; exact e) hl'⟩
    obtain ⟨l, hl⟩ := h u
    obtain ⟨lu, hu⟩ := low u l hl a ha (by omega)
    have hv : ∃ l, Chain (fun x => if x = v then some u else s.came x) v l := ⟨_, .step (by rw [if_pos rfl]) hu⟩
    intro x
    obtain ⟨l, hl⟩ := h x
    induction hl with
    | root e =>
      rename_i x
      by_cases hx : x = v
      · rw [hx]; exact hv
      · exact ⟨_, .root (by rw [if_neg hx]; exact e)⟩
    | @step x y l e _ ih =>
      by_cases hx : x = v
      · rw [hx]; exact hv
      · obtain ⟨l', hl'⟩ := ih
        exact ⟨_, .step (u := y) (by rw [if_neg hx]; exact e) hl'⟩
  · exact h
theorem relaxs_chain {E : List (α × α × Int)} (hE : ∀ e, e ∈ E → e.1 ≠ e.2.1) {far0 : α → Option Int} {k : Nat} (hk : 1 ≤ k) {p : α → Int} (hp : ∀ e, e ∈ E → p e.2.1 ≤ p e.1 + e.2.2) :
    ∀ {post pre : List (α × α × Int)} {s : BS α} {R : α → Nat}, (∀ e, e ∈ post → e ∈ E) → JInv E far0 s R k → Within E pre post s R k → (∀ v, ∃ l, Chain s.came v l) → ∀ v, ∃ l, Chain (post.foldl relax s).came v l
  | [], _, _, _, _, _, _, h => h
  | e :: post, pre, s, R, hm, j, w, h => by
    obtain ⟨R1, j1, w1⟩ := relax_step hE hk (hm e List.mem_cons_self) j w
    exact relaxs_chain hE hk hp (post := post) (fun e' m => hm e' (List.mem_cons_of_mem _ m)) j1 w1 (relax_chain hp (hm e List.mem_cons_self) j h)
theorem bf_chain {E : List (α × α × Int)} (hE : ∀ e, e ∈ E → e.1 ≠ e.2.1) {far0 : α → Option Int} {p : α → Int} (hp : ∀ e, e ∈ E → p e.2.1 ≤ p e.1 + e.2.2) :
    ∀ (n : Nat) {s : BS α} {R : α → Nat} {k : Nat}, JInv E far0 s R k → (∀ e, e ∈ E → Sat s.far e ∨ k ≤ R e.1) → (∀ v, ∃ l, Chain s.came v l) → ∀ v, ∃ l, Chain (bf E n s).came v l
  | 0, _, _, _, _, _, h => h
  | n + 1, s, R, k, j, w, h => by
    have j1 : JInv E far0 ({ s with last := none } : BS α) R (k + 1) := ⟨j.camE, j.camR, j.none_, j.some_, fun v => Nat.le_succ_of_le (j.le v)⟩
    have w1 : Within E [] E ({ s with last := none } : BS α) R (k + 1) := ⟨fun e m => (nomatch m), fun e m => (w e m).imp id fun z => by omega, fun v z => (nomatch z)⟩
    obtain ⟨R2, j2, w2⟩ := relaxs hE (by omega) (fun e m => m) j1 w1
    rw [List.nil_append] at w2
    have c2 := relaxs_chain hE (by omega) hp (fun e m => m) j1 w1 h
    unfold bf
    split
    · exact c2
    · exact bf_chain hE hp n j2 w2.pre c2
theorem bf_chain0 {E : List (α × α × Int)} (hE : ∀ e, e ∈ E → e.1 ≠ e.2.1) (far0 : α → Option Int) {p : α → Int} (hp : ∀ e, e ∈ E → p e.2.1 ≤ p e.1 + e.2.2) (n : Nat) : ∀ v, ∃ l, Chain (bf E n (bs0 far0)).came v l := by
  have j0 : JInv E far0 (bs0 far0) (fun _ => 0) 0 := ⟨fun v u e => (nomatch e), fun v u e => (nomatch e), fun v _ => ⟨rfl, rfl⟩, fun v u e => (nomatch e), fun v => Nat.le_refl _⟩
  exact bf_chain hE hp n j0 (fun e _ => .inr (Nat.zero_le _)) fun v => ⟨_, .root rfl⟩
/-- a chain's places are nodes -/
theorem Chain.in_ {E : List (α × α × Int)} {far0 : α → Option Int} {s : BS α} {R : α → Nat} {k : Nat} (j : JInv E far0 s R k) {N : List α} (hN : ∀ e, e ∈ E → e.1 ∈ N ∧ e.2.1 ∈ N) {v : α} {l : List α} (h : Chain s.came v l) (hv : v ∈ N) : ∀ x, x ∈ l → x ∈ N := by
  induction h with
  | root e => intro x hx; rw [List.mem_singleton.mp hx]; exact hv
  | step e _ ih =>
    intro x hx
    rcases List.mem_cons.mp hx with rfl | hx
    · exact hv
    · obtain ⟨c, _, _, m, _⟩ := j.camE _ _ e
      exact ih (hN _ m).1 x hx
/-- THE LEAST FARES: with levels, as many rounds as nodes bring all to rest -/
theorem bf_rest {E : List (α × α × Int)} (hE : ∀ e, e ∈ E → e.1 ≠ e.2.1) (far0 : α → Option Int) {p : α → Int} (hp : ∀ e, e ∈ E → p e.2.1 ≤ p e.1 + e.2.2) {N : List α} (hN : ∀ e, e ∈ E → e.1 ∈ N ∧ e.2.1 ∈ N) {n : Nat} (hn : 1 ≤ n) (hl : N.length ≤ n) :
    (∃ R k, JInv E far0 (bf E n (bs0 far0)) R k) ∧ ∀ e, e ∈ E → Sat (bf E n (bs0 far0)).far e := by
  rcases bf_from hE far0 hn with ⟨R, k, j, _, h⟩ | ⟨R, v, j, _, _, h⟩
  · exact ⟨⟨R, k, j⟩, h⟩
  · refine ⟨⟨R, n, j⟩, fun e m => ?_⟩
    rcases h e m with z | z
    · exact z
    · exfalso
      obtain ⟨l, c⟩ := bf_chain0 hE far0 hp n e.1
      have h1 := c.rank j.camR fun v e => (j.none_ v e).1
      have h2 := c.nodup.length_le_of_subset fun x hx => c.in_ j hN (hN e m).1 x hx
      omega
/-- with levels, one round more than nodes ends calm -/
theorem bf_calm {E : List (α × α × Int)} (hE : ∀ e, e ∈ E → e.1 ≠ e.2.1) (far0 : α → Option Int) {p : α → Int} (hp : ∀ e, e ∈ E → p e.2.1 ≤ p e.1 + e.2.2) {N : List α} (hN : ∀ e, e ∈ E → e.1 ∈ N ∧ e.2.1 ∈ N) {n : Nat} (hl : N.length ≤ n) :
    (bf E (n + 1) (bs0 far0)).last = none := by
  rcases bf_from hE far0 (n := n + 1) (by omega) with ⟨_, _, _, z, _⟩ | ⟨R, v, j, _, hv, h⟩
  · exact z
  · exfalso
    obtain ⟨l, c⟩ := bf_chain0 hE far0 hp (n + 1) v
    have h1 := c.rank j.camR fun v e => (j.none_ v e).1
    have hvN : v ∈ N := by
      cases e : (bf E (n + 1) (bs0 far0)).came v with
      | none => have := (j.none_ v e).1; omega
      | some u =>
        obtain ⟨_, _, _, m, _⟩ := j.camE _ _ e
        exact (hN _ m).2
    have h2 := c.nodup.length_le_of_subset fun x hx => c.in_ j hN hvN x hx
    omega

/-! ### going back -/
def back (came : α → Option α) : Nat → α → Option α
  | 0, v => some v
  | n + 1, v => (back came n v).bind came
theorem back_add (came : α → Option α) (v : α) (m : Nat) : ∀ n, back came (m + n) v = (back came m v).bind (back came n)
  | 0 => by cases h : back came m v <;> simp [back, h]
  | n + 1 => by
    show (back came (m + n) v).bind came = _
    rw [back_add came v m n]
    cases h : back came m v <;> simp [back]
/-- the ring behind a place that was still moved in the last round -/
theorem ring_there {E : List (α × α × Int)} {far0 : α → Option Int} {s : BS α} {R : α → Nat} {k : Nat} (j : JInv E far0 s R k) {N : List α} (hN : ∀ e, e ∈ E → e.1 ∈ N ∧ e.2.1 ∈ N) {v : α} {n : Nat} (hl : N.length ≤ n) (hv : R v = n + 1) :
    (∀ i, i ≤ n → ∃ w, back s.came i v = some w) ∧ ∃ w, back s.came n v = some w ∧ ∃ p, 1 ≤ p ∧ p ≤ n ∧ back s.came p w = some w := by
  have hi : ∀ i, i ≤ n → ∃ w, back s.came i v = some w ∧ n + 1 ≤ R w + i := by
    intro i
    induction i with
    | zero => intro _; exact ⟨v, rfl, by omega⟩
    | succ i ih =>
      intro h
      obtain ⟨w, e, hr⟩ := ih (by omega)
      cases e2 : s.came w with
      | none => have := (j.none_ w e2).1; omega
      | some u =>
        refine ⟨u, ?_, ?_⟩
        · show (back s.came i v).bind s.came = _
          rw [e]; exact e2
        · have := j.camR w u e2; omega
  have inN : ∀ i, i ≤ n → ∀ w, back s.came i v = some w → w ∈ N := by
    intro i h w e
    obtain ⟨w', e', hr⟩ := hi i h
    rw [e] at e'; cases e'
    cases e2 : s.came w with
    | none => have := (j.none_ w e2).1; omega
    | some u =>
      obtain ⟨_, _, _, m, _⟩ := j.camE _ _ e2
      exact (hN _ m).2
  refine ⟨fun i h => let ⟨w, e, _⟩ := hi i h; ⟨w, e⟩, ?_⟩
  obtain ⟨w, ew, _⟩ := hi n (Nat.le_refl _)
  refine ⟨w, ew, ?_⟩
  -- two places among n + 1 are one
  have two : ∃ i j, i < j ∧ j ≤ n ∧ back s.came i v = back s.came j v := by
    apply Classical.byContradiction
    intro hno
    have nd : ((List.range (n + 1)).map fun i => (back s.came i v).getD v).Nodup := by
      refine nodup_map_inj List.nodup_range fun a ha b hb e => ?_
      have ha := List.mem_range.mp ha
      have hb := List.mem_range.mp hb
      obtain ⟨x, ex, _⟩ := hi a (by omega)
      obtain ⟨y, ey, _⟩ := hi b (by omega)
      have e' : back s.came a v = back s.came b v := by
        rw [ex, ey] at e ⊢
        simpa using e
      rcases Nat.lt_trichotomy a b with h | h | h
      · exact absurd ⟨a, b, h, by omega, e'⟩ hno
      · exact h
      · exact absurd ⟨b, a, h, by omega, e'.symm⟩ hno
    have le := nd.length_le_of_subset (l₂ := N) fun x hx => by
      obtain ⟨i, hi', rfl⟩ := List.mem_map.mp hx
      have hi' := List.mem_range.mp hi'
      obtain ⟨x, ex, _⟩ := hi i (by omega)
      rw [ex]
      exact inN i (by omega) x ex
    rw [List.length_map, List.length_range] at le
    omega
  obtain ⟨i, j', hij, hj, e⟩ := two
  refine ⟨j' - i, by omega, by omega, ?_⟩
  obtain ⟨x, ex, _⟩ := hi i (by omega)
  have e1 : back s.came (n - i) x = some w := by
    have := back_add s.came v i (n - i)
    rw [ex, show i + (n - i) = n by omega, ew] at this
    exact this.symm
  have e2 : back s.came (j' - i) x = some x := by
    have := back_add s.came v i (j' - i)
    rw [ex, show i + (j' - i) = j' by omega, ← e, ex] at this
    exact this.symm
  have a1 := back_add s.came x (n - i) (j' - i)
  have a2 := back_add s.came x (j' - i) (n - i)
  rw [e1] at a1
  rw [e2, Nat.add_comm, a1] at a2
  have a3 : (some w).bind (back s.came (j' - i)) = (some x).bind (back s.came (n - i)) := a2
  have a4 : back s.came (j' - i) w = back s.came (n - i) x := a3
  rw [a4, e1]
end
end Co

set_option maxRecDepth 100000
/-! Part F: counts moved along ways of least fare until all are nought; the weight is the greatest worth. -/
namespace Co

abbrev Fl := Nat × Nat → Int
def fareOf (f : Fl) (d : Nat × Nat) : List (Nat × Nat × Int) := [(d.1, d.2, if 0 ≤ f d then 1 else -1), (d.2, d.1, if f d ≤ 0 then 1 else -1)]
def fares (D : List (Nat × Nat)) (f : Fl) : List (Nat × Nat × Int) := D.flatMap (fareOf f)
structure DoorsFit (D : List (Nat × Nat)) (n : Nat) : Prop where
  nodup : D.Nodup
  le : ∀ d, d ∈ D → d.1 ≤ n ∧ d.2 ≤ n
  ne : ∀ d, d ∈ D → d.1 ≠ d.2
  one : ∀ d, d ∈ D → (d.2, d.1) ∉ D
  conn : ∀ S : Nat → Prop, (∀ d, d ∈ D → (S d.1 ↔ S d.2)) → ∀ a b, a ≤ n → b ≤ n → S a → S b
def farAt (start : Nat) : Nat → Option Int := fun x => if x = start then some 0 else none
def reachM (D : List (Nat × Nat)) (f : Fl) (n start : Nat) : BS Nat := bf (fares D f) (n + 1) (bs0 (farAt start))
def pushM (D : List (Nat × Nat)) (f : Fl) (a here : Nat) : Fl :=
  if (a, here) ∈ D then fun d => if d = (a, here) then f d + 1 else f d else fun d => if d = (here, a) then f d - 1 else f d
def moveM (D : List (Nat × Nat)) (came : Nat → Option Nat) (start : Nat) : Nat → Nat → Fl → Fl
  | 0, _, f => f
  | m + 1, here, f => if here = start then f else match came here with
    | none => f
    | some a => moveM D came start m a (pushM D f a here)
def net (D : List (Nat × Nat)) (f : Fl) (v : Nat) : Int := (D.map fun d => (if d.1 = v then f d else 0) - (if d.2 = v then f d else 0)).sum
def Lev (D : List (Nat × Nat)) (f : Fl) (p : Nat → Int) : Prop := ∀ e, e ∈ fares D f → p e.2.1 ≤ p e.1 + e.2.2
theorem lev_iff {D : List (Nat × Nat)} {f : Fl} {p : Nat → Int} : Lev D f p ↔ ∀ d, d ∈ D → p d.2 ≤ p d.1 + (if 0 ≤ f d then 1 else -1) ∧ p d.1 ≤ p d.2 + (if f d ≤ 0 then 1 else -1) := by
  constructor
  · intro h d hd
    exact ⟨h (d.1, d.2, _) (List.mem_flatMap.mpr ⟨d, hd, List.mem_cons_self⟩), h (d.2, d.1, _) (List.mem_flatMap.mpr ⟨d, hd, List.mem_cons_of_mem _ List.mem_cons_self⟩)⟩
  · intro h e he
    obtain ⟨d, hd, he⟩ := List.mem_flatMap.mp he
    unfold fareOf at he
    rcases List.mem_cons.mp he with rfl | he
    · exact (h d hd).1
    · rw [List.mem_singleton.mp he]; exact (h d hd).2
theorem mem_fares {D : List (Nat × Nat)} {f : Fl} {u v : Nat} {c : Int} : (u, v, c) ∈ fares D f ↔ ((u, v) ∈ D ∧ c = if 0 ≤ f (u, v) then 1 else -1) ∨ ((v, u) ∈ D ∧ c = if f (v, u) ≤ 0 then 1 else -1) := by
  unfold fares
  rw [List.mem_flatMap]
  constructor
  · rintro ⟨d, hd, he⟩
    obtain ⟨a, b⟩ := d
    unfold fareOf at he
    rcases List.mem_cons.mp he with he | he
    · cases he; exact .inl ⟨hd, rfl⟩
    · cases List.mem_singleton.mp he; exact .inr ⟨hd, rfl⟩
  · rintro (⟨hd, rfl⟩ | ⟨hd, rfl⟩)
    · exact ⟨(u, v), hd, List.mem_cons_self⟩
    · exact ⟨(v, u), hd, List.mem_cons_of_mem _ List.mem_cons_self⟩
theorem fares_ne {D : List (Nat × Nat)} {n : Nat} (h : DoorsFit D n) (f : Fl) : ∀ e, e ∈ fares D f → e.1 ≠ e.2.1 := by
  rintro ⟨u, v, c⟩ he
  rcases mem_fares.mp he with ⟨hd, _⟩ | ⟨hd, _⟩
  · exact h.ne _ hd
  · exact (h.ne _ hd).symm
theorem fares_in {D : List (Nat × Nat)} {n : Nat} (h : DoorsFit D n) (f : Fl) : ∀ e, e ∈ fares D f → e.1 ∈ List.range (n + 1) ∧ e.2.1 ∈ List.range (n + 1) := by
  rintro ⟨u, v, c⟩ he
  simp only [List.mem_range]
  rcases mem_fares.mp he with ⟨hd, _⟩ | ⟨hd, _⟩
  · have := h.le _ hd; simp only [] at this; omega
  · have := h.le _ hd; simp only [] at this; omega

/-! ### sums at one place -/
theorem sum_at {α : Type} [DecidableEq α] {a : α} {x : α → Int} : ∀ {l : List α}, l.Nodup → a ∈ l → (l.map fun y => if y = a then x y else 0).sum = x a
  | [], _, h => nomatch h
  | y :: r, nd, h => by
    rw [List.nodup_cons] at nd
    rw [List.map_cons, List.sum_cons]
    by_cases e : y = a
    · subst e
      rw [if_pos rfl, sum_map_zero (fun z hz => by rw [if_neg (fun e : z = y => nd.1 (by rw [← e]; exact hz))])]
      omega
    · rw [if_neg e, sum_at nd.2 ((List.mem_cons.mp h).resolve_left fun z => e z.symm)]
      omega
theorem net_push {D : List (Nat × Nat)} {n : Nat} (h : DoorsFit D n) (f : Fl) {a b : Nat} (hd : (a, b) ∈ D ∨ (b, a) ∈ D) (v : Nat) : net D (pushM D f a b) v = net D f v + (if v = a then 1 else 0) - (if v = b then 1 else 0) := by
  have key : ∀ (d0 : Nat × Nat) (k : Int), d0 ∈ D → net D (fun d => if d = d0 then f d + k else f d) v = net D f v + ((if d0.1 = v then k else 0) - (if d0.2 = v then k else 0)) := by
    intro d0 k h0
    have e := sum_at (x := fun d : Nat × Nat => (if d.1 = v then k else 0) - (if d.2 = v then k else 0)) h.nodup h0
    unfold net
    rw [← e, ← sum_map_add]
    congr 1
    refine List.map_congr_left fun d _ => ?_
    by_cases hd : d = d0
    · simp only [if_pos hd]
      split <;> split <;> omega
    · simp only [if_neg hd]
      omega
  unfold pushM
  split
  · rename_i hm
    rw [key (a, b) 1 hm]
    simp only []
    split <;> split <;> split <;> split <;> omega
  · rename_i hm
    have hm := hd.resolve_left hm
    have := key (b, a) (-1) hm
    have e : (fun d : Nat × Nat => if d = (b, a) then f d - 1 else f d) = fun d => if d = (b, a) then f d + -1 else f d := rfl
    rw [e, this]
    simp only []
    split <;> split <;> split <;> split <;> omega

/-! ### one tide moved along a way -/
structure MoveOk (D : List (Nat × Nat)) (came : Nat → Option Nat) (F : Nat → Int) (start here : Nat) (l : List Nat) (f : Fl) : Prop where
  chain : Chain came here l
  root : ∀ w, w ∈ l → came w = none → w = start
  start_ : came start = none
  lev : Lev D f F
  tight : ∀ w, w ∈ l → ∀ u, came w = some u → ∃ c, (u, w, c) ∈ fares D f ∧ F u + c ≤ F w
theorem Chain.next {α : Type} {came : α → Option α} {v : α} {l : List α} (h : Chain came v l) : ∀ w, w ∈ l → ∀ u, came w = some u → u ∈ l := by
  induction h with
  | root e => intro w hw u e'; rw [List.mem_singleton.mp hw, e] at e'; cases e'
  | step e c ih =>
    intro w hw u e'
    rcases List.mem_cons.mp hw with rfl | hw
    · rw [e] at e'; cases e'
      refine List.mem_cons_of_mem _ ?_
      cases c <;> exact List.mem_cons_self
    · exact List.mem_cons_of_mem _ (ih w hw u e')
theorem Chain.head {α : Type} {came : α → Option α} {v : α} {l : List α} (h : Chain came v l) : v ∈ l := by
  cases h <;> exact List.mem_cons_self
theorem MoveOk.step {D : List (Nat × Nat)} {n : Nat} (hD : DoorsFit D n) {came : Nat → Option Nat} {F : Nat → Int} {start here : Nat} {l : List Nat} {f : Fl} (h : MoveOk D came F start here l f) (hne : here ≠ start) :
    ∃ a l', came here = some a ∧ l = here :: l' ∧ ((a, here) ∈ D ∨ (here, a) ∈ D) ∧ MoveOk D came F start a l' (pushM D f a here) := by
  obtain ⟨ch, root, st, lev, tight⟩ := h
  cases ch with
  | root e => exact absurd (root here List.mem_cons_self e) hne
  | @step _ a l' e ch' =>
    have hfresh := ch'.fresh e
    obtain ⟨c, hc, ht⟩ := tight here List.mem_cons_self a e
    have hd : (a, here) ∈ D ∨ (here, a) ∈ D := (mem_fares.mp hc).imp (fun z => z.1) fun z => z.1
    refine ⟨a, l', e, rfl, hd, ch', fun w hw => root w (List.mem_cons_of_mem _ hw), st, ?_, fun w hw u eu => ?_⟩
    · rw [lev_iff] at lev ⊢
      intro d hdm
      have hl := lev d hdm
      unfold pushM
      split
      · rename_i hm
        by_cases hd0 : d = (a, here)
        · subst hd0
          simp only [↓reduceIte] at hl ⊢
          have hc' : c = if 0 ≤ f (a, here) then 1 else -1 := by
            rcases mem_fares.mp hc with z | z
            · exact z.2
            · exact absurd z.1 (hD.one _ hm)
          subst hc'
          revert hl ht
          split <;> split <;> split <;> split <;> intros <;> omega
        · simp only [if_neg hd0]; exact hl
      · rename_i hm
        have hm' := hd.resolve_left hm
        by_cases hd0 : d = (here, a)
        · subst hd0
          simp only [↓reduceIte] at hl ⊢
          have hc' : c = if f (here, a) ≤ 0 then 1 else -1 := by
            rcases mem_fares.mp hc with z | z
            · exact absurd z.1 hm
            · exact z.2
          subst hc'
          revert hl ht
          split <;> split <;> split <;> split <;> intros <;> omega
        · simp only [if_neg hd0]; exact hl
    · obtain ⟨c', hc', ht'⟩ := tight w (List.mem_cons_of_mem _ hw) u eu
      have hwn : w ≠ here := fun z => hfresh (z ▸ hw)
      have hun : u ≠ here := fun z => hfresh (z ▸ ch'.next w hw u eu)
      have same : ∀ d : Nat × Nat, d.1 ≠ here → d.2 ≠ here → pushM D f a here d = f d := fun d h1 h2 => by
        unfold pushM
        split
        · exact if_neg fun z => h2 (by rw [z])
        · exact if_neg fun z => h1 (by rw [z])
      refine ⟨c', ?_, ht'⟩
      rw [mem_fares] at hc' ⊢
      rw [same (u, w) hun hwn, same (w, u) hwn hun]
      exact hc'
theorem move_spec {D : List (Nat × Nat)} {n : Nat} (hD : DoorsFit D n) {came : Nat → Option Nat} {F : Nat → Int} {start : Nat} : ∀ (m here : Nat) (l : List Nat) (f : Fl), MoveOk D came F start here l f → l.length ≤ m →
    Lev D (moveM D came start m here f) F ∧ ∀ v, net D (moveM D came start m here f) v = net D f v + (if v = start then 1 else 0) - (if v = here then 1 else 0)
  | 0, here, l, f, h, hl => by
    have := h.chain.head
    rw [List.eq_nil_of_length_eq_zero (by omega : l.length = 0)] at this
    cases this
  | m + 1, here, l, f, h, hl => by
    unfold moveM
    split
    · rename_i e
      subst e
      exact ⟨h.lev, fun v => by split <;> omega⟩
    · rename_i hne
      obtain ⟨a, l', e, rfl, hd, h'⟩ := h.step hD hne
      rw [e]
      simp only []
      rw [List.length_cons] at hl
      obtain ⟨h1, h2⟩ := move_spec hD m a l' _ h' (by omega)
      refine ⟨h1, fun v => ?_⟩
      rw [h2, net_push hD f hd]
      omega

/-! ### all counts moved -/
structure SInv (D : List (Nat × Nat)) (n : Nat) (rest0 rest : List Int) (f : Fl) : Prop where
  len : rest.length = n + 1
  sum : rest.sum = 0
  lev : ∃ p, Lev D f p
  bal : ∀ v, v ≤ n → rest.getD v 0 + net D f v = rest0.getD v 0
def endOf (rest : List Int) : Nat := rest.findIdx fun x => decide (x < 0)
def shiftM (rest : List Int) (s e : Nat) : List Int := (rest.set s (rest.getD s 0 - 1)).set e ((rest.set s (rest.getD s 0 - 1)).getD e 0 + 1)
def turnM (D : List (Nat × Nat)) (n s : Nat) (st : List Int × Fl) : List Int × Fl :=
  (shiftM st.1 s (endOf st.1), moveM D (reachM D st.2 n s).came s (n + 2) (endOf st.1) st.2)
def settleAt (D : List (Nat × Nat)) (n s : Nat) : Nat → List Int × Fl → List Int × Fl
  | 0, st => st
  | m + 1, st => if 0 < st.1.getD s 0 then settleAt D n s m (turnM D n s st) else st
def settleM (D : List (Nat × Nat)) (n : Nat) (st : List Int × Fl) : List Int × Fl := (List.range (n + 1)).foldl (fun st s => settleAt D n s (st.1.getD s 0).toNat st) st
theorem sum_set : ∀ (l : List Int) (i : Nat) (x : Int), i < l.length → (l.set i x).sum = l.sum + x - l.getD i 0
  | [], _, _, h => by simp at h
  | y :: r, 0, x, _ => by simp [List.set]; omega
  | y :: r, i + 1, x, h => by
    have := sum_set r i x (by simpa using h)
    simp only [List.set_cons_succ, List.sum_cons, List.getD_cons_succ]
    omega
theorem sum_neg_mem : ∀ (l : List Int), l.sum ≤ 0 → (∃ i, 0 < l.getD i 0) → ∃ x, x ∈ l ∧ x < 0 := by
  intro l hs ⟨i, hi⟩
  apply Classical.byContradiction
  intro hno
  have hall : ∀ x, x ∈ l → 0 ≤ x := fun x hx => Int.not_lt.mp fun z => hno ⟨x, hx, z⟩
  have : ∀ (l : List Int), (∀ x, x ∈ l → 0 ≤ x) → ∀ i, l.getD i 0 ≤ l.sum ∧ 0 ≤ l.sum := by
    intro l
    induction l with
    | nil => intro _ i; simp
    | cons y r ih =>
      intro h i
      have h1 := h y List.mem_cons_self
      have h2 := ih fun x hx => h x (List.mem_cons_of_mem _ hx)
      cases i with
      | zero => have := (h2 0).2; simp only [List.getD_cons_zero, List.sum_cons]; omega
      | succ i => have := h2 i; simp only [List.getD_cons_succ, List.sum_cons]; omega
  have := (this l hall i).1
  omega
theorem endOf_spec {rest : List Int} (h : ∃ x, x ∈ rest ∧ x < 0) : endOf rest < rest.length ∧ rest.getD (endOf rest) 0 < 0 := by
  obtain ⟨x, hx, hn⟩ := h
  unfold endOf
  have hl : rest.findIdx (fun x => decide (x < 0)) < rest.length := List.findIdx_lt_length_of_exists ⟨x, hx, decide_eq_true hn⟩
  refine ⟨hl, ?_⟩
  have := List.findIdx_getElem (w := hl)
  rw [decide_eq_true_eq] at this
  simp only [List.getD]
  rw [List.getElem?_eq_getElem hl]
  exact this
theorem getD_set (l : List Int) (i j : Nat) (x : Int) (hi : i < l.length) : (l.set i x).getD j 0 = if j = i then x else l.getD j 0 := by
  simp only [List.getD, List.getElem?_set]
  by_cases h : i = j
  · subst h; simp [hi]
  · rw [if_neg h, if_neg (Ne.symm h)]
/-- what the search brings: the way from the start to any place -/
theorem reach_ok {D : List (Nat × Nat)} {n : Nat} (hD : DoorsFit D n) {f : Fl} (hp : ∃ p, Lev D f p) {s e : Nat} (hs : s ≤ n) (he : e ≤ n) :
    ∃ F l, MoveOk D (reachM D f n s).came F s e l f ∧ l.length ≤ n + 1 := by
  obtain ⟨p, hp⟩ := hp
  obtain ⟨⟨R, k, j⟩, sat⟩ := bf_rest (fares_ne hD f) (farAt s) hp (fares_in hD f) (n := n + 1) (by omega) (by simp)
  have jf : JInv (fares D f) (farAt s) (reachM D f n s) R k := j
  have sat : ∀ e, e ∈ fares D f → Sat (reachM D f n s).far e := sat
  -- the start has come from nowhere, and stands at nought
  have chains : ∀ v, ∃ l, Chain (reachM D f n s).came v l := bf_chain0 (fares_ne hD f) (farAt s) hp (n + 1)
  have rootS : ∀ v, (reachM D f n s).came v = none → (reachM D f n s).far v ≠ none → v = s := fun v e hf => by
    have := (jf.none_ v e).2
    rw [this] at hf
    unfold farAt at hf
    by_cases h : v = s
    · exact h
    · rw [if_neg h] at hf; exact absurd rfl hf
  have farOf : ∀ v u, (reachM D f n s).came v = some u → (reachM D f n s).far u ≠ none ∧ (reachM D f n s).far v ≠ none := fun v u e => by
    obtain ⟨c, a, b, _, h1, h2, _⟩ := jf.camE v u e
    exact ⟨by rw [h1]; simp, by rw [h2]; simp⟩
  have rootL : ∀ v l, Chain (reachM D f n s).came v l → (reachM D f n s).far v ≠ none → ∀ w, w ∈ l → (reachM D f n s).came w = none → w = s := by
    intro v l c
    induction c with
    | root e => intro hf w hw _; rw [List.mem_singleton.mp hw]; exact rootS _ e hf
    | step e _ ih =>
      intro hf w hw ew
      rcases List.mem_cons.mp hw with rfl | hw
      · rw [e] at ew; cases ew
      · exact ih (farOf _ _ e).1 w hw ew
  -- the start's own chain has a root with a fare: the start
  have cs : (reachM D f n s).came s = none := by
    cases e : (reachM D f n s).came s with
    | none => rfl
    | some u =>
      exfalso
      obtain ⟨l, c⟩ := chains s
      have hr := rootL s l c (farOf s u e).2
      -- levels fall along the chain, and the start's own is the lowest at the root
      have low : ∀ v l, Chain (reachM D f n s).came v l → (∀ w, w ∈ l → (reachM D f n s).came w = none → w = s) → ∃ r, r ∈ l ∧ (reachM D f n s).came r = none := by
        intro v l c
        induction c with
        | root e => intro _; exact ⟨_, List.mem_cons_self, e⟩
        | step e _ ih => intro h; obtain ⟨r, hr, er⟩ := ih fun w hw => h w (List.mem_cons_of_mem _ hw); exact ⟨r, List.mem_cons_of_mem _ hr, er⟩
      obtain ⟨r, hr1, hr2⟩ := low s l c hr
      have := hr r hr1 hr2
      rw [this, e] at hr2
      cases hr2
  have all : ∀ v, v ≤ n → (reachM D f n s).far v ≠ none := by
    intro v hv
    refine hD.conn (fun v => (reachM D f n s).far v ≠ none) (fun d hd => ?_) s v hs hv ?_
    · constructor
      · intro h
        cases e : (reachM D f n s).far d.1 with
        | none => exact absurd e h
        | some a =>
          obtain ⟨b, hb, _⟩ := sat (d.1, d.2, _) (mem_fares.mpr (.inl ⟨hd, rfl⟩)) a e
          simp only [] at hb
          rw [hb]; simp
      · intro h
        cases e : (reachM D f n s).far d.2 with
        | none => exact absurd e h
        | some a =>
          obtain ⟨b, hb, _⟩ := sat (d.2, d.1, _) (mem_fares.mpr (.inr ⟨hd, rfl⟩)) a e
          simp only [] at hb
          rw [hb]; simp
    · rw [(jf.none_ s cs).2]
      simp [farAt]
  obtain ⟨l, c⟩ := chains e
  refine ⟨fun v => ((reachM D f n s).far v).getD 0, l, ⟨c, rootL e l c (all e he), cs, fun g hg => ?_, fun w hw u eu => ?_⟩, ?_⟩
  · obtain ⟨h1, h2⟩ := fares_in hD f g hg
    have h1 := List.mem_range.mp h1
    cases e1 : (reachM D f n s).far g.1 with
    | none => exact absurd e1 (all _ (by omega))
    | some a =>
      obtain ⟨b, hb, le⟩ := sat g hg a e1
      rw [hb]
      exact le
  · obtain ⟨c', a, b, m, h1, h2, h3⟩ := jf.camE w u eu
    refine ⟨c', m, ?_⟩
    simp only [h1, h2, Option.getD_some]
    exact h3
  · have := c.nodup.length_le_of_subset fun x hx => c.in_ jf (fares_in hD f) (List.mem_range.mpr (by omega)) x hx
    simpa using this
theorem SInv.turn {D : List (Nat × Nat)} {n : Nat} (hD : DoorsFit D n) {rest0 rest : List Int} {f : Fl} (h : SInv D n rest0 rest f) {s : Nat} (hs : s ≤ n) (hp : 0 < rest.getD s 0) :
    SInv D n rest0 (turnM D n s (rest, f)).1 (turnM D n s (rest, f)).2 ∧ (turnM D n s (rest, f)).1.getD s 0 = rest.getD s 0 - 1 ∧ endOf rest < n + 1 ∧ rest.getD (endOf rest) 0 < 0 ∧
      (∀ i, i ≠ s → rest.getD i 0 ≤ 0 → (turnM D n s (rest, f)).1.getD i 0 ≤ 0) := by
  obtain ⟨h1, h2⟩ := endOf_spec (sum_neg_mem rest (by rw [h.sum]; exact Int.le_refl _) ⟨s, hp⟩)
  rw [h.len] at h1
  have hse : endOf rest ≠ s := fun e => by rw [e] at h2; omega
  obtain ⟨F, l, mo, hl⟩ := reach_ok hD h.lev hs (by omega : endOf rest ≤ n)
  obtain ⟨m1, m2⟩ := move_spec hD (n + 2) _ l f mo (by omega)
  have g : ∀ i, (shiftM rest s (endOf rest)).getD i 0 = rest.getD i 0 - (if i = s then 1 else 0) + (if i = endOf rest then 1 else 0) := fun i => by
    unfold shiftM
    rw [getD_set _ _ _ _ (by rw [List.length_set, h.len]; exact h1), getD_set _ _ _ _ (by rw [h.len]; omega), getD_set _ _ _ _ (by rw [h.len]; omega), if_neg hse]
    by_cases e1 : i = endOf rest
    · rw [if_pos e1, if_pos e1, if_neg (fun z => hse (e1.symm.trans z)), e1]; omega
    · rw [if_neg e1, if_neg e1]
      by_cases e2 : i = s
      · rw [if_pos e2, if_pos e2, e2]; omega
      · rw [if_neg e2, if_neg e2]; omega
  refine ⟨⟨?_, ?_, ⟨F, m1⟩, fun v hv => ?_⟩, ?_, h1, h2, fun i hi hle => ?_⟩
  · simp only [turnM, shiftM, List.length_set, h.len]
  · show (shiftM rest s (endOf rest)).sum = 0
    unfold shiftM
    rw [sum_set _ _ _ (by rw [List.length_set, h.len]; exact h1), sum_set _ _ _ (by rw [h.len]; omega), h.sum]
    omega
  · show (shiftM rest s (endOf rest)).getD v 0 + net D (moveM D (reachM D f n s).came s (n + 2) (endOf rest) f) v = _
    rw [g, m2, ← h.bal v hv]
    omega
  · show (shiftM rest s (endOf rest)).getD s 0 = _
    rw [g, if_pos rfl, if_neg (Ne.symm hse)]
    omega
  · show (shiftM rest s (endOf rest)).getD i 0 ≤ 0
    rw [g, if_neg hi]
    by_cases e1 : i = endOf rest
    · rw [if_pos e1, e1]; omega
    · rw [if_neg e1]; omega
theorem settleAt_spec {D : List (Nat × Nat)} {n : Nat} (hD : DoorsFit D n) {rest0 : List Int} {s : Nat} (hs : s ≤ n) : ∀ (m : Nat) (st : List Int × Fl), SInv D n rest0 st.1 st.2 → (st.1.getD s 0).toNat ≤ m →
    SInv D n rest0 (settleAt D n s m st).1 (settleAt D n s m st).2 ∧ (settleAt D n s m st).1.getD s 0 ≤ 0 ∧ ∀ i, i ≠ s → st.1.getD i 0 ≤ 0 → (settleAt D n s m st).1.getD i 0 ≤ 0
  | 0, st, h, hm => ⟨h, by show st.1.getD s 0 ≤ 0; omega, fun i _ z => z⟩
  | m + 1, st, h, hm => by
    unfold settleAt
    split
    · rename_i hp
      obtain ⟨h1, h2, _, _, h3⟩ := h.turn hD hs hp
      have h2' : (turnM D n s st).1.getD s 0 = st.1.getD s 0 - 1 := h2
      obtain ⟨i1, i2, i3⟩ := settleAt_spec hD hs m (turnM D n s st) h1 (by rw [h2']; omega)
      exact ⟨i1, i2, fun i hi z => i3 i hi (h3 i hi z)⟩
    · rename_i hp
      exact ⟨h, by omega, fun i _ z => z⟩
theorem settle_steps {D : List (Nat × Nat)} {n : Nat} (hD : DoorsFit D n) {rest0 : List Int} (st0 : List Int × Fl) (h0 : SInv D n rest0 st0.1 st0.2) : ∀ k, k ≤ n + 1 →
    SInv D n rest0 ((List.range k).foldl (fun st s => settleAt D n s (st.1.getD s 0).toNat st) st0).1 ((List.range k).foldl (fun st s => settleAt D n s (st.1.getD s 0).toNat st) st0).2 ∧
      ∀ i, i < k → ((List.range k).foldl (fun st s => settleAt D n s (st.1.getD s 0).toNat st) st0).1.getD i 0 ≤ 0
  | 0, _ => ⟨h0, fun i h => absurd h (Nat.not_lt_zero i)⟩
  | k + 1, hk => by
    obtain ⟨h1, h2⟩ := settle_steps hD st0 h0 k (by omega)
    rw [List.range_succ, List.foldl_append]
    obtain ⟨i1, i2, i3⟩ := settleAt_spec hD (s := k) (by omega) _ _ h1 (Nat.le_refl _)
    refine ⟨i1, fun i hi => ?_⟩
    by_cases e : i = k
    · rw [e]; exact i2
    · exact i3 i e (h2 i (by omega))
theorem sum_zero_all : ∀ (l : List Int), l.sum = 0 → (∀ i, i < l.length → l.getD i 0 ≤ 0) → ∀ i, l.getD i 0 = 0 := by
  have go : ∀ (l : List Int), (∀ i, i < l.length → l.getD i 0 ≤ 0) → l.sum ≤ 0 ∧ (0 ≤ l.sum → ∀ i, l.getD i 0 = 0) := by
    intro l
    induction l with
    | nil => intro _; exact ⟨Int.le_refl _, fun _ i => by simp⟩
    | cons y r ih =>
      intro h
      have h0 := h 0 (by simp)
      simp only [List.getD_cons_zero] at h0
      obtain ⟨i1, i2⟩ := ih fun i hi => by have := h (i + 1) (by simpa using hi); simpa using this
      rw [List.sum_cons]
      refine ⟨by omega, fun hz i => ?_⟩
      cases i with
      | zero => simp only [List.getD_cons_zero]; omega
      | succ i => simp only [List.getD_cons_succ]; exact i2 (by omega) i
  intro l hs h
  exact (go l h).2 (by omega)
/-- behind all moves the flow brings what each place had -/
theorem settle_ok {D : List (Nat × Nat)} {n : Nat} (hD : DoorsFit D n) {rest0 : List Int} (st0 : List Int × Fl) (h0 : SInv D n rest0 st0.1 st0.2) :
    (∃ p, Lev D (settleM D n st0).2 p) ∧ ∀ v, v ≤ n → net D (settleM D n st0).2 v = rest0.getD v 0 := by
  obtain ⟨h, hz⟩ := settle_steps hD st0 h0 (n + 1) (Nat.le_refl _)
  have h : SInv D n rest0 (settleM D n st0).1 (settleM D n st0).2 := h
  have hz : ∀ i, i < n + 1 → (settleM D n st0).1.getD i 0 ≤ 0 := hz
  refine ⟨h.lev, fun v hv => ?_⟩
  have := sum_zero_all _ h.sum (fun i hi => hz i (by rw [h.len] at hi; exact hi)) v
  have b := h.bal v hv
  omega

/-! ### the weight is the greatest worth -/
def restOf (counts : List Int) : List Int := counts ++ [0 - counts.sum]
def weightOf (D : List (Nat × Nat)) (f : Fl) : Int := (D.map fun d => ((f d).natAbs : Int)).sum
theorem sum_restOf (counts : List Int) : (restOf counts).sum = 0 := by
  unfold restOf
  rw [List.sum_append, List.sum_cons, List.sum_nil]
  omega
theorem settle_start {D : List (Nat × Nat)} (counts : List Int) : SInv D counts.length (restOf counts) (restOf counts) fun _ => 0 := by
  refine ⟨by simp [restOf], sum_restOf counts, ⟨fun _ => 0, ?_⟩, fun v _ => ?_⟩
  · rw [lev_iff]
    intro d _
    simp
  · have : net D (fun _ => 0) v = 0 := sum_map_zero fun d _ => by split <;> split <;> rfl
    omega
theorem sum_range_at {x : Nat → Int} {a : Nat} : ∀ {m : Nat}, a < m → ((List.range m).map fun v => if a = v then x v else 0).sum = x a := fun {m} h => by
  have := sum_at (a := a) (x := x) List.nodup_range (List.mem_range.mpr h)
  rw [← this]
  congr 1
  exact List.map_congr_left fun v _ => by
    by_cases e : a = v
    · rw [if_pos e, if_pos e.symm]
    · rw [if_neg e, if_neg (Ne.symm e)]
theorem net_worth {n : Nat} (q : Nat → Int) (f : Fl) : ∀ {D : List (Nat × Nat)}, (∀ d, d ∈ D → d.1 ≤ n ∧ d.2 ≤ n) → ((List.range (n + 1)).map fun v => net D f v * q v).sum = (D.map fun d => f d * (q d.1 - q d.2)).sum
  | [], _ => by
    rw [sum_map_zero fun v _ => by simp [net]]
    rfl
  | d :: D, h => by
    have ih := net_worth q f (D := D) fun e he => h e (List.mem_cons_of_mem _ he)
    have h0 := h d List.mem_cons_self
    rw [List.map_cons, List.sum_cons, ← ih]
    have e1 := sum_range_at (x := fun v => f d * q v) (a := d.1) (m := n + 1) (by omega)
    have e2 := sum_range_at (x := fun v => f d * q v) (a := d.2) (m := n + 1) (by omega)
    rw [Int.mul_sub, ← e1, ← e2]
    have e3 : ∀ a b : Int, a - b = a + - b := fun a b => by omega
    rw [e3, ← sum_map_neg, ← sum_map_add, ← sum_map_add]
    congr 1
    refine List.map_congr_left fun v _ => ?_
    unfold net
    rw [List.map_cons, List.sum_cons, Int.add_mul, Int.sub_mul]
    split <;> split <;> (try simp only [Int.zero_mul]) <;> omega
theorem worth_rest (counts : List Int) (q : Nat → Int) : ((List.range (counts.length + 1)).map fun v => (restOf counts).getD v 0 * q v).sum = worthOf counts q - counts.sum * q counts.length := by
  rw [List.range_succ, List.map_append, List.sum_append]
  unfold worthOf restOf
  have e : ((List.range counts.length).map fun v => (counts ++ [0 - counts.sum]).getD v 0 * q v) = (List.range counts.length).map fun v => counts.getD v 0 * q v := by
    refine List.map_congr_left fun v hv => ?_
    have hv := List.mem_range.mp hv
    simp only [List.getD]
    rw [List.getElem?_append_left hv]
  rw [e]
  simp only [List.map_cons, List.map_nil, List.sum_cons, List.sum_nil]
  have e2 : (counts ++ [0 - counts.sum]).getD counts.length 0 = 0 - counts.sum := by simp [List.getD]
  rw [e2, Int.sub_mul, Int.zero_mul]
  omega
theorem settle_dual {D : List (Nat × Nat)} {counts : List Int} (hD : DoorsFit D counts.length) : Dual counts D (weightOf D (settleM D counts.length (restOf counts, fun _ => 0)).2) := by
  obtain ⟨⟨p, hp⟩, hn⟩ := settle_ok hD (rest0 := restOf counts) (restOf counts, fun _ => 0) (settle_start counts)
  generalize (settleM D counts.length (restOf counts, fun _ => 0)).2 = f at hp hn
  have hw : ∀ q : Nat → Int, (D.map fun d => f d * (q d.1 - q d.2)).sum = worthOf counts q - counts.sum * q counts.length := fun q => by
    rw [← net_worth q f hD.le, ← worth_rest]
    congr 1
    exact List.map_congr_left fun v hv => by rw [hn v (by have := List.mem_range.mp hv; omega)]
  constructor
  · refine ⟨fun v => p counts.length - p v, ⟨by omega, fun d hd => ?_⟩, ?_⟩
    · have := lev_iff.mp hp d hd
      revert this
      show _ → (p counts.length - p d.1) - (p counts.length - p d.2) ≤ 1 ∧ (p counts.length - p d.2) - (p counts.length - p d.1) ≤ 1
      split <;> split <;> intro this <;> omega
    · have := hw fun v => p counts.length - p v
      simp only [Int.sub_self, Int.mul_zero, Int.sub_zero] at this
      rw [← this]
      unfold weightOf
      congr 1
      refine List.map_congr_left fun d hd => ?_
      have hl := lev_iff.mp hp d hd
      have e : p counts.length - p d.1 - (p counts.length - p d.2) = p d.2 - p d.1 := by omega
      rw [e]
      rcases Int.lt_trichotomy (f d) 0 with z | z | z
      · rw [if_neg (by omega), if_pos (by omega)] at hl
        have : p d.2 - p d.1 = -1 := by omega
        rw [this]; omega
      · rw [z]; simp
      · rw [if_pos (by omega), if_neg (by omega)] at hl
        have : p d.2 - p d.1 = 1 := by omega
        rw [this]; omega
  · intro q l
    have := hw q
    rw [l.out, Int.mul_zero, Int.sub_zero] at this
    rw [← this]
    refine sum_map_le fun d hd => ?_
    obtain ⟨h1, h2⟩ := l.door d hd
    have h3 : q d.1 - q d.2 = -1 ∨ q d.1 - q d.2 = 0 ∨ q d.1 - q d.2 = 1 := by omega
    rcases h3 with e | e | e <;> rw [e] <;> omega
end Co

set_option maxRecDepth 100000
/-! Part G: doors of the web; floods; rooms; when there is a fill. -/
namespace Co
open Ch

/-! ### doors -/
def flanks (s : Sq × Sq) : Sq × Sq :=
  if s.2.1 = s.1.1 then ((s.1.1, s.1.2), (s.1.1 - 1, s.1.2)) else ((s.1.1, s.1.2 - 1), (s.1.1, s.1.2))
def doorOf (pl : Sq → Option Nat) (n : Nat) (s : Sq × Sq) : Nat × Nat := (faceOf pl n (flanks s).1, faceOf pl n (flanks s).2)
def doorItem (pl : Sq → Option Nat) (n : Nat) (D : List ((Nat × Nat) × (Sq × Sq))) (s : Sq × Sq) : List ((Nat × Nat) × (Sq × Sq)) :=
  if (doorOf pl n s).1 ≠ (doorOf pl n s).2 ∧ doorOf pl n s ∉ D.map (·.1) ∧ ((doorOf pl n s).2, (doorOf pl n s).1) ∉ D.map (·.1) then D ++ [(doorOf pl n s, s)] else D
def doorsM (c : Ch) (pl : Sq → Option Nat) (n : Nat) : List ((Nat × Nat) × (Sq × Sq)) := c.sidesOf.foldl (doorItem pl n) []
structure DInv (pl : Sq → Option Nat) (n : Nat) (pre : List (Sq × Sq)) (D : List (Nat × Nat)) : Prop where
  nodup : D.Nodup
  ne : ∀ d, d ∈ D → d.1 ≠ d.2
  one : ∀ d, d ∈ D → (d.2, d.1) ∉ D
  from_ : ∀ d, d ∈ D → ∃ s, s ∈ pre ∧ d = doorOf pl n s
  all : ∀ s, s ∈ pre → (doorOf pl n s).1 = (doorOf pl n s).2 ∨ doorOf pl n s ∈ D ∨ ((doorOf pl n s).2, (doorOf pl n s).1) ∈ D
theorem DInv.step {pl : Sq → Option Nat} {n : Nat} {pre : List (Sq × Sq)} {D : List ((Nat × Nat) × (Sq × Sq))} (h : DInv pl n pre (D.map (·.1))) (s : Sq × Sq) : DInv pl n (pre ++ [s]) ((doorItem pl n D s).map (·.1)) := by
  unfold doorItem
  split
  · rename_i hc
    obtain ⟨h1, h2, h3⟩ := hc
    rw [List.map_append, List.map_cons, List.map_nil]
    refine ⟨?_, fun d hd => ?_, fun d hd hm => ?_, fun d hd => ?_, fun s' hs => ?_⟩
    · rw [List.nodup_append]
      exact ⟨h.nodup, by simp, fun a ha b hb e => by
        have e2 : a = doorOf pl n s := e.trans (List.mem_singleton.mp hb)
        exact h2 (by rw [← e2]; exact ha)⟩
    · rcases List.mem_append.mp hd with hd | hd
      · exact h.ne d hd
      · rw [List.mem_singleton.mp hd]; exact h1
    · rcases List.mem_append.mp hd with hd | hd
      · rcases List.mem_append.mp hm with hm | hm
        · exact h.one d hd hm
        · have e := List.mem_singleton.mp hm
          have e1 : d.2 = (doorOf pl n s).1 := congrArg Prod.fst e
          have e2 : d.1 = (doorOf pl n s).2 := congrArg Prod.snd e
          exact h3 (by rw [← e1, ← e2]; exact hd)
      · rw [List.mem_singleton.mp hd] at hm
        rcases List.mem_append.mp hm with hm | hm
        · exact h3 hm
        · have e := List.mem_singleton.mp hm
          exact h1 (congrArg Prod.snd e)
    · rcases List.mem_append.mp hd with hd | hd
      · obtain ⟨s', hs, e⟩ := h.from_ d hd
        exact ⟨s', List.mem_append_left _ hs, e⟩
      · exact ⟨s, List.mem_append_right _ (List.mem_singleton.mpr rfl), List.mem_singleton.mp hd⟩
    · rcases List.mem_append.mp hs with hs | hs
      · rcases h.all s' hs with z | z | z
        · exact .inl z
        · exact .inr (.inl (List.mem_append_left _ z))
        · exact .inr (.inr (List.mem_append_left _ z))
      · rw [List.mem_singleton.mp hs]
        exact .inr (.inl (List.mem_append_right _ (List.mem_singleton.mpr rfl)))
  · rename_i hc
    refine ⟨h.nodup, h.ne, h.one, fun d hd => ?_, fun s' hs => ?_⟩
    · obtain ⟨s', hs, e⟩ := h.from_ d hd
      exact ⟨s', List.mem_append_left _ hs, e⟩
    · rcases List.mem_append.mp hs with hs | hs
      · exact h.all s' hs
      · rw [List.mem_singleton.mp hs]
        by_cases h1 : (doorOf pl n s).1 = (doorOf pl n s).2
        · exact .inl h1
        · by_cases h2 : doorOf pl n s ∈ D.map (·.1)
          · exact .inr (.inl h2)
          · by_cases h3 : ((doorOf pl n s).2, (doorOf pl n s).1) ∈ D.map (·.1)
            · exact .inr (.inr h3)
            · exact absurd ⟨h1, h2, h3⟩ hc
theorem DInv.steps {pl : Sq → Option Nat} {n : Nat} : ∀ {post pre : List (Sq × Sq)} {D : List ((Nat × Nat) × (Sq × Sq))}, DInv pl n pre (D.map (·.1)) → DInv pl n (pre ++ post) ((post.foldl (doorItem pl n) D).map (·.1))
  | [], pre, D, h => by rw [List.append_nil]; exact h
  | s :: post, pre, D, h => by
    have := DInv.steps (post := post) (h.step s)
    rw [List.append_assoc] at this
    exact this
theorem doors_inv (c : Ch) (pl : Sq → Option Nat) (n : Nat) : DInv pl n c.sidesOf ((doorsM c pl n).map (·.1)) := by
  have h0 : DInv pl n [] (([] : List ((Nat × Nat) × (Sq × Sq))).map (·.1)) := ⟨List.nodup_nil, fun d h => (nomatch h), fun d h => (nomatch h), fun d h => (nomatch h), fun d h => (nomatch h)⟩
  have := h0.steps (post := c.sidesOf)
  rwa [List.nil_append] at this
theorem mem_sides {c : Ch} {p : Sq × Sq} : p ∈ c.sidesOf ↔ c.side p = true ∧ (p.2 = (p.1.1, p.1.2 + 1) ∨ p.2 = (p.1.1 + 1, p.1.2)) := by
  unfold sidesOf
  rw [List.mem_flatMap]
  constructor
  · rintro ⟨one, h1, h2⟩
    obtain ⟨o, ho, rfl⟩ := List.mem_map.mp h2
    rw [List.mem_filter] at ho
    refine ⟨?_, ?_⟩
    · unfold side
      rw [Bool.and_eq_true]
      exact ⟨mem_toldSq.mp h1, ho.2⟩
    · have := ho.1
      simp only [List.mem_cons, List.not_mem_nil, or_false] at this
      exact this
  · rintro ⟨h1, h2⟩
    unfold side at h1
    rw [Bool.and_eq_true] at h1
    refine ⟨p.1, mem_toldSq.mpr h1.1, List.mem_map.mpr ⟨p.2, List.mem_filter.mpr ⟨?_, h1.2⟩, rfl⟩⟩
    simp only [List.mem_cons, List.not_mem_nil, or_false]
    exact h2
section
variable {c : Ch} {E : List (List Sq)} {pl : Sq → Option Nat}
theorem face_le (h : EyesOk c E pl) (k : Sq) : faceOf pl E.length k ≤ E.length := by
  unfold faceOf
  cases e : pl k with
  | none => exact Nat.le_refl _
  | some i => exact Nat.le_of_lt (h.pl_mem e).2
theorem face_out (h : EyesOk c E pl) {k : Sq} (hk : k ∉ c.corners) : faceOf pl E.length k = E.length := by
  unfold faceOf
  cases e : pl k with
  | none => rfl
  | some i => exact absurd (h.pl_mem e).1.1 hk
theorem doors_ok (h : EyesOk c E pl) : DoorsOk c pl E.length ((doorsM c pl E.length).map (·.1)) := by
  have dv := doors_inv c pl E.length
  constructor
  · intro d hd
    obtain ⟨s, hs, e⟩ := dv.from_ d hd
    have hne := dv.ne d hd
    obtain ⟨hside, hdir⟩ := mem_sides.mp hs
    obtain ⟨⟨r, q⟩, o⟩ := s
    simp only [] at hdir
    have hback : c.side (o, (r, q)) = true := by rw [← hside]; exact side_swap c _ _
    rcases hdir with rfl | rfl
    · -- beside one another in a row
      have ed : d = (faceOf pl E.length (r, q), faceOf pl E.length (r - 1, q)) := by rw [e]; simp [doorOf, flanks]
      by_cases h1 : (r, q) ∈ c.corners
      · refine ⟨(r, q), h1, (((r, q), (r, q + 1)), (r - 1, q)), by simp [across], hside, .inl ?_⟩
        rw [ed]; exact ⟨rfl, rfl⟩
      · have h2 : (r - 1, q) ∈ c.corners := Decidable.not_not.mp fun h2 => by
          rw [ed] at hne
          exact hne ((face_out h h1).trans (face_out h h2).symm)
        refine ⟨(r - 1, q), h2, (((r, q + 1), (r, q)), (r, q)), ?_, hback, .inr ?_⟩
        · simp [across]
        · rw [ed]; exact ⟨rfl, rfl⟩
    · have ed : d = (faceOf pl E.length (r, q - 1), faceOf pl E.length (r, q)) := by
        rw [e]
        simp only [doorOf, flanks]
        rw [if_neg (by omega)]
      by_cases h1 : (r, q - 1) ∈ c.corners
      · refine ⟨(r, q - 1), h1, (((r, q), (r + 1, q)), (r, q)), ?_, hside, .inl ?_⟩
        · simp [across]
        · rw [ed]; exact ⟨rfl, rfl⟩
      · have h2 : (r, q) ∈ c.corners := Decidable.not_not.mp fun h2 => by
          rw [ed] at hne
          exact hne ((face_out h h1).trans (face_out h h2).symm)
        refine ⟨(r, q), h2, (((r + 1, q), (r, q)), (r, q - 1)), by simp [across], hback, .inr ?_⟩
        rw [ed]; exact ⟨rfl, rfl⟩
  · intro k hk x hx hs
    obtain ⟨r, q⟩ := k
    have row : ∀ r q : Int, c.side ((r, q), (r, q + 1)) = true → faceOf pl E.length (r, q) = faceOf pl E.length (r - 1, q) ∨ (faceOf pl E.length (r, q), faceOf pl E.length (r - 1, q)) ∈ (doorsM c pl E.length).map (·.1) ∨ (faceOf pl E.length (r - 1, q), faceOf pl E.length (r, q)) ∈ (doorsM c pl E.length).map (·.1) := fun r q hs => by
      have := dv.all ((r, q), (r, q + 1)) (mem_sides.mpr ⟨hs, .inl rfl⟩)
      simpa [doorOf, flanks] using this
    have col : ∀ r q : Int, c.side ((r, q), (r + 1, q)) = true → faceOf pl E.length (r, q - 1) = faceOf pl E.length (r, q) ∨ (faceOf pl E.length (r, q - 1), faceOf pl E.length (r, q)) ∈ (doorsM c pl E.length).map (·.1) ∨ (faceOf pl E.length (r, q), faceOf pl E.length (r, q - 1)) ∈ (doorsM c pl E.length).map (·.1) := fun r q hs => by
      have := dv.all ((r, q), (r + 1, q)) (mem_sides.mpr ⟨hs, .inr rfl⟩)
      simp only [doorOf, flanks] at this
      rw [if_neg (by omega)] at this
      exact this
    have flip : ∀ {a b : Nat} {D : List (Nat × Nat)}, (a = b ∨ (a, b) ∈ D ∨ (b, a) ∈ D) → (b = a ∨ (b, a) ∈ D ∨ (a, b) ∈ D) := fun z => z.elim (fun z => .inl z.symm) fun z => .inr z.symm
    simp only [across, List.mem_cons, List.not_mem_nil, or_false] at hx
    rcases hx with rfl | rfl | rfl | rfl
    · exact row r q hs
    · have := col r (q + 1) hs
      rw [show q + 1 - 1 = q by omega] at this
      exact this
    · have := row (r + 1) q (by rw [← hs]; exact side_swap c _ _)
      rw [show r + 1 - 1 = r by omega] at this
      exact flip this
    · exact flip (col r q (by rw [← hs]; exact side_swap c _ _))
theorem doors_fit (h : EyesOk c E pl) : DoorsFit ((doorsM c pl E.length).map (·.1)) E.length := by
  have dv := doors_inv c pl E.length
  have dk := doors_ok h
  refine ⟨dv.nodup, fun d hd => ?_, dv.ne, dv.one, fun S hS a b ha hb sa => ?_⟩
  · obtain ⟨s, _, e⟩ := dv.from_ d hd
    rw [e]
    exact ⟨face_le h _, face_le h _⟩
  · have up : ∀ (m : Nat) (k : Sq), k.1 < m → (S (faceOf pl E.length k) ↔ S E.length) := by
      intro m
      induction m with
      | zero =>
        intro k hk
        rw [face_out h fun hm => by have := (mem_corners.mp hm).1; omega]
      | succ m ih =>
        intro k hk
        by_cases hm : k ∈ c.corners
        · have hx : (((k.1, k.2), (k.1, k.2 + 1)), ((k.1 - 1, k.2) : Sq)) ∈ across k := by simp [across]
          refine Iff.trans ?_ (ih (k.1 - 1, k.2) (by simp only []; omega))
          cases hs : c.side ((k.1, k.2), (k.1, k.2 + 1)) with
          | true =>
            rcases dk.all k hm _ hx hs with e | e | e
            · rw [e]
            · exact hS _ e
            · exact (hS _ e).symm
          | false =>
            have := h.land hm hx hs
            unfold faceOf
            rw [this]
        · rw [face_out h hm]
    have any : ∀ v, v ≤ E.length → (S v ↔ S E.length) := fun v hv => by
      by_cases e : v = E.length
      · rw [e]
      · have hv : v < E.length := by omega
        have hh := face_head h (List.getElem?_eq_getElem hv)
        have := up ((E[v].headD (0, 0)).1.toNat + 1) (E[v].headD (0, 0)) (by omega)
        unfold faceOf at this
        rw [hh] at this
        exact this
    exact (any b hb).mpr ((any a ha).mp sa)
end
/-- the least weight as the program finds it -/
def countsM (c : Ch) : List Int := (eyesOf c).found.map c.countOf
def webDoors (c : Ch) : List ((Nat × Nat) × (Sq × Sq)) := doorsM c (eyesOf c).place (eyesOf c).found.length
def flowM (c : Ch) : Fl := (settleM ((webDoors c).map (·.1)) (countsM c).length (restOf (countsM c), fun _ => 0)).2
def lwM (c : Ch) : Int := weightOf ((webDoors c).map (·.1)) (flowM c)
theorem web_fit (c : Ch) : DoorsFit ((webDoors c).map (·.1)) (countsM c).length := by
  have := doors_fit (eyesOf_ok c)
  unfold webDoors countsM
  rw [List.length_map]
  exact this
theorem lwM_is {c : Ch} (g : c.Good) : IsLW c (lwM c) := by
  have h := settle_dual (D := (webDoors c).map (·.1)) (counts := countsM c) (web_fit c)
  exact lw_of_dual (eyesOf_ok c) (doors_ok (eyesOf_ok c)) (by have := g.lo; omega) h

/-! ### floods -/
def floodItem (c : Ch) (d : Int) (st : List (Sq × Int)) (q : Sq) : List (Sq × Int) :=
  if q ∉ st.map (·.1) ∧ c.sea q = true then st ++ [(q, d + 1)] else st
def floodStep (c : Ch) (st : List (Sq × Int)) (t : Nat) : List (Sq × Int) :=
  match st[t]? with
  | none => st
  | some x => (beside x.1).foldl (floodItem c x.2) st
def flood (c : Ch) (first : Sq) : List (Sq × Int) := (List.range (c.high * c.wide)).foldl (floodStep c) [(first, 0)]
/-- t squares are gone through; of the next, these neighbours -/
structure FInv (c : Ch) (first : Sq) (st : List (Sq × Int)) (t : Nat) (done : List Sq) : Prop where
  nodup : (st.map (·.1)).Nodup
  seas : ∀ x, x ∈ st → c.sea x.1 = true
  start : st[0]? = some (first, 0)
  pos : ∀ x, x ∈ st → 0 ≤ x.2
  mono : ∀ (i j : Nat) (x y : Sq × Int), i ≤ j → st[i]? = some x → st[j]? = some y → x.2 ≤ y.2
  bound : ∀ x, st[t]? = some x → ∀ y, y ∈ st → y.2 ≤ x.2 + 1
  past : ∀ (i : Nat) (x : Sq × Int), i < t → st[i]? = some x → ∀ q, q ∈ beside x.1 → c.sea q = true → ∃ d, (q, d) ∈ st ∧ d ≤ x.2 + 1
  now : ∀ x, st[t]? = some x → ∀ q, q ∈ done → c.sea q = true → ∃ d, (q, d) ∈ st ∧ d ≤ x.2 + 1
  pred : ∀ x, x ∈ st → x = (first, 0) ∨ ∃ y, y ∈ st ∧ x.1 ∈ beside y.1 ∧ x.2 = y.2 + 1
theorem FInv.item {c : Ch} {first : Sq} {st : List (Sq × Int)} {t : Nat} {done : List Sq} (h : FInv c first st t done) {x : Sq × Int} (hx : st[t]? = some x) {q : Sq} (hq : q ∈ beside x.1) :
    FInv c first (floodItem c x.2 st q) t (done ++ [q]) ∧ (floodItem c x.2 st q)[t]? = some x := by
  unfold floodItem
  split
  · rename_i hc
    obtain ⟨hn, hs⟩ := hc
    have hlt : t < st.length := (List.getElem?_eq_some_iff.mp hx).1
    have ht : (st ++ [(q, x.2 + 1)])[t]? = some x := by rw [List.getElem?_append_left hlt]; exact hx
    have old : ∀ i y, (st ++ [(q, x.2 + 1)])[i]? = some y → st[i]? = some y ∨ y = (q, x.2 + 1) := fun i y hy => by
      rw [List.getElem?_append] at hy
      split at hy
      · exact .inl hy
      · exact .inr (List.mem_singleton.mp (List.mem_of_getElem? hy))
    refine ⟨⟨?_, fun y hy => ?_, ?_, fun y hy => ?_, fun i j y z hij hy hz => ?_, fun y hy z hz => ?_, fun i y hi hy p hp hps => ?_, fun y hy p hp hps => ?_, fun y hy => ?_⟩, ht⟩
    · rw [List.map_append, List.nodup_append]
      refine ⟨h.nodup, by simp, fun a ha b hb e => ?_⟩
      have : b = q := by simpa using hb
      rw [this] at e
      exact hn (e ▸ ha)
    · rcases List.mem_append.mp hy with hy | hy
      · exact h.seas y hy
      · rw [List.mem_singleton.mp hy]; exact hs
    · rw [List.getElem?_append_left (by omega)]; exact h.start
    · rcases List.mem_append.mp hy with hy | hy
      · exact h.pos y hy
      · rw [List.mem_singleton.mp hy]
        have := h.pos x (List.mem_of_getElem? hx)
        show 0 ≤ x.2 + 1
        omega
    · rw [List.getElem?_append] at hz
      split at hz
      · rename_i hj
        rw [List.getElem?_append_left (by omega)] at hy
        exact h.mono i j y z hij hy hz
      · have e := List.mem_singleton.mp (List.mem_of_getElem? hz)
        rw [e]
        rcases old i y hy with hy | hy
        · exact h.bound x hx y (List.mem_of_getElem? hy)
        · rw [hy]; exact Int.le_refl _
    · rw [ht] at hy; cases hy
      rcases List.mem_append.mp hz with hz | hz
      · exact h.bound x hx z hz
      · rw [List.mem_singleton.mp hz]; exact Int.le_refl _
    · rw [List.getElem?_append_left (by omega)] at hy
      obtain ⟨d, h1, h2⟩ := h.past i y hi hy p hp hps
      exact ⟨d, List.mem_append_left _ h1, h2⟩
    · rw [ht] at hy; cases hy
      rcases List.mem_append.mp hp with hp | hp
      · obtain ⟨d, h1, h2⟩ := h.now x hx p hp hps
        exact ⟨d, List.mem_append_left _ h1, h2⟩
      · rw [List.mem_singleton.mp hp]
        exact ⟨x.2 + 1, List.mem_append_right _ (List.mem_singleton.mpr rfl), Int.le_refl _⟩
    · rcases List.mem_append.mp hy with hy | hy
      · rcases h.pred y hy with z | ⟨z, h1, h2⟩
        · exact .inl z
        · exact .inr ⟨z, List.mem_append_left _ h1, h2⟩
      · rw [List.mem_singleton.mp hy]
        exact .inr ⟨x, List.mem_append_left _ (List.mem_of_getElem? hx), hq, rfl⟩
  · rename_i hc
    refine ⟨⟨h.nodup, h.seas, h.start, h.pos, h.mono, h.bound, h.past, fun y hy p hp hps => ?_, h.pred⟩, hx⟩
    rcases List.mem_append.mp hp with hp | hp
    · exact h.now y hy p hp hps
    · rw [List.mem_singleton.mp hp] at hps ⊢
      by_cases hm : q ∈ st.map (·.1)
      · obtain ⟨z, hz, rfl⟩ := List.mem_map.mp hm
        exact ⟨z.2, hz, h.bound y hy z hz⟩
      · exact absurd ⟨hm, hps⟩ hc
theorem FInv.items {c : Ch} {first : Sq} {t : Nat} {x : Sq × Int} : ∀ {qs done : List Sq} {st : List (Sq × Int)}, FInv c first st t done → st[t]? = some x → (∀ q, q ∈ qs → q ∈ beside x.1) →
    FInv c first (qs.foldl (floodItem c x.2) st) t (done ++ qs) ∧ (qs.foldl (floodItem c x.2) st)[t]? = some x
  | [], done, st, h, hx, _ => ⟨by rw [List.append_nil]; exact h, hx⟩
  | q :: qs, done, st, h, hx, hq => by
    obtain ⟨h1, h2⟩ := h.item hx (hq q List.mem_cons_self)
    have := FInv.items (qs := qs) h1 h2 fun p hp => hq p (List.mem_cons_of_mem _ hp)
    rw [List.append_assoc] at this
    exact this
theorem FInv.step {c : Ch} {first : Sq} {st : List (Sq × Int)} {t : Nat} (h : FInv c first st t []) : FInv c first (floodStep c st t) (t + 1) [] := by
  unfold floodStep
  cases hx : st[t]? with
  | none =>
    have hl := List.getElem?_eq_none_iff.mp hx
    have no : st[t + 1]? = none := List.getElem?_eq_none (by omega)
    refine ⟨h.nodup, h.seas, h.start, h.pos, h.mono, fun y hy => ?_, fun i y hi hy => ?_, fun y hy => ?_, h.pred⟩
    · rw [no] at hy; cases hy
    · by_cases e : i = t
      · rw [e, hx] at hy; cases hy
      · exact h.past i y (by omega) hy
    · rw [no] at hy; cases hy
  | some x =>
    obtain ⟨g, gx⟩ := FInv.items (qs := beside x.1) h hx fun _ z => z
    simp only [List.nil_append] at g ⊢
    refine ⟨g.nodup, g.seas, g.start, g.pos, g.mono, fun y hy z hz => ?_, fun i y hi hy q hq hs => ?_, fun y hy q hq => (nomatch hq), g.pred⟩
    · have h1 := g.bound x gx z hz
      have h2 := g.mono t (t + 1) x y (by omega) gx hy
      omega
    · by_cases e : i = t
      · subst e
        rw [gx] at hy; cases hy
        exact g.now x gx q hq hs
      · exact g.past i y (by omega) hy q hq hs
theorem flood_steps {c : Ch} {first : Sq} (hf : c.sea first = true) : ∀ k, FInv c first ((List.range k).foldl (floodStep c) [(first, 0)]) k []
  | 0 => by
    refine ⟨by simp, fun x hx => ?_, rfl, fun x hx => ?_, fun i j x y hij hx hy => ?_, fun x hx y hy => ?_, fun i x hi => absurd hi (Nat.not_lt_zero i), fun x hx q hq => (nomatch hq), fun x hx => .inl (List.mem_singleton.mp hx)⟩
    · rw [List.mem_singleton.mp hx]; exact hf
    · rw [List.mem_singleton.mp hx]; exact Int.le_refl _
    · rw [List.mem_singleton.mp (List.mem_of_getElem? hx), List.mem_singleton.mp (List.mem_of_getElem? hy)]
      exact Int.le_refl _
    · have hx : ([((first, 0) : Sq × Int)])[0]? = some x := hx
      cases hx
      have hy : y ∈ [((first, 0) : Sq × Int)] := hy
      rw [List.mem_singleton.mp hy]
      show (0 : Int) ≤ 0 + 1
      omega
  | k + 1 => by
    rw [List.range_succ, List.foldl_append]
    exact (flood_steps hf k).step
structure IsDist (c : Ch) (first : Sq) (far : List (Sq × Int)) : Prop where
  nodup : (far.map (·.1)).Nodup
  seas : ∀ x, x ∈ far → c.sea x.1 = true
  start : (first, 0) ∈ far
  pos : ∀ x, x ∈ far → 0 ≤ x.2
  next : ∀ x, x ∈ far → ∀ q, q ∈ beside x.1 → c.sea q = true → ∃ d, (q, d) ∈ far ∧ d ≤ x.2 + 1
  pred : ∀ x, x ∈ far → x = (first, 0) ∨ ∃ y, y ∈ far ∧ x.1 ∈ beside y.1 ∧ x.2 = y.2 + 1
theorem flood_len {c : Ch} {first : Sq} (hf : c.sea first = true) (k : Nat) : ((List.range k).foldl (floodStep c) [(first, 0)]).length ≤ c.high * c.wide := by
  have h := flood_steps hf k
  have := h.nodup.length_le_of_subset (l₂ := c.every) fun s hs => by
    obtain ⟨x, hx, rfl⟩ := List.mem_map.mp hs
    have := h.seas x hx
    unfold Ch.sea at this
    rw [Bool.and_eq_true] at this
    exact mem_every.mpr this.1
  rw [List.length_map] at this
  have e : c.every.length = c.wide * c.high := gridOf_length _ _
  rw [e, Nat.mul_comm] at this
  exact this
theorem flood_ok {c : Ch} {first : Sq} (hf : c.sea first = true) : IsDist c first (flood c first) := by
  have h : FInv c first (flood c first) (c.high * c.wide) [] := flood_steps hf _
  have hl : (flood c first).length ≤ c.high * c.wide := flood_len hf _
  refine ⟨h.nodup, h.seas, List.mem_of_getElem? h.start, h.pos, fun x hx q hq hs => ?_, h.pred⟩
  obtain ⟨i, hi, e⟩ := List.getElem_of_mem hx
  exact h.past i x (by omega) (by rw [List.getElem?_eq_getElem hi, e]) q hq hs
/-- a list of pairs with distinct first places tells one second place -/
theorem keyed {α β : Type} {l : List (α × β)} (h : (l.map (·.1)).Nodup) {a : α} {b b' : β} (h1 : (a, b) ∈ l) (h2 : (a, b') ∈ l) : b = b' := by
  induction l with
  | nil => cases h1
  | cons x r ih =>
    rw [List.map_cons, List.nodup_cons] at h
    rcases List.mem_cons.mp h1 with e1 | m1
    · rcases List.mem_cons.mp h2 with e2 | m2
      · rw [← e1] at e2; cases e2; rfl
      · rw [← e1] at h
        exact absurd (List.mem_map.mpr ⟨_, m2, rfl⟩) h.1
    · rcases List.mem_cons.mp h2 with e2 | m2
      · rw [← e2] at h
        exact absurd (List.mem_map.mpr ⟨_, m1, rfl⟩) h.1
      · exact ih h.2 m1 m2
theorem dist_le {c c' : Ch} {σ : Sq → Sq} (hs : ∀ s, c'.sea (σ s) = c.sea s) (hb : ∀ s q, q ∈ beside s → σ q ∈ beside (σ s)) {first : Sq} {far far' : List (Sq × Int)} (h : IsDist c first far) (h' : IsDist c' (σ first) far') :
    ∀ (n : Nat) (x : Sq × Int), x ∈ far → x.2 ≤ n → ∃ d, (σ x.1, d) ∈ far' ∧ d ≤ x.2 := by
  intro n
  induction n with
  | zero =>
    intro x hx hn
    rcases h.pred x hx with e | ⟨y, hy, _, e⟩
    · rw [e]; exact ⟨0, h'.start, Int.le_refl _⟩
    · have := h.pos y hy; omega
  | succ n ih =>
    intro x hx hn
    rcases h.pred x hx with e | ⟨y, hy, hb', e⟩
    · rw [e]; exact ⟨0, h'.start, Int.le_refl _⟩
    · obtain ⟨d, hd, le⟩ := ih y hy (by omega)
      obtain ⟨d', hd', le'⟩ := h'.next _ hd (σ x.1) (hb _ _ hb') (by rw [hs]; exact h.seas x hx)
      exact ⟨d', hd', by simp only [] at le'; omega⟩
theorem dist_eq {c c' : Ch} {σ τ : Sq → Sq} (hs : ∀ s, c'.sea (σ s) = c.sea s) (hb : ∀ s q, q ∈ beside s → σ q ∈ beside (σ s)) (hb' : ∀ s q, q ∈ beside s → τ q ∈ beside (τ s)) (i1 : ∀ s, τ (σ s) = s) (i2 : ∀ s, σ (τ s) = s)
    {first : Sq} {far far' : List (Sq × Int)} (h : IsDist c first far) (h' : IsDist c' (σ first) far') (q : Sq) (d : Int) : (q, d) ∈ far ↔ (σ q, d) ∈ far' := by
  have hs' : ∀ s, c.sea (τ s) = c'.sea s := fun s => by rw [← hs, i2]
  have hh : IsDist c (τ (σ first)) far := by rw [i1]; exact h
  constructor
  · intro m
    obtain ⟨d', m', le⟩ := dist_le hs hb h h' d.toNat (q, d) m (by have := h.pos _ m; simp only [] at this ⊢; omega)
    obtain ⟨d2, m2, le2⟩ := dist_le hs' hb' h' hh d'.toNat (σ q, d') m' (by have := h'.pos _ m'; simp only [] at this ⊢; omega)
    simp only [i1] at m2 le2
    have := keyed h.nodup m m2
    simp only [] at le
    have : d' = d := by omega
    rw [← this]; exact m'
  · intro m
    obtain ⟨d', m', le⟩ := dist_le hs' hb' h' hh d.toNat (σ q, d) m (by have := h'.pos _ m; simp only [] at this ⊢; omega)
    simp only [i1] at m' le
    obtain ⟨d2, m2, le2⟩ := dist_le hs hb h h' d'.toNat (q, d') m' (by have := h.pos _ m'; simp only [] at this ⊢; omega)
    have := keyed h'.nodup m m2
    simp only [] at le2
    have : d' = d := by omega
    rw [← this]; exact m'

/-! ### rooms, and when there is a fill -/
def half (clock : Int) : Int := (clock - 1) / 2
def roomB (c : Ch) (one other : Sq) (far : Int) : Int := (half c.clock * far - c.val other + c.val one) / c.clock
/-- tides that keep all rooms -/
def Keeps (c : Ch) (t : Sq → Int) : Prop := ∀ one other d, c.told one = true → c.told other = true → other ≠ one → (other, d) ∈ flood c one → t other ≤ t one + roomB c one other d
def Fills (c : Ch) : Prop := ∃ t, Keeps c t
theorem told_sea {c : Ch} {s : Sq} (h : c.told s = true) : c.sea s = true := by
  unfold told at h
  unfold sea
  rw [Bool.and_eq_true, decide_eq_true_eq] at h ⊢
  exact ⟨h.1, by omega⟩
theorem fills_iso {c c' : Ch} {σ τ : Sq → Sq} (s : SqIso c c' σ) (hb : ∀ s q, q ∈ beside s → σ q ∈ beside (σ s)) (hb' : ∀ s q, q ∈ beside s → τ q ∈ beside (τ s)) (i1 : ∀ s, τ (σ s) = s) (i2 : ∀ s, σ (τ s) = s) : Fills c ↔ Fills c' := by
  have dist : ∀ one, c.told one = true → ∀ q d, (q, d) ∈ flood c one ↔ (σ q, d) ∈ flood c' (σ one) := fun one h1 q d =>
    dist_eq s.sea hb hb' i1 i2 (flood_ok (told_sea h1)) (flood_ok (told_sea (by rw [s.told]; exact h1))) q d
  have room : ∀ one other d, c.told one = true → c.told other = true → roomB c' (σ one) (σ other) d = roomB c one other d := fun one other d h1 h2 => by
    unfold roomB
    rw [s.clock, s.val _ h1, s.val _ h2]
  constructor
  · rintro ⟨t, ht⟩
    refine ⟨fun q => t (τ q), fun one other d h1 h2 hne hd => ?_⟩
    have e1 : c.told (τ one) = true := by rw [← s.told, i2]; exact h1
    have e2 : c.told (τ other) = true := by rw [← s.told, i2]; exact h2
    have := ht (τ one) (τ other) d e1 e2 (fun e => hne (by rw [← i2 other, ← i2 one, e])) ((dist _ e1 _ _).mpr (by rw [i2, i2]; exact hd))
    rw [← room _ _ _ e1 e2, i2, i2] at this
    exact this
  · rintro ⟨t, ht⟩
    refine ⟨fun q => t (σ q), fun one other d h1 h2 hne hd => ?_⟩
    have := ht (σ one) (σ other) d (by rw [s.told]; exact h1) (by rw [s.told]; exact h2) (fun e => hne (by rw [← i1 other, ← i1 one, e])) ((dist _ h1 _ _).mp hd)
    rw [room _ _ _ h1 h2] at this
    exact this
theorem fills_later {c c' : Ch} {by_ : Int} (hc : 0 < c.clock) (h : Later c c' by_) : Fills c ↔ Fills c' := by
  have dist : ∀ one, c.told one = true → ∀ q d, (q, d) ∈ flood c one ↔ (q, d) ∈ flood c' one := fun one h1 q d =>
    dist_eq (σ := id) (τ := id) h.sea (fun _ _ z => z) (fun _ _ z => z) (fun _ => rfl) (fun _ => rfl) (flood_ok (told_sea h1)) (flood_ok (told_sea (by rw [h.told]; exact h1))) q d
  have room : ∀ one other d, c.told one = true → c.told other = true → roomB c' one other d = roomB c one other d + (c.val other + by_) / c.clock - (c.val one + by_) / c.clock := fun one other d h1 h2 => by
    unfold roomB
    rw [h.clock, h.val _ h1, h.val _ h2]
    have e1 := Int.emod_add_mul_ediv (c.val other + by_) c.clock
    have e2 := Int.emod_add_mul_ediv (c.val one + by_) c.clock
    have e : half c.clock * d - (c.val other + by_) % c.clock + (c.val one + by_) % c.clock = (half c.clock * d - c.val other + c.val one) + c.clock * ((c.val other + by_) / c.clock - (c.val one + by_) / c.clock) := by
      rw [Int.mul_sub]; omega
    rw [e, Int.add_mul_ediv_left _ _ (by omega)]
    omega
  constructor
  · rintro ⟨t, ht⟩
    refine ⟨fun q => t q + (c.val q + by_) / c.clock, fun one other d h1 h2 hne hd => ?_⟩
    rw [h.told] at h1 h2
    have := ht one other d h1 h2 hne ((dist _ h1 _ _).mpr hd)
    rw [room _ _ _ h1 h2]
    simp only []
    omega
  · rintro ⟨t, ht⟩
    refine ⟨fun q => t q - (c.val q + by_) / c.clock, fun one other d h1 h2 hne hd => ?_⟩
    have := ht one other d (by rw [h.told]; exact h1) (by rw [h.told]; exact h2) hne ((dist _ h1 _ _).mp hd)
    rw [room _ _ _ h1 h2] at this
    simp only []
    omega
/-- rows that tell the rooms -/
def RowsOk (c : Ch) (rows : List (Sq × Sq × Int)) : Prop := ∀ e, e ∈ rows ↔ c.told e.1 = true ∧ c.told e.2.1 = true ∧ e.2.1 ≠ e.1 ∧ ∃ d, (e.2.1, d) ∈ flood c e.1 ∧ e.2.2 = roomB c e.1 e.2.1 d
def tab0 (c : Ch) : Sq → Option Int := fun x => if x ∈ c.toldSq then some 0 else none
theorem rows_ne {c : Ch} {rows : List (Sq × Sq × Int)} (h : RowsOk c rows) : ∀ e, e ∈ rows → e.1 ≠ e.2.1 := fun e he => ((h e).mp he).2.2.1.symm
theorem rows_in {c : Ch} {rows : List (Sq × Sq × Int)} (h : RowsOk c rows) : ∀ e, e ∈ rows → e.1 ∈ c.toldSq ∧ e.2.1 ∈ c.toldSq := fun e he =>
  ⟨mem_toldSq.mpr ((h e).mp he).1, mem_toldSq.mpr ((h e).mp he).2.1⟩
def tidesM (c : Ch) (rows : List (Sq × Sq × Int)) : BS Sq := bf rows (c.toldSq.length + 1) (bs0 (tab0 c))
theorem tides_iff {c : Ch} {rows : List (Sq × Sq × Int)} (h : RowsOk c rows) : (tidesM c rows).last = none ↔ Fills c := by
  constructor
  · intro hl
    rcases bf_from (rows_ne h) (tab0 c) (n := c.toldSq.length + 1) (by omega) with ⟨R, k, j, _, sat⟩ | ⟨R, v, j, hv, _⟩
    · have there : ∀ s, c.told s = true → ∃ a, (tidesM c rows).far s = some a := fun s hs => by
        cases e : (tidesM c rows).came s with
        | none =>
          refine ⟨0, ?_⟩
          have := (j.none_ s e).2
          refine this.trans ?_
          unfold tab0
          rw [if_pos (mem_toldSq.mpr hs)]
        | some u =>
          obtain ⟨_, _, b, _, _, hb, _⟩ := j.camE s u e
          exact ⟨b, hb⟩
      refine ⟨fun s => ((tidesM c rows).far s).getD 0, fun one other d h1 h2 hne hd => ?_⟩
      obtain ⟨a, ha⟩ := there one h1
      obtain ⟨b, hb, le⟩ := sat (one, other, roomB c one other d) ((h _).mpr ⟨h1, h2, hne, d, hd, rfl⟩) a ha
      have hb : (tidesM c rows).far other = some b := hb
      simp only [ha, hb, Option.getD_some]
      exact le
    · have hv : (tidesM c rows).last = some v := hv
      rw [hl] at hv; cases hv
  · rintro ⟨t, ht⟩
    refine bf_calm (rows_ne h) (tab0 c) (p := t) (fun e he => ?_) (rows_in h) (Nat.le_refl _)
    obtain ⟨h1, h2, hne, d, hd, e3⟩ := (h e).mp he
    rw [e3]
    exact ht e.1 e.2.1 d h1 h2 hne hd
theorem tides_ring {c : Ch} {rows : List (Sq × Sq × Int)} (h : RowsOk c rows) {v : Sq} (hl : (tidesM c rows).last = some v) :
    (∀ i, i ≤ c.toldSq.length → ∃ w, back (tidesM c rows).came i v = some w) ∧ ∃ w, back (tidesM c rows).came c.toldSq.length v = some w ∧ ∃ p, 1 ≤ p ∧ p ≤ c.toldSq.length ∧ back (tidesM c rows).came p w = some w := by
  rcases bf_from (rows_ne h) (tab0 c) (n := c.toldSq.length + 1) (by omega) with ⟨R, k, j, hn, _⟩ | ⟨R, v', j, hv, hR, _⟩
  · have hn : (tidesM c rows).last = none := hn
    rw [hl] at hn; cases hn
  · have hv : (tidesM c rows).last = some v' := hv
    rw [hl] at hv; cases hv
    exact ring_there j (rows_in h) (Nat.le_refl _) hR
end Co

set_option maxRecDepth 100000
/-! Part H: the three other charts, and what the law asks of them. -/
namespace Co
open Ch

def turnedM (c : Ch) : Ch := ⟨c.clock, (List.range c.wide).map fun j => c.rows.reverse.map fun line => line.getD j 0⟩
def mirroredM (c : Ch) : Ch := ⟨c.clock, c.rows.map List.reverse⟩
def laterM (c : Ch) (b : Int) : Ch := ⟨c.clock, c.rows.map fun line => line.map fun one => if 0 ≤ one then (one + b) % c.clock else one⟩
section
variable {c : Ch}
theorem Ch.Good.row (g : c.Good) {i : Nat} (h : i < c.high) : (c.rows.getD i []).length = c.wide ∧ ∀ x, x ∈ c.rows.getD i [] → -2 ≤ x ∧ x < c.clock := by
  have e : c.rows.getD i [] = c.rows[i] := by
    simp only [List.getD]
    rw [List.getElem?_eq_getElem h]
    rfl
  rw [e]
  exact g.all _ (List.getElem_mem h)
theorem getD_lt {α : Type} {l : List α} {i : Nat} (h : i < l.length) (d : α) : l.getD i d = l[i] := by
  simp only [List.getD]
  rw [List.getElem?_eq_getElem h]
  rfl
theorem getD_map {α β : Type} (f : α → β) {l : List α} {i : Nat} (h : i < l.length) (d : β) (d' : α) : (l.map f).getD i d = f (l.getD i d') := by
  rw [getD_lt (by rw [List.length_map]; exact h), getD_lt h, List.getElem_map]
theorem getD_rev {α : Type} {l : List α} {i : Nat} (h : i < l.length) (d : α) : l.reverse.getD i d = l.getD (l.length - 1 - i) d := by
  rw [getD_lt (by rw [List.length_reverse]; exact h), getD_lt (by omega), List.getElem_reverse]
theorem val_good (g : c.Good) {s : Sq} (h : c.within s = true) : -2 ≤ c.val s ∧ c.val s < c.clock := by
  unfold within at h
  rw [decide_eq_true_eq] at h
  obtain ⟨h1, h2⟩ := g.row (i := s.1.toNat) (by omega)
  unfold val
  rw [getD_lt (by rw [h1]; omega)]
  exact h2 _ (List.getElem_mem _)

/-! ### turned -/
theorem turned_high (g : c.Good) : (turnedM c).high = c.wide := by simp [turnedM, high]
theorem turned_wide (g : c.Good) : (turnedM c).wide = c.high := by
  have h := g.w1
  unfold turnedM wide high
  simp only []
  have : ∃ n, c.wide = n + 1 := ⟨c.wide - 1, by omega⟩
  obtain ⟨n, e⟩ := this
  unfold wide at e
  rw [e, List.range_succ_eq_map, List.map_cons, List.headD_cons, List.length_map, List.length_reverse]
theorem turned_val (g : c.Good) {s : Sq} (h : c.within s = true) : (turnedM c).val (s.2, c.high - 1 - s.1) = c.val s := by
  unfold within at h
  rw [decide_eq_true_eq] at h
  have hh : c.rows.length = c.high := rfl
  unfold val turnedM
  simp only []
  rw [getD_map (d' := 0) _ (by rw [List.length_range]; omega), getD_map (d' := []) _ (by rw [List.length_reverse, hh]; omega), getD_rev (by rw [hh]; omega)]
  have e1 : (List.range c.wide).getD s.2.toNat 0 = s.2.toNat := by
    rw [getD_lt (by rw [List.length_range]; omega), List.getElem_range]
  have e2 : c.rows.length - 1 - ((c.high : Int) - 1 - s.1).toNat = s.1.toNat := by omega
  rw [e1, e2]
theorem turned_within (g : c.Good) (s : Sq) : (turnedM c).within (s.2, c.high - 1 - s.1) = c.within s := by
  unfold within
  rw [turned_high g, turned_wide g]
  simp only []
  exact decide_eq_decide.mpr (by omega)
theorem turned_sq (g : c.Good) : SqIso c (turnedM c) fun k => (k.2, c.high - 1 - k.1) := by
  refine ⟨fun s => ?_, fun s => ?_, fun s hs => ?_, rfl⟩
  · unfold told
    rw [turned_within g]
    cases h : c.within s with
    | false => rfl
    | true => rw [turned_val g h]
  · unfold sea
    rw [turned_within g]
    cases h : c.within s with
    | false => rfl
    | true => rw [turned_val g h]
  · unfold told at hs
    rw [Bool.and_eq_true] at hs
    exact turned_val g hs.1
theorem turned_good (g : c.Good) : (turnedM c).Good := by
  refine ⟨g.lo, g.hi, g.odd, ?_, ?_, ?_, ?_, fun row hr => ?_⟩
  · show 1 ≤ (turnedM c).high; rw [turned_high g]; exact g.w1
  · show (turnedM c).high ≤ 7; rw [turned_high g]; exact g.w9
  · rw [turned_wide g]; exact g.h1
  · rw [turned_wide g]; exact g.h9
  · obtain ⟨j, hj, rfl⟩ := List.mem_map.mp hr
    have hj := List.mem_range.mp hj
    refine ⟨by rw [turned_wide g, List.length_map, List.length_reverse]; rfl, fun x hx => ?_⟩
    obtain ⟨line, hl, rfl⟩ := List.mem_map.mp hx
    obtain ⟨h1, h2⟩ := g.all line (List.mem_reverse.mp hl)
    rw [getD_lt (by rw [h1]; exact hj)]
    exact h2 _ (List.getElem_mem _)

/-! ### mirrored -/
theorem mirrored_high : (mirroredM c).high = c.high := by simp [mirroredM, high]
theorem mirrored_wide : (mirroredM c).wide = c.wide := by
  unfold mirroredM wide
  cases c.rows <;> simp
theorem mirrored_val (g : c.Good) {s : Sq} (h : c.within s = true) : (mirroredM c).val (s.1, c.wide - 1 - s.2) = c.val s := by
  unfold within at h
  rw [decide_eq_true_eq] at h
  have hh : c.rows.length = c.high := rfl
  obtain ⟨h1, h2⟩ := g.row (i := s.1.toNat) (by omega)
  unfold val mirroredM
  simp only []
  rw [getD_map (d' := []) _ (by rw [hh]; omega), getD_rev (by rw [h1]; omega)]
  congr 1
  rw [h1]
  omega
theorem mirrored_within (g : c.Good) (s : Sq) : (mirroredM c).within (s.1, c.wide - 1 - s.2) = c.within s := by
  unfold within
  rw [mirrored_high, mirrored_wide]
  simp only []
  exact decide_eq_decide.mpr (by omega)
theorem mirrored_sq (g : c.Good) : SqIso c (mirroredM c) fun k => (k.1, c.wide - 1 - k.2) := by
  refine ⟨fun s => ?_, fun s => ?_, fun s hs => ?_, rfl⟩
  · unfold told
    rw [mirrored_within g]
    cases h : c.within s with
    | false => rfl
    | true => rw [mirrored_val g h]
  · unfold sea
    rw [mirrored_within g]
    cases h : c.within s with
    | false => rfl
    | true => rw [mirrored_val g h]
  · unfold told at hs
    rw [Bool.and_eq_true] at hs
    exact mirrored_val g hs.1
theorem mirrored_good (g : c.Good) : (mirroredM c).Good := by
  refine ⟨g.lo, g.hi, g.odd, ?_, ?_, ?_, ?_, fun row hr => ?_⟩
  · show 1 ≤ (mirroredM c).high; rw [mirrored_high]; exact g.h1
  · show (mirroredM c).high ≤ 7; rw [mirrored_high]; exact g.h9
  · rw [mirrored_wide]; exact g.w1
  · rw [mirrored_wide]; exact g.w9
  · obtain ⟨line, hl, rfl⟩ := List.mem_map.mp hr
    obtain ⟨h1, h2⟩ := g.all line hl
    exact ⟨by rw [mirrored_wide, List.length_reverse, h1], fun x hx => h2 x (List.mem_reverse.mp hx)⟩

/-! ### later -/
theorem later_high (b : Int) : (laterM c b).high = c.high := by simp [laterM, high]
theorem later_wide (b : Int) : (laterM c b).wide = c.wide := by
  unfold laterM wide
  cases c.rows <;> simp
theorem later_within (b : Int) (s : Sq) : (laterM c b).within s = c.within s := by
  unfold within
  rw [later_high, later_wide]
theorem later_val (g : c.Good) (b : Int) {s : Sq} (h : c.within s = true) : (laterM c b).val s = if 0 ≤ c.val s then (c.val s + b) % c.clock else c.val s := by
  unfold within at h
  rw [decide_eq_true_eq] at h
  have hh : c.rows.length = c.high := rfl
  obtain ⟨h1, h2⟩ := g.row (i := s.1.toNat) (by omega)
  unfold val laterM
  simp only []
  rw [getD_map (d' := []) _ (by rw [hh]; omega), getD_map (d' := 0) _ (by rw [h1]; omega)]
theorem later_ok (g : c.Good) (b : Int) : Later c (laterM c b) b := by
  have hm : ∀ x : Int, 0 ≤ (x + b) % c.clock := fun x => Int.emod_nonneg _ (by have := g.lo; omega)
  refine ⟨rfl, later_high b, later_wide b, fun s => ?_, fun s => ?_, fun s hs => ?_⟩
  · unfold told
    rw [later_within]
    cases h : c.within s with
    | false => rfl
    | true =>
      rw [later_val g b h]
      have := hm (c.val s)
      split
      · rename_i e; rw [decide_eq_true e, decide_eq_true this]
      · rfl
  · unfold sea
    rw [later_within]
    cases h : c.within s with
    | false => rfl
    | true =>
      rw [later_val g b h]
      have := hm (c.val s)
      split
      · rename_i e
        rw [decide_eq_true (show (c.val s + b) % c.clock ≠ -1 by omega), decide_eq_true (show c.val s ≠ -1 by omega)]
      · rfl
  · unfold told at hs
    rw [Bool.and_eq_true, decide_eq_true_eq] at hs
    rw [later_val g b hs.1, if_pos hs.2]
theorem later_good (g : c.Good) (b : Int) : (laterM c b).Good := by
  refine ⟨g.lo, g.hi, g.odd, ?_, ?_, ?_, ?_, fun row hr => ?_⟩
  · show 1 ≤ (laterM c b).high; rw [later_high]; exact g.h1
  · show (laterM c b).high ≤ 7; rw [later_high]; exact g.h9
  · rw [later_wide]; exact g.w1
  · rw [later_wide]; exact g.w9
  · obtain ⟨line, hl, rfl⟩ := List.mem_map.mp hr
    obtain ⟨h1, h2⟩ := g.all line hl
    refine ⟨by rw [later_wide, List.length_map, h1], fun x hx => ?_⟩
    obtain ⟨y, hy, rfl⟩ := List.mem_map.mp hx
    have := h2 y hy
    have hc := g.lo
    show -2 ≤ (if 0 ≤ y then (y + b) % c.clock else y) ∧ (if 0 ≤ y then (y + b) % c.clock else y) < c.clock
    split
    · exact ⟨by have := Int.emod_nonneg (y + b) (show c.clock ≠ 0 by omega); omega, Int.emod_lt_of_pos _ (by omega)⟩
    · exact this

/-! ### what the law asks -/
theorem beside_turn (h : Int) (s q : Sq) (m : q ∈ beside s) : ((q.2, h - 1 - q.1) : Sq) ∈ beside (s.2, h - 1 - s.1) := by
  simp only [beside, List.mem_cons, List.not_mem_nil, or_false] at m ⊢
  rcases m with rfl | rfl | rfl | rfl
  · refine .inr (.inr (.inl ?_)); ext <;> simp only [] <;> omega
  · refine .inl ?_; ext <;> simp only [] <;> omega
  · refine .inr (.inr (.inr ?_)); ext <;> simp only [] <;> omega
  · refine .inr (.inl ?_); ext <;> simp only [] <;> omega
theorem beside_back (h : Int) (s q : Sq) (m : q ∈ beside s) : ((h - 1 - q.2, q.1) : Sq) ∈ beside (h - 1 - s.2, s.1) := by
  simp only [beside, List.mem_cons, List.not_mem_nil, or_false] at m ⊢
  rcases m with rfl | rfl | rfl | rfl
  · refine .inr (.inl ?_); ext <;> simp only [] <;> omega
  · refine .inr (.inr (.inr ?_)); ext <;> simp only [] <;> omega
  · refine .inl ?_; ext <;> simp only [] <;> omega
  · refine .inr (.inr (.inl ?_)); ext <;> simp only [] <;> omega
theorem beside_mirror (w : Int) (s q : Sq) (m : q ∈ beside s) : ((q.1, w - 1 - q.2) : Sq) ∈ beside (s.1, w - 1 - s.2) := by
  simp only [beside, List.mem_cons, List.not_mem_nil, or_false] at m ⊢
  rcases m with rfl | rfl | rfl | rfl
  · refine .inl ?_; ext <;> simp only [] <;> omega
  · refine .inr (.inr (.inl ?_)); ext <;> simp only [] <;> omega
  · refine .inr (.inl ?_); ext <;> simp only [] <;> omega
  · refine .inr (.inr (.inr ?_)); ext <;> simp only [] <;> omega
/-- all that the law asks of another chart -/
structure Alike (c c' : Ch) (hand : Int) : Prop where
  counts : (countsM c').Perm ((countsM c).map fun x => hand * x)
  lw : lwM c' = lwM c
  fills : Fills c' ↔ Fills c
  unit : hand = 1 ∨ hand = -1
theorem alike_of {c' : Ch} {φ ψ : Sq → Sq} {ε : Int} (g : c.Good) (g' : c'.Good) (i : Iso c c' φ ψ ε) (f : Fills c' ↔ Fills c) : Alike c c' ε := by
  have hc : 0 < c.clock := by have := g.lo; omega
  refine ⟨?_, ?_, f, i.eps⟩
  · have := i.counts (eyesOf_ok c) (eyesOf_ok c') hc
    unfold countsM
    rw [List.map_map]
    exact this
  · exact IsLW.unique (by rw [i.clock]; exact hc) (lwM_is g') (i.lw (lwM_is g))
theorem turned_alike (g : c.Good) : Alike c (turnedM c) 1 :=
  alike_of g (turned_good g) (turn_iso g (turned_high g) (turned_wide g) (turned_sq g))
    (fills_iso (turned_sq g) (τ := fun k => (c.high - 1 - k.2, k.1)) (beside_turn c.high) (beside_back c.high) (fun s => by ext <;> simp only [] <;> omega) (fun s => by ext <;> simp only [] <;> omega)).symm
theorem mirrored_alike (g : c.Good) : Alike c (mirroredM c) (-1) :=
  alike_of g (mirrored_good g) (mirror_iso g mirrored_high mirrored_wide (mirrored_sq g))
    (fills_iso (mirrored_sq g) (τ := fun k => (k.1, c.wide - 1 - k.2)) (beside_mirror c.wide) (beside_mirror c.wide) (fun s => by ext <;> simp only [] <;> omega) (fun s => by ext <;> simp only [] <;> omega)).symm
theorem later_alike (g : c.Good) (b : Int) : Alike c (laterM c b) 1 :=
  alike_of g (later_good g b) (later_iso (later_ok g b)) (fills_later (by have := g.lo; omega) (later_ok g b)).symm
theorem later_same (g : c.Good) (b : Int) : countsM (laterM c b) = countsM c := by
  unfold countsM
  rw [later_eyes (later_ok g b)]
  exact List.map_congr_left fun e _ => later_counts (later_ok g b) e
end
end Co

set_option maxRecDepth 100000
set_option maxHeartbeats 4000000
namespace Wk
open PySem PySem.Spec PyProof.Rows L2
/-! ### the text by places -/
def top (i : Nat) : Stmt := PySem.Challenge.pw_cotide_k31_whole_patches_keep_their_eyes.main.body.getD i (.Pass ⟨0, 0, 0, 0⟩)
/-! ### a def of the text, its promise -/
abbrev SpV := List V → Hp → VK → Prop
def sp (S : SpV) : Sp := fun vs H Q _ => S vs H Q
structure Df (K : PySem.W.Frag) (mg : Str → Option Value) (x : Str) (st : Stmt) : Prop where
  ex : ∃ (f : Addr) (fd : FuncData), FunD K x x (defArgs st) (defBody st) (defScope st) [] [] f fd ∧ mg x = some (.ref f)
structure G (P : Program) (w : World) (K : PySem.W.Frag) (mg : Str → Option Value) (base : Heap) (k : Nat) (x : Str) (S : SpV) : Prop where
  ex : ∃ (f : Addr) (fd : FuncData) (ps : List Str), FnOk P w K mg base CX0 k f fd ps (sp S) ∧ mg x = some (.ref f) ∧ PySem.W.keepIn K (.ref f) = true ∧ Binds K fd ps []
section
variable {P : Program} {w : World} {K : PySem.W.Frag} {mg : Str → Option Value} {base : Heap}
/-- the body's context -/
abbrev Bc (P : Program) (w : World) (K : PySem.W.Frag) (mg : Str → Option Value) (base : Heap) (N : List Str) (x : Str) (st : Stmt) (f : Addr) (cdv : Value) (A : Around) (outer : List Env) (s : Shared) (H : Hp) (E : XK) : Cx :=
  (cxOf CX0 P w K mg base N x (defScope st) f cdv A outer s H E).nox
theorem g_of {x : Str} {st : Stmt} {N ps : List Str} {S : SpV} (k : Nat) (D : Df K mg x st) (sc : FnScope N ps (defScope st)) (len : ∀ vs H Q, S vs H Q → vs.length = ps.length)
    (hb : ∀ (kV doc pm : Value) (an : Option Addr) (cdv ct : Value) (us : List Value), us.length = ps.length → bindArgs (PySem.W.fnOf x x (defArgs st) (defBody st) (defScope st) .none kV doc pm an cdv ct) ⟨us, []⟩ = pure (ps.zip us))
    (body : ∀ (f : Addr) (cdv : Value) (A : Around) (outer : List Env) (s : Shared) (H : Hp) (vs : List V) (Q : VK) (E : XK), Room k (A.deeper (envOfC x (defScope st) s.heap.objs.size f cdv)) → S vs H Q →
      ∃ t, PSs (Bc P w K mg base N x st f cdv A outer s H E) (defBody st) t ∧ t { nx := fun _ H' => Q .non H', rt := Q } (start N vs) H) : G P w K mg base (k + 1) x S := by
  obtain ⟨f, fd, F, hm⟩ := D.ex
  refine ⟨f, fd, ps, F.ok sc (fun vs H Q E h => len vs H Q h) (fun cdv A outer s H vs Q E hr h => ?_), hm, F.kp, F.bindsN hb⟩
  obtain ⟨t, h1, h2⟩ := body f cdv A outer s H vs Q E hr h
  exact ⟨t, h1.nox, h2⟩
/-- a call by the name -/
def tCG (S : SpV) (t : TA) : TE := fun σ H Q => t σ H fun vs H1 => S vs H1 Q
theorem pe_callG {X : Cx} {j k : Nat} {x : Str} {S : SpV} {e : Expr} {es : List Expr} {t : TA} {p pos : Pos} (g : G X.prog X.w X.K X.mg X.base j x S) (hr : Room k X.A) (hg : Gl X x) (ha : PA X (e :: es) t) (hj : j ≤ k := by decide)
    (hdb : (x == ("__debug__" : Str)) = false := by decide) (he : starEach (e :: es) X.env = (false, eval e X.env) :: starEach es X.env := by rfl) (hpl : (backTo pos (starEach es X.env)).any (·.1) = false := by rfl) :
    PE X (.Call (.Name x p) (e :: es) [] pos) (tCG S t) := by
  obtain ⟨f, fd, ps, F, hm, hk, hb⟩ := g.ex
  refine ⟨fun pins s σ H Q I h => ?_⟩
  refine (pe_call (E := E0) F (hr.mono hj) hg hm hk hb .nil pass0 ha hdb he hpl).run pins s σ H Q I ?_
  show t σ H fun vs H1 => S (vs ++ []) H1 Q
  have e0 : (fun (vs : List V) (H1 : Hp) => S (vs ++ []) H1 Q) = fun vs H1 => S vs H1 Q := by
    funext vs H1
    rw [List.append_nil]
  rw [e0]
  exact h
theorem pe_const {X : Cx} {x : Str} {i : Int} {pos : Pos} (hg : Gl X x) (hm : ∃ t, X.mg x = some (.int i t)) (hd : (x == ("__debug__" : Str)) = false := by decide) : PE X (.Name x pos) (tC (.int i)) := by
  obtain ⟨t, hm⟩ := hm
  exact pe_glob hg hm ⟨t, rfl⟩ hd
end
/-! ### rules with the written part named: for the blocks of comprehensions -/
section
variable {X : Cx}
theorem ixT (K : PySem.W.Frag) (h : X.K = K := by rfl) : IxR X (rIxT K) := h ▸ ix_tup
theorem ixL (K : PySem.W.Frag) (h : X.K = K := by rfl) : IxR X (rIxL K) := h ▸ ix_list
def rLen (K : PySem.W.Frag) : List V → Hp → VK → Prop := fun xs H Q => ∃ p ys, xs = [V.ref p] ∧ (SqL K H p ys ∨ SqT K H p ys) ∧ Q (.int ys.length) H
theorem crLen (K : PySem.W.Frag) (h : X.K = K := by rfl) : CallR X (.builtin "len") (rLen K) := h ▸ call_len_seq
theorem crAll (K : PySem.W.Frag) (h : X.K = K := by rfl) (hc : X.calm = true := by rfl) : CallR X (.builtin "all") (rAll K) := h ▸ cr_all hc
theorem crSum (K : PySem.W.Frag) (h : X.K = K := by rfl) (hc : X.calm = true := by rfl) : CallR X (.builtin "sum") (rSum K) := h ▸ cr_sum hc
def rTupOf (K : PySem.W.Frag) : List V → Hp → VK → Prop := fun xs H Q => ∃ p ys, xs = [V.ref p] ∧ ((SqL K H p ys ∧ ∀ l, H l = none → Q (.ref l) (upd H l (.tup ys))) ∨ (SqT K H p ys ∧ Q (.ref p) H))
theorem crTup (K : PySem.W.Frag) (h : X.K = K := by rfl) : CallR X (.type "tuple") (rTupOf K) := h ▸ call_tuple_of
def rLstOf (K : PySem.W.Frag) : List V → Hp → VK → Prop := fun xs H Q => ∃ p ys, xs = [V.ref p] ∧ (SqL K H p ys ∨ SqT K H p ys) ∧ ∀ l, H l = none → Q (.ref l) (upd H l (.lst ys))
theorem crLst (K : PySem.W.Frag) (h : X.K = K := by rfl) : CallR X (.type "list") (rLstOf K) := h ▸ call_list_of
theorem piL (K : PySem.W.Frag) {tg l : Expr} {tl : TE} (hl : PE X l tl) (h : X.K = K := by rfl) : PI X tg l (iList K tl) := h ▸ pi_list hl
theorem piT (K : PySem.W.Frag) {tg l : Expr} {tl : TE} (hl : PE X l tl) (h : X.K = K := by rfl) : PI X tg l (iTup K tl) := h ▸ pi_tup hl
theorem pgT (K : PySem.W.Frag) {es : List Expr} {k : Nat} {pos : Pos} {t : TGs} {n : Nat} (hc : X.calm = true) (h : PGs X es t) (hK : X.K = K := by rfl)
    (hn : (assignEach es X.env).length = n := by rfl) (hst : (assignEach es X.env).findIdx? (·.1) = none := by rfl) : PG X (.Tuple es k pos) (gTup K n t) := hK ▸ pg_tup hc h hn hst
theorem pgU (K : PySem.W.Frag) {es : List Expr} {k : Nat} {pos : Pos} {t : TGs} {n : Nat} (hc : X.calm = true) (h : PGs X es t) (hK : X.K = K := by rfl)
    (hn : (assignEach es X.env).length = n := by rfl) (hst : (assignEach es X.env).findIdx? (·.1) = none := by rfl) : PG X (.Tuple es k pos) (gUnl K n t) := hK ▸ pg_unl hc h hn hst
theorem peF (K : PySem.W.Frag) {e : Expr} {f : Str} {ta : TE} {pos : Pos} (he : PE X e ta) (hb : attributeBase e f X.env (eval e X.env) = eval e X.env) (h : X.K = K := by rfl) : PE X (.Attribute e f pos) (tFld K ta f) := h ▸ pe_fld he hb
end
end Wk

set_option maxRecDepth 100000
set_option maxHeartbeats 4000000
/-! Rules that the layer lacks, each for what the text has. -/
namespace Wk
open PySem PySem.Spec PyProof.Rows L2
section
variable {X : Cx} {pos : Pos}
/-! ### xs[i] op= e, by values: the read -/
def rGetL (K : PySem.W.Frag) : V → V → Hp → VK → Prop := fun o i H Q => ∃ p xs k j v, o = .ref p ∧ i = .int k ∧ SqL K H p xs ∧ k = ((j : Nat) : Int) ∧ xs[j]? = some v ∧ Q v H
theorem get_list : PGet X (rGetL X.K) := by
  intro pins s σ H o i ov iv Q I r1 r2 h
  obtain ⟨p, xs, k, j, v, rfl, rfl, hq, rfl, hv, q⟩ := h
  cases r1
  obtain ⟨t, rfl⟩ := r2
  obtain ⟨its, r, pl, hz⟩ := I.list hq
  obtain ⟨w, ew, rw'⟩ := r.get hv
  have hj : j < xs.length := (List.getElem?_eq_some_iff.mp hv).1
  have hn := line63
  exact wpAny_getItem_list pl.isList (by omega) (by omega) (by rw [Int.toNat_natCast]; simpa using ew) ⟨v, H, I, rw', q⟩
/-! ### an attribute as a target -/
def gFld (K : PySem.W.Frag) (ta : TE) (f : Str) : TG := fun v σ H Q => ta σ H fun x H2 => ∃ a C dx fs, x = .ref a ∧ H2 a = some (.ins C dx fs) ∧ Cls K C ∧ NoAttr K C f ∧ fs.length < 1000 ∧ Q σ (upd H2 a (.ins C dx (putF f v fs)))
theorem pg_fld {o : Expr} {f : Str} {ta : TE} (ha : PE X o ta) : PG X (.Attribute o f pos) (gFld X.K ta f) := by
  refine ⟨fun pins s σ H v u Q I r h => ?_⟩
  rw [assign_Attribute]
  refine wpAny_bind (wpAny_holding (thn (ha.run pins s σ H _ I h) fun ov s2 ⟨x, H2, I2, rx, a, C, dx, fs, ex, ea, c, n, l, q2⟩ => ?_))
  subst ex
  obtain rfl : ov = Value.ref a := rx
  refine wpAny_bind (wpAny_standAt (wpAny_bind (wpAny_holding ?_)))
  exact setattr_ok I2 ea c n l r fun s3 I3 => wpAny_release ⟨σ, _, I3, q2⟩
/-! ### t[::-1] of a tuple -/
theorem sliceApplied_rev {prog : Program} {w : World} {A : Around} {E : Value → Shared → Prop} {s : Shared} {sl : Addr} {vl vu vs : Value} {n : Nat} {Q : Int × Int × Nat → Shared → Prop} (hs : s.heap.IsSliceOf sl vl vu vs) (pl : IsPart vl none) (pu : IsPart vu none) (ps : IsPart vs (some (-1)))
    (h : Q ((n : Int) - 1, -1, n) s) : wpAny (model prog w) A (Builtin.Slice.sliceApplied (.ref sl) (pure (n : Int))) Q E s := by
  obtain ⟨os, hos, hcs, hds⟩ := id hs
  unfold Builtin.Slice.sliceApplied Builtin.Slice.sliceFields
  refine wpAny_bind (wpAny_bind (wpAny_field hos hds (x := vl) rfl (wpAny_bind (wpAny_field hos hds (x := vu) rfl (wpAny_bind (wpAny_field hos hds (x := vs) rfl (wpAny_pure ?_)))))))
  refine wpAny_bind (HT.slicePart_ ps ?_)
  show wpAny _ _ (if ((-1 : Int) == 0) = true then _ else _) _ _ s
  rw [if_neg (by decide)]
  refine wpAny_bind (HT.slicePart_ pl (wpAny_bind (HT.slicePart_ pu (wpAny_bind (wpAny_pure ?_)))))
  show wpAny _ _ (pure ((n : Int) - 1, (-1 : Int), Builtin.Slice.slicePlaces ((n : Int) - 1) (-1) (-1))) _ _ s
  have e : Builtin.Slice.slicePlaces ((n : Int) - 1) (-1) (-1) = n := by
    unfold Builtin.Slice.slicePlaces
    have h1 : ¬ ((-1 : Int) > 0) := by omega
    have h2 : (- -1 : Int) = 1 := by decide
    simp only [h1, if_false, h2, Int.ediv_one]
    split <;> omega
  rw [e]
  exact wpAny_pure h
theorem pick_rev (xs : Array Value) : ((List.range xs.size).filterMap fun (m : Nat) => xs[(((xs.size : Int) - 1) + (m : Int) * (-1)).toNat]?).toArray = xs.toList.reverse.toArray := by
  have e : (fun (m : Nat) => xs[(((xs.size : Int) - 1) + (m : Int) * (-1)).toNat]?) = fun m => xs[xs.size - 1 - m]? := by
    funext m
    have : (((xs.size : Int) - 1) + (m : Int) * (-1)).toNat = xs.size - 1 - m := by omega
    rw [this]
  rw [e]
  have h2 : (List.range xs.size).filterMap (fun m => xs[xs.size - 1 - m]?) = ((List.range xs.size).map fun k => xs.size - 1 - k).filterMap (xs[·]?) := by rw [List.filterMap_map]; rfl
  rw [h2, PySem.W.krv_range, List.filterMap_reverse, PySem.W.krv_all]
theorem getItem_tuple_rev {prog : Program} {w : World} {A : Around} {E : Value → Shared → Prop} {s : Shared} {t sl : Addr} {items : Array Value} {vl vu vs : Value} {Q : Value → Shared → Prop} (ht : IsTup s.heap t items) (hs : s.heap.IsSliceOf sl vl vu vs) (pl : IsPart vl none) (pu : IsPart vu none) (ps : IsPart vs (some (-1)))
    (h : Q (.ref s.heap.objs.size) { s with heap := s.heap.push { cls := .type "tuple", data := .seq items.toList.reverse.toArray } })
    (hsz : items.size ≤ sizeLine) : wpAny (model prog w) A (getItem (.ref t) (.ref sl)) Q E s := by
  have htake : sizeOk (.seq items.toList.reverse.toArray) := by
    show items.toList.reverse.toArray.size ≤ sizeLine
    rw [List.size_toArray, List.length_reverse, Array.length_toList]
    exact hsz
  obtain ⟨os, hos, hcs, hds⟩ := id hs
  have hTs : s.TypeIs (.ref sl) "slice" := ⟨os, hos, hcs⟩
  unfold getItem
  try with_reducible refine wpAny_holding ?_
  first | refine wpAny_bind (wpAny_pure ?_) | skip
  refine wpAny_bind (wpAny_sequenceKey ht.typeIs (by decide) ?_)
  refine wpAny_bind (wpAny_callSpecial?_slot (name := Str.ofString "__getitem__") ht.typeIs PyProof.Rows.slot_tuple_getitem
    (wpAny_call_entry PyProof.Rows.slot_tuple_getitem ht.typeIs entry_tuple_getitem ?_ (args_tuple_getitem _ _)))
  show wpAny _ _ (Builtin.Tuple.tupleItemsOf (.ref t) >>= _) _ _ s
  refine wpAny_bind (tupleItemsOf_ ht ?_)
  refine wpAny_bind (wpAny_typeOf hTs ?_)
  rw [if_pos (by decide)]
  refine wpAny_bind (sliceApplied_rev hs pl pu ps ?_)
  have hno : ¬ ((((items.size : Int) - 1) == 0 && (-1 : Int) == 1 && items.size == items.size) = true) := by
    intro q
    rw [Bool.and_eq_true, Bool.and_eq_true] at q
    exact absurd q.1.2 (by decide)
  show wpAny _ _ (if (((items.size : Int) - 1) == 0 && (-1 : Int) == 1 && items.size == items.size) = true then _ else _) _ _ s
  rw [if_neg hno, pick_rev]
  first
    | exact wpAny_bind (m := Builtin.Tuple.tupleExact _) (wpAny_newObj_type (wpAny_pure ⟨_, rfl, wpAny_pure h⟩) htake)
    | exact wpAny_bind (m := Builtin.Tuple.tupleExact _) (wpAny_newObj_type (wpAny_bind (wpAny_pure (wpAny_pure ⟨_, rfl, wpAny_pure h⟩))) htake)
    | exact wpAny_bind (wpAny_bind (m := Builtin.Tuple.tupleExact _) (wpAny_newObj_type (wpAny_pure (wpAny_pure ⟨_, rfl, wpAny_pure h⟩)) htake))
    | exact wpAny_bind (wpAny_bind (m := Builtin.Tuple.tupleExact _) (wpAny_newObj_type (wpAny_pure ⟨_, rfl, wpAny_pure h⟩) htake))
def tRevT (K : PySem.W.Frag) (te : TE) : TE := fun σ H Q => te σ H fun x H1 => ∃ a xs, x = .ref a ∧ SqT K H1 a xs ∧ ∀ p, H1 p = none → Q (.ref p) (upd H1 p (.tup xs.reverse))
theorem peRevT (K : PySem.W.Frag) {e : Expr} {te : TE} {k : Nat} {p1 p2 p3 pos : Pos} (he : PE X e te) (hK : X.K = K := by rfl) : PE X (.Subscript e (.Slice none none (some (.UnaryOp .USub (.Constant (.int 1) k p1) p2)) p3) pos) (tRevT K te) := by
  subst hK
  refine ⟨fun pins s σ H Q I h => ?_⟩
  refine Subscript_ (thn (he.run pins s σ H _ I h) fun v s1 ⟨x, H1, I1, r1, q1⟩ => ?_)
  obtain ⟨a, xs, ex, hx, q⟩ := q1
  subst ex
  cases r1
  have hst : PO X (some (.UnaryOp .USub (.Constant (.int 1) k p1) p2)) (tPart (tUn (rU fun i => .int (-i)) (tC (.int 1)))) := po_some (pe_un un_neg pe_int)
  refine wpAny_Slice (thn (po_none.run pins s1 σ H1 (fun o H2 => o = none ∧ H2 = H1) I1 ⟨rfl, rfl⟩) fun vl s2 ⟨l, H2, I2, pl, el, e2⟩ => ?_)
  subst el e2
  refine thn (po_none.run pins s2 σ H2 (fun o H3 => o = none ∧ H3 = H2) I2 ⟨rfl, rfl⟩) fun vu s3 ⟨u, H3, I3, pu, eu, e3⟩ => ?_
  subst eu e3
  refine thn (hst.run pins s3 σ H3 (fun o H4 => o = some (-1) ∧ H4 = H3) I3 ⟨1, rfl, -1, rfl, rfl, rfl⟩) fun vs s4 ⟨o, H4, I4, ps, eo, e4⟩ => ?_
  subst eo e4
  have I5 : Inv X pins σ H4 { s4 with heap := s4.heap.push { cls := .type "slice", data := .fields #[vl, vu, vs] } } := I4.kept (t' := s4.toks) fun b ob q => Heap.get?_push_of_some _ q
  obtain ⟨its, r, ht, hz⟩ := I5.tuple hx
  have hlen := r.length
  show wpAny (model X.prog X.w) X.A (subscriptTail e (.Slice none none (some (.UnaryOp .USub (.Constant (.int 1) k p1) p2)) p3) (.ref a) (.ref s4.heap.objs.size)) (EP X pins σ Q) X.xe { s4 with heap := s4.heap.push { cls := .type "slice", data := .fields #[vl, vu, vs] } }
  refine tail_any (ops := [.ref a, .ref s4.heap.objs.size]) ht.typeIs (PyProof.Rows.slot_tuple_getitem.lookup) ?_ (by with_unfolding_all rfl)
  refine getItem_tuple_rev ht (Heap.IsSliceOf.new _ vl vu vs) pl pu ps ?_ (by rw [List.size_toArray]; omega)
  refine ⟨.ref _, _, I5.laid (t' := s4.toks) (o := .tup xs.reverse) (fun b ob q => Heap.get?_push_of_some _ q) (Nat.le_refl _) ?_, rfl, q _ (I5.hok.fresh (Nat.le_refl _))⟩
  exact ⟨by rw [List.length_reverse]; exact hz, _, r.reverse, ⟨_, Heap.get?_push_size _ rfl, rfl, _, rfl⟩⟩
/-! ### {k: v}, the key a tuple -/
def tDispT (tk tv : TE) : TE := fun σ H Q => ∀ p, H p = none → tk σ (upd H p (.dT [])) fun x H1 => tv σ H1 fun y H2 => H2 p = some (.dT []) ∧ ∃ (b : Addr) (ks : List Key), x = .ref b ∧ H2 b = some (.tup (ks.map kV)) ∧ Q (.ref p) (upd H2 p (.dT [(ks, y)]))
theorem pe_dispT {k v : Expr} {tk tv : TE} (hu : X.A.units + 1 < cLine) (hk : PE X k tk) (hv : PE X v tv) : PE X (.Dict [some k] [v] pos) (tDispT tk tv) := by
  refine ⟨fun pins s σ H Q I q => ?_⟩
  have hn := I.hok.fresh (Nat.le_refl s.heap.objs.size)
  have I1 := I.laid (a := s.heap.objs.size) (o := .dT []) (h' := s.heap.push { cls := .type "dict", data := .dict #[] }) (t' := s.toks) (fun _ _ q => Heap.get?_push_of_some _ q) (Nat.le_refl _) (dt_empty s.heap I.big)
  have hshape := zip_pairTrees [some k] [v] X.env pos rfl rfl
  rw [arm_eval_Dict, hshape, dictDisplay_pairs (pairTrees [some k] [v] X.env pos) (by intro e; cases e) (show 1 < 17 by decide)]
  refine wpAny_bind (wpAny_standAt (wpAny_bind (wpAny_subDictH (knd := tupleKind (mixKind X.prog X.w)) (Q := fun d s' => wpAny (model X.prog X.w) X.A (pure (Value.ref d)) (EP X pins σ Q) X.xe s') (show (tupleKind (mixKind X.prog X.w)).room X.A from (show X.A.units < cLine by omega)) (show 1 ≤ 15 by decide) ?_)))
  refine pairTrees_cons_walk (thn (hk.run pins _ σ _ _ I1 (q _ hn)) fun kv s2 ⟨x, H2, I2, r2, q2⟩ => thn (hv.run pins s2 σ H2 _ I2 q2) fun vv s3 ⟨y, H3, I3, r3, e3, b, ks, ex, hb, q3⟩ => pairTrees_nil_walk ?_)
  subst ex
  cases r2
  obtain ⟨z, hd, xs, rel, dd⟩ := dt_of I3.hok e3
  cases rel
  refine ⟨[(ks, b, vv)], ⟨rfl, rfl, key_of I3.hok hb, trivial⟩, dd, fun h' tk' dd' hs => wpAny_pure ⟨.ref s.heap.objs.size, _, ?_, rfl, q3⟩⟩
  have he : ∃ q, h'.get? s.heap.objs.size = some q := let ⟨q, _, _, hq, _⟩ := dd'; ⟨q, hq⟩
  obtain ⟨qo, es, ep, hq, h2, h3, h4, _, h5⟩ := dd'
  refine d_write I3 (by rw [e3]; exact True.intro) hs he ⟨by show 1 ≤ sizeLine; decide, hd, [(ks, b, vv)], .cons ⟨rfl, ?_, r3⟩ .nil, qo, es, ep, hq, h2, h3, h4, h5⟩
  show upd H3 s.heap.objs.size _ b = _
  rw [upd_ne (ne_of hb e3 (fun z => nomatch z))]
  exact hb
end
end Wk

set_option maxRecDepth 100000
set_option maxHeartbeats 4000000
/-! sorted of a list of nested tuples, of a dict with pairs as keys: some order of the same things. -/
namespace Wk
open PySem PySem.Spec PyProof.Rows L2 PySem.W
/-- x reads as d, in any heap that H tells -/
def RdV (H : Hp) (x : V) (d : PyData) : Prop := ∀ (P : Program) (w : World) (h : Heap), HOk P w H h → ∀ u, RelV x u → ∃ as, Reads h u d as
theorem RdV.int {H : Hp} {i : Int} : RdV H (.int i) (.int i) := fun _ _ _ _ u r => by
  obtain ⟨t, rfl⟩ := r
  exact ⟨_, .int i t⟩
theorem rdAll {H : Hp} {P : Program} {w : World} {h : Heap} (ok : HOk P w H h) : ∀ {xs : List V} {ds : List PyData} {us : List Value}, Paired (RdV H) xs ds → Vals xs us → ∃ as, ReadsAll h us ds as
  | _, _, _, .nil, .nil => ⟨_, .nil⟩
  | _, _, _, .cons r t, .cons r' t' => by
    obtain ⟨a1, h1⟩ := r P w h ok _ r'
    obtain ⟨a2, h2⟩ := rdAll ok t t'
    exact ⟨_, .cons h1 h2⟩
theorem RdV.tup {H : Hp} {a : Addr} {xs : List V} {ds : List PyData} (e : H a = some (.tup xs)) (r : Paired (RdV H) xs ds) : RdV H (.ref a) (.tuple ds) := fun P w h ok u ru => by
  obtain rfl : u = .ref a := ru
  obtain ⟨_, its2, r2, o, ho, hc, n, hd⟩ := (show ObjOk P w H h a (.tup xs) from ok _ _ e)
  obtain ⟨as, h2⟩ := rdAll ok r r2
  exact ⟨as, .tuple ho hc hd (by simpa using h2)⟩
theorem eachId : ∀ us : List Value, EachIs (fun v b => v = b) us us
  | [] => .nil
  | _ :: r => .cons rfl (eachId r)
theorem eachId_eq : ∀ {us vs : List Value}, EachIs (fun v b => v = b) us vs → us = vs
  | _, _, .nil => rfl
  | _, _, .cons h t => by rw [h, eachId_eq t]
theorem eachMem {R : Value → Value → Prop} : ∀ us : List Value, (∀ u ∈ us, R u u) → EachIs R us us
  | [], _ => .nil
  | u :: r, h => .cons (h u List.mem_cons_self) (eachMem r fun y hy => h y (List.mem_cons_of_mem _ hy))
structure Kd (enc : V → PyData) : Prop where
  al : ∀ x y, alike (enc x) (enc y) = true
  tu : ∀ x, ∃ y r, enc x = .tuple (y :: r)
  dp : ∀ x, (enc x).depth ≤ 8
section
variable {X : Cx}
/-- sorted(xs) of a list of tuples that read as enc says -/
def rSortedA (K : PySem.W.Frag) : List V → Hp → VK → Prop := fun vs H Q => ∃ a xs, ∃ enc : V → PyData, vs = [V.ref a] ∧ SqL K H a xs ∧ Kd enc ∧ (∀ x ∈ xs, (∃ t, x = V.ref t) ∧ RdV H x (enc x)) ∧
  ∀ ys p, ys.Perm xs → H p = none → Q (.ref p) (upd H p (.lst ys))
theorem cr_sortedA (hu : X.A.units + 16 < cLine) : CallR X (.builtin "sorted") (rSortedA X.K) := by
  intro pins s σ H vs us Q I r h
  obtain ⟨a, xs, enc, rfl, hs, kd, hx, q⟩ := h
  obtain ⟨its, rv, hl, hz⟩ := I.list hs
  obtain ⟨u, rfl, ru⟩ := vals1 r
  obtain rfl : u = Value.ref a := ru
  obtain ⟨e1, e2⟩ := refs_back rv fun x m => (hx x m).1
  refine sorted_data (R := fun v b => v = b) (enc := fun v => enc (backV v)) (vs := its) (bs := its) hl.isList (eachId its) (eachMem its fun v hv => ?_) (AllAlike.of fun _ _ => kd.al _ _) (Sortable.tuples fun _ => kd.tu _) (by rw [← rv.length]; exact hz)
    (fun b _ => by have := kd.dp (backV b); omega) fun out hlen eo => ?_
  · have hm : backV v ∈ xs := by rw [e1]; exact List.mem_map.mpr ⟨_, hv, rfl⟩
    obtain ⟨t, rfl⟩ := e2 v hv
    exact (hx _ hm).2 _ _ _ I.hok _ rfl
  · have hp : out.Perm its := by rw [eachId_eq eo]; exact List.mergeSort_perm _ _
    have h3 : ∀ u ∈ out, ∃ a, u = Value.ref a := fun u hu => e2 u (hp.mem_iff.mp hu)
    obtain ⟨c, hc⟩ := sortedAll_at s.heap its out.toArray
    refine ⟨.ref (s.heap.objs.size + 1), upd H (s.heap.objs.size + 1) (.lst (out.map backV)), I.laid (t' := s.toks) (fun _ _ => sortedAll_old) (Nat.le_succ _) ⟨?_, out, c, vals_back h3, hc⟩, rfl, q _ _ ?_ (I.hok.fresh (Nat.le_succ _))⟩
    · rw [List.length_map, hp.length_eq, ← rv.length]; exact hz
    · rw [e1]; exact hp.map backV
/-- sorted(d) of a dict whose keys are pairs of ints -/
def rSortedT : List V → Hp → VK → Prop := fun vs H Q => ∃ a kvs, vs = [V.ref a] ∧ Rd H a (.dT kvs) ∧ (∀ p ∈ kvs, ∃ i j, p.1 = [Sum.inl i, Sum.inl j]) ∧
  ∀ (bs cs : List Addr) p, IsKeys H kvs bs → cs.Perm bs → H p = none → Q (.ref p) (upd H p (.lst (cs.map V.ref)))
theorem isKeys_mem {H : Hp} {kvs : List (List Key × V)} {bs : List Addr} (h : IsKeys H kvs bs) : ∀ b ∈ bs, ∃ p ∈ kvs, H b = some (.tup (p.1.map kV)) := by
  induction h with
  | nil => intro b hb; exact absurd hb (by simp)
  | cons r t ih =>
    intro b hb
    rcases List.mem_cons.mp hb with e | hb
    · subst e; exact ⟨_, List.mem_cons_self, r⟩
    · obtain ⟨p, hp, h⟩ := ih b hb
      exact ⟨p, List.mem_cons_of_mem _ hp, h⟩
def pairD : HO → PyData
  | .tup [.int i, .int j] => .tuple [.int i, .int j]
  | _ => .tuple [.int 0, .int 0]
def encAt (H : Hp) : Value → PyData
  | .ref t => ((H t).map pairD).getD (.tuple [.int 0, .int 0])
  | _ => .tuple [.int 0, .int 0]
theorem encAt_eq {H : Hp} {t : Addr} {i j : Int} (e : H t = some (.tup [.int i, .int j])) : encAt H (.ref t) = .tuple [.int i, .int j] := by
  show ((H t).map pairD).getD _ = _
  rw [e]; rfl
theorem pairD_is (o : HO) : ∃ i j, pairD o = .tuple [.int i, .int j] := by
  unfold pairD
  split <;> exact ⟨_, _, rfl⟩
theorem encAt_is (H : Hp) (v : Value) : ∃ i j, encAt H v = .tuple [.int i, .int j] := by
  unfold encAt
  split
  · rename_i t
    cases H t with
    | none => exact ⟨_, _, rfl⟩
    | some o => exact pairD_is o
  · exact ⟨_, _, rfl⟩
def adrOf : Value → Addr
  | .ref a => a
  | _ => 0
theorem cr_sortedT (hu : X.A.units + 16 < cLine) (hc : X.calm = true) : CallR X (.builtin "sorted") rSortedT := by
  intro pins s σ H xs us Q I r h
  obtain ⟨d, kvs, rfl, hd, hkv, q⟩ := h
  obtain ⟨u, rfl, rx⟩ := r.one
  cases rx
  obtain ⟨z, hs, ks, pr, o, es, ep, ho, hx, hdt, he, hn⟩ := (show ObjOk X.prog X.w H s.heap d (.dT kvs) from hd.ok I.hok)
  have l1 : es.size = ks.length := size_of_entries he
  have l2 : kvs.length = ks.length := Paired.length pr
  refine Calls.call_function_entry PyProof.Rows.kind_sorted PyProof.Rows.plain_sorted PyProof.Rows.entry_sorted (PyProof.Rows.args_sorted1 _) ?_
  unfold Builtin.«sorted»
  refine wpAny_bind (m := checkCount "sorted" 1 1 _) (wpAny_pure ?_)
  refine wpAny_bind (PySem.W.kdu_collect (A := X.A.in1) (kdl_raw hs hx hdt) (I.ok.hd hc) ho (by omega) fun h' tk acc hk it => ?_)
  have ea : acc.toList = (ks.map fun x => x.2.1).map Value.ref := by
    have hl : acc.toList.length = ks.length := by rw [Array.length_toList, it.1]; exact l1
    apply List.ext_getElem?
    intro j
    rw [List.map_map, List.getElem?_map]
    cases hj : acc.toList[j]? with
    | none =>
      have h1 := List.getElem?_eq_none_iff.mp hj
      rw [List.getElem?_eq_none (by omega)]
      rfl
    | some v =>
      obtain ⟨en, hen, hv⟩ := it.2 j v (by rw [← Array.getElem?_toList]; exact hj)
      have qe := entry_at he j
      rw [hen] at qe
      cases hb : ks[j]? with
      | none =>
        rw [hb] at qe
        exact nomatch (show some en = none from qe)
      | some b =>
        rw [hb] at qe
        have e2 : en = entryOfKey (tupleKind (mixKind X.prog X.w)) b := Option.some.inj qe
        rw [hv, e2]
        rfl
  generalize hbs : (ks.map fun x => x.2.1) = bs at ea
  have hK : IsKeys H kvs bs := hbs ▸ isKeys_of pr
  have hlen : bs.length = kvs.length := by rw [← hbs, List.length_map]; exact l2.symm
  rw [ea]
  have I1 : Inv X pins σ H { s with heap := h', toks := tk } := I.kept hk
  refine wpAny_bind (wpAny_newList ?_ (by rw [List.length_map, hlen]; exact z))
  have hoL : (h'.push (seqObj "list" (bs.map Value.ref).toArray 0)).get? h'.objs.size = some (seqObj "list" (bs.map Value.ref).toArray 0) := Heap.get?_push_size _ rfl
  show wpAny _ _ _ _ _ { s with heap := h'.push (seqObj "list" (bs.map Value.ref).toArray 0), toks := tk }
  have I2 : Inv X pins σ (upd H h'.objs.size (.lst (bs.map V.ref))) { s with heap := h'.push (seqObj "list" (bs.map Value.ref).toArray 0), toks := tk } :=
    I1.laid (t' := tk) (fun b o e => Heap.get?_push_of_some _ e) (Nat.le_refl _) ⟨by rw [List.length_map, hlen]; exact z, bs.map Value.ref, 0, vals_refs bs, hoL⟩
  have hne : ∀ b o, H b = some o → b ≠ h'.objs.size := fun b o e z => by rw [z, I1.hok.fresh (Nat.le_refl _)] at e; cases e
  have hin : ∀ v ∈ bs.map Value.ref, ∃ i j t, v = .ref t ∧ H t = some (.tup [.int i, .int j]) := fun v hv => by
    obtain ⟨b, hb, rfl⟩ := List.mem_map.mp hv
    obtain ⟨p, hp, e⟩ := isKeys_mem hK b hb
    obtain ⟨i, j, e2⟩ := hkv p hp
    rw [e2] at e
    exact ⟨i, j, b, rfl, e⟩
  have henc : ∀ v, ∃ i j, encAt H v = .tuple [.int i, .int j] := encAt_is H
  refine wpAny_bind (wpAny_holding (list_sort_data (R := fun v b => v = b) (enc := encAt H) (vs := bs.map Value.ref) (bs := bs.map Value.ref) hoL (eachId _) (eachMem _ fun v hv => ?_) (AllAlike.of fun b b' => ?_) (Sortable.tuples fun b => ?_) (by rw [List.length_map, hlen]; exact z) (fun b _ => ?_) fun out ho2 eo => ?_))
  · obtain ⟨i, j, t, rfl, e⟩ := hin v hv
    have e3 : encAt H (.ref t) = .tuple [.int i, .int j] := encAt_eq e
    rw [e3]
    obtain ⟨_, its2, r2, o, ho, hc, n, hd⟩ := (show ObjOk X.prog X.w _ _ t (.tup [.int i, .int j]) from I2.hok _ _ (by rw [upd_ne (hne _ _ e)]; exact e))
    obtain ⟨u1, u2, rfl, ⟨t1, rfl⟩, ⟨t2, rfl⟩⟩ := vals2 r2
    have hR : ReadsAll (h'.push (seqObj "list" (bs.map Value.ref).toArray 0)) [.int i t1, .int j t2] [.int i, .int j] ([] ++ ([] ++ [])) := .cons (.int i t1) (.cons (.int j t2) .nil)
    exact ⟨_, .tuple ho hc hd hR, by simp⟩
  · obtain ⟨i, j, e⟩ := henc b
    obtain ⟨i', j', e'⟩ := henc b'
    rw [e, e']
    simp [alike, alikeAll]
  · obtain ⟨i, j, e⟩ := henc b
    exact ⟨_, _, e⟩
  · obtain ⟨i, j, e⟩ := henc b
    rw [e]
    have hd : (PyData.tuple [.int i, .int j]).depth = 1 := by simp [PyData.depth, PyData.depthAll]
    have : X.A.in1.units = X.A.units + 1 := rfl
    omega
  · have hp : out.Perm (bs.map Value.ref) := by rw [eachId_eq eo]; exact List.mergeSort_perm _ _
    have h3 : ∀ u ∈ out, ∃ a, u = Value.ref a := fun u hu => by obtain ⟨i, j, t, e, _⟩ := hin u (hp.mem_iff.mp hu); exact ⟨t, e⟩
    obtain ⟨cs, hcs⟩ : ∃ cs : List Addr, out = cs.map Value.ref := by
      clear hp ho2 eo
      induction out with
      | nil => exact ⟨[], rfl⟩
      | cons x r ih =>
        obtain ⟨a, e⟩ := h3 x List.mem_cons_self
        obtain ⟨cs, e2⟩ := ih fun y hy => h3 y (List.mem_cons_of_mem _ hy)
        exact ⟨a :: cs, by rw [List.map_cons, e, e2]⟩
    have hpc : cs.Perm bs := by
      have e4 : (out.map adrOf).Perm ((bs.map Value.ref).map adrOf) := hp.map _
      rw [hcs, List.map_map, List.map_map] at e4
      have e5 : (adrOf ∘ Value.ref : Addr → Addr) = id := rfl
      rw [e5, List.map_id, List.map_id] at e4
      exact e4
    obtain ⟨e', he'⟩ := PyProof.Rows.sortedHeap_at (vs := bs.map Value.ref) (out := out.toArray) hoL
    refine wpAny_pure ⟨_, rfl, .ref h'.objs.size, upd H h'.objs.size (.lst (cs.map V.ref)), I1.laid (t' := tk) (fun b u e => ?_) (Nat.le_refl _)
      (show ObjOk X.prog X.w _ _ _ (.lst (cs.map V.ref)) from ⟨by rw [List.length_map, hpc.length_eq, hlen]; exact z, out, e', by rw [hcs]; exact vals_refs cs, he'⟩), rfl, q bs cs _ hK hpc (I1.hok.fresh (Nat.le_refl _))⟩
    have hb : b < h'.objs.size := Heap.lt_size e
    rw [PyProof.Rows.sortedHeap_old (Nat.ne_of_lt hb) (by rw [size_push']; exact Nat.lt_succ_of_lt hb)]
    exact Heap.get?_push_of_some _ e
end
end Wk

set_option maxRecDepth 100000
set_option maxHeartbeats 4000000
/-! dict(pairs) whose keys are tuples; enumerate of a tuple; sum with a start. -/
namespace Wk
open PySem PySem.Spec PyProof.Rows L2 PySem.W
theorem atKey_none {xs : List (List Key × Addr × Value)} {k : List Key} (h : ∀ x ∈ xs, x.1 ≠ k) : atKey xs k = none := by
  unfold atKey
  rw [List.find?_eq_none.mpr fun x hx => by simpa using h x hx]
  rfl
theorem storedAll_nodup : ∀ (ps acc : List (List Key × Addr × Value)), ((acc ++ ps).map (·.1)).Nodup → storedAllH acc ps = acc ++ ps
  | [], acc, _ => by rw [List.append_nil]; rfl
  | p :: r, acc, h => by
    show storedAllH (storedH acc p.1 p.2.1 p.2.2) r = _
    have hn : atKey acc p.1 = none := atKey_none fun x hx e => by
      rw [List.map_append, List.nodup_append] at h
      exact h.2.2 x.1 (List.mem_map.mpr ⟨x, hx, rfl⟩) p.1 (List.mem_map.mpr ⟨p, List.mem_cons_self, rfl⟩) e
    rw [storedH_new hn]
    have e : acc ++ [(p.1, p.2.1, p.2.2)] ++ r = acc ++ p :: r := by rw [List.append_assoc]; rfl
    rw [storedAll_nodup r _ (by rw [e]; exact h), e]
/-- x is a pair of a tuple that reads as the key, and a value -/
def IsEnt (H : Hp) (x : V) (p : List Key × V) : Prop := ∃ t b, x = .ref t ∧ H t = some (.tup [.ref b, p.2]) ∧ H b = some (.tup (p.1.map kV))
theorem ents_of {P : Program} {w : World} {H : Hp} {h : Heap} (ok : HOk P w H h) : ∀ {xs : List V} {ps : List (List Key × V)} {us : List Value}, Paired (IsEnt H) xs ps → Vals xs us →
    ∃ zs : List (Addr × List Key × Addr × Value), us = zs.map (fun z => Value.ref z.1) ∧ KT H ps (zs.map (·.2)) ∧ ∀ z ∈ zs, PairAt h z.1 (.ref z.2.2.1) z.2.2.2 ∧ (tupleKind (mixKind P w)).is h z.2.1 z.2.2.1
  | _, _, _, .nil, .nil => ⟨[], rfl, .nil, fun z hz => absurd hz (by simp)⟩
  | _, _, _, .cons (b := p) r t, .cons r' t' => by
    obtain ⟨zs, e1, e2, e3⟩ := ents_of ok t t'
    obtain ⟨t, b, rfl, ht, hb⟩ := r
    cases r'
    obtain ⟨_, its2, r2, o, ho, hc, n, hd⟩ := (show ObjOk P w H h t (.tup [.ref b, p.2]) from ok _ _ ht)
    obtain ⟨u1, u2, rfl, ru, rv⟩ := vals2 r2
    cases ru
    refine ⟨(t, p.1, b, u2) :: zs, by rw [e1]; rfl, .cons ⟨rfl, hb, rv⟩ e2, fun z hz => ?_⟩
    rcases List.mem_cons.mp hz with e | hz
    · subst e
      exact ⟨.inl ⟨o, ho, hc, n, hd⟩, key_of ok hb⟩
    · exact e3 z hz
section
variable {X : Cx}
/-- dict(xs) of a list of pairs whose first is a tuple, all those distinct -/
def rDictT (K : PySem.W.Frag) : List V → Hp → VK → Prop := fun vs H Q => ∃ a xs ps, vs = [V.ref a] ∧ SqL K H a xs ∧ Paired (IsEnt H) xs ps ∧ (ps.map (·.1)).Nodup ∧ ∀ d, H d = none → Q (.ref d) (upd H d (.dT ps))
theorem cr_dictT (hu : X.A.units + 4 < cLine) (hc : X.calm = true) : CallR X (.type "dict") (rDictT X.K) := by
  intro pins s σ H vs us Q I r h
  obtain ⟨a, xs, ps, rfl, hs, hp, hn, q⟩ := h
  obtain ⟨its, rv, hl, hz⟩ := I.list hs
  obtain ⟨u, rfl, ru⟩ := vals1 r
  obtain rfl : u = Value.ref a := ru
  obtain ⟨zs, e1, e2, e3⟩ := ents_of I.hok hp rv
  subst e1
  have hlen : zs.length = xs.length := by rw [rv.length, List.length_map]
  obtain ⟨o, n, ho, hc1, hd1, hdat⟩ := hl
  let kvs : List (Value × Value) := zs.map fun z => (Value.ref z.2.2.1, z.2.2.2)
  let Ts : Nat → Addr := fun j => (zs.map (·.1)).getD j 0
  have hk : kvs.length = zs.length := List.length_map ..
  have hP := PairArg.list (prog := X.prog) (w := X.w) a (zs.map fun z => Value.ref z.1).toArray Ts kvs
  refine call_dict_pairsH (knd := tupleKind (mixKind X.prog X.w)) (ps := zs.map (·.2)) hP (I.ok.hd hc) (show X.A.in1.in1.units < cLine from by show X.A.units + 1 + 1 < cLine; omega) ?_ ?_ ?_ (by rw [hk, hlen]; exact hz) fun h' tk hd' hkp => ?_
  · refine ⟨⟨o, n, ho, hc1, hd1, hdat⟩, by simp [hk], fun j k v hj => ?_⟩
    rw [List.getElem?_map] at hj
    obtain ⟨z, hz, e⟩ := Option.map_eq_some_iff.mp hj
    cases e
    have hT : Ts j = z.1 := by
      show (zs.map (·.1)).getD j 0 = _
      rw [List.getD_eq_getElem?_getD, List.getElem?_map, hz]; rfl
    refine ⟨?_, by rw [hT]; exact (e3 z (List.mem_of_getElem? hz)).1⟩
    rw [hT]
    simp [hz]
  · refine ⟨by rw [List.length_map, hk], fun i key v hj => ?_⟩
    have hj' : kvs[i]? = some (key, v) := hj
    rw [List.getElem?_map] at hj'
    obtain ⟨z, hz, e⟩ := Option.map_eq_some_iff.mp hj'
    cases e
    exact ⟨z.2.1, z.2.2.1, by rw [List.getElem?_map, hz]; rfl, rfl⟩
  · intro h' hkp x hx
    obtain ⟨z, hz, rfl⟩ := List.mem_map.mp hx
    refine tupleKind_stays.stays (fun b ob vs m e _ => hkp b ob (Nat.ne_of_lt (Heap.lt_size e)) (by simp) e) (e3 z hz).2
  · have hkeys : (zs.map (·.2)).map (·.1) = ps.map (·.1) := by
      have : ∀ {l : List (List Key × V)} {m : List (List Key × Addr × Value)}, KT H l m → m.map (·.1) = l.map (·.1) := by
        intro l m q
        induction q with
        | nil => rfl
        | cons a _ ih => rw [List.map_cons, List.map_cons, ih, a.1]
      exact this e2
    rw [storedAll_nodup _ [] (by rw [List.nil_append, hkeys]; exact hn), List.nil_append] at hd'
    have hne : ∀ b o, H b = some o → b ≠ s.heap.objs.size := fun b o e z => by rw [z, I.hok.fresh (Nat.le_refl _)] at e; cases e
    have hm : (s.heap.objs.size == sysModules) = false := beq_eq_false_iff_ne.mpr (Nat.ne_of_gt I.big)
    have hpl : ps.length = zs.length := by have := Paired.length e2; rw [List.length_map] at this; exact this
    obtain ⟨qo, es, ep, hq, h2, h3, h4, _, h5⟩ := hd'
    refine ⟨.ref s.heap.objs.size, upd H s.heap.objs.size (.dT ps), I.laid (t' := tk) (fun b u e => hkp b u (by simp) e) (Nat.le_refl _)
      (show ObjOk X.prog X.w _ _ _ (.dT ps) from ⟨by rw [hpl, hlen]; exact hz, hm, zs.map (·.2), KT.keeps e2 fun b ys e => by rw [upd_ne (hne _ _ e)]; exact e, qo, es, ep, hq, h2, h3, h4, h5⟩), rfl, q _ (I.hok.fresh (Nat.le_refl _))⟩
end
/-! ### enumerate(tuple) -/
def IteT (K : PySem.W.Frag) (a : Addr) : It :=
  ⟨fun i H => ∃ (xs : List V) (x : V), SqT K H a xs ∧ xs[i]? = some x, fun i H v H' => ∃ T x, v = .ref T ∧ H T = none ∧ H' = upd H T (.tup [.int (i : Nat), x]) ∧ ∀ xs, SqT K H a xs → xs[i]? = some x, fun i H => ∃ xs : List V, SqT K H a xs ∧ xs.length ≤ i⟩
theorem tupInj {X : Cx} {pins : List (Addr × Obj)} {σ : L2.St} {H : Hp} {s : Shared} {a : Addr} {xs ys : List V} (I : Inv X pins σ H s) (h : SqT X.K H a xs) (h' : SqT X.K H a ys) : xs = ys := by
  obtain ⟨its, r, ⟨o, ho, hc, n, hd⟩, _⟩ := I.tuple h
  obtain ⟨its', r', ⟨o', ho', hc', n', hd'⟩, _⟩ := I.tuple h'
  rw [ho] at ho'; cases ho'
  rw [hd] at hd'
  have e : its.toArray = its'.toArray := by injection hd'
  have e2 : its = its' := by simpa using congrArg Array.toList e
  subst e2
  exact r.inj r'
end Wk

set_option maxRecDepth 100000
set_option maxHeartbeats 4000000
namespace Wk
open PySem PySem.Spec PyProof.Rows L2 PySem.W
section
variable {prog : Program} {w : World} {A : Around} {E : Value → Shared → Prop} {s : Shared}
/-! ### sum(xs, start=0) -/
theorem sum_start_args (a b : Value) : argsOk "sum" ⟨[a], [(Str.ofString "start", b)]⟩ := by unfold argsOk; kernel_rfl
theorem call_function_tree_kw {id : String} {b : Builtin} {args : List Value} {kw : List (Str × Value)} {Q : Value → Shared → Prop} (hk : builtinKind id = none) (hp : plainId id = true)
    (hb : entryFor table id = some b) (ha : argsOk id ⟨args, kw⟩)
    (hc : wpAny (model prog w) A.in1 (b ⟨args, kw⟩) (fun fin s' => match fin with
      | .done f => (match (Except.ok f : Result) with | .ok (.ret v) => Q v s' | .ok _ => False | .error e => E e s')
      | .again c' => c'.quiet = true ∧ codeAny (model prog w) A c' (fun r s' => match r with | .ok (.ret v) => Q v s' | .ok _ => False | .error e => E e s') s') E s) :
    wpAny (model prog w) A (call (.builtin id) args kw) Q E s := by
  refine wpAny_call (codeAny_call_builtin hp hb ?_)
  simp only [checkBuiltinCall, hk]
  cases hsig : Manifest.signature? id with
  | none => exact wpAny_pure hc
  | some sig =>
    simp only [argsOk, hsig] at ha
    have h2 : Bind.checkArgs id sig ⟨args, kw⟩ = pure () := ha
    show wpAny _ A.in1 (Bind.checkArgs id sig ⟨args, kw⟩) _ _ s
    rw [h2]; exact wpAny_pure hc
theorem call_sum_start {x : Value} {t0 : Tok} {Q : Value → Shared → Prop}
    (h : wpAny (model prog w) A.in1 (pyIter x) (fun it s₂ => ∃ I fp wr n P St val, it = .ref I ∧ Walks prog w A.in1 I fp wr n P St ∧ St 0 s₂.heap ∧ (∀ b ∈ fp, b < s₂.heap.objs.size) ∧
      (∀ i v, P i v → ∃ t, v = .int (val i) t) ∧
      ∀ h' tk t', (∀ b o, b ∉ wr → s₂.heap.get? b = some o → h'.get? b = some o) → Q (.int (preSum val n) t') { s₂ with heap := h', toks := tk }) E s) :
    wpAny (model prog w) A (call (.builtin "sum") [x] [(Str.ofString "start", .int 0 t0)]) Q E s := by
  refine call_function_tree_kw F.kind_sum F.plain_sum F.entry_sum (sum_start_args _ _) ?_
  unfold Builtin.«sum»
  simp only [List.length_cons, List.length_nil]
  rw [if_neg (by decide)]
  refine wpAny_bind (wpAny_of_eq (show Builtin.Builtins.bindParams "sum" ["start"] 0 ⟨[], [(Str.ofString "start", .int 0 t0)]⟩ = pure [some (.int 0 t0)] from by kernel_rfl) ?_)
  refine wpAny_bind (wpAny_mono h (fun it s₂ h₂ => ?_) fun _ _ e => e)
  obtain ⟨I, fp, wr, n, P, St, val, rfl, W, hst, hfp, hval, hQ⟩ := h₂
  dsimp only
  split
  rotate_left
  · rename_i hno
    exact absurd (by kernel_rfl) hno
  refine wpAny_bind (wpAny_rule ?_)
  refine wpAny_bind (wpAny_mkInt ?_)
  refine wpAny_bind (wpAny_pure ?_)
  simp only [List.forIn_cons, List.forIn_nil]
  refine wpAny_bind (wpAny_bind (wpAny_bind (wpAny_isInstance (T := "int") (b := false) (typeIs_int _ _ _) PySem.sub_int_str ?_)))
  simp only [Bool.false_eq_true, if_false]
  refine wpAny_pure (wpAny_bind (wpAny_bind (wpAny_isInstance (T := "int") (b := false) (typeIs_int _ _ _) PySem.sub_int_bytes ?_)))
  simp only [Bool.false_eq_true, if_false]
  refine wpAny_pure (wpAny_bind (wpAny_bind (wpAny_isInstance (T := "int") (b := false) (typeIs_int _ _ _) PySem.sub_int_bytearray ?_)))
  simp only [Bool.false_eq_true, if_false]
  refine wpAny_pure (wpAny_pure ?_)
  refine wpAny_bind (wpAny_newObj_type ?_)
  have hSf : s₂.heap.objs.size ∉ fp := fun hm => Nat.lt_irrefl _ (hfp _ hm)
  refine wpAny_pure ⟨plainId_quiet F.plain_sum_loop _, codeAny_sum_loopG W val hval s₂.heap.objs.size hSf n 0 _ s₂.toks 0 0 (Or.inl rfl) rfl (Nat.zero_le _)
    (W.frame _ _ _ hst fun b _ o e => Heap.get?_push_of_some _ e) (Heap.get?_push_size _ rfl) fun h' tk t' hk => ?_⟩
  exact hQ h' tk t' fun b o hbw e => hk b o hbw (Nat.ne_of_lt (Heap.lt_size e)) (Heap.get?_push_of_some _ e)
end
section
variable {X : Cx}
def rSum0 (K : PySem.W.Frag) : List V → List V → Hp → VK → Prop := fun vs zs H Q => ∃ (a : Addr) (ns : List Int), vs = [V.ref a] ∧ zs = [V.int 0] ∧ SqL K H a (ns.map V.int) ∧ Q (.int ns.sum) H
theorem cr_sum0 (hc : X.calm = true) : CallRK X (.builtin "sum") [Str.ofString "start"] (rSum0 X.K) := by
  intro pins s σ H vs zs us ws Q I r rz h
  obtain ⟨a, ns, rfl, rfl, hs, q⟩ := h
  obtain rfl := Vals.ref1 r
  obtain ⟨w1, rfl, t0, e1⟩ := vals1 rz
  subst e1
  obtain ⟨its, rv, hl, _⟩ := I.list hs
  have hi := rv.ints
  obtain ⟨xs, e⟩ := hi.allInts.items
  have hn : numsOf (intItems xs).toList = ns := by rw [← e]; exact hi.numsOf
  rw [nums_intItems] at hn
  have hl' := hl.isList
  rw [e] at hl'
  refine call_sum_start (iter_intList hl' fun s₂ e st hfp hlI => ?_)
  subst e
  refine ⟨_, _, _, _, _, _, numAt xs, rfl, Walks.list (A := X.A.in1) (I.ok.hd hc) _ a hlI (intItems xs), st, hfp, (fun _ _ => intItems_at), fun h' tk t' hk => ?_⟩
  have e5 : preSum (numAt xs) (intItems xs).size = ns.sum := by
    have : (intItems xs).size = xs.size := by simp [intItems]
    rw [this, preSum_eq, List.take_of_length_le (by simp), hn]
  rw [e5]
  exact ⟨.int _, H, I.kept (t' := tk) (old_kept hk), ⟨_, rfl⟩, q⟩
/-! ### enumerate(tuple) -/
theorem turn_enumT {P : Program} {w : World} {K : PySem.W.Frag} {elts : List Expr} {kk : Nat} {tpos : Pos} (a e it : Addr) (hae : a ≠ e) (hai : a ≠ it) :
    Turn P w K (.Tuple elts kk tpos) (IteT K a) [e, it] e (fun i h => (∃ old, IsEnum h e it ((i : Nat) : Int) old) ∧ h.IsTupleIter it a i ∧ e ≠ it) where
  mem := by simp
  obj := fun i h st b hb => by
    obtain ⟨⟨old, he⟩, ⟨o, ho, hc, hd⟩, _⟩ := st
    have e' : b = e ∨ b = it := by simpa using hb
    rcases e' with z | z
    · rw [z]; exact ⟨_, he, fun v q => nomatch q⟩
    · rw [z]; exact ⟨o, ho, fun v q => by rw [hd] at q; cases q⟩
  keep := fun i h h' st k => let ⟨⟨old, he⟩, hi, hne⟩ := st; ⟨⟨old, k e (by simp) _ he⟩, hi.at fun o q => k it (by simp) o q, hne⟩
  item := by
    intro X hP hw hK hc i pins s σ H E I hf st hg
    subst hP hw hK
    obtain ⟨⟨old, he⟩, hit, hne⟩ := st
    obtain ⟨xs, x, hq, hx⟩ := hg
    obtain ⟨its, rv, p, hz⟩ := I.tuple hq
    obtain ⟨u, hu, ru⟩ := rv.get hx
    have hi : i < its.length := (List.getElem?_eq_some_iff.mp hu).1
    have hel : e < s.heap.objs.size := Heap.lt_size he
    have hil : it < s.heap.objs.size := by obtain ⟨_, q, _⟩ := hit; exact Heap.lt_size q
    have ht : s.heap.IsTuple a its.toArray := by obtain ⟨o, ho, hcl, n, hd⟩ := p; exact ⟨o, ho, hcl, n, hd⟩
    refine wpAny_pyNext_enum_itemC (Draws.tuple (A := X.A.in1) (I.ok.hd hc) it a hai its.toArray) he ⟨hit, ht⟩ (by simpa using hi) hne (by simp [hne, hae.symm]) fun u' h' tk hu' ho hst' hT hsz hk => ?_
    have eu : u' = u := by
      have h1 : its.toArray[i]? = some u' := hu'
      have h2 : its.toArray[i]? = some u := by simpa using hu
      rw [h1] at h2
      exact Option.some.inj h2
    subst eu
    obtain ⟨hit', _⟩ := hst'
    refine ⟨_, rfl, wpAny_letOwnedTupleGo_enum (s := { s with heap := h', toks := tk + 1 }) ho fun h'' he' sb => ?_⟩
    have hT2 : h''.get? s.heap.objs.size = some { cls := .type "tuple", data := .seq #[.int i tk, u'] } := (sb.2 _ (Nat.ne_of_gt hel)).trans hT
    have new : ObjOk X.prog X.w (upd H s.heap.objs.size (.tup [.int (i : Nat), x])) h'' s.heap.objs.size (.tup [.int (i : Nat), x]) :=
      ⟨by show 2 ≤ sizeLine; decide, [.int i tk, u'], .cons ⟨_, rfl⟩ (.cons ru .nil), ⟨_, hT2, rfl, _, rfl⟩⟩
    have I1 : Inv X pins σ (upd H s.heap.objs.size (.tup [.int (i : Nat), x])) { s with heap := h'', toks := tk + 1 } :=
      I.turnedNew (ch := [e, it]) (fun b ob hb q => (sb.2 b (fun z => hb (by simp [z]))).trans (hk b ob (fun z => hb (by simp [z])) (fun z => hb (by simp [z])) q)) hf (Nat.le_refl _) new
    refine ⟨.ref s.heap.objs.size, _, I1, rfl, ⟨_, x, rfl, I.hok.fresh (Nat.le_refl _), rfl, fun ys hy => by rw [tupInj I hy hq]; exact hx⟩, ⟨⟨u', ?_⟩, hit'.at fun o q => (sb.2 it (Ne.symm hne)).trans q, hne⟩, fun b hb => ?_⟩
    · have e1 : ((i + 1 : Nat) : Int) = (i : Int) + 1 := by omega
      rw [e1]; exact he'
    · have hb' : b < s.heap.objs.size := by
        have e' : b = e ∨ b = it := by simpa using hb
        rcases e' with z | z
        · rw [z]; exact hel
        · rw [z]; exact hil
      rw [upd_ne (Nat.ne_of_lt hb')]
      exact (hf b hb).1
  done := by
    intro X hP hw hK hc i pins s σ H E I hf st hg
    subst hP hw hK
    obtain ⟨⟨old, he⟩, hit, hne⟩ := st
    obtain ⟨xs, hq, hx⟩ := hg
    obtain ⟨its, rv, p, hz⟩ := I.tuple hq
    obtain ⟨f0, f1, f2, f3, f4, f5⟩ := hf it (by simp)
    have hl := rv.length
    have ht : s.heap.IsTuple a its.toArray := by obtain ⟨o, ho, hcl, n, hd⟩ := p; exact ⟨o, ho, hcl, n, hd⟩
    have D0 : ∀ m, its.toArray.size ≤ m → ∀ (s : Shared) (Q : Value → Shared → Prop) (E : Value → Shared → Prop), s.heap.IsTupleIter it a m ∧ s.heap.IsTuple a its.toArray →
        (∀ h' e, Heap.ExtBut it s.heap h' → (∃ o, h'.get? e = some o ∧ o.cls = .type "StopIteration") → E (.ref e) { s with heap := h' }) → wpAny (model X.prog X.w) X.A.in1 (Builtin.SmallTypes.nextOf (.ref it)) Q E s :=
      fun m hm s Q E st hE => wpAny_nextOf_tuple_end (I.ok.hd hc) st.1 st.2 (by simpa using hm) hE
    have D : Draws X.prog X.w X.A.in1 it [it, a] i (fun _ _ => False) (fun j h => j = i ∧ h.IsTupleIter it a i ∧ h.IsTuple a its.toArray) :=
      { live := fun _ _ st => let ⟨o, ho, _⟩ := st.2.1; ⟨o, ho⟩
        frame := fun _ _ _ st hk => ⟨st.1, st.2.1.at fun o e => hk it (by simp) o e, st.2.2.at fun o e => hk a (by simp) o e⟩
        item := fun j s Q E hj st _ => absurd st.1 (Nat.ne_of_lt hj)
        done := fun s Q E st hE => D0 i (by simp; omega) s Q E st.2 hE }
    exact wpAny_pyNext_enum_endD D he ⟨rfl, hit, ht⟩ fun h' eb => ⟨rfl, I.turned (t' := s.toks) (fun b o hb q => eb b o hb q) f0 f1 f3 f4 f5⟩
  self := fun A i s Q E st h => let ⟨⟨_, he⟩, _⟩ := st; wpAny_pyIter_enum he h
set_option maxHeartbeats 1000000 in
theorem meets_enumerate_newT {v : Value} {o : Obj} {H : Heap → Prop} (B : Begins v o H) :
    Meets (Builtin.«enumerate.__new__» ⟨[.type "enumerate", v], []⟩) (fun _ R s => H s.heap ∧
      R (.ok (.ret (.ref (s.heap.push o).objs.size))) { s with heap := (s.heap.push o).push { cls := .type "enumerate", data := .fields #[.none, .bool false, .ref s.heap.objs.size, rawInt 0, .none, .none] } }) :=
  .of_wp fun prog w A R s h => by
    obtain ⟨hp, g, d, tk, os⟩ := s; obtain ⟨h1, h⟩ := h
    have hsub := PySem.sub_enumerate
    have q1 : ∀ {A' : Around} {E : Value → Shared → Prop} {Q : Value → Shared → Prop}, Q (.ref hp.objs.size) ⟨hp.push o, g, d, tk, os⟩ → wpAny (model prog w) A' (pyIter v) Q E ⟨hp, g, d, tk, os⟩ :=
      fun q => B.iter prog w _ _ ⟨hp, g, d, tk, os⟩ _ h1 q
    wp_walk using q1
    refine wpAny_stack_any fun st => wpAny_pure ?_
    split
    · rename_i c _ _ _ _ _
      cases (c == Value.type "enumerate")
      · wp_walk using q1
        exact ⟨_, rfl, h⟩
      · wp_walk using q1
        exact ⟨_, rfl, h⟩
    · wp_walk using q1
      exact ⟨_, rfl, h⟩
end
end Wk

set_option maxRecDepth 100000
set_option maxHeartbeats 4000000
/-! list(zip(xs, ys, strict=True)), both lists. -/
namespace Wk
open PySem PySem.Spec PyProof.Rows L2 PySem.W
abbrev IsZipS (h : Heap) (z TI TO : Addr) (f0 : Value) : Prop :=
  h.get? z = some { cls := .type "zip", dict := none, data := .fields #[f0, .bool false, .bool true, .ref TI, .ref TO], slots := #[] }
abbrev IsZipSH (h : Heap) (z TI TO T : Addr) (f : Bool) : Prop :=
  h.get? z = some { cls := .type "zip", dict := none, data := .fields #[rawInt T, .bool f, .bool true, .ref TI, .ref TO], slots := #[] }
section
variable {prog : Program} {w : World} {A : Around} {E : Value → Shared → Prop} {s : Shared}
theorem nextOrEnd_some {it : Value} {Q : Option Value → Shared → Prop} {R : Value → Shared → Prop} (h : wpAny (model prog w) A (Builtin.SmallTypes.nextOf it) R (fun _ _ => False) s) (hq : ∀ v s', R v s' → Q (some v) s') :
    wpAny (model prog w) A (Builtin.SmallTypes.nextOrEnd it) Q E s := by
  unfold Builtin.SmallTypes.nextOrEnd
  exact wpAny_bind (wpAny_attempt (wpAny_mono h (fun v s' r => wpAny_pure (hq v s' r)) fun _ _ f => f.elim))
theorem nextOrEnd_item {it l : Addr} {i : Nat} {items : Array Value} {x : Value} {Q : Option Value → Shared → Prop} (hit : s.heap.IsListIter it l i) (hl : s.heap.IsList l items) (hx : items[i]? = some x)
    (hQ : ∀ h', h'.IsListIter it l (i + 1) → Heap.SameBut it s.heap h' → Q (some x) { s with heap := h' }) : wpAny (model prog w) A (Builtin.SmallTypes.nextOrEnd (.ref it)) Q E s := by
  unfold Builtin.SmallTypes.nextOrEnd
  exact wpAny_bind (wpAny_attempt (wpAny_nextOf_list_item hit hl hx fun h' a b => wpAny_pure (hQ h' a b)))
theorem nextOrEnd_end {it l : Addr} {i : Nat} {items : Array Value} {Q : Option Value → Shared → Prop} (hh : A.handled = none) (hit : s.heap.IsListIter it l i) (hl : s.heap.IsList l items) (hx : items[i]? = none)
    (hQ : ∀ h', Heap.ExtBut it s.heap h' → Q none { s with heap := h' }) : wpAny (model prog w) A (Builtin.SmallTypes.nextOrEnd (.ref it)) Q E s := by
  unfold Builtin.SmallTypes.nextOrEnd
  refine wpAny_bind (wpAny_attempt (wpAny_nextOf_list_end hh hit hl hx fun h' e hk he => ?_))
  obtain ⟨o, ho, hc⟩ := he
  refine wpAny_bind (wpAny_isInstance (T := "StopIteration") (b := true) ⟨o, ho, hc⟩ isSubtype_stop ?_)
  exact wpAny_pure (hQ h' hk)
theorem tupleHeldS {z TI TO T : Addr} {f : Bool} {oT : Obj} {Q : Bool → Shared → Prop} (hz : IsZipSH s.heap z TI TO T f) (hT : s.heap.get? T = some oT)
    (h : ∀ h', IsZipSH h' z TI TO T true → Heap.SameBut z s.heap h' → Q false { s with heap := h' }) : wpAny (model prog w) A (Builtin.SmallTypes.ownedTupleIsFree (.ref z)) Q E s := by
  unfold Builtin.SmallTypes.ownedTupleIsFree
  refine wpAny_bind (wpAny_field hz rfl (x := rawInt T) rfl ?_)
  show wpAny _ _ (loadIfAlive ((T : Int).toNat) >>= _) _ _ _
  rw [Int.toNat_natCast]
  refine wpAny_bind (kdx_alive hT ?_)
  simp only [Option.isNone_some, Bool.false_eq_true, if_false]
  refine wpAny_bind (wpAny_field hz rfl (x := .bool f) rfl ?_)
  cases f with
  | true =>
    rw [if_neg (show ¬ ((Value.bool true != Value.bool true) = true) from Bool.false_ne_true)]
    exact wpAny_pure (h s.heap hz (Heap.SameBut.refl _ _))
  | false =>
    rw [if_pos (show (Value.bool false != Value.bool true) = true from rfl)]
    exact wpAny_bind (wpAny_setField_rec hz (by simp) fun h₁ he₁ hs₁ => wpAny_pure (h h₁ he₁ hs₁))
theorem zipS_item {z TI TO i1 i2 l1 l2 : Addr} {k1 k2 : Nat} {xs ys : Array Value} {x y a b : Value} {Q : Value → Shared → Prop} (D : ZipApart z TI TO i1 i2 l1 l2)
    (hz : IsZipS s.heap z TI TO .none) (hTI : IsPair s.heap TI (.ref i1) (.ref i2)) (hTO : IsPair s.heap TO a b)
    (h1 : s.heap.IsListIter i1 l1 k1) (h2 : s.heap.IsListIter i2 l2 k2) (hl1 : s.heap.IsList l1 xs) (hl2 : s.heap.IsList l2 ys) (hx : xs[k1]? = some x) (hy : ys[k2]? = some y)
    (hQ : ∀ h', IsZipS h' z TI TO (rawInt s.heap.objs.size) → IsPair h' TO x y → h'.IsListIter i1 l1 (k1 + 1) → h'.IsListIter i2 l2 (k2 + 1) → IsPair h' s.heap.objs.size x y → h'.objs.size = s.heap.objs.size + 1 →
      (∀ c o, c ≠ z → c ≠ TO → c ≠ i1 → c ≠ i2 → s.heap.get? c = some o → h'.get? c = some o) → Q (.ref s.heap.objs.size) { s with heap := h' }) :
    wpAny (model prog w) A (Builtin.«zip.__next__» ⟨[.ref z], []⟩) (fun fin s' => ∃ v, fin = .done (.ret v) ∧ Q v s') E s := by
  show wpAny _ _ (field (.ref z) 2 >>= _) _ _ _
  refine wpAny_bind (wpAny_field hz rfl (x := .bool true) rfl ?_)
  show wpAny _ _ (field (.ref z) 3 >>= _) _ _ _
  refine wpAny_bind (wpAny_field hz rfl (x := .ref TI) rfl ?_)
  refine wpAny_bind (wpAny_seqItems hTI rfl ?_)
  show wpAny _ _ (Builtin.SmallTypes.ownedTupleIsFree (.ref z) >>= _) _ _ _
  refine wpAny_bind ?_
  unfold Builtin.SmallTypes.ownedTupleIsFree
  refine wpAny_bind (wpAny_field hz rfl (x := .none) rfl (wpAny_pure ?_))
  simp only [if_true]
  refine wpAny_bind (wpAny_rule ?_)
  refine wpAny_bind (wpAny_field hz rfl (x := .ref TO) rfl ?_)
  refine wpAny_bind (wpAny_setField_rec hz (by simp) fun h₁ hz₁ hs₁ => ?_)
  replace hz₁ : IsZipS h₁ z TI TO .ellipsis := hz₁
  refine wpAny_bind ?_
  simp only [List.zipIdx_cons, List.zipIdx_nil, List.forIn_cons, List.forIn_nil]
  refine wpAny_bind (wpAny_bind (wpAny_onRaise ?_))
  show wpAny _ _ (Builtin.SmallTypes.nextOrEnd (.ref i1)) _ _ _
  refine nextOrEnd_item (h1.extBut hs₁.extBut D.i1z) (hl1.extBut hs₁.extBut D.l1z) hx fun h₂ h1₂ hs₂ => ?_
  have hTO₂ : IsPair h₂ TO a b := hs₂.extBut _ _ D.TOi1 (hs₁.extBut _ _ D.TOz hTO)
  refine wpAny_bind (wpAny_seqItems hTO₂ rfl ?_)
  refine wpAny_bind (wpAny_updateSeq_pair hTO₂ fun h₃ hTO₃ hs₃ => ?_)
  replace hTO₃ : IsPair h₃ TO x b := hTO₃
  refine wpAny_bind (wpAny_letGo (wpAny_pure ?_))
  refine wpAny_bind (wpAny_bind (wpAny_onRaise ?_))
  show wpAny _ _ (Builtin.SmallTypes.nextOrEnd (.ref i2)) _ _ _
  refine nextOrEnd_item (((h2.extBut hs₁.extBut D.i2z).extBut hs₂.extBut D.i12.symm).extBut hs₃.extBut D.TOi2.symm)
    (((hl2.extBut hs₁.extBut D.l2z).extBut hs₂.extBut D.l2i1).extBut hs₃.extBut D.l2TO) hy fun h₄ h2₄ hs₄ => ?_
  have hTO₄ : IsPair h₄ TO x b := hs₄.extBut _ _ D.TOi2 hTO₃
  refine wpAny_bind (wpAny_seqItems hTO₄ rfl ?_)
  refine wpAny_bind (wpAny_updateSeq_pair hTO₄ fun h₅ hTO₅ hs₅ => ?_)
  replace hTO₅ : IsPair h₅ TO x y := hTO₅
  refine wpAny_bind (wpAny_letGo (wpAny_pure (wpAny_pure ?_)))
  refine wpAny_bind (wpAny_seqItems hTO₅ rfl ?_)
  refine wpAny_bind (wpAny_newTuple ?_)
  have hsz : h₅.objs.size = s.heap.objs.size := by rw [hs₅.1, hs₄.1, hs₃.1, hs₂.1, hs₁.1]
  have hz₅ : IsZipS h₅ z TI TO .ellipsis := hs₅.extBut _ _ D.TOz.symm (hs₄.extBut _ _ D.i2z.symm (hs₃.extBut _ _ D.TOz.symm (hs₂.extBut _ _ D.i1z.symm hz₁)))
  have hk₅ : ∀ c o, c ≠ z → c ≠ TO → c ≠ i1 → c ≠ i2 → s.heap.get? c = some o → h₅.get? c = some o := fun c o c1 c2 c3 c4 e =>
    hs₅.extBut _ _ c2 (hs₄.extBut _ _ c4 (hs₃.extBut _ _ c2 (hs₂.extBut _ _ c3 (hs₁.extBut _ _ c1 e))))
  have h1₅ : h₅.IsListIter i1 l1 (k1 + 1) := ((h1₂.extBut hs₃.extBut D.TOi1.symm).extBut hs₄.extBut D.i12).extBut hs₅.extBut D.TOi1.symm
  have h2₅ : h₅.IsListIter i2 l2 (k2 + 1) := h2₄.extBut hs₅.extBut D.TOi2.symm
  have hzlt : z < h₅.objs.size := Heap.lt_size hz₅
  show wpAny _ _ (Builtin.SmallTypes.ownedTupleHandOut (.ref z) (.ref h₅.objs.size) >>= _) _ _ _
  refine wpAny_bind ?_
  unfold Builtin.SmallTypes.ownedTupleHandOut
  have hz₆ : IsZipS (h₅.push { cls := .type "tuple", data := .seq #[x, y] }) z TI TO .ellipsis := Heap.get?_push_of_some _ hz₅
  refine wpAny_bind (wpAny_setField_rec hz₆ (by simp) fun h₇ hz₇ hs₇ => ?_)
  replace hz₇ : IsZipS h₇ z TI TO (rawInt h₅.objs.size) := hz₇
  refine wpAny_setField_rec hz₇ (by simp) fun h₈ hz₈ hs₈ => ?_
  replace hz₈ : IsZipS h₈ z TI TO (rawInt h₅.objs.size) := hz₈
  have up : ∀ c o, c ≠ z → h₅.get? c = some o → h₈.get? c = some o := fun c o c1 e => hs₈.extBut _ _ c1 (hs₇.extBut _ _ c1 (Heap.get?_push_of_some _ e))
  have hT₈ : IsPair h₈ h₅.objs.size x y := hs₈.extBut _ _ (Nat.ne_of_gt hzlt) (hs₇.extBut _ _ (Nat.ne_of_gt hzlt) (Heap.get?_push_size _ rfl))
  have hz8 : h₈.objs.size = h₅.objs.size + 1 := by rw [hs₈.1, hs₇.1, Heap.size_push]
  rw [hsz] at hz₈ hT₈ hz8
  refine wpAny_pure ⟨_, rfl, ?_⟩
  show Q (.ref h₅.objs.size) _
  rw [hsz]
  exact hQ h₈ hz₈ (up _ _ D.TOz hTO₅) (h1₅.at fun o e => up _ o D.i1z e) (h2₅.at fun o e => up _ o D.i2z e) hT₈ hz8 fun c o c1 c2 c3 c4 e => up c o c1 (hk₅ c o c1 c2 c3 c4 e)
theorem zipS_item_held {z TI TO T i1 i2 l1 l2 : Addr} {f : Bool} {oT : Obj} {k1 k2 : Nat} {xs ys : Array Value} {x y : Value} {Q : Value → Shared → Prop} (D : ZipApart z TI TO i1 i2 l1 l2)
    (hz : IsZipSH s.heap z TI TO T f) (hT : s.heap.get? T = some oT) (hTI : IsPair s.heap TI (.ref i1) (.ref i2))
    (h1 : s.heap.IsListIter i1 l1 k1) (h2 : s.heap.IsListIter i2 l2 k2) (hl1 : s.heap.IsList l1 xs) (hl2 : s.heap.IsList l2 ys) (hx : xs[k1]? = some x) (hy : ys[k2]? = some y)
    (hQ : ∀ h', IsZipSH h' z TI TO T true → h'.IsListIter i1 l1 (k1 + 1) → h'.IsListIter i2 l2 (k2 + 1) → IsPair h' s.heap.objs.size x y → h'.objs.size = s.heap.objs.size + 1 →
      (∀ c o, c ≠ z → c ≠ i1 → c ≠ i2 → s.heap.get? c = some o → h'.get? c = some o) → Q (.ref s.heap.objs.size) { s with heap := h' }) :
    wpAny (model prog w) A (Builtin.«zip.__next__» ⟨[.ref z], []⟩) (fun fin s' => ∃ v, fin = .done (.ret v) ∧ Q v s') E s := by
  show wpAny _ _ (field (.ref z) 2 >>= _) _ _ _
  refine wpAny_bind (wpAny_field hz rfl (x := .bool true) rfl ?_)
  show wpAny _ _ (field (.ref z) 3 >>= _) _ _ _
  refine wpAny_bind (wpAny_field hz rfl (x := .ref TI) rfl ?_)
  refine wpAny_bind (wpAny_seqItems hTI rfl ?_)
  show wpAny _ _ (Builtin.SmallTypes.ownedTupleIsFree (.ref z) >>= _) _ _ _
  refine wpAny_bind (tupleHeldS hz hT fun h₁ hz₁ hs₁ => ?_)
  simp only [Bool.false_eq_true, if_false]
  refine wpAny_bind ?_
  rw [← Array.forIn_toList]
  simp only [List.forIn_cons, List.forIn_nil]
  refine wpAny_bind (wpAny_bind (wpAny_holding ?_))
  show wpAny _ _ (Builtin.SmallTypes.nextOrEnd (.ref i1)) _ _ _
  refine nextOrEnd_item (s := { s with heap := h₁ }) (h1.extBut hs₁.extBut D.i1z) (hl1.extBut hs₁.extBut D.l1z) hx fun h₂ h1₂ hs₂ => ?_
  refine wpAny_pure ?_
  refine wpAny_bind (wpAny_bind (wpAny_holding ?_))
  show wpAny _ _ (Builtin.SmallTypes.nextOrEnd (.ref i2)) _ _ _
  refine nextOrEnd_item (s := { s with heap := h₂ }) ((h2.extBut hs₁.extBut D.i2z).extBut hs₂.extBut D.i12.symm) ((hl2.extBut hs₁.extBut D.l2z).extBut hs₂.extBut D.l2i1) hy fun h₃ h2₃ hs₃ => ?_
  refine wpAny_pure (wpAny_pure ?_)
  show wpAny _ _ (newTuple [x, y] >>= _) _ _ _
  refine wpAny_bind (wpAny_newTuple ?_)
  have hsz : h₃.objs.size = s.heap.objs.size := by rw [hs₃.1, hs₂.1, hs₁.1]
  have hz₃ : IsZipSH h₃ z TI TO T true := hs₃.extBut _ _ D.i2z.symm (hs₂.extBut _ _ D.i1z.symm hz₁)
  have hk : ∀ c o, c ≠ z → c ≠ i1 → c ≠ i2 → s.heap.get? c = some o → h₃.get? c = some o := fun c o c1 c2 c3 e => hs₃.extBut _ _ c3 (hs₂.extBut _ _ c2 (hs₁.extBut _ _ c1 e))
  have h1₃ : h₃.IsListIter i1 l1 (k1 + 1) := h1₂.extBut hs₃.extBut D.i12
  refine wpAny_pure ⟨_, rfl, ?_⟩
  show Q (.ref h₃.objs.size) _
  have hp : IsPair (h₃.push { cls := .type "tuple", data := .seq #[x, y] }) h₃.objs.size x y := Heap.get?_push_size _ rfl
  have hz4 : (h₃.push { cls := .type "tuple", data := .seq #[x, y] }).objs.size = h₃.objs.size + 1 := Heap.size_push ..
  rw [hsz] at hp hz4 ⊢
  exact hQ _ (Heap.get?_push_of_some _ hz₃) (h1₃.at fun o e => Heap.get?_push_of_some _ e) (h2₃.at fun o e => Heap.get?_push_of_some _ e) hp hz4 fun c o c1 c2 c3 e => Heap.get?_push_of_some _ (hk c o c1 c2 c3 e)
theorem zipS_end_held {z TI TO T i1 i2 l1 l2 : Addr} {f : Bool} {oT : Obj} {k1 k2 : Nat} {xs ys : Array Value} {Q : Fin → Shared → Prop} (hh : A.handled = none) (D : ZipApart z TI TO i1 i2 l1 l2)
    (hz : IsZipSH s.heap z TI TO T f) (hT : s.heap.get? T = some oT) (hTI : IsPair s.heap TI (.ref i1) (.ref i2))
    (h1 : s.heap.IsListIter i1 l1 k1) (h2 : s.heap.IsListIter i2 l2 k2) (hl1 : s.heap.IsList l1 xs) (hl2 : s.heap.IsList l2 ys) (hx : xs[k1]? = none) (hy : ys[k2]? = none)
    (hE : ∀ h' e, (∀ c o, c ≠ z → c ≠ i1 → c ≠ i2 → s.heap.get? c = some o → h'.get? c = some o) → (∃ o, h'.get? e = some o ∧ o.cls = .type "StopIteration") → E (.ref e) { s with heap := h' }) :
    wpAny (model prog w) A (Builtin.«zip.__next__» ⟨[.ref z], []⟩) Q E s := by
  show wpAny _ _ (field (.ref z) 2 >>= _) _ _ _
  refine wpAny_bind (wpAny_field hz rfl (x := .bool true) rfl ?_)
  show wpAny _ _ (field (.ref z) 3 >>= _) _ _ _
  refine wpAny_bind (wpAny_field hz rfl (x := .ref TI) rfl ?_)
  refine wpAny_bind (wpAny_seqItems hTI rfl ?_)
  show wpAny _ _ (Builtin.SmallTypes.ownedTupleIsFree (.ref z) >>= _) _ _ _
  refine wpAny_bind (tupleHeldS hz hT fun h₁ hz₁ hs₁ => ?_)
  simp only [Bool.false_eq_true, if_false]
  refine wpAny_bind ?_
  rw [← Array.forIn_toList]
  simp only [List.forIn_cons, List.forIn_nil]
  refine wpAny_bind (wpAny_bind (wpAny_holding ?_))
  show wpAny _ _ (Builtin.SmallTypes.nextOrEnd (.ref i1)) _ _ _
  refine nextOrEnd_end (s := { s with heap := h₁ }) hh (h1.extBut hs₁.extBut D.i1z) (hl1.extBut hs₁.extBut D.l1z) hx fun h₂ hs₂ => ?_
  refine wpAny_bind ?_
  show wpAny _ _ (forIn _ _ _ >>= fun _ => rule _ >>= fun _ => Builtin.SmallTypes.stopIteration) _ _ _
  simp only [List.drop_succ_cons, List.drop_zero, List.zipIdx_cons, List.zipIdx_nil, List.forIn_cons, List.forIn_nil]
  refine wpAny_bind (wpAny_bind (wpAny_bind ?_))
  have h2' : h₂.IsListIter i2 l2 k2 := by
    obtain ⟨o, e, r⟩ := h2.extBut hs₁.extBut D.i2z
    exact ⟨o, hs₂ _ _ D.i12.symm e, r⟩
  have hl2' : h₂.IsList l2 ys := by
    obtain ⟨o, e, r⟩ := hl2.extBut hs₁.extBut D.l2z
    exact ⟨o, hs₂ _ _ D.l2i1 e, r⟩
  refine nextOrEnd_end (s := { s with heap := h₂ }) hh h2' hl2' hy fun h₃ hs₃ => ?_
  simp only [Option.isSome_none, Bool.false_eq_true, if_false]
  refine wpAny_pure (wpAny_pure ?_)
  refine wpAny_bind (wpAny_rule ?_)
  show wpAny _ _ (newExc (.type "StopIteration") [] >>= _) _ _ _
  refine wpAny_bind ?_
  simp only [newExc, newTuple]
  refine wpAny_bind (wpAny_newObj_type ?_ (by size_fits))
  refine wpAny_bind (m := firstArgMember _ _) (wpAny_of_eq (a := Value.none) (by first | rfl | (simp only [firstArgMember]; rfl)) ?_)
  refine wpAny_newObj_type ?_ (by size_fits)
  simp only [raiseNew]
  refine wpAny_bind (wpAny_handled ?_)
  rw [hh]
  refine wpAny_bind (wpAny_pure (wpAny_throw ?_))
  refine hE _ _ (fun c o c1 c2 c3 e => ?_) ⟨_, Heap.get?_push_size _ rfl, rfl⟩
  exact Heap.get?_push_of_some _ (Heap.get?_push_of_some _ (hs₃ _ _ c3 (hs₂ _ _ c2 (hs₁.extBut _ _ c1 e))))
theorem nextS_item {z TI TO i1 i2 l1 l2 : Addr} {k1 k2 : Nat} {xs ys : Array Value} {x y a b : Value} {Q : Option Value → Shared → Prop} (D : ZipApart z TI TO i1 i2 l1 l2)
    (hz : IsZipS s.heap z TI TO .none) (hTI : IsPair s.heap TI (.ref i1) (.ref i2)) (hTO : IsPair s.heap TO a b)
    (h1 : s.heap.IsListIter i1 l1 k1) (h2 : s.heap.IsListIter i2 l2 k2) (hl1 : s.heap.IsList l1 xs) (hl2 : s.heap.IsList l2 ys) (hx : xs[k1]? = some x) (hy : ys[k2]? = some y)
    (hQ : ∀ h', IsZipS h' z TI TO (rawInt s.heap.objs.size) → IsPair h' TO x y → h'.IsListIter i1 l1 (k1 + 1) → h'.IsListIter i2 l2 (k2 + 1) → IsPair h' s.heap.objs.size x y → h'.objs.size = s.heap.objs.size + 1 →
      (∀ c o, c ≠ z → c ≠ TO → c ≠ i1 → c ≠ i2 → s.heap.get? c = some o → h'.get? c = some o) → Q (some (.ref s.heap.objs.size)) { s with heap := h' }) :
    wpAny (model prog w) A (pyNext (.ref z)) Q E s := by
  have hT : s.TypeIs (.ref z) "zip" := ⟨_, hz, rfl⟩
  unfold pyNext
  exact wpAny_bind (wpAny_attempt (wpAny_callSpecial?_slot (name := Str.ofString "__next__") hT F.slot_zip_next
    (wpAny_call_entry F.slot_zip_next hT F.entry_zip_next
      (zipS_item D hz hTI hTO h1 h2 hl1 hl2 hx hy fun h' a1 a2 a3 a4 a5 a6 a7 => wpAny_pure (hQ h' a1 a2 a3 a4 a5 a6 a7)) (F.args_zip_next_1 _))))
theorem nextS_held {z TI TO T i1 i2 l1 l2 : Addr} {f : Bool} {oT : Obj} {k1 k2 : Nat} {xs ys : Array Value} {x y : Value} {Q : Option Value → Shared → Prop} (D : ZipApart z TI TO i1 i2 l1 l2)
    (hz : IsZipSH s.heap z TI TO T f) (hT : s.heap.get? T = some oT) (hTI : IsPair s.heap TI (.ref i1) (.ref i2))
    (h1 : s.heap.IsListIter i1 l1 k1) (h2 : s.heap.IsListIter i2 l2 k2) (hl1 : s.heap.IsList l1 xs) (hl2 : s.heap.IsList l2 ys) (hx : xs[k1]? = some x) (hy : ys[k2]? = some y)
    (hQ : ∀ h', IsZipSH h' z TI TO T true → h'.IsListIter i1 l1 (k1 + 1) → h'.IsListIter i2 l2 (k2 + 1) → IsPair h' s.heap.objs.size x y → h'.objs.size = s.heap.objs.size + 1 →
      (∀ c o, c ≠ z → c ≠ i1 → c ≠ i2 → s.heap.get? c = some o → h'.get? c = some o) → Q (some (.ref s.heap.objs.size)) { s with heap := h' }) :
    wpAny (model prog w) A (pyNext (.ref z)) Q E s := by
  have hTy : s.TypeIs (.ref z) "zip" := ⟨_, hz, rfl⟩
  unfold pyNext
  exact wpAny_bind (wpAny_attempt (wpAny_callSpecial?_slot (name := Str.ofString "__next__") hTy F.slot_zip_next
    (wpAny_call_entry F.slot_zip_next hTy F.entry_zip_next
      (zipS_item_held D hz hT hTI h1 h2 hl1 hl2 hx hy fun h' a1 a3 a4 a5 a6 a7 => wpAny_pure (hQ h' a1 a3 a4 a5 a6 a7)) (F.args_zip_next_1 _))))
theorem nextS_end {z TI TO T i1 i2 l1 l2 : Addr} {f : Bool} {oT : Obj} {k1 k2 : Nat} {xs ys : Array Value} {Q : Option Value → Shared → Prop} (hh : A.handled = none) (D : ZipApart z TI TO i1 i2 l1 l2)
    (hz : IsZipSH s.heap z TI TO T f) (hT : s.heap.get? T = some oT) (hTI : IsPair s.heap TI (.ref i1) (.ref i2))
    (h1 : s.heap.IsListIter i1 l1 k1) (h2 : s.heap.IsListIter i2 l2 k2) (hl1 : s.heap.IsList l1 xs) (hl2 : s.heap.IsList l2 ys) (hx : xs[k1]? = none) (hy : ys[k2]? = none)
    (hQ : ∀ h', (∀ c o, c ≠ z → c ≠ i1 → c ≠ i2 → s.heap.get? c = some o → h'.get? c = some o) → Q none { s with heap := h' }) : wpAny (model prog w) A (pyNext (.ref z)) Q E s := by
  have hTy : s.TypeIs (.ref z) "zip" := ⟨_, hz, rfl⟩
  unfold pyNext
  refine wpAny_bind (wpAny_attempt (wpAny_callSpecial?_slot (name := Str.ofString "__next__") hTy F.slot_zip_next
    (wpAny_call_entry F.slot_zip_next hTy F.entry_zip_next (zipS_end_held (A := A.in1) hh D hz hT hTI h1 h2 hl1 hl2 hx hy fun h' e hk he => ?_) (F.args_zip_next_1 _))))
  obtain ⟨o, ho, hc⟩ := he
  refine wpAny_bind (wpAny_isInstance (T := "StopIteration") (b := true) ⟨o, ho, hc⟩ isSubtype_stop ?_)
  exact wpAny_pure (hQ _ hk)
theorem iterS {z TI TO : Addr} {f0 : Value} {Q : Value → Shared → Prop} (hz : IsZipS s.heap z TI TO f0) (h : Q (.ref z) s) : wpAny (model prog w) A (pyIter (.ref z)) Q E s := by
  have hT : s.TypeIs (.ref z) "zip" := ⟨_, hz, rfl⟩
  refine wpAny_pyIter_slot hT F.slot_zip_iter (wpAny_call_entry F.slot_zip_iter hT F.entry_zip_iter ?_ (F.args_zip_iter_1 _))
  show wpAny _ _ (ret (.ref z)) _ _ s
  exact wpAny_pure ⟨_, rfl, "zip", _, hT, F.slot_zip_next.lookup, h⟩
/-! ### zip(xs, ys, strict=True) -/
abbrev zipHS (h : Heap) (l1 l2 : Addr) : Heap := (zipH4 h l1 l2).push { cls := .type "zip", data := .fields #[.none, .bool false, .bool true, .ref (zipH2 h l1 l2).objs.size, .ref (zipH3 h l1 l2).objs.size] }
theorem meets_zipS_new (l1 l2 : Addr) (xs ys : Array Value) :
    Meets (Builtin.«zip.__new__» ⟨[.type "zip", .ref l1, .ref l2], [(Str.ofString "strict", .bool true)]⟩) (fun _ R s => s.heap.IsList l1 xs ∧ s.heap.IsList l2 ys ∧
      R (.ok (.ret (.ref (zipH4 s.heap l1 l2).objs.size))) { s with heap := zipHS s.heap l1 l2 }) :=
  .of_wp fun prog w A R s h => by
    obtain ⟨hp, g, d, tk, os⟩ := s; obtain ⟨hl1, hl2, h⟩ := h
    have hsub := sub_zip
    have hL1 : Heap.IsList (Shared.heap ⟨hp, g, d, tk, os⟩) l1 xs := hl1
    have hL2 : Heap.IsList (Shared.heap ⟨hp.push { cls := .type "list_iterator", data := .fields #[.ref l1, .int 0 0] }, g, d, tk, os⟩) l2 ys := Heap.IsList.push hl2 _
    have hne : (Str.ofString "strict" != Str.ofString "strict") = false := by kernel_rfl
    wp_walk using wpAny_pyIter_list hL1, wpAny_pyIter_list hL2
    exact ⟨_, rfl, h⟩
end
end Wk

set_option maxRecDepth 100000
set_option maxHeartbeats 4000000
namespace Wk
open PySem PySem.Spec PyProof.Rows L2 PySem.W
structure ZSt (z TI TO i1 i2 l1 l2 S : Addr) (xs ys : Array Value) (h : Heap) (i : Nat) (as : List Addr) : Prop where
  tp : IsPair h TI (.ref i1) (.ref i2)
  it1 : h.IsListIter i1 l1 i
  it2 : h.IsListIter i2 l2 i
  L1 : h.IsList l1 xs
  L2 : h.IsList l2 ys
  zz : (i = 0 ∧ IsZipS h z TI TO .none ∧ ∃ a b, IsPair h TO a b) ∨ (0 < i ∧ ∃ T f oT, IsZipSH h z TI TO T f ∧ h.get? T = some oT ∧ T ≠ z ∧ T ≠ i1 ∧ T ≠ i2 ∧ T ≠ S)
  len : as.length = i
  pr : ∀ (j : Nat) (a : Addr), as[j]? = some a → ∃ x y, xs[j]? = some x ∧ ys[j]? = some y ∧ IsPair h a x y
  new : ∀ a ∈ as, S < a
  nd : as.Nodup
section
variable {prog : Program} {w : World} {A : Around} {E : Value → Shared → Prop} {s : Shared} {z TI TO i1 i2 l1 l2 S : Addr} {xs ys : Array Value}
theorem ZSt.touch {h h' : Heap} {i : Nat} {as : List Addr} (Z : ZSt z TI TO i1 i2 l1 l2 S xs ys h i as) (hz : z < S) (hTI : TI < S) (hTO : TO < S) (h1 : i1 < S) (h2 : i2 < S) (hl1 : l1 < S) (hl2 : l2 < S)
    (k : ∀ b o, b ≠ S → h.get? b = some o → h'.get? b = some o) : ZSt z TI TO i1 i2 l1 l2 S xs ys h' i as := by
  obtain ⟨tp, it1, it2, L1, L2, zz, len, pr, new, nd⟩ := Z
  refine ⟨k _ _ (Nat.ne_of_lt hTI) tp, it1.at fun o e => k _ o (Nat.ne_of_lt h1) e, it2.at fun o e => k _ o (Nat.ne_of_lt h2) e, L1.at fun o e => k _ o (Nat.ne_of_lt hl1) e, L2.at fun o e => k _ o (Nat.ne_of_lt hl2) e, ?_, len, ?_, new, nd⟩
  · rcases zz with ⟨e, z1, a, b, z2⟩ | ⟨hp, T, f, oT, z1, z2, a, b, c, d⟩
    · exact .inl ⟨e, k _ _ (Nat.ne_of_lt hz) z1, a, b, k _ _ (Nat.ne_of_lt hTO) z2⟩
    · exact .inr ⟨hp, T, f, oT, k _ _ (Nat.ne_of_lt hz) z1, k _ _ d z2, a, b, c, d⟩
  · intro j a e
    obtain ⟨x, y, e1, e2, e3⟩ := pr j a e
    exact ⟨x, y, e1, e2, k _ _ (Nat.ne_of_gt (new a (List.mem_of_getElem? e))) e3⟩
theorem loopS {R : Result → Shared → Prop} (hh : A.handled = none) (D : ZipApart z TI TO i1 i2 l1 l2) (hxy : xs.size = ys.size) (hn : xs.size ≤ sizeLine) (h1n : 1 ≤ xs.size)
    (hz : z < S) (hTI : TI < S) (hTO : TO < S) (h1 : i1 < S) (h2 : i2 < S) (hl1 : l1 < S) (hl2 : l2 < S) (res : Value) {h₁ : Heap}
    (hR : ∀ h' tk c (as : List Addr), (∀ b o, b < S → b ≠ z → b ≠ TO → b ≠ i1 → b ≠ i2 → h₁.get? b = some o → h'.get? b = some o) → h'.get? S = some { cls := .type "list", dict := none, data := .seq (as.map Value.ref).toArray c, slots := #[] } →
      as.length = xs.size → (∀ (j : Nat) (a : Addr), as[j]? = some a → ∃ x y, xs[j]? = some x ∧ ys[j]? = some y ∧ IsPair h' a x y) → (∀ a ∈ as, S < a) → as.Nodup → R (.ok (.ret res)) { s with heap := h', toks := tk }) :
    ∀ (k i : Nat) (h : Heap) (tk c : Nat) (as : List Addr), xs.size - i = k → i ≤ xs.size → ZSt z TI TO i1 i2 l1 l2 S xs ys h i as →
      h.get? S = some { cls := .type "list", dict := none, data := .seq (as.map Value.ref).toArray c, slots := #[] } → (∀ b o, b < S → b ≠ z → b ≠ TO → b ≠ i1 → b ≠ i2 → h₁.get? b = some o → h.get? b = some o) →
      codeAny (model prog w) A (.builtin "list.extend.loop" ⟨[.ref S, .ref z, res], []⟩) R { s with heap := h, toks := tk } := by
  intro k
  induction k with
  | zero =>
    intro i h tk c as hk hi Z hS kp
    have hin : i = xs.size := by omega
    refine codeAny_builtin F.entry_extend_loop ?_
    rw [Around.under_plainId F.plain_extend_loop _]
    show wpAny _ A.in1 (pyNext (.ref z) >>= _) _ _ _
    rcases Z.zz with ⟨e, _⟩ | ⟨hp, T, f, oT, z1, z2, a, b, c', d⟩
    · omega
    refine wpAny_bind (nextS_end (A := A.in1) (s := { s with heap := h, toks := tk }) hh D z1 z2 Z.tp Z.it1 Z.it2 Z.L1 Z.L2 (by rw [hin]; simp) (by rw [hin, hxy]; simp) fun h' hk' => ?_)
    have nS : ∀ {b}, b < S → S ≠ b := fun e => Nat.ne_of_gt e
    refine wpAny_pure (hR h' tk c as (fun b o e0 e1 e2 e3 e4 e => hk' b o e1 e3 e4 (kp b o e0 e1 e2 e3 e4 e)) (hk' _ _ (nS hz) (nS h1) (nS h2) hS) (by rw [Z.len, hin]) (fun j a e => ?_) Z.new Z.nd)
    obtain ⟨x, y, e1, e2, e3⟩ := Z.pr j a e
    have ha := Z.new a (List.mem_of_getElem? e)
    exact ⟨x, y, e1, e2, hk' _ _ (Nat.ne_of_gt (Nat.lt_trans hz ha)) (Nat.ne_of_gt (Nat.lt_trans h1 ha)) (Nat.ne_of_gt (Nat.lt_trans h2 ha)) e3⟩
  | succ k ih =>
    intro i h tk c as hk hi Z hS kp
    have hlt : i < xs.size := by omega
    have ex : xs[i]? = some xs[i] := Array.getElem?_eq_getElem hlt
    have ey : ys[i]? = some ys[i] := Array.getElem?_eq_getElem (by omega)
    have nS : ∀ {b}, b < S → S ≠ b := fun e => Nat.ne_of_gt e
    have hSl : S < h.objs.size := Heap.lt_size hS
    refine codeAny_builtin F.entry_extend_loop ?_
    rw [Around.under_plainId F.plain_extend_loop _]
    show wpAny _ A.in1 (pyNext (.ref z) >>= _) _ _ _
    have step : ∀ h', (∃ T f oT, IsZipSH h' z TI TO T f ∧ h'.get? T = some oT ∧ T ≠ z ∧ T ≠ i1 ∧ T ≠ i2 ∧ T ≠ S) → h'.IsListIter i1 l1 (i + 1) → h'.IsListIter i2 l2 (i + 1) → IsPair h' h.objs.size xs[i] ys[i] →
        (∀ c o, c ≠ z → c ≠ TO → c ≠ i1 → c ≠ i2 → h.get? c = some o → h'.get? c = some o) →
        wpAny (model prog w) A.in1 (updateSeq S (·.push (.ref h.objs.size)) >>= fun _ => again (.builtin "list.extend.loop" ⟨[.ref S, .ref z, res], []⟩))
          (fun fin s' => match fin with | .done f => R (.ok f) s' | .again c' => c'.quiet = true ∧ codeAny (model prog w) A c' R s') (fun e s' => R (.error e) s') { s with heap := h', toks := tk } := by
      intro h' zz' a3 a4 a5 kk
      have hS' := kk _ _ (nS hz) (nS hTO) (nS h1) (nS h2) hS
      refine wpAny_bind ?_
      refine wpAny_updateSeq hS' rfl (wpAny_pure ⟨plainId_quiet F.plain_extend_loop _, ?_⟩) (by rw [List.size_toArray, List.length_map, Z.len]; omega) (by show (Array.push _ _).size ≤ sizeLine + 1; rw [Array.size_push, List.size_toArray, List.length_map, Z.len]; omega)
      have e5 : (((as.map Value.ref).toArray).push (.ref h.objs.size)) = ((as ++ [h.objs.size]).map Value.ref).toArray := by simp
      have hS2 := Heap.get?_update_self (Obj.mapSeq (·.push (Value.ref h.objs.size))) hS' rfl
      have up : ∀ b o, b ≠ S → h'.get? b = some o → (h'.update S (Obj.mapSeq (·.push (Value.ref h.objs.size)))).get? b = some o := fun b o hb e => (Heap.get?_update_other _ _ (Ne.symm hb)).trans e
      have hlast : ∀ a ∈ as, a < h.objs.size := fun a ha => by
        obtain ⟨j, hj⟩ := List.mem_iff_getElem?.mp ha
        obtain ⟨x, y, _, _, e3⟩ := Z.pr j a hj
        exact Heap.lt_size e3
      refine ih (i + 1) _ tk ?cc (as ++ [h.objs.size]) (by omega) hlt ?zst ?seq (fun b o e0 e1 e2 e3 e4 e => up b o (Nat.ne_of_lt e0) (kk b o e1 e2 e3 e4 (kp b o e0 e1 e2 e3 e4 e)))
      rotate_left 2
      case zst =>
        refine ZSt.touch ?_ hz hTI hTO h1 h2 hl1 hl2 up
        refine ⟨kk _ _ D.TIz D.TITO D.TIi1 D.TIi2 Z.tp, a3, a4, Z.L1.at fun o e => kk _ o D.l1z D.l1TO D.l1i1 D.l1i2 e, Z.L2.at fun o e => kk _ o D.l2z D.l2TO D.l2i1 D.l2i2 e, .inr ⟨Nat.succ_pos _, zz'⟩, by rw [List.length_append, Z.len]; rfl, ?_, ?_, ?_⟩
        · intro j a e
          rw [List.getElem?_append] at e
          split at e
          · obtain ⟨x, y, e1, e2, e3⟩ := Z.pr j a e
            have ha := Z.new a (List.mem_of_getElem? e)
            exact ⟨x, y, e1, e2, kk _ _ (Nat.ne_of_gt (Nat.lt_trans hz ha)) (Nat.ne_of_gt (Nat.lt_trans hTO ha)) (Nat.ne_of_gt (Nat.lt_trans h1 ha)) (Nat.ne_of_gt (Nat.lt_trans h2 ha)) e3⟩
          · rename_i hge
            have hj : j - as.length = 0 := by
              rcases Nat.eq_zero_or_pos (j - as.length) with e0 | e0
              · exact e0
              · rw [List.getElem?_eq_none (by simp; omega)] at e; cases e
            rw [hj] at e
            cases e
            have hji : j = i := by rw [← Z.len]; omega
            subst hji
            exact ⟨_, _, ex, ey, a5⟩
        · intro a ha
          rcases List.mem_append.mp ha with ha | ha
          · exact Z.new a ha
          · rw [List.mem_singleton.mp ha]; exact hSl
        · refine List.nodup_append.mpr ⟨Z.nd, by simp, fun a ha b hb => ?_⟩
          rw [List.mem_singleton.mp hb]
          exact Nat.ne_of_lt (hlast a ha)
      case seq =>
        rw [← e5]
        exact hS2
    have lt : ∀ {c o}, h.get? c = some o → h.objs.size ≠ c := fun e => Nat.ne_of_gt (Heap.lt_size e)
    have n1 : h.objs.size ≠ i1 := let ⟨_, e, _⟩ := Z.it1; lt e
    have n2 : h.objs.size ≠ i2 := let ⟨_, e, _⟩ := Z.it2; lt e
    rcases Z.zz with ⟨e, z1, a, b, z2⟩ | ⟨hp, T, f, oT, z1, z2, a, b, c', d⟩
    · exact wpAny_bind (nextS_item (A := A.in1) (s := { s with heap := h, toks := tk }) D z1 Z.tp z2 Z.it1 Z.it2 Z.L1 Z.L2 ex ey fun h' b1 b2 b3 b4 b5 b6 kk => step h' ⟨h.objs.size, false, _, b1, b5, lt z1, n1, n2, lt hS⟩ b3 b4 b5 kk)
    · exact wpAny_bind (nextS_held (A := A.in1) (s := { s with heap := h, toks := tk }) D z1 z2 Z.tp Z.it1 Z.it2 Z.L1 Z.L2 ex ey fun h' b1 b3 b4 b5 b6 kk => step h' ⟨T, true, oT, b1, kk _ _ a b c' z2, a, b, c', d⟩ b3 b4 b5 fun c o c1 c2 c3 c4 e => kk c o c1 c3 c4 e)
theorem zip_no_len : typeLookup (.type "zip") "__len__" = pure none := am_miss_of_fast (by decide +kernel)
theorem zip_no_hint : typeLookup (.type "zip") "__length_hint__" = pure none := am_miss_of_fast (by decide +kernel)
theorem hintS (hT : s.TypeIs (.ref z) "zip") {Q : Bool → Shared → Prop} (h : Q true s) : wpAny (model prog w) A (Builtin.List.listLengthHint (.ref z)) Q E s := by
  unfold Builtin.List.listLengthHint
  refine wpAny_bind (wpAny_specialOf hT zip_no_len ?_)
  refine wpAny_ite_split (fun hab => absurd hab (by decide)) (fun _ => ?_)
  refine wpAny_ite_split (fun hab => absurd hab (by decide)) (fun _ => ?_)
  refine wpAny_bind (wpAny_specialOf hT zip_no_hint ?_)
  exact wpAny_pure h
theorem extendS {R : Result → Shared → Prop} (hh : A.handled = none) (D : ZipApart z TI TO i1 i2 l1 l2) (hxy : xs.size = ys.size) (hn : xs.size ≤ sizeLine) (h1n : 1 ≤ xs.size)
    (hz : z < S) (hTI : TI < S) (hTO : TO < S) (h1 : i1 < S) (h2 : i2 < S) (hl1 : l1 < S) (hl2 : l2 < S) (res : Value) (c₀ : Nat) (hS : s.heap.get? S = some { cls := .type "list", data := .seq #[] c₀ })
    (Z : ZSt z TI TO i1 i2 l1 l2 S xs ys s.heap 0 [])
    (hR : ∀ h' tk c (as : List Addr), (∀ b o, b < S → b ≠ z → b ≠ TO → b ≠ i1 → b ≠ i2 → s.heap.get? b = some o → h'.get? b = some o) → h'.get? S = some { cls := .type "list", dict := none, data := .seq (as.map Value.ref).toArray c, slots := #[] } →
      as.length = xs.size → (∀ (j : Nat) (a : Addr), as[j]? = some a → ∃ x y, xs[j]? = some x ∧ ys[j]? = some y ∧ IsPair h' a x y) → (∀ a ∈ as, S < a) → as.Nodup → R (.ok (.ret res)) { s with heap := h', toks := tk }) :
    wpAny (model prog w) A.in1 (Builtin.List.listExtendWith (.ref S) (.ref z) res)
      (fun fin s' => match fin with | .done f => R (.ok f) s' | .again c' => c'.quiet = true ∧ codeAny (model prog w) A c' R s') (fun e s' => R (.error e) s') s := by
  have hzz : IsZipS s.heap z TI TO .none := by
    rcases Z.zz with ⟨_, h, _⟩ | ⟨h, _⟩
    · exact h
    · exact absurd h (Nat.lt_irrefl _)
  have hT : s.TypeIs (.ref z) "zip" := ⟨_, hzz, rfl⟩
  unfold Builtin.List.listExtendWith
  refine wpAny_bind (wpAny_typeOf (T := "zip") hT ?_)
  have e1 : Builtin.List.listSameRef (.ref S) (.ref z) = false := by simp [Builtin.List.listSameRef, Nat.ne_of_gt hz]
  simp only [e1, show (Value.type "zip" == Value.type "list") = false from by decide, show (Value.type "zip" == Value.type "tuple") = false from by decide, Bool.or_false, Bool.false_eq_true, if_false]
  refine wpAny_bind (iterS hzz ?_)
  refine wpAny_bind (wpAny_holding (hintS hT ?_))
  simp only [Bool.true_or, if_true]
  refine wpAny_bind (wpAny_rule ?_)
  refine wpAny_bind ?_
  show wpAny _ _ (updateSeq S (·.push .none) >>= fun _ => updateSeq S (·.pop)) _ _ _
  refine wpAny_bind (wpAny_updateSeq hS rfl ?_)
  have hS₂ := Heap.get?_update_self (Obj.mapSeq (·.push Value.none)) hS rfl
  refine wpAny_updateSeq (hz := by seq_fits) hS₂ rfl ?_
  have hS₃ := Heap.get?_update_self (Obj.mapSeq (·.pop)) hS₂ rfl
  have up : ∀ b o, b ≠ S → s.heap.get? b = some o → ((s.heap.update S (Obj.mapSeq (·.push Value.none))).update S (Obj.mapSeq (·.pop))).get? b = some o := fun b o hb e =>
    (Heap.get?_update_other _ _ (Ne.symm hb)).trans ((Heap.get?_update_other _ _ (Ne.symm hb)).trans e)
  exact wpAny_pure ⟨plainId_quiet PySem.F.plain_extend_loop _, loopS (s := s) hh D hxy hn h1n hz hTI hTO h1 h2 hl1 hl2 res hR _ 0 _ _ _ [] rfl (Nat.zero_le _) (Z.touch hz hTI hTO h1 h2 hl1 hl2 up) hS₃ fun b o e0 _ _ _ _ e => up b o (Nat.ne_of_lt e0) e⟩
theorem initS {R : Result → Shared → Prop} (hh : A.handled = none) (D : ZipApart z TI TO i1 i2 l1 l2) (hxy : xs.size = ys.size) (hn : xs.size ≤ sizeLine) (h1n : 1 ≤ xs.size)
    (hz : z < S) (hTI : TI < S) (hTO : TO < S) (h1 : i1 < S) (h2 : i2 < S) (hl1 : l1 < S) (hl2 : l2 < S) (hS : s.heap.get? S = some { cls := .type "list", data := .seq #[] })
    (Z : ZSt z TI TO i1 i2 l1 l2 S xs ys s.heap 0 [])
    (hR : ∀ h' tk c (as : List Addr), (∀ b o, b < S → b ≠ z → b ≠ TO → b ≠ i1 → b ≠ i2 → s.heap.get? b = some o → h'.get? b = some o) → h'.get? S = some { cls := .type "list", dict := none, data := .seq (as.map Value.ref).toArray c, slots := #[] } →
      as.length = xs.size → (∀ (j : Nat) (a : Addr), as[j]? = some a → ∃ x y, xs[j]? = some x ∧ ys[j]? = some y ∧ IsPair h' a x y) → (∀ a ∈ as, S < a) → as.Nodup → R (.ok (.ret .none)) { s with heap := h', toks := tk }) :
    wpAny (model prog w) A.in1 (Builtin.«list.__init__» ⟨[.ref S, .ref z], []⟩)
      (fun fin s' => match fin with | .done f => R (.ok f) s' | .again c' => c'.quiet = true ∧ codeAny (model prog w) A c' R s') (fun e s' => R (.error e) s') s := by
  show wpAny _ _ (do let old ← Builtin.List.listItems (.ref S); Builtin.List.listUpdate (.ref S) (fun _ => #[]); letGo old.toList.reverse; Builtin.List.listExtendWith (.ref S) (.ref z) .none) _ _ s
  refine wpAny_bind ?_
  unfold Builtin.List.listItems
  refine wpAny_bind (wpAny_seqItems hS rfl (wpAny_pure ?_))
  show wpAny _ _ (updateSeq S (fun _ => #[]) >>= fun _ => letGo (#[] : Array Value).toList.reverse >>= fun _ => Builtin.List.listExtendWith (.ref S) (.ref z) .none) _ _ s
  refine wpAny_bind (wpAny_updateSeq hS rfl ?_)
  have hS₂ := Heap.get?_update_self (Obj.mapSeq (fun _ => (#[] : Array Value))) hS rfl
  have oth : ∀ b o, b ≠ S → s.heap.get? b = some o → (s.heap.update S (Obj.mapSeq (fun _ => (#[] : Array Value)))).get? b = some o :=
    fun b o hb e => (Heap.get?_update_other _ _ (Ne.symm hb)).trans e
  refine wpAny_bind (wpAny_letGo ?_)
  exact extendS hh D hxy hn h1n hz hTI hTO h1 h2 hl1 hl2 .none _ hS₂ (Z.touch hz hTI hTO h1 h2 hl1 hl2 oth) fun h' tk c as kk a1 a2 a3 a4 a5 => hR h' tk c as (fun b o e0 e1 e2 e3 e4 e => kk b o e0 e1 e2 e3 e4 (oth b o (Nat.ne_of_lt e0) e)) a1 a2 a3 a4 a5
end
end Wk

set_option maxRecDepth 100000
set_option maxHeartbeats 4000000
namespace Wk
open PySem PySem.Spec PyProof.Rows L2 PySem.W
theorem typeCall_zipS (a b c : Value) : checkTypeCall "zip" ⟨[a, b], [(Str.ofString "strict", c)]⟩ = pure () := by kernel_rfl
theorem newCall_zipS (a b c : Value) : checkBuiltinCall "zip.__new__" ⟨[.type "zip", a, b], [(Str.ofString "strict", c)]⟩ = pure () := by kernel_rfl
theorem args_object_init_strict (obj a b c : Value) : argsOk "object.__init__" ⟨[obj, a, b], [(Str.ofString "strict", c)]⟩ := by
  unfold argsOk; rw [signature?_of (id := "object.__init__") (n := ['_', '_', 't', 'i', 'n', 'i', '_', '_']) (o := ['t', 'c', 'e', 'j', 'b', 'o']) (by kernel_rfl) PySem.F.owner_object]; kernel_rfl
section
variable {prog : Program} {w : World} {A : Around} {E : Value → Shared → Prop} {s : Shared}
theorem call_zipS {l1 l2 : Addr} {xs ys : Array Value} {Q : Value → Shared → Prop} (hl1 : s.heap.IsList l1 xs) (hl2 : s.heap.IsList l2 ys)
    (h : ∀ h', IsZipS h' (s.heap.objs.size + 4) (s.heap.objs.size + 2) (s.heap.objs.size + 3) .none → IsPair h' (s.heap.objs.size + 2) (.ref s.heap.objs.size) (.ref (s.heap.objs.size + 1)) →
      IsPair h' (s.heap.objs.size + 3) .none .none → h'.IsListIter s.heap.objs.size l1 0 → h'.IsListIter (s.heap.objs.size + 1) l2 0 → h'.objs.size = s.heap.objs.size + 5 →
      (∀ c o, s.heap.get? c = some o → h'.get? c = some o) → Q (.ref (s.heap.objs.size + 4)) { s with heap := h' }) :
    wpAny (model prog w) A (call (.type "zip") [.ref l1, .ref l2] [(Str.ofString "strict", .bool true)]) Q E s := by
  refine callType_newKw F.called_zip (by decide) (typeCall_zipS _ _ _) (newCall_zipS _ _ _) (fun obj => args_object_init_strict obj _ _ _) F.entry_zip_new
    (meets_zipS_new l1 l2 xs ys) ⟨hl1, hl2, ?_⟩
  have z1 : (zipH1 s.heap l1).objs.size = s.heap.objs.size + 1 := Heap.size_push ..
  have z2 : (zipH2 s.heap l1 l2).objs.size = s.heap.objs.size + 2 := by rw [Heap.size_push, z1]
  have z3 : (zipH3 s.heap l1 l2).objs.size = s.heap.objs.size + 3 := by rw [Heap.size_push, z2]
  have z4 : (zipH4 s.heap l1 l2).objs.size = s.heap.objs.size + 4 := by rw [Heap.size_push, z3]
  have z5 : (zipHS s.heap l1 l2).objs.size = s.heap.objs.size + 5 := by rw [Heap.size_push, z4]
  have g5 : (zipHS s.heap l1 l2).get? (zipH4 s.heap l1 l2).objs.size = some _ := Heap.get?_push_size _ rfl
  have g4 : (zipHS s.heap l1 l2).get? (zipH3 s.heap l1 l2).objs.size = some _ := Heap.get?_push_of_some _ (Heap.get?_push_size _ rfl)
  have g3 : (zipHS s.heap l1 l2).get? (zipH2 s.heap l1 l2).objs.size = some _ := Heap.get?_push_of_some _ (Heap.get?_push_of_some _ (Heap.get?_push_size _ rfl))
  have g2 : (zipHS s.heap l1 l2).get? (zipH1 s.heap l1).objs.size = some _ := Heap.get?_push_of_some _ (Heap.get?_push_of_some _ (Heap.get?_push_of_some _ (Heap.get?_push_size _ rfl)))
  have g1 : (zipHS s.heap l1 l2).get? s.heap.objs.size = some _ := Heap.get?_push_of_some _ (Heap.get?_push_of_some _ (Heap.get?_push_of_some _ (Heap.get?_push_of_some _ (Heap.get?_push_size _ rfl))))
  show _ ∧ _
  rw [z2, z3, z4] at g5
  rw [z1, z2] at g3
  rw [z3] at g4
  rw [z1] at g2
  rw [z4]
  exact ⟨⟨_, g5, rfl⟩, h _ g5 g3 g4 ⟨_, g1, rfl, rfl⟩ ⟨_, g2, rfl, rfl⟩ z5 fun c o x =>
    Heap.get?_push_of_some _ (Heap.get?_push_of_some _ (Heap.get?_push_of_some _ (Heap.get?_push_of_some _ (Heap.get?_push_of_some _ x))))⟩
theorem call_listS {z TI TO i1 i2 l1 l2 : Addr} {xs ys : Array Value} {Q : Value → Shared → Prop} (hh : A.handled = none) (D : ZipApart z TI TO i1 i2 l1 l2) (hxy : xs.size = ys.size) (hn : xs.size ≤ sizeLine) (h1n : 1 ≤ xs.size)
    (hz : z < s.heap.objs.size) (hTI : TI < s.heap.objs.size) (hTO : TO < s.heap.objs.size) (h1 : i1 < s.heap.objs.size) (h2 : i2 < s.heap.objs.size) (hl1 : l1 < s.heap.objs.size) (hl2 : l2 < s.heap.objs.size)
    (Z : ZSt z TI TO i1 i2 l1 l2 s.heap.objs.size xs ys s.heap 0 [])
    (hQ : ∀ h' tk c (as : List Addr), (∀ b o, b ≠ z → b ≠ TO → b ≠ i1 → b ≠ i2 → s.heap.get? b = some o → h'.get? b = some o) → h'.get? s.heap.objs.size = some { cls := .type "list", dict := none, data := .seq (as.map Value.ref).toArray c, slots := #[] } →
      as.length = xs.size → (∀ (j : Nat) (a : Addr), as[j]? = some a → ∃ x y, xs[j]? = some x ∧ ys[j]? = some y ∧ IsPair h' a x y) → (∀ a ∈ as, s.heap.objs.size < a) → as.Nodup → Q (.ref s.heap.objs.size) { s with heap := h', toks := tk }) :
    wpAny (model prog w) A (call (.type "list") [.ref z]) Q E s := by
  refine callType_codes (Q₁ := fun obj s₁ => obj = .ref s.heap.objs.size ∧ s₁ = { s with heap := s.heap.push { cls := .type "list", data := .seq #[] } }) PySem.F.called_list (PySem.F.typeCall_list_1 _) PySem.F.entry_list_init
    (code_list_new _ ⟨rfl, rfl⟩) fun obj s₁ h₁ => ?_
  obtain ⟨rfl, rfl⟩ := h₁
  have hS : (s.heap.push { cls := .type "list", data := .seq #[] }).get? s.heap.objs.size = some { cls := .type "list", data := .seq #[] } := Heap.get?_push_size _ rfl
  refine ⟨⟨_, hS, rfl⟩, PySem.F.args_list_init_2 _ _, initS (A := A.in1) (s := { s with heap := s.heap.push { cls := .type "list", data := .seq #[] } }) hh D hxy hn h1n hz hTI hTO h1 h2 hl1 hl2 hS (Z.touch hz hTI hTO h1 h2 hl1 hl2 fun b o _ e => Heap.get?_push_of_some _ e)
    fun h' tk c as kk a1 a2 a3 a4 a5 => ?_⟩
  exact ⟨rfl, hQ h' tk c as (fun b o e1 e2 e3 e4 e => kk b o (Heap.lt_size e) e1 e2 e3 e4 (Heap.get?_push_of_some _ e)) a1 a2 a3 a4 a5⟩
theorem callWith_typeKw {M : Model} {pos : Pos} {T : String} {args : List (Bool × Sem Value)} {keywords : List (Option Str × Sem Value)} {Q : Value → Shared → Prop}
    (hplain : args.any (·.1) = false) (hkw : keywords.any (·.1.isNone) = false)
    (h : wpAny M A (evalArgs (.type T) true args keywords) (fun a s₁ => wpAny M A (call (.type T) a.pos a.kw) Q E s₁) E s) :
    wpAny M A (callWith pos (.type T) [] args keywords) Q E s := by
  unfold callWith
  refine wpAny_bind (wpAny_holding (wpAny_mono h (fun a s₁ h₁ => wpAny_bind (wpAny_standAt ?_)) fun _ _ x => x))
  simp only [hplain, hkw, Bool.or_false]
  refine wpAny_bind (wpAny_pure ?_)
  exact wpAny_bind (wpAny_mono h₁ (fun r s₂ hr => wpAny_bind (wpAny_holding (wpAny_point (wpAny_pure hr)))) fun _ _ x => x)
end
/-! ### the heap told -/
def putP : Hp → List Addr → List (V × V) → Hp
  | H, a :: as, p :: ps => putP (upd H a (.tup [p.1, p.2])) as ps
  | H, _, _ => H
theorem putP_off {b : Addr} : ∀ (as : List Addr) (ps : List (V × V)) (H : Hp), b ∉ as → putP H as ps b = H b
  | [], _, _, _ => rfl
  | _ :: _, [], _, _ => rfl
  | a :: as, p :: ps, H, h => by
    show putP (upd H a (.tup [p.1, p.2])) as ps b = H b
    rw [putP_off as ps _ (fun z => h (List.mem_cons_of_mem _ z)), upd_ne (fun z => h (by rw [z]; exact List.mem_cons_self))]
theorem putP_at : ∀ (as : List Addr) (ps : List (V × V)) (H : Hp), as.length = ps.length → as.Nodup → Paired (fun (t : Addr) (p : V × V) => putP H as ps t = some (.tup [p.1, p.2])) as ps
  | [], [], _, _, _ => .nil
  | [], _ :: _, _, h, _ => by cases h
  | _ :: _, [], _, h, _ => by cases h
  | a :: as, p :: ps, H, h, hn => by
    have hn' := List.nodup_cons.mp hn
    have ih := putP_at as ps (upd H a (.tup [p.1, p.2])) (Nat.succ.inj h) hn'.2
    refine .cons ?_ ih
    show putP (upd H a (.tup [p.1, p.2])) as ps a = some (.tup [p.1, p.2])
    rw [putP_off as ps _ hn'.1, upd_same]
theorem pairs_laid {X : Cx} {pins : List (Addr × Obj)} {σ : L2.St} {H : Hp} {s : Shared} {h' : Heap} {tk : Nat} {ps : List (V × V)} {S : Addr} {c : Nat} {as : List Addr} (I : Inv X pins σ H s) (hz : ps.length ≤ sizeLine)
    (hk : ∀ b o, s.heap.get? b = some o → h'.get? b = some o) (hS0 : s.heap.objs.size ≤ S) (hS : h'.get? S = some { cls := .type "list", dict := none, data := .seq (as.map Value.ref).toArray c, slots := #[] }) (hl : as.length = ps.length)
    (hab : ∀ a ∈ as, S < a) (nd : as.Nodup) (hpr : ∀ (j : Nat) (a : Addr), as[j]? = some a → ∃ (p : V × V) (x y : Value), ps[j]? = some p ∧ RelV p.1 x ∧ RelV p.2 y ∧ IsPair h' a x y) :
    ∃ H' : Hp, Same H H' ∧ H S = none ∧ H' S = some (.lst (as.map V.ref)) ∧ Paired (fun (t : Addr) (q : V × V) => H' t = some (.tup [q.1, q.2])) as ps ∧ Inv X pins σ H' { s with heap := h', toks := tk } := by
  have hSn : S ∉ as := fun z => Nat.lt_irrefl _ (hab _ z)
  have new : ∀ t ∈ as, H t = none := fun t ht => I.hok.fresh (Nat.le_of_lt (Nat.lt_of_le_of_lt hS0 (hab t ht)))
  have newS : H S = none := I.hok.fresh hS0
  have atP := putP_at as ps (upd H S (.lst (as.map V.ref))) hl nd
  have off : ∀ b, b ∉ as → b ≠ S → putP (upd H S (.lst (as.map V.ref))) as ps b = H b := fun b h1 h2 => by rw [putP_off as ps _ h1, upd_ne h2]
  have low : ∀ b o, s.heap.get? b = some o → b ∉ as ∧ b ≠ S := fun b o e => ⟨fun z => absurd (Heap.lt_size e) (Nat.not_lt.mpr (Nat.le_of_lt (Nat.lt_of_le_of_lt hS0 (hab b z)))), Nat.ne_of_lt (Nat.lt_of_lt_of_le (Heap.lt_size e) hS0)⟩
  have kp : ∀ b u, H b = some u → (putP (upd H S (.lst (as.map V.ref))) as ps) b = some u := fun b u e => by
    rw [off b (fun z => by rw [new b z] at e; cases e) (fun z => by rw [z, newS] at e; cases e)]
    exact e
  have eS : putP (upd H S (.lst (as.map V.ref))) as ps S = some (.lst (as.map V.ref)) := by rw [putP_off as ps _ hSn, upd_same]
  refine ⟨putP (upd H S (.lst (as.map V.ref))) as ps, kp, newS, eS, atP, ?_⟩
  refine I.call' (ch := []) rfl ⟨fun b o q _ _ _ => hk b o q, fun b o q _ _ _ => ⟨o.slots, hk b o q⟩, fun b o q n _ => ?_, fun b o q _ => ⟨o, hk b o q⟩, fun b xs q => kp b _ q, fun b o u q => kp b _ q, fun b ps q => ⟨#[], by rw [kp b _ q]; simp⟩⟩ (fun b u q => ?_) I.bare fun b z => by simp at z
  · obtain ⟨z1, z2⟩ := low b o q
    rw [off b z1 z2]
    exact n
  · by_cases hb : b ∈ as
    · obtain ⟨j, pk, e1, e2, e3⟩ := LiI.paired_ix atP hb
      rw [e3] at q
      cases q
      obtain ⟨p, x, y, f1, f2, f3, f4⟩ := hpr j b e1
      rw [f1] at e2
      cases e2
      exact ⟨by show 2 ≤ sizeLine; decide, [x, y], .cons f2 (.cons f3 .nil), ⟨_, f4, rfl, _, rfl⟩⟩
    · by_cases hb2 : b = S
      · rw [hb2] at q ⊢
        rw [eS] at q
        cases q
        exact ⟨by rw [List.length_map]; omega, as.map Value.ref, c, vals_refs as, hS⟩
      · rw [off b hb hb2] at q
        exact (I.hok b u q).stay (fun d v _ y => hk d v y) (fun d y => kp d _ y) fun d xs y => kp d _ y
/-! ### list(zip(a, b, strict=True)) -/
def tZipS (K : PySem.W.Frag) (t : TA) : TE := fun σ H Q => t σ H fun vs H1 => ∃ l1 l2 xs ys, vs = [V.ref l1, V.ref l2] ∧ SqL K H1 l1 xs ∧ SqL K H1 l2 ys ∧ xs.length = ys.length ∧ 1 ≤ xs.length ∧
  ∀ H' p (as : List Addr), Same H1 H' → H1 p = none → H' p = some (.lst (as.map V.ref)) → Paired (fun (a : Addr) (q : V × V) => H' a = some (.tup [q.1, q.2])) as (xs.zip ys) → Q (.ref p) H'
theorem pe_zipS {X : Cx} {a b c : Expr} {ta : TA} {p p2 zpos pos kpos : Pos} (hc : X.calm = true) (hg : Gl X "list") (hm : X.mg "list" = none) (hg2 : Gl X "zip") (hm2 : X.mg "zip" = none) (ha : PA X [a, b] ta) (hcst : PE X c (tC (.bl true)))
    (hv : bootBuiltins "list" = some (.type "list") := by decide +kernel) (hv2 : bootBuiltins "zip" = some (.type "zip") := by decide +kernel)
    (hs : starEach [.Call (.Name "zip" p2) [a, b] [⟨some "strict", c, kpos⟩] zpos] X.env = (false, eval (.Call (.Name "zip" p2) [a, b] [⟨some "strict", c, kpos⟩] zpos) X.env) :: starEach [] X.env := by rfl)
    (he : backTo zpos (starEach [a, b] X.env) = (false, eval a X.env) :: backTo zpos (starEach [b] X.env) := by rfl) (hpl : (backTo zpos (starEach [a, b] X.env)).any (·.1) = false := by rfl)
    (hall : (backToKw zpos (keywordEach [⟨some "strict", c, kpos⟩] X.env)).all (·.1.isSome) = true := by rfl) (hnone : (backToKw zpos (keywordEach [⟨some "strict", c, kpos⟩] X.env)).any (·.1.isNone) = false := by rfl)
    (hks : (backToKw zpos (keywordEach [⟨some "strict", c, kpos⟩] X.env)).filterMap (·.1) = [Str.ofString "strict"] := by rfl) :
    PE X (.Call (.Name "list" p) [.Call (.Name "zip" p2) [a, b] [⟨some "strict", c, kpos⟩] zpos] [] pos) (tZipS X.K ta) := by
  refine ⟨fun pins s σ H Q I hq => ?_⟩
  refine wpAny_Call_Name_kw (ld_blt I hg hm hv ?_)
  refine PyProof.Rows.callWith_type1 ?_ hs rfl
  rw [hs]
  show wpAny _ _ (spliced ((false, eval (.Call (.Name "zip" p2) [a, b] [⟨some "strict", c, kpos⟩] zpos) X.env) :: backTo pos (starEach [] X.env))) _ _ s
  refine Calls.spliced_cons ?_
  refine wpAny_Call_Name_kw (ld_blt I hg2 hm2 hv2 ?_)
  refine callWith_typeKw hpl hnone ?_
  rw [he]
  refine evalArgs_kwB hall ?_
  rw [← he]
  refine thn (ha.run zpos pins s σ H _ I hq) fun us s1 ⟨vs, H1, I1, r1, l1, l2, xs, ys, ev, hx, hy, hlen, h1n, q⟩ => ?_
  refine thn ((pk_cons hcst pk_nil).run zpos pins s1 σ H1 (fun zs H2 => zs = [V.bl true] ∧ H2 = H1) I1 ⟨rfl, rfl⟩) fun ws s2 ⟨zs, H2, I2, r2, ez, eH⟩ => ?_
  subst ev ez eH
  rw [hks]
  obtain ⟨u1, u2, rfl, ru1, ru2⟩ := vals2 r1
  cases ru1
  cases ru2
  obtain ⟨w1, rfl, ew⟩ := vals1 r2
  obtain rfl : w1 = Value.bool true := ew
  obtain ⟨its1, rv1, pl1, hz1⟩ := I2.list hx
  obtain ⟨its2, rv2, pl2, hz2⟩ := I2.list hy
  have L1 := pl1.isList
  have L2 := pl2.isList
  refine call_zipS L1 L2 fun h' g1 g2 g3 g4 g5 g6 kk => ?_
  refine Calls.spliced_nil ?_
  have b1 : l1 < s2.heap.objs.size := let ⟨_, e, _⟩ := L1; Heap.lt_size e
  have b2 : l2 < s2.heap.objs.size := let ⟨_, e, _⟩ := L2; Heap.lt_size e
  have D : ZipApart (s2.heap.objs.size + 4) (s2.heap.objs.size + 2) (s2.heap.objs.size + 3) s2.heap.objs.size (s2.heap.objs.size + 1) l1 l2 := by
    constructor <;> first | exact Nat.ne_of_lt b1 | exact Nat.ne_of_lt b2 | exact Nat.ne_of_lt (Nat.lt_of_lt_of_le b1 (Nat.le_add_right _ _)) | exact Nat.ne_of_lt (Nat.lt_of_lt_of_le b2 (Nat.le_add_right _ _)) | exact Nat.ne_of_lt (by omega) | exact Nat.ne_of_gt (by omega)
  have L1' : h'.IsList l1 its1.toArray := L1.at fun o e => kk _ o e
  have L2' : h'.IsList l2 its2.toArray := L2.at fun o e => kk _ o e
  have e1 : its1.toArray.size = xs.length := by rw [List.size_toArray, ← rv1.length]
  have e2 : its2.toArray.size = ys.length := by rw [List.size_toArray, ← rv2.length]
  refine call_listS (s := { s2 with heap := h' }) (I2.ok.hd hc) D (by rw [e1, e2, hlen]) (by rw [e1]; exact hz1) (by rw [e1]; exact h1n) (by show _ < h'.objs.size; omega) (by show _ < h'.objs.size; omega) (by show _ < h'.objs.size; omega) (by show _ < h'.objs.size; omega) (by show _ < h'.objs.size; omega) (by rw [g6]; exact Nat.lt_of_lt_of_le b1 (Nat.le_add_right _ _)) (by rw [g6]; exact Nat.lt_of_lt_of_le b2 (Nat.le_add_right _ _))
    ⟨g2, g4, g5, L1', L2', .inl ⟨rfl, g1, _, _, g3⟩, rfl, fun j a e => by simp at e, fun a ha => absurd ha (by simp), List.nodup_nil⟩ fun h'' tk c as k2 a1 a2 a3 a4 a5 => ?_
  have hzl : (xs.zip ys).length = xs.length := by rw [List.length_zip]; omega
  have hpr : ∀ (j : Nat) (a : Addr), as[j]? = some a → ∃ (p : V × V) (x y : Value), (xs.zip ys)[j]? = some p ∧ RelV p.1 x ∧ RelV p.2 y ∧ IsPair h'' a x y := by
    intro j a e
    obtain ⟨x, y, h1, h2, h3⟩ := a3 j a e
    have hj : j < xs.length := by rw [← e1]; exact (Array.getElem?_eq_some_iff.mp h1).1
    have hj2 : j < ys.length := by omega
    have t1 : its1[j]? = some x := by simpa using h1
    have t2 : its2[j]? = some y := by simpa using h2
    obtain ⟨v1, q1, r1'⟩ := rv1.get (List.getElem?_eq_getElem hj)
    obtain ⟨v2, q2, r2'⟩ := rv2.get (List.getElem?_eq_getElem hj2)
    rw [t1] at q1
    rw [t2] at q2
    cases q1
    cases q2
    exact ⟨(xs[j], ys[j]), x, y, by rw [List.getElem?_eq_getElem (by omega), List.getElem_zip], r1', r2', h3⟩
  obtain ⟨H', s1', n1, f1, f2, J⟩ := pairs_laid (tk := tk) (S := h'.objs.size) (ps := xs.zip ys) I2 (by rw [hzl]; exact hz1) (fun b o e => by
      have hb := Heap.lt_size e
      exact k2 b o (Nat.ne_of_lt (Nat.lt_of_lt_of_le hb (Nat.le_add_right _ _))) (Nat.ne_of_lt (Nat.lt_of_lt_of_le hb (Nat.le_add_right _ _))) (Nat.ne_of_lt hb) (Nat.ne_of_lt (Nat.lt_of_lt_of_le hb (Nat.le_add_right _ _))) (kk b o e)) (by rw [g6]; exact Nat.le_add_right _ _) a1 (by rw [hzl, ← e1]; exact a2) a4 a5 hpr
  exact ⟨.ref _, H', J, rfl, q H' _ as s1' n1 f1 f2⟩
end Wk

set_option maxRecDepth 100000
set_option maxHeartbeats 4000000
namespace Wk
open PySem PySem.Spec PyProof.Rows L2 PySem.W
theorem call_enumT {prog : Program} {w : World} {A : Around} {E : Value → Shared → Prop} {s : Shared} {t : Addr} {items : Array Value} {Q : Value → Shared → Prop} (hL : s.heap.IsTuple t items)
    (h : ∀ h', IsEnum h' (s.heap.objs.size + 1) s.heap.objs.size 0 .none → h'.IsTupleIter s.heap.objs.size t 0 → h'.objs.size = s.heap.objs.size + 2 →
      (∀ b o, s.heap.get? b = some o → h'.get? b = some o) → Q (.ref (s.heap.objs.size + 1)) { s with heap := h' }) :
    wpAny (model prog w) A (call (.type "enumerate") [.ref t]) Q E s := by
  refine callType_new F.called_enumerate (by decide) (F.typeCall_enumerate_1 _) (F.newCall_enumerate_1 _) (fun obj => F.args_object_init_2 obj _) F.entry_enumerate_new
    (meets_enumerate_newT (begins_tuple t items)) ⟨hL, ?_⟩
  have hz : (s.heap.push { cls := .type "tuple_iterator", data := .fields #[.ref t, .int 0 0] }).objs.size = s.heap.objs.size + 1 := Heap.size_push ..
  show _ ∧ _
  rw [hz]
  have he : IsEnum ((s.heap.push { cls := .type "tuple_iterator", data := .fields #[.ref t, .int 0 0] }).push
      { cls := .type "enumerate", data := .fields #[.none, .bool false, .ref s.heap.objs.size, rawInt 0, .none, .none] }) (s.heap.objs.size + 1) s.heap.objs.size 0 .none := by
    have := Heap.get?_push_size (s.heap.push { cls := .type "tuple_iterator", data := .fields #[.ref t, .int 0 0] })
      (o := { cls := .type "enumerate", data := .fields #[.none, .bool false, .ref s.heap.objs.size, rawInt 0, .none, .none] }) rfl
    rw [hz] at this; exact this
  refine ⟨⟨_, he, rfl⟩, h _ he ⟨_, Heap.get?_push_of_some _ (Heap.get?_push_size _ rfl), rfl, rfl⟩ (by rw [Heap.size_push, hz]) fun b o x => Heap.get?_push_of_some _ (Heap.get?_push_of_some _ x)⟩
def iEnumT (K : PySem.W.Frag) (ta : TA) : TI := fun σ H R => ta σ H fun vs H1 => ∃ a xs, vs = [.ref a] ∧ SqT K H1 a xs ∧ R (IteT K a) H1
theorem pi_enumT (K : PySem.W.Frag) {X : Cx} {e : Expr} {ta : TA} {p pos tpos : Pos} {elts : List Expr} {kk : Nat} (hg : Gl X "enumerate") (hm : X.mg "enumerate" = none) (ha : PA X [e] ta) (hK : X.K = K := by rfl) (hs : starEach [e] X.env = [(false, eval e X.env)] := by rfl) :
    PI X (.Tuple elts kk tpos) (.Call (.Name "enumerate" p) [e] [] pos) (iEnumT K ta) := by
  subst hK
  refine ⟨fun pins s σ H R I h => ?_⟩
  refine Call_ (ld_blt I hg hm boot_enumerate (PyProof.Rows.callWith_type1 (thn (ha.run pos pins s σ H _ I h) fun us s1 ⟨vs, H1, I1, r1, q1⟩ => ?_) hs rfl))
  obtain ⟨a, xs, ex, hq, q⟩ := q1
  subst ex
  cases r1 with
  | cons r rr =>
    cases rr
    cases r
    obtain ⟨its, rv, p', hz⟩ := I1.tuple hq
    have ht : s1.heap.IsTuple a its.toArray := by obtain ⟨o, ho, hcl, n, hd⟩ := p'; exact ⟨o, ho, hcl, n, hd⟩
    have hal : a < s1.heap.objs.size := let ⟨_, e, _⟩ := ht; Heap.lt_size e
    refine call_enumT ht fun h' he hit hsz hk => wpAny_pyIter_enum he ?_
    have I2 : Inv X pins σ H1 { s1 with heap := h' } := I1.kept (t' := s1.toks) hk
    refine ⟨s1.heap.objs.size + 1, [s1.heap.objs.size + 1, s1.heap.objs.size], _, _, H1, rfl, I2, turn_enumT a (s1.heap.objs.size + 1) s1.heap.objs.size (Nat.ne_of_lt (Nat.lt_of_lt_of_le hal (Nat.le_add_right _ _))) (Nat.ne_of_lt hal), ⟨⟨.none, he⟩, hit, Nat.succ_ne_self _⟩, fun b hb => ?_, q⟩
    have e' : b = s1.heap.objs.size + 1 ∨ b = s1.heap.objs.size := by simpa using hb
    have hle : s1.heap.objs.size ≤ b := by
      rcases e' with z | z
      · rw [z]; exact Nat.le_add_right _ _
      · rw [z]; exact Nat.le_refl _
    exact I1.fpOk hle (I1.hok.fresh hle)
theorem walk_enumT {K : PySem.W.Frag} {a : Addr} {xs : List V} : Walk (IteT K a) xs.length (fun H => SqT K H a xs) (YPair (fun i => some (.int (i : Nat))) (fun i => xs[i]?)) := by
  refine ⟨fun i _ hi q => ⟨xs, xs[i], q, by simp [hi]⟩, fun _ q => ⟨xs, q, Nat.le_refl _⟩, fun i H v H' _ q y => ?_⟩
  obtain ⟨T, x, h1, h2, h3, h4⟩ := y
  exact ⟨T, .int (i : Nat), x, h1, h2, h3, rfl, h4 xs q⟩
end Wk

set_option maxRecDepth 100000
set_option maxHeartbeats 4000000
namespace Wk
open PySem PySem.Spec PyProof.Rows L2 Co
/-! ### what the top has, by names -/
structure Txt (K : PySem.W.Frag) (mg : Str → Option Value) : Prop where
  n_len : mg "len" = none
  n_all : mg "all" = none
  n_sum : mg "sum" = none
  n_abs : mg "abs" = none
  n_int : mg "int" = none
  n_list : mg "list" = none
  n_tuple : mg "tuple" = none
  n_dict : mg "dict" = none
  n_range : mg "range" = none
  n_enumerate : mg "enumerate" = none
  n_zip : mg "zip" = none
  n_sorted : mg "sorted" = none
  c_FEWEST_HOURS : ∃ t, mg "FEWEST_HOURS" = some (.int (3) t)
  c_MOST_HOURS : ∃ t, mg "MOST_HOURS" = some (.int (15) t)
  c_LAND : ∃ t, mg "LAND" = some (.int (-1) t)
  c_UNTOLD : ∃ t, mg "UNTOLD" = some (.int (-2) t)
  c_MOST_SIDE : ∃ t, mg "MOST_SIDE" = some (.int (9) t)
  d_is_clock : Df K mg "is_clock" (top 6)
  d_step_of : Df K mg "step_of" (top 7)
  d_is_square : Df K mg "is_square" (top 12)
  d_is_chart : Df K mg "is_chart" (top 13)
  d_need_chart : Df K mg "need_chart" (top 14)
  d_within : Df K mg "within" (top 15)
  d_value : Df K mg "value" (top 16)
  d_is_told : Df K mg "is_told" (top 17)
  d_is_sea : Df K mg "is_sea" (top 18)
  d_every_square : Df K mg "every_square" (top 19)
  d_beside : Df K mg "beside" (top 20)
  d_told_squares : Df K mg "told_squares" (top 21)
  d_sides_of : Df K mg "sides_of" (top 22)
  d_flooded : Df K mg "flooded" (top 23)
  d_corners : Df K mg "corners" (top 25)
  d_about : Df K mg "about" (top 26)
  d_across : Df K mg "across" (top 27)
  d_is_side : Df K mg "is_side" (top 28)
  d_whirl : Df K mg "whirl" (top 29)
  d_grown : Df K mg "grown" (top 30)
  d_eyes_of : Df K mg "eyes_of" (top 31)
  d_count_of : Df K mg "count_of" (top 32)
  d_eyes : Df K mg "eyes" (top 33)
  d_whole_count : Df K mg "whole_count" (top 34)
  d_flanks : Df K mg "flanks" (top 36)
  d_settled : Df K mg "settled" (top 38)
  d_least_breaks : Df K mg "least_breaks" (top 39)
  d_weight : Df K mg "weight" (top 40)
  d_least_weight : Df K mg "least_weight" (top 41)
  d_half_of : Df K mg "half_of" (top 43)
  d_room_between : Df K mg "room_between" (top 44)
  d_rooms : Df K mg "rooms" (top 45)
  d_ring_back : Df K mg "ring_back" (top 46)
  d_tides : Df K mg "tides" (top 47)
  d_bar : Df K mg "bar" (top 48)
  d_can_fill : Df K mg "can_fill" (top 49)
  d_turned : Df K mg "turned" (top 51)
  d_mirrored : Df K mg "mirrored" (top 52)
  d__law_box : Df K mg "_law_box" (top 55)
  d__law_mixed : Df K mg "_law_mixed" (top 56)
  d__law_take : Df K mg "_law_take" (top 57)
  d__law_clock : Df K mg "_law_clock" (top 58)
  d__law_square : Df K mg "_law_square" (top 59)
  d__law_near_hour : Df K mg "_law_near_hour" (top 60)
  d__law_chart : Df K mg "_law_chart" (top 61)
  d__law_some_chart : Df K mg "_law_some_chart" (top 62)
  d__law_whirled : Df K mg "_law_whirled" (top 63)
  d__law_about : Df K mg "_law_about" (top 64)
  d_law : Df K mg "law" (top 65)

/-! ### how data lie in the heap -/
def IsSq (H : Hp) (v : V) (s : Sq) : Prop := ∃ a, v = .ref a ∧ H a = some (.tup [.int s.1, .int s.2])
def IsRow (H : Hp) (v : V) (row : List Int) : Prop := ∃ a, v = .ref a ∧ H a = some (.tup (row.map .int))
def IsCh (H : Hp) (v : V) (c : Ch) : Prop := ∃ a b rs, v = .ref a ∧ H a = some (.tup [.int c.clock, .ref b]) ∧ H b = some (.tup rs) ∧ Paired (IsRow H) rs c.rows
/-- tuples stay -/
def TK (H H' : Hp) : Prop := ∀ a xs, H a = some (.tup xs) → H' a = some (.tup xs)
theorem TK.refl (H : Hp) : TK H H := fun _ _ h => h
theorem TK.trans {H H1 H2 : Hp} (a : TK H H1) (b : TK H1 H2) : TK H H2 := fun c xs h => b c xs (a c xs h)
theorem TK.of_same {H H' : Hp} (h : Same H H') : TK H H' := fun _ _ e => h _ _ e
theorem same_new {H : Hp} {p : Addr} (hp : H p = none) (o : HO) : Same H (upd H p o) := fun b u e => by rw [upd_ne (ne_of_none e hp)]; exact e
theorem TK.new {H : Hp} {p : Addr} (hp : H p = none) (o : HO) : TK H (upd H p o) := .of_same (same_new hp o)
theorem TK.put {H : Hp} {p : Addr} {o u : HO} (hp : H p = some u) (hu : ∀ xs, u ≠ .tup xs) : TK H (upd H p o) := fun b xs e => by
  rw [upd_ne (ne_of e hp (hu xs).symm)]; exact e
theorem IsSq.tk {H H' : Hp} {v : V} {s : Sq} (h : IsSq H v s) (k : TK H H') : IsSq H' v s := let ⟨a, e, h⟩ := h; ⟨a, e, k _ _ h⟩
theorem IsRow.tk {H H' : Hp} {v : V} {s : List Int} (h : IsRow H v s) (k : TK H H') : IsRow H' v s := let ⟨a, e, h⟩ := h; ⟨a, e, k _ _ h⟩
theorem IsCh.tk {H H' : Hp} {v : V} {c : Ch} (h : IsCh H v c) (k : TK H H') : IsCh H' v c :=
  let ⟨a, b, rs, e, h1, h2, h3⟩ := h; ⟨a, b, rs, e, k _ _ h1, k _ _ h2, Paired.mapP h3 fun _ _ r => r.tk k⟩
theorem paired_get2 {α β : Type} {F : α → β → Prop} : ∀ {l₁ : List α} {l₂ : List β} {i : Nat} {b : β}, Paired F l₁ l₂ → l₂[i]? = some b → ∃ a, l₁[i]? = some a ∧ F a b
  | _, _, _, _, .nil, e => by simp at e
  | _, _, 0, _, .cons r _, e => by simp at e; subst e; exact ⟨_, rfl, r⟩
  | _, _, i + 1, b, .cons _ t, e => by
    obtain ⟨u, h1, h2⟩ := paired_get2 (i := i) (b := b) t (by simpa using e)
    exact ⟨u, by simpa using h1, h2⟩

/-! ### small helps -/
theorem iteD {c A B : Prop} [Decidable c] (hc : c) (h : A) : if decide c = true then A else B := by
  rw [decide_eq_true hc]
  exact iteT h
theorem iteN {c A B : Prop} [Decidable c] (hc : ¬ c) (h : B) : if decide c = true then A else B := by
  rw [decide_eq_false hc]
  exact iteF h
theorem iteB {b : Bool} {A B : Prop} (h1 : b = true → A) (h2 : b = false → B) : if b = true then A else B := by
  cases b with
  | true => exact iteT (h1 rfl)
  | false => exact iteF (h2 rfl)
theorem tyes {σ : L2.St} {H : Hp} {A B : Hp → Prop} (h : A H) : tYes σ H fun b H3 => if b = true then A H3 else B H3 := by
  show if true = true then A H else B H
  rw [if_pos rfl]; exact h
theorem sapp {H0 H : Hp} (h : Same H0 H) {p : Addr} (hp : H0 p = none) (o : HO) : Same H0 (upd H p o) := fun b u e => by
  rw [upd_ne (ne_of_none e hp)]; exact h _ _ e
theorem small99 {n : Nat} (h : n ≤ 10000) : n < sizeLine := Nat.lt_of_le_of_lt h (by rw [sizeLine_eq]; decide)
/-- a list whose items are told by R -/
def IsL {α : Type} (R : Hp → V → α → Prop) (H : Hp) (p : Addr) (l : List α) : Prop := ∃ xs, H p = some (.lst xs) ∧ Paired (R H) xs l
theorem pTk {α : Type} {R : Hp → V → α → Prop} (hR : ∀ H H' v a, R H v a → TK H H' → R H' v a) {H H' : Hp} {xs : List V} {l : List α} (h : Paired (R H) xs l) (k : TK H H') : Paired (R H') xs l := Paired.mapP h fun _ _ r => hR _ _ _ _ r k
theorem pLen {α β : Type} {F : α → β → Prop} {l₁ : List α} {l₂ : List β} (h : Paired F l₁ l₂) : l₁.length = l₂.length := Paired.length h
theorem take_snoc {α : Type} {l : List α} {i : Nat} {x : α} (h : l[i]? = some x) : l.take (i + 1) = l.take i ++ [x] := by
  rw [List.take_add_one, h]; rfl
/-- a chart, opened -/
theorem IsCh.open_ {H : Hp} {v : V} {c : Ch} (h : IsCh H v c) (g : c.Good) : ∃ a b rs r0, v = .ref a ∧ H a = some (.tup [.int c.clock, .ref b]) ∧ H b = some (.tup rs) ∧ Paired (IsRow H) rs c.rows ∧ rs.length = c.high ∧ rs[0]? = some (.ref r0) ∧
    H r0 = some (.tup ((c.rows.headD []).map .int)) ∧ ((c.rows.headD []).map V.int).length = c.wide := by
  obtain ⟨a, b, rs, rfl, ha, hb, hrs⟩ := h
  have h1 := g.h1
  obtain ⟨x, hx, ⟨r, rfl, hr⟩⟩ := paired_get2 hrs (List.getElem?_eq_getElem (show 0 < c.rows.length by omega))
  refine ⟨a, b, rs, r, rfl, ha, hb, hrs, pLen hrs, hx, ?_, by rw [List.length_map]; rfl⟩
  have e : c.rows.headD [] = c.rows[0] := by
    have : ∀ (l : List (List Int)) (h : 0 < l.length), l.headD [] = l[0] := fun l h => by
      cases l with
      | nil => simp at h
      | cons y r => rfl
    exact this _ _
  rw [e]; exact hr
section
variable {P : Program} {w : World} {K : PySem.W.Frag} {mg : Str → Option Value} {base : Heap}
/-! ### is_clock -/
theorem sc_is_clock : FnScope ["clock"] ["clock"] (defScope (top 6)) := ⟨rfl, rfl, rfl, by decide +kernel, rfl, by decide +kernel, by decide +kernel⟩
def spIsClock : SpV := fun vs H Q => ∃ c : Int, vs = [.int c] ∧ 3 ≤ c ∧ c ≤ 15 ∧ c % 2 = 1 ∧ Q (.bl true) H
theorem g_is_clock (T : Txt K mg) : G P w K mg base 1 "is_clock" spIsClock := by
  refine g_of 0 T.d_is_clock sc_is_clock (by rintro vs H Q ⟨c, rfl, _⟩; rfl) (fun _ _ _ _ _ _ us hl => match us, hl with | [_], _ => rfl) ?_
  rintro f cdv A outer s H vs Q E hr ⟨c, rfl, h1, h2, h3, q⟩
  refine ⟨_, (pss_one (ps_ret (pe_and (pe_chain op_le op_le (pe_const rfl T.c_FEWEST_HOURS) (pv 0) (pe_const rfl T.c_MOST_HOURS)) (pe_one (pe_cmpR op_eq (pe_op op_mod (pv 0) pe_int) pe_int (nomark _)))))), ?_⟩
  refine ⟨_, rfl, _, _, rfl, rfl, _, rfl, iteD h1 ⟨_, _, rfl, rfl, _, rfl, iteD h2 ⟨_, rfl, _, _, rfl, rfl, (by show (0 : Int) < 2; decide), rfl, ?_⟩⟩⟩
  have e : decide (V.int (c % 2) = V.int 1) = true := decide_eq_true (by rw [h3])
  show Q (.bl (decide (V.int (c % 2) = V.int 1))) H
  rw [e]; exact q
/-! ### step_of -/
theorem sc_step_of : FnScope ["clock", "one", "other", "found"] ["clock", "one", "other"] (defScope (top 7)) := ⟨rfl, rfl, rfl, by decide +kernel, rfl, by decide +kernel, by decide +kernel⟩
def spStepOf : SpV := fun vs H Q => ∃ m a b : Int, vs = [.int m, .int a, .int b] ∧ 3 ≤ m ∧ m ≤ 15 ∧ Q (.int (stepOf m a b)) H
theorem g_step_of (T : Txt K mg) : G P w K mg base 1 "step_of" spStepOf := by
  refine g_of 0 T.d_step_of sc_step_of (by rintro vs H Q ⟨m, a, b, rfl, _⟩; rfl) (fun _ _ _ _ _ _ us hl => match us, hl with | [_, _, _], _ => rfl) ?_
  rintro f cdv A outer s H vs Q E hr ⟨m, a, b, rfl, h1, h2, q⟩
  have nd := sc_step_of.nd
  refine ⟨_, (pss_cons (ps_set (i := 3) nd rfl (by first | exact Or.inl rfl | exact Or.inr rfl) (pe_op op_mod (pe_op op_sub (pv 2) (pv 1)) (pv 0)))
      (pss_cons (ps_if (pt_cmpR op_gt (pe_op op_mul pe_int (pv 3)) (pv 0) (nomark _)) (pss_one (ps_aug (i := 3) nd rfl (by first | exact Or.inl rfl | exact Or.inr rfl) (pv 0) ip_sub)) pss_nil)
      (pss_one (ps_ret (pv 3))))), ?_⟩
  refine ⟨_, rfl, _, rfl, _, _, rfl, rfl, _, rfl, _, _, rfl, rfl, (by show 0 < m; omega), _, rfl, _, _, rfl, rfl, .inl ⟨by decide, by decide⟩, _, rfl, _, _, rfl, rfl, _, rfl, ?_⟩
  unfold stepOf at q
  by_cases h : m < 2 * ((b - a) % m)
  · rw [if_pos h] at q
    exact iteD h ⟨_, rfl, _, rfl, _, _, rfl, rfl, _, rfl, q⟩
  · rw [if_neg h] at q
    exact iteN h ⟨_, rfl, q⟩
/-! ### is_square -/
theorem sc_is_square : FnScope ["clock", "square"] ["clock", "square"] (defScope (top 12)) := ⟨rfl, rfl, rfl, by decide +kernel, rfl, by decide +kernel, by decide +kernel⟩
def spIsSquare : SpV := fun vs H Q => ∃ c x : Int, vs = [.int c, .int x] ∧ -2 ≤ x ∧ x < c ∧ Q (.bl true) H
theorem g_is_square (T : Txt K mg) : G P w K mg base 1 "is_square" spIsSquare := by
  refine g_of 0 T.d_is_square sc_is_square (by rintro vs H Q ⟨c, x, rfl, _⟩; rfl) (fun _ _ _ _ _ _ us hl => match us, hl with | [_, _], _ => rfl) ?_
  rintro f cdv A outer s H vs Q E hr ⟨c, x, rfl, h1, h2, q⟩
  refine ⟨_, (pss_one (ps_ret (pe_chain op_le op_lt (pe_const rfl T.c_UNTOLD) (pv 1) (pv 0)))), ?_⟩
  refine ⟨_, rfl, _, _, rfl, rfl, _, rfl, iteD h1 ⟨_, rfl, _, _, rfl, rfl, ?_⟩⟩
  show Q (.bl (decide (x < c))) H
  rw [decide_eq_true h2]; exact q
/-! ### is_chart -/
theorem sc_is_chart : FnScope ["chart", "clock", "rows", "wide", "row", "one"] ["chart"] (defScope (top 13)) := ⟨rfl, rfl, rfl, by decide +kernel, rfl, by decide +kernel, by decide +kernel⟩
def spIsChart : SpV := fun vs H Q => ∃ v c, vs = [v] ∧ IsCh H v c ∧ c.Good ∧ ∀ H', Same H H' → Q (.bl true) H'
theorem all_true {bs : List Bool} (h : ∀ b, b ∈ bs → b = true) : bs.all id = true := List.all_eq_true.mpr h
theorem g_is_chart (T : Txt K mg) : G P w K mg base 2 "is_chart" spIsChart := by
  refine g_of 1 T.d_is_chart sc_is_chart (by rintro vs H Q ⟨v, c, rfl, _⟩; rfl) (fun _ _ _ _ _ _ us hl => match us, hl with | [_], _ => rfl) ?_
  rintro f cdv A outer s H vs Q E hr ⟨v, c, rfl, hc, g, q⟩
  obtain ⟨a, b, rs, r0, rfl, ha, hb, hrs, hl, h0, hr0, hlw⟩ := hc.open_ g
  have nd := sc_is_chart.nd
  refine ⟨_, (pss_cons (ps_asg (pv 0) (pgT K (n := 2) rfl (pgs_cons (pg_name (i := 1) nd rfl (by first | exact Or.inl rfl | exact Or.inr rfl)) (pgs_cons (pg_name (i := 2) nd rfl (by first | exact Or.inl rfl | exact Or.inr rfl)) pgs_nil))))
      (pss_cons (ps_if (PW.pt (pw_or (pt_not (pt_val (pe_callG (g_is_clock T) hr rfl (pa_cons (pv 1) pa_nil)))) (pw_or1 (pt_not (pt_chain op_le op_le pe_int (pe_callB (crLen K) (by rfl) T.n_len (by decide +kernel) (pa_cons (pv 2) pa_nil)) (pe_const rfl T.c_MOST_SIDE)))))) (pss_one (ps_ret pe_bl)) pss_nil)
      (pss_cons (ps_set (i := 3) nd rfl (by first | exact Or.inl rfl | exact Or.inr rfl) (pe_callB (crLen K) (by rfl) T.n_len (by decide +kernel) (pa_cons (pe_ix (ixT K) (pv 2) pe_int (fun _ _ => rfl)) pa_nil)))
      (pss_cons (ps_if (pt_not (pt_chain op_le op_le pe_int (pv 3) (pe_const rfl T.c_MOST_SIDE))) (pss_one (ps_ret pe_bl)) pss_nil)
      (pss_one (ps_ret (pe_callB (crAll K) (by rfl) T.n_all (by decide +kernel) (pa_cons (pe_lc (own := [("row", 4)]) rfl nd (piT K (pv 2)) (blkOk_by (by kernel_rfl)) (fun _ _ _ _ _ => (pg_name (i := 4) nd rfl (by first | exact Or.inl rfl | exact Or.inr rfl))) (fun _ _ _ _ _ => pts_nil) (fun _ _ _ _ _ => (pe_and (pe_cmpR op_eq (pe_callB (crLen K) (by rfl) T.n_len (by decide +kernel) (pa_cons (pv 4) pa_nil)) (pv 3) (nomark _)) (pe_one (pe_callB (crAll K) (by rfl) T.n_all (by decide +kernel) (pa_cons (pe_lc (own := [("one", 5)]) rfl nd (piT K (pv 4)) (blkOk_by (by kernel_rfl)) (fun _ _ _ _ _ => (pg_name (i := 5) nd rfl (by first | exact Or.inl rfl | exact Or.inr rfl))) (fun _ _ _ _ _ => pts_nil) (fun _ _ _ _ _ => (pe_callG (g_is_square T) hr rfl (pa_cons (pv 1) (pa_cons (pv 5) pa_nil))))) pa_nil)))))) pa_nil)))))))), ?_⟩
  refine ⟨_, rfl, a, _, rfl, SqT.of ha, rfl, _, _, rfl, _, _, rfl, rfl, ?_⟩
  refine ⟨_, rfl, c.clock, rfl, g.lo, g.hi, g.odd, _, rfl, iteF ?_⟩
  have h1 := g.h1
  have h9 := g.h9
  have hh : c.high = c.rows.length := rfl
  have w1 := g.w1
  have w9 := g.w9
  refine ⟨_, rfl, b, rs, rfl, .inr (SqT.of hb), _, _, rfl, rfl, _, rfl, iteD (by omega) ⟨_, _, rfl, rfl, _, rfl, iteNS (by omega) ?_⟩⟩
  refine ⟨_, rfl, b, _, _, _, rfl, rfl, SqT.of hb, atI_nat h0, r0, _, rfl, .inr (SqT.of hr0), ?_⟩
  refine ⟨_, rfl, _, _, rfl, rfl, _, rfl, iteD (by omega) ⟨_, _, rfl, rfl, _, rfl, iteNS (by omega) ?_⟩⟩
  refine ⟨_, rfl, b, rfl, ⟨_, SqT.of hb⟩, fun D hD => ?_⟩
  refine lc_tup (K := K) (a := b) (xs := rs) (fun i H' => Same H H' ∧ ∃ bs : List Bool, H' D = some (.lst (bs.map V.bl)) ∧ bs.length ≤ i ∧ ∀ x, x ∈ bs → x = true)
    ⟨same_new hD _, [], upd_same, Nat.le_refl _, fun x hx => (nomatch hx)⟩ (fun i H' _ h => SqT.of (h.1 _ _ hb)) ?_ ?_
  · rintro i x H1 hx ⟨s1, bs, hD1, hlen, hbs⟩
    have hi : i < rs.length := (List.getElem?_eq_some_iff.mp hx).1
    obtain ⟨row, hrow, ⟨r, rfl, hr1⟩⟩ := paired_get hrs hx
    obtain ⟨g1, g2⟩ := g.all row (List.mem_of_getElem? hrow)
    have hr1' := s1 _ _ hr1
    refine ⟨rfl, tyes ?_⟩
    refine ⟨_, rfl, r, _, rfl, .inr (SqT.of hr1'), _, rfl, rfl, _, rfl, iteD (by rw [List.length_map, g1, hlw]) ?_⟩
    refine ⟨_, rfl, r, rfl, ⟨_, SqT.of hr1'⟩, fun D2 hD2 => ?_⟩
    refine lc_tup (K := K) (a := r) (xs := row.map V.int) (fun j H' => Same H1 H' ∧ ∃ cs : List Bool, H' D2 = some (.lst (cs.map V.bl)) ∧ cs.length ≤ j ∧ ∀ x, x ∈ cs → x = true)
      ⟨same_new hD2 _, [], upd_same, Nat.le_refl _, fun x hx => (nomatch hx)⟩ (fun j H' _ h => SqT.of (h.1 _ _ hr1')) ?_ ?_
    · rintro j y H2 hy ⟨s2, cs, hD2', hl2, hcs⟩
      rw [List.getElem?_map] at hy
      obtain ⟨z, hz, rfl⟩ := Option.map_eq_some_iff.mp hy
      have hj : j < row.length := (List.getElem?_eq_some_iff.mp hz).1
      obtain ⟨z1, z2⟩ := g2 z (List.mem_of_getElem? hz)
      refine ⟨rfl, tyes ⟨_, rfl, _, rfl, c.clock, z, rfl, z1, z2, cs.map V.bl, hD2', small99 (by rw [List.length_map]; omega), sapp s2 hD2 _, cs ++ [true], by rw [upd_same, List.map_append]; rfl, by rw [List.length_append]; simp; omega, fun x hx => ?_⟩⟩
      rcases List.mem_append.mp hx with hx | hx
      · exact hcs x hx
      · exact List.mem_singleton.mp hx
    · rintro H2 ⟨s2, cs, hD2', hl2, hcs⟩
      refine ⟨D2, cs, rfl, SqL.of hD2', ?_⟩
      rw [all_true hcs]
      have hDD : H2 D = some (.lst (bs.map V.bl)) := s2 _ _ hD1
      refine ⟨bs.map V.bl, hDD, small99 (by rw [List.length_map]; omega), sapp (s1.trans s2) hD _, bs ++ [true], by rw [upd_same, List.map_append]; rfl, by rw [List.length_append]; simp; omega, fun x hx => ?_⟩
      rcases List.mem_append.mp hx with hx | hx
      · exact hbs x hx
      · exact List.mem_singleton.mp hx
  · rintro H1 ⟨s1, bs, hD1, hlen, hbs⟩
    refine ⟨D, bs, rfl, SqL.of hD1, ?_⟩
    rw [all_true hbs]
    exact q _ s1
/-! ### need_chart -/
theorem sc_need_chart : FnScope ["chart"] ["chart"] (defScope (top 14)) := ⟨rfl, rfl, rfl, by decide +kernel, rfl, by decide +kernel, by decide +kernel⟩
def spNeed : SpV := fun vs H Q => ∃ v c, vs = [v] ∧ IsCh H v c ∧ c.Good ∧ ∀ H', Same H H' → Q .non H'
theorem g_need_chart (T : Txt K mg) : G P w K mg base 3 "need_chart" spNeed := by
  refine g_of 2 T.d_need_chart sc_need_chart (by rintro vs H Q ⟨v, c, rfl, _⟩; rfl) (fun _ _ _ _ _ _ us hl => match us, hl with | [_], _ => rfl) ?_
  rintro f cdv A outer s H vs Q E hr ⟨v, c, rfl, hc, g, q⟩
  refine ⟨_, (pss_one (ps_if (pt_not (pt_val (pe_callG (g_is_chart T) hr rfl (pa_cons (pv 0) pa_nil)))) (pss_one ps_never) pss_nil)), ?_⟩
  exact ⟨_, rfl, v, c, rfl, hc, g, fun H' s => ⟨_, rfl, iteF (q H' s)⟩⟩
/-! ### within -/
theorem sc_within : FnScope ["chart", "square", "row", "column"] ["chart", "square"] (defScope (top 15)) := ⟨rfl, rfl, rfl, by decide +kernel, rfl, by decide +kernel, by decide +kernel⟩
def spWithin : SpV := fun vs H Q => ∃ v u c s, vs = [v, u] ∧ IsCh H v c ∧ IsSq H u s ∧ c.Good ∧ Q (.bl (c.within s)) H
theorem within_and (c : Ch) (s : Sq) : c.within s = ((decide (0 ≤ s.1) && decide (s.1 < c.high)) && (decide (0 ≤ s.2) && decide (s.2 < c.wide))) := by
  unfold Ch.within
  rw [Bool.eq_iff_iff]
  simp only [Bool.and_eq_true, decide_eq_true_eq]
  exact ⟨fun ⟨a, b, c, d⟩ => ⟨⟨a, b⟩, c, d⟩, fun ⟨⟨a, b⟩, c, d⟩ => ⟨a, b, c, d⟩⟩
theorem g_within (T : Txt K mg) : G P w K mg base 1 "within" spWithin := by
  refine g_of 0 T.d_within sc_within (by rintro vs H Q ⟨v, u, c, s, rfl, _⟩; rfl) (fun _ _ _ _ _ _ us hl => match us, hl with | [_, _], _ => rfl) ?_
  rintro f cdv A outer s0 H vs Q E hr ⟨v, u, c, s, rfl, hc, ⟨d, rfl, hd⟩, g, q⟩
  obtain ⟨a, b, rs, r0, rfl, ha, hb, hrs, hl, h0, hr0, hlw⟩ := hc.open_ g
  have nd := sc_within.nd
  rw [within_and] at q
  refine ⟨_, (pss_cons (ps_asg (pv 1) (pgT K (n := 2) rfl (pgs_cons (pg_name (i := 2) nd rfl (by first | exact Or.inl rfl | exact Or.inr rfl)) (pgs_cons (pg_name (i := 3) nd rfl (by first | exact Or.inl rfl | exact Or.inr rfl)) pgs_nil))))
      (pss_one (ps_ret (pe_and (pe_chain op_le op_lt pe_int (pv 2) (pe_callB (crLen K) (by rfl) T.n_len (by decide +kernel) (pa_cons (pe_ix (ixT K) (pv 0) pe_int (fun _ _ => rfl)) pa_nil))) (pe_one (pe_chain op_le op_lt pe_int (pv 3) (pe_callB (crLen K) (by rfl) T.n_len (by decide +kernel) (pa_cons (pe_ix (ixT K) (pe_ix (ixT K) (pv 0) pe_int (fun _ _ => rfl)) pe_int (fun _ _ => rfl)) pa_nil)))))))), ?_⟩
  refine ⟨_, rfl, d, _, rfl, SqT.of hd, rfl, _, _, rfl, _, _, rfl, rfl, ?_⟩
  refine ⟨_, rfl, _, _, rfl, rfl, _, rfl, ?_⟩
  by_cases h1 : 0 ≤ s.1
  · rw [decide_eq_true h1] at q
    refine iteD h1 ⟨_, rfl, a, _, _, _, rfl, rfl, SqT.of ha, rfl, b, rs, rfl, .inr (SqT.of hb), _, _, rfl, rfl, _, rfl, ?_⟩
    by_cases h2 : s.1 < c.high
    · rw [decide_eq_true h2] at q
      refine iteD (by rw [hl]; exact h2) ⟨_, rfl, _, _, rfl, rfl, _, rfl, ?_⟩
      by_cases h3 : 0 ≤ s.2
      · rw [decide_eq_true h3] at q
        refine iteD h3 ⟨_, rfl, a, _, _, _, rfl, rfl, SqT.of ha, rfl, b, _, _, _, rfl, rfl, SqT.of hb, atI_nat h0, r0, _, rfl, .inr (SqT.of hr0), _, _, rfl, rfl, ?_⟩
        rw [hlw]
        exact q
      · rw [decide_eq_false h3] at q
        exact iteN h3 q
    · rw [decide_eq_false h2] at q
      exact iteN (by rw [hl]; exact h2) q
  · rw [decide_eq_false h1] at q
    exact iteN h1 ⟨_, rfl, iteF q⟩
/-! ### value -/
theorem sc_value : FnScope ["chart", "square"] ["chart", "square"] (defScope (top 16)) := ⟨rfl, rfl, rfl, by decide +kernel, rfl, by decide +kernel, by decide +kernel⟩
def spValue : SpV := fun vs H Q => ∃ v u c s, vs = [v, u] ∧ IsCh H v c ∧ IsSq H u s ∧ c.Good ∧ c.within s = true ∧ Q (.int (c.val s)) H
theorem g_value (T : Txt K mg) : G P w K mg base 1 "value" spValue := by
  refine g_of 0 T.d_value sc_value (by rintro vs H Q ⟨v, u, c, s, rfl, _⟩; rfl) (fun _ _ _ _ _ _ us hl => match us, hl with | [_, _], _ => rfl) ?_
  rintro f cdv A outer s0 H vs Q E hr ⟨v, u, c, s, rfl, ⟨a, b, rs, rfl, ha, hb, hrs⟩, ⟨d, rfl, hd⟩, g, hw, q⟩
  refine ⟨_, (pss_one (ps_ret (pe_ix (ixT K) (pe_ix (ixT K) (pe_ix (ixT K) (pv 0) pe_int (fun _ _ => rfl)) (pe_ix (ixT K) (pv 1) pe_int (fun _ _ => rfl)) (fun _ _ => rfl)) (pe_ix (ixT K) (pv 1) pe_int (fun _ _ => rfl)) (fun _ _ => rfl)))), ?_⟩
  unfold Ch.within at hw
  rw [decide_eq_true_eq] at hw
  have h1 : s.1.toNat < c.rows.length := by have : c.high = c.rows.length := rfl; omega
  obtain ⟨x, hx, ⟨r, rfl, hr2⟩⟩ := paired_get2 hrs (List.getElem?_eq_getElem h1)
  have hl : s.2.toNat < c.rows[s.1.toNat].length := by rw [(g.all _ (List.getElem_mem h1)).1]; omega
  have hv : c.val s = c.rows[s.1.toNat][s.2.toNat] := by
    unfold Ch.val
    rw [getD_lt h1, getD_lt hl]
  have e1 : s.1 = (s.1.toNat : Int) := by omega
  have e2 : s.2 = (s.2.toNat : Int) := by omega
  refine ⟨_, rfl, a, _, _, _, rfl, rfl, SqT.of ha, rfl, _, rfl, d, _, _, _, rfl, rfl, SqT.of hd, rfl, b, _, _, _, rfl, rfl, SqT.of hb, (by rw [e1]; exact atI_nat hx), _, rfl, d, _, _, _, rfl, rfl, SqT.of hd, rfl, r, _, _, _, rfl, rfl, SqT.of hr2, (by rw [e2]; exact atI_nat (by rw [List.getElem?_map, List.getElem?_eq_getElem hl]; rfl)), ?_⟩
  rw [hv] at q
  exact q
/-! ### is_told, is_sea -/
theorem sc_is_told : FnScope ["chart", "square"] ["chart", "square"] (defScope (top 17)) := ⟨rfl, rfl, rfl, by decide +kernel, rfl, by decide +kernel, by decide +kernel⟩
def spTold : SpV := fun vs H Q => ∃ v u c s, vs = [v, u] ∧ IsCh H v c ∧ IsSq H u s ∧ c.Good ∧ Q (.bl (c.told s)) H
theorem g_is_told (T : Txt K mg) : G P w K mg base 2 "is_told" spTold := by
  refine g_of 1 T.d_is_told sc_is_told (by rintro vs H Q ⟨v, u, c, s, rfl, _⟩; rfl) (fun _ _ _ _ _ _ us hl => match us, hl with | [_, _], _ => rfl) ?_
  rintro f cdv A outer s0 H vs Q E hr ⟨v, u, c, s, rfl, hc, hs, g, q⟩
  refine ⟨_, (pss_one (ps_ret (pe_and (pe_callG (g_within T) hr rfl (pa_cons (pv 0) (pa_cons (pv 1) pa_nil))) (pe_one (pe_cmpR op_ge (pe_callG (g_value T) hr rfl (pa_cons (pv 0) (pa_cons (pv 1) pa_nil))) pe_int (nomark _)))))), ?_⟩
  refine ⟨_, rfl, _, rfl, v, u, c, s, rfl, hc, hs, g, _, rfl, ?_⟩
  unfold Ch.told at q
  cases e : c.within s with
  | false => rw [e] at q; exact iteF q
  | true =>
    rw [e] at q
    exact iteT ⟨_, rfl, _, rfl, v, u, c, s, rfl, hc, hs, g, e, _, _, rfl, rfl, q⟩
theorem sc_is_sea : FnScope ["chart", "square"] ["chart", "square"] (defScope (top 18)) := ⟨rfl, rfl, rfl, by decide +kernel, rfl, by decide +kernel, by decide +kernel⟩
def spSea : SpV := fun vs H Q => ∃ v u c s, vs = [v, u] ∧ IsCh H v c ∧ IsSq H u s ∧ c.Good ∧ Q (.bl (c.sea s)) H
theorem g_is_sea (T : Txt K mg) : G P w K mg base 2 "is_sea" spSea := by
  refine g_of 1 T.d_is_sea sc_is_sea (by rintro vs H Q ⟨v, u, c, s, rfl, _⟩; rfl) (fun _ _ _ _ _ _ us hl => match us, hl with | [_, _], _ => rfl) ?_
  rintro f cdv A outer s0 H vs Q E hr ⟨v, u, c, s, rfl, hc, hs, g, q⟩
  refine ⟨_, (pss_one (ps_ret (pe_and (pe_callG (g_within T) hr rfl (pa_cons (pv 0) (pa_cons (pv 1) pa_nil))) (pe_one (pe_cmpR op_ne (pe_callG (g_value T) hr rfl (pa_cons (pv 0) (pa_cons (pv 1) pa_nil))) (pe_const rfl T.c_LAND) (nomark _)))))), ?_⟩
  refine ⟨_, rfl, _, rfl, v, u, c, s, rfl, hc, hs, g, _, rfl, ?_⟩
  unfold Ch.sea at q
  cases e : c.within s with
  | false => rw [e] at q; exact iteF q
  | true =>
    rw [e] at q
    refine iteT ⟨_, rfl, _, rfl, v, u, c, s, rfl, hc, hs, g, e, rfl, ?_⟩
    have e2 : (!decide (V.int (c.val s) = V.int (-1))) = decide (c.val s ≠ -1) := by
      by_cases h : c.val s = -1
      · rw [h]; rfl
      · rw [decide_eq_false (fun z => h (V.int.inj z)), decide_eq_true h]; rfl
    show Q (.bl (!decide (V.int (c.val s) = V.int (-1)))) H
    rw [e2]
    exact q
/-! ### half_of, room_between -/
theorem sc_half_of : FnScope ["clock"] ["clock"] (defScope (top 43)) := ⟨rfl, rfl, rfl, by decide +kernel, rfl, by decide +kernel, by decide +kernel⟩
def spHalf : SpV := fun vs H Q => ∃ m : Int, vs = [.int m] ∧ Q (.int (half m)) H
theorem g_half_of (T : Txt K mg) : G P w K mg base 1 "half_of" spHalf := by
  refine g_of 0 T.d_half_of sc_half_of (by rintro vs H Q ⟨m, rfl, _⟩; rfl) (fun _ _ _ _ _ _ us hl => match us, hl with | [_], _ => rfl) ?_
  rintro f cdv A outer s0 H vs Q E hr ⟨m, rfl, q⟩
  refine ⟨_, (pss_one (ps_ret (pe_op op_fdiv (pe_op op_sub (pv 0) pe_int) pe_int))), ?_⟩
  exact ⟨_, rfl, _, _, rfl, rfl, _, _, rfl, rfl, ⟨by decide, by decide⟩, q⟩
theorem sc_room_between : FnScope ["chart", "one", "other", "far", "gone"] ["chart", "one", "other", "far"] (defScope (top 44)) := ⟨rfl, rfl, rfl, by decide +kernel, rfl, by decide +kernel, by decide +kernel⟩
def spRoom : SpV := fun vs H Q => ∃ v x y c one other d, vs = [v, x, y, .int d] ∧ IsCh H v c ∧ IsSq H x one ∧ IsSq H y other ∧ c.Good ∧ c.within one = true ∧ c.within other = true ∧ Q (.int (roomB c one other d)) H
theorem g_room_between (T : Txt K mg) : G P w K mg base 2 "room_between" spRoom := by
  refine g_of 1 T.d_room_between sc_room_between (by rintro vs H Q ⟨v, x, y, c, one, other, d, rfl, _⟩; rfl) (fun _ _ _ _ _ _ us hl => match us, hl with | [_, _, _, _], _ => rfl) ?_
  rintro f cdv A outer s0 H vs Q E hr ⟨v, x, y, c, one, other, d, rfl, hc, hx, hy, g, h1, h2, q⟩
  obtain ⟨a, b, rs, rfl, ha, hb, hrs⟩ := id hc
  have nd := sc_room_between.nd
  have lo := g.lo
  have hi := g.hi
  have hh : half c.clock < 2 ^ 64 ∧ -(2 ^ 64) < half c.clock := by unfold half; omega
  refine ⟨_, (pss_cons (ps_set (i := 4) nd rfl (by first | exact Or.inl rfl | exact Or.inr rfl) (pe_op op_add (pe_op op_sub (pe_op op_mul (pe_callG (g_half_of T) hr rfl (pa_cons (pe_ix (ixT K) (pv 0) pe_int (fun _ _ => rfl)) pa_nil)) (pv 3)) (pe_callG (g_value T) hr rfl (pa_cons (pv 0) (pa_cons (pv 2) pa_nil)))) (pe_callG (g_value T) hr rfl (pa_cons (pv 0) (pa_cons (pv 1) pa_nil)))))
      (pss_one (ps_ret (pe_op op_fdiv (pv 4) (pe_ix (ixT K) (pv 0) pe_int (fun _ _ => rfl)))))), ?_⟩
  refine ⟨_, rfl, a, _, _, _, rfl, rfl, SqT.of ha, rfl, c.clock, rfl, _, rfl, _, _, rfl, rfl, .inl ⟨hh.2, hh.1⟩, _, rfl, _, rfl, _, y, c, other, rfl, hc, hy, g, h2, _, _, rfl, rfl, _, rfl, _, rfl, _, x, c, one, rfl, hc, hx, g, h1, _, _, rfl, rfl, ?_⟩
  exact ⟨_, rfl, _, rfl, a, _, _, _, rfl, rfl, SqT.of ha, rfl, _, _, rfl, rfl, ⟨by omega, by omega⟩, q⟩
end
end Wk

set_option maxRecDepth 100000
set_option maxHeartbeats 4000000
namespace Wk
open PySem PySem.Spec PyProof.Rows L2 Co
def IsPr (H : Hp) (v : V) (p : Sq × Sq) : Prop := ∃ a x y, v = .ref a ∧ H a = some (.tup [x, y]) ∧ IsSq H x p.1 ∧ IsSq H y p.2
theorem IsPr.tk {H H' : Hp} {v : V} {p : Sq × Sq} (h : IsPr H v p) (k : TK H H') : IsPr H' v p := let ⟨a, x, y, e, h1, h2, h3⟩ := h; ⟨a, x, y, e, k _ _ h1, h2.tk k, h3.tk k⟩
def IsIt (H : Hp) (v : V) (p : (Sq × Sq) × Sq) : Prop := ∃ a x y, v = .ref a ∧ H a = some (.tup [x, y]) ∧ IsPr H x p.1 ∧ IsSq H y p.2
theorem IsIt.tk {H H' : Hp} {v : V} {p : (Sq × Sq) × Sq} (h : IsIt H v p) (k : TK H H') : IsIt H' v p := let ⟨a, x, y, e, h1, h2, h3⟩ := h; ⟨a, x, y, e, k _ _ h1, h2.tk k, h3.tk k⟩
/-- a new list comes back -/
def RetL {α : Type} (R : Hp → V → α → Prop) (l : List α) (H : Hp) (Q : VK) : Prop := ∀ H' p xs, Same H H' → H p = none → H' p = some (.lst xs) → Paired (R H') xs l → Q (.ref p) H'
theorem snocL {α : Type} {R : Hp → V → α → Prop} (hR : ∀ H H' v a, R H v a → TK H H' → R H' v a) {H0 H H1 : Hp} {D : Addr} {y : V} {ys : List V} {l : List α} {a : α} (s : Same H0 H1) (hD0 : H0 D = none) (k : TK H H1) (hD : H1 D = some (.lst ys))
    (hp : Paired (R H) ys l) (hy : R H1 y a) : Same H0 (upd H1 D (.lst (ys ++ [y]))) ∧ upd H1 D (.lst (ys ++ [y])) D = some (.lst (ys ++ [y])) ∧ Paired (R (upd H1 D (.lst (ys ++ [y])))) (ys ++ [y]) (l ++ [a]) := by
  have k2 : TK H1 (upd H1 D (.lst (ys ++ [y]))) := TK.put hD fun xs e => by cases e
  exact ⟨sapp s hD0 _, upd_same, .snoc (pTk hR hp (k.trans k2)) (hR _ _ _ _ hy k2)⟩
theorem new_ne {H : Hp} {p q : Addr} {o : HO} (hp : H p = some o) (hq : H q = none) : p ≠ q := ne_of_none hp hq
theorem at_new {H : Hp} {p q : Addr} {o u : HO} (hp : H p = some o) (hq : H q = none) : upd H q u p = some o := by rw [upd_ne (ne_of_none hp hq)]; exact hp
section
variable {P : Program} {w : World} {K : PySem.W.Frag} {mg : Str → Option Value} {base : Heap}
/-! ### grids of squares -/
theorem grid_get {w n i : Nat} (h : i < n) : (gridOf w n)[i]? = some (((i / w : Nat) : Int), ((i % w : Nat) : Int)) := by
  unfold gridOf
  rw [List.getElem?_map, List.getElem?_range h]
  rfl
theorem cast_div (i w : Nat) : (0 + (i : Int)) / (w : Int) = ((i / w : Nat) : Int) := by rw [Int.zero_add]; exact (Int.natCast_ediv i w).symm
theorem cast_mod (i w : Nat) : (0 + (i : Int)) % (w : Int) = ((i % w : Nat) : Int) := by rw [Int.zero_add]; exact (Int.natCast_emod i w).symm
theorem sc_every_square : FnScope ["chart", "wide", "at"] ["chart"] (defScope (top 19)) := ⟨rfl, rfl, rfl, by decide +kernel, rfl, by decide +kernel, by decide +kernel⟩
def spEvery : SpV := fun vs H Q => ∃ v c, vs = [v] ∧ IsCh H v c ∧ c.Good ∧ RetL IsSq c.every H Q
theorem g_every_square (T : Txt K mg) : G P w K mg base 1 "every_square" spEvery := by
  refine g_of 0 T.d_every_square sc_every_square (by rintro vs H Q ⟨v, c, rfl, _⟩; rfl) (fun _ _ _ _ _ _ us hl => match us, hl with | [_], _ => rfl) ?_
  rintro f cdv A outer s0 H vs Q E hr ⟨v, c, rfl, hc, g, q⟩
  obtain ⟨a, b, rs, r0, rfl, ha, hb, hrs, hl, h0, hr0, hlw⟩ := hc.open_ g
  have nd := sc_every_square.nd
  have w1 := g.w1
  have w9 := g.w9
  have h9 : c.high ≤ 7 := g.h9
  refine ⟨_, (pss_cons (ps_set (i := 1) nd rfl (by first | exact Or.inl rfl | exact Or.inr rfl) (pe_callB (crLen K) (by rfl) T.n_len (by decide +kernel) (pa_cons (pe_ix (ixT K) (pe_ix (ixT K) (pv 0) pe_int (fun _ _ => rfl)) pe_int (fun _ _ => rfl)) pa_nil)))
      (pss_one (ps_ret (pe_lc (own := [("at", 2)]) rfl nd (pi_range1 rfl T.n_range (pa_cons (pe_op op_mul (pv 1) (pe_callB (crLen K) (by rfl) T.n_len (by decide +kernel) (pa_cons (pe_ix (ixT K) (pv 0) pe_int (fun _ _ => rfl)) pa_nil))) pa_nil)) (blkOk_by (by kernel_rfl)) (fun _ _ _ _ _ => (pg_name (i := 2) nd rfl (by first | exact Or.inl rfl | exact Or.inr rfl))) (fun _ _ _ _ _ => pts_nil) (fun _ _ _ _ _ => (pe_tup (pa_cons (pe_op op_fdiv (pv 2) (pv 1)) (pa_cons (pe_op op_mod (pv 2) (pv 1)) pa_nil)))))))), ?_⟩
  refine ⟨_, rfl, a, _, _, _, rfl, rfl, SqT.of ha, rfl, b, _, _, _, rfl, rfl, SqT.of hb, atI_nat h0, r0, _, rfl, .inr (SqT.of hr0), ?_⟩
  have hm : (((c.rows.headD []).map V.int).length : Int) * (rs.length : Int) = ((c.wide * c.high : Nat) : Int) := by rw [hlw, hl, Int.natCast_mul]
  have hle : c.wide * c.high ≤ 49 := Nat.mul_le_mul w9 h9
  refine ⟨_, rfl, _, rfl, a, _, _, _, rfl, rfl, SqT.of ha, rfl, b, rs, rfl, .inr (SqT.of hb), _, _, rfl, rfl, .inl ⟨by omega, by omega⟩, _, rfl, by rw [hm]; omega, by rw [hm]; omega, fun D hD => ?_⟩
  rw [hm, Int.toNat_natCast]
  refine lc_range (lo := 0) (n := c.wide * c.high) (fun i H' => Same H H' ∧ ∃ ys, H' D = some (.lst ys) ∧ Paired (IsSq H') ys (c.every.take i)) ⟨same_new hD _, [], upd_same, .nil⟩ ?_ ?_
  · rintro i H1 hi ⟨s1, ys, hD1, hp⟩
    refine ⟨rfl, tyes ⟨_, rfl, _, rfl, _, _, rfl, rfl, ⟨by omega, by omega⟩, _, rfl, _, rfl, _, _, rfl, rfl, (by show (0 : Int) < _; omega), (by show 2 ≤ sizeLine; decide), fun t ht => ?_⟩⟩
    have hyl : ys.length ≤ 49 := by rw [pLen hp, List.length_take]; omega
    refine ⟨ys, at_new hD1 ht, small99 (by omega), ?_⟩
    have hget : c.every[i]? = some ((0 + (i : Int)) / (((c.rows.headD []).map V.int).length : Int), (0 + (i : Int)) % (((c.rows.headD []).map V.int).length : Int)) := by rw [hlw, cast_div, cast_mod]; exact grid_get hi
    have := snocL (R := IsSq) (fun _ _ _ _ h k => h.tk k) (s1.trans (same_new ht _)) hD (TK.new ht _) (at_new hD1 ht) hp (a := ((0 + (i : Int)) / (((c.rows.headD []).map V.int).length : Int), (0 + (i : Int)) % (((c.rows.headD []).map V.int).length : Int))) (y := .ref t) ⟨t, rfl, upd_same⟩
    rw [take_snoc hget]
    exact ⟨this.1, _, this.2⟩
  · rintro H1 ⟨s1, ys, hD1, hp⟩
    rw [List.take_of_length_le (by rw [Ch.every, gridOf_length]; exact Nat.le_refl _)] at hp
    exact q _ _ _ s1 hD hD1 hp
theorem sc_corners : FnScope ["chart", "wide", "at"] ["chart"] (defScope (top 25)) := ⟨rfl, rfl, rfl, by decide +kernel, rfl, by decide +kernel, by decide +kernel⟩
def spCorners : SpV := fun vs H Q => ∃ v c, vs = [v] ∧ IsCh H v c ∧ c.Good ∧ RetL IsSq c.corners H Q
theorem g_corners (T : Txt K mg) : G P w K mg base 1 "corners" spCorners := by
  refine g_of 0 T.d_corners sc_corners (by rintro vs H Q ⟨v, c, rfl, _⟩; rfl) (fun _ _ _ _ _ _ us hl => match us, hl with | [_], _ => rfl) ?_
  rintro f cdv A outer s0 H vs Q E hr ⟨v, c, rfl, hc, g, q⟩
  obtain ⟨a, b, rs, r0, rfl, ha, hb, hrs, hl, h0, hr0, hlw⟩ := hc.open_ g
  have nd := sc_corners.nd
  have w1 := g.w1
  have w9 := g.w9
  have h9 : c.high ≤ 7 := g.h9
  have h1 : 1 ≤ c.high := g.h1
  refine ⟨_, (pss_cons (ps_set (i := 1) nd rfl (by first | exact Or.inl rfl | exact Or.inr rfl) (pe_op op_sub (pe_callB (crLen K) (by rfl) T.n_len (by decide +kernel) (pa_cons (pe_ix (ixT K) (pe_ix (ixT K) (pv 0) pe_int (fun _ _ => rfl)) pe_int (fun _ _ => rfl)) pa_nil)) pe_int))
      (pss_one (ps_ret (pe_lc (own := [("at", 2)]) rfl nd (pi_range1 rfl T.n_range (pa_cons (pe_op op_mul (pv 1) (pe_op op_sub (pe_callB (crLen K) (by rfl) T.n_len (by decide +kernel) (pa_cons (pe_ix (ixT K) (pv 0) pe_int (fun _ _ => rfl)) pa_nil)) pe_int)) pa_nil)) (blkOk_by (by kernel_rfl)) (fun _ _ _ _ _ => (pg_name (i := 2) nd rfl (by first | exact Or.inl rfl | exact Or.inr rfl))) (fun _ _ _ _ _ => pts_nil) (fun _ _ _ _ _ => (pe_tup (pa_cons (pe_op op_fdiv (pv 2) (pv 1)) (pa_cons (pe_op op_mod (pv 2) (pv 1)) pa_nil)))))))), ?_⟩
  refine ⟨_, rfl, a, _, _, _, rfl, rfl, SqT.of ha, rfl, b, _, _, _, rfl, rfl, SqT.of hb, atI_nat h0, r0, _, rfl, .inr (SqT.of hr0), _, _, rfl, rfl, ?_⟩
  have ew : (((c.rows.headD []).map V.int).length : Int) - 1 = ((c.wide - 1 : Nat) : Int) := by rw [hlw]; omega
  have hm : ((((c.rows.headD []).map V.int).length : Int) - 1) * ((rs.length : Int) - 1) = (((c.wide - 1) * (c.high - 1) : Nat) : Int) := by
    rw [ew, hl, Int.natCast_mul]
    congr 1
    omega
  have hle : (c.wide - 1) * (c.high - 1) ≤ 36 := Nat.mul_le_mul (by omega : c.wide - 1 ≤ 6) (by omega : c.high - 1 ≤ 6)
  refine ⟨_, rfl, _, rfl, a, _, _, _, rfl, rfl, SqT.of ha, rfl, b, rs, rfl, .inr (SqT.of hb), _, _, rfl, rfl, _, _, rfl, rfl, .inl ⟨by omega, by omega⟩, _, rfl, by rw [hm]; omega, by rw [hm]; omega, fun D hD => ?_⟩
  rw [hm, Int.toNat_natCast]
  refine lc_range (lo := 0) (n := (c.wide - 1) * (c.high - 1)) (fun i H' => Same H H' ∧ ∃ ys, H' D = some (.lst ys) ∧ Paired (IsSq H') ys (c.corners.take i)) ⟨same_new hD _, [], upd_same, .nil⟩ ?_ ?_
  · rintro i H1 hi ⟨s1, ys, hD1, hp⟩
    have hwp : 0 < c.wide - 1 := Nat.pos_of_ne_zero fun e => by rw [e] at hi; simp at hi
    refine ⟨rfl, tyes ⟨_, rfl, _, rfl, _, _, rfl, rfl, ⟨by omega, by omega⟩, _, rfl, _, rfl, _, _, rfl, rfl, (by show (0 : Int) < _; omega), (by show 2 ≤ sizeLine; decide), fun t ht => ?_⟩⟩
    have hyl : ys.length ≤ 49 := by rw [pLen hp, List.length_take]; omega
    refine ⟨ys, at_new hD1 ht, small99 (by omega), ?_⟩
    have hget : c.corners[i]? = some ((0 + (i : Int)) / ((((c.rows.headD []).map V.int).length : Int) - 1), (0 + (i : Int)) % ((((c.rows.headD []).map V.int).length : Int) - 1)) := by rw [ew, cast_div, cast_mod]; exact grid_get hi
    have := snocL (R := IsSq) (fun _ _ _ _ h k => h.tk k) (s1.trans (same_new ht _)) hD (TK.new ht _) (at_new hD1 ht) hp (a := ((0 + (i : Int)) / ((((c.rows.headD []).map V.int).length : Int) - 1), (0 + (i : Int)) % ((((c.rows.headD []).map V.int).length : Int) - 1))) (y := .ref t) ⟨t, rfl, upd_same⟩
    rw [take_snoc hget]
    exact ⟨this.1, _, this.2⟩
  · rintro H1 ⟨s1, ys, hD1, hp⟩
    rw [List.take_of_length_le (by rw [Ch.corners, gridOf_length]; exact Nat.le_refl _)] at hp
    exact q _ _ _ s1 hD hD1 hp
/-! ### beside, about -/
theorem sc_beside : FnScope ["square", "row", "column"] ["square"] (defScope (top 20)) := ⟨rfl, rfl, rfl, by decide +kernel, rfl, by decide +kernel, by decide +kernel⟩
def spBeside : SpV := fun vs H Q => ∃ v s, vs = [v] ∧ IsSq H v s ∧ RetL IsSq (beside s) H Q
theorem g_beside (T : Txt K mg) : G P w K mg base 1 "beside" spBeside := by
  refine g_of 0 T.d_beside sc_beside (by rintro vs H Q ⟨v, s, rfl, _⟩; rfl) (fun _ _ _ _ _ _ us hl => match us, hl with | [_], _ => rfl) ?_
  rintro f cdv A outer s0 H vs Q E hr ⟨v, s, rfl, ⟨d, rfl, hd⟩, q⟩
  have nd := sc_beside.nd
  refine ⟨_, (pss_cons (ps_asg (pv 0) (pgT K (n := 2) rfl (pgs_cons (pg_name (i := 1) nd rfl (by first | exact Or.inl rfl | exact Or.inr rfl)) (pgs_cons (pg_name (i := 2) nd rfl (by first | exact Or.inl rfl | exact Or.inr rfl)) pgs_nil))))
      (pss_one (ps_ret (pe_lst (pa_cons (pe_tup (pa_cons (pe_op op_sub (pv 1) pe_int) (pa_cons (pv 2) pa_nil))) (pa_cons (pe_tup (pa_cons (pv 1) (pa_cons (pe_op op_sub (pv 2) pe_int) pa_nil))) (pa_cons (pe_tup (pa_cons (pv 1) (pa_cons (pe_op op_add (pv 2) pe_int) pa_nil))) (pa_cons (pe_tup (pa_cons (pe_op op_add (pv 1) pe_int) (pa_cons (pv 2) pa_nil))) pa_nil)))))))), ?_⟩
  refine ⟨_, rfl, d, _, rfl, SqT.of hd, rfl, _, _, rfl, _, _, rfl, rfl, ?_⟩
  refine ⟨_, rfl, _, _, rfl, rfl, _, rfl, (by show 2 ≤ sizeLine; decide), fun p1 n1 => ?_⟩
  refine ⟨_, rfl, _, rfl, _, _, rfl, rfl, (by show 2 ≤ sizeLine; decide), fun p2 n2 => ?_⟩
  refine ⟨_, rfl, _, rfl, _, _, rfl, rfl, (by show 2 ≤ sizeLine; decide), fun p3 n3 => ?_⟩
  refine ⟨_, rfl, _, _, rfl, rfl, _, rfl, (by show 2 ≤ sizeLine; decide), fun p4 n4 => ?_⟩
  refine ⟨(by show 4 ≤ sizeLine; decide), fun p np => ?_⟩
  have s1 := same_new n1 (.tup [.int (s.1 - 1), .int s.2])
  have s2 := same_new n2 (.tup [.int s.1, .int (s.2 - 1)])
  have s3 := same_new n3 (.tup [.int s.1, .int (s.2 + 1)])
  have s4 := same_new n4 (.tup [.int (s.1 + 1), .int s.2])
  have s5 := same_new np (.lst [.ref p1, .ref p2, .ref p3, .ref p4])
  refine q _ p _ (s1.trans (s2.trans (s3.trans (s4.trans s5)))) ((s1.trans (s2.trans (s3.trans s4))).free np) upd_same ?_
  exact .cons ⟨p1, rfl, s5 _ _ (s4 _ _ (s3 _ _ (s2 _ _ upd_same)))⟩ (.cons ⟨p2, rfl, s5 _ _ (s4 _ _ (s3 _ _ upd_same))⟩ (.cons ⟨p3, rfl, s5 _ _ (s4 _ _ upd_same)⟩ (.cons ⟨p4, rfl, s5 _ _ upd_same⟩ .nil)))
def aboutM (k : Sq) : List Sq := [(k.1, k.2), (k.1, k.2 + 1), (k.1 + 1, k.2 + 1), (k.1 + 1, k.2)]
theorem sc_about : FnScope ["corner", "row", "column"] ["corner"] (defScope (top 26)) := ⟨rfl, rfl, rfl, by decide +kernel, rfl, by decide +kernel, by decide +kernel⟩
def spAbout : SpV := fun vs H Q => ∃ v s, vs = [v] ∧ IsSq H v s ∧ RetL IsSq (aboutM s) H Q
theorem g_about (T : Txt K mg) : G P w K mg base 1 "about" spAbout := by
  refine g_of 0 T.d_about sc_about (by rintro vs H Q ⟨v, s, rfl, _⟩; rfl) (fun _ _ _ _ _ _ us hl => match us, hl with | [_], _ => rfl) ?_
  rintro f cdv A outer s0 H vs Q E hr ⟨v, s, rfl, ⟨d, rfl, hd⟩, q⟩
  have nd := sc_about.nd
  refine ⟨_, (pss_cons (ps_asg (pv 0) (pgT K (n := 2) rfl (pgs_cons (pg_name (i := 1) nd rfl (by first | exact Or.inl rfl | exact Or.inr rfl)) (pgs_cons (pg_name (i := 2) nd rfl (by first | exact Or.inl rfl | exact Or.inr rfl)) pgs_nil))))
      (pss_one (ps_ret (pe_lst (pa_cons (pe_tup (pa_cons (pv 1) (pa_cons (pv 2) pa_nil))) (pa_cons (pe_tup (pa_cons (pv 1) (pa_cons (pe_op op_add (pv 2) pe_int) pa_nil))) (pa_cons (pe_tup (pa_cons (pe_op op_add (pv 1) pe_int) (pa_cons (pe_op op_add (pv 2) pe_int) pa_nil))) (pa_cons (pe_tup (pa_cons (pe_op op_add (pv 1) pe_int) (pa_cons (pv 2) pa_nil))) pa_nil)))))))), ?_⟩
  refine ⟨_, rfl, d, _, rfl, SqT.of hd, rfl, _, _, rfl, _, _, rfl, rfl, ?_⟩
  refine ⟨_, rfl, _, rfl, (by show 2 ≤ sizeLine; decide), fun p1 n1 => ?_⟩
  refine ⟨_, rfl, _, rfl, _, _, rfl, rfl, (by show 2 ≤ sizeLine; decide), fun p2 n2 => ?_⟩
  refine ⟨_, rfl, _, _, rfl, rfl, _, rfl, _, _, rfl, rfl, (by show 2 ≤ sizeLine; decide), fun p3 n3 => ?_⟩
  refine ⟨_, rfl, _, _, rfl, rfl, _, rfl, (by show 2 ≤ sizeLine; decide), fun p4 n4 => ?_⟩
  refine ⟨(by show 4 ≤ sizeLine; decide), fun p np => ?_⟩
  have s1 := same_new n1 (.tup [.int s.1, .int s.2])
  have s2 := same_new n2 (.tup [.int s.1, .int (s.2 + 1)])
  have s3 := same_new n3 (.tup [.int (s.1 + 1), .int (s.2 + 1)])
  have s4 := same_new n4 (.tup [.int (s.1 + 1), .int s.2])
  have s5 := same_new np (.lst [.ref p1, .ref p2, .ref p3, .ref p4])
  refine q _ p _ (s1.trans (s2.trans (s3.trans (s4.trans s5)))) ((s1.trans (s2.trans (s3.trans s4))).free np) upd_same ?_
  exact .cons ⟨p1, rfl, s5 _ _ (s4 _ _ (s3 _ _ (s2 _ _ upd_same)))⟩ (.cons ⟨p2, rfl, s5 _ _ (s4 _ _ (s3 _ _ upd_same))⟩ (.cons ⟨p3, rfl, s5 _ _ (s4 _ _ upd_same)⟩ (.cons ⟨p4, rfl, s5 _ _ upd_same⟩ .nil)))
/-! ### told squares -/
theorem sc_told_squares : FnScope ["chart", "square"] ["chart"] (defScope (top 21)) := ⟨rfl, rfl, rfl, by decide +kernel, rfl, by decide +kernel, by decide +kernel⟩
def spToldSq : SpV := fun vs H Q => ∃ v c, vs = [v] ∧ IsCh H v c ∧ c.Good ∧ RetL IsSq c.toldSq H Q
theorem filter_snoc {α : Type} (p : α → Bool) {l : List α} {i : Nat} {x : α} (h : l[i]? = some x) : (l.take (i + 1)).filter p = (l.take i).filter p ++ (if p x = true then [x] else []) := by
  rw [take_snoc h, List.filter_append, List.filter_cons]
  rfl
theorem every_len {c : Ch} (g : c.Good) : c.every.length ≤ 49 := by
  rw [Ch.every, gridOf_length]
  exact Nat.mul_le_mul g.w9 (show c.high ≤ 7 from g.h9)
theorem told_len {c : Ch} (g : c.Good) : c.toldSq.length ≤ 49 := Nat.le_trans (List.length_filter_le _ _) (every_len g)
theorem g_told_squares (T : Txt K mg) : G P w K mg base 2 "told_squares" spToldSq := by
  refine g_of 1 T.d_told_squares sc_told_squares (by rintro vs H Q ⟨v, c, rfl, _⟩; rfl) (fun _ _ _ _ _ _ us hl => match us, hl with | [_], _ => rfl) ?_
  rintro f cdv A outer s0 H vs Q E hr ⟨v, c, rfl, hc, g, q⟩
  have nd := sc_told_squares.nd
  refine ⟨_, (pss_one (ps_ret (pe_lc (own := [("square", 1)]) rfl nd (piL K (pe_callG (g_every_square T) hr rfl (pa_cons (pv 0) pa_nil))) (blkOk_by (by kernel_rfl)) (fun _ _ _ _ _ => (pg_name (i := 1) nd rfl (by first | exact Or.inl rfl | exact Or.inr rfl))) (fun _ _ _ _ _ => (pts_one (pt_cmpR op_ge (pe_callG (g_value T) hr rfl (pa_cons (pv 0) (pa_cons (pv 1) pa_nil))) pe_int (nomark _)))) (fun _ _ _ _ _ => (pv 1))))), ?_⟩
  refine ⟨_, rfl, v, c, rfl, hc, g, fun H1 p xs s1 p0 hp hxs => ⟨p, rfl, ⟨_, SqL.of hp⟩, fun D hD => ?_⟩⟩
  refine lc_list (K := K) (a := p) (xs := xs) (fun i H' => Same H1 H' ∧ ∃ ys, H' D = some (.lst ys) ∧ Paired (IsSq H') ys ((c.every.take i).filter fun s => decide (0 ≤ c.val s))) ⟨same_new hD _, [], upd_same, .nil⟩ (fun i H' _ h => SqL.of (h.1 _ _ hp)) ?_ ?_
  · rintro i x H2 hx ⟨s2, ys, hD2, hpy⟩
    obtain ⟨sq, hsq, hx'⟩ := paired_get hxs hx
    have hx2 := hx'.tk (TK.of_same s2)
    have hw : c.within sq = true := Ch.mem_every.mp (List.mem_of_getElem? hsq)
    refine ⟨rfl, _, rfl, _, rfl, v, x, c, sq, rfl, hc.tk (TK.of_same (s1.trans s2)), hx2, g, hw, _, _, rfl, rfl, _, rfl, ?_⟩
    have hyl : ys.length ≤ 49 := by
      rw [pLen hpy]
      exact Nat.le_trans (List.length_filter_le _ _) (Nat.le_trans (by rw [List.length_take]; exact Nat.min_le_right _ _) (every_len g))
    rw [filter_snoc _ hsq]
    by_cases hv : 0 ≤ c.val sq
    · refine iteD hv ⟨_, rfl, ys, hD2, small99 (by omega), ?_⟩
      rw [if_pos (decide_eq_true hv)]
      have := snocL (R := IsSq) (fun _ _ _ _ h k => h.tk k) s2 hD (TK.refl _) hD2 hpy hx2
      exact ⟨this.1, _, this.2⟩
    · refine iteN hv ?_
      rw [if_neg (by simpa using hv), List.append_nil]
      exact ⟨s2, ys, hD2, hpy⟩
  · rintro H2 ⟨s2, ys, hD2, hpy⟩
    rw [List.take_of_length_le (by rw [pLen hxs]; exact Nat.le_refl _)] at hpy
    exact q _ _ _ (s1.trans s2) (s1.free hD) hD2 hpy
/-! ### sides -/
theorem sc_sides_of : FnScope ["chart", "found", "one", "other"] ["chart"] (defScope (top 22)) := ⟨rfl, rfl, rfl, by decide +kernel, rfl, by decide +kernel, by decide +kernel⟩
def spSides : SpV := fun vs H Q => ∃ v c, vs = [v] ∧ IsCh H v c ∧ c.Good ∧ RetL IsPr c.sidesOf H Q
def sideF (c : Ch) (one : Sq) : List (Sq × Sq) := ([(one.1, one.2 + 1), (one.1 + 1, one.2)].filter c.told).map fun o => (one, o)
theorem flat_snoc {α β : Type} (F : α → List β) {l : List α} {i : Nat} {x : α} (h : l[i]? = some x) : (l.take (i + 1)).flatMap F = (l.take i).flatMap F ++ F x := by
  rw [take_snoc h, List.flatMap_append]
  simp
theorem sides_len {c : Ch} (g : c.Good) (l : List Sq) : (l.flatMap (sideF c)).length ≤ 2 * l.length := by
  induction l with
  | nil => simp
  | cons x r ih =>
    rw [List.flatMap_cons, List.length_append, List.length_cons]
    have : (sideF c x).length ≤ 2 := by
      unfold sideF
      rw [List.length_map]
      exact List.length_filter_le _ _
    omega
theorem g_sides_of (T : Txt K mg) : G P w K mg base 3 "sides_of" spSides := by
  refine g_of 2 T.d_sides_of sc_sides_of (by rintro vs H Q ⟨v, c, rfl, _⟩; rfl) (fun _ _ _ _ _ _ us hl => match us, hl with | [_], _ => rfl) ?_
  rintro f cdv A outer s0 H vs Q E hr ⟨v, c, rfl, hc, g, q⟩
  have nd := sc_sides_of.nd
  refine ⟨_, (pss_cons (ps_set (i := 1) nd rfl (by first | exact Or.inl rfl | exact Or.inr rfl) (pe_lst pa_nil))
      (pss_cons (ps_for PassesOwn.never rfl (piL K (pe_callG (g_told_squares T) hr rfl (pa_cons (pv 0) pa_nil))) (pg_name (i := 2) nd rfl (by first | exact Or.inl rfl | exact Or.inr rfl)) (pss_one (ps_for PassesOwn.never rfl (piT K (pe_tup (pa_cons (pe_tup (pa_cons (pe_ix (ixT K) (pv 2) pe_int (fun _ _ => rfl)) (pa_cons (pe_op op_add (pe_ix (ixT K) (pv 2) pe_int (fun _ _ => rfl)) pe_int) pa_nil))) (pa_cons (pe_tup (pa_cons (pe_op op_add (pe_ix (ixT K) (pv 2) pe_int (fun _ _ => rfl)) pe_int) (pa_cons (pe_ix (ixT K) (pv 2) pe_int (fun _ _ => rfl)) pa_nil))) pa_nil)))) (pg_name (i := 3) nd rfl (by first | exact Or.inl rfl | exact Or.inr rfl)) (pss_one (ps_if (pt_val (pe_callG (g_is_told T) hr rfl (pa_cons (pv 0) (pa_cons (pv 3) pa_nil)))) (pss_one (ps_expr (pe_bm PySem.F.plainAttrs_list PySem.F.slot_list_append PySem.F.type_list_append mt_append (pv 1) (pa_cons (pe_tup (pa_cons (pv 2) (pa_cons (pv 3) pa_nil))) pa_nil)))) pss_nil)))))
      (pss_one (ps_ret (pv 1))))), ?_⟩
  refine ⟨Nat.zero_le _, fun D hD => ?_⟩
  have sD := same_new hD (.lst [])
  refine ⟨_, rfl, v, c, rfl, hc.tk (.of_same sD), g, fun H1 p xs s1 p0 hp hxs => ⟨p, rfl, ⟨_, SqL.of hp⟩, ?_⟩⟩
  have pD : p ≠ D := fun e => by rw [e, upd_same] at p0; cases p0
  refine for_list (K := K) (a := p) (xs := xs) (fun i σ H' => ∃ o1 o2, σ = [some v, some (.ref D), o1, o2] ∧ Same H H' ∧ H' p = some (.lst xs) ∧ Paired (IsSq H') xs c.toldSq ∧ ∃ ys, H' D = some (.lst ys) ∧ Paired (IsPr H') ys ((c.toldSq.take i).flatMap (sideF c)))
    ⟨none, none, rfl, sD.trans s1, hp, hxs, [], s1 _ _ upd_same, .nil⟩ (fun i σ H' _ h => SqL.of h.choose_spec.choose_spec.2.2.1) ?_ ?_
  · rintro i x σ H2 hx ⟨o1, o2, rfl, s2, hp2, hxs2, ys, hD2, hpy⟩
    obtain ⟨one, hone, hx2⟩ := paired_get hxs2 hx
    obtain ⟨ax, rfl, hax⟩ := id hx2
    have hi : i < c.toldSq.length := (List.getElem?_eq_some_iff.mp hone).1
    have hyl : ys.length ≤ 98 := by
      rw [pLen hpy]
      refine Nat.le_trans (sides_len g _) ?_
      rw [List.length_take]
      have := told_len g
      omega
    refine ⟨_, rfl, ax, _, _, _, rfl, rfl, SqT.of hax, rfl, _, rfl, ax, _, _, _, rfl, rfl, SqT.of hax, rfl, _, _, rfl, rfl, (by show 2 ≤ sizeLine; decide), fun q1 n1 => ?_⟩
    have hax1 := at_new hax n1 (u := .tup [.int one.1, .int (one.2 + 1)])
    refine ⟨_, rfl, ax, _, _, _, rfl, rfl, SqT.of hax1, rfl, _, _, rfl, rfl, _, rfl, ax, _, _, _, rfl, rfl, SqT.of hax1, rfl, (by show 2 ≤ sizeLine; decide), fun q2 n2 => ?_⟩
    refine ⟨(by show 2 ≤ sizeLine; decide), fun q3 n3 => ⟨q3, rfl, ⟨_, SqT.of upd_same⟩, ?_⟩⟩
    have t1 := same_new n1 (.tup [.int one.1, .int (one.2 + 1)])
    have t2 := same_new n2 (.tup [.int (one.1 + 1), .int one.2])
    have t3 := same_new n3 (.tup [.ref q1, .ref q2])
    have t := t1.trans (t2.trans t3)
    refine for_tup (K := K) (a := q3) (xs := [.ref q1, .ref q2]) (fun j σ H' => ∃ o2, σ = [some v, some (.ref D), some (.ref ax), o2] ∧ Same H H' ∧ H' p = some (.lst xs) ∧ Paired (IsSq H') xs c.toldSq ∧ IsSq H' (.ref ax) one ∧ H' q3 = some (.tup [.ref q1, .ref q2]) ∧
        IsSq H' (.ref q1) (one.1, one.2 + 1) ∧ IsSq H' (.ref q2) (one.1 + 1, one.2) ∧
        ∃ ys, H' D = some (.lst ys) ∧ Paired (IsPr H') ys ((c.toldSq.take i).flatMap (sideF c) ++ ((([(one.1, one.2 + 1), (one.1 + 1, one.2)] : List Sq).take j).filter c.told).map fun o => (one, o)))
      ⟨o2, rfl, s2.trans t, t _ _ hp2, pTk (fun _ _ _ _ h k => h.tk k) hxs2 (.of_same t), hx2.tk (.of_same t), upd_same, ⟨q1, rfl, t3 _ _ (t2 _ _ upd_same)⟩, ⟨q2, rfl, t3 _ _ upd_same⟩, ys, t _ _ hD2, by
        simp only [List.take_zero, List.filter_nil, List.map_nil, List.append_nil]; exact pTk (fun _ _ _ _ h k => h.tk k) hpy (.of_same t)⟩
      (fun j σ H' _ ⟨_, _, _, _, _, _, h, _⟩ => SqT.of h) ?_ ?_
    · rintro j y σ H3 hy ⟨o2, rfl, s3, hp3, hxs3, hx3, hq3, hq1, hq2, ys, hD3, hpy⟩
      obtain ⟨o, ho, hyo⟩ : ∃ o, ([(one.1, one.2 + 1), (one.1 + 1, one.2)] : List Sq)[j]? = some o ∧ IsSq H3 y o := by
        match j, hy with
        | 0, hy => cases hy; exact ⟨_, rfl, hq1⟩
        | 1, hy => cases hy; exact ⟨_, rfl, hq2⟩
      refine ⟨_, rfl, _, rfl, v, y, c, o, rfl, hc.tk (.of_same s3), hyo, g, _, rfl, ?_⟩
      have hyl : ys.length ≤ 200 := by
        rw [pLen hpy, List.length_append, List.length_map]
        have h1 : (((([(one.1, one.2 + 1), (one.1 + 1, one.2)] : List Sq).take j).filter c.told)).length ≤ 2 := Nat.le_trans (List.length_filter_le _ _) (by rw [List.length_take]; exact Nat.min_le_right _ _)
        have h2 := sides_len g (c.toldSq.take i)
        rw [List.length_take] at h2
        have := told_len g
        omega
      rw [filter_snoc _ ho, List.map_append, ← List.append_assoc]
      refine iteB (fun ht => ?_) (fun ht => ?_)
      · rw [if_pos ht]
        refine ⟨_, rfl, .inl ⟨rfl, _, SqL.of hD3⟩, _, rfl, _, rfl, (by show 2 ≤ sizeLine; decide), fun tt nt => ?_⟩
        have u1 := same_new nt (.tup [.ref ax, y])
        refine ⟨D, ys, _, rfl, rfl, at_new hD3 nt, small99 (by omega), ?_⟩
        have := snocL (R := IsPr) (fun _ _ _ _ h k => h.tk k) (s3.trans u1) hD (.of_same u1) (at_new hD3 nt) hpy (a := (one, o)) (y := .ref tt) ⟨tt, _, _, rfl, upd_same, hx3.tk (.of_same u1), hyo.tk (.of_same u1)⟩
        have k2 : TK (upd H3 tt (.tup [.ref ax, y])) (upd (upd H3 tt (.tup [.ref ax, y])) D (.lst (ys ++ [.ref tt]))) := TK.put (at_new hD3 nt) fun xs e => by cases e
        have k3 := (TK.of_same u1).trans k2
        refine ⟨_, rfl, this.1, by rw [upd_ne pD]; exact u1 _ _ hp3, pTk (fun _ _ _ _ h k => h.tk k) hxs3 k3, hx3.tk k3, k3 _ _ hq3, hq1.tk k3, hq2.tk k3, _, this.2⟩
      · rw [if_neg (by rw [ht]; exact Bool.false_ne_true), List.map_nil, List.append_nil]
        exact ⟨_, rfl, s3, hp3, hxs3, hx3, hq3, hq1, hq2, ys, hD3, hpy⟩
    · rintro σ H3 ⟨o2, rfl, s3, hp3, hxs3, hx3, hq3, hq1, hq2, ys, hD3, hpy⟩
      refine ⟨_, _, rfl, s3, hp3, hxs3, ys, hD3, ?_⟩
      rw [flat_snoc _ hone]
      exact hpy
  · rintro σ H2 ⟨o1, o2, rfl, s2, hp2, hxs2, ys, hD2, hpy⟩
    rw [List.take_of_length_le (by rw [pLen hxs]; exact Nat.le_refl _)] at hpy
    exact ⟨_, rfl, q _ _ _ s2 hD hD2 hpy⟩
/-! ### is_side, flanks -/
theorem sc_is_side : FnScope ["chart", "pair"] ["chart", "pair"] (defScope (top 28)) := ⟨rfl, rfl, rfl, by decide +kernel, rfl, by decide +kernel, by decide +kernel⟩
def spSide : SpV := fun vs H Q => ∃ v u c p, vs = [v, u] ∧ IsCh H v c ∧ IsPr H u p ∧ c.Good ∧ Q (.bl (c.side p)) H
theorem g_is_side (T : Txt K mg) : G P w K mg base 3 "is_side" spSide := by
  refine g_of 2 T.d_is_side sc_is_side (by rintro vs H Q ⟨v, u, c, s, rfl, _⟩; rfl) (fun _ _ _ _ _ _ us hl => match us, hl with | [_, _], _ => rfl) ?_
  rintro f cdv A outer s0 H vs Q E hr ⟨v, u, c, p, rfl, hc, ⟨a, x, y, rfl, ha, hx, hy⟩, g, q⟩
  refine ⟨_, (pss_one (ps_ret (pe_and (pe_callG (g_is_told T) hr rfl (pa_cons (pv 0) (pa_cons (pe_ix (ixT K) (pv 1) pe_int (fun _ _ => rfl)) pa_nil))) (pe_one (pe_callG (g_is_told T) hr rfl (pa_cons (pv 0) (pa_cons (pe_ix (ixT K) (pv 1) pe_int (fun _ _ => rfl)) pa_nil))))))), ?_⟩
  refine ⟨_, rfl, _, rfl, a, _, _, _, rfl, rfl, SqT.of ha, rfl, v, x, c, p.1, rfl, hc, hx, g, _, rfl, ?_⟩
  unfold Ch.side at q
  refine iteB (fun e => ?_) (fun e => ?_)
  · rw [e] at q
    exact ⟨_, rfl, _, rfl, a, _, _, _, rfl, rfl, SqT.of ha, rfl, v, y, c, p.2, rfl, hc, hy, g, q⟩
  · rw [e] at q
    exact q
theorem sc_flanks : FnScope ["side", "row", "column", "below", "beyond"] ["side"] (defScope (top 36)) := ⟨rfl, rfl, rfl, by decide +kernel, rfl, by decide +kernel, by decide +kernel⟩
def spFlanks : SpV := fun vs H Q => ∃ u p, vs = [u] ∧ IsPr H u p ∧ ∀ H' t x y, Same H H' → H' t = some (.tup [x, y]) → IsSq H' x (flanks p).1 → IsSq H' y (flanks p).2 → Q (.ref t) H'
theorem g_flanks (T : Txt K mg) : G P w K mg base 1 "flanks" spFlanks := by
  refine g_of 0 T.d_flanks sc_flanks (by rintro vs H Q ⟨u, s, rfl, _⟩; rfl) (fun _ _ _ _ _ _ us hl => match us, hl with | [_], _ => rfl) ?_
  rintro f cdv A outer s0 H vs Q E hr ⟨u, p, rfl, ⟨a, x, y, rfl, ha, ⟨ax, rfl, hx⟩, ⟨ay, rfl, hy⟩⟩, q⟩
  have nd := sc_flanks.nd
  refine ⟨_, (pss_cons (ps_asg (pv 0) (pgT K (n := 2) rfl (pgs_cons (pgT K (n := 2) rfl (pgs_cons (pg_name (i := 1) nd rfl (by first | exact Or.inl rfl | exact Or.inr rfl)) (pgs_cons (pg_name (i := 2) nd rfl (by first | exact Or.inl rfl | exact Or.inr rfl)) pgs_nil))) (pgs_cons (pgT K (n := 2) rfl (pgs_cons (pg_name (i := 3) nd rfl (by first | exact Or.inl rfl | exact Or.inr rfl)) (pgs_cons (pg_name (i := 4) nd rfl (by first | exact Or.inl rfl | exact Or.inr rfl)) pgs_nil))) pgs_nil))))
      (pss_cons (ps_if (pt_cmpR op_eq (pv 3) (pv 1) (nomark _)) (pss_one (ps_ret (pe_tup (pa_cons (pe_tup (pa_cons (pv 1) (pa_cons (pv 2) pa_nil))) (pa_cons (pe_tup (pa_cons (pe_op op_sub (pv 1) pe_int) (pa_cons (pv 2) pa_nil))) pa_nil))))) pss_nil)
      (pss_one (ps_ret (pe_tup (pa_cons (pe_tup (pa_cons (pv 1) (pa_cons (pe_op op_sub (pv 2) pe_int) pa_nil))) (pa_cons (pe_tup (pa_cons (pv 1) (pa_cons (pv 2) pa_nil))) pa_nil))))))), ?_⟩
  refine ⟨_, rfl, a, _, rfl, SqT.of ha, rfl, _, _, rfl, ax, _, rfl, SqT.of hx, rfl, _, _, rfl, _, _, rfl, rfl, _, _, rfl, ay, _, rfl, SqT.of hy, rfl, _, _, rfl, _, _, rfl, rfl, rfl, ?_⟩
  refine ⟨_, rfl, _, rfl, rfl, _, rfl, ?_⟩
  unfold flanks at q
  by_cases e : p.2.1 = p.1.1
  · rw [if_pos e] at q
    refine iteD (by rw [e]) ⟨_, rfl, _, rfl, (by show 2 ≤ sizeLine; decide), fun p1 n1 => ⟨_, rfl, _, _, rfl, rfl, _, rfl, (by show 2 ≤ sizeLine; decide), fun p2 n2 => ⟨(by show 2 ≤ sizeLine; decide), fun p3 n3 => ?_⟩⟩⟩
    have t1 := same_new n1 (.tup [.int p.1.1, .int p.1.2])
    have t2 := same_new n2 (.tup [.int (p.1.1 - 1), .int p.1.2])
    have t3 := same_new n3 (.tup [.ref p1, .ref p2])
    exact q _ _ _ _ (t1.trans (t2.trans t3)) upd_same ⟨p1, rfl, t3 _ _ (t2 _ _ upd_same)⟩ ⟨p2, rfl, t3 _ _ upd_same⟩
  · rw [if_neg e] at q
    refine iteN (fun z => e (V.int.inj z)) ⟨_, rfl, _, rfl, _, _, rfl, rfl, (by show 2 ≤ sizeLine; decide), fun p1 n1 => ⟨_, rfl, _, rfl, (by show 2 ≤ sizeLine; decide), fun p2 n2 => ⟨(by show 2 ≤ sizeLine; decide), fun p3 n3 => ?_⟩⟩⟩
    have t1 := same_new n1 (.tup [.int p.1.1, .int (p.1.2 - 1)])
    have t2 := same_new n2 (.tup [.int p.1.1, .int p.1.2])
    have t3 := same_new n3 (.tup [.ref p1, .ref p2])
    exact q _ _ _ _ (t1.trans (t2.trans t3)) upd_same ⟨p1, rfl, t3 _ _ (t2 _ _ upd_same)⟩ ⟨p2, rfl, t3 _ _ upd_same⟩
end
end Wk

set_option maxRecDepth 100000
set_option maxHeartbeats 4000000
namespace Wk
open PySem PySem.Spec PyProof.Rows L2 Co
/-! ### dicts told by a list of keys and a function -/
def kv {ι κ : Type} (e : ι → κ) (ks : List ι) (f : ι → V) : List (κ × V) := ks.map fun s => (e s, f s)
def updF {ι : Type} [DecidableEq ι] (f : ι → V) (s : ι) (v : V) : ι → V := fun x => if x = s then v else f x
section
variable {ι κ : Type} [DecidableEq ι] [DecidableEq κ] {e : ι → κ}
theorem kv_len (ks : List ι) (f : ι → V) : (kv e ks f).length = ks.length := List.length_map ..
theorem val_kv (he : ∀ a b, e a = e b → a = b) (f : ι → V) (s : ι) : ∀ ks : List ι, valV (kv e ks f) (e s) = if s ∈ ks then some (f s) else none
  | [] => by simp [kv, valV]
  | k :: r => by
    show valV ((e k, f k) :: kv e r f) (e s) = _
    by_cases h : k = s
    · subst h
      rw [valV_pos rfl, if_pos List.mem_cons_self]
    · rw [valV_neg (fun z => h (he _ _ z)), val_kv he f s r]
      have : (s ∈ k :: r) ↔ s ∈ r := by simp [Ne.symm h]
      simp only [this]
theorem put_new (he : ∀ a b, e a = e b → a = b) {ks : List ι} {f : ι → V} {s : ι} (h : s ∉ ks) (v : V) : putK (kv e ks f) (e s) v = kv e (ks ++ [s]) (updF f s v) := by
  rw [putK_new v (by rw [val_kv he, if_neg h])]
  unfold kv
  rw [List.map_append]
  congr 1
  · refine List.map_congr_left fun x hx => ?_
    have : x ≠ s := fun z => h (z ▸ hx)
    simp [updF, this]
  · simp [updF]
theorem put_old (he : ∀ a b, e a = e b → a = b) {ks : List ι} {f : ι → V} {s : ι} (h : s ∈ ks) (v : V) : putK (kv e ks f) (e s) v = kv e ks (updF f s v) := by
  unfold putK
  rw [valV_any, val_kv he, if_pos h]
  simp only [Option.isSome_some, if_true]
  unfold kv
  rw [List.map_map]
  refine List.map_congr_left fun x _ => ?_
  by_cases z : x = s
  · subst z; simp [updF]
  · have : ¬ e x = e s := fun y => z (he _ _ y)
    simp [updF, z, this]
end
def sk (s : Sq) : List Key := [Sum.inl s.1, Sum.inl s.2]
theorem sk_inj (a b : Sq) (h : sk a = sk b) : a = b := by
  have h1 : a.1 = b.1 := by injection h with h1 _; injection h1
  have h2 : a.2 = b.2 := by injection h with _ h2; injection h2 with h2 _; injection h2
  exact Prod.ext h1 h2
theorem get_in {H : Hp} {d : Addr} {y : V} {s : Sq} {ks : List Sq} {f : Sq → V} (h : Rd H d (.dT (kv sk ks f))) (hy : IsSq H y s) (hs : s ∈ ks) : DGet H d y (some (f s)) := by
  obtain ⟨a, rfl, ha⟩ := hy
  exact .inr ⟨_, sk s, a, h, rfl, ha, by rw [val_kv sk_inj, if_pos hs]⟩
theorem get_out {H : Hp} {d : Addr} {y : V} {s : Sq} {ks : List Sq} {f : Sq → V} (h : Rd H d (.dT (kv sk ks f))) (hy : IsSq H y s) (hs : s ∉ ks) : DGet H d y none := by
  obtain ⟨a, rfl, ha⟩ := hy
  exact .inr ⟨_, sk s, a, h, rfl, ha, by rw [val_kv sk_inj, if_neg hs]⟩
theorem put_sk {H : Hp} {d : Addr} {y v : V} {s : Sq} {ks : List Sq} {f : Sq → V} (h : H d = some (.dT (kv sk ks f))) (hy : IsSq H y s) (hs : s ∈ ks) (hl : ks.length ≤ 10000) : DPut H d y v (upd H d (.dT (kv sk ks (updF f s v)))) := by
  obtain ⟨a, rfl, ha⟩ := hy
  rw [← put_old sk_inj hs v]
  exact DPut.t h ha (by rw [kv_len]; exact small99 hl)
theorem put_sk_new {H : Hp} {d : Addr} {y v : V} {s : Sq} {ks : List Sq} {f : Sq → V} (h : H d = some (.dT (kv sk ks f))) (hy : IsSq H y s) (hs : s ∉ ks) (hl : ks.length ≤ 10000) : DPut H d y v (upd H d (.dT (kv sk (ks ++ [s]) (updF f s v)))) := by
  obtain ⟨a, rfl, ha⟩ := hy
  rw [← put_new sk_inj hs v]
  exact DPut.t h ha (by rw [kv_len]; exact small99 hl)
theorem kv_congr {ι κ : Type} {e : ι → κ} {ks : List ι} {f g : ι → V} (h : ∀ x ∈ ks, f x = g x) : kv e ks f = kv e ks g := List.map_congr_left fun x hx => by rw [h x hx]
/-- tuples stay, all but one object stays -/
theorem Same.put_new {H0 H : Hp} (h : Same H0 H) {d : Addr} (hd : H0 d = none) (o : HO) : Same H0 (upd H d o) := sapp h hd o
section
variable {P : Program} {w : World} {K : PySem.W.Frag} {mg : Str → Option Value} {base : Heap}
/-! ### across -/
theorem sc_across : FnScope ["corner", "row", "column", "one", "two", "three", "four", "near"] ["corner"] (defScope (top 27)) := ⟨rfl, rfl, rfl, by decide +kernel, rfl, by decide +kernel, by decide +kernel⟩
def spAcross : SpV := fun vs H Q => ∃ v s, vs = [v] ∧ IsSq H v s ∧ RetL IsIt (across s) H Q
theorem g_across (T : Txt K mg) : G P w K mg base 2 "across" spAcross := by
  refine g_of 1 T.d_across sc_across (by rintro vs H Q ⟨v, s, rfl, _⟩; rfl) (fun _ _ _ _ _ _ us hl => match us, hl with | [_], _ => rfl) ?_
  rintro f cdv A outer s0 H vs Q E hr ⟨v, s, rfl, ⟨d, rfl, hd⟩, q⟩
  have nd := sc_across.nd
  refine ⟨_, (pss_cons (ps_asg (pv 0) (pgT K (n := 2) rfl (pgs_cons (pg_name (i := 1) nd rfl (by first | exact Or.inl rfl | exact Or.inr rfl)) (pgs_cons (pg_name (i := 2) nd rfl (by first | exact Or.inl rfl | exact Or.inr rfl)) pgs_nil))))
      (pss_cons (ps_asg (pe_callG (g_about T) hr rfl (pa_cons (pv 0) pa_nil)) (pgU K (n := 4) rfl (pgs_cons (pg_name (i := 3) nd rfl (by first | exact Or.inl rfl | exact Or.inr rfl)) (pgs_cons (pg_name (i := 4) nd rfl (by first | exact Or.inl rfl | exact Or.inr rfl)) (pgs_cons (pg_name (i := 5) nd rfl (by first | exact Or.inl rfl | exact Or.inr rfl)) (pgs_cons (pg_name (i := 6) nd rfl (by first | exact Or.inl rfl | exact Or.inr rfl)) pgs_nil))))))
      (pss_cons (ps_set (i := 7) nd rfl (by first | exact Or.inl rfl | exact Or.inr rfl) (pe_lst (pa_cons (pe_tup (pa_cons (pe_op op_sub (pv 1) pe_int) (pa_cons (pv 2) pa_nil))) (pa_cons (pe_tup (pa_cons (pv 1) (pa_cons (pe_op op_add (pv 2) pe_int) pa_nil))) (pa_cons (pe_tup (pa_cons (pe_op op_add (pv 1) pe_int) (pa_cons (pv 2) pa_nil))) (pa_cons (pe_tup (pa_cons (pv 1) (pa_cons (pe_op op_sub (pv 2) pe_int) pa_nil))) pa_nil))))))
      (pss_one (ps_ret (pe_zipS rfl rfl T.n_list rfl T.n_zip (pa_cons (pe_lst (pa_cons (pe_tup (pa_cons (pv 3) (pa_cons (pv 4) pa_nil))) (pa_cons (pe_tup (pa_cons (pv 4) (pa_cons (pv 5) pa_nil))) (pa_cons (pe_tup (pa_cons (pv 5) (pa_cons (pv 6) pa_nil))) (pa_cons (pe_tup (pa_cons (pv 6) (pa_cons (pv 3) pa_nil))) pa_nil))))) (pa_cons (pv 7) pa_nil)) pe_bl)))))), ?_⟩
  refine ⟨_, rfl, d, _, rfl, SqT.of hd, rfl, _, _, rfl, _, _, rfl, rfl, ?_⟩
  refine ⟨_, rfl, _, s, rfl, ⟨d, rfl, hd⟩, fun H1 p xs s1 p0 hp hxs => ?_⟩
  obtain ⟨a1, a2, a3, a4, rfl, h1, h2, h3, h4⟩ : ∃ a1 a2 a3 a4, xs = [a1, a2, a3, a4] ∧ IsSq H1 a1 (s.1, s.2) ∧ IsSq H1 a2 (s.1, s.2 + 1) ∧ IsSq H1 a3 (s.1 + 1, s.2 + 1) ∧ IsSq H1 a4 (s.1 + 1, s.2) := by
    cases hxs with
    | cons r1 t => cases t with
      | cons r2 t => cases t with
        | cons r3 t => cases t with
          | cons r4 t => cases t; exact ⟨_, _, _, _, rfl, r1, r2, r3, r4⟩
  refine ⟨p, _, rfl, SqL.of hp, rfl, _, _, rfl, _, _, rfl, _, _, rfl, _, _, rfl, rfl, ?_⟩
  refine ⟨_, rfl, _, _, rfl, rfl, _, rfl, (by show 2 ≤ sizeLine; decide), fun p1 n1 => ?_⟩
  refine ⟨_, rfl, _, rfl, _, _, rfl, rfl, (by show 2 ≤ sizeLine; decide), fun p2 n2 => ?_⟩
  refine ⟨_, rfl, _, _, rfl, rfl, _, rfl, (by show 2 ≤ sizeLine; decide), fun p3 n3 => ?_⟩
  refine ⟨_, rfl, _, rfl, _, _, rfl, rfl, (by show 2 ≤ sizeLine; decide), fun p4 n4 => ?_⟩
  refine ⟨(by show 4 ≤ sizeLine; decide), fun pn nn => ?_⟩
  refine ⟨_, rfl, _, rfl, (by show 2 ≤ sizeLine; decide), fun q1 m1 => ?_⟩
  refine ⟨_, rfl, _, rfl, (by show 2 ≤ sizeLine; decide), fun q2 m2 => ?_⟩
  refine ⟨_, rfl, _, rfl, (by show 2 ≤ sizeLine; decide), fun q3 m3 => ?_⟩
  refine ⟨_, rfl, _, rfl, (by show 2 ≤ sizeLine; decide), fun q4 m4 => ?_⟩
  refine ⟨(by show 4 ≤ sizeLine; decide), fun qn mn => ?_⟩
  have t1 := same_new n1 (.tup [.int (s.1 - 1), .int s.2])
  have t2 := same_new n2 (.tup [.int s.1, .int (s.2 + 1)])
  have t3 := same_new n3 (.tup [.int (s.1 + 1), .int s.2])
  have t4 := same_new n4 (.tup [.int s.1, .int (s.2 - 1)])
  have tn := same_new nn (.lst [.ref p1, .ref p2, .ref p3, .ref p4])
  have u1 := same_new m1 (.tup [a1, a2])
  have u2 := same_new m2 (.tup [a2, a3])
  have u3 := same_new m3 (.tup [a3, a4])
  have u4 := same_new m4 (.tup [a4, a1])
  have un := same_new mn (.lst [.ref q1, .ref q2, .ref q3, .ref q4])
  have tt := t1.trans (t2.trans (t3.trans (t4.trans tn)))
  have uu := u1.trans (u2.trans (u3.trans (u4.trans un)))
  have all := tt.trans uu
  refine ⟨_, rfl, qn, pn, _, _, rfl, SqL.of upd_same, SqL.of (uu _ _ upd_same), rfl, (by show 1 ≤ 4; decide), fun H' l as sm nl hl2 hpr => ?_⟩
  have kk : TK H1 H' := .of_same (all.trans sm)
  refine q H' l _ (s1.trans (all.trans sm)) ((s1.trans all).free nl) hl2 ?_
  have k1 : IsSq H' (.ref p1) (s.1 - 1, s.2) := ⟨p1, rfl, sm _ _ (uu _ _ (tn _ _ (t4 _ _ (t3 _ _ (t2 _ _ upd_same)))))⟩
  have k2 : IsSq H' (.ref p2) (s.1, s.2 + 1) := ⟨p2, rfl, sm _ _ (uu _ _ (tn _ _ (t4 _ _ (t3 _ _ upd_same))))⟩
  have k3 : IsSq H' (.ref p3) (s.1 + 1, s.2) := ⟨p3, rfl, sm _ _ (uu _ _ (tn _ _ (t4 _ _ upd_same)))⟩
  have k4 : IsSq H' (.ref p4) (s.1, s.2 - 1) := ⟨p4, rfl, sm _ _ (uu _ _ (tn _ _ upd_same))⟩
  have j1 : IsPr H' (.ref q1) ((s.1, s.2), (s.1, s.2 + 1)) := ⟨q1, a1, a2, rfl, sm _ _ (un _ _ (u4 _ _ (u3 _ _ (u2 _ _ upd_same)))), h1.tk kk, h2.tk kk⟩
  have j2 : IsPr H' (.ref q2) ((s.1, s.2 + 1), (s.1 + 1, s.2 + 1)) := ⟨q2, a2, a3, rfl, sm _ _ (un _ _ (u4 _ _ (u3 _ _ upd_same))), h2.tk kk, h3.tk kk⟩
  have j3 : IsPr H' (.ref q3) ((s.1 + 1, s.2 + 1), (s.1 + 1, s.2)) := ⟨q3, a3, a4, rfl, sm _ _ (un _ _ (u4 _ _ upd_same)), h3.tk kk, h4.tk kk⟩
  have j4 : IsPr H' (.ref q4) ((s.1 + 1, s.2), (s.1, s.2)) := ⟨q4, a4, a1, rfl, sm _ _ (un _ _ upd_same), h4.tk kk, h1.tk kk⟩
  cases hpr with
  | cons e1 t => cases t with
    | cons e2 t => cases t with
      | cons e3 t => cases t with
        | cons e4 t => cases t; exact .cons ⟨_, _, _, rfl, e1, j1, k1⟩ (.cons ⟨_, _, _, rfl, e2, j2, k2⟩ (.cons ⟨_, _, _, rfl, e3, j3, k3⟩ (.cons ⟨_, _, _, rfl, e4, j4, k4⟩ .nil)))
/-! ### whirl -/
theorem sc_whirl : FnScope ["chart", "corner", "found", "pair", "near"] ["chart", "corner"] (defScope (top 29)) := ⟨rfl, rfl, rfl, by decide +kernel, rfl, by decide +kernel, by decide +kernel⟩
def spWhirl : SpV := fun vs H Q => ∃ v u c s, vs = [v, u] ∧ IsCh H v c ∧ IsSq H u s ∧ c.Good ∧ ∀ H', Same H H' → Q (.int (c.whirl s)) H'
theorem side_in {c : Ch} {p : Sq × Sq} (h : c.side p = true) : c.within p.1 = true ∧ c.within p.2 = true := by
  unfold Ch.side Ch.told at h
  simp only [Bool.and_eq_true] at h
  exact ⟨h.1.1, h.2.1⟩
theorem g_whirl (T : Txt K mg) : G P w K mg base 4 "whirl" spWhirl := by
  refine g_of 3 T.d_whirl sc_whirl (by rintro vs H Q ⟨v, u, c, s, rfl, _⟩; rfl) (fun _ _ _ _ _ _ us hl => match us, hl with | [_, _], _ => rfl) ?_
  rintro f cdv A outer s0 H vs Q E hr ⟨v, u, c, s, rfl, hc, hs, g, q⟩
  obtain ⟨ca, cb, crs, ecv, hca, _⟩ := id hc
  have nd := sc_whirl.nd
  refine ⟨_, (pss_cons (ps_set (i := 2) nd rfl (by first | exact Or.inl rfl | exact Or.inr rfl) pe_int)
      (pss_cons (ps_for PassesOwn.never rfl (piL K (pe_callG (g_across T) hr rfl (pa_cons (pv 1) pa_nil))) (pgT K (n := 2) rfl (pgs_cons (pg_name (i := 3) nd rfl (by first | exact Or.inl rfl | exact Or.inr rfl)) (pgs_cons (pg_name (i := 4) nd rfl (by first | exact Or.inl rfl | exact Or.inr rfl)) pgs_nil))) (pss_one (ps_if (pt_val (pe_callG (g_is_side T) hr rfl (pa_cons (pv 0) (pa_cons (pv 3) pa_nil)))) (pss_one (ps_aug (i := 2) nd rfl (by first | exact Or.inl rfl | exact Or.inr rfl) (pe_callG (g_step_of T) hr rfl (pa_cons (pe_ix (ixT K) (pv 0) pe_int (fun _ _ => rfl)) (pa_cons (pe_callG (g_value T) hr rfl (pa_cons (pv 0) (pa_cons (pe_ix (ixT K) (pv 3) pe_int (fun _ _ => rfl)) pa_nil))) (pa_cons (pe_callG (g_value T) hr rfl (pa_cons (pv 0) (pa_cons (pe_ix (ixT K) (pv 3) pe_int (fun _ _ => rfl)) pa_nil))) pa_nil)))) ip_add)) pss_nil)))
      (pss_one (ps_ret (pv 2))))), ?_⟩
  refine ⟨_, rfl, u, s, rfl, hs, fun H1 p xs s1 p0 hp hxs => ⟨p, rfl, ⟨_, SqL.of hp⟩, ?_⟩⟩
  refine for_list (K := K) (a := p) (xs := xs) (fun i σ H' => ∃ o1 o2, σ = [some v, some u, some (.int (((across s).take i).foldl c.whItem 0)), o1, o2] ∧ Same H1 H')
    ⟨none, none, rfl, Same.refl _⟩ (fun i σ H' _ h => SqL.of (h.choose_spec.choose_spec.2 _ _ hp)) ?_ ?_
  · rintro i x σ H2 hx ⟨o1, o2, rfl, s2⟩
    obtain ⟨it, hit, hx'⟩ := paired_get hxs hx
    obtain ⟨a, px, nx, rfl, ha, ⟨b, x1, x2, rfl, hb, hx1, hx2⟩, hn⟩ := hx'.tk (TK.of_same s2)
    have hc2 := hc.tk (TK.of_same (s1.trans s2))
    have hca2 := (s1.trans s2) _ _ hca
    rw [foldl_take _ _ hit]
    refine ⟨a, _, rfl, SqT.of ha, rfl, _, _, rfl, _, _, rfl, rfl, ?_⟩
    refine ⟨_, rfl, _, rfl, v, .ref b, c, it.1, rfl, hc2, ⟨b, x1, x2, rfl, hb, hx1, hx2⟩, g, _, rfl, ?_⟩
    refine iteB (fun hside => ?_) (fun hside => ?_)
    · obtain ⟨w1, w2⟩ := side_in hside
      subst ecv
      refine ⟨_, rfl, _, rfl, ca, _, _, _, rfl, rfl, SqT.of hca2, rfl, _, rfl, _, rfl, b, _, _, _, rfl, rfl, SqT.of hb, rfl, _, x1, c, it.1.1, rfl, hc2, hx1, g, w1, _, rfl, _, rfl, b, _, _, _, rfl, rfl, SqT.of hb, rfl, _, x2, c, it.1.2, rfl, hc2, hx2, g, w2, ?_⟩
      refine ⟨c.clock, _, _, rfl, g.lo, g.hi, _, _, rfl, rfl, some (.ref b), some nx, ?_, s2⟩
      unfold Ch.whItem
      rw [if_pos hside]
      rfl
    · refine ⟨some (.ref b), some nx, ?_, s2⟩
      have e0 : c.whItem (((across s).take i).foldl c.whItem 0) it = ((across s).take i).foldl c.whItem 0 := by
        unfold Ch.whItem
        rw [if_neg (by rw [hside]; exact Bool.false_ne_true)]
      rw [e0]; rfl
  · rintro σ H2 ⟨o1, o2, rfl, s2⟩
    refine ⟨_, rfl, ?_⟩
    rw [List.take_of_length_le (by rw [pLen hxs]; exact Nat.le_refl _)]
    exact q _ (s1.trans s2)
end
end Wk

set_option maxRecDepth 100000
set_option maxHeartbeats 4000000
namespace Wk
open PySem PySem.Spec PyProof.Rows L2 Co
theorem perm_paired {α β : Type} {R : α → β → Prop} {xs xs' : List α} (h : xs'.Perm xs) : ∀ {l : List β}, Paired R xs l → ∃ l', Paired R xs' l' ∧ l'.Perm l := by
  induction h with
  | nil => intro l r; exact ⟨l, r, .refl _⟩
  | cons x _ ih =>
    intro l r
    cases r with
    | cons r t =>
      obtain ⟨l', h1, h2⟩ := ih t
      exact ⟨_, .cons r h1, h2.cons _⟩
  | swap x y l0 =>
    intro l r
    cases r with
    | cons r t => cases t with
      | cons r2 t => exact ⟨_, .cons r2 (.cons r t), .swap _ _ _⟩
  | trans _ _ ih1 ih2 =>
    intro l r
    obtain ⟨l1, h1, p1⟩ := ih2 r
    obtain ⟨l2, h2, p2⟩ := ih1 h1
    exact ⟨l2, h2, p2.trans p1⟩
theorem keys_sq {H : Hp} : ∀ {ks : List Sq} {f : Sq → V} {bs : List Addr}, IsKeys H (kv sk ks f) bs → Paired (IsSq H) (bs.map V.ref) ks
  | [], _, _, h => by cases h; exact .nil
  | k :: r, f, _, h => by
    cases h with
    | cons a t => exact .cons ⟨_, rfl, a⟩ (keys_sq (ks := r) (f := f) t)
theorem dpAll_sq {K : PySem.W.Frag} {H : Hp} : ∀ {xs : List V} {l : List Sq}, Paired (IsSq H) xs l → DpAll K H xs (l.map fun s => .tuple [.int s.1, .int s.2])
  | _, _, .nil => .nil
  | _, _, .cons ⟨a, e, h⟩ t => e ▸ .cons (.tup (SqT.of h) (.cons (.int _) (.cons (.int _) .nil))) (dpAll_sq t)
theorem lay_sq : ∀ l : List Sq, PyData.canLayAll0 (l.map fun s => .tuple [.int s.1, .int s.2]) = true
  | [] => by simp [PyData.canLayAll0]
  | x :: r => by rw [List.map_cons, PyData.canLayAll0, lay_sq r]; simp [PyData.canLay0, PyData.canLayAll0]
theorem depth_sq : ∀ l : List Sq, PyData.depthAll (l.map fun s => .tuple [.int s.1, .int s.2]) ≤ 1
  | [] => by simp [PyData.depthAll]
  | x :: r => by
    rw [List.map_cons, PyData.depthAll]
    have := depth_sq r
    have h2 : PyData.depth (.tuple [.int x.1, .int x.2]) = 1 := by simp [PyData.depth, PyData.depthAll]
    omega
theorem shaped_sq (l : List Sq) : SeqAt.shaped (.list (l.map fun s => .tuple [.int s.1, .int s.2])) = true := by
  have h := depth_sq l
  have h2 : PyData.depth (.list (l.map fun s => .tuple [.int s.1, .int s.2])) ≤ 64 := by rw [PyData.depth]; omega
  unfold SeqAt.shaped
  rw [decide_eq_true h2, PyData.canLay0, lay_sq l]
  rfl
theorem shaped_nil : SeqAt.shaped (.list []) = true := shaped_sq []
theorem eqv_nil (l : List Sq) : PyData.eqv (.list (l.map fun s => .tuple [.int s.1, .int s.2])) (.list []) = decide (l = []) := by
  cases l with
  | nil => simp [PyData.eqv, PyData.eqvAll]
  | cons x r => simp [PyData.eqv, PyData.eqvAll]
theorem ru1 {k : Nat} {A : Around} (r : Room k A) : A.units + 1 < cLine := by have := r.units; omega
theorem ru4 {k : Nat} {A : Around} (r : Room k A) : A.units + 4 < cLine := by have := r.units; omega
theorem ru16 {k : Nat} {A : Around} (r : Room k A) : A.units + 16 < cLine := by have := r.units; omega
section
variable {P : Program} {w : World} {K : PySem.W.Frag} {mg : Str → Option Value} {base : Heap}
/-! ### count_of -/
theorem countOf_perm (c : Ch) {l l' : List Sq} (h : l.Perm l') : c.countOf l = c.countOf l' := by
  unfold Ch.countOf
  rw [sum_perm (h.map _)]
theorem sc_count_of : FnScope ["chart", "some", "corner"] ["chart", "some"] (defScope (top 32)) := ⟨rfl, rfl, rfl, by decide +kernel, rfl, by decide +kernel, by decide +kernel⟩
def spCount : SpV := fun vs H Q => ∃ v p xs c l, vs = [v, .ref p] ∧ IsCh H v c ∧ H p = some (.lst xs) ∧ Paired (IsSq H) xs l ∧ l.length ≤ 10000 ∧ c.Good ∧ ∀ H', Same H H' → Q (.int (c.countOf l)) H'
theorem g_count_of (T : Txt K mg) : G P w K mg base 5 "count_of" spCount := by
  refine g_of 4 T.d_count_of sc_count_of (by rintro vs H Q ⟨v, p, xs, c, l, rfl, _⟩; rfl) (fun _ _ _ _ _ _ us hl => match us, hl with | [_, _], _ => rfl) ?_
  rintro f cdv A outer s0 H vs Q E hr ⟨v, p, xs, c, l, rfl, hc, hp, hxs, hlen, g, q⟩
  obtain ⟨ca, cb, crs, rfl, hca, _⟩ := id hc
  have nd := sc_count_of.nd
  refine ⟨_, (pss_one (ps_ret (pe_op op_fdiv (pe_callB (crSum K) (by rfl) T.n_sum (by decide +kernel) (pa_cons (pe_lc (own := [("corner", 2)]) rfl nd (piL K (pv 1)) (blkOk_by (by kernel_rfl)) (fun _ _ _ _ _ => (pg_name (i := 2) nd rfl (by first | exact Or.inl rfl | exact Or.inr rfl))) (fun _ _ _ _ _ => pts_nil) (fun _ _ _ _ _ => (pe_callG (g_whirl T) hr rfl (pa_cons (pv 0) (pa_cons (pv 2) pa_nil))))) pa_nil)) (pe_ix (ixT K) (pv 0) pe_int (fun _ _ => rfl))))), ?_⟩
  refine ⟨_, rfl, p, rfl, ⟨_, SqL.of hp⟩, fun D hD => ?_⟩
  refine lc_list (K := K) (a := p) (xs := xs) (fun i H' => Same H H' ∧ H' D = some (.lst (((l.take i).map c.whirl).map V.int))) ⟨same_new hD _, upd_same⟩ (fun i H' _ h => SqL.of (h.1 _ _ hp)) ?_ ?_
  · rintro i x H1 hx ⟨s1, hD1⟩
    obtain ⟨s, hs, hx'⟩ := paired_get hxs hx
    refine ⟨rfl, tyes ⟨_, rfl, _, rfl, _, x, c, s, rfl, hc.tk (.of_same s1), hx'.tk (.of_same s1), g, fun H2 s2 => ⟨_, s2 _ _ hD1, ?_, sapp (s1.trans s2) hD _, ?_⟩⟩⟩
    · rw [List.length_map, List.length_map, List.length_take]
      exact small99 (by omega)
    · rw [upd_same, take_snoc hs, List.map_append, List.map_append]; rfl
  · rintro H1 ⟨s1, hD1⟩
    rw [List.take_of_length_le (by rw [pLen hxs]; exact Nat.le_refl _)] at hD1
    refine ⟨D, _, rfl, SqL.of hD1, _, rfl, ca, _, _, _, rfl, rfl, SqT.of (s1 _ _ hca), rfl, _, _, rfl, rfl, ⟨by have := g.lo; omega, by have := g.hi; omega⟩, q _ s1⟩
/-! ### grown -/
theorem sc_grown : FnScope ["chart", "corner", "known", "seen", "line", "outside", "pair", "near"] ["chart", "corner", "known"] (defScope (top 30)) := ⟨rfl, rfl, rfl, by decide +kernel, rfl, by decide +kernel, by decide +kernel⟩
def tt : V := .bl true
def spGrown : SpV := fun vs H Q => ∃ v u d c s, vs = [v, u, .ref d] ∧ IsCh H v c ∧ IsSq H u s ∧ c.Good ∧ s ∈ c.corners ∧ Rd H d (.dT (kv sk c.corners fun _ => tt)) ∧
  ∀ H' t p xs l, Same H H' → H p = none → H' t = some (.tup [.ref p, .bl (Co.grown c s).out]) → H' p = some (.lst xs) → Paired (IsSq H') xs l → l.Perm (Co.grown c s).seen → Q (.ref t) H'
theorem corners_len {c : Ch} (g : c.Good) : c.corners.length ≤ 36 := by
  rw [Ch.corners, gridOf_length]
  have h9 : c.high ≤ 7 := g.h9
  have w9 := g.w9
  exact Nat.mul_le_mul (by omega : c.wide - 1 ≤ 6) (by omega : c.high - 1 ≤ 6)
def Rg (c : Ch) (v u : V) (d sd ld : Addr) (H H' : Hp) (st : GS) : Prop := Same H H' ∧ H' sd = some (.dT (kv sk st.seen fun _ => tt)) ∧ ∃ ys, H' ld = some (.lst ys) ∧ Paired (IsSq H') ys st.line
theorem rd_same {H H' : Hp} {d : Addr} {u : HO} (s : Same H H') (h : Rd H d u) : Rd H' d u := by
  rcases h with h | ⟨o, h⟩
  · exact .inl (s _ _ h)
  · exact .inr ⟨o, s _ _ h⟩
theorem getLast_at {α : Type} {l : List α} {d : α} (h : l ≠ []) : l[l.length - 1]? = some (l.getLastD d) := by
  rw [List.getLastD_eq_getLast?, ← List.getLast?_eq_getElem?]
  cases e : l.getLast? with
  | none => exact absurd (List.getLast?_eq_none_iff.mp e) h
  | some z => rfl
theorem paired_take {α β : Type} {R : α → β → Prop} : ∀ {xs : List α} {l : List β}, Paired R xs l → ∀ n, Paired R (xs.take n) (l.take n)
  | _, _, .nil, n => by simp only [List.take_nil]; exact .nil
  | _, _, .cons r t, 0 => .nil
  | _, _, .cons r t, n + 1 => .cons r (paired_take t n)
theorem gLoop_end {c : Ch} {st : GS} (h : st.line = []) : ∀ m, gLoop c m st = st
  | 0 => rfl
  | m + 1 => by unfold gLoop; rw [if_pos h]
def GW (c : Ch) (v u : V) (d sd ld : Addr) (H : Hp) (s : Sq) (m : Nat) (σ : L2.St) (H' : Hp) : Prop :=
  ∃ st o1 o2, σ = [some v, some u, some (.ref d), some (.ref sd), some (.ref ld), some (.bl st.out), o1, o2] ∧ Rg c v u d sd ld H H' st ∧ GInv c s st none ∧ gSize c st ≤ m ∧ m ≤ gFuel c ∧ gLoop c m st = Co.grown c s
theorem dropLast_paired {α β : Type} {R : α → β → Prop} {xs : List α} {l : List β} (h : Paired R xs l) : Paired R xs.dropLast l.dropLast := by
  rw [List.dropLast_eq_take, List.dropLast_eq_take, pLen h]
  exact paired_take h _
theorem sq_tk {H H' : Hp} {xs : List V} {l : List Sq} (h : Paired (IsSq H) xs l) (k : TK H H') : Paired (IsSq H') xs l := pTk (fun _ _ _ _ h k => h.tk k) h k
theorem it_tk {H H' : Hp} {xs : List V} {l : List ((Sq × Sq) × Sq)} (h : Paired (IsIt H) xs l) (k : TK H H') : Paired (IsIt H') xs l := pTk (fun _ _ _ _ h k => h.tk k) h k
theorem kt_new (f : Sq → V) (ks : List Sq) (s : Sq) (h : ∀ x ∈ ks, f x = tt) : kv sk ks f = kv sk ks fun _ => tt := kv_congr h
theorem g_grown (T : Txt K mg) : G P w K mg base 4 "grown" spGrown := by
  refine g_of 3 T.d_grown sc_grown (by rintro vs H Q ⟨v, u, d, c, s, rfl, _⟩; rfl) (fun _ _ _ _ _ _ us hl => match us, hl with | [_, _, _], _ => rfl) ?_
  rintro f cdv A outer s0 H vs Q E hr ⟨v, u, d, c, s, rfl, hc, hs, g, hmem, hd, q⟩
  have nd := sc_grown.nd
  have hu := ru1 hr
  have hu16 := ru16 hr
  have hcl := corners_len g
  refine ⟨_, (pss_cons (ps_set (i := 3) nd rfl (by first | exact Or.inl rfl | exact Or.inr rfl) (pe_dispT hu (pv 1) pe_bl))
      (pss_cons (ps_set (i := 4) nd rfl (by first | exact Or.inl rfl | exact Or.inr rfl) (pe_lst (pa_cons (pv 1) pa_nil)))
      (pss_cons (ps_set (i := 5) nd rfl (by first | exact Or.inl rfl | exact Or.inr rfl) pe_bl)
      (pss_cons (ps_while PassesOwn.never (pt_cmpR (op_neD hr.units) (pv 4) (pe_lst pa_nil) (nomark _)) (pss_one (ps_for PassesOwn.never rfl (piL K (pe_callG (g_across T) hr rfl (pa_cons (pe_bm0 PySem.F.plainAttrs_list PySem.F.slot_list_pop PySem.F.type_list_pop mt_pop (pv 4)) pa_nil))) (pgT K (n := 2) rfl (pgs_cons (pg_name (i := 6) nd rfl (by first | exact Or.inl rfl | exact Or.inr rfl)) (pgs_cons (pg_name (i := 7) nd rfl (by first | exact Or.inl rfl | exact Or.inr rfl)) pgs_nil))) (pss_one (ps_if (pt_not (pt_val (pe_callG (g_is_side T) hr rfl (pa_cons (pv 0) (pa_cons (pv 6) pa_nil))))) (pss_one (ps_if (pt_cmp (pc_dnotin hu (pv 7) (pv 2)) (by with_unfolding_all rfl)) (pss_one (ps_set (i := 5) nd rfl (by first | exact Or.inl rfl | exact Or.inr rfl) pe_bl)) (pss_one (ps_if (pt_cmp (pc_dnotin hu (pv 7) (pv 3)) (by with_unfolding_all rfl)) (pss_cons (ps_dput hu (pv 3) (pv 7) pe_bl rfl)
      (pss_one (ps_expr (pe_bm PySem.F.plainAttrs_list PySem.F.slot_list_append PySem.F.type_list_append mt_append (pv 4) (pa_cons (pv 7) pa_nil))))) pss_nil)))) pss_nil)))))
      (pss_one (ps_ret (pe_tup (pa_cons (pe_callB (cr_sortedT hu16 rfl) (by rfl) T.n_sorted (by decide +kernel) (pa_cons (pv 3) pa_nil)) (pa_cons (pv 5) pa_nil))))))))), ?_⟩
  obtain ⟨b, rfl, hb⟩ := id hs
  intro sd hsd
  have e0 : upd H sd (.dT []) b = some (.tup ((sk s).map kV)) := by rw [upd_ne (ne_of_none hb hsd)]; exact hb
  refine ⟨_, rfl, upd_same, b, sk s, rfl, e0, ?_⟩
  have t1 : Same H (upd (upd H sd (.dT [])) sd (.dT [(sk s, tt)])) := sapp (same_new hsd _) hsd _
  rw [upd_upd] at t1 ⊢
  refine ⟨_, rfl, (by show 1 ≤ sizeLine; decide), fun ld hld => ?_⟩
  have t2 := t1.trans (same_new hld (.lst [.ref b]))
  have ldn : H ld = none := t1.free hld
  have sl : sd ≠ ld := fun e => by rw [e, upd_same] at hld; cases hld
  refine ⟨fun m σ H' => GW c v (.ref b) d sd ld H s m σ H', ⟨gFuel c, ⟨[s], [s], false⟩, none, none, rfl, ⟨t2, at_new upd_same hld, _, upd_same, .cons ⟨b, rfl, t2 _ _ hb⟩ .nil⟩, GInv.first, by unfold gSize gFuel; simp only [List.length_singleton]; have := List.length_pos_of_mem hmem; omega, Nat.le_refl _, rfl⟩, ?_⟩
  rintro m σ H1 ⟨st, o1, o2, rfl, ⟨s1, hsd1, ys, hld1, hys⟩, inv, hsz, hmf, hgl⟩
  refine ⟨_, rfl, (by show 0 ≤ sizeLine; decide), fun e he => ?_⟩
  have u1 := same_new he (.lst [])
  have hne : e ≠ sd := fun z => by rw [z, hsd1] at he; cases he
  have hnl : e ≠ ld := fun z => by rw [z, hld1] at he; cases he
  refine ⟨_, _, .lst (SqL.of (u1 _ _ hld1)) (dpAll_sq (sq_tk hys (.of_same u1))), .lst (SqL.of upd_same) .nil, shaped_sq _, shaped_nil, _, rfl, ?_⟩
  rw [eqv_nil]
  have s1e : Same H (upd H1 e (.lst [])) := s1.trans u1
  by_cases hl : st.line = []
  · rw [decide_eq_true hl]
    refine iteF ?_
    refine ⟨_, rfl, sd, _, rfl, .inl (u1 _ _ hsd1), ?_, fun bs cs p hK hperm hp => ⟨_, rfl, (by show 2 ≤ sizeLine; decide), fun t nt => ?_⟩⟩
    · intro p hp
      obtain ⟨k, _, rfl⟩ := List.mem_map.mp hp
      exact ⟨_, _, rfl⟩
    · obtain ⟨l, hl1, hl2⟩ := perm_paired (hperm.map V.ref) (keys_sq hK)
      have w1 := same_new hp (.lst (cs.map V.ref))
      have w2 := same_new nt (.tup [.ref p, .bl st.out])
      rw [gLoop_end hl m] at hgl
      rw [← hgl] at q
      refine q _ t p _ l (s1e.trans (w1.trans w2)) (s1e.free hp) upd_same (w2 _ _ upd_same) (sq_tk hl1 (.of_same (w1.trans w2))) hl2
  · rw [decide_eq_false hl]
    refine iteT ?_
    have hpos : 0 < st.line.length := List.length_pos_iff.mpr hl
    obtain ⟨m, rfl⟩ : ∃ m', m = m' + 1 := ⟨m - 1, by unfold gSize at hsz; omega⟩
    refine ⟨fun σ' H' => GW c v (.ref b) d sd ld H s m σ' H', fun σ' H' h => ⟨m, Nat.lt_succ_self _, h⟩, ?_⟩
    obtain ⟨y, hy, hyx⟩ := paired_get2 hys (getLast_at (d := (0, 0)) hl)
    have hld2 := u1 _ _ hld1
    refine ⟨_, rfl, .inl ⟨rfl, _, SqL.of hld2⟩, ld, ys, y, rfl, rfl, hld2, by rw [pLen hys]; exact hy, ?_⟩
    have k2 : TK H1 (upd (upd H1 e (.lst [])) ld (.lst ys.dropLast)) := (TK.of_same u1).trans (TK.put hld2 fun xs z => by cases z)
    refine ⟨y, _, rfl, hyx.tk k2, fun H3 p xs s3 p0 hp hxs => ⟨p, rfl, ⟨_, SqL.of hp⟩, ?_⟩⟩
    have ginv := inv.pop hl
    have hxl : st.line.getLastD (0, 0) ∈ st.seen := inv.line _ (getLastD_mem hl).1
    generalize hx : st.line.getLastD (0, 0) = x at *
    have hpd : p ≠ sd := fun z => by rw [z, upd_ne sl, upd_ne (Ne.symm hne), hsd1] at p0; cases p0
    have hpl : p ≠ ld := fun z => by rw [z, upd_same] at p0; cases p0
    have s3H : Same H H3 := (sapp s1e ldn _).trans s3
    refine for_list (K := K) (a := p) (xs := xs) (fun i σ H' => ∃ o1 o2, σ = [some v, some (.ref b), some (.ref d), some (.ref sd), some (.ref ld), some (.bl (((across x).take i).foldl (gItem c) { st with line := st.line.dropLast }).out), o1, o2] ∧
        Rg c v (.ref b) d sd ld H H' (((across x).take i).foldl (gItem c) { st with line := st.line.dropLast }) ∧ H' p = some (.lst xs) ∧ Paired (IsIt H') xs (across x))
      ⟨o1, o2, rfl, ⟨s3H, s3 _ _ (by rw [upd_ne sl, upd_ne (Ne.symm hne)]; exact hsd1), _, s3 _ _ upd_same, sq_tk (dropLast_paired hys) (k2.trans (.of_same s3))⟩, hp, hxs⟩ (fun i σ H' _ h => SqL.of h.choose_spec.choose_spec.2.2.1) ?_ ?_
    · rintro i y' σ H4 hy' ⟨o1, o2, rfl, ⟨s4, hsd4, zs, hld4, hzs⟩, hp4, hxs4⟩
      obtain ⟨it, hit, a, pv, nv, rfl, ha, hpv, hnv⟩ := paired_get hxs4 hy'
      obtain ⟨gi, gx⟩ := GInv.items hmem (ys := (across x).take i) ginv hxl fun z hz => List.mem_of_mem_take hz
      have gs := gItems_size hmem (ys := (across x).take i) ginv hxl fun z hz => List.mem_of_mem_take hz
      have g1 := gi.size_le hmem
      rw [foldl_take _ _ hit]
      generalize hst : ((across x).take i).foldl (gItem c) { st with line := st.line.dropLast } = sti at *
      have hb1 : sti.line.length ≤ 1000 := by
        have : gSize c { st with line := st.line.dropLast } ≤ gSize c st := by unfold gSize; simp only [List.length_dropLast]; omega
        have h0 : gSize c sti ≤ 72 := by unfold gFuel at hmf; omega
        unfold gSize at h0
        omega
      obtain ⟨nb, rfl, hnb⟩ := id hnv
      refine ⟨a, _, rfl, SqT.of ha, rfl, _, _, rfl, _, _, rfl, rfl, ?_⟩
      refine ⟨_, rfl, _, rfl, v, pv, c, it.1, rfl, hc.tk (.of_same s4), hpv, g, _, rfl, ?_⟩
      unfold gItem
      cases hside : c.side it.1 with
      | true =>
        refine iteF ?_
        rw [if_pos rfl]
        exact ⟨_, _, rfl, ⟨s4, hsd4, zs, hld4, hzs⟩, hp4, hxs4⟩
      | false =>
        refine iteT ?_
        rw [if_neg Bool.false_ne_true]
        by_cases hk : it.2 ∈ c.corners
        · rw [if_neg (fun z => z hk)]
          refine ⟨_, rfl, _, rfl, _, _, rfl, get_in (rd_same s4 hd) hnv hk, _, rfl, iteF ?_⟩
          by_cases hse : it.2 ∈ sti.seen
          · rw [if_neg (fun z => z hse)]
            refine ⟨_, rfl, _, rfl, _, _, rfl, get_in (.inl hsd4) hnv hse, _, rfl, iteF ?_⟩
            exact ⟨_, _, rfl, ⟨s4, hsd4, zs, hld4, hzs⟩, hp4, hxs4⟩
          · rw [if_pos hse]
            refine ⟨_, rfl, _, rfl, _, _, rfl, get_out (.inl hsd4) hnv hse, _, rfl, iteT ?_⟩
            refine ⟨_, rfl, _, rfl, _, _, rfl, put_sk_new hsd4 hnv hse (by omega), ?_⟩
            have k5 : TK H4 (upd H4 sd (.dT (kv sk (sti.seen ++ [it.2]) (updF (fun _ => tt) it.2 (.bl true))))) := TK.put hsd4 fun xs z => by cases z
            have hld5 : upd H4 sd (.dT (kv sk (sti.seen ++ [it.2]) (updF (fun _ => tt) it.2 (.bl true)))) ld = some (.lst zs) := by rw [upd_ne (Ne.symm sl)]; exact hld4
            refine ⟨_, rfl, .inl ⟨rfl, _, SqL.of hld5⟩, _, rfl, ld, zs, _, rfl, rfl, hld5, small99 (by rw [pLen hzs]; omega), ?_⟩
            have k6 := k5.trans (TK.put (o := .lst (zs ++ [.ref nb])) hld5 fun xs z => by cases z)
            refine ⟨_, _, rfl, ⟨sapp (sapp s4 hsd _) ldn _, ?_, _, upd_same, .snoc (sq_tk hzs k6) (hnv.tk k6)⟩, ?_, it_tk hxs4 k6⟩
            · rw [upd_ne sl, upd_same, kv_congr (g := fun _ => tt) (fun z _ => by unfold updF; split <;> rfl)]
            · rw [upd_ne hpl, upd_ne hpd]; exact hp4
        · rw [if_pos hk]
          refine ⟨_, rfl, _, rfl, _, _, rfl, get_out (rd_same s4 hd) hnv hk, _, rfl, iteT ?_⟩
          exact ⟨_, _, rfl, ⟨s4, hsd4, zs, hld4, hzs⟩, hp4, hxs4⟩
    · rintro σ H4 ⟨o1, o2, rfl, ⟨s4, hsd4, zs, hld4, hzs⟩, hp4, hxs4⟩
      rw [List.take_of_length_le (by rw [pLen hxs]; exact Nat.le_refl _)] at hsd4 hzs ⊢
      have et : (across x).foldl (gItem c) { st with line := st.line.dropLast } = gTurn c st := by unfold gTurn; rw [hx]
      rw [et] at hsd4 hzs ⊢
      obtain ⟨i1, i2⟩ := inv.turn hmem hl
      refine ⟨gTurn c st, _, _, rfl, ⟨s4, hsd4, zs, hld4, hzs⟩, i1, by omega, by omega, ?_⟩
      rw [← hgl]
      show _ = if st.line = [] then st else gLoop c m (gTurn c st)
      rw [if_neg hl]
end
end Wk

set_option maxRecDepth 100000
set_option maxHeartbeats 4000000
namespace Wk
open PySem PySem.Spec PyProof.Rows L2 Co
theorem upn {H : Hp} {a b : Addr} {o : HO} (h : upd H a o b = none) : b ≠ a ∧ H b = none := by
  by_cases e : b = a
  · rw [e, upd_same] at h; cases h
  · rw [upd_ne e] at h; exact ⟨e, h⟩
/-! ### keys that grow -/
def insK {ι : Type} [DecidableEq ι] (ks : List ι) (s : ι) : List ι := if s ∈ ks then ks else ks ++ [s]
section
variable {ι : Type} [DecidableEq ι]
theorem mem_insK {ks : List ι} {s x : ι} : x ∈ insK ks s ↔ x ∈ ks ∨ x = s := by
  unfold insK
  by_cases h : s ∈ ks
  · rw [if_pos h]
    exact ⟨.inl, fun z => z.elim id fun e => e ▸ h⟩
  · rw [if_neg h, List.mem_append, List.mem_singleton]
theorem nodup_insK {ks : List ι} {s : ι} (h : ks.Nodup) : (insK ks s).Nodup := by
  unfold insK
  by_cases m : s ∈ ks
  · rw [if_pos m]; exact h
  · rw [if_neg m]
    exact List.nodup_append.mpr ⟨h, by simp, fun a ha b hb e => m (by rw [List.mem_singleton.mp hb] at e; exact e ▸ ha)⟩
end
theorem put_any {H : Hp} {d : Addr} {y v : V} {s : Sq} {ks : List Sq} {f : Sq → V} (h : H d = some (.dT (kv sk ks f))) (hy : IsSq H y s) (hl : ks.length ≤ 10000) : DPut H d y v (upd H d (.dT (kv sk (insK ks s) (updF f s v)))) := by
  by_cases hs : s ∈ ks
  · have e : insK ks s = ks := if_pos hs
    rw [e]
    exact put_sk h hy hs hl
  · have e : insK ks s = ks ++ [s] := if_neg hs
    rw [e]
    exact put_sk_new h hy hs hl
/-- all but the objects ds stay -/
def KeepB (ds : List Addr) (H H' : Hp) : Prop := ∀ b o, b ∉ ds → H b = some o → H' b = some o
theorem KeepB.refl (ds : List Addr) (H : Hp) : KeepB ds H H := fun _ _ _ h => h
theorem KeepB.trans {ds : List Addr} {H H1 H2 : Hp} (a : KeepB ds H H1) (b : KeepB ds H1 H2) : KeepB ds H H2 := fun c o n h => b c o n (a c o n h)
theorem KeepB.of_same {ds : List Addr} {H H' : Hp} (h : Same H H') : KeepB ds H H' := fun b o _ e => h b o e
theorem KeepB.put {ds : List Addr} {H : Hp} {d : Addr} (h : d ∈ ds) (o : HO) : KeepB ds H (upd H d o) := fun b u n e => by
  rw [upd_ne (show b ≠ d from fun z => n (by rw [z]; exact h))]; exact e
theorem KeepB.mono {ds es : List Addr} {H H' : Hp} (h : KeepB ds H H') (s : ∀ x ∈ ds, x ∈ es) : KeepB es H H' := fun b o n e => h b o (fun m => n (s b m)) e
/-- an eye's list, apart from ds -/
def IsEye (ds : List Addr) (H : Hp) (v : V) (e : List Sq) : Prop := ∃ p xs l, v = .ref p ∧ p ∉ ds ∧ H p = some (.lst xs) ∧ Paired (IsSq H) xs l ∧ l.Perm e
theorem IsEye.keep {ds : List Addr} {H H' : Hp} {v : V} {e : List Sq} (h : IsEye ds H v e) (k : KeepB ds H H') (t : TK H H') : IsEye ds H' v e :=
  let ⟨p, xs, l, e1, n, h1, h2, h3⟩ := h; ⟨p, xs, l, e1, n, k _ _ n h1, sq_tk h2 t, h3⟩
theorem eye_keep {ds : List Addr} {H H' : Hp} {vs : List V} {E : List (List Sq)} (h : Paired (IsEye ds H) vs E) (k : KeepB ds H H') (t : TK H H') : Paired (IsEye ds H') vs E := Paired.mapP h fun _ _ r => r.keep k t
/-- place and done, as dicts -/
def PlOk (c : Ch) (pk : List Sq) (pf : Sq → V) (pl : Sq → Option Nat) : Prop := pk.Nodup ∧ (∀ s ∈ pk, s ∈ c.corners) ∧ ∀ s, (s ∈ pk → ∃ n, pl s = some n ∧ pf s = .int (n : Nat)) ∧ (s ∉ pk → pl s = none)
def DnOk (c : Ch) (dk : List Sq) (dn : Sq → Bool) : Prop := dk.Nodup ∧ (∀ s ∈ dk, s ∈ c.corners) ∧ ∀ s, s ∈ dk ↔ dn s = true
theorem sub_len {c : Ch} (g : c.Good) {l : List Sq} (h : l.Nodup) (s : ∀ x ∈ l, x ∈ c.corners) : l.length ≤ 36 := Nat.le_trans (h.length_le_of_subset s) (corners_len g)
theorem grown_mem {c : Ch} {k : Sq} (hk : k ∈ c.corners) {x : Sq} (hx : x ∈ (Co.grown c k).seen) : x ∈ c.corners := ((grown_spec hk).2.2.1 x).mp hx |>.mem hk
def DnStep (dn : Sq → Bool) (pre : List Sq) : Sq → Bool := fun x => dn x || decide (x ∈ pre)
def PlStep (pl : Sq → Option Nat) (n : Nat) (out : Bool) (pre : List Sq) : Sq → Option Nat := fun x => if out = false ∧ x ∈ pre then some n else pl x
theorem DnOk.step {c : Ch} {dk pre : List Sq} {dn : Sq → Bool} (h : DnOk c dk (DnStep dn pre)) {s : Sq} (hs : s ∈ c.corners) : DnOk c (insK dk s) (DnStep dn (pre ++ [s])) := by
  refine ⟨nodup_insK h.1, fun x hx => ?_, fun x => ?_⟩
  · rcases mem_insK.mp hx with m | e
    · exact h.2.1 x m
    · exact e ▸ hs
  · rw [mem_insK, h.2.2 x]
    unfold DnStep
    simp only [Bool.or_eq_true, decide_eq_true_eq, List.mem_append, List.mem_singleton]
    exact ⟨fun z => z.elim (fun z => z.elim .inl fun m => .inr (.inl m)) fun m => .inr (.inr m), fun z => z.elim (fun a => .inl (.inl a)) fun m => m.elim (fun a => .inl (.inr a)) .inr⟩
theorem plStep_ne {pl : Sq → Option Nat} {n : Nat} {out : Bool} {pre : List Sq} {s x : Sq} (e : x ≠ s) : PlStep pl n out (pre ++ [s]) x = PlStep pl n out pre x := by
  unfold PlStep
  have : (x ∈ pre ++ [s]) ↔ x ∈ pre := by simp [e]
  simp only [this]
theorem PlOk.step {c : Ch} {pk pre : List Sq} {pf : Sq → V} {pl : Sq → Option Nat} {n : Nat} (h : PlOk c pk pf (PlStep pl n false pre)) {s : Sq} (hs : s ∈ c.corners) : PlOk c (insK pk s) (updF pf s (.int (n : Nat))) (PlStep pl n false (pre ++ [s])) := by
  refine ⟨nodup_insK h.1, fun x hx => ?_, fun x => ⟨fun hx => ?_, fun hx => ?_⟩⟩
  · rcases mem_insK.mp hx with m | e
    · exact h.2.1 x m
    · exact e ▸ hs
  · by_cases e : x = s
    · subst e
      exact ⟨n, by unfold PlStep; rw [if_pos ⟨rfl, by simp⟩], by unfold updF; rw [if_pos rfl]⟩
    · rcases mem_insK.mp hx with m | m
      · obtain ⟨k, h1, h2⟩ := (h.2.2 x).1 m
        exact ⟨k, (plStep_ne e).trans h1, by unfold updF; rw [if_neg e]; exact h2⟩
      · exact absurd m e
  · have hn : x ∉ pk := fun m => hx (mem_insK.mpr (.inl m))
    have e : x ≠ s := fun m => hx (mem_insK.mpr (.inr m))
    exact (plStep_ne e).trans ((h.2.2 x).2 hn)
theorem plStep_out (pl : Sq → Option Nat) (n : Nat) (pre : List Sq) : PlStep pl n true pre = pl := by
  funext x
  unfold PlStep
  rw [if_neg (fun z => nomatch z.1)]
theorem found_len (c : Ch) : ∀ (l : List Sq) (st : ES), (l.foldl (eItem c) st).found.length ≤ st.found.length + l.length
  | [], st => Nat.le_refl _
  | x :: r, st => by
    rw [List.foldl_cons, List.length_cons]
    have h1 := found_len c r (eItem c st x)
    have h2 : (eItem c st x).found.length ≤ st.found.length + 1 := by
      unfold eItem
      split
      · exact Nat.le_succ _
      · split
        · exact Nat.le_succ _
        · simp
    omega
theorem eItem_grow {c : Ch} {st : ES} {k : Sq} (h : st.done k = false) (l : List Sq) (hl : ∀ x, x ∈ l ↔ x ∈ (Co.grown c k).seen) :
    (eItem c st k).done = DnStep st.done l ∧ (eItem c st k).place = PlStep st.place st.found.length (Co.grown c k).out l ∧ (eItem c st k).found = if (Co.grown c k).out = true then st.found else st.found ++ [(Co.grown c k).seen] := by
  unfold eItem
  rw [if_neg (by rw [h]; exact Bool.false_ne_true)]
  by_cases ho : (Co.grown c k).out = true
  · rw [if_pos ho, if_pos ho]
    refine ⟨?_, ?_, rfl⟩
    · funext x; unfold DnStep; simp only [hl]
    · rw [ho, plStep_out]
  · rw [if_neg ho, if_neg ho]
    refine ⟨?_, ?_, rfl⟩
    · funext x; unfold DnStep; simp only [hl]
    · funext x
      unfold PlStep
      simp only [hl]
      have : (Co.grown c k).out = false := by simpa using ho
      simp only [this, true_and]
section
variable {P : Program} {w : World} {K : PySem.W.Frag} {mg : Str → Option Value} {base : Heap}
theorem sc_eyes_of : FnScope ["chart", "known", "found", "place", "done", "corner", "some", "outside", "one"] ["chart"] (defScope (top 31)) := ⟨rfl, rfl, rfl, by decide +kernel, rfl, by decide +kernel, by decide +kernel⟩
def spEyesOf : SpV := fun vs H Q => ∃ v c, vs = [v] ∧ IsCh H v c ∧ c.Good ∧ ∀ H' t F Pl ys pk pf, Same H H' → H F = none → H Pl = none → H' t = some (.tup [.ref F, .ref Pl]) → H' F = some (.lst ys) → H' Pl = some (.dT (kv sk pk pf)) →
  Paired (IsEye [F, Pl] H') ys (Co.eyesOf c).found → PlOk c pk pf (Co.eyesOf c).place → Q (.ref t) H'
theorem g_eyes_of (T : Txt K mg) : G P w K mg base 5 "eyes_of" spEyesOf := by
  refine g_of 4 T.d_eyes_of sc_eyes_of (by rintro vs H Q ⟨v, c, rfl, _⟩; rfl) (fun _ _ _ _ _ _ us hl => match us, hl with | [_], _ => rfl) ?_
  rintro f cdv A outer s0 H vs Q E hr ⟨v, c, rfl, hc, g, q⟩
  have nd := sc_eyes_of.nd
  have hu := ru1 hr
  have hu4 := ru4 hr
  have hcl := corners_len g
  refine ⟨_, (pss_cons (ps_set (i := 1) nd rfl (by first | exact Or.inl rfl | exact Or.inr rfl) (pe_callTy (cr_dictT hu4 rfl) (by rfl) T.n_dict (by decide +kernel) (pa_cons (pe_lc (own := [("corner", 5)]) rfl nd (piL K (pe_callG (g_corners T) hr rfl (pa_cons (pv 0) pa_nil))) (blkOk_by (by kernel_rfl)) (fun _ _ _ _ _ => (pg_name (i := 5) nd rfl (by first | exact Or.inl rfl | exact Or.inr rfl))) (fun _ _ _ _ _ => pts_nil) (fun _ _ _ _ _ => (pe_tup (pa_cons (pv 5) (pa_cons pe_bl pa_nil))))) pa_nil)))
      (pss_cons (ps_set (i := 2) nd rfl (by first | exact Or.inl rfl | exact Or.inr rfl) (pe_lst pa_nil))
      (pss_cons (ps_set (i := 3) nd rfl (by first | exact Or.inl rfl | exact Or.inr rfl) pe_dnewT)
      (pss_cons (ps_set (i := 4) nd rfl (by first | exact Or.inl rfl | exact Or.inr rfl) pe_dnewT)
      (pss_cons (ps_lock (ps_for PassesOwn.never rfl (pi_keys (pv 1)) (pg_name (i := 5) nd rfl (by first | exact Or.inl rfl | exact Or.inr rfl)) (pss_one (ps_if (pt_cmp (pc_dnotin hu (pv 5) (pv 4)) (by with_unfolding_all rfl)) (pss_cons (ps_asg (pe_callG (g_grown T) hr rfl (pa_cons (pv 0) (pa_cons (pv 5) (pa_cons (pv 1) pa_nil)))) (pgT K (n := 2) rfl (pgs_cons (pg_name (i := 6) nd rfl (by first | exact Or.inl rfl | exact Or.inr rfl)) (pgs_cons (pg_name (i := 7) nd rfl (by first | exact Or.inl rfl | exact Or.inr rfl)) pgs_nil))))
      (pss_cons (ps_for PassesOwn.never rfl (piL K (pv 6)) (pg_name (i := 8) nd rfl (by first | exact Or.inl rfl | exact Or.inr rfl)) (pss_cons (ps_dput hu (pv 4) (pv 8) pe_bl rfl)
      (pss_one (ps_if (pt_not (pt_val (pv 7))) (pss_one (ps_dput hu (pv 3) (pv 8) (pe_callB (crLen K) (by rfl) T.n_len (by decide +kernel) (pa_cons (pv 2) pa_nil)) rfl)) pss_nil))))
      (pss_one (ps_if (pt_not (pt_val (pv 7))) (pss_one (ps_expr (pe_bm PySem.F.plainAttrs_list PySem.F.slot_list_append PySem.F.type_list_append mt_append (pv 2) (pa_cons (pv 6) pa_nil)))) pss_nil)))) pss_nil))))
      (pss_one (ps_ret (pe_tup (pa_cons (pv 2) (pa_cons (pv 3) pa_nil)))))))))), ?_⟩
  refine ⟨_, rfl, v, c, rfl, hc, g, fun H1 p xs s1 p0 hp hxs => ⟨p, rfl, ⟨_, SqL.of hp⟩, fun D hD => ?_⟩⟩
  refine lc_list (K := K) (a := p) (xs := xs) (fun i H' => Same H1 H' ∧ ∃ ys, H' D = some (.lst ys) ∧ Paired (IsEnt H') ys (kv sk (c.corners.take i) fun _ => tt)) ⟨same_new hD _, [], upd_same, .nil⟩ (fun i H' _ h => SqL.of (h.1 _ _ hp)) ?_ ?_
  · rintro i x H2 hx ⟨s2, ys, hD2, hpy⟩
    obtain ⟨s, hs, ⟨b, rfl, hb⟩⟩ := paired_get hxs hx
    refine ⟨rfl, tyes ⟨_, rfl, (by show 2 ≤ sizeLine; decide), fun t nt => ⟨ys, at_new hD2 nt, small99 (by rw [pLen hpy, kv_len, List.length_take]; omega), ?_⟩⟩⟩
    have u1 := same_new nt (.tup [.ref b, tt])
    have u2 : TK H2 (upd (upd H2 t (.tup [.ref b, tt])) D (.lst (ys ++ [.ref t]))) := (TK.of_same u1).trans (TK.put (at_new hD2 nt) fun xs z => by cases z)
    refine ⟨sapp (s2.trans u1) hD _, _, upd_same, ?_⟩
    rw [take_snoc hs]
    have : kv sk (c.corners.take i ++ [s]) (fun _ => tt) = kv sk (c.corners.take i) (fun _ => tt) ++ [(sk s, tt)] := by unfold kv; rw [List.map_append]; rfl
    rw [this]
    refine .snoc (Paired.mapP hpy fun _ _ ⟨t', b', e, h1, h2⟩ => ⟨t', b', e, u2 _ _ h1, u2 _ _ h2⟩) ⟨t, b, rfl, ?_, u2 _ _ (s2 _ _ hb)⟩
    rw [upd_ne (fun z => by rw [z] at nt; rw [nt] at hD2; cases hD2)]
    exact upd_same
  · rintro H2 ⟨s2, ys, hD2, hpy⟩
    rw [List.take_of_length_le (by rw [pLen hxs]; exact Nat.le_refl _)] at hpy
    refine ⟨D, ys, _, rfl, SqL.of hD2, hpy, ?_, fun kd hkd => ?_⟩
    · have : (kv sk c.corners fun _ => tt).map (·.1) = c.corners.map sk := by unfold kv; rw [List.map_map]; rfl
      rw [this]
      exact nodup_map_inj (Ch.corners_nodup c) fun a _ b _ e => sk_inj a b e
    have sK := same_new hkd (.dT (kv sk c.corners fun _ => tt))
    refine ⟨(by show 0 ≤ sizeLine; decide), fun F hF => ?_⟩
    intro Pl hPl
    intro Dn hDn
    obtain ⟨nFk, hF2⟩ := upn hF
    obtain ⟨nPF, hP2⟩ := upn hPl
    obtain ⟨nPk, hP3⟩ := upn hP2
    obtain ⟨nDP, hD3⟩ := upn hDn
    obtain ⟨nDF, hD4⟩ := upn hD3
    obtain ⟨nDk, hD5⟩ := upn hD4
    have s12 := s1.trans s2
    have f1 : H kd = none := s12.free hkd
    have f2 : H F = none := s12.free hF2
    have f3 : H Pl = none := s12.free hP3
    have f4 : H Dn = none := s12.free hD5
    generalize hH3 : upd (upd (upd (upd H2 kd (.dT (kv sk c.corners fun _ => tt))) F (.lst [])) Pl (.dT [])) Dn (.dT []) = H3
    have e1 : H3 kd = some (.dT (kv sk c.corners fun _ => tt)) := by rw [← hH3, upd_ne (Ne.symm nDk), upd_ne (Ne.symm nPk), upd_ne (Ne.symm nFk), upd_same]
    have e2 : H3 F = some (.lst []) := by rw [← hH3, upd_ne (Ne.symm nDF), upd_ne (Ne.symm nPF), upd_same]
    have e3 : H3 Pl = some (.dT []) := by rw [← hH3, upd_ne (Ne.symm nDP), upd_same]
    have e4 : H3 Dn = some (.dT []) := by rw [← hH3, upd_same]
    have s3 : Same H H3 := hH3 ▸ sapp (sapp (sapp (sapp s12 f1 _) f2 _) f3 _) f4 _
    clear hH3 hDn hPl hF hD3 hP2 hD4
    refine ⟨kd, _, e1, True.intro, fun od => ?_⟩
    refine ⟨_, rfl, kd, od, rfl, .inr ⟨_, upd_same, ?_⟩⟩
    refine for_it walk_keysT (fun i σ H' => ∃ o5 o6 o7 o8 ys pk pf dk df, σ = [some v, some (.ref kd), some (.ref F), some (.ref Pl), some (.ref Dn), o5, o6, o7, o8] ∧ Same H H' ∧ H' kd = some (.frz od (.dT (kv sk c.corners fun _ => tt))) ∧
        H' F = some (.lst ys) ∧ H' Pl = some (.dT (kv sk pk pf)) ∧ H' Dn = some (.dT (kv sk dk df)) ∧ Paired (IsEye [F, Pl, Dn, kd] H') ys ((c.corners.take i).foldl (eItem c) ⟨[], fun _ => none, fun _ => false⟩).found ∧
        PlOk c pk pf ((c.corners.take i).foldl (eItem c) ⟨[], fun _ => none, fun _ => false⟩).place ∧ DnOk c dk ((c.corners.take i).foldl (eItem c) ⟨[], fun _ => none, fun _ => false⟩).done)
      ⟨none, none, none, none, [], [], fun _ => tt, [], fun _ => tt, rfl, sapp s3 f1 _, upd_same, by rw [upd_ne nFk]; exact e2, by rw [upd_ne nPk]; exact e3, by rw [upd_ne nDk]; exact e4, .nil,
        ⟨List.nodup_nil, fun _ h => absurd h (by simp), fun s => ⟨fun h => absurd h (by simp), fun _ => rfl⟩⟩, ⟨List.nodup_nil, fun _ h => absurd h (by simp), fun s => ⟨fun h => absurd h (by simp), fun h => absurd h Bool.false_ne_true⟩⟩⟩
      (fun i σ H' _ h => by obtain ⟨_, _, _, _, _, _, _, _, _, _, _, h, _⟩ := h; exact h) ?_ ?_
    · rintro i x σ H4' H4 hi ⟨o5, o6, o7, o8, ys, pk, pf, dk, df, rfl, s4, k4, F4, P4, D4, heye, hpl, hdn⟩ ⟨rfl, kk, kv', qa, hkv, rfl, hqa⟩
      obtain ⟨s, hs, rfl⟩ : ∃ s, c.corners[i]? = some s ∧ kk = sk s := by
        unfold kv at hkv
        rw [List.getElem?_map] at hkv
        obtain ⟨s, h1, h2⟩ := Option.map_eq_some_iff.mp hkv
        exact ⟨s, h1, (congrArg Prod.fst h2).symm⟩
      have hmem : s ∈ c.corners := List.mem_of_getElem? hs
      have hsq : IsSq H4 (.ref qa) s := ⟨qa, rfl, hqa⟩
      rw [foldl_take _ _ hs]
      generalize hst : (c.corners.take i).foldl (eItem c) ⟨[], fun _ => none, fun _ => false⟩ = st at *
      by_cases hdone : s ∈ dk
      · refine ⟨_, rfl, _, rfl, _, _, rfl, get_in (.inl D4) hsq hdone, _, rfl, iteF ?_⟩
        have : eItem c st s = st := by unfold eItem; rw [if_pos ((hdn.2.2 s).mp hdone)]
        rw [this]
        exact ⟨_, _, _, _, ys, pk, pf, dk, df, rfl, s4, k4, F4, P4, D4, heye, hpl, hdn⟩
      · refine ⟨_, rfl, _, rfl, _, _, rfl, get_out (.inl D4) hsq hdone, _, rfl, iteT ?_⟩
        have hdf : st.done s = false := by
          cases e : st.done s with
          | false => rfl
          | true => exact absurd ((hdn.2.2 s).mpr e) hdone
        refine ⟨_, rfl, _, rfl, _, rfl, v, .ref qa, kd, c, s, rfl, hc.tk (.of_same s4), hsq, g, hmem, .inr ⟨od, k4⟩, fun H5 t p ps l s5 p0 ht hp5 hps hperm => ?_⟩
        have np : p ∉ [F, Pl, Dn, kd] := by
          intro hm
          simp only [List.mem_cons, List.not_mem_nil, or_false] at hm
          rcases hm with e | e | e | e
          · rw [e, F4] at p0; cases p0
          · rw [e, P4] at p0; cases p0
          · rw [e, D4] at p0; cases p0
          · rw [e, k4] at p0; cases p0
        simp only [List.mem_cons, List.not_mem_nil, or_false, not_or] at np
        obtain ⟨np1, np2, np3, np4⟩ := np
        obtain ⟨g1, g2, g3⟩ := eItem_grow hdf l fun x => hperm.mem_iff
        have hyl : ys.length = st.found.length := pLen heye
        have hl36 : l.length ≤ 36 := by rw [hperm.length_eq]; exact sub_len g (grown_spec hmem).2.1 fun x hx => grown_mem hmem hx
        refine ⟨t, _, rfl, SqT.of ht, rfl, _, _, rfl, _, _, rfl, rfl, ?_⟩
        refine ⟨_, rfl, p, rfl, ⟨_, SqL.of hp5⟩, ?_⟩
        refine for_list (K := K) (a := p) (xs := ps) (fun j σ H' => ∃ o8 pk pf dk df, σ = [some v, some (.ref kd), some (.ref F), some (.ref Pl), some (.ref Dn), some (.ref qa), some (.ref p), some (.bl (Co.grown c s).out), o8] ∧ Same H H' ∧ KeepB [F, Pl, Dn, kd] H5 H' ∧ TK H5 H' ∧
            H' kd = some (.frz od (.dT (kv sk c.corners fun _ => tt))) ∧ H' F = some (.lst ys) ∧ H' Pl = some (.dT (kv sk pk pf)) ∧ H' Dn = some (.dT (kv sk dk df)) ∧ H' p = some (.lst ps) ∧
            PlOk c pk pf (PlStep st.place st.found.length (Co.grown c s).out (l.take j)) ∧ DnOk c dk (DnStep st.done (l.take j)))
          ⟨o8, pk, pf, dk, df, rfl, s4.trans s5, .refl _ _, .refl _, s5 _ _ k4, s5 _ _ F4, s5 _ _ P4, s5 _ _ D4, hp5, ?_, ?_⟩ (fun j σ H' _ h => by obtain ⟨_, _, _, _, _, _, _, _, _, _, _, _, _, h, _⟩ := h; exact SqL.of h) ?_ ?_
        · have : PlStep st.place st.found.length (Co.grown c s).out (l.take 0) = st.place := by funext x; unfold PlStep; simp
          rw [this]; exact hpl
        · have : DnStep st.done (l.take 0) = st.done := by funext x; unfold DnStep; simp
          rw [this]; exact hdn
        · rintro j y σ H6 hy ⟨o8, pk, pf, dk, df, rfl, s6, kb, t6, k6, F6, P6, D6, p6, hpl6, hdn6⟩
          obtain ⟨one, hone, hy'⟩ := paired_get hps hy
          have hy6 := hy'.tk t6
          have hoc : one ∈ c.corners := grown_mem hmem (hperm.mem_iff.mp (List.mem_of_getElem? hone))
          have dl := sub_len g hdn6.1 hdn6.2.1
          have pl' := sub_len g hpl6.1 hpl6.2.1
          rw [take_snoc hone]
          refine ⟨_, rfl, _, rfl, _, _, rfl, put_any D6 hy6 (by omega), ?_⟩
          have kA : TK H6 (upd H6 Dn (.dT (kv sk (insK dk one) (updF df one (.bl true))))) := TK.put D6 fun xs z => by cases z
          have s7 := sapp s6 f4 (.dT (kv sk (insK dk one) (updF df one (.bl true))))
          have kb7 : KeepB [F, Pl, Dn, kd] H5 (upd H6 Dn (.dT (kv sk (insK dk one) (updF df one (.bl true))))) := kb.trans (.put (by simp) _)
          have P7 : upd H6 Dn (.dT (kv sk (insK dk one) (updF df one (.bl true)))) Pl = some (.dT (kv sk pk pf)) := by rw [upd_ne (Ne.symm nDP)]; exact P6
          have F7 : upd H6 Dn (.dT (kv sk (insK dk one) (updF df one (.bl true)))) F = some (.lst ys) := by rw [upd_ne (Ne.symm nDF)]; exact F6
          have k7 : upd H6 Dn (.dT (kv sk (insK dk one) (updF df one (.bl true)))) kd = some (.frz od (.dT (kv sk c.corners fun _ => tt))) := by rw [upd_ne (Ne.symm nDk)]; exact k6
          have p7 : upd H6 Dn (.dT (kv sk (insK dk one) (updF df one (.bl true)))) p = some (.lst ps) := by rw [upd_ne np3]; exact p6
          refine ⟨_, rfl, _, rfl, ?_⟩
          cases hout : (Co.grown c s).out with
          | true =>
            refine iteF ?_
            exact ⟨_, pk, pf, _, _, rfl, s7, kb7, t6.trans kA, k7, F7, P7, upd_same, p7, by rw [plStep_out]; rw [hout, plStep_out] at hpl6; exact hpl6, hdn6.step hoc⟩
          | false =>
            refine iteT ?_
            refine ⟨_, rfl, F, ys, rfl, .inl (SqL.of F7), _, rfl, _, rfl, _, _, rfl, put_any P7 (hy6.tk kA) (by omega), ?_⟩
            have kB := kA.trans (TK.put (o := .dT (kv sk (insK pk one) (updF pf one (.int (ys.length : Nat))))) P7 fun xs z => by cases z)
            refine ⟨_, _, _, _, updF df one (.bl true), rfl, sapp s7 f3 _, kb7.trans (.put (by simp) _), t6.trans kB, ?_, ?_, upd_same, ?_, ?_, ?_, hdn6.step hoc⟩
            · rw [upd_ne (Ne.symm nPk)]; exact k7
            · rw [upd_ne (Ne.symm nPF)]; exact F7
            · rw [upd_ne nDP]; exact upd_same
            · rw [upd_ne np2]; exact p7
            · rw [hout] at hpl6
              rw [hyl]
              exact hpl6.step hoc
        · rintro σ H6 ⟨o8, pk, pf, dk, df, rfl, s6, kb, t6, k6, F6, P6, D6, p6, hpl6, hdn6⟩
          rw [List.take_of_length_le (by rw [pLen hps]; exact Nat.le_refl _)] at hpl6 hdn6
          rw [← g2] at hpl6
          rw [← g1] at hdn6
          have heye6 := eye_keep (eye_keep heye (.of_same s5) (.of_same s5)) kb t6
          refine ⟨_, rfl, _, rfl, ?_⟩
          cases hout : (Co.grown c s).out with
          | true =>
            refine iteF ?_
            refine ⟨_, _, _, _, ys, pk, pf, dk, df, rfl, s6, k6, F6, P6, D6, ?_, hpl6, hdn6⟩
            rw [g3, if_pos hout]
            exact heye6
          | false =>
            refine iteT ?_
            have hf36 : ys.length ≤ 10000 := by
              have := found_len c (c.corners.take i) ⟨[], fun _ => none, fun _ => false⟩
              rw [hst, List.length_take] at this
              simp only [List.length_nil] at this
              omega
            refine ⟨_, rfl, .inl ⟨rfl, _, SqL.of F6⟩, _, rfl, F, ys, _, rfl, rfl, F6, small99 hf36, ?_⟩
            have kC : TK H6 (upd H6 F (.lst (ys ++ [.ref p]))) := TK.put F6 fun xs z => by cases z
            have kbC : KeepB [F, Pl, Dn, kd] H6 (upd H6 F (.lst (ys ++ [.ref p]))) := .put (by simp) _
            refine ⟨_, _, _, _, _, pk, pf, dk, df, rfl, sapp s6 f2 _, ?_, upd_same, ?_, ?_, ?_, hpl6, hdn6⟩
            · rw [upd_ne (Ne.symm nFk)]; exact k6
            · rw [upd_ne nPF]; exact P6
            · rw [upd_ne nDF]; exact D6
            · rw [g3, if_neg (by rw [hout]; exact Bool.false_ne_true)]
              refine .snoc (eye_keep heye6 kbC kC) ⟨p, ps, l, rfl, by simp [np1, np2, np3, np4], ?_, sq_tk hps (t6.trans kC), hperm⟩
              rw [upd_ne np1]; exact p6
    · rintro σ H4 ⟨o5, o6, o7, o8, ys, pk, pf, dk, df, rfl, s4, k4, F4, P4, D4, heye, hpl, hdn⟩
      rw [List.take_of_length_le (by rw [kv_len]; exact Nat.le_refl _)] at heye hpl hdn
      refine ⟨k4, ?_⟩
      have k5 : KeepB [F, Pl, Dn, kd] H4 (upd H4 kd (.dT (kv sk c.corners fun _ => tt))) := .put (by simp) _
      have t5 : TK H4 (upd H4 kd (.dT (kv sk c.corners fun _ => tt))) := TK.put k4 fun xs z => by cases z
      refine ⟨_, rfl, _, rfl, (by show 2 ≤ sizeLine; decide), fun t nt => ?_⟩
      have s6 := same_new nt (.tup [.ref F, .ref Pl])
      refine q _ t F Pl ys pk pf ((sapp s4 f1 _).trans s6) f2 f3 upd_same (s6 _ _ (by rw [upd_ne nFk]; exact F4)) (s6 _ _ (by rw [upd_ne nPk]; exact P4)) (Paired.mapP (eye_keep (eye_keep heye k5 t5) (.of_same s6) (.of_same s6)) fun _ _ ⟨p, xs, l, e, n, h⟩ => ⟨p, xs, l, e, fun m => n (by simp only [List.mem_cons, List.not_mem_nil, or_false] at m ⊢; rcases m with m | m; exact .inl m; exact .inr (.inl m)), h⟩) hpl
end
end Wk

set_option maxRecDepth 100000
set_option maxHeartbeats 4000000
namespace Wk
open PySem PySem.Spec PyProof.Rows L2 Co
section
variable {P : Program} {w : World} {K : PySem.W.Frag} {mg : Str → Option Value} {base : Heap}
theorem foundLen {c : Ch} (g : c.Good) : (Co.eyesOf c).found.length ≤ 36 := by
  have := found_len c c.corners ⟨[], fun _ => none, fun _ => false⟩
  have h2 := corners_len g
  unfold Co.eyesOf
  simp only [List.length_nil] at this
  omega
theorem eyeLen {c : Ch} (g : c.Good) {e : List Sq} (h : e ∈ (Co.eyesOf c).found) : e.length ≤ 36 :=
  sub_len g ((eyesOf_ok c).nodup e h) fun x hx => ((eyesOf_ok c).mem e h x hx).1.1
def IsCnt (H : Hp) (v : V) (n : Int) : Prop := ∃ a u, v = .ref a ∧ H a = some (.tup [u, .int n])
theorem IsCnt.tk {H H' : Hp} {v : V} {n : Int} (h : IsCnt H v n) (k : TK H H') : IsCnt H' v n := let ⟨a, u, e, h⟩ := h; ⟨a, u, e, k _ _ h⟩
theorem eye_two {H : Hp} {F Pl : Addr} {x : V} {e : List Sq} {H' : Hp} (s : Same H H') (h : IsEye [F, Pl] H x e) : ∃ p xs l, x = .ref p ∧ H' p = some (.lst xs) ∧ Paired (IsSq H') xs l ∧ l.Perm e :=
  let ⟨p, xs, l, e1, _, h1, h2, h3⟩ := h; ⟨p, xs, l, e1, s _ _ h1, sq_tk h2 (.of_same s), h3⟩
theorem sc_eyes : FnScope ["chart", "some"] ["chart"] (defScope (top 33)) := ⟨rfl, rfl, rfl, by decide +kernel, rfl, by decide +kernel, by decide +kernel⟩
def spEyes : SpV := fun vs H Q => ∃ v c, vs = [v] ∧ IsCh H v c ∧ c.Good ∧ RetL IsCnt (countsM c) H Q
theorem g_eyes (T : Txt K mg) : G P w K mg base 6 "eyes" spEyes := by
  refine g_of 5 T.d_eyes sc_eyes (by rintro vs H Q ⟨v, c, rfl, _⟩; rfl) (fun _ _ _ _ _ _ us hl => match us, hl with | [_], _ => rfl) ?_
  rintro f cdv A outer s0 H vs Q E hr ⟨v, c, rfl, hc, g, q⟩
  have nd := sc_eyes.nd
  refine ⟨_, (pss_cons (ps_expr (pe_callG (g_need_chart T) hr rfl (pa_cons (pv 0) pa_nil)))
      (pss_one (ps_ret (pe_lc (own := [("some", 1)]) rfl nd (piL K (pe_ix (ixT K) (pe_callG (g_eyes_of T) hr rfl (pa_cons (pv 0) pa_nil)) pe_int (fun _ _ => rfl))) (blkOk_by (by kernel_rfl)) (fun _ _ _ _ _ => (pg_name (i := 1) nd rfl (by first | exact Or.inl rfl | exact Or.inr rfl))) (fun _ _ _ _ _ => pts_nil) (fun _ _ _ _ _ => (pe_tup (pa_cons (pv 1) (pa_cons (pe_callG (g_count_of T) hr rfl (pa_cons (pv 0) (pa_cons (pv 1) pa_nil))) pa_nil)))))))), ?_⟩
  refine ⟨_, rfl, v, c, rfl, hc, g, fun H0 s0 => ?_⟩
  refine ⟨_, rfl, v, c, rfl, hc.tk (.of_same s0), g, fun H1 t F Pl ys pk pf s1 nF nPl ht hF hPl heye hpl => ?_⟩
  refine ⟨t, _, _, _, rfl, rfl, SqT.of ht, rfl, F, rfl, ⟨_, SqL.of hF⟩, fun D hD => ?_⟩
  have s01 := s0.trans s1
  refine lc_list (K := K) (a := F) (xs := ys) (fun i H' => Same H1 H' ∧ ∃ zs, H' D = some (.lst zs) ∧ Paired (IsCnt H') zs (((Co.eyesOf c).found.take i).map c.countOf)) ⟨same_new hD _, [], upd_same, .nil⟩ (fun i H' _ h => SqL.of (h.1 _ _ hF)) ?_ ?_
  · rintro i x H2 hx ⟨s2, zs, hD2, hz⟩
    obtain ⟨e, he, hx'⟩ := paired_get heye hx
    obtain ⟨p, xs, l, rfl, hp, hxs, hperm⟩ := eye_two s2 hx'
    have h36 := eyeLen g (List.mem_of_getElem? he)
    have hf := foundLen g
    refine ⟨rfl, tyes ⟨_, rfl, _, rfl, _, rfl, v, p, xs, c, l, rfl, hc.tk (.of_same (s01.trans s2)), hp, hxs, by rw [hperm.length_eq]; omega, g, fun H3 s3 => ⟨(by show 2 ≤ sizeLine; decide), fun t2 nt2 => ?_⟩⟩⟩
    have u := same_new nt2 (.tup [.ref p, .int (c.countOf l)])
    have hD3 := s3 _ _ hD2
    refine ⟨zs, u _ _ hD3, small99 (by rw [pLen hz, List.length_map, List.length_take]; omega), ?_⟩
    have := snocL (R := IsCnt) (fun _ _ _ _ h k => h.tk k) (s2.trans (s3.trans u)) hD (.of_same (s3.trans u)) (u _ _ hD3) hz (a := c.countOf e) (y := .ref t2) ⟨t2, _, rfl, by rw [← countOf_perm c hperm]; exact upd_same⟩
    rw [take_snoc he, List.map_append]
    exact ⟨this.1, _, this.2⟩
  · rintro H2 ⟨s2, zs, hD2, hz⟩
    rw [List.take_of_length_le (by rw [pLen heye]; exact Nat.le_refl _)] at hz
    exact q _ _ _ (s01.trans s2) (s01.free hD) hD2 hz
theorem sc_whole_count : FnScope ["chart", "some", "count"] ["chart"] (defScope (top 34)) := ⟨rfl, rfl, rfl, by decide +kernel, rfl, by decide +kernel, by decide +kernel⟩
def spWhole : SpV := fun vs H Q => ∃ v c, vs = [v] ∧ IsCh H v c ∧ c.Good ∧ ∀ H', Same H H' → Q (.int (countsM c).sum) H'
theorem countsLen {c : Ch} (g : c.Good) : (countsM c).length ≤ 36 := by unfold countsM; rw [List.length_map]; exact foundLen g
theorem g_whole_count (T : Txt K mg) : G P w K mg base 7 "whole_count" spWhole := by
  refine g_of 6 T.d_whole_count sc_whole_count (by rintro vs H Q ⟨v, c, rfl, _⟩; rfl) (fun _ _ _ _ _ _ us hl => match us, hl with | [_], _ => rfl) ?_
  rintro f cdv A outer s0 H vs Q E hr ⟨v, c, rfl, hc, g, q⟩
  have nd := sc_whole_count.nd
  refine ⟨_, (pss_one (ps_ret (pe_callB (crSum K) (by rfl) T.n_sum (by decide +kernel) (pa_cons (pe_lc (own := [("some", 1), ("count", 2)]) rfl nd (piL K (pe_callG (g_eyes T) hr rfl (pa_cons (pv 0) pa_nil))) (blkOk_by (by kernel_rfl)) (fun _ _ _ _ _ => (pgT K (n := 2) rfl (pgs_cons (pg_name (i := 1) nd rfl (by first | exact Or.inl rfl | exact Or.inr rfl)) (pgs_cons (pg_name (i := 2) nd rfl (by first | exact Or.inl rfl | exact Or.inr rfl)) pgs_nil)))) (fun _ _ _ _ _ => pts_nil) (fun _ _ _ _ _ => (pv 2))) pa_nil)))), ?_⟩
  refine ⟨_, rfl, v, c, rfl, hc, g, fun H1 p xs s1 p0 hp hxs => ⟨p, rfl, ⟨_, SqL.of hp⟩, fun D hD => ?_⟩⟩
  have hcl := countsLen g
  refine lc_list (K := K) (a := p) (xs := xs) (fun i H' => Same H1 H' ∧ H' D = some (.lst (((countsM c).take i).map V.int))) ⟨same_new hD _, upd_same⟩ (fun i H' _ h => SqL.of (h.1 _ _ hp)) ?_ ?_
  · rintro i x H2 hx ⟨s2, hD2⟩
    obtain ⟨n, hn, a, u, rfl, ha⟩ := paired_get hxs hx
    refine ⟨a, _, rfl, SqT.of (s2 _ _ ha), rfl, _, _, rfl, _, _, rfl, rfl, rfl, tyes ⟨_, rfl, _, hD2, small99 (by rw [List.length_map, List.length_take]; omega), sapp s2 hD _, ?_⟩⟩
    rw [upd_same, take_snoc hn, List.map_append]; rfl
  · rintro H2 ⟨s2, hD2⟩
    rw [List.take_of_length_le (by rw [pLen hxs]; exact Nat.le_refl _)] at hD2
    exact ⟨D, _, rfl, SqL.of hD2, q _ (s1.trans s2)⟩
end
end Wk

set_option maxRecDepth 100000
set_option maxHeartbeats 4000000
namespace Wk
open PySem PySem.Spec PyProof.Rows L2 Co
/-- a call of a def that a slot holds -/
def tCGL (i : Nat) (mg : Str → Option Value) (x : Str) (S : SpV) (t : TA) : TE := fun σ H Q => (∃ f, mg x = some (.ref f) ∧ σ[i]? = some (some (.ref f))) ∧ t σ H fun vs H1 => S vs H1 Q
theorem pe_callGL {X : Cx} {j k i : Nat} {x y : Str} {S : SpV} {e : Expr} {es : List Expr} {t : TA} {p pos : Pos} (g : G X.prog X.w X.K X.mg X.base j y S) (hr : Room k X.A) (hN : X.N[i]? = some x) (hv : Vis X.env.scope x) (ha : PA X (e :: es) t) (hj : j ≤ k := by decide)
    (hdb : (x == ("__debug__" : Str)) = false := by decide) (hcd : (x == ("__classdict__" : Str)) = false := by decide) (he : starEach (e :: es) X.env = (false, eval e X.env) :: starEach es X.env := by rfl) (hpl : (backTo pos (starEach es X.env)).any (·.1) = false := by rfl) :
    PE X (.Call (.Name x p) (e :: es) [] pos) (tCGL i X.mg y S t) := by
  obtain ⟨f, fd, ps, F, hm, hk, hb⟩ := g.ex
  refine ⟨fun pins s σ H Q I h => ?_⟩
  obtain ⟨⟨f', hm', hs⟩, h⟩ := h
  rw [hm] at hm'
  cases hm'
  refine (pe_callL (i := i) (f := f) (E := E0) F (hr.mono hj) hN hv hk hb .nil pass0 ha hdb hcd he hpl).run pins s σ H Q I ⟨hs, ?_⟩
  show t σ H fun vs H1 => S (vs ++ []) H1 Q
  have e0 : (fun (vs : List V) (H1 : Hp) => S (vs ++ []) H1 Q) = fun vs H1 => S vs H1 Q := by
    funext vs H1
    rw [List.append_nil]
  rw [e0]
  exact h
/-! ### the flood's dict -/
def fe (p : Sq × Int) : List Key × V := (sk p.1, .int p.2)
theorem fe_none {st : List (Sq × Int)} {s : Sq} (h : s ∉ st.map (·.1)) : valV (st.map fe) (sk s) = none := by
  induction st with
  | nil => rfl
  | cons x r ih =>
    rw [List.map_cons, List.mem_cons, not_or] at h
    rw [List.map_cons, valV_neg (fun z => h.1 (sk_inj _ _ z).symm)]
    exact ih h.2
theorem fe_some {st : List (Sq × Int)} {s : Sq} {d : Int} (h : (s, d) ∈ st) (nd : (st.map (·.1)).Nodup) : valV (st.map fe) (sk s) = some (.int d) := by
  induction st with
  | nil => exact absurd h (by simp)
  | cons x r ih =>
    rw [List.map_cons, List.nodup_cons] at nd
    rcases List.mem_cons.mp h with e | m
    · subst e
      exact valV_pos (p := fe (s, d)) rfl
    · have hne : x.1 ≠ s := fun e => nd.1 (e ▸ List.mem_map.mpr ⟨_, m, rfl⟩)
      rw [List.map_cons, valV_neg (fun z => hne (sk_inj _ _ z))]
      exact ih m nd.2
theorem fe_put {st : List (Sq × Int)} {s : Sq} (h : s ∉ st.map (·.1)) (d : Int) : putK (st.map fe) (sk s) (.int d) = (st ++ [(s, d)]).map fe := by
  rw [putK_new _ (fe_none h), List.map_append]; rfl
section
variable {P : Program} {w : World} {K : PySem.W.Frag} {mg : Str → Option Value} {base : Heap}
theorem sc_flooded : FnScope ["chart", "first", "good", "far", "line", "at", "square"] ["chart", "first", "good"] (defScope (top 23)) := ⟨rfl, rfl, rfl, by decide +kernel, rfl, by decide +kernel, by decide +kernel⟩
def spFlooded (mg : Str → Option Value) : SpV := fun vs H Q => ∃ v u fa c s, vs = [v, u, .ref fa] ∧ mg "is_sea" = some (.ref fa) ∧ IsCh H v c ∧ IsSq H u s ∧ c.Good ∧ c.sea s = true ∧
  ∀ H' d, Same H H' → H d = none → H' d = some (.dT ((flood c s).map fe)) → Q (.ref d) H'
theorem g_flooded (T : Txt K mg) : G P w K mg base 3 "flooded" (spFlooded mg) := by
  refine g_of 2 T.d_flooded sc_flooded (by rintro vs H Q ⟨v, u, fa, c, s, rfl, _⟩; rfl) (fun _ _ _ _ _ _ us hl => match us, hl with | [_, _, _], _ => rfl) ?_
  rintro f cdv A outer s0 H vs Q E hr ⟨v, u, fa, c, s, rfl, hfa, hc, hs, g, hsea, q⟩
  have nd := sc_flooded.nd
  have hu := ru1 hr
  obtain ⟨a, b, rs, r0, rfl, ha, hb, hrs, hl, h0, hr0, hlw⟩ := hc.open_ g
  have hw9 := g.w9
  have hh9 : c.high ≤ 7 := g.h9
  have hle : c.high * c.wide ≤ 49 := Nat.mul_le_mul hh9 hw9
  refine ⟨_, (pss_cons (ps_set (i := 3) nd rfl (by first | exact Or.inl rfl | exact Or.inr rfl) (pe_dispT hu (pv 1) pe_int))
      (pss_cons (ps_set (i := 4) nd rfl (by first | exact Or.inl rfl | exact Or.inr rfl) (pe_lst (pa_cons (pv 1) pa_nil)))
      (pss_cons (ps_for PassesOwn.never rfl (pi_range1 rfl T.n_range (pa_cons (pe_op op_mul (pe_callB (crLen K) (by rfl) T.n_len (by decide +kernel) (pa_cons (pe_ix (ixT K) (pv 0) pe_int (fun _ _ => rfl)) pa_nil)) (pe_callB (crLen K) (by rfl) T.n_len (by decide +kernel) (pa_cons (pe_ix (ixT K) (pe_ix (ixT K) (pv 0) pe_int (fun _ _ => rfl)) pe_int (fun _ _ => rfl)) pa_nil))) pa_nil)) (pg_name (i := 5) nd rfl (by first | exact Or.inl rfl | exact Or.inr rfl)) (pss_one (ps_if (pt_cmpR op_lt (pv 5) (pe_callB (crLen K) (by rfl) T.n_len (by decide +kernel) (pa_cons (pv 4) pa_nil)) (nomark _)) (pss_one (ps_for PassesOwn.never rfl (piL K (pe_callG (g_beside T) hr rfl (pa_cons (pe_ix (ixL K) (pv 4) (pv 5) (fun _ _ => rfl)) pa_nil))) (pg_name (i := 6) nd rfl (by first | exact Or.inl rfl | exact Or.inr rfl)) (pss_one (ps_if (PW.pt (pw_and (pt_cmp (pc_dnotin hu (pv 6) (pv 3)) (by with_unfolding_all rfl)) (pw_and1 (pt_val (pe_callGL (i := 2) (g_is_sea T) hr rfl (by first | exact Or.inl rfl | exact Or.inr rfl) (pa_cons (pv 0) (pa_cons (pv 6) pa_nil))))))) (pss_cons (ps_dput hu (pv 3) (pv 6) (pe_op op_add (pe_dget hu (pv 3) (pe_ix (ixL K) (pv 4) (pv 5) (fun _ _ => rfl)) (fun _ _ => rfl)) pe_int) rfl)
      (pss_one (ps_expr (pe_bm PySem.F.plainAttrs_list PySem.F.slot_list_append PySem.F.type_list_append mt_append (pv 4) (pa_cons (pv 6) pa_nil))))) pss_nil)))) pss_nil)))
      (pss_one (ps_ret (pv 3)))))), ?_⟩
  obtain ⟨sb, rfl, hsb⟩ := id hs
  intro D hD
  refine ⟨_, rfl, upd_same, sb, sk s, rfl, at_new hsb hD, ?_⟩
  have t1 : Same H (upd (upd H D (.dT [])) D (.dT [(sk s, .int 0)])) := sapp (same_new hD _) hD _
  rw [upd_upd] at t1 ⊢
  refine ⟨_, rfl, (by show 1 ≤ sizeLine; decide), fun L hL => ?_⟩
  obtain ⟨nLD, hL2⟩ := upn hL
  have t2 := t1.trans (same_new hL (.lst [.ref sb]))
  have ha2 := t2 _ _ ha
  have hb2 := t2 _ _ hb
  have hr2 := t2 _ _ hr0
  refine ⟨_, rfl, a, _, _, _, rfl, rfl, SqT.of ha2, rfl, b, rs, rfl, .inr (SqT.of hb2), _, rfl, a, _, _, _, rfl, rfl, SqT.of ha2, rfl, b, _, _, _, rfl, rfl, SqT.of hb2, atI_nat h0, r0, _, rfl, .inr (SqT.of hr2), ?_⟩
  have hm : (rs.length : Int) * (((c.rows.headD []).map V.int).length : Int) = ((c.high * c.wide : Nat) : Int) := by rw [hlw, hl, Int.natCast_mul]
  refine ⟨_, _, rfl, rfl, .inl ⟨by omega, by omega⟩, _, rfl, by rw [hm]; omega, by rw [hm]; omega, ?_⟩
  rw [hm, Int.toNat_natCast]
  refine for_range (lo := 0) (n := c.high * c.wide) (fun i σ H' => ∃ o1 o2, σ = [some (.ref a), some (.ref sb), some (.ref fa), some (.ref D), some (.ref L), o1, o2] ∧ Same H H' ∧ H' D = some (.dT (((List.range i).foldl (floodStep c) [(s, 0)]).map fe)) ∧ ∃ ys, H' L = some (.lst ys) ∧ Paired (IsSq H') ys (((List.range i).foldl (floodStep c) [(s, 0)]).map (·.1)))
    ⟨none, none, rfl, t2, at_new upd_same hL, _, upd_same, .cons ⟨sb, rfl, t2 _ _ hsb⟩ .nil⟩ ?_ ?_
  · rintro i σ H1 hi ⟨o1, o2, rfl, s1, hD1, ys, hL1, hys⟩
    have inv := flood_steps hsea i
    have hlen := flood_len hsea i
    rw [List.range_succ, List.foldl_append, List.foldl_cons, List.foldl_nil]
    generalize hst : (List.range i).foldl (floodStep c) [(s, 0)] = st at *
    have hyl : ys.length = st.length := by rw [pLen hys, List.length_map]
    refine ⟨_, rfl, _, rfl, L, ys, rfl, .inl (SqL.of hL1), _, _, rfl, rfl, _, rfl, ?_⟩
    by_cases hlt : i < st.length
    · refine iteD (by omega) ?_
      have hx : st[i]? = some st[i] := List.getElem?_eq_getElem hlt
      generalize hxx : st[i] = x at hx
      obtain ⟨y, hy, hyx⟩ := paired_get2 hys (show (st.map (·.1))[i]? = some x.1 by rw [List.getElem?_map, hx]; rfl)
      have hat : atI ys (0 + (i : Int)) = some y := by rw [Int.zero_add]; exact atI_nat hy
      refine ⟨_, rfl, _, rfl, L, ys, _, _, rfl, rfl, SqL.of hL1, hat, y, x.1, rfl, hyx, fun H2 p xs s2 p0 hp hxs => ⟨p, rfl, ⟨_, SqL.of hp⟩, ?_⟩⟩
      have hpD : p ≠ D := fun z => by rw [z, hD1] at p0; cases p0
      have hpL : p ≠ L := fun z => by rw [z, hL1] at p0; cases p0
      have ef : floodStep c st i = (beside x.1).foldl (floodItem c x.2) st := by unfold floodStep; rw [hx]
      rw [ef]
      refine for_list (K := K) (a := p) (xs := xs) (fun j σ H' => ∃ o2, σ = [some (.ref a), some (.ref sb), some (.ref fa), some (.ref D), some (.ref L), some (.int (0 + (i : Int))), o2] ∧ Same H H' ∧ H' p = some (.lst xs) ∧ Paired (IsSq H') xs (beside x.1) ∧
          H' D = some (.dT ((((beside x.1).take j).foldl (floodItem c x.2) st).map fe)) ∧ ∃ ys, H' L = some (.lst ys) ∧ Paired (IsSq H') ys ((((beside x.1).take j).foldl (floodItem c x.2) st).map (·.1)))
        ⟨_, rfl, s1.trans s2, hp, hxs, s2 _ _ hD1, ys, s2 _ _ hL1, sq_tk hys (.of_same s2)⟩ (fun j σ H' _ ⟨_, _, _, h, _⟩ => SqL.of h) ?_ ?_
      · rintro j y' σ H3 hy' ⟨o2, rfl, s3, hp3, hxs3, hD3, zs, hL3, hzs⟩
        obtain ⟨qq, hqq, hq'⟩ := paired_get hxs3 hy'
        obtain ⟨inj, injx⟩ := FInv.items (qs := (beside x.1).take j) inv hx fun z hz => List.mem_of_mem_take hz
        have hl2 : (((beside x.1).take j).foldl (floodItem c x.2) st).length ≤ 49 := by
          have := inj.nodup.length_le_of_subset (l₂ := c.every) fun s hs => by
            obtain ⟨x, hx, rfl⟩ := List.mem_map.mp hs
            have := inj.seas x hx
            unfold Ch.sea at this
            rw [Bool.and_eq_true] at this
            exact Ch.mem_every.mpr this.1
          rw [List.length_map] at this
          exact Nat.le_trans this (every_len g)
        rw [foldl_take _ _ hqq]
        generalize hsj : ((beside x.1).take j).foldl (floodItem c x.2) st = sj at *
        obtain ⟨qb, rfl, hqb⟩ := id hq'
        by_cases hin : qq ∈ sj.map (·.1)
        · obtain ⟨⟨_, dd⟩, hmem, rfl⟩ := List.mem_map.mp hin
          refine ⟨_, rfl, _, rfl, D, some (.int dd), rfl, .inr ⟨_, sk _, qb, .inl hD3, rfl, hqb, (fe_some hmem inj.nodup).symm⟩, _, rfl, iteF (iteF ?_)⟩
          unfold floodItem
          rw [if_neg (fun z => z.1 hin)]
          exact ⟨_, rfl, s3, hp3, hxs3, hD3, zs, hL3, hzs⟩
        · refine ⟨_, rfl, _, rfl, D, none, rfl, .inr ⟨_, sk _, qb, .inl hD3, rfl, hqb, (fe_none hin).symm⟩, _, rfl, iteT ?_⟩
          refine ⟨⟨fa, hfa, rfl⟩, _, rfl, _, rfl, .ref a, .ref qb, c, qq, rfl, hc.tk (.of_same s3), hq', g, _, rfl, ?_⟩
          cases hse : c.sea qq with
          | false =>
            refine iteF ?_
            unfold floodItem
            rw [if_neg (fun z => by rw [hse] at z; exact Bool.false_ne_true z.2)]
            exact ⟨_, rfl, s3, hp3, hxs3, hD3, zs, hL3, hzs⟩
          | true =>
            refine iteT ?_
            unfold floodItem
            rw [if_pos ⟨hin, hse⟩]
            obtain ⟨y2, hy2, ⟨yb, rfl, hyb⟩⟩ := paired_get2 hzs (show (sj.map (·.1))[i]? = some x.1 by rw [List.getElem?_map, injx]; rfl)
            have hat2 : atI zs (0 + (i : Int)) = some (.ref yb) := by rw [Int.zero_add]; exact atI_nat hy2
            refine ⟨_, rfl, _, rfl, _, rfl, L, zs, _, _, rfl, rfl, SqL.of hL3, hat2, D, .int x.2, rfl, .inr ⟨_, sk x.1, yb, .inl hD3, rfl, hyb, (fe_some (List.mem_of_getElem? injx) inj.nodup).symm⟩, _, _, rfl, rfl, ?_⟩
            refine ⟨_, rfl, _, rfl, D, _, rfl, .inr ⟨_, sk qq, qb, hD3, rfl, hqb, small99 (by rw [List.length_map]; omega), rfl⟩, ?_⟩
            rw [fe_put hin]
            have kA : TK H3 (upd H3 D (.dT ((sj ++ [(qq, x.2 + 1)]).map fe))) := TK.put hD3 fun xs z => by cases z
            have hL4 : upd H3 D (.dT ((sj ++ [(qq, x.2 + 1)]).map fe)) L = some (.lst zs) := by rw [upd_ne nLD]; exact hL3
            refine ⟨_, rfl, .inl ⟨rfl, _, SqL.of hL4⟩, _, rfl, L, zs, _, rfl, rfl, hL4, small99 (by rw [pLen hzs, List.length_map]; omega), ?_⟩
            have kB := kA.trans (TK.put (o := .lst (zs ++ [.ref qb])) hL4 fun xs z => by cases z)
            refine ⟨_, rfl, sapp (sapp s3 hD _) hL2 _, ?_, sq_tk hxs3 kB, ?_, _, upd_same, ?_⟩
            · rw [upd_ne hpL, upd_ne hpD]; exact hp3
            · rw [upd_ne (Ne.symm nLD)]; exact upd_same
            · rw [show (sj ++ [(qq, x.2 + 1)]).map (fun x => x.1) = sj.map (fun x => x.1) ++ [qq] from by simp]
              exact .snoc (sq_tk hzs kB) (hq'.tk kB)
      · rintro σ H3 ⟨o2, rfl, s3, hp3, hxs3, hD3, zs, hL3, hzs⟩
        rw [List.take_of_length_le (by rw [pLen hxs]; exact Nat.le_refl _)] at hD3 hzs
        exact ⟨_, _, rfl, s3, hD3, zs, hL3, hzs⟩
    · refine iteN (by omega) ?_
      have ef : floodStep c st i = st := by unfold floodStep; rw [List.getElem?_eq_none (by omega)]
      rw [ef]
      exact ⟨_, _, rfl, s1, hD1, ys, hL1, hys⟩
  · rintro σ H1 ⟨o1, o2, rfl, s1, hD1, ys, hL1, hys⟩
    exact ⟨_, rfl, q _ D s1 hD hD1⟩
/-! ### rooms -/
def IsRw (H : Hp) (v : V) (e : Sq × Sq × Int) : Prop := ∃ a x y, v = .ref a ∧ H a = some (.tup [x, y, .int e.2.2]) ∧ IsSq H x e.1 ∧ IsSq H y e.2.1
theorem IsRw.tk {H H' : Hp} {v : V} {e : Sq × Sq × Int} (h : IsRw H v e) (k : TK H H') : IsRw H' v e := let ⟨a, x, y, e, h, h1, h2⟩ := h; ⟨a, x, y, e, k _ _ h, h1.tk k, h2.tk k⟩
theorem rw_tk {H H' : Hp} {xs : List V} {l : List (Sq × Sq × Int)} (h : Paired (IsRw H) xs l) (k : TK H H') : Paired (IsRw H') xs l := pTk (fun _ _ _ _ h k => h.tk k) h k
theorem dp_sq {K : PySem.W.Frag} {H : Hp} {v : V} {s : Sq} (h : IsSq H v s) : Dp K H v (.tuple [.int s.1, .int s.2]) := by
  obtain ⟨a, rfl, h⟩ := h
  exact .tup (SqT.of h) (.cons (.int _) (.cons (.int _) .nil))
theorem shaped_one (s : Sq) : SeqAt.shaped (.tuple [.int s.1, .int s.2]) = true := by
  unfold SeqAt.shaped
  simp [PyData.canLay0, PyData.canLayAll0, PyData.depth, PyData.depthAll]
theorem eqv_sq (s t : Sq) : PyData.eqv (.tuple [.int s.1, .int s.2]) (.tuple [.int t.1, .int t.2]) = decide (s = t) := by
  simp only [PyData.eqv, PyData.eqvAll, Bool.and_true]
  rw [Bool.eq_iff_iff]
  simp only [Bool.and_eq_true, beq_iff_eq, decide_eq_true_eq]
  exact ⟨fun ⟨a, b⟩ => Prod.ext a b, fun e => e ▸ ⟨rfl, rfl⟩⟩
theorem keys_fe {H : Hp} : ∀ {st : List (Sq × Int)} {bs : List Addr}, IsKeys H (st.map fe) bs → Paired (IsSq H) (bs.map V.ref) (st.map (·.1))
  | [], _, h => by cases h; exact .nil
  | k :: r, _, h => by
    cases h with
    | cons a t => exact .cons ⟨_, rfl, a⟩ (keys_fe (st := r) t)
def RwC (c : Ch) (e : Sq × Sq × Int) : Prop := c.told e.2.1 = true ∧ e.2.1 ≠ e.1 ∧ ∃ d, (e.2.1, d) ∈ flood c e.1 ∧ e.2.2 = roomB c e.1 e.2.1 d
theorem sc_rooms : FnScope ["chart", "found", "one", "far", "other"] ["chart"] (defScope (top 45)) := ⟨rfl, rfl, rfl, by decide +kernel, rfl, by decide +kernel, by decide +kernel⟩
def spRooms : SpV := fun vs H Q => ∃ v c, vs = [v] ∧ IsCh H v c ∧ c.Good ∧ ∀ H' p xs rows, Same H H' → H p = none → H' p = some (.lst xs) → Paired (IsRw H') xs rows → RowsOk c rows → Q (.ref p) H'
theorem g_rooms (T : Txt K mg) : G P w K mg base 4 "rooms" spRooms := by
  refine g_of 3 T.d_rooms sc_rooms (by rintro vs H Q ⟨v, c, rfl, _⟩; rfl) (fun _ _ _ _ _ _ us hl => match us, hl with | [_], _ => rfl) ?_
  rintro f cdv A outer s0 H vs Q E hr ⟨v, c, rfl, hc, g, q⟩
  have nd := sc_rooms.nd
  have hu := ru1 hr
  have hu16 := ru16 hr
  obtain ⟨fs, _, _, h_is_sea⟩ := T.d_is_sea.ex
  refine ⟨_, (pss_cons (ps_set (i := 1) nd rfl (by first | exact Or.inl rfl | exact Or.inr rfl) (pe_lst pa_nil))
      (pss_cons (ps_for PassesOwn.never rfl (piL K (pe_callG (g_told_squares T) hr rfl (pa_cons (pv 0) pa_nil))) (pg_name (i := 2) nd rfl (by first | exact Or.inl rfl | exact Or.inr rfl)) (pss_cons (ps_set (i := 3) nd rfl (by first | exact Or.inl rfl | exact Or.inr rfl) (pe_callG (g_flooded T) hr rfl (pa_cons (pv 0) (pa_cons (pv 2) (pa_cons (pe_glob (v := .ref fs) (u := .ref fs) rfl h_is_sea rfl) pa_nil)))))
      (pss_one (ps_for PassesOwn.never rfl (piL K (pe_callB (cr_sortedT hu16 rfl) (by rfl) T.n_sorted (by decide +kernel) (pa_cons (pv 3) pa_nil))) (pg_name (i := 4) nd rfl (by first | exact Or.inl rfl | exact Or.inr rfl)) (pss_one (ps_if (PW.pt (pw_and (pt_cmpR (op_neD hr.units) (pv 4) (pv 2) (nomark _)) (pw_and1 (pt_val (pe_callG (g_is_told T) hr rfl (pa_cons (pv 0) (pa_cons (pv 4) pa_nil))))))) (pss_one (ps_expr (pe_bm PySem.F.plainAttrs_list PySem.F.slot_list_append PySem.F.type_list_append mt_append (pv 1) (pa_cons (pe_tup (pa_cons (pv 2) (pa_cons (pv 4) (pa_cons (pe_callG (g_room_between T) hr rfl (pa_cons (pv 0) (pa_cons (pv 2) (pa_cons (pv 4) (pa_cons (pe_dget hu (pv 3) (pv 4) (fun _ _ => rfl)) pa_nil))))) pa_nil)))) pa_nil)))) pss_nil))))))
      (pss_one (ps_ret (pv 1))))), ?_⟩
  refine ⟨(by show 0 ≤ sizeLine; decide), fun D hD => ?_⟩
  refine ⟨_, rfl, v, c, rfl, hc.tk (.new hD _), g, fun H1 p xs s1 p0 hp hxs => ⟨p, rfl, ⟨_, SqL.of hp⟩, ?_⟩⟩
  have hpD : p ≠ D := fun z => by rw [z, upd_same] at p0; cases p0
  have s1' := (same_new hD (.lst [])).trans s1
  have h49 := told_len g
  refine for_list (K := K) (a := p) (xs := xs) (fun i σ H' => ∃ o2 o3 o4, σ = [some v, some (.ref D), o2, o3, o4] ∧ Same H H' ∧ H' p = some (.lst xs) ∧ Paired (IsSq H') xs c.toldSq ∧ ∃ ys rows, H' D = some (.lst ys) ∧ Paired (IsRw H') ys rows ∧ rows.length ≤ 49 * i ∧
      ∀ e, e ∈ rows ↔ e.1 ∈ c.toldSq.take i ∧ RwC c e)
    ⟨none, none, none, rfl, s1', hp, hxs, [], [], s1 _ _ upd_same, .nil, Nat.zero_le _, fun e => ⟨fun h => absurd h (by simp), fun h => absurd h.1 (by simp)⟩⟩ (fun i σ H' _ ⟨_, _, _, _, _, h, _⟩ => SqL.of h) ?_ ?_
  · rintro i x σ H2 hx ⟨o2, o3, o4, rfl, s2, hp2, hxs2, ys, rows, hD2, hys, hrl, hrows⟩
    obtain ⟨one, hone, hx2⟩ := paired_get hxs2 hx
    obtain ⟨oa, rfl, hoa⟩ := id hx2
    have hi : i < c.toldSq.length := (List.getElem?_eq_some_iff.mp hone).1
    have htold : c.told one = true := Ch.mem_toldSq.mp (List.mem_of_getElem? hone)
    have hw1 : c.within one = true := by unfold Ch.told at htold; rw [Bool.and_eq_true] at htold; exact htold.1
    refine ⟨_, rfl, _, rfl, v, .ref oa, fs, c, one, rfl, h_is_sea, hc.tk (.of_same s2), hx2, g, told_sea htold, fun H3 d s3 d0 hd3 => ?_⟩
    refine ⟨_, rfl, d, _, rfl, .inl hd3, ?_, fun bs cs p2 hK hperm hp20 => ⟨p2, rfl, ⟨_, SqL.of upd_same⟩, ?_⟩⟩
    · intro p hp
      obtain ⟨k, _, rfl⟩ := List.mem_map.mp hp
      exact ⟨_, _, rfl⟩
    obtain ⟨l, hl1, hl2⟩ := perm_paired (hperm.map V.ref) (keys_fe hK)
    have s4 := s3.trans (same_new hp20 (.lst (cs.map V.ref)))
    have hl49 : l.length ≤ 49 := by
      rw [hl2.length_eq, List.length_map]
      exact Nat.le_trans (flood_len (told_sea htold) _) (Nat.mul_le_mul (show c.high ≤ 7 from g.h9) g.w9)
    have np2 : p2 ≠ D := fun z => by rw [z, s3 _ _ hD2] at hp20; cases hp20
    have npd : p2 ≠ d := fun z => by rw [z, hd3] at hp20; cases hp20
    have ndD : d ≠ D := fun z => by rw [z, hD2] at d0; cases d0
    have nd := (flood_ok (told_sea htold)).nodup
    refine for_list (K := K) (a := p2) (xs := cs.map V.ref) (fun j σ H' => ∃ o4, σ = [some v, some (.ref D), some (.ref oa), some (.ref d), o4] ∧ Same H H' ∧ H' p = some (.lst xs) ∧ Paired (IsSq H') xs c.toldSq ∧ H' p2 = some (.lst (cs.map V.ref)) ∧ Paired (IsSq H') (cs.map V.ref) l ∧ IsSq H' (.ref oa) one ∧
        H' d = some (.dT ((flood c one).map fe)) ∧ ∃ ys rows, H' D = some (.lst ys) ∧ Paired (IsRw H') ys rows ∧ rows.length ≤ 49 * i + j ∧ ∀ e, e ∈ rows ↔ (e.1 ∈ c.toldSq.take i ∧ RwC c e) ∨ (e.1 = one ∧ e.2.1 ∈ l.take j ∧ RwC c e))
      ⟨_, rfl, s2.trans s4, s4 _ _ hp2, sq_tk hxs2 (.of_same s4), upd_same, sq_tk hl1 (.of_same (same_new hp20 _)), hx2.tk (.of_same s4), by rw [upd_ne (Ne.symm npd)]; exact hd3, ys, rows, s4 _ _ hD2, rw_tk hys (.of_same s4), by omega, fun e => by rw [hrows e]; simp⟩
      (fun j σ H' _ h => by obtain ⟨_, _, _, _, _, h, _⟩ := h; exact SqL.of h) ?_ ?_
    · rintro j y σ H5 hy ⟨o4, rfl, s5, hp5, hxs5, hp25, hl5, hx5, hd5, zs, rw5, hD5, hzs, hrl5, hrows5⟩
      obtain ⟨other, hother, hy5⟩ := paired_get hl5 hy
      have hj : j < l.length := (List.getElem?_eq_some_iff.mp hother).1
      obtain ⟨ob, rfl, hob⟩ := id hy5
      obtain ⟨⟨oq, dd⟩, hdm, heq⟩ := List.mem_map.mp (hl2.mem_iff.mp (List.mem_of_getElem? hother))
      have heq : oq = other := heq
      rw [heq] at hdm
      refine ⟨_, rfl, _, rfl, _, _, dp_sq hy5, dp_sq hx5, shaped_one _, shaped_one _, _, rfl, ?_⟩
      rw [eqv_sq, take_snoc hother]
      have skip : ¬ (RwC c (one, other, roomB c one other dd)) → ∀ e : Sq × Sq × Int, (e ∈ rw5 ↔ (e.1 ∈ c.toldSq.take i ∧ RwC c e) ∨ (e.1 = one ∧ e.2.1 ∈ l.take j ++ [other] ∧ RwC c e)) := by
        intro hn e
        rw [hrows5 e]
        refine ⟨fun h => h.elim .inl fun ⟨a, b, z⟩ => .inr ⟨a, List.mem_append_left _ b, z⟩, fun h => h.elim .inl fun ⟨a, b, z⟩ => ?_⟩
        rcases List.mem_append.mp b with b | b
        · exact .inr ⟨a, b, z⟩
        · refine absurd ?_ hn
          have b := List.mem_singleton.mp b
          obtain ⟨z1, z2, d', z3, z4⟩ := z
          rw [a, b] at z3
          have := keyed nd z3 hdm
          subst this
          rw [a, b] at z4
          obtain ⟨e1, e2, e3⟩ := e
          simp only [] at a b z4
          subst a b z4
          exact ⟨z1, z2, _, hdm, rfl⟩
      by_cases hne : other = one
      · rw [decide_eq_true hne]
        refine iteF (iteF ?_)
        exact ⟨_, rfl, s5, hp5, hxs5, hp25, hl5, hx5, hd5, zs, rw5, hD5, hzs, by omega, skip fun z => z.2.1 hne⟩
      · rw [decide_eq_false hne]
        refine iteT ?_
        refine ⟨_, rfl, _, rfl, v, .ref ob, c, other, rfl, hc.tk (.of_same s5), hy5, g, _, rfl, ?_⟩
        cases hto : c.told other with
        | false =>
          refine iteF ?_
          exact ⟨_, rfl, s5, hp5, hxs5, hp25, hl5, hx5, hd5, zs, rw5, hD5, hzs, by omega, skip fun z => by have := z.1; rw [hto] at this; exact Bool.false_ne_true this⟩
        | true =>
          refine iteT ?_
          have hw2 : c.within other = true := by unfold Ch.told at hto; rw [Bool.and_eq_true] at hto; exact hto.1
          refine ⟨_, rfl, .inl ⟨rfl, _, SqL.of hD5⟩, _, rfl, _, rfl, _, rfl, _, rfl, _, rfl, _, rfl, _, rfl, d, .int dd, rfl, .inr ⟨_, sk other, ob, .inl hd5, rfl, hob, (fe_some hdm nd).symm⟩, ?_⟩
          refine ⟨v, .ref oa, .ref ob, c, one, other, dd, rfl, hc.tk (.of_same s5), hx5, hy5, g, hw1, hw2, (by show 3 ≤ sizeLine; decide), fun t nt => ?_⟩
          have u1 := same_new nt (.tup [.ref oa, .ref ob, .int (roomB c one other dd)])
          refine ⟨D, zs, _, rfl, rfl, u1 _ _ hD5, small99 (by rw [pLen hzs]; omega), ?_⟩
          have k6 : TK H5 (upd (upd H5 t (.tup [.ref oa, .ref ob, .int (roomB c one other dd)])) D (.lst (zs ++ [.ref t]))) := (TK.of_same u1).trans (TK.put (u1 _ _ hD5) fun xs z => by cases z)
          refine ⟨_, rfl, sapp (s5.trans u1) hD _, by rw [upd_ne hpD]; exact u1 _ _ hp5, sq_tk hxs5 k6, by rw [upd_ne np2]; exact u1 _ _ hp25, sq_tk hl5 k6, hx5.tk k6, by rw [upd_ne ndD]; exact u1 _ _ hd5, _, rw5 ++ [(one, other, roomB c one other dd)], upd_same, .snoc (rw_tk hzs k6) ⟨t, _, _, rfl, ?_, hx5.tk k6, hy5.tk k6⟩, by rw [List.length_append, List.length_singleton]; omega, fun e => ?_⟩
          · rw [upd_ne (fun z => by rw [z] at nt; rw [nt] at hD5; cases hD5)]
            exact upd_same
          · rw [List.mem_append, hrows5 e]
            refine ⟨fun h => ?_, fun h => ?_⟩
            · rcases h with (h | ⟨a, b, z⟩) | h
              · exact .inl h
              · exact .inr ⟨a, List.mem_append_left _ b, z⟩
              · rw [List.mem_singleton.mp h]
                exact .inr ⟨rfl, by simp, hto, hne, dd, hdm, rfl⟩
            · rcases h with h | ⟨a, b, z⟩
              · exact .inl (.inl h)
              · rcases List.mem_append.mp b with b | b
                · exact .inl (.inr ⟨a, b, z⟩)
                · have b := List.mem_singleton.mp b
                  obtain ⟨z1, z2, d', z3, z4⟩ := z
                  rw [a, b] at z3 z4
                  have := keyed nd z3 hdm
                  subst this
                  refine .inr (List.mem_singleton.mpr ?_)
                  exact Prod.ext a (Prod.ext b z4)
    · rintro σ H5 ⟨o4, rfl, s5, hp5, hxs5, hp25, hl5, hx5, hd5, zs, rw5, hD5, hzs, hrl5, hrows5⟩
      refine ⟨_, _, _, rfl, s5, hp5, hxs5, zs, rw5, hD5, hzs, ?_, fun e => ?_⟩
      · have : (cs.map V.ref).length = l.length := pLen hl1
        omega
      · have hlt : l.take (cs.map V.ref).length = l := List.take_of_length_le (by rw [pLen hl1]; exact Nat.le_refl _)
        rw [hrows5 e, hlt, take_snoc hone, List.mem_append, List.mem_singleton]
        refine ⟨fun h => h.elim (fun ⟨a, b⟩ => ⟨.inl a, b⟩) fun ⟨a, _, b⟩ => ⟨.inr a, b⟩, fun ⟨a, b⟩ => a.elim (fun a => .inl ⟨a, b⟩) fun a => .inr ⟨a, ?_, b⟩⟩
        obtain ⟨_, _, d', z3, _⟩ := b
        rw [a] at z3
        exact hl2.mem_iff.mpr (List.mem_map.mpr ⟨_, z3, rfl⟩)
  · rintro σ H2 ⟨o2, o3, o4, rfl, s2, hp2, hxs2, ys, rows, hD2, hys, hrl, hrows⟩
    refine ⟨_, rfl, q _ D ys rows s2 hD hD2 hys fun e => ?_⟩
    rw [hrows e, List.take_of_length_le (by rw [pLen hxs]; exact Nat.le_refl _), Ch.mem_toldSq]
    exact ⟨fun ⟨a, b, z, y⟩ => ⟨a, b, z, y⟩, fun ⟨a, b, z, y⟩ => ⟨a, b, z, y⟩⟩
end
end Wk

set_option maxRecDepth 100000
set_option maxHeartbeats 4000000
namespace Wk
open PySem PySem.Spec PyProof.Rows L2 Co
theorem back_pre {α : Type} [DecidableEq α] {came : α → Option α} {v w : α} {p : Nat} (h : back came p v = some w) : ∀ i, i ≤ p → ∃ x, back came i v = some x := fun i hi => by
  have := back_add came v i (p - i)
  rw [show i + (p - i) = p by omega, h] at this
  cases e : back came i v with
  | none => rw [e] at this; cases this
  | some x => exact ⟨x, rfl⟩
/-- came, as a dict -/
def CmOk (N : List Sq) (H : Hp) (ks : List Sq) (f : Sq → V) (m : Sq → Option Sq) : Prop := ks.Nodup ∧ (∀ s ∈ ks, s ∈ N) ∧ ∀ s, (s ∈ ks → ∃ u, m s = some u ∧ u ∈ N ∧ IsSq H (f s) u) ∧ (s ∉ ks → m s = none)
theorem CmOk.tk {N : List Sq} {H H' : Hp} {ks : List Sq} {f : Sq → V} {m : Sq → Option Sq} (h : CmOk N H ks f m) (k : TK H H') : CmOk N H' ks f m :=
  ⟨h.1, h.2.1, fun s => ⟨fun hs => let ⟨u, a, b, z⟩ := (h.2.2 s).1 hs; ⟨u, a, b, z.tk k⟩, (h.2.2 s).2⟩⟩
theorem CmOk.get {N : List Sq} {H : Hp} {ks : List Sq} {f : Sq → V} {m : Sq → Option Sq} (h : CmOk N H ks f m) {s u : Sq} (e : m s = some u) : s ∈ ks ∧ IsSq H (f s) u := by
  by_cases hs : s ∈ ks
  · obtain ⟨u', a, _, z⟩ := (h.2.2 s).1 hs
    rw [e] at a; cases a
    exact ⟨hs, z⟩
  · rw [(h.2.2 s).2 hs] at e; cases e
theorem CmOk.put {N : List Sq} {H : Hp} {ks : List Sq} {f : Sq → V} {m : Sq → Option Sq} (h : CmOk N H ks f m) {s u : Sq} {y : V} (hs : s ∈ N) (hu : u ∈ N) (hy : IsSq H y u) : CmOk N H (insK ks s) (updF f s y) fun x => if x = s then some u else m x := by
  refine ⟨nodup_insK h.1, fun x hx => ?_, fun x => ⟨fun hx => ?_, fun hx => ?_⟩⟩
  · rcases mem_insK.mp hx with a | a
    · exact h.2.1 x a
    · exact a ▸ hs
  · by_cases e : x = s
    · exact ⟨u, by simp [e], hu, by unfold updF; rw [if_pos e]; exact hy⟩
    · rcases mem_insK.mp hx with a | a
      · obtain ⟨u', a1, a2, a3⟩ := (h.2.2 x).1 a
        exact ⟨u', by simp [e, a1], a2, by unfold updF; rw [if_neg e]; exact a3⟩
      · exact absurd a e
  · have e : x ≠ s := fun e => hx (mem_insK.mpr (.inr e))
    simp only [e, if_false]
    exact (h.2.2 x).2 fun a => hx (mem_insK.mpr (.inl a))
section
variable {P : Program} {w : World} {K : PySem.W.Frag} {mg : Str → Option Value} {base : Heap}
theorem sc_ring_back : FnScope ["came", "square", "many", "here", "turn", "found"] ["came", "square", "many"] (defScope (top 46)) := ⟨rfl, rfl, rfl, by decide +kernel, rfl, by decide +kernel, by decide +kernel⟩
def spRing : SpV := fun vs H Q => ∃ d u nn N ks f m, ∃ v0 : Sq, vs = [.ref d, u, .int (nn : Nat)] ∧ H d = some (.dT (kv sk ks f)) ∧ CmOk N H ks f m ∧ IsSq H u v0 ∧ nn ≤ 10000 ∧ (∃ w, back m nn v0 = some w ∧ ∃ p, 1 ≤ p ∧ p ≤ nn ∧ back m p w = some w) ∧
  ∀ H' p, Same H H' → Q (.ref p) H'
theorem g_ring_back (T : Txt K mg) : G P w K mg base 1 "ring_back" spRing := by
  refine g_of 0 T.d_ring_back sc_ring_back (by rintro vs H Q ⟨d, u, nn, N, ks, f, m, v0, rfl, _⟩; rfl) (fun _ _ _ _ _ _ us hl => match us, hl with | [_, _, _], _ => rfl) ?_
  rintro f0 cdv A outer s0 H vs Q E hr ⟨d, u, nn, N, ks, f, m, v0, rfl, hd, cm, hu0, hnn, ⟨w0, hw0, p, hp1, hpn, hpw⟩, q⟩
  have nd := sc_ring_back.nd
  have hu := ru1 hr
  refine ⟨_, (pss_cons (ps_set (i := 3) nd rfl (by first | exact Or.inl rfl | exact Or.inr rfl) (pv 1))
      (pss_cons (ps_for PassesOwn.never rfl (pi_range1 rfl T.n_range (pa_cons (pv 2) pa_nil)) (pg_name (i := 4) nd rfl (by first | exact Or.inl rfl | exact Or.inr rfl)) (pss_one (ps_set (i := 3) nd rfl (by first | exact Or.inl rfl | exact Or.inr rfl) (pe_dget hu (pv 0) (pv 3) (fun _ _ => rfl)))))
      (pss_cons (ps_set (i := 5) nd rfl (by first | exact Or.inl rfl | exact Or.inr rfl) (pe_lst (pa_cons (pv 3) pa_nil)))
      (pss_cons (ps_while PassesOwn.never (pt_cmpR (op_neD hr.units) (pe_dget hu (pv 0) (pe_ix (ixL K) (pv 5) (pe_un un_neg pe_int) (fun _ _ => rfl)) (fun _ _ => rfl)) (pv 3) (nomark _)) (pss_one (ps_expr (pe_bm PySem.F.plainAttrs_list PySem.F.slot_list_append PySem.F.type_list_append mt_append (pv 5) (pa_cons (pe_dget hu (pv 0) (pe_ix (ixL K) (pv 5) (pe_un un_neg pe_int) (fun _ _ => rfl)) (fun _ _ => rfl)) pa_nil)))))
      (pss_one (ps_ret (pe_revL (pv 5)))))))), ?_⟩
  refine ⟨_, rfl, _, rfl, nn, rfl, by omega, by omega, ?_⟩
  rw [Int.toNat_natCast]
  refine for_range (lo := 0) (n := nn) (fun i σ H' => ∃ y o4 o5 x, σ = [some (.ref d), some u, some (.int (nn : Nat)), some y, o4, o5] ∧ H' = H ∧ IsSq H y x ∧ back m i v0 = some x) ⟨u, none, none, v0, rfl, rfl, hu0, rfl⟩ ?_ ?_
  · rintro i σ H1 hi ⟨y, o4, o5, x, rfl, rfl, hy, hb⟩
    obtain ⟨z, hz⟩ := back_pre hw0 (i + 1) hi
    have hz' : m x = some z := by
      have : (back m i v0).bind m = some z := hz
      rw [hb] at this
      exact this
    obtain ⟨g1, g2⟩ := cm.get hz'
    exact ⟨_, rfl, _, rfl, d, _, rfl, get_in (.inl hd) hy g1, _, _, _, z, rfl, rfl, g2, hz⟩
  · rintro σ H1 ⟨y, o4, o5, x, rfl, rfl, hy, hb⟩
    rw [hw0] at hb
    cases hb
    refine ⟨_, rfl, (by show 1 ≤ sizeLine; decide), fun F hF => ?_⟩
    refine ⟨fun k σ H' => ∃ j ys z x o4, σ = [some (.ref d), some u, some (.int (nn : Nat)), some y, o4, some (.ref F)] ∧ Same H1 H' ∧ H' F = some (.lst (ys ++ [z])) ∧ IsSq H' z x ∧ back m j w0 = some x ∧ ys.length = j ∧ j + 1 + k = p,
      ⟨p - 1, 0, [], y, w0, o4, rfl, same_new hF _, upd_same, hy.tk (.new hF _), rfl, rfl, by omega⟩, ?_⟩
    rintro k σ H2 ⟨j, ys, z, x, o4, rfl, s2, hF2, hz, hbj, hyl, hjk⟩
    have hd2 := s2 _ _ hd
    have cm2 := cm.tk (.of_same s2)
    obtain ⟨t, ht⟩ := back_pre hpw (j + 1) (by omega)
    have ht' : m x = some t := by
      have : (back m j w0).bind m = some t := ht
      rw [hbj] at this
      exact this
    obtain ⟨g1, g2⟩ := cm2.get ht'
    have hy2 := hy.tk (.of_same s2)
    refine ⟨_, rfl, _, rfl, _, rfl, F, _, _, _, rfl, rfl, SqL.of hF2, atI_last _ _, d, _, rfl, get_in (.inl hd2) hz g1, _, rfl, _, _, dp_sq g2, dp_sq hy2, shaped_one _, shaped_one _, _, rfl, ?_⟩
    rw [eqv_sq]
    by_cases he : t = w0
    · rw [decide_eq_true he]
      refine iteF ?_
      exact ⟨_, rfl, F, _, rfl, SqL.of hF2, fun p3 n3 => q _ p3 (s2.trans (same_new n3 _))⟩
    · rw [decide_eq_false he]
      refine iteT ?_
      obtain ⟨k', rfl⟩ : ∃ k', k = k' + 1 := ⟨k - 1, by
        cases k with
        | zero => rw [show j + 1 = p by omega, hpw] at ht; cases ht; exact absurd rfl he
        | succ k => rfl⟩
      refine ⟨fun σ' H' => ∃ j ys z x o4, σ' = [some (.ref d), some u, some (.int (nn : Nat)), some y, o4, some (.ref F)] ∧ Same H1 H' ∧ H' F = some (.lst (ys ++ [z])) ∧ IsSq H' z x ∧ back m j w0 = some x ∧ ys.length = j ∧ j + 1 + k' = p,
        fun σ' H' h => ⟨k', Nat.lt_succ_self _, h⟩, ?_⟩
      refine ⟨_, rfl, .inl ⟨rfl, _, SqL.of hF2⟩, _, rfl, _, rfl, _, rfl, F, _, _, _, rfl, rfl, SqL.of hF2, atI_last _ _, d, _, rfl, get_in (.inl hd2) hz g1, F, _, _, rfl, rfl, hF2, small99 (by rw [List.length_append, List.length_singleton]; omega), ?_⟩
      exact ⟨j + 1, ys ++ [z], f x, t, _, rfl, sapp s2 hF _, upd_same, g2.tk (TK.put hF2 fun xs z => by cases z), ht, by rw [List.length_append, hyl]; rfl, by omega⟩
end
end Wk

set_option maxRecDepth 100000
set_option maxHeartbeats 4000000
namespace Wk
open PySem PySem.Spec PyProof.Rows L2 Co
def TabOk (N : List Sq) (tf : Sq → V) (far : Sq → Option Int) : Prop := ∀ s ∈ N, ∃ n, far s = some n ∧ tf s = .int n
/-- last, as a value -/
def LastV (N : List Sq) (H : Hp) (y : V) (l : Option Sq) : Prop := (l = none ∧ y = .non) ∨ ∃ u, l = some u ∧ u ∈ N ∧ IsSq H y u
theorem LastV.tk {N : List Sq} {H H' : Hp} {y : V} {l : Option Sq} (h : LastV N H y l) (k : TK H H') : LastV N H' y l := h.imp id fun ⟨u, a, b, z⟩ => ⟨u, a, b, z.tk k⟩
theorem TabOk.put {N : List Sq} {tf : Sq → V} {far : Sq → Option Int} (h : TabOk N tf far) (s : Sq) (n : Int) : TabOk N (updF tf s (.int n)) fun x => if x = s then some n else far x := fun x hx => by
  by_cases e : x = s
  · exact ⟨n, by simp [e], by unfold updF; rw [if_pos e]⟩
  · obtain ⟨k, a, b⟩ := h x hx
    exact ⟨k, by simp [e, a], by unfold updF; rw [if_neg e]; exact b⟩
section
variable {P : Program} {w : World} {K : PySem.W.Frag} {mg : Str → Option Value} {base : Heap}
theorem sc_tides : FnScope ["chart", "some", "table", "rows", "came", "last", "turn", "one", "other", "room", "square"] ["chart"] (defScope (top 47)) := ⟨rfl, rfl, rfl, by decide +kernel, rfl, by decide +kernel, by decide +kernel⟩
def spTides : SpV := fun vs H Q => ∃ v c, vs = [v] ∧ IsCh H v c ∧ c.Good ∧ ∀ H' t z x, Same H H' → H' t = some (.tup [z, x]) → ((x = .non ∧ Fills c) ∨ ((∃ a, x = .ref a) ∧ ¬ Fills c)) → Q (.ref t) H'
theorem g_tides (T : Txt K mg) : G P w K mg base 5 "tides" spTides := by
  refine g_of 4 T.d_tides sc_tides (by rintro vs H Q ⟨v, c, rfl, _⟩; rfl) (fun _ _ _ _ _ _ us hl => match us, hl with | [_], _ => rfl) ?_
  rintro f cdv A outer s0 H vs Q E hr ⟨v, c, rfl, hc, g, q⟩
  have nd := sc_tides.nd
  have hu := ru1 hr
  have hu4 := ru4 hr
  have h49 := told_len g
  refine ⟨_, (pss_cons (ps_set (i := 1) nd rfl (by first | exact Or.inl rfl | exact Or.inr rfl) (pe_callG (g_told_squares T) hr rfl (pa_cons (pv 0) pa_nil)))
      (pss_cons (ps_set (i := 2) nd rfl (by first | exact Or.inl rfl | exact Or.inr rfl) (pe_callTy (cr_dictT hu4 rfl) (by rfl) T.n_dict (by decide +kernel) (pa_cons (pe_lc (own := [("square", 10)]) rfl nd (piL K (pv 1)) (blkOk_by (by kernel_rfl)) (fun _ _ _ _ _ => (pg_name (i := 10) nd rfl (by first | exact Or.inl rfl | exact Or.inr rfl))) (fun _ _ _ _ _ => pts_nil) (fun _ _ _ _ _ => (pe_tup (pa_cons (pv 10) (pa_cons pe_int pa_nil))))) pa_nil)))
      (pss_cons (ps_set (i := 3) nd rfl (by first | exact Or.inl rfl | exact Or.inr rfl) (pe_callG (g_rooms T) hr rfl (pa_cons (pv 0) pa_nil)))
      (pss_cons (ps_set (i := 4) nd rfl (by first | exact Or.inl rfl | exact Or.inr rfl) pe_dnewT)
      (pss_cons (ps_set (i := 5) nd rfl (by first | exact Or.inl rfl | exact Or.inr rfl) pe_non)
      (pss_cons (ps_for PassesOwn.never rfl (pi_range1 rfl T.n_range (pa_cons (pe_op op_add (pe_callB (crLen K) (by rfl) T.n_len (by decide +kernel) (pa_cons (pv 1) pa_nil)) pe_int) pa_nil)) (pg_name (i := 6) nd rfl (by first | exact Or.inl rfl | exact Or.inr rfl)) (pss_cons (ps_set (i := 5) nd rfl (by first | exact Or.inl rfl | exact Or.inr rfl) pe_non)
      (pss_cons (ps_for PassesOwn.never rfl (piL K (pv 3)) (pgT K (n := 3) rfl (pgs_cons (pg_name (i := 7) nd rfl (by first | exact Or.inl rfl | exact Or.inr rfl)) (pgs_cons (pg_name (i := 8) nd rfl (by first | exact Or.inl rfl | exact Or.inr rfl)) (pgs_cons (pg_name (i := 9) nd rfl (by first | exact Or.inl rfl | exact Or.inr rfl)) pgs_nil)))) (pss_one (ps_if (pt_cmpR op_lt (pe_op op_add (pe_dget hu (pv 2) (pv 7) (fun _ _ => rfl)) (pv 9)) (pe_dget hu (pv 2) (pv 8) (fun _ _ => rfl)) (nomark _)) (pss_cons (ps_dput hu (pv 2) (pv 8) (pe_op op_add (pe_dget hu (pv 2) (pv 7) (fun _ _ => rfl)) (pv 9)) rfl)
      (pss_cons (ps_dput hu (pv 4) (pv 8) (pv 7) rfl)
      (pss_one (ps_set (i := 5) nd rfl (by first | exact Or.inl rfl | exact Or.inr rfl) (pv 8))))) pss_nil)))
      (pss_one (ps_if (pt_cmpR op_isN (pv 5) pe_non (nomark _)) (pss_one (ps_ret (pe_tup (pa_cons (pv 2) (pa_cons pe_non pa_nil))))) pss_nil)))))
      (pss_cons (ps_if (pt_cmpR op_isN (pv 5) pe_non (nomark _)) (pss_one (ps_ret (pe_tup (pa_cons (pv 2) (pa_cons pe_non pa_nil))))) pss_nil)
      (pss_one (ps_ret (pe_tup (pa_cons (pv 2) (pa_cons (pe_callG (g_ring_back T) hr rfl (pa_cons (pv 4) (pa_cons (pv 5) (pa_cons (pe_callB (crLen K) (by rfl) T.n_len (by decide +kernel) (pa_cons (pv 1) pa_nil)) pa_nil)))) pa_nil)))))))))))), ?_⟩
  refine ⟨_, rfl, v, c, rfl, hc, g, fun H1 p xs s1 p0 hp hxs => ?_⟩
  refine ⟨_, rfl, p, rfl, ⟨_, SqL.of hp⟩, fun D hD => ?_⟩
  refine lc_list (K := K) (a := p) (xs := xs) (fun i H' => Same H1 H' ∧ ∃ ys, H' D = some (.lst ys) ∧ Paired (IsEnt H') ys (kv sk (c.toldSq.take i) fun _ => .int 0)) ⟨same_new hD _, [], upd_same, .nil⟩ (fun i H' _ h => SqL.of (h.1 _ _ hp)) ?_ ?_
  · rintro i x H2 hx ⟨s2, ys, hD2, hpy⟩
    obtain ⟨s, hs, ⟨b, rfl, hb⟩⟩ := paired_get hxs hx
    refine ⟨rfl, tyes ⟨_, rfl, (by show 2 ≤ sizeLine; decide), fun t nt => ⟨ys, at_new hD2 nt, small99 (by rw [pLen hpy, kv_len, List.length_take]; omega), ?_⟩⟩⟩
    have u1 := same_new nt (.tup [.ref b, .int 0])
    have u2 : TK H2 (upd (upd H2 t (.tup [.ref b, .int 0])) D (.lst (ys ++ [.ref t]))) := (TK.of_same u1).trans (TK.put (at_new hD2 nt) fun xs z => by cases z)
    refine ⟨sapp (s2.trans u1) hD _, _, upd_same, ?_⟩
    rw [take_snoc hs]
    have : kv sk (c.toldSq.take i ++ [s]) (fun _ => V.int 0) = kv sk (c.toldSq.take i) (fun _ => .int 0) ++ [(sk s, .int 0)] := by unfold kv; rw [List.map_append]; rfl
    rw [this]
    refine .snoc (Paired.mapP hpy fun _ _ ⟨t', b', e, h1, h2⟩ => ⟨t', b', e, u2 _ _ h1, u2 _ _ h2⟩) ⟨t, b, rfl, ?_, u2 _ _ (s2 _ _ hb)⟩
    rw [upd_ne (fun z => by rw [z] at nt; rw [nt] at hD2; cases hD2)]
    exact upd_same
  · rintro H2 ⟨s2, ys, hD2, hpy⟩
    rw [List.take_of_length_le (by rw [pLen hxs]; exact Nat.le_refl _)] at hpy
    refine ⟨D, ys, _, rfl, SqL.of hD2, hpy, ?_, fun tb htb => ?_⟩
    · have : (kv sk c.toldSq fun _ => V.int 0).map (·.1) = c.toldSq.map sk := by unfold kv; rw [List.map_map]; rfl
      rw [this]
      exact nodup_map_inj (Ch.toldSq_nodup c) fun a _ b _ e => sk_inj a b e
    have s12 := s1.trans s2
    have f1 : H tb = none := s12.free htb
    have s3 : Same H (upd H2 tb (.dT (kv sk c.toldSq fun _ => .int 0))) := sapp s12 f1 _
    refine ⟨_, rfl, v, c, rfl, hc.tk (.of_same s3), g, fun H3 R rs rows s4 R0 hR hrs hrok => ?_⟩
    have s34 := s3.trans s4
    have htb3 := s4 _ _ (upd_same (H := H2) (a := tb) (o := .dT (kv sk c.toldSq fun _ => .int 0)))
    have nRt : R ≠ tb := fun z => by rw [z, upd_same] at R0; cases R0
    intro Cm hCm
    have f2 : H Cm = none := s34.free hCm
    have nCt : Cm ≠ tb := fun z => by rw [z, htb3] at hCm; cases hCm
    have nCR : Cm ≠ R := fun z => by rw [z, hR] at hCm; cases hCm
    have hp3 : H3 p = some (.lst xs) := s4 _ _ (by rw [upd_ne (fun z => by rw [← z, s2 _ _ hp] at htb; cases htb)]; exact s2 _ _ hp)
    have npt : p ≠ tb := fun z => by rw [z] at hp3; rw [htb3] at hp3; cases hp3
    have npC : p ≠ Cm := fun z => by rw [z, hCm] at hp3; cases hp3
    have hxl : xs.length = c.toldSq.length := pLen hxs
    refine ⟨_, rfl, p, xs, rfl, .inl (SqL.of (at_new hp3 hCm)), _, _, rfl, rfl, _, rfl, by omega, by omega, ?_⟩
    have hm : ((xs.length : Int) + 1).toNat = c.toldSq.length + 1 := by omega
    rw [hm]
    have rin := rows_in hrok
    refine for_range (lo := 0) (n := c.toldSq.length + 1) (fun i σ H' => ∃ y o6 o7 o8 o9 o10 tf ck cf st, σ = [some v, some (.ref p), some (.ref tb), some (.ref R), some (.ref Cm), some y, o6, o7, o8, o9, o10] ∧ Same H H' ∧ H' p = some (.lst xs) ∧ H' R = some (.lst rs) ∧ Paired (IsRw H') rs rows ∧
        H' tb = some (.dT (kv sk c.toldSq tf)) ∧ H' Cm = some (.dT (kv sk ck cf)) ∧ TabOk c.toldSq tf st.far ∧ CmOk c.toldSq H' ck cf st.came ∧ LastV c.toldSq H' y st.last ∧ bf rows (c.toldSq.length + 1 - i) st = tidesM c rows ∧ (0 < i → st.last ≠ none))
      ⟨.non, none, none, none, none, none, fun _ => .int 0, [], fun _ => .non, bs0 (tab0 c), rfl, sapp s34 f2 _, at_new hp3 hCm, at_new hR hCm, rw_tk hrs (.new hCm _), at_new htb3 hCm, upd_same, fun s hs => ⟨0, if_pos hs, rfl⟩,
        ⟨List.nodup_nil, fun _ h => absurd h (by simp), fun s => ⟨fun h => absurd h (by simp), fun _ => rfl⟩⟩, .inl ⟨rfl, rfl⟩, rfl, fun h => absurd h (Nat.lt_irrefl _)⟩ ?_ ?_
    · rintro i σ H4 hi ⟨y, o6, o7, o8, o9, o10, tf, ck, cf, st, rfl, s5, hp5, hR5, hrs5, htb5, hC5, htab, hcm, hlast, hbf, _⟩
      obtain ⟨m, hm⟩ : ∃ m, c.toldSq.length + 1 - i = m + 1 := ⟨c.toldSq.length - i, by omega⟩
      rw [hm] at hbf
      refine ⟨_, rfl, R, rfl, ⟨_, SqL.of hR5⟩, ?_⟩
      refine for_list (K := K) (a := R) (xs := rs) (fun j σ H' => ∃ y o7 o8 o9 tf ck cf, σ = [some v, some (.ref p), some (.ref tb), some (.ref R), some (.ref Cm), some y, some (.int (0 + (i : Int))), o7, o8, o9, o10] ∧ Same H H' ∧ H' p = some (.lst xs) ∧ H' R = some (.lst rs) ∧ Paired (IsRw H') rs rows ∧
          H' tb = some (.dT (kv sk c.toldSq tf)) ∧ H' Cm = some (.dT (kv sk ck cf)) ∧ TabOk c.toldSq tf ((rows.take j).foldl relax { st with last := none }).far ∧ CmOk c.toldSq H' ck cf ((rows.take j).foldl relax { st with last := none }).came ∧ LastV c.toldSq H' y ((rows.take j).foldl relax { st with last := none }).last)
        ⟨.non, o7, o8, o9, tf, ck, cf, rfl, s5, hp5, hR5, hrs5, htb5, hC5, htab, hcm, .inl ⟨rfl, rfl⟩⟩ (fun j σ H' _ h => by obtain ⟨_, _, _, _, _, _, _, _, _, _, h, _⟩ := h; exact SqL.of h) ?_ ?_
      · rintro j x σ H5 hx ⟨y, o7, o8, o9, tf, ck, cf, rfl, s6, hp6, hR6, hrs6, htb6, hC6, htab, hcm, hlast⟩
        obtain ⟨e, he, hrw⟩ := paired_get hrs6 hx
        obtain ⟨a, y1, y2, rfl, ha, h1, h2⟩ := id hrw
        obtain ⟨in1, in2⟩ := rin e (List.mem_of_getElem? he)
        rw [foldl_take _ _ he]
        generalize (rows.take j).foldl relax { st with last := none } = sj at *
        obtain ⟨na, fa, ta⟩ := htab _ in1
        obtain ⟨nb, fb, tb'⟩ := htab _ in2
        have g1 := get_in (.inl htb6) h1 in1
        have g2 := get_in (.inl htb6) h2 in2
        rw [ta] at g1
        rw [tb'] at g2
        have hbet : better sj.far e = decide (na + e.2.2 < nb) := by unfold better; rw [fa, fb]
        refine ⟨a, _, rfl, SqT.of ha, rfl, _, _, rfl, _, _, rfl, _, _, rfl, rfl, ?_⟩
        refine ⟨_, rfl, _, rfl, tb, _, rfl, g1, _, rfl, _, _, rfl, rfl, _, rfl, _, rfl, tb, _, rfl, g2, _, _, rfl, rfl, _, rfl, ?_⟩
        unfold relax
        rw [hbet]
        by_cases hlt : na + e.2.2 < nb
        · refine iteD hlt ?_
          rw [decide_eq_true hlt, if_pos rfl]
          refine ⟨_, rfl, _, rfl, tb, _, rfl, g1, _, rfl, _, _, rfl, rfl, _, rfl, _, rfl, tb, _, rfl, put_any htb6 h2 (by omega), ?_⟩
          have ei : insK c.toldSq e.2.1 = c.toldSq := if_pos in2
          rw [ei]
          have kA : TK H5 (upd H5 tb (.dT (kv sk c.toldSq (updF tf e.2.1 (.int (na + e.2.2)))))) := TK.put htb6 fun xs z => by cases z
          have hC7 : upd H5 tb (.dT (kv sk c.toldSq (updF tf e.2.1 (.int (na + e.2.2))))) Cm = some (.dT (kv sk ck cf)) := by rw [upd_ne nCt]; exact hC6
          have ckl : ck.length ≤ 49 := Nat.le_trans (hcm.1.length_le_of_subset hcm.2.1) h49
          refine ⟨_, rfl, _, rfl, _, rfl, Cm, _, rfl, put_any hC7 (h2.tk kA) (by omega), ?_⟩
          have kB := kA.trans (TK.put (o := .dT (kv sk (insK ck e.2.1) (updF cf e.2.1 y1))) hC7 fun xs z => by cases z)
          refine ⟨_, rfl, y2, some y1, some y2, some (.int e.2.2), updF tf e.2.1 (.int (na + e.2.2)), insK ck e.2.1, updF cf e.2.1 y1, rfl, sapp (sapp s6 f1 _) f2 _, ?_, ?_, rw_tk hrs6 kB, ?_, upd_same, ?_, ?_, ?_⟩
          · rw [upd_ne npC, upd_ne npt]; exact hp6
          · rw [upd_ne (Ne.symm nCR), upd_ne nRt]; exact hR6
          · rw [upd_ne (Ne.symm nCt)]; exact upd_same
          · rw [fa]; exact htab.put _ _
          · exact (hcm.tk kB).put in2 in1 (h1.tk kB)
          · exact .inr ⟨_, rfl, in2, h2.tk kB⟩
        · refine iteN hlt ?_
          rw [decide_eq_false hlt, if_neg Bool.false_ne_true]
          exact ⟨y, some y1, some y2, some (.int e.2.2), tf, ck, cf, rfl, s6, hp6, hR6, hrs6, htb6, hC6, htab, hcm, hlast⟩
      · rintro σ H5 ⟨y, o7, o8, o9, tf, ck, cf, rfl, s6, hp6, hR6, hrs6, htb6, hC6, htab, hcm, hlast⟩
        rw [List.take_of_length_le (by rw [pLen hrs]; exact Nat.le_refl _)] at htab hcm hlast
        have er : rows.foldl relax { st with last := none } = Co.round rows st := rfl
        rw [er] at htab hcm hlast
        have hbf' : (if (Co.round rows st).last = none then Co.round rows st else bf rows m (Co.round rows st)) = tidesM c rows := hbf
        refine ⟨_, rfl, rfl, _, rfl, ?_⟩
        rcases hlast with ⟨hl, rfl⟩ | ⟨u, hl, hu, hy⟩
        · refine iteD rfl ?_
          rw [if_pos hl] at hbf'
          have hfill := (tides_iff hrok).mp (hbf' ▸ hl)
          exact ⟨_, rfl, (by show 2 ≤ sizeLine; decide), fun t nt => q _ t _ _ (s6.trans (same_new nt _)) upd_same (.inl ⟨rfl, hfill⟩)⟩
        · obtain ⟨yb, rfl, hyb⟩ := id hy
          refine iteN (fun z => nomatch z) ?_
          rw [if_neg (by rw [hl]; exact fun z => nomatch z)] at hbf'
          exact ⟨_, _, o7, o8, o9, o10, tf, ck, cf, Co.round rows st, rfl, s6, hp6, hR6, hrs6, htb6, hC6, htab, hcm, .inr ⟨u, hl, hu, hy⟩, by rw [show c.toldSq.length + 1 - (i + 1) = m by omega]; exact hbf', fun _ => by rw [hl]; exact fun z => nomatch z⟩
    · rintro σ H4 ⟨y, o6, o7, o8, o9, o10, tf, ck, cf, st, rfl, s5, hp5, hR5, hrs5, htb5, hC5, htab, hcm, hlast, hbf, hpos⟩
      rw [Nat.sub_self] at hbf
      have hbf' : st = tidesM c rows := hbf
      refine ⟨_, rfl, rfl, _, rfl, ?_⟩
      rcases hlast with ⟨hl, _⟩ | ⟨u, hl, hu', hy⟩
      · exact absurd hl (hpos (Nat.succ_pos _))
      · obtain ⟨yb, rfl, hyb⟩ := id hy
        refine iteN (fun z => nomatch z) ?_
        rw [hbf'] at hl hcm
        have hnf : ¬ Fills c := fun hf => by rw [(tides_iff hrok).mpr hf] at hl; cases hl
        have hring := (tides_ring hrok hl).2
        refine ⟨_, rfl, _, rfl, _, rfl, _, rfl, p, xs, rfl, .inl (SqL.of hp5), ?_⟩
        refine ⟨Cm, .ref yb, c.toldSq.length, c.toldSq, ck, cf, _, u, by rw [hxl], hC5, hcm, hy, by omega, hring, fun H5 p5 s6 => ?_⟩
        exact ⟨(by show 2 ≤ sizeLine; decide), fun t nt => q _ t _ _ (s5.trans (s6.trans (same_new nt _))) upd_same (.inr ⟨⟨_, rfl⟩, hnf⟩)⟩
theorem sc_bar : FnScope ["chart"] ["chart"] (defScope (top 48)) := ⟨rfl, rfl, rfl, by decide +kernel, rfl, by decide +kernel, by decide +kernel⟩
def spBar : SpV := fun vs H Q => ∃ v c, vs = [v] ∧ IsCh H v c ∧ c.Good ∧ ∀ H' x, Same H H' → ((x = .non ∧ Fills c) ∨ ((∃ a, x = .ref a) ∧ ¬ Fills c)) → Q x H'
theorem g_bar (T : Txt K mg) : G P w K mg base 6 "bar" spBar := by
  refine g_of 5 T.d_bar sc_bar (by rintro vs H Q ⟨v, c, rfl, _⟩; rfl) (fun _ _ _ _ _ _ us hl => match us, hl with | [_], _ => rfl) ?_
  rintro f cdv A outer s0 H vs Q E hr ⟨v, c, rfl, hc, g, q⟩
  refine ⟨_, (pss_cons (ps_expr (pe_callG (g_need_chart T) hr rfl (pa_cons (pv 0) pa_nil)))
      (pss_one (ps_ret (pe_ix (ixT K) (pe_callG (g_tides T) hr rfl (pa_cons (pv 0) pa_nil)) pe_int (fun _ _ => rfl))))), ?_⟩
  refine ⟨_, rfl, v, c, rfl, hc, g, fun H1 s1 => ?_⟩
  exact ⟨_, rfl, v, c, rfl, hc.tk (.of_same s1), g, fun H2 t z x s2 ht hx => ⟨t, _, _, _, rfl, rfl, SqT.of ht, rfl, q _ x (s1.trans s2) hx⟩⟩
theorem sc_can_fill : FnScope ["chart"] ["chart"] (defScope (top 49)) := ⟨rfl, rfl, rfl, by decide +kernel, rfl, by decide +kernel, by decide +kernel⟩
def spFill : SpV := fun vs H Q => ∃ v c, vs = [v] ∧ IsCh H v c ∧ c.Good ∧ ∀ H' b, Same H H' → (b = true ↔ Fills c) → Q (.bl b) H'
theorem g_can_fill (T : Txt K mg) : G P w K mg base 7 "can_fill" spFill := by
  refine g_of 6 T.d_can_fill sc_can_fill (by rintro vs H Q ⟨v, c, rfl, _⟩; rfl) (fun _ _ _ _ _ _ us hl => match us, hl with | [_], _ => rfl) ?_
  rintro f cdv A outer s0 H vs Q E hr ⟨v, c, rfl, hc, g, q⟩
  refine ⟨_, (pss_one (ps_ret (pe_cmpR op_isN (pe_callG (g_bar T) hr rfl (pa_cons (pv 0) pa_nil)) pe_non (nomark _)))), ?_⟩
  refine ⟨_, rfl, v, c, rfl, hc, g, fun H1 x s1 hx => ⟨rfl, ?_⟩⟩
  refine q _ _ s1 ?_
  rcases hx with ⟨rfl, h⟩ | ⟨⟨a, rfl⟩, h⟩
  · exact ⟨fun _ => h, fun _ => by decide⟩
  · exact ⟨fun z => absurd (of_decide_eq_true z) (fun z => nomatch z), fun z => absurd z h⟩
end
end Wk

set_option maxRecDepth 100000
set_option maxHeartbeats 4000000
namespace Wk
open PySem PySem.Spec PyProof.Rows L2 Co
/-! ### a class -/
structure MD (K : PySem.W.Frag) (C : Addr) (m q : Str) (st : Stmt) : Prop where
  ex : ∃ (f : Addr) (fd : FuncData), FunD K m q (defArgs st) (defBody st) (defScope st) [] [] f fd ∧ Meth K C m f
structure GM (P : Program) (w : World) (K : PySem.W.Frag) (mg : Str → Option Value) (base : Heap) (k : Nat) (C : Addr) (m : Str) (S : SpV) : Prop where
  ex : ∃ (f : Addr) (fd : FuncData) (ps : List Str), FnOk P w K mg base CX0 k f fd ps (sp S) ∧ Meth K C m f ∧ Binds K fd ps []
structure Df1 (K : PySem.W.Frag) (mg : Str → Option Value) (x : Str) (st : Stmt) : Prop where
  ex : ∃ (f : Addr) (fd : FuncData), FunD K x x (defArgs st) (defBody st) (defScope st) [.int 1] [] f fd ∧ mg x = some (.ref f)
structure Wb (K : PySem.W.Frag) (mg : Str → Option Value) (C : Addr) : Prop where
  glo : mg "Web" = some (.ref C)
  cls : Cls K C
  n_place : NoAttr K C "place"
  n_counts : NoAttr K C "counts"
  n_outside : NoAttr K C "outside"
  n_doors : NoAttr K C "doors"
  n_flow : NoAttr K C "flow"
  d_init : ∃ (f : Addr) (fd : FuncData), FunD K "__init__" "Web.__init__" (defArgs (inClass (top 37) 0)) (defBody (inClass (top 37) 0)) (defScope (inClass (top 37) 0)) [] [] f fd ∧ Mk K C f
  d_fares : MD K C "fares" "Web.fares" (inClass (top 37) 1)
  d_reach : MD K C "reach" "Web.reach" (inClass (top 37) 2)
  d_move : MD K C "move" "Web.move" (inClass (top 37) 3)
  d_settle : MD K C "settle" "Web.settle" (inClass (top 37) 4)
  d_told : MD K C "told" "Web.told" (inClass (top 37) 5)
  d_later : Df1 K mg "later" (top 53)
section
variable {P : Program} {w : World} {K : PySem.W.Frag} {mg : Str → Option Value} {base : Heap}
theorem gm_of {C : Addr} {m q : Str} {st : Stmt} {N ps : List Str} {S : SpV} (k : Nat) (D : MD K C m q st) (sc : FnScope N ps (defScope st)) (len : ∀ vs H Q, S vs H Q → vs.length = ps.length)
    (hb : ∀ (kV doc pm : Value) (an : Option Addr) (cdv ct : Value) (us : List Value), us.length = ps.length → bindArgs (PySem.W.fnOf m q (defArgs st) (defBody st) (defScope st) .none kV doc pm an cdv ct) ⟨us, []⟩ = pure (ps.zip us))
    (body : ∀ (f : Addr) (cdv : Value) (A : Around) (outer : List Env) (s : Shared) (H : Hp) (vs : List V) (Q : VK) (E : XK), Room k (A.deeper (envOfC q (defScope st) s.heap.objs.size f cdv)) → S vs H Q →
      ∃ t, PSs (Bc P w K mg base N q st f cdv A outer s H E) (defBody st) t ∧ t { nx := fun _ H' => Q .non H', rt := Q } (start N vs) H) : GM P w K mg base (k + 1) C m S := by
  obtain ⟨f, fd, F, hm⟩ := D.ex
  refine ⟨f, fd, ps, F.ok sc (fun vs H Q E h => len vs H Q h) (fun cdv A outer s H vs Q E hr h => ?_), hm, F.bindsN hb⟩
  obtain ⟨t, h1, h2⟩ := body f cdv A outer s H vs Q E hr h
  exact ⟨t, h1.nox, h2⟩
end
def tMG (C : Addr) (m : Str) (S : SpV) (ta : TE) (t : TA) : TE := fun σ H Q => ta σ H fun x H1 => ∃ a dx fs, x = .ref a ∧ H1 a = some (.ins C dx fs) ∧ fs.lookup m = none ∧ t σ H1 fun vs H2 => S (x :: vs) H2 Q
theorem unlock_same {H H' : Hp} {dd : Addr} {u : HO} (k : KeepB [dd] H H') (h : H dd = some u) : Same H (upd H' dd u) := fun b o e => by
  by_cases z : b = dd
  · rw [z, h] at e; cases e; rw [z]; exact upd_same
  · rw [upd_ne z]; exact k b o (by simpa using z) e
theorem tMG_of {C : Addr} {m : Str} {S : SpV} {ta : TE} (mono : ∀ (σ : L2.St) (H : Hp) (Q Q' : VK), (∀ v H', Q v H' → Q' v H') → ta σ H Q → ta σ H Q') {t : TA} : True := trivial
theorem pe_methG {X : Cx} {j k : Nat} {C : Addr} {m : Str} {S : SpV} {o e : Expr} {es : List Expr} {ta : TE} {t : TA} {apos pos : Pos} {pl : Sem Bool} (g : GM X.prog X.w X.K X.mg X.base j C m S) (c : Cls X.K C) (hr : Room k X.A) (he : PE X o ta) (ha : PA X (e :: es) t) (hj : j ≤ k := by decide)
    (hst : starEach (e :: es) X.env = (false, eval e X.env) :: starEach es X.env := by rfl) (hpl : (backTo pos (starEach es X.env)).any (·.1) = false := by rfl)
    (ht : eval (.Call (.Attribute o m apos) (e :: es) [] pos) X.env = (do
      let ov ← eval o X.env
      standAt apos.atName
      let (f, first) ← holding [ov] (getMethod ov m pl)
      callWith pos f first (backTo pos (starEach (e :: es) X.env)) (backToKw pos (keywordEach [] X.env))) := by rfl) :
    PE X (.Call (.Attribute o m apos) (e :: es) [] pos) (tMG C m S ta t) := by
  obtain ⟨f, fd, ps, F, hm, hb⟩ := g.ex
  refine ⟨fun pins s σ H Q I h => ?_⟩
  refine (pe_meth (E := E0) he c hm F (hr.mono hj) hb .nil pass0 ha hst hpl ht).run pins s σ H Q I ?_
  have e0 : tMeth C m (sp S) [] E0 ta t = tMG C m S ta t := by
    funext σ H Q
    show ta σ H (fun x H1 => ∃ a dx fs, x = .ref a ∧ H1 a = some (.ins C dx fs) ∧ fs.lookup m = none ∧ t σ H1 fun vs H2 => S (x :: (vs ++ [])) H2 Q) = _
    simp only [List.append_nil]
    rfl
  rw [e0]
  exact h
theorem pe_methG0 {X : Cx} {j k : Nat} {C : Addr} {m : Str} {S : SpV} {o : Expr} {ta : TE} {apos pos : Pos} {pl : Sem Bool} (g : GM X.prog X.w X.K X.mg X.base j C m S) (c : Cls X.K C) (hr : Room k X.A) (he : PE X o ta) (hj : j ≤ k := by decide)
    (ht : eval (.Call (.Attribute o m apos) [] [] pos) X.env = (do
      let ov ← eval o X.env
      standAt apos.atName
      let (f, first) ← holding [ov] (getMethod ov m pl)
      callWith pos f first (backTo pos (starEach [] X.env)) (backToKw pos (keywordEach [] X.env))) := by rfl) :
    PE X (.Call (.Attribute o m apos) [] [] pos) (tMG C m S ta tNil) := by
  obtain ⟨f, fd, ps, F, hm, hb⟩ := g.ex
  refine ⟨fun pins s σ H Q I h => ?_⟩
  refine (pe_meth0 (E := E0) he c hm F (hr.mono hj) hb .nil pass0 ht).run pins s σ H Q I ?_
  have e0 : tMeth C m (sp S) [] E0 ta tNil = tMG C m S ta tNil := by
    funext σ H Q
    show ta σ H (fun x H1 => ∃ a dx fs, x = .ref a ∧ H1 a = some (.ins C dx fs) ∧ fs.lookup m = none ∧ tNil σ H1 fun vs H2 => S (x :: (vs ++ [])) H2 Q) = _
    simp only [List.append_nil]
    rfl
  rw [e0]
  exact h
/-! ### dicts of numbers -/
def ik (n : Nat) : Key := Sum.inl (n : Int)
theorem ik_inj (a b : Nat) (h : ik a = ik b) : a = b := by
  have h1 : (a : Int) = (b : Int) := Sum.inl.inj h
  omega
def dk (d : Nat × Nat) : List Key := [Sum.inl (d.1 : Int), Sum.inl (d.2 : Int)]
theorem dk_inj (a b : Nat × Nat) (h : dk a = dk b) : a = b := by
  have h1 : (a.1 : Int) = (b.1 : Int) := by injection h with h1 _; injection h1
  have h2 : (a.2 : Int) = (b.2 : Int) := by injection h with _ h2; injection h2 with h2 _; injection h2
  exact Prod.ext (by omega) (by omega)
section
variable {H : Hp} {d : Addr} {ks : List Nat} {f : Nat → V} {n : Nat} {v : V}
theorem geti_in (h : Rd H d (.dK (kv ik ks f))) (hs : n ∈ ks) : DGet H d (.int (n : Nat)) (some (f n)) := .inl ⟨_, ik n, h, rfl, by rw [val_kv ik_inj, if_pos hs]⟩
theorem geti_out (h : Rd H d (.dK (kv ik ks f))) (hs : n ∉ ks) : DGet H d (.int (n : Nat)) none := .inl ⟨_, ik n, h, rfl, by rw [val_kv ik_inj, if_neg hs]⟩
theorem puti (h : H d = some (.dK (kv ik ks f))) (hl : ks.length ≤ 10000) : DPut H d (.int (n : Nat)) v (upd H d (.dK (kv ik (insK ks n) (updF f n v)))) := by
  by_cases hs : n ∈ ks
  · have e : insK ks n = ks := if_pos hs
    rw [e, ← put_old ik_inj hs v]
    exact DPut.k (k := ik n) h (by rw [kv_len]; exact small99 hl)
  · have e : insK ks n = ks ++ [n] := if_neg hs
    rw [e, ← put_new ik_inj hs v]
    exact DPut.k (k := ik n) h (by rw [kv_len]; exact small99 hl)
end
section
variable {H : Hp} {d b : Addr} {D : List (Nat × Nat)} {f : Nat × Nat → V} {x : Nat × Nat} {v : V}
/-- a pair of numbers -/
def IsNp (H : Hp) (b : Addr) (x : Nat × Nat) : Prop := H b = some (.tup [.int (x.1 : Nat), .int (x.2 : Nat)])
theorem getd_in (h : Rd H d (.dT (kv dk D f))) (hb : IsNp H b x) (hs : x ∈ D) : DGet H d (.ref b) (some (f x)) := .inr ⟨_, dk x, b, h, rfl, hb, by rw [val_kv dk_inj, if_pos hs]⟩
theorem getd_out (h : Rd H d (.dT (kv dk D f))) (hb : IsNp H b x) (hs : x ∉ D) : DGet H d (.ref b) none := .inr ⟨_, dk x, b, h, rfl, hb, by rw [val_kv dk_inj, if_neg hs]⟩
theorem putd (h : H d = some (.dT (kv dk D f))) (hb : IsNp H b x) (hs : x ∈ D) (hl : D.length ≤ 10000) : DPut H d (.ref b) v (upd H d (.dT (kv dk D (updF f x v)))) := by
  rw [← put_old dk_inj hs v]
  exact DPut.t h hb (by rw [kv_len]; exact small99 hl)
end
/-! ### the web -/
def flV (D : List (Nat × Nat)) (fl : Fl) : List (List Key × V) := kv dk D fun d => .int (fl d)
/-- the doors' dict: by the door, its side -/
def DoorV (H : Hp) (kvs : List (List Key × V)) (L : List ((Nat × Nat) × (Sq × Sq))) : Prop := Paired (fun p x => p.1 = dk x.1 ∧ IsPr H p.2 x.2) kvs L
structure WebAt (C : Addr) (c : Ch) (H : Hp) (a : Addr) (dx pl cn dd ff : Addr) (kvs : List (List Key × V)) (fl : Fl) : Prop where
  obj : H a = some (.ins C dx [("place", .ref pl), ("counts", .ref cn), ("outside", .int ((countsM c).length : Nat)), ("doors", .ref dd), ("flow", .ref ff)])
  cnt : H cn = some (.lst ((countsM c).map V.int))
  doors : H dd = some (.dT kvs)
  dv : DoorV H kvs (webDoors c)
  flow : H ff = some (.dT (flV ((webDoors c).map (·.1)) fl))
  apart : ff ≠ dd
theorem WebAt.same {C : Addr} {c : Ch} {H H' : Hp} {a dx pl cn dd ff : Addr} {kvs : List (List Key × V)} {fl : Fl} (h : WebAt C c H a dx pl cn dd ff kvs fl) (s : Same H H') : WebAt C c H' a dx pl cn dd ff kvs fl :=
  ⟨s _ _ h.obj, s _ _ h.cnt, s _ _ h.doors, Paired.mapP h.dv fun _ _ r => ⟨r.1, r.2.tk (.of_same s)⟩, s _ _ h.flow, h.apart⟩
/-- all but the flow stays, the flow is fl' -/
theorem WebAt.put {C : Addr} {c : Ch} {H : Hp} {a dx pl cn dd ff : Addr} {kvs : List (List Key × V)} {fl fl' : Fl} (h : WebAt C c H a dx pl cn dd ff kvs fl) : WebAt C c (upd H ff (.dT (flV ((webDoors c).map (·.1)) fl'))) a dx pl cn dd ff kvs fl' := by
  have k : TK H (upd H ff (.dT (flV ((webDoors c).map (·.1)) fl'))) := TK.put h.flow fun xs z => by cases z
  refine ⟨?_, ?_, ?_, Paired.mapP h.dv fun _ _ r => ⟨r.1, r.2.tk k⟩, upd_same, h.apart⟩
  · rw [upd_ne (ne_of h.obj h.flow fun z => nomatch z)]; exact h.obj
  · rw [upd_ne (ne_of h.cnt h.flow fun z => nomatch z)]; exact h.cnt
  · rw [upd_ne (Ne.symm h.apart)]; exact h.doors
theorem doors_len {c : Ch} (g : c.Good) : (webDoors c).length ≤ 98 := by
  have h1 : ∀ (l : List (Sq × Sq)) (D : List ((Nat × Nat) × (Sq × Sq))) (pl : Sq → Option Nat) (n : Nat), (l.foldl (doorItem pl n) D).length ≤ D.length + l.length := by
    intro l
    induction l with
    | nil => intro D pl n; exact Nat.le_refl _
    | cons x r ih =>
      intro D pl n
      rw [List.foldl_cons, List.length_cons]
      have := ih (doorItem pl n D x) pl n
      have h2 : (doorItem pl n D x).length ≤ D.length + 1 := by
        unfold doorItem
        split
        · simp
        · exact Nat.le_succ _
      omega
  have h2 := h1 c.sidesOf [] (Co.eyesOf c).place (Co.eyesOf c).found.length
  have h3 : c.sidesOf.length ≤ 98 := by
    have : c.sidesOf = c.toldSq.flatMap (sideF c) := rfl
    rw [this]
    have := sides_len g c.toldSq
    have := told_len g
    omega
  unfold webDoors doorsM
  simp only [List.length_nil] at h2
  omega
def IsFare (H : Hp) (v : V) (e : Nat × Nat × Int) : Prop := ∃ a, v = .ref a ∧ H a = some (.tup [.int (e.1 : Nat), .int (e.2.1 : Nat), .int e.2.2])
theorem IsFare.tk {H H' : Hp} {v : V} {e : Nat × Nat × Int} (h : IsFare H v e) (k : TK H H') : IsFare H' v e := let ⟨a, e, h⟩ := h; ⟨a, e, k _ _ h⟩
theorem fare_tk {H H' : Hp} {xs : List V} {l : List (Nat × Nat × Int)} (h : Paired (IsFare H) xs l) (k : TK H H') : Paired (IsFare H') xs l := pTk (fun _ _ _ _ h k => h.tk k) h k
theorem fares_len (f : Fl) : ∀ D : List (Nat × Nat), (Co.fares D f).length = 2 * D.length
  | [] => rfl
  | d :: r => by
    show ((d :: r).flatMap (fareOf f)).length = _
    rw [List.flatMap_cons, List.length_append, List.length_cons]
    have := fares_len f r
    unfold Co.fares at this
    rw [this]
    show 2 + _ = _
    omega
section
variable {P : Program} {w : World} {K : PySem.W.Frag} {mg : Str → Option Value} {base : Heap} {C : Addr}
theorem sc_Web_fares : FnScope ["self", "found", "one", "other", "many"] ["self"] (defScope (inClass (top 37) 1)) := ⟨rfl, rfl, rfl, by decide +kernel, rfl, by decide +kernel, by decide +kernel⟩
def spFares (C : Addr) : SpV := fun vs H Q => ∃ a c dx pl cn dd ff kvs fl, vs = [.ref a] ∧ c.Good ∧ WebAt C c H a dx pl cn dd ff kvs fl ∧ RetL IsFare (Co.fares ((webDoors c).map (·.1)) fl) H Q
theorem g_Web_fares (T : Txt K mg) (W : Wb K mg C) : GM P w K mg base 1 C "fares" (spFares C) := by
  refine gm_of 0 W.d_fares sc_Web_fares (by rintro vs H Q ⟨a, c, dx, pl, cn, dd, ff, kvs, fl, rfl, _⟩; rfl) (fun _ _ _ _ _ _ us hl => match us, hl with | [_], _ => rfl) ?_
  rintro f cdv A outer s0 H vs Q E hr ⟨a, c, dx, pl, cn, dd, ff, kvs, fl, rfl, g, hw, q⟩
  have nd := sc_Web_fares.nd
  have hu := ru1 hr
  have hdl := doors_len g
  refine ⟨_, (pss_cons (ps_set (i := 1) nd rfl (by first | exact Or.inl rfl | exact Or.inr rfl) (pe_lst pa_nil))
      (pss_cons (ps_lock (ps_for PassesOwn.never rfl (pi_keys (peF K (pv 0) rfl)) (pgT K (n := 2) rfl (pgs_cons (pg_name (i := 2) nd rfl (by first | exact Or.inl rfl | exact Or.inr rfl)) (pgs_cons (pg_name (i := 3) nd rfl (by first | exact Or.inl rfl | exact Or.inr rfl)) pgs_nil))) (pss_cons (ps_set (i := 4) nd rfl (by first | exact Or.inl rfl | exact Or.inr rfl) (pe_dget hu (peF K (pv 0) rfl) (pe_tup (pa_cons (pv 2) (pa_cons (pv 3) pa_nil))) (fun _ _ => rfl)))
      (pss_cons (ps_expr (pe_bm PySem.F.plainAttrs_list PySem.F.slot_list_append PySem.F.type_list_append mt_append (pv 1) (pa_cons (pe_tup (pa_cons (pv 2) (pa_cons (pv 3) (pa_cons (pe_ifExp (pt_cmpR op_ge (pv 4) pe_int (nomark _)) pe_int (pe_un un_neg pe_int)) pa_nil)))) pa_nil)))
      (pss_one (ps_expr (pe_bm PySem.F.plainAttrs_list PySem.F.slot_list_append PySem.F.type_list_append mt_append (pv 1) (pa_cons (pe_tup (pa_cons (pv 3) (pa_cons (pv 2) (pa_cons (pe_ifExp (pt_cmpR op_le (pv 4) pe_int (nomark _)) pe_int (pe_un un_neg pe_int)) pa_nil)))) pa_nil))))))))
      (pss_one (ps_ret (pv 1))))), ?_⟩
  refine ⟨(by show 0 ≤ sizeLine; decide), fun D hD => ?_⟩
  have sD := same_new hD (.lst [])
  have nDd : D ≠ dd := fun z => by rw [z, hw.doors] at hD; cases hD
  refine ⟨dd, _, sD _ _ hw.doors, True.intro, fun od => ?_⟩
  have naD : a ≠ dd := ne_of hw.obj hw.doors fun z => nomatch z
  have nfd := hw.apart
  refine ⟨_, rfl, a, C, dx, _, _, rfl, by rw [upd_ne naD]; exact sD _ _ hw.obj, W.cls, W.n_doors, rfl, dd, od, rfl, .inr ⟨_, upd_same, ?_⟩⟩
  have hkl : kvs.length = (webDoors c).length := pLen hw.dv
  refine for_it walk_keysT (fun i σ H' => ∃ o2 o3 o4, σ = [some (.ref a), some (.ref D), o2, o3, o4] ∧ KeepB [dd] H H' ∧ H' dd = some (.frz od (.dT kvs)) ∧ ∃ ys, H' D = some (.lst ys) ∧ Paired (IsFare H') ys (Co.fares (((webDoors c).map (·.1)).take i) fl))
    ⟨none, none, none, rfl, (KeepB.of_same sD).trans (.put (by simp) _), upd_same, [], by rw [upd_ne nDd]; exact upd_same, .nil⟩ (fun i σ H' _ h => by obtain ⟨_, _, _, _, _, h, _⟩ := h; exact h) ?_ ?_
  · rintro i x σ H1' H1 hi ⟨o2, o3, o4, rfl, k1, hdd1, ys, hD1, hys⟩ ⟨rfl, kk, vv, qa, hkv, rfl, hqa⟩
    obtain ⟨⟨dr, sd⟩, hdr, hk, _⟩ := paired_get hw.dv hkv
    have hk : kk = dk dr := hk
    subst hk
    have hdr' : ((webDoors c).map (·.1))[i]? = some dr := by rw [List.getElem?_map, hdr]; rfl
    have hin : dr ∈ (webDoors c).map (·.1) := List.mem_of_getElem? hdr'
    have hyl : ys.length ≤ 2 * i := by
      rw [pLen hys, fares_len]
      have : (((webDoors c).map (·.1)).take i).length ≤ i := by rw [List.length_take]; exact Nat.min_le_left _ _
      omega
    have hqa : IsNp H1 qa dr := hqa
    have ha1 := k1 _ _ (by simpa using naD) hw.obj
    have hf1 := k1 _ _ (by simpa using nfd) hw.flow
    refine ⟨qa, _, rfl, SqT.of hqa, rfl, _, _, rfl, _, _, rfl, rfl, ?_⟩
    refine ⟨_, rfl, a, C, dx, _, _, rfl, ha1, W.cls, W.n_flow, rfl, _, rfl, _, rfl, (by show 2 ≤ sizeLine; decide), fun p np => ?_⟩
    have u1 := same_new np (.tup [.int (dr.1 : Nat), .int (dr.2 : Nat)])
    refine ⟨ff, .int (fl dr), rfl, getd_in (.inl (u1 _ _ hf1)) upd_same hin, ?_⟩
    have hD2 := u1 _ _ hD1
    rw [take_snoc hdr']
    have eF : Co.fares (((webDoors c).map (·.1)).take i ++ [dr]) fl = Co.fares (((webDoors c).map (·.1)).take i) fl ++ fareOf fl dr := by unfold Co.fares; rw [List.flatMap_append]; simp
    rw [eF]
    have go : ∀ (c1 c2 : Int), fareOf fl dr = [(dr.1, dr.2, c1), (dr.2, dr.1, c2)] → ∀ t nt, t ≠ D → (upd H1 p (.tup [.int (dr.1 : Nat), .int (dr.2 : Nat)])) t = none → nt = (upd (upd (upd H1 p (.tup [.int (dr.1 : Nat), .int (dr.2 : Nat)])) t (.tup [.int (dr.1 : Nat), .int (dr.2 : Nat), .int c1])) D (.lst (ys ++ [.ref t]))) →
        ∀ t2, t2 ≠ D → nt t2 = none → KeepB [dd] H (upd (upd nt t2 (.tup [.int (dr.2 : Nat), .int (dr.1 : Nat), .int c2])) D (.lst (ys ++ [.ref t] ++ [.ref t2]))) ∧ (upd (upd nt t2 (.tup [.int (dr.2 : Nat), .int (dr.1 : Nat), .int c2])) D (.lst (ys ++ [.ref t] ++ [.ref t2]))) dd = some (.frz od (.dT kvs)) ∧
          Paired (IsFare (upd (upd nt t2 (.tup [.int (dr.2 : Nat), .int (dr.1 : Nat), .int c2])) D (.lst (ys ++ [.ref t] ++ [.ref t2])))) (ys ++ [.ref t] ++ [.ref t2]) (Co.fares (((webDoors c).map (·.1)).take i) fl ++ fareOf fl dr) := by
      intro c1 c2 ec t nt hne ht0 ent t2 hne2 ht20
      have v1 := same_new ht0 (.tup [.int (dr.1 : Nat), .int (dr.2 : Nat), .int c1])
      have hDa := v1 _ _ hD2
      have v2 : TK (upd (upd H1 p (.tup [.int (dr.1 : Nat), .int (dr.2 : Nat)])) t (.tup [.int (dr.1 : Nat), .int (dr.2 : Nat), .int c1])) nt := by rw [ent]; exact TK.put hDa fun xs z => by cases z
      have hDb : nt D = some (.lst (ys ++ [.ref t])) := by rw [ent]; exact upd_same
      have v3 := same_new ht20 (.tup [.int (dr.2 : Nat), .int (dr.1 : Nat), .int c2])
      have hDc := v3 _ _ hDb
      have v4 : TK (upd nt t2 (.tup [.int (dr.2 : Nat), .int (dr.1 : Nat), .int c2])) (upd (upd nt t2 (.tup [.int (dr.2 : Nat), .int (dr.1 : Nat), .int c2])) D (.lst (ys ++ [.ref t] ++ [.ref t2]))) := TK.put hDc fun xs z => by cases z
      have all : TK H1 _ := (((TK.of_same u1).trans (.of_same v1)).trans v2).trans ((TK.of_same v3).trans v4)
      have kt : ∀ b o, b ≠ D → H1 b = some o → (upd (upd nt t2 (.tup [.int (dr.2 : Nat), .int (dr.1 : Nat), .int c2])) D (.lst (ys ++ [.ref t] ++ [.ref t2]))) b = some o := fun b o hb e => by
        rw [upd_ne hb]
        refine v3 _ _ ?_
        rw [ent, upd_ne hb]
        exact v1 _ _ (u1 _ _ e)
      refine ⟨fun b o hb e => ?_, kt _ _ (Ne.symm nDd) hdd1, ?_⟩
      · have hbD : b ≠ D := fun z => by rw [z, hD] at e; cases e
        exact kt b o hbD (k1 b o hb e)
      · rw [ec, show Co.fares (((webDoors c).map (·.1)).take i) fl ++ [(dr.1, dr.2, c1), (dr.2, dr.1, c2)] = Co.fares (((webDoors c).map (·.1)).take i) fl ++ [(dr.1, dr.2, c1)] ++ [(dr.2, dr.1, c2)] from by simp]
        refine .snoc (.snoc (fare_tk hys all) ⟨t, rfl, ?_⟩) ⟨t2, rfl, ?_⟩
        · exact v4 _ _ (v3 _ _ (v2 _ _ upd_same))
        · exact v4 _ _ upd_same
    have nn : ∀ {t : Addr} {H' : Hp}, H' t = none → H' D ≠ none → t ≠ D := fun h1 h2 e => h2 (e ▸ h1)
    have fin : ∀ (c1 c2 : Int), fareOf fl dr = [(dr.1, dr.2, c1), (dr.2, dr.1, c2)] → True := fun _ _ _ => trivial
    refine ⟨_, rfl, .inl ⟨rfl, _, SqL.of hD2⟩, _, rfl, _, rfl, ?_⟩
    by_cases h1 : 0 ≤ fl dr
    · refine ⟨_, rfl, _, _, rfl, rfl, _, rfl, iteD h1 ⟨(by show 3 ≤ sizeLine; decide), fun t nt => ⟨D, ys, _, rfl, rfl, at_new hD2 nt, small99 (by omega), ?_⟩⟩⟩
      refine ⟨_, rfl, .inl ⟨rfl, _, SqL.of upd_same⟩, _, rfl, _, rfl, ?_⟩
      by_cases h2 : fl dr ≤ 0
      · refine ⟨_, rfl, _, _, rfl, rfl, _, rfl, iteD h2 ⟨(by show 3 ≤ sizeLine; decide), fun t2 nt2 => ⟨D, _, _, rfl, rfl, at_new upd_same nt2, small99 (by rw [List.length_append, List.length_singleton]; omega), ?_⟩⟩⟩
        obtain ⟨g1, g2, g3⟩ := go 1 1 (by unfold fareOf; rw [if_pos h1, if_pos h2]) t _ (nn nt (by rw [hD2]; exact fun z => nomatch z)) nt rfl t2 (nn nt2 (by rw [upd_same]; exact fun z => nomatch z)) nt2
        exact ⟨_, _, _, rfl, g1, g2, _, upd_same, g3⟩
      · refine ⟨_, rfl, _, _, rfl, rfl, _, rfl, iteN h2 ⟨_, rfl, (by show 3 ≤ sizeLine; decide), fun t2 nt2 => ⟨D, _, _, rfl, rfl, at_new upd_same nt2, small99 (by rw [List.length_append, List.length_singleton]; omega), ?_⟩⟩⟩
        obtain ⟨g1, g2, g3⟩ := go 1 (-1) (by unfold fareOf; rw [if_pos h1, if_neg h2]) t _ (nn nt (by rw [hD2]; exact fun z => nomatch z)) nt rfl t2 (nn nt2 (by rw [upd_same]; exact fun z => nomatch z)) nt2
        exact ⟨_, _, _, rfl, g1, g2, _, upd_same, g3⟩
    · have h2 : fl dr ≤ 0 := by omega
      refine ⟨_, rfl, _, _, rfl, rfl, _, rfl, iteN h1 ⟨_, rfl, (by show 3 ≤ sizeLine; decide), fun t nt => ⟨D, ys, _, rfl, rfl, at_new hD2 nt, small99 (by omega), ?_⟩⟩⟩
      refine ⟨_, rfl, .inl ⟨rfl, _, SqL.of upd_same⟩, _, rfl, _, rfl, ?_⟩
      refine ⟨_, rfl, _, _, rfl, rfl, _, rfl, iteD h2 ⟨(by show 3 ≤ sizeLine; decide), fun t2 nt2 => ⟨D, _, _, rfl, rfl, at_new upd_same nt2, small99 (by rw [List.length_append, List.length_singleton]; omega), ?_⟩⟩⟩
      obtain ⟨g1, g2, g3⟩ := go (-1) 1 (by unfold fareOf; rw [if_neg h1, if_pos h2]) t _ (nn nt (by rw [hD2]; exact fun z => nomatch z)) nt rfl t2 (nn nt2 (by rw [upd_same]; exact fun z => nomatch z)) nt2
      exact ⟨_, _, _, rfl, g1, g2, _, upd_same, g3⟩
  · rintro σ H1 ⟨o2, o3, o4, rfl, k1, hdd1, ys, hD1, hys⟩
    rw [List.take_of_length_le (by rw [hkl, List.length_map]; exact Nat.le_refl _)] at hys
    refine ⟨hdd1, ?_⟩
    have k2 : TK H1 (upd H1 dd (.dT kvs)) := TK.put hdd1 fun xs z => by cases z
    exact ⟨_, rfl, q _ D ys (unlock_same k1 hw.doors) hD (by rw [upd_ne nDd]; exact hD1) (fare_tk hys k2)⟩
end
end Wk

set_option maxRecDepth 100000
set_option maxHeartbeats 4000000
namespace Wk
open PySem PySem.Spec PyProof.Rows L2 Co
def CmI (N : List Nat) (ks : List Nat) (f : Nat → V) (m : Nat → Option Nat) : Prop := ks.Nodup ∧ (∀ s ∈ ks, s ∈ N) ∧ ∀ s, (s ∈ ks → ∃ u, m s = some u ∧ f s = .int (u : Nat)) ∧ (s ∉ ks → m s = none)
def FarI (N : List Nat) (ks : List Nat) (f : Nat → V) (far : Nat → Option Int) : Prop := ks.Nodup ∧ (∀ s ∈ ks, s ∈ N) ∧ ∀ s, (s ∈ ks → ∃ z : Int, far s = some z ∧ f s = .int z) ∧ (s ∉ ks → far s = none)
theorem CmI.put {N ks : List Nat} {f : Nat → V} {m : Nat → Option Nat} (h : CmI N ks f m) {s u : Nat} (hs : s ∈ N) : CmI N (insK ks s) (updF f s (.int (u : Nat))) fun x => if x = s then some u else m x := by
  refine ⟨nodup_insK h.1, fun x hx => ?_, fun x => ⟨fun hx => ?_, fun hx => ?_⟩⟩
  · rcases mem_insK.mp hx with a | a
    · exact h.2.1 x a
    · exact a ▸ hs
  · by_cases e : x = s
    · exact ⟨u, by simp [e], by unfold updF; rw [if_pos e]⟩
    · rcases mem_insK.mp hx with a | a
      · obtain ⟨u', a1, a3⟩ := (h.2.2 x).1 a
        exact ⟨u', by simp [e, a1], by unfold updF; rw [if_neg e]; exact a3⟩
      · exact absurd a e
  · have e : x ≠ s := fun e => hx (mem_insK.mpr (.inr e))
    simp only [e, if_false]
    exact (h.2.2 x).2 fun a => hx (mem_insK.mpr (.inl a))
theorem FarI.put {N ks : List Nat} {f : Nat → V} {m : Nat → Option Int} (h : FarI N ks f m) {s : Nat} {u : Int} (hs : s ∈ N) : FarI N (insK ks s) (updF f s (.int u)) fun x => if x = s then some u else m x := by
  refine ⟨nodup_insK h.1, fun x hx => ?_, fun x => ⟨fun hx => ?_, fun hx => ?_⟩⟩
  · rcases mem_insK.mp hx with a | a
    · exact h.2.1 x a
    · exact a ▸ hs
  · by_cases e : x = s
    · exact ⟨u, by simp [e], by unfold updF; rw [if_pos e]⟩
    · rcases mem_insK.mp hx with a | a
      · obtain ⟨u', a1, a3⟩ := (h.2.2 x).1 a
        exact ⟨u', by simp [e, a1], by unfold updF; rw [if_neg e]; exact a3⟩
      · exact absurd a e
  · have e : x ≠ s := fun e => hx (mem_insK.mpr (.inr e))
    simp only [e, if_false]
    exact (h.2.2 x).2 fun a => hx (mem_insK.mpr (.inl a))
theorem sub_range {n : Nat} {ks : List Nat} (h : ks.Nodup) (s : ∀ x ∈ ks, x ∈ List.range (n + 1)) : ks.length ≤ n + 1 := by
  have := h.length_le_of_subset s
  rwa [List.length_range] at this
section
variable {P : Program} {w : World} {K : PySem.W.Frag} {mg : Str → Option Value} {base : Heap} {C : Addr}
theorem sc_Web_reach : FnScope ["self", "start", "far", "came", "fares", "moved", "turn", "one", "other", "fare"] ["self", "start"] (defScope (inClass (top 37) 2)) := ⟨rfl, rfl, rfl, by decide +kernel, rfl, by decide +kernel, by decide +kernel⟩
def spReach (C : Addr) : SpV := fun vs H Q => ∃ a c dx pl cn dd ff kvs fl, ∃ s : Nat, vs = [.ref a, .int (s : Nat)] ∧ c.Good ∧ WebAt C c H a dx pl cn dd ff kvs fl ∧ s ≤ (countsM c).length ∧
  ∀ H' t x cm ks f, Same H H' → H' t = some (.tup [x, .ref cm]) → H' cm = some (.dK (kv ik ks f)) → CmI (List.range ((countsM c).length + 1)) ks f (reachM ((webDoors c).map (·.1)) fl (countsM c).length s).came → Q (.ref t) H'
theorem g_Web_reach (T : Txt K mg) (W : Wb K mg C) : GM P w K mg base 2 C "reach" (spReach C) := by
  refine gm_of 1 W.d_reach sc_Web_reach (by rintro vs H Q ⟨a, c, dx, pl, cn, dd, ff, kvs, fl, s, rfl, _⟩; rfl) (fun _ _ _ _ _ _ us hl => match us, hl with | [_, _], _ => rfl) ?_
  rintro f0 cdv A outer s0 H vs Q E hr ⟨a, c, dx, pl, cn, dd, ff, kvs, fl, s, rfl, g, hw, hsn, q⟩
  have nd := sc_Web_reach.nd
  have hu := ru1 hr
  have hcl := countsLen g
  have hfit := web_fit c
  refine ⟨_, (pss_cons (ps_set (i := 2) nd rfl (by first | exact Or.inl rfl | exact Or.inr rfl) (pe_disp (pps_cons (pv 1) pe_int pps_nil) (by rfl) (by rfl) (by intro e; cases e) (by show 1 ≤ 15; decide)))
      (pss_cons (ps_set (i := 3) nd rfl (by first | exact Or.inl rfl | exact Or.inr rfl) pe_dnewK)
      (pss_cons (ps_set (i := 4) nd rfl (by first | exact Or.inl rfl | exact Or.inr rfl) (pe_methG0 (g_Web_fares T W) W.cls hr (pv 0)))
      (pss_cons (ps_set (i := 5) nd rfl (by first | exact Or.inl rfl | exact Or.inr rfl) pe_bl)
      (pss_cons (ps_for PassesOwn.never rfl (pi_range1 rfl T.n_range (pa_cons (pe_op op_add (peF K (pv 0) rfl) pe_int) pa_nil)) (pg_name (i := 6) nd rfl (by first | exact Or.inl rfl | exact Or.inr rfl)) (pss_cons (ps_if (pt_not (pt_val (pv 5))) (pss_one ps_break) pss_nil)
      (pss_cons (ps_set (i := 5) nd rfl (by first | exact Or.inl rfl | exact Or.inr rfl) pe_bl)
      (pss_one (ps_for PassesOwn.never rfl (piL K (pv 4)) (pgT K (n := 3) rfl (pgs_cons (pg_name (i := 7) nd rfl (by first | exact Or.inl rfl | exact Or.inr rfl)) (pgs_cons (pg_name (i := 8) nd rfl (by first | exact Or.inl rfl | exact Or.inr rfl)) (pgs_cons (pg_name (i := 9) nd rfl (by first | exact Or.inl rfl | exact Or.inr rfl)) pgs_nil)))) (pss_one (ps_if (PW.pt (pw_and (pt_cmp (pc_din hu (pv 7) (pv 2)) (by with_unfolding_all rfl)) (pw_and1 (PW.pt (pw_or (pt_cmp (pc_dnotin hu (pv 8) (pv 2)) (by with_unfolding_all rfl)) (pw_or1 (pt_cmpR op_lt (pe_op op_add (pe_dget hu (pv 2) (pv 7) (fun _ _ => rfl)) (pv 9)) (pe_dget hu (pv 2) (pv 8) (fun _ _ => rfl)) (nomark _)))))))) (pss_cons (ps_dput hu (pv 2) (pv 8) (pe_op op_add (pe_dget hu (pv 2) (pv 7) (fun _ _ => rfl)) (pv 9)) rfl)
      (pss_cons (ps_dput hu (pv 3) (pv 8) (pv 7) rfl)
      (pss_one (ps_set (i := 5) nd rfl (by first | exact Or.inl rfl | exact Or.inr rfl) pe_bl)))) pss_nil)))))))
      (pss_one (ps_ret (pe_tup (pa_cons (pv 2) (pa_cons (pv 3) pa_nil)))))))))), ?_⟩
  intro D hD
  refine ⟨_, rfl, upd_same, [(ik s, .int 0)], rfl, (by show 1 ≤ 15; decide), ?_⟩
  rw [upd_upd]
  intro Cm hCm
  obtain ⟨nCD, hC0⟩ := upn hCm
  have sA : Same H (upd (upd H D (.dK (mergeK [] [(ik s, .int 0)]))) Cm (.dK [])) := sapp (same_new hD _) hC0 _
  refine ⟨_, rfl, a, dx, _, rfl, (hw.same sA).obj, rfl, a, c, dx, pl, cn, dd, ff, kvs, fl, rfl, g, hw.same sA, fun H1 R rs s1 R0 hR hrs => ?_⟩
  have s1H := sA.trans s1
  have hD1 : H1 D = some (.dK (kv ik [s] fun _ => .int 0)) := s1 _ _ (by rw [upd_ne (Ne.symm nCD)]; exact upd_same)
  have hC1 : H1 Cm = some (.dK (kv ik [] fun _ => .int 0)) := s1 _ _ upd_same
  have nRD : R ≠ D := fun z => by rw [z, upd_ne (Ne.symm nCD), upd_same] at R0; cases R0
  have nRC : R ≠ Cm := fun z => by rw [z, upd_same] at R0; cases R0
  refine ⟨_, rfl, a, C, dx, _, _, rfl, (hw.same s1H).obj, W.cls, W.n_outside, rfl, _, _, rfl, rfl, _, rfl, by omega, by omega, ?_⟩
  have hm : (((countsM c).length : Int) + 1).toNat = (countsM c).length + 1 := by omega
  rw [hm]
  generalize hn : (countsM c).length = n at *
  generalize hDs : (webDoors c).map (·.1) = Ds at *
  have fin := fares_in hfit fl
  refine for_range (lo := 0) (n := n + 1) (fun i σ H' => ∃ mv o6 o7 o8 o9 fk ff' ck cf st, σ = [some (.ref a), some (.int (s : Nat)), some (.ref D), some (.ref Cm), some (.ref R), some (.bl mv), o6, o7, o8, o9] ∧ Same H H' ∧ H' R = some (.lst rs) ∧ Paired (IsFare H') rs (Co.fares Ds fl) ∧
      H' D = some (.dK (kv ik fk ff')) ∧ H' Cm = some (.dK (kv ik ck cf)) ∧ FarI (List.range (n + 1)) fk ff' st.far ∧ CmI (List.range (n + 1)) ck cf st.came ∧ (mv = true → bf (Co.fares Ds fl) (n + 1 - i) st = reachM Ds fl n s) ∧ (mv = false → st = reachM Ds fl n s))
    ⟨true, none, none, none, none, [s], fun _ => .int 0, [], fun _ => .int 0, bs0 (farAt s), rfl, s1H, hR, hrs, hD1, hC1,
      ⟨by simp, fun x hx => by rw [List.mem_singleton.mp hx]; exact List.mem_range.mpr (by omega), fun x => ⟨fun hx => ⟨0, by rw [List.mem_singleton.mp hx]; exact if_pos rfl, rfl⟩, fun hx => if_neg fun z => hx (List.mem_singleton.mpr z)⟩⟩,
      ⟨List.nodup_nil, fun _ h => absurd h (by simp), fun x => ⟨fun h => absurd h (by simp), fun _ => rfl⟩⟩, fun _ => rfl, fun z => absurd z (by decide)⟩ ?_ ?_
  · rintro i σ H2 hi ⟨mv, o6, o7, o8, o9, fk, ff', ck, cf, st, rfl, s2, hR2, hrs2, hD2, hC2, hfar, hcm, hb1, hb2⟩
    refine ⟨_, rfl, _, rfl, ?_⟩
    cases mv with
    | false =>
      refine iteT ?_
      have := hb2 rfl
      subst this
      exact ⟨_, rfl, _, rfl, (by show 2 ≤ sizeLine; decide), fun t nt => q _ t _ Cm ck cf (s2.trans (same_new nt _)) upd_same (at_new hC2 nt) hcm⟩
    | true =>
      refine iteF ?_
      obtain ⟨m, hm'⟩ : ∃ m, n + 1 - i = m + 1 := ⟨n - i, by omega⟩
      have hb := hb1 rfl
      rw [hm'] at hb
      refine ⟨_, rfl, R, rfl, ⟨_, SqL.of hR2⟩, ?_⟩
      refine for_list (K := K) (a := R) (xs := rs) (fun j σ H' => ∃ o7 o8 o9 fk ff' ck cf, σ = [some (.ref a), some (.int (s : Nat)), some (.ref D), some (.ref Cm), some (.ref R), some (.bl ((((Co.fares Ds fl).take j).foldl relax { st with last := none }).last.isSome)), some (.int (0 + (i : Int))), o7, o8, o9] ∧ Same H H' ∧ H' R = some (.lst rs) ∧ Paired (IsFare H') rs (Co.fares Ds fl) ∧
          H' D = some (.dK (kv ik fk ff')) ∧ H' Cm = some (.dK (kv ik ck cf)) ∧ FarI (List.range (n + 1)) fk ff' (((Co.fares Ds fl).take j).foldl relax { st with last := none }).far ∧ CmI (List.range (n + 1)) ck cf (((Co.fares Ds fl).take j).foldl relax { st with last := none }).came)
        ⟨o7, o8, o9, fk, ff', ck, cf, rfl, s2, hR2, hrs2, hD2, hC2, hfar, hcm⟩ (fun j σ H' _ h => by obtain ⟨_, _, _, _, _, _, _, _, _, h, _⟩ := h; exact SqL.of h) ?_ ?_
      · rintro j x σ H3 hx ⟨o7, o8, o9, fk, ff', ck, cf, rfl, s3, hR3, hrs3, hD3, hC3, hfar, hcm⟩
        obtain ⟨e, he, xa, rfl, hxa⟩ := paired_get hrs3 hx
        obtain ⟨in1, in2⟩ := fin e (List.mem_of_getElem? he)
        rw [foldl_take _ _ he]
        generalize ((Co.fares Ds fl).take j).foldl relax { st with last := none } = sj at *
        have fkl := sub_range hfar.1 hfar.2.1
        have ckl := sub_range hcm.1 hcm.2.1
        refine ⟨xa, _, rfl, SqT.of hxa, rfl, _, _, rfl, _, _, rfl, _, _, rfl, rfl, ?_⟩
        have stay : relax sj e = sj → ∃ o7 o8 o9 fk ff' ck cf, ([some (.ref a), some (.int (s : Nat)), some (.ref D), some (.ref Cm), some (.ref R), some (.bl sj.last.isSome), some (.int (0 + (i : Int))), some (.int (e.1 : Nat)), some (.int (e.2.1 : Nat)), some (.int e.2.2)] : L2.St) = [some (.ref a), some (.int (s : Nat)), some (.ref D), some (.ref Cm), some (.ref R), some (.bl (relax sj e).last.isSome), some (.int (0 + (i : Int))), o7, o8, o9] ∧ Same H H3 ∧ H3 R = some (.lst rs) ∧ Paired (IsFare H3) rs (Co.fares Ds fl) ∧
            H3 D = some (.dK (kv ik fk ff')) ∧ H3 Cm = some (.dK (kv ik ck cf)) ∧ FarI (List.range (n + 1)) fk ff' (relax sj e).far ∧ CmI (List.range (n + 1)) ck cf (relax sj e).came := fun er => by
          rw [er]; exact ⟨_, _, _, fk, ff', ck, cf, rfl, s3, hR3, hrs3, hD3, hC3, hfar, hcm⟩
        by_cases k1 : e.1 ∈ fk
        · obtain ⟨za, fa, va⟩ := (hfar.2.2 e.1).1 k1
          have g1 := geti_in (.inl hD3) k1
          rw [va] at g1
          have go : better sj.far e = true → sDPut (tVar 2) (tVar 8) (tOp (rI0 fun i j => .int (i + j)) (tDGet (tVar 2) (tVar 7)) (tVar 9)) ⟨fun _ _ => True, fun _ _ => True, fun _ _ => True, fun _ _ => True⟩ [] H3 → True := fun _ _ => trivial
          refine ⟨_, rfl, _, rfl, D, _, rfl, g1, _, rfl, iteT ?_⟩
          by_cases k2 : e.2.1 ∈ fk
          · obtain ⟨zb, fb, vb⟩ := (hfar.2.2 e.2.1).1 k2
            have g2 := geti_in (.inl hD3) k2
            rw [vb] at g2
            have hbet : better sj.far e = decide (za + e.2.2 < zb) := by unfold better; rw [fa, fb]
            refine ⟨_, rfl, _, rfl, D, _, rfl, g2, _, rfl, iteF ?_⟩
            refine ⟨_, rfl, _, rfl, D, _, rfl, g1, _, rfl, _, _, rfl, rfl, _, rfl, _, rfl, D, _, rfl, g2, _, _, rfl, rfl, _, rfl, ?_⟩
            by_cases hlt : za + e.2.2 < zb
            · refine iteD hlt ?_
              rw [decide_eq_true hlt] at hbet
              refine ⟨_, rfl, _, rfl, D, _, rfl, g1, _, rfl, _, _, rfl, rfl, _, rfl, _, rfl, D, _, rfl, puti hD3 (by omega), ?_⟩
              have hC4 : upd H3 D (.dK (kv ik (insK fk e.2.1) (updF ff' e.2.1 (.int (za + e.2.2))))) Cm = some (.dK (kv ik ck cf)) := by rw [upd_ne nCD]; exact hC3
              have kA : TK H3 (upd H3 D (.dK (kv ik (insK fk e.2.1) (updF ff' e.2.1 (.int (za + e.2.2)))))) := TK.put hD3 fun xs z => by cases z
              refine ⟨_, rfl, _, rfl, _, rfl, Cm, _, rfl, puti hC4 (by omega), ?_⟩
              have kB := kA.trans (TK.put (o := .dK (kv ik (insK ck e.2.1) (updF cf e.2.1 (.int (e.1 : Nat))))) hC4 fun xs z => by cases z)
              unfold relax
              rw [hbet, if_pos rfl]
              refine ⟨some (.int (e.1 : Nat)), some (.int (e.2.1 : Nat)), some (.int e.2.2), insK fk e.2.1, updF ff' e.2.1 (.int (za + e.2.2)), insK ck e.2.1, updF cf e.2.1 (.int (e.1 : Nat)), rfl, sapp (sapp s3 hD _) hC0 _, ?_, fare_tk hrs3 kB, ?_, upd_same, ?_, hcm.put in2⟩
              · rw [upd_ne nRC, upd_ne nRD]; exact hR3
              · rw [upd_ne (Ne.symm nCD)]; exact upd_same
              · rw [fa]; exact hfar.put in2
            · refine iteN hlt ?_
              rw [decide_eq_false hlt] at hbet
              exact stay (by unfold relax; rw [hbet, if_neg Bool.false_ne_true])
          · have hbet : better sj.far e = true := by unfold better; rw [fa, (hfar.2.2 e.2.1).2 k2]
            refine ⟨_, rfl, _, rfl, D, _, rfl, geti_out (.inl hD3) k2, _, rfl, iteT (iteT ?_)⟩
            refine ⟨_, rfl, _, rfl, D, _, rfl, g1, _, rfl, _, _, rfl, rfl, _, rfl, _, rfl, D, _, rfl, puti hD3 (by omega), ?_⟩
            have hC4 : upd H3 D (.dK (kv ik (insK fk e.2.1) (updF ff' e.2.1 (.int (za + e.2.2))))) Cm = some (.dK (kv ik ck cf)) := by rw [upd_ne nCD]; exact hC3
            have kA : TK H3 (upd H3 D (.dK (kv ik (insK fk e.2.1) (updF ff' e.2.1 (.int (za + e.2.2)))))) := TK.put hD3 fun xs z => by cases z
            refine ⟨_, rfl, _, rfl, _, rfl, Cm, _, rfl, puti hC4 (by omega), ?_⟩
            have kB := kA.trans (TK.put (o := .dK (kv ik (insK ck e.2.1) (updF cf e.2.1 (.int (e.1 : Nat))))) hC4 fun xs z => by cases z)
            unfold relax
            rw [hbet, if_pos rfl]
            refine ⟨some (.int (e.1 : Nat)), some (.int (e.2.1 : Nat)), some (.int e.2.2), insK fk e.2.1, updF ff' e.2.1 (.int (za + e.2.2)), insK ck e.2.1, updF cf e.2.1 (.int (e.1 : Nat)), rfl, sapp (sapp s3 hD _) hC0 _, ?_, fare_tk hrs3 kB, ?_, upd_same, ?_, hcm.put in2⟩
            · rw [upd_ne nRC, upd_ne nRD]; exact hR3
            · rw [upd_ne (Ne.symm nCD)]; exact upd_same
            · rw [fa]; exact hfar.put in2
        · refine ⟨_, rfl, _, rfl, D, _, rfl, geti_out (.inl hD3) k1, _, rfl, iteF (iteF ?_)⟩
          exact stay (by unfold relax better; rw [(hfar.2.2 e.1).2 k1]; rfl)
      · rintro σ H3 ⟨o7, o8, o9, fk, ff', ck, cf, rfl, s3, hR3, hrs3, hD3, hC3, hfar, hcm⟩
        rw [List.take_of_length_le (by rw [pLen hrs]; exact Nat.le_refl _)] at hfar hcm ⊢
        have er : (Co.fares Ds fl).foldl relax { st with last := none } = Co.round (Co.fares Ds fl) st := rfl
        rw [er] at hfar hcm ⊢
        have hb' : (if (Co.round (Co.fares Ds fl) st).last = none then Co.round (Co.fares Ds fl) st else bf (Co.fares Ds fl) m (Co.round (Co.fares Ds fl) st)) = reachM Ds fl n s := hb
        refine ⟨_, _, o7, o8, o9, fk, ff', ck, cf, Co.round (Co.fares Ds fl) st, rfl, s3, hR3, hrs3, hD3, hC3, hfar, hcm, fun z => ?_, fun z => ?_⟩
        · rw [if_neg (fun y => by rw [y] at z; cases z)] at hb'
          rw [show n + 1 - (i + 1) = m by omega]
          exact hb'
        · rw [if_pos (Option.isSome_eq_false_iff.mp z |> Option.isNone_iff_eq_none.mp)] at hb'
          exact hb'
  · rintro σ H2 ⟨mv, o6, o7, o8, o9, fk, ff', ck, cf, st, rfl, s2, hR2, hrs2, hD2, hC2, hfar, hcm, hb1, hb2⟩
    have : st = reachM Ds fl n s := by
      cases mv with
      | true => have := hb1 rfl; rw [Nat.sub_self] at this; exact this
      | false => exact hb2 rfl
    subst this
    exact ⟨_, rfl, _, rfl, (by show 2 ≤ sizeLine; decide), fun t nt => q _ t _ Cm ck cf (s2.trans (same_new nt _)) upd_same (at_new hC2 nt) hcm⟩
end
end Wk

set_option maxRecDepth 100000
set_option maxHeartbeats 4000000
namespace Wk
open PySem PySem.Spec PyProof.Rows L2 Co
section
variable {P : Program} {w : World} {K : PySem.W.Frag} {mg : Str → Option Value} {base : Heap} {C : Addr}
theorem sc_Web_move : FnScope ["self", "came", "start", "end", "here", "ahead"] ["self", "came", "start", "end"] (defScope (inClass (top 37) 3)) := ⟨rfl, rfl, rfl, by decide +kernel, rfl, by decide +kernel, by decide +kernel⟩
theorem ite_ne_F {x y : V} {A B : Prop} (h : x = y) (b : B) : if (!decide (x = y)) = true then A else B := by rw [decide_eq_true h]; exact iteF b
theorem ite_ne_T {x y : V} {A B : Prop} (h : x ≠ y) (a : A) : if (!decide (x = y)) = true then A else B := by rw [decide_eq_false h]; exact iteT a
def spMove (C : Addr) : SpV := fun vs H Q => ∃ a c dx pl cn dd ff kvs fl cm ks f m F l, ∃ s e : Nat, vs = [.ref a, .ref cm, .int (s : Nat), .int (e : Nat)] ∧ c.Good ∧ WebAt C c H a dx pl cn dd ff kvs fl ∧ H cm = some (.dK (kv ik ks f)) ∧ CmI (List.range ((countsM c).length + 1)) ks f m ∧
  MoveOk ((webDoors c).map (·.1)) m F s e l fl ∧ l.length ≤ (countsM c).length + 1 ∧
  ∀ H', KeepB [ff] H H' → WebAt C c H' a dx pl cn dd ff kvs (moveM ((webDoors c).map (·.1)) m s ((countsM c).length + 2) e fl) → Q .non H'
theorem moveM_here {D : List (Nat × Nat)} {m : Nat → Option Nat} {s : Nat} {f : Fl} : ∀ k, moveM D m s k s f = f
  | 0 => rfl
  | k + 1 => by unfold moveM; rw [if_pos rfl]
theorem g_Web_move (T : Txt K mg) (W : Wb K mg C) : GM P w K mg base 1 C "move" (spMove C) := by
  refine gm_of 0 W.d_move sc_Web_move (by rintro vs H Q ⟨a, c, dx, pl, cn, dd, ff, kvs, fl, cm, ks, f, m, F, l, s, e, rfl, _⟩; rfl) (fun _ _ _ _ _ _ us hl => match us, hl with | [_, _, _, _], _ => rfl) ?_
  rintro f0 cdv A outer s0 H vs Q E hr ⟨a, c, dx, pl, cn, dd, ff, kvs, fl, cm, ks, f, m, F, l, s, e, rfl, g, hw, hcm, hci, hmo, hll, q⟩
  have nd := sc_Web_move.nd
  have hu := ru1 hr
  have hfit := web_fit c
  have hdl := doors_len g
  generalize hn : (countsM c).length = n at *
  refine ⟨_, (pss_cons (ps_set (i := 4) nd rfl (by first | exact Or.inl rfl | exact Or.inr rfl) (pv 3))
      (pss_one (ps_while PassesOwn.never (pt_cmpR op_ne (pv 4) (pv 2) (nomark _)) (pss_cons (ps_set (i := 5) nd rfl (by first | exact Or.inl rfl | exact Or.inr rfl) (pe_dget hu (pv 1) (pv 4) (fun _ _ => rfl)))
      (pss_cons (ps_if (pt_cmp (pc_din hu (pe_tup (pa_cons (pv 5) (pa_cons (pv 4) pa_nil))) (peF K (pv 0) rfl)) (by with_unfolding_all rfl)) (pss_one (ps_daug hu (peF K (pv 0) rfl) (pe_tup (pa_cons (pv 5) (pa_cons (pv 4) pa_nil))) pe_int in_add (fun _ _ _ => rfl))) (pss_one (ps_daug hu (peF K (pv 0) rfl) (pe_tup (pa_cons (pv 4) (pa_cons (pv 5) pa_nil))) pe_int in_sub (fun _ _ _ => rfl))))
      (pss_one (ps_set (i := 4) nd rfl (by first | exact Or.inl rfl | exact Or.inr rfl) (pv 5)))))))), ?_⟩
  refine ⟨_, rfl, ?_⟩
  refine ⟨fun k σ H' => ∃ here l' fl' o5, σ = [some (.ref a), some (.ref cm), some (.int (s : Nat)), some (.int (e : Nat)), some (.int (here : Nat)), o5] ∧ KeepB [ff] H H' ∧ WebAt C c H' a dx pl cn dd ff kvs fl' ∧ MoveOk ((webDoors c).map (·.1)) m F s here l' fl' ∧ l'.length ≤ k ∧
      moveM ((webDoors c).map (·.1)) m s k here fl' = moveM ((webDoors c).map (·.1)) m s (n + 2) e fl, ⟨n + 2, e, l, fl, none, rfl, .refl _ _, hw, hmo, by omega, rfl⟩, ?_⟩
  rintro k σ H1 ⟨here, l', fl', o5, rfl, k1, hw1, hmo1, hlk, hmv⟩
  refine ⟨_, rfl, _, rfl, rfl, _, rfl, ?_⟩
  by_cases he : here = s
  · subst he
    refine ite_ne_F rfl ?_
    rw [moveM_here] at hmv
    rw [hmv] at hw1
    exact q _ k1 hw1
  · refine ite_ne_T (fun z => he (by have := V.int.inj z; omega)) ?_
    obtain ⟨a', l2, hca, rfl, hdoor, hmo2⟩ := hmo1.step hfit he
    obtain ⟨k', rfl⟩ : ∃ k', k = k' + 1 := ⟨k - 1, by rw [List.length_cons] at hlk; omega⟩
    have hmv' : moveM ((webDoors c).map (·.1)) m s k' a' (pushM ((webDoors c).map (·.1)) fl' a' here) = moveM ((webDoors c).map (·.1)) m s (n + 2) e fl := by
      rw [← hmv]
      show _ = (if here = s then fl' else match m here with | none => fl' | some a => moveM _ m s k' a (pushM _ fl' a here))
      rw [if_neg he, hca]
    have ncf : cm ≠ ff := ne_of hcm hw.flow fun z => nomatch z
    have hcm1 := k1 _ _ (by simpa using ncf) hcm
    have hk : here ∈ ks := by
      apply Classical.byContradiction
      intro hn
      rw [(hci.2.2 here).2 hn] at hca
      cases hca
    obtain ⟨u, hu1, hfu⟩ := (hci.2.2 here).1 hk
    rw [hca] at hu1
    cases hu1
    have gc := geti_in (.inl hcm1) hk
    rw [hfu] at gc
    refine ⟨fun σ' H' => ∃ here l' fl' o5, σ' = [some (.ref a), some (.ref cm), some (.int (s : Nat)), some (.int (e : Nat)), some (.int (here : Nat)), o5] ∧ KeepB [ff] H H' ∧ WebAt C c H' a dx pl cn dd ff kvs fl' ∧ MoveOk ((webDoors c).map (·.1)) m F s here l' fl' ∧ l'.length ≤ k' ∧
      moveM ((webDoors c).map (·.1)) m s k' here fl' = moveM ((webDoors c).map (·.1)) m s (n + 2) e fl, fun σ' H' h => ⟨k', Nat.lt_succ_self _, h⟩, ?_⟩
    refine ⟨_, rfl, _, rfl, cm, _, rfl, gc, ?_⟩
    refine ⟨_, rfl, _, rfl, (by show 2 ≤ sizeLine; decide), fun p np => ?_⟩
    have u1 := same_new np (.tup [.int (a' : Nat), .int (here : Nat)])
    have hw2 := hw1.same u1
    refine ⟨_, rfl, a, C, dx, _, _, rfl, hw2.obj, W.cls, W.n_flow, rfl, ?_⟩
    have fin : ∀ (x : Nat × Nat) (z : Int) (p2 : Addr), (upd H1 p (.tup [.int (a' : Nat), .int (here : Nat)])) p2 = none → ∀ o, pushM ((webDoors c).map (·.1)) fl' a' here = (fun d => if d = x then z else fl' d) → z = z →
        ∃ here_1 l' fl'_1 o5, ([some (.ref a), some (.ref cm), some (.int (s : Nat)), some (.int (e : Nat)), some (.int (a' : Nat)), some (.int (a' : Nat))] : L2.St) = [some (.ref a), some (.ref cm), some (.int (s : Nat)), some (.int (e : Nat)), some (.int (here_1 : Nat)), o5] ∧ KeepB [ff] H (upd (upd (upd H1 p (.tup [.int (a' : Nat), .int (here : Nat)])) p2 (.tup o)) ff (.dT (kv dk ((webDoors c).map (·.1)) (updF (fun d => .int (fl' d)) x (.int z))))) ∧
          WebAt C c (upd (upd (upd H1 p (.tup [.int (a' : Nat), .int (here : Nat)])) p2 (.tup o)) ff (.dT (kv dk ((webDoors c).map (·.1)) (updF (fun d => .int (fl' d)) x (.int z))))) a dx pl cn dd ff kvs fl'_1 ∧ MoveOk ((webDoors c).map (·.1)) m F s here_1 l' fl'_1 ∧ l'.length ≤ k' ∧
          moveM ((webDoors c).map (·.1)) m s k' here_1 fl'_1 = moveM ((webDoors c).map (·.1)) m s (n + 2) e fl := by
      intro x z p2 np2 o hpush _
      have u2 := same_new np2 (.tup o)
      have hw3 := hw2.same u2
      refine ⟨a', l2, pushM ((webDoors c).map (·.1)) fl' a' here, _, rfl, ((k1.trans (.of_same u1)).trans (.of_same u2)).trans (.put (by simp) _), ?_, hmo2, by rw [List.length_cons] at hlk; omega, hmv'⟩
      have ek : kv dk ((webDoors c).map (·.1)) (updF (fun d => .int (fl' d)) x (.int z)) = flV ((webDoors c).map (·.1)) (pushM ((webDoors c).map (·.1)) fl' a' here) := kv_congr fun d _ => by
        rw [hpush]
        show (if d = x then V.int z else V.int (fl' d)) = V.int (if d = x then z else fl' d)
        by_cases hd : d = x
        · rw [if_pos hd, if_pos hd]
        · rw [if_neg hd, if_neg hd]
      rw [ek]
      exact hw3.put
    have np1 : IsNp (upd H1 p (.tup [.int (a' : Nat), .int (here : Nat)])) p (a', here) := upd_same
    by_cases hin : (a', here) ∈ (webDoors c).map (·.1)
    · refine ⟨ff, _, rfl, getd_in (.inl hw2.flow) np1 hin, _, rfl, iteT ?_⟩
      refine ⟨_, rfl, a, C, dx, _, _, rfl, hw2.obj, W.cls, W.n_flow, rfl, _, rfl, _, rfl, (by show 2 ≤ sizeLine; decide), fun p2 np2 => ?_⟩
      have hw3 := hw2.same (same_new np2 (.tup [.int (a' : Nat), .int (here : Nat)]))
      have np3 : IsNp (upd (upd H1 p (.tup [.int (a' : Nat), .int (here : Nat)])) p2 (.tup [.int (a' : Nat), .int (here : Nat)])) p2 (a', here) := upd_same
      refine ⟨ff, _, rfl, getd_in (.inl hw3.flow) np3 hin, _, _, rfl, rfl, _, putd hw3.flow np3 hin (by rw [List.length_map]; omega), _, rfl, ?_⟩
      exact fin (a', here) (fl' (a', here) + 1) p2 np2 _ (by
        unfold pushM
        rw [if_pos hin]
        funext d
        by_cases hd : d = (a', here)
        · rw [if_pos hd, if_pos hd, hd]
        · rw [if_neg hd, if_neg hd]) rfl
    · have hin2 : (here, a') ∈ (webDoors c).map (·.1) := hdoor.resolve_left hin
      refine ⟨ff, _, rfl, getd_out (.inl hw2.flow) np1 hin, _, rfl, iteF ?_⟩
      refine ⟨_, rfl, a, C, dx, _, _, rfl, hw2.obj, W.cls, W.n_flow, rfl, _, rfl, _, rfl, (by show 2 ≤ sizeLine; decide), fun p2 np2 => ?_⟩
      have hw3 := hw2.same (same_new np2 (.tup [.int (here : Nat), .int (a' : Nat)]))
      have np3 : IsNp (upd (upd H1 p (.tup [.int (a' : Nat), .int (here : Nat)])) p2 (.tup [.int (here : Nat), .int (a' : Nat)])) p2 (here, a') := upd_same
      refine ⟨ff, _, rfl, getd_in (.inl hw3.flow) np3 hin2, _, _, rfl, rfl, _, putd hw3.flow np3 hin2 (by rw [List.length_map]; omega), _, rfl, ?_⟩
      exact fin (here, a') (fl' (here, a') - 1) p2 np2 _ (by
        unfold pushM
        rw [if_neg hin]
        funext d
        by_cases hd : d = (here, a')
        · rw [if_pos hd, if_pos hd, hd]
        · rw [if_neg hd, if_neg hd]) rfl
end
end Wk

set_option maxRecDepth 100000
set_option maxHeartbeats 4000000
namespace Wk
open PySem PySem.Spec PyProof.Rows L2 Co
theorem first_in {p : Nat → Bool} {k : Nat} (hk : p k = true) (hj : ∀ j, j < k → p j = false) : ∀ n, k < n → ((List.range n).filter p)[0]? = some k
  | n + 1, h => by
    rw [List.range_succ, List.filter_append]
    by_cases e : k < n
    · have ih := first_in hk hj n e
      rw [List.getElem?_append_left (List.getElem?_eq_some_iff.mp ih).1]
      exact ih
    · have e2 : k = n := by omega
      subst e2
      have : (List.range k).filter p = [] := List.filter_eq_nil_iff.mpr fun x hx => by rw [hj x (List.mem_range.mp hx)]; exact Bool.false_ne_true
      rw [this]
      simp [hk]
def negs (rest : List Int) (i : Nat) : List Nat := (List.range i).filter fun k => decide (rest.getD k 0 < 0)
theorem negs_succ (rest : List Int) (i : Nat) : negs rest (i + 1) = negs rest i ++ (if rest.getD i 0 < 0 then [i] else []) := by
  unfold negs
  rw [List.range_succ, List.filter_append]
  congr 1
  by_cases h : rest.getD i 0 < 0
  · rw [if_pos h, List.filter_cons, if_pos (decide_eq_true h)]; rfl
  · rw [if_neg h, List.filter_cons, if_neg (by simpa using h)]; rfl
theorem negs_first {rest : List Int} (h1 : endOf rest < rest.length) (h2 : rest.getD (endOf rest) 0 < 0) : (negs rest rest.length)[0]? = some (endOf rest) := by
  refine first_in (decide_eq_true h2) (fun j hj => ?_) _ h1
  have := List.not_of_lt_findIdx hj
  have hjl : j < rest.length := by omega
  rw [getD_lt hjl]
  simpa using this
theorem map_set_int (l : List Int) (i : Nat) (x : Int) : (l.map V.int).set i (.int x) = (l.set i x).map V.int := by rw [List.map_set]
section
variable {P : Program} {w : World} {K : PySem.W.Frag} {mg : Str → Option Value} {base : Heap} {C : Addr}
theorem sc_Web_settle : FnScope ["self", "rest", "start", "came", "end", "at", "many"] ["self"] (defScope (inClass (top 37) 4)) := ⟨rfl, rfl, rfl, by decide +kernel, rfl, by decide +kernel, by decide +kernel⟩
def spSettle (C : Addr) : SpV := fun vs H Q => ∃ a c dx pl cn dd ff kvs, vs = [.ref a] ∧ c.Good ∧ WebAt C c H a dx pl cn dd ff kvs (fun _ => 0) ∧
  ∀ H', KeepB [ff] H H' → WebAt C c H' a dx pl cn dd ff kvs (flowM c) → Q .non H'
theorem g_Web_settle (T : Txt K mg) (W : Wb K mg C) : GM P w K mg base 3 C "settle" (spSettle C) := by
  refine gm_of 2 W.d_settle sc_Web_settle (by rintro vs H Q ⟨a, c, dx, pl, cn, dd, ff, kvs, rfl, _⟩; rfl) (fun _ _ _ _ _ _ us hl => match us, hl with | [_], _ => rfl) ?_
  rintro f0 cdv A outer s0 H vs Q E hr ⟨a, c, dx, pl, cn, dd, ff, kvs, rfl, g, hw, q⟩
  have nd := sc_Web_settle.nd
  have hu := ru1 hr
  have hfit := web_fit c
  have hcl := countsLen g
  have hflow : flowM c = (settleM ((webDoors c).map (·.1)) (countsM c).length (restOf (countsM c), fun _ => 0)).2 := rfl
  rw [hflow] at q
  refine ⟨_, (pss_cons (ps_set (i := 1) nd rfl (by first | exact Or.inl rfl | exact Or.inr rfl) (pe_op op_cat (peF K (pv 0) rfl) (pe_lst (pa_cons (pe_op op_sub pe_int (pe_callB (crSum K) (by rfl) T.n_sum (by decide +kernel) (pa_cons (peF K (pv 0) rfl) pa_nil))) pa_nil))))
      (pss_one (ps_for PassesOwn.never rfl (pi_range1 rfl T.n_range (pa_cons (pe_callB (crLen K) (by rfl) T.n_len (by decide +kernel) (pa_cons (pv 1) pa_nil)) pa_nil)) (pg_name (i := 2) nd rfl (by first | exact Or.inl rfl | exact Or.inr rfl)) (pss_one (ps_while PassesOwn.never (pt_cmpR op_gt (pe_ix (ixL K) (pv 1) (pv 2) (fun _ _ => rfl)) pe_int (nomark _)) (pss_cons (ps_set (i := 3) nd rfl (by first | exact Or.inl rfl | exact Or.inr rfl) (pe_ix (ixT K) (pe_methG (g_Web_reach T W) W.cls hr (pv 0) (pa_cons (pv 2) pa_nil)) pe_int (fun _ _ => rfl)))
      (pss_cons (ps_set (i := 4) nd rfl (by first | exact Or.inl rfl | exact Or.inr rfl) (pe_ix (ixL K) (pe_lc (own := [("at", 5), ("many", 6)]) rfl nd (pi_enum rfl T.n_enumerate (pa_cons (pv 1) pa_nil)) (blkOk_by (by kernel_rfl)) (fun _ _ _ _ _ => (pgT K (n := 2) rfl (pgs_cons (pg_name (i := 5) nd rfl (by first | exact Or.inl rfl | exact Or.inr rfl)) (pgs_cons (pg_name (i := 6) nd rfl (by first | exact Or.inl rfl | exact Or.inr rfl)) pgs_nil)))) (fun _ _ _ _ _ => (pts_one (pt_cmpR op_lt (pv 6) pe_int (nomark _)))) (fun _ _ _ _ _ => (pv 5))) pe_int (fun _ _ => rfl)))
      (pss_cons (ps_expr (pe_methG (g_Web_move T W) W.cls hr (pv 0) (pa_cons (pv 3) (pa_cons (pv 2) (pa_cons (pv 4) pa_nil)))))
      (pss_cons (ps_augS (pv 1) (pv 2) get_list pe_int ip_sub set_list)
      (pss_one (ps_augS (pv 1) (pv 4) get_list pe_int ip_add set_list))))))))))), ?_⟩
  refine ⟨_, rfl, a, C, dx, _, _, rfl, hw.obj, W.cls, W.n_counts, rfl, ?_⟩
  refine ⟨_, rfl, a, C, dx, _, _, rfl, hw.obj, W.cls, W.n_counts, rfl, cn, _, rfl, SqL.of hw.cnt, _, _, rfl, rfl, (by show 1 ≤ sizeLine; decide), fun p0 np0 => ?_⟩
  have hw1 := hw.same (same_new np0 (.lst [.int (0 - (countsM c).sum)]))
  refine ⟨cn, p0, _, _, rfl, rfl, hw1.cnt, upd_same, by rw [sizeLine_eq, List.length_map, List.length_singleton]; omega, fun R hR => ?_⟩
  have sR := (same_new np0 (.lst [.int (0 - (countsM c).sum)])).trans (same_new hR (.lst ((countsM c).map V.int ++ [.int (0 - (countsM c).sum)])))
  have hR0 : H R = none := (upn hR).2
  have eR : (countsM c).map V.int ++ [V.int (0 - (countsM c).sum)] = (restOf (countsM c)).map V.int := by unfold restOf; rw [List.map_append]; rfl
  rw [eR] at sR ⊢
  have hst := settle_start (D := (webDoors c).map (·.1)) (countsM c)
  generalize hn : (countsM c).length = n at *
  generalize hDs : (webDoors c).map (·.1) = Ds at *
  generalize restOf (countsM c) = r0 at *
  have hlr : (r0.map V.int).length = n + 1 := by rw [List.length_map, hst.len]
  refine ⟨_, rfl, R, _, rfl, .inl (SqL.of upd_same), _, rfl, by omega, by omega, ?_⟩
  rw [Int.toNat_natCast, hlr]
  refine for_range (lo := 0) (n := n + 1) (fun i σ H' => ∃ o2 o3 o4 o5 o6 rest fl, σ = [some (.ref a), some (.ref R), o2, o3, o4, o5, o6] ∧ KeepB [ff] H H' ∧ WebAt C c H' a dx pl cn dd ff kvs fl ∧ H' R = some (.lst (rest.map V.int)) ∧
      (List.range i).foldl (fun st s => settleAt Ds n s (st.1.getD s 0).toNat st) (r0, fun _ => 0) = (rest, fl))
    ⟨none, none, none, none, none, r0, fun _ => 0, rfl, .of_same sR, hw.same sR, upd_same, rfl⟩ ?_ ?_
  · rintro i σ H1 hi ⟨o2, o3, o4, o5, o6, rest, fl, rfl, k1, hw1, hR1, hfold⟩
    have inv := (settle_steps hfit (r0, fun _ => 0) hst i (by omega)).1
    rw [hfold] at inv
    rw [List.range_succ, List.foldl_append, List.foldl_cons, List.foldl_nil, hfold]
    have hin : i ≤ n := by omega
    refine ⟨fun k σ H' => ∃ o3 o4 o5 o6 rest' fl', σ = [some (.ref a), some (.ref R), some (.int (0 + (i : Int))), o3, o4, o5, o6] ∧ KeepB [ff] H H' ∧ WebAt C c H' a dx pl cn dd ff kvs fl' ∧ H' R = some (.lst (rest'.map V.int)) ∧ SInv Ds n r0 rest' fl' ∧ (rest'.getD i 0).toNat ≤ k ∧
        settleAt Ds n i k (rest', fl') = settleAt Ds n i (rest.getD i 0).toNat (rest, fl), ⟨(rest.getD i 0).toNat, o3, o4, o5, o6, rest, fl, rfl, k1, hw1, hR1, inv, Nat.le_refl _, rfl⟩, ?_⟩
    rintro k σ H2 ⟨o3, o4, o5, o6, rest', fl', rfl, k2, hw2, hR2, inv2, hk, hset⟩
    have hil : i < rest'.length := by rw [inv2.len]; omega
    have hat : atI (rest'.map V.int) (0 + (i : Int)) = some (.int (rest'.getD i 0)) := by
      rw [Int.zero_add]
      refine atI_nat ?_
      rw [List.getElem?_map, List.getElem?_eq_getElem hil, getD_lt hil]
      rfl
    refine ⟨_, rfl, _, rfl, R, _, _, _, rfl, rfl, SqL.of hR2, hat, _, _, rfl, rfl, _, rfl, ?_⟩
    by_cases hpos : 0 < rest'.getD i 0
    · refine iteD hpos ?_
      obtain ⟨k', rfl⟩ : ∃ k', k = k' + 1 := ⟨k - 1, by omega⟩
      obtain ⟨t1, t2, t3, t4, _⟩ := inv2.turn hfit hin hpos
      have hset' : settleAt Ds n i k' (turnM Ds n i (rest', fl')) = settleAt Ds n i (rest.getD i 0).toNat (rest, fl) := by
        rw [← hset]
        show _ = (if 0 < rest'.getD i 0 then settleAt Ds n i k' (turnM Ds n i (rest', fl')) else (rest', fl'))
        rw [if_pos hpos]
      have hel : endOf rest' < rest'.length := by rw [inv2.len]; exact t3
      obtain ⟨F, l, hmo, hll⟩ := reach_ok hfit inv2.lev hin (show endOf rest' ≤ n by omega)
      refine ⟨fun σ' H' => ∃ o3 o4 o5 o6 rest' fl', σ' = [some (.ref a), some (.ref R), some (.int (0 + (i : Int))), o3, o4, o5, o6] ∧ KeepB [ff] H H' ∧ WebAt C c H' a dx pl cn dd ff kvs fl' ∧ H' R = some (.lst (rest'.map V.int)) ∧ SInv Ds n r0 rest' fl' ∧ (rest'.getD i 0).toNat ≤ k' ∧
        settleAt Ds n i k' (rest', fl') = settleAt Ds n i (rest.getD i 0).toNat (rest, fl), fun σ' H' h => ⟨k', Nat.lt_succ_self _, h⟩, ?_⟩
      refine ⟨_, rfl, a, dx, _, rfl, hw2.obj, rfl, _, rfl, a, c, dx, pl, cn, dd, ff, kvs, fl', i, by rw [Int.zero_add], g, hw2, by omega, fun H3 t x cm ks f s3 ht hcm hci => ?_⟩
      rw [hn, hDs] at hci
      refine ⟨t, _, _, _, rfl, rfl, SqT.of ht, rfl, ?_⟩
      have hw3 := hw2.same s3
      have hR3 := s3 _ _ hR2
      refine ⟨_, rfl, R, _, rfl, SqL.of hR3, fun D hD => ?_⟩
      have sD := same_new hD (.lst [])
      refine lc_it (walk_enum (K := K) (a := R) (xs := rest'.map V.int)) (fun j H' => Same H3 H' ∧ H' D = some (.lst ((negs rest' j).map fun k => V.int (k : Nat)))) ⟨sD, upd_same⟩ (fun j H' _ h => SqL.of (h.1 _ _ hR3)) ?_ ?_
      · rintro j x H4 H5 hj ⟨s4, hD4⟩ ⟨T0, y1, y2, rfl, hT0, rfl, e1, e2⟩
        cases e1
        have hjl : j < rest'.length := by rw [List.length_map] at hj; exact hj
        have e2' : y2 = .int (rest'.getD j 0) := by
          have e2 : (rest'.map V.int)[j]? = some y2 := e2
          rw [List.getElem?_map, List.getElem?_eq_getElem hjl] at e2
          cases e2
          rw [getD_lt hjl]
        subst e2'
        have nTD : T0 ≠ D := fun z => by rw [z, hD4] at hT0; cases hT0
        have s5 := s4.trans (same_new hT0 (.tup [.int (j : Nat), .int (rest'.getD j 0)]))
        have hD5 := same_new hT0 (.tup [.int (j : Nat), .int (rest'.getD j 0)]) _ _ hD4
        refine ⟨T0, _, rfl, SqT.of upd_same, rfl, _, _, rfl, _, _, rfl, rfl, rfl, _, rfl, _, _, rfl, rfl, _, rfl, ?_⟩
        rw [negs_succ]
        by_cases hneg : rest'.getD j 0 < 0
        · refine iteD hneg ⟨_, rfl, _, hD5, small99 ?_, sapp s5 hD _, ?_⟩
          · rw [List.length_map]
            have : (negs rest' j).length ≤ j := by unfold negs; exact Nat.le_trans (List.length_filter_le _ _) (by rw [List.length_range]; exact Nat.le_refl _)
            rw [inv2.len] at hjl
            omega
          · rw [upd_same, if_pos hneg, List.map_append]; rfl
        · refine iteN hneg ?_
          rw [if_neg hneg, List.append_nil]
          exact ⟨s5, hD5⟩
      · rintro H4 ⟨s4, hD4⟩
        rw [List.length_map] at hD4
        have hfirst : atI ((negs rest' rest'.length).map fun k => V.int (k : Nat)) 0 = some (.int ((endOf rest' : Nat) : Int)) := by
          have : atI ((negs rest' rest'.length).map fun k => V.int (k : Nat)) ((0 : Nat) : Int) = some (.int ((endOf rest' : Nat) : Int)) := atI_nat (by
            rw [List.getElem?_map, negs_first hel t4]; rfl)
          exact this
        refine ⟨D, _, _, _, rfl, rfl, SqL.of hD4, hfirst, ?_⟩
        have hw4 := hw3.same s4
        have hR4 := s4 _ _ hR3
        refine ⟨_, rfl, a, dx, _, rfl, hw4.obj, rfl, _, rfl, _, rfl, _, rfl, a, c, dx, pl, cn, dd, ff, kvs, fl', cm, ks, f, _, F, l, i, endOf rest', by rw [Int.zero_add], g, hw4, s4 _ _ hcm, by rw [hn]; exact hci, by rw [hDs]; exact hmo, by rw [hn]; exact hll, fun H5 k5 hw5 => ?_⟩
        rw [hn, hDs] at hw5
        have nRf : R ≠ ff := ne_of hR4 hw4.flow fun z => nomatch z
        have hR5 := k5 _ _ (by simpa using nRf) hR4
        have ix1 : ixN (rest'.map V.int).length (0 + (i : Int)) = some i := by
          rw [Int.zero_add]; unfold ixN; rw [if_pos (by omega), List.length_map, if_pos (by omega)]; simp
        refine ⟨_, rfl, _, rfl, R, _, _, i, _, rfl, rfl, SqL.of hR5, by rw [Int.zero_add], by rw [List.getElem?_map, List.getElem?_eq_getElem hil]; rfl, _, _, rfl, rfl, R, _, _, _, rfl, rfl, hR5, ix1, ?_⟩
        rw [map_set_int, ← getD_lt hil 0]
        have hlen2 : (rest'.set i (rest'.getD i 0 - 1)).length = rest'.length := List.length_set
        have hel2 : endOf rest' < (rest'.set i (rest'.getD i 0 - 1)).length := by rw [hlen2]; exact hel
        have ix2 : ixN ((rest'.set i (rest'.getD i 0 - 1)).map V.int).length ((endOf rest' : Nat) : Int) = some (endOf rest') := by
          unfold ixN; rw [if_pos (by omega), List.length_map, if_pos (by omega)]; simp
        refine ⟨_, rfl, _, rfl, R, _, _, endOf rest', _, rfl, rfl, SqL.of upd_same, rfl, by rw [List.getElem?_map, List.getElem?_eq_getElem hel2]; rfl, _, _, rfl, rfl, R, _, _, _, rfl, rfl, upd_same, ix2, ?_⟩
        rw [map_set_int, ← getD_lt hel2 0, upd_upd]
        have hKR : ∀ o, KeepB [ff] H (upd H5 R o) := fun o b u hb e => by
          have hbR : b ≠ R := fun z => by rw [z, hR0] at e; cases e
          rw [upd_ne hbR]
          exact k5 b u hb (s4 _ _ (s3 _ _ (k2 b u hb e)))
        have hWR : ∀ o fl, WebAt C c H5 a dx pl cn dd ff kvs fl → WebAt C c (upd H5 R (.lst o)) a dx pl cn dd ff kvs fl := fun o fl h => by
          have kk : TK H5 (upd H5 R (.lst o)) := TK.put hR5 fun xs z => by cases z
          have nR : ∀ {b : Addr} {u : HO}, H b = some u → b ≠ R := fun e z => by rw [z, hR0] at e; cases e
          refine ⟨?_, ?_, ?_, Paired.mapP h.dv fun _ _ r => ⟨r.1, r.2.tk kk⟩, ?_, h.apart⟩
          · rw [upd_ne (nR hw.obj)]; exact h.obj
          · rw [upd_ne (nR hw.cnt)]; exact h.cnt
          · rw [upd_ne (nR hw.doors)]; exact h.doors
          · rw [upd_ne (nR hw.flow)]; exact h.flow
        refine ⟨_, _, _, _, _, _, rfl, hKR _, hWR _ _ hw5, upd_same, t1, ?_, hset'⟩
        rw [show (turnM Ds n i (rest', fl')).1 = shiftM rest' i (endOf rest') from rfl] at t2
        have t2' : ((rest'.set i (rest'.getD i 0 - 1)).set (endOf rest') ((rest'.set i (rest'.getD i 0 - 1)).getD (endOf rest') 0 + 1)).getD i 0 = rest'.getD i 0 - 1 := t2
        rw [t2']
        omega
    · refine iteN hpos ?_
      have : settleAt Ds n i k (rest', fl') = (rest', fl') := by
        cases k with
        | zero => rfl
        | succ k => show (if 0 < rest'.getD i 0 then _ else _) = _; rw [if_neg hpos]
      rw [this] at hset
      exact ⟨_, _, _, _, _, rest', fl', rfl, k2, hw2, hR2, hset.symm⟩
  · rintro σ H1 ⟨o2, o3, o4, o5, o6, rest, fl, rfl, k1, hw1, hR1, hfold⟩
    refine q _ k1 ?_
    have : settleM Ds n (r0, fun _ => 0) = (rest, fl) := hfold
    rw [this]
    exact hw1
end
end Wk

set_option maxRecDepth 100000
set_option maxHeartbeats 4000000
namespace Wk
open PySem PySem.Spec PyProof.Rows L2 Co
/-! ### rows as data -/
def sqD (H : Hp) : V → PyData
  | .ref a => ((H a).map pairD).getD (.tuple [.int 0, .int 0])
  | _ => .tuple [.int 0, .int 0]
theorem sqD_is (H : Hp) (v : V) : ∃ i j, sqD H v = .tuple [.int i, .int j] := by
  unfold sqD
  split
  · rename_i t
    cases H t with
    | none => exact ⟨_, _, rfl⟩
    | some o => exact pairD_is o
  · exact ⟨_, _, rfl⟩
theorem sqD_eq {H : Hp} {v : V} {s : Sq} (h : IsSq H v s) : sqD H v = .tuple [.int s.1, .int s.2] := by
  obtain ⟨a, rfl, h⟩ := h
  show ((H a).map pairD).getD _ = _
  rw [h]; rfl
def rowD (H : Hp) : HO → PyData
  | .tup [x, y, .int z] => .tuple [sqD H x, sqD H y, .int z]
  | _ => .tuple [.tuple [.int 0, .int 0], .tuple [.int 0, .int 0], .int 0]
def rwD (H : Hp) : V → PyData
  | .ref a => ((H a).map (rowD H)).getD (.tuple [.tuple [.int 0, .int 0], .tuple [.int 0, .int 0], .int 0])
  | _ => .tuple [.tuple [.int 0, .int 0], .tuple [.int 0, .int 0], .int 0]
theorem rowD_is (H : Hp) (o : HO) : ∃ i j k l m, rowD H o = .tuple [.tuple [.int i, .int j], .tuple [.int k, .int l], .int m] := by
  unfold rowD
  split
  · rename_i x y z
    obtain ⟨i, j, e1⟩ := sqD_is H x
    obtain ⟨k, l, e2⟩ := sqD_is H y
    exact ⟨i, j, k, l, z, by rw [e1, e2]⟩
  · exact ⟨_, _, _, _, _, rfl⟩
theorem rwD_is (H : Hp) (v : V) : ∃ i j k l m, rwD H v = .tuple [.tuple [.int i, .int j], .tuple [.int k, .int l], .int m] := by
  unfold rwD
  split
  · rename_i t
    cases H t with
    | none => exact ⟨_, _, _, _, _, rfl⟩
    | some o => exact rowD_is H o
  · exact ⟨_, _, _, _, _, rfl⟩
theorem rdSq {H : Hp} {v : V} {s : Sq} (h : IsSq H v s) : RdV H v (.tuple [.int s.1, .int s.2]) := by
  obtain ⟨a, rfl, h⟩ := h
  exact .tup h (.cons .int (.cons .int .nil))
theorem rwD_rd {H : Hp} {v : V} {e : Sq × Sq × Int} (h : IsRw H v e) : (∃ t, v = .ref t) ∧ RdV H v (rwD H v) := by
  obtain ⟨a, x, y, rfl, ha, h1, h2⟩ := h
  refine ⟨⟨a, rfl⟩, ?_⟩
  have : rwD H (.ref a) = .tuple [.tuple [.int e.1.1, .int e.1.2], .tuple [.int e.2.1.1, .int e.2.1.2], .int e.2.2] := by
    show ((H a).map (rowD H)).getD _ = _
    rw [ha]
    show PyData.tuple [sqD H x, sqD H y, .int e.2.2] = _
    rw [sqD_eq h1, sqD_eq h2]
  rw [this]
  exact .tup ha (.cons (rdSq h1) (.cons (rdSq h2) (.cons .int .nil)))
theorem rwD_kd (H : Hp) : Kd (rwD H) where
  al := fun x y => by
    obtain ⟨a, b, c, d, e, h⟩ := rwD_is H x
    obtain ⟨a', b', c', d', e', h'⟩ := rwD_is H y
    rw [h, h']
    simp [PySem.W.alike, PySem.W.alikeAll]
  tu := fun x => by
    obtain ⟨a, b, c, d, e, h⟩ := rwD_is H x
    exact ⟨_, _, h⟩
  dp := fun x => by
    obtain ⟨a, b, c, d, e, h⟩ := rwD_is H x
    rw [h]
    simp [PyData.depth, PyData.depthAll]
def wOf (rows : List (Sq × Sq × Int)) : Int := (rows.map fun r => (r.2.2.natAbs : Int)).sum
theorem wOf_perm {l l' : List (Sq × Sq × Int)} (h : l.Perm l') : wOf l = wOf l' := sum_perm (h.map _)
theorem wOf_snoc (l : List (Sq × Sq × Int)) (r : Sq × Sq × Int) : wOf (l ++ [r]) = wOf l + (r.2.2.natAbs : Int) := by
  unfold wOf
  rw [List.map_append, List.sum_append]
  simp
theorem weightOf_snoc (D : List (Nat × Nat)) (d : Nat × Nat) (f : Fl) : weightOf (D ++ [d]) f = weightOf D f + ((f d).natAbs : Int) := by
  unfold weightOf
  rw [List.map_append, List.sum_append]
  simp
section
variable {P : Program} {w : World} {K : PySem.W.Frag} {mg : Str → Option Value} {base : Heap} {C : Addr}
theorem sc_Web_told : FnScope ["self", "found", "pair", "one", "other"] ["self"] (defScope (inClass (top 37) 5)) := ⟨rfl, rfl, rfl, by decide +kernel, rfl, by decide +kernel, by decide +kernel⟩
def spWebTold (C : Addr) : SpV := fun vs H Q => ∃ a c dx pl cn dd ff kvs fl, vs = [.ref a] ∧ c.Good ∧ WebAt C c H a dx pl cn dd ff kvs fl ∧
  ∀ H' p xs rows, Same H H' → H p = none → H' p = some (.lst xs) → Paired (IsRw H') xs rows → rows.length ≤ 98 → wOf rows = weightOf ((webDoors c).map (·.1)) fl → Q (.ref p) H'
theorem g_Web_told (T : Txt K mg) (W : Wb K mg C) : GM P w K mg base 1 C "told" (spWebTold C) := by
  refine gm_of 0 W.d_told sc_Web_told (by rintro vs H Q ⟨a, c, dx, pl, cn, dd, ff, kvs, fl, rfl, _⟩; rfl) (fun _ _ _ _ _ _ us hl => match us, hl with | [_], _ => rfl) ?_
  rintro f cdv A outer s0 H vs Q E hr ⟨a, c, dx, pl, cn, dd, ff, kvs, fl, rfl, g, hw, q⟩
  have nd := sc_Web_told.nd
  have hu := ru1 hr
  have hu16 := ru16 hr
  have hdl := doors_len g
  have hfit := web_fit c
  refine ⟨_, (pss_cons (ps_set (i := 1) nd rfl (by first | exact Or.inl rfl | exact Or.inr rfl) (pe_lst pa_nil))
      (pss_cons (ps_lock (ps_for PassesOwn.never rfl (pi_keys (peF K (pv 0) rfl)) (pg_name (i := 2) nd rfl (by first | exact Or.inl rfl | exact Or.inr rfl)) (pss_one (ps_if (pt_cmpR op_ne (pe_dget hu (peF K (pv 0) rfl) (pv 2) (fun _ _ => rfl)) pe_int (nomark _)) (pss_cons (ps_asg (pe_dget hu (peF K (pv 0) rfl) (pv 2) (fun _ _ => rfl)) (pgT K (n := 2) rfl (pgs_cons (pg_name (i := 3) nd rfl (by first | exact Or.inl rfl | exact Or.inr rfl)) (pgs_cons (pg_name (i := 4) nd rfl (by first | exact Or.inl rfl | exact Or.inr rfl)) pgs_nil))))
      (pss_one (ps_expr (pe_bm PySem.F.plainAttrs_list PySem.F.slot_list_append PySem.F.type_list_append mt_append (pv 1) (pa_cons (pe_tup (pa_cons (pv 3) (pa_cons (pv 4) (pa_cons (pe_op op_sub pe_int (pe_dget hu (peF K (pv 0) rfl) (pv 2) (fun _ _ => rfl))) pa_nil)))) pa_nil))))) pss_nil))))
      (pss_one (ps_ret (pe_callB (cr_sortedA hu16) (by rfl) T.n_sorted (by decide +kernel) (pa_cons (pv 1) pa_nil)))))), ?_⟩
  refine ⟨(by show 0 ≤ sizeLine; decide), fun D hD => ?_⟩
  have sD := same_new hD (.lst [])
  have nDd : D ≠ dd := fun z => by rw [z, hw.doors] at hD; cases hD
  refine ⟨dd, _, sD _ _ hw.doors, True.intro, fun od => ?_⟩
  have naD : a ≠ dd := ne_of hw.obj hw.doors fun z => nomatch z
  have nfd := hw.apart
  refine ⟨_, rfl, a, C, dx, _, _, rfl, by rw [upd_ne naD]; exact sD _ _ hw.obj, W.cls, W.n_doors, rfl, dd, od, rfl, .inr ⟨_, upd_same, ?_⟩⟩
  have hkl : kvs.length = (webDoors c).length := pLen hw.dv
  refine for_it walk_keysT (fun i σ H' => ∃ o2 o3 o4, σ = [some (.ref a), some (.ref D), o2, o3, o4] ∧ KeepB [dd] H H' ∧ H' dd = some (.frz od (.dT kvs)) ∧ ∃ ys rows, H' D = some (.lst ys) ∧ Paired (IsRw H') ys rows ∧ rows.length ≤ i ∧ wOf rows = weightOf (((webDoors c).map (·.1)).take i) fl)
    ⟨none, none, none, rfl, (KeepB.of_same sD).trans (.put (by simp) _), upd_same, [], [], by rw [upd_ne nDd]; exact upd_same, .nil, Nat.zero_le _, rfl⟩ (fun i σ H' _ h => by obtain ⟨_, _, _, _, _, h, _⟩ := h; exact h) ?_ ?_
  · rintro i x σ H1' H1 hi ⟨o2, o3, o4, rfl, k1, hdd1, ys, rows, hD1, hys, hrl, hwt⟩ ⟨rfl, kk, vv, qa, hkv, rfl, hqa⟩
    obtain ⟨⟨dr, sd⟩, hdr, hk, hpr⟩ := paired_get hw.dv hkv
    have hk : kk = dk dr := hk
    subst hk
    have hdr' : ((webDoors c).map (·.1))[i]? = some dr := by rw [List.getElem?_map, hdr]; rfl
    have hin : dr ∈ (webDoors c).map (·.1) := List.mem_of_getElem? hdr'
    have hqa : IsNp H1 qa dr := hqa
    have ha1 := k1 _ _ (by simpa using naD) hw.obj
    have hf1 := k1 _ _ (by simpa using nfd) hw.flow
    have gf := getd_in (.inl hf1) hqa hin
    rw [take_snoc hdr', weightOf_snoc]
    refine ⟨_, rfl, a, C, dx, _, _, rfl, ha1, W.cls, W.n_flow, rfl, _, rfl, ff, .int (fl dr), rfl, gf, rfl, _, rfl, ?_⟩
    by_cases hz : fl dr = 0
    · refine ite_ne_F (by rw [hz]) ?_
      exact ⟨_, _, _, rfl, k1, hdd1, ys, rows, hD1, hys, by omega, by rw [hwt, hz]; simp⟩
    · refine ite_ne_T (fun z => hz (V.int.inj z)) ?_
      have hpr : IsPr H vv sd := hpr
      have t1 : TK H H1 := fun b xs e => k1 b _ (by simpa using ne_of e hw.doors fun z => nomatch z) e
      obtain ⟨va, y1, y2, rfl, hva, hy1, hy2⟩ := hpr.tk t1
      have gd : DGet H1 dd (.ref qa) (some (.ref va)) := by
        refine .inr ⟨kvs, dk dr, qa, .inr ⟨od, hdd1⟩, rfl, hqa, ?_⟩
        have hnd : (kvs.map (·.1)).Nodup := by
          have : kvs.map (·.1) = ((webDoors c).map (·.1)).map dk := by
            have : ∀ {l : List (List Key × V)} {m : List ((Nat × Nat) × (Sq × Sq))}, DoorV H l m → l.map (·.1) = (m.map (·.1)).map dk := by
              intro l m h
              induction h with
              | nil => rfl
              | cons r _ ih => rw [List.map_cons, List.map_cons, List.map_cons, ih, r.1]
            exact this hw.dv
          rw [this]
          exact nodup_map_inj hfit.nodup fun a _ b _ e => dk_inj a b e
        clear gf
        have : ∀ {l : List (List Key × V)} {i : Nat} {k : List Key} {v : V}, l[i]? = some (k, v) → (l.map (·.1)).Nodup → valV l k = some v := by
          intro l
          induction l with
          | nil => intro i k v e; simp at e
          | cons p r ih =>
            intro i k v e hn
            rw [List.map_cons, List.nodup_cons] at hn
            cases i with
            | zero => cases e; exact valV_pos (p := (k, v)) rfl
            | succ i =>
              have e : r[i]? = some (k, v) := e
              have : p.1 ≠ k := fun z => hn.1 (z ▸ List.mem_map.mpr ⟨_, List.mem_of_getElem? e, rfl⟩)
              rw [valV_neg this]
              exact ih e hn.2
        exact (this hkv hnd).symm
      refine ⟨_, rfl, a, C, dx, _, _, rfl, ha1, W.cls, W.n_doors, rfl, _, rfl, dd, _, rfl, gd, ?_⟩
      refine ⟨va, _, rfl, SqT.of hva, rfl, _, _, rfl, _, _, rfl, rfl, ?_⟩
      refine ⟨_, rfl, .inl ⟨rfl, _, SqL.of hD1⟩, _, rfl, _, rfl, _, rfl, a, C, dx, _, _, rfl, ha1, W.cls, W.n_flow, rfl, _, rfl, ff, .int (fl dr), rfl, gf, _, _, rfl, rfl, (by show 3 ≤ sizeLine; decide), fun t nt => ?_⟩
      have u1 := same_new nt (.tup [y1, y2, .int (0 - fl dr)])
      have hD2 := u1 _ _ hD1
      refine ⟨D, ys, _, rfl, rfl, hD2, small99 (by rw [pLen hys]; rw [hkl] at hi; omega), ?_⟩
      have k3 : TK H1 (upd (upd H1 t (.tup [y1, y2, .int (0 - fl dr)])) D (.lst (ys ++ [.ref t]))) := (TK.of_same u1).trans (TK.put hD2 fun xs z => by cases z)
      refine ⟨_, _, _, rfl, fun b o hb e => ?_, ?_, _, rows ++ [(sd.1, sd.2, 0 - fl dr)], upd_same, .snoc (rw_tk hys k3) ⟨t, y1, y2, rfl, ?_, hy1.tk k3, hy2.tk k3⟩, by rw [List.length_append, List.length_singleton]; omega, ?_⟩
      · have hbD : b ≠ D := fun z => by rw [z, hD] at e; cases e
        rw [upd_ne hbD]
        exact u1 _ _ (k1 b o hb e)
      · rw [upd_ne (Ne.symm nDd)]; exact u1 _ _ hdd1
      · rw [upd_ne (fun z => by rw [z] at nt; rw [nt] at hD1; cases hD1)]
        exact upd_same
      · rw [wOf_snoc, hwt]
        show _ + ((0 - fl dr).natAbs : Int) = _
        omega
  · rintro σ H1 ⟨o2, o3, o4, rfl, k1, hdd1, ys, rows, hD1, hys, hrl, hwt⟩
    rw [List.take_of_length_le (by rw [hkl, List.length_map]; exact Nat.le_refl _)] at hwt
    refine ⟨hdd1, ?_⟩
    have k2 : TK H1 (upd H1 dd (.dT kvs)) := TK.put hdd1 fun xs z => by cases z
    have hys2 := rw_tk hys k2
    refine ⟨_, rfl, D, ys, rwD (upd H1 dd (.dT kvs)), rfl, SqL.of (by rw [upd_ne nDd]; exact hD1), rwD_kd _, fun x hx => ?_, fun zs p hperm hp => ?_⟩
    · obtain ⟨i, hi⟩ := List.mem_iff_getElem?.mp hx
      obtain ⟨e, _, h⟩ := paired_get hys2 hi
      exact rwD_rd h
    · obtain ⟨l, h1, h2⟩ := perm_paired hperm hys2
      have sF := unlock_same k1 hw.doors
      have sP := same_new hp (.lst zs)
      exact q _ p zs l (sF.trans sP) (sF.free hp) upd_same (rw_tk h1 (.of_same sP)) (by rw [h2.length_eq]; rw [hkl] at hrl; omega) (by rw [wOf_perm h2]; exact hwt)
theorem sc_weight : FnScope ["breaks", "one", "other", "many"] ["breaks"] (defScope (top 40)) := ⟨rfl, rfl, rfl, by decide +kernel, rfl, by decide +kernel, by decide +kernel⟩
def spWeight : SpV := fun vs H Q => ∃ p xs rows, vs = [.ref p] ∧ H p = some (.lst xs) ∧ Paired (IsRw H) xs rows ∧ rows.length ≤ 10000 ∧ ∀ H', Same H H' → Q (.int (wOf rows)) H'
theorem g_weight (T : Txt K mg) : G P w K mg base 1 "weight" spWeight := by
  refine g_of 0 T.d_weight sc_weight (by rintro vs H Q ⟨p, xs, rows, rfl, _⟩; rfl) (fun _ _ _ _ _ _ us hl => match us, hl with | [_], _ => rfl) ?_
  rintro f cdv A outer s0 H vs Q E hr ⟨p, xs, rows, rfl, hp, hxs, hl, q⟩
  have nd := sc_weight.nd
  refine ⟨_, (pss_one (ps_ret (pe_callBK (cr_sum0 rfl) (by rfl) T.n_sum (by decide +kernel) (pa_cons (pe_lc (own := [("one", 1), ("other", 2), ("many", 3)]) rfl nd (piL K (pv 0)) (blkOk_by (by kernel_rfl)) (fun _ _ _ _ _ => (pgT K (n := 3) rfl (pgs_cons (pg_name (i := 1) nd rfl (by first | exact Or.inl rfl | exact Or.inr rfl)) (pgs_cons (pg_name (i := 2) nd rfl (by first | exact Or.inl rfl | exact Or.inr rfl)) (pgs_cons (pg_name (i := 3) nd rfl (by first | exact Or.inl rfl | exact Or.inr rfl)) pgs_nil))))) (fun _ _ _ _ _ => pts_nil) (fun _ _ _ _ _ => (pe_callB call_abs (by rfl) T.n_abs (by decide +kernel) (pa_cons (pv 3) pa_nil)))) pa_nil) (pk_cons pe_int pk_nil)))), ?_⟩
  refine ⟨_, rfl, p, rfl, ⟨_, SqL.of hp⟩, fun D hD => ?_⟩
  refine lc_list (K := K) (a := p) (xs := xs) (fun i H' => Same H H' ∧ H' D = some (.lst (((rows.take i).map fun r => (r.2.2.natAbs : Int)).map V.int))) ⟨same_new hD _, upd_same⟩ (fun i H' _ h => SqL.of (h.1 _ _ hp)) ?_ ?_
  · rintro i x H2 hx ⟨s2, hD2⟩
    obtain ⟨e, he, a, y1, y2, rfl, ha, h1, h2⟩ := paired_get hxs hx
    refine ⟨a, _, rfl, SqT.of (s2 _ _ ha), rfl, _, _, rfl, _, _, rfl, _, _, rfl, rfl, rfl, tyes ⟨_, rfl, _, rfl, _, hD2, small99 (by rw [List.length_map, List.length_map, List.length_take]; omega), sapp s2 hD _, ?_⟩⟩
    have eabs : (if e.2.2 < 0 then -e.2.2 else e.2.2) = (e.2.2.natAbs : Int) := by split <;> omega
    rw [eabs, upd_same, take_snoc he, List.map_append, List.map_append]; rfl
  · rintro H2 ⟨s2, hD2⟩
    rw [List.take_of_length_le (by rw [pLen hxs]; exact Nat.le_refl _)] at hD2
    exact ⟨D, _, rfl, rfl, SqL.of hD2, q _ s2⟩
end
end Wk

set_option maxRecDepth 100000
set_option maxHeartbeats 4000000
namespace Wk
open PySem PySem.Spec PyProof.Rows L2 Co
def tMkG (C : Addr) (S : SpV) (t : TA) : TE := fun σ H Q => t σ H fun vs H1 => ∀ x dx, H1 x = none → H1 dx = none → dx ≠ x → S (.ref x :: vs) (upd (upd H1 dx (.own x)) x (.ins C dx [])) (fun v H2 => v = .non ∧ Q (.ref x) H2)
structure GI (P : Program) (w : World) (K : PySem.W.Frag) (mg : Str → Option Value) (base : Heap) (k : Nat) (C : Addr) (S : SpV) : Prop where
  ex : ∃ (f : Addr) (fd : FuncData) (ps : List Str), FnOk P w K mg base CX0 k f fd ps (sp S) ∧ Mk K C f ∧ Binds K fd ps []
theorem pe_makeG {X : Cx} {j k : Nat} {C : Addr} {S : SpV} {x : Str} {e : Expr} {es : List Expr} {t : TA} {p pos : Pos} (g : GI X.prog X.w X.K X.mg X.base j C S) (hr : Room (k + 1) X.A) (hg : Gl X x) (hm : X.mg x = some (.ref C)) (ha : PA X (e :: es) t) (hj : j ≤ k := by decide)
    (hdb : (x == ("__debug__" : Str)) = false := by decide) (he : starEach (e :: es) X.env = (false, eval e X.env) :: starEach es X.env := by rfl) (hpl : (backTo pos (starEach es X.env)).any (·.1) = false := by rfl) :
    PE X (.Call (.Name x p) (e :: es) [] pos) (tMkG C S t) := by
  obtain ⟨f, fd, ps, F, hmk, hb⟩ := g.ex
  refine ⟨fun pins s σ H Q I h => ?_⟩
  refine (pe_make (E := E0) hmk F (hr.mono (Nat.succ_le_succ hj)) hg hm hb .nil pass0 ha hdb he hpl).run pins s σ H Q I ?_
  have e0 : tMake C (sp S) [] E0 t = tMkG C S t := by
    funext σ H Q
    show t σ H (fun vs H1 => ∀ x dx, H1 x = none → H1 dx = none → dx ≠ x → S (.ref x :: (vs ++ [])) (upd (upd H1 dx (.own x)) x (.ins C dx [])) (fun v H2 => v = .non ∧ Q (.ref x) H2)) = _
    simp only [List.append_nil]
    rfl
  rw [e0]
  exact h
theorem doorV_none {H : Hp} {x : Nat × Nat} : ∀ {kvs : List (List Key × V)} {L : List ((Nat × Nat) × (Sq × Sq))}, DoorV H kvs L → x ∉ L.map (·.1) → valV kvs (dk x) = none
  | _, _, .nil, _ => rfl
  | _, _, .cons r t, h => by
    rw [List.map_cons, List.mem_cons, not_or] at h
    rw [valV_neg (fun z => h.1 (dk_inj _ _ (r.1.symm.trans z)).symm)]
    exact doorV_none t h.2
theorem doorV_some {H : Hp} {x : Nat × Nat} : ∀ {kvs : List (List Key × V)} {L : List ((Nat × Nat) × (Sq × Sq))}, DoorV H kvs L → x ∈ L.map (·.1) → ∃ v, valV kvs (dk x) = some v
  | _, _, .cons (a := p) (b := y) r t, h => by
    by_cases e : p.1 = dk x
    · exact ⟨p.2, valV_pos e⟩
    · rw [valV_neg e]
      rw [List.map_cons, List.mem_cons] at h
      rcases h with h | h
      · exact absurd (by rw [r.1, h]) e
      · exact doorV_some t h
theorem DoorV.tk {H H' : Hp} {kvs : List (List Key × V)} {L : List ((Nat × Nat) × (Sq × Sq))} (h : DoorV H kvs L) (k : TK H H') : DoorV H' kvs L := Paired.mapP h fun _ _ r => ⟨r.1, r.2.tk k⟩
theorem doors_len2 (pl : Sq → Option Nat) (n : Nat) : ∀ (l : List (Sq × Sq)) (D : List ((Nat × Nat) × (Sq × Sq))), (l.foldl (doorItem pl n) D).length ≤ D.length + l.length
  | [], D => Nat.le_refl _
  | x :: r, D => by
    rw [List.foldl_cons, List.length_cons]
    have := doors_len2 pl n r (doorItem pl n D x)
    have h2 : (doorItem pl n D x).length ≤ D.length + 1 := by
      unfold doorItem
      split
      · simp
      · exact Nat.le_succ _
    omega
abbrev pf (f : Str) (v : V) : Str × V := (f, v)
theorem put1 (v : V) : putF "place" v [] = [pf "place" v] := rfl
theorem put2 (x v : V) : putF "counts" v [pf "place" x] = [pf "place" x, pf "counts" v] := by rfl
theorem put3 (x y v : V) : putF "outside" v [pf "place" x, pf "counts" y] = [pf "place" x, pf "counts" y, pf "outside" v] := by rfl
theorem put4 (x y z v : V) : putF "doors" v [pf "place" x, pf "counts" y, pf "outside" z] = [pf "place" x, pf "counts" y, pf "outside" z, pf "doors" v] := by rfl
theorem put5 (x y z u v : V) : putF "flow" v [pf "place" x, pf "counts" y, pf "outside" z, pf "doors" u] = [pf "place" x, pf "counts" y, pf "outside" z, pf "doors" u, pf "flow" v] := by rfl
section
variable {P : Program} {w : World} {K : PySem.W.Frag} {mg : Str → Option Value} {base : Heap} {C : Addr}
theorem sc_Web_init : FnScope ["self", "chart", "rows", "side", "right", "left", "pair", "some", "corner"] ["self", "chart"] (defScope (inClass (top 37) 0)) := ⟨rfl, rfl, rfl, by decide +kernel, rfl, by decide +kernel, by decide +kernel⟩
def spInit (C : Addr) : SpV := fun vs H Q => ∃ a v c dx, vs = [.ref a, v] ∧ IsCh H v c ∧ c.Good ∧ H a = some (.ins C dx []) ∧ ∀ H' pl cn dd ff kvs, KeepB [a] H H' → H ff = none → WebAt C c H' a dx pl cn dd ff kvs (fun _ => 0) → Q .non H'
theorem keep_tk {H H' : Hp} {a : Addr} {u : HO} (k : KeepB [a] H H') (h : H a = some u) (hu : ∀ xs, u ≠ .tup xs) : TK H H' := fun b xs e => k b _ (by simpa using ne_of e h (hu xs).symm) e
theorem gi_of {N ps : List Str} {S : SpV} (k : Nat) (W : Wb K mg C) (sc : FnScope N ps (defScope (inClass (top 37) 0))) (len : ∀ vs H Q, S vs H Q → vs.length = ps.length)
    (hb : ∀ (kV doc pm : Value) (an : Option Addr) (cdv ct : Value) (us : List Value), us.length = ps.length → bindArgs (PySem.W.fnOf "__init__" "Web.__init__" (defArgs (inClass (top 37) 0)) (defBody (inClass (top 37) 0)) (defScope (inClass (top 37) 0)) .none kV doc pm an cdv ct) ⟨us, []⟩ = pure (ps.zip us))
    (body : ∀ (f : Addr) (cdv : Value) (A : Around) (outer : List Env) (s : Shared) (H : Hp) (vs : List V) (Q : VK) (E : XK), Room k (A.deeper (envOfC "Web.__init__" (defScope (inClass (top 37) 0)) s.heap.objs.size f cdv)) → S vs H Q →
      ∃ t, PSs (Bc P w K mg base N "Web.__init__" (inClass (top 37) 0) f cdv A outer s H E) (defBody (inClass (top 37) 0)) t ∧ t { nx := fun _ H' => Q .non H', rt := Q } (start N vs) H) : GI P w K mg base (k + 1) C S := by
  obtain ⟨f, fd, F, hmk⟩ := W.d_init
  refine ⟨f, fd, ps, F.ok sc (fun vs H Q E h => len vs H Q h) (fun cdv A outer s H vs Q E hr h => ?_), hmk, F.bindsN hb⟩
  obtain ⟨t, h1, h2⟩ := body f cdv A outer s H vs Q E hr h
  exact ⟨t, h1.nox, h2⟩
theorem g_Web_init (T : Txt K mg) (W : Wb K mg C) : GI P w K mg base 6 C (spInit C) := by
  refine gi_of 5 W sc_Web_init (by rintro vs H Q ⟨a, v, c, dx, rfl, _⟩; rfl) (fun _ _ _ _ _ _ us hl => match us, hl with | [_, _], _ => rfl) ?_
  rintro f cdv A outer s0 H vs Q E hr ⟨a, v, c, dx, rfl, hc, g, ha, q⟩
  have nd := sc_Web_init.nd
  have hu := ru1 hr
  have hcl := countsLen g
  have hfit := web_fit c
  refine ⟨_, (pss_cons (ps_asg (pe_callG (g_eyes_of T) hr rfl (pa_cons (pv 1) pa_nil)) (pgT K (n := 2) rfl (pgs_cons (pg_name (i := 2) nd rfl (by first | exact Or.inl rfl | exact Or.inr rfl)) (pgs_cons (pg_fld (pv 0)) pgs_nil))))
      (pss_cons (ps_fld (pv 0) (pe_lc (own := [("some", 7)]) rfl nd (piL K (pv 2)) (blkOk_by (by kernel_rfl)) (fun _ _ _ _ _ => (pg_name (i := 7) nd rfl (by first | exact Or.inl rfl | exact Or.inr rfl))) (fun _ _ _ _ _ => pts_nil) (fun _ _ _ _ _ => (pe_callG (g_count_of T) hr rfl (pa_cons (pv 1) (pa_cons (pv 7) pa_nil))))) rfl)
      (pss_cons (ps_fld (pv 0) (pe_callB (crLen K) (by rfl) T.n_len (by decide +kernel) (pa_cons (pv 2) pa_nil)) rfl)
      (pss_cons (ps_fld (pv 0) pe_dnewT rfl)
      (pss_cons (ps_for PassesOwn.never rfl (piL K (pe_callG (g_sides_of T) hr rfl (pa_cons (pv 1) pa_nil))) (pg_name (i := 3) nd rfl (by first | exact Or.inl rfl | exact Or.inr rfl)) (pss_cons (ps_asg (pe_lc (own := [("corner", 8)]) rfl nd (piT K (pe_callG (g_flanks T) hr rfl (pa_cons (pv 3) pa_nil))) (blkOk_by (by kernel_rfl)) (fun _ _ _ _ _ => (pg_name (i := 8) nd rfl (by first | exact Or.inl rfl | exact Or.inr rfl))) (fun _ _ _ _ _ => pts_nil) (fun _ _ _ _ _ => (pe_dget2 hu (peF K (pv 0) rfl) (pv 8) (peF K (pv 0) rfl) (by constructor <;> rfl)))) (pgU K (n := 2) rfl (pgs_cons (pg_name (i := 4) nd rfl (by first | exact Or.inl rfl | exact Or.inr rfl)) (pgs_cons (pg_name (i := 5) nd rfl (by first | exact Or.inl rfl | exact Or.inr rfl)) pgs_nil))))
      (pss_one (ps_if (PW.pt (pw_and (pt_cmpR op_ne (pv 4) (pv 5) (nomark _)) (pw_and (pt_cmp (pc_dnotin hu (pe_tup (pa_cons (pv 4) (pa_cons (pv 5) pa_nil))) (peF K (pv 0) rfl)) (by with_unfolding_all rfl)) (pw_and1 (pt_cmp (pc_dnotin hu (pe_tup (pa_cons (pv 5) (pa_cons (pv 4) pa_nil))) (peF K (pv 0) rfl)) (by with_unfolding_all rfl)))))) (pss_one (ps_dput hu (peF K (pv 0) rfl) (pe_tup (pa_cons (pv 4) (pa_cons (pv 5) pa_nil))) (pv 3) rfl)) pss_nil))))
      (pss_cons (ps_fld (pv 0) pe_dnewT rfl)
      (pss_one (ps_lock (ps_for PassesOwn.never rfl (pi_keys (peF K (pv 0) rfl)) (pg_name (i := 6) nd rfl (by first | exact Or.inl rfl | exact Or.inr rfl)) (pss_one (ps_dput hu (peF K (pv 0) rfl) (pv 6) pe_int rfl))))))))))), ?_⟩
  refine ⟨_, rfl, v, c, rfl, hc, g, fun H1 t F Pl ys pk pfn s1 nF nPl ht hF hPl heye hpl => ?_⟩
  have naF : a ≠ F := ne_of_none ha nF
  have naP : a ≠ Pl := ne_of_none ha nPl
  refine ⟨t, _, rfl, SqT.of ht, rfl, _, _, rfl, _, _, rfl, _, rfl, a, C, dx, [], rfl, s1 _ _ ha, W.cls, W.n_place, (by show 0 < 1000; decide), rfl, ?_⟩
  rw [put1]
  have k1 : KeepB [a] H (upd H1 a (.ins C dx [pf "place" (.ref Pl)])) := (KeepB.of_same s1).trans (.put (by simp) _)
  have t1 : TK H1 (upd H1 a (.ins C dx [pf "place" (.ref Pl)])) := TK.put (s1 _ _ ha) fun xs z => by cases z
  have hF1 : (upd H1 a (.ins C dx [pf "place" (.ref Pl)])) F = some (.lst ys) := by rw [upd_ne (Ne.symm naF)]; exact hF
  have hP1 : (upd H1 a (.ins C dx [pf "place" (.ref Pl)])) Pl = some (.dT (kv sk pk pfn)) := by rw [upd_ne (Ne.symm naP)]; exact hPl
  have o1 : (upd H1 a (.ins C dx [pf "place" (.ref Pl)])) a = some (.ins C dx [pf "place" (.ref Pl)]) := upd_same
  have e1 : Paired (IsEye [a] (upd H1 a (.ins C dx [pf "place" (.ref Pl)]))) ys (Co.eyesOf c).found := by
    refine Paired.mapP heye fun _ _ ⟨p, xs, l, e, n, h1, h2, h3⟩ => ?_
    have npa : p ≠ a := ne_of h1 (s1 _ _ ha) fun z => nomatch z
    exact ⟨p, xs, l, e, by simpa using npa, by rw [upd_ne npa]; exact h1, sq_tk h2 t1, h3⟩
  generalize (upd H1 a (.ins C dx [pf "place" (.ref Pl)])) = H2 at *
  clear t1
  have hyl : ys.length = (countsM c).length := by rw [pLen heye]; unfold countsM; rw [List.length_map]
  refine ⟨_, rfl, F, rfl, ⟨_, SqL.of hF1⟩, fun D hD => ?_⟩
  have hf36 := foundLen g
  have tk0 : TK H H2 := keep_tk k1 ha fun xs z => by cases z
  refine lc_list (K := K) (a := F) (xs := ys) (fun i H' => Same H2 H' ∧ H' D = some (.lst ((((Co.eyesOf c).found.take i).map c.countOf).map V.int))) ⟨same_new hD _, upd_same⟩ (fun i H' _ h => SqL.of (h.1 _ _ hF1)) ?_ ?_
  · rintro i x H3 hx ⟨s3, hD3⟩
    obtain ⟨e, he, p, xs, l, rfl, npa, hp, hxs, hperm⟩ := paired_get e1 hx
    have h36 := eyeLen g (List.mem_of_getElem? he)
    refine ⟨rfl, tyes ⟨_, rfl, _, rfl, v, p, xs, c, l, rfl, (hc.tk tk0).tk (.of_same s3), s3 _ _ hp, sq_tk hxs (.of_same s3), by rw [hperm.length_eq]; omega, g, fun H4 s4 => ?_⟩⟩
    refine ⟨_, s4 _ _ hD3, small99 (by rw [List.length_map, List.length_map, List.length_take]; omega), sapp (s3.trans s4) hD _, ?_⟩
    rw [upd_same, take_snoc he, List.map_append, List.map_append, countOf_perm c hperm]; rfl
  rintro H3 ⟨s3, hD3⟩
  rw [List.take_of_length_le (by rw [pLen heye]; exact Nat.le_refl _)] at hD3
  have hD3 : H3 D = some (.lst ((countsM c).map V.int)) := hD3
  refine ⟨_, rfl, a, C, dx, _, rfl, s3 _ _ o1, W.cls, W.n_counts, (by show 1 < 1000; decide), ?_⟩
  rw [put2]
  have nDa : D ≠ a := fun z => by rw [z, o1] at hD; cases hD
  have k3 : KeepB [a] H (upd H3 a (.ins C dx [pf "place" (.ref Pl), pf "counts" (.ref D)])) := (k1.trans (.of_same s3)).trans (.put (by simp) _)
  have hF3 : (upd H3 a (.ins C dx [pf "place" (.ref Pl), pf "counts" (.ref D)])) F = some (.lst ys) := by rw [upd_ne (Ne.symm naF)]; exact s3 _ _ hF1
  have hP3 : (upd H3 a (.ins C dx [pf "place" (.ref Pl), pf "counts" (.ref D)])) Pl = some (.dT (kv sk pk pfn)) := by rw [upd_ne (Ne.symm naP)]; exact s3 _ _ hP1
  have c3 : (upd H3 a (.ins C dx [pf "place" (.ref Pl), pf "counts" (.ref D)])) D = some (.lst ((countsM c).map V.int)) := by rw [upd_ne nDa]; exact hD3
  have o3 : (upd H3 a (.ins C dx [pf "place" (.ref Pl), pf "counts" (.ref D)])) a = some (.ins C dx [pf "place" (.ref Pl), pf "counts" (.ref D)]) := upd_same
  generalize (upd H3 a (.ins C dx [pf "place" (.ref Pl), pf "counts" (.ref D)])) = H4 at *
  refine ⟨_, rfl, F, ys, rfl, .inl (SqL.of hF3), _, rfl, a, C, dx, _, rfl, o3, W.cls, W.n_outside, (by show 2 < 1000; decide), ?_⟩
  rw [put3, hyl]
  have k4 : KeepB [a] H (upd H4 a (.ins C dx [pf "place" (.ref Pl), pf "counts" (.ref D), pf "outside" (.int ((countsM c).length : Nat))])) := k3.trans (.put (by simp) _)
  have hP4 : (upd H4 a (.ins C dx [pf "place" (.ref Pl), pf "counts" (.ref D), pf "outside" (.int ((countsM c).length : Nat))])) Pl = some (.dT (kv sk pk pfn)) := by rw [upd_ne (Ne.symm naP)]; exact hP3
  have c4 : (upd H4 a (.ins C dx [pf "place" (.ref Pl), pf "counts" (.ref D), pf "outside" (.int ((countsM c).length : Nat))])) D = some (.lst ((countsM c).map V.int)) := by rw [upd_ne nDa]; exact c3
  have o4 : (upd H4 a (.ins C dx [pf "place" (.ref Pl), pf "counts" (.ref D), pf "outside" (.int ((countsM c).length : Nat))])) a = some (.ins C dx [pf "place" (.ref Pl), pf "counts" (.ref D), pf "outside" (.int ((countsM c).length : Nat))]) := upd_same
  generalize (upd H4 a (.ins C dx [pf "place" (.ref Pl), pf "counts" (.ref D), pf "outside" (.int ((countsM c).length : Nat))])) = H5 at *
  intro dd hdd
  have nda : dd ≠ a := fun z => by rw [z, o4] at hdd; cases hdd
  have ndP : dd ≠ Pl := fun z => by rw [z, hP4] at hdd; cases hdd
  have ndD : dd ≠ D := fun z => by rw [z, c4] at hdd; cases hdd
  have hdd0 : H dd = none := by
    cases e : H dd with
    | none => rfl
    | some u => rw [k4 dd u (by simpa using nda) e] at hdd; cases hdd
  refine ⟨_, rfl, a, C, dx, _, rfl, by rw [upd_ne (Ne.symm nda)]; exact o4, W.cls, W.n_doors, (by show 3 < 1000; decide), ?_⟩
  rw [put4]
  have k6 : KeepB [a] H (upd (upd H5 dd (.dT [])) a (.ins C dx [pf "place" (.ref Pl), pf "counts" (.ref D), pf "outside" (.int ((countsM c).length : Nat)), pf "doors" (.ref dd)])) := (k4.trans (.of_same (same_new hdd _))).trans (.put (by simp) _)
  have hP6 : (upd (upd H5 dd (.dT [])) a (.ins C dx [pf "place" (.ref Pl), pf "counts" (.ref D), pf "outside" (.int ((countsM c).length : Nat)), pf "doors" (.ref dd)])) Pl = some (.dT (kv sk pk pfn)) := by rw [upd_ne (Ne.symm naP), upd_ne (Ne.symm ndP)]; exact hP4
  have c6 : (upd (upd H5 dd (.dT [])) a (.ins C dx [pf "place" (.ref Pl), pf "counts" (.ref D), pf "outside" (.int ((countsM c).length : Nat)), pf "doors" (.ref dd)])) D = some (.lst ((countsM c).map V.int)) := by rw [upd_ne nDa, upd_ne (Ne.symm ndD)]; exact c4
  have o6 : (upd (upd H5 dd (.dT [])) a (.ins C dx [pf "place" (.ref Pl), pf "counts" (.ref D), pf "outside" (.int ((countsM c).length : Nat)), pf "doors" (.ref dd)])) a = some (.ins C dx [pf "place" (.ref Pl), pf "counts" (.ref D), pf "outside" (.int ((countsM c).length : Nat)), pf "doors" (.ref dd)]) := upd_same
  have d6 : (upd (upd H5 dd (.dT [])) a (.ins C dx [pf "place" (.ref Pl), pf "counts" (.ref D), pf "outside" (.int ((countsM c).length : Nat)), pf "doors" (.ref dd)])) dd = some (.dT []) := by rw [upd_ne nda]; exact upd_same
  generalize (upd (upd H5 dd (.dT [])) a (.ins C dx [pf "place" (.ref Pl), pf "counts" (.ref D), pf "outside" (.int ((countsM c).length : Nat)), pf "doors" (.ref dd)])) = H6 at *
  have tk6 : TK H H6 := keep_tk k6 ha fun xs z => by cases z
  have hc6 := hc.tk tk6
  generalize hn : (countsM c).length = n at *
  have hplen := sub_len g hpl.1 hpl.2.1
  refine ⟨_, rfl, v, c, rfl, hc6, g, fun H7 p xs s7 p0 hp hxs => ⟨p, rfl, ⟨_, SqL.of hp⟩, ?_⟩⟩
  have npd : p ≠ dd := fun z => by rw [z, d6] at p0; cases p0
  have hsl : c.sidesOf.length ≤ 98 := by
    have : c.sidesOf = c.toldSq.flatMap (sideF c) := rfl
    rw [this]
    have := sides_len g c.toldSq
    have := told_len g
    omega
  have hwd : webDoors c = c.sidesOf.foldl (doorItem (Co.eyesOf c).place n) [] := by
    unfold webDoors doorsM
    rw [← hn]
    unfold countsM
    rw [List.length_map]
  refine for_list (K := K) (a := p) (xs := xs) (fun i σ H' => ∃ o3 o4 o5 o6 o7 o8 kvs, σ = [some (.ref a), some v, some (.ref F), o3, o4, o5, o6, o7, o8] ∧ KeepB [dd] H7 H' ∧ H' dd = some (.dT kvs) ∧ DoorV H' kvs ((c.sidesOf.take i).foldl (doorItem (Co.eyesOf c).place n) []) ∧ Paired (IsPr H') xs c.sidesOf)
    ⟨none, none, none, none, none, none, [], rfl, .refl _ _, s7 _ _ d6, .nil, hxs⟩ (fun i σ H' _ ⟨_, _, _, _, _, _, _, _, k, _⟩ => SqL.of (k _ _ (by simpa using npd) hp)) ?_ ?_
  · rintro i x σ H8 hx ⟨o3', o4', o5', o6', o7', o8', kvs, rfl, k8, d8, dv8, hxs8⟩
    obtain ⟨pr, hpr, hx8⟩ := paired_get hxs8 hx
    have hLl := doors_len2 (Co.eyesOf c).place n (c.sidesOf.take i) []
    rw [List.length_nil, List.length_take] at hLl
    rw [foldl_take _ _ hpr]
    generalize hL : (c.sidesOf.take i).foldl (doorItem (Co.eyesOf c).place n) [] = L at *
    have ob8 := k8 _ _ (by simpa using Ne.symm nda) (s7 _ _ o6)
    have P8 := k8 _ _ (by simpa using Ne.symm ndP) (s7 _ _ hP6)
    refine ⟨_, rfl, x, pr, rfl, hx8, fun H9 t9 x1 x2 s9 ht9 h1 h2 => ⟨t9, rfl, ⟨_, SqT.of ht9⟩, fun D2 hD2 => ?_⟩⟩
    refine lc_tup (K := K) (a := t9) (xs := [x1, x2]) (fun j H' => Same H9 H' ∧ H' D2 = some (.lst ((([(doorOf (Co.eyesOf c).place n pr).1, (doorOf (Co.eyesOf c).place n pr).2] : List Nat).take j).map fun k => V.int (k : Nat)))) ⟨same_new hD2 _, upd_same⟩ (fun j H' _ h => SqT.of (h.1 _ _ ht9)) ?_ ?_
    · rintro j y H10 hy ⟨s10, hD10⟩
      obtain ⟨q0, hq, hy9⟩ : ∃ q0, ([(Co.flanks pr).1, (Co.flanks pr).2] : List Sq)[j]? = some q0 ∧ IsSq H9 y q0 := by
        match j, hy with
        | 0, hy => cases hy; exact ⟨_, rfl, h1⟩
        | 1, hy => cases hy; exact ⟨_, rfl, h2⟩
      have hdj : ([(doorOf (Co.eyesOf c).place n pr).1, (doorOf (Co.eyesOf c).place n pr).2] : List Nat)[j]? = some (faceOf (Co.eyesOf c).place n q0) := by
        match j, hq with
        | 0, hq => cases hq; rfl
        | 1, hq => cases hq; rfl
      have hj2 : j < 2 := (List.getElem?_eq_some_iff.mp hq).1
      have hy10 := hy9.tk (.of_same s10)
      have ob10 := s10 _ _ (s9 _ _ ob8)
      have P10 := s10 _ _ (s9 _ _ P8)
      have fin : Same H9 (upd H10 D2 (.lst ((([(doorOf (Co.eyesOf c).place n pr).1, (doorOf (Co.eyesOf c).place n pr).2] : List Nat).take j).map (fun k => V.int (k : Nat)) ++ [.int (faceOf (Co.eyesOf c).place n q0 : Nat)]))) ∧ (upd H10 D2 (.lst ((([(doorOf (Co.eyesOf c).place n pr).1, (doorOf (Co.eyesOf c).place n pr).2] : List Nat).take j).map (fun k => V.int (k : Nat)) ++ [.int (faceOf (Co.eyesOf c).place n q0 : Nat)]))) D2 = some (.lst ((([(doorOf (Co.eyesOf c).place n pr).1, (doorOf (Co.eyesOf c).place n pr).2] : List Nat).take (j + 1)).map fun k => V.int (k : Nat))) := by
        refine ⟨sapp s10 hD2 _, ?_⟩
        rw [upd_same, take_snoc hdj, List.map_append]; rfl
      refine ⟨rfl, tyes ⟨_, rfl, a, C, dx, _, _, rfl, ob10, W.cls, W.n_place, rfl, Pl, rfl, .inr ⟨_, .inl P10⟩, _, rfl, _, rfl, a, C, dx, _, _, rfl, ob10, W.cls, W.n_outside, rfl, ?_⟩⟩
      by_cases hq0 : q0 ∈ pk
      · obtain ⟨m, e1', e2'⟩ := (hpl.2.2 q0).1 hq0
        refine ⟨_, get_in (.inl P10) hy10 hq0, _, hD10, small99 (by rw [List.length_map, List.length_take]; simp; omega), ?_⟩
        have : (some (pfn q0)).getD (.int (n : Nat)) = .int (faceOf (Co.eyesOf c).place n q0 : Nat) := by rw [e2']; unfold faceOf; rw [e1']; rfl
        rw [this]
        exact fin
      · refine ⟨_, get_out (.inl P10) hy10 hq0, _, hD10, small99 (by rw [List.length_map, List.length_take]; simp; omega), ?_⟩
        have : (none : Option V).getD (.int (n : Nat)) = .int (faceOf (Co.eyesOf c).place n q0 : Nat) := by unfold faceOf; rw [(hpl.2.2 q0).2 hq0]; rfl
        rw [this]
        exact fin
    · rintro H10 ⟨s10, hD10⟩
      have s910 := s9.trans s10
      have hD10 : H10 D2 = some (.lst [.int ((doorOf (Co.eyesOf c).place n pr).1 : Nat), .int ((doorOf (Co.eyesOf c).place n pr).2 : Nat)]) := hD10
      have k10 : KeepB [dd] H7 H10 := k8.trans (.of_same s910)
      have d10 := s910 _ _ d8
      have dv10 := dv8.tk (.of_same s910)
      have hxs10 : Paired (IsPr H10) xs c.sidesOf := pTk (fun _ _ _ _ h k => h.tk k) hxs8 (.of_same s910)
      have ob10 := s910 _ _ ob8
      have hx10 := hx8.tk (.of_same s910)
      refine ⟨D2, _, rfl, SqL.of hD10, rfl, _, _, rfl, _, _, rfl, rfl, ?_⟩
      generalize hdo : doorOf (Co.eyesOf c).place n pr = dr at *
      refine ⟨_, rfl, _, rfl, rfl, _, rfl, ?_⟩
      unfold doorItem
      rw [hdo]
      have skip : ∀ H', KeepB [dd] H7 H' → H' dd = some (.dT kvs) → DoorV H' kvs L → Paired (IsPr H') xs c.sidesOf → ¬ (dr.1 ≠ dr.2 ∧ dr ∉ L.map (·.1) ∧ (dr.2, dr.1) ∉ L.map (·.1)) → ∃ o3 o4 o5 o6 o7 o8 kvs, ([some (.ref a), some v, some (.ref F), some x, some (.int (dr.1 : Nat)), some (.int (dr.2 : Nat)), o6', o7', o8'] : L2.St) = [some (.ref a), some v, some (.ref F), o3, o4, o5, o6, o7, o8] ∧ KeepB [dd] H7 H' ∧ H' dd = some (.dT kvs) ∧
          DoorV H' kvs (if dr.1 ≠ dr.2 ∧ dr ∉ L.map (·.1) ∧ (dr.2, dr.1) ∉ L.map (·.1) then L ++ [(dr, pr)] else L) ∧ Paired (IsPr H') xs c.sidesOf := fun H' a1 a2 a3 a4 hno => by
        rw [if_neg hno]
        exact ⟨_, _, _, _, _, _, kvs, rfl, a1, a2, a3, a4⟩
      have nnx : ∀ {H' : Hp} {b : Addr} {o : HO}, TK H' (upd H' b o) → True := fun _ => trivial
      have st : ∀ Hx, Same H10 Hx → KeepB [dd] H7 Hx ∧ Hx dd = some (.dT kvs) ∧ DoorV Hx kvs L ∧ Paired (IsPr Hx) xs c.sidesOf ∧ Hx a = some (.ins C dx [pf "place" (.ref Pl), pf "counts" (.ref D), pf "outside" (.int (n : Nat)), pf "doors" (.ref dd)]) ∧ IsPr Hx x pr := fun Hx sx =>
        ⟨k10.trans (.of_same sx), sx _ _ d10, dv10.tk (.of_same sx), pTk (fun _ _ _ _ h k => h.tk k) hxs10 (.of_same sx), sx _ _ ob10, hx10.tk (.of_same sx)⟩
      have skip' : ∀ Hx, Same H10 Hx → ¬ (dr.1 ≠ dr.2 ∧ dr ∉ L.map (·.1) ∧ (dr.2, dr.1) ∉ L.map (·.1)) → _ := fun Hx sx hno => let ⟨b1, b2, b3, b4, _⟩ := st Hx sx; skip Hx b1 b2 b3 b4 hno
      by_cases hne : dr.1 = dr.2
      · exact ite_ne_F (by rw [hne]) (iteF (skip' _ (.refl _) fun z => z.1 hne))
      · refine ite_ne_T (fun z => hne (by have := V.int.inj z; omega)) ?_
        refine ⟨_, rfl, _, rfl, (by show 2 ≤ sizeLine; decide), fun p1 np1 => ?_⟩
        have u1 := same_new np1 (.tup [.int (dr.1 : Nat), .int (dr.2 : Nat)])
        obtain ⟨_, d11, dv11, _, ob11, _⟩ := st _ u1
        refine ⟨_, rfl, a, C, dx, _, _, rfl, ob11, W.cls, W.n_doors, rfl, ?_⟩
        by_cases h1in : dr ∈ L.map (·.1)
        · obtain ⟨vv, hvv⟩ := doorV_some dv11 h1in
          refine ⟨dd, some vv, rfl, .inr ⟨_, dk dr, p1, .inl d11, rfl, upd_same, hvv.symm⟩, _, rfl, iteF (iteF (skip' _ u1 fun z => z.2.1 h1in))⟩
        · refine ⟨dd, none, rfl, .inr ⟨_, dk dr, p1, .inl d11, rfl, upd_same, (doorV_none dv11 h1in).symm⟩, _, rfl, iteT ?_⟩
          refine ⟨_, rfl, _, rfl, (by show 2 ≤ sizeLine; decide), fun p2 np2 => ?_⟩
          have u2 := u1.trans (same_new np2 (.tup [.int (dr.2 : Nat), .int (dr.1 : Nat)]))
          obtain ⟨_, d12, dv12, _, ob12, _⟩ := st _ u2
          refine ⟨_, rfl, a, C, dx, _, _, rfl, ob12, W.cls, W.n_doors, rfl, ?_⟩
          by_cases h2in : (dr.2, dr.1) ∈ L.map (·.1)
          · obtain ⟨vv, hvv⟩ := doorV_some dv12 h2in
            refine ⟨dd, some vv, rfl, .inr ⟨_, dk (dr.2, dr.1), p2, .inl d12, rfl, upd_same, hvv.symm⟩, _, rfl, iteF (skip' _ u2 fun z => z.2.2 h2in)⟩
          · refine ⟨dd, none, rfl, .inr ⟨_, dk (dr.2, dr.1), p2, .inl d12, rfl, upd_same, (doorV_none dv12 h2in).symm⟩, _, rfl, iteT ?_⟩
            refine ⟨_, rfl, _, rfl, a, C, dx, _, _, rfl, ob12, W.cls, W.n_doors, rfl, _, rfl, _, rfl, (by show 2 ≤ sizeLine; decide), fun p3 np3 => ?_⟩
            have u3 := u2.trans (same_new np3 (.tup [.int (dr.1 : Nat), .int (dr.2 : Nat)]))
            obtain ⟨k13, d13, dv13, xs13, ob13, x13⟩ := st _ u3
            have kl : kvs.length ≤ 98 := by rw [pLen dv13]; omega
            refine ⟨dd, _, rfl, .inr ⟨_, dk dr, p3, d13, rfl, upd_same, small99 (by omega), rfl⟩, ?_⟩
            rw [putK_new _ (doorV_none dv13 h1in), if_pos ⟨hne, h1in, h2in⟩]
            generalize hH13 : upd (upd (upd H10 p1 _) p2 _) p3 _ = H13 at *
            have kP : TK H13 (upd H13 dd (.dT (kvs ++ [(dk dr, x)]))) := TK.put d13 fun xs z => by cases z
            exact ⟨_, _, _, _, _, _, _, rfl, k13.trans (.put (by simp) _), upd_same, .snoc (dv13.tk kP) ⟨rfl, x13.tk kP⟩, pTk (fun _ _ _ _ h k => h.tk k) xs13 kP⟩
  · rintro σ H8 ⟨o3', o4', o5', o6', o7', o8', kvs, rfl, k8, d8, dv8, hxs8⟩
    rw [List.take_of_length_le (by rw [pLen hxs]; exact Nat.le_refl _), ← hwd] at dv8
    have ob8 := k8 _ _ (by simpa using Ne.symm nda) (s7 _ _ o6)
    have c8 := k8 _ _ (by simpa using Ne.symm ndD) (s7 _ _ c6)
    intro ff hff
    have nfa : ff ≠ a := fun z => by rw [z, ob8] at hff; cases hff
    have nfd : ff ≠ dd := fun z => by rw [z, d8] at hff; cases hff
    have nfD : ff ≠ D := fun z => by rw [z, c8] at hff; cases hff
    have hff0 : H ff = none := by
      cases e : H ff with
      | none => rfl
      | some u => rw [k8 ff u (by simpa using nfd) (s7 _ _ (k6 ff u (by simpa using nfa) e))] at hff; cases hff
    refine ⟨_, rfl, a, C, dx, _, rfl, by rw [upd_ne (Ne.symm nfa)]; exact ob8, W.cls, W.n_flow, (by show 4 < 1000; decide), ?_⟩
    rw [put5]
    have tkB : TK H8 (upd (upd H8 ff (.dT [])) a (.ins C dx [pf "place" (.ref Pl), pf "counts" (.ref D), pf "outside" (.int (n : Nat)), pf "doors" (.ref dd), pf "flow" (.ref ff)])) := (TK.new hff _).trans (TK.put (u := .ins C dx [pf "place" (.ref Pl), pf "counts" (.ref D), pf "outside" (.int (n : Nat)), pf "doors" (.ref dd)]) (by rw [upd_ne (Ne.symm nfa)]; exact ob8) fun xs z => by cases z)
    have kB : ∀ b o, b ≠ a → b ≠ ff → H8 b = some o → (upd (upd H8 ff (.dT [])) a (.ins C dx [pf "place" (.ref Pl), pf "counts" (.ref D), pf "outside" (.int (n : Nat)), pf "doors" (.ref dd), pf "flow" (.ref ff)])) b = some o := fun b o h1 h2 e => by rw [upd_ne h1, upd_ne h2]; exact e
    have oB : (upd (upd H8 ff (.dT [])) a (.ins C dx [pf "place" (.ref Pl), pf "counts" (.ref D), pf "outside" (.int (n : Nat)), pf "doors" (.ref dd), pf "flow" (.ref ff)])) a = some (.ins C dx [pf "place" (.ref Pl), pf "counts" (.ref D), pf "outside" (.int (n : Nat)), pf "doors" (.ref dd), pf "flow" (.ref ff)]) := upd_same
    have fB : (upd (upd H8 ff (.dT [])) a (.ins C dx [pf "place" (.ref Pl), pf "counts" (.ref D), pf "outside" (.int (n : Nat)), pf "doors" (.ref dd), pf "flow" (.ref ff)])) ff = some (.dT []) := by rw [upd_ne nfa]; exact upd_same
    generalize (upd (upd H8 ff (.dT [])) a (.ins C dx [pf "place" (.ref Pl), pf "counts" (.ref D), pf "outside" (.int (n : Nat)), pf "doors" (.ref dd), pf "flow" (.ref ff)])) = HB at *
    have dB := kB _ _ nda (Ne.symm nfd) d8
    have cB := kB _ _ nDa (Ne.symm nfD) c8
    have dvB := dv8.tk tkB
    refine ⟨dd, _, dB, True.intro, fun od => ?_⟩
    refine ⟨_, rfl, a, C, dx, _, _, rfl, by rw [upd_ne (Ne.symm nda)]; exact oB, W.cls, W.n_doors, rfl, dd, od, rfl, .inr ⟨_, upd_same, ?_⟩⟩
    have hkl : kvs.length = (webDoors c).length := pLen dvB
    have hwl := doors_len g
    refine for_it walk_keysT (fun i σ H' => ∃ o3 o4 o5 o6 o7 o8, σ = [some (.ref a), some v, some (.ref F), o3, o4, o5, o6, o7, o8] ∧ KeepB [dd, ff] HB H' ∧ H' dd = some (.frz od (.dT kvs)) ∧ H' ff = some (.dT (flV (((webDoors c).map (·.1)).take i) fun _ => 0)))
      ⟨o3', o4', o5', o6', o7', o8', rfl, .put (by simp) _, upd_same, by rw [upd_ne nfd]; exact fB⟩ (fun i σ H' _ h => by obtain ⟨_, _, _, _, _, _, _, _, h, _⟩ := h; exact h) ?_ ?_
    · rintro i x σ H1' H9 hi ⟨o3, o4, o5, o6, o7, o8, rfl, k9, d9, f9⟩ ⟨rfl, kk, vv, qa, hkv, rfl, hqa⟩
      obtain ⟨⟨dr, sd⟩, hdr, hk, _⟩ := paired_get dvB hkv
      have hk : kk = dk dr := hk
      subst hk
      have hdr' : ((webDoors c).map (·.1))[i]? = some dr := by rw [List.getElem?_map, hdr]; rfl
      have hnot : dr ∉ ((webDoors c).map (·.1)).take i := by
        have := hfit.nodup.sublist (List.take_sublist (i + 1) _)
        rw [take_snoc hdr', List.nodup_append] at this
        exact fun m => this.2.2 dr m dr (by simp) rfl
      refine ⟨_, rfl, a, C, dx, _, _, rfl, k9 _ _ (by simp [Ne.symm nda, Ne.symm nfa]) oB, W.cls, W.n_flow, rfl, _, rfl, ff, _, rfl, .inr ⟨_, dk dr, qa, f9, rfl, hqa, small99 (by unfold flV; rw [kv_len, List.length_take]; rw [List.length_map]; omega), rfl⟩, ?_⟩
      have ep : putK (flV (((webDoors c).map (·.1)).take i) fun _ => 0) (dk dr) (.int 0) = flV (((webDoors c).map (·.1)).take (i + 1)) fun _ => 0 := by
        unfold flV
        rw [put_new dk_inj hnot, take_snoc hdr']
        exact kv_congr fun x _ => by unfold updF; split <;> rfl
      rw [ep]
      refine ⟨_, _, _, _, _, _, rfl, k9.trans (.put (by simp) _), ?_, upd_same⟩
      rw [upd_ne (Ne.symm nfd)]; exact d9
    · rintro σ H9 ⟨o3, o4, o5, o6, o7, o8, rfl, k9, d9, f9⟩
      rw [List.take_of_length_le (by rw [hkl, List.length_map]; exact Nat.le_refl _)] at f9
      refine ⟨d9, ?_⟩
      have tk9 : TK HB (upd H9 dd (.dT kvs)) := by
        intro b xs e
        have h1 : b ≠ dd := ne_of e dB fun z => nomatch z
        have h2 : b ≠ ff := ne_of e fB fun z => nomatch z
        rw [upd_ne h1]
        exact k9 _ _ (by simp [h1, h2]) e
      refine q _ Pl D dd ff kvs (fun b o hb e => ?_) hff0 ⟨?_, ?_, upd_same, dvB.tk tk9, ?_, nfd⟩
      · have hba : b ≠ a := by simpa using hb
        have hbd : b ≠ dd := fun z => by rw [z, hdd0] at e; cases e
        have hbf : b ≠ ff := fun z => by rw [z, hff0] at e; cases e
        rw [upd_ne hbd]
        exact k9 _ _ (by simp [hbd, hbf]) (kB _ _ hba hbf (k8 _ _ (by simpa using hbd) (s7 _ _ (k6 _ _ hb e))))
      · rw [upd_ne (Ne.symm nda), hn]
        exact k9 _ _ (by simp [Ne.symm nda, Ne.symm nfa]) oB
      · rw [upd_ne (Ne.symm ndD)]
        exact k9 _ _ (by simp [Ne.symm ndD, Ne.symm nfD]) cB
      · rw [upd_ne nfd]
        exact f9
end
end Wk

set_option maxRecDepth 100000
set_option maxHeartbeats 4000000
namespace Wk
open PySem PySem.Spec PyProof.Rows L2 Co
section
variable {P : Program} {w : World} {K : PySem.W.Frag} {mg : Str → Option Value} {base : Heap} {C : Addr}
theorem sc_settled : FnScope ["chart", "web"] ["chart"] (defScope (top 38)) := ⟨rfl, rfl, rfl, by decide +kernel, rfl, by decide +kernel, by decide +kernel⟩
def spSettled (C : Addr) : SpV := fun vs H Q => ∃ v c, vs = [v] ∧ IsCh H v c ∧ c.Good ∧ ∀ H' a dx pl cn dd ff kvs, Same H H' → WebAt C c H' a dx pl cn dd ff kvs (flowM c) → Q (.ref a) H'
theorem g_settled (T : Txt K mg) (W : Wb K mg C) : G P w K mg base 8 "settled" (spSettled C) := by
  refine g_of 7 T.d_settled sc_settled (by rintro vs H Q ⟨v, c, rfl, _⟩; rfl) (fun _ _ _ _ _ _ us hl => match us, hl with | [_], _ => rfl) ?_
  rintro f cdv A outer s0 H vs Q E hr ⟨v, c, rfl, hc, g, q⟩
  have nd := sc_settled.nd
  refine ⟨_, (pss_cons (ps_expr (pe_callG (g_need_chart T) hr rfl (pa_cons (pv 0) pa_nil)))
      (pss_cons (ps_set (i := 1) nd rfl (by first | exact Or.inl rfl | exact Or.inr rfl) (pe_makeG (g_Web_init T W) hr rfl W.glo (pa_cons (pv 0) pa_nil)))
      (pss_cons (ps_expr (pe_methG0 (g_Web_settle T W) W.cls hr (pv 1)))
      (pss_one (ps_ret (pv 1)))))), ?_⟩
  refine ⟨_, rfl, v, c, rfl, hc, g, fun H1 s1 => ?_⟩
  refine ⟨_, rfl, fun a dx ha hdx hne => ?_⟩
  have s2 : Same H1 (upd (upd H1 dx (.own a)) a (.ins C dx [])) := (same_new hdx _).trans (same_new (by rw [upd_ne (Ne.symm hne)]; exact ha) _)
  refine ⟨a, v, c, dx, rfl, hc.tk (.of_same (s1.trans s2)), g, upd_same, fun H3 pl cn dd ff kvs k3 hff hw => ⟨rfl, ?_⟩⟩
  have s3 : Same H1 H3 := fun b o e => k3 b o (by simpa using ne_of_none e ha) (s2 _ _ e)
  have hff1 : H1 ff = none := s2.free hff
  refine ⟨_, rfl, a, dx, _, rfl, hw.obj, rfl, a, c, dx, pl, cn, dd, ff, kvs, rfl, g, hw, fun H4 k4 hw4 => ?_⟩
  exact ⟨_, rfl, q H4 a dx pl cn dd ff kvs (s1.trans fun b o e => k4 b o (by simpa using ne_of_none e hff1) (s3 _ _ e)) hw4⟩
theorem sc_least_breaks : FnScope ["chart"] ["chart"] (defScope (top 39)) := ⟨rfl, rfl, rfl, by decide +kernel, rfl, by decide +kernel, by decide +kernel⟩
def spBreaks : SpV := fun vs H Q => ∃ v c, vs = [v] ∧ IsCh H v c ∧ c.Good ∧ ∀ H' p xs rows, Same H H' → H' p = some (.lst xs) → Paired (IsRw H') xs rows → rows.length ≤ 98 → wOf rows = lwM c → Q (.ref p) H'
theorem g_least_breaks (T : Txt K mg) (W : Wb K mg C) : G P w K mg base 9 "least_breaks" spBreaks := by
  refine g_of 8 T.d_least_breaks sc_least_breaks (by rintro vs H Q ⟨v, c, rfl, _⟩; rfl) (fun _ _ _ _ _ _ us hl => match us, hl with | [_], _ => rfl) ?_
  rintro f cdv A outer s0 H vs Q E hr ⟨v, c, rfl, hc, g, q⟩
  refine ⟨_, (pss_one (ps_ret (pe_methG0 (g_Web_told T W) W.cls hr (pe_callG (g_settled T W) hr rfl (pa_cons (pv 0) pa_nil))))), ?_⟩
  refine ⟨_, rfl, v, c, rfl, hc, g, fun H1 a dx pl cn dd ff kvs s1 hw => ?_⟩
  exact ⟨a, dx, _, rfl, hw.obj, rfl, a, c, dx, pl, cn, dd, ff, kvs, _, rfl, g, hw, fun H2 p xs rows s2 _ hp hxs hl hwt => q H2 p xs rows (s1.trans s2) hp hxs hl hwt⟩
theorem sc_least_weight : FnScope ["chart"] ["chart"] (defScope (top 41)) := ⟨rfl, rfl, rfl, by decide +kernel, rfl, by decide +kernel, by decide +kernel⟩
def spLeast : SpV := fun vs H Q => ∃ v c, vs = [v] ∧ IsCh H v c ∧ c.Good ∧ ∀ H', Same H H' → Q (.int (lwM c)) H'
theorem g_least_weight (T : Txt K mg) (W : Wb K mg C) : G P w K mg base 10 "least_weight" spLeast := by
  refine g_of 9 T.d_least_weight sc_least_weight (by rintro vs H Q ⟨v, c, rfl, _⟩; rfl) (fun _ _ _ _ _ _ us hl => match us, hl with | [_], _ => rfl) ?_
  rintro f cdv A outer s0 H vs Q E hr ⟨v, c, rfl, hc, g, q⟩
  refine ⟨_, (pss_one (ps_ret (pe_callG (g_weight T) hr rfl (pa_cons (pe_callG (g_least_breaks T W) hr rfl (pa_cons (pv 0) pa_nil)) pa_nil)))), ?_⟩
  refine ⟨_, rfl, v, c, rfl, hc, g, fun H1 p xs rows s1 hp hxs hl hwt => ?_⟩
  exact ⟨p, xs, rows, rfl, hp, hxs, by omega, fun H2 s2 => by rw [hwt]; exact q H2 (s1.trans s2)⟩
/-! ### the patches -/
def RetC (c : Ch) (H : Hp) (Q : VK) : Prop := ∀ H' v, Same H H' → IsCh H' v c → Q v H'
theorem paired_rev {α β : Type} {R : α → β → Prop} : ∀ {xs : List α} {l : List β}, Paired R xs l → Paired R xs.reverse l.reverse
  | _, _, .nil => .nil
  | _, _, .cons r t => by rw [List.reverse_cons, List.reverse_cons]; exact .snoc (paired_rev t) r
theorem row_get {rs : List V} {rows : List (List Int)} {H : Hp} (h : Paired (IsRow H) rs rows) {i : Nat} {x : V} (hx : rs[i]? = some x) : ∃ row r, rows[i]? = some row ∧ x = .ref r ∧ H r = some (.tup (row.map V.int)) := by
  obtain ⟨row, h1, r, h2, h3⟩ := paired_get h hx
  exact ⟨row, r, h1, h2, h3⟩
theorem sc_mirrored : FnScope ["chart", "line"] ["chart"] (defScope (top 52)) := ⟨rfl, rfl, rfl, by decide +kernel, rfl, by decide +kernel, by decide +kernel⟩
def spMirrored : SpV := fun vs H Q => ∃ v c, vs = [v] ∧ IsCh H v c ∧ c.Good ∧ RetC (mirroredM c) H Q
theorem g_mirrored (T : Txt K mg) : G P w K mg base 4 "mirrored" spMirrored := by
  refine g_of 3 T.d_mirrored sc_mirrored (by rintro vs H Q ⟨v, c, rfl, _⟩; rfl) (fun _ _ _ _ _ _ us hl => match us, hl with | [_], _ => rfl) ?_
  rintro f cdv A outer s0 H vs Q E hr ⟨v, c, rfl, hc, g, q⟩
  have nd := sc_mirrored.nd
  have h7 := g.h9
  refine ⟨_, (pss_cons (ps_expr (pe_callG (g_need_chart T) hr rfl (pa_cons (pv 0) pa_nil)))
      (pss_one (ps_ret (pe_tup (pa_cons (pe_ix (ixT K) (pv 0) pe_int (fun _ _ => rfl)) (pa_cons (pe_callTy (crTup K) (by rfl) T.n_tuple (by decide +kernel) (pa_cons (pe_lc (own := [("line", 1)]) rfl nd (piT K (pe_ix (ixT K) (pv 0) pe_int (fun _ _ => rfl))) (blkOk_by (by kernel_rfl)) (fun _ _ _ _ _ => (pg_name (i := 1) nd rfl (by first | exact Or.inl rfl | exact Or.inr rfl))) (fun _ _ _ _ _ => pts_nil) (fun _ _ _ _ _ => (peRevT K (pv 1)))) pa_nil)) pa_nil)))))), ?_⟩
  refine ⟨_, rfl, v, c, rfl, hc, g, fun H1 s1 => ?_⟩
  obtain ⟨a, b, rs, rfl, ha, hb, hrs⟩ := hc.tk (.of_same s1)
  refine ⟨_, rfl, a, _, _, _, rfl, rfl, SqT.of ha, rfl, ?_⟩
  refine ⟨_, rfl, a, _, _, _, rfl, rfl, SqT.of ha, rfl, b, rfl, ⟨_, SqT.of hb⟩, fun D hD => ?_⟩
  refine lc_tup (K := K) (a := b) (xs := rs) (fun i H' => Same H1 H' ∧ ∃ zs, H' D = some (.lst zs) ∧ Paired (IsRow H') zs ((c.rows.take i).map List.reverse)) ⟨same_new hD _, [], upd_same, .nil⟩ (fun i H' _ h => SqT.of (h.1 _ _ hb)) ?_ ?_
  · rintro i x H2 hx ⟨s2, zs, hD2, hz⟩
    obtain ⟨row, r, hrow, rfl, hr1⟩ := row_get hrs hx
    have hi : i < rs.length := (List.getElem?_eq_some_iff.mp hx).1
    have hrl : rs.length = c.rows.length := pLen hrs
    refine ⟨rfl, tyes ⟨_, rfl, r, _, rfl, SqT.of (s2 _ _ hr1), fun p hp => ⟨zs, at_new hD2 hp, small99 (by rw [pLen hz, List.length_map, List.length_take]; omega), ?_⟩⟩⟩
    have := snocL (R := IsRow) (fun _ _ _ _ h k => h.tk k) (s2.trans (same_new hp _)) hD (TK.new hp _) (at_new hD2 hp) hz (a := row.reverse) (y := .ref p) ⟨p, rfl, by rw [List.map_reverse]; exact upd_same⟩
    rw [take_snoc hrow, List.map_append]
    exact ⟨this.1, _, this.2⟩
  · rintro H2 ⟨s2, zs, hD2, hz⟩
    rw [List.take_of_length_le (by rw [pLen hrs]; exact Nat.le_refl _)] at hz
    refine ⟨D, zs, rfl, .inl ⟨SqL.of hD2, fun p hp => ⟨(by show 2 ≤ sizeLine; decide), fun t nt => ?_⟩⟩⟩
    have u1 := same_new hp (.tup zs)
    have u2 := same_new nt (.tup [.int c.clock, .ref p])
    refine q _ _ (s1.trans (s2.trans (u1.trans u2))) ⟨t, p, zs, rfl, upd_same, u2 _ _ upd_same, Paired.mapP hz fun _ _ r => r.tk (.of_same (u1.trans u2))⟩
theorem sc_turned : FnScope ["chart", "many", "column", "line"] ["chart"] (defScope (top 51)) := ⟨rfl, rfl, rfl, by decide +kernel, rfl, by decide +kernel, by decide +kernel⟩
def spTurned : SpV := fun vs H Q => ∃ v c, vs = [v] ∧ IsCh H v c ∧ c.Good ∧ RetC (turnedM c) H Q
theorem g_turned (T : Txt K mg) : G P w K mg base 4 "turned" spTurned := by
  refine g_of 3 T.d_turned sc_turned (by rintro vs H Q ⟨v, c, rfl, _⟩; rfl) (fun _ _ _ _ _ _ us hl => match us, hl with | [_], _ => rfl) ?_
  rintro f cdv A outer s0 H vs Q E hr ⟨v, c, rfl, hc, g, q⟩
  have nd := sc_turned.nd
  have h7 := g.h9
  have w7 := g.w9
  refine ⟨_, (pss_cons (ps_expr (pe_callG (g_need_chart T) hr rfl (pa_cons (pv 0) pa_nil)))
      (pss_cons (ps_set (i := 1) nd rfl (by first | exact Or.inl rfl | exact Or.inr rfl) (pe_callB (crLen K) (by rfl) T.n_len (by decide +kernel) (pa_cons (pe_ix (ixT K) (pe_ix (ixT K) (pv 0) pe_int (fun _ _ => rfl)) pe_int (fun _ _ => rfl)) pa_nil)))
      (pss_one (ps_ret (pe_tup (pa_cons (pe_ix (ixT K) (pv 0) pe_int (fun _ _ => rfl)) (pa_cons (pe_callTy (crTup K) (by rfl) T.n_tuple (by decide +kernel) (pa_cons (pe_lc (own := [("column", 2)]) rfl nd (pi_range1 rfl T.n_range (pa_cons (pv 1) pa_nil)) (blkOk_by (by kernel_rfl)) (fun _ _ _ _ _ => (pg_name (i := 2) nd rfl (by first | exact Or.inl rfl | exact Or.inr rfl))) (fun _ _ _ _ _ => pts_nil) (fun _ _ _ _ _ => (pe_callTy (crTup K) (by rfl) T.n_tuple (by decide +kernel) (pa_cons (pe_lc (own := [("line", 3)]) rfl nd (piT K (peRevT K (pe_ix (ixT K) (pv 0) pe_int (fun _ _ => rfl)))) (blkOk_by (by kernel_rfl)) (fun _ _ _ _ _ => (pg_name (i := 3) nd rfl (by first | exact Or.inl rfl | exact Or.inr rfl))) (fun _ _ _ _ _ => pts_nil) (fun _ _ _ _ _ => (pe_ix (ixT K) (pv 3) (pv 2) (fun _ _ => rfl)))) pa_nil)))) pa_nil)) pa_nil))))))), ?_⟩
  refine ⟨_, rfl, v, c, rfl, hc, g, fun H1 s1 => ?_⟩
  obtain ⟨a, b, rs, r0, rfl, ha, hb, hrs, hl, h0, hr0, hlw⟩ := (hc.tk (.of_same s1)).open_ g
  refine ⟨_, rfl, a, _, _, _, rfl, rfl, SqT.of ha, rfl, b, _, _, _, rfl, rfl, SqT.of hb, atI_nat h0, r0, _, rfl, .inr (SqT.of hr0), ?_⟩
  rw [hlw]
  refine ⟨_, rfl, a, _, _, _, rfl, rfl, SqT.of ha, rfl, ?_⟩
  refine ⟨_, rfl, _, rfl, by omega, by omega, fun D hD => ?_⟩
  rw [Int.toNat_natCast]
  refine lc_range (lo := 0) (n := c.wide) (fun i H' => Same H1 H' ∧ ∃ zs, H' D = some (.lst zs) ∧ Paired (IsRow H') zs ((List.range i).map fun j => c.rows.reverse.map fun line => line.getD j 0)) ⟨same_new hD _, [], upd_same, .nil⟩ ?_ ?_
  · rintro i H2 hi ⟨s2, zs, hD2, hz⟩
    refine ⟨rfl, tyes ⟨_, rfl, a, _, _, _, rfl, rfl, SqT.of (s2 _ _ ha), rfl, b, rs, rfl, SqT.of (s2 _ _ hb), fun rv hrv => ?_⟩⟩
    have u0 := same_new hrv (.tup rs.reverse)
    refine ⟨rv, rfl, ⟨_, SqT.of upd_same⟩, fun D2 hD2' => ?_⟩
    refine lc_tup (K := K) (a := rv) (xs := rs.reverse) (fun j H' => Same (upd H2 rv (.tup rs.reverse)) H' ∧ H' D2 = some (.lst (((c.rows.reverse.take j).map fun line => line.getD i 0).map V.int))) ⟨same_new hD2' _, upd_same⟩ (fun j H' _ h => SqT.of (h.1 _ _ upd_same)) ?_ ?_
    · rintro j x H3 hx ⟨s3, hD3⟩
      obtain ⟨row, r, hrow, rfl, hr1⟩ := row_get (paired_rev hrs) hx
      have hmem : row ∈ c.rows := List.mem_reverse.mp (List.mem_of_getElem? hrow)
      have hil : i < row.length := by rw [(g.all row hmem).1]; exact hi
      have hat : atI (row.map V.int) (0 + (i : Int)) = some (.int (row.getD i 0)) := by
        rw [Int.zero_add]
        refine atI_nat ?_
        rw [List.getElem?_map, List.getElem?_eq_getElem hil, getD_lt hil]; rfl
      have hj : j < rs.reverse.length := (List.getElem?_eq_some_iff.mp hx).1
      rw [List.length_reverse, hl] at hj
      have hh : c.high = c.rows.length := rfl
      refine ⟨rfl, tyes ⟨_, rfl, _, rfl, r, _, _, _, rfl, rfl, SqT.of (s3 _ _ (u0 _ _ (s2 _ _ hr1))), hat, _, hD3, small99 (by rw [List.length_map, List.length_map, List.length_take, List.length_reverse]; omega), sapp s3 hD2' _, ?_⟩⟩
      rw [upd_same, take_snoc hrow, List.map_append, List.map_append]; rfl
    · rintro H3 ⟨s3, hD3⟩
      rw [List.take_of_length_le (by rw [List.length_reverse, List.length_reverse, hl]; exact Nat.le_refl _)] at hD3
      have s23 := u0.trans s3
      refine ⟨D2, _, rfl, .inl ⟨SqL.of hD3, fun p hp => ⟨zs, at_new (s23 _ _ hD2) hp, small99 (by rw [pLen hz, List.length_map, List.length_range]; omega), ?_⟩⟩⟩
      have := snocL (R := IsRow) (fun _ _ _ _ h k => h.tk k) (s2.trans (s23.trans (same_new hp _))) hD (.of_same (s23.trans (same_new hp _))) (at_new (s23 _ _ hD2) hp) hz (a := c.rows.reverse.map fun line => line.getD i 0) (y := .ref p) ⟨p, rfl, upd_same⟩
      rw [List.range_succ, List.map_append]
      exact ⟨this.1, _, this.2⟩
  · rintro H2 ⟨s2, zs, hD2, hz⟩
    refine ⟨D, zs, rfl, .inl ⟨SqL.of hD2, fun p hp => ⟨(by show 2 ≤ sizeLine; decide), fun t nt => ?_⟩⟩⟩
    have u1 := same_new hp (.tup zs)
    have u2 := same_new nt (.tup [.int c.clock, .ref p])
    refine q _ _ (s1.trans (s2.trans (u1.trans u2))) ⟨t, p, zs, rfl, upd_same, u2 _ _ upd_same, Paired.mapP hz fun _ _ r => r.tk (.of_same (u1.trans u2))⟩
theorem sc_later : FnScope ["chart", "by", "rows", "line", "one"] ["chart", "by"] (defScope (top 53)) := ⟨rfl, rfl, rfl, by decide +kernel, rfl, by decide +kernel, by decide +kernel⟩
def spLater : SpV := fun vs H Q => ∃ v c, ∃ b : Int, vs = [v, .int b] ∧ IsCh H v c ∧ c.Good ∧ RetC (laterM c b) H Q
theorem g_ofD {x : Str} {st : Stmt} {N ps : List Str} {S : SpV} (k : Nat) (D : Df1 K mg x st) (sc : FnScope N ps (defScope st)) (hps : ps.length = 2) (len : ∀ vs H Q, S vs H Q → vs.length = ps.length)
    (hb : ∀ (T : Addr) (kV doc pm : Value) (an : Option Addr) (cdv ct : Value) (us its : List Value), us.length = 2 → its.length = 1 →
      ∃ k, bindArgs (PySem.W.fnOf x x (defArgs st) (defBody st) (defScope st) (.ref T) kV doc pm an cdv ct) ⟨us, []⟩ = seqItems? (.ref T) >>= k ∧ k (some its.toArray) = pure (ps.zip (us ++ its.drop 1)))
    (body : ∀ (f : Addr) (cdv : Value) (A : Around) (outer : List Env) (s : Shared) (H : Hp) (vs : List V) (Q : VK) (E : XK), Room k (A.deeper (envOfC x (defScope st) s.heap.objs.size f cdv)) → S vs H Q →
      ∃ t, PSs (Bc P w K mg base N x st f cdv A outer s H E) (defBody st) t ∧ t { nx := fun _ H' => Q .non H', rt := Q } (start N vs) H) : G P w K mg base (k + 1) x S := by
  obtain ⟨f, fd, F, hm⟩ := D.ex
  obtain ⟨ds, hds, hbd⟩ := F.binds1 (ps := ps) 2 1 (by intro e; cases e) (by rw [hps]; rfl) hb
  have : ds = [] := by
    have h0 : Vals ([] : List V) ds := hds
    cases h0; rfl
  subst this
  refine ⟨f, fd, ps, F.ok sc (fun vs H Q E h => len vs H Q h) (fun cdv A outer s H vs Q E hr h => ?_), hm, F.kp, hbd⟩
  obtain ⟨t, h1, h2⟩ := body f cdv A outer s H vs Q E hr h
  exact ⟨t, h1.nox, h2⟩
theorem g_later (T : Txt K mg) (W : Wb K mg C) : G P w K mg base 4 "later" spLater := by
  refine g_ofD 3 W.d_later sc_later rfl (by rintro vs H Q ⟨v, c, b, rfl, _⟩; rfl) (fun _ _ _ _ _ _ _ us its hl h1 => match us, hl, its, h1 with | [_, _], _, [_], _ => ⟨_, rfl, rfl⟩) ?_
  rintro f cdv A outer s0 H vs Q E hr ⟨v, c, by_, rfl, hc, g, q⟩
  have nd := sc_later.nd
  have h7 := g.h9
  refine ⟨_, (pss_cons (ps_expr (pe_callG (g_need_chart T) hr rfl (pa_cons (pv 0) pa_nil)))
      (pss_cons (ps_setLc (i := 2) (own := [("line", 3)]) rfl nd rfl rfl (sw_true rfl rfl rfl (by decide +kernel)) (piT K (pe_ix (ixT K) (pv 0) pe_int (fun _ _ => rfl))) (blkOk_by (by kernel_rfl)) (fun _ _ _ _ _ => (pg_name (i := 3) nd rfl (by first | exact Or.inl rfl | exact Or.inr rfl))) (fun _ _ _ _ _ => pts_nil) (fun _ _ _ _ _ => (pe_callTy (crTup K) (by rfl) T.n_tuple (by decide +kernel) (pa_cons (pe_lc (own := [("one", 4)]) rfl nd (piT K (pv 3)) (blkOk_by (by kernel_rfl)) (fun _ _ _ _ _ => (pg_name (i := 4) nd rfl (by first | exact Or.inl rfl | exact Or.inr rfl))) (fun _ _ _ _ _ => pts_nil) (fun _ _ _ _ _ => (pe_ifExp (pt_cmpR op_ge (pv 4) pe_int (nomark _)) (pe_op op_mod (pe_op op_add (pv 4) (pv 1)) (pe_ix (ixT K) (pv 0) pe_int (fun _ _ => rfl))) (pv 4)))) pa_nil))))
      (pss_one (ps_ret (pe_tup (pa_cons (pe_ix (ixT K) (pv 0) pe_int (fun _ _ => rfl)) (pa_cons (pe_callTy (crTup K) (by rfl) T.n_tuple (by decide +kernel) (pa_cons (pv 2) pa_nil)) pa_nil))))))), ?_⟩
  refine ⟨_, rfl, v, c, rfl, hc, g, fun H1 s1 => ?_⟩
  obtain ⟨a, b, rs, rfl, ha, hb, hrs⟩ := hc.tk (.of_same s1)
  have lo := g.lo
  refine ⟨_, rfl, a, _, _, _, rfl, rfl, SqT.of ha, rfl, b, rfl, ⟨_, SqT.of hb⟩, fun D hD => ?_⟩
  refine lc_tup (K := K) (a := b) (xs := rs) (fun i H' => Same H1 H' ∧ ∃ zs, H' D = some (.lst zs) ∧ Paired (IsRow H') zs ((c.rows.take i).map fun line => line.map fun one => if 0 ≤ one then (one + by_) % c.clock else one)) ⟨same_new hD _, [], upd_same, .nil⟩ (fun i H' _ h => SqT.of (h.1 _ _ hb)) ?_ ?_
  · rintro i x H2 hx ⟨s2, zs, hD2, hz⟩
    obtain ⟨row, r, hrow, rfl, hr1⟩ := row_get hrs hx
    have hi : i < rs.length := (List.getElem?_eq_some_iff.mp hx).1
    have hrl : rs.length = c.rows.length := pLen hrs
    have hr2 := s2 _ _ hr1
    have hwl := (g.all row (List.mem_of_getElem? hrow)).1
    have w9 := g.w9
    refine ⟨rfl, tyes ⟨_, rfl, r, rfl, ⟨_, SqT.of hr2⟩, fun D2 hD2' => ?_⟩⟩
    refine lc_tup (K := K) (a := r) (xs := row.map V.int) (fun j H' => Same H2 H' ∧ H' D2 = some (.lst (((row.take j).map fun one => if 0 ≤ one then (one + by_) % c.clock else one).map V.int))) ⟨same_new hD2' _, upd_same⟩ (fun j H' _ h => SqT.of (h.1 _ _ hr2)) ?_ ?_
    · rintro j y H3 hy ⟨s3, hD3⟩
      rw [List.getElem?_map] at hy
      obtain ⟨z, hz', rfl⟩ := Option.map_eq_some_iff.mp hy
      have hj : j < row.length := (List.getElem?_eq_some_iff.mp hz').1
      have ha3 := s3 _ _ (s2 _ _ ha)
      have hlen : ((((row.take j).map fun one => if 0 ≤ one then (one + by_) % c.clock else one).map V.int)).length < sizeLine := small99 (by rw [List.length_map, List.length_map, List.length_take]; omega)
      refine ⟨rfl, tyes ⟨_, rfl, _, _, rfl, rfl, _, rfl, ?_⟩⟩
      by_cases hz0 : 0 ≤ z
      · refine iteD hz0 ⟨_, rfl, _, rfl, _, _, rfl, rfl, _, rfl, a, _, _, _, rfl, rfl, SqT.of ha3, rfl, _, _, rfl, rfl, (by show 0 < c.clock; omega), _, hD3, hlen, sapp s3 hD2' _, ?_⟩
        rw [upd_same, take_snoc hz', List.map_append, List.map_append]
        simp only [List.map_cons, List.map_nil, if_pos hz0]
      · refine iteN hz0 ⟨_, rfl, _, hD3, hlen, sapp s3 hD2' _, ?_⟩
        rw [upd_same, take_snoc hz', List.map_append, List.map_append]
        simp only [List.map_cons, List.map_nil, if_neg hz0]
    · rintro H3 ⟨s3, hD3⟩
      rw [List.length_map, List.take_of_length_le (Nat.le_refl _)] at hD3
      refine ⟨D2, _, rfl, .inl ⟨SqL.of hD3, fun p hp => ⟨zs, at_new (s3 _ _ hD2) hp, small99 (by rw [pLen hz, List.length_map, List.length_take]; omega), ?_⟩⟩⟩
      have := snocL (R := IsRow) (fun _ _ _ _ h k => h.tk k) (s2.trans (s3.trans (same_new hp _))) hD (.of_same (s3.trans (same_new hp _))) (at_new (s3 _ _ hD2) hp) hz (a := row.map fun one => if 0 ≤ one then (one + by_) % c.clock else one) (y := .ref p) ⟨p, rfl, upd_same⟩
      rw [take_snoc hrow, List.map_append]
      exact ⟨this.1, _, this.2⟩
  · rintro H2 ⟨s2, zs, hD2, hz⟩
    rw [List.take_of_length_le (by rw [pLen hrs]; exact Nat.le_refl _)] at hz
    refine ⟨_, rfl, a, _, _, _, rfl, rfl, SqT.of (s2 _ _ ha), rfl, _, rfl, D, zs, rfl, .inl ⟨SqL.of hD2, fun p hp => ⟨(by show 2 ≤ sizeLine; decide), fun t nt => ?_⟩⟩⟩
    have u1 := same_new hp (.tup zs)
    have u2 := same_new nt (.tup [.int c.clock, .ref p])
    refine q _ _ (s1.trans (s2.trans (u1.trans u2))) ⟨t, p, zs, rfl, upd_same, u2 _ _ upd_same, Paired.mapP hz fun _ _ r => r.tk (.of_same (u1.trans u2))⟩
end
end Wk

set_option maxRecDepth 100000
set_option maxHeartbeats 4000000
namespace Wk
open PySem PySem.Spec PyProof.Rows L2 Co
theorem ints_sub {xs ys : List V} {ns : List Int} (h : xs = ns.map V.int) (s : ∀ y ∈ ys, y ∈ xs) : ∃ ms : List Int, ys = ms.map V.int := by
  subst h
  induction ys with
  | nil => exact ⟨[], rfl⟩
  | cons y r ih =>
    obtain ⟨ms, e⟩ := ih fun z hz => s z (List.mem_cons_of_mem _ hz)
    obtain ⟨m, _, e2⟩ := List.mem_map.mp (s y List.mem_cons_self)
    exact ⟨m :: ms, by rw [List.map_cons, e, e2]⟩
/-- the box of the draws -/
def IsBox (H : Hp) (b : Addr) : Prop := ∃ (cl : Addr) (cells : List Int) (p : Nat) (r t s : Int), H b = some (.lst [.ref cl, .int (p : Nat), .int r, .int t, .int s]) ∧ cl ≠ b ∧ H cl = some (.lst (cells.map V.int))
theorem IsBox.keep {H H' : Hp} {b : Addr} {o : HO} (h : IsBox H b) (s : Same H H') : IsBox H' b := let ⟨cl, cells, p, r, t, z, h1, h2, h3⟩ := h; ⟨cl, cells, p, r, t, z, s _ _ h1, h2, s _ _ h3⟩
theorem box_same {H H' : Hp} {b : Addr} (h : IsBox H b) (s : Same H H') : IsBox H' b := let ⟨cl, cells, p, r, t, z, h1, h2, h3⟩ := h; ⟨cl, cells, p, r, t, z, s _ _ h1, h2, s _ _ h3⟩
theorem box_at {H : Hp} {b : Addr} (h : IsBox H b) : ∃ xs, H b = some (.lst xs) := let ⟨_, _, _, _, _, _, h1, _⟩ := h; ⟨_, h1⟩
/-- a draw came back -/
def slot0 : HO → Option V
  | .lst (x :: _) => some x
  | _ => none
def Cl0 (H : Hp) (b : Addr) : Option V := (H b).bind slot0
theorem cl0_of {H H' : Hp} {b : Addr} {x : V} {r r' : List V} (h : H b = some (.lst (x :: r))) (h' : H' b = some (.lst (x :: r'))) : Cl0 H' b = Cl0 H b := by
  unfold Cl0
  rw [h, h']; rfl
def Bx (H H' : Hp) (b : Addr) : Prop := IsBox H' b ∧ Cl0 H' b = Cl0 H b
theorem Bx.trans {H H1 H2 : Hp} {b : Addr} (h : Bx H H1 b) (g : Bx H1 H2 b) : Bx H H2 b := ⟨g.1, g.2.trans h.2⟩
theorem bx_same {H H' : Hp} {b : Addr} (h : IsBox H b) (s : Same H H') : Bx H H' b := by
  refine ⟨box_same h s, ?_⟩
  obtain ⟨cl, cells, p, r, t, z, h1, h2, h3⟩ := h
  exact cl0_of h1 (s _ _ h1)
/-- a change apart from the box and its cells -/
theorem bx_put {H0 H : Hp} {b L : Addr} {o : HO} (h : Bx H0 H b) (h0 : IsBox H0 b) (hL : H0 L = none) : Bx H0 (upd H L o) b := by
  obtain ⟨⟨cl, cells, p, r, t, s, h1, h2, h3⟩, e⟩ := h
  obtain ⟨cl', cells', p', r', t', s', h1', h2', h3'⟩ := h0
  have ec : cl = cl' := by
    unfold Cl0 at e
    rw [h1, h1'] at e
    have e2 : some (V.ref cl) = some (V.ref cl') := e
    cases e2; rfl
  subst ec
  have n1 : cl ≠ L := fun z => by rw [z, hL] at h3'; cases h3'
  have n2 : b ≠ L := fun z => by rw [z, hL] at h1'; cases h1'
  refine ⟨⟨cl, cells, p, r, t, s, by rw [upd_ne n2]; exact h1, h2, by rw [upd_ne n1]; exact h3⟩, ?_⟩
  rw [← e]
  unfold Cl0
  rw [upd_ne n2]
def RetB (b : Addr) (H : Hp) (A : Hp → Prop) : Prop := ∀ H', KeepB [b] H H' → Bx H H' b → A H'
section
variable {P : Program} {w : World} {K : PySem.W.Frag} {mg : Str → Option Value} {base : Heap}
theorem sc__law_mixed : FnScope ["_law_number", "_law_turn", "_law_base", "_law_more"] ["_law_number", "_law_turn"] (defScope (top 56)) := ⟨rfl, rfl, rfl, by decide +kernel, rfl, by decide +kernel, by decide +kernel⟩
def spMixed : SpV := fun vs H Q => ∃ a b : Int, vs = [.int a, .int b] ∧ ∀ z : Int, Q (.int z) H
theorem g__law_mixed (T : Txt K mg) : G P w K mg base 1 "_law_mixed" spMixed := by
  refine g_of 0 T.d__law_mixed sc__law_mixed (by rintro vs H Q ⟨a, b, rfl, _⟩; rfl) (fun _ _ _ _ _ _ us hl => match us, hl with | [_, _], _ => rfl) ?_
  rintro f cdv A outer s0 H vs Q E hr ⟨a, b, rfl, q⟩
  have nd := sc__law_mixed.nd
  refine ⟨_, (pss_cons (ps_set (i := 2) nd rfl (by first | exact Or.inl rfl | exact Or.inr rfl) (pe_op op_mod (pe_op op_add (pe_op op_add (pe_op op_mul (pv 0) pe_int) (pe_op op_mul (pv 1) pe_int)) pe_int) pe_int))
      (pss_cons (ps_set (i := 3) nd rfl (by first | exact Or.inl rfl | exact Or.inr rfl) (pe_op op_add (pe_op op_mul (pv 1) pe_int) (pe_op op_mod (pe_op op_fdiv (pv 0) pe_int) pe_int)))
      (pss_one (ps_ret (pe_op op_fdiv (pe_op op_mod (pe_op op_add (pe_op op_mul (pv 2) (pe_op op_add (pe_op op_mod (pv 2) pe_int) pe_int)) (pv 3)) pe_int) pe_int))))), ?_⟩
  refine ⟨_, rfl, _, _, rfl, rfl, .inr ⟨by decide, by decide⟩, _, rfl, _, _, rfl, rfl, .inr ⟨by decide, by decide⟩, _, _, rfl, rfl, _, _, rfl, rfl, _, _, rfl, rfl, (by show (0 : Int) < 2147483647; decide), ?_⟩
  refine ⟨_, rfl, _, _, rfl, rfl, .inr ⟨by decide, by decide⟩, _, rfl, _, _, rfl, rfl, ⟨by decide, by decide⟩, _, _, rfl, rfl, (by show (0 : Int) < 65521; decide), _, _, rfl, rfl, ?_⟩
  have hb := Int.emod_nonneg ((a * 7919 + b * 104729 + 17) % 2147483647) (show (9973 : Int) ≠ 0 by decide)
  have hb2 := Int.emod_lt_of_pos ((a * 7919 + b * 104729 + 17) % 2147483647) (show (0 : Int) < 9973 by decide)
  refine ⟨_, rfl, _, rfl, _, _, rfl, rfl, (by show (0 : Int) < 9973; decide), _, _, rfl, rfl, _, _, rfl, rfl, .inr ⟨by show _ < _ + 1; omega, by show _ + 1 < _; omega⟩, _, rfl, _, _, rfl, rfl, _, _, rfl, rfl, (by show (0 : Int) < 998244353; decide), _, _, rfl, rfl, ⟨by decide, by decide⟩, q _⟩
theorem sc__law_take : FnScope ["_law_box_here", "_law_many", "_law_rest", "_law_cell"] ["_law_box_here", "_law_many"] (defScope (top 57)) := ⟨rfl, rfl, rfl, by decide +kernel, rfl, by decide +kernel, by decide +kernel⟩
def spTake : SpV := fun vs H Q => ∃ b, ∃ m : Int, vs = [.ref b, .int m] ∧ IsBox H b ∧ 1 ≤ m ∧ m < 1000 ∧ RetB b H fun H' => ∀ z : Int, 0 ≤ z → z < m → Q (.int z) H'
theorem atL {xs : List V} {i : Nat} {v : V} (h : xs[i]? = some v) : atI xs ((i : Nat) : Int) = some v := atI_nat h
theorem ixL5 {xs : List V} {i : Nat} (h : i < xs.length) : ixN xs.length ((i : Nat) : Int) = some i := by
  unfold ixN; rw [if_pos (by omega), if_pos (by omega)]; simp
theorem g__law_take (T : Txt K mg) : G P w K mg base 2 "_law_take" spTake := by
  refine g_of 1 T.d__law_take sc__law_take (by rintro vs H Q ⟨b, m, rfl, _⟩; rfl) (fun _ _ _ _ _ _ us hl => match us, hl with | [_, _], _ => rfl) ?_
  rintro f cdv A outer s0 H vs Q E hr ⟨b, m, rfl, ⟨cl, cells, p, r, t, s, hb, hne, hcl⟩, hm1, hm2, q⟩
  have nd := sc__law_take.nd
  refine ⟨_, (pss_cons (ps_asg (pe_op op_add (pe_ix (ixL K) (pv 0) pe_int (fun _ _ => rfl)) pe_int) (pg_sub (pv 0) pe_int set_list))
      (pss_cons (ps_if (pt_cmpR op_gt (pe_ix (ixL K) (pv 0) pe_int (fun _ _ => rfl)) pe_int (nomark _)) (pss_cons (ps_set (i := 2) nd rfl (by first | exact Or.inl rfl | exact Or.inr rfl) (pe_ix (ixL K) (pv 0) pe_int (fun _ _ => rfl)))
      (pss_cons (ps_asg (pe_op op_fdiv (pv 2) (pv 1)) (pg_sub (pv 0) pe_int set_list))
      (pss_one (ps_ret (pe_op op_mod (pv 2) (pv 1)))))) pss_nil)
      (pss_cons (ps_if (pt_cmpR op_ge (pe_ix (ixL K) (pv 0) pe_int (fun _ _ => rfl)) (pe_callB (crLen K) (by rfl) T.n_len (by decide +kernel) (pa_cons (pe_ix (ixL K) (pv 0) pe_int (fun _ _ => rfl)) pa_nil)) (nomark _)) (pss_one (ps_ret (pe_op op_mod (pe_callG (g__law_mixed T) hr rfl (pa_cons (pe_ix (ixL K) (pv 0) pe_int (fun _ _ => rfl)) (pa_cons (pe_ix (ixL K) (pv 0) pe_int (fun _ _ => rfl)) pa_nil))) (pv 1)))) pss_nil)
      (pss_cons (ps_set (i := 3) nd rfl (by first | exact Or.inl rfl | exact Or.inr rfl) (pe_ix (ixL K) (pe_ix (ixL K) (pv 0) pe_int (fun _ _ => rfl)) (pe_ix (ixL K) (pv 0) pe_int (fun _ _ => rfl)) (fun _ _ => rfl)))
      (pss_cons (ps_asg (pe_op op_add (pe_ix (ixL K) (pv 0) pe_int (fun _ _ => rfl)) pe_int) (pg_sub (pv 0) pe_int set_list))
      (pss_cons (ps_if (pt_cmpR op_lt (pv 3) (pe_op op_pow pe_int pe_int) (nomark _)) (pss_one (ps_ret (pe_op op_mod (pe_callG (g__law_mixed T) hr rfl (pa_cons (pe_op op_add (pv 3) (pe_ix (ixL K) (pv 0) pe_int (fun _ _ => rfl))) (pa_cons (pe_ix (ixL K) (pv 0) pe_int (fun _ _ => rfl)) pa_nil))) (pv 1)))) pss_nil)
      (pss_cons (ps_asg (pe_op op_fdiv (pv 3) (pv 1)) (pg_sub (pv 0) pe_int set_list))
      (pss_one (ps_ret (pe_op op_mod (pv 3) (pv 1))))))))))), ?_⟩
  refine ⟨_, rfl, b, _, _, _, rfl, rfl, SqL.of hb, rfl, _, _, rfl, rfl, _, rfl, b, _, _, _, rfl, rfl, hb, rfl, ?_⟩
  have hb1 : (upd H b (.lst ([V.ref cl, .int (p : Nat), .int r, .int t, .int s].set 3 (.int (t + 1))))) b = some (.lst [.ref cl, .int (p : Nat), .int r, .int (t + 1), .int s]) := upd_same
  have hc1 : (upd H b (.lst ([V.ref cl, .int (p : Nat), .int r, .int t, .int s].set 3 (.int (t + 1))))) cl = some (.lst (cells.map V.int)) := by rw [upd_ne hne]; exact hcl
  have k1 : KeepB [b] H (upd H b (.lst ([V.ref cl, .int (p : Nat), .int r, .int t, .int s].set 3 (.int (t + 1))))) := .put (by simp) _
  have mpos : (0 : Int) < m := by omega
  have md : ∀ z : Int, 0 ≤ z % m ∧ z % m < m := fun z => ⟨Int.emod_nonneg _ (by omega), Int.emod_lt_of_pos _ mpos⟩
  refine ⟨_, rfl, b, _, _, _, rfl, rfl, SqL.of hb1, rfl, _, _, rfl, rfl, _, rfl, ?_⟩
  by_cases h0 : 0 < r
  · refine iteD h0 ?_
    refine ⟨_, rfl, b, _, _, _, rfl, rfl, SqL.of hb1, rfl, ?_⟩
    refine ⟨_, rfl, _, rfl, _, _, rfl, rfl, ⟨mpos, by omega⟩, _, rfl, b, _, _, _, rfl, rfl, hb1, rfl, ?_⟩
    refine ⟨_, rfl, _, rfl, _, _, rfl, rfl, mpos, ?_⟩
    exact q _ (k1.trans (.put (by simp) _)) ⟨⟨cl, cells, p, r / m, t + 1, s, upd_same, hne, by rw [upd_ne hne]; exact hc1⟩, cl0_of hb upd_same⟩ _ (md _).1 (md _).2
  · refine iteN h0 ?_
    refine ⟨_, rfl, b, _, _, _, rfl, rfl, SqL.of hb1, rfl, _, rfl, b, _, _, _, rfl, rfl, SqL.of hb1, rfl, cl, _, rfl, .inl (SqL.of hc1), _, _, rfl, rfl, _, rfl, ?_⟩
    have bx1 : IsBox (upd H b (.lst ([V.ref cl, .int (p : Nat), .int r, .int t, .int s].set 3 (.int (t + 1))))) b := ⟨cl, cells, p, r, t + 1, s, hb1, hne, hc1⟩
    by_cases hp : cells.length ≤ p
    · refine iteD (by rw [List.length_map]; omega) ?_
      refine ⟨_, rfl, b, _, _, _, rfl, rfl, SqL.of hb1, rfl, _, rfl, b, _, _, _, rfl, rfl, SqL.of hb1, rfl, _, _, rfl, fun z => ⟨_, rfl, _, _, rfl, rfl, mpos, q _ k1 ⟨bx1, cl0_of hb hb1⟩ _ (md _).1 (md _).2⟩⟩
    · refine iteN (by rw [List.length_map]; omega) ?_
      have hget : atI (cells.map V.int) ((p : Nat) : Int) = some (.int (cells.getD p 0)) := atI_nat (by
        rw [List.getElem?_map, List.getElem?_eq_getElem (show p < cells.length by omega), getD_lt (show p < cells.length by omega)]; rfl)
      refine ⟨_, rfl, b, _, _, _, rfl, rfl, SqL.of hb1, rfl, _, rfl, b, _, _, _, rfl, rfl, SqL.of hb1, rfl, cl, _, _, _, rfl, rfl, SqL.of hc1, hget, ?_⟩
      refine ⟨_, rfl, b, _, _, _, rfl, rfl, SqL.of hb1, rfl, _, _, rfl, rfl, _, rfl, b, _, _, _, rfl, rfl, hb1, rfl, ?_⟩
      have hb2 : (upd (upd H b (.lst ([V.ref cl, .int (p : Nat), .int r, .int t, .int s].set 3 (.int (t + 1))))) b (.lst ([V.ref cl, .int (p : Nat), .int r, .int (t + 1), .int s].set 1 (.int ((p : Int) + 1))))) b = some (.lst [.ref cl, .int ((p + 1 : Nat) : Int), .int r, .int (t + 1), .int s]) := upd_same
      have hc2 : (upd (upd H b (.lst ([V.ref cl, .int (p : Nat), .int r, .int t, .int s].set 3 (.int (t + 1))))) b (.lst ([V.ref cl, .int (p : Nat), .int r, .int (t + 1), .int s].set 1 (.int ((p : Int) + 1))))) cl = some (.lst (cells.map V.int)) := by rw [upd_ne hne]; exact hc1
      have k2 : KeepB [b] H (upd (upd H b (.lst ([V.ref cl, .int (p : Nat), .int r, .int t, .int s].set 3 (.int (t + 1))))) b (.lst ([V.ref cl, .int (p : Nat), .int r, .int (t + 1), .int s].set 1 (.int ((p : Int) + 1))))) := k1.trans (.put (by simp) _)
      have bx2 : IsBox (upd (upd H b (.lst ([V.ref cl, .int (p : Nat), .int r, .int t, .int s].set 3 (.int (t + 1))))) b (.lst ([V.ref cl, .int (p : Nat), .int r, .int (t + 1), .int s].set 1 (.int ((p : Int) + 1))))) b := ⟨cl, cells, p + 1, r, t + 1, s, hb2, hne, hc2⟩
      refine ⟨_, rfl, _, _, rfl, rfl, ⟨by decide, by decide, by decide⟩, _, _, rfl, rfl, _, rfl, ?_⟩
      by_cases hbig : cells.getD p 0 < 10 ^ 18
      · refine iteD hbig ?_
        refine ⟨_, rfl, _, rfl, b, _, _, _, rfl, rfl, SqL.of hb2, rfl, _, _, rfl, rfl, _, rfl, b, _, _, _, rfl, rfl, SqL.of hb2, rfl, _, _, rfl, fun z => ⟨_, rfl, _, _, rfl, rfl, mpos, q _ k2 ⟨bx2, cl0_of hb hb2⟩ _ (md _).1 (md _).2⟩⟩
      · refine iteN hbig ?_
        refine ⟨_, rfl, _, rfl, _, _, rfl, rfl, ⟨mpos, by omega⟩, _, rfl, b, _, _, _, rfl, rfl, hb2, rfl, ?_⟩
        refine ⟨_, rfl, _, rfl, _, _, rfl, rfl, mpos, ?_⟩
        exact q _ (k2.trans (.put (by simp) _)) ⟨⟨cl, cells, p + 1, cells.getD p 0 / m, t + 1, s, upd_same, hne, by rw [upd_ne hne]; exact hc2⟩, cl0_of hb upd_same⟩ _ (md _).1 (md _).2
theorem sc__law_clock : FnScope ["_law_box_here"] ["_law_box_here"] (defScope (top 58)) := ⟨rfl, rfl, rfl, by decide +kernel, rfl, by decide +kernel, by decide +kernel⟩
def spClk : SpV := fun vs H Q => ∃ b, vs = [.ref b] ∧ IsBox H b ∧ RetB b H fun H' => ∀ z : Int, 3 ≤ z → z ≤ 15 → z % 2 = 1 → Q (.int z) H'
theorem g__law_clock (T : Txt K mg) : G P w K mg base 3 "_law_clock" spClk := by
  refine g_of 2 T.d__law_clock sc__law_clock (by rintro vs H Q ⟨b, rfl, _⟩; rfl) (fun _ _ _ _ _ _ us hl => match us, hl with | [_], _ => rfl) ?_
  rintro f cdv A outer s0 H vs Q E hr ⟨b, rfl, hb, q⟩
  have nd := sc__law_clock.nd
  refine ⟨_, (pss_one (ps_ret (pe_op op_add pe_int (pe_op op_mul pe_int (pe_callG (g__law_take T) hr rfl (pa_cons (pv 0) (pa_cons pe_int pa_nil))))))), ?_⟩
  refine ⟨_, rfl, b, 7, rfl, hb, by decide, by decide, fun H1 k1 b1 z z0 z7 => ⟨_, _, rfl, rfl, .inl ⟨by decide, by decide⟩, _, _, rfl, rfl, ?_⟩⟩
  exact q H1 k1 b1 _ (by omega) (by omega) (by omega)
theorem sc__law_square : FnScope ["_law_box_here", "_law_clock_here", "_law_land", "_law_untold", "_law_calm", "_law_old", "_law_way"] ["_law_box_here", "_law_clock_here", "_law_land", "_law_untold", "_law_calm", "_law_old"] (defScope (top 59)) := ⟨rfl, rfl, rfl, by decide +kernel, rfl, by decide +kernel, by decide +kernel⟩
def spSqr : SpV := fun vs H Q => ∃ b, ∃ clk land unt calm old : Int, vs = [.ref b, .int clk, .int land, .int unt, .int calm, .int old] ∧ IsBox H b ∧ 3 ≤ clk ∧ clk ≤ 15 ∧ calm ≤ 5 ∧ RetB b H fun H' => ∀ z : Int, -2 ≤ z → z < clk → Q (.int z) H'
theorem g__law_square (T : Txt K mg) : G P w K mg base 3 "_law_square" spSqr := by
  refine g_of 2 T.d__law_square sc__law_square (by rintro vs H Q ⟨b, clk, land, unt, calm, old, rfl, _⟩; rfl) (fun _ _ _ _ _ _ us hl => match us, hl with | [_, _, _, _, _, _], _ => rfl) ?_
  rintro f cdv A outer s0 H vs Q E hr ⟨b, clk, land, unt, calm, old, rfl, hb, c3, c15, hcalm, q⟩
  have nd := sc__law_square.nd
  refine ⟨_, (pss_cons (ps_set (i := 6) nd rfl (by first | exact Or.inl rfl | exact Or.inr rfl) (pe_callG (g__law_take T) hr rfl (pa_cons (pv 0) (pa_cons pe_int pa_nil))))
      (pss_cons (ps_if (pt_cmpR op_lt (pv 6) (pv 2) (nomark _)) (pss_one (ps_ret (pe_un un_neg pe_int))) pss_nil)
      (pss_cons (ps_if (pt_cmpR op_lt (pv 6) (pe_op op_add (pv 2) (pv 3)) (nomark _)) (pss_one (ps_ret (pe_un un_neg pe_int))) pss_nil)
      (pss_cons (ps_if (PW.pt (pw_and (pt_cmpR op_gt (pv 4) pe_int (nomark _)) (pw_and (pt_cmpR op_ge (pv 5) pe_int (nomark _)) (pw_and1 (pt_cmpR op_gt (pe_callG (g__law_take T) hr rfl (pa_cons (pv 0) (pa_cons pe_int pa_nil))) pe_int (nomark _)))))) (pss_one (ps_ret (pe_op op_mod (pe_op op_sub (pe_op op_add (pv 5) (pe_callG (g__law_take T) hr rfl (pa_cons (pv 0) (pa_cons (pe_op op_add (pe_op op_mul pe_int (pv 4)) pe_int) pa_nil)))) (pv 4)) (pv 1)))) pss_nil)
      (pss_one (ps_ret (pe_callG (g__law_take T) hr rfl (pa_cons (pv 0) (pa_cons (pv 1) pa_nil))))))))), ?_⟩
  have md : ∀ z : Int, 0 ≤ z % clk ∧ z % clk < clk := fun z => ⟨Int.emod_nonneg _ (by omega), Int.emod_lt_of_pos _ (by omega)⟩
  refine ⟨_, rfl, b, 12, rfl, hb, by decide, by decide, fun H1 k1 b1 way _ _ => ?_⟩
  refine ⟨_, rfl, _, rfl, _, _, rfl, rfl, _, rfl, ?_⟩
  by_cases hl : way < land
  · exact iteD hl ⟨_, rfl, q H1 k1 b1 _ (by omega) (by omega)⟩
  refine iteN hl ⟨_, rfl, _, rfl, _, rfl, _, _, rfl, rfl, _, _, rfl, rfl, _, rfl, ?_⟩
  by_cases hu : way < land + unt
  · exact iteD hu ⟨_, rfl, q H1 k1 b1 _ (by omega) (by omega)⟩
  refine iteN hu ?_
  have last : ∀ H1, KeepB [b] H H1 → Bx H H1 b → spTake [.ref b, .int clk] H1 Q := fun H1 k1 b1 => ⟨b, clk, rfl, b1.1, by omega, by omega, fun H2 k2 b2 z z0 zc => q H2 (k1.trans k2) (b1.trans b2) z (by omega) zc⟩
  refine ⟨_, rfl, _, _, rfl, rfl, _, rfl, ?_⟩
  by_cases hc : 0 < calm
  · refine iteD hc ⟨_, rfl, _, _, rfl, rfl, _, rfl, ?_⟩
    by_cases ho : 0 ≤ old
    · refine iteD ho ⟨_, rfl, b, 4, rfl, b1.1, by decide, by decide, fun H2 k2 b2 z _ _ => ⟨_, _, rfl, rfl, _, rfl, ?_⟩⟩
      by_cases hz : 0 < z
      · refine iteD hz ?_
        refine ⟨_, rfl, _, rfl, _, rfl, _, _, rfl, rfl, .inl ⟨by decide, by decide⟩, _, _, rfl, rfl, b, _, rfl, b2.1, by omega, by omega, fun H3 k3 b3 z3 _ _ => ?_⟩
        exact ⟨_, _, rfl, rfl, _, rfl, _, _, rfl, rfl, _, rfl, _, _, rfl, rfl, (by show 0 < clk; omega), q H3 ((k1.trans k2).trans k3) ((b1.trans b2).trans b3) _ (by have := (md (old + z3 - calm)).1; show -2 ≤ (old + z3 - calm) % clk; omega) (md _).2⟩
      · exact iteN hz ⟨_, rfl, _, rfl, last H2 (k1.trans k2) (b1.trans b2)⟩
    · exact iteN ho (iteF ⟨_, rfl, _, rfl, last H1 k1 b1⟩)
  · exact iteN hc (iteF ⟨_, rfl, _, rfl, last H1 k1 b1⟩)
end
end Wk

set_option maxRecDepth 100000
set_option maxHeartbeats 4000000
namespace Wk
open PySem PySem.Spec PyProof.Rows L2 Co
/-! ### data of rows -/
def rD (row : List Int) : PyData := .tuple (row.map .int)
theorem lay_ints : ∀ l : List Int, PyData.canLayAll0 (l.map .int) = true
  | [] => by simp [PyData.canLayAll0]
  | x :: r => by rw [List.map_cons, PyData.canLayAll0, lay_ints r]; simp [PyData.canLay0]
theorem depth0 : ∀ l : List Int, PyData.depthAll (l.map .int) = 0
  | [] => by simp [PyData.depthAll]
  | x :: r => by rw [List.map_cons, PyData.depthAll, depth0 r]; simp [PyData.depth]
theorem shaped_ints (l : List Int) : SeqAt.shaped (.list (l.map .int)) = true := by
  have h2 : PyData.depth (.list (l.map .int)) ≤ 64 := by rw [PyData.depth, depth0]; omega
  unfold SeqAt.shaped
  rw [decide_eq_true h2, PyData.canLay0, lay_ints l]
  rfl
theorem lay_rows : ∀ l : List (List Int), PyData.canLayAll0 (l.map rD) = true
  | [] => by simp [PyData.canLayAll0]
  | x :: r => by
    rw [List.map_cons, PyData.canLayAll0, lay_rows r]
    show (PyData.canLay0 (.tuple (x.map .int)) && true) = true
    rw [PyData.canLay0, lay_ints]; rfl
theorem depth_rows : ∀ l : List (List Int), PyData.depthAll (l.map rD) ≤ 1
  | [] => by simp [PyData.depthAll]
  | x :: r => by
    rw [List.map_cons, PyData.depthAll]
    have := depth_rows r
    have h2 : PyData.depth (rD x) = 1 := by
      show PyData.depth (.tuple (x.map .int)) = 1
      rw [PyData.depth, depth0]
    omega
theorem shaped_rows (l : List (List Int)) : SeqAt.shaped (.list (l.map rD)) = true := by
  have h := depth_rows l
  have h2 : PyData.depth (.list (l.map rD)) ≤ 64 := by rw [PyData.depth]; omega
  unfold SeqAt.shaped
  rw [decide_eq_true h2, PyData.canLay0, lay_rows l]
  rfl
theorem dp_ints {K : PySem.W.Frag} {H : Hp} : ∀ l : List Int, DpAll K H (l.map V.int) (l.map .int)
  | [] => .nil
  | x :: r => .cons (.int x) (dp_ints r)
theorem dp_rows {K : PySem.W.Frag} {H : Hp} : ∀ {xs : List V} {l : List (List Int)}, Paired (IsRow H) xs l → DpAll K H xs (l.map rD)
  | _, _, .nil => .nil
  | _, _, .cons ⟨a, e, h⟩ t => e ▸ .cons (.tup (SqT.of h) (dp_ints _)) (dp_rows t)
theorem eqv_nil_of {α : Type} (f : α → PyData) (l : List α) : PyData.eqv (.list (l.map f)) (.list []) = decide (l = []) := by
  cases l with
  | nil => simp [PyData.eqv, PyData.eqvAll]
  | cons x r => simp [PyData.eqv, PyData.eqvAll]
theorem eqv_ints : ∀ l m : List Int, PyData.eqvAll (l.map .int) (m.map .int) = decide (l = m)
  | [], [] => by simp [PyData.eqvAll]
  | [], _ :: _ => by simp [PyData.eqvAll]
  | _ :: _, [] => by simp [PyData.eqvAll]
  | x :: r, y :: t => by
    rw [List.map_cons, List.map_cons, PyData.eqvAll, eqv_ints r t]
    simp only [PyData.eqv]
    rw [Bool.eq_iff_iff]
    simp
theorem atLast {xs : List V} {v : V} (h : xs.getLast? = some v) : atI xs (-1) = some v := by
  have hne : xs ≠ [] := fun e => by rw [e] at h; cases h
  have e : xs.dropLast ++ [xs.getLast hne] = xs := List.dropLast_concat_getLast hne
  have e2 : xs.getLast hne = v := by rw [List.getLast?_eq_some_getLast hne] at h; exact Option.some.inj h
  rw [← e, e2]
  exact atI_last _ _
section
variable {P : Program} {w : World} {K : PySem.W.Frag} {mg : Str → Option Value} {base : Heap}
theorem sc__law_near_hour : FnScope ["_law_rows", "_law_line"] ["_law_rows", "_law_line"] (defScope (top 60)) := ⟨rfl, rfl, rfl, by decide +kernel, rfl, by decide +kernel, by decide +kernel⟩
def spNear : SpV := fun vs H Q => ∃ R L rs rows, ∃ ln : List Int, vs = [.ref R, .ref L] ∧ H R = some (.lst rs) ∧ Paired (IsRow H) rs rows ∧ H L = some (.lst (ln.map V.int)) ∧ (∀ row ∈ rows, ln.length < row.length) ∧ ∀ H', Same H H' → ∀ z : Int, Q (.int z) H'
theorem g__law_near_hour (T : Txt K mg) : G P w K mg base 1 "_law_near_hour" spNear := by
  refine g_of 0 T.d__law_near_hour sc__law_near_hour (by rintro vs H Q ⟨R, L, rs, rows, ln, rfl, _⟩; rfl) (fun _ _ _ _ _ _ us hl => match us, hl with | [_, _], _ => rfl) ?_
  rintro f cdv A outer s0 H vs Q E hr ⟨R, L, rs, rows, ln, rfl, hR, hrs, hL, hlt, q⟩
  have nd := sc__law_near_hour.nd
  refine ⟨_, (pss_cons (ps_if (PW.pt (pw_and (pt_cmpR (op_neD hr.units) (pv 1) (pe_lst pa_nil) (nomark _)) (pw_and1 (pt_cmpR op_ge (pe_ix (ixL K) (pv 1) (pe_un un_neg pe_int) (fun _ _ => rfl)) pe_int (nomark _))))) (pss_one (ps_ret (pe_ix (ixL K) (pv 1) (pe_un un_neg pe_int) (fun _ _ => rfl)))) pss_nil)
      (pss_one (ps_ret (pe_ifExp (pt_cmpR (op_neD hr.units) (pv 0) (pe_lst pa_nil) (nomark _)) (pe_ix (ixT K) (pe_ix (ixL K) (pv 0) (pe_un un_neg pe_int) (fun _ _ => rfl)) (pe_callB (crLen K) (by rfl) T.n_len (by decide +kernel) (pa_cons (pv 1) pa_nil)) (fun _ _ => rfl)) pe_int)))), ?_⟩
  refine ⟨_, rfl, (by show 0 ≤ sizeLine; decide), fun e he => ?_⟩
  have u1 := same_new he (.lst [])
  refine ⟨_, _, .lst (SqL.of (u1 _ _ hL)) (dp_ints ln), .lst (SqL.of upd_same) .nil, shaped_ints _, shaped_nil, _, rfl, ?_⟩
  rw [eqv_nil_of]
  have rest : ∀ H1, Same H H1 → (∃ x, ([some (V.ref R), some (V.ref L)] : L2.St)[0]? = some (some x) ∧ True) := fun _ _ => ⟨_, rfl, trivial⟩
  have hrest : ∀ (H1 : Hp), Same H H1 → ∀ e, H1 e = none → Same H (upd H1 e (.lst [])) := fun H1 s e he => s.trans (same_new he _)
  by_cases hln : ln = []
  · rw [decide_eq_true hln]
    refine iteF (iteF ?_)
    refine ⟨_, rfl, (by show 0 ≤ sizeLine; decide), fun e2 he2 => ?_⟩
    have u2 := u1.trans (same_new he2 (.lst []))
    refine ⟨_, _, .lst (SqL.of (u2 _ _ hR)) (dp_rows (Paired.mapP hrs fun _ _ r => r.tk (.of_same u2))), .lst (SqL.of upd_same) .nil, shaped_rows _, shaped_nil, _, rfl, ?_⟩
    rw [eqv_nil_of]
    by_cases hrw : rows = []
    · rw [decide_eq_true hrw]
      exact iteF (q _ u2 0)
    · rw [decide_eq_false hrw]
      refine iteT ?_
      obtain ⟨row, r, hrow, hr1, hr2⟩ : ∃ row r, row ∈ rows ∧ rs.getLast? = some (.ref r) ∧ H r = some (.tup (row.map V.int)) := by
        have hpos : 0 < rows.length := List.length_pos_iff.mpr hrw
        obtain ⟨x, hx, r, rfl, h⟩ := paired_get2 hrs (List.getElem?_eq_getElem (show rows.length - 1 < rows.length by omega))
        exact ⟨_, r, List.getElem_mem _, by rw [List.getLast?_eq_getElem?, pLen hrs]; exact hx, h⟩
      have hlen := hlt row hrow
      have hat : atI (row.map V.int) (((ln.map V.int).length : Nat) : Int) = some (.int (row.getD ln.length 0)) := by
        rw [List.length_map]
        exact atI_nat (by rw [List.getElem?_map, List.getElem?_eq_getElem hlen, getD_lt hlen]; rfl)
      exact ⟨_, rfl, _, rfl, R, _, _, _, rfl, rfl, SqL.of (u2 _ _ hR), atLast hr1, _, rfl, L, _, rfl, .inl (SqL.of (u2 _ _ hL)), r, _, _, _, rfl, rfl, SqT.of (u2 _ _ hr2), hat, q _ u2 _⟩
  · rw [decide_eq_false hln]
    refine iteT ?_
    obtain ⟨z, hz⟩ : ∃ z, (ln.map V.int).getLast? = some (.int z) := ⟨ln.getLast hln, by rw [List.getLast?_map, List.getLast?_eq_some_getLast hln]; rfl⟩
    refine ⟨_, rfl, _, rfl, L, _, _, _, rfl, rfl, SqL.of (u1 _ _ hL), atLast hz, _, _, rfl, rfl, _, rfl, ?_⟩
    by_cases hz0 : 0 ≤ z
    · exact iteD hz0 ⟨_, rfl, _, rfl, L, _, _, _, rfl, rfl, SqL.of (u1 _ _ hL), atLast hz, q _ u1 _⟩
    · refine iteN hz0 ?_
      refine ⟨_, rfl, (by show 0 ≤ sizeLine; decide), fun e2 he2 => ?_⟩
      have u2 := u1.trans (same_new he2 (.lst []))
      refine ⟨_, _, .lst (SqL.of (u2 _ _ hR)) (dp_rows (Paired.mapP hrs fun _ _ r => r.tk (.of_same u2))), .lst (SqL.of upd_same) .nil, shaped_rows _, shaped_nil, _, rfl, ?_⟩
      rw [eqv_nil_of]
      by_cases hrw : rows = []
      · rw [decide_eq_true hrw]
        exact iteF (q _ u2 0)
      · rw [decide_eq_false hrw]
        refine iteT ?_
        obtain ⟨row, r, hrow, hr1, hr2⟩ : ∃ row r, row ∈ rows ∧ rs.getLast? = some (.ref r) ∧ H r = some (.tup (row.map V.int)) := by
          have hpos : 0 < rows.length := List.length_pos_iff.mpr hrw
          obtain ⟨x, hx, r, rfl, h⟩ := paired_get2 hrs (List.getElem?_eq_getElem (show rows.length - 1 < rows.length by omega))
          exact ⟨_, r, List.getElem_mem _, by rw [List.getLast?_eq_getElem?, pLen hrs]; exact hx, h⟩
        have hlen := hlt row hrow
        have hat : atI (row.map V.int) (((ln.map V.int).length : Nat) : Int) = some (.int (row.getD ln.length 0)) := by
          rw [List.length_map]
          exact atI_nat (by rw [List.getElem?_map, List.getElem?_eq_getElem hlen, getD_lt hlen]; rfl)
        exact ⟨_, rfl, _, rfl, R, _, _, _, rfl, rfl, SqL.of (u2 _ _ hR), atLast hr1, _, rfl, L, _, rfl, .inl (SqL.of (u2 _ _ hL)), r, _, _, _, rfl, rfl, SqT.of (u2 _ _ hr2), hat, q _ u2 _⟩
theorem sc__law_about : FnScope ["_law_clock_here", "_law_hand", "_law_down", "_law_right", "_law_one", "_law_quarter"] ["_law_clock_here", "_law_hand", "_law_down", "_law_right", "_law_one"] (defScope (top 64)) := ⟨rfl, rfl, rfl, by decide +kernel, rfl, by decide +kernel, by decide +kernel⟩
def spAbt : SpV := fun vs H Q => ∃ clk hand down right one : Int, vs = [.int clk, .int hand, .int down, .int right, .int one] ∧ 3 ≤ clk ∧ clk ≤ 15 ∧ one < clk ∧ -2 ≤ one ∧ ∀ H', Same H H' → ∀ z : Int, -2 ≤ z → z < clk → Q (.int z) H'
theorem g__law_about (T : Txt K mg) : G P w K mg base 1 "_law_about" spAbt := by
  refine g_of 0 T.d__law_about sc__law_about (by rintro vs H Q ⟨clk, hand, down, right, one, rfl, _⟩; rfl) (fun _ _ _ _ _ _ us hl => match us, hl with | [_, _, _, _, _], _ => rfl) ?_
  rintro f cdv A outer s0 H vs Q E hr ⟨clk, hand, down, right, one, rfl, c3, c15, h1, h2, q⟩
  have nd := sc__law_about.nd
  refine ⟨_, (pss_cons (ps_if (pt_cmpR op_lt (pv 4) pe_int (nomark _)) (pss_one (ps_ret (pv 4))) pss_nil)
      (pss_cons (ps_set (i := 5) nd rfl (by first | exact Or.inl rfl | exact Or.inr rfl) (pe_ix (ixL K) (pe_lst (pa_cons pe_int (pa_cons pe_int (pa_cons pe_int (pa_cons pe_int pa_nil))))) (pe_op op_add (pe_callTy call_int1 (by rfl) T.n_int (by decide +kernel) (pa_cons (pe_cmpR op_gt (pv 2) pe_int (nomark _)) pa_nil)) (pe_op op_mul pe_int (pe_callTy call_int1 (by rfl) T.n_int (by decide +kernel) (pa_cons (pe_cmpR op_gt (pv 3) pe_int (nomark _)) pa_nil)))) (fun _ _ => rfl)))
      (pss_cons (ps_set (i := 5) nd rfl (by first | exact Or.inl rfl | exact Or.inr rfl) (pe_ix (ixL K) (pe_lst (pa_cons pe_int (pa_cons pe_int (pa_cons pe_int (pa_cons pe_int pa_nil))))) (pv 5) (fun _ _ => rfl)))
      (pss_one (ps_ret (pe_op op_mod (pe_op op_fdiv (pe_op op_mul (pe_op op_mul (pv 1) (pv 5)) (pv 0)) pe_int) (pv 0))))))), ?_⟩
  refine ⟨_, rfl, _, _, rfl, rfl, _, rfl, ?_⟩
  by_cases ho : one < 0
  · exact iteD ho ⟨_, rfl, q _ (.refl _) _ h2 h1⟩
  refine iteN ho ?_
  refine ⟨(by show 4 ≤ sizeLine; decide), fun p1 np1 => ?_⟩
  have u1 := same_new np1 (.lst [.int 0, .int 1, .int 2, .int 3])
  have go : ∀ (i j : Int), (i = 0 ∨ i = 1) → (j = 0 ∨ j = 1) → ∃ k : Int, 0 ≤ k ∧ k ≤ 3 ∧ atI [V.int 0, .int 1, .int 2, .int 3] (i + 2 * j) = some (.int k) := by
    rintro i j (rfl | rfl) (rfl | rfl)
    · exact ⟨0, by decide, by decide, rfl⟩
    · exact ⟨2, by decide, by decide, rfl⟩
    · exact ⟨1, by decide, by decide, rfl⟩
    · exact ⟨3, by decide, by decide, rfl⟩
  have go2 : ∀ k : Int, 0 ≤ k → k ≤ 3 → ∃ m : Int, 0 ≤ m ∧ m ≤ 3 ∧ atI [V.int 0, .int 3, .int 1, .int 2] k = some (.int m) := by
    intro k h0 h3
    have : k = 0 ∨ k = 1 ∨ k = 2 ∨ k = 3 := by omega
    rcases this with rfl | rfl | rfl | rfl
    · exact ⟨0, by decide, by decide, rfl⟩
    · exact ⟨3, by decide, by decide, rfl⟩
    · exact ⟨1, by decide, by decide, rfl⟩
    · exact ⟨2, by decide, by decide, rfl⟩
  have bi : ∀ b : Bool, (if b = true then (1 : Int) else 0) = 0 ∨ (if b = true then (1 : Int) else 0) = 1 := fun b => by cases b <;> simp
  obtain ⟨k, k0, k3, hk⟩ := go _ _ (bi (decide (0 < down))) (bi (decide (0 < right)))
  obtain ⟨m, m0, m3, hm⟩ := go2 k k0 k3
  refine ⟨_, rfl, _, _, rfl, rfl, .inr ⟨_, rfl, _, rfl, _, _, rfl, rfl, .inr ⟨_, rfl, _, _, rfl, rfl, .inl ⟨by decide, by decide⟩, _, _, rfl, rfl, p1, _, _, _, rfl, rfl, SqL.of upd_same, hk, ?_⟩⟩⟩
  refine ⟨(by show 4 ≤ sizeLine; decide), fun p2 np2 => ?_⟩
  have u2 := u1.trans (same_new np2 (.lst [.int 0, .int 3, .int 1, .int 2]))
  refine ⟨_, rfl, p2, _, _, _, rfl, rfl, SqL.of upd_same, hm, ?_⟩
  refine ⟨_, rfl, _, rfl, _, _, rfl, rfl, .inr ⟨by omega, by omega⟩, _, rfl, _, _, rfl, rfl, .inr ⟨by omega, by omega⟩, _, _, rfl, rfl, ⟨by decide, by decide⟩, _, rfl, _, _, rfl, rfl, (by show 0 < clk; omega), ?_⟩
  exact q _ u2 _ (by have := Int.emod_nonneg (hand * m * clk / 4) (show clk ≠ 0 by omega); omega) (Int.emod_lt_of_pos _ (by omega))
end
end Wk

set_option maxRecDepth 100000
set_option maxHeartbeats 4000000
namespace Wk
open PySem PySem.Spec PyProof.Rows L2 Co
theorem box_tk {H H' : Hp} {b : Addr} (hb : IsBox H b) (k : KeepB [b] H H') : TK H H' := fun a xs e => by
  obtain ⟨ys, h⟩ := box_at hb
  exact k _ _ (by simpa using ne_of e h fun z => nomatch z) e
def GoodRow (clk : Int) (w : Nat) (row : List Int) : Prop := row.length = w ∧ ∀ x, x ∈ row → -2 ≤ x ∧ x < clk
section
variable {P : Program} {w : World} {K : PySem.W.Frag} {mg : Str → Option Value} {base : Heap}
theorem sc__law_chart : FnScope ["_law_box_here", "_law_most", "_law_untold", "_law_clock_here", "_law_high", "_law_wide", "_law_land", "_law_calm", "_law_rows", "_law_row", "_law_line", "_law_column"] ["_law_box_here", "_law_most", "_law_untold"] (defScope (top 61)) := ⟨rfl, rfl, rfl, by decide +kernel, rfl, by decide +kernel, by decide +kernel⟩
def spLch : SpV := fun vs H Q => ∃ b, ∃ unt : Int, vs = [.ref b, .int 7, .int unt] ∧ IsBox H b ∧ RetB b H fun H' => ∀ v c, IsCh H' v c → c.Good → Q v H'
theorem good_of {clk : Int} {rows : List (List Int)} {w : Nat} (c3 : 3 ≤ clk) (c15 : clk ≤ 15) (odd : clk % 2 = 1) (h1 : 1 ≤ rows.length) (h7 : rows.length ≤ 7) (w1 : 1 ≤ w) (w7 : w ≤ 7) (all : ∀ row, row ∈ rows → GoodRow clk w row) : (⟨clk, rows⟩ : Ch).Good := by
  have hw : (⟨clk, rows⟩ : Ch).wide = w := by
    show (rows.headD []).length = w
    cases rows with
    | nil => simp at h1
    | cons r t => exact (all r List.mem_cons_self).1
  exact ⟨c3, c15, odd, h1, h7, by rw [hw]; exact w1, by rw [hw]; exact w7, fun row h => by rw [hw]; exact all row h⟩
theorem g__law_chart (T : Txt K mg) : G P w K mg base 4 "_law_chart" spLch := by
  refine g_of 3 T.d__law_chart sc__law_chart (by rintro vs H Q ⟨b, unt, rfl, _⟩; rfl) (fun _ _ _ _ _ _ us hl => match us, hl with | [_, _, _], _ => rfl) ?_
  rintro f cdv A outer s0 H vs Q E hr ⟨b, unt, rfl, hb, q⟩
  have nd := sc__law_chart.nd
  obtain ⟨bx, hbx⟩ := box_at hb
  refine ⟨_, (pss_cons (ps_set (i := 3) nd rfl (by first | exact Or.inl rfl | exact Or.inr rfl) (pe_callG (g__law_clock T) hr rfl (pa_cons (pv 0) pa_nil)))
      (pss_cons (ps_set (i := 4) nd rfl (by first | exact Or.inl rfl | exact Or.inr rfl) (pe_op op_add pe_int (pe_callG (g__law_take T) hr rfl (pa_cons (pv 0) (pa_cons (pv 1) pa_nil)))))
      (pss_cons (ps_set (i := 5) nd rfl (by first | exact Or.inl rfl | exact Or.inr rfl) (pe_op op_add pe_int (pe_callG (g__law_take T) hr rfl (pa_cons (pv 0) (pa_cons (pv 1) pa_nil)))))
      (pss_cons (ps_set (i := 6) nd rfl (by first | exact Or.inl rfl | exact Or.inr rfl) (pe_ix (ixL K) (pe_lst (pa_cons pe_int (pa_cons pe_int (pa_cons pe_int (pa_cons pe_int (pa_cons pe_int pa_nil)))))) (pe_callG (g__law_take T) hr rfl (pa_cons (pv 0) (pa_cons pe_int pa_nil))) (fun _ _ => rfl)))
      (pss_cons (ps_set (i := 7) nd rfl (by first | exact Or.inl rfl | exact Or.inr rfl) (pe_ix (ixL K) (pe_lst (pa_cons pe_int (pa_cons pe_int (pa_cons (pe_op op_fdiv (pv 3) pe_int) pa_nil)))) (pe_callG (g__law_take T) hr rfl (pa_cons (pv 0) (pa_cons pe_int pa_nil))) (fun _ _ => rfl)))
      (pss_cons (ps_set (i := 8) nd rfl (by first | exact Or.inl rfl | exact Or.inr rfl) (pe_lst pa_nil))
      (pss_cons (ps_for PassesOwn.never rfl (pi_range1 rfl T.n_range (pa_cons (pv 4) pa_nil)) (pg_name (i := 9) nd rfl (by first | exact Or.inl rfl | exact Or.inr rfl)) (pss_cons (ps_set (i := 10) nd rfl (by first | exact Or.inl rfl | exact Or.inr rfl) (pe_lst pa_nil))
      (pss_cons (ps_for PassesOwn.never rfl (pi_range1 rfl T.n_range (pa_cons (pv 5) pa_nil)) (pg_name (i := 11) nd rfl (by first | exact Or.inl rfl | exact Or.inr rfl)) (pss_one (ps_expr (pe_bm PySem.F.plainAttrs_list PySem.F.slot_list_append PySem.F.type_list_append mt_append (pv 10) (pa_cons (pe_callG (g__law_square T) hr rfl (pa_cons (pv 0) (pa_cons (pv 3) (pa_cons (pv 6) (pa_cons (pv 2) (pa_cons (pv 7) (pa_cons (pe_callG (g__law_near_hour T) hr rfl (pa_cons (pv 8) (pa_cons (pv 10) pa_nil))) pa_nil))))))) pa_nil)))))
      (pss_one (ps_expr (pe_bm PySem.F.plainAttrs_list PySem.F.slot_list_append PySem.F.type_list_append mt_append (pv 8) (pa_cons (pe_callTy (crTup K) (by rfl) T.n_tuple (by decide +kernel) (pa_cons (pv 10) pa_nil)) pa_nil)))))))
      (pss_one (ps_ret (pe_tup (pa_cons (pv 3) (pa_cons (pe_callTy (crTup K) (by rfl) T.n_tuple (by decide +kernel) (pa_cons (pv 8) pa_nil)) pa_nil)))))))))))), ?_⟩
  refine ⟨_, rfl, b, rfl, hb, fun H1 k1 b1 clk c3 c15 odd => ?_⟩
  refine ⟨_, rfl, _, rfl, b, 7, rfl, b1.1, by decide, by decide, fun H2 k2 b2' hz h0 h7 => ⟨_, _, rfl, rfl, ?_⟩⟩
  have b2 := b1.trans b2'
  refine ⟨_, rfl, _, rfl, b, 7, rfl, b2.1, by decide, by decide, fun H3 k3 b3' wz w0 w7 => ⟨_, _, rfl, rfl, ?_⟩⟩
  have b3 := b2.trans b3'
  refine ⟨(by show 5 ≤ sizeLine; decide), fun p1 np1 => ?_⟩
  have u1 := same_new np1 (.lst [.int 0, .int 0, .int 1, .int 3, .int 5])
  refine ⟨_, rfl, b, 5, rfl, box_same b3.1 u1, by decide, by decide, fun H4 k4 b4' lz l0 l5 => ?_⟩
  have b4 := (b3.trans (bx_same b3.1 u1)).trans b4'
  have np1b : p1 ≠ b := fun z => by obtain ⟨ys, h⟩ := box_at b3.1; rw [z, h] at np1; cases np1
  obtain ⟨land, hland⟩ : ∃ l : Int, atI [V.int 0, .int 0, .int 1, .int 3, .int 5] lz = some (.int l) := by
    have : lz = 0 ∨ lz = 1 ∨ lz = 2 ∨ lz = 3 ∨ lz = 4 := by omega
    rcases this with rfl | rfl | rfl | rfl | rfl <;> exact ⟨_, rfl⟩
  refine ⟨p1, _, _, _, rfl, rfl, SqL.of (k4 _ _ (by simpa using np1b) upd_same), hland, ?_⟩
  refine ⟨_, rfl, _, _, rfl, rfl, ⟨by decide, by decide⟩, (by show 3 ≤ sizeLine; decide), fun p2 np2 => ?_⟩
  have u2 := same_new np2 (.lst [.int 0, .int 1, .int (clk / 3)])
  refine ⟨_, rfl, b, 3, rfl, box_same b4.1 u2, by decide, by decide, fun H5 k5 b5' cz cz0 cz3 => ?_⟩
  have b5 := (b4.trans (bx_same b4.1 u2)).trans b5'
  have np2b : p2 ≠ b := fun z => by obtain ⟨ys, h⟩ := box_at b4.1; rw [z, h] at np2; cases np2
  obtain ⟨calm, hcalm, hcl⟩ : ∃ l : Int, atI [V.int 0, .int 1, .int (clk / 3)] cz = some (.int l) ∧ l ≤ 5 := by
    have : cz = 0 ∨ cz = 1 ∨ cz = 2 := by omega
    rcases this with rfl | rfl | rfl
    · exact ⟨_, rfl, by decide⟩
    · exact ⟨_, rfl, by decide⟩
    · exact ⟨_, rfl, by omega⟩
  refine ⟨p2, _, _, _, rfl, rfl, SqL.of (k5 _ _ (by simpa using np2b) upd_same), hcalm, ?_⟩
  have k05 : KeepB [b] H H5 := ((((k1.trans k2).trans k3).trans (.of_same u1)).trans k4).trans ((KeepB.of_same u2).trans k5)
  refine ⟨(by show 0 ≤ sizeLine; decide), fun R hR => ?_⟩
  have sR := same_new hR (.lst [])
  have nRb : R ≠ b := fun z => by obtain ⟨ys, h⟩ := box_at b5.1; rw [z, h] at hR; cases hR
  have R0 : H R = none := by
    cases e : H R with
    | none => rfl
    | some u => rw [k05 R u (by simpa using nRb) e] at hR; cases hR
  obtain ⟨hn, rfl⟩ : ∃ n : Nat, hz = (n : Int) := ⟨hz.toNat, by omega⟩
  obtain ⟨wn, rfl⟩ : ∃ n : Nat, wz = (n : Int) := ⟨wz.toNat, by omega⟩
  refine ⟨_, rfl, _, rfl, by omega, by omega, ?_⟩
  have eh : ((1 : Int) + (hn : Int)).toNat = hn + 1 := by omega
  have ew : ((1 : Int) + (wn : Int)).toNat = wn + 1 := by omega
  rw [eh]
  refine for_range (lo := 0) (n := hn + 1) (fun i σ H' => ∃ o9 o10 o11, σ = [some (.ref b), some (.int 7), some (.int unt), some (.int clk), some (.int (1 + (hn : Int))), some (.int (1 + (wn : Int))), some (.int land), some (.int calm), some (.ref R), o9, o10, o11] ∧ KeepB [b] H H' ∧ Bx H H' b ∧ ∃ rs rows, H' R = some (.lst rs) ∧ Paired (IsRow H') rs rows ∧ rows.length = i ∧ ∀ row, row ∈ rows → GoodRow clk (wn + 1) row)
    ⟨none, none, none, rfl, k05.trans (.of_same sR), b5.trans (bx_same b5.1 sR), [], [], upd_same, .nil, rfl, fun _ h => absurd h (by simp)⟩ ?_ ?_
  · rintro i σ H6 hi ⟨o9, o10, o11, rfl, k6, b6, rs, rows, hR6, hrs, hrl, hgood⟩
    refine ⟨(by show 0 ≤ sizeLine; decide), fun L hL => ?_⟩
    have sL := same_new hL (.lst [])
    have nLb : L ≠ b := fun z => by obtain ⟨ys, h⟩ := box_at b6.1; rw [z, h] at hL; cases hL
    have nLR : L ≠ R := fun z => by rw [z, hR6] at hL; cases hL
    have L0 : H L = none := by
      cases e : H L with
      | none => rfl
      | some u => rw [k6 L u (by simpa using nLb) e] at hL; cases hL
    refine ⟨_, rfl, _, rfl, by omega, by omega, ?_⟩
    rw [ew]
    refine for_range (lo := 0) (n := wn + 1) (fun j σ H' => ∃ o11, σ = [some (.ref b), some (.int 7), some (.int unt), some (.int clk), some (.int (1 + (hn : Int))), some (.int (1 + (wn : Int))), some (.int land), some (.int calm), some (.ref R), some (.int (0 + (i : Int))), some (.ref L), o11] ∧ KeepB [b] H H' ∧ Bx H H' b ∧ H' R = some (.lst rs) ∧ Paired (IsRow H') rs rows ∧
        ∃ ln : List Int, H' L = some (.lst (ln.map V.int)) ∧ ln.length = j ∧ ∀ x, x ∈ ln → -2 ≤ x ∧ x < clk)
      ⟨o11, rfl, k6.trans (.of_same sL), b6.trans (bx_same b6.1 sL), sL _ _ hR6, Paired.mapP hrs fun _ _ r => r.tk (.of_same sL), [], upd_same, rfl, fun _ h => absurd h (by simp)⟩ ?_ ?_
    · rintro j σ H7 hj ⟨o11, rfl, k7, b7, hR7, hrs7, ln, hL7, hll, hlg⟩
      refine ⟨_, rfl, .inl ⟨rfl, _, SqL.of hL7⟩, _, rfl, _, rfl, _, rfl, _, rfl, _, rfl, _, rfl, _, rfl, R, L, rs, rows, ln, rfl, hR7, hrs7, hL7, fun row h => by rw [(hgood row h).1, hll]; exact hj, fun H8 s8 near => ?_⟩
      refine ⟨b, clk, land, unt, calm, near, rfl, box_same b7.1 s8, c3, c15, hcl, fun H9 k9 b9' z z1 z2 => ?_⟩
      have b9 := (b7.trans (bx_same b7.1 s8)).trans b9'
      have k79 : KeepB [b] H7 H9 := (KeepB.of_same s8).trans k9
      have hL9 := k79 _ _ (by simpa using nLb) hL7
      have hR9 := k79 _ _ (by simpa using nRb) hR7
      have t79 : TK H7 H9 := box_tk b7.1 k79
      refine ⟨L, _, _, rfl, rfl, hL9, small99 (by rw [List.length_map]; omega), ?_⟩
      have tL : TK H9 (upd H9 L (.lst (ln.map V.int ++ [.int z]))) := TK.put hL9 fun xs z => by cases z
      refine ⟨_, rfl, fun x o hx e => ?_, ?_, by rw [upd_ne (Ne.symm nLR)]; exact hR9, Paired.mapP hrs7 fun _ _ r => (r.tk t79).tk tL, ln ++ [z], by rw [upd_same, List.map_append]; rfl, by rw [List.length_append, hll]; rfl, fun x hx => ?_⟩
      · have hxL : x ≠ L := fun z => by rw [z, L0] at e; cases e
        rw [upd_ne hxL]
        exact k79 _ _ hx (k7 x o hx e)
      · exact bx_put b9 hb L0
      · rcases List.mem_append.mp hx with hx | hx
        · exact hlg x hx
        · rw [List.mem_singleton.mp hx]; exact ⟨z1, z2⟩
    · rintro σ H7 ⟨o11, rfl, k7, b7, hR7, hrs7, ln, hL7, hll, hlg⟩
      refine ⟨_, rfl, .inl ⟨rfl, _, SqL.of hR7⟩, _, rfl, L, _, rfl, .inl ⟨SqL.of hL7, fun t nt => ?_⟩⟩
      have u := same_new nt (.tup (ln.map V.int))
      have hR8 := u _ _ hR7
      refine ⟨R, rs, _, rfl, rfl, hR8, small99 (by rw [pLen hrs]; omega), ?_⟩
      have tR : TK (upd H7 t (.tup (ln.map V.int))) (upd (upd H7 t (.tup (ln.map V.int))) R (.lst (rs ++ [.ref t]))) := TK.put hR8 fun xs z => by cases z
      have t8 : TK H7 (upd (upd H7 t (.tup (ln.map V.int))) R (.lst (rs ++ [.ref t]))) := (TK.of_same u).trans tR
      refine ⟨_, _, _, rfl, fun x o hx e => ?_, bx_put (b7.trans (bx_same b7.1 u)) hb R0, _, rows ++ [ln], upd_same, .snoc (Paired.mapP hrs7 fun _ _ r => r.tk t8) ⟨t, rfl, tR _ _ upd_same⟩, by rw [List.length_append, hrl]; rfl, fun row hrow => ?_⟩
      · have hxR : x ≠ R := fun z => by rw [z, R0] at e; cases e
        rw [upd_ne hxR]
        exact u _ _ (k7 x o hx e)
      · rcases List.mem_append.mp hrow with h | h
        · exact hgood row h
        · rw [List.mem_singleton.mp h]; exact ⟨hll, hlg⟩
  · rintro σ H6 ⟨o9, o10, o11, rfl, k6, b6, rs, rows, hR6, hrs, hrl, hgood⟩
    refine ⟨_, rfl, _, rfl, R, rs, rfl, .inl ⟨SqL.of hR6, fun t nt => ⟨(by show 2 ≤ sizeLine; decide), fun t2 nt2 => ?_⟩⟩⟩
    have u1 := same_new nt (.tup rs)
    have u2 := same_new nt2 (.tup [.int clk, .ref t])
    have u12 := u1.trans u2
    refine q _ (k6.trans (.of_same u12)) (b6.trans (bx_same b6.1 u12)) _ ⟨clk, rows⟩ ⟨t2, t, rs, rfl, upd_same, u2 _ _ upd_same, Paired.mapP hrs fun _ _ r => r.tk (.of_same u12)⟩ (good_of c3 c15 odd (by omega) (by omega) (show 1 ≤ wn + 1 by omega) (by omega) hgood)
theorem sc__law_whirled : FnScope ["_law_box_here", "_law_chart_here", "_law_clock_here", "_law_rows", "_law_middle", "_law_column", "_law_hand", "_law_found", "_law_at", "_law_line", "_law_k", "_law_one"] ["_law_box_here", "_law_chart_here"] (defScope (top 63)) := ⟨rfl, rfl, rfl, by decide +kernel, rfl, by decide +kernel, by decide +kernel⟩
def spWhd : SpV := fun vs H Q => ∃ b v c, vs = [.ref b, v] ∧ IsBox H b ∧ IsCh H v c ∧ c.Good ∧ RetB b H fun H' => ∀ v' c', IsCh H' v' c' → c'.Good → Q v' H'
theorem g__law_whirled (T : Txt K mg) : G P w K mg base 3 "_law_whirled" spWhd := by
  refine g_of 2 T.d__law_whirled sc__law_whirled (by rintro vs H Q ⟨b, v, c, rfl, _⟩; rfl) (fun _ _ _ _ _ _ us hl => match us, hl with | [_, _], _ => rfl) ?_
  rintro f cdv A outer s0 H vs Q E hr ⟨b, v, c, rfl, hb, hc, g, q⟩
  have nd := sc__law_whirled.nd
  refine ⟨_, (pss_cons (ps_asg (pv 1) (pgT K (n := 2) rfl (pgs_cons (pg_name (i := 2) nd rfl (by first | exact Or.inl rfl | exact Or.inr rfl)) (pgs_cons (pg_name (i := 3) nd rfl (by first | exact Or.inl rfl | exact Or.inr rfl)) pgs_nil))))
      (pss_cons (ps_set (i := 4) nd rfl (by first | exact Or.inl rfl | exact Or.inr rfl) (pe_callG (g__law_take T) hr rfl (pa_cons (pv 0) (pa_cons (pe_callB (crLen K) (by rfl) T.n_len (by decide +kernel) (pa_cons (pv 3) pa_nil)) pa_nil))))
      (pss_cons (ps_set (i := 5) nd rfl (by first | exact Or.inl rfl | exact Or.inr rfl) (pe_callG (g__law_take T) hr rfl (pa_cons (pv 0) (pa_cons (pe_callB (crLen K) (by rfl) T.n_len (by decide +kernel) (pa_cons (pe_ix (ixT K) (pv 3) pe_int (fun _ _ => rfl)) pa_nil)) pa_nil))))
      (pss_cons (ps_set (i := 6) nd rfl (by first | exact Or.inl rfl | exact Or.inr rfl) (pe_ix (ixL K) (pe_lst (pa_cons pe_int (pa_cons (pe_un un_neg pe_int) (pa_cons pe_int pa_nil)))) (pe_callG (g__law_take T) hr rfl (pa_cons (pv 0) (pa_cons pe_int pa_nil))) (fun _ _ => rfl)))
      (pss_cons (ps_set (i := 7) nd rfl (by first | exact Or.inl rfl | exact Or.inr rfl) (pe_lst pa_nil))
      (pss_cons (ps_for PassesOwn.never rfl (pi_enumT K rfl T.n_enumerate (pa_cons (pv 3) pa_nil)) (pgT K (n := 2) rfl (pgs_cons (pg_name (i := 8) nd rfl (by first | exact Or.inl rfl | exact Or.inr rfl)) (pgs_cons (pg_name (i := 9) nd rfl (by first | exact Or.inl rfl | exact Or.inr rfl)) pgs_nil))) (pss_one (ps_expr (pe_bm PySem.F.plainAttrs_list PySem.F.slot_list_append PySem.F.type_list_append mt_append (pv 7) (pa_cons (pe_callTy (crTup K) (by rfl) T.n_tuple (by decide +kernel) (pa_cons (pe_lc (own := [("_law_k", 10), ("_law_one", 11)]) rfl nd (pi_enumT K rfl T.n_enumerate (pa_cons (pv 9) pa_nil)) (blkOk_by (by kernel_rfl)) (fun _ _ _ _ _ => (pgT K (n := 2) rfl (pgs_cons (pg_name (i := 10) nd rfl (by first | exact Or.inl rfl | exact Or.inr rfl)) (pgs_cons (pg_name (i := 11) nd rfl (by first | exact Or.inl rfl | exact Or.inr rfl)) pgs_nil)))) (fun _ _ _ _ _ => pts_nil) (fun _ _ _ _ _ => (pe_callG (g__law_about T) hr rfl (pa_cons (pv 2) (pa_cons (pv 6) (pa_cons (pe_op op_sub (pv 8) (pv 4)) (pa_cons (pe_op op_sub (pv 10) (pv 5)) (pa_cons (pv 11) pa_nil)))))))) pa_nil)) pa_nil)))))
      (pss_one (ps_ret (pe_tup (pa_cons (pv 2) (pa_cons (pe_callTy (crTup K) (by rfl) T.n_tuple (by decide +kernel) (pa_cons (pv 7) pa_nil)) pa_nil))))))))))), ?_⟩
  obtain ⟨a, rw_, rs, r0, rfl, ha, hrw, hrs, hl, h0, hr0, hlw⟩ := hc.open_ g
  have h1 := g.h1
  have h9 := g.h9
  have w1 := g.w1
  have w9 := g.w9
  have lo := g.lo
  have hh : c.high = c.rows.length := rfl
  refine ⟨_, rfl, a, _, rfl, SqT.of ha, rfl, _, _, rfl, _, _, rfl, rfl, ?_⟩
  refine ⟨_, rfl, _, rfl, rw_, rs, rfl, .inr (SqT.of hrw), b, _, rfl, hb, by omega, by omega, fun H1 k1 b1 mid _ _ => ?_⟩
  have t1 : TK H H1 := box_tk hb k1
  refine ⟨_, rfl, _, rfl, rw_, _, _, _, rfl, rfl, SqT.of (t1 _ _ hrw), atI_nat h0, r0, _, rfl, .inr (SqT.of (t1 _ _ hr0)), b, _, rfl, b1.1, by rw [hlw]; omega, by rw [hlw]; omega, fun H2 k2 b2' col _ _ => ?_⟩
  have b2 := b1.trans b2'
  have t2 : TK H1 H2 := box_tk b1.1 k2
  refine ⟨_, rfl, (by show 3 ≤ sizeLine; decide), fun p1 np1 => ?_⟩
  have u1 := same_new np1 (.lst [.int 1, .int (-1), .int 2])
  refine ⟨_, rfl, b, 3, rfl, box_same b2.1 u1, by decide, by decide, fun H3 k3 b3' hz z0 z3 => ?_⟩
  have b3 := (b2.trans (bx_same b2.1 u1)).trans b3'
  have np1b : p1 ≠ b := fun z => by obtain ⟨ys, h⟩ := box_at b2.1; rw [z, h] at np1; cases np1
  have t3 : TK (upd H2 p1 (.lst [.int 1, .int (-1), .int 2])) H3 := box_tk (box_same b2.1 u1) k3
  obtain ⟨hand, hhand⟩ : ∃ l : Int, atI [V.int 1, .int (-1), .int 2] hz = some (.int l) := by
    have : hz = 0 ∨ hz = 1 ∨ hz = 2 := by omega
    rcases this with rfl | rfl | rfl <;> exact ⟨_, rfl⟩
  refine ⟨p1, _, _, _, rfl, rfl, SqL.of (k3 _ _ (by simpa using np1b) upd_same), hhand, ?_⟩
  have tH : TK H H3 := ((t1.trans t2).trans (.of_same u1)).trans t3
  have k03 : KeepB [b] H H3 := ((k1.trans k2).trans (.of_same u1)).trans k3
  refine ⟨(by show 0 ≤ sizeLine; decide), fun R hR => ?_⟩
  have sR := same_new hR (.lst [])
  have nRb : R ≠ b := fun z => by obtain ⟨ys, h⟩ := box_at b3.1; rw [z, h] at hR; cases hR
  have R0 : H R = none := by
    cases e : H R with
    | none => rfl
    | some u => rw [k03 R u (by simpa using nRb) e] at hR; cases hR
  have hrw3 := sR _ _ (tH _ _ hrw)
  refine ⟨_, rfl, rw_, rs, rfl, SqT.of hrw3, ?_⟩
  refine for_it (walk_enumT (K := K) (a := rw_) (xs := rs)) (fun i σ H' => ∃ o8 o9 o10 o11, σ = [some (.ref b), some (.ref a), some (.int c.clock), some (.ref rw_), some (.int mid), some (.int col), some (.int hand), some (.ref R), o8, o9, o10, o11] ∧ KeepB [b] H H' ∧ Bx H H' b ∧ TK H H' ∧ ∃ zs rows, H' R = some (.lst zs) ∧ Paired (IsRow H') zs rows ∧ rows.length = i ∧ ∀ row, row ∈ rows → GoodRow c.clock c.wide row)
    ⟨none, none, none, none, rfl, k03.trans (.of_same sR), b3.trans (bx_same b3.1 sR), tH.trans (.of_same sR), [], [], upd_same, .nil, rfl, fun _ h => absurd h (by simp)⟩ (fun i σ H' _ h => by obtain ⟨_, _, _, _, _, _, _, t, _⟩ := h; exact SqT.of (t _ _ hrw)) ?_ ?_
  · rintro i x σ H4 H4' hi ⟨o8, o9, o10, o11, rfl, k4, b4, t4, zs, rows, hR4, hzs, hrl, hgood⟩ ⟨T0, y1, y2, rfl, hT0, rfl, e1, e2⟩
    cases e1
    obtain ⟨row, r, hrow, rfl, hr1⟩ := row_get hrs e2
    obtain ⟨g1, g2⟩ := g.all row (List.mem_of_getElem? hrow)
    have uT := same_new hT0 (.tup [.int (i : Nat), .ref r])
    have hr4 := uT _ _ (t4 _ _ hr1)
    refine ⟨T0, _, rfl, SqT.of upd_same, rfl, _, _, rfl, _, _, rfl, rfl, ?_⟩
    have hR5 := uT _ _ hR4
    refine ⟨_, rfl, .inl ⟨rfl, _, SqL.of hR5⟩, _, rfl, r, _, rfl, SqT.of hr4, fun D hD => ?_⟩
    refine lc_it (walk_enumT (K := K) (a := r) (xs := row.map V.int)) (fun j H' => Same (upd H4 T0 (.tup [.int (i : Nat), .ref r])) H' ∧ ∃ ln : List Int, H' D = some (.lst (ln.map V.int)) ∧ ln.length = j ∧ ∀ x, x ∈ ln → -2 ≤ x ∧ x < c.clock) ⟨same_new hD _, [], upd_same, rfl, fun _ h => absurd h (by simp)⟩ (fun j H' _ h => SqT.of (h.1 _ _ hr4)) ?_ ?_
    · rintro j x H5 H6 hj ⟨s5, ln, hD5, hll, hlg⟩ ⟨T1, y1, y2, rfl, hT1, rfl, e1, e3⟩
      cases e1
      have hjl : j < row.length := by rw [List.length_map] at hj; exact hj
      have e3' : y2 = .int (row.getD j 0) := by
        have e3 : (row.map V.int)[j]? = some y2 := e3
        rw [List.getElem?_map, List.getElem?_eq_getElem hjl] at e3
        cases e3
        rw [getD_lt hjl]
      subst e3'
      have hm : row.getD j 0 ∈ row := by rw [getD_lt hjl]; exact List.getElem_mem _
      have s6 := s5.trans (same_new hT1 (.tup [.int (j : Nat), .int (row.getD j 0)]))
      have hD6 := same_new hT1 (.tup [.int (j : Nat), .int (row.getD j 0)]) _ _ hD5
      refine ⟨T1, _, rfl, SqT.of upd_same, rfl, _, _, rfl, _, _, rfl, rfl, rfl, tyes ?_⟩
      refine ⟨_, rfl, _, rfl, _, rfl, _, rfl, _, _, rfl, rfl, _, rfl, _, rfl, _, _, rfl, rfl, _, rfl, c.clock, hand, _, _, row.getD j 0, rfl, lo, g.hi, (g2 _ hm).2, (g2 _ hm).1, fun H7 s7 z z1 z2 => ?_⟩
      refine ⟨_, s7 _ _ hD6, small99 (by rw [List.length_map]; omega), sapp (s6.trans s7) hD _, ln ++ [z], by rw [upd_same, List.map_append]; rfl, by rw [List.length_append, hll]; rfl, fun x hx => ?_⟩
      rcases List.mem_append.mp hx with hx | hx
      · exact hlg x hx
      · rw [List.mem_singleton.mp hx]; exact ⟨z1, z2⟩
    · rintro H5 ⟨s5, ln, hD5, hll, hlg⟩
      rw [List.length_map] at hll
      have s45 := uT.trans s5
      refine ⟨D, _, rfl, .inl ⟨SqL.of hD5, fun t nt => ?_⟩⟩
      have u := same_new nt (.tup (ln.map V.int))
      have s46 := s45.trans u
      have hR6 := s46 _ _ hR4
      refine ⟨R, zs, _, rfl, rfl, hR6, small99 (by rw [pLen hzs, hrl]; omega), ?_⟩
      have tR : TK (upd H5 t (.tup (ln.map V.int))) (upd (upd H5 t (.tup (ln.map V.int))) R (.lst (zs ++ [.ref t]))) := TK.put hR6 fun xs z => by cases z
      have t46 := (TK.of_same s46).trans tR
      refine ⟨_, _, _, _, rfl, fun x o hx e => ?_, bx_put (b4.trans (bx_same b4.1 s46)) hb R0, t4.trans t46, _, rows ++ [ln], upd_same, .snoc (Paired.mapP hzs fun _ _ r => r.tk t46) ⟨t, rfl, tR _ _ upd_same⟩, by rw [List.length_append, hrl]; rfl, fun row' hrow' => ?_⟩
      · have hxR : x ≠ R := fun z => by rw [z, R0] at e; cases e
        rw [upd_ne hxR]
        exact s46 _ _ (k4 x o hx e)
      · rcases List.mem_append.mp hrow' with h | h
        · exact hgood row' h
        · rw [List.mem_singleton.mp h]; exact ⟨by rw [hll, g1], hlg⟩
  · rintro σ H4 ⟨o8, o9, o10, o11, rfl, k4, b4, t4, zs, rows, hR4, hzs, hrl, hgood⟩
    refine ⟨_, rfl, _, rfl, R, zs, rfl, .inl ⟨SqL.of hR4, fun t nt => ⟨(by show 2 ≤ sizeLine; decide), fun t2 nt2 => ?_⟩⟩⟩
    have u1 := same_new nt (.tup zs)
    have u2 := same_new nt2 (.tup [.int c.clock, .ref t])
    have u12 := u1.trans u2
    refine q _ (k4.trans (.of_same u12)) (b4.trans (bx_same b4.1 u12)) _ ⟨c.clock, rows⟩ ⟨t2, t, zs, rfl, upd_same, u2 _ _ upd_same, Paired.mapP hzs fun _ _ r => r.tk (.of_same u12)⟩ (good_of lo g.hi g.odd (by omega) (by omega) w1 w9 hgood)
theorem sc__law_some_chart : FnScope ["_law_box_here", "_law_most", "_law_chart_here"] ["_law_box_here", "_law_most"] (defScope (top 62)) := ⟨rfl, rfl, rfl, by decide +kernel, rfl, by decide +kernel, by decide +kernel⟩
def spSome : SpV := fun vs H Q => ∃ b, vs = [.ref b, .int 7] ∧ IsBox H b ∧ RetB b H fun H' => ∀ v c, IsCh H' v c → c.Good → Q v H'
theorem g__law_some_chart (T : Txt K mg) : G P w K mg base 5 "_law_some_chart" spSome := by
  refine g_of 4 T.d__law_some_chart sc__law_some_chart (by rintro vs H Q ⟨b, rfl, _⟩; rfl) (fun _ _ _ _ _ _ us hl => match us, hl with | [_, _], _ => rfl) ?_
  rintro f cdv A outer s0 H vs Q E hr ⟨b, rfl, hb, q⟩
  have nd := sc__law_some_chart.nd
  refine ⟨_, (pss_cons (ps_set (i := 2) nd rfl (by first | exact Or.inl rfl | exact Or.inr rfl) (pe_callG (g__law_chart T) hr rfl (pa_cons (pv 0) (pa_cons (pv 1) (pa_cons (pe_ix (ixL K) (pe_lst (pa_cons pe_int (pa_cons pe_int (pa_cons pe_int pa_nil)))) (pe_callG (g__law_take T) hr rfl (pa_cons (pv 0) (pa_cons pe_int pa_nil))) (fun _ _ => rfl)) pa_nil)))))
      (pss_cons (ps_if (pt_cmpR op_eq (pe_callG (g__law_take T) hr rfl (pa_cons (pv 0) (pa_cons pe_int pa_nil))) pe_int (nomark _)) (pss_one (ps_set (i := 2) nd rfl (by first | exact Or.inl rfl | exact Or.inr rfl) (pe_callG (g__law_whirled T) hr rfl (pa_cons (pv 0) (pa_cons (pv 2) pa_nil))))) pss_nil)
      (pss_one (ps_ret (pv 2))))), ?_⟩
  refine ⟨_, rfl, _, rfl, (by show 3 ≤ sizeLine; decide), fun p1 np1 => ?_⟩
  have u1 := same_new np1 (.lst [.int 0, .int 0, .int 1])
  refine ⟨_, rfl, b, 3, rfl, box_same hb u1, by decide, by decide, fun H1 k1 b1' uz z0 z3 => ?_⟩
  have b1 := (bx_same hb u1).trans b1'
  have np1b : p1 ≠ b := fun z => by obtain ⟨ys, h⟩ := box_at hb; rw [z, h] at np1; cases np1
  obtain ⟨unt, hunt⟩ : ∃ l : Int, atI [V.int 0, .int 0, .int 1] uz = some (.int l) := by
    have : uz = 0 ∨ uz = 1 ∨ uz = 2 := by omega
    rcases this with rfl | rfl | rfl <;> exact ⟨_, rfl⟩
  refine ⟨p1, _, _, _, rfl, rfl, SqL.of (k1 _ _ (by simpa using np1b) upd_same), hunt, b, unt, rfl, b1.1, fun H2 k2 b2' v c hc g => ?_⟩
  have b2 := b1.trans b2'
  have k02 : KeepB [b] H H2 := ((KeepB.of_same u1).trans k1).trans k2
  refine ⟨_, rfl, b, 4, rfl, b2.1, by decide, by decide, fun H3 k3 b3' z _ _ => ?_⟩
  have b3 := b2.trans b3'
  have hc3 := hc.tk (box_tk b2.1 k3)
  refine ⟨rfl, _, rfl, ?_⟩
  by_cases hz : z = 0
  · refine iteD (by rw [hz]) ?_
    exact ⟨_, rfl, _, rfl, b, v, c, rfl, b3.1, hc3, g, fun H4 k4 b4 v' c' hc' g' => ⟨_, rfl, q H4 ((k02.trans k3).trans k4) (b3.trans b4) v' c' hc' g'⟩⟩
  · refine iteN (fun y => hz (V.int.inj y)) ?_
    exact ⟨_, rfl, q H3 (k02.trans k3) b3 v c hc3 g⟩
theorem sc__law_box : FnScope ["_law_script", "_law_seed", "_law_cell"] ["_law_script"] (defScope (top 55)) := ⟨rfl, rfl, rfl, by decide +kernel, rfl, by decide +kernel, by decide +kernel⟩
def spBox (K : PySem.W.Frag) : SpV := fun vs H Q => ∃ a, ∃ ns : List Int, vs = [.ref a] ∧ SqL K H a (ns.map V.int) ∧ ∀ H' b, Same H H' → IsBox H' b → H b = none → Q (.ref b) H'
theorem sqL_same {K : PySem.W.Frag} {H H' : Hp} {a : Addr} {xs : List V} (h : SqL K H a xs) (s : Same H H') : SqL K H' a xs := h.elim (fun h => .inl (rd_same s h)) .inr
theorem g__law_box (T : Txt K mg) : G P w K mg base 1 "_law_box" (spBox K) := by
  refine g_of 0 T.d__law_box sc__law_box (by rintro vs H Q ⟨a, ns, rfl, _⟩; rfl) (fun _ _ _ _ _ _ us hl => match us, hl with | [_], _ => rfl) ?_
  rintro f cdv A outer s0 H vs Q E hr ⟨a, ns, rfl, hs, q⟩
  have nd := sc__law_box.nd
  refine ⟨_, (pss_cons (ps_set (i := 1) nd rfl (by first | exact Or.inl rfl | exact Or.inr rfl) pe_int)
      (pss_cons (ps_for PassesOwn.never rfl (piL K (pe_slice sl_list (pv 0) po_none (po_some pe_int))) (pg_name (i := 2) nd rfl (by first | exact Or.inl rfl | exact Or.inr rfl)) (pss_one (ps_set (i := 1) nd rfl (by first | exact Or.inl rfl | exact Or.inr rfl) (pe_op op_mod (pe_op op_add (pe_op op_add (pe_op op_mul (pv 1) pe_int) (pe_op op_mod (pv 2) pe_int)) pe_int) pe_int))))
      (pss_one (ps_ret (pe_lst (pa_cons (pe_callTy (crLst K) (by rfl) T.n_list (by decide +kernel) (pa_cons (pe_slice sl_list (pv 0) po_none (po_some pe_int)) pa_nil)) (pa_cons pe_int (pa_cons pe_int (pa_cons pe_int (pa_cons (pv 1) pa_nil)))))))))), ?_⟩
  obtain ⟨ms, hms⟩ : ∃ ms : List Int, cutV (ns.map V.int) none (some 63) = ms.map V.int := ints_sub rfl fun y hy => by
    unfold cutV at hy
    exact List.mem_of_mem_drop (List.mem_of_mem_take hy)
  refine ⟨_, rfl, 63, rfl, a, _, rfl, hs, fun p hp => ⟨p, rfl, ⟨_, SqL.of upd_same⟩, ?_⟩⟩
  rw [hms]
  have u1 := same_new hp (.lst (ms.map V.int))
  refine for_list (K := K) (a := p) (xs := ms.map V.int) (fun i σ H' => ∃ (z : Int) (o2 : Option V), σ = [some (.ref a), some (.int z), o2] ∧ H' = upd H p (.lst (ms.map V.int))) ⟨7, none, rfl, rfl⟩ (fun i σ H' _ h => by obtain ⟨_, _, _, rfl⟩ := h; exact SqL.of upd_same) ?_ ?_
  · rintro i x σ H1 hx ⟨z, o2, rfl, rfl⟩
    rw [List.getElem?_map] at hx
    obtain ⟨cell, _, rfl⟩ := Option.map_eq_some_iff.mp hx
    exact ⟨_, rfl, _, _, rfl, rfl, .inr ⟨by decide, by decide⟩, _, rfl, _, _, rfl, rfl, (by show (0 : Int) < 1000003; decide), _, _, rfl, rfl, _, _, rfl, rfl, _, _, rfl, rfl, (by show (0 : Int) < 2147483647; decide), _, _, rfl, rfl⟩
  · rintro σ H1 ⟨z, o2, rfl, rfl⟩
    refine ⟨_, rfl, 63, rfl, a, _, rfl, sqL_same hs u1, fun p2 hp2 => ?_⟩
    rw [hms]
    have u2 := u1.trans (same_new hp2 (.lst (ms.map V.int)))
    refine ⟨p2, _, rfl, .inl (SqL.of upd_same), fun cl hcl => ?_⟩
    have u3 := u2.trans (same_new hcl (.lst (ms.map V.int)))
    refine ⟨_, rfl, (by show 5 ≤ sizeLine; decide), fun b hb => ?_⟩
    have u4 := same_new hb (.lst [.ref cl, .int 0, .int 0, .int 0, .int z])
    have ncb : cl ≠ b := fun e => by rw [← e, upd_same] at hb; cases hb
    exact q _ b (u3.trans u4) ⟨cl, ms, 0, 0, 0, z, upd_same, ncb, u4 _ _ upd_same⟩ (u3.free hb)
end
end Wk

set_option maxRecDepth 100000
set_option maxHeartbeats 4000000
namespace Wk
open PySem PySem.Spec PyProof.Rows L2 Co
theorem eqv_list (l m : List Int) : PyData.eqv (.list (l.map .int)) (.list (m.map .int)) = decide (l = m) := by
  rw [PyData.eqv, eqv_ints]
theorem sorted_one {l m : List Int} (h : l.Perm m) (h1 : l.Pairwise (· ≤ ·)) (h2 : m.Pairwise (· ≤ ·)) : l = m :=
  List.Perm.eq_of_pairwise (fun a b _ _ h1 h2 => Int.le_antisymm h1 h2) h1 h2 h
section
variable {P : Program} {w : World} {K : PySem.W.Frag} {mg : Str → Option Value} {base : Heap} {C : Addr}
theorem f_of {x : Str} {st : Stmt} {N ps : List Str} {S : SpV} {fL : Addr} {fdL : FuncData} (k : Nat) (F : FunD K x x (defArgs st) (defBody st) (defScope st) [] [] fL fdL) (sc : FnScope N ps (defScope st)) (len : ∀ vs H Q, S vs H Q → vs.length = ps.length)
    (body : ∀ (f : Addr) (cdv : Value) (A : Around) (outer : List Env) (s : Shared) (H : Hp) (vs : List V) (Q : VK) (E : XK), Room k (A.deeper (envOfC x (defScope st) s.heap.objs.size f cdv)) → S vs H Q →
      ∃ t, PSs (Bc P w K mg base N x st f cdv A outer s H E) (defBody st) t ∧ t { nx := fun _ H' => Q .non H', rt := Q } (start N vs) H) : FnOk P w K mg base CX0 (k + 1) fL fdL ps (sp S) := by
  refine F.ok sc (fun vs H Q E h => len vs H Q h) (fun cdv A outer s H vs Q E hr h => ?_)
  obtain ⟨t, h1, h2⟩ := body fL cdv A outer s H vs Q E hr h
  exact ⟨t, h1.nox, h2⟩
theorem sc_law : FnScope ["_law_script", "_law_box_here", "_law_chart_here", "_law_due", "_law_late", "_law_other", "_law_hand", "_law_some", "_law_count"] ["_law_script"] (defScope (top 65)) := ⟨rfl, rfl, rfl, by decide +kernel, rfl, by decide +kernel, by decide +kernel⟩
def spLaw (K : PySem.W.Frag) : SpV := fun vs H Q => ∃ a, ∃ ns : List Int, vs = [.ref a] ∧ SqL K H a (ns.map V.int) ∧ ∀ H', Q (.bl true) H'
theorem ok_law {fL : Addr} {fdL : FuncData} (T : Txt K mg) (W : Wb K mg C) (F : FunD K "law" "law" (defArgs (top 65)) (defBody (top 65)) (defScope (top 65)) [] [] fL fdL) : FnOk P w K mg base CX0 12 fL fdL ["_law_script"] (sp (spLaw K)) := by
  refine f_of 11 F sc_law (by rintro vs H Q ⟨a, ns, rfl, _⟩; rfl) ?_
  rintro f cdv A outer s0 H vs Q E hr ⟨a, ns, rfl, hs, q⟩
  have nd := sc_law.nd
  refine ⟨_, (pss_cons (ps_set (i := 1) nd rfl (by first | exact Or.inl rfl | exact Or.inr rfl) (pe_callG (g__law_box T) hr rfl (pa_cons (pv 0) pa_nil)))
      (pss_cons (ps_set (i := 2) nd rfl (by first | exact Or.inl rfl | exact Or.inr rfl) (pe_callG (g__law_some_chart T) hr rfl (pa_cons (pv 1) (pa_cons pe_int pa_nil))))
      (pss_cons (ps_set (i := 3) nd rfl (by first | exact Or.inl rfl | exact Or.inr rfl) (pe_callB cr_sorted (by rfl) T.n_sorted (by decide +kernel) (pa_cons (pe_lc (own := [("_law_some", 7), ("_law_count", 8)]) rfl nd (piL K (pe_callG (g_eyes T) hr rfl (pa_cons (pv 2) pa_nil))) (blkOk_by (by kernel_rfl)) (fun _ _ _ _ _ => (pgT K (n := 2) rfl (pgs_cons (pg_name (i := 7) nd rfl (by first | exact Or.inl rfl | exact Or.inr rfl)) (pgs_cons (pg_name (i := 8) nd rfl (by first | exact Or.inl rfl | exact Or.inr rfl)) pgs_nil)))) (fun _ _ _ _ _ => pts_nil) (fun _ _ _ _ _ => (pv 8))) pa_nil)))
      (pss_cons (ps_set (i := 4) nd rfl (by first | exact Or.inl rfl | exact Or.inr rfl) (pe_callG (g_later T W) hr rfl (pa_cons (pv 2) (pa_cons (pe_callG (g__law_take T) hr rfl (pa_cons (pv 1) (pa_cons pe_int pa_nil))) pa_nil))))
      (pss_cons (ps_if (pt_cmpR (op_neD hr.units) (pe_lc (own := [("_law_some", 7), ("_law_count", 8)]) rfl nd (piL K (pe_callG (g_eyes T) hr rfl (pa_cons (pv 4) pa_nil))) (blkOk_by (by kernel_rfl)) (fun _ _ _ _ _ => (pgT K (n := 2) rfl (pgs_cons (pg_name (i := 7) nd rfl (by first | exact Or.inl rfl | exact Or.inr rfl)) (pgs_cons (pg_name (i := 8) nd rfl (by first | exact Or.inl rfl | exact Or.inr rfl)) pgs_nil)))) (fun _ _ _ _ _ => pts_nil) (fun _ _ _ _ _ => (pv 8))) (pe_lc (own := [("_law_some", 7), ("_law_count", 8)]) rfl nd (piL K (pe_callG (g_eyes T) hr rfl (pa_cons (pv 2) pa_nil))) (blkOk_by (by kernel_rfl)) (fun _ _ _ _ _ => (pgT K (n := 2) rfl (pgs_cons (pg_name (i := 7) nd rfl (by first | exact Or.inl rfl | exact Or.inr rfl)) (pgs_cons (pg_name (i := 8) nd rfl (by first | exact Or.inl rfl | exact Or.inr rfl)) pgs_nil)))) (fun _ _ _ _ _ => pts_nil) (fun _ _ _ _ _ => (pv 8))) (nomark _)) (pss_one (ps_ret pe_bl)) pss_nil)
      (pss_cons (ps_for PassesOwn.never rfl (piT K (pe_tup (pa_cons (pe_tup (pa_cons (pe_callG (g_turned T) hr rfl (pa_cons (pv 2) pa_nil)) (pa_cons pe_int pa_nil))) (pa_cons (pe_tup (pa_cons (pe_callG (g_mirrored T) hr rfl (pa_cons (pv 2) pa_nil)) (pa_cons (pe_un un_neg pe_int) pa_nil))) (pa_cons (pe_tup (pa_cons (pv 4) (pa_cons pe_int pa_nil))) pa_nil))))) (pgT K (n := 2) rfl (pgs_cons (pg_name (i := 5) nd rfl (by first | exact Or.inl rfl | exact Or.inr rfl)) (pgs_cons (pg_name (i := 6) nd rfl (by first | exact Or.inl rfl | exact Or.inr rfl)) pgs_nil))) (pss_cons (ps_if (pt_cmpR (op_neD hr.units) (pe_callB cr_sorted (by rfl) T.n_sorted (by decide +kernel) (pa_cons (pe_lc (own := [("_law_some", 7), ("_law_count", 8)]) rfl nd (piL K (pe_callG (g_eyes T) hr rfl (pa_cons (pv 5) pa_nil))) (blkOk_by (by kernel_rfl)) (fun _ _ _ _ _ => (pgT K (n := 2) rfl (pgs_cons (pg_name (i := 7) nd rfl (by first | exact Or.inl rfl | exact Or.inr rfl)) (pgs_cons (pg_name (i := 8) nd rfl (by first | exact Or.inl rfl | exact Or.inr rfl)) pgs_nil)))) (fun _ _ _ _ _ => pts_nil) (fun _ _ _ _ _ => (pe_op op_mul (pv 6) (pv 8)))) pa_nil)) (pv 3) (nomark _)) (pss_one (ps_ret pe_bl)) pss_nil)
      (pss_cons (ps_if (PW.pt (pw_or (pt_cmpR op_ne (pe_callG (g_whole_count T) hr rfl (pa_cons (pv 5) pa_nil)) (pe_op op_mul (pv 6) (pe_callB (crSum K) (by rfl) T.n_sum (by decide +kernel) (pa_cons (pv 3) pa_nil))) (nomark _)) (pw_or1 (pt_cmpR op_ne (pe_callG (g_least_weight T W) hr rfl (pa_cons (pv 5) pa_nil)) (pe_callG (g_least_weight T W) hr rfl (pa_cons (pv 2) pa_nil)) (nomark _))))) (pss_one (ps_ret pe_bl)) pss_nil)
      (pss_one (ps_if (pt_cmpR op_ne (pe_callG (g_can_fill T) hr rfl (pa_cons (pv 5) pa_nil)) (pe_callG (g_can_fill T) hr rfl (pa_cons (pv 2) pa_nil)) (nomark _)) (pss_one (ps_ret pe_bl)) pss_nil)))))
      (pss_one (ps_ret pe_bl)))))))), ?_⟩
  refine ⟨_, rfl, a, ns, rfl, hs, fun H1 b s1 b1 b0 => ?_⟩
  refine ⟨_, rfl, b, rfl, b1, fun H2 k2 b2 v c hc g => ?_⟩
  have hcl := countsLen g
  refine ⟨_, rfl, v, c, rfl, hc, g, fun H3 p xs s3 p0 hp hxs => ⟨p, rfl, ⟨_, SqL.of hp⟩, fun D hD => ?_⟩⟩
  refine lc_list (K := K) (a := p) (xs := xs) (fun i H' => Same H3 H' ∧ H' D = some (.lst (((countsM c).take i).map V.int))) ⟨same_new hD _, upd_same⟩ (fun i H' _ h => SqL.of (h.1 _ _ hp)) ?_ ?_
  · rintro i x H4 hx ⟨s4, hD4⟩
    obtain ⟨n, hn, a, u, rfl, ha⟩ := paired_get hxs hx
    refine ⟨a, _, rfl, SqT.of (s4 _ _ ha), rfl, _, _, rfl, _, _, rfl, rfl, rfl, tyes ⟨_, rfl, _, hD4, small99 (by rw [List.length_map, List.length_take]; omega), sapp s4 hD _, ?_⟩⟩
    rw [upd_same, take_snoc hn, List.map_append]; rfl
  rintro H4 ⟨s4, hD4⟩
  rw [List.take_of_length_le (by rw [pLen hxs]; exact Nat.le_refl _)] at hD4
  refine ⟨D, countsM c, rfl, SqL.of hD4, by omega, fun due Du hperm hsort hDu => ?_⟩
  have sDu := same_new hDu (.lst (due.map V.int))
  have s24 : Same H2 (upd H4 Du (.lst (due.map V.int))) := (s3.trans s4).trans sDu
  have hc4 := hc.tk (.of_same s24)
  have hdu4 : (upd H4 Du (.lst (due.map V.int))) Du = some (.lst (due.map V.int)) := upd_same
  have bx4 := box_same b2.1 s24
  refine ⟨_, rfl, _, rfl, b, 20, rfl, bx4, by decide, by decide, fun H5 k5 b5 z z0 z20 => ?_⟩
  have nDb : Du ≠ b := fun e => by obtain ⟨ys, h⟩ := box_at b2.1; rw [e, (s3.trans s4) _ _ h] at hDu; cases hDu
  have hdu5 := k5 _ _ (by simpa using nDb) hdu4
  have hc5 := hc4.tk (box_tk bx4 k5)
  refine ⟨v, c, z, rfl, hc5, g, fun H6 vl s6 hl => ?_⟩
  have hdu6 := s6 _ _ hdu5
  have hc6 := hc5.tk (.of_same s6)
  have gl := later_good g z
  -- the two lists of counts
  have hll := countsLen gl
  refine ⟨_, rfl, vl, laterM c z, rfl, hl, gl, fun H7 p7 xs7 s7 p70 hp7 hxs7 => ⟨p7, rfl, ⟨_, SqL.of hp7⟩, fun D7 hD7 => ?_⟩⟩
  refine lc_list (K := K) (a := p7) (xs := xs7) (fun i H' => Same H7 H' ∧ H' D7 = some (.lst (((countsM (laterM c z)).take i).map V.int))) ⟨same_new hD7 _, upd_same⟩ (fun i H' _ h => SqL.of (h.1 _ _ hp7)) ?_ ?_
  · rintro i x H8 hx ⟨s8, hD8⟩
    obtain ⟨n, hn, a, u, rfl, ha⟩ := paired_get hxs7 hx
    refine ⟨a, _, rfl, SqT.of (s8 _ _ ha), rfl, _, _, rfl, _, _, rfl, rfl, rfl, tyes ⟨_, rfl, _, hD8, small99 (by rw [List.length_map, List.length_take]; omega), sapp s8 hD7 _, ?_⟩⟩
    rw [upd_same, take_snoc hn, List.map_append]; rfl
  rintro H8 ⟨s8, hD8⟩
  rw [List.take_of_length_le (by rw [pLen hxs7]; exact Nat.le_refl _), later_same g z] at hD8
  have s68 := s7.trans s8
  refine ⟨_, rfl, v, c, rfl, hc6.tk (.of_same s68), g, fun H9 p9 xs9 s9 p90 hp9 hxs9 => ⟨p9, rfl, ⟨_, SqL.of hp9⟩, fun D9 hD9 => ?_⟩⟩
  refine lc_list (K := K) (a := p9) (xs := xs9) (fun i H' => Same H9 H' ∧ H' D9 = some (.lst (((countsM c).take i).map V.int))) ⟨same_new hD9 _, upd_same⟩ (fun i H' _ h => SqL.of (h.1 _ _ hp9)) ?_ ?_
  · rintro i x H10 hx ⟨s10, hD10⟩
    obtain ⟨n, hn, a, u, rfl, ha⟩ := paired_get hxs9 hx
    refine ⟨a, _, rfl, SqT.of (s10 _ _ ha), rfl, _, _, rfl, _, _, rfl, rfl, rfl, tyes ⟨_, rfl, _, hD10, small99 (by rw [List.length_map, List.length_take]; omega), sapp s10 hD9 _, ?_⟩⟩
    rw [upd_same, take_snoc hn, List.map_append]; rfl
  rintro H10 ⟨s10, hD10⟩
  rw [List.take_of_length_le (by rw [pLen hxs9]; exact Nat.le_refl _)] at hD10
  have s810 := s9.trans s10
  refine ⟨_, _, .lst (SqL.of (s810 _ _ hD8)) (dp_ints _), .lst (SqL.of hD10) (dp_ints _), shaped_ints _, shaped_ints _, _, rfl, ?_⟩
  rw [eqv_list, decide_eq_true rfl]
  refine iteF ?_
  have s610 := s68.trans s810
  have hc10 := hc6.tk (.of_same s610)
  have hl10 := hl.tk (.of_same s610)
  have hdu10 := s610 _ _ hdu6
  refine ⟨_, rfl, v, c, rfl, hc10, g, fun H11 vt s11 ht => ?_⟩
  refine ⟨(by show 2 ≤ sizeLine; decide), fun t1 nt1 => ?_⟩
  have w1 := s11.trans (same_new nt1 (.tup [vt, .int 1]))
  refine ⟨_, rfl, v, c, rfl, hc10.tk (.of_same w1), g, fun H12 vm s12 hm => ?_⟩
  refine ⟨_, rfl, (by show 2 ≤ sizeLine; decide), fun t2 nt2 => ?_⟩
  have w2 := s12.trans (same_new nt2 (.tup [vm, .int (-1)]))
  refine ⟨_, rfl, (by show 2 ≤ sizeLine; decide), fun t3 nt3 => ?_⟩
  have w3 := same_new nt3 (.tup [vl, .int 1])
  refine ⟨(by show 3 ≤ sizeLine; decide), fun tt nt => ⟨tt, rfl, ⟨_, SqT.of upd_same⟩, ?_⟩⟩
  have w4 := same_new nt (.tup [.ref t1, .ref t2, .ref t3])
  have w234 := w2.trans (w3.trans w4)
  have w34 := w3.trans w4
  have wall := w1.trans w234
  have items : ∀ (i : Nat) (x : V), ([V.ref t1, .ref t2, .ref t3] : List V)[i]? = some x → ∃ (t : Addr) (v' : V) (c' : Ch) (hand : Int), x = .ref t ∧ (upd (upd (upd H12 t2 (.tup [vm, .int (-1)])) t3 (.tup [vl, .int 1])) tt (.tup [.ref t1, .ref t2, .ref t3])) t = some (.tup [v', .int hand]) ∧
      IsCh (upd (upd (upd H12 t2 (.tup [vm, .int (-1)])) t3 (.tup [vl, .int 1])) tt (.tup [.ref t1, .ref t2, .ref t3])) v' c' ∧ c'.Good ∧ Alike c c' hand := by
    intro i x hx
    match i, hx with
    | 0, hx =>
      cases hx
      exact ⟨t1, vt, turnedM c, 1, rfl, w234 _ _ upd_same, ht.tk (.of_same ((same_new nt1 _).trans w234)), turned_good g, turned_alike g⟩
    | 1, hx =>
      cases hx
      exact ⟨t2, vm, mirroredM c, -1, rfl, w34 _ _ upd_same, hm.tk (.of_same ((same_new nt2 _).trans w34)), mirrored_good g, mirrored_alike g⟩
    | 2, hx =>
      cases hx
      exact ⟨t3, vl, laterM c z, 1, rfl, w4 _ _ upd_same, hl10.tk (.of_same wall), gl, later_alike g z⟩
  have hc13 := hc10.tk (.of_same wall)
  have hdu13 := wall _ _ hdu10
  refine for_tup (K := K) (a := tt) (xs := [.ref t1, .ref t2, .ref t3]) (fun (i : Nat) (σ : L2.St) (H' : Hp) => ∃ o5 o6 o7 o8, σ = [some (.ref a), some (.ref b), some v, some (.ref Du), some vl, o5, o6, o7, o8] ∧ Same (upd (upd (upd H12 t2 (.tup [vm, .int (-1)])) t3 (.tup [vl, .int 1])) tt (.tup [.ref t1, .ref t2, .ref t3])) H')
    ⟨_, _, _, _, rfl, .refl _⟩ (fun i σ H' _ ⟨_, _, _, _, _, h⟩ => SqT.of (h _ _ upd_same)) ?_ ?_
  · rintro i x σ H14 hx ⟨o5, o6, o7, o8, rfl, s14⟩
    obtain ⟨t, v', c', hand, rfl, hti, hci, gi, al⟩ := items i x hx
    have hu : -(2 ^ 64) < hand ∧ hand < 2 ^ 64 := by rcases al.unit with h | h <;> rw [h] <;> decide
    have hcl' := countsLen gi
    refine ⟨t, _, rfl, SqT.of (s14 _ _ hti), rfl, _, _, rfl, _, _, rfl, rfl, ?_⟩
    refine ⟨_, rfl, v', c', rfl, hci.tk (.of_same s14), gi, fun H15 p15 xs15 s15 p150 hp15 hxs15 => ⟨p15, rfl, ⟨_, SqL.of hp15⟩, fun D15 hD15 => ?_⟩⟩
    refine lc_list (K := K) (a := p15) (xs := xs15) (fun i H' => Same H15 H' ∧ H' D15 = some (.lst ((((countsM c').take i).map fun x => hand * x).map V.int))) ⟨same_new hD15 _, upd_same⟩ (fun i H' _ h => SqL.of (h.1 _ _ hp15)) ?_ ?_
    · rintro i x H16 hx ⟨s16, hD16⟩
      obtain ⟨n, hn, a, u, rfl, ha⟩ := paired_get hxs15 hx
      refine ⟨a, _, rfl, SqT.of (s16 _ _ ha), rfl, _, _, rfl, _, _, rfl, rfl, rfl, tyes ⟨_, rfl, _, rfl, _, _, rfl, rfl, .inl hu, _, hD16, small99 (by rw [List.length_map, List.length_map, List.length_take]; omega), sapp s16 hD15 _, ?_⟩⟩
      rw [upd_same, take_snoc hn, List.map_append, List.map_append]; rfl
    rintro H16 ⟨s16, hD16⟩
    rw [List.take_of_length_le (by rw [pLen hxs15]; exact Nat.le_refl _)] at hD16
    refine ⟨D15, _, rfl, SqL.of hD16, by rw [List.length_map]; omega, fun due' Du' hperm' hsort' hDu' => ?_⟩
    have hsame : due' = due := by
      refine sorted_one (hperm'.trans ?_) hsort' hsort
      refine (al.counts.map _).trans ?_
      have : ((countsM c).map fun x => hand * x).map (fun x => hand * x) = countsM c := by
        rw [List.map_map]
        have h2 : ∀ x : Int, hand * (hand * x) = x := fun x => by rcases al.unit with h | h <;> rw [h] <;> omega
        have : ((fun x => hand * x) ∘ fun x => hand * x) = (id : Int → Int) := funext h2
        rw [this, List.map_id]
      rw [this]
      exact hperm.symm
    have s17 := s14.trans (s15.trans (s16.trans (same_new hDu' (.lst (due'.map V.int)))))
    have hdu17 := s17 _ _ hdu13
    have hc17 := hc13.tk (.of_same s17)
    have hci17 := hci.tk (.of_same s17)
    refine ⟨_, rfl, _, _, .lst (SqL.of upd_same) (dp_ints _), .lst (SqL.of hdu17) (dp_ints _), shaped_ints _, shaped_ints _, _, rfl, ?_⟩
    rw [eqv_list, decide_eq_true hsame]
    refine iteF ?_
    refine ⟨_, rfl, v', c', rfl, hci17, gi, fun H18 s18 => ?_⟩
    have hdu18 := s18 _ _ hdu17
    refine ⟨_, rfl, _, rfl, Du, due, rfl, SqL.of hdu18, _, _, rfl, rfl, .inl hu, rfl, _, rfl, ?_⟩
    have hsum : (countsM c').sum = hand * due.sum := by
      rw [sum_perm al.counts, sum_perm hperm]
      have := sum_map_mul hand (fun x => x) (countsM c)
      rw [List.map_id'] at this
      exact this
    refine ite_ne_F (by rw [hsum]) ?_
    refine ⟨_, rfl, v', c', rfl, hci17.tk (.of_same s18), gi, fun H19 s19 => ?_⟩
    have s1819 := s18.trans s19
    refine ⟨_, rfl, v, c, rfl, hc17.tk (.of_same s1819), g, fun H20 s20 => ⟨rfl, _, rfl, ?_⟩⟩
    refine ite_ne_F (by rw [al.lw]) ?_
    have s1820 := s1819.trans s20
    refine ⟨_, rfl, v', c', rfl, hci17.tk (.of_same s1820), gi, fun H21 r1 s21 hr1 => ?_⟩
    have s1821 := s1820.trans s21
    refine ⟨_, rfl, v, c, rfl, hc17.tk (.of_same s1821), g, fun H22 r2 s22 hr2 => ⟨rfl, _, rfl, ?_⟩⟩
    have hrr : r1 = r2 := by
      rw [Bool.eq_iff_iff, hr1, hr2]
      exact al.fills
    refine ite_ne_F (by rw [hrr]) ?_
    exact ⟨_, _, _, _, rfl, s17.trans (s1821.trans s22)⟩
  · rintro σ H14 ⟨o5, o6, o7, o8, rfl, s14⟩
    exact q _
end
end Wk

set_option maxRecDepth 100000
set_option maxHeartbeats 0
namespace Wk
open PySem PySem.Spec PyProof.Rows L2 Co
/-! ### the head: each def as a datum, the facts by names, the run -/
def dTop (x : Str) (i : Nat) : He.DefD := ⟨(x, none), x, x, defArgs (top i), defBody (top i), defScope (top i), [], []⟩
def dLater : He.DefD := ⟨("later", none), "later", "later", defArgs (top 53), defBody (top 53), defScope (top 53), [.int 1], []⟩
def dWeb (m q : Str) (i : Nat) : He.DefD := ⟨("Web", some m), m, q, defArgs (inClass (top 37) i), defBody (inClass (top 37) i), defScope (inClass (top 37) i), [], []⟩
def fn : List He.DefD := ([dTop "is_clock" 6, dTop "step_of" 7, dTop "is_square" 12, dTop "is_chart" 13, dTop "need_chart" 14, dTop "within" 15, dTop "value" 16, dTop "is_told" 17, dTop "is_sea" 18, dTop "every_square" 19, dTop "beside" 20, dTop "told_squares" 21, dTop "sides_of" 22, dTop "flooded" 23, dTop "corners" 25, dTop "about" 26, dTop "across" 27, dTop "is_side" 28, dTop "whirl" 29, dTop "grown" 30, dTop "eyes_of" 31, dTop "count_of" 32, dTop "eyes" 33, dTop "whole_count" 34, dTop "flanks" 36, dTop "settled" 38, dTop "least_breaks" 39, dTop "weight" 40, dTop "least_weight" 41, dTop "half_of" 43] : List He.DefD) ++ ([dTop "room_between" 44, dTop "rooms" 45, dTop "ring_back" 46, dTop "tides" 47, dTop "bar" 48, dTop "can_fill" 49, dTop "turned" 51, dTop "mirrored" 52, dTop "_law_box" 55, dTop "_law_mixed" 56, dTop "_law_take" 57, dTop "_law_clock" 58, dTop "_law_square" 59, dTop "_law_near_hour" 60, dTop "_law_chart" 61, dTop "_law_some_chart" 62, dTop "_law_whirled" 63, dTop "_law_about" 64, dTop "law" 65, dLater, dWeb "__init__" "Web.__init__" 0, dWeb "fares" "Web.fares" 1, dWeb "reach" "Web.reach" 2, dWeb "move" "Web.move" 3, dWeb "settle" "Web.settle" 4, dWeb "told" "Web.told" 5] : List He.DefD)
def fa : List He.Fa := ([.glo "is_clock", .glo "step_of", .glo "is_square", .glo "is_chart", .glo "need_chart", .glo "within", .glo "value", .glo "is_told", .glo "is_sea", .glo "every_square", .glo "beside", .glo "told_squares", .glo "sides_of", .glo "flooded", .glo "corners", .glo "about", .glo "across", .glo "is_side", .glo "whirl", .glo "grown", .glo "eyes_of", .glo "count_of", .glo "eyes", .glo "whole_count", .glo "flanks", .glo "settled", .glo "least_breaks", .glo "weight", .glo "least_weight", .glo "half_of"] : List He.Fa) ++ ([.glo "room_between", .glo "rooms", .glo "ring_back", .glo "tides", .glo "bar", .glo "can_fill", .glo "turned", .glo "mirrored", .glo "_law_box", .glo "_law_mixed", .glo "_law_take", .glo "_law_clock", .glo "_law_square", .glo "_law_near_hour", .glo "_law_chart", .glo "_law_some_chart", .glo "_law_whirled", .glo "_law_about", .glo "law", .glo "later", .glo "Web", .int "FEWEST_HOURS" (3), .int "MOST_HOURS" (15), .int "LAND" (-1), .int "UNTOLD" (-2), .int "MOST_SIDE" (9), .free "len", .free "all", .free "sum", .free "abs"] : List He.Fa) ++ ([.free "int", .free "list", .free "tuple", .free "dict", .free "range", .free "enumerate", .free "zip", .free "sorted", .cls "Web", .mkr "Web", .noat "Web" "place", .noat "Web" "counts", .noat "Web" "outside", .noat "Web" "doors", .noat "Web" "flow", .meth "Web" "fares", .meth "Web" "reach", .meth "Web" "move", .meth "Web" "settle", .meth "Web" "told"] : List He.Fa)
def loose : List Str := (["TideError", "BadChart", "FEWEST_HOURS", "MOST_HOURS", "LAND", "UNTOLD", "MOST_SIDE", "is_clock", "step_of", "is_square", "is_chart", "need_chart", "within", "value", "is_told", "is_sea", "every_square", "beside", "told_squares", "sides_of", "flooded", "corners", "about", "across", "is_side", "whirl", "grown", "eyes_of", "count_of", "eyes"] : List Str) ++ (["whole_count", "flanks", "settled", "least_breaks", "weight", "least_weight", "half_of", "room_between", "rooms", "ring_back", "tides", "bar", "can_fill", "turned", "mirrored", "_law_box", "_law_mixed", "_law_take", "_law_clock", "_law_square", "_law_near_hour", "_law_chart", "_law_some_chart", "_law_whirled", "_law_about", "later", "Web"] : List Str)
abbrev R : PySem.W.OpenRow := PySem.W.OpenLaw.row PySem.Challenge.rw_cotide_k31_whole_patches_keep_their_eyes
abbrev hk : PySem.W.Hook := He.hookD 6 fa fn
def ob (s : PySem.W.SharedT) : He.AlD := He.obsDG 6 fa fn (HandSHeadRun.getT s)
theorem ob_eq (s : PySem.W.SharedT) : ob s = hk.obs s.abs := He.obsDG_eq (HandSHeadRun.getT_eq s)
theorem run (w : World) : HandSHeadRun.RunEq R (PySem.W.view R.prog [65]) hk ob 4000 loose w := by
  intro os
  kernel_rfl
section
variable {K : PySem.W.Frag} {h : Heap} {mg : Str → Option Value}
theorem df_of (X : K.In h) (G : h.Ns mainGlobals mg) (c : He.SaysD fa fn K) {x : Str} {n : Nat} (i j : Nat) (hi : fn[i]? = some (dTop x n)) (hj : fa[j]? = some (.glo x)) : Df K mg x (top n) := by
  obtain ⟨fd, F⟩ := c.def_ i hi
  exact ⟨He.ga K x, fd, F, He.glo_ok X G (c.fact j hj)⟩
theorem md_of (c : He.SaysD fa fn K) {m q : Str} {n : Nat} (i j : Nat) (hi : fn[i]? = some (dWeb m q n)) (hj : fa[j]? = some (.meth "Web" m)) : MD K (He.ga K "Web") m q (inClass (top 37) n) := by
  obtain ⟨fd, F⟩ := c.def_ i hi
  exact ⟨He.ma K (He.ga K "Web") m, fd, F, He.meth_ok (c.fact j hj)⟩
theorem txt_of (X : K.In h) (G : h.Ns mainGlobals mg) (c : He.SaysD fa fn K) : Txt K mg where
  n_len := He.free_ok X G (c.fact 56 rfl)
  n_all := He.free_ok X G (c.fact 57 rfl)
  n_sum := He.free_ok X G (c.fact 58 rfl)
  n_abs := He.free_ok X G (c.fact 59 rfl)
  n_int := He.free_ok X G (c.fact 60 rfl)
  n_list := He.free_ok X G (c.fact 61 rfl)
  n_tuple := He.free_ok X G (c.fact 62 rfl)
  n_dict := He.free_ok X G (c.fact 63 rfl)
  n_range := He.free_ok X G (c.fact 64 rfl)
  n_enumerate := He.free_ok X G (c.fact 65 rfl)
  n_zip := He.free_ok X G (c.fact 66 rfl)
  n_sorted := He.free_ok X G (c.fact 67 rfl)
  c_FEWEST_HOURS := He.int_ok X G (c.fact 51 rfl)
  c_MOST_HOURS := He.int_ok X G (c.fact 52 rfl)
  c_LAND := He.int_ok X G (c.fact 53 rfl)
  c_UNTOLD := He.int_ok X G (c.fact 54 rfl)
  c_MOST_SIDE := He.int_ok X G (c.fact 55 rfl)
  d_is_clock := df_of X G c 0 0 rfl rfl
  d_step_of := df_of X G c 1 1 rfl rfl
  d_is_square := df_of X G c 2 2 rfl rfl
  d_is_chart := df_of X G c 3 3 rfl rfl
  d_need_chart := df_of X G c 4 4 rfl rfl
  d_within := df_of X G c 5 5 rfl rfl
  d_value := df_of X G c 6 6 rfl rfl
  d_is_told := df_of X G c 7 7 rfl rfl
  d_is_sea := df_of X G c 8 8 rfl rfl
  d_every_square := df_of X G c 9 9 rfl rfl
  d_beside := df_of X G c 10 10 rfl rfl
  d_told_squares := df_of X G c 11 11 rfl rfl
  d_sides_of := df_of X G c 12 12 rfl rfl
  d_flooded := df_of X G c 13 13 rfl rfl
  d_corners := df_of X G c 14 14 rfl rfl
  d_about := df_of X G c 15 15 rfl rfl
  d_across := df_of X G c 16 16 rfl rfl
  d_is_side := df_of X G c 17 17 rfl rfl
  d_whirl := df_of X G c 18 18 rfl rfl
  d_grown := df_of X G c 19 19 rfl rfl
  d_eyes_of := df_of X G c 20 20 rfl rfl
  d_count_of := df_of X G c 21 21 rfl rfl
  d_eyes := df_of X G c 22 22 rfl rfl
  d_whole_count := df_of X G c 23 23 rfl rfl
  d_flanks := df_of X G c 24 24 rfl rfl
  d_settled := df_of X G c 25 25 rfl rfl
  d_least_breaks := df_of X G c 26 26 rfl rfl
  d_weight := df_of X G c 27 27 rfl rfl
  d_least_weight := df_of X G c 28 28 rfl rfl
  d_half_of := df_of X G c 29 29 rfl rfl
  d_room_between := df_of X G c 30 30 rfl rfl
  d_rooms := df_of X G c 31 31 rfl rfl
  d_ring_back := df_of X G c 32 32 rfl rfl
  d_tides := df_of X G c 33 33 rfl rfl
  d_bar := df_of X G c 34 34 rfl rfl
  d_can_fill := df_of X G c 35 35 rfl rfl
  d_turned := df_of X G c 36 36 rfl rfl
  d_mirrored := df_of X G c 37 37 rfl rfl
  d__law_box := df_of X G c 38 38 rfl rfl
  d__law_mixed := df_of X G c 39 39 rfl rfl
  d__law_take := df_of X G c 40 40 rfl rfl
  d__law_clock := df_of X G c 41 41 rfl rfl
  d__law_square := df_of X G c 42 42 rfl rfl
  d__law_near_hour := df_of X G c 43 43 rfl rfl
  d__law_chart := df_of X G c 44 44 rfl rfl
  d__law_some_chart := df_of X G c 45 45 rfl rfl
  d__law_whirled := df_of X G c 46 46 rfl rfl
  d__law_about := df_of X G c 47 47 rfl rfl
  d_law := df_of X G c 48 48 rfl rfl
theorem web_of (X : K.In h) (G : h.Ns mainGlobals mg) (c : He.SaysD fa fn K) : Wb K mg (He.ga K "Web") where
  glo := He.glo_ok X G (c.fact 50 rfl)
  cls := He.cls_ok (c.fact 68 rfl)
  n_place := He.noat_ok (c.fact 70 rfl)
  n_counts := He.noat_ok (c.fact 71 rfl)
  n_outside := He.noat_ok (c.fact 72 rfl)
  n_doors := He.noat_ok (c.fact 73 rfl)
  n_flow := He.noat_ok (c.fact 74 rfl)
  d_init := by
    obtain ⟨fd, F⟩ := c.def_ 50 (d := dWeb "__init__" "Web.__init__" 0) rfl
    exact ⟨_, fd, F, He.mkr_ok (c.fact 69 rfl)⟩
  d_fares := md_of c 51 75 rfl rfl
  d_reach := md_of c 52 76 rfl rfl
  d_move := md_of c 53 77 rfl rfl
  d_settle := md_of c 54 78 rfl rfl
  d_told := md_of c 55 79 rfl rfl
  d_later := by
    obtain ⟨fd, F⟩ := c.def_ 49 (d := dLater) rfl
    exact ⟨_, fd, F, He.glo_ok X G (c.fact 49 rfl)⟩
theorem facts {P : Program} {w : World} {f : Addr} (X : K.In h) (G : h.Ns mainGlobals mg) (hfa : mg ("law" : Str) = some (.ref f)) (c : He.SaysD fa fn K) :
    ∃ fd : FuncData, (∀ (s : Shared) (v : Value), BindsTo s fd ⟨[v], []⟩ [("_law_script", v)]) ∧ ∀ base : Heap, K.In base → base.Ns mainGlobals mg → FnOk P w K mg base CX0 12 f fd ["_law_script"] (sp (spLaw K)) := by
  obtain ⟨fd, F⟩ := c.def_ 48 (d := dTop "law" 65) rfl
  have e := hfa.symm.trans (He.glo_ok X G (c.fact 48 (f := .glo "law") rfl))
  cases e
  have b := FunD.bindsA (ps := ["_law_script"]) F fun _ _ _ _ _ _ us hl => match us, hl with | [_], _ => rfl
  exact ⟨fd, fun s v => b s [v] rfl, fun base _ _ => ok_law (txt_of X G c) (web_of X G c) F⟩
end
end Wk
open PySem PySem.W PySem.Calls PyProof.Rows
theorem PySem.Challenge.cw_cotide_k31_whole_patches_keep_their_eyes_holds : PySem.Challenge.rw_cotide_k31_whole_patches_keep_their_eyes.Holds := by
  w_on; o_law
  refine HandSHeadRun.head_any (r := OpenLaw.row PySem.Challenge.rw_cotide_k31_whole_patches_keep_their_eyes) (q := view (OpenLaw.row PySem.Challenge.rw_cotide_k31_whole_patches_keep_their_eyes).prog [65]) (H := Wk.hk) (ob := Wk.ob) (M := 4000) (loose := Wk.loose) (d := HandSHeadRun.topDef (OpenLaw.row PySem.Challenge.rw_cotide_k31_whole_patches_keep_their_eyes).prog 65) (kwd := []) Wk.ob_eq
    (by kernel_rfl) (fun s => by kernel_rfl) Wk.run (by kernel_rfl) (by kernel_rfl) (by kernel_rfl) (by rfl) (by first | assumption | decide +kernel) (by decide +kernel) ⟨rfl, rfl, rfl, rfl, rfl, by decide +kernel⟩ ?hw ?hc
  case hw => w_witness2
  case hc =>
    refine L2.walk_ofE (l := PySem.Challenge.rw_cotide_k31_whole_patches_keep_their_eyes) (n := 63) (k := 12) (x := "_law_script") (CX := L2.CX0) rfl (by decide) (by kernel_rfl) ⟨rfl, by decide, by decide⟩ ?F (fun _ _ _ _ z => z)
    intro w mg fa h Y G hmg0
    obtain ⟨K, KX, c⟩ := Y
    have hmg : mg ("law" : PySem.Str) = some (.ref fa) := by
      have e : (HandSHeadRun.topDef (OpenLaw.row PySem.Challenge.rw_cotide_k31_whole_patches_keep_their_eyes).prog 65).name = ("law" : PySem.Str) := by kernel_rfl
      rw [← e]
      exact hmg0
    obtain ⟨fd, hb, hF⟩ := Wk.facts (P := (PySem.Challenge.rw_cotide_k31_whole_patches_keep_their_eyes).prog) (w := w) KX G hmg c
    exact ⟨K, fd, Wk.sp (Wk.spLaw K), KX, hb, fun H a ns hl _ hS => ⟨a, ns, rfl, hS, fun _ => rfl⟩, hF⟩

