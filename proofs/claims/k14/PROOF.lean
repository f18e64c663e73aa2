import PyProof.Rows.All
import Wide.All
import OpenK.AllK
import Wide.FinOn
import KE.KStateDown
import KE.GoesEnum
import Lean
import HandS.ForMost
import HandS.Exc
import HandS.ExcOwn
import HandS.ExcInit
import HandS.ExcField
import HandS.WordsExc
import HandS.Defaults
import HandS.IsInst
import HandS.OwnEq
import HandS.Codes
import HandS.Set
import HandS.SetFor
import HandS.Strs
import HandS.TupSets
import HandS.TupAny
import HandS.SortInts
import HandS.Walk
import HandS.Head0
import HandS.Head1
import HandS.Head2
import HandS.HeadEnd
import HandS.HeadHook1
import HandS.HeadHook2
import PySem.Challenge.RW_headamid_k14_whole_hues_right_by_depth
set_option Elab.async false
set_option linter.all false
set_option maxRecDepth 100000
set_option maxHeartbeats 0
/-! Plain lists: sorted rows without doubles, elders of classes, clashes of hues, depths; no program here. -/
namespace K14
/-! ### ascending lists without doubles -/
def ins (x : Nat) : List Nat → List Nat
  | [] => [x]
  | y :: r => if x < y then x :: y :: r else if x = y then y :: r else y :: ins x r
def srt (l : List Nat) : List Nat := l.foldr ins []
abbrev Asc (l : List Nat) : Prop := l.Pairwise (· < ·)
theorem mem_ins {x y : Nat} : ∀ {l : List Nat}, y ∈ ins x l ↔ y = x ∨ y ∈ l
  | [] => by simp [ins]
  | z :: r => by
    have ih := @mem_ins x y r
    unfold ins
    by_cases h1 : x < z
    · rw [if_pos h1, List.mem_cons]
    · rw [if_neg h1]
      by_cases h2 : x = z
      · rw [if_pos h2]
        subst h2
        constructor
        · exact fun h => .inr h
        · rintro (h | h)
          · rw [h]; exact List.mem_cons_self
          · exact h
      · rw [if_neg h2, List.mem_cons, ih, List.mem_cons]
        constructor
        · rintro (h | h | h)
          · exact .inr (.inl h)
          · exact .inl h
          · exact .inr (.inr h)
        · rintro (h | h | h)
          · exact .inr (.inl h)
          · exact .inl h
          · exact .inr (.inr h)
theorem asc_ins {x : Nat} : ∀ {l : List Nat}, Asc l → Asc (ins x l)
  | [], _ => by simp [ins, Asc]
  | z :: r, h => by
    have h' := List.pairwise_cons.mp h
    unfold ins
    by_cases h1 : x < z
    · rw [if_pos h1]
      refine List.pairwise_cons.mpr ⟨fun y hy => ?_, h⟩
      rcases List.mem_cons.mp hy with e | hy
      · rw [e]; exact h1
      · exact Nat.lt_trans h1 (h'.1 y hy)
    · rw [if_neg h1]
      by_cases h2 : x = z
      · rw [if_pos h2]; exact h
      · rw [if_neg h2]
        refine List.pairwise_cons.mpr ⟨fun y hy => ?_, asc_ins h'.2⟩
        rcases mem_ins.mp hy with e | hy
        · rw [e]; omega
        · exact h'.1 y hy
theorem mem_srt {y : Nat} : ∀ {l : List Nat}, y ∈ srt l ↔ y ∈ l
  | [] => by simp [srt]
  | x :: r => by
    show y ∈ ins x (srt r) ↔ _
    rw [mem_ins, mem_srt (l := r), List.mem_cons]
theorem asc_srt : ∀ l : List Nat, Asc (srt l)
  | [] => List.Pairwise.nil
  | _ :: r => asc_ins (asc_srt r)
theorem asc_uniq : ∀ {l m : List Nat}, Asc l → Asc m → (∀ k, k ∈ l ↔ k ∈ m) → l = m
  | [], [], _, _, _ => rfl
  | [], y :: m, _, _, h => by
    have := (h y).mpr List.mem_cons_self
    cases this
  | x :: l, [], _, _, h => by
    have := (h x).mp List.mem_cons_self
    cases this
  | x :: l, y :: m, hl, hm, h => by
    have hl' := List.pairwise_cons.mp hl
    have hm' := List.pairwise_cons.mp hm
    have e : x = y := by
      have h1 := (h x).mp List.mem_cons_self
      have h2 := (h y).mpr List.mem_cons_self
      rcases List.mem_cons.mp h1 with e | h1
      · exact e
      · rcases List.mem_cons.mp h2 with e | h2
        · exact e.symm
        · have a := hm'.1 x h1
          have b := hl'.1 y h2
          omega
    subst e
    rw [asc_uniq hl'.2 hm'.2 fun k => ?_]
    constructor
    · intro hk
      have a := hl'.1 k hk
      rcases List.mem_cons.mp ((h k).mp (List.mem_cons_of_mem _ hk)) with e | q
      · omega
      · exact q
    · intro hk
      have a := hm'.1 k hk
      rcases List.mem_cons.mp ((h k).mpr (List.mem_cons_of_mem _ hk)) with e | q
      · omega
      · exact q
theorem asc_nodup {l : List Nat} (h : Asc l) : l.Nodup := h.imp fun {_ _} q => Nat.ne_of_lt q
/-- a sorted row without doubles is the one that bears the same members -/
theorem srt_of {l m : List Nat} (h : Asc m) (k : ∀ x, x ∈ m ↔ x ∈ l) : m = srt l := asc_uniq h (asc_srt l) fun x => by rw [k, mem_srt]
/-- of ints: a row that ascends, its members those of l -/
theorem srt_int {l : List Nat} {ns : List Int} (h : ns.Pairwise (· < ·)) (k : ∀ z : Int, z ∈ ns ↔ ∃ x ∈ l, z = (x : Int)) : ns = (srt l).map fun n : Nat => (n : Int) := by
  have e1 : ns = (ns.map Int.toNat).map fun n : Nat => (n : Int) := by
    rw [List.map_map]
    have : ns.map ((fun n : Nat => (n : Int)) ∘ Int.toNat) = ns.map id := List.map_congr_left fun z hz => by
      obtain ⟨x, _, e⟩ := (k z).mp hz
      show ((z.toNat : Nat) : Int) = z
      omega
    rw [this, List.map_id]
  have e2 : ns.map Int.toNat = srt l := by
    refine srt_of ?_ fun x => ?_
    · show List.Pairwise _ _
      rw [List.pairwise_map]
      refine h.imp_of_mem fun {a b} ha hb q => ?_
      obtain ⟨x, _, e⟩ := (k a).mp ha
      obtain ⟨y, _, e'⟩ := (k b).mp hb
      omega
    · constructor
      · intro hx
        obtain ⟨z, hz, e⟩ := List.mem_map.mp hx
        obtain ⟨y, hy, e'⟩ := (k z).mp hz
        have : y = x := by omega
        rw [← this]; exact hy
      · intro hx
        exact List.mem_map.mpr ⟨(x : Int), (k _).mpr ⟨x, hx, rfl⟩, by simp⟩
  rw [e1, e2]
/-- sorted of a row that ascends already (with one more at its end): ints, by any order -/
theorem sorted_same {l : List Nat} (h : Asc l) {ns : List Int} (p : ns.Perm (l.map fun n : Nat => (n : Int))) (q : ns.Pairwise (· ≤ ·)) : ns = l.map fun n : Nat => (n : Int) := by
  have nd : ns.Nodup := by
    refine p.symm.nodup ?_
    rw [List.Nodup, List.pairwise_map]
    exact h.imp fun {a b} r => by omega
  have as : ns.Pairwise (· < ·) := (q.and nd).imp fun {a b} r => by omega
  have e := srt_int (l := l) as fun z => by
    rw [p.mem_iff, List.mem_map]
    constructor
    · rintro ⟨x, hx, e⟩; exact ⟨x, hx, e.symm⟩
    · rintro ⟨x, hx, e⟩; exact ⟨x, hx, e.symm⟩
  rw [e, ← srt_of h fun _ => Iff.rfl]
/-! ### elders -/
abbrev grp (rows : List (List Nat)) (own : List Nat) : List Nat := own.flatMap fun b => b :: rows.getD b []
def stepE (rows : List (List Nat)) (own : List Nat) : List (List Nat) := rows ++ [srt (grp rows own)]
def eldersOf (bs : List (List Nat)) : List (List Nat) := bs.foldl stepE []
theorem take_more {α : Type} : ∀ {l : List α} {i : Nat} {x : α}, l[i]? = some x → l.take (i + 1) = l.take i ++ [x]
  | [], i, x, h => by simp at h
  | a :: l, 0, x, h => by
    have e : a = x := Option.some.inj h
    subst e
    rfl
  | a :: l, i + 1, x, h => by
    have ih := take_more (l := l) (i := i) (x := x) h
    show a :: l.take (i + 1) = a :: l.take i ++ [x]
    rw [ih]
    rfl
theorem elders_more {bs : List (List Nat)} {i : Nat} {own : List Nat} (h : bs[i]? = some own) : eldersOf (bs.take (i + 1)) = stepE (eldersOf (bs.take i)) own := by
  unfold eldersOf
  rw [take_more h, List.foldl_append]
  rfl
theorem grp_more {rows : List (List Nat)} {own : List Nat} {i b : Nat} (h : own[i]? = some b) : grp rows (own.take (i + 1)) = grp rows (own.take i) ++ [b] ++ rows.getD b [] := by
  unfold grp
  rw [take_more h, List.flatMap_append, List.append_assoc]
  simp
theorem elders_len : ∀ (bs : List (List Nat)) (i : Nat), i ≤ bs.length → (eldersOf (bs.take i)).length = i
  | _, 0, _ => rfl
  | bs, i + 1, h => by
    have hi : i < bs.length := h
    have e := elders_more (bs := bs) (i := i) (List.getElem?_eq_getElem hi)
    rw [e]
    unfold stepE
    rw [List.length_append, elders_len bs i (Nat.le_of_lt hi)]
    rfl
theorem elders_pre : ∀ (bs : List (List Nat)) (i j : Nat), i ≤ j → j ≤ bs.length → eldersOf (bs.take i) = (eldersOf (bs.take j)).take i
  | bs, i, 0, h, _ => by
    have : i = 0 := by omega
    subst this
    rfl
  | bs, i, j + 1, h, hj => by
    have hj' : j < bs.length := hj
    by_cases e : i = j + 1
    · subst e
      exact (List.take_of_length_le (Nat.le_of_eq (elders_len bs (j + 1) hj))).symm
    · have hij : i ≤ j := by omega
      rw [elders_more (List.getElem?_eq_getElem hj')]
      unfold stepE
      rw [List.take_append_of_le_length (by rw [elders_len bs j (Nat.le_of_lt hj')]; exact hij)]
      exact elders_pre bs i j hij (Nat.le_of_lt hj')
theorem elders_at {bs : List (List Nat)} {i : Nat} {own : List Nat} (h : bs[i]? = some own) : (eldersOf bs)[i]? = some (srt (grp (eldersOf (bs.take i)) own)) := by
  obtain ⟨hi, _⟩ := List.getElem?_eq_some_iff.mp h
  have e1 := elders_pre bs (i + 1) bs.length hi (Nat.le_refl _)
  rw [List.take_length] at e1
  have e2 : (eldersOf (bs.take (i + 1)))[i]? = some (srt (grp (eldersOf (bs.take i)) own)) := by
    rw [elders_more h]
    unfold stepE
    have l := elders_len bs i (Nat.le_of_lt hi)
    rw [List.getElem?_append_right (by rw [l]; exact Nat.le_refl _), l, Nat.sub_self]
    rfl
  rw [e1, List.getElem?_take_of_lt (Nat.lt_succ_self i)] at e2
  exact e2
def el (E : List (List Nat)) (i : Nat) : List Nat := E.getD i []
def kin (E : List (List Nat)) (i : Nat) : List Nat := el E i ++ [i]
/-- bases are unlike earlier classes -/
structure Ok (bs : List (List Nat)) : Prop where
  lt : ∀ (i : Nat) own, bs[i]? = some own → ∀ b ∈ own, b < i
  nd : ∀ (i : Nat) own, bs[i]? = some own → own.Nodup
structure Eld (E : List (List Nat)) : Prop where
  asc : ∀ i, Asc (el E i)
  lt : ∀ i k, k ∈ el E i → k < i
  tr : ∀ i k j, k ∈ el E i → j ∈ el E k → j ∈ el E i
theorem el_none {E : List (List Nat)} {i : Nat} (h : E[i]? = none) : el E i = [] := by
  unfold el
  rw [List.getD_eq_getElem?_getD, h]
  rfl
theorem el_some {E : List (List Nat)} {i : Nat} {e : List Nat} (h : E[i]? = some e) : el E i = e := by
  unfold el
  rw [List.getD_eq_getElem?_getD, h]
  rfl
theorem len_elders (bs : List (List Nat)) : (eldersOf bs).length = bs.length := by
  have := elders_len bs bs.length (Nat.le_refl _)
  rw [List.take_length] at this
  exact this
theorem mem_el {bs : List (List Nat)} (ok : Ok bs) {i k : Nat} {own : List Nat} (h : bs[i]? = some own) : k ∈ el (eldersOf bs) i ↔ ∃ b ∈ own, k = b ∨ k ∈ el (eldersOf bs) b := by
  obtain ⟨hi, _⟩ := List.getElem?_eq_some_iff.mp h
  rw [el_some (elders_at h), mem_srt]
  unfold grp
  rw [List.mem_flatMap]
  have key : ∀ b ∈ own, (eldersOf (bs.take i)).getD b [] = el (eldersOf bs) b := fun b hb => by
    have hb' := ok.lt i own h b hb
    unfold el
    have e1 := elders_pre bs i bs.length (Nat.le_of_lt hi) (Nat.le_refl _)
    rw [List.take_length] at e1
    rw [e1, List.getD_eq_getElem?_getD, List.getD_eq_getElem?_getD, List.getElem?_take_of_lt hb']
  constructor
  · rintro ⟨b, hb, hk⟩
    refine ⟨b, hb, ?_⟩
    rcases List.mem_cons.mp hk with e | hk
    · exact .inl e
    · rw [key b hb] at hk; exact .inr hk
  · rintro ⟨b, hb, hk⟩
    refine ⟨b, hb, ?_⟩
    rcases hk with e | hk
    · rw [e]; exact List.mem_cons_self
    · refine List.mem_cons_of_mem _ ?_
      rw [key b hb]; exact hk
theorem eld_of {bs : List (List Nat)} (ok : Ok bs) : Eld (eldersOf bs) := by
  have none : ∀ {i : Nat}, bs[i]? = none → el (eldersOf bs) i = [] := fun {i} h => by
    refine el_none (List.getElem?_eq_none ?_)
    rw [len_elders]
    exact List.getElem?_eq_none_iff.mp h
  have lt : ∀ i k, k ∈ el (eldersOf bs) i → k < i := by
    intro i
    induction i using Nat.strongRecOn with
    | ind i ih =>
      intro k hk
      cases h : bs[i]? with
      | none => rw [none h] at hk; cases hk
      | some own =>
        obtain ⟨b, hb, hk⟩ := (mem_el ok h).mp hk
        have hb' := ok.lt i own h b hb
        rcases hk with e | hk
        · omega
        · have := ih b hb' k hk
          omega
  refine ⟨fun i => ?_, lt, ?_⟩
  · cases h : bs[i]? with
    | none => rw [none h]; exact List.Pairwise.nil
    | some own => rw [el_some (elders_at h)]; exact asc_srt _
  · intro i
    induction i using Nat.strongRecOn with
    | ind i ih =>
      intro k j hk hj
      cases h : bs[i]? with
      | none => rw [none h] at hk; cases hk
      | some own =>
        obtain ⟨b, hb, hk⟩ := (mem_el ok h).mp hk
        refine (mem_el ok h).mpr ⟨b, hb, .inr ?_⟩
        rcases hk with e | hk
        · rw [← e]; exact hj
        · exact ih b (ok.lt i own h b hb) k j hk hj
theorem mem_kin {E : List (List Nat)} {i k : Nat} : k ∈ kin E i ↔ k ∈ el E i ∨ k = i := by
  unfold kin
  rw [List.mem_append, List.mem_singleton]
theorem asc_kin {E : List (List Nat)} (e : Eld E) (i : Nat) : Asc (kin E i) := by
  unfold kin
  refine List.pairwise_append.mpr ⟨e.asc i, List.pairwise_singleton _ _, fun a ha b hb => ?_⟩
  rw [List.mem_singleton.mp hb]
  exact e.lt i a ha
theorem kin_le {E : List (List Nat)} (e : Eld E) {i k : Nat} (h : k ∈ kin E i) : k ≤ i := by
  rcases mem_kin.mp h with h | h
  · exact Nat.le_of_lt (e.lt i k h)
  · omega
theorem kin_tr {E : List (List Nat)} (e : Eld E) {i k j : Nat} (h : k ∈ kin E i) (h2 : j ∈ kin E k) : j ∈ kin E i := by
  rcases mem_kin.mp h with h | h
  · rcases mem_kin.mp h2 with h2 | h2
    · exact mem_kin.mpr (.inl (e.tr i k j h h2))
    · rw [h2]; exact mem_kin.mpr (.inl h)
  · rw [← h]; exact h2
/-! ### hues: clashes, depths -/
abbrev Hues : Type := List (Option Int)
def hue (hs : Hues) (i : Nat) : Option Int := hs.getD i none
def bad (E : List (List Nat)) (hs : Hues) (f s : Nat) : Bool := decide (f < s) && ((hue hs f).isSome && (decide (hue hs f = hue hs s) && !(kin E s).contains f))
def pairIn (E : List (List Nat)) (hs : Hues) (among : List Nat) : Option (Nat × Nat) := among.findSome? fun f => among.findSome? fun s => if bad E hs f s = true then some (f, s) else none
def clash (E : List (List Nat)) (hs : Hues) (n : Nat) : Option (Nat × Nat × Nat) := (List.range n).findSome? fun c => (pairIn E hs (kin E c)).map fun p => (c, p)
def cnt (E : List (List Nat)) (hs : Hues) (c : Nat) : Nat := ((kin E c).filter fun o => decide (hue hs o = hue hs c)).length
def met (E : List (List Nat)) (hs : Hues) (row : List Nat) : List (Int × Int) := (row.filter fun o => (hue hs o).isSome).map fun o => ((hue hs o).getD 0, (cnt E hs o : Int) - 1)
theorem nodup_len : ∀ {l m : List Nat}, l.Nodup → (∀ x ∈ l, x ∈ m) → l.length ≤ m.length
  | [], _, _, _ => Nat.zero_le _
  | a :: l, m, h, k => by
    have h' := List.nodup_cons.mp h
    have ha := k a List.mem_cons_self
    have ih := nodup_len (l := l) (m := m.erase a) h'.2 fun x hx => by
      have hne : x ≠ a := fun e => h'.1 (e ▸ hx)
      exact (List.mem_erase_of_ne hne).mpr (k x (List.mem_cons_of_mem _ hx))
    have hl := List.length_erase_of_mem ha
    have hp := List.length_pos_of_mem ha
    rw [List.length_cons]
    omega
theorem pigeon {l : List Nat} {m : Nat} (h : l.Nodup) (k : ∀ x ∈ l, x < m) (hl : m ≤ l.length) {j : Nat} (hj : j < m) : j ∈ l := by
  refine Decidable.byContradiction fun hn => ?_
  have := nodup_len (l := j :: l) (m := List.range m) (List.nodup_cons.mpr ⟨hn, h⟩) fun x hx => by
    rcases List.mem_cons.mp hx with e | hx
    · rw [e]; exact List.mem_range.mpr hj
    · exact List.mem_range.mpr (k x hx)
  rw [List.length_cons, List.length_range] at this
  omega
theorem cnt_pos {E : List (List Nat)} {hs : Hues} {c : Nat} : 0 < cnt E hs c := by
  unfold cnt
  refine List.length_pos_of_mem (a := c) (List.mem_filter.mpr ⟨mem_kin.mpr (.inr rfl), ?_⟩)
  exact decide_eq_true rfl
theorem cnt_lt {E : List (List Nat)} (e : Eld E) {hs : Hues} {f s : Nat} (h : f ∈ el E s) (hh : hue hs f = hue hs s) : cnt E hs f < cnt E hs s := by
  have e1 : cnt E hs s = ((el E s).filter fun o => decide (hue hs o = hue hs s)).length + 1 := by
    unfold cnt kin
    rw [List.filter_append, List.length_append]
    congr 1
    have q : [s].filter (fun o => decide (hue hs o = hue hs s)) = [s] := List.filter_cons_of_pos (p := fun o => decide (hue hs o = hue hs s)) (decide_eq_true rfl)
    rw [q]
    rfl
  rw [e1]
  refine Nat.lt_succ_of_le ?_
  unfold cnt
  refine nodup_len ((asc_nodup (asc_kin e f)).filter _) fun x hx => ?_
  obtain ⟨h1, h2⟩ := List.mem_filter.mp hx
  refine List.mem_filter.mpr ⟨?_, ?_⟩
  · rcases mem_kin.mp h1 with q | q
    · exact e.tr s f x h q
    · rw [q]; exact h
  · have := of_decide_eq_true h2
    exact decide_eq_true (this.trans hh)
theorem bad_iff {E : List (List Nat)} {hs : Hues} {f s : Nat} : bad E hs f s = true ↔ f < s ∧ (hue hs f).isSome = true ∧ hue hs f = hue hs s ∧ f ∉ kin E s := by
  unfold bad
  simp only [Bool.and_eq_true, decide_eq_true_eq, Bool.not_eq_true', List.contains_eq_mem, decide_eq_false_iff_not]
theorem pair_none {E : List (List Nat)} {hs : Hues} {among : List Nat} : pairIn E hs among = none ↔ ∀ f ∈ among, ∀ s ∈ among, bad E hs f s = false := by
  unfold pairIn
  rw [List.findSome?_eq_none_iff]
  constructor
  · intro h f hf s hs'
    have := List.findSome?_eq_none_iff.mp (h f hf) s hs'
    cases q : bad E hs f s with
    | false => rfl
    | true => rw [q, if_pos rfl] at this; cases this
  · intro h f hf
    refine List.findSome?_eq_none_iff.mpr fun s hs' => ?_
    rw [h f hf s hs', if_neg Bool.false_ne_true]
theorem clash_none {E : List (List Nat)} {hs : Hues} {n : Nat} : clash E hs n = none ↔ ∀ c, c < n → ∀ f ∈ kin E c, ∀ s ∈ kin E c, bad E hs f s = false := by
  unfold clash
  rw [List.findSome?_eq_none_iff]
  constructor
  · intro h c hc
    have := h c (List.mem_range.mpr hc)
    rw [Option.map_eq_none_iff] at this
    exact pair_none.mp this
  · intro h c hc
    rw [Option.map_eq_none_iff]
    exact pair_none.mpr (h c (List.mem_range.mp hc))
theorem nodup_map {α β : Type} {f : α → β} : ∀ {l : List α}, l.Nodup → (∀ x ∈ l, ∀ y ∈ l, f x = f y → x = y) → (l.map f).Nodup
  | [], _, _ => List.nodup_nil
  | a :: l, h, k => by
    have h' := List.nodup_cons.mp h
    rw [List.map_cons]
    refine List.nodup_cons.mpr ⟨fun hm => ?_, nodup_map h'.2 fun x hx y hy => k x (List.mem_cons_of_mem _ hx) y (List.mem_cons_of_mem _ hy)⟩
    obtain ⟨y, hy, e⟩ := List.mem_map.mp hm
    have := k y (List.mem_cons_of_mem _ hy) a List.mem_cons_self e
    rw [this] at hy
    exact h'.1 hy
theorem map_inj {α β : Type} {f : α → β} : ∀ {l : List α}, (l.map f).Nodup → ∀ x ∈ l, ∀ y ∈ l, f x = f y → x = y
  | [], _, x, hx, _, _, _ => by cases hx
  | a :: l, h, x, hx, y, hy, e => by
    rw [List.map_cons] at h
    have h' := List.nodup_cons.mp h
    rcases List.mem_cons.mp hx with ex | hx
    · rcases List.mem_cons.mp hy with ey | hy
      · rw [ex, ey]
      · exact absurd (List.mem_map.mpr ⟨y, hy, by rw [← e, ex]⟩) h'.1
    · rcases List.mem_cons.mp hy with ey | hy
      · exact absurd (List.mem_map.mpr ⟨x, hx, by rw [e, ey]⟩) h'.1
      · exact map_inj h'.2 x hx y hy e
/-- in one row: unlike classes of one hue have unlike depths -/
def Apart (E : List (List Nat)) (hs : Hues) (row : List Nat) : Prop := ∀ f ∈ row, ∀ s ∈ row, (hue hs f).isSome = true → hue hs f = hue hs s → cnt E hs f = cnt E hs s → f = s
theorem met_nodup {E : List (List Nat)} {hs : Hues} {row : List Nat} (nd : row.Nodup) : (met E hs row).Nodup ↔ Apart E hs row := by
  unfold met
  constructor
  · intro h f hf s hs' hi hh hc
    have hi2 : (hue hs s).isSome = true := by rw [← hh]; exact hi
    refine map_inj h f (List.mem_filter.mpr ⟨hf, hi⟩) s (List.mem_filter.mpr ⟨hs', hi2⟩) ?_
    show ((hue hs f).getD 0, (cnt E hs f : Int) - 1) = ((hue hs s).getD 0, (cnt E hs s : Int) - 1)
    rw [hh, hc]
  · intro h
    refine nodup_map (nd.filter _) fun f hf s hs' e => ?_
    obtain ⟨f1, f2⟩ := List.mem_filter.mp hf
    obtain ⟨s1, s2⟩ := List.mem_filter.mp hs'
    have e' : ((hue hs f).getD 0, (cnt E hs f : Int) - 1) = ((hue hs s).getD 0, (cnt E hs s : Int) - 1) := e
    obtain ⟨e1, e2⟩ := Prod.mk.inj e'
    have f2' : (hue hs f).isSome = true := f2
    have s2' : (hue hs s).isSome = true := s2
    refine h f f1 s s1 f2' ?_ (by omega)
    cases a : hue hs f with
    | none => rw [a] at f2'; cases f2'
    | some x =>
      cases b : hue hs s with
      | none => rw [b] at s2'; cases s2'
      | some y =>
        rw [a, b] at e1
        have : x = y := e1
        rw [this]
theorem clash_iff {E : List (List Nat)} (e : Eld E) {hs : Hues} {n : Nat} : clash E hs n = none ↔ ∀ c, c < n → (met E hs (kin E c)).Nodup := by
  rw [clash_none]
  constructor
  · intro h c hc
    refine (met_nodup (asc_nodup (asc_kin e c))).mpr fun f hf s hs' hi hh hk => ?_
    have lt : ∀ f ∈ kin E c, ∀ s ∈ kin E c, (hue hs f).isSome = true → hue hs f = hue hs s → cnt E hs f = cnt E hs s → ¬ f < s := fun f hf s hs' hi hh hk hlt => by
      have nb := h c hc f hf s hs'
      have hm : f ∈ kin E s := Decidable.byContradiction fun hn => by
        rw [bad_iff.mpr ⟨hlt, hi, hh, hn⟩] at nb
        cases nb
      rcases mem_kin.mp hm with q | q
      · have := cnt_lt e q hh
        omega
      · omega
    have a := lt f hf s hs' hi hh hk
    have b := lt s hs' f hf (by rw [← hh]; exact hi) hh.symm hk.symm
    omega
  · intro h c hc f hf s hs'
    cases q : bad E hs f s with
    | false => rfl
    | true =>
      exfalso
      obtain ⟨h1, h2, h3, h4⟩ := bad_iff.mp q
      have ap : ∀ b, b < n → Apart E hs (kin E b) := fun b hb => (met_nodup (asc_nodup (asc_kin e b))).mp (h b hb)
      have s_notin : s ∉ kin E f := fun hm => by
        have := kin_le e hm
        omega
      -- a and b of one hue in the row of c, a no kin of b, a's depth below b's
      have main : ∀ a b, a ∈ kin E c → b ∈ kin E c → (hue hs a).isSome = true → hue hs a = hue hs b → a ∉ kin E b → cnt E hs a < cnt E hs b → False := fun a b ha hb hi hh hn hlt => by
        have hbn : b < n := Nat.lt_of_le_of_lt (kin_le e hb) hc
        have nd : (((kin E b).filter fun o => decide (hue hs o = hue hs b)).map fun o => cnt E hs o - 1).Nodup := by
          refine nodup_map ((asc_nodup (asc_kin e b)).filter _) fun x hx y hy exy => ?_
          obtain ⟨x1, x2⟩ := List.mem_filter.mp hx
          obtain ⟨y1, y2⟩ := List.mem_filter.mp hy
          have x2' := of_decide_eq_true x2
          have y2' := of_decide_eq_true y2
          have px := cnt_pos (E := E) (hs := hs) (c := x)
          have py := cnt_pos (E := E) (hs := hs) (c := y)
          have exy' : cnt E hs x - 1 = cnt E hs y - 1 := exy
          refine ap b hbn x x1 y y1 ?_ (x2'.trans y2'.symm) (by omega)
          rw [x2', ← hh]; exact hi
        have bd : ∀ z ∈ (((kin E b).filter fun o => decide (hue hs o = hue hs b)).map fun o => cnt E hs o - 1), z < cnt E hs b := fun z hz => by
          obtain ⟨x, hx, ez⟩ := List.mem_map.mp hz
          obtain ⟨x1, x2⟩ := List.mem_filter.mp hx
          have x2' := of_decide_eq_true x2
          have px := cnt_pos (E := E) (hs := hs) (c := x)
          have ez' : cnt E hs x - 1 = z := ez
          rcases mem_kin.mp x1 with r | r
          · have := cnt_lt e r x2'
            omega
          · rw [r] at ez' px
            omega
        have pa := cnt_pos (E := E) (hs := hs) (c := a)
        have hm := pigeon nd bd (by rw [List.length_map]; exact Nat.le_refl _) (j := cnt E hs a - 1) (by omega)
        obtain ⟨a', ha', ea⟩ := List.mem_map.mp hm
        obtain ⟨a1, a2⟩ := List.mem_filter.mp ha'
        have a2' := of_decide_eq_true a2
        have pa' := cnt_pos (E := E) (hs := hs) (c := a')
        have ea' : cnt E hs a' - 1 = cnt E hs a - 1 := ea
        have ee : a = a' := ap c hc a ha a' (kin_tr e hb a1) hi (hh.trans a2'.symm) (by omega)
        exact hn (by rw [ee]; exact a1)
      rcases Nat.lt_trichotomy (cnt E hs f) (cnt E hs s) with r | r | r
      · exact main f s hf hs' h2 h3 h4 r
      · have := ap c hc f hf s hs' h2 h3 r
        omega
      · exact main s f hs' hf (by rw [← h3]; exact h2) h3.symm s_notin r
/-- the program's own test of two classes: the same -/
theorem bad_off {E : List (List Nat)} (e : Eld E) {hs : Hues} {f s : Nat} : bad E hs f s = (decide (f < s) && ((hue hs f).isSome && (decide (hue hs f = hue hs s) && (decide (f ≠ s) && (!(el E s).contains f && !(el E f).contains s))))) := by
  unfold bad
  by_cases h : f < s
  · have h1 : decide (f ≠ s) = true := decide_eq_true (Nat.ne_of_lt h)
    have h2 : (el E f).contains s = false := by
      rw [List.contains_eq_mem]
      exact decide_eq_false fun hm => by
        have := e.lt f s hm
        omega
    have h3 : (kin E s).contains f = (el E s).contains f := by
      unfold kin
      rw [List.contains_eq_mem, List.contains_eq_mem, Bool.eq_iff_iff, decide_eq_true_iff, decide_eq_true_iff, List.mem_append, List.mem_singleton]
      constructor
      · rintro (q | q)
        · exact q
        · omega
      · exact .inl
    rw [h1, h2, h3]
    simp
  · rw [decide_eq_false h]
    rfl
end K14
/-! Rules that the layer lacks: a stored range walked, enumerate of a tuple, set of a list of ints, len of a set of tuples, a class made where its __init__ may raise. -/
namespace K14
open PySem PySem.Spec PyProof.Rows L2
section
variable {X : Cx}
/-! ### range(n) as a value; a range object walked -/
theorem cr_rng1 : CallR X (.type "range") (fun vs H Q => ∃ n, vs = [V.int n] ∧ ∀ p, H p = none → Q (.ref p) (upd H p (.rng 0 n))) := by
  intro pins s σ H vs us Q I r h
  obtain ⟨n, rfl, q⟩ := h
  obtain ⟨u, rfl, t, rfl⟩ := vals1 r
  refine call_range_1 ?_
  have hn : H s.heap.objs.size = none := I.hok.fresh (Nat.le_refl _)
  exact ⟨.ref s.heap.objs.size, _, I.laid (t' := s.toks + 1 + 1) (a := s.heap.objs.size) (o := .rng 0 n) (fun b o e => Heap.get?_push_of_some _ e) (Nat.le_refl _) ⟨_, t, _, Heap.get?_push_size _ rfl⟩, rfl, q _ hn⟩
/-- the range object that e gives, walked -/
def iRngO (te : TE) : TI := fun σ H R => te σ H fun x H1 => ∃ a lo hi, x = .ref a ∧ H1 a = some (.rng lo hi) ∧ (-(2 ^ 62) ≤ lo ∧ lo < 2 ^ 62 ∧ -(2 ^ 62) ≤ hi ∧ hi < 2 ^ 62) ∧ R (Itr lo (hi - lo).toNat) H1
theorem pi_rngO {tg e : Expr} {te : TE} (he : PE X e te) : PI X tg e (iRngO te) := by
  refine ⟨fun pins s σ H R I h => ?_⟩
  refine thn (he.run pins s σ H _ I h) fun v s1 hv => ?_
  obtain ⟨x, H1, I1, rx, a, lo, hi, ex, ea, ⟨b1, b2, b3, b4⟩, q⟩ := hv
  subst ex
  obtain rfl : v = Value.ref a := rx
  obtain ⟨t, u, w, ho⟩ := (show ObjOk X.prog X.w H1 s1.heap a (.rng lo hi) from I1.hok a _ ea)
  refine wpAny_pyIter_range (show IsRange s1.heap a lo hi 1 t u w from ho) (small_one b1 b2 b3 b4) ?_
  refine ⟨_, [_], _, _, H1, rfl, I1.kept (t' := s1.toks) fun b o e => Heap.get?_push_of_some _ e, turn_range _ lo (hi - lo).toNat, ?_, fun b hb => ?_, q⟩
  · have e1 : lo + ((0 : Nat) : Int) * 1 = lo := by omega
    have e2 : (((hi - lo).toNat : Nat) : Int) - ((0 : Nat) : Int) = Builtin.Range.rangeSize lo hi 1 := by
      rw [rangeSize_one]
      split <;> omega
    show IsRangeIter _ _ (lo + ((0 : Nat) : Int) * 1) ((((hi - lo).toNat : Nat) : Int) - ((0 : Nat) : Int)) 1
    rw [e1, e2]
    exact Heap.get?_push_size _ rfl
  · rw [List.mem_singleton.mp hb]
    exact I1.fpOk (Nat.le_refl _) (I1.hok.fresh (Nat.le_refl _))
/-! ### enumerate of a tuple -/
def IteT (K : PySem.W.Frag) (a : Addr) : It where
  go := fun i H => ∃ (xs : List V) (x : V), SqT K H a xs ∧ xs[i]? = some x
  yld := fun i H v H' => ∃ T x, v = .ref T ∧ H T = none ∧ H' = upd H T (.tup [.int (i : Nat), x]) ∧ ∀ xs, SqT K H a xs → xs[i]? = some x
  stop := fun i H => ∃ xs : List V, SqT K H a xs ∧ xs.length = i
theorem turn_enumT {P : Program} {w : World} {K : PySem.W.Frag} {elts : List Expr} {kk : Nat} {tpos : Pos} (a e it : Addr) (hai : a ≠ it) (hei : e ≠ it) :
    Turn P w K (.Tuple elts kk tpos) (IteT K a) [e, it] e (fun i h => (∃ old, IsEnum h e it ((i : Nat) : Int) old) ∧ h.IsTupleIter it a i ∧ e ≠ a) where
  mem := by simp
  obj := by
    intro i h st b hb
    obtain ⟨⟨old, he⟩, ⟨o, ho, _, hd⟩, _⟩ := st
    rcases List.mem_cons.mp hb with z | z
    · subst z
      exact ⟨_, he, fun v q => by cases q⟩
    · rw [List.mem_singleton.mp z]
      exact ⟨o, ho, fun v q => by rw [hd] at q; cases q⟩
  keep := by
    intro i h h' st k
    obtain ⟨⟨old, he⟩, hi, hea⟩ := st
    exact ⟨⟨old, k e (by simp) _ he⟩, hi.at fun o q => k it (by simp) o q, hea⟩
  item := by
    intro X hP hw hK hc i pins s σ H E I hf st hg
    subst hP hw hK
    obtain ⟨⟨old, he⟩, hit, hea⟩ := st
    obtain ⟨xs, x, hq, hx⟩ := hg
    obtain ⟨its, rv, p, hz⟩ := I.tuple hq
    have hxl := (List.getElem?_eq_some_iff.mp hx).1
    have hel : e < s.heap.objs.size := Heap.lt_size he
    have hil : it < s.heap.objs.size := by
      obtain ⟨_, q, _⟩ := hit
      exact Heap.lt_size q
    have D := Draws.tuple (prog := X.prog) (w := X.w) (A := X.A.in1) (I.ok.hd hc) it a hai its.toArray
    refine wpAny_pyNext_enum_itemD D he ⟨hit, p⟩ (by rw [List.size_toArray, ← rv.length]; exact hxl) hei (fun hm => ?_) fun u h' tk hu ho hst hT hsz hk => ?_
    · rcases List.mem_cons.mp hm with z | z
      · exact hei z
      · exact hea (List.mem_singleton.mp z)
    · obtain ⟨u', hu', ru⟩ := rv.get hx
      have eu : u' = u := by
        rw [List.getElem?_toArray, hu'] at hu
        exact Option.some.inj hu
      subst eu
      refine ⟨_, rfl, wpAny_letOwnedTupleGo_enum (s := { s with heap := h', toks := tk + 1 }) ho fun h2 he2 sb => ?_⟩
      have nb : ∀ b, b ∉ [e, it] → b ≠ e ∧ b ≠ it := fun b hb => ⟨fun z => hb (by simp [z]), fun z => hb (by simp [z])⟩
      have I1 : Inv X pins σ (upd H s.heap.objs.size (.tup [.int (i : Nat), x])) { s with heap := h2, toks := tk + 1 } := by
        refine I.turnedNew (ch := [e, it]) (fun b ob hb q => ?_) hf (Nat.le_refl _) ⟨(by show 2 ≤ sizeLine; decide), [.int i tk, u'], .cons ⟨_, rfl⟩ (.cons ru .nil), ⟨_, (sb.2 _ (Nat.ne_of_gt hel)).trans hT, rfl, _, rfl⟩⟩
        exact (sb.2 b (nb b hb).1).trans (hk b ob (nb b hb).1 (nb b hb).2 q)
      refine ⟨.ref s.heap.objs.size, _, I1, rfl, ⟨_, x, rfl, I.hok.fresh (Nat.le_refl _), rfl, fun ys hy => ?_⟩, ⟨⟨u', ?_⟩, hst.1.at fun o q => (sb.2 it (Ne.symm hei)).trans q, hea⟩, fun b hb => ?_⟩
      · rw [I.tuple_inj hy hq]
        exact hx
      · rw [Int.natCast_add]
        exact he2
      · have hlt : b < s.heap.objs.size := by
          rcases List.mem_cons.mp hb with z | z
          · rw [z]; exact hel
          · rw [List.mem_singleton.mp z]; exact hil
        rw [upd_ne (Nat.ne_of_lt hlt)]
        exact (hf b hb).1
  done := by
    intro X hP hw hK hc i pins s σ H E I hf st hg
    subst hP hw hK
    obtain ⟨⟨old, he⟩, hit, hea⟩ := st
    obtain ⟨xs, hq, hx⟩ := hg
    obtain ⟨its, rv, p, hz⟩ := I.tuple hq
    obtain ⟨f0, f1, f2, f3, f4, f5⟩ := hf it (by simp)
    have D := Draws.tuple (prog := X.prog) (w := X.w) (A := X.A.in1) (I.ok.hd hc) it a hai its.toArray
    have el : its.toArray.size = i := by rw [List.size_toArray, ← rv.length, hx]
    subst el
    exact wpAny_pyNext_enum_endD D he ⟨hit, p⟩ fun h' eb => ⟨rfl, I.turned (t' := s.toks) (fun b o hb q => eb b o hb q) f0 f1 f3 f4 f5⟩
  self := fun A i s Q E st h => by
    obtain ⟨⟨_, he⟩, _⟩ := st
    exact wpAny_pyIter_enum he h
theorem meets_enumT (t : Addr) (items : Array Value) : Meets (Builtin.«enumerate.__new__» ⟨[.type "enumerate", .ref t], []⟩) (fun _ R s => s.heap.IsTuple t items ∧
      R (.ok (.ret (.ref (s.heap.push { cls := .type "tuple_iterator", data := .fields #[.ref t, .int 0 0] }).objs.size)))
        { s with heap := (s.heap.push { cls := .type "tuple_iterator", data := .fields #[.ref t, .int 0 0] }).push { cls := .type "enumerate", data := .fields #[.none, .bool false, .ref s.heap.objs.size, rawInt 0, .none, .none] } }) :=
  .of_wp fun prog w A R s h => by
    obtain ⟨hp, g, d, tk, os⟩ := s
    obtain ⟨hT, h⟩ := h
    have hsub := sub_enumerate
    have step : ∀ {A' : Around} {E : Value → Shared → Prop} {Q : Value → Shared → Prop}, Q (.ref hp.objs.size) ⟨hp.push { cls := .type "tuple_iterator", data := .fields #[.ref t, .int 0 0] }, g, d, tk, os⟩ → wpAny (model prog w) A' (pyIter (.ref t)) Q E ⟨hp, g, d, tk, os⟩ :=
      fun q => wpAny_pyIter_tuple hT q
    wp_walk using step
    refine wpAny_stack_any fun st => wpAny_pure ?_
    split
    · rename_i c _ _ _ _ _
      cases (c == Value.type "enumerate")
      · wp_walk using step
        exact ⟨_, rfl, h⟩
      · wp_walk using step
        exact ⟨_, rfl, h⟩
    · wp_walk using step
      exact ⟨_, rfl, h⟩
theorem call_enumT {prog : Program} {w : World} {A : Around} {E : Value → Shared → Prop} {s : Shared} {t : Addr} {items : Array Value} {Q : Value → Shared → Prop} (hT : s.heap.IsTuple t items)
    (h : ∀ h', IsEnum h' (s.heap.objs.size + 1) s.heap.objs.size 0 .none → h'.IsTupleIter s.heap.objs.size t 0 → (∀ b o, s.heap.get? b = some o → h'.get? b = some o) → Q (.ref (s.heap.objs.size + 1)) { s with heap := h' }) :
    wpAny (model prog w) A (call (.type "enumerate") [.ref t]) Q E s := by
  refine callType_new F.called_enumerate (by decide) (F.typeCall_enumerate_1 _) (F.newCall_enumerate_1 _) (fun obj => F.args_object_init_2 obj _) F.entry_enumerate_new (meets_enumT t items) ⟨hT, ?_⟩
  have hz : (s.heap.push { cls := .type "tuple_iterator", data := .fields #[.ref t, .int 0 0] }).objs.size = s.heap.objs.size + 1 := Heap.size_push ..
  have at0 : ((s.heap.push { cls := .type "tuple_iterator", data := .fields #[.ref t, .int 0 0] }).push { cls := .type "enumerate", data := .fields #[.none, .bool false, .ref s.heap.objs.size, rawInt 0, .none, .none] }).get? s.heap.objs.size = some { cls := .type "tuple_iterator", data := .fields #[.ref t, .int 0 0] } :=
    Heap.get?_push_of_some _ (Heap.get?_push_size _ rfl)
  have at1 : ((s.heap.push { cls := .type "tuple_iterator", data := .fields #[.ref t, .int 0 0] }).push { cls := .type "enumerate", data := .fields #[.none, .bool false, .ref s.heap.objs.size, rawInt 0, .none, .none] }).get? (s.heap.objs.size + 1)
      = some { cls := .type "enumerate", data := .fields #[.none, .bool false, .ref s.heap.objs.size, rawInt 0, .none, .none] } := by
    rw [← hz]
    exact Heap.get?_push_size _ rfl
  show _ ∧ _
  rw [hz]
  exact ⟨⟨_, at1, rfl⟩, h _ at1 ⟨_, at0, rfl, rfl⟩ fun b o q => Heap.get?_push_of_some _ (Heap.get?_push_of_some _ q)⟩
def iEnumT (K : PySem.W.Frag) (ta : TA) : TI := fun σ H R => ta σ H fun vs H1 => ∃ a xs, vs = [.ref a] ∧ SqT K H1 a xs ∧ R (IteT K a) H1
theorem pi_enumT {e : Expr} {ta : TA} {p pos tpos : Pos} {elts : List Expr} {kk : Nat} (hg : Gl X "enumerate") (hm : X.mg "enumerate" = none) (ha : PA X [e] ta) (hs : starEach [e] X.env = [(false, eval e X.env)] := by rfl) :
    PI X (.Tuple elts kk tpos) (.Call (.Name "enumerate" p) [e] [] pos) (iEnumT X.K ta) := by
  refine ⟨fun pins s σ H R I h => ?_⟩
  refine Call_ (ld_blt I hg hm boot_enumerate (PyProof.Rows.callWith_type1 (thn (ha.run pos pins s σ H _ I h) fun us s1 hv => ?_) hs rfl))
  obtain ⟨vs, H1, I1, r1, a, xs, ex, hq, q⟩ := hv
  subst ex
  obtain ⟨u, rfl, ru⟩ := vals1 r1
  obtain rfl : u = Value.ref a := ru
  obtain ⟨its, rv, p', hz⟩ := I1.tuple hq
  have hal : a < s1.heap.objs.size := p'.lt
  refine call_enumT (show s1.heap.IsTuple a its.toArray from p') fun h' he hit hk => wpAny_pyIter_enum he ?_
  have I2 : Inv X pins σ H1 { s1 with heap := h' } := I1.kept (t' := s1.toks) hk
  refine ⟨s1.heap.objs.size + 1, [s1.heap.objs.size + 1, s1.heap.objs.size], _, _, H1, rfl, I2, turn_enumT a (s1.heap.objs.size + 1) s1.heap.objs.size (Nat.ne_of_lt hal) (Nat.succ_ne_self _), ⟨⟨.none, he⟩, hit, Nat.ne_of_gt (Nat.lt_succ_of_lt hal)⟩, fun b hb => ?_, q⟩
  have hle : s1.heap.objs.size ≤ b := by
    rcases List.mem_cons.mp hb with z | z
    · rw [z]; exact Nat.le_succ _
    · rw [List.mem_singleton.mp z]; exact Nat.le_refl _
  exact I1.fpOk hle (I1.hok.fresh hle)
theorem walk_enumT {K : PySem.W.Frag} {a : Addr} {xs : List V} : Walk (IteT K a) xs.length (fun H => SqT K H a xs) (YPair (fun i => some (.int (i : Nat))) (fun i => xs[i]?)) where
  goes := fun i _ hi q => ⟨xs, xs[i], q, by simp [hi]⟩
  stops := fun _ q => ⟨xs, q, rfl⟩
  yields := by
    intro i H v H' _ q y
    obtain ⟨T, x, h1, h2, h3, h4⟩ := y
    exact ⟨T, .int (i : Nat), x, h1, h2, h3, rfl, h4 xs q⟩
/-! ### set of a list of ints -/
/-- a new set as set() lays it -/
abbrev newSetO (w : World) : Obj := { cls := .type "set", dict := none, data := .set #[] 0 (.fresh 0 0 (!w.params.followText "set-order")) }
section
variable {P : Program} {w : World} {A : Around} {E : Value → Shared → Prop} {s : Shared}
theorem call_set_listI {l : Addr} {items : Array Value} (ns : List Int) {Q : Value → Shared → Prop} (hh : A.handled = none) (hl : s.heap.IsList l items) (hit : IntsAre items.toList ns) (hb : ns.length + 1 < scanBound)
    (h : ∀ (h' : Heap) (tk c : Nat), SetR w h' s.heap.objs.size (fun j => decide (j ∈ ns)) c → c ≤ ns.length → (∀ b o, s.heap.get? b = some o → h'.get? b = some o) → Q (.ref s.heap.objs.size) { s with heap := h', toks := tk }) :
    wpAny (model P w) A (call (.type "set") [.ref l]) Q E s := by
  have hisz : items.size = ns.length := by
    rw [← Array.length_toList]
    exact IntsAre.length hit
  obtain ⟨c, tl, hmro⟩ := F.called_set.mro
  have hmade := F.called_set.made
  have hsub := F.called_set.sub
  refine wpAny_call (codeAny_of_tree ?_)
  show wpAny _ _ (callAny (.type "set") _) _ _ _
  refine wpAny_pure ⟨Code.quiet_builtin _ (by decide +kernel), codeAny_builtin F.entry_type_call ?_⟩
  rw [Around.under_plain (weight_type_call_type "set" [.ref l] []) rfl]
  have h1 := F.called_set.notType
  have h2 := F.called_set.canCreate
  have hct := F.typeCall_set_1 (.ref l)
  repeat (any_goals (first | assumption | wp_step))
  refine codeAny_mono (code_set_led1 (.ref l) (E := E) (Q₁ := fun obj s₁ => obj = .ref s.heap.objs.size ∧ s₁ = { s with heap := s.heap.push (newSetO w) }) ⟨rfl, rfl⟩) fun r s₁ hr => ?_
  rcases r with e | (_ | _ | _ | obj)
  · exact hr
  · exact hr.elim
  · exact hr.elim
  · exact hr.elim
  · obtain ⟨rfl, rfl⟩ := hr
    have hS : (s.heap.push (newSetO w)).get? s.heap.objs.size = some (newSetO w) := Heap.get?_push_size _ rfl
    have hT : Shared.TypeIs { s with heap := s.heap.push (newSetO w) } (.ref s.heap.objs.size) "set" := ⟨_, hS, rfl⟩
    have hz1 : (s.heap.push (newSetO w)).objs.size = s.heap.objs.size + 1 := Heap.size_push ..
    have hli := F.called_set.init.lookup
    have hbi := F.called_set.init.bind (.ref s.heap.objs.size)
    repeat (any_goals (first | assumption | wp_step))
    refine codeAny_mono (codeAny_call_builtin (R := wants (fun r s₂ => r = .none ∧ ∃ h' tk c, s₂ = { s with heap := h', toks := tk } ∧ SetR w h' s.heap.objs.size (fun j => decide (j ∈ ns)) c ∧ c ≤ ns.length ∧ (∀ b o, s.heap.get? b = some o → h'.get? b = some o)) E)
      F.called_set.init.plain F.entry_set_init (check_set_init_1 hT ?_)) fun r₂ s₂ hr₂ => ?_
    · obtain ⟨ol, hol, hcl, nl, hdl⟩ := hl
      obtain ⟨ocls, odict, odata, oslots⟩ := ol
      simp only at hcl hdl
      subst hcl hdl
      have hol' : (s.heap.push (newSetO w)).get? l = some { cls := .type "list", dict := odict, data := .seq items nl, slots := oslots } := Heap.get?_push_of_some _ hol
      have hsls := PySem.F.sub_list_set
      have hslf := PySem.F.sub_list_frozenset
      have hne : (Value.type "list" == Value.type "dict") = false := by decide
      have hl1 : (s.heap.push (newSetO w)).IsList l items := ⟨_, hol', rfl, nl, rfl⟩
      unfold Builtin.«set.__init__» noKeywords Builtin.Frozenset.updateFrom
      generalize hPI : pyIter = PI
      wp_walk
      subst hPI
      refine wpAny_pyIter_list hl1 (wpAny_bind (wpAny_runValue ?_))
      have hlS : l < s.heap.objs.size := Heap.lt_size hol
      have hh3 : A.in1.in1.in1.handled = none := hh
      have hneI : l ≠ (s.heap.push (newSetO w)).objs.size := by
        rw [hz1]
        exact Nat.ne_of_lt (Nat.lt_succ_of_lt hlS)
      have hSf : s.heap.objs.size ∉ [(s.heap.push (newSetO w)).objs.size, l] := fun hm => by
        rcases List.mem_cons.mp hm with z | z
        · rw [hz1] at z
          exact absurd z (Nat.ne_of_lt (Nat.lt_succ_self _))
        · exact absurd (List.mem_singleton.mp z) (Nat.ne_of_gt hlS)
      have hval : ∀ (i : Nat) (v : Value), items[i]? = some v → ∃ k t, ns[i]? = some k ∧ v = .int k t := fun i v hv => by
        have hi : i < ns.length := by
          rw [← hisz]
          exact (Array.getElem?_eq_some_iff.mp hv).1
        obtain ⟨t, e⟩ := PyProof.Rows.IntsAre.int_at hit i v (by rw [Array.getElem?_toList]; exact hv)
        refine ⟨ns[i], t, List.getElem?_eq_getElem hi, ?_⟩
        rw [e, List.getD_eq_getElem?_getD, List.getElem?_eq_getElem hi]
        rfl
      have hget : ((s.heap.push (newSetO w)).push { cls := .type "list_iterator", data := .fields #[.ref l, .int 0 0] }).get? s.heap.objs.size = some (newSetO w) := Heap.get?_push_of_some _ hS
      refine set_update_ints ((Walks.list hh3 _ l hneI items).toS) s.heap.objs.size hSf ns hisz hb hval (items.size - 0) 0 _ (by omega) (Nat.zero_le _) ⟨⟨_, Heap.get?_push_size _ rfl, rfl, rfl⟩, hl1.push _⟩ ⟨0, Nat.le_refl 0, setR_new_at hget⟩ fun s' c' hm hc' hS' => ?_
      obtain ⟨h', g2, d', tk', os'⟩ := s'
      obtain rfl : g2 = s.gens := hm.gens
      obtain rfl : d' = s.drawn := hm.drawn
      obtain rfl : os' = s.os := hm.os
      show wpAny _ _ _ _ _ _
      refine wpAny_pure ?_
      show wpAny _ _ (ret Value.none) _ _ _
      rw [hisz] at hc'
      refine wpAny_pure ⟨rfl, h', tk', c', rfl, hS', hc', fun b o e => ?_⟩
      have hb0 : b < s.heap.objs.size := Heap.lt_size e
      refine hm.heap b o (fun hm' => ?_) (Heap.get?_push_of_some _ (Heap.get?_push_of_some _ e))
      rcases List.mem_cons.mp hm' with z | z
      · exact absurd z (Nat.ne_of_lt hb0)
      · rw [List.mem_singleton.mp z, hz1] at hb0
        exact absurd hb0 (Nat.not_lt_of_le (Nat.le_succ _))
    · rcases r₂ with e | (_ | _ | _ | v)
      · exact hr₂
      · exact hr₂.elim
      · exact hr₂.elim
      · exact hr₂.elim
      · obtain ⟨rfl, h', tk, c', rfl, hS', hc', hk'⟩ := hr₂
        repeat (any_goals (first | assumption | wp_step))
        exact h _ _ _ hS' hc' hk'
end
/-- set(xs), xs a list of ints: some set whose members are those of xs -/
def rSetL (K : PySem.W.Frag) (w : World) : List V → Hp → VK → Prop := fun xs H Q => ∃ (l : Addr) (ns : List Int), xs = [V.ref l] ∧ SqL K H l (ns.map V.int) ∧ ns.length < 64 ∧
  ∀ (p : Addr) (c : Nat), H p = none → c ≤ ns.length → Q (.ref p) (upd H p (SetO w p (fun j => decide (j ∈ ns)) c))
theorem cr_setL (hc : X.calm = true) : CallR X (.type "set") (rSetL X.K X.w) := by
  intro pins s σ H xs us Q I r h
  obtain ⟨l, ns, rfl, hl, hn, q⟩ := h
  obtain ⟨u, rfl, ru⟩ := vals1 r
  obtain rfl : u = Value.ref l := ru
  obtain ⟨its, rv, pl, hz⟩ := I.list hl
  refine call_set_listI ns (I.ok.hd hc) pl.isList (by simpa using ints_of_vals rv) (by unfold scanBound; omega) fun h' tk c R hc' k => ?_
  have hf : H s.heap.objs.size = none := I.hok.fresh (Nat.le_refl _)
  exact ⟨.ref s.heap.objs.size, _, I.laid (t' := tk) k (Nat.le_refl _) (setO_new R), rfl, q _ c hf hc'⟩
/-- len(s), s a set of tuples of ints -/
def rLenT (P : Program) (w : World) : List V → Hp → VK → Prop := fun xs H Q => ∃ (a : Addr) (L : List (Addr × List Int)), xs = [V.ref a] ∧ H a = some (SetTO P w a L) ∧ ((L.map (·.2)).Nodup → Q (.int L.length) H)
theorem cr_lenT : CallR X (.builtin "len") (rLenT X.prog X.w) := by
  intro pins s σ H xs us Q I r h
  obtain ⟨a, L, rfl, ha, q⟩ := h
  obtain ⟨u, rfl, ru⟩ := vals1 r
  obtain rfl : u = Value.ref a := ru
  have R0 : SetT0 X.prog X.w s.heap a L := (I.hok a _ ha).1
  obtain ⟨es, ep, t, ⟨o, ho, hex, hd⟩, hrows, htab, hnd, _, _, hroom, hfew⟩ := R0.ex
  have hsz : es.size = L.length := by
    have z := congrArg List.length hrows
    unfold rowsOf at z
    rw [Array.length_toList, List.length_map] at z
    exact z
  have hfit : t.fits es.size = true := by
    have z := htab.sz
    rw [List.length_map] at z
    unfold SetTable.fits SetTable.fill
    rw [htab.dm, Bool.and_eq_true, beq_iff_eq, decide_eq_true_eq]
    show t.place.size = es.size ∧ t.place.size + 0 ≤ t.mask
    omega
  exact call_len_set ho hex hd hfit (by omega) ⟨.int L.length, H, I.tok _, ⟨_, by rw [hsz]⟩, q hnd⟩
end
end K14
namespace K14
open PySem PySem.Spec PyProof.Rows L2
/-! ### C(e, ..) where __init__ may raise, its wish told at the caller's slots -/
section
variable {X : Cx} {CX : CXT} {k : Nat} {f C : Addr} {fd : FuncData} {ps : List Str} {sp : Sp} {E : L2.St → XK} {x : Str} {p pos : Pos} {e : Expr} {es : List Expr} {t : TA}
def tMakeS (C : Addr) (sp : Sp) (E : L2.St → XK) (t : TA) : TE := fun σ H Q => t σ H fun vs H1 => ∀ x dx, H1 x = none → H1 dx = none → dx ≠ x →
  sp (.ref x :: vs) (upd (upd H1 dx (.own x)) x (.ins C dx [])) (fun v H2 => v = .non ∧ Q (.ref x) H2) (E σ)
theorem pe_makeS (M : Mk X.K C f) (F : FnOk X.prog X.w X.K X.mg X.base CX k f fd ps sp) (hr : Room (k + 1) X.A) (hg : Gl X x) (hm : X.mg x = some (.ref C)) (hb : Binds X.K fd ps []) (hx : ∀ σ, PassesAt CX X σ (E σ))
    (ha : PA X (e :: es) t) (hdb : (x == ("__debug__" : Str)) = false := by decide) (he : starEach (e :: es) X.env = (false, eval e X.env) :: starEach es X.env := by rfl) (hpl : (backTo pos (starEach es X.env)).any (·.1) = false := by rfl) :
    PE X (.Call (.Name x p) (e :: es) [] pos) (tMakeS C sp E t) := by
  refine ⟨fun pins s σ H Q I h => ?_⟩
  refine wpAny_Call_Name_kw (ld_glob I hg hm ?_ hdb)
  refine PySem.W.callWith_K (h₀ := X.base) I.ok.mod.kin M.kp (thn (ha.run pos pins s σ H _ I h) fun us s1 hv => ?_) he hpl
  obtain ⟨vs, H1, I1, r, q⟩ := hv
  refine ⟨I1.kIn, ?_⟩
  have I2 := Inv.made (C := C) I1
  have q2 := q (s1.heap.objs.size + 1) s1.heap.objs.size (I1.hok.fresh (Nat.le_succ _)) (I1.hok.fresh (Nat.le_refl _)) (Nat.ne_of_lt (Nat.lt_succ_self _))
  have r2 : Vals (V.ref (s1.heap.objs.size + 1) :: vs) (Value.ref (s1.heap.objs.size + 1) :: us) := .cons rfl r
  have hl : (Value.ref (s1.heap.objs.size + 1) :: us).length = ps.length := by
    rw [← Paired.length r2]
    exact F.len _ _ _ _ q2
  have bnd := hb _ (Value.ref (s1.heap.objs.size + 1) :: us) I2.kIn (by rw [List.append_nil]; exact hl)
  rw [List.append_nil] at bnd
  show wpAny _ _ (call (.ref C) us) _ _ _
  refine wpAny_call (make_map (f := f) I1.kIn M.makes M.init (beq_iff_eq.mp M.fn) (codeAny_mono (F.run _ X.stack _ _ ⟨Value.ref (s1.heap.objs.size + 1) :: us, []⟩ (Value.ref (s1.heap.objs.size + 1) :: us) _ _ (E σ) (hr.make C us []) (I2.env0.make C us []) bnd r2 q2) fun r s' hq => ?_))
  rcases r with er | (_ | _ | _ | u)
  · exact hx σ pins _ _ er s' I2 hq
  · exact False.elim hq
  · exact False.elim hq
  · exact False.elim hq
  · obtain ⟨v, H', I3, rv, ev, q3⟩ := I2.after hq
    subst ev
    exact ⟨rv, V.ref (s1.heap.objs.size + 1), H', I3, rfl, q3⟩
end
/-! ### the text by places; a def of the module, under its name -/
def top (i : Nat) : Stmt := PySem.Challenge.pw_headamid_k14_whole_hues_right_by_depth.main.body.getD i (.Pass ⟨0, 0, 0, 0⟩)
structure Dn (K : PySem.W.Frag) (mg : Str → Option Value) (x : Str) (i : Nat) : Prop where
  ex : ∃ f fd, FunD K x x (defArgs (top i)) (defBody (top i)) (defScope (top i)) [] [] f fd ∧ mg x = some (.ref f)
section
variable {P : Program} {w : World} {K : PySem.W.Frag} {mg : Str → Option Value} {base : Heap}
/-- it keeps its promise -/
theorem dn_cal {x : Str} {i k : Nat} {N ps : List Str} {sp : Sp} (D : Dn K mg x i) (S : FnScope N ps (defScope (top i)))
    (hbind : ∀ (kV doc pm : Value) (an : Option Addr) (cdv ct : Value) (us : List Value), us.length = ps.length → bindArgs (PySem.W.fnOf x x (defArgs (top i)) (defBody (top i)) (defScope (top i)) .none kV doc pm an cdv ct) ⟨us, []⟩ = pure (ps.zip us))
    (len : ∀ vs H Q E, sp vs H Q E → vs.length = ps.length)
    (hbody : ∀ (f : Addr) (cdv : Value) (A : Around) (outer : List Env) (s : Shared) (H : Hp) (vs : List V) (Q : VK) (E : XK), Room k (A.deeper (envOfC x (defScope (top i)) s.heap.objs.size f cdv)) → sp vs H Q E →
      ∃ t, PSs (cxOf CX0 P w K mg base N x (defScope (top i)) f cdv A outer s H E).nox (defBody (top i)) t ∧ t { nx := fun _ H' => Q .non H', rt := Q } (start N vs) H) : C8.Cal P w K mg base (k + 1) x sp [] := by
  obtain ⟨f, fd, F, hm⟩ := D.ex
  refine ⟨f, fd, ps, [], F.ok S len fun cdv A outer s H vs Q E hr h => ?_, hm, F.kp, F.bindsN hbind, .nil⟩
  obtain ⟨t, h1, h2⟩ := hbody f cdv A outer s H vs Q E hr h
  exact ⟨t, h1.nox, h2⟩
end
end K14
namespace K14
open PySem PySem.Spec PyProof.Rows L2
abbrev ms (i j : Nat) : Stmt := inClass (top i) j
abbrev gC (K : PySem.W.Frag) (x : Str) : Addr := He.ga K x
abbrev gI (K : PySem.W.Frag) (x : Str) : Addr := He.ma K (He.ga K x) "__init__"
/-- the class at the global x (statement i of the top), its __init__ (q), the fields of its instances -/
structure CTxt (K : PySem.W.Frag) (mg : Str → Option Value) (x q : Str) (i : Nat) (fs : List Str) : Prop where
  mgC : mg x = some (.ref (gC K x))
  cl : Cls K (gC K x)
  mkr : Mk K (gC K x) (gI K x)
  ini : ∃ fd, FunD K "__init__" q (defArgs (ms i 0)) (defBody (ms i 0)) (defScope (ms i 0)) [] [] (gI K x) fd
  no : ∀ f ∈ fs, NoAttr K (gC K x) f
/-- an own error with an __init__ -/
structure XTxt (K : PySem.W.Frag) (mg : Str → Option Value) : Prop where
  mgC : mg "NotLine" = some (.ref (gC K "NotLine"))
  oex : OexC K (gC K "NotLine")
  xf : XfC K (gC K "NotLine")
  iC : PySem.W.findIn K (.ref (gC K "NotLine")) "__init__" = some (some (.ref (gI K "NotLine")))
  tI : PySem.W.typeIn K (.ref (gI K "NotLine")) = some (.type "function")
  ini : ∃ fd, FunD K "__init__" "NotLine.__init__" (defArgs (ms 5 0)) (defBody (ms 5 0)) (defScope (ms 5 0)) [] [] (gI K "NotLine") fd
  no : ∀ f ∈ (["cls", "first", "second"] : List Str), PySem.W.findIn K (.ref (gC K "NotLine")) f = some none
  exm : PySem.W.exmOne K (.ref (gC K "NotLine")) (.ref (gC K "NotLine")) = some true
/-- what the top has written -/
structure Txt (K : PySem.W.Frag) (mg : Str → Option Value) : Prop where
  seq : Dn K mg "is_sequence" 7
  whole : ∃ f fd, FunD K "is_whole" "is_whole" (defArgs (top 8)) (defBody (top 8)) (defScope (top 8)) [.non, .non] [] f fd ∧ mg "is_whole" = some (.ref f)
  hue_ : Dn K mg "is_hue" 10
  chk : Dn K mg "check_hues" 11
  off : Dn K mg "stand_off" 12
  fst : Dn K mg "first_clash" 13
  flt : Dn K mg "hue_fault" 14
  unl : Dn K mg "unlike_wholes" 18
  ent : Dn K mg "entry_fault" 19
  eld : Dn K mg "elder_rows" 20
  hei : Dn K mg "heir_rows" 21
  lhand : Dn K mg "_law_hand" 24
  lmix : Dn K mg "_law_mixed" 25
  ltake : Dn K mg "_law_take" 26
  lbases : Dn K mg "_law_bases" 27
  lshape : Dn K mg "_law_shape" 29
  lclasses : Dn K mg "_law_classes" 30
  lelders : Dn K mg "_law_elders" 31
  lint : Dn K mg "_law_int" 32
  lexact : Dn K mg "_law_exact" 33
  lkin : Dn K mg "_law_kin" 34
  lpair : Dn K mg "_law_pair_among" 35
  lclash : Dn K mg "_law_clash" 36
  ldepths : Dn K mg "_law_depths" 37
  lunlike : Dn K mg "_law_depths_unlike" 38
  lthree : Dn K mg "_law_three_right" 39
  lbuilt : Dn K mg "_law_built" 40
  llaw : Dn K mg "law" 41
  cClash : CTxt K mg "Clash" "Clash.__init__" 15 ["cls", "first", "second"]
  cLadd : CTxt K mg "Ladders" "Ladders.__init__" 16 ["world", "hues"]
  cWorld : CTxt K mg "World" "World.__init__" 22 ["classes", "bases", "owns", "methods", "elders", "heirs"]
  insW : C8.InsC K (gC K "World")
  eqW : PySem.W.findIn K (.ref (gC K "World")) "__eq__" = some (some (.ref (He.ma K (gC K "World") "__eq__")))
  eqF : PySem.W.isFn K (.ref (He.ma K (gC K "World") "__eq__")) = true
  eqD : ∃ fd, FunD K "__eq__" "World.__eq__" (defArgs (ms 22 3)) (defBody (ms 22 3)) (defScope (ms 22 3)) [] [] (He.ma K (gC K "World") "__eq__") fd
  line : XTxt K mg
  isi : mg "isinstance" = none
  list : mg "list" = none
  tuple : mg "tuple" = none
  bool : mg "bool" = none
  int : mg "int" = none
  str : mg "str" = none
  len : mg "len" = none
  range : mg "range" = none
  enumerate : mg "enumerate" = none
  sorted : mg "sorted" = none
  set : mg "set" = none
  max : mg "max" = none
  min : mg "min" = none
  abs : mg "abs" = none
section
variable {P : Program} {w : World} {K : PySem.W.Frag} {mg : Str → Option Value} {base : Heap}
/-! ### is_sequence(thing) of a list or a tuple -/
def IsSq (H : Hp) (a : Addr) : Prop := (∃ xs, H a = some (.lst xs)) ∨ ∃ xs, H a = some (.tup xs)
def spSeq : Sp := fun vs H Q _ => ∃ a, vs = [.ref a] ∧ IsSq H a ∧ Q (.bl true) H
theorem sc7 : FnScope ["thing"] ["thing"] (defScope (top 7)) := ⟨rfl, rfl, rfl, by decide +kernel, rfl, by decide +kernel, by decide +kernel⟩
theorem ok_seq (T : Txt K mg) : C8.Cal P w K mg base 1 "is_sequence" spSeq [] := by
  refine dn_cal T.seq sc7 (fun _ _ _ _ _ _ us hl => match us, hl with | [_], _ => rfl) (fun vs H Q E h => ?_) fun f cdv A outer s H vs Q E hr h => ?_
  · obtain ⟨a, rfl, _⟩ := h
    rfl
  · obtain ⟨a, rfl, hs, q⟩ := h
    refine ⟨_, pss_one (ps_ret (pe_or (pe_callB call_isi rfl T.isi (by decide +kernel) (pa_cons (pv 0) (pa_cons (pe_bltn (v := .ty "list") rfl T.list (by decide +kernel) rfl) pa_nil)))
      (pe_one (pe_callB call_isi rfl T.isi (by decide +kernel) (pa_cons (pv 0) (pa_cons (pe_bltn (v := .ty "tuple") rfl T.tuple (by decide +kernel) rfl) pa_nil)))))), ?_⟩
    rcases hs with ⟨xs, hs⟩ | ⟨xs, hs⟩
    · exact ⟨_, rfl, _, _, _, _, true, rfl, .ty _, .base (.lst hs), kit_ty (by decide +kernel), _, rfl, iteT q⟩
    · exact ⟨_, rfl, _, _, _, _, false, rfl, .ty _, .base (.tup hs), kit_ty (by decide +kernel), _, rfl, iteF ⟨_, rfl, _, _, _, _, true, rfl, .ty _, .base (.tup hs), kit_ty (by decide +kernel), q⟩⟩
/-! ### is_whole(n, lo, hi) of an int within -/
def spWhole : Sp := fun vs H Q _ => ∃ n lo hi : Int, vs = [.int n, .int lo, .int hi] ∧ lo ≤ n ∧ n ≤ hi ∧ Q (.bl true) H
theorem sc8 : FnScope ["thing", "low", "high"] ["thing", "low", "high"] (defScope (top 8)) := ⟨rfl, rfl, rfl, by decide +kernel, rfl, by decide +kernel, by decide +kernel⟩
theorem ok_whole (T : Txt K mg) : C8.Cal P w K mg base 1 "is_whole" spWhole [] := by
  obtain ⟨f, fd, F, hm⟩ := T.whole
  obtain ⟨ds, rd, hb⟩ := F.binds1 (ps := ["thing", "low", "high"]) 3 2 (by simp) rfl fun T kV doc pm an cdv ct us its hl hl2 => match us, its, hl, hl2 with
    | [_, _, _], [_, _], _, _ => ⟨_, rfl, rfl⟩
  refine ⟨f, fd, _, ds, F.ok sc8 (fun vs H Q E h => ?_) fun cdv A outer s H vs Q E hr h => ?_, hm, F.kp, hb, rd⟩
  · obtain ⟨n, lo, hi, rfl, _⟩ := h
    rfl
  · obtain ⟨n, lo, hi, rfl, h1, h2, q⟩ := h
    refine ⟨_, PSs.nox (pss_cons (ps_if (PW.pt (pw_or (pt_val (pe_callB call_isi rfl T.isi (by decide +kernel) (pa_cons (pv 0) (pa_cons (pe_bltn (v := .ty "bool") rfl T.bool (by decide +kernel) rfl) pa_nil))))
        (pw_or1 (pt_not (pt_val (pe_callB call_isi rfl T.isi (by decide +kernel) (pa_cons (pv 0) (pa_cons (pe_bltn (v := .ty "int") rfl T.int (by decide +kernel) rfl) pa_nil)))))))) pss_never pss_nil)
      (pss_one (ps_ret (pe_and (pe_or (pe_cmpR op_isN (pv 1) pe_non (nomark _)) (pe_one (pe_cmpR op_ge (pv 0) (pv 1) (nomark _))))
        (pe_one (pe_or (pe_cmpR op_isN (pv 2) pe_non (nomark _)) (pe_one (pe_cmpR op_le (pv 0) (pv 2) (nomark _))))))))), ?_⟩
    refine ⟨_, rfl, _, _, _, _, false, rfl, .ty _, .base (.int n), kit_ty (by decide +kernel), _, rfl, iteF ?_⟩
    refine ⟨_, rfl, _, _, _, _, true, rfl, .ty _, .base (.int n), kit_ty (by decide +kernel), _, rfl, iteF ?_⟩
    refine ⟨_, rfl, rfl, _, rfl, iteF ⟨_, rfl, _, rfl, n, lo, rfl, rfl, _, rfl, ?_⟩⟩
    rw [decide_eq_true h1]
    refine iteT ⟨_, rfl, rfl, _, rfl, iteF ⟨_, rfl, _, rfl, n, hi, rfl, rfl, ?_⟩⟩
    show Q (.bl (decide (n ≤ hi))) _
    rw [decide_eq_true h2]
    exact q
end
end K14
namespace K14
open PySem PySem.Spec PyProof.Rows L2
/-! ### rows of numbers, hues, in the heap -/
abbrev nV (n : Nat) : V := .int (n : Int)
def nums (l : List Nat) : List V := l.map nV
def hV : Option Int → V
  | none => .non
  | some i => .int i
def hVs (hs : Hues) : List V := hs.map hV
theorem nums_at {l : List Nat} {i x : Nat} (h : l[i]? = some x) : (nums l)[i]? = some (nV x) := by
  unfold nums
  rw [List.getElem?_map, h]
  rfl
theorem nums_of {l : List Nat} {i : Nat} {v : V} (h : (nums l)[i]? = some v) : ∃ x, l[i]? = some x ∧ v = nV x := by
  unfold nums at h
  rw [List.getElem?_map] at h
  cases e : l[i]? with
  | none =>
    rw [e] at h
    cases h
  | some x =>
    rw [e] at h
    exact ⟨x, rfl, (Option.some.inj h).symm⟩
theorem nums_len (l : List Nat) : (nums l).length = l.length := List.length_map ..
theorem nums_flat (l : List Nat) : (nums l).all flatV = true := by
  unfold nums
  rw [List.all_map]
  exact List.all_eq_true.mpr fun _ _ => rfl
theorem in_nums {l : List Nat} {x : Nat} : inV (nV x) (nums l) = l.contains x := by
  unfold inV nums
  rw [List.any_map]
  induction l with
  | nil => rfl
  | cons y r ih =>
    rw [List.any_cons, List.contains_cons, ih]
    have e : (((fun z : V => eqV z (nV x)) ∘ nV) y) = (x == y) := by
      show ((y : Int) == (x : Int)) = (x == y)
      rw [Bool.eq_iff_iff, beq_iff_eq, beq_iff_eq]
      omega
    rw [e]
theorem hVs_len (hs : Hues) : (hVs hs).length = hs.length := List.length_map ..
theorem hVs_at {hs : Hues} {i : Nat} (h : i < hs.length) : (hVs hs)[i]? = some (hV (hue hs i)) := by
  unfold hVs hue
  rw [List.getElem?_map, List.getElem?_eq_getElem h, List.getD_eq_getElem?_getD, List.getElem?_eq_getElem h]
  rfl
theorem hVs_of {hs : Hues} {i : Nat} {v : V} (h : (hVs hs)[i]? = some v) : i < hs.length ∧ v = hV (hue hs i) := by
  have hi : i < hs.length := by
    have := (List.getElem?_eq_some_iff.mp h).1
    rwa [hVs_len] at this
  rw [hVs_at hi] at h
  exact ⟨hi, (Option.some.inj h).symm⟩
theorem hV_scal (a b : Option Int) : scal (hV a) (hV b) = true := by
  cases a <;> cases b <;> rfl
theorem hV_non (a : Option Int) : (!decide (hV a = V.non)) = a.isSome := by
  cases a with
  | none => rfl
  | some i =>
    have h : ¬ hV (some i) = V.non := fun q => by
      have q' : V.int i = V.non := q
      cases q'
    rw [decide_eq_false h]
    rfl
theorem hV_eq (a b : Option Int) : decide (hV a = hV b) = decide (a = b) := by
  rw [Bool.eq_iff_iff, decide_eq_true_iff, decide_eq_true_iff]
  constructor
  · intro h
    cases a with
    | none =>
      cases b with
      | none => rfl
      | some j =>
        have h' : V.non = V.int j := h
        cases h'
    | some i =>
      cases b with
      | none =>
        have h' : V.int i = V.non := h
        cases h'
      | some j =>
        have h' : V.int i = V.int j := h
        cases h'
        rfl
  · intro h
    rw [h]
/-- a tuple of tuples of numbers -/
def RowsT (H : Hp) (a : Addr) (E : List (List Nat)) : Prop := ∃ ps : List Addr, H a = some (.tup (ps.map V.ref)) ∧ ps.length = E.length ∧ ∀ (i : Nat) p, ps[i]? = some p → H p = some (.tup (nums (el E i)))
theorem RowsT.same {H H' : Hp} {a : Addr} {E : List (List Nat)} (h : RowsT H a E) (s : Same H H') : RowsT H' a E := by
  obtain ⟨ps, h1, h2, h3⟩ := h
  exact ⟨ps, s _ _ h1, h2, fun i p e => s _ _ (h3 i p e)⟩
theorem RowsT.at {H : Hp} {a : Addr} {E : List (List Nat)} (h : RowsT H a E) {i : Nat} (hi : i < E.length) : ∃ (xs : List V) (p : Addr), SqT [] H a xs ∧ H a = some (.tup xs) ∧ atI xs (i : Int) = some (.ref p) ∧ H p = some (.tup (nums (el E i))) := by
  obtain ⟨ps, h1, h2, h3⟩ := h
  have hp : i < ps.length := by omega
  refine ⟨_, ps[i], .inl (Rd.of h1), h1, atI_nat ?_, h3 i _ (List.getElem?_eq_getElem hp)⟩
  rw [List.getElem?_map, List.getElem?_eq_getElem hp]
  rfl
theorem SqT.of {K : PySem.W.Frag} {H : Hp} {a : Addr} {xs : List V} (h : H a = some (.tup xs)) : SqT K H a xs := .inl (.inl h)
/-- a world of the text: its classes (any), the elders of each -/
def WAt (K : PySem.W.Frag) (H : Hp) (x : Addr) (E : List (List Nat)) : Prop := ∃ (dx ac ae : Addr) (fs : List (Str × V)) (cs : List V), H x = some (.ins (gC K "World") dx fs) ∧ List.lookup ("classes" : Str) fs = some (V.ref ac) ∧ List.lookup ("elders" : Str) fs = some (V.ref ae) ∧
  H ac = some (.tup cs) ∧ cs.length = E.length ∧ (∀ v ∈ cs, ∃ b, v = V.ref b) ∧ RowsT H ae E
theorem WAt.same {K : PySem.W.Frag} {H H' : Hp} {x : Addr} {E : List (List Nat)} (h : WAt K H x E) (s : Same H H') : WAt K H' x E := by
  obtain ⟨dx, ac, ae, fs, cs, h1, h2, h3, h4, h5, h6, h7⟩ := h
  exact ⟨dx, ac, ae, fs, cs, s _ _ h1, h2, h3, s _ _ h4, h5, h6, h7.same s⟩
theorem same_upd {H : Hp} {p : Addr} {o : HO} (h : H p = none) : Same H (upd H p o) := fun b u e => by
  rw [upd_ne (ne_of_none e h)]
  exact e
theorem same_put {H H1 : Hp} {p : Addr} {o : HO} (s : Same H H1) (h : H1 p = none) : Same H (upd H1 p o) := Same.trans s (same_upd h)
section
variable {P : Program} {w : World} {K : PySem.W.Frag} {mg : Str → Option Value} {base : Heap}
theorem noW (T : Txt K mg) (f : Str) (h : f ∈ (["classes", "bases", "owns", "methods", "elders", "heirs"] : List Str) := by decide) : NoAttr K (gC K "World") f := T.cWorld.no f h
/-! ### is_hue(thing) of a right hue -/
def HueOk (h : Option Int) : Prop := ∀ i, h = some i → 0 ≤ i ∧ i ≤ 7
def spHue : Sp := fun vs H Q _ => ∃ h, vs = [hV h] ∧ HueOk h ∧ Q (.bl true) H
theorem sc10 : FnScope ["thing"] ["thing"] (defScope (top 10)) := ⟨rfl, rfl, rfl, by decide +kernel, rfl, by decide +kernel, by decide +kernel⟩
theorem ok_hue (T : Txt K mg) : C8.Cal P w K mg base 2 "is_hue" spHue [] := by
  refine dn_cal T.hue_ sc10 (fun _ _ _ _ _ _ us hl => match us, hl with | [_], _ => rfl) (fun vs H Q E h => ?_) fun f cdv A outer s H vs Q E hr h => ?_
  · obtain ⟨a, rfl, _⟩ := h
    rfl
  · obtain ⟨a, rfl, ho, q⟩ := h
    refine ⟨_, pss_one (ps_ret (pe_or (pe_cmpR op_isN (pv 0) pe_non (nomark _)) (pe_one (C8.pe_c (ok_whole T) hr (by decide) rfl (pa_cons (pv 0) (pa_cons pe_int (pa_cons pe_int pa_nil))))))), ?_⟩
    cases a with
    | none => exact ⟨_, rfl, rfl, _, rfl, iteT q⟩
    | some i => exact ⟨_, rfl, rfl, _, rfl, iteF ⟨_, rfl, i, 0, 7, rfl, (ho i rfl).1, (ho i rfl).2, q⟩⟩
/-! ### stand_off(world, a, b) -/
def spOff (K : PySem.W.Frag) : Sp := fun vs H Q _ => ∃ (x : Addr) (E : List (List Nat)) (a b : Nat), vs = [.ref x, nV a, nV b] ∧ WAt K H x E ∧ a < E.length ∧ b < E.length ∧
  Q (.bl (decide (a ≠ b) && (!(el E b).contains a && !(el E a).contains b))) H
theorem sc12 : FnScope ["world", "a", "b"] ["world", "a", "b"] (defScope (top 12)) := ⟨rfl, rfl, rfl, by decide +kernel, rfl, by decide +kernel, by decide +kernel⟩
theorem ok_off (T : Txt K mg) : C8.Cal P w K mg base 1 "stand_off" (spOff K) [] := by
  refine dn_cal T.off sc12 (fun _ _ _ _ _ _ us hl => match us, hl with | [_, _, _], _ => rfl) (fun vs H Q E h => ?_) fun f cdv A outer s H vs Q E hr h => ?_
  · obtain ⟨x, E, a, b, rfl, _⟩ := h
    rfl
  · obtain ⟨x, E, a, b, rfl, hW, ha, hb, q⟩ := h
    refine ⟨_, pss_one (ps_ret (pe_and (pe_cmpR op_ne (pv 1) (pv 2) (nomark _)) (pe_and (pe_cmpR op_notIn_seq (pv 1) (pe_ix ix_tup (pe_fld (pv 0) rfl) (pv 2) (fun _ _ => rfl)) rfl)
      (pe_one (pe_cmpR op_notIn_seq (pv 2) (pe_ix ix_tup (pe_fld (pv 0) rfl) (pv 1) (fun _ _ => rfl)) rfl))))), ?_⟩
    obtain ⟨dx, ac, ae, fs, cs, h1, h2, h3, h4, h5, h6, h7⟩ := hW
    obtain ⟨xs, p, _, hx, hp, hpe⟩ := h7.at hb
    obtain ⟨ys, r, _, hy, hr', hre⟩ := h7.at ha
    have e0 : (!decide (nV a = nV b)) = decide (a ≠ b) := by
      by_cases e : a = b
      · subst e
        simp
      · have e' : ¬ nV a = nV b := fun q => e (by
          have q' : (a : Int) = (b : Int) := V.int.inj q
          omega)
        rw [decide_eq_false e', decide_eq_true e]
        rfl
    refine ⟨_, rfl, _, rfl, rfl, decide (a ≠ b), congrArg V.bl e0, ?_⟩
    cases hab : decide (a ≠ b) with
    | false =>
      rw [hab, Bool.false_and] at q
      exact iteF q
    | true =>
      rw [hab, Bool.true_and] at q
      refine iteT ⟨_, rfl, _, rfl, x, _, dx, fs, _, rfl, h1, T.cWorld.cl, noW T "elders", h3, _, rfl, ae, xs, _, _, rfl, rfl, .of hx, hp, p, _, rfl, .inr (.of hpe), rfl, nums_flat _, !(el E b).contains a, ?_, ?_⟩
      · show V.bl (!inV (nV a) (nums (el E b))) = _
        rw [in_nums]
      · cases hc : (!(el E b).contains a) with
        | false =>
          rw [hc, Bool.false_and] at q
          exact iteF q
        | true =>
          rw [hc, Bool.true_and] at q
          refine iteT ⟨_, rfl, _, rfl, x, _, dx, fs, _, rfl, h1, T.cWorld.cl, noW T "elders", h3, _, rfl, ae, ys, _, _, rfl, rfl, .of hy, hr', r, _, rfl, .inr (.of hre), rfl, nums_flat _, ?_⟩
          show Q (.bl (!inV (nV b) (nums (el E a)))) _
          rw [in_nums]
          exact q
end
end K14
namespace K14
open PySem PySem.Spec PyProof.Rows L2
section
variable {P : Program} {w : World} {K : PySem.W.Frag} {mg : Str → Option Value} {base : Heap}
/-! ### check_hues(world, hues) of right hues -/
def HuesOk (hs : Hues) (n : Nat) : Prop := hs.length = n ∧ n ≤ 1000 ∧ ∀ i, HueOk (hue hs i)
/-- hues stand at a, in a list or a tuple -/
def HAt (H : Hp) (a : Addr) (hs : Hues) : Prop := H a = some (.lst (hVs hs)) ∨ H a = some (.tup (hVs hs))
theorem HAt.same {H H' : Hp} {a : Addr} {hs : Hues} (h : HAt H a hs) (s : Same H H') : HAt H' a hs := h.elim (fun h => .inl (s _ _ h)) fun h => .inr (s _ _ h)
def spChk (K : PySem.W.Frag) : Sp := fun vs H Q _ => ∃ (x a : Addr) (E : List (List Nat)) (hs : Hues), vs = [.ref x, .ref a] ∧ WAt K H x E ∧ HAt H a hs ∧ HuesOk hs E.length ∧
  ∀ H' r, Same H H' → H' r = some (.tup (hVs hs)) → Q (.ref r) H'
theorem sc11 : FnScope ["world", "hues", "at", "hue"] ["world", "hues"] (defScope (top 11)) := ⟨rfl, rfl, rfl, by decide +kernel, rfl, by decide +kernel, by decide +kernel⟩
theorem len_le {n : Nat} (h : n ≤ 1000) : n ≤ sizeLine := Nat.le_of_lt (small1000 h)
theorem ok_chk (T : Txt K mg) : C8.Cal P w K mg base 3 "check_hues" (spChk K) [] := by
  refine dn_cal T.chk sc11 (fun _ _ _ _ _ _ us hl => match us, hl with | [_, _], _ => rfl) (fun vs H Q E h => ?_) fun f cdv A outer s H vs Q E hr h => ?_
  · obtain ⟨x, a, E', hs, rfl, _⟩ := h
    rfl
  · obtain ⟨x, a, E', hs, rfl, hW, hA, ⟨hl, hn, ho⟩, k⟩ := h
    obtain ⟨dx, ac, ae, fs, cs, h1, h2, h3, h4, h5, h6, h7⟩ := id hW
    have ec : (!decide (V.int ((hVs hs).length : Nat) = V.int (cs.length : Nat))) = false := by
      rw [hVs_len, hl, h5, decide_eq_true rfl]
      rfl
    -- one turn: the new pair at T, the hue x of place i
    have turn : ∀ {N : L2.St → Hp → Prop} {i : Nat} {y : V} {σ : L2.St} {H1 : Hp} {T1 : Addr} {v2 v3 : Option V}, (hVs hs)[i]? = some y → Same H H1 → H1 T1 = none → (∀ H2 u v, Same H H2 → N [some (.ref x), some (.ref a), u, v] H2) →
        gTup K 2 (gCons (gName 2) (gCons (gName 3) gNil)) (.ref T1) [some (.ref x), some (.ref a), v2, v3] (upd H1 T1 (.tup [.int (i : Nat), y]))
          (fun σ2 H2 => tIfS (tNot (tB (tCall spHue [] E0 (tCons (tVar 3) tNil)))) tNever tNext { nx := N, rt := Q } σ2 H2) := by
      intro N i y σ H1 T1 v2 v3 hy s1 hT hN
      obtain ⟨hi, rfl⟩ := hVs_of hy
      refine ⟨T1, _, rfl, .of upd_same, rfl, _, _, rfl, _, _, rfl, rfl, ?_⟩
      exact ⟨_, rfl, _, rfl, ho i, true, rfl, iteF (hN _ _ _ (same_put s1 hT))⟩
    rcases hA with hA | hA
    · refine ⟨_, pss_cons (ps_if (PW.pt (pw_or (pt_not (pt_val (C8.pe_c (ok_seq T) hr (by decide) rfl (pa_cons (pv 1) pa_nil))))
          (pw_or1 (pt_cmpR op_ne (pe_callB call_len_seq rfl T.len (by decide +kernel) (pa_cons (pv 1) pa_nil)) (pe_callB call_len_seq rfl T.len (by decide +kernel) (pa_cons (pe_fld (pv 0) rfl) pa_nil)) (nomark _))))) pss_never pss_nil)
        (pss_cons (ps_for PassesOwn.never rfl (pi_enum rfl T.enumerate (pa_cons (pv 1) pa_nil)) (pg_tup rfl (pgs_cons (pg_name (i := 2) sc11.nd rfl (.inl rfl)) (pgs_cons (pg_name (i := 3) sc11.nd rfl (.inl rfl)) pgs_nil)))
          (pss_one (ps_if (pt_not (pt_val (C8.pe_c (ok_hue T) hr (by decide) rfl (pa_cons (pv 3) pa_nil)))) pss_never pss_nil)))
        (pss_one (ps_ret (pe_callTy call_tuple_of rfl T.tuple (by decide +kernel) (pa_cons (pv 1) pa_nil))))), ?_⟩
      refine ⟨_, rfl, a, rfl, .inl ⟨_, hA⟩, true, rfl, iteF ?_⟩
      refine ⟨_, rfl, a, _, rfl, .inl (SqL.of hA), _, rfl, x, _, dx, fs, _, rfl, h1, T.cWorld.cl, noW T "classes", h2, ac, cs, rfl, .inr (.of h4), rfl, _, congrArg V.bl ec, iteF ?_⟩
      refine ⟨_, rfl, a, _, rfl, SqL.of hA, for_it walk_enum (fun i σ H1 => (∃ u v, σ = [some (.ref x), some (.ref a), u, v]) ∧ Same H H1) ⟨⟨none, none, rfl⟩, Same.refl H⟩ (fun i σ H1 _ p => p.2.seq (SqL.of hA)) ?_ ?_⟩
      · rintro i y σ H1 H2 hi ⟨⟨u, v, rfl⟩, s1⟩ ⟨T1, y1, y2, rfl, hT, rfl, e1, e2⟩
        cases Option.some.inj e1
        exact turn (σ := []) e2 s1 hT fun H3 u v s3 => ⟨⟨u, v, rfl⟩, s3⟩
      · rintro σ H1 ⟨⟨u, v, rfl⟩, s1⟩
        exact ⟨_, rfl, a, _, rfl, .inl ⟨s1.seq (SqL.of hA), fun l hl => k _ l (same_put s1 hl) upd_same⟩⟩
    · refine ⟨_, pss_cons (ps_if (PW.pt (pw_or (pt_not (pt_val (C8.pe_c (ok_seq T) hr (by decide) rfl (pa_cons (pv 1) pa_nil))))
          (pw_or1 (pt_cmpR op_ne (pe_callB call_len_seq rfl T.len (by decide +kernel) (pa_cons (pv 1) pa_nil)) (pe_callB call_len_seq rfl T.len (by decide +kernel) (pa_cons (pe_fld (pv 0) rfl) pa_nil)) (nomark _))))) pss_never pss_nil)
        (pss_cons (ps_for PassesOwn.never rfl (pi_enumT rfl T.enumerate (pa_cons (pv 1) pa_nil)) (pg_tup rfl (pgs_cons (pg_name (i := 2) sc11.nd rfl (.inl rfl)) (pgs_cons (pg_name (i := 3) sc11.nd rfl (.inl rfl)) pgs_nil)))
          (pss_one (ps_if (pt_not (pt_val (C8.pe_c (ok_hue T) hr (by decide) rfl (pa_cons (pv 3) pa_nil)))) pss_never pss_nil)))
        (pss_one (ps_ret (pe_callTy call_tuple_of rfl T.tuple (by decide +kernel) (pa_cons (pv 1) pa_nil))))), ?_⟩
      refine ⟨_, rfl, a, rfl, .inr ⟨_, hA⟩, true, rfl, iteF ?_⟩
      refine ⟨_, rfl, a, _, rfl, .inr (.of hA), _, rfl, x, _, dx, fs, _, rfl, h1, T.cWorld.cl, noW T "classes", h2, ac, cs, rfl, .inr (.of h4), rfl, _, congrArg V.bl ec, iteF ?_⟩
      refine ⟨_, rfl, a, _, rfl, .of hA, for_it walk_enumT (fun i σ H1 => (∃ u v, σ = [some (.ref x), some (.ref a), u, v]) ∧ Same H H1) ⟨⟨none, none, rfl⟩, Same.refl H⟩ (fun i σ H1 _ p => .of (p.2 _ _ hA)) ?_ ?_⟩
      · rintro i y σ H1 H2 hi ⟨⟨u, v, rfl⟩, s1⟩ ⟨T1, y1, y2, rfl, hT, rfl, e1, e2⟩
        cases Option.some.inj e1
        exact turn (σ := []) e2 s1 hT fun H3 u v s3 => ⟨⟨u, v, rfl⟩, s3⟩
      · rintro σ H1 ⟨⟨u, v, rfl⟩, s1⟩
        exact ⟨_, rfl, a, _, rfl, .inr ⟨.of (s1 _ _ hA), k _ a s1 (s1 _ _ hA)⟩⟩
end
end K14
namespace K14
open PySem PySem.Spec PyProof.Rows L2
/-! ### the first that is found, place by place -/
theorem find_step {α β : Type} {g : α → Option β} {l : List α} {i : Nat} {x : α} (h : (l.take i).findSome? g = none) (hx : l[i]? = some x) (hn : g x = none) : (l.take (i + 1)).findSome? g = none := by
  rw [take_more hx, List.findSome?_append, h]
  show (none : Option β).or ([x].findSome? g) = none
  rw [List.findSome?_cons, hn]
  rfl
theorem find_hit {α β : Type} {g : α → Option β} {l : List α} {i : Nat} {x : α} {y : β} (h : (l.take i).findSome? g = none) (hx : l[i]? = some x) (hy : g x = some y) : l.findSome? g = some y := by
  have e : l = l.take i ++ x :: l.drop (i + 1) := by
    have h1 := List.take_append_drop i l
    have h2 : l.drop i = x :: l.drop (i + 1) := by
      obtain ⟨hi, hv⟩ := List.getElem?_eq_some_iff.mp hx
      rw [List.drop_eq_getElem_cons hi, hv]
    rw [h2] at h1
    exact h1.symm
  rw [e, List.findSome?_append, h]
  show (none : Option β).or ((x :: l.drop (i + 1)).findSome? g) = some y
  rw [List.findSome?_cons, hy]
  rfl
theorem find_all {α β : Type} {g : α → Option β} {l : List α} {n : Nat} (h : (l.take n).findSome? g = none) (hn : l.length ≤ n) : l.findSome? g = none := by
  rw [List.take_of_length_le hn] at h
  exact h
section
variable {P : Program} {w : World} {K : PySem.W.Frag} {mg : Str → Option Value} {base : Heap}
/-- an instance is made by an __init__ that raises nothing -/
theorem ct_mak {x q : Str} {i k : Nat} {fs N ps : List Str} {sp : Sp} (C : CTxt K mg x q i fs) (S : FnScope N ps (defScope (ms i 0)))
    (hbind : ∀ (kV doc pm : Value) (an : Option Addr) (cdv ct : Value) (us : List Value), us.length = ps.length → bindArgs (PySem.W.fnOf "__init__" q (defArgs (ms i 0)) (defBody (ms i 0)) (defScope (ms i 0)) .none kV doc pm an cdv ct) ⟨us, []⟩ = pure (ps.zip us))
    (len : ∀ vs H Q E, sp vs H Q E → vs.length = ps.length)
    (hbody : ∀ (f : Addr) (cdv : Value) (A : Around) (outer : List Env) (s : Shared) (H : Hp) (vs : List V) (Q : VK) (E : XK), Room k (A.deeper (envOfC q (defScope (ms i 0)) s.heap.objs.size f cdv)) → sp vs H Q E →
      ∃ t, PSs (cxOf CX0 P w K mg base N q (defScope (ms i 0)) f cdv A outer s H E).nox (defBody (ms i 0)) t ∧ t { nx := fun _ H' => Q .non H', rt := Q } (start N vs) H) : C8.Mak P w K mg base (k + 1) x (gC K x) sp [] := by
  obtain ⟨fd, F⟩ := C.ini
  refine ⟨_, fd, ps, [], C.mkr, F.ok S len fun cdv A outer s H vs Q E hr h => ?_, C.mgC, F.bindsN hbind, .nil⟩
  obtain ⟨t, h1, h2⟩ := hbody _ cdv A outer s H vs Q E hr h
  exact ⟨t, h1.nox, h2⟩
/-! ### Clash(cls, first, second) -/
def clashF (a b c : V) : List (Str × V) := [("cls", a), ("first", b), ("second", c)]
def spClash (K : PySem.W.Frag) : Sp := fun vs H Q _ => ∃ (x dx : Addr) (a b c : V), vs = [.ref x, a, b, c] ∧ H x = some (.ins (gC K "Clash") dx []) ∧
  ∀ H', H' x = some (.ins (gC K "Clash") dx (clashF a b c)) → (∀ b o, H b = some o → b ≠ x → H' b = some o) → Q .non H'
theorem scI15 : FnScope ["self", "cls", "first", "second"] ["self", "cls", "first", "second"] (defScope (ms 15 0)) := ⟨rfl, rfl, rfl, by decide +kernel, rfl, by decide +kernel, by decide +kernel⟩
theorem mk_clash (T : Txt K mg) : C8.Mak P w K mg base 1 "Clash" (gC K "Clash") (spClash K) [] := by
  refine ct_mak T.cClash scI15 (fun _ _ _ _ _ _ us hl => match us, hl with | [_, _, _, _], _ => rfl) (fun vs H Q E h => ?_) fun f cdv A outer s H vs Q E hr h => ?_
  · obtain ⟨x, dx, a, b, c, rfl, _⟩ := h
    rfl
  · obtain ⟨x, dx, a, b, c, rfl, hx, k⟩ := h
    refine ⟨_, pss_cons (ps_fld (pv 0) (pv 1) rfl) (pss_cons (ps_fld (pv 0) (pv 2) rfl) (pss_one (ps_fld (pv 0) (pv 3) rfl))), ?_⟩
    refine ⟨_, rfl, _, rfl, x, _, dx, _, rfl, hx, T.cClash.cl, T.cClash.no "cls" (by decide), (by decide), ?_⟩
    refine ⟨_, rfl, _, rfl, x, _, dx, _, rfl, upd_same, T.cClash.cl, T.cClash.no "first" (by decide), (by show 1 < 1000; decide), ?_⟩
    refine ⟨_, rfl, _, rfl, x, _, dx, _, rfl, upd_same, T.cClash.cl, T.cClash.no "second" (by decide), (by show 2 < 1000; decide), ?_⟩
    exact k _ upd_same fun b o e hb => by rw [upd_ne hb, upd_ne hb, upd_ne hb]; exact e
/-! ### first_clash(world, hues, among) -/
def spFst (K : PySem.W.Frag) : Sp := fun vs H Q _ => ∃ (x a g : Addr) (E : List (List Nat)) (hs : Hues) (among : List Nat), vs = [.ref x, .ref a, .ref g] ∧ WAt K H x E ∧ H a = some (.tup (hVs hs)) ∧ hs.length = E.length ∧ Eld E ∧ H g = some (.tup (nums among)) ∧
  (∀ k ∈ among, k < E.length) ∧ (pairIn E hs among = none → Q .non H) ∧ ∀ f s, pairIn E hs among = some (f, s) → ∀ p, H p = none → Q (.ref p) (upd H p (.tup [nV f, nV s]))
theorem sc13 : FnScope ["world", "hues", "among", "first", "second"] ["world", "hues", "among"] (defScope (top 13)) := ⟨rfl, rfl, rfl, by decide +kernel, rfl, by decide +kernel, by decide +kernel⟩
theorem ok_fst (T : Txt K mg) : C8.Cal P w K mg base 2 "first_clash" (spFst K) [] := by
  refine dn_cal T.fst sc13 (fun _ _ _ _ _ _ us hl => match us, hl with | [_, _, _], _ => rfl) (fun vs H Q E h => ?_) fun f cdv A outer s H vs Q E hr h => ?_
  · obtain ⟨x, a, g, E', hs, am, rfl, _⟩ := h
    rfl
  · obtain ⟨x, a, g, E', hs, am, rfl, hW, hA, hl, he, hg, hlt, k0, k1⟩ := h
    refine ⟨_, pss_cons (ps_for PassesOwn.never rfl (pi_tup (pv 2)) (pg_name (i := 3) sc13.nd rfl (.inl rfl)) (pss_one (ps_for PassesOwn.never rfl (pi_tup (pv 2)) (pg_name (i := 4) sc13.nd rfl (.inl rfl))
        (pss_one (ps_if (PW.pt (pw_and (pt_cmpR op_lt (pv 3) (pv 4) (nomark _)) (pw_and (pt_cmpR op_notN (pe_ix ix_tup (pv 1) (pv 3) (fun _ _ => rfl)) pe_non (nomark _))
            (pw_and1 (pt_cmpR op_eq (pe_ix ix_tup (pv 1) (pv 3) (fun _ _ => rfl)) (pe_ix ix_tup (pv 1) (pv 4) (fun _ _ => rfl)) (nomark _))))))
          (pss_one (ps_if (pt_val (C8.pe_c (ok_off T) hr (by decide) rfl (pa_cons (pv 0) (pa_cons (pv 3) (pa_cons (pv 4) pa_nil))))) (pss_one (ps_ret (pe_tup (pa_cons (pv 3) (pa_cons (pv 4) pa_nil))))) pss_nil)) pss_nil)))))
      (pss_one (ps_ret pe_non)), ?_⟩
    refine ⟨_, rfl, g, rfl, ⟨_, .of hg⟩, for_tup (K := K) (a := g) (xs := nums am) (fun i σ H1 => (∃ u v, σ = [some (.ref x), some (.ref a), some (.ref g), u, v]) ∧ H1 = H ∧ (am.take i).findSome? (fun f => am.findSome? fun s => if bad E' hs f s = true then some (f, s) else none) = none)
      ⟨⟨none, none, rfl⟩, rfl, rfl⟩ (fun i σ H1 _ p => by rw [p.2.1]; exact .of hg) ?_ ?_⟩
    · rintro i y σ H1 hi ⟨⟨u, v, rfl⟩, rfl, hn⟩
      obtain ⟨f1, hf1, rfl⟩ := nums_of hi
      have lf := hlt f1 (List.mem_of_getElem? hf1)
      refine ⟨_, rfl, g, rfl, ⟨_, .of hg⟩, for_tup (K := K) (a := g) (xs := nums am) (fun j σ H2 => (∃ v, σ = [some (.ref x), some (.ref a), some (.ref g), some (nV f1), v]) ∧ H2 = H1 ∧ (am.take j).findSome? (fun s => if bad E' hs f1 s = true then some (f1, s) else none) = none)
        ⟨⟨v, rfl⟩, rfl, rfl⟩ (fun j σ H2 _ p => by rw [p.2.1]; exact .of hg) ?_ ?_⟩
      · rintro j y σ H2 hj ⟨⟨v', rfl⟩, rfl, hn2⟩
        obtain ⟨s1, hs1, rfl⟩ := nums_of hj
        have ls := hlt s1 (List.mem_of_getElem? hs1)
        have at1 : ∀ {c : Nat}, c < E'.length → atI (hVs hs) (c : Int) = some (hV (hue hs c)) := fun {c} hc => atI_nat (hVs_at (by omega))
        have go : bad E' hs f1 s1 = false → (∃ v, [some (V.ref x), some (.ref a), some (.ref g), some (nV f1), some (nV s1)] = [some (V.ref x), some (.ref a), some (.ref g), some (nV f1), v]) ∧ H2 = H2 ∧ (am.take (j + 1)).findSome? (fun s => if bad E' hs f1 s = true then some (f1, s) else none) = none :=
          fun hb => ⟨⟨_, rfl⟩, rfl, find_step hn2 hs1 (by rw [hb]; rfl)⟩
        have hb := bad_off he (hs := hs) (f := f1) (s := s1)
        have e1 : decide ((f1 : Int) < (s1 : Int)) = decide (f1 < s1) := by
          rw [Bool.eq_iff_iff, decide_eq_true_iff, decide_eq_true_iff]
          omega
        refine ⟨_, rfl, _, rfl, (f1 : Int), (s1 : Int), rfl, rfl, decide (f1 < s1), congrArg V.bl e1, ?_⟩
        cases c1 : decide (f1 < s1) with
        | false =>
          rw [c1, Bool.false_and] at hb
          exact iteF (go hb)
        | true =>
          rw [c1, Bool.true_and] at hb
          refine iteT ⟨_, rfl, _, rfl, a, _, _, _, rfl, rfl, .of hA, at1 lf, rfl, (hue hs f1).isSome, congrArg V.bl (hV_non _), ?_⟩
          cases c2 : (hue hs f1).isSome with
          | false =>
            rw [c2, Bool.false_and] at hb
            exact iteF (go hb)
          | true =>
            rw [c2, Bool.true_and] at hb
            refine iteT ⟨_, rfl, _, rfl, a, _, _, _, rfl, rfl, .of hA, at1 lf, _, rfl, _, rfl, a, _, _, _, rfl, rfl, .of hA, at1 ls, hV_scal _ _, decide (hue hs f1 = hue hs s1), congrArg V.bl (hV_eq _ _), ?_⟩
            cases c3 : decide (hue hs f1 = hue hs s1) with
            | false =>
              rw [c3, Bool.false_and] at hb
              exact iteF (go hb)
            | true =>
              rw [c3, Bool.true_and] at hb
              refine iteT ⟨_, rfl, _, rfl, _, rfl, x, E', f1, s1, rfl, hW, lf, ls, _, rfl, ?_⟩
              rw [← hb]
              cases c4 : bad E' hs f1 s1 with
              | false => exact iteF (go c4)
              | true =>
                refine iteT ⟨_, rfl, _, rfl, (by show 2 ≤ sizeLine; decide), fun p hp => k1 f1 s1 ?_ p hp⟩
                exact find_hit hn hf1 (find_hit hn2 hs1 (by rw [c4]; rfl))
      · rintro σ H2 ⟨⟨v', rfl⟩, rfl, hn2⟩
        exact ⟨⟨_, _, rfl⟩, rfl, find_step hn hf1 (find_all hn2 (by rw [nums_len]; exact Nat.le_refl _))⟩
    · rintro σ H1 ⟨⟨u, v, rfl⟩, rfl, hn⟩
      exact k0 (find_all hn (by rw [nums_len]; exact Nat.le_refl _))
end
end K14
namespace K14
open PySem PySem.Spec PyProof.Rows L2
theorem range_at {n i : Nat} (h : i < n) : (List.range n)[i]? = some i := by
  rw [List.getElem?_eq_getElem (by rw [List.length_range]; exact h), List.getElem_range]
section
variable {P : Program} {w : World} {K : PySem.W.Frag} {mg : Str → Option Value} {base : Heap}
/-! ### hue_fault(world, hues) -/
def spFlt (K : PySem.W.Frag) : Sp := fun vs H Q _ => ∃ (x a : Addr) (E : List (List Nat)) (hs : Hues), vs = [.ref x, .ref a] ∧ WAt K H x E ∧ HAt H a hs ∧ HuesOk hs E.length ∧ Eld E ∧
  (clash E hs E.length = none → ∀ H', Same H H' → Q .non H') ∧ ∀ c f s, clash E hs E.length = some (c, f, s) → ∀ H' p dx, Same H H' → H p = none → H' p = some (.ins (gC K "Clash") dx (clashF (nV c) (nV f) (nV s))) → Q (.ref p) H'
theorem sc14 : FnScope ["world", "hues", "row", "c", "pair"] ["world", "hues"] (defScope (top 14)) := ⟨rfl, rfl, rfl, by decide +kernel, rfl, by decide +kernel, by decide +kernel⟩
theorem ok_flt (T : Txt K mg) : C8.Cal P w K mg base 4 "hue_fault" (spFlt K) [] := by
  refine dn_cal T.flt sc14 (fun _ _ _ _ _ _ us hl => match us, hl with | [_, _], _ => rfl) (fun vs H Q E h => ?_) fun f cdv A outer s H vs Q E hr h => ?_
  · obtain ⟨x, a, E', hs, rfl, _⟩ := h
    rfl
  · obtain ⟨x, a, E', hs, rfl, hW, hA, hok, he, k0, k1⟩ := h
    refine ⟨_, pss_cons (ps_set (i := 2) sc14.nd rfl (.inl rfl) (C8.pe_c (ok_chk T) hr (by decide) rfl (pa_cons (pv 0) (pa_cons (pv 1) pa_nil))))
      (pss_cons (ps_for PassesOwn.never rfl (pi_range1 rfl T.range (pa_cons (pe_callB call_len_seq rfl T.len (by decide +kernel) (pa_cons (pv 2) pa_nil)) pa_nil)) (pg_name (i := 3) sc14.nd rfl (.inl rfl))
        (pss_cons (ps_set (i := 4) sc14.nd rfl (.inl rfl) (C8.pe_c (ok_fst T) hr (by decide) rfl (pa_cons (pv 0) (pa_cons (pv 2) (pa_cons (pe_op op_catA (pe_ix ix_tup (pe_fld (pv 0) rfl) (pv 3) (fun _ _ => rfl)) (pe_tup (pa_cons (pv 3) pa_nil))) pa_nil)))))
          (pss_one (ps_if (pt_cmpR op_notN (pv 4) pe_non (nomark _)) (pss_one (ps_ret (C8.pe_mk (mk_clash T) hr (by decide) rfl (pa_cons (pv 3) (pa_cons (pe_ix ix_tup (pv 4) pe_int (fun _ _ => rfl)) (pa_cons (pe_ix ix_tup (pv 4) pe_int (fun _ _ => rfl)) pa_nil)))))) pss_nil))))
      (pss_one (ps_ret pe_non))), ?_⟩
    refine ⟨_, rfl, _, rfl, x, a, E', hs, rfl, hW, hA, hok, fun H1 r s1 hr1 => ?_⟩
    obtain ⟨hl, hn, ho⟩ := hok
    refine ⟨_, rfl, r, _, rfl, .inr (.of hr1), _, rfl, by omega, by rw [hVs_len, hl]; omega, ?_⟩
    rw [hVs_len, hl, Int.toNat_natCast]
    refine for_range (lo := 0) (n := E'.length) (fun i σ H2 => (∃ u v, σ = [some (.ref x), some (.ref a), some (.ref r), u, v]) ∧ Same H1 H2 ∧ ((List.range E'.length).take i).findSome? (fun c => (pairIn E' hs (kin E' c)).map fun p => (c, p)) = none)
      ⟨⟨none, none, rfl⟩, Same.refl H1, rfl⟩ ?_ ?_
    · rintro i σ H2 hi ⟨⟨u, v, rfl⟩, s2, hn2⟩
      have s02 : Same H H2 := Same.trans s1 s2
      have hW2 := hW.same s02
      have hr2 := s2 _ _ hr1
      obtain ⟨dx, ac, ae, fs, cs, h1, h2, h3, h4, h5, h6, h7⟩ := id hW2
      obtain ⟨xs, p, _, hx, hp, hpe⟩ := h7.at hi
      -- the pair: behind it the test, and Clash(..)
      have rest : ∀ (g : Addr) (H3 : Hp), Same H2 H3 → H3 g = some (.tup (nums (kin E' i))) → spFst K [.ref x, .ref r, .ref g] H3 (fun v H4 => tSeq (tIfS (tTest (tOp (fun x y H Q => y = .non ∧ Q (.bl (!decide (x = .non))) H) (tVar 4) (tC .non)))
            (tRet (tMake (gC K "Clash") (spClash K) [] E0 (tCons (tVar 3) (tCons (tOp (rIxT K) (tVar 4) (tC (.int 0))) (tCons (tOp (rIxT K) (tVar 4) (tC (.int 1))) tNil))))) tNext) tNext
          { nx := fun σ' H' => (∃ u v, σ' = [some (V.ref x), some (.ref a), some (.ref r), u, v]) ∧ Same H1 H' ∧ ((List.range E'.length).take (i + 1)).findSome? (fun c => (pairIn E' hs (kin E' c)).map fun p => (c, p)) = none, rt := Q }
          [some (.ref x), some (.ref a), some (.ref r), some (.int (0 + (i : Nat))), some v] H4) E0 := by
        intro g H3 s3 hg
        refine ⟨x, r, g, E', hs, kin E' i, rfl, hW2.same s3, s3 _ _ hr2, hl, he, hg, fun k hk => Nat.lt_of_le_of_lt (kin_le he hk) hi, fun hnone => ?_, fun f s hsome p hp => ?_⟩
        · refine ⟨_, rfl, rfl, _, rfl, iteF ⟨⟨_, _, rfl⟩, Same.trans s2 s3, find_step hn2 (range_at hi) (by rw [hnone]; rfl)⟩⟩
        · refine ⟨_, rfl, rfl, _, rfl, iteT ?_⟩
          have e0 : atI [nV f, nV s] 0 = some (nV f) := rfl
          have e1 : atI [nV f, nV s] 1 = some (nV s) := rfl
          refine ⟨_, rfl, _, rfl, p, _, 0, _, rfl, rfl, .of upd_same, e0, _, rfl, p, _, 1, _, rfl, rfl, .of upd_same, e1, fun z dz hz hdz hne => ?_⟩
          have hz3 : H3 z = none := (same_upd hp).free hz
          refine ⟨z, dz, _, _, _, rfl, upd_same, fun H5 h5 k5 => ⟨rfl, ?_⟩⟩
          have sA : Same H3 H5 := fun b o e => k5 b o (by
            rw [upd_ne (ne_of_none (same_upd hp b o e) hz), upd_ne (ne_of_none (same_upd hp b o e) hdz)]
            exact same_upd hp b o e) (ne_of_none e hz3)
          refine k1 i f s (find_hit hn2 (range_at hi) (by rw [hsome]; rfl)) H5 z dz (Same.trans s02 (Same.trans s3 sA)) ((Same.trans s02 s3).free hz3) ?_
          rw [h5, Int.zero_add]
      refine ⟨_, rfl, _, rfl, _, rfl, x, _, dx, fs, _, rfl, h1, T.cWorld.cl, noW T "elders", h3, _, rfl, ae, xs, _, _, rfl, rfl, .of hx, (by rw [Int.zero_add]; exact hp), _, rfl, (by show 1 ≤ sizeLine; decide), fun t ht => ?_⟩
      have st := same_upd (o := .tup [.int (0 + (i : Nat))]) ht
      have e1 : ([V.int (0 + (i : Nat))] : List V) = nums [i] := by
        show [V.int (0 + (i : Nat))] = [V.int (i : Nat)]
        rw [Int.zero_add]
      have lim : (nums (el E' i)).length + [V.int (0 + (i : Nat))].length ≤ sizeLine := by
        rw [nums_len]
        have z : (el E' i).length ≤ i := by
          have := nodup_len (asc_nodup (he.asc i)) (m := List.range i) fun k hk => List.mem_range.mpr (he.lt i k hk)
          rwa [List.length_range] at this
        exact len_le (by show (el E' i).length + 1 ≤ 1000; omega)
      refine ⟨p, t, _, _, rfl, rfl, .of (st _ _ hpe), .of upd_same, lim, fun h0 => ?_, fun h0 h1' => absurd h1' (by simp), fun h0 h1' g hg => ?_⟩
      · have h0' : el E' i = [] := by
          have z := congrArg List.length h0
          rw [nums_len] at z
          exact List.eq_nil_of_length_eq_zero z
        refine rest t _ st ?_
        rw [upd_same, e1]
        unfold kin
        rw [h0']
        rfl
      · refine rest g _ (same_put st hg) ?_
        rw [upd_same, e1]
        unfold kin nums
        rw [List.map_append]
    · rintro σ H2 ⟨⟨u, v, rfl⟩, s2, hn2⟩
      exact k0 (find_all hn2 (by rw [List.length_range]; exact Nat.le_refl _)) H2 (Same.trans s1 s2)
end
end K14
namespace K14
open PySem PySem.Spec PyProof.Rows L2
section
variable {P : Program} {w : World} {K : PySem.W.Frag} {mg : Str → Option Value} {base : Heap}
/-! ### NotLine(cls, first, second) -/
def lineF (a b c : V) : List (Str × V) := [("second", c), ("first", b), ("cls", a)]
def spLine (K : PySem.W.Frag) : Sp := fun vs H Q _ => ∃ (x : Addr) (a b c : V), vs = [.ref x, a, b, c] ∧ H x = some (exo x (gC K "NotLine") none) ∧
  ∀ H' d, H d = none → d ≠ x → H' x = some (exo x (gC K "NotLine") (some d)) → H' d = some (exd d (lineF a b c)) → (∀ e o, H e = some o → e ≠ x → H' e = some o) → Q .non H'
theorem scI5 : FnScope ["self", "cls", "first", "second"] ["self", "cls", "first", "second"] (defScope (ms 5 0)) := ⟨rfl, rfl, rfl, by decide +kernel, rfl, by decide +kernel, by decide +kernel⟩
theorem ok_line (T : XTxt K mg) {fd : FuncData} (F : FunD K "__init__" "NotLine.__init__" (defArgs (ms 5 0)) (defBody (ms 5 0)) (defScope (ms 5 0)) [] [] (gI K "NotLine") fd) :
    FnOk P w K mg base CX0 1 (gI K "NotLine") fd ["self", "cls", "first", "second"] (spLine K) := by
  refine F.ok scI5 (fun vs H Q E h => ?_) fun cdv A outer s H vs Q E hr h => ?_
  · obtain ⟨x, a, b, c, rfl, _⟩ := h
    rfl
  · obtain ⟨x, a, b, c, rfl, hx, k⟩ := h
    refine ⟨_, PSs.nox (pss_cons (ps_ost (pv 0) (pv 1)) (pss_cons (ps_ost (pv 0) (pv 2)) (pss_one (ps_ost (pv 0) (pv 3))))), ?_⟩
    refine ⟨_, rfl, _, rfl, x, _, rfl, T.oex, T.no "cls" (by decide), .inl ⟨hx, fun d hd hne => ?_⟩⟩
    refine ⟨_, rfl, _, rfl, x, _, rfl, T.oex, T.no "first" (by decide), .inr ⟨d, _, upd_same, by rw [upd_ne hne, upd_same], (by show 1 ≤ 900; decide), ?_⟩⟩
    refine ⟨_, rfl, _, rfl, x, _, rfl, T.oex, T.no "second" (by decide), .inr ⟨d, _, by rw [upd_ne hne.symm, upd_same], upd_same, (by show 2 ≤ 900; decide), ?_⟩⟩
    refine k _ d hd hne ?_ upd_same fun e o he hex => ?_
    · rw [upd_ne hne.symm, upd_ne hne.symm, upd_same]
    · have hed : e ≠ d := ne_of_none he hd
      rw [upd_ne hed, upd_ne hed, upd_ne hex, upd_ne hed]
      exact he
/-! ### Ladders(world, hues) -/
def laddF (x r : Addr) : List (Str × V) := [("world", .ref x), ("hues", .ref r)]
def spLadd (K : PySem.W.Frag) : Sp := fun vs H Q X => ∃ (z dz x a : Addr) (E : List (List Nat)) (hs : Hues), vs = [.ref z, .ref x, .ref a] ∧ H z = some (.ins (gC K "Ladders") dz []) ∧ WAt K H x E ∧ HAt H a hs ∧ HuesOk hs E.length ∧ Eld E ∧
  (clash E hs E.length = none → ∀ H' r, H' z = some (.ins (gC K "Ladders") dz (laddF x r)) → H' r = some (.tup (hVs hs)) → (∀ e o, H e = some o → e ≠ z → H' e = some o) → Q .non H') ∧
  ∀ c f s, clash E hs E.length = some (c, f, s) → ∀ H' d, Same H H' → H' d = some (.xd (lineF (nV c) (nV f) (nV s))) → H d = none → X (.ref (gC K "NotLine")) (some d) H'
theorem scI16 : FnScope ["self", "world", "hues", "fault"] ["self", "world", "hues"] (defScope (ms 16 0)) := ⟨rfl, rfl, rfl, by decide +kernel, rfl, by decide +kernel, by decide +kernel⟩
theorem ok_ladd (T : Txt K mg) {fd : FuncData} (F : FunD K "__init__" "Ladders.__init__" (defArgs (ms 16 0)) (defBody (ms 16 0)) (defScope (ms 16 0)) [] [] (gI K "Ladders") fd) :
    FnOk P w K mg base (L2.CX P w) 5 (gI K "Ladders") fd ["self", "world", "hues"] (spLadd K) := by
  obtain ⟨fdL, FL⟩ := T.line.ini
  have bL : Binds K fdL ["self", "cls", "first", "second"] [] := FL.bindsN fun _ _ _ _ _ _ us hl => match us, hl with | [_, _, _, _], _ => rfl
  refine F.ok scI16 (fun vs H Q E h => ?_) fun cdv A outer s H vs Q E hr h => ?_
  · obtain ⟨z, dz, x, a, E', hs, rfl, _⟩ := h
    rfl
  · obtain ⟨z, dz, x, a, E', hs, rfl, hz, hW, hA, hok, he, k0, k1⟩ := h
    refine ⟨_, pss_cons (ps_set (i := 3) scI16.nd rfl (.inl rfl) (C8.pe_c (ok_flt T) hr (by decide) rfl (pa_cons (pv 1) (pa_cons (pv 2) pa_nil))))
      (pss_cons (ps_if (pt_cmpR op_notN (pv 3) pe_non (nomark _)) (pss_one (ps_raise rfl (takes_of rfl rfl rfl rfl)
          (pmk_oex T.line.oex T.line.iC T.line.tI (ok_line T.line FL) (hr.mono (by decide)) bL .nil pass0 rfl T.line.mgC (pa_cons (pe_fld (pv 3) rfl) (pa_cons (pe_fld (pv 3) rfl) (pa_cons (pe_fld (pv 3) rfl) pa_nil)))))) pss_nil)
      (pss_cons (ps_fld (pv 0) (pv 1) rfl) (pss_one (ps_fld (pv 0) (pe_callTy call_tuple_of rfl T.tuple (by decide +kernel) (pa_cons (pv 2) pa_nil)) rfl)))), ?_⟩
    refine ⟨_, rfl, _, rfl, x, a, E', hs, rfl, hW, hA, hok, he, fun hnone H1 s1 => ?_, fun c f s hsome H1 p dp s1 hp0 hp => ?_⟩
    · refine ⟨_, rfl, rfl, _, rfl, iteF ?_⟩
      refine ⟨_, rfl, _, rfl, z, _, dz, _, rfl, s1 _ _ hz, T.cLadd.cl, T.cLadd.no "world" (by decide), (by decide), ?_⟩
      have haz : a ≠ z := fun q => by
        rw [q] at hA
        rcases hA with hA | hA
        · rw [hz] at hA; cases hA
        · rw [hz] at hA; cases hA
      have hA1 : HAt (upd H1 z (.ins (gC K "Ladders") dz (putF "world" (.ref x) []))) a hs := by
        rcases hA.same s1 with q | q
        · exact .inl (by rw [upd_ne haz]; exact q)
        · exact .inr (by rw [upd_ne haz]; exact q)
      have fin : ∀ (r : Addr) (H2 : Hp), Same (upd H1 z (.ins (gC K "Ladders") dz (putF "world" (.ref x) []))) H2 → H2 r = some (.tup (hVs hs)) → sFld K (tVar 0) (tC (.ref r)) "hues" { nx := fun _ H' => Q .non H', rt := Q }
          [some (.ref z), some (.ref x), some (.ref a), some .non] H2 := by
        intro r H2 s2 hr2
        have hzr : r ≠ z := fun q => by
          rw [q, s2 z _ upd_same] at hr2
          cases hr2
        refine ⟨_, rfl, z, _, dz, _, rfl, s2 z _ upd_same, T.cLadd.cl, T.cLadd.no "hues" (by decide), (by show 1 < 1000; decide), ?_⟩
        refine k0 hnone _ r upd_same ?_ fun e o heo hne => ?_
        · rw [upd_ne hzr]
          exact hr2
        · rw [upd_ne hne]
          exact s2 e o (by rw [upd_ne hne]; exact s1 e o heo)
      rcases hA1 with q | q
      · exact ⟨_, rfl, a, _, rfl, .inl ⟨SqL.of q, fun r hr' => fin r _ (same_upd hr') upd_same⟩⟩
      · exact ⟨_, rfl, a, _, rfl, .inr ⟨.of q, fin a _ (Same.refl _) q⟩⟩
    · refine ⟨_, rfl, rfl, _, rfl, iteT ?_⟩
      refine ⟨_, rfl, p, _, dp, _, _, rfl, hp, T.cClash.cl, T.cClash.no "cls" (by decide), rfl, _, rfl, p, _, dp, _, _, rfl, hp, T.cClash.cl, T.cClash.no "first" (by decide), rfl,
        _, rfl, p, _, dp, _, _, rfl, hp, T.cClash.cl, T.cClash.no "second" (by decide), rfl, (by show 3 ≤ 1000; decide), fun e he0 => ?_⟩
      refine ⟨e, _, _, _, rfl, upd_same, fun H2 d hd hne h2e h2d k2 => ⟨rfl, d, _, h2e, h2d, ?_, ?_⟩⟩
      · rw [upd_ne hne] at hd
        exact hd
      · have hd1 : H1 d = none := by
          rw [upd_ne hne] at hd
          exact hd
        refine k1 c f s hsome _ d (fun b o hb => ?_) upd_same (s1.free hd1)
        have hb1 := s1 b o hb
        have hbe : b ≠ e := ne_of_none hb1 he0
        rw [upd_ne (ne_of_none hb1 hd1), del_ne hbe]
        exact k2 b o (by rw [upd_ne hbe]; exact hb1) hbe
end
end K14
namespace K14
open PySem PySem.Spec PyProof.Rows L2
theorem same_mut {H H1 : Hp} {m : Addr} {o : HO} (s : Same H H1) (hm : H m = none) : Same H (upd H1 m o) := fun b u e => by
  rw [upd_ne (ne_of_none e hm)]
  exact s b u e
theorem nums_snoc (l : List Nat) (x : Nat) : nums l ++ [nV x] = nums (l ++ [x]) := by
  unfold nums
  rw [List.map_append]
  rfl
theorem nums_app (l m : List Nat) : nums l ++ nums m = nums (l ++ m) := by
  unfold nums
  rw [List.map_append]
theorem nums_take {l : List Nat} {i x : Nat} (h : l[i]? = some x) : nums (l.take i) ++ [nV x] = nums (l.take (i + 1)) := by
  rw [nums_snoc, take_more h]
theorem nums_int (l : List Nat) : nums l = (l.map fun n : Nat => (n : Int)).map V.int := by
  unfold nums
  rw [List.map_map]
  rfl
section
variable {P : Program} {w : World} {K : PySem.W.Frag} {mg : Str → Option Value} {base : Heap}
/-! ### unlike_wholes(things, high) of a right list -/
def spUnl : Sp := fun vs H Q _ => ∃ (a : Addr) (hi : Int) (l : List Nat), vs = [.ref a, .int hi] ∧ H a = some (.lst (nums l)) ∧ l.Nodup ∧ l.length ≤ 1000 ∧ (∀ k ∈ l, (k : Int) ≤ hi) ∧ ∀ H', Same H H' → Q (.bl true) H'
theorem sc18 : FnScope ["things", "high", "met", "item"] ["things", "high"] (defScope (top 18)) := ⟨rfl, rfl, rfl, by decide +kernel, rfl, by decide +kernel, by decide +kernel⟩
theorem ok_unl (T : Txt K mg) : C8.Cal P w K mg base 2 "unlike_wholes" spUnl [] := by
  refine dn_cal T.unl sc18 (fun _ _ _ _ _ _ us hl => match us, hl with | [_, _], _ => rfl) (fun vs H Q E h => ?_) fun f cdv A outer s H vs Q E hr h => ?_
  · obtain ⟨a, hi, l, rfl, _⟩ := h
    rfl
  · obtain ⟨a, hi, l, rfl, hA, nd, hl, hle, k⟩ := h
    refine ⟨_, pss_cons (ps_if (pt_not (pt_val (C8.pe_c (ok_seq T) hr (by decide) rfl (pa_cons (pv 0) pa_nil)))) pss_never pss_nil)
      (pss_cons (ps_set (i := 2) sc18.nd rfl (.inl rfl) (pe_lst pa_nil))
      (pss_cons (ps_for PassesOwn.never rfl (pi_list (pv 0)) (pg_name (i := 3) sc18.nd rfl (.inl rfl))
        (pss_cons (ps_if (PW.pt (pw_or (pt_not (pt_val (C8.pe_c (ok_whole T) hr (by decide) rfl (pa_cons (pv 3) (pa_cons pe_int (pa_cons (pv 1) pa_nil)))))) (pw_or1 (pt_cmpR op_in_seq (pv 3) (pv 2) rfl)))) pss_never pss_nil)
          (pss_one (ps_expr (pe_bm PySem.F.plainAttrs_list PySem.F.slot_list_append PySem.F.type_list_append mt_append (pv 2) (pa_cons (pv 3) pa_nil))))))
      (pss_one (ps_ret pe_bl)))), ?_⟩
    refine ⟨_, rfl, a, rfl, .inl ⟨_, hA⟩, true, rfl, iteF ?_⟩
    refine ⟨(by decide), fun m hm => ?_⟩
    have hA1 := same_upd (o := .lst []) hm a _ hA
    refine ⟨_, rfl, a, rfl, ⟨_, SqL.of hA1⟩, for_list (K := K) (a := a) (xs := nums l) (fun i σ H1 => (∃ v, σ = [some (.ref a), some (.int hi), some (.ref m), v]) ∧ Same H H1 ∧ H1 m = some (.lst (nums (l.take i))))
      ⟨⟨none, rfl⟩, same_upd hm, upd_same⟩ (fun i σ H1 _ p => SqL.of (p.2.1 a _ hA)) ?_ ?_⟩
    · rintro i y σ H1 hi' ⟨⟨v, rfl⟩, s1, h1⟩
      obtain ⟨x, hx, rfl⟩ := nums_of hi'
      have hxi := (List.getElem?_eq_some_iff.mp hx).1
      refine ⟨_, rfl, _, rfl, (x : Int), 0, hi, rfl, by omega, hle x (List.mem_of_getElem? hx), true, rfl, iteF ?_⟩
      refine ⟨_, rfl, _, rfl, m, _, rfl, .inl (SqL.of h1), rfl, nums_flat _, false, ?_, iteF ?_⟩
      · show V.bl (inV (nV x) (nums (l.take i))) = _
        rw [in_nums]
        refine congrArg V.bl ?_
        rw [List.contains_eq_mem]
        refine decide_eq_false fun hm' => ?_
        obtain ⟨j, hj, e⟩ := List.getElem_of_mem hm'
        rw [List.length_take] at hj
        have hjl : j < l.length := by omega
        have e2 : l[j]? = some x := by
          rw [List.getElem_take] at e
          rw [List.getElem?_eq_getElem hjl, e]
        have := nd_ix nd e2 hx
        omega
      · refine ⟨_, rfl, .inl ⟨rfl, _, SqL.of h1⟩, _, rfl, m, _, _, rfl, rfl, h1, ?_, ⟨_, rfl⟩, same_mut s1 hm, ?_⟩
        · rw [nums_len, List.length_take]
          exact small1000 (by omega)
        · rw [upd_same, nums_take hx]
    · rintro σ H1 ⟨⟨v, rfl⟩, s1, h1⟩
      exact k H1 s1
/-! ### entry_fault(entry, at) of a right entry -/
/-- an entry of the law's making: bases, a number of fields, no methods -/
def EntAt (H : Hp) (e : Addr) (l : List Nat) : Prop := ∃ (b m : Addr) (fl : Int), H e = some (.tup [.ref b, .int fl, .ref m]) ∧ H b = some (.lst (nums l)) ∧ H m = some (.lst []) ∧ 0 ≤ fl ∧ fl ≤ 3
theorem EntAt.same {H H' : Hp} {e : Addr} {l : List Nat} (h : EntAt H e l) (s : Same H H') : EntAt H' e l := by
  obtain ⟨b, m, fl, h1, h2, h3, h4⟩ := h
  exact ⟨b, m, fl, s _ _ h1, s _ _ h2, s _ _ h3, h4⟩
def spEnt : Sp := fun vs H Q _ => ∃ (e : Addr) (i : Nat) (l : List Nat), vs = [.ref e, nV i] ∧ EntAt H e l ∧ l.Nodup ∧ l.length ≤ 1000 ∧ (∀ k ∈ l, k < i) ∧ ∀ H', Same H H' → Q .non H'
theorem sc19 : FnScope ["entry", "at"] ["entry", "at"] (defScope (top 19)) := ⟨rfl, rfl, rfl, by decide +kernel, rfl, by decide +kernel, by decide +kernel⟩
theorem ok_ent (T : Txt K mg) : C8.Cal P w K mg base 3 "entry_fault" spEnt [] := by
  refine dn_cal T.ent sc19 (fun _ _ _ _ _ _ us hl => match us, hl with | [_, _], _ => rfl) (fun vs H Q E h => ?_) fun f cdv A outer s H vs Q E hr h => ?_
  · obtain ⟨e, i, l, rfl, _⟩ := h
    rfl
  · obtain ⟨e, i, l, rfl, hE, nd, hl, hlt, k⟩ := h
    obtain ⟨b, m, fl, h1, h2, h3, h4, h5⟩ := hE
    refine ⟨_, pss_cons (ps_if (PW.pt (pw_or (pt_not (pt_val (C8.pe_c (ok_seq T) hr (by decide) rfl (pa_cons (pv 0) pa_nil)))) (pw_or1 (pt_cmpR op_ne (pe_callB call_len_seq rfl T.len (by decide +kernel) (pa_cons (pv 0) pa_nil)) pe_int (nomark _))))) pss_never pss_nil)
      (pss_cons (ps_if (pt_not (pt_val (C8.pe_c (ok_unl T) hr (by decide) rfl (pa_cons (pe_ix ix_tup (pv 0) pe_int (fun _ _ => rfl)) (pa_cons (pe_op op_sub (pv 1) pe_int) pa_nil))))) pss_never pss_nil)
      (pss_cons (ps_if (pt_not (pt_val (C8.pe_c (ok_whole T) hr (by decide) rfl (pa_cons (pe_ix ix_tup (pv 0) pe_int (fun _ _ => rfl)) (pa_cons pe_int (pa_cons pe_int pa_nil)))))) pss_never pss_nil)
      (pss_cons (ps_if (PW.pt (pw_or (pt_not (pt_val (C8.pe_c (ok_unl T) hr (by decide) rfl (pa_cons (pe_ix ix_tup (pv 0) pe_int (fun _ _ => rfl)) (pa_cons pe_int pa_nil)))))
        (pw_or1 (pt_cmpR op_gt (pe_callB call_len_seq rfl T.len (by decide +kernel) (pa_cons (pe_ix ix_tup (pv 0) pe_int (fun _ _ => rfl)) pa_nil)) pe_int (nomark _))))) pss_never pss_nil)
      (pss_one (ps_ret pe_non))))), ?_⟩
    have a0 : atI [V.ref b, .int fl, .ref m] 0 = some (.ref b) := rfl
    have a1 : atI [V.ref b, .int fl, .ref m] 1 = some (.int fl) := rfl
    have a2 : atI [V.ref b, .int fl, .ref m] 2 = some (.ref m) := rfl
    refine ⟨_, rfl, e, rfl, .inr ⟨_, h1⟩, true, rfl, iteF ⟨_, rfl, e, _, rfl, .inr (.of h1), rfl, false, rfl, iteF ?_⟩⟩
    refine ⟨_, rfl, e, _, _, _, rfl, rfl, .of h1, a0, _, rfl, _, _, rfl, rfl, b, _, l, rfl, h2, nd, hl, fun k hk => by have := hlt k hk; omega, fun H1 s1 => ⟨true, rfl, iteF ?_⟩⟩
    refine ⟨_, rfl, e, _, _, _, rfl, rfl, .of (s1 _ _ h1), a1, fl, 0, 3, rfl, h4, h5, true, rfl, iteF ?_⟩
    refine ⟨_, rfl, e, _, _, _, rfl, rfl, .of (s1 _ _ h1), a2, m, 5, [], rfl, s1 _ _ h3, List.nodup_nil, (by decide), fun k hk => (by cases hk), fun H2 s2 => ⟨true, rfl, iteF ?_⟩⟩
    refine ⟨_, rfl, e, _, _, _, rfl, rfl, .of (s2 _ _ (s1 _ _ h1)), a2, m, _, rfl, .inl (SqL.of (s2 _ _ (s1 _ _ h3))), _, _, rfl, rfl, false, rfl, iteF ?_⟩
    exact k H2 (Same.trans s1 s2)
end
end K14
namespace K14
open PySem PySem.Spec PyProof.Rows L2
/-! ### how long the rows are -/
theorem below_len {l : List Nat} {i : Nat} (nd : l.Nodup) (h : ∀ k ∈ l, k < i) : l.length ≤ i := by
  have := nodup_len nd (m := List.range i) fun k hk => List.mem_range.mpr (h k hk)
  rwa [List.length_range] at this
theorem grp_len {rows : List (List Nat)} {m : Nat} : ∀ {own : List Nat}, (∀ b ∈ own, (el rows b).length ≤ m) → (grp rows own).length ≤ own.length * (m + 1)
  | [], _ => by simp [grp]
  | b :: r, h => by
    have ih := grp_len (rows := rows) (m := m) (own := r) fun c hc => h c (List.mem_cons_of_mem _ hc)
    have hb := h b List.mem_cons_self
    have e : grp rows (b :: r) = (b :: rows.getD b []) ++ grp rows r := rfl
    have hb' : (rows.getD b []).length ≤ m := hb
    rw [e, List.length_append, List.length_cons, List.length_cons, Nat.succ_mul]
    omega
theorem ok_take {bs : List (List Nat)} (ok : Ok bs) (i : Nat) : Ok (bs.take i) where
  lt := fun j own h => by
    rw [List.getElem?_take] at h
    split at h
    · exact ok.lt j own h
    · cases h
  nd := fun j own h => by
    rw [List.getElem?_take] at h
    split at h
    · exact ok.nd j own h
    · cases h
theorem el_len {bs : List (List Nat)} (ok : Ok bs) (i : Nat) : (el (eldersOf bs) i).length ≤ i := below_len (asc_nodup ((eld_of ok).asc i)) ((eld_of ok).lt i)
theorem grp_small {bs : List (List Nat)} (ok : Ok bs) (hn : bs.length ≤ 5) {i : Nat} {own : List Nat} (h : bs[i]? = some own) (j : Nat) : (grp (eldersOf (bs.take i)) (own.take j)).length ≤ 20 := by
  have hi := (List.getElem?_eq_some_iff.mp h).1
  have h1 : own.length ≤ 4 := by
    have := below_len (ok.nd i own h) (ok.lt i own h)
    omega
  have h2 : (own.take j).length ≤ 4 := by
    rw [List.length_take]
    omega
  have h3 := grp_len (rows := eldersOf (bs.take i)) (m := 4) (own := own.take j) fun b hb => by
    have hb' := ok.lt i own h b (List.mem_of_mem_take hb)
    have := el_len (ok_take ok i) b
    omega
  have h4 : (own.take j).length * (4 + 1) ≤ 4 * (4 + 1) := Nat.mul_le_mul_right _ h2
  omega
theorem el_old {rows : List (List Nat)} {own : List Nat} {j : Nat} (h : j < rows.length) : el (stepE rows own) j = el rows j := by
  unfold el stepE
  rw [List.getD_eq_getElem?_getD, List.getD_eq_getElem?_getD, List.getElem?_append_left h]
theorem el_new {rows : List (List Nat)} {own : List Nat} : el (stepE rows own) rows.length = srt (grp rows own) := by
  refine el_some ?_
  unfold stepE
  rw [List.getElem?_append_right (Nat.le_refl _), Nat.sub_self]
  rfl
/-- a list of tuples of numbers -/
def RowsL (H : Hp) (a : Addr) (E : List (List Nat)) : Prop := ∃ ps : List Addr, H a = some (.lst (ps.map V.ref)) ∧ ps.length = E.length ∧ ∀ (i : Nat) p, ps[i]? = some p → H p = some (.tup (nums (el E i)))
theorem RowsL.same {H H' : Hp} {a : Addr} {E : List (List Nat)} (h : RowsL H a E) (s : Same H H') : RowsL H' a E := by
  obtain ⟨ps, h1, h2, h3⟩ := h
  exact ⟨ps, s _ _ h1, h2, fun i p e => s _ _ (h3 i p e)⟩
theorem RowsL.at {H : Hp} {a : Addr} {E : List (List Nat)} (h : RowsL H a E) {i : Nat} (hi : i < E.length) : ∃ (xs : List V) (p : Addr), H a = some (.lst xs) ∧ atI xs (i : Int) = some (.ref p) ∧ H p = some (.tup (nums (el E i))) := by
  obtain ⟨ps, h1, h2, h3⟩ := h
  have hp : i < ps.length := by omega
  refine ⟨_, ps[i], h1, atI_nat ?_, h3 i _ (List.getElem?_eq_getElem hp)⟩
  rw [List.getElem?_map, List.getElem?_eq_getElem hp]
  rfl
theorem RowsL.len {H : Hp} {a : Addr} {E : List (List Nat)} {xs : List V} (h : RowsL H a E) (e : H a = some (.lst xs)) : xs.length = E.length := by
  obtain ⟨ps, h1, h2, h3⟩ := h
  rw [e] at h1
  cases h1
  rw [List.length_map, h2]
/-- one row more -/
theorem RowsL.snoc {H : Hp} {a t : Addr} {rows : List (List Nat)} {own : List Nat} {xs : List V} (h : RowsL H a rows) (e : H a = some (.lst xs)) (ht : H t = some (.tup (nums (srt (grp rows own))))) :
    RowsL (upd H a (.lst (xs ++ [V.ref t]))) a (stepE rows own) := by
  obtain ⟨ps, h1, h2, h3⟩ := h
  rw [e] at h1
  cases h1
  have na : ∀ {p : Addr} {l : List V}, H p = some (.tup l) → p ≠ a := fun {p l} hp q => by
    rw [q, e] at hp
    cases hp
  refine ⟨ps ++ [t], by rw [upd_same, List.map_append]; rfl, ?_, fun i p hp => ?_⟩
  · unfold stepE
    rw [List.length_append, List.length_append, h2]
    rfl
  · by_cases hi : i < ps.length
    · rw [List.getElem?_append_left hi] at hp
      have q := h3 i p hp
      rw [upd_ne (na q), q, el_old (by omega)]
    · have hlt := (List.getElem?_eq_some_iff.mp hp).1
      rw [List.length_append] at hlt
      have hie : i = ps.length := by
        have : [t].length = 1 := rfl
        omega
      subst hie
      rw [List.getElem?_append_right (Nat.le_refl _), Nat.sub_self] at hp
      have ep : t = p := Option.some.inj hp
      subst ep
      rw [upd_ne (na ht), ht, h2, el_new]
theorem el_getD {bs : List (List Nat)} {i : Nat} (h : i < bs.length) : bs[i]? = some (el bs i) := by
  unfold el
  rw [List.getD_eq_getElem?_getD, List.getElem?_eq_getElem h]
  rfl
section
variable {P : Program} {w : World} {K : PySem.W.Frag} {mg : Str → Option Value} {base : Heap}
/-! ### elder_rows(bases) -/
def spEld : Sp := fun vs H Q _ => ∃ (a : Addr) (bs : List (List Nat)), vs = [.ref a] ∧ RowsT H a bs ∧ Ok bs ∧ bs.length ≤ 5 ∧ ∀ H' r, Same H H' → RowsT H' r (eldersOf bs) → Q (.ref r) H'
theorem sc20 : FnScope ["bases", "rows", "own", "found", "base"] ["bases"] (defScope (top 20)) := ⟨rfl, rfl, rfl, by decide +kernel, rfl, by decide +kernel, by decide +kernel⟩
theorem ok_eld (T : Txt K mg) : C8.Cal P w K mg base 1 "elder_rows" spEld [] := by
  refine dn_cal T.eld sc20 (fun _ _ _ _ _ _ us hl => match us, hl with | [_], _ => rfl) (fun vs H Q E h => ?_) fun f cdv A outer s H vs Q E hr h => ?_
  · obtain ⟨a, bs, rfl, _⟩ := h
    rfl
  · obtain ⟨a, bs, rfl, hB, ok, hn, k⟩ := h
    refine ⟨_, pss_cons (ps_set (i := 1) sc20.nd rfl (.inl rfl) (pe_lst pa_nil))
      (pss_cons (ps_for PassesOwn.never rfl (pi_tup (pv 0)) (pg_name (i := 2) sc20.nd rfl (.inl rfl))
        (pss_cons (ps_set (i := 3) sc20.nd rfl (.inl rfl) (pe_lst pa_nil))
        (pss_cons (ps_for PassesOwn.never rfl (pi_tup (pv 2)) (pg_name (i := 4) sc20.nd rfl (.inl rfl))
          (pss_one (ps_set (i := 3) sc20.nd rfl (.inl rfl) (pe_op op_cat (pe_op op_cat (pv 3) (pe_lst (pa_cons (pv 4) pa_nil))) (pe_callTy call_list_of rfl T.list (by decide +kernel) (pa_cons (pe_ix ix_list (pv 1) (pv 4) (fun _ _ => rfl)) pa_nil))))))
        (pss_one (ps_expr (pe_bm PySem.F.plainAttrs_list PySem.F.slot_list_append PySem.F.type_list_append mt_append (pv 1)
          (pa_cons (pe_callTy call_tuple_of rfl T.tuple (by decide +kernel) (pa_cons (pe_callB (cr_sortedSet rfl) rfl T.sorted (by decide +kernel) (pa_cons (pe_callTy (cr_setL rfl) rfl T.set (by decide +kernel) (pa_cons (pv 3) pa_nil)) pa_nil)) pa_nil)) pa_nil)))))))
      (pss_one (ps_ret (pe_callTy call_tuple_of rfl T.tuple (by decide +kernel) (pa_cons (pv 1) pa_nil))))), ?_⟩
    obtain ⟨ps, hA, hpl, hps⟩ := id hB
    refine ⟨(by decide), fun m hm => ?_⟩
    have s0 := same_upd (o := .lst []) hm
    refine ⟨_, rfl, a, rfl, ⟨_, .of (s0 _ _ hA)⟩, for_tup (K := K) (a := a) (xs := ps.map V.ref) (fun i σ H1 => (∃ u v v', σ = [some (.ref a), some (.ref m), u, v, v']) ∧ Same H H1 ∧ RowsL H1 m (eldersOf (bs.take i)))
      ⟨⟨none, none, none, rfl⟩, s0, [], upd_same, rfl, fun i p hp => by simp at hp⟩ (fun i σ H1 _ p => .of (p.2.1 _ _ hA)) ?_ ?_⟩
    · rintro i y σ H1 hi ⟨⟨u, v, v', rfl⟩, s1, hR⟩
      rw [List.getElem?_map] at hi
      cases hp : ps[i]? with
      | none => rw [hp] at hi; cases hi
      | some p =>
        rw [hp] at hi
        cases hi
        have hil : i < bs.length := by
          rw [← hpl]
          exact (List.getElem?_eq_some_iff.mp hp).1
        have hown := el_getD hil
        generalize el bs i = own at hown
        have hpo : H p = some (.tup (nums own)) := by
          have q := hps i p hp
          rw [el_some hown] at q
          exact q
        have hlE : (eldersOf (bs.take i)).length = i := elders_len bs i (Nat.le_of_lt hil)
        refine ⟨(by decide), fun fa hfa => ?_⟩
        have s1' := same_upd (o := .lst []) hfa
        refine ⟨_, rfl, p, rfl, ⟨_, .of (s1' _ _ (s1 _ _ hpo))⟩, for_tup (K := K) (a := p) (xs := nums own) (fun j σ H2 => (∃ (g : Addr) (v : Option V), σ = [some (.ref a), some (.ref m), some (.ref p), some (.ref g), v] ∧ H2 g = some (.lst (nums (grp (eldersOf (bs.take i)) (own.take j))))) ∧ Same H1 H2)
          ⟨⟨fa, _, rfl, by rw [upd_same]; rfl⟩, s1'⟩ (fun j σ H2 _ q => .of (q.2 _ _ (s1 _ _ hpo))) ?_ ?_⟩
        · rintro j y σ H2 hj ⟨⟨g, v, rfl, hg⟩, s2⟩
          obtain ⟨b, hb, rfl⟩ := nums_of hj
          have hbi := ok.lt i own hown b (List.mem_of_getElem? hb)
          obtain ⟨xs, q, hx, hq, hqe⟩ := (hR.same s2).at (i := b) (by omega)
          have b1 := grp_small ok hn hown j
          have b2 : (el (eldersOf (bs.take i)) b).length ≤ 5 := by
            have := el_len (ok_take ok i) b
            omega
          refine ⟨_, rfl, _, rfl, (by show 1 ≤ sizeLine; decide), fun t1 ht1 => ?_⟩
          have t1s := same_upd (o := .lst [nV b]) ht1
          refine ⟨g, t1, _, _, rfl, rfl, t1s _ _ hg, upd_same, ?_, fun t2 ht2 => ?_⟩
          · rw [nums_len]
            exact len_le (by show _ + 1 ≤ 1000; omega)
          · have t2s := same_upd (o := .lst (nums (grp (eldersOf (bs.take i)) (own.take j)) ++ [nV b])) ht2
            have s3 := Same.trans t1s t2s
            refine ⟨_, rfl, _, rfl, m, xs, _, _, rfl, rfl, SqL.of (s3 _ _ hx), hq, q, _, rfl, .inr (.of (s3 _ _ hqe)), fun t3 ht3 => ?_⟩
            have t3s := same_upd (o := .lst (nums (el (eldersOf (bs.take i)) b))) ht3
            refine ⟨t2, t3, _, _, rfl, rfl, t3s _ _ upd_same, upd_same, ?_, fun t4 ht4 => ?_⟩
            · rw [List.length_append, nums_len, nums_len]
              exact len_le (by show (_ + 1) + _ ≤ 1000; omega)
            · refine ⟨⟨t4, _, rfl, ?_⟩, Same.trans s2 (Same.trans s3 (same_put t3s ht4))⟩
              rw [upd_same, grp_more hb, nums_snoc, nums_app]
              rfl
        · rintro σ H2 ⟨⟨g, v, rfl, hg⟩, s2⟩
          rw [nums_len, List.take_length] at hg
          have b1 := grp_small ok hn hown own.length
          rw [List.take_length] at b1
          have hR2 := hR.same s2
          obtain ⟨pm, hm2, hm3, _⟩ := id hR2
          refine ⟨_, rfl, .inl ⟨rfl, _, SqL.of hm2⟩, _, rfl, g, (grp (eldersOf (bs.take i)) own).map (fun n : Nat => (n : Int)), rfl, SqL.of (by rw [hg, nums_int]), by rw [List.length_map]; omega, fun t1 c ht1 hc => ?_⟩
          have t1s := same_upd (o := SetO w t1 (fun j => decide (j ∈ (grp (eldersOf (bs.take i)) own).map fun n : Nat => (n : Int))) c) ht1
          refine ⟨t1, _, c, rfl, upd_same, by rw [List.length_map] at hc; omega, fun ns t2 has hmem hlen ht2 => ?_⟩
          have ens := srt_int (l := grp (eldersOf (bs.take i)) own) has fun z => by
            rw [hmem, decide_eq_true_iff, List.mem_map]
            constructor
            · rintro ⟨n, h1, h2⟩; exact ⟨n, h1, h2.symm⟩
            · rintro ⟨n, h1, h2⟩; exact ⟨n, h1, h2.symm⟩
          subst ens
          have t2s := same_upd (o := .lst (((srt (grp (eldersOf (bs.take i)) own)).map fun n : Nat => (n : Int)).map V.int)) ht2
          refine ⟨t2, _, rfl, .inl ⟨SqL.of upd_same, fun t3 ht3 => ?_⟩⟩
          have t3s := same_upd (o := .tup (((srt (grp (eldersOf (bs.take i)) own)).map fun n : Nat => (n : Int)).map V.int)) ht3
          have s4 := Same.trans t1s (Same.trans t2s t3s)
          refine ⟨m, _, _, rfl, rfl, s4 _ _ hm2, ?_, ?_⟩
          · rw [List.length_map, hm3, hlE]
            exact small1000 (by omega)
          · refine ⟨⟨_, _, _, rfl⟩, same_mut (Same.trans s1 (Same.trans s2 s4)) hm, ?_⟩
            rw [elders_more hown]
            exact (hR2.same s4).snoc (s4 _ _ hm2) (by rw [upd_same, nums_int])
    · rintro σ H1 ⟨⟨u, v, v', rfl⟩, s1, hR⟩
      rw [List.length_map, hpl, List.take_length] at hR
      obtain ⟨qs, h1, h2, h3⟩ := hR
      refine ⟨_, rfl, m, _, rfl, .inl ⟨SqL.of h1, fun r hr' => k _ r (same_put s1 hr') ⟨qs, upd_same, h2, fun i p hp => same_upd hr' _ _ (h3 i p hp)⟩⟩⟩
end
end K14
namespace K14
open PySem PySem.Spec PyProof.Rows L2
/-- tuple(xs), tuple(t) -/
def rTup (K : PySem.W.Frag) : List V → Hp → VK → Prop := fun xs H Q => ∃ p ys, xs = [V.ref p] ∧ ((SqL K H p ys ∧ ∀ l, H l = none → Q (.ref l) (upd H l (.tup ys))) ∨ (SqT K H p ys ∧ Q (.ref p) H))
theorem cr_tup {X : Cx} : CallR X (.type "tuple") (rTup X.K) := call_tuple_of
/-- the outer block of heir_rows -/
def scO21 : Scope := { kind := .function, names := [(".0", .local), ("one", .cell), ("tuple", .globalImplicit), ("elders", .free), ("many", .free)], isGenerator := false, isCoroutine := false }
section
variable {P : Program} {w : World} {K : PySem.W.Frag} {mg : Str → Option Value} {base : Heap}
/-! ### heir_rows(elders): some tuple -/
def spHei : Sp := fun vs H Q _ => ∃ (a : Addr) (E : List (List Nat)), vs = [.ref a] ∧ RowsT H a E ∧ E.length ≤ 1000 ∧ ∀ H' r, Same H H' → Q (.ref r) H'
theorem sc21 : FnScope ["elders", "many", "one", "c"] ["elders"] (defScope (top 21)) := ⟨rfl, rfl, rfl, by decide +kernel, rfl, by decide +kernel, by decide +kernel⟩
theorem ok_hei (T : Txt K mg) : C8.Cal P w K mg base 1 "heir_rows" spHei [] := by
  refine dn_cal T.hei sc21 (fun _ _ _ _ _ _ us hl => match us, hl with | [_], _ => rfl) (fun vs H Q E h => ?_) fun f cdv A outer s H vs Q E hr h => ?_
  · obtain ⟨a, E', rfl, _⟩ := h
    rfl
  · obtain ⟨a, E', rfl, hE, hn, k⟩ := h
    refine ⟨_, pss_cons (ps_set (i := 1) sc21.nd rfl (.inr rfl) (pe_callTy cr_rng1 rfl T.range (by decide +kernel) (pa_cons (pe_callB call_len_seq rfl T.len (by decide +kernel) (pa_cons (pv 0) pa_nil)) pa_nil)))
      (pss_one (ps_ret (pe_callTy call_tuple_of rfl T.tuple (by decide +kernel) (pa_cons
        (pe_lc (own := [("one", 2)]) (g := gName 2) (tt := tYes) (te := tCB (rTup K) (tCons (tLc (iRngO (tVar 1)) (gName 3) (tTest (tOp (rIn K false) (tVar 2) (tOp (rIxT K) (tVar 0) (tVar 3)))) (tVar 3) [3]) tNil)) rfl sc21.nd (pi_rngO (pv 1))
          (blkOk_by (own := [("one", 2)]) (N := ["elders", "many", "one", "c"]) (sc := defScope (top 21)) (by decide +kernel))
          (fun _ _ _ _ _ => pg_name (i := 2) sc21.nd rfl (.inr rfl)) (fun _ _ _ _ _ => pts_nil)
          (fun _ _ _ _ _ => pe_callTy cr_tup rfl T.tuple (by decide +kernel) (pa_cons
            (pe_lc (own := [("c", 3)]) (g := gName 3) (tt := tTest (tOp (rIn K false) (tVar 2) (tOp (rIxT K) (tVar 0) (tVar 3)))) (te := tVar 3) rfl sc21.nd (pi_rngO (pv 1))
              (blkOk_by (own := [("c", 3)]) (N := ["elders", "many", "one", "c"]) (sc := relS scO21 (defScope (top 21))) (by decide +kernel))
              (fun _ _ _ _ _ => pg_name (i := 3) sc21.nd rfl (.inl rfl)) (fun _ _ _ _ _ => pts_one (pt_cmpR op_in_seq (pv 2) (pe_ix ix_tup (pv 0) (pv 3) (fun _ _ => rfl)) rfl)) (fun _ _ _ _ _ => pv 3)) pa_nil))) pa_nil)))), ?_⟩
    obtain ⟨ps, hA, hpl, hps⟩ := id hE
    refine ⟨_, rfl, a, _, rfl, .inr (.of hA), _, rfl, fun mny hm => ?_⟩
    rw [List.length_map, hpl]
    have s0 := same_upd (o := .rng 0 (E'.length : Nat)) hm
    have sm : (upd H mny (.rng 0 (E'.length : Nat))) mny = some (.rng 0 (E'.length : Nat)) := upd_same
    generalize upd H mny (.rng 0 (E'.length : Nat)) = H0 at s0 sm
    have bd : -(2 ^ 62) ≤ (0 : Int) ∧ (0 : Int) < 2 ^ 62 ∧ -(2 ^ 62) ≤ ((E'.length : Nat) : Int) ∧ ((E'.length : Nat) : Int) < 2 ^ 62 := by omega
    have bn : (((E'.length : Nat) : Int) - 0).toNat = E'.length := by omega
    refine ⟨_, rfl, mny, 0, _, rfl, sm, bd, fun D hD => ?_⟩
    rw [bn]
    refine lc_range (lo := 0) (n := E'.length) (fun i H1 => Same H0 H1 ∧ ∃ acc, H1 D = some (.lst acc) ∧ acc.length ≤ i) ⟨same_upd hD, [], upd_same, Nat.le_refl _⟩ ?_ ?_
    · rintro i H1 hi ⟨s1, acc, hacc, hl⟩
      refine ⟨rfl, _, rfl, mny, 0, _, rfl, s1 _ _ sm, bd, fun D2 hD2 => ?_⟩
      rw [bn]
      refine lc_range (lo := 0) (n := E'.length) (fun j H2 => Same H1 H2 ∧ ∃ ac2, H2 D2 = some (.lst ac2) ∧ ac2.length ≤ j) ⟨same_upd hD2, [], upd_same, Nat.le_refl _⟩ ?_ ?_
      · rintro j H2 hj ⟨s2, ac2, hac2, hl2⟩
        obtain ⟨xs, p, _, hx, hp, hpe⟩ := (hE.same (Same.trans s0 (Same.trans s1 s2))).at hj
        refine ⟨rfl, _, rfl, _, rfl, _, rfl, a, xs, _, _, rfl, rfl, .of hx, (by rw [Int.zero_add]; exact hp), p, _, rfl, .inr (.of hpe), rfl, nums_flat _, _, rfl, ?_⟩
        refine ite2 (fun _ => ⟨_, rfl, ac2, hac2, small1000 (by omega), same_mut s2 hD2, _, upd_same, ?_⟩) fun _ => ⟨s2, ac2, hac2, Nat.le_succ_of_le hl2⟩
        rw [List.length_append]
        exact Nat.succ_le_succ hl2
      · rintro H2 ⟨s2, ac2, hac2, hl2⟩
        refine ⟨D2, _, rfl, .inl ⟨SqL.of hac2, fun l hl3 => ?_⟩⟩
        have s3 := same_upd (o := .tup ac2) hl3
        refine ⟨acc, s3 _ _ (s2 _ _ hacc), small1000 (by omega), same_mut (Same.trans s1 (Same.trans s2 s3)) hD, _, upd_same, ?_⟩
        rw [List.length_append]
        exact Nat.succ_le_succ hl
    · rintro H1 ⟨s1, acc, hacc, hl⟩
      exact ⟨D, _, rfl, .inl ⟨SqL.of hacc, fun r hr' => k _ r (same_put (Same.trans s0 s1) hr')⟩⟩
end
end K14
namespace K14
open PySem PySem.Spec PyProof.Rows L2
/-- all but x stands -/
def Bx (x : Addr) (H H' : Hp) : Prop := ∀ b o, H b = some o → b ≠ x → H' b = some o
theorem Bx.of {x : Addr} {H H' : Hp} (s : Same H H') : Bx x H H' := fun b o e _ => s b o e
theorem Bx.trans {x : Addr} {H H1 H2 : Hp} (a : Bx x H H1) (b : Bx x H1 H2) : Bx x H H2 := fun c o e hc => b c o (a c o e hc) hc
theorem Bx.upd {x : Addr} {H : Hp} {o : HO} : Bx x H (upd H x o) := fun b u e hb => by
  rw [upd_ne hb]
  exact e
theorem RowsT.but {H H' : Hp} {x a C dx : Addr} {fs : List (Str × V)} {E : List (List Nat)} (h : RowsT H a E) (hx : H x = some (.ins C dx fs)) (s : Bx x H H') : RowsT H' a E := by
  have ne : ∀ {b : Addr} {l : List V}, H b = some (.tup l) → b ≠ x := fun {b l} e q => by
    rw [q, hx] at e
    cases e
  obtain ⟨ps, h1, h2, h3⟩ := h
  exact ⟨ps, s _ _ h1 (ne h1), h2, fun i p e => s _ _ (h3 i p e) (ne (h3 i p e))⟩
/-- the world's bases -/
def WBs (K : PySem.W.Frag) (H : Hp) (x : Addr) (bs : List (List Nat)) : Prop := ∃ (dx ab : Addr) (fs : List (Str × V)), H x = some (.ins (gC K "World") dx fs) ∧ List.lookup ("bases" : Str) fs = some (V.ref ab) ∧ RowsT H ab bs
theorem WBs.same {K : PySem.W.Frag} {H H' : Hp} {x : Addr} {bs : List (List Nat)} (h : WBs K H x bs) (s : Same H H') : WBs K H' x bs := by
  obtain ⟨dx, ab, fs, h1, h2, h3⟩ := h
  exact ⟨dx, ab, fs, s _ _ h1, h2, h3.same s⟩
/-- the law's rows: entries by their bases -/
def EntsAt (H : Hp) (c : Addr) (bs : List (List Nat)) : Prop := ∃ es : List Addr, H c = some (.lst (es.map V.ref)) ∧ es.length = bs.length ∧ ∀ (i : Nat) e, es[i]? = some e → EntAt H e (el bs i)
theorem EntsAt.same {H H' : Hp} {c : Addr} {bs : List (List Nat)} (h : EntsAt H c bs) (s : Same H H') : EntsAt H' c bs := by
  obtain ⟨es, h1, h2, h3⟩ := h
  exact ⟨es, s _ _ h1, h2, fun i e q => (h3 i e q).same s⟩
/-- triples that World makes of them -/
def TriL (H : Hp) (a : Addr) (bs : List (List Nat)) (tr : List (Addr × V × V)) : Prop := ∃ ts : List Addr, H a = some (.lst (ts.map V.ref)) ∧ ts.length = tr.length ∧
  ∀ (i : Nat) t y, ts[i]? = some t → tr[i]? = some y → H t = some (.tup [.ref y.1, y.2.1, y.2.2]) ∧ H y.1 = some (.tup (nums (el bs i)))
theorem TriL.same {H H' : Hp} {a : Addr} {bs : List (List Nat)} {tr : List (Addr × V × V)} (h : TriL H a bs tr) (s : Same H H') : TriL H' a bs tr := by
  obtain ⟨ts, h1, h2, h3⟩ := h
  exact ⟨ts, s _ _ h1, h2, fun i t y e1 e2 => ⟨s _ _ (h3 i t y e1 e2).1, s _ _ (h3 i t y e1 e2).2⟩⟩
theorem TriL.but {H H' : Hp} {x a C dx : Addr} {fs : List (Str × V)} {bs : List (List Nat)} {tr : List (Addr × V × V)} (h : TriL H a bs tr) (hx : H x = some (.ins C dx fs)) (s : Bx x H H') : TriL H' a bs tr := by
  have ne : ∀ {b : Addr} {o : HO}, H b = some o → o ≠ .ins C dx fs → b ≠ x := fun {b o} e n q => by
    rw [q, hx] at e
    exact n (Option.some.inj e).symm
  obtain ⟨ts, h1, h2, h3⟩ := h
  refine ⟨ts, s _ _ h1 (ne h1 fun z => nomatch z), h2, fun i t y e1 e2 => ?_⟩
  obtain ⟨q1, q2⟩ := h3 i t y e1 e2
  exact ⟨s _ _ q1 (ne q1 fun z => nomatch z), s _ _ q2 (ne q2 fun z => nomatch z)⟩
theorem TriL.snoc {H : Hp} {a t : Addr} {bs : List (List Nat)} {tr : List (Addr × V × V)} {xs : List V} {y : Addr × V × V} (h : TriL H a bs tr) (e : H a = some (.lst xs)) (ht : H t = some (.tup [.ref y.1, y.2.1, y.2.2])) (hb : H y.1 = some (.tup (nums (el bs tr.length)))) :
    TriL (upd H a (.lst (xs ++ [V.ref t]))) a bs (tr ++ [y]) := by
  obtain ⟨ts, h1, h2, h3⟩ := h
  rw [e] at h1
  cases h1
  have na : ∀ {p : Addr} {l : List V}, H p = some (.tup l) → p ≠ a := fun {p l} hp q => by
    rw [q, e] at hp
    cases hp
  refine ⟨ts ++ [t], by rw [upd_same, List.map_append]; rfl, by rw [List.length_append, List.length_append, h2]; rfl, fun i u z hu hz => ?_⟩
  by_cases hi : i < ts.length
  · rw [List.getElem?_append_left hi] at hu
    rw [List.getElem?_append_left (by omega)] at hz
    obtain ⟨q1, q2⟩ := h3 i u z hu hz
    rw [upd_ne (na q1), upd_ne (na q2)]
    exact ⟨q1, q2⟩
  · have hlt := (List.getElem?_eq_some_iff.mp hu).1
    rw [List.length_append] at hlt
    have hie : i = ts.length := by
      have : [t].length = 1 := rfl
      omega
    subst hie
    rw [List.getElem?_append_right (Nat.le_refl _), Nat.sub_self] at hu
    rw [List.getElem?_append_right (by omega), h2, Nat.sub_self] at hz
    cases Option.some.inj hu
    cases Option.some.inj hz
    rw [h2, upd_ne (na ht), upd_ne (na hb)]
    exact ⟨ht, hb⟩
section
variable {P : Program} {w : World} {K : PySem.W.Frag} {mg : Str → Option Value} {base : Heap}
/-! ### World(classes) -/
def spWorld (K : PySem.W.Frag) : Sp := fun vs H Q _ => ∃ (x dx c : Addr) (bs : List (List Nat)), vs = [.ref x, .ref c] ∧ H x = some (.ins (gC K "World") dx []) ∧ EntsAt H c bs ∧ Ok bs ∧ 1 ≤ bs.length ∧ bs.length ≤ 5 ∧
  ∀ H', Bx x H H' → WAt K H' x (eldersOf bs) → WBs K H' x bs → Q .non H'
abbrev nW : List Str := ["self", "classes", "rows", "at", "entry", "word", "row"]
theorem scI22 : FnScope nW ["self", "classes"] (defScope (ms 22 0)) := ⟨rfl, rfl, rfl, by decide +kernel, rfl, by decide +kernel, by decide +kernel⟩
abbrev tCol (K : PySem.W.Frag) (c : Int) : TE := tCB (rTup K) (tCons (tLc (iList K (tVar 2)) (gName 6) tYes (tOp (rIxT K) (tVar 6) (tC (.int c))) [6]) tNil)
/-- a column of the triples -/
theorem col {c : Int} {sel : Addr × V × V → V} (hsel : ∀ y : Addr × V × V, atI [V.ref y.1, y.2.1, y.2.2] c = some (sel y)) {H1 : Hp} {rw_ : Addr} {bs : List (List Nat)} {tr : List (Addr × V × V)} (hT : TriL H1 rw_ bs tr) (hn : tr.length ≤ 1000)
    {v0 v1 v3 v4 v5 v6 : Option V} {Q' : VK} (h : ∀ H2 q, Same H1 H2 → H2 q = some (.tup (tr.map sel)) → Q' (.ref q) H2) : tCol K c [v0, v1, some (.ref rw_), v3, v4, v5, v6] H1 Q' := by
  obtain ⟨ts, h1, h2, h3⟩ := id hT
  refine ⟨_, rfl, rw_, rfl, ⟨_, SqL.of h1⟩, fun D hD => ?_⟩
  refine lc_list (K := K) (a := rw_) (xs := ts.map V.ref) (fun i H2 => Same H1 H2 ∧ H2 D = some (.lst ((tr.map sel).take i))) ⟨same_upd hD, upd_same⟩ (fun i H2 _ p => SqL.of (p.1 _ _ h1)) ?_ ?_
  · rintro i y H2 hi ⟨s2, hacc⟩
    rw [List.getElem?_map] at hi
    cases ht : ts[i]? with
    | none => rw [ht] at hi; cases hi
    | some t =>
      rw [ht] at hi
      cases hi
      have hit := (List.getElem?_eq_some_iff.mp ht).1
      have hiy : tr[i]? = some (tr[i]'(by omega)) := List.getElem?_eq_getElem (by omega)
      generalize tr[i]'(by omega) = y at hiy
      have q1 := (h3 i t y ht hiy).1
      refine ⟨rfl, _, rfl, t, _, c, _, rfl, rfl, .of (s2 _ _ q1), hsel y, _, hacc, small1000 (by rw [List.length_take, List.length_map]; omega), same_mut s2 hD, ?_⟩
      rw [upd_same, take_more (x := sel y) (by rw [List.getElem?_map, hiy]; rfl)]
  · rintro H2 ⟨s2, hacc⟩
    rw [List.length_map, h2, ← List.length_map (as := tr) sel, List.take_length] at hacc
    refine ⟨D, _, rfl, .inl ⟨SqL.of hacc, fun q hq => h _ q (same_put s2 hq) upd_same⟩⟩
theorem mk_world (T : Txt K mg) : C8.Mak P w K mg base 4 "World" (gC K "World") (spWorld K) [] := by
  refine ct_mak T.cWorld scI22 (fun _ _ _ _ _ _ us hl => match us, hl with | [_, _], _ => rfl) (fun vs H Q E h => ?_) fun f cdv A outer s H vs Q E hr h => ?_
  · obtain ⟨x, dx, c, bs, rfl, _⟩ := h
    rfl
  · obtain ⟨x, dx, c, bs, rfl, hx, hE, ok, hn1, hn5, k⟩ := h
    refine ⟨_, pss_cons (ps_if (PW.pt (pw_or (pt_not (pt_val (C8.pe_c (ok_seq T) hr (by decide) rfl (pa_cons (pv 1) pa_nil))))
        (pw_or1 (pt_not (pt_chain op_le op_le pe_int (pe_callB call_len_seq rfl T.len (by decide +kernel) (pa_cons (pv 1) pa_nil)) pe_int))))) pss_never pss_nil)
      (pss_cons (ps_set (i := 2) scI22.nd rfl (.inl rfl) (pe_lst pa_nil))
      (pss_cons (ps_for PassesOwn.never rfl (pi_enum rfl T.enumerate (pa_cons (pv 1) pa_nil)) (pg_tup rfl (pgs_cons (pg_name (i := 3) scI22.nd rfl (.inl rfl)) (pgs_cons (pg_name (i := 4) scI22.nd rfl (.inl rfl)) pgs_nil)))
        (pss_cons (ps_set (i := 5) scI22.nd rfl (.inl rfl) (C8.pe_c (ok_ent T) hr (by decide) rfl (pa_cons (pv 4) (pa_cons (pv 3) pa_nil))))
        (pss_cons (ps_if (pt_cmpR op_notN (pv 5) pe_non (nomark _)) pss_never pss_nil)
        (pss_one (ps_expr (pe_bm PySem.F.plainAttrs_list PySem.F.slot_list_append PySem.F.type_list_append mt_append (pv 2)
          (pa_cons (pe_tup (pa_cons (pe_callTy cr_tup rfl T.tuple (by decide +kernel) (pa_cons (pe_ix ix_tup (pv 4) pe_int (fun _ _ => rfl)) pa_nil)) (pa_cons (pe_ix ix_tup (pv 4) pe_int (fun _ _ => rfl))
            (pa_cons (pe_callTy cr_tup rfl T.tuple (by decide +kernel) (pa_cons (pe_callB cr_sorted rfl T.sorted (by decide +kernel) (pa_cons (pe_ix ix_tup (pv 4) pe_int (fun _ _ => rfl)) pa_nil)) pa_nil)) pa_nil)))) pa_nil)))))))
      (pss_cons (ps_fld (pv 0) (pe_callTy cr_tup rfl T.tuple (by decide +kernel) (pa_cons (pv 2) pa_nil)) rfl)
      (pss_cons (ps_fld (pv 0) (pe_callTy cr_tup rfl T.tuple (by decide +kernel) (pa_cons (pe_lc (own := [("row", 6)]) (g := gName 6) (tt := tYes) (te := tOp (rIxT K) (tVar 6) (tC (.int 0))) rfl scI22.nd (pi_list (pv 2))
          (blkOk_by (own := [("row", 6)]) (N := nW) (sc := defScope (ms 22 0)) (by decide +kernel)) (fun _ _ _ _ _ => pg_name (i := 6) scI22.nd rfl (.inl rfl)) (fun _ _ _ _ _ => pts_nil) (fun _ _ _ _ _ => pe_ix ix_tup (pv 6) pe_int (fun _ _ => rfl))) pa_nil)) rfl)
      (pss_cons (ps_fld (pv 0) (pe_callTy cr_tup rfl T.tuple (by decide +kernel) (pa_cons (pe_lc (own := [("row", 6)]) (g := gName 6) (tt := tYes) (te := tOp (rIxT K) (tVar 6) (tC (.int 1))) rfl scI22.nd (pi_list (pv 2))
          (blkOk_by (own := [("row", 6)]) (N := nW) (sc := defScope (ms 22 0)) (by decide +kernel)) (fun _ _ _ _ _ => pg_name (i := 6) scI22.nd rfl (.inl rfl)) (fun _ _ _ _ _ => pts_nil) (fun _ _ _ _ _ => pe_ix ix_tup (pv 6) pe_int (fun _ _ => rfl))) pa_nil)) rfl)
      (pss_cons (ps_fld (pv 0) (pe_callTy cr_tup rfl T.tuple (by decide +kernel) (pa_cons (pe_lc (own := [("row", 6)]) (g := gName 6) (tt := tYes) (te := tOp (rIxT K) (tVar 6) (tC (.int 2))) rfl scI22.nd (pi_list (pv 2))
          (blkOk_by (own := [("row", 6)]) (N := nW) (sc := defScope (ms 22 0)) (by decide +kernel)) (fun _ _ _ _ _ => pg_name (i := 6) scI22.nd rfl (.inl rfl)) (fun _ _ _ _ _ => pts_nil) (fun _ _ _ _ _ => pe_ix ix_tup (pv 6) pe_int (fun _ _ => rfl))) pa_nil)) rfl)
      (pss_cons (ps_fld (pv 0) (C8.pe_c (ok_eld T) hr (by decide) rfl (pa_cons (pe_fld (pv 0) rfl) pa_nil)) rfl)
      (pss_one (ps_fld (pv 0) (C8.pe_c (ok_hei T) hr (by decide) rfl (pa_cons (pe_fld (pv 0) rfl) pa_nil)) rfl))))))))), ?_⟩
    obtain ⟨es, hc, hel, hes⟩ := id hE
    have l1 : decide ((1 : Int) ≤ ((es.map V.ref).length : Nat)) = true := decide_eq_true (by rw [List.length_map]; omega)
    have l2 : decide ((((es.map V.ref).length : Nat) : Int) ≤ 12) = true := decide_eq_true (by rw [List.length_map]; omega)
    refine ⟨_, rfl, c, rfl, .inl ⟨_, hc⟩, true, rfl, iteF ?_⟩
    refine ⟨_, rfl, c, _, rfl, .inl (SqL.of hc), _, _, rfl, rfl, true, congrArg V.bl l1, iteT ⟨_, _, rfl, rfl, true, congrArg V.bl l2, iteF ?_⟩⟩
    refine ⟨(by decide), fun r hr0 => ?_⟩
    have s0 := same_upd (o := .lst []) hr0
    refine ⟨_, rfl, c, _, rfl, SqL.of (s0 _ _ hc), for_it walk_enum (fun i σ H1 => (∃ u v u' v', σ = [some (.ref x), some (.ref c), some (.ref r), u, v, u', v']) ∧ Same H H1 ∧ ∃ tr : List (Addr × V × V), tr.length = i ∧ TriL H1 r bs tr)
      ⟨⟨none, none, none, none, rfl⟩, s0, [], rfl, [], upd_same, rfl, fun i t y e1 e2 => by simp at e1⟩ (fun i σ H1 _ p => SqL.of (p.2.1 _ _ hc)) ?_ ?_⟩
    · rintro i y σ H1 H2 hi ⟨⟨u, v, u', v', rfl⟩, s1, tr, htr, hT⟩ ⟨T1, y1, y2, rfl, hTn, rfl, e1, e2⟩
      cases Option.some.inj e1
      have e2' : (es.map V.ref)[i]? = some y2 := e2
      rw [List.getElem?_map] at e2'
      cases he : es[i]? with
      | none => rw [he] at e2'; cases e2'
      | some e =>
        rw [he] at e2'
        cases e2'
        have hil : i < bs.length := by
          have := (List.getElem?_eq_some_iff.mp he).1
          omega
        have st := same_upd (o := .tup [.int (i : Nat), .ref e]) hTn
        have s2 := Same.trans s1 st
        refine ⟨T1, _, rfl, .of upd_same, rfl, _, _, rfl, _, _, rfl, rfl, ?_⟩
        have nd := ok.nd i _ (el_getD hil)
        have lt := ok.lt i _ (el_getD hil)
        refine ⟨_, rfl, _, rfl, e, i, el bs i, rfl, (hes i e he).same s2, nd, by have := below_len nd lt; omega, lt, fun H3 s3 => ?_⟩
        refine ⟨_, rfl, rfl, _, rfl, iteF ?_⟩
        have s03 := Same.trans s2 s3
        obtain ⟨b, m, fl, h1, h2, h3, h4, h5⟩ := (hes i e he).same s03
        have hT3 := hT.same (Same.trans st s3)
        obtain ⟨ts, t1, t2, t3⟩ := id hT3
        have a0 : atI [V.ref b, .int fl, .ref m] 0 = some (.ref b) := rfl
        have a1 : atI [V.ref b, .int fl, .ref m] 1 = some (.int fl) := rfl
        have a2 : atI [V.ref b, .int fl, .ref m] 2 = some (.ref m) := rfl
        refine ⟨_, rfl, .inl ⟨rfl, _, SqL.of t1⟩, _, rfl, e, _, _, _, rfl, rfl, .of h1, a0, b, _, rfl, .inl ⟨SqL.of h2, fun q1 hq1 => ?_⟩⟩
        have q1s := same_upd (o := .tup (nums (el bs i))) hq1
        refine ⟨_, rfl, e, _, _, _, rfl, rfl, .of (q1s _ _ h1), a1, _, rfl, e, _, _, _, rfl, rfl, .of (q1s _ _ h1), a2, m, [], rfl, SqL.of (q1s _ _ h3), (by decide), fun ns p2 _ _ hp2 => ?_⟩
        have p2s := same_upd (o := .lst (ns.map V.int)) hp2
        refine ⟨p2, _, rfl, .inl ⟨SqL.of upd_same, fun q2 hq2 => ?_⟩⟩
        have q2s := same_upd (o := .tup (ns.map V.int)) hq2
        refine ⟨(by show 3 ≤ sizeLine; decide), fun t ht => ?_⟩
        have ts' := same_upd (o := .tup [V.ref q1, .int fl, .ref q2]) ht
        have s4 := Same.trans q1s (Same.trans p2s (Same.trans q2s ts'))
        have s5 := Same.trans p2s (Same.trans q2s ts')
        refine ⟨r, _, _, rfl, rfl, s4 _ _ t1, ?_, ⟨_, _, _, _, rfl⟩, same_mut (Same.trans s03 s4) hr0, tr ++ [(q1, .int fl, .ref q2)], by rw [List.length_append, htr]; rfl, ?_⟩
        · rw [List.length_map, t2]
          exact small1000 (by omega)
        · refine (hT3.same s4).snoc (s4 _ _ t1) upd_same ?_
          rw [htr]
          exact s5 _ _ upd_same
    · rintro σ H1 ⟨⟨u, v, u', v', rfl⟩, s1, tr, htr, hT⟩
      rw [List.length_map, hel] at htr
      obtain ⟨ts, t1, t2, t3⟩ := id hT
      refine ⟨_, rfl, r, _, rfl, .inl ⟨SqL.of t1, fun ac hac => ?_⟩⟩
      have acs := same_upd (o := .tup (ts.map V.ref)) hac
      have hx1 := acs _ _ (s1 _ _ hx)
      refine ⟨_, rfl, x, _, dx, _, rfl, hx1, T.cWorld.cl, noW T "classes", (by decide), ?_⟩
      have hn : tr.length ≤ 1000 := by omega
      -- bases
      have hT1 := (hT.same acs).but hx1 (Bx.upd (o := .ins (gC K "World") dx (putF "classes" (.ref ac) [])))
      refine col (sel := fun y => V.ref y.1) (fun y => rfl) hT1 hn fun H2 ab s2 hab => ?_
      have hx2 := s2 x _ upd_same
      refine ⟨_, rfl, x, _, dx, _, rfl, hx2, T.cWorld.cl, noW T "bases", (by show 1 < 1000; decide), ?_⟩
      have hT2 := (hT1.same s2).but hx2 (Bx.upd (o := .ins (gC K "World") dx (putF "bases" (.ref ab) (putF "classes" (.ref ac) []))))
      -- owns
      refine col (sel := fun y => y.2.1) (fun y => rfl) hT2 hn fun H3 ao s3 hao => ?_
      have hx3 := s3 x _ upd_same
      refine ⟨_, rfl, x, _, dx, _, rfl, hx3, T.cWorld.cl, noW T "owns", (by show 2 < 1000; decide), ?_⟩
      have hT3 := (hT2.same s3).but hx3 (Bx.upd (o := .ins (gC K "World") dx (putF "owns" (.ref ao) (putF "bases" (.ref ab) (putF "classes" (.ref ac) [])))))
      -- methods
      refine col (sel := fun y => y.2.2) (fun y => rfl) hT3 hn fun H4 am s4 ham => ?_
      have hx4 := s4 x _ upd_same
      refine ⟨_, rfl, x, _, dx, _, rfl, hx4, T.cWorld.cl, noW T "methods", (by show 3 < 1000; decide), ?_⟩
      have hT4 := (hT3.same s4).but hx4 (Bx.upd (o := .ins (gC K "World") dx (putF "methods" (.ref am) (putF "owns" (.ref ao) (putF "bases" (.ref ab) (putF "classes" (.ref ac) []))))))
      -- what stands behind the four stores
      have tail : ∀ (K4 : Hp) (F4 : List (Str × V)), F4.length = 4 → (∀ v, (putF "elders" v F4).length = 5) → List.lookup ("bases" : Str) F4 = some (V.ref ab) → List.lookup ("classes" : Str) F4 = some (V.ref ac) → K4 x = some (.ins (gC K "World") dx F4) → RowsT K4 ab bs → K4 ac = some (.tup (ts.map V.ref)) →
          Bx x H K4 → tSeq (sFld K (tVar 0) (tCall spEld [] C8.E0 (tCons (tFld K (tVar 0) "bases") tNil)) "elders") (sFld K (tVar 0) (tCall spHei [] C8.E0 (tCons (tFld K (tVar 0) "elders") tNil)) "heirs")
            { nx := fun _ H' => Q .non H', rt := Q } [some (.ref x), some (.ref c), some (.ref r), u, v, u', v'] K4 := by
        intro K4 F4 f4l f5l f4b f4c hx5 hB hac4 bH
        refine ⟨_, rfl, x, _, dx, F4, _, rfl, hx5, T.cWorld.cl, noW T "bases", f4b, ab, bs, rfl, hB, ok, hn5, fun H5 ae s5 hR5 => ?_⟩
        have hx6 := s5 _ _ hx5
        refine ⟨_, rfl, x, _, dx, _, rfl, hx6, T.cWorld.cl, noW T "elders", by rw [f4l]; decide, ?_⟩
        have b5 : Bx x K4 (upd H5 x (.ins (gC K "World") dx (putF "elders" (.ref ae) F4))) := (Bx.of s5).trans Bx.upd
        have hR6 : RowsT (upd H5 x (.ins (gC K "World") dx (putF "elders" (.ref ae) F4))) ae (eldersOf bs) := hR5.but hx6 Bx.upd
        refine ⟨_, rfl, x, _, dx, _, _, rfl, upd_same, T.cWorld.cl, noW T "elders", by rw [lookup_putF, if_pos rfl], ae, eldersOf bs, rfl, hR6, by rw [len_elders]; omega, fun H7 ah s7 => ?_⟩
        have hx7 := s7 _ _ (upd_same (H := H5) (a := x) (o := .ins (gC K "World") dx (putF "elders" (.ref ae) F4)))
        refine ⟨_, rfl, x, _, dx, _, rfl, hx7, T.cWorld.cl, noW T "heirs", by rw [f5l]; decide, ?_⟩
        have b7 : Bx x K4 (upd H7 x (.ins (gC K "World") dx (putF "heirs" (.ref ah) (putF "elders" (.ref ae) F4)))) := (b5.trans (Bx.of s7)).trans Bx.upd
        have hac7 : ac ≠ x := fun q => by
          rw [q, hx5] at hac4
          cases hac4
        refine k _ (bH.trans b7) ⟨dx, ac, ae, _, ts.map V.ref, upd_same, ?_, ?_, b7 _ _ hac4 hac7, ?_, ?_, (hR6.same s7).but hx7 Bx.upd⟩ ⟨dx, ab, _, upd_same, ?_, hB.but hx5 b7⟩
        · rw [lookup_putF, if_neg (by decide), lookup_putF, if_neg (by decide), f4c]
        · rw [lookup_putF, if_neg (by decide), lookup_putF, if_pos rfl]
        · rw [List.length_map, t2, htr, len_elders]
        · intro v hv
          obtain ⟨t, _, e⟩ := List.mem_map.mp hv
          exact ⟨t, e.symm⟩
        · rw [lookup_putF, if_neg (by decide), lookup_putF, if_neg (by decide), f4b]
      have nt : ∀ {b : Addr} {l : List V} {Hq : Hp} {fs : List (Str × V)}, Hq x = some (.ins (gC K "World") dx fs) → Hq b = some (.tup l) → b ≠ x := fun {b l Hq fs} e e2 q => by
        rw [q, e] at e2
        cases e2
      refine tail _ _ rfl (fun _ => rfl) rfl rfl upd_same ?_ ?_ ?_
      · obtain ⟨us, u1, u2, u3⟩ := id hT4
        refine ⟨tr.map (·.1), ?_, by rw [List.length_map]; exact htr, fun i p hp => ?_⟩
        · rw [upd_ne (nt hx2 hab)]
          rw [List.map_map]
          refine s4 _ _ ?_
          rw [upd_ne (nt hx2 hab)]
          refine s3 _ _ ?_
          rw [upd_ne (nt hx2 hab)]
          exact hab
        · rw [List.getElem?_map] at hp
          cases hy : tr[i]? with
          | none => rw [hy] at hp; cases hp
          | some y =>
            rw [hy] at hp
            cases hp
            have hi := (List.getElem?_eq_some_iff.mp hy).1
            exact (u3 i (us[i]'(by omega)) y (List.getElem?_eq_getElem (by omega)) hy).2
      · have nac : ac ≠ x := nt (b := ac) hx1 upd_same
        rw [upd_ne nac]
        refine s4 _ _ ?_
        rw [upd_ne nac]
        refine s3 _ _ ?_
        rw [upd_ne nac]
        refine s2 _ _ ?_
        rw [upd_ne nac]
        exact upd_same
      · exact ((((Bx.of (Same.trans s1 acs)).trans Bx.upd).trans (Bx.of s2)).trans Bx.upd).trans ((((Bx.of s3).trans Bx.upd).trans (Bx.of s4)).trans Bx.upd)
end
end K14
namespace K14
open PySem PySem.Spec PyProof.Rows L2
/-- the very same object -/
def DSelf : Eqv := fun x y _ => ∃ a, x = V.ref a ∧ y = V.ref a
theorem mon_self : Mon DSelf := fun _ _ _ _ _ d => d
theorem eqG_self {X : Cx} : EqG X 0 DSelf := by
  intro A pins s σ H x y u v sb I rx ry d
  obtain ⟨a, rfl, rfl⟩ := d
  obtain rfl : u = Value.ref a := rx
  obtain rfl : v = Value.ref a := ry
  exact SeqAt.EqAt.same (A := A) (s := s) (.ref a) X.prog X.w X.xe _ ⟨rfl, H, I, Ext.rfl'⟩
section
variable {P : Program} {w : World} {K : PySem.W.Frag} {mg : Str → Option Value} {base : Heap}
/-! ### World.__eq__ of one world with itself -/
def RSelf (K : PySem.W.Frag) : Addr → Addr → Hp → Prop := fun a b H => a = b ∧ ∃ E, WAt K H a E
theorem mon_rself {K : PySem.W.Frag} : ∀ a b H H', Ext H H' → RSelf K a b H → RSelf K a b H' := fun a b H H' e h => by
  obtain ⟨h1, E, h2⟩ := h
  exact ⟨h1, E, h2.same e⟩
theorem scE22 : FnScope ["self", "other"] ["self", "other"] (defScope (ms 22 3)) := ⟨rfl, rfl, rfl, by decide +kernel, rfl, by decide +kernel, by decide +kernel⟩
theorem ok_eq (T : Txt K mg) {fd : FuncData} (F : FunD K "__eq__" "World.__eq__" (defArgs (ms 22 3)) (defBody (ms 22 3)) (defScope (ms 22 3)) [] [] (He.ma K (gC K "World") "__eq__") fd) :
    FnOk P w K mg base CX0 2 (He.ma K (gC K "World") "__eq__") fd ["self", "other"] (spEq (RSelf K)) := by
  refine F.ok scE22 (fun vs H Q E h => ?_) fun cdv A outer s H vs Q E hr h => ?_
  · obtain ⟨a, b, rfl, _⟩ := h
    rfl
  · obtain ⟨a, b, rfl, ⟨rfl, E', hW⟩, k⟩ := h
    refine ⟨_, PSs.nox (pss_one (ps_ret (pe_and (pe_callB (C8.call_isC T.insW) rfl T.isi (by decide +kernel) (pa_cons (pv 1) (pa_cons (pe_glob (v := .ref (gC K "World")) rfl T.cWorld.mgC rfl) pa_nil)))
      (pe_one (pe_cmpR (op_eqG (rcG_tup mon_self eqG_self) hr) (pe_fld (pv 0) rfl) (pe_fld (pv 1) rfl) (nomark _)))))), ?_⟩
    obtain ⟨dx, ac, ae, fs, cs, h1, h2, h3, h4, h5, h6, h7⟩ := hW
    refine ⟨_, rfl, a, dx, fs, rfl, h1, true, rfl, iteT ?_⟩
    refine ⟨_, rfl, a, _, dx, fs, _, rfl, h1, T.cWorld.cl, noW T "classes", h2, _, rfl, a, _, dx, fs, _, rfl, h1, T.cWorld.cl, noW T "classes", h2, ⟨ac, ac, cs, cs, rfl, rfl, .of h4, .of h4, rfl, fun i x y e1 e2 => ?_⟩, fun H' e => k H' e⟩
    rw [e1] at e2
    cases Option.some.inj e2
    obtain ⟨b, rfl⟩ := h6 x (List.mem_of_getElem? e1)
    exact ⟨b, rfl, rfl⟩
end
end K14
namespace K14
open PySem PySem.Spec PyProof.Rows L2
/-! ### the hand: the script's cells, a place, a rest, a total -/
structure HandAt (H : Hp) (h c : Addr) (zs : List Int) : Prop where
  ex : ∃ p r t : Int, H h = some (.lst [.ref c, .int p, .int r, .int t]) ∧ 0 ≤ p ∧ p ≤ zs.length ∧ 0 ≤ r ∧ 0 ≤ t ∧ t < 2147483549
  cl : H c = some (.lst (zs.map V.int))
  few : zs.length ≤ 1000
  pos : ∀ z ∈ zs, 0 ≤ z
theorem HandAt.same {H H' : Hp} {h c : Addr} {zs : List Int} (x : HandAt H h c zs) (s : Same H H') : HandAt H' h c zs := by
  obtain ⟨p, r, t, h1, q⟩ := x.ex
  exact ⟨⟨p, r, t, s _ _ h1, q⟩, s _ _ x.cl, x.few, x.pos⟩
theorem HandAt.ne {H : Hp} {h c : Addr} {zs : List Int} (x : HandAt H h c zs) : c ≠ h := fun e => by
  obtain ⟨p, r, t, h1, _⟩ := x.ex
  have h2 := x.cl
  rw [e, h1] at h2
  have h3 := HO.lst.inj (Option.some.inj h2)
  cases zs with
  | nil => cases h3
  | cons a l =>
    rw [List.map_cons] at h3
    have h4 := (List.cons.inj h3).1
    cases h4
section
variable {P : Program} {w : World} {K : PySem.W.Frag} {mg : Str → Option Value} {base : Heap}
/-! ### _law_mixed -/
def spMix : Sp := fun vs H Q _ => ∃ n t : Int, vs = [.int n, .int t] ∧ 0 ≤ n ∧ n < 2147483648 ∧ 0 ≤ t ∧ t ≤ 2000 ∧ ∀ r : Int, 0 ≤ r → Q (.int r) H
theorem sc25 : FnScope ["_law_number", "_law_turn", "_law_once", "_law_twice"] ["_law_number", "_law_turn"] (defScope (top 25)) := ⟨rfl, rfl, rfl, by decide +kernel, rfl, by decide +kernel, by decide +kernel⟩
theorem ok_mix (T : Txt K mg) : C8.Cal P w K mg base 1 "_law_mixed" spMix [] := by
  refine dn_cal T.lmix sc25 (fun _ _ _ _ _ _ us hl => match us, hl with | [_, _], _ => rfl) (fun vs H Q E h => ?_) fun f cdv A outer s H vs Q E hr h => ?_
  · obtain ⟨n, t, rfl, _⟩ := h
    rfl
  · obtain ⟨n, t, rfl, n0, n1, t0, t1, k⟩ := h
    refine ⟨_, pss_cons (ps_set (i := 2) sc25.nd rfl (.inl rfl) (pe_op op_mod (pe_callTy call_int1 rfl T.int (by decide +kernel) (pa_cons (pe_op op_add (pe_op op_add (pe_op op_mul (pv 0) pe_int) (pe_op op_mul (pv 1) pe_int)) pe_int) pa_nil)) pe_int))
      (pss_cons (ps_set (i := 3) sc25.nd rfl (.inl rfl) (pe_op op_mod (pe_callTy call_int1 rfl T.int (by decide +kernel) (pa_cons (pe_op op_add (pe_op op_add (pe_op op_mul (pv 2) (pv 2)) (pe_op op_mul (pv 1) pe_int)) (pe_op op_fdiv (pv 2) pe_int)) pa_nil)) pe_int))
      (pss_one (ps_ret (pe_op op_fdiv (pe_callTy call_int1 rfl T.int (by decide +kernel) (pa_cons (pe_op op_mod (pe_callTy call_int1 rfl T.int (by decide +kernel) (pa_cons (pe_op op_add (pe_op op_mul (pv 3) pe_int) (pe_op op_fdiv (pv 2) pe_int)) pa_nil)) pe_int) pa_nil)) pe_int)))), ?_⟩
    have big : ∀ z : Int, 0 ≤ z → z < 4294967296 → -(2 ^ 64) < z ∧ z < 2 ^ 64 := fun z h1 h2 => by omega
    refine ⟨_, rfl, _, _, rfl, rfl, .inl (big n n0 (by omega)), _, rfl, _, _, rfl, rfl, .inl (big t t0 (by omega)), _, _, rfl, rfl, _, _, rfl, rfl, .inl ⟨_, rfl, _, _, rfl, rfl, (by show (0 : Int) < 2147483399; decide), ?_⟩⟩
    have o0 : 0 ≤ (n * 48271 + t * 7919 + 30011) % 2147483399 := Int.emod_nonneg _ (by decide)
    have o1 : (n * 48271 + t * 7919 + 30011) % 2147483399 < 2147483399 := Int.emod_lt_of_pos _ (by decide)
    refine ⟨_, rfl, _, rfl, _, _, rfl, rfl, .inl (big _ o0 (Int.lt_trans o1 (by decide))), _, rfl, t, _, rfl, rfl, .inl (big t t0 (by omega)), _, _, rfl, rfl, _, rfl, _, _, rfl, rfl, ⟨by decide, by decide⟩, _, _, rfl, rfl, .inl ⟨_, rfl, _, _, rfl, rfl, (by show (0 : Int) < 2147483629; decide), ?_⟩⟩
    refine ⟨_, rfl, _, _, rfl, rfl, .inl (big _ (Int.emod_nonneg _ (by decide)) (Int.lt_trans (Int.emod_lt_of_pos _ (by decide)) (by decide))), _, rfl, _, _, rfl, rfl, ⟨by decide, by decide⟩, _, _, rfl, rfl, .inl ⟨_, rfl, _, _, rfl, rfl, (by show (0 : Int) < 2147483587; decide), .inl ⟨_, rfl, _, _, rfl, rfl, ⟨by decide, by decide⟩, k _ ?_⟩⟩⟩
    exact Int.ediv_nonneg (Int.emod_nonneg _ (by decide)) (by decide)
end
end K14
namespace K14
open PySem PySem.Spec PyProof.Rows L2
theorem sqL_same {K : PySem.W.Frag} {H H' : Hp} {a : Addr} {xs : List V} (h : SqL K H a xs) (s : Same H H') : SqL K H' a xs := by
  rcases h with (h | ⟨o, h⟩) | h
  · exact .inl (.inl (s _ _ h))
  · exact .inl (.inr ⟨o, s _ _ h⟩)
  · exact .inr h
def absI (i : Int) : Int := if i < 0 then -i else i
theorem absI_pos (i : Int) : 0 ≤ absI i := by
  unfold absI
  split <;> omega
section
variable {P : Program} {w : World} {K : PySem.W.Frag} {mg : Str → Option Value} {base : Heap}
/-! ### _law_hand(script) -/
def spHand (K : PySem.W.Frag) : Sp := fun vs H Q _ => ∃ (a : Addr) (zs : List Int), vs = [.ref a] ∧ SqL K H a (zs.map V.int) ∧ zs.length ≤ 1000 ∧ ∀ H' h c zs', Same H H' → HandAt H' h c zs' → Q (.ref h) H'
theorem sc24 : FnScope ["_law_script", "_law_total", "_law_cells", "_law_cell"] ["_law_script"] (defScope (top 24)) := ⟨rfl, rfl, rfl, by decide +kernel, rfl, by decide +kernel, by decide +kernel⟩
theorem ok_hand (T : Txt K mg) : C8.Cal P w K mg base 1 "_law_hand" (spHand K) [] := by
  refine dn_cal T.lhand sc24 (fun _ _ _ _ _ _ us hl => match us, hl with | [_], _ => rfl) (fun vs H Q E h => ?_) fun f cdv A outer s H vs Q E hr h => ?_
  · obtain ⟨a, zs, rfl, _⟩ := h
    rfl
  · obtain ⟨a, zs, rfl, hA, hn, k⟩ := h
    refine ⟨_, pss_cons (ps_set (i := 1) sc24.nd rfl (.inl rfl) (pe_op op_add (pe_callB call_len_seq rfl T.len (by decide +kernel) (pa_cons (pv 0) pa_nil)) pe_int))
      (pss_cons (ps_set (i := 2) sc24.nd rfl (.inl rfl) (pe_lst pa_nil))
      (pss_cons (ps_for PassesOwn.never rfl (pi_list (pv 0)) (pg_name (i := 3) sc24.nd rfl (.inl rfl))
        (pss_cons (ps_set (i := 1) sc24.nd rfl (.inl rfl) (pe_op op_mod (pe_callTy call_int1 rfl T.int (by decide +kernel) (pa_cons (pe_op op_add (pe_op op_mul (pv 1) pe_int) (pe_callTy call_int1 rfl T.int (by decide +kernel) (pa_cons (pv 3) pa_nil))) pa_nil)) pe_int))
        (pss_one (ps_expr (pe_bm PySem.F.plainAttrs_list PySem.F.slot_list_append PySem.F.type_list_append mt_append (pv 2) (pa_cons (pe_callB call_abs rfl T.abs (by decide +kernel) (pa_cons (pe_callTy call_int1 rfl T.int (by decide +kernel) (pa_cons (pv 3) pa_nil)) pa_nil)) pa_nil))))))
      (pss_one (ps_ret (pe_lst (pa_cons (pv 2) (pa_cons pe_int (pa_cons pe_int (pa_cons (pv 1) pa_nil))))))))), ?_⟩
    refine ⟨_, rfl, a, _, rfl, .inl hA, _, _, rfl, rfl, (by decide), fun c hc => ?_⟩
    have s0 := same_upd (o := .lst []) hc
    have hl0 : (zs.map V.int).length ≤ 1000 := by rw [List.length_map]; exact hn
    refine ⟨_, rfl, a, rfl, ⟨_, sqL_same hA s0⟩, for_list (K := K) (a := a) (xs := zs.map V.int) (fun i σ H1 => (∃ (t : Int) (v : Option V), σ = [some (.ref a), some (.int t), some (.ref c), v] ∧ 0 ≤ t ∧ t < 2147483549) ∧ Same H H1 ∧ H1 c = some (.lst (((zs.map absI).take i).map V.int)))
      ⟨⟨_, none, rfl, by omega, by omega⟩, s0, upd_same⟩ (fun i σ H1 _ p => sqL_same hA p.2.1) ?_ ?_⟩
    · rintro i y σ H1 hi ⟨⟨t, v, rfl, t0, t1⟩, s1, h1⟩
      rw [List.getElem?_map] at hi
      cases hz : zs[i]? with
      | none => rw [hz] at hi; cases hi
      | some z =>
        rw [hz] at hi
        cases hi
        refine ⟨_, rfl, _, _, rfl, rfl, .inl ⟨by omega, by omega⟩, _, rfl, .inl ⟨_, rfl, _, _, rfl, rfl, .inl ⟨_, rfl, _, _, rfl, rfl, (by show (0 : Int) < 2147483549; decide), ?_⟩⟩⟩
        refine ⟨_, rfl, .inl ⟨rfl, _, SqL.of h1⟩, _, rfl, .inl ⟨_, rfl, _, rfl, c, _, _, rfl, rfl, h1, ?_, ⟨_, _, rfl, Int.emod_nonneg _ (by decide), Int.emod_lt_of_pos _ (by decide)⟩, same_mut s1 hc, ?_⟩⟩
        · rw [List.length_map, List.length_take, List.length_map]
          exact small1000 (by omega)
        · rw [upd_same, take_more (x := absI z) (by rw [List.getElem?_map, hz]; rfl), List.map_append]
          rfl
    · rintro σ H1 ⟨⟨t, v, rfl, t0, t1⟩, s1, h1⟩
      rw [List.length_map, ← List.length_map (as := zs) absI, List.take_length] at h1
      refine ⟨_, rfl, _, rfl, (by show 4 ≤ sizeLine; decide), fun h hh => ?_⟩
      have s2 := same_upd (o := .lst [.ref c, .int 0, .int 0, .int t]) hh
      refine k _ h c (zs.map absI) (Same.trans s1 s2) ⟨⟨0, 0, t, upd_same, by omega, by omega, by omega, t0, t1⟩, s2 _ _ h1, by rw [List.length_map]; exact hn, fun z hz => ?_⟩
      obtain ⟨y, _, rfl⟩ := List.mem_map.mp hz
      exact absI_pos y
theorem hand_upd {H : Hp} {h c : Addr} {zs : List Int} (x : HandAt H h c zs) {p r t : Int} (q : 0 ≤ p ∧ p ≤ zs.length ∧ 0 ≤ r ∧ 0 ≤ t ∧ t < 2147483549) : HandAt (upd H h (.lst [.ref c, .int p, .int r, .int t])) h c zs :=
  ⟨⟨p, r, t, upd_same, q⟩, by rw [upd_ne x.ne]; exact x.cl, x.few, x.pos⟩
theorem modN (r : Int) {m : Nat} (m0 : 0 < m) : ∃ q : Nat, r % (m : Int) = (q : Int) ∧ q < m := by
  have h0 : 0 ≤ r % (m : Int) := Int.emod_nonneg _ (by omega)
  have h1 : r % (m : Int) < (m : Int) := Int.emod_lt_of_pos _ (by omega)
  exact ⟨(r % (m : Int)).toNat, (Int.toNat_of_nonneg h0).symm, by omega⟩
theorem int_eq (a b : Int) : decide (V.int a = V.int b) = decide (a = b) := by
  rw [Bool.eq_iff_iff, decide_eq_true_iff, decide_eq_true_iff]
  exact ⟨fun h => V.int.inj h, fun h => by rw [h]⟩
/-! ### _law_take(hand, many): a number below many -/
def spTake : Sp := fun vs H Q _ => ∃ (h c : Addr) (zs : List Int) (m : Nat), vs = [.ref h, nV m] ∧ HandAt H h c zs ∧ 0 < m ∧ m ≤ 1000 ∧ ∀ H' (r : Nat), Bx h H H' → HandAt H' h c zs → r < m → Q (nV r) H'
theorem sc26 : FnScope ["_law_hand_here", "_law_many", "_law_cell", "_law_rest"] ["_law_hand_here", "_law_many"] (defScope (top 26)) := ⟨rfl, rfl, rfl, by decide +kernel, rfl, by decide +kernel, by decide +kernel⟩
theorem ok_ltake (T : Txt K mg) : C8.Cal P w K mg base 2 "_law_take" spTake [] := by
  refine dn_cal T.ltake sc26 (fun _ _ _ _ _ _ us hl => match us, hl with | [_, _], _ => rfl) (fun vs H Q E h => ?_) fun f cdv A outer s H vs Q E hr h => ?_
  · obtain ⟨h, c, zs, m, rfl, _⟩ := h
    rfl
  · obtain ⟨h, c, zs, m, rfl, hH, m0, m1, k⟩ := h
    refine ⟨_, C8.pss_cut (ps_if (PW.pt (pw_and (pt_cmpR op_eq (pe_ix ix_list (pv 0) pe_int (fun _ _ => rfl)) pe_int (nomark _)) (pw_and1 (pt_cmpR op_lt (pe_ix ix_list (pv 0) pe_int (fun _ _ => rfl)) (pe_callB call_len_seq rfl T.len (by decide +kernel) (pa_cons (pe_ix ix_list (pv 0) pe_int (fun _ _ => rfl)) pa_nil)) (nomark _)))))
        (pss_cons (ps_set (i := 2) sc26.nd rfl (.inl rfl) (pe_ix ix_list (pe_ix ix_list (pv 0) pe_int (fun _ _ => rfl)) (pe_ix ix_list (pv 0) pe_int (fun _ _ => rfl)) (fun _ _ => rfl)))
        (pss_cons (ps_asg (pe_op op_add (pe_ix ix_list (pv 0) pe_int (fun _ _ => rfl)) pe_int) (pg_sub (pv 0) pe_int set_list))
        (pss_cons (ps_if (pt_cmpR op_lt (pv 2) (pe_op op_pow pe_int pe_int) (nomark _))
          (pss_one (ps_ret (pe_op op_mod (pe_callTy call_int1 rfl T.int (by decide +kernel) (pa_cons (C8.pe_c (ok_mix T) hr (by decide) rfl (pa_cons (pe_op op_mod (pe_callTy call_int1 rfl T.int (by decide +kernel) (pa_cons (pv 2) pa_nil)) pe_int) (pa_cons (pe_ix ix_list (pv 0) pe_int (fun _ _ => rfl)) pa_nil))) pa_nil)) (pv 1)))) pss_nil)
        (pss_one (ps_asg (pv 2) (pg_sub (pv 0) pe_int set_list)))))) pss_nil)
      (pss_cons (ps_if (pt_cmpR op_gt (pe_ix ix_list (pv 0) pe_int (fun _ _ => rfl)) pe_int (nomark _))
        (pss_cons (ps_set (i := 3) sc26.nd rfl (.inl rfl) (pe_ix ix_list (pv 0) pe_int (fun _ _ => rfl)))
        (pss_cons (ps_asg (pe_op op_fdiv (pe_callTy call_int1 rfl T.int (by decide +kernel) (pa_cons (pv 3) pa_nil)) (pv 1)) (pg_sub (pv 0) pe_int set_list))
        (pss_one (ps_ret (pe_op op_mod (pe_callTy call_int1 rfl T.int (by decide +kernel) (pa_cons (pv 3) pa_nil)) (pv 1)))))) pss_nil)
      (pss_cons (ps_asg (pe_op op_mod (pe_callTy call_int1 rfl T.int (by decide +kernel) (pa_cons (pe_op op_add (pe_ix ix_list (pv 0) pe_int (fun _ _ => rfl)) pe_int) pa_nil)) pe_int) (pg_sub (pv 0) pe_int set_list))
      (pss_one (ps_ret (pe_op op_mod (pe_callTy call_int1 rfl T.int (by decide +kernel) (pa_cons (C8.pe_c (ok_mix T) hr (by decide) rfl (pa_cons (pe_ix ix_list (pv 0) pe_int (fun _ _ => rfl)) (pa_cons (pe_ix ix_list (pv 0) pe_int (fun _ _ => rfl)) pa_nil))) pa_nil)) (pv 1)))))), ?_⟩
    have m0' : (0 : Int) < (m : Int) := by omega
    -- a mod of any number is the answer
    have fin : ∀ (H' : Hp) (r : Int), Bx h H H' → HandAt H' h c zs → Q (.int (r % (m : Int))) H' := fun H' r b hh => by
      obtain ⟨q, e, l⟩ := modN r m0
      rw [e]
      exact k H' q b hh l
    have A0 : ∀ p r t : Int, atI [V.ref c, .int p, .int r, .int t] 0 = some (V.ref c) := fun _ _ _ => rfl
    have A1 : ∀ p r t : Int, atI [V.ref c, .int p, .int r, .int t] 1 = some (V.int p) := fun _ _ _ => rfl
    have A2 : ∀ p r t : Int, atI [V.ref c, .int p, .int r, .int t] 2 = some (V.int r) := fun _ _ _ => rfl
    have A3 : ∀ p r t : Int, atI [V.ref c, .int p, .int r, .int t] 3 = some (V.int t) := fun _ _ _ => rfl
    have I1 : ∀ p r t : Int, ixN [V.ref c, .int p, .int r, .int t].length 1 = some 1 := fun _ _ _ => rfl
    have I2 : ∀ p r t : Int, ixN [V.ref c, .int p, .int r, .int t].length 2 = some 2 := fun _ _ _ => rfl
    have I3 : ∀ p r t : Int, ixN [V.ref c, .int p, .int r, .int t].length 3 = some 3 := fun _ _ _ => rfl
    refine ⟨fun σ H' => (∃ u v, σ = [some (.ref h), some (nV m), u, v]) ∧ Bx h H H' ∧ HandAt H' h c zs, ?_, ?_⟩
    · obtain ⟨p, r, t, h1, p0, p1, r0, t0, t1⟩ := hH.ex
      have stay : (fun (σ : L2.St) (H' : Hp) => (∃ u v, σ = [some (V.ref h), some (nV m), u, v]) ∧ Bx h H H' ∧ HandAt H' h c zs) [some (.ref h), some (nV m), none, none] H := ⟨⟨_, _, rfl⟩, fun _ _ e _ => e, hH⟩
      refine ⟨_, rfl, h, _, _, _, rfl, rfl, SqL.of h1, A2 p r t, rfl, _, rfl, ?_⟩
      refine ite2 (fun _ => ?_) (fun _ => stay)
      refine ⟨_, rfl, h, _, _, _, rfl, rfl, SqL.of h1, A1 p r t, _, rfl, h, _, _, _, rfl, rfl, SqL.of h1, A0 p r t, c, _, rfl, .inl (SqL.of hH.cl), _, _, rfl, rfl, decide (p < (zs.map V.int).length), rfl, ?_⟩
      refine ite2 (fun hp => ?_) (fun _ => stay)
      rw [decide_eq_true_iff, List.length_map] at hp
      have hpn : p.toNat < zs.length := by omega
      have atz : atI (zs.map V.int) p = some (V.int (zs[p.toNat]'hpn)) := by
        have q : (zs.map V.int)[p.toNat]? = some (V.int (zs[p.toNat]'hpn)) := by
          rw [List.getElem?_map, List.getElem?_eq_getElem hpn]
          rfl
        have q2 := atI_nat q
        rw [Int.toNat_of_nonneg p0] at q2
        exact q2
      have z0 := hH.pos _ (List.getElem_mem hpn)
      generalize zs[p.toNat]'hpn = z at atz z0
      have hU := hand_upd (p := p + 1) (r := r) (t := t) hH ⟨by omega, by omega, r0, t0, t1⟩
      have cl1 := hH.cl
      refine ⟨_, rfl, h, _, _, _, rfl, rfl, SqL.of h1, A0 p r t, _, rfl, h, _, _, _, rfl, rfl, SqL.of h1, A1 p r t, c, _, _, _, rfl, rfl, SqL.of cl1, atz, ?_⟩
      refine ⟨_, rfl, h, _, _, _, rfl, rfl, SqL.of h1, A1 p r t, _, _, rfl, rfl, _, rfl, h, _, _, _, rfl, rfl, h1, I1 p r t, ?_⟩
      refine ⟨_, rfl, _, _, rfl, rfl, ⟨by decide, by decide, by decide⟩, _, _, rfl, rfl, _, rfl, ?_⟩
      refine ite2 (fun _ => ?_) (fun _ => ?_)
      · refine ⟨_, rfl, .inl ⟨_, rfl, _, _, rfl, rfl, (by show (0 : Int) < 2147483399; decide), ?_⟩⟩
        refine ⟨_, rfl, h, _, _, _, rfl, rfl, SqL.of upd_same, A1 (p + 1) r t, ?_⟩
        refine ⟨_, _, rfl, Int.emod_nonneg _ (by decide), Int.lt_trans (Int.emod_lt_of_pos _ (by decide)) (by decide), by omega, by have := hH.few; omega, fun r' r0' => .inl ⟨_, rfl, _, rfl, _, _, rfl, rfl, m0', fin _ _ Bx.upd hU⟩⟩
      · refine ⟨_, rfl, _, rfl, h, _, _, _, rfl, rfl, upd_same, I2 (p + 1) r t, ?_⟩
        exact ⟨⟨_, _, rfl⟩, Bx.trans Bx.upd Bx.upd, hand_upd hU ⟨by omega, by omega, z0, t0, t1⟩⟩
    · rintro σ H1 ⟨⟨u, v, rfl⟩, b1, hH1⟩
      obtain ⟨p, r, t, h1, p0, p1, r0, t0, t1⟩ := hH1.ex
      refine ⟨_, rfl, h, _, _, _, rfl, rfl, SqL.of h1, A2 p r t, _, _, rfl, rfl, _, rfl, ?_⟩
      refine ite2 (fun _ => ?_) (fun _ => ?_)
      · have hU := hand_upd (p := p) (r := r / (m : Int)) (t := t) hH1 ⟨p0, p1, Int.ediv_nonneg r0 (by omega), t0, t1⟩
        refine ⟨_, rfl, h, _, _, _, rfl, rfl, SqL.of h1, A2 p r t, ?_⟩
        refine ⟨_, rfl, .inl ⟨_, rfl, _, rfl, _, _, rfl, rfl, ⟨m0', by omega⟩, _, rfl, h, _, _, _, rfl, rfl, h1, I2 p r t, ?_⟩⟩
        exact ⟨_, rfl, .inl ⟨_, rfl, _, rfl, _, _, rfl, rfl, m0', fin _ _ (Bx.trans b1 Bx.upd) hU⟩⟩
      · have e0 : 0 ≤ (t + 1) % 2147483549 := Int.emod_nonneg _ (by decide)
        have e1 : (t + 1) % 2147483549 < 2147483549 := Int.emod_lt_of_pos _ (by decide)
        have hU := hand_upd (p := p) (r := r) (t := (t + 1) % 2147483549) hH1 ⟨p0, p1, r0, e0, e1⟩
        refine ⟨_, rfl, h, _, _, _, rfl, rfl, SqL.of h1, A3 p r t, _, _, rfl, rfl, .inl ⟨_, rfl, _, _, rfl, rfl, (by show (0 : Int) < 2147483549; decide), _, rfl, h, _, _, _, rfl, rfl, h1, I3 p r t, ?_⟩⟩
        refine ⟨_, rfl, h, _, _, _, rfl, rfl, SqL.of upd_same, A3 p r _, _, rfl, h, _, _, _, rfl, rfl, SqL.of upd_same, A1 p r _, ?_⟩
        exact ⟨_, _, rfl, e0, Int.lt_trans e1 (by decide), p0, by have := hH.few; omega, fun r' r0' => .inl ⟨_, rfl, _, rfl, _, _, rfl, rfl, m0', fin _ _ (Bx.trans b1 Bx.upd) hU⟩⟩
end
end K14
namespace K14
open PySem PySem.Spec PyProof.Rows L2
theorem bx_mut {x m : Addr} {H H1 : Hp} {o : HO} (s : Bx x H H1) (hm : H m = none) : Bx x H (upd H1 m o) := fun b u e hb => by
  rw [upd_ne (ne_of_none e hm)]
  exact s b u e hb
theorem HandAt.apart {H : Hp} {h c m : Addr} {zs : List Int} (x : HandAt H h c zs) (hm : H m = none) : m ≠ h ∧ m ≠ c := by
  obtain ⟨p, r, t, h1, _⟩ := x.ex
  exact ⟨fun e => (by rw [e, h1] at hm; cases hm), fun e => (by rw [e, x.cl] at hm; cases hm)⟩
theorem hand_mut {H : Hp} {h c m : Addr} {o : HO} {zs : List Int} (x : HandAt H h c zs) (n : m ≠ h ∧ m ≠ c) : HandAt (upd H m o) h c zs := by
  obtain ⟨p, r, t, h1, q⟩ := x.ex
  exact ⟨⟨p, r, t, by rw [upd_ne (Ne.symm n.1)]; exact h1, q⟩, by rw [upd_ne (Ne.symm n.2)]; exact x.cl, x.few, x.pos⟩
/-- a number of a small row -/
theorem pick {ns : List Nat} {m r : Nat} (hr : r < ns.length) (hb : ∀ k ∈ ns, k ≤ m) : ∃ k : Nat, atI (nums ns) (r : Int) = some (nV k) ∧ k ≤ m :=
  ⟨ns[r], atI_nat (nums_at (List.getElem?_eq_getElem hr)), hb _ (List.getElem_mem hr)⟩
section
variable {P : Program} {w : World} {K : PySem.W.Frag} {mg : Str → Option Value} {base : Heap}
/-! ### _law_bases(hand, c) -/
def spBases : Sp := fun vs H Q _ => ∃ (h cc : Addr) (zs : List Int) (c : Nat), vs = [.ref h, nV c] ∧ HandAt H h cc zs ∧ c ≤ 1000 ∧ ∀ H' a l, Bx h H H' → HandAt H' h cc zs → H a = none → H' a = some (.lst (nums l)) → l.Nodup → (∀ k ∈ l, k < c) → Q (.ref a) H'
theorem sc27 : FnScope ["_law_hand_here", "_law_c", "_law_bases_here", "_law_step", "_law_base"] ["_law_hand_here", "_law_c"] (defScope (top 27)) := ⟨rfl, rfl, rfl, by decide +kernel, rfl, by decide +kernel, by decide +kernel⟩
theorem ok_bases (T : Txt K mg) : C8.Cal P w K mg base 3 "_law_bases" spBases [] := by
  refine dn_cal T.lbases sc27 (fun _ _ _ _ _ _ us hl => match us, hl with | [_, _], _ => rfl) (fun vs H Q E h => ?_) fun f cdv A outer s H vs Q E hr h => ?_
  · obtain ⟨h, cc, zs, c, rfl, _⟩ := h
    rfl
  · obtain ⟨h, cc, zs, c, rfl, hH, hc, k⟩ := h
    refine ⟨_, pss_cons (ps_set (i := 2) sc27.nd rfl (.inl rfl) (pe_lst pa_nil))
      (pss_cons (ps_for PassesOwn.never rfl (pi_range1 rfl T.range (pa_cons (pe_ix ix_tup (pe_tup (pa_cons pe_int (pa_cons pe_int (pa_cons pe_int (pa_cons pe_int (pa_cons pe_int (pa_cons pe_int (pa_cons pe_int (pa_cons pe_int pa_nil)))))))))
          (C8.pe_c (ok_ltake T) hr (by decide) rfl (pa_cons (pv 0) (pa_cons pe_int pa_nil))) (fun _ _ => rfl)) pa_nil)) (pg_name (i := 3) sc27.nd rfl (.inl rfl))
        (pss_one (ps_if (pt_cmpR op_gt (pv 1) pe_int (nomark _))
          (pss_cons (ps_set (i := 4) sc27.nd rfl (.inl rfl) (C8.pe_c (ok_ltake T) hr (by decide) rfl (pa_cons (pv 0) (pa_cons (pv 1) pa_nil))))
          (pss_one (ps_if (pt_cmpR op_notIn_seq (pv 4) (pv 2) rfl)
            (pss_one (ps_expr (pe_bm PySem.F.plainAttrs_list PySem.F.slot_list_append PySem.F.type_list_append mt_append (pv 2) (pa_cons (pv 4) pa_nil)))) pss_nil))) pss_nil)))
      (pss_one (ps_ret (pv 2)))), ?_⟩
    refine ⟨(by decide), fun m hm => ?_⟩
    have nm := hH.apart hm
    have H1 := hH.same (same_upd (o := .lst []) hm)
    refine ⟨(by show 8 ≤ sizeLine; decide), fun t ht => ?_⟩
    have ts := same_upd (o := .tup (nums [0, 1, 1, 2, 2, 2, 3, 1])) ht
    have hm2 := ts _ _ (upd_same (H := H) (a := m) (o := .lst []))
    have H2 := H1.same ts
    have b2 : Bx h H (upd (upd H m (.lst [])) t (.tup (nums [0, 1, 1, 2, 2, 2, 3, 1]))) := Bx.of (Same.trans (same_upd hm) ts)
    refine ⟨_, rfl, h, cc, zs, 8, rfl, H2, (by decide), (by decide), fun H3 r b3 hH3 hr3 => ?_⟩
    have nt := H1.apart ht
    obtain ⟨j, hj, hj3⟩ := pick (ns := [0, 1, 1, 2, 2, 2, 3, 1]) (m := 3) (r := r) hr3 (by decide)
    refine ⟨t, _, _, _, rfl, rfl, .of (b3 t _ upd_same nt.1), hj, ?_⟩
    have hm3 := b3 m _ hm2 nm.1
    have b03 := Bx.trans b2 b3
    refine ⟨_, rfl, by omega, by omega, ?_⟩
    rw [Int.toNat_natCast]
    refine for_range (lo := 0) (n := j) (fun i σ H4 => (∃ u v, σ = [some (.ref h), some (nV c), some (.ref m), u, v]) ∧ Bx h H H4 ∧ HandAt H4 h cc zs ∧ ∃ l : List Nat, H4 m = some (.lst (nums l)) ∧ l.Nodup ∧ (∀ k ∈ l, k < c))
      ⟨⟨none, none, rfl⟩, b03, hH3, [], hm3, List.nodup_nil, fun k hk => by cases hk⟩ ?_ ?_
    · rintro i σ H4 hi ⟨⟨u, v, rfl⟩, b4, hH4, l, hl, nd, lt⟩
      refine ⟨_, rfl, _, _, rfl, rfl, _, rfl, ?_⟩
      refine ite2 (fun hc0 => ?_) (fun _ => ⟨⟨_, _, rfl⟩, b4, hH4, l, hl, nd, lt⟩)
      rw [decide_eq_true_iff] at hc0
      refine ⟨_, rfl, _, rfl, h, cc, zs, c, rfl, hH4, by omega, hc, fun H5 b b5 hH5 hb => ?_⟩
      have hl5 := b5 m _ hl nm.1
      have b05 := Bx.trans b4 b5
      refine ⟨_, rfl, _, rfl, m, _, rfl, .inl (SqL.of hl5), rfl, nums_flat _, !(l.contains b), ?_, ?_⟩
      · show V.bl (!inV (nV b) (nums l)) = _
        rw [in_nums]
      · refine ite2 (fun hn => ?_) (fun _ => ⟨⟨_, _, rfl⟩, b05, hH5, l, hl5, nd, lt⟩)
        have hn' : b ∉ l := fun q => by
          have q2 : l.contains b = true := List.contains_iff_mem.mpr q
          rw [q2] at hn
          cases hn
        have ll := below_len nd lt
        refine ⟨_, rfl, .inl ⟨rfl, _, SqL.of hl5⟩, _, rfl, m, _, _, rfl, rfl, hl5, ?_, ⟨_, _, rfl⟩, bx_mut b05 hm, hand_mut hH5 nm, l ++ [b], by rw [upd_same, nums_snoc], ?_, ?_⟩
        · rw [nums_len]
          exact small1000 (by omega)
        · exact List.nodup_append.mpr ⟨nd, List.nodup_cons.mpr ⟨by simp, List.nodup_nil⟩, fun x hx y hy e => hn' (by rw [List.mem_singleton.mp hy] at e; rwa [e] at hx)⟩
        · intro z hz
          rcases List.mem_append.mp hz with q | q
          · exact lt z q
          · rw [List.mem_singleton.mp q]; exact hb
    · rintro σ H4 ⟨⟨u, v, rfl⟩, b4, hH4, l, hl, nd, lt⟩
      exact ⟨_, rfl, k H4 m l b4 hH4 hm hl nd lt⟩
end
end K14
namespace K14
open PySem PySem.Spec PyProof.Rows L2
/-! ### lists of lists of numbers that the text writes out -/
def intsE : List Expr → List Nat → Bool
  | [], [] => true
  | .Constant (.int i) _ _ :: es, n :: ns => i == (n : Int) && intsE es ns
  | _, _ => false
def rowsE : List Expr → List (List Nat) → Bool
  | [], [] => true
  | .List xs _ :: es, r :: rs => intsE xs r && (decide (r.length ≤ 100) && rowsE es rs)
  | _, _ => false
def litsE : List Expr → List (List (List Nat)) → Bool
  | [], [] => true
  | .List xs _ :: es, r :: rs => rowsE xs r && (decide (r.length ≤ 100) && litsE es rs)
  | _, _ => false
/-- a list of lists of numbers -/
def LL (H : Hp) (a : Addr) (bs : List (List Nat)) : Prop := ∃ qs : List Addr, H a = some (.lst (qs.map V.ref)) ∧ qs.length = bs.length ∧ ∀ (i : Nat) q, qs[i]? = some q → H q = some (.lst (nums (el bs i)))
theorem LL.same {H H' : Hp} {a : Addr} {bs : List (List Nat)} (h : LL H a bs) (s : Same H H') : LL H' a bs := by
  obtain ⟨qs, h1, h2, h3⟩ := h
  exact ⟨qs, s _ _ h1, h2, fun i q e => s _ _ (h3 i q e)⟩
theorem el_head (r : List Nat) (rs : List (List Nat)) : el (r :: rs) 0 = r := rfl
theorem el_tail (r : List Nat) (rs : List (List Nat)) (i : Nat) : el (r :: rs) (i + 1) = el rs i := rfl
def tInts (ns : List Nat) : TA := fun _ H Q => Q (nums ns) H
def tRows (rows : List (List Nat)) : TA := fun _ H Q => ∀ (qs : List Addr) H', Same H H' → qs.length = rows.length → (∀ (i : Nat) q, qs[i]? = some q → H' q = some (.lst (nums (el rows i)))) → Q (qs.map V.ref) H'
def tLits (ls : List (List (List Nat))) : TA := fun _ H Q => ∀ (ps : List Addr) H', Same H H' → ps.length = ls.length → (∀ (i : Nat) p, ps[i]? = some p → LL H' p (ls.getD i [])) → Q (ps.map V.ref) H'
section
variable {X : Cx}
theorem pa_mono {es : List Expr} {t u : TA} (h : PA X es t) (m : ∀ σ H Q, u σ H Q → t σ H Q) : PA X es u := ⟨fun pos pins s σ H Q I q => h.run pos pins s σ H Q I (m _ _ _ q)⟩
theorem pa_ints : ∀ {es : List Expr} {ns : List Nat}, intsE es ns = true → PA X es (tInts ns)
  | [], [], _ => pa_mono pa_nil fun _ _ _ q => q
  | .Constant (.int i) _ _ :: es, n :: ns, h => by
    have h' : (i == (n : Int) && intsE es ns) = true := h
    rw [Bool.and_eq_true, beq_iff_eq] at h'
    obtain ⟨rfl, h2⟩ := h'
    exact pa_mono (pa_cons pe_int (pa_ints h2)) fun _ _ _ q => q
theorem pa_rows : ∀ {es : List Expr} {rs : List (List Nat)}, rowsE es rs = true → PA X es (tRows rs)
  | [], [], _ => pa_mono pa_nil fun _ H _ q => q [] H (Same.refl H) rfl fun i p e => by simp at e
  | .List xs _ :: es, r :: rs, h => by
    have h' : (intsE xs r && (decide (r.length ≤ 100) && rowsE es rs)) = true := h
    rw [Bool.and_eq_true, Bool.and_eq_true, decide_eq_true_iff] at h'
    obtain ⟨h1, h2, h3⟩ := h'
    refine pa_mono (pa_cons (pe_lst (pa_ints h1)) (pa_rows h3)) fun σ H Q q => ?_
    refine ⟨by rw [nums_len]; exact len_le (by omega), fun p hp qs H' s1 hl hq => ?_⟩
    refine q (p :: qs) H' (Same.trans (same_upd hp) s1) (by rw [List.length_cons, List.length_cons, hl]) fun i z e => ?_
    cases i with
    | zero =>
      cases Option.some.inj e
      exact s1 _ _ upd_same
    | succ i => exact hq i z e
theorem pa_lits : ∀ {es : List Expr} {ls : List (List (List Nat))}, litsE es ls = true → PA X es (tLits ls)
  | [], [], _ => pa_mono pa_nil fun _ H _ q => q [] H (Same.refl H) rfl fun i p e => by simp at e
  | .List xs _ :: es, r :: rs, h => by
    have h' : (rowsE xs r && (decide (r.length ≤ 100) && litsE es rs)) = true := h
    rw [Bool.and_eq_true, Bool.and_eq_true, decide_eq_true_iff] at h'
    obtain ⟨h1, h2, h3⟩ := h'
    refine pa_mono (pa_cons (pe_lst (pa_rows h1)) (pa_lits h3)) fun σ H Q q => ?_
    intro qs H1 s1 hl1 hq1
    refine ⟨by rw [List.length_map, hl1]; exact len_le (by omega), fun p hp ps H' s2 hl hps => ?_⟩
    refine q (p :: ps) H' (Same.trans s1 (Same.trans (same_upd hp) s2)) (by rw [List.length_cons, List.length_cons, hl]) fun i z e => ?_
    cases i with
    | zero =>
      cases Option.some.inj e
      exact ⟨qs, s2 _ _ upd_same, hl1, fun i q' e' => s2 _ _ (same_upd hp _ _ (hq1 i q' e'))⟩
    | succ i => exact hps i z e
end
/-! ### such lists, grown -/
theorem nums_ref {l : List Nat} {qs : List Addr} {i : Nat} {q : Addr} (h : qs[i]? = some q) (e : nums l = qs.map V.ref) : False := by
  cases qs with
  | nil => simp at h
  | cons a r =>
    cases l with
    | nil => cases e
    | cons n m =>
      have := (List.cons.inj e).1
      cases this
theorem LL.ne {H : Hp} {a : Addr} {bs : List (List Nat)} {qs : List Addr} {i : Nat} {q : Addr} {l : List Nat} (h1 : H a = some (.lst (qs.map V.ref))) (e : qs[i]? = some q) (h : H q = some (.lst (nums l))) : q ≠ a := fun z => by
  rw [z, h1] at h
  exact nums_ref e (HO.lst.inj (Option.some.inj h)).symm
theorem el_app_old {bs : List (List Nat)} {own : List Nat} {i : Nat} (h : i < bs.length) : el (bs ++ [own]) i = el bs i := by
  unfold el
  rw [List.getD_eq_getElem?_getD, List.getD_eq_getElem?_getD, List.getElem?_append_left h]
theorem el_app_new {bs : List (List Nat)} {own : List Nat} : el (bs ++ [own]) bs.length = own := by
  unfold el
  rw [List.getD_eq_getElem?_getD, List.getElem?_append_right (Nat.le_refl _), Nat.sub_self]
  rfl
theorem LL.snoc {H : Hp} {a t : Addr} {bs : List (List Nat)} {own : List Nat} {xs : List V} (h : LL H a bs) (e : H a = some (.lst xs)) (ht : H t = some (.lst (nums own))) (n : t ≠ a) : LL (upd H a (.lst (xs ++ [V.ref t]))) a (bs ++ [own]) := by
  obtain ⟨qs, h1, h2, h3⟩ := h
  rw [h1] at e
  cases e
  refine ⟨qs ++ [t], by rw [upd_same, List.map_append]; rfl, by rw [List.length_append, List.length_append, h2]; rfl, fun i q hq => ?_⟩
  by_cases hi : i < qs.length
  · rw [List.getElem?_append_left hi] at hq
    have z := h3 i q hq
    rw [upd_ne (LL.ne (bs := bs) h1 hq z), z, el_app_old (by omega)]
  · have hlt := (List.getElem?_eq_some_iff.mp hq).1
    rw [List.length_append] at hlt
    have hie : i = qs.length := by
      have : [t].length = 1 := rfl
      omega
    subst hie
    rw [List.getElem?_append_right (Nat.le_refl _), Nat.sub_self] at hq
    cases Option.some.inj hq
    rw [upd_ne n, ht, h2, el_app_new]
theorem LL.set {H : Hp} {a t : Addr} {bs : List (List Nat)} {own : List Nat} {xs : List V} {r : Nat} (h : LL H a bs) (e : H a = some (.lst xs)) (ht : H t = some (.lst (nums own))) (n : t ≠ a) : LL (upd H a (.lst (xs.set r (V.ref t)))) a (bs.set r own) := by
  obtain ⟨qs, h1, h2, h3⟩ := h
  rw [h1] at e
  cases e
  refine ⟨qs.set r t, by rw [upd_same, List.map_set], by rw [List.length_set, List.length_set, h2], fun i q hq => ?_⟩
  by_cases hi : r = i
  · subst hi
    have hlt := (List.getElem?_eq_some_iff.mp hq).1
    rw [List.length_set] at hlt
    rw [List.getElem?_set_self hlt] at hq
    cases Option.some.inj hq
    rw [upd_ne n, ht]
    refine congrArg (fun l => some (HO.lst (nums l))) ?_
    unfold el
    rw [List.getD_eq_getElem?_getD, List.getElem?_set_self (by omega)]
    rfl
  · rw [List.getElem?_set_ne hi] at hq
    have z := h3 i q hq
    rw [upd_ne (LL.ne (bs := bs) h1 hq z), z]
    refine congrArg (fun l => some (HO.lst (nums l))) ?_
    unfold el
    rw [List.getD_eq_getElem?_getD, List.getD_eq_getElem?_getD, List.getElem?_set_ne hi]
theorem LL.bx {H H' : Hp} {a h c : Addr} {zs : List Int} {bs : List (List Nat)} (L : LL H a bs) (hH : HandAt H h c zs) (b : Bx h H H') : LL H' a bs := by
  obtain ⟨p, r, t, e, _⟩ := hH.ex
  obtain ⟨qs, h1, h2, h3⟩ := L
  refine ⟨qs, b _ _ h1 fun z => ?_, h2, fun i q hq => b _ _ (h3 i q hq) fun z => ?_⟩
  · rw [z, e] at h1
    have y := HO.lst.inj (Option.some.inj h1)
    cases qs with
    | nil => cases y
    | cons a1 l1 =>
      cases l1 with
      | nil => cases y
      | cons a2 l2 =>
        have := (List.cons.inj (List.cons.inj y).2).1
        cases this
  · have y := h3 i q hq
    rw [z, e] at y
    have y := HO.lst.inj (Option.some.inj y)
    cases hl : el bs i with
    | nil => rw [hl] at y; cases y
    | cons n m =>
      rw [hl] at y
      have := (List.cons.inj y).1
      cases this
theorem LL.at {H : Hp} {a : Addr} {bs : List (List Nat)} (h : LL H a bs) {i : Nat} (hi : i < bs.length) : ∃ (xs : List V) (p : Addr), H a = some (.lst xs) ∧ xs.length = bs.length ∧ xs[i]? = some (.ref p) ∧ H p = some (.lst (nums (el bs i))) := by
  obtain ⟨ps, h1, h2, h3⟩ := h
  have hp : i < ps.length := by omega
  refine ⟨_, ps[i], h1, by rw [List.length_map, h2], ?_, h3 i _ (List.getElem?_eq_getElem hp)⟩
  rw [List.getElem?_map, List.getElem?_eq_getElem hp]
  rfl
theorem bx_free {x m : Addr} {H H' : Hp} (b : Bx x H H') (h : H' m = none) (n : m ≠ x) : H m = none := by
  cases e : H m with
  | none => rfl
  | some o =>
    rw [b m o e n] at h
    cases h
theorem ok_nil : Ok [] := ⟨fun i own h => by simp at h, fun i own h => by simp at h⟩
theorem ok_snoc {bs : List (List Nat)} {own : List Nat} (ok : Ok bs) (nd : own.Nodup) (lt : ∀ k ∈ own, k < bs.length) : Ok (bs ++ [own]) := by
  have key : ∀ (i : Nat) (o : List Nat), (bs ++ [own])[i]? = some o → bs[i]? = some o ∨ (i = bs.length ∧ o = own) := fun i o h => by
    by_cases hi : i < bs.length
    · rw [List.getElem?_append_left hi] at h
      exact .inl h
    · have hlt := (List.getElem?_eq_some_iff.mp h).1
      rw [List.length_append] at hlt
      have hie : i = bs.length := by
        have : [own].length = 1 := rfl
        omega
      subst hie
      rw [List.getElem?_append_right (Nat.le_refl _), Nat.sub_self] at h
      exact .inr ⟨rfl, (Option.some.inj h).symm⟩
  constructor
  · intro i o h
    rcases key i o h with q | ⟨rfl, rfl⟩
    · exact ok.lt i o q
    · exact lt
  · intro i o h
    rcases key i o h with q | ⟨rfl, rfl⟩
    · exact ok.nd i o q
    · exact nd
theorem ok_set {bs : List (List Nat)} {own : List Nat} {r : Nat} (ok : Ok bs) (nd : own.Nodup) (lt : ∀ k ∈ own, k < r) : Ok (bs.set r own) := by
  have key : ∀ (i : Nat) (o : List Nat), (bs.set r own)[i]? = some o → bs[i]? = some o ∨ (i = r ∧ o = own) := fun i o h => by
    by_cases hi : r = i
    · subst hi
      have hlt := (List.getElem?_eq_some_iff.mp h).1
      rw [List.length_set] at hlt
      rw [List.getElem?_set_self hlt] at h
      exact .inr ⟨rfl, (Option.some.inj h).symm⟩
    · rw [List.getElem?_set_ne hi] at h
      exact .inl h
  constructor
  · intro i o h
    rcases key i o h with q | ⟨rfl, rfl⟩
    · exact ok.lt i o q
    · exact lt
  · intro i o h
    rcases key i o h with q | ⟨rfl, rfl⟩
    · exact ok.nd i o q
    · exact nd
theorem ok_by {bs : List (List Nat)} (h : ∀ i < bs.length, (∀ k ∈ el bs i, k < i) ∧ (el bs i).Nodup) : Ok bs := by
  constructor
  · intro i o e
    have := (h i (List.getElem?_eq_some_iff.mp e).1).1
    rwa [el_some e] at this
  · intro i o e
    have := (h i (List.getElem?_eq_some_iff.mp e).1).2
    rwa [el_some e] at this
def written : List (List (List Nat)) := [[[], [], [0, 1], [], [1, 3], [3, 0], [2, 4]], [[], [], [], [0, 1], [1, 2], [2, 0], [3, 4], [5]], [[], [0], [0], [2, 1], [0], [4, 2], [1, 4], [3, 4]], [[], [0], [0], [0], [1, 2], [2, 3], [3, 1], [4, 3]], [[], [0], [0], [1, 2], [0], [3, 4], [4], [5, 6]], [[], [], [0, 1], [], [2, 3], [0], [5, 3], [4]]]
theorem written_ok : ∀ j < 6, 7 ≤ (written.getD j []).length ∧ (written.getD j []).length ≤ 8 ∧ ∀ i < (written.getD j []).length, (∀ k ∈ el (written.getD j []) i, k < i) ∧ (el (written.getD j []) i).Nodup := by decide
theorem cut_take {xs : List V} {n : Nat} (h : n ≤ xs.length) : cutV xs none (some (n : Int)) = xs.take n := by
  unfold cutV
  rw [HT.sIx_none, HT.sIx_nat, Nat.min_eq_left h]
  rfl
section
variable {P : Program} {w : World} {K : PySem.W.Frag} {mg : Str → Option Value} {base : Heap}
/-! ### _law_shape(hand, many) -/
def spShape : Sp := fun vs H Q _ => ∃ (h cc : Addr) (zs : List Int) (n : Nat), vs = [.ref h, nV n] ∧ HandAt H h cc zs ∧ 1 ≤ n ∧ n ≤ 5 ∧ ∀ H' a bs, Bx h H H' → HandAt H' h cc zs → LL H' a bs → bs.length = n → Ok bs → Q (.ref a) H'
abbrev nS : List Str := ["_law_hand_here", "_law_many", "_law_breed", "_law_rows", "_law_bases_here", "_law_at", "_law_c", "_law_row"]
theorem sc29 : FnScope nS ["_law_hand_here", "_law_many"] (defScope (top 29)) := ⟨rfl, rfl, rfl, by decide +kernel, rfl, by decide +kernel, by decide +kernel⟩
theorem ok_shape (T : Txt K mg) : C8.Cal P w K mg base 4 "_law_shape" spShape [] := by
  refine dn_cal T.lshape sc29 (fun _ _ _ _ _ _ us hl => match us, hl with | [_, _], _ => rfl) (fun vs H Q E h => ?_) fun f cdv A outer s H vs Q E hr h => ?_
  · obtain ⟨h, cc, zs, c, rfl, _⟩ := h
    rfl
  · obtain ⟨h, cc, zs, n, rfl, hH, n1, n5, k⟩ := h
    refine ⟨_, pss_cons (ps_set (i := 2) sc29.nd rfl (.inl rfl) (C8.pe_c (ok_ltake T) hr (by decide) rfl (pa_cons (pv 0) (pa_cons pe_int pa_nil))))
      (pss_cons (ps_if (pt_cmpR op_lt (pv 2) pe_int (nomark _)) (pss_one (ps_ret (pe_lc (own := [("_law_c", 6)]) (g := gName 6) (tt := tYes) (te := tCall spBases [] C8.E0 (tCons (tVar 0) (tCons (tVar 6) tNil))) rfl sc29.nd (pi_range1 rfl T.range (pa_cons (pv 1) pa_nil))
          (blkOk_by (own := [("_law_c", 6)]) (N := nS) (sc := defScope (top 29)) (by decide +kernel)) (fun _ _ _ _ _ => pg_name (i := 6) sc29.nd rfl (.inl rfl)) (fun _ _ _ _ _ => pts_nil)
          (fun _ _ _ _ _ => C8.pe_c (ok_bases T) hr (by decide) rfl (pa_cons (pv 0) (pa_cons (pv 6) pa_nil)))))) pss_nil)
      (pss_cons (ps_set (i := 3) sc29.nd rfl (.inl rfl) (pe_ix ix_list (pe_lst (pa_lits (ls := written) (by rfl))) (pe_op op_sub (pv 2) pe_int) (fun _ _ => rfl)))
      (pss_cons (ps_setLc (i := 4) (own := [("_law_row", 7)]) (g := gName 7) (tt := tYes) (te := tCB (fun xs H Q => ∃ p ys, xs = [V.ref p] ∧ (SqL K H p ys ∨ SqT K H p ys) ∧ ∀ l, H l = none → Q (.ref l) (upd H l (.lst ys))) (tCons (tVar 7) tNil)) rfl sc29.nd rfl rfl (sw_true rfl rfl rfl rfl)
          (pi_list (pe_slice sl_list (pv 3) po_none (po_some (pv 1)))) (blkOk_by (own := [("_law_row", 7)]) (N := nS) (sc := defScope (top 29)) (by decide +kernel)) (fun _ _ _ _ _ => pg_name (i := 7) sc29.nd rfl (.inl rfl)) (fun _ _ _ _ _ => pts_nil)
          (fun _ _ _ _ _ => pe_callTy call_list_of rfl T.list (by decide +kernel) (pa_cons (pv 7) pa_nil)))
      (pss_cons (ps_while PassesOwn.never (pt_cmpR op_lt (pe_callB call_len_seq rfl T.len (by decide +kernel) (pa_cons (pv 4) pa_nil)) (pv 1) (nomark _)) pss_never)
      (pss_cons (ps_set (i := 5) sc29.nd rfl (.inl rfl) (C8.pe_c (ok_ltake T) hr (by decide) rfl (pa_cons (pv 0) (pa_cons (pv 1) pa_nil))))
      (pss_cons (ps_if (pt_cmpR op_eq (C8.pe_c (ok_ltake T) hr (by decide) rfl (pa_cons (pv 0) (pa_cons pe_int pa_nil))) pe_int (nomark _))
        (pss_one (ps_asg (C8.pe_c (ok_bases T) hr (by decide) rfl (pa_cons (pv 0) (pa_cons (pv 5) pa_nil))) (pg_sub (pv 4) (pv 5) set_list))) pss_nil)
      (pss_one (ps_ret (pv 4))))))))), ?_⟩
    refine ⟨_, rfl, h, cc, zs, 8, rfl, hH, (by decide), (by decide), fun H1 br b1 hH1 hbr => ?_⟩
    refine ⟨_, rfl, _, _, rfl, rfl, _, rfl, ?_⟩
    refine ite2 (fun _ => ?_) (fun hge => ?_)
    · refine ⟨_, rfl, _, rfl, by omega, by omega, fun D hD => ?_⟩
      rw [Int.toNat_natCast]
      have nD := hH1.apart hD
      refine lc_range (lo := 0) (n := n) (fun i H2 => Bx h H1 H2 ∧ HandAt H2 h cc zs ∧ ∃ bs, LL H2 D bs ∧ bs.length = i ∧ Ok bs) ⟨Bx.of (same_upd hD), hH1.same (same_upd hD), [], ⟨[], upd_same, rfl, fun i q e => by simp at e⟩, rfl, ok_nil⟩ ?_ ?_
      · rintro i H2 hi ⟨b2, hH2, bs, hL, hl, ok⟩
        refine ⟨rfl, _, rfl, _, rfl, h, cc, zs, i, ?_, hH2, by omega, fun H3 t l b3 hH3 ht htl nd lt => ?_⟩
        · exact congrArg (fun z : Int => [V.ref h, V.int z]) (Int.zero_add _)
        · obtain ⟨qs, q1, q2, q3⟩ := id (hL.bx hH2 b3)
          have hL3 := hL.bx hH2 b3
          obtain ⟨qs0, z1, _, _⟩ := id hL
          have ntD : t ≠ D := fun e => by
            rw [e, z1] at ht
            cases ht
          refine ⟨_, q1, ?_, bx_mut (Bx.trans b2 b3) hD, hand_mut hH3 nD, bs ++ [l], hL3.snoc q1 htl ntD, by rw [List.length_append, hl]; rfl, ok_snoc ok nd (by rw [hl]; exact lt)⟩
          rw [List.length_map, q2]
          exact small1000 (by omega)
      · rintro H2 ⟨b2, hH2, bs, hL, hl, ok⟩
        exact k H2 D bs (Bx.trans b1 b2) hH2 hL hl ok
    · rw [decide_eq_true_iff] at hge
      have hbr2 : 2 ≤ br := by omega
      obtain ⟨j, rfl⟩ : ∃ j, br = j + 2 := ⟨br - 2, by omega⟩
      obtain ⟨w1, w2, w3⟩ := written_ok j (by omega)
      refine fun ps H2 s2 hps hpw => ⟨by rw [List.length_map, hps]; decide, fun lit hlit => ?_⟩
      have lits := same_upd (o := .lst (ps.map V.ref)) hlit
      have hjp : j < ps.length := by
        rw [hps]
        show j < 6
        omega
      obtain ⟨p, hp⟩ : ∃ p, ps[j]? = some p := ⟨_, List.getElem?_eq_getElem hjp⟩
      have hLp := (hpw j p hp).same lits
      generalize written.getD j [] = rows at w1 w2 w3 hLp
      have okr : Ok rows := ok_by w3
      refine ⟨_, rfl, _, _, rfl, rfl, lit, ps.map V.ref, (j : Int), .ref p, rfl, ?_, SqL.of upd_same, atI_nat (by rw [List.getElem?_map, hp]; rfl), ?_⟩
      · show V.int (((j + 2 : Nat) : Int) - 2) = V.int (j : Int)
        exact congrArg V.int (by omega)
      have b2 : Bx h H1 (upd H2 lit (.lst (ps.map V.ref))) := Bx.of (Same.trans s2 lits)
      have hH2 := hH1.same (Same.trans s2 lits)
      generalize upd H2 lit (.lst (ps.map V.ref)) = H3 at b2 hH2 hLp
      obtain ⟨qs, q1, q2, q3⟩ := id hLp
      have hcut : cutV (qs.map V.ref) none (some (n : Int)) = (qs.take n).map V.ref := by
        rw [cut_take (by rw [List.length_map]; omega), List.map_take]
      refine ⟨_, rfl, _, rfl, _, rfl, p, _, rfl, SqL.of q1, fun sl hsl => ?_⟩
      rw [hcut]
      have sls := same_upd (o := .lst ((qs.take n).map V.ref)) hsl
      refine ⟨sl, rfl, ⟨_, SqL.of upd_same⟩, fun D hD => ?_⟩
      have Ds := same_upd (o := .lst []) hD
      have sD := Same.trans sls Ds
      have hsl2 := Ds _ _ (upd_same (H := H3) (a := sl) (o := .lst ((qs.take n).map V.ref)))
      refine lc_list (K := K) (a := sl) (xs := (qs.take n).map V.ref) (fun i H4 => Same (upd H3 sl (.lst ((qs.take n).map V.ref))) H4 ∧ LL H4 D (rows.take i)) ⟨Ds, [], upd_same, rfl, fun i q e => by simp at e⟩ (fun i H4 _ p4 => SqL.of (p4.1 _ _ upd_same)) ?_ ?_
      · rintro i y H4 hi ⟨s4, hL4⟩
        rw [List.getElem?_map, List.getElem?_take] at hi
        split at hi
        · rename_i hin
          cases hq : qs[i]? with
          | none => rw [hq] at hi; cases hi
          | some q =>
            rw [hq] at hi
            cases hi
            have hil : i < rows.length := by omega
            have hqr := s4 _ _ (sls _ _ (q3 i q hq))
            refine ⟨rfl, _, rfl, q, _, rfl, .inl (SqL.of hqr), fun t ht => ?_⟩
            have t4 := same_upd (o := .lst (nums (el rows i))) ht
            obtain ⟨rs, r1, r2, r3⟩ := id hL4
            have ntD : t ≠ D := fun e => by
              rw [e, r1] at ht
              cases ht
            refine ⟨_, t4 _ _ r1, ?_, same_mut (Same.trans s4 t4) hD, ?_⟩
            · rw [List.length_map, r2, List.length_take]
              exact small1000 (by omega)
            · have z := (hL4.same t4).snoc (t4 _ _ r1) upd_same ntD
              rw [take_more (el_getD hil)]
              exact z
        · cases hi
      · rintro H4 ⟨s4, hL4⟩
        have e1 : ((qs.take n).map V.ref).length = n := by
          rw [List.length_map, List.length_take]
          omega
        rw [e1] at hL4
        have hl4 : (rows.take n).length = n := by
          rw [List.length_take]
          omega
        have ok4 := ok_take okr n
        generalize rows.take n = bs at hL4 hl4 ok4
        have b4 : Bx h H H4 := Bx.trans b1 (Bx.trans b2 (Bx.of (Same.trans sls s4)))
        have hH4 := hH2.same (Same.trans sls s4)
        refine ⟨fun m σ H5 => σ = [some (.ref h), some (nV n), some (nV (j + 2)), some (.ref p), some (.ref D), none, none, none] ∧ H5 = H4, ⟨0, rfl, rfl⟩, ?_⟩
        rintro m σ H5 ⟨rfl, rfl⟩
        obtain ⟨xs, r1, r2⟩ : ∃ xs, H5 D = some (.lst xs) ∧ xs.length = n := by
          obtain ⟨rs, r1, r2, r3⟩ := id hL4
          exact ⟨_, r1, by rw [List.length_map, r2, hl4]⟩
        refine ⟨_, rfl, D, _, rfl, .inl (SqL.of r1), _, rfl, _, _, rfl, rfl, false, congrArg V.bl (decide_eq_false (by rw [r2]; omega)), iteF ?_⟩
        refine ⟨_, rfl, _, rfl, h, cc, zs, n, rfl, hH4, by omega, by omega, fun H6 at_ b6 hH6 hat => ?_⟩
        have hL6 := hL4.bx hH4 b6
        refine ⟨_, rfl, h, cc, zs, 3, rfl, hH6, (by decide), (by decide), fun H7 z b7 hH7 hz => ?_⟩
        have hL7 := hL6.bx hH6 b7
        have b07 := Bx.trans b4 (Bx.trans b6 b7)
        refine ⟨rfl, _, rfl, ?_⟩
        refine ite2 (fun _ => ?_) (fun _ => ⟨_, rfl, k H7 D bs b07 hH7 hL7 hl4 ok4⟩)
        refine ⟨_, rfl, _, rfl, h, cc, zs, at_, rfl, hH7, by omega, fun H8 t l b8 hH8 ht htl nd lt => ?_⟩
        have hL8 := hL7.bx hH7 b8
        obtain ⟨ys, u1, u2⟩ : ∃ xs, H7 D = some (.lst xs) ∧ xs.length = n := by
          obtain ⟨rs, r1, r2, r3⟩ := id hL7
          exact ⟨_, r1, by rw [List.length_map, r2, hl4]⟩
        have ntD : t ≠ D := fun e => by
          rw [e, u1] at ht
          cases ht
        obtain ⟨vs8, v1, v2⟩ : ∃ xs, H8 D = some (.lst xs) ∧ xs.length = n := by
          obtain ⟨rs, r1, r2, r3⟩ := id hL8
          exact ⟨_, r1, by rw [List.length_map, r2, hl4]⟩
        have nDh : D ≠ h ∧ D ≠ cc := (hH2.same sls).apart hD
        refine ⟨_, rfl, _, rfl, D, vs8, (at_ : Int), at_, rfl, rfl, v1, ?_, ?_⟩
        · unfold ixN
          rw [if_pos (by omega), if_pos (by rw [v2]; omega), Int.toNat_natCast]
        · refine ⟨_, rfl, k _ D (bs.set at_ l) ?_ (hand_mut hH8 nDh) (hL8.set v1 htl ntD) (by rw [List.length_set, hl4]) (ok_set ok4 nd lt)⟩
          have bD : Bx h H H8 := Bx.trans b07 b8
          have hDn : H D = none := bx_free (Bx.trans b1 (Bx.trans b2 (Bx.of sls))) hD nDh.1
          exact bx_mut bD hDn
end
end K14
namespace K14
open PySem PySem.Spec PyProof.Rows L2
/-! ### the hand is none of the rest -/
theorem hand_refs {H : Hp} {h c a : Addr} {zs : List Int} {qs : List Addr} (hH : HandAt H h c zs) (e : H a = some (.lst (qs.map V.ref))) : a ≠ h := fun z => by
  obtain ⟨p, r, t, e0, _⟩ := hH.ex
  rw [z, e0] at e
  have y := HO.lst.inj (Option.some.inj e)
  cases qs with
  | nil => cases y
  | cons a1 l1 =>
    cases l1 with
    | nil => cases y
    | cons a2 l2 =>
      have := (List.cons.inj (List.cons.inj y).2).1
      cases this
theorem hand_nums {H : Hp} {h c a : Addr} {zs : List Int} {l : List Nat} (hH : HandAt H h c zs) (e : H a = some (.lst (nums l))) : a ≠ h := fun z => by
  obtain ⟨p, r, t, e0, _⟩ := hH.ex
  rw [z, e0] at e
  have y := HO.lst.inj (Option.some.inj e)
  cases l with
  | nil => cases y
  | cons n m =>
    have := (List.cons.inj y).1
    cases this
theorem hand_tup {H : Hp} {h c a : Addr} {zs : List Int} {l : List V} (hH : HandAt H h c zs) (e : H a = some (.tup l)) : a ≠ h := fun z => by
  obtain ⟨p, r, t, e0, _⟩ := hH.ex
  rw [z, e0] at e
  cases e
theorem hand_nil {H : Hp} {h c a : Addr} {zs : List Int} (hH : HandAt H h c zs) (e : H a = some (.lst [])) : a ≠ h := hand_nums (l := []) hH e
/-- an entry, apart from the list D -/
def EntX (D : Addr) (H : Hp) (e : Addr) (l : List Nat) : Prop := ∃ (b m : Addr) (fl : Int), H e = some (.tup [.ref b, .int fl, .ref m]) ∧ H b = some (.lst (nums l)) ∧ H m = some (.lst []) ∧ 0 ≤ fl ∧ fl ≤ 3 ∧ b ≠ D ∧ m ≠ D
theorem EntX.bx {D : Addr} {H H' : Hp} {e h c : Addr} {zs : List Int} {l : List Nat} (x : EntX D H e l) (hH : HandAt H h c zs) (b : Bx h H H') : EntX D H' e l := by
  obtain ⟨p, m, fl, h1, h2, h3, q⟩ := x
  exact ⟨p, m, fl, b _ _ h1 (hand_tup hH h1), b _ _ h2 (hand_nums hH h2), b _ _ h3 (hand_nil hH h3), q⟩
theorem EntX.same {D : Addr} {H H' : Hp} {e : Addr} {l : List Nat} (x : EntX D H e l) (s : Same H H') : EntX D H' e l := by
  obtain ⟨p, m, fl, h1, h2, h3, q⟩ := x
  exact ⟨p, m, fl, s _ _ h1, s _ _ h2, s _ _ h3, q⟩
theorem EntX.mut {D : Addr} {H : Hp} {e : Addr} {l : List Nat} {xs ys : List V} (x : EntX D H e l) (hD : H D = some (.lst xs)) : EntX D (upd H D (.lst ys)) e l := by
  obtain ⟨p, m, fl, h1, h2, h3, h4, h5, h6, h7⟩ := x
  have n : e ≠ D := fun z => by rw [z, hD] at h1; cases h1
  exact ⟨p, m, fl, by rw [upd_ne n]; exact h1, by rw [upd_ne h6]; exact h2, by rw [upd_ne h7]; exact h3, h4, h5, h6, h7⟩
theorem EntX.at {D : Addr} {H : Hp} {e : Addr} {l : List Nat} (x : EntX D H e l) : EntAt H e l := by
  obtain ⟨p, m, fl, h1, h2, h3, h4, h5, _⟩ := x
  exact ⟨p, m, fl, h1, h2, h3, h4, h5⟩
theorem EntAt.bx {H H' : Hp} {e h c : Addr} {zs : List Int} {l : List Nat} (x : EntAt H e l) (hH : HandAt H h c zs) (b : Bx h H H') : EntAt H' e l := by
  obtain ⟨p, m, fl, h1, h2, h3, q⟩ := x
  exact ⟨p, m, fl, b _ _ h1 (hand_tup hH h1), b _ _ h2 (hand_nums hH h2), b _ _ h3 (hand_nil hH h3), q⟩
theorem EntsAt.bx {H H' : Hp} {a h c : Addr} {zs : List Int} {bs : List (List Nat)} (x : EntsAt H a bs) (hH : HandAt H h c zs) (b : Bx h H H') : EntsAt H' a bs := by
  obtain ⟨es, h1, h2, h3⟩ := x
  exact ⟨es, b _ _ h1 (hand_refs hH h1), h2, fun i e q => (h3 i e q).bx hH b⟩
/-- an expression that is never reached -/
def tNeverE : TE := fun _ _ _ => False
theorem pe_never {X : Cx} {e : Expr} : PE X e tNeverE := ⟨fun _ _ _ _ _ _ h => h.elim⟩
section
variable {P : Program} {w : World} {K : PySem.W.Frag} {mg : Str → Option Value} {base : Heap}
/-! ### _law_classes(hand, 1, high, 8, False) -/
def spClasses : Sp := fun vs H Q _ => ∃ (h cc : Addr) (zs : List Int) (hi : Nat), vs = [.ref h, nV 1, nV hi, nV 8, .bl false] ∧ HandAt H h cc zs ∧ 1 ≤ hi ∧ hi ≤ 5 ∧
  ∀ H' a bs, Bx h H H' → HandAt H' h cc zs → EntsAt H' a bs → 1 ≤ bs.length → bs.length ≤ 5 → Ok bs → Q (.ref a) H'
abbrev nC : List Str := ["_law_hand_here", "_law_low", "_law_high", "_law_most", "_law_wanted", "_law_many", "_law_bases_here", "_law_rest", "_law_rows", "_law_own", "_law_fields"]
theorem sc30 : FnScope nC ["_law_hand_here", "_law_low", "_law_high", "_law_most", "_law_wanted"] (defScope (top 30)) := ⟨rfl, rfl, rfl, by decide +kernel, rfl, by decide +kernel, by decide +kernel⟩
theorem ok_classes (T : Txt K mg) : C8.Cal P w K mg base 5 "_law_classes" spClasses [] := by
  refine dn_cal T.lclasses sc30 (fun _ _ _ _ _ _ us hl => match us, hl with | [_, _, _, _, _], _ => rfl) (fun vs H Q E h => ?_) fun f cdv A outer s H vs Q E hr h => ?_
  · obtain ⟨h, cc, zs, c, rfl, _⟩ := h
    rfl
  · obtain ⟨h, cc, zs, hi, rfl, hH, hi1, hi5, k⟩ := h
    refine ⟨_, pss_cons (ps_set (i := 5) sc30.nd rfl (.inl rfl) (pe_op op_add (pv 1) (pe_callB (call_max2 rfl) rfl T.max (by decide +kernel)
        (pa_cons (C8.pe_c (ok_ltake T) hr (by decide) rfl (pa_cons (pv 0) (pa_cons (pe_op op_add (pe_op op_sub (pv 2) (pv 1)) pe_int) pa_nil))) (pa_cons (C8.pe_c (ok_ltake T) hr (by decide) rfl (pa_cons (pv 0) (pa_cons (pe_op op_add (pe_op op_sub (pv 2) (pv 1)) pe_int) pa_nil))) pa_nil)))))
      (pss_cons (ps_set (i := 6) sc30.nd rfl (.inl rfl) (C8.pe_c (ok_shape T) hr (by decide) rfl (pa_cons (pv 0) (pa_cons (pv 5) pa_nil))))
      (pss_cons (ps_set (i := 7) sc30.nd rfl (.inl rfl) (pv 3))
      (pss_cons (ps_set (i := 8) sc30.nd rfl (.inl rfl) (pe_lst pa_nil))
      (pss_cons (ps_for PassesOwn.never rfl (pi_list (pv 6)) (pg_name (i := 9) sc30.nd rfl (.inl rfl))
        (pss_cons (ps_set (i := 10) sc30.nd rfl (.inl rfl) (pe_callB (call_min2 rfl) rfl T.min (by decide +kernel) (pa_cons (pv 7) (pa_cons (pe_ix ix_tup
            (pe_tup (pa_cons pe_int (pa_cons pe_int (pa_cons pe_int (pa_cons pe_int (pa_cons pe_int (pa_cons pe_int (pa_cons pe_int (pa_cons pe_int (pa_cons pe_int (pa_cons pe_int pa_nil)))))))))))
            (C8.pe_c (ok_ltake T) hr (by decide) rfl (pa_cons (pv 0) (pa_cons pe_int pa_nil))) (fun _ _ => rfl)) pa_nil))))
        (pss_cons (ps_set (i := 7) sc30.nd rfl (.inl rfl) (pe_op op_sub (pv 7) (pv 10)))
        (pss_one (ps_expr (pe_bm PySem.F.plainAttrs_list PySem.F.slot_list_append PySem.F.type_list_append mt_append (pv 8)
          (pa_cons (pe_tup (pa_cons (pv 9) (pa_cons (pv 10) (pa_cons (pe_ifExp (pt_val (pv 4)) pe_never (pe_lst pa_nil)) pa_nil)))) pa_nil)))))))
      (pss_one (ps_ret (pv 8))))))), ?_⟩
    have hiE : (hi : Int) - ((1 : Nat) : Int) + 1 = hi := by omega
    have hiV : [V.ref h, V.int ((hi : Int) - ((1 : Nat) : Int) + 1)] = [V.ref h, nV hi] := congrArg (fun z : Int => [V.ref h, V.int z]) hiE
    refine ⟨_, rfl, _, rfl, _, rfl, _, rfl, _, _, rfl, rfl, _, _, rfl, rfl, h, cc, zs, hi, hiV, hH, hi1, by omega, fun H1 r1 b1 hH1 hr1 => ?_⟩
    refine ⟨_, rfl, _, rfl, _, rfl, _, _, rfl, rfl, _, _, rfl, rfl, h, cc, zs, hi, hiV, hH1, hi1, by omega, fun H2 r2 b2 hH2 hr2 => ?_⟩
    obtain ⟨n, hn, n1, n5⟩ : ∃ n : Nat, ((1 : Nat) : Int) + (if ((r2 : Nat) : Int) > ((r1 : Nat) : Int) then ((r2 : Nat) : Int) else ((r1 : Nat) : Int)) = (n : Int) ∧ 1 ≤ n ∧ n ≤ 5 := by
      split
      · exact ⟨1 + r2, by omega, by omega, by omega⟩
      · exact ⟨1 + r1, by omega, by omega, by omega⟩
    refine ⟨_, _, rfl, _, _, rfl, rfl, _, rfl, _, rfl, h, cc, zs, n, congrArg (fun z : Int => [V.ref h, V.int z]) hn, hH2, n1, n5, fun H3 bl bs b3 hH3 hL hl ok => ?_⟩
    have b03 := Bx.trans b1 (Bx.trans b2 b3)
    obtain ⟨qs, q1, q2, q3⟩ := id hL
    refine ⟨_, rfl, (by decide), fun D hD => ?_⟩
    have nD := hH3.apart hD
    have Ds := same_upd (o := .lst []) hD
    refine ⟨_, rfl, bl, rfl, ⟨_, SqL.of (Ds _ _ q1)⟩, for_list (K := K) (a := bl) (xs := qs.map V.ref) (fun i σ H4 => (∃ (v5 : Option V) (rest : Int) (u v : Option V), σ = [some (.ref h), some (nV 1), some (nV hi), some (nV 8), some (.bl false), v5, some (.ref bl), some (.int rest), some (.ref D), u, v] ∧ 0 ≤ rest) ∧
        Bx h H3 H4 ∧ HandAt H4 h cc zs ∧ ∃ es : List Addr, H4 D = some (.lst (es.map V.ref)) ∧ es.length = i ∧ ∀ (j : Nat) e, es[j]? = some e → EntX D H4 e (el bs j))
      ⟨⟨_, _, none, none, rfl, by omega⟩, Bx.of Ds, hH3.same Ds, [], upd_same, rfl, fun j e q => by simp at q⟩ (fun i σ H4 _ p => SqL.of (p.2.1 _ _ q1 (hand_refs hH3 q1))) ?_ ?_⟩
    · rintro i y σ H4 hi' ⟨⟨v5, rest, u, v, rfl, r0⟩, b4, hH4, es, hes, hel, hen⟩
      rw [List.getElem?_map] at hi'
      cases hq : qs[i]? with
      | none => rw [hq] at hi'; cases hi'
      | some q =>
        rw [hq] at hi'
        cases hi'
        have hil : i < bs.length := by
          rw [← q2]
          exact (List.getElem?_eq_some_iff.mp hq).1
        have hq3 := q3 i q hq
        have hq4 := b4 _ _ hq3 (hand_nums hH3 hq3)
        have nqD : q ≠ D := fun z => by
          rw [z, hD] at hq3
          cases hq3
        refine ⟨_, rfl, (by show 10 ≤ sizeLine; decide), fun t ht => ?_⟩
        have ts := same_upd (o := .tup (nums [1, 1, 0, 1, 2, 1, 2, 1, 1, 3])) ht
        have nt := hH4.apart ht
        refine ⟨_, rfl, h, cc, zs, 10, rfl, hH4.same ts, (by decide), (by decide), fun H5 z b5 hH5 hz => ?_⟩
        obtain ⟨f, hf, hf3⟩ := pick (ns := [1, 1, 0, 1, 2, 1, 2, 1, 1, 3]) (m := 3) (r := z) hz (by decide)
        refine ⟨t, _, _, _, rfl, rfl, .of (b5 t _ upd_same nt.1), hf, _, _, rfl, ?_⟩
        obtain ⟨fl, hfl, fl0, fl3, flr⟩ : ∃ fl : Int, (if (f : Int) < rest then (f : Int) else rest) = fl ∧ 0 ≤ fl ∧ fl ≤ 3 ∧ fl ≤ rest := ⟨_, rfl, by split <;> omega, by split <;> omega, by split <;> omega⟩
        rw [hfl]
        have b45 : Bx h H4 H5 := Bx.trans (Bx.of ts) b5
        have b35 := Bx.trans b4 b45
        have hes5 := b45 _ _ hes nD.1
        have hq5 := b45 _ _ hq4 (hand_nums hH4 hq4)
        have nHq := hand_nums hH5 hq5
        refine ⟨_, rfl, _, rfl, _, _, rfl, rfl, _, rfl, .inl ⟨rfl, _, SqL.of hes5⟩, _, rfl, _, rfl, _, rfl, false, rfl, iteF ⟨(by decide), fun mm hmm => ?_⟩⟩
        have ms := same_upd (o := .lst []) hmm
        refine ⟨(by show 3 ≤ sizeLine; decide), fun e he => ?_⟩
        have es' := same_upd (o := .tup [V.ref q, .int fl, .ref mm]) he
        have s6 := Same.trans ms es'
        have nmD : mm ≠ D := fun z => by
          rw [z, hes5] at hmm
          cases hmm
        refine ⟨D, _, _, rfl, rfl, s6 _ _ hes5, ?_, ⟨_, rest - fl, _, _, rfl, by omega⟩, bx_mut (Bx.trans b35 (Bx.of s6)) hD, hand_mut (hH5.same s6) nD, es ++ [e], by rw [upd_same, List.map_append]; rfl, by rw [List.length_append, hel]; rfl, fun j e' hj => ?_⟩
        · rw [List.length_map, hel]
          exact small1000 (by omega)
        · by_cases hje : j < es.length
          · rw [List.getElem?_append_left hje] at hj
            exact (((hen j e' hj).bx hH4 b45).same s6).mut (s6 _ _ hes5)
          · have hlt := (List.getElem?_eq_some_iff.mp hj).1
            rw [List.length_append] at hlt
            have hje2 : j = es.length := by
              have : [e].length = 1 := rfl
              omega
            subst hje2
            rw [List.getElem?_append_right (Nat.le_refl _), Nat.sub_self] at hj
            cases Option.some.inj hj
            rw [hel]
            refine EntX.mut ?_ (s6 _ _ hes5)
            exact ⟨q, mm, fl, upd_same, s6 _ _ hq5, es' _ _ upd_same, fl0, fl3, nqD, nmD⟩
    · rintro σ H4 ⟨⟨v5, rest, u, v, rfl, r0⟩, b4, hH4, es, hes, hel, hen⟩
      rw [List.length_map] at hel
      exact ⟨_, rfl, k H4 D bs (Bx.trans b03 b4) hH4 ⟨es, hes, by rw [hel, q2], fun i e he => (hen i e he).at⟩ (by omega) (by omega) ok⟩
end
end K14
namespace K14
open PySem PySem.Spec PyProof.Rows L2
/-- lists of kin -/
def KL (H : Hp) (a : Addr) (E : List (List Nat)) : Prop := ∃ qs : List Addr, H a = some (.lst (qs.map V.ref)) ∧ qs.length = E.length ∧ ∀ (i : Nat) q, qs[i]? = some q → H q = some (.lst (nums (kin E i)))
theorem KL.same {H H' : Hp} {a : Addr} {E : List (List Nat)} (h : KL H a E) (s : Same H H') : KL H' a E := by
  obtain ⟨qs, h1, h2, h3⟩ := h
  exact ⟨qs, s _ _ h1, h2, fun i q e => s _ _ (h3 i q e)⟩
theorem KL.at {H : Hp} {a : Addr} {E : List (List Nat)} (h : KL H a E) {i : Nat} (hi : i < E.length) : ∃ (xs : List V) (p : Addr), H a = some (.lst xs) ∧ xs[i]? = some (.ref p) ∧ H p = some (.lst (nums (kin E i))) := by
  obtain ⟨ps, h1, h2, h3⟩ := h
  have hp : i < ps.length := by omega
  refine ⟨_, ps[i], h1, ?_, h3 i _ (List.getElem?_eq_getElem hp)⟩
  rw [List.getElem?_map, List.getElem?_eq_getElem hp]
  rfl
theorem stepE_eq (rows : List (List Nat)) (own : List Nat) : stepE rows own = rows ++ [srt (grp rows own)] := rfl
section
variable {P : Program} {w : World} {K : PySem.W.Frag} {mg : Str → Option Value} {base : Heap}
/-! ### _law_elders(rows) -/
def spElders : Sp := fun vs H Q _ => ∃ (a : Addr) (bs : List (List Nat)), vs = [.ref a] ∧ EntsAt H a bs ∧ Ok bs ∧ bs.length ≤ 5 ∧ ∀ H' r, Same H H' → LL H' r (eldersOf bs) → Q (.ref r) H'
abbrev nE : List Str := ["_law_rows", "_law_found", "_law_bases_here", "_law_fields", "_law_methods_here", "_law_mine", "_law_base"]
theorem sc31 : FnScope nE ["_law_rows"] (defScope (top 31)) := ⟨rfl, rfl, rfl, by decide +kernel, rfl, by decide +kernel, by decide +kernel⟩
theorem ok_elders (T : Txt K mg) : C8.Cal P w K mg base 1 "_law_elders" spElders [] := by
  refine dn_cal T.lelders sc31 (fun _ _ _ _ _ _ us hl => match us, hl with | [_], _ => rfl) (fun vs H Q E h => ?_) fun f cdv A outer s H vs Q E hr h => ?_
  · obtain ⟨a, bs, rfl, _⟩ := h
    rfl
  · obtain ⟨a, bs, rfl, hE, ok, hn, k⟩ := h
    refine ⟨_, pss_cons (ps_set (i := 1) sc31.nd rfl (.inl rfl) (pe_lst pa_nil))
      (pss_cons (ps_for PassesOwn.never rfl (pi_list (pv 0)) (pg_tup rfl (pgs_cons (pg_name (i := 2) sc31.nd rfl (.inl rfl)) (pgs_cons (pg_name (i := 3) sc31.nd rfl (.inl rfl)) (pgs_cons (pg_name (i := 4) sc31.nd rfl (.inl rfl)) pgs_nil))))
        (pss_cons (ps_set (i := 5) sc31.nd rfl (.inl rfl) (pe_lst pa_nil))
        (pss_cons (ps_for PassesOwn.never rfl (pi_list (pv 2)) (pg_name (i := 6) sc31.nd rfl (.inl rfl))
          (pss_one (ps_set (i := 5) sc31.nd rfl (.inl rfl) (pe_op op_cat (pe_op op_cat (pv 5) (pe_lst (pa_cons (pv 6) pa_nil))) (pe_ix ix_list (pv 1) (pv 6) (fun _ _ => rfl))))))
        (pss_one (ps_expr (pe_bm PySem.F.plainAttrs_list PySem.F.slot_list_append PySem.F.type_list_append mt_append (pv 1)
          (pa_cons (pe_callB (cr_sortedSet rfl) rfl T.sorted (by decide +kernel) (pa_cons (pe_callTy (cr_setL rfl) rfl T.set (by decide +kernel) (pa_cons (pv 5) pa_nil)) pa_nil)) pa_nil)))))))
      (pss_one (ps_ret (pv 1)))), ?_⟩
    obtain ⟨ps, hA, hpl, hps⟩ := id hE
    refine ⟨(by decide), fun m hm => ?_⟩
    have s0 := same_upd (o := .lst []) hm
    refine ⟨_, rfl, a, rfl, ⟨_, SqL.of (s0 _ _ hA)⟩, for_list (K := K) (a := a) (xs := ps.map V.ref) (fun i σ H1 => (∃ u v v' u' w', σ = [some (.ref a), some (.ref m), u, v, v', u', w']) ∧ Same H H1 ∧ LL H1 m (eldersOf (bs.take i)))
      ⟨⟨none, none, none, none, none, rfl⟩, s0, [], upd_same, rfl, fun i p hp => by simp at hp⟩ (fun i σ H1 _ p => SqL.of (p.2.1 _ _ hA)) ?_ ?_⟩
    · rintro i y σ H1 hi ⟨⟨u, v, v', u', w', rfl⟩, s1, hR⟩
      rw [List.getElem?_map] at hi
      cases hp : ps[i]? with
      | none => rw [hp] at hi; cases hi
      | some e =>
        rw [hp] at hi
        cases hi
        have hil : i < bs.length := by
          rw [← hpl]
          exact (List.getElem?_eq_some_iff.mp hp).1
        have hown := el_getD hil
        obtain ⟨p, mt, fl, e1, e2, e3, _⟩ := (hps i e hp).same s1
        generalize el bs i = own at hown e2
        have hlE : (eldersOf (bs.take i)).length = i := elders_len bs i (Nat.le_of_lt hil)
        refine ⟨e, _, rfl, .of e1, rfl, _, _, rfl, _, _, rfl, _, _, rfl, rfl, ?_⟩
        refine ⟨(by decide), fun fa hfa => ?_⟩
        have s1' := same_upd (o := .lst []) hfa
        refine ⟨_, rfl, p, rfl, ⟨_, SqL.of (s1' _ _ e2)⟩, for_list (K := K) (a := p) (xs := nums own) (fun j σ H2 => (∃ (g : Addr) (v : Option V), σ = [some (.ref a), some (.ref m), some (.ref p), some (.int fl), some (.ref mt), some (.ref g), v] ∧ H2 g = some (.lst (nums (grp (eldersOf (bs.take i)) (own.take j))))) ∧ Same H1 H2)
          ⟨⟨fa, _, rfl, by rw [upd_same]; rfl⟩, s1'⟩ (fun j σ H2 _ q => SqL.of (q.2 _ _ e2)) ?_ ?_⟩
        · rintro j y σ H2 hj ⟨⟨g, v, rfl, hg⟩, s2⟩
          obtain ⟨b, hb, rfl⟩ := nums_of hj
          have hbi := ok.lt i own hown b (List.mem_of_getElem? hb)
          obtain ⟨xs, q, hx, _, hq, hqe⟩ := (hR.same s2).at (i := b) (by omega)
          have b1 := grp_small ok hn hown j
          have b2 : (el (eldersOf (bs.take i)) b).length ≤ 5 := by
            have := el_len (ok_take ok i) b
            omega
          refine ⟨_, rfl, _, rfl, (by show 1 ≤ sizeLine; decide), fun t1 ht1 => ?_⟩
          have t1s := same_upd (o := .lst [nV b]) ht1
          refine ⟨g, t1, _, _, rfl, rfl, t1s _ _ hg, upd_same, ?_, fun t2 ht2 => ?_⟩
          · rw [nums_len]
            exact len_le (by show _ + 1 ≤ 1000; omega)
          · have t2s := same_upd (o := .lst (nums (grp (eldersOf (bs.take i)) (own.take j)) ++ [nV b])) ht2
            have s3 := Same.trans t1s t2s
            refine ⟨_, rfl, _, rfl, m, xs, _, _, rfl, rfl, SqL.of (s3 _ _ hx), atI_nat hq, ?_⟩
            refine ⟨t2, q, _, _, rfl, rfl, upd_same, s3 _ _ hqe, ?_, fun t4 ht4 => ?_⟩
            · rw [List.length_append, nums_len, nums_len]
              exact len_le (by show (_ + 1) + _ ≤ 1000; omega)
            · refine ⟨⟨t4, _, rfl, ?_⟩, Same.trans s2 (Same.trans s3 (same_upd ht4))⟩
              rw [upd_same, grp_more hb, nums_snoc, nums_app]
              rfl
        · rintro σ H2 ⟨⟨g, v, rfl, hg⟩, s2⟩
          rw [nums_len, List.take_length] at hg
          have b1 := grp_small ok hn hown own.length
          rw [List.take_length] at b1
          have hR2 := hR.same s2
          obtain ⟨pm, hm2, hm3, _⟩ := id hR2
          refine ⟨_, rfl, .inl ⟨rfl, _, SqL.of hm2⟩, _, rfl, g, (grp (eldersOf (bs.take i)) own).map (fun n : Nat => (n : Int)), rfl, SqL.of (by rw [hg, nums_int]), by rw [List.length_map]; omega, fun t1 c ht1 hc => ?_⟩
          have t1s := same_upd (o := SetO w t1 (fun j => decide (j ∈ (grp (eldersOf (bs.take i)) own).map fun n : Nat => (n : Int))) c) ht1
          refine ⟨t1, _, c, rfl, upd_same, by rw [List.length_map] at hc; omega, fun ns t2 has hmem hlen ht2 => ?_⟩
          have ens := srt_int (l := grp (eldersOf (bs.take i)) own) has fun z => by
            rw [hmem, decide_eq_true_iff, List.mem_map]
            constructor
            · rintro ⟨n, h1, h2⟩; exact ⟨n, h1, h2.symm⟩
            · rintro ⟨n, h1, h2⟩; exact ⟨n, h1, h2.symm⟩
          subst ens
          have t2s := same_upd (o := .lst (((srt (grp (eldersOf (bs.take i)) own)).map fun n : Nat => (n : Int)).map V.int)) ht2
          have s4 := Same.trans t1s t2s
          have nt : t2 ≠ m := Ne.symm (ne_of_none (t1s _ _ hm2) ht2)
          refine ⟨m, _, _, rfl, rfl, s4 _ _ hm2, ?_, ?_⟩
          · rw [List.length_map, hm3, hlE]
            exact small1000 (by omega)
          · refine ⟨⟨_, _, _, _, _, rfl⟩, same_mut (Same.trans s1 (Same.trans s2 s4)) hm, ?_⟩
            rw [elders_more hown, stepE_eq]
            exact (hR2.same s4).snoc (s4 _ _ hm2) (by rw [upd_same, nums_int]) nt
    · rintro σ H1 ⟨⟨u, v, v', u', w', rfl⟩, s1, hR⟩
      rw [List.length_map, hpl, List.take_length] at hR
      exact ⟨_, rfl, k H1 m s1 hR⟩
/-! ### _law_kin(rows) -/
def spKin : Sp := fun vs H Q _ => ∃ (a : Addr) (bs : List (List Nat)), vs = [.ref a] ∧ EntsAt H a bs ∧ Ok bs ∧ bs.length ≤ 5 ∧ ∀ H' r, Same H H' → KL H' r (eldersOf bs) → Q (.ref r) H'
abbrev nK : List Str := ["_law_rows", "_law_elders_here", "_law_c"]
theorem sc34 : FnScope nK ["_law_rows"] (defScope (top 34)) := ⟨rfl, rfl, rfl, by decide +kernel, rfl, by decide +kernel, by decide +kernel⟩
theorem ok_kin (T : Txt K mg) : C8.Cal P w K mg base 2 "_law_kin" spKin [] := by
  refine dn_cal T.lkin sc34 (fun _ _ _ _ _ _ us hl => match us, hl with | [_], _ => rfl) (fun vs H Q E h => ?_) fun f cdv A outer s H vs Q E hr h => ?_
  · obtain ⟨a, bs, rfl, _⟩ := h
    rfl
  · obtain ⟨a, bs, rfl, hE, ok, hn, k⟩ := h
    refine ⟨_, pss_cons (ps_set (i := 1) sc34.nd rfl (.inr rfl) (C8.pe_c (ok_elders T) hr (by decide) rfl (pa_cons (pv 0) pa_nil)))
      (pss_one (ps_ret (pe_lc (own := [("_law_c", 2)]) (g := gName 2) (tt := tYes) (te := tCB (rSorted K) (tCons (tOp (fun x y H Q => ∃ p q xs ys, x = V.ref p ∧ y = V.ref q ∧ H p = some (.lst xs) ∧ H q = some (.lst ys) ∧ xs.length + ys.length ≤ sizeLine ∧ ∀ l, H l = none → Q (.ref l) (upd H l (.lst (xs ++ ys)))) (tOp (rIxL K) (tVar 1) (tVar 2)) (tLst (tCons (tVar 2) tNil))) tNil)) rfl sc34.nd
          (pi_range1 rfl T.range (pa_cons (pe_callB call_len_seq rfl T.len (by decide +kernel) (pa_cons (pv 0) pa_nil)) pa_nil))
          (blkOk_by (own := [("_law_c", 2)]) (N := nK) (sc := defScope (top 34)) (by decide +kernel)) (fun _ _ _ _ _ => pg_name (i := 2) sc34.nd rfl (.inl rfl)) (fun _ _ _ _ _ => pts_nil)
          (fun _ _ _ _ _ => pe_callB cr_sorted rfl T.sorted (by decide +kernel) (pa_cons (pe_op op_cat (pe_ix ix_list (pv 1) (pv 2) (fun _ _ => rfl)) (pe_lst (pa_cons (pv 2) pa_nil))) pa_nil))))), ?_⟩
    obtain ⟨es, hA, hel, hes⟩ := id hE
    have ek := eld_of ok
    have lE := len_elders bs
    refine ⟨_, rfl, a, bs, rfl, hE, ok, hn, fun H1 r s1 hL => ?_⟩
    generalize eldersOf bs = E' at hL ek lE k
    refine ⟨_, rfl, a, _, rfl, .inl (SqL.of (s1 _ _ hA)), _, rfl, by omega, by rw [List.length_map]; omega, fun D hD => ?_⟩
    rw [List.length_map, hel, Int.toNat_natCast]
    have Ds := same_upd (o := .lst []) hD
    refine lc_range (lo := 0) (n := bs.length) (fun i H2 => Same H1 H2 ∧ ∃ qs : List Addr, H2 D = some (.lst (qs.map V.ref)) ∧ qs.length = i ∧ ∀ (j : Nat) q, qs[j]? = some q → q ≠ D ∧ H2 q = some (.lst (nums (kin E' j)))) ⟨Ds, [], upd_same, rfl, fun j q e => by simp at e⟩ ?_ ?_
    · rintro i H2 hi ⟨s2, qs, q1, q2, q3⟩
      obtain ⟨xs, p, hx, _, hp, hpe⟩ := (hL.same s2).at (i := i) (by omega)
      refine ⟨rfl, _, rfl, _, rfl, r, xs, _, _, rfl, rfl, SqL.of hx, (by rw [Int.zero_add]; exact atI_nat hp), _, rfl, (by show 1 ≤ sizeLine; decide), fun t ht => ?_⟩
      have ts := same_upd (o := .lst [.int (0 + (i : Nat))]) ht
      have le : (el E' i).length ≤ i := below_len (asc_nodup (ek.asc i)) (ek.lt i)
      refine ⟨p, t, _, _, rfl, rfl, ts _ _ hpe, upd_same, ?_, fun t2 ht2 => ?_⟩
      · rw [nums_len]
        exact len_le (by show _ + 1 ≤ 1000; omega)
      · have t2s := same_upd (o := .lst (nums (el E' i) ++ [.int (0 + (i : Nat))])) ht2
        have e1 : nums (el E' i) ++ [V.int (0 + (i : Nat))] = nums (kin E' i) := by
          rw [Int.zero_add]
          exact nums_snoc _ _
        refine ⟨t2, (kin E' i).map (fun n : Nat => (n : Int)), rfl, SqL.of (by rw [upd_same, e1, nums_int]), ?_, fun ns t3 pm pw ht3 => ?_⟩
        · rw [List.length_map]
          unfold kin
          rw [List.length_append]
          show _ + 1 < 64
          omega
        · have ens := sorted_same (asc_kin ek i) pm pw
          subst ens
          have t3s := same_upd (o := .lst (((kin E' i).map fun n : Nat => (n : Int)).map V.int)) ht3
          have s5 := Same.trans ts (Same.trans t2s t3s)
          have n3 : t3 ≠ D := Ne.symm (ne_of_none ((Same.trans ts t2s) _ _ q1) ht3)
          refine ⟨_, s5 _ _ q1, ?_, same_mut (Same.trans s2 s5) hD, qs ++ [t3], by rw [upd_same, List.map_append]; rfl, by rw [List.length_append, q2]; rfl, fun j q hj => ?_⟩
          · rw [List.length_map, q2]
            exact small1000 (by omega)
          · by_cases hje : j < qs.length
            · rw [List.getElem?_append_left hje] at hj
              obtain ⟨z1, z2⟩ := q3 j q hj
              exact ⟨z1, by rw [upd_ne z1]; exact s5 _ _ z2⟩
            · have hlt := (List.getElem?_eq_some_iff.mp hj).1
              rw [List.length_append] at hlt
              have hje2 : j = qs.length := by
                have : [t3].length = 1 := rfl
                omega
              subst hje2
              rw [List.getElem?_append_right (Nat.le_refl _), Nat.sub_self] at hj
              cases Option.some.inj hj
              refine ⟨n3, ?_⟩
              rw [upd_ne n3, upd_same, ← nums_int, q2]
    · rintro H2 ⟨s2, qs, q1, q2, q3⟩
      exact k H2 D (Same.trans s1 s2) ⟨qs, q1, by rw [q2, lE], fun i q e => (q3 i q e).2⟩
end
end K14
namespace K14
open PySem PySem.Spec PyProof.Rows L2
/-- a row of hues, a list -/
def HL (H : Hp) (a : Addr) (hs : Hues) : Prop := H a = some (.lst (hVs hs))
section
variable {P : Program} {w : World} {K : PySem.W.Frag} {mg : Str → Option Value} {base : Heap}
/-! ### _law_pair_among(kin, hues, among) -/
def spPair : Sp := fun vs H Q _ => ∃ (x a g : Addr) (E : List (List Nat)) (hs : Hues) (among : List Nat), vs = [.ref x, .ref a, .ref g] ∧ KL H x E ∧ HL H a hs ∧ hs.length = E.length ∧ H g = some (.lst (nums among)) ∧
  (∀ k ∈ among, k < E.length) ∧ (pairIn E hs among = none → Q .non H) ∧ ∀ f s, pairIn E hs among = some (f, s) → ∀ p, H p = none → Q (.ref p) (upd H p (.tup [nV f, nV s]))
theorem sc35 : FnScope ["_law_kin_here", "_law_hues", "_law_among", "_law_first", "_law_second"] ["_law_kin_here", "_law_hues", "_law_among"] (defScope (top 35)) := ⟨rfl, rfl, rfl, by decide +kernel, rfl, by decide +kernel, by decide +kernel⟩
theorem ok_pair (T : Txt K mg) : C8.Cal P w K mg base 1 "_law_pair_among" spPair [] := by
  refine dn_cal T.lpair sc35 (fun _ _ _ _ _ _ us hl => match us, hl with | [_, _, _], _ => rfl) (fun vs H Q E h => ?_) fun f cdv A outer s H vs Q E hr h => ?_
  · obtain ⟨x, a, g, E', hs, am, rfl, _⟩ := h
    rfl
  · obtain ⟨x, a, g, E', hs, am, rfl, hW, hA, hl, hg, hlt, k0, k1⟩ := h
    refine ⟨_, pss_cons (ps_for PassesOwn.never rfl (pi_list (pv 2)) (pg_name (i := 3) sc35.nd rfl (.inl rfl)) (pss_one (ps_for PassesOwn.never rfl (pi_list (pv 2)) (pg_name (i := 4) sc35.nd rfl (.inl rfl))
        (pss_one (ps_if (PW.pt (pw_and (pt_cmpR op_lt (pv 3) (pv 4) (nomark _)) (pw_and (pt_cmpR op_notN (pe_ix ix_list (pv 1) (pv 3) (fun _ _ => rfl)) pe_non (nomark _))
            (pw_and (pt_cmpR op_eq (pe_ix ix_list (pv 1) (pv 3) (fun _ _ => rfl)) (pe_ix ix_list (pv 1) (pv 4) (fun _ _ => rfl)) (nomark _))
              (pw_and1 (pt_cmpR op_notIn_seq (pv 3) (pe_ix ix_list (pv 0) (pv 4) (fun _ _ => rfl)) rfl))))))
          (pss_one (ps_ret (pe_tup (pa_cons (pv 3) (pa_cons (pv 4) pa_nil))))) pss_nil)))))
      (pss_one (ps_ret pe_non)), ?_⟩
    refine ⟨_, rfl, g, rfl, ⟨_, SqL.of hg⟩, for_list (K := K) (a := g) (xs := nums am) (fun i σ H1 => (∃ u v, σ = [some (.ref x), some (.ref a), some (.ref g), u, v]) ∧ H1 = H ∧ (am.take i).findSome? (fun f => am.findSome? fun s => if bad E' hs f s = true then some (f, s) else none) = none)
      ⟨⟨none, none, rfl⟩, rfl, rfl⟩ (fun i σ H1 _ p => by rw [p.2.1]; exact SqL.of hg) ?_ ?_⟩
    · rintro i y σ H1 hi ⟨⟨u, v, rfl⟩, rfl, hn⟩
      obtain ⟨f1, hf1, rfl⟩ := nums_of hi
      have lf := hlt f1 (List.mem_of_getElem? hf1)
      refine ⟨_, rfl, g, rfl, ⟨_, SqL.of hg⟩, for_list (K := K) (a := g) (xs := nums am) (fun j σ H2 => (∃ v, σ = [some (.ref x), some (.ref a), some (.ref g), some (nV f1), v]) ∧ H2 = H1 ∧ (am.take j).findSome? (fun s => if bad E' hs f1 s = true then some (f1, s) else none) = none)
        ⟨⟨v, rfl⟩, rfl, rfl⟩ (fun j σ H2 _ p => by rw [p.2.1]; exact SqL.of hg) ?_ ?_⟩
      · rintro j y σ H2 hj ⟨⟨v', rfl⟩, rfl, hn2⟩
        obtain ⟨s1, hs1, rfl⟩ := nums_of hj
        have ls := hlt s1 (List.mem_of_getElem? hs1)
        have at1 : ∀ {c : Nat}, c < E'.length → atI (hVs hs) (c : Int) = some (hV (hue hs c)) := fun {c} hc => atI_nat (hVs_at (by omega))
        have go : bad E' hs f1 s1 = false → (∃ v, [some (V.ref x), some (.ref a), some (.ref g), some (nV f1), some (nV s1)] = [some (V.ref x), some (.ref a), some (.ref g), some (nV f1), v]) ∧ H2 = H2 ∧ (am.take (j + 1)).findSome? (fun s => if bad E' hs f1 s = true then some (f1, s) else none) = none :=
          fun hb => ⟨⟨_, rfl⟩, rfl, find_step hn2 hs1 (by rw [hb]; rfl)⟩
        have hb : bad E' hs f1 s1 = (decide (f1 < s1) && ((hue hs f1).isSome && (decide (hue hs f1 = hue hs s1) && !(kin E' s1).contains f1))) := rfl
        have e1 : decide ((f1 : Int) < (s1 : Int)) = decide (f1 < s1) := by
          rw [Bool.eq_iff_iff, decide_eq_true_iff, decide_eq_true_iff]
          omega
        obtain ⟨xs, q, hx, hq, hqe⟩ := hW.at ls
        refine ⟨_, rfl, _, rfl, (f1 : Int), (s1 : Int), rfl, rfl, decide (f1 < s1), congrArg V.bl e1, ?_⟩
        cases c1 : decide (f1 < s1) with
        | false =>
          rw [c1, Bool.false_and] at hb
          exact iteF (go hb)
        | true =>
          rw [c1, Bool.true_and] at hb
          refine iteT ⟨_, rfl, _, rfl, a, _, _, _, rfl, rfl, SqL.of hA, at1 lf, rfl, (hue hs f1).isSome, congrArg V.bl (hV_non _), ?_⟩
          cases c2 : (hue hs f1).isSome with
          | false =>
            rw [c2, Bool.false_and] at hb
            exact iteF (go hb)
          | true =>
            rw [c2, Bool.true_and] at hb
            refine iteT ⟨_, rfl, _, rfl, a, _, _, _, rfl, rfl, SqL.of hA, at1 lf, _, rfl, _, rfl, a, _, _, _, rfl, rfl, SqL.of hA, at1 ls, hV_scal _ _, decide (hue hs f1 = hue hs s1), congrArg V.bl (hV_eq _ _), ?_⟩
            cases c3 : decide (hue hs f1 = hue hs s1) with
            | false =>
              rw [c3, Bool.false_and] at hb
              exact iteF (go hb)
            | true =>
              rw [c3, Bool.true_and] at hb
              refine iteT ⟨_, rfl, _, rfl, _, rfl, x, _, _, _, rfl, rfl, SqL.of hx, atI_nat hq, q, _, rfl, .inl (SqL.of hqe), rfl, nums_flat _, !(kin E' s1).contains f1, ?_, ?_⟩
              · show V.bl (!inV (nV f1) (nums (kin E' s1))) = _
                rw [in_nums]
              · rw [← hb]
                cases c4 : bad E' hs f1 s1 with
                | false => exact iteF (go c4)
                | true =>
                  refine iteT ⟨_, rfl, _, rfl, (by show 2 ≤ sizeLine; decide), fun p hp => k1 f1 s1 ?_ p hp⟩
                  exact find_hit hn hf1 (find_hit hn2 hs1 (by rw [c4]; rfl))
      · rintro σ H2 ⟨⟨v', rfl⟩, rfl, hn2⟩
        exact ⟨⟨_, _, rfl⟩, rfl, find_step hn hf1 (find_all hn2 (by rw [nums_len]; exact Nat.le_refl _))⟩
    · rintro σ H1 ⟨⟨u, v, rfl⟩, rfl, hn⟩
      exact k0 (find_all hn (by rw [nums_len]; exact Nat.le_refl _))
/-! ### _law_clash(kin, hues) -/
def spLClash : Sp := fun vs H Q _ => ∃ (x a : Addr) (E : List (List Nat)) (hs : Hues), vs = [.ref x, .ref a] ∧ KL H x E ∧ HL H a hs ∧ hs.length = E.length ∧ Eld E ∧ E.length ≤ 1000 ∧
  (clash E hs E.length = none → ∀ H', Same H H' → Q .non H') ∧ ∀ c f s, clash E hs E.length = some (c, f, s) → ∀ H' p, Same H H' → H' p = some (.tup [nV c, nV f, nV s]) → Q (.ref p) H'
theorem sc36 : FnScope ["_law_kin_here", "_law_hues", "_law_c", "_law_pair"] ["_law_kin_here", "_law_hues"] (defScope (top 36)) := ⟨rfl, rfl, rfl, by decide +kernel, rfl, by decide +kernel, by decide +kernel⟩
theorem ok_lclash (T : Txt K mg) : C8.Cal P w K mg base 2 "_law_clash" spLClash [] := by
  refine dn_cal T.lclash sc36 (fun _ _ _ _ _ _ us hl => match us, hl with | [_, _], _ => rfl) (fun vs H Q E h => ?_) fun f cdv A outer s H vs Q E hr h => ?_
  · obtain ⟨x, a, E', hs, rfl, _⟩ := h
    rfl
  · obtain ⟨x, a, E', hs, rfl, hW, hA, hl, he, hn, k0, k1⟩ := h
    refine ⟨_, pss_cons (ps_for PassesOwn.never rfl (pi_range1 rfl T.range (pa_cons (pe_callB call_len_seq rfl T.len (by decide +kernel) (pa_cons (pv 0) pa_nil)) pa_nil)) (pg_name (i := 2) sc36.nd rfl (.inl rfl))
        (pss_cons (ps_set (i := 3) sc36.nd rfl (.inl rfl) (C8.pe_c (ok_pair T) hr (by decide) rfl (pa_cons (pv 0) (pa_cons (pv 1) (pa_cons (pe_ix ix_list (pv 0) (pv 2) (fun _ _ => rfl)) pa_nil)))))
          (pss_one (ps_if (pt_cmpR op_notN (pv 3) pe_non (nomark _)) (pss_one (ps_ret (pe_tup (pa_cons (pv 2) (pa_cons (pe_ix ix_tup (pv 3) pe_int (fun _ _ => rfl)) (pa_cons (pe_ix ix_tup (pv 3) pe_int (fun _ _ => rfl)) pa_nil)))))) pss_nil))))
      (pss_one (ps_ret pe_non)), ?_⟩
    obtain ⟨qs, q1, q2, q3⟩ := id hW
    refine ⟨_, rfl, x, _, rfl, .inl (SqL.of q1), _, rfl, by omega, by rw [List.length_map]; omega, ?_⟩
    rw [List.length_map, q2, Int.toNat_natCast]
    refine for_range (lo := 0) (n := E'.length) (fun i σ H2 => (∃ u v, σ = [some (.ref x), some (.ref a), u, v]) ∧ Same H H2 ∧ ((List.range E'.length).take i).findSome? (fun c => (pairIn E' hs (kin E' c)).map fun p => (c, p)) = none)
      ⟨⟨none, none, rfl⟩, Same.refl H, rfl⟩ ?_ ?_
    · rintro i σ H2 hi ⟨⟨u, v, rfl⟩, s2, hn2⟩
      have hW2 := hW.same s2
      have hA2 : HL H2 a hs := s2 _ _ hA
      obtain ⟨xs, p, hx, hp, hpe⟩ := hW2.at hi
      refine ⟨_, rfl, _, rfl, _, rfl, _, rfl, x, _, _, _, rfl, rfl, SqL.of hx, (by rw [Int.zero_add]; exact atI_nat hp), x, a, p, E', hs, kin E' i, rfl, hW2, hA2, hl, hpe, fun k hk => Nat.lt_of_le_of_lt (kin_le he hk) hi, fun hnone => ?_, fun f s hsome p hp => ?_⟩
      · exact ⟨_, rfl, rfl, _, rfl, iteF ⟨⟨_, _, rfl⟩, s2, find_step hn2 (range_at hi) (by rw [hnone]; rfl)⟩⟩
      · refine ⟨_, rfl, rfl, _, rfl, iteT ?_⟩
        have e0 : atI [nV f, nV s] 0 = some (nV f) := rfl
        have e1 : atI [nV f, nV s] 1 = some (nV s) := rfl
        refine ⟨_, rfl, _, rfl, p, _, 0, _, rfl, rfl, .of upd_same, e0, _, rfl, p, _, 1, _, rfl, rfl, .of upd_same, e1, (by show 3 ≤ sizeLine; decide), fun z hz => ?_⟩
        refine k1 i f s (find_hit hn2 (range_at hi) (by rw [hsome]; rfl)) _ z (Same.trans s2 (Same.trans (same_upd hp) (same_upd hz))) ?_
        rw [upd_same, Int.zero_add]
    · rintro σ H2 ⟨⟨u, v, rfl⟩, s2, hn2⟩
      exact k0 (find_all hn2 (by rw [List.length_range]; exact Nat.le_refl _)) H2 s2
/-! ### _law_depths(kin, hues) -/
def depV (E : List (List Nat)) (hs : Hues) (n : Nat) : List V := (List.range n).map fun c => V.int ((cnt E hs c : Int) - 1)
def spDepths : Sp := fun vs H Q _ => ∃ (x a : Addr) (E : List (List Nat)) (hs : Hues), vs = [.ref x, .ref a] ∧ KL H x E ∧ HL H a hs ∧ hs.length = E.length ∧ Eld E ∧ E.length ≤ 60 ∧
  ∀ H' r, Same H H' → H' r = some (.lst (depV E hs E.length)) → Q (.ref r) H'
def rLenSq (K : PySem.W.Frag) : List V → Hp → VK → Prop := fun xs H Q => ∃ p ys, xs = [V.ref p] ∧ (SqL K H p ys ∨ SqT K H p ys) ∧ Q (.int ys.length) H
theorem cr_lenSq {X : Cx} : CallR X (.builtin "len") (rLenSq X.K) := call_len_seq
def scO37 : Scope := { kind := .function, names := [(".0", .local), ("_law_c", .cell), ("len", .globalImplicit), ("_law_hues", .free), ("_law_kin_here", .free)], isGenerator := false, isCoroutine := false }
abbrev nD : List Str := ["_law_kin_here", "_law_hues", "_law_c", "_law_one"]
theorem sc37 : FnScope nD ["_law_kin_here", "_law_hues"] (defScope (top 37)) := ⟨rfl, rfl, rfl, by decide +kernel, rfl, by decide +kernel, by decide +kernel⟩
abbrev tIn37 (K : PySem.W.Frag) : TE := tLc (iList K (tOp (rIxL K) (tVar 0) (tVar 2))) (gName 3) (tTest (tOp rEq (tOp (rIxL K) (tVar 1) (tVar 3)) (tOp (rIxL K) (tVar 1) (tVar 2)))) (tVar 3) [3]
theorem filt_more {p : Nat → Bool} {l : List Nat} {j x : Nat} (h : l[j]? = some x) : (l.take (j + 1)).filter p = (l.take j).filter p ++ (if p x = true then [x] else []) := by
  rw [take_more h, List.filter_append]
  refine congrArg _ ?_
  rw [List.filter_cons, List.filter_nil]
theorem ok_depths (T : Txt K mg) : C8.Cal P w K mg base 1 "_law_depths" spDepths [] := by
  refine dn_cal T.ldepths sc37 (fun _ _ _ _ _ _ us hl => match us, hl with | [_, _], _ => rfl) (fun vs H Q E h => ?_) fun f cdv A outer s H vs Q E hr h => ?_
  · obtain ⟨x, a, E', hs, rfl, _⟩ := h
    rfl
  · obtain ⟨x, a, E', hs, rfl, hW, hA, hl, he, hn, k⟩ := h
    refine ⟨_, pss_one (ps_ret (pe_lc (own := [("_law_c", 2)]) (g := gName 2) (tt := tYes) (te := tOp (rI0 fun i j => .int (i - j)) (tCB (rLenSq K) (tCons (tIn37 K) tNil)) (tC (.int 1))) rfl sc37.nd
          (pi_range1 rfl T.range (pa_cons (pe_callB call_len_seq rfl T.len (by decide +kernel) (pa_cons (pv 0) pa_nil)) pa_nil))
          (blkOk_by (own := [("_law_c", 2)]) (N := nD) (sc := defScope (top 37)) (by decide +kernel)) (fun _ _ _ _ _ => pg_name (i := 2) sc37.nd rfl (.inr rfl)) (fun _ _ _ _ _ => pts_nil)
          (fun _ _ _ _ _ => pe_op op_sub (pe_callB cr_lenSq rfl T.len (by decide +kernel) (pa_cons
            (pe_lc (own := [("_law_one", 3)]) (g := gName 3) (tt := tTest (tOp rEq (tOp (rIxL K) (tVar 1) (tVar 3)) (tOp (rIxL K) (tVar 1) (tVar 2)))) (te := tVar 3) rfl sc37.nd (pi_list (pe_ix ix_list (pv 0) (pv 2) (fun _ _ => rfl)))
              (blkOk_by (own := [("_law_one", 3)]) (N := nD) (sc := relS scO37 (defScope (top 37))) (by decide +kernel)) (fun _ _ _ _ _ => pg_name (i := 3) sc37.nd rfl (.inl rfl))
              (fun _ _ _ _ _ => pts_one (pt_cmpR op_eq (pe_ix ix_list (pv 1) (pv 3) (fun _ _ => rfl)) (pe_ix ix_list (pv 1) (pv 2) (fun _ _ => rfl)) (nomark _))) (fun _ _ _ _ _ => pv 3)) pa_nil)) pe_int))), ?_⟩
    obtain ⟨qs, q1, q2, q3⟩ := id hW
    refine ⟨_, rfl, x, _, rfl, .inl (SqL.of q1), _, rfl, by omega, by rw [List.length_map]; omega, fun D hD => ?_⟩
    rw [List.length_map, q2, Int.toNat_natCast]
    refine lc_range (lo := 0) (n := E'.length) (fun i H1 => Same H H1 ∧ H1 D = some (.lst (depV E' hs i))) ⟨same_upd hD, upd_same⟩ ?_ ?_
    · rintro i H1 hi ⟨s1, hacc⟩
      have hW1 := hW.same s1
      obtain ⟨xs, p, hx, hp, hpe⟩ := hW1.at hi
      have at1 : ∀ {c : Nat}, c < E'.length → atI (hVs hs) (c : Int) = some (hV (hue hs c)) := fun {c} hc => atI_nat (hVs_at (by omega))
      refine ⟨rfl, _, rfl, _, rfl, x, xs, _, _, rfl, rfl, SqL.of hx, (by rw [Int.zero_add]; exact atI_nat hp), p, rfl, ⟨_, SqL.of hpe⟩, fun D2 hD2 => ?_⟩
      have kl : (kin E' i).length ≤ i + 1 := by
        unfold kin
        rw [List.length_append]
        have := below_len (asc_nodup (he.asc i)) (he.lt i)
        show _ + 1 ≤ _
        omega
      have fl : ∀ j, (((kin E' i).take j).filter fun o => decide (hue hs o = hue hs i)).length ≤ i + 1 := fun j => by
        refine Nat.le_trans (List.length_filter_le ..) ?_
        rw [List.length_take]
        omega
      refine lc_list (K := K) (a := p) (xs := nums (kin E' i)) (fun j H2 => Same H1 H2 ∧ H2 D2 = some (.lst (nums (((kin E' i).take j).filter fun o => decide (hue hs o = hue hs i))))) ⟨same_upd hD2, by rw [upd_same]; rfl⟩ (fun j H2 _ q => SqL.of (q.1 _ _ hpe)) ?_ ?_
      · rintro j y H2 hj ⟨s2, h2⟩
        obtain ⟨o, ho, rfl⟩ := nums_of hj
        have lo : o < E'.length := Nat.lt_of_le_of_lt (kin_le he (List.mem_of_getElem? ho)) hi
        have hA2 : HL H2 a hs := s2 _ _ (s1 _ _ hA)
        refine ⟨rfl, _, rfl, _, rfl, a, _, _, _, rfl, rfl, SqL.of hA2, at1 lo, _, rfl, _, rfl, a, _, _, _, rfl, rfl, SqL.of hA2, (by rw [Int.zero_add]; exact at1 hi), hV_scal _ _, decide (hue hs o = hue hs i), congrArg V.bl (hV_eq _ _), ?_⟩
        refine ite2 (fun hc => ⟨_, rfl, _, h2, ?_, same_mut s2 hD2, ?_⟩) fun hc => ⟨s2, ?_⟩
        · rw [nums_len]
          have := fl j
          exact small1000 (by omega)
        · rw [upd_same, nums_snoc, filt_more ho, if_pos hc]
        · rw [filt_more ho, if_neg hc, List.append_nil]
          exact h2
      · rintro H2 ⟨s2, h2⟩
        rw [nums_len, List.take_length] at h2
        refine ⟨D2, _, rfl, .inl (SqL.of h2), _, _, rfl, rfl, _, s2 _ _ hacc, ?_, same_mut (Same.trans s1 s2) hD, ?_⟩
        · unfold depV
          rw [List.length_map, List.length_range]
          exact small1000 (by omega)
        · rw [upd_same, nums_len]
          unfold depV
          rw [List.range_succ, List.map_append]
          rfl
    · rintro H1 ⟨s1, hacc⟩
      exact k H1 D s1 hacc
end
end K14
namespace K14
open PySem PySem.Spec PyProof.Rows L2
/-! ### a row and a row of its members without doubles -/
theorem nd_len {α : Type} [DecidableEq α] : ∀ {A B : List α}, A.Nodup → (∀ x ∈ A, x ∈ B) → A.length ≤ B.length
  | [], _, _, _ => Nat.zero_le _
  | a :: A, B, nd, h => by
    have nd' := List.nodup_cons.mp nd
    have h1 : a ∈ B := h a List.mem_cons_self
    have h2 : ∀ x ∈ A, x ∈ B.erase a := fun x hx => by
      have ne : x ≠ a := fun e => nd'.1 (by rw [← e]; exact hx)
      exact (List.mem_erase_of_ne ne).mpr (h x (List.mem_cons_of_mem _ hx))
    have h3 := nd_len nd'.2 h2
    rw [List.length_erase_of_mem h1] at h3
    have h4 := List.length_pos_of_mem h1
    rw [List.length_cons]
    omega
theorem nd_lt {α : Type} [DecidableEq α] : ∀ {B A : List α}, A.Nodup → (∀ x ∈ A, x ∈ B) → ¬ B.Nodup → A.length < B.length
  | [], _, _, _, h => absurd List.nodup_nil h
  | b :: B, A, nd, h, hn => by
    by_cases hb : b ∈ B
    · have := nd_len nd (B := B) fun x hx => by
        rcases List.mem_cons.mp (h x hx) with e | e
        · rw [e]; exact hb
        · exact e
      rw [List.length_cons]
      omega
    · have hn' : ¬ B.Nodup := fun q => hn (List.nodup_cons.mpr ⟨hb, q⟩)
      have h2 := nd_lt (B := B) (A := A.erase b) (nd.erase b) (fun x hx => by
        have hx' := (List.Nodup.mem_erase_iff nd).mp hx
        rcases List.mem_cons.mp (h x hx'.2) with e | e
        · exact absurd e hx'.1
        · exact e) hn'
      have h3 : A.length ≤ (A.erase b).length + 1 := by
        rw [List.length_erase]
        split <;> omega
      rw [List.length_cons]
      omega
theorem nd_eq {α : Type} [DecidableEq α] {A B : List α} (nd : A.Nodup) (h1 : ∀ x ∈ A, x ∈ B) (h2 : ∀ x ∈ B, x ∈ A) : A.length = B.length ↔ B.Nodup := by
  constructor
  · intro e
    by_cases h : B.Nodup
    · exact h
    · have := nd_lt nd h1 h
      omega
  · intro h
    have a := nd_len nd h1
    have b := nd_len h h2
    omega
section
variable {P : Program} {w : World} {K : PySem.W.Frag} {mg : Str → Option Value} {base : Heap}
/-! ### _law_depths_unlike(kin, hues) -/
def spUnlike : Sp := fun vs H Q _ => ∃ (x a : Addr) (E : List (List Nat)) (hs : Hues), vs = [.ref x, .ref a] ∧ KL H x E ∧ HL H a hs ∧ hs.length = E.length ∧ Eld E ∧ E.length ≤ 60 ∧
  ∀ H' b, Same H H' → (b = true ↔ ∀ c, c < E.length → (met E hs (kin E c)).Nodup) → Q (.bl b) H'
abbrev nU : List Str := ["_law_kin_here", "_law_hues", "_law_depths_here", "_law_row", "_law_met", "_law_one"]
theorem sc38 : FnScope nU ["_law_kin_here", "_law_hues"] (defScope (top 38)) := ⟨rfl, rfl, rfl, by decide +kernel, rfl, by decide +kernel, by decide +kernel⟩
/-- the tuples of a row -/
def pairOf (p : Int × Int) : List Int := [p.1, p.2]
theorem pairOf_inj {p q : Int × Int} (h : pairOf p = pairOf q) : p = q := by
  have h1 := (List.cons.inj h).1
  have h2 := (List.cons.inj (List.cons.inj h).2).1
  exact Prod.ext h1 h2
theorem met_more {E : List (List Nat)} {hs : Hues} {l : List Nat} {j o : Nat} (h : l[j]? = some o) : met E hs (l.take (j + 1)) = met E hs (l.take j) ++ (if (hue hs o).isSome = true then [((hue hs o).getD 0, (cnt E hs o : Int) - 1)] else []) := by
  unfold met
  rw [filt_more h, List.map_append]
  refine congrArg _ ?_
  split <;> rfl
theorem depV_at {E : List (List Nat)} {hs : Hues} {n o : Nat} (h : o < n) : (depV E hs n)[o]? = some (V.int ((cnt E hs o : Int) - 1)) := by
  unfold depV
  rw [List.getElem?_map, range_at h]
  rfl
theorem met_len {E : List (List Nat)} {hs : Hues} {l : List Nat} : (met E hs l).length ≤ l.length := by
  unfold met
  rw [List.length_map]
  exact List.length_filter_le ..
theorem ok_unlike (T : Txt K mg) : C8.Cal P w K mg base 2 "_law_depths_unlike" spUnlike [] := by
  refine dn_cal T.lunlike sc38 (fun _ _ _ _ _ _ us hl => match us, hl with | [_, _], _ => rfl) (fun vs H Q E h => ?_) fun f cdv A outer s H vs Q E hr h => ?_
  · obtain ⟨x, a, E', hs, rfl, _⟩ := h
    rfl
  · obtain ⟨x, a, E', hs, rfl, hW, hA, hl, he, hn, k⟩ := h
    refine ⟨_, pss_cons (ps_set (i := 2) sc38.nd rfl (.inr rfl) (C8.pe_c (ok_depths T) hr (by decide) rfl (pa_cons (pv 0) (pa_cons (pv 1) pa_nil))))
      (pss_cons (ps_for PassesOwn.never rfl (pi_list (pv 0)) (pg_name (i := 3) sc38.nd rfl (.inl rfl))
        (pss_cons (ps_setLc (i := 4) (own := [("_law_one", 5)]) (g := gName 5) (tt := tTest (tOp (fun x y H Q => y = .non ∧ Q (.bl (!decide (x = .non))) H) (tOp (rIxL K) (tVar 1) (tVar 5)) (tC .non)))
            (te := tTup (tCons (tOp (rIxL K) (tVar 1) (tVar 5)) (tCons (tOp (rIxL K) (tVar 2) (tVar 5)) tNil))) rfl sc38.nd rfl rfl (sw_true rfl rfl rfl rfl) (pi_list (pv 3))
            (blkOk_by (own := [("_law_one", 5)]) (N := nU) (sc := defScope (top 38)) (by decide +kernel)) (fun _ _ _ _ _ => pg_name (i := 5) sc38.nd rfl (.inl rfl))
            (fun _ _ _ _ _ => pts_one (pt_cmpR op_notN (pe_ix ix_list (pv 1) (pv 5) (fun _ _ => rfl)) pe_non (nomark _)))
            (fun _ _ _ _ _ => pe_tup (pa_cons (pe_ix ix_list (pv 1) (pv 5) (fun _ _ => rfl)) (pa_cons (pe_ix ix_list (pv 2) (pv 5) (fun _ _ => rfl)) pa_nil))))
        (pss_one (ps_if (pt_cmpR op_ne (pe_callB cr_lenT rfl T.len (by decide +kernel) (pa_cons (pe_callTy (cr_setOfT rfl hr.units) rfl T.set (by decide +kernel) (pa_cons (pv 4) pa_nil)) pa_nil)) (pe_callB call_len_seq rfl T.len (by decide +kernel) (pa_cons (pv 4) pa_nil)) (nomark _))
          (pss_one (ps_ret pe_bl)) pss_nil))))
      (pss_one (ps_ret pe_bl))), ?_⟩
    obtain ⟨qs, q1, q2, q3⟩ := id hW
    refine ⟨_, rfl, _, rfl, x, a, E', hs, rfl, hW, hA, hl, he, hn, fun H1 r s1 hr1 => ?_⟩
    refine ⟨_, rfl, x, rfl, ⟨_, SqL.of (s1 _ _ q1)⟩, for_list (K := K) (a := x) (xs := qs.map V.ref) (fun i σ H2 => (∃ u v, σ = [some (.ref x), some (.ref a), some (.ref r), u, v, none]) ∧ Same H1 H2 ∧ ∀ c, c < i → (met E' hs (kin E' c)).Nodup)
      ⟨⟨none, none, rfl⟩, Same.refl H1, fun c hc => absurd hc (Nat.not_lt_zero _)⟩ (fun i σ H2 _ p => SqL.of (p.2.1 _ _ (s1 _ _ q1))) ?_ ?_⟩
    · rintro i y σ H2 hi ⟨⟨u, v, rfl⟩, s2, hd⟩
      rw [List.getElem?_map] at hi
      cases hq : qs[i]? with
      | none => rw [hq] at hi; cases hi
      | some q =>
        rw [hq] at hi
        cases hi
        have hil : i < E'.length := by
          rw [← q2]
          exact (List.getElem?_eq_some_iff.mp hq).1
        have hqe := s2 _ _ (s1 _ _ (q3 i q hq))
        have kl : (kin E' i).length ≤ i + 1 := by
          unfold kin
          rw [List.length_append]
          have := below_len (asc_nodup (he.asc i)) (he.lt i)
          show _ + 1 ≤ _
          omega
        have at1 : ∀ {c : Nat}, c < E'.length → atI (hVs hs) (c : Int) = some (hV (hue hs c)) := fun {c} hc => atI_nat (hVs_at (by omega))
        refine ⟨_, rfl, q, rfl, ⟨_, SqL.of hqe⟩, fun D hD => ?_⟩
        refine lc_list (K := K) (a := q) (xs := nums (kin E' i)) (fun j H3 => Same H2 H3 ∧ ∃ ks : List (Addr × List Int), H3 D = some (.lst (ks.map fun p => V.ref p.1)) ∧ ks.map (·.2) = (met E' hs ((kin E' i).take j)).map pairOf ∧ ∀ p ∈ ks, H3 p.1 = some (.tup (p.2.map V.int)))
          ⟨same_upd hD, [], upd_same, rfl, fun p hp => by cases hp⟩ (fun j H3 _ z => SqL.of (z.1 _ _ hqe)) ?_ ?_
        · rintro j y H3 hj ⟨s3, ks, k1, k2, k3⟩
          obtain ⟨o, ho, rfl⟩ := nums_of hj
          have lo : o < E'.length := Nat.lt_of_le_of_lt (kin_le he (List.mem_of_getElem? ho)) hil
          have sA := Same.trans s1 (Same.trans s2 s3)
          have hA3 : HL H3 a hs := sA _ _ hA
          have hr3 := s3 _ _ (s2 _ _ hr1)
          refine ⟨rfl, _, rfl, _, rfl, a, _, _, _, rfl, rfl, SqL.of hA3, at1 lo, rfl, (hue hs o).isSome, congrArg V.bl (hV_non _), ?_⟩
          refine ite2 (fun hc => ?_) fun hc => ⟨s3, ks, k1, by rw [met_more ho, if_neg hc, List.append_nil]; exact k2, k3⟩
          cases hh : hue hs o with
          | none => rw [hh] at hc; cases hc
          | some z =>
            have ato : atI (hVs hs) (o : Int) = some (V.int z) := by
              have := at1 lo
              rw [hh] at this
              exact this
            refine ⟨_, rfl, _, rfl, a, _, _, _, rfl, rfl, SqL.of hA3, ato, _, rfl, _, rfl, r, _, _, _, rfl, rfl, SqL.of hr3, atI_nat (depV_at lo), (by show 2 ≤ sizeLine; decide), fun t ht => ?_⟩
            have ts := same_upd (o := .tup [V.int z, V.int ((cnt E' hs o : Int) - 1)]) ht
            have kz : ks.length ≤ 60 := by
              have e := congrArg List.length k2
              rw [List.length_map, List.length_map] at e
              have := met_len (E := E') (hs := hs) (l := (kin E' i).take j)
              rw [List.length_take] at this
              omega
            refine ⟨_, ts _ _ k1, ?_, same_mut (Same.trans s3 ts) hD, ks ++ [(t, [z, (cnt E' hs o : Int) - 1])], by rw [upd_same, List.map_append]; rfl, ?_, fun p hp => ?_⟩
            · rw [List.length_map]
              exact small1000 (by omega)
            · rw [met_more ho, if_pos hc, List.map_append, List.map_append, k2, hh]
              rfl
            · have nD : ∀ {b : Addr} {l : List V}, upd H3 t (.tup [V.int z, V.int ((cnt E' hs o : Int) - 1)]) b = some (.tup l) → b ≠ D := fun {b l} e q => by
                rw [q, ts _ _ k1] at e
                cases e
              rcases List.mem_append.mp hp with m | m
              · have e := ts _ _ (k3 p m)
                rw [upd_ne (nD e)]
                exact e
              · have m' := List.mem_singleton.mp m
                subst m'
                have e : upd H3 t (.tup [V.int z, V.int ((cnt E' hs o : Int) - 1)]) t = some (.tup [V.int z, V.int ((cnt E' hs o : Int) - 1)]) := upd_same
                show upd _ D _ t = _
                rw [upd_ne (nD e)]
                exact e
        · rintro H3 ⟨s3, ks, k1, k2, k3⟩
          rw [nums_len, List.take_length] at k2
          have kz : ks.length ≤ 60 := by
            have e := congrArg List.length k2
            rw [List.length_map, List.length_map] at e
            have := met_len (E := E') (hs := hs) (l := kin E' i)
            omega
          refine ⟨_, rfl, D, ks, rfl, SqL.of k1, fun p hp => .of (k3 p hp), by omega, fun sa L hsa hsub hall => ?_⟩
          have ss := same_upd (o := SetTO P w sa L) hsa
          have s13 := Same.trans s2 (Same.trans s3 ss)
          refine ⟨sa, L, rfl, upd_same, fun nd => ?_⟩
          have iff1 := nd_eq (A := L.map (·.2)) (B := ks.map (·.2)) nd (fun z hz => by
            obtain ⟨p, hp, rfl⟩ := List.mem_map.mp hz
            exact List.mem_map_of_mem (hsub p hp)) (fun z hz => by
            obtain ⟨p, hp, rfl⟩ := List.mem_map.mp hz
            exact hall p hp)
          rw [List.length_map, List.length_map] at iff1
          have iff2 : (ks.map (·.2)).Nodup ↔ (met E' hs (kin E' i)).Nodup := by
            rw [k2]
            constructor
            · intro h
              exact (List.pairwise_map.mp h).imp fun {a b} n e => n (by rw [e])
            · intro h
              exact List.pairwise_map.mpr (h.imp fun {a b} n e => n (pairOf_inj e))
          have eb : (!decide (V.int (L.length : Int) = V.int ((ks.map fun p => V.ref p.1).length : Nat))) = !decide ((met E' hs (kin E' i)).Nodup) := by
            refine congrArg (!·) ?_
            rw [Bool.eq_iff_iff, decide_eq_true_iff, decide_eq_true_iff, ← iff2, ← iff1, List.length_map]
            constructor
            · intro h
              have := V.int.inj h
              omega
            · intro h
              rw [h]
          refine ⟨_, rfl, D, _, rfl, .inl (SqL.of (ss _ _ k1)), rfl, !decide ((met E' hs (kin E' i)).Nodup), congrArg V.bl eb, ?_⟩
          refine ite2 (fun hc => ?_) fun hc => ?_
          · refine k _ false (Same.trans s1 s13) ⟨fun h => (by cases h), fun h => ?_⟩
            have := h i hil
            rw [decide_eq_true this] at hc
            cases hc
          · refine ⟨⟨_, _, rfl⟩, s13, fun c hcl => ?_⟩
            by_cases e : c < i
            · exact hd c e
            · have e' : c = i := by omega
              subst e'
              by_cases n : (met E' hs (kin E' c)).Nodup
              · exact n
              · rw [decide_eq_false n] at hc
                exact absurd rfl hc
    · rintro σ H2 ⟨⟨u, v, rfl⟩, s2, hd⟩
      rw [List.length_map, q2] at hd
      exact k H2 true (Same.trans s1 s2) ⟨fun _ => hd, fun _ => rfl⟩
end
end K14
namespace K14
open PySem PySem.Spec PyProof.Rows L2
/-- the same none, bool, int -/
def leafV : V → Bool
  | .non => true
  | .bl _ => true
  | .int _ => true
  | _ => false
/-- values of the same build: leaves, tuples of such -/
def Lk : Nat → Hp → V → V → Prop
  | 0, _, _, _ => False
  | n + 1, H, u, v => (u = v ∧ leafV v = true) ∨ ∃ (t d : Addr) (xs ys : List V), u = .ref t ∧ v = .ref d ∧ H t = some (.tup xs) ∧ H d = some (.tup ys) ∧ xs.length = ys.length ∧ ys.length ≤ 1000 ∧ ∀ (i : Nat) x y, xs[i]? = some x → ys[i]? = some y → Lk n H x y
section
variable {P : Program} {w : World} {K : PySem.W.Frag} {mg : Str → Option Value} {base : Heap}
/-! ### _law_int of an int -/
def spLInt : Sp := fun vs H Q _ => ∃ n : Int, vs = [.int n] ∧ Q (.bl true) H
theorem sc32 : FnScope ["_law_thing"] ["_law_thing"] (defScope (top 32)) := ⟨rfl, rfl, rfl, by decide +kernel, rfl, by decide +kernel, by decide +kernel⟩
theorem ok_lint (T : Txt K mg) : C8.Cal P w K mg base 1 "_law_int" spLInt [] := by
  refine dn_cal T.lint sc32 (fun _ _ _ _ _ _ us hl => match us, hl with | [_], _ => rfl) (fun vs H Q E h => ?_) fun f cdv A outer s H vs Q E hr h => ?_
  · obtain ⟨n, rfl, _⟩ := h
    rfl
  · obtain ⟨n, rfl, q⟩ := h
    refine ⟨_, pss_one (ps_ret (pe_and (pe_callB call_isi rfl T.isi (by decide +kernel) (pa_cons (pv 0) (pa_cons (pe_bltn (v := .ty "int") rfl T.int (by decide +kernel) rfl) pa_nil)))
      (pe_one (pe_not (pe_callB call_isi rfl T.isi (by decide +kernel) (pa_cons (pv 0) (pa_cons (pe_bltn (v := .ty "bool") rfl T.bool (by decide +kernel) rfl) pa_nil))))))), ?_⟩
    exact ⟨_, rfl, _, _, _, _, true, rfl, .ty _, .base (.int n), kit_ty (by decide +kernel), _, rfl, iteT ⟨_, rfl, _, _, _, _, false, rfl, .ty _, .base (.int n), kit_ty (by decide +kernel), false, rfl, q⟩⟩
/-! ### _law_exact of two of the same build -/
def spExact (n : Nat) : Sp := fun vs H Q _ => ∃ u v, vs = [u, v] ∧ Lk n H u v ∧ Q (.bl true) H
theorem sc33 : FnScope ["_law_thing", "_law_due", "_law_at"] ["_law_thing", "_law_due"] (defScope (top 33)) := ⟨rfl, rfl, rfl, by decide +kernel, rfl, by decide +kernel, by decide +kernel⟩
theorem ok_exact (T : Txt K mg) : ∀ n, C8.Cal P w K mg base (n + 1) "_law_exact" (spExact n) []
  | 0 => by
    refine dn_cal T.lexact sc33 (fun _ _ _ _ _ _ us hl => match us, hl with | [_, _], _ => rfl) (fun vs H Q E h => ?_) fun f cdv A outer s H vs Q E hr h => ?_
    · obtain ⟨u, v, rfl, _⟩ := h
      rfl
    · obtain ⟨u, v, rfl, h, _⟩ := h
      exact ⟨_, pss_never, h⟩
  | n + 1 => by
    have ih := ok_exact T n
    refine dn_cal T.lexact sc33 (fun _ _ _ _ _ _ us hl => match us, hl with | [_, _], _ => rfl) (fun vs H Q E h => ?_) fun f cdv A outer s H vs Q E hr h => ?_
    · obtain ⟨u, v, rfl, _⟩ := h
      rfl
    · obtain ⟨u, v, rfl, h, q⟩ := h
      refine ⟨_, pss_cons (ps_if (pt_val (pe_callB call_isi rfl T.isi (by decide +kernel) (pa_cons (pv 1) (pa_cons (pe_bltn (v := .ty "tuple") rfl T.tuple (by decide +kernel) rfl) pa_nil))))
          (pss_cons (ps_if (PW.pt (pw_or (pt_not (pt_val (pe_callB call_isi rfl T.isi (by decide +kernel) (pa_cons (pv 0) (pa_cons (pe_bltn (v := .ty "tuple") rfl T.tuple (by decide +kernel) rfl) pa_nil)))))
              (pw_or1 (pt_cmpR op_ne (pe_callB call_len_seq rfl T.len (by decide +kernel) (pa_cons (pv 0) pa_nil)) (pe_callB call_len_seq rfl T.len (by decide +kernel) (pa_cons (pv 1) pa_nil)) (nomark _))))) pss_never pss_nil)
          (pss_cons (ps_for PassesOwn.never rfl (pi_range1 rfl T.range (pa_cons (pe_callB call_len_seq rfl T.len (by decide +kernel) (pa_cons (pv 1) pa_nil)) pa_nil)) (pg_name (i := 2) sc33.nd rfl (.inl rfl))
            (pss_one (ps_if (pt_not (pt_val (C8.pe_c ih hr (by omega) rfl (pa_cons (pe_ix ix_tup (pv 0) (pv 2) (fun _ _ => rfl)) (pa_cons (pe_ix ix_tup (pv 1) (pv 2) (fun _ _ => rfl)) pa_nil))))) pss_never pss_nil)))
          (pss_one (ps_ret pe_bl)))) pss_nil)
        (pss_cons (ps_if (pt_cmpR op_isN (pv 1) pe_non (nomark _)) (pss_one (ps_ret (pe_cmpR op_isN (pv 0) pe_non (nomark _)))) pss_nil)
        (pss_cons (ps_if (pt_val (pe_callB call_isi rfl T.isi (by decide +kernel) (pa_cons (pv 1) (pa_cons (pe_bltn (v := .ty "bool") rfl T.bool (by decide +kernel) rfl) pa_nil))))
          (pss_one (ps_ret (pe_and (pe_callB call_isi rfl T.isi (by decide +kernel) (pa_cons (pv 0) (pa_cons (pe_bltn (v := .ty "bool") rfl T.bool (by decide +kernel) rfl) pa_nil))) (pe_one (pe_cmpR op_eq (pv 0) (pv 1) (nomark _)))))) pss_nil)
        (pss_cons (ps_if (pt_val (pe_callB call_isi rfl T.isi (by decide +kernel) (pa_cons (pv 1) (pa_cons (pe_bltn (v := .ty "int") rfl T.int (by decide +kernel) rfl) pa_nil))))
          (pss_one (ps_ret (pe_and (C8.pe_c (ok_lint T) hr (by omega) rfl (pa_cons (pv 0) pa_nil)) (pe_one (pe_cmpR op_eq (pv 0) (pv 1) (nomark _)))))) pss_nil)
        pss_never))), ?_⟩
      rcases h with ⟨rfl, hl⟩ | ⟨t, d, xs, ys, rfl, rfl, ht, hd, hlen, h1000, hall⟩
      · cases u with
        | non =>
          refine ⟨_, rfl, _, _, _, _, false, rfl, .ty _, .base .non, kit_ty (by decide +kernel), _, rfl, iteF ?_⟩
          exact ⟨_, rfl, rfl, _, rfl, iteT ⟨_, rfl, rfl, q⟩⟩
        | bl b =>
          refine ⟨_, rfl, _, _, _, _, false, rfl, .ty _, .base (.bl b), kit_ty (by decide +kernel), _, rfl, iteF ?_⟩
          refine ⟨_, rfl, rfl, _, rfl, iteF ?_⟩
          refine ⟨_, rfl, _, _, _, _, true, rfl, .ty _, .base (.bl b), kit_ty (by decide +kernel), _, rfl, iteT ?_⟩
          refine ⟨_, rfl, _, _, _, _, true, rfl, .ty _, .base (.bl b), kit_ty (by decide +kernel), _, rfl, iteT ⟨_, rfl, _, rfl, rfl, ?_⟩⟩
          show Q (.bl (decide (V.bl b = V.bl b))) H
          rw [decide_eq_true rfl]
          exact q
        | int i =>
          refine ⟨_, rfl, _, _, _, _, false, rfl, .ty _, .base (.int i), kit_ty (by decide +kernel), _, rfl, iteF ?_⟩
          refine ⟨_, rfl, rfl, _, rfl, iteF ?_⟩
          refine ⟨_, rfl, _, _, _, _, false, rfl, .ty _, .base (.int i), kit_ty (by decide +kernel), _, rfl, iteF ?_⟩
          refine ⟨_, rfl, _, _, _, _, true, rfl, .ty _, .base (.int i), kit_ty (by decide +kernel), _, rfl, iteT ?_⟩
          refine ⟨_, rfl, i, rfl, _, rfl, iteT ⟨_, rfl, _, rfl, rfl, ?_⟩⟩
          show Q (.bl (decide (V.int i = V.int i))) H
          rw [decide_eq_true rfl]
          exact q
        | _ => exact absurd (show false = true from hl) Bool.false_ne_true
      · refine ⟨_, rfl, _, _, _, _, true, rfl, .ty _, .base (.tup hd), kit_ty (by decide +kernel), _, rfl, iteT ?_⟩
        refine ⟨_, rfl, _, _, _, _, true, rfl, .ty _, .base (.tup ht), kit_ty (by decide +kernel), _, rfl, iteF ?_⟩
        have e1 : (!decide (V.int (xs.length : Int) = V.int (ys.length : Int))) = false := by
          rw [hlen, decide_eq_true rfl]
          rfl
        refine ⟨_, rfl, t, _, rfl, .inr (.of ht), _, rfl, d, _, rfl, .inr (.of hd), rfl, false, congrArg V.bl e1, iteF ?_⟩
        refine ⟨_, rfl, d, _, rfl, .inr (.of hd), _, rfl, by omega, by omega, ?_⟩
        rw [Int.toNat_natCast]
        refine for_range (lo := 0) (n := ys.length) (fun i σ H1 => (∃ v, σ = [some (.ref t), some (.ref d), v]) ∧ H1 = H) ⟨⟨none, rfl⟩, rfl⟩ ?_ ?_
        · rintro i σ H1 hi ⟨⟨v, rfl⟩, rfl⟩
          have a1 : atI xs (0 + (i : Int)) = some (xs[i]'(by omega)) := by
            rw [Int.zero_add]
            exact atI_nat (List.getElem?_eq_getElem _)
          have a2 : atI ys (0 + (i : Int)) = some (ys[i]'hi) := by
            rw [Int.zero_add]
            exact atI_nat (List.getElem?_eq_getElem _)
          exact ⟨_, rfl, _, rfl, t, _, _, _, rfl, rfl, .of ht, a1, _, rfl, _, rfl, d, _, _, _, rfl, rfl, .of hd, a2, _, _, rfl, hall i _ _ (List.getElem?_eq_getElem (by omega)) (List.getElem?_eq_getElem hi), true, rfl, iteF ⟨⟨_, rfl⟩, rfl⟩⟩
        · rintro σ H1 ⟨⟨v, rfl⟩, rfl⟩
          exact q
/-- tuples of leaves -/
theorem lk_tup {n : Nat} {H : Hp} {t d : Addr} {xs : List V} (ht : H t = some (.tup xs)) (hd : H d = some (.tup xs)) (hl : xs.length ≤ 1000) (h : ∀ x ∈ xs, leafV x = true) : Lk (n + 2) H (.ref t) (.ref d) :=
  .inr ⟨t, d, xs, xs, rfl, rfl, ht, hd, rfl, hl, fun i x y e1 e2 => .inl ⟨Option.some.inj (e1.symm.trans e2), h y (List.mem_of_getElem? e2)⟩⟩
/-! ### _law_three_right(told, due) -/
def spThree (K : PySem.W.Frag) : Sp := fun vs H Q _ => (vs = [.non, .non] ∧ Q (.bl true) H) ∨ ∃ (p d dx : Addr) (c f s : Nat), vs = [.ref p, .ref d] ∧ H p = some (.ins (gC K "Clash") dx (clashF (nV c) (nV f) (nV s))) ∧ H d = some (.tup [nV c, nV f, nV s]) ∧ ∀ H', Same H H' → Q (.bl true) H'
theorem sc39 : FnScope ["_law_told", "_law_due"] ["_law_told", "_law_due"] (defScope (top 39)) := ⟨rfl, rfl, rfl, by decide +kernel, rfl, by decide +kernel, by decide +kernel⟩
theorem ok_three (T : Txt K mg) : C8.Cal P w K mg base 4 "_law_three_right" (spThree K) [] := by
  refine dn_cal T.lthree sc39 (fun _ _ _ _ _ _ us hl => match us, hl with | [_, _], _ => rfl) (fun vs H Q E h => ?_) fun f cdv A outer s H vs Q E hr h => ?_
  · rcases h with ⟨rfl, _⟩ | ⟨p, d, dx, c, f, s, rfl, _⟩ <;> rfl
  · refine ⟨_, pss_cons (ps_if (pt_cmpR op_isN (pv 1) pe_non (nomark _)) (pss_one (ps_ret (pe_cmpR op_isN (pv 0) pe_non (nomark _)))) pss_nil)
      (pss_one (ps_ret (pe_and (pe_cmpR op_notN (pv 0) pe_non (nomark _)) (pe_one (C8.pe_c (ok_exact T 2) hr (by decide) rfl (pa_cons (pe_tup (pa_cons (pe_fld (pv 0) rfl) (pa_cons (pe_fld (pv 0) rfl) (pa_cons (pe_fld (pv 0) rfl) pa_nil)))) (pa_cons (pv 1) pa_nil))))))), ?_⟩
    rcases h with ⟨rfl, q⟩ | ⟨p, d, dx, c, f, s, rfl, hp, hd, q⟩
    · exact ⟨_, rfl, rfl, _, rfl, iteT ⟨_, rfl, rfl, q⟩⟩
    · refine ⟨_, rfl, rfl, _, rfl, iteF ⟨_, rfl, rfl, _, rfl, iteT ?_⟩⟩
      refine ⟨_, rfl, p, _, dx, _, _, rfl, hp, T.cClash.cl, T.cClash.no "cls" (by decide), rfl, _, rfl, p, _, dx, _, _, rfl, hp, T.cClash.cl, T.cClash.no "first" (by decide), rfl,
        _, rfl, p, _, dx, _, _, rfl, hp, T.cClash.cl, T.cClash.no "second" (by decide), rfl, (by show 3 ≤ sizeLine; decide), fun t ht => ?_⟩
      have ts := same_upd (o := .tup [nV c, nV f, nV s]) ht
      refine ⟨_, rfl, _, _, rfl, lk_tup upd_same (ts _ _ hd) (by show 3 ≤ 1000; decide) (fun x hx => ?_), q _ ts⟩
      rcases List.mem_cons.mp hx with rfl | hx
      · rfl
      · rcases List.mem_cons.mp hx with rfl | hx
        · rfl
        · rw [List.mem_singleton.mp hx]; rfl
end
end K14
namespace K14
open PySem PySem.Spec PyProof.Rows L2
section
variable {P : Program} {w : World} {K : PySem.W.Frag} {mg : Str → Option Value} {base : Heap}
/-! ### _law_built(world, row, due) -/
def DueAt (H : Hp) (due : V) (E : List (List Nat)) (hs : Hues) : Prop := (due = .non ∧ clash E hs E.length = none) ∨ ∃ (d : Addr) (c f s : Nat), due = .ref d ∧ H d = some (.tup [nV c, nV f, nV s]) ∧ clash E hs E.length = some (c, f, s)
theorem DueAt.same {H H' : Hp} {due : V} {E : List (List Nat)} {hs : Hues} (h : DueAt H due E hs) (s : Same H H') : DueAt H' due E hs := by
  rcases h with h | ⟨d, c, f, s', h1, h2, h3⟩
  · exact .inl h
  · exact .inr ⟨d, c, f, s', h1, s _ _ h2, h3⟩
def spBuilt (K : PySem.W.Frag) : Sp := fun vs H Q _ => ∃ (x a : Addr) (due : V) (E : List (List Nat)) (hs : Hues), vs = [.ref x, .ref a, due] ∧ WAt K H x E ∧ HL H a hs ∧ HuesOk hs E.length ∧ Eld E ∧ DueAt H due E hs ∧ ∀ H', Same H H' → Q (.bl true) H'
abbrev nB : List Str := ["_law_world", "_law_row", "_law_due", "_law_told", "_law_ladders", "error"]
theorem sc40 : FnScope nB ["_law_world", "_law_row", "_law_due"] (defScope (top 40)) := ⟨rfl, rfl, rfl, by decide +kernel, rfl, by decide +kernel, by decide +kernel⟩
theorem ok_built (T : Txt K mg) : C8.Cal P w K mg base 7 "_law_built" (spBuilt K) [] := by
  obtain ⟨fdL, FL⟩ := T.cLadd.ini
  have bL : Binds K fdL ["self", "world", "hues"] [] := FL.bindsN fun _ _ _ _ _ _ us hl => match us, hl with | [_, _, _], _ => rfl
  obtain ⟨fdE, FE⟩ := T.eqD
  have bE : Binds K fdE ["self", "other"] [] := FE.bindsN fun _ _ _ _ _ _ us hl => match us, hl with | [_, _], _ => rfl
  refine dn_cal T.lbuilt sc40 (fun _ _ _ _ _ _ us hl => match us, hl with | [_, _, _], _ => rfl) (fun vs H Q E h => ?_) fun f cdv A outer s H vs Q E hr h => ?_
  · obtain ⟨x, a, due, E', hs, rfl, _⟩ := h
    rfl
  · obtain ⟨x, a, due, E', hs, rfl, hW, hA, hok, he, hdue, k⟩ := h
    refine ⟨_, pss_cons (ps_set (i := 3) sc40.nd rfl (.inl rfl) pe_non)
      (pss_cons (ps_try_as (i := 5) (Wout := fun _ _ _ _ => False) (tb := fun W => tSeq (tAsg (tMakeS (gC K "Ladders") (spLadd K) (WE W) (tCons (tVar 0) (tCons (tVar 1) tNil))) (gName 4)) (tAsg (tTup (tCons (tFld K (tVar 4) "hues") (tCons (tOp (rEqG (DIns (gC K "World") (RSelf K))) (tFld K (tVar 4) "world") (tVar 0)) tNil))) (gName 3)))
          (ts := fun a cls d => tAsg (tTup (tCons (tXf a cls d (gC K "NotLine") "cls" (tVar 5)) (tCons (tXf a cls d (gC K "NotLine") "first" (tVar 5)) (tCons (tXf a cls d (gC K "NotLine") "second" (tVar 5)) tNil)))) (gName 3)) rfl rfl sc40.nd rfl rfl ⟨rfl, by decide, .inl T.line.mgC⟩ takes0
          (fun W pn xe tk _ => pss_cons (ps_set (i := 4) sc40.nd rfl (.inl rfl) (pe_makeS (E := fun σ => WE W σ) T.cLadd.mkr (ok_ladd T FL) hr rfl T.cLadd.mgC bL (fun σ => passAt tk σ) (pa_cons (pv 0) (pa_cons (pv 1) pa_nil))))
            (pss_one (ps_set (i := 3) sc40.nd rfl (.inl rfl) (pe_tup (pa_cons (pe_fld (pv 4) rfl) (pa_cons (pe_cmpR (op_eqG (rcG_ins (ok_eq T FE) T.eqW T.eqF bE pass0) (hr.mono (by decide))) (pe_fld (pv 4) rfl) (pv 0) (nomark _)) pa_nil))))))
          (fun a oe cls d pn hz hf => pss_one (ps_set (i := 3) sc40.nd rfl (.inl rfl) (pe_tup (pa_cons (pe_xf T.line.xf (T.line.no "cls" (by decide)) hz hf (pv 5)) (pa_cons (pe_xf T.line.xf (T.line.no "first" (by decide)) hz hf (pv 5)) (pa_cons (pe_xf T.line.xf (T.line.no "second" (by decide)) hz hf (pv 5)) pa_nil)))))))
      (pss_cons (ps_if (pt_cmpR op_isN (pv 2) pe_non (nomark _)) (pss_one (ps_ret (C8.pe_c (ok_exact T 3) hr (by decide) rfl (pa_cons (pv 3) (pa_cons (pe_tup (pa_cons (pe_callTy call_tuple_of rfl T.tuple (by decide +kernel) (pa_cons (pv 1) pa_nil)) (pa_cons pe_bl pa_nil))) pa_nil))))) pss_nil)
      (pss_one (ps_ret (C8.pe_c (ok_exact T 3) hr (by decide) rfl (pa_cons (pv 3) (pa_cons (pv 2) pa_nil))))))), ?_⟩
    obtain ⟨hl, hn, ho⟩ := id hok
    have leaf3 : ∀ {c f s : Nat}, ∀ x ∈ [nV c, nV f, nV s], leafV x = true := fun {c f s} x hx => by
      rcases List.mem_cons.mp hx with rfl | hx
      · rfl
      · rcases List.mem_cons.mp hx with rfl | hx
        · rfl
        · rw [List.mem_singleton.mp hx]; rfl
    have leafH : ∀ x ∈ hVs hs, leafV x = true := fun x hx => by
      obtain ⟨o, _, rfl⟩ := List.mem_map.mp hx
      cases o <;> rfl
    refine ⟨_, rfl, _, rfl, fun z dz hz hdz hne => ?_⟩
    have sn : Same H (upd (upd H dz (.own z)) z (.ins (gC K "Ladders") dz [])) := Same.trans (same_upd hdz) (same_upd (by rw [upd_ne hne.symm]; exact hz))
    refine ⟨z, dz, x, a, E', hs, rfl, upd_same, hW.same sn, .inl (sn _ _ hA), hok, he, fun hnone H1 r hz1 hr1 k1 => ⟨rfl, ?_⟩, fun c f s hsome H1 d s1 hd1 hd0 => ?_⟩
    · have s1 : Same H H1 := fun b o e => k1 b o (sn b o e) (ne_of_none e hz)
      obtain ⟨dx, ac, ae, fs, cs, h1, h2, h3, h4, h5, h6, h7⟩ := id (hW.same s1)
      refine ⟨_, rfl, z, _, dz, _, _, rfl, hz1, T.cLadd.cl, T.cLadd.no "hues" (by decide), rfl, _, rfl, z, _, dz, _, _, rfl, hz1, T.cLadd.cl, T.cLadd.no "world" (by decide), rfl, _, rfl,
        ⟨x, x, dx, dx, fs, fs, rfl, rfl, h1, h1, rfl, E', hW.same s1⟩, fun H2 e2 => ⟨(by show 2 ≤ sizeLine; decide), fun t ht => ?_⟩⟩
      have s2 : Same H1 H2 := e2
      have ts := same_upd (o := .tup [V.ref r, .bl true]) ht
      have s3 := Same.trans s2 ts
      rcases hdue with ⟨rfl, _⟩ | ⟨d, c, f, s', _, _, e⟩
      · refine ⟨_, rfl, rfl, _, rfl, iteT ?_⟩
        have hA3 : HL _ a hs := s3 _ _ (s1 _ _ hA)
        refine ⟨_, rfl, _, rfl, a, _, rfl, .inl ⟨SqL.of hA3, fun l hl' => ⟨(by show 2 ≤ sizeLine; decide), fun u hu => ?_⟩⟩⟩
        have ls := same_upd (o := .tup (hVs hs)) hl'
        have us := same_upd (o := .tup [V.ref l, .bl true]) hu
        have lu := Same.trans ls us
        have hrr := lu _ _ (s3 _ _ hr1)
        have hll := us _ _ (upd_same (a := l) (o := HO.tup (hVs hs)))
        refine ⟨_, _, rfl, .inr ⟨t, u, _, _, rfl, rfl, lu _ _ upd_same, upd_same, rfl, (by show 2 ≤ 1000; decide), fun i y y' e1 e2' => ?_⟩, k _ (Same.trans s1 (Same.trans s3 lu))⟩
        match i, e1, e2' with
        | 0, e1, e2' =>
          cases Option.some.inj e1
          cases Option.some.inj e2'
          exact lk_tup hrr hll (by rw [hVs_len, hl]; exact hn) leafH
        | 1, e1, e2' =>
          cases Option.some.inj e1
          cases Option.some.inj e2'
          exact .inl ⟨rfl, rfl⟩
        | i + 2, e1, _ => simp at e1
      · rw [hnone] at e
        cases e
    · rcases hdue with ⟨_, e⟩ | ⟨d2, c2, f2, s2, rfl, hd2, e⟩
      · rw [e] at hsome
        cases hsome
      · rw [e] at hsome
        cases hsome
        refine ⟨true, T.line.exm, fun _ ea hea => ?_, fun q => by cases q⟩
        refine ⟨_, rfl, rfl, rfl, d, _, _, rfl, hd1, rfl, _, rfl, rfl, rfl, d, _, _, rfl, hd1, rfl, _, rfl, rfl, rfl, d, _, _, rfl, hd1, rfl, (by show 3 ≤ sizeLine; decide), fun t ht => ?_⟩
        have ts := same_upd (o := .tup [nV c, nV f, nV s]) ht
        have s3 := Same.trans sn (Same.trans s1 ts)
        refine ⟨_, rfl, rfl, _, rfl, iteF ?_⟩
        exact ⟨_, rfl, _, rfl, _, _, rfl, lk_tup upd_same (s3 _ _ hd2) (by show 3 ≤ 1000; decide) leaf3, k _ s3⟩
end
end K14
namespace K14
open PySem PySem.Spec PyProof.Rows L2
theorem three_at {lo hi r : Int} (l0 : 0 ≤ lo) (l1 : lo ≤ 7) (h0 : 0 ≤ hi) (h1 : hi ≤ 7) : ∃ o, atI [V.int lo, V.int hi, .non] (r % 3) = some (hV o) ∧ HueOk o := by
  have e3 : r % 3 = 0 ∨ r % 3 = 1 ∨ r % 3 = 2 := by omega
  rcases e3 with e | e | e
  · rw [e]
    exact ⟨some lo, rfl, fun i q => by cases q; exact ⟨l0, l1⟩⟩
  · rw [e]
    exact ⟨some hi, rfl, fun i q => by cases q; exact ⟨h0, h1⟩⟩
  · rw [e]
    exact ⟨none, rfl, fun i q => by cases q⟩
theorem hues_ok {hs : Hues} (h : ∀ o ∈ hs, HueOk o) (i : Nat) : HueOk (hue hs i) := by
  unfold hue
  rw [List.getD_eq_getElem?_getD]
  cases e : hs[i]? with
  | none => exact fun j q => by cases q
  | some o => exact h o (List.mem_of_getElem? e)
theorem pickP {ns : List Nat} {p : Nat → Prop} {r : Nat} (hr : r < ns.length) (hb : ∀ k ∈ ns, p k) : ∃ k : Nat, atI (nums ns) (r : Int) = some (nV k) ∧ p k :=
  ⟨ns[r], atI_nat (nums_at (List.getElem?_eq_getElem hr)), hb _ (List.getElem_mem hr)⟩
theorem prs_nums (l : List Nat) (H : Hp) : Prs DFlat (nums l) (nums l) H := by
  refine ⟨rfl, fun i x y h1 h2 => ?_⟩
  obtain ⟨n, _, rfl⟩ := nums_of h1
  rw [h1] at h2
  cases Option.some.inj h2
  refine ⟨rfl, rfl, ?_⟩
  show ((n : Int) == (n : Int)) = true
  exact beq_self_eq_true _
theorem hVs_snoc (hs : Hues) (o : Option Int) : hVs hs ++ [hV o] = hVs (hs ++ [o]) := by
  unfold hVs
  rw [List.map_append]
  rfl
section
variable {P : Program} {w : World} {K : PySem.W.Frag} {mg : Str → Option Value} {base : Heap}
/-! ### law(script) -/
def spLaw (K : PySem.W.Frag) : Sp := fun vs H Q _ => ∃ (a : Addr) (zs : List Int), vs = [.ref a] ∧ SqL K H a (zs.map V.int) ∧ zs.length ≤ 1000 ∧ ∀ H', Q (.bl true) H'
abbrev nL : List Str := ["_law_script", "_law_hand_here", "_law_rows", "_law_low", "_law_high", "_law_start", "_law_world", "_law_kin_here", "_law_total", "_law_step", "_law_number", "_law_rest", "_law_row", "_law_due", "_law_bases_here", "_law_fields", "_law_methods_here"]
theorem sc41 : FnScope nL ["_law_script"] (defScope (top 41)) := ⟨rfl, rfl, rfl, by decide +kernel, rfl, by decide +kernel, by decide +kernel⟩
theorem ok_law (T : Txt K mg) {f : Addr} {fd : FuncData} (F : FunD K "law" "law" (defArgs (top 41)) (defBody (top 41)) (defScope (top 41)) [] [] f fd) : FnOk P w K mg base CX0 8 f fd ["_law_script"] (spLaw K) := by
  refine F.ok sc41 (fun vs H Q E h => ?_) fun cdv A outer s H vs Q E hr h => ?_
  · obtain ⟨a, zs, rfl, _⟩ := h
    rfl
  · obtain ⟨a, zs, rfl, hS, hz, k⟩ := h
    refine ⟨_, PSs.nox (pss_cons (ps_set (i := 1) sc41.nd rfl (.inl rfl) (C8.pe_c (ok_hand T) hr (by decide) rfl (pa_cons (pv 0) pa_nil)))
      (pss_cons (ps_set (i := 2) sc41.nd rfl (.inl rfl) (C8.pe_c (ok_classes T) hr (by decide) rfl (pa_cons (pv 1) (pa_cons pe_int (pa_cons (pe_ix ix_tup (pe_tup (pa_cons pe_int (pa_cons pe_int (pa_cons pe_int (pa_cons pe_int pa_nil)))))
          (C8.pe_c (ok_ltake T) hr (by decide) rfl (pa_cons (pv 1) (pa_cons pe_int pa_nil))) (fun _ _ => rfl)) (pa_cons pe_int (pa_cons pe_bl pa_nil)))))))
      (pss_cons (ps_set (i := 3) sc41.nd rfl (.inl rfl) (C8.pe_c (ok_ltake T) hr (by decide) rfl (pa_cons (pv 1) (pa_cons pe_int pa_nil))))
      (C8.pss_cut (ps_set (i := 4) sc41.nd rfl (.inl rfl) (pe_op op_mod (pe_callTy call_int1 rfl T.int (by decide +kernel) (pa_cons (pe_op op_add (pe_op op_add (pv 3) pe_int) (C8.pe_c (ok_ltake T) hr (by decide) rfl (pa_cons (pv 1) (pa_cons pe_int pa_nil)))) pa_nil)) pe_int))
      (pss_cons (ps_set (i := 5) sc41.nd rfl (.inl rfl) (C8.pe_c (ok_ltake T) hr (by decide) rfl (pa_cons (pv 1) (pa_cons pe_int pa_nil))))
      (pss_cons (ps_set (i := 6) sc41.nd rfl (.inl rfl) (C8.pe_mk (mk_world T) hr (by decide) rfl (pa_cons (pv 2) pa_nil)))
      (pss_cons (ps_set (i := 7) sc41.nd rfl (.inl rfl) (C8.pe_c (ok_kin T) hr (by decide) rfl (pa_cons (pv 2) pa_nil)))
      (pss_cons (ps_set (i := 8) sc41.nd rfl (.inl rfl) pe_int)
      (C8.pss_cut (ps_for PassesOwn.never rfl (pi_range1 rfl T.range (pa_cons (pe_callB call_len_seq rfl T.len (by decide +kernel) (pa_cons (pv 2) pa_nil)) pa_nil)) (pg_name (i := 9) sc41.nd rfl (.inl rfl))
        (pss_one (ps_set (i := 8) sc41.nd rfl (.inl rfl) (pe_op op_mul (pv 8) pe_int))))
      (pss_cons (ps_for PassesOwn.never rfl (pi_range1 rfl T.range (pa_cons (pv 8) pa_nil)) (pg_name (i := 10) sc41.nd rfl (.inl rfl))
        (pss_cons (ps_set (i := 11) sc41.nd rfl (.inl rfl) (pv 10))
        (pss_cons (ps_set (i := 12) sc41.nd rfl (.inl rfl) (pe_lst pa_nil))
        (C8.pss_cut (ps_for PassesOwn.never rfl (pi_range1 rfl T.range (pa_cons (pe_callB call_len_seq rfl T.len (by decide +kernel) (pa_cons (pv 2) pa_nil)) pa_nil)) (pg_name (i := 9) sc41.nd rfl (.inl rfl))
          (pss_cons (ps_expr (pe_bm PySem.F.plainAttrs_list PySem.F.slot_list_append PySem.F.type_list_append mt_append (pv 12)
            (pa_cons (pe_ix ix_tup (pe_tup (pa_cons (pv 3) (pa_cons (pv 4) (pa_cons pe_non pa_nil)))) (pe_op op_mod (pv 11) pe_int) (fun _ _ => rfl)) pa_nil)))
          (pss_one (ps_set (i := 11) sc41.nd rfl (.inl rfl) (pe_op op_fdiv (pv 11) pe_int)))))
        (C8.pss_cut (ps_set (i := 13) sc41.nd rfl (.inl rfl) (C8.pe_c (ok_lclash T) hr (by decide) rfl (pa_cons (pv 7) (pa_cons (pv 12) pa_nil))))
        (pss_cons (ps_if (pt_cmpR op_ne (pe_cmpR op_isN (pv 13) pe_non (nomark _)) (C8.pe_c (ok_unlike T) hr (by decide) rfl (pa_cons (pv 7) (pa_cons (pv 12) pa_nil))) (nomark _)) pss_never pss_nil)
        (C8.pss_cut (ps_if (pt_not (pt_val (C8.pe_c (ok_three T) hr (by decide) rfl (pa_cons (C8.pe_c (ok_flt T) hr (by decide) rfl (pa_cons (pv 6) (pa_cons (pe_callTy call_tuple_of rfl T.tuple (by decide +kernel) (pa_cons (pv 12) pa_nil)) pa_nil))) (pa_cons (pv 13) pa_nil))))) pss_never pss_nil)
        (pss_one (ps_if (PW.pt (pw_and (pt_cmpR op_eq (pe_op op_mod (pv 10) pe_int) (pv 5) (nomark _)) (pw_and1 (pt_not (pt_val (C8.pe_c (ok_built T) hr (by decide) rfl (pa_cons (pv 6) (pa_cons (pv 12) (pa_cons (pv 13) pa_nil))))))))) pss_never pss_nil)))))))))
      (pss_one (ps_ret (pe_cmpR (op_eqG (rcG_tup (mon_tup mon_flat) (eqG_tup mon_flat eqG_flat)) (hr.mono (by decide))) (pe_fld (pv 6) rfl)
        (pe_callTy cr_tup rfl T.tuple (by decide +kernel) (pa_cons (pe_lc (own := [("_law_bases_here", 14), ("_law_fields", 15), ("_law_methods_here", 16)]) (g := gTup K 3 (gCons (gName 14) (gCons (gName 15) (gCons (gName 16) gNil)))) (tt := tYes) (te := tCB (rTup K) (tCons (tVar 14) tNil)) rfl sc41.nd (pi_list (pv 2))
          (blkOk_by (own := [("_law_bases_here", 14), ("_law_fields", 15), ("_law_methods_here", 16)]) (N := nL) (sc := defScope (top 41)) (by decide +kernel))
          (fun _ _ _ _ _ => pg_tup rfl (pgs_cons (pg_name (i := 14) sc41.nd rfl (.inl rfl)) (pgs_cons (pg_name (i := 15) sc41.nd rfl (.inl rfl)) (pgs_cons (pg_name (i := 16) sc41.nd rfl (.inl rfl)) pgs_nil)))) (fun _ _ _ _ _ => pts_nil)
          (fun _ _ _ _ _ => pe_callTy cr_tup rfl T.tuple (by decide +kernel) (pa_cons (pv 14) pa_nil))) pa_nil)) (nomark _)))))))))))))), ?_⟩
    refine ⟨_, rfl, a, zs, rfl, hS, hz, fun H1 hd cc zs' s1 hH1 => ?_⟩
    refine ⟨_, rfl, (by show 4 ≤ sizeLine; decide), fun t ht => ?_⟩
    have ts := same_upd (o := .tup (nums [4, 4, 4, 5])) ht
    have nt := hH1.apart ht
    refine ⟨_, rfl, hd, cc, zs', 4, rfl, hH1.same ts, (by decide), (by decide), fun H2 r b2 hH2 hr2 => ?_⟩
    obtain ⟨j, hj, hj1, hj5⟩ := pickP (ns := [4, 4, 4, 5]) (p := fun k => 1 ≤ k ∧ k ≤ 5) (r := r) hr2 (by decide)
    refine ⟨t, _, _, _, rfl, rfl, .of (b2 t _ upd_same nt.1), hj, hd, cc, zs', j, rfl, hH2, hj1, hj5, fun H3 rows bs b3 hH3 hE n1 n5 ok => ?_⟩
    refine ⟨_, rfl, hd, cc, zs', 8, rfl, hH3, (by decide), (by decide), fun H4 lo b4 hH4 hlo => ?_⟩
    refine ⟨fun σ H5 => (∃ hi : Int, σ = [some (.ref a), some (.ref hd), some (.ref rows), some (nV lo), some (.int hi), none, none, none, none, none, none, none, none, none, none, none, none] ∧ 0 ≤ hi ∧ hi ≤ 7) ∧ Bx hd H4 H5 ∧ HandAt H5 hd cc zs', ?_, ?_⟩
    · refine ⟨_, rfl, _, _, rfl, rfl, _, rfl, hd, cc, zs', 7, rfl, hH4, (by decide), (by decide), fun H5 hq b5 hH5 hhq => ?_⟩
      have hi0 : 0 ≤ ((lo : Int) + 1 + (hq : Int)) % 8 := Int.emod_nonneg _ (by decide)
      have hi7 : ((lo : Int) + 1 + (hq : Int)) % 8 ≤ 7 := by omega
      exact ⟨_, _, rfl, rfl, .inl ⟨_, rfl, _, _, rfl, rfl, (by show (0 : Int) < 8; decide), ⟨_, rfl, hi0, hi7⟩, b5, hH5⟩⟩
    rintro σ5 H5 ⟨⟨hi, rfl, hi0, hi7⟩, b5, hH5⟩
    refine ⟨_, rfl, hd, cc, zs', 5, rfl, hH5, (by decide), (by decide), fun H6 st b6 hH6 hst => ?_⟩
    have hE6 := ((hE.bx hH3 b4).bx hH4 b5).bx hH5 b6
    refine ⟨_, rfl, fun z dz hz hdz hne => ?_⟩
    have sn : Same H6 (upd (upd H6 dz (.own z)) z (.ins (gC K "World") dz [])) := Same.trans (same_upd hdz) (same_upd (by rw [upd_ne hne.symm]; exact hz))
    refine ⟨z, dz, rows, bs, rfl, upd_same, hE6.same sn, ok, n1, n5, fun H7 b7 hW7 hB7 => ⟨rfl, ?_⟩⟩
    have s67 : Same H6 H7 := fun b o e => b7 b o (sn b o e) (ne_of_none e hz)
    have hE7 := hE6.same s67
    refine ⟨_, rfl, rows, bs, rfl, hE7, ok, n5, fun H8 kk s8 hK => ?_⟩
    have hE8 := hE7.same s8
    have hW8 := hW7.same s8
    have hB8 := hB7.same s8
    have ek := eld_of ok
    have lE := len_elders bs
    obtain ⟨es, e1, e2, e3⟩ := id hE8
    have len1 : (es.map V.ref).length = bs.length := by rw [List.length_map, e2]
    -- the number of the rows of hues
    refine ⟨fun σ H' => (∃ (t : Int) (u : Option V), σ = [some (.ref a), some (.ref hd), some (.ref rows), some (nV lo), some (.int hi), some (nV st), some (.ref z), some (.ref kk), some (.int t), u, none, none, none, none, none, none, none] ∧ 0 ≤ t ∧ t ≤ 243) ∧ H' = H8, ?_, ?_⟩
    · refine ⟨_, rfl, rows, _, rfl, .inl (SqL.of e1), _, rfl, by omega, by rw [len1]; omega, ?_⟩
      rw [len1, Int.toNat_natCast]
      refine for_range (lo := 0) (n := bs.length) (fun i σ H' => (∃ (t : Int) (u : Option V), σ = [some (.ref a), some (.ref hd), some (.ref rows), some (nV lo), some (.int hi), some (nV st), some (.ref z), some (.ref kk), some (.int t), u, none, none, none, none, none, none, none] ∧ 0 ≤ t ∧ t ≤ ((3 ^ i : Nat) : Int)) ∧ H' = H8)
        ⟨⟨_, _, rfl, by decide, by decide⟩, rfl⟩ ?_ ?_
      · rintro i σ H' hi' ⟨⟨t, u, rfl, t0, t1⟩, rfl⟩
        refine ⟨_, rfl, _, _, rfl, rfl, .inr (by decide), ⟨_, _, rfl, by omega, ?_⟩, rfl⟩
        show t * 3 ≤ _
        rw [Nat.pow_succ]
        generalize 3 ^ i = m at t1
        omega
      · rintro σ H' ⟨⟨t, u, rfl, t0, t1⟩, rfl⟩
        have p5 : 3 ^ bs.length ≤ 3 ^ 5 := Nat.pow_le_pow_right (by decide) n5
        have p6 : 3 ^ 5 = 243 := by decide
        exact ⟨⟨t, u, rfl, t0, by omega⟩, rfl⟩
    rintro σ8 H8' ⟨⟨tot, u9, rfl, tot0, tot1⟩, rfl⟩
    -- the rows of hues
    refine ⟨_, rfl, _, rfl, by omega, by omega, ?_⟩
    refine for_range (lo := 0) (n := tot.toNat) (fun i σ H' => (∃ u9 u10 u11 u12 u13 : Option V, σ = [some (.ref a), some (.ref hd), some (.ref rows), some (nV lo), some (.int hi), some (nV st), some (.ref z), some (.ref kk), some (.int tot), u9, u10, u11, u12, u13, none, none, none]) ∧ Same H8' H')
      ⟨⟨_, _, _, _, _, rfl⟩, Same.refl _⟩ ?_ ?_
    · rintro num σ H9 hnum ⟨⟨u9, u10, u11, u12, u13, rfl⟩, s9⟩
      refine ⟨_, rfl, (by decide), fun D hD => ?_⟩
      have Ds := same_upd (o := .lst []) hD
      refine ⟨fun σ H' => (∃ u9 u11 : Option V, σ = [some (.ref a), some (.ref hd), some (.ref rows), some (nV lo), some (.int hi), some (nV st), some (.ref z), some (.ref kk), some (.int tot), u9, some (.int (0 + (num : Nat))), u11, some (.ref D), u13, none, none, none]) ∧ Same H9 H' ∧ ∃ hs : Hues, H' D = some (.lst (hVs hs)) ∧ hs.length = bs.length ∧ ∀ o ∈ hs, HueOk o, ?_, ?_⟩
      · have g1 := Ds _ _ (s9 _ _ e1)
        refine ⟨_, rfl, rows, _, rfl, .inl (SqL.of g1), _, rfl, by omega, by rw [len1]; omega, ?_⟩
        rw [len1, Int.toNat_natCast]
        refine for_range (lo := 0) (n := bs.length) (fun i σ H' => (∃ (u9 : Option V) (rest : Int), σ = [some (.ref a), some (.ref hd), some (.ref rows), some (nV lo), some (.int hi), some (nV st), some (.ref z), some (.ref kk), some (.int tot), u9, some (.int (0 + (num : Nat))), some (.int rest), some (.ref D), u13, none, none, none] ∧ 0 ≤ rest) ∧ Same H9 H' ∧ ∃ hs : Hues, H' D = some (.lst (hVs hs)) ∧ hs.length = i ∧ ∀ o ∈ hs, HueOk o)
          ⟨⟨_, _, rfl, by omega⟩, Ds, [], upd_same, rfl, fun o ho => by cases ho⟩ ?_ ?_
        · rintro i σ H' hi' ⟨⟨v9, rest, rfl, r0⟩, s', hs, h1, h2, h3⟩
          obtain ⟨o, ato, ook⟩ := three_at (lo := (lo : Int)) (hi := hi) (r := rest) (by omega) (by omega) hi0 hi7
          refine ⟨_, rfl, .inl ⟨rfl, _, SqL.of h1⟩, _, rfl, _, rfl, (by show 3 ≤ sizeLine; decide), fun t ht => ?_⟩
          have ts' := same_upd (o := .tup [nV lo, V.int hi, .non]) ht
          refine ⟨_, rfl, _, _, rfl, rfl, (by show (0 : Int) < 3; decide), t, _, _, _, rfl, rfl, .of upd_same, ato, D, _, _, rfl, rfl, ts' _ _ h1, ?_, ?_⟩
          · rw [hVs_len, h2]
            exact small1000 (by omega)
          · refine ⟨_, rfl, _, _, rfl, rfl, ⟨by decide, by decide⟩, ⟨_, _, rfl, Int.ediv_nonneg r0 (by decide)⟩, same_mut (Same.trans s' ts') hD, hs ++ [o], by rw [upd_same, hVs_snoc], by rw [List.length_append, h2]; rfl, fun p hp => ?_⟩
            rcases List.mem_append.mp hp with q | q
            · exact h3 p q
            · rw [List.mem_singleton.mp q]
              exact ook
        · rintro σ H' ⟨⟨v9, rest, rfl, r0⟩, s', hs, h1, h2, h3⟩
          exact ⟨⟨_, _, rfl⟩, s', hs, h1, h2, h3⟩
      rintro σ H10 ⟨⟨v9, v11, rfl⟩, s10, hs, h1, h2, h3⟩
      have s810 := Same.trans s9 s10
      have hl : hs.length = (eldersOf bs).length := by rw [lE, h2]
      have hok : HuesOk hs (eldersOf bs).length := ⟨hl, by omega, hues_ok h3⟩
      -- what is due
      refine ⟨fun σ H' => (∃ due : V, σ = [some (.ref a), some (.ref hd), some (.ref rows), some (nV lo), some (.int hi), some (nV st), some (.ref z), some (.ref kk), some (.int tot), v9, some (.int (0 + (num : Nat))), v11, some (.ref D), some due, none, none, none] ∧ DueAt H' due (eldersOf bs) hs) ∧ Same H10 H', ?_, ?_⟩
      · exact ⟨_, rfl, _, rfl, kk, D, eldersOf bs, hs, rfl, hK.same s810, h1, hl, ek, by omega, fun hnone H' s' => ⟨⟨_, rfl, .inl ⟨rfl, hnone⟩⟩, s'⟩, fun c f s hsome H' d s' hd' => ⟨⟨_, rfl, .inr ⟨d, c, f, s, rfl, hd', hsome⟩⟩, s'⟩⟩
      rintro σ H11 ⟨⟨due, rfl, hdue⟩, s11⟩
      have s811 := Same.trans s810 s11
      refine ⟨_, rfl, rfl, _, rfl, _, rfl, kk, D, eldersOf bs, hs, rfl, hK.same s811, s11 _ _ h1, hl, ek, by omega, fun H12 b s12 hb => ?_⟩
      have hbd : (!decide (V.bl (decide (due = .non)) = V.bl b)) = false := by
        have e : decide (due = .non) = b := by
          rw [Bool.eq_iff_iff, decide_eq_true_iff, hb, ← clash_iff ek]
          rcases hdue with ⟨rfl, hn⟩ | ⟨d, c, f, s, rfl, _, hn⟩
          · exact ⟨fun _ => hn, fun _ => rfl⟩
          · rw [hn]
            exact ⟨fun q => (by cases q), fun q => (by cases q)⟩
        rw [e, decide_eq_true rfl]
        rfl
      refine ⟨rfl, false, congrArg V.bl hbd, iteF ?_⟩
      have s812 := Same.trans s811 s12
      have hD12 := s12 _ _ (s11 _ _ h1)
      have hdue12 := hdue.same s12
      refine ⟨fun σ H' => σ = [some (.ref a), some (.ref hd), some (.ref rows), some (nV lo), some (.int hi), some (nV st), some (.ref z), some (.ref kk), some (.int tot), v9, some (.int (0 + (num : Nat))), v11, some (.ref D), some due, none, none, none] ∧ Same H12 H', ?_, ?_⟩
      · refine ⟨_, rfl, _, rfl, D, _, rfl, .inl ⟨SqL.of hD12, fun l hl' => ?_⟩⟩
        have ls := same_upd (o := .tup (hVs hs)) hl'
        refine ⟨z, l, eldersOf bs, hs, rfl, hW8.same (Same.trans s812 ls), .inr upd_same, hok, ek, fun hnone H13 s13 => ?_, fun c f s hsome H13 p dx s13 hp0 hp => ?_⟩
        · rcases hdue12 with ⟨rfl, _⟩ | ⟨d, c, f, s, _, _, hn⟩
          · exact ⟨_, rfl, .inl ⟨rfl, true, rfl, iteF ⟨rfl, Same.trans ls s13⟩⟩⟩
          · rw [hnone] at hn
            cases hn
        · rcases hdue12 with ⟨_, hn⟩ | ⟨d, c', f', s', rfl, hd', hn⟩
          · rw [hn] at hsome
            cases hsome
          · rw [hn] at hsome
            cases hsome
            exact ⟨_, rfl, .inr ⟨p, d, dx, _, _, _, rfl, hp, s13 _ _ (ls _ _ hd'), fun H14 s14 => ⟨true, rfl, iteF ⟨rfl, Same.trans ls (Same.trans s13 s14)⟩⟩⟩⟩
      rintro σ H13 ⟨rfl, s13⟩
      have s813 := Same.trans s812 s13
      refine ⟨_, rfl, _, _, rfl, rfl, (by show (0 : Int) < 5; decide), _, rfl, rfl, _, rfl, ?_⟩
      refine ite2 (fun _ => ?_) fun _ => ⟨⟨_, _, _, _, _, rfl⟩, Same.trans s9 (Same.trans s10 (Same.trans s11 (Same.trans s12 s13)))⟩
      exact ⟨_, rfl, _, rfl, _, rfl, z, D, due, eldersOf bs, hs, rfl, hW8.same s813, s13 _ _ hD12, hok, ek, hdue12.same s13, fun H14 s14 => ⟨true, rfl, iteF ⟨⟨_, _, _, _, _, rfl⟩, Same.trans s9 (Same.trans s10 (Same.trans s11 (Same.trans s12 (Same.trans s13 s14))))⟩⟩⟩
    · rintro σ H9 ⟨⟨u9, u10, u11, u12, u13, rfl⟩, s9⟩
      obtain ⟨dx, ab, fs, f1, f2, f3⟩ := hB8.same s9
      have g1 := s9 _ _ e1
      refine ⟨_, rfl, z, _, dx, fs, _, rfl, f1, T.cWorld.cl, noW T "bases", f2, _, rfl, rows, rfl, ⟨_, SqL.of g1⟩, fun D hD => ?_⟩
      refine lc_list (K := K) (a := rows) (xs := es.map V.ref) (fun i H' => Same H9 H' ∧ ∃ ps : List Addr, H' D = some (.lst (ps.map V.ref)) ∧ ps.length = i ∧ ∀ (j : Nat) p, ps[j]? = some p → H' p = some (.tup (nums (el bs j)))) ⟨same_upd hD, [], upd_same, rfl, fun j p e => by simp at e⟩ (fun i H' _ p => SqL.of (p.1 _ _ g1)) ?_ ?_
      · rintro i y H' hi' ⟨s', ps, p1, p2, p3⟩
        rw [List.getElem?_map] at hi'
        cases he : es[i]? with
        | none => rw [he] at hi'; cases hi'
        | some e =>
          rw [he] at hi'
          cases hi'
          have hil : i < bs.length := by
            rw [← e2]
            exact (List.getElem?_eq_some_iff.mp he).1
          obtain ⟨b, m, fl, q1, q2, q3, _⟩ := (e3 i e he).same (Same.trans s9 s')
          refine ⟨e, _, rfl, .of q1, rfl, _, _, rfl, _, _, rfl, _, _, rfl, rfl, rfl, _, rfl, b, _, rfl, .inl ⟨SqL.of q2, fun t ht => ?_⟩⟩
          have ts' := same_upd (o := .tup (nums (el bs i))) ht
          refine ⟨_, ts' _ _ p1, ?_, same_mut (Same.trans s' ts') hD, ps ++ [t], by rw [upd_same, List.map_append]; rfl, by rw [List.length_append, p2]; rfl, fun j p hj' => ?_⟩
          · rw [List.length_map, p2]
            exact small1000 (by omega)
          · have nD : ∀ {b : Addr} {l : List V}, upd H' t (.tup (nums (el bs i))) b = some (.tup l) → b ≠ D := fun {b l} e q => by
              rw [q, ts' _ _ p1] at e
              cases e
            by_cases hje : j < ps.length
            · rw [List.getElem?_append_left hje] at hj'
              have q := ts' _ _ (p3 j p hj')
              rw [upd_ne (nD q)]
              exact q
            · have hlt := (List.getElem?_eq_some_iff.mp hj').1
              rw [List.length_append] at hlt
              have hje2 : j = ps.length := by
                have : [t].length = 1 := rfl
                omega
              subst hje2
              rw [List.getElem?_append_right (Nat.le_refl _), Nat.sub_self] at hj'
              cases Option.some.inj hj'
              have q : upd H' t (.tup (nums (el bs i))) t = some (.tup (nums (el bs i))) := upd_same
              rw [upd_ne (nD q), q, p2]
      · rintro H' ⟨s', ps, p1, p2, p3⟩
        rw [len1] at p2
        refine ⟨D, _, rfl, .inl ⟨SqL.of p1, fun l hl => ?_⟩⟩
        have ls := same_upd (o := .tup (ps.map V.ref)) hl
        obtain ⟨qs, w1, w2, w3⟩ := (f3.same s').same ls
        refine ⟨⟨ab, l, _, _, rfl, rfl, .of w1, .of upd_same, by rw [List.length_map, List.length_map, w2, p2], fun i x y h1 h2 => ?_⟩, fun H'' _ => k H''⟩
        rw [List.getElem?_map] at h1 h2
        cases hq : qs[i]? with
        | none => rw [hq] at h1; cases h1
        | some q =>
          cases hp : ps[i]? with
          | none => rw [hp] at h2; cases h2
          | some p =>
            rw [hq] at h1
            rw [hp] at h2
            cases h1
            cases h2
            exact ⟨q, p, _, _, rfl, rfl, .of (w3 i q hq), .of (ls _ _ (p3 i p hp)), prs_nums _ _⟩
end
end K14
namespace K14
open PySem PySem.Spec PyProof.Rows L2
/-! ### the head: facts by names -/
abbrev R : PySem.W.OpenRow := PySem.W.OpenLaw.row PySem.Challenge.rw_headamid_k14_whole_hues_right_by_depth
def names : List Str := (["_wall", "KinError", "BadWorld", "BadHues", "NotLine", "is_sequence", "is_whole", "is_hue", "check_hues", "stand_off", "first_clash", "hue_fault", "Clash", "Ladders", "unlike_wholes", "entry_fault", "elder_rows", "heir_rows", "World"] : List Str) ++
  (["_law_hand", "_law_mixed", "_law_take", "_law_bases", "_law_methods", "_law_shape", "_law_classes", "_law_elders", "_law_int", "_law_exact", "_law_kin", "_law_pair_among", "_law_clash", "_law_depths", "_law_depths_unlike", "_law_three_right", "_law_built"] : List Str)
def mkD (x : Str) (i : Nat) (dfl : List He.Dv := []) : He.DefD := ⟨(x, none), x, x, defArgs (top i), defBody (top i), defScope (top i), dfl, []⟩
def mkM (C m q : Str) (i j : Nat) : He.DefD := ⟨(C, some m), m, q, defArgs (ms i j), defBody (ms i j), defScope (ms i j), [], []⟩
def fn : List He.DefD := [mkD "is_sequence" 7, mkD "is_whole" 8 [.non, .non], mkD "is_hue" 10, mkD "check_hues" 11, mkD "stand_off" 12, mkD "first_clash" 13, mkD "hue_fault" 14, mkD "unlike_wholes" 18, mkD "entry_fault" 19, mkD "elder_rows" 20, mkD "heir_rows" 21,
  mkD "_law_hand" 24, mkD "_law_mixed" 25, mkD "_law_take" 26, mkD "_law_bases" 27, mkD "_law_shape" 29, mkD "_law_classes" 30, mkD "_law_elders" 31, mkD "_law_int" 32, mkD "_law_exact" 33, mkD "_law_kin" 34, mkD "_law_pair_among" 35, mkD "_law_clash" 36, mkD "_law_depths" 37,
  mkD "_law_depths_unlike" 38, mkD "_law_three_right" 39, mkD "_law_built" 40, mkD "law" 41,
  mkM "Clash" "__init__" "Clash.__init__" 15 0, mkM "Ladders" "__init__" "Ladders.__init__" 16 0, mkM "World" "__init__" "World.__init__" 22 0, mkM "World" "__eq__" "World.__eq__" 22 3, mkM "NotLine" "__init__" "NotLine.__init__" 5 0]
def fa : List He.Fa := [.glo "is_sequence", .glo "is_whole", .glo "is_hue", .glo "check_hues", .glo "stand_off", .glo "first_clash", .glo "hue_fault", .glo "unlike_wholes", .glo "entry_fault", .glo "elder_rows", .glo "heir_rows",
  .glo "_law_hand", .glo "_law_mixed", .glo "_law_take", .glo "_law_bases", .glo "_law_shape", .glo "_law_classes", .glo "_law_elders", .glo "_law_int", .glo "_law_exact", .glo "_law_kin", .glo "_law_pair_among", .glo "_law_clash", .glo "_law_depths",
  .glo "_law_depths_unlike", .glo "_law_three_right", .glo "_law_built", .glo "law",
  .glo "Clash", .glo "Ladders", .glo "World", .glo "NotLine",
  .cls "Clash", .cls "Ladders", .cls "World", .mkr "Clash", .mkr "Ladders", .mkr "World", .meth "World" "__eq__", .exm "NotLine" "NotLine" true,
  .noat "Clash" "cls", .noat "Clash" "first", .noat "Clash" "second", .noat "Ladders" "world", .noat "Ladders" "hues",
  .noat "World" "classes", .noat "World" "bases", .noat "World" "owns", .noat "World" "methods", .noat "World" "elders", .noat "World" "heirs",
  .noat "NotLine" "cls", .noat "NotLine" "first", .noat "NotLine" "second",
  .free "isinstance", .free "list", .free "tuple", .free "bool", .free "int", .free "str", .free "len", .free "range", .free "enumerate", .free "sorted", .free "set", .free "max", .free "min", .free "abs"]
/-! ### what else is read: the own error, an instance's class -/
def oexO (C : Addr) : Option Obj → Bool
  | some ⟨.type t, _, .cls ⟨_, _, .ref C' :: bm, _, _, hd, _, _, _, _, dl⟩, ⟨[_, _, _, _, some (.builtin b), _]⟩⟩ => decide (t = "type") && (decide (C' = C) && (hd && (!dl && (decide (b = "ValueError.__new__") && PySem.HandSPX.refsVE bm))))
  | _ => false
theorem oexO_ok {C : Addr} {o : Option Obj} (h : oexO C o = true) : ∃ nm q N bs bm sn sub ab col dd k0 k1 k2 k3 k5, o = some (excClassObj nm q C N bs bm true sn sub ab col dd k0 k1 k2 k3 k5 "ValueError.__new__") ∧ PySem.HandSPX.refsVE bm = true := by
  unfold oexO at h
  split at h
  · rename_i t dd nm bs C' bm N q hd sn sub ab col dl k0 k1 k2 k3 b k5
    obtain ⟨h1, h⟩ := He.ba h
    obtain ⟨h2, h⟩ := He.ba h
    obtain ⟨h3, h⟩ := He.ba h
    obtain ⟨h4, h⟩ := He.ba h
    obtain ⟨h5, h6⟩ := He.ba h
    have e1 := of_decide_eq_true h1
    have e2 := of_decide_eq_true h2
    have e5 := of_decide_eq_true h5
    have e4 : dl = false := by
      cases dl with
      | false => rfl
      | true => cases h4
    subst e1 e2 h3 e4 e5
    exact ⟨_, _, _, _, _, _, _, _, _, _, _, _, _, _, _, rfl, h6⟩
  · cases h
def exK (K : PySem.W.Frag) : Bool :=
  oexO (gC K "NotLine") (K.lookup (gC K "NotLine")) && (He.eqO (PySem.W.findIn K (.ref (gC K "NotLine")) "__setattr__") (some (some (.builtin "object.__setattr__"))) && (decide (PySem.W.subIn K (.ref (gC K "NotLine")) (.type "BaseException") = some true) &&
  (decide (PySem.W.typeIn K (.ref (gC K "NotLine")) = some (.type "type")) && (PySem.W.keepIn K (.ref (gC K "NotLine")) && (xfB K (gC K "NotLine") && (He.eqO (PySem.W.findIn K (.ref (gC K "NotLine")) "__init__") (some (some (.ref (gI K "NotLine")))) &&
  (decide (PySem.W.typeIn K (.ref (gI K "NotLine")) = some (.type "function")) && (He.eqO (PySem.W.findIn K (.ref (gC K "World")) "__class__") (some (some (.builtin "object.__class__"))) &&
  (He.eqO (PySem.W.specialIn K (.builtin "object.__class__") "__get__") (some (some (.builtin "getset_descriptor.__get__"))) && (decide (PySem.W.takesIn K (.builtin "object.__class__") = some true) && (decide (PySem.W.mroIn K (gC K "World") (.type "object") = some true) &&
  decide (PySem.W.kitOne K (.ref (gC K "World")) (.ref (gC K "World")) = some true))))))))))))
/-! ### the hook -/
def obsX (K : PySem.W.Frag) : Bool × He.AlD := (exK K, He.obsD fa fn K)
def Says (K : PySem.W.Frag) : Prop := exK K = true ∧ He.SaysD fa fn K
def hk : PySem.W.Hook where
  α := Bool × He.AlD
  obs := fun s => obsX (He.frG s.heap.get? (He.asD s.heap.get? 6))
  val := fun _ => (true, He.valD fn)
  says := fun _ h => ∃ K : PySem.W.Frag, K.In h ∧ Says K
  of := fun _ _ e => ⟨_, He.frG_in, congrArg (fun z : Bool × He.AlD => z.1) e, congrArg (fun z : Bool × He.AlD => z.2) e⟩
  keeps := fun _ _ _ ⟨K, hK, c⟩ k => ⟨K, PySem.W.Frag.In.keeps hK k, c⟩
def ob (s : PySem.W.SharedT) : Bool × He.AlD := obsX (He.frG (HandSHeadRun.getT s) (He.asD (HandSHeadRun.getT s) 6))
theorem ob_eq (s : PySem.W.SharedT) : ob s = hk.obs s.abs := by
  have e : HandSHeadRun.getT s = s.abs.heap.get? := funext (HandSHeadRun.getT_eq s)
  unfold ob
  rw [e]
  rfl
theorem run (w : World) : HandSHeadRun.RunEq R (PySem.W.view R.prog [41]) hk ob 6000 names w := by
  intro os
  kernel_rfl
end K14
namespace K14
open PySem PySem.Spec PyProof.Rows L2
theorem txt_of {K : PySem.W.Frag} {h : Heap} {mg : Str → Option Value} (X : K.In h) (G : h.Ns mainGlobals mg) (c : Says K) : Txt K mg := by
  obtain ⟨cx, c⟩ := c
  have ft : ∀ (i : Nat) {f : He.Fa}, fa[i]? = some f → f.ok K = true := fun i f h => c.fact i h
  have glo : ∀ (i : Nat) {x : Str}, fa[i]? = some (.glo x) → mg x = some (.ref (He.ga K x)) := fun i x h => He.glo_ok X G (c.fact i h)
  have fre : ∀ (i : Nat) {x : Str}, fa[i]? = some (.free x) → mg x = none := fun i x h => He.free_ok X G (c.fact i h)
  have dn : ∀ (i j n : Nat) (x : Str), fa[j]? = some (.glo x) → fn[i]? = some (mkD x n) → Dn K mg x n := fun i j n x h1 h2 => by
    obtain ⟨fd, F⟩ := c.def_ i (d := mkD x n) h2
    exact ⟨_, fd, F, glo j h1⟩
  obtain ⟨x1, cx⟩ := He.ba cx
  obtain ⟨x2, cx⟩ := He.ba cx
  obtain ⟨x3, cx⟩ := He.ba cx
  obtain ⟨x4, cx⟩ := He.ba cx
  obtain ⟨x5, cx⟩ := He.ba cx
  obtain ⟨x6, cx⟩ := He.ba cx
  obtain ⟨x7, cx⟩ := He.ba cx
  obtain ⟨x8, cx⟩ := He.ba cx
  obtain ⟨x9, cx⟩ := He.ba cx
  obtain ⟨x10, cx⟩ := He.ba cx
  obtain ⟨x11, cx⟩ := He.ba cx
  obtain ⟨x12, x13⟩ := He.ba cx
  have noatC : ∀ f ∈ (["cls", "first", "second"] : List Str), NoAttr K (gC K "Clash") f := by
    intro f hf
    rcases List.mem_cons.mp hf with rfl | hf
    · exact He.noat_ok (ft 40 rfl)
    · rcases List.mem_cons.mp hf with rfl | hf
      · exact He.noat_ok (ft 41 rfl)
      · rw [List.mem_singleton.mp hf]
        exact He.noat_ok (ft 42 rfl)
  have noatL : ∀ f ∈ (["world", "hues"] : List Str), NoAttr K (gC K "Ladders") f := by
    intro f hf
    rcases List.mem_cons.mp hf with rfl | hf
    · exact He.noat_ok (ft 43 rfl)
    · rw [List.mem_singleton.mp hf]
      exact He.noat_ok (ft 44 rfl)
  have noatW : ∀ f ∈ (["classes", "bases", "owns", "methods", "elders", "heirs"] : List Str), NoAttr K (gC K "World") f := by
    intro f hf
    rcases List.mem_cons.mp hf with rfl | hf
    · exact He.noat_ok (ft 45 rfl)
    · rcases List.mem_cons.mp hf with rfl | hf
      · exact He.noat_ok (ft 46 rfl)
      · rcases List.mem_cons.mp hf with rfl | hf
        · exact He.noat_ok (ft 47 rfl)
        · rcases List.mem_cons.mp hf with rfl | hf
          · exact He.noat_ok (ft 48 rfl)
          · rcases List.mem_cons.mp hf with rfl | hf
            · exact He.noat_ok (ft 49 rfl)
            · rw [List.mem_singleton.mp hf]
              exact He.noat_ok (ft 50 rfl)
  have noatN : ∀ f ∈ (["cls", "first", "second"] : List Str), PySem.W.findIn K (.ref (gC K "NotLine")) f = some none := by
    intro f hf
    rcases List.mem_cons.mp hf with rfl | hf
    · exact He.noat_ok (ft 51 rfl)
    · rcases List.mem_cons.mp hf with rfl | hf
      · exact He.noat_ok (ft 52 rfl)
      · rw [List.mem_singleton.mp hf]
        exact He.noat_ok (ft 53 rfl)
  have clW : Cls K (gC K "World") := He.cls_ok (ft 34 rfl)
  have mE := He.meth_ok (ft 38 rfl)
  exact {
    seq := dn 0 0 7 "is_sequence" rfl rfl
    whole := by
      obtain ⟨fd, F⟩ := c.def_ 1 (d := mkD "is_whole" 8 [.non, .non]) rfl
      exact ⟨_, fd, F, glo 1 rfl⟩
    hue_ := dn 2 2 10 "is_hue" rfl rfl
    chk := dn 3 3 11 "check_hues" rfl rfl
    off := dn 4 4 12 "stand_off" rfl rfl
    fst := dn 5 5 13 "first_clash" rfl rfl
    flt := dn 6 6 14 "hue_fault" rfl rfl
    unl := dn 7 7 18 "unlike_wholes" rfl rfl
    ent := dn 8 8 19 "entry_fault" rfl rfl
    eld := dn 9 9 20 "elder_rows" rfl rfl
    hei := dn 10 10 21 "heir_rows" rfl rfl
    lhand := dn 11 11 24 "_law_hand" rfl rfl
    lmix := dn 12 12 25 "_law_mixed" rfl rfl
    ltake := dn 13 13 26 "_law_take" rfl rfl
    lbases := dn 14 14 27 "_law_bases" rfl rfl
    lshape := dn 15 15 29 "_law_shape" rfl rfl
    lclasses := dn 16 16 30 "_law_classes" rfl rfl
    lelders := dn 17 17 31 "_law_elders" rfl rfl
    lint := dn 18 18 32 "_law_int" rfl rfl
    lexact := dn 19 19 33 "_law_exact" rfl rfl
    lkin := dn 20 20 34 "_law_kin" rfl rfl
    lpair := dn 21 21 35 "_law_pair_among" rfl rfl
    lclash := dn 22 22 36 "_law_clash" rfl rfl
    ldepths := dn 23 23 37 "_law_depths" rfl rfl
    lunlike := dn 24 24 38 "_law_depths_unlike" rfl rfl
    lthree := dn 25 25 39 "_law_three_right" rfl rfl
    lbuilt := dn 26 26 40 "_law_built" rfl rfl
    llaw := dn 27 27 41 "law" rfl rfl
    cClash := ⟨glo 28 rfl, He.cls_ok (ft 32 rfl), He.mkr_ok (ft 35 rfl), c.def_ 28 (d := mkM "Clash" "__init__" "Clash.__init__" 15 0) rfl, noatC⟩
    cLadd := ⟨glo 29 rfl, He.cls_ok (ft 33 rfl), He.mkr_ok (ft 36 rfl), c.def_ 29 (d := mkM "Ladders" "__init__" "Ladders.__init__" 16 0) rfl, noatL⟩
    cWorld := ⟨glo 30 rfl, clW, He.mkr_ok (ft 37 rfl), c.def_ 30 (d := mkM "World" "__init__" "World.__init__" 22 0) rfl, noatW⟩
    insW := ⟨clW, He.eqO_ok x9, He.eqO_ok x10, of_decide_eq_true x11, of_decide_eq_true x12, of_decide_eq_true x13⟩
    eqW := mE.1
    eqF := mE.2
    eqD := c.def_ 31 (d := mkM "World" "__eq__" "World.__eq__" 22 3) rfl
    line := ⟨glo 31 rfl, ⟨oexO_ok x1, He.eqO_ok x2, of_decide_eq_true x3, of_decide_eq_true x4, x5⟩, xfB_ok x6, He.eqO_ok x7, of_decide_eq_true x8, c.def_ 32 (d := mkM "NotLine" "__init__" "NotLine.__init__" 5 0) rfl, noatN, He.exm_ok (ft 39 rfl)⟩
    isi := fre 54 rfl
    list := fre 55 rfl
    tuple := fre 56 rfl
    bool := fre 57 rfl
    int := fre 58 rfl
    str := fre 59 rfl
    len := fre 60 rfl
    range := fre 61 rfl
    enumerate := fre 62 rfl
    sorted := fre 63 rfl
    set := fre 64 rfl
    max := fre 65 rfl
    min := fre 66 rfl
    abs := fre 67 rfl }
end K14
open PySem PySem.W PySem.Calls PyProof.Rows
theorem PySem.Challenge.cw_headamid_k14_whole_hues_right_by_depth_holds : PySem.Challenge.rw_headamid_k14_whole_hues_right_by_depth.Holds := by
  w_on; o_law
  refine HandSHeadRun.head_any (r := OpenLaw.row PySem.Challenge.rw_headamid_k14_whole_hues_right_by_depth) (q := view (OpenLaw.row PySem.Challenge.rw_headamid_k14_whole_hues_right_by_depth).prog [41]) (H := K14.hk) (ob := K14.ob) (M := 6000) (loose := K14.names) (d := HandSHeadRun.topDef (OpenLaw.row PySem.Challenge.rw_headamid_k14_whole_hues_right_by_depth).prog 41) (kwd := []) K14.ob_eq
    (by kernel_rfl) (fun s => by kernel_rfl) K14.run (by kernel_rfl) (by kernel_rfl) (by kernel_rfl) (by rfl) (by first | assumption | decide +kernel) (by decide +kernel) ⟨rfl, rfl, rfl, rfl, rfl, by decide +kernel⟩ ?hw ?hc
  case hw => w_witness2
  case hc =>
    refine L2.walk_ofE (l := PySem.Challenge.rw_headamid_k14_whole_hues_right_by_depth) (n := 63) (k := 8) (x := "_law_script") (CX := L2.CX0) rfl (by decide) (by kernel_rfl) ⟨rfl, by decide, by decide⟩ ?F (fun _ _ _ _ z => z)
    intro w mg fa h Y G hmg0
    obtain ⟨K, KX, c⟩ := Y
    have hmg : mg ("law" : PySem.Str) = some (.ref fa) := by
      have e : (HandSHeadRun.topDef (OpenLaw.row PySem.Challenge.rw_headamid_k14_whole_hues_right_by_depth).prog 41).name = ("law" : PySem.Str) := by kernel_rfl
      rw [← e]
      exact hmg0
    have T := K14.txt_of KX G c
    obtain ⟨f0, fd, F, hm0⟩ := T.llaw.ex
    have e := hmg.symm.trans hm0
    cases e
    have b := L2.FunD.bindsA (ps := ["_law_script"]) F fun _ _ _ _ _ _ us hl => match us, hl with | [_], _ => rfl
    refine ⟨K, fd, K14.spLaw K, KX, fun s v => b s [v] rfl, fun H a ns hl _ hS => ⟨a, ns, rfl, hS, Nat.le_trans hl (by decide), fun _ => rfl⟩, fun base _ _ => ?_⟩
    exact K14.ok_law T F
